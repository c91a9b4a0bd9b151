import PyProof.Rows.All
import Wide.All
import OpenK.AllK
import Wide.FinOn
import HandS.ForMost
import HandS.Flow
import HandS.Walk
import HandS.Style
import HandS.TupAny
import HandS.TupMul
import HandS.Conv
import HandS.IsInst
import HandS.Zip
import KE.GoesMore
import HandS.More
import HandS.SetFor
import KE.BitLaws
import HandS.TryOnly
import KE.KMathGC
import HandS.Wide
import HandS.Deep
import HandS.HeadHook3
import PyProof.FactsDict
import KE.DataMinMax
import HandS.WordsDict
import KE.SortCalls
import PyProof.EqAt
import PyProof.EqKinds
import PyProof.TupleCall
import HandS.Exc
import HandS.ExcInit
import HandS.ExcField
import HandS.ExcOwn
import HandS.Lambda
import HandS.WordsExc
import HandS.ExcIs
import HandS.TupLen
import HandS.StrMore
import HandS.Replace
import HandS.Codes
import PyProof.StrLawsLast
import PyProof.Rows.StrRev
import PyProof.ListStr
import HandS.Iter
import HandS.SetKeys
import HandS.DictTup
import PyProof.DictMoreH
import KE.KDictList
import HandS.Sort
import KE.KStrBytes
import KE.DatumOrd
import PySem.Challenge.RW_lotthrows_k44_whole_folded_words_and_row
set_option Elab.async false
set_option linter.all false
set_option maxRecDepth 100000
set_option maxHeartbeats 4000000
section P1
namespace Q
open PySem PySem.Spec PyProof.Rows L2
/-- a list within an own list, by its place in the heap -/
def alD (b : Addr) : PyData := .dict [(.none, .int (b : Nat))]
/-- a key as a datum -/
def keyD' : Key → PyData
  | .inl i => .int i
  | .inr x => .str x
def dkD (kvs : List (Key × PyData)) : PyData := .dict (kvs.map fun p => (keyD' p.1, p.2))
/-- a tuple of its own, or one of the module's tuples of texts -/
def SqP (K : PySem.W.Frag) (H : Hp) (a : Addr) (xs : List V) : Prop := H a = some (.tup xs) ∨ ((∃ (o : Obj) (its : Array Value) (n : Nat), K.lookup a = some o ∧ o.cls = .type "tuple" ∧ o.data = .seq its n ∧ its.size ≤ sizeLine ∧ Vals xs its.toList) ∧ xs ≠ [] ∧ ∀ x, x ∈ xs → ∃ z : Str, x = .str z)
mutual
inductive Fz (K : PySem.W.Frag) (H : Hp) : V → PyData → Prop
  | non : Fz K H .non .none
  | bl (b : Bool) : Fz K H (.bl b) (.bool b)
  | int (i : Int) : Fz K H (.int i) (.int i)
  | str (x : Str) : Fz K H (.str x) (.str x)
  | lst {a : Addr} {o : Obj} {xs : List V} {ds : List PyData} : H a = some (.frz o (.lst xs)) → FzAll K H xs ds → Fz K H (.ref a) (.list ds)
  | tup {a : Addr} {xs : List V} {ds : List PyData} : SqT K H a xs → FzAll K H xs ds → (p : SqP K H a xs := by first | exact .inl upd_same | assumption) → Fz K H (.ref a) (.tuple ds)
  | dt {a : Addr} {o : Obj} {ws : List (List Key × V)} {kvs : List (List Int × PyData)} {l : List (PyData × PyData)} : H a = some (.frz o (.dT ws)) → ws.map (·.1) = kvs.map (fun p => p.1.map Sum.inl) → FzAll K H (ws.map (·.2)) (kvs.map (·.2)) → l = (.bool true, .none) :: kvs.map (fun p => (.tuple (p.1.map .int), p.2)) → Fz K H (.ref a) (.dict l)
  | dk {a : Addr} {o : Obj} {ws : List (Key × V)} {kvs : List (Key × PyData)} {l : List (PyData × PyData)} : H a = some (.frz o (.dK ws)) → ws.map (·.1) = kvs.map (·.1) → FzAll K H (ws.map (·.2)) (kvs.map (·.2)) → l = kvs.map (fun p => (keyD' p.1, p.2)) → Fz K H (.ref a) (.dict l)
  | al (b : Addr) : Fz K H (.ref b) (.dict [(.none, .int (b : Nat))])
  | ex {a dd : Addr} {v : V} {x : PyData} : H dd = some (.xd [(("thing" : Str), v)]) → Fz K H v x → Fz K H (.ref a) (.dict [(.none, .list [.int (a : Nat), .int (dd : Nat), x])])
inductive FzAll (K : PySem.W.Frag) (H : Hp) : List V → List PyData → Prop
  | nil : FzAll K H [] []
  | cons {v : V} {d : PyData} {vs : List V} {ds : List PyData} : Fz K H v d → FzAll K H vs ds → FzAll K H (v :: vs) (d :: ds)
end
/-- what is frozen stays -/
structure Ex (H H' : Hp) : Prop where
  tup : ∀ a xs, H a = some (.tup xs) → H' a = some (.tup xs)
  frz : ∀ a o u, H a = some (.frz o u) → H' a = some (.frz o u)
  rng : ∀ a i j, H a = some (.rng i j) → H' a = some (.rng i j)
  xd : ∀ a fs, H a = some (.xd fs) → H' a = some (.xd fs)
theorem Ex.refl (H : Hp) : Ex H H := ⟨fun _ _ h => h, fun _ _ _ h => h, fun _ _ _ h => h, fun _ _ h => h⟩
theorem Ex.trans {H H1 H2 : Hp} (a : Ex H H1) (b : Ex H1 H2) : Ex H H2 := ⟨fun c xs h => b.tup c xs (a.tup c xs h), fun c o u h => b.frz c o u (a.frz c o u h), fun c i j h => b.rng c i j (a.rng c i j h), fun c fs h => b.xd c fs (a.xd c fs h)⟩
theorem Ex.sqT {K : PySem.W.Frag} {H H' : Hp} {a : Addr} {xs : List V} (e : Ex H H') (h : SqT K H a xs) : SqT K H' a xs := by
  rcases h with (h | ⟨o, h⟩) | h
  · exact .inl (.inl (e.tup _ _ h))
  · exact .inl (.inr ⟨o, e.frz _ _ _ h⟩)
  · exact .inr h
mutual
theorem Fz.mono {K : PySem.W.Frag} {H H' : Hp} (e : Ex H H') : ∀ {v : V} {d : PyData}, Fz K H v d → Fz K H' v d
  | _, _, .non => .non
  | _, _, .bl b => .bl b
  | _, _, .int b => .int b
  | _, _, .str b => .str b
  | _, _, .lst h t => .lst (e.frz _ _ _ h) (FzAll.mono e t)
  | _, _, .tup h t p => .tup (e.sqT h) (FzAll.mono e t) (p.imp (e.tup _ _) id)
  | _, _, .dt h h2 t h3 => .dt (e.frz _ _ _ h) h2 (FzAll.mono e t) h3
  | _, _, .dk h h2 t h3 => .dk (e.frz _ _ _ h) h2 (FzAll.mono e t) h3
  | _, _, .al b => .al b
  | _, _, .ex h t => .ex (e.xd _ _ h) (Fz.mono e t)
theorem FzAll.mono {K : PySem.W.Frag} {H H' : Hp} (e : Ex H H') : ∀ {v : List V} {d : List PyData}, FzAll K H v d → FzAll K H' v d
  | _, _, .nil => .nil
  | _, _, .cons a b => .cons (Fz.mono e a) (FzAll.mono e b)
end
mutual
theorem Fz.dp {K : PySem.W.Frag} {H : Hp} : ∀ {v : V} {d : PyData}, Fz K H v d → d.canLay0 = true → Dp K H v d
  | _, _, .non, _ => .non
  | _, _, .bl b, _ => .bl b
  | _, _, .int b, _ => .int b
  | _, _, .str b, _ => .str b
  | _, _, .lst h t, l => .lst (.inl (.inr ⟨_, h⟩)) (FzAll.dp t (by simpa [PyData.canLay0] using l))
  | _, _, .dt _ _ _ _, l => by simp [PyData.canLay0] at l
  | _, _, .tup h t _, l => .tup h (FzAll.dp t (by simpa [PyData.canLay0] using l))
  | _, _, .dk _ _ _ _, l => by simp [PyData.canLay0] at l
  | _, _, .al b, l => by simp [PyData.canLay0] at l
  | _, _, .ex h t, l => by simp [PyData.canLay0] at l
theorem FzAll.dp {K : PySem.W.Frag} {H : Hp} : ∀ {v : List V} {d : List PyData}, FzAll K H v d → PyData.canLayAll0 d = true → DpAll K H v d
  | _, _, .nil, _ => .nil
  | _, _, .cons a b, l => .cons (Fz.dp a (by simp only [PyData.canLayAll0, Bool.and_eq_true] at l; exact l.1)) (FzAll.dp b (by simp only [PyData.canLayAll0, Bool.and_eq_true] at l; exact l.2))
end
theorem dk_no {y : PyData} : ∀ {kvs : List (Key × PyData)}, [(PyData.none, y)] = kvs.map (fun p => (keyD' p.1, p.2)) → False
  | [], h => by cases h
  | (.inl _, _) :: _, h => by
    rw [List.map_cons] at h
    injection h with h _
    injection h with h _
    cases h
  | (.inr _, _) :: _, h => by
    rw [List.map_cons] at h
    injection h with h _
    injection h with h _
    cases h
section
variable {K : PySem.W.Frag} {H : Hp}
theorem FzAll.length : ∀ {vs : List V} {ds : List PyData}, FzAll K H vs ds → vs.length = ds.length
  | _, _, .nil => rfl
  | _, _, .cons _ t => by rw [List.length_cons, List.length_cons, FzAll.length t]
theorem FzAll.at : ∀ {vs : List V} {ds : List PyData} {i : Nat} {d : PyData}, FzAll K H vs ds → ds[i]? = some d → ∃ v, vs[i]? = some v ∧ Fz K H v d
  | _, _, _, _, .nil, e => by simp at e
  | _, _, 0, _, .cons r _, e => by simp at e; subst e; exact ⟨_, rfl, r⟩
  | _, _, i + 1, _, .cons _ t, e => by
    obtain ⟨u, h1, h2⟩ := FzAll.at (i := i) t (by simpa using e)
    exact ⟨u, by simpa using h1, h2⟩
theorem FzAll.get : ∀ {vs : List V} {ds : List PyData} {i : Nat} {v : V}, FzAll K H vs ds → vs[i]? = some v → ∃ d, ds[i]? = some d ∧ Fz K H v d
  | _, _, _, _, .nil, e => by simp at e
  | _, _, 0, _, .cons r _, e => by simp at e; subst e; exact ⟨_, rfl, r⟩
  | _, _, i + 1, _, .cons _ t, e => by
    obtain ⟨u, h1, h2⟩ := FzAll.get (i := i) t (by simpa using e)
    exact ⟨u, by simpa using h1, h2⟩
theorem FzAll.append : ∀ {vs ws : List V} {ds es : List PyData}, FzAll K H vs ds → FzAll K H ws es → FzAll K H (vs ++ ws) (ds ++ es)
  | _, _, _, _, .nil, s => s
  | _, _, _, _, .cons r t, s => .cons r (FzAll.append t s)
theorem FzAll.one {v : V} {d : PyData} (h : Fz K H v d) : FzAll K H [v] [d] := .cons h .nil
theorem FzAll.take : ∀ {vs : List V} {ds : List PyData} (n : Nat), FzAll K H vs ds → FzAll K H (vs.take n) (ds.take n)
  | _, _, 0, _ => .nil
  | _, _, _ + 1, .nil => .nil
  | _, _, n + 1, .cons r t => .cons r (FzAll.take n t)
theorem FzAll.drop : ∀ {vs : List V} {ds : List PyData} (n : Nat), FzAll K H vs ds → FzAll K H (vs.drop n) (ds.drop n)
  | _, _, 0, t => t
  | _, _, _ + 1, .nil => .nil
  | _, _, n + 1, .cons _ t => FzAll.drop n t
theorem FzAll.set {v : V} {d : PyData} (h : Fz K H v d) : ∀ {vs : List V} {ds : List PyData} (n : Nat), FzAll K H vs ds → FzAll K H (vs.set n v) (ds.set n d)
  | _, _, _, .nil => .nil
  | _, _, 0, .cons _ t => .cons h t
  | _, _, n + 1, .cons r t => .cons r (FzAll.set h n t)
theorem FzAll.reverse {vs : List V} {ds : List PyData} (h : FzAll K H vs ds) : FzAll K H vs.reverse ds.reverse := by
  induction vs generalizing ds with
  | nil => cases h; exact .nil
  | cons v vs ih =>
    cases h with
    | cons a b => rw [List.reverse_cons, List.reverse_cons]; exact (ih b).append (.one a)
theorem FzAll.rep {vs : List V} {ds : List PyData} (h : FzAll K H vs ds) : ∀ k : Nat, FzAll K H (List.replicate k vs).flatten (List.replicate k ds).flatten
  | 0 => .nil
  | k + 1 => by rw [List.replicate_succ, List.replicate_succ, List.flatten_cons, List.flatten_cons]; exact h.append (FzAll.rep h k)
/-- a list of ints -/
theorem FzAll.ints : ∀ {vs : List V} {ns : List Int}, FzAll K H vs (ns.map .int) → vs = ns.map .int
  | vs, [], h => by cases h; rfl
  | vs, n :: ns, h => by
    cases h with
    | cons a b => cases a; rw [FzAll.ints b]; rfl
theorem FzAll.bls : ∀ {vs : List V} {ns : List Bool}, FzAll K H vs (ns.map .bool) → vs = ns.map .bl
  | vs, [], h => by cases h; rfl
  | vs, n :: ns, h => by
    cases h with
    | cons a b => cases a; rw [FzAll.bls b]; rfl
end
inductive Sl where
  | un
  | d (x : PyData)
  | own (xs : List PyData)
  | owd (kvs : List (Key × PyData))
  | dk
  | rg (lo hi : Int)
  | own2 (bs : List Addr) (xss : List (List PyData))
  | odt (kvs : List (List Int × PyData))
  | odl (ks : List (List Int)) (bs : List Addr) (xss : List (List PyData))
  | odk (ks : List Key) (bs : List Addr) (xss : List (List PyData))
def Sl.isOwn : Sl → Bool
  | .own _ => true
  | .owd _ => true
  | .own2 _ _ => true
  | .odt _ => true
  | .odl _ _ _ => true
  | .odk _ _ _ => true
  | _ => false
/-- the lists within an own list -/
def Sl.inn : Sl → List Addr
  | .own2 bs _ => bs
  | .odl _ bs _ => bs
  | .odk _ bs _ => bs
  | _ => []
inductive FzKV (K : PySem.W.Frag) (H : Hp) : List (Key × V) → List (Key × PyData) → Prop
  | nil : FzKV K H [] []
  | cons {k : Key} {v : V} {d : PyData} {vs : List (Key × V)} {ds : List (Key × PyData)} : Fz K H v d → FzKV K H vs ds → FzKV K H ((k, v) :: vs) ((k, d) :: ds)
theorem FzKV.mono {K : PySem.W.Frag} {H H' : Hp} (e : Ex H H') : ∀ {v : List (Key × V)} {d : List (Key × PyData)}, FzKV K H v d → FzKV K H' v d
  | _, _, .nil => .nil
  | _, _, .cons a b => .cons (Fz.mono e a) (FzKV.mono e b)

/-- a dict with tuples of ints as keys -/
def FzKT (K : PySem.W.Frag) (H : Hp) (ws : List (List Key × V)) (kvs : List (List Int × PyData)) : Prop := ws.map (·.1) = kvs.map (fun p => p.1.map Sum.inl) ∧ FzAll K H (ws.map (·.2)) (kvs.map (·.2))
theorem FzKT.mono {K : PySem.W.Frag} {H H' : Hp} (e : Ex H H') {ws : List (List Key × V)} {kvs : List (List Int × PyData)} (h : FzKT K H ws kvs) : FzKT K H' ws kvs := ⟨h.1, h.2.mono e⟩
/-- the deck of draws at d, its cells at c -/
def DkOk (H : Hp) (d c : Addr) : Prop := d ≠ c ∧ ∃ (cells : List Int) (m n : Int),
  H d = some (.dK [(.inr "cells", .ref c), (.inr "mixed", .int m), (.inr "turn", .int n)]) ∧ H c = some (.lst (cells.map .int)) ∧ cells.length ≤ 63

abbrev Dk := Addr × Addr
/-- the lists within an own list -/
inductive Inn (K : PySem.W.Frag) (H0 H : Hp) : List Addr → List (List PyData) → Prop
  | nil : Inn K H0 H [] []
  | cons {b : Addr} {vs : List V} {xs : List PyData} {bs : List Addr} {xss : List (List PyData)} : H b = some (.lst vs) → FzAll K H vs xs → H0 b = none → Inn K H0 H bs xss → Inn K H0 H (b :: bs) (xs :: xss)
section
variable {K : PySem.W.Frag} {H0 H H' H1 : Hp}
theorem Inn.length : ∀ {bs : List Addr} {xss : List (List PyData)}, Inn K H0 H bs xss → bs.length = xss.length
  | _, _, .nil => rfl
  | _, _, .cons _ _ _ t => by rw [List.length_cons, List.length_cons, t.length]
theorem Inn.mono (ex : Ex H H') : ∀ {bs : List Addr} {xss : List (List PyData)}, Inn K H0 H bs xss → (∀ b, b ∈ bs → ∀ o, H b = some o → H' b = some o) → (∀ b, b ∈ bs → H0 b = none → H1 b = none) → Inn K H1 H' bs xss
  | _, _, .nil, _, _ => .nil
  | _, _, .cons h f n t, k, z => .cons (k _ (by simp) _ h) (f.mono ex) (z _ (by simp) n) (t.mono ex (fun b hb => k b (by simp [hb])) fun b hb => z b (by simp [hb]))
theorem Inn.at : ∀ {bs : List Addr} {xss : List (List PyData)} {j : Nat} {b : Addr}, Inn K H0 H bs xss → bs[j]? = some b → ∃ vs, H b = some (.lst vs) ∧ FzAll K H vs (xss.getD j []) ∧ H0 b = none
  | _, _, _, _, .nil, e => by simp at e
  | _, _, 0, _, .cons h f n t, e => by simp at e; subst e; exact ⟨_, h, f, n⟩
  | _, _, j + 1, _, .cons h f n t, e => by
    rw [List.getD_cons_succ]
    exact t.at (by simpa using e)
theorem Inn.mem {bs : List Addr} {xss : List (List PyData)} {b : Addr} (h : Inn K H0 H bs xss) (hb : b ∈ bs) : ∃ vs, H b = some (.lst vs) ∧ H0 b = none := by
  obtain ⟨t, ht⟩ := List.mem_iff_getElem?.mp hb
  obtain ⟨vs, g1, _, g3⟩ := h.at ht
  exact ⟨vs, g1, g3⟩
theorem Inn.append : ∀ {bs cs : List Addr} {xss yss : List (List PyData)}, Inn K H0 H bs xss → Inn K H0 H cs yss → Inn K H0 H (bs ++ cs) (xss ++ yss)
  | _, _, _, _, .nil, s => s
  | _, _, _, _, .cons h f n t, s => .cons h f n (t.append s)
theorem Inn.take : ∀ {bs : List Addr} {xss : List (List PyData)} (n : Nat), Inn K H0 H bs xss → Inn K H0 H (bs.take n) (xss.take n)
  | _, _, 0, _ => .nil
  | _, _, _ + 1, .nil => .nil
  | _, _, n + 1, .cons h f m t => .cons h f m (t.take n)
theorem Inn.drop : ∀ {bs : List Addr} {xss : List (List PyData)} (n : Nat), Inn K H0 H bs xss → Inn K H0 H (bs.drop n) (xss.drop n)
  | _, _, 0, t => t
  | _, _, _ + 1, .nil => .nil
  | _, _, n + 1, .cons _ _ _ t => t.drop n
/-- one of them is changed -/
theorem Inn.setAt {vs' : List V} {xs' : List PyData} {b : Addr} (ex : Ex H (upd H b (.lst vs'))) (fz : FzAll K (upd H b (.lst vs')) vs' xs') (n0 : H0 b = none) : ∀ {bs : List Addr} {xss : List (List PyData)} {j : Nat}, Inn K H0 H bs xss → bs.Nodup → bs[j]? = some b → Inn K H0 (upd H b (.lst vs')) bs (xss.set j xs')
  | _, _, _, .nil, _, e => by simp at e
  | c :: bs, _, 0, .cons h f n t, nd, e => by
    have e : c = b := by simpa using e
    subst e
    rw [List.nodup_cons] at nd
    rw [List.set_cons_zero]
    refine .cons upd_same fz n0 (t.mono ex (fun d hd o ho => ?_) fun _ _ z => z)
    have ne : d ≠ c := fun z => nd.1 (by rw [← z]; exact hd)
    rw [upd_ne ne]
    exact ho
  | c :: bs, _, j + 1, .cons h f n t, nd, e => by
    rw [List.nodup_cons] at nd
    have e : bs[j]? = some b := by simpa using e
    rw [List.set_cons_succ]
    refine .cons ?_ (f.mono ex) n (t.setAt ex fz n0 nd.2 e)
    have ne : c ≠ b := fun z => nd.1 (by rw [z]; exact List.mem_of_getElem? e)
    rw [upd_ne ne]
    exact h
end
def odlW (ks : List (List Int)) (bs : List Addr) : List (List Key × V) := (ks.zip bs).map fun p => (p.1.map Sum.inl, V.ref p.2)
def odkW (ks : List Key) (bs : List Addr) : List (Key × V) := (ks.zip bs).map fun p => (p.1, V.ref p.2)
def SlOk (K : PySem.W.Frag) (dk : Dk) (H0 H : Hp) (sv : Option (Option V)) : Sl → Prop
  | .un => True
  | .d x => ∃ v, sv = some (some v) ∧ Fz K H v x
  | .own xs => ∃ a vs, sv = some (some (.ref a)) ∧ H a = some (.lst vs) ∧ FzAll K H vs xs ∧ H0 a = none
  | .owd kvs => ∃ a ws, sv = some (some (.ref a)) ∧ H a = some (.dK ws) ∧ FzKV K H ws kvs ∧ H0 a = none
  | .dk => sv = some (some (.ref dk.1))
  | .rg lo hi => ∃ a, sv = some (some (.ref a)) ∧ H a = some (.rng lo hi)
  | .own2 bs xss => ∃ a, sv = some (some (.ref a)) ∧ H a = some (.lst (bs.map V.ref)) ∧ H0 a = none ∧ a ∉ bs ∧ bs.Nodup ∧ Inn K H0 H bs xss
  | .odt kvs => ∃ a ws, sv = some (some (.ref a)) ∧ H a = some (.dT ws) ∧ FzKT K H ws kvs ∧ H0 a = none
  | .odl ks bs xss => ∃ a, sv = some (some (.ref a)) ∧ H a = some (.dT (odlW ks bs)) ∧ H0 a = none ∧ a ∉ bs ∧ bs.Nodup ∧ Inn K H0 H bs xss ∧ ks.length = bs.length
  | .odk ks bs xss => ∃ a, sv = some (some (.ref a)) ∧ H a = some (.dK (odkW ks bs)) ∧ H0 a = none ∧ a ∉ bs ∧ bs.Nodup ∧ Inn K H0 H bs xss ∧ ks.length = bs.length
abbrev En := List Sl
def OwnAt (ρ : En) (σ : L2.St) (i : Nat) (a : Addr) : Prop := ∃ s, ρ[i]? = some s ∧ s.isOwn = true ∧ (σ[i]? = some (some (.ref a)) ∨ a ∈ s.inn)
structure Rel (K : PySem.W.Frag) (dk : Dk) (H0 : Hp) (ρ : En) (σ : L2.St) (H : Hp) : Prop where
  len : ρ.length = σ.length
  sl : ∀ (i : Nat) (s : Sl), ρ[i]? = some s → SlOk K dk H0 H σ[i]? s
  ap : ∀ (i j : Nat) (a : Addr), OwnAt ρ σ i a → OwnAt ρ σ j a → i = j
  dok : DkOk H dk.1 dk.2
  dk1 : H0 dk.1 ≠ none
  dk2 : H0 dk.2 ≠ none
  keep : ∀ a o, H0 a = some o → a ≠ dk.1 → a ≠ dk.2 → H a = some o
/-- what a call may do: all but the deck stays -/
structure Step (dk : Dk) (H H' : Hp) : Prop where
  keep : ∀ a o, H a = some o → a ≠ dk.1 → a ≠ dk.2 → H' a = some o
  dok : DkOk H' dk.1 dk.2
section
variable {K : PySem.W.Frag} {dk : Dk} {H0 H H' : Hp} {ρ : En} {σ : L2.St}
theorem DkOk.same (h : DkOk H dk.1 dk.2) (s : Same H H') : DkOk H' dk.1 dk.2 := by
  obtain ⟨n, cs, m, k, h1, h2, h3⟩ := h
  exact ⟨n, cs, m, k, s _ _ h1, s _ _ h2, h3⟩
theorem Step.ex (h : DkOk H dk.1 dk.2) (s : Step dk H H') : Ex H H' := by
  obtain ⟨n, cs, m, k, h1, h2, h3⟩ := h
  refine ⟨fun a xs e => s.keep a _ e ?_ ?_, fun a o u e => s.keep a _ e ?_ ?_, fun a i j e => s.keep a _ e ?_ ?_, fun a fs e => s.keep a _ e ?_ ?_⟩
  · rintro rfl; rw [h1] at e; cases e
  · rintro rfl; rw [h2] at e; cases e
  · rintro rfl; rw [h1] at e; cases e
  · rintro rfl; rw [h2] at e; cases e
  · rintro rfl; rw [h1] at e; cases e
  · rintro rfl; rw [h2] at e; cases e
  · rintro rfl; rw [h1] at e; cases e
  · rintro rfl; rw [h2] at e; cases e
theorem Step.of_same (h : DkOk H dk.1 dk.2) (s : Same H H') : Step dk H H' := ⟨fun a o e _ _ => s a o e, h.same s⟩
theorem same_upd {p : Addr} {o : HO} (n : H p = none) : Same H (upd H p o) := fun b u e => by rw [upd_ne (ne_of_none e n)]; exact e
theorem ex_same (s : Same H H') : Ex H H' := ⟨fun a xs e => s _ _ e, fun a o u e => s _ _ e, fun a i j e => s _ _ e, fun a fs e => s _ _ e⟩
theorem Rel.step (r : Rel K dk H0 ρ σ H) (s : Step dk H H') : Rel K dk H0 ρ σ H' := by
  have ex := s.ex r.dok
  refine ⟨r.len, fun i t e => ?_, r.ap, s.dok, r.dk1, r.dk2, fun a o e h1 h2 => s.keep a o (r.keep a o e h1 h2) h1 h2⟩
  have q := r.sl i t e
  cases t with
  | un => exact True.intro
  | d x => obtain ⟨v, h1, h2⟩ := q; exact ⟨v, h1, h2.mono ex⟩
  | own xs =>
    obtain ⟨a, vs, h1, h2, h3, h4⟩ := q
    exact ⟨a, vs, h1, s.keep _ _ h2 (fun z => r.dk1 (by rw [← z]; exact h4)) (fun z => r.dk2 (by rw [← z]; exact h4)), h3.mono ex, h4⟩
  | owd kvs =>
    obtain ⟨a, vs, h1, h2, h3, h4⟩ := q
    exact ⟨a, vs, h1, s.keep _ _ h2 (fun z => r.dk1 (by rw [← z]; exact h4)) (fun z => r.dk2 (by rw [← z]; exact h4)), h3.mono ex, h4⟩
  | odt kvs =>
    obtain ⟨a, vs, h1, h2, h3, h4⟩ := q
    exact ⟨a, vs, h1, s.keep _ _ h2 (fun z => r.dk1 (by rw [← z]; exact h4)) (fun z => r.dk2 (by rw [← z]; exact h4)), h3.mono ex, h4⟩
  | dk => exact q
  | rg lo hi => obtain ⟨a, h1, h2⟩ := q; exact ⟨a, h1, ex.rng _ _ _ h2⟩
  | own2 bs xss =>
    obtain ⟨a, h1, h2, h3, h4, h5, h6⟩ := q
    have kp : ∀ {b o}, H b = some o → H0 b = none → H' b = some o := fun {b o} e n => s.keep _ _ e (fun z => r.dk1 (by rw [← z]; exact n)) (fun z => r.dk2 (by rw [← z]; exact n))
    exact ⟨a, h1, kp h2 h3, h3, h4, h5, h6.mono ex (fun b hb o ho => by obtain ⟨_, _, g⟩ := h6.mem hb; exact kp ho g) fun _ _ z => z⟩
  | odl ks bs xss =>
    obtain ⟨a, h1, h2, h3, h4, h5, h6, h7⟩ := q
    have kp : ∀ {b o}, H b = some o → H0 b = none → H' b = some o := fun {b o} e n => s.keep _ _ e (fun z => r.dk1 (by rw [← z]; exact n)) (fun z => r.dk2 (by rw [← z]; exact n))
    exact ⟨a, h1, kp h2 h3, h3, h4, h5, h6.mono ex (fun b hb o ho => by obtain ⟨_, _, g⟩ := h6.mem hb; exact kp ho g) (fun _ _ z => z), h7⟩
  | odk ks bs xss =>
    obtain ⟨a, h1, h2, h3, h4, h5, h6, h7⟩ := q
    have kp : ∀ {b o}, H b = some o → H0 b = none → H' b = some o := fun {b o} e n => s.keep _ _ e (fun z => r.dk1 (by rw [← z]; exact n)) (fun z => r.dk2 (by rw [← z]; exact n))
    exact ⟨a, h1, kp h2 h3, h3, h4, h5, h6.mono ex (fun b hb o ho => by obtain ⟨_, _, g⟩ := h6.mem hb; exact kp ho g) (fun _ _ z => z), h7⟩
theorem Rel.same (r : Rel K dk H0 ρ σ H) (s : Same H H') : Rel K dk H0 ρ σ H' := r.step (.of_same r.dok s)
/-- a new object is no one's -/
theorem Rel.fresh0 (r : Rel K dk H0 ρ σ H) {p : Addr} (n : H p = none) : H0 p = none := by
  cases q : H0 p with
  | none => rfl
  | some o =>
    exfalso
    obtain ⟨ne, cs, m, k, h1, h2, h3⟩ := r.dok
    by_cases e1 : p = dk.1
    · rw [e1, h1] at n; cases n
    · by_cases e2 : p = dk.2
      · rw [e2, h2] at n; cases n
      · rw [r.keep p o q e1 e2] at n; cases n
theorem Rel.freshOwn (r : Rel K dk H0 ρ σ H) {p : Addr} (n : H p = none) : ∀ j, ¬ OwnAt ρ σ j p := by
  rintro j ⟨s, h1, h2, h3⟩
  have q := r.sl j s h1
  cases s with
  | own xs =>
    obtain ⟨a, vs, e1, e2, _⟩ := q
    rcases h3 with h3 | h3
    · rw [h3] at e1; cases e1; rw [n] at e2; cases e2
    · simp [Sl.inn] at h3
  | owd xs =>
    obtain ⟨a, vs, e1, e2, _⟩ := q
    rcases h3 with h3 | h3
    · rw [h3] at e1; cases e1; rw [n] at e2; cases e2
    · simp [Sl.inn] at h3
  | odt xs =>
    obtain ⟨a, vs, e1, e2, _⟩ := q
    rcases h3 with h3 | h3
    · rw [h3] at e1; cases e1; rw [n] at e2; cases e2
    · simp [Sl.inn] at h3
  | own2 bs xss =>
    obtain ⟨a, e1, e2, _, _, _, e7⟩ := q
    rcases h3 with h3 | h3
    · rw [h3] at e1; cases e1; rw [n] at e2; cases e2
    · obtain ⟨vs, g1, _⟩ := e7.mem (show p ∈ bs from h3)
      rw [n] at g1; cases g1
  | odl ks bs xss =>
    obtain ⟨a, e1, e2, _, _, _, e7, _⟩ := q
    rcases h3 with h3 | h3
    · rw [h3] at e1; cases e1; rw [n] at e2; cases e2
    · obtain ⟨vs, g1, _⟩ := e7.mem (show p ∈ bs from h3)
      rw [n] at g1; cases g1
  | odk ks bs xss =>
    obtain ⟨a, e1, e2, _, _, _, e7, _⟩ := q
    rcases h3 with h3 | h3
    · rw [h3] at e1; cases e1; rw [n] at e2; cases e2
    · obtain ⟨vs, g1, _⟩ := e7.mem (show p ∈ bs from h3)
      rw [n] at g1; cases g1
  | _ => cases h2
theorem SlOk.ex {s : Sl} {sv : Option (Option V)} (ex : Ex H H') (h : SlOk K dk H0 H sv s) (k : ∀ a o, s.isOwn = true → (sv = some (some (.ref a)) ∨ a ∈ s.inn) → H a = some o → H' a = some o) : SlOk K dk H0 H' sv s := by
  cases s with
  | un => exact True.intro
  | d x => obtain ⟨v, h1, h2⟩ := h; exact ⟨v, h1, h2.mono ex⟩
  | own xs => obtain ⟨a, vs, h1, h2, h3, h4⟩ := h; exact ⟨a, vs, h1, k a _ rfl (.inl h1) h2, h3.mono ex, h4⟩
  | owd xs => obtain ⟨a, vs, h1, h2, h3, h4⟩ := h; exact ⟨a, vs, h1, k a _ rfl (.inl h1) h2, h3.mono ex, h4⟩
  | odt xs => obtain ⟨a, vs, h1, h2, h3, h4⟩ := h; exact ⟨a, vs, h1, k a _ rfl (.inl h1) h2, h3.mono ex, h4⟩
  | dk => exact h
  | rg lo hi => obtain ⟨a, h1, h2⟩ := h; exact ⟨a, h1, ex.rng _ _ _ h2⟩
  | own2 bs xss =>
    obtain ⟨a, h1, h2, h3, h4, h5, h6⟩ := h
    exact ⟨a, h1, k a _ rfl (.inl h1) h2, h3, h4, h5, h6.mono ex (fun b hb o ho => k b o rfl (.inr hb) ho) fun _ _ z => z⟩
  | odl ks bs xss =>
    obtain ⟨a, h1, h2, h3, h4, h5, h6, h7⟩ := h
    exact ⟨a, h1, k a _ rfl (.inl h1) h2, h3, h4, h5, h6.mono ex (fun b hb o ho => k b o rfl (.inr hb) ho) (fun _ _ z => z), h7⟩
  | odk ks bs xss =>
    obtain ⟨a, h1, h2, h3, h4, h5, h6, h7⟩ := h
    exact ⟨a, h1, k a _ rfl (.inl h1) h2, h3, h4, h5, h6.mono ex (fun b hb o ho => k b o rfl (.inr hb) ho) (fun _ _ z => z), h7⟩
theorem ex_own {a : Addr} {o u : HO} (h : H a = some u) (hu : (∃ vs, u = .lst vs) ∨ (∃ vs, u = .dK vs) ∨ ∃ vs, u = .dT vs) : Ex H (upd H a o) := by
  refine ⟨fun b xs e => ?_, fun b ob x e => ?_, fun b i j e => ?_, fun b fs e => ?_⟩
  · rw [upd_ne]; exact e
    rintro rfl; rw [h] at e
    rcases hu with ⟨vs, rfl⟩ | ⟨vs, rfl⟩ | ⟨vs, rfl⟩ <;> cases e
  · rw [upd_ne]; exact e
    rintro rfl; rw [h] at e
    rcases hu with ⟨vs, rfl⟩ | ⟨vs, rfl⟩ | ⟨vs, rfl⟩ <;> cases e
  · rw [upd_ne]; exact e
    rintro rfl; rw [h] at e
    rcases hu with ⟨vs, rfl⟩ | ⟨vs, rfl⟩ | ⟨vs, rfl⟩ <;> cases e
  · rw [upd_ne]; exact e
    rintro rfl; rw [h] at e
    rcases hu with ⟨vs, rfl⟩ | ⟨vs, rfl⟩ | ⟨vs, rfl⟩ <;> cases e
/-- what is owned is a list or a dict, new since the entry -/
theorem Rel.ownIs (r : Rel K dk H0 ρ σ H) {i : Nat} {a : Addr} (ow : OwnAt ρ σ i a) : (∃ u, H a = some u ∧ ((∃ vs, u = .lst vs) ∨ (∃ vs, u = .dK vs) ∨ ∃ vs, u = .dT vs)) ∧ H0 a = none := by
  obtain ⟨s, h1, h2, h3⟩ := ow
  have q := r.sl i s h1
  cases s with
  | own xs =>
    obtain ⟨b, vs, e1, e2, e3, e4⟩ := q
    rcases h3 with h3 | h3
    · rw [h3] at e1; cases e1; exact ⟨⟨_, e2, .inl ⟨_, rfl⟩⟩, e4⟩
    · simp [Sl.inn] at h3
  | owd xs =>
    obtain ⟨b, vs, e1, e2, e3, e4⟩ := q
    rcases h3 with h3 | h3
    · rw [h3] at e1; cases e1; exact ⟨⟨_, e2, .inr (.inl ⟨_, rfl⟩)⟩, e4⟩
    · simp [Sl.inn] at h3
  | odt xs =>
    obtain ⟨b, vs, e1, e2, e3, e4⟩ := q
    rcases h3 with h3 | h3
    · rw [h3] at e1; cases e1; exact ⟨⟨_, e2, .inr (.inr ⟨_, rfl⟩)⟩, e4⟩
    · simp [Sl.inn] at h3
  | own2 bs xss =>
    obtain ⟨b, e1, e2, e3, _, _, e7⟩ := q
    rcases h3 with h3 | h3
    · rw [h3] at e1; cases e1; exact ⟨⟨_, e2, .inl ⟨_, rfl⟩⟩, e3⟩
    · obtain ⟨vs, g1, g3⟩ := e7.mem (show a ∈ bs from h3)
      exact ⟨⟨_, g1, .inl ⟨_, rfl⟩⟩, g3⟩
  | odl ks bs xss =>
    obtain ⟨b, e1, e2, e3, _, _, e7, _⟩ := q
    rcases h3 with h3 | h3
    · rw [h3] at e1; cases e1; exact ⟨⟨_, e2, .inr (.inr ⟨_, rfl⟩)⟩, e3⟩
    · obtain ⟨vs, g1, g3⟩ := e7.mem (show a ∈ bs from h3)
      exact ⟨⟨_, g1, .inl ⟨_, rfl⟩⟩, g3⟩
  | odk ks bs xss =>
    obtain ⟨b, e1, e2, e3, _, _, e7, _⟩ := q
    rcases h3 with h3 | h3
    · rw [h3] at e1; cases e1; exact ⟨⟨_, e2, .inr (.inl ⟨_, rfl⟩)⟩, e3⟩
    · obtain ⟨vs, g1, g3⟩ := e7.mem (show a ∈ bs from h3)
      exact ⟨⟨_, g1, .inl ⟨_, rfl⟩⟩, g3⟩
  | _ => cases h2
/-- the owned thing of slot i is changed in place -/
theorem Rel.put' (r : Rel K dk H0 ρ σ H) {i : Nat} {a : Addr} (ow : OwnAt ρ σ i a) (o : HO) (s' : Sl) (sub : ∀ b, s'.isOwn = true → (σ[i]? = some (some (.ref b)) ∨ b ∈ s'.inn) → OwnAt ρ σ i b ∨ ∀ l, ¬ OwnAt ρ σ l b) (ok : Ex H (upd H a o) → SlOk K dk H0 (upd H a o) σ[i]? s') :
    Rel K dk H0 (ρ.set i s') σ (upd H a o) ∧ Ex H (upd H a o) := by
  obtain ⟨⟨u, hu, hc⟩, h0⟩ := r.ownIs ow
  obtain ⟨s, h1, h2, h3⟩ := id ow
  have ex : Ex H (upd H a o) := ex_own hu hc
  have il : i < ρ.length := (List.getElem?_eq_some_iff.mp h1).1
  refine ⟨⟨by rw [List.length_set]; exact r.len, fun j t e => ?_, fun j k b h4 h5 => ?_, ?_, r.dk1, r.dk2, fun b ob e n1 n2 => ?_⟩, ex⟩
  · by_cases hj : i = j
    · subst hj
      rw [List.getElem?_set_self il] at e
      cases e
      exact ok ex
    · rw [List.getElem?_set_ne hj] at e
      refine (r.sl j t e).ex ex fun b ob w1 w2 w3 => ?_
      rw [upd_ne]; exact w3
      rintro rfl
      exact hj (r.ap i j _ ow ⟨t, e, w1, w2⟩)
  · have back : ∀ {j b}, OwnAt (ρ.set i s') σ j b → OwnAt ρ σ j b ∨ (j = i ∧ ∀ l, ¬ OwnAt ρ σ l b) := by
      rintro j b ⟨t, e, w1, w2⟩
      by_cases hj : i = j
      · subst hj
        rw [List.getElem?_set_self il] at e
        cases e
        rcases sub b w1 w2 with q | q
        · exact .inl q
        · exact .inr ⟨rfl, q⟩
      · rw [List.getElem?_set_ne hj] at e
        exact .inl ⟨t, e, w1, w2⟩
    rcases back h4 with q | ⟨q, n⟩
    · rcases back h5 with q2 | ⟨_, n2⟩
      · exact r.ap j k b q q2
      · exact absurd q (n2 j)
    · rcases back h5 with q2 | ⟨q2, _⟩
      · exact absurd q2 (n k)
      · rw [q, q2]
  · obtain ⟨n, cs, m, k, g1, g2, g3⟩ := r.dok
    refine ⟨n, cs, m, k, ?_, ?_, g3⟩
    · rw [upd_ne]; exact g1
      intro z; exact r.dk1 (by rw [z]; exact h0)
    · rw [upd_ne]; exact g2
      intro z; exact r.dk2 (by rw [z]; exact h0)
  · rw [upd_ne]; exact r.keep b ob e n1 n2
    rintro rfl; rw [h0] at e; cases e
theorem Rel.put (r : Rel K dk H0 ρ σ H) {i : Nat} {a : Addr} (ow : OwnAt ρ σ i a) (o : HO) (s' : Sl) (ok : Ex H (upd H a o) → SlOk K dk H0 (upd H a o) σ[i]? s') (hs : s'.inn = [] := by rfl) :
    Rel K dk H0 (ρ.set i s') σ (upd H a o) ∧ Ex H (upd H a o) := by
  refine r.put' ow o s' (fun b w1 w2 => ?_) ok
  obtain ⟨s, h1, h2, h3⟩ := id ow
  rw [hs] at w2
  rcases w2 with w2 | w2
  · exact .inl ⟨s, h1, h2, .inl w2⟩
  · simp at w2
/-- a value is stored -/
theorem Rel.set' (r : Rel K dk H0 ρ σ H) {i : Nat} {v : V} {s : Sl} (ok : SlOk K dk H0 H (some (some v)) s) (ap : ∀ a, s.isOwn = true → (v = .ref a ∨ a ∈ s.inn) → ∀ j, ¬ OwnAt ρ σ j a) :
    Rel K dk H0 (ρ.set i s) (σ.set i (some v)) H := by
  refine ⟨by rw [List.length_set, List.length_set]; exact r.len, fun j t e => ?_, fun j k b h4 h5 => ?_, r.dok, r.dk1, r.dk2, r.keep⟩
  · by_cases hj : i = j
    · subst hj
      have il : i < (ρ.set i s).length := (List.getElem?_eq_some_iff.mp e).1
      rw [List.length_set] at il
      rw [List.getElem?_set_self il] at e
      cases e
      rw [List.getElem?_set_self (by rw [← r.len]; exact il)]
      exact ok
    · rw [List.getElem?_set_ne hj] at e
      rw [List.getElem?_set_ne hj]
      exact r.sl j t e
  · have cas : ∀ {j b}, OwnAt (ρ.set i s) (σ.set i (some v)) j b → (j = i ∧ s.isOwn = true ∧ (v = .ref b ∨ b ∈ s.inn)) ∨ (j ≠ i ∧ OwnAt ρ σ j b) := by
      rintro j b ⟨t, e, w1, w2⟩
      by_cases hj : i = j
      · subst hj
        have il : i < (ρ.set i s).length := (List.getElem?_eq_some_iff.mp e).1
        rw [List.length_set] at il
        rw [List.getElem?_set_self il] at e
        rw [List.getElem?_set_self (by rw [← r.len]; exact il)] at w2
        cases e
        refine .inl ⟨rfl, w1, ?_⟩
        rcases w2 with w2 | w2
        · exact .inl (Option.some.inj (Option.some.inj w2))
        · exact .inr w2
      · rw [List.getElem?_set_ne hj] at e w2
        exact .inr ⟨fun z => hj z.symm, t, e, w1, w2⟩
    rcases cas h4 with ⟨e1, e2, e3⟩ | ⟨e1, e2⟩
    · rcases cas h5 with ⟨f1, f2, f3⟩ | ⟨f1, f2⟩
      · rw [e1, f1]
      · exact absurd f2 (ap b e2 e3 k)
    · rcases cas h5 with ⟨f1, f2, f3⟩ | ⟨f1, f2⟩
      · exact absurd e2 (ap b f2 f3 j)
      · exact r.ap j k b e2 f2
theorem Rel.set (r : Rel K dk H0 ρ σ H) {i : Nat} {v : V} {s : Sl} (ok : SlOk K dk H0 H (some (some v)) s) (ap : ∀ a, s.isOwn = true → v = .ref a → ∀ j, ¬ OwnAt ρ σ j a) (hs : s.inn = [] := by rfl) :
    Rel K dk H0 (ρ.set i s) (σ.set i (some v)) H := by
  refine r.set' ok fun a h1 h2 => ?_
  rw [hs] at h2
  rcases h2 with h2 | h2
  · exact ap a h1 h2
  · simp at h2
end
abbrev TQ := En → (PyData → En → Prop) → Prop
abbrev TQB := En → (Bool → En → Prop) → Prop
abbrev TQL := En → (List PyData → En → Prop) → Prop
def up (K : PySem.W.Frag) (dk : Dk) (H0 : Hp) (t : TQ) : TE := fun σ H Q => ∃ ρ R, Rel K dk H0 ρ σ H ∧ t ρ R ∧ ∀ x ρ' v H', R x ρ' → Fz K H' v x → Rel K dk H0 ρ' σ H' → Ex H H' → Q v H'
def upB (K : PySem.W.Frag) (dk : Dk) (H0 : Hp) (t : TQB) : TT := fun σ H Q => ∃ ρ R, Rel K dk H0 ρ σ H ∧ t ρ R ∧ ∀ b ρ' H', R b ρ' → Rel K dk H0 ρ' σ H' → Ex H H' → Q b H'
def upL (K : PySem.W.Frag) (dk : Dk) (H0 : Hp) (t : TQL) : TE := fun σ H Q => ∃ ρ R, Rel K dk H0 ρ σ H ∧ t ρ R ∧ ∀ xs ρ' p vs H', R xs ρ' → H' p = some (.lst vs) → FzAll K H' vs xs → H0 p = none → (∀ j, ¬ OwnAt ρ' σ j p) → Rel K dk H0 ρ' σ H' → Ex H H' → Q (.ref p) H'
/-- an argument list: data, or the deck -/
inductive Ar where
  | d (x : PyData)
  | dk
def ArOk (K : PySem.W.Frag) (dk : Dk) (H : Hp) (v : V) : Ar → Prop
  | .d x => Fz K H v x
  | .dk => v = .ref dk.1
inductive ArsOk (K : PySem.W.Frag) (dk : Dk) (H : Hp) : List V → List Ar → Prop
  | nil : ArsOk K dk H [] []
  | cons {v : V} {a : Ar} {vs : List V} {as : List Ar} : ArOk K dk H v a → ArsOk K dk H vs as → ArsOk K dk H (v :: vs) (a :: as)
abbrev TQA := En → (List Ar → En → Prop) → Prop
theorem ArsOk.mono {K : PySem.W.Frag} {dk : Dk} {H H' : Hp} (e : Ex H H') : ∀ {vs : List V} {as : List Ar}, ArsOk K dk H vs as → ArsOk K dk H' vs as
  | _, _, .nil => .nil
  | _, a :: as, .cons h t => .cons (by cases a with | d x => exact Fz.mono e h | dk => exact h) (ArsOk.mono e t)
theorem ArsOk.length {K : PySem.W.Frag} {dk : Dk} {H : Hp} : ∀ {vs : List V} {as : List Ar}, ArsOk K dk H vs as → vs.length = as.length
  | _, _, .nil => rfl
  | _, _, .cons _ t => by rw [List.length_cons, List.length_cons, ArsOk.length t]
structure EndsQ where
  nx : En → Prop
  rt : PyData → Prop
  bk : En → Prop := fun _ => False
  ct : En → Prop := fun _ => False
abbrev TQS := EndsQ → En → Prop
structure EndsOk (K : PySem.W.Frag) (dk : Dk) (H0 H : Hp) (R : EndsQ) (D : Ends) : Prop where
  nx : ∀ ρ' σ' H', R.nx ρ' → Rel K dk H0 ρ' σ' H' → Ex H H' → D.nx σ' H'
  rt : ∀ x v H', R.rt x → Fz K H' v x → Step dk H0 H' → D.rt v H'
  bk : ∀ ρ' σ' H', R.bk ρ' → Rel K dk H0 ρ' σ' H' → Ex H H' → D.bk σ' H'
  ct : ∀ ρ' σ' H', R.ct ρ' → Rel K dk H0 ρ' σ' H' → Ex H H' → D.ct σ' H'
def upS (K : PySem.W.Frag) (dk : Dk) (H0 : Hp) (t : TQS) : TS := fun D σ H => ∃ ρ R, Rel K dk H0 ρ σ H ∧ t R ρ ∧ EndsOk K dk H0 H R D
structure QE (X : Cx) (e : Expr) (t : TQ) : Prop where
  run : ∀ dk H0, PE X e (up X.K dk H0 t)
structure QL (X : Cx) (e : Expr) (t : TQL) : Prop where
  run : ∀ dk H0, PE X e (upL X.K dk H0 t)
structure QT (X : Cx) (e : Expr) (t : TQB) : Prop where
  run : ∀ dk H0, PT X e (upB X.K dk H0 t)
structure QW (X : Cx) (e : Expr) (t : TQB) : Prop where
  run : ∀ dk H0, PW X e (upB X.K dk H0 t)
structure QS (X : Cx) (st : Stmt) (t : TQS) : Prop where
  run : ∀ dk H0, PS X st (upS X.K dk H0 t)
structure QSs (X : Cx) (st : List Stmt) (t : TQS) : Prop where
  run : ∀ dk H0, PSs X st (upS X.K dk H0 t)
/-- weaker readings -/
theorem PE.imp {X : Cx} {e : Expr} {t t' : TE} (h : PE X e t) (w : ∀ σ H Q, t' σ H Q → t σ H Q) : PE X e t' := ⟨fun pins s σ H Q I q => h.run pins s σ H Q I (w _ _ _ q)⟩
theorem PT.imp {X : Cx} {e : Expr} {t t' : TT} (h : PT X e t) (w : ∀ σ H Q, t' σ H Q → t σ H Q) : PT X e t' := ⟨fun pins s σ H Q I q => h.run pins s σ H Q I (w _ _ _ q)⟩
theorem PW.imp {X : Cx} {e : Expr} {t t' : TT} (h : PW X e t) (w : ∀ σ H Q, t' σ H Q → t σ H Q) : PW X e t' := ⟨fun wh pins s σ H Q I q => h.run wh pins s σ H Q I (w _ _ _ q)⟩
theorem PA.imp {X : Cx} {e : List Expr} {t t' : TA} (h : PA X e t) (w : ∀ σ H Q, t' σ H Q → t σ H Q) : PA X e t' := ⟨fun pos pins s σ H Q I q => h.run pos pins s σ H Q I (w _ _ _ q)⟩
theorem PS.imp {X : Cx} {e : Stmt} {t t' : TS} (h : PS X e t) (w : ∀ D σ H, t' D σ H → t D σ H) : PS X e t' := ⟨fun pins s σ H Q I q => h.run pins s σ H Q I (w _ _ _ q)⟩
theorem PSs.imp {X : Cx} {e : List Stmt} {t t' : TS} (h : PSs X e t) (w : ∀ D σ H, t' D σ H → t D σ H) : PSs X e t' := ⟨fun pins s σ H Q I q => h.run pins s σ H Q I (w _ _ _ q)⟩
end Q
end P1
section P2
namespace Q
open PySem PySem.Spec PyProof.Rows L2
section
variable {X : Cx} {pos : Pos}

def tV (i : Nat) : TQ := fun ρ R => match ρ[i]? with
  | some (.d x) => R x ρ
  | some (.own xs) => R (.list xs) (ρ.set i (.d (.list xs)))
  | _ => False
theorem q_var {i : Nat} {x : Str} (hN : X.N[i]? = some x) (hv : Vis X.env.scope x) (hd : (x == ("__debug__" : Str)) = false := by decide) (hcd : (x == ("__classdict__" : Str)) = false := by decide) : QE X (.Name x pos) (tV i) := by
  refine ⟨fun dk H0 => ⟨fun pins s σ H Q I h => ?_⟩⟩
  obtain ⟨ρ, R, r, h, k⟩ := h
  unfold tV at h
  split at h
  · rename_i y e
    obtain ⟨v, h1, h2⟩ := r.sl i _ e
    exact (pe_var (X := X) (pos := pos) hN hv hd hcd).run pins s σ H Q I ⟨v, h1, k y ρ v H h h2 r (Ex.refl H)⟩
  · rename_i xs e
    obtain ⟨a, vs, h1, h2, h3, h4⟩ := r.sl i _ e
    obtain ⟨od, I1⟩ := I.lock h2 True.intro
    have ow : OwnAt ρ σ i a := ⟨_, e, rfl, .inl h1⟩
    obtain ⟨r1, ex⟩ := r.put ow (.frz od (.lst vs)) (.d (.list xs)) fun ex => ⟨.ref a, h1, .lst upd_same (h3.mono ex)⟩
    exact (pe_var (X := X) (pos := pos) hN hv hd hcd).run pins s σ _ Q I1 ⟨.ref a, h1, k _ _ _ _ h (.lst upd_same (h3.mono ex)) r1 ex⟩
  · exact h.elim
theorem qv (i : Nat) {x : Str} (hN : X.N[i]? = some x := by rfl) (hv : Vis X.env.scope x := by first | exact Or.inl rfl | exact Or.inr (Or.inl rfl) | exact Or.inr (Or.inr rfl)) (hd : (x == ("__debug__" : Str)) = false := by decide)
    (hcd : (x == ("__classdict__" : Str)) = false := by decide) : QE X (.Name x pos) (tV i) := q_var hN hv hd hcd
def tK (x : PyData) : TQ := fun ρ R => R x ρ
theorem q_const {e : Expr} {v : V} {x : PyData} (h : PE X e (tC v)) (f : ∀ H, Fz X.K H v x) : QE X e (tK x) := ⟨fun dk H0 => PE.imp h fun σ H Q ⟨ρ, R, r, h, k⟩ => k x ρ v H h (f H) r (Ex.refl H)⟩
theorem q_int {i : Int} {j} : QE X (.Constant (.int i) j pos) (tK (.int i)) := q_const pe_int fun _ => .int i
theorem q_bl {b : Bool} {j} : QE X (.Constant (.bool b) j pos) (tK (.bool b)) := q_const pe_bl fun _ => .bl b
theorem q_str {x : Str} {j} : QE X (.Constant (.str x) j pos) (tK (.str x)) := q_const pe_str fun _ => .str x
theorem q_glob {x : Str} {v : V} {u : Value} {d : PyData} (hg : Gl X x) (hm : X.mg x = some u) (r : RelV v u) (f : ∀ H, Fz X.K H v d) (hd : (x == ("__debug__" : Str)) = false := by decide) : QE X (.Name x pos) (tK d) :=
  q_const (pe_glob hg hm r hd) f

abbrev C2 := PyData → PyData → (PyData → Prop) → Prop
abbrev C1 := PyData → (PyData → Prop) → Prop
abbrev Br2 (K : PySem.W.Frag) (r : R2) (C : C2) : Prop := ∀ x y v u H Q R, Fz K H v x → Fz K H u y → C x y R → (∀ z w H', R z → Fz K H' w z → Same H H' → Q w H') → r v u H Q
def t2 (C : C2) (ta tb : TQ) : TQ := fun ρ R => ta ρ fun x ρ1 => tb ρ1 fun y ρ2 => C x y fun z => R z ρ2
variable {a b c e : Expr} {ta tb tc t : TQ}
theorem up_op {K : PySem.W.Frag} {r : R2} {C : C2} {dk : Dk} {H0 : Hp} (br : Br2 K r C) (σ : L2.St) (H : Hp) (Q : VK) (h : up K dk H0 (t2 C ta tb) σ H Q) : tOp r (up K dk H0 ta) (up K dk H0 tb) σ H Q := by
  obtain ⟨ρ, R, rel, h, k⟩ := h
  exact ⟨ρ, _, rel, h, fun x ρ1 v H1 hx fz rel1 ex1 => ⟨ρ1, _, rel1, hx, fun y ρ2 u H2 hy fz2 rel2 ex2 => br x y v u H2 Q _ (fz.mono ex2) fz2 hy fun z w H' hz fz' sm => k z ρ2 w H' hz fz' (rel2.same sm) (ex1.trans (ex2.trans (ex_same sm)))⟩⟩
theorem q_op {op : Operator} {r : R2} {C : C2} (ho : OpR X (binaryOp op) r) (br : Br2 X.K r C) (ha : QE X a ta) (hb : QE X b tb) : QE X (.BinOp a op b pos) (t2 C ta tb) :=
  ⟨fun dk H0 => PE.imp (pe_op ho (ha.run dk H0) (hb.run dk H0)) (up_op br)⟩
theorem q_cmpR {op : CmpOp} {r : R2} {C : C2} (ho : OpR X (compareOp op) r) (br : Br2 X.K r C) (ha : QE X a ta) (hb : QE X b tb) (hm : behindInMarks op b = false) : QE X (.Compare a [op] [b] pos) (t2 C ta tb) :=
  ⟨fun dk H0 => PE.imp (pe_cmpR ho (ha.run dk H0) (hb.run dk H0) hm) (up_op br)⟩
def tB (t : TQ) : TQB := fun ρ R => t ρ fun x ρ' => match x with | .bool b => R b ρ' | _ => False
theorem up_tst {K : PySem.W.Frag} {dk : Dk} {H0 : Hp} {te : TE} (w : ∀ σ H Q, up K dk H0 t σ H Q → te σ H Q) (σ : L2.St) (H : Hp) (Q : Bool → Hp → Prop) (h : upB K dk H0 (tB t) σ H Q) : te σ H fun x H' => ∃ k, x = .bl k ∧ Q k H' := by
  obtain ⟨ρ, R, rel, h, k⟩ := h
  refine w σ H _ ⟨ρ, _, rel, h, fun x ρ1 v H1 hx fz rel1 ex1 => ?_⟩
  cases x with
  | bool b => cases fz; exact ⟨b, rfl, k b ρ1 H1 hx rel1 ex1⟩
  | _ => exact False.elim hx
theorem q_tcmpR {op : CmpOp} {r : R2} {C : C2} (ho : OpR X (compareOp op) r) (br : Br2 X.K r C) (ha : QE X a ta) (hb : QE X b tb) (hm : behindInMarks op b = false) : QT X (.Compare a [op] [b] pos) (tB (t2 C ta tb)) :=
  ⟨fun dk H0 => PT.imp (pt_cmpR ho (ha.run dk H0) (hb.run dk H0) hm) (up_tst (up_op br))⟩
theorem q_tst {e : Expr} (h : QE X e t) (he : ∀ whole, isTrue e X.env whole = (do let v ← whole; standAt e.pos; holding [v] (truthy v)) := by intro _; rfl) : QT X e (tB t) :=
  ⟨fun dk H0 => PT.imp (pt_val (h.run dk H0) he) (up_tst fun _ _ _ q => q)⟩

/-- whole numbers -/
def cI (g : Int → Int → PyData) : C2 := fun x y R => match x, y with
  | .int i, .int j => R (g i j)
  | _, _ => False
def cIp (C : Int → Int → Prop) (g : Int → Int → PyData) : C2 := fun x y R => match x, y with
  | .int i, .int j => C i j ∧ R (g i j)
  | _, _ => False
theorem br_I0 {K : PySem.W.Frag} {gV : Int → Int → V} {g : Int → Int → PyData} (hg : ∀ i j H, Fz K H (gV i j) (g i j)) : Br2 K (rI0 gV) (cI g) := by
  intro x y v u H Q R h1 h2 c k
  cases h1 <;> cases h2 <;> first | exact c.elim | exact ⟨_, _, rfl, rfl, k _ _ H c (hg _ _ H) (Same.refl H)⟩
theorem br_I {K : PySem.W.Frag} {C : Int → Int → Prop} {gV : Int → Int → V} {g : Int → Int → PyData} (hg : ∀ i j H, Fz K H (gV i j) (g i j)) : Br2 K (rI C gV) (cIp C g) := by
  intro x y v u H Q R h1 h2 c k
  cases h1 <;> cases h2 <;> first | exact c.elim | exact ⟨_, _, rfl, rfl, c.1, k _ _ H c.2 (hg _ _ H) (Same.refl H)⟩
def subI := cI fun i j => .int (i - j)
def fdivI := cIp CDiv fun i j => .int (i / j)
def modI := cIp (fun _ j => 0 < j) fun i j => .int (i % j)
def ltI := cI fun i j => .bool (decide (i < j))
def leI := cI fun i j => .bool (decide (i ≤ j))
def gtI := cI fun i j => .bool (decide (j < i))
def geI := cI fun i j => .bool (decide (j ≤ i))
theorem q_sub (ha : QE X a ta) (hb : QE X b tb) : QE X (.BinOp a .Sub b pos) (t2 subI ta tb) := q_op op_sub (br_I0 fun _ _ _ => .int _) ha hb
theorem q_fdiv (ha : QE X a ta) (hb : QE X b tb) : QE X (.BinOp a .FloorDiv b pos) (t2 fdivI ta tb) := q_op op_fdiv (br_I fun _ _ _ => .int _) ha hb
theorem q_mod (ha : QE X a ta) (hb : QE X b tb) : QE X (.BinOp a .Mod b pos) (t2 modI ta tb) := q_op op_mod (br_I fun _ _ _ => .int _) ha hb
/-- comparisons -/
theorem q_lt (ha : QE X a ta) (hb : QE X b tb) : QE X (.Compare a [.Lt] [b] pos) (t2 ltI ta tb) := q_cmpR op_lt (br_I0 fun _ _ _ => .bl _) ha hb (nomark _)
theorem q_le (ha : QE X a ta) (hb : QE X b tb) : QE X (.Compare a [.LtE] [b] pos) (t2 leI ta tb) := q_cmpR op_le (br_I0 fun _ _ _ => .bl _) ha hb (nomark _)
theorem q_tlt (ha : QE X a ta) (hb : QE X b tb) : QT X (.Compare a [.Lt] [b] pos) (tB (t2 ltI ta tb)) := q_tcmpR op_lt (br_I0 fun _ _ _ => .bl _) ha hb (nomark _)
theorem q_tle (ha : QE X a ta) (hb : QE X b tb) : QT X (.Compare a [.LtE] [b] pos) (tB (t2 leI ta tb)) := q_tcmpR op_le (br_I0 fun _ _ _ => .bl _) ha hb (nomark _)
theorem q_tgt (ha : QE X a ta) (hb : QE X b tb) : QT X (.Compare a [.Gt] [b] pos) (tB (t2 gtI ta tb)) := q_tcmpR op_gt (br_I0 fun _ _ _ => .bl _) ha hb (nomark _)
theorem q_tge (ha : QE X a ta) (hb : QE X b tb) : QT X (.Compare a [.GtE] [b] pos) (tB (t2 geI ta tb)) := q_tcmpR op_ge (br_I0 fun _ _ _ => .bl _) ha hb (nomark _)
/-- == and != of data -/
def eqD : C2 := fun x y R => SeqAt.shaped x = true ∧ SeqAt.shaped y = true ∧ R (.bool (PyData.eqv x y))
def neD : C2 := fun x y R => SeqAt.shaped x = true ∧ SeqAt.shaped y = true ∧ R (.bool (!PyData.eqv x y))
theorem br_eq {K : PySem.W.Frag} : Br2 K (rEqD K) eqD := fun x y v u H Q R h1 h2 c k => ⟨x, y, h1.dp (SeqAt.canLay_of_shaped c.1), h2.dp (SeqAt.canLay_of_shaped c.2.1), c.1, c.2.1, k _ _ H c.2.2 (.bl _) (Same.refl H)⟩
theorem br_ne {K : PySem.W.Frag} : Br2 K (rNeD K) neD := fun x y v u H Q R h1 h2 c k => ⟨x, y, h1.dp (SeqAt.canLay_of_shaped c.1), h2.dp (SeqAt.canLay_of_shaped c.2.1), c.1, c.2.1, k _ _ H c.2.2 (.bl _) (Same.refl H)⟩
theorem q_eq (hu : X.A.units + 64 < cLine) (ha : QE X a ta) (hb : QE X b tb) : QE X (.Compare a [.Eq] [b] pos) (t2 eqD ta tb) := q_cmpR (op_eqD hu) br_eq ha hb (nomark _)
theorem q_teq (hu : X.A.units + 64 < cLine) (ha : QE X a ta) (hb : QE X b tb) : QT X (.Compare a [.Eq] [b] pos) (tB (t2 eqD ta tb)) := q_tcmpR (op_eqD hu) br_eq ha hb (nomark _)
theorem q_tne (hu : X.A.units + 64 < cLine) (ha : QE X a ta) (hb : QE X b tb) : QT X (.Compare a [.NotEq] [b] pos) (tB (t2 neD ta tb)) := q_tcmpR (op_neD hu) br_ne ha hb (nomark _)
/-- in, not in: flat items -/
def flatD : PyData → Bool
  | .none => true
  | .bool _ => true
  | .int _ => true
  | .str _ => true
  | _ => false
theorem flat_V {K : PySem.W.Frag} {H : Hp} {v : V} {x : PyData} (h : Fz K H v x) (f : flatD x = true) : flatV v = true := by
  cases h <;> first | rfl | cases f
theorem flat_all {K : PySem.W.Frag} {H : Hp} : ∀ {vs : List V} {xs : List PyData}, FzAll K H vs xs → xs.all flatD = true → vs.all flatV = true
  | _, _, .nil, _ => rfl
  | _, _, .cons h t, f => by
    rw [List.all_cons, Bool.and_eq_true] at f
    rw [List.all_cons, flat_V h f.1, flat_all t f.2]; rfl
theorem eqV_D {K : PySem.W.Frag} {H : Hp} {v u : V} {x y : PyData} (h : Fz K H v x) (h' : Fz K H u y) (f : flatD x = true) (f' : flatD y = true) : eqV v u = PyData.eqv x y := by
  cases h <;> cases h' <;> first | cases f | cases f' | (simp only [eqV, PyData.eqv]; done) | skip
  all_goals simp only [eqV, PyData.eqv]
  all_goals first | rfl | (rename_i p q; cases p <;> simp) | skip
theorem inV_D {K : PySem.W.Frag} {H : Hp} {v : V} {x : PyData} (h : Fz K H v x) (f : flatD x = true) : ∀ {us : List V} {ys : List PyData}, FzAll K H us ys → ys.all flatD = true → inV v us = ys.any fun z => PyData.eqv z x
  | _, _, .nil, _ => rfl
  | _, _, .cons g t, fs => by
    rw [List.all_cons, Bool.and_eq_true] at fs
    have ih := inV_D h f t fs.2
    unfold inV at ih ⊢
    rw [List.any_cons, List.any_cons, ih, eqV_D g h fs.1 f]
def inD (neg : Bool) : C2 := fun x y R => match y with
  | .list ds => flatD x = true ∧ ds.all flatD = true ∧ R (.bool (if neg then !(ds.any fun z => PyData.eqv z x) else ds.any fun z => PyData.eqv z x))
  | .tuple ds => flatD x = true ∧ ds.all flatD = true ∧ R (.bool (if neg then !(ds.any fun z => PyData.eqv z x) else ds.any fun z => PyData.eqv z x))
  | _ => False
theorem br_in {K : PySem.W.Frag} {neg : Bool} : Br2 K (rIn K neg) (inD neg) := by
  intro x y v u H Q R h1 h2 c k
  cases h2 with
  | lst q t =>
    obtain ⟨c1, c2, c3⟩ := c
    refine ⟨_, _, rfl, .inl (.inl (.inr ⟨_, q⟩)), flat_V h1 c1, flat_all t c2, ?_⟩
    rw [inV_D h1 c1 t c2]
    exact k _ _ H c3 (.bl _) (Same.refl H)
  | tup q t =>
    obtain ⟨c1, c2, c3⟩ := c
    refine ⟨_, _, rfl, .inr q, flat_V h1 c1, flat_all t c2, ?_⟩
    rw [inV_D h1 c1 t c2]
    exact k _ _ H c3 (.bl _) (Same.refl H)
  | _ => exact c.elim
theorem q_in (ha : QE X a ta) (hb : QE X b tb) (hm : behindInMarks .In b = false := by rfl) : QE X (.Compare a [.In] [b] pos) (t2 (inD false) ta tb) := q_cmpR op_in_seq br_in ha hb hm
/-- is True, is False, is not ..: a bool on the left -/
def isB (neg : Bool) : C2 := fun x y R => match x, y with
  | .bool p, .bool q => R (.bool (if neg then !decide (p = q) else decide (p = q)))
  | _, _ => False
theorem br_isn : Br2 X.K rNotB (isB true) := by
  intro x y v u H Q R h1 h2 c k
  cases h1 <;> cases h2 <;> first | exact c.elim | exact ⟨_, _, rfl, rfl, k _ _ H c (.bl _) (Same.refl H)⟩
theorem q_tisnB (ha : QE X a ta) (hb : QE X b tb) : QT X (.Compare a [.IsNot] [b] pos) (tB (t2 (isB true) ta tb)) := q_tcmpR op_notBl br_isn ha hb (nomark _)
/-- is None -/
def isNoneD : PyData → Bool
  | .none => true
  | _ => false
def isN (neg : Bool) : C2 := fun x y R => match y with
  | .none => R (.bool (if neg then !isNoneD x else isNoneD x))
  | _ => False
/-- -a -/
def negI : C1 := fun x R => match x with
  | .int i => R (.int (-i))
  | _ => False
def t1 (C : C1) (ta : TQ) : TQ := fun ρ R => ta ρ fun x ρ1 => C x fun z => R z ρ1
abbrev Br1 (K : PySem.W.Frag) (r : V → Hp → VK → Prop) (C : C1) : Prop := ∀ x v H Q R, Fz K H v x → C x R → (∀ z w H', R z → Fz K H' w z → Same H H' → Q w H') → r v H Q
theorem up_un {K : PySem.W.Frag} {r : V → Hp → VK → Prop} {C : C1} {dk : Dk} {H0 : Hp} (br : Br1 K r C) (σ : L2.St) (H : Hp) (Q : VK) (h : up K dk H0 (t1 C ta) σ H Q) : up K dk H0 ta σ H fun x H1 => r x H1 Q := by
  obtain ⟨ρ, R, rel, h, k⟩ := h
  exact ⟨ρ, _, rel, h, fun x ρ1 v H1 hx fz rel1 ex1 => br x v H1 Q _ fz hx fun z w H' hz fz' sm => k z ρ1 w H' hz fz' (rel1.same sm) (ex1.trans (ex_same sm))⟩
theorem q_un {op : UnaryOp} {r : V → Hp → VK → Prop} {C : C1} (ho : UnR X (unaryOp op) r) (br : Br1 X.K r C) (ha : QE X a ta) : QE X (.UnaryOp op a pos) (t1 C ta) :=
  ⟨fun dk H0 => PE.imp (pe_un ho (ha.run dk H0)) (up_un br)⟩
theorem br_neg {K : PySem.W.Frag} : Br1 K (rU fun i => .int (-i)) negI := by
  intro x v H Q R h1 c k
  cases h1 <;> first | exact c.elim | exact ⟨_, rfl, k _ _ H c (.int _) (Same.refl H)⟩
theorem q_neg (ha : QE X a ta) : QE X (.UnaryOp .USub a pos) (t1 negI ta) := q_un un_neg br_neg ha

variable {rest : List Expr} {tA tB' : TQB}
def qAnd (t u : TQB) : TQB := fun ρ R => t ρ fun c ρ1 => if c = true then u ρ1 R else R false ρ1
def qOr (t u : TQB) : TQB := fun ρ R => t ρ fun c ρ1 => if c = true then R true ρ1 else u ρ1 R
def qNot (t : TQB) : TQB := fun ρ R => t ρ fun c ρ1 => R (!c) ρ1
theorem qw_and1 (ha : QT X a tA) : QW X (.BoolOp .And [a] pos) tA := ⟨fun dk H0 => pw_and1 (ha.run dk H0)⟩
theorem qw_or1 (ha : QT X a tA) : QW X (.BoolOp .Or [a] pos) tA := ⟨fun dk H0 => pw_or1 (ha.run dk H0)⟩
theorem qw_and (ha : QT X a tA) (hb : QW X (.BoolOp .And (b :: rest) pos) tB') : QW X (.BoolOp .And (a :: b :: rest) pos) (qAnd tA tB') :=
  ⟨fun dk H0 => PW.imp (pw_and (ha.run dk H0) (hb.run dk H0)) fun σ H Q ⟨ρ, R, rel, h, k⟩ => ⟨ρ, _, rel, h, fun c ρ1 H1 hc rel1 ex1 => by
    cases c with
    | true => rw [if_pos rfl] at hc ⊢; exact ⟨ρ1, R, rel1, hc, fun b ρ2 H2 hb rel2 ex2 => k b ρ2 H2 hb rel2 (ex1.trans ex2)⟩
    | false => rw [if_neg (by decide)] at hc ⊢; exact k false ρ1 H1 hc rel1 ex1⟩⟩
theorem qw_or (ha : QT X a tA) (hb : QW X (.BoolOp .Or (b :: rest) pos) tB') : QW X (.BoolOp .Or (a :: b :: rest) pos) (qOr tA tB') :=
  ⟨fun dk H0 => PW.imp (pw_or (ha.run dk H0) (hb.run dk H0)) fun σ H Q ⟨ρ, R, rel, h, k⟩ => ⟨ρ, _, rel, h, fun c ρ1 H1 hc rel1 ex1 => by
    cases c with
    | false => rw [if_neg (by decide)] at hc ⊢; exact ⟨ρ1, R, rel1, hc, fun b ρ2 H2 hb rel2 ex2 => k b ρ2 H2 hb rel2 (ex1.trans ex2)⟩
    | true => rw [if_pos rfl] at hc ⊢; exact k true ρ1 H1 hc rel1 ex1⟩⟩
theorem QW.qt {e : Expr} {t : TQB} (h : QW X e t) : QT X e t := ⟨fun dk H0 => (h.run dk H0).pt⟩
theorem qt_not (ha : QT X a tA) : QT X (.UnaryOp .Not a pos) (qNot tA) :=
  ⟨fun dk H0 => PT.imp (pt_not (ha.run dk H0)) fun σ H Q ⟨ρ, R, rel, h, k⟩ => ⟨ρ, _, rel, h, fun c ρ1 H1 hc rel1 ex1 => k (!c) ρ1 H1 hc rel1 ex1⟩⟩
def vAnd (ta tb : TQ) : TQ := fun ρ R => ta ρ fun x ρ1 => match x with
  | .bool c => if c = true then tb ρ1 R else R (.bool false) ρ1
  | _ => False
def vNot (ta : TQ) : TQ := fun ρ R => ta ρ fun x ρ1 => match x with
  | .bool c => R (.bool (!c)) ρ1
  | _ => False
theorem q_one {op} (h : QE X a t) : QE X (.BoolOp op [a] pos) t := ⟨fun dk H0 => pe_one (h.run dk H0)⟩
theorem q_and (ha : QE X a ta) (hb : QE X (.BoolOp .And (b :: rest) pos) tb) : QE X (.BoolOp .And (a :: b :: rest) pos) (vAnd ta tb) :=
  ⟨fun dk H0 => PE.imp (pe_and (ha.run dk H0) (hb.run dk H0)) fun σ H Q ⟨ρ, R, rel, h, k⟩ => ⟨ρ, _, rel, h, fun x ρ1 v H1 hc fz rel1 ex1 => by
    cases fz <;> first | exact hc.elim | skip
    rename_i c
    refine ⟨c, rfl, ?_⟩
    cases c with
    | true => simp only [if_true] at hc ⊢; exact ⟨ρ1, R, rel1, hc, fun b ρ2 v2 H2 hb fz2 rel2 ex2 => k b ρ2 v2 H2 hb fz2 rel2 (ex1.trans ex2)⟩
    | false => simp only [Bool.false_eq_true, if_false] at hc ⊢; exact k _ ρ1 _ H1 hc (.bl _) rel1 ex1⟩⟩
theorem q_not (ha : QE X a ta) : QE X (.UnaryOp .Not a pos) (vNot ta) :=
  ⟨fun dk H0 => PE.imp (pe_not (ha.run dk H0)) fun σ H Q ⟨ρ, R, rel, h, k⟩ => ⟨ρ, _, rel, h, fun x ρ1 v H1 hc fz rel1 ex1 => by
    cases fz <;> first | exact hc.elim | skip
    exact ⟨_, rfl, k _ ρ1 _ H1 hc (.bl _) rel1 ex1⟩⟩⟩
def qIf (t : TQB) (ta tb : TQ) : TQ := fun ρ R => t ρ fun c ρ1 => if c = true then ta ρ1 R else tb ρ1 R
theorem q_ifExp (hc : QT X c tA) (ha : QE X a ta) (hb : QE X b tb) : QE X (.IfExp c a b pos) (qIf tA ta tb) :=
  ⟨fun dk H0 => PE.imp (pe_ifExp (hc.run dk H0) (ha.run dk H0) (hb.run dk H0)) fun σ H Q ⟨ρ, R, rel, h, k⟩ => ⟨ρ, _, rel, h, fun c ρ1 H1 hc rel1 ex1 => by
    cases c with
    | true => rw [if_pos rfl] at hc ⊢; exact ⟨ρ1, R, rel1, hc, fun b ρ2 v2 H2 hb fz2 rel2 ex2 => k b ρ2 v2 H2 hb fz2 rel2 (ex1.trans ex2)⟩
    | false => rw [if_neg (by decide)] at hc ⊢; exact ⟨ρ1, R, rel1, hc, fun b ρ2 v2 H2 hb fz2 rel2 ex2 => k b ρ2 v2 H2 hb fz2 rel2 (ex1.trans ex2)⟩⟩⟩
/-- a <= b <= c of whole numbers -/
def chI (p q : Int → Int → Bool) (ta tb tc : TQ) : TQ := fun ρ R => ta ρ fun x ρ1 => tb ρ1 fun y ρ2 => match x, y with
  | .int i, .int j => if p i j = true then tc ρ2 fun z ρ3 => (match z with | .int l => R (.bool (q j l)) ρ3 | _ => False) else R (.bool false) ρ2
  | _, _ => False
theorem up_ch {K : PySem.W.Frag} {dk : Dk} {H0 : Hp} {p q : Int → Int → Bool} (σ : L2.St) (H : Hp) (Q : VK) (h : up K dk H0 (chI p q ta tb tc) σ H Q) :
    tChain (rI0 fun i j => .bl (p i j)) (rI0 fun i j => .bl (q i j)) (up K dk H0 ta) (up K dk H0 tb) (up K dk H0 tc) σ H Q := by
  obtain ⟨ρ, R, rel, h, k⟩ := h
  refine ⟨ρ, _, rel, h, fun x ρ1 v H1 hx fz rel1 ex1 => ⟨ρ1, _, rel1, hx, fun y ρ2 u H2 hy fz2 rel2 ex2 => ?_⟩⟩
  cases fz <;> cases fz2 <;> first | exact hy.elim | skip
  rename_i i j
  refine ⟨i, j, rfl, rfl, p i j, rfl, ?_⟩
  cases e : p i j with
  | true =>
    simp only [e, if_true] at hy ⊢
    refine ⟨ρ2, _, rel2, hy, fun z ρ3 w H3 hz fz3 rel3 ex3 => ?_⟩
    cases fz3 <;> first | exact hz.elim | skip
    exact ⟨j, _, rfl, rfl, k _ ρ3 _ H3 hz (.bl _) rel3 (ex1.trans (ex2.trans ex3))⟩
  | false =>
    simp only [e, Bool.false_eq_true, if_false] at hy ⊢
    exact k _ ρ2 _ H2 hy (.bl _) rel2 (ex1.trans ex2)
theorem q_chain {op op' : CmpOp} {p q : Int → Int → Bool} (ho : OpR X (compareOp op) (rI0 fun i j => .bl (p i j))) (ho' : OpR X (compareOp op') (rI0 fun i j => .bl (q i j)))
    (ha : QE X a ta) (hb : QE X b tb) (hc : QE X c tc) (hm : lastMarks [op, op'] [b, c] = false := by with_unfolding_all rfl) : QE X (.Compare a [op, op'] [b, c] pos) (chI p q ta tb tc) :=
  ⟨fun dk H0 => PE.imp (pe_chain ho ho' (ha.run dk H0) (hb.run dk H0) (hc.run dk H0) hm) up_ch⟩
theorem q_tchain {op op' : CmpOp} {p q : Int → Int → Bool} (ho : OpR X (compareOp op) (rI0 fun i j => .bl (p i j))) (ho' : OpR X (compareOp op') (rI0 fun i j => .bl (q i j)))
    (ha : QE X a ta) (hb : QE X b tb) (hc : QE X c tc) (hm : lastMarks [op, op'] [b, c] = false := by with_unfolding_all rfl) : QT X (.Compare a [op, op'] [b, c] pos) (tB (chI p q ta tb tc)) :=
  ⟨fun dk H0 => PT.imp (pt_chain ho ho' (ha.run dk H0) (hb.run dk H0) (hc.run dk H0) hm) (up_tst up_ch)⟩
end
end Q
end P2
section P3
namespace Q
open PySem PySem.Spec PyProof.Rows L2
open Classical in
noncomputable def reb (ρ : En) (σ : L2.St) (H : Hp) : Hp := fun a => if ∃ j, OwnAt ρ σ j a then none else H a
section
variable {K : PySem.W.Frag} {dk : Dk} {H0 H H' : Hp} {ρ ρ' : En} {σ σ' : L2.St}
theorem reb_own {a : Addr} {j : Nat} (h : OwnAt ρ σ j a) : reb ρ σ H a = none := by unfold reb; rw [if_pos ⟨j, h⟩]
theorem reb_not {a : Addr} (h : ∀ j, ¬ OwnAt ρ σ j a) : reb ρ σ H a = H a := by unfold reb; rw [if_neg fun ⟨j, q⟩ => h j q]
theorem Rel.own0 (r : Rel K dk H0 ρ σ H) {a : Addr} {j : Nat} (h : OwnAt ρ σ j a) : H0 a = none := by
  exact (r.ownIs h).2
theorem Rel.dkNot (r : Rel K dk H0 ρ σ H) : (∀ j, ¬ OwnAt ρ σ j dk.1) ∧ ∀ j, ¬ OwnAt ρ σ j dk.2 := ⟨fun j h => r.dk1 (r.own0 h), fun j h => r.dk2 (r.own0 h)⟩
theorem Rel.reb (r : Rel K dk H0 ρ σ H) : Rel K dk (reb ρ σ H) ρ σ H := by
  refine ⟨r.len, fun i s e => ?_, r.ap, r.dok, ?_, ?_, fun a o e _ _ => ?_⟩
  · have q := r.sl i s e
    cases s with
    | own xs => obtain ⟨b, vs, e1, e2, e3, e4⟩ := q; exact ⟨b, vs, e1, e2, e3, reb_own ⟨_, e, rfl, .inl e1⟩⟩
    | owd xs => obtain ⟨b, vs, e1, e2, e3, e4⟩ := q; exact ⟨b, vs, e1, e2, e3, reb_own ⟨_, e, rfl, .inl e1⟩⟩
    | odt xs => obtain ⟨b, vs, e1, e2, e3, e4⟩ := q; exact ⟨b, vs, e1, e2, e3, reb_own ⟨_, e, rfl, .inl e1⟩⟩
    | own2 bs xss =>
      obtain ⟨a, h1, h2, h3, h4, h5, h6⟩ := q
      exact ⟨a, h1, h2, reb_own ⟨_, e, rfl, .inl h1⟩, h4, h5, h6.mono (Ex.refl _) (fun _ _ _ h => h) fun b hb _ => reb_own ⟨_, e, rfl, .inr hb⟩⟩
    | odl ks bs xss =>
      obtain ⟨a, h1, h2, h3, h4, h5, h6, h7⟩ := q
      exact ⟨a, h1, h2, reb_own ⟨_, e, rfl, .inl h1⟩, h4, h5, h6.mono (Ex.refl _) (fun _ _ _ h => h) (fun b hb _ => reb_own ⟨_, e, rfl, .inr hb⟩), h7⟩
    | odk ks bs xss =>
      obtain ⟨a, h1, h2, h3, h4, h5, h6, h7⟩ := q
      exact ⟨a, h1, h2, reb_own ⟨_, e, rfl, .inl h1⟩, h4, h5, h6.mono (Ex.refl _) (fun _ _ _ h => h) (fun b hb _ => reb_own ⟨_, e, rfl, .inr hb⟩), h7⟩
    | _ => exact q
  · rw [reb_not r.dkNot.1]
    obtain ⟨_, cs, m, k, h1, _⟩ := r.dok
    rw [h1]; intro z; cases z
  · rw [reb_not r.dkNot.2]
    obtain ⟨_, cs, m, k, _, h2, _⟩ := r.dok
    rw [h2]; intro z; cases z
  · unfold Q.reb at e
    split at e
    · cases e
    · exact e
theorem Rel.back (r : Rel K dk H0 ρ σ H) (r' : Rel K dk (Q.reb ρ σ H) ρ' σ' H') : Rel K dk H0 ρ' σ' H' := by
  have n0 : ∀ a, Q.reb ρ σ H a = none → H0 a = none := fun a e => by
    by_cases h : ∃ j, OwnAt ρ σ j a
    · obtain ⟨j, h⟩ := h; exact r.own0 h
    · rw [reb_not fun j q => h ⟨j, q⟩] at e; exact r.fresh0 e
  refine ⟨r'.len, fun i s e => ?_, r'.ap, r'.dok, r.dk1, r.dk2, fun a o e h1 h2 => ?_⟩
  · have q := r'.sl i s e
    cases s with
    | own xs => obtain ⟨b, vs, e1, e2, e3, e4⟩ := q; exact ⟨b, vs, e1, e2, e3, n0 b e4⟩
    | owd xs => obtain ⟨b, vs, e1, e2, e3, e4⟩ := q; exact ⟨b, vs, e1, e2, e3, n0 b e4⟩
    | odt xs => obtain ⟨b, vs, e1, e2, e3, e4⟩ := q; exact ⟨b, vs, e1, e2, e3, n0 b e4⟩
    | own2 bs xss =>
      obtain ⟨a, h1, h2, h3, h4, h5, h6⟩ := q
      exact ⟨a, h1, h2, n0 a h3, h4, h5, h6.mono (Ex.refl _) (fun _ _ _ h => h) fun b _ z => n0 b z⟩
    | odl ks bs xss =>
      obtain ⟨a, h1, h2, h3, h4, h5, h6, h7⟩ := q
      exact ⟨a, h1, h2, n0 a h3, h4, h5, h6.mono (Ex.refl _) (fun _ _ _ h => h) (fun b _ z => n0 b z), h7⟩
    | odk ks bs xss =>
      obtain ⟨a, h1, h2, h3, h4, h5, h6, h7⟩ := q
      exact ⟨a, h1, h2, n0 a h3, h4, h5, h6.mono (Ex.refl _) (fun _ _ _ h => h) (fun b _ z => n0 b z), h7⟩
    | _ => exact q
  · refine r'.keep a o ?_ h1 h2
    rw [reb_not fun j q => by rw [r.own0 q] at e; cases e]
    exact r.keep a o e h1 h2
theorem Rel.flight (r : Rel K dk H0 ρ σ H) (r' : Rel K dk (Q.reb ρ σ H) ρ' σ' H') {a : Addr} {o : HO} (e : H a = some o) (n : ∀ j, ¬ OwnAt ρ σ j a) (h1 : a ≠ dk.1) (h2 : a ≠ dk.2) : H' a = some o ∧ ∀ j, ¬ OwnAt ρ' σ' j a := by
  have e' : Q.reb ρ σ H a = some o := by rw [reb_not n]; exact e
  exact ⟨r'.keep a o e' h1 h2, fun j q => by rw [r'.own0 q] at e'; cases e'⟩

def wipeQ (ρ : En) : List Nat → En
  | [] => ρ
  | v :: vs => (wipeQ ρ vs).set v .un
theorem wipeQ_length (ρ : En) : ∀ vs : List Nat, (wipeQ ρ vs).length = ρ.length
  | [] => rfl
  | v :: vs => by unfold wipeQ; rw [List.length_set, wipeQ_length ρ vs]
theorem wipeQ_some {i : Nat} {s : Sl} : ∀ {vs : List Nat}, (wipeQ ρ vs)[i]? = some s → s = .un ∨ (ρ[i]? = some s ∧ i ∉ vs)
  | [], h => .inr ⟨h, by simp⟩
  | v :: vs, h => by
    unfold wipeQ at h
    by_cases hi : v = i
    · subst hi
      have hv : v < (wipeQ ρ vs).length := by
        have := (List.getElem?_eq_some_iff.mp h).1
        rwa [List.length_set] at this
      rw [List.getElem?_set_self hv] at h; cases h; exact .inl rfl
    · rw [List.getElem?_set_ne hi] at h
      rcases wipeQ_some h with q | ⟨q1, q2⟩
      · exact .inl q
      · exact .inr ⟨q1, by simp only [List.mem_cons, not_or]; exact ⟨fun e => hi e.symm, q2⟩⟩
theorem wipe_out {i : Nat} : ∀ {vs : List Nat}, i ∉ vs → (wipe σ vs)[i]? = σ[i]?
  | [], _ => rfl
  | v :: vs, h => by
    simp only [List.mem_cons, not_or] at h
    unfold wipe
    rw [List.getElem?_set_ne (fun e => h.1 e.symm)]
    exact wipe_out h.2
theorem wipe_set {i : Nat} {v : Option V} : ∀ {vs : List Nat}, i ∈ vs → wipe (σ.set i v) vs = wipe σ vs
  | [], h => by cases h
  | w :: vs, h => by
    unfold wipe
    by_cases hi : i ∈ vs
    · rw [wipe_set hi]
    · have e : i = w := by
        rcases List.mem_cons.mp h with q | q
        · exact q
        · exact absurd q hi
      subst e
      apply List.ext_getElem?
      intro j
      by_cases hj : i = j
      · subst hj
        by_cases hl : i < σ.length
        · rw [List.getElem?_set_self (by rw [wipe_length, List.length_set]; exact hl), List.getElem?_set_self (by rw [wipe_length]; exact hl)]
        · rw [List.getElem?_eq_none (by rw [List.length_set, wipe_length, List.length_set]; omega), List.getElem?_eq_none (by rw [List.length_set, wipe_length]; omega)]
      · rw [List.getElem?_set_ne hj, List.getElem?_set_ne hj]
        by_cases hjv : j ∈ vs
        · have w1 : ∀ (τ τ' : L2.St), τ.length = τ'.length → (wipe τ vs)[j]? = (wipe τ' vs)[j]? := by
            intro τ τ' hl
            clear hi h hj
            induction vs with
            | nil => cases hjv
            | cons w ws ih =>
              unfold wipe
              by_cases hw : w = j
              · subst hw
                by_cases hq : w < τ.length
                · rw [List.getElem?_set_self (by rw [wipe_length]; exact hq), List.getElem?_set_self (by rw [wipe_length, ← hl]; exact hq)]
                · rw [List.getElem?_eq_none (by rw [List.length_set, wipe_length]; omega), List.getElem?_eq_none (by rw [List.length_set, wipe_length]; omega)]
              · rw [List.getElem?_set_ne hw, List.getElem?_set_ne hw]
                refine ih ?_
                rcases List.mem_cons.mp hjv with q | q
                · exact absurd q.symm hw
                · exact q
          exact w1 _ _ (by rw [List.length_set])
        · rw [wipe_out hjv, wipe_out hjv, List.getElem?_set_ne hj]
theorem Rel.wipe (r : Rel K dk H0 ρ σ H) (vs : List Nat) : Rel K dk H0 (wipeQ ρ vs) (wipe σ vs) H := by
  have back : ∀ {j a}, OwnAt (wipeQ ρ vs) (L2.wipe σ vs) j a → OwnAt ρ σ j a := by
    rintro j a ⟨s, e, h1, h2⟩
    rcases wipeQ_some e with rfl | ⟨e1, e2⟩
    · cases h1
    · rw [wipe_out e2] at h2
      exact ⟨s, e1, h1, h2⟩
  refine ⟨by rw [wipeQ_length, wipe_length]; exact r.len, fun i s e => ?_, fun i j a h1 h2 => r.ap i j a (back h1) (back h2), r.dok, r.dk1, r.dk2, r.keep⟩
  rcases wipeQ_some e with rfl | ⟨e1, e2⟩
  · exact True.intro
  · rw [wipe_out e2]
    exact r.sl i s e1
/-- the slots vs as they were -/
def rstQ : List Nat → En → En → En
  | [], _, ρ' => ρ'
  | v :: vs, ρ, ρ' => (rstQ vs ρ ρ').set v (ρ.getD v .un)
theorem rstQ_length (ρ ρ' : En) : ∀ vs : List Nat, (rstQ vs ρ ρ').length = ρ'.length
  | [] => rfl
  | v :: vs => by unfold rstQ; rw [List.length_set, rstQ_length ρ ρ' vs]
theorem rstQ_some {i : Nat} {s : Sl} : ∀ {vs : List Nat}, (rstQ vs ρ ρ')[i]? = some s → (i ∈ vs ∧ s = ρ.getD i .un) ∨ (i ∉ vs ∧ ρ'[i]? = some s)
  | [], h => .inr ⟨by simp, h⟩
  | v :: vs, h => by
    unfold rstQ at h
    by_cases hi : v = i
    · subst hi
      have hv : v < (rstQ vs ρ ρ').length := by
        have := (List.getElem?_eq_some_iff.mp h).1
        rwa [List.length_set] at this
      rw [List.getElem?_set_self hv] at h; cases h
      exact .inl ⟨List.mem_cons_self, rfl⟩
    · rw [List.getElem?_set_ne hi] at h
      rcases rstQ_some h with ⟨q1, q2⟩ | ⟨q1, q2⟩
      · exact .inl ⟨List.mem_cons_of_mem _ q1, q2⟩
      · exact .inr ⟨by simp only [List.mem_cons, not_or]; exact ⟨fun e => hi e.symm, q1⟩, q2⟩
def noOwn (ρ : En) (vs : List Nat) : Bool := vs.all fun v => !(ρ.getD v .un).isOwn
theorem Rel.rst {H1 : Hp} {vs : List Nat} (r1 : Rel K dk H0 ρ σ H1) (no : noOwn ρ vs = true) (ex : Ex H1 H) (r : Rel K dk H0 ρ' (L2.wipe σ vs) H) : Rel K dk H0 (rstQ vs ρ ρ') σ H := by
  have hl : ρ'.length = σ.length := by rw [r.len, wipe_length]
  have no' : ∀ v ∈ vs, (ρ.getD v .un).isOwn = false := fun v hv => by
    have := List.all_eq_true.mp no v hv
    simpa using this
  have back : ∀ {j a}, OwnAt (rstQ vs ρ ρ') σ j a → OwnAt ρ' (L2.wipe σ vs) j a := by
    rintro j a ⟨s, e, h1, h2⟩
    rcases rstQ_some e with ⟨q1, rfl⟩ | ⟨q1, q2⟩
    · rw [no' j q1] at h1; cases h1
    · exact ⟨s, q2, h1, by rw [wipe_out q1]; exact h2⟩
  refine ⟨by rw [rstQ_length, hl], fun i s e => ?_, fun i j a h1 h2 => r.ap i j a (back h1) (back h2), r.dok, r.dk1, r.dk2, r.keep⟩
  rcases rstQ_some e with ⟨q1, rfl⟩ | ⟨q1, q2⟩
  · rw [List.getD_eq_getElem?_getD]
    cases e2 : ρ[i]? with
    | none => exact True.intro
    | some s =>
      have q := (r1.sl i s e2).ex ex fun a o w1 _ _ => by
        have := no' i q1
        rw [List.getD_eq_getElem?_getD, e2] at this
        rw [show s.isOwn = false from this] at w1
        cases w1
      exact q
  · have q := r.sl i s q2
    rw [wipe_out q1] at q
    exact q
end
section
variable {X : Cx} {pos : Pos} {a b c e : Expr} {ta tb tc t : TQ} {es : List Expr}
def upD (K : PySem.W.Frag) (dk : Dk) (H0 : Hp) (t : TQL) : TA := fun σ H Q => ∃ ρ R, Rel K dk H0 ρ σ H ∧ t ρ R ∧ ∀ xs ρ' vs H', R xs ρ' → FzAll K H' vs xs → Rel K dk H0 ρ' σ H' → Ex H H' → Q vs H'
structure QDs (X : Cx) (es : List Expr) (t : TQL) : Prop where
  run : ∀ dk H0, PA X es (upD X.K dk H0 t)
def dNil : TQL := fun ρ R => R [] ρ
def dCons (te : TQ) (t : TQL) : TQL := fun ρ R => te ρ fun x ρ1 => t ρ1 fun xs ρ2 => R (x :: xs) ρ2
theorem qd_nil : QDs X [] dNil := ⟨fun dk H0 => PA.imp pa_nil fun σ H Q ⟨ρ, R, rel, h, k⟩ => k [] ρ [] H h .nil rel (Ex.refl H)⟩
theorem qd_cons {te : TQ} {t : TQL} (he : QE X e te) (ht : QDs X es t) (hs : starEach (e :: es) X.env = (false, eval e X.env) :: starEach es X.env := by rfl) : QDs X (e :: es) (dCons te t) :=
  ⟨fun dk H0 => PA.imp (pa_cons (he.run dk H0) (ht.run dk H0) hs) fun σ H Q ⟨ρ, R, rel, h, k⟩ =>
    ⟨ρ, _, rel, h, fun x ρ1 v H1 hx fz rel1 ex1 => ⟨ρ1, _, rel1, hx, fun xs ρ2 vs H2 hxs fzs rel2 ex2 => k (x :: xs) ρ2 (v :: vs) H2 hxs (.cons (fz.mono ex2) fzs) rel2 (ex1.trans ex2)⟩⟩⟩
/-- (a, b, ..) -/
def tTupQ (t : TQL) : TQ := fun ρ R => t ρ fun xs ρ1 => xs.length ≤ 1000 ∧ R (.tuple xs) ρ1
theorem q_tup {t : TQL} {k} (h : QDs X es t) : QE X (.Tuple es k pos) (tTupQ t) :=
  ⟨fun dk H0 => PE.imp (pe_tup (h.run dk H0)) fun σ H Q ⟨ρ, R, rel, h, k⟩ =>
    ⟨ρ, _, rel, h, fun xs ρ1 vs H1 hxs fz rel1 ex1 => ⟨by have := fz.length; have := small1000 hxs.1; omega, fun p hp =>
      have sm := same_upd (o := .tup vs) hp
      k _ ρ1 _ _ hxs.2 (.tup (.inl (.inl upd_same)) (fz.mono (ex_same sm))) (rel1.same sm) (ex1.trans (ex_same sm))⟩⟩⟩
/-- [a, b, ..], a list that no one holds yet -/
def tLstQ (t : TQL) : TQL := fun ρ R => t ρ fun xs ρ1 => xs.length ≤ 1000 ∧ R xs ρ1
theorem ql_lst {t : TQL} (h : QDs X es t) : QL X (.List es pos) (tLstQ t) :=
  ⟨fun dk H0 => PE.imp (pe_lst (h.run dk H0)) fun σ H Q ⟨ρ, R, rel, h, k⟩ =>
    ⟨ρ, _, rel, h, fun xs ρ1 vs H1 hxs fz rel1 ex1 => ⟨by have := fz.length; have := small1000 hxs.1; omega, fun p hp =>
      have sm := same_upd (o := .lst vs) hp
      k _ ρ1 _ _ _ hxs.2 upd_same (fz.mono (ex_same sm)) (rel1.fresh0 hp) (rel1.freshOwn hp) (rel1.same sm) (ex1.trans (ex_same sm))⟩⟩⟩
/-- a new list, frozen at once -/
def tFz (t : TQL) : TQ := fun ρ R => t ρ fun xs ρ1 => R (.list xs) ρ1
theorem Rel.freeze {K : PySem.W.Frag} {dk : Dk} {H0 H : Hp} {ρ : En} {σ : L2.St} {p : Addr} {vs : List V} {o : HO} (r : Rel K dk H0 ρ σ H) (h : H p = some (.lst vs)) (n0 : H0 p = none) (no : ∀ j, ¬ OwnAt ρ σ j p) : Rel K dk H0 ρ σ (upd H p o) ∧ Ex H (upd H p o) := by
  have ex : Ex H (upd H p o) := ex_own h (.inl ⟨_, rfl⟩)
  refine ⟨⟨r.len, fun i s e => (r.sl i s e).ex ex fun a ob w1 w2 w3 => ?_, r.ap, ?_, r.dk1, r.dk2, fun a ob e h1 h2 => ?_⟩, ex⟩
  · rw [upd_ne]; exact w3
    rintro rfl
    exact no i ⟨s, e, w1, w2⟩
  · obtain ⟨n, cs, m, k, g1, g2, g3⟩ := r.dok
    refine ⟨n, cs, m, k, ?_, ?_, g3⟩
    · rw [upd_ne]; exact g1
      intro z; exact r.dk1 (by rw [z]; exact n0)
    · rw [upd_ne]; exact g2
      intro z; exact r.dk2 (by rw [z]; exact n0)
  · rw [upd_ne]; exact r.keep a ob e h1 h2
    rintro rfl; rw [n0] at e; cases e
theorem q_frz {t : TQL} (h : QL X e t) : QE X e (tFz t) := by
  refine ⟨fun dk H0 => ⟨fun pins s σ H Q I ⟨ρ, R, rel, h0, k⟩ => ?_⟩⟩
  let Q1 : VK := fun v H1 => ∃ xs ρ1 p vs, v = .ref p ∧ R (.list xs) ρ1 ∧ H1 p = some (.lst vs) ∧ FzAll X.K H1 vs xs ∧ H0 p = none ∧ (∀ j, ¬ OwnAt ρ1 σ j p) ∧ Rel X.K dk H0 ρ1 σ H1 ∧ Ex H H1
  refine thn ((h.run dk H0).run pins s σ H Q1 I ⟨ρ, _, rel, h0, fun xs ρ1 p vs H1 q1 q2 q3 q4 q5 q6 q7 => ⟨xs, ρ1, p, vs, rfl, q1, q2, q3, q4, q5, q6, q7⟩⟩) fun u s1 ⟨v, H1, I1, rv, xs, ρ1, p, vs, e, q1, q2, q3, q4, q5, q6, q7⟩ => ?_
  subst e
  obtain ⟨od, I2⟩ := I1.lock q2 True.intro
  obtain ⟨r2, ex⟩ := q6.freeze (o := .frz od (.lst vs)) q2 q4 q5
  exact ⟨.ref p, _, I2, rv, k (.list xs) ρ1 (.ref p) _ q1 (.lst upd_same (q3.mono ex)) r2 (q7.trans ex)⟩

/-- x[i] -/
def ixD : C2 := fun x y R => match x, y with
  | .list xs, .int i => ∃ v, atI xs i = some v ∧ R v
  | .tuple xs, .int i => ∃ v, atI xs i = some v ∧ R v
  | .str z, .int i => z.length ≤ sizeLine ∧ ∃ c, atI z.cps.toList i = some c ∧ R (.str ⟨#[c]⟩)
  | _, _ => False
theorem atI_fz {K : PySem.W.Frag} {H : Hp} {vs : List V} {xs : List PyData} {i : Int} {x : PyData} (f : FzAll K H vs xs) (h : atI xs i = some x) : ∃ v, atI vs i = some v ∧ Fz K H v x := by
  unfold atI at h ⊢
  rw [← f.length] at h
  cases e : ixN vs.length i with
  | none => rw [e] at h; cases h
  | some j =>
    rw [e] at h
    exact f.at h
theorem br_ix : Br2 X.K (rIx X.K) ixD := by
  intro x y v u H Q R h1 h2 c k
  cases h1 with
  | lst q t =>
    cases h2 <;> first | exact c.elim | skip
    obtain ⟨z, hz, c⟩ := c
    obtain ⟨w, hw, fw⟩ := atI_fz t hz
    exact .inl ⟨_, _, _, w, rfl, rfl, .inl (.inr ⟨_, q⟩), hw, k z w H c fw (Same.refl H)⟩
  | tup q t =>
    cases h2 <;> first | exact c.elim | skip
    obtain ⟨z, hz, c⟩ := c
    obtain ⟨w, hw, fw⟩ := atI_fz t hz
    exact .inr (.inl ⟨_, _, _, w, rfl, rfl, q, hw, k z w H c fw (Same.refl H)⟩)
  | str z =>
    cases h2 <;> first | exact c.elim | skip
    obtain ⟨c1, cc, c2, c3⟩ := c
    exact .inr (.inr ⟨_, _, cc, rfl, rfl, c1, c2, k _ _ H c3 (.str _) (Same.refl H)⟩)
  | _ => cases h2 <;> exact c.elim
theorem q_ix (ha : QE X a ta) (hb : QE X b tb) (hs : PlainIx b := by intro _ _; rfl) : QE X (.Subscript a b pos) (t2 ixD ta tb) :=
  ⟨fun dk H0 => PE.imp (pe_ix ix_seq (ha.run dk H0) (hb.run dk H0) hs) (up_op br_ix)⟩
end
end Q
end P3
section P4
namespace Q
open PySem PySem.Spec PyProof.Rows L2 HT
section
variable {prog : Program} {w : World} {A : Around} {E : Value → Shared → Prop} {s : Shared}
theorem rev_pick (xs : Array Value) : ((List.range xs.size).filterMap fun (k : Nat) => xs[((xs.size : Int) - 1 + (k : Int) * (-1)).toNat]?).toArray = xs.toList.reverse.toArray := by
  have e : (fun (k : Nat) => xs[((xs.size : Int) - 1 + (k : Int) * (-1)).toNat]?) = (fun k => xs[k]?) ∘ fun k => xs.size - 1 - k := by
    funext k
    show xs[_]? = xs[_]?
    by_cases h : k < xs.size
    · rw [show ((xs.size : Int) - 1 + (k : Int) * (-1)).toNat = xs.size - 1 - k by omega]
    · rw [show ((xs.size : Int) - 1 + (k : Int) * (-1)).toNat = xs.size - 1 - k by omega]
  rw [e, ← List.filterMap_map, PySem.W.krv_range, List.filterMap_reverse, PySem.W.krv_all]
theorem sliceApplied_rev {sl : Addr} {u : Tok} {n : Nat} {Q : Int × Int × Nat → Shared → Prop} (hs : s.heap.IsSliceOf sl .none .none (.int (-1) u))
    (h : Q ((n : Int) - 1, -1, n) s) : wpAny (model prog w) A (Builtin.Slice.sliceApplied (.ref sl) (pure (n : Int))) Q E s := by
  obtain ⟨os, hos, hcs, hds⟩ := id hs
  unfold Builtin.Slice.sliceApplied Builtin.Slice.sliceFields
  refine wpAny_bind (wpAny_bind (wpAny_field hos hds (x := .none) rfl (wpAny_bind (wpAny_field hos hds (x := .none) rfl (wpAny_bind (wpAny_field hos hds (x := .int (-1) u) rfl (wpAny_pure ?_)))))))
  refine wpAny_bind (slicePart_int ?_)
  show wpAny _ _ (if ((-1 : Int) == 0) = true then _ else _) _ _ s
  rw [if_neg (by decide)]
  refine wpAny_bind (slicePart_none (wpAny_bind (slicePart_none (wpAny_bind (wpAny_pure ?_)))))
  have e : Builtin.Slice.sliceAdjust none none (-1) (n : Int) = ((n : Int) - 1, -1) := rfl
  show wpAny _ _ (match Builtin.Slice.sliceAdjust none none (-1) (n : Int) with | (lo, hi) => pure (lo, (-1 : Int), Builtin.Slice.slicePlaces lo hi (-1))) _ _ s
  rw [e]
  show wpAny _ _ (pure ((n : Int) - 1, (-1 : Int), Builtin.Slice.slicePlaces ((n : Int) - 1) (-1) (-1))) _ _ s
  have e2 : Builtin.Slice.slicePlaces ((n : Int) - 1) (-1) (-1) = n := by
    unfold Builtin.Slice.slicePlaces
    have h1 : ¬ ((-1 : Int) > 0) := by omega
    simp only [h1, if_false]
    split
    · show (((n : Int) - 1 - -1 - 1) / (- -1) + 1).toNat = n
      rw [show (- (-1) : Int) = 1 from rfl, Int.ediv_one]; omega
    · show (0 : Int).toNat = n
      omega
  rw [e2]
  exact wpAny_pure h
theorem getItem_tuple_rev {t sl : Addr} {items : Array Value} {u : Tok} {Q : Value → Shared → Prop} (ht : IsTup s.heap t items) (hs : s.heap.IsSliceOf sl .none .none (.int (-1) u))
    (h : Q (.ref s.heap.objs.size) { s with heap := s.heap.push { cls := .type "tuple", data := .seq items.toList.reverse.toArray } })
    (hsz : items.size ≤ sizeLine) : wpAny (model prog w) A (getItem (.ref t) (.ref sl)) Q E s := by
  have htake : sizeOk (.seq items.toList.reverse.toArray) := by
    show items.toList.reverse.toArray.size ≤ sizeLine
    rw [List.size_toArray, List.length_reverse, Array.length_toList]
    omega
  obtain ⟨os, hos, hcs, hds⟩ := id hs
  have hTs : s.TypeIs (.ref sl) "slice" := ⟨os, hos, hcs⟩
  unfold getItem
  try with_reducible refine wpAny_holding ?_
  first | refine wpAny_bind (wpAny_pure ?_) | skip
  refine wpAny_bind (wpAny_sequenceKey ht.typeIs (by decide) ?_)
  refine wpAny_bind (wpAny_callSpecial?_slot (name := Str.ofString "__getitem__") ht.typeIs PyProof.Rows.slot_tuple_getitem
    (wpAny_call_entry PyProof.Rows.slot_tuple_getitem ht.typeIs entry_tuple_getitem ?_ (args_tuple_getitem _ _)))
  show wpAny _ _ (Builtin.Tuple.tupleItemsOf (.ref t) >>= _) _ _ s
  refine wpAny_bind (tupleItemsOf_ ht ?_)
  refine wpAny_bind (wpAny_typeOf hTs ?_)
  rw [if_pos (by decide)]
  refine wpAny_bind (sliceApplied_rev hs ?_)
  have hno : ¬ ((((items.size : Int) - 1) == 0 && (-1 : Int) == 1 && items.size == items.size) = true) := by
    intro q
    rw [Bool.and_eq_true, Bool.and_eq_true] at q
    exact absurd (eq_of_beq q.1.2) (by decide)
  show wpAny _ _ (if (((items.size : Int) - 1) == 0 && (-1 : Int) == 1 && items.size == items.size) = true then _ else _) _ _ s
  rw [if_neg hno, rev_pick]
  first
    | exact wpAny_bind (m := Builtin.Tuple.tupleExact _) (wpAny_newObj_type (wpAny_pure ⟨_, rfl, wpAny_pure h⟩) htake)
    | exact wpAny_bind (m := Builtin.Tuple.tupleExact _) (wpAny_newObj_type (wpAny_bind (wpAny_pure (wpAny_pure ⟨_, rfl, wpAny_pure h⟩))) htake)
    | exact wpAny_bind (wpAny_bind (m := Builtin.Tuple.tupleExact _) (wpAny_newObj_type (wpAny_pure (wpAny_pure ⟨_, rfl, wpAny_pure h⟩)) htake))
    | exact wpAny_bind (wpAny_bind (m := Builtin.Tuple.tupleExact _) (wpAny_newObj_type (wpAny_pure ⟨_, rfl, wpAny_pure h⟩) htake))
end
section
variable {X : Cx} {pos : Pos} {a b c e : Expr} {ta tb tc t te : TQ} {es : List Expr}
/-- a new list among the answers is frozen at once -/
theorem pe_fz {t : TE} (h : PE X e t) : PE X e (fun σ H Q => t σ H fun v H1 => Q v H1 ∨ ∃ p vs, v = .ref p ∧ H1 p = some (.lst vs) ∧ ∀ od, Q v (upd H1 p (.frz od (.lst vs)))) := by
  refine ⟨fun pins s σ H Q I h0 => ?_⟩
  refine thn (h.run pins s σ H _ I h0) fun u s1 ⟨v, H1, I1, rv, q⟩ => ?_
  rcases q with q | ⟨p, vs, rfl, hp, q⟩
  · exact ⟨v, H1, I1, rv, q⟩
  · obtain ⟨od, I2⟩ := I1.lock hp True.intro
    exact ⟨.ref p, _, I2, rv, q od⟩
theorem ex_new {H : Hp} {p : Addr} {o : HO} (n : H p = none) : Ex H (upd H p o) := ex_same (same_upd n)
theorem frz_new {K : PySem.W.Frag} {H : Hp} {p : Addr} {vs : List V} {xs : List PyData} (n : H p = none) (f : FzAll K H vs xs) (od : Obj) : Fz K (upd (upd H p (.lst vs)) p (.frz od (.lst vs))) (.ref p) (.list xs) ∧ Same H (upd (upd H p (.lst vs)) p (.frz od (.lst vs))) := by
  rw [upd_upd]
  exact ⟨.lst upd_same (f.mono (ex_new n)), same_upd n⟩
/-- x[::-1] -/
def revD : C1 := fun x R => match x with
  | .list xs => R (.list xs.reverse)
  | .tuple xs => R (.tuple xs.reverse)
  | _ => False
theorem pe_revA {e : Expr} {te : TE} {k : Nat} {p1 p2 p3 pos : Pos} (he : PE X e te) : PE X (.Subscript e (.Slice none none (some (.UnaryOp .USub (.Constant (.int 1) k p1) p2)) p3) pos)
    (fun σ H Q => te σ H fun x H1 => ∃ a xs, x = .ref a ∧ ((SqL X.K H1 a xs ∧ ∀ p, H1 p = none → Q (.ref p) (upd H1 p (.lst xs.reverse))) ∨ (SqT X.K H1 a xs ∧ ∀ p, H1 p = none → Q (.ref p) (upd H1 p (.tup xs.reverse))))) := by
  refine ⟨fun pins s σ H Q I h => ?_⟩
  refine Subscript_ (thn (he.run pins s σ H _ I h) fun v s1 ⟨x, H1, I1, r1, q1⟩ => ?_)
  obtain ⟨a, xs, ex, q1⟩ := q1
  subst ex
  cases r1
  have hst : PO X (some (.UnaryOp .USub (.Constant (.int 1) k p1) p2)) (tPart (tUn (rU fun i => .int (-i)) (tC (.int 1)))) := po_some (pe_un un_neg pe_int)
  refine wpAny_Slice (thn (po_none.run pins s1 σ H1 (fun o H2 => o = none ∧ H2 = H1) I1 ⟨rfl, rfl⟩) fun vl s2 ⟨l, H2, I2, pl, el, e2⟩ => ?_)
  subst el e2
  refine thn (po_none.run pins s2 σ H2 (fun o H3 => o = none ∧ H3 = H2) I2 ⟨rfl, rfl⟩) fun vu s3 ⟨u, H3, I3, pu, eu, e3⟩ => ?_
  subst eu e3
  refine thn (hst.run pins s3 σ H3 (fun o H4 => o = some (-1) ∧ H4 = H3) I3 ⟨1, rfl, -1, rfl, rfl, rfl⟩) fun vs s4 ⟨o, H4, I4, ps, eo, e4⟩ => ?_
  subst eo e4
  have I5 : Inv X pins σ H4 { s4 with heap := s4.heap.push { cls := .type "slice", data := .fields #[vl, vu, vs] } } := I4.kept (t' := s4.toks) fun b ob q => Heap.get?_push_of_some _ q
  show wpAny (model X.prog X.w) X.A (subscriptTail e (.Slice none none (some (.UnaryOp .USub (.Constant (.int 1) k p1) p2)) p3) (.ref a) (.ref s4.heap.objs.size)) (EP X pins σ Q) X.xe { s4 with heap := s4.heap.push { cls := .type "slice", data := .fields #[vl, vu, vs] } }
  rcases q1 with ⟨hx, q⟩ | ⟨hx, q⟩
  · obtain ⟨its, r, ht, hz⟩ := I5.list hx
    have hlen := r.length
    refine tail_any (ops := [.ref a, .ref s4.heap.objs.size]) ht.isList.typeIs (PySem.slot_list_getitem.lookup) ?_ (by with_unfolding_all rfl)
    refine wpAny_getItem_list_slice ht.isList (Heap.IsSliceOf.new _ vl vu vs) pl pu ps (by decide) ?_ (by rw [List.size_toArray]; omega)
    rw [PySem.W.krv_pick]
    refine ⟨.ref _, _, I5.laid (t' := s4.toks) (o := .lst xs.reverse) (fun b ob q => Heap.get?_push_of_some _ q) (Nat.le_refl _) ?_, rfl, q _ (I5.hok.fresh (Nat.le_refl _))⟩
    exact ⟨by rw [List.length_reverse]; exact hz, _, 0, r.reverse, Heap.get?_push_size _ rfl⟩
  · obtain ⟨its, r, ht, hz⟩ := I5.tuple hx
    have hlen := r.length
    cases pl
    cases pu
    cases ps
    refine tail_any (ops := [.ref a, .ref s4.heap.objs.size]) ht.typeIs (PyProof.Rows.slot_tuple_getitem.lookup) ?_ (by with_unfolding_all rfl)
    refine getItem_tuple_rev ht (Heap.IsSliceOf.new _ .none .none _) ?_ (by rw [List.size_toArray]; omega)
    refine ⟨.ref _, _, I5.laid (t' := s4.toks) (o := .tup xs.reverse) (fun b ob q => Heap.get?_push_of_some _ q) (Nat.le_refl _) ?_, rfl, q _ (I5.hok.fresh (Nat.le_refl _))⟩
    exact ⟨by rw [List.length_reverse]; exact hz, _, r.reverse, IsTup.new _ _⟩
theorem q_rev {k : Nat} {p1 p2 p3 pos : Pos} (he : QE X e te) : QE X (.Subscript e (.Slice none none (some (.UnaryOp .USub (.Constant (.int 1) k p1) p2)) p3) pos) (t1 revD te) :=
  ⟨fun dk H0 => PE.imp (pe_fz (pe_revA (he.run dk H0))) fun σ H Q ⟨ρ, R, rel, h, k⟩ => ⟨ρ, _, rel, h, fun x ρ1 v H1 hx fz rel1 ex1 => by
    cases fz with
    | lst q t =>
      refine ⟨_, _, rfl, .inl ⟨.inl (.inr ⟨_, q⟩), fun p hp => .inr ⟨p, _, rfl, upd_same, fun od => ?_⟩⟩⟩
      obtain ⟨f, sm⟩ := frz_new hp t.reverse od
      exact k _ ρ1 _ _ hx f (rel1.same sm) (ex1.trans (ex_same sm))
    | @tup a xs ds q t =>
      refine ⟨_, _, rfl, .inr ⟨q, fun p hp => .inl ?_⟩⟩
      have sm := same_upd (o := .tup xs.reverse) hp
      exact k _ ρ1 _ _ hx (.tup (.inl (.inl upd_same)) (t.reverse.mono (ex_same sm))) (rel1.same sm) (ex1.trans (ex_same sm))
    | _ => exact hx.elim⟩⟩
/-- slices -/
abbrev TQO := En → (Option Int → En → Prop) → Prop
theorem PO.imp {e : Option Expr} {t t' : TO} (h : PO X e t) (w : ∀ σ H Q, t' σ H Q → t σ H Q) : PO X e t' := ⟨fun pins s σ H Q I q => h.run pins s σ H Q I (w _ _ _ q)⟩
def oSome (te : TQ) : TQO := fun ρ R => te ρ fun x ρ1 => match x with
  | .int i => R (some i) ρ1
  | _ => False
def cutD (xs : List PyData) (lo hi : Option Int) : List PyData := (xs.drop (HT.sIx xs.length 0 lo)).take (HT.sIx xs.length xs.length hi - HT.sIx xs.length 0 lo)
def slD (x : PyData) (lo hi : Option Int) (R : PyData → Prop) : Prop := match x with
  | .list xs => R (.list (cutD xs lo hi))
  | .tuple xs => R (.tuple (cutD xs lo hi))
  | .str z => z.length ≤ sizeLine ∧ R (.str (cutS z lo hi))
  | _ => False
def tSlQ (te : TQ) (tl th : TQO) : TQ := fun ρ R => te ρ fun x ρ1 => tl ρ1 fun lo ρ2 => th ρ2 fun hi ρ3 => slD x lo hi fun z => R z ρ3
end
end Q
end P4
section P5
namespace Q
open PySem PySem.Spec PyProof.Rows L2 HT
abbrev TGQ := PyData → En → (En → Prop) → Prop
abbrev TGsQ := List PyData → En → (En → Prop) → Prop
def upG (K : PySem.W.Frag) (dk : Dk) (H0 : Hp) (is : List Nat) (g : TGQ) : TG := fun v σ H Q => ∃ x ρ R, Fz K H v x ∧ Rel K dk H0 ρ σ H ∧ g x ρ R ∧ ∀ ρ' σ', R ρ' → Rel K dk H0 ρ' σ' H → (∀ vs : List Nat, (∀ i ∈ is, i ∈ vs) → wipe σ' vs = wipe σ vs) → Q σ' H
def upGs (K : PySem.W.Frag) (dk : Dk) (H0 : Hp) (is : List Nat) (g : TGsQ) : TGs := fun v σ H Q => ∃ x ρ R, FzAll K H v x ∧ Rel K dk H0 ρ σ H ∧ g x ρ R ∧ ∀ ρ' σ', R ρ' → Rel K dk H0 ρ' σ' H → (∀ vs : List Nat, (∀ i ∈ is, i ∈ vs) → wipe σ' vs = wipe σ vs) → Q σ' H
structure QG (X : Cx) (tg : Expr) (is : List Nat) (g : TGQ) : Prop where
  run : ∀ dk H0, PG X tg (upG X.K dk H0 is g)
structure QGs (X : Cx) (tgs : List Expr) (is : List Nat) (g : TGsQ) : Prop where
  run : ∀ dk H0, PGs X tgs (upGs X.K dk H0 is g)
section
variable {X : Cx} {pos : Pos}
theorem PG.imp {tg : Expr} {g g' : TG} (h : PG X tg g) (w : ∀ v σ H Q, g' v σ H Q → g v σ H Q) : PG X tg g' := ⟨fun pins s σ H v u Q I r q => h.run pins s σ H v u Q I r (w _ _ _ _ q)⟩
theorem PGs.imp {tg : List Expr} {g g' : TGs} (h : PGs X tg g) (w : ∀ v σ H Q, g' v σ H Q → g v σ H Q) : PGs X tg g' := ⟨fun pins s σ H v u Q I r q => h.run pins s σ H v u Q I r (w _ _ _ _ q)⟩
def gN (i : Nat) : TGQ := fun x ρ R => R (ρ.set i (.d x))
theorem qg_name (i : Nat) {x : Str} (hN : X.N.Nodup) (hi : X.N[i]? = some x := by rfl) (hx : Loc X.env.scope x := by first | exact Or.inl rfl | exact Or.inr rfl)
    (hf : X.fn x = true ∨ X.env.scope.names.lookup x = some .local := by first | exact .inl rfl | exact .inr rfl) : QG X (.Name x pos) [i] (gN i) :=
  ⟨fun dk H0 => PG.imp (pg_name hN hi hx hf) fun v σ H Q ⟨x, ρ, R, fz, rel, h, k⟩ => k _ _ h (rel.set ⟨v, rfl, fz⟩ fun a z => nomatch z) fun vs hv => wipe_set (hv i (by simp))⟩
def gsNil : TGsQ := fun xs ρ R => xs = [] ∧ R ρ
def gsCons (g : TGQ) (gs : TGsQ) : TGsQ := fun xs ρ R => match xs with
  | [] => False
  | x :: xs => g x ρ fun ρ1 => gs xs ρ1 R
theorem qgs_nil : QGs X [] [] gsNil := ⟨fun dk H0 => PGs.imp pgs_nil fun v σ H Q ⟨x, ρ, R, fz, rel, h, k⟩ => by
  obtain ⟨rfl, h⟩ := h
  cases fz
  exact ⟨rfl, k ρ σ h rel fun _ _ => rfl⟩⟩
theorem qgs_cons {e : Expr} {es : List Expr} {is js : List Nat} {g : TGQ} {gs : TGsQ} (h1 : QG X e is g) (h2 : QGs X es js gs)
    (hs : (assignEach (e :: es) X.env).map (·.2) = assign e X.env :: (assignEach es X.env).map (·.2) := by rfl) : QGs X (e :: es) (is ++ js) (gsCons g gs) :=
  ⟨fun dk H0 => PGs.imp (pgs_cons (h1.run dk H0) (h2.run dk H0) hs) fun v σ H Q ⟨x, ρ, R, fz, rel, h, k⟩ => by
    cases fz with
    | nil => exact h.elim
    | cons fa fb =>
      refine ⟨_, _, rfl, _, ρ, _, fa, rel, h, fun ρ1 σ1 h1 rel1 w1 => ⟨_, ρ1, R, fb, rel1, h1, fun ρ2 σ2 hr rel2 w2 => k ρ2 σ2 hr rel2 fun vs hv => ?_⟩⟩
      rw [w2 vs fun i hi => hv i (List.mem_append_right _ hi), w1 vs fun i hi => hv i (List.mem_append_left _ hi)]⟩
def gT (n : Nat) (gs : TGsQ) : TGQ := fun x ρ R => match x with
  | .tuple xs => xs.length = n ∧ gs xs ρ R
  | _ => False
theorem qg_tup {es : List Expr} {k n : Nat} {is : List Nat} {gs : TGsQ} (hc : X.calm = true) (h : QGs X es is gs)
    (hn : (assignEach es X.env).length = n := by rfl) (hst : (assignEach es X.env).findIdx? (·.1) = none := by rfl) : QG X (.Tuple es k pos) is (gT n gs) :=
  ⟨fun dk H0 => PG.imp (pg_tup hc (h.run dk H0) hn hst) fun v σ H Q ⟨x, ρ, R, fz, rel, h, k⟩ => by
    cases fz with
    | tup q t => exact ⟨_, _, rfl, q, by rw [t.length]; exact h.1, _, ρ, R, t, rel, h.2, k⟩
    | _ => exact h.elim⟩
end
structure WalkD (K : PySem.W.Frag) (J : It) (ds : List PyData) (G : Hp → Prop) : Prop where
  goes : ∀ i H, i < ds.length → G H → J.go i H
  stops : ∀ H, G H → J.stop ds.length H
  yields : ∀ i H x H', i < ds.length → G H → J.yld i H x H' → ∃ d, ds[i]? = some d ∧ Fz K H' x d ∧ Same H H'
  stay : ∀ H H', G H → Ex H H' → G H'
def upI (K : PySem.W.Frag) (dk : Dk) (H0 : Hp) (t : TQL) : TI := fun σ H Q => ∃ ρ R, Rel K dk H0 ρ σ H ∧ t ρ R ∧ ∀ ds ρ' J G H', R ds ρ' → ds.length ≤ sizeLine → WalkD K J ds G → G H' → Rel K dk H0 ρ' σ H' → Ex H H' → Q J H'
structure QI (X : Cx) (tg iter : Expr) (t : TQL) : Prop where
  run : ∀ dk H0, PI X tg iter (upI X.K dk H0 t)
section
variable {X : Cx} {pos : Pos} {tg e a b : Expr} {te ta tb : TQ}
theorem PI.imp {tg iter : Expr} {g g' : TI} (h : PI X tg iter g) (w : ∀ σ H Q, g' σ H Q → g σ H Q) : PI X tg iter g' := ⟨fun pins s σ H Q I q => h.run pins s σ H Q I (w _ _ _ q)⟩
def G1 (K : PySem.W.Frag) (a : Addr) (o : Obj) (vs : List V) (ds : List PyData) : Hp → Prop := fun H => H a = some (.frz o (.lst vs)) ∧ FzAll K H vs ds
def G2 (K : PySem.W.Frag) (a : Addr) (vs : List V) (ds : List PyData) : Hp → Prop := fun H => SqT K H a vs ∧ FzAll K H vs ds
theorem wd_list {K : PySem.W.Frag} {a : Addr} {o : Obj} {vs : List V} {ds : List PyData} : WalkD K (Itl K a) ds (G1 K a o vs ds) := by
  refine ⟨fun i H hi ⟨q, f⟩ => ?_, fun H ⟨q, f⟩ => ?_, fun i H x H' hi ⟨q, f⟩ y => ?_, fun H H' ⟨q, f⟩ ex => ⟨ex.frz _ _ _ q, f.mono ex⟩⟩
  · exact ⟨vs, vs[i]'(by rw [f.length]; exact hi), .inl (.inr ⟨o, q⟩), by simp [f.length, hi]⟩
  · exact ⟨vs, .inl (.inr ⟨o, q⟩), by rw [f.length]; exact Nat.le_refl _⟩
  · obtain ⟨rfl, y⟩ := y
    obtain ⟨d, hd, fd⟩ := f.get (y vs (.inl (.inr ⟨o, q⟩)))
    exact ⟨d, hd, fd, Same.refl _⟩
theorem wd_tup {K : PySem.W.Frag} {a : Addr} {vs : List V} {ds : List PyData} : WalkD K (Itt K a) ds (G2 K a vs ds) := by
  refine ⟨fun i H hi ⟨q, f⟩ => ?_, fun H ⟨q, f⟩ => ?_, fun i H x H' hi ⟨q, f⟩ y => ?_, fun H H' ⟨q, f⟩ ex => ⟨ex.sqT q, f.mono ex⟩⟩
  · exact ⟨vs, vs[i]'(by rw [f.length]; exact hi), q, by simp [f.length, hi]⟩
  · exact ⟨vs, q, by rw [f.length]; exact Nat.le_refl _⟩
  · obtain ⟨rfl, y⟩ := y
    obtain ⟨d, hd, fd⟩ := f.get (y vs q)
    exact ⟨d, hd, fd, Same.refl _⟩
def chars (z : Str) : List PyData := z.cps.toList.map fun c => .str ⟨#[c]⟩
theorem wd_str {K : PySem.W.Frag} {z : Str} : WalkD K (Its z) (chars z) (fun _ => True) := by
  have hl : (chars z).length = z.cps.size := by simp [chars]
  refine ⟨fun i H hi _ => by rw [hl] at hi; exact hi, fun H _ => by show z.cps.size ≤ _; rw [hl]; exact Nat.le_refl _, fun i H x H' hi _ y => ?_, fun _ _ _ _ => True.intro⟩
  obtain ⟨rfl, c, hc, rfl⟩ := y
  refine ⟨.str ⟨#[c]⟩, ?_, .str _, Same.refl _⟩
  rw [Array.getElem?_eq_some_iff] at hc
  obtain ⟨h1, h2⟩ := hc
  simp [chars, h1, h2]
/-- any list, tuple or text -/
def itD (x : PyData) (R : List PyData → Prop) : Prop := match x with
  | .list ds => R ds
  | .tuple ds => R ds
  | .str z => z.length ≤ sizeLine ∧ R (chars z)
  | _ => False
def iQ (te : TQ) : TQL := fun ρ R => te ρ fun x ρ1 => itD x fun ds => R ds ρ1
/-- pyIter of a list, a tuple -/
theorem iter_l {pins : List (Addr × Obj)} {s1 : Shared} {σ : L2.St} {H1 : Hp} {a : Addr} {xs : List V} {R : It → Hp → Prop} (I1 : Inv X pins σ H1 s1) (hq : SqL X.K H1 a xs) (q : R (Itl X.K a) H1) :
    wpAny (model X.prog X.w) X.A (pyIter (.ref a)) (PIE X pins σ tg R) X.xe s1 := by
  obtain ⟨its, rv, p, hz⟩ := I1.list hq
  refine wpAny_pyIter_list p.isList ?_
  refine ⟨s1.heap.objs.size, [s1.heap.objs.size], _, _, H1, rfl, I1.kept (t' := s1.toks) fun b o e => Heap.get?_push_of_some _ e, turn_list a _, ⟨_, Heap.get?_push_size _ rfl, rfl, rfl⟩, fun b hb => ?_, q⟩
  have e : b = s1.heap.objs.size := by simpa using hb
  subst e
  exact I1.fpOk (Nat.le_refl _) (I1.hok.fresh (Nat.le_refl _))
theorem iter_t {pins : List (Addr × Obj)} {s1 : Shared} {σ : L2.St} {H1 : Hp} {a : Addr} {xs : List V} {R : It → Hp → Prop} (I1 : Inv X pins σ H1 s1) (hq : SqT X.K H1 a xs) (q : R (Itt X.K a) H1) :
    wpAny (model X.prog X.w) X.A (pyIter (.ref a)) (PIE X pins σ tg R) X.xe s1 := by
  obtain ⟨its, rv, p, hz⟩ := I1.tuple hq
  refine wpAny_pyIter_tuple (show s1.heap.IsTuple a its.toArray from p) ?_
  refine ⟨s1.heap.objs.size, [s1.heap.objs.size], _, _, H1, rfl, I1.kept (t' := s1.toks) fun b o e => Heap.get?_push_of_some _ e, turn_tuple a _, ⟨_, Heap.get?_push_size _ rfl, rfl, rfl⟩, fun b hb => ?_, q⟩
  have e : b = s1.heap.objs.size := by simpa using hb
  subst e
  exact I1.fpOk (Nat.le_refl _) (I1.hok.fresh (Nat.le_refl _))
theorem qi_e (he : QE X e te) : QI X tg e (iQ te) := by
  refine ⟨fun dk H0 => ⟨fun pins s σ H R I ⟨ρ, R0, rel, h, k⟩ => ?_⟩⟩
  refine thn ((he.run dk H0).run pins s σ H (fun v H1 => ∃ x ρ1, itD x (fun ds => R0 ds ρ1) ∧ Fz X.K H1 v x ∧ Rel X.K dk H0 ρ1 σ H1 ∧ Ex H H1) I ⟨ρ, _, rel, h, fun x ρ1 v H1 hx fz rel1 ex1 => ⟨x, ρ1, hx, fz, rel1, ex1⟩⟩) fun u s1 ⟨v, H1, I1, rv, x, ρ1, hx, fz, rel1, ex1⟩ => ?_
  cases fz with
  | lst q t =>
    cases rv
    obtain ⟨_, _, _, hz⟩ := I1.list (.inl (.inr ⟨_, q⟩))
    exact iter_l I1 (.inl (.inr ⟨_, q⟩)) (k _ ρ1 _ _ H1 hx (by rw [← t.length]; exact hz) wd_list ⟨q, t⟩ rel1 ex1)
  | tup q t =>
    cases rv
    obtain ⟨_, _, _, hz⟩ := I1.tuple q
    exact iter_t I1 q (k _ ρ1 _ _ H1 hx (by rw [← t.length]; exact hz) wd_tup ⟨q, t⟩ rel1 ex1)
  | str z =>
    obtain ⟨tk, rfl⟩ := rv
    have q := k (chars z) ρ1 _ _ H1 hx.2 (by rw [show (chars z).length = z.length by simp [chars, Str.length]]; exact hx.1) wd_str True.intro rel1 ex1
    cases ha : z.cps.all (· < 128)
    · exact wpAny_pyIter_wide ha (pi_one (tk := s1.toks) I1 _ (turn_str _ z tk "str_iterator" (.inr rfl)) ⟨_, Heap.get?_push_size _ rfl, rfl, rfl⟩ q)
    · exact wpAny_pyIter_ascii ha (pi_one (tk := s1.toks) I1 _ (turn_str _ z tk "str_ascii_iterator" (.inl rfl)) ⟨_, Heap.get?_push_size _ rfl, rfl, rfl⟩ q)
  | _ => exact hx.elim
end
end Q
end P5
section P6
namespace Q
open PySem PySem.Spec PyProof.Rows L2 HT
theorem meets_enumerate_newT (l : Addr) (items : Array Value) :
    Meets (Builtin.«enumerate.__new__» ⟨[.type "enumerate", .ref l], []⟩) (fun _ R s => s.heap.IsTuple l items ∧
      R (.ok (.ret (.ref (s.heap.push { cls := .type "tuple_iterator", data := .fields #[.ref l, .int 0 0] }).objs.size)))
        { s with heap := (s.heap.push { cls := .type "tuple_iterator", data := .fields #[.ref l, .int 0 0] }).push { cls := .type "enumerate", data := .fields #[.none, .bool false, .ref s.heap.objs.size, rawInt 0, .none, .none] } }) :=
  .of_wp fun prog w A R s h => by
    obtain ⟨hp, g, d, tk, os⟩ := s; obtain ⟨hl, h⟩ := h
    have hsub := sub_enumerate
    have hL : Heap.IsTuple (Shared.heap ⟨hp, g, d, tk, os⟩) l items := hl
    wp_walk using wpAny_pyIter_tuple hL
    refine wpAny_stack_any fun st => wpAny_pure ?_
    split
    · rename_i c _ _ _ _ _
      cases (c == Value.type "enumerate")
      · wp_walk using wpAny_pyIter_tuple hL
        exact ⟨_, rfl, h⟩
      · wp_walk using wpAny_pyIter_tuple hL
        exact ⟨_, rfl, h⟩
    · wp_walk using wpAny_pyIter_tuple hL
      exact ⟨_, rfl, h⟩
theorem call_enumerate_tup {prog : Program} {w : World} {A : Around} {E : Value → Shared → Prop} {s : Shared} {l : Addr} {items : Array Value} {Q : Value → Shared → Prop} (hL : s.heap.IsTuple l items)
    (h : ∀ h', IsEnum h' (s.heap.objs.size + 1) s.heap.objs.size 0 .none → h'.IsTupleIter s.heap.objs.size l 0 → h'.objs.size = s.heap.objs.size + 2 →
      (∀ b o, s.heap.get? b = some o → h'.get? b = some o) → Q (.ref (s.heap.objs.size + 1)) { s with heap := h' }) :
    wpAny (model prog w) A (call (.type "enumerate") [.ref l]) Q E s := by
  refine callType_new F.called_enumerate (by decide) (F.typeCall_enumerate_1 _) (F.newCall_enumerate_1 _) (fun obj => F.args_object_init_2 obj _) F.entry_enumerate_new
    (meets_enumerate_newT l items) ⟨hL, ?_⟩
  have hz : (s.heap.push { cls := .type "tuple_iterator", data := .fields #[.ref l, .int 0 0] }).objs.size = s.heap.objs.size + 1 := Heap.size_push ..
  show _ ∧ _
  rw [hz]
  have he : IsEnum ((s.heap.push { cls := .type "tuple_iterator", data := .fields #[.ref l, .int 0 0] }).push
      { cls := .type "enumerate", data := .fields #[.none, .bool false, .ref s.heap.objs.size, rawInt 0, .none, .none] }) (s.heap.objs.size + 1) s.heap.objs.size 0 .none := by
    have := Heap.get?_push_size (s.heap.push { cls := .type "tuple_iterator", data := .fields #[.ref l, .int 0 0] })
      (o := { cls := .type "enumerate", data := .fields #[.none, .bool false, .ref s.heap.objs.size, rawInt 0, .none, .none] }) rfl
    rw [hz] at this; exact this
  refine ⟨⟨_, he, rfl⟩, h _ he ⟨_, Heap.get?_push_of_some _ (Heap.get?_push_size _ rfl), rfl, rfl⟩ (by rw [Heap.size_push, hz]) fun b o x => Heap.get?_push_of_some _ (Heap.get?_push_of_some _ x)⟩
def IteT (K : PySem.W.Frag) (a : Addr) : It :=
  ⟨fun i H => ∃ (xs : List V) (x : V), SqT K H a xs ∧ xs[i]? = some x, fun i H v H' => ∃ T x, v = .ref T ∧ H T = none ∧ H' = upd H T (.tup [.int (i : Nat), x]) ∧ ∀ xs, SqT K H a xs → xs[i]? = some x, fun i H => ∃ xs : List V, SqT K H a xs ∧ xs.length ≤ i⟩
theorem turn_enumT {P : Program} {w : World} {K : PySem.W.Frag} {elts : List Expr} {kk : Nat} {tpos : Pos} (a e it : Addr) (hea : e ≠ a) (hia : it ≠ a) :
    Turn P w K (.Tuple elts kk tpos) (IteT K a) [e, it] e (fun i h => (∃ old, IsEnum h e it ((i : Nat) : Int) old) ∧ h.IsTupleIter it a i ∧ e ≠ it) where
  mem := by simp
  obj := fun i h st b hb => by
    obtain ⟨⟨old, he⟩, ⟨o, ho, hc, hd⟩, _⟩ := st
    have e' : b = e ∨ b = it := by simpa using hb
    rcases e' with z | z
    · rw [z]; exact ⟨_, he, fun v q => nomatch q⟩
    · rw [z]; exact ⟨o, ho, fun v q => by rw [hd] at q; cases q⟩
  keep := fun i h h' st k => let ⟨⟨old, he⟩, hi, hne⟩ := st; ⟨⟨old, k e (by simp) _ he⟩, hi.at fun o q => k it (by simp) o q, hne⟩
  item := by
    intro X hP hw hK hc i pins s σ H E I hf st hg
    subst hP hw hK
    obtain ⟨⟨old, he⟩, hit, hne⟩ := st
    obtain ⟨xs, x, hq, hx⟩ := hg
    obtain ⟨its, rv, p, hz⟩ := I.tuple hq
    obtain ⟨u, hu, ru⟩ := rv.get hx
    have hel : e < s.heap.objs.size := Heap.lt_size he
    have hil : it < s.heap.objs.size := by obtain ⟨_, q, _⟩ := hit; exact Heap.lt_size q
    have hlt : i < its.toArray.size := by
      have := (List.getElem?_eq_some_iff.mp hu).1
      simpa using this
    refine wpAny_pyNext_enum_itemD (n := its.toArray.size) (fp := [it, a]) (Draws.tuple (show X.A.in1.handled = none from I.ok.hd hc) it a (Ne.symm hia) its.toArray) he ⟨hit, p⟩ hlt hne (by simp [hne, hea]) fun x' h' tk hPx ho hit' hT hsz hk => ?_
    have ex' : x' = u := by
      have h2 : its.toArray[i]? = some u := by simpa using hu
      rw [h2] at hPx
      exact (Option.some.inj hPx).symm
    subst ex'
    refine ⟨_, rfl, wpAny_letOwnedTupleGo_enum (s := { s with heap := h', toks := tk + 1 }) ho fun h'' he' sb => ?_⟩
    have hT2 : h''.get? s.heap.objs.size = some { cls := .type "tuple", data := .seq #[.int i tk, x'] } := (sb.2 _ (Nat.ne_of_gt hel)).trans hT
    have new : ObjOk X.prog X.w (upd H s.heap.objs.size (.tup [.int (i : Nat), x])) h'' s.heap.objs.size (.tup [.int (i : Nat), x]) :=
      ⟨by show 2 ≤ sizeLine; decide, [.int i tk, x'], .cons ⟨_, rfl⟩ (.cons ru .nil), ⟨_, hT2, rfl, _, rfl⟩⟩
    have I1 : Inv X pins σ (upd H s.heap.objs.size (.tup [.int (i : Nat), x])) { s with heap := h'', toks := tk + 1 } :=
      I.turnedNew (ch := [e, it]) (fun b ob hb q => (sb.2 b (fun z => hb (by simp [z]))).trans (hk b ob (fun z => hb (by simp [z])) (fun z => hb (by simp [z])) q)) hf (Nat.le_refl _) new
    refine ⟨.ref s.heap.objs.size, _, I1, rfl, ⟨_, x, rfl, I.hok.fresh (Nat.le_refl _), rfl, fun ys hy => by rw [I.tuple_inj hy hq]; exact hx⟩, ⟨⟨x', ?_⟩, hit'.1.at fun o q => (sb.2 it (Ne.symm hne)).trans q, hne⟩, fun b hb => ?_⟩
    · have e1 : ((i + 1 : Nat) : Int) = (i : Int) + 1 := by omega
      rw [e1]; exact he'
    · have hb' : b < s.heap.objs.size := by
        have e' : b = e ∨ b = it := by simpa using hb
        rcases e' with z | z
        · rw [z]; exact hel
        · rw [z]; exact hil
      rw [upd_ne (Nat.ne_of_lt hb')]
      exact (hf b hb).1
  done := by
    intro X hP hw hK hc i pins s σ H E I hf st hg
    subst hP hw hK
    obtain ⟨⟨old, he⟩, hit, hne⟩ := st
    obtain ⟨xs, hq, hx⟩ := hg
    obtain ⟨its, rv, p, hz⟩ := I.tuple hq
    obtain ⟨f0, f1, f2, f3, f4, f5⟩ := hf it (by simp)
    have hl := rv.length
    have hT : s.TypeIs (.ref e) "enumerate" := ⟨_, he, rfl⟩
    unfold pyNext
    refine wpAny_bind (wpAny_attempt (wpAny_callSpecial?_slot (name := Str.ofString "__next__") hT F.slot_enumerate_next
      (wpAny_call_entry F.slot_enumerate_next hT F.entry_enumerate_next ?_ (F.args_enumerate_next_1 _))))
    show wpAny _ _ (field (.ref e) 2 >>= _) _ _ _
    refine wpAny_bind (wpAny_field he rfl (x := .ref it) rfl ?_)
    refine wpAny_bind (wpAny_nextOf_tuple_end (show X.A.in1.handled = none from I.ok.hd hc) hit (show s.heap.IsTuple a its.toArray from p) (by simp; omega) fun h' x he' hx' => ?_)
    obtain ⟨o, ho, hc⟩ := hx'
    refine wpAny_bind (wpAny_isInstance (T := "StopIteration") (b := true) ⟨o, ho, hc⟩ isSubtype_stop ?_)
    exact wpAny_pure ⟨rfl, I.turned (t' := s.toks) (fun b o hb q => he' b o hb q) f0 f1 f3 f4 f5⟩
  self := fun A i s Q E st h => let ⟨⟨_, he⟩, _⟩ := st; wpAny_pyIter_enum he h
section
variable {X : Cx} {pos : Pos} {tg e a b : Expr} {te ta tb : TQ}
/-- pairs (place, item) -/
def enumFrom : Nat → List PyData → List PyData
  | _, [] => []
  | i, d :: ds => .tuple [.int (i : Nat), d] :: enumFrom (i + 1) ds
theorem enumFrom_length : ∀ (i : Nat) (ds : List PyData), (enumFrom i ds).length = ds.length
  | _, [] => rfl
  | i, d :: ds => by rw [enumFrom, List.length_cons, List.length_cons, enumFrom_length (i + 1) ds]
theorem enumFrom_at : ∀ {ds : List PyData} {k i : Nat} {d : PyData}, ds[i]? = some d → (enumFrom k ds)[i]? = some (.tuple [.int ((k + i : Nat) : Int), d])
  | [], _, _, _, h => by simp at h
  | d :: ds, k, 0, _, h => by simp at h; subst h; rfl
  | d :: ds, k, i + 1, _, h => by
    have := enumFrom_at (ds := ds) (k := k + 1) (i := i) (by simpa using h)
    rw [enumFrom, List.getElem?_cons_succ, this, show k + 1 + i = k + (i + 1) by omega]
theorem wd_enumL {K : PySem.W.Frag} {a : Addr} {o : Obj} {vs : List V} {ds : List PyData} : WalkD K (Ite K a) (enumFrom 0 ds) (G1 K a o vs ds) := by
  have ql : ∀ {H : Hp}, H a = some (.frz o (.lst vs)) → SqL K H a vs := fun q => .inl (.inr ⟨o, q⟩)
  refine ⟨fun i H hi ⟨q, f⟩ => ?_, fun H ⟨q, f⟩ => ?_, fun i H x H' hi ⟨q, f⟩ y => ?_, fun H H' ⟨q, f⟩ ex => ⟨ex.frz _ _ _ q, f.mono ex⟩⟩
  · rw [enumFrom_length] at hi
    exact ⟨vs, vs[i]'(by rw [f.length]; exact hi), ql q, by simp [f.length, hi]⟩
  · exact ⟨vs, ql q, by rw [enumFrom_length, f.length]; exact Nat.le_refl _⟩
  · obtain ⟨T, z, rfl, hT, rfl, hz⟩ := y
    obtain ⟨d, hd, fd⟩ := f.get (hz vs (ql q))
    have sm := same_upd (o := .tup [.int (i : Nat), z]) hT
    refine ⟨_, enumFrom_at hd, .tup (.inl (.inl upd_same)) (.cons ?_ (.cons (fd.mono (ex_same sm)) .nil)), sm⟩
    rw [Nat.zero_add]
    exact .int _
theorem wd_enumT {K : PySem.W.Frag} {a : Addr} {vs : List V} {ds : List PyData} : WalkD K (IteT K a) (enumFrom 0 ds) (G2 K a vs ds) := by
  refine ⟨fun i H hi ⟨q, f⟩ => ?_, fun H ⟨q, f⟩ => ?_, fun i H x H' hi ⟨q, f⟩ y => ?_, fun H H' ⟨q, f⟩ ex => ⟨ex.sqT q, f.mono ex⟩⟩
  · rw [enumFrom_length] at hi
    exact ⟨vs, vs[i]'(by rw [f.length]; exact hi), q, by simp [f.length, hi]⟩
  · exact ⟨vs, q, by rw [enumFrom_length, f.length]; exact Nat.le_refl _⟩
  · obtain ⟨T, z, rfl, hT, rfl, hz⟩ := y
    obtain ⟨d, hd, fd⟩ := f.get (hz vs q)
    have sm := same_upd (o := .tup [.int (i : Nat), z]) hT
    refine ⟨_, enumFrom_at hd, .tup (.inl (.inl upd_same)) (.cons ?_ (.cons (fd.mono (ex_same sm)) .nil)), sm⟩
    rw [Nat.zero_add]
    exact .int _
def itE (x : PyData) (R : List PyData → Prop) : Prop := match x with
  | .list ds => R (enumFrom 0 ds)
  | .tuple ds => R (enumFrom 0 ds)
  | _ => False
def iEn (te : TQ) : TQL := fun ρ R => te ρ fun x ρ1 => itE x fun ds => R ds ρ1
theorem qi_enum {p tpos : Pos} {elts : List Expr} {kk : Nat} (hg : Gl X "enumerate") (hm : X.mg "enumerate" = none) (he : QE X e te) (hs : starEach [e] X.env = [(false, eval e X.env)] := by rfl) :
    QI X (.Tuple elts kk tpos) (.Call (.Name "enumerate" p) [e] [] pos) (iEn te) := by
  refine ⟨fun dk H0 => ⟨fun pins s σ H R I ⟨ρ, R0, rel, h, k⟩ => ?_⟩⟩
  have ha : PA X [e] (upD X.K dk H0 (dCons te dNil)) := (qd_cons he qd_nil hs).run dk H0
  refine Call_ (ld_blt I hg hm boot_enumerate (PyProof.Rows.callWith_type1 (thn (ha.run pos pins s σ H (fun vs H1 => ∃ x ρ1, itE x (fun ds => R0 ds ρ1) ∧ FzAll X.K H1 vs [x] ∧ Rel X.K dk H0 ρ1 σ H1 ∧ Ex H H1) I
    ⟨ρ, fun xs ρ1 => ∃ x, xs = [x] ∧ itE x (fun ds => R0 ds ρ1), rel, ?_, fun xs ρ' vs H' hx fz rel1 ex1 => ?_⟩) fun us s1 ⟨vs, H1, I1, r1, q1⟩ => ?_) hs rfl))
  · show te ρ _
    have h : te ρ _ := h
    have e2 : (fun x ρ1 => dNil ρ1 fun xs ρ2 => ∃ y, x :: xs = [y] ∧ itE y (fun ds => R0 ds ρ2)) = fun x ρ1 => itE x (fun ds => R0 ds ρ1) := by
      funext x ρ1
      apply propext
      constructor
      · rintro ⟨y, e, q⟩
        cases e
        exact q
      · intro q
        exact ⟨x, rfl, q⟩
    exact Eq.mp (congrArg (te ρ) e2.symm) h
  · obtain ⟨x, rfl, hx⟩ := hx
    exact ⟨x, ρ', hx, fz, rel1, ex1⟩
  · obtain ⟨x, ρ1, hx, fz, rel1, ex1⟩ := q1
    cases fz with
    | cons fa fb =>
      cases fb
      cases r1 with
      | cons r rr =>
        cases rr
        have fr : ∀ b ∈ [s1.heap.objs.size + 1, s1.heap.objs.size], FpOk X pins H1 b := fun b hb => by
          have e' : b = s1.heap.objs.size + 1 ∨ b = s1.heap.objs.size := by simpa using hb
          have hle : s1.heap.objs.size ≤ b := by
            rcases e' with z | z
            · rw [z]; exact Nat.le_add_right _ _
            · rw [z]; exact Nat.le_refl _
          exact I1.fpOk hle (I1.hok.fresh hle)
        cases fa with
        | @lst a o vs ds q t =>
          cases r
          obtain ⟨its, rv, p', hz⟩ := I1.list (show SqL X.K H1 a vs from .inl (.inr ⟨_, q⟩))
          refine call_enumerate_list p'.isList fun h' he hit hsz hk => wpAny_pyIter_enum he ?_
          have I2 : Inv X pins σ H1 { s1 with heap := h' } := I1.kept (t' := s1.toks) hk
          exact ⟨s1.heap.objs.size + 1, [s1.heap.objs.size + 1, s1.heap.objs.size], _, _, H1, rfl, I2, turn_enum a (s1.heap.objs.size + 1) s1.heap.objs.size, ⟨⟨.none, he⟩, hit, Nat.succ_ne_self _⟩, fr,
            k _ ρ1 _ _ H1 hx (by rw [enumFrom_length, ← t.length]; exact hz) wd_enumL ⟨q, t⟩ rel1 ex1⟩
        | @tup a vs ds q t =>
          cases r
          obtain ⟨its, rv, p', hz⟩ := I1.tuple q
          have hal : a < s1.heap.objs.size := p'.lt
          refine call_enumerate_tup (show s1.heap.IsTuple a its.toArray from p') fun h' he hit hsz hk => wpAny_pyIter_enum he ?_
          have I2 : Inv X pins σ H1 { s1 with heap := h' } := I1.kept (t' := s1.toks) hk
          exact ⟨s1.heap.objs.size + 1, [s1.heap.objs.size + 1, s1.heap.objs.size], _, _, H1, rfl, I2, turn_enumT a (s1.heap.objs.size + 1) s1.heap.objs.size (Nat.ne_of_gt (Nat.lt_succ_of_lt hal)) (Nat.ne_of_gt hal), ⟨⟨.none, he⟩, hit, Nat.succ_ne_self _⟩, fr,
            k _ ρ1 _ _ H1 hx (by rw [enumFrom_length, ← t.length]; exact hz) wd_enumT ⟨q, t⟩ rel1 ex1⟩
        | _ => exact hx.elim
end
end Q
end P6
section P7
namespace Q
open PySem PySem.Spec PyProof.Rows L2 HT
def rg (lo : Int) (n : Nat) : List PyData := (List.range n).map fun (i : Nat) => .int (lo + (i : Int))
theorem rg_length (lo : Int) (n : Nat) : (rg lo n).length = n := by simp [rg]
theorem wd_range {K : PySem.W.Frag} {lo : Int} {n : Nat} : WalkD K (Itr lo n) (rg lo n) (fun _ => True) := by
  refine ⟨fun i H hi _ => by rw [rg_length] at hi; exact hi, fun H _ => by show n ≤ _; rw [rg_length]; exact Nat.le_refl _, fun i H x H' hi _ y => ?_, fun _ _ _ _ => True.intro⟩
  obtain ⟨rfl, rfl⟩ := y
  rw [rg_length] at hi
  exact ⟨.int (lo + i), by simp [rg, hi], .int _, Same.refl _⟩
section
variable {X : Cx} {pos : Pos} {tg e a b : Expr} {te ta tb : TQ}
def rg1 (te : TQ) : TQL := fun ρ R => te ρ fun x ρ1 => match x with
  | .int n => -1000000 ≤ n ∧ n ≤ 1000000 ∧ R (rg 0 n.toNat) ρ1
  | _ => False
theorem size_mil {n : Nat} (h : n ≤ 2000000) : n ≤ sizeLine := by rw [sizeLine_eq]; omega
theorem qi_range1 {p : Pos} (hg : Gl X "range") (hm : X.mg "range" = none) (he : QE X a ta) (hs : starEach [a] X.env = [(false, eval a X.env)] := by rfl) : QI X tg (.Call (.Name "range" p) [a] [] pos) (rg1 ta) :=
  ⟨fun dk H0 => PI.imp (pi_range1 hg hm ((qd_cons he qd_nil hs).run dk H0) hs) fun σ H R ⟨ρ, R0, rel, h, k⟩ =>
    ⟨ρ, fun xs ρ1 => ∃ n : Int, xs = [.int n] ∧ -1000000 ≤ n ∧ n ≤ 1000000 ∧ R0 (rg 0 n.toNat) ρ1, rel, by
      have h : ta ρ _ := h
      refine Eq.mp (congrArg (ta ρ) ?_) h
      funext x ρ1
      apply propext
      constructor
      · intro q
        cases x <;> first | exact q.elim | exact ⟨_, rfl, q⟩
      · rintro ⟨n, e, q⟩
        cases e
        exact q, fun xs ρ' vs H' hx fz rel1 ex1 => by
      obtain ⟨n, rfl, h1, h2, hr⟩ := hx
      cases fz with
      | cons fa fb =>
        cases fb
        cases fa
        exact ⟨n, rfl, by omega, by omega, k _ ρ' _ _ H' hr (by rw [rg_length]; exact size_mil (by omega)) wd_range True.intro rel1 ex1⟩⟩⟩
end
theorem wipe_in {i : Nat} {σ : L2.St} : ∀ {vs : List Nat}, i ∈ vs → (wipe σ vs)[i]? = if i < σ.length then some none else none
  | [], h => by cases h
  | w :: vs, h => by
    unfold wipe
    by_cases hw : w = i
    · subst hw
      by_cases hq : w < σ.length
      · rw [List.getElem?_set_self (by rw [wipe_length]; exact hq), if_pos hq]
      · rw [List.getElem?_eq_none (by rw [List.length_set, wipe_length]; omega), if_neg hq]
    · rw [List.getElem?_set_ne hw]
      refine wipe_in ?_
      rcases List.mem_cons.mp h with q | q
      · exact absurd q.symm hw
      · exact q
theorem wipe_idem {σ : L2.St} {vs : List Nat} : wipe (wipe σ vs) vs = wipe σ vs := by
  apply List.ext_getElem?
  intro i
  by_cases h : i ∈ vs
  · rw [wipe_in h, wipe_in h, wipe_length]
  · rw [wipe_out h]
section
variable {X : Cx} {pos : Pos} {tg iter elt c : Expr}
structure QTs (X : Cx) (ifs : List Expr) (t : TQB) : Prop where
  run : ∀ dk H0, PTs X ifs (upB X.K dk H0 t)
theorem PTs.imp {ifs : List Expr} {t t' : TT} (h : PTs X ifs t) (w : ∀ σ H Q, t' σ H Q → t σ H Q) : PTs X ifs t' := ⟨fun pins s σ H Q I q => h.run pins s σ H Q I (w _ _ _ q)⟩
def tY : TQB := fun ρ R => R true ρ
theorem qts_nil : QTs X [] tY := ⟨fun dk H0 => PTs.imp pts_nil fun σ H Q ⟨ρ, R, rel, h, k⟩ => k true ρ H h rel (Ex.refl H)⟩
theorem qts_one {t : TQB} (h : QT X c t) : QTs X [c] t := ⟨fun dk H0 => pts_one (h.run dk H0)⟩
def compQ (g : TGQ) (tt : TQB) (te : TQ) (vs : List Nat) : List PyData → List PyData → En → (List PyData → En → Prop) → Prop
  | [], acc, ρ, R => R acc ρ
  | x :: xs, acc, ρ, R => g x ρ fun ρ2 => tt ρ2 fun b ρ3 => if b = true then te ρ3 fun y ρ4 => compQ g tt te vs xs (acc ++ [y]) (wipeQ ρ4 vs) R else compQ g tt te vs xs acc (wipeQ ρ3 vs) R
def tLcQ (ti : TQL) (g : TGQ) (tt : TQB) (te : TQ) (vs : List Nat) : TQL := fun ρ R => ti ρ fun ds ρ1 => noOwn ρ1 vs = true ∧ compQ g tt te vs ds [] (wipeQ ρ1 vs) fun out ρ2 => R out (rstQ vs ρ1 ρ2)
variable {ifs : List Expr} {scope : Scope} {own : List (Str × Nat)} {ti : TQL} {is : List Nat} {g : TGQ} {tt : TQB} {te : TQ}
abbrev exG (K : PySem.W.Frag) (dk : Dk) (is : List Nat) (g : TGQ) : TG := fun v σ H Q => ∃ H0, upG K dk H0 is g v σ H Q
abbrev exB (K : PySem.W.Frag) (dk : Dk) (t : TQB) : TT := fun σ H Q => ∃ H0, upB K dk H0 t σ H Q
abbrev exE (K : PySem.W.Frag) (dk : Dk) (t : TQ) : TE := fun σ H Q => ∃ H0, up K dk H0 t σ H Q
theorem ite_ff' {A B : Prop} (h : if false = true then A else B) : B := by rwa [if_neg (by decide)] at h
theorem ite_tt' {A B : Prop} (h : if true = true then A else B) : A := by rwa [if_pos rfl] at h
theorem lc_read {dk : Dk} {H0 : Hp} (hsub : ∀ i ∈ is, i ∈ own.map (·.2)) (σ : L2.St) (H : Hp) (Q : VK) (h : upL X.K dk H0 (tLcQ ti g tt te (own.map (·.2))) σ H Q) :
    tLc (upI X.K dk H0 ti) (exG X.K dk is g) (exB X.K dk tt) (exE X.K dk te) (own.map (·.2)) σ H Q := by
  generalize hvs : own.map (·.2) = vs at *
  obtain ⟨ρ, R, rel, h, k⟩ := h
  refine ⟨ρ, _, rel, h, fun ds ρ1 J G H1 hds hlen W hG rel1 ex1 => fun D nD => ?_⟩
  obtain ⟨no, hc⟩ := hds
  have sm0 := same_upd (o := .lst []) nD
  have WW : Walk J ds.length G (fun i H x H' => ∃ d, ds[i]? = some d ∧ Fz X.K H' x d ∧ Same H H') := ⟨W.goes, W.stops, W.yields⟩
  refine lc_it WW (fun i H => ∃ acc vacc ρ', Rel X.K dk H0 ρ' (wipe σ vs) H ∧ H D = some (.lst vacc) ∧ FzAll X.K H vacc acc ∧ acc.length ≤ i ∧
      (compQ g tt te vs (ds.drop i) acc ρ' fun out ρ2 => R out (rstQ vs ρ1 ρ2)) ∧ G H ∧ Ex H1 H ∧ (∀ j, ¬ OwnAt ρ' (wipe σ vs) j D) ∧ H0 D = none)
    ⟨[], [], wipeQ ρ1 vs, (rel1.same sm0).wipe vs, upd_same, .nil, Nat.le_refl _, hc, W.stay _ _ hG (ex_same sm0), ex_same sm0, fun j q => ?_, rel1.fresh0 nD⟩ (fun i H _ ⟨_, _, _, _, _, _, _, _, q, _⟩ => q) ?_ ?_
  · obtain ⟨s, e, h1, h2⟩ := q
    rcases wipeQ_some e with rfl | ⟨e1, e2⟩
    · cases h1
    · rw [wipe_out e2] at h2
      exact rel1.freshOwn nD j ⟨s, e1, h1, h2⟩
  · rintro i x H2 H3 hi ⟨acc, vacc, ρ', r2, hD, facc, lacc, hcomp, hG2, ex2, no2, n0⟩ ⟨d, hd, fd, sm⟩
    have hdrop : ds.drop i = d :: ds.drop (i + 1) := by
      have := List.drop_eq_getElem_cons hi
      rw [this]
      congr 1
      exact Option.some.inj ((List.getElem?_eq_getElem hi).symm.trans hd)
    rw [hdrop] at hcomp
    have r3 := r2.same sm
    have hD3 := sm _ _ hD
    have dn1 : D ≠ dk.1 := fun z => r3.dk1 (by rw [← z]; exact n0)
    have dn2 : D ≠ dk.2 := fun z => r3.dk2 (by rw [← z]; exact n0)
    have keepD : ∀ {ρ4 : En} {σ4 : L2.St} {H4 : Hp}, Rel X.K dk (reb ρ' (wipe σ vs) H3) ρ4 σ4 H4 → H4 D = some (.lst vacc) ∧ ∀ j, ¬ OwnAt ρ4 σ4 j D := fun r4 => r3.flight r4 hD3 no2 dn1 dn2
    refine ⟨reb ρ' (wipe σ vs) H3, d, ρ', _, fd, r3.reb, hcomp, fun ρ2 σ2 hr rel2 w2 => ?_⟩
    have w2' : wipe σ2 vs = wipe σ vs := by rw [w2 vs hsub, wipe_idem]
    refine ⟨w2', reb ρ' (wipe σ vs) H3, ρ2, _, rel2, hr, fun bb ρ3 H4 hb rel3 ex3 => ?_⟩
    have ex3' : Ex H1 H4 := ex2.trans ((ex_same sm).trans ex3)
    cases bb with
    | false =>
      refine iteF ?_
      have hb := ite_ff' hb
      obtain ⟨k1, k2⟩ := keepD rel3
      have rw4 := (r3.back rel3).wipe vs
      rw [w2'] at rw4
      refine ⟨acc, vacc, _, rw4, k1, facc.mono ((ex_same sm).trans ex3), Nat.le_succ_of_le lacc, hb, W.stay _ _ hG2 ((ex_same sm).trans ex3), ex3', fun j q => ?_, n0⟩
      obtain ⟨s, e, h1, h2⟩ := q
      rcases wipeQ_some e with rfl | ⟨e1, e2⟩
      · cases h1
      · rw [← w2', wipe_out e2] at h2
        exact k2 j ⟨s, e1, h1, h2⟩
    | true =>
      refine iteT ?_
      have hb := ite_tt' hb
      refine ⟨reb ρ' (wipe σ vs) H3, ρ3, _, rel3, hb, fun y ρ4 v H5 hy fy rel4 ex4 => ?_⟩
      obtain ⟨k1, k2⟩ := keepD rel4
      have exx := (ex_same sm).trans (ex3.trans ex4)
      have rb := r3.back rel4
      obtain ⟨rf, exf⟩ := rb.freeze (o := .lst (vacc ++ [v])) k1 n0 k2
      have rw5 := rf.wipe vs
      rw [w2'] at rw5
      refine ⟨vacc, k1, by rw [facc.length]; omega, acc ++ [y], vacc ++ [v], _, rw5, upd_same, ((facc.mono exx).append (.one fy)).mono exf, by rw [List.length_append]; exact Nat.succ_le_succ lacc, hy,
        W.stay _ _ hG2 (exx.trans exf), ex3'.trans (ex4.trans exf), fun j q => ?_, n0⟩
      obtain ⟨s, e, h1, h2⟩ := q
      rcases wipeQ_some e with rfl | ⟨e1, e2⟩
      · cases h1
      · rw [← w2', wipe_out e2] at h2
        exact k2 j ⟨s, e1, h1, h2⟩
  · rintro H2 ⟨acc, vacc, ρ', r2, hD, facc, lacc, hcomp, hG2, ex2, no2, n0⟩
    rw [List.drop_length] at hcomp
    have rr := rel1.rst no ex2 r2
    refine k acc _ D vacc H2 hcomp hD facc n0 (fun j q => ?_) rr (ex1.trans ex2)
    obtain ⟨s, e, h1, h2⟩ := q
    rcases rstQ_some e with ⟨q1, rfl⟩ | ⟨q1, q2⟩
    · have := List.all_eq_true.mp no j q1
      rw [h1] at this
      cases this
    · exact no2 j ⟨s, q2, h1, by rw [wipe_out q1]; exact h2⟩
theorem ql_lc (hc : X.calm = true) (hN : X.N.Nodup) (hi : QI X tg iter ti) (ok : BlkOk X.N X.env.scope scope own)
    (hg : ∀ (s : Shared) (H : Hp) (C : Addr) (cl : List (Str × Addr)) (fp : List Addr), QG (X.blk s H scope (compEnvC scope cl C X.env) fp) tg is g) (hsub : ∀ i ∈ is, i ∈ own.map (·.2))
    (ht : ∀ (s : Shared) (H : Hp) (C : Addr) (cl : List (Str × Addr)) (fp : List Addr), QTs (X.blk s H scope (compEnvC scope cl C X.env) fp) ifs tt)
    (he : ∀ (s : Shared) (H : Hp) (C : Addr) (cl : List (Str × Addr)) (fp : List Addr), QE (X.blk s H scope (compEnvC scope cl C X.env) fp) elt te) (hs : ∀ x, foldedSetIterable iter X.env x = pure x := by intro _; rfl) :
    QL X (.ListComp elt [⟨tg, iter, ifs, 0⟩] scope pos) (tLcQ ti g tt te (own.map (·.2))) :=
  ⟨fun dk H0 => PE.imp (pe_lc hc hN (hi.run dk H0) ok
    (fun s H C cl fp => ⟨fun pins s' σ H' v u Q I r ⟨H1, q⟩ => ((hg s H C cl fp).run dk H1).run pins s' σ H' v u Q I r q⟩)
    (fun s H C cl fp => ⟨fun pins s' σ H' Q I ⟨H1, q⟩ => ((ht s H C cl fp).run dk H1).run pins s' σ H' Q I q⟩)
    (fun s H C cl fp => ⟨fun pins s' σ H' Q I ⟨H1, q⟩ => ((he s H C cl fp).run dk H1).run pins s' σ H' Q I q⟩) hs) (lc_read hsub)⟩
end
end Q
end P7
section P8
namespace Q
open PySem PySem.Spec PyProof.Rows L2 HT
section
variable {X : Cx} {pos : Pos} {st : Stmt} {rest body orelse : List Stmt} {tg e a b c iter : Expr} {te ta tb : TQ} {t u : TQS}
theorem EndsOk.ex {K : PySem.W.Frag} {dk : Dk} {H0 H H1 : Hp} {R : EndsQ} {D : Ends} (k : EndsOk K dk H0 H R D) (ex : Ex H H1) : EndsOk K dk H0 H1 R D :=
  ⟨fun ρ σ H' h r e => k.nx ρ σ H' h r (ex.trans e), k.rt, fun ρ σ H' h r e => k.bk ρ σ H' h r (ex.trans e), fun ρ σ H' h r e => k.ct ρ σ H' h r (ex.trans e)⟩
theorem Rel.stp {K : PySem.W.Frag} {dk : Dk} {H0 H : Hp} {ρ : En} {σ : L2.St} (r : Rel K dk H0 ρ σ H) : Step dk H0 H := ⟨r.keep, r.dok⟩
def sNil : TQS := fun R ρ => R.nx ρ
def sSeq (t u : TQS) : TQS := fun R ρ => t { R with nx := u R } ρ
theorem qss_nil : QSs X [] sNil := ⟨fun dk H0 => PSs.imp pss_nil fun D σ H ⟨ρ, R, rel, h, k⟩ => k.nx ρ σ H h rel (Ex.refl H)⟩
theorem qss_cons (h1 : QS X st t) (h2 : QSs X rest u) : QSs X (st :: rest) (sSeq t u) :=
  ⟨fun dk H0 => PSs.imp (pss_cons (h1.run dk H0) (h2.run dk H0)) fun D σ H ⟨ρ, R, rel, h, k⟩ =>
    ⟨ρ, _, rel, h, ⟨fun ρ' σ' H' hn rel' ex => ⟨ρ', R, rel', hn, k.ex ex⟩, k.rt, k.bk, k.ct⟩⟩⟩
theorem qss_one (h1 : QS X st t) : QSs X [st] t := ⟨fun dk H0 => pss_one (h1.run dk H0)⟩
def sRet (te : TQ) : TQS := fun R ρ => te ρ fun x _ => R.rt x
theorem qs_ret (he : QE X e te) : QS X (.Return (some e) pos) (sRet te) :=
  ⟨fun dk H0 => PS.imp (ps_ret (he.run dk H0)) fun D σ H ⟨ρ, R, rel, h, k⟩ => ⟨ρ, _, rel, h, fun x ρ' v H' hx fz rel' ex => k.rt x v H' hx fz rel'.stp⟩⟩
def sNever : TQS := fun _ _ => False
theorem qs_never : QS X st sNever := ⟨fun dk H0 => PS.imp ps_never fun D σ H ⟨ρ, R, rel, h, k⟩ => h⟩
def sExpr (te : TQ) : TQS := fun R ρ => te ρ fun _ ρ1 => R.nx ρ1
theorem qs_expr (he : QE X e te) (hs : swapsWith e none pos.line X.env = pure false := by rfl) : QS X (.Expr e pos) (sExpr te) :=
  ⟨fun dk H0 => PS.imp (ps_expr (he.run dk H0) hs) fun D σ H ⟨ρ, R, rel, h, k⟩ => ⟨ρ, _, rel, h, fun x ρ' v H' hx fz rel' ex => k.nx ρ' σ H' hx rel' ex⟩⟩
def sIf (c : TQB) (t u : TQS) : TQS := fun R ρ => c ρ fun b ρ1 => if b = true then t R ρ1 else u R ρ1
theorem qs_if {tc : TQB} (hc : QT X c tc) (ha : QSs X body t) (hb : QSs X orelse u) : QS X (.If c body orelse pos) (sIf tc t u) :=
  ⟨fun dk H0 => PS.imp (ps_if (hc.run dk H0) (ha.run dk H0) (hb.run dk H0)) fun D σ H ⟨ρ, R, rel, h, k⟩ => ⟨ρ, _, rel, h, fun b ρ1 H1 hb rel1 ex1 => by
    cases b with
    | true => exact iteT ⟨ρ1, R, rel1, ite_tt' hb, k.ex ex1⟩
    | false => exact iteF ⟨ρ1, R, rel1, ite_ff' hb, k.ex ex1⟩⟩⟩
def sAsg (te : TQ) (g : TGQ) : TQS := fun R ρ => te ρ fun x ρ1 => g x ρ1 R.nx
theorem qs_asg {is : List Nat} {g : TGQ} (he : QE X e te) (hg : QG X tg is g) (hs : swapsWithSole [tg] e pos.line X.env = pure false := by rfl) (hw : swappedStores [tg] e X.env = pure none := by rfl)
    (h1 : (assignEach [tg] X.env).map (·.2) = [assign tg X.env] := by rfl) : QS X (.Assign [tg] e pos) (sAsg te g) :=
  ⟨fun dk H0 => PS.imp (ps_asg (he.run dk H0) (hg.run dk H0) hs hw h1) fun D σ H ⟨ρ, R, rel, h, k⟩ => ⟨ρ, _, rel, h, fun x ρ1 v H1 hx fz rel1 ex1 =>
    ⟨x, ρ1, _, fz, rel1, hx, fun ρ' σ' hr rel' _ => k.nx ρ' σ' H1 hr rel' ex1⟩⟩⟩
def sSet (i : Nat) (te : TQ) : TQS := fun R ρ => te ρ fun x ρ1 => R.nx (ρ1.set i (.d x))
theorem qs_set (i : Nat) {x : Str} {pos' : Pos} (hN : X.N.Nodup) (he : QE X e te) (hi : X.N[i]? = some x := by rfl) (hx : Loc X.env.scope x := by first | exact Or.inl rfl | exact Or.inr rfl) (hs : swapsWith e (some (.Name x pos')) pos.line X.env = pure false := by rfl)
    (hf : X.fn x = true ∨ X.env.scope.names.lookup x = some .local := by first | exact .inl rfl | exact .inr rfl) : QS X (.Assign [.Name x pos'] e pos) (sSet i te) :=
  ⟨fun dk H0 => PS.imp (ps_set hN hi hx (he.run dk H0) hs hf) fun D σ H ⟨ρ, R, rel, h, k⟩ => ⟨ρ, _, rel, h, fun x ρ1 v H1 hx fz rel1 ex1 =>
    k.nx _ _ H1 hx (rel1.set ⟨v, rfl, fz⟩ fun a z => nomatch z) ex1⟩⟩
def sSetL (i : Nat) (t : TQL) : TQS := fun R ρ => t ρ fun xs ρ1 => R.nx (ρ1.set i (.own xs))
theorem qs_setL (i : Nat) {x : Str} {pos' : Pos} {t : TQL} (hN : X.N.Nodup) (he : QL X e t) (hi : X.N[i]? = some x := by rfl) (hx : Loc X.env.scope x := by first | exact Or.inl rfl | exact Or.inr rfl) (hs : swapsWith e (some (.Name x pos')) pos.line X.env = pure false := by rfl)
    (hf : X.fn x = true ∨ X.env.scope.names.lookup x = some .local := by first | exact .inl rfl | exact .inr rfl) : QS X (.Assign [.Name x pos'] e pos) (sSetL i t) :=
  ⟨fun dk H0 => PS.imp (ps_set hN hi hx (he.run dk H0) hs hf) fun D σ H ⟨ρ, R, rel, h, k⟩ => ⟨ρ, _, rel, h, fun xs ρ1 p vs H1 hx e1 fz n0 no rel1 ex1 =>
    k.nx _ _ H1 hx (rel1.set ⟨p, vs, rfl, e1, fz, n0⟩ fun a _ z => by cases z; exact no) ex1⟩⟩
def forQ (g : TGQ) (tb : TQS) (R : EndsQ) : List PyData → En → Prop
  | [], ρ => R.nx ρ
  | x :: xs, ρ => g x ρ fun ρ1 => tb { nx := forQ g tb R xs, rt := R.rt, bk := R.nx, ct := forQ g tb R xs } ρ1
def sFor (ti : TQL) (g : TGQ) (tb : TQS) : TQS := fun R ρ => ti ρ fun ds ρ1 => forQ g tb R ds ρ1
theorem qs_for {ti : TQL} {is : List Nat} {g : TGQ} {tb : TQS} (hp : PassesOwn (model X.prog X.w) X.A X.env X.xe) (hc : X.calm = true) (hi : QI X tg iter ti) (hg : QG X tg is g) (hb : QSs X body tb)
    (hs : ∀ x, foldedSetIterable iter X.env x = pure x := by intro _; rfl) : QS X (.For tg iter body [] pos) (sFor ti g tb) := by
  refine ⟨fun dk H0 => PS.imp (ps_for hp hc (hi.run dk H0) (hg.run dk H0) (hb.run dk H0) hs) fun D σ H ⟨ρ, R, rel, h, k⟩ => ⟨ρ, _, rel, h, fun ds ρ1 J G H1 hds hlen W hG rel1 ex1 => ?_⟩⟩
  have WW : Walk J ds.length G (fun i H x H' => ∃ d, ds[i]? = some d ∧ Fz X.K H' x d ∧ Same H H') := ⟨W.goes, W.stops, W.yields⟩
  refine for_it WW (fun i σ H => ∃ ρ', Rel X.K dk H0 ρ' σ H ∧ forQ g tb R (ds.drop i) ρ' ∧ G H ∧ Ex H1 H) ⟨ρ1, rel1, hds, hG, Ex.refl _⟩ (fun i σ H _ ⟨_, _, _, q, _⟩ => q) ?_ ?_
  · rintro i x σ2 H2 H3 hi ⟨ρ', r2, hf, hG2, ex2⟩ ⟨d, hd, fd, sm⟩
    have hdrop : ds.drop i = d :: ds.drop (i + 1) := by
      have := List.drop_eq_getElem_cons hi
      rw [this]
      congr 1
      exact Option.some.inj ((List.getElem?_eq_getElem hi).symm.trans hd)
    rw [hdrop] at hf
    refine ⟨d, ρ', _, fd, r2.same sm, hf, fun ρ3 σ3 h3 rel3 _ => ⟨ρ3, _, rel3, h3, ?_⟩⟩
    have e3 : Ex H1 H3 := ex2.trans (ex_same sm)
    exact ⟨fun ρ4 σ4 H4 h4 rel4 ex4 => ⟨ρ4, rel4, h4, W.stay _ _ hG2 ((ex_same sm).trans ex4), e3.trans ex4⟩, k.rt,
      fun ρ4 σ4 H4 h4 rel4 ex4 => k.nx ρ4 σ4 H4 h4 rel4 (ex1.trans (e3.trans ex4)),
      fun ρ4 σ4 H4 h4 rel4 ex4 => ⟨ρ4, rel4, h4, W.stay _ _ hG2 ((ex_same sm).trans ex4), e3.trans ex4⟩⟩
  · rintro σ2 H2 ⟨ρ', r2, hf, hG2, ex2⟩
    rw [List.drop_length] at hf
    exact k.nx ρ' σ2 H2 hf r2 (ex1.trans ex2)
end
inductive PsOk (K : PySem.W.Frag) (dk : Dk) (H0 H : Hp) (ρ : En) (σ : L2.St) : List V → List Sl → Prop
  | nil : PsOk K dk H0 H ρ σ [] []
  | cons {v : V} {s : Sl} {vs : List V} {ss : List Sl} : SlOk K dk H0 H (some (some v)) s → (∀ a, s.isOwn = true → v = .ref a → (∀ j, ¬ OwnAt ρ σ j a) ∧ ∀ (j : Nat) s', vs[j]? = some (.ref a) → ss[j]? = some s' → s'.isOwn = false) →
      PsOk K dk H0 H ρ σ vs ss → s.inn = [] → PsOk K dk H0 H ρ σ (v :: vs) (s :: ss)
abbrev TQP := En → (List Sl → En → Prop) → Prop
def upP (K : PySem.W.Frag) (dk : Dk) (H0 : Hp) (t : TQP) : TA := fun σ H Q => ∃ ρ R, Rel K dk H0 ρ σ H ∧ t ρ R ∧ ∀ ss ρ' vs H', R ss ρ' → PsOk K dk H0 H' ρ' σ vs ss → Rel K dk H0 ρ' σ H' → Ex H H' → Q vs H'
structure QPs (X : Cx) (es : List Expr) (t : TQP) : Prop where
  run : ∀ dk H0, PA X es (upP X.K dk H0 t)
section
variable {X : Cx} {pos : Pos} {e a b c : Expr} {es : List Expr} {te : TQ}
def pNil : TQP := fun ρ R => R [] ρ
def pD (te : TQ) (t : TQP) : TQP := fun ρ R => te ρ fun x ρ1 => t ρ1 fun ss ρ2 => R (.d x :: ss) ρ2
def pO (te : TQL) (t : TQP) : TQP := fun ρ R => te ρ fun xs ρ1 => t ρ1 fun ss ρ2 => R (.own xs :: ss) ρ2
theorem qp_nil : QPs X [] pNil := ⟨fun dk H0 => PA.imp pa_nil fun σ H Q ⟨ρ, R, rel, h, k⟩ => k [] ρ [] H h .nil rel (Ex.refl H)⟩
theorem qp_d {t : TQP} (he : QE X e te) (ht : QPs X es t) (hs : starEach (e :: es) X.env = (false, eval e X.env) :: starEach es X.env := by rfl) : QPs X (e :: es) (pD te t) :=
  ⟨fun dk H0 => PA.imp (pa_cons (he.run dk H0) (ht.run dk H0) hs) fun σ H Q ⟨ρ, R, rel, h, k⟩ =>
    ⟨ρ, _, rel, h, fun x ρ1 v H1 hx fz rel1 ex1 => ⟨ρ1, _, rel1, hx, fun ss ρ2 vs H2 hxs ps rel2 ex2 => k _ ρ2 (v :: vs) H2 hxs (.cons ⟨v, rfl, fz.mono ex2⟩ (fun a z => nomatch z) ps rfl) rel2 (ex1.trans ex2)⟩⟩⟩
theorem PsOk.back {K : PySem.W.Frag} {dk : Dk} {H0 H H' : Hp} {ρ ρ' : En} {σ σ' : L2.St} (r : Rel K dk H0 ρ σ H) : ∀ {vs : List V} {ss : List Sl}, PsOk K dk (reb ρ σ H) H' ρ' σ' vs ss → PsOk K dk H0 H' ρ' σ' vs ss
  | _, _, .nil => .nil
  | _, _, .cons (s := s) h1 h2 t hf => by
    have n0 : ∀ a, reb ρ σ H a = none → H0 a = none := fun a e => by
      by_cases h : ∃ j, OwnAt ρ σ j a
      · obtain ⟨j, h⟩ := h; exact r.own0 h
      · rw [reb_not fun j q => h ⟨j, q⟩] at e; exact r.fresh0 e
    refine .cons ?_ h2 (PsOk.back r t) hf
    cases s with
    | own xs => obtain ⟨a, w, e1, e2, e3, e4⟩ := h1; exact ⟨a, w, e1, e2, e3, n0 a e4⟩
    | owd xs => obtain ⟨a, w, e1, e2, e3, e4⟩ := h1; exact ⟨a, w, e1, e2, e3, n0 a e4⟩
    | odt xs => obtain ⟨a, w, e1, e2, e3, e4⟩ := h1; exact ⟨a, w, e1, e2, e3, n0 a e4⟩
    | own2 bs xss =>
      obtain ⟨a, e1, e2, e3, e4, e5, e6⟩ := h1
      exact ⟨a, e1, e2, n0 a e3, e4, e5, e6.mono (Ex.refl _) (fun _ _ _ h => h) fun b _ z => n0 b z⟩
    | odl ks bs xss =>
      obtain ⟨a, e1, e2, e3, e4, e5, e6, e7⟩ := h1
      exact ⟨a, e1, e2, n0 a e3, e4, e5, e6.mono (Ex.refl _) (fun _ _ _ h => h) (fun b _ z => n0 b z), e7⟩
    | odk ks bs xss =>
      obtain ⟨a, e1, e2, e3, e4, e5, e6, e7⟩ := h1
      exact ⟨a, e1, e2, n0 a e3, e4, e5, e6.mono (Ex.refl _) (fun _ _ _ h => h) (fun b _ z => n0 b z), e7⟩
    | _ => exact h1
theorem PsOk.none0 {K : PySem.W.Frag} {dk : Dk} {H0 H : Hp} {ρ : En} {σ : L2.St} : ∀ {vs : List V} {ss : List Sl}, PsOk K dk H0 H ρ σ vs ss → ∀ (j : Nat) s' a, vs[j]? = some (.ref a) → ss[j]? = some s' → s'.isOwn = true → H0 a = none
  | _, _, .nil, j, s', a, h, _, _ => by simp at h
  | _, _, .cons (s := s) h1 h2 t hf, 0, s', a, h, h', o => by
    simp at h h'
    subst h h'
    cases s with
    | own xs => obtain ⟨b, w, e1, e2, e3, e4⟩ := h1; cases e1; exact e4
    | owd xs => obtain ⟨b, w, e1, e2, e3, e4⟩ := h1; cases e1; exact e4
    | odt xs => obtain ⟨b, w, e1, e2, e3, e4⟩ := h1; cases e1; exact e4
    | own2 bs xss => obtain ⟨b, e1, e2, e3, _⟩ := h1; cases e1; exact e3
    | odl ks bs xss => obtain ⟨b, e1, e2, e3, _⟩ := h1; cases e1; exact e3
    | odk ks bs xss => obtain ⟨b, e1, e2, e3, _⟩ := h1; cases e1; exact e3
    | _ => cases o
  | _, _, .cons h1 h2 t _, j + 1, s', a, h, h', o => PsOk.none0 t j s' a (by simpa using h) (by simpa using h') o
theorem qp_o {tl : TQL} {t : TQP} (he : QL X e tl) (ht : QPs X es t) (hs : starEach (e :: es) X.env = (false, eval e X.env) :: starEach es X.env := by rfl) : QPs X (e :: es) (pO tl t) := by
  refine ⟨fun dk H0 => ?_⟩
  have ht' : PA X es (fun σ H Q => ∃ H1, upP X.K dk H1 t σ H Q) := ⟨fun pos pins s σ H Q I ⟨H1, q⟩ => (ht.run dk H1).run pos pins s σ H Q I q⟩
  refine PA.imp (pa_cons (he.run dk H0) ht' hs) fun σ H Q ⟨ρ, R, rel, h, k⟩ => ⟨ρ, _, rel, h, fun xs ρ1 p vs H1 hx e1 fz n0 no rel1 ex1 => ?_⟩
  refine ⟨reb ρ1 σ H1, ρ1, _, rel1.reb, hx, fun ss ρ2 ws H2 hxs ps rel2 ex2 => ?_⟩
  have dn1 : p ≠ dk.1 := fun z => rel1.dk1 (by rw [← z]; exact n0)
  have dn2 : p ≠ dk.2 := fun z => rel1.dk2 (by rw [← z]; exact n0)
  obtain ⟨e2, no2⟩ := rel1.flight rel2 e1 no dn1 dn2
  refine k _ ρ2 (.ref p :: ws) H2 hxs (.cons ⟨p, vs, rfl, e2, fz.mono ex2, n0⟩ (fun a _ z => ?_) (ps.back rel1) rfl) (rel1.back rel2) (ex1.trans ex2)
  cases z
  refine ⟨no2, fun j s' h1 h2 => ?_⟩
  cases ho : s'.isOwn with
  | false => rfl
  | true =>
    have := ps.none0 j s' p h1 h2 ho
    rw [reb_not no, e1] at this
    cases this
def sPar2 (i j : Nat) (t : TQP) : TQS := fun R ρ => t ρ fun ss ρ1 => match ss with
  | [s1, s2] => R.nx ((ρ1.set i s1).set j s2)
  | _ => False
theorem own_set {ρ : En} {σ : L2.St} {i k : Nat} {s : Sl} {v : V} {a : Addr} (h : OwnAt (ρ.set i s) (σ.set i (some v)) k a) (hf : s.inn = []) (hl : ρ.length = σ.length) : (s.isOwn = true ∧ v = .ref a) ∨ OwnAt ρ σ k a := by
  obtain ⟨t, e, w1, w2⟩ := h
  by_cases hj : i = k
  · subst hj
    have il : i < (ρ.set i s).length := (List.getElem?_eq_some_iff.mp e).1
    rw [List.length_set] at il
    rw [List.getElem?_set_self il] at e
    cases e
    rw [List.getElem?_set_self (by rw [← hl]; exact il), hf] at w2
    rcases w2 with w2 | w2
    · exact .inl ⟨w1, Option.some.inj (Option.some.inj w2)⟩
    · simp at w2
  · rw [List.getElem?_set_ne hj] at e w2
    exact .inr ⟨t, e, w1, w2⟩
theorem qs_par2 (i j : Nat) {x y : Str} {px py pt : Pos} {t : TQP} {kt k2 pt2} (hc : X.calm = true) (hN : X.N.Nodup) (ha : QPs X [a, b] t)
    (hi : X.N[i]? = some x := by rfl) (hj : X.N[j]? = some y := by rfl) (hij : i ≠ j := by decide)
    (hx : X.env.scope.names.lookup x = some .local := by rfl) (hy : X.env.scope.names.lookup y = some .local := by rfl)
    (hw : swappedStores [.Tuple [.Name x px, .Name y py] kt pt] (.Tuple [a, b] k2 pt2) X.env = pure (some [x, y]) := by rfl)
    (hs : swapsWithSole [.Tuple [.Name x px, .Name y py] kt pt] (.Tuple [a, b] k2 pt2) pos.line X.env = pure false := by rfl) :
    QS X (.Assign [.Tuple [.Name x px, .Name y py] kt pt] (.Tuple [a, b] k2 pt2) pos) (sPar2 i j t) :=
  ⟨fun dk H0 => PS.imp (ps_par hc hN hi hj hij hx hy (ha.run dk H0) hw hs) fun D σ H ⟨ρ, R, rel, h, k⟩ => ⟨ρ, _, rel, h, fun ss ρ1 vs H1 hss ps rel1 ex1 => by
    cases ps with
    | nil => exact hss.elim
    | cons h1 h2 ps f1 =>
      cases ps with
      | nil => exact hss.elim
      | cons h3 h4 ps f2 =>
        cases ps with
        | cons _ _ _ _ => exact hss.elim
        | nil =>
          refine ⟨_, _, rfl, k.nx _ _ H1 hss ((rel1.set h1 (fun a o z => (h2 a o z).1) f1).set h3 (fun a o z l q => ?_) f2) ex1⟩
          rcases own_set q f1 rel1.len with ⟨o1, z1⟩ | q
          · have := (h2 a o1 z1).2 0 _ (by rw [z]; rfl) rfl
            rw [o] at this; cases this
          · exact (h4 a o z).1 l q⟩⟩
def sPar3 (i j l : Nat) (t : TQP) : TQS := fun R ρ => t ρ fun ss ρ1 => match ss with
  | [s1, s2, s3] => R.nx (((ρ1.set i s1).set j s2).set l s3)
  | _ => False
theorem qs_par3 (i j l : Nat) {x y z : Str} {px py pz pt : Pos} {t : TQP} {kt k2 pt2} (hc : X.calm = true) (hN : X.N.Nodup) (ha : QPs X [a, b, c] t)
    (hi : X.N[i]? = some x := by rfl) (hj : X.N[j]? = some y := by rfl) (hl : X.N[l]? = some z := by rfl) (hij : i ≠ j := by decide) (hil : i ≠ l := by decide) (hjl : j ≠ l := by decide)
    (hx : X.env.scope.names.lookup x = some .local := by rfl) (hy : X.env.scope.names.lookup y = some .local := by rfl) (hz : X.env.scope.names.lookup z = some .local := by rfl)
    (hw : swappedStores [.Tuple [.Name x px, .Name y py, .Name z pz] kt pt] (.Tuple [a, b, c] k2 pt2) X.env = pure (some [x, y, z]) := by rfl)
    (hs : swapsWithSole [.Tuple [.Name x px, .Name y py, .Name z pz] kt pt] (.Tuple [a, b, c] k2 pt2) pos.line X.env = pure false := by rfl) :
    QS X (.Assign [.Tuple [.Name x px, .Name y py, .Name z pz] kt pt] (.Tuple [a, b, c] k2 pt2) pos) (sPar3 i j l t) :=
  ⟨fun dk H0 => PS.imp (ps_par3 hc hN hi hj hl hij hil hjl hx hy hz (ha.run dk H0) hw hs) fun D σ H ⟨ρ, R, rel, h, k⟩ => ⟨ρ, _, rel, h, fun ss ρ1 vs H1 hss ps rel1 ex1 => by
    cases ps with
    | nil => exact hss.elim
    | cons h1 h2 ps f1 =>
      cases ps with
      | nil => exact hss.elim
      | cons h3 h4 ps f2 =>
        cases ps with
        | nil => exact hss.elim
        | cons h5 h6 ps f3 =>
          cases ps with
          | cons _ _ _ _ => exact hss.elim
          | nil =>
            refine ⟨_, _, _, rfl, k.nx _ _ H1 hss (((rel1.set h1 (fun a o z => (h2 a o z).1) f1).set h3 (fun a o z l q => ?_) f2).set h5 (fun a o z l q => ?_) f3) ex1⟩
            · rcases own_set q f1 rel1.len with ⟨o1, z1⟩ | q
              · have := (h2 a o1 z1).2 0 _ (by rw [z]; rfl) rfl
                rw [o] at this; cases this
              · exact (h4 a o z).1 l q
            · rcases own_set q f2 (by rw [List.length_set, List.length_set]; exact rel1.len) with ⟨o1, z1⟩ | q
              · have := (h4 a o1 z1).2 0 _ (by rw [z]; rfl) rfl
                rw [o] at this; cases this
              · rcases own_set q f1 rel1.len with ⟨o1, z1⟩ | q
                · have := (h2 a o1 z1).2 1 _ (by rw [z]; rfl) rfl
                  rw [o] at this; cases this
                · exact (h6 a o z).1 l q⟩⟩
end
end Q
end P8
section P9
namespace Q
open PySem PySem.Spec PyProof.Rows L2 HT
abbrev CA := List PyData → (PyData → Prop) → Prop
abbrev BrA (K : PySem.W.Frag) (r : List V → Hp → VK → Prop) (C : CA) : Prop := ∀ ds vs H Q R, FzAll K H vs ds → C ds R → (∀ z w H', R z → Fz K H' w z → Same H H' → Q w H') → r vs H Q
def tCA (C : CA) (t : TQL) : TQ := fun ρ R => t ρ fun ds ρ1 => C ds fun z => R z ρ1
section
variable {X : Cx} {pos p : Pos} {e a b : Expr} {es : List Expr} {te ta tb : TQ} {t : TQL} {x : Str} {id T : String} {r : List V → Hp → VK → Prop} {C : CA}
theorem up_ca {K : PySem.W.Frag} {dk : Dk} {H0 : Hp} (br : BrA K r C) (σ : L2.St) (H : Hp) (Q : VK) (h : up K dk H0 (tCA C t) σ H Q) : tCB r (upD K dk H0 t) σ H Q := by
  obtain ⟨ρ, R, rel, h, k⟩ := h
  exact ⟨ρ, _, rel, h, fun ds ρ1 vs H1 hds fz rel1 ex1 => br ds vs H1 Q _ fz hds fun z w H' hz fz' sm => k z ρ1 w H' hz fz' (rel1.same sm) (ex1.trans (ex_same sm))⟩
theorem q_callB (hc : CallR X (.builtin id) r) (br : BrA X.K r C) (hg : Gl X x) (hm : X.mg x = none) (hv : bootBuiltins x = some (.builtin id)) (ha : QDs X (e :: es) t) (hn : x ≠ "__name__" := by decide) (hdb : (x == ("__debug__" : Str)) = false := by decide)
    (he : starEach (e :: es) X.env = (false, eval e X.env) :: starEach es X.env := by rfl) (hpl : (backTo pos (starEach es X.env)).any (·.1) = false := by rfl) : QE X (.Call (.Name x p) (e :: es) [] pos) (tCA C t) :=
  ⟨fun dk H0 => PE.imp (pe_callB hc hg hm hv (ha.run dk H0) hn hdb he hpl) (up_ca br)⟩
theorem q_callTy (hc : CallR X (.type T) r) (br : BrA X.K r C) (hg : Gl X x) (hm : X.mg x = none) (hv : bootBuiltins x = some (.type T)) (ha : QDs X (e :: es) t) (hn : x ≠ "__name__" := by decide) (hdb : (x == ("__debug__" : Str)) = false := by decide)
    (he : starEach (e :: es) X.env = (false, eval e X.env) :: starEach es X.env := by rfl) (hpl : (backTo pos (starEach es X.env)).any (·.1) = false := by rfl) : QE X (.Call (.Name x p) (e :: es) [] pos) (tCA C t) :=
  ⟨fun dk H0 => PE.imp (pe_callTy hc hg hm hv (ha.run dk H0) hn hdb he hpl) (up_ca br)⟩
/-- len(x) -/
def lenD : CA := fun ds R => match ds with
  | [.list xs] => R (.int (xs.length : Nat))
  | [.tuple xs] => R (.int (xs.length : Nat))
  | [.str z] => z.length ≤ sizeLine ∧ R (.int (z.length : Nat))
  | _ => False
theorem fz1 {K : PySem.W.Frag} {H : Hp} {vs : List V} {x : PyData} (f : FzAll K H vs [x]) : ∃ v, vs = [v] ∧ Fz K H v x := by
  cases f with
  | cons a b => cases b; exact ⟨_, rfl, a⟩
theorem fz2 {K : PySem.W.Frag} {H : Hp} {vs : List V} {x y : PyData} (f : FzAll K H vs [x, y]) : ∃ v w, vs = [v, w] ∧ Fz K H v x ∧ Fz K H w y := by
  cases f with
  | cons a b =>
    obtain ⟨w, rfl, c⟩ := fz1 b
    exact ⟨_, _, rfl, a, c⟩
theorem br_len {K : PySem.W.Frag} : BrA K (fun xs H Q => (∃ p ys, xs = [.ref p] ∧ (SqL K H p ys ∨ SqT K H p ys) ∧ Q (.int ys.length) H) ∨ ∃ z, xs = [.str z] ∧ z.length ≤ sizeLine ∧ Q (.int z.length) H) lenD := by
  intro ds vs H Q R f c k
  unfold lenD at c
  split at c
  · obtain ⟨v, rfl, fv⟩ := fz1 f
    cases fv with
    | lst q t => refine .inl ⟨_, _, rfl, .inl (.inl (.inr ⟨_, q⟩)), ?_⟩; rw [t.length]; exact k _ _ H c (.int _) (Same.refl H)
  · obtain ⟨v, rfl, fv⟩ := fz1 f
    cases fv with
    | tup q t => refine .inl ⟨_, _, rfl, .inr q, ?_⟩; rw [t.length]; exact k _ _ H c (.int _) (Same.refl H)
  · obtain ⟨v, rfl, fv⟩ := fz1 f
    cases fv
    exact .inr ⟨_, rfl, c.1, k _ _ H c.2 (.int _) (Same.refl H)⟩
  · exact c.elim
theorem q_len (hg : Gl X "len") (hm : X.mg "len" = none) (ha : QE X e te) (hs : starEach [e] X.env = (false, eval e X.env) :: starEach [] X.env := by rfl) : QE X (.Call (.Name "len" p) [e] [] pos) (tCA lenD (dCons te dNil)) :=
  q_callB (call_len_seq.or call_len_str) br_len hg hm PySem.boot_len (qd_cons ha qd_nil hs) (he := hs)
/-- tuple(x) -/
def tupD : CA := fun ds R => match ds with
  | [.list xs] => R (.tuple xs)
  | [.tuple xs] => R (.tuple xs)
  | _ => False
theorem br_tup {K : PySem.W.Frag} : BrA K (fun xs H Q => ∃ p ys, xs = [.ref p] ∧ ((SqL K H p ys ∧ ∀ l, H l = none → Q (.ref l) (upd H l (.tup ys))) ∨ (SqT K H p ys ∧ Q (.ref p) H))) tupD := by
  intro ds vs H Q R f c k
  unfold tupD at c
  split at c
  · obtain ⟨v, rfl, fv⟩ := fz1 f
    cases fv with
    | @lst a o xs es q t =>
      refine ⟨_, _, rfl, .inl ⟨.inl (.inr ⟨_, q⟩), fun l hl => ?_⟩⟩
      have sm := same_upd (o := .tup xs) hl
      exact k _ _ _ c (.tup (.inl (.inl upd_same)) (t.mono (ex_same sm))) sm
  · obtain ⟨v, rfl, fv⟩ := fz1 f
    cases fv with
    | tup q t => exact ⟨_, _, rfl, .inr ⟨q, k _ _ H c (.tup q t) (Same.refl H)⟩⟩
  · exact c.elim
theorem q_tuple (hg : Gl X "tuple") (hm : X.mg "tuple" = none) (ha : QE X e te) (hs : starEach [e] X.env = (false, eval e X.env) :: starEach [] X.env := by rfl) : QE X (.Call (.Name "tuple" p) [e] [] pos) (tCA tupD (dCons te dNil)) :=
  q_callTy call_tuple_of br_tup hg hm boot_tuple (qd_cons ha qd_nil hs) (he := hs)
/-- all(x), any(x), sum(x), max(x), min(x), abs, int -/
def allD : CA := fun ds R => match ds with
  | [.list xs] => ∃ bs : List Bool, xs = bs.map .bool ∧ R (.bool (bs.all fun b => b))
  | _ => False
def sumD : CA := fun ds R => match ds with
  | [.list xs] => ∃ ns : List Int, xs = ns.map .int ∧ R (.int ns.sum)
  | _ => False
theorem br_all {K : PySem.W.Frag} : BrA K (rAll K) allD := by
  intro ds vs H Q R f c k
  unfold allD at c
  split at c
  · obtain ⟨v, rfl, fv⟩ := fz1 f
    cases fv with
    | lst q t =>
      obtain ⟨bs, rfl, c⟩ := c
      exact ⟨_, bs, rfl, .inl (.inr ⟨_, by rw [t.bls] at q; exact q⟩), k _ _ H c (.bl _) (Same.refl H)⟩
  · exact c.elim
theorem br_sum {K : PySem.W.Frag} : BrA K (rSum K) sumD := by
  intro ds vs H Q R f c k
  unfold sumD at c
  split at c
  · obtain ⟨v, rfl, fv⟩ := fz1 f
    cases fv with
    | lst q t =>
      obtain ⟨bs, rfl, c⟩ := c
      exact ⟨_, bs, rfl, .inl (.inr ⟨_, by rw [t.ints] at q; exact q⟩), k _ _ H c (.int _) (Same.refl H)⟩
  · exact c.elim
theorem q_all (hc : X.calm = true) (hg : Gl X "all") (hm : X.mg "all" = none) (ha : QE X e te) (hs : starEach [e] X.env = (false, eval e X.env) :: starEach [] X.env := by rfl) : QE X (.Call (.Name "all" p) [e] [] pos) (tCA allD (dCons te dNil)) :=
  q_callB (cr_all hc) br_all hg hm (by decide +kernel) (qd_cons ha qd_nil hs) (he := hs)
theorem q_sum (hc : X.calm = true) (hg : Gl X "sum") (hm : X.mg "sum" = none) (ha : QE X e te) (hs : starEach [e] X.env = (false, eval e X.env) :: starEach [] X.env := by rfl) : QE X (.Call (.Name "sum" p) [e] [] pos) (tCA sumD (dCons te dNil)) :=
  q_callB (cr_sum hc) br_sum hg hm (by decide +kernel) (qd_cons ha qd_nil hs) (he := hs)
section
open PyProof.Rows
variable {prog : Program} {w : World} {A : Around} {E : Value → Shared → Prop} {s : Shared}
end
/-- list(x): a new list -/
def listC (ds : List PyData) (R : List PyData → Prop) : Prop := match ds with
  | [.list xs] => R xs
  | [.tuple xs] => R xs
  | _ => False
def listD (t : TQL) : TQL := fun ρ R => t ρ fun ds ρ1 => listC ds fun xs => R xs ρ1
end
section
variable {X : Cx} {pos p : Pos} {e a b : Expr} {es : List Expr} {te ta tb : TQ}
/-- isinstance -/
def isInt : PyData → Bool
  | .int _ => true
  | .bool _ => true
  | _ => false
def isBool : PyData → Bool
  | .bool _ => true
  | _ => false
def isTup : PyData → Bool
  | .tuple _ => true
  | _ => false
def isStr : PyData → Bool
  | .str _ => true
  | _ => false
def isLst : PyData → Bool
  | .list _ => true
  | _ => false
def tyN : PyData → String
  | .none => "NoneType"
  | .bool _ => "bool"
  | .int _ => "int"
  | .str _ => "str"
  | .list _ => "list"
  | .tuple _ => "tuple"
  | .dict _ => "dict"
theorem ty_fz {K : PySem.W.Frag} {H : Hp} {v : V} {x : PyData} (f : Fz K H v x) (hd : ∀ l, x ≠ .dict l) : TyX K H v (.type (tyN x)) := by
  cases f with
  | al b => exact (hd _ rfl).elim
  | ex _ _ => exact (hd _ rfl).elim
  | dt _ _ _ _ => exact (hd _ rfl).elim
  | dk _ _ _ _ => exact (hd _ rfl).elim
  | non => exact .base .non
  | bl b => exact .base (.bl b)
  | int b => exact .base (.int b)
  | str b => exact .base (.str b)
  | lst q t => exact .base (.frz q)
  | tup q t =>
    rcases q with (q | ⟨o, q⟩) | ⟨o, its, n, q, h1, h2⟩
    · exact .base (.tup q)
    · exact .fTuple q
    · exact .kTuple q h1
/-- isinstance of a dict, frozen -/
theorem call_isiD {X : Cx} : CallR X (.builtin "isinstance") (fun xs H Q => ∃ (a : Addr) (o : Obj) (c : V) (u : Value) (b : Bool), xs = [.ref a, c] ∧ ClsV c u ∧ ((∃ ws, H a = some (.frz o (.dK ws))) ∨ ∃ ws, H a = some (.frz o (.dT ws))) ∧ PySem.W.kitOne X.K (.type "dict") u = some b ∧ Q (.bl b) H) := by
  intro pins s σ H xs us Q I r h
  obtain ⟨a, ob, c, u, b, rfl, k, hd, e, q⟩ := h
  obtain ⟨u1, u2, rfl, r1, r2⟩ := vals2 r
  have e2 := k.eq r2
  subst e2
  cases (show u1 = Value.ref a from r1)
  have key : ∃ o : Obj, s.heap.get? a = some o ∧ o.cls = .type "dict" := by
    rcases hd with ⟨ws, hd⟩ | ⟨ws, hd⟩
    · obtain ⟨_, _, _, vs, _, o, es, ep, h1, h2, _⟩ := (show ObjOk X.prog X.w H s.heap a (.frz ob (.dK ws)) from I.hok a _ hd)
      exact ⟨o, h1, h2.1⟩
    · obtain ⟨_, _, _, vs, _, o, es, ep, h1, h2, _⟩ := (show ObjOk X.prog X.w H s.heap a (.frz ob (.dT ws)) from I.hok a _ hd)
      exact ⟨o, h1, h2.1⟩
  exact PySem.W.kia_one PySem.W.kitx_dict I.kIn key e (fun z => nomatch z) fun tk => ⟨.bl b, H, I.tok tk, rfl, q⟩
theorem call_isi2 {X : Cx} : CallR X (.builtin "isinstance") (fun xs H Q => rIsi X.K xs H Q ∨ ∃ (a : Addr) (o : Obj) (c : V) (u : Value) (b : Bool), xs = [.ref a, c] ∧ ClsV c u ∧ ((∃ ws, H a = some (.frz o (.dK ws))) ∨ ∃ ws, H a = some (.frz o (.dT ws))) ∧ PySem.W.kitOne X.K (.type "dict") u = some b ∧ Q (.bl b) H) := by
  intro pins s σ H xs us Q I r h
  rcases h with h | h
  · exact call_isi pins s σ H xs us Q I r h
  · exact call_isiD pins s σ H xs us Q I r h
def isDc : PyData → Prop
  | .dict l => ∀ y, l ≠ [(.none, y)]
  | _ => True
def isD (f : PyData → Bool) (te : TQ) : TQ := fun ρ R => te ρ fun x ρ1 => isDc x ∧ R (.bool (f x)) ρ1
theorem q_isi {x : Str} {T : String} {f : PyData → Bool} {p2 : Pos} (hf : ∀ d, kitB (tyN d) T = some (f d)) (hv2 : bootBuiltins x = some (.type T)) (hg : Gl X "isinstance") (hm : X.mg "isinstance" = none) (hg2 : Gl X x) (hm2 : X.mg x = none) (ha : QE X e te)
    (hs : starEach [e, .Name x p2] X.env = (false, eval e X.env) :: starEach [.Name x p2] X.env := by rfl) (hs2 : starEach [.Name x p2] X.env = (false, eval (.Name x p2) X.env) :: starEach [] X.env := by rfl)
    (hpl : (backTo pos (starEach [.Name x p2] X.env)).any (·.1) = false := by rfl) (hn : x ≠ "__name__" := by decide) (hd : (x == ("__debug__" : Str)) = false := by decide) :
    QE X (.Call (.Name "isinstance" p) [e, .Name x p2] [] pos) (isD f te) :=
  ⟨fun dk H0 => PE.imp (pe_callB call_isi2 hg hm (by decide +kernel) (pa_cons (ha.run dk H0) (pa_cons (pe_bltn (v := .ty T) hg2 hm2 hv2 rfl hn hd) pa_nil hs2) hs) (he := hs) (hpl := hpl)) fun σ H Q ⟨ρ, R, rel, h, k⟩ =>
    ⟨ρ, _, rel, h, fun y ρ1 v H1 hy fz rel1 ex1 => by
      obtain ⟨hy1, hy2⟩ := hy
      by_cases q : ∃ l, y = .dict l
      · obtain ⟨l, rfl⟩ := q
        have kt := kit_ty (K := X.K) (hf (.dict l))
        cases fz with
        | al b => exact (hy1 _ rfl).elim
        | ex _ _ => exact (hy1 _ rfl).elim
        | dt h1 h2 h3 h4 => exact .inr ⟨_, _, .ty T, _, _, rfl, .ty T, .inr ⟨_, h1⟩, kt, k _ ρ1 _ H1 hy2 (.bl _) rel1 ex1⟩
        | dk h1 h2 h3 h4 => exact .inr ⟨_, _, .ty T, _, _, rfl, .ty T, .inl ⟨_, h1⟩, kt, k _ ρ1 _ H1 hy2 (.bl _) rel1 ex1⟩
      · exact .inl ⟨v, .ty T, _, _, f y, rfl, .ty T, ty_fz fz (fun l z => q ⟨l, z⟩), kit_ty (hf y), k _ ρ1 _ H1 hy2 (.bl _) rel1 ex1⟩⟩⟩
theorem kb_int : ∀ d, kitB (tyN d) "int" = some (isInt d) := by intro d; cases d <;> (dsimp only [tyN, isInt, isBool, isTup, isStr, isLst]; decide +kernel)
theorem kb_bool : ∀ d, kitB (tyN d) "bool" = some (isBool d) := by intro d; cases d <;> (dsimp only [tyN, isInt, isBool, isTup, isStr, isLst]; decide +kernel)
theorem kb_tup : ∀ d, kitB (tyN d) "tuple" = some (isTup d) := by intro d; cases d <;> (dsimp only [tyN, isInt, isBool, isTup, isStr, isLst]; decide +kernel)
theorem kb_str : ∀ d, kitB (tyN d) "str" = some (isStr d) := by intro d; cases d <;> (dsimp only [tyN, isInt, isBool, isTup, isStr, isLst]; decide +kernel)
/-- repr(x) -/
structure RepOk (d : PyData) : Prop where
  sh : d.showable = true
  lay : d.canLay0 = true
  dp : d.depth ≤ 60
  sz : d.shown.length ≤ sizeLine
theorem call_reprD (hg : X.A.guards = some []) (hu : X.A.units + 64 < cLine) : CallR X (.builtin "repr") (fun xs H Q => ∃ v d, xs = [v] ∧ Dp X.K H v d ∧ RepOk d ∧ Q (.str d.shown) H) := by
  intro pins s σ H xs us Q I r h
  obtain ⟨v, d, rfl, hd, ok, q⟩ := h
  obtain ⟨u, rfl, ru⟩ := vals1 r
  obtain ⟨as, rd⟩ := Dp.reads I d v u hd ru
  have big : ∀ (a : Addr) (d : PyData) (as : List Addr), Reads s.heap (.ref a) d as → RepOk d → Q (.str d.shown) H → wpAny (model X.prog X.w) X.A (call (.builtin "repr") [.ref a]) (EP X pins σ Q) X.xe s := fun a d as rd ok q =>
    repr_of_reads' rd ok.sh (PyData.noDict_hsm (PyData.hasDict_of_canLay d ok.lay)) hg (by have := ok.dp; omega) (fun _ _ e => e) (fun h' u tk hk => ⟨.str _, H, I.kept (t' := tk) hk, ⟨_, rfl⟩, q⟩) ok.sz
  cases hd with
  | non =>
    cases ru
    exact PySem.P.repr_of_none ⟨.str _, H, I.tok _, ⟨_, rfl⟩, by simpa only [PyData.shown] using q⟩
  | bl b =>
    cases ru
    exact PySem.P.repr_of_bool ⟨.str _, H, I.tok _, ⟨_, rfl⟩, by simpa only [PyData.shown] using q⟩
  | int i =>
    obtain ⟨t, rfl⟩ := ru
    exact PySem.P.repr_of_int (by simpa [PyData.showable] using ok.sh) ⟨.str _, H, I.tok _, ⟨_, rfl⟩, by simpa only [PyData.shown] using q⟩
  | str z =>
    obtain ⟨t, rfl⟩ := ru
    exact PySem.P.repr_of_str ⟨.str _, H, I.tok _, ⟨_, rfl⟩, by simpa only [PyData.shown] using q⟩ (by simpa only [PyData.shown] using ok.sz)
  | lst h1 h2 => cases ru; exact big _ _ as rd ok q
  | tup h1 h2 => cases ru; exact big _ _ as rd ok q
def reprD : CA := fun ds R => match ds with
  | [x] => RepOk x ∧ R (.str x.shown)
  | _ => False
theorem br_repr {K : PySem.W.Frag} : BrA K (fun xs H Q => ∃ v d, xs = [v] ∧ Dp K H v d ∧ RepOk d ∧ Q (.str d.shown) H) reprD := by
  intro ds vs H Q R f c k
  unfold reprD at c
  split at c
  · obtain ⟨v, rfl, fv⟩ := fz1 f
    exact ⟨v, _, rfl, fv.dp c.1.lay, c.1, k _ _ H c.2 (.str _) (Same.refl H)⟩
  · exact c.elim
theorem q_repr (hG : X.A.guards = some []) (hu : X.A.units + 64 < cLine) (hg : Gl X "repr") (hm : X.mg "repr" = none) (ha : QE X e te) (hs : starEach [e] X.env = (false, eval e X.env) :: starEach [] X.env := by rfl) : QE X (.Call (.Name "repr" p) [e] [] pos) (tCA reprD (dCons te dNil)) :=
  q_callB (call_reprD hG hu) br_repr hg hm (by decide +kernel) (qd_cons ha qd_nil hs) (he := hs)
end
end Q
end P9
section P10
namespace Q
open PySem PySem.Spec PyProof.Rows L2 HT
abbrev PSpec := List Ar → (PyData → Prop) → Prop
structure FnG (P : Program) (w : World) (K : PySem.W.Frag) (mg : Str → Option Value) (base : Heap) (k : Nat) (f : Addr) (fd : FuncData) (ps : List Str) (S : PSpec) : Prop where
  len : ∀ as R, S as R → as.length = ps.length
  run : ∀ (A : Around) (outer : List PySem.Env) (s : Shared) (H : Hp) (args : Args) (us : List Value) (vs : List V) (Q : VK) (dk : Dk) (as : List Ar) (R : PyData → Prop), A.guards = some [] → Room k A → Env0 P w K mg base A outer s H → BindsTo s fd args (ps.zip us) → Vals vs us →
    ArsOk K dk H vs as → DkOk H dk.1 dk.2 → S as R → (∀ x v H', R x → Fz K H' v x → Step dk H H' → Q v H') → codeAny (model P w) A (.call (.ref f) args) (CR CX0 outer P w H s Q E0) s
theorem FnG.imp {P : Program} {w : World} {K : PySem.W.Frag} {mg : Str → Option Value} {base : Heap} {k : Nat} {f : Addr} {fd : FuncData} {ps : List Str} {S S' : PSpec} (F : FnG P w K mg base k f fd ps S) (h : ∀ as R, S' as R → S as R) : FnG P w K mg base k f fd ps S' :=
  ⟨fun as R q => F.len as R (h as R q), fun A outer s H args us vs Q dk as R h1 h2 h3 h4 h5 h6 h7 h8 h9 => F.run A outer s H args us vs Q dk as R h1 h2 h3 h4 h5 h6 h7 (h as R h8) h9⟩
def upA' (K : PySem.W.Frag) (dk : Dk) (H0 : Hp) (n : Nat) (t : TQA) : TA := fun σ H Q => ∃ ρ R, Rel K dk H0 ρ σ H ∧ t ρ R ∧ ∀ xs ρ' vs H', R xs ρ' → ArsOk K dk H' vs xs → vs.length = n → Rel K dk H0 ρ' σ H' → Ex H H' → Q vs H'
structure QAs (X : Cx) (es : List Expr) (t : TQA) : Prop where
  run : ∀ dk H0, PA X es (upA' X.K dk H0 es.length t)
section
variable {X : Cx} {pos p : Pos} {e a b : Expr} {es : List Expr} {te ta tb : TQ} {t tk : TQA} {x : Str}
def aNil : TQA := fun ρ R => R [] ρ
def aD (te : TQ) (t : TQA) : TQA := fun ρ R => te ρ fun x ρ1 => t ρ1 fun xs ρ2 => R (.d x :: xs) ρ2
def aK (i : Nat) (t : TQA) : TQA := fun ρ R => match ρ[i]? with
  | some .dk => t ρ fun xs ρ2 => R (.dk :: xs) ρ2
  | _ => False
theorem qa_nil : QAs X [] aNil := ⟨fun dk H0 => PA.imp pa_nil fun σ H Q ⟨ρ, R, rel, h, k⟩ => k [] ρ [] H h .nil rfl rel (Ex.refl H)⟩
theorem qa_d (he : QE X e te) (ht : QAs X es t) (hs : starEach (e :: es) X.env = (false, eval e X.env) :: starEach es X.env := by rfl) : QAs X (e :: es) (aD te t) :=
  ⟨fun dk H0 => PA.imp (pa_cons (he.run dk H0) (ht.run dk H0) hs) fun σ H Q ⟨ρ, R, rel, h, k⟩ =>
    ⟨ρ, _, rel, h, fun x ρ1 v H1 hx fz rel1 ex1 => ⟨ρ1, _, rel1, hx, fun xs ρ2 vs H2 hxs ok hl rel2 ex2 => k _ ρ2 (v :: vs) H2 hxs (.cons (fz.mono ex2) ok) (by rw [List.length_cons, List.length_cons, hl]) rel2 (ex1.trans ex2)⟩⟩⟩
theorem qa_k (i : Nat) (ht : QAs X es t) (hN : X.N[i]? = some x := by rfl) (hv : Vis X.env.scope x := by first | exact Or.inl rfl | exact Or.inr (Or.inl rfl) | exact Or.inr (Or.inr rfl)) (hd : (x == ("__debug__" : Str)) = false := by decide)
    (hcd : (x == ("__classdict__" : Str)) = false := by decide) (hs : starEach (.Name x p :: es) X.env = (false, eval (.Name x p) X.env) :: starEach es X.env := by rfl) : QAs X (.Name x p :: es) (aK i t) :=
  ⟨fun dk H0 => PA.imp (pa_cons (pe_var hN hv hd hcd) (ht.run dk H0) hs) fun σ H Q ⟨ρ, R, rel, h, k⟩ => by
    unfold aK at h
    split at h
    · rename_i e
      have q := rel.sl i _ e
      exact ⟨_, q, ρ, _, rel, h, fun xs ρ2 vs H2 hxs ok hl rel2 ex2 => k _ ρ2 _ H2 hxs (.cons rfl ok) (by rw [List.length_cons, List.length_cons, hl]) rel2 ex2⟩
    · exact h.elim⟩
variable {k : Nat} {f : Addr} {fd : FuncData} {ps : List Str} {S : PSpec}
def tCallQ (S : PSpec) (t : TQA) : TQ := fun ρ R => t ρ fun as ρ1 => S as fun x => R x ρ1
theorem run_g {pins : List (Addr × Obj)} {σ : L2.St} {H : Hp} {s : Shared} {Q : VK} {dk : Dk} {args : Args} {us : List Value} {vs : List V} {as : List Ar} {R : PyData → Prop} {kws : List (Str × Value)} (F : FnG X.prog X.w X.K X.mg X.base k f fd ps S) (hG : X.A.guards = some []) (hr : Room k X.A)
    (I : Inv X pins σ H s) (hb : BindsTo s fd ⟨us, kws⟩ (ps.zip us')) (r : Vals vs us') (ok : ArsOk X.K dk H vs as) (hd : DkOk H dk.1 dk.2) (h : S as R) (kk : ∀ x v H', R x → Fz X.K H' v x → Step dk H H' → Q v H') :
    wpAny (model X.prog X.w) X.A (call (.ref f) us kws) (EP X pins σ Q) X.xe s := by
  refine wpAny_call (codeAny_mono (F.run X.A X.stack s H ⟨us, kws⟩ us' vs Q dk as R hG hr I.env0 hb r ok hd h kk) fun r s' hq => ?_)
  cases r with
  | error e => exact False.elim hq
  | ok fl =>
    cases fl with
    | ret u => exact I.after hq
    | next => exact False.elim hq
    | brk => exact False.elim hq
    | cont => exact False.elim hq
theorem q_call (F : FnG X.prog X.w X.K X.mg X.base k f fd ps S) (hG : X.A.guards = some []) (hr : Room k X.A) (hg : Gl X x) (hm : X.mg x = some (.ref f)) (hk : PySem.W.keepIn X.K (.ref f) = true) (hb : Binds X.K fd ps [])
    (ha : QAs X (e :: es) t) (hdb : (x == ("__debug__" : Str)) = false := by decide) (he : starEach (e :: es) X.env = (false, eval e X.env) :: starEach es X.env := by rfl) (hpl : (backTo pos (starEach es X.env)).any (·.1) = false := by rfl) :
    QE X (.Call (.Name x p) (e :: es) [] pos) (tCallQ S t) := by
  refine ⟨fun dk H0 => ⟨fun pins s σ H Q I ⟨ρ, R, rel, h, kk⟩ => ?_⟩⟩
  refine wpAny_Call_Name_kw (ld_glob I hg hm ?_ hdb)
  let Q1 : List V → Hp → Prop := fun vs H1 => ∃ as ρ1, (S as fun x => R x ρ1) ∧ ArsOk X.K dk H1 vs as ∧ Rel X.K dk H0 ρ1 σ H1 ∧ Ex H H1
  refine PySem.W.callWith_K (h₀ := X.base) I.ok.mod.kin hk (thn ((ha.run dk H0).run pos pins s σ H Q1 I ⟨ρ, _, rel, h, fun as ρ1 vs H1 q1 q2 q3 q4 q5 => ⟨as, ρ1, q1, q2, q4, q5⟩⟩) fun us s1 ⟨vs, H1, I1, r, as, ρ1, q1, q2, q4, q5⟩ => ⟨I1.kIn, ?_⟩) he hpl
  have hl : us.length = ps.length := by rw [← r.length, q2.length]; exact F.len _ _ q1
  have hb' := hb s1 us I1.kIn (by rw [List.append_nil]; exact hl)
  rw [List.append_nil] at hb'
  exact run_g (args := ⟨us, []⟩) F hG hr I1 hb' r q2 q4.dok q1 fun y v H' hy fz st => kk y ρ1 v H' hy fz (q4.step st) (q5.trans (st.ex q4.dok))
/-- keywords -/
structure QK (X : Cx) (kws : List Keyword) (t : TQA) : Prop where
  run : ∀ dk H0, PK X kws (upA' X.K dk H0 kws.length t)
theorem PK.imp {X : Cx} {e : List Keyword} {t t' : TA} (h : PK X e t) (w : ∀ σ H Q, t' σ H Q → t σ H Q) : PK X e t' := ⟨fun pos pins s σ H Q I q => h.run pos pins s σ H Q I (w _ _ _ q)⟩
theorem qk_nil : QK X [] aNil := ⟨fun dk H0 => PK.imp pk_nil fun σ H Q ⟨ρ, R, rel, h, k⟩ => k [] ρ [] H h .nil rfl rel (Ex.refl H)⟩
theorem qk_d {nm : Option Str} {kpos : Pos} {kws : List Keyword} (he : QE X e te) (ht : QK X kws t) : QK X (⟨nm, e, kpos⟩ :: kws) (aD te t) :=
  ⟨fun dk H0 => PK.imp (pk_cons (he.run dk H0) (ht.run dk H0)) fun σ H Q ⟨ρ, R, rel, h, k⟩ =>
    ⟨ρ, _, rel, h, fun x ρ1 v H1 hx fz rel1 ex1 => ⟨ρ1, _, rel1, hx, fun xs ρ2 vs H2 hxs ok hl rel2 ex2 => k _ ρ2 (v :: vs) H2 hxs (.cons (fz.mono ex2) ok) (by rw [List.length_cons, List.length_cons, hl]) rel2 (ex1.trans ex2)⟩⟩⟩
def pick {α : Type} (ix : List Nat) (xs : List α) : List α := ix.filterMap (xs[·]?)
theorem pick_vals {vs : List V} {us : List Value} (r : Vals vs us) : ∀ ix : List Nat, Vals (pick ix vs) (pick ix us)
  | [] => .nil
  | i :: ix => by
    unfold pick
    rw [List.filterMap_cons, List.filterMap_cons]
    cases e : vs[i]? with
    | none => rw [r.none_of e]; exact pick_vals r ix
    | some v =>
      obtain ⟨u, hu, ru⟩ := r.get e
      rw [hu]
      exact .cons ru (pick_vals r ix)
theorem ArsOk.get {K : PySem.W.Frag} {dk : Dk} {H : Hp} : ∀ {vs : List V} {as : List Ar} {i : Nat}, ArsOk K dk H vs as → (vs[i]? = none ∧ as[i]? = none) ∨ ∃ v a, vs[i]? = some v ∧ as[i]? = some a ∧ ArOk K dk H v a
  | _, _, _, .nil => .inl ⟨by simp, by simp⟩
  | _, _, 0, .cons h _ => .inr ⟨_, _, rfl, rfl, h⟩
  | _, _, i + 1, .cons _ t => by
    rcases ArsOk.get (i := i) t with ⟨h1, h2⟩ | ⟨v, a, h1, h2, h3⟩
    · exact .inl ⟨by simpa using h1, by simpa using h2⟩
    · exact .inr ⟨v, a, by simpa using h1, by simpa using h2, h3⟩
theorem pick_ars {K : PySem.W.Frag} {dk : Dk} {H : Hp} {vs : List V} {as : List Ar} (r : ArsOk K dk H vs as) : ∀ ix : List Nat, ArsOk K dk H (pick ix vs) (pick ix as)
  | [] => .nil
  | i :: ix => by
    unfold pick
    rw [List.filterMap_cons, List.filterMap_cons]
    rcases r.get (i := i) with ⟨h1, h2⟩ | ⟨v, a, h1, h2, h3⟩
    · rw [h1, h2]; exact pick_ars r ix
    · rw [h1, h2]; exact .cons h3 (pick_ars r ix)
theorem ArsOk.append {K : PySem.W.Frag} {dk : Dk} {H : Hp} : ∀ {vs ws : List V} {as bs : List Ar}, ArsOk K dk H vs as → ArsOk K dk H ws bs → ArsOk K dk H (vs ++ ws) (as ++ bs)
  | _, _, _, _, .nil, s => s
  | _, _, _, _, .cons r t, s => .cons r (ArsOk.append t s)
def KwB (K : PySem.W.Frag) (fd : FuncData) (ps ks : List Str) (n : Nat) (ix : List Nat) : Prop := ∀ (s : Shared) (us ws : List Value), K.In s.heap → us.length = n → ws.length = ks.length → BindsTo s fd ⟨us, ks.zip ws⟩ (ps.zip (pick ix (us ++ ws)))
def tCallKQ (S : PSpec) (ix : List Nat) (t tk : TQA) : TQ := fun ρ R => t ρ fun as ρ1 => tk ρ1 fun bs ρ2 => S (pick ix (as ++ bs)) fun x => R x ρ2
theorem q_callK0 {ks : List Str} {ix : List Nat} {kws : List Keyword} (F : FnG X.prog X.w X.K X.mg X.base k f fd ps S) (hG : X.A.guards = some []) (hr : Room k X.A) (hg : Gl X x) (hm : X.mg x = some (.ref f)) (hk : PySem.W.keepIn X.K (.ref f) = true) (hb : KwB X.K fd ps ks 0 ix)
    (hkw : QK X kws tk) (hlen : kws.length = ks.length := by rfl) (hall : (backToKw pos (keywordEach kws X.env)).all (·.1.isSome) = true := by rfl) (hks : (backToKw pos (keywordEach kws X.env)).filterMap (·.1) = ks := by rfl)
    (hdb : (x == ("__debug__" : Str)) = false := by decide)
    (hpl : ((backTo pos (starEach [] X.env)).any (·.1) || (backToKw pos (keywordEach kws X.env)).any (·.1.isNone)) = false := by rfl) :
    QE X (.Call (.Name x p) [] kws pos) (tCallKQ S ix aNil tk) := by
  refine ⟨fun dk H0 => ⟨fun pins s σ H Q I ⟨ρ, R, rel, h, kk⟩ => ?_⟩⟩
  refine wpAny_Call_Name_kw (ld_glob I hg hm ?_ hdb)
  let Q2 : List V → Hp → Prop := fun zs H2 => ∃ bs ρ2, (S (pick ix ([] ++ bs)) fun x => R x ρ2) ∧ ArsOk X.K dk H2 zs bs ∧ zs.length = kws.length ∧ Rel X.K dk H0 ρ2 σ H2 ∧ Ex H H2
  refine PySem.W.callWith_KW0 (h₀ := X.base) I.ok.mod.kin hk hall (thn ((hkw.run dk H0).run pos pins s σ H Q2 I ⟨ρ, _, rel, h, fun bs ρ2 zs H2 p1 p2 p3 p4 p5 => ⟨bs, ρ2, p1, p2, p3, p4, p5⟩⟩) fun ws s2 ⟨zs, H2, I2, rz, bs, ρ2, p1, p2, p3, p4, p5⟩ => ⟨I2.kIn, ?_⟩) hpl
  rw [hks]
  exact run_g (us := []) (args := ⟨[], ks.zip ws⟩) F hG hr I2 (hb s2 [] ws I2.kIn rfl (by rw [← rz.length, p3]; exact hlen)) (pick_vals (Vals.append .nil rz) ix) (pick_ars (ArsOk.append .nil p2) ix) p4.dok p1 fun y v H' hy fz st => kk y ρ2 v H' hy fz (p4.step st) (p5.trans (st.ex p4.dok))
end
def enOf (as : List Ar) (n : Nat) : En := (as.map fun a => match a with | .d x => Sl.d x | .dk => Sl.dk) ++ List.replicate n .un
theorem rel_start {K : PySem.W.Frag} {dk : Dk} {H : Hp} {vs : List V} {as : List Ar} {N : List Str} (ok : ArsOk K dk H vs as) (hd : DkOk H dk.1 dk.2) : Rel K dk H (enOf as (N.length - vs.length)) (L2.start N vs) H := by
  have noOwn : ∀ (i : Nat) s, (enOf as (N.length - vs.length))[i]? = some s → s.isOwn = false := fun i s e => by
    unfold enOf at e
    rw [List.getElem?_append] at e
    split at e
    · rw [List.getElem?_map] at e
      cases q : as[i]? with
      | none => rw [q] at e; cases e
      | some a => rw [q] at e; cases e; cases a <;> rfl
    · rw [List.getElem?_replicate] at e
      split at e
      · cases e; rfl
      · cases e
  obtain ⟨ne, cs, m, k, h1, h2, h3⟩ := id hd
  refine ⟨?_, fun i s e => ?_, fun i j a ⟨s, e, o, _⟩ => ?_, hd, (by rw [h1]; intro z; cases z), (by rw [h2]; intro z; cases z), fun a o e _ _ => e⟩
  · unfold enOf L2.start
    simp [ok.length]
  · unfold enOf at e
    rw [List.getElem?_append] at e
    split at e
    · rename_i hlt
      rw [List.getElem?_map] at e
      rcases ok.get (i := i) with ⟨q1, q2⟩ | ⟨v, a, q1, q2, q3⟩
      · rw [q2] at e; cases e
      · rw [q2] at e
        have hs : (L2.start N vs)[i]? = some (some v) := by
          unfold L2.start
          rw [List.getElem?_append_left (by rw [List.length_map]; exact (List.getElem?_eq_some_iff.mp q1).1), List.getElem?_map, q1]
          rfl
        cases a with
        | d x => cases e; exact ⟨v, hs, q3⟩
        | dk => cases e; rw [show v = .ref dk.1 from q3] at hs; exact hs
    · rw [List.getElem?_replicate] at e
      split at e
      · cases e; exact True.intro
      · cases e
  · rw [noOwn i s e] at o; cases o
section
variable {P : Program} {w : World} {K : PySem.W.Frag} {mg : Str → Option Value} {base : Heap}
theorem FnG.of {x qual : Str} {st : Stmt} {f : Addr} {fd : FuncData} {N ps : List Str} {k : Nat} {S : PSpec} (F : Fun K x qual st f fd) (Sc : FnScope N ps (defScope st)) (len : ∀ as R, S as R → as.length = ps.length) {t : TQS}
    (hbody : ∀ (cdv : Value) (A : Around) (outer : List PySem.Env) (s : Shared) (H : Hp), A.guards = some [] → Room k (A.deeper (envOfC qual (defScope st) s.heap.objs.size f cdv)) →
      QSs (cxOf CX0 P w K mg base N qual (defScope st) f cdv A outer s H E0).nox (defBody st) t)
    (hread : ∀ as R, S as R → t { nx := fun _ => R .none, rt := R } (enOf as (N.length - ps.length))) : FnG P w K mg base (k + 1) f fd ps S := by
  obtain ⟨oc, od, kV, doc, pm, an, cdv, ct, osl, rfl, lk, hcd⟩ := F.ex
  refine ⟨len, fun A outer s H args us vs Q dk as R hG hr e0 hb r ok hd hS kk => ?_⟩
  have hl : vs.length = ps.length := by rw [ok.length]; exact len _ _ hS
  have KX : K.In s.heap := e0.mod.kin.keeps fun b o e => (e0.bs b o e).1
  have lim : s.heap.NoLimit := e0.mod.nolimit.keeps fun b o e => (e0.bs b o e).1
  have hkind : ∀ y ∈ ps.zip us, (defScope st).names.lookup y.1 = some .local ∨ ((defScope st).names.lookup y.1 = some .cell ∧ ((cellsFrom (s.heap.objs.size + 1) (defScope st).names []).lookup y.1).isSome = true) := fun ⟨n, v⟩ hy => by
    rcases Sc.par n (List.of_mem_zip hy).1 with q | q
    · exact .inl q
    · exact .inr ⟨q, PySem.W.cellsFrom_some _ _ _ (.inl q)⟩
  refine codeAny_call_function hr.depth (KX _ _ lk) rfl Sc.co Sc.gen rfl (PySem.W.codeRec_of KX hcd) (hb _ _ _ _ ?_)
  refine wpAny_newFunctionEnv_cells Sc.kind hkind fun env he s1 x => ?_
  subst he
  refine ⟨lim.keeps x.toInCall.keep, codeAny_func ?_⟩
  have ht := (((hbody cdv A outer s H hG (hr.deeper _)).run dk H).nox : PSs (cxOf CX0 P w K mg base N qual (defScope st) f cdv A outer s H E0) (defBody st) _)
  have I : Inv (cxOf CX0 P w K mg base N qual (defScope st) f cdv A outer s H E0) [] (L2.start N vs) H s1 := inv_start Sc hr.hd e0 hl r x
  have rs := rel_start (K := K) (N := N) ok hd
  rw [hl] at rs
  refine wpAny_mono (ht.run [] s1 (L2.start N vs) H { nx := fun _ H' => Q .non H', rt := Q } I ⟨_, _, rs, hread as R hS, ⟨fun ρ' σ' H' hn rel _ => kk .none .non H' hn .non rel.stp, fun y v H' hy fz st => kk y v H' hy fz st, fun _ _ _ z => z.elim, fun _ _ _ z => z.elim⟩⟩) (fun fl s' hs => ?_) fun e s' hs => hs
  have fin : ∀ {σ' : L2.St} {H' : Hp} {v : V} {u : Value}, Inv (cxOf CX0 P w K mg base N qual (defScope st) f cdv A outer s H E0) [] σ' H' s' → RelV v u → Q v H' → CE outer P w H s Q u s' :=
    fun {σ' H' v u} J rv q => ⟨v, H', J.os, J.bare, J.base, J.hok, rv, q⟩
  cases fl with
  | ret u =>
    obtain ⟨v, σ', H', J, rv, q⟩ := hs
    exact fin J rv q
  | next =>
    obtain ⟨σ', H', J, q⟩ := hs
    exact fin (v := V.non) (u := Value.none) J rfl q
  | brk =>
    obtain ⟨_, _, _, q⟩ := hs
    exact False.elim q
  | cont =>
    obtain ⟨_, _, _, q⟩ := hs
    exact False.elim q
end
end Q
end P10
section P11
namespace Q
open PySem PySem.Spec PyProof.Rows L2 HT
def spDeck (K : PySem.W.Frag) : Sp := fun vs H Q _ => ∃ (a : Addr) (ns : List Int), vs = [.ref a] ∧ SqL K H a (ns.map V.int) ∧ ns.length ≤ 63 ∧ ∀ (d c : Addr) (H' : Hp), H d = none → H c = none → DkOk H' d c → Same H H' → Q (.ref d) H'
def spDraw : Sp := fun vs H Q _ => ∃ (d c : Addr) (n : Int), vs = [.ref d, .int n] ∧ DkOk H d c ∧ 0 < n ∧ n < 1073741824 ∧ ∀ (r : Int) (H' : Hp), 0 ≤ r → r < n → DkOk H' d c → (∀ a o, H a = some o → a ≠ d → a ≠ c → H' a = some o) → Q (.int r) H'
/-- a draw: some int below many -/
def sDraw : PSpec := fun as R => match as with
  | [.dk, .d (.int n)] => 0 < n ∧ n < 1073741824 ∧ ∀ r : Int, 0 ≤ r → r < n → R (.int r)
  | _ => False
section
variable {P : Program} {w : World} {K : PySem.W.Frag} {mg : Str → Option Value} {base : Heap} {k : Nat} {f : Addr} {fd : FuncData} {ps : List Str}
theorem FnG.draw {ps : List Str} (F : FnOk P w K mg base CX0 k f fd ps spDraw) (hl : ps.length = 2) : FnG P w K mg base k f fd ps sDraw := by
  refine ⟨fun as R h => ?_, fun A outer s H args us vs Q dk as R hG hr e0 hb r ok hd hS kk => ?_⟩
  · unfold sDraw at h
    split at h
    · exact hl.symm
    · exact h.elim
  · unfold sDraw at hS
    split at hS
    · rename_i n
      obtain ⟨h1, h2, h3⟩ := hS
      cases ok with
      | cons oa ok =>
        cases ok with
        | cons ob ok =>
          cases ok
          cases ob
          have oa : _ = V.ref dk.1 := oa
          subst oa
          exact F.run A outer s H args us _ Q E0 hr e0 hb r ⟨dk.1, dk.2, n, rfl, hd, h1, h2, fun x H' g1 g2 g3 g4 => kk _ _ H' (h3 x g1 g2) (.int x) ⟨g4, g3⟩⟩
    · exact hS.elim
structure LawOk (P : Program) (w : World) (K : PySem.W.Frag) (mg : Str → Option Value) (base : Heap) (k : Nat) (f : Addr) (fd : FuncData) (x : Str) : Prop where
  run : ∀ (A : Around) (outer : List PySem.Env) (s : Shared) (H : Hp) (args : Args) (u : Value) (a : Addr) (ns : List Int) (Q : VK), A.guards = some [] → Room k A → Env0 P w K mg base A outer s H → BindsTo s fd args [(x, u)] → RelV (.ref a) u → SqL K H a (ns.map V.int) → ns.length ≤ 63 → (∀ H', Q (.bl true) H') →
    codeAny (model P w) A (.call (.ref f) args) (CR CX0 outer P w H s Q E0) s
theorem LawOk.of {x0 qual x : Str} {st : Stmt} {s0 : Stmt} {rest : List Stmt} {N : List Str} {i : Nat} (F : Fun K x0 qual st f fd) (Sc : FnScope N [x] (defScope st)) {t : TQS} (hst : defBody st = s0 :: rest) (hN : N.length = i + 2)
    (h0 : ∀ (cdv : Value) (A : Around) (outer : List PySem.Env) (s : Shared) (H : Hp), A.guards = some [] → Room k (A.deeper (envOfC qual (defScope st) s.heap.objs.size f cdv)) →
      PS (cxOf CX0 P w K mg base N qual (defScope st) f cdv A outer s H E0).nox s0 (tAsg (tCall (spDeck K) [] E0 (tCons (tVar 0) tNil)) (gName 1)))
    (hbody : ∀ (cdv : Value) (A : Around) (outer : List PySem.Env) (s : Shared) (H : Hp), A.guards = some [] → Room k (A.deeper (envOfC qual (defScope st) s.heap.objs.size f cdv)) →
      QSs (cxOf CX0 P w K mg base N qual (defScope st) f cdv A outer s H E0).nox rest t)
    (hread : t { nx := fun _ => False, rt := fun y => y = .bool true } (.un :: .dk :: List.replicate i .un)) : LawOk P w K mg base (k + 1) f fd x := by
  obtain ⟨oc, od, kV, doc, pm, an, cdv, ct, osl, rfl, lk, hcd⟩ := F.ex
  refine ⟨fun A outer s H args u a ns Q hG hr e0 hb r hS hl kk => ?_⟩
  have KX : K.In s.heap := e0.mod.kin.keeps fun b o e => (e0.bs b o e).1
  have lim : s.heap.NoLimit := e0.mod.nolimit.keeps fun b o e => (e0.bs b o e).1
  have hkind : ∀ y ∈ [(x, u)], (defScope st).names.lookup y.1 = some .local ∨ ((defScope st).names.lookup y.1 = some .cell ∧ ((cellsFrom (s.heap.objs.size + 1) (defScope st).names []).lookup y.1).isSome = true) := fun y hy => by
    have : y = (x, u) := by simpa using hy
    subst this
    rcases Sc.par x (by simp) with q | q
    · exact .inl q
    · exact .inr ⟨q, PySem.W.cellsFrom_some _ _ _ (.inl q)⟩
  refine codeAny_call_function hr.depth (KX _ _ lk) rfl Sc.co Sc.gen rfl (PySem.W.codeRec_of KX hcd) (hb _ _ _ _ ?_)
  refine wpAny_newFunctionEnv_cells Sc.kind hkind fun env he s1 xx => ?_
  subst he
  refine ⟨lim.keeps xx.toInCall.keep, codeAny_func ?_⟩
  have ht : PSs (cxOf CX0 P w K mg base N qual (defScope st) f cdv A outer s H E0).nox rest (fun D σ H' => ∃ dk H1, upS K dk H1 t D σ H') := ⟨fun pins s' σ H' D I ⟨dk, H1, q⟩ => ((hbody cdv A outer s H hG (hr.deeper _)).run dk H1).run pins s' σ H' D I q⟩
  have hb2 := ((pss_cons (h0 cdv A outer s H hG (hr.deeper _)) ht).nox : PSs (cxOf CX0 P w K mg base N qual (defScope st) f cdv A outer s H E0) _ _)
  rw [hst]
  have I : Inv (cxOf CX0 P w K mg base N qual (defScope st) f cdv A outer s H E0) [] (L2.start N [.ref a]) H s1 := inv_start (vs := [.ref a]) (us := [u]) Sc hr.hd e0 rfl (.cons r .nil) xx
  have es : L2.start N [V.ref a] = some (.ref a) :: none :: List.replicate i none := by
    unfold L2.start
    rw [hN]
    show some (V.ref a) :: List.replicate (i + 2 - 1) none = _
    rw [show i + 2 - 1 = i + 1 by omega, List.replicate_succ]
  refine wpAny_mono (hb2.run [] s1 (L2.start N [.ref a]) H { nx := fun _ H' => Q .non H', rt := Q } I ?_) (fun fl s' hs => ?_) fun e s' hs => hs
  · rw [es]
    refine ⟨.ref a, rfl, a, ns, rfl, hS, hl, fun d c H' nd nc dok sm => ?_⟩
    obtain ⟨ne, cs, m, z, g1, g2, g3⟩ := id dok
    refine ⟨(d, c), H', .un :: .dk :: List.replicate i .un, _, ?_, hread, ⟨fun _ _ _ z => z.elim, fun y v H2 hy fz _ => ?_, fun _ _ _ z => z.elim, fun _ _ _ z => z.elim⟩⟩
    · have sl : ∀ (j : Nat) (s : Sl), (Sl.un :: .dk :: List.replicate i Sl.un)[j]? = some s → s.isOwn = false ∧ (j ≠ 1 → s = .un) ∧ (j = 1 → s = .dk) := fun j s e => by
        match j with
        | 0 => simp at e; subst e; simp [Sl.isOwn]
        | 1 => simp at e; subst e; simp [Sl.isOwn]
        | j + 2 =>
          simp only [List.getElem?_cons_succ] at e
          rw [List.getElem?_replicate] at e
          split at e
          · cases e; simp [Sl.isOwn]
          · cases e
      refine ⟨by simp, fun j s e => ?_, fun j l b ⟨s, e, o, _⟩ => ?_, dok, ?_, ?_, fun b o e _ _ => e⟩
      · obtain ⟨q1, q2, q3⟩ := sl j s e
        by_cases hj : j = 1
        · rw [q3 hj, hj]; rfl
        · rw [q2 hj]; exact True.intro
      · rw [(sl j s e).1] at o; cases o
      · show H' d ≠ none
        rw [g1]; intro z; cases z
      · show H' c ≠ none
        rw [g2]; intro z; cases z
    · have hy : y = .bool true := hy
      subst hy
      cases fz
      exact kk H2
  have fin : ∀ {σ' : L2.St} {H' : Hp} {v : V} {u : Value}, Inv (cxOf CX0 P w K mg base N qual (defScope st) f cdv A outer s H E0) [] σ' H' s' → RelV v u → Q v H' → CE outer P w H s Q u s' :=
    fun {σ' H' v u} J rv q => ⟨v, H', J.os, J.bare, J.base, J.hok, rv, q⟩
  cases fl with
  | ret u =>
    obtain ⟨v, σ', H', J, rv, q⟩ := hs
    exact fin J rv q
  | next =>
    obtain ⟨σ', H', J, q⟩ := hs
    exact fin (v := V.non) (u := Value.none) J rfl q
  | brk =>
    obtain ⟨_, _, _, q⟩ := hs
    exact False.elim q
  | cont =>
    obtain ⟨_, _, _, q⟩ := hs
    exact False.elim q
end
theorem law_callG {P : Program} {w : World} {K : PySem.W.Frag} {mg mb : Str → Option Value} {k : Nat} {fa a : Addr} {fd : FuncData} {x : Str} {s₁ : Shared} {vs : List Value} {ns : List Int}
    (KX : K.In s₁.heap) (hns : s₁.heap.Ns mainGlobals mg) (hb : s₁.heap.Ns builtinsNs mb) (hbb : ∀ x : Str, x ≠ "__name__" → mb x = bootBuiltins x) (hlim : s₁.heap.NoLimit) (hg : s₁.gens = #[])
    (ha : s₁.heap.get? a = some { cls := .type "list", data := .seq vs.toArray }) (hi : IntsAre vs ns) (hl : ns.length ≤ 63) (hr : Room k callerA)
    (F : ∀ base : Heap, K.In base → base.Ns mainGlobals mg → LawOk P w K mg base k fa fd x) (hbind : ∀ (s : Shared) (u : Value), BindsTo s fd ⟨[u], []⟩ [(x, u)]) :
    codeAny (model P w) callerA (.call (.ref fa) ⟨[.ref a], []⟩) (fun r s' => r = .ok (.ret (.bool true)) ∧ OldK s₁.heap s'.heap ∧ s'.os = s₁.os ∧ AllBare s'.gens) s₁ := by
  have rv := vals_ints hi
  have lenV := hi.length
  have core : ∀ H : Hp, Only H → SqL K H a (ns.map V.int) → HOk P w H s₁.heap → (∀ b, H b ≠ none → b = a) → (H a ≠ none → K.lookup a = none) →
      codeAny (model P w) callerA (.call (.ref fa) ⟨[.ref a], []⟩) (fun r s' => r = .ok (.ret (.bool true)) ∧ OldK s₁.heap s'.heap ∧ s'.os = s₁.os ∧ AllBare s'.gens) s₁ := by
    intro H hO hS hok hA hK
    have base_of : ∀ {b : Addr} {o : Obj}, s₁.heap.get? b = some o → H b = none → (hidT s₁.heap H).get? b = some o := fun e n => hidT_get e n
    have noA : ∀ {b : Addr} {o : Obj} {es : Array DictEntry} {ep : Nat}, s₁.heap.get? b = some o → o.data = .dict es ep → H b = none := fun {b o es ep} e d => by
      cases q : H b with
      | none => rfl
      | some u =>
        have e' : b = a := hA b (by rw [q]; simp)
        subst e'
        rw [ha] at e; cases e
        have d' : Data.seq vs.toArray _ = Data.dict es ep := d
        cases d'
    have nsK : ∀ {b : Addr} {m : Str → Option Value}, s₁.heap.Ns b m → (hidT s₁.heap H).Ns b m := fun {b m} ⟨o, es, ep, e, d, r⟩ => ⟨o, es, ep, base_of e (noA e d), d, r⟩
    have hKb : K.In (hidT s₁.heap H) := fun b o e => base_of (KX b o e) (by
      cases q : H b with
      | none => rfl
      | some u =>
        have e' : b = a := hA b (by rw [q]; simp)
        subst e'
        rw [hK (by rw [q]; simp)] at e; cases e)
    have hM : Mod K mg (hidT s₁.heap H) := ⟨hKb, nsK hns, ⟨mb, nsK hb, hbb⟩, let ⟨mc, h1, h2⟩ := hlim; ⟨mc, nsK h1, h2⟩⟩
    have e0 : Env0 P w K mg (hidT s₁.heap H) callerA [] s₁ H := ⟨rfl, hM, fun b o e => of_hidT e, Nat.le_of_eq (hidT_size _ _), trivial, fun b hb => absurd (show b ∈ ([] : List Addr) from hb) (by simp), hok, .of_eq hg⟩
    refine codeAny_mono ((F _ hKb (nsK hns)).run callerA [] s₁ H ⟨[.ref a], []⟩ (.ref a) a ns (fun v _ => v = .bl true) rfl hr e0 (hbind s₁ (.ref a)) rfl hS hl fun _ => rfl) fun r s' h => ?_
    cases r with
    | error e => exact False.elim h
    | ok fl =>
      cases fl with
      | next => exact False.elim h
      | brk => exact False.elim h
      | cont => exact False.elim h
      | ret u =>
        obtain ⟨v, H', os, bare, un, hok', r', q⟩ := h
        have q' : v = .bl true := q
        subst q'
        obtain rfl : u = Value.bool true := r'
        refine ⟨rfl, OldK.of_keep fun b o e => ?_, os, bare⟩
        cases q : H b with
        | none => exact un.keep b o e q (by intro z; exact absurd (show b ∈ ([] : List Addr) from z) (by simp)) (by simp)
        | some u =>
          rcases hO b with z | ⟨ob, xs, z⟩
          · rw [q] at z; cases z
          · have z2 := un.frzs b ob _ z
            obtain ⟨e1, _⟩ := hok b _ z
            obtain ⟨e2, _⟩ := hok' b _ z2
            rw [e] at e1; cases e1
            exact e2
  have hlz : ns.length ≤ sizeLine := Nat.le_trans hl (by decide)
  cases hk : K.lookup a with
  | some o =>
    have e := KX a o hk
    rw [ha] at e
    cases e
    refine core (fun _ => none) (fun _ => .inl rfl) (.inr ⟨_, vs.toArray, _, hk, rfl, rfl, rfl, by rw [List.size_toArray, lenV]; exact hlz, by simpa using rv⟩) (fun b u z => by have z' : (none : Option HO) = some u := z; cases z') (fun b z => absurd rfl z) fun z => absurd rfl z
  | none =>
    refine core (fun b => if b = a then some (.frz { cls := .type "list", data := .seq vs.toArray } (.lst (ns.map V.int))) else none) (fun b => ?_) (.inl (.inr ⟨{ cls := .type "list", data := .seq vs.toArray }, if_pos rfl⟩)) (fun b u z => ?_) (fun b z => ?_) fun _ => hk
    · by_cases hb : b = a
      · exact .inr ⟨_, _, if_pos hb⟩
      · exact .inl (if_neg hb)
    · by_cases hb : b = a
      · have z' := (if_pos hb).symm.trans z
        cases z'
        subst hb
        exact ⟨ha, by rw [List.length_map]; exact hlz, vs, _, rv, ha⟩
      · have z' := (if_neg hb).symm.trans z
        cases z'
    · by_cases hb : b = a
      · exact hb
      · exact absurd (if_neg hb) z
theorem walk_ofG {l : PySem.W.OpenLaw} {k : Nat} {q : Program} {loose : List Str} {XP : (Str → Option Value) → Heap → Prop} {YP : World → Heap → Prop} {d : DefRec} {K : Params → PySem.W.Frag} {x : Str}
    (hn : l.most = some 63) (hdf : d.params.defaults = []) (hr : Room k callerA)
    (hY : ∀ (w : World) (h : Heap), YP w h → (K w.params).In h)
    (F : ∀ (w : World) (mg : Str → Option Value) (fa : Addr) (h : Heap), (K w.params).In h → h.Ns mainGlobals mg → mg d.name = some (.ref fa) →
      ∃ fd : FuncData, (∀ (s : Shared) (u : Value), BindsTo s fd ⟨[u], []⟩ [(x, u)]) ∧
        ∀ base : Heap, (K w.params).In base → base.Ns mainGlobals mg → LawOk l.prog w (K w.params) mg base k fa fd x) :
    PySem.W.WalkO q loose XP YP l.row.toRowW d [] (fun f vs => PySem.call f vs) := by
  refine Att.attach_call hn hdf fun w s₀ s₁ mg mb fa o pm cd doc a vs ns G Y ho hd hcd hmg hobj hints hlen hg => ?_
  have KX := hY w _ Y
  obtain ⟨fd, hb, hF⟩ := F w mg fa _ KX G.T.g hmg
  exact law_callG KX G.T.g G.T.b G.T.builtins G.T.nolimit hg hobj hints hlen hr hF hb
end Q
end P11
section P12
namespace Q
open PySem PySem.Spec PyProof.Rows L2 HT
section
variable {X : Cx} {pos p : Pos} {e a b : Expr} {es : List Expr} {te ta tb : TQ} {t : TQL} {x : Str} {id T : String} {r : V → List V → Hp → VK → Prop}
def tLenN (i : Nat) : TQ := fun ρ R => match ρ[i]? with
  | some (.own xs) => R (.int (xs.length : Nat)) ρ
  | some (.own2 bs _) => R (.int (bs.length : Nat)) ρ
  | some (.d x) => lenD [x] fun z => R z ρ
  | _ => False
theorem q_lenN (i : Nat) (hg : Gl X "len") (hm : X.mg "len" = none) (hN : X.N[i]? = some x := by rfl) (hv : Vis X.env.scope x := by first | exact Or.inl rfl | exact Or.inr (Or.inl rfl) | exact Or.inr (Or.inr rfl)) (hd : (x == ("__debug__" : Str)) = false := by decide)
    (hcd : (x == ("__classdict__" : Str)) = false := by decide) (hs : starEach [.Name x p] X.env = (false, eval (.Name x p) X.env) :: starEach [] X.env := by rfl) : QE X (.Call (.Name "len" pos) [.Name x p] [] pos') (tLenN i) :=
  ⟨fun dk H0 => PE.imp (pe_callB (call_len_seq.or call_len_str) hg hm PySem.boot_len (pa_cons (pe_var hN hv hd hcd) pa_nil hs) (he := hs)) fun σ H Q ⟨ρ, R, rel, h, k⟩ => by
    unfold tLenN at h
    split at h
    · rename_i xs e
      obtain ⟨a, vs, h1, h2, h3, h4⟩ := rel.sl i _ e
      refine ⟨_, h1, .inl ⟨a, vs, rfl, .inl (SqL.of h2), ?_⟩⟩
      rw [h3.length]
      exact k _ ρ _ H h (.int _) rel (Ex.refl H)
    · rename_i bs xss e
      obtain ⟨a, h1, h2, _⟩ := rel.sl i _ e
      refine ⟨_, h1, .inl ⟨a, _, rfl, .inl (SqL.of h2), ?_⟩⟩
      rw [List.length_map]
      exact k _ ρ _ H h (.int _) rel (Ex.refl H)
    · rename_i y e
      obtain ⟨v, h1, h2⟩ := rel.sl i _ e
      exact ⟨v, h1, br_len [y] [v] H Q _ (.one h2) h fun z w H' hz fz sm => k z ρ w H' hz fz (rel.same sm) (ex_same sm)⟩
    · exact h.elim⟩
def setQ : Option Sl → Bool
  | some .un => false
  | none => false
  | _ => true
theorem Rel.isSet {K : PySem.W.Frag} {dk : Dk} {H0 H : Hp} {ρ : En} {σ : L2.St} {i : Nat} (r : Rel K dk H0 ρ σ H) (h : setQ ρ[i]? = true) : ∃ v, σ[i]? = some (some v) := by
  cases e : ρ[i]? with
  | none => rw [e] at h; cases h
  | some s =>
    have q := r.sl i s e
    cases s with
    | un => rw [e] at h; cases h
    | d x => obtain ⟨v, h1, _⟩ := q; exact ⟨v, h1⟩
    | own x => obtain ⟨a, v, h1, _⟩ := q; exact ⟨_, h1⟩
    | owd x => obtain ⟨a, v, h1, _⟩ := q; exact ⟨_, h1⟩
    | odt x => obtain ⟨a, v, h1, _⟩ := q; exact ⟨_, h1⟩
    | dk => exact ⟨_, q⟩
    | rg lo hi => obtain ⟨a, h1, _⟩ := q; exact ⟨_, h1⟩
    | own2 bs xss => obtain ⟨a, h1, _⟩ := q; exact ⟨_, h1⟩
    | odl ks bs xss => obtain ⟨a, h1, _⟩ := q; exact ⟨_, h1⟩
    | odk ks bs xss => obtain ⟨a, h1, _⟩ := q; exact ⟨_, h1⟩
def tIxN (i : Nat) (ti : TQ) : TQ := fun ρ R => setQ ρ[i]? = true ∧ ti ρ fun y ρ1 => match ρ1[i]? with
  | some (.own xs) => ixD (.list xs) y fun z => R z ρ1
  | some (.d x) => ixD x y fun z => R z ρ1
  | _ => False
theorem q_ixN (i : Nat) (hb : QE X b tb) (hN : X.N[i]? = some x := by rfl) (hv : Vis X.env.scope x := by first | exact Or.inl rfl | exact Or.inr (Or.inl rfl) | exact Or.inr (Or.inr rfl)) (hd : (x == ("__debug__" : Str)) = false := by decide)
    (hcd : (x == ("__classdict__" : Str)) = false := by decide) (hs : PlainIx b := by intro _ _; rfl) : QE X (.Subscript (.Name x p) b pos) (tIxN i tb) := by
  refine ⟨fun dk H0 => PE.imp (pe_ix ix_seq (pe_var hN hv hd hcd) (hb.run dk H0) hs) fun σ H Q ⟨ρ, R, rel, ⟨hset, h⟩, k⟩ => ?_⟩
  -- the name's value: whatever it is, it is what the slot holds behind the index
  have key : ∀ v, σ[i]? = some (some v) → (up X.K dk H0 tb) σ H fun y H2 => rIx X.K v y H2 Q := fun v hv => ⟨ρ, _, rel, h, fun y ρ1 u H1 hy fz rel1 ex1 => by
    have hy : (match ρ1[i]? with | some (.own xs) => ixD (.list xs) y fun z => R z ρ1 | some (.d x) => ixD x y fun z => R z ρ1 | _ => False) := hy
    split at hy
    · rename_i xs e
      obtain ⟨a, vs, h1, h2, h3, h4⟩ := rel1.sl i _ e
      rw [hv] at h1
      cases h1
      cases fz <;> first | exact hy.elim | skip
      obtain ⟨z, hz, c⟩ := hy
      obtain ⟨w, hw, fw⟩ := atI_fz h3 hz
      exact .inl ⟨_, _, _, w, rfl, rfl, SqL.of h2, hw, k z ρ1 w H1 c fw rel1 ex1⟩
    · rename_i x e
      obtain ⟨v', h1, h2⟩ := rel1.sl i _ e
      rw [hv] at h1
      cases h1
      exact br_ix x y _ u H1 Q _ h2 fz hy fun z w H' hz fz' sm => k z ρ1 w H' hz fz' (rel1.same sm) (ex1.trans (ex_same sm))
    · exact hy.elim⟩
  obtain ⟨v, e⟩ := rel.isSet hset
  exact ⟨v, e, key v e⟩
/-- methods of an own list -/
abbrev CM := List PyData → List PyData → (PyData → List PyData → Prop) → Prop
abbrev BrM (K : PySem.W.Frag) (r : V → List V → Hp → VK → Prop) (C : CM) : Prop := ∀ a xs vs ds ws H Q R, H a = some (.lst vs) → FzAll K H vs xs → FzAll K H ws ds → C xs ds R → (∀ z xs' v vs', R z xs' → Fz K H v z → FzAll K H vs' xs' → Q v (upd H a (.lst vs'))) → r (.ref a) ws H Q
def ownL : Option Sl → Bool
  | some (.own _) => true
  | _ => false
def tOwnM (i : Nat) (C : CM) (t : TQL) : TQ := fun ρ R => ownL ρ[i]? = true ∧ t ρ fun ds ρ1 => match ρ1[i]? with
  | some (.own xs) => C xs ds fun z xs' => R z (ρ1.set i (.own xs'))
  | _ => False
theorem own_at {K : PySem.W.Frag} {dk : Dk} {H0 H : Hp} {ρ : En} {σ : L2.St} {i : Nat} (r : Rel K dk H0 ρ σ H) (h : ownL ρ[i]? = true) : ∃ a vs, σ[i]? = some (some (.ref a)) ∧ H a = some (.lst vs) := by
  cases e : ρ[i]? with
  | none => rw [e] at h; cases h
  | some s =>
    cases s with
    | own x => obtain ⟨a, v, h1, h2, _⟩ := r.sl i _ e; exact ⟨a, v, h1, h2⟩
    | _ => rw [e] at h; cases h
theorem up_ownM {K : PySem.W.Frag} {dk : Dk} {H0 : Hp} {i : Nat} {C : CM} (br : BrM K r C) {σ : L2.St} {H : Hp} {Q : VK} {ρ : En} {R : PyData → En → Prop} (rel : Rel K dk H0 ρ σ H) (k : ∀ x ρ' v H', R x ρ' → Fz K H' v x → Rel K dk H0 ρ' σ H' → Ex H H' → Q v H')
    {a : Addr} (hσ : σ[i]? = some (some (.ref a))) {ds : List PyData} {ρ1 : En} {ws : List V} {H1 : Hp} (hds : match ρ1[i]? with | some (.own xs) => C xs ds fun z xs' => R z (ρ1.set i (.own xs')) | _ => False) (fz : FzAll K H1 ws ds) (rel1 : Rel K dk H0 ρ1 σ H1) (ex1 : Ex H H1) : r (.ref a) ws H1 Q := by
  split at hds
  · rename_i xs e
    obtain ⟨b, vs, h1, h2, h3, h4⟩ := rel1.sl i _ e
    rw [hσ] at h1
    cases h1
    refine br a xs vs ds ws H1 Q _ h2 h3 fz hds fun z xs' v vs' hr fv fvs => ?_
    obtain ⟨r2, ex2⟩ := rel1.put ⟨_, e, rfl, .inl hσ⟩ (.lst vs') (.own xs') fun ex => ⟨a, vs', hσ, upd_same, fvs.mono ex, h4⟩
    exact k z _ v _ hr (fv.mono ex2) r2 (ex1.trans ex2)
  · exact hds.elim
theorem q_ownM {T id : String} {name : Str} {apos cpos : Pos} (i : Nat) {C : CM} (slot : Slot "list" name id) (hty : typeOf (.builtin id) = pure (.type "method_descriptor")) (hm : MtR X id r) (br : BrM X.K r C) (ha : QDs X (e :: es) t)
    (hN : X.N[i]? = some x := by rfl) (hv : Vis X.env.scope x := by first | exact Or.inl rfl | exact Or.inr (Or.inl rfl) | exact Or.inr (Or.inr rfl)) (hd : (x == ("__debug__" : Str)) = false := by decide) (hcd : (x == ("__classdict__" : Str)) = false := by decide)
    (hbase : attributeBase (.Name x p) name X.env (eval (.Name x p) X.env) = eval (.Name x p) X.env := by rfl)
    (hfew : ((backTo cpos (starEach (e :: es) X.env)).all (fun x => !x.1) && (backToKw cpos (keywordEach [] X.env)).all (fun x => x.1.isSome)
      && decide ((e :: es).length + ([] : List Keyword).length + (if ([] : List Keyword).isEmpty then 0 else 1) < 30)) = true := by rfl)
    (hline : (apos.endLine == cpos.line) = true := by rfl) (hs : starEach (e :: es) X.env = (false, eval e X.env) :: starEach es X.env := by rfl) (hplain : (backTo cpos (starEach es X.env)).any (·.1) = false := by rfl) :
    QE X (.Call (.Attribute (.Name x p) name apos) (e :: es) [] cpos) (tOwnM i C t) :=
  ⟨fun dk H0 => PE.imp (pe_bm PySem.F.plainAttrs_list slot hty hm (pe_var hN hv hd hcd) (ha.run dk H0) hbase hfew hline hs hplain) fun σ H Q ⟨ρ, R, rel, ⟨ho, h⟩, k⟩ => by
    obtain ⟨a, vs, h1, h2⟩ := own_at rel ho
    exact ⟨_, h1, .inl ⟨rfl, _, SqL.of h2⟩, ρ, _, rel, h, fun ds ρ1 ws H1 hds fz rel1 ex1 => up_ownM br rel k h1 hds fz rel1 ex1⟩⟩
def appC : CM := fun xs ds R => match ds with
  | [y] => xs.length ≤ 1000000 ∧ R .none (xs ++ [y])
  | _ => False
theorem lt_line {n : Nat} (h : n ≤ 1000000) : n < sizeLine := by rw [sizeLine_eq]; omega
theorem br_app {K : PySem.W.Frag} : BrM K rAppend appC := by
  intro a xs vs ds ws H Q R h1 f fw c k
  unfold appC at c
  split at c
  · obtain ⟨w, rfl, fy⟩ := fz1 fw
    exact ⟨a, vs, w, rfl, rfl, h1, by rw [f.length]; exact lt_line c.1, k _ _ _ _ c.2 .non (f.append (.one fy))⟩
  · exact c.elim
theorem q_append {apos cpos : Pos} (i : Nat) (ha : QE X e te) (hN : X.N[i]? = some x := by rfl) (hv : Vis X.env.scope x := by first | exact Or.inl rfl | exact Or.inr (Or.inl rfl) | exact Or.inr (Or.inr rfl)) (hd : (x == ("__debug__" : Str)) = false := by decide) (hcd : (x == ("__classdict__" : Str)) = false := by decide)
    (hbase : attributeBase (.Name x p) "append" X.env (eval (.Name x p) X.env) = eval (.Name x p) X.env := by rfl)
    (hfew : ((backTo cpos (starEach [e] X.env)).all (fun x => !x.1) && (backToKw cpos (keywordEach [] X.env)).all (fun x => x.1.isSome)
      && decide (([e] : List Expr).length + ([] : List Keyword).length + (if ([] : List Keyword).isEmpty then 0 else 1) < 30)) = true := by rfl)
    (hline : (apos.endLine == cpos.line) = true := by rfl) (hs : starEach [e] X.env = (false, eval e X.env) :: starEach [] X.env := by rfl) :
    QE X (.Call (.Attribute (.Name x p) "append" apos) [e] [] cpos) (tOwnM i appC (dCons te dNil)) :=
  q_ownM (T := "list") i PySem.F.slot_list_append PySem.F.type_list_append mt_append br_app (qd_cons ha qd_nil hs) hN hv hd hcd hbase hfew hline hs rfl
def popC : CM := fun xs ds R => match ds with
  | [] => ∃ y, xs[xs.length - 1]? = some y ∧ R y xs.dropLast
  | [.int k] => 0 ≤ k ∧ k ≤ 1000000 ∧ ∃ y, xs[k.toNat]? = some y ∧ R y (xs.eraseIdx k.toNat)
  | _ => False
end
end Q
end P12
section P13
namespace Q
open PySem PySem.Spec PyProof.Rows L2 HT
theorem extend_tup (l : Addr) (items : Array Value) (n : Nat) (b : Addr) (dd : Option Addr) (sl : Array (Option Value)) (items2 : Array Value) (n2 : Nat) (hs0 : ¬(!items.isEmpty && Builtin.List.listTooLong (items.size + items2.size)) = true) (hs1 : items.size ≤ sizeLine) (hs2 : items.size + items2.size ≤ sizeLine + 1) :
    Meets (Builtin.«list.extend» ⟨[.ref l, .ref b], []⟩) (fun _ R s => s.heap.get? l = some { cls := .type "list", dict := none, data := .seq items n, slots := #[] } ∧ s.heap.get? b = some { cls := .type "tuple", dict := dd, data := .seq items2 n2, slots := sl } ∧ R (.ok (.ret Value.none)) { s with heap := s.heap.update l (Obj.mapSeq fun x => x ++ items2), toks := s.toks }) :=
  .of_wp fun prog w A R s h => by
    obtain ⟨hp, g, d, tk, os⟩ := s; obtain ⟨hl, hb, h⟩ := h; have f1 := AutoSeq1.idx_int; have f2 := AutoSeq1.sub_tuple_tuple; have f3 := AutoSeq1.sub_list_list; have f4 := AutoSeq1.sub_tuple_list; have f5 := AutoSeq1.sub_list_tuple;
    have hz' : (items ++ items2).size ≤ sizeLine + 1 := by rw [Array.size_append]; exact hs2
    wp_walk using (wpAny_updateSeq hl rfl (hz := hs1) (_hz' := hz')), AutoSeq1.wpAny_loadPart' hl, AutoSeq1.wpAny_loadPart' hb; exact ⟨_, rfl, h⟩
section
variable {X : Cx} {pos p : Pos} {e a b : Expr} {es : List Expr} {te ta tb : TQ} {t : TQL} {x : Str} {pins : List (Addr × Obj)} {σ : L2.St} {H : Hp} {s : Shared}
theorem frzL {a : Addr} {o : Obj} {vs : List V} (I : Inv X pins σ H s) (h : H a = some (.frz o (.lst vs))) : vs.length ≤ sizeLine ∧ ∃ its n, Vals vs its ∧ vs.length = its.length ∧ s.heap.get? a = some { cls := .type "list", data := .seq its.toArray n } := by
  obtain ⟨_, z, its, n, r, e⟩ := I.hok a _ h
  exact ⟨z, its, n, r, r.length, e⟩
def rExtF (K : PySem.W.Frag) : V → List V → Hp → VK → Prop := fun x vs H Q => ∃ l b xs zs, x = .ref l ∧ vs = [.ref b] ∧ H l = some (.lst xs) ∧ ((∃ o, H b = some (.frz o (.lst zs))) ∨ SqT K H b zs) ∧ xs.length + zs.length ≤ sizeLine ∧ Q .non (upd H l (.lst (xs ++ zs)))
theorem mt_extF : MtM X "list.extend" (rExtF X.K) := by
  intro pins s σ H x vs v us Q I rx rv h
  obtain ⟨l, b, xs, zs, rfl, rfl, hH, hB, hz, q⟩ := h
  cases rx
  obtain ⟨u, rfl, ru⟩ := rv.one
  cases ru
  obtain ⟨z, its, n, r, hl, e⟩ := I.lstM hH
  have fin : ∀ its2 : List Value, Vals zs its2 → EP X pins σ Q Value.none { s with heap := s.heap.update l (Obj.mapSeq fun x => x ++ its2.toArray), toks := s.toks } := fun its2 r2 => by
    refine ⟨.non, _, I.lset (its' := its ++ its2) hH e (by simp) (r.append r2) ?_, rfl, q⟩
    rw [List.length_append]
    omega
  rcases hB with ⟨o, hB⟩ | hB
  · obtain ⟨z2, its2, n2, r2, hl2, e2⟩ := frzL I hB
    have hsz : its.toArray.size + its2.toArray.size ≤ sizeLine := by rw [List.size_toArray, List.size_toArray]; omega
    have hlong : ¬ (!its.toArray.isEmpty && Builtin.List.listTooLong (its.toArray.size + its2.toArray.size)) = true := by
      rw [notLongL hsz, Bool.and_false]
      exact Bool.false_ne_true
    exact call_meets F.slot_list_extend ⟨_, e, rfl⟩ F.entry_list_extend (F.args_list_extend_2 _ _)
      (AutoSeq1.list_extend_list_list_0 l its.toArray n b its2.toArray n2 hlong (by rw [List.size_toArray]; omega) (by omega)) ⟨e, e2, fin its2 r2⟩
  · obtain ⟨its2, r2, ⟨ob, e2, hc, n2, hd⟩, _⟩ := I.tuple hB
    have hl2 := r2.length
    have hsz : its.toArray.size + its2.toArray.size ≤ sizeLine := by rw [List.size_toArray, List.size_toArray]; omega
    have hlong : ¬ (!its.toArray.isEmpty && Builtin.List.listTooLong (its.toArray.size + its2.toArray.size)) = true := by
      rw [notLongL hsz, Bool.and_false]
      exact Bool.false_ne_true
    obtain ⟨cls, dd, data, sls⟩ := ob
    simp only at hc hd
    subst hc hd
    exact call_meets F.slot_list_extend ⟨_, e, rfl⟩ F.entry_list_extend (F.args_list_extend_2 _ _)
      (extend_tup l its.toArray n b dd sls its2.toArray n2 hlong (by rw [List.size_toArray]; omega) (by omega)) ⟨e, e2, fin its2 r2⟩
def extC : CM := fun xs ds R => match ds with
  | [.list ys] => xs.length + ys.length ≤ 1000000 ∧ R .none (xs ++ ys)
  | [.tuple ys] => xs.length + ys.length ≤ 1000000 ∧ R .none (xs ++ ys)
  | _ => False
theorem br_ext {K : PySem.W.Frag} : BrM K (rExtF K) extC := by
  intro a xs vs ds ws H Q R h1 f fw c k
  unfold extC at c
  split at c
  · obtain ⟨w, rfl, fy⟩ := fz1 fw
    cases fy with
    | lst q t => exact ⟨a, _, vs, _, rfl, rfl, h1, .inl ⟨_, q⟩, by rw [f.length, t.length]; exact Nat.le_of_lt (lt_line c.1), k _ _ _ _ c.2 .non (f.append t)⟩
  · obtain ⟨w, rfl, fy⟩ := fz1 fw
    cases fy with
    | tup q t => exact ⟨a, _, vs, _, rfl, rfl, h1, .inr q, by rw [f.length, t.length]; exact Nat.le_of_lt (lt_line c.1), k _ _ _ _ c.2 .non (f.append t)⟩
  · exact c.elim
theorem q_extend {apos cpos : Pos} (i : Nat) (ha : QE X e te) (hN : X.N[i]? = some x := by rfl) (hv : Vis X.env.scope x := by first | exact Or.inl rfl | exact Or.inr (Or.inl rfl) | exact Or.inr (Or.inr rfl)) (hd : (x == ("__debug__" : Str)) = false := by decide) (hcd : (x == ("__classdict__" : Str)) = false := by decide)
    (hbase : attributeBase (.Name x p) "extend" X.env (eval (.Name x p) X.env) = eval (.Name x p) X.env := by rfl)
    (hfew : ((backTo cpos (starEach [e] X.env)).all (fun x => !x.1) && (backToKw cpos (keywordEach [] X.env)).all (fun x => x.1.isSome)
      && decide (([e] : List Expr).length + ([] : List Keyword).length + (if ([] : List Keyword).isEmpty then 0 else 1) < 30)) = true := by rfl)
    (hline : (apos.endLine == cpos.line) = true := by rfl) (hs : starEach [e] X.env = (false, eval e X.env) :: starEach [] X.env := by rfl) :
    QE X (.Call (.Attribute (.Name x p) "extend" apos) [e] [] cpos) (tOwnM i extC (dCons te dNil)) :=
  q_ownM (T := "list") i PySem.F.slot_list_extend PySem.F.type_list_extend mt_extF br_ext (qd_cons ha qd_nil hs) hN hv hd hcd hbase hfew hline hs rfl
def rCatF : R2 := fun x y H Q => ∃ l b ol ob xs zs, x = .ref l ∧ y = .ref b ∧ H l = some (.frz ol (.lst xs)) ∧ H b = some (.frz ob (.lst zs)) ∧ xs.length + zs.length ≤ sizeLine ∧ ∀ p, H p = none → Q (.ref p) (upd H p (.lst (xs ++ zs)))
theorem op_catF : OpR X (binaryOp .Add) rCatF := by
  intro pins s σ H x y v u Q I rx ry h
  obtain ⟨l, b, ol, ob, xs, zs, rfl, rfl, hH, hB, hz, q⟩ := h
  cases rx
  cases ry
  obtain ⟨z, its, n, r, hl, e⟩ := frzL I hH
  obtain ⟨z2, its2, n2, r2, hl2, e2⟩ := frzL I hB
  refine PySem.P.add_list e e2 ?_ (by rw [List.size_toArray, List.size_toArray]; omega)
  have ea : its.toArray ++ its2.toArray = (its ++ its2).toArray := by simp
  rw [ea]
  exact ⟨.ref _, _, I.lnew (t' := s.toks) (r.append r2) (by rw [List.length_append]; omega), rfl, q _ I.fresh⟩
/-- a + b: whole numbers, texts, tuples, lists -/
def addF : C2 := fun x y R => match x, y with
  | .int i, .int j => R (.int (i + j))
  | .str i, .str j => i.length + j.length ≤ sizeLine ∧ R (.str (i ++ j))
  | .tuple xs, .tuple ys => xs.length + ys.length ≤ 1000000 ∧ R (.tuple (xs ++ ys))
  | .list xs, .list ys => xs.length + ys.length ≤ 1000000 ∧ R (.list (xs ++ ys))
  | _, _ => False
theorem le_line {n : Nat} (h : n ≤ 1000000) : n ≤ sizeLine := Nat.le_of_lt (lt_line h)
theorem q_addF (ha : QE X a ta) (hb : QE X b tb) : QE X (.BinOp a .Add b pos) (t2 addF ta tb) := by
  refine ⟨fun dk H0 => PE.imp (pe_fz (pe_op (op_add.or (op_add_str.or (op_catA.or op_catF))) (ha.run dk H0) (hb.run dk H0))) fun σ H Q ⟨ρ, R, rel, h, k⟩ =>
    ⟨ρ, _, rel, h, fun x ρ1 v H1 hx fz rel1 ex1 => ⟨ρ1, _, rel1, hx, fun y ρ2 u H2 hy fz2 rel2 ex2 => ?_⟩⟩⟩
  have ex := ex1.trans ex2
  have h1 := fz.mono ex2
  have hy : addF x y fun z => R z ρ2 := hy
  cases h1 with
  | int i => cases fz2 <;> first | exact hy.elim | exact .inl ⟨_, _, rfl, rfl, .inl (k _ _ _ H2 hy (.int _) rel2 ex)⟩
  | str i => cases fz2 <;> first | exact hy.elim | exact .inr (.inl ⟨_, _, rfl, rfl, hy.1, .inl (k _ _ _ H2 hy.2 (.str _) rel2 ex)⟩)
  | @tup a0 xs ds q t =>
    cases fz2 with
    | @tup b0 ys es q2 t2 =>
      have l1 := t.length
      have l2 := t2.length
      refine .inr (.inr (.inl ⟨a0, b0, xs, ys, rfl, rfl, q, q2, by rw [l1, l2]; exact le_line hy.1, fun e => .inl ?_, fun _ e => .inl ?_, fun _ _ p hp => .inl ?_⟩))
      · subst e
        have e' : ds = [] := List.eq_nil_of_length_eq_zero (by rw [← l1]; rfl)
        subst e'
        exact k _ _ _ H2 hy.2 (.tup q2 t2) rel2 ex
      · subst e
        have e' : es = [] := List.eq_nil_of_length_eq_zero (by rw [← l2]; rfl)
        subst e'
        refine k _ _ _ H2 hy.2 ?_ rel2 ex
        rw [List.append_nil]
        exact .tup q t
      · have sm := same_upd (H := H2) (p := p) (o := .tup (xs ++ ys)) hp
        exact k _ _ _ _ hy.2 (.tup (.inl (.inl upd_same)) ((t.append t2).mono (ex_same sm))) (rel2.same sm) (ex.trans (ex_same sm))
    | _ => exact hy.elim
  | @lst a0 o0 xs ds q t =>
    cases fz2 with
    | @lst b0 o1 ys es q2 t2 =>
      refine .inr (.inr (.inr ⟨a0, b0, _, _, xs, ys, rfl, rfl, q, q2, by rw [t.length, t2.length]; exact le_line hy.1, fun p hp => .inr ⟨p, _, rfl, upd_same, fun od => ?_⟩⟩))
      obtain ⟨f, sm⟩ := frz_new hp (t.append t2) od
      exact k _ _ _ _ hy.2 f (rel2.same sm) (ex.trans (ex_same sm))
    | _ => exact hy.elim
  | _ => cases fz2 <;> exact hy.elim
def rRepF : R2 := fun x y H Q => ∃ l k o xs, x = .ref l ∧ y = .int k ∧ H l = some (.frz o (.lst xs)) ∧ -(2 ^ 63) ≤ k ∧ k < 2 ^ 63 ∧ xs.length * k.toNat ≤ sizeLine ∧
  ∀ p, H p = none → Q (.ref p) (upd H p (.lst (List.replicate k.toNat xs).flatten))
theorem op_repF : OpR X (binaryOp .Mult) rRepF := by
  intro pins s σ H x y v u Q I rx ry h
  obtain ⟨l, k, o, xs, rfl, rfl, hH, h1, h2, hz, q⟩ := h
  cases rx
  obtain ⟨t, rfl⟩ := ry
  obtain ⟨z, its, n, r, hl, e⟩ := frzL I hH
  have hlen : its.toArray.size * k.toNat ≤ sizeLine := by rw [List.size_toArray, ← hl]; exact hz
  have hcap : ¬ its.toArray.size * k.toNat > (2 ^ 63 - 1) / 8 := by
    have : (sizeLine : Nat) ≤ (2 ^ 63 - 1) / 8 := by decide
    omega
  have hfit : ¬ (!Builtin.List.listFitsIndex k) = true := by
    rw [fitsIndex_both h1 h2]
    exact Bool.false_ne_true
  have hlong : ¬ Builtin.List.listTooLong (its.toArray.size * k.toNat) = true := by
    rw [notLongL hlen]
    exact Bool.false_ne_true
  have hnew : List.foldl (fun x1 x2 => x1 ++ x2) #[] (List.replicate (if its.toArray.isEmpty = true then 0 else k.toNat) its.toArray) = (List.replicate k.toNat its).flatten.toArray := by
    have f0 : ∀ m : Nat, List.foldl (fun x1 x2 => x1 ++ x2) #[] (List.replicate m its.toArray) = (List.replicate m its).flatten.toArray := fun m => by
      have := foldl_rep its m []
      rw [List.nil_append] at this
      exact this
    rw [f0]
    cases its with
    | nil => simp
    | cons a r' => rw [if_neg (by simp)]
  refine wpAny_binaryOp_repeat_ref (T := "list") (U := "int") (by decide) ⟨_, e, rfl⟩ (fun s' => typeIs_int s' k t) noFill_list_mul F.fills_int_mul F.slot_int_rmul repeat_list F.slot_int_index.lookup
    (call_meets F.slot_int_rmul (typeIs_int s k t) F.entry_int_rmul (F.args_int_rmul_2 _ _) (int___rmul___int_list k t l its.toArray n)
      ⟨e, rfl, ⟨_, e, rfl⟩, call_meets F.slot_list_mul ⟨_, e, rfl⟩ F.entry_list_mul (F.args_list_mul_2 _ _) (AutoListH.list___mul___list_int_3 l its.toArray n k t hfit hcap hlong) ⟨e, ?_⟩⟩)
  rw [hnew]
  exact ⟨.ref _, _, I.lnew (t' := s.toks) (r.rep k.toNat) (by rw [PyProof.Rows.lm_len_rep_flat, Nat.mul_comm]; exact hz), rfl, q _ I.fresh⟩
/-- [x] * n: a new list -/
def repC (x y : PyData) (R : List PyData → Prop) : Prop := match x, y with
  | .list xs, .int n => n ≤ 100000 ∧ -100000 ≤ n ∧ xs.length ≤ 100 ∧ R (List.replicate n.toNat xs).flatten
  | _, _ => False
def tRepL (ta tb : TQ) : TQL := fun ρ R => ta ρ fun x ρ1 => tb ρ1 fun y ρ2 => repC x y fun xs => R xs ρ2
theorem ql_rep (ha : QE X a ta) (hb : QE X b tb) : QL X (.BinOp a .Mult b pos) (tRepL ta tb) := by
  refine ⟨fun dk H0 => PE.imp (pe_op op_repF (ha.run dk H0) (hb.run dk H0)) fun σ H Q ⟨ρ, R, rel, h, k⟩ =>
    ⟨ρ, _, rel, h, fun x ρ1 v H1 hx fz rel1 ex1 => ⟨ρ1, _, rel1, hx, fun y ρ2 u H2 hy fz2 rel2 ex2 => ?_⟩⟩⟩
  have hy : repC x y fun xs => R xs ρ2 := hy
  have h1 := fz.mono ex2
  cases h1 with
  | @lst a0 o0 xs ds q t =>
    cases fz2 with
    | int n =>
      obtain ⟨c1, c2, c3, c⟩ := hy
      refine ⟨_, n, _, _, rfl, rfl, q, by omega, by omega, ?_, fun p hp => ?_⟩
      · rw [t.length, sizeLine_eq]
        have : n.toNat ≤ 100000 := by omega
        calc _ ≤ 100 * 100000 := Nat.mul_le_mul c3 this
          _ ≤ _ := by decide
      · have sm := same_upd (H := H2) (p := p) (o := .lst (List.replicate n.toNat xs).flatten) hp
        exact k _ ρ2 p _ _ c upd_same ((t.rep _).mono (ex_same sm)) (rel2.fresh0 hp) (rel2.freshOwn hp) (rel2.same sm) (ex1.trans (ex2.trans (ex_same sm)))
    | _ => exact hy.elim
  | _ => cases fz2 <;> exact hy.elim
/-- x[k] = e of an own list -/
def ixOwn (s : Option Sl) (y : PyData) (R : List PyData → Int → Prop) : Prop := match s, y with
  | some (.own xs), .int k => R xs k
  | _, _ => False
def sSetIx (i : Nat) (te ti : TQ) : TQS := fun R ρ => setQ ρ[i]? = true ∧ te ρ fun x ρ1 => ti ρ1 fun y ρ2 => ixOwn ρ2[i]? y fun xs k => 0 ≤ k ∧ k < (xs.length : Int) ∧ R.nx (ρ2.set i (.own (xs.set k.toNat x)))
end
end Q
end P13
section P14
namespace Q
open PySem PySem.Spec PyProof.Rows L2 HT
def valD (kvs : List (Key × PyData)) (k : Key) : Option PyData := (kvs.find? fun kv => decide (kv.1 = k)).map (·.2)
def putD (kvs : List (Key × PyData)) (k : Key) (v : PyData) : List (Key × PyData) :=
  if (kvs.any fun kv => decide (kv.1 = k)) = true then kvs.map (fun kv => if kv.1 = k then (kv.1, v) else kv) else kvs ++ [(k, v)]
def keyD : PyData → Option Key
  | .int i => some (.inl i)
  | .str x => some (.inr x)
  | _ => none
section
variable {K : PySem.W.Frag} {H : Hp}
theorem FzKV.length : ∀ {ws : List (Key × V)} {kvs : List (Key × PyData)}, FzKV K H ws kvs → ws.length = kvs.length
  | _, _, .nil => rfl
  | _, _, .cons _ t => by rw [List.length_cons, List.length_cons, FzKV.length t]
theorem FzKV.val {k : Key} : ∀ {ws : List (Key × V)} {kvs : List (Key × PyData)}, FzKV K H ws kvs → (valV ws k = none ∧ valD kvs k = none) ∨ ∃ v x, valV ws k = some v ∧ valD kvs k = some x ∧ Fz K H v x
  | _, _, .nil => .inl ⟨rfl, rfl⟩
  | _, _, .cons (k := k') (v := v) (d := d) h t => by
    by_cases e : k' = k
    · refine .inr ⟨v, d, ?_, ?_, h⟩
      · simp [valV, List.find?_cons, e]
      · simp [valD, List.find?_cons, e]
    · rcases FzKV.val (k := k) t with ⟨q1, q2⟩ | ⟨w, y, q1, q2, q3⟩
      · refine .inl ⟨?_, ?_⟩
        · rw [← q1]; simp [valV, List.find?_cons, e]
        · rw [← q2]; simp [valD, List.find?_cons, e]
      · refine .inr ⟨w, y, ?_, ?_, q3⟩
        · rw [← q1]; simp [valV, List.find?_cons, e]
        · rw [← q2]; simp [valD, List.find?_cons, e]
theorem FzKV.any {k : Key} : ∀ {ws : List (Key × V)} {kvs : List (Key × PyData)}, FzKV K H ws kvs → (ws.any fun kv => decide (kv.1 = k)) = (kvs.any fun kv => decide (kv.1 = k))
  | _, _, .nil => rfl
  | _, _, .cons h t => by rw [List.any_cons, List.any_cons, FzKV.any t]
theorem FzKV.append : ∀ {ws ws' : List (Key × V)} {kvs kvs' : List (Key × PyData)}, FzKV K H ws kvs → FzKV K H ws' kvs' → FzKV K H (ws ++ ws') (kvs ++ kvs')
  | _, _, _, _, .nil, s => s
  | _, _, _, _, .cons h t, s => .cons h (FzKV.append t s)
theorem FzKV.upd {k : Key} {v : V} {x : PyData} (f : Fz K H v x) : ∀ {ws : List (Key × V)} {kvs : List (Key × PyData)}, FzKV K H ws kvs → FzKV K H (ws.map fun kv => if kv.1 = k then (kv.1, v) else kv) (kvs.map fun kv => if kv.1 = k then (kv.1, x) else kv)
  | _, _, .nil => .nil
  | _, _, .cons (k := k') h t => by
    rw [List.map_cons, List.map_cons]
    by_cases e : k' = k
    · simp only [e, if_true]
      exact .cons f (FzKV.upd f t)
    · simp only [e, if_false]
      exact .cons h (FzKV.upd f t)
theorem FzKV.put {k : Key} {v : V} {x : PyData} (f : Fz K H v x) {ws : List (Key × V)} {kvs : List (Key × PyData)} (h : FzKV K H ws kvs) : FzKV K H (putK ws k v) (putD kvs k x) := by
  unfold putK putD
  rw [h.any]
  split
  · exact h.upd f
  · exact h.append (.cons f .nil)
end
def dOwn (s : Option Sl) (y : PyData) (R : List (Key × PyData) → Key → Prop) : Prop := match s, keyD y with
  | some (.owd kvs), some k => R kvs k
  | _, _ => False
theorem dOwn_at {K : PySem.W.Frag} {dk : Dk} {H0 H : Hp} {ρ : En} {σ : L2.St} {i : Nat} {y : PyData} {u : V} {R : List (Key × PyData) → Key → Prop} (rel : Rel K dk H0 ρ σ H) (f : Fz K H u y) (h : dOwn ρ[i]? y R) :
    ∃ a ws kvs k, ρ[i]? = some (.owd kvs) ∧ σ[i]? = some (some (.ref a)) ∧ H a = some (.dK ws) ∧ FzKV K H ws kvs ∧ H0 a = none ∧ u = kV k ∧ R kvs k := by
  unfold dOwn at h
  cases e : ρ[i]? with
  | none => rw [e] at h; exact h.elim
  | some s =>
    rw [e] at h
    cases s with
    | owd kvs =>
      obtain ⟨a, ws, h1, h2, h3, h4⟩ := rel.sl i _ e
      cases f with
      | int j => exact ⟨a, ws, kvs, .inl j, rfl, h1, h2, h3, h4, rfl, h⟩
      | str j => exact ⟨a, ws, kvs, .inr j, rfl, h1, h2, h3, h4, rfl, h⟩
      | _ => exact h.elim
    | _ => exact h.elim
section
variable {X : Cx} {pos p : Pos} {e a b : Expr} {es : List Expr} {te ta tb tk : TQ} {t : TQP} {x : Str}
def sDn (i : Nat) : TQS := fun R ρ => R.nx (ρ.set i (.owd []))
theorem qs_dn (i : Nat) {x : Str} {pos' dpos : Pos} (hN : X.N.Nodup) (hi : X.N[i]? = some x := by rfl) (hx : Loc X.env.scope x := by first | exact Or.inl rfl | exact Or.inr rfl) (hs : swapsWith (.Dict [] [] dpos) (some (.Name x pos')) pos.line X.env = pure false := by rfl)
    (hf : X.fn x = true ∨ X.env.scope.names.lookup x = some .local := by first | exact .inl rfl | exact .inr rfl) : QS X (.Assign [.Name x pos'] (.Dict [] [] dpos) pos) (sDn i) :=
  ⟨fun dk H0 => PS.imp (ps_set hN hi hx pe_dnewK hs hf) fun D σ H ⟨ρ, R, rel0, h, k⟩ => fun p hp => by
    have sm := same_upd (o := .dK []) hp
    exact k.nx _ _ _ h ((rel0.same sm).set ⟨p, [], rfl, upd_same, .nil, rel0.fresh0 hp⟩ fun a _ z => by cases z; exact rel0.freshOwn hp) (ex_same sm)⟩
def sSetD (i : Nat) (te tk : TQ) : TQS := fun R ρ => setQ ρ[i]? = true ∧ te ρ fun x ρ1 => tk ρ1 fun y ρ2 => dOwn ρ2[i]? y fun kvs κ => kvs.length ≤ 1000000 ∧ R.nx (ρ2.set i (.owd (putD kvs κ x)))
theorem qs_setD {tpos spos : Pos} (i : Nat) (hu : X.A.units + 64 < cLine) (he : QE X e te) (hb : QE X b tk) (hN : X.N[i]? = some x := by rfl) (hv : Vis X.env.scope x := by first | exact Or.inl rfl | exact Or.inr (Or.inl rfl) | exact Or.inr (Or.inr rfl)) (hd : (x == ("__debug__" : Str)) = false := by decide) (hcd : (x == ("__classdict__" : Str)) = false := by decide)
    (hs : swapsWith e (some (.Subscript (.Name x p) b tpos)) spos.line X.env = pure false := by rfl) : QS X (.Assign [.Subscript (.Name x p) b tpos] e spos) (sSetD i te tk) := by
  refine ⟨fun dk H0 => PS.imp (ps_dput (by omega) (pe_var hN hv hd hcd) (hb.run dk H0) (he.run dk H0) hs) fun D σ H ⟨ρ, R, rel, ⟨hset, h⟩, k⟩ => ⟨ρ, _, rel, h, fun y ρ1 v H1 hy fz rel1 ex1 => ?_⟩⟩
  obtain ⟨ov, eo⟩ := rel.isSet hset
  refine ⟨ov, eo, ρ1, _, rel1, hy, fun z ρ2 u H2 hz fz2 rel2 ex2 => ?_⟩
  obtain ⟨a, ws, kvs, κ, e, g1, g2, g3, g4, rfl, c1, c⟩ := dOwn_at rel2 fz2 hz
  rw [eo] at g1
  cases g1
  obtain ⟨r2, ex3⟩ := rel2.put ⟨_, e, rfl, .inl eo⟩ (.dK (putK ws κ v)) (.owd (putD kvs κ y)) fun ex => ⟨a, _, eo, upd_same, (g3.put (fz.mono ex2)).mono ex, g4⟩
  exact ⟨a, _, rfl, DPut.k g2 (by rw [g3.length]; exact lt_line c1), k.nx _ σ _ c r2 (ex1.trans (ex2.trans ex3))⟩
def tDgetN (i : Nat) (tk : TQ) : TQ := fun ρ R => setQ ρ[i]? = true ∧ tk ρ fun y ρ1 => dOwn ρ1[i]? y fun kvs κ => ∃ x, valD kvs κ = some x ∧ R x ρ1
theorem DGet.of {H : Hp} {a : Addr} {ws : List (Key × V)} {k : Key} {o : Option V} (h : H a = some (.dK ws)) (e : valV ws k = o) : DGet H a (kV k) o := by rw [← e]; exact DGet.k h
end
end Q
end P14
section P15
namespace Q
open PySem PySem.Spec PyProof.Rows L2 HT
section
variable {X : Cx} {pos p : Pos} {e a b : Expr} {es : List Expr} {te ta tb : TQ} {x : Str}
/-- a whole number of the module -/
theorem q_gint {n : Int} (hg : Gl X x) (hm : ∃ z, X.mg x = some (.int n z)) (hd : (x == ("__debug__" : Str)) = false := by decide) : QE X (.Name x pos) (tK (.int n)) := by
  obtain ⟨z, e⟩ := hm
  exact q_glob (v := .int n) hg e ⟨z, rfl⟩ (fun _ => .int n) hd
end
structure At (K : PySem.W.Frag) (mg : Str → Option Value) (x : Str) (ps : List Str) (st : Stmt) (f : Addr) (fd : FuncData) : Prop where
  F : Fun K x x st f fd
  m : mg x = some (.ref f)
  b : Binds K fd ps []
theorem kw_of {K : PySem.W.Frag} {x qual : Str} {st : Stmt} {f : Addr} {fd : FuncData} {ps ks : List Str} {n : Nat} {ix : List Nat} (F : Fun K x qual st f fd)
    (h : ∀ (kV doc pm : Value) (an : Option Addr) (cdv ct : Value) (us ws : List Value), us.length = n → ws.length = ks.length → bindArgs (PySem.W.fnOf x qual (defArgs st) (defBody st) (defScope st) .none kV doc pm an cdv ct) ⟨us, ks.zip ws⟩ = pure (ps.zip (pick ix (us ++ ws)))) :
    KwB K fd ps ks n ix := by
  obtain ⟨oc, od, kV, doc, pm, an, cdv, ct, osl, rfl, lk, hcd⟩ := F.ex
  exact fun s us ws _ h1 h2 => .of_eq (h kV doc pm an cdv ct us ws h1 h2)
end Q
end P15
section P16
namespace Q
open PySem PySem.Spec PyProof.Rows L2 HT
inductive F2 {α β : Type} (P : α → β → Prop) : List α → List β → Prop
  | nil : F2 P [] []
  | cons {a : α} {b : β} {as : List α} {bs : List β} : P a b → F2 P as bs → F2 P (a :: as) (b :: bs)
theorem comp_rel {g : TGQ} {tt : TQB} {te : TQ} {vs : List Nat} {ρ0 : En} {R : List PyData → En → Prop} (P : PyData → Option PyData → Prop) : ∀ (ds acc : List PyData),
    (∀ x, x ∈ ds → ∀ (Rk : PyData → En → Prop) (Rf : En → Prop), (∀ y ρ4, P x (some y) → wipeQ ρ4 vs = ρ0 → Rk y ρ4) → (∀ ρ3, P x none → wipeQ ρ3 vs = ρ0 → Rf ρ3) → g x ρ0 fun ρ2 => tt ρ2 fun b ρ3 => if b = true then te ρ3 Rk else Rf ρ3) →
    (∀ outs, F2 P ds outs → R (acc ++ outs.filterMap id) ρ0) → compQ g tt te vs ds acc ρ0 R
  | [], acc, _, hR => by
    have := hR [] .nil
    simpa [compQ] using this
  | x :: ds, acc, h, hR => by
    unfold compQ
    refine h x (by simp) _ _ (fun y ρ4 hp hw => ?_) (fun ρ3 hp hw => ?_)
    · show compQ g tt te vs ds (acc ++ [y]) (wipeQ ρ4 vs) R
      rw [hw]
      refine comp_rel P ds (acc ++ [y]) (fun z hz => h z (by simp [hz])) fun outs ho => ?_
      have := hR (some y :: outs) (.cons hp ho)
      simpa using this
    · show compQ g tt te vs ds acc (wipeQ ρ3 vs) R
      rw [hw]
      refine comp_rel P ds acc (fun z hz => h z (by simp [hz])) fun outs ho => ?_
      have := hR (none :: outs) (.cons hp ho)
      simpa using this
/-- every item gives f of it -/
theorem comp_map {g : TGQ} {te : TQ} {vs : List Nat} {ρ0 : En} {R : List PyData → En → Prop} (f : PyData → PyData) {ds : List PyData}
    (h : ∀ x, x ∈ ds → ∀ Rk : PyData → En → Prop, (∀ ρ4, wipeQ ρ4 vs = ρ0 → Rk (f x) ρ4) → g x ρ0 fun ρ2 => te ρ2 Rk) (hR : R (ds.map f) ρ0) : compQ g tY te vs ds [] ρ0 R := by
  refine comp_rel (fun x o => o = some (f x)) ds [] (fun x hx Rk Rf hk _ => ?_) fun outs ho => ?_
  · simp only [tY, if_true]
    exact h x hx Rk fun ρ4 hw => hk _ ρ4 rfl hw
  · have : outs.filterMap id = ds.map f := by
      clear hR h
      induction ho with
      | nil => rfl
      | cons hp _ ih => subst hp; simp [ih]
    rw [this]
    exact hR
/-- every item gives something of which P holds -/
theorem comp_any {g : TGQ} {te : TQ} {vs : List Nat} {ρ0 : En} {R : List PyData → En → Prop} (P : PyData → PyData → Prop) {ds : List PyData}
    (h : ∀ x, x ∈ ds → ∀ Rk : PyData → En → Prop, (∀ y ρ4, P x y → wipeQ ρ4 vs = ρ0 → Rk y ρ4) → g x ρ0 fun ρ2 => te ρ2 Rk) (hR : ∀ outs, F2 P ds outs → R outs ρ0) : compQ g tY te vs ds [] ρ0 R := by
  refine comp_rel (fun x o => ∃ y, o = some y ∧ P x y) ds [] (fun x hx Rk Rf hk _ => ?_) fun outs ho => ?_
  · simp only [tY, if_true]
    exact h x hx Rk fun y ρ4 hp hw => hk y ρ4 ⟨y, rfl, hp⟩ hw
  · have : F2 P ds (outs.filterMap id) := by
      clear hR h
      induction ho with
      | nil => exact .nil
      | cons hp _ ih => obtain ⟨y, rfl, hp⟩ := hp; exact .cons hp ih
    exact hR _ this
/-- the items of which p holds, each f of it -/
theorem comp_if {g : TGQ} {tt : TQB} {te : TQ} {vs : List Nat} {ρ0 : En} {R : List PyData → En → Prop} (p : PyData → Bool) (f : PyData → PyData) {ds : List PyData}
    (h : ∀ x, x ∈ ds → ∀ (Rk : PyData → En → Prop) (Rf : En → Prop), (∀ ρ4, p x = true → wipeQ ρ4 vs = ρ0 → Rk (f x) ρ4) → (∀ ρ3, p x = false → wipeQ ρ3 vs = ρ0 → Rf ρ3) → g x ρ0 fun ρ2 => tt ρ2 fun b ρ3 => if b = true then te ρ3 Rk else Rf ρ3)
    (hR : R ((ds.filter p).map f) ρ0) : compQ g tt te vs ds [] ρ0 R := by
  refine comp_rel (fun x o => o = if p x = true then some (f x) else none) ds [] (fun x hx Rk Rf hk hf => ?_) fun outs ho => ?_
  · refine h x hx Rk Rf (fun ρ4 e hw => hk _ ρ4 (by rw [e]; rfl) hw) fun ρ3 e hw => hf ρ3 (by rw [e]; rfl) hw
  · have : outs.filterMap id = (ds.filter p).map f := by
      clear hR h
      induction ho with
      | nil => rfl
      | @cons a b as bs hp _ ih =>
        subst hp
        cases e : p a with
        | true => simp [e]; simpa using ih
        | false => simp [e]; simpa using ih
    rw [this]
    exact hR
theorem F2.length {α β : Type} {P : α → β → Prop} {as : List α} {bs : List β} (h : F2 P as bs) : as.length = bs.length := by
  induction h with
  | nil => rfl
  | cons _ _ ih => simp [ih]
theorem F2.imp {α β : Type} {P Q : α → β → Prop} (w : ∀ a b, P a b → Q a b) {as : List α} {bs : List β} (h : F2 P as bs) : F2 Q as bs := by
  induction h with
  | nil => exact .nil
  | cons a _ ih => exact .cons (w _ _ a) ih
/-- all things are ints of which p holds -/
theorem F2.ints {α : Type} {p : Int → Prop} {as : List α} {bs : List PyData} (h : F2 (fun _ y => ∃ i : Int, y = .int i ∧ p i) as bs) : ∃ ns : List Int, bs = ns.map .int ∧ ns.length = as.length ∧ ∀ i, i ∈ ns → p i := by
  induction h with
  | nil => exact ⟨[], rfl, rfl, by simp⟩
  | cons a _ ih =>
    obtain ⟨ns, rfl, hl, hp⟩ := ih
    obtain ⟨i, rfl, hi⟩ := a
    exact ⟨i :: ns, rfl, by simp [hl], fun j hj => by
      rcases List.mem_cons.mp hj with rfl | hj
      · exact hi
      · exact hp j hj⟩
end Q
end P16
section P17
namespace Q
open PySem PySem.Spec PyProof.Rows L2 HT
theorem len_app (a b : Str) : (a ++ b).length = a.length + b.length := by
  show (a.cps ++ b.cps).size = _
  rw [Array.size_append]; rfl
theorem ok_app {a b : Str} (h : PyData.strOk a = true) (h' : PyData.strOk b = true) : PyData.strOk (a ++ b) = true := by
  unfold PyData.strOk at h h' ⊢
  show (a.cps ++ b.cps).all _ = true
  rw [Array.all_append, h, h']; rfl
theorem join_len {sep : Str} {B : Nat} : ∀ {ts : List Str}, (∀ t, t ∈ ts → t.length ≤ B) → (sep.join ts).length ≤ ts.length * (B + sep.length)
  | [], _ => by show 0 ≤ _; omega
  | [a], h => by
    have := h a (by simp)
    show a.length ≤ _
    simp; omega
  | a :: b :: r, h => by
    have h1 := h a (by simp)
    have ih := join_len (sep := sep) (ts := b :: r) fun t ht => h t (by simp at ht ⊢; exact .inr ht)
    show (a ++ sep ++ sep.join (b :: r)).length ≤ _
    rw [len_app, len_app]
    simp only [List.length_cons] at ih ⊢
    rw [Nat.add_mul (r.length + 1) 1 _]
    omega
theorem join_ok {sep : Str} (hs : PyData.strOk sep = true) : ∀ {ts : List Str}, (∀ t, t ∈ ts → PyData.strOk t = true) → PyData.strOk (sep.join ts) = true
  | [], _ => by show PyData.strOk Str.empty = true; decide +kernel
  | [a], h => h a (by simp)
  | a :: b :: r, h => by
    have ih := join_ok hs (ts := b :: r) fun t ht => h t (by simp at ht ⊢; exact .inr ht)
    exact ok_app (ok_app (h a (by simp)) hs) ih
structure Tn (k B : Nat) (d : PyData) : Prop where
  sh : d.showable = true
  lay : d.canLay0 = true
  dp : d.depth ≤ k
  sz : d.shown.length ≤ B
  ok : PyData.strOk d.shown = true
theorem Tn.rep {k B : Nat} {d : PyData} (h : Tn k B d) (hk : k ≤ 60) (hB : B ≤ 10000000) : RepOk d := ⟨h.sh, h.lay, Nat.le_trans h.dp hk, by have := h.sz; rw [sizeLine_eq]; omega⟩
theorem Tn.shaped {k B : Nat} {d : PyData} (h : Tn k B d) (hk : k ≤ 60) : SeqAt.shaped d = true := by
  unfold SeqAt.shaped
  rw [h.lay, Bool.true_and, decide_eq_true_eq]
  have := h.dp
  omega
theorem Tn.text {k B : Nat} {d : PyData} (h : Tn k B d) : SeqAt.shaped (.str d.shown) = true := by
  unfold SeqAt.shaped
  simp [PyData.canLay0, PyData.depth, h.ok]
theorem Tn.mono {k B k' B' : Nat} {d : PyData} (h : Tn k B d) (hk : k ≤ k') (hB : B ≤ B') : Tn k' B' d := ⟨h.sh, h.lay, Nat.le_trans h.dp hk, Nat.le_trans h.sz hB, h.ok⟩
theorem tn_nat : ∀ n : Nat, n < 1000 → (Str.ofString (toString (n : Int))).length ≤ 3 ∧ PyData.strOk (Str.ofString (toString (n : Int))) = true ∧ decide (((n : Int)).natAbs.log2 < 1920) = true := by decide +kernel
theorem tn_neg : ∀ n : Nat, n < 1000 → (Str.ofString (toString (-(n : Int)))).length ≤ 4 ∧ PyData.strOk (Str.ofString (toString (-(n : Int)))) = true ∧ decide ((-(n : Int)).natAbs.log2 < 1920) = true := by decide +kernel
theorem tn_int {i : Int} (h1 : -1000 < i) (h2 : i < 1000) : Tn 0 4 (.int i) := by
  by_cases h : 0 ≤ i
  · obtain ⟨n, rfl⟩ := Int.eq_ofNat_of_zero_le h
    obtain ⟨a, b, c⟩ := tn_nat n (by omega)
    exact ⟨by simpa only [PyData.showable] using c, by simp [PyData.canLay0], by simp [PyData.depth], by rw [PyData.shown]; exact Nat.le_trans a (by decide), by rw [PyData.shown]; exact b⟩
  · obtain ⟨n, hn⟩ := Int.eq_ofNat_of_zero_le (a := -i) (by omega)
    have e : i = -(n : Int) := by omega
    subst e
    obtain ⟨a, b, c⟩ := tn_neg n (by omega)
    exact ⟨by simpa only [PyData.showable] using c, by simp [PyData.canLay0], by simp [PyData.depth], by rw [PyData.shown]; exact a, by rw [PyData.shown]; exact b⟩
theorem shAll {xs : List PyData} : (∀ x, x ∈ xs → x.showable = true) → PyData.showableAll xs = true := by
  induction xs with
  | nil => intro; simp [PyData.showableAll]
  | cons x xs ih => intro h; simp [PyData.showableAll, h x (by simp), ih fun y hy => h y (by simp [hy])]
theorem layAll {xs : List PyData} : (∀ x, x ∈ xs → x.canLay0 = true) → PyData.canLayAll0 xs = true := by
  induction xs with
  | nil => intro; simp [PyData.canLayAll0]
  | cons x xs ih => intro h; simp [PyData.canLayAll0, h x (by simp), ih fun y hy => h y (by simp [hy])]
theorem dpAll {k : Nat} {xs : List PyData} : (∀ x, x ∈ xs → x.depth ≤ k) → PyData.depthAll xs ≤ k := by
  induction xs with
  | nil => intro; simp [PyData.depthAll]
  | cons x xs ih =>
    intro h
    rw [PyData.depthAll]
    exact Nat.max_le.mpr ⟨h x (by simp), ih fun y hy => h y (by simp [hy])⟩
theorem shownAll_eq (xs : List PyData) : PyData.shownAll xs = xs.map PyData.shown := by
  induction xs with
  | nil => simp [PyData.shownAll]
  | cons x xs ih => simp [PyData.shownAll, ih]
theorem tn_tup {k B n : Nat} {xs : List PyData} (h : ∀ x, x ∈ xs → Tn k B x) (hn : xs.length ≤ n) : Tn (k + 1) (n * (B + 2) + 3) (.tuple xs) := by
  refine ⟨by rw [PyData.showable]; exact shAll fun x hx => (h x hx).sh, by rw [PyData.canLay0]; exact layAll fun x hx => (h x hx).lay, by rw [PyData.depth]; exact Nat.succ_le_succ (dpAll fun x hx => (h x hx).dp), ?_, ?_⟩
  · rw [PyData.shown, shownAll_eq]
    unfold tupleText
    rw [len_app, len_app]
    have a := join_len (sep := Str.ofString ", ") (B := B) (ts := xs.map PyData.shown) fun t ht => by
      obtain ⟨x, hx, rfl⟩ := List.mem_map.mp ht
      exact (h x hx).sz
    rw [List.length_map] at a ⊢
    have e1 : (Str.ofString ", ").length = 2 := by decide +kernel
    have e2 : (Str.ofString "(").length = 1 := by decide +kernel
    have e3 : (Str.ofString (if (xs.length == 1) = true then ",)" else ")")).length ≤ 2 := by split <;> decide +kernel
    rw [e1] at a
    have m : xs.length * (B + 2) ≤ n * (B + 2) := Nat.mul_le_mul_right _ hn
    omega
  · rw [PyData.shown, shownAll_eq]
    unfold tupleText
    refine ok_app (ok_app (by decide +kernel) (join_ok (by decide +kernel) fun t ht => ?_)) ?_
    · obtain ⟨x, hx, rfl⟩ := List.mem_map.mp ht
      exact (h x hx).ok
    · split <;> decide +kernel
theorem tn_ints {ns : List Int} {n : Nat} (h : ∀ i, i ∈ ns → -1000 < i ∧ i < 1000) (hn : ns.length ≤ n) : Tn 1 (n * 6 + 3) (.tuple (ns.map .int)) :=
  tn_tup (k := 0) (B := 4) (fun x hx => by obtain ⟨i, hi, rfl⟩ := List.mem_map.mp hx; exact tn_int (h i hi).1 (h i hi).2) (by rw [List.length_map]; exact hn)
theorem eqv_int {i j : Int} : PyData.eqv (.int i) (.int j) = decide (i = j) := by simp [PyData.eqv]; rfl
theorem eqv_strs {a : Str} : PyData.eqv (.str a) (.str a) = true := by simp [PyData.eqv]
theorem sh_int {i : Int} : SeqAt.shaped (.int i) = true := by unfold SeqAt.shaped; simp [PyData.canLay0, PyData.depth]
end Q
end P17
section P18
namespace Q
open PySem PySem.Spec PyProof.Rows L2 HT
section
variable {X : Cx} {pos : Pos} {tg e a b : Expr} {te ta tb : TQ} {x : Str}
def bandI := cI fun i j => .int (Builtin.bitAnd i j)
theorem q_band (ha : QE X a ta) (hb : QE X b tb) : QE X (.BinOp a .BitAnd b pos) (t2 bandI ta tb) := q_op op_and (br_I0 fun _ _ _ => .int _) ha hb
theorem band1 (i : Int) : Builtin.bitAnd i 1 = i % 2 := bitAnd_m1 i
theorem tuple_mul1 (l : Addr) (items : Array Value) (n : Nat) (dd : Option Addr) (sl : Array (Option Value)) (u : Tok) :
    Meets (Builtin.«tuple.__mul__» ⟨[.ref l, .int 1 u], []⟩) (fun _ R s => s.heap.get? l = some { cls := .type "tuple", dict := dd, data := .seq items n, slots := sl } ∧
      R (.ok (.ret (Value.ref l))) s) :=
  .of_wp fun prog w A R s h => by
    obtain ⟨hp, g, d, tk, os⟩ := s
    obtain ⟨hl, h⟩ := h
    have f1 := AutoSeq1.idx_int
    have c1 : (items.isEmpty || (1 : Int) == 1) = true := by simp
    wp_walk using wpAny_loadPart' hl
    exact ⟨_, rfl, h⟩
def rRep1 (K : PySem.W.Frag) : R2 := fun x y H Q => ∃ l xs, x = .ref l ∧ y = .int 1 ∧ SqT K H l xs ∧ Q (.ref l) H
theorem op_rep1 : OpR X (binaryOp .Mult) (rRep1 X.K) := by
  intro pins s σ H x y v u Q I rx ry h
  obtain ⟨l, xs, rfl, rfl, hT, q⟩ := h
  cases rx
  obtain ⟨t, rfl⟩ := ry
  obtain ⟨its, r, ⟨⟨cls, dd, data, sl⟩, ho, hc, n, hd⟩, hs⟩ := I.tuple hT
  simp only at hc hd
  subst hc hd
  refine wpAny_binaryOp_repeat_ref (T := "tuple") (U := "int") (by decide) ⟨_, ho, rfl⟩ (fun s' => typeIs_int s' 1 t) noFill_tuple_mul F.fills_int_mul F.slot_int_rmul repeat_tuple F.slot_int_index.lookup
    (call_meets F.slot_int_rmul (typeIs_int s 1 t) F.entry_int_rmul (F.args_int_rmul_2 _ _) (int_rmul_tuple 1 t l its.toArray n dd sl)
      ⟨ho, rfl, ⟨_, ho, rfl⟩, call_meets F.slot_tuple_mul ⟨_, ho, rfl⟩ F.entry_tuple_mul (F.args_tuple_mul_2 _ _) (tuple_mul1 l its.toArray n dd sl t) ⟨ho, ?_⟩⟩)
  exact ⟨.ref l, _, I, rfl, q⟩
theorem tuple_mul0 (l : Addr) (items : Array Value) (n : Nat) (dd : Option Addr) (sl : Array (Option Value)) (u : Tok) (hi : items.isEmpty = false) :
    Meets (Builtin.«tuple.__mul__» ⟨[.ref l, .int 0 u], []⟩) (fun _ R s => s.heap.get? l = some { cls := .type "tuple", dict := dd, data := .seq items n, slots := sl } ∧
      R (.ok (.ret (Value.ref s.heap.objs.size))) { s with heap := s.heap.push { cls := Value.type "tuple", data := Data.seq #[] }, toks := s.toks }) :=
  .of_wp fun prog w A R s h => by
    obtain ⟨hp, g, d, tk, os⟩ := s
    obtain ⟨hl, h⟩ := h
    have f1 := AutoSeq1.idx_int
    have c1 : (items.isEmpty || (0 : Int) == 1) = false := by rw [hi]; rfl
    wp_walk using wpAny_loadPart' hl
    repeat (first
      | (refine wpAny_ite_false (decide_eq_false (by rw [c1]; exact Bool.false_ne_true)) ?_; wp_walk using wpAny_loadPart' hl))
    exact ⟨_, rfl, h⟩
def rRep0 (K : PySem.W.Frag) : R2 := fun x y H Q => ∃ l xs, x = .ref l ∧ y = .int 0 ∧ SqT K H l xs ∧ xs ≠ [] ∧ ∀ p, H p = none → Q (.ref p) (upd H p (.tup []))
theorem op_rep0 : OpR X (binaryOp .Mult) (rRep0 X.K) := by
  intro pins s σ H x y v u Q I rx ry h
  obtain ⟨l, xs, rfl, rfl, hT, hne, q⟩ := h
  cases rx
  obtain ⟨t, rfl⟩ := ry
  obtain ⟨its, r, ⟨⟨cls, dd, data, sl⟩, ho, hc, n, hd⟩, hs⟩ := I.tuple hT
  simp only at hc hd
  subst hc hd
  have hle : its.length = xs.length := r.length.symm
  have hi : its.toArray.isEmpty = false := by
    cases its with
    | nil => exact absurd (List.eq_nil_of_length_eq_zero hle.symm) hne
    | cons a b => rfl
  refine wpAny_binaryOp_repeat_ref (T := "tuple") (U := "int") (by decide) ⟨_, ho, rfl⟩ (fun s' => typeIs_int s' 0 t) noFill_tuple_mul F.fills_int_mul F.slot_int_rmul repeat_tuple F.slot_int_index.lookup
    (call_meets F.slot_int_rmul (typeIs_int s 0 t) F.entry_int_rmul (F.args_int_rmul_2 _ _) (int_rmul_tuple 0 t l its.toArray n dd sl)
      ⟨ho, rfl, ⟨_, ho, rfl⟩, call_meets F.slot_tuple_mul ⟨_, ho, rfl⟩ F.entry_tuple_mul (F.args_tuple_mul_2 _ _) (tuple_mul0 l its.toArray n dd sl t hi) ⟨ho, ?_⟩⟩)
  refine ⟨.ref s.heap.objs.size, _, I.laid (t' := s.toks) (o := .tup []) (fun b ob q => Heap.get?_push_of_some _ q) (Nat.le_refl _) ?_, rfl, q _ (I.hok.fresh (Nat.le_refl _))⟩
  exact ⟨Nat.zero_le _, [], .nil, IsTup.new _ _⟩
def mulF : C2 := fun x y R => match x, y with
  | .int i, .int j => CMul i j ∧ R (.int (i * j))
  | .tuple xs, .int k => xs ≠ [] ∧ 0 ≤ k ∧ k ≤ 1000 ∧ xs.length ≤ 1000 ∧ R (.tuple (List.replicate k.toNat xs).flatten)
  | _, _ => False
theorem br_mulF : Br2 X.K (fun x y H Q => (∃ i j, x = .int i ∧ y = .int j ∧ CMul i j ∧ Q (.int (i * j)) H) ∨ rRepT X.K x y H Q ∨ rRep1 X.K x y H Q ∨ rRep0 X.K x y H Q) mulF := by
  intro x y v u H Q R h1 h2 c k
  cases h1 with
  | int i => cases h2 <;> first | exact c.elim | exact .inl ⟨_, _, rfl, rfl, c.1, k _ _ H c.2 (.int _) (Same.refl H)⟩
  | @tup a0 xs ds q t =>
    cases h2 with
    | int n =>
      obtain ⟨c1, c2, c3, c4, c5⟩ := c
      have l1 := t.length
      by_cases h0 : n = 0
      · subst h0
        refine .inr (.inr (.inr ⟨a0, xs, rfl, rfl, q, fun z => ?_, fun p hp => ?_⟩))
        · subst z
          exact c1 (List.eq_nil_of_length_eq_zero l1.symm)
        · have sm := same_upd (H := H) (p := p) (o := .tup []) hp
          exact k _ _ _ c5 (.tup (.inl (.inl upd_same)) .nil) sm
      by_cases h : n = 1
      · subst h
        refine .inr (.inr (.inl ⟨a0, xs, rfl, rfl, q, k _ _ H c5 ?_ (Same.refl H)⟩))
        have : (List.replicate (1 : Int).toNat ds).flatten = ds := by simp
        rw [this]
        exact .tup q t
      · refine .inr (.inl ⟨a0, n, xs, rfl, rfl, q, fun z => ?_, by omega, c3, by omega, fun p hp => ?_⟩)
        · subst z
          exact c1 (List.eq_nil_of_length_eq_zero l1.symm)
        · have sm := same_upd (H := H) (p := p) (o := .tup (List.replicate n.toNat xs).flatten) hp
          exact k _ _ _ c5 (.tup (.inl (.inl upd_same)) ((t.rep _).mono (ex_same sm))) sm
    | _ => exact c.elim
  | _ => cases h2 <;> exact c.elim
theorem q_mulF (ha : QE X a ta) (hb : QE X b tb) : QE X (.BinOp a .Mult b pos) (t2 mulF ta tb) := q_op (op_mul.or (op_repT.or (op_rep1.or op_rep0))) br_mulF ha hb
def zipD (xs ys : List PyData) : List PyData := List.zipWith (fun x y => .tuple [x, y]) xs ys
theorem zipD_length (xs ys : List PyData) : (zipD xs ys).length = min xs.length ys.length := by simp [zipD]
theorem wd_zipT {K : PySem.W.Frag} {a b : Addr} {vs ws : List V} {ds es : List PyData} : WalkD K (RZ.ItzT K a b) (zipD ds es) (fun H => G2 K a vs ds H ∧ G2 K b ws es H) := by
  refine ⟨fun i H hi ⟨⟨q, f⟩, q2, f2⟩ => ?_, fun H ⟨⟨q, f⟩, q2, f2⟩ => ?_, fun i H x H' hi ⟨⟨q, f⟩, q2, f2⟩ y => ?_, fun H H' ⟨⟨q, f⟩, q2, f2⟩ ex => ⟨⟨ex.sqT q, f.mono ex⟩, ex.sqT q2, f2.mono ex⟩⟩
  · rw [zipD_length] at hi
    have l1 := f.length
    have l2 := f2.length
    exact ⟨vs, ws, vs[i]'(by omega), ws[i]'(by omega), q, q2, by simp, by simp⟩
  · refine ⟨vs, ws, q, q2, ?_⟩
    rw [zipD_length, f.length, f2.length]
    omega
  · obtain ⟨T, z, u, rfl, hT, rfl, hz, hu⟩ := y
    obtain ⟨d, hd, fd⟩ := f.get (hz vs q)
    obtain ⟨d2, hd2, fd2⟩ := f2.get (hu ws q2)
    have sm := same_upd (o := .tup [z, u]) hT
    refine ⟨.tuple [d, d2], ?_, .tup (.inl (.inl upd_same)) (.cons (fd.mono (ex_same sm)) (.cons (fd2.mono (ex_same sm)) .nil)), sm⟩
    unfold zipD
    rw [List.getElem?_zipWith, hd, hd2]
def itZ (x y : PyData) (R : List PyData → Prop) : Prop := match x, y with
  | .tuple ds, .tuple es => ds.length ≤ 1000000 ∧ R (zipD ds es)
  | _, _ => False
def iZip (ta tb : TQ) : TQL := fun ρ R => ta ρ fun x ρ1 => tb ρ1 fun y ρ2 => itZ x y fun ds => R ds ρ2
theorem qi_zip {p tpos : Pos} {elts : List Expr} {kk : Nat} (hg : Gl X "zip") (hm : X.mg "zip" = none) (ha : QE X a ta) (hb : QE X b tb)
    (hs : starEach [a, b] X.env = (false, eval a X.env) :: starEach [b] X.env := by rfl) (hs2 : starEach [b] X.env = (false, eval b X.env) :: starEach [] X.env := by rfl) (hpl : (backTo pos (starEach [b] X.env)).any (·.1) = false := by rfl) :
    QI X (.Tuple elts kk tpos) (.Call (.Name "zip" p) [a, b] [] pos) (iZip ta tb) := by
  refine ⟨fun dk H0 => PI.imp (RZ.pi_zipA hg hm (pa_cons (ha.run dk H0) (pa_cons (hb.run dk H0) pa_nil hs2) hs) hs hpl) fun σ H Q ⟨ρ, R, rel, h, k⟩ => ?_⟩
  refine ⟨ρ, _, rel, h, fun x ρ1 v H1 hx fz rel1 ex1 => ⟨ρ1, _, rel1, hx, fun y ρ2 u H2 hy fz2 rel2 ex2 => ?_⟩⟩
  have hy : itZ x y fun ds => R ds ρ2 := hy
  have fz' := fz.mono ex2
  cases fz' with
  | tup q t =>
    cases fz2 with
    | @tup b0 ws es q2 t2 =>
      refine ⟨_, b0, _, ws, rfl, .inr ⟨q, q2, ?_⟩⟩
      refine k _ ρ2 _ (fun H => G2 X.K _ _ _ H ∧ G2 X.K b0 ws es H) H2 hy.2 ?_ wd_zipT ⟨⟨q, t⟩, q2, t2⟩ rel2 (ex1.trans ex2)
      rw [zipD_length]
      have := le_line hy.1
      omega
    | _ => exact hy.elim
  | _ => cases fz2 <;> exact hy.elim
theorem q_gtup {ds : List PyData} (hg : Gl X x) (hm : ∃ a, X.mg x = some (.ref a) ∧ ∀ H, Fz X.K H (.ref a) (.tuple ds)) (hd : (x == ("__debug__" : Str)) = false := by decide) : QE X (.Name x pos) (tK (.tuple ds)) := by
  obtain ⟨a, e, f⟩ := hm
  exact q_glob (v := .ref a) hg e rfl f hd
end
theorem strs_of {K : PySem.W.Frag} {H : Hp} : ∀ zs : List Str, FzAll K H (zs.map V.str) (zs.map PyData.str)
  | [] => .nil
  | z :: zs => .cons (.str z) (strs_of zs)
theorem gtup_of {K : PySem.W.Frag} {p : Addr} {od : Option Addr} {its : Array Value} {n : Nat} {sl : Array (Option Value)} {zs : List Str} (l : K.lookup p = some ⟨.type "tuple", od, .seq its n, sl⟩) (hz : its.size ≤ 1000) (r : Vals (zs.map V.str) its.toList) (ne : zs ≠ [] := by simp) : ∀ H, Fz K H (.ref p) (.tuple (zs.map .str)) :=
  fun H => .tup (.inr ⟨_, its, n, l, rfl, rfl, by rw [sizeLine_eq]; omega, r⟩) (strs_of zs) (.inr ⟨⟨_, its, n, l, rfl, rfl, by rw [sizeLine_eq]; omega, r⟩, by simpa using ne, fun x hx => by obtain ⟨z, _, rfl⟩ := List.mem_map.mp hx; exact ⟨z, rfl⟩⟩)
end Q
end P18
section P19
namespace Q
open PySem PySem.Spec PyProof.Rows L2 HT
section
variable {X : Cx} {pos : Pos} {tg e a b : Expr} {te ta tb : TQ} {x : Str}
def mergeD (kvs : List (Key × PyData)) : List (Key × PyData) := kvs.foldl (fun acc kv => putD acc kv.1 kv.2) []
theorem merge_fz {K : PySem.W.Frag} {H : Hp} : ∀ {ws : List (Key × V)} {kvs : List (Key × PyData)} {wa : List (Key × V)} {ka : List (Key × PyData)}, FzKV K H wa ka → FzKV K H ws kvs → FzKV K H (mergeK wa ws) (kvs.foldl (fun acc kv => putD acc kv.1 kv.2) ka)
  | _, _, _, _, ha, .nil => ha
  | _, _, wa, ka, ha, .cons (k := k) (v := v) (d := d) f t => by
    have ih := merge_fz (ha.put (k := k) f) t
    exact ih
end
end Q
end P19
section P20
namespace Q
open PySem PySem.Spec PyProof.Rows L2 HT
section
variable {X : Cx} {pos : Pos} {e a b : Expr} {te ta tb : TQ} {x : Str}
def augC (g : Int → Int → Int) : C2 := fun x y R => match x, y with
  | .int i, .int j => R (.int (g i j))
  | _, _ => False
def ownedD : Option Sl → Bool
  | some (.owd _) => true
  | _ => false
def tDgetD (i : Nat) (tk tx : TQ) : TQ := fun ρ R => ownedD ρ[i]? = true ∧ tk ρ fun y ρ1 => tx ρ1 fun z ρ2 => dOwn ρ2[i]? y fun kvs κ => R ((valD kvs κ).getD z) ρ2
theorem owned_at {K : PySem.W.Frag} {dk : Dk} {H0 H : Hp} {ρ : En} {σ : L2.St} {i : Nat} (r : Rel K dk H0 ρ σ H) (h : ownedD ρ[i]? = true) : ∃ a ws, σ[i]? = some (some (.ref a)) ∧ H a = some (.dK ws) := by
  cases e : ρ[i]? with
  | none => rw [e] at h; cases h
  | some s =>
    rw [e] at h
    cases s with
    | owd kvs =>
      obtain ⟨a, ws, h1, h2, _⟩ := r.sl i _ e
      exact ⟨a, ws, h1, h2⟩
    | _ => cases h
theorem q_dgetD {p apos cpos : Pos} (i : Nat) (hu : X.A.units + 64 < cLine) (ha : QE X a ta) (hb : QE X b tb) (hN : X.N[i]? = some x := by rfl) (hv : Vis X.env.scope x := by first | exact Or.inl rfl | exact Or.inr (Or.inl rfl) | exact Or.inr (Or.inr rfl)) (hd : (x == ("__debug__" : Str)) = false := by decide) (hcd : (x == ("__classdict__" : Str)) = false := by decide)
    (m : M2 X (.Name x p) "get" apos a b cpos := by exact ⟨rfl, rfl, rfl, rfl⟩) : QE X (.Call (.Attribute (.Name x p) "get" apos) [a, b] [] cpos) (tDgetD i ta tb) :=
  ⟨fun dk H0 => PE.imp (pe_dget2 (by omega) (pe_var hN hv hd hcd) (ha.run dk H0) (hb.run dk H0) m) fun σ H Q ⟨ρ, R, rel, ⟨hown, h⟩, k⟩ => by
    obtain ⟨a0, ws0, e1, e2⟩ := owned_at rel hown
    refine ⟨.ref a0, e1, a0, rfl, .inl ⟨ws0, .inl e2⟩, ρ, _, rel, h, fun y ρ1 v H1 hy fz1 rel1 ex1 => ⟨ρ1, _, rel1, hy, fun z ρ2 u H2 hz fz2 rel2 ex2 => ?_⟩⟩
    obtain ⟨a, ws, kvs, κ, e, g1, g2, g3, g4, rfl, c⟩ := dOwn_at rel2 (fz1.mono ex2) hz
    rw [e1] at g1
    cases g1
    rcases g3.val (k := κ) with ⟨q1, q2⟩ | ⟨v', y', q1, q2, q3⟩
    · rw [q2] at c
      exact ⟨none, DGet.of g2 q1, k _ ρ2 u H2 c fz2 rel2 (ex1.trans ex2)⟩
    · rw [q2] at c
      exact ⟨some v', DGet.of g2 q1, k _ ρ2 v' H2 c q3 rel2 (ex1.trans ex2)⟩⟩
end
end Q
end P20
section P21
namespace Q
open PySem PySem.Spec PyProof.Rows L2 HT
section
variable {prog : Program} {w : World} {A : Around} {E : Value → Shared → Prop} {s : Shared}
end
section
variable {X : Cx} {e st : Expr}
end
end Q
end P21
section P22
namespace Q
open PySem PySem.Spec PyProof.Rows L2 HT
def fdivW := cIp CDivW fun i j => .int (i / j)
section
variable {X : Cx} {pos : Pos} {a b : Expr} {ta tb : TQ}
end
end Q
end P22
section P23
namespace Q
open PySem PySem.Spec PyProof.Rows L2 HT
section
variable {X : Cx} {pos : Pos} {tg iter tg1 iter1 elt c : Expr}
variable {ifs ifs1 : List Expr} {scope : Scope} {own : List (Str × Nat)} {ti ti1 : TQL} {is is1 vs1 : List Nat} {g g1 : TGQ} {tt tt1 : TQB} {te : TQ}
end
end Q
end P23
section P24
namespace Q
open PySem PySem.Spec PyProof.Rows L2 HT
section
variable {X : Cx} {pos : Pos} {a b : Expr} {ta tb : TQ}
end
end Q
end P24
section P25
namespace Q
open PySem PySem.Spec PyProof.Rows L2 HT
section
variable {X : Cx} {pos p : Pos} {tg e a b st : Expr} {te ti ta tb : TQ} {x : Str}
def rGetL0 (K : PySem.W.Frag) : V → V → Hp → VK → Prop := fun x y H Q => ∃ p xs i v, x = .ref p ∧ y = .int i ∧ SqL K H p xs ∧ 0 ≤ i ∧ xs[i.toNat]? = some v ∧ Q v H
theorem get_list0 : PGet X (rGetL0 X.K) := by
  intro pins s σ H x y v u Q I rx ry h
  obtain ⟨p, xs, i, z, rfl, rfl, hq, h0, he, q⟩ := h
  cases rx
  obtain ⟨t, rfl⟩ := ry
  obtain ⟨its, r, pl, hz⟩ := I.list hq
  obtain ⟨w, ew, rw'⟩ := r.get he
  have hl := r.length
  have hlt := (List.getElem?_eq_some_iff.mp he).1
  have hz2 := hz
  rw [sizeLine_eq] at hz2
  exact wpAny_getItem_list pl.isList h0 (by omega) (by simpa using ew) ⟨z, H, I, rw', q⟩
def sAugIx (i : Nat) (C : C2) (ti te : TQ) : TQS := fun R ρ => ownL ρ[i]? = true ∧ ti ρ fun y ρ1 => match ρ1[i]?, y with
  | some (.own xs), .int k => 0 ≤ k ∧ ∃ w, xs[k.toNat]? = some w ∧ te ρ1 fun z ρ2 => match ρ2[i]? with
    | some (.own xs2) => k < (xs2.length : Int) ∧ C w z fun v => R.nx (ρ2.set i (.own (xs2.set k.toNat v)))
    | _ => False
  | _, _ => False
theorem qs_augIx (i : Nat) {op : Operator} {g : Int → Int → Int} {tpos : Pos} (ho : PIp X op (ipI g)) (hb : QE X b ti) (he : QE X e te) (hN : X.N[i]? = some x := by rfl) (hv : Vis X.env.scope x := by first | exact Or.inl rfl | exact Or.inr (Or.inl rfl) | exact Or.inr (Or.inr rfl)) (hd : (x == ("__debug__" : Str)) = false := by decide)
    (hcd : (x == ("__classdict__" : Str)) = false := by decide)
    (ha : ∀ ov iv new, augStore b ov iv new = (do holding [new, ov, iv] (setItem ov iv new); release [new, ov, iv] []; pure .next) := by intros; rfl) : QS X (.AugAssign (.Subscript (.Name x p) b tpos) op e pos) (sAugIx i (augC g) ti te) := by
  refine ⟨fun dk H0 => PS.imp (ps_augS (pe_var (pos := p) hN hv hd hcd) (hb.run dk H0) get_list0 (he.run dk H0) ho set_list ha) fun D σ H ⟨ρ, R, rel, ⟨hown, h⟩, k⟩ => ?_⟩
  obtain ⟨a, vs0, hσ, hH⟩ := own_at rel hown
  refine ⟨.ref a, hσ, ρ, _, rel, h, fun y ρ1 u H1 hy fz rel1 ex1 => ?_⟩
  cases e1 : ρ1[i]? with
  | none => rw [e1] at hy; exact hy.elim
  | some sl1 =>
    rw [e1] at hy
    cases sl1 with
    | own xs =>
      cases fz with
      | int kk =>
        obtain ⟨h0, w, hw, hte⟩ := hy
        obtain ⟨a1, vs, g1, g2, g3, g4⟩ := rel1.sl i _ e1
        rw [hσ] at g1
        cases g1
        obtain ⟨wv, hwv, fw⟩ := g3.at hw
        refine ⟨a, vs, kk, wv, rfl, rfl, SqL.of g2, h0, hwv, ?_⟩
        refine ⟨ρ1, _, rel1, hte, fun z ρ2 zv H2 hz fz2 rel2 ex2 => ?_⟩
        cases e2 : ρ2[i]? with
        | none => rw [e2] at hz; exact hz.elim
        | some sl2 =>
          rw [e2] at hz
          cases sl2 with
          | own xs2 =>
            obtain ⟨hk2, hc⟩ := hz
            obtain ⟨a2, vs2, g5, g6, g7, g8⟩ := rel2.sl i _ e2
            rw [hσ] at g5
            cases g5
            cases w with
            | int w1 =>
              cases z with
              | int z1 =>
                cases fw
                cases fz2
                have hc : R.nx (ρ2.set i (.own (xs2.set kk.toNat (.int (g w1 z1))))) := hc
                refine ⟨w1, z1, rfl, rfl, a, vs2, kk, kk.toNat, rfl, rfl, g6, ?_, ?_⟩
                · unfold ixN
                  rw [if_pos h0, if_pos (by rw [g7.length]; omega)]
                · obtain ⟨r2, ex3⟩ := rel2.put ⟨_, e2, rfl, .inl hσ⟩ (.lst (vs2.set kk.toNat (.int (g w1 z1)))) (.own (xs2.set kk.toNat (.int (g w1 z1)))) fun ex => ⟨a, _, hσ, upd_same, ((g7.set (.int _) _).mono ex), g8⟩
                  exact k.nx _ σ _ hc r2 (ex1.trans (ex2.trans ex3))
              | _ => exact hc.elim
            | _ => cases z <;> exact hc.elim
          | _ => exact hz.elim
      | _ => exact hy.elim
    | _ => cases fz <;> exact hy.elim
end
end Q
end P25
section P26
namespace Q
open PySem PySem.Spec PyProof.Rows L2 HT
section
variable {X : Cx} {pos p p1 : Pos} {tg e a b c f : Expr} {te ti ta tb tc : TQ} {tl : TQL} {x : Str}
def own2L : Option Sl → Bool
  | some (.own2 _ _) => true
  | _ => false
end
end Q
end P26
section P27
namespace Q
open PySem PySem.Spec PyProof.Rows L2 HT
section
variable {X : Cx} {pos p : Pos} {tg iter elt : Expr} {ifs : List Expr} {scope : Scope} {own : List (Str × Nat)} {is : List Nat} {g : TGQ} {tt : TQB} {te : TQ} {x : Str}
end
end Q
end P27
section P28
namespace Q
open PySem PySem.Spec PyProof.Rows L2 HT
section
variable {X : Cx} {a : Addr} {tab : List (Str × PyData)} {x : Str} {p pos : Pos} {e : Expr} {te : TQ}
end
end Q
end P28
section P29
namespace Q
open PySem PySem.Spec PyProof.Rows L2 HT
section
variable {X : Cx} {pos : Pos}
end
end Q
end P29
section P30
namespace Q
open PySem PySem.Spec PyProof.Rows L2 HT
def compL (g : TGQ) (tt : TQB) (tl : TQL) (vs : List Nat) : List PyData → List (List PyData) → En → (List (List PyData) → En → Prop) → Prop
  | [], acc, ρ, R => R acc ρ
  | x :: xs, acc, ρ, R => g x ρ fun ρ2 => tt ρ2 fun b ρ3 => if b = true then tl ρ3 fun ys ρ4 => compL g tt tl vs xs (acc ++ [ys]) (wipeQ ρ4 vs) R else compL g tt tl vs xs acc (wipeQ ρ3 vs) R
abbrev TQM := En → (List (List PyData) → En → Prop) → Prop
def tLcM (ti : TQL) (g : TGQ) (tt : TQB) (tl : TQL) (vs : List Nat) : TQM := fun ρ R => ti ρ fun ds ρ1 => noOwn ρ1 vs = true ∧ compL g tt tl vs ds [] (wipeQ ρ1 vs) fun out ρ2 => R out (rstQ vs ρ1 ρ2)
section
variable {X : Cx} {pos : Pos} {tg iter elt c : Expr}
variable {ifs : List Expr} {scope : Scope} {own : List (Str × Nat)} {ti : TQL} {is : List Nat} {g : TGQ} {tt : TQB} {tl : TQL}
end
section
variable {X : Cx} {pos : Pos} {a b : Expr} {tm : TQM} {te : TQ}
end
end Q
end P30
section P31
namespace Q
open PySem PySem.Spec PyProof.Rows L2 HT
section
variable {X : Cx} {pos p : Pos} {e : Expr} {te : TQ}
end
end Q
end P31
section P32
namespace Q
open PySem PySem.Spec PyProof.Rows L2 HT
section
variable {X : Cx} {pos p : Pos} {e : Expr} {te : TQ}
end
end Q
end P32
section P33
namespace Q
open PySem PySem.Spec PyProof.Rows L2 HT
theorem FzKV.len {K : PySem.W.Frag} {H : Hp} : ∀ {v : List (Key × V)} {d : List (Key × PyData)}, FzKV K H v d → v.length = d.length
  | _, _, .nil => rfl
  | _, _, .cons _ t => by rw [List.length_cons, List.length_cons, t.len]
section
variable {X : Cx} {pos p pos' : Pos} {x : Str}
end
end Q
end P33
section P34
namespace Q
open PySem PySem.Spec PyProof.Rows L2 HT
section
variable {X : Cx} {pos p : Pos} {e : Expr} {te : TQ}
end
end Q
end P34
section P35
namespace PySem
namespace QX
open PySem.W PySem.Calls PyProof.Rows PySem.HandSPX
/-- own classes, then Exception's mro -/
inductive RefsE : List Value → Prop
  | tail : RefsE [.type "Exception", .type "BaseException", .type "object"]
  | cons {c : Addr} {l : List Value} : RefsE l → RefsE (.ref c :: l)
theorem RefsE.ne : ∀ {l : List Value}, RefsE l → l.isEmpty = false
  | _, .tail => rfl
  | _, .cons t => rfl
section
open Builtin Builtin.ObjectAttr
variable {prog : Program} {w : World} {A : Around} {E : Value → Shared → Prop} {R : Result → Shared → Prop} {hp : Heap} {g : Array GenState} {d : Drawn} {t : Nat} {os : OsState}
end
section
variable {prog : Program} {w : World} {A : Around} {E : Value → Shared → Prop} {R : Result → Shared → Prop} {s : Shared} {K : Frag} {mg : Str → Option Value} {cx : Str} {C : Addr}
end
end QX
end PySem
namespace Q
open PySem PySem.Spec PyProof.Rows L2 HT PySem.QX
section
variable {X : Cx} {C : Addr} {cx : Str}
end
end Q
end P35
section P36
namespace Q
open PySem PySem.Spec PyProof.Rows L2 HT PySem.QX
/-- a promise of a def that may raise: its class and its thing -/
abbrev WQ := Value → PyData → En → Prop
abbrev XSpec := List Ar → (PyData → Prop) → (Value → PyData → Prop) → Prop
def upX (K : PySem.W.Frag) (dk : Dk) (H0 : Hp) (w : WQ) : WX := fun cls d σ H => ∃ ρ dd x v, Rel K dk H0 ρ σ H ∧ d = some dd ∧ H dd = some (.xd [(("thing" : Str), v)]) ∧ Fz K H v x ∧ w cls x ρ
def GoodX (K : PySem.W.Frag) (dk : Dk) (H : Hp) (E : Value → PyData → Prop) (EX : XK) : Prop := ∀ cls d x v H', E cls x → H' d = some (.xd [(("thing" : Str), v)]) → Fz K H' v x → Step dk H H' → EX cls (some d) H'
structure FnX (P : Program) (w : World) (K : PySem.W.Frag) (mg : Str → Option Value) (base : Heap) (k : Nat) (f : Addr) (fd : FuncData) (ps : List Str) (S : XSpec) : Prop where
  len : ∀ as R E, S as R E → as.length = ps.length
  run : ∀ (A : Around) (outer : List PySem.Env) (s : Shared) (H : Hp) (args : Args) (us : List Value) (vs : List V) (Q : VK) (EX : XK) (dk : Dk) (as : List Ar) (R : PyData → Prop) (E : Value → PyData → Prop), A.guards = some [] → Room k A → Env0 P w K mg base A outer s H → BindsTo s fd args (ps.zip us) → Vals vs us →
    ArsOk K dk H vs as → DkOk H dk.1 dk.2 → S as R E → (∀ x v H', R x → Fz K H' v x → Step dk H H' → Q v H') → GoodX K dk H E EX → codeAny (model P w) A (.call (.ref f) args) (CR (L2.CX P w) outer P w H s Q EX) s
/-- fixed dk and H0 -/
structure QSX (X : Cx) (dk : Dk) (H0 : Hp) (st : Stmt) (t : TQS) : Prop where
  run : PS X st (upS X.K dk H0 t)
structure QSsX (X : Cx) (dk : Dk) (H0 : Hp) (st : List Stmt) (t : TQS) : Prop where
  run : PSs X st (upS X.K dk H0 t)
structure QEX (X : Cx) (dk : Dk) (H0 : Hp) (e : Expr) (t : TQ) : Prop where
  run : PE X e (up X.K dk H0 t)
structure TkX (X : Cx) (dk : Dk) (H0 : Hp) (w : WQ) : Prop where
  tk : Takes X (upX X.K dk H0 w)
section
variable {X : Cx} {dk : Dk} {H0 : Hp} {w : WQ} {pos p pos2 : Pos} {st : Stmt} {rest body orelse : List Stmt} {e a b c : Expr} {es : List Expr} {te : TQ} {t u : TQS} {x : Str}
theorem QS.xx (h : QS X st t) : QSX X dk H0 st t := ⟨h.run dk H0⟩
theorem QSs.xx {st : List Stmt} (h : QSs X st t) : QSsX X dk H0 st t := ⟨h.run dk H0⟩
theorem QE.xx (h : QE X e te) : QEX X dk H0 e te := ⟨h.run dk H0⟩
variable {k : Nat} {f : Addr} {fd : FuncData} {ps : List Str} {S : XSpec} {ta tkw : TQA}
end
section
variable {P : Program} {w : World} {K : PySem.W.Frag} {mg : Str → Option Value} {base : Heap}
/-- the rule of a def that may raise -/
theorem FnX.of {x qual : Str} {st : Stmt} {f : Addr} {fd : FuncData} {N ps : List Str} {k : Nat} {S : XSpec} (F : Fun K x qual st f fd) (Sc : FnScope N ps (defScope st)) (len : ∀ as R E, S as R E → as.length = ps.length) {t : WQ → TQS}
    (hbody : ∀ (cdv : Value) (A : Around) (outer : List PySem.Env) (s : Shared) (H : Hp) (EX : XK) (dk : Dk) (w' : WQ), A.guards = some [] → Room k (A.deeper (envOfC qual (defScope st) s.heap.objs.size f cdv)) →
      TkX (cxOf (L2.CX P w) P w K mg base N qual (defScope st) f cdv A outer s H EX) dk H w' →
      QSsX (cxOf (L2.CX P w) P w K mg base N qual (defScope st) f cdv A outer s H EX) dk H (defBody st) (t w'))
    (hread : ∀ as R E, S as R E → t (fun cls x _ => E cls x) { nx := fun _ => R .none, rt := R } (enOf as (N.length - ps.length))) : FnX P w K mg base (k + 1) f fd ps S := by
  obtain ⟨oc, od, kV, doc, pm, an, cdv, ct, osl, rfl, lk, hcd⟩ := F.ex
  refine ⟨len, fun A outer s H args us vs Q EX dk as R E hG hr e0 hb r ok hd hS kk good => ?_⟩
  have hl : vs.length = ps.length := by rw [ok.length]; exact len _ _ _ hS
  have KX : K.In s.heap := e0.mod.kin.keeps fun b o e => (e0.bs b o e).1
  have lim : s.heap.NoLimit := e0.mod.nolimit.keeps fun b o e => (e0.bs b o e).1
  have hkind : ∀ y ∈ ps.zip us, (defScope st).names.lookup y.1 = some .local ∨ ((defScope st).names.lookup y.1 = some .cell ∧ ((cellsFrom (s.heap.objs.size + 1) (defScope st).names []).lookup y.1).isSome = true) := fun ⟨n, v⟩ hy => by
    rcases Sc.par n (List.of_mem_zip hy).1 with q | q
    · exact .inl q
    · exact .inr ⟨q, PySem.W.cellsFrom_some _ _ _ (.inl q)⟩
  refine codeAny_call_function hr.depth (KX _ _ lk) rfl Sc.co Sc.gen rfl (PySem.W.codeRec_of KX hcd) (hb _ _ _ _ ?_)
  refine wpAny_newFunctionEnv_cells Sc.kind hkind fun env he s1 x => ?_
  subst he
  refine ⟨lim.keeps x.toInCall.keep, codeAny_func ?_⟩
  have tk : TkX (cxOf (L2.CX P w) P w K mg base N qual (defScope st) f cdv A outer s H EX) dk H (fun cls x _ => E cls x) := by
    refine ⟨Takes.imp (takes_of rfl rfl rfl rfl) fun c d σ H' hw => ?_⟩
    obtain ⟨ρ, dd, x, v, rel, rfl, hdd, fz, hE⟩ := hw
    exact good c dd x v H' hE hdd fz rel.stp
  have ht := (hbody cdv A outer s H EX dk _ hG (hr.deeper _) tk).run
  have I : Inv (cxOf (L2.CX P w) P w K mg base N qual (defScope st) f cdv A outer s H EX) [] (L2.start N vs) H s1 := inv_start Sc hr.hd e0 hl r x
  have rs := rel_start (K := K) (N := N) ok hd
  rw [hl] at rs
  refine wpAny_mono (ht.run [] s1 (L2.start N vs) H { nx := fun _ H' => Q .non H', rt := Q } I ⟨_, _, rs, hread as R E hS, ⟨fun ρ' σ' H' hn rel _ => kk .none .non H' hn .non rel.stp, fun y v H' hy fz st => kk y v H' hy fz st, fun _ _ _ z => z.elim, fun _ _ _ z => z.elim⟩⟩) (fun fl s' hs => ?_) fun e s' hs => hs
  have fin : ∀ {σ' : L2.St} {H' : Hp} {v : V} {u : Value}, Inv (cxOf (L2.CX P w) P w K mg base N qual (defScope st) f cdv A outer s H EX) [] σ' H' s' → RelV v u → Q v H' → CE outer P w H s Q u s' :=
    fun {σ' H' v u} J rv q => ⟨v, H', J.os, J.bare, J.base, J.hok, rv, q⟩
  cases fl with
  | ret u =>
    obtain ⟨v, σ', H', J, rv, q⟩ := hs
    exact fin J rv q
  | next =>
    obtain ⟨σ', H', J, q⟩ := hs
    exact fin (v := V.non) (u := Value.none) J rfl q
  | brk =>
    obtain ⟨_, _, _, q⟩ := hs
    exact False.elim q
  | cont =>
    obtain ⟨_, _, _, q⟩ := hs
    exact False.elim q
end
end Q
end P36
section P37
namespace Q
open PySem PySem.Spec PyProof.Rows L2 HT PySem.QX
section
variable {X : Cx} {pos pos' np : Pos} {x n : Str} {c : Value} {i : Nat} {body suite : List Stmt} {b₀ : Stmt} {tb : WQ → TQS} {ts : Addr → Value → Addr → TQS} {e : Expr}
end
end Q
end P37
section P38
namespace Q
open PySem PySem.Spec PyProof.Rows L2 HT
def valT (kvs : List (List Int × PyData)) (k : List Int) : Option PyData := (kvs.find? fun kv => decide (kv.1 = k)).map (·.2)
def putT (kvs : List (List Int × PyData)) (k : List Int) (v : PyData) : List (List Int × PyData) :=
  if (kvs.any fun kv => decide (kv.1 = k)) = true then kvs.map (fun kv => if kv.1 = k then (kv.1, v) else kv) else kvs ++ [(k, v)]
abbrev ik (k : List Int) : List Key := k.map Sum.inl
theorem ik_inj {a b : List Int} : ik a = ik b ↔ a = b := by
  refine ⟨fun h => ?_, fun h => by rw [h]⟩
  unfold ik at h
  exact (List.map_inj_right (fun x y e => by cases e; rfl)).mp h
theorem ik_dec (a b : List Int) : decide (ik a = ik b) = decide (a = b) := by
  by_cases e : a = b
  · simp [e]
  · rw [decide_eq_false e, decide_eq_false fun z => e (ik_inj.mp z)]
section
variable {K : PySem.W.Frag} {H : Hp}
theorem FzKT.nil : FzKT K H [] [] := ⟨rfl, .nil⟩
theorem FzKT.cons {k : List Int} {v : V} {d : PyData} {ws : List (List Key × V)} {kvs : List (List Int × PyData)} (f : Fz K H v d) (t : FzKT K H ws kvs) : FzKT K H ((ik k, v) :: ws) ((k, d) :: kvs) := ⟨by simp only [List.map_cons, t.1], .cons f t.2⟩
theorem FzKT.split {k : List Int} {d : PyData} {ws : List (List Key × V)} {kvs : List (List Int × PyData)} (h : FzKT K H ws ((k, d) :: kvs)) : ∃ v wt, ws = (ik k, v) :: wt ∧ Fz K H v d ∧ FzKT K H wt kvs := by
  obtain ⟨h1, h2⟩ := h
  cases ws with
  | nil => simp at h1
  | cons w wt =>
    obtain ⟨a, v⟩ := w
    simp only [List.map_cons, List.cons.injEq] at h1 h2
    obtain ⟨e1, e2⟩ := h1
    cases h2 with
    | cons f t =>
      exact ⟨v, wt, by rw [e1], f, e2, t⟩
theorem FzKT.empty {ws : List (List Key × V)} (h : FzKT K H ws []) : ws = [] := by
  have := h.1
  simpa using this
theorem FzKT.length {ws : List (List Key × V)} {kvs : List (List Int × PyData)} (h : FzKT K H ws kvs) : ws.length = kvs.length := by
  have := congrArg List.length h.1
  simpa using this
theorem FzKT.val {k : List Int} : ∀ {kvs : List (List Int × PyData)} {ws : List (List Key × V)}, FzKT K H ws kvs → (valV ws (ik k) = none ∧ valT kvs k = none) ∨ ∃ v x, valV ws (ik k) = some v ∧ valT kvs k = some x ∧ Fz K H v x
  | [], ws, h => by rw [h.empty]; exact .inl ⟨rfl, rfl⟩
  | (k', d) :: kvs, ws, h => by
    obtain ⟨v, wt, rfl, f, t⟩ := h.split
    by_cases e : k' = k
    · subst e
      refine .inr ⟨v, d, ?_, ?_, f⟩
      · simp [valV, List.find?_cons]
      · simp [valT, List.find?_cons]
    · have e' : ¬ ik k' = ik k := fun z => e (ik_inj.mp z)
      rcases FzKT.val (k := k) t with ⟨q1, q2⟩ | ⟨w, y, q1, q2, q3⟩
      · refine .inl ⟨?_, ?_⟩
        · rw [← q1]; simp only [valV, List.find?_cons, decide_eq_false e']
        · rw [← q2]; simp only [valT, List.find?_cons, decide_eq_false e]
      · refine .inr ⟨w, y, ?_, ?_, q3⟩
        · rw [← q1]; simp only [valV, List.find?_cons, decide_eq_false e']
        · rw [← q2]; simp only [valT, List.find?_cons, decide_eq_false e]
theorem FzKT.any {k : List Int} : ∀ {kvs : List (List Int × PyData)} {ws : List (List Key × V)}, FzKT K H ws kvs → (ws.any fun kv => decide (kv.1 = ik k)) = (kvs.any fun kv => decide (kv.1 = k))
  | [], ws, h => by rw [h.empty]; rfl
  | (k', d) :: kvs, ws, h => by
    obtain ⟨v, wt, rfl, f, t⟩ := h.split
    rw [List.any_cons, List.any_cons, FzKT.any t, ik_dec]
theorem FzKT.append : ∀ {kvs kvs' : List (List Int × PyData)} {ws ws' : List (List Key × V)}, FzKT K H ws kvs → FzKT K H ws' kvs' → FzKT K H (ws ++ ws') (kvs ++ kvs')
  | [], _, ws, _, h, s => by rw [h.empty]; exact s
  | (k', d) :: kvs, _, ws, _, h, s => by
    obtain ⟨v, wt, rfl, f, t⟩ := h.split
    exact .cons f (FzKT.append t s)
theorem FzKT.upd {k : List Int} {v : V} {x : PyData} (f : Fz K H v x) : ∀ {kvs : List (List Int × PyData)} {ws : List (List Key × V)}, FzKT K H ws kvs → FzKT K H (ws.map fun kv => if kv.1 = ik k then (kv.1, v) else kv) (kvs.map fun kv => if kv.1 = k then (kv.1, x) else kv)
  | [], ws, h => by rw [h.empty]; exact .nil
  | (k', d) :: kvs, ws, h => by
    obtain ⟨u, wt, rfl, g, t⟩ := h.split
    rw [List.map_cons, List.map_cons]
    by_cases e : k' = k
    · have e' : ik k' = ik k := by rw [e]
      simp only [e, e', if_true]
      exact .cons f (FzKT.upd f t)
    · have e' : ¬ ik k' = ik k := fun z => e (ik_inj.mp z)
      simp only [e, e', if_false]
      exact .cons g (FzKT.upd f t)
theorem FzKT.put {k : List Int} {v : V} {x : PyData} (f : Fz K H v x) {ws : List (List Key × V)} {kvs : List (List Int × PyData)} (h : FzKT K H ws kvs) : FzKT K H (putK ws (ik k) v) (putT kvs k x) := by
  unfold putK putT
  rw [h.any]
  split
  · exact h.upd f
  · exact h.append (.cons f .nil)
end
section
variable {X : Cx} {pos p : Pos} {e a b : Expr} {es : List Expr} {te ta tb tk : TQ} {x : Str} {tg : Expr}
end
end Q
end P38
section P39
namespace Q
open PySem PySem.Spec PyProof.Rows L2 HT
section
variable {K : PySem.W.Frag} {dk : Dk} {H0 H H' : Hp} {ρ : En} {σ : L2.St}
theorem PsOk.same (sm : Same H H') : ∀ {vs : List V} {ss : List Sl}, PsOk K dk H0 H ρ σ vs ss → PsOk K dk H0 H' ρ σ vs ss
  | _, _, .nil => .nil
  | _, _, .cons h1 h2 t hf => .cons (h1.ex (ex_same sm) fun a o _ _ e => sm _ _ e) h2 (PsOk.same sm t) hf
theorem PsOk.length : ∀ {vs : List V} {ss : List Sl}, PsOk K dk H0 H ρ σ vs ss → vs.length = ss.length
  | _, _, .nil => rfl
  | _, _, .cons _ _ t _ => by rw [List.length_cons, List.length_cons, t.length]
end
section
variable {X : Cx} {pos : Pos} {a b e : Expr} {es tgs : List Expr} {ta tb te : TQ}
end
section
variable {X : Cx} {pos : Pos} {e : Expr} {te : TQ}
end
def tx (w : List Nat) : Str := ⟨w.toArray⟩
def sg (c : Nat) : Str := ⟨#[c]⟩
section
open Builtin.Str
end
end Q
end P39
section P40
namespace Q
open PySem PySem.Spec PyProof.Rows L2 HT
section
variable {X : Cx} {pos : Pos} {a b e : Expr} {te : TQ}
end
def prQ : List (TQ × TQ) → En → (List (Key × PyData) → En → Prop) → Prop
  | [], ρ, R => R [] ρ
  | (tk, tv) :: ts, ρ, R => tk ρ fun k ρ1 => tv ρ1 fun v ρ2 => match keyD k with
    | some κ => prQ ts ρ2 fun kvs ρ3 => R ((κ, v) :: kvs) ρ3
    | none => False
structure QPP (X : Cx) (pos : Pos) (keys : List (Option Expr)) (values : List Expr) (ts : List (TQ × TQ)) : Prop where
  run : ∀ dk, PPs X pos keys values (ts.map fun p => (exE X.K dk p.1, exE X.K dk p.2))
section
variable {X : Cx} {pos : Pos} {k v : Expr} {keys : List (Option Expr)} {values : List Expr} {ts : List (TQ × TQ)} {tk tv : TQ}
theorem qpp_nil : QPP X pos [] [] [] := ⟨fun dk => pps_nil⟩
theorem qpp_cons (hk : QE X k tk) (hv : QE X v tv) (h : QPP X pos keys values ts) : QPP X pos (some k :: keys) (v :: values) ((tk, tv) :: ts) :=
  ⟨fun dk => pps_cons ⟨fun pins s σ H Q I ⟨H1, q⟩ => (hk.run dk H1).run pins s σ H Q I q⟩ ⟨fun pins s σ H Q I ⟨H1, q⟩ => (hv.run dk H1).run pins s σ H Q I q⟩ (h.run dk)⟩
theorem key_of {K : PySem.W.Frag} {H : Hp} {w : V} {x : PyData} {κ : Key} (h : keyD x = some κ) (f : Fz K H w x) : w = kV κ := by
  cases f <;> simp only [keyD, Option.some.injEq, reduceCtorEq] at h
  · subst h; rfl
  · subst h; rfl
theorem pr_read {dk : Dk} {H0 : Hp} : ∀ {ts : List (TQ × TQ)} {ρ : En} {σ : L2.St} {H : Hp} {Rr : List (Key × PyData) → En → Prop} {Q : List (V × V) → Hp → Prop}, Rel X.K dk H0 ρ σ H → prQ ts ρ Rr →
    (∀ kvs ws ρ' H', Rr kvs ρ' → FzKV X.K H' ws kvs → Rel X.K dk H0 ρ' σ H' → Ex H H' → Q (ws.map fun kv => (kV kv.1, kv.2)) H') → tPairs (ts.map fun p => (exE X.K dk p.1, exE X.K dk p.2)) σ H Q
  | [], ρ, σ, H, Rr, Q, rel, h, k => k [] [] ρ H h .nil rel (Ex.refl H)
  | (tk, tv) :: ts, ρ, σ, H, Rr, Q, rel, h, k => by
    refine ⟨H0, ρ, _, rel, h, fun x ρ1 v H1 hx fz rel1 ex1 => ⟨H0, ρ1, _, rel1, hx, fun y ρ2 u H2 hy fz2 rel2 ex2 => ?_⟩⟩
    cases e : keyD x with
    | none => rw [e] at hy; exact hy.elim
    | some κ =>
      rw [e] at hy
      have ev := key_of e fz
      subst ev
      exact pr_read rel2 hy fun kvs ws ρ' H' hr fk rel' ex' => k ((κ, y) :: kvs) ((κ, u) :: ws) ρ' H' hr (.cons (fz2.mono ex') fk) rel' (ex1.trans (ex2.trans ex'))
theorem fzkv_len {K : PySem.W.Frag} {H : Hp} : ∀ {ws : List (Key × V)} {kvs : List (Key × PyData)}, FzKV K H ws kvs → ws.length = kvs.length
  | _, _, .nil => rfl
  | _, _, .cons _ t => by rw [List.length_cons, List.length_cons, fzkv_len t]
end
end Q
end P40
section P41
namespace Q
open PySem PySem.Spec PyProof.Rows L2 HT
def dn (hi : Int) (n : Nat) : List PyData := (List.range n).map fun (i : Nat) => .int (hi - (i : Int))
theorem dn_length (hi : Int) (n : Nat) : (dn hi n).length = n := by simp [dn]
theorem wd_down {K : PySem.W.Frag} {hi : Int} {n : Nat} : WalkD K (Itc hi (-1) n) (dn hi n) (fun _ => True) := by
  refine ⟨fun i H h _ => by rw [dn_length] at h; exact h, fun H _ => by show n ≤ _; rw [dn_length]; exact Nat.le_refl _, fun i H x H' h _ y => ?_, fun _ _ _ _ => True.intro⟩
  obtain ⟨rfl, rfl⟩ := y
  rw [dn_length] at h
  have e : hi + (i : Nat) * (-1) = hi - (i : Int) := by omega
  exact ⟨.int (hi - i), by simp [dn, h], by rw [e]; exact .int _, Same.refl _⟩
section
variable {X : Cx} {pos : Pos} {tg e a b c : Expr} {te ta tb tc : TQ}
def rg3 (ta tb tc : TQ) : TQL := fun ρ R => ta ρ fun x ρ1 => tb ρ1 fun y ρ2 => tc ρ2 fun z ρ3 => match x, y, z with
  | .int i, .int j, .int k => k = -1 ∧ -1000000 ≤ i ∧ i ≤ 1000000 ∧ -1000000 ≤ j ∧ j ≤ 1000000 ∧ R (dn i (i - j).toNat) ρ3
  | _, _, _ => False
theorem qi_range3 {p : Pos} (hg : Gl X "range") (hm : X.mg "range" = none) (ha : QE X a ta) (hb : QE X b tb) (hc : QE X c tc) (hs : starEach [a, b, c] X.env = (false, eval a X.env) :: starEach [b, c] X.env := by rfl)
    (hs2 : starEach [b, c] X.env = (false, eval b X.env) :: starEach [c] X.env := by rfl) (hs3 : starEach [c] X.env = [(false, eval c X.env)] := by rfl) (hpl : (backTo pos (starEach [b, c] X.env)).any (·.1) = false := by rfl) :
    QI X tg (.Call (.Name "range" p) [a, b, c] [] pos) (rg3 ta tb tc) :=
  ⟨fun dk H0 => PI.imp (pi_range3 hg hm ((qd_cons ha (qd_cons hb (qd_cons hc qd_nil hs3) (by rw [hs2, hs3])) (by rw [hs, hs2, hs3])).run dk H0) hs hpl) fun σ H R ⟨ρ, R0, rel, h, k⟩ =>
    ⟨ρ, fun xs ρ1 => ∃ i j : Int, xs = [.int i, .int j, .int (-1)] ∧ -1000000 ≤ i ∧ i ≤ 1000000 ∧ -1000000 ≤ j ∧ j ≤ 1000000 ∧ R0 (dn i (i - j).toNat) ρ1, rel, by
      have h : ta ρ _ := h
      refine Eq.mp (congrArg (ta ρ) ?_) h
      funext x ρ1
      show tb ρ1 _ = tb ρ1 _
      refine congrArg (tb ρ1) ?_
      funext y ρ2
      show tc ρ2 _ = tc ρ2 _
      refine congrArg (tc ρ2) ?_
      funext z ρ3
      apply propext
      constructor
      · intro q
        cases x <;> cases y <;> cases z <;> first | exact q.elim | exact ⟨_, _, by rw [q.1], q.2⟩
      · rintro ⟨i, j, e, q⟩
        cases e
        exact ⟨rfl, q⟩, fun xs ρ' vs H' hx fz rel1 ex1 => by
      obtain ⟨i, j, rfl, h1, h2, h3, h4, hr⟩ := hx
      cases fz with
      | cons fa fb =>
        cases fb with
        | cons fb fc =>
          cases fc with
          | cons fc fd =>
            cases fd
            cases fa
            cases fb
            cases fc
            exact ⟨i, j, -1, _, rfl, RgC.neg (by omega) (by omega) (by omega) (by omega), k _ ρ' _ _ H' hr (by rw [dn_length]; exact size_mil (by omega)) wd_down True.intro rel1 ex1⟩⟩⟩
end
end Q
end P41
section P42
namespace Q
open PySem PySem.Spec PyProof.Rows L2 HT
section
variable {X : Cx} {pins : List (Addr × Obj)} {σ : L2.St} {H : Hp} {s : Shared} {a b : Addr} {r : Value} {d : V} {k : List Key} {A : Around} {E : Value → Shared → Prop}
end
section
variable {X : Cx} {o e f : Expr} {td ty tx : TE} {apos cpos : Pos}
end
section
variable {X : Cx} {pos p : Pos} {e a b : Expr} {es : List Expr} {te ta tb tk : TQ} {x y : Str} {tg : Expr}
end
theorem Rel.drop {K : PySem.W.Frag} {dk : Dk} {H0 H H' : Hp} {ρ : En} {σ : L2.St} {j : Nat} {s0 s' : Sl} (r : Rel K dk H0 ρ σ H) (e : ρ[j]? = some s0) (hE : Ex H H') (hs : ∀ c, ¬ OwnAt ρ σ j c → H' c = H c) (ns : s'.isOwn = false) (ok : SlOk K dk H0 H' σ[j]? s') :
    Rel K dk H0 (ρ.set j s') σ H' := by
  have jl : j < ρ.length := (List.getElem?_eq_some_iff.mp e).1
  have back : ∀ {i a}, OwnAt (ρ.set j s') σ i a → OwnAt ρ σ i a ∧ i ≠ j := by
    rintro i a ⟨t, e1, w1, w2⟩
    by_cases hj : j = i
    · subst hj
      rw [List.getElem?_set_self jl] at e1
      cases e1
      rw [ns] at w1; cases w1
    · rw [List.getElem?_set_ne hj] at e1
      exact ⟨⟨t, e1, w1, w2⟩, fun z => hj z.symm⟩
  refine ⟨by rw [List.length_set]; exact r.len, fun i t e1 => ?_, fun i k a h1 h2 => r.ap i k a (back h1).1 (back h2).1, ?_, r.dk1, r.dk2, fun a o h0 n1 n2 => ?_⟩
  · by_cases hj : j = i
    · subst hj
      rw [List.getElem?_set_self jl] at e1
      cases e1
      exact ok
    · rw [List.getElem?_set_ne hj] at e1
      refine (r.sl i t e1).ex hE fun a o w1 w2 w3 => ?_
      rw [hs a fun z => hj (r.ap j i a z ⟨t, e1, w1, w2⟩)]; exact w3
  · obtain ⟨n, cs, m, k, g1, g2, g3⟩ := r.dok
    refine ⟨n, cs, m, k, ?_, ?_, g3⟩
    · rw [hs _ (r.dkNot.1 j)]; exact g1
    · rw [hs _ (r.dkNot.2 j)]; exact g2
  · rw [hs a fun z => by rw [r.own0 z] at h0; cases h0]
    exact r.keep a o h0 n1 n2
theorem EndsOk.from {K : PySem.W.Frag} {dk : Dk} {H0 H H' : Hp} {R : EndsQ} {D : Ends} (k : EndsOk K dk H0 H R D) (ex : Ex H H') : EndsOk K dk H0 H' R D :=
  ⟨fun ρ σ H1 h r e => k.nx ρ σ H1 h r (ex.trans e), k.rt, fun ρ σ H1 h r e => k.bk ρ σ H1 h r (ex.trans e), fun ρ σ H1 h r e => k.ct ρ σ H1 h r (ex.trans e)⟩
section
variable {X : Cx} {pos p cp : Pos} {x : Str}
end
end Q
end P42
section P43
namespace Q
open PySem PySem.Spec PyProof.Rows L2 HT
section
variable {X : Cx} {pos : Pos} {a b : Expr} {ta tb : TQ}
end
end Q
end P43
section P44
namespace Q
open PySem PySem.Spec PyProof.Rows L2 HT
section
variable {α : Type} {g : TGQ} {tt : TQB} {te : TQ} {vs : List Nat} {ρ0 : En} {R : List PyData → En → Prop}
theorem comp_mapA (G F : α → PyData) : ∀ (l : List α) (acc : List PyData), (∀ x, x ∈ l → ∀ Rk : PyData → En → Prop, (∀ ρ4, wipeQ ρ4 vs = ρ0 → Rk (F x) ρ4) → g (G x) ρ0 fun ρ2 => te ρ2 Rk) →
    R (acc ++ l.map F) ρ0 → compQ g tY te vs (l.map G) acc ρ0 R
  | [], acc, _, hR => by
    rw [List.map_nil, List.append_nil] at hR
    exact hR
  | x :: l, acc, h, hR => by
    rw [List.map_cons]
    unfold compQ
    simp only [tY, if_true]
    refine h x (by simp) _ fun ρ4 hw => ?_
    rw [hw]
    exact comp_mapA G F l _ (fun y hy => h y (by simp [hy])) (by rw [List.append_assoc]; exact hR)
theorem comp_mapG (G F : α → PyData) {l : List α} (h : ∀ x, x ∈ l → ∀ Rk : PyData → En → Prop, (∀ ρ4, wipeQ ρ4 vs = ρ0 → Rk (F x) ρ4) → g (G x) ρ0 fun ρ2 => te ρ2 Rk) (hR : R (l.map F) ρ0) :
    compQ g tY te vs (l.map G) [] ρ0 R := comp_mapA G F l [] h hR
end
/-- of a def nothing is promised where nothing is asked -/
theorem FnG.none {P : Program} {w : World} {K : PySem.W.Frag} {mg : Str → Option Value} {base : Heap} {k : Nat} {f : Addr} {fd : FuncData} {ps : List Str} {S : PSpec} (h : ∀ as R, S as R → False) : FnG P w K mg base k f fd ps S :=
  ⟨fun as R x => (h as R x).elim, fun _ _ _ _ _ _ _ _ _ as R _ _ _ _ _ _ _ x _ => (h as R x).elim⟩
/-- a loop with an invariant: I i, what holds of the environment ahead of the item at place i -/
theorem for_invA {α : Type} {g : TGQ} {tb : TQS} {E : EndsQ} (G : α → PyData) (I : Nat → En → Prop) : ∀ (l : List α) (i : Nat), (∀ (j : Nat) (x : α), l[j]? = some x → ∀ ρ, I (i + j) ρ → ∀ E' : EndsQ, (∀ ρ', I (i + j + 1) ρ' → E'.nx ρ') → E'.rt = E.rt → E'.bk = E.nx → E'.ct = E'.nx → g (G x) ρ fun ρ1 => tb E' ρ1) →
    (∀ ρ, I (i + l.length) ρ → E.nx ρ) → ∀ ρ, I i ρ → forQ g tb E (l.map G) ρ
  | [], i, _, he, ρ, h => he ρ h
  | x :: l, i, st, he, ρ, h => by
    rw [List.map_cons]
    unfold forQ
    refine st 0 x rfl ρ h _ (fun ρ' h' => ?_) rfl rfl rfl
    refine for_invA G I l (i + 1) (fun j y hy ρ2 h2 => ?_) (fun ρ2 h2 => he ρ2 ?_) ρ' h'
    · have := st (j + 1) y (by simpa using hy) ρ2
      rw [show i + (j + 1) = i + 1 + j by omega] at this
      exact this h2
    · rw [List.length_cons, show i + (l.length + 1) = i + 1 + l.length by omega]; exact h2
theorem for_inv {α : Type} {g : TGQ} {tb : TQS} {E : EndsQ} (G : α → PyData) (I : Nat → En → Prop) {l : List α} (st : ∀ (j : Nat) (x : α), l[j]? = some x → ∀ ρ, I j ρ → ∀ E' : EndsQ, (∀ ρ', I (j + 1) ρ' → E'.nx ρ') → E'.rt = E.rt → E'.bk = E.nx → E'.ct = E'.nx → g (G x) ρ fun ρ1 => tb E' ρ1)
    (he : ∀ ρ, I l.length ρ → E.nx ρ) {ρ : En} (h : I 0 ρ) : forQ g tb E (l.map G) ρ :=
  for_invA G I l 0 (fun j x hx ρ2 h2 => by
    have := st j x hx ρ2
    rw [Nat.zero_add] at h2 ⊢
    exact this h2) (fun ρ2 h2 => he ρ2 (by rw [Nat.zero_add] at h2; exact h2)) ρ h
end Q
end P44
section P45
namespace Q
open PySem PySem.Spec PyProof.Rows L2 HT
section
variable {X : Cx} {pos p : Pos} {e a b : Expr} {es : List Expr} {te ta tb tk tx : TQ} {x : Str} {tg : Expr} {keys : List (Option Expr)} {values : List Expr} {ts : List (TQ × TQ)}
end
end Q
end P45
section P46
namespace Q
open PySem PySem.Spec PyProof.Rows L2 HT
def Draws (P : Program) (w : World) (i : Addr) (I : Heap → Prop) (x : Value) (J : Heap → Prop) : Prop :=
  ∀ (A : Around) (E : Value → Shared → Prop) (s : Shared) (R : Value → Shared → Prop), I s.heap → (∀ h, J h → Heap.SameBut i s.heap h → R x { s with heap := h }) →
    wpAny (model P w) A (Builtin.SmallTypes.nextOf (.ref i)) R E s
section
variable {P : Program} {w : World} {A : Around} {E : Value → Shared → Prop} {s : Shared} {z p t i j : Addr} {x y a b : Value} {I I' J J' : Heap → Prop}
end
def itZm (x y : PyData) (R : List PyData → Prop) : Prop := match x, y with
  | .tuple ds, .list es => ds.length ≤ 1000000 ∧ R (zipD ds es)
  | _, _ => False
def iZipM (ta tb : TQ) : TQL := fun ρ R => ta ρ fun x ρ1 => tb ρ1 fun y ρ2 => itZm x y fun ds => R ds ρ2
end Q
end P46
section P47
namespace Q
open PySem PySem.Spec PyProof.Rows L2 HT
section
variable {X : Cx} {pos p : Pos} {tg iter elt e c : Expr} {ifs : List Expr} {scope : Scope} {own : List (Str × Nat)} {ti : TQL} {is : List Nat} {g : TGQ} {tt : TQB} {tl : TQL} {te tc : TQ} {x y : Str}
/-- x = [[..] for ..] -/
def sSetM (i : Nat) (tm : TQM) : TQS := fun R ρ => tm ρ fun xss ρ1 => ∀ bs : List Addr, bs.length = xss.length → bs.Nodup → R.nx (ρ1.set i (.own2 bs xss))
/-- y = x[e], the list itself -/
def sAl2 (i j : Nat) (te : TQ) : TQS := fun R ρ => own2L ρ[j]? = true ∧ te ρ fun z ρ1 => ∃ bs xss k n b, ρ1[j]? = some (.own2 bs xss) ∧ z = .int k ∧ ixN bs.length k = some n ∧ bs[n]? = some b ∧ R.nx (ρ1.set i (.d (alD b)))
/-- y.append(e), y a list of x -/
def tAlApp2 (i j : Nat) (te : TQ) : TQ := fun ρ R => ∃ (b : Addr) (bs : List Addr) (xss : List (List PyData)) (l : Nat), ρ[i]? = some (.d (alD b)) ∧ ρ[j]? = some (.own2 bs xss) ∧ bs[l]? = some b ∧
  te ρ fun v ρ1 => ρ1[j]? = some (.own2 bs xss) ∧ (xss.getD l []).length ≤ 1000000 ∧ R .none (ρ1.set j (.own2 bs (xss.set l (xss.getD l [] ++ [v]))))
end
/-- st, the list of own lists of slot j frozen ahead -/
def sFrz2 (j : Nat) (t : TQS) : TQS := fun R ρ => ∃ bs xss, ρ[j]? = some (.own2 bs xss) ∧ t R (ρ.set j (.d (.list (xss.map .list))))
end Q
end P47
section P48
namespace Q
open PySem PySem.Spec PyProof.Rows L2 HT
theorem Rel.freezeD {K : PySem.W.Frag} {dk : Dk} {H0 H : Hp} {ρ : En} {σ : L2.St} {p : Addr} {vs : List (Key × V)} {o : HO} (r : Rel K dk H0 ρ σ H) (h : H p = some (.dK vs)) (n0 : H0 p = none) (no : ∀ j, ¬ OwnAt ρ σ j p) : Rel K dk H0 ρ σ (upd H p o) ∧ Ex H (upd H p o) := by
  have ex : Ex H (upd H p o) := ex_own h (.inr (.inl ⟨_, rfl⟩))
  refine ⟨⟨r.len, fun i s e => (r.sl i s e).ex ex fun a ob w1 w2 w3 => ?_, r.ap, ?_, r.dk1, r.dk2, fun a ob e h1 h2 => ?_⟩, ex⟩
  · rw [upd_ne]; exact w3
    rintro rfl
    exact no i ⟨s, e, w1, w2⟩
  · obtain ⟨n, cs, m, k, g1, g2, g3⟩ := r.dok
    refine ⟨n, cs, m, k, ?_, ?_, g3⟩
    · rw [upd_ne]; exact g1
      rintro rfl; exact r.dk1 n0
    · rw [upd_ne]; exact g2
      rintro rfl; exact r.dk2 n0
  · rw [upd_ne]; exact r.keep a ob e h1 h2
    rintro rfl; rw [n0] at e; cases e
abbrev TQK := En → (List PyData → List PyData → En → Prop) → Prop
def upKd (k1 k2 : Int) (K : PySem.W.Frag) (dk : Dk) (H0 : Hp) (t : TQK) : TE := fun σ H Q => ∃ ρ R, Rel K dk H0 ρ σ H ∧ t ρ R ∧ ∀ xs ys b1 b2 ρ' a H', R xs ys ρ' → H' a = some (.dK (odkW [.inl k1, .inl k2] [b1, b2])) → a ∉ [b1, b2] → [b1, b2].Nodup → Inn K H0 H' [b1, b2] [xs, ys] → H0 a = none →
  (∀ c, c = a ∨ c ∈ [b1, b2] → ∀ j, ¬ OwnAt ρ' σ j c) → Rel K dk H0 ρ' σ H' → Ex H H' → Q (.ref a) H'
structure QKd (X : Cx) (k1 k2 : Int) (e : Expr) (t : TQK) : Prop where
  run : ∀ dk H0, PE X e (upKd k1 k2 X.K dk H0 t)
def tDisp2 (k1 k2 : Int) (tk1 : TQ) (t1 : TQL) (tk2 : TQ) (t2 : TQL) : TQK := fun ρ R => tk1 ρ fun x ρ1 => x = .int k1 ∧ t1 ρ1 fun xs ρ2 => tk2 ρ2 fun y ρ3 => y = .int k2 ∧ t2 ρ3 fun ys ρ4 => R xs ys ρ4
section
variable {X : Cx} {pos dpos p : Pos} {ke1 ke2 e1 e2 a b c e f : Expr} {tk1 tk2 te ta tb : TQ} {t1 t2 tl : TQL} {k1 k2 : Int} {x : Str} {tm : TQK}
theorem qk_disp2 (hk1 : QE X ke1 tk1) (h1 : QL X e1 t1) (hk2 : QE X ke2 tk2) (h2 : QL X e2 t2) (ne : (decide (k1 = k2)) = false := by decide) : QKd X k1 k2 (.Dict [some ke1, some ke2] [e1, e2] dpos) (tDisp2 k1 k2 tk1 t1 tk2 t2) := by
  refine ⟨fun dk H0 => ⟨fun pins s σ H Q I ⟨ρ, R, rel, h, k⟩ => ?_⟩⟩
  have a1 : PE X ke1 (fun σ H Q => ∃ B, up X.K dk B tk1 σ H Q) := ⟨fun pins s σ H Q I ⟨B, q⟩ => (hk1.run dk B).run pins s σ H Q I q⟩
  have a2 : PE X e1 (fun σ H Q => ∃ B, upL X.K dk B t1 σ H Q) := ⟨fun pins s σ H Q I ⟨B, q⟩ => (h1.run dk B).run pins s σ H Q I q⟩
  have a3 : PE X ke2 (fun σ H Q => ∃ B, up X.K dk B tk2 σ H Q) := ⟨fun pins s σ H Q I ⟨B, q⟩ => (hk2.run dk B).run pins s σ H Q I q⟩
  have a4 : PE X e2 (fun σ H Q => ∃ B, upL X.K dk B t2 σ H Q) := ⟨fun pins s σ H Q I ⟨B, q⟩ => (h2.run dk B).run pins s σ H Q I q⟩
  refine (pe_disp (pps_cons a1 a2 (pps_cons a3 a4 pps_nil)) rfl rfl (by simp) (by show 2 ≤ 15; decide)).run pins s σ H Q I fun p hpn => ?_
  have sm := same_upd (o := .dK []) hpn
  have rel1 := rel.same sm
  have p0 : H0 p = none := rel.fresh0 hpn
  have nop : ∀ j, ¬ OwnAt ρ σ j p := rel.freshOwn hpn
  have dn : ∀ {q : Addr}, H0 q = none → q ≠ dk.1 ∧ q ≠ dk.2 := fun n => ⟨fun z => rel.dk1 (by rw [← z]; exact n), fun z => rel.dk2 (by rw [← z]; exact n)⟩
  refine ⟨reb ρ σ (upd H p (.dK [])), ρ, _, rel1.reb, h, fun x ρ1 u Ha hx fzx ra exa => ⟨reb ρ σ (upd H p (.dK [])), ρ1, _, ra, hx.2, fun xs ρ2 q1 vs Hb hxs eq1 fq1 n1 no1 rb exb => ?_⟩⟩
  have hx1 := hx.1
  subst hx1
  cases fzx
  obtain ⟨ep, nop2⟩ := rel1.flight rb (a := p) (o := .dK []) upd_same nop (dn p0).1 (dn p0).2
  have rb' := rel1.back rb
  have q10 : H0 q1 = none := by
    by_cases h : ∃ j, OwnAt ρ σ j q1
    · obtain ⟨j, h⟩ := h
      exact rel1.own0 h
    · rw [reb_not fun j z => h ⟨j, z⟩] at n1; exact rel1.fresh0 n1
  have pq1 : q1 ≠ p := fun z => by
    rw [z, reb_not nop] at n1
    rw [upd_same] at n1; cases n1
  refine ⟨reb ρ2 σ Hb, ρ2, _, rb'.reb, hxs, fun y ρ3 u2 Hc hy fzy rc exc => ⟨reb ρ2 σ Hb, ρ3, _, rc, hy.2, fun ys ρ4 q2 ws Hd hys eq2 fq2 n2 no2 rd exd => ?_⟩⟩
  have hy1 := hy.1
  subst hy1
  cases fzy
  obtain ⟨ep2, nop4⟩ := rb'.flight rd (a := p) ep nop2 (dn p0).1 (dn p0).2
  obtain ⟨eq12, noq4⟩ := rb'.flight rd (a := q1) eq1 no1 (dn q10).1 (dn q10).2
  have rd' := rb'.back rd
  have q20 : H0 q2 = none := by
    by_cases h : ∃ j, OwnAt ρ2 σ j q2
    · obtain ⟨j, h⟩ := h
      exact rb'.own0 h
    · rw [reb_not fun j z => h ⟨j, z⟩] at n2; exact rb'.fresh0 n2
  have pq2 : q2 ≠ p := fun z => by
    rw [z, reb_not nop2, ep] at n2; cases n2
  have q12 : q2 ≠ q1 := fun z => by
    rw [z, reb_not no1, eq1] at n2; cases n2
  have em : mergeK [] [((.inl k1 : Key), V.ref q1), (.inl k2, V.ref q2)] = odkW [.inl k1, .inl k2] [q1, q2] := by
    have ne' : ¬ k1 = k2 := of_decide_eq_false ne
    simp [mergeK, putK, odkW, ne']
  refine ⟨ep2, [((.inl k1 : Key), V.ref q1), (.inl k2, V.ref q2)], rfl, by show 2 ≤ 15; decide, ?_⟩
  rw [em]
  obtain ⟨rel2, ex2⟩ := rd'.freezeD (o := .dK (odkW [.inl k1, .inl k2] [q1, q2])) ep2 p0 nop4
  have exx := (ex_same sm).trans (exa.trans (exb.trans (exc.trans exd)))
  refine k xs ys q1 q2 ρ4 p _ hys upd_same (by simp [Ne.symm pq1, Ne.symm pq2]) (by simp [Ne.symm q12]) ?_ p0 (fun z hz => ?_) rel2 (exx.trans ex2)
  · refine .cons (by rw [upd_ne pq1]; exact eq12) ((fq1.mono (exc.trans exd)).mono ex2) q10 (.cons (by rw [upd_ne pq2]; exact eq2) (fq2.mono ex2) q20 .nil)
  · rcases hz with rfl | hz
    · exact nop4
    · simp only [List.mem_cons, List.not_mem_nil, or_false] at hz
      rcases hz with rfl | rfl
      · exact noq4
      · exact no2
/-- x, y = [..], {k: [..], l: [..]} -/
def sPar2K (i j : Nat) (k1 k2 : Int) (tl : TQL) (tm : TQK) : TQS := fun R ρ => tl ρ fun zs ρ1 => tm ρ1 fun xs ys ρ2 => ∀ b1 b2 : Addr, b1 ≠ b2 → R.nx ((ρ2.set i (.own zs)).set j (.odk [.inl k1, .inl k2] [b1, b2] [xs, ys]))
theorem qs_par2K (i j : Nat) {x y : Str} {px py pt : Pos} {kt k2' pt2} (hc : X.calm = true) (hN : X.N.Nodup) (ha : QL X a tl) (hb : QKd X k1 k2 b tm)
    (hi : X.N[i]? = some x := by rfl) (hj : X.N[j]? = some y := by rfl) (hij : i ≠ j := by decide)
    (hx : X.env.scope.names.lookup x = some .local := by rfl) (hy : X.env.scope.names.lookup y = some .local := by rfl)
    (hs1 : starEach [b] X.env = (false, eval b X.env) :: starEach [] X.env := by rfl) (hs2 : starEach [a, b] X.env = (false, eval a X.env) :: starEach [b] X.env := by rfl)
    (hw : swappedStores [.Tuple [.Name x px, .Name y py] kt pt] (.Tuple [a, b] k2' pt2) X.env = pure (some [x, y]) := by rfl)
    (hs : swapsWithSole [.Tuple [.Name x px, .Name y py] kt pt] (.Tuple [a, b] k2' pt2) pos.line X.env = pure false := by rfl) :
    QS X (.Assign [.Tuple [.Name x px, .Name y py] kt pt] (.Tuple [a, b] k2' pt2) pos) (sPar2K i j k1 k2 tl tm) := by
  refine ⟨fun dk H0 => ?_⟩
  have hb' : PE X b (fun σ H Q => ∃ B, upKd k1 k2 X.K dk B tm σ H Q) := ⟨fun pins s σ H Q I ⟨B, q⟩ => (hb.run dk B).run pins s σ H Q I q⟩
  refine PS.imp (ps_par hc hN hi hj hij hx hy (pa_cons (ha.run dk H0) (pa_cons hb' pa_nil hs1) hs2) hw hs) fun D σ H ⟨ρ, R, rel, h, k⟩ => ⟨ρ, _, rel, h, fun zs ρ1 q vs H1 hz eq fq n0 no rel1 ex1 => ⟨reb ρ1 σ H1, ρ1, _, rel1.reb, hz, fun xs ys b1 b2 ρ2 d H2 hv ed nd ndp inn m0 nod rel2 ex2 => ?_⟩⟩
  have dn : ∀ {c : Addr}, H0 c = none → c ≠ dk.1 ∧ c ≠ dk.2 := fun n => ⟨fun z => rel1.dk1 (by rw [← z]; exact n), fun z => rel1.dk2 (by rw [← z]; exact n)⟩
  obtain ⟨eq2, noq⟩ := rel1.flight rel2 (a := q) eq no (dn n0).1 (dn n0).2
  have r2 := rel1.back rel2
  have z0 : ∀ {c : Addr}, reb ρ1 σ H1 c = none → H0 c = none := fun {c} e => by
    by_cases h : ∃ j, OwnAt ρ1 σ j c
    · obtain ⟨j, h⟩ := h
      exact rel1.own0 h
    · rw [reb_not fun j z => h ⟨j, z⟩] at e; exact rel1.fresh0 e
  have qn : ∀ c, c = d ∨ c ∈ [b1, b2] → c ≠ q := fun c hc z => by
    have e : reb ρ1 σ H1 c = none := by
      rcases hc with rfl | hc
      · exact m0
      · obtain ⟨_, _, n⟩ := inn.mem hc; exact n
    rw [z, reb_not no, eq] at e; cases e
  have r3 := r2.set' (i := i) (v := .ref q) (s := .own zs) ⟨q, vs, rfl, eq2, fq.mono ex2, n0⟩ (fun c _ z => by
    rcases z with z | z
    · cases z; exact noq
    · simp [Sl.inn] at z)
  have inn' : Inn X.K H0 H2 [b1, b2] [xs, ys] := inn.mono (Ex.refl _) (fun _ _ _ z => z) fun c _ z => z0 z
  refine ⟨_, _, rfl, k.nx _ _ H2 (hv b1 b2 (by simpa using ndp)) (r3.set' (s := .odk [.inl k1, .inl k2] [b1, b2] [xs, ys]) ⟨d, rfl, ed, z0 m0, nd, ndp, inn', rfl⟩ fun cc _ z => ?_) (ex1.trans ex2)⟩
  have hc : cc = d ∨ cc ∈ [b1, b2] := by
    rcases z with z | z
    · cases z; exact .inl rfl
    · exact .inr z
  rintro l ⟨s0, g1, g2, g3⟩
  by_cases e : i = l
  · subst e
    by_cases il : i < ρ2.length
    · rw [List.getElem?_set_self il] at g1
      cases g1
      rcases g3 with g3 | g3
      · by_cases is : i < σ.length
        · rw [List.getElem?_set_self is] at g3
          cases g3
          exact qn _ hc rfl
        · rw [List.getElem?_eq_none (by rw [List.length_set]; omega)] at g3; cases g3
      · simp [Sl.inn] at g3
    · rw [List.getElem?_eq_none (by rw [List.length_set]; omega)] at g1; cases g1
  · rw [List.getElem?_set_ne e] at g1
    rw [List.getElem?_set_ne e] at g3
    exact nod _ hc l ⟨s0, g1, g2, g3⟩
theorem odk_val : ∀ {ks : List Key} {bs : List Addr} {κ : Key} {n : Nat} {b : Addr}, ks[n]? = some κ → (∀ m, m < n → ks[m]? ≠ some κ) → bs[n]? = some b → valV (odkW ks bs) κ = some (.ref b)
  | [], _, _, _, _, h, _, _ => by simp at h
  | _ :: _, [], _, _, _, _, _, h => by simp at h
  | k :: ks, b0 :: bs, κ, 0, b, h1, _, h3 => by
    have e0 : odkW (k :: ks) (b0 :: bs) = (k, V.ref b0) :: odkW ks bs := rfl
    simp at h1 h3
    subst h1 h3
    rw [e0]; simp [valV, List.find?_cons]
  | k :: ks, b0 :: bs, κ, n + 1, b, h1, h2, h3 => by
    have e0 : odkW (k :: ks) (b0 :: bs) = (k, V.ref b0) :: odkW ks bs := rfl
    have ne : ¬ k = κ := fun z => h2 0 (by omega) (by simp [z])
    have ih := odk_val (ks := ks) (bs := bs) (κ := κ) (n := n) (b := b) (by simpa using h1) (fun m hm => by simpa using h2 (m + 1) (by omega)) (by simpa using h3)
    rw [e0, ← ih]
    simp [valV, List.find?_cons, ne]
theorem rel_inK {K : PySem.W.Frag} {dk : Dk} {H0 H : Hp} {ρ : En} {σ : L2.St} {i j : Nat} {b : Addr} {ks : List Key} {bs : List Addr} {xss : List (List PyData)} {xs' : List PyData} {vs' : List V} (rel : Rel K dk H0 ρ σ H) (e : ρ[i]? = some (.odk ks bs xss)) (hj : bs[j]? = some b) (fz : FzAll K H vs' xs') :
    Rel K dk H0 (ρ.set i (.odk ks bs (xss.set j xs'))) σ (upd H b (.lst vs')) ∧ Ex H (upd H b (.lst vs')) := by
  obtain ⟨a, h1, h2, h3, h4, h5, h6, h7⟩ := rel.sl i _ e
  have hb := List.mem_of_getElem? hj
  refine rel.put' (a := b) ⟨_, e, rfl, .inr hb⟩ _ _ (fun c _ w => ?_) fun ex => ?_
  · rcases w with w | w
    · exact .inl ⟨_, e, rfl, .inl w⟩
    · exact .inl ⟨_, e, rfl, .inr w⟩
  · obtain ⟨_, _, n0⟩ := h6.mem hb
    refine ⟨a, h1, ?_, h3, h4, h5, h6.setAt ex (fz.mono ex) n0 h5 hj, h7⟩
    rw [upd_ne]; exact h2
    rintro rfl; exact h4 hb
def FstK (ks : List Key) (κ : Key) (n : Nat) : Prop := ks[n]? = some κ ∧ ∀ m, m < n → ks[m]? ≠ some κ
def tIxK (j : Nat) (ta tb : TQ) : TQ := fun ρ R => setQ ρ[j]? = true ∧ ta ρ fun y ρ1 => ∃ ks bs xss k n, ρ1[j]? = some (.odk ks bs xss) ∧ y = .int k ∧ FstK ks (.inl k) n ∧ n < bs.length ∧ tb ρ1 fun z ρ2 => ρ2[j]? = some (.odk ks bs xss) ∧ ∃ l x, z = .int l ∧ atI (xss.getD n []) l = some x ∧ R x ρ2
theorem q_ixK {pa : Pos} (j : Nat) (hu : X.A.units + 64 < cLine) (ha : QE X a ta) (hb : QE X b tb) (hN : X.N[j]? = some x := by rfl) (hv : Vis X.env.scope x := by first | exact Or.inl rfl | exact Or.inr (Or.inl rfl) | exact Or.inr (Or.inr rfl)) (hd : (x == ("__debug__" : Str)) = false := by decide) (hcd : (x == ("__classdict__" : Str)) = false := by decide)
    (hs : NoSl a := by intro _ _; rfl) (hs2 : PlainIx b := by intro _ _; rfl) : QE X (.Subscript (.Subscript (.Name x p) a pa) b pos) (tIxK j ta tb) := by
  refine ⟨fun dk H0 => PE.imp (pe_ix ix_list (pe_dget (by omega) (pe_var (pos := p) hN hv hd hcd) (ha.run dk H0) hs) (hb.run dk H0) hs2) fun σ H Q ⟨ρ, R, rel, ⟨hset, h⟩, k⟩ => ?_⟩
  obtain ⟨ov, eo⟩ := rel.isSet hset
  refine ⟨ov, eo, ρ, _, rel, h, fun y ρ1 u H1 hy fz rel1 ex1 => ?_⟩
  obtain ⟨ks, bs, xss, kk, n, e1, rfl, fk, nl, hz⟩ := hy
  cases fz
  obtain ⟨a0, g1, g2, g3, g4, g5, g6, g7⟩ := rel1.sl j _ e1
  rw [eo] at g1
  cases g1
  have hb0 : bs[n]? = some bs[n] := List.getElem?_eq_getElem nl
  refine ⟨a0, .ref bs[n], rfl, by rw [← odk_val fk.1 fk.2 hb0]; exact DGet.k (k := .inl kk) g2, ρ1, _, rel1, hz, fun z ρ2 v H2 hz2 fz2 rel2 ex2 => ?_⟩
  obtain ⟨e2, l, x0, rfl, hat, hr⟩ := hz2
  cases fz2
  obtain ⟨a1, p1, p2, p3, p4, p5, p6, p7⟩ := rel2.sl j _ e2
  obtain ⟨vs, q1, q2, q3⟩ := p6.at hb0
  obtain ⟨w, hw, fw⟩ := atI_fz q2 hat
  exact ⟨bs[n], vs, l, w, rfl, rfl, SqL.of q1, hw, k _ ρ2 _ H2 hr fw rel2 (ex1.trans ex2)⟩
def sSetIxK (j : Nat) (te ta tb : TQ) : TQS := fun R ρ => te ρ fun v ρ0 => setQ ρ0[j]? = true ∧ ta ρ0 fun y ρ1 => ∃ ks bs xss k n, ρ1[j]? = some (.odk ks bs xss) ∧ y = .int k ∧ FstK ks (.inl k) n ∧ n < bs.length ∧ tb ρ1 fun z ρ2 => ρ2[j]? = some (.odk ks bs xss) ∧ ∃ z2 l, z = .int z2 ∧ ixN (xss.getD n []).length z2 = some l ∧
  R.nx (ρ2.set j (.odk ks bs (xss.set n ((xss.getD n []).set l v))))
theorem qs_setIxK {tpos spos pa : Pos} (j : Nat) (hu : X.A.units + 64 < cLine) (he : QE X e te) (ha : QE X a ta) (hb : QE X b tb) (hN : X.N[j]? = some x := by rfl) (hv : Vis X.env.scope x := by first | exact Or.inl rfl | exact Or.inr (Or.inl rfl) | exact Or.inr (Or.inr rfl)) (hd : (x == ("__debug__" : Str)) = false := by decide) (hcd : (x == ("__classdict__" : Str)) = false := by decide)
    (hsp : NoSl a := by intro _ _; rfl)
    (hs : swapsWithSole [.Subscript (.Subscript (.Name x p) a pa) b tpos] e spos.line X.env = pure false := by rfl) (hw : swappedStores [.Subscript (.Subscript (.Name x p) a pa) b tpos] e X.env = pure none := by rfl)
    (h1 : (assignEach [.Subscript (.Subscript (.Name x p) a pa) b tpos] X.env).map (·.2) = [assign (.Subscript (.Subscript (.Name x p) a pa) b tpos) X.env] := by rfl)
    (hasg : ∀ v, assign (.Subscript (.Subscript (.Name x p) a pa) b tpos) X.env v = (do
      let ov ← holding [v] (eval (.Subscript (.Name x p) a pa) X.env)
      let iv ← holding [v, ov] (eval b X.env)
      standAt tpos
      holding [v, ov, iv] (setItem ov iv v)
      release [v, ov, iv] []) := by intro _; rfl) :
    QS X (.Assign [.Subscript (.Subscript (.Name x p) a pa) b tpos] e spos) (sSetIxK j te ta tb) := by
  refine ⟨fun dk H0 => PS.imp (ps_asg (he.run dk H0) (pg_sub (pe_dget (by omega) (pe_var (pos := p) hN hv hd hcd) (ha.run dk H0) hsp) (hb.run dk H0) set_list hasg) hs hw h1) fun D σ H ⟨ρ, R, rel, h, k⟩ => ⟨ρ, _, rel, h, fun v ρ0 vv Hv hv0 fv relv exv => ?_⟩⟩
  obtain ⟨hset, hv0⟩ := hv0
  obtain ⟨ov, eo⟩ := relv.isSet hset
  refine ⟨ov, eo, ρ0, _, relv, hv0, fun y ρ1 u H1 hy fz rel1 ex1 => ?_⟩
  obtain ⟨ks, bs, xss, kk, n, e1, rfl, fk, nl, hz⟩ := hy
  cases fz
  obtain ⟨a0, g1, g2, g3, g4, g5, g6, g7⟩ := rel1.sl j _ e1
  rw [eo] at g1
  cases g1
  have hb0 : bs[n]? = some bs[n] := List.getElem?_eq_getElem nl
  refine ⟨a0, .ref bs[n], rfl, by rw [← odk_val fk.1 fk.2 hb0]; exact DGet.k (k := .inl kk) g2, ρ1, _, rel1, hz, fun z ρ2 w H2 hz2 fz2 rel2 ex2 => ?_⟩
  obtain ⟨e2, z2, l, rfl, hl, hr⟩ := hz2
  cases fz2
  obtain ⟨a1, p1, p2, p3, p4, p5, p6, p7⟩ := rel2.sl j _ e2
  obtain ⟨vs1, w1, w2, w3⟩ := p6.at hb0
  obtain ⟨r3, ex3⟩ := rel_inK rel2 e2 hb0 (w2.set (fv.mono (ex1.trans ex2)) l)
  exact ⟨bs[n], vs1, z2, l, rfl, rfl, w1, by rw [w2.length]; exact hl, k.nx _ σ _ hr r3 (exv.trans (ex1.trans (ex2.trans ex3)))⟩
end
end Q
end P48
section P49
namespace Q
open PySem PySem.Spec PyProof.Rows L2 HT
theorem keyD'_inj : ∀ {a b : Key}, keyD' a = keyD' b → a = b
  | .inl _, .inl _, h => by injection h with h; rw [h]
  | .inr _, .inr _, h => by injection h with h; rw [h]
  | .inl _, .inr _, h => by cases h
  | .inr _, .inl _, h => by cases h
theorem dkD_inj : ∀ {a b : List (Key × PyData)}, a.map (fun p => (keyD' p.1, p.2)) = b.map (fun p => (keyD' p.1, p.2)) → a = b
  | [], [], _ => rfl
  | [], _ :: _, h => by cases h
  | _ :: _, [], h => by cases h
  | (k, x) :: a, (l, y) :: b, h => by
    rw [List.map_cons, List.map_cons] at h
    injection h with h1 h2
    injection h1 with h3 h4
    have h3 : keyD' k = keyD' l := h3
    have h4 : x = y := h4
    rw [keyD'_inj h3, h4, dkD_inj h2]
theorem dk_of_fz {K : PySem.W.Frag} {H : Hp} {v : V} {kvs : List (Key × PyData)} (f : Fz K H v (dkD kvs)) : ∃ a o ws, v = .ref a ∧ H a = some (.frz o (.dK ws)) ∧ ws.map (·.1) = kvs.map (·.1) ∧ FzAll K H (ws.map (·.2)) (kvs.map (·.2)) := by
  unfold dkD at f
  generalize hl : kvs.map (fun p => (keyD' p.1, p.2)) = l at f
  cases f with
  | dk h1 h2 h3 h4 =>
    have := dkD_inj (hl.trans h4)
    subst this
    exact ⟨_, _, _, rfl, h1, h2, h3⟩
  | dt h1 h2 h3 h4 =>
    rw [h4] at hl
    cases kvs with
    | nil => cases hl
    | cons p kvs =>
      rw [List.map_cons] at hl
      injection hl with z1 _
      injection z1 with z1 _
      have z1 : keyD' p.1 = .bool true := z1
      cases hk : p.1 <;> rw [hk] at z1 <;> cases z1
  | al b => exact (dk_no hl.symm).elim
  | ex _ _ => exact (dk_no hl.symm).elim
theorem fzkv_splitD {K : PySem.W.Frag} {H : Hp} : ∀ {ws : List (Key × V)} {kvs : List (Key × PyData)}, FzKV K H ws kvs → ws.map (·.1) = kvs.map (·.1) ∧ FzAll K H (ws.map (·.2)) (kvs.map (·.2))
  | _, [], h => by cases h; exact ⟨rfl, .nil⟩
  | _, (k, d) :: kvs, h => by
    cases h with
    | cons f t =>
      obtain ⟨h1, h2⟩ := fzkv_splitD t
      exact ⟨by rw [List.map_cons, List.map_cons, h1], .cons f h2⟩
theorem fz_dkD {K : PySem.W.Frag} {H : Hp} {a : Addr} {o : Obj} {ws : List (Key × V)} {kvs : List (Key × PyData)} (h : H a = some (.frz o (.dK ws))) (f : FzKV K H ws kvs) : Fz K H (.ref a) (dkD kvs) := .dk h (fzkv_splitD f).1 (fzkv_splitD f).2 rfl
theorem val_splitD {K : PySem.W.Frag} {H : Hp} {k : Key} : ∀ {ws : List (Key × V)} {kvs : List (Key × PyData)}, ws.map (·.1) = kvs.map (·.1) → FzAll K H (ws.map (·.2)) (kvs.map (·.2)) → ∀ {x}, valD kvs k = some x → ∃ v, valV ws k = some v ∧ Fz K H v x
  | [], [], _, _, x, h => by simp [valD] at h
  | [], _ :: _, h, _, _, _ => by cases h
  | _ :: _, [], h, _, _, _ => by cases h
  | (k1, v) :: ws, (k2, y) :: kvs, h, f, x, hx => by
    rw [List.map_cons, List.map_cons] at h
    injection h with e1 e2
    have e1 : k1 = k2 := e1
    subst e1
    cases f with
    | cons f1 f2 =>
      by_cases e : k1 = k
      · subst e
        have : x = y := by simp [valD, List.find?_cons] at hx; exact hx.symm
        subst this
        exact ⟨v, by simp [valV, List.find?_cons], f1⟩
      · have hx2 : valD kvs k = some x := by simpa [valD, List.find?_cons, e] using hx
        obtain ⟨w, q1, q2⟩ := val_splitD e2 f2 hx2
        exact ⟨w, by rw [← q1]; simp [valV, List.find?_cons, e], q2⟩
section
variable {X : Cx} {pos p : Pos} {e a b : Expr} {te ta tb tk : TQ} {x : Str} {tg : Expr} {keys : List (Option Expr)} {values : List Expr} {ts : List (TQ × TQ)}
/-- {k: e, ..} as a datum -/
def tDispK (ts : List (TQ × TQ)) : TQ := fun ρ R => prQ ts ρ fun kvs ρ1 => kvs.length ≤ 15 ∧ R (dkD (mergeD kvs)) ρ1
theorem q_dispK {dpos : Pos} (hp : QPP X dpos keys values ts) (hall : keys.all (·.isSome) = true := by rfl) (hl : keys.length = values.length := by rfl) (h0 : keys ≠ [] := by simp) (hk15 : keys.length ≤ 15 := by decide) : QE X (.Dict keys values dpos) (tDispK ts) := by
  refine ⟨fun dk H0 => ⟨fun pins s σ H Q I ⟨ρ, R, rel, h, k⟩ => ?_⟩⟩
  let Q1 : VK := fun v H1 => ∃ kvs ρ1 p ws, v = .ref p ∧ R (dkD kvs) ρ1 ∧ H1 p = some (.dK ws) ∧ FzKV X.K H1 ws kvs ∧ H0 p = none ∧ (∀ j, ¬ OwnAt ρ1 σ j p) ∧ Rel X.K dk H0 ρ1 σ H1 ∧ Ex H H1
  refine thn ((pe_disp (hp.run dk) hall hl h0 hk15).run pins s σ H Q1 I fun p hpn => ?_) fun u s1 ⟨v, H1, I1, rv, kvs, ρ1, p, ws, e, q1, q2, q3, q6, q7, q8, q9⟩ => ?_
  · have sm := same_upd (o := .dK []) hpn
    have rel1 := rel.same sm
    have p0 : H0 p = none := rel.fresh0 hpn
    have no : ∀ j, ¬ OwnAt ρ σ j p := rel.freshOwn hpn
    have nd1 : p ≠ dk.1 := fun z => rel.dk1 (by rw [← z]; exact p0)
    have nd2 : p ≠ dk.2 := fun z => rel.dk2 (by rw [← z]; exact p0)
    refine pr_read rel1.reb h fun kvs ws ρ' H' ⟨hlen, hr⟩ fk rel' ex' => ?_
    obtain ⟨ep, no'⟩ := rel1.flight rel' (a := p) (o := .dK []) upd_same no nd1 nd2
    have relb := rel1.back rel'
    refine ⟨ep, ws, rfl, by rw [fzkv_len fk]; exact hlen, ?_⟩
    obtain ⟨rel2, ex2⟩ := relb.freezeD (o := .dK (mergeK [] ws)) ep p0 no'
    exact ⟨_, ρ', p, _, rfl, hr, upd_same, merge_fz .nil (fk.mono ex2), p0, no', rel2, (ex_same sm).trans (ex'.trans ex2)⟩
  · subst e
    obtain ⟨od, I2⟩ := I1.lock q2 True.intro
    obtain ⟨r2, ex⟩ := q8.freezeD (o := .frz od (.dK ws)) q2 q6 q7
    exact ⟨.ref p, _, I2, rv, k (dkD kvs) ρ1 (.ref p) _ q1 (fz_dkD upd_same (q3.mono ex)) r2 (q9.trans ex)⟩
/-- a name's dict, frozen from here on -/
def tVd (i : Nat) : TQ := fun ρ R => match ρ[i]? with
  | some (.d x) => R x ρ
  | some (.owd kvs) => R (dkD kvs) (ρ.set i (.d (dkD kvs)))
  | _ => False
theorem qvd (i : Nat) (hN : X.N[i]? = some x := by rfl) (hv : Vis X.env.scope x := by first | exact Or.inl rfl | exact Or.inr (Or.inl rfl) | exact Or.inr (Or.inr rfl)) (hd : (x == ("__debug__" : Str)) = false := by decide) (hcd : (x == ("__classdict__" : Str)) = false := by decide) : QE X (.Name x pos) (tVd i) := by
  refine ⟨fun dk H0 => ⟨fun pins s σ H Q I h => ?_⟩⟩
  obtain ⟨ρ, R, r, h, k⟩ := h
  unfold tVd at h
  split at h
  · rename_i y e
    obtain ⟨v, h1, h2⟩ := r.sl i _ e
    exact (pe_var (X := X) (pos := pos) hN hv hd hcd).run pins s σ H Q I ⟨v, h1, k y ρ v H h h2 r (Ex.refl H)⟩
  · rename_i kvs e
    obtain ⟨a, ws, h1, h2, h3, h4⟩ := r.sl i _ e
    obtain ⟨od, I1⟩ := I.lock h2 True.intro
    have ow : OwnAt ρ σ i a := ⟨_, e, rfl, .inl h1⟩
    obtain ⟨r1, ex⟩ := r.put ow (.frz od (.dK ws)) (.d (dkD kvs)) fun ex => ⟨.ref a, h1, fz_dkD upd_same (h3.mono ex)⟩
    exact (pe_var (X := X) (pos := pos) hN hv hd hcd).run pins s σ _ Q I1 ⟨.ref a, h1, k _ _ _ _ h (fz_dkD upd_same (h3.mono ex)) r1 ex⟩
  · exact h.elim
/-- d[k] -/
def tGetK (ta tk : TQ) : TQ := fun ρ R => ta ρ fun x ρ1 => ∃ kvs, x = dkD kvs ∧ tk ρ1 fun y ρ2 => ∃ κ z, y = keyD' κ ∧ valD kvs κ = some z ∧ R z ρ2
theorem q_getK (hu : X.A.units + 64 < cLine) (ha : QE X a ta) (hb : QE X b tk) (hs : NoSl b := by intro _ _; rfl) : QE X (.Subscript a b pos) (tGetK ta tk) := by
  refine ⟨fun dk H0 => PE.imp (pe_dget (by omega) (ha.run dk H0) (hb.run dk H0) hs) fun σ H Q ⟨ρ, R, rel, h, k⟩ => ⟨ρ, _, rel, h, fun x ρ1 v H1 hx fz rel1 ex1 => ?_⟩⟩
  obtain ⟨kvs, rfl, hx⟩ := hx
  refine ⟨ρ1, _, rel1, hx, fun y ρ2 u H2 hy fz2 rel2 ex2 => ?_⟩
  obtain ⟨κ, z, rfl, hval, hr⟩ := hy
  obtain ⟨a0, o, ws, rfl, g1, g2, g3⟩ := dk_of_fz (fz.mono ex2)
  obtain ⟨w, q1, q2⟩ := val_splitD g2 g3 hval
  have eu : u = kV κ := by
    cases κ with
    | inl i => cases fz2; rfl
    | inr t => cases fz2; rfl
  subst eu
  exact ⟨a0, w, rfl, by rw [← q1]; exact .inl ⟨ws, κ, .inr ⟨o, g1⟩, rfl, rfl⟩, k z ρ2 w H2 hr q2 rel2 (ex1.trans ex2)⟩
/-- for k in d -/
theorem wd_keys {K : PySem.W.Frag} {d : Addr} {o : Obj} {ws : List (Key × V)} {kvs : List (Key × PyData)} (hk : ws.map (·.1) = kvs.map (·.1)) : WalkD K (Itk d o ws) (kvs.map fun p => keyD' p.1) (fun H => H d = some (.frz o (.dK ws))) := by
  have hl : ws.length = kvs.length := by have := congrArg List.length hk; simpa using this
  refine ⟨fun i H hi q => ⟨q, by rw [List.length_map] at hi; omega⟩, fun H q => ⟨q, by rw [List.length_map]; omega⟩, fun i H x H' hi q y => ?_, fun H H' q ex => ex.frz _ _ _ q⟩
  obtain ⟨rfl, κ, v, h1, rfl⟩ := y
  have e1 : (kvs.map (·.1))[i]? = some κ := by rw [← hk, List.getElem?_map, h1]; rfl
  refine ⟨keyD' κ, ?_, ?_, Same.refl _⟩
  · rw [List.getElem?_map] at e1
    obtain ⟨p, hp, e2⟩ := Option.map_eq_some_iff.mp e1
    rw [List.getElem?_map, hp, Option.map_some, e2]
  · cases κ with
    | inl i => exact .int i
    | inr t => exact .str t
def iKeysQ (te : TQ) : TQL := fun ρ R => te ρ fun x ρ1 => ∃ kvs, x = dkD kvs ∧ kvs.length ≤ 1000000 ∧ R (kvs.map fun p => keyD' p.1) ρ1
theorem qi_keysK (he : QE X e te) : QI X tg e (iKeysQ te) := by
  refine ⟨fun dk H0 => PI.imp (pi_keys (he.run dk H0)) fun σ H Q ⟨ρ, R, rel, h, k⟩ => ⟨ρ, _, rel, h, fun x ρ1 v H1 hx fz rel1 ex1 => ?_⟩⟩
  obtain ⟨kvs, rfl, hl, hr⟩ := hx
  obtain ⟨a0, o, ws, rfl, g1, g2, g3⟩ := dk_of_fz fz
  refine ⟨a0, o, rfl, .inl ⟨ws, g1, ?_⟩⟩
  exact k _ ρ1 _ _ H1 hr (by rw [List.length_map]; exact le_line hl) (wd_keys g2) g1 rel1 ex1
end
end Q
end P49
section P50
namespace Q
open PySem PySem.Spec PyProof.Rows L2 HT
def tListVals (td : TE) : TE := fun σ H Q => td σ H fun x H1 => ∃ a kvs, x = V.ref a ∧ Rd H1 a (.dK kvs) ∧ ∀ q, H1 q = none → Q (.ref q) (upd H1 q (.lst (kvs.map (·.2))))
theorem kv_at {kvs : List (Key × V)} {vs : List (Key × Value)} (r : KV kvs vs) {j : Nat} {k : Key} {u : Value} {x : V} (h : vs[j]? = some (k, u)) (hx : (kvs.map (·.2))[j]? = some x) : RelV x u := by
  unfold KV at r
  induction r generalizing j with
  | nil => simp at h
  | cons r t ih =>
    cases j with
    | zero =>
      simp at h hx
      subst h hx
      exact r.2
    | succ j => exact ih (by simpa using h) (by simpa using hx)
section
variable {X : Cx} {o : Expr} {p pos apos mpos : Pos} {td : TE}
theorem pe_listVals (hc : X.calm = true) (hg : Gl X "list") (hm : X.mg "list" = none) (hd : PE X o td) (hbase : attributeBase o "values" X.env (eval o X.env) = eval o X.env := by rfl) (hline : (apos.endLine == mpos.line) = true := by rfl)
    (na : starEach [Expr.Call (.Attribute o "values" apos) [] [] mpos] X.env = (false, eval (Expr.Call (.Attribute o "values" apos) [] [] mpos) X.env) :: starEach [] X.env := by rfl) :
    PE X (.Call (.Name "list" p) [.Call (.Attribute o "values" apos) [] [] mpos] [] pos) (tListVals td) := by
  constructor
  intro pins s0 σ H0 Q I0 h
  have view : ∀ (v : Value) (s1 : Shared) (x : V) (H1 : Hp), Inv X pins σ H1 s1 → RelV x v → (∃ d kvs, x = V.ref d ∧ Rd H1 d (.dK kvs) ∧ ∀ l, H1 l = none → Q (.ref l) (upd H1 l (.lst (kvs.map (·.2))))) →
      MethodOn X.prog X.w X.A "values" mpos v [] (fun u s2 => wpAny (model X.prog X.w) X.A (spliced (backTo pos (starEach [] X.env))) (fun us s3 => wpAny (model X.prog X.w) X.A (call (.type "list") (u :: us)) (EP X pins σ Q) X.xe s3) X.xe s2) X.xe s1 := by
    rintro v s1 x H1 I1 rv ⟨d, kvs, rfl, rd, q⟩
    cases rv
    obtain ⟨few, nsys, vs, rel, od⟩ := dk_rd I1.hok rd
    obtain ⟨n, at_⟩ := od.dictAt
    obtain ⟨ob, _, there, cls, _⟩ := id at_
    have kp : ∀ c u, s1.heap.get? c = some u → (s1.heap.push { cls := .type "dict_values", data := .fields #[.ref d] }).get? c = some u := fun _ _ z => Heap.get?_push_of_some _ z
    have I2 : Inv X pins σ H1 { s1 with heap := s1.heap.push { cls := .type "dict_values", data := .fields #[.ref d] } } := I1.kept (t' := s1.toks) kp
    have ln : kvs.length = vs.length := Paired.length rel
    refine ⟨_, _, F.plainAttrs_dict, F.slot_dict_values, F.type_dict_values, ⟨_, there, cls.1⟩, fun c z => ?_, ?_⟩
    · cases z; exact ⟨_, there, cls.2.1⟩
    refine Calls.callWith_builtin rfl (PySem.evalArgs_none ?_)
    refine call_meetsIn F.slot_dict_values ⟨_, there, cls.1⟩ F.entry_dict_values (F.args_dict_values_1 _) (meets_dict_values _ d nsys) ⟨⟨_, od⟩, ?_⟩
    refine args_nil (PySem.W.kdl_call (PySem.W.kdl_values (ep := n)) (I0.ok.hd hc) ⟨⟨_, Heap.get?_push_size _ rfl, rfl, rfl⟩, at_.keep kp⟩ (by omega) fun h' tk out c' up new its => ?_)
    refine ⟨.ref _, _, I2.laid up (Nat.le_refl _) (show ObjOk X.prog X.w _ _ _ (.lst (kvs.map (·.2))) from ⟨by rw [List.length_map]; exact few, out.toList, c', ?_, by rw [Array.toArray_toList]; exact new⟩), rfl, q _ (I2.hok.fresh (Nat.le_refl _))⟩
    refine vals_of_at (by have := its.1; simp only [List.length_map, Array.length_toList]; omega) fun j x u h1 h2 => ?_
    obtain ⟨k, hk⟩ := its.2 j u (by rw [← Array.getElem?_toList]; exact h2)
    exact kv_at rel hk h1
  exact Call_ (ld_blt I0 hg hm boot_list (PyProof.Rows.callWith_type1 (args_cons (wpAny_Call_method0_late hbase hline (thn (hd.run pins s0 σ H0 _ I0 h) fun v s1 ⟨x, H1, I1, rv, q⟩ => view v s1 x H1 I1 rv q)) na) na))
/-- list(d.values()) -/
def tVals (te : TQ) : TQL := fun ρ R => te ρ fun x ρ1 => ∃ kvs, x = dkD kvs ∧ R (kvs.map (·.2)) ρ1
theorem ql_vals {te : TQ} (hc : X.calm = true) (hg : Gl X "list") (hm : X.mg "list" = none) (he : QE X o te) (hbase : attributeBase o "values" X.env (eval o X.env) = eval o X.env := by rfl) (hline : (apos.endLine == mpos.line) = true := by rfl)
    (na : starEach [Expr.Call (.Attribute o "values" apos) [] [] mpos] X.env = (false, eval (Expr.Call (.Attribute o "values" apos) [] [] mpos) X.env) :: starEach [] X.env := by rfl) :
    QL X (.Call (.Name "list" p) [.Call (.Attribute o "values" apos) [] [] mpos] [] pos) (tVals te) :=
  ⟨fun dk H0 => PE.imp (pe_listVals hc hg hm (he.run dk H0) hbase hline na) fun σ H Q ⟨ρ, R, rel, h, k⟩ => ⟨ρ, _, rel, h, fun x ρ1 v H1 hx fz rel1 ex1 => by
    obtain ⟨kvs, rfl, hr⟩ := hx
    obtain ⟨a, od, ws, rfl, g1, g2, g3⟩ := dk_of_fz fz
    refine ⟨a, ws, rfl, .inr ⟨od, g1⟩, fun q hq => ?_⟩
    have sm := same_upd (o := .lst (ws.map (·.2))) hq
    exact k _ ρ1 q _ _ hr upd_same (g3.mono (ex_same sm)) (rel1.fresh0 hq) (rel1.freshOwn hq) (rel1.same sm) (ex1.trans (ex_same sm))⟩⟩
end
end Q
end P50
section P51
namespace Q
open PySem PySem.Spec PyProof.Rows L2 HT
def tAddL (ta tb : TQ) : TQL := fun ρ R => ta ρ fun x ρ1 => tb ρ1 fun y ρ2 => ∃ xs ys, x = .list xs ∧ y = .list ys ∧ xs.length + ys.length ≤ 1000000 ∧ R (xs ++ ys) ρ2
theorem ql_add {X : Cx} {pos : Pos} {a b : Expr} {ta tb : TQ} (ha : QE X a ta) (hb : QE X b tb) : QL X (.BinOp a .Add b pos) (tAddL ta tb) := by
  refine ⟨fun dk H0 => PE.imp (pe_op op_catF (ha.run dk H0) (hb.run dk H0)) fun σ H Q ⟨ρ, R, rel, h, k⟩ => ⟨ρ, _, rel, h, fun x ρ1 v H1 hx fz rel1 ex1 => ⟨ρ1, _, rel1, hx, fun y ρ2 u H2 hy fz2 rel2 ex2 => ?_⟩⟩⟩
  obtain ⟨xs, ys, rfl, rfl, hl, hr⟩ := hy
  have f1 := fz.mono ex2
  cases f1 with
  | @lst a0 o0 vs ds q t =>
    cases fz2 with
    | @lst b0 o1 ws es q2 t2 =>
      refine ⟨a0, b0, _, _, vs, ws, rfl, rfl, q, q2, by rw [t.length, t2.length]; exact le_line hl, fun p hp => ?_⟩
      have sm := same_upd (o := .lst (vs ++ ws)) hp
      exact k _ ρ2 p _ _ hr upd_same ((t.append t2).mono (ex_same sm)) (rel2.fresh0 hp) (rel2.freshOwn hp) (rel2.same sm) (ex1.trans (ex2.trans (ex_same sm)))
end Q
end P51
section P52
open PySem PySem.Spec PyProof.Rows L2 HT Q
namespace T44
def top (i : Nat) : Stmt := PySem.Challenge.pw_lotthrows_k44_whole_folded_words_and_row.main.body.getD i (.Pass ⟨0, 0, 0, 0⟩)
end T44
namespace T44
section
def t_is_integer : TQS := (sRet (vAnd (isD isInt (tV 0)) (vNot (isD isBool (tV 0)))))
def t_is_desk_value : TQS := (sSeq (sIf (qOr (qNot (tB (isD isTup (tV 0)))) (qNot (tB (chI (fun i j => decide (i ≤ j)) (fun i j => decide (i ≤ j)) (tK (.int 1)) (tLenN 0) (tK (.int 6)))))) (sRet (tK (.bool false))) sNil)
  (sRet (tCA allD (dCons (tFz (tLcQ (iQ (tV 0)) (gN 1) tY (vAnd (isD isStr (tV 1)) (t2 (inD false) (tV 1) (tK (.tuple [.str "tray", .str "pile"])))) [1])) dNil))))
def t_sign_of_place : TQS := (sRet (qIf (tB (t2 eqD (tV 0) (tK (.str "tray")))) (tK (.int 1)) (t1 negI (tK (.int 1)))))
def t_many_codes : TQS := (sSeq (sSet 1 (tK (.int 1)))
  (sSeq (sFor (iQ (tV 0)) (gN 2) (sSet 1 (t2 mulF (tV 1) (tLenN 2))))
  (sRet (tV 1))))
def t_raw_position : TQS := (sSeq (sAsg (tTupQ (dCons (tK (.int 0)) (dCons (tK (.int 1)) dNil))) (gT 2 (gsCons (gN 2) (gsCons (gN 3) gsNil))))
  (sSeq (sFor (iZip (tV 0) (tV 1)) (gT 2 (gsCons (gN 4) (gsCons (gN 5) gsNil))) (sSeq (sIf (tB (t2 eqD (tIxN 4 (tV 5)) (tK (.str "pile")))) (sSet 2 (t2 subI (t2 subI (tV 3) (tK (.int 1))) (tV 2))) sNil)
  (sPar2 2 3 (pD (t2 addF (t2 mulF (tV 5) (tV 3)) (tV 2)) (pD (t2 mulF (tV 3) (tLenN 4)) pNil)))))
  (sRet (tV 2))))
def t_word_of : TQS := (sSeq (sSet 1 (tTupQ (dCons (tK (.int 1)) dNil)))
  (sSeq (sFor (iQ (tV 0)) (gN 2) (sSeq (sSet 3 (tTupQ dNil))
  (sSeq (sFor (iQ (tV 2)) (gN 4) (sSet 3 (t2 addF (tV 3) (qIf (tB (t2 eqD (tV 4) (tK (.str "tray")))) (tV 1) (tCA tupD (dCons (tFz (tLcQ (iQ (t1 revD (tV 1))) (gN 5) tY (t1 negI (tV 5)) [5])) dNil))))))
  (sSet 1 (tV 3)))))
  (sRet (tV 1))))
def t_many_rows_of_signs : TQS := (sSeq (sPar2K 2 3 (1) (-1) (tAddL (tFz (tLstQ (dCons (tK (.int 1)) dNil))) (tFz (tRepL (tFz (tLstQ (dCons (tK (.int 0)) dNil))) (tV 1)))) (tDisp2 (1) (-1) (tK (.int 1)) (tRepL (tFz (tLstQ (dCons (tK (.int 0)) dNil))) (t2 addF (tV 1) (tK (.int 1)))) (t1 negI (tK (.int 1))) (tRepL (tFz (tLstQ (dCons (tK (.int 0)) dNil))) (t2 addF (tV 1) (tK (.int 1))))))
  (sSeq (sFor (iQ (tV 0)) (gN 4) (sFor (rg3 (tV 1) (tK (.int 0)) (t1 negI (tK (.int 1)))) (gN 5) (sSeq (sSet 6 (tIxN 2 (t2 subI (tV 5) (tK (.int 1)))))
  (sSeq (sAugIx 2 (augC (fun i j => i + j)) (tV 5) (t2 subI (tV 6) (tIxK 3 (tV 4) (tV 5))))
  (sSetIxK 3 (tV 6) (tV 4) (tV 5))))))
  (sRet (tIxN 2 (tV 1)))))
def t__law_sign : TQS := (sSeq (sSet 2 (tCA lenD (dCons (tFz (tLcQ (iZip (tV 0) (tV 1)) (gT 2 (gsCons (gN 3) (gsCons (gN 4) gsNil))) (tB (t2 eqD (tIxN 3 (tV 4)) (tK (.str "pile")))) (tK (.int 1)) [3, 4])) dNil)))
  (sRet (qIf (tB (t2 eqD (t2 bandI (tV 2) (tK (.int 1))) (tK (.int 0)))) (tK (.int 1)) (t1 negI (tK (.int 1))))))
def t__law_codes : TQS := (sSeq (sSet 1 (tFz (tLstQ (dCons (tTupQ dNil) dNil))))
  (sSeq (sFor (iQ (tV 0)) (gN 2) (sSeq (sSetL 3 (tLstQ dNil))
  (sSeq (sFor (iEn (tV 2)) (gT 2 (gsCons (gN 4) (gsCons (gN 5) gsNil))) (sExpr (tOwnM 3 extC (dCons (tFz (tLcQ (iQ (qIf (tB (t2 eqD (tV 5) (tK (.str "tray")))) (tV 1) (t1 revD (tV 1)))) (gN 6) tY (t2 addF (tV 6) (tTupQ (dCons (tV 4) dNil))) [6])) dNil))))
  (sSet 1 (tV 3)))))
  (sRet (tV 1))))
def t__law_cut : TQS := (sSeq (sPar3 1 2 3 (pO (tLstQ dNil) (pD (tK (.int 0)) (pD (tK (.int 0)) pNil))))
  (sSeq (sFor (iEn (tV 0)) (gT 2 (gsCons (gN 4) (gsCons (gN 5) gsNil))) (sSeq (sIf (qOr (tB (t2 eqD (tV 4) (tK (.int 0)))) (tB (t2 neD (tIxN 0 (t2 subI (tV 4) (tK (.int 1)))) (tV 5)))) (sPar2 2 3 (pD (tK (.int 0)) (pD (t2 addF (tV 3) (tK (.int 1))) pNil))) sNil)
  (sSeq (sSet 2 (t2 addF (tV 2) (tK (.int 1))))
  (sIf (qAnd (tB (t2 leI (tV 2) (tK (.int 8)))) (tB (t2 leI (tV 3) (tK (.int 17))))) (sExpr (tOwnM 1 appC (dCons (tV 5) dNil))) sNil))))
  (sRet (tV 1))))
def t__law_nexts : TQS := (sSeq (sPar3 1 2 3 (pO (tLstQ (dCons (tTupQ (dCons (t1 negI (tK (.int 1))) (dCons (t1 negI (tK (.int 1))) dNil))) dNil)) (pD (t1 negI (tK (.int 1))) (pD (t1 negI (tK (.int 1))) pNil))))
  (sSeq (sFor (rg3 (t2 subI (tLenN 0) (tK (.int 1))) (t1 negI (tK (.int 1))) (t1 negI (tK (.int 1)))) (gN 4) (sSeq (sIf (tB (t2 eqD (tIxN 0 (tV 4)) (tK (.int 1)))) (sSet 2 (tV 4)) (sSet 3 (tV 4)))
  (sExpr (tOwnM 1 appC (dCons (tTupQ (dCons (tV 2) (dCons (tV 3) dNil))) dNil)))))
  (sRet (t1 revD (tV 1)))))
def t_is_between (S_is_integer : PSpec) : TQS := (sRet (vAnd (tCallQ S_is_integer (aD (tV 0) aNil)) (chI (fun i j => decide (i ≤ j)) (fun i j => decide (i ≤ j)) (tV 1) (tV 0) (tV 2))))
def t_need_number (S_is_integer : PSpec) : TQS := (sIf (qOr (qNot (tB (tCallQ S_is_integer (aD (tV 0) aNil)))) (tB (t2 ltI (tV 0) (tK (.int 0))))) sNever sNil)
def t_are_desks_value (S_is_desk_value : PSpec) : TQS := (sRet (vAnd (isD isTup (tV 0)) (vAnd (t2 leI (tLenN 0) (tK (.int 12))) (tCA allD (dCons (tFz (tLcQ (iQ (tV 0)) (gN 1) tY (tCallQ S_is_desk_value (aD (tV 1) aNil)) [1])) dNil)))))
def t_raw_sign (S_sign_of_place : PSpec) : TQS := (sSeq (sSet 2 (tK (.int 1)))
  (sSeq (sFor (iZip (tV 0) (tV 1)) (gT 2 (gsCons (gN 3) (gsCons (gN 4) gsNil))) (sSet 2 (t2 mulF (tV 2) (tCallQ S_sign_of_place (aD (tIxN 3 (tV 4)) aNil)))))
  (sRet (tV 2))))
def t_raw_code_at (S_many_codes : PSpec) : TQS := (sSeq (sPar2 2 3 (pO (tLstQ dNil) (pD (tCallQ S_many_codes (aD (tV 0) aNil)) pNil)))
  (sSeq (sFor (iQ (t1 revD (tV 0))) (gN 4) (sSeq (sSet 3 (t2 fdivI (tV 3) (tLenN 4)))
  (sSeq (sPar2 5 1 (pD (t2 fdivI (tV 1) (tV 3)) (pD (t2 modI (tV 1) (tV 3)) pNil)))
  (sSeq (sIf (tB (t2 eqD (tIxN 4 (tV 5)) (tK (.str "pile")))) (sSet 1 (t2 subI (t2 subI (tV 3) (tK (.int 1))) (tV 1))) sNil)
  (sExpr (tOwnM 2 appC (dCons (tV 5) dNil)))))))
  (sRet (tCA tupD (dCons (t1 revD (tV 2)) dNil)))))
def t__law_pick (S__law_draw : PSpec) : TQS := (sRet (tIxN 1 (tCallQ S__law_draw (aK 0 (aD (tLenN 1) aNil)))))
def t__law_desk (S__law_draw : PSpec) : TQS := (sSeq (sPar2 2 3 (pD (t2 addF (tK (.int 1)) (tCallQ S__law_draw (aK 0 (aD (tV 1) aNil)))) (pD (tCallQ S__law_draw (aK 0 (aD (tK (.int 5)) aNil))) pNil)))
  (sSeq (sIf (tB (t2 ltI (tV 3) (tK (.int 2)))) (sRet (t2 mulF (tTupQ (dCons (t2 ixD (tTupQ (dCons (tK (.str "tray")) (dCons (tK (.str "pile")) dNil))) (tV 3)) dNil)) (tV 2))) sNil)
  (sRet (tCA tupD (dCons (tFz (tLcQ (rg1 (tV 2)) (gN 4) tY (t2 ixD (tTupQ (dCons (tK (.str "tray")) (dCons (tK (.str "pile")) dNil))) (tCallQ S__law_draw (aK 0 (aD (tK (.int 2)) aNil)))) [4])) dNil)))))
def t__law_short_word (S__law_cut : PSpec) : TQS := (sSeq (sSet 1 (tFz (tLstQ (dCons (tK (.int 1)) dNil))))
  (sSeq (sFor (iQ (tV 0)) (gN 2) (sSeq (sSetL 3 (tLstQ dNil))
  (sSeq (sFor (iQ (tV 2)) (gN 4) (sExpr (tOwnM 3 extC (dCons (qIf (tB (t2 eqD (tV 4) (tK (.str "tray")))) (tV 1) (tFz (tLcQ (iQ (t1 revD (tV 1))) (gN 5) tY (t1 negI (tV 5)) [5]))) dNil))))
  (sSet 1 (tCallQ S__law_cut (aD (tV 3) aNil))))))
  (sRet (tV 1))))
def t__law_rows (S__law_nexts : PSpec) : TQS := (sSeq (sPar2 2 3 (pD (tCallQ S__law_nexts (aD (tV 0) aNil)) (pD (tDispK [((tK (.int 0)), (tK (.int 1)))]) pNil)))
  (sSeq (sFor (rg1 (tV 1)) (gN 4) (sSeq (sDn 5)
  (sSeq (sFor (iKeysQ (tV 3)) (gN 6) (sFor (iQ (tIxN 2 (tV 6))) (gN 7) (sIf (tB (t2 geI (tV 7) (tK (.int 0)))) (sSetD 5 (t2 addF (tDgetD 5 (t2 addF (tV 7) (tK (.int 1))) (tK (.int 0))) (tGetK (tV 3) (tV 6))) (t2 addF (tV 7) (tK (.int 1)))) sNil)))
  (sSet 3 (tVd 5)))))
  (sRet (tCA sumD (dCons (tFz (tVals (tV 3))) dNil)))))
def t_is_code_value (S_is_between : PSpec) : TQS := (sSeq (sIf (qOr (qNot (tB (isD isTup (tV 1)))) (tB (t2 neD (tLenN 1) (tLenN 0)))) (sRet (tK (.bool false))) sNil)
  (sRet (tCA allD (dCons (tFz (tLcQ (iZip (tV 0) (tV 1)) (gT 2 (gsCons (gN 2) (gsCons (gN 3) gsNil))) tY (tCallQ S_is_between (aD (tV 3) (aD (tK (.int 0)) (aD (t2 subI (tLenN 2) (tK (.int 1))) aNil)))) [2, 3])) dNil))))
def t_need_desks (S_are_desks_value : PSpec) : TQS := (sIf (qNot (tB (tCallQ S_are_desks_value (aD (tV 0) aNil)))) sNever sNil)
def t__law_desks (S__law_desk : PSpec) (S__law_draw : PSpec) (S__law_pick : PSpec) : TQS := (sSeq (sPar3 3 4 5 (pO (tLstQ dNil) (pD (tK (.int 1)) (pD (tCallQ S__law_desk (aK 0 (aD (tK (.int 6)) aNil))) pNil))))
  (sSeq (sSet 6 (t2 eqD (tCallQ S__law_draw (aK 0 (aD (tK (.int 3)) aNil))) (tK (.int 0))))
  (sSeq (sFor (rg1 (tCallQ S__law_draw (aK 0 (aD (t2 addF (tV 1) (tK (.int 1))) aNil)))) (gN 7) (sSeq (sSet 8 (qIf (tB (tV 6)) (tV 5) (tCallQ S__law_desk (aK 0 (aD (tCallQ S__law_pick (aK 0 (aD (tFz (tLstQ (dCons (tK (.int 2)) (dCons (tK (.int 3)) (dCons (tK (.int 2)) (dCons (tK (.int 6)) dNil)))))) aNil))) aNil)))))
  (sIf (tB (t2 leI (t2 mulF (tV 4) (tLenN 8)) (tV 2))) (sSeq (sExpr (tOwnM 3 appC (dCons (tV 8) dNil)))
  (sSet 4 (t2 mulF (tV 4) (tLenN 8)))) sNil)))
  (sRet (tCA tupD (dCons (tV 3) dNil))))))
def t_need_code (S_need_desks : PSpec) (S_is_code_value : PSpec) : TQS := (sSeq (sExpr (tCallQ S_need_desks (aD (tV 0) aNil)))
  (sIf (qNot (tB (tCallQ S_is_code_value (aD (tV 0) (aD (tV 1) aNil))))) sNever sNil))
def t_codes_number (S_need_desks : PSpec) (S_many_codes : PSpec) : TQS := (sSeq (sExpr (tCallQ S_need_desks (aD (tV 0) aNil)))
  (sRet (tCallQ S_many_codes (aD (tV 0) aNil))))
def t_code_at (S_need_desks : PSpec) (S_is_between : PSpec) (S_many_codes : PSpec) (S_raw_code_at : PSpec) : TQS := (sSeq (sExpr (tCallQ S_need_desks (aD (tV 0) aNil)))
  (sSeq (sIf (qNot (tB (tCallQ S_is_between (aD (tV 1) (aD (tK (.int 0)) (aD (t2 subI (tCallQ S_many_codes (aD (tV 0) aNil)) (tK (.int 1))) aNil)))))) sNever sNil)
  (sRet (tCallQ S_raw_code_at (aD (tV 0) (aD (tV 1) aNil))))))
def t_folded_word (S_need_desks : PSpec) (S_word_of : PSpec) : TQS := (sSeq (sExpr (tCallQ S_need_desks (aD (tV 0) aNil)))
  (sRet (tCallQ S_word_of (aD (tV 0) aNil))))
def t_sign_rows (S_need_desks : PSpec) (S_need_number : PSpec) (S_many_rows_of_signs : PSpec) (S_word_of : PSpec) : TQS := (sSeq (sExpr (tCallQ S_need_desks (aD (tV 0) aNil)))
  (sSeq (sExpr (tCallQ S_need_number (aD (tV 1) aNil)))
  (sRet (tCallQ S_many_rows_of_signs (aD (tCallQ S_word_of (aD (tV 0) aNil)) (aD (tV 1) aNil))))))
def t_sign_of (S_need_code : PSpec) (S_raw_sign : PSpec) : TQS := (sSeq (sExpr (tCallQ S_need_code (aD (tV 0) (aD (tV 1) aNil))))
  (sRet (tCallQ S_raw_sign (aD (tV 0) (aD (tV 1) aNil)))))
def t_is_ahead (S_need_code : PSpec) (S_raw_position : PSpec) : TQS := (sSeq (sExpr (tCallQ S_need_code (aD (tV 0) (aD (tV 1) aNil))))
  (sSeq (sExpr (tCallQ S_need_code (aD (tV 0) (aD (tV 2) aNil))))
  (sRet (t2 ltI (tCallQ S_raw_position (aD (tV 0) (aD (tV 1) aNil))) (tCallQ S_raw_position (aD (tV 0) (aD (tV 2) aNil)))))))
def t_law (S__law_desks : PSpec) (S__law_pick : PSpec) (S__law_codes : PSpec) (S__law_sign : PSpec) (S__law_draw : PSpec) (S_folded_word : PSpec) (S_codes_number : PSpec) (S_code_at : PSpec) (S_sign_of : PSpec) (S_is_ahead : PSpec) (S_sign_rows : PSpec) (S__law_rows : PSpec) (S__law_short_word : PSpec) : TQS := (sSeq (sFor (rg1 (tK (.int 2))) (gN 2) (sSeq (sSet 3 (tCallQ S__law_desks (aK 1 (aD (tK (.int 12)) (aD (tCallQ S__law_pick (aK 1 (aD (tFz (tLstQ (dCons (tK (.int 120)) (dCons (tK (.int 24)) (dCons (tK (.int 8)) (dCons (tK (.int 60)) (dCons (tK (.int 120)) (dCons (tK (.int 2)) (dCons (tK (.int 24)) (dCons (tK (.int 400)) (dCons (tK (.int 12)) (dCons (tK (.int 60)) (dCons (tK (.int 24)) (dCons (tK (.int 1000)) dNil)))))))))))))) aNil))) aNil)))))
  (sSeq (sSet 4 (tCallQ S__law_codes (aD (tV 3) aNil)))
  (sSeq (sSet 5 (tCA tupD (dCons (tFz (tLcQ (iQ (tV 4)) (gN 13) tY (tCallQ S__law_sign (aD (tV 3) (aD (tV 13) aNil))) [13])) dNil)))
  (sSeq (sSet 6 (qIf (tB (t2 eqD (tCallQ S__law_draw (aK 1 (aD (tK (.int 2)) aNil))) (tK (.int 0)))) (tCallQ S_folded_word (aD (tV 3) aNil)) (tCallKQ S_folded_word [0] aNil (aD (tV 3) aNil))))
  (sSeq (sIf (qOr (tB (t2 neD (tCA reprD (dCons (tV 6) dNil)) (tCA reprD (dCons (tV 5) dNil)))) (tB (t2 neD (tCA reprD (dCons (tCallQ S_codes_number (aD (tV 3) aNil)) dNil)) (tCA reprD (dCons (tLenN 5) dNil))))) (sRet (tK (.bool false))) sNil)
  (sSeq (sFor (rg1 (tK (.int 5))) (gN 7) (sSeq (sSet 8 (tCallQ S__law_draw (aK 1 (aD (tLenN 4) aNil))))
  (sSeq (sIf (qOr (tB (t2 neD (tCA reprD (dCons (tCallQ S_code_at (aD (tV 3) (aD (tV 8) aNil))) dNil)) (tCA reprD (dCons (tIxN 4 (tV 8)) dNil)))) (tB (t2 neD (tCA reprD (dCons (tCallQ S_sign_of (aD (tV 3) (aD (tIxN 4 (tV 8)) aNil))) dNil)) (tCA reprD (dCons (tIxN 5 (tV 8)) dNil))))) (sRet (tK (.bool false))) sNil)
  (sIf (qAnd (tB (t2 gtI (tV 8) (tK (.int 0)))) (tB (t2 (isB true) (tCallQ S_is_ahead (aD (tV 3) (aD (tIxN 4 (t2 subI (tV 8) (tK (.int 1)))) (aD (tIxN 4 (tV 8)) aNil)))) (tK (.bool true))))) (sRet (tK (.bool false))) sNil))))
  (sSeq (sFor (rg1 (tK (.int 3))) (gN 7) (sSeq (sSet 9 (tCallQ S__law_draw (aK 1 (aD (tK (.int 9)) aNil))))
  (sSeq (sSet 10 (qIf (tB (t2 neD (tV 7) (tK (.int 1)))) (tCallQ S_sign_rows (aD (tV 3) (aD (tV 9) aNil))) (tCallKQ S_sign_rows [1, 0] aNil (aD (tV 9) (aD (tV 3) aNil)))))
  (sIf (tB (t2 neD (tCA reprD (dCons (tV 10) dNil)) (tCA reprD (dCons (tCallQ S__law_rows (aD (tCallQ S__law_short_word (aD (tV 3) aNil)) (aD (tV 9) aNil))) dNil)))) (sRet (tK (.bool false))) sNil))))
  (sSeq (sIf (qAnd (tB (t2 ltI (tLenN 3) (tK (.int 12)))) (tB (t2 gtI (tLenN 5) (tK (.int 500))))) (sSeq (sPar2 11 9 (pD (t2 addF (tV 3) (tTupQ (dCons (tTupQ (dCons (tK (.str "tray")) (dCons (tK (.str "pile")) dNil))) dNil))) (pD (tCallQ S__law_draw (aK 1 (aD (tK (.int 9)) aNil))) pNil)))
  (sIf (tB (t2 neD (tCA reprD (dCons (tCallQ S_sign_rows (aD (tV 11) (aD (tV 9) aNil))) dNil)) (tCA reprD (dCons (tCallQ S__law_rows (aD (tCallQ S__law_short_word (aD (tV 11) aNil)) (aD (tV 9) aNil))) dNil)))) (sRet (tK (.bool false))) sNil)) sNil)
  (sIf (tB (t2 ltI (tLenN 3) (tK (.int 12)))) (sSeq (sSet 12 (tCA tupD (dCons (tFz (tLcQ (iQ (t1 revD (tV 5))) (gN 14) tY (t1 negI (tV 14)) [14])) dNil)))
  (sSeq (sIf (tB (t2 neD (tCA reprD (dCons (tCallQ S_folded_word (aD (t2 addF (tV 3) (tTupQ (dCons (tTupQ (dCons (tK (.str "tray")) dNil)) dNil))) aNil)) dNil)) (tCA reprD (dCons (tV 5) dNil)))) (sRet (tK (.bool false))) sNil)
  (sIf (tB (t2 neD (tCA reprD (dCons (tCallQ S_folded_word (aD (t2 addF (tV 3) (tTupQ (dCons (tTupQ (dCons (tK (.str "tray")) (dCons (tK (.str "pile")) dNil))) dNil))) aNil)) dNil)) (tCA reprD (dCons (t2 addF (tV 5) (tV 12)) dNil)))) (sRet (tK (.bool false))) sNil))) sNil))))))))))
  (sRet (tK (.bool true))))
end
section
variable {P : Program} {w : World} {K : PySem.W.Frag} {mg : Str → Option Value} {base : Heap}
structure Txt (K : PySem.W.Frag) (mg : Str → Option Value) : Prop where
  b_len : mg "len" = none
  b_tuple : mg "tuple" = none
  b_list : mg "list" = none
  b_range : mg "range" = none
  b_all : mg "all" = none
  b_sum : mg "sum" = none
  b_max : mg "max" = none
  b_int : mg "int" = none
  b_isinstance : mg "isinstance" = none
  b_repr : mg "repr" = none
  b_enumerate : mg "enumerate" = none
  b_bool : mg "bool" = none
  b_str : mg "str" = none
  b_zip : mg "zip" = none
  c_MOST_PLACES : ∃ z, mg "MOST_PLACES" = some (.int 6 z)
  c_MOST_DESKS : ∃ z, mg "MOST_DESKS" = some (.int 12 z)
  c_PLACES : ∃ a, mg "PLACES" = some (.ref a) ∧ ∀ H, Fz K H (.ref a) (.tuple [.str "tray", .str "pile"])
abbrev N_is_integer : List Str := ["thing"]
theorem sc_is_integer : FnScope N_is_integer ["thing"] (defScope (top 3)) := ⟨rfl, rfl, rfl, by decide +kernel, rfl, by decide +kernel, by decide +kernel⟩
abbrev N_is_between : List Str := ["thing", "least", "most"]
theorem sc_is_between : FnScope N_is_between ["thing", "least", "most"] (defScope (top 4)) := ⟨rfl, rfl, rfl, by decide +kernel, rfl, by decide +kernel, by decide +kernel⟩
abbrev N_is_desk_value : List Str := ["thing", "place"]
theorem sc_is_desk_value : FnScope N_is_desk_value ["thing"] (defScope (top 5)) := ⟨rfl, rfl, rfl, by decide +kernel, rfl, by decide +kernel, by decide +kernel⟩
abbrev N_need_number : List Str := ["number"]
theorem sc_need_number : FnScope N_need_number ["number"] (defScope (top 12)) := ⟨rfl, rfl, rfl, by decide +kernel, rfl, by decide +kernel, by decide +kernel⟩
abbrev N_sign_of_place : List Str := ["place"]
theorem sc_sign_of_place : FnScope N_sign_of_place ["place"] (defScope (top 14)) := ⟨rfl, rfl, rfl, by decide +kernel, rfl, by decide +kernel, by decide +kernel⟩
abbrev N_are_desks_value : List Str := ["thing", "desk"]
theorem sc_are_desks_value : FnScope N_are_desks_value ["thing"] (defScope (top 17)) := ⟨rfl, rfl, rfl, by decide +kernel, rfl, by decide +kernel, by decide +kernel⟩
abbrev N_is_code_value : List Str := ["desks", "thing", "desk", "place"]
theorem sc_is_code_value : FnScope N_is_code_value ["desks", "thing"] (defScope (top 18)) := ⟨rfl, rfl, rfl, by decide +kernel, rfl, by decide +kernel, by decide +kernel⟩
abbrev N_raw_sign : List Str := ["desks", "code", "found", "desk", "place"]
theorem sc_raw_sign : FnScope N_raw_sign ["desks", "code"] (defScope (top 19)) := ⟨rfl, rfl, rfl, by decide +kernel, rfl, by decide +kernel, by decide +kernel⟩
abbrev N_many_codes : List Str := ["desks", "found", "desk"]
theorem sc_many_codes : FnScope N_many_codes ["desks"] (defScope (top 20)) := ⟨rfl, rfl, rfl, by decide +kernel, rfl, by decide +kernel, by decide +kernel⟩
abbrev N_raw_code_at : List Str := ["desks", "n", "found", "size", "desk", "place"]
theorem sc_raw_code_at : FnScope N_raw_code_at ["desks", "n"] (defScope (top 21)) := ⟨rfl, rfl, rfl, by decide +kernel, rfl, by decide +kernel, by decide +kernel⟩
abbrev N_raw_position : List Str := ["desks", "code", "found", "size", "desk", "place"]
theorem sc_raw_position : FnScope N_raw_position ["desks", "code"] (defScope (top 22)) := ⟨rfl, rfl, rfl, by decide +kernel, rfl, by decide +kernel, by decide +kernel⟩
abbrev N_word_of : List Str := ["desks", "found", "desk", "longer", "place", "sign"]
theorem sc_word_of : FnScope N_word_of ["desks"] (defScope (top 23)) := ⟨rfl, rfl, rfl, by decide +kernel, rfl, by decide +kernel, by decide +kernel⟩
abbrev N_many_rows_of_signs : List Str := ["word", "m", "found", "elder", "sign", "length", "more"]
theorem sc_many_rows_of_signs : FnScope N_many_rows_of_signs ["word", "m"] (defScope (top 24)) := ⟨rfl, rfl, rfl, by decide +kernel, rfl, by decide +kernel, by decide +kernel⟩
abbrev N_need_desks : List Str := ["desks"]
theorem sc_need_desks : FnScope N_need_desks ["desks"] (defScope (top 26)) := ⟨rfl, rfl, rfl, by decide +kernel, rfl, by decide +kernel, by decide +kernel⟩
abbrev N_need_code : List Str := ["desks", "code"]
theorem sc_need_code : FnScope N_need_code ["desks", "code"] (defScope (top 27)) := ⟨rfl, rfl, rfl, by decide +kernel, rfl, by decide +kernel, by decide +kernel⟩
abbrev N_sign_of : List Str := ["desks", "code"]
theorem sc_sign_of : FnScope N_sign_of ["desks", "code"] (defScope (top 28)) := ⟨rfl, rfl, rfl, by decide +kernel, rfl, by decide +kernel, by decide +kernel⟩
abbrev N_is_ahead : List Str := ["desks", "one", "other"]
theorem sc_is_ahead : FnScope N_is_ahead ["desks", "one", "other"] (defScope (top 29)) := ⟨rfl, rfl, rfl, by decide +kernel, rfl, by decide +kernel, by decide +kernel⟩
abbrev N_codes_number : List Str := ["desks"]
theorem sc_codes_number : FnScope N_codes_number ["desks"] (defScope (top 30)) := ⟨rfl, rfl, rfl, by decide +kernel, rfl, by decide +kernel, by decide +kernel⟩
abbrev N_code_at : List Str := ["desks", "n"]
theorem sc_code_at : FnScope N_code_at ["desks", "n"] (defScope (top 31)) := ⟨rfl, rfl, rfl, by decide +kernel, rfl, by decide +kernel, by decide +kernel⟩
abbrev N_folded_word : List Str := ["desks"]
theorem sc_folded_word : FnScope N_folded_word ["desks"] (defScope (top 32)) := ⟨rfl, rfl, rfl, by decide +kernel, rfl, by decide +kernel, by decide +kernel⟩
abbrev N_sign_rows : List Str := ["desks", "m"]
theorem sc_sign_rows : FnScope N_sign_rows ["desks", "m"] (defScope (top 34)) := ⟨rfl, rfl, rfl, by decide +kernel, rfl, by decide +kernel, by decide +kernel⟩
abbrev N__law_pick : List Str := ["_law_deck_here", "_law_some"]
theorem sc__law_pick : FnScope N__law_pick ["_law_deck_here", "_law_some"] (defScope (top 38)) := ⟨rfl, rfl, rfl, by decide +kernel, rfl, by decide +kernel, by decide +kernel⟩
abbrev N__law_desk : List Str := ["_law_deck_here", "_law_most", "_law_many", "_law_way", "_law_go"]
theorem sc__law_desk : FnScope N__law_desk ["_law_deck_here", "_law_most"] (defScope (top 39)) := ⟨rfl, rfl, rfl, by decide +kernel, rfl, by decide +kernel, by decide +kernel⟩
abbrev N__law_desks : List Str := ["_law_deck_here", "_law_many", "_law_limit", "_law_found", "_law_codes_here", "_law_first", "_law_is_one", "_law_go", "_law_desk_here"]
theorem sc__law_desks : FnScope N__law_desks ["_law_deck_here", "_law_many", "_law_limit"] (defScope (top 40)) := ⟨rfl, rfl, rfl, by decide +kernel, rfl, by decide +kernel, by decide +kernel⟩
abbrev N__law_sign : List Str := ["_law_desks_here", "_law_code", "_law_many", "_law_desk_here", "_law_place"]
theorem sc__law_sign : FnScope N__law_sign ["_law_desks_here", "_law_code"] (defScope (top 41)) := ⟨rfl, rfl, rfl, by decide +kernel, rfl, by decide +kernel, by decide +kernel⟩
abbrev N__law_codes : List Str := ["_law_desks_here", "_law_found", "_law_desk_here", "_law_more", "_law_place", "_law_word", "_law_code"]
theorem sc__law_codes : FnScope N__law_codes ["_law_desks_here"] (defScope (top 42)) := ⟨rfl, rfl, rfl, by decide +kernel, rfl, by decide +kernel, by decide +kernel⟩
abbrev N__law_cut : List Str := ["_law_word", "_law_found", "_law_many", "_law_runs", "_law_at", "_law_sign_here"]
theorem sc__law_cut : FnScope N__law_cut ["_law_word"] (defScope (top 43)) := ⟨rfl, rfl, rfl, by decide +kernel, rfl, by decide +kernel, by decide +kernel⟩
abbrev N__law_short_word : List Str := ["_law_desks_here", "_law_word", "_law_desk_here", "_law_more", "_law_place", "_law_sign_here"]
theorem sc__law_short_word : FnScope N__law_short_word ["_law_desks_here"] (defScope (top 44)) := ⟨rfl, rfl, rfl, by decide +kernel, rfl, by decide +kernel, by decide +kernel⟩
abbrev N__law_nexts : List Str := ["_law_word", "_law_found", "_law_plus", "_law_minus", "_law_at"]
theorem sc__law_nexts : FnScope N__law_nexts ["_law_word"] (defScope (top 45)) := ⟨rfl, rfl, rfl, by decide +kernel, rfl, by decide +kernel, by decide +kernel⟩
abbrev N__law_rows : List Str := ["_law_word", "_law_m", "_law_nexts_here", "_law_ways", "_law_go", "_law_more", "_law_start", "_law_at"]
theorem sc__law_rows : FnScope N__law_rows ["_law_word", "_law_m"] (defScope (top 46)) := ⟨rfl, rfl, rfl, by decide +kernel, rfl, by decide +kernel, by decide +kernel⟩
abbrev N_law : List Str := ["_law_script", "_law_deck_here", "_law_turn", "_law_desks_here", "_law_codes_here", "_law_due", "_law_told", "_law_go", "_law_n", "_law_m", "_law_many", "_law_wide", "_law_back", "_law_code", "_law_sign_here"]
theorem sc_law : FnScope N_law ["_law_script"] (defScope (top 47)) := ⟨rfl, rfl, rfl, by decide +kernel, rfl, by decide +kernel, by decide +kernel⟩
theorem kw_folded_word_0_desks {f : Addr} {fd : FuncData} (F : Fun K "folded_word" "folded_word" (top 32) f fd) : KwB K fd ["desks"] ["desks"] 0 [0] := kw_of F fun _ _ _ _ _ _ us ws h1 h2 => match us, ws, h1, h2 with | [], [_], _, _ => rfl
theorem kw_sign_rows_0_m_desks {f : Addr} {fd : FuncData} (F : Fun K "sign_rows" "sign_rows" (top 34) f fd) : KwB K fd ["desks", "m"] ["m", "desks"] 0 [1, 0] := kw_of F fun _ _ _ _ _ _ us ws h1 h2 => match us, ws, h1, h2 with | [], [_, _], _, _ => rfl
theorem dv_is_integer (T : Txt K mg) {S : PSpec}
    {f : Addr} {fd : FuncData} (F : Fun K "is_integer" "is_integer" (top 3) f fd) (len : ∀ as R, S as R → as.length = 1)
    (hread : ∀ as R, S as R → (t_is_integer) { nx := fun _ => R .none, rt := R } (enOf as 0)) : FnG P w K mg base 1 f fd ["thing"] S :=
  FnG.of F sc_is_integer len (t := t_is_integer) (fun cdv A outer s H hG hr => by
    have hu := hr.units
    exact (qss_one (qs_ret (q_and (q_isi kb_int (by rfl) (by rfl) T.b_isinstance (by rfl) T.b_int (qv 0)) (q_one (q_not (q_isi kb_bool (by rfl) (by rfl) T.b_isinstance (by rfl) T.b_bool (qv 0)))))))) hread
theorem dv_is_desk_value (T : Txt K mg) {S : PSpec}
    {f : Addr} {fd : FuncData} (F : Fun K "is_desk_value" "is_desk_value" (top 5) f fd) (len : ∀ as R, S as R → as.length = 1)
    (hread : ∀ as R, S as R → (t_is_desk_value) { nx := fun _ => R .none, rt := R } (enOf as 1)) : FnG P w K mg base 1 f fd ["thing"] S :=
  FnG.of F sc_is_desk_value len (t := t_is_desk_value) (fun cdv A outer s H hG hr => by
    have hu := hr.units
    exact (qss_cons (qs_if (QW.qt (qw_or (qt_not (q_tst (q_isi kb_tup (by rfl) (by rfl) T.b_isinstance (by rfl) T.b_tuple (qv 0)))) (qw_or1 (qt_not (q_tchain op_le op_le q_int (q_lenN 0 (by rfl) T.b_len) (q_gint (by rfl) T.c_MOST_PLACES)))))) (qss_one (qs_ret q_bl)) qss_nil)
      (qss_one (qs_ret (q_all rfl (by rfl) T.b_all (q_frz (ql_lc (own := [("place", 1)]) rfl sc_is_desk_value.nd (qi_e (qv 0)) (blkOk_by (own := [("place", 1)]) (N := N_is_desk_value) (sc := defScope (top 5)) (by decide +kernel)) (fun _ _ _ _ _ => (qg_name 1 sc_is_desk_value.nd)) (by decide) (fun _ _ _ _ _ => qts_nil) (fun _ _ _ _ _ => (q_and (q_isi kb_str (by rfl) (by rfl) T.b_isinstance (by rfl) T.b_str (qv 1)) (q_one (q_in (qv 1) (q_gtup (by rfl) T.c_PLACES)))))))))))) hread
theorem dv_sign_of_place (T : Txt K mg) {S : PSpec}
    {f : Addr} {fd : FuncData} (F : Fun K "sign_of_place" "sign_of_place" (top 14) f fd) (len : ∀ as R, S as R → as.length = 1)
    (hread : ∀ as R, S as R → (t_sign_of_place) { nx := fun _ => R .none, rt := R } (enOf as 0)) : FnG P w K mg base 1 f fd ["place"] S :=
  FnG.of F sc_sign_of_place len (t := t_sign_of_place) (fun cdv A outer s H hG hr => by
    have hu := hr.units
    exact (qss_one (qs_ret (q_ifExp (q_teq hu (qv 0) q_str) q_int (q_neg q_int))))) hread
theorem dv_many_codes (T : Txt K mg) {S : PSpec}
    {f : Addr} {fd : FuncData} (F : Fun K "many_codes" "many_codes" (top 20) f fd) (len : ∀ as R, S as R → as.length = 1)
    (hread : ∀ as R, S as R → (t_many_codes) { nx := fun _ => R .none, rt := R } (enOf as 2)) : FnG P w K mg base 1 f fd ["desks"] S :=
  FnG.of F sc_many_codes len (t := t_many_codes) (fun cdv A outer s H hG hr => by
    have hu := hr.units
    exact (qss_cons (qs_set 1 sc_many_codes.nd q_int)
      (qss_cons (qs_for PassesOwn.never rfl (qi_e (qv 0)) (qg_name 2 sc_many_codes.nd) (qss_one (qs_set 1 sc_many_codes.nd (q_mulF (qv 1) (q_lenN 2 (by rfl) T.b_len)))))
      (qss_one (qs_ret (qv 1)))))) hread
theorem dv_raw_position (T : Txt K mg) {S : PSpec}
    {f : Addr} {fd : FuncData} (F : Fun K "raw_position" "raw_position" (top 22) f fd) (len : ∀ as R, S as R → as.length = 2)
    (hread : ∀ as R, S as R → (t_raw_position) { nx := fun _ => R .none, rt := R } (enOf as 4)) : FnG P w K mg base 1 f fd ["desks", "code"] S :=
  FnG.of F sc_raw_position len (t := t_raw_position) (fun cdv A outer s H hG hr => by
    have hu := hr.units
    exact (qss_cons (qs_asg (q_tup (qd_cons q_int (qd_cons q_int qd_nil))) (qg_tup rfl (qgs_cons (qg_name 2 sc_raw_position.nd) (qgs_cons (qg_name 3 sc_raw_position.nd) qgs_nil))))
      (qss_cons (qs_for PassesOwn.never rfl (qi_zip (by rfl) T.b_zip (qv 0) (qv 1)) (qg_tup rfl (qgs_cons (qg_name 4 sc_raw_position.nd) (qgs_cons (qg_name 5 sc_raw_position.nd) qgs_nil))) (qss_cons (qs_if (q_teq hu (q_ixN 4 (qv 5)) q_str) (qss_one (qs_set 2 sc_raw_position.nd (q_sub (q_sub (qv 3) q_int) (qv 2)))) qss_nil)
      (qss_one (qs_par2 2 3 rfl sc_raw_position.nd (qp_d (q_addF (q_mulF (qv 5) (qv 3)) (qv 2)) (qp_d (q_mulF (qv 3) (q_lenN 4 (by rfl) T.b_len)) qp_nil))))))
      (qss_one (qs_ret (qv 2)))))) hread
theorem dv_word_of (T : Txt K mg) {S : PSpec}
    {f : Addr} {fd : FuncData} (F : Fun K "word_of" "word_of" (top 23) f fd) (len : ∀ as R, S as R → as.length = 1)
    (hread : ∀ as R, S as R → (t_word_of) { nx := fun _ => R .none, rt := R } (enOf as 5)) : FnG P w K mg base 1 f fd ["desks"] S :=
  FnG.of F sc_word_of len (t := t_word_of) (fun cdv A outer s H hG hr => by
    have hu := hr.units
    exact (qss_cons (qs_set 1 sc_word_of.nd (q_tup (qd_cons q_int qd_nil)))
      (qss_cons (qs_for PassesOwn.never rfl (qi_e (qv 0)) (qg_name 2 sc_word_of.nd) (qss_cons (qs_set 3 sc_word_of.nd (q_tup qd_nil))
      (qss_cons (qs_for PassesOwn.never rfl (qi_e (qv 2)) (qg_name 4 sc_word_of.nd) (qss_one (qs_set 3 sc_word_of.nd (q_addF (qv 3) (q_ifExp (q_teq hu (qv 4) q_str) (qv 1) (q_tuple (by rfl) T.b_tuple (q_frz (ql_lc (own := [("sign", 5)]) rfl sc_word_of.nd (qi_e (q_rev (qv 1))) (blkOk_by (own := [("sign", 5)]) (N := N_word_of) (sc := defScope (top 23)) (by decide +kernel)) (fun _ _ _ _ _ => (qg_name 5 sc_word_of.nd)) (by decide) (fun _ _ _ _ _ => qts_nil) (fun _ _ _ _ _ => (q_neg (qv 5)))))))))))
      (qss_one (qs_set 1 sc_word_of.nd (qv 3))))))
      (qss_one (qs_ret (qv 1)))))) hread
theorem dv_many_rows_of_signs (T : Txt K mg) {S : PSpec}
    {f : Addr} {fd : FuncData} (F : Fun K "many_rows_of_signs" "many_rows_of_signs" (top 24) f fd) (len : ∀ as R, S as R → as.length = 2)
    (hread : ∀ as R, S as R → (t_many_rows_of_signs) { nx := fun _ => R .none, rt := R } (enOf as 5)) : FnG P w K mg base 1 f fd ["word", "m"] S :=
  FnG.of F sc_many_rows_of_signs len (t := t_many_rows_of_signs) (fun cdv A outer s H hG hr => by
    have hu := hr.units
    exact (qss_cons (qs_par2K 2 3 rfl sc_many_rows_of_signs.nd (ql_add (q_frz (ql_lst (qd_cons q_int qd_nil))) (q_frz (ql_rep (q_frz (ql_lst (qd_cons q_int qd_nil))) (qv 1)))) (qk_disp2 (k1 := 1) (k2 := -1) q_int (ql_rep (q_frz (ql_lst (qd_cons q_int qd_nil))) (q_addF (qv 1) q_int)) (q_neg q_int) (ql_rep (q_frz (ql_lst (qd_cons q_int qd_nil))) (q_addF (qv 1) q_int))))
      (qss_cons (qs_for PassesOwn.never rfl (qi_e (qv 0)) (qg_name 4 sc_many_rows_of_signs.nd) (qss_one (qs_for PassesOwn.never rfl (qi_range3 (by rfl) T.b_range (qv 1) q_int (q_neg q_int)) (qg_name 5 sc_many_rows_of_signs.nd) (qss_cons (qs_set 6 sc_many_rows_of_signs.nd (q_ixN 2 (q_sub (qv 5) q_int)))
      (qss_cons (qs_augIx 2 ip_add (qv 5) (q_sub (qv 6) (q_ixK 3 hu (qv 4) (qv 5))))
      (qss_one (qs_setIxK 3 hu (qv 6) (qv 4) (qv 5))))))))
      (qss_one (qs_ret (q_ixN 2 (qv 1))))))) hread
theorem dv__law_sign (T : Txt K mg) {S : PSpec}
    {f : Addr} {fd : FuncData} (F : Fun K "_law_sign" "_law_sign" (top 41) f fd) (len : ∀ as R, S as R → as.length = 2)
    (hread : ∀ as R, S as R → (t__law_sign) { nx := fun _ => R .none, rt := R } (enOf as 3)) : FnG P w K mg base 1 f fd ["_law_desks_here", "_law_code"] S :=
  FnG.of F sc__law_sign len (t := t__law_sign) (fun cdv A outer s H hG hr => by
    have hu := hr.units
    exact (qss_cons (qs_set 2 sc__law_sign.nd (q_len (by rfl) T.b_len (q_frz (ql_lc (own := [("_law_desk_here", 3), ("_law_place", 4)]) rfl sc__law_sign.nd (qi_zip (by rfl) T.b_zip (qv 0) (qv 1)) (blkOk_by (own := [("_law_desk_here", 3), ("_law_place", 4)]) (N := N__law_sign) (sc := defScope (top 41)) (by decide +kernel)) (fun _ _ _ _ _ => (qg_tup rfl (qgs_cons (qg_name 3 sc__law_sign.nd) (qgs_cons (qg_name 4 sc__law_sign.nd) qgs_nil)))) (by decide) (fun _ _ _ _ _ => (qts_one (q_teq hu (q_ixN 3 (qv 4)) q_str))) (fun _ _ _ _ _ => q_int)))))
      (qss_one (qs_ret (q_ifExp (q_teq hu (q_band (qv 2) q_int) q_int) q_int (q_neg q_int)))))) hread
theorem dv__law_codes (T : Txt K mg) {S : PSpec}
    {f : Addr} {fd : FuncData} (F : Fun K "_law_codes" "_law_codes" (top 42) f fd) (len : ∀ as R, S as R → as.length = 1)
    (hread : ∀ as R, S as R → (t__law_codes) { nx := fun _ => R .none, rt := R } (enOf as 6)) : FnG P w K mg base 1 f fd ["_law_desks_here"] S :=
  FnG.of F sc__law_codes len (t := t__law_codes) (fun cdv A outer s H hG hr => by
    have hu := hr.units
    exact (qss_cons (qs_set 1 sc__law_codes.nd (q_frz (ql_lst (qd_cons (q_tup qd_nil) qd_nil))))
      (qss_cons (qs_for PassesOwn.never rfl (qi_e (qv 0)) (qg_name 2 sc__law_codes.nd) (qss_cons (qs_setL 3 sc__law_codes.nd (ql_lst qd_nil))
      (qss_cons (qs_for PassesOwn.never rfl (qi_enum (by rfl) T.b_enumerate (qv 2)) (qg_tup rfl (qgs_cons (qg_name 4 sc__law_codes.nd) (qgs_cons (qg_name 5 sc__law_codes.nd) qgs_nil))) (qss_one (qs_expr (q_extend 3 (q_frz (ql_lc (own := [("_law_code", 6)]) rfl sc__law_codes.nd (qi_e (q_ifExp (q_teq hu (qv 5) q_str) (qv 1) (q_rev (qv 1)))) (blkOk_by (own := [("_law_code", 6)]) (N := N__law_codes) (sc := defScope (top 42)) (by decide +kernel)) (fun _ _ _ _ _ => (qg_name 6 sc__law_codes.nd)) (by decide) (fun _ _ _ _ _ => qts_nil) (fun _ _ _ _ _ => (q_addF (qv 6) (q_tup (qd_cons (qv 4) qd_nil))))))))))
      (qss_one (qs_set 1 sc__law_codes.nd (qv 3))))))
      (qss_one (qs_ret (qv 1)))))) hread
theorem dv__law_cut (T : Txt K mg) {S : PSpec}
    {f : Addr} {fd : FuncData} (F : Fun K "_law_cut" "_law_cut" (top 43) f fd) (len : ∀ as R, S as R → as.length = 1)
    (hread : ∀ as R, S as R → (t__law_cut) { nx := fun _ => R .none, rt := R } (enOf as 5)) : FnG P w K mg base 1 f fd ["_law_word"] S :=
  FnG.of F sc__law_cut len (t := t__law_cut) (fun cdv A outer s H hG hr => by
    have hu := hr.units
    exact (qss_cons (qs_par3 1 2 3 rfl sc__law_cut.nd (qp_o (ql_lst qd_nil) (qp_d q_int (qp_d q_int qp_nil))))
      (qss_cons (qs_for PassesOwn.never rfl (qi_enum (by rfl) T.b_enumerate (qv 0)) (qg_tup rfl (qgs_cons (qg_name 4 sc__law_cut.nd) (qgs_cons (qg_name 5 sc__law_cut.nd) qgs_nil))) (qss_cons (qs_if (QW.qt (qw_or (q_teq hu (qv 4) q_int) (qw_or1 (q_tne hu (q_ixN 0 (q_sub (qv 4) q_int)) (qv 5))))) (qss_one (qs_par2 2 3 rfl sc__law_cut.nd (qp_d q_int (qp_d (q_addF (qv 3) q_int) qp_nil)))) qss_nil)
      (qss_cons (qs_set 2 sc__law_cut.nd (q_addF (qv 2) q_int))
      (qss_one (qs_if (QW.qt (qw_and (q_tle (qv 2) q_int) (qw_and1 (q_tle (qv 3) q_int)))) (qss_one (qs_expr (q_append 1 (qv 5)))) qss_nil)))))
      (qss_one (qs_ret (qv 1)))))) hread
theorem dv__law_nexts (T : Txt K mg) {S : PSpec}
    {f : Addr} {fd : FuncData} (F : Fun K "_law_nexts" "_law_nexts" (top 45) f fd) (len : ∀ as R, S as R → as.length = 1)
    (hread : ∀ as R, S as R → (t__law_nexts) { nx := fun _ => R .none, rt := R } (enOf as 4)) : FnG P w K mg base 1 f fd ["_law_word"] S :=
  FnG.of F sc__law_nexts len (t := t__law_nexts) (fun cdv A outer s H hG hr => by
    have hu := hr.units
    exact (qss_cons (qs_par3 1 2 3 rfl sc__law_nexts.nd (qp_o (ql_lst (qd_cons (q_tup (qd_cons (q_neg q_int) (qd_cons (q_neg q_int) qd_nil))) qd_nil)) (qp_d (q_neg q_int) (qp_d (q_neg q_int) qp_nil))))
      (qss_cons (qs_for PassesOwn.never rfl (qi_range3 (by rfl) T.b_range (q_sub (q_lenN 0 (by rfl) T.b_len) q_int) (q_neg q_int) (q_neg q_int)) (qg_name 4 sc__law_nexts.nd) (qss_cons (qs_if (q_teq hu (q_ixN 0 (qv 4)) q_int) (qss_one (qs_set 2 sc__law_nexts.nd (qv 4))) (qss_one (qs_set 3 sc__law_nexts.nd (qv 4))))
      (qss_one (qs_expr (q_append 1 (q_tup (qd_cons (qv 2) (qd_cons (qv 3) qd_nil))))))))
      (qss_one (qs_ret (q_rev (qv 1))))))) hread
theorem dv_is_between (T : Txt K mg)
    {f_is_integer : Addr} {fd_is_integer : FuncData} {S_is_integer : PSpec} (A_is_integer : At K mg "is_integer" ["thing"] (top 3) f_is_integer fd_is_integer) (G_is_integer : FnG P w K mg base 1 f_is_integer fd_is_integer ["thing"] S_is_integer) {S : PSpec}
    {f : Addr} {fd : FuncData} (F : Fun K "is_between" "is_between" (top 4) f fd) (len : ∀ as R, S as R → as.length = 3)
    (hread : ∀ as R, S as R → (t_is_between S_is_integer) { nx := fun _ => R .none, rt := R } (enOf as 0)) : FnG P w K mg base 2 f fd ["thing", "least", "most"] S :=
  FnG.of F sc_is_between len (t := t_is_between S_is_integer) (fun cdv A outer s H hG hr => by
    have hu := hr.units
    exact (qss_one (qs_ret (q_and (q_call G_is_integer hG (hr.mono (by decide)) (by rfl) A_is_integer.m A_is_integer.F.kp A_is_integer.b (qa_d (qv 0) qa_nil)) (q_one (q_chain op_le op_le (qv 1) (qv 0) (qv 2))))))) hread
theorem dv_need_number (T : Txt K mg)
    {f_is_integer : Addr} {fd_is_integer : FuncData} {S_is_integer : PSpec} (A_is_integer : At K mg "is_integer" ["thing"] (top 3) f_is_integer fd_is_integer) (G_is_integer : FnG P w K mg base 1 f_is_integer fd_is_integer ["thing"] S_is_integer) {S : PSpec}
    {f : Addr} {fd : FuncData} (F : Fun K "need_number" "need_number" (top 12) f fd) (len : ∀ as R, S as R → as.length = 1)
    (hread : ∀ as R, S as R → (t_need_number S_is_integer) { nx := fun _ => R .none, rt := R } (enOf as 0)) : FnG P w K mg base 2 f fd ["number"] S :=
  FnG.of F sc_need_number len (t := t_need_number S_is_integer) (fun cdv A outer s H hG hr => by
    have hu := hr.units
    exact (qss_one (qs_if (QW.qt (qw_or (qt_not (q_tst (q_call G_is_integer hG (hr.mono (by decide)) (by rfl) A_is_integer.m A_is_integer.F.kp A_is_integer.b (qa_d (qv 0) qa_nil)))) (qw_or1 (q_tlt (qv 0) q_int)))) (qss_one qs_never) qss_nil))) hread
theorem dv_are_desks_value (T : Txt K mg)
    {f_is_desk_value : Addr} {fd_is_desk_value : FuncData} {S_is_desk_value : PSpec} (A_is_desk_value : At K mg "is_desk_value" ["thing"] (top 5) f_is_desk_value fd_is_desk_value) (G_is_desk_value : FnG P w K mg base 1 f_is_desk_value fd_is_desk_value ["thing"] S_is_desk_value) {S : PSpec}
    {f : Addr} {fd : FuncData} (F : Fun K "are_desks_value" "are_desks_value" (top 17) f fd) (len : ∀ as R, S as R → as.length = 1)
    (hread : ∀ as R, S as R → (t_are_desks_value S_is_desk_value) { nx := fun _ => R .none, rt := R } (enOf as 1)) : FnG P w K mg base 2 f fd ["thing"] S :=
  FnG.of F sc_are_desks_value len (t := t_are_desks_value S_is_desk_value) (fun cdv A outer s H hG hr => by
    have hu := hr.units
    exact (qss_one (qs_ret (q_and (q_isi kb_tup (by rfl) (by rfl) T.b_isinstance (by rfl) T.b_tuple (qv 0)) (q_and (q_le (q_lenN 0 (by rfl) T.b_len) (q_gint (by rfl) T.c_MOST_DESKS)) (q_one (q_all rfl (by rfl) T.b_all (q_frz (ql_lc (own := [("desk", 1)]) rfl sc_are_desks_value.nd (qi_e (qv 0)) (blkOk_by (own := [("desk", 1)]) (N := N_are_desks_value) (sc := defScope (top 17)) (by decide +kernel)) (fun _ _ _ _ _ => (qg_name 1 sc_are_desks_value.nd)) (by decide) (fun _ _ _ _ _ => qts_nil) (fun _ _ _ _ _ => (q_call G_is_desk_value hG (hr.mono (by decide)) (by rfl) A_is_desk_value.m A_is_desk_value.F.kp A_is_desk_value.b (qa_d (qv 1) qa_nil)))))))))))) hread
theorem dv_raw_sign (T : Txt K mg)
    {f_sign_of_place : Addr} {fd_sign_of_place : FuncData} {S_sign_of_place : PSpec} (A_sign_of_place : At K mg "sign_of_place" ["place"] (top 14) f_sign_of_place fd_sign_of_place) (G_sign_of_place : FnG P w K mg base 1 f_sign_of_place fd_sign_of_place ["place"] S_sign_of_place) {S : PSpec}
    {f : Addr} {fd : FuncData} (F : Fun K "raw_sign" "raw_sign" (top 19) f fd) (len : ∀ as R, S as R → as.length = 2)
    (hread : ∀ as R, S as R → (t_raw_sign S_sign_of_place) { nx := fun _ => R .none, rt := R } (enOf as 3)) : FnG P w K mg base 2 f fd ["desks", "code"] S :=
  FnG.of F sc_raw_sign len (t := t_raw_sign S_sign_of_place) (fun cdv A outer s H hG hr => by
    have hu := hr.units
    exact (qss_cons (qs_set 2 sc_raw_sign.nd q_int)
      (qss_cons (qs_for PassesOwn.never rfl (qi_zip (by rfl) T.b_zip (qv 0) (qv 1)) (qg_tup rfl (qgs_cons (qg_name 3 sc_raw_sign.nd) (qgs_cons (qg_name 4 sc_raw_sign.nd) qgs_nil))) (qss_one (qs_set 2 sc_raw_sign.nd (q_mulF (qv 2) (q_call G_sign_of_place hG (hr.mono (by decide)) (by rfl) A_sign_of_place.m A_sign_of_place.F.kp A_sign_of_place.b (qa_d (q_ixN 3 (qv 4)) qa_nil))))))
      (qss_one (qs_ret (qv 2)))))) hread
theorem dv_raw_code_at (T : Txt K mg)
    {f_many_codes : Addr} {fd_many_codes : FuncData} {S_many_codes : PSpec} (A_many_codes : At K mg "many_codes" ["desks"] (top 20) f_many_codes fd_many_codes) (G_many_codes : FnG P w K mg base 1 f_many_codes fd_many_codes ["desks"] S_many_codes) {S : PSpec}
    {f : Addr} {fd : FuncData} (F : Fun K "raw_code_at" "raw_code_at" (top 21) f fd) (len : ∀ as R, S as R → as.length = 2)
    (hread : ∀ as R, S as R → (t_raw_code_at S_many_codes) { nx := fun _ => R .none, rt := R } (enOf as 4)) : FnG P w K mg base 2 f fd ["desks", "n"] S :=
  FnG.of F sc_raw_code_at len (t := t_raw_code_at S_many_codes) (fun cdv A outer s H hG hr => by
    have hu := hr.units
    exact (qss_cons (qs_par2 2 3 rfl sc_raw_code_at.nd (qp_o (ql_lst qd_nil) (qp_d (q_call G_many_codes hG (hr.mono (by decide)) (by rfl) A_many_codes.m A_many_codes.F.kp A_many_codes.b (qa_d (qv 0) qa_nil)) qp_nil)))
      (qss_cons (qs_for PassesOwn.never rfl (qi_e (q_rev (qv 0))) (qg_name 4 sc_raw_code_at.nd) (qss_cons (qs_set 3 sc_raw_code_at.nd (q_fdiv (qv 3) (q_lenN 4 (by rfl) T.b_len)))
      (qss_cons (qs_par2 5 1 rfl sc_raw_code_at.nd (qp_d (q_fdiv (qv 1) (qv 3)) (qp_d (q_mod (qv 1) (qv 3)) qp_nil)))
      (qss_cons (qs_if (q_teq hu (q_ixN 4 (qv 5)) q_str) (qss_one (qs_set 1 sc_raw_code_at.nd (q_sub (q_sub (qv 3) q_int) (qv 1)))) qss_nil)
      (qss_one (qs_expr (q_append 2 (qv 5))))))))
      (qss_one (qs_ret (q_tuple (by rfl) T.b_tuple (q_rev (qv 2)))))))) hread
theorem dv__law_pick (T : Txt K mg)
    {f__law_draw : Addr} {fd__law_draw : FuncData} {S__law_draw : PSpec} (A__law_draw : At K mg "_law_draw" ["_law_deck_here", "_law_below"] (top 37) f__law_draw fd__law_draw) (G__law_draw : FnG P w K mg base 1 f__law_draw fd__law_draw ["_law_deck_here", "_law_below"] S__law_draw) {S : PSpec}
    {f : Addr} {fd : FuncData} (F : Fun K "_law_pick" "_law_pick" (top 38) f fd) (len : ∀ as R, S as R → as.length = 2)
    (hread : ∀ as R, S as R → (t__law_pick S__law_draw) { nx := fun _ => R .none, rt := R } (enOf as 0)) : FnG P w K mg base 2 f fd ["_law_deck_here", "_law_some"] S :=
  FnG.of F sc__law_pick len (t := t__law_pick S__law_draw) (fun cdv A outer s H hG hr => by
    have hu := hr.units
    exact (qss_one (qs_ret (q_ixN 1 (q_call G__law_draw hG (hr.mono (by decide)) (by rfl) A__law_draw.m A__law_draw.F.kp A__law_draw.b (qa_k 0 (qa_d (q_lenN 1 (by rfl) T.b_len) qa_nil))))))) hread
theorem dv__law_desk (T : Txt K mg)
    {f__law_draw : Addr} {fd__law_draw : FuncData} {S__law_draw : PSpec} (A__law_draw : At K mg "_law_draw" ["_law_deck_here", "_law_below"] (top 37) f__law_draw fd__law_draw) (G__law_draw : FnG P w K mg base 1 f__law_draw fd__law_draw ["_law_deck_here", "_law_below"] S__law_draw) {S : PSpec}
    {f : Addr} {fd : FuncData} (F : Fun K "_law_desk" "_law_desk" (top 39) f fd) (len : ∀ as R, S as R → as.length = 2)
    (hread : ∀ as R, S as R → (t__law_desk S__law_draw) { nx := fun _ => R .none, rt := R } (enOf as 3)) : FnG P w K mg base 2 f fd ["_law_deck_here", "_law_most"] S :=
  FnG.of F sc__law_desk len (t := t__law_desk S__law_draw) (fun cdv A outer s H hG hr => by
    have hu := hr.units
    exact (qss_cons (qs_par2 2 3 rfl sc__law_desk.nd (qp_d (q_addF q_int (q_call G__law_draw hG (hr.mono (by decide)) (by rfl) A__law_draw.m A__law_draw.F.kp A__law_draw.b (qa_k 0 (qa_d (qv 1) qa_nil)))) (qp_d (q_call G__law_draw hG (hr.mono (by decide)) (by rfl) A__law_draw.m A__law_draw.F.kp A__law_draw.b (qa_k 0 (qa_d q_int qa_nil))) qp_nil)))
      (qss_cons (qs_if (q_tlt (qv 3) q_int) (qss_one (qs_ret (q_mulF (q_tup (qd_cons (q_ix (q_tup (qd_cons q_str (qd_cons q_str qd_nil))) (qv 3)) qd_nil)) (qv 2)))) qss_nil)
      (qss_one (qs_ret (q_tuple (by rfl) T.b_tuple (q_frz (ql_lc (own := [("_law_go", 4)]) rfl sc__law_desk.nd (qi_range1 (by rfl) T.b_range (qv 2)) (blkOk_by (own := [("_law_go", 4)]) (N := N__law_desk) (sc := defScope (top 39)) (by decide +kernel)) (fun _ _ _ _ _ => (qg_name 4 sc__law_desk.nd)) (by decide) (fun _ _ _ _ _ => qts_nil) (fun _ _ _ _ _ => (q_ix (q_tup (qd_cons q_str (qd_cons q_str qd_nil))) (q_call G__law_draw hG (hr.mono (by decide)) (by rfl) A__law_draw.m A__law_draw.F.kp A__law_draw.b (qa_k 0 (qa_d q_int qa_nil))))))))))))) hread
theorem dv__law_short_word (T : Txt K mg)
    {f__law_cut : Addr} {fd__law_cut : FuncData} {S__law_cut : PSpec} (A__law_cut : At K mg "_law_cut" ["_law_word"] (top 43) f__law_cut fd__law_cut) (G__law_cut : FnG P w K mg base 1 f__law_cut fd__law_cut ["_law_word"] S__law_cut) {S : PSpec}
    {f : Addr} {fd : FuncData} (F : Fun K "_law_short_word" "_law_short_word" (top 44) f fd) (len : ∀ as R, S as R → as.length = 1)
    (hread : ∀ as R, S as R → (t__law_short_word S__law_cut) { nx := fun _ => R .none, rt := R } (enOf as 5)) : FnG P w K mg base 2 f fd ["_law_desks_here"] S :=
  FnG.of F sc__law_short_word len (t := t__law_short_word S__law_cut) (fun cdv A outer s H hG hr => by
    have hu := hr.units
    exact (qss_cons (qs_set 1 sc__law_short_word.nd (q_frz (ql_lst (qd_cons q_int qd_nil))))
      (qss_cons (qs_for PassesOwn.never rfl (qi_e (qv 0)) (qg_name 2 sc__law_short_word.nd) (qss_cons (qs_setL 3 sc__law_short_word.nd (ql_lst qd_nil))
      (qss_cons (qs_for PassesOwn.never rfl (qi_e (qv 2)) (qg_name 4 sc__law_short_word.nd) (qss_one (qs_expr (q_extend 3 (q_ifExp (q_teq hu (qv 4) q_str) (qv 1) (q_frz (ql_lc (own := [("_law_sign_here", 5)]) rfl sc__law_short_word.nd (qi_e (q_rev (qv 1))) (blkOk_by (own := [("_law_sign_here", 5)]) (N := N__law_short_word) (sc := defScope (top 44)) (by decide +kernel)) (fun _ _ _ _ _ => (qg_name 5 sc__law_short_word.nd)) (by decide) (fun _ _ _ _ _ => qts_nil) (fun _ _ _ _ _ => (q_neg (qv 5))))))))))
      (qss_one (qs_set 1 sc__law_short_word.nd (q_call G__law_cut hG (hr.mono (by decide)) (by rfl) A__law_cut.m A__law_cut.F.kp A__law_cut.b (qa_d (qv 3) qa_nil)))))))
      (qss_one (qs_ret (qv 1)))))) hread
theorem dv__law_rows (T : Txt K mg)
    {f__law_nexts : Addr} {fd__law_nexts : FuncData} {S__law_nexts : PSpec} (A__law_nexts : At K mg "_law_nexts" ["_law_word"] (top 45) f__law_nexts fd__law_nexts) (G__law_nexts : FnG P w K mg base 1 f__law_nexts fd__law_nexts ["_law_word"] S__law_nexts) {S : PSpec}
    {f : Addr} {fd : FuncData} (F : Fun K "_law_rows" "_law_rows" (top 46) f fd) (len : ∀ as R, S as R → as.length = 2)
    (hread : ∀ as R, S as R → (t__law_rows S__law_nexts) { nx := fun _ => R .none, rt := R } (enOf as 6)) : FnG P w K mg base 2 f fd ["_law_word", "_law_m"] S :=
  FnG.of F sc__law_rows len (t := t__law_rows S__law_nexts) (fun cdv A outer s H hG hr => by
    have hu := hr.units
    exact (qss_cons (qs_par2 2 3 rfl sc__law_rows.nd (qp_d (q_call G__law_nexts hG (hr.mono (by decide)) (by rfl) A__law_nexts.m A__law_nexts.F.kp A__law_nexts.b (qa_d (qv 0) qa_nil)) (qp_d (q_dispK (qpp_cons q_int q_int qpp_nil)) qp_nil)))
      (qss_cons (qs_for PassesOwn.never rfl (qi_range1 (by rfl) T.b_range (qv 1)) (qg_name 4 sc__law_rows.nd) (qss_cons (qs_dn 5 sc__law_rows.nd)
      (qss_cons (qs_for PassesOwn.never rfl (qi_keysK (qv 3)) (qg_name 6 sc__law_rows.nd) (qss_one (qs_for PassesOwn.never rfl (qi_e (q_ixN 2 (qv 6))) (qg_name 7 sc__law_rows.nd) (qss_one (qs_if (q_tge (qv 7) q_int) (qss_one (qs_setD 5 hu (q_addF (q_dgetD 5 hu (q_addF (qv 7) q_int) q_int) (q_getK hu (qv 3) (qv 6))) (q_addF (qv 7) q_int))) qss_nil)))))
      (qss_one (qs_set 3 sc__law_rows.nd (qvd 5))))))
      (qss_one (qs_ret (q_sum rfl (by rfl) T.b_sum (q_frz (ql_vals rfl (by rfl) T.b_list (qv 3))))))))) hread
theorem dv_is_code_value (T : Txt K mg)
    {f_is_between : Addr} {fd_is_between : FuncData} {S_is_between : PSpec} (A_is_between : At K mg "is_between" ["thing", "least", "most"] (top 4) f_is_between fd_is_between) (G_is_between : FnG P w K mg base 2 f_is_between fd_is_between ["thing", "least", "most"] S_is_between) {S : PSpec}
    {f : Addr} {fd : FuncData} (F : Fun K "is_code_value" "is_code_value" (top 18) f fd) (len : ∀ as R, S as R → as.length = 2)
    (hread : ∀ as R, S as R → (t_is_code_value S_is_between) { nx := fun _ => R .none, rt := R } (enOf as 2)) : FnG P w K mg base 3 f fd ["desks", "thing"] S :=
  FnG.of F sc_is_code_value len (t := t_is_code_value S_is_between) (fun cdv A outer s H hG hr => by
    have hu := hr.units
    exact (qss_cons (qs_if (QW.qt (qw_or (qt_not (q_tst (q_isi kb_tup (by rfl) (by rfl) T.b_isinstance (by rfl) T.b_tuple (qv 1)))) (qw_or1 (q_tne hu (q_lenN 1 (by rfl) T.b_len) (q_lenN 0 (by rfl) T.b_len))))) (qss_one (qs_ret q_bl)) qss_nil)
      (qss_one (qs_ret (q_all rfl (by rfl) T.b_all (q_frz (ql_lc (own := [("desk", 2), ("place", 3)]) rfl sc_is_code_value.nd (qi_zip (by rfl) T.b_zip (qv 0) (qv 1)) (blkOk_by (own := [("desk", 2), ("place", 3)]) (N := N_is_code_value) (sc := defScope (top 18)) (by decide +kernel)) (fun _ _ _ _ _ => (qg_tup rfl (qgs_cons (qg_name 2 sc_is_code_value.nd) (qgs_cons (qg_name 3 sc_is_code_value.nd) qgs_nil)))) (by decide) (fun _ _ _ _ _ => qts_nil) (fun _ _ _ _ _ => (q_call G_is_between hG (hr.mono (by decide)) (by rfl) A_is_between.m A_is_between.F.kp A_is_between.b (qa_d (qv 3) (qa_d q_int (qa_d (q_sub (q_lenN 2 (by rfl) T.b_len) q_int) qa_nil)))))))))))) hread
theorem dv_need_desks (T : Txt K mg)
    {f_are_desks_value : Addr} {fd_are_desks_value : FuncData} {S_are_desks_value : PSpec} (A_are_desks_value : At K mg "are_desks_value" ["thing"] (top 17) f_are_desks_value fd_are_desks_value) (G_are_desks_value : FnG P w K mg base 2 f_are_desks_value fd_are_desks_value ["thing"] S_are_desks_value) {S : PSpec}
    {f : Addr} {fd : FuncData} (F : Fun K "need_desks" "need_desks" (top 26) f fd) (len : ∀ as R, S as R → as.length = 1)
    (hread : ∀ as R, S as R → (t_need_desks S_are_desks_value) { nx := fun _ => R .none, rt := R } (enOf as 0)) : FnG P w K mg base 3 f fd ["desks"] S :=
  FnG.of F sc_need_desks len (t := t_need_desks S_are_desks_value) (fun cdv A outer s H hG hr => by
    have hu := hr.units
    exact (qss_one (qs_if (qt_not (q_tst (q_call G_are_desks_value hG (hr.mono (by decide)) (by rfl) A_are_desks_value.m A_are_desks_value.F.kp A_are_desks_value.b (qa_d (qv 0) qa_nil)))) (qss_one qs_never) qss_nil))) hread
theorem dv__law_desks (T : Txt K mg)
    {f__law_desk : Addr} {fd__law_desk : FuncData} {S__law_desk : PSpec} (A__law_desk : At K mg "_law_desk" ["_law_deck_here", "_law_most"] (top 39) f__law_desk fd__law_desk) (G__law_desk : FnG P w K mg base 2 f__law_desk fd__law_desk ["_law_deck_here", "_law_most"] S__law_desk)
    {f__law_draw : Addr} {fd__law_draw : FuncData} {S__law_draw : PSpec} (A__law_draw : At K mg "_law_draw" ["_law_deck_here", "_law_below"] (top 37) f__law_draw fd__law_draw) (G__law_draw : FnG P w K mg base 1 f__law_draw fd__law_draw ["_law_deck_here", "_law_below"] S__law_draw)
    {f__law_pick : Addr} {fd__law_pick : FuncData} {S__law_pick : PSpec} (A__law_pick : At K mg "_law_pick" ["_law_deck_here", "_law_some"] (top 38) f__law_pick fd__law_pick) (G__law_pick : FnG P w K mg base 2 f__law_pick fd__law_pick ["_law_deck_here", "_law_some"] S__law_pick) {S : PSpec}
    {f : Addr} {fd : FuncData} (F : Fun K "_law_desks" "_law_desks" (top 40) f fd) (len : ∀ as R, S as R → as.length = 3)
    (hread : ∀ as R, S as R → (t__law_desks S__law_desk S__law_draw S__law_pick) { nx := fun _ => R .none, rt := R } (enOf as 6)) : FnG P w K mg base 3 f fd ["_law_deck_here", "_law_many", "_law_limit"] S :=
  FnG.of F sc__law_desks len (t := t__law_desks S__law_desk S__law_draw S__law_pick) (fun cdv A outer s H hG hr => by
    have hu := hr.units
    exact (qss_cons (qs_par3 3 4 5 rfl sc__law_desks.nd (qp_o (ql_lst qd_nil) (qp_d q_int (qp_d (q_call G__law_desk hG (hr.mono (by decide)) (by rfl) A__law_desk.m A__law_desk.F.kp A__law_desk.b (qa_k 0 (qa_d q_int qa_nil))) qp_nil))))
      (qss_cons (qs_set 6 sc__law_desks.nd (q_eq hu (q_call G__law_draw hG (hr.mono (by decide)) (by rfl) A__law_draw.m A__law_draw.F.kp A__law_draw.b (qa_k 0 (qa_d q_int qa_nil))) q_int))
      (qss_cons (qs_for PassesOwn.never rfl (qi_range1 (by rfl) T.b_range (q_call G__law_draw hG (hr.mono (by decide)) (by rfl) A__law_draw.m A__law_draw.F.kp A__law_draw.b (qa_k 0 (qa_d (q_addF (qv 1) q_int) qa_nil)))) (qg_name 7 sc__law_desks.nd) (qss_cons (qs_set 8 sc__law_desks.nd (q_ifExp (q_tst (qv 6)) (qv 5) (q_call G__law_desk hG (hr.mono (by decide)) (by rfl) A__law_desk.m A__law_desk.F.kp A__law_desk.b (qa_k 0 (qa_d (q_call G__law_pick hG (hr.mono (by decide)) (by rfl) A__law_pick.m A__law_pick.F.kp A__law_pick.b (qa_k 0 (qa_d (q_frz (ql_lst (qd_cons q_int (qd_cons q_int (qd_cons q_int (qd_cons q_int qd_nil)))))) qa_nil))) qa_nil)))))
      (qss_one (qs_if (q_tle (q_mulF (qv 4) (q_lenN 8 (by rfl) T.b_len)) (qv 2)) (qss_cons (qs_expr (q_append 3 (qv 8)))
      (qss_one (qs_set 4 sc__law_desks.nd (q_mulF (qv 4) (q_lenN 8 (by rfl) T.b_len))))) qss_nil))))
      (qss_one (qs_ret (q_tuple (by rfl) T.b_tuple (qv 3)))))))) hread
theorem dv_need_code (T : Txt K mg)
    {f_need_desks : Addr} {fd_need_desks : FuncData} {S_need_desks : PSpec} (A_need_desks : At K mg "need_desks" ["desks"] (top 26) f_need_desks fd_need_desks) (G_need_desks : FnG P w K mg base 3 f_need_desks fd_need_desks ["desks"] S_need_desks)
    {f_is_code_value : Addr} {fd_is_code_value : FuncData} {S_is_code_value : PSpec} (A_is_code_value : At K mg "is_code_value" ["desks", "thing"] (top 18) f_is_code_value fd_is_code_value) (G_is_code_value : FnG P w K mg base 3 f_is_code_value fd_is_code_value ["desks", "thing"] S_is_code_value) {S : PSpec}
    {f : Addr} {fd : FuncData} (F : Fun K "need_code" "need_code" (top 27) f fd) (len : ∀ as R, S as R → as.length = 2)
    (hread : ∀ as R, S as R → (t_need_code S_need_desks S_is_code_value) { nx := fun _ => R .none, rt := R } (enOf as 0)) : FnG P w K mg base 4 f fd ["desks", "code"] S :=
  FnG.of F sc_need_code len (t := t_need_code S_need_desks S_is_code_value) (fun cdv A outer s H hG hr => by
    have hu := hr.units
    exact (qss_cons (qs_expr (q_call G_need_desks hG (hr.mono (by decide)) (by rfl) A_need_desks.m A_need_desks.F.kp A_need_desks.b (qa_d (qv 0) qa_nil)))
      (qss_one (qs_if (qt_not (q_tst (q_call G_is_code_value hG (hr.mono (by decide)) (by rfl) A_is_code_value.m A_is_code_value.F.kp A_is_code_value.b (qa_d (qv 0) (qa_d (qv 1) qa_nil))))) (qss_one qs_never) qss_nil)))) hread
theorem dv_codes_number (T : Txt K mg)
    {f_need_desks : Addr} {fd_need_desks : FuncData} {S_need_desks : PSpec} (A_need_desks : At K mg "need_desks" ["desks"] (top 26) f_need_desks fd_need_desks) (G_need_desks : FnG P w K mg base 3 f_need_desks fd_need_desks ["desks"] S_need_desks)
    {f_many_codes : Addr} {fd_many_codes : FuncData} {S_many_codes : PSpec} (A_many_codes : At K mg "many_codes" ["desks"] (top 20) f_many_codes fd_many_codes) (G_many_codes : FnG P w K mg base 1 f_many_codes fd_many_codes ["desks"] S_many_codes) {S : PSpec}
    {f : Addr} {fd : FuncData} (F : Fun K "codes_number" "codes_number" (top 30) f fd) (len : ∀ as R, S as R → as.length = 1)
    (hread : ∀ as R, S as R → (t_codes_number S_need_desks S_many_codes) { nx := fun _ => R .none, rt := R } (enOf as 0)) : FnG P w K mg base 4 f fd ["desks"] S :=
  FnG.of F sc_codes_number len (t := t_codes_number S_need_desks S_many_codes) (fun cdv A outer s H hG hr => by
    have hu := hr.units
    exact (qss_cons (qs_expr (q_call G_need_desks hG (hr.mono (by decide)) (by rfl) A_need_desks.m A_need_desks.F.kp A_need_desks.b (qa_d (qv 0) qa_nil)))
      (qss_one (qs_ret (q_call G_many_codes hG (hr.mono (by decide)) (by rfl) A_many_codes.m A_many_codes.F.kp A_many_codes.b (qa_d (qv 0) qa_nil)))))) hread
theorem dv_code_at (T : Txt K mg)
    {f_need_desks : Addr} {fd_need_desks : FuncData} {S_need_desks : PSpec} (A_need_desks : At K mg "need_desks" ["desks"] (top 26) f_need_desks fd_need_desks) (G_need_desks : FnG P w K mg base 3 f_need_desks fd_need_desks ["desks"] S_need_desks)
    {f_is_between : Addr} {fd_is_between : FuncData} {S_is_between : PSpec} (A_is_between : At K mg "is_between" ["thing", "least", "most"] (top 4) f_is_between fd_is_between) (G_is_between : FnG P w K mg base 2 f_is_between fd_is_between ["thing", "least", "most"] S_is_between)
    {f_many_codes : Addr} {fd_many_codes : FuncData} {S_many_codes : PSpec} (A_many_codes : At K mg "many_codes" ["desks"] (top 20) f_many_codes fd_many_codes) (G_many_codes : FnG P w K mg base 1 f_many_codes fd_many_codes ["desks"] S_many_codes)
    {f_raw_code_at : Addr} {fd_raw_code_at : FuncData} {S_raw_code_at : PSpec} (A_raw_code_at : At K mg "raw_code_at" ["desks", "n"] (top 21) f_raw_code_at fd_raw_code_at) (G_raw_code_at : FnG P w K mg base 2 f_raw_code_at fd_raw_code_at ["desks", "n"] S_raw_code_at) {S : PSpec}
    {f : Addr} {fd : FuncData} (F : Fun K "code_at" "code_at" (top 31) f fd) (len : ∀ as R, S as R → as.length = 2)
    (hread : ∀ as R, S as R → (t_code_at S_need_desks S_is_between S_many_codes S_raw_code_at) { nx := fun _ => R .none, rt := R } (enOf as 0)) : FnG P w K mg base 4 f fd ["desks", "n"] S :=
  FnG.of F sc_code_at len (t := t_code_at S_need_desks S_is_between S_many_codes S_raw_code_at) (fun cdv A outer s H hG hr => by
    have hu := hr.units
    exact (qss_cons (qs_expr (q_call G_need_desks hG (hr.mono (by decide)) (by rfl) A_need_desks.m A_need_desks.F.kp A_need_desks.b (qa_d (qv 0) qa_nil)))
      (qss_cons (qs_if (qt_not (q_tst (q_call G_is_between hG (hr.mono (by decide)) (by rfl) A_is_between.m A_is_between.F.kp A_is_between.b (qa_d (qv 1) (qa_d q_int (qa_d (q_sub (q_call G_many_codes hG (hr.mono (by decide)) (by rfl) A_many_codes.m A_many_codes.F.kp A_many_codes.b (qa_d (qv 0) qa_nil)) q_int) qa_nil)))))) (qss_one qs_never) qss_nil)
      (qss_one (qs_ret (q_call G_raw_code_at hG (hr.mono (by decide)) (by rfl) A_raw_code_at.m A_raw_code_at.F.kp A_raw_code_at.b (qa_d (qv 0) (qa_d (qv 1) qa_nil)))))))) hread
theorem dv_folded_word (T : Txt K mg)
    {f_need_desks : Addr} {fd_need_desks : FuncData} {S_need_desks : PSpec} (A_need_desks : At K mg "need_desks" ["desks"] (top 26) f_need_desks fd_need_desks) (G_need_desks : FnG P w K mg base 3 f_need_desks fd_need_desks ["desks"] S_need_desks)
    {f_word_of : Addr} {fd_word_of : FuncData} {S_word_of : PSpec} (A_word_of : At K mg "word_of" ["desks"] (top 23) f_word_of fd_word_of) (G_word_of : FnG P w K mg base 1 f_word_of fd_word_of ["desks"] S_word_of) {S : PSpec}
    {f : Addr} {fd : FuncData} (F : Fun K "folded_word" "folded_word" (top 32) f fd) (len : ∀ as R, S as R → as.length = 1)
    (hread : ∀ as R, S as R → (t_folded_word S_need_desks S_word_of) { nx := fun _ => R .none, rt := R } (enOf as 0)) : FnG P w K mg base 4 f fd ["desks"] S :=
  FnG.of F sc_folded_word len (t := t_folded_word S_need_desks S_word_of) (fun cdv A outer s H hG hr => by
    have hu := hr.units
    exact (qss_cons (qs_expr (q_call G_need_desks hG (hr.mono (by decide)) (by rfl) A_need_desks.m A_need_desks.F.kp A_need_desks.b (qa_d (qv 0) qa_nil)))
      (qss_one (qs_ret (q_call G_word_of hG (hr.mono (by decide)) (by rfl) A_word_of.m A_word_of.F.kp A_word_of.b (qa_d (qv 0) qa_nil)))))) hread
theorem dv_sign_rows (T : Txt K mg)
    {f_need_desks : Addr} {fd_need_desks : FuncData} {S_need_desks : PSpec} (A_need_desks : At K mg "need_desks" ["desks"] (top 26) f_need_desks fd_need_desks) (G_need_desks : FnG P w K mg base 3 f_need_desks fd_need_desks ["desks"] S_need_desks)
    {f_need_number : Addr} {fd_need_number : FuncData} {S_need_number : PSpec} (A_need_number : At K mg "need_number" ["number"] (top 12) f_need_number fd_need_number) (G_need_number : FnG P w K mg base 2 f_need_number fd_need_number ["number"] S_need_number)
    {f_many_rows_of_signs : Addr} {fd_many_rows_of_signs : FuncData} {S_many_rows_of_signs : PSpec} (A_many_rows_of_signs : At K mg "many_rows_of_signs" ["word", "m"] (top 24) f_many_rows_of_signs fd_many_rows_of_signs) (G_many_rows_of_signs : FnG P w K mg base 1 f_many_rows_of_signs fd_many_rows_of_signs ["word", "m"] S_many_rows_of_signs)
    {f_word_of : Addr} {fd_word_of : FuncData} {S_word_of : PSpec} (A_word_of : At K mg "word_of" ["desks"] (top 23) f_word_of fd_word_of) (G_word_of : FnG P w K mg base 1 f_word_of fd_word_of ["desks"] S_word_of) {S : PSpec}
    {f : Addr} {fd : FuncData} (F : Fun K "sign_rows" "sign_rows" (top 34) f fd) (len : ∀ as R, S as R → as.length = 2)
    (hread : ∀ as R, S as R → (t_sign_rows S_need_desks S_need_number S_many_rows_of_signs S_word_of) { nx := fun _ => R .none, rt := R } (enOf as 0)) : FnG P w K mg base 4 f fd ["desks", "m"] S :=
  FnG.of F sc_sign_rows len (t := t_sign_rows S_need_desks S_need_number S_many_rows_of_signs S_word_of) (fun cdv A outer s H hG hr => by
    have hu := hr.units
    exact (qss_cons (qs_expr (q_call G_need_desks hG (hr.mono (by decide)) (by rfl) A_need_desks.m A_need_desks.F.kp A_need_desks.b (qa_d (qv 0) qa_nil)))
      (qss_cons (qs_expr (q_call G_need_number hG (hr.mono (by decide)) (by rfl) A_need_number.m A_need_number.F.kp A_need_number.b (qa_d (qv 1) qa_nil)))
      (qss_one (qs_ret (q_call G_many_rows_of_signs hG (hr.mono (by decide)) (by rfl) A_many_rows_of_signs.m A_many_rows_of_signs.F.kp A_many_rows_of_signs.b (qa_d (q_call G_word_of hG (hr.mono (by decide)) (by rfl) A_word_of.m A_word_of.F.kp A_word_of.b (qa_d (qv 0) qa_nil)) (qa_d (qv 1) qa_nil)))))))) hread
theorem dv_sign_of (T : Txt K mg)
    {f_need_code : Addr} {fd_need_code : FuncData} {S_need_code : PSpec} (A_need_code : At K mg "need_code" ["desks", "code"] (top 27) f_need_code fd_need_code) (G_need_code : FnG P w K mg base 4 f_need_code fd_need_code ["desks", "code"] S_need_code)
    {f_raw_sign : Addr} {fd_raw_sign : FuncData} {S_raw_sign : PSpec} (A_raw_sign : At K mg "raw_sign" ["desks", "code"] (top 19) f_raw_sign fd_raw_sign) (G_raw_sign : FnG P w K mg base 2 f_raw_sign fd_raw_sign ["desks", "code"] S_raw_sign) {S : PSpec}
    {f : Addr} {fd : FuncData} (F : Fun K "sign_of" "sign_of" (top 28) f fd) (len : ∀ as R, S as R → as.length = 2)
    (hread : ∀ as R, S as R → (t_sign_of S_need_code S_raw_sign) { nx := fun _ => R .none, rt := R } (enOf as 0)) : FnG P w K mg base 5 f fd ["desks", "code"] S :=
  FnG.of F sc_sign_of len (t := t_sign_of S_need_code S_raw_sign) (fun cdv A outer s H hG hr => by
    have hu := hr.units
    exact (qss_cons (qs_expr (q_call G_need_code hG (hr.mono (by decide)) (by rfl) A_need_code.m A_need_code.F.kp A_need_code.b (qa_d (qv 0) (qa_d (qv 1) qa_nil))))
      (qss_one (qs_ret (q_call G_raw_sign hG (hr.mono (by decide)) (by rfl) A_raw_sign.m A_raw_sign.F.kp A_raw_sign.b (qa_d (qv 0) (qa_d (qv 1) qa_nil))))))) hread
theorem dv_is_ahead (T : Txt K mg)
    {f_need_code : Addr} {fd_need_code : FuncData} {S_need_code : PSpec} (A_need_code : At K mg "need_code" ["desks", "code"] (top 27) f_need_code fd_need_code) (G_need_code : FnG P w K mg base 4 f_need_code fd_need_code ["desks", "code"] S_need_code)
    {f_raw_position : Addr} {fd_raw_position : FuncData} {S_raw_position : PSpec} (A_raw_position : At K mg "raw_position" ["desks", "code"] (top 22) f_raw_position fd_raw_position) (G_raw_position : FnG P w K mg base 1 f_raw_position fd_raw_position ["desks", "code"] S_raw_position) {S : PSpec}
    {f : Addr} {fd : FuncData} (F : Fun K "is_ahead" "is_ahead" (top 29) f fd) (len : ∀ as R, S as R → as.length = 3)
    (hread : ∀ as R, S as R → (t_is_ahead S_need_code S_raw_position) { nx := fun _ => R .none, rt := R } (enOf as 0)) : FnG P w K mg base 5 f fd ["desks", "one", "other"] S :=
  FnG.of F sc_is_ahead len (t := t_is_ahead S_need_code S_raw_position) (fun cdv A outer s H hG hr => by
    have hu := hr.units
    exact (qss_cons (qs_expr (q_call G_need_code hG (hr.mono (by decide)) (by rfl) A_need_code.m A_need_code.F.kp A_need_code.b (qa_d (qv 0) (qa_d (qv 1) qa_nil))))
      (qss_cons (qs_expr (q_call G_need_code hG (hr.mono (by decide)) (by rfl) A_need_code.m A_need_code.F.kp A_need_code.b (qa_d (qv 0) (qa_d (qv 2) qa_nil))))
      (qss_one (qs_ret (q_lt (q_call G_raw_position hG (hr.mono (by decide)) (by rfl) A_raw_position.m A_raw_position.F.kp A_raw_position.b (qa_d (qv 0) (qa_d (qv 1) qa_nil))) (q_call G_raw_position hG (hr.mono (by decide)) (by rfl) A_raw_position.m A_raw_position.F.kp A_raw_position.b (qa_d (qv 0) (qa_d (qv 2) qa_nil))))))))) hread
end
end T44
end P52
section P53
namespace Q
open PySem PySem.Spec PyProof.Rows L2 HT
def kv (c : Addr) (m n : Int) : List (Key × V) := [(.inr "cells", .ref c), (.inr "mixed", .int m), (.inr "turn", .int n)]
theorem kcm : ¬ ((Sum.inr (Str.ofString "cells") : Key) = Sum.inr (Str.ofString "mixed")) := by decide +kernel
theorem kcd : ¬ ((Sum.inr (Str.ofString "cells") : Key) = Sum.inr (Str.ofString "turn")) := by decide +kernel
theorem kmd : ¬ ((Sum.inr (Str.ofString "mixed") : Key) = Sum.inr (Str.ofString "turn")) := by decide +kernel
theorem scm : ¬ (Str.ofString "cells" = Str.ofString "mixed") := by decide +kernel
theorem scd : ¬ (Str.ofString "cells" = Str.ofString "turn") := by decide +kernel
theorem smd : ¬ (Str.ofString "mixed" = Str.ofString "turn") := by decide +kernel
theorem get_cells {c : Addr} {m n : Int} : valV (kv c m n) (Sum.inr (Str.ofString "cells")) = some (.ref c) := valV_pos rfl
theorem get_mixed {c : Addr} {m n : Int} : valV (kv c m n) (Sum.inr (Str.ofString "mixed")) = some (.int m) := by
  unfold kv
  rw [valV_neg kcm, valV_pos rfl]
theorem get_draws {c : Addr} {m n : Int} : valV (kv c m n) (Sum.inr (Str.ofString "turn")) = some (.int n) := by
  unfold kv
  rw [valV_neg kcd, valV_neg kmd, valV_pos rfl]
theorem put_draws {c : Addr} {m n k : Int} : putK (kv c m n) (Sum.inr (Str.ofString "turn")) (.int k) = kv c m k := by
  unfold kv putK
  have h : (List.any [((Sum.inr (Str.ofString "cells") : Key), V.ref c), (.inr "mixed", .int m), (.inr "turn", .int n)] fun kv => decide (kv.1 = Sum.inr (Str.ofString "turn"))) = true := by
    simp [List.any_cons]
  rw [if_pos h]
  simp only [List.map_cons, List.map_nil, if_neg kcd, if_neg kmd, if_true]
theorem dg_cells {H : Hp} {d c : Addr} {m n : Int} (h : H d = some (.dK (kv c m n))) : DGet H d (.str "cells") (some (.ref c)) := by
  have := DGet.k (k := Sum.inr (Str.ofString "cells")) h
  rw [get_cells] at this
  exact this
theorem dg_mixed {H : Hp} {d c : Addr} {m n : Int} (h : H d = some (.dK (kv c m n))) : DGet H d (.str "mixed") (some (.int m)) := by
  have := DGet.k (k := Sum.inr (Str.ofString "mixed")) h
  rw [get_mixed] at this
  exact this
theorem dg_draws {H : Hp} {d c : Addr} {m n : Int} (h : H d = some (.dK (kv c m n))) : DGet H d (.str "turn") (some (.int n)) := by
  have := DGet.k (k := Sum.inr (Str.ofString "turn")) h
  rw [get_draws] at this
  exact this
theorem dp_ints {K : PySem.W.Frag} {H : Hp} : ∀ ns : List Int, DpAll K H (ns.map .int) (ns.map .int)
  | [] => .nil
  | n :: ns => .cons (.int n) (dp_ints ns)
theorem lay_i0 : ∀ ns : List Int, PyData.canLayAll0 (ns.map .int) = true
  | [] => by simp [PyData.canLayAll0]
  | n :: ns => by simp [PyData.canLayAll0, PyData.canLay0, lay_i0 ns]
theorem dep_i0 : ∀ ns : List Int, PyData.depthAll (ns.map .int) = 0
  | [] => by simp [PyData.depthAll]
  | n :: ns => by simp [PyData.depthAll, PyData.depth, dep_i0 ns]
theorem shaped_ints (ns : List Int) : SeqAt.shaped (.list (ns.map .int)) = true := by
  unfold SeqAt.shaped
  simp [PyData.canLay0, lay_i0, PyData.depth, dep_i0]
theorem ite_t2 {b : Bool} {A B : Prop} (h : b = true) (x : A) : if b = true then A else B := by rw [if_pos h]; exact x
theorem snoc_cases {α : Type} (l : List α) : l = [] ∨ ∃ cs z, l = cs ++ [z] := by
  rcases List.eq_nil_or_concat l with h | ⟨cs, z, h⟩
  · exact .inl h
  · exact .inr ⟨cs, z, by simpa using h⟩
theorem small3 : 3 < sizeLine := by decide
theorem merge3 {c : Addr} {m n : Int} : mergeK [] [((Sum.inr (Str.ofString "cells") : Key), V.ref c), (.inr "mixed", .int m), (.inr "turn", .int n)] = [(.inr "cells", .ref c), (.inr "mixed", .int m), (.inr "turn", .int n)] := by
  have a : putK ([] : List (Key × V)) (Sum.inr (Str.ofString "cells")) (.ref c) = [(.inr "cells", .ref c)] := rfl
  have b : putK [((Sum.inr (Str.ofString "cells") : Key), V.ref c)] (Sum.inr (Str.ofString "mixed")) (.int m) = [(.inr "cells", .ref c), (.inr "mixed", .int m)] := by
    unfold putK
    rw [if_neg (by simp [List.any_cons, scm])]
    rfl
  have d : putK [((Sum.inr (Str.ofString "cells") : Key), V.ref c), (.inr "mixed", .int m)] (Sum.inr (Str.ofString "turn")) (.int n) = [(.inr "cells", .ref c), (.inr "mixed", .int m), (.inr "turn", .int n)] := by
    unfold putK
    rw [if_neg (by simp [List.any_cons, scd, smd])]
    rfl
  simp only [mergeK, List.foldl_cons, List.foldl_nil]
  rw [a, b, d]
def spDeck2 (K : PySem.W.Frag) : Sp := fun vs H Q _ => ∃ (a : Addr) (ns : List Int) (n : Int), vs = [.ref a, .int n] ∧ SqL K H a (ns.map V.int) ∧ ns.length ≤ 63 ∧ ∀ (d c : Addr) (H' : Hp), H d = none → H c = none → DkOk H' d c → Same H H' → Q (.ref d) H'
theorem deck2_ps {X : Cx} {s0 : Stmt} {K : PySem.W.Frag} {n : Int} (h : PS X s0 (tAsg (tCall (spDeck2 K) [] E0 (tCons (tVar 0) (tCons (tC (.int n)) tNil))) (gName 1))) : PS X s0 (tAsg (tCall (spDeck K) [] E0 (tCons (tVar 0) tNil)) (gName 1)) :=
  PS.imp h fun D σ H ⟨v, e, q⟩ => ⟨v, e, by
    obtain ⟨a, ns, e2, hS, hl, k⟩ := q
    cases e2
    exact ⟨a, ns, n, rfl, hS, hl, k⟩⟩
end Q
open PySem PySem.Spec PyProof.Rows L2 HT Q
namespace T44
section
variable {P : Program} {w : World} {K : PySem.W.Frag} {mg : Str → Option Value} {base : Heap}
theorem scDraw : FnScope ["_law_deck_here", "_law_below", "_law_figure", "_law_cell"] ["_law_deck_here", "_law_below"] (defScope (top 37)) := ⟨rfl, rfl, rfl, by decide +kernel, rfl, by decide +kernel, by decide +kernel⟩
theorem ok_draw {f : Addr} {fd : FuncData} (F : Fun K "_law_draw" "_law_draw" (top 37) f fd) (mInt : mg "int" = none) (mMax : mg "max" = none) : FnOk P w K mg base CX0 1 f fd ["_law_deck_here", "_law_below"] spDraw := by
  refine F.ok scDraw (fun vs H Q E h => ?_) (fun cdv A outer s H vs Q E hr h => ?_)
  · obtain ⟨d, c, n, rfl, _⟩ := h
    rfl
  · obtain ⟨d, c, n, rfl, ⟨hdc, cells, m, t, hd, hc, hl⟩, hn, hn2, k⟩ := h
    have hd : H d = some (.dK (kv c m t)) := hd
    have hu := hu_of hr
    have hu64 := hr.units
    refine ⟨_, pss_cons (ps_dput hu (pv 0) pe_str (pe_op op_add (pe_dget hu (pv 0) pe_str (fun _ _ => rfl)) pe_int) rfl)
      (pss_cons (ps_set (i := 2) scDraw.nd rfl (Or.inl rfl) (pe_op op_add (pe_dget hu (pv 0) pe_str (fun _ _ => rfl)) (pe_op op_mul pe_int (pe_dget hu (pv 0) pe_str (fun _ _ => rfl)))))
      (pss_cons (ps_if (pt_cmpR (op_neD hu64) (pe_dget hu (pv 0) pe_str (fun _ _ => rfl)) (pe_lst pa_nil) (nomark _))
        (pss_cons (ps_set (i := 3) scDraw.nd rfl (Or.inl rfl) (pe_bm0 PySem.F.plainAttrs_list PySem.F.slot_list_pop PySem.F.type_list_pop mt_pop (pe_dget hu (pv 0) pe_str (fun _ _ => rfl))))
        (pss_cons (ps_if (pt_cmpR op_ge (pv 3) (pe_op op_pow pe_int pe_int) (nomark _))
          (pss_cons (ps_expr (pe_bm PySem.F.plainAttrs_list PySem.F.slot_list_append PySem.F.type_list_append mt_append (pe_dget hu (pv 0) pe_str (fun _ _ => rfl))
            (pa_cons (pe_op op_fdiv (pv 3) (pe_callB (call_max2 rfl) (by rfl) mMax PyProof.Rows.boot_max (pa_cons pe_int (pa_cons (pv 1) pa_nil)))) pa_nil)))
          (pss_one (ps_ret (pe_op op_mod (pe_callTy call_int1 (by rfl) mInt PyProof.Rows.boot_int (pa_cons (pv 3) pa_nil)) (pv 1))))) pss_nil)
        (pss_one (ps_set (i := 2) scDraw.nd rfl (Or.inl rfl) (pe_op op_add (pv 2) (pe_op op_mod (pe_callTy call_int1 (by rfl) mInt PyProof.Rows.boot_int (pa_cons (pv 3) pa_nil)) pe_int)))))) pss_nil)
      (pss_cons (ps_set (i := 2) scDraw.nd rfl (Or.inl rfl) (pe_op op_mod (pe_callTy call_int1 (by rfl) mInt PyProof.Rows.boot_int (pa_cons (pe_op op_add (pe_op op_mul (pv 2) pe_int) pe_int) pa_nil)) pe_int))
      (pss_cons (ps_set (i := 2) scDraw.nd rfl (Or.inl rfl) (pe_op op_mod (pe_callTy call_int1 (by rfl) mInt PyProof.Rows.boot_int (pa_cons (pe_op op_add (pe_op op_add (pe_op op_mul (pv 2) (pv 2)) (pe_op op_mul pe_int (pe_dget hu (pv 0) pe_str (fun _ _ => rfl)))) pe_int) pa_nil)) pe_int))
      (pss_cons (ps_set (i := 2) scDraw.nd rfl (Or.inl rfl) (pe_op op_mod (pe_callTy call_int1 (by rfl) mInt PyProof.Rows.boot_int (pa_cons (pe_op op_mul (pv 2) pe_int) pa_nil)) pe_int))
      (pss_one (ps_ret (pe_op op_mod (pe_callTy call_int1 (by rfl) mInt PyProof.Rows.boot_int (pa_cons (pe_op op_fdiv (pv 2) pe_int) pa_nil)) (pv 1))))))))), ?_⟩
    -- draws = draws + 1
    refine ⟨.ref d, rfl, d, .int t, rfl, dg_draws hd, t, 1, rfl, rfl, .ref d, rfl, d, _, rfl, DPut.k (k := Sum.inr (Str.ofString "turn")) hd small3, ?_⟩
    rw [put_draws]
    have hd1 : upd H d (.dK (kv c m (t + 1))) d = some (.dK (kv c m (t + 1))) := upd_same
    have hc1 : upd H d (.dK (kv c m (t + 1))) c = some (.lst (cells.map .int)) := by rw [upd_ne (Ne.symm hdc)]; exact hc
    have kp1 : ∀ a o, H a = some o → a ≠ d → upd H d (.dK (kv c m (t + 1))) a = some o := fun a o e z => by rw [upd_ne z]; exact e
    generalize upd H d (.dK (kv c m (t + 1))) = H1 at hd1 hc1 kp1 ⊢
    -- number = mixed + C * draws
    refine ⟨.ref d, rfl, d, .int m, rfl, dg_mixed hd1, .ref d, rfl, d, .int (t + 1), rfl, dg_draws hd1, _, _, rfl, rfl, .inl ⟨by decide, by decide⟩, m, _, rfl, rfl, ?_⟩
    -- cells != []
    refine ⟨.ref d, rfl, d, .ref c, rfl, dg_cells hd1, Nat.zero_le _, fun p hp => ?_⟩
    have sm := same_upd (o := .lst []) hp
    refine ⟨.list (cells.map .int), .list [], .lst (SqL.of (sm _ _ hc1)) (dp_ints cells), .lst (SqL.of upd_same) .nil, shaped_ints cells, shaped_ints [], _, rfl, ?_⟩
    have hd2 := sm _ _ hd1
    have hc2 := sm _ _ hc1
    have kp2 : ∀ a o, H a = some o → a ≠ d → upd H1 p (.lst []) a = some o := fun a o e z => sm _ _ (kp1 a o e z)
    clear sm hp
    generalize upd H1 p (.lst []) = H2 at hd2 hc2 kp2 ⊢
    have nn : 0 < n := hn
    rcases snoc_cases cells with rfl | ⟨cs, z, rfl⟩
    · refine iteF ?_
      have dk2 : DkOk H2 d c := ⟨hdc, [], m, t + 1, hd2, hc2, by simp⟩
      refine ⟨_, rfl, _, _, rfl, rfl, .inr ⟨by decide, by decide⟩, _, _, rfl, rfl, .inl ⟨_, rfl, _, _, rfl, rfl, by show (0 : Int) < _; decide, ?_⟩⟩
      refine ⟨_, rfl, _, rfl, _, _, rfl, rfl, .inl ⟨?_, ?_⟩, .ref d, rfl, d, .int (t + 1), rfl, dg_draws hd2, _, _, rfl, rfl, .inl ⟨by decide, by decide⟩, _, _, rfl, rfl, _, _, rfl, rfl, .inl ⟨_, rfl, _, _, rfl, rfl, by show (0 : Int) < _; decide, ?_⟩⟩
      · omega
      · omega
      refine ⟨_, rfl, _, _, rfl, rfl, .inr ⟨by decide, by decide⟩, .inl ⟨_, rfl, _, _, rfl, rfl, by show (0 : Int) < _; decide, ?_⟩⟩
      refine ⟨_, rfl, _, _, rfl, rfl, ⟨by decide, by decide⟩, .inl ⟨_, rfl, _, rfl, _, _, rfl, rfl, nn, ?_⟩⟩
      exact k _ H2 (Int.emod_nonneg _ (by omega)) (Int.emod_lt_of_pos _ nn) dk2 fun a o e z _ => kp2 a o e z
    · have ev : PyData.eqv (.list ((cs ++ [z]).map .int)) (.list []) = false := by
        cases cs <;> simp [PyData.eqv, PyData.eqvAll]
      refine ite_t2 (by rw [ev]; rfl) ?_
      have hc2 : H2 c = some (.lst (cs.map V.int ++ [V.int z])) := by rw [hc2]; simp
      have hl' : cs.length ≤ 62 := by simp at hl; omega
      -- pop
      refine ⟨.ref d, rfl, d, .ref c, rfl, dg_cells hd2, .inl ⟨rfl, _, SqL.of hc2⟩, c, _, .int z, rfl, rfl, hc2, by simp, ?_⟩
      rw [List.dropLast_concat]
      have hd3 : upd H2 c (.lst (cs.map V.int)) d = some (.dK (kv c m (t + 1))) := by rw [upd_ne hdc]; exact hd2
      have hc3 : upd H2 c (.lst (cs.map V.int)) c = some (.lst (cs.map V.int)) := upd_same
      have kp3 : ∀ a o, H a = some o → a ≠ d → a ≠ c → upd H2 c (.lst (cs.map V.int)) a = some o := fun a o e z1 z2 => by rw [upd_ne z2]; exact kp2 a o e z1
      generalize upd H2 c (.lst (cs.map V.int)) = H3 at hd3 hc3 kp3 ⊢
      have dk3 : DkOk H3 d c := ⟨hdc, cs, m, t + 1, hd3, hc3, by omega⟩
      -- cell >= 10 ** 18
      refine ⟨_, rfl, _, _, rfl, rfl, ⟨by decide, by decide, by decide⟩, _, _, rfl, rfl, _, rfl, ?_⟩
      refine ite2 (fun _ => ?_) (fun _ => ?_)
      · -- cells.append(cell // max(2, many)); return int(cell) % many
        refine ⟨.ref d, rfl, d, .ref c, rfl, dg_cells hd3, .inl ⟨rfl, _, SqL.of hc3⟩, _, rfl, _, rfl, _, _, rfl, _, _, rfl, rfl, ⟨?_, ?_⟩, c, _, _, rfl, rfl, hc3, ?_, ?_⟩
        · split <;> omega
        · split <;> omega
        · rw [List.length_map]; exact Nat.lt_of_le_of_lt hl' (by decide)
        refine ⟨_, rfl, .inl ⟨_, rfl, _, rfl, _, _, rfl, rfl, nn, ?_⟩⟩
        refine k _ _ (Int.emod_nonneg _ (by omega)) (Int.emod_lt_of_pos _ nn) ?_ fun a o e z1 z2 => by rw [upd_ne z2]; exact kp3 a o e z1 z2
        refine ⟨hdc, cs ++ [z / (if n > 2 then n else 2)], m, t + 1, by rw [upd_ne hdc]; exact hd3, ?_, by simp; omega⟩
        rw [upd_same, List.map_append]
        rfl
      · refine ⟨_, rfl, _, rfl, .inl ⟨_, rfl, _, _, rfl, rfl, by show (0 : Int) < _; decide, _, _, rfl, rfl, ?_⟩⟩
        refine ⟨_, rfl, _, _, rfl, rfl, .inr ⟨by decide, by decide⟩, _, _, rfl, rfl, .inl ⟨_, rfl, _, _, rfl, rfl, by show (0 : Int) < _; decide, ?_⟩⟩
        refine ⟨_, rfl, _, rfl, _, _, rfl, rfl, .inl ⟨?_, ?_⟩, .ref d, rfl, d, .int (t + 1), rfl, dg_draws hd3, _, _, rfl, rfl, .inl ⟨by decide, by decide⟩, _, _, rfl, rfl, _, _, rfl, rfl, .inl ⟨_, rfl, _, _, rfl, rfl, by show (0 : Int) < _; decide, ?_⟩⟩
        · omega
        · omega
        refine ⟨_, rfl, _, _, rfl, rfl, .inr ⟨by decide, by decide⟩, .inl ⟨_, rfl, _, _, rfl, rfl, by show (0 : Int) < _; decide, ?_⟩⟩
        refine ⟨_, rfl, _, _, rfl, rfl, ⟨by decide, by decide⟩, .inl ⟨_, rfl, _, rfl, _, _, rfl, rfl, nn, ?_⟩⟩
        exact k _ H3 (Int.emod_nonneg _ (by omega)) (Int.emod_lt_of_pos _ nn) dk3 kp3
theorem scDeck : FnScope ["_law_script", "_law_law_number", "_law_mixed", "_law_cell"] ["_law_script", "_law_law_number"] (defScope (top 36)) := ⟨rfl, rfl, rfl, by decide +kernel, rfl, by decide +kernel, by decide +kernel⟩
theorem ok_deck {f : Addr} {fd : FuncData} (F : Fun K "_law_deck" "_law_deck" (top 36) f fd) (mInt : mg "int" = none) (mList : mg "int" = none) : FnOk P w K mg base CX0 1 f fd ["_law_script", "_law_law_number"] (spDeck2 K) := by
  refine F.ok scDeck (fun vs H Q E h => ?_) (fun cdv A outer s H vs Q E hr h => ?_)
  · obtain ⟨a, ns, n, rfl, _⟩ := h
    rfl
  · obtain ⟨a, ns, nn, rfl, hS, hl, k⟩ := h
    refine ⟨_, pss_cons (ps_set (i := 2) scDeck.nd rfl (Or.inl rfl) (pe_op op_add pe_int (pv 1)))
      (pss_cons (ps_for PassesOwn.never rfl (pi_list (pe_slice sl_list (pv 0) po_none (po_some pe_int))) (pg_name (i := 3) scDeck.nd rfl (Or.inl rfl))
        (pss_one (ps_set (i := 2) scDeck.nd rfl (Or.inl rfl) (pe_op op_mod (pe_callTy call_int1 (by rfl) mInt PyProof.Rows.boot_int (pa_cons (pe_op op_add (pe_op op_add (pe_op op_mul (pv 2) pe_int) (pe_op op_mod (pe_callTy call_int1 (by rfl) mInt PyProof.Rows.boot_int (pa_cons (pv 3) pa_nil)) pe_int)) pe_int) pa_nil)) pe_int))))
      (pss_one (ps_ret (pe_disp (pps_cons pe_str (pe_revL (pe_lc (own := [("_law_cell", 3)]) (g := gName 3) (tt := tYes) rfl scDeck.nd (pi_list (pe_slice sl_list (pv 0) po_none (po_some pe_int))) (blkOk_by (own := [("_law_cell", 3)]) (N := ["_law_script", "_law_law_number", "_law_mixed", "_law_cell"]) (sc := defScope (top 36)) (by decide +kernel)) (fun _ _ _ _ _ => pg_name (i := 3) scDeck.nd rfl (Or.inl rfl)) (fun _ _ _ _ _ => pts_nil) (fun _ _ _ _ _ => pe_callTy call_int1 (by rfl) mInt PyProof.Rows.boot_int (pa_cons (pv 3) pa_nil)))) (pps_cons pe_str (pv 2) (pps_cons pe_str pe_int pps_nil))) (by rfl) (by rfl) (fun z => by cases z) (by decide))))), ?_⟩
    have cut : ∀ z : Int, z = 63 → cutV (ns.map V.int) none (some z) = ns.map V.int := fun z hz => by
      subst hz
      unfold cutV
      rw [HT.sIx_none, List.drop_zero]
      have : HT.sIx (ns.map V.int).length (ns.map V.int).length (some 63) = (ns.map V.int).length := by
        have := HT.sIx_nat (ns.map V.int).length (ns.map V.int).length 63
        rw [show ((63 : Nat) : Int) = 63 from rfl] at this
        rw [this, List.length_map]
        omega
      rw [this, Nat.sub_zero, List.take_length]
    refine ⟨_, rfl, _, _, rfl, rfl, _, rfl, _, rfl, a, _, rfl, hS, fun p hp => ?_⟩
    rw [cut _ rfl]
    have s1 := same_upd (o := .lst (ns.map V.int)) hp
    refine ⟨p, rfl, ⟨_, SqL.of upd_same⟩, for_list (K := K) (a := p) (xs := ns.map V.int) (fun i σ H2 => ∃ (m : Int) (v : Option V), σ = [some (.ref a), some (.int nn), some (.int m), v] ∧ Same H H2 ∧ SqL K H2 p (ns.map V.int))
      ⟨_, none, rfl, s1, SqL.of upd_same⟩ (fun i σ H2 _ ⟨_, _, _, _, q⟩ => q) ?_ ?_⟩
    · rintro i y σ H2 hi ⟨m, v, rfl, s2, q⟩
      obtain ⟨z, rfl⟩ : ∃ z, y = V.int z := by
        rw [List.getElem?_map] at hi
        cases e : ns[i]? with
        | none => rw [e] at hi; cases hi
        | some z => rw [e] at hi; exact ⟨z, (Option.some.inj hi).symm⟩
      exact ⟨_, rfl, _, _, rfl, rfl, .inr ⟨by decide, by decide⟩, _, rfl, .inl ⟨_, rfl, _, _, rfl, rfl, by show (0 : Int) < _; decide, _, _, rfl, rfl, _, _, rfl, rfl, .inl ⟨_, rfl, _, _, rfl, rfl, by show (0 : Int) < _; decide, _, _, rfl, s2, q⟩⟩⟩
    · rintro σ H2 ⟨m, v, rfl, s2, q⟩
      intro d hd
      have sd := same_upd (o := .dK []) hd
      refine ⟨_, rfl, _, rfl, a, _, rfl, sd.seq (s2.seq hS), fun p2 hp2 => ?_⟩
      rw [cut _ rfl]
      have sp2 := same_upd (o := .lst (ns.map V.int)) hp2
      refine ⟨p2, rfl, ⟨_, SqL.of upd_same⟩, fun l hl' => ?_⟩
      generalize eH3 : upd (upd H2 d (.dK [])) p2 (.lst (ns.map V.int)) = H3 at sp2 hl'
      have q3 : SqL K H3 p2 (ns.map V.int) := by rw [← eH3]; exact SqL.of upd_same
      have hd3 : H3 d = some (.dK []) := sp2 _ _ upd_same
      refine lc_list (K := K) (a := p2) (xs := ns.map V.int) (fun i H4 => H4 l = some (.lst ((ns.take i).map V.int)) ∧ Same H3 H4) ⟨by rw [upd_same]; simp, same_upd hl'⟩ (fun i H4 _ ⟨_, sm⟩ => sm.seq q3) ?_ ?_
      · rintro i y H4 hi ⟨g1, g2⟩
        obtain ⟨z, hz, rfl⟩ : ∃ z, ns[i]? = some z ∧ y = V.int z := by
          rw [List.getElem?_map] at hi
          cases e : ns[i]? with
          | none => rw [e] at hi; cases hi
          | some z => rw [e] at hi; exact ⟨z, rfl, (Option.some.inj hi).symm⟩
        have hil := (List.getElem?_eq_some_iff.mp hz).1
        refine ⟨rfl, ?_⟩
        simp only [tYes, if_true]
        refine ⟨_, rfl, .inl ⟨_, rfl, _, g1, by rw [List.length_map, List.length_take]; exact Nat.lt_of_le_of_lt (Nat.min_le_left _ _) (Nat.lt_of_lt_of_le hil (Nat.le_trans hl (by decide))), ?_, fun b o e => ?_⟩⟩
        · rw [upd_same, List.take_succ, hz]
          simp
        · rw [upd_ne (ne_of_none e hl')]
          exact g2 b o e
      · rintro H4 ⟨g1, g2⟩
        rw [List.length_map, List.take_length] at g1
        refine ⟨l, _, rfl, SqL.of g1, fun c hc => ?_⟩
        have sc := same_upd (o := .lst (ns.map V.int).reverse) hc
        have S : Same H (upd H4 c (.lst (ns.map V.int).reverse)) := s2.trans (sd.trans (by rw [← eH3] at g2; exact (same_upd hp2).trans (g2.trans sc)))
        have hdd : (upd H4 c (.lst (ns.map V.int).reverse)) d = some (.dK []) := sc _ _ (g2 _ _ hd3)
        have n1 : H d = none := s2.free hd
        have n2 : H c = none := by
          refine (s2.trans (sd.trans ?_)).free hc
          rw [← eH3] at g2
          exact (same_upd hp2).trans g2
        have hcc : (upd H4 c (.lst (ns.map V.int).reverse)) c = some (.lst (ns.map V.int).reverse) := upd_same
        generalize (upd H4 c (.lst (ns.map V.int).reverse)) = H5 at S hdd hcc ⊢
        have dc : d ≠ c := ne_of hdd hcc (by intro z; cases z)
        refine ⟨_, rfl, hdd, [(.inr "cells", .ref c), (.inr "mixed", .int m), (.inr "turn", .int 0)], rfl, by simp, ?_⟩
        refine k d c _ n1 n2 ⟨dc, ns.reverse, m, 0, ?_, ?_, by rw [List.length_reverse]; exact hl⟩ fun b o e => ?_
        · rw [upd_same]
          exact congrArg (fun l => some (HO.dK l)) merge3
        · rw [upd_ne (Ne.symm dc), hcc, List.map_reverse]
        · rw [upd_ne (ne_of_none e n1)]
          exact S b o e
end
end T44
end P53
section P54
namespace T44
def row (n : Nat) : List Int := (List.range n).map fun (i : Nat) => (i : Int)
def laidL (d o : List Int) : List Int := o.map fun c => d.getD c.toNat 0
def Ord (n : Nat) (o : List Int) : Prop := o.Perm (row n)
theorem row_length (n : Nat) : (row n).length = n := by simp [row]
theorem mem_row {n : Nat} {i : Int} : i ∈ row n ↔ 0 ≤ i ∧ i < n := by
  simp only [row, List.mem_map, List.mem_range]
  constructor
  · rintro ⟨k, hk, rfl⟩; omega
  · rintro ⟨h1, h2⟩; exact ⟨i.toNat, by omega, by omega⟩
theorem row_nodup (n : Nat) : (row n).Nodup := by
  unfold row List.Nodup
  rw [List.pairwise_map]
  exact List.Pairwise.imp (fun h e => h (Int.ofNat.inj e)) (List.nodup_range (n := n))
theorem Ord.length {n : Nat} {o : List Int} (h : Ord n o) : o.length = n := by rw [List.Perm.length_eq h, row_length]
theorem Ord.mem {n : Nat} {o : List Int} (h : Ord n o) {i : Int} (hi : i ∈ o) : 0 ≤ i ∧ i < n := mem_row.mp ((List.Perm.mem_iff h).mp hi)
theorem Ord.nodup {n : Nat} {o : List Int} (h : Ord n o) : o.Nodup := (List.Perm.nodup_iff h).mpr (row_nodup n)
theorem Ord.row (n : Nat) : Ord n (row n) := List.Perm.refl _
theorem Ord.rev {n : Nat} {o : List Int} (h : Ord n o) : Ord n o.reverse := (List.reverse_perm o).trans h
theorem laid_row (d : List Int) : laidL d (row d.length) = d := by
  apply List.ext_getElem
  · simp [laidL, row_length]
  · intro i h1 h2
    simp [laidL, row, List.getD_eq_getElem?_getD, h2]
theorem Ord.lt {n : Nat} {a b : List Int} (ha : Ord n a) (hb : Ord n b) : ∀ c, c ∈ b → 0 ≤ c ∧ c < a.length := fun c hc => by
  rw [ha.length]; exact hb.mem hc
/-- what an order lays is a rearrangement -/
theorem laid_perm {d o : List Int} (h : Ord d.length o) : (laidL d o).Perm d := by
  have := List.Perm.map (fun c : Int => d.getD c.toNat 0) h
  have e := laid_row d
  unfold laidL at e
  rw [e] at this
  exact this
theorem Ord.laid {n : Nat} {a b : List Int} (ha : Ord n a) (hb : Ord n b) : Ord n (laidL a b) := (laid_perm (by rw [ha.length]; exact hb)).trans ha
abbrev Thr := List (List Int × Int)
def kinds (th : Thr) : List Int := (th.map (·.1)).flatten
structure LotOk (lot : List Int) (sg : Int) : Prop where
  ne : lot ≠ []
  bd : ∀ k, k ∈ lot → 0 ≤ k ∧ k ≤ 7
  up : lot.Pairwise (· < ·)
  sg : sg = 1 ∨ sg = -1
  few : lot.length ≤ 8
structure ThrowOk (th : Thr) : Prop where
  ne : th ≠ []
  lots : ∀ p, p ∈ th → LotOk p.1 p.2
  perm : (kinds th).Perm (row (kinds th).length)
  few : (kinds th).length ≤ 8
theorem ThrowOk.nodup {th : Thr} (h : ThrowOk th) : (kinds th).Nodup := (List.Perm.nodup_iff h.perm).mpr (row_nodup _)
inductive Way | ahead | behind | kept | turned
  deriving DecidableEq
open Way
theorem kinds_c (p : List Int × Int) (th : Thr) : kinds (p :: th) = p.1 ++ kinds th := by simp [kinds]
theorem kinds_app (s t : Thr) : kinds (s ++ t) = kinds s ++ kinds t := by simp [kinds]
theorem kinds_rev_perm (th : Thr) : (kinds th.reverse).Perm (kinds th) := by
  induction th with
  | nil => exact .refl _
  | cons p th ih =>
    rw [List.reverse_cons, kinds_app, kinds_c, kinds_c]
    refine (List.Perm.append_right _ ih).trans ?_
    have : kinds ([] : Thr) = [] := rfl
    rw [this, List.append_nil]
    exact List.perm_append_comm
def pcsF (q : List Int × Int) (p : List Int × Int) : Option (List Int × Int) := if p.1.filter (fun k => q.1.contains k) = [] then none else some (p.1.filter (fun k => q.1.contains k), p.2 * q.2)
def pcs (one : Thr) (q : List Int × Int) : Thr := one.filterMap (pcsF q)
def lotsBy (one : Thr) (q : List Int × Int) : Thr := if q.2 = 1 then pcs one q else (pcs one q).reverse
def bothT (one other : Thr) : Thr := (other.map (lotsBy one)).flatten
theorem both_c (one : Thr) (q : List Int × Int) (t : Thr) : bothT one (q :: t) = lotsBy one q ++ bothT one t := by simp [bothT]
theorem pcs_c (p : List Int × Int) (one : Thr) (q : List Int × Int) : pcs (p :: one) q = (if p.1.filter (fun k => q.1.contains k) = [] then pcs one q else (p.1.filter (fun k => q.1.contains k), p.2 * q.2) :: pcs one q) := by
  unfold pcs
  rw [List.filterMap_cons]
  unfold pcsF
  split <;> simp_all
theorem kinds_pcs (q : List Int × Int) : ∀ one : Thr, kinds (pcs one q) = (kinds one).filter fun k => q.1.contains k
  | [] => rfl
  | p :: one => by
    rw [pcs_c, kinds_c, List.filter_append, ← kinds_pcs q one]
    split
    · rename_i h; rw [h, List.nil_append]
    · rw [kinds_c]
theorem lotsBy_perm {one : Thr} {q : List Int × Int} (nd : (kinds one).Nodup) (nq : q.1.Nodup) (sub : ∀ k, k ∈ q.1 → k ∈ kinds one) : (kinds (lotsBy one q)).Perm q.1 := by
  have h : (kinds (pcs one q)).Perm q.1 := by
    rw [kinds_pcs]
    refine (List.perm_ext_iff_of_nodup (nd.filter _) nq).mpr fun k => ?_
    rw [List.mem_filter]
    constructor
    · rintro ⟨_, h⟩; simpa using h
    · intro h; exact ⟨sub k h, by simpa using h⟩
  unfold lotsBy
  split
  · exact h
  · exact (kinds_rev_perm _).trans h
theorem kinds_both {one : Thr} (nd : (kinds one).Nodup) : ∀ {other : Thr}, (kinds other).Nodup → (∀ k, k ∈ kinds other → k ∈ kinds one) → (kinds (bothT one other)).Perm (kinds other)
  | [], _, _ => .refl _
  | q :: t, n, sub => by
    rw [kinds_c] at n sub
    obtain ⟨n1, n2, n3⟩ := List.nodup_append.mp n
    rw [both_c, kinds_app, kinds_c]
    exact (lotsBy_perm nd n1 fun k hk => sub k (List.mem_append_left _ hk)).append (kinds_both nd n2 fun k hk => sub k (List.mem_append_right _ hk))
theorem sg_mul {s t : Int} (hs : s = 1 ∨ s = -1) (ht : t = 1 ∨ t = -1) : s * t = 1 ∨ s * t = -1 := by
  rcases hs with rfl | rfl <;> rcases ht with rfl | rfl <;> decide
theorem lotsBy_lots {one : Thr} {q r : List Int × Int} (h1 : ∀ p, p ∈ one → LotOk p.1 p.2) (hq : LotOk q.1 q.2) (hr : r ∈ lotsBy one q) : LotOk r.1 r.2 := by
  have hr2 : r ∈ pcs one q := by
    unfold lotsBy at hr
    split at hr
    · exact hr
    · simpa using hr
  unfold pcs at hr2
  obtain ⟨p, hp, e⟩ := List.mem_filterMap.mp hr2
  unfold pcsF at e
  split at e
  · cases e
  · rename_i hne
    cases e
    have lo := h1 p hp
    exact ⟨hne, fun k hk => lo.bd k (List.mem_filter.mp hk).1, lo.up.filter _, sg_mul lo.sg hq.sg, Nat.le_trans (List.length_filter_le _ _) lo.few⟩
structure Two (one other : Thr) : Prop where
  o : ThrowOk one
  t : ThrowOk other
  l : (kinds other).length = (kinds one).length
theorem in_kinds' {th : Thr} (h : ThrowOk th) {k : Int} : k ∈ kinds th ↔ 0 ≤ k ∧ k < (kinds th).length := by
  rw [List.Perm.mem_iff h.perm, mem_row]
theorem Two.sub {one other : Thr} (h : Two one other) {k : Int} : k ∈ kinds other ↔ k ∈ kinds one := by
  rw [in_kinds' h.o, in_kinds' h.t, h.l]
theorem Two.perm {one other : Thr} (h : Two one other) : (kinds (bothT one other)).Perm (kinds other) := kinds_both h.o.nodup h.t.nodup fun k hk => h.sub.mp hk
theorem Two.len {one other : Thr} (h : Two one other) : (kinds (bothT one other)).length = (kinds other).length := h.perm.length_eq
theorem Two.ok {one other : Thr} (h : Two one other) : ThrowOk (bothT one other) := by
  refine ⟨fun z => ?_, fun p hp => ?_, ?_, by rw [h.len]; exact h.t.few⟩
  · have e := h.perm.length_eq
    rw [z] at e
    have e : 0 = (kinds other).length := e
    obtain ⟨q, t, rfl⟩ : ∃ q t, other = q :: t := by
      cases other with
      | nil => exact (h.t.ne rfl).elim
      | cons q t => exact ⟨q, t, rfl⟩
    have := (h.t.lots q (by simp)).ne
    rw [kinds_c, List.length_append] at e
    exact this (List.eq_nil_of_length_eq_zero (by omega))
  · unfold bothT at hp
    obtain ⟨l, hl, hpl⟩ := List.mem_flatten.mp hp
    obtain ⟨q, hq, rfl⟩ := List.mem_map.mp hl
    exact lotsBy_lots h.o.lots (h.t.lots q hq) hpl
  · rw [h.len]
    exact h.perm.trans h.t.perm
theorem ThrowOk.sg {th : Thr} (h : ThrowOk th) : ∀ p, p ∈ th → p.2 = 1 ∨ p.2 = -1 := fun p hp => (h.lots p hp).sg
theorem Two.symm {s t : Thr} (h : Two s t) : Two t s := ⟨h.t, h.o, h.l.symm⟩
theorem Two.both {s t u : Thr} (h : Two s t) (h2 : Two s u) : Two s (bothT t u) := by
  have h3 : Two t u := ⟨h.t, h2.t, by rw [h.l]; exact h2.l⟩
  exact ⟨h.o, h3.ok, by rw [h3.len]; exact h2.l⟩
abbrev Desk := List Bool
def manyR : List Desk → Int
  | [] => 1
  | d :: ds => manyR ds * d.length
def posR : List Desk → List Int → Int
  | d :: ds, p :: c => p * manyR ds + (if d.getD p.toNat false = true then manyR ds - 1 - posR ds c else posR ds c)
  | _, _ => 0
def codeR : List Desk → Int → List Int
  | [], _ => []
  | d :: ds, n => n / manyR ds :: codeR ds (if d.getD (n / manyR ds).toNat false = true then manyR ds - 1 - n % manyR ds else n % manyR ds)
def sgnR : List Desk → List Int → Int
  | d :: ds, p :: c => (if d.getD p.toNat false = true then -1 else 1) * sgnR ds c
  | _, _ => 1
def OkR : List Desk → List Int → Prop
  | [], [] => True
  | d :: ds, p :: c => (0 ≤ p ∧ p < d.length) ∧ OkR ds c
  | _, _ => False
theorem posR_c (d : Desk) (ds : List Desk) (p : Int) (c : List Int) : posR (d :: ds) (p :: c) = p * manyR ds + (if d.getD p.toNat false = true then manyR ds - 1 - posR ds c else posR ds c) := rfl
theorem manyR_c (d : Desk) (ds : List Desk) : manyR (d :: ds) = manyR ds * d.length := rfl
theorem codeR_c (d : Desk) (ds : List Desk) (n : Int) : codeR (d :: ds) n = n / manyR ds :: codeR ds (if d.getD (n / manyR ds).toNat false = true then manyR ds - 1 - n % manyR ds else n % manyR ds) := rfl
theorem sgnR_c (d : Desk) (ds : List Desk) (p : Int) (c : List Int) : sgnR (d :: ds) (p :: c) = (if d.getD p.toNat false = true then -1 else 1) * sgnR ds c := rfl
def DsOk (ds : List Desk) : Prop := ∀ d, d ∈ ds → 1 ≤ d.length ∧ d.length ≤ 6
theorem many_pos : ∀ {ds : List Desk}, DsOk ds → 1 ≤ manyR ds
  | [], _ => by simp [manyR]
  | d :: ds, h => by
    have ih := many_pos (ds := ds) fun x hx => h x (by simp [hx])
    have := (h d (by simp)).1
    unfold manyR
    have h2 : (1 : Int) ≤ (d.length : Int) := by omega
    have := Int.mul_le_mul ih h2 (by omega) (by omega)
    simpa using this
theorem many_le : ∀ {ds : List Desk}, DsOk ds → manyR ds ≤ 6 ^ ds.length
  | [], _ => by simp [manyR]
  | d :: ds, h => by
    have ih := many_le (ds := ds) fun x hx => h x (by simp [hx])
    have := (h d (by simp)).2
    have p := many_pos (ds := ds) fun x hx => h x (by simp [hx])
    unfold manyR
    have h2 : (d.length : Int) ≤ 6 := by omega
    have := Int.mul_le_mul ih h2 (by omega) (Int.pow_nonneg (by decide))
    rw [List.length_cons, Int.pow_succ]
    exact this
theorem six_le {k n : Nat} (h : k ≤ n) : (6 : Int) ^ k ≤ 6 ^ n := by
  have := Nat.pow_le_pow_right (n := 6) (by decide) h
  have h1 : ((6 ^ k : Nat) : Int) ≤ ((6 ^ n : Nat) : Int) := by exact_mod_cast this
  simpa using h1
theorem many_11 {ds : List Desk} (h : DsOk ds) (hl : ds.length ≤ 11) : manyR ds ≤ 362797056 := Int.le_trans (many_le h) (six_le (n := 11) hl)
theorem OkR.length : ∀ {ds : List Desk} {c : List Int}, OkR ds c → c.length = ds.length
  | [], [], _ => rfl
  | d :: ds, p :: c, h => by rw [List.length_cons, List.length_cons, OkR.length h.2]
  | [], _ :: _, h => h.elim
  | _ :: _, [], h => h.elim
theorem code_ok : ∀ {ds : List Desk} {n : Int}, DsOk ds → 0 ≤ n → n < manyR ds → OkR ds (codeR ds n) ∧ posR ds (codeR ds n) = n
  | [], n, _, h0, h1 => by simp only [manyR] at h1; simp only [codeR, OkR, posR, true_and]; omega
  | d :: ds, n, h, h0, h1 => by
    have hd : DsOk ds := fun x hx => h x (by simp [hx])
    have S := many_pos hd
    rw [manyR_c] at h1
    have e := Int.mul_ediv_add_emod n (manyR ds)
    have m1 := Int.emod_nonneg n (show manyR ds ≠ 0 by omega)
    have m2 := Int.emod_lt_of_pos n (show 0 < manyR ds by omega)
    have q1 : 0 ≤ n / manyR ds := Int.ediv_nonneg h0 (by omega)
    have q2 : n / manyR ds < d.length := Int.ediv_lt_of_lt_mul (by omega) (by rw [Int.mul_comm]; exact h1)
    have c1 : manyR ds * (n / manyR ds) = n / manyR ds * manyR ds := Int.mul_comm _ _
    rw [codeR_c]
    by_cases hp : d.getD (n / manyR ds).toNat false = true
    · rw [if_pos hp]
      obtain ⟨i1, i2⟩ := code_ok (ds := ds) (n := manyR ds - 1 - n % manyR ds) hd (by omega) (by omega)
      refine ⟨⟨⟨q1, q2⟩, i1⟩, ?_⟩
      rw [posR_c, if_pos hp, i2]
      omega
    · rw [if_neg hp]
      obtain ⟨i1, i2⟩ := code_ok (ds := ds) (n := n % manyR ds) hd m1 m2
      refine ⟨⟨⟨q1, q2⟩, i1⟩, ?_⟩
      rw [posR_c, if_neg hp, i2]
      omega
def posL : Int → Int → List Desk → List Int → Int
  | f, s, d :: ds, p :: c => posL (p * s + (if d.getD p.toNat false = true then s - 1 - f else f)) (s * d.length) ds c
  | f, _, _, _ => f
def manyL : Int → List Desk → Int
  | s, [] => s
  | s, d :: ds => manyL (s * d.length) ds
theorem manyL_snoc (ds : List Desk) (d : Desk) : ∀ s : Int, manyL s (ds ++ [d]) = manyL s ds * d.length := by
  induction ds with
  | nil => intro s; rfl
  | cons x ds ih => intro s; exact ih _
theorem posL_snoc (d : Desk) (p : Int) : ∀ (ds : List Desk) (c : List Int) (f s : Int), ds.length = c.length → posL f s (ds ++ [d]) (c ++ [p]) = p * manyL s ds + (if d.getD p.toNat false = true then manyL s ds - 1 - posL f s ds c else posL f s ds c)
  | [], [], f, s, _ => by simp [posL, manyL]
  | x :: ds, q :: c, f, s, h => by
    have hl : ds.length = c.length := by simpa using h
    simp only [List.cons_append]
    have ih := posL_snoc d p ds c (q * s + (if x.getD q.toNat false = true then s - 1 - f else f)) (s * x.length) hl
    simpa only [posL, manyL] using ih
  | [], _ :: _, _, _, h => by simp at h
  | _ :: _, [], _, _, h => by simp at h
theorem many_eq : ∀ ds : List Desk, manyL 1 ds.reverse = manyR ds
  | [] => rfl
  | d :: ds => by rw [List.reverse_cons, manyL_snoc, many_eq ds]; rfl
theorem pos_eq : ∀ (ds : List Desk) (c : List Int), ds.length = c.length → posL 0 1 ds.reverse c.reverse = posR ds c
  | [], [], _ => rfl
  | d :: ds, p :: c, h => by
    have hl : ds.length = c.length := by simpa using h
    rw [List.reverse_cons, List.reverse_cons, posL_snoc d p _ _ 0 1 (by simpa using hl), many_eq, pos_eq ds c hl]
    rfl
  | [], _ :: _, h => by simp at h
  | _ :: _, [], h => by simp at h
def many (ds : List Desk) : Int := manyR ds.reverse
def pos (ds : List Desk) (c : List Int) : Int := posR ds.reverse c.reverse
def codeAt (ds : List Desk) (n : Int) : List Int := (codeR ds.reverse n).reverse
theorem OkR.snoc {d : Desk} {p : Int} : ∀ {ds : List Desk} {c : List Int}, OkR ds c → 0 ≤ p → p < d.length → OkR (ds ++ [d]) (c ++ [p])
  | [], [], _, h1, h2 => ⟨⟨h1, h2⟩, True.intro⟩
  | x :: ds, q :: c, h, h1, h2 => ⟨h.1, OkR.snoc h.2 h1 h2⟩
  | [], _ :: _, h, _, _ => h.elim
  | _ :: _, [], h, _, _ => h.elim
theorem OkR.rev : ∀ {ds : List Desk} {c : List Int}, OkR ds c → OkR ds.reverse c.reverse
  | [], [], _ => True.intro
  | x :: ds, q :: c, h => by
    rw [List.reverse_cons, List.reverse_cons]
    exact OkR.snoc (OkR.rev h.2) h.1.1 h.1.2
  | [], _ :: _, h => h.elim
  | _ :: _, [], h => h.elim
theorem DsOk.rev {ds : List Desk} (h : DsOk ds) : DsOk ds.reverse := fun d hd => h d (by simpa using hd)
theorem many_eqL (ds : List Desk) : manyL 1 ds = many ds := by have := many_eq ds.reverse; rw [List.reverse_reverse] at this; exact this
theorem pos_eqL {ds : List Desk} {c : List Int} (h : ds.length = c.length) : posL 0 1 ds c = pos ds c := by
  have := pos_eq ds.reverse c.reverse (by simpa using h)
  rw [List.reverse_reverse, List.reverse_reverse] at this
  exact this
/-- signs and piles -/
def sgnL : Int → List Desk → List Int → Int
  | s, d :: ds, p :: c => sgnL (s * (if d.getD p.toNat false = true then -1 else 1)) ds c
  | s, _, _ => s
def piles : List Desk → List Int → Nat
  | d :: ds, p :: c => (if d.getD p.toNat false = true then 1 else 0) + piles ds c
  | _, _ => 0
def sgn (ds : List Desk) (c : List Int) : Int := if piles ds c % 2 = 0 then 1 else -1
theorem sgnL_eq : ∀ (ds : List Desk) (c : List Int) (s : Int), sgnL s ds c = s * sgn ds c
  | [], [], s => by simp [sgnL, sgn, piles]
  | [], _ :: _, s => by simp [sgnL, sgn, piles]
  | _ :: _, [], s => by simp [sgnL, sgn, piles]
  | d :: ds, p :: c, s => by
    unfold sgnL
    rw [sgnL_eq ds c, Int.mul_assoc]
    congr 1
    unfold sgn
    rw [show piles (d :: ds) (p :: c) = (if d.getD p.toNat false = true then 1 else 0) + piles ds c from rfl]
    by_cases hp : d.getD p.toNat false = true
    · simp only [if_pos hp]
      rcases Nat.mod_two_eq_zero_or_one (piles ds c) with e | e
      · rw [if_pos e, if_neg (by omega)]; rfl
      · rw [if_neg (by omega), if_pos (by omega)]; rfl
    · simp only [if_neg hp, Nat.zero_add, Int.one_mul]
theorem sgnR_snoc (d : Desk) (p : Int) : ∀ (ds : List Desk) (c : List Int), ds.length = c.length → sgnR (ds ++ [d]) (c ++ [p]) = sgnR ds c * (if d.getD p.toNat false = true then -1 else 1)
  | [], [], _ => by simp [sgnR]
  | x :: ds, q :: c, h => by
    have hl : ds.length = c.length := by simpa using h
    simp only [List.cons_append, sgnR]
    rw [sgnR_snoc d p ds c hl, Int.mul_assoc]
  | [], _ :: _, h => by simp at h
  | _ :: _, [], h => by simp at h
theorem sgn_rev : ∀ (ds : List Desk) (c : List Int), ds.length = c.length → sgnR ds.reverse c.reverse = sgn ds c
  | [], [], _ => by simp [sgnR, sgn, piles]
  | d :: ds, p :: c, h => by
    have hl : ds.length = c.length := by simpa using h
    rw [List.reverse_cons, List.reverse_cons, sgnR_snoc d p _ _ (by simpa using hl), sgn_rev ds c hl]
    have e := sgnL_eq (d :: ds) (p :: c) 1
    unfold sgnL at e
    rw [sgnL_eq ds c, Int.one_mul, Int.one_mul] at e
    rw [← e, Int.mul_comm]
  | [], _ :: _, h => by simp at h
  | _ :: _, [], h => by simp at h
def wR (ds : List Desk) (n : Int) : Int := sgnR ds (codeR ds n)
theorem wR_cases (ds : List Desk) (n : Int) : wR ds n = 1 ∨ wR ds n = -1 := by
  have : ∀ (ds : List Desk) (c : List Int), sgnR ds c = 1 ∨ sgnR ds c = -1 := by
    intro ds
    induction ds with
    | nil => intro c; exact .inl rfl
    | cons d ds ih =>
      intro c
      cases c with
      | nil => exact .inl rfl
      | cons p c =>
        rw [sgnR_c]
        rcases ih c with e | e <;> rw [e] <;> split <;> simp
  exact this ds _
/-- a block of the word: the word of the desks ahead, or it turned about -/
def blkF (b : Bool) (S : Int) (f : Int → Int) (r : Int) : Int := if b = true then - f (S - 1 - r) else f r
theorem wR_blk {d : Desk} {ds : List Desk} {p r : Int} (h0 : 0 ≤ r) (h1 : r < manyR ds) : wR (d :: ds) (p * manyR ds + r) = blkF (d.getD p.toNat false) (manyR ds) (wR ds) r := by
  have S : 0 < manyR ds := by omega
  have e1 : (p * manyR ds + r) / manyR ds = p := by
    rw [Int.add_comm, Int.add_mul_ediv_right _ _ (by omega), Int.ediv_eq_zero_of_lt h0 h1, Int.zero_add]
  have e2 : (p * manyR ds + r) % manyR ds = r := by
    rw [Int.add_comm, Int.add_mul_emod_self_right, Int.emod_eq_of_lt h0 h1]
  unfold wR
  rw [codeR_c, e1, e2, sgnR_c]
  unfold blkF
  by_cases q : d.getD p.toNat false = true
  · rw [if_pos q, if_pos q, if_pos q]
    show -1 * wR ds _ = - wR ds _
    omega
  · rw [if_neg q, if_neg q, if_neg q]
    show 1 * wR ds _ = wR ds _
    omega
def standF : List Int → List Int → Nat
  | [], _ => 0
  | _ :: _, [] => 0
  | x :: w, s :: ss => if x = s then standF w ss + 1 else standF w (s :: ss)
theorem stand_le : ∀ (w ss : List Int), standF w ss ≤ ss.length
  | [], ss => Nat.zero_le _
  | x :: w, [] => Nat.zero_le _
  | x :: w, s :: ss => by
    unfold standF
    split
    · have := stand_le w ss; simp; omega
    · exact stand_le w (s :: ss)
theorem stand_iff : ∀ (w ss : List Int) (j : Nat), j ≤ ss.length → (j ≤ standF w ss ↔ (ss.take j).Sublist w)
  | [], ss, j, h => by
    unfold standF
    constructor
    · intro e
      have : j = 0 := by omega
      subst this; simp
    · intro e
      have e := List.sublist_nil.mp e
      cases ss with
      | nil => simpa using h
      | cons s ss => cases j with
        | zero => exact Nat.le_refl _
        | succ j => simp at e
  | x :: w, [], j, h => by
    have : j = 0 := by simpa using h
    subst this; simp [standF]
  | x :: w, s :: ss, j, h => by
    cases j with
    | zero => simp
    | succ j =>
      have hj : j ≤ ss.length := by simpa using h
      rw [List.take_succ_cons]
      unfold standF
      by_cases e : x = s
      · subst e
        rw [if_pos rfl, Nat.add_le_add_iff_right, stand_iff w ss j hj]
        exact (List.cons_sublist_cons).symm
      · rw [if_neg e, stand_iff w (s :: ss) (j + 1) h, List.take_succ_cons]
        constructor
        · exact fun q => q.cons _
        · intro q
          cases q with
          | cons _ q => exact q
          | cons_cons _ q => exact absurd rfl e
/-- alike for every row of up to eight signs -/
def Sim (w w' : List Int) : Prop := ∀ ss : List Int, ss.length ≤ 8 → (ss.Sublist w ↔ ss.Sublist w')
theorem Sim.refl (w : List Int) : Sim w w := fun _ _ => Iff.rfl
theorem Sim.symm {w w' : List Int} (h : Sim w w') : Sim w' w := fun ss hl => (h ss hl).symm
theorem Sim.trans {u v w : List Int} (h : Sim u v) (h2 : Sim v w) : Sim u w := fun ss hl => (h ss hl).trans (h2 ss hl)
theorem Sim.app {u u' v v' : List Int} (h : Sim u u') (h2 : Sim v v') : Sim (u ++ v) (u' ++ v') := fun ss hl => by
  rw [List.sublist_append_iff, List.sublist_append_iff]
  constructor
  · rintro ⟨a, b, rfl, ha, hb⟩
    rw [List.length_append] at hl
    exact ⟨a, b, rfl, (h a (by omega)).mp ha, (h2 b (by omega)).mp hb⟩
  · rintro ⟨a, b, rfl, ha, hb⟩
    rw [List.length_append] at hl
    exact ⟨a, b, rfl, (h a (by omega)).mpr ha, (h2 b (by omega)).mpr hb⟩
def turnL (w : List Int) : List Int := w.reverse.map fun x => -x
theorem turn_turn (w : List Int) : turnL (turnL w) = w := by
  unfold turnL
  rw [← List.map_reverse, List.reverse_reverse, List.map_map]
  have : ((fun x : Int => -x) ∘ fun x => -x) = id := by funext x; simp
  rw [this, List.map_id]
theorem turn_sub {u w : List Int} (h : u.Sublist w) : (turnL u).Sublist (turnL w) := (List.reverse_sublist.mpr h).map _
theorem turn_sub_iff {u w : List Int} : u.Sublist (turnL w) ↔ (turnL u).Sublist w := by
  constructor
  · intro h; have := turn_sub h; rwa [turn_turn] at this
  · intro h; have := turn_sub h; rwa [turn_turn] at this
theorem Sim.turn {w w' : List Int} (h : Sim w w') : Sim (turnL w) (turnL w') := fun ss hl => by
  rw [turn_sub_iff, turn_sub_iff]
  exact h _ (by simpa [turnL] using hl)
theorem Sim.stand {w w' : List Int} (h : Sim w w') {ss : List Int} (hl : ss.length ≤ 8) : standF w ss = standF w' ss := by
  have a := (stand_iff w ss _ (stand_le w' ss))
  have b := (stand_iff w' ss _ (stand_le w ss))
  have a2 := (stand_iff w ss _ (stand_le w ss)).mp (Nat.le_refl _)
  have b2 := (stand_iff w' ss _ (stand_le w' ss)).mp (Nat.le_refl _)
  have l1 : ∀ j, (ss.take j).length ≤ 8 := fun j => by rw [List.length_take]; omega
  have c := a.mpr ((h _ (l1 _)).mpr b2)
  have d := b.mpr ((h _ (l1 _)).mp a2)
  omega
/-- the word cut: of each run the first eight, and seventeen runs -/
def nkF (o : Option Int) (x : Int) (k : Nat) : Nat := if o = some x then k else 0
def ncF (o : Option Int) (x : Int) (c : Nat) : Nat := if o = some x then c else c + 1
def cutF : Option Int → Nat → Nat → List Int → List Int
  | _, _, _, [] => []
  | o, k, c, x :: w =>
    if nkF o x k + 1 ≤ 8 ∧ ncF o x c ≤ 17 then x :: cutF (some x) (nkF o x k + 1) (ncF o x c) w
    else cutF (some x) (nkF o x k + 1) (ncF o x c) w
theorem cut_sub : ∀ (o : Option Int) (k c : Nat) (w : List Int), (cutF o k c w).Sublist w
  | _, _, _, [] => by simp [cutF]
  | o, k, c, x :: w => by
    unfold cutF
    split
    · exact (cut_sub _ _ _ w).cons_cons _
    · exact (cut_sub _ _ _ w).cons _
def Inv (o : Option Int) (k c : Nat) : List Int → Prop
  | [] => True
  | s :: ss => ss.length + 1 ≤ 8 ∧ (o = some s → k + (ss.length + 1) ≤ 8 ∧ c + 2 * (ss.length + 1) ≤ 17) ∧ (o = none → c + 2 * (ss.length + 1) ≤ 17) ∧ (∀ p, o = some p → p ≠ s → c + 2 * (ss.length + 1) ≤ 18)
def Pm (s : Int) : Prop := s = 1 ∨ s = -1
theorem cut_keep : ∀ (w : List Int) (o : Option Int) (k c : Nat) (ss : List Int), (∀ x, x ∈ w → Pm x) → (∀ p, o = some p → Pm p) → (∀ x, x ∈ ss → Pm x) → Inv o k c ss → ss.Sublist w → ss.Sublist (cutF o k c w)
  | w, o, k, c, [], _, _, _, _, _ => List.nil_sublist _
  | [], o, k, c, s :: ss, _, _, _, _, h => absurd (List.sublist_nil.mp h) (by simp)
  | x :: w, o, k, c, s :: ss, hw, ho, hs, ⟨i0, i1, i2, i3⟩, h => by
    have px := hw x (List.mem_cons_self ..)
    have ps := hs s (List.mem_cons_self ..)
    have hw' : ∀ y, y ∈ w → Pm y := fun y hy => hw y (List.mem_cons_of_mem _ hy)
    have ho' : ∀ p, some x = some p → Pm p := fun p e => by injection e with e; exact e ▸ px
    by_cases e : x = s
    · subst e
      have h' : ss.Sublist w := List.cons_sublist_cons.mp h
      have hs' : ∀ y, y ∈ ss → Pm y := fun y hy => hs y (List.mem_cons_of_mem _ hy)
      have key : ∀ k' c', k' + 1 ≤ 8 → c' ≤ 17 → k' + 1 + ss.length ≤ 8 → c' + 2 * ss.length ≤ 17 → (x :: ss).Sublist (x :: cutF (some x) (k' + 1) c' w) := fun k' c' g1 g2 g3 g4 => by
        refine List.cons_sublist_cons.mpr (cut_keep w (some x) (k' + 1) c' ss hw' ho' hs' ?_ h')
        cases ss with
        | nil => exact True.intro
        | cons s2 ss =>
          simp only [List.length_cons] at g3 g4
          exact ⟨by omega, fun _ => ⟨by omega, by omega⟩, fun q => (nomatch q), fun p _ _ => by omega⟩
      unfold cutF
      by_cases q : o = some x
      · have j := i1 q
        rw [show nkF o x k = k from if_pos q, show ncF o x c = c from if_pos q, if_pos ⟨by omega, by omega⟩]
        exact key k c (by omega) (by omega) (by omega) (by omega)
      · have j : c + 2 * (ss.length + 1) ≤ 18 := by
          cases o with
          | none => have := i2 rfl; omega
          | some p => exact i3 p rfl fun z => q (by rw [z])
        rw [show nkF o x k = 0 from if_neg q, show ncF o x c = c + 1 from if_neg q, if_pos ⟨by omega, by omega⟩]
        exact key 0 (c + 1) (by omega) (by omega) (by omega) (by omega)
    · have h' : (s :: ss).Sublist w := by
        cases h with
        | cons _ q => exact q
        | cons_cons _ q => exact absurd rfl e
      have key : ∀ k' c', c' + 2 * (ss.length + 1) ≤ 18 → (s :: ss).Sublist (cutF (some x) k' c' w) := fun k' c' g =>
        cut_keep w (some x) k' c' (s :: ss) hw' ho' hs ⟨i0, fun z => absurd (by injection z) e, fun z => (nomatch z), fun _ _ _ => g⟩ h'
      unfold cutF
      have g : ncF o x c + 2 * (ss.length + 1) ≤ 18 := by
        by_cases q : o = some x
        · rw [show ncF o x c = c from if_pos q]; exact i3 x q e
        · rw [show ncF o x c = c + 1 from if_neg q]
          cases o with
          | none => have := i2 rfl; omega
          | some p =>
            have pp := ho p rfl
            have pq : p = s := by
              have : p ≠ x := fun z => q (by rw [z])
              unfold Pm at pp px ps
              omega
            have := i1 (by rw [pq]); omega
      split
      · exact (key _ _ g).cons _
      · exact key _ _ g
theorem sub_pm {ss w : List Int} (h : ss.Sublist w) (hw : ∀ x, x ∈ w → Pm x) : ∀ x, x ∈ ss → Pm x := fun x hx => hw x (h.subset hx)
theorem cut_sim {w : List Int} (hw : ∀ x, x ∈ w → Pm x) : Sim (cutF none 0 0 w) w := fun ss hl => by
  constructor
  · exact fun h => h.trans (cut_sub _ _ _ w)
  · intro h
    refine cut_keep w none 0 0 ss hw (fun p e => (nomatch e)) (sub_pm h hw) ?_ h
    cases ss with
    | nil => exact True.intro
    | cons s ss =>
      simp only [List.length_cons] at hl
      exact ⟨by omega, fun q => (by cases q), fun _ => by omega, fun p q => (by cases q)⟩
def foldW (d : Desk) (w : List Int) : List Int := (d.map fun b => if b = true then turnL w else w).flatten
def fullW : List Desk → List Int
  | [] => [1]
  | d :: ds => foldW d (fullW ds)
def shortW : List Desk → List Int
  | [] => [1]
  | d :: ds => cutF none 0 0 (foldW d (shortW ds))
theorem fold_sim {w w' : List Int} (h : Sim w w') : ∀ d : Desk, Sim (foldW d w) (foldW d w')
  | [] => Sim.refl _
  | b :: d => by
    show Sim ((if b = true then turnL w else w) ++ foldW d w) ((if b = true then turnL w' else w') ++ foldW d w')
    refine Sim.app ?_ (fold_sim h d)
    split
    · exact h.turn
    · exact h
theorem fold_pm {w : List Int} (h : ∀ x, x ∈ w → Pm x) (d : Desk) : ∀ x, x ∈ foldW d w → Pm x := fun x hx => by
  obtain ⟨l, hl, hx⟩ := List.mem_flatten.mp hx
  obtain ⟨b, _, rfl⟩ := List.mem_map.mp hl
  split at hx
  · unfold turnL at hx
    obtain ⟨y, hy, rfl⟩ := List.mem_map.mp hx
    have := h y (List.mem_reverse.mp hy)
    unfold Pm at this ⊢
    omega
  · exact h x hx
theorem short_pm : ∀ (ds : List Desk) (x : Int), x ∈ shortW ds → Pm x
  | [], x, h => .inl (by simpa [shortW] using h)
  | d :: ds, x, h => fold_pm (short_pm ds) d x ((cut_sub _ _ _ _).subset h)
theorem short_full : ∀ ds : List Desk, Sim (shortW ds) (fullW ds)
  | [] => Sim.refl _
  | d :: ds => (cut_sim (fold_pm (short_pm ds) d)).trans (fold_sim (short_full ds) d)
def wd (f : Int → Int) (a : Int) (m : Nat) : List Int := (List.range m).map fun (i : Nat) => f (a + (i : Int))
theorem wd_succ (f : Int → Int) (a : Int) (m : Nat) : wd f a (m + 1) = f a :: wd f (a + 1) m := by
  unfold wd
  rw [List.range_succ_eq_map, List.map_cons, List.map_map]
  congr 1
  · simp
  · refine List.map_congr_left fun k _ => ?_
    show f (a + ((k + 1 : Nat) : Int)) = f (a + 1 + (k : Int))
    congr 1; omega
theorem wd_add (f : Int → Int) : ∀ (m : Nat) (a : Int) (n : Nat), wd f a (m + n) = wd f a m ++ wd f (a + m) n
  | 0, a, n => by simp [wd]
  | m + 1, a, n => by
    rw [show m + 1 + n = (m + n) + 1 by omega, wd_succ, wd_succ, wd_add f m (a + 1) n, List.cons_append]
    rw [show a + 1 + (m : Int) = a + ((m + 1 : Nat) : Int) by omega]
theorem wd_congr {f g : Int → Int} {a b : Int} {m : Nat} (h : ∀ i : Nat, i < m → f (a + (i : Int)) = g (b + (i : Int))) : wd f a m = wd g b m :=
  List.map_congr_left fun k hk => h k (List.mem_range.mp hk)
theorem wd_turn (f : Int → Int) (m : Nat) : turnL (wd f 0 m) = wd (fun r => - f ((m : Int) - 1 - r)) 0 m := by
  refine List.ext_getElem (by simp [turnL, wd]) fun i h1 h2 => ?_
  have hi : i < m := by simpa [wd] using h2
  simp only [turnL, wd, List.getElem_map, List.getElem_reverse, List.getElem_range, List.length_map, List.length_range]
  congr 2
  omega
theorem full_suf {d : Desk} {ds : List Desk} {S : Nat} (hS : (S : Int) = manyR ds) (h : fullW ds = wd (wR ds) 0 S) : ∀ (pre suf : Desk), d = pre ++ suf → foldW suf (fullW ds) = wd (wR (d :: ds)) ((pre.length : Int) * S) (suf.length * S)
  | pre, [], e => by simp [foldW, wd]
  | pre, b :: suf, e => by
    have e2 : d = (pre ++ [b]) ++ suf := by rw [e]; simp
    have ih := full_suf hS h (pre ++ [b]) suf e2
    have hb : d.getD (pre.length : Int).toNat false = b := by rw [e, Int.toNat_natCast]; simp
    show (if b = true then turnL (fullW ds) else fullW ds) ++ foldW suf (fullW ds) = _
    rw [ih, List.length_cons, show (suf.length + 1) * S = S + suf.length * S by rw [Nat.add_mul, Nat.one_mul, Nat.add_comm], wd_add]
    have e3 : ((pre ++ [b]).length : Int) * S = (pre.length : Int) * S + S := by rw [List.length_append, List.length_singleton]; show ((pre.length + 1 : Nat) : Int) * S = _; rw [Int.natCast_add, Int.add_mul]; simp
    rw [e3]
    congr 1
    have bl : ∀ i : Nat, i < S → wR (d :: ds) ((pre.length : Int) * S + (i : Int)) = blkF b S (wR ds) i := fun i hi => by
      have := wR_blk (d := d) (ds := ds) (p := pre.length) (r := i) (by omega) (by omega)
      rw [hb, ← hS] at this
      exact this
    rw [h]
    cases b with
    | true =>
      rw [if_pos rfl, wd_turn]
      refine wd_congr fun i hi => ?_
      rw [bl i hi]
      simp [blkF]
    | false =>
      rw [if_neg (by decide)]
      refine wd_congr fun i hi => ?_
      rw [bl i hi]
      simp [blkF]
theorem full_wd : ∀ (ds : List Desk), DsOk ds → ∃ S : Nat, (S : Int) = manyR ds ∧ fullW ds = wd (wR ds) 0 S
  | [], _ => ⟨1, rfl, rfl⟩
  | d :: ds, h => by
    obtain ⟨S, hS, e⟩ := full_wd ds fun x hx => h x (List.mem_cons_of_mem _ hx)
    refine ⟨d.length * S, ?_, ?_⟩
    · rw [manyR_c, ← hS, Int.natCast_mul, Int.mul_comm]
    · have := full_suf (d := d) hS e [] d rfl
      simpa [fullW] using this
def allR : Nat → List (List Int)
  | 0 => [[]]
  | l + 1 => (allR l).map (· ++ [1]) ++ (allR l).map (· ++ [-1])
def allC : Nat → List (List Int)
  | 0 => [[]]
  | l + 1 => (allC l).map (1 :: ·) ++ (allC l).map (-1 :: ·)
theorem mem_allR : ∀ {l : Nat} {r : List Int}, r ∈ allR l ↔ r.length = l ∧ ∀ x, x ∈ r → Pm x
  | 0, r => by
    simp only [allR, List.mem_singleton]
    constructor
    · rintro rfl; simp
    · intro h; exact List.length_eq_zero_iff.mp h.1
  | l + 1, r => by
    simp only [allR, List.mem_append, List.mem_map, mem_allR]
    constructor
    · rintro (⟨a, ⟨h1, h2⟩, rfl⟩ | ⟨a, ⟨h1, h2⟩, rfl⟩)
      · refine ⟨by simp [h1], fun x hx => ?_⟩
        rcases List.mem_append.mp hx with hx | hx
        · exact h2 x hx
        · rw [List.mem_singleton] at hx; exact .inl hx
      · refine ⟨by simp [h1], fun x hx => ?_⟩
        rcases List.mem_append.mp hx with hx | hx
        · exact h2 x hx
        · rw [List.mem_singleton] at hx; exact .inr hx
    · rintro ⟨h1, h2⟩
      have ne : r ≠ [] := fun z => by rw [z] at h1; cases h1
      have e := List.dropLast_concat_getLast ne
      have m := h2 _ (List.getLast_mem ne)
      have d : r.dropLast.length = l ∧ ∀ x, x ∈ r.dropLast → Pm x := ⟨by rw [List.length_dropLast, h1]; rfl, fun x hx => h2 x (List.dropLast_subset _ hx)⟩
      rcases m with m | m
      · exact .inl ⟨_, d, by rw [← m]; exact e⟩
      · exact .inr ⟨_, d, by rw [← m]; exact e⟩
theorem mem_allC : ∀ {l : Nat} {r : List Int}, r ∈ allC l ↔ r.length = l ∧ ∀ x, x ∈ r → Pm x
  | 0, r => by
    simp only [allC, List.mem_singleton]
    constructor
    · rintro rfl; simp
    · intro h; exact List.length_eq_zero_iff.mp h.1
  | l + 1, r => by
    simp only [allC, List.mem_append, List.mem_map, mem_allC]
    constructor
    · rintro (⟨a, ⟨h1, h2⟩, rfl⟩ | ⟨a, ⟨h1, h2⟩, rfl⟩)
      · refine ⟨by simp [h1], fun x hx => ?_⟩
        rcases List.mem_cons.mp hx with hx | hx
        · exact .inl hx
        · exact h2 x hx
      · refine ⟨by simp [h1], fun x hx => ?_⟩
        rcases List.mem_cons.mp hx with hx | hx
        · exact .inr hx
        · exact h2 x hx
    · rintro ⟨h1, h2⟩
      cases r with
      | nil => cases h1
      | cons x r =>
        have d : r.length = l ∧ ∀ x, x ∈ r → Pm x := ⟨by simpa using h1, fun y hy => h2 y (by simp [hy])⟩
        rcases h2 x (by simp) with m | m
        · exact .inl ⟨_, d, by rw [m]⟩
        · exact .inr ⟨_, d, by rw [m]⟩
theorem nd_allR : ∀ l, (allR l).Nodup
  | 0 => by simp [allR]
  | l + 1 => by
    have ih := nd_allR l
    rw [allR, List.nodup_append]
    refine ⟨?_, ?_, fun a ha b hb e => ?_⟩
    · exact List.Pairwise.map _ (fun x y h z => h (List.append_cancel_right z)) ih
    · exact List.Pairwise.map _ (fun x y h z => h (List.append_cancel_right z)) ih
    · obtain ⟨x, _, rfl⟩ := List.mem_map.mp ha
      obtain ⟨y, _, rfl⟩ := List.mem_map.mp hb
      have := congrArg List.getLast? e
      simp at this
theorem nd_allC : ∀ l, (allC l).Nodup
  | 0 => by simp [allC]
  | l + 1 => by
    have ih := nd_allC l
    rw [allC, List.nodup_append]
    refine ⟨?_, ?_, fun a ha b hb e => ?_⟩
    · exact List.Pairwise.map _ (fun x y h z => h (List.cons.inj z).2) ih
    · exact List.Pairwise.map _ (fun x y h z => h (List.cons.inj z).2) ih
    · obtain ⟨x, _, rfl⟩ := List.mem_map.mp ha
      obtain ⟨y, _, rfl⟩ := List.mem_map.mp hb
      have := (List.cons.inj e).1
      omega
theorem allRC (l : Nat) : (allR l).Perm (allC l) := (List.perm_ext_iff_of_nodup (nd_allR l) (nd_allC l)).mpr fun r => by rw [mem_allR, mem_allC]
/-- rows of length l that stand in w with t behind them -/
def cS (w t : List Int) (l : Nat) : Nat := ((allR l).filter fun r => (r ++ t).isSublist w).length
def cnt (w : List Int) (l : Nat) : Nat := cS w [] l
theorem cnt_zero (w : List Int) : cnt w 0 = 1 := by simp [cnt, cS, allR, List.isSublist]
theorem cnt_succ (w : List Int) (l : Nat) : cnt w (l + 1) = cS w [1] l + cS w [-1] l := by
  unfold cnt cS
  rw [allR, List.filter_append, List.length_append, List.filter_map, List.filter_map, List.length_map, List.length_map]
  simp [Function.comp_def]
theorem sub_snoc {r w : List Int} {s : Int} : (r ++ [s]).Sublist (w ++ [s]) ↔ r.Sublist w := by
  rw [← List.reverse_sublist, List.reverse_append, List.reverse_append]
  show (s :: r.reverse).Sublist (s :: w.reverse) ↔ _
  rw [List.cons_sublist_cons, List.reverse_sublist]
theorem sub_snoc_ne {r w : List Int} {s t : Int} (h : s ≠ t) : (r ++ [s]).Sublist (w ++ [t]) ↔ (r ++ [s]).Sublist w := by
  rw [← List.reverse_sublist, List.reverse_append, List.reverse_append, ← List.reverse_sublist (l₂ := w), List.reverse_append]
  show (s :: r.reverse).Sublist (t :: w.reverse) ↔ (s :: r.reverse).Sublist w.reverse
  constructor
  · intro z
    cases z with
    | cons _ z => exact z
    | cons_cons _ z => exact absurd rfl h
  · exact fun z => z.cons _
theorem isSub {r w : List Int} : r.isSublist w = decide (r.Sublist w) := by
  rw [Bool.eq_iff_iff, decide_eq_true_eq]; exact List.isSublist_iff_sublist
theorem cS_same (w : List Int) (s : Int) (l : Nat) : cS (w ++ [s]) [s] l = cnt w l := by
  unfold cnt cS
  congr 1
  refine List.filter_congr fun r _ => ?_
  rw [isSub, isSub, decide_eq_decide, sub_snoc, List.append_nil]
theorem cS_other {w : List Int} {s t : Int} (h : s ≠ t) (l : Nat) : cS (w ++ [t]) [s] l = cS w [s] l := by
  unfold cS
  congr 1
  refine List.filter_congr fun r _ => ?_
  rw [isSub, isSub, decide_eq_decide, sub_snoc_ne h]
theorem cnt_snoc {w : List Int} {s : Int} (h : Pm s) (l : Nat) : (cnt (w ++ [s]) (l + 1) : Int) = cnt w (l + 1) + (cnt w l - cS w [s] l) := by
  rw [cnt_succ, cnt_succ]
  rcases h with rfl | rfl
  · rw [cS_same, cS_other (s := -1) (t := 1) (by decide)]; omega
  · rw [cS_same, cS_other (s := 1) (t := -1) (by decide)]; omega
theorem cS_nil (s : Int) (l : Nat) : cS [] [s] l = 0 := by
  unfold cS
  have : ((allR l).filter fun r => (r ++ [s]).isSublist []) = [] := by
    rw [List.filter_eq_nil_iff]
    intro r _
    rw [isSub]
    simp
  rw [this]; rfl
theorem cnt_nil (l : Nat) : cnt [] (l + 1) = 0 := by rw [cnt_succ, cS_nil, cS_nil]
theorem cnt_sim {w w' : List Int} (h : Sim w w') {l : Nat} (hl : l ≤ 8) : cnt w l = cnt w' l := by
  unfold cnt cS
  congr 1
  refine List.filter_congr fun r hr => ?_
  rw [isSub, isSub, decide_eq_decide, List.append_nil]
  exact h r (by rw [(mem_allR.mp hr).1]; exact hl)
theorem cnt_le (w : List Int) (l : Nat) : cnt w l ≤ 2 ^ l := by
  have len : ∀ l, (allR l).length = 2 ^ l := fun l => by
    induction l with
    | zero => rfl
    | succ l ih => rw [allR, List.length_append, List.length_map, List.length_map, ih, Nat.pow_succ]; omega
  unfold cnt cS
  rw [← len l]
  exact List.length_filter_le _ _
def cC (w : List Int) (s : Int) (l : Nat) : Nat := ((allC l).filter fun r => (s :: r).isSublist w).length
theorem cnt_C (w : List Int) (l : Nat) : cnt w l = ((allC l).filter fun r => r.isSublist w).length := by
  unfold cnt cS
  have : ((allR l).filter fun r => (r ++ []).isSublist w) = (allR l).filter fun r => r.isSublist w := by simp
  rw [this]
  exact ((allRC l).filter _).length_eq
theorem cnt_front (w : List Int) (l : Nat) : cnt w (l + 1) = cC w 1 l + cC w (-1) l := by
  rw [cnt_C]
  unfold cC
  rw [allC, List.filter_append, List.length_append, List.filter_map, List.filter_map, List.length_map, List.length_map]
  simp [Function.comp_def]
/-- the first place from k on with the sign s, -1 if there is none -/
def IsAt (w : List Int) (k : Nat) (s p : Int) : Prop := (p = -1 ∧ ∀ j, k ≤ j → ∀ x, w[j]? = some x → x ≠ s) ∨ ∃ j : Nat, p = (j : Int) ∧ k ≤ j ∧ w[j]? = some s ∧ ∀ i, k ≤ i → i < j → ∀ x, w[i]? = some x → x ≠ s
theorem cC_at {w : List Int} {s p : Int} : ∀ {k : Nat}, IsAt w k s p → ∀ l, cC (w.drop k) s l = if 0 ≤ p then cnt (w.drop (p.toNat + 1)) l else 0 := by
  have none_ : ∀ (v : List Int), (∀ x, x ∈ v → x ≠ s) → ∀ l, cC v s l = 0 := fun v hv l => by
    unfold cC
    have : ((allC l).filter fun r => (s :: r).isSublist v) = [] := by
      rw [List.filter_eq_nil_iff]
      intro r _
      rw [isSub, decide_eq_true_eq]
      intro z
      exact hv s (z.subset (by simp)) rfl
    rw [this]; rfl
  have cut : ∀ (pre v : List Int), (∀ x, x ∈ pre → x ≠ s) → ∀ l, cC (pre ++ s :: v) s l = cnt v l := fun pre v hp l => by
    rw [cnt_C]
    unfold cC
    congr 1
    refine List.filter_congr fun r _ => ?_
    rw [isSub, isSub, decide_eq_decide]
    induction pre with
    | nil => exact List.cons_sublist_cons
    | cons x pre ih =>
      rw [← ih fun y hy => hp y (by simp [hy])]
      constructor
      · intro z
        cases z with
        | cons _ z => exact z
        | cons_cons _ z => exact absurd rfl (hp s (by simp))
      · exact fun z => z.cons _
  rintro k (⟨rfl, h⟩ | ⟨j, rfl, hk, hj, h⟩) l
  · rw [if_neg (by decide)]
    refine none_ _ (fun x hx => ?_) l
    obtain ⟨i, hi, e⟩ := List.getElem_of_mem hx
    refine h (k + i) (by omega) x ?_
    rw [List.getElem_drop] at e
    rw [List.length_drop] at hi
    rw [List.getElem?_eq_getElem (by omega), e]
  · rw [if_pos (by omega), Int.toNat_natCast]
    obtain ⟨jl, ej⟩ := List.getElem?_eq_some_iff.mp hj
    have e : w.drop k = (w.drop k).take (j - k) ++ s :: w.drop (j + 1) := by
      have e1 : w.drop j = s :: w.drop (j + 1) := by rw [List.drop_eq_getElem_cons jl, ej]
      have e2 : (w.drop k).drop (j - k) = w.drop j := by rw [List.drop_drop]; congr 1; omega
      rw [← e1, ← e2, List.take_append_drop]
    rw [e]
    refine cut _ _ (fun x hx => ?_) l
    obtain ⟨i, hi, ex⟩ := List.getElem_of_mem hx
    rw [List.length_take, List.length_drop] at hi
    rw [List.getElem_take, List.getElem_drop] at ex
    exact h (k + i) (by omega) (by omega) x (by rw [List.getElem?_eq_getElem (by omega), ex])
end T44
end P54
section P55
open PySem PySem.Spec PyProof.Rows L2 HT Q
namespace T44
abbrev tupI (xs : List Int) : PyData := .tuple (xs.map .int)
def plD (b : Bool) : PyData := .str (if b = true then "pile" else "tray")
def deskD (d : Desk) : PyData := .tuple (d.map plD)
def desksD (ds : List Desk) : PyData := .tuple (ds.map deskD)
theorem and_b {p q : Bool} {R : PyData → Prop} (h : R (.bool (p && q))) : if p = true then R (.bool q) else R (.bool false) := by cases p <;> simpa using h
theorem at_pl {d : Desk} {c : Int} (h0 : 0 ≤ c) (h1 : c < d.length) : atI (d.map plD) c = some (plD (d.getD c.toNat false)) := by
  obtain ⟨n, rfl⟩ := Int.eq_ofNat_of_zero_le h0
  refine atI_nat ?_
  have h2 : n < d.length := by omega
  simp [List.getD_eq_getElem?_getD, h2]
theorem all_tr {α : Type} {l : List α} : ((l.map fun _ => true).all fun b => b) = true := by simp [Function.comp_def]
theorem tr_ex {α : Type} {l : List α} {R : PyData → Prop} (h : R (.bool true)) : ∃ bs : List Bool, (l.map fun _ => PyData.bool true) = bs.map .bool ∧ R (.bool (bs.all fun b => b)) := by
  refine ⟨l.map fun _ => true, by simp, ?_⟩
  rw [all_tr]
  exact h
theorem eqv_tray {b : Bool} : PyData.eqv (plD b) (.str (Str.ofString "tray")) = !b := by cases b <;> (simp only [plD, PyData.eqv]; decide +kernel)
theorem eqv_pile {b : Bool} : PyData.eqv (plD b) (.str (Str.ofString "pile")) = b := by cases b <;> (simp only [plD, PyData.eqv]; decide +kernel)
theorem sh_str {x : Str} (h : PyData.strOk x = true) : SeqAt.shaped (.str x) = true := by unfold SeqAt.shaped; simp [PyData.canLay0, PyData.depth, h]
theorem sh_pl {b : Bool} : SeqAt.shaped (plD b) = true := sh_str (by cases b <;> decide +kernel)
theorem sh_tray : SeqAt.shaped (.str (Str.ofString "tray")) = true := sh_str (by decide +kernel)
theorem sh_pile : SeqAt.shaped (.str (Str.ofString "pile")) = true := sh_str (by decide +kernel)
def sp_is_integer : PSpec := fun as R => ∃ i : Int, as = [.d (.int i)] ∧ R (.bool true)
theorem len_is_integer : ∀ as R, sp_is_integer as R → as.length = 1 := by rintro as R ⟨i, rfl, _⟩; rfl
theorem rd_is_integer : ∀ as R, sp_is_integer as R → t_is_integer { nx := fun _ => R .none, rt := R } (enOf as 0) := by
  rintro as R ⟨i, rfl, h⟩
  simpa only [t_is_integer, Q.isDc, Q.sPar2K, Q.tDisp2, Q.tIxK, Q.sSetIxK, Q.tVd, Q.tGetK, Q.iKeysQ, Q.tDispK, Q.tVals, Q.tAddL, Q.sSetM, Q.sAl2, Q.tAlApp2, Q.sFrz2, Q.iZipM, Q.itZm, Q.tLcM, Q.addF, Q.isN, Q.mulF, Q.bandI, Q.iZip, Q.itZ, Q.slD, Q.enOf, Q.tV, Q.tK, Q.t2, Q.t1, Q.tB, Q.cI, Q.cIp, Q.subI, Q.fdivI, Q.fdivW, Q.modI, Q.ltI, Q.leI, Q.gtI, Q.geI, Q.negI, Q.vAnd, Q.vNot, Q.qAnd, Q.qOr, Q.qNot, Q.qIf, Q.chI, Q.tTupQ, Q.dNil, Q.dCons, Q.tLstQ, Q.tFz, Q.tCA, Q.lenD, Q.tupD, Q.isD, Q.isInt, Q.isBool, Q.isTup, Q.isStr, Q.tLenN, Q.tIxN, Q.setQ, Q.aNil, Q.aD, Q.aK, Q.tCallQ, Q.tCallKQ, Q.pick, Q.sNil, Q.sSeq, Q.sRet, Q.sExpr, Q.sIf, Q.sSet, Q.sSetL, Q.sAsg, Q.sFor, Q.sPar2, Q.sPar3, Q.pNil, Q.pD, Q.pO, Q.gN, Q.gT, Q.gsNil, Q.gsCons, Q.iQ, Q.itD, Q.iEn, Q.itE, Q.rg1, Q.oSome, Q.tSlQ, Q.revD, Q.tOwnM, Q.appC, Q.popC, Q.extC, Q.ownL, Q.tRepL, Q.repC, Q.sSetIx, Q.ixOwn, Q.tLcQ, Q.noOwn, Q.rstQ, Q.wipeQ, Q.sDn, Q.sSetD, Q.tDgetN, Q.dOwn, Q.sNever, Q.isB, Q.listD, Q.listC, Q.reprD, Q.Sl.isOwn, Q.sAugIx, Q.setQ, Q.tLcM, Q.augC, Q.keyD, Q.rg3, List.map_cons, List.map_nil, List.replicate_succ, List.replicate_zero, List.cons_append, List.nil_append, List.append_nil, List.getElem?_cons_zero, List.getElem?_cons_succ, List.set_cons_zero, List.set_cons_succ, List.getD_cons_zero, List.getD_cons_succ, List.filterMap_cons, List.filterMap_nil, List.all_cons, List.all_nil, Bool.and_true, Bool.true_and, Bool.not_true, Bool.not_false, Bool.not_eq_true, Bool.false_eq_true, Bool.and_self, if_true, if_false, true_and, and_true, ↓reduceIte] using h
def sp_is_between : PSpec := fun as R => ∃ i a b : Int, as = [.d (.int i), .d (.int a), .d (.int b)] ∧ R (.bool (decide (a ≤ i) && decide (i ≤ b)))
theorem len_is_between : ∀ as R, sp_is_between as R → as.length = 3 := by rintro as R ⟨i, a, b, rfl, _⟩; rfl
theorem rd_is_between : ∀ as R, sp_is_between as R → t_is_between sp_is_integer { nx := fun _ => R .none, rt := R } (enOf as 0) := by
  rintro as R ⟨i, a, b, rfl, h⟩
  simp only [t_is_between, Q.isDc, Q.sPar2K, Q.tDisp2, Q.tIxK, Q.sSetIxK, Q.tVd, Q.tGetK, Q.iKeysQ, Q.tDispK, Q.tVals, Q.tAddL, Q.sSetM, Q.sAl2, Q.tAlApp2, Q.sFrz2, Q.iZipM, Q.itZm, Q.tLcM, Q.addF, Q.isN, Q.mulF, Q.bandI, Q.iZip, Q.itZ, Q.slD, Q.enOf, Q.tV, Q.tK, Q.t2, Q.t1, Q.tB, Q.cI, Q.cIp, Q.subI, Q.fdivI, Q.fdivW, Q.modI, Q.ltI, Q.leI, Q.gtI, Q.geI, Q.negI, Q.vAnd, Q.vNot, Q.qAnd, Q.qOr, Q.qNot, Q.qIf, Q.chI, Q.tTupQ, Q.dNil, Q.dCons, Q.tLstQ, Q.tFz, Q.tCA, Q.lenD, Q.tupD, Q.isD, Q.isInt, Q.isBool, Q.isTup, Q.isStr, Q.tLenN, Q.tIxN, Q.setQ, Q.aNil, Q.aD, Q.aK, Q.tCallQ, Q.tCallKQ, Q.pick, Q.sNil, Q.sSeq, Q.sRet, Q.sExpr, Q.sIf, Q.sSet, Q.sSetL, Q.sAsg, Q.sFor, Q.sPar2, Q.sPar3, Q.pNil, Q.pD, Q.pO, Q.gN, Q.gT, Q.gsNil, Q.gsCons, Q.iQ, Q.itD, Q.iEn, Q.itE, Q.rg1, Q.oSome, Q.tSlQ, Q.revD, Q.tOwnM, Q.appC, Q.popC, Q.extC, Q.ownL, Q.tRepL, Q.repC, Q.sSetIx, Q.ixOwn, Q.tLcQ, Q.noOwn, Q.rstQ, Q.wipeQ, Q.sDn, Q.sSetD, Q.tDgetN, Q.dOwn, Q.sNever, Q.isB, Q.listD, Q.listC, Q.reprD, Q.Sl.isOwn, Q.sAugIx, Q.setQ, Q.tLcM, Q.augC, Q.keyD, Q.rg3, List.map_cons, List.map_nil, List.replicate_succ, List.replicate_zero, List.cons_append, List.nil_append, List.append_nil, List.getElem?_cons_zero, List.getElem?_cons_succ, List.set_cons_zero, List.set_cons_succ, List.getD_cons_zero, List.getD_cons_succ, List.filterMap_cons, List.filterMap_nil, List.all_cons, List.all_nil, Bool.and_true, Bool.true_and, Bool.not_true, Bool.not_false, Bool.not_eq_true, Bool.false_eq_true, Bool.and_self, if_true, if_false, true_and, and_true, ↓reduceIte]
  refine ⟨i, rfl, ?_⟩
  simp only [Q.isDc, Q.sPar2K, Q.tDisp2, Q.tIxK, Q.sSetIxK, Q.tVd, Q.tGetK, Q.iKeysQ, Q.tDispK, Q.tVals, Q.tAddL, Q.sSetM, Q.sAl2, Q.tAlApp2, Q.sFrz2, Q.iZipM, Q.itZm, Q.tLcM, Q.addF, Q.isN, Q.mulF, Q.bandI, Q.iZip, Q.itZ, Q.slD, Q.enOf, Q.tV, Q.tK, Q.t2, Q.t1, Q.tB, Q.cI, Q.cIp, Q.subI, Q.fdivI, Q.fdivW, Q.modI, Q.ltI, Q.leI, Q.gtI, Q.geI, Q.negI, Q.vAnd, Q.vNot, Q.qAnd, Q.qOr, Q.qNot, Q.qIf, Q.chI, Q.tTupQ, Q.dNil, Q.dCons, Q.tLstQ, Q.tFz, Q.tCA, Q.lenD, Q.tupD, Q.isD, Q.isInt, Q.isBool, Q.isTup, Q.isStr, Q.tLenN, Q.tIxN, Q.setQ, Q.aNil, Q.aD, Q.aK, Q.tCallQ, Q.tCallKQ, Q.pick, Q.sNil, Q.sSeq, Q.sRet, Q.sExpr, Q.sIf, Q.sSet, Q.sSetL, Q.sAsg, Q.sFor, Q.sPar2, Q.sPar3, Q.pNil, Q.pD, Q.pO, Q.gN, Q.gT, Q.gsNil, Q.gsCons, Q.iQ, Q.itD, Q.iEn, Q.itE, Q.rg1, Q.oSome, Q.tSlQ, Q.revD, Q.tOwnM, Q.appC, Q.popC, Q.extC, Q.ownL, Q.tRepL, Q.repC, Q.sSetIx, Q.ixOwn, Q.tLcQ, Q.noOwn, Q.rstQ, Q.wipeQ, Q.sDn, Q.sSetD, Q.tDgetN, Q.dOwn, Q.sNever, Q.isB, Q.listD, Q.listC, Q.reprD, Q.Sl.isOwn, Q.sAugIx, Q.setQ, Q.tLcM, Q.augC, Q.keyD, Q.rg3, List.map_cons, List.map_nil, List.replicate_succ, List.replicate_zero, List.cons_append, List.nil_append, List.append_nil, List.getElem?_cons_zero, List.getElem?_cons_succ, List.set_cons_zero, List.set_cons_succ, List.getD_cons_zero, List.getD_cons_succ, List.filterMap_cons, List.filterMap_nil, List.all_cons, List.all_nil, Bool.and_true, Bool.true_and, Bool.not_true, Bool.not_false, Bool.not_eq_true, Bool.false_eq_true, Bool.and_self, if_true, if_false, true_and, and_true, ↓reduceIte]
  exact and_b h
theorem pl_in {b : Bool} {R : PyData → Prop} (h : R (.bool true)) : inD false (plD b) (.tuple [.str (Str.ofString "tray"), .str (Str.ofString "pile")]) R := by
  unfold inD
  refine ⟨rfl, rfl, ?_⟩
  have e : ∀ x y : PyData, PyData.eqv (.str (Str.ofString "tray")) (plD b) = !b := fun _ _ => by cases b <;> (simp only [plD, PyData.eqv]; decide +kernel)
  have e2 : PyData.eqv (.str (Str.ofString "pile")) (plD b) = b := by cases b <;> (simp only [plD, PyData.eqv]; decide +kernel)
  simp only [List.any_cons, List.any_nil, e .none .none, e2, Bool.or_false]
  cases b <;> exact h
def sp_is_desk_value : PSpec := fun as R => ∃ d : Desk, as = [.d (deskD d)] ∧ 1 ≤ d.length ∧ d.length ≤ 6 ∧ R (.bool true)
theorem len_is_desk_value : ∀ as R, sp_is_desk_value as R → as.length = 1 := by rintro as R ⟨i, rfl, _⟩; rfl
def sp_sign_of_place : PSpec := fun as R => ∃ b : Bool, as = [.d (plD b)] ∧ R (.int (if b = true then -1 else 1))
theorem len_sign_of_place : ∀ as R, sp_sign_of_place as R → as.length = 1 := by rintro as R ⟨i, rfl, _⟩; rfl
theorem rd_sign_of_place : ∀ as R, sp_sign_of_place as R → t_sign_of_place { nx := fun _ => R .none, rt := R } (enOf as 0) := by
  rintro as R ⟨b, rfl, h⟩
  simp only [t_sign_of_place, Q.isDc, Q.sPar2K, Q.tDisp2, Q.tIxK, Q.sSetIxK, Q.tVd, Q.tGetK, Q.iKeysQ, Q.tDispK, Q.tVals, Q.tAddL, Q.sSetM, Q.sAl2, Q.tAlApp2, Q.sFrz2, Q.iZipM, Q.itZm, Q.tLcM, Q.addF, Q.isN, Q.mulF, Q.bandI, Q.iZip, Q.itZ, Q.slD, Q.enOf, Q.tV, Q.tK, Q.t2, Q.t1, Q.tB, Q.cI, Q.cIp, Q.subI, Q.fdivI, Q.fdivW, Q.modI, Q.ltI, Q.leI, Q.gtI, Q.geI, Q.negI, Q.vAnd, Q.vNot, Q.qAnd, Q.qOr, Q.qNot, Q.qIf, Q.chI, Q.tTupQ, Q.dNil, Q.dCons, Q.tLstQ, Q.tFz, Q.tCA, Q.lenD, Q.tupD, Q.isD, Q.isInt, Q.isBool, Q.isTup, Q.isStr, Q.tLenN, Q.tIxN, Q.setQ, Q.aNil, Q.aD, Q.aK, Q.tCallQ, Q.tCallKQ, Q.pick, Q.sNil, Q.sSeq, Q.sRet, Q.sExpr, Q.sIf, Q.sSet, Q.sSetL, Q.sAsg, Q.sFor, Q.sPar2, Q.sPar3, Q.pNil, Q.pD, Q.pO, Q.gN, Q.gT, Q.gsNil, Q.gsCons, Q.iQ, Q.itD, Q.iEn, Q.itE, Q.rg1, Q.oSome, Q.tSlQ, Q.revD, Q.tOwnM, Q.appC, Q.popC, Q.extC, Q.ownL, Q.tRepL, Q.repC, Q.sSetIx, Q.ixOwn, Q.tLcQ, Q.noOwn, Q.rstQ, Q.wipeQ, Q.sDn, Q.sSetD, Q.tDgetN, Q.dOwn, Q.sNever, Q.isB, Q.listD, Q.listC, Q.reprD, Q.Sl.isOwn, Q.sAugIx, Q.setQ, Q.tLcM, Q.augC, Q.keyD, Q.rg3, List.map_cons, List.map_nil, List.replicate_succ, List.replicate_zero, List.cons_append, List.nil_append, List.append_nil, List.getElem?_cons_zero, List.getElem?_cons_succ, List.set_cons_zero, List.set_cons_succ, List.getD_cons_zero, List.getD_cons_succ, List.filterMap_cons, List.filterMap_nil, List.all_cons, List.all_nil, Bool.and_true, Bool.true_and, Bool.not_true, Bool.not_false, Bool.not_eq_true, Bool.false_eq_true, Bool.and_self, if_true, if_false, true_and, and_true, ↓reduceIte, eqD, neD, sh_int, eqv_int, eqv_strs, sDraw, List.length_cons, List.length_nil, Nat.zero_add, Nat.reduceAdd, decide_true, eq_self, sh_pl, sh_tray, eqv_tray]
  cases b <;> simpa using h
def sp_are_desks_value : PSpec := fun as R => ∃ ds : List Desk, as = [.d (desksD ds)] ∧ DsOk ds ∧ ds.length ≤ 12 ∧ R (.bool true)
theorem len_are_desks_value : ∀ as R, sp_are_desks_value as R → as.length = 1 := by rintro as R ⟨i, rfl, _⟩; rfl
theorem rd_are_desks_value : ∀ as R, sp_are_desks_value as R → t_are_desks_value sp_is_desk_value { nx := fun _ => R .none, rt := R } (enOf as 1) := by
  rintro as R ⟨ds, rfl, h1, h2, h⟩
  have e2 : decide (((ds.length : Nat) : Int) ≤ 12) = true := by simp; omega
  simp only [t_are_desks_value, desksD, Q.isDc, Q.sPar2K, Q.tDisp2, Q.tIxK, Q.sSetIxK, Q.tVd, Q.tGetK, Q.iKeysQ, Q.tDispK, Q.tVals, Q.tAddL, Q.sSetM, Q.sAl2, Q.tAlApp2, Q.sFrz2, Q.iZipM, Q.itZm, Q.tLcM, Q.addF, Q.isN, Q.mulF, Q.bandI, Q.iZip, Q.itZ, Q.slD, Q.enOf, Q.tV, Q.tK, Q.t2, Q.t1, Q.tB, Q.cI, Q.cIp, Q.subI, Q.fdivI, Q.fdivW, Q.modI, Q.ltI, Q.leI, Q.gtI, Q.geI, Q.negI, Q.vAnd, Q.vNot, Q.qAnd, Q.qOr, Q.qNot, Q.qIf, Q.chI, Q.tTupQ, Q.dNil, Q.dCons, Q.tLstQ, Q.tFz, Q.tCA, Q.lenD, Q.tupD, Q.isD, Q.isInt, Q.isBool, Q.isTup, Q.isStr, Q.tLenN, Q.tIxN, Q.setQ, Q.aNil, Q.aD, Q.aK, Q.tCallQ, Q.tCallKQ, Q.pick, Q.sNil, Q.sSeq, Q.sRet, Q.sExpr, Q.sIf, Q.sSet, Q.sSetL, Q.sAsg, Q.sFor, Q.sPar2, Q.sPar3, Q.pNil, Q.pD, Q.pO, Q.gN, Q.gT, Q.gsNil, Q.gsCons, Q.iQ, Q.itD, Q.iEn, Q.itE, Q.rg1, Q.oSome, Q.tSlQ, Q.revD, Q.tOwnM, Q.appC, Q.popC, Q.extC, Q.ownL, Q.tRepL, Q.repC, Q.sSetIx, Q.ixOwn, Q.tLcQ, Q.noOwn, Q.rstQ, Q.wipeQ, Q.sDn, Q.sSetD, Q.tDgetN, Q.dOwn, Q.sNever, Q.isB, Q.listD, Q.listC, Q.reprD, Q.Sl.isOwn, Q.sAugIx, Q.setQ, Q.tLcM, Q.augC, Q.keyD, Q.rg3, List.map_cons, List.map_nil, List.replicate_succ, List.replicate_zero, List.cons_append, List.nil_append, List.append_nil, List.getElem?_cons_zero, List.getElem?_cons_succ, List.set_cons_zero, List.set_cons_succ, List.getD_cons_zero, List.getD_cons_succ, List.filterMap_cons, List.filterMap_nil, List.all_cons, List.all_nil, Bool.and_true, Bool.true_and, Bool.not_true, Bool.not_false, Bool.not_eq_true, Bool.false_eq_true, Bool.and_self, if_true, if_false, true_and, and_true, ↓reduceIte, eqD, neD, sh_int, eqv_int, eqv_strs, sDraw, List.length_cons, List.length_nil, Nat.zero_add, Nat.reduceAdd, decide_true, eq_self, List.length_map, e2]
  refine comp_map (fun _ => .bool true) (fun x hx Rk hk => ?_) ?_
  · obtain ⟨d, hd, rfl⟩ := List.mem_map.mp hx
    simp only [Q.isDc, Q.sPar2K, Q.tDisp2, Q.tIxK, Q.sSetIxK, Q.tVd, Q.tGetK, Q.iKeysQ, Q.tDispK, Q.tVals, Q.tAddL, Q.sSetM, Q.sAl2, Q.tAlApp2, Q.sFrz2, Q.iZipM, Q.itZm, Q.tLcM, Q.addF, Q.isN, Q.mulF, Q.bandI, Q.iZip, Q.itZ, Q.slD, Q.enOf, Q.tV, Q.tK, Q.t2, Q.t1, Q.tB, Q.cI, Q.cIp, Q.subI, Q.fdivI, Q.fdivW, Q.modI, Q.ltI, Q.leI, Q.gtI, Q.geI, Q.negI, Q.vAnd, Q.vNot, Q.qAnd, Q.qOr, Q.qNot, Q.qIf, Q.chI, Q.tTupQ, Q.dNil, Q.dCons, Q.tLstQ, Q.tFz, Q.tCA, Q.lenD, Q.tupD, Q.isD, Q.isInt, Q.isBool, Q.isTup, Q.isStr, Q.tLenN, Q.tIxN, Q.setQ, Q.aNil, Q.aD, Q.aK, Q.tCallQ, Q.tCallKQ, Q.pick, Q.sNil, Q.sSeq, Q.sRet, Q.sExpr, Q.sIf, Q.sSet, Q.sSetL, Q.sAsg, Q.sFor, Q.sPar2, Q.sPar3, Q.pNil, Q.pD, Q.pO, Q.gN, Q.gT, Q.gsNil, Q.gsCons, Q.iQ, Q.itD, Q.iEn, Q.itE, Q.rg1, Q.oSome, Q.tSlQ, Q.revD, Q.tOwnM, Q.appC, Q.popC, Q.extC, Q.ownL, Q.tRepL, Q.repC, Q.sSetIx, Q.ixOwn, Q.tLcQ, Q.noOwn, Q.rstQ, Q.wipeQ, Q.sDn, Q.sSetD, Q.tDgetN, Q.dOwn, Q.sNever, Q.isB, Q.listD, Q.listC, Q.reprD, Q.Sl.isOwn, Q.sAugIx, Q.setQ, Q.tLcM, Q.augC, Q.keyD, Q.rg3, List.map_cons, List.map_nil, List.replicate_succ, List.replicate_zero, List.cons_append, List.nil_append, List.append_nil, List.getElem?_cons_zero, List.getElem?_cons_succ, List.set_cons_zero, List.set_cons_succ, List.getD_cons_zero, List.getD_cons_succ, List.filterMap_cons, List.filterMap_nil, List.all_cons, List.all_nil, Bool.and_true, Bool.true_and, Bool.not_true, Bool.not_false, Bool.not_eq_true, Bool.false_eq_true, Bool.and_self, if_true, if_false, true_and, and_true, ↓reduceIte, eqD, neD, sh_int, eqv_int, eqv_strs, sDraw, List.length_cons, List.length_nil, Nat.zero_add, Nat.reduceAdd, decide_true, eq_self]
    exact ⟨d, rfl, (h1 d hd).1, (h1 d hd).2, hk _ (by simp only [Q.isDc, Q.sPar2K, Q.tDisp2, Q.tIxK, Q.sSetIxK, Q.tVd, Q.tGetK, Q.iKeysQ, Q.tDispK, Q.tVals, Q.tAddL, Q.sSetM, Q.sAl2, Q.tAlApp2, Q.sFrz2, Q.iZipM, Q.itZm, Q.tLcM, Q.addF, Q.isN, Q.mulF, Q.bandI, Q.iZip, Q.itZ, Q.slD, Q.enOf, Q.tV, Q.tK, Q.t2, Q.t1, Q.tB, Q.cI, Q.cIp, Q.subI, Q.fdivI, Q.fdivW, Q.modI, Q.ltI, Q.leI, Q.gtI, Q.geI, Q.negI, Q.vAnd, Q.vNot, Q.qAnd, Q.qOr, Q.qNot, Q.qIf, Q.chI, Q.tTupQ, Q.dNil, Q.dCons, Q.tLstQ, Q.tFz, Q.tCA, Q.lenD, Q.tupD, Q.isD, Q.isInt, Q.isBool, Q.isTup, Q.isStr, Q.tLenN, Q.tIxN, Q.setQ, Q.aNil, Q.aD, Q.aK, Q.tCallQ, Q.tCallKQ, Q.pick, Q.sNil, Q.sSeq, Q.sRet, Q.sExpr, Q.sIf, Q.sSet, Q.sSetL, Q.sAsg, Q.sFor, Q.sPar2, Q.sPar3, Q.pNil, Q.pD, Q.pO, Q.gN, Q.gT, Q.gsNil, Q.gsCons, Q.iQ, Q.itD, Q.iEn, Q.itE, Q.rg1, Q.oSome, Q.tSlQ, Q.revD, Q.tOwnM, Q.appC, Q.popC, Q.extC, Q.ownL, Q.tRepL, Q.repC, Q.sSetIx, Q.ixOwn, Q.tLcQ, Q.noOwn, Q.rstQ, Q.wipeQ, Q.sDn, Q.sSetD, Q.tDgetN, Q.dOwn, Q.sNever, Q.isB, Q.listD, Q.listC, Q.reprD, Q.Sl.isOwn, Q.sAugIx, Q.setQ, Q.tLcM, Q.augC, Q.keyD, Q.rg3, List.map_cons, List.map_nil, List.replicate_succ, List.replicate_zero, List.cons_append, List.nil_append, List.append_nil, List.getElem?_cons_zero, List.getElem?_cons_succ, List.set_cons_zero, List.set_cons_succ, List.getD_cons_zero, List.getD_cons_succ, List.filterMap_cons, List.filterMap_nil, List.all_cons, List.all_nil, Bool.and_true, Bool.true_and, Bool.not_true, Bool.not_false, Bool.not_eq_true, Bool.false_eq_true, Bool.and_self, if_true, if_false, true_and, and_true, ↓reduceIte, eqD, neD, sh_int, eqv_int, eqv_strs, sDraw, List.length_cons, List.length_nil, Nat.zero_add, Nat.reduceAdd, decide_true, eq_self])⟩
  · simp only [Q.isDc, Q.sPar2K, Q.tDisp2, Q.tIxK, Q.sSetIxK, Q.tVd, Q.tGetK, Q.iKeysQ, Q.tDispK, Q.tVals, Q.tAddL, Q.sSetM, Q.sAl2, Q.tAlApp2, Q.sFrz2, Q.iZipM, Q.itZm, Q.tLcM, Q.addF, Q.isN, Q.mulF, Q.bandI, Q.iZip, Q.itZ, Q.slD, Q.enOf, Q.tV, Q.tK, Q.t2, Q.t1, Q.tB, Q.cI, Q.cIp, Q.subI, Q.fdivI, Q.fdivW, Q.modI, Q.ltI, Q.leI, Q.gtI, Q.geI, Q.negI, Q.vAnd, Q.vNot, Q.qAnd, Q.qOr, Q.qNot, Q.qIf, Q.chI, Q.tTupQ, Q.dNil, Q.dCons, Q.tLstQ, Q.tFz, Q.tCA, Q.lenD, Q.tupD, Q.isD, Q.isInt, Q.isBool, Q.isTup, Q.isStr, Q.tLenN, Q.tIxN, Q.setQ, Q.aNil, Q.aD, Q.aK, Q.tCallQ, Q.tCallKQ, Q.pick, Q.sNil, Q.sSeq, Q.sRet, Q.sExpr, Q.sIf, Q.sSet, Q.sSetL, Q.sAsg, Q.sFor, Q.sPar2, Q.sPar3, Q.pNil, Q.pD, Q.pO, Q.gN, Q.gT, Q.gsNil, Q.gsCons, Q.iQ, Q.itD, Q.iEn, Q.itE, Q.rg1, Q.oSome, Q.tSlQ, Q.revD, Q.tOwnM, Q.appC, Q.popC, Q.extC, Q.ownL, Q.tRepL, Q.repC, Q.sSetIx, Q.ixOwn, Q.tLcQ, Q.noOwn, Q.rstQ, Q.wipeQ, Q.sDn, Q.sSetD, Q.tDgetN, Q.dOwn, Q.sNever, Q.isB, Q.listD, Q.listC, Q.reprD, Q.Sl.isOwn, Q.sAugIx, Q.setQ, Q.tLcM, Q.augC, Q.keyD, Q.rg3, List.map_cons, List.map_nil, List.replicate_succ, List.replicate_zero, List.cons_append, List.nil_append, List.append_nil, List.getElem?_cons_zero, List.getElem?_cons_succ, List.set_cons_zero, List.set_cons_succ, List.getD_cons_zero, List.getD_cons_succ, List.filterMap_cons, List.filterMap_nil, List.all_cons, List.all_nil, Bool.and_true, Bool.true_and, Bool.not_true, Bool.not_false, Bool.not_eq_true, Bool.false_eq_true, Bool.and_self, if_true, if_false, true_and, and_true, ↓reduceIte, eqD, neD, sh_int, eqv_int, eqv_strs, sDraw, List.length_cons, List.length_nil, Nat.zero_add, Nat.reduceAdd, decide_true, eq_self, allD, List.map_map]
    exact tr_ex h
theorem zip_c {d : Desk} {ds : List Desk} {p : Int} {c : List Int} : zipD ((d :: ds).map deskD) ((p :: c).map .int) = .tuple [deskD d, .int p] :: zipD (ds.map deskD) (c.map .int) := rfl
theorem zip_mem : ∀ {ds : List Desk} {c : List Int} {x : PyData}, OkR ds c → x ∈ zipD (ds.map deskD) (c.map .int) → ∃ (d : Desk) (p : Int), x = .tuple [deskD d, .int p] ∧ 0 ≤ p ∧ p < d.length
  | [], [], _, _, h => by simp [zipD] at h
  | d :: ds, p :: c, x, ok, h => by
    rw [zip_c, List.mem_cons] at h
    rcases h with rfl | h
    · exact ⟨d, p, rfl, ok.1.1, ok.1.2⟩
    · exact zip_mem ok.2 h
  | [], _ :: _, _, ok, _ => ok.elim
  | _ :: _, [], _, ok, _ => ok.elim
def sp_is_code_value : PSpec := fun as R => ∃ (ds : List Desk) (c : List Int), as = [.d (desksD ds), .d (tupI c)] ∧ OkR ds c ∧ ds.length ≤ 12 ∧ R (.bool true)
theorem len_is_code_value : ∀ as R, sp_is_code_value as R → as.length = 2 := by rintro as R ⟨i, c, rfl, _⟩; rfl
theorem rd_is_code_value : ∀ as R, sp_is_code_value as R → t_is_code_value sp_is_between { nx := fun _ => R .none, rt := R } (enOf as 2) := by
  rintro as R ⟨ds, c, rfl, h1, h2, h⟩
  simp only [t_is_code_value, desksD, tupI, Q.isDc, Q.sPar2K, Q.tDisp2, Q.tIxK, Q.sSetIxK, Q.tVd, Q.tGetK, Q.iKeysQ, Q.tDispK, Q.tVals, Q.tAddL, Q.sSetM, Q.sAl2, Q.tAlApp2, Q.sFrz2, Q.iZipM, Q.itZm, Q.tLcM, Q.addF, Q.isN, Q.mulF, Q.bandI, Q.iZip, Q.itZ, Q.slD, Q.enOf, Q.tV, Q.tK, Q.t2, Q.t1, Q.tB, Q.cI, Q.cIp, Q.subI, Q.fdivI, Q.fdivW, Q.modI, Q.ltI, Q.leI, Q.gtI, Q.geI, Q.negI, Q.vAnd, Q.vNot, Q.qAnd, Q.qOr, Q.qNot, Q.qIf, Q.chI, Q.tTupQ, Q.dNil, Q.dCons, Q.tLstQ, Q.tFz, Q.tCA, Q.lenD, Q.tupD, Q.isD, Q.isInt, Q.isBool, Q.isTup, Q.isStr, Q.tLenN, Q.tIxN, Q.setQ, Q.aNil, Q.aD, Q.aK, Q.tCallQ, Q.tCallKQ, Q.pick, Q.sNil, Q.sSeq, Q.sRet, Q.sExpr, Q.sIf, Q.sSet, Q.sSetL, Q.sAsg, Q.sFor, Q.sPar2, Q.sPar3, Q.pNil, Q.pD, Q.pO, Q.gN, Q.gT, Q.gsNil, Q.gsCons, Q.iQ, Q.itD, Q.iEn, Q.itE, Q.rg1, Q.oSome, Q.tSlQ, Q.revD, Q.tOwnM, Q.appC, Q.popC, Q.extC, Q.ownL, Q.tRepL, Q.repC, Q.sSetIx, Q.ixOwn, Q.tLcQ, Q.noOwn, Q.rstQ, Q.wipeQ, Q.sDn, Q.sSetD, Q.tDgetN, Q.dOwn, Q.sNever, Q.isB, Q.listD, Q.listC, Q.reprD, Q.Sl.isOwn, Q.sAugIx, Q.setQ, Q.tLcM, Q.augC, Q.keyD, Q.rg3, List.map_cons, List.map_nil, List.replicate_succ, List.replicate_zero, List.cons_append, List.nil_append, List.append_nil, List.getElem?_cons_zero, List.getElem?_cons_succ, List.set_cons_zero, List.set_cons_succ, List.getD_cons_zero, List.getD_cons_succ, List.filterMap_cons, List.filterMap_nil, List.all_cons, List.all_nil, Bool.and_true, Bool.true_and, Bool.not_true, Bool.not_false, Bool.not_eq_true, Bool.false_eq_true, Bool.and_self, if_true, if_false, true_and, and_true, ↓reduceIte, eqD, neD, sh_int, eqv_int, eqv_strs, sDraw, List.length_cons, List.length_nil, Nat.zero_add, Nat.reduceAdd, decide_true, eq_self, List.length_map, h1.length]
  refine ⟨by omega, ?_⟩
  refine comp_map (fun _ => .bool true) (fun x hx Rk hk => ?_) ?_
  · obtain ⟨d, p, rfl, q1, q2⟩ := zip_mem h1 hx
    simp only [deskD, Q.isDc, Q.sPar2K, Q.tDisp2, Q.tIxK, Q.sSetIxK, Q.tVd, Q.tGetK, Q.iKeysQ, Q.tDispK, Q.tVals, Q.tAddL, Q.sSetM, Q.sAl2, Q.tAlApp2, Q.sFrz2, Q.iZipM, Q.itZm, Q.tLcM, Q.addF, Q.isN, Q.mulF, Q.bandI, Q.iZip, Q.itZ, Q.slD, Q.enOf, Q.tV, Q.tK, Q.t2, Q.t1, Q.tB, Q.cI, Q.cIp, Q.subI, Q.fdivI, Q.fdivW, Q.modI, Q.ltI, Q.leI, Q.gtI, Q.geI, Q.negI, Q.vAnd, Q.vNot, Q.qAnd, Q.qOr, Q.qNot, Q.qIf, Q.chI, Q.tTupQ, Q.dNil, Q.dCons, Q.tLstQ, Q.tFz, Q.tCA, Q.lenD, Q.tupD, Q.isD, Q.isInt, Q.isBool, Q.isTup, Q.isStr, Q.tLenN, Q.tIxN, Q.setQ, Q.aNil, Q.aD, Q.aK, Q.tCallQ, Q.tCallKQ, Q.pick, Q.sNil, Q.sSeq, Q.sRet, Q.sExpr, Q.sIf, Q.sSet, Q.sSetL, Q.sAsg, Q.sFor, Q.sPar2, Q.sPar3, Q.pNil, Q.pD, Q.pO, Q.gN, Q.gT, Q.gsNil, Q.gsCons, Q.iQ, Q.itD, Q.iEn, Q.itE, Q.rg1, Q.oSome, Q.tSlQ, Q.revD, Q.tOwnM, Q.appC, Q.popC, Q.extC, Q.ownL, Q.tRepL, Q.repC, Q.sSetIx, Q.ixOwn, Q.tLcQ, Q.noOwn, Q.rstQ, Q.wipeQ, Q.sDn, Q.sSetD, Q.tDgetN, Q.dOwn, Q.sNever, Q.isB, Q.listD, Q.listC, Q.reprD, Q.Sl.isOwn, Q.sAugIx, Q.setQ, Q.tLcM, Q.augC, Q.keyD, Q.rg3, List.map_cons, List.map_nil, List.replicate_succ, List.replicate_zero, List.cons_append, List.nil_append, List.append_nil, List.getElem?_cons_zero, List.getElem?_cons_succ, List.set_cons_zero, List.set_cons_succ, List.getD_cons_zero, List.getD_cons_succ, List.filterMap_cons, List.filterMap_nil, List.all_cons, List.all_nil, Bool.and_true, Bool.true_and, Bool.not_true, Bool.not_false, Bool.not_eq_true, Bool.false_eq_true, Bool.and_self, if_true, if_false, true_and, and_true, ↓reduceIte, eqD, neD, sh_int, eqv_int, eqv_strs, sDraw, List.length_cons, List.length_nil, Nat.zero_add, Nat.reduceAdd, decide_true, eq_self, List.length_map]
    refine ⟨p, 0, _, rfl, ?_⟩
    have e1 : decide ((0 : Int) ≤ p) = true := by simp [q1]
    have e2 : decide (p ≤ ((d.length : Nat) : Int) - 1) = true := by simp; omega
    rw [e1, e2]
    exact hk _ (by simp only [Q.isDc, Q.sPar2K, Q.tDisp2, Q.tIxK, Q.sSetIxK, Q.tVd, Q.tGetK, Q.iKeysQ, Q.tDispK, Q.tVals, Q.tAddL, Q.sSetM, Q.sAl2, Q.tAlApp2, Q.sFrz2, Q.iZipM, Q.itZm, Q.tLcM, Q.addF, Q.isN, Q.mulF, Q.bandI, Q.iZip, Q.itZ, Q.slD, Q.enOf, Q.tV, Q.tK, Q.t2, Q.t1, Q.tB, Q.cI, Q.cIp, Q.subI, Q.fdivI, Q.fdivW, Q.modI, Q.ltI, Q.leI, Q.gtI, Q.geI, Q.negI, Q.vAnd, Q.vNot, Q.qAnd, Q.qOr, Q.qNot, Q.qIf, Q.chI, Q.tTupQ, Q.dNil, Q.dCons, Q.tLstQ, Q.tFz, Q.tCA, Q.lenD, Q.tupD, Q.isD, Q.isInt, Q.isBool, Q.isTup, Q.isStr, Q.tLenN, Q.tIxN, Q.setQ, Q.aNil, Q.aD, Q.aK, Q.tCallQ, Q.tCallKQ, Q.pick, Q.sNil, Q.sSeq, Q.sRet, Q.sExpr, Q.sIf, Q.sSet, Q.sSetL, Q.sAsg, Q.sFor, Q.sPar2, Q.sPar3, Q.pNil, Q.pD, Q.pO, Q.gN, Q.gT, Q.gsNil, Q.gsCons, Q.iQ, Q.itD, Q.iEn, Q.itE, Q.rg1, Q.oSome, Q.tSlQ, Q.revD, Q.tOwnM, Q.appC, Q.popC, Q.extC, Q.ownL, Q.tRepL, Q.repC, Q.sSetIx, Q.ixOwn, Q.tLcQ, Q.noOwn, Q.rstQ, Q.wipeQ, Q.sDn, Q.sSetD, Q.tDgetN, Q.dOwn, Q.sNever, Q.isB, Q.listD, Q.listC, Q.reprD, Q.Sl.isOwn, Q.sAugIx, Q.setQ, Q.tLcM, Q.augC, Q.keyD, Q.rg3, List.map_cons, List.map_nil, List.replicate_succ, List.replicate_zero, List.cons_append, List.nil_append, List.append_nil, List.getElem?_cons_zero, List.getElem?_cons_succ, List.set_cons_zero, List.set_cons_succ, List.getD_cons_zero, List.getD_cons_succ, List.filterMap_cons, List.filterMap_nil, List.all_cons, List.all_nil, Bool.and_true, Bool.true_and, Bool.not_true, Bool.not_false, Bool.not_eq_true, Bool.false_eq_true, Bool.and_self, if_true, if_false, true_and, and_true, ↓reduceIte, eqD, neD, sh_int, eqv_int, eqv_strs, sDraw, List.length_cons, List.length_nil, Nat.zero_add, Nat.reduceAdd, decide_true, eq_self])
  · simp only [Q.isDc, Q.sPar2K, Q.tDisp2, Q.tIxK, Q.sSetIxK, Q.tVd, Q.tGetK, Q.iKeysQ, Q.tDispK, Q.tVals, Q.tAddL, Q.sSetM, Q.sAl2, Q.tAlApp2, Q.sFrz2, Q.iZipM, Q.itZm, Q.tLcM, Q.addF, Q.isN, Q.mulF, Q.bandI, Q.iZip, Q.itZ, Q.slD, Q.enOf, Q.tV, Q.tK, Q.t2, Q.t1, Q.tB, Q.cI, Q.cIp, Q.subI, Q.fdivI, Q.fdivW, Q.modI, Q.ltI, Q.leI, Q.gtI, Q.geI, Q.negI, Q.vAnd, Q.vNot, Q.qAnd, Q.qOr, Q.qNot, Q.qIf, Q.chI, Q.tTupQ, Q.dNil, Q.dCons, Q.tLstQ, Q.tFz, Q.tCA, Q.lenD, Q.tupD, Q.isD, Q.isInt, Q.isBool, Q.isTup, Q.isStr, Q.tLenN, Q.tIxN, Q.setQ, Q.aNil, Q.aD, Q.aK, Q.tCallQ, Q.tCallKQ, Q.pick, Q.sNil, Q.sSeq, Q.sRet, Q.sExpr, Q.sIf, Q.sSet, Q.sSetL, Q.sAsg, Q.sFor, Q.sPar2, Q.sPar3, Q.pNil, Q.pD, Q.pO, Q.gN, Q.gT, Q.gsNil, Q.gsCons, Q.iQ, Q.itD, Q.iEn, Q.itE, Q.rg1, Q.oSome, Q.tSlQ, Q.revD, Q.tOwnM, Q.appC, Q.popC, Q.extC, Q.ownL, Q.tRepL, Q.repC, Q.sSetIx, Q.ixOwn, Q.tLcQ, Q.noOwn, Q.rstQ, Q.wipeQ, Q.sDn, Q.sSetD, Q.tDgetN, Q.dOwn, Q.sNever, Q.isB, Q.listD, Q.listC, Q.reprD, Q.Sl.isOwn, Q.sAugIx, Q.setQ, Q.tLcM, Q.augC, Q.keyD, Q.rg3, List.map_cons, List.map_nil, List.replicate_succ, List.replicate_zero, List.cons_append, List.nil_append, List.append_nil, List.getElem?_cons_zero, List.getElem?_cons_succ, List.set_cons_zero, List.set_cons_succ, List.getD_cons_zero, List.getD_cons_succ, List.filterMap_cons, List.filterMap_nil, List.all_cons, List.all_nil, Bool.and_true, Bool.true_and, Bool.not_true, Bool.not_false, Bool.not_eq_true, Bool.false_eq_true, Bool.and_self, if_true, if_false, true_and, and_true, ↓reduceIte, eqD, neD, sh_int, eqv_int, eqv_strs, sDraw, List.length_cons, List.length_nil, Nat.zero_add, Nat.reduceAdd, decide_true, eq_self, allD]
    exact tr_ex h
theorem loop_sign (R : EndsQ) (x y : Sl) : ∀ (ds : List Desk) (c : List Int) (s : Int) (s3 s4 : Sl), OkR ds c → -1 ≤ s → s ≤ 1 → (∀ s3 s4, R.nx [x, y, .d (.int (sgnL s ds c)), s3, s4]) →
    forQ (gT 2 (gsCons (gN 3) (gsCons (gN 4) gsNil))) (sSet 2 (t2 mulF (tV 2) (tCallQ sp_sign_of_place (aD (tIxN 3 (tV 4)) aNil)))) R (zipD (ds.map deskD) (c.map .int)) [x, y, .d (.int s), s3, s4]
  | [], [], s, s3, s4, _, _, _, h => by simpa only [zipD, List.map_nil, List.zipWith_nil_left, forQ, sgnL] using h s3 s4
  | d :: ds, p :: c, s, s3, s4, ok, b1, b2, h => by
    rw [zip_c]
    simp only [forQ, deskD, Q.isDc, Q.sPar2K, Q.tDisp2, Q.tIxK, Q.sSetIxK, Q.tVd, Q.tGetK, Q.iKeysQ, Q.tDispK, Q.tVals, Q.tAddL, Q.sSetM, Q.sAl2, Q.tAlApp2, Q.sFrz2, Q.iZipM, Q.itZm, Q.tLcM, Q.addF, Q.isN, Q.mulF, Q.bandI, Q.iZip, Q.itZ, Q.slD, Q.enOf, Q.tV, Q.tK, Q.t2, Q.t1, Q.tB, Q.cI, Q.cIp, Q.subI, Q.fdivI, Q.fdivW, Q.modI, Q.ltI, Q.leI, Q.gtI, Q.geI, Q.negI, Q.vAnd, Q.vNot, Q.qAnd, Q.qOr, Q.qNot, Q.qIf, Q.chI, Q.tTupQ, Q.dNil, Q.dCons, Q.tLstQ, Q.tFz, Q.tCA, Q.lenD, Q.tupD, Q.isD, Q.isInt, Q.isBool, Q.isTup, Q.isStr, Q.tLenN, Q.tIxN, Q.setQ, Q.aNil, Q.aD, Q.aK, Q.tCallQ, Q.tCallKQ, Q.pick, Q.sNil, Q.sSeq, Q.sRet, Q.sExpr, Q.sIf, Q.sSet, Q.sSetL, Q.sAsg, Q.sFor, Q.sPar2, Q.sPar3, Q.pNil, Q.pD, Q.pO, Q.gN, Q.gT, Q.gsNil, Q.gsCons, Q.iQ, Q.itD, Q.iEn, Q.itE, Q.rg1, Q.oSome, Q.tSlQ, Q.revD, Q.tOwnM, Q.appC, Q.popC, Q.extC, Q.ownL, Q.tRepL, Q.repC, Q.sSetIx, Q.ixOwn, Q.tLcQ, Q.noOwn, Q.rstQ, Q.wipeQ, Q.sDn, Q.sSetD, Q.tDgetN, Q.dOwn, Q.sNever, Q.isB, Q.listD, Q.listC, Q.reprD, Q.Sl.isOwn, Q.sAugIx, Q.setQ, Q.tLcM, Q.augC, Q.keyD, Q.rg3, List.map_cons, List.map_nil, List.replicate_succ, List.replicate_zero, List.cons_append, List.nil_append, List.append_nil, List.getElem?_cons_zero, List.getElem?_cons_succ, List.set_cons_zero, List.set_cons_succ, List.getD_cons_zero, List.getD_cons_succ, List.filterMap_cons, List.filterMap_nil, List.all_cons, List.all_nil, Bool.and_true, Bool.true_and, Bool.not_true, Bool.not_false, Bool.not_eq_true, Bool.false_eq_true, Bool.and_self, if_true, if_false, true_and, and_true, ↓reduceIte, eqD, neD, sh_int, eqv_int, eqv_strs, sDraw, List.length_cons, List.length_nil, Nat.zero_add, Nat.reduceAdd, decide_true, eq_self, ixD]
    refine ⟨_, at_pl ok.1.1 ok.1.2, _, rfl, ?_⟩
    simp only [Q.isDc, Q.sPar2K, Q.tDisp2, Q.tIxK, Q.sSetIxK, Q.tVd, Q.tGetK, Q.iKeysQ, Q.tDispK, Q.tVals, Q.tAddL, Q.sSetM, Q.sAl2, Q.tAlApp2, Q.sFrz2, Q.iZipM, Q.itZm, Q.tLcM, Q.addF, Q.isN, Q.mulF, Q.bandI, Q.iZip, Q.itZ, Q.slD, Q.enOf, Q.tV, Q.tK, Q.t2, Q.t1, Q.tB, Q.cI, Q.cIp, Q.subI, Q.fdivI, Q.fdivW, Q.modI, Q.ltI, Q.leI, Q.gtI, Q.geI, Q.negI, Q.vAnd, Q.vNot, Q.qAnd, Q.qOr, Q.qNot, Q.qIf, Q.chI, Q.tTupQ, Q.dNil, Q.dCons, Q.tLstQ, Q.tFz, Q.tCA, Q.lenD, Q.tupD, Q.isD, Q.isInt, Q.isBool, Q.isTup, Q.isStr, Q.tLenN, Q.tIxN, Q.setQ, Q.aNil, Q.aD, Q.aK, Q.tCallQ, Q.tCallKQ, Q.pick, Q.sNil, Q.sSeq, Q.sRet, Q.sExpr, Q.sIf, Q.sSet, Q.sSetL, Q.sAsg, Q.sFor, Q.sPar2, Q.sPar3, Q.pNil, Q.pD, Q.pO, Q.gN, Q.gT, Q.gsNil, Q.gsCons, Q.iQ, Q.itD, Q.iEn, Q.itE, Q.rg1, Q.oSome, Q.tSlQ, Q.revD, Q.tOwnM, Q.appC, Q.popC, Q.extC, Q.ownL, Q.tRepL, Q.repC, Q.sSetIx, Q.ixOwn, Q.tLcQ, Q.noOwn, Q.rstQ, Q.wipeQ, Q.sDn, Q.sSetD, Q.tDgetN, Q.dOwn, Q.sNever, Q.isB, Q.listD, Q.listC, Q.reprD, Q.Sl.isOwn, Q.sAugIx, Q.setQ, Q.tLcM, Q.augC, Q.keyD, Q.rg3, List.map_cons, List.map_nil, List.replicate_succ, List.replicate_zero, List.cons_append, List.nil_append, List.append_nil, List.getElem?_cons_zero, List.getElem?_cons_succ, List.set_cons_zero, List.set_cons_succ, List.getD_cons_zero, List.getD_cons_succ, List.filterMap_cons, List.filterMap_nil, List.all_cons, List.all_nil, Bool.and_true, Bool.true_and, Bool.not_true, Bool.not_false, Bool.not_eq_true, Bool.false_eq_true, Bool.and_self, if_true, if_false, true_and, and_true, ↓reduceIte, eqD, neD, sh_int, eqv_int, eqv_strs, sDraw, List.length_cons, List.length_nil, Nat.zero_add, Nat.reduceAdd, decide_true, eq_self]
    refine ⟨.inl ⟨by omega, by omega⟩, ?_⟩
    refine loop_sign R x y ds c _ _ _ ok.2 ?_ ?_ h
    · split <;> omega
    · split <;> omega
  | [], _ :: _, _, _, _, ok, _, _, _ => ok.elim
  | _ :: _, [], _, _, _, ok, _, _, _ => ok.elim
def sp_raw_sign : PSpec := fun as R => ∃ (ds : List Desk) (c : List Int), as = [.d (desksD ds), .d (tupI c)] ∧ OkR ds c ∧ ds.length ≤ 12 ∧ R (.int (sgn ds c))
theorem len_raw_sign : ∀ as R, sp_raw_sign as R → as.length = 2 := by rintro as R ⟨i, c, rfl, _⟩; rfl
theorem rd_raw_sign : ∀ as R, sp_raw_sign as R → t_raw_sign sp_sign_of_place { nx := fun _ => R .none, rt := R } (enOf as 3) := by
  rintro as R ⟨ds, c, rfl, h1, h2, h⟩
  simp only [t_raw_sign, desksD, tupI, Q.isDc, Q.sPar2K, Q.tDisp2, Q.tIxK, Q.sSetIxK, Q.tVd, Q.tGetK, Q.iKeysQ, Q.tDispK, Q.tVals, Q.tAddL, Q.sSetM, Q.sAl2, Q.tAlApp2, Q.sFrz2, Q.iZipM, Q.itZm, Q.tLcM, Q.addF, Q.isN, Q.mulF, Q.bandI, Q.iZip, Q.itZ, Q.slD, Q.enOf, Q.tV, Q.tK, Q.t2, Q.t1, Q.tB, Q.cI, Q.cIp, Q.subI, Q.fdivI, Q.fdivW, Q.modI, Q.ltI, Q.leI, Q.gtI, Q.geI, Q.negI, Q.vAnd, Q.vNot, Q.qAnd, Q.qOr, Q.qNot, Q.qIf, Q.chI, Q.tTupQ, Q.dNil, Q.dCons, Q.tLstQ, Q.tFz, Q.tCA, Q.lenD, Q.tupD, Q.isD, Q.isInt, Q.isBool, Q.isTup, Q.isStr, Q.tLenN, Q.tIxN, Q.setQ, Q.aNil, Q.aD, Q.aK, Q.tCallQ, Q.tCallKQ, Q.pick, Q.sNil, Q.sSeq, Q.sRet, Q.sExpr, Q.sIf, Q.sSet, Q.sSetL, Q.sAsg, Q.sFor, Q.sPar2, Q.sPar3, Q.pNil, Q.pD, Q.pO, Q.gN, Q.gT, Q.gsNil, Q.gsCons, Q.iQ, Q.itD, Q.iEn, Q.itE, Q.rg1, Q.oSome, Q.tSlQ, Q.revD, Q.tOwnM, Q.appC, Q.popC, Q.extC, Q.ownL, Q.tRepL, Q.repC, Q.sSetIx, Q.ixOwn, Q.tLcQ, Q.noOwn, Q.rstQ, Q.wipeQ, Q.sDn, Q.sSetD, Q.tDgetN, Q.dOwn, Q.sNever, Q.isB, Q.listD, Q.listC, Q.reprD, Q.Sl.isOwn, Q.sAugIx, Q.setQ, Q.tLcM, Q.augC, Q.keyD, Q.rg3, List.map_cons, List.map_nil, List.replicate_succ, List.replicate_zero, List.cons_append, List.nil_append, List.append_nil, List.getElem?_cons_zero, List.getElem?_cons_succ, List.set_cons_zero, List.set_cons_succ, List.getD_cons_zero, List.getD_cons_succ, List.filterMap_cons, List.filterMap_nil, List.all_cons, List.all_nil, Bool.and_true, Bool.true_and, Bool.not_true, Bool.not_false, Bool.not_eq_true, Bool.false_eq_true, Bool.and_self, if_true, if_false, true_and, and_true, ↓reduceIte, eqD, neD, sh_int, eqv_int, eqv_strs, sDraw, List.length_cons, List.length_nil, Nat.zero_add, Nat.reduceAdd, decide_true, eq_self, List.length_map]
  refine ⟨by omega, ?_⟩
  refine loop_sign _ _ _ ds c 1 _ _ h1 (by decide) (by decide) fun s3 s4 => ?_
  simp only [Q.isDc, Q.sPar2K, Q.tDisp2, Q.tIxK, Q.sSetIxK, Q.tVd, Q.tGetK, Q.iKeysQ, Q.tDispK, Q.tVals, Q.tAddL, Q.sSetM, Q.sAl2, Q.tAlApp2, Q.sFrz2, Q.iZipM, Q.itZm, Q.tLcM, Q.addF, Q.isN, Q.mulF, Q.bandI, Q.iZip, Q.itZ, Q.slD, Q.enOf, Q.tV, Q.tK, Q.t2, Q.t1, Q.tB, Q.cI, Q.cIp, Q.subI, Q.fdivI, Q.fdivW, Q.modI, Q.ltI, Q.leI, Q.gtI, Q.geI, Q.negI, Q.vAnd, Q.vNot, Q.qAnd, Q.qOr, Q.qNot, Q.qIf, Q.chI, Q.tTupQ, Q.dNil, Q.dCons, Q.tLstQ, Q.tFz, Q.tCA, Q.lenD, Q.tupD, Q.isD, Q.isInt, Q.isBool, Q.isTup, Q.isStr, Q.tLenN, Q.tIxN, Q.setQ, Q.aNil, Q.aD, Q.aK, Q.tCallQ, Q.tCallKQ, Q.pick, Q.sNil, Q.sSeq, Q.sRet, Q.sExpr, Q.sIf, Q.sSet, Q.sSetL, Q.sAsg, Q.sFor, Q.sPar2, Q.sPar3, Q.pNil, Q.pD, Q.pO, Q.gN, Q.gT, Q.gsNil, Q.gsCons, Q.iQ, Q.itD, Q.iEn, Q.itE, Q.rg1, Q.oSome, Q.tSlQ, Q.revD, Q.tOwnM, Q.appC, Q.popC, Q.extC, Q.ownL, Q.tRepL, Q.repC, Q.sSetIx, Q.ixOwn, Q.tLcQ, Q.noOwn, Q.rstQ, Q.wipeQ, Q.sDn, Q.sSetD, Q.tDgetN, Q.dOwn, Q.sNever, Q.isB, Q.listD, Q.listC, Q.reprD, Q.Sl.isOwn, Q.sAugIx, Q.setQ, Q.tLcM, Q.augC, Q.keyD, Q.rg3, List.map_cons, List.map_nil, List.replicate_succ, List.replicate_zero, List.cons_append, List.nil_append, List.append_nil, List.getElem?_cons_zero, List.getElem?_cons_succ, List.set_cons_zero, List.set_cons_succ, List.getD_cons_zero, List.getD_cons_succ, List.filterMap_cons, List.filterMap_nil, List.all_cons, List.all_nil, Bool.and_true, Bool.true_and, Bool.not_true, Bool.not_false, Bool.not_eq_true, Bool.false_eq_true, Bool.and_self, if_true, if_false, true_and, and_true, ↓reduceIte, eqD, neD, sh_int, eqv_int, eqv_strs, sDraw, List.length_cons, List.length_nil, Nat.zero_add, Nat.reduceAdd, decide_true, eq_self]
  rw [sgnL_eq, Int.one_mul]
  exact h
theorem loop_many (R : EndsQ) (x : Sl) : ∀ (ds : List Desk) (s : Int) (s2 : Sl), DsOk ds → (∀ s2, R.nx [x, .d (.int (manyL s ds)), s2]) →
    forQ (gN 2) (sSet 1 (t2 mulF (tV 1) (tLenN 2))) R (ds.map deskD) [x, .d (.int s), s2]
  | [], s, s2, _, h => by simpa only [List.map_nil, forQ, manyL] using h s2
  | d :: ds, s, s2, ok, h => by
    have := ok d (by simp)
    simp only [List.map_cons, forQ, deskD, Q.isDc, Q.sPar2K, Q.tDisp2, Q.tIxK, Q.sSetIxK, Q.tVd, Q.tGetK, Q.iKeysQ, Q.tDispK, Q.tVals, Q.tAddL, Q.sSetM, Q.sAl2, Q.tAlApp2, Q.sFrz2, Q.iZipM, Q.itZm, Q.tLcM, Q.addF, Q.isN, Q.mulF, Q.bandI, Q.iZip, Q.itZ, Q.slD, Q.enOf, Q.tV, Q.tK, Q.t2, Q.t1, Q.tB, Q.cI, Q.cIp, Q.subI, Q.fdivI, Q.fdivW, Q.modI, Q.ltI, Q.leI, Q.gtI, Q.geI, Q.negI, Q.vAnd, Q.vNot, Q.qAnd, Q.qOr, Q.qNot, Q.qIf, Q.chI, Q.tTupQ, Q.dNil, Q.dCons, Q.tLstQ, Q.tFz, Q.tCA, Q.lenD, Q.tupD, Q.isD, Q.isInt, Q.isBool, Q.isTup, Q.isStr, Q.tLenN, Q.tIxN, Q.setQ, Q.aNil, Q.aD, Q.aK, Q.tCallQ, Q.tCallKQ, Q.pick, Q.sNil, Q.sSeq, Q.sRet, Q.sExpr, Q.sIf, Q.sSet, Q.sSetL, Q.sAsg, Q.sFor, Q.sPar2, Q.sPar3, Q.pNil, Q.pD, Q.pO, Q.gN, Q.gT, Q.gsNil, Q.gsCons, Q.iQ, Q.itD, Q.iEn, Q.itE, Q.rg1, Q.oSome, Q.tSlQ, Q.revD, Q.tOwnM, Q.appC, Q.popC, Q.extC, Q.ownL, Q.tRepL, Q.repC, Q.sSetIx, Q.ixOwn, Q.tLcQ, Q.noOwn, Q.rstQ, Q.wipeQ, Q.sDn, Q.sSetD, Q.tDgetN, Q.dOwn, Q.sNever, Q.isB, Q.listD, Q.listC, Q.reprD, Q.Sl.isOwn, Q.sAugIx, Q.setQ, Q.tLcM, Q.augC, Q.keyD, Q.rg3, List.map_cons, List.map_nil, List.replicate_succ, List.replicate_zero, List.cons_append, List.nil_append, List.append_nil, List.getElem?_cons_zero, List.getElem?_cons_succ, List.set_cons_zero, List.set_cons_succ, List.getD_cons_zero, List.getD_cons_succ, List.filterMap_cons, List.filterMap_nil, List.all_cons, List.all_nil, Bool.and_true, Bool.true_and, Bool.not_true, Bool.not_false, Bool.not_eq_true, Bool.false_eq_true, Bool.and_self, if_true, if_false, true_and, and_true, ↓reduceIte, eqD, neD, sh_int, eqv_int, eqv_strs, sDraw, List.length_cons, List.length_nil, Nat.zero_add, Nat.reduceAdd, decide_true, eq_self, List.length_map]
    refine ⟨.inr ⟨by omega, by omega⟩, ?_⟩
    exact loop_many R x ds _ _ (fun z hz => ok z (by simp [hz])) h
def sp_many_codes : PSpec := fun as R => ∃ ds : List Desk, as = [.d (desksD ds)] ∧ DsOk ds ∧ R (.int (many ds))
theorem len_many_codes : ∀ as R, sp_many_codes as R → as.length = 1 := by rintro as R ⟨i, rfl, _⟩; rfl
theorem rd_many_codes : ∀ as R, sp_many_codes as R → t_many_codes { nx := fun _ => R .none, rt := R } (enOf as 2) := by
  rintro as R ⟨ds, rfl, h1, h⟩
  simp only [t_many_codes, desksD, Q.isDc, Q.sPar2K, Q.tDisp2, Q.tIxK, Q.sSetIxK, Q.tVd, Q.tGetK, Q.iKeysQ, Q.tDispK, Q.tVals, Q.tAddL, Q.sSetM, Q.sAl2, Q.tAlApp2, Q.sFrz2, Q.iZipM, Q.itZm, Q.tLcM, Q.addF, Q.isN, Q.mulF, Q.bandI, Q.iZip, Q.itZ, Q.slD, Q.enOf, Q.tV, Q.tK, Q.t2, Q.t1, Q.tB, Q.cI, Q.cIp, Q.subI, Q.fdivI, Q.fdivW, Q.modI, Q.ltI, Q.leI, Q.gtI, Q.geI, Q.negI, Q.vAnd, Q.vNot, Q.qAnd, Q.qOr, Q.qNot, Q.qIf, Q.chI, Q.tTupQ, Q.dNil, Q.dCons, Q.tLstQ, Q.tFz, Q.tCA, Q.lenD, Q.tupD, Q.isD, Q.isInt, Q.isBool, Q.isTup, Q.isStr, Q.tLenN, Q.tIxN, Q.setQ, Q.aNil, Q.aD, Q.aK, Q.tCallQ, Q.tCallKQ, Q.pick, Q.sNil, Q.sSeq, Q.sRet, Q.sExpr, Q.sIf, Q.sSet, Q.sSetL, Q.sAsg, Q.sFor, Q.sPar2, Q.sPar3, Q.pNil, Q.pD, Q.pO, Q.gN, Q.gT, Q.gsNil, Q.gsCons, Q.iQ, Q.itD, Q.iEn, Q.itE, Q.rg1, Q.oSome, Q.tSlQ, Q.revD, Q.tOwnM, Q.appC, Q.popC, Q.extC, Q.ownL, Q.tRepL, Q.repC, Q.sSetIx, Q.ixOwn, Q.tLcQ, Q.noOwn, Q.rstQ, Q.wipeQ, Q.sDn, Q.sSetD, Q.tDgetN, Q.dOwn, Q.sNever, Q.isB, Q.listD, Q.listC, Q.reprD, Q.Sl.isOwn, Q.sAugIx, Q.setQ, Q.tLcM, Q.augC, Q.keyD, Q.rg3, List.map_cons, List.map_nil, List.replicate_succ, List.replicate_zero, List.cons_append, List.nil_append, List.append_nil, List.getElem?_cons_zero, List.getElem?_cons_succ, List.set_cons_zero, List.set_cons_succ, List.getD_cons_zero, List.getD_cons_succ, List.filterMap_cons, List.filterMap_nil, List.all_cons, List.all_nil, Bool.and_true, Bool.true_and, Bool.not_true, Bool.not_false, Bool.not_eq_true, Bool.false_eq_true, Bool.and_self, if_true, if_false, true_and, and_true, ↓reduceIte, eqD, neD, sh_int, eqv_int, eqv_strs, sDraw, List.length_cons, List.length_nil, Nat.zero_add, Nat.reduceAdd, decide_true, eq_self]
  refine loop_many _ _ ds 1 _ h1 fun s2 => ?_
  simp only [Q.isDc, Q.sPar2K, Q.tDisp2, Q.tIxK, Q.sSetIxK, Q.tVd, Q.tGetK, Q.iKeysQ, Q.tDispK, Q.tVals, Q.tAddL, Q.sSetM, Q.sAl2, Q.tAlApp2, Q.sFrz2, Q.iZipM, Q.itZm, Q.tLcM, Q.addF, Q.isN, Q.mulF, Q.bandI, Q.iZip, Q.itZ, Q.slD, Q.enOf, Q.tV, Q.tK, Q.t2, Q.t1, Q.tB, Q.cI, Q.cIp, Q.subI, Q.fdivI, Q.fdivW, Q.modI, Q.ltI, Q.leI, Q.gtI, Q.geI, Q.negI, Q.vAnd, Q.vNot, Q.qAnd, Q.qOr, Q.qNot, Q.qIf, Q.chI, Q.tTupQ, Q.dNil, Q.dCons, Q.tLstQ, Q.tFz, Q.tCA, Q.lenD, Q.tupD, Q.isD, Q.isInt, Q.isBool, Q.isTup, Q.isStr, Q.tLenN, Q.tIxN, Q.setQ, Q.aNil, Q.aD, Q.aK, Q.tCallQ, Q.tCallKQ, Q.pick, Q.sNil, Q.sSeq, Q.sRet, Q.sExpr, Q.sIf, Q.sSet, Q.sSetL, Q.sAsg, Q.sFor, Q.sPar2, Q.sPar3, Q.pNil, Q.pD, Q.pO, Q.gN, Q.gT, Q.gsNil, Q.gsCons, Q.iQ, Q.itD, Q.iEn, Q.itE, Q.rg1, Q.oSome, Q.tSlQ, Q.revD, Q.tOwnM, Q.appC, Q.popC, Q.extC, Q.ownL, Q.tRepL, Q.repC, Q.sSetIx, Q.ixOwn, Q.tLcQ, Q.noOwn, Q.rstQ, Q.wipeQ, Q.sDn, Q.sSetD, Q.tDgetN, Q.dOwn, Q.sNever, Q.isB, Q.listD, Q.listC, Q.reprD, Q.Sl.isOwn, Q.sAugIx, Q.setQ, Q.tLcM, Q.augC, Q.keyD, Q.rg3, List.map_cons, List.map_nil, List.replicate_succ, List.replicate_zero, List.cons_append, List.nil_append, List.append_nil, List.getElem?_cons_zero, List.getElem?_cons_succ, List.set_cons_zero, List.set_cons_succ, List.getD_cons_zero, List.getD_cons_succ, List.filterMap_cons, List.filterMap_nil, List.all_cons, List.all_nil, Bool.and_true, Bool.true_and, Bool.not_true, Bool.not_false, Bool.not_eq_true, Bool.false_eq_true, Bool.and_self, if_true, if_false, true_and, and_true, ↓reduceIte, eqD, neD, sh_int, eqv_int, eqv_strs, sDraw, List.length_cons, List.length_nil, Nat.zero_add, Nat.reduceAdd, decide_true, eq_self]
  rw [many_eqL]
  exact h
theorem loop_code (R : EndsQ) (x : Sl) : ∀ (ds : List Desk) (n : Int) (acc : List Int) (s4 s5 : Sl), DsOk ds → ds.length ≤ 12 → acc.length + ds.length ≤ 100 → 0 ≤ n → n < manyR ds → (∀ s1 s3 s4 s5, R.nx [x, s1, .own ((acc ++ codeR ds n).map .int), s3, s4, s5]) →
    forQ (gN 4) (sSeq (sSet 3 (t2 fdivI (tV 3) (tLenN 4)))
  (sSeq (sPar2 5 1 (pD (t2 fdivI (tV 1) (tV 3)) (pD (t2 modI (tV 1) (tV 3)) pNil)))
  (sSeq (sIf (tB (t2 eqD (tIxN 4 (tV 5)) (tK (.str "pile")))) (sSet 1 (t2 subI (t2 subI (tV 3) (tK (.int 1))) (tV 1))) sNil)
  (sExpr (tOwnM 2 appC (dCons (tV 5) dNil)))))) R (ds.map deskD) [x, .d (.int n), .own (acc.map .int), .d (.int (manyR ds)), s4, s5]
  | [], n, acc, s4, s5, _, _, _, _, _, h => by
    simpa only [List.map_nil, forQ, codeR, List.append_nil] using h (.d (.int n)) (.d (.int (manyR []))) s4 s5
  | d :: ds, n, acc, s4, s5, ok, hl, ha, h0, h1, h => by
    have hd : DsOk ds := fun z hz => ok z (by simp [hz])
    have dl := ok d (by simp)
    rw [List.length_cons] at hl ha
    have S := many_pos hd
    have S2 := many_11 hd (by omega)
    rw [manyR_c] at h1
    have q1 : 0 ≤ n / manyR ds := Int.ediv_nonneg h0 (by omega)
    have q2 : n / manyR ds < d.length := Int.ediv_lt_of_lt_mul (by omega) (by rw [Int.mul_comm]; exact h1)
    have m1 := Int.emod_nonneg n (show manyR ds ≠ 0 by omega)
    have m2 := Int.emod_lt_of_pos n (show 0 < manyR ds by omega)
    have ediv : manyR ds * (d.length : Int) / (d.length : Int) = manyR ds := Int.mul_ediv_cancel _ (by omega)
    have step := loop_code R x ds (if d.getD (n / manyR ds).toNat false = true then manyR ds - 1 - n % manyR ds else n % manyR ds) (acc ++ [n / manyR ds]) (.d (deskD d)) (.d (.int (n / manyR ds))) hd (by omega) (by rw [List.length_append]; simp; omega) (by split <;> omega) (by split <;> omega) (by
      rw [List.append_assoc]; exact h)
    rw [List.map_append] at step
    simp only [List.map_cons, forQ, deskD, Q.isDc, Q.sPar2K, Q.tDisp2, Q.tIxK, Q.sSetIxK, Q.tVd, Q.tGetK, Q.iKeysQ, Q.tDispK, Q.tVals, Q.tAddL, Q.sSetM, Q.sAl2, Q.tAlApp2, Q.sFrz2, Q.iZipM, Q.itZm, Q.tLcM, Q.addF, Q.isN, Q.mulF, Q.bandI, Q.iZip, Q.itZ, Q.slD, Q.enOf, Q.tV, Q.tK, Q.t2, Q.t1, Q.tB, Q.cI, Q.cIp, Q.subI, Q.fdivI, Q.fdivW, Q.modI, Q.ltI, Q.leI, Q.gtI, Q.geI, Q.negI, Q.vAnd, Q.vNot, Q.qAnd, Q.qOr, Q.qNot, Q.qIf, Q.chI, Q.tTupQ, Q.dNil, Q.dCons, Q.tLstQ, Q.tFz, Q.tCA, Q.lenD, Q.tupD, Q.isD, Q.isInt, Q.isBool, Q.isTup, Q.isStr, Q.tLenN, Q.tIxN, Q.setQ, Q.aNil, Q.aD, Q.aK, Q.tCallQ, Q.tCallKQ, Q.pick, Q.sNil, Q.sSeq, Q.sRet, Q.sExpr, Q.sIf, Q.sSet, Q.sSetL, Q.sAsg, Q.sFor, Q.sPar2, Q.sPar3, Q.pNil, Q.pD, Q.pO, Q.gN, Q.gT, Q.gsNil, Q.gsCons, Q.iQ, Q.itD, Q.iEn, Q.itE, Q.rg1, Q.oSome, Q.tSlQ, Q.revD, Q.tOwnM, Q.appC, Q.popC, Q.extC, Q.ownL, Q.tRepL, Q.repC, Q.sSetIx, Q.ixOwn, Q.tLcQ, Q.noOwn, Q.rstQ, Q.wipeQ, Q.sDn, Q.sSetD, Q.tDgetN, Q.dOwn, Q.sNever, Q.isB, Q.listD, Q.listC, Q.reprD, Q.Sl.isOwn, Q.sAugIx, Q.setQ, Q.tLcM, Q.augC, Q.keyD, Q.rg3, List.map_cons, List.map_nil, List.replicate_succ, List.replicate_zero, List.cons_append, List.nil_append, List.append_nil, List.getElem?_cons_zero, List.getElem?_cons_succ, List.set_cons_zero, List.set_cons_succ, List.getD_cons_zero, List.getD_cons_succ, List.filterMap_cons, List.filterMap_nil, List.all_cons, List.all_nil, Bool.and_true, Bool.true_and, Bool.not_true, Bool.not_false, Bool.not_eq_true, Bool.false_eq_true, Bool.and_self, if_true, if_false, true_and, and_true, ↓reduceIte, eqD, neD, sh_int, eqv_int, eqv_strs, sDraw, List.length_cons, List.length_nil, Nat.zero_add, Nat.reduceAdd, decide_true, eq_self, List.length_map, manyR_c, ediv]
    refine ⟨⟨by omega, by omega⟩, ⟨by omega, by omega⟩, by omega, ?_⟩
    simp only [ixD]
    refine ⟨_, at_pl q1 q2, ?_⟩
    simp only [Q.isDc, Q.sPar2K, Q.tDisp2, Q.tIxK, Q.sSetIxK, Q.tVd, Q.tGetK, Q.iKeysQ, Q.tDispK, Q.tVals, Q.tAddL, Q.sSetM, Q.sAl2, Q.tAlApp2, Q.sFrz2, Q.iZipM, Q.itZm, Q.tLcM, Q.addF, Q.isN, Q.mulF, Q.bandI, Q.iZip, Q.itZ, Q.slD, Q.enOf, Q.tV, Q.tK, Q.t2, Q.t1, Q.tB, Q.cI, Q.cIp, Q.subI, Q.fdivI, Q.fdivW, Q.modI, Q.ltI, Q.leI, Q.gtI, Q.geI, Q.negI, Q.vAnd, Q.vNot, Q.qAnd, Q.qOr, Q.qNot, Q.qIf, Q.chI, Q.tTupQ, Q.dNil, Q.dCons, Q.tLstQ, Q.tFz, Q.tCA, Q.lenD, Q.tupD, Q.isD, Q.isInt, Q.isBool, Q.isTup, Q.isStr, Q.tLenN, Q.tIxN, Q.setQ, Q.aNil, Q.aD, Q.aK, Q.tCallQ, Q.tCallKQ, Q.pick, Q.sNil, Q.sSeq, Q.sRet, Q.sExpr, Q.sIf, Q.sSet, Q.sSetL, Q.sAsg, Q.sFor, Q.sPar2, Q.sPar3, Q.pNil, Q.pD, Q.pO, Q.gN, Q.gT, Q.gsNil, Q.gsCons, Q.iQ, Q.itD, Q.iEn, Q.itE, Q.rg1, Q.oSome, Q.tSlQ, Q.revD, Q.tOwnM, Q.appC, Q.popC, Q.extC, Q.ownL, Q.tRepL, Q.repC, Q.sSetIx, Q.ixOwn, Q.tLcQ, Q.noOwn, Q.rstQ, Q.wipeQ, Q.sDn, Q.sSetD, Q.tDgetN, Q.dOwn, Q.sNever, Q.isB, Q.listD, Q.listC, Q.reprD, Q.Sl.isOwn, Q.sAugIx, Q.setQ, Q.tLcM, Q.augC, Q.keyD, Q.rg3, List.map_cons, List.map_nil, List.replicate_succ, List.replicate_zero, List.cons_append, List.nil_append, List.append_nil, List.getElem?_cons_zero, List.getElem?_cons_succ, List.set_cons_zero, List.set_cons_succ, List.getD_cons_zero, List.getD_cons_succ, List.filterMap_cons, List.filterMap_nil, List.all_cons, List.all_nil, Bool.and_true, Bool.true_and, Bool.not_true, Bool.not_false, Bool.not_eq_true, Bool.false_eq_true, Bool.and_self, if_true, if_false, true_and, and_true, ↓reduceIte, eqD, neD, sh_int, eqv_int, eqv_strs, sDraw, List.length_cons, List.length_nil, Nat.zero_add, Nat.reduceAdd, decide_true, eq_self, sh_pl, sh_pile, eqv_pile]
    by_cases hp : d.getD (n / manyR ds).toNat false = true
    · rw [if_pos hp] at step
      rw [hp]
      simp only [Q.isDc, Q.sPar2K, Q.tDisp2, Q.tIxK, Q.sSetIxK, Q.tVd, Q.tGetK, Q.iKeysQ, Q.tDispK, Q.tVals, Q.tAddL, Q.sSetM, Q.sAl2, Q.tAlApp2, Q.sFrz2, Q.iZipM, Q.itZm, Q.tLcM, Q.addF, Q.isN, Q.mulF, Q.bandI, Q.iZip, Q.itZ, Q.slD, Q.enOf, Q.tV, Q.tK, Q.t2, Q.t1, Q.tB, Q.cI, Q.cIp, Q.subI, Q.fdivI, Q.fdivW, Q.modI, Q.ltI, Q.leI, Q.gtI, Q.geI, Q.negI, Q.vAnd, Q.vNot, Q.qAnd, Q.qOr, Q.qNot, Q.qIf, Q.chI, Q.tTupQ, Q.dNil, Q.dCons, Q.tLstQ, Q.tFz, Q.tCA, Q.lenD, Q.tupD, Q.isD, Q.isInt, Q.isBool, Q.isTup, Q.isStr, Q.tLenN, Q.tIxN, Q.setQ, Q.aNil, Q.aD, Q.aK, Q.tCallQ, Q.tCallKQ, Q.pick, Q.sNil, Q.sSeq, Q.sRet, Q.sExpr, Q.sIf, Q.sSet, Q.sSetL, Q.sAsg, Q.sFor, Q.sPar2, Q.sPar3, Q.pNil, Q.pD, Q.pO, Q.gN, Q.gT, Q.gsNil, Q.gsCons, Q.iQ, Q.itD, Q.iEn, Q.itE, Q.rg1, Q.oSome, Q.tSlQ, Q.revD, Q.tOwnM, Q.appC, Q.popC, Q.extC, Q.ownL, Q.tRepL, Q.repC, Q.sSetIx, Q.ixOwn, Q.tLcQ, Q.noOwn, Q.rstQ, Q.wipeQ, Q.sDn, Q.sSetD, Q.tDgetN, Q.dOwn, Q.sNever, Q.isB, Q.listD, Q.listC, Q.reprD, Q.Sl.isOwn, Q.sAugIx, Q.setQ, Q.tLcM, Q.augC, Q.keyD, Q.rg3, List.map_cons, List.map_nil, List.replicate_succ, List.replicate_zero, List.cons_append, List.nil_append, List.append_nil, List.getElem?_cons_zero, List.getElem?_cons_succ, List.set_cons_zero, List.set_cons_succ, List.getD_cons_zero, List.getD_cons_succ, List.filterMap_cons, List.filterMap_nil, List.all_cons, List.all_nil, Bool.and_true, Bool.true_and, Bool.not_true, Bool.not_false, Bool.not_eq_true, Bool.false_eq_true, Bool.and_self, if_true, if_false, true_and, and_true, ↓reduceIte, eqD, neD, sh_int, eqv_int, eqv_strs, sDraw, List.length_cons, List.length_nil, Nat.zero_add, Nat.reduceAdd, decide_true, eq_self, List.length_map]
      exact ⟨by omega, step⟩
    · rw [if_neg hp] at step
      have hp2 : d.getD (n / manyR ds).toNat false = false := by simpa using hp
      rw [hp2]
      simp only [Q.isDc, Q.sPar2K, Q.tDisp2, Q.tIxK, Q.sSetIxK, Q.tVd, Q.tGetK, Q.iKeysQ, Q.tDispK, Q.tVals, Q.tAddL, Q.sSetM, Q.sAl2, Q.tAlApp2, Q.sFrz2, Q.iZipM, Q.itZm, Q.tLcM, Q.addF, Q.isN, Q.mulF, Q.bandI, Q.iZip, Q.itZ, Q.slD, Q.enOf, Q.tV, Q.tK, Q.t2, Q.t1, Q.tB, Q.cI, Q.cIp, Q.subI, Q.fdivI, Q.fdivW, Q.modI, Q.ltI, Q.leI, Q.gtI, Q.geI, Q.negI, Q.vAnd, Q.vNot, Q.qAnd, Q.qOr, Q.qNot, Q.qIf, Q.chI, Q.tTupQ, Q.dNil, Q.dCons, Q.tLstQ, Q.tFz, Q.tCA, Q.lenD, Q.tupD, Q.isD, Q.isInt, Q.isBool, Q.isTup, Q.isStr, Q.tLenN, Q.tIxN, Q.setQ, Q.aNil, Q.aD, Q.aK, Q.tCallQ, Q.tCallKQ, Q.pick, Q.sNil, Q.sSeq, Q.sRet, Q.sExpr, Q.sIf, Q.sSet, Q.sSetL, Q.sAsg, Q.sFor, Q.sPar2, Q.sPar3, Q.pNil, Q.pD, Q.pO, Q.gN, Q.gT, Q.gsNil, Q.gsCons, Q.iQ, Q.itD, Q.iEn, Q.itE, Q.rg1, Q.oSome, Q.tSlQ, Q.revD, Q.tOwnM, Q.appC, Q.popC, Q.extC, Q.ownL, Q.tRepL, Q.repC, Q.sSetIx, Q.ixOwn, Q.tLcQ, Q.noOwn, Q.rstQ, Q.wipeQ, Q.sDn, Q.sSetD, Q.tDgetN, Q.dOwn, Q.sNever, Q.isB, Q.listD, Q.listC, Q.reprD, Q.Sl.isOwn, Q.sAugIx, Q.setQ, Q.tLcM, Q.augC, Q.keyD, Q.rg3, List.map_cons, List.map_nil, List.replicate_succ, List.replicate_zero, List.cons_append, List.nil_append, List.append_nil, List.getElem?_cons_zero, List.getElem?_cons_succ, List.set_cons_zero, List.set_cons_succ, List.getD_cons_zero, List.getD_cons_succ, List.filterMap_cons, List.filterMap_nil, List.all_cons, List.all_nil, Bool.and_true, Bool.true_and, Bool.not_true, Bool.not_false, Bool.not_eq_true, Bool.false_eq_true, Bool.and_self, if_true, if_false, true_and, and_true, ↓reduceIte, eqD, neD, sh_int, eqv_int, eqv_strs, sDraw, List.length_cons, List.length_nil, Nat.zero_add, Nat.reduceAdd, decide_true, eq_self, List.length_map]
      exact ⟨by omega, step⟩
def sp_raw_code_at : PSpec := fun as R => ∃ (ds : List Desk) (n : Int), as = [.d (desksD ds), .d (.int n)] ∧ DsOk ds ∧ ds.length ≤ 12 ∧ 0 ≤ n ∧ n < many ds ∧ R (tupI (codeAt ds n))
theorem len_raw_code_at : ∀ as R, sp_raw_code_at as R → as.length = 2 := by rintro as R ⟨i, c, rfl, _⟩; rfl
theorem rd_raw_code_at : ∀ as R, sp_raw_code_at as R → t_raw_code_at sp_many_codes { nx := fun _ => R .none, rt := R } (enOf as 4) := by
  rintro as R ⟨ds, n, rfl, h1, h2, h3, h4, h⟩
  simp only [t_raw_code_at, Q.isDc, Q.sPar2K, Q.tDisp2, Q.tIxK, Q.sSetIxK, Q.tVd, Q.tGetK, Q.iKeysQ, Q.tDispK, Q.tVals, Q.tAddL, Q.sSetM, Q.sAl2, Q.tAlApp2, Q.sFrz2, Q.iZipM, Q.itZm, Q.tLcM, Q.addF, Q.isN, Q.mulF, Q.bandI, Q.iZip, Q.itZ, Q.slD, Q.enOf, Q.tV, Q.tK, Q.t2, Q.t1, Q.tB, Q.cI, Q.cIp, Q.subI, Q.fdivI, Q.fdivW, Q.modI, Q.ltI, Q.leI, Q.gtI, Q.geI, Q.negI, Q.vAnd, Q.vNot, Q.qAnd, Q.qOr, Q.qNot, Q.qIf, Q.chI, Q.tTupQ, Q.dNil, Q.dCons, Q.tLstQ, Q.tFz, Q.tCA, Q.lenD, Q.tupD, Q.isD, Q.isInt, Q.isBool, Q.isTup, Q.isStr, Q.tLenN, Q.tIxN, Q.setQ, Q.aNil, Q.aD, Q.aK, Q.tCallQ, Q.tCallKQ, Q.pick, Q.sNil, Q.sSeq, Q.sRet, Q.sExpr, Q.sIf, Q.sSet, Q.sSetL, Q.sAsg, Q.sFor, Q.sPar2, Q.sPar3, Q.pNil, Q.pD, Q.pO, Q.gN, Q.gT, Q.gsNil, Q.gsCons, Q.iQ, Q.itD, Q.iEn, Q.itE, Q.rg1, Q.oSome, Q.tSlQ, Q.revD, Q.tOwnM, Q.appC, Q.popC, Q.extC, Q.ownL, Q.tRepL, Q.repC, Q.sSetIx, Q.ixOwn, Q.tLcQ, Q.noOwn, Q.rstQ, Q.wipeQ, Q.sDn, Q.sSetD, Q.tDgetN, Q.dOwn, Q.sNever, Q.isB, Q.listD, Q.listC, Q.reprD, Q.Sl.isOwn, Q.sAugIx, Q.setQ, Q.tLcM, Q.augC, Q.keyD, Q.rg3, List.map_cons, List.map_nil, List.replicate_succ, List.replicate_zero, List.cons_append, List.nil_append, List.append_nil, List.getElem?_cons_zero, List.getElem?_cons_succ, List.set_cons_zero, List.set_cons_succ, List.getD_cons_zero, List.getD_cons_succ, List.filterMap_cons, List.filterMap_nil, List.all_cons, List.all_nil, Bool.and_true, Bool.true_and, Bool.not_true, Bool.not_false, Bool.not_eq_true, Bool.false_eq_true, Bool.and_self, if_true, if_false, true_and, and_true, ↓reduceIte, eqD, neD, sh_int, eqv_int, eqv_strs, sDraw, List.length_cons, List.length_nil, Nat.zero_add, Nat.reduceAdd, decide_true, eq_self]
  refine ⟨by decide, ds, rfl, h1, ?_⟩
  simp only [desksD, Q.isDc, Q.sPar2K, Q.tDisp2, Q.tIxK, Q.sSetIxK, Q.tVd, Q.tGetK, Q.iKeysQ, Q.tDispK, Q.tVals, Q.tAddL, Q.sSetM, Q.sAl2, Q.tAlApp2, Q.sFrz2, Q.iZipM, Q.itZm, Q.tLcM, Q.addF, Q.isN, Q.mulF, Q.bandI, Q.iZip, Q.itZ, Q.slD, Q.enOf, Q.tV, Q.tK, Q.t2, Q.t1, Q.tB, Q.cI, Q.cIp, Q.subI, Q.fdivI, Q.fdivW, Q.modI, Q.ltI, Q.leI, Q.gtI, Q.geI, Q.negI, Q.vAnd, Q.vNot, Q.qAnd, Q.qOr, Q.qNot, Q.qIf, Q.chI, Q.tTupQ, Q.dNil, Q.dCons, Q.tLstQ, Q.tFz, Q.tCA, Q.lenD, Q.tupD, Q.isD, Q.isInt, Q.isBool, Q.isTup, Q.isStr, Q.tLenN, Q.tIxN, Q.setQ, Q.aNil, Q.aD, Q.aK, Q.tCallQ, Q.tCallKQ, Q.pick, Q.sNil, Q.sSeq, Q.sRet, Q.sExpr, Q.sIf, Q.sSet, Q.sSetL, Q.sAsg, Q.sFor, Q.sPar2, Q.sPar3, Q.pNil, Q.pD, Q.pO, Q.gN, Q.gT, Q.gsNil, Q.gsCons, Q.iQ, Q.itD, Q.iEn, Q.itE, Q.rg1, Q.oSome, Q.tSlQ, Q.revD, Q.tOwnM, Q.appC, Q.popC, Q.extC, Q.ownL, Q.tRepL, Q.repC, Q.sSetIx, Q.ixOwn, Q.tLcQ, Q.noOwn, Q.rstQ, Q.wipeQ, Q.sDn, Q.sSetD, Q.tDgetN, Q.dOwn, Q.sNever, Q.isB, Q.listD, Q.listC, Q.reprD, Q.Sl.isOwn, Q.sAugIx, Q.setQ, Q.tLcM, Q.augC, Q.keyD, Q.rg3, List.map_cons, List.map_nil, List.replicate_succ, List.replicate_zero, List.cons_append, List.nil_append, List.append_nil, List.getElem?_cons_zero, List.getElem?_cons_succ, List.set_cons_zero, List.set_cons_succ, List.getD_cons_zero, List.getD_cons_succ, List.filterMap_cons, List.filterMap_nil, List.all_cons, List.all_nil, Bool.and_true, Bool.true_and, Bool.not_true, Bool.not_false, Bool.not_eq_true, Bool.false_eq_true, Bool.and_self, if_true, if_false, true_and, and_true, ↓reduceIte, eqD, neD, sh_int, eqv_int, eqv_strs, sDraw, List.length_cons, List.length_nil, Nat.zero_add, Nat.reduceAdd, decide_true, eq_self]
  rw [← List.map_reverse]
  refine loop_code _ _ ds.reverse n [] _ _ h1.rev (by simpa using h2) (by simp; omega) h3 h4 fun s1 s3 s4 s5 => ?_
  simp only [List.nil_append, Q.isDc, Q.sPar2K, Q.tDisp2, Q.tIxK, Q.sSetIxK, Q.tVd, Q.tGetK, Q.iKeysQ, Q.tDispK, Q.tVals, Q.tAddL, Q.sSetM, Q.sAl2, Q.tAlApp2, Q.sFrz2, Q.iZipM, Q.itZm, Q.tLcM, Q.addF, Q.isN, Q.mulF, Q.bandI, Q.iZip, Q.itZ, Q.slD, Q.enOf, Q.tV, Q.tK, Q.t2, Q.t1, Q.tB, Q.cI, Q.cIp, Q.subI, Q.fdivI, Q.fdivW, Q.modI, Q.ltI, Q.leI, Q.gtI, Q.geI, Q.negI, Q.vAnd, Q.vNot, Q.qAnd, Q.qOr, Q.qNot, Q.qIf, Q.chI, Q.tTupQ, Q.dNil, Q.dCons, Q.tLstQ, Q.tFz, Q.tCA, Q.lenD, Q.tupD, Q.isD, Q.isInt, Q.isBool, Q.isTup, Q.isStr, Q.tLenN, Q.tIxN, Q.setQ, Q.aNil, Q.aD, Q.aK, Q.tCallQ, Q.tCallKQ, Q.pick, Q.sNil, Q.sSeq, Q.sRet, Q.sExpr, Q.sIf, Q.sSet, Q.sSetL, Q.sAsg, Q.sFor, Q.sPar2, Q.sPar3, Q.pNil, Q.pD, Q.pO, Q.gN, Q.gT, Q.gsNil, Q.gsCons, Q.iQ, Q.itD, Q.iEn, Q.itE, Q.rg1, Q.oSome, Q.tSlQ, Q.revD, Q.tOwnM, Q.appC, Q.popC, Q.extC, Q.ownL, Q.tRepL, Q.repC, Q.sSetIx, Q.ixOwn, Q.tLcQ, Q.noOwn, Q.rstQ, Q.wipeQ, Q.sDn, Q.sSetD, Q.tDgetN, Q.dOwn, Q.sNever, Q.isB, Q.listD, Q.listC, Q.reprD, Q.Sl.isOwn, Q.sAugIx, Q.setQ, Q.tLcM, Q.augC, Q.keyD, Q.rg3, List.map_cons, List.map_nil, List.replicate_succ, List.replicate_zero, List.cons_append, List.nil_append, List.append_nil, List.getElem?_cons_zero, List.getElem?_cons_succ, List.set_cons_zero, List.set_cons_succ, List.getD_cons_zero, List.getD_cons_succ, List.filterMap_cons, List.filterMap_nil, List.all_cons, List.all_nil, Bool.and_true, Bool.true_and, Bool.not_true, Bool.not_false, Bool.not_eq_true, Bool.false_eq_true, Bool.and_self, if_true, if_false, true_and, and_true, ↓reduceIte, eqD, neD, sh_int, eqv_int, eqv_strs, sDraw, List.length_cons, List.length_nil, Nat.zero_add, Nat.reduceAdd, decide_true, eq_self]
  rw [← List.map_reverse]
  exact h
theorem loop_pos (R : EndsQ) (x y : Sl) : ∀ (ds : List Desk) (c : List Int) (f s : Int) (s4 s5 : Sl), DsOk ds → OkR ds c → (∀ s3 s4 s5, R.nx [x, y, .d (.int (posL f s ds c)), s3, s4, s5]) →
    forQ (gT 2 (gsCons (gN 4) (gsCons (gN 5) gsNil))) (sSeq (sIf (tB (t2 eqD (tIxN 4 (tV 5)) (tK (.str "pile")))) (sSet 2 (t2 subI (t2 subI (tV 3) (tK (.int 1))) (tV 2))) sNil)
  (sPar2 2 3 (pD (t2 addF (t2 mulF (tV 5) (tV 3)) (tV 2)) (pD (t2 mulF (tV 3) (tLenN 4)) pNil)))) R (zipD (ds.map deskD) (c.map .int)) [x, y, .d (.int f), .d (.int s), s4, s5]
  | [], [], f, s, s4, s5, _, _, h => by simpa only [zipD, List.map_nil, List.zipWith_nil_left, forQ, posL] using h _ s4 s5
  | d :: ds, p :: c, f, s, s4, s5, hd, ok, h => by
    have dl := hd d (by simp)
    have ok1 := ok.1
    rw [zip_c]
    simp only [forQ, deskD, Q.isDc, Q.sPar2K, Q.tDisp2, Q.tIxK, Q.sSetIxK, Q.tVd, Q.tGetK, Q.iKeysQ, Q.tDispK, Q.tVals, Q.tAddL, Q.sSetM, Q.sAl2, Q.tAlApp2, Q.sFrz2, Q.iZipM, Q.itZm, Q.tLcM, Q.addF, Q.isN, Q.mulF, Q.bandI, Q.iZip, Q.itZ, Q.slD, Q.enOf, Q.tV, Q.tK, Q.t2, Q.t1, Q.tB, Q.cI, Q.cIp, Q.subI, Q.fdivI, Q.fdivW, Q.modI, Q.ltI, Q.leI, Q.gtI, Q.geI, Q.negI, Q.vAnd, Q.vNot, Q.qAnd, Q.qOr, Q.qNot, Q.qIf, Q.chI, Q.tTupQ, Q.dNil, Q.dCons, Q.tLstQ, Q.tFz, Q.tCA, Q.lenD, Q.tupD, Q.isD, Q.isInt, Q.isBool, Q.isTup, Q.isStr, Q.tLenN, Q.tIxN, Q.setQ, Q.aNil, Q.aD, Q.aK, Q.tCallQ, Q.tCallKQ, Q.pick, Q.sNil, Q.sSeq, Q.sRet, Q.sExpr, Q.sIf, Q.sSet, Q.sSetL, Q.sAsg, Q.sFor, Q.sPar2, Q.sPar3, Q.pNil, Q.pD, Q.pO, Q.gN, Q.gT, Q.gsNil, Q.gsCons, Q.iQ, Q.itD, Q.iEn, Q.itE, Q.rg1, Q.oSome, Q.tSlQ, Q.revD, Q.tOwnM, Q.appC, Q.popC, Q.extC, Q.ownL, Q.tRepL, Q.repC, Q.sSetIx, Q.ixOwn, Q.tLcQ, Q.noOwn, Q.rstQ, Q.wipeQ, Q.sDn, Q.sSetD, Q.tDgetN, Q.dOwn, Q.sNever, Q.isB, Q.listD, Q.listC, Q.reprD, Q.Sl.isOwn, Q.sAugIx, Q.setQ, Q.tLcM, Q.augC, Q.keyD, Q.rg3, List.map_cons, List.map_nil, List.replicate_succ, List.replicate_zero, List.cons_append, List.nil_append, List.append_nil, List.getElem?_cons_zero, List.getElem?_cons_succ, List.set_cons_zero, List.set_cons_succ, List.getD_cons_zero, List.getD_cons_succ, List.filterMap_cons, List.filterMap_nil, List.all_cons, List.all_nil, Bool.and_true, Bool.true_and, Bool.not_true, Bool.not_false, Bool.not_eq_true, Bool.false_eq_true, Bool.and_self, if_true, if_false, true_and, and_true, ↓reduceIte, eqD, neD, sh_int, eqv_int, eqv_strs, sDraw, List.length_cons, List.length_nil, Nat.zero_add, Nat.reduceAdd, decide_true, eq_self, ixD]
    refine ⟨_, at_pl ok.1.1 ok.1.2, ?_⟩
    simp only [Q.isDc, Q.sPar2K, Q.tDisp2, Q.tIxK, Q.sSetIxK, Q.tVd, Q.tGetK, Q.iKeysQ, Q.tDispK, Q.tVals, Q.tAddL, Q.sSetM, Q.sAl2, Q.tAlApp2, Q.sFrz2, Q.iZipM, Q.itZm, Q.tLcM, Q.addF, Q.isN, Q.mulF, Q.bandI, Q.iZip, Q.itZ, Q.slD, Q.enOf, Q.tV, Q.tK, Q.t2, Q.t1, Q.tB, Q.cI, Q.cIp, Q.subI, Q.fdivI, Q.fdivW, Q.modI, Q.ltI, Q.leI, Q.gtI, Q.geI, Q.negI, Q.vAnd, Q.vNot, Q.qAnd, Q.qOr, Q.qNot, Q.qIf, Q.chI, Q.tTupQ, Q.dNil, Q.dCons, Q.tLstQ, Q.tFz, Q.tCA, Q.lenD, Q.tupD, Q.isD, Q.isInt, Q.isBool, Q.isTup, Q.isStr, Q.tLenN, Q.tIxN, Q.setQ, Q.aNil, Q.aD, Q.aK, Q.tCallQ, Q.tCallKQ, Q.pick, Q.sNil, Q.sSeq, Q.sRet, Q.sExpr, Q.sIf, Q.sSet, Q.sSetL, Q.sAsg, Q.sFor, Q.sPar2, Q.sPar3, Q.pNil, Q.pD, Q.pO, Q.gN, Q.gT, Q.gsNil, Q.gsCons, Q.iQ, Q.itD, Q.iEn, Q.itE, Q.rg1, Q.oSome, Q.tSlQ, Q.revD, Q.tOwnM, Q.appC, Q.popC, Q.extC, Q.ownL, Q.tRepL, Q.repC, Q.sSetIx, Q.ixOwn, Q.tLcQ, Q.noOwn, Q.rstQ, Q.wipeQ, Q.sDn, Q.sSetD, Q.tDgetN, Q.dOwn, Q.sNever, Q.isB, Q.listD, Q.listC, Q.reprD, Q.Sl.isOwn, Q.sAugIx, Q.setQ, Q.tLcM, Q.augC, Q.keyD, Q.rg3, List.map_cons, List.map_nil, List.replicate_succ, List.replicate_zero, List.cons_append, List.nil_append, List.append_nil, List.getElem?_cons_zero, List.getElem?_cons_succ, List.set_cons_zero, List.set_cons_succ, List.getD_cons_zero, List.getD_cons_succ, List.filterMap_cons, List.filterMap_nil, List.all_cons, List.all_nil, Bool.and_true, Bool.true_and, Bool.not_true, Bool.not_false, Bool.not_eq_true, Bool.false_eq_true, Bool.and_self, if_true, if_false, true_and, and_true, ↓reduceIte, eqD, neD, sh_int, eqv_int, eqv_strs, sDraw, List.length_cons, List.length_nil, Nat.zero_add, Nat.reduceAdd, decide_true, eq_self, sh_pl, sh_pile, eqv_pile]
    have step := loop_pos R x y ds c _ (s * d.length) (.d (deskD d)) (.d (.int p)) (fun z hz => hd z (by simp [hz])) ok.2 h
    by_cases hp : d.getD p.toNat false = true
    · rw [if_pos hp] at step
      rw [hp]
      simp only [Q.isDc, Q.sPar2K, Q.tDisp2, Q.tIxK, Q.sSetIxK, Q.tVd, Q.tGetK, Q.iKeysQ, Q.tDispK, Q.tVals, Q.tAddL, Q.sSetM, Q.sAl2, Q.tAlApp2, Q.sFrz2, Q.iZipM, Q.itZm, Q.tLcM, Q.addF, Q.isN, Q.mulF, Q.bandI, Q.iZip, Q.itZ, Q.slD, Q.enOf, Q.tV, Q.tK, Q.t2, Q.t1, Q.tB, Q.cI, Q.cIp, Q.subI, Q.fdivI, Q.fdivW, Q.modI, Q.ltI, Q.leI, Q.gtI, Q.geI, Q.negI, Q.vAnd, Q.vNot, Q.qAnd, Q.qOr, Q.qNot, Q.qIf, Q.chI, Q.tTupQ, Q.dNil, Q.dCons, Q.tLstQ, Q.tFz, Q.tCA, Q.lenD, Q.tupD, Q.isD, Q.isInt, Q.isBool, Q.isTup, Q.isStr, Q.tLenN, Q.tIxN, Q.setQ, Q.aNil, Q.aD, Q.aK, Q.tCallQ, Q.tCallKQ, Q.pick, Q.sNil, Q.sSeq, Q.sRet, Q.sExpr, Q.sIf, Q.sSet, Q.sSetL, Q.sAsg, Q.sFor, Q.sPar2, Q.sPar3, Q.pNil, Q.pD, Q.pO, Q.gN, Q.gT, Q.gsNil, Q.gsCons, Q.iQ, Q.itD, Q.iEn, Q.itE, Q.rg1, Q.oSome, Q.tSlQ, Q.revD, Q.tOwnM, Q.appC, Q.popC, Q.extC, Q.ownL, Q.tRepL, Q.repC, Q.sSetIx, Q.ixOwn, Q.tLcQ, Q.noOwn, Q.rstQ, Q.wipeQ, Q.sDn, Q.sSetD, Q.tDgetN, Q.dOwn, Q.sNever, Q.isB, Q.listD, Q.listC, Q.reprD, Q.Sl.isOwn, Q.sAugIx, Q.setQ, Q.tLcM, Q.augC, Q.keyD, Q.rg3, List.map_cons, List.map_nil, List.replicate_succ, List.replicate_zero, List.cons_append, List.nil_append, List.append_nil, List.getElem?_cons_zero, List.getElem?_cons_succ, List.set_cons_zero, List.set_cons_succ, List.getD_cons_zero, List.getD_cons_succ, List.filterMap_cons, List.filterMap_nil, List.all_cons, List.all_nil, Bool.and_true, Bool.true_and, Bool.not_true, Bool.not_false, Bool.not_eq_true, Bool.false_eq_true, Bool.and_self, if_true, if_false, true_and, and_true, ↓reduceIte, eqD, neD, sh_int, eqv_int, eqv_strs, sDraw, List.length_cons, List.length_nil, Nat.zero_add, Nat.reduceAdd, decide_true, eq_self, List.length_map]
      exact ⟨.inl ⟨by omega, by omega⟩, .inr ⟨by omega, by omega⟩, step⟩
    · rw [if_neg hp] at step
      have hp2 : d.getD p.toNat false = false := by simpa using hp
      rw [hp2]
      simp only [Q.isDc, Q.sPar2K, Q.tDisp2, Q.tIxK, Q.sSetIxK, Q.tVd, Q.tGetK, Q.iKeysQ, Q.tDispK, Q.tVals, Q.tAddL, Q.sSetM, Q.sAl2, Q.tAlApp2, Q.sFrz2, Q.iZipM, Q.itZm, Q.tLcM, Q.addF, Q.isN, Q.mulF, Q.bandI, Q.iZip, Q.itZ, Q.slD, Q.enOf, Q.tV, Q.tK, Q.t2, Q.t1, Q.tB, Q.cI, Q.cIp, Q.subI, Q.fdivI, Q.fdivW, Q.modI, Q.ltI, Q.leI, Q.gtI, Q.geI, Q.negI, Q.vAnd, Q.vNot, Q.qAnd, Q.qOr, Q.qNot, Q.qIf, Q.chI, Q.tTupQ, Q.dNil, Q.dCons, Q.tLstQ, Q.tFz, Q.tCA, Q.lenD, Q.tupD, Q.isD, Q.isInt, Q.isBool, Q.isTup, Q.isStr, Q.tLenN, Q.tIxN, Q.setQ, Q.aNil, Q.aD, Q.aK, Q.tCallQ, Q.tCallKQ, Q.pick, Q.sNil, Q.sSeq, Q.sRet, Q.sExpr, Q.sIf, Q.sSet, Q.sSetL, Q.sAsg, Q.sFor, Q.sPar2, Q.sPar3, Q.pNil, Q.pD, Q.pO, Q.gN, Q.gT, Q.gsNil, Q.gsCons, Q.iQ, Q.itD, Q.iEn, Q.itE, Q.rg1, Q.oSome, Q.tSlQ, Q.revD, Q.tOwnM, Q.appC, Q.popC, Q.extC, Q.ownL, Q.tRepL, Q.repC, Q.sSetIx, Q.ixOwn, Q.tLcQ, Q.noOwn, Q.rstQ, Q.wipeQ, Q.sDn, Q.sSetD, Q.tDgetN, Q.dOwn, Q.sNever, Q.isB, Q.listD, Q.listC, Q.reprD, Q.Sl.isOwn, Q.sAugIx, Q.setQ, Q.tLcM, Q.augC, Q.keyD, Q.rg3, List.map_cons, List.map_nil, List.replicate_succ, List.replicate_zero, List.cons_append, List.nil_append, List.append_nil, List.getElem?_cons_zero, List.getElem?_cons_succ, List.set_cons_zero, List.set_cons_succ, List.getD_cons_zero, List.getD_cons_succ, List.filterMap_cons, List.filterMap_nil, List.all_cons, List.all_nil, Bool.and_true, Bool.true_and, Bool.not_true, Bool.not_false, Bool.not_eq_true, Bool.false_eq_true, Bool.and_self, if_true, if_false, true_and, and_true, ↓reduceIte, eqD, neD, sh_int, eqv_int, eqv_strs, sDraw, List.length_cons, List.length_nil, Nat.zero_add, Nat.reduceAdd, decide_true, eq_self, List.length_map]
      exact ⟨.inl ⟨by omega, by omega⟩, .inr ⟨by omega, by omega⟩, step⟩
  | [], _ :: _, _, _, _, _, _, ok, _ => ok.elim
  | _ :: _, [], _, _, _, _, _, ok, _ => ok.elim
def sp_raw_position : PSpec := fun as R => ∃ (ds : List Desk) (c : List Int), as = [.d (desksD ds), .d (tupI c)] ∧ DsOk ds ∧ OkR ds c ∧ ds.length ≤ 12 ∧ R (.int (pos ds c))
theorem len_raw_position : ∀ as R, sp_raw_position as R → as.length = 2 := by rintro as R ⟨i, c, rfl, _⟩; rfl
theorem rd_raw_position : ∀ as R, sp_raw_position as R → t_raw_position { nx := fun _ => R .none, rt := R } (enOf as 4) := by
  rintro as R ⟨ds, c, rfl, h1, h2, h3, h⟩
  simp only [t_raw_position, desksD, tupI, Q.isDc, Q.sPar2K, Q.tDisp2, Q.tIxK, Q.sSetIxK, Q.tVd, Q.tGetK, Q.iKeysQ, Q.tDispK, Q.tVals, Q.tAddL, Q.sSetM, Q.sAl2, Q.tAlApp2, Q.sFrz2, Q.iZipM, Q.itZm, Q.tLcM, Q.addF, Q.isN, Q.mulF, Q.bandI, Q.iZip, Q.itZ, Q.slD, Q.enOf, Q.tV, Q.tK, Q.t2, Q.t1, Q.tB, Q.cI, Q.cIp, Q.subI, Q.fdivI, Q.fdivW, Q.modI, Q.ltI, Q.leI, Q.gtI, Q.geI, Q.negI, Q.vAnd, Q.vNot, Q.qAnd, Q.qOr, Q.qNot, Q.qIf, Q.chI, Q.tTupQ, Q.dNil, Q.dCons, Q.tLstQ, Q.tFz, Q.tCA, Q.lenD, Q.tupD, Q.isD, Q.isInt, Q.isBool, Q.isTup, Q.isStr, Q.tLenN, Q.tIxN, Q.setQ, Q.aNil, Q.aD, Q.aK, Q.tCallQ, Q.tCallKQ, Q.pick, Q.sNil, Q.sSeq, Q.sRet, Q.sExpr, Q.sIf, Q.sSet, Q.sSetL, Q.sAsg, Q.sFor, Q.sPar2, Q.sPar3, Q.pNil, Q.pD, Q.pO, Q.gN, Q.gT, Q.gsNil, Q.gsCons, Q.iQ, Q.itD, Q.iEn, Q.itE, Q.rg1, Q.oSome, Q.tSlQ, Q.revD, Q.tOwnM, Q.appC, Q.popC, Q.extC, Q.ownL, Q.tRepL, Q.repC, Q.sSetIx, Q.ixOwn, Q.tLcQ, Q.noOwn, Q.rstQ, Q.wipeQ, Q.sDn, Q.sSetD, Q.tDgetN, Q.dOwn, Q.sNever, Q.isB, Q.listD, Q.listC, Q.reprD, Q.Sl.isOwn, Q.sAugIx, Q.setQ, Q.tLcM, Q.augC, Q.keyD, Q.rg3, List.map_cons, List.map_nil, List.replicate_succ, List.replicate_zero, List.cons_append, List.nil_append, List.append_nil, List.getElem?_cons_zero, List.getElem?_cons_succ, List.set_cons_zero, List.set_cons_succ, List.getD_cons_zero, List.getD_cons_succ, List.filterMap_cons, List.filterMap_nil, List.all_cons, List.all_nil, Bool.and_true, Bool.true_and, Bool.not_true, Bool.not_false, Bool.not_eq_true, Bool.false_eq_true, Bool.and_self, if_true, if_false, true_and, and_true, ↓reduceIte, eqD, neD, sh_int, eqv_int, eqv_strs, sDraw, List.length_cons, List.length_nil, Nat.zero_add, Nat.reduceAdd, decide_true, eq_self, List.length_map]
  refine ⟨by decide, by omega, ?_⟩
  refine loop_pos _ _ _ ds c 0 1 _ _ h1 h2 fun s3 s4 s5 => ?_
  simp only [Q.isDc, Q.sPar2K, Q.tDisp2, Q.tIxK, Q.sSetIxK, Q.tVd, Q.tGetK, Q.iKeysQ, Q.tDispK, Q.tVals, Q.tAddL, Q.sSetM, Q.sAl2, Q.tAlApp2, Q.sFrz2, Q.iZipM, Q.itZm, Q.tLcM, Q.addF, Q.isN, Q.mulF, Q.bandI, Q.iZip, Q.itZ, Q.slD, Q.enOf, Q.tV, Q.tK, Q.t2, Q.t1, Q.tB, Q.cI, Q.cIp, Q.subI, Q.fdivI, Q.fdivW, Q.modI, Q.ltI, Q.leI, Q.gtI, Q.geI, Q.negI, Q.vAnd, Q.vNot, Q.qAnd, Q.qOr, Q.qNot, Q.qIf, Q.chI, Q.tTupQ, Q.dNil, Q.dCons, Q.tLstQ, Q.tFz, Q.tCA, Q.lenD, Q.tupD, Q.isD, Q.isInt, Q.isBool, Q.isTup, Q.isStr, Q.tLenN, Q.tIxN, Q.setQ, Q.aNil, Q.aD, Q.aK, Q.tCallQ, Q.tCallKQ, Q.pick, Q.sNil, Q.sSeq, Q.sRet, Q.sExpr, Q.sIf, Q.sSet, Q.sSetL, Q.sAsg, Q.sFor, Q.sPar2, Q.sPar3, Q.pNil, Q.pD, Q.pO, Q.gN, Q.gT, Q.gsNil, Q.gsCons, Q.iQ, Q.itD, Q.iEn, Q.itE, Q.rg1, Q.oSome, Q.tSlQ, Q.revD, Q.tOwnM, Q.appC, Q.popC, Q.extC, Q.ownL, Q.tRepL, Q.repC, Q.sSetIx, Q.ixOwn, Q.tLcQ, Q.noOwn, Q.rstQ, Q.wipeQ, Q.sDn, Q.sSetD, Q.tDgetN, Q.dOwn, Q.sNever, Q.isB, Q.listD, Q.listC, Q.reprD, Q.Sl.isOwn, Q.sAugIx, Q.setQ, Q.tLcM, Q.augC, Q.keyD, Q.rg3, List.map_cons, List.map_nil, List.replicate_succ, List.replicate_zero, List.cons_append, List.nil_append, List.append_nil, List.getElem?_cons_zero, List.getElem?_cons_succ, List.set_cons_zero, List.set_cons_succ, List.getD_cons_zero, List.getD_cons_succ, List.filterMap_cons, List.filterMap_nil, List.all_cons, List.all_nil, Bool.and_true, Bool.true_and, Bool.not_true, Bool.not_false, Bool.not_eq_true, Bool.false_eq_true, Bool.and_self, if_true, if_false, true_and, and_true, ↓reduceIte, eqD, neD, sh_int, eqv_int, eqv_strs, sDraw, List.length_cons, List.length_nil, Nat.zero_add, Nat.reduceAdd, decide_true, eq_self]
  rw [pos_eqL h2.length.symm]
  exact h
structure Dk (ds : List Desk) : Prop where
  ok : DsOk ds
  few : ds.length ≤ 12
def sp_need_desks : PSpec := fun as R => ∃ ds : List Desk, as = [.d (desksD ds)] ∧ T44.Dk ds ∧ R .none
theorem len_need_desks : ∀ as R, sp_need_desks as R → as.length = 1 := by rintro as R ⟨i, rfl, _⟩; rfl
theorem rd_need_desks : ∀ as R, sp_need_desks as R → t_need_desks sp_are_desks_value { nx := fun _ => R .none, rt := R } (enOf as 0) := by
  rintro as R ⟨ds, rfl, h1, h⟩
  simp only [t_need_desks, Q.isDc, Q.sPar2K, Q.tDisp2, Q.tIxK, Q.sSetIxK, Q.tVd, Q.tGetK, Q.iKeysQ, Q.tDispK, Q.tVals, Q.tAddL, Q.sSetM, Q.sAl2, Q.tAlApp2, Q.sFrz2, Q.iZipM, Q.itZm, Q.tLcM, Q.addF, Q.isN, Q.mulF, Q.bandI, Q.iZip, Q.itZ, Q.slD, Q.enOf, Q.tV, Q.tK, Q.t2, Q.t1, Q.tB, Q.cI, Q.cIp, Q.subI, Q.fdivI, Q.fdivW, Q.modI, Q.ltI, Q.leI, Q.gtI, Q.geI, Q.negI, Q.vAnd, Q.vNot, Q.qAnd, Q.qOr, Q.qNot, Q.qIf, Q.chI, Q.tTupQ, Q.dNil, Q.dCons, Q.tLstQ, Q.tFz, Q.tCA, Q.lenD, Q.tupD, Q.isD, Q.isInt, Q.isBool, Q.isTup, Q.isStr, Q.tLenN, Q.tIxN, Q.setQ, Q.aNil, Q.aD, Q.aK, Q.tCallQ, Q.tCallKQ, Q.pick, Q.sNil, Q.sSeq, Q.sRet, Q.sExpr, Q.sIf, Q.sSet, Q.sSetL, Q.sAsg, Q.sFor, Q.sPar2, Q.sPar3, Q.pNil, Q.pD, Q.pO, Q.gN, Q.gT, Q.gsNil, Q.gsCons, Q.iQ, Q.itD, Q.iEn, Q.itE, Q.rg1, Q.oSome, Q.tSlQ, Q.revD, Q.tOwnM, Q.appC, Q.popC, Q.extC, Q.ownL, Q.tRepL, Q.repC, Q.sSetIx, Q.ixOwn, Q.tLcQ, Q.noOwn, Q.rstQ, Q.wipeQ, Q.sDn, Q.sSetD, Q.tDgetN, Q.dOwn, Q.sNever, Q.isB, Q.listD, Q.listC, Q.reprD, Q.Sl.isOwn, Q.sAugIx, Q.setQ, Q.tLcM, Q.augC, Q.keyD, Q.rg3, List.map_cons, List.map_nil, List.replicate_succ, List.replicate_zero, List.cons_append, List.nil_append, List.append_nil, List.getElem?_cons_zero, List.getElem?_cons_succ, List.set_cons_zero, List.set_cons_succ, List.getD_cons_zero, List.getD_cons_succ, List.filterMap_cons, List.filterMap_nil, List.all_cons, List.all_nil, Bool.and_true, Bool.true_and, Bool.not_true, Bool.not_false, Bool.not_eq_true, Bool.false_eq_true, Bool.and_self, if_true, if_false, true_and, and_true, ↓reduceIte, eqD, neD, sh_int, eqv_int, eqv_strs, sDraw, List.length_cons, List.length_nil, Nat.zero_add, Nat.reduceAdd, decide_true, eq_self]
  exact ⟨ds, rfl, h1.ok, h1.few, by simpa only [Q.isDc, Q.sPar2K, Q.tDisp2, Q.tIxK, Q.sSetIxK, Q.tVd, Q.tGetK, Q.iKeysQ, Q.tDispK, Q.tVals, Q.tAddL, Q.sSetM, Q.sAl2, Q.tAlApp2, Q.sFrz2, Q.iZipM, Q.itZm, Q.tLcM, Q.addF, Q.isN, Q.mulF, Q.bandI, Q.iZip, Q.itZ, Q.slD, Q.enOf, Q.tV, Q.tK, Q.t2, Q.t1, Q.tB, Q.cI, Q.cIp, Q.subI, Q.fdivI, Q.fdivW, Q.modI, Q.ltI, Q.leI, Q.gtI, Q.geI, Q.negI, Q.vAnd, Q.vNot, Q.qAnd, Q.qOr, Q.qNot, Q.qIf, Q.chI, Q.tTupQ, Q.dNil, Q.dCons, Q.tLstQ, Q.tFz, Q.tCA, Q.lenD, Q.tupD, Q.isD, Q.isInt, Q.isBool, Q.isTup, Q.isStr, Q.tLenN, Q.tIxN, Q.setQ, Q.aNil, Q.aD, Q.aK, Q.tCallQ, Q.tCallKQ, Q.pick, Q.sNil, Q.sSeq, Q.sRet, Q.sExpr, Q.sIf, Q.sSet, Q.sSetL, Q.sAsg, Q.sFor, Q.sPar2, Q.sPar3, Q.pNil, Q.pD, Q.pO, Q.gN, Q.gT, Q.gsNil, Q.gsCons, Q.iQ, Q.itD, Q.iEn, Q.itE, Q.rg1, Q.oSome, Q.tSlQ, Q.revD, Q.tOwnM, Q.appC, Q.popC, Q.extC, Q.ownL, Q.tRepL, Q.repC, Q.sSetIx, Q.ixOwn, Q.tLcQ, Q.noOwn, Q.rstQ, Q.wipeQ, Q.sDn, Q.sSetD, Q.tDgetN, Q.dOwn, Q.sNever, Q.isB, Q.listD, Q.listC, Q.reprD, Q.Sl.isOwn, Q.sAugIx, Q.setQ, Q.tLcM, Q.augC, Q.keyD, Q.rg3, List.map_cons, List.map_nil, List.replicate_succ, List.replicate_zero, List.cons_append, List.nil_append, List.append_nil, List.getElem?_cons_zero, List.getElem?_cons_succ, List.set_cons_zero, List.set_cons_succ, List.getD_cons_zero, List.getD_cons_succ, List.filterMap_cons, List.filterMap_nil, List.all_cons, List.all_nil, Bool.and_true, Bool.true_and, Bool.not_true, Bool.not_false, Bool.not_eq_true, Bool.false_eq_true, Bool.and_self, if_true, if_false, true_and, and_true, ↓reduceIte, eqD, neD, sh_int, eqv_int, eqv_strs, sDraw, List.length_cons, List.length_nil, Nat.zero_add, Nat.reduceAdd, decide_true, eq_self] using h⟩
def sp_need_code : PSpec := fun as R => ∃ (ds : List Desk) (c : List Int), as = [.d (desksD ds), .d (tupI c)] ∧ T44.Dk ds ∧ OkR ds c ∧ R .none
theorem len_need_code : ∀ as R, sp_need_code as R → as.length = 2 := by rintro as R ⟨i, c, rfl, _⟩; rfl
theorem rd_need_code : ∀ as R, sp_need_code as R → t_need_code sp_need_desks sp_is_code_value { nx := fun _ => R .none, rt := R } (enOf as 0) := by
  rintro as R ⟨ds, c, rfl, h1, h2, h⟩
  simp only [t_need_code, Q.isDc, Q.sPar2K, Q.tDisp2, Q.tIxK, Q.sSetIxK, Q.tVd, Q.tGetK, Q.iKeysQ, Q.tDispK, Q.tVals, Q.tAddL, Q.sSetM, Q.sAl2, Q.tAlApp2, Q.sFrz2, Q.iZipM, Q.itZm, Q.tLcM, Q.addF, Q.isN, Q.mulF, Q.bandI, Q.iZip, Q.itZ, Q.slD, Q.enOf, Q.tV, Q.tK, Q.t2, Q.t1, Q.tB, Q.cI, Q.cIp, Q.subI, Q.fdivI, Q.fdivW, Q.modI, Q.ltI, Q.leI, Q.gtI, Q.geI, Q.negI, Q.vAnd, Q.vNot, Q.qAnd, Q.qOr, Q.qNot, Q.qIf, Q.chI, Q.tTupQ, Q.dNil, Q.dCons, Q.tLstQ, Q.tFz, Q.tCA, Q.lenD, Q.tupD, Q.isD, Q.isInt, Q.isBool, Q.isTup, Q.isStr, Q.tLenN, Q.tIxN, Q.setQ, Q.aNil, Q.aD, Q.aK, Q.tCallQ, Q.tCallKQ, Q.pick, Q.sNil, Q.sSeq, Q.sRet, Q.sExpr, Q.sIf, Q.sSet, Q.sSetL, Q.sAsg, Q.sFor, Q.sPar2, Q.sPar3, Q.pNil, Q.pD, Q.pO, Q.gN, Q.gT, Q.gsNil, Q.gsCons, Q.iQ, Q.itD, Q.iEn, Q.itE, Q.rg1, Q.oSome, Q.tSlQ, Q.revD, Q.tOwnM, Q.appC, Q.popC, Q.extC, Q.ownL, Q.tRepL, Q.repC, Q.sSetIx, Q.ixOwn, Q.tLcQ, Q.noOwn, Q.rstQ, Q.wipeQ, Q.sDn, Q.sSetD, Q.tDgetN, Q.dOwn, Q.sNever, Q.isB, Q.listD, Q.listC, Q.reprD, Q.Sl.isOwn, Q.sAugIx, Q.setQ, Q.tLcM, Q.augC, Q.keyD, Q.rg3, List.map_cons, List.map_nil, List.replicate_succ, List.replicate_zero, List.cons_append, List.nil_append, List.append_nil, List.getElem?_cons_zero, List.getElem?_cons_succ, List.set_cons_zero, List.set_cons_succ, List.getD_cons_zero, List.getD_cons_succ, List.filterMap_cons, List.filterMap_nil, List.all_cons, List.all_nil, Bool.and_true, Bool.true_and, Bool.not_true, Bool.not_false, Bool.not_eq_true, Bool.false_eq_true, Bool.and_self, if_true, if_false, true_and, and_true, ↓reduceIte, eqD, neD, sh_int, eqv_int, eqv_strs, sDraw, List.length_cons, List.length_nil, Nat.zero_add, Nat.reduceAdd, decide_true, eq_self]
  refine ⟨ds, rfl, h1, ?_⟩
  try simp only [Q.isDc, Q.sPar2K, Q.tDisp2, Q.tIxK, Q.sSetIxK, Q.tVd, Q.tGetK, Q.iKeysQ, Q.tDispK, Q.tVals, Q.tAddL, Q.sSetM, Q.sAl2, Q.tAlApp2, Q.sFrz2, Q.iZipM, Q.itZm, Q.tLcM, Q.addF, Q.isN, Q.mulF, Q.bandI, Q.iZip, Q.itZ, Q.slD, Q.enOf, Q.tV, Q.tK, Q.t2, Q.t1, Q.tB, Q.cI, Q.cIp, Q.subI, Q.fdivI, Q.fdivW, Q.modI, Q.ltI, Q.leI, Q.gtI, Q.geI, Q.negI, Q.vAnd, Q.vNot, Q.qAnd, Q.qOr, Q.qNot, Q.qIf, Q.chI, Q.tTupQ, Q.dNil, Q.dCons, Q.tLstQ, Q.tFz, Q.tCA, Q.lenD, Q.tupD, Q.isD, Q.isInt, Q.isBool, Q.isTup, Q.isStr, Q.tLenN, Q.tIxN, Q.setQ, Q.aNil, Q.aD, Q.aK, Q.tCallQ, Q.tCallKQ, Q.pick, Q.sNil, Q.sSeq, Q.sRet, Q.sExpr, Q.sIf, Q.sSet, Q.sSetL, Q.sAsg, Q.sFor, Q.sPar2, Q.sPar3, Q.pNil, Q.pD, Q.pO, Q.gN, Q.gT, Q.gsNil, Q.gsCons, Q.iQ, Q.itD, Q.iEn, Q.itE, Q.rg1, Q.oSome, Q.tSlQ, Q.revD, Q.tOwnM, Q.appC, Q.popC, Q.extC, Q.ownL, Q.tRepL, Q.repC, Q.sSetIx, Q.ixOwn, Q.tLcQ, Q.noOwn, Q.rstQ, Q.wipeQ, Q.sDn, Q.sSetD, Q.tDgetN, Q.dOwn, Q.sNever, Q.isB, Q.listD, Q.listC, Q.reprD, Q.Sl.isOwn, Q.sAugIx, Q.setQ, Q.tLcM, Q.augC, Q.keyD, Q.rg3, List.map_cons, List.map_nil, List.replicate_succ, List.replicate_zero, List.cons_append, List.nil_append, List.append_nil, List.getElem?_cons_zero, List.getElem?_cons_succ, List.set_cons_zero, List.set_cons_succ, List.getD_cons_zero, List.getD_cons_succ, List.filterMap_cons, List.filterMap_nil, List.all_cons, List.all_nil, Bool.and_true, Bool.true_and, Bool.not_true, Bool.not_false, Bool.not_eq_true, Bool.false_eq_true, Bool.and_self, if_true, if_false, true_and, and_true, ↓reduceIte, eqD, neD, sh_int, eqv_int, eqv_strs, sDraw, List.length_cons, List.length_nil, Nat.zero_add, Nat.reduceAdd, decide_true, eq_self]
  exact ⟨ds, c, rfl, h2, h1.few, by simpa only [Q.isDc, Q.sPar2K, Q.tDisp2, Q.tIxK, Q.sSetIxK, Q.tVd, Q.tGetK, Q.iKeysQ, Q.tDispK, Q.tVals, Q.tAddL, Q.sSetM, Q.sAl2, Q.tAlApp2, Q.sFrz2, Q.iZipM, Q.itZm, Q.tLcM, Q.addF, Q.isN, Q.mulF, Q.bandI, Q.iZip, Q.itZ, Q.slD, Q.enOf, Q.tV, Q.tK, Q.t2, Q.t1, Q.tB, Q.cI, Q.cIp, Q.subI, Q.fdivI, Q.fdivW, Q.modI, Q.ltI, Q.leI, Q.gtI, Q.geI, Q.negI, Q.vAnd, Q.vNot, Q.qAnd, Q.qOr, Q.qNot, Q.qIf, Q.chI, Q.tTupQ, Q.dNil, Q.dCons, Q.tLstQ, Q.tFz, Q.tCA, Q.lenD, Q.tupD, Q.isD, Q.isInt, Q.isBool, Q.isTup, Q.isStr, Q.tLenN, Q.tIxN, Q.setQ, Q.aNil, Q.aD, Q.aK, Q.tCallQ, Q.tCallKQ, Q.pick, Q.sNil, Q.sSeq, Q.sRet, Q.sExpr, Q.sIf, Q.sSet, Q.sSetL, Q.sAsg, Q.sFor, Q.sPar2, Q.sPar3, Q.pNil, Q.pD, Q.pO, Q.gN, Q.gT, Q.gsNil, Q.gsCons, Q.iQ, Q.itD, Q.iEn, Q.itE, Q.rg1, Q.oSome, Q.tSlQ, Q.revD, Q.tOwnM, Q.appC, Q.popC, Q.extC, Q.ownL, Q.tRepL, Q.repC, Q.sSetIx, Q.ixOwn, Q.tLcQ, Q.noOwn, Q.rstQ, Q.wipeQ, Q.sDn, Q.sSetD, Q.tDgetN, Q.dOwn, Q.sNever, Q.isB, Q.listD, Q.listC, Q.reprD, Q.Sl.isOwn, Q.sAugIx, Q.setQ, Q.tLcM, Q.augC, Q.keyD, Q.rg3, List.map_cons, List.map_nil, List.replicate_succ, List.replicate_zero, List.cons_append, List.nil_append, List.append_nil, List.getElem?_cons_zero, List.getElem?_cons_succ, List.set_cons_zero, List.set_cons_succ, List.getD_cons_zero, List.getD_cons_succ, List.filterMap_cons, List.filterMap_nil, List.all_cons, List.all_nil, Bool.and_true, Bool.true_and, Bool.not_true, Bool.not_false, Bool.not_eq_true, Bool.false_eq_true, Bool.and_self, if_true, if_false, true_and, and_true, ↓reduceIte, eqD, neD, sh_int, eqv_int, eqv_strs, sDraw, List.length_cons, List.length_nil, Nat.zero_add, Nat.reduceAdd, decide_true, eq_self] using h⟩
def sp_sign_of : PSpec := fun as R => ∃ (ds : List Desk) (c : List Int), as = [.d (desksD ds), .d (tupI c)] ∧ T44.Dk ds ∧ OkR ds c ∧ R (.int (sgn ds c))
theorem len_sign_of : ∀ as R, sp_sign_of as R → as.length = 2 := by rintro as R ⟨i, c, rfl, _⟩; rfl
theorem rd_sign_of : ∀ as R, sp_sign_of as R → t_sign_of sp_need_code sp_raw_sign { nx := fun _ => R .none, rt := R } (enOf as 0) := by
  rintro as R ⟨ds, c, rfl, h1, h2, h⟩
  simp only [t_sign_of, Q.isDc, Q.sPar2K, Q.tDisp2, Q.tIxK, Q.sSetIxK, Q.tVd, Q.tGetK, Q.iKeysQ, Q.tDispK, Q.tVals, Q.tAddL, Q.sSetM, Q.sAl2, Q.tAlApp2, Q.sFrz2, Q.iZipM, Q.itZm, Q.tLcM, Q.addF, Q.isN, Q.mulF, Q.bandI, Q.iZip, Q.itZ, Q.slD, Q.enOf, Q.tV, Q.tK, Q.t2, Q.t1, Q.tB, Q.cI, Q.cIp, Q.subI, Q.fdivI, Q.fdivW, Q.modI, Q.ltI, Q.leI, Q.gtI, Q.geI, Q.negI, Q.vAnd, Q.vNot, Q.qAnd, Q.qOr, Q.qNot, Q.qIf, Q.chI, Q.tTupQ, Q.dNil, Q.dCons, Q.tLstQ, Q.tFz, Q.tCA, Q.lenD, Q.tupD, Q.isD, Q.isInt, Q.isBool, Q.isTup, Q.isStr, Q.tLenN, Q.tIxN, Q.setQ, Q.aNil, Q.aD, Q.aK, Q.tCallQ, Q.tCallKQ, Q.pick, Q.sNil, Q.sSeq, Q.sRet, Q.sExpr, Q.sIf, Q.sSet, Q.sSetL, Q.sAsg, Q.sFor, Q.sPar2, Q.sPar3, Q.pNil, Q.pD, Q.pO, Q.gN, Q.gT, Q.gsNil, Q.gsCons, Q.iQ, Q.itD, Q.iEn, Q.itE, Q.rg1, Q.oSome, Q.tSlQ, Q.revD, Q.tOwnM, Q.appC, Q.popC, Q.extC, Q.ownL, Q.tRepL, Q.repC, Q.sSetIx, Q.ixOwn, Q.tLcQ, Q.noOwn, Q.rstQ, Q.wipeQ, Q.sDn, Q.sSetD, Q.tDgetN, Q.dOwn, Q.sNever, Q.isB, Q.listD, Q.listC, Q.reprD, Q.Sl.isOwn, Q.sAugIx, Q.setQ, Q.tLcM, Q.augC, Q.keyD, Q.rg3, List.map_cons, List.map_nil, List.replicate_succ, List.replicate_zero, List.cons_append, List.nil_append, List.append_nil, List.getElem?_cons_zero, List.getElem?_cons_succ, List.set_cons_zero, List.set_cons_succ, List.getD_cons_zero, List.getD_cons_succ, List.filterMap_cons, List.filterMap_nil, List.all_cons, List.all_nil, Bool.and_true, Bool.true_and, Bool.not_true, Bool.not_false, Bool.not_eq_true, Bool.false_eq_true, Bool.and_self, if_true, if_false, true_and, and_true, ↓reduceIte, eqD, neD, sh_int, eqv_int, eqv_strs, sDraw, List.length_cons, List.length_nil, Nat.zero_add, Nat.reduceAdd, decide_true, eq_self]
  refine ⟨ds, c, rfl, h1, h2, ?_⟩
  try simp only [Q.isDc, Q.sPar2K, Q.tDisp2, Q.tIxK, Q.sSetIxK, Q.tVd, Q.tGetK, Q.iKeysQ, Q.tDispK, Q.tVals, Q.tAddL, Q.sSetM, Q.sAl2, Q.tAlApp2, Q.sFrz2, Q.iZipM, Q.itZm, Q.tLcM, Q.addF, Q.isN, Q.mulF, Q.bandI, Q.iZip, Q.itZ, Q.slD, Q.enOf, Q.tV, Q.tK, Q.t2, Q.t1, Q.tB, Q.cI, Q.cIp, Q.subI, Q.fdivI, Q.fdivW, Q.modI, Q.ltI, Q.leI, Q.gtI, Q.geI, Q.negI, Q.vAnd, Q.vNot, Q.qAnd, Q.qOr, Q.qNot, Q.qIf, Q.chI, Q.tTupQ, Q.dNil, Q.dCons, Q.tLstQ, Q.tFz, Q.tCA, Q.lenD, Q.tupD, Q.isD, Q.isInt, Q.isBool, Q.isTup, Q.isStr, Q.tLenN, Q.tIxN, Q.setQ, Q.aNil, Q.aD, Q.aK, Q.tCallQ, Q.tCallKQ, Q.pick, Q.sNil, Q.sSeq, Q.sRet, Q.sExpr, Q.sIf, Q.sSet, Q.sSetL, Q.sAsg, Q.sFor, Q.sPar2, Q.sPar3, Q.pNil, Q.pD, Q.pO, Q.gN, Q.gT, Q.gsNil, Q.gsCons, Q.iQ, Q.itD, Q.iEn, Q.itE, Q.rg1, Q.oSome, Q.tSlQ, Q.revD, Q.tOwnM, Q.appC, Q.popC, Q.extC, Q.ownL, Q.tRepL, Q.repC, Q.sSetIx, Q.ixOwn, Q.tLcQ, Q.noOwn, Q.rstQ, Q.wipeQ, Q.sDn, Q.sSetD, Q.tDgetN, Q.dOwn, Q.sNever, Q.isB, Q.listD, Q.listC, Q.reprD, Q.Sl.isOwn, Q.sAugIx, Q.setQ, Q.tLcM, Q.augC, Q.keyD, Q.rg3, List.map_cons, List.map_nil, List.replicate_succ, List.replicate_zero, List.cons_append, List.nil_append, List.append_nil, List.getElem?_cons_zero, List.getElem?_cons_succ, List.set_cons_zero, List.set_cons_succ, List.getD_cons_zero, List.getD_cons_succ, List.filterMap_cons, List.filterMap_nil, List.all_cons, List.all_nil, Bool.and_true, Bool.true_and, Bool.not_true, Bool.not_false, Bool.not_eq_true, Bool.false_eq_true, Bool.and_self, if_true, if_false, true_and, and_true, ↓reduceIte, eqD, neD, sh_int, eqv_int, eqv_strs, sDraw, List.length_cons, List.length_nil, Nat.zero_add, Nat.reduceAdd, decide_true, eq_self]
  exact ⟨ds, c, rfl, h2, h1.few, h⟩
def sp_is_ahead : PSpec := fun as R => ∃ (ds : List Desk) (a b : List Int), as = [.d (desksD ds), .d (tupI a), .d (tupI b)] ∧ T44.Dk ds ∧ OkR ds a ∧ OkR ds b ∧ R (.bool (decide (pos ds a < pos ds b)))
theorem len_is_ahead : ∀ as R, sp_is_ahead as R → as.length = 3 := by rintro as R ⟨i, c, b, rfl, _⟩; rfl
theorem rd_is_ahead : ∀ as R, sp_is_ahead as R → t_is_ahead sp_need_code sp_raw_position { nx := fun _ => R .none, rt := R } (enOf as 0) := by
  rintro as R ⟨ds, a, b, rfl, h1, h2, h3, h⟩
  simp only [t_is_ahead, Q.isDc, Q.sPar2K, Q.tDisp2, Q.tIxK, Q.sSetIxK, Q.tVd, Q.tGetK, Q.iKeysQ, Q.tDispK, Q.tVals, Q.tAddL, Q.sSetM, Q.sAl2, Q.tAlApp2, Q.sFrz2, Q.iZipM, Q.itZm, Q.tLcM, Q.addF, Q.isN, Q.mulF, Q.bandI, Q.iZip, Q.itZ, Q.slD, Q.enOf, Q.tV, Q.tK, Q.t2, Q.t1, Q.tB, Q.cI, Q.cIp, Q.subI, Q.fdivI, Q.fdivW, Q.modI, Q.ltI, Q.leI, Q.gtI, Q.geI, Q.negI, Q.vAnd, Q.vNot, Q.qAnd, Q.qOr, Q.qNot, Q.qIf, Q.chI, Q.tTupQ, Q.dNil, Q.dCons, Q.tLstQ, Q.tFz, Q.tCA, Q.lenD, Q.tupD, Q.isD, Q.isInt, Q.isBool, Q.isTup, Q.isStr, Q.tLenN, Q.tIxN, Q.setQ, Q.aNil, Q.aD, Q.aK, Q.tCallQ, Q.tCallKQ, Q.pick, Q.sNil, Q.sSeq, Q.sRet, Q.sExpr, Q.sIf, Q.sSet, Q.sSetL, Q.sAsg, Q.sFor, Q.sPar2, Q.sPar3, Q.pNil, Q.pD, Q.pO, Q.gN, Q.gT, Q.gsNil, Q.gsCons, Q.iQ, Q.itD, Q.iEn, Q.itE, Q.rg1, Q.oSome, Q.tSlQ, Q.revD, Q.tOwnM, Q.appC, Q.popC, Q.extC, Q.ownL, Q.tRepL, Q.repC, Q.sSetIx, Q.ixOwn, Q.tLcQ, Q.noOwn, Q.rstQ, Q.wipeQ, Q.sDn, Q.sSetD, Q.tDgetN, Q.dOwn, Q.sNever, Q.isB, Q.listD, Q.listC, Q.reprD, Q.Sl.isOwn, Q.sAugIx, Q.setQ, Q.tLcM, Q.augC, Q.keyD, Q.rg3, List.map_cons, List.map_nil, List.replicate_succ, List.replicate_zero, List.cons_append, List.nil_append, List.append_nil, List.getElem?_cons_zero, List.getElem?_cons_succ, List.set_cons_zero, List.set_cons_succ, List.getD_cons_zero, List.getD_cons_succ, List.filterMap_cons, List.filterMap_nil, List.all_cons, List.all_nil, Bool.and_true, Bool.true_and, Bool.not_true, Bool.not_false, Bool.not_eq_true, Bool.false_eq_true, Bool.and_self, if_true, if_false, true_and, and_true, ↓reduceIte, eqD, neD, sh_int, eqv_int, eqv_strs, sDraw, List.length_cons, List.length_nil, Nat.zero_add, Nat.reduceAdd, decide_true, eq_self]
  refine ⟨ds, a, rfl, h1, h2, ?_⟩
  try simp only [Q.isDc, Q.sPar2K, Q.tDisp2, Q.tIxK, Q.sSetIxK, Q.tVd, Q.tGetK, Q.iKeysQ, Q.tDispK, Q.tVals, Q.tAddL, Q.sSetM, Q.sAl2, Q.tAlApp2, Q.sFrz2, Q.iZipM, Q.itZm, Q.tLcM, Q.addF, Q.isN, Q.mulF, Q.bandI, Q.iZip, Q.itZ, Q.slD, Q.enOf, Q.tV, Q.tK, Q.t2, Q.t1, Q.tB, Q.cI, Q.cIp, Q.subI, Q.fdivI, Q.fdivW, Q.modI, Q.ltI, Q.leI, Q.gtI, Q.geI, Q.negI, Q.vAnd, Q.vNot, Q.qAnd, Q.qOr, Q.qNot, Q.qIf, Q.chI, Q.tTupQ, Q.dNil, Q.dCons, Q.tLstQ, Q.tFz, Q.tCA, Q.lenD, Q.tupD, Q.isD, Q.isInt, Q.isBool, Q.isTup, Q.isStr, Q.tLenN, Q.tIxN, Q.setQ, Q.aNil, Q.aD, Q.aK, Q.tCallQ, Q.tCallKQ, Q.pick, Q.sNil, Q.sSeq, Q.sRet, Q.sExpr, Q.sIf, Q.sSet, Q.sSetL, Q.sAsg, Q.sFor, Q.sPar2, Q.sPar3, Q.pNil, Q.pD, Q.pO, Q.gN, Q.gT, Q.gsNil, Q.gsCons, Q.iQ, Q.itD, Q.iEn, Q.itE, Q.rg1, Q.oSome, Q.tSlQ, Q.revD, Q.tOwnM, Q.appC, Q.popC, Q.extC, Q.ownL, Q.tRepL, Q.repC, Q.sSetIx, Q.ixOwn, Q.tLcQ, Q.noOwn, Q.rstQ, Q.wipeQ, Q.sDn, Q.sSetD, Q.tDgetN, Q.dOwn, Q.sNever, Q.isB, Q.listD, Q.listC, Q.reprD, Q.Sl.isOwn, Q.sAugIx, Q.setQ, Q.tLcM, Q.augC, Q.keyD, Q.rg3, List.map_cons, List.map_nil, List.replicate_succ, List.replicate_zero, List.cons_append, List.nil_append, List.append_nil, List.getElem?_cons_zero, List.getElem?_cons_succ, List.set_cons_zero, List.set_cons_succ, List.getD_cons_zero, List.getD_cons_succ, List.filterMap_cons, List.filterMap_nil, List.all_cons, List.all_nil, Bool.and_true, Bool.true_and, Bool.not_true, Bool.not_false, Bool.not_eq_true, Bool.false_eq_true, Bool.and_self, if_true, if_false, true_and, and_true, ↓reduceIte, eqD, neD, sh_int, eqv_int, eqv_strs, sDraw, List.length_cons, List.length_nil, Nat.zero_add, Nat.reduceAdd, decide_true, eq_self]
  refine ⟨ds, b, rfl, h1, h3, ?_⟩
  try simp only [Q.isDc, Q.sPar2K, Q.tDisp2, Q.tIxK, Q.sSetIxK, Q.tVd, Q.tGetK, Q.iKeysQ, Q.tDispK, Q.tVals, Q.tAddL, Q.sSetM, Q.sAl2, Q.tAlApp2, Q.sFrz2, Q.iZipM, Q.itZm, Q.tLcM, Q.addF, Q.isN, Q.mulF, Q.bandI, Q.iZip, Q.itZ, Q.slD, Q.enOf, Q.tV, Q.tK, Q.t2, Q.t1, Q.tB, Q.cI, Q.cIp, Q.subI, Q.fdivI, Q.fdivW, Q.modI, Q.ltI, Q.leI, Q.gtI, Q.geI, Q.negI, Q.vAnd, Q.vNot, Q.qAnd, Q.qOr, Q.qNot, Q.qIf, Q.chI, Q.tTupQ, Q.dNil, Q.dCons, Q.tLstQ, Q.tFz, Q.tCA, Q.lenD, Q.tupD, Q.isD, Q.isInt, Q.isBool, Q.isTup, Q.isStr, Q.tLenN, Q.tIxN, Q.setQ, Q.aNil, Q.aD, Q.aK, Q.tCallQ, Q.tCallKQ, Q.pick, Q.sNil, Q.sSeq, Q.sRet, Q.sExpr, Q.sIf, Q.sSet, Q.sSetL, Q.sAsg, Q.sFor, Q.sPar2, Q.sPar3, Q.pNil, Q.pD, Q.pO, Q.gN, Q.gT, Q.gsNil, Q.gsCons, Q.iQ, Q.itD, Q.iEn, Q.itE, Q.rg1, Q.oSome, Q.tSlQ, Q.revD, Q.tOwnM, Q.appC, Q.popC, Q.extC, Q.ownL, Q.tRepL, Q.repC, Q.sSetIx, Q.ixOwn, Q.tLcQ, Q.noOwn, Q.rstQ, Q.wipeQ, Q.sDn, Q.sSetD, Q.tDgetN, Q.dOwn, Q.sNever, Q.isB, Q.listD, Q.listC, Q.reprD, Q.Sl.isOwn, Q.sAugIx, Q.setQ, Q.tLcM, Q.augC, Q.keyD, Q.rg3, List.map_cons, List.map_nil, List.replicate_succ, List.replicate_zero, List.cons_append, List.nil_append, List.append_nil, List.getElem?_cons_zero, List.getElem?_cons_succ, List.set_cons_zero, List.set_cons_succ, List.getD_cons_zero, List.getD_cons_succ, List.filterMap_cons, List.filterMap_nil, List.all_cons, List.all_nil, Bool.and_true, Bool.true_and, Bool.not_true, Bool.not_false, Bool.not_eq_true, Bool.false_eq_true, Bool.and_self, if_true, if_false, true_and, and_true, ↓reduceIte, eqD, neD, sh_int, eqv_int, eqv_strs, sDraw, List.length_cons, List.length_nil, Nat.zero_add, Nat.reduceAdd, decide_true, eq_self]
  refine ⟨ds, a, rfl, h1.ok, h2, h1.few, ?_⟩
  try simp only [Q.isDc, Q.sPar2K, Q.tDisp2, Q.tIxK, Q.sSetIxK, Q.tVd, Q.tGetK, Q.iKeysQ, Q.tDispK, Q.tVals, Q.tAddL, Q.sSetM, Q.sAl2, Q.tAlApp2, Q.sFrz2, Q.iZipM, Q.itZm, Q.tLcM, Q.addF, Q.isN, Q.mulF, Q.bandI, Q.iZip, Q.itZ, Q.slD, Q.enOf, Q.tV, Q.tK, Q.t2, Q.t1, Q.tB, Q.cI, Q.cIp, Q.subI, Q.fdivI, Q.fdivW, Q.modI, Q.ltI, Q.leI, Q.gtI, Q.geI, Q.negI, Q.vAnd, Q.vNot, Q.qAnd, Q.qOr, Q.qNot, Q.qIf, Q.chI, Q.tTupQ, Q.dNil, Q.dCons, Q.tLstQ, Q.tFz, Q.tCA, Q.lenD, Q.tupD, Q.isD, Q.isInt, Q.isBool, Q.isTup, Q.isStr, Q.tLenN, Q.tIxN, Q.setQ, Q.aNil, Q.aD, Q.aK, Q.tCallQ, Q.tCallKQ, Q.pick, Q.sNil, Q.sSeq, Q.sRet, Q.sExpr, Q.sIf, Q.sSet, Q.sSetL, Q.sAsg, Q.sFor, Q.sPar2, Q.sPar3, Q.pNil, Q.pD, Q.pO, Q.gN, Q.gT, Q.gsNil, Q.gsCons, Q.iQ, Q.itD, Q.iEn, Q.itE, Q.rg1, Q.oSome, Q.tSlQ, Q.revD, Q.tOwnM, Q.appC, Q.popC, Q.extC, Q.ownL, Q.tRepL, Q.repC, Q.sSetIx, Q.ixOwn, Q.tLcQ, Q.noOwn, Q.rstQ, Q.wipeQ, Q.sDn, Q.sSetD, Q.tDgetN, Q.dOwn, Q.sNever, Q.isB, Q.listD, Q.listC, Q.reprD, Q.Sl.isOwn, Q.sAugIx, Q.setQ, Q.tLcM, Q.augC, Q.keyD, Q.rg3, List.map_cons, List.map_nil, List.replicate_succ, List.replicate_zero, List.cons_append, List.nil_append, List.append_nil, List.getElem?_cons_zero, List.getElem?_cons_succ, List.set_cons_zero, List.set_cons_succ, List.getD_cons_zero, List.getD_cons_succ, List.filterMap_cons, List.filterMap_nil, List.all_cons, List.all_nil, Bool.and_true, Bool.true_and, Bool.not_true, Bool.not_false, Bool.not_eq_true, Bool.false_eq_true, Bool.and_self, if_true, if_false, true_and, and_true, ↓reduceIte, eqD, neD, sh_int, eqv_int, eqv_strs, sDraw, List.length_cons, List.length_nil, Nat.zero_add, Nat.reduceAdd, decide_true, eq_self]
  refine ⟨ds, b, rfl, h1.ok, h3, h1.few, ?_⟩
  try simp only [Q.isDc, Q.sPar2K, Q.tDisp2, Q.tIxK, Q.sSetIxK, Q.tVd, Q.tGetK, Q.iKeysQ, Q.tDispK, Q.tVals, Q.tAddL, Q.sSetM, Q.sAl2, Q.tAlApp2, Q.sFrz2, Q.iZipM, Q.itZm, Q.tLcM, Q.addF, Q.isN, Q.mulF, Q.bandI, Q.iZip, Q.itZ, Q.slD, Q.enOf, Q.tV, Q.tK, Q.t2, Q.t1, Q.tB, Q.cI, Q.cIp, Q.subI, Q.fdivI, Q.fdivW, Q.modI, Q.ltI, Q.leI, Q.gtI, Q.geI, Q.negI, Q.vAnd, Q.vNot, Q.qAnd, Q.qOr, Q.qNot, Q.qIf, Q.chI, Q.tTupQ, Q.dNil, Q.dCons, Q.tLstQ, Q.tFz, Q.tCA, Q.lenD, Q.tupD, Q.isD, Q.isInt, Q.isBool, Q.isTup, Q.isStr, Q.tLenN, Q.tIxN, Q.setQ, Q.aNil, Q.aD, Q.aK, Q.tCallQ, Q.tCallKQ, Q.pick, Q.sNil, Q.sSeq, Q.sRet, Q.sExpr, Q.sIf, Q.sSet, Q.sSetL, Q.sAsg, Q.sFor, Q.sPar2, Q.sPar3, Q.pNil, Q.pD, Q.pO, Q.gN, Q.gT, Q.gsNil, Q.gsCons, Q.iQ, Q.itD, Q.iEn, Q.itE, Q.rg1, Q.oSome, Q.tSlQ, Q.revD, Q.tOwnM, Q.appC, Q.popC, Q.extC, Q.ownL, Q.tRepL, Q.repC, Q.sSetIx, Q.ixOwn, Q.tLcQ, Q.noOwn, Q.rstQ, Q.wipeQ, Q.sDn, Q.sSetD, Q.tDgetN, Q.dOwn, Q.sNever, Q.isB, Q.listD, Q.listC, Q.reprD, Q.Sl.isOwn, Q.sAugIx, Q.setQ, Q.tLcM, Q.augC, Q.keyD, Q.rg3, List.map_cons, List.map_nil, List.replicate_succ, List.replicate_zero, List.cons_append, List.nil_append, List.append_nil, List.getElem?_cons_zero, List.getElem?_cons_succ, List.set_cons_zero, List.set_cons_succ, List.getD_cons_zero, List.getD_cons_succ, List.filterMap_cons, List.filterMap_nil, List.all_cons, List.all_nil, Bool.and_true, Bool.true_and, Bool.not_true, Bool.not_false, Bool.not_eq_true, Bool.false_eq_true, Bool.and_self, if_true, if_false, true_and, and_true, ↓reduceIte, eqD, neD, sh_int, eqv_int, eqv_strs, sDraw, List.length_cons, List.length_nil, Nat.zero_add, Nat.reduceAdd, decide_true, eq_self]
  exact h
def sp_codes_number : PSpec := fun as R => ∃ ds : List Desk, as = [.d (desksD ds)] ∧ T44.Dk ds ∧ R (.int (many ds))
theorem len_codes_number : ∀ as R, sp_codes_number as R → as.length = 1 := by rintro as R ⟨i, rfl, _⟩; rfl
theorem rd_codes_number : ∀ as R, sp_codes_number as R → t_codes_number sp_need_desks sp_many_codes { nx := fun _ => R .none, rt := R } (enOf as 0) := by
  rintro as R ⟨ds, rfl, h1, h⟩
  simp only [t_codes_number, Q.isDc, Q.sPar2K, Q.tDisp2, Q.tIxK, Q.sSetIxK, Q.tVd, Q.tGetK, Q.iKeysQ, Q.tDispK, Q.tVals, Q.tAddL, Q.sSetM, Q.sAl2, Q.tAlApp2, Q.sFrz2, Q.iZipM, Q.itZm, Q.tLcM, Q.addF, Q.isN, Q.mulF, Q.bandI, Q.iZip, Q.itZ, Q.slD, Q.enOf, Q.tV, Q.tK, Q.t2, Q.t1, Q.tB, Q.cI, Q.cIp, Q.subI, Q.fdivI, Q.fdivW, Q.modI, Q.ltI, Q.leI, Q.gtI, Q.geI, Q.negI, Q.vAnd, Q.vNot, Q.qAnd, Q.qOr, Q.qNot, Q.qIf, Q.chI, Q.tTupQ, Q.dNil, Q.dCons, Q.tLstQ, Q.tFz, Q.tCA, Q.lenD, Q.tupD, Q.isD, Q.isInt, Q.isBool, Q.isTup, Q.isStr, Q.tLenN, Q.tIxN, Q.setQ, Q.aNil, Q.aD, Q.aK, Q.tCallQ, Q.tCallKQ, Q.pick, Q.sNil, Q.sSeq, Q.sRet, Q.sExpr, Q.sIf, Q.sSet, Q.sSetL, Q.sAsg, Q.sFor, Q.sPar2, Q.sPar3, Q.pNil, Q.pD, Q.pO, Q.gN, Q.gT, Q.gsNil, Q.gsCons, Q.iQ, Q.itD, Q.iEn, Q.itE, Q.rg1, Q.oSome, Q.tSlQ, Q.revD, Q.tOwnM, Q.appC, Q.popC, Q.extC, Q.ownL, Q.tRepL, Q.repC, Q.sSetIx, Q.ixOwn, Q.tLcQ, Q.noOwn, Q.rstQ, Q.wipeQ, Q.sDn, Q.sSetD, Q.tDgetN, Q.dOwn, Q.sNever, Q.isB, Q.listD, Q.listC, Q.reprD, Q.Sl.isOwn, Q.sAugIx, Q.setQ, Q.tLcM, Q.augC, Q.keyD, Q.rg3, List.map_cons, List.map_nil, List.replicate_succ, List.replicate_zero, List.cons_append, List.nil_append, List.append_nil, List.getElem?_cons_zero, List.getElem?_cons_succ, List.set_cons_zero, List.set_cons_succ, List.getD_cons_zero, List.getD_cons_succ, List.filterMap_cons, List.filterMap_nil, List.all_cons, List.all_nil, Bool.and_true, Bool.true_and, Bool.not_true, Bool.not_false, Bool.not_eq_true, Bool.false_eq_true, Bool.and_self, if_true, if_false, true_and, and_true, ↓reduceIte, eqD, neD, sh_int, eqv_int, eqv_strs, sDraw, List.length_cons, List.length_nil, Nat.zero_add, Nat.reduceAdd, decide_true, eq_self]
  refine ⟨ds, rfl, h1, ?_⟩
  try simp only [Q.isDc, Q.sPar2K, Q.tDisp2, Q.tIxK, Q.sSetIxK, Q.tVd, Q.tGetK, Q.iKeysQ, Q.tDispK, Q.tVals, Q.tAddL, Q.sSetM, Q.sAl2, Q.tAlApp2, Q.sFrz2, Q.iZipM, Q.itZm, Q.tLcM, Q.addF, Q.isN, Q.mulF, Q.bandI, Q.iZip, Q.itZ, Q.slD, Q.enOf, Q.tV, Q.tK, Q.t2, Q.t1, Q.tB, Q.cI, Q.cIp, Q.subI, Q.fdivI, Q.fdivW, Q.modI, Q.ltI, Q.leI, Q.gtI, Q.geI, Q.negI, Q.vAnd, Q.vNot, Q.qAnd, Q.qOr, Q.qNot, Q.qIf, Q.chI, Q.tTupQ, Q.dNil, Q.dCons, Q.tLstQ, Q.tFz, Q.tCA, Q.lenD, Q.tupD, Q.isD, Q.isInt, Q.isBool, Q.isTup, Q.isStr, Q.tLenN, Q.tIxN, Q.setQ, Q.aNil, Q.aD, Q.aK, Q.tCallQ, Q.tCallKQ, Q.pick, Q.sNil, Q.sSeq, Q.sRet, Q.sExpr, Q.sIf, Q.sSet, Q.sSetL, Q.sAsg, Q.sFor, Q.sPar2, Q.sPar3, Q.pNil, Q.pD, Q.pO, Q.gN, Q.gT, Q.gsNil, Q.gsCons, Q.iQ, Q.itD, Q.iEn, Q.itE, Q.rg1, Q.oSome, Q.tSlQ, Q.revD, Q.tOwnM, Q.appC, Q.popC, Q.extC, Q.ownL, Q.tRepL, Q.repC, Q.sSetIx, Q.ixOwn, Q.tLcQ, Q.noOwn, Q.rstQ, Q.wipeQ, Q.sDn, Q.sSetD, Q.tDgetN, Q.dOwn, Q.sNever, Q.isB, Q.listD, Q.listC, Q.reprD, Q.Sl.isOwn, Q.sAugIx, Q.setQ, Q.tLcM, Q.augC, Q.keyD, Q.rg3, List.map_cons, List.map_nil, List.replicate_succ, List.replicate_zero, List.cons_append, List.nil_append, List.append_nil, List.getElem?_cons_zero, List.getElem?_cons_succ, List.set_cons_zero, List.set_cons_succ, List.getD_cons_zero, List.getD_cons_succ, List.filterMap_cons, List.filterMap_nil, List.all_cons, List.all_nil, Bool.and_true, Bool.true_and, Bool.not_true, Bool.not_false, Bool.not_eq_true, Bool.false_eq_true, Bool.and_self, if_true, if_false, true_and, and_true, ↓reduceIte, eqD, neD, sh_int, eqv_int, eqv_strs, sDraw, List.length_cons, List.length_nil, Nat.zero_add, Nat.reduceAdd, decide_true, eq_self]
  exact ⟨ds, rfl, h1.ok, h⟩
def sp_code_at : PSpec := fun as R => ∃ (ds : List Desk) (n : Int), as = [.d (desksD ds), .d (.int n)] ∧ T44.Dk ds ∧ 0 ≤ n ∧ n < many ds ∧ R (tupI (codeAt ds n))
theorem len_code_at : ∀ as R, sp_code_at as R → as.length = 2 := by rintro as R ⟨i, c, rfl, _⟩; rfl
theorem rd_code_at : ∀ as R, sp_code_at as R → t_code_at sp_need_desks sp_is_between sp_many_codes sp_raw_code_at { nx := fun _ => R .none, rt := R } (enOf as 0) := by
  rintro as R ⟨ds, n, rfl, h1, h2, h3, h⟩
  simp only [t_code_at, Q.isDc, Q.sPar2K, Q.tDisp2, Q.tIxK, Q.sSetIxK, Q.tVd, Q.tGetK, Q.iKeysQ, Q.tDispK, Q.tVals, Q.tAddL, Q.sSetM, Q.sAl2, Q.tAlApp2, Q.sFrz2, Q.iZipM, Q.itZm, Q.tLcM, Q.addF, Q.isN, Q.mulF, Q.bandI, Q.iZip, Q.itZ, Q.slD, Q.enOf, Q.tV, Q.tK, Q.t2, Q.t1, Q.tB, Q.cI, Q.cIp, Q.subI, Q.fdivI, Q.fdivW, Q.modI, Q.ltI, Q.leI, Q.gtI, Q.geI, Q.negI, Q.vAnd, Q.vNot, Q.qAnd, Q.qOr, Q.qNot, Q.qIf, Q.chI, Q.tTupQ, Q.dNil, Q.dCons, Q.tLstQ, Q.tFz, Q.tCA, Q.lenD, Q.tupD, Q.isD, Q.isInt, Q.isBool, Q.isTup, Q.isStr, Q.tLenN, Q.tIxN, Q.setQ, Q.aNil, Q.aD, Q.aK, Q.tCallQ, Q.tCallKQ, Q.pick, Q.sNil, Q.sSeq, Q.sRet, Q.sExpr, Q.sIf, Q.sSet, Q.sSetL, Q.sAsg, Q.sFor, Q.sPar2, Q.sPar3, Q.pNil, Q.pD, Q.pO, Q.gN, Q.gT, Q.gsNil, Q.gsCons, Q.iQ, Q.itD, Q.iEn, Q.itE, Q.rg1, Q.oSome, Q.tSlQ, Q.revD, Q.tOwnM, Q.appC, Q.popC, Q.extC, Q.ownL, Q.tRepL, Q.repC, Q.sSetIx, Q.ixOwn, Q.tLcQ, Q.noOwn, Q.rstQ, Q.wipeQ, Q.sDn, Q.sSetD, Q.tDgetN, Q.dOwn, Q.sNever, Q.isB, Q.listD, Q.listC, Q.reprD, Q.Sl.isOwn, Q.sAugIx, Q.setQ, Q.tLcM, Q.augC, Q.keyD, Q.rg3, List.map_cons, List.map_nil, List.replicate_succ, List.replicate_zero, List.cons_append, List.nil_append, List.append_nil, List.getElem?_cons_zero, List.getElem?_cons_succ, List.set_cons_zero, List.set_cons_succ, List.getD_cons_zero, List.getD_cons_succ, List.filterMap_cons, List.filterMap_nil, List.all_cons, List.all_nil, Bool.and_true, Bool.true_and, Bool.not_true, Bool.not_false, Bool.not_eq_true, Bool.false_eq_true, Bool.and_self, if_true, if_false, true_and, and_true, ↓reduceIte, eqD, neD, sh_int, eqv_int, eqv_strs, sDraw, List.length_cons, List.length_nil, Nat.zero_add, Nat.reduceAdd, decide_true, eq_self]
  refine ⟨ds, rfl, h1, ?_⟩
  try simp only [Q.isDc, Q.sPar2K, Q.tDisp2, Q.tIxK, Q.sSetIxK, Q.tVd, Q.tGetK, Q.iKeysQ, Q.tDispK, Q.tVals, Q.tAddL, Q.sSetM, Q.sAl2, Q.tAlApp2, Q.sFrz2, Q.iZipM, Q.itZm, Q.tLcM, Q.addF, Q.isN, Q.mulF, Q.bandI, Q.iZip, Q.itZ, Q.slD, Q.enOf, Q.tV, Q.tK, Q.t2, Q.t1, Q.tB, Q.cI, Q.cIp, Q.subI, Q.fdivI, Q.fdivW, Q.modI, Q.ltI, Q.leI, Q.gtI, Q.geI, Q.negI, Q.vAnd, Q.vNot, Q.qAnd, Q.qOr, Q.qNot, Q.qIf, Q.chI, Q.tTupQ, Q.dNil, Q.dCons, Q.tLstQ, Q.tFz, Q.tCA, Q.lenD, Q.tupD, Q.isD, Q.isInt, Q.isBool, Q.isTup, Q.isStr, Q.tLenN, Q.tIxN, Q.setQ, Q.aNil, Q.aD, Q.aK, Q.tCallQ, Q.tCallKQ, Q.pick, Q.sNil, Q.sSeq, Q.sRet, Q.sExpr, Q.sIf, Q.sSet, Q.sSetL, Q.sAsg, Q.sFor, Q.sPar2, Q.sPar3, Q.pNil, Q.pD, Q.pO, Q.gN, Q.gT, Q.gsNil, Q.gsCons, Q.iQ, Q.itD, Q.iEn, Q.itE, Q.rg1, Q.oSome, Q.tSlQ, Q.revD, Q.tOwnM, Q.appC, Q.popC, Q.extC, Q.ownL, Q.tRepL, Q.repC, Q.sSetIx, Q.ixOwn, Q.tLcQ, Q.noOwn, Q.rstQ, Q.wipeQ, Q.sDn, Q.sSetD, Q.tDgetN, Q.dOwn, Q.sNever, Q.isB, Q.listD, Q.listC, Q.reprD, Q.Sl.isOwn, Q.sAugIx, Q.setQ, Q.tLcM, Q.augC, Q.keyD, Q.rg3, List.map_cons, List.map_nil, List.replicate_succ, List.replicate_zero, List.cons_append, List.nil_append, List.append_nil, List.getElem?_cons_zero, List.getElem?_cons_succ, List.set_cons_zero, List.set_cons_succ, List.getD_cons_zero, List.getD_cons_succ, List.filterMap_cons, List.filterMap_nil, List.all_cons, List.all_nil, Bool.and_true, Bool.true_and, Bool.not_true, Bool.not_false, Bool.not_eq_true, Bool.false_eq_true, Bool.and_self, if_true, if_false, true_and, and_true, ↓reduceIte, eqD, neD, sh_int, eqv_int, eqv_strs, sDraw, List.length_cons, List.length_nil, Nat.zero_add, Nat.reduceAdd, decide_true, eq_self]
  refine ⟨ds, rfl, h1.ok, ?_⟩
  try simp only [Q.isDc, Q.sPar2K, Q.tDisp2, Q.tIxK, Q.sSetIxK, Q.tVd, Q.tGetK, Q.iKeysQ, Q.tDispK, Q.tVals, Q.tAddL, Q.sSetM, Q.sAl2, Q.tAlApp2, Q.sFrz2, Q.iZipM, Q.itZm, Q.tLcM, Q.addF, Q.isN, Q.mulF, Q.bandI, Q.iZip, Q.itZ, Q.slD, Q.enOf, Q.tV, Q.tK, Q.t2, Q.t1, Q.tB, Q.cI, Q.cIp, Q.subI, Q.fdivI, Q.fdivW, Q.modI, Q.ltI, Q.leI, Q.gtI, Q.geI, Q.negI, Q.vAnd, Q.vNot, Q.qAnd, Q.qOr, Q.qNot, Q.qIf, Q.chI, Q.tTupQ, Q.dNil, Q.dCons, Q.tLstQ, Q.tFz, Q.tCA, Q.lenD, Q.tupD, Q.isD, Q.isInt, Q.isBool, Q.isTup, Q.isStr, Q.tLenN, Q.tIxN, Q.setQ, Q.aNil, Q.aD, Q.aK, Q.tCallQ, Q.tCallKQ, Q.pick, Q.sNil, Q.sSeq, Q.sRet, Q.sExpr, Q.sIf, Q.sSet, Q.sSetL, Q.sAsg, Q.sFor, Q.sPar2, Q.sPar3, Q.pNil, Q.pD, Q.pO, Q.gN, Q.gT, Q.gsNil, Q.gsCons, Q.iQ, Q.itD, Q.iEn, Q.itE, Q.rg1, Q.oSome, Q.tSlQ, Q.revD, Q.tOwnM, Q.appC, Q.popC, Q.extC, Q.ownL, Q.tRepL, Q.repC, Q.sSetIx, Q.ixOwn, Q.tLcQ, Q.noOwn, Q.rstQ, Q.wipeQ, Q.sDn, Q.sSetD, Q.tDgetN, Q.dOwn, Q.sNever, Q.isB, Q.listD, Q.listC, Q.reprD, Q.Sl.isOwn, Q.sAugIx, Q.setQ, Q.tLcM, Q.augC, Q.keyD, Q.rg3, List.map_cons, List.map_nil, List.replicate_succ, List.replicate_zero, List.cons_append, List.nil_append, List.append_nil, List.getElem?_cons_zero, List.getElem?_cons_succ, List.set_cons_zero, List.set_cons_succ, List.getD_cons_zero, List.getD_cons_succ, List.filterMap_cons, List.filterMap_nil, List.all_cons, List.all_nil, Bool.and_true, Bool.true_and, Bool.not_true, Bool.not_false, Bool.not_eq_true, Bool.false_eq_true, Bool.and_self, if_true, if_false, true_and, and_true, ↓reduceIte, eqD, neD, sh_int, eqv_int, eqv_strs, sDraw, List.length_cons, List.length_nil, Nat.zero_add, Nat.reduceAdd, decide_true, eq_self]
  refine ⟨n, 0, _, rfl, ?_⟩
  have e1 : decide ((0 : Int) ≤ n) = true := by simp [h2]
  have e2 : decide (n ≤ many ds - 1) = true := by simp; omega
  rw [e1, e2]
  try simp only [Q.isDc, Q.sPar2K, Q.tDisp2, Q.tIxK, Q.sSetIxK, Q.tVd, Q.tGetK, Q.iKeysQ, Q.tDispK, Q.tVals, Q.tAddL, Q.sSetM, Q.sAl2, Q.tAlApp2, Q.sFrz2, Q.iZipM, Q.itZm, Q.tLcM, Q.addF, Q.isN, Q.mulF, Q.bandI, Q.iZip, Q.itZ, Q.slD, Q.enOf, Q.tV, Q.tK, Q.t2, Q.t1, Q.tB, Q.cI, Q.cIp, Q.subI, Q.fdivI, Q.fdivW, Q.modI, Q.ltI, Q.leI, Q.gtI, Q.geI, Q.negI, Q.vAnd, Q.vNot, Q.qAnd, Q.qOr, Q.qNot, Q.qIf, Q.chI, Q.tTupQ, Q.dNil, Q.dCons, Q.tLstQ, Q.tFz, Q.tCA, Q.lenD, Q.tupD, Q.isD, Q.isInt, Q.isBool, Q.isTup, Q.isStr, Q.tLenN, Q.tIxN, Q.setQ, Q.aNil, Q.aD, Q.aK, Q.tCallQ, Q.tCallKQ, Q.pick, Q.sNil, Q.sSeq, Q.sRet, Q.sExpr, Q.sIf, Q.sSet, Q.sSetL, Q.sAsg, Q.sFor, Q.sPar2, Q.sPar3, Q.pNil, Q.pD, Q.pO, Q.gN, Q.gT, Q.gsNil, Q.gsCons, Q.iQ, Q.itD, Q.iEn, Q.itE, Q.rg1, Q.oSome, Q.tSlQ, Q.revD, Q.tOwnM, Q.appC, Q.popC, Q.extC, Q.ownL, Q.tRepL, Q.repC, Q.sSetIx, Q.ixOwn, Q.tLcQ, Q.noOwn, Q.rstQ, Q.wipeQ, Q.sDn, Q.sSetD, Q.tDgetN, Q.dOwn, Q.sNever, Q.isB, Q.listD, Q.listC, Q.reprD, Q.Sl.isOwn, Q.sAugIx, Q.setQ, Q.tLcM, Q.augC, Q.keyD, Q.rg3, List.map_cons, List.map_nil, List.replicate_succ, List.replicate_zero, List.cons_append, List.nil_append, List.append_nil, List.getElem?_cons_zero, List.getElem?_cons_succ, List.set_cons_zero, List.set_cons_succ, List.getD_cons_zero, List.getD_cons_succ, List.filterMap_cons, List.filterMap_nil, List.all_cons, List.all_nil, Bool.and_true, Bool.true_and, Bool.not_true, Bool.not_false, Bool.not_eq_true, Bool.false_eq_true, Bool.and_self, if_true, if_false, true_and, and_true, ↓reduceIte, eqD, neD, sh_int, eqv_int, eqv_strs, sDraw, List.length_cons, List.length_nil, Nat.zero_add, Nat.reduceAdd, decide_true, eq_self]
  exact ⟨ds, n, rfl, h1.ok, h1.few, h2, h3, h⟩
theorem tn_code {ds : List Desk} {c : List Int} (hd : T44.Dk ds) (h : OkR ds c) : Tn 1 75 (tupI c) := tn_ints (n := 12) (fun i hi => by
  have : ∀ (ds : List Desk) (c : List Int), DsOk ds → OkR ds c → i ∈ c → -1000 < i ∧ i < 1000 := by
    intro ds
    induction ds with
    | nil => intro c _ ok hi; cases c with | nil => simp at hi | cons _ _ => exact ok.elim
    | cons d ds ih =>
      intro c hd ok hi
      cases c with
      | nil => exact ok.elim
      | cons p c =>
        have := hd d (by simp)
        rcases List.mem_cons.mp hi with rfl | hi
        · have := ok.1; omega
        · exact ih c (fun z hz => hd z (by simp [hz])) ok.2 hi
  exact this ds c hd.ok h hi) (by rw [h.length]; exact hd.few)
theorem rep2 {k B : Nat} {d : PyData} (h : Tn k B d) (hk : k ≤ 60) (hB : B ≤ 10000000) : RepOk d := h.rep hk hB
theorem two_at {w : Int} (h0 : 0 ≤ w) (h1 : w < 2) : ∃ b : Bool, atI [PyData.str (Str.ofString "tray"), PyData.str (Str.ofString "pile")] w = some (plD b) := by
  rcases (by omega : w = 0 ∨ w = 1) with rfl | rfl
  · exact ⟨false, atI_nat (j := 0) rfl⟩
  · exact ⟨true, atI_nat (j := 1) rfl⟩
theorem flat_rep (n : Nat) (x : PyData) : (List.replicate n [x]).flatten = List.replicate n x := by
  induction n with
  | zero => rfl
  | succ n ih => rw [List.replicate_succ, List.flatten_cons, ih]; rfl
theorem F2.pls {α : Type} {as : List α} {bs : List PyData} (h : F2 (fun _ y => ∃ b : Bool, y = plD b) as bs) : ∃ d : Desk, bs = d.map plD ∧ d.length = as.length := by
  induction h with
  | nil => exact ⟨[], rfl, rfl⟩
  | cons a _ ih =>
    obtain ⟨d, rfl, hl⟩ := ih
    obtain ⟨b, rfl⟩ := a
    exact ⟨b :: d, rfl, by simp [hl]⟩
def sp__law_desk : PSpec := fun as R => ∃ m : Int, as = [.dk, .d (.int m)] ∧ 1 ≤ m ∧ m ≤ 6 ∧ ∀ d : Desk, 1 ≤ d.length → d.length ≤ 6 → R (deskD d)
theorem len__law_desk : ∀ as R, sp__law_desk as R → as.length = 2 := by rintro as R ⟨i, rfl, _⟩; rfl
theorem rd__law_desk : ∀ as R, sp__law_desk as R → t__law_desk sDraw { nx := fun _ => R .none, rt := R } (enOf as 3) := by
  rintro as R ⟨m, rfl, h1, h2, h⟩
  simp only [t__law_desk, Q.isDc, Q.sPar2K, Q.tDisp2, Q.tIxK, Q.sSetIxK, Q.tVd, Q.tGetK, Q.iKeysQ, Q.tDispK, Q.tVals, Q.tAddL, Q.sSetM, Q.sAl2, Q.tAlApp2, Q.sFrz2, Q.iZipM, Q.itZm, Q.tLcM, Q.addF, Q.isN, Q.mulF, Q.bandI, Q.iZip, Q.itZ, Q.slD, Q.enOf, Q.tV, Q.tK, Q.t2, Q.t1, Q.tB, Q.cI, Q.cIp, Q.subI, Q.fdivI, Q.fdivW, Q.modI, Q.ltI, Q.leI, Q.gtI, Q.geI, Q.negI, Q.vAnd, Q.vNot, Q.qAnd, Q.qOr, Q.qNot, Q.qIf, Q.chI, Q.tTupQ, Q.dNil, Q.dCons, Q.tLstQ, Q.tFz, Q.tCA, Q.lenD, Q.tupD, Q.isD, Q.isInt, Q.isBool, Q.isTup, Q.isStr, Q.tLenN, Q.tIxN, Q.setQ, Q.aNil, Q.aD, Q.aK, Q.tCallQ, Q.tCallKQ, Q.pick, Q.sNil, Q.sSeq, Q.sRet, Q.sExpr, Q.sIf, Q.sSet, Q.sSetL, Q.sAsg, Q.sFor, Q.sPar2, Q.sPar3, Q.pNil, Q.pD, Q.pO, Q.gN, Q.gT, Q.gsNil, Q.gsCons, Q.iQ, Q.itD, Q.iEn, Q.itE, Q.rg1, Q.oSome, Q.tSlQ, Q.revD, Q.tOwnM, Q.appC, Q.popC, Q.extC, Q.ownL, Q.tRepL, Q.repC, Q.sSetIx, Q.ixOwn, Q.tLcQ, Q.noOwn, Q.rstQ, Q.wipeQ, Q.sDn, Q.sSetD, Q.tDgetN, Q.dOwn, Q.sNever, Q.isB, Q.listD, Q.listC, Q.reprD, Q.Sl.isOwn, Q.sAugIx, Q.setQ, Q.tLcM, Q.augC, Q.keyD, Q.rg3, List.map_cons, List.map_nil, List.replicate_succ, List.replicate_zero, List.cons_append, List.nil_append, List.append_nil, List.getElem?_cons_zero, List.getElem?_cons_succ, List.set_cons_zero, List.set_cons_succ, List.getD_cons_zero, List.getD_cons_succ, List.filterMap_cons, List.filterMap_nil, List.all_cons, List.all_nil, Bool.and_true, Bool.true_and, Bool.not_true, Bool.not_false, Bool.not_eq_true, Bool.false_eq_true, Bool.and_self, if_true, if_false, true_and, and_true, ↓reduceIte, eqD, neD, sh_int, eqv_int, eqv_strs, sDraw, List.length_cons, List.length_nil, Nat.zero_add, Nat.reduceAdd, decide_true, eq_self]
  refine ⟨by omega, by omega, fun r hr1 hr2 => ⟨by omega, by omega, fun w hw1 hw2 => ?_⟩⟩
  cases e : decide (w < 2) with
  | true =>
    simp only [Q.isDc, Q.sPar2K, Q.tDisp2, Q.tIxK, Q.sSetIxK, Q.tVd, Q.tGetK, Q.iKeysQ, Q.tDispK, Q.tVals, Q.tAddL, Q.sSetM, Q.sAl2, Q.tAlApp2, Q.sFrz2, Q.iZipM, Q.itZm, Q.tLcM, Q.addF, Q.isN, Q.mulF, Q.bandI, Q.iZip, Q.itZ, Q.slD, Q.enOf, Q.tV, Q.tK, Q.t2, Q.t1, Q.tB, Q.cI, Q.cIp, Q.subI, Q.fdivI, Q.fdivW, Q.modI, Q.ltI, Q.leI, Q.gtI, Q.geI, Q.negI, Q.vAnd, Q.vNot, Q.qAnd, Q.qOr, Q.qNot, Q.qIf, Q.chI, Q.tTupQ, Q.dNil, Q.dCons, Q.tLstQ, Q.tFz, Q.tCA, Q.lenD, Q.tupD, Q.isD, Q.isInt, Q.isBool, Q.isTup, Q.isStr, Q.tLenN, Q.tIxN, Q.setQ, Q.aNil, Q.aD, Q.aK, Q.tCallQ, Q.tCallKQ, Q.pick, Q.sNil, Q.sSeq, Q.sRet, Q.sExpr, Q.sIf, Q.sSet, Q.sSetL, Q.sAsg, Q.sFor, Q.sPar2, Q.sPar3, Q.pNil, Q.pD, Q.pO, Q.gN, Q.gT, Q.gsNil, Q.gsCons, Q.iQ, Q.itD, Q.iEn, Q.itE, Q.rg1, Q.oSome, Q.tSlQ, Q.revD, Q.tOwnM, Q.appC, Q.popC, Q.extC, Q.ownL, Q.tRepL, Q.repC, Q.sSetIx, Q.ixOwn, Q.tLcQ, Q.noOwn, Q.rstQ, Q.wipeQ, Q.sDn, Q.sSetD, Q.tDgetN, Q.dOwn, Q.sNever, Q.isB, Q.listD, Q.listC, Q.reprD, Q.Sl.isOwn, Q.sAugIx, Q.setQ, Q.tLcM, Q.augC, Q.keyD, Q.rg3, List.map_cons, List.map_nil, List.replicate_succ, List.replicate_zero, List.cons_append, List.nil_append, List.append_nil, List.getElem?_cons_zero, List.getElem?_cons_succ, List.set_cons_zero, List.set_cons_succ, List.getD_cons_zero, List.getD_cons_succ, List.filterMap_cons, List.filterMap_nil, List.all_cons, List.all_nil, Bool.and_true, Bool.true_and, Bool.not_true, Bool.not_false, Bool.not_eq_true, Bool.false_eq_true, Bool.and_self, if_true, if_false, true_and, and_true, ↓reduceIte, eqD, neD, sh_int, eqv_int, eqv_strs, sDraw, List.length_cons, List.length_nil, Nat.zero_add, Nat.reduceAdd, decide_true, eq_self, ixD]
    have hw3 : w < 2 := of_decide_eq_true e
    obtain ⟨b, hb⟩ := two_at hw1 hw3
    refine ⟨by decide, _, hb, by decide, by simp, by omega, by omega, by decide, ?_⟩
    rw [flat_rep, ← List.map_replicate]
    exact h (List.replicate (1 + r).toNat b) (by rw [List.length_replicate]; omega) (by rw [List.length_replicate]; omega)
  | false =>
    simp only [Q.isDc, Q.sPar2K, Q.tDisp2, Q.tIxK, Q.sSetIxK, Q.tVd, Q.tGetK, Q.iKeysQ, Q.tDispK, Q.tVals, Q.tAddL, Q.sSetM, Q.sAl2, Q.tAlApp2, Q.sFrz2, Q.iZipM, Q.itZm, Q.tLcM, Q.addF, Q.isN, Q.mulF, Q.bandI, Q.iZip, Q.itZ, Q.slD, Q.enOf, Q.tV, Q.tK, Q.t2, Q.t1, Q.tB, Q.cI, Q.cIp, Q.subI, Q.fdivI, Q.fdivW, Q.modI, Q.ltI, Q.leI, Q.gtI, Q.geI, Q.negI, Q.vAnd, Q.vNot, Q.qAnd, Q.qOr, Q.qNot, Q.qIf, Q.chI, Q.tTupQ, Q.dNil, Q.dCons, Q.tLstQ, Q.tFz, Q.tCA, Q.lenD, Q.tupD, Q.isD, Q.isInt, Q.isBool, Q.isTup, Q.isStr, Q.tLenN, Q.tIxN, Q.setQ, Q.aNil, Q.aD, Q.aK, Q.tCallQ, Q.tCallKQ, Q.pick, Q.sNil, Q.sSeq, Q.sRet, Q.sExpr, Q.sIf, Q.sSet, Q.sSetL, Q.sAsg, Q.sFor, Q.sPar2, Q.sPar3, Q.pNil, Q.pD, Q.pO, Q.gN, Q.gT, Q.gsNil, Q.gsCons, Q.iQ, Q.itD, Q.iEn, Q.itE, Q.rg1, Q.oSome, Q.tSlQ, Q.revD, Q.tOwnM, Q.appC, Q.popC, Q.extC, Q.ownL, Q.tRepL, Q.repC, Q.sSetIx, Q.ixOwn, Q.tLcQ, Q.noOwn, Q.rstQ, Q.wipeQ, Q.sDn, Q.sSetD, Q.tDgetN, Q.dOwn, Q.sNever, Q.isB, Q.listD, Q.listC, Q.reprD, Q.Sl.isOwn, Q.sAugIx, Q.setQ, Q.tLcM, Q.augC, Q.keyD, Q.rg3, List.map_cons, List.map_nil, List.replicate_succ, List.replicate_zero, List.cons_append, List.nil_append, List.append_nil, List.getElem?_cons_zero, List.getElem?_cons_succ, List.set_cons_zero, List.set_cons_succ, List.getD_cons_zero, List.getD_cons_succ, List.filterMap_cons, List.filterMap_nil, List.all_cons, List.all_nil, Bool.and_true, Bool.true_and, Bool.not_true, Bool.not_false, Bool.not_eq_true, Bool.false_eq_true, Bool.and_self, if_true, if_false, true_and, and_true, ↓reduceIte, eqD, neD, sh_int, eqv_int, eqv_strs, sDraw, List.length_cons, List.length_nil, Nat.zero_add, Nat.reduceAdd, decide_true, eq_self]
    refine ⟨by omega, by omega, ?_⟩
    refine comp_any (fun _ y => ∃ b : Bool, y = plD b) (fun x hx Rk hk => ?_) fun outs ho => ?_
    · simp only [Q.isDc, Q.sPar2K, Q.tDisp2, Q.tIxK, Q.sSetIxK, Q.tVd, Q.tGetK, Q.iKeysQ, Q.tDispK, Q.tVals, Q.tAddL, Q.sSetM, Q.sAl2, Q.tAlApp2, Q.sFrz2, Q.iZipM, Q.itZm, Q.tLcM, Q.addF, Q.isN, Q.mulF, Q.bandI, Q.iZip, Q.itZ, Q.slD, Q.enOf, Q.tV, Q.tK, Q.t2, Q.t1, Q.tB, Q.cI, Q.cIp, Q.subI, Q.fdivI, Q.fdivW, Q.modI, Q.ltI, Q.leI, Q.gtI, Q.geI, Q.negI, Q.vAnd, Q.vNot, Q.qAnd, Q.qOr, Q.qNot, Q.qIf, Q.chI, Q.tTupQ, Q.dNil, Q.dCons, Q.tLstQ, Q.tFz, Q.tCA, Q.lenD, Q.tupD, Q.isD, Q.isInt, Q.isBool, Q.isTup, Q.isStr, Q.tLenN, Q.tIxN, Q.setQ, Q.aNil, Q.aD, Q.aK, Q.tCallQ, Q.tCallKQ, Q.pick, Q.sNil, Q.sSeq, Q.sRet, Q.sExpr, Q.sIf, Q.sSet, Q.sSetL, Q.sAsg, Q.sFor, Q.sPar2, Q.sPar3, Q.pNil, Q.pD, Q.pO, Q.gN, Q.gT, Q.gsNil, Q.gsCons, Q.iQ, Q.itD, Q.iEn, Q.itE, Q.rg1, Q.oSome, Q.tSlQ, Q.revD, Q.tOwnM, Q.appC, Q.popC, Q.extC, Q.ownL, Q.tRepL, Q.repC, Q.sSetIx, Q.ixOwn, Q.tLcQ, Q.noOwn, Q.rstQ, Q.wipeQ, Q.sDn, Q.sSetD, Q.tDgetN, Q.dOwn, Q.sNever, Q.isB, Q.listD, Q.listC, Q.reprD, Q.Sl.isOwn, Q.sAugIx, Q.setQ, Q.tLcM, Q.augC, Q.keyD, Q.rg3, List.map_cons, List.map_nil, List.replicate_succ, List.replicate_zero, List.cons_append, List.nil_append, List.append_nil, List.getElem?_cons_zero, List.getElem?_cons_succ, List.set_cons_zero, List.set_cons_succ, List.getD_cons_zero, List.getD_cons_succ, List.filterMap_cons, List.filterMap_nil, List.all_cons, List.all_nil, Bool.and_true, Bool.true_and, Bool.not_true, Bool.not_false, Bool.not_eq_true, Bool.false_eq_true, Bool.and_self, if_true, if_false, true_and, and_true, ↓reduceIte, eqD, neD, sh_int, eqv_int, eqv_strs, sDraw, List.length_cons, List.length_nil, Nat.zero_add, Nat.reduceAdd, decide_true, eq_self, ixD]
      refine ⟨by decide, by decide, by decide, fun z hz1 hz2 => ?_⟩
      obtain ⟨b, hb⟩ := two_at hz1 hz2
      exact ⟨_, hb, hk _ _ ⟨b, rfl⟩ (by simp only [Q.isDc, Q.sPar2K, Q.tDisp2, Q.tIxK, Q.sSetIxK, Q.tVd, Q.tGetK, Q.iKeysQ, Q.tDispK, Q.tVals, Q.tAddL, Q.sSetM, Q.sAl2, Q.tAlApp2, Q.sFrz2, Q.iZipM, Q.itZm, Q.tLcM, Q.addF, Q.isN, Q.mulF, Q.bandI, Q.iZip, Q.itZ, Q.slD, Q.enOf, Q.tV, Q.tK, Q.t2, Q.t1, Q.tB, Q.cI, Q.cIp, Q.subI, Q.fdivI, Q.fdivW, Q.modI, Q.ltI, Q.leI, Q.gtI, Q.geI, Q.negI, Q.vAnd, Q.vNot, Q.qAnd, Q.qOr, Q.qNot, Q.qIf, Q.chI, Q.tTupQ, Q.dNil, Q.dCons, Q.tLstQ, Q.tFz, Q.tCA, Q.lenD, Q.tupD, Q.isD, Q.isInt, Q.isBool, Q.isTup, Q.isStr, Q.tLenN, Q.tIxN, Q.setQ, Q.aNil, Q.aD, Q.aK, Q.tCallQ, Q.tCallKQ, Q.pick, Q.sNil, Q.sSeq, Q.sRet, Q.sExpr, Q.sIf, Q.sSet, Q.sSetL, Q.sAsg, Q.sFor, Q.sPar2, Q.sPar3, Q.pNil, Q.pD, Q.pO, Q.gN, Q.gT, Q.gsNil, Q.gsCons, Q.iQ, Q.itD, Q.iEn, Q.itE, Q.rg1, Q.oSome, Q.tSlQ, Q.revD, Q.tOwnM, Q.appC, Q.popC, Q.extC, Q.ownL, Q.tRepL, Q.repC, Q.sSetIx, Q.ixOwn, Q.tLcQ, Q.noOwn, Q.rstQ, Q.wipeQ, Q.sDn, Q.sSetD, Q.tDgetN, Q.dOwn, Q.sNever, Q.isB, Q.listD, Q.listC, Q.reprD, Q.Sl.isOwn, Q.sAugIx, Q.setQ, Q.tLcM, Q.augC, Q.keyD, Q.rg3, List.map_cons, List.map_nil, List.replicate_succ, List.replicate_zero, List.cons_append, List.nil_append, List.append_nil, List.getElem?_cons_zero, List.getElem?_cons_succ, List.set_cons_zero, List.set_cons_succ, List.getD_cons_zero, List.getD_cons_succ, List.filterMap_cons, List.filterMap_nil, List.all_cons, List.all_nil, Bool.and_true, Bool.true_and, Bool.not_true, Bool.not_false, Bool.not_eq_true, Bool.false_eq_true, Bool.and_self, if_true, if_false, true_and, and_true, ↓reduceIte, eqD, neD, sh_int, eqv_int, eqv_strs, sDraw, List.length_cons, List.length_nil, Nat.zero_add, Nat.reduceAdd, decide_true, eq_self])⟩
    · obtain ⟨d, rfl, hl⟩ := F2.pls ho
      rw [rg_length] at hl
      try simp only [Q.isDc, Q.sPar2K, Q.tDisp2, Q.tIxK, Q.sSetIxK, Q.tVd, Q.tGetK, Q.iKeysQ, Q.tDispK, Q.tVals, Q.tAddL, Q.sSetM, Q.sAl2, Q.tAlApp2, Q.sFrz2, Q.iZipM, Q.itZm, Q.tLcM, Q.addF, Q.isN, Q.mulF, Q.bandI, Q.iZip, Q.itZ, Q.slD, Q.enOf, Q.tV, Q.tK, Q.t2, Q.t1, Q.tB, Q.cI, Q.cIp, Q.subI, Q.fdivI, Q.fdivW, Q.modI, Q.ltI, Q.leI, Q.gtI, Q.geI, Q.negI, Q.vAnd, Q.vNot, Q.qAnd, Q.qOr, Q.qNot, Q.qIf, Q.chI, Q.tTupQ, Q.dNil, Q.dCons, Q.tLstQ, Q.tFz, Q.tCA, Q.lenD, Q.tupD, Q.isD, Q.isInt, Q.isBool, Q.isTup, Q.isStr, Q.tLenN, Q.tIxN, Q.setQ, Q.aNil, Q.aD, Q.aK, Q.tCallQ, Q.tCallKQ, Q.pick, Q.sNil, Q.sSeq, Q.sRet, Q.sExpr, Q.sIf, Q.sSet, Q.sSetL, Q.sAsg, Q.sFor, Q.sPar2, Q.sPar3, Q.pNil, Q.pD, Q.pO, Q.gN, Q.gT, Q.gsNil, Q.gsCons, Q.iQ, Q.itD, Q.iEn, Q.itE, Q.rg1, Q.oSome, Q.tSlQ, Q.revD, Q.tOwnM, Q.appC, Q.popC, Q.extC, Q.ownL, Q.tRepL, Q.repC, Q.sSetIx, Q.ixOwn, Q.tLcQ, Q.noOwn, Q.rstQ, Q.wipeQ, Q.sDn, Q.sSetD, Q.tDgetN, Q.dOwn, Q.sNever, Q.isB, Q.listD, Q.listC, Q.reprD, Q.Sl.isOwn, Q.sAugIx, Q.setQ, Q.tLcM, Q.augC, Q.keyD, Q.rg3, List.map_cons, List.map_nil, List.replicate_succ, List.replicate_zero, List.cons_append, List.nil_append, List.append_nil, List.getElem?_cons_zero, List.getElem?_cons_succ, List.set_cons_zero, List.set_cons_succ, List.getD_cons_zero, List.getD_cons_succ, List.filterMap_cons, List.filterMap_nil, List.all_cons, List.all_nil, Bool.and_true, Bool.true_and, Bool.not_true, Bool.not_false, Bool.not_eq_true, Bool.false_eq_true, Bool.and_self, if_true, if_false, true_and, and_true, ↓reduceIte, eqD, neD, sh_int, eqv_int, eqv_strs, sDraw, List.length_cons, List.length_nil, Nat.zero_add, Nat.reduceAdd, decide_true, eq_self]
      exact h d (by omega) (by omega)
theorem F2.code : ∀ {ds : List Desk} {bs : List PyData}, F2 (fun x y => ∃ p : Int, y = .int p ∧ 0 ≤ p ∧ ∀ xs, x = PyData.tuple xs → p < xs.length) (ds.map deskD) bs → ∃ c : List Int, bs = c.map .int ∧ OkR ds c := by
  intro ds
  induction ds with
  | nil => intro bs h; cases h; exact ⟨[], rfl, True.intro⟩
  | cons d ds ih =>
    intro bs h
    cases h with
    | cons a t =>
      obtain ⟨c, rfl, ok⟩ := ih t
      obtain ⟨p, rfl, h1, h2⟩ := a
      exact ⟨p :: c, rfl, ⟨h1, by have := h2 _ rfl; simpa using this⟩, ok⟩
def pileP : PyData → Bool
  | .tuple [.tuple xs, .int k] => PyData.eqv (xs.getD k.toNat .none) (.str (Str.ofString "pile"))
  | _ => false
theorem pile_at {d : Desk} {p : Int} (h0 : 0 ≤ p) (h1 : p < d.length) : pileP (.tuple [deskD d, .int p]) = d.getD p.toNat false := by
  have h2 : p.toNat < d.length := by omega
  show PyData.eqv ((d.map plD).getD p.toNat .none) (.str (Str.ofString "pile")) = _
  have e : (d.map plD).getD p.toNat .none = plD (d.getD p.toNat false) := by simp [List.getD_eq_getElem?_getD, h2]
  rw [e, eqv_pile]
theorem pile_count : ∀ {ds : List Desk} {c : List Int}, OkR ds c → ((zipD (ds.map deskD) (c.map .int)).filter pileP).length = piles ds c
  | [], [], _ => rfl
  | d :: ds, p :: c, ok => by
    rw [zip_c]
    have ih := pile_count ok.2
    have e := pile_at ok.1.1 ok.1.2
    rw [show piles (d :: ds) (p :: c) = (if d.getD p.toNat false = true then 1 else 0) + piles ds c from rfl, List.filter_cons, e]
    by_cases hp : d.getD p.toNat false = true
    · rw [if_pos hp, if_pos hp, List.length_cons, ih]; omega
    · rw [if_neg hp, if_neg hp, ih]; omega
  | [], _ :: _, ok => ok.elim
  | _ :: _, [], ok => ok.elim
def sp__law_sign : PSpec := fun as R => ∃ (ds : List Desk) (c : List Int), as = [.d (desksD ds), .d (tupI c)] ∧ OkR ds c ∧ ds.length ≤ 12 ∧ R (.int (sgn ds c))
theorem len__law_sign : ∀ as R, sp__law_sign as R → as.length = 2 := by rintro as R ⟨i, c, rfl, _⟩; rfl
theorem rd__law_sign : ∀ as R, sp__law_sign as R → t__law_sign { nx := fun _ => R .none, rt := R } (enOf as 3) := by
  rintro as R ⟨ds, c, rfl, h1, h2, h⟩
  simp only [t__law_sign, desksD, tupI, Q.isDc, Q.sPar2K, Q.tDisp2, Q.tIxK, Q.sSetIxK, Q.tVd, Q.tGetK, Q.iKeysQ, Q.tDispK, Q.tVals, Q.tAddL, Q.sSetM, Q.sAl2, Q.tAlApp2, Q.sFrz2, Q.iZipM, Q.itZm, Q.tLcM, Q.addF, Q.isN, Q.mulF, Q.bandI, Q.iZip, Q.itZ, Q.slD, Q.enOf, Q.tV, Q.tK, Q.t2, Q.t1, Q.tB, Q.cI, Q.cIp, Q.subI, Q.fdivI, Q.fdivW, Q.modI, Q.ltI, Q.leI, Q.gtI, Q.geI, Q.negI, Q.vAnd, Q.vNot, Q.qAnd, Q.qOr, Q.qNot, Q.qIf, Q.chI, Q.tTupQ, Q.dNil, Q.dCons, Q.tLstQ, Q.tFz, Q.tCA, Q.lenD, Q.tupD, Q.isD, Q.isInt, Q.isBool, Q.isTup, Q.isStr, Q.tLenN, Q.tIxN, Q.setQ, Q.aNil, Q.aD, Q.aK, Q.tCallQ, Q.tCallKQ, Q.pick, Q.sNil, Q.sSeq, Q.sRet, Q.sExpr, Q.sIf, Q.sSet, Q.sSetL, Q.sAsg, Q.sFor, Q.sPar2, Q.sPar3, Q.pNil, Q.pD, Q.pO, Q.gN, Q.gT, Q.gsNil, Q.gsCons, Q.iQ, Q.itD, Q.iEn, Q.itE, Q.rg1, Q.oSome, Q.tSlQ, Q.revD, Q.tOwnM, Q.appC, Q.popC, Q.extC, Q.ownL, Q.tRepL, Q.repC, Q.sSetIx, Q.ixOwn, Q.tLcQ, Q.noOwn, Q.rstQ, Q.wipeQ, Q.sDn, Q.sSetD, Q.tDgetN, Q.dOwn, Q.sNever, Q.isB, Q.listD, Q.listC, Q.reprD, Q.Sl.isOwn, Q.sAugIx, Q.setQ, Q.tLcM, Q.augC, Q.keyD, Q.rg3, List.map_cons, List.map_nil, List.replicate_succ, List.replicate_zero, List.cons_append, List.nil_append, List.append_nil, List.getElem?_cons_zero, List.getElem?_cons_succ, List.set_cons_zero, List.set_cons_succ, List.getD_cons_zero, List.getD_cons_succ, List.filterMap_cons, List.filterMap_nil, List.all_cons, List.all_nil, Bool.and_true, Bool.true_and, Bool.not_true, Bool.not_false, Bool.not_eq_true, Bool.false_eq_true, Bool.and_self, if_true, if_false, true_and, and_true, ↓reduceIte, eqD, neD, sh_int, eqv_int, eqv_strs, sDraw, List.length_cons, List.length_nil, Nat.zero_add, Nat.reduceAdd, decide_true, eq_self, List.length_map]
  refine ⟨by omega, ?_⟩
  refine comp_if pileP (fun _ => .int 1) (fun x hx Rk Rf hk hf => ?_) ?_
  · obtain ⟨d, p, rfl, q1, q2⟩ := zip_mem h1 hx
    have e := pile_at q1 q2
    rw [e] at hk hf
    simp only [deskD, Q.isDc, Q.sPar2K, Q.tDisp2, Q.tIxK, Q.sSetIxK, Q.tVd, Q.tGetK, Q.iKeysQ, Q.tDispK, Q.tVals, Q.tAddL, Q.sSetM, Q.sAl2, Q.tAlApp2, Q.sFrz2, Q.iZipM, Q.itZm, Q.tLcM, Q.addF, Q.isN, Q.mulF, Q.bandI, Q.iZip, Q.itZ, Q.slD, Q.enOf, Q.tV, Q.tK, Q.t2, Q.t1, Q.tB, Q.cI, Q.cIp, Q.subI, Q.fdivI, Q.fdivW, Q.modI, Q.ltI, Q.leI, Q.gtI, Q.geI, Q.negI, Q.vAnd, Q.vNot, Q.qAnd, Q.qOr, Q.qNot, Q.qIf, Q.chI, Q.tTupQ, Q.dNil, Q.dCons, Q.tLstQ, Q.tFz, Q.tCA, Q.lenD, Q.tupD, Q.isD, Q.isInt, Q.isBool, Q.isTup, Q.isStr, Q.tLenN, Q.tIxN, Q.setQ, Q.aNil, Q.aD, Q.aK, Q.tCallQ, Q.tCallKQ, Q.pick, Q.sNil, Q.sSeq, Q.sRet, Q.sExpr, Q.sIf, Q.sSet, Q.sSetL, Q.sAsg, Q.sFor, Q.sPar2, Q.sPar3, Q.pNil, Q.pD, Q.pO, Q.gN, Q.gT, Q.gsNil, Q.gsCons, Q.iQ, Q.itD, Q.iEn, Q.itE, Q.rg1, Q.oSome, Q.tSlQ, Q.revD, Q.tOwnM, Q.appC, Q.popC, Q.extC, Q.ownL, Q.tRepL, Q.repC, Q.sSetIx, Q.ixOwn, Q.tLcQ, Q.noOwn, Q.rstQ, Q.wipeQ, Q.sDn, Q.sSetD, Q.tDgetN, Q.dOwn, Q.sNever, Q.isB, Q.listD, Q.listC, Q.reprD, Q.Sl.isOwn, Q.sAugIx, Q.setQ, Q.tLcM, Q.augC, Q.keyD, Q.rg3, List.map_cons, List.map_nil, List.replicate_succ, List.replicate_zero, List.cons_append, List.nil_append, List.append_nil, List.getElem?_cons_zero, List.getElem?_cons_succ, List.set_cons_zero, List.set_cons_succ, List.getD_cons_zero, List.getD_cons_succ, List.filterMap_cons, List.filterMap_nil, List.all_cons, List.all_nil, Bool.and_true, Bool.true_and, Bool.not_true, Bool.not_false, Bool.not_eq_true, Bool.false_eq_true, Bool.and_self, if_true, if_false, true_and, and_true, ↓reduceIte, eqD, neD, sh_int, eqv_int, eqv_strs, sDraw, List.length_cons, List.length_nil, Nat.zero_add, Nat.reduceAdd, decide_true, eq_self, ixD]
    refine ⟨_, at_pl q1 q2, ?_⟩
    simp only [Q.isDc, Q.sPar2K, Q.tDisp2, Q.tIxK, Q.sSetIxK, Q.tVd, Q.tGetK, Q.iKeysQ, Q.tDispK, Q.tVals, Q.tAddL, Q.sSetM, Q.sAl2, Q.tAlApp2, Q.sFrz2, Q.iZipM, Q.itZm, Q.tLcM, Q.addF, Q.isN, Q.mulF, Q.bandI, Q.iZip, Q.itZ, Q.slD, Q.enOf, Q.tV, Q.tK, Q.t2, Q.t1, Q.tB, Q.cI, Q.cIp, Q.subI, Q.fdivI, Q.fdivW, Q.modI, Q.ltI, Q.leI, Q.gtI, Q.geI, Q.negI, Q.vAnd, Q.vNot, Q.qAnd, Q.qOr, Q.qNot, Q.qIf, Q.chI, Q.tTupQ, Q.dNil, Q.dCons, Q.tLstQ, Q.tFz, Q.tCA, Q.lenD, Q.tupD, Q.isD, Q.isInt, Q.isBool, Q.isTup, Q.isStr, Q.tLenN, Q.tIxN, Q.setQ, Q.aNil, Q.aD, Q.aK, Q.tCallQ, Q.tCallKQ, Q.pick, Q.sNil, Q.sSeq, Q.sRet, Q.sExpr, Q.sIf, Q.sSet, Q.sSetL, Q.sAsg, Q.sFor, Q.sPar2, Q.sPar3, Q.pNil, Q.pD, Q.pO, Q.gN, Q.gT, Q.gsNil, Q.gsCons, Q.iQ, Q.itD, Q.iEn, Q.itE, Q.rg1, Q.oSome, Q.tSlQ, Q.revD, Q.tOwnM, Q.appC, Q.popC, Q.extC, Q.ownL, Q.tRepL, Q.repC, Q.sSetIx, Q.ixOwn, Q.tLcQ, Q.noOwn, Q.rstQ, Q.wipeQ, Q.sDn, Q.sSetD, Q.tDgetN, Q.dOwn, Q.sNever, Q.isB, Q.listD, Q.listC, Q.reprD, Q.Sl.isOwn, Q.sAugIx, Q.setQ, Q.tLcM, Q.augC, Q.keyD, Q.rg3, List.map_cons, List.map_nil, List.replicate_succ, List.replicate_zero, List.cons_append, List.nil_append, List.append_nil, List.getElem?_cons_zero, List.getElem?_cons_succ, List.set_cons_zero, List.set_cons_succ, List.getD_cons_zero, List.getD_cons_succ, List.filterMap_cons, List.filterMap_nil, List.all_cons, List.all_nil, Bool.and_true, Bool.true_and, Bool.not_true, Bool.not_false, Bool.not_eq_true, Bool.false_eq_true, Bool.and_self, if_true, if_false, true_and, and_true, ↓reduceIte, eqD, neD, sh_int, eqv_int, eqv_strs, sDraw, List.length_cons, List.length_nil, Nat.zero_add, Nat.reduceAdd, decide_true, eq_self, sh_pl, sh_pile, eqv_pile]
    cases e2 : d.getD p.toNat false with
    | true => exact hk _ e2 (by simp only [Q.isDc, Q.sPar2K, Q.tDisp2, Q.tIxK, Q.sSetIxK, Q.tVd, Q.tGetK, Q.iKeysQ, Q.tDispK, Q.tVals, Q.tAddL, Q.sSetM, Q.sAl2, Q.tAlApp2, Q.sFrz2, Q.iZipM, Q.itZm, Q.tLcM, Q.addF, Q.isN, Q.mulF, Q.bandI, Q.iZip, Q.itZ, Q.slD, Q.enOf, Q.tV, Q.tK, Q.t2, Q.t1, Q.tB, Q.cI, Q.cIp, Q.subI, Q.fdivI, Q.fdivW, Q.modI, Q.ltI, Q.leI, Q.gtI, Q.geI, Q.negI, Q.vAnd, Q.vNot, Q.qAnd, Q.qOr, Q.qNot, Q.qIf, Q.chI, Q.tTupQ, Q.dNil, Q.dCons, Q.tLstQ, Q.tFz, Q.tCA, Q.lenD, Q.tupD, Q.isD, Q.isInt, Q.isBool, Q.isTup, Q.isStr, Q.tLenN, Q.tIxN, Q.setQ, Q.aNil, Q.aD, Q.aK, Q.tCallQ, Q.tCallKQ, Q.pick, Q.sNil, Q.sSeq, Q.sRet, Q.sExpr, Q.sIf, Q.sSet, Q.sSetL, Q.sAsg, Q.sFor, Q.sPar2, Q.sPar3, Q.pNil, Q.pD, Q.pO, Q.gN, Q.gT, Q.gsNil, Q.gsCons, Q.iQ, Q.itD, Q.iEn, Q.itE, Q.rg1, Q.oSome, Q.tSlQ, Q.revD, Q.tOwnM, Q.appC, Q.popC, Q.extC, Q.ownL, Q.tRepL, Q.repC, Q.sSetIx, Q.ixOwn, Q.tLcQ, Q.noOwn, Q.rstQ, Q.wipeQ, Q.sDn, Q.sSetD, Q.tDgetN, Q.dOwn, Q.sNever, Q.isB, Q.listD, Q.listC, Q.reprD, Q.Sl.isOwn, Q.sAugIx, Q.setQ, Q.tLcM, Q.augC, Q.keyD, Q.rg3, List.map_cons, List.map_nil, List.replicate_succ, List.replicate_zero, List.cons_append, List.nil_append, List.append_nil, List.getElem?_cons_zero, List.getElem?_cons_succ, List.set_cons_zero, List.set_cons_succ, List.getD_cons_zero, List.getD_cons_succ, List.filterMap_cons, List.filterMap_nil, List.all_cons, List.all_nil, Bool.and_true, Bool.true_and, Bool.not_true, Bool.not_false, Bool.not_eq_true, Bool.false_eq_true, Bool.and_self, if_true, if_false, true_and, and_true, ↓reduceIte, eqD, neD, sh_int, eqv_int, eqv_strs, sDraw, List.length_cons, List.length_nil, Nat.zero_add, Nat.reduceAdd, decide_true, eq_self])
    | false => exact hf _ e2 (by simp only [Q.isDc, Q.sPar2K, Q.tDisp2, Q.tIxK, Q.sSetIxK, Q.tVd, Q.tGetK, Q.iKeysQ, Q.tDispK, Q.tVals, Q.tAddL, Q.sSetM, Q.sAl2, Q.tAlApp2, Q.sFrz2, Q.iZipM, Q.itZm, Q.tLcM, Q.addF, Q.isN, Q.mulF, Q.bandI, Q.iZip, Q.itZ, Q.slD, Q.enOf, Q.tV, Q.tK, Q.t2, Q.t1, Q.tB, Q.cI, Q.cIp, Q.subI, Q.fdivI, Q.fdivW, Q.modI, Q.ltI, Q.leI, Q.gtI, Q.geI, Q.negI, Q.vAnd, Q.vNot, Q.qAnd, Q.qOr, Q.qNot, Q.qIf, Q.chI, Q.tTupQ, Q.dNil, Q.dCons, Q.tLstQ, Q.tFz, Q.tCA, Q.lenD, Q.tupD, Q.isD, Q.isInt, Q.isBool, Q.isTup, Q.isStr, Q.tLenN, Q.tIxN, Q.setQ, Q.aNil, Q.aD, Q.aK, Q.tCallQ, Q.tCallKQ, Q.pick, Q.sNil, Q.sSeq, Q.sRet, Q.sExpr, Q.sIf, Q.sSet, Q.sSetL, Q.sAsg, Q.sFor, Q.sPar2, Q.sPar3, Q.pNil, Q.pD, Q.pO, Q.gN, Q.gT, Q.gsNil, Q.gsCons, Q.iQ, Q.itD, Q.iEn, Q.itE, Q.rg1, Q.oSome, Q.tSlQ, Q.revD, Q.tOwnM, Q.appC, Q.popC, Q.extC, Q.ownL, Q.tRepL, Q.repC, Q.sSetIx, Q.ixOwn, Q.tLcQ, Q.noOwn, Q.rstQ, Q.wipeQ, Q.sDn, Q.sSetD, Q.tDgetN, Q.dOwn, Q.sNever, Q.isB, Q.listD, Q.listC, Q.reprD, Q.Sl.isOwn, Q.sAugIx, Q.setQ, Q.tLcM, Q.augC, Q.keyD, Q.rg3, List.map_cons, List.map_nil, List.replicate_succ, List.replicate_zero, List.cons_append, List.nil_append, List.append_nil, List.getElem?_cons_zero, List.getElem?_cons_succ, List.set_cons_zero, List.set_cons_succ, List.getD_cons_zero, List.getD_cons_succ, List.filterMap_cons, List.filterMap_nil, List.all_cons, List.all_nil, Bool.and_true, Bool.true_and, Bool.not_true, Bool.not_false, Bool.not_eq_true, Bool.false_eq_true, Bool.and_self, if_true, if_false, true_and, and_true, ↓reduceIte, eqD, neD, sh_int, eqv_int, eqv_strs, sDraw, List.length_cons, List.length_nil, Nat.zero_add, Nat.reduceAdd, decide_true, eq_self])
  · simp only [Q.isDc, Q.sPar2K, Q.tDisp2, Q.tIxK, Q.sSetIxK, Q.tVd, Q.tGetK, Q.iKeysQ, Q.tDispK, Q.tVals, Q.tAddL, Q.sSetM, Q.sAl2, Q.tAlApp2, Q.sFrz2, Q.iZipM, Q.itZm, Q.tLcM, Q.addF, Q.isN, Q.mulF, Q.bandI, Q.iZip, Q.itZ, Q.slD, Q.enOf, Q.tV, Q.tK, Q.t2, Q.t1, Q.tB, Q.cI, Q.cIp, Q.subI, Q.fdivI, Q.fdivW, Q.modI, Q.ltI, Q.leI, Q.gtI, Q.geI, Q.negI, Q.vAnd, Q.vNot, Q.qAnd, Q.qOr, Q.qNot, Q.qIf, Q.chI, Q.tTupQ, Q.dNil, Q.dCons, Q.tLstQ, Q.tFz, Q.tCA, Q.lenD, Q.tupD, Q.isD, Q.isInt, Q.isBool, Q.isTup, Q.isStr, Q.tLenN, Q.tIxN, Q.setQ, Q.aNil, Q.aD, Q.aK, Q.tCallQ, Q.tCallKQ, Q.pick, Q.sNil, Q.sSeq, Q.sRet, Q.sExpr, Q.sIf, Q.sSet, Q.sSetL, Q.sAsg, Q.sFor, Q.sPar2, Q.sPar3, Q.pNil, Q.pD, Q.pO, Q.gN, Q.gT, Q.gsNil, Q.gsCons, Q.iQ, Q.itD, Q.iEn, Q.itE, Q.rg1, Q.oSome, Q.tSlQ, Q.revD, Q.tOwnM, Q.appC, Q.popC, Q.extC, Q.ownL, Q.tRepL, Q.repC, Q.sSetIx, Q.ixOwn, Q.tLcQ, Q.noOwn, Q.rstQ, Q.wipeQ, Q.sDn, Q.sSetD, Q.tDgetN, Q.dOwn, Q.sNever, Q.isB, Q.listD, Q.listC, Q.reprD, Q.Sl.isOwn, Q.sAugIx, Q.setQ, Q.tLcM, Q.augC, Q.keyD, Q.rg3, List.map_cons, List.map_nil, List.replicate_succ, List.replicate_zero, List.cons_append, List.nil_append, List.append_nil, List.getElem?_cons_zero, List.getElem?_cons_succ, List.set_cons_zero, List.set_cons_succ, List.getD_cons_zero, List.getD_cons_succ, List.filterMap_cons, List.filterMap_nil, List.all_cons, List.all_nil, Bool.and_true, Bool.true_and, Bool.not_true, Bool.not_false, Bool.not_eq_true, Bool.false_eq_true, Bool.and_self, if_true, if_false, true_and, and_true, ↓reduceIte, eqD, neD, sh_int, eqv_int, eqv_strs, sDraw, List.length_cons, List.length_nil, Nat.zero_add, Nat.reduceAdd, decide_true, eq_self, List.length_map, pile_count h1, band1]
    unfold sgn at h
    by_cases hp : piles ds c % 2 = 0
    · rw [if_pos hp] at h
      have e : decide (((piles ds c : Nat) : Int) % 2 = 0) = true := by simp; omega
      rw [e]
      simpa only [Q.isDc, Q.sPar2K, Q.tDisp2, Q.tIxK, Q.sSetIxK, Q.tVd, Q.tGetK, Q.iKeysQ, Q.tDispK, Q.tVals, Q.tAddL, Q.sSetM, Q.sAl2, Q.tAlApp2, Q.sFrz2, Q.iZipM, Q.itZm, Q.tLcM, Q.addF, Q.isN, Q.mulF, Q.bandI, Q.iZip, Q.itZ, Q.slD, Q.enOf, Q.tV, Q.tK, Q.t2, Q.t1, Q.tB, Q.cI, Q.cIp, Q.subI, Q.fdivI, Q.fdivW, Q.modI, Q.ltI, Q.leI, Q.gtI, Q.geI, Q.negI, Q.vAnd, Q.vNot, Q.qAnd, Q.qOr, Q.qNot, Q.qIf, Q.chI, Q.tTupQ, Q.dNil, Q.dCons, Q.tLstQ, Q.tFz, Q.tCA, Q.lenD, Q.tupD, Q.isD, Q.isInt, Q.isBool, Q.isTup, Q.isStr, Q.tLenN, Q.tIxN, Q.setQ, Q.aNil, Q.aD, Q.aK, Q.tCallQ, Q.tCallKQ, Q.pick, Q.sNil, Q.sSeq, Q.sRet, Q.sExpr, Q.sIf, Q.sSet, Q.sSetL, Q.sAsg, Q.sFor, Q.sPar2, Q.sPar3, Q.pNil, Q.pD, Q.pO, Q.gN, Q.gT, Q.gsNil, Q.gsCons, Q.iQ, Q.itD, Q.iEn, Q.itE, Q.rg1, Q.oSome, Q.tSlQ, Q.revD, Q.tOwnM, Q.appC, Q.popC, Q.extC, Q.ownL, Q.tRepL, Q.repC, Q.sSetIx, Q.ixOwn, Q.tLcQ, Q.noOwn, Q.rstQ, Q.wipeQ, Q.sDn, Q.sSetD, Q.tDgetN, Q.dOwn, Q.sNever, Q.isB, Q.listD, Q.listC, Q.reprD, Q.Sl.isOwn, Q.sAugIx, Q.setQ, Q.tLcM, Q.augC, Q.keyD, Q.rg3, List.map_cons, List.map_nil, List.replicate_succ, List.replicate_zero, List.cons_append, List.nil_append, List.append_nil, List.getElem?_cons_zero, List.getElem?_cons_succ, List.set_cons_zero, List.set_cons_succ, List.getD_cons_zero, List.getD_cons_succ, List.filterMap_cons, List.filterMap_nil, List.all_cons, List.all_nil, Bool.and_true, Bool.true_and, Bool.not_true, Bool.not_false, Bool.not_eq_true, Bool.false_eq_true, Bool.and_self, if_true, if_false, true_and, and_true, ↓reduceIte, eqD, neD, sh_int, eqv_int, eqv_strs, sDraw, List.length_cons, List.length_nil, Nat.zero_add, Nat.reduceAdd, decide_true, eq_self] using h
    · rw [if_neg hp] at h
      have e : decide (((piles ds c : Nat) : Int) % 2 = 0) = false := by simp; omega
      rw [e]
      simpa only [Q.isDc, Q.sPar2K, Q.tDisp2, Q.tIxK, Q.sSetIxK, Q.tVd, Q.tGetK, Q.iKeysQ, Q.tDispK, Q.tVals, Q.tAddL, Q.sSetM, Q.sAl2, Q.tAlApp2, Q.sFrz2, Q.iZipM, Q.itZm, Q.tLcM, Q.addF, Q.isN, Q.mulF, Q.bandI, Q.iZip, Q.itZ, Q.slD, Q.enOf, Q.tV, Q.tK, Q.t2, Q.t1, Q.tB, Q.cI, Q.cIp, Q.subI, Q.fdivI, Q.fdivW, Q.modI, Q.ltI, Q.leI, Q.gtI, Q.geI, Q.negI, Q.vAnd, Q.vNot, Q.qAnd, Q.qOr, Q.qNot, Q.qIf, Q.chI, Q.tTupQ, Q.dNil, Q.dCons, Q.tLstQ, Q.tFz, Q.tCA, Q.lenD, Q.tupD, Q.isD, Q.isInt, Q.isBool, Q.isTup, Q.isStr, Q.tLenN, Q.tIxN, Q.setQ, Q.aNil, Q.aD, Q.aK, Q.tCallQ, Q.tCallKQ, Q.pick, Q.sNil, Q.sSeq, Q.sRet, Q.sExpr, Q.sIf, Q.sSet, Q.sSetL, Q.sAsg, Q.sFor, Q.sPar2, Q.sPar3, Q.pNil, Q.pD, Q.pO, Q.gN, Q.gT, Q.gsNil, Q.gsCons, Q.iQ, Q.itD, Q.iEn, Q.itE, Q.rg1, Q.oSome, Q.tSlQ, Q.revD, Q.tOwnM, Q.appC, Q.popC, Q.extC, Q.ownL, Q.tRepL, Q.repC, Q.sSetIx, Q.ixOwn, Q.tLcQ, Q.noOwn, Q.rstQ, Q.wipeQ, Q.sDn, Q.sSetD, Q.tDgetN, Q.dOwn, Q.sNever, Q.isB, Q.listD, Q.listC, Q.reprD, Q.Sl.isOwn, Q.sAugIx, Q.setQ, Q.tLcM, Q.augC, Q.keyD, Q.rg3, List.map_cons, List.map_nil, List.replicate_succ, List.replicate_zero, List.cons_append, List.nil_append, List.append_nil, List.getElem?_cons_zero, List.getElem?_cons_succ, List.set_cons_zero, List.set_cons_succ, List.getD_cons_zero, List.getD_cons_succ, List.filterMap_cons, List.filterMap_nil, List.all_cons, List.all_nil, Bool.and_true, Bool.true_and, Bool.not_true, Bool.not_false, Bool.not_eq_true, Bool.false_eq_true, Bool.and_self, if_true, if_false, true_and, and_true, ↓reduceIte, eqD, neD, sh_int, eqv_int, eqv_strs, sDraw, List.length_cons, List.length_nil, Nat.zero_add, Nat.reduceAdd, decide_true, eq_self] using h
theorem OkR.drop : ∀ {ds : List Desk} {c : List Int} (k : Nat), OkR ds c → OkR (ds.drop k) (c.drop k)
  | _, _, 0, h => h
  | [], [], _ + 1, _ => True.intro
  | _ :: _, _ :: _, k + 1, h => OkR.drop k h.2
  | [], _ :: _, _, h => h.elim
  | _ :: _, [], _, h => h.elim
theorem OkR.put {z : Int} : ∀ {ds : List Desk} {c : List Int} (k : Nat), OkR ds c → k < ds.length → 0 ≤ z → z < (ds.getD k []).length → OkR ds (c.take k ++ [z] ++ c.drop (k + 1))
  | _ :: _, _ :: _, 0, h, _, h1, h2 => ⟨⟨h1, h2⟩, h.2⟩
  | _ :: _, _ :: _, k + 1, h, hk, h1, h2 => ⟨h.1, OkR.put k h.2 (by simpa using hk) h1 h2⟩
  | [], _, _, _, hk, _, _ => by simp at hk
  | _ :: _, [], _, h, _, _, _ => h.elim
def lotD (p : List Int × Int) : PyData := .tuple [tupI p.1, .int p.2]
theorem ThrowOk.small {th : Thr} (h : ThrowOk th) : th.length ≤ 8 := by
  have : ∀ t : Thr, (∀ p, p ∈ t → p.1 ≠ []) → t.length ≤ (kinds t).length := by
    intro t
    induction t with
    | nil => intro; simp
    | cons p t ih =>
      intro hp
      have e : kinds (p :: t) = p.1 ++ kinds t := by simp [kinds]
      have := ih fun q hq => hp q (by simp [hq])
      have := List.length_pos_iff.mpr (hp p (by simp))
      rw [e, List.length_append, List.length_cons]
      omega
  exact Nat.le_trans (this th fun p hp => (h.lots p hp).ne) h.few
theorem signs {ls : List (List Int)} : ∀ {outs : List PyData}, F2 (fun x y => ∃ sg : Int, (sg = 1 ∨ sg = -1) ∧ y = .tuple [x, .int sg]) (ls.map tupI) outs → ∃ th : Thr, outs = th.map lotD ∧ th.map (·.1) = ls ∧ ∀ p, p ∈ th → p.2 = 1 ∨ p.2 = -1 := by
  induction ls with
  | nil => intro outs h; cases h; exact ⟨[], rfl, rfl, by simp⟩
  | cons l ls ih =>
    intro outs h
    cases h with
    | cons h t =>
      obtain ⟨sg, hs, rfl⟩ := h
      obtain ⟨th, rfl, h2, h3⟩ := ih t
      exact ⟨(l, sg) :: th, rfl, by simp [h2], fun p hp => by
        rcases List.mem_cons.mp hp with rfl | hp
        · exact hs
        · exact h3 p hp⟩
end T44
end P55
section P56
open PySem PySem.Spec PyProof.Rows L2 HT Q
namespace T44
def wdT (ds : List Desk) (t : Nat) : List Desk := (ds.take t).reverse
theorem wdT_succ {ds : List Desk} {t : Nat} (h : t < ds.length) : wdT ds (t + 1) = ds[t] :: wdT ds t := by
  unfold wdT
  rw [List.take_add_one, List.getElem?_eq_getElem h]; simp
theorem wdT_ok {ds : List Desk} (h : DsOk ds) (t : Nat) : DsOk (wdT ds t) := fun d hd => h d (List.mem_of_mem_take (List.mem_reverse.mp hd))
theorem wdT_len (ds : List Desk) (t : Nat) : (wdT ds t).length ≤ t := by unfold wdT; rw [List.length_reverse, List.length_take]; omega
theorem wdT_all (ds : List Desk) : wdT ds ds.length = ds.reverse := by unfold wdT; rw [List.take_length]
def cut_s2 : TQS := (sRet (tV 1))
def cut_s1b_s2 : TQS := (sIf (qAnd (tB (t2 leI (tV 2) (tK (.int 8)))) (tB (t2 leI (tV 3) (tK (.int 17))))) (sExpr (tOwnM 1 appC (dCons (tV 5) dNil))) sNil)
def cut_s1b_s1 : TQS := (sSeq (sSet 2 (t2 addF (tV 2) (tK (.int 1)))) cut_s1b_s2)
def cut_s1b : TQS := (sSeq (sIf (qOr (tB (t2 eqD (tV 4) (tK (.int 0)))) (tB (t2 neD (tIxN 0 (t2 subI (tV 4) (tK (.int 1)))) (tV 5)))) (sPar2 2 3 (pD (tK (.int 0)) (pD (t2 addF (tV 3) (tK (.int 1))) pNil))) sNil) cut_s1b_s1)
def cut_s1 : TQS := (sSeq (sFor (iEn (tV 0)) (gT 2 (gsCons (gN 4) (gsCons (gN 5) gsNil))) cut_s1b) cut_s2)
theorem cut_m : ∀ (o : Option Int) (k c : Nat) (w : List Int), (cutF o k c w).length ≤ if c ≤ 17 then 8 * (17 - c) + (8 - k) else 0
  | _, _, _, [] => by simp [cutF]
  | o, k, c, x :: w => by
    have ih := cut_m (some x) (nkF o x k + 1) (ncF o x c) w
    have hc : (nkF o x k = k ∧ ncF o x c = c) ∨ (nkF o x k = 0 ∧ ncF o x c = c + 1) := by
      by_cases q : o = some x
      · exact .inl ⟨if_pos q, if_pos q⟩
      · exact .inr ⟨if_neg q, if_neg q⟩
    unfold cutF
    split at ih <;> split <;> split <;> (try simp only [List.length_cons]) <;> omega
theorem cut_len (w : List Int) : (cutF none 0 0 w).length ≤ 144 := cut_m none 0 0 w
theorem at_i {l : List Int} {j : Nat} (h : j < l.length) : atI (l.map PyData.int) (j : Int) = some (.int l[j]) := atI_nat (by rw [List.getElem?_map, List.getElem?_eq_getElem h]; rfl)
def sp__law_cut : PSpec := fun as R => ∃ w : List Int, as = [.d (.list (w.map .int))] ∧ w.length ≤ 1000 ∧ R (.list ((cutF none 0 0 w).map .int))
theorem len__law_cut : ∀ as R, sp__law_cut as R → as.length = 1 := by rintro as R ⟨w, rfl, _⟩; rfl
def lastO (w : List Int) (i : Nat) : Option Int := if i = 0 then none else w[i - 1]?
theorem cut_loop {R : PyData → Prop} {w : List Int} (hw : w.length ≤ 1000) : ∀ (r : List Int) (i k c : Nat) (acc : List Int) (s4 s5 : Sl), r = w.drop i → i ≤ w.length → acc.length ≤ i → R (.list ((acc ++ cutF (lastO w i) k c r).map .int)) →
    forQ (gT 2 (gsCons (gN 4) (gsCons (gN 5) gsNil))) cut_s1b { nx := cut_s2 { nx := fun _ => R .none, rt := R }, rt := R } (enumFrom i (r.map .int)) [.d (.list (w.map .int)), .own (acc.map .int), .d (.int (k : Int)), .d (.int (c : Int)), s4, s5]
  | [], i, k, c, acc, s4, s5, hr, hi, ha, h => by
    simp only [forQ, List.map_nil, enumFrom, cut_s2, Q.isDc, Q.sPar2K, Q.tDisp2, Q.tIxK, Q.sSetIxK, Q.tVd, Q.tGetK, Q.iKeysQ, Q.tDispK, Q.tVals, Q.tAddL, Q.sSetM, Q.sAl2, Q.tAlApp2, Q.sFrz2, Q.iZipM, Q.itZm, Q.tLcM, Q.addF, Q.isN, Q.mulF, Q.bandI, Q.iZip, Q.itZ, Q.slD, Q.enOf, Q.tV, Q.tK, Q.t2, Q.t1, Q.tB, Q.cI, Q.cIp, Q.subI, Q.fdivI, Q.fdivW, Q.modI, Q.ltI, Q.leI, Q.gtI, Q.geI, Q.negI, Q.vAnd, Q.vNot, Q.qAnd, Q.qOr, Q.qNot, Q.qIf, Q.chI, Q.tTupQ, Q.dNil, Q.dCons, Q.tLstQ, Q.tFz, Q.tCA, Q.lenD, Q.tupD, Q.isD, Q.isInt, Q.isBool, Q.isTup, Q.isStr, Q.tLenN, Q.tIxN, Q.setQ, Q.aNil, Q.aD, Q.aK, Q.tCallQ, Q.tCallKQ, Q.pick, Q.sNil, Q.sSeq, Q.sRet, Q.sExpr, Q.sIf, Q.sSet, Q.sSetL, Q.sAsg, Q.sFor, Q.sPar2, Q.sPar3, Q.pNil, Q.pD, Q.pO, Q.gN, Q.gT, Q.gsNil, Q.gsCons, Q.iQ, Q.itD, Q.iEn, Q.itE, Q.rg1, Q.oSome, Q.tSlQ, Q.revD, Q.tOwnM, Q.appC, Q.popC, Q.extC, Q.ownL, Q.tRepL, Q.repC, Q.sSetIx, Q.ixOwn, Q.tLcQ, Q.noOwn, Q.rstQ, Q.wipeQ, Q.sDn, Q.sSetD, Q.tDgetN, Q.dOwn, Q.sNever, Q.isB, Q.listD, Q.listC, Q.reprD, Q.Sl.isOwn, Q.sAugIx, Q.setQ, Q.tLcM, Q.augC, Q.keyD, Q.rg3, List.map_cons, List.map_nil, List.replicate_succ, List.replicate_zero, List.cons_append, List.nil_append, List.append_nil, List.getElem?_cons_zero, List.getElem?_cons_succ, List.set_cons_zero, List.set_cons_succ, List.getD_cons_zero, List.getD_cons_succ, List.filterMap_cons, List.filterMap_nil, List.all_cons, List.all_nil, Bool.and_true, Bool.true_and, Bool.not_true, Bool.not_false, Bool.not_eq_true, Bool.false_eq_true, Bool.and_self, if_true, if_false, true_and, and_true, ↓reduceIte, eqD, neD, sh_int, eqv_int, eqv_strs, sDraw, List.length_cons, List.length_nil, Nat.zero_add, Nat.reduceAdd, decide_true, eq_self]
    simpa [cutF] using h
  | x :: r, i, k, c, acc, s4, s5, hr, hi, ha, h => by
    have lt : i < w.length := by
      have := congrArg List.length hr
      simp at this; omega
    have ed : w[i] = x ∧ r = w.drop (i + 1) := by
      rw [List.drop_eq_getElem_cons lt] at hr
      injection hr with a b
      exact ⟨a.symm, b⟩
    have lo : lastO w (i + 1) = some x := by
      unfold lastO
      rw [if_neg (by omega), Nat.add_sub_cancel, List.getElem?_eq_getElem lt, ed.1]
    have mid : ∀ s4 : Sl, cut_s1b_s1 (EndsQ.mk (forQ (gT 2 (gsCons (gN 4) (gsCons (gN 5) gsNil))) cut_s1b { nx := cut_s2 { nx := fun _ => R .none, rt := R }, rt := R } (enumFrom (i + 1) (r.map .int))) R (cut_s2 { nx := fun _ => R .none, rt := R }) (forQ (gT 2 (gsCons (gN 4) (gsCons (gN 5) gsNil))) cut_s1b { nx := cut_s2 { nx := fun _ => R .none, rt := R }, rt := R } (enumFrom (i + 1) (r.map .int))))
        [.d (.list (w.map .int)), .own (acc.map .int), .d (.int (nkF (lastO w i) x k : Nat)), .d (.int (ncF (lastO w i) x c : Nat)), s4, .d (.int x)] := fun s4 => by
      simp only [cut_s1b_s1, cut_s1b_s2, Q.isDc, Q.sPar2K, Q.tDisp2, Q.tIxK, Q.sSetIxK, Q.tVd, Q.tGetK, Q.iKeysQ, Q.tDispK, Q.tVals, Q.tAddL, Q.sSetM, Q.sAl2, Q.tAlApp2, Q.sFrz2, Q.iZipM, Q.itZm, Q.tLcM, Q.addF, Q.isN, Q.mulF, Q.bandI, Q.iZip, Q.itZ, Q.slD, Q.enOf, Q.tV, Q.tK, Q.t2, Q.t1, Q.tB, Q.cI, Q.cIp, Q.subI, Q.fdivI, Q.fdivW, Q.modI, Q.ltI, Q.leI, Q.gtI, Q.geI, Q.negI, Q.vAnd, Q.vNot, Q.qAnd, Q.qOr, Q.qNot, Q.qIf, Q.chI, Q.tTupQ, Q.dNil, Q.dCons, Q.tLstQ, Q.tFz, Q.tCA, Q.lenD, Q.tupD, Q.isD, Q.isInt, Q.isBool, Q.isTup, Q.isStr, Q.tLenN, Q.tIxN, Q.setQ, Q.aNil, Q.aD, Q.aK, Q.tCallQ, Q.tCallKQ, Q.pick, Q.sNil, Q.sSeq, Q.sRet, Q.sExpr, Q.sIf, Q.sSet, Q.sSetL, Q.sAsg, Q.sFor, Q.sPar2, Q.sPar3, Q.pNil, Q.pD, Q.pO, Q.gN, Q.gT, Q.gsNil, Q.gsCons, Q.iQ, Q.itD, Q.iEn, Q.itE, Q.rg1, Q.oSome, Q.tSlQ, Q.revD, Q.tOwnM, Q.appC, Q.popC, Q.extC, Q.ownL, Q.tRepL, Q.repC, Q.sSetIx, Q.ixOwn, Q.tLcQ, Q.noOwn, Q.rstQ, Q.wipeQ, Q.sDn, Q.sSetD, Q.tDgetN, Q.dOwn, Q.sNever, Q.isB, Q.listD, Q.listC, Q.reprD, Q.Sl.isOwn, Q.sAugIx, Q.setQ, Q.tLcM, Q.augC, Q.keyD, Q.rg3, List.map_cons, List.map_nil, List.replicate_succ, List.replicate_zero, List.cons_append, List.nil_append, List.append_nil, List.getElem?_cons_zero, List.getElem?_cons_succ, List.set_cons_zero, List.set_cons_succ, List.getD_cons_zero, List.getD_cons_succ, List.filterMap_cons, List.filterMap_nil, List.all_cons, List.all_nil, Bool.and_true, Bool.true_and, Bool.not_true, Bool.not_false, Bool.not_eq_true, Bool.false_eq_true, Bool.and_self, if_true, if_false, true_and, and_true, ↓reduceIte, eqD, neD, sh_int, eqv_int, eqv_strs, sDraw, List.length_cons, List.length_nil, Nat.zero_add, Nat.reduceAdd, decide_true, eq_self]
      unfold cutF at h
      by_cases q1 : nkF (lastO w i) x k + 1 ≤ 8
      · rw [if_pos (decide_eq_true (by omega))]
        by_cases q2 : ncF (lastO w i) x c ≤ 17
        · rw [if_pos (decide_eq_true (by omega))]
          rw [if_pos ⟨q1, q2⟩] at h
          refine ⟨by rw [List.length_map]; omega, ?_⟩
          have ea : acc.map PyData.int ++ [.int x] = (acc ++ [x]).map PyData.int := by simp
          rw [ea]
          exact cut_loop hw r (i + 1) (nkF (lastO w i) x k + 1) (ncF (lastO w i) x c) (acc ++ [x]) _ _ ed.2 (by omega) (by simp; omega) (by rw [lo]; simpa using h)
        · rw [if_neg (by simp; omega)]
          rw [if_neg (fun z => q2 z.2)] at h
          exact cut_loop hw r (i + 1) (nkF (lastO w i) x k + 1) (ncF (lastO w i) x c) acc _ _ ed.2 (by omega) (by omega) (by rw [lo]; exact h)
      · rw [if_neg (by simp; omega)]
        rw [if_neg (fun z => q1 z.1)] at h
        exact cut_loop hw r (i + 1) (nkF (lastO w i) x k + 1) (ncF (lastO w i) x c) acc _ _ ed.2 (by omega) (by omega) (by rw [lo]; exact h)
    simp only [forQ, List.map_cons, enumFrom, Q.isDc, Q.sPar2K, Q.tDisp2, Q.tIxK, Q.sSetIxK, Q.tVd, Q.tGetK, Q.iKeysQ, Q.tDispK, Q.tVals, Q.tAddL, Q.sSetM, Q.sAl2, Q.tAlApp2, Q.sFrz2, Q.iZipM, Q.itZm, Q.tLcM, Q.addF, Q.isN, Q.mulF, Q.bandI, Q.iZip, Q.itZ, Q.slD, Q.enOf, Q.tV, Q.tK, Q.t2, Q.t1, Q.tB, Q.cI, Q.cIp, Q.subI, Q.fdivI, Q.fdivW, Q.modI, Q.ltI, Q.leI, Q.gtI, Q.geI, Q.negI, Q.vAnd, Q.vNot, Q.qAnd, Q.qOr, Q.qNot, Q.qIf, Q.chI, Q.tTupQ, Q.dNil, Q.dCons, Q.tLstQ, Q.tFz, Q.tCA, Q.lenD, Q.tupD, Q.isD, Q.isInt, Q.isBool, Q.isTup, Q.isStr, Q.tLenN, Q.tIxN, Q.setQ, Q.aNil, Q.aD, Q.aK, Q.tCallQ, Q.tCallKQ, Q.pick, Q.sNil, Q.sSeq, Q.sRet, Q.sExpr, Q.sIf, Q.sSet, Q.sSetL, Q.sAsg, Q.sFor, Q.sPar2, Q.sPar3, Q.pNil, Q.pD, Q.pO, Q.gN, Q.gT, Q.gsNil, Q.gsCons, Q.iQ, Q.itD, Q.iEn, Q.itE, Q.rg1, Q.oSome, Q.tSlQ, Q.revD, Q.tOwnM, Q.appC, Q.popC, Q.extC, Q.ownL, Q.tRepL, Q.repC, Q.sSetIx, Q.ixOwn, Q.tLcQ, Q.noOwn, Q.rstQ, Q.wipeQ, Q.sDn, Q.sSetD, Q.tDgetN, Q.dOwn, Q.sNever, Q.isB, Q.listD, Q.listC, Q.reprD, Q.Sl.isOwn, Q.sAugIx, Q.setQ, Q.tLcM, Q.augC, Q.keyD, Q.rg3, List.map_cons, List.map_nil, List.replicate_succ, List.replicate_zero, List.cons_append, List.nil_append, List.append_nil, List.getElem?_cons_zero, List.getElem?_cons_succ, List.set_cons_zero, List.set_cons_succ, List.getD_cons_zero, List.getD_cons_succ, List.filterMap_cons, List.filterMap_nil, List.all_cons, List.all_nil, Bool.and_true, Bool.true_and, Bool.not_true, Bool.not_false, Bool.not_eq_true, Bool.false_eq_true, Bool.and_self, if_true, if_false, true_and, and_true, ↓reduceIte, eqD, neD, sh_int, eqv_int, eqv_strs, sDraw, List.length_cons, List.length_nil, Nat.zero_add, Nat.reduceAdd, decide_true, eq_self]
    show sSeq _ cut_s1b_s1 _ _
    simp only [Q.isDc, Q.sPar2K, Q.tDisp2, Q.tIxK, Q.sSetIxK, Q.tVd, Q.tGetK, Q.iKeysQ, Q.tDispK, Q.tVals, Q.tAddL, Q.sSetM, Q.sAl2, Q.tAlApp2, Q.sFrz2, Q.iZipM, Q.itZm, Q.tLcM, Q.addF, Q.isN, Q.mulF, Q.bandI, Q.iZip, Q.itZ, Q.slD, Q.enOf, Q.tV, Q.tK, Q.t2, Q.t1, Q.tB, Q.cI, Q.cIp, Q.subI, Q.fdivI, Q.fdivW, Q.modI, Q.ltI, Q.leI, Q.gtI, Q.geI, Q.negI, Q.vAnd, Q.vNot, Q.qAnd, Q.qOr, Q.qNot, Q.qIf, Q.chI, Q.tTupQ, Q.dNil, Q.dCons, Q.tLstQ, Q.tFz, Q.tCA, Q.lenD, Q.tupD, Q.isD, Q.isInt, Q.isBool, Q.isTup, Q.isStr, Q.tLenN, Q.tIxN, Q.setQ, Q.aNil, Q.aD, Q.aK, Q.tCallQ, Q.tCallKQ, Q.pick, Q.sNil, Q.sSeq, Q.sRet, Q.sExpr, Q.sIf, Q.sSet, Q.sSetL, Q.sAsg, Q.sFor, Q.sPar2, Q.sPar3, Q.pNil, Q.pD, Q.pO, Q.gN, Q.gT, Q.gsNil, Q.gsCons, Q.iQ, Q.itD, Q.iEn, Q.itE, Q.rg1, Q.oSome, Q.tSlQ, Q.revD, Q.tOwnM, Q.appC, Q.popC, Q.extC, Q.ownL, Q.tRepL, Q.repC, Q.sSetIx, Q.ixOwn, Q.tLcQ, Q.noOwn, Q.rstQ, Q.wipeQ, Q.sDn, Q.sSetD, Q.tDgetN, Q.dOwn, Q.sNever, Q.isB, Q.listD, Q.listC, Q.reprD, Q.Sl.isOwn, Q.sAugIx, Q.setQ, Q.tLcM, Q.augC, Q.keyD, Q.rg3, List.map_cons, List.map_nil, List.replicate_succ, List.replicate_zero, List.cons_append, List.nil_append, List.append_nil, List.getElem?_cons_zero, List.getElem?_cons_succ, List.set_cons_zero, List.set_cons_succ, List.getD_cons_zero, List.getD_cons_succ, List.filterMap_cons, List.filterMap_nil, List.all_cons, List.all_nil, Bool.and_true, Bool.true_and, Bool.not_true, Bool.not_false, Bool.not_eq_true, Bool.false_eq_true, Bool.and_self, if_true, if_false, true_and, and_true, ↓reduceIte, eqD, neD, sh_int, eqv_int, eqv_strs, sDraw, List.length_cons, List.length_nil, Nat.zero_add, Nat.reduceAdd, decide_true, eq_self]
    have new : lastO w i ≠ some x → nkF (lastO w i) x k = 0 ∧ ncF (lastO w i) x c = c + 1 := fun z => ⟨if_neg z, if_neg z⟩
    have old : lastO w i = some x → nkF (lastO w i) x k = k ∧ ncF (lastO w i) x c = c := fun z => ⟨if_pos z, if_pos z⟩
    by_cases z : i = 0
    · rw [if_pos (decide_eq_true (by omega))]
      have n := new (by unfold lastO; rw [if_pos z]; exact fun y => nomatch y)
      have m := mid (.d (.int (i : Int)))
      rw [n.1, n.2] at m
      exact m
    · rw [if_neg (by simp; omega)]
      simp only [ixD]
      have lw : lastO w i = some (w[i - 1]'(by omega)) := by
        unfold lastO
        rw [if_neg z, List.getElem?_eq_getElem (by omega)]
      rw [show (i : Int) - 1 = ((i - 1 : Nat) : Int) by omega]
      refine ⟨_, at_i (l := w) (by omega), sh_int, ?_⟩
      rw [eqv_int]
      have m := mid (.d (.int (i : Int)))
      by_cases q : w[i - 1]'(by omega) = x
      · rw [if_neg (by simpa using q)]
        have n := old (by rw [lw, q])
        rw [n.1, n.2] at m
        exact m
      · rw [if_pos (by simpa using q)]
        have n := new (by rw [lw]; exact fun y => q (by injection y))
        rw [n.1, n.2] at m
        exact m
theorem rd__law_cut : ∀ as R, sp__law_cut as R → t__law_cut { nx := fun _ => R .none, rt := R } (enOf as 5) := by
  rintro as R ⟨w, rfl, hw, h⟩
  show sSeq _ cut_s1 _ _
  simp only [cut_s1, Q.isDc, Q.sPar2K, Q.tDisp2, Q.tIxK, Q.sSetIxK, Q.tVd, Q.tGetK, Q.iKeysQ, Q.tDispK, Q.tVals, Q.tAddL, Q.sSetM, Q.sAl2, Q.tAlApp2, Q.sFrz2, Q.iZipM, Q.itZm, Q.tLcM, Q.addF, Q.isN, Q.mulF, Q.bandI, Q.iZip, Q.itZ, Q.slD, Q.enOf, Q.tV, Q.tK, Q.t2, Q.t1, Q.tB, Q.cI, Q.cIp, Q.subI, Q.fdivI, Q.fdivW, Q.modI, Q.ltI, Q.leI, Q.gtI, Q.geI, Q.negI, Q.vAnd, Q.vNot, Q.qAnd, Q.qOr, Q.qNot, Q.qIf, Q.chI, Q.tTupQ, Q.dNil, Q.dCons, Q.tLstQ, Q.tFz, Q.tCA, Q.lenD, Q.tupD, Q.isD, Q.isInt, Q.isBool, Q.isTup, Q.isStr, Q.tLenN, Q.tIxN, Q.setQ, Q.aNil, Q.aD, Q.aK, Q.tCallQ, Q.tCallKQ, Q.pick, Q.sNil, Q.sSeq, Q.sRet, Q.sExpr, Q.sIf, Q.sSet, Q.sSetL, Q.sAsg, Q.sFor, Q.sPar2, Q.sPar3, Q.pNil, Q.pD, Q.pO, Q.gN, Q.gT, Q.gsNil, Q.gsCons, Q.iQ, Q.itD, Q.iEn, Q.itE, Q.rg1, Q.oSome, Q.tSlQ, Q.revD, Q.tOwnM, Q.appC, Q.popC, Q.extC, Q.ownL, Q.tRepL, Q.repC, Q.sSetIx, Q.ixOwn, Q.tLcQ, Q.noOwn, Q.rstQ, Q.wipeQ, Q.sDn, Q.sSetD, Q.tDgetN, Q.dOwn, Q.sNever, Q.isB, Q.listD, Q.listC, Q.reprD, Q.Sl.isOwn, Q.sAugIx, Q.setQ, Q.tLcM, Q.augC, Q.keyD, Q.rg3, List.map_cons, List.map_nil, List.replicate_succ, List.replicate_zero, List.cons_append, List.nil_append, List.append_nil, List.getElem?_cons_zero, List.getElem?_cons_succ, List.set_cons_zero, List.set_cons_succ, List.getD_cons_zero, List.getD_cons_succ, List.filterMap_cons, List.filterMap_nil, List.all_cons, List.all_nil, Bool.and_true, Bool.true_and, Bool.not_true, Bool.not_false, Bool.not_eq_true, Bool.false_eq_true, Bool.and_self, if_true, if_false, true_and, and_true, ↓reduceIte, eqD, neD, sh_int, eqv_int, eqv_strs, sDraw, List.length_cons, List.length_nil, Nat.zero_add, Nat.reduceAdd, decide_true, eq_self]
  exact ⟨by omega, cut_loop hw w 0 0 0 [] _ _ rfl (Nat.zero_le _) (Nat.zero_le _) h⟩
def short_word_s2 : TQS := (sRet (tV 1))
def short_word_s1b_s2 : TQS := (sSet 1 (tCallQ sp__law_cut (aD (tV 3) aNil)))
def short_word_s1b_s1b : TQS := (sExpr (tOwnM 3 extC (dCons (qIf (tB (t2 eqD (tV 4) (tK (.str "tray")))) (tV 1) (tFz (tLcQ (iQ (t1 revD (tV 1))) (gN 5) tY (t1 negI (tV 5)) [5]))) dNil)))
def short_word_s1b_s1 : TQS := (sSeq (sFor (iQ (tV 2)) (gN 4) short_word_s1b_s1b) short_word_s1b_s2)
def short_word_s1b : TQS := (sSeq (sSetL 3 (tLstQ dNil)) short_word_s1b_s1)
def short_word_s1 : TQS := (sSeq (sFor (iQ (tV 0)) (gN 2) short_word_s1b) short_word_s2)
def sp__law_short_word : PSpec := fun as R => ∃ ds : List Desk, as = [.d (desksD ds)] ∧ T44.Dk ds ∧ R (.list ((shortW ds.reverse).map .int))
theorem len__law_short_word : ∀ as R, sp__law_short_word as R → as.length = 1 := by rintro as R ⟨w, rfl, _⟩; rfl
theorem short_len : ∀ ds : List Desk, (shortW ds).length ≤ 144
  | [] => by decide
  | d :: ds => cut_len _
theorem turnL_len (w : List Int) : (turnL w).length = w.length := by simp [turnL]
theorem fold_len (w : List Int) : ∀ d : Desk, (foldW d w).length = d.length * w.length
  | [] => by simp [foldW]
  | b :: d => by
    have ih := fold_len w d
    have e : foldW (b :: d) w = (if b = true then turnL w else w) ++ foldW d w := rfl
    rw [e, List.length_append, ih, List.length_cons, Nat.add_mul, Nat.one_mul]
    split
    · rw [turnL_len]; omega
    · omega
def ngD : PyData → PyData
  | .int n => .int (-n)
  | _ => .none
theorem sw_inner (E : EndsQ) (x0 x2 : Sl) {w : List Int} (hw : w.length ≤ 144) : ∀ (suf : Desk) (acc : List Int) (s4 : Sl), acc.length + suf.length * 144 ≤ 1000 →
    (∀ s4, E.nx [x0, .d (.list (w.map .int)), x2, .own ((acc ++ foldW suf w).map .int), s4, .un]) →
    forQ (gN 4) short_word_s1b_s1b E (suf.map plD) [x0, .d (.list (w.map .int)), x2, .own (acc.map .int), s4, .un]
  | [], acc, s4, hl, h => by
    simp only [forQ, List.map_nil]
    simpa [foldW] using h s4
  | b :: suf, acc, s4, hl, h => by
    rw [List.map_cons]
    have step := fun acc' (hl' : acc'.length + suf.length * 144 ≤ 1000) hh => sw_inner E x0 x2 hw suf acc' (.d (plD b)) hl' hh
    simp only [List.length_cons] at hl
    simp only [short_word_s1b_s1b, Q.isDc, Q.sPar2K, Q.tDisp2, Q.tIxK, Q.sSetIxK, Q.tVd, Q.tGetK, Q.iKeysQ, Q.tDispK, Q.tVals, Q.tAddL, Q.sSetM, Q.sAl2, Q.tAlApp2, Q.sFrz2, Q.iZipM, Q.itZm, Q.tLcM, Q.addF, Q.isN, Q.mulF, Q.bandI, Q.iZip, Q.itZ, Q.slD, Q.enOf, Q.tV, Q.tK, Q.t2, Q.t1, Q.tB, Q.cI, Q.cIp, Q.subI, Q.fdivI, Q.fdivW, Q.modI, Q.ltI, Q.leI, Q.gtI, Q.geI, Q.negI, Q.vAnd, Q.vNot, Q.qAnd, Q.qOr, Q.qNot, Q.qIf, Q.chI, Q.tTupQ, Q.dNil, Q.dCons, Q.tLstQ, Q.tFz, Q.tCA, Q.lenD, Q.tupD, Q.isD, Q.isInt, Q.isBool, Q.isTup, Q.isStr, Q.tLenN, Q.tIxN, Q.setQ, Q.aNil, Q.aD, Q.aK, Q.tCallQ, Q.tCallKQ, Q.pick, Q.sNil, Q.sSeq, Q.sRet, Q.sExpr, Q.sIf, Q.sSet, Q.sSetL, Q.sAsg, Q.sFor, Q.sPar2, Q.sPar3, Q.pNil, Q.pD, Q.pO, Q.gN, Q.gT, Q.gsNil, Q.gsCons, Q.iQ, Q.itD, Q.iEn, Q.itE, Q.rg1, Q.oSome, Q.tSlQ, Q.revD, Q.tOwnM, Q.appC, Q.popC, Q.extC, Q.ownL, Q.tRepL, Q.repC, Q.sSetIx, Q.ixOwn, Q.tLcQ, Q.noOwn, Q.rstQ, Q.wipeQ, Q.sDn, Q.sSetD, Q.tDgetN, Q.dOwn, Q.sNever, Q.isB, Q.listD, Q.listC, Q.reprD, Q.Sl.isOwn, Q.sAugIx, Q.setQ, Q.tLcM, Q.augC, Q.keyD, Q.rg3, List.map_cons, List.map_nil, List.replicate_succ, List.replicate_zero, List.cons_append, List.nil_append, List.append_nil, List.getElem?_cons_zero, List.getElem?_cons_succ, List.set_cons_zero, List.set_cons_succ, List.getD_cons_zero, List.getD_cons_succ, List.filterMap_cons, List.filterMap_nil, List.all_cons, List.all_nil, Bool.and_true, Bool.true_and, Bool.not_true, Bool.not_false, Bool.not_eq_true, Bool.false_eq_true, Bool.and_self, if_true, if_false, true_and, and_true, ↓reduceIte, eqD, neD, sh_int, eqv_int, eqv_strs, sDraw, List.length_cons, List.length_nil, Nat.zero_add, Nat.reduceAdd, decide_true, eq_self] at step
    simp only [forQ, gN, short_word_s1b_s1b, Q.isDc, Q.sPar2K, Q.tDisp2, Q.tIxK, Q.sSetIxK, Q.tVd, Q.tGetK, Q.iKeysQ, Q.tDispK, Q.tVals, Q.tAddL, Q.sSetM, Q.sAl2, Q.tAlApp2, Q.sFrz2, Q.iZipM, Q.itZm, Q.tLcM, Q.addF, Q.isN, Q.mulF, Q.bandI, Q.iZip, Q.itZ, Q.slD, Q.enOf, Q.tV, Q.tK, Q.t2, Q.t1, Q.tB, Q.cI, Q.cIp, Q.subI, Q.fdivI, Q.fdivW, Q.modI, Q.ltI, Q.leI, Q.gtI, Q.geI, Q.negI, Q.vAnd, Q.vNot, Q.qAnd, Q.qOr, Q.qNot, Q.qIf, Q.chI, Q.tTupQ, Q.dNil, Q.dCons, Q.tLstQ, Q.tFz, Q.tCA, Q.lenD, Q.tupD, Q.isD, Q.isInt, Q.isBool, Q.isTup, Q.isStr, Q.tLenN, Q.tIxN, Q.setQ, Q.aNil, Q.aD, Q.aK, Q.tCallQ, Q.tCallKQ, Q.pick, Q.sNil, Q.sSeq, Q.sRet, Q.sExpr, Q.sIf, Q.sSet, Q.sSetL, Q.sAsg, Q.sFor, Q.sPar2, Q.sPar3, Q.pNil, Q.pD, Q.pO, Q.gN, Q.gT, Q.gsNil, Q.gsCons, Q.iQ, Q.itD, Q.iEn, Q.itE, Q.rg1, Q.oSome, Q.tSlQ, Q.revD, Q.tOwnM, Q.appC, Q.popC, Q.extC, Q.ownL, Q.tRepL, Q.repC, Q.sSetIx, Q.ixOwn, Q.tLcQ, Q.noOwn, Q.rstQ, Q.wipeQ, Q.sDn, Q.sSetD, Q.tDgetN, Q.dOwn, Q.sNever, Q.isB, Q.listD, Q.listC, Q.reprD, Q.Sl.isOwn, Q.sAugIx, Q.setQ, Q.tLcM, Q.augC, Q.keyD, Q.rg3, List.map_cons, List.map_nil, List.replicate_succ, List.replicate_zero, List.cons_append, List.nil_append, List.append_nil, List.getElem?_cons_zero, List.getElem?_cons_succ, List.set_cons_zero, List.set_cons_succ, List.getD_cons_zero, List.getD_cons_succ, List.filterMap_cons, List.filterMap_nil, List.all_cons, List.all_nil, Bool.and_true, Bool.true_and, Bool.not_true, Bool.not_false, Bool.not_eq_true, Bool.false_eq_true, Bool.and_self, if_true, if_false, true_and, and_true, ↓reduceIte, eqD, neD, sh_int, eqv_int, eqv_strs, sDraw, List.length_cons, List.length_nil, Nat.zero_add, Nat.reduceAdd, decide_true, eq_self]
    refine ⟨sh_pl, by decide +kernel, ?_⟩
    rw [eqv_tray]
    cases b with
    | false =>
      rw [if_pos (by rfl)]
      refine ⟨by rw [List.length_map, List.length_map]; omega, ?_⟩
      have ea : acc.map PyData.int ++ w.map PyData.int = (acc ++ w).map PyData.int := by simp
      rw [ea]
      refine step (acc ++ w) (by rw [List.length_append]; omega) fun s4 => ?_
      have := h s4
      rw [show acc ++ foldW (false :: suf) w = acc ++ w ++ foldW suf w from (List.append_assoc acc w _).symm] at this
      exact this
    | true =>
      rw [if_neg (by decide)]
      refine Q.comp_map ngD (fun y hy Rk hk => ?_) ?_
      · obtain ⟨n, _, rfl⟩ := List.mem_map.mp (List.mem_reverse.mp hy)
        simp only [gN, ngD, Q.isDc, Q.sPar2K, Q.tDisp2, Q.tIxK, Q.sSetIxK, Q.tVd, Q.tGetK, Q.iKeysQ, Q.tDispK, Q.tVals, Q.tAddL, Q.sSetM, Q.sAl2, Q.tAlApp2, Q.sFrz2, Q.iZipM, Q.itZm, Q.tLcM, Q.addF, Q.isN, Q.mulF, Q.bandI, Q.iZip, Q.itZ, Q.slD, Q.enOf, Q.tV, Q.tK, Q.t2, Q.t1, Q.tB, Q.cI, Q.cIp, Q.subI, Q.fdivI, Q.fdivW, Q.modI, Q.ltI, Q.leI, Q.gtI, Q.geI, Q.negI, Q.vAnd, Q.vNot, Q.qAnd, Q.qOr, Q.qNot, Q.qIf, Q.chI, Q.tTupQ, Q.dNil, Q.dCons, Q.tLstQ, Q.tFz, Q.tCA, Q.lenD, Q.tupD, Q.isD, Q.isInt, Q.isBool, Q.isTup, Q.isStr, Q.tLenN, Q.tIxN, Q.setQ, Q.aNil, Q.aD, Q.aK, Q.tCallQ, Q.tCallKQ, Q.pick, Q.sNil, Q.sSeq, Q.sRet, Q.sExpr, Q.sIf, Q.sSet, Q.sSetL, Q.sAsg, Q.sFor, Q.sPar2, Q.sPar3, Q.pNil, Q.pD, Q.pO, Q.gN, Q.gT, Q.gsNil, Q.gsCons, Q.iQ, Q.itD, Q.iEn, Q.itE, Q.rg1, Q.oSome, Q.tSlQ, Q.revD, Q.tOwnM, Q.appC, Q.popC, Q.extC, Q.ownL, Q.tRepL, Q.repC, Q.sSetIx, Q.ixOwn, Q.tLcQ, Q.noOwn, Q.rstQ, Q.wipeQ, Q.sDn, Q.sSetD, Q.tDgetN, Q.dOwn, Q.sNever, Q.isB, Q.listD, Q.listC, Q.reprD, Q.Sl.isOwn, Q.sAugIx, Q.setQ, Q.tLcM, Q.augC, Q.keyD, Q.rg3, List.map_cons, List.map_nil, List.replicate_succ, List.replicate_zero, List.cons_append, List.nil_append, List.append_nil, List.getElem?_cons_zero, List.getElem?_cons_succ, List.set_cons_zero, List.set_cons_succ, List.getD_cons_zero, List.getD_cons_succ, List.filterMap_cons, List.filterMap_nil, List.all_cons, List.all_nil, Bool.and_true, Bool.true_and, Bool.not_true, Bool.not_false, Bool.not_eq_true, Bool.false_eq_true, Bool.and_self, if_true, if_false, true_and, and_true, ↓reduceIte, eqD, neD, sh_int, eqv_int, eqv_strs, sDraw, List.length_cons, List.length_nil, Nat.zero_add, Nat.reduceAdd, decide_true, eq_self] at hk ⊢
        exact hk _ rfl
      · have et : (w.map PyData.int).reverse.map ngD = (turnL w).map .int := by
          unfold turnL
          rw [← List.map_reverse, List.map_map, List.map_map]; rfl
        rw [et]
        simp only [List.set_cons_zero, List.set_cons_succ, List.getElem?_cons_zero, List.getElem?_cons_succ]
        refine ⟨by rw [List.length_map, List.length_map, turnL_len]; omega, ?_⟩
        have ea : acc.map PyData.int ++ (turnL w).map PyData.int = (acc ++ turnL w).map PyData.int := by simp
        rw [ea]
        refine step (acc ++ turnL w) (by rw [List.length_append, turnL_len]; omega) fun s4 => ?_
        have := h s4
        rw [show acc ++ foldW (true :: suf) w = acc ++ turnL w ++ foldW suf w from (List.append_assoc acc _ _).symm] at this
        exact this
theorem sw_outer {R : PyData → Prop} {ds : List Desk} (hk : T44.Dk ds) : ∀ (r : List Desk) (t : Nat) (s2 s3 s4 : Sl), r = ds.drop t → t ≤ ds.length → R (.list ((shortW ds.reverse).map .int)) →
    forQ (gN 2) short_word_s1b { nx := short_word_s2 { nx := fun _ => R .none, rt := R }, rt := R } (r.map deskD) [.d (desksD ds), .d (.list ((shortW (wdT ds t)).map .int)), s2, s3, s4, .un]
  | [], t, s2, s3, s4, hr, ht, h => by
    have e : t = ds.length := by
      have := congrArg List.length hr
      simp at this; omega
    subst e
    rw [wdT_all]
    simp only [forQ, List.map_nil, short_word_s2, Q.isDc, Q.sPar2K, Q.tDisp2, Q.tIxK, Q.sSetIxK, Q.tVd, Q.tGetK, Q.iKeysQ, Q.tDispK, Q.tVals, Q.tAddL, Q.sSetM, Q.sAl2, Q.tAlApp2, Q.sFrz2, Q.iZipM, Q.itZm, Q.tLcM, Q.addF, Q.isN, Q.mulF, Q.bandI, Q.iZip, Q.itZ, Q.slD, Q.enOf, Q.tV, Q.tK, Q.t2, Q.t1, Q.tB, Q.cI, Q.cIp, Q.subI, Q.fdivI, Q.fdivW, Q.modI, Q.ltI, Q.leI, Q.gtI, Q.geI, Q.negI, Q.vAnd, Q.vNot, Q.qAnd, Q.qOr, Q.qNot, Q.qIf, Q.chI, Q.tTupQ, Q.dNil, Q.dCons, Q.tLstQ, Q.tFz, Q.tCA, Q.lenD, Q.tupD, Q.isD, Q.isInt, Q.isBool, Q.isTup, Q.isStr, Q.tLenN, Q.tIxN, Q.setQ, Q.aNil, Q.aD, Q.aK, Q.tCallQ, Q.tCallKQ, Q.pick, Q.sNil, Q.sSeq, Q.sRet, Q.sExpr, Q.sIf, Q.sSet, Q.sSetL, Q.sAsg, Q.sFor, Q.sPar2, Q.sPar3, Q.pNil, Q.pD, Q.pO, Q.gN, Q.gT, Q.gsNil, Q.gsCons, Q.iQ, Q.itD, Q.iEn, Q.itE, Q.rg1, Q.oSome, Q.tSlQ, Q.revD, Q.tOwnM, Q.appC, Q.popC, Q.extC, Q.ownL, Q.tRepL, Q.repC, Q.sSetIx, Q.ixOwn, Q.tLcQ, Q.noOwn, Q.rstQ, Q.wipeQ, Q.sDn, Q.sSetD, Q.tDgetN, Q.dOwn, Q.sNever, Q.isB, Q.listD, Q.listC, Q.reprD, Q.Sl.isOwn, Q.sAugIx, Q.setQ, Q.tLcM, Q.augC, Q.keyD, Q.rg3, List.map_cons, List.map_nil, List.replicate_succ, List.replicate_zero, List.cons_append, List.nil_append, List.append_nil, List.getElem?_cons_zero, List.getElem?_cons_succ, List.set_cons_zero, List.set_cons_succ, List.getD_cons_zero, List.getD_cons_succ, List.filterMap_cons, List.filterMap_nil, List.all_cons, List.all_nil, Bool.and_true, Bool.true_and, Bool.not_true, Bool.not_false, Bool.not_eq_true, Bool.false_eq_true, Bool.and_self, if_true, if_false, true_and, and_true, ↓reduceIte, eqD, neD, sh_int, eqv_int, eqv_strs, sDraw, List.length_cons, List.length_nil, Nat.zero_add, Nat.reduceAdd, decide_true, eq_self]
    exact h
  | d :: r, t, s2, s3, s4, hr, ht, h => by
    have lt : t < ds.length := by
      have := congrArg List.length hr
      simp at this; omega
    have ed : ds[t] = d ∧ ds.drop (t + 1) = r := by
      rw [List.drop_eq_getElem_cons lt] at hr
      injection hr with a b
      exact ⟨a.symm, b.symm⟩
    have dl := hk.ok ds[t] (List.getElem_mem lt)
    rw [ed.1] at dl
    have sl := short_len (wdT ds t)
    rw [List.map_cons]
    simp only [forQ, gN]
    show sSeq _ short_word_s1b_s1 _ _
    simp only [desksD, deskD, Q.isDc, Q.sPar2K, Q.tDisp2, Q.tIxK, Q.sSetIxK, Q.tVd, Q.tGetK, Q.iKeysQ, Q.tDispK, Q.tVals, Q.tAddL, Q.sSetM, Q.sAl2, Q.tAlApp2, Q.sFrz2, Q.iZipM, Q.itZm, Q.tLcM, Q.addF, Q.isN, Q.mulF, Q.bandI, Q.iZip, Q.itZ, Q.slD, Q.enOf, Q.tV, Q.tK, Q.t2, Q.t1, Q.tB, Q.cI, Q.cIp, Q.subI, Q.fdivI, Q.fdivW, Q.modI, Q.ltI, Q.leI, Q.gtI, Q.geI, Q.negI, Q.vAnd, Q.vNot, Q.qAnd, Q.qOr, Q.qNot, Q.qIf, Q.chI, Q.tTupQ, Q.dNil, Q.dCons, Q.tLstQ, Q.tFz, Q.tCA, Q.lenD, Q.tupD, Q.isD, Q.isInt, Q.isBool, Q.isTup, Q.isStr, Q.tLenN, Q.tIxN, Q.setQ, Q.aNil, Q.aD, Q.aK, Q.tCallQ, Q.tCallKQ, Q.pick, Q.sNil, Q.sSeq, Q.sRet, Q.sExpr, Q.sIf, Q.sSet, Q.sSetL, Q.sAsg, Q.sFor, Q.sPar2, Q.sPar3, Q.pNil, Q.pD, Q.pO, Q.gN, Q.gT, Q.gsNil, Q.gsCons, Q.iQ, Q.itD, Q.iEn, Q.itE, Q.rg1, Q.oSome, Q.tSlQ, Q.revD, Q.tOwnM, Q.appC, Q.popC, Q.extC, Q.ownL, Q.tRepL, Q.repC, Q.sSetIx, Q.ixOwn, Q.tLcQ, Q.noOwn, Q.rstQ, Q.wipeQ, Q.sDn, Q.sSetD, Q.tDgetN, Q.dOwn, Q.sNever, Q.isB, Q.listD, Q.listC, Q.reprD, Q.Sl.isOwn, Q.sAugIx, Q.setQ, Q.tLcM, Q.augC, Q.keyD, Q.rg3, List.map_cons, List.map_nil, List.replicate_succ, List.replicate_zero, List.cons_append, List.nil_append, List.append_nil, List.getElem?_cons_zero, List.getElem?_cons_succ, List.set_cons_zero, List.set_cons_succ, List.getD_cons_zero, List.getD_cons_succ, List.filterMap_cons, List.filterMap_nil, List.all_cons, List.all_nil, Bool.and_true, Bool.true_and, Bool.not_true, Bool.not_false, Bool.not_eq_true, Bool.false_eq_true, Bool.and_self, if_true, if_false, true_and, and_true, ↓reduceIte, eqD, neD, sh_int, eqv_int, eqv_strs, sDraw, List.length_cons, List.length_nil, Nat.zero_add, Nat.reduceAdd, decide_true, eq_self]
    refine ⟨by omega, ?_⟩
    simp only [short_word_s1b_s1, Q.isDc, Q.sPar2K, Q.tDisp2, Q.tIxK, Q.sSetIxK, Q.tVd, Q.tGetK, Q.iKeysQ, Q.tDispK, Q.tVals, Q.tAddL, Q.sSetM, Q.sAl2, Q.tAlApp2, Q.sFrz2, Q.iZipM, Q.itZm, Q.tLcM, Q.addF, Q.isN, Q.mulF, Q.bandI, Q.iZip, Q.itZ, Q.slD, Q.enOf, Q.tV, Q.tK, Q.t2, Q.t1, Q.tB, Q.cI, Q.cIp, Q.subI, Q.fdivI, Q.fdivW, Q.modI, Q.ltI, Q.leI, Q.gtI, Q.geI, Q.negI, Q.vAnd, Q.vNot, Q.qAnd, Q.qOr, Q.qNot, Q.qIf, Q.chI, Q.tTupQ, Q.dNil, Q.dCons, Q.tLstQ, Q.tFz, Q.tCA, Q.lenD, Q.tupD, Q.isD, Q.isInt, Q.isBool, Q.isTup, Q.isStr, Q.tLenN, Q.tIxN, Q.setQ, Q.aNil, Q.aD, Q.aK, Q.tCallQ, Q.tCallKQ, Q.pick, Q.sNil, Q.sSeq, Q.sRet, Q.sExpr, Q.sIf, Q.sSet, Q.sSetL, Q.sAsg, Q.sFor, Q.sPar2, Q.sPar3, Q.pNil, Q.pD, Q.pO, Q.gN, Q.gT, Q.gsNil, Q.gsCons, Q.iQ, Q.itD, Q.iEn, Q.itE, Q.rg1, Q.oSome, Q.tSlQ, Q.revD, Q.tOwnM, Q.appC, Q.popC, Q.extC, Q.ownL, Q.tRepL, Q.repC, Q.sSetIx, Q.ixOwn, Q.tLcQ, Q.noOwn, Q.rstQ, Q.wipeQ, Q.sDn, Q.sSetD, Q.tDgetN, Q.dOwn, Q.sNever, Q.isB, Q.listD, Q.listC, Q.reprD, Q.Sl.isOwn, Q.sAugIx, Q.setQ, Q.tLcM, Q.augC, Q.keyD, Q.rg3, List.map_cons, List.map_nil, List.replicate_succ, List.replicate_zero, List.cons_append, List.nil_append, List.append_nil, List.getElem?_cons_zero, List.getElem?_cons_succ, List.set_cons_zero, List.set_cons_succ, List.getD_cons_zero, List.getD_cons_succ, List.filterMap_cons, List.filterMap_nil, List.all_cons, List.all_nil, Bool.and_true, Bool.true_and, Bool.not_true, Bool.not_false, Bool.not_eq_true, Bool.false_eq_true, Bool.and_self, if_true, if_false, true_and, and_true, ↓reduceIte, eqD, neD, sh_int, eqv_int, eqv_strs, sDraw, List.length_cons, List.length_nil, Nat.zero_add, Nat.reduceAdd, decide_true, eq_self]
    refine sw_inner _ _ _ sl d [] _ (by simp; omega) fun s4 => ?_
    simp only [short_word_s1b_s2, Q.isDc, Q.sPar2K, Q.tDisp2, Q.tIxK, Q.sSetIxK, Q.tVd, Q.tGetK, Q.iKeysQ, Q.tDispK, Q.tVals, Q.tAddL, Q.sSetM, Q.sAl2, Q.tAlApp2, Q.sFrz2, Q.iZipM, Q.itZm, Q.tLcM, Q.addF, Q.isN, Q.mulF, Q.bandI, Q.iZip, Q.itZ, Q.slD, Q.enOf, Q.tV, Q.tK, Q.t2, Q.t1, Q.tB, Q.cI, Q.cIp, Q.subI, Q.fdivI, Q.fdivW, Q.modI, Q.ltI, Q.leI, Q.gtI, Q.geI, Q.negI, Q.vAnd, Q.vNot, Q.qAnd, Q.qOr, Q.qNot, Q.qIf, Q.chI, Q.tTupQ, Q.dNil, Q.dCons, Q.tLstQ, Q.tFz, Q.tCA, Q.lenD, Q.tupD, Q.isD, Q.isInt, Q.isBool, Q.isTup, Q.isStr, Q.tLenN, Q.tIxN, Q.setQ, Q.aNil, Q.aD, Q.aK, Q.tCallQ, Q.tCallKQ, Q.pick, Q.sNil, Q.sSeq, Q.sRet, Q.sExpr, Q.sIf, Q.sSet, Q.sSetL, Q.sAsg, Q.sFor, Q.sPar2, Q.sPar3, Q.pNil, Q.pD, Q.pO, Q.gN, Q.gT, Q.gsNil, Q.gsCons, Q.iQ, Q.itD, Q.iEn, Q.itE, Q.rg1, Q.oSome, Q.tSlQ, Q.revD, Q.tOwnM, Q.appC, Q.popC, Q.extC, Q.ownL, Q.tRepL, Q.repC, Q.sSetIx, Q.ixOwn, Q.tLcQ, Q.noOwn, Q.rstQ, Q.wipeQ, Q.sDn, Q.sSetD, Q.tDgetN, Q.dOwn, Q.sNever, Q.isB, Q.listD, Q.listC, Q.reprD, Q.Sl.isOwn, Q.sAugIx, Q.setQ, Q.tLcM, Q.augC, Q.keyD, Q.rg3, List.map_cons, List.map_nil, List.replicate_succ, List.replicate_zero, List.cons_append, List.nil_append, List.append_nil, List.getElem?_cons_zero, List.getElem?_cons_succ, List.set_cons_zero, List.set_cons_succ, List.getD_cons_zero, List.getD_cons_succ, List.filterMap_cons, List.filterMap_nil, List.all_cons, List.all_nil, Bool.and_true, Bool.true_and, Bool.not_true, Bool.not_false, Bool.not_eq_true, Bool.false_eq_true, Bool.and_self, if_true, if_false, true_and, and_true, ↓reduceIte, eqD, neD, sh_int, eqv_int, eqv_strs, sDraw, List.length_cons, List.length_nil, Nat.zero_add, Nat.reduceAdd, decide_true, eq_self]
    have fl := fold_len (shortW (wdT ds t)) d
    have f2 : d.length * (shortW (wdT ds t)).length ≤ 6 * 144 := Nat.mul_le_mul dl.2 sl
    refine ⟨_, rfl, by omega, ?_⟩
    have e : cutF none 0 0 (foldW d (shortW (wdT ds t))) = shortW (wdT ds (t + 1)) := by
      rw [wdT_succ lt, ed.1]; rfl
    rw [e]
    exact sw_outer hk r (t + 1) _ _ _ ed.2.symm (by omega) h
theorem rd__law_short_word : ∀ as R, sp__law_short_word as R → t__law_short_word sp__law_cut { nx := fun _ => R .none, rt := R } (enOf as 5) := by
  rintro as R ⟨ds, rfl, hk, h⟩
  show sSeq _ short_word_s1 _ _
  simp only [desksD, Q.isDc, Q.sPar2K, Q.tDisp2, Q.tIxK, Q.sSetIxK, Q.tVd, Q.tGetK, Q.iKeysQ, Q.tDispK, Q.tVals, Q.tAddL, Q.sSetM, Q.sAl2, Q.tAlApp2, Q.sFrz2, Q.iZipM, Q.itZm, Q.tLcM, Q.addF, Q.isN, Q.mulF, Q.bandI, Q.iZip, Q.itZ, Q.slD, Q.enOf, Q.tV, Q.tK, Q.t2, Q.t1, Q.tB, Q.cI, Q.cIp, Q.subI, Q.fdivI, Q.fdivW, Q.modI, Q.ltI, Q.leI, Q.gtI, Q.geI, Q.negI, Q.vAnd, Q.vNot, Q.qAnd, Q.qOr, Q.qNot, Q.qIf, Q.chI, Q.tTupQ, Q.dNil, Q.dCons, Q.tLstQ, Q.tFz, Q.tCA, Q.lenD, Q.tupD, Q.isD, Q.isInt, Q.isBool, Q.isTup, Q.isStr, Q.tLenN, Q.tIxN, Q.setQ, Q.aNil, Q.aD, Q.aK, Q.tCallQ, Q.tCallKQ, Q.pick, Q.sNil, Q.sSeq, Q.sRet, Q.sExpr, Q.sIf, Q.sSet, Q.sSetL, Q.sAsg, Q.sFor, Q.sPar2, Q.sPar3, Q.pNil, Q.pD, Q.pO, Q.gN, Q.gT, Q.gsNil, Q.gsCons, Q.iQ, Q.itD, Q.iEn, Q.itE, Q.rg1, Q.oSome, Q.tSlQ, Q.revD, Q.tOwnM, Q.appC, Q.popC, Q.extC, Q.ownL, Q.tRepL, Q.repC, Q.sSetIx, Q.ixOwn, Q.tLcQ, Q.noOwn, Q.rstQ, Q.wipeQ, Q.sDn, Q.sSetD, Q.tDgetN, Q.dOwn, Q.sNever, Q.isB, Q.listD, Q.listC, Q.reprD, Q.Sl.isOwn, Q.sAugIx, Q.setQ, Q.tLcM, Q.augC, Q.keyD, Q.rg3, List.map_cons, List.map_nil, List.replicate_succ, List.replicate_zero, List.cons_append, List.nil_append, List.append_nil, List.getElem?_cons_zero, List.getElem?_cons_succ, List.set_cons_zero, List.set_cons_succ, List.getD_cons_zero, List.getD_cons_succ, List.filterMap_cons, List.filterMap_nil, List.all_cons, List.all_nil, Bool.and_true, Bool.true_and, Bool.not_true, Bool.not_false, Bool.not_eq_true, Bool.false_eq_true, Bool.and_self, if_true, if_false, true_and, and_true, ↓reduceIte, eqD, neD, sh_int, eqv_int, eqv_strs, sDraw, List.length_cons, List.length_nil, Nat.zero_add, Nat.reduceAdd, decide_true, eq_self]
  simp only [short_word_s1, Q.isDc, Q.sPar2K, Q.tDisp2, Q.tIxK, Q.sSetIxK, Q.tVd, Q.tGetK, Q.iKeysQ, Q.tDispK, Q.tVals, Q.tAddL, Q.sSetM, Q.sAl2, Q.tAlApp2, Q.sFrz2, Q.iZipM, Q.itZm, Q.tLcM, Q.addF, Q.isN, Q.mulF, Q.bandI, Q.iZip, Q.itZ, Q.slD, Q.enOf, Q.tV, Q.tK, Q.t2, Q.t1, Q.tB, Q.cI, Q.cIp, Q.subI, Q.fdivI, Q.fdivW, Q.modI, Q.ltI, Q.leI, Q.gtI, Q.geI, Q.negI, Q.vAnd, Q.vNot, Q.qAnd, Q.qOr, Q.qNot, Q.qIf, Q.chI, Q.tTupQ, Q.dNil, Q.dCons, Q.tLstQ, Q.tFz, Q.tCA, Q.lenD, Q.tupD, Q.isD, Q.isInt, Q.isBool, Q.isTup, Q.isStr, Q.tLenN, Q.tIxN, Q.setQ, Q.aNil, Q.aD, Q.aK, Q.tCallQ, Q.tCallKQ, Q.pick, Q.sNil, Q.sSeq, Q.sRet, Q.sExpr, Q.sIf, Q.sSet, Q.sSetL, Q.sAsg, Q.sFor, Q.sPar2, Q.sPar3, Q.pNil, Q.pD, Q.pO, Q.gN, Q.gT, Q.gsNil, Q.gsCons, Q.iQ, Q.itD, Q.iEn, Q.itE, Q.rg1, Q.oSome, Q.tSlQ, Q.revD, Q.tOwnM, Q.appC, Q.popC, Q.extC, Q.ownL, Q.tRepL, Q.repC, Q.sSetIx, Q.ixOwn, Q.tLcQ, Q.noOwn, Q.rstQ, Q.wipeQ, Q.sDn, Q.sSetD, Q.tDgetN, Q.dOwn, Q.sNever, Q.isB, Q.listD, Q.listC, Q.reprD, Q.Sl.isOwn, Q.sAugIx, Q.setQ, Q.tLcM, Q.augC, Q.keyD, Q.rg3, List.map_cons, List.map_nil, List.replicate_succ, List.replicate_zero, List.cons_append, List.nil_append, List.append_nil, List.getElem?_cons_zero, List.getElem?_cons_succ, List.set_cons_zero, List.set_cons_succ, List.getD_cons_zero, List.getD_cons_succ, List.filterMap_cons, List.filterMap_nil, List.all_cons, List.all_nil, Bool.and_true, Bool.true_and, Bool.not_true, Bool.not_false, Bool.not_eq_true, Bool.false_eq_true, Bool.and_self, if_true, if_false, true_and, and_true, ↓reduceIte, eqD, neD, sh_int, eqv_int, eqv_strs, sDraw, List.length_cons, List.length_nil, Nat.zero_add, Nat.reduceAdd, decide_true, eq_self]
  exact ⟨by omega, sw_outer hk ds 0 _ _ _ rfl (Nat.zero_le _) h⟩
def sp__law_pick : PSpec := fun as R => ∃ xs : List PyData, (as = [.dk, .d (.tuple xs)] ∨ as = [.dk, .d (.list xs)]) ∧ xs ≠ [] ∧ xs.length ≤ 1000 ∧ ∀ x, x ∈ xs → R x
theorem len__law_pick : ∀ as R, sp__law_pick as R → as.length = 2 := by rintro as R ⟨n, rfl | rfl, _⟩ <;> rfl
theorem at_any {xs : List PyData} {r : Int} (h0 : 0 ≤ r) (h1 : r < xs.length) : ∃ x, atI xs r = some x ∧ x ∈ xs := by
  obtain ⟨m, rfl⟩ := Int.eq_ofNat_of_zero_le h0
  have h : m < xs.length := by omega
  exact ⟨xs[m], atI_nat (by simp [h]), List.getElem_mem h⟩
theorem rd__law_pick : ∀ as R, sp__law_pick as R → t__law_pick sDraw { nx := fun _ => R .none, rt := R } (enOf as 0) := by
  rintro as R ⟨xs, e, h1, h2, h⟩
  have h0 := List.length_pos_iff.mpr h1
  rcases e with rfl | rfl
  all_goals
    simp only [t__law_pick, Q.isDc, Q.sPar2K, Q.tDisp2, Q.tIxK, Q.sSetIxK, Q.tVd, Q.tGetK, Q.iKeysQ, Q.tDispK, Q.tVals, Q.tAddL, Q.sSetM, Q.sAl2, Q.tAlApp2, Q.sFrz2, Q.iZipM, Q.itZm, Q.tLcM, Q.addF, Q.isN, Q.mulF, Q.bandI, Q.iZip, Q.itZ, Q.slD, Q.enOf, Q.tV, Q.tK, Q.t2, Q.t1, Q.tB, Q.cI, Q.cIp, Q.subI, Q.fdivI, Q.fdivW, Q.modI, Q.ltI, Q.leI, Q.gtI, Q.geI, Q.negI, Q.vAnd, Q.vNot, Q.qAnd, Q.qOr, Q.qNot, Q.qIf, Q.chI, Q.tTupQ, Q.dNil, Q.dCons, Q.tLstQ, Q.tFz, Q.tCA, Q.lenD, Q.tupD, Q.isD, Q.isInt, Q.isBool, Q.isTup, Q.isStr, Q.tLenN, Q.tIxN, Q.setQ, Q.aNil, Q.aD, Q.aK, Q.tCallQ, Q.tCallKQ, Q.pick, Q.sNil, Q.sSeq, Q.sRet, Q.sExpr, Q.sIf, Q.sSet, Q.sSetL, Q.sAsg, Q.sFor, Q.sPar2, Q.sPar3, Q.pNil, Q.pD, Q.pO, Q.gN, Q.gT, Q.gsNil, Q.gsCons, Q.iQ, Q.itD, Q.iEn, Q.itE, Q.rg1, Q.oSome, Q.tSlQ, Q.revD, Q.tOwnM, Q.appC, Q.popC, Q.extC, Q.ownL, Q.tRepL, Q.repC, Q.sSetIx, Q.ixOwn, Q.tLcQ, Q.noOwn, Q.rstQ, Q.wipeQ, Q.sDn, Q.sSetD, Q.tDgetN, Q.dOwn, Q.sNever, Q.isB, Q.listD, Q.listC, Q.reprD, Q.Sl.isOwn, Q.sAugIx, Q.setQ, Q.tLcM, Q.augC, Q.keyD, Q.rg3, List.map_cons, List.map_nil, List.replicate_succ, List.replicate_zero, List.cons_append, List.nil_append, List.append_nil, List.getElem?_cons_zero, List.getElem?_cons_succ, List.set_cons_zero, List.set_cons_succ, List.getD_cons_zero, List.getD_cons_succ, List.filterMap_cons, List.filterMap_nil, List.all_cons, List.all_nil, Bool.and_true, Bool.true_and, Bool.not_true, Bool.not_false, Bool.not_eq_true, Bool.false_eq_true, Bool.and_self, if_true, if_false, true_and, and_true, ↓reduceIte, sDraw, List.length_map]
    refine ⟨by omega, by omega, fun r hr1 hr2 => ?_⟩
    obtain ⟨x, e1, e2⟩ := at_any hr1 hr2
    simp only [ixD]
    exact ⟨_, e1, h x e2⟩
structure ThAt (o : List Int) (acc : Thr) (s : Nat) : Prop where
  lots : ∀ p, p ∈ acc → LotOk p.1 p.2
  perm : (kinds acc).Perm (o.take s)
theorem ThAt.more {n : Nat} {o : List Int} {acc : Thr} {s j : Nat} {ms : List Int} {sg : Int} (h : ThAt o acc s) (ho : Ord n o) (h8 : n ≤ 8) (hs : s < j) (hj : j ≤ n) (hm : ms.Perm ((o.drop s).take (j - s))) (up : ms.Pairwise (· ≤ ·)) (hg : sg = 1 ∨ sg = -1) :
    ThAt o (acc ++ [(ms, sg)]) j := by
  have lo := ho.length
  have lm : ms.length = j - s := by rw [hm.length_eq, List.length_take, List.length_drop]; omega
  have nd : ms.Nodup := by
    refine (List.Perm.nodup_iff hm).mpr ?_
    exact (ho.nodup.sublist (List.drop_sublist _ _)).sublist (List.take_sublist _ _)
  have sub : ∀ k, k ∈ ms → k ∈ o := fun k hk => List.mem_of_mem_drop (List.mem_of_mem_take (hm.mem_iff.mp hk))
  refine ⟨fun p hp => ?_, ?_⟩
  · rcases List.mem_append.mp hp with hp | hp
    · exact h.lots p hp
    · rw [List.mem_singleton.mp hp]
      refine ⟨fun e => ?_, fun k hk => ?_, ?_, hg, by show ms.length ≤ 8; omega⟩
      · have e : ms = [] := e
        rw [e] at lm; simp at lm; omega
      · have := ho.mem (sub k hk); omega
      · refine List.Pairwise.imp (R := fun a b => a ≤ b ∧ a ≠ b) (fun hab => by omega) (up.and nd)
  · rw [kinds_app]
    have e : o.take j = o.take s ++ (o.drop s).take (j - s) := by
      rw [← List.take_append_drop s (o.take j), List.take_take, List.drop_take, Nat.min_eq_left (by omega)]
    rw [e]
    refine h.perm.append ?_
    simpa [kinds] using hm
def lpTail : TQS := (sIf (tB (t2 leI (t2 mulF (tV 4) (tLenN 8)) (tV 2))) (sSeq (sExpr (tOwnM 3 appC (dCons (tV 8) dNil)))
  (sSet 4 (t2 mulF (tV 4) (tLenN 8)))) sNil)
def lpBody : TQS := (sSeq (sSet 8 (qIf (tB (tV 6)) (tV 5) (tCallQ sp__law_desk (aK 0 (aD (tCallQ sp__law_pick (aK 0 (aD (tFz (tLstQ (dCons (tK (.int 2)) (dCons (tK (.int 3)) (dCons (tK (.int 2)) (dCons (tK (.int 6)) dNil)))))) aNil))) aNil)))))
  (sIf (tB (t2 leI (t2 mulF (tV 4) (tLenN 8)) (tV 2))) (sSeq (sExpr (tOwnM 3 appC (dCons (tV 8) dNil)))
  (sSet 4 (t2 mulF (tV 4) (tLenN 8)))) sNil))
end T44
end P56
section P57
open PySem PySem.Spec PyProof.Rows L2 HT Q
namespace T44
theorem rd_is_desk_value : ∀ as R, sp_is_desk_value as R → t_is_desk_value { nx := fun _ => R .none, rt := R } (enOf as 1) := by
  rintro as R ⟨d, rfl, h1, h2, h⟩
  have e1 : decide ((1 : Int) ≤ ((d.length : Nat) : Int)) = true := by simp; omega
  have e2 : decide (((d.length : Nat) : Int) ≤ 6) = true := by simp; omega
  simp only [t_is_desk_value, deskD, Q.isDc, Q.sPar2K, Q.tDisp2, Q.tIxK, Q.sSetIxK, Q.tVd, Q.tGetK, Q.iKeysQ, Q.tDispK, Q.tVals, Q.tAddL, Q.sSetM, Q.sAl2, Q.tAlApp2, Q.sFrz2, Q.iZipM, Q.itZm, Q.tLcM, Q.addF, Q.isN, Q.mulF, Q.bandI, Q.iZip, Q.itZ, Q.slD, Q.enOf, Q.tV, Q.tK, Q.t2, Q.t1, Q.tB, Q.cI, Q.cIp, Q.subI, Q.fdivI, Q.fdivW, Q.modI, Q.ltI, Q.leI, Q.gtI, Q.geI, Q.negI, Q.vAnd, Q.vNot, Q.qAnd, Q.qOr, Q.qNot, Q.qIf, Q.chI, Q.tTupQ, Q.dNil, Q.dCons, Q.tLstQ, Q.tFz, Q.tCA, Q.lenD, Q.tupD, Q.isD, Q.isInt, Q.isBool, Q.isTup, Q.isStr, Q.tLenN, Q.tIxN, Q.setQ, Q.aNil, Q.aD, Q.aK, Q.tCallQ, Q.tCallKQ, Q.pick, Q.sNil, Q.sSeq, Q.sRet, Q.sExpr, Q.sIf, Q.sSet, Q.sSetL, Q.sAsg, Q.sFor, Q.sPar2, Q.sPar3, Q.pNil, Q.pD, Q.pO, Q.gN, Q.gT, Q.gsNil, Q.gsCons, Q.iQ, Q.itD, Q.iEn, Q.itE, Q.rg1, Q.oSome, Q.tSlQ, Q.revD, Q.tOwnM, Q.appC, Q.popC, Q.extC, Q.ownL, Q.tRepL, Q.repC, Q.sSetIx, Q.ixOwn, Q.tLcQ, Q.noOwn, Q.rstQ, Q.wipeQ, Q.sDn, Q.sSetD, Q.tDgetN, Q.dOwn, Q.sNever, Q.isB, Q.listD, Q.listC, Q.reprD, Q.Sl.isOwn, Q.sAugIx, Q.setQ, Q.tLcM, Q.augC, Q.keyD, Q.rg3, List.map_cons, List.map_nil, List.replicate_succ, List.replicate_zero, List.cons_append, List.nil_append, List.append_nil, List.getElem?_cons_zero, List.getElem?_cons_succ, List.set_cons_zero, List.set_cons_succ, List.getD_cons_zero, List.getD_cons_succ, List.filterMap_cons, List.filterMap_nil, List.all_cons, List.all_nil, Bool.and_true, Bool.true_and, Bool.not_true, Bool.not_false, Bool.not_eq_true, Bool.false_eq_true, Bool.and_self, if_true, if_false, true_and, and_true, ↓reduceIte, eqD, neD, sh_int, eqv_int, eqv_strs, sDraw, List.length_cons, List.length_nil, Nat.zero_add, Nat.reduceAdd, decide_true, eq_self, List.length_map, e1, e2]
  refine comp_map (fun _ => .bool true) (fun x hx Rk hk => ?_) ?_
  · obtain ⟨b, hb, rfl⟩ := List.mem_map.mp hx
    simp only [Q.isDc, Q.sPar2K, Q.tDisp2, Q.tIxK, Q.sSetIxK, Q.tVd, Q.tGetK, Q.iKeysQ, Q.tDispK, Q.tVals, Q.tAddL, Q.sSetM, Q.sAl2, Q.tAlApp2, Q.sFrz2, Q.iZipM, Q.itZm, Q.tLcM, Q.addF, Q.isN, Q.mulF, Q.bandI, Q.iZip, Q.itZ, Q.slD, Q.enOf, Q.tV, Q.tK, Q.t2, Q.t1, Q.tB, Q.cI, Q.cIp, Q.subI, Q.fdivI, Q.fdivW, Q.modI, Q.ltI, Q.leI, Q.gtI, Q.geI, Q.negI, Q.vAnd, Q.vNot, Q.qAnd, Q.qOr, Q.qNot, Q.qIf, Q.chI, Q.tTupQ, Q.dNil, Q.dCons, Q.tLstQ, Q.tFz, Q.tCA, Q.lenD, Q.tupD, Q.isD, Q.isInt, Q.isBool, Q.isTup, Q.isStr, Q.tLenN, Q.tIxN, Q.setQ, Q.aNil, Q.aD, Q.aK, Q.tCallQ, Q.tCallKQ, Q.pick, Q.sNil, Q.sSeq, Q.sRet, Q.sExpr, Q.sIf, Q.sSet, Q.sSetL, Q.sAsg, Q.sFor, Q.sPar2, Q.sPar3, Q.pNil, Q.pD, Q.pO, Q.gN, Q.gT, Q.gsNil, Q.gsCons, Q.iQ, Q.itD, Q.iEn, Q.itE, Q.rg1, Q.oSome, Q.tSlQ, Q.revD, Q.tOwnM, Q.appC, Q.popC, Q.extC, Q.ownL, Q.tRepL, Q.repC, Q.sSetIx, Q.ixOwn, Q.tLcQ, Q.noOwn, Q.rstQ, Q.wipeQ, Q.sDn, Q.sSetD, Q.tDgetN, Q.dOwn, Q.sNever, Q.isB, Q.listD, Q.listC, Q.reprD, Q.Sl.isOwn, Q.sAugIx, Q.setQ, Q.tLcM, Q.augC, Q.keyD, Q.rg3, List.map_cons, List.map_nil, List.replicate_succ, List.replicate_zero, List.cons_append, List.nil_append, List.append_nil, List.getElem?_cons_zero, List.getElem?_cons_succ, List.set_cons_zero, List.set_cons_succ, List.getD_cons_zero, List.getD_cons_succ, List.filterMap_cons, List.filterMap_nil, List.all_cons, List.all_nil, Bool.and_true, Bool.true_and, Bool.not_true, Bool.not_false, Bool.not_eq_true, Bool.false_eq_true, Bool.and_self, if_true, if_false, true_and, and_true, ↓reduceIte, eqD, neD, sh_int, eqv_int, eqv_strs, sDraw, List.length_cons, List.length_nil, Nat.zero_add, Nat.reduceAdd, decide_true, eq_self]
    exact ⟨True.intro, ite_t2 (b := Q.isStr (plD b)) rfl (pl_in (hk _ (by simp only [Q.isDc, Q.sPar2K, Q.tDisp2, Q.tIxK, Q.sSetIxK, Q.tVd, Q.tGetK, Q.iKeysQ, Q.tDispK, Q.tVals, Q.tAddL, Q.sSetM, Q.sAl2, Q.tAlApp2, Q.sFrz2, Q.iZipM, Q.itZm, Q.tLcM, Q.addF, Q.isN, Q.mulF, Q.bandI, Q.iZip, Q.itZ, Q.slD, Q.enOf, Q.tV, Q.tK, Q.t2, Q.t1, Q.tB, Q.cI, Q.cIp, Q.subI, Q.fdivI, Q.fdivW, Q.modI, Q.ltI, Q.leI, Q.gtI, Q.geI, Q.negI, Q.vAnd, Q.vNot, Q.qAnd, Q.qOr, Q.qNot, Q.qIf, Q.chI, Q.tTupQ, Q.dNil, Q.dCons, Q.tLstQ, Q.tFz, Q.tCA, Q.lenD, Q.tupD, Q.isD, Q.isInt, Q.isBool, Q.isTup, Q.isStr, Q.tLenN, Q.tIxN, Q.setQ, Q.aNil, Q.aD, Q.aK, Q.tCallQ, Q.tCallKQ, Q.pick, Q.sNil, Q.sSeq, Q.sRet, Q.sExpr, Q.sIf, Q.sSet, Q.sSetL, Q.sAsg, Q.sFor, Q.sPar2, Q.sPar3, Q.pNil, Q.pD, Q.pO, Q.gN, Q.gT, Q.gsNil, Q.gsCons, Q.iQ, Q.itD, Q.iEn, Q.itE, Q.rg1, Q.oSome, Q.tSlQ, Q.revD, Q.tOwnM, Q.appC, Q.popC, Q.extC, Q.ownL, Q.tRepL, Q.repC, Q.sSetIx, Q.ixOwn, Q.tLcQ, Q.noOwn, Q.rstQ, Q.wipeQ, Q.sDn, Q.sSetD, Q.tDgetN, Q.dOwn, Q.sNever, Q.isB, Q.listD, Q.listC, Q.reprD, Q.Sl.isOwn, Q.sAugIx, Q.setQ, Q.tLcM, Q.augC, Q.keyD, Q.rg3, List.map_cons, List.map_nil, List.replicate_succ, List.replicate_zero, List.cons_append, List.nil_append, List.append_nil, List.getElem?_cons_zero, List.getElem?_cons_succ, List.set_cons_zero, List.set_cons_succ, List.getD_cons_zero, List.getD_cons_succ, List.filterMap_cons, List.filterMap_nil, List.all_cons, List.all_nil, Bool.and_true, Bool.true_and, Bool.not_true, Bool.not_false, Bool.not_eq_true, Bool.false_eq_true, Bool.and_self, if_true, if_false, true_and, and_true, ↓reduceIte, eqD, neD, sh_int, eqv_int, eqv_strs, sDraw, List.length_cons, List.length_nil, Nat.zero_add, Nat.reduceAdd, decide_true, eq_self])))⟩
  · simp only [Q.isDc, Q.sPar2K, Q.tDisp2, Q.tIxK, Q.sSetIxK, Q.tVd, Q.tGetK, Q.iKeysQ, Q.tDispK, Q.tVals, Q.tAddL, Q.sSetM, Q.sAl2, Q.tAlApp2, Q.sFrz2, Q.iZipM, Q.itZm, Q.tLcM, Q.addF, Q.isN, Q.mulF, Q.bandI, Q.iZip, Q.itZ, Q.slD, Q.enOf, Q.tV, Q.tK, Q.t2, Q.t1, Q.tB, Q.cI, Q.cIp, Q.subI, Q.fdivI, Q.fdivW, Q.modI, Q.ltI, Q.leI, Q.gtI, Q.geI, Q.negI, Q.vAnd, Q.vNot, Q.qAnd, Q.qOr, Q.qNot, Q.qIf, Q.chI, Q.tTupQ, Q.dNil, Q.dCons, Q.tLstQ, Q.tFz, Q.tCA, Q.lenD, Q.tupD, Q.isD, Q.isInt, Q.isBool, Q.isTup, Q.isStr, Q.tLenN, Q.tIxN, Q.setQ, Q.aNil, Q.aD, Q.aK, Q.tCallQ, Q.tCallKQ, Q.pick, Q.sNil, Q.sSeq, Q.sRet, Q.sExpr, Q.sIf, Q.sSet, Q.sSetL, Q.sAsg, Q.sFor, Q.sPar2, Q.sPar3, Q.pNil, Q.pD, Q.pO, Q.gN, Q.gT, Q.gsNil, Q.gsCons, Q.iQ, Q.itD, Q.iEn, Q.itE, Q.rg1, Q.oSome, Q.tSlQ, Q.revD, Q.tOwnM, Q.appC, Q.popC, Q.extC, Q.ownL, Q.tRepL, Q.repC, Q.sSetIx, Q.ixOwn, Q.tLcQ, Q.noOwn, Q.rstQ, Q.wipeQ, Q.sDn, Q.sSetD, Q.tDgetN, Q.dOwn, Q.sNever, Q.isB, Q.listD, Q.listC, Q.reprD, Q.Sl.isOwn, Q.sAugIx, Q.setQ, Q.tLcM, Q.augC, Q.keyD, Q.rg3, List.map_cons, List.map_nil, List.replicate_succ, List.replicate_zero, List.cons_append, List.nil_append, List.append_nil, List.getElem?_cons_zero, List.getElem?_cons_succ, List.set_cons_zero, List.set_cons_succ, List.getD_cons_zero, List.getD_cons_succ, List.filterMap_cons, List.filterMap_nil, List.all_cons, List.all_nil, Bool.and_true, Bool.true_and, Bool.not_true, Bool.not_false, Bool.not_eq_true, Bool.false_eq_true, Bool.and_self, if_true, if_false, true_and, and_true, ↓reduceIte, eqD, neD, sh_int, eqv_int, eqv_strs, sDraw, List.length_cons, List.length_nil, Nat.zero_add, Nat.reduceAdd, decide_true, eq_self, allD, List.map_map]
    exact tr_ex h
def sp_need_number : PSpec := fun as R => ∃ n : Int, as = [.d (.int n)] ∧ 0 ≤ n ∧ R .none
theorem len_need_number : ∀ as R, sp_need_number as R → as.length = 1 := by rintro as R ⟨i, rfl, _⟩; rfl
theorem rd_need_number : ∀ as R, sp_need_number as R → t_need_number sp_is_integer { nx := fun _ => R .none, rt := R } (enOf as 0) := by
  rintro as R ⟨n, rfl, h0, h⟩
  simp only [t_need_number, Q.isDc, Q.sPar2K, Q.tDisp2, Q.tIxK, Q.sSetIxK, Q.tVd, Q.tGetK, Q.iKeysQ, Q.tDispK, Q.tVals, Q.tAddL, Q.sSetM, Q.sAl2, Q.tAlApp2, Q.sFrz2, Q.iZipM, Q.itZm, Q.tLcM, Q.addF, Q.isN, Q.mulF, Q.bandI, Q.iZip, Q.itZ, Q.slD, Q.enOf, Q.tV, Q.tK, Q.t2, Q.t1, Q.tB, Q.cI, Q.cIp, Q.subI, Q.fdivI, Q.fdivW, Q.modI, Q.ltI, Q.leI, Q.gtI, Q.geI, Q.negI, Q.vAnd, Q.vNot, Q.qAnd, Q.qOr, Q.qNot, Q.qIf, Q.chI, Q.tTupQ, Q.dNil, Q.dCons, Q.tLstQ, Q.tFz, Q.tCA, Q.lenD, Q.tupD, Q.isD, Q.isInt, Q.isBool, Q.isTup, Q.isStr, Q.tLenN, Q.tIxN, Q.setQ, Q.aNil, Q.aD, Q.aK, Q.tCallQ, Q.tCallKQ, Q.pick, Q.sNil, Q.sSeq, Q.sRet, Q.sExpr, Q.sIf, Q.sSet, Q.sSetL, Q.sAsg, Q.sFor, Q.sPar2, Q.sPar3, Q.pNil, Q.pD, Q.pO, Q.gN, Q.gT, Q.gsNil, Q.gsCons, Q.iQ, Q.itD, Q.iEn, Q.itE, Q.rg1, Q.oSome, Q.tSlQ, Q.revD, Q.tOwnM, Q.appC, Q.popC, Q.extC, Q.ownL, Q.tRepL, Q.repC, Q.sSetIx, Q.ixOwn, Q.tLcQ, Q.noOwn, Q.rstQ, Q.wipeQ, Q.sDn, Q.sSetD, Q.tDgetN, Q.dOwn, Q.sNever, Q.isB, Q.listD, Q.listC, Q.reprD, Q.Sl.isOwn, Q.sAugIx, Q.setQ, Q.tLcM, Q.augC, Q.keyD, Q.rg3, List.map_cons, List.map_nil, List.replicate_succ, List.replicate_zero, List.cons_append, List.nil_append, List.append_nil, List.getElem?_cons_zero, List.getElem?_cons_succ, List.set_cons_zero, List.set_cons_succ, List.getD_cons_zero, List.getD_cons_succ, List.filterMap_cons, List.filterMap_nil, List.all_cons, List.all_nil, Bool.and_true, Bool.true_and, Bool.not_true, Bool.not_false, Bool.not_eq_true, Bool.false_eq_true, Bool.and_self, if_true, if_false, true_and, and_true, ↓reduceIte, eqD, neD, sh_int, eqv_int, eqv_strs, sDraw, List.length_cons, List.length_nil, Nat.zero_add, Nat.reduceAdd, decide_true, eq_self]
  refine ⟨n, rfl, ?_⟩
  have e : decide (n < 0) = false := by simp; omega
  simp only [Q.isDc, Q.sPar2K, Q.tDisp2, Q.tIxK, Q.sSetIxK, Q.tVd, Q.tGetK, Q.iKeysQ, Q.tDispK, Q.tVals, Q.tAddL, Q.sSetM, Q.sAl2, Q.tAlApp2, Q.sFrz2, Q.iZipM, Q.itZm, Q.tLcM, Q.addF, Q.isN, Q.mulF, Q.bandI, Q.iZip, Q.itZ, Q.slD, Q.enOf, Q.tV, Q.tK, Q.t2, Q.t1, Q.tB, Q.cI, Q.cIp, Q.subI, Q.fdivI, Q.fdivW, Q.modI, Q.ltI, Q.leI, Q.gtI, Q.geI, Q.negI, Q.vAnd, Q.vNot, Q.qAnd, Q.qOr, Q.qNot, Q.qIf, Q.chI, Q.tTupQ, Q.dNil, Q.dCons, Q.tLstQ, Q.tFz, Q.tCA, Q.lenD, Q.tupD, Q.isD, Q.isInt, Q.isBool, Q.isTup, Q.isStr, Q.tLenN, Q.tIxN, Q.setQ, Q.aNil, Q.aD, Q.aK, Q.tCallQ, Q.tCallKQ, Q.pick, Q.sNil, Q.sSeq, Q.sRet, Q.sExpr, Q.sIf, Q.sSet, Q.sSetL, Q.sAsg, Q.sFor, Q.sPar2, Q.sPar3, Q.pNil, Q.pD, Q.pO, Q.gN, Q.gT, Q.gsNil, Q.gsCons, Q.iQ, Q.itD, Q.iEn, Q.itE, Q.rg1, Q.oSome, Q.tSlQ, Q.revD, Q.tOwnM, Q.appC, Q.popC, Q.extC, Q.ownL, Q.tRepL, Q.repC, Q.sSetIx, Q.ixOwn, Q.tLcQ, Q.noOwn, Q.rstQ, Q.wipeQ, Q.sDn, Q.sSetD, Q.tDgetN, Q.dOwn, Q.sNever, Q.isB, Q.listD, Q.listC, Q.reprD, Q.Sl.isOwn, Q.sAugIx, Q.setQ, Q.tLcM, Q.augC, Q.keyD, Q.rg3, List.map_cons, List.map_nil, List.replicate_succ, List.replicate_zero, List.cons_append, List.nil_append, List.append_nil, List.getElem?_cons_zero, List.getElem?_cons_succ, List.set_cons_zero, List.set_cons_succ, List.getD_cons_zero, List.getD_cons_succ, List.filterMap_cons, List.filterMap_nil, List.all_cons, List.all_nil, Bool.and_true, Bool.true_and, Bool.not_true, Bool.not_false, Bool.not_eq_true, Bool.false_eq_true, Bool.and_self, if_true, if_false, true_and, and_true, ↓reduceIte, eqD, neD, sh_int, eqv_int, eqv_strs, sDraw, List.length_cons, List.length_nil, Nat.zero_add, Nat.reduceAdd, decide_true, eq_self, e]
  exact h
theorem okR_length : ∀ {ds : List Desk} {c : List Int}, OkR ds c → ds.length = c.length
  | [], [], _ => rfl
  | [], _ :: _, h => h.elim
  | _ :: _, [], h => h.elim
  | d :: ds, p :: c, h => by rw [List.length_cons, List.length_cons, okR_length h.2]
theorem code_at {ds : List Desk} {n : Int} (h : DsOk ds) (n0 : 0 ≤ n) (n1 : n < many ds) : OkR ds (codeAt ds n) ∧ pos ds (codeAt ds n) = n ∧ sgn ds (codeAt ds n) = wR ds.reverse n := by
  have c := code_ok h.rev n0 n1
  have o : OkR ds (codeAt ds n) := by
    have := OkR.rev c.1
    rw [List.reverse_reverse] at this; exact this
  refine ⟨o, ?_, ?_⟩
  · unfold pos codeAt; rw [List.reverse_reverse]; exact c.2
  · rw [← sgn_rev ds _ (okR_length o)]
    unfold codeAt wR; rw [List.reverse_reverse]
theorem many_snoc (ds : List Desk) (d : Desk) : many (ds ++ [d]) = many ds * d.length := by unfold many; rw [List.reverse_append]; rfl
theorem loop_desks (R : EndsQ) (s1 : Sl) (lim : Int) (first : Desk) (hf1 : 1 ≤ first.length) (hf2 : first.length ≤ 6) (one : Bool) : ∀ (xs : List PyData) (found : List Desk) (codes : Int) (s7 s8 : Sl), DsOk found → found.length + xs.length ≤ 12 → codes = many found → many found ≤ max lim 1 →
    (∀ (found : List Desk) s4 s7 s8, DsOk found → found.length ≤ 12 → many found ≤ max lim 1 → R.nx [.dk, s1, .d (.int lim), .own (found.map deskD), s4, .d (deskD first), .d (.bool one), s7, s8]) →
    forQ (gN 7) lpBody R xs [.dk, s1, .d (.int lim), .own (found.map deskD), .d (.int codes), .d (deskD first), .d (.bool one), s7, s8]
  | [], found, codes, s7, s8, ok, hl, hc, hm, h => by simpa only [forQ] using h found (.d (.int codes)) s7 s8 ok (by simpa using hl) hm
  | x :: xs, found, codes, s7, s8, ok, hl, hc, hm, h => by
    rw [List.length_cons] at hl
    have next : ∀ d : Desk, 1 ≤ d.length → d.length ≤ 6 → lpTail { R with nx := forQ (gN 7) lpBody R xs, bk := R.nx, ct := forQ (gN 7) lpBody R xs } [.dk, s1, .d (.int lim), .own (found.map deskD), .d (.int codes), .d (deskD first), .d (.bool one), .d x, .d (deskD d)] := fun d hd1 hd2 => by
      simp only [lpTail, deskD, Q.isDc, Q.sPar2K, Q.tDisp2, Q.tIxK, Q.sSetIxK, Q.tVd, Q.tGetK, Q.iKeysQ, Q.tDispK, Q.tVals, Q.tAddL, Q.sSetM, Q.sAl2, Q.tAlApp2, Q.sFrz2, Q.iZipM, Q.itZm, Q.tLcM, Q.addF, Q.isN, Q.mulF, Q.bandI, Q.iZip, Q.itZ, Q.slD, Q.enOf, Q.tV, Q.tK, Q.t2, Q.t1, Q.tB, Q.cI, Q.cIp, Q.subI, Q.fdivI, Q.fdivW, Q.modI, Q.ltI, Q.leI, Q.gtI, Q.geI, Q.negI, Q.vAnd, Q.vNot, Q.qAnd, Q.qOr, Q.qNot, Q.qIf, Q.chI, Q.tTupQ, Q.dNil, Q.dCons, Q.tLstQ, Q.tFz, Q.tCA, Q.lenD, Q.tupD, Q.isD, Q.isInt, Q.isBool, Q.isTup, Q.isStr, Q.tLenN, Q.tIxN, Q.setQ, Q.aNil, Q.aD, Q.aK, Q.tCallQ, Q.tCallKQ, Q.pick, Q.sNil, Q.sSeq, Q.sRet, Q.sExpr, Q.sIf, Q.sSet, Q.sSetL, Q.sAsg, Q.sFor, Q.sPar2, Q.sPar3, Q.pNil, Q.pD, Q.pO, Q.gN, Q.gT, Q.gsNil, Q.gsCons, Q.iQ, Q.itD, Q.iEn, Q.itE, Q.rg1, Q.oSome, Q.tSlQ, Q.revD, Q.tOwnM, Q.appC, Q.popC, Q.extC, Q.ownL, Q.tRepL, Q.repC, Q.sSetIx, Q.ixOwn, Q.tLcQ, Q.noOwn, Q.rstQ, Q.wipeQ, Q.sDn, Q.sSetD, Q.tDgetN, Q.dOwn, Q.sNever, Q.isB, Q.listD, Q.listC, Q.reprD, Q.Sl.isOwn, Q.sAugIx, Q.setQ, Q.tLcM, Q.augC, Q.keyD, Q.rg3, List.map_cons, List.map_nil, List.replicate_succ, List.replicate_zero, List.cons_append, List.nil_append, List.append_nil, List.getElem?_cons_zero, List.getElem?_cons_succ, List.set_cons_zero, List.set_cons_succ, List.getD_cons_zero, List.getD_cons_succ, List.filterMap_cons, List.filterMap_nil, List.all_cons, List.all_nil, Bool.and_true, Bool.true_and, Bool.not_true, Bool.not_false, Bool.not_eq_true, Bool.false_eq_true, Bool.and_self, if_true, if_false, true_and, and_true, ↓reduceIte, eqD, neD, sh_int, eqv_int, eqv_strs, sDraw, List.length_cons, List.length_nil, Nat.zero_add, Nat.reduceAdd, decide_true, eq_self, List.length_map]
      refine ⟨.inr ⟨by omega, by omega⟩, ?_⟩
      cases e : decide (codes * (d.length : Int) ≤ lim) with
      | true =>
        simp only [Q.isDc, Q.sPar2K, Q.tDisp2, Q.tIxK, Q.sSetIxK, Q.tVd, Q.tGetK, Q.iKeysQ, Q.tDispK, Q.tVals, Q.tAddL, Q.sSetM, Q.sAl2, Q.tAlApp2, Q.sFrz2, Q.iZipM, Q.itZm, Q.tLcM, Q.addF, Q.isN, Q.mulF, Q.bandI, Q.iZip, Q.itZ, Q.slD, Q.enOf, Q.tV, Q.tK, Q.t2, Q.t1, Q.tB, Q.cI, Q.cIp, Q.subI, Q.fdivI, Q.fdivW, Q.modI, Q.ltI, Q.leI, Q.gtI, Q.geI, Q.negI, Q.vAnd, Q.vNot, Q.qAnd, Q.qOr, Q.qNot, Q.qIf, Q.chI, Q.tTupQ, Q.dNil, Q.dCons, Q.tLstQ, Q.tFz, Q.tCA, Q.lenD, Q.tupD, Q.isD, Q.isInt, Q.isBool, Q.isTup, Q.isStr, Q.tLenN, Q.tIxN, Q.setQ, Q.aNil, Q.aD, Q.aK, Q.tCallQ, Q.tCallKQ, Q.pick, Q.sNil, Q.sSeq, Q.sRet, Q.sExpr, Q.sIf, Q.sSet, Q.sSetL, Q.sAsg, Q.sFor, Q.sPar2, Q.sPar3, Q.pNil, Q.pD, Q.pO, Q.gN, Q.gT, Q.gsNil, Q.gsCons, Q.iQ, Q.itD, Q.iEn, Q.itE, Q.rg1, Q.oSome, Q.tSlQ, Q.revD, Q.tOwnM, Q.appC, Q.popC, Q.extC, Q.ownL, Q.tRepL, Q.repC, Q.sSetIx, Q.ixOwn, Q.tLcQ, Q.noOwn, Q.rstQ, Q.wipeQ, Q.sDn, Q.sSetD, Q.tDgetN, Q.dOwn, Q.sNever, Q.isB, Q.listD, Q.listC, Q.reprD, Q.Sl.isOwn, Q.sAugIx, Q.setQ, Q.tLcM, Q.augC, Q.keyD, Q.rg3, List.map_cons, List.map_nil, List.replicate_succ, List.replicate_zero, List.cons_append, List.nil_append, List.append_nil, List.getElem?_cons_zero, List.getElem?_cons_succ, List.set_cons_zero, List.set_cons_succ, List.getD_cons_zero, List.getD_cons_succ, List.filterMap_cons, List.filterMap_nil, List.all_cons, List.all_nil, Bool.and_true, Bool.true_and, Bool.not_true, Bool.not_false, Bool.not_eq_true, Bool.false_eq_true, Bool.and_self, if_true, if_false, true_and, and_true, ↓reduceIte, eqD, neD, sh_int, eqv_int, eqv_strs, sDraw, List.length_cons, List.length_nil, Nat.zero_add, Nat.reduceAdd, decide_true, eq_self, List.length_map]
        refine ⟨by omega, .inr ⟨by omega, by omega⟩, ?_⟩
        have step := loop_desks R s1 lim first hf1 hf2 one xs (found ++ [d]) (codes * (d.length : Int)) (.d x) (.d (deskD d)) (fun z hz => by
          rcases List.mem_append.mp hz with hz | hz
          · exact ok z hz
          · rw [List.mem_singleton] at hz; subst hz; exact ⟨hd1, hd2⟩) (by rw [List.length_append]; simp; omega) (by rw [many_snoc, hc]) (by have e1 := of_decide_eq_true e; rw [many_snoc, ← hc]; omega) h
        rw [List.map_append] at step
        exact step
      | false =>
        simp only [Q.isDc, Q.sPar2K, Q.tDisp2, Q.tIxK, Q.sSetIxK, Q.tVd, Q.tGetK, Q.iKeysQ, Q.tDispK, Q.tVals, Q.tAddL, Q.sSetM, Q.sAl2, Q.tAlApp2, Q.sFrz2, Q.iZipM, Q.itZm, Q.tLcM, Q.addF, Q.isN, Q.mulF, Q.bandI, Q.iZip, Q.itZ, Q.slD, Q.enOf, Q.tV, Q.tK, Q.t2, Q.t1, Q.tB, Q.cI, Q.cIp, Q.subI, Q.fdivI, Q.fdivW, Q.modI, Q.ltI, Q.leI, Q.gtI, Q.geI, Q.negI, Q.vAnd, Q.vNot, Q.qAnd, Q.qOr, Q.qNot, Q.qIf, Q.chI, Q.tTupQ, Q.dNil, Q.dCons, Q.tLstQ, Q.tFz, Q.tCA, Q.lenD, Q.tupD, Q.isD, Q.isInt, Q.isBool, Q.isTup, Q.isStr, Q.tLenN, Q.tIxN, Q.setQ, Q.aNil, Q.aD, Q.aK, Q.tCallQ, Q.tCallKQ, Q.pick, Q.sNil, Q.sSeq, Q.sRet, Q.sExpr, Q.sIf, Q.sSet, Q.sSetL, Q.sAsg, Q.sFor, Q.sPar2, Q.sPar3, Q.pNil, Q.pD, Q.pO, Q.gN, Q.gT, Q.gsNil, Q.gsCons, Q.iQ, Q.itD, Q.iEn, Q.itE, Q.rg1, Q.oSome, Q.tSlQ, Q.revD, Q.tOwnM, Q.appC, Q.popC, Q.extC, Q.ownL, Q.tRepL, Q.repC, Q.sSetIx, Q.ixOwn, Q.tLcQ, Q.noOwn, Q.rstQ, Q.wipeQ, Q.sDn, Q.sSetD, Q.tDgetN, Q.dOwn, Q.sNever, Q.isB, Q.listD, Q.listC, Q.reprD, Q.Sl.isOwn, Q.sAugIx, Q.setQ, Q.tLcM, Q.augC, Q.keyD, Q.rg3, List.map_cons, List.map_nil, List.replicate_succ, List.replicate_zero, List.cons_append, List.nil_append, List.append_nil, List.getElem?_cons_zero, List.getElem?_cons_succ, List.set_cons_zero, List.set_cons_succ, List.getD_cons_zero, List.getD_cons_succ, List.filterMap_cons, List.filterMap_nil, List.all_cons, List.all_nil, Bool.and_true, Bool.true_and, Bool.not_true, Bool.not_false, Bool.not_eq_true, Bool.false_eq_true, Bool.and_self, if_true, if_false, true_and, and_true, ↓reduceIte, eqD, neD, sh_int, eqv_int, eqv_strs, sDraw, List.length_cons, List.length_nil, Nat.zero_add, Nat.reduceAdd, decide_true, eq_self]
        exact loop_desks R s1 lim first hf1 hf2 one xs found codes (.d x) (.d (deskD d)) ok (by omega) hc hm h
    simp only [forQ, lpBody, gN]
    show sSeq _ lpTail _ _
    simp only [Q.isDc, Q.sPar2K, Q.tDisp2, Q.tIxK, Q.sSetIxK, Q.tVd, Q.tGetK, Q.iKeysQ, Q.tDispK, Q.tVals, Q.tAddL, Q.sSetM, Q.sAl2, Q.tAlApp2, Q.sFrz2, Q.iZipM, Q.itZm, Q.tLcM, Q.addF, Q.isN, Q.mulF, Q.bandI, Q.iZip, Q.itZ, Q.slD, Q.enOf, Q.tV, Q.tK, Q.t2, Q.t1, Q.tB, Q.cI, Q.cIp, Q.subI, Q.fdivI, Q.fdivW, Q.modI, Q.ltI, Q.leI, Q.gtI, Q.geI, Q.negI, Q.vAnd, Q.vNot, Q.qAnd, Q.qOr, Q.qNot, Q.qIf, Q.chI, Q.tTupQ, Q.dNil, Q.dCons, Q.tLstQ, Q.tFz, Q.tCA, Q.lenD, Q.tupD, Q.isD, Q.isInt, Q.isBool, Q.isTup, Q.isStr, Q.tLenN, Q.tIxN, Q.setQ, Q.aNil, Q.aD, Q.aK, Q.tCallQ, Q.tCallKQ, Q.pick, Q.sNil, Q.sSeq, Q.sRet, Q.sExpr, Q.sIf, Q.sSet, Q.sSetL, Q.sAsg, Q.sFor, Q.sPar2, Q.sPar3, Q.pNil, Q.pD, Q.pO, Q.gN, Q.gT, Q.gsNil, Q.gsCons, Q.iQ, Q.itD, Q.iEn, Q.itE, Q.rg1, Q.oSome, Q.tSlQ, Q.revD, Q.tOwnM, Q.appC, Q.popC, Q.extC, Q.ownL, Q.tRepL, Q.repC, Q.sSetIx, Q.ixOwn, Q.tLcQ, Q.noOwn, Q.rstQ, Q.wipeQ, Q.sDn, Q.sSetD, Q.tDgetN, Q.dOwn, Q.sNever, Q.isB, Q.listD, Q.listC, Q.reprD, Q.Sl.isOwn, Q.sAugIx, Q.setQ, Q.tLcM, Q.augC, Q.keyD, Q.rg3, List.map_cons, List.map_nil, List.replicate_succ, List.replicate_zero, List.cons_append, List.nil_append, List.append_nil, List.getElem?_cons_zero, List.getElem?_cons_succ, List.set_cons_zero, List.set_cons_succ, List.getD_cons_zero, List.getD_cons_succ, List.filterMap_cons, List.filterMap_nil, List.all_cons, List.all_nil, Bool.and_true, Bool.true_and, Bool.not_true, Bool.not_false, Bool.not_eq_true, Bool.false_eq_true, Bool.and_self, if_true, if_false, true_and, and_true, ↓reduceIte, eqD, neD, sh_int, eqv_int, eqv_strs, sDraw, List.length_cons, List.length_nil, Nat.zero_add, Nat.reduceAdd, decide_true, eq_self]
    cases one with
    | true => simp only [Q.isDc, Q.sPar2K, Q.tDisp2, Q.tIxK, Q.sSetIxK, Q.tVd, Q.tGetK, Q.iKeysQ, Q.tDispK, Q.tVals, Q.tAddL, Q.sSetM, Q.sAl2, Q.tAlApp2, Q.sFrz2, Q.iZipM, Q.itZm, Q.tLcM, Q.addF, Q.isN, Q.mulF, Q.bandI, Q.iZip, Q.itZ, Q.slD, Q.enOf, Q.tV, Q.tK, Q.t2, Q.t1, Q.tB, Q.cI, Q.cIp, Q.subI, Q.fdivI, Q.fdivW, Q.modI, Q.ltI, Q.leI, Q.gtI, Q.geI, Q.negI, Q.vAnd, Q.vNot, Q.qAnd, Q.qOr, Q.qNot, Q.qIf, Q.chI, Q.tTupQ, Q.dNil, Q.dCons, Q.tLstQ, Q.tFz, Q.tCA, Q.lenD, Q.tupD, Q.isD, Q.isInt, Q.isBool, Q.isTup, Q.isStr, Q.tLenN, Q.tIxN, Q.setQ, Q.aNil, Q.aD, Q.aK, Q.tCallQ, Q.tCallKQ, Q.pick, Q.sNil, Q.sSeq, Q.sRet, Q.sExpr, Q.sIf, Q.sSet, Q.sSetL, Q.sAsg, Q.sFor, Q.sPar2, Q.sPar3, Q.pNil, Q.pD, Q.pO, Q.gN, Q.gT, Q.gsNil, Q.gsCons, Q.iQ, Q.itD, Q.iEn, Q.itE, Q.rg1, Q.oSome, Q.tSlQ, Q.revD, Q.tOwnM, Q.appC, Q.popC, Q.extC, Q.ownL, Q.tRepL, Q.repC, Q.sSetIx, Q.ixOwn, Q.tLcQ, Q.noOwn, Q.rstQ, Q.wipeQ, Q.sDn, Q.sSetD, Q.tDgetN, Q.dOwn, Q.sNever, Q.isB, Q.listD, Q.listC, Q.reprD, Q.Sl.isOwn, Q.sAugIx, Q.setQ, Q.tLcM, Q.augC, Q.keyD, Q.rg3, List.map_cons, List.map_nil, List.replicate_succ, List.replicate_zero, List.cons_append, List.nil_append, List.append_nil, List.getElem?_cons_zero, List.getElem?_cons_succ, List.set_cons_zero, List.set_cons_succ, List.getD_cons_zero, List.getD_cons_succ, List.filterMap_cons, List.filterMap_nil, List.all_cons, List.all_nil, Bool.and_true, Bool.true_and, Bool.not_true, Bool.not_false, Bool.not_eq_true, Bool.false_eq_true, Bool.and_self, if_true, if_false, true_and, and_true, ↓reduceIte, eqD, neD, sh_int, eqv_int, eqv_strs, sDraw, List.length_cons, List.length_nil, Nat.zero_add, Nat.reduceAdd, decide_true, eq_self]; exact next first hf1 hf2
    | false =>
      simp only [Q.isDc, Q.sPar2K, Q.tDisp2, Q.tIxK, Q.sSetIxK, Q.tVd, Q.tGetK, Q.iKeysQ, Q.tDispK, Q.tVals, Q.tAddL, Q.sSetM, Q.sAl2, Q.tAlApp2, Q.sFrz2, Q.iZipM, Q.itZm, Q.tLcM, Q.addF, Q.isN, Q.mulF, Q.bandI, Q.iZip, Q.itZ, Q.slD, Q.enOf, Q.tV, Q.tK, Q.t2, Q.t1, Q.tB, Q.cI, Q.cIp, Q.subI, Q.fdivI, Q.fdivW, Q.modI, Q.ltI, Q.leI, Q.gtI, Q.geI, Q.negI, Q.vAnd, Q.vNot, Q.qAnd, Q.qOr, Q.qNot, Q.qIf, Q.chI, Q.tTupQ, Q.dNil, Q.dCons, Q.tLstQ, Q.tFz, Q.tCA, Q.lenD, Q.tupD, Q.isD, Q.isInt, Q.isBool, Q.isTup, Q.isStr, Q.tLenN, Q.tIxN, Q.setQ, Q.aNil, Q.aD, Q.aK, Q.tCallQ, Q.tCallKQ, Q.pick, Q.sNil, Q.sSeq, Q.sRet, Q.sExpr, Q.sIf, Q.sSet, Q.sSetL, Q.sAsg, Q.sFor, Q.sPar2, Q.sPar3, Q.pNil, Q.pD, Q.pO, Q.gN, Q.gT, Q.gsNil, Q.gsCons, Q.iQ, Q.itD, Q.iEn, Q.itE, Q.rg1, Q.oSome, Q.tSlQ, Q.revD, Q.tOwnM, Q.appC, Q.popC, Q.extC, Q.ownL, Q.tRepL, Q.repC, Q.sSetIx, Q.ixOwn, Q.tLcQ, Q.noOwn, Q.rstQ, Q.wipeQ, Q.sDn, Q.sSetD, Q.tDgetN, Q.dOwn, Q.sNever, Q.isB, Q.listD, Q.listC, Q.reprD, Q.Sl.isOwn, Q.sAugIx, Q.setQ, Q.tLcM, Q.augC, Q.keyD, Q.rg3, List.map_cons, List.map_nil, List.replicate_succ, List.replicate_zero, List.cons_append, List.nil_append, List.append_nil, List.getElem?_cons_zero, List.getElem?_cons_succ, List.set_cons_zero, List.set_cons_succ, List.getD_cons_zero, List.getD_cons_succ, List.filterMap_cons, List.filterMap_nil, List.all_cons, List.all_nil, Bool.and_true, Bool.true_and, Bool.not_true, Bool.not_false, Bool.not_eq_true, Bool.false_eq_true, Bool.and_self, if_true, if_false, true_and, and_true, ↓reduceIte, eqD, neD, sh_int, eqv_int, eqv_strs, sDraw, List.length_cons, List.length_nil, Nat.zero_add, Nat.reduceAdd, decide_true, eq_self]
      refine ⟨by decide, _, .inr rfl, by simp, by simp, fun m hm => ?_⟩
      obtain ⟨q, rfl, q1, q6⟩ : ∃ q : Int, m = .int q ∧ 1 ≤ q ∧ q ≤ 6 := by
        simp only [List.mem_cons, List.not_mem_nil, or_false] at hm
        rcases hm with rfl | rfl | rfl | rfl <;> exact ⟨_, rfl, by decide, by decide⟩
      try simp only [Q.isDc, Q.sPar2K, Q.tDisp2, Q.tIxK, Q.sSetIxK, Q.tVd, Q.tGetK, Q.iKeysQ, Q.tDispK, Q.tVals, Q.tAddL, Q.sSetM, Q.sAl2, Q.tAlApp2, Q.sFrz2, Q.iZipM, Q.itZm, Q.tLcM, Q.addF, Q.isN, Q.mulF, Q.bandI, Q.iZip, Q.itZ, Q.slD, Q.enOf, Q.tV, Q.tK, Q.t2, Q.t1, Q.tB, Q.cI, Q.cIp, Q.subI, Q.fdivI, Q.fdivW, Q.modI, Q.ltI, Q.leI, Q.gtI, Q.geI, Q.negI, Q.vAnd, Q.vNot, Q.qAnd, Q.qOr, Q.qNot, Q.qIf, Q.chI, Q.tTupQ, Q.dNil, Q.dCons, Q.tLstQ, Q.tFz, Q.tCA, Q.lenD, Q.tupD, Q.isD, Q.isInt, Q.isBool, Q.isTup, Q.isStr, Q.tLenN, Q.tIxN, Q.setQ, Q.aNil, Q.aD, Q.aK, Q.tCallQ, Q.tCallKQ, Q.pick, Q.sNil, Q.sSeq, Q.sRet, Q.sExpr, Q.sIf, Q.sSet, Q.sSetL, Q.sAsg, Q.sFor, Q.sPar2, Q.sPar3, Q.pNil, Q.pD, Q.pO, Q.gN, Q.gT, Q.gsNil, Q.gsCons, Q.iQ, Q.itD, Q.iEn, Q.itE, Q.rg1, Q.oSome, Q.tSlQ, Q.revD, Q.tOwnM, Q.appC, Q.popC, Q.extC, Q.ownL, Q.tRepL, Q.repC, Q.sSetIx, Q.ixOwn, Q.tLcQ, Q.noOwn, Q.rstQ, Q.wipeQ, Q.sDn, Q.sSetD, Q.tDgetN, Q.dOwn, Q.sNever, Q.isB, Q.listD, Q.listC, Q.reprD, Q.Sl.isOwn, Q.sAugIx, Q.setQ, Q.tLcM, Q.augC, Q.keyD, Q.rg3, List.map_cons, List.map_nil, List.replicate_succ, List.replicate_zero, List.cons_append, List.nil_append, List.append_nil, List.getElem?_cons_zero, List.getElem?_cons_succ, List.set_cons_zero, List.set_cons_succ, List.getD_cons_zero, List.getD_cons_succ, List.filterMap_cons, List.filterMap_nil, List.all_cons, List.all_nil, Bool.and_true, Bool.true_and, Bool.not_true, Bool.not_false, Bool.not_eq_true, Bool.false_eq_true, Bool.and_self, if_true, if_false, true_and, and_true, ↓reduceIte, eqD, neD, sh_int, eqv_int, eqv_strs, sDraw, List.length_cons, List.length_nil, Nat.zero_add, Nat.reduceAdd, decide_true, eq_self]
      exact ⟨q, rfl, q1, q6, fun d h1 h2 => next d h1 h2⟩
def sp__law_desks : PSpec := fun as R => ∃ (m : Nat) (lim : Int), as = [.dk, .d (.int m), .d (.int lim)] ∧ m ≤ 12 ∧ ∀ ds : List Desk, T44.Dk ds → many ds ≤ max lim 1 → R (desksD ds)
theorem len__law_desks : ∀ as R, sp__law_desks as R → as.length = 3 := by rintro as R ⟨i, j, rfl, _⟩; rfl
theorem rd__law_desks : ∀ as R, sp__law_desks as R → t__law_desks sp__law_desk sDraw sp__law_pick { nx := fun _ => R .none, rt := R } (enOf as 6) := by
  rintro as R ⟨m, lim, rfl, hm, h⟩
  show (sSeq _ (sSeq _ (sSeq (sFor _ (gN 7) lpBody) _))) _ _
  simp only [Q.isDc, Q.sPar2K, Q.tDisp2, Q.tIxK, Q.sSetIxK, Q.tVd, Q.tGetK, Q.iKeysQ, Q.tDispK, Q.tVals, Q.tAddL, Q.sSetM, Q.sAl2, Q.tAlApp2, Q.sFrz2, Q.iZipM, Q.itZm, Q.tLcM, Q.addF, Q.isN, Q.mulF, Q.bandI, Q.iZip, Q.itZ, Q.slD, Q.enOf, Q.tV, Q.tK, Q.t2, Q.t1, Q.tB, Q.cI, Q.cIp, Q.subI, Q.fdivI, Q.fdivW, Q.modI, Q.ltI, Q.leI, Q.gtI, Q.geI, Q.negI, Q.vAnd, Q.vNot, Q.qAnd, Q.qOr, Q.qNot, Q.qIf, Q.chI, Q.tTupQ, Q.dNil, Q.dCons, Q.tLstQ, Q.tFz, Q.tCA, Q.lenD, Q.tupD, Q.isD, Q.isInt, Q.isBool, Q.isTup, Q.isStr, Q.tLenN, Q.tIxN, Q.setQ, Q.aNil, Q.aD, Q.aK, Q.tCallQ, Q.tCallKQ, Q.pick, Q.sNil, Q.sSeq, Q.sRet, Q.sExpr, Q.sIf, Q.sSet, Q.sSetL, Q.sAsg, Q.sFor, Q.sPar2, Q.sPar3, Q.pNil, Q.pD, Q.pO, Q.gN, Q.gT, Q.gsNil, Q.gsCons, Q.iQ, Q.itD, Q.iEn, Q.itE, Q.rg1, Q.oSome, Q.tSlQ, Q.revD, Q.tOwnM, Q.appC, Q.popC, Q.extC, Q.ownL, Q.tRepL, Q.repC, Q.sSetIx, Q.ixOwn, Q.tLcQ, Q.noOwn, Q.rstQ, Q.wipeQ, Q.sDn, Q.sSetD, Q.tDgetN, Q.dOwn, Q.sNever, Q.isB, Q.listD, Q.listC, Q.reprD, Q.Sl.isOwn, Q.sAugIx, Q.setQ, Q.tLcM, Q.augC, Q.keyD, Q.rg3, List.map_cons, List.map_nil, List.replicate_succ, List.replicate_zero, List.cons_append, List.nil_append, List.append_nil, List.getElem?_cons_zero, List.getElem?_cons_succ, List.set_cons_zero, List.set_cons_succ, List.getD_cons_zero, List.getD_cons_succ, List.filterMap_cons, List.filterMap_nil, List.all_cons, List.all_nil, Bool.and_true, Bool.true_and, Bool.not_true, Bool.not_false, Bool.not_eq_true, Bool.false_eq_true, Bool.and_self, if_true, if_false, true_and, and_true, ↓reduceIte, eqD, neD, sh_int, eqv_int, eqv_strs, sDraw, List.length_cons, List.length_nil, Nat.zero_add, Nat.reduceAdd, decide_true, eq_self]
  refine ⟨by decide, 6, rfl, by decide, by decide, fun first hf1 hf2 => ⟨by decide, by decide, fun o ho1 ho2 => ⟨by omega, by omega, fun r hr1 hr2 => ⟨by omega, by omega, ?_⟩⟩⟩⟩
  refine loop_desks _ _ lim first hf1 hf2 _ (rg 0 r.toNat) [] 1 .un .un (fun d hd => by simp at hd) (by rw [rg_length]; simp; omega) rfl (by show (1 : Int) ≤ _; omega) fun found s4 s7 s8 ok hl hm2 => ?_
  simp only [Q.isDc, Q.sPar2K, Q.tDisp2, Q.tIxK, Q.sSetIxK, Q.tVd, Q.tGetK, Q.iKeysQ, Q.tDispK, Q.tVals, Q.tAddL, Q.sSetM, Q.sAl2, Q.tAlApp2, Q.sFrz2, Q.iZipM, Q.itZm, Q.tLcM, Q.addF, Q.isN, Q.mulF, Q.bandI, Q.iZip, Q.itZ, Q.slD, Q.enOf, Q.tV, Q.tK, Q.t2, Q.t1, Q.tB, Q.cI, Q.cIp, Q.subI, Q.fdivI, Q.fdivW, Q.modI, Q.ltI, Q.leI, Q.gtI, Q.geI, Q.negI, Q.vAnd, Q.vNot, Q.qAnd, Q.qOr, Q.qNot, Q.qIf, Q.chI, Q.tTupQ, Q.dNil, Q.dCons, Q.tLstQ, Q.tFz, Q.tCA, Q.lenD, Q.tupD, Q.isD, Q.isInt, Q.isBool, Q.isTup, Q.isStr, Q.tLenN, Q.tIxN, Q.setQ, Q.aNil, Q.aD, Q.aK, Q.tCallQ, Q.tCallKQ, Q.pick, Q.sNil, Q.sSeq, Q.sRet, Q.sExpr, Q.sIf, Q.sSet, Q.sSetL, Q.sAsg, Q.sFor, Q.sPar2, Q.sPar3, Q.pNil, Q.pD, Q.pO, Q.gN, Q.gT, Q.gsNil, Q.gsCons, Q.iQ, Q.itD, Q.iEn, Q.itE, Q.rg1, Q.oSome, Q.tSlQ, Q.revD, Q.tOwnM, Q.appC, Q.popC, Q.extC, Q.ownL, Q.tRepL, Q.repC, Q.sSetIx, Q.ixOwn, Q.tLcQ, Q.noOwn, Q.rstQ, Q.wipeQ, Q.sDn, Q.sSetD, Q.tDgetN, Q.dOwn, Q.sNever, Q.isB, Q.listD, Q.listC, Q.reprD, Q.Sl.isOwn, Q.sAugIx, Q.setQ, Q.tLcM, Q.augC, Q.keyD, Q.rg3, List.map_cons, List.map_nil, List.replicate_succ, List.replicate_zero, List.cons_append, List.nil_append, List.append_nil, List.getElem?_cons_zero, List.getElem?_cons_succ, List.set_cons_zero, List.set_cons_succ, List.getD_cons_zero, List.getD_cons_succ, List.filterMap_cons, List.filterMap_nil, List.all_cons, List.all_nil, Bool.and_true, Bool.true_and, Bool.not_true, Bool.not_false, Bool.not_eq_true, Bool.false_eq_true, Bool.and_self, if_true, if_false, true_and, and_true, ↓reduceIte, eqD, neD, sh_int, eqv_int, eqv_strs, sDraw, List.length_cons, List.length_nil, Nat.zero_add, Nat.reduceAdd, decide_true, eq_self]
  exact h found ⟨ok, hl⟩ hm2
theorem fold_app (a b : Desk) (w : List Int) : foldW (a ++ b) w = foldW a w ++ foldW b w := by simp [foldW]
theorem fold_next {d : Desk} {w : List Int} {j : Nat} (h : j < d.length) : foldW (d.take (j + 1)) w = foldW (d.take j) w ++ if d[j] = true then turnL w else w := by
  rw [List.take_succ_eq_append_getElem h, fold_app]
  simp [foldW]
theorem full_len {R : List Desk} (h : DsOk R) : ((fullW R).length : Int) = manyR R := by
  obtain ⟨S, hS, e⟩ := full_wd R h
  rw [e, ← hS]
  simp [wd]
theorem many_up {ds : List Desk} (h : DsOk ds) : ∀ (k t : Nat), t + k = ds.length → manyR (wdT ds t) ≤ many ds
  | 0, t, e => by
    have : t = ds.length := by omega
    rw [this, wdT_all]; exact Int.le_refl _
  | k + 1, t, e => by
    have lt : t < ds.length := by omega
    have ih := many_up h k (t + 1) (by omega)
    rw [wdT_succ lt, manyR_c] at ih
    have d1 := (h ds[t] (List.getElem_mem lt)).1
    have p1 := many_pos (wdT_ok h t)
    have : manyR (wdT ds t) * 1 ≤ manyR (wdT ds t) * (ds[t].length : Int) := Int.mul_le_mul_of_nonneg_left (by omega) (by omega)
    omega
def word_of_s2 : TQS := (sRet (tV 1))
def word_of_s1b_s2 : TQS := (sSet 1 (tV 3))
def word_of_s1b_s1b : TQS := (sSet 3 (t2 addF (tV 3) (qIf (tB (t2 eqD (tV 4) (tK (.str "tray")))) (tV 1) (tCA tupD (dCons (tFz (tLcQ (iQ (t1 revD (tV 1))) (gN 5) tY (t1 negI (tV 5)) [5])) dNil)))))
def word_of_s1b_s1 : TQS := (sSeq (sFor (iQ (tV 2)) (gN 4) word_of_s1b_s1b) word_of_s1b_s2)
def word_of_s1b : TQS := (sSeq (sSet 3 (tTupQ dNil)) word_of_s1b_s1)
def word_of_s1 : TQS := (sSeq (sFor (iQ (tV 0)) (gN 2) word_of_s1b) word_of_s2)
def sp_word_of : PSpec := fun as R => ∃ ds : List Desk, as = [.d (desksD ds)] ∧ T44.Dk ds ∧ many ds ≤ 100000 ∧ R (tupI (fullW ds.reverse))
theorem len_word_of : ∀ as R, sp_word_of as R → as.length = 1 := by rintro as R ⟨i, rfl, _⟩; rfl
theorem rd_word_of : ∀ as R, sp_word_of as R → t_word_of { nx := fun _ => R .none, rt := R } (enOf as 5) := by
  rintro as R ⟨ds, rfl, hd, hm, h⟩
  show sSeq _ word_of_s1 _ _
  simp only [Q.isDc, Q.sPar2K, Q.tDisp2, Q.tIxK, Q.sSetIxK, Q.tVd, Q.tGetK, Q.iKeysQ, Q.tDispK, Q.tVals, Q.tAddL, Q.sSetM, Q.sAl2, Q.tAlApp2, Q.sFrz2, Q.iZipM, Q.itZm, Q.tLcM, Q.addF, Q.isN, Q.mulF, Q.bandI, Q.iZip, Q.itZ, Q.slD, Q.enOf, Q.tV, Q.tK, Q.t2, Q.t1, Q.tB, Q.cI, Q.cIp, Q.subI, Q.fdivI, Q.fdivW, Q.modI, Q.ltI, Q.leI, Q.gtI, Q.geI, Q.negI, Q.vAnd, Q.vNot, Q.qAnd, Q.qOr, Q.qNot, Q.qIf, Q.chI, Q.tTupQ, Q.dNil, Q.dCons, Q.tLstQ, Q.tFz, Q.tCA, Q.lenD, Q.tupD, Q.isD, Q.isInt, Q.isBool, Q.isTup, Q.isStr, Q.tLenN, Q.tIxN, Q.setQ, Q.aNil, Q.aD, Q.aK, Q.tCallQ, Q.tCallKQ, Q.pick, Q.sNil, Q.sSeq, Q.sRet, Q.sExpr, Q.sIf, Q.sSet, Q.sSetL, Q.sAsg, Q.sFor, Q.sPar2, Q.sPar3, Q.pNil, Q.pD, Q.pO, Q.gN, Q.gT, Q.gsNil, Q.gsCons, Q.iQ, Q.itD, Q.iEn, Q.itE, Q.rg1, Q.oSome, Q.tSlQ, Q.revD, Q.tOwnM, Q.appC, Q.popC, Q.extC, Q.ownL, Q.tRepL, Q.repC, Q.sSetIx, Q.ixOwn, Q.tLcQ, Q.noOwn, Q.rstQ, Q.wipeQ, Q.sDn, Q.sSetD, Q.tDgetN, Q.dOwn, Q.sNever, Q.isB, Q.listD, Q.listC, Q.reprD, Q.Sl.isOwn, Q.sAugIx, Q.setQ, Q.tLcM, Q.augC, Q.keyD, Q.rg3, List.map_cons, List.map_nil, List.replicate_succ, List.replicate_zero, List.cons_append, List.nil_append, List.append_nil, List.getElem?_cons_zero, List.getElem?_cons_succ, List.set_cons_zero, List.set_cons_succ, List.getD_cons_zero, List.getD_cons_succ, List.filterMap_cons, List.filterMap_nil, List.all_cons, List.all_nil, Bool.and_true, Bool.true_and, Bool.not_true, Bool.not_false, Bool.not_eq_true, Bool.false_eq_true, Bool.and_self, if_true, if_false, true_and, and_true, ↓reduceIte, eqD, neD, sh_int, eqv_int, eqv_strs, sDraw, List.length_cons, List.length_nil, Nat.zero_add, Nat.reduceAdd, decide_true, eq_self]
  refine ⟨by decide, ?_⟩
  show sSeq _ word_of_s2 _ _
  simp only [desksD, Q.isDc, Q.sPar2K, Q.tDisp2, Q.tIxK, Q.sSetIxK, Q.tVd, Q.tGetK, Q.iKeysQ, Q.tDispK, Q.tVals, Q.tAddL, Q.sSetM, Q.sAl2, Q.tAlApp2, Q.sFrz2, Q.iZipM, Q.itZm, Q.tLcM, Q.addF, Q.isN, Q.mulF, Q.bandI, Q.iZip, Q.itZ, Q.slD, Q.enOf, Q.tV, Q.tK, Q.t2, Q.t1, Q.tB, Q.cI, Q.cIp, Q.subI, Q.fdivI, Q.fdivW, Q.modI, Q.ltI, Q.leI, Q.gtI, Q.geI, Q.negI, Q.vAnd, Q.vNot, Q.qAnd, Q.qOr, Q.qNot, Q.qIf, Q.chI, Q.tTupQ, Q.dNil, Q.dCons, Q.tLstQ, Q.tFz, Q.tCA, Q.lenD, Q.tupD, Q.isD, Q.isInt, Q.isBool, Q.isTup, Q.isStr, Q.tLenN, Q.tIxN, Q.setQ, Q.aNil, Q.aD, Q.aK, Q.tCallQ, Q.tCallKQ, Q.pick, Q.sNil, Q.sSeq, Q.sRet, Q.sExpr, Q.sIf, Q.sSet, Q.sSetL, Q.sAsg, Q.sFor, Q.sPar2, Q.sPar3, Q.pNil, Q.pD, Q.pO, Q.gN, Q.gT, Q.gsNil, Q.gsCons, Q.iQ, Q.itD, Q.iEn, Q.itE, Q.rg1, Q.oSome, Q.tSlQ, Q.revD, Q.tOwnM, Q.appC, Q.popC, Q.extC, Q.ownL, Q.tRepL, Q.repC, Q.sSetIx, Q.ixOwn, Q.tLcQ, Q.noOwn, Q.rstQ, Q.wipeQ, Q.sDn, Q.sSetD, Q.tDgetN, Q.dOwn, Q.sNever, Q.isB, Q.listD, Q.listC, Q.reprD, Q.Sl.isOwn, Q.sAugIx, Q.setQ, Q.tLcM, Q.augC, Q.keyD, Q.rg3, List.map_cons, List.map_nil, List.replicate_succ, List.replicate_zero, List.cons_append, List.nil_append, List.append_nil, List.getElem?_cons_zero, List.getElem?_cons_succ, List.set_cons_zero, List.set_cons_succ, List.getD_cons_zero, List.getD_cons_succ, List.filterMap_cons, List.filterMap_nil, List.all_cons, List.all_nil, Bool.and_true, Bool.true_and, Bool.not_true, Bool.not_false, Bool.not_eq_true, Bool.false_eq_true, Bool.and_self, if_true, if_false, true_and, and_true, ↓reduceIte, eqD, neD, sh_int, eqv_int, eqv_strs, sDraw, List.length_cons, List.length_nil, Nat.zero_add, Nat.reduceAdd, decide_true, eq_self]
  refine for_inv (G := deskD) (fun t ρ => ∃ s2 s3 s4, ρ = [.d (.tuple (ds.map deskD)), .d (tupI (fullW (wdT ds t))), s2, s3, s4, .un]) (fun t d ht ρ hρ E' hn hr _ _ => ?_) (fun ρ hρ => ?_) ⟨_, _, _, rfl⟩
  · obtain ⟨s2, s3, s4, rfl⟩ := hρ
    obtain ⟨tl, et⟩ := List.getElem?_eq_some_iff.mp ht
    have dd := hd.ok d (by rw [← et]; exact List.getElem_mem tl)
    have wl := full_len (wdT_ok hd.ok t)
    have wm := many_up hd.ok (ds.length - t) t (by omega)
    simp only [word_of_s1b, Q.isDc, Q.sPar2K, Q.tDisp2, Q.tIxK, Q.sSetIxK, Q.tVd, Q.tGetK, Q.iKeysQ, Q.tDispK, Q.tVals, Q.tAddL, Q.sSetM, Q.sAl2, Q.tAlApp2, Q.sFrz2, Q.iZipM, Q.itZm, Q.tLcM, Q.addF, Q.isN, Q.mulF, Q.bandI, Q.iZip, Q.itZ, Q.slD, Q.enOf, Q.tV, Q.tK, Q.t2, Q.t1, Q.tB, Q.cI, Q.cIp, Q.subI, Q.fdivI, Q.fdivW, Q.modI, Q.ltI, Q.leI, Q.gtI, Q.geI, Q.negI, Q.vAnd, Q.vNot, Q.qAnd, Q.qOr, Q.qNot, Q.qIf, Q.chI, Q.tTupQ, Q.dNil, Q.dCons, Q.tLstQ, Q.tFz, Q.tCA, Q.lenD, Q.tupD, Q.isD, Q.isInt, Q.isBool, Q.isTup, Q.isStr, Q.tLenN, Q.tIxN, Q.setQ, Q.aNil, Q.aD, Q.aK, Q.tCallQ, Q.tCallKQ, Q.pick, Q.sNil, Q.sSeq, Q.sRet, Q.sExpr, Q.sIf, Q.sSet, Q.sSetL, Q.sAsg, Q.sFor, Q.sPar2, Q.sPar3, Q.pNil, Q.pD, Q.pO, Q.gN, Q.gT, Q.gsNil, Q.gsCons, Q.iQ, Q.itD, Q.iEn, Q.itE, Q.rg1, Q.oSome, Q.tSlQ, Q.revD, Q.tOwnM, Q.appC, Q.popC, Q.extC, Q.ownL, Q.tRepL, Q.repC, Q.sSetIx, Q.ixOwn, Q.tLcQ, Q.noOwn, Q.rstQ, Q.wipeQ, Q.sDn, Q.sSetD, Q.tDgetN, Q.dOwn, Q.sNever, Q.isB, Q.listD, Q.listC, Q.reprD, Q.Sl.isOwn, Q.sAugIx, Q.setQ, Q.tLcM, Q.augC, Q.keyD, Q.rg3, List.map_cons, List.map_nil, List.replicate_succ, List.replicate_zero, List.cons_append, List.nil_append, List.append_nil, List.getElem?_cons_zero, List.getElem?_cons_succ, List.set_cons_zero, List.set_cons_succ, List.getD_cons_zero, List.getD_cons_succ, List.filterMap_cons, List.filterMap_nil, List.all_cons, List.all_nil, Bool.and_true, Bool.true_and, Bool.not_true, Bool.not_false, Bool.not_eq_true, Bool.false_eq_true, Bool.and_self, if_true, if_false, true_and, and_true, ↓reduceIte, eqD, neD, sh_int, eqv_int, eqv_strs, sDraw, List.length_cons, List.length_nil, Nat.zero_add, Nat.reduceAdd, decide_true, eq_self]
    refine ⟨by decide, ?_⟩
    show sSeq _ word_of_s1b_s2 _ _
    simp only [deskD, Q.isDc, Q.sPar2K, Q.tDisp2, Q.tIxK, Q.sSetIxK, Q.tVd, Q.tGetK, Q.iKeysQ, Q.tDispK, Q.tVals, Q.tAddL, Q.sSetM, Q.sAl2, Q.tAlApp2, Q.sFrz2, Q.iZipM, Q.itZm, Q.tLcM, Q.addF, Q.isN, Q.mulF, Q.bandI, Q.iZip, Q.itZ, Q.slD, Q.enOf, Q.tV, Q.tK, Q.t2, Q.t1, Q.tB, Q.cI, Q.cIp, Q.subI, Q.fdivI, Q.fdivW, Q.modI, Q.ltI, Q.leI, Q.gtI, Q.geI, Q.negI, Q.vAnd, Q.vNot, Q.qAnd, Q.qOr, Q.qNot, Q.qIf, Q.chI, Q.tTupQ, Q.dNil, Q.dCons, Q.tLstQ, Q.tFz, Q.tCA, Q.lenD, Q.tupD, Q.isD, Q.isInt, Q.isBool, Q.isTup, Q.isStr, Q.tLenN, Q.tIxN, Q.setQ, Q.aNil, Q.aD, Q.aK, Q.tCallQ, Q.tCallKQ, Q.pick, Q.sNil, Q.sSeq, Q.sRet, Q.sExpr, Q.sIf, Q.sSet, Q.sSetL, Q.sAsg, Q.sFor, Q.sPar2, Q.sPar3, Q.pNil, Q.pD, Q.pO, Q.gN, Q.gT, Q.gsNil, Q.gsCons, Q.iQ, Q.itD, Q.iEn, Q.itE, Q.rg1, Q.oSome, Q.tSlQ, Q.revD, Q.tOwnM, Q.appC, Q.popC, Q.extC, Q.ownL, Q.tRepL, Q.repC, Q.sSetIx, Q.ixOwn, Q.tLcQ, Q.noOwn, Q.rstQ, Q.wipeQ, Q.sDn, Q.sSetD, Q.tDgetN, Q.dOwn, Q.sNever, Q.isB, Q.listD, Q.listC, Q.reprD, Q.Sl.isOwn, Q.sAugIx, Q.setQ, Q.tLcM, Q.augC, Q.keyD, Q.rg3, List.map_cons, List.map_nil, List.replicate_succ, List.replicate_zero, List.cons_append, List.nil_append, List.append_nil, List.getElem?_cons_zero, List.getElem?_cons_succ, List.set_cons_zero, List.set_cons_succ, List.getD_cons_zero, List.getD_cons_succ, List.filterMap_cons, List.filterMap_nil, List.all_cons, List.all_nil, Bool.and_true, Bool.true_and, Bool.not_true, Bool.not_false, Bool.not_eq_true, Bool.false_eq_true, Bool.and_self, if_true, if_false, true_and, and_true, ↓reduceIte, eqD, neD, sh_int, eqv_int, eqv_strs, sDraw, List.length_cons, List.length_nil, Nat.zero_add, Nat.reduceAdd, decide_true, eq_self]
    refine for_inv (G := plD) (fun j ρ => ∃ s4, ρ = [.d (.tuple (ds.map deskD)), .d (tupI (fullW (wdT ds t))), .d (.tuple (d.map plD)), .d (tupI (foldW (d.take j) (fullW (wdT ds t)))), s4, .un]) (fun j b hj ρ hρ E2 hn2 hr2 _ _ => ?_) (fun ρ hρ => ?_) ⟨_, rfl⟩
    · obtain ⟨s4, rfl⟩ := hρ
      obtain ⟨jl, ej⟩ := List.getElem?_eq_some_iff.mp hj
      have fl : (foldW (d.take j) (fullW (wdT ds t))).length = j * (fullW (wdT ds t)).length := by rw [fold_len, List.length_take, Nat.min_eq_left (Nat.le_of_lt jl)]
      have fm : j * (fullW (wdT ds t)).length ≤ 6 * 100000 := Nat.mul_le_mul (by omega) (by omega)
      have nx := fold_next (w := fullW (wdT ds t)) jl
      rw [ej] at nx
      rw [nx] at hn2
      simp only [tupI, word_of_s1b_s1b, Q.isDc, Q.sPar2K, Q.tDisp2, Q.tIxK, Q.sSetIxK, Q.tVd, Q.tGetK, Q.iKeysQ, Q.tDispK, Q.tVals, Q.tAddL, Q.sSetM, Q.sAl2, Q.tAlApp2, Q.sFrz2, Q.iZipM, Q.itZm, Q.tLcM, Q.addF, Q.isN, Q.mulF, Q.bandI, Q.iZip, Q.itZ, Q.slD, Q.enOf, Q.tV, Q.tK, Q.t2, Q.t1, Q.tB, Q.cI, Q.cIp, Q.subI, Q.fdivI, Q.fdivW, Q.modI, Q.ltI, Q.leI, Q.gtI, Q.geI, Q.negI, Q.vAnd, Q.vNot, Q.qAnd, Q.qOr, Q.qNot, Q.qIf, Q.chI, Q.tTupQ, Q.dNil, Q.dCons, Q.tLstQ, Q.tFz, Q.tCA, Q.lenD, Q.tupD, Q.isD, Q.isInt, Q.isBool, Q.isTup, Q.isStr, Q.tLenN, Q.tIxN, Q.setQ, Q.aNil, Q.aD, Q.aK, Q.tCallQ, Q.tCallKQ, Q.pick, Q.sNil, Q.sSeq, Q.sRet, Q.sExpr, Q.sIf, Q.sSet, Q.sSetL, Q.sAsg, Q.sFor, Q.sPar2, Q.sPar3, Q.pNil, Q.pD, Q.pO, Q.gN, Q.gT, Q.gsNil, Q.gsCons, Q.iQ, Q.itD, Q.iEn, Q.itE, Q.rg1, Q.oSome, Q.tSlQ, Q.revD, Q.tOwnM, Q.appC, Q.popC, Q.extC, Q.ownL, Q.tRepL, Q.repC, Q.sSetIx, Q.ixOwn, Q.tLcQ, Q.noOwn, Q.rstQ, Q.wipeQ, Q.sDn, Q.sSetD, Q.tDgetN, Q.dOwn, Q.sNever, Q.isB, Q.listD, Q.listC, Q.reprD, Q.Sl.isOwn, Q.sAugIx, Q.setQ, Q.tLcM, Q.augC, Q.keyD, Q.rg3, List.map_cons, List.map_nil, List.replicate_succ, List.replicate_zero, List.cons_append, List.nil_append, List.append_nil, List.getElem?_cons_zero, List.getElem?_cons_succ, List.set_cons_zero, List.set_cons_succ, List.getD_cons_zero, List.getD_cons_succ, List.filterMap_cons, List.filterMap_nil, List.all_cons, List.all_nil, Bool.and_true, Bool.true_and, Bool.not_true, Bool.not_false, Bool.not_eq_true, Bool.false_eq_true, Bool.and_self, if_true, if_false, true_and, and_true, ↓reduceIte, eqD, neD, sh_int, eqv_int, eqv_strs, sDraw, List.length_cons, List.length_nil, Nat.zero_add, Nat.reduceAdd, decide_true, eq_self]
      refine ⟨sh_pl, sh_tray, ?_⟩
      rw [eqv_tray]
      cases b with
      | false =>
        rw [if_neg (by decide)] at hn2
        simp only [Q.isDc, Q.sPar2K, Q.tDisp2, Q.tIxK, Q.sSetIxK, Q.tVd, Q.tGetK, Q.iKeysQ, Q.tDispK, Q.tVals, Q.tAddL, Q.sSetM, Q.sAl2, Q.tAlApp2, Q.sFrz2, Q.iZipM, Q.itZm, Q.tLcM, Q.addF, Q.isN, Q.mulF, Q.bandI, Q.iZip, Q.itZ, Q.slD, Q.enOf, Q.tV, Q.tK, Q.t2, Q.t1, Q.tB, Q.cI, Q.cIp, Q.subI, Q.fdivI, Q.fdivW, Q.modI, Q.ltI, Q.leI, Q.gtI, Q.geI, Q.negI, Q.vAnd, Q.vNot, Q.qAnd, Q.qOr, Q.qNot, Q.qIf, Q.chI, Q.tTupQ, Q.dNil, Q.dCons, Q.tLstQ, Q.tFz, Q.tCA, Q.lenD, Q.tupD, Q.isD, Q.isInt, Q.isBool, Q.isTup, Q.isStr, Q.tLenN, Q.tIxN, Q.setQ, Q.aNil, Q.aD, Q.aK, Q.tCallQ, Q.tCallKQ, Q.pick, Q.sNil, Q.sSeq, Q.sRet, Q.sExpr, Q.sIf, Q.sSet, Q.sSetL, Q.sAsg, Q.sFor, Q.sPar2, Q.sPar3, Q.pNil, Q.pD, Q.pO, Q.gN, Q.gT, Q.gsNil, Q.gsCons, Q.iQ, Q.itD, Q.iEn, Q.itE, Q.rg1, Q.oSome, Q.tSlQ, Q.revD, Q.tOwnM, Q.appC, Q.popC, Q.extC, Q.ownL, Q.tRepL, Q.repC, Q.sSetIx, Q.ixOwn, Q.tLcQ, Q.noOwn, Q.rstQ, Q.wipeQ, Q.sDn, Q.sSetD, Q.tDgetN, Q.dOwn, Q.sNever, Q.isB, Q.listD, Q.listC, Q.reprD, Q.Sl.isOwn, Q.sAugIx, Q.setQ, Q.tLcM, Q.augC, Q.keyD, Q.rg3, List.map_cons, List.map_nil, List.replicate_succ, List.replicate_zero, List.cons_append, List.nil_append, List.append_nil, List.getElem?_cons_zero, List.getElem?_cons_succ, List.set_cons_zero, List.set_cons_succ, List.getD_cons_zero, List.getD_cons_succ, List.filterMap_cons, List.filterMap_nil, List.all_cons, List.all_nil, Bool.and_true, Bool.true_and, Bool.not_true, Bool.not_false, Bool.not_eq_true, Bool.false_eq_true, Bool.and_self, if_true, if_false, true_and, and_true, ↓reduceIte, eqD, neD, sh_int, eqv_int, eqv_strs, sDraw, List.length_cons, List.length_nil, Nat.zero_add, Nat.reduceAdd, decide_true, eq_self]
        refine ⟨by rw [List.length_map, List.length_map, fl]; omega, ?_⟩
        rw [← List.map_append]
        exact hn2 _ ⟨_, by rfl⟩
      | true =>
        rw [if_pos rfl] at hn2
        simp only [Q.isDc, Q.sPar2K, Q.tDisp2, Q.tIxK, Q.sSetIxK, Q.tVd, Q.tGetK, Q.iKeysQ, Q.tDispK, Q.tVals, Q.tAddL, Q.sSetM, Q.sAl2, Q.tAlApp2, Q.sFrz2, Q.iZipM, Q.itZm, Q.tLcM, Q.addF, Q.isN, Q.mulF, Q.bandI, Q.iZip, Q.itZ, Q.slD, Q.enOf, Q.tV, Q.tK, Q.t2, Q.t1, Q.tB, Q.cI, Q.cIp, Q.subI, Q.fdivI, Q.fdivW, Q.modI, Q.ltI, Q.leI, Q.gtI, Q.geI, Q.negI, Q.vAnd, Q.vNot, Q.qAnd, Q.qOr, Q.qNot, Q.qIf, Q.chI, Q.tTupQ, Q.dNil, Q.dCons, Q.tLstQ, Q.tFz, Q.tCA, Q.lenD, Q.tupD, Q.isD, Q.isInt, Q.isBool, Q.isTup, Q.isStr, Q.tLenN, Q.tIxN, Q.setQ, Q.aNil, Q.aD, Q.aK, Q.tCallQ, Q.tCallKQ, Q.pick, Q.sNil, Q.sSeq, Q.sRet, Q.sExpr, Q.sIf, Q.sSet, Q.sSetL, Q.sAsg, Q.sFor, Q.sPar2, Q.sPar3, Q.pNil, Q.pD, Q.pO, Q.gN, Q.gT, Q.gsNil, Q.gsCons, Q.iQ, Q.itD, Q.iEn, Q.itE, Q.rg1, Q.oSome, Q.tSlQ, Q.revD, Q.tOwnM, Q.appC, Q.popC, Q.extC, Q.ownL, Q.tRepL, Q.repC, Q.sSetIx, Q.ixOwn, Q.tLcQ, Q.noOwn, Q.rstQ, Q.wipeQ, Q.sDn, Q.sSetD, Q.tDgetN, Q.dOwn, Q.sNever, Q.isB, Q.listD, Q.listC, Q.reprD, Q.Sl.isOwn, Q.sAugIx, Q.setQ, Q.tLcM, Q.augC, Q.keyD, Q.rg3, List.map_cons, List.map_nil, List.replicate_succ, List.replicate_zero, List.cons_append, List.nil_append, List.append_nil, List.getElem?_cons_zero, List.getElem?_cons_succ, List.set_cons_zero, List.set_cons_succ, List.getD_cons_zero, List.getD_cons_succ, List.filterMap_cons, List.filterMap_nil, List.all_cons, List.all_nil, Bool.and_true, Bool.true_and, Bool.not_true, Bool.not_false, Bool.not_eq_true, Bool.false_eq_true, Bool.and_self, if_true, if_false, true_and, and_true, ↓reduceIte, eqD, neD, sh_int, eqv_int, eqv_strs, sDraw, List.length_cons, List.length_nil, Nat.zero_add, Nat.reduceAdd, decide_true, eq_self]
        rw [← List.map_reverse]
        refine comp_mapG PyData.int (fun n => .int (-n)) (fun n hnn Rk hk => ?_) ?_
        · simp only [Q.isDc, Q.sPar2K, Q.tDisp2, Q.tIxK, Q.sSetIxK, Q.tVd, Q.tGetK, Q.iKeysQ, Q.tDispK, Q.tVals, Q.tAddL, Q.sSetM, Q.sAl2, Q.tAlApp2, Q.sFrz2, Q.iZipM, Q.itZm, Q.tLcM, Q.addF, Q.isN, Q.mulF, Q.bandI, Q.iZip, Q.itZ, Q.slD, Q.enOf, Q.tV, Q.tK, Q.t2, Q.t1, Q.tB, Q.cI, Q.cIp, Q.subI, Q.fdivI, Q.fdivW, Q.modI, Q.ltI, Q.leI, Q.gtI, Q.geI, Q.negI, Q.vAnd, Q.vNot, Q.qAnd, Q.qOr, Q.qNot, Q.qIf, Q.chI, Q.tTupQ, Q.dNil, Q.dCons, Q.tLstQ, Q.tFz, Q.tCA, Q.lenD, Q.tupD, Q.isD, Q.isInt, Q.isBool, Q.isTup, Q.isStr, Q.tLenN, Q.tIxN, Q.setQ, Q.aNil, Q.aD, Q.aK, Q.tCallQ, Q.tCallKQ, Q.pick, Q.sNil, Q.sSeq, Q.sRet, Q.sExpr, Q.sIf, Q.sSet, Q.sSetL, Q.sAsg, Q.sFor, Q.sPar2, Q.sPar3, Q.pNil, Q.pD, Q.pO, Q.gN, Q.gT, Q.gsNil, Q.gsCons, Q.iQ, Q.itD, Q.iEn, Q.itE, Q.rg1, Q.oSome, Q.tSlQ, Q.revD, Q.tOwnM, Q.appC, Q.popC, Q.extC, Q.ownL, Q.tRepL, Q.repC, Q.sSetIx, Q.ixOwn, Q.tLcQ, Q.noOwn, Q.rstQ, Q.wipeQ, Q.sDn, Q.sSetD, Q.tDgetN, Q.dOwn, Q.sNever, Q.isB, Q.listD, Q.listC, Q.reprD, Q.Sl.isOwn, Q.sAugIx, Q.setQ, Q.tLcM, Q.augC, Q.keyD, Q.rg3, List.map_cons, List.map_nil, List.replicate_succ, List.replicate_zero, List.cons_append, List.nil_append, List.append_nil, List.getElem?_cons_zero, List.getElem?_cons_succ, List.set_cons_zero, List.set_cons_succ, List.getD_cons_zero, List.getD_cons_succ, List.filterMap_cons, List.filterMap_nil, List.all_cons, List.all_nil, Bool.and_true, Bool.true_and, Bool.not_true, Bool.not_false, Bool.not_eq_true, Bool.false_eq_true, Bool.and_self, if_true, if_false, true_and, and_true, ↓reduceIte, eqD, neD, sh_int, eqv_int, eqv_strs, sDraw, List.length_cons, List.length_nil, Nat.zero_add, Nat.reduceAdd, decide_true, eq_self]
          exact hk _ (by rfl)
        · have et2 : (fullW (wdT ds t)).reverse.map (fun n => PyData.int (-n)) = (turnL (fullW (wdT ds t))).map .int := by
            unfold turnL
            rw [List.map_map]; rfl
          rw [et2]
          try simp only [Q.isDc, Q.sPar2K, Q.tDisp2, Q.tIxK, Q.sSetIxK, Q.tVd, Q.tGetK, Q.iKeysQ, Q.tDispK, Q.tVals, Q.tAddL, Q.sSetM, Q.sAl2, Q.tAlApp2, Q.sFrz2, Q.iZipM, Q.itZm, Q.tLcM, Q.addF, Q.isN, Q.mulF, Q.bandI, Q.iZip, Q.itZ, Q.slD, Q.enOf, Q.tV, Q.tK, Q.t2, Q.t1, Q.tB, Q.cI, Q.cIp, Q.subI, Q.fdivI, Q.fdivW, Q.modI, Q.ltI, Q.leI, Q.gtI, Q.geI, Q.negI, Q.vAnd, Q.vNot, Q.qAnd, Q.qOr, Q.qNot, Q.qIf, Q.chI, Q.tTupQ, Q.dNil, Q.dCons, Q.tLstQ, Q.tFz, Q.tCA, Q.lenD, Q.tupD, Q.isD, Q.isInt, Q.isBool, Q.isTup, Q.isStr, Q.tLenN, Q.tIxN, Q.setQ, Q.aNil, Q.aD, Q.aK, Q.tCallQ, Q.tCallKQ, Q.pick, Q.sNil, Q.sSeq, Q.sRet, Q.sExpr, Q.sIf, Q.sSet, Q.sSetL, Q.sAsg, Q.sFor, Q.sPar2, Q.sPar3, Q.pNil, Q.pD, Q.pO, Q.gN, Q.gT, Q.gsNil, Q.gsCons, Q.iQ, Q.itD, Q.iEn, Q.itE, Q.rg1, Q.oSome, Q.tSlQ, Q.revD, Q.tOwnM, Q.appC, Q.popC, Q.extC, Q.ownL, Q.tRepL, Q.repC, Q.sSetIx, Q.ixOwn, Q.tLcQ, Q.noOwn, Q.rstQ, Q.wipeQ, Q.sDn, Q.sSetD, Q.tDgetN, Q.dOwn, Q.sNever, Q.isB, Q.listD, Q.listC, Q.reprD, Q.Sl.isOwn, Q.sAugIx, Q.setQ, Q.tLcM, Q.augC, Q.keyD, Q.rg3, List.map_cons, List.map_nil, List.replicate_succ, List.replicate_zero, List.cons_append, List.nil_append, List.append_nil, List.getElem?_cons_zero, List.getElem?_cons_succ, List.set_cons_zero, List.set_cons_succ, List.getD_cons_zero, List.getD_cons_succ, List.filterMap_cons, List.filterMap_nil, List.all_cons, List.all_nil, Bool.and_true, Bool.true_and, Bool.not_true, Bool.not_false, Bool.not_eq_true, Bool.false_eq_true, Bool.and_self, if_true, if_false, true_and, and_true, ↓reduceIte, eqD, neD, sh_int, eqv_int, eqv_strs, sDraw, List.length_cons, List.length_nil, Nat.zero_add, Nat.reduceAdd, decide_true, eq_self]
          refine ⟨by rw [List.length_map, List.length_map, turnL_len, fl]; omega, ?_⟩
          rw [← List.map_append]
          exact hn2 _ ⟨_, by rfl⟩
    · obtain ⟨s4, rfl⟩ := hρ
      rw [List.take_length]
      simp only [word_of_s1b_s1, tupI, Q.isDc, Q.sPar2K, Q.tDisp2, Q.tIxK, Q.sSetIxK, Q.tVd, Q.tGetK, Q.iKeysQ, Q.tDispK, Q.tVals, Q.tAddL, Q.sSetM, Q.sAl2, Q.tAlApp2, Q.sFrz2, Q.iZipM, Q.itZm, Q.tLcM, Q.addF, Q.isN, Q.mulF, Q.bandI, Q.iZip, Q.itZ, Q.slD, Q.enOf, Q.tV, Q.tK, Q.t2, Q.t1, Q.tB, Q.cI, Q.cIp, Q.subI, Q.fdivI, Q.fdivW, Q.modI, Q.ltI, Q.leI, Q.gtI, Q.geI, Q.negI, Q.vAnd, Q.vNot, Q.qAnd, Q.qOr, Q.qNot, Q.qIf, Q.chI, Q.tTupQ, Q.dNil, Q.dCons, Q.tLstQ, Q.tFz, Q.tCA, Q.lenD, Q.tupD, Q.isD, Q.isInt, Q.isBool, Q.isTup, Q.isStr, Q.tLenN, Q.tIxN, Q.setQ, Q.aNil, Q.aD, Q.aK, Q.tCallQ, Q.tCallKQ, Q.pick, Q.sNil, Q.sSeq, Q.sRet, Q.sExpr, Q.sIf, Q.sSet, Q.sSetL, Q.sAsg, Q.sFor, Q.sPar2, Q.sPar3, Q.pNil, Q.pD, Q.pO, Q.gN, Q.gT, Q.gsNil, Q.gsCons, Q.iQ, Q.itD, Q.iEn, Q.itE, Q.rg1, Q.oSome, Q.tSlQ, Q.revD, Q.tOwnM, Q.appC, Q.popC, Q.extC, Q.ownL, Q.tRepL, Q.repC, Q.sSetIx, Q.ixOwn, Q.tLcQ, Q.noOwn, Q.rstQ, Q.wipeQ, Q.sDn, Q.sSetD, Q.tDgetN, Q.dOwn, Q.sNever, Q.isB, Q.listD, Q.listC, Q.reprD, Q.Sl.isOwn, Q.sAugIx, Q.setQ, Q.tLcM, Q.augC, Q.keyD, Q.rg3, List.map_cons, List.map_nil, List.replicate_succ, List.replicate_zero, List.cons_append, List.nil_append, List.append_nil, List.getElem?_cons_zero, List.getElem?_cons_succ, List.set_cons_zero, List.set_cons_succ, List.getD_cons_zero, List.getD_cons_succ, List.filterMap_cons, List.filterMap_nil, List.all_cons, List.all_nil, Bool.and_true, Bool.true_and, Bool.not_true, Bool.not_false, Bool.not_eq_true, Bool.false_eq_true, Bool.and_self, if_true, if_false, true_and, and_true, ↓reduceIte, eqD, neD, sh_int, eqv_int, eqv_strs, sDraw, List.length_cons, List.length_nil, Nat.zero_add, Nat.reduceAdd, decide_true, eq_self]
      have ew : foldW d (fullW (wdT ds t)) = fullW (wdT ds (t + 1)) := by rw [wdT_succ tl, et]; rfl
      rw [ew]
      exact hn _ ⟨_, _, _, by rfl⟩
  · obtain ⟨s2, s3, s4, rfl⟩ := hρ
    rw [wdT_all]
    simp only [word_of_s2, Q.isDc, Q.sPar2K, Q.tDisp2, Q.tIxK, Q.sSetIxK, Q.tVd, Q.tGetK, Q.iKeysQ, Q.tDispK, Q.tVals, Q.tAddL, Q.sSetM, Q.sAl2, Q.tAlApp2, Q.sFrz2, Q.iZipM, Q.itZm, Q.tLcM, Q.addF, Q.isN, Q.mulF, Q.bandI, Q.iZip, Q.itZ, Q.slD, Q.enOf, Q.tV, Q.tK, Q.t2, Q.t1, Q.tB, Q.cI, Q.cIp, Q.subI, Q.fdivI, Q.fdivW, Q.modI, Q.ltI, Q.leI, Q.gtI, Q.geI, Q.negI, Q.vAnd, Q.vNot, Q.qAnd, Q.qOr, Q.qNot, Q.qIf, Q.chI, Q.tTupQ, Q.dNil, Q.dCons, Q.tLstQ, Q.tFz, Q.tCA, Q.lenD, Q.tupD, Q.isD, Q.isInt, Q.isBool, Q.isTup, Q.isStr, Q.tLenN, Q.tIxN, Q.setQ, Q.aNil, Q.aD, Q.aK, Q.tCallQ, Q.tCallKQ, Q.pick, Q.sNil, Q.sSeq, Q.sRet, Q.sExpr, Q.sIf, Q.sSet, Q.sSetL, Q.sAsg, Q.sFor, Q.sPar2, Q.sPar3, Q.pNil, Q.pD, Q.pO, Q.gN, Q.gT, Q.gsNil, Q.gsCons, Q.iQ, Q.itD, Q.iEn, Q.itE, Q.rg1, Q.oSome, Q.tSlQ, Q.revD, Q.tOwnM, Q.appC, Q.popC, Q.extC, Q.ownL, Q.tRepL, Q.repC, Q.sSetIx, Q.ixOwn, Q.tLcQ, Q.noOwn, Q.rstQ, Q.wipeQ, Q.sDn, Q.sSetD, Q.tDgetN, Q.dOwn, Q.sNever, Q.isB, Q.listD, Q.listC, Q.reprD, Q.Sl.isOwn, Q.sAugIx, Q.setQ, Q.tLcM, Q.augC, Q.keyD, Q.rg3, List.map_cons, List.map_nil, List.replicate_succ, List.replicate_zero, List.cons_append, List.nil_append, List.append_nil, List.getElem?_cons_zero, List.getElem?_cons_succ, List.set_cons_zero, List.set_cons_succ, List.getD_cons_zero, List.getD_cons_succ, List.filterMap_cons, List.filterMap_nil, List.all_cons, List.all_nil, Bool.and_true, Bool.true_and, Bool.not_true, Bool.not_false, Bool.not_eq_true, Bool.false_eq_true, Bool.and_self, if_true, if_false, true_and, and_true, ↓reduceIte, eqD, neD, sh_int, eqv_int, eqv_strs, sDraw, List.length_cons, List.length_nil, Nat.zero_add, Nat.reduceAdd, decide_true, eq_self]
    exact h
def sp_folded_word : PSpec := sp_word_of
theorem len_folded_word : ∀ as R, sp_folded_word as R → as.length = 1 := len_word_of
theorem rd_folded_word : ∀ as R, sp_folded_word as R → t_folded_word sp_need_desks sp_word_of { nx := fun _ => R .none, rt := R } (enOf as 0) := by
  rintro as R ⟨ds, rfl, hd, hm, h⟩
  simp only [t_folded_word, Q.isDc, Q.sPar2K, Q.tDisp2, Q.tIxK, Q.sSetIxK, Q.tVd, Q.tGetK, Q.iKeysQ, Q.tDispK, Q.tVals, Q.tAddL, Q.sSetM, Q.sAl2, Q.tAlApp2, Q.sFrz2, Q.iZipM, Q.itZm, Q.tLcM, Q.addF, Q.isN, Q.mulF, Q.bandI, Q.iZip, Q.itZ, Q.slD, Q.enOf, Q.tV, Q.tK, Q.t2, Q.t1, Q.tB, Q.cI, Q.cIp, Q.subI, Q.fdivI, Q.fdivW, Q.modI, Q.ltI, Q.leI, Q.gtI, Q.geI, Q.negI, Q.vAnd, Q.vNot, Q.qAnd, Q.qOr, Q.qNot, Q.qIf, Q.chI, Q.tTupQ, Q.dNil, Q.dCons, Q.tLstQ, Q.tFz, Q.tCA, Q.lenD, Q.tupD, Q.isD, Q.isInt, Q.isBool, Q.isTup, Q.isStr, Q.tLenN, Q.tIxN, Q.setQ, Q.aNil, Q.aD, Q.aK, Q.tCallQ, Q.tCallKQ, Q.pick, Q.sNil, Q.sSeq, Q.sRet, Q.sExpr, Q.sIf, Q.sSet, Q.sSetL, Q.sAsg, Q.sFor, Q.sPar2, Q.sPar3, Q.pNil, Q.pD, Q.pO, Q.gN, Q.gT, Q.gsNil, Q.gsCons, Q.iQ, Q.itD, Q.iEn, Q.itE, Q.rg1, Q.oSome, Q.tSlQ, Q.revD, Q.tOwnM, Q.appC, Q.popC, Q.extC, Q.ownL, Q.tRepL, Q.repC, Q.sSetIx, Q.ixOwn, Q.tLcQ, Q.noOwn, Q.rstQ, Q.wipeQ, Q.sDn, Q.sSetD, Q.tDgetN, Q.dOwn, Q.sNever, Q.isB, Q.listD, Q.listC, Q.reprD, Q.Sl.isOwn, Q.sAugIx, Q.setQ, Q.tLcM, Q.augC, Q.keyD, Q.rg3, List.map_cons, List.map_nil, List.replicate_succ, List.replicate_zero, List.cons_append, List.nil_append, List.append_nil, List.getElem?_cons_zero, List.getElem?_cons_succ, List.set_cons_zero, List.set_cons_succ, List.getD_cons_zero, List.getD_cons_succ, List.filterMap_cons, List.filterMap_nil, List.all_cons, List.all_nil, Bool.and_true, Bool.true_and, Bool.not_true, Bool.not_false, Bool.not_eq_true, Bool.false_eq_true, Bool.and_self, if_true, if_false, true_and, and_true, ↓reduceIte, eqD, neD, sh_int, eqv_int, eqv_strs, sDraw, List.length_cons, List.length_nil, Nat.zero_add, Nat.reduceAdd, decide_true, eq_self]
  refine ⟨ds, rfl, hd, ?_⟩
  simp only [Q.isDc, Q.sPar2K, Q.tDisp2, Q.tIxK, Q.sSetIxK, Q.tVd, Q.tGetK, Q.iKeysQ, Q.tDispK, Q.tVals, Q.tAddL, Q.sSetM, Q.sAl2, Q.tAlApp2, Q.sFrz2, Q.iZipM, Q.itZm, Q.tLcM, Q.addF, Q.isN, Q.mulF, Q.bandI, Q.iZip, Q.itZ, Q.slD, Q.enOf, Q.tV, Q.tK, Q.t2, Q.t1, Q.tB, Q.cI, Q.cIp, Q.subI, Q.fdivI, Q.fdivW, Q.modI, Q.ltI, Q.leI, Q.gtI, Q.geI, Q.negI, Q.vAnd, Q.vNot, Q.qAnd, Q.qOr, Q.qNot, Q.qIf, Q.chI, Q.tTupQ, Q.dNil, Q.dCons, Q.tLstQ, Q.tFz, Q.tCA, Q.lenD, Q.tupD, Q.isD, Q.isInt, Q.isBool, Q.isTup, Q.isStr, Q.tLenN, Q.tIxN, Q.setQ, Q.aNil, Q.aD, Q.aK, Q.tCallQ, Q.tCallKQ, Q.pick, Q.sNil, Q.sSeq, Q.sRet, Q.sExpr, Q.sIf, Q.sSet, Q.sSetL, Q.sAsg, Q.sFor, Q.sPar2, Q.sPar3, Q.pNil, Q.pD, Q.pO, Q.gN, Q.gT, Q.gsNil, Q.gsCons, Q.iQ, Q.itD, Q.iEn, Q.itE, Q.rg1, Q.oSome, Q.tSlQ, Q.revD, Q.tOwnM, Q.appC, Q.popC, Q.extC, Q.ownL, Q.tRepL, Q.repC, Q.sSetIx, Q.ixOwn, Q.tLcQ, Q.noOwn, Q.rstQ, Q.wipeQ, Q.sDn, Q.sSetD, Q.tDgetN, Q.dOwn, Q.sNever, Q.isB, Q.listD, Q.listC, Q.reprD, Q.Sl.isOwn, Q.sAugIx, Q.setQ, Q.tLcM, Q.augC, Q.keyD, Q.rg3, List.map_cons, List.map_nil, List.replicate_succ, List.replicate_zero, List.cons_append, List.nil_append, List.append_nil, List.getElem?_cons_zero, List.getElem?_cons_succ, List.set_cons_zero, List.set_cons_succ, List.getD_cons_zero, List.getD_cons_succ, List.filterMap_cons, List.filterMap_nil, List.all_cons, List.all_nil, Bool.and_true, Bool.true_and, Bool.not_true, Bool.not_false, Bool.not_eq_true, Bool.false_eq_true, Bool.and_self, if_true, if_false, true_and, and_true, ↓reduceIte, eqD, neD, sh_int, eqv_int, eqv_strs, sDraw, List.length_cons, List.length_nil, Nat.zero_add, Nat.reduceAdd, decide_true, eq_self]
  exact ⟨ds, rfl, hd, hm, h⟩
end T44
end P57
section P58
open PySem PySem.Spec PyProof.Rows L2 HT Q
namespace T44
def blkC (d : Desk) (C : List (List Int)) (i : Nat) : List (List Int) := (if d.getD i false = true then C.reverse else C).map (· ++ [(i : Int)])
def cdF : List Desk → List (List Int)
  | [] => [[]]
  | d :: R => ((List.range d.length).map (blkC d (cdF R))).flatten
theorem range_blocks {α : Type} (F : Nat → α) (S : Nat) : ∀ k : Nat, (List.range (k * S)).map F = ((List.range k).map fun i => (List.range S).map fun r => F (i * S + r)).flatten
  | 0 => by simp
  | k + 1 => by
    rw [List.range_succ, List.map_append, List.flatten_append, ← range_blocks F S k, Nat.add_mul, Nat.one_mul, List.range_add, List.map_append, List.map_map]
    simp [Function.comp_def]
theorem cdF_eq : ∀ {R : List Desk}, DsOk R → ∃ S : Nat, (S : Int) = manyR R ∧ cdF R = (List.range S).map fun n => (codeR R (n : Nat)).reverse
  | [], _ => ⟨1, rfl, rfl⟩
  | d :: R, h => by
    obtain ⟨S, hS, ih⟩ := cdF_eq (R := R) fun x hx => h x (List.mem_cons_of_mem _ hx)
    have S1 := many_pos (ds := R) fun x hx => h x (List.mem_cons_of_mem _ hx)
    refine ⟨d.length * S, by rw [manyR_c, ← hS, Int.natCast_mul, Int.mul_comm], ?_⟩
    rw [range_blocks, cdF]
    congr 1
    refine List.map_congr_left fun i hi => ?_
    have key : ∀ r, r < S → (codeR (d :: R) ((i * S + r : Nat) : Int)).reverse = (codeR R (if d.getD i false = true then ((S - 1 - r : Nat) : Int) else (r : Int))).reverse ++ [(i : Int)] := fun r hr => by
      have e1 : ((i * S + r : Nat) : Int) / manyR R = (i : Int) := by
        rw [← hS, Int.natCast_add, Int.natCast_mul, Int.add_comm, Int.add_mul_ediv_right _ _ (by omega), Int.ediv_eq_zero_of_lt (by omega) (by omega)]; omega
      have e2 : ((i * S + r : Nat) : Int) % manyR R = (r : Int) := by
        rw [← hS, Int.natCast_add, Int.natCast_mul, Int.add_comm, Int.add_mul_emod_self_right, Int.emod_eq_of_lt (by omega) (by omega)]
      rw [codeR_c, e1, e2, Int.toNat_natCast, List.reverse_cons]
      congr 3
      split
      · rw [← hS]; omega
      · rfl
    unfold blkC
    rw [ih]
    by_cases c : d.getD i false = true
    · rw [if_pos c, ← List.map_reverse, List.map_map]
      apply List.ext_getElem
      · simp
      · intro r h1 h2
        have rS : r < S := by simpa using h1
        have := key r rS
        rw [if_pos c] at this
        simp only [List.getElem_map, List.getElem_reverse, List.getElem_range, List.length_range, Function.comp]
        exact this.symm
    · rw [if_neg c, List.map_map]
      refine List.map_congr_left fun r hr => ?_
      have := key r (List.mem_range.mp hr)
      rw [if_neg c] at this
      exact this.symm
theorem cdF_len {R : List Desk} (h : DsOk R) : ((cdF R).length : Int) = manyR R := by
  obtain ⟨S, hS, e⟩ := cdF_eq h
  rw [e, ← hS]; simp
theorem blkC_len (d : Desk) (C : List (List Int)) (i : Nat) : (blkC d C i).length = C.length := by
  unfold blkC
  rw [List.length_map]
  split <;> simp
theorem cdF_each : ∀ {R : List Desk} {c : List Int}, c ∈ cdF R → c.length = R.length
  | [], c, h => by simp [cdF] at h; rw [h]; rfl
  | d :: R, c, h => by
    unfold cdF at h
    obtain ⟨l, hl, hc⟩ := List.mem_flatten.mp h
    obtain ⟨i, _, rfl⟩ := List.mem_map.mp hl
    unfold blkC at hc
    obtain ⟨c0, h0, rfl⟩ := List.mem_map.mp hc
    have : c0 ∈ cdF R := by
      split at h0
      · exact List.mem_reverse.mp h0
      · exact h0
    rw [List.length_append, cdF_each this]; simp
def codes_s2 : TQS := (sRet (tV 1))
def codes_s1b_s2 : TQS := (sSet 1 (tV 3))
def codes_s1b_s1b : TQS := (sExpr (tOwnM 3 extC (dCons (tFz (tLcQ (iQ (qIf (tB (t2 eqD (tV 5) (tK (.str "tray")))) (tV 1) (t1 revD (tV 1)))) (gN 6) tY (t2 addF (tV 6) (tTupQ (dCons (tV 4) dNil))) [6])) dNil)))
def codes_s1b_s1 : TQS := (sSeq (sFor (iEn (tV 2)) (gT 2 (gsCons (gN 4) (gsCons (gN 5) gsNil))) codes_s1b_s1b) codes_s1b_s2)
def codes_s1b : TQS := (sSeq (sSetL 3 (tLstQ dNil)) codes_s1b_s1)
def codes_s1 : TQS := (sSeq (sFor (iQ (tV 0)) (gN 2) codes_s1b) codes_s2)
def sp__law_codes : PSpec := fun as R => ∃ ds : List Desk, as = [.d (desksD ds)] ∧ T44.Dk ds ∧ many ds ≤ 100000 ∧ R (.list ((cdF ds.reverse).map tupI))
theorem len__law_codes : ∀ as R, sp__law_codes as R → as.length = 1 := by rintro as R ⟨i, rfl, _⟩; rfl
def enG {α : Type} (G : α → PyData) (p : α × Nat) : PyData := .tuple [.int (p.2 : Nat), G p.1]
theorem enum_map {α : Type} (G : α → PyData) : ∀ (l : List α) (i : Nat), enumFrom i (l.map G) = (l.zipIdx i).map (enG G)
  | [], _ => rfl
  | x :: l, i => by rw [List.map_cons, enumFrom, List.zipIdx_cons, List.map_cons, enum_map G l (i + 1)]; rfl
theorem rd__law_codes : ∀ as R, sp__law_codes as R → t__law_codes { nx := fun _ => R .none, rt := R } (enOf as 6) := by
  rintro as R ⟨ds, rfl, hd, hm, h⟩
  have f12 := hd.few
  show sSeq _ codes_s1 _ _
  simp only [Q.isDc, Q.sPar2K, Q.tDisp2, Q.tIxK, Q.sSetIxK, Q.tVd, Q.tGetK, Q.iKeysQ, Q.tDispK, Q.tVals, Q.tAddL, Q.sSetM, Q.sAl2, Q.tAlApp2, Q.sFrz2, Q.iZipM, Q.itZm, Q.tLcM, Q.addF, Q.isN, Q.mulF, Q.bandI, Q.iZip, Q.itZ, Q.slD, Q.enOf, Q.tV, Q.tK, Q.t2, Q.t1, Q.tB, Q.cI, Q.cIp, Q.subI, Q.fdivI, Q.fdivW, Q.modI, Q.ltI, Q.leI, Q.gtI, Q.geI, Q.negI, Q.vAnd, Q.vNot, Q.qAnd, Q.qOr, Q.qNot, Q.qIf, Q.chI, Q.tTupQ, Q.dNil, Q.dCons, Q.tLstQ, Q.tFz, Q.tCA, Q.lenD, Q.tupD, Q.isD, Q.isInt, Q.isBool, Q.isTup, Q.isStr, Q.tLenN, Q.tIxN, Q.setQ, Q.aNil, Q.aD, Q.aK, Q.tCallQ, Q.tCallKQ, Q.pick, Q.sNil, Q.sSeq, Q.sRet, Q.sExpr, Q.sIf, Q.sSet, Q.sSetL, Q.sAsg, Q.sFor, Q.sPar2, Q.sPar3, Q.pNil, Q.pD, Q.pO, Q.gN, Q.gT, Q.gsNil, Q.gsCons, Q.iQ, Q.itD, Q.iEn, Q.itE, Q.rg1, Q.oSome, Q.tSlQ, Q.revD, Q.tOwnM, Q.appC, Q.popC, Q.extC, Q.ownL, Q.tRepL, Q.repC, Q.sSetIx, Q.ixOwn, Q.tLcQ, Q.noOwn, Q.rstQ, Q.wipeQ, Q.sDn, Q.sSetD, Q.tDgetN, Q.dOwn, Q.sNever, Q.isB, Q.listD, Q.listC, Q.reprD, Q.Sl.isOwn, Q.sAugIx, Q.setQ, Q.tLcM, Q.augC, Q.keyD, Q.rg3, List.map_cons, List.map_nil, List.replicate_succ, List.replicate_zero, List.cons_append, List.nil_append, List.append_nil, List.getElem?_cons_zero, List.getElem?_cons_succ, List.set_cons_zero, List.set_cons_succ, List.getD_cons_zero, List.getD_cons_succ, List.filterMap_cons, List.filterMap_nil, List.all_cons, List.all_nil, Bool.and_true, Bool.true_and, Bool.not_true, Bool.not_false, Bool.not_eq_true, Bool.false_eq_true, Bool.and_self, if_true, if_false, true_and, and_true, ↓reduceIte, eqD, neD, sh_int, eqv_int, eqv_strs, sDraw, List.length_cons, List.length_nil, Nat.zero_add, Nat.reduceAdd, decide_true, eq_self]
  refine ⟨by decide, by decide, ?_⟩
  show sSeq _ codes_s2 _ _
  simp only [desksD, Q.isDc, Q.sPar2K, Q.tDisp2, Q.tIxK, Q.sSetIxK, Q.tVd, Q.tGetK, Q.iKeysQ, Q.tDispK, Q.tVals, Q.tAddL, Q.sSetM, Q.sAl2, Q.tAlApp2, Q.sFrz2, Q.iZipM, Q.itZm, Q.tLcM, Q.addF, Q.isN, Q.mulF, Q.bandI, Q.iZip, Q.itZ, Q.slD, Q.enOf, Q.tV, Q.tK, Q.t2, Q.t1, Q.tB, Q.cI, Q.cIp, Q.subI, Q.fdivI, Q.fdivW, Q.modI, Q.ltI, Q.leI, Q.gtI, Q.geI, Q.negI, Q.vAnd, Q.vNot, Q.qAnd, Q.qOr, Q.qNot, Q.qIf, Q.chI, Q.tTupQ, Q.dNil, Q.dCons, Q.tLstQ, Q.tFz, Q.tCA, Q.lenD, Q.tupD, Q.isD, Q.isInt, Q.isBool, Q.isTup, Q.isStr, Q.tLenN, Q.tIxN, Q.setQ, Q.aNil, Q.aD, Q.aK, Q.tCallQ, Q.tCallKQ, Q.pick, Q.sNil, Q.sSeq, Q.sRet, Q.sExpr, Q.sIf, Q.sSet, Q.sSetL, Q.sAsg, Q.sFor, Q.sPar2, Q.sPar3, Q.pNil, Q.pD, Q.pO, Q.gN, Q.gT, Q.gsNil, Q.gsCons, Q.iQ, Q.itD, Q.iEn, Q.itE, Q.rg1, Q.oSome, Q.tSlQ, Q.revD, Q.tOwnM, Q.appC, Q.popC, Q.extC, Q.ownL, Q.tRepL, Q.repC, Q.sSetIx, Q.ixOwn, Q.tLcQ, Q.noOwn, Q.rstQ, Q.wipeQ, Q.sDn, Q.sSetD, Q.tDgetN, Q.dOwn, Q.sNever, Q.isB, Q.listD, Q.listC, Q.reprD, Q.Sl.isOwn, Q.sAugIx, Q.setQ, Q.tLcM, Q.augC, Q.keyD, Q.rg3, List.map_cons, List.map_nil, List.replicate_succ, List.replicate_zero, List.cons_append, List.nil_append, List.append_nil, List.getElem?_cons_zero, List.getElem?_cons_succ, List.set_cons_zero, List.set_cons_succ, List.getD_cons_zero, List.getD_cons_succ, List.filterMap_cons, List.filterMap_nil, List.all_cons, List.all_nil, Bool.and_true, Bool.true_and, Bool.not_true, Bool.not_false, Bool.not_eq_true, Bool.false_eq_true, Bool.and_self, if_true, if_false, true_and, and_true, ↓reduceIte, eqD, neD, sh_int, eqv_int, eqv_strs, sDraw, List.length_cons, List.length_nil, Nat.zero_add, Nat.reduceAdd, decide_true, eq_self]
  refine for_inv (G := deskD) (fun t ρ => ∃ s2 s3 s4 s5, ρ = [.d (.tuple (ds.map deskD)), .d (.list ((cdF (wdT ds t)).map tupI)), s2, s3, s4, s5, .un]) (fun t d ht ρ hρ E' hn hr _ _ => ?_) (fun ρ hρ => ?_) ⟨_, _, _, _, rfl⟩
  · obtain ⟨s2, s3, s4, s5, rfl⟩ := hρ
    obtain ⟨tl, et⟩ := List.getElem?_eq_some_iff.mp ht
    have dd := hd.ok d (by rw [← et]; exact List.getElem_mem tl)
    have wl := cdF_len (wdT_ok hd.ok t)
    have wm := many_up hd.ok (ds.length - t) t (by omega)
    have wt := wdT_len ds t
    simp only [codes_s1b, Q.isDc, Q.sPar2K, Q.tDisp2, Q.tIxK, Q.sSetIxK, Q.tVd, Q.tGetK, Q.iKeysQ, Q.tDispK, Q.tVals, Q.tAddL, Q.sSetM, Q.sAl2, Q.tAlApp2, Q.sFrz2, Q.iZipM, Q.itZm, Q.tLcM, Q.addF, Q.isN, Q.mulF, Q.bandI, Q.iZip, Q.itZ, Q.slD, Q.enOf, Q.tV, Q.tK, Q.t2, Q.t1, Q.tB, Q.cI, Q.cIp, Q.subI, Q.fdivI, Q.fdivW, Q.modI, Q.ltI, Q.leI, Q.gtI, Q.geI, Q.negI, Q.vAnd, Q.vNot, Q.qAnd, Q.qOr, Q.qNot, Q.qIf, Q.chI, Q.tTupQ, Q.dNil, Q.dCons, Q.tLstQ, Q.tFz, Q.tCA, Q.lenD, Q.tupD, Q.isD, Q.isInt, Q.isBool, Q.isTup, Q.isStr, Q.tLenN, Q.tIxN, Q.setQ, Q.aNil, Q.aD, Q.aK, Q.tCallQ, Q.tCallKQ, Q.pick, Q.sNil, Q.sSeq, Q.sRet, Q.sExpr, Q.sIf, Q.sSet, Q.sSetL, Q.sAsg, Q.sFor, Q.sPar2, Q.sPar3, Q.pNil, Q.pD, Q.pO, Q.gN, Q.gT, Q.gsNil, Q.gsCons, Q.iQ, Q.itD, Q.iEn, Q.itE, Q.rg1, Q.oSome, Q.tSlQ, Q.revD, Q.tOwnM, Q.appC, Q.popC, Q.extC, Q.ownL, Q.tRepL, Q.repC, Q.sSetIx, Q.ixOwn, Q.tLcQ, Q.noOwn, Q.rstQ, Q.wipeQ, Q.sDn, Q.sSetD, Q.tDgetN, Q.dOwn, Q.sNever, Q.isB, Q.listD, Q.listC, Q.reprD, Q.Sl.isOwn, Q.sAugIx, Q.setQ, Q.tLcM, Q.augC, Q.keyD, Q.rg3, List.map_cons, List.map_nil, List.replicate_succ, List.replicate_zero, List.cons_append, List.nil_append, List.append_nil, List.getElem?_cons_zero, List.getElem?_cons_succ, List.set_cons_zero, List.set_cons_succ, List.getD_cons_zero, List.getD_cons_succ, List.filterMap_cons, List.filterMap_nil, List.all_cons, List.all_nil, Bool.and_true, Bool.true_and, Bool.not_true, Bool.not_false, Bool.not_eq_true, Bool.false_eq_true, Bool.and_self, if_true, if_false, true_and, and_true, ↓reduceIte, eqD, neD, sh_int, eqv_int, eqv_strs, sDraw, List.length_cons, List.length_nil, Nat.zero_add, Nat.reduceAdd, decide_true, eq_self]
    refine ⟨by decide, ?_⟩
    show sSeq _ codes_s1b_s2 _ _
    simp only [deskD, Q.isDc, Q.sPar2K, Q.tDisp2, Q.tIxK, Q.sSetIxK, Q.tVd, Q.tGetK, Q.iKeysQ, Q.tDispK, Q.tVals, Q.tAddL, Q.sSetM, Q.sAl2, Q.tAlApp2, Q.sFrz2, Q.iZipM, Q.itZm, Q.tLcM, Q.addF, Q.isN, Q.mulF, Q.bandI, Q.iZip, Q.itZ, Q.slD, Q.enOf, Q.tV, Q.tK, Q.t2, Q.t1, Q.tB, Q.cI, Q.cIp, Q.subI, Q.fdivI, Q.fdivW, Q.modI, Q.ltI, Q.leI, Q.gtI, Q.geI, Q.negI, Q.vAnd, Q.vNot, Q.qAnd, Q.qOr, Q.qNot, Q.qIf, Q.chI, Q.tTupQ, Q.dNil, Q.dCons, Q.tLstQ, Q.tFz, Q.tCA, Q.lenD, Q.tupD, Q.isD, Q.isInt, Q.isBool, Q.isTup, Q.isStr, Q.tLenN, Q.tIxN, Q.setQ, Q.aNil, Q.aD, Q.aK, Q.tCallQ, Q.tCallKQ, Q.pick, Q.sNil, Q.sSeq, Q.sRet, Q.sExpr, Q.sIf, Q.sSet, Q.sSetL, Q.sAsg, Q.sFor, Q.sPar2, Q.sPar3, Q.pNil, Q.pD, Q.pO, Q.gN, Q.gT, Q.gsNil, Q.gsCons, Q.iQ, Q.itD, Q.iEn, Q.itE, Q.rg1, Q.oSome, Q.tSlQ, Q.revD, Q.tOwnM, Q.appC, Q.popC, Q.extC, Q.ownL, Q.tRepL, Q.repC, Q.sSetIx, Q.ixOwn, Q.tLcQ, Q.noOwn, Q.rstQ, Q.wipeQ, Q.sDn, Q.sSetD, Q.tDgetN, Q.dOwn, Q.sNever, Q.isB, Q.listD, Q.listC, Q.reprD, Q.Sl.isOwn, Q.sAugIx, Q.setQ, Q.tLcM, Q.augC, Q.keyD, Q.rg3, List.map_cons, List.map_nil, List.replicate_succ, List.replicate_zero, List.cons_append, List.nil_append, List.append_nil, List.getElem?_cons_zero, List.getElem?_cons_succ, List.set_cons_zero, List.set_cons_succ, List.getD_cons_zero, List.getD_cons_succ, List.filterMap_cons, List.filterMap_nil, List.all_cons, List.all_nil, Bool.and_true, Bool.true_and, Bool.not_true, Bool.not_false, Bool.not_eq_true, Bool.false_eq_true, Bool.and_self, if_true, if_false, true_and, and_true, ↓reduceIte, eqD, neD, sh_int, eqv_int, eqv_strs, sDraw, List.length_cons, List.length_nil, Nat.zero_add, Nat.reduceAdd, decide_true, eq_self]
    rw [enum_map]
    refine for_inv (G := enG plD) (fun j ρ => ∃ s4 s5, ρ = [.d (.tuple (ds.map deskD)), .d (.list ((cdF (wdT ds t)).map tupI)), .d (.tuple (d.map plD)), .own ((((List.range j).map (blkC d (cdF (wdT ds t)))).flatten).map tupI), s4, s5, .un]) (fun j p hj ρ hρ E2 hn2 hr2 _ _ => ?_) (fun ρ hρ => ?_) ⟨_, _, by rfl⟩
    · obtain ⟨s4, s5, rfl⟩ := hρ
      obtain ⟨jl, ej⟩ := List.getElem?_eq_some_iff.mp hj
      rw [List.length_zipIdx] at jl
      have ep : p = (d.getD j false, j) := by
        rw [← ej]
        simp [List.getD_eq_getElem?_getD, jl]
      subst ep
      have small : ∀ m, ((((List.range m).map (blkC d (cdF (wdT ds t)))).flatten)).length = m * (cdF (wdT ds t)).length := fun m => by
        induction m with
        | zero => simp
        | succ m ih => rw [List.range_succ, List.map_append, List.flatten_append, List.length_append, ih, Nat.add_mul]; simp [blkC_len]
      have sm : j * (cdF (wdT ds t)).length ≤ 6 * 100000 := Nat.mul_le_mul (by omega) (by omega)
      have fin : ∀ ys : List (List Int), ys = blkC d (cdF (wdT ds t)) j → (((((List.range j).map (blkC d (cdF (wdT ds t)))).flatten).map tupI).length + (ys.map tupI).length ≤ 1000000) ∧
          E2.nx [.d (.tuple (ds.map deskD)), .d (.list ((cdF (wdT ds t)).map tupI)), .d (.tuple (d.map plD)), .own ((((List.range j).map (blkC d (cdF (wdT ds t)))).flatten).map tupI ++ ys.map tupI), .d (.int (j : Nat)), .d (plD (d.getD j false)), .un] := fun ys ey => by
        subst ey
        refine ⟨by rw [List.length_map, List.length_map, small, blkC_len]; omega, ?_⟩
        refine hn2 _ ⟨.d (.int (j : Nat)), .d (plD (d.getD j false)), ?_⟩
        rw [List.range_succ, List.map_append, List.flatten_append, List.map_append]
        simp
      simp only [enG, codes_s1b_s1b, Q.isDc, Q.sPar2K, Q.tDisp2, Q.tIxK, Q.sSetIxK, Q.tVd, Q.tGetK, Q.iKeysQ, Q.tDispK, Q.tVals, Q.tAddL, Q.sSetM, Q.sAl2, Q.tAlApp2, Q.sFrz2, Q.iZipM, Q.itZm, Q.tLcM, Q.addF, Q.isN, Q.mulF, Q.bandI, Q.iZip, Q.itZ, Q.slD, Q.enOf, Q.tV, Q.tK, Q.t2, Q.t1, Q.tB, Q.cI, Q.cIp, Q.subI, Q.fdivI, Q.fdivW, Q.modI, Q.ltI, Q.leI, Q.gtI, Q.geI, Q.negI, Q.vAnd, Q.vNot, Q.qAnd, Q.qOr, Q.qNot, Q.qIf, Q.chI, Q.tTupQ, Q.dNil, Q.dCons, Q.tLstQ, Q.tFz, Q.tCA, Q.lenD, Q.tupD, Q.isD, Q.isInt, Q.isBool, Q.isTup, Q.isStr, Q.tLenN, Q.tIxN, Q.setQ, Q.aNil, Q.aD, Q.aK, Q.tCallQ, Q.tCallKQ, Q.pick, Q.sNil, Q.sSeq, Q.sRet, Q.sExpr, Q.sIf, Q.sSet, Q.sSetL, Q.sAsg, Q.sFor, Q.sPar2, Q.sPar3, Q.pNil, Q.pD, Q.pO, Q.gN, Q.gT, Q.gsNil, Q.gsCons, Q.iQ, Q.itD, Q.iEn, Q.itE, Q.rg1, Q.oSome, Q.tSlQ, Q.revD, Q.tOwnM, Q.appC, Q.popC, Q.extC, Q.ownL, Q.tRepL, Q.repC, Q.sSetIx, Q.ixOwn, Q.tLcQ, Q.noOwn, Q.rstQ, Q.wipeQ, Q.sDn, Q.sSetD, Q.tDgetN, Q.dOwn, Q.sNever, Q.isB, Q.listD, Q.listC, Q.reprD, Q.Sl.isOwn, Q.sAugIx, Q.setQ, Q.tLcM, Q.augC, Q.keyD, Q.rg3, List.map_cons, List.map_nil, List.replicate_succ, List.replicate_zero, List.cons_append, List.nil_append, List.append_nil, List.getElem?_cons_zero, List.getElem?_cons_succ, List.set_cons_zero, List.set_cons_succ, List.getD_cons_zero, List.getD_cons_succ, List.filterMap_cons, List.filterMap_nil, List.all_cons, List.all_nil, Bool.and_true, Bool.true_and, Bool.not_true, Bool.not_false, Bool.not_eq_true, Bool.false_eq_true, Bool.and_self, if_true, if_false, true_and, and_true, ↓reduceIte, eqD, neD, sh_int, eqv_int, eqv_strs, sDraw, List.length_cons, List.length_nil, Nat.zero_add, Nat.reduceAdd, decide_true, eq_self]
      refine ⟨sh_pl, sh_tray, ?_⟩
      rw [eqv_tray]
      have each : ∀ c, c ∈ cdF (wdT ds t) → c.length ≤ 12 := fun c hc => by rw [cdF_each hc]; omega
      cases b : d.getD j false with
      | false =>
        rw [b] at fin
        simp only [Q.isDc, Q.sPar2K, Q.tDisp2, Q.tIxK, Q.sSetIxK, Q.tVd, Q.tGetK, Q.iKeysQ, Q.tDispK, Q.tVals, Q.tAddL, Q.sSetM, Q.sAl2, Q.tAlApp2, Q.sFrz2, Q.iZipM, Q.itZm, Q.tLcM, Q.addF, Q.isN, Q.mulF, Q.bandI, Q.iZip, Q.itZ, Q.slD, Q.enOf, Q.tV, Q.tK, Q.t2, Q.t1, Q.tB, Q.cI, Q.cIp, Q.subI, Q.fdivI, Q.fdivW, Q.modI, Q.ltI, Q.leI, Q.gtI, Q.geI, Q.negI, Q.vAnd, Q.vNot, Q.qAnd, Q.qOr, Q.qNot, Q.qIf, Q.chI, Q.tTupQ, Q.dNil, Q.dCons, Q.tLstQ, Q.tFz, Q.tCA, Q.lenD, Q.tupD, Q.isD, Q.isInt, Q.isBool, Q.isTup, Q.isStr, Q.tLenN, Q.tIxN, Q.setQ, Q.aNil, Q.aD, Q.aK, Q.tCallQ, Q.tCallKQ, Q.pick, Q.sNil, Q.sSeq, Q.sRet, Q.sExpr, Q.sIf, Q.sSet, Q.sSetL, Q.sAsg, Q.sFor, Q.sPar2, Q.sPar3, Q.pNil, Q.pD, Q.pO, Q.gN, Q.gT, Q.gsNil, Q.gsCons, Q.iQ, Q.itD, Q.iEn, Q.itE, Q.rg1, Q.oSome, Q.tSlQ, Q.revD, Q.tOwnM, Q.appC, Q.popC, Q.extC, Q.ownL, Q.tRepL, Q.repC, Q.sSetIx, Q.ixOwn, Q.tLcQ, Q.noOwn, Q.rstQ, Q.wipeQ, Q.sDn, Q.sSetD, Q.tDgetN, Q.dOwn, Q.sNever, Q.isB, Q.listD, Q.listC, Q.reprD, Q.Sl.isOwn, Q.sAugIx, Q.setQ, Q.tLcM, Q.augC, Q.keyD, Q.rg3, List.map_cons, List.map_nil, List.replicate_succ, List.replicate_zero, List.cons_append, List.nil_append, List.append_nil, List.getElem?_cons_zero, List.getElem?_cons_succ, List.set_cons_zero, List.set_cons_succ, List.getD_cons_zero, List.getD_cons_succ, List.filterMap_cons, List.filterMap_nil, List.all_cons, List.all_nil, Bool.and_true, Bool.true_and, Bool.not_true, Bool.not_false, Bool.not_eq_true, Bool.false_eq_true, Bool.and_self, if_true, if_false, true_and, and_true, ↓reduceIte, eqD, neD, sh_int, eqv_int, eqv_strs, sDraw, List.length_cons, List.length_nil, Nat.zero_add, Nat.reduceAdd, decide_true, eq_self]
        refine comp_mapG tupI (fun c => tupI (c ++ [(j : Int)])) (fun c hc Rk hk => ?_) ?_
        · have := each c hc
          simp only [tupI, Q.isDc, Q.sPar2K, Q.tDisp2, Q.tIxK, Q.sSetIxK, Q.tVd, Q.tGetK, Q.iKeysQ, Q.tDispK, Q.tVals, Q.tAddL, Q.sSetM, Q.sAl2, Q.tAlApp2, Q.sFrz2, Q.iZipM, Q.itZm, Q.tLcM, Q.addF, Q.isN, Q.mulF, Q.bandI, Q.iZip, Q.itZ, Q.slD, Q.enOf, Q.tV, Q.tK, Q.t2, Q.t1, Q.tB, Q.cI, Q.cIp, Q.subI, Q.fdivI, Q.fdivW, Q.modI, Q.ltI, Q.leI, Q.gtI, Q.geI, Q.negI, Q.vAnd, Q.vNot, Q.qAnd, Q.qOr, Q.qNot, Q.qIf, Q.chI, Q.tTupQ, Q.dNil, Q.dCons, Q.tLstQ, Q.tFz, Q.tCA, Q.lenD, Q.tupD, Q.isD, Q.isInt, Q.isBool, Q.isTup, Q.isStr, Q.tLenN, Q.tIxN, Q.setQ, Q.aNil, Q.aD, Q.aK, Q.tCallQ, Q.tCallKQ, Q.pick, Q.sNil, Q.sSeq, Q.sRet, Q.sExpr, Q.sIf, Q.sSet, Q.sSetL, Q.sAsg, Q.sFor, Q.sPar2, Q.sPar3, Q.pNil, Q.pD, Q.pO, Q.gN, Q.gT, Q.gsNil, Q.gsCons, Q.iQ, Q.itD, Q.iEn, Q.itE, Q.rg1, Q.oSome, Q.tSlQ, Q.revD, Q.tOwnM, Q.appC, Q.popC, Q.extC, Q.ownL, Q.tRepL, Q.repC, Q.sSetIx, Q.ixOwn, Q.tLcQ, Q.noOwn, Q.rstQ, Q.wipeQ, Q.sDn, Q.sSetD, Q.tDgetN, Q.dOwn, Q.sNever, Q.isB, Q.listD, Q.listC, Q.reprD, Q.Sl.isOwn, Q.sAugIx, Q.setQ, Q.tLcM, Q.augC, Q.keyD, Q.rg3, List.map_cons, List.map_nil, List.replicate_succ, List.replicate_zero, List.cons_append, List.nil_append, List.append_nil, List.getElem?_cons_zero, List.getElem?_cons_succ, List.set_cons_zero, List.set_cons_succ, List.getD_cons_zero, List.getD_cons_succ, List.filterMap_cons, List.filterMap_nil, List.all_cons, List.all_nil, Bool.and_true, Bool.true_and, Bool.not_true, Bool.not_false, Bool.not_eq_true, Bool.false_eq_true, Bool.and_self, if_true, if_false, true_and, and_true, ↓reduceIte, eqD, neD, sh_int, eqv_int, eqv_strs, sDraw, List.length_cons, List.length_nil, Nat.zero_add, Nat.reduceAdd, decide_true, eq_self, List.length_map]
          refine ⟨by simp, by simp; omega, ?_⟩
          have ec : c.map PyData.int ++ [PyData.int (j : Int)] = (c ++ [(j : Int)]).map .int := by simp
          rw [ec]
          exact hk _ (by rfl)
        · have eb : (cdF (wdT ds t)).map (fun c => tupI (c ++ [(j : Int)])) = (blkC d (cdF (wdT ds t)) j).map tupI := by
            unfold blkC
            rw [b, if_neg (by decide), List.map_map]; rfl
          rw [eb]
          try simp only [Q.isDc, Q.sPar2K, Q.tDisp2, Q.tIxK, Q.sSetIxK, Q.tVd, Q.tGetK, Q.iKeysQ, Q.tDispK, Q.tVals, Q.tAddL, Q.sSetM, Q.sAl2, Q.tAlApp2, Q.sFrz2, Q.iZipM, Q.itZm, Q.tLcM, Q.addF, Q.isN, Q.mulF, Q.bandI, Q.iZip, Q.itZ, Q.slD, Q.enOf, Q.tV, Q.tK, Q.t2, Q.t1, Q.tB, Q.cI, Q.cIp, Q.subI, Q.fdivI, Q.fdivW, Q.modI, Q.ltI, Q.leI, Q.gtI, Q.geI, Q.negI, Q.vAnd, Q.vNot, Q.qAnd, Q.qOr, Q.qNot, Q.qIf, Q.chI, Q.tTupQ, Q.dNil, Q.dCons, Q.tLstQ, Q.tFz, Q.tCA, Q.lenD, Q.tupD, Q.isD, Q.isInt, Q.isBool, Q.isTup, Q.isStr, Q.tLenN, Q.tIxN, Q.setQ, Q.aNil, Q.aD, Q.aK, Q.tCallQ, Q.tCallKQ, Q.pick, Q.sNil, Q.sSeq, Q.sRet, Q.sExpr, Q.sIf, Q.sSet, Q.sSetL, Q.sAsg, Q.sFor, Q.sPar2, Q.sPar3, Q.pNil, Q.pD, Q.pO, Q.gN, Q.gT, Q.gsNil, Q.gsCons, Q.iQ, Q.itD, Q.iEn, Q.itE, Q.rg1, Q.oSome, Q.tSlQ, Q.revD, Q.tOwnM, Q.appC, Q.popC, Q.extC, Q.ownL, Q.tRepL, Q.repC, Q.sSetIx, Q.ixOwn, Q.tLcQ, Q.noOwn, Q.rstQ, Q.wipeQ, Q.sDn, Q.sSetD, Q.tDgetN, Q.dOwn, Q.sNever, Q.isB, Q.listD, Q.listC, Q.reprD, Q.Sl.isOwn, Q.sAugIx, Q.setQ, Q.tLcM, Q.augC, Q.keyD, Q.rg3, List.map_cons, List.map_nil, List.replicate_succ, List.replicate_zero, List.cons_append, List.nil_append, List.append_nil, List.getElem?_cons_zero, List.getElem?_cons_succ, List.set_cons_zero, List.set_cons_succ, List.getD_cons_zero, List.getD_cons_succ, List.filterMap_cons, List.filterMap_nil, List.all_cons, List.all_nil, Bool.and_true, Bool.true_and, Bool.not_true, Bool.not_false, Bool.not_eq_true, Bool.false_eq_true, Bool.and_self, if_true, if_false, true_and, and_true, ↓reduceIte, eqD, neD, sh_int, eqv_int, eqv_strs, sDraw, List.length_cons, List.length_nil, Nat.zero_add, Nat.reduceAdd, decide_true, eq_self]
          exact fin _ rfl
      | true =>
        rw [b] at fin
        simp only [Q.isDc, Q.sPar2K, Q.tDisp2, Q.tIxK, Q.sSetIxK, Q.tVd, Q.tGetK, Q.iKeysQ, Q.tDispK, Q.tVals, Q.tAddL, Q.sSetM, Q.sAl2, Q.tAlApp2, Q.sFrz2, Q.iZipM, Q.itZm, Q.tLcM, Q.addF, Q.isN, Q.mulF, Q.bandI, Q.iZip, Q.itZ, Q.slD, Q.enOf, Q.tV, Q.tK, Q.t2, Q.t1, Q.tB, Q.cI, Q.cIp, Q.subI, Q.fdivI, Q.fdivW, Q.modI, Q.ltI, Q.leI, Q.gtI, Q.geI, Q.negI, Q.vAnd, Q.vNot, Q.qAnd, Q.qOr, Q.qNot, Q.qIf, Q.chI, Q.tTupQ, Q.dNil, Q.dCons, Q.tLstQ, Q.tFz, Q.tCA, Q.lenD, Q.tupD, Q.isD, Q.isInt, Q.isBool, Q.isTup, Q.isStr, Q.tLenN, Q.tIxN, Q.setQ, Q.aNil, Q.aD, Q.aK, Q.tCallQ, Q.tCallKQ, Q.pick, Q.sNil, Q.sSeq, Q.sRet, Q.sExpr, Q.sIf, Q.sSet, Q.sSetL, Q.sAsg, Q.sFor, Q.sPar2, Q.sPar3, Q.pNil, Q.pD, Q.pO, Q.gN, Q.gT, Q.gsNil, Q.gsCons, Q.iQ, Q.itD, Q.iEn, Q.itE, Q.rg1, Q.oSome, Q.tSlQ, Q.revD, Q.tOwnM, Q.appC, Q.popC, Q.extC, Q.ownL, Q.tRepL, Q.repC, Q.sSetIx, Q.ixOwn, Q.tLcQ, Q.noOwn, Q.rstQ, Q.wipeQ, Q.sDn, Q.sSetD, Q.tDgetN, Q.dOwn, Q.sNever, Q.isB, Q.listD, Q.listC, Q.reprD, Q.Sl.isOwn, Q.sAugIx, Q.setQ, Q.tLcM, Q.augC, Q.keyD, Q.rg3, List.map_cons, List.map_nil, List.replicate_succ, List.replicate_zero, List.cons_append, List.nil_append, List.append_nil, List.getElem?_cons_zero, List.getElem?_cons_succ, List.set_cons_zero, List.set_cons_succ, List.getD_cons_zero, List.getD_cons_succ, List.filterMap_cons, List.filterMap_nil, List.all_cons, List.all_nil, Bool.and_true, Bool.true_and, Bool.not_true, Bool.not_false, Bool.not_eq_true, Bool.false_eq_true, Bool.and_self, if_true, if_false, true_and, and_true, ↓reduceIte, eqD, neD, sh_int, eqv_int, eqv_strs, sDraw, List.length_cons, List.length_nil, Nat.zero_add, Nat.reduceAdd, decide_true, eq_self]
        rw [← List.map_reverse]
        refine comp_mapG tupI (fun c => tupI (c ++ [(j : Int)])) (fun c hc Rk hk => ?_) ?_
        · have := each c (List.mem_reverse.mp hc)
          simp only [tupI, Q.isDc, Q.sPar2K, Q.tDisp2, Q.tIxK, Q.sSetIxK, Q.tVd, Q.tGetK, Q.iKeysQ, Q.tDispK, Q.tVals, Q.tAddL, Q.sSetM, Q.sAl2, Q.tAlApp2, Q.sFrz2, Q.iZipM, Q.itZm, Q.tLcM, Q.addF, Q.isN, Q.mulF, Q.bandI, Q.iZip, Q.itZ, Q.slD, Q.enOf, Q.tV, Q.tK, Q.t2, Q.t1, Q.tB, Q.cI, Q.cIp, Q.subI, Q.fdivI, Q.fdivW, Q.modI, Q.ltI, Q.leI, Q.gtI, Q.geI, Q.negI, Q.vAnd, Q.vNot, Q.qAnd, Q.qOr, Q.qNot, Q.qIf, Q.chI, Q.tTupQ, Q.dNil, Q.dCons, Q.tLstQ, Q.tFz, Q.tCA, Q.lenD, Q.tupD, Q.isD, Q.isInt, Q.isBool, Q.isTup, Q.isStr, Q.tLenN, Q.tIxN, Q.setQ, Q.aNil, Q.aD, Q.aK, Q.tCallQ, Q.tCallKQ, Q.pick, Q.sNil, Q.sSeq, Q.sRet, Q.sExpr, Q.sIf, Q.sSet, Q.sSetL, Q.sAsg, Q.sFor, Q.sPar2, Q.sPar3, Q.pNil, Q.pD, Q.pO, Q.gN, Q.gT, Q.gsNil, Q.gsCons, Q.iQ, Q.itD, Q.iEn, Q.itE, Q.rg1, Q.oSome, Q.tSlQ, Q.revD, Q.tOwnM, Q.appC, Q.popC, Q.extC, Q.ownL, Q.tRepL, Q.repC, Q.sSetIx, Q.ixOwn, Q.tLcQ, Q.noOwn, Q.rstQ, Q.wipeQ, Q.sDn, Q.sSetD, Q.tDgetN, Q.dOwn, Q.sNever, Q.isB, Q.listD, Q.listC, Q.reprD, Q.Sl.isOwn, Q.sAugIx, Q.setQ, Q.tLcM, Q.augC, Q.keyD, Q.rg3, List.map_cons, List.map_nil, List.replicate_succ, List.replicate_zero, List.cons_append, List.nil_append, List.append_nil, List.getElem?_cons_zero, List.getElem?_cons_succ, List.set_cons_zero, List.set_cons_succ, List.getD_cons_zero, List.getD_cons_succ, List.filterMap_cons, List.filterMap_nil, List.all_cons, List.all_nil, Bool.and_true, Bool.true_and, Bool.not_true, Bool.not_false, Bool.not_eq_true, Bool.false_eq_true, Bool.and_self, if_true, if_false, true_and, and_true, ↓reduceIte, eqD, neD, sh_int, eqv_int, eqv_strs, sDraw, List.length_cons, List.length_nil, Nat.zero_add, Nat.reduceAdd, decide_true, eq_self, List.length_map]
          refine ⟨by simp, by simp; omega, ?_⟩
          have ec : c.map PyData.int ++ [PyData.int (j : Int)] = (c ++ [(j : Int)]).map .int := by simp
          rw [ec]
          exact hk _ (by rfl)
        · have eb : (cdF (wdT ds t)).reverse.map (fun c => tupI (c ++ [(j : Int)])) = (blkC d (cdF (wdT ds t)) j).map tupI := by
            unfold blkC
            rw [b, if_pos rfl, List.map_map]; rfl
          rw [eb]
          try simp only [Q.isDc, Q.sPar2K, Q.tDisp2, Q.tIxK, Q.sSetIxK, Q.tVd, Q.tGetK, Q.iKeysQ, Q.tDispK, Q.tVals, Q.tAddL, Q.sSetM, Q.sAl2, Q.tAlApp2, Q.sFrz2, Q.iZipM, Q.itZm, Q.tLcM, Q.addF, Q.isN, Q.mulF, Q.bandI, Q.iZip, Q.itZ, Q.slD, Q.enOf, Q.tV, Q.tK, Q.t2, Q.t1, Q.tB, Q.cI, Q.cIp, Q.subI, Q.fdivI, Q.fdivW, Q.modI, Q.ltI, Q.leI, Q.gtI, Q.geI, Q.negI, Q.vAnd, Q.vNot, Q.qAnd, Q.qOr, Q.qNot, Q.qIf, Q.chI, Q.tTupQ, Q.dNil, Q.dCons, Q.tLstQ, Q.tFz, Q.tCA, Q.lenD, Q.tupD, Q.isD, Q.isInt, Q.isBool, Q.isTup, Q.isStr, Q.tLenN, Q.tIxN, Q.setQ, Q.aNil, Q.aD, Q.aK, Q.tCallQ, Q.tCallKQ, Q.pick, Q.sNil, Q.sSeq, Q.sRet, Q.sExpr, Q.sIf, Q.sSet, Q.sSetL, Q.sAsg, Q.sFor, Q.sPar2, Q.sPar3, Q.pNil, Q.pD, Q.pO, Q.gN, Q.gT, Q.gsNil, Q.gsCons, Q.iQ, Q.itD, Q.iEn, Q.itE, Q.rg1, Q.oSome, Q.tSlQ, Q.revD, Q.tOwnM, Q.appC, Q.popC, Q.extC, Q.ownL, Q.tRepL, Q.repC, Q.sSetIx, Q.ixOwn, Q.tLcQ, Q.noOwn, Q.rstQ, Q.wipeQ, Q.sDn, Q.sSetD, Q.tDgetN, Q.dOwn, Q.sNever, Q.isB, Q.listD, Q.listC, Q.reprD, Q.Sl.isOwn, Q.sAugIx, Q.setQ, Q.tLcM, Q.augC, Q.keyD, Q.rg3, List.map_cons, List.map_nil, List.replicate_succ, List.replicate_zero, List.cons_append, List.nil_append, List.append_nil, List.getElem?_cons_zero, List.getElem?_cons_succ, List.set_cons_zero, List.set_cons_succ, List.getD_cons_zero, List.getD_cons_succ, List.filterMap_cons, List.filterMap_nil, List.all_cons, List.all_nil, Bool.and_true, Bool.true_and, Bool.not_true, Bool.not_false, Bool.not_eq_true, Bool.false_eq_true, Bool.and_self, if_true, if_false, true_and, and_true, ↓reduceIte, eqD, neD, sh_int, eqv_int, eqv_strs, sDraw, List.length_cons, List.length_nil, Nat.zero_add, Nat.reduceAdd, decide_true, eq_self]
          exact fin _ rfl
    · obtain ⟨s4, s5, rfl⟩ := hρ
      rw [List.length_zipIdx]
      simp only [codes_s1b_s2, Q.isDc, Q.sPar2K, Q.tDisp2, Q.tIxK, Q.sSetIxK, Q.tVd, Q.tGetK, Q.iKeysQ, Q.tDispK, Q.tVals, Q.tAddL, Q.sSetM, Q.sAl2, Q.tAlApp2, Q.sFrz2, Q.iZipM, Q.itZm, Q.tLcM, Q.addF, Q.isN, Q.mulF, Q.bandI, Q.iZip, Q.itZ, Q.slD, Q.enOf, Q.tV, Q.tK, Q.t2, Q.t1, Q.tB, Q.cI, Q.cIp, Q.subI, Q.fdivI, Q.fdivW, Q.modI, Q.ltI, Q.leI, Q.gtI, Q.geI, Q.negI, Q.vAnd, Q.vNot, Q.qAnd, Q.qOr, Q.qNot, Q.qIf, Q.chI, Q.tTupQ, Q.dNil, Q.dCons, Q.tLstQ, Q.tFz, Q.tCA, Q.lenD, Q.tupD, Q.isD, Q.isInt, Q.isBool, Q.isTup, Q.isStr, Q.tLenN, Q.tIxN, Q.setQ, Q.aNil, Q.aD, Q.aK, Q.tCallQ, Q.tCallKQ, Q.pick, Q.sNil, Q.sSeq, Q.sRet, Q.sExpr, Q.sIf, Q.sSet, Q.sSetL, Q.sAsg, Q.sFor, Q.sPar2, Q.sPar3, Q.pNil, Q.pD, Q.pO, Q.gN, Q.gT, Q.gsNil, Q.gsCons, Q.iQ, Q.itD, Q.iEn, Q.itE, Q.rg1, Q.oSome, Q.tSlQ, Q.revD, Q.tOwnM, Q.appC, Q.popC, Q.extC, Q.ownL, Q.tRepL, Q.repC, Q.sSetIx, Q.ixOwn, Q.tLcQ, Q.noOwn, Q.rstQ, Q.wipeQ, Q.sDn, Q.sSetD, Q.tDgetN, Q.dOwn, Q.sNever, Q.isB, Q.listD, Q.listC, Q.reprD, Q.Sl.isOwn, Q.sAugIx, Q.setQ, Q.tLcM, Q.augC, Q.keyD, Q.rg3, List.map_cons, List.map_nil, List.replicate_succ, List.replicate_zero, List.cons_append, List.nil_append, List.append_nil, List.getElem?_cons_zero, List.getElem?_cons_succ, List.set_cons_zero, List.set_cons_succ, List.getD_cons_zero, List.getD_cons_succ, List.filterMap_cons, List.filterMap_nil, List.all_cons, List.all_nil, Bool.and_true, Bool.true_and, Bool.not_true, Bool.not_false, Bool.not_eq_true, Bool.false_eq_true, Bool.and_self, if_true, if_false, true_and, and_true, ↓reduceIte, eqD, neD, sh_int, eqv_int, eqv_strs, sDraw, List.length_cons, List.length_nil, Nat.zero_add, Nat.reduceAdd, decide_true, eq_self]
      have ew : ((List.range d.length).map (blkC d (cdF (wdT ds t)))).flatten = cdF (wdT ds (t + 1)) := by rw [wdT_succ tl, et]; rfl
      rw [ew]
      exact hn _ ⟨_, _, _, _, by rfl⟩
  · obtain ⟨s2, s3, s4, s5, rfl⟩ := hρ
    rw [wdT_all]
    simp only [codes_s2, Q.isDc, Q.sPar2K, Q.tDisp2, Q.tIxK, Q.sSetIxK, Q.tVd, Q.tGetK, Q.iKeysQ, Q.tDispK, Q.tVals, Q.tAddL, Q.sSetM, Q.sAl2, Q.tAlApp2, Q.sFrz2, Q.iZipM, Q.itZm, Q.tLcM, Q.addF, Q.isN, Q.mulF, Q.bandI, Q.iZip, Q.itZ, Q.slD, Q.enOf, Q.tV, Q.tK, Q.t2, Q.t1, Q.tB, Q.cI, Q.cIp, Q.subI, Q.fdivI, Q.fdivW, Q.modI, Q.ltI, Q.leI, Q.gtI, Q.geI, Q.negI, Q.vAnd, Q.vNot, Q.qAnd, Q.qOr, Q.qNot, Q.qIf, Q.chI, Q.tTupQ, Q.dNil, Q.dCons, Q.tLstQ, Q.tFz, Q.tCA, Q.lenD, Q.tupD, Q.isD, Q.isInt, Q.isBool, Q.isTup, Q.isStr, Q.tLenN, Q.tIxN, Q.setQ, Q.aNil, Q.aD, Q.aK, Q.tCallQ, Q.tCallKQ, Q.pick, Q.sNil, Q.sSeq, Q.sRet, Q.sExpr, Q.sIf, Q.sSet, Q.sSetL, Q.sAsg, Q.sFor, Q.sPar2, Q.sPar3, Q.pNil, Q.pD, Q.pO, Q.gN, Q.gT, Q.gsNil, Q.gsCons, Q.iQ, Q.itD, Q.iEn, Q.itE, Q.rg1, Q.oSome, Q.tSlQ, Q.revD, Q.tOwnM, Q.appC, Q.popC, Q.extC, Q.ownL, Q.tRepL, Q.repC, Q.sSetIx, Q.ixOwn, Q.tLcQ, Q.noOwn, Q.rstQ, Q.wipeQ, Q.sDn, Q.sSetD, Q.tDgetN, Q.dOwn, Q.sNever, Q.isB, Q.listD, Q.listC, Q.reprD, Q.Sl.isOwn, Q.sAugIx, Q.setQ, Q.tLcM, Q.augC, Q.keyD, Q.rg3, List.map_cons, List.map_nil, List.replicate_succ, List.replicate_zero, List.cons_append, List.nil_append, List.append_nil, List.getElem?_cons_zero, List.getElem?_cons_succ, List.set_cons_zero, List.set_cons_succ, List.getD_cons_zero, List.getD_cons_succ, List.filterMap_cons, List.filterMap_nil, List.all_cons, List.all_nil, Bool.and_true, Bool.true_and, Bool.not_true, Bool.not_false, Bool.not_eq_true, Bool.false_eq_true, Bool.and_self, if_true, if_false, true_and, and_true, ↓reduceIte, eqD, neD, sh_int, eqv_int, eqv_strs, sDraw, List.length_cons, List.length_nil, Nat.zero_add, Nat.reduceAdd, decide_true, eq_self]
    exact h
end T44
end P58
section P59
open PySem PySem.Spec PyProof.Rows L2 HT Q
namespace T44
def tabI (m : Nat) (F : Nat → Int) : List PyData := (List.range (m + 1)).map fun l => .int (F l)
theorem ixN_nat {n j : Nat} (h : j < n) : ixN n ((j : Nat) : Int) = some j := by
  unfold ixN
  simp [h]
theorem tabI_len (m : Nat) (F : Nat → Int) : (tabI m F).length = m + 1 := by simp [tabI]
theorem tabI_get {m l : Nat} {F : Nat → Int} (h : l ≤ m) : (tabI m F)[l]? = some (.int (F l)) := by
  unfold tabI
  rw [List.getElem?_map, List.getElem?_range (by omega)]; rfl
theorem tabI_at {m l : Nat} {F : Nat → Int} (h : l ≤ m) : atI (tabI m F) ((l : Nat) : Int) = some (.int (F l)) := atI_nat (tabI_get h)
theorem tabI_set {m L : Nat} {F : Nat → Int} {v : Int} : (tabI m F).set L (.int v) = tabI m fun l => if l = L then v else F l := by
  apply List.ext_getElem
  · simp [tabI]
  · intro i h1 h2
    rw [List.getElem_set]
    simp only [tabI, List.getElem_map, List.getElem_range]
    by_cases e : L = i
    · rw [if_pos e, if_pos e.symm]
    · rw [if_neg e, if_neg (fun z => e z.symm)]
theorem tabI_congr {m : Nat} {F G : Nat → Int} (h : ∀ l, l ≤ m → F l = G l) : tabI m F = tabI m G := List.map_congr_left fun l hl => by rw [h l (by have := List.mem_range.mp hl; omega)]
/-- the rows of length l with the last letter s -/
def eld (w : List Int) (s : Int) : Nat → Int
  | 0 => 0
  | l + 1 => cS w [s] l
def cn (w : List Int) (l : Nat) : Int := cnt w l
theorem cn_snoc {w : List Int} {s : Int} (h : Pm s) {l : Nat} (h1 : 1 ≤ l) : cn (w ++ [s]) l = cn w l + (cn w (l - 1) - eld w s l) := by
  cases l with
  | zero => omega
  | succ l => exact cnt_snoc h l
theorem eld_same (w : List Int) (s : Int) {l : Nat} (h1 : 1 ≤ l) : eld (w ++ [s]) s l = cn w (l - 1) := by
  cases l with
  | zero => omega
  | succ l => show ((cS (w ++ [s]) [s] l : Nat) : Int) = _; rw [cS_same]; rfl
theorem eld_other {w : List Int} {s t : Int} (h : s ≠ t) (l : Nat) : eld (w ++ [t]) s l = eld w s l := by
  cases l with
  | zero => rfl
  | succ l => show ((cS (w ++ [t]) [s] l : Nat) : Int) = _; rw [cS_other h]; rfl
def ix2 (s : Int) : Nat := if s = 1 then 0 else 1
theorem fst2K {s : Int} (h : Pm s) : FstK [.inl 1, .inl (-1)] (.inl s) (ix2 s) := by
  rcases h with rfl | rfl
  · exact ⟨rfl, fun m hm => by simp [ix2] at hm⟩
  · refine ⟨rfl, fun m hm => ?_⟩
    have : m = 0 := by simp [ix2] at hm; omega
    subst this
    simp
def ode (w : List Int) (m : Nat) : List (List PyData) := [tabI m (eld w 1), tabI m (eld w (-1))]
def many_rows_of_signs_s2 : TQS := (sRet (tIxN 2 (tV 1)))
def many_rows_of_signs_s1b_s0b_s2 : TQS := (sSetIxK 3 (tV 6) (tV 4) (tV 5))
def many_rows_of_signs_s1b_s0b_s1 : TQS := (sSeq (sAugIx 2 (augC (fun i j => i + j)) (tV 5) (t2 subI (tV 6) (tIxK 3 (tV 4) (tV 5)))) many_rows_of_signs_s1b_s0b_s2)
def many_rows_of_signs_s1b_s0b : TQS := (sSeq (sSet 6 (tIxN 2 (t2 subI (tV 5) (tK (.int 1))))) many_rows_of_signs_s1b_s0b_s1)
def many_rows_of_signs_s1b : TQS := (sFor (rg3 (tV 1) (tK (.int 0)) (t1 negI (tK (.int 1)))) (gN 5) many_rows_of_signs_s1b_s0b)
def many_rows_of_signs_s1 : TQS := (sSeq (sFor (iQ (tV 0)) (gN 4) many_rows_of_signs_s1b) many_rows_of_signs_s2)
def sp_many_rows_of_signs : PSpec := fun as R => ∃ (w : List Int) (m : Nat), as = [.d (tupI w), .d (.int m)] ∧ (∀ x, x ∈ w → Pm x) ∧ m ≤ 8 ∧ R (.int (cn w m))
theorem len_many_rows_of_signs : ∀ as R, sp_many_rows_of_signs as R → as.length = 2 := by rintro as R ⟨i, s, rfl, _⟩; rfl
/-- what stands in the tables once the lengths above L are done -/
def mixF (F G : Nat → Int) (L l : Nat) : Int := if L < l then G l else F l
theorem mix_all {F G : Nat → Int} {m l : Nat} (h : l ≤ m) : mixF F G m l = F l := if_neg (by omega)
theorem mix_step {F G : Nat → Int} {L : Nat} (h1 : 1 ≤ L) (l : Nat) : (if l = L then G L else mixF F G L l) = mixF F G (L - 1) l := by
  unfold mixF
  by_cases e : l = L
  · subst e; rw [if_pos rfl, if_pos (by omega)]
  · rw [if_neg e]
    by_cases c : L < l
    · rw [if_pos c, if_pos (by omega)]
    · rw [if_neg c, if_neg (by omega)]
theorem rd_many_rows_of_signs : ∀ as R, sp_many_rows_of_signs as R → t_many_rows_of_signs { nx := fun _ => R .none, rt := R } (enOf as 5) := by
  rintro as R ⟨w, m, rfl, hw, h8, h⟩
  have e1 : [PyData.int 1] ++ (List.replicate ((m : Int)).toNat [PyData.int 0]).flatten = tabI m (cn []) := by
    rw [flat_rep, Int.toNat_natCast]
    unfold tabI
    rw [List.range_succ_eq_map, List.map_cons, List.map_map]
    show _ = PyData.int (cn [] 0) :: _
    rw [show cn [] 0 = 1 by simp [cn, cnt_zero]]
    show PyData.int 1 :: _ = _
    congr 1
    rw [show (List.range m).map ((fun l => PyData.int (cn [] l)) ∘ Nat.succ) = (List.range m).map fun _ => PyData.int 0 from List.map_congr_left fun l _ => by show PyData.int ((cnt [] (l + 1) : Nat) : Int) = _; rw [cnt_nil]; rfl]
    simp [List.map_const']
  have e2 : ∀ s : Int, (List.replicate ((m : Int) + 1).toNat [PyData.int 0]).flatten = tabI m (eld [] s) := fun s => by
    rw [flat_rep, show ((m : Int) + 1).toNat = m + 1 by omega]
    unfold tabI
    rw [show (List.range (m + 1)).map (fun l => PyData.int (eld [] s l)) = (List.range (m + 1)).map fun _ => PyData.int 0 from List.map_congr_left fun l _ => by
      cases l with
      | zero => rfl
      | succ l => show PyData.int ((cS [] [s] l : Nat) : Int) = _; rw [cS_nil]; rfl]
    simp [List.map_const']
  show sSeq _ many_rows_of_signs_s1 _ _
  simp only [Q.isDc, Q.sPar2K, Q.tDisp2, Q.tIxK, Q.sSetIxK, Q.tVd, Q.tGetK, Q.iKeysQ, Q.tDispK, Q.tVals, Q.tAddL, Q.sSetM, Q.sAl2, Q.tAlApp2, Q.sFrz2, Q.iZipM, Q.itZm, Q.tLcM, Q.addF, Q.isN, Q.mulF, Q.bandI, Q.iZip, Q.itZ, Q.slD, Q.enOf, Q.tV, Q.tK, Q.t2, Q.t1, Q.tB, Q.cI, Q.cIp, Q.subI, Q.fdivI, Q.fdivW, Q.modI, Q.ltI, Q.leI, Q.gtI, Q.geI, Q.negI, Q.vAnd, Q.vNot, Q.qAnd, Q.qOr, Q.qNot, Q.qIf, Q.chI, Q.tTupQ, Q.dNil, Q.dCons, Q.tLstQ, Q.tFz, Q.tCA, Q.lenD, Q.tupD, Q.isD, Q.isInt, Q.isBool, Q.isTup, Q.isStr, Q.tLenN, Q.tIxN, Q.setQ, Q.aNil, Q.aD, Q.aK, Q.tCallQ, Q.tCallKQ, Q.pick, Q.sNil, Q.sSeq, Q.sRet, Q.sExpr, Q.sIf, Q.sSet, Q.sSetL, Q.sAsg, Q.sFor, Q.sPar2, Q.sPar3, Q.pNil, Q.pD, Q.pO, Q.gN, Q.gT, Q.gsNil, Q.gsCons, Q.iQ, Q.itD, Q.iEn, Q.itE, Q.rg1, Q.oSome, Q.tSlQ, Q.revD, Q.tOwnM, Q.appC, Q.popC, Q.extC, Q.ownL, Q.tRepL, Q.repC, Q.sSetIx, Q.ixOwn, Q.tLcQ, Q.noOwn, Q.rstQ, Q.wipeQ, Q.sDn, Q.sSetD, Q.tDgetN, Q.dOwn, Q.sNever, Q.isB, Q.listD, Q.listC, Q.reprD, Q.Sl.isOwn, Q.sAugIx, Q.setQ, Q.tLcM, Q.augC, Q.keyD, Q.rg3, List.map_cons, List.map_nil, List.replicate_succ, List.replicate_zero, List.cons_append, List.nil_append, List.append_nil, List.getElem?_cons_zero, List.getElem?_cons_succ, List.set_cons_zero, List.set_cons_succ, List.getD_cons_zero, List.getD_cons_succ, List.filterMap_cons, List.filterMap_nil, List.all_cons, List.all_nil, Bool.and_true, Bool.true_and, Bool.not_true, Bool.not_false, Bool.not_eq_true, Bool.false_eq_true, Bool.and_self, if_true, if_false, true_and, and_true, ↓reduceIte, eqD, neD, sh_int, eqv_int, eqv_strs, sDraw, List.length_cons, List.length_nil, Nat.zero_add, Nat.reduceAdd, decide_true, eq_self]
  refine ⟨by decide, by decide, by omega, by omega, by decide, _, _, rfl, rfl, ?_, by decide, by omega, by omega, by decide, by decide, by omega, by omega, by decide, fun b1 b2 nb => ?_⟩
  · rw [flat_rep]; simp; omega
  rw [e1, e2 1]
  have e3 : [tabI m (eld [] 1), tabI m (eld [] 1)] = ode [] m := by
    unfold ode
    rw [← e2 1, ← e2 (-1)]
  rw [e3]
  show sSeq _ many_rows_of_signs_s2 _ _
  simp only [Q.isDc, Q.sPar2K, Q.tDisp2, Q.tIxK, Q.sSetIxK, Q.tVd, Q.tGetK, Q.iKeysQ, Q.tDispK, Q.tVals, Q.tAddL, Q.sSetM, Q.sAl2, Q.tAlApp2, Q.sFrz2, Q.iZipM, Q.itZm, Q.tLcM, Q.addF, Q.isN, Q.mulF, Q.bandI, Q.iZip, Q.itZ, Q.slD, Q.enOf, Q.tV, Q.tK, Q.t2, Q.t1, Q.tB, Q.cI, Q.cIp, Q.subI, Q.fdivI, Q.fdivW, Q.modI, Q.ltI, Q.leI, Q.gtI, Q.geI, Q.negI, Q.vAnd, Q.vNot, Q.qAnd, Q.qOr, Q.qNot, Q.qIf, Q.chI, Q.tTupQ, Q.dNil, Q.dCons, Q.tLstQ, Q.tFz, Q.tCA, Q.lenD, Q.tupD, Q.isD, Q.isInt, Q.isBool, Q.isTup, Q.isStr, Q.tLenN, Q.tIxN, Q.setQ, Q.aNil, Q.aD, Q.aK, Q.tCallQ, Q.tCallKQ, Q.pick, Q.sNil, Q.sSeq, Q.sRet, Q.sExpr, Q.sIf, Q.sSet, Q.sSetL, Q.sAsg, Q.sFor, Q.sPar2, Q.sPar3, Q.pNil, Q.pD, Q.pO, Q.gN, Q.gT, Q.gsNil, Q.gsCons, Q.iQ, Q.itD, Q.iEn, Q.itE, Q.rg1, Q.oSome, Q.tSlQ, Q.revD, Q.tOwnM, Q.appC, Q.popC, Q.extC, Q.ownL, Q.tRepL, Q.repC, Q.sSetIx, Q.ixOwn, Q.tLcQ, Q.noOwn, Q.rstQ, Q.wipeQ, Q.sDn, Q.sSetD, Q.tDgetN, Q.dOwn, Q.sNever, Q.isB, Q.listD, Q.listC, Q.reprD, Q.Sl.isOwn, Q.sAugIx, Q.setQ, Q.tLcM, Q.augC, Q.keyD, Q.rg3, List.map_cons, List.map_nil, List.replicate_succ, List.replicate_zero, List.cons_append, List.nil_append, List.append_nil, List.getElem?_cons_zero, List.getElem?_cons_succ, List.set_cons_zero, List.set_cons_succ, List.getD_cons_zero, List.getD_cons_succ, List.filterMap_cons, List.filterMap_nil, List.all_cons, List.all_nil, Bool.and_true, Bool.true_and, Bool.not_true, Bool.not_false, Bool.not_eq_true, Bool.false_eq_true, Bool.and_self, if_true, if_false, true_and, and_true, ↓reduceIte, eqD, neD, sh_int, eqv_int, eqv_strs, sDraw, List.length_cons, List.length_nil, Nat.zero_add, Nat.reduceAdd, decide_true, eq_self]
  refine for_inv (G := PyData.int) (fun t ρ => ∃ s4 s5 s6, ρ = [.d (tupI w), .d (.int m), .own (tabI m (cn (w.take t))), .odk [.inl 1, .inl (-1)] [b1, b2] (ode (w.take t) m), s4, s5, s6]) (fun t s ht ρ hρ E' hn hr _ _ => ?_) (fun ρ hρ => ?_) ⟨_, _, _, rfl⟩
  · obtain ⟨s4, s5, s6, rfl⟩ := hρ
    obtain ⟨tl, et⟩ := List.getElem?_eq_some_iff.mp ht
    have ps : Pm s := hw s (by rw [← et]; exact List.getElem_mem tl)
    have ew : w.take (t + 1) = w.take t ++ [s] := by rw [List.take_succ_eq_append_getElem tl, et]
    rw [ew] at hn
    generalize w.take t = v at hn ⊢
    show gN 4 _ _ _
    simp only [gN, many_rows_of_signs_s1b, Q.isDc, Q.sPar2K, Q.tDisp2, Q.tIxK, Q.sSetIxK, Q.tVd, Q.tGetK, Q.iKeysQ, Q.tDispK, Q.tVals, Q.tAddL, Q.sSetM, Q.sAl2, Q.tAlApp2, Q.sFrz2, Q.iZipM, Q.itZm, Q.tLcM, Q.addF, Q.isN, Q.mulF, Q.bandI, Q.iZip, Q.itZ, Q.slD, Q.enOf, Q.tV, Q.tK, Q.t2, Q.t1, Q.tB, Q.cI, Q.cIp, Q.subI, Q.fdivI, Q.fdivW, Q.modI, Q.ltI, Q.leI, Q.gtI, Q.geI, Q.negI, Q.vAnd, Q.vNot, Q.qAnd, Q.qOr, Q.qNot, Q.qIf, Q.chI, Q.tTupQ, Q.dNil, Q.dCons, Q.tLstQ, Q.tFz, Q.tCA, Q.lenD, Q.tupD, Q.isD, Q.isInt, Q.isBool, Q.isTup, Q.isStr, Q.tLenN, Q.tIxN, Q.setQ, Q.aNil, Q.aD, Q.aK, Q.tCallQ, Q.tCallKQ, Q.pick, Q.sNil, Q.sSeq, Q.sRet, Q.sExpr, Q.sIf, Q.sSet, Q.sSetL, Q.sAsg, Q.sFor, Q.sPar2, Q.sPar3, Q.pNil, Q.pD, Q.pO, Q.gN, Q.gT, Q.gsNil, Q.gsCons, Q.iQ, Q.itD, Q.iEn, Q.itE, Q.rg1, Q.oSome, Q.tSlQ, Q.revD, Q.tOwnM, Q.appC, Q.popC, Q.extC, Q.ownL, Q.tRepL, Q.repC, Q.sSetIx, Q.ixOwn, Q.tLcQ, Q.noOwn, Q.rstQ, Q.wipeQ, Q.sDn, Q.sSetD, Q.tDgetN, Q.dOwn, Q.sNever, Q.isB, Q.listD, Q.listC, Q.reprD, Q.Sl.isOwn, Q.sAugIx, Q.setQ, Q.tLcM, Q.augC, Q.keyD, Q.rg3, List.map_cons, List.map_nil, List.replicate_succ, List.replicate_zero, List.cons_append, List.nil_append, List.append_nil, List.getElem?_cons_zero, List.getElem?_cons_succ, List.set_cons_zero, List.set_cons_succ, List.getD_cons_zero, List.getD_cons_succ, List.filterMap_cons, List.filterMap_nil, List.all_cons, List.all_nil, Bool.and_true, Bool.true_and, Bool.not_true, Bool.not_false, Bool.not_eq_true, Bool.false_eq_true, Bool.and_self, if_true, if_false, true_and, and_true, ↓reduceIte, eqD, neD, sh_int, eqv_int, eqv_strs, sDraw, List.length_cons, List.length_nil, Nat.zero_add, Nat.reduceAdd, decide_true, eq_self]
    refine ⟨by omega, by omega, by omega, by omega, ?_⟩
    have ed : dn (m : Int) ((m : Int) - 0).toNat = (List.range m).map fun i => PyData.int ((m : Int) - (i : Nat)) := by
      rw [show ((m : Int) - 0).toNat = m by omega]; rfl
    rw [ed]
    have oth : ∀ q, Pm q → q ≠ s → ∀ l, l ≤ m → eld (v ++ [s]) q l = eld v q l := fun q _ hq l _ => eld_other hq l
    -- the tables of both letters, while the letter s is done above L
    have key : ∀ L, tabI m (mixF (eld v 1) (eld (v ++ [s]) 1) L) = (if s = 1 then tabI m (mixF (eld v s) (eld (v ++ [s]) s) L) else tabI m (eld v 1)) ∧ tabI m (mixF (eld v (-1)) (eld (v ++ [s]) (-1)) L) = (if s = 1 then tabI m (eld v (-1)) else tabI m (mixF (eld v s) (eld (v ++ [s]) s) L)) := fun L => by
      rcases ps with rfl | rfl
      · rw [if_pos rfl, if_pos rfl]
        exact ⟨rfl, tabI_congr fun l hl => by unfold mixF; rw [oth (-1) (.inr rfl) (by decide) l hl]; simp⟩
      · rw [if_neg (by decide), if_neg (by decide)]
        exact ⟨tabI_congr fun l hl => by unfold mixF; rw [oth 1 (.inl rfl) (by decide) l hl]; simp, rfl⟩
    refine for_inv (G := fun i : Nat => PyData.int ((m : Int) - (i : Nat))) (fun i ρ => ∃ s5 s6, ρ = [.d (tupI w), .d (.int m), .own (tabI m (mixF (cn v) (cn (v ++ [s])) (m - i))), .odk [.inl 1, .inl (-1)] [b1, b2] [tabI m (mixF (eld v 1) (eld (v ++ [s]) 1) (m - i)), tabI m (mixF (eld v (-1)) (eld (v ++ [s]) (-1)) (m - i))], .d (.int s), s5, s6])
      (fun i x hi ρ hρ E2 hn2 hr2 _ _ => ?_) (fun ρ hρ => ?_) ⟨s5, s6, ?_⟩
    · obtain ⟨s5, s6, rfl⟩ := hρ
      obtain ⟨il, ex⟩ := List.getElem?_eq_some_iff.mp hi
      rw [List.getElem_range] at ex
      subst ex
      rw [List.length_range] at il
      obtain ⟨L, eL⟩ : ∃ L, m - i = L + 1 := ⟨m - i - 1, by omega⟩
      have eL2 : m - (i + 1) = L := by omega
      have eL3 : (m : Int) - (i : Nat) = ((L + 1 : Nat) : Int) := by omega
      rw [eL, eL3]
      rw [eL2] at hn2
      show sSeq _ many_rows_of_signs_s1b_s0b_s1 _ _
      simp only [gN, Q.isDc, Q.sPar2K, Q.tDisp2, Q.tIxK, Q.sSetIxK, Q.tVd, Q.tGetK, Q.iKeysQ, Q.tDispK, Q.tVals, Q.tAddL, Q.sSetM, Q.sAl2, Q.tAlApp2, Q.sFrz2, Q.iZipM, Q.itZm, Q.tLcM, Q.addF, Q.isN, Q.mulF, Q.bandI, Q.iZip, Q.itZ, Q.slD, Q.enOf, Q.tV, Q.tK, Q.t2, Q.t1, Q.tB, Q.cI, Q.cIp, Q.subI, Q.fdivI, Q.fdivW, Q.modI, Q.ltI, Q.leI, Q.gtI, Q.geI, Q.negI, Q.vAnd, Q.vNot, Q.qAnd, Q.qOr, Q.qNot, Q.qIf, Q.chI, Q.tTupQ, Q.dNil, Q.dCons, Q.tLstQ, Q.tFz, Q.tCA, Q.lenD, Q.tupD, Q.isD, Q.isInt, Q.isBool, Q.isTup, Q.isStr, Q.tLenN, Q.tIxN, Q.setQ, Q.aNil, Q.aD, Q.aK, Q.tCallQ, Q.tCallKQ, Q.pick, Q.sNil, Q.sSeq, Q.sRet, Q.sExpr, Q.sIf, Q.sSet, Q.sSetL, Q.sAsg, Q.sFor, Q.sPar2, Q.sPar3, Q.pNil, Q.pD, Q.pO, Q.gN, Q.gT, Q.gsNil, Q.gsCons, Q.iQ, Q.itD, Q.iEn, Q.itE, Q.rg1, Q.oSome, Q.tSlQ, Q.revD, Q.tOwnM, Q.appC, Q.popC, Q.extC, Q.ownL, Q.tRepL, Q.repC, Q.sSetIx, Q.ixOwn, Q.tLcQ, Q.noOwn, Q.rstQ, Q.wipeQ, Q.sDn, Q.sSetD, Q.tDgetN, Q.dOwn, Q.sNever, Q.isB, Q.listD, Q.listC, Q.reprD, Q.Sl.isOwn, Q.sAugIx, Q.setQ, Q.tLcM, Q.augC, Q.keyD, Q.rg3, List.map_cons, List.map_nil, List.replicate_succ, List.replicate_zero, List.cons_append, List.nil_append, List.append_nil, List.getElem?_cons_zero, List.getElem?_cons_succ, List.set_cons_zero, List.set_cons_succ, List.getD_cons_zero, List.getD_cons_succ, List.filterMap_cons, List.filterMap_nil, List.all_cons, List.all_nil, Bool.and_true, Bool.true_and, Bool.not_true, Bool.not_false, Bool.not_eq_true, Bool.false_eq_true, Bool.and_self, if_true, if_false, true_and, and_true, ↓reduceIte, eqD, neD, sh_int, eqv_int, eqv_strs, sDraw, List.length_cons, List.length_nil, Nat.zero_add, Nat.reduceAdd, decide_true, eq_self, ixD]
      refine ⟨.int (cn v L), ?_, ?_⟩
      · rw [show ((L + 1 : Nat) : Int) - 1 = ((L : Nat) : Int) by omega, tabI_at (by omega)]
        unfold mixF
        rw [if_neg (by omega)]
      show sSeq _ many_rows_of_signs_s1b_s0b_s2 _ _
      simp only [ownL, Q.isDc, Q.sPar2K, Q.tDisp2, Q.tIxK, Q.sSetIxK, Q.tVd, Q.tGetK, Q.iKeysQ, Q.tDispK, Q.tVals, Q.tAddL, Q.sSetM, Q.sAl2, Q.tAlApp2, Q.sFrz2, Q.iZipM, Q.itZm, Q.tLcM, Q.addF, Q.isN, Q.mulF, Q.bandI, Q.iZip, Q.itZ, Q.slD, Q.enOf, Q.tV, Q.tK, Q.t2, Q.t1, Q.tB, Q.cI, Q.cIp, Q.subI, Q.fdivI, Q.fdivW, Q.modI, Q.ltI, Q.leI, Q.gtI, Q.geI, Q.negI, Q.vAnd, Q.vNot, Q.qAnd, Q.qOr, Q.qNot, Q.qIf, Q.chI, Q.tTupQ, Q.dNil, Q.dCons, Q.tLstQ, Q.tFz, Q.tCA, Q.lenD, Q.tupD, Q.isD, Q.isInt, Q.isBool, Q.isTup, Q.isStr, Q.tLenN, Q.tIxN, Q.setQ, Q.aNil, Q.aD, Q.aK, Q.tCallQ, Q.tCallKQ, Q.pick, Q.sNil, Q.sSeq, Q.sRet, Q.sExpr, Q.sIf, Q.sSet, Q.sSetL, Q.sAsg, Q.sFor, Q.sPar2, Q.sPar3, Q.pNil, Q.pD, Q.pO, Q.gN, Q.gT, Q.gsNil, Q.gsCons, Q.iQ, Q.itD, Q.iEn, Q.itE, Q.rg1, Q.oSome, Q.tSlQ, Q.revD, Q.tOwnM, Q.appC, Q.popC, Q.extC, Q.ownL, Q.tRepL, Q.repC, Q.sSetIx, Q.ixOwn, Q.tLcQ, Q.noOwn, Q.rstQ, Q.wipeQ, Q.sDn, Q.sSetD, Q.tDgetN, Q.dOwn, Q.sNever, Q.isB, Q.listD, Q.listC, Q.reprD, Q.Sl.isOwn, Q.sAugIx, Q.setQ, Q.tLcM, Q.augC, Q.keyD, Q.rg3, List.map_cons, List.map_nil, List.replicate_succ, List.replicate_zero, List.cons_append, List.nil_append, List.append_nil, List.getElem?_cons_zero, List.getElem?_cons_succ, List.set_cons_zero, List.set_cons_succ, List.getD_cons_zero, List.getD_cons_succ, List.filterMap_cons, List.filterMap_nil, List.all_cons, List.all_nil, Bool.and_true, Bool.true_and, Bool.not_true, Bool.not_false, Bool.not_eq_true, Bool.false_eq_true, Bool.and_self, if_true, if_false, true_and, and_true, ↓reduceIte, eqD, neD, sh_int, eqv_int, eqv_strs, sDraw, List.length_cons, List.length_nil, Nat.zero_add, Nat.reduceAdd, decide_true, eq_self]
      have gD : [tabI m (mixF (eld v 1) (eld (v ++ [s]) 1) (L + 1)), tabI m (mixF (eld v (-1)) (eld (v ++ [s]) (-1)) (L + 1))].getD (ix2 s) [] = tabI m (mixF (eld v s) (eld (v ++ [s]) s) (L + 1)) := by
        rcases ps with rfl | rfl <;> rfl
      have i2 : ix2 s < [b1, b2].length := by unfold ix2; split <;> simp
      have m1 : ∀ F G : Nat → Int, mixF F G (L + 1) (L + 1) = F (L + 1) := fun F G => if_neg (by omega)
      refine ⟨by omega, .int (cn v (L + 1)), ?_, _, _, _, s, ix2 s, rfl, rfl, fst2K ps, i2, rfl, _, .int (eld v s (L + 1)), rfl, ?_, ?_⟩
      · rw [Int.toNat_natCast, tabI_get (by omega), m1]
      · rw [gD, tabI_at (by omega), m1]
      refine ⟨by rw [tabI_len]; omega, ?_⟩
      rw [Int.toNat_natCast]
      dsimp only
      rw [tabI_set]
      have c1 : (tabI m fun l => if l = L + 1 then cn v (L + 1) + (cn v L - eld v s (L + 1)) else mixF (cn v) (cn (v ++ [s])) (L + 1) l) = tabI m (mixF (cn v) (cn (v ++ [s])) L) := tabI_congr fun l _ => by
        have := mix_step (F := cn v) (G := cn (v ++ [s])) (L := L + 1) (by omega) l
        rw [cn_snoc ps (by omega)] at this
        exact this
      rw [c1]
      simp only [many_rows_of_signs_s1b_s0b_s2, Q.isDc, Q.sPar2K, Q.tDisp2, Q.tIxK, Q.sSetIxK, Q.tVd, Q.tGetK, Q.iKeysQ, Q.tDispK, Q.tVals, Q.tAddL, Q.sSetM, Q.sAl2, Q.tAlApp2, Q.sFrz2, Q.iZipM, Q.itZm, Q.tLcM, Q.addF, Q.isN, Q.mulF, Q.bandI, Q.iZip, Q.itZ, Q.slD, Q.enOf, Q.tV, Q.tK, Q.t2, Q.t1, Q.tB, Q.cI, Q.cIp, Q.subI, Q.fdivI, Q.fdivW, Q.modI, Q.ltI, Q.leI, Q.gtI, Q.geI, Q.negI, Q.vAnd, Q.vNot, Q.qAnd, Q.qOr, Q.qNot, Q.qIf, Q.chI, Q.tTupQ, Q.dNil, Q.dCons, Q.tLstQ, Q.tFz, Q.tCA, Q.lenD, Q.tupD, Q.isD, Q.isInt, Q.isBool, Q.isTup, Q.isStr, Q.tLenN, Q.tIxN, Q.setQ, Q.aNil, Q.aD, Q.aK, Q.tCallQ, Q.tCallKQ, Q.pick, Q.sNil, Q.sSeq, Q.sRet, Q.sExpr, Q.sIf, Q.sSet, Q.sSetL, Q.sAsg, Q.sFor, Q.sPar2, Q.sPar3, Q.pNil, Q.pD, Q.pO, Q.gN, Q.gT, Q.gsNil, Q.gsCons, Q.iQ, Q.itD, Q.iEn, Q.itE, Q.rg1, Q.oSome, Q.tSlQ, Q.revD, Q.tOwnM, Q.appC, Q.popC, Q.extC, Q.ownL, Q.tRepL, Q.repC, Q.sSetIx, Q.ixOwn, Q.tLcQ, Q.noOwn, Q.rstQ, Q.wipeQ, Q.sDn, Q.sSetD, Q.tDgetN, Q.dOwn, Q.sNever, Q.isB, Q.listD, Q.listC, Q.reprD, Q.Sl.isOwn, Q.sAugIx, Q.setQ, Q.tLcM, Q.augC, Q.keyD, Q.rg3, List.map_cons, List.map_nil, List.replicate_succ, List.replicate_zero, List.cons_append, List.nil_append, List.append_nil, List.getElem?_cons_zero, List.getElem?_cons_succ, List.set_cons_zero, List.set_cons_succ, List.getD_cons_zero, List.getD_cons_succ, List.filterMap_cons, List.filterMap_nil, List.all_cons, List.all_nil, Bool.and_true, Bool.true_and, Bool.not_true, Bool.not_false, Bool.not_eq_true, Bool.false_eq_true, Bool.and_self, if_true, if_false, true_and, and_true, ↓reduceIte, eqD, neD, sh_int, eqv_int, eqv_strs, sDraw, List.length_cons, List.length_nil, Nat.zero_add, Nat.reduceAdd, decide_true, eq_self]
      refine ⟨_, _, _, s, ix2 s, rfl, rfl, fst2K ps, i2, rfl, _, L + 1, rfl, ?_, ?_⟩
      · rw [gD, tabI_len]
        exact ixN_nat (by omega)
      have fin : [tabI m (mixF (eld v 1) (eld (v ++ [s]) 1) (L + 1)), tabI m (mixF (eld v (-1)) (eld (v ++ [s]) (-1)) (L + 1))].set (ix2 s) (([tabI m (mixF (eld v 1) (eld (v ++ [s]) 1) (L + 1)), tabI m (mixF (eld v (-1)) (eld (v ++ [s]) (-1)) (L + 1))].getD (ix2 s) []).set (L + 1) (.int (cn v L))) =
          [tabI m (mixF (eld v 1) (eld (v ++ [s]) 1) L), tabI m (mixF (eld v (-1)) (eld (v ++ [s]) (-1)) L)] := by
        rw [gD, tabI_set]
        have c2 : (tabI m fun l => if l = L + 1 then cn v L else mixF (eld v s) (eld (v ++ [s]) s) (L + 1) l) = tabI m (mixF (eld v s) (eld (v ++ [s]) s) L) := tabI_congr fun l _ => by
          have := mix_step (F := eld v s) (G := eld (v ++ [s]) s) (L := L + 1) (by omega) l
          rw [eld_same v s (l := L + 1) (by omega)] at this
          exact this
        rw [c2, (key (L + 1)).1, (key (L + 1)).2, (key L).1, (key L).2]
        rcases ps with rfl | rfl <;> rfl
      rw [fin]
      exact hn2 _ ⟨_, _, by rfl⟩
    · obtain ⟨s5, s6, rfl⟩ := hρ
      rw [List.length_range, Nat.sub_self]
      have z0 : ∀ F G : Nat → Int, F 0 = G 0 → tabI m (mixF F G 0) = tabI m G := fun F G e => tabI_congr fun l _ => by
        unfold mixF
        cases l with
        | zero => rw [if_neg (by omega), e]
        | succ l => rw [if_pos (by omega)]
      rw [z0 _ _ (by show ((cnt v 0 : Nat) : Int) = ((cnt (v ++ [s]) 0 : Nat) : Int); rw [cnt_zero, cnt_zero]), z0 (eld v 1) (eld (v ++ [s]) 1) rfl, z0 (eld v (-1)) (eld (v ++ [s]) (-1)) rfl]
      exact hn _ ⟨_, _, _, by rfl⟩
    · rw [Nat.sub_zero]
      have z1 : ∀ F G : Nat → Int, tabI m (mixF F G m) = tabI m F := fun F G => tabI_congr fun l hl => mix_all hl
      rw [z1, z1, z1]
      rfl
  · obtain ⟨s4, s5, s6, rfl⟩ := hρ
    rw [List.take_length]
    show many_rows_of_signs_s2 _ _
    simp only [many_rows_of_signs_s2, Q.isDc, Q.sPar2K, Q.tDisp2, Q.tIxK, Q.sSetIxK, Q.tVd, Q.tGetK, Q.iKeysQ, Q.tDispK, Q.tVals, Q.tAddL, Q.sSetM, Q.sAl2, Q.tAlApp2, Q.sFrz2, Q.iZipM, Q.itZm, Q.tLcM, Q.addF, Q.isN, Q.mulF, Q.bandI, Q.iZip, Q.itZ, Q.slD, Q.enOf, Q.tV, Q.tK, Q.t2, Q.t1, Q.tB, Q.cI, Q.cIp, Q.subI, Q.fdivI, Q.fdivW, Q.modI, Q.ltI, Q.leI, Q.gtI, Q.geI, Q.negI, Q.vAnd, Q.vNot, Q.qAnd, Q.qOr, Q.qNot, Q.qIf, Q.chI, Q.tTupQ, Q.dNil, Q.dCons, Q.tLstQ, Q.tFz, Q.tCA, Q.lenD, Q.tupD, Q.isD, Q.isInt, Q.isBool, Q.isTup, Q.isStr, Q.tLenN, Q.tIxN, Q.setQ, Q.aNil, Q.aD, Q.aK, Q.tCallQ, Q.tCallKQ, Q.pick, Q.sNil, Q.sSeq, Q.sRet, Q.sExpr, Q.sIf, Q.sSet, Q.sSetL, Q.sAsg, Q.sFor, Q.sPar2, Q.sPar3, Q.pNil, Q.pD, Q.pO, Q.gN, Q.gT, Q.gsNil, Q.gsCons, Q.iQ, Q.itD, Q.iEn, Q.itE, Q.rg1, Q.oSome, Q.tSlQ, Q.revD, Q.tOwnM, Q.appC, Q.popC, Q.extC, Q.ownL, Q.tRepL, Q.repC, Q.sSetIx, Q.ixOwn, Q.tLcQ, Q.noOwn, Q.rstQ, Q.wipeQ, Q.sDn, Q.sSetD, Q.tDgetN, Q.dOwn, Q.sNever, Q.isB, Q.listD, Q.listC, Q.reprD, Q.Sl.isOwn, Q.sAugIx, Q.setQ, Q.tLcM, Q.augC, Q.keyD, Q.rg3, List.map_cons, List.map_nil, List.replicate_succ, List.replicate_zero, List.cons_append, List.nil_append, List.append_nil, List.getElem?_cons_zero, List.getElem?_cons_succ, List.set_cons_zero, List.set_cons_succ, List.getD_cons_zero, List.getD_cons_succ, List.filterMap_cons, List.filterMap_nil, List.all_cons, List.all_nil, Bool.and_true, Bool.true_and, Bool.not_true, Bool.not_false, Bool.not_eq_true, Bool.false_eq_true, Bool.and_self, if_true, if_false, true_and, and_true, ↓reduceIte, eqD, neD, sh_int, eqv_int, eqv_strs, sDraw, List.length_cons, List.length_nil, Nat.zero_add, Nat.reduceAdd, decide_true, eq_self, ixD]
    exact ⟨_, tabI_at (Nat.le_refl m), h⟩
def sp_sign_rows : PSpec := fun as R => ∃ (ds : List Desk) (m : Nat), as = [.d (desksD ds), .d (.int m)] ∧ T44.Dk ds ∧ many ds ≤ 100000 ∧ m ≤ 8 ∧ R (.int (cn (fullW ds.reverse) m))
theorem len_sign_rows : ∀ as R, sp_sign_rows as R → as.length = 2 := by rintro as R ⟨i, s, rfl, _⟩; rfl
theorem full_pm : ∀ (R : List Desk) (x : Int), x ∈ fullW R → Pm x
  | [], x, h => by
    have : x = 1 := by simpa [fullW] using h
    exact .inl this
  | d :: R, x, h => fold_pm (full_pm R) d x h
theorem rd_sign_rows : ∀ as R, sp_sign_rows as R → t_sign_rows sp_need_desks sp_need_number sp_many_rows_of_signs sp_word_of { nx := fun _ => R .none, rt := R } (enOf as 0) := by
  rintro as R ⟨ds, m, rfl, hd, hm, h8, h⟩
  simp only [t_sign_rows, Q.isDc, Q.sPar2K, Q.tDisp2, Q.tIxK, Q.sSetIxK, Q.tVd, Q.tGetK, Q.iKeysQ, Q.tDispK, Q.tVals, Q.tAddL, Q.sSetM, Q.sAl2, Q.tAlApp2, Q.sFrz2, Q.iZipM, Q.itZm, Q.tLcM, Q.addF, Q.isN, Q.mulF, Q.bandI, Q.iZip, Q.itZ, Q.slD, Q.enOf, Q.tV, Q.tK, Q.t2, Q.t1, Q.tB, Q.cI, Q.cIp, Q.subI, Q.fdivI, Q.fdivW, Q.modI, Q.ltI, Q.leI, Q.gtI, Q.geI, Q.negI, Q.vAnd, Q.vNot, Q.qAnd, Q.qOr, Q.qNot, Q.qIf, Q.chI, Q.tTupQ, Q.dNil, Q.dCons, Q.tLstQ, Q.tFz, Q.tCA, Q.lenD, Q.tupD, Q.isD, Q.isInt, Q.isBool, Q.isTup, Q.isStr, Q.tLenN, Q.tIxN, Q.setQ, Q.aNil, Q.aD, Q.aK, Q.tCallQ, Q.tCallKQ, Q.pick, Q.sNil, Q.sSeq, Q.sRet, Q.sExpr, Q.sIf, Q.sSet, Q.sSetL, Q.sAsg, Q.sFor, Q.sPar2, Q.sPar3, Q.pNil, Q.pD, Q.pO, Q.gN, Q.gT, Q.gsNil, Q.gsCons, Q.iQ, Q.itD, Q.iEn, Q.itE, Q.rg1, Q.oSome, Q.tSlQ, Q.revD, Q.tOwnM, Q.appC, Q.popC, Q.extC, Q.ownL, Q.tRepL, Q.repC, Q.sSetIx, Q.ixOwn, Q.tLcQ, Q.noOwn, Q.rstQ, Q.wipeQ, Q.sDn, Q.sSetD, Q.tDgetN, Q.dOwn, Q.sNever, Q.isB, Q.listD, Q.listC, Q.reprD, Q.Sl.isOwn, Q.sAugIx, Q.setQ, Q.tLcM, Q.augC, Q.keyD, Q.rg3, List.map_cons, List.map_nil, List.replicate_succ, List.replicate_zero, List.cons_append, List.nil_append, List.append_nil, List.getElem?_cons_zero, List.getElem?_cons_succ, List.set_cons_zero, List.set_cons_succ, List.getD_cons_zero, List.getD_cons_succ, List.filterMap_cons, List.filterMap_nil, List.all_cons, List.all_nil, Bool.and_true, Bool.true_and, Bool.not_true, Bool.not_false, Bool.not_eq_true, Bool.false_eq_true, Bool.and_self, if_true, if_false, true_and, and_true, ↓reduceIte, eqD, neD, sh_int, eqv_int, eqv_strs, sDraw, List.length_cons, List.length_nil, Nat.zero_add, Nat.reduceAdd, decide_true, eq_self]
  refine ⟨ds, rfl, hd, ?_⟩
  simp only [Q.isDc, Q.sPar2K, Q.tDisp2, Q.tIxK, Q.sSetIxK, Q.tVd, Q.tGetK, Q.iKeysQ, Q.tDispK, Q.tVals, Q.tAddL, Q.sSetM, Q.sAl2, Q.tAlApp2, Q.sFrz2, Q.iZipM, Q.itZm, Q.tLcM, Q.addF, Q.isN, Q.mulF, Q.bandI, Q.iZip, Q.itZ, Q.slD, Q.enOf, Q.tV, Q.tK, Q.t2, Q.t1, Q.tB, Q.cI, Q.cIp, Q.subI, Q.fdivI, Q.fdivW, Q.modI, Q.ltI, Q.leI, Q.gtI, Q.geI, Q.negI, Q.vAnd, Q.vNot, Q.qAnd, Q.qOr, Q.qNot, Q.qIf, Q.chI, Q.tTupQ, Q.dNil, Q.dCons, Q.tLstQ, Q.tFz, Q.tCA, Q.lenD, Q.tupD, Q.isD, Q.isInt, Q.isBool, Q.isTup, Q.isStr, Q.tLenN, Q.tIxN, Q.setQ, Q.aNil, Q.aD, Q.aK, Q.tCallQ, Q.tCallKQ, Q.pick, Q.sNil, Q.sSeq, Q.sRet, Q.sExpr, Q.sIf, Q.sSet, Q.sSetL, Q.sAsg, Q.sFor, Q.sPar2, Q.sPar3, Q.pNil, Q.pD, Q.pO, Q.gN, Q.gT, Q.gsNil, Q.gsCons, Q.iQ, Q.itD, Q.iEn, Q.itE, Q.rg1, Q.oSome, Q.tSlQ, Q.revD, Q.tOwnM, Q.appC, Q.popC, Q.extC, Q.ownL, Q.tRepL, Q.repC, Q.sSetIx, Q.ixOwn, Q.tLcQ, Q.noOwn, Q.rstQ, Q.wipeQ, Q.sDn, Q.sSetD, Q.tDgetN, Q.dOwn, Q.sNever, Q.isB, Q.listD, Q.listC, Q.reprD, Q.Sl.isOwn, Q.sAugIx, Q.setQ, Q.tLcM, Q.augC, Q.keyD, Q.rg3, List.map_cons, List.map_nil, List.replicate_succ, List.replicate_zero, List.cons_append, List.nil_append, List.append_nil, List.getElem?_cons_zero, List.getElem?_cons_succ, List.set_cons_zero, List.set_cons_succ, List.getD_cons_zero, List.getD_cons_succ, List.filterMap_cons, List.filterMap_nil, List.all_cons, List.all_nil, Bool.and_true, Bool.true_and, Bool.not_true, Bool.not_false, Bool.not_eq_true, Bool.false_eq_true, Bool.and_self, if_true, if_false, true_and, and_true, ↓reduceIte, eqD, neD, sh_int, eqv_int, eqv_strs, sDraw, List.length_cons, List.length_nil, Nat.zero_add, Nat.reduceAdd, decide_true, eq_self]
  refine ⟨m, rfl, by omega, ?_⟩
  simp only [Q.isDc, Q.sPar2K, Q.tDisp2, Q.tIxK, Q.sSetIxK, Q.tVd, Q.tGetK, Q.iKeysQ, Q.tDispK, Q.tVals, Q.tAddL, Q.sSetM, Q.sAl2, Q.tAlApp2, Q.sFrz2, Q.iZipM, Q.itZm, Q.tLcM, Q.addF, Q.isN, Q.mulF, Q.bandI, Q.iZip, Q.itZ, Q.slD, Q.enOf, Q.tV, Q.tK, Q.t2, Q.t1, Q.tB, Q.cI, Q.cIp, Q.subI, Q.fdivI, Q.fdivW, Q.modI, Q.ltI, Q.leI, Q.gtI, Q.geI, Q.negI, Q.vAnd, Q.vNot, Q.qAnd, Q.qOr, Q.qNot, Q.qIf, Q.chI, Q.tTupQ, Q.dNil, Q.dCons, Q.tLstQ, Q.tFz, Q.tCA, Q.lenD, Q.tupD, Q.isD, Q.isInt, Q.isBool, Q.isTup, Q.isStr, Q.tLenN, Q.tIxN, Q.setQ, Q.aNil, Q.aD, Q.aK, Q.tCallQ, Q.tCallKQ, Q.pick, Q.sNil, Q.sSeq, Q.sRet, Q.sExpr, Q.sIf, Q.sSet, Q.sSetL, Q.sAsg, Q.sFor, Q.sPar2, Q.sPar3, Q.pNil, Q.pD, Q.pO, Q.gN, Q.gT, Q.gsNil, Q.gsCons, Q.iQ, Q.itD, Q.iEn, Q.itE, Q.rg1, Q.oSome, Q.tSlQ, Q.revD, Q.tOwnM, Q.appC, Q.popC, Q.extC, Q.ownL, Q.tRepL, Q.repC, Q.sSetIx, Q.ixOwn, Q.tLcQ, Q.noOwn, Q.rstQ, Q.wipeQ, Q.sDn, Q.sSetD, Q.tDgetN, Q.dOwn, Q.sNever, Q.isB, Q.listD, Q.listC, Q.reprD, Q.Sl.isOwn, Q.sAugIx, Q.setQ, Q.tLcM, Q.augC, Q.keyD, Q.rg3, List.map_cons, List.map_nil, List.replicate_succ, List.replicate_zero, List.cons_append, List.nil_append, List.append_nil, List.getElem?_cons_zero, List.getElem?_cons_succ, List.set_cons_zero, List.set_cons_succ, List.getD_cons_zero, List.getD_cons_succ, List.filterMap_cons, List.filterMap_nil, List.all_cons, List.all_nil, Bool.and_true, Bool.true_and, Bool.not_true, Bool.not_false, Bool.not_eq_true, Bool.false_eq_true, Bool.and_self, if_true, if_false, true_and, and_true, ↓reduceIte, eqD, neD, sh_int, eqv_int, eqv_strs, sDraw, List.length_cons, List.length_nil, Nat.zero_add, Nat.reduceAdd, decide_true, eq_self]
  refine ⟨ds, rfl, hd, hm, ?_⟩
  simp only [Q.isDc, Q.sPar2K, Q.tDisp2, Q.tIxK, Q.sSetIxK, Q.tVd, Q.tGetK, Q.iKeysQ, Q.tDispK, Q.tVals, Q.tAddL, Q.sSetM, Q.sAl2, Q.tAlApp2, Q.sFrz2, Q.iZipM, Q.itZm, Q.tLcM, Q.addF, Q.isN, Q.mulF, Q.bandI, Q.iZip, Q.itZ, Q.slD, Q.enOf, Q.tV, Q.tK, Q.t2, Q.t1, Q.tB, Q.cI, Q.cIp, Q.subI, Q.fdivI, Q.fdivW, Q.modI, Q.ltI, Q.leI, Q.gtI, Q.geI, Q.negI, Q.vAnd, Q.vNot, Q.qAnd, Q.qOr, Q.qNot, Q.qIf, Q.chI, Q.tTupQ, Q.dNil, Q.dCons, Q.tLstQ, Q.tFz, Q.tCA, Q.lenD, Q.tupD, Q.isD, Q.isInt, Q.isBool, Q.isTup, Q.isStr, Q.tLenN, Q.tIxN, Q.setQ, Q.aNil, Q.aD, Q.aK, Q.tCallQ, Q.tCallKQ, Q.pick, Q.sNil, Q.sSeq, Q.sRet, Q.sExpr, Q.sIf, Q.sSet, Q.sSetL, Q.sAsg, Q.sFor, Q.sPar2, Q.sPar3, Q.pNil, Q.pD, Q.pO, Q.gN, Q.gT, Q.gsNil, Q.gsCons, Q.iQ, Q.itD, Q.iEn, Q.itE, Q.rg1, Q.oSome, Q.tSlQ, Q.revD, Q.tOwnM, Q.appC, Q.popC, Q.extC, Q.ownL, Q.tRepL, Q.repC, Q.sSetIx, Q.ixOwn, Q.tLcQ, Q.noOwn, Q.rstQ, Q.wipeQ, Q.sDn, Q.sSetD, Q.tDgetN, Q.dOwn, Q.sNever, Q.isB, Q.listD, Q.listC, Q.reprD, Q.Sl.isOwn, Q.sAugIx, Q.setQ, Q.tLcM, Q.augC, Q.keyD, Q.rg3, List.map_cons, List.map_nil, List.replicate_succ, List.replicate_zero, List.cons_append, List.nil_append, List.append_nil, List.getElem?_cons_zero, List.getElem?_cons_succ, List.set_cons_zero, List.set_cons_succ, List.getD_cons_zero, List.getD_cons_succ, List.filterMap_cons, List.filterMap_nil, List.all_cons, List.all_nil, Bool.and_true, Bool.true_and, Bool.not_true, Bool.not_false, Bool.not_eq_true, Bool.false_eq_true, Bool.and_self, if_true, if_false, true_and, and_true, ↓reduceIte, eqD, neD, sh_int, eqv_int, eqv_strs, sDraw, List.length_cons, List.length_nil, Nat.zero_add, Nat.reduceAdd, decide_true, eq_self]
  exact ⟨fullW ds.reverse, m, rfl, full_pm _, h8, h⟩
end T44
end P59
section P60
open PySem PySem.Spec PyProof.Rows L2 HT Q
namespace T44
def prD (p : Int × Int) : PyData := .tuple [.int p.1, .int p.2]
structure NxP (w : List Int) (k : Nat) (p : Int × Int) : Prop where
  pl : IsAt w k 1 p.1
  mi : IsAt w k (-1) p.2
theorem isAt_hit {w : List Int} {k : Nat} {s : Int} (h : w[k]? = some s) : IsAt w k s (k : Nat) := .inr ⟨k, rfl, Nat.le_refl _, h, fun i h1 h2 => by omega⟩
theorem isAt_miss {w : List Int} {k : Nat} {s x p : Int} (h : w[k]? = some x) (ne : x ≠ s) (q : IsAt w (k + 1) s p) : IsAt w k s p := by
  rcases q with ⟨rfl, g⟩ | ⟨j, rfl, hk, hj, g⟩
  · refine .inl ⟨rfl, fun j hj y hy => ?_⟩
    by_cases e : j = k
    · subst e; rw [h] at hy; cases hy; exact ne
    · exact g j (by omega) y hy
  · refine .inr ⟨j, rfl, by omega, hj, fun i h1 h2 y hy => ?_⟩
    by_cases e : i = k
    · subst e; rw [h] at hy; cases hy; exact ne
    · exact g i (by omega) h2 y hy
theorem isAt_end {w : List Int} {s : Int} : IsAt w w.length s (-1) := .inl ⟨rfl, fun j hj x hx => by rw [List.getElem?_eq_none hj] at hx; cases hx⟩
def Nxt (w : List Int) (ps : List (Int × Int)) : Prop := ps.length = w.length + 1 ∧ ∀ k, k ≤ w.length → ∃ p, ps[k]? = some p ∧ NxP w k p
def nexts_s2 : TQS := (sRet (t1 revD (tV 1)))
def nexts_s1b_s1 : TQS := (sExpr (tOwnM 1 appC (dCons (tTupQ (dCons (tV 2) (dCons (tV 3) dNil))) dNil)))
def nexts_s1b : TQS := (sSeq (sIf (tB (t2 eqD (tIxN 0 (tV 4)) (tK (.int 1)))) (sSet 2 (tV 4)) (sSet 3 (tV 4))) nexts_s1b_s1)
def nexts_s1 : TQS := (sSeq (sFor (rg3 (t2 subI (tLenN 0) (tK (.int 1))) (t1 negI (tK (.int 1))) (t1 negI (tK (.int 1)))) (gN 4) nexts_s1b) nexts_s2)
def sp__law_nexts : PSpec := fun as R => ∃ w : List Int, as = [.d (.list (w.map .int))] ∧ (∀ x, x ∈ w → Pm x) ∧ w.length ≤ 1000 ∧ ∀ ps, Nxt w ps → R (.list (ps.map prD))
theorem len__law_nexts : ∀ as R, sp__law_nexts as R → as.length = 1 := by rintro as R ⟨i, rfl, _⟩; rfl
theorem rd__law_nexts : ∀ as R, sp__law_nexts as R → t__law_nexts { nx := fun _ => R .none, rt := R } (enOf as 4) := by
  rintro as R ⟨w, rfl, hw, hl, h⟩
  show sSeq _ nexts_s1 _ _
  simp only [Q.isDc, Q.sPar2K, Q.tDisp2, Q.tIxK, Q.sSetIxK, Q.tVd, Q.tGetK, Q.iKeysQ, Q.tDispK, Q.tVals, Q.tAddL, Q.sSetM, Q.sAl2, Q.tAlApp2, Q.sFrz2, Q.iZipM, Q.itZm, Q.tLcM, Q.addF, Q.isN, Q.mulF, Q.bandI, Q.iZip, Q.itZ, Q.slD, Q.enOf, Q.tV, Q.tK, Q.t2, Q.t1, Q.tB, Q.cI, Q.cIp, Q.subI, Q.fdivI, Q.fdivW, Q.modI, Q.ltI, Q.leI, Q.gtI, Q.geI, Q.negI, Q.vAnd, Q.vNot, Q.qAnd, Q.qOr, Q.qNot, Q.qIf, Q.chI, Q.tTupQ, Q.dNil, Q.dCons, Q.tLstQ, Q.tFz, Q.tCA, Q.lenD, Q.tupD, Q.isD, Q.isInt, Q.isBool, Q.isTup, Q.isStr, Q.tLenN, Q.tIxN, Q.setQ, Q.aNil, Q.aD, Q.aK, Q.tCallQ, Q.tCallKQ, Q.pick, Q.sNil, Q.sSeq, Q.sRet, Q.sExpr, Q.sIf, Q.sSet, Q.sSetL, Q.sAsg, Q.sFor, Q.sPar2, Q.sPar3, Q.pNil, Q.pD, Q.pO, Q.gN, Q.gT, Q.gsNil, Q.gsCons, Q.iQ, Q.itD, Q.iEn, Q.itE, Q.rg1, Q.oSome, Q.tSlQ, Q.revD, Q.tOwnM, Q.appC, Q.popC, Q.extC, Q.ownL, Q.tRepL, Q.repC, Q.sSetIx, Q.ixOwn, Q.tLcQ, Q.noOwn, Q.rstQ, Q.wipeQ, Q.sDn, Q.sSetD, Q.tDgetN, Q.dOwn, Q.sNever, Q.isB, Q.listD, Q.listC, Q.reprD, Q.Sl.isOwn, Q.sAugIx, Q.setQ, Q.tLcM, Q.augC, Q.keyD, Q.rg3, List.map_cons, List.map_nil, List.replicate_succ, List.replicate_zero, List.cons_append, List.nil_append, List.append_nil, List.getElem?_cons_zero, List.getElem?_cons_succ, List.set_cons_zero, List.set_cons_succ, List.getD_cons_zero, List.getD_cons_succ, List.filterMap_cons, List.filterMap_nil, List.all_cons, List.all_nil, Bool.and_true, Bool.true_and, Bool.not_true, Bool.not_false, Bool.not_eq_true, Bool.false_eq_true, Bool.and_self, if_true, if_false, true_and, and_true, ↓reduceIte, eqD, neD, sh_int, eqv_int, eqv_strs, sDraw, List.length_cons, List.length_nil, Nat.zero_add, Nat.reduceAdd, decide_true, eq_self]
  refine ⟨by decide, by decide, ?_⟩
  show sSeq _ nexts_s2 _ _
  simp only [Q.isDc, Q.sPar2K, Q.tDisp2, Q.tIxK, Q.sSetIxK, Q.tVd, Q.tGetK, Q.iKeysQ, Q.tDispK, Q.tVals, Q.tAddL, Q.sSetM, Q.sAl2, Q.tAlApp2, Q.sFrz2, Q.iZipM, Q.itZm, Q.tLcM, Q.addF, Q.isN, Q.mulF, Q.bandI, Q.iZip, Q.itZ, Q.slD, Q.enOf, Q.tV, Q.tK, Q.t2, Q.t1, Q.tB, Q.cI, Q.cIp, Q.subI, Q.fdivI, Q.fdivW, Q.modI, Q.ltI, Q.leI, Q.gtI, Q.geI, Q.negI, Q.vAnd, Q.vNot, Q.qAnd, Q.qOr, Q.qNot, Q.qIf, Q.chI, Q.tTupQ, Q.dNil, Q.dCons, Q.tLstQ, Q.tFz, Q.tCA, Q.lenD, Q.tupD, Q.isD, Q.isInt, Q.isBool, Q.isTup, Q.isStr, Q.tLenN, Q.tIxN, Q.setQ, Q.aNil, Q.aD, Q.aK, Q.tCallQ, Q.tCallKQ, Q.pick, Q.sNil, Q.sSeq, Q.sRet, Q.sExpr, Q.sIf, Q.sSet, Q.sSetL, Q.sAsg, Q.sFor, Q.sPar2, Q.sPar3, Q.pNil, Q.pD, Q.pO, Q.gN, Q.gT, Q.gsNil, Q.gsCons, Q.iQ, Q.itD, Q.iEn, Q.itE, Q.rg1, Q.oSome, Q.tSlQ, Q.revD, Q.tOwnM, Q.appC, Q.popC, Q.extC, Q.ownL, Q.tRepL, Q.repC, Q.sSetIx, Q.ixOwn, Q.tLcQ, Q.noOwn, Q.rstQ, Q.wipeQ, Q.sDn, Q.sSetD, Q.tDgetN, Q.dOwn, Q.sNever, Q.isB, Q.listD, Q.listC, Q.reprD, Q.Sl.isOwn, Q.sAugIx, Q.setQ, Q.tLcM, Q.augC, Q.keyD, Q.rg3, List.map_cons, List.map_nil, List.replicate_succ, List.replicate_zero, List.cons_append, List.nil_append, List.append_nil, List.getElem?_cons_zero, List.getElem?_cons_succ, List.set_cons_zero, List.set_cons_succ, List.getD_cons_zero, List.getD_cons_succ, List.filterMap_cons, List.filterMap_nil, List.all_cons, List.all_nil, Bool.and_true, Bool.true_and, Bool.not_true, Bool.not_false, Bool.not_eq_true, Bool.false_eq_true, Bool.and_self, if_true, if_false, true_and, and_true, ↓reduceIte, eqD, neD, sh_int, eqv_int, eqv_strs, sDraw, List.length_cons, List.length_nil, Nat.zero_add, Nat.reduceAdd, decide_true, eq_self, List.length_map]
  refine ⟨by omega, by omega, by decide, by decide, ?_⟩
  have ed : dn ((w.length : Int) - 1) ((w.length : Int) - 1 - -1).toNat = (List.range w.length).map fun i => PyData.int ((w.length : Int) - 1 - (i : Nat)) := by
    rw [show ((w.length : Int) - 1 - -1).toNat = w.length by omega]; rfl
  rw [ed]
  refine for_inv (G := fun i : Nat => PyData.int ((w.length : Int) - 1 - (i : Nat))) (fun i ρ => ∃ ps p0 s4, (ps.length = i + 1 ∧ ps[0]? = some p0 ∧ ∀ q, q ≤ i → ∃ p, ps[q]? = some p ∧ NxP w (w.length - i + q) p) ∧ ρ = [.d (.list (w.map .int)), .own (ps.reverse.map prD), .d (.int p0.1), .d (.int p0.2), s4])
    (fun i x hi ρ hρ E' hn hr _ _ => ?_) (fun ρ hρ => ?_) ⟨[(-1, -1)], (-1, -1), _, ⟨rfl, rfl, fun q hq => ⟨(-1, -1), by rw [show q = 0 by omega]; rfl, by rw [show q = 0 by omega]; exact ⟨isAt_end, isAt_end⟩⟩⟩, rfl⟩
  · obtain ⟨ps, p0, s4, ⟨pl, hp0, hps⟩, rfl⟩ := hρ
    obtain ⟨il, ex⟩ := List.getElem?_eq_some_iff.mp hi
    rw [List.getElem_range] at ex
    subst ex
    rw [List.length_range] at il
    obtain ⟨a, ea⟩ : ∃ a, w.length - i = a + 1 := ⟨w.length - i - 1, by omega⟩
    have al : a < w.length := by omega
    have ea2 : w.length - (i + 1) = a := by omega
    have ea3 : (w.length : Int) - 1 - (i : Nat) = ((a : Nat) : Int) := by omega
    obtain ⟨p0', hp0', n0⟩ := hps 0 (by omega)
    rw [hp0] at hp0'
    cases hp0'
    rw [ea, Nat.add_zero] at n0
    have wa : w[a]? = some w[a] := List.getElem?_eq_getElem al
    have next : ∀ p' : Int × Int, NxP w a p' → E'.nx [.d (.list (w.map .int)), .own (ps.reverse.map prD ++ [prD p']), .d (.int p'.1), .d (.int p'.2), .d (.int (a : Nat))] := fun p' np => by
      have e : ps.reverse.map prD ++ [prD p'] = ((p' :: ps).reverse).map prD := by simp
      rw [e]
      refine hn _ ⟨p' :: ps, p', _, ⟨by rw [List.length_cons, pl], rfl, fun q hq => ?_⟩, rfl⟩
      cases q with
      | zero => exact ⟨p', rfl, by rw [ea2]; exact np⟩
      | succ q =>
        obtain ⟨p, g1, g2⟩ := hps q (by omega)
        refine ⟨p, by simpa using g1, ?_⟩
        rw [ea2, show a + (q + 1) = a + 1 + q by omega, ← ea]
        exact g2
    rw [ea3]
    show sSeq _ nexts_s1b_s1 _ _
    simp only [gN, Q.isDc, Q.sPar2K, Q.tDisp2, Q.tIxK, Q.sSetIxK, Q.tVd, Q.tGetK, Q.iKeysQ, Q.tDispK, Q.tVals, Q.tAddL, Q.sSetM, Q.sAl2, Q.tAlApp2, Q.sFrz2, Q.iZipM, Q.itZm, Q.tLcM, Q.addF, Q.isN, Q.mulF, Q.bandI, Q.iZip, Q.itZ, Q.slD, Q.enOf, Q.tV, Q.tK, Q.t2, Q.t1, Q.tB, Q.cI, Q.cIp, Q.subI, Q.fdivI, Q.fdivW, Q.modI, Q.ltI, Q.leI, Q.gtI, Q.geI, Q.negI, Q.vAnd, Q.vNot, Q.qAnd, Q.qOr, Q.qNot, Q.qIf, Q.chI, Q.tTupQ, Q.dNil, Q.dCons, Q.tLstQ, Q.tFz, Q.tCA, Q.lenD, Q.tupD, Q.isD, Q.isInt, Q.isBool, Q.isTup, Q.isStr, Q.tLenN, Q.tIxN, Q.setQ, Q.aNil, Q.aD, Q.aK, Q.tCallQ, Q.tCallKQ, Q.pick, Q.sNil, Q.sSeq, Q.sRet, Q.sExpr, Q.sIf, Q.sSet, Q.sSetL, Q.sAsg, Q.sFor, Q.sPar2, Q.sPar3, Q.pNil, Q.pD, Q.pO, Q.gN, Q.gT, Q.gsNil, Q.gsCons, Q.iQ, Q.itD, Q.iEn, Q.itE, Q.rg1, Q.oSome, Q.tSlQ, Q.revD, Q.tOwnM, Q.appC, Q.popC, Q.extC, Q.ownL, Q.tRepL, Q.repC, Q.sSetIx, Q.ixOwn, Q.tLcQ, Q.noOwn, Q.rstQ, Q.wipeQ, Q.sDn, Q.sSetD, Q.tDgetN, Q.dOwn, Q.sNever, Q.isB, Q.listD, Q.listC, Q.reprD, Q.Sl.isOwn, Q.sAugIx, Q.setQ, Q.tLcM, Q.augC, Q.keyD, Q.rg3, List.map_cons, List.map_nil, List.replicate_succ, List.replicate_zero, List.cons_append, List.nil_append, List.append_nil, List.getElem?_cons_zero, List.getElem?_cons_succ, List.set_cons_zero, List.set_cons_succ, List.getD_cons_zero, List.getD_cons_succ, List.filterMap_cons, List.filterMap_nil, List.all_cons, List.all_nil, Bool.and_true, Bool.true_and, Bool.not_true, Bool.not_false, Bool.not_eq_true, Bool.false_eq_true, Bool.and_self, if_true, if_false, true_and, and_true, ↓reduceIte, eqD, neD, sh_int, eqv_int, eqv_strs, sDraw, List.length_cons, List.length_nil, Nat.zero_add, Nat.reduceAdd, decide_true, eq_self, ixD]
    refine ⟨.int w[a], atI_nat (by rw [List.getElem?_map, wa]; rfl), ?_⟩
    try simp only [Q.isDc, Q.sPar2K, Q.tDisp2, Q.tIxK, Q.sSetIxK, Q.tVd, Q.tGetK, Q.iKeysQ, Q.tDispK, Q.tVals, Q.tAddL, Q.sSetM, Q.sAl2, Q.tAlApp2, Q.sFrz2, Q.iZipM, Q.itZm, Q.tLcM, Q.addF, Q.isN, Q.mulF, Q.bandI, Q.iZip, Q.itZ, Q.slD, Q.enOf, Q.tV, Q.tK, Q.t2, Q.t1, Q.tB, Q.cI, Q.cIp, Q.subI, Q.fdivI, Q.fdivW, Q.modI, Q.ltI, Q.leI, Q.gtI, Q.geI, Q.negI, Q.vAnd, Q.vNot, Q.qAnd, Q.qOr, Q.qNot, Q.qIf, Q.chI, Q.tTupQ, Q.dNil, Q.dCons, Q.tLstQ, Q.tFz, Q.tCA, Q.lenD, Q.tupD, Q.isD, Q.isInt, Q.isBool, Q.isTup, Q.isStr, Q.tLenN, Q.tIxN, Q.setQ, Q.aNil, Q.aD, Q.aK, Q.tCallQ, Q.tCallKQ, Q.pick, Q.sNil, Q.sSeq, Q.sRet, Q.sExpr, Q.sIf, Q.sSet, Q.sSetL, Q.sAsg, Q.sFor, Q.sPar2, Q.sPar3, Q.pNil, Q.pD, Q.pO, Q.gN, Q.gT, Q.gsNil, Q.gsCons, Q.iQ, Q.itD, Q.iEn, Q.itE, Q.rg1, Q.oSome, Q.tSlQ, Q.revD, Q.tOwnM, Q.appC, Q.popC, Q.extC, Q.ownL, Q.tRepL, Q.repC, Q.sSetIx, Q.ixOwn, Q.tLcQ, Q.noOwn, Q.rstQ, Q.wipeQ, Q.sDn, Q.sSetD, Q.tDgetN, Q.dOwn, Q.sNever, Q.isB, Q.listD, Q.listC, Q.reprD, Q.Sl.isOwn, Q.sAugIx, Q.setQ, Q.tLcM, Q.augC, Q.keyD, Q.rg3, List.map_cons, List.map_nil, List.replicate_succ, List.replicate_zero, List.cons_append, List.nil_append, List.append_nil, List.getElem?_cons_zero, List.getElem?_cons_succ, List.set_cons_zero, List.set_cons_succ, List.getD_cons_zero, List.getD_cons_succ, List.filterMap_cons, List.filterMap_nil, List.all_cons, List.all_nil, Bool.and_true, Bool.true_and, Bool.not_true, Bool.not_false, Bool.not_eq_true, Bool.false_eq_true, Bool.and_self, if_true, if_false, true_and, and_true, ↓reduceIte, eqD, neD, sh_int, eqv_int, eqv_strs, sDraw, List.length_cons, List.length_nil, Nat.zero_add, Nat.reduceAdd, decide_true, eq_self]
    by_cases c : w[a] = 1
    · rw [decide_eq_true c]
      simp only [nexts_s1b_s1, Q.isDc, Q.sPar2K, Q.tDisp2, Q.tIxK, Q.sSetIxK, Q.tVd, Q.tGetK, Q.iKeysQ, Q.tDispK, Q.tVals, Q.tAddL, Q.sSetM, Q.sAl2, Q.tAlApp2, Q.sFrz2, Q.iZipM, Q.itZm, Q.tLcM, Q.addF, Q.isN, Q.mulF, Q.bandI, Q.iZip, Q.itZ, Q.slD, Q.enOf, Q.tV, Q.tK, Q.t2, Q.t1, Q.tB, Q.cI, Q.cIp, Q.subI, Q.fdivI, Q.fdivW, Q.modI, Q.ltI, Q.leI, Q.gtI, Q.geI, Q.negI, Q.vAnd, Q.vNot, Q.qAnd, Q.qOr, Q.qNot, Q.qIf, Q.chI, Q.tTupQ, Q.dNil, Q.dCons, Q.tLstQ, Q.tFz, Q.tCA, Q.lenD, Q.tupD, Q.isD, Q.isInt, Q.isBool, Q.isTup, Q.isStr, Q.tLenN, Q.tIxN, Q.setQ, Q.aNil, Q.aD, Q.aK, Q.tCallQ, Q.tCallKQ, Q.pick, Q.sNil, Q.sSeq, Q.sRet, Q.sExpr, Q.sIf, Q.sSet, Q.sSetL, Q.sAsg, Q.sFor, Q.sPar2, Q.sPar3, Q.pNil, Q.pD, Q.pO, Q.gN, Q.gT, Q.gsNil, Q.gsCons, Q.iQ, Q.itD, Q.iEn, Q.itE, Q.rg1, Q.oSome, Q.tSlQ, Q.revD, Q.tOwnM, Q.appC, Q.popC, Q.extC, Q.ownL, Q.tRepL, Q.repC, Q.sSetIx, Q.ixOwn, Q.tLcQ, Q.noOwn, Q.rstQ, Q.wipeQ, Q.sDn, Q.sSetD, Q.tDgetN, Q.dOwn, Q.sNever, Q.isB, Q.listD, Q.listC, Q.reprD, Q.Sl.isOwn, Q.sAugIx, Q.setQ, Q.tLcM, Q.augC, Q.keyD, Q.rg3, List.map_cons, List.map_nil, List.replicate_succ, List.replicate_zero, List.cons_append, List.nil_append, List.append_nil, List.getElem?_cons_zero, List.getElem?_cons_succ, List.set_cons_zero, List.set_cons_succ, List.getD_cons_zero, List.getD_cons_succ, List.filterMap_cons, List.filterMap_nil, List.all_cons, List.all_nil, Bool.and_true, Bool.true_and, Bool.not_true, Bool.not_false, Bool.not_eq_true, Bool.false_eq_true, Bool.and_self, if_true, if_false, true_and, and_true, ↓reduceIte, eqD, neD, sh_int, eqv_int, eqv_strs, sDraw, List.length_cons, List.length_nil, Nat.zero_add, Nat.reduceAdd, decide_true, eq_self]
      refine ⟨by decide, by rw [List.length_map, List.length_reverse]; omega, ?_⟩
      rw [c] at wa
      exact next ((a : Nat), p0.2) ⟨isAt_hit wa, isAt_miss wa (by decide) n0.mi⟩
    · rw [decide_eq_false c]
      simp only [nexts_s1b_s1, Q.isDc, Q.sPar2K, Q.tDisp2, Q.tIxK, Q.sSetIxK, Q.tVd, Q.tGetK, Q.iKeysQ, Q.tDispK, Q.tVals, Q.tAddL, Q.sSetM, Q.sAl2, Q.tAlApp2, Q.sFrz2, Q.iZipM, Q.itZm, Q.tLcM, Q.addF, Q.isN, Q.mulF, Q.bandI, Q.iZip, Q.itZ, Q.slD, Q.enOf, Q.tV, Q.tK, Q.t2, Q.t1, Q.tB, Q.cI, Q.cIp, Q.subI, Q.fdivI, Q.fdivW, Q.modI, Q.ltI, Q.leI, Q.gtI, Q.geI, Q.negI, Q.vAnd, Q.vNot, Q.qAnd, Q.qOr, Q.qNot, Q.qIf, Q.chI, Q.tTupQ, Q.dNil, Q.dCons, Q.tLstQ, Q.tFz, Q.tCA, Q.lenD, Q.tupD, Q.isD, Q.isInt, Q.isBool, Q.isTup, Q.isStr, Q.tLenN, Q.tIxN, Q.setQ, Q.aNil, Q.aD, Q.aK, Q.tCallQ, Q.tCallKQ, Q.pick, Q.sNil, Q.sSeq, Q.sRet, Q.sExpr, Q.sIf, Q.sSet, Q.sSetL, Q.sAsg, Q.sFor, Q.sPar2, Q.sPar3, Q.pNil, Q.pD, Q.pO, Q.gN, Q.gT, Q.gsNil, Q.gsCons, Q.iQ, Q.itD, Q.iEn, Q.itE, Q.rg1, Q.oSome, Q.tSlQ, Q.revD, Q.tOwnM, Q.appC, Q.popC, Q.extC, Q.ownL, Q.tRepL, Q.repC, Q.sSetIx, Q.ixOwn, Q.tLcQ, Q.noOwn, Q.rstQ, Q.wipeQ, Q.sDn, Q.sSetD, Q.tDgetN, Q.dOwn, Q.sNever, Q.isB, Q.listD, Q.listC, Q.reprD, Q.Sl.isOwn, Q.sAugIx, Q.setQ, Q.tLcM, Q.augC, Q.keyD, Q.rg3, List.map_cons, List.map_nil, List.replicate_succ, List.replicate_zero, List.cons_append, List.nil_append, List.append_nil, List.getElem?_cons_zero, List.getElem?_cons_succ, List.set_cons_zero, List.set_cons_succ, List.getD_cons_zero, List.getD_cons_succ, List.filterMap_cons, List.filterMap_nil, List.all_cons, List.all_nil, Bool.and_true, Bool.true_and, Bool.not_true, Bool.not_false, Bool.not_eq_true, Bool.false_eq_true, Bool.and_self, if_true, if_false, true_and, and_true, ↓reduceIte, eqD, neD, sh_int, eqv_int, eqv_strs, sDraw, List.length_cons, List.length_nil, Nat.zero_add, Nat.reduceAdd, decide_true, eq_self]
      refine ⟨by decide, by rw [List.length_map, List.length_reverse]; omega, ?_⟩
      have c2 : w[a] = -1 := (hw _ (List.getElem_mem al)).resolve_left c
      rw [c2] at wa
      exact next (p0.1, (a : Nat)) ⟨isAt_miss wa (by decide) n0.pl, isAt_hit wa⟩
  · obtain ⟨ps, p0, s4, ⟨pl, hp0, hps⟩, rfl⟩ := hρ
    rw [List.length_range] at pl hps
    simp only [nexts_s2, Q.isDc, Q.sPar2K, Q.tDisp2, Q.tIxK, Q.sSetIxK, Q.tVd, Q.tGetK, Q.iKeysQ, Q.tDispK, Q.tVals, Q.tAddL, Q.sSetM, Q.sAl2, Q.tAlApp2, Q.sFrz2, Q.iZipM, Q.itZm, Q.tLcM, Q.addF, Q.isN, Q.mulF, Q.bandI, Q.iZip, Q.itZ, Q.slD, Q.enOf, Q.tV, Q.tK, Q.t2, Q.t1, Q.tB, Q.cI, Q.cIp, Q.subI, Q.fdivI, Q.fdivW, Q.modI, Q.ltI, Q.leI, Q.gtI, Q.geI, Q.negI, Q.vAnd, Q.vNot, Q.qAnd, Q.qOr, Q.qNot, Q.qIf, Q.chI, Q.tTupQ, Q.dNil, Q.dCons, Q.tLstQ, Q.tFz, Q.tCA, Q.lenD, Q.tupD, Q.isD, Q.isInt, Q.isBool, Q.isTup, Q.isStr, Q.tLenN, Q.tIxN, Q.setQ, Q.aNil, Q.aD, Q.aK, Q.tCallQ, Q.tCallKQ, Q.pick, Q.sNil, Q.sSeq, Q.sRet, Q.sExpr, Q.sIf, Q.sSet, Q.sSetL, Q.sAsg, Q.sFor, Q.sPar2, Q.sPar3, Q.pNil, Q.pD, Q.pO, Q.gN, Q.gT, Q.gsNil, Q.gsCons, Q.iQ, Q.itD, Q.iEn, Q.itE, Q.rg1, Q.oSome, Q.tSlQ, Q.revD, Q.tOwnM, Q.appC, Q.popC, Q.extC, Q.ownL, Q.tRepL, Q.repC, Q.sSetIx, Q.ixOwn, Q.tLcQ, Q.noOwn, Q.rstQ, Q.wipeQ, Q.sDn, Q.sSetD, Q.tDgetN, Q.dOwn, Q.sNever, Q.isB, Q.listD, Q.listC, Q.reprD, Q.Sl.isOwn, Q.sAugIx, Q.setQ, Q.tLcM, Q.augC, Q.keyD, Q.rg3, List.map_cons, List.map_nil, List.replicate_succ, List.replicate_zero, List.cons_append, List.nil_append, List.append_nil, List.getElem?_cons_zero, List.getElem?_cons_succ, List.set_cons_zero, List.set_cons_succ, List.getD_cons_zero, List.getD_cons_succ, List.filterMap_cons, List.filterMap_nil, List.all_cons, List.all_nil, Bool.and_true, Bool.true_and, Bool.not_true, Bool.not_false, Bool.not_eq_true, Bool.false_eq_true, Bool.and_self, if_true, if_false, true_and, and_true, ↓reduceIte, eqD, neD, sh_int, eqv_int, eqv_strs, sDraw, List.length_cons, List.length_nil, Nat.zero_add, Nat.reduceAdd, decide_true, eq_self]
    rw [← List.map_reverse, List.reverse_reverse]
    exact h ps ⟨pl, fun k hk => by
      obtain ⟨p, g1, g2⟩ := hps k hk
      exact ⟨p, g1, by rw [show w.length - w.length + k = k by omega] at g2; exact g2⟩⟩
end T44
end P60
section P61
open PySem PySem.Spec PyProof.Rows L2 HT Q
namespace T44
theorem rg_range (n : Nat) : rg 0 n = (List.range n).map fun i => .int ((i : Nat) : Int) := by simp [rg]
def kvD (M : List (Nat × Int)) : List (Key × PyData) := M.map fun p => (.inl (p.1 : Int), .int p.2)
def getN : List (Nat × Int) → Nat → Int
  | [], _ => 0
  | (k, x) :: M, n => if k = n then x else getN M n
def putN : List (Nat × Int) → Nat → Int → List (Nat × Int)
  | [], n, v => [(n, v)]
  | (k, x) :: M, n, v => if k = n then (k, x + v) :: M else (k, x) :: putN M n v
theorem val_kv : ∀ (M : List (Nat × Int)) (n : Nat), (valD (kvD M) (.inl (n : Int))).getD (.int 0) = .int (getN M n)
  | [], n => rfl
  | (k, x) :: M, n => by
    have ih := val_kv M n
    have e0 : kvD ((k, x) :: M) = (.inl (k : Int), .int x) :: kvD M := rfl
    rw [e0, getN]
    unfold valD at ih ⊢
    rw [List.find?_cons]
    by_cases e : k = n
    · subst e; simp
    · have : (decide ((Sum.inl (k : Int) : Key) = .inl (n : Int))) = false := by
        rw [decide_eq_false_iff_not]; intro z; injection z with z; omega
      simp only [this, if_neg e]
      exact ih
theorem val_mem : ∀ {M : List (Nat × Int)} {p : Nat × Int}, p ∈ M → (M.map (·.1)).Nodup → valD (kvD M) (.inl (p.1 : Int)) = some (.int p.2)
  | [], _, h, _ => by simp at h
  | (k, x) :: M, p, h, nd => by
    have e0 : kvD ((k, x) :: M) = (.inl (k : Int), .int x) :: kvD M := rfl
    rw [List.map_cons, List.nodup_cons] at nd
    rw [e0]
    rcases List.mem_cons.mp h with rfl | h
    · simp [valD, List.find?_cons]
    · have ne : k ≠ p.1 := fun z => nd.1 (by rw [z]; exact List.mem_map.mpr ⟨p, h, rfl⟩)
      have : (decide ((Sum.inl (k : Int) : Key) = .inl (p.1 : Int))) = false := by
        rw [decide_eq_false_iff_not]; intro z; injection z with z; omega
      have ih := val_mem h nd.2
      unfold valD at ih ⊢
      rw [List.find?_cons]
      simp only [this]
      exact ih
theorem put_kv : ∀ {M : List (Nat × Int)} {n : Nat} {v : Int}, (M.map (·.1)).Nodup → putD (kvD M) (.inl (n : Int)) (.int (getN M n + v)) = kvD (putN M n v)
  | [], n, v, _ => by simp [kvD, putD, putN, getN]
  | (k, x) :: M, n, v, nd => by
    rw [List.map_cons, List.nodup_cons] at nd
    have e0 : kvD ((k, x) :: M) = (.inl (k : Int), .int x) :: kvD M := rfl
    by_cases e : k = n
    · subst e
      rw [e0, getN, putN, if_pos rfl, if_pos rfl]
      unfold putD
      rw [List.any_cons, decide_eq_true rfl, Bool.true_or, if_pos rfl, List.map_cons, if_pos rfl]
      show _ = (Sum.inl (k : Int), PyData.int (x + v)) :: kvD M
      congr 1
      have : ∀ kv, kv ∈ kvD M → (if kv.1 = (Sum.inl (k : Int) : Key) then (kv.1, PyData.int (x + v)) else kv) = kv := fun kv hkv => by
        rw [if_neg]
        intro z
        obtain ⟨p, hp, rfl⟩ := List.mem_map.mp hkv
        injection z with z
        exact nd.1 (List.mem_map.mpr ⟨p, hp, by omega⟩)
      rw [List.map_congr_left this, List.map_id']
    · have ih := put_kv (n := n) (v := v) nd.2
      have ne : (decide ((Sum.inl (k : Int) : Key) = .inl (n : Int))) = false := by
        rw [decide_eq_false_iff_not]; intro z; injection z with z; omega
      have ne2 : ¬ (Sum.inl (k : Int) : Key) = .inl (n : Int) := of_decide_eq_false ne
      rw [e0, getN, putN, if_neg e, if_neg e]
      show _ = (Sum.inl (k : Int), PyData.int x) :: kvD (putN M n v)
      rw [← ih]
      unfold putD
      rw [List.any_cons, ne, Bool.false_or]
      by_cases c : ((kvD M).any fun kv => decide (kv.1 = (Sum.inl (n : Int) : Key))) = true
      · rw [if_pos c, if_pos c, List.map_cons, if_neg ne2]
      · rw [if_neg c, if_neg c]; rfl
theorem put_keys : ∀ {M : List (Nat × Int)} {n : Nat} {v : Int} {k : Nat}, k ∈ (putN M n v).map (·.1) ↔ k = n ∨ k ∈ M.map (·.1)
  | [], n, v, k => by simp [putN]
  | (k0, x) :: M, n, v, k => by
    rw [putN]
    by_cases e : k0 = n
    · rw [if_pos e]; subst e; simp
    · rw [if_neg e, List.map_cons, List.mem_cons, put_keys, List.map_cons, List.mem_cons]
      constructor
      · rintro (h | h | h)
        · exact .inr (.inl h)
        · exact .inl h
        · exact .inr (.inr h)
      · rintro (h | h | h)
        · exact .inr (.inl h)
        · exact .inl h
        · exact .inr (.inr h)
theorem put_nd : ∀ {M : List (Nat × Int)} {n : Nat} {v : Int}, (M.map (·.1)).Nodup → ((putN M n v).map (·.1)).Nodup
  | [], n, v, _ => by simp [putN]
  | (k0, x) :: M, n, v, nd => by
    rw [List.map_cons, List.nodup_cons] at nd
    rw [putN]
    by_cases e : k0 = n
    · rw [if_pos e, List.map_cons, List.nodup_cons]; exact nd
    · rw [if_neg e, List.map_cons, List.nodup_cons]
      exact ⟨fun z => (put_keys.mp z).elim e nd.1, put_nd nd.2⟩
theorem putN_len : ∀ (M : List (Nat × Int)) (n : Nat) (v : Int), (putN M n v).length ≤ M.length + 1
  | [], n, v => by simp [putN]
  | (k0, x) :: M, n, v => by
    rw [putN]
    split
    · simp
    · have := putN_len M n v
      simp; omega
/-- what the counts come to, with g letters still to come -/
def sumT (w : List Int) (M : List (Nat × Int)) (g : Nat) : Int := (M.map fun p => p.2 * cn (w.drop p.1) g).sum
theorem sumT_put (w : List Int) (g : Nat) : ∀ (M : List (Nat × Int)) (n : Nat) (v : Int), sumT w (putN M n v) g = sumT w M g + v * cn (w.drop n) g
  | [], n, v => by simp [putN, sumT]
  | (k0, x) :: M, n, v => by
    have ih := sumT_put w g M n v
    rw [putN]
    by_cases e : k0 = n
    · subst e
      rw [if_pos rfl]
      simp only [sumT, List.map_cons, List.sum_cons, Int.add_mul]; omega
    · rw [if_neg e]
      simp only [sumT, List.map_cons, List.sum_cons] at ih ⊢
      rw [ih]; omega
structure Ways (w : List Int) (M : List (Nat × Int)) (n : Nat) : Prop where
  nd : (M.map (·.1)).Nodup
  le : ∀ k, k ∈ M.map (·.1) → k ≤ w.length
  few : M.length ≤ n
theorem Ways.put {w : List Int} {M : List (Nat × Int)} {n k : Nat} (h : Ways w M n) (hk : k ≤ w.length) (v : Int) : Ways w (putN M k v) (n + 1) :=
  ⟨put_nd h.nd, fun q hq => (put_keys.mp hq).elim (fun e => by omega) (h.le q), by have := putN_len M k v; have := h.few; omega⟩
def rows_s2 : TQS := (sRet (tCA sumD (dCons (tFz (tVals (tV 3))) dNil)))
def rows_s1b_s2 : TQS := (sSet 3 (tVd 5))
def rows_s1b_s1b_s0b : TQS := (sIf (tB (t2 geI (tV 7) (tK (.int 0)))) (sSetD 5 (t2 addF (tDgetD 5 (t2 addF (tV 7) (tK (.int 1))) (tK (.int 0))) (tGetK (tV 3) (tV 6))) (t2 addF (tV 7) (tK (.int 1)))) sNil)
def rows_s1b_s1b : TQS := (sFor (iQ (tIxN 2 (tV 6))) (gN 7) rows_s1b_s1b_s0b)
def rows_s1b_s1 : TQS := (sSeq (sFor (iKeysQ (tV 3)) (gN 6) rows_s1b_s1b) rows_s1b_s2)
def rows_s1b : TQS := (sSeq (sDn 5) rows_s1b_s1)
def rows_s1 : TQS := (sSeq (sFor (rg1 (tV 1)) (gN 4) rows_s1b) rows_s2)
def sp__law_rows : PSpec := fun as R => ∃ (w : List Int) (m : Nat), as = [.d (.list (w.map .int)), .d (.int m)] ∧ (∀ x, x ∈ w → Pm x) ∧ w.length ≤ 1000 ∧ m ≤ 8 ∧ R (.int (cn w m))
theorem len__law_rows : ∀ as R, sp__law_rows as R → as.length = 2 := by rintro as R ⟨i, s, rfl, _⟩; rfl
theorem isAt_lt {w : List Int} {k : Nat} {s p : Int} (h : IsAt w k s p) (h0 : 0 ≤ p) : p.toNat + 1 ≤ w.length := by
  rcases h with ⟨rfl, _⟩ | ⟨j, rfl, _, hj, _⟩
  · omega
  · obtain ⟨jl, _⟩ := List.getElem?_eq_some_iff.mp hj
    omega
def stepN (M : List (Nat × Int)) (a v : Int) : List (Nat × Int) := if 0 ≤ a then putN M (a.toNat + 1) v else M
theorem sumT_step {w : List Int} {k : Nat} {s a : Int} (h : IsAt w k s a) (M : List (Nat × Int)) (v : Int) (g : Nat) : sumT w (stepN M a v) g = sumT w M g + v * (cC (w.drop k) s g : Nat) := by
  rw [cC_at h]
  unfold stepN
  by_cases c : 0 ≤ a
  · rw [if_pos c, if_pos c, sumT_put]; rfl
  · rw [if_neg c, if_neg c]; simp
theorem Ways.step {w : List Int} {M : List (Nat × Int)} {n k : Nat} {s a : Int} (h : Ways w M n) (ha : IsAt w k s a) (v : Int) : Ways w (stepN M a v) (n + 1) := by
  unfold stepN
  by_cases c : 0 ≤ a
  · rw [if_pos c]; exact h.put (isAt_lt ha c) v
  · rw [if_neg c]; exact ⟨h.nd, h.le, by have := h.few; omega⟩
theorem rd__law_rows : ∀ as R, sp__law_rows as R → t__law_rows sp__law_nexts { nx := fun _ => R .none, rt := R } (enOf as 6) := by
  rintro as R ⟨w, m, rfl, hw, hl, h8, h⟩
  show sSeq _ rows_s1 _ _
  simp only [Q.isDc, Q.sPar2K, Q.tDisp2, Q.tIxK, Q.sSetIxK, Q.tVd, Q.tGetK, Q.iKeysQ, Q.tDispK, Q.tVals, Q.tAddL, Q.sSetM, Q.sAl2, Q.tAlApp2, Q.sFrz2, Q.iZipM, Q.itZm, Q.tLcM, Q.addF, Q.isN, Q.mulF, Q.bandI, Q.iZip, Q.itZ, Q.slD, Q.enOf, Q.tV, Q.tK, Q.t2, Q.t1, Q.tB, Q.cI, Q.cIp, Q.subI, Q.fdivI, Q.fdivW, Q.modI, Q.ltI, Q.leI, Q.gtI, Q.geI, Q.negI, Q.vAnd, Q.vNot, Q.qAnd, Q.qOr, Q.qNot, Q.qIf, Q.chI, Q.tTupQ, Q.dNil, Q.dCons, Q.tLstQ, Q.tFz, Q.tCA, Q.lenD, Q.tupD, Q.isD, Q.isInt, Q.isBool, Q.isTup, Q.isStr, Q.tLenN, Q.tIxN, Q.setQ, Q.aNil, Q.aD, Q.aK, Q.tCallQ, Q.tCallKQ, Q.pick, Q.sNil, Q.sSeq, Q.sRet, Q.sExpr, Q.sIf, Q.sSet, Q.sSetL, Q.sAsg, Q.sFor, Q.sPar2, Q.sPar3, Q.pNil, Q.pD, Q.pO, Q.gN, Q.gT, Q.gsNil, Q.gsCons, Q.iQ, Q.itD, Q.iEn, Q.itE, Q.rg1, Q.oSome, Q.tSlQ, Q.revD, Q.tOwnM, Q.appC, Q.popC, Q.extC, Q.ownL, Q.tRepL, Q.repC, Q.sSetIx, Q.ixOwn, Q.tLcQ, Q.noOwn, Q.rstQ, Q.wipeQ, Q.sDn, Q.sSetD, Q.tDgetN, Q.dOwn, Q.sNever, Q.isB, Q.listD, Q.listC, Q.reprD, Q.Sl.isOwn, Q.sAugIx, Q.setQ, Q.tLcM, Q.augC, Q.keyD, Q.rg3, List.map_cons, List.map_nil, List.replicate_succ, List.replicate_zero, List.cons_append, List.nil_append, List.append_nil, List.getElem?_cons_zero, List.getElem?_cons_succ, List.set_cons_zero, List.set_cons_succ, List.getD_cons_zero, List.getD_cons_succ, List.filterMap_cons, List.filterMap_nil, List.all_cons, List.all_nil, Bool.and_true, Bool.true_and, Bool.not_true, Bool.not_false, Bool.not_eq_true, Bool.false_eq_true, Bool.and_self, if_true, if_false, true_and, and_true, ↓reduceIte, eqD, neD, sh_int, eqv_int, eqv_strs, sDraw, List.length_cons, List.length_nil, Nat.zero_add, Nat.reduceAdd, decide_true, eq_self]
  refine ⟨w, rfl, hw, hl, fun ps hps => ?_⟩
  simp only [Q.isDc, Q.sPar2K, Q.tDisp2, Q.tIxK, Q.sSetIxK, Q.tVd, Q.tGetK, Q.iKeysQ, Q.tDispK, Q.tVals, Q.tAddL, Q.sSetM, Q.sAl2, Q.tAlApp2, Q.sFrz2, Q.iZipM, Q.itZm, Q.tLcM, Q.addF, Q.isN, Q.mulF, Q.bandI, Q.iZip, Q.itZ, Q.slD, Q.enOf, Q.tV, Q.tK, Q.t2, Q.t1, Q.tB, Q.cI, Q.cIp, Q.subI, Q.fdivI, Q.fdivW, Q.modI, Q.ltI, Q.leI, Q.gtI, Q.geI, Q.negI, Q.vAnd, Q.vNot, Q.qAnd, Q.qOr, Q.qNot, Q.qIf, Q.chI, Q.tTupQ, Q.dNil, Q.dCons, Q.tLstQ, Q.tFz, Q.tCA, Q.lenD, Q.tupD, Q.isD, Q.isInt, Q.isBool, Q.isTup, Q.isStr, Q.tLenN, Q.tIxN, Q.setQ, Q.aNil, Q.aD, Q.aK, Q.tCallQ, Q.tCallKQ, Q.pick, Q.sNil, Q.sSeq, Q.sRet, Q.sExpr, Q.sIf, Q.sSet, Q.sSetL, Q.sAsg, Q.sFor, Q.sPar2, Q.sPar3, Q.pNil, Q.pD, Q.pO, Q.gN, Q.gT, Q.gsNil, Q.gsCons, Q.iQ, Q.itD, Q.iEn, Q.itE, Q.rg1, Q.oSome, Q.tSlQ, Q.revD, Q.tOwnM, Q.appC, Q.popC, Q.extC, Q.ownL, Q.tRepL, Q.repC, Q.sSetIx, Q.ixOwn, Q.tLcQ, Q.noOwn, Q.rstQ, Q.wipeQ, Q.sDn, Q.sSetD, Q.tDgetN, Q.dOwn, Q.sNever, Q.isB, Q.listD, Q.listC, Q.reprD, Q.Sl.isOwn, Q.sAugIx, Q.setQ, Q.tLcM, Q.augC, Q.keyD, Q.rg3, List.map_cons, List.map_nil, List.replicate_succ, List.replicate_zero, List.cons_append, List.nil_append, List.append_nil, List.getElem?_cons_zero, List.getElem?_cons_succ, List.set_cons_zero, List.set_cons_succ, List.getD_cons_zero, List.getD_cons_succ, List.filterMap_cons, List.filterMap_nil, List.all_cons, List.all_nil, Bool.and_true, Bool.true_and, Bool.not_true, Bool.not_false, Bool.not_eq_true, Bool.false_eq_true, Bool.and_self, if_true, if_false, true_and, and_true, ↓reduceIte, eqD, neD, sh_int, eqv_int, eqv_strs, sDraw, List.length_cons, List.length_nil, Nat.zero_add, Nat.reduceAdd, decide_true, eq_self]
  refine ⟨by decide, ?_⟩
  show sSeq _ rows_s2 _ _
  simp only [Q.isDc, Q.sPar2K, Q.tDisp2, Q.tIxK, Q.sSetIxK, Q.tVd, Q.tGetK, Q.iKeysQ, Q.tDispK, Q.tVals, Q.tAddL, Q.sSetM, Q.sAl2, Q.tAlApp2, Q.sFrz2, Q.iZipM, Q.itZm, Q.tLcM, Q.addF, Q.isN, Q.mulF, Q.bandI, Q.iZip, Q.itZ, Q.slD, Q.enOf, Q.tV, Q.tK, Q.t2, Q.t1, Q.tB, Q.cI, Q.cIp, Q.subI, Q.fdivI, Q.fdivW, Q.modI, Q.ltI, Q.leI, Q.gtI, Q.geI, Q.negI, Q.vAnd, Q.vNot, Q.qAnd, Q.qOr, Q.qNot, Q.qIf, Q.chI, Q.tTupQ, Q.dNil, Q.dCons, Q.tLstQ, Q.tFz, Q.tCA, Q.lenD, Q.tupD, Q.isD, Q.isInt, Q.isBool, Q.isTup, Q.isStr, Q.tLenN, Q.tIxN, Q.setQ, Q.aNil, Q.aD, Q.aK, Q.tCallQ, Q.tCallKQ, Q.pick, Q.sNil, Q.sSeq, Q.sRet, Q.sExpr, Q.sIf, Q.sSet, Q.sSetL, Q.sAsg, Q.sFor, Q.sPar2, Q.sPar3, Q.pNil, Q.pD, Q.pO, Q.gN, Q.gT, Q.gsNil, Q.gsCons, Q.iQ, Q.itD, Q.iEn, Q.itE, Q.rg1, Q.oSome, Q.tSlQ, Q.revD, Q.tOwnM, Q.appC, Q.popC, Q.extC, Q.ownL, Q.tRepL, Q.repC, Q.sSetIx, Q.ixOwn, Q.tLcQ, Q.noOwn, Q.rstQ, Q.wipeQ, Q.sDn, Q.sSetD, Q.tDgetN, Q.dOwn, Q.sNever, Q.isB, Q.listD, Q.listC, Q.reprD, Q.Sl.isOwn, Q.sAugIx, Q.setQ, Q.tLcM, Q.augC, Q.keyD, Q.rg3, List.map_cons, List.map_nil, List.replicate_succ, List.replicate_zero, List.cons_append, List.nil_append, List.append_nil, List.getElem?_cons_zero, List.getElem?_cons_succ, List.set_cons_zero, List.set_cons_succ, List.getD_cons_zero, List.getD_cons_succ, List.filterMap_cons, List.filterMap_nil, List.all_cons, List.all_nil, Bool.and_true, Bool.true_and, Bool.not_true, Bool.not_false, Bool.not_eq_true, Bool.false_eq_true, Bool.and_self, if_true, if_false, true_and, and_true, ↓reduceIte, eqD, neD, sh_int, eqv_int, eqv_strs, sDraw, List.length_cons, List.length_nil, Nat.zero_add, Nat.reduceAdd, decide_true, eq_self]
  refine ⟨by omega, by omega, ?_⟩
  rw [Int.toNat_natCast, rg_range]
  refine for_inv (G := fun i : Nat => PyData.int ((i : Nat) : Int)) (fun j ρ => ∃ M s4 s5 s6 s7, (Ways w M (2 ^ j) ∧ sumT w M (m - j) = cn w m) ∧ ρ = [.d (.list (w.map .int)), .d (.int m), .d (.list (ps.map prD)), .d (dkD (kvD M)), s4, s5, s6, s7])
    (fun j x hj ρ hρ E' hn hr _ _ => ?_) (fun ρ hρ => ?_) ⟨[(0, 1)], _, _, _, _, ⟨⟨by simp, fun k hk => by simp at hk; omega, by simp⟩, by simp [sumT]⟩, rfl⟩
  · obtain ⟨M, s4, s5, s6, s7, ⟨wy, sm⟩, rfl⟩ := hρ
    obtain ⟨jl, ex⟩ := List.getElem?_eq_some_iff.mp hj
    rw [List.length_range] at jl
    rw [List.getElem_range] at ex
    subst ex
    have p2 : 2 ^ j ≤ 2 ^ 8 := Nat.pow_le_pow_right (by decide) (by omega)
    have mf := wy.few
    obtain ⟨g, eg⟩ : ∃ g, m - j = g + 1 := ⟨m - j - 1, by omega⟩
    rw [eg] at sm
    have eg2 : m - (j + 1) = g := by omega
    simp only [gN, rows_s1b, Q.isDc, Q.sPar2K, Q.tDisp2, Q.tIxK, Q.sSetIxK, Q.tVd, Q.tGetK, Q.iKeysQ, Q.tDispK, Q.tVals, Q.tAddL, Q.sSetM, Q.sAl2, Q.tAlApp2, Q.sFrz2, Q.iZipM, Q.itZm, Q.tLcM, Q.addF, Q.isN, Q.mulF, Q.bandI, Q.iZip, Q.itZ, Q.slD, Q.enOf, Q.tV, Q.tK, Q.t2, Q.t1, Q.tB, Q.cI, Q.cIp, Q.subI, Q.fdivI, Q.fdivW, Q.modI, Q.ltI, Q.leI, Q.gtI, Q.geI, Q.negI, Q.vAnd, Q.vNot, Q.qAnd, Q.qOr, Q.qNot, Q.qIf, Q.chI, Q.tTupQ, Q.dNil, Q.dCons, Q.tLstQ, Q.tFz, Q.tCA, Q.lenD, Q.tupD, Q.isD, Q.isInt, Q.isBool, Q.isTup, Q.isStr, Q.tLenN, Q.tIxN, Q.setQ, Q.aNil, Q.aD, Q.aK, Q.tCallQ, Q.tCallKQ, Q.pick, Q.sNil, Q.sSeq, Q.sRet, Q.sExpr, Q.sIf, Q.sSet, Q.sSetL, Q.sAsg, Q.sFor, Q.sPar2, Q.sPar3, Q.pNil, Q.pD, Q.pO, Q.gN, Q.gT, Q.gsNil, Q.gsCons, Q.iQ, Q.itD, Q.iEn, Q.itE, Q.rg1, Q.oSome, Q.tSlQ, Q.revD, Q.tOwnM, Q.appC, Q.popC, Q.extC, Q.ownL, Q.tRepL, Q.repC, Q.sSetIx, Q.ixOwn, Q.tLcQ, Q.noOwn, Q.rstQ, Q.wipeQ, Q.sDn, Q.sSetD, Q.tDgetN, Q.dOwn, Q.sNever, Q.isB, Q.listD, Q.listC, Q.reprD, Q.Sl.isOwn, Q.sAugIx, Q.setQ, Q.tLcM, Q.augC, Q.keyD, Q.rg3, List.map_cons, List.map_nil, List.replicate_succ, List.replicate_zero, List.cons_append, List.nil_append, List.append_nil, List.getElem?_cons_zero, List.getElem?_cons_succ, List.set_cons_zero, List.set_cons_succ, List.getD_cons_zero, List.getD_cons_succ, List.filterMap_cons, List.filterMap_nil, List.all_cons, List.all_nil, Bool.and_true, Bool.true_and, Bool.not_true, Bool.not_false, Bool.not_eq_true, Bool.false_eq_true, Bool.and_self, if_true, if_false, true_and, and_true, ↓reduceIte, eqD, neD, sh_int, eqv_int, eqv_strs, sDraw, List.length_cons, List.length_nil, Nat.zero_add, Nat.reduceAdd, decide_true, eq_self]
    show sSeq _ rows_s1b_s2 _ _
    simp only [Q.isDc, Q.sPar2K, Q.tDisp2, Q.tIxK, Q.sSetIxK, Q.tVd, Q.tGetK, Q.iKeysQ, Q.tDispK, Q.tVals, Q.tAddL, Q.sSetM, Q.sAl2, Q.tAlApp2, Q.sFrz2, Q.iZipM, Q.itZm, Q.tLcM, Q.addF, Q.isN, Q.mulF, Q.bandI, Q.iZip, Q.itZ, Q.slD, Q.enOf, Q.tV, Q.tK, Q.t2, Q.t1, Q.tB, Q.cI, Q.cIp, Q.subI, Q.fdivI, Q.fdivW, Q.modI, Q.ltI, Q.leI, Q.gtI, Q.geI, Q.negI, Q.vAnd, Q.vNot, Q.qAnd, Q.qOr, Q.qNot, Q.qIf, Q.chI, Q.tTupQ, Q.dNil, Q.dCons, Q.tLstQ, Q.tFz, Q.tCA, Q.lenD, Q.tupD, Q.isD, Q.isInt, Q.isBool, Q.isTup, Q.isStr, Q.tLenN, Q.tIxN, Q.setQ, Q.aNil, Q.aD, Q.aK, Q.tCallQ, Q.tCallKQ, Q.pick, Q.sNil, Q.sSeq, Q.sRet, Q.sExpr, Q.sIf, Q.sSet, Q.sSetL, Q.sAsg, Q.sFor, Q.sPar2, Q.sPar3, Q.pNil, Q.pD, Q.pO, Q.gN, Q.gT, Q.gsNil, Q.gsCons, Q.iQ, Q.itD, Q.iEn, Q.itE, Q.rg1, Q.oSome, Q.tSlQ, Q.revD, Q.tOwnM, Q.appC, Q.popC, Q.extC, Q.ownL, Q.tRepL, Q.repC, Q.sSetIx, Q.ixOwn, Q.tLcQ, Q.noOwn, Q.rstQ, Q.wipeQ, Q.sDn, Q.sSetD, Q.tDgetN, Q.dOwn, Q.sNever, Q.isB, Q.listD, Q.listC, Q.reprD, Q.Sl.isOwn, Q.sAugIx, Q.setQ, Q.tLcM, Q.augC, Q.keyD, Q.rg3, List.map_cons, List.map_nil, List.replicate_succ, List.replicate_zero, List.cons_append, List.nil_append, List.append_nil, List.getElem?_cons_zero, List.getElem?_cons_succ, List.set_cons_zero, List.set_cons_succ, List.getD_cons_zero, List.getD_cons_succ, List.filterMap_cons, List.filterMap_nil, List.all_cons, List.all_nil, Bool.and_true, Bool.true_and, Bool.not_true, Bool.not_false, Bool.not_eq_true, Bool.false_eq_true, Bool.and_self, if_true, if_false, true_and, and_true, ↓reduceIte, eqD, neD, sh_int, eqv_int, eqv_strs, sDraw, List.length_cons, List.length_nil, Nat.zero_add, Nat.reduceAdd, decide_true, eq_self]
    refine ⟨kvD M, rfl, by unfold kvD; rw [List.length_map]; omega, ?_⟩
    have ek : (kvD M).map (fun p => keyD' p.1) = M.map fun p => PyData.int (p.1 : Int) := by unfold kvD; rw [List.map_map]; rfl
    rw [ek]
    refine for_inv (G := fun p : Nat × Int => PyData.int (p.1 : Int)) (fun i ρ => ∃ N s6 s7, (Ways w N (2 * i) ∧ sumT w N g = sumT w (M.take i) (g + 1)) ∧ ρ = [.d (.list (w.map .int)), .d (.int m), .d (.list (ps.map prD)), .d (dkD (kvD M)), .d (.int (j : Nat)), .owd (kvD N), s6, s7])
      (fun i p hi ρ hρ E2 hn2 hr2 _ _ => ?_) (fun ρ hρ => ?_) ⟨[], _, _, ⟨⟨by simp, fun k hk => by simp at hk, by simp⟩, by simp [sumT]⟩, rfl⟩
    · obtain ⟨N, s6, s7, ⟨wn, sn⟩, rfl⟩ := hρ
      obtain ⟨il, ep⟩ := List.getElem?_eq_some_iff.mp hi
      have pm : p ∈ M := by rw [← ep]; exact List.getElem_mem il
      have pk := wy.le p.1 (List.mem_map.mpr ⟨p, pm, rfl⟩)
      obtain ⟨q, hq, nq⟩ := hps.2 p.1 pk
      have vp := val_mem pm wy.nd
      simp only [gN, rows_s1b_s1b, Q.isDc, Q.sPar2K, Q.tDisp2, Q.tIxK, Q.sSetIxK, Q.tVd, Q.tGetK, Q.iKeysQ, Q.tDispK, Q.tVals, Q.tAddL, Q.sSetM, Q.sAl2, Q.tAlApp2, Q.sFrz2, Q.iZipM, Q.itZm, Q.tLcM, Q.addF, Q.isN, Q.mulF, Q.bandI, Q.iZip, Q.itZ, Q.slD, Q.enOf, Q.tV, Q.tK, Q.t2, Q.t1, Q.tB, Q.cI, Q.cIp, Q.subI, Q.fdivI, Q.fdivW, Q.modI, Q.ltI, Q.leI, Q.gtI, Q.geI, Q.negI, Q.vAnd, Q.vNot, Q.qAnd, Q.qOr, Q.qNot, Q.qIf, Q.chI, Q.tTupQ, Q.dNil, Q.dCons, Q.tLstQ, Q.tFz, Q.tCA, Q.lenD, Q.tupD, Q.isD, Q.isInt, Q.isBool, Q.isTup, Q.isStr, Q.tLenN, Q.tIxN, Q.setQ, Q.aNil, Q.aD, Q.aK, Q.tCallQ, Q.tCallKQ, Q.pick, Q.sNil, Q.sSeq, Q.sRet, Q.sExpr, Q.sIf, Q.sSet, Q.sSetL, Q.sAsg, Q.sFor, Q.sPar2, Q.sPar3, Q.pNil, Q.pD, Q.pO, Q.gN, Q.gT, Q.gsNil, Q.gsCons, Q.iQ, Q.itD, Q.iEn, Q.itE, Q.rg1, Q.oSome, Q.tSlQ, Q.revD, Q.tOwnM, Q.appC, Q.popC, Q.extC, Q.ownL, Q.tRepL, Q.repC, Q.sSetIx, Q.ixOwn, Q.tLcQ, Q.noOwn, Q.rstQ, Q.wipeQ, Q.sDn, Q.sSetD, Q.tDgetN, Q.dOwn, Q.sNever, Q.isB, Q.listD, Q.listC, Q.reprD, Q.Sl.isOwn, Q.sAugIx, Q.setQ, Q.tLcM, Q.augC, Q.keyD, Q.rg3, List.map_cons, List.map_nil, List.replicate_succ, List.replicate_zero, List.cons_append, List.nil_append, List.append_nil, List.getElem?_cons_zero, List.getElem?_cons_succ, List.set_cons_zero, List.set_cons_succ, List.getD_cons_zero, List.getD_cons_succ, List.filterMap_cons, List.filterMap_nil, List.all_cons, List.all_nil, Bool.and_true, Bool.true_and, Bool.not_true, Bool.not_false, Bool.not_eq_true, Bool.false_eq_true, Bool.and_self, if_true, if_false, true_and, and_true, ↓reduceIte, eqD, neD, sh_int, eqv_int, eqv_strs, sDraw, List.length_cons, List.length_nil, Nat.zero_add, Nat.reduceAdd, decide_true, eq_self, ixD]
      refine ⟨prD q, atI_nat (by rw [List.getElem?_map, hq]; rfl), ?_⟩
      simp only [prD, Q.isDc, Q.sPar2K, Q.tDisp2, Q.tIxK, Q.sSetIxK, Q.tVd, Q.tGetK, Q.iKeysQ, Q.tDispK, Q.tVals, Q.tAddL, Q.sSetM, Q.sAl2, Q.tAlApp2, Q.sFrz2, Q.iZipM, Q.itZm, Q.tLcM, Q.addF, Q.isN, Q.mulF, Q.bandI, Q.iZip, Q.itZ, Q.slD, Q.enOf, Q.tV, Q.tK, Q.t2, Q.t1, Q.tB, Q.cI, Q.cIp, Q.subI, Q.fdivI, Q.fdivW, Q.modI, Q.ltI, Q.leI, Q.gtI, Q.geI, Q.negI, Q.vAnd, Q.vNot, Q.qAnd, Q.qOr, Q.qNot, Q.qIf, Q.chI, Q.tTupQ, Q.dNil, Q.dCons, Q.tLstQ, Q.tFz, Q.tCA, Q.lenD, Q.tupD, Q.isD, Q.isInt, Q.isBool, Q.isTup, Q.isStr, Q.tLenN, Q.tIxN, Q.setQ, Q.aNil, Q.aD, Q.aK, Q.tCallQ, Q.tCallKQ, Q.pick, Q.sNil, Q.sSeq, Q.sRet, Q.sExpr, Q.sIf, Q.sSet, Q.sSetL, Q.sAsg, Q.sFor, Q.sPar2, Q.sPar3, Q.pNil, Q.pD, Q.pO, Q.gN, Q.gT, Q.gsNil, Q.gsCons, Q.iQ, Q.itD, Q.iEn, Q.itE, Q.rg1, Q.oSome, Q.tSlQ, Q.revD, Q.tOwnM, Q.appC, Q.popC, Q.extC, Q.ownL, Q.tRepL, Q.repC, Q.sSetIx, Q.ixOwn, Q.tLcQ, Q.noOwn, Q.rstQ, Q.wipeQ, Q.sDn, Q.sSetD, Q.tDgetN, Q.dOwn, Q.sNever, Q.isB, Q.listD, Q.listC, Q.reprD, Q.Sl.isOwn, Q.sAugIx, Q.setQ, Q.tLcM, Q.augC, Q.keyD, Q.rg3, List.map_cons, List.map_nil, List.replicate_succ, List.replicate_zero, List.cons_append, List.nil_append, List.append_nil, List.getElem?_cons_zero, List.getElem?_cons_succ, List.set_cons_zero, List.set_cons_succ, List.getD_cons_zero, List.getD_cons_succ, List.filterMap_cons, List.filterMap_nil, List.all_cons, List.all_nil, Bool.and_true, Bool.true_and, Bool.not_true, Bool.not_false, Bool.not_eq_true, Bool.false_eq_true, Bool.and_self, if_true, if_false, true_and, and_true, ↓reduceIte, eqD, neD, sh_int, eqv_int, eqv_strs, sDraw, List.length_cons, List.length_nil, Nat.zero_add, Nat.reduceAdd, decide_true, eq_self]
      have one : ∀ (a s : Int), IsAt w p.1 s a → ∀ (N : List (Nat × Int)) (n : Nat), Ways w N n → n ≤ 1000 → ∀ (s7 : Sl) (E3 : EndsQ), (∀ s7, E3.nx [.d (.list (w.map .int)), .d (.int m), .d (.list (ps.map prD)), .d (dkD (kvD M)), .d (.int (j : Nat)), .owd (kvD (stepN N a p.2)), .d (.int (p.1 : Int)), s7]) →
          rows_s1b_s1b_s0b E3 [.d (.list (w.map .int)), .d (.int m), .d (.list (ps.map prD)), .d (dkD (kvD M)), .d (.int (j : Nat)), .owd (kvD N), .d (.int (p.1 : Int)), .d (.int a)] := fun a s ha N n wN hn1 s7 E3 h3 => by
        simp only [rows_s1b_s1b_s0b, Q.tDgetD, Q.ownedD, Q.keyD, Q.isDc, Q.sPar2K, Q.tDisp2, Q.tIxK, Q.sSetIxK, Q.tVd, Q.tGetK, Q.iKeysQ, Q.tDispK, Q.tVals, Q.tAddL, Q.sSetM, Q.sAl2, Q.tAlApp2, Q.sFrz2, Q.iZipM, Q.itZm, Q.tLcM, Q.addF, Q.isN, Q.mulF, Q.bandI, Q.iZip, Q.itZ, Q.slD, Q.enOf, Q.tV, Q.tK, Q.t2, Q.t1, Q.tB, Q.cI, Q.cIp, Q.subI, Q.fdivI, Q.fdivW, Q.modI, Q.ltI, Q.leI, Q.gtI, Q.geI, Q.negI, Q.vAnd, Q.vNot, Q.qAnd, Q.qOr, Q.qNot, Q.qIf, Q.chI, Q.tTupQ, Q.dNil, Q.dCons, Q.tLstQ, Q.tFz, Q.tCA, Q.lenD, Q.tupD, Q.isD, Q.isInt, Q.isBool, Q.isTup, Q.isStr, Q.tLenN, Q.tIxN, Q.setQ, Q.aNil, Q.aD, Q.aK, Q.tCallQ, Q.tCallKQ, Q.pick, Q.sNil, Q.sSeq, Q.sRet, Q.sExpr, Q.sIf, Q.sSet, Q.sSetL, Q.sAsg, Q.sFor, Q.sPar2, Q.sPar3, Q.pNil, Q.pD, Q.pO, Q.gN, Q.gT, Q.gsNil, Q.gsCons, Q.iQ, Q.itD, Q.iEn, Q.itE, Q.rg1, Q.oSome, Q.tSlQ, Q.revD, Q.tOwnM, Q.appC, Q.popC, Q.extC, Q.ownL, Q.tRepL, Q.repC, Q.sSetIx, Q.ixOwn, Q.tLcQ, Q.noOwn, Q.rstQ, Q.wipeQ, Q.sDn, Q.sSetD, Q.tDgetN, Q.dOwn, Q.sNever, Q.isB, Q.listD, Q.listC, Q.reprD, Q.Sl.isOwn, Q.sAugIx, Q.setQ, Q.tLcM, Q.augC, Q.keyD, Q.rg3, List.map_cons, List.map_nil, List.replicate_succ, List.replicate_zero, List.cons_append, List.nil_append, List.append_nil, List.getElem?_cons_zero, List.getElem?_cons_succ, List.set_cons_zero, List.set_cons_succ, List.getD_cons_zero, List.getD_cons_succ, List.filterMap_cons, List.filterMap_nil, List.all_cons, List.all_nil, Bool.and_true, Bool.true_and, Bool.not_true, Bool.not_false, Bool.not_eq_true, Bool.false_eq_true, Bool.and_self, if_true, if_false, true_and, and_true, ↓reduceIte, eqD, neD, sh_int, eqv_int, eqv_strs, sDraw, List.length_cons, List.length_nil, Nat.zero_add, Nat.reduceAdd, decide_true, eq_self]
        by_cases c : 0 ≤ a
        · rw [decide_eq_true c, if_pos rfl]
          obtain ⟨b, eb⟩ : ∃ b : Nat, a = (b : Int) := ⟨a.toNat, by omega⟩
          subst eb
          refine ⟨kvD M, rfl, .inl (p.1 : Int), .int p.2, rfl, vp, ?_⟩
          have ek2 : (Sum.inl ((b : Int) + 1) : Key) = .inl (((b + 1 : Nat) : Int)) := by congr 1
          rw [ek2, val_kv]
          dsimp only
          rw [put_kv wN.nd]
          refine ⟨by unfold kvD; rw [List.length_map]; have := wN.few; omega, ?_⟩
          have := h3 (.d (.int (b : Int)))
          unfold stepN at this
          rw [if_pos c, Int.toNat_natCast] at this
          exact this
        · rw [decide_eq_false c, if_neg (by decide)]
          have := h3 (.d (.int a))
          unfold stepN at this
          rw [if_neg c] at this
          exact this
      have h1 : 2 * i ≤ 1000 := by omega
      refine for_inv (G := PyData.int) (l := [q.1, q.2]) (fun t ρ => ∃ s7, ρ = [.d (.list (w.map .int)), .d (.int m), .d (.list (ps.map prD)), .d (dkD (kvD M)), .d (.int (j : Nat)), .owd (kvD (if t = 0 then N else if t = 1 then stepN N q.1 p.2 else stepN (stepN N q.1 p.2) q.2 p.2)), .d (.int (p.1 : Int)), s7])
        (fun t a ht ρ hρ E3 hn3 hr3 _ _ => ?_) (fun ρ hρ => ?_) ⟨_, by rfl⟩
      · obtain ⟨s7, rfl⟩ := hρ
        have t2 : t = 0 ∨ t = 1 := by
          have := (List.getElem?_eq_some_iff.mp ht).1
          simp at this; omega
        rcases t2 with rfl | rfl
        · cases ht
          exact one q.1 1 nq.pl N _ wn h1 .un E3 fun s7 => hn3 _ ⟨s7, rfl⟩
        · cases ht
          exact one q.2 (-1) nq.mi _ _ (wn.step nq.pl p.2) (by omega) .un E3 fun s7 => hn3 _ ⟨s7, rfl⟩
      · obtain ⟨s7, rfl⟩ := hρ
        refine hn2 _ ⟨_, _, _, ⟨?_, ?_⟩, rfl⟩
        · have := (wn.step nq.pl p.2).step nq.mi p.2
          rwa [show 2 * i + 1 + 1 = 2 * (i + 1) by omega] at this
        · show sumT w (stepN (stepN N q.1 p.2) q.2 p.2) g = _
          rw [sumT_step nq.mi, sumT_step nq.pl, sn, List.take_succ_eq_append_getElem il, ep]
          have e1 : sumT w (M.take i ++ [p]) (g + 1) = sumT w (M.take i) (g + 1) + p.2 * cn (w.drop p.1) (g + 1) := by simp [sumT]
          have e2 : cn (w.drop p.1) (g + 1) = (cC (w.drop p.1) 1 g : Int) + (cC (w.drop p.1) (-1) g : Int) := by
            unfold cn
            rw [cnt_front]; omega
          rw [e1, e2, Int.mul_add]; omega
    · obtain ⟨N, s6, s7, ⟨wn, sn⟩, rfl⟩ := hρ
      rw [List.take_length] at sn
      simp only [rows_s1b_s2, tVd, Q.isDc, Q.sPar2K, Q.tDisp2, Q.tIxK, Q.sSetIxK, Q.tVd, Q.tGetK, Q.iKeysQ, Q.tDispK, Q.tVals, Q.tAddL, Q.sSetM, Q.sAl2, Q.tAlApp2, Q.sFrz2, Q.iZipM, Q.itZm, Q.tLcM, Q.addF, Q.isN, Q.mulF, Q.bandI, Q.iZip, Q.itZ, Q.slD, Q.enOf, Q.tV, Q.tK, Q.t2, Q.t1, Q.tB, Q.cI, Q.cIp, Q.subI, Q.fdivI, Q.fdivW, Q.modI, Q.ltI, Q.leI, Q.gtI, Q.geI, Q.negI, Q.vAnd, Q.vNot, Q.qAnd, Q.qOr, Q.qNot, Q.qIf, Q.chI, Q.tTupQ, Q.dNil, Q.dCons, Q.tLstQ, Q.tFz, Q.tCA, Q.lenD, Q.tupD, Q.isD, Q.isInt, Q.isBool, Q.isTup, Q.isStr, Q.tLenN, Q.tIxN, Q.setQ, Q.aNil, Q.aD, Q.aK, Q.tCallQ, Q.tCallKQ, Q.pick, Q.sNil, Q.sSeq, Q.sRet, Q.sExpr, Q.sIf, Q.sSet, Q.sSetL, Q.sAsg, Q.sFor, Q.sPar2, Q.sPar3, Q.pNil, Q.pD, Q.pO, Q.gN, Q.gT, Q.gsNil, Q.gsCons, Q.iQ, Q.itD, Q.iEn, Q.itE, Q.rg1, Q.oSome, Q.tSlQ, Q.revD, Q.tOwnM, Q.appC, Q.popC, Q.extC, Q.ownL, Q.tRepL, Q.repC, Q.sSetIx, Q.ixOwn, Q.tLcQ, Q.noOwn, Q.rstQ, Q.wipeQ, Q.sDn, Q.sSetD, Q.tDgetN, Q.dOwn, Q.sNever, Q.isB, Q.listD, Q.listC, Q.reprD, Q.Sl.isOwn, Q.sAugIx, Q.setQ, Q.tLcM, Q.augC, Q.keyD, Q.rg3, List.map_cons, List.map_nil, List.replicate_succ, List.replicate_zero, List.cons_append, List.nil_append, List.append_nil, List.getElem?_cons_zero, List.getElem?_cons_succ, List.set_cons_zero, List.set_cons_succ, List.getD_cons_zero, List.getD_cons_succ, List.filterMap_cons, List.filterMap_nil, List.all_cons, List.all_nil, Bool.and_true, Bool.true_and, Bool.not_true, Bool.not_false, Bool.not_eq_true, Bool.false_eq_true, Bool.and_self, if_true, if_false, true_and, and_true, ↓reduceIte, eqD, neD, sh_int, eqv_int, eqv_strs, sDraw, List.length_cons, List.length_nil, Nat.zero_add, Nat.reduceAdd, decide_true, eq_self]
      refine hn _ ⟨N, _, _, _, _, ⟨⟨wn.nd, wn.le, ?_⟩, ?_⟩, by rfl⟩
      · have := wn.few
        rw [Nat.pow_succ]; omega
      · rw [eg2, sn, sm]
  · obtain ⟨M, s4, s5, s6, s7, ⟨wy, sm⟩, rfl⟩ := hρ
    rw [List.length_range, Nat.sub_self] at sm
    simp only [rows_s2, Q.isDc, Q.sPar2K, Q.tDisp2, Q.tIxK, Q.sSetIxK, Q.tVd, Q.tGetK, Q.iKeysQ, Q.tDispK, Q.tVals, Q.tAddL, Q.sSetM, Q.sAl2, Q.tAlApp2, Q.sFrz2, Q.iZipM, Q.itZm, Q.tLcM, Q.addF, Q.isN, Q.mulF, Q.bandI, Q.iZip, Q.itZ, Q.slD, Q.enOf, Q.tV, Q.tK, Q.t2, Q.t1, Q.tB, Q.cI, Q.cIp, Q.subI, Q.fdivI, Q.fdivW, Q.modI, Q.ltI, Q.leI, Q.gtI, Q.geI, Q.negI, Q.vAnd, Q.vNot, Q.qAnd, Q.qOr, Q.qNot, Q.qIf, Q.chI, Q.tTupQ, Q.dNil, Q.dCons, Q.tLstQ, Q.tFz, Q.tCA, Q.lenD, Q.tupD, Q.isD, Q.isInt, Q.isBool, Q.isTup, Q.isStr, Q.tLenN, Q.tIxN, Q.setQ, Q.aNil, Q.aD, Q.aK, Q.tCallQ, Q.tCallKQ, Q.pick, Q.sNil, Q.sSeq, Q.sRet, Q.sExpr, Q.sIf, Q.sSet, Q.sSetL, Q.sAsg, Q.sFor, Q.sPar2, Q.sPar3, Q.pNil, Q.pD, Q.pO, Q.gN, Q.gT, Q.gsNil, Q.gsCons, Q.iQ, Q.itD, Q.iEn, Q.itE, Q.rg1, Q.oSome, Q.tSlQ, Q.revD, Q.tOwnM, Q.appC, Q.popC, Q.extC, Q.ownL, Q.tRepL, Q.repC, Q.sSetIx, Q.ixOwn, Q.tLcQ, Q.noOwn, Q.rstQ, Q.wipeQ, Q.sDn, Q.sSetD, Q.tDgetN, Q.dOwn, Q.sNever, Q.isB, Q.listD, Q.listC, Q.reprD, Q.Sl.isOwn, Q.sAugIx, Q.setQ, Q.tLcM, Q.augC, Q.keyD, Q.rg3, List.map_cons, List.map_nil, List.replicate_succ, List.replicate_zero, List.cons_append, List.nil_append, List.append_nil, List.getElem?_cons_zero, List.getElem?_cons_succ, List.set_cons_zero, List.set_cons_succ, List.getD_cons_zero, List.getD_cons_succ, List.filterMap_cons, List.filterMap_nil, List.all_cons, List.all_nil, Bool.and_true, Bool.true_and, Bool.not_true, Bool.not_false, Bool.not_eq_true, Bool.false_eq_true, Bool.and_self, if_true, if_false, true_and, and_true, ↓reduceIte, eqD, neD, sh_int, eqv_int, eqv_strs, sDraw, List.length_cons, List.length_nil, Nat.zero_add, Nat.reduceAdd, decide_true, eq_self]
    refine ⟨kvD M, rfl, M.map (·.2), ?_, ?_⟩
    · unfold kvD
      rw [List.map_map, List.map_map]; rfl
    · have e : sumT w M 0 = (M.map (·.2)).sum := by
        unfold sumT
        congr 1
        refine List.map_congr_left fun p _ => ?_
        unfold cn
        rw [cnt_zero]; simp
      rw [← e, sm]
      exact h
end T44
end P61
section P62
open PySem PySem.Spec PyProof.Rows L2 HT Q
namespace T44
theorem tn_big {i : Int} (h : i.natAbs.log2 < 40) : Tn 0 41 (.int i) := by
  refine ⟨by rw [PyData.showable]; exact decide_eq_true (by omega), by simp [PyData.canLay0], by simp [PyData.depth], ?_, ?_⟩
  · rw [PyData.shown, PySem.ofString_length]
    exact PySem.int_text_length_le (k := 40) (by decide) h
  · rw [PyData.shown]
    unfold PyData.strOk
    rw [Array.all_eq_true]
    intro k hk
    have := PySem.W.KSb.asc_num i (Str.ofString (toString i)).cps[k] (by simp)
    exact decide_eq_true (Nat.lt_of_lt_of_le this (by decide))
theorem tn_pos {i : Int} (h0 : -10 ≤ i) (h1 : i ≤ 2176782336) : Tn 0 41 (.int i) := tn_big (by
  have h : i.natAbs ≤ 2176782336 := by omega
  have h2 : i.natAbs < 2 ^ 40 := Nat.lt_of_le_of_lt h (by decide)
  by_cases z : i.natAbs = 0
  · rw [z]; decide
  · exact (Nat.log2_lt z).mpr h2)
def law_s1 : TQS := (sRet (tK (.bool true)))
def law_s0b_s8i_s2 : TQS := (sIf (tB (t2 neD (tCA reprD (dCons (tCallQ sp_folded_word (aD (t2 addF (tV 3) (tTupQ (dCons (tTupQ (dCons (tK (.str "tray")) (dCons (tK (.str "pile")) dNil))) dNil))) aNil)) dNil)) (tCA reprD (dCons (t2 addF (tV 5) (tV 12)) dNil)))) (sRet (tK (.bool false))) sNil)
def law_s0b_s8i_s1 : TQS := (sSeq (sIf (tB (t2 neD (tCA reprD (dCons (tCallQ sp_folded_word (aD (t2 addF (tV 3) (tTupQ (dCons (tTupQ (dCons (tK (.str "tray")) dNil)) dNil))) aNil)) dNil)) (tCA reprD (dCons (tV 5) dNil)))) (sRet (tK (.bool false))) sNil) law_s0b_s8i_s2)
def law_s0b_s8i : TQS := (sSeq (sSet 12 (tCA tupD (dCons (tFz (tLcQ (iQ (t1 revD (tV 5))) (gN 14) tY (t1 negI (tV 14)) [14])) dNil))) law_s0b_s8i_s1)
def law_s0b_s8 : TQS := (sIf (tB (t2 ltI (tLenN 3) (tK (.int 12)))) law_s0b_s8i sNil)
def law_s0b_s7i_s1 : TQS := (sIf (tB (t2 neD (tCA reprD (dCons (tCallQ sp_sign_rows (aD (tV 11) (aD (tV 9) aNil))) dNil)) (tCA reprD (dCons (tCallQ sp__law_rows (aD (tCallQ sp__law_short_word (aD (tV 11) aNil)) (aD (tV 9) aNil))) dNil)))) (sRet (tK (.bool false))) sNil)
def law_s0b_s7i : TQS := (sSeq (sPar2 11 9 (pD (t2 addF (tV 3) (tTupQ (dCons (tTupQ (dCons (tK (.str "tray")) (dCons (tK (.str "pile")) dNil))) dNil))) (pD (tCallQ sDraw (aK 1 (aD (tK (.int 9)) aNil))) pNil))) law_s0b_s7i_s1)
def law_s0b_s7 : TQS := (sSeq (sIf (qAnd (tB (t2 ltI (tLenN 3) (tK (.int 12)))) (tB (t2 gtI (tLenN 5) (tK (.int 500))))) law_s0b_s7i sNil) law_s0b_s8)
def law_s0b_s6b_s2 : TQS := (sIf (tB (t2 neD (tCA reprD (dCons (tV 10) dNil)) (tCA reprD (dCons (tCallQ sp__law_rows (aD (tCallQ sp__law_short_word (aD (tV 3) aNil)) (aD (tV 9) aNil))) dNil)))) (sRet (tK (.bool false))) sNil)
def law_s0b_s6b_s1 : TQS := (sSeq (sSet 10 (qIf (tB (t2 neD (tV 7) (tK (.int 1)))) (tCallQ sp_sign_rows (aD (tV 3) (aD (tV 9) aNil))) (tCallKQ sp_sign_rows [1, 0] aNil (aD (tV 9) (aD (tV 3) aNil))))) law_s0b_s6b_s2)
def law_s0b_s6b : TQS := (sSeq (sSet 9 (tCallQ sDraw (aK 1 (aD (tK (.int 9)) aNil)))) law_s0b_s6b_s1)
def law_s0b_s6 : TQS := (sSeq (sFor (rg1 (tK (.int 3))) (gN 7) law_s0b_s6b) law_s0b_s7)
def law_s0b_s5b_s2 : TQS := (sIf (qAnd (tB (t2 gtI (tV 8) (tK (.int 0)))) (tB (t2 (isB true) (tCallQ sp_is_ahead (aD (tV 3) (aD (tIxN 4 (t2 subI (tV 8) (tK (.int 1)))) (aD (tIxN 4 (tV 8)) aNil)))) (tK (.bool true))))) (sRet (tK (.bool false))) sNil)
def law_s0b_s5b_s1 : TQS := (sSeq (sIf (qOr (tB (t2 neD (tCA reprD (dCons (tCallQ sp_code_at (aD (tV 3) (aD (tV 8) aNil))) dNil)) (tCA reprD (dCons (tIxN 4 (tV 8)) dNil)))) (tB (t2 neD (tCA reprD (dCons (tCallQ sp_sign_of (aD (tV 3) (aD (tIxN 4 (tV 8)) aNil))) dNil)) (tCA reprD (dCons (tIxN 5 (tV 8)) dNil))))) (sRet (tK (.bool false))) sNil) law_s0b_s5b_s2)
def law_s0b_s5b : TQS := (sSeq (sSet 8 (tCallQ sDraw (aK 1 (aD (tLenN 4) aNil)))) law_s0b_s5b_s1)
def law_s0b_s5 : TQS := (sSeq (sFor (rg1 (tK (.int 5))) (gN 7) law_s0b_s5b) law_s0b_s6)
def law_s0b_s4 : TQS := (sSeq (sIf (qOr (tB (t2 neD (tCA reprD (dCons (tV 6) dNil)) (tCA reprD (dCons (tV 5) dNil)))) (tB (t2 neD (tCA reprD (dCons (tCallQ sp_codes_number (aD (tV 3) aNil)) dNil)) (tCA reprD (dCons (tLenN 5) dNil))))) (sRet (tK (.bool false))) sNil) law_s0b_s5)
def law_s0b_s3 : TQS := (sSeq (sSet 6 (qIf (tB (t2 eqD (tCallQ sDraw (aK 1 (aD (tK (.int 2)) aNil))) (tK (.int 0)))) (tCallQ sp_folded_word (aD (tV 3) aNil)) (tCallKQ sp_folded_word [0] aNil (aD (tV 3) aNil)))) law_s0b_s4)
def law_s0b_s2 : TQS := (sSeq (sSet 5 (tCA tupD (dCons (tFz (tLcQ (iQ (tV 4)) (gN 13) tY (tCallQ sp__law_sign (aD (tV 3) (aD (tV 13) aNil))) [13])) dNil))) law_s0b_s3)
def law_s0b_s1 : TQS := (sSeq (sSet 4 (tCallQ sp__law_codes (aD (tV 3) aNil))) law_s0b_s2)
def law_s0b : TQS := (sSeq (sSet 3 (tCallQ sp__law_desks (aK 1 (aD (tK (.int 12)) (aD (tCallQ sp__law_pick (aK 1 (aD (tFz (tLstQ (dCons (tK (.int 120)) (dCons (tK (.int 24)) (dCons (tK (.int 8)) (dCons (tK (.int 60)) (dCons (tK (.int 120)) (dCons (tK (.int 2)) (dCons (tK (.int 24)) (dCons (tK (.int 400)) (dCons (tK (.int 12)) (dCons (tK (.int 60)) (dCons (tK (.int 24)) (dCons (tK (.int 1000)) dNil)))))))))))))) aNil))) aNil))))) law_s0b_s1)
theorem tn_wd {w : List Int} (hw : ∀ x, x ∈ w → Pm x) (hl : w.length ≤ 2000) : Tn 1 12003 (tupI w) := tn_ints (n := 2000) (fun i hi => by rcases hw i hi with rfl | rfl <;> decide) hl
theorem rows_same {ds : List Desk} {m : Nat} (h : m ≤ 8) : cn (shortW ds.reverse) m = cn (fullW ds.reverse) m := by
  unfold cn
  rw [cnt_sim (short_full ds.reverse) h]
theorem cn_bd (w : List Int) {m : Nat} (h : m ≤ 8) : -1000 < cn w m ∧ cn w m < 1000 := by
  have := cnt_le w m
  have p : 2 ^ m ≤ 2 ^ 8 := Nat.pow_le_pow_right (by decide) h
  unfold cn
  omega
structure Cds (ds : List Desk) (S : Nat) : Prop where
  S_eq : many ds = (S : Int)
  cd : cdF ds.reverse = (List.range S).map fun n => codeAt ds (n : Nat)
  fw : fullW ds.reverse = (List.range S).map fun n => wR ds.reverse (n : Nat)
theorem cds_of {ds : List Desk} (h : DsOk ds) : ∃ S, Cds ds S := by
  obtain ⟨S, hS, e⟩ := cdF_eq h.rev
  obtain ⟨S2, hS2, e2⟩ := full_wd ds.reverse h.rev
  have : S2 = S := by omega
  subst this
  refine ⟨S2, hS.symm, e, ?_⟩
  rw [e2]
  unfold wd
  exact List.map_congr_left fun i _ => by rw [Int.zero_add]
theorem dk_more {ds : List Desk} (h : T44.Dk ds) (hl : ds.length < 12) {d : Desk} (d1 : 1 ≤ d.length) (d6 : d.length ≤ 6) : T44.Dk (ds ++ [d]) := ⟨fun x hx => by
  rcases List.mem_append.mp hx with hx | hx
  · exact h.ok x hx
  · rw [List.mem_singleton] at hx; subst hx; exact ⟨d1, d6⟩, by rw [List.length_append]; simp; omega⟩
theorem rev_app (ds : List Desk) (d : Desk) : (ds ++ [d]).reverse = d :: ds.reverse := by simp
theorem rd_law : t_law sp__law_desks sp__law_pick sp__law_codes sp__law_sign sDraw sp_folded_word sp_codes_number sp_code_at sp_sign_of sp_is_ahead sp_sign_rows sp__law_rows sp__law_short_word { nx := fun _ => False, rt := fun y => y = .bool true } (.un :: .dk :: List.replicate 13 .un) := by
  show sSeq (sFor _ _ law_s0b) law_s1 _ _
  simp only [Q.isDc, Q.sPar2K, Q.tDisp2, Q.tIxK, Q.sSetIxK, Q.tVd, Q.tGetK, Q.iKeysQ, Q.tDispK, Q.tVals, Q.tAddL, Q.sSetM, Q.sAl2, Q.tAlApp2, Q.sFrz2, Q.iZipM, Q.itZm, Q.tLcM, Q.addF, Q.isN, Q.mulF, Q.bandI, Q.iZip, Q.itZ, Q.slD, Q.enOf, Q.tV, Q.tK, Q.t2, Q.t1, Q.tB, Q.cI, Q.cIp, Q.subI, Q.fdivI, Q.fdivW, Q.modI, Q.ltI, Q.leI, Q.gtI, Q.geI, Q.negI, Q.vAnd, Q.vNot, Q.qAnd, Q.qOr, Q.qNot, Q.qIf, Q.chI, Q.tTupQ, Q.dNil, Q.dCons, Q.tLstQ, Q.tFz, Q.tCA, Q.lenD, Q.tupD, Q.isD, Q.isInt, Q.isBool, Q.isTup, Q.isStr, Q.tLenN, Q.tIxN, Q.setQ, Q.aNil, Q.aD, Q.aK, Q.tCallQ, Q.tCallKQ, Q.pick, Q.sNil, Q.sSeq, Q.sRet, Q.sExpr, Q.sIf, Q.sSet, Q.sSetL, Q.sAsg, Q.sFor, Q.sPar2, Q.sPar3, Q.pNil, Q.pD, Q.pO, Q.gN, Q.gT, Q.gsNil, Q.gsCons, Q.iQ, Q.itD, Q.iEn, Q.itE, Q.rg1, Q.oSome, Q.tSlQ, Q.revD, Q.tOwnM, Q.appC, Q.popC, Q.extC, Q.ownL, Q.tRepL, Q.repC, Q.sSetIx, Q.ixOwn, Q.tLcQ, Q.noOwn, Q.rstQ, Q.wipeQ, Q.sDn, Q.sSetD, Q.tDgetN, Q.dOwn, Q.sNever, Q.isB, Q.listD, Q.listC, Q.reprD, Q.Sl.isOwn, Q.sAugIx, Q.setQ, Q.tLcM, Q.augC, Q.keyD, Q.rg3, List.map_cons, List.map_nil, List.replicate_succ, List.replicate_zero, List.cons_append, List.nil_append, List.append_nil, List.getElem?_cons_zero, List.getElem?_cons_succ, List.set_cons_zero, List.set_cons_succ, List.getD_cons_zero, List.getD_cons_succ, List.filterMap_cons, List.filterMap_nil, List.all_cons, List.all_nil, Bool.and_true, Bool.true_and, Bool.not_true, Bool.not_false, Bool.not_eq_true, Bool.false_eq_true, Bool.and_self, if_true, if_false, true_and, and_true, ↓reduceIte, eqD, neD, sh_int, eqv_int, eqv_strs, sDraw, List.length_cons, List.length_nil, Nat.zero_add, Nat.reduceAdd, decide_true, eq_self]
  refine ⟨by decide, by decide, ?_⟩
  refine for_inv (G := fun i : Nat => PyData.int ((0 : Int) + (i : Int))) (fun _ ρ => ∃ s2 s3 s4 s5 s6 s7 s8 s9 s10 s11 s12, ρ = [.un, .dk, s2, s3, s4, s5, s6, s7, s8, s9, s10, s11, s12, .un, .un]) (fun j x hj ρ hρ E' hn hr _ _ => ?_) (fun ρ hρ => ?_) ⟨_, _, _, _, _, _, _, _, _, _, _, rfl⟩
  · obtain ⟨s2, s3, s4, s5, s6, s7, s8, s9, s10, s11, s12, rfl⟩ := hρ
    simp only [gN, Q.isDc, Q.sPar2K, Q.tDisp2, Q.tIxK, Q.sSetIxK, Q.tVd, Q.tGetK, Q.iKeysQ, Q.tDispK, Q.tVals, Q.tAddL, Q.sSetM, Q.sAl2, Q.tAlApp2, Q.sFrz2, Q.iZipM, Q.itZm, Q.tLcM, Q.addF, Q.isN, Q.mulF, Q.bandI, Q.iZip, Q.itZ, Q.slD, Q.enOf, Q.tV, Q.tK, Q.t2, Q.t1, Q.tB, Q.cI, Q.cIp, Q.subI, Q.fdivI, Q.fdivW, Q.modI, Q.ltI, Q.leI, Q.gtI, Q.geI, Q.negI, Q.vAnd, Q.vNot, Q.qAnd, Q.qOr, Q.qNot, Q.qIf, Q.chI, Q.tTupQ, Q.dNil, Q.dCons, Q.tLstQ, Q.tFz, Q.tCA, Q.lenD, Q.tupD, Q.isD, Q.isInt, Q.isBool, Q.isTup, Q.isStr, Q.tLenN, Q.tIxN, Q.setQ, Q.aNil, Q.aD, Q.aK, Q.tCallQ, Q.tCallKQ, Q.pick, Q.sNil, Q.sSeq, Q.sRet, Q.sExpr, Q.sIf, Q.sSet, Q.sSetL, Q.sAsg, Q.sFor, Q.sPar2, Q.sPar3, Q.pNil, Q.pD, Q.pO, Q.gN, Q.gT, Q.gsNil, Q.gsCons, Q.iQ, Q.itD, Q.iEn, Q.itE, Q.rg1, Q.oSome, Q.tSlQ, Q.revD, Q.tOwnM, Q.appC, Q.popC, Q.extC, Q.ownL, Q.tRepL, Q.repC, Q.sSetIx, Q.ixOwn, Q.tLcQ, Q.noOwn, Q.rstQ, Q.wipeQ, Q.sDn, Q.sSetD, Q.tDgetN, Q.dOwn, Q.sNever, Q.isB, Q.listD, Q.listC, Q.reprD, Q.Sl.isOwn, Q.sAugIx, Q.setQ, Q.tLcM, Q.augC, Q.keyD, Q.rg3, List.map_cons, List.map_nil, List.replicate_succ, List.replicate_zero, List.cons_append, List.nil_append, List.append_nil, List.getElem?_cons_zero, List.getElem?_cons_succ, List.set_cons_zero, List.set_cons_succ, List.getD_cons_zero, List.getD_cons_succ, List.filterMap_cons, List.filterMap_nil, List.all_cons, List.all_nil, Bool.and_true, Bool.true_and, Bool.not_true, Bool.not_false, Bool.not_eq_true, Bool.false_eq_true, Bool.and_self, if_true, if_false, true_and, and_true, ↓reduceIte, eqD, neD, sh_int, eqv_int, eqv_strs, sDraw, List.length_cons, List.length_nil, Nat.zero_add, Nat.reduceAdd, decide_true, eq_self]
    show sSeq _ law_s0b_s1 _ _
    simp only [Q.isDc, Q.sPar2K, Q.tDisp2, Q.tIxK, Q.sSetIxK, Q.tVd, Q.tGetK, Q.iKeysQ, Q.tDispK, Q.tVals, Q.tAddL, Q.sSetM, Q.sAl2, Q.tAlApp2, Q.sFrz2, Q.iZipM, Q.itZm, Q.tLcM, Q.addF, Q.isN, Q.mulF, Q.bandI, Q.iZip, Q.itZ, Q.slD, Q.enOf, Q.tV, Q.tK, Q.t2, Q.t1, Q.tB, Q.cI, Q.cIp, Q.subI, Q.fdivI, Q.fdivW, Q.modI, Q.ltI, Q.leI, Q.gtI, Q.geI, Q.negI, Q.vAnd, Q.vNot, Q.qAnd, Q.qOr, Q.qNot, Q.qIf, Q.chI, Q.tTupQ, Q.dNil, Q.dCons, Q.tLstQ, Q.tFz, Q.tCA, Q.lenD, Q.tupD, Q.isD, Q.isInt, Q.isBool, Q.isTup, Q.isStr, Q.tLenN, Q.tIxN, Q.setQ, Q.aNil, Q.aD, Q.aK, Q.tCallQ, Q.tCallKQ, Q.pick, Q.sNil, Q.sSeq, Q.sRet, Q.sExpr, Q.sIf, Q.sSet, Q.sSetL, Q.sAsg, Q.sFor, Q.sPar2, Q.sPar3, Q.pNil, Q.pD, Q.pO, Q.gN, Q.gT, Q.gsNil, Q.gsCons, Q.iQ, Q.itD, Q.iEn, Q.itE, Q.rg1, Q.oSome, Q.tSlQ, Q.revD, Q.tOwnM, Q.appC, Q.popC, Q.extC, Q.ownL, Q.tRepL, Q.repC, Q.sSetIx, Q.ixOwn, Q.tLcQ, Q.noOwn, Q.rstQ, Q.wipeQ, Q.sDn, Q.sSetD, Q.tDgetN, Q.dOwn, Q.sNever, Q.isB, Q.listD, Q.listC, Q.reprD, Q.Sl.isOwn, Q.sAugIx, Q.setQ, Q.tLcM, Q.augC, Q.keyD, Q.rg3, List.map_cons, List.map_nil, List.replicate_succ, List.replicate_zero, List.cons_append, List.nil_append, List.append_nil, List.getElem?_cons_zero, List.getElem?_cons_succ, List.set_cons_zero, List.set_cons_succ, List.getD_cons_zero, List.getD_cons_succ, List.filterMap_cons, List.filterMap_nil, List.all_cons, List.all_nil, Bool.and_true, Bool.true_and, Bool.not_true, Bool.not_false, Bool.not_eq_true, Bool.false_eq_true, Bool.and_self, if_true, if_false, true_and, and_true, ↓reduceIte, eqD, neD, sh_int, eqv_int, eqv_strs, sDraw, List.length_cons, List.length_nil, Nat.zero_add, Nat.reduceAdd, decide_true, eq_self]
    refine ⟨by decide, _, .inr rfl, by simp, by simp, fun x hx => ?_⟩
    obtain ⟨lim, rfl, l1, l2⟩ : ∃ l : Int, x = .int l ∧ 1 ≤ l ∧ l ≤ 1000 := by
      simp only [List.mem_cons, List.not_mem_nil, or_false] at hx
      rcases hx with rfl | rfl | rfl | rfl | rfl | rfl | rfl | rfl | rfl | rfl | rfl | rfl <;> exact ⟨_, rfl, by decide, by decide⟩
    try simp only [Q.isDc, Q.sPar2K, Q.tDisp2, Q.tIxK, Q.sSetIxK, Q.tVd, Q.tGetK, Q.iKeysQ, Q.tDispK, Q.tVals, Q.tAddL, Q.sSetM, Q.sAl2, Q.tAlApp2, Q.sFrz2, Q.iZipM, Q.itZm, Q.tLcM, Q.addF, Q.isN, Q.mulF, Q.bandI, Q.iZip, Q.itZ, Q.slD, Q.enOf, Q.tV, Q.tK, Q.t2, Q.t1, Q.tB, Q.cI, Q.cIp, Q.subI, Q.fdivI, Q.fdivW, Q.modI, Q.ltI, Q.leI, Q.gtI, Q.geI, Q.negI, Q.vAnd, Q.vNot, Q.qAnd, Q.qOr, Q.qNot, Q.qIf, Q.chI, Q.tTupQ, Q.dNil, Q.dCons, Q.tLstQ, Q.tFz, Q.tCA, Q.lenD, Q.tupD, Q.isD, Q.isInt, Q.isBool, Q.isTup, Q.isStr, Q.tLenN, Q.tIxN, Q.setQ, Q.aNil, Q.aD, Q.aK, Q.tCallQ, Q.tCallKQ, Q.pick, Q.sNil, Q.sSeq, Q.sRet, Q.sExpr, Q.sIf, Q.sSet, Q.sSetL, Q.sAsg, Q.sFor, Q.sPar2, Q.sPar3, Q.pNil, Q.pD, Q.pO, Q.gN, Q.gT, Q.gsNil, Q.gsCons, Q.iQ, Q.itD, Q.iEn, Q.itE, Q.rg1, Q.oSome, Q.tSlQ, Q.revD, Q.tOwnM, Q.appC, Q.popC, Q.extC, Q.ownL, Q.tRepL, Q.repC, Q.sSetIx, Q.ixOwn, Q.tLcQ, Q.noOwn, Q.rstQ, Q.wipeQ, Q.sDn, Q.sSetD, Q.tDgetN, Q.dOwn, Q.sNever, Q.isB, Q.listD, Q.listC, Q.reprD, Q.Sl.isOwn, Q.sAugIx, Q.setQ, Q.tLcM, Q.augC, Q.keyD, Q.rg3, List.map_cons, List.map_nil, List.replicate_succ, List.replicate_zero, List.cons_append, List.nil_append, List.append_nil, List.getElem?_cons_zero, List.getElem?_cons_succ, List.set_cons_zero, List.set_cons_succ, List.getD_cons_zero, List.getD_cons_succ, List.filterMap_cons, List.filterMap_nil, List.all_cons, List.all_nil, Bool.and_true, Bool.true_and, Bool.not_true, Bool.not_false, Bool.not_eq_true, Bool.false_eq_true, Bool.and_self, if_true, if_false, true_and, and_true, ↓reduceIte, eqD, neD, sh_int, eqv_int, eqv_strs, sDraw, List.length_cons, List.length_nil, Nat.zero_add, Nat.reduceAdd, decide_true, eq_self]
    refine ⟨12, lim, rfl, by decide, fun ds hd hm => ?_⟩
    have f12 := hd.few
    have mm : many ds ≤ 1000 := by omega
    obtain ⟨S, cds⟩ := cds_of hd.ok
    have S1 : 1 ≤ S := by have := many_pos hd.ok.rev; have e := cds.S_eq; unfold many at e; omega
    have SE := cds.S_eq
    have S2 : S ≤ 1000 := by omega
    have pw := full_pm ds.reverse
    have wl : (fullW ds.reverse).length = S := by rw [cds.fw]; simp
    have tw := tn_wd pw (by omega)
    have trw := rep2 tw (by decide) (by decide)
    have ca := fun n (hn : n < S) => code_at hd.ok (n := ((n : Nat) : Int)) (by omega) (by omega)
    show sSeq _ law_s0b_s2 _ _
    simp only [Q.isDc, Q.sPar2K, Q.tDisp2, Q.tIxK, Q.sSetIxK, Q.tVd, Q.tGetK, Q.iKeysQ, Q.tDispK, Q.tVals, Q.tAddL, Q.sSetM, Q.sAl2, Q.tAlApp2, Q.sFrz2, Q.iZipM, Q.itZm, Q.tLcM, Q.addF, Q.isN, Q.mulF, Q.bandI, Q.iZip, Q.itZ, Q.slD, Q.enOf, Q.tV, Q.tK, Q.t2, Q.t1, Q.tB, Q.cI, Q.cIp, Q.subI, Q.fdivI, Q.fdivW, Q.modI, Q.ltI, Q.leI, Q.gtI, Q.geI, Q.negI, Q.vAnd, Q.vNot, Q.qAnd, Q.qOr, Q.qNot, Q.qIf, Q.chI, Q.tTupQ, Q.dNil, Q.dCons, Q.tLstQ, Q.tFz, Q.tCA, Q.lenD, Q.tupD, Q.isD, Q.isInt, Q.isBool, Q.isTup, Q.isStr, Q.tLenN, Q.tIxN, Q.setQ, Q.aNil, Q.aD, Q.aK, Q.tCallQ, Q.tCallKQ, Q.pick, Q.sNil, Q.sSeq, Q.sRet, Q.sExpr, Q.sIf, Q.sSet, Q.sSetL, Q.sAsg, Q.sFor, Q.sPar2, Q.sPar3, Q.pNil, Q.pD, Q.pO, Q.gN, Q.gT, Q.gsNil, Q.gsCons, Q.iQ, Q.itD, Q.iEn, Q.itE, Q.rg1, Q.oSome, Q.tSlQ, Q.revD, Q.tOwnM, Q.appC, Q.popC, Q.extC, Q.ownL, Q.tRepL, Q.repC, Q.sSetIx, Q.ixOwn, Q.tLcQ, Q.noOwn, Q.rstQ, Q.wipeQ, Q.sDn, Q.sSetD, Q.tDgetN, Q.dOwn, Q.sNever, Q.isB, Q.listD, Q.listC, Q.reprD, Q.Sl.isOwn, Q.sAugIx, Q.setQ, Q.tLcM, Q.augC, Q.keyD, Q.rg3, List.map_cons, List.map_nil, List.replicate_succ, List.replicate_zero, List.cons_append, List.nil_append, List.append_nil, List.getElem?_cons_zero, List.getElem?_cons_succ, List.set_cons_zero, List.set_cons_succ, List.getD_cons_zero, List.getD_cons_succ, List.filterMap_cons, List.filterMap_nil, List.all_cons, List.all_nil, Bool.and_true, Bool.true_and, Bool.not_true, Bool.not_false, Bool.not_eq_true, Bool.false_eq_true, Bool.and_self, if_true, if_false, true_and, and_true, ↓reduceIte, eqD, neD, sh_int, eqv_int, eqv_strs, sDraw, List.length_cons, List.length_nil, Nat.zero_add, Nat.reduceAdd, decide_true, eq_self]
    refine ⟨ds, rfl, hd, by omega, ?_⟩
    show sSeq _ law_s0b_s3 _ _
    simp only [Q.isDc, Q.sPar2K, Q.tDisp2, Q.tIxK, Q.sSetIxK, Q.tVd, Q.tGetK, Q.iKeysQ, Q.tDispK, Q.tVals, Q.tAddL, Q.sSetM, Q.sAl2, Q.tAlApp2, Q.sFrz2, Q.iZipM, Q.itZm, Q.tLcM, Q.addF, Q.isN, Q.mulF, Q.bandI, Q.iZip, Q.itZ, Q.slD, Q.enOf, Q.tV, Q.tK, Q.t2, Q.t1, Q.tB, Q.cI, Q.cIp, Q.subI, Q.fdivI, Q.fdivW, Q.modI, Q.ltI, Q.leI, Q.gtI, Q.geI, Q.negI, Q.vAnd, Q.vNot, Q.qAnd, Q.qOr, Q.qNot, Q.qIf, Q.chI, Q.tTupQ, Q.dNil, Q.dCons, Q.tLstQ, Q.tFz, Q.tCA, Q.lenD, Q.tupD, Q.isD, Q.isInt, Q.isBool, Q.isTup, Q.isStr, Q.tLenN, Q.tIxN, Q.setQ, Q.aNil, Q.aD, Q.aK, Q.tCallQ, Q.tCallKQ, Q.pick, Q.sNil, Q.sSeq, Q.sRet, Q.sExpr, Q.sIf, Q.sSet, Q.sSetL, Q.sAsg, Q.sFor, Q.sPar2, Q.sPar3, Q.pNil, Q.pD, Q.pO, Q.gN, Q.gT, Q.gsNil, Q.gsCons, Q.iQ, Q.itD, Q.iEn, Q.itE, Q.rg1, Q.oSome, Q.tSlQ, Q.revD, Q.tOwnM, Q.appC, Q.popC, Q.extC, Q.ownL, Q.tRepL, Q.repC, Q.sSetIx, Q.ixOwn, Q.tLcQ, Q.noOwn, Q.rstQ, Q.wipeQ, Q.sDn, Q.sSetD, Q.tDgetN, Q.dOwn, Q.sNever, Q.isB, Q.listD, Q.listC, Q.reprD, Q.Sl.isOwn, Q.sAugIx, Q.setQ, Q.tLcM, Q.augC, Q.keyD, Q.rg3, List.map_cons, List.map_nil, List.replicate_succ, List.replicate_zero, List.cons_append, List.nil_append, List.append_nil, List.getElem?_cons_zero, List.getElem?_cons_succ, List.set_cons_zero, List.set_cons_succ, List.getD_cons_zero, List.getD_cons_succ, List.filterMap_cons, List.filterMap_nil, List.all_cons, List.all_nil, Bool.and_true, Bool.true_and, Bool.not_true, Bool.not_false, Bool.not_eq_true, Bool.false_eq_true, Bool.and_self, if_true, if_false, true_and, and_true, ↓reduceIte, eqD, neD, sh_int, eqv_int, eqv_strs, sDraw, List.length_cons, List.length_nil, Nat.zero_add, Nat.reduceAdd, decide_true, eq_self]
    rw [cds.cd, List.map_map]
    refine comp_mapG _ (fun n => .int (wR ds.reverse (n : Nat))) (fun n hn2 Rk hk => ?_) ?_
    · have c := ca n (List.mem_range.mp hn2)
      simp only [Function.comp, Q.isDc, Q.sPar2K, Q.tDisp2, Q.tIxK, Q.sSetIxK, Q.tVd, Q.tGetK, Q.iKeysQ, Q.tDispK, Q.tVals, Q.tAddL, Q.sSetM, Q.sAl2, Q.tAlApp2, Q.sFrz2, Q.iZipM, Q.itZm, Q.tLcM, Q.addF, Q.isN, Q.mulF, Q.bandI, Q.iZip, Q.itZ, Q.slD, Q.enOf, Q.tV, Q.tK, Q.t2, Q.t1, Q.tB, Q.cI, Q.cIp, Q.subI, Q.fdivI, Q.fdivW, Q.modI, Q.ltI, Q.leI, Q.gtI, Q.geI, Q.negI, Q.vAnd, Q.vNot, Q.qAnd, Q.qOr, Q.qNot, Q.qIf, Q.chI, Q.tTupQ, Q.dNil, Q.dCons, Q.tLstQ, Q.tFz, Q.tCA, Q.lenD, Q.tupD, Q.isD, Q.isInt, Q.isBool, Q.isTup, Q.isStr, Q.tLenN, Q.tIxN, Q.setQ, Q.aNil, Q.aD, Q.aK, Q.tCallQ, Q.tCallKQ, Q.pick, Q.sNil, Q.sSeq, Q.sRet, Q.sExpr, Q.sIf, Q.sSet, Q.sSetL, Q.sAsg, Q.sFor, Q.sPar2, Q.sPar3, Q.pNil, Q.pD, Q.pO, Q.gN, Q.gT, Q.gsNil, Q.gsCons, Q.iQ, Q.itD, Q.iEn, Q.itE, Q.rg1, Q.oSome, Q.tSlQ, Q.revD, Q.tOwnM, Q.appC, Q.popC, Q.extC, Q.ownL, Q.tRepL, Q.repC, Q.sSetIx, Q.ixOwn, Q.tLcQ, Q.noOwn, Q.rstQ, Q.wipeQ, Q.sDn, Q.sSetD, Q.tDgetN, Q.dOwn, Q.sNever, Q.isB, Q.listD, Q.listC, Q.reprD, Q.Sl.isOwn, Q.sAugIx, Q.setQ, Q.tLcM, Q.augC, Q.keyD, Q.rg3, List.map_cons, List.map_nil, List.replicate_succ, List.replicate_zero, List.cons_append, List.nil_append, List.append_nil, List.getElem?_cons_zero, List.getElem?_cons_succ, List.set_cons_zero, List.set_cons_succ, List.getD_cons_zero, List.getD_cons_succ, List.filterMap_cons, List.filterMap_nil, List.all_cons, List.all_nil, Bool.and_true, Bool.true_and, Bool.not_true, Bool.not_false, Bool.not_eq_true, Bool.false_eq_true, Bool.and_self, if_true, if_false, true_and, and_true, ↓reduceIte, eqD, neD, sh_int, eqv_int, eqv_strs, sDraw, List.length_cons, List.length_nil, Nat.zero_add, Nat.reduceAdd, decide_true, eq_self]
      refine ⟨ds, codeAt ds (n : Nat), rfl, c.1, f12, ?_⟩
      rw [c.2.2]
      exact hk _ (by rfl)
    have ed : (List.range S).map (fun n => PyData.int (wR ds.reverse ((n : Nat) : Int))) = (fullW ds.reverse).map .int := by
      rw [cds.fw, List.map_map]; rfl
    rw [ed]
    have s5 : ∀ s7 s8 s9 s10 s11 s12 : Sl, law_s0b_s5 E' [.un, .dk, .d (.int ((0 : Int) + (x : Int))), .d (desksD ds), .d (.list ((List.range S).map (tupI ∘ fun n => codeAt ds ((n : Nat) : Int)))), .d (.tuple ((fullW ds.reverse).map .int)), .d (tupI (fullW ds.reverse)), s7, s8, s9, s10, s11, s12, .un, .un] := fun s7 s8 s9 s10 s11 s12 => by
      have s6 : ∀ s7 s8 : Sl, law_s0b_s6 E' [.un, .dk, .d (.int ((0 : Int) + (x : Int))), .d (desksD ds), .d (.list ((List.range S).map (tupI ∘ fun n => codeAt ds ((n : Nat) : Int)))), .d (.tuple ((fullW ds.reverse).map .int)), .d (tupI (fullW ds.reverse)), s7, s8, s9, s10, s11, s12, .un, .un] := fun s7 s8 => by
        have s8_ : ∀ s7 s8 s9 s10 s11 s12 : Sl, law_s0b_s8 E' [.un, .dk, .d (.int ((0 : Int) + (x : Int))), .d (desksD ds), .d (.list ((List.range S).map (tupI ∘ fun n => codeAt ds ((n : Nat) : Int)))), .d (.tuple ((fullW ds.reverse).map .int)), .d (tupI (fullW ds.reverse)), s7, s8, s9, s10, s11, s12, .un, .un] := fun s7 s8 s9 s10 s11 s12 => by
          simp only [law_s0b_s8, desksD, Q.isDc, Q.sPar2K, Q.tDisp2, Q.tIxK, Q.sSetIxK, Q.tVd, Q.tGetK, Q.iKeysQ, Q.tDispK, Q.tVals, Q.tAddL, Q.sSetM, Q.sAl2, Q.tAlApp2, Q.sFrz2, Q.iZipM, Q.itZm, Q.tLcM, Q.addF, Q.isN, Q.mulF, Q.bandI, Q.iZip, Q.itZ, Q.slD, Q.enOf, Q.tV, Q.tK, Q.t2, Q.t1, Q.tB, Q.cI, Q.cIp, Q.subI, Q.fdivI, Q.fdivW, Q.modI, Q.ltI, Q.leI, Q.gtI, Q.geI, Q.negI, Q.vAnd, Q.vNot, Q.qAnd, Q.qOr, Q.qNot, Q.qIf, Q.chI, Q.tTupQ, Q.dNil, Q.dCons, Q.tLstQ, Q.tFz, Q.tCA, Q.lenD, Q.tupD, Q.isD, Q.isInt, Q.isBool, Q.isTup, Q.isStr, Q.tLenN, Q.tIxN, Q.setQ, Q.aNil, Q.aD, Q.aK, Q.tCallQ, Q.tCallKQ, Q.pick, Q.sNil, Q.sSeq, Q.sRet, Q.sExpr, Q.sIf, Q.sSet, Q.sSetL, Q.sAsg, Q.sFor, Q.sPar2, Q.sPar3, Q.pNil, Q.pD, Q.pO, Q.gN, Q.gT, Q.gsNil, Q.gsCons, Q.iQ, Q.itD, Q.iEn, Q.itE, Q.rg1, Q.oSome, Q.tSlQ, Q.revD, Q.tOwnM, Q.appC, Q.popC, Q.extC, Q.ownL, Q.tRepL, Q.repC, Q.sSetIx, Q.ixOwn, Q.tLcQ, Q.noOwn, Q.rstQ, Q.wipeQ, Q.sDn, Q.sSetD, Q.tDgetN, Q.dOwn, Q.sNever, Q.isB, Q.listD, Q.listC, Q.reprD, Q.Sl.isOwn, Q.sAugIx, Q.setQ, Q.tLcM, Q.augC, Q.keyD, Q.rg3, List.map_cons, List.map_nil, List.replicate_succ, List.replicate_zero, List.cons_append, List.nil_append, List.append_nil, List.getElem?_cons_zero, List.getElem?_cons_succ, List.set_cons_zero, List.set_cons_succ, List.getD_cons_zero, List.getD_cons_succ, List.filterMap_cons, List.filterMap_nil, List.all_cons, List.all_nil, Bool.and_true, Bool.true_and, Bool.not_true, Bool.not_false, Bool.not_eq_true, Bool.false_eq_true, Bool.and_self, if_true, if_false, true_and, and_true, ↓reduceIte, eqD, neD, sh_int, eqv_int, eqv_strs, sDraw, List.length_cons, List.length_nil, Nat.zero_add, Nat.reduceAdd, decide_true, eq_self, List.length_map]
          by_cases c1 : ds.length < 12
          · rw [decide_eq_true (show ((ds.length : Nat) : Int) < 12 by omega)]
            try simp only [Q.isDc, Q.sPar2K, Q.tDisp2, Q.tIxK, Q.sSetIxK, Q.tVd, Q.tGetK, Q.iKeysQ, Q.tDispK, Q.tVals, Q.tAddL, Q.sSetM, Q.sAl2, Q.tAlApp2, Q.sFrz2, Q.iZipM, Q.itZm, Q.tLcM, Q.addF, Q.isN, Q.mulF, Q.bandI, Q.iZip, Q.itZ, Q.slD, Q.enOf, Q.tV, Q.tK, Q.t2, Q.t1, Q.tB, Q.cI, Q.cIp, Q.subI, Q.fdivI, Q.fdivW, Q.modI, Q.ltI, Q.leI, Q.gtI, Q.geI, Q.negI, Q.vAnd, Q.vNot, Q.qAnd, Q.qOr, Q.qNot, Q.qIf, Q.chI, Q.tTupQ, Q.dNil, Q.dCons, Q.tLstQ, Q.tFz, Q.tCA, Q.lenD, Q.tupD, Q.isD, Q.isInt, Q.isBool, Q.isTup, Q.isStr, Q.tLenN, Q.tIxN, Q.setQ, Q.aNil, Q.aD, Q.aK, Q.tCallQ, Q.tCallKQ, Q.pick, Q.sNil, Q.sSeq, Q.sRet, Q.sExpr, Q.sIf, Q.sSet, Q.sSetL, Q.sAsg, Q.sFor, Q.sPar2, Q.sPar3, Q.pNil, Q.pD, Q.pO, Q.gN, Q.gT, Q.gsNil, Q.gsCons, Q.iQ, Q.itD, Q.iEn, Q.itE, Q.rg1, Q.oSome, Q.tSlQ, Q.revD, Q.tOwnM, Q.appC, Q.popC, Q.extC, Q.ownL, Q.tRepL, Q.repC, Q.sSetIx, Q.ixOwn, Q.tLcQ, Q.noOwn, Q.rstQ, Q.wipeQ, Q.sDn, Q.sSetD, Q.tDgetN, Q.dOwn, Q.sNever, Q.isB, Q.listD, Q.listC, Q.reprD, Q.Sl.isOwn, Q.sAugIx, Q.setQ, Q.tLcM, Q.augC, Q.keyD, Q.rg3, List.map_cons, List.map_nil, List.replicate_succ, List.replicate_zero, List.cons_append, List.nil_append, List.append_nil, List.getElem?_cons_zero, List.getElem?_cons_succ, List.set_cons_zero, List.set_cons_succ, List.getD_cons_zero, List.getD_cons_succ, List.filterMap_cons, List.filterMap_nil, List.all_cons, List.all_nil, Bool.and_true, Bool.true_and, Bool.not_true, Bool.not_false, Bool.not_eq_true, Bool.false_eq_true, Bool.and_self, if_true, if_false, true_and, and_true, ↓reduceIte, eqD, neD, sh_int, eqv_int, eqv_strs, sDraw, List.length_cons, List.length_nil, Nat.zero_add, Nat.reduceAdd, decide_true, eq_self]
            have hd1 := dk_more hd c1 (d := [false]) (by decide) (by decide)
            have hd2 := dk_more hd c1 (d := [false, true]) (by decide) (by decide)
            have mw1 : many (ds ++ [[false]]) ≤ 100000 := by rw [many_snoc]; simp; omega
            have mw2 : many (ds ++ [[false, true]]) ≤ 100000 := by rw [many_snoc]; simp; omega
            have f1 : fullW (ds ++ [[false]]).reverse = fullW ds.reverse := by rw [rev_app]; show foldW [false] (fullW ds.reverse) = _; simp [foldW]
            have f2 : fullW (ds ++ [[false, true]]).reverse = fullW ds.reverse ++ turnL (fullW ds.reverse) := by rw [rev_app]; show foldW [false, true] (fullW ds.reverse) = _; simp [foldW]
            have e1 : ds.map deskD ++ [PyData.tuple [.str (Str.ofString "tray")]] = (ds ++ [[false]]).map deskD := by rw [List.map_append]; rfl
            have e2 : ds.map deskD ++ [PyData.tuple [.str (Str.ofString "tray"), .str (Str.ofString "pile")]] = (ds ++ [[false, true]]).map deskD := by rw [List.map_append]; rfl
            show sSeq _ law_s0b_s8i_s1 _ _
            simp only [Q.isDc, Q.sPar2K, Q.tDisp2, Q.tIxK, Q.sSetIxK, Q.tVd, Q.tGetK, Q.iKeysQ, Q.tDispK, Q.tVals, Q.tAddL, Q.sSetM, Q.sAl2, Q.tAlApp2, Q.sFrz2, Q.iZipM, Q.itZm, Q.tLcM, Q.addF, Q.isN, Q.mulF, Q.bandI, Q.iZip, Q.itZ, Q.slD, Q.enOf, Q.tV, Q.tK, Q.t2, Q.t1, Q.tB, Q.cI, Q.cIp, Q.subI, Q.fdivI, Q.fdivW, Q.modI, Q.ltI, Q.leI, Q.gtI, Q.geI, Q.negI, Q.vAnd, Q.vNot, Q.qAnd, Q.qOr, Q.qNot, Q.qIf, Q.chI, Q.tTupQ, Q.dNil, Q.dCons, Q.tLstQ, Q.tFz, Q.tCA, Q.lenD, Q.tupD, Q.isD, Q.isInt, Q.isBool, Q.isTup, Q.isStr, Q.tLenN, Q.tIxN, Q.setQ, Q.aNil, Q.aD, Q.aK, Q.tCallQ, Q.tCallKQ, Q.pick, Q.sNil, Q.sSeq, Q.sRet, Q.sExpr, Q.sIf, Q.sSet, Q.sSetL, Q.sAsg, Q.sFor, Q.sPar2, Q.sPar3, Q.pNil, Q.pD, Q.pO, Q.gN, Q.gT, Q.gsNil, Q.gsCons, Q.iQ, Q.itD, Q.iEn, Q.itE, Q.rg1, Q.oSome, Q.tSlQ, Q.revD, Q.tOwnM, Q.appC, Q.popC, Q.extC, Q.ownL, Q.tRepL, Q.repC, Q.sSetIx, Q.ixOwn, Q.tLcQ, Q.noOwn, Q.rstQ, Q.wipeQ, Q.sDn, Q.sSetD, Q.tDgetN, Q.dOwn, Q.sNever, Q.isB, Q.listD, Q.listC, Q.reprD, Q.Sl.isOwn, Q.sAugIx, Q.setQ, Q.tLcM, Q.augC, Q.keyD, Q.rg3, List.map_cons, List.map_nil, List.replicate_succ, List.replicate_zero, List.cons_append, List.nil_append, List.append_nil, List.getElem?_cons_zero, List.getElem?_cons_succ, List.set_cons_zero, List.set_cons_succ, List.getD_cons_zero, List.getD_cons_succ, List.filterMap_cons, List.filterMap_nil, List.all_cons, List.all_nil, Bool.and_true, Bool.true_and, Bool.not_true, Bool.not_false, Bool.not_eq_true, Bool.false_eq_true, Bool.and_self, if_true, if_false, true_and, and_true, ↓reduceIte, eqD, neD, sh_int, eqv_int, eqv_strs, sDraw, List.length_cons, List.length_nil, Nat.zero_add, Nat.reduceAdd, decide_true, eq_self]
            rw [← List.map_reverse]
            refine comp_mapG PyData.int (fun n => .int (-n)) (fun n hnn Rk hk => ?_) ?_
            · simp only [Q.isDc, Q.sPar2K, Q.tDisp2, Q.tIxK, Q.sSetIxK, Q.tVd, Q.tGetK, Q.iKeysQ, Q.tDispK, Q.tVals, Q.tAddL, Q.sSetM, Q.sAl2, Q.tAlApp2, Q.sFrz2, Q.iZipM, Q.itZm, Q.tLcM, Q.addF, Q.isN, Q.mulF, Q.bandI, Q.iZip, Q.itZ, Q.slD, Q.enOf, Q.tV, Q.tK, Q.t2, Q.t1, Q.tB, Q.cI, Q.cIp, Q.subI, Q.fdivI, Q.fdivW, Q.modI, Q.ltI, Q.leI, Q.gtI, Q.geI, Q.negI, Q.vAnd, Q.vNot, Q.qAnd, Q.qOr, Q.qNot, Q.qIf, Q.chI, Q.tTupQ, Q.dNil, Q.dCons, Q.tLstQ, Q.tFz, Q.tCA, Q.lenD, Q.tupD, Q.isD, Q.isInt, Q.isBool, Q.isTup, Q.isStr, Q.tLenN, Q.tIxN, Q.setQ, Q.aNil, Q.aD, Q.aK, Q.tCallQ, Q.tCallKQ, Q.pick, Q.sNil, Q.sSeq, Q.sRet, Q.sExpr, Q.sIf, Q.sSet, Q.sSetL, Q.sAsg, Q.sFor, Q.sPar2, Q.sPar3, Q.pNil, Q.pD, Q.pO, Q.gN, Q.gT, Q.gsNil, Q.gsCons, Q.iQ, Q.itD, Q.iEn, Q.itE, Q.rg1, Q.oSome, Q.tSlQ, Q.revD, Q.tOwnM, Q.appC, Q.popC, Q.extC, Q.ownL, Q.tRepL, Q.repC, Q.sSetIx, Q.ixOwn, Q.tLcQ, Q.noOwn, Q.rstQ, Q.wipeQ, Q.sDn, Q.sSetD, Q.tDgetN, Q.dOwn, Q.sNever, Q.isB, Q.listD, Q.listC, Q.reprD, Q.Sl.isOwn, Q.sAugIx, Q.setQ, Q.tLcM, Q.augC, Q.keyD, Q.rg3, List.map_cons, List.map_nil, List.replicate_succ, List.replicate_zero, List.cons_append, List.nil_append, List.append_nil, List.getElem?_cons_zero, List.getElem?_cons_succ, List.set_cons_zero, List.set_cons_succ, List.getD_cons_zero, List.getD_cons_succ, List.filterMap_cons, List.filterMap_nil, List.all_cons, List.all_nil, Bool.and_true, Bool.true_and, Bool.not_true, Bool.not_false, Bool.not_eq_true, Bool.false_eq_true, Bool.and_self, if_true, if_false, true_and, and_true, ↓reduceIte, eqD, neD, sh_int, eqv_int, eqv_strs, sDraw, List.length_cons, List.length_nil, Nat.zero_add, Nat.reduceAdd, decide_true, eq_self]
              exact hk _ (by rfl)
            have et : (fullW ds.reverse).reverse.map (fun n => PyData.int (-n)) = (turnL (fullW ds.reverse)).map .int := by
              unfold turnL
              rw [List.map_map]; rfl
            rw [et]
            show sSeq _ law_s0b_s8i_s2 _ _
            simp only [Q.isDc, Q.sPar2K, Q.tDisp2, Q.tIxK, Q.sSetIxK, Q.tVd, Q.tGetK, Q.iKeysQ, Q.tDispK, Q.tVals, Q.tAddL, Q.sSetM, Q.sAl2, Q.tAlApp2, Q.sFrz2, Q.iZipM, Q.itZm, Q.tLcM, Q.addF, Q.isN, Q.mulF, Q.bandI, Q.iZip, Q.itZ, Q.slD, Q.enOf, Q.tV, Q.tK, Q.t2, Q.t1, Q.tB, Q.cI, Q.cIp, Q.subI, Q.fdivI, Q.fdivW, Q.modI, Q.ltI, Q.leI, Q.gtI, Q.geI, Q.negI, Q.vAnd, Q.vNot, Q.qAnd, Q.qOr, Q.qNot, Q.qIf, Q.chI, Q.tTupQ, Q.dNil, Q.dCons, Q.tLstQ, Q.tFz, Q.tCA, Q.lenD, Q.tupD, Q.isD, Q.isInt, Q.isBool, Q.isTup, Q.isStr, Q.tLenN, Q.tIxN, Q.setQ, Q.aNil, Q.aD, Q.aK, Q.tCallQ, Q.tCallKQ, Q.pick, Q.sNil, Q.sSeq, Q.sRet, Q.sExpr, Q.sIf, Q.sSet, Q.sSetL, Q.sAsg, Q.sFor, Q.sPar2, Q.sPar3, Q.pNil, Q.pD, Q.pO, Q.gN, Q.gT, Q.gsNil, Q.gsCons, Q.iQ, Q.itD, Q.iEn, Q.itE, Q.rg1, Q.oSome, Q.tSlQ, Q.revD, Q.tOwnM, Q.appC, Q.popC, Q.extC, Q.ownL, Q.tRepL, Q.repC, Q.sSetIx, Q.ixOwn, Q.tLcQ, Q.noOwn, Q.rstQ, Q.wipeQ, Q.sDn, Q.sSetD, Q.tDgetN, Q.dOwn, Q.sNever, Q.isB, Q.listD, Q.listC, Q.reprD, Q.Sl.isOwn, Q.sAugIx, Q.setQ, Q.tLcM, Q.augC, Q.keyD, Q.rg3, List.map_cons, List.map_nil, List.replicate_succ, List.replicate_zero, List.cons_append, List.nil_append, List.append_nil, List.getElem?_cons_zero, List.getElem?_cons_succ, List.set_cons_zero, List.set_cons_succ, List.getD_cons_zero, List.getD_cons_succ, List.filterMap_cons, List.filterMap_nil, List.all_cons, List.all_nil, Bool.and_true, Bool.true_and, Bool.not_true, Bool.not_false, Bool.not_eq_true, Bool.false_eq_true, Bool.and_self, if_true, if_false, true_and, and_true, ↓reduceIte, eqD, neD, sh_int, eqv_int, eqv_strs, sDraw, List.length_cons, List.length_nil, Nat.zero_add, Nat.reduceAdd, decide_true, eq_self]
            rw [e1]
            refine ⟨by decide, by decide, by rw [List.length_map]; omega, ds ++ [[false]], rfl, hd1, mw1, ?_⟩
            rw [f1]
            refine ⟨trw, trw, tw.text, tw.text, ?_⟩
            rw [show (PyData.str (PyData.shown (tupI (fullW ds.reverse)))).eqv (.str (PyData.shown (.tuple ((fullW ds.reverse).map .int)))) = true from eqv_strs]
            try simp only [Q.isDc, Q.sPar2K, Q.tDisp2, Q.tIxK, Q.sSetIxK, Q.tVd, Q.tGetK, Q.iKeysQ, Q.tDispK, Q.tVals, Q.tAddL, Q.sSetM, Q.sAl2, Q.tAlApp2, Q.sFrz2, Q.iZipM, Q.itZm, Q.tLcM, Q.addF, Q.isN, Q.mulF, Q.bandI, Q.iZip, Q.itZ, Q.slD, Q.enOf, Q.tV, Q.tK, Q.t2, Q.t1, Q.tB, Q.cI, Q.cIp, Q.subI, Q.fdivI, Q.fdivW, Q.modI, Q.ltI, Q.leI, Q.gtI, Q.geI, Q.negI, Q.vAnd, Q.vNot, Q.qAnd, Q.qOr, Q.qNot, Q.qIf, Q.chI, Q.tTupQ, Q.dNil, Q.dCons, Q.tLstQ, Q.tFz, Q.tCA, Q.lenD, Q.tupD, Q.isD, Q.isInt, Q.isBool, Q.isTup, Q.isStr, Q.tLenN, Q.tIxN, Q.setQ, Q.aNil, Q.aD, Q.aK, Q.tCallQ, Q.tCallKQ, Q.pick, Q.sNil, Q.sSeq, Q.sRet, Q.sExpr, Q.sIf, Q.sSet, Q.sSetL, Q.sAsg, Q.sFor, Q.sPar2, Q.sPar3, Q.pNil, Q.pD, Q.pO, Q.gN, Q.gT, Q.gsNil, Q.gsCons, Q.iQ, Q.itD, Q.iEn, Q.itE, Q.rg1, Q.oSome, Q.tSlQ, Q.revD, Q.tOwnM, Q.appC, Q.popC, Q.extC, Q.ownL, Q.tRepL, Q.repC, Q.sSetIx, Q.ixOwn, Q.tLcQ, Q.noOwn, Q.rstQ, Q.wipeQ, Q.sDn, Q.sSetD, Q.tDgetN, Q.dOwn, Q.sNever, Q.isB, Q.listD, Q.listC, Q.reprD, Q.Sl.isOwn, Q.sAugIx, Q.setQ, Q.tLcM, Q.augC, Q.keyD, Q.rg3, List.map_cons, List.map_nil, List.replicate_succ, List.replicate_zero, List.cons_append, List.nil_append, List.append_nil, List.getElem?_cons_zero, List.getElem?_cons_succ, List.set_cons_zero, List.set_cons_succ, List.getD_cons_zero, List.getD_cons_succ, List.filterMap_cons, List.filterMap_nil, List.all_cons, List.all_nil, Bool.and_true, Bool.true_and, Bool.not_true, Bool.not_false, Bool.not_eq_true, Bool.false_eq_true, Bool.and_self, if_true, if_false, true_and, and_true, ↓reduceIte, eqD, neD, sh_int, eqv_int, eqv_strs, sDraw, List.length_cons, List.length_nil, Nat.zero_add, Nat.reduceAdd, decide_true, eq_self]
            simp only [law_s0b_s8i_s2, Q.isDc, Q.sPar2K, Q.tDisp2, Q.tIxK, Q.sSetIxK, Q.tVd, Q.tGetK, Q.iKeysQ, Q.tDispK, Q.tVals, Q.tAddL, Q.sSetM, Q.sAl2, Q.tAlApp2, Q.sFrz2, Q.iZipM, Q.itZm, Q.tLcM, Q.addF, Q.isN, Q.mulF, Q.bandI, Q.iZip, Q.itZ, Q.slD, Q.enOf, Q.tV, Q.tK, Q.t2, Q.t1, Q.tB, Q.cI, Q.cIp, Q.subI, Q.fdivI, Q.fdivW, Q.modI, Q.ltI, Q.leI, Q.gtI, Q.geI, Q.negI, Q.vAnd, Q.vNot, Q.qAnd, Q.qOr, Q.qNot, Q.qIf, Q.chI, Q.tTupQ, Q.dNil, Q.dCons, Q.tLstQ, Q.tFz, Q.tCA, Q.lenD, Q.tupD, Q.isD, Q.isInt, Q.isBool, Q.isTup, Q.isStr, Q.tLenN, Q.tIxN, Q.setQ, Q.aNil, Q.aD, Q.aK, Q.tCallQ, Q.tCallKQ, Q.pick, Q.sNil, Q.sSeq, Q.sRet, Q.sExpr, Q.sIf, Q.sSet, Q.sSetL, Q.sAsg, Q.sFor, Q.sPar2, Q.sPar3, Q.pNil, Q.pD, Q.pO, Q.gN, Q.gT, Q.gsNil, Q.gsCons, Q.iQ, Q.itD, Q.iEn, Q.itE, Q.rg1, Q.oSome, Q.tSlQ, Q.revD, Q.tOwnM, Q.appC, Q.popC, Q.extC, Q.ownL, Q.tRepL, Q.repC, Q.sSetIx, Q.ixOwn, Q.tLcQ, Q.noOwn, Q.rstQ, Q.wipeQ, Q.sDn, Q.sSetD, Q.tDgetN, Q.dOwn, Q.sNever, Q.isB, Q.listD, Q.listC, Q.reprD, Q.Sl.isOwn, Q.sAugIx, Q.setQ, Q.tLcM, Q.augC, Q.keyD, Q.rg3, List.map_cons, List.map_nil, List.replicate_succ, List.replicate_zero, List.cons_append, List.nil_append, List.append_nil, List.getElem?_cons_zero, List.getElem?_cons_succ, List.set_cons_zero, List.set_cons_succ, List.getD_cons_zero, List.getD_cons_succ, List.filterMap_cons, List.filterMap_nil, List.all_cons, List.all_nil, Bool.and_true, Bool.true_and, Bool.not_true, Bool.not_false, Bool.not_eq_true, Bool.false_eq_true, Bool.and_self, if_true, if_false, true_and, and_true, ↓reduceIte, eqD, neD, sh_int, eqv_int, eqv_strs, sDraw, List.length_cons, List.length_nil, Nat.zero_add, Nat.reduceAdd, decide_true, eq_self]
            rw [e2]
            have pb : ∀ y, y ∈ fullW ds.reverse ++ turnL (fullW ds.reverse) → Pm y := by
              rw [← f2]; exact full_pm _
            have lb : (fullW ds.reverse ++ turnL (fullW ds.reverse)).length ≤ 2000 := by rw [List.length_append, turnL_len]; omega
            have tb := tn_wd pb lb
            have trb := rep2 tb (by decide) (by decide)
            refine ⟨by decide, by decide, by rw [List.length_map]; omega, ds ++ [[false, true]], rfl, hd2, mw2, ?_⟩
            rw [f2]
            rw [← List.map_append]
            refine ⟨trb, by rw [← List.length_append, ← List.map_append, List.length_map]; omega, trb, tb.text, tb.text, ?_⟩
            rw [show (PyData.str (PyData.shown (tupI (fullW ds.reverse ++ turnL (fullW ds.reverse))))).eqv (.str (PyData.shown (.tuple ((fullW ds.reverse ++ turnL (fullW ds.reverse)).map .int)))) = true from eqv_strs]
            try simp only [Q.isDc, Q.sPar2K, Q.tDisp2, Q.tIxK, Q.sSetIxK, Q.tVd, Q.tGetK, Q.iKeysQ, Q.tDispK, Q.tVals, Q.tAddL, Q.sSetM, Q.sAl2, Q.tAlApp2, Q.sFrz2, Q.iZipM, Q.itZm, Q.tLcM, Q.addF, Q.isN, Q.mulF, Q.bandI, Q.iZip, Q.itZ, Q.slD, Q.enOf, Q.tV, Q.tK, Q.t2, Q.t1, Q.tB, Q.cI, Q.cIp, Q.subI, Q.fdivI, Q.fdivW, Q.modI, Q.ltI, Q.leI, Q.gtI, Q.geI, Q.negI, Q.vAnd, Q.vNot, Q.qAnd, Q.qOr, Q.qNot, Q.qIf, Q.chI, Q.tTupQ, Q.dNil, Q.dCons, Q.tLstQ, Q.tFz, Q.tCA, Q.lenD, Q.tupD, Q.isD, Q.isInt, Q.isBool, Q.isTup, Q.isStr, Q.tLenN, Q.tIxN, Q.setQ, Q.aNil, Q.aD, Q.aK, Q.tCallQ, Q.tCallKQ, Q.pick, Q.sNil, Q.sSeq, Q.sRet, Q.sExpr, Q.sIf, Q.sSet, Q.sSetL, Q.sAsg, Q.sFor, Q.sPar2, Q.sPar3, Q.pNil, Q.pD, Q.pO, Q.gN, Q.gT, Q.gsNil, Q.gsCons, Q.iQ, Q.itD, Q.iEn, Q.itE, Q.rg1, Q.oSome, Q.tSlQ, Q.revD, Q.tOwnM, Q.appC, Q.popC, Q.extC, Q.ownL, Q.tRepL, Q.repC, Q.sSetIx, Q.ixOwn, Q.tLcQ, Q.noOwn, Q.rstQ, Q.wipeQ, Q.sDn, Q.sSetD, Q.tDgetN, Q.dOwn, Q.sNever, Q.isB, Q.listD, Q.listC, Q.reprD, Q.Sl.isOwn, Q.sAugIx, Q.setQ, Q.tLcM, Q.augC, Q.keyD, Q.rg3, List.map_cons, List.map_nil, List.replicate_succ, List.replicate_zero, List.cons_append, List.nil_append, List.append_nil, List.getElem?_cons_zero, List.getElem?_cons_succ, List.set_cons_zero, List.set_cons_succ, List.getD_cons_zero, List.getD_cons_succ, List.filterMap_cons, List.filterMap_nil, List.all_cons, List.all_nil, Bool.and_true, Bool.true_and, Bool.not_true, Bool.not_false, Bool.not_eq_true, Bool.false_eq_true, Bool.and_self, if_true, if_false, true_and, and_true, ↓reduceIte, eqD, neD, sh_int, eqv_int, eqv_strs, sDraw, List.length_cons, List.length_nil, Nat.zero_add, Nat.reduceAdd, decide_true, eq_self]
            exact hn _ ⟨_, _, _, _, _, _, _, _, _, _, _, by rfl⟩
          · rw [decide_eq_false (show ¬ ((ds.length : Nat) : Int) < 12 by omega)]
            try simp only [Q.isDc, Q.sPar2K, Q.tDisp2, Q.tIxK, Q.sSetIxK, Q.tVd, Q.tGetK, Q.iKeysQ, Q.tDispK, Q.tVals, Q.tAddL, Q.sSetM, Q.sAl2, Q.tAlApp2, Q.sFrz2, Q.iZipM, Q.itZm, Q.tLcM, Q.addF, Q.isN, Q.mulF, Q.bandI, Q.iZip, Q.itZ, Q.slD, Q.enOf, Q.tV, Q.tK, Q.t2, Q.t1, Q.tB, Q.cI, Q.cIp, Q.subI, Q.fdivI, Q.fdivW, Q.modI, Q.ltI, Q.leI, Q.gtI, Q.geI, Q.negI, Q.vAnd, Q.vNot, Q.qAnd, Q.qOr, Q.qNot, Q.qIf, Q.chI, Q.tTupQ, Q.dNil, Q.dCons, Q.tLstQ, Q.tFz, Q.tCA, Q.lenD, Q.tupD, Q.isD, Q.isInt, Q.isBool, Q.isTup, Q.isStr, Q.tLenN, Q.tIxN, Q.setQ, Q.aNil, Q.aD, Q.aK, Q.tCallQ, Q.tCallKQ, Q.pick, Q.sNil, Q.sSeq, Q.sRet, Q.sExpr, Q.sIf, Q.sSet, Q.sSetL, Q.sAsg, Q.sFor, Q.sPar2, Q.sPar3, Q.pNil, Q.pD, Q.pO, Q.gN, Q.gT, Q.gsNil, Q.gsCons, Q.iQ, Q.itD, Q.iEn, Q.itE, Q.rg1, Q.oSome, Q.tSlQ, Q.revD, Q.tOwnM, Q.appC, Q.popC, Q.extC, Q.ownL, Q.tRepL, Q.repC, Q.sSetIx, Q.ixOwn, Q.tLcQ, Q.noOwn, Q.rstQ, Q.wipeQ, Q.sDn, Q.sSetD, Q.tDgetN, Q.dOwn, Q.sNever, Q.isB, Q.listD, Q.listC, Q.reprD, Q.Sl.isOwn, Q.sAugIx, Q.setQ, Q.tLcM, Q.augC, Q.keyD, Q.rg3, List.map_cons, List.map_nil, List.replicate_succ, List.replicate_zero, List.cons_append, List.nil_append, List.append_nil, List.getElem?_cons_zero, List.getElem?_cons_succ, List.set_cons_zero, List.set_cons_succ, List.getD_cons_zero, List.getD_cons_succ, List.filterMap_cons, List.filterMap_nil, List.all_cons, List.all_nil, Bool.and_true, Bool.true_and, Bool.not_true, Bool.not_false, Bool.not_eq_true, Bool.false_eq_true, Bool.and_self, if_true, if_false, true_and, and_true, ↓reduceIte, eqD, neD, sh_int, eqv_int, eqv_strs, sDraw, List.length_cons, List.length_nil, Nat.zero_add, Nat.reduceAdd, decide_true, eq_self]
            exact hn _ ⟨_, _, _, _, _, _, _, _, _, _, _, by rfl⟩
        have s7_ : ∀ s7 s8 s9 s10 s11 s12 : Sl, law_s0b_s7 E' [.un, .dk, .d (.int ((0 : Int) + (x : Int))), .d (desksD ds), .d (.list ((List.range S).map (tupI ∘ fun n => codeAt ds ((n : Nat) : Int)))), .d (.tuple ((fullW ds.reverse).map .int)), .d (tupI (fullW ds.reverse)), s7, s8, s9, s10, s11, s12, .un, .un] := fun s7 s8 s9 s10 s11 s12 => by
          show sSeq _ law_s0b_s8 _ _
          simp only [desksD, Q.isDc, Q.sPar2K, Q.tDisp2, Q.tIxK, Q.sSetIxK, Q.tVd, Q.tGetK, Q.iKeysQ, Q.tDispK, Q.tVals, Q.tAddL, Q.sSetM, Q.sAl2, Q.tAlApp2, Q.sFrz2, Q.iZipM, Q.itZm, Q.tLcM, Q.addF, Q.isN, Q.mulF, Q.bandI, Q.iZip, Q.itZ, Q.slD, Q.enOf, Q.tV, Q.tK, Q.t2, Q.t1, Q.tB, Q.cI, Q.cIp, Q.subI, Q.fdivI, Q.fdivW, Q.modI, Q.ltI, Q.leI, Q.gtI, Q.geI, Q.negI, Q.vAnd, Q.vNot, Q.qAnd, Q.qOr, Q.qNot, Q.qIf, Q.chI, Q.tTupQ, Q.dNil, Q.dCons, Q.tLstQ, Q.tFz, Q.tCA, Q.lenD, Q.tupD, Q.isD, Q.isInt, Q.isBool, Q.isTup, Q.isStr, Q.tLenN, Q.tIxN, Q.setQ, Q.aNil, Q.aD, Q.aK, Q.tCallQ, Q.tCallKQ, Q.pick, Q.sNil, Q.sSeq, Q.sRet, Q.sExpr, Q.sIf, Q.sSet, Q.sSetL, Q.sAsg, Q.sFor, Q.sPar2, Q.sPar3, Q.pNil, Q.pD, Q.pO, Q.gN, Q.gT, Q.gsNil, Q.gsCons, Q.iQ, Q.itD, Q.iEn, Q.itE, Q.rg1, Q.oSome, Q.tSlQ, Q.revD, Q.tOwnM, Q.appC, Q.popC, Q.extC, Q.ownL, Q.tRepL, Q.repC, Q.sSetIx, Q.ixOwn, Q.tLcQ, Q.noOwn, Q.rstQ, Q.wipeQ, Q.sDn, Q.sSetD, Q.tDgetN, Q.dOwn, Q.sNever, Q.isB, Q.listD, Q.listC, Q.reprD, Q.Sl.isOwn, Q.sAugIx, Q.setQ, Q.tLcM, Q.augC, Q.keyD, Q.rg3, List.map_cons, List.map_nil, List.replicate_succ, List.replicate_zero, List.cons_append, List.nil_append, List.append_nil, List.getElem?_cons_zero, List.getElem?_cons_succ, List.set_cons_zero, List.set_cons_succ, List.getD_cons_zero, List.getD_cons_succ, List.filterMap_cons, List.filterMap_nil, List.all_cons, List.all_nil, Bool.and_true, Bool.true_and, Bool.not_true, Bool.not_false, Bool.not_eq_true, Bool.false_eq_true, Bool.and_self, if_true, if_false, true_and, and_true, ↓reduceIte, eqD, neD, sh_int, eqv_int, eqv_strs, sDraw, List.length_cons, List.length_nil, Nat.zero_add, Nat.reduceAdd, decide_true, eq_self, List.length_map, wl]
          by_cases c1 : ds.length < 12
          · rw [decide_eq_true (show ((ds.length : Nat) : Int) < 12 by omega)]
            try simp only [Q.isDc, Q.sPar2K, Q.tDisp2, Q.tIxK, Q.sSetIxK, Q.tVd, Q.tGetK, Q.iKeysQ, Q.tDispK, Q.tVals, Q.tAddL, Q.sSetM, Q.sAl2, Q.tAlApp2, Q.sFrz2, Q.iZipM, Q.itZm, Q.tLcM, Q.addF, Q.isN, Q.mulF, Q.bandI, Q.iZip, Q.itZ, Q.slD, Q.enOf, Q.tV, Q.tK, Q.t2, Q.t1, Q.tB, Q.cI, Q.cIp, Q.subI, Q.fdivI, Q.fdivW, Q.modI, Q.ltI, Q.leI, Q.gtI, Q.geI, Q.negI, Q.vAnd, Q.vNot, Q.qAnd, Q.qOr, Q.qNot, Q.qIf, Q.chI, Q.tTupQ, Q.dNil, Q.dCons, Q.tLstQ, Q.tFz, Q.tCA, Q.lenD, Q.tupD, Q.isD, Q.isInt, Q.isBool, Q.isTup, Q.isStr, Q.tLenN, Q.tIxN, Q.setQ, Q.aNil, Q.aD, Q.aK, Q.tCallQ, Q.tCallKQ, Q.pick, Q.sNil, Q.sSeq, Q.sRet, Q.sExpr, Q.sIf, Q.sSet, Q.sSetL, Q.sAsg, Q.sFor, Q.sPar2, Q.sPar3, Q.pNil, Q.pD, Q.pO, Q.gN, Q.gT, Q.gsNil, Q.gsCons, Q.iQ, Q.itD, Q.iEn, Q.itE, Q.rg1, Q.oSome, Q.tSlQ, Q.revD, Q.tOwnM, Q.appC, Q.popC, Q.extC, Q.ownL, Q.tRepL, Q.repC, Q.sSetIx, Q.ixOwn, Q.tLcQ, Q.noOwn, Q.rstQ, Q.wipeQ, Q.sDn, Q.sSetD, Q.tDgetN, Q.dOwn, Q.sNever, Q.isB, Q.listD, Q.listC, Q.reprD, Q.Sl.isOwn, Q.sAugIx, Q.setQ, Q.tLcM, Q.augC, Q.keyD, Q.rg3, List.map_cons, List.map_nil, List.replicate_succ, List.replicate_zero, List.cons_append, List.nil_append, List.append_nil, List.getElem?_cons_zero, List.getElem?_cons_succ, List.set_cons_zero, List.set_cons_succ, List.getD_cons_zero, List.getD_cons_succ, List.filterMap_cons, List.filterMap_nil, List.all_cons, List.all_nil, Bool.and_true, Bool.true_and, Bool.not_true, Bool.not_false, Bool.not_eq_true, Bool.false_eq_true, Bool.and_self, if_true, if_false, true_and, and_true, ↓reduceIte, eqD, neD, sh_int, eqv_int, eqv_strs, sDraw, List.length_cons, List.length_nil, Nat.zero_add, Nat.reduceAdd, decide_true, eq_self]
            by_cases c2 : 500 < S
            · rw [decide_eq_true (show (500 : Int) < ((S : Nat) : Int) by omega)]
              have hd2 := dk_more hd c1 (d := [false, true]) (by decide) (by decide)
              have mw : many (ds ++ [[false, true]]) ≤ 100000 := by rw [many_snoc]; simp; omega
              show (if true = true then _ else _)
              rw [if_pos rfl]
              show sSeq _ law_s0b_s7i_s1 _ _
              simp only [Q.isDc, Q.sPar2K, Q.tDisp2, Q.tIxK, Q.sSetIxK, Q.tVd, Q.tGetK, Q.iKeysQ, Q.tDispK, Q.tVals, Q.tAddL, Q.sSetM, Q.sAl2, Q.tAlApp2, Q.sFrz2, Q.iZipM, Q.itZm, Q.tLcM, Q.addF, Q.isN, Q.mulF, Q.bandI, Q.iZip, Q.itZ, Q.slD, Q.enOf, Q.tV, Q.tK, Q.t2, Q.t1, Q.tB, Q.cI, Q.cIp, Q.subI, Q.fdivI, Q.fdivW, Q.modI, Q.ltI, Q.leI, Q.gtI, Q.geI, Q.negI, Q.vAnd, Q.vNot, Q.qAnd, Q.qOr, Q.qNot, Q.qIf, Q.chI, Q.tTupQ, Q.dNil, Q.dCons, Q.tLstQ, Q.tFz, Q.tCA, Q.lenD, Q.tupD, Q.isD, Q.isInt, Q.isBool, Q.isTup, Q.isStr, Q.tLenN, Q.tIxN, Q.setQ, Q.aNil, Q.aD, Q.aK, Q.tCallQ, Q.tCallKQ, Q.pick, Q.sNil, Q.sSeq, Q.sRet, Q.sExpr, Q.sIf, Q.sSet, Q.sSetL, Q.sAsg, Q.sFor, Q.sPar2, Q.sPar3, Q.pNil, Q.pD, Q.pO, Q.gN, Q.gT, Q.gsNil, Q.gsCons, Q.iQ, Q.itD, Q.iEn, Q.itE, Q.rg1, Q.oSome, Q.tSlQ, Q.revD, Q.tOwnM, Q.appC, Q.popC, Q.extC, Q.ownL, Q.tRepL, Q.repC, Q.sSetIx, Q.ixOwn, Q.tLcQ, Q.noOwn, Q.rstQ, Q.wipeQ, Q.sDn, Q.sSetD, Q.tDgetN, Q.dOwn, Q.sNever, Q.isB, Q.listD, Q.listC, Q.reprD, Q.Sl.isOwn, Q.sAugIx, Q.setQ, Q.tLcM, Q.augC, Q.keyD, Q.rg3, List.map_cons, List.map_nil, List.replicate_succ, List.replicate_zero, List.cons_append, List.nil_append, List.append_nil, List.getElem?_cons_zero, List.getElem?_cons_succ, List.set_cons_zero, List.set_cons_succ, List.getD_cons_zero, List.getD_cons_succ, List.filterMap_cons, List.filterMap_nil, List.all_cons, List.all_nil, Bool.and_true, Bool.true_and, Bool.not_true, Bool.not_false, Bool.not_eq_true, Bool.false_eq_true, Bool.and_self, if_true, if_false, true_and, and_true, ↓reduceIte, eqD, neD, sh_int, eqv_int, eqv_strs, sDraw, List.length_cons, List.length_nil, Nat.zero_add, Nat.reduceAdd, decide_true, eq_self]
              refine ⟨by decide, by decide, by rw [List.length_map]; omega, by decide, by decide, fun r r0 r1 => ?_⟩
              obtain ⟨m, rfl⟩ := Int.eq_ofNat_of_zero_le r0
              have m8 : m ≤ 8 := by omega
              have nb := cn_bd (fullW (ds ++ [[false, true]]).reverse) m8
              have tn_ : Tn 0 4 (.int (cn (fullW (ds ++ [[false, true]]).reverse) m)) := tn_int nb.1 nb.2
              have tr_ := rep2 tn_ (by decide) (by decide)
              have ew : ds.map deskD ++ [PyData.tuple [.str (Str.ofString "tray"), .str (Str.ofString "pile")]] = (ds ++ [[false, true]]).map deskD := by rw [List.map_append]; rfl
              rw [ew]
              simp only [law_s0b_s7i_s1, Q.isDc, Q.sPar2K, Q.tDisp2, Q.tIxK, Q.sSetIxK, Q.tVd, Q.tGetK, Q.iKeysQ, Q.tDispK, Q.tVals, Q.tAddL, Q.sSetM, Q.sAl2, Q.tAlApp2, Q.sFrz2, Q.iZipM, Q.itZm, Q.tLcM, Q.addF, Q.isN, Q.mulF, Q.bandI, Q.iZip, Q.itZ, Q.slD, Q.enOf, Q.tV, Q.tK, Q.t2, Q.t1, Q.tB, Q.cI, Q.cIp, Q.subI, Q.fdivI, Q.fdivW, Q.modI, Q.ltI, Q.leI, Q.gtI, Q.geI, Q.negI, Q.vAnd, Q.vNot, Q.qAnd, Q.qOr, Q.qNot, Q.qIf, Q.chI, Q.tTupQ, Q.dNil, Q.dCons, Q.tLstQ, Q.tFz, Q.tCA, Q.lenD, Q.tupD, Q.isD, Q.isInt, Q.isBool, Q.isTup, Q.isStr, Q.tLenN, Q.tIxN, Q.setQ, Q.aNil, Q.aD, Q.aK, Q.tCallQ, Q.tCallKQ, Q.pick, Q.sNil, Q.sSeq, Q.sRet, Q.sExpr, Q.sIf, Q.sSet, Q.sSetL, Q.sAsg, Q.sFor, Q.sPar2, Q.sPar3, Q.pNil, Q.pD, Q.pO, Q.gN, Q.gT, Q.gsNil, Q.gsCons, Q.iQ, Q.itD, Q.iEn, Q.itE, Q.rg1, Q.oSome, Q.tSlQ, Q.revD, Q.tOwnM, Q.appC, Q.popC, Q.extC, Q.ownL, Q.tRepL, Q.repC, Q.sSetIx, Q.ixOwn, Q.tLcQ, Q.noOwn, Q.rstQ, Q.wipeQ, Q.sDn, Q.sSetD, Q.tDgetN, Q.dOwn, Q.sNever, Q.isB, Q.listD, Q.listC, Q.reprD, Q.Sl.isOwn, Q.sAugIx, Q.setQ, Q.tLcM, Q.augC, Q.keyD, Q.rg3, List.map_cons, List.map_nil, List.replicate_succ, List.replicate_zero, List.cons_append, List.nil_append, List.append_nil, List.getElem?_cons_zero, List.getElem?_cons_succ, List.set_cons_zero, List.set_cons_succ, List.getD_cons_zero, List.getD_cons_succ, List.filterMap_cons, List.filterMap_nil, List.all_cons, List.all_nil, Bool.and_true, Bool.true_and, Bool.not_true, Bool.not_false, Bool.not_eq_true, Bool.false_eq_true, Bool.and_self, if_true, if_false, true_and, and_true, ↓reduceIte, eqD, neD, sh_int, eqv_int, eqv_strs, sDraw, List.length_cons, List.length_nil, Nat.zero_add, Nat.reduceAdd, decide_true, eq_self]
              refine ⟨ds ++ [[false, true]], m, rfl, hd2, mw, m8, ?_⟩
              refine ⟨tr_, ds ++ [[false, true]], rfl, hd2, ?_⟩
              try simp only [Q.isDc, Q.sPar2K, Q.tDisp2, Q.tIxK, Q.sSetIxK, Q.tVd, Q.tGetK, Q.iKeysQ, Q.tDispK, Q.tVals, Q.tAddL, Q.sSetM, Q.sAl2, Q.tAlApp2, Q.sFrz2, Q.iZipM, Q.itZm, Q.tLcM, Q.addF, Q.isN, Q.mulF, Q.bandI, Q.iZip, Q.itZ, Q.slD, Q.enOf, Q.tV, Q.tK, Q.t2, Q.t1, Q.tB, Q.cI, Q.cIp, Q.subI, Q.fdivI, Q.fdivW, Q.modI, Q.ltI, Q.leI, Q.gtI, Q.geI, Q.negI, Q.vAnd, Q.vNot, Q.qAnd, Q.qOr, Q.qNot, Q.qIf, Q.chI, Q.tTupQ, Q.dNil, Q.dCons, Q.tLstQ, Q.tFz, Q.tCA, Q.lenD, Q.tupD, Q.isD, Q.isInt, Q.isBool, Q.isTup, Q.isStr, Q.tLenN, Q.tIxN, Q.setQ, Q.aNil, Q.aD, Q.aK, Q.tCallQ, Q.tCallKQ, Q.pick, Q.sNil, Q.sSeq, Q.sRet, Q.sExpr, Q.sIf, Q.sSet, Q.sSetL, Q.sAsg, Q.sFor, Q.sPar2, Q.sPar3, Q.pNil, Q.pD, Q.pO, Q.gN, Q.gT, Q.gsNil, Q.gsCons, Q.iQ, Q.itD, Q.iEn, Q.itE, Q.rg1, Q.oSome, Q.tSlQ, Q.revD, Q.tOwnM, Q.appC, Q.popC, Q.extC, Q.ownL, Q.tRepL, Q.repC, Q.sSetIx, Q.ixOwn, Q.tLcQ, Q.noOwn, Q.rstQ, Q.wipeQ, Q.sDn, Q.sSetD, Q.tDgetN, Q.dOwn, Q.sNever, Q.isB, Q.listD, Q.listC, Q.reprD, Q.Sl.isOwn, Q.sAugIx, Q.setQ, Q.tLcM, Q.augC, Q.keyD, Q.rg3, List.map_cons, List.map_nil, List.replicate_succ, List.replicate_zero, List.cons_append, List.nil_append, List.append_nil, List.getElem?_cons_zero, List.getElem?_cons_succ, List.set_cons_zero, List.set_cons_succ, List.getD_cons_zero, List.getD_cons_succ, List.filterMap_cons, List.filterMap_nil, List.all_cons, List.all_nil, Bool.and_true, Bool.true_and, Bool.not_true, Bool.not_false, Bool.not_eq_true, Bool.false_eq_true, Bool.and_self, if_true, if_false, true_and, and_true, ↓reduceIte, eqD, neD, sh_int, eqv_int, eqv_strs, sDraw, List.length_cons, List.length_nil, Nat.zero_add, Nat.reduceAdd, decide_true, eq_self]
              refine ⟨shortW (ds ++ [[false, true]]).reverse, m, rfl, short_pm _, by have := short_len (ds ++ [[false, true]]).reverse; omega, m8, ?_⟩
              rw [rows_same m8]
              refine ⟨tr_, tn_.text, tn_.text, ?_⟩
              try rw [eqv_strs]
              try simp only [Q.isDc, Q.sPar2K, Q.tDisp2, Q.tIxK, Q.sSetIxK, Q.tVd, Q.tGetK, Q.iKeysQ, Q.tDispK, Q.tVals, Q.tAddL, Q.sSetM, Q.sAl2, Q.tAlApp2, Q.sFrz2, Q.iZipM, Q.itZm, Q.tLcM, Q.addF, Q.isN, Q.mulF, Q.bandI, Q.iZip, Q.itZ, Q.slD, Q.enOf, Q.tV, Q.tK, Q.t2, Q.t1, Q.tB, Q.cI, Q.cIp, Q.subI, Q.fdivI, Q.fdivW, Q.modI, Q.ltI, Q.leI, Q.gtI, Q.geI, Q.negI, Q.vAnd, Q.vNot, Q.qAnd, Q.qOr, Q.qNot, Q.qIf, Q.chI, Q.tTupQ, Q.dNil, Q.dCons, Q.tLstQ, Q.tFz, Q.tCA, Q.lenD, Q.tupD, Q.isD, Q.isInt, Q.isBool, Q.isTup, Q.isStr, Q.tLenN, Q.tIxN, Q.setQ, Q.aNil, Q.aD, Q.aK, Q.tCallQ, Q.tCallKQ, Q.pick, Q.sNil, Q.sSeq, Q.sRet, Q.sExpr, Q.sIf, Q.sSet, Q.sSetL, Q.sAsg, Q.sFor, Q.sPar2, Q.sPar3, Q.pNil, Q.pD, Q.pO, Q.gN, Q.gT, Q.gsNil, Q.gsCons, Q.iQ, Q.itD, Q.iEn, Q.itE, Q.rg1, Q.oSome, Q.tSlQ, Q.revD, Q.tOwnM, Q.appC, Q.popC, Q.extC, Q.ownL, Q.tRepL, Q.repC, Q.sSetIx, Q.ixOwn, Q.tLcQ, Q.noOwn, Q.rstQ, Q.wipeQ, Q.sDn, Q.sSetD, Q.tDgetN, Q.dOwn, Q.sNever, Q.isB, Q.listD, Q.listC, Q.reprD, Q.Sl.isOwn, Q.sAugIx, Q.setQ, Q.tLcM, Q.augC, Q.keyD, Q.rg3, List.map_cons, List.map_nil, List.replicate_succ, List.replicate_zero, List.cons_append, List.nil_append, List.append_nil, List.getElem?_cons_zero, List.getElem?_cons_succ, List.set_cons_zero, List.set_cons_succ, List.getD_cons_zero, List.getD_cons_succ, List.filterMap_cons, List.filterMap_nil, List.all_cons, List.all_nil, Bool.and_true, Bool.true_and, Bool.not_true, Bool.not_false, Bool.not_eq_true, Bool.false_eq_true, Bool.and_self, if_true, if_false, true_and, and_true, ↓reduceIte, eqD, neD, sh_int, eqv_int, eqv_strs, sDraw, List.length_cons, List.length_nil, Nat.zero_add, Nat.reduceAdd, decide_true, eq_self]
              exact s8_ _ _ _ _ _ _
            · rw [decide_eq_false (show ¬ (500 : Int) < ((S : Nat) : Int) by omega)]
              try simp only [Q.isDc, Q.sPar2K, Q.tDisp2, Q.tIxK, Q.sSetIxK, Q.tVd, Q.tGetK, Q.iKeysQ, Q.tDispK, Q.tVals, Q.tAddL, Q.sSetM, Q.sAl2, Q.tAlApp2, Q.sFrz2, Q.iZipM, Q.itZm, Q.tLcM, Q.addF, Q.isN, Q.mulF, Q.bandI, Q.iZip, Q.itZ, Q.slD, Q.enOf, Q.tV, Q.tK, Q.t2, Q.t1, Q.tB, Q.cI, Q.cIp, Q.subI, Q.fdivI, Q.fdivW, Q.modI, Q.ltI, Q.leI, Q.gtI, Q.geI, Q.negI, Q.vAnd, Q.vNot, Q.qAnd, Q.qOr, Q.qNot, Q.qIf, Q.chI, Q.tTupQ, Q.dNil, Q.dCons, Q.tLstQ, Q.tFz, Q.tCA, Q.lenD, Q.tupD, Q.isD, Q.isInt, Q.isBool, Q.isTup, Q.isStr, Q.tLenN, Q.tIxN, Q.setQ, Q.aNil, Q.aD, Q.aK, Q.tCallQ, Q.tCallKQ, Q.pick, Q.sNil, Q.sSeq, Q.sRet, Q.sExpr, Q.sIf, Q.sSet, Q.sSetL, Q.sAsg, Q.sFor, Q.sPar2, Q.sPar3, Q.pNil, Q.pD, Q.pO, Q.gN, Q.gT, Q.gsNil, Q.gsCons, Q.iQ, Q.itD, Q.iEn, Q.itE, Q.rg1, Q.oSome, Q.tSlQ, Q.revD, Q.tOwnM, Q.appC, Q.popC, Q.extC, Q.ownL, Q.tRepL, Q.repC, Q.sSetIx, Q.ixOwn, Q.tLcQ, Q.noOwn, Q.rstQ, Q.wipeQ, Q.sDn, Q.sSetD, Q.tDgetN, Q.dOwn, Q.sNever, Q.isB, Q.listD, Q.listC, Q.reprD, Q.Sl.isOwn, Q.sAugIx, Q.setQ, Q.tLcM, Q.augC, Q.keyD, Q.rg3, List.map_cons, List.map_nil, List.replicate_succ, List.replicate_zero, List.cons_append, List.nil_append, List.append_nil, List.getElem?_cons_zero, List.getElem?_cons_succ, List.set_cons_zero, List.set_cons_succ, List.getD_cons_zero, List.getD_cons_succ, List.filterMap_cons, List.filterMap_nil, List.all_cons, List.all_nil, Bool.and_true, Bool.true_and, Bool.not_true, Bool.not_false, Bool.not_eq_true, Bool.false_eq_true, Bool.and_self, if_true, if_false, true_and, and_true, ↓reduceIte, eqD, neD, sh_int, eqv_int, eqv_strs, sDraw, List.length_cons, List.length_nil, Nat.zero_add, Nat.reduceAdd, decide_true, eq_self]
              exact s8_ _ _ _ _ _ _
          · rw [decide_eq_false (show ¬ ((ds.length : Nat) : Int) < 12 by omega)]
            try simp only [Q.isDc, Q.sPar2K, Q.tDisp2, Q.tIxK, Q.sSetIxK, Q.tVd, Q.tGetK, Q.iKeysQ, Q.tDispK, Q.tVals, Q.tAddL, Q.sSetM, Q.sAl2, Q.tAlApp2, Q.sFrz2, Q.iZipM, Q.itZm, Q.tLcM, Q.addF, Q.isN, Q.mulF, Q.bandI, Q.iZip, Q.itZ, Q.slD, Q.enOf, Q.tV, Q.tK, Q.t2, Q.t1, Q.tB, Q.cI, Q.cIp, Q.subI, Q.fdivI, Q.fdivW, Q.modI, Q.ltI, Q.leI, Q.gtI, Q.geI, Q.negI, Q.vAnd, Q.vNot, Q.qAnd, Q.qOr, Q.qNot, Q.qIf, Q.chI, Q.tTupQ, Q.dNil, Q.dCons, Q.tLstQ, Q.tFz, Q.tCA, Q.lenD, Q.tupD, Q.isD, Q.isInt, Q.isBool, Q.isTup, Q.isStr, Q.tLenN, Q.tIxN, Q.setQ, Q.aNil, Q.aD, Q.aK, Q.tCallQ, Q.tCallKQ, Q.pick, Q.sNil, Q.sSeq, Q.sRet, Q.sExpr, Q.sIf, Q.sSet, Q.sSetL, Q.sAsg, Q.sFor, Q.sPar2, Q.sPar3, Q.pNil, Q.pD, Q.pO, Q.gN, Q.gT, Q.gsNil, Q.gsCons, Q.iQ, Q.itD, Q.iEn, Q.itE, Q.rg1, Q.oSome, Q.tSlQ, Q.revD, Q.tOwnM, Q.appC, Q.popC, Q.extC, Q.ownL, Q.tRepL, Q.repC, Q.sSetIx, Q.ixOwn, Q.tLcQ, Q.noOwn, Q.rstQ, Q.wipeQ, Q.sDn, Q.sSetD, Q.tDgetN, Q.dOwn, Q.sNever, Q.isB, Q.listD, Q.listC, Q.reprD, Q.Sl.isOwn, Q.sAugIx, Q.setQ, Q.tLcM, Q.augC, Q.keyD, Q.rg3, List.map_cons, List.map_nil, List.replicate_succ, List.replicate_zero, List.cons_append, List.nil_append, List.append_nil, List.getElem?_cons_zero, List.getElem?_cons_succ, List.set_cons_zero, List.set_cons_succ, List.getD_cons_zero, List.getD_cons_succ, List.filterMap_cons, List.filterMap_nil, List.all_cons, List.all_nil, Bool.and_true, Bool.true_and, Bool.not_true, Bool.not_false, Bool.not_eq_true, Bool.false_eq_true, Bool.and_self, if_true, if_false, true_and, and_true, ↓reduceIte, eqD, neD, sh_int, eqv_int, eqv_strs, sDraw, List.length_cons, List.length_nil, Nat.zero_add, Nat.reduceAdd, decide_true, eq_self]
            exact s8_ _ _ _ _ _ _
        show sSeq _ law_s0b_s7 _ _
        simp only [Q.isDc, Q.sPar2K, Q.tDisp2, Q.tIxK, Q.sSetIxK, Q.tVd, Q.tGetK, Q.iKeysQ, Q.tDispK, Q.tVals, Q.tAddL, Q.sSetM, Q.sAl2, Q.tAlApp2, Q.sFrz2, Q.iZipM, Q.itZm, Q.tLcM, Q.addF, Q.isN, Q.mulF, Q.bandI, Q.iZip, Q.itZ, Q.slD, Q.enOf, Q.tV, Q.tK, Q.t2, Q.t1, Q.tB, Q.cI, Q.cIp, Q.subI, Q.fdivI, Q.fdivW, Q.modI, Q.ltI, Q.leI, Q.gtI, Q.geI, Q.negI, Q.vAnd, Q.vNot, Q.qAnd, Q.qOr, Q.qNot, Q.qIf, Q.chI, Q.tTupQ, Q.dNil, Q.dCons, Q.tLstQ, Q.tFz, Q.tCA, Q.lenD, Q.tupD, Q.isD, Q.isInt, Q.isBool, Q.isTup, Q.isStr, Q.tLenN, Q.tIxN, Q.setQ, Q.aNil, Q.aD, Q.aK, Q.tCallQ, Q.tCallKQ, Q.pick, Q.sNil, Q.sSeq, Q.sRet, Q.sExpr, Q.sIf, Q.sSet, Q.sSetL, Q.sAsg, Q.sFor, Q.sPar2, Q.sPar3, Q.pNil, Q.pD, Q.pO, Q.gN, Q.gT, Q.gsNil, Q.gsCons, Q.iQ, Q.itD, Q.iEn, Q.itE, Q.rg1, Q.oSome, Q.tSlQ, Q.revD, Q.tOwnM, Q.appC, Q.popC, Q.extC, Q.ownL, Q.tRepL, Q.repC, Q.sSetIx, Q.ixOwn, Q.tLcQ, Q.noOwn, Q.rstQ, Q.wipeQ, Q.sDn, Q.sSetD, Q.tDgetN, Q.dOwn, Q.sNever, Q.isB, Q.listD, Q.listC, Q.reprD, Q.Sl.isOwn, Q.sAugIx, Q.setQ, Q.tLcM, Q.augC, Q.keyD, Q.rg3, List.map_cons, List.map_nil, List.replicate_succ, List.replicate_zero, List.cons_append, List.nil_append, List.append_nil, List.getElem?_cons_zero, List.getElem?_cons_succ, List.set_cons_zero, List.set_cons_succ, List.getD_cons_zero, List.getD_cons_succ, List.filterMap_cons, List.filterMap_nil, List.all_cons, List.all_nil, Bool.and_true, Bool.true_and, Bool.not_true, Bool.not_false, Bool.not_eq_true, Bool.false_eq_true, Bool.and_self, if_true, if_false, true_and, and_true, ↓reduceIte, eqD, neD, sh_int, eqv_int, eqv_strs, sDraw, List.length_cons, List.length_nil, Nat.zero_add, Nat.reduceAdd, decide_true, eq_self]
        refine ⟨by decide, by decide, ?_⟩
        refine for_inv (G := fun i : Nat => PyData.int ((0 : Int) + (i : Int))) (fun _ ρ => ∃ s7 s8 s9 s10 s11 s12, ρ = [.un, .dk, .d (.int ((0 : Int) + (x : Int))), .d (desksD ds), .d (.list ((List.range S).map (tupI ∘ fun n => codeAt ds ((n : Nat) : Int)))), .d (.tuple ((fullW ds.reverse).map .int)), .d (tupI (fullW ds.reverse)), s7, s8, s9, s10, s11, s12, .un, .un]) (fun t y ht ρ hρ E2 hn2 hr2 _ _ => ?_) (fun ρ hρ => ?_) ⟨_, _, _, _, _, _, rfl⟩
        · obtain ⟨s7, s8, s9, s10, s11, s12, rfl⟩ := hρ
          simp only [gN, Q.isDc, Q.sPar2K, Q.tDisp2, Q.tIxK, Q.sSetIxK, Q.tVd, Q.tGetK, Q.iKeysQ, Q.tDispK, Q.tVals, Q.tAddL, Q.sSetM, Q.sAl2, Q.tAlApp2, Q.sFrz2, Q.iZipM, Q.itZm, Q.tLcM, Q.addF, Q.isN, Q.mulF, Q.bandI, Q.iZip, Q.itZ, Q.slD, Q.enOf, Q.tV, Q.tK, Q.t2, Q.t1, Q.tB, Q.cI, Q.cIp, Q.subI, Q.fdivI, Q.fdivW, Q.modI, Q.ltI, Q.leI, Q.gtI, Q.geI, Q.negI, Q.vAnd, Q.vNot, Q.qAnd, Q.qOr, Q.qNot, Q.qIf, Q.chI, Q.tTupQ, Q.dNil, Q.dCons, Q.tLstQ, Q.tFz, Q.tCA, Q.lenD, Q.tupD, Q.isD, Q.isInt, Q.isBool, Q.isTup, Q.isStr, Q.tLenN, Q.tIxN, Q.setQ, Q.aNil, Q.aD, Q.aK, Q.tCallQ, Q.tCallKQ, Q.pick, Q.sNil, Q.sSeq, Q.sRet, Q.sExpr, Q.sIf, Q.sSet, Q.sSetL, Q.sAsg, Q.sFor, Q.sPar2, Q.sPar3, Q.pNil, Q.pD, Q.pO, Q.gN, Q.gT, Q.gsNil, Q.gsCons, Q.iQ, Q.itD, Q.iEn, Q.itE, Q.rg1, Q.oSome, Q.tSlQ, Q.revD, Q.tOwnM, Q.appC, Q.popC, Q.extC, Q.ownL, Q.tRepL, Q.repC, Q.sSetIx, Q.ixOwn, Q.tLcQ, Q.noOwn, Q.rstQ, Q.wipeQ, Q.sDn, Q.sSetD, Q.tDgetN, Q.dOwn, Q.sNever, Q.isB, Q.listD, Q.listC, Q.reprD, Q.Sl.isOwn, Q.sAugIx, Q.setQ, Q.tLcM, Q.augC, Q.keyD, Q.rg3, List.map_cons, List.map_nil, List.replicate_succ, List.replicate_zero, List.cons_append, List.nil_append, List.append_nil, List.getElem?_cons_zero, List.getElem?_cons_succ, List.set_cons_zero, List.set_cons_succ, List.getD_cons_zero, List.getD_cons_succ, List.filterMap_cons, List.filterMap_nil, List.all_cons, List.all_nil, Bool.and_true, Bool.true_and, Bool.not_true, Bool.not_false, Bool.not_eq_true, Bool.false_eq_true, Bool.and_self, if_true, if_false, true_and, and_true, ↓reduceIte, eqD, neD, sh_int, eqv_int, eqv_strs, sDraw, List.length_cons, List.length_nil, Nat.zero_add, Nat.reduceAdd, decide_true, eq_self]
          show sSeq _ law_s0b_s6b_s1 _ _
          simp only [Q.isDc, Q.sPar2K, Q.tDisp2, Q.tIxK, Q.sSetIxK, Q.tVd, Q.tGetK, Q.iKeysQ, Q.tDispK, Q.tVals, Q.tAddL, Q.sSetM, Q.sAl2, Q.tAlApp2, Q.sFrz2, Q.iZipM, Q.itZm, Q.tLcM, Q.addF, Q.isN, Q.mulF, Q.bandI, Q.iZip, Q.itZ, Q.slD, Q.enOf, Q.tV, Q.tK, Q.t2, Q.t1, Q.tB, Q.cI, Q.cIp, Q.subI, Q.fdivI, Q.fdivW, Q.modI, Q.ltI, Q.leI, Q.gtI, Q.geI, Q.negI, Q.vAnd, Q.vNot, Q.qAnd, Q.qOr, Q.qNot, Q.qIf, Q.chI, Q.tTupQ, Q.dNil, Q.dCons, Q.tLstQ, Q.tFz, Q.tCA, Q.lenD, Q.tupD, Q.isD, Q.isInt, Q.isBool, Q.isTup, Q.isStr, Q.tLenN, Q.tIxN, Q.setQ, Q.aNil, Q.aD, Q.aK, Q.tCallQ, Q.tCallKQ, Q.pick, Q.sNil, Q.sSeq, Q.sRet, Q.sExpr, Q.sIf, Q.sSet, Q.sSetL, Q.sAsg, Q.sFor, Q.sPar2, Q.sPar3, Q.pNil, Q.pD, Q.pO, Q.gN, Q.gT, Q.gsNil, Q.gsCons, Q.iQ, Q.itD, Q.iEn, Q.itE, Q.rg1, Q.oSome, Q.tSlQ, Q.revD, Q.tOwnM, Q.appC, Q.popC, Q.extC, Q.ownL, Q.tRepL, Q.repC, Q.sSetIx, Q.ixOwn, Q.tLcQ, Q.noOwn, Q.rstQ, Q.wipeQ, Q.sDn, Q.sSetD, Q.tDgetN, Q.dOwn, Q.sNever, Q.isB, Q.listD, Q.listC, Q.reprD, Q.Sl.isOwn, Q.sAugIx, Q.setQ, Q.tLcM, Q.augC, Q.keyD, Q.rg3, List.map_cons, List.map_nil, List.replicate_succ, List.replicate_zero, List.cons_append, List.nil_append, List.append_nil, List.getElem?_cons_zero, List.getElem?_cons_succ, List.set_cons_zero, List.set_cons_succ, List.getD_cons_zero, List.getD_cons_succ, List.filterMap_cons, List.filterMap_nil, List.all_cons, List.all_nil, Bool.and_true, Bool.true_and, Bool.not_true, Bool.not_false, Bool.not_eq_true, Bool.false_eq_true, Bool.and_self, if_true, if_false, true_and, and_true, ↓reduceIte, eqD, neD, sh_int, eqv_int, eqv_strs, sDraw, List.length_cons, List.length_nil, Nat.zero_add, Nat.reduceAdd, decide_true, eq_self]
          refine ⟨by decide, by decide, fun r r0 r1 => ?_⟩
          obtain ⟨m, rfl⟩ := Int.eq_ofNat_of_zero_le r0
          have m8 : m ≤ 8 := by omega
          have nb := cn_bd (fullW ds.reverse) m8
          have tn_ : Tn 0 4 (.int (cn (fullW ds.reverse) m)) := tn_int nb.1 nb.2
          have tr_ := rep2 tn_ (by decide) (by decide)
          have s2_ : law_s0b_s6b_s2 E2 [.un, .dk, .d (.int ((0 : Int) + (x : Int))), .d (desksD ds), .d (.list ((List.range S).map (tupI ∘ fun n => codeAt ds ((n : Nat) : Int)))), .d (.tuple ((fullW ds.reverse).map .int)), .d (tupI (fullW ds.reverse)), .d (.int ((0 : Int) + (y : Int))), s8, .d (.int (m : Int)), .d (.int (cn (fullW ds.reverse) m)), s11, s12, .un, .un] := by
            simp only [law_s0b_s6b_s2, Q.isDc, Q.sPar2K, Q.tDisp2, Q.tIxK, Q.sSetIxK, Q.tVd, Q.tGetK, Q.iKeysQ, Q.tDispK, Q.tVals, Q.tAddL, Q.sSetM, Q.sAl2, Q.tAlApp2, Q.sFrz2, Q.iZipM, Q.itZm, Q.tLcM, Q.addF, Q.isN, Q.mulF, Q.bandI, Q.iZip, Q.itZ, Q.slD, Q.enOf, Q.tV, Q.tK, Q.t2, Q.t1, Q.tB, Q.cI, Q.cIp, Q.subI, Q.fdivI, Q.fdivW, Q.modI, Q.ltI, Q.leI, Q.gtI, Q.geI, Q.negI, Q.vAnd, Q.vNot, Q.qAnd, Q.qOr, Q.qNot, Q.qIf, Q.chI, Q.tTupQ, Q.dNil, Q.dCons, Q.tLstQ, Q.tFz, Q.tCA, Q.lenD, Q.tupD, Q.isD, Q.isInt, Q.isBool, Q.isTup, Q.isStr, Q.tLenN, Q.tIxN, Q.setQ, Q.aNil, Q.aD, Q.aK, Q.tCallQ, Q.tCallKQ, Q.pick, Q.sNil, Q.sSeq, Q.sRet, Q.sExpr, Q.sIf, Q.sSet, Q.sSetL, Q.sAsg, Q.sFor, Q.sPar2, Q.sPar3, Q.pNil, Q.pD, Q.pO, Q.gN, Q.gT, Q.gsNil, Q.gsCons, Q.iQ, Q.itD, Q.iEn, Q.itE, Q.rg1, Q.oSome, Q.tSlQ, Q.revD, Q.tOwnM, Q.appC, Q.popC, Q.extC, Q.ownL, Q.tRepL, Q.repC, Q.sSetIx, Q.ixOwn, Q.tLcQ, Q.noOwn, Q.rstQ, Q.wipeQ, Q.sDn, Q.sSetD, Q.tDgetN, Q.dOwn, Q.sNever, Q.isB, Q.listD, Q.listC, Q.reprD, Q.Sl.isOwn, Q.sAugIx, Q.setQ, Q.tLcM, Q.augC, Q.keyD, Q.rg3, List.map_cons, List.map_nil, List.replicate_succ, List.replicate_zero, List.cons_append, List.nil_append, List.append_nil, List.getElem?_cons_zero, List.getElem?_cons_succ, List.set_cons_zero, List.set_cons_succ, List.getD_cons_zero, List.getD_cons_succ, List.filterMap_cons, List.filterMap_nil, List.all_cons, List.all_nil, Bool.and_true, Bool.true_and, Bool.not_true, Bool.not_false, Bool.not_eq_true, Bool.false_eq_true, Bool.and_self, if_true, if_false, true_and, and_true, ↓reduceIte, eqD, neD, sh_int, eqv_int, eqv_strs, sDraw, List.length_cons, List.length_nil, Nat.zero_add, Nat.reduceAdd, decide_true, eq_self]
            refine ⟨tr_, ds, rfl, hd, ?_⟩
            try simp only [Q.isDc, Q.sPar2K, Q.tDisp2, Q.tIxK, Q.sSetIxK, Q.tVd, Q.tGetK, Q.iKeysQ, Q.tDispK, Q.tVals, Q.tAddL, Q.sSetM, Q.sAl2, Q.tAlApp2, Q.sFrz2, Q.iZipM, Q.itZm, Q.tLcM, Q.addF, Q.isN, Q.mulF, Q.bandI, Q.iZip, Q.itZ, Q.slD, Q.enOf, Q.tV, Q.tK, Q.t2, Q.t1, Q.tB, Q.cI, Q.cIp, Q.subI, Q.fdivI, Q.fdivW, Q.modI, Q.ltI, Q.leI, Q.gtI, Q.geI, Q.negI, Q.vAnd, Q.vNot, Q.qAnd, Q.qOr, Q.qNot, Q.qIf, Q.chI, Q.tTupQ, Q.dNil, Q.dCons, Q.tLstQ, Q.tFz, Q.tCA, Q.lenD, Q.tupD, Q.isD, Q.isInt, Q.isBool, Q.isTup, Q.isStr, Q.tLenN, Q.tIxN, Q.setQ, Q.aNil, Q.aD, Q.aK, Q.tCallQ, Q.tCallKQ, Q.pick, Q.sNil, Q.sSeq, Q.sRet, Q.sExpr, Q.sIf, Q.sSet, Q.sSetL, Q.sAsg, Q.sFor, Q.sPar2, Q.sPar3, Q.pNil, Q.pD, Q.pO, Q.gN, Q.gT, Q.gsNil, Q.gsCons, Q.iQ, Q.itD, Q.iEn, Q.itE, Q.rg1, Q.oSome, Q.tSlQ, Q.revD, Q.tOwnM, Q.appC, Q.popC, Q.extC, Q.ownL, Q.tRepL, Q.repC, Q.sSetIx, Q.ixOwn, Q.tLcQ, Q.noOwn, Q.rstQ, Q.wipeQ, Q.sDn, Q.sSetD, Q.tDgetN, Q.dOwn, Q.sNever, Q.isB, Q.listD, Q.listC, Q.reprD, Q.Sl.isOwn, Q.sAugIx, Q.setQ, Q.tLcM, Q.augC, Q.keyD, Q.rg3, List.map_cons, List.map_nil, List.replicate_succ, List.replicate_zero, List.cons_append, List.nil_append, List.append_nil, List.getElem?_cons_zero, List.getElem?_cons_succ, List.set_cons_zero, List.set_cons_succ, List.getD_cons_zero, List.getD_cons_succ, List.filterMap_cons, List.filterMap_nil, List.all_cons, List.all_nil, Bool.and_true, Bool.true_and, Bool.not_true, Bool.not_false, Bool.not_eq_true, Bool.false_eq_true, Bool.and_self, if_true, if_false, true_and, and_true, ↓reduceIte, eqD, neD, sh_int, eqv_int, eqv_strs, sDraw, List.length_cons, List.length_nil, Nat.zero_add, Nat.reduceAdd, decide_true, eq_self]
            refine ⟨shortW ds.reverse, m, rfl, short_pm _, by have := short_len ds.reverse; omega, m8, ?_⟩
            rw [rows_same m8]
            refine ⟨tr_, tn_.text, tn_.text, ?_⟩
            try rw [eqv_strs]
            try simp only [Q.isDc, Q.sPar2K, Q.tDisp2, Q.tIxK, Q.sSetIxK, Q.tVd, Q.tGetK, Q.iKeysQ, Q.tDispK, Q.tVals, Q.tAddL, Q.sSetM, Q.sAl2, Q.tAlApp2, Q.sFrz2, Q.iZipM, Q.itZm, Q.tLcM, Q.addF, Q.isN, Q.mulF, Q.bandI, Q.iZip, Q.itZ, Q.slD, Q.enOf, Q.tV, Q.tK, Q.t2, Q.t1, Q.tB, Q.cI, Q.cIp, Q.subI, Q.fdivI, Q.fdivW, Q.modI, Q.ltI, Q.leI, Q.gtI, Q.geI, Q.negI, Q.vAnd, Q.vNot, Q.qAnd, Q.qOr, Q.qNot, Q.qIf, Q.chI, Q.tTupQ, Q.dNil, Q.dCons, Q.tLstQ, Q.tFz, Q.tCA, Q.lenD, Q.tupD, Q.isD, Q.isInt, Q.isBool, Q.isTup, Q.isStr, Q.tLenN, Q.tIxN, Q.setQ, Q.aNil, Q.aD, Q.aK, Q.tCallQ, Q.tCallKQ, Q.pick, Q.sNil, Q.sSeq, Q.sRet, Q.sExpr, Q.sIf, Q.sSet, Q.sSetL, Q.sAsg, Q.sFor, Q.sPar2, Q.sPar3, Q.pNil, Q.pD, Q.pO, Q.gN, Q.gT, Q.gsNil, Q.gsCons, Q.iQ, Q.itD, Q.iEn, Q.itE, Q.rg1, Q.oSome, Q.tSlQ, Q.revD, Q.tOwnM, Q.appC, Q.popC, Q.extC, Q.ownL, Q.tRepL, Q.repC, Q.sSetIx, Q.ixOwn, Q.tLcQ, Q.noOwn, Q.rstQ, Q.wipeQ, Q.sDn, Q.sSetD, Q.tDgetN, Q.dOwn, Q.sNever, Q.isB, Q.listD, Q.listC, Q.reprD, Q.Sl.isOwn, Q.sAugIx, Q.setQ, Q.tLcM, Q.augC, Q.keyD, Q.rg3, List.map_cons, List.map_nil, List.replicate_succ, List.replicate_zero, List.cons_append, List.nil_append, List.append_nil, List.getElem?_cons_zero, List.getElem?_cons_succ, List.set_cons_zero, List.set_cons_succ, List.getD_cons_zero, List.getD_cons_succ, List.filterMap_cons, List.filterMap_nil, List.all_cons, List.all_nil, Bool.and_true, Bool.true_and, Bool.not_true, Bool.not_false, Bool.not_eq_true, Bool.false_eq_true, Bool.and_self, if_true, if_false, true_and, and_true, ↓reduceIte, eqD, neD, sh_int, eqv_int, eqv_strs, sDraw, List.length_cons, List.length_nil, Nat.zero_add, Nat.reduceAdd, decide_true, eq_self]
            exact hn2 _ ⟨_, _, _, _, _, _, by rfl⟩
          show sSeq _ law_s0b_s6b_s2 _ _
          simp only [Q.isDc, Q.sPar2K, Q.tDisp2, Q.tIxK, Q.sSetIxK, Q.tVd, Q.tGetK, Q.iKeysQ, Q.tDispK, Q.tVals, Q.tAddL, Q.sSetM, Q.sAl2, Q.tAlApp2, Q.sFrz2, Q.iZipM, Q.itZm, Q.tLcM, Q.addF, Q.isN, Q.mulF, Q.bandI, Q.iZip, Q.itZ, Q.slD, Q.enOf, Q.tV, Q.tK, Q.t2, Q.t1, Q.tB, Q.cI, Q.cIp, Q.subI, Q.fdivI, Q.fdivW, Q.modI, Q.ltI, Q.leI, Q.gtI, Q.geI, Q.negI, Q.vAnd, Q.vNot, Q.qAnd, Q.qOr, Q.qNot, Q.qIf, Q.chI, Q.tTupQ, Q.dNil, Q.dCons, Q.tLstQ, Q.tFz, Q.tCA, Q.lenD, Q.tupD, Q.isD, Q.isInt, Q.isBool, Q.isTup, Q.isStr, Q.tLenN, Q.tIxN, Q.setQ, Q.aNil, Q.aD, Q.aK, Q.tCallQ, Q.tCallKQ, Q.pick, Q.sNil, Q.sSeq, Q.sRet, Q.sExpr, Q.sIf, Q.sSet, Q.sSetL, Q.sAsg, Q.sFor, Q.sPar2, Q.sPar3, Q.pNil, Q.pD, Q.pO, Q.gN, Q.gT, Q.gsNil, Q.gsCons, Q.iQ, Q.itD, Q.iEn, Q.itE, Q.rg1, Q.oSome, Q.tSlQ, Q.revD, Q.tOwnM, Q.appC, Q.popC, Q.extC, Q.ownL, Q.tRepL, Q.repC, Q.sSetIx, Q.ixOwn, Q.tLcQ, Q.noOwn, Q.rstQ, Q.wipeQ, Q.sDn, Q.sSetD, Q.tDgetN, Q.dOwn, Q.sNever, Q.isB, Q.listD, Q.listC, Q.reprD, Q.Sl.isOwn, Q.sAugIx, Q.setQ, Q.tLcM, Q.augC, Q.keyD, Q.rg3, List.map_cons, List.map_nil, List.replicate_succ, List.replicate_zero, List.cons_append, List.nil_append, List.append_nil, List.getElem?_cons_zero, List.getElem?_cons_succ, List.set_cons_zero, List.set_cons_succ, List.getD_cons_zero, List.getD_cons_succ, List.filterMap_cons, List.filterMap_nil, List.all_cons, List.all_nil, Bool.and_true, Bool.true_and, Bool.not_true, Bool.not_false, Bool.not_eq_true, Bool.false_eq_true, Bool.and_self, if_true, if_false, true_and, and_true, ↓reduceIte, eqD, neD, sh_int, eqv_int, eqv_strs, sDraw, List.length_cons, List.length_nil, Nat.zero_add, Nat.reduceAdd, decide_true, eq_self]
          cases c : (!decide ((0 : Int) + (y : Int) = 1)) with
          | true =>
            try simp only [Q.isDc, Q.sPar2K, Q.tDisp2, Q.tIxK, Q.sSetIxK, Q.tVd, Q.tGetK, Q.iKeysQ, Q.tDispK, Q.tVals, Q.tAddL, Q.sSetM, Q.sAl2, Q.tAlApp2, Q.sFrz2, Q.iZipM, Q.itZm, Q.tLcM, Q.addF, Q.isN, Q.mulF, Q.bandI, Q.iZip, Q.itZ, Q.slD, Q.enOf, Q.tV, Q.tK, Q.t2, Q.t1, Q.tB, Q.cI, Q.cIp, Q.subI, Q.fdivI, Q.fdivW, Q.modI, Q.ltI, Q.leI, Q.gtI, Q.geI, Q.negI, Q.vAnd, Q.vNot, Q.qAnd, Q.qOr, Q.qNot, Q.qIf, Q.chI, Q.tTupQ, Q.dNil, Q.dCons, Q.tLstQ, Q.tFz, Q.tCA, Q.lenD, Q.tupD, Q.isD, Q.isInt, Q.isBool, Q.isTup, Q.isStr, Q.tLenN, Q.tIxN, Q.setQ, Q.aNil, Q.aD, Q.aK, Q.tCallQ, Q.tCallKQ, Q.pick, Q.sNil, Q.sSeq, Q.sRet, Q.sExpr, Q.sIf, Q.sSet, Q.sSetL, Q.sAsg, Q.sFor, Q.sPar2, Q.sPar3, Q.pNil, Q.pD, Q.pO, Q.gN, Q.gT, Q.gsNil, Q.gsCons, Q.iQ, Q.itD, Q.iEn, Q.itE, Q.rg1, Q.oSome, Q.tSlQ, Q.revD, Q.tOwnM, Q.appC, Q.popC, Q.extC, Q.ownL, Q.tRepL, Q.repC, Q.sSetIx, Q.ixOwn, Q.tLcQ, Q.noOwn, Q.rstQ, Q.wipeQ, Q.sDn, Q.sSetD, Q.tDgetN, Q.dOwn, Q.sNever, Q.isB, Q.listD, Q.listC, Q.reprD, Q.Sl.isOwn, Q.sAugIx, Q.setQ, Q.tLcM, Q.augC, Q.keyD, Q.rg3, List.map_cons, List.map_nil, List.replicate_succ, List.replicate_zero, List.cons_append, List.nil_append, List.append_nil, List.getElem?_cons_zero, List.getElem?_cons_succ, List.set_cons_zero, List.set_cons_succ, List.getD_cons_zero, List.getD_cons_succ, List.filterMap_cons, List.filterMap_nil, List.all_cons, List.all_nil, Bool.and_true, Bool.true_and, Bool.not_true, Bool.not_false, Bool.not_eq_true, Bool.false_eq_true, Bool.and_self, if_true, if_false, true_and, and_true, ↓reduceIte, eqD, neD, sh_int, eqv_int, eqv_strs, sDraw, List.length_cons, List.length_nil, Nat.zero_add, Nat.reduceAdd, decide_true, eq_self]
            exact ⟨ds, m, rfl, hd, by omega, m8, s2_⟩
          | false =>
            try simp only [Q.isDc, Q.sPar2K, Q.tDisp2, Q.tIxK, Q.sSetIxK, Q.tVd, Q.tGetK, Q.iKeysQ, Q.tDispK, Q.tVals, Q.tAddL, Q.sSetM, Q.sAl2, Q.tAlApp2, Q.sFrz2, Q.iZipM, Q.itZm, Q.tLcM, Q.addF, Q.isN, Q.mulF, Q.bandI, Q.iZip, Q.itZ, Q.slD, Q.enOf, Q.tV, Q.tK, Q.t2, Q.t1, Q.tB, Q.cI, Q.cIp, Q.subI, Q.fdivI, Q.fdivW, Q.modI, Q.ltI, Q.leI, Q.gtI, Q.geI, Q.negI, Q.vAnd, Q.vNot, Q.qAnd, Q.qOr, Q.qNot, Q.qIf, Q.chI, Q.tTupQ, Q.dNil, Q.dCons, Q.tLstQ, Q.tFz, Q.tCA, Q.lenD, Q.tupD, Q.isD, Q.isInt, Q.isBool, Q.isTup, Q.isStr, Q.tLenN, Q.tIxN, Q.setQ, Q.aNil, Q.aD, Q.aK, Q.tCallQ, Q.tCallKQ, Q.pick, Q.sNil, Q.sSeq, Q.sRet, Q.sExpr, Q.sIf, Q.sSet, Q.sSetL, Q.sAsg, Q.sFor, Q.sPar2, Q.sPar3, Q.pNil, Q.pD, Q.pO, Q.gN, Q.gT, Q.gsNil, Q.gsCons, Q.iQ, Q.itD, Q.iEn, Q.itE, Q.rg1, Q.oSome, Q.tSlQ, Q.revD, Q.tOwnM, Q.appC, Q.popC, Q.extC, Q.ownL, Q.tRepL, Q.repC, Q.sSetIx, Q.ixOwn, Q.tLcQ, Q.noOwn, Q.rstQ, Q.wipeQ, Q.sDn, Q.sSetD, Q.tDgetN, Q.dOwn, Q.sNever, Q.isB, Q.listD, Q.listC, Q.reprD, Q.Sl.isOwn, Q.sAugIx, Q.setQ, Q.tLcM, Q.augC, Q.keyD, Q.rg3, List.map_cons, List.map_nil, List.replicate_succ, List.replicate_zero, List.cons_append, List.nil_append, List.append_nil, List.getElem?_cons_zero, List.getElem?_cons_succ, List.set_cons_zero, List.set_cons_succ, List.getD_cons_zero, List.getD_cons_succ, List.filterMap_cons, List.filterMap_nil, List.all_cons, List.all_nil, Bool.and_true, Bool.true_and, Bool.not_true, Bool.not_false, Bool.not_eq_true, Bool.false_eq_true, Bool.and_self, if_true, if_false, true_and, and_true, ↓reduceIte, eqD, neD, sh_int, eqv_int, eqv_strs, sDraw, List.length_cons, List.length_nil, Nat.zero_add, Nat.reduceAdd, decide_true, eq_self]
            exact ⟨ds, m, rfl, hd, by omega, m8, s2_⟩
        · obtain ⟨s7, s8, s9, s10, s11, s12, rfl⟩ := hρ
          exact s7_ _ _ _ _ _ _
      show sSeq _ law_s0b_s6 _ _
      simp only [Q.isDc, Q.sPar2K, Q.tDisp2, Q.tIxK, Q.sSetIxK, Q.tVd, Q.tGetK, Q.iKeysQ, Q.tDispK, Q.tVals, Q.tAddL, Q.sSetM, Q.sAl2, Q.tAlApp2, Q.sFrz2, Q.iZipM, Q.itZm, Q.tLcM, Q.addF, Q.isN, Q.mulF, Q.bandI, Q.iZip, Q.itZ, Q.slD, Q.enOf, Q.tV, Q.tK, Q.t2, Q.t1, Q.tB, Q.cI, Q.cIp, Q.subI, Q.fdivI, Q.fdivW, Q.modI, Q.ltI, Q.leI, Q.gtI, Q.geI, Q.negI, Q.vAnd, Q.vNot, Q.qAnd, Q.qOr, Q.qNot, Q.qIf, Q.chI, Q.tTupQ, Q.dNil, Q.dCons, Q.tLstQ, Q.tFz, Q.tCA, Q.lenD, Q.tupD, Q.isD, Q.isInt, Q.isBool, Q.isTup, Q.isStr, Q.tLenN, Q.tIxN, Q.setQ, Q.aNil, Q.aD, Q.aK, Q.tCallQ, Q.tCallKQ, Q.pick, Q.sNil, Q.sSeq, Q.sRet, Q.sExpr, Q.sIf, Q.sSet, Q.sSetL, Q.sAsg, Q.sFor, Q.sPar2, Q.sPar3, Q.pNil, Q.pD, Q.pO, Q.gN, Q.gT, Q.gsNil, Q.gsCons, Q.iQ, Q.itD, Q.iEn, Q.itE, Q.rg1, Q.oSome, Q.tSlQ, Q.revD, Q.tOwnM, Q.appC, Q.popC, Q.extC, Q.ownL, Q.tRepL, Q.repC, Q.sSetIx, Q.ixOwn, Q.tLcQ, Q.noOwn, Q.rstQ, Q.wipeQ, Q.sDn, Q.sSetD, Q.tDgetN, Q.dOwn, Q.sNever, Q.isB, Q.listD, Q.listC, Q.reprD, Q.Sl.isOwn, Q.sAugIx, Q.setQ, Q.tLcM, Q.augC, Q.keyD, Q.rg3, List.map_cons, List.map_nil, List.replicate_succ, List.replicate_zero, List.cons_append, List.nil_append, List.append_nil, List.getElem?_cons_zero, List.getElem?_cons_succ, List.set_cons_zero, List.set_cons_succ, List.getD_cons_zero, List.getD_cons_succ, List.filterMap_cons, List.filterMap_nil, List.all_cons, List.all_nil, Bool.and_true, Bool.true_and, Bool.not_true, Bool.not_false, Bool.not_eq_true, Bool.false_eq_true, Bool.and_self, if_true, if_false, true_and, and_true, ↓reduceIte, eqD, neD, sh_int, eqv_int, eqv_strs, sDraw, List.length_cons, List.length_nil, Nat.zero_add, Nat.reduceAdd, decide_true, eq_self]
      refine ⟨by decide, by decide, ?_⟩
      have at_c : ∀ n, n < S → atI ((List.range S).map (tupI ∘ fun n => codeAt ds ((n : Nat) : Int))) ((n : Nat) : Int) = some (tupI (codeAt ds (n : Nat))) := fun n hn2 => by
        refine atI_nat ?_
        rw [List.getElem?_map, List.getElem?_range hn2]; rfl
      have at_w : ∀ n, n < S → atI ((fullW ds.reverse).map PyData.int) ((n : Nat) : Int) = some (.int (wR ds.reverse (n : Nat))) := fun n hn2 => by
        refine atI_nat ?_
        rw [cds.fw, List.map_map, List.getElem?_map, List.getElem?_range hn2]; rfl
      refine for_inv (G := fun i : Nat => PyData.int ((0 : Int) + (i : Int))) (fun _ ρ => ∃ s7 s8, ρ = [.un, .dk, .d (.int ((0 : Int) + (x : Int))), .d (desksD ds), .d (.list ((List.range S).map (tupI ∘ fun n => codeAt ds ((n : Nat) : Int)))), .d (.tuple ((fullW ds.reverse).map .int)), .d (tupI (fullW ds.reverse)), s7, s8, s9, s10, s11, s12, .un, .un])
        (fun t y ht ρ hρ E2 hn2 hr2 _ _ => ?_) (fun ρ hρ => ?_) ⟨_, _, rfl⟩
      · obtain ⟨s7, s8, rfl⟩ := hρ
        simp only [gN, Q.isDc, Q.sPar2K, Q.tDisp2, Q.tIxK, Q.sSetIxK, Q.tVd, Q.tGetK, Q.iKeysQ, Q.tDispK, Q.tVals, Q.tAddL, Q.sSetM, Q.sAl2, Q.tAlApp2, Q.sFrz2, Q.iZipM, Q.itZm, Q.tLcM, Q.addF, Q.isN, Q.mulF, Q.bandI, Q.iZip, Q.itZ, Q.slD, Q.enOf, Q.tV, Q.tK, Q.t2, Q.t1, Q.tB, Q.cI, Q.cIp, Q.subI, Q.fdivI, Q.fdivW, Q.modI, Q.ltI, Q.leI, Q.gtI, Q.geI, Q.negI, Q.vAnd, Q.vNot, Q.qAnd, Q.qOr, Q.qNot, Q.qIf, Q.chI, Q.tTupQ, Q.dNil, Q.dCons, Q.tLstQ, Q.tFz, Q.tCA, Q.lenD, Q.tupD, Q.isD, Q.isInt, Q.isBool, Q.isTup, Q.isStr, Q.tLenN, Q.tIxN, Q.setQ, Q.aNil, Q.aD, Q.aK, Q.tCallQ, Q.tCallKQ, Q.pick, Q.sNil, Q.sSeq, Q.sRet, Q.sExpr, Q.sIf, Q.sSet, Q.sSetL, Q.sAsg, Q.sFor, Q.sPar2, Q.sPar3, Q.pNil, Q.pD, Q.pO, Q.gN, Q.gT, Q.gsNil, Q.gsCons, Q.iQ, Q.itD, Q.iEn, Q.itE, Q.rg1, Q.oSome, Q.tSlQ, Q.revD, Q.tOwnM, Q.appC, Q.popC, Q.extC, Q.ownL, Q.tRepL, Q.repC, Q.sSetIx, Q.ixOwn, Q.tLcQ, Q.noOwn, Q.rstQ, Q.wipeQ, Q.sDn, Q.sSetD, Q.tDgetN, Q.dOwn, Q.sNever, Q.isB, Q.listD, Q.listC, Q.reprD, Q.Sl.isOwn, Q.sAugIx, Q.setQ, Q.tLcM, Q.augC, Q.keyD, Q.rg3, List.map_cons, List.map_nil, List.replicate_succ, List.replicate_zero, List.cons_append, List.nil_append, List.append_nil, List.getElem?_cons_zero, List.getElem?_cons_succ, List.set_cons_zero, List.set_cons_succ, List.getD_cons_zero, List.getD_cons_succ, List.filterMap_cons, List.filterMap_nil, List.all_cons, List.all_nil, Bool.and_true, Bool.true_and, Bool.not_true, Bool.not_false, Bool.not_eq_true, Bool.false_eq_true, Bool.and_self, if_true, if_false, true_and, and_true, ↓reduceIte, eqD, neD, sh_int, eqv_int, eqv_strs, sDraw, List.length_cons, List.length_nil, Nat.zero_add, Nat.reduceAdd, decide_true, eq_self]
        show sSeq _ law_s0b_s5b_s1 _ _
        simp only [Q.isDc, Q.sPar2K, Q.tDisp2, Q.tIxK, Q.sSetIxK, Q.tVd, Q.tGetK, Q.iKeysQ, Q.tDispK, Q.tVals, Q.tAddL, Q.sSetM, Q.sAl2, Q.tAlApp2, Q.sFrz2, Q.iZipM, Q.itZm, Q.tLcM, Q.addF, Q.isN, Q.mulF, Q.bandI, Q.iZip, Q.itZ, Q.slD, Q.enOf, Q.tV, Q.tK, Q.t2, Q.t1, Q.tB, Q.cI, Q.cIp, Q.subI, Q.fdivI, Q.fdivW, Q.modI, Q.ltI, Q.leI, Q.gtI, Q.geI, Q.negI, Q.vAnd, Q.vNot, Q.qAnd, Q.qOr, Q.qNot, Q.qIf, Q.chI, Q.tTupQ, Q.dNil, Q.dCons, Q.tLstQ, Q.tFz, Q.tCA, Q.lenD, Q.tupD, Q.isD, Q.isInt, Q.isBool, Q.isTup, Q.isStr, Q.tLenN, Q.tIxN, Q.setQ, Q.aNil, Q.aD, Q.aK, Q.tCallQ, Q.tCallKQ, Q.pick, Q.sNil, Q.sSeq, Q.sRet, Q.sExpr, Q.sIf, Q.sSet, Q.sSetL, Q.sAsg, Q.sFor, Q.sPar2, Q.sPar3, Q.pNil, Q.pD, Q.pO, Q.gN, Q.gT, Q.gsNil, Q.gsCons, Q.iQ, Q.itD, Q.iEn, Q.itE, Q.rg1, Q.oSome, Q.tSlQ, Q.revD, Q.tOwnM, Q.appC, Q.popC, Q.extC, Q.ownL, Q.tRepL, Q.repC, Q.sSetIx, Q.ixOwn, Q.tLcQ, Q.noOwn, Q.rstQ, Q.wipeQ, Q.sDn, Q.sSetD, Q.tDgetN, Q.dOwn, Q.sNever, Q.isB, Q.listD, Q.listC, Q.reprD, Q.Sl.isOwn, Q.sAugIx, Q.setQ, Q.tLcM, Q.augC, Q.keyD, Q.rg3, List.map_cons, List.map_nil, List.replicate_succ, List.replicate_zero, List.cons_append, List.nil_append, List.append_nil, List.getElem?_cons_zero, List.getElem?_cons_succ, List.set_cons_zero, List.set_cons_succ, List.getD_cons_zero, List.getD_cons_succ, List.filterMap_cons, List.filterMap_nil, List.all_cons, List.all_nil, Bool.and_true, Bool.true_and, Bool.not_true, Bool.not_false, Bool.not_eq_true, Bool.false_eq_true, Bool.and_self, if_true, if_false, true_and, and_true, ↓reduceIte, eqD, neD, sh_int, eqv_int, eqv_strs, sDraw, List.length_cons, List.length_nil, Nat.zero_add, Nat.reduceAdd, decide_true, eq_self, List.length_map, List.length_range]
        refine ⟨by omega, by omega, fun r r0 r1 => ?_⟩
        obtain ⟨n, rfl⟩ := Int.eq_ofNat_of_zero_le r0
        have nS : n < S := by omega
        have c := ca n nS
        have tc := tn_code hd c.1
        have trc := rep2 tc (by decide) (by decide)
        have w1 := wR_cases ds.reverse (n : Int)
        have tg : Tn 0 4 (.int (wR ds.reverse (n : Int))) := tn_int (by omega) (by omega)
        have trg := rep2 tg (by decide) (by decide)
        show sSeq _ law_s0b_s5b_s2 _ _
        simp only [Q.isDc, Q.sPar2K, Q.tDisp2, Q.tIxK, Q.sSetIxK, Q.tVd, Q.tGetK, Q.iKeysQ, Q.tDispK, Q.tVals, Q.tAddL, Q.sSetM, Q.sAl2, Q.tAlApp2, Q.sFrz2, Q.iZipM, Q.itZm, Q.tLcM, Q.addF, Q.isN, Q.mulF, Q.bandI, Q.iZip, Q.itZ, Q.slD, Q.enOf, Q.tV, Q.tK, Q.t2, Q.t1, Q.tB, Q.cI, Q.cIp, Q.subI, Q.fdivI, Q.fdivW, Q.modI, Q.ltI, Q.leI, Q.gtI, Q.geI, Q.negI, Q.vAnd, Q.vNot, Q.qAnd, Q.qOr, Q.qNot, Q.qIf, Q.chI, Q.tTupQ, Q.dNil, Q.dCons, Q.tLstQ, Q.tFz, Q.tCA, Q.lenD, Q.tupD, Q.isD, Q.isInt, Q.isBool, Q.isTup, Q.isStr, Q.tLenN, Q.tIxN, Q.setQ, Q.aNil, Q.aD, Q.aK, Q.tCallQ, Q.tCallKQ, Q.pick, Q.sNil, Q.sSeq, Q.sRet, Q.sExpr, Q.sIf, Q.sSet, Q.sSetL, Q.sAsg, Q.sFor, Q.sPar2, Q.sPar3, Q.pNil, Q.pD, Q.pO, Q.gN, Q.gT, Q.gsNil, Q.gsCons, Q.iQ, Q.itD, Q.iEn, Q.itE, Q.rg1, Q.oSome, Q.tSlQ, Q.revD, Q.tOwnM, Q.appC, Q.popC, Q.extC, Q.ownL, Q.tRepL, Q.repC, Q.sSetIx, Q.ixOwn, Q.tLcQ, Q.noOwn, Q.rstQ, Q.wipeQ, Q.sDn, Q.sSetD, Q.tDgetN, Q.dOwn, Q.sNever, Q.isB, Q.listD, Q.listC, Q.reprD, Q.Sl.isOwn, Q.sAugIx, Q.setQ, Q.tLcM, Q.augC, Q.keyD, Q.rg3, List.map_cons, List.map_nil, List.replicate_succ, List.replicate_zero, List.cons_append, List.nil_append, List.append_nil, List.getElem?_cons_zero, List.getElem?_cons_succ, List.set_cons_zero, List.set_cons_succ, List.getD_cons_zero, List.getD_cons_succ, List.filterMap_cons, List.filterMap_nil, List.all_cons, List.all_nil, Bool.and_true, Bool.true_and, Bool.not_true, Bool.not_false, Bool.not_eq_true, Bool.false_eq_true, Bool.and_self, if_true, if_false, true_and, and_true, ↓reduceIte, eqD, neD, sh_int, eqv_int, eqv_strs, sDraw, List.length_cons, List.length_nil, Nat.zero_add, Nat.reduceAdd, decide_true, eq_self, ixD]
        refine ⟨ds, n, rfl, hd, by omega, by omega, ?_⟩
        refine ⟨trc, _, at_c n nS, trc, tc.text, tc.text, ?_⟩
        try rw [eqv_strs]
        try simp only [Q.isDc, Q.sPar2K, Q.tDisp2, Q.tIxK, Q.sSetIxK, Q.tVd, Q.tGetK, Q.iKeysQ, Q.tDispK, Q.tVals, Q.tAddL, Q.sSetM, Q.sAl2, Q.tAlApp2, Q.sFrz2, Q.iZipM, Q.itZm, Q.tLcM, Q.addF, Q.isN, Q.mulF, Q.bandI, Q.iZip, Q.itZ, Q.slD, Q.enOf, Q.tV, Q.tK, Q.t2, Q.t1, Q.tB, Q.cI, Q.cIp, Q.subI, Q.fdivI, Q.fdivW, Q.modI, Q.ltI, Q.leI, Q.gtI, Q.geI, Q.negI, Q.vAnd, Q.vNot, Q.qAnd, Q.qOr, Q.qNot, Q.qIf, Q.chI, Q.tTupQ, Q.dNil, Q.dCons, Q.tLstQ, Q.tFz, Q.tCA, Q.lenD, Q.tupD, Q.isD, Q.isInt, Q.isBool, Q.isTup, Q.isStr, Q.tLenN, Q.tIxN, Q.setQ, Q.aNil, Q.aD, Q.aK, Q.tCallQ, Q.tCallKQ, Q.pick, Q.sNil, Q.sSeq, Q.sRet, Q.sExpr, Q.sIf, Q.sSet, Q.sSetL, Q.sAsg, Q.sFor, Q.sPar2, Q.sPar3, Q.pNil, Q.pD, Q.pO, Q.gN, Q.gT, Q.gsNil, Q.gsCons, Q.iQ, Q.itD, Q.iEn, Q.itE, Q.rg1, Q.oSome, Q.tSlQ, Q.revD, Q.tOwnM, Q.appC, Q.popC, Q.extC, Q.ownL, Q.tRepL, Q.repC, Q.sSetIx, Q.ixOwn, Q.tLcQ, Q.noOwn, Q.rstQ, Q.wipeQ, Q.sDn, Q.sSetD, Q.tDgetN, Q.dOwn, Q.sNever, Q.isB, Q.listD, Q.listC, Q.reprD, Q.Sl.isOwn, Q.sAugIx, Q.setQ, Q.tLcM, Q.augC, Q.keyD, Q.rg3, List.map_cons, List.map_nil, List.replicate_succ, List.replicate_zero, List.cons_append, List.nil_append, List.append_nil, List.getElem?_cons_zero, List.getElem?_cons_succ, List.set_cons_zero, List.set_cons_succ, List.getD_cons_zero, List.getD_cons_succ, List.filterMap_cons, List.filterMap_nil, List.all_cons, List.all_nil, Bool.and_true, Bool.true_and, Bool.not_true, Bool.not_false, Bool.not_eq_true, Bool.false_eq_true, Bool.and_self, if_true, if_false, true_and, and_true, ↓reduceIte, eqD, neD, sh_int, eqv_int, eqv_strs, sDraw, List.length_cons, List.length_nil, Nat.zero_add, Nat.reduceAdd, decide_true, eq_self, ixD]
        refine ⟨_, at_c n nS, ds, _, rfl, hd, c.1, ?_⟩
        rw [c.2.2]
        refine ⟨trg, _, at_w n nS, trg, tg.text, tg.text, ?_⟩
        try rw [eqv_strs]
        simp only [law_s0b_s5b_s2, Q.isDc, Q.sPar2K, Q.tDisp2, Q.tIxK, Q.sSetIxK, Q.tVd, Q.tGetK, Q.iKeysQ, Q.tDispK, Q.tVals, Q.tAddL, Q.sSetM, Q.sAl2, Q.tAlApp2, Q.sFrz2, Q.iZipM, Q.itZm, Q.tLcM, Q.addF, Q.isN, Q.mulF, Q.bandI, Q.iZip, Q.itZ, Q.slD, Q.enOf, Q.tV, Q.tK, Q.t2, Q.t1, Q.tB, Q.cI, Q.cIp, Q.subI, Q.fdivI, Q.fdivW, Q.modI, Q.ltI, Q.leI, Q.gtI, Q.geI, Q.negI, Q.vAnd, Q.vNot, Q.qAnd, Q.qOr, Q.qNot, Q.qIf, Q.chI, Q.tTupQ, Q.dNil, Q.dCons, Q.tLstQ, Q.tFz, Q.tCA, Q.lenD, Q.tupD, Q.isD, Q.isInt, Q.isBool, Q.isTup, Q.isStr, Q.tLenN, Q.tIxN, Q.setQ, Q.aNil, Q.aD, Q.aK, Q.tCallQ, Q.tCallKQ, Q.pick, Q.sNil, Q.sSeq, Q.sRet, Q.sExpr, Q.sIf, Q.sSet, Q.sSetL, Q.sAsg, Q.sFor, Q.sPar2, Q.sPar3, Q.pNil, Q.pD, Q.pO, Q.gN, Q.gT, Q.gsNil, Q.gsCons, Q.iQ, Q.itD, Q.iEn, Q.itE, Q.rg1, Q.oSome, Q.tSlQ, Q.revD, Q.tOwnM, Q.appC, Q.popC, Q.extC, Q.ownL, Q.tRepL, Q.repC, Q.sSetIx, Q.ixOwn, Q.tLcQ, Q.noOwn, Q.rstQ, Q.wipeQ, Q.sDn, Q.sSetD, Q.tDgetN, Q.dOwn, Q.sNever, Q.isB, Q.listD, Q.listC, Q.reprD, Q.Sl.isOwn, Q.sAugIx, Q.setQ, Q.tLcM, Q.augC, Q.keyD, Q.rg3, List.map_cons, List.map_nil, List.replicate_succ, List.replicate_zero, List.cons_append, List.nil_append, List.append_nil, List.getElem?_cons_zero, List.getElem?_cons_succ, List.set_cons_zero, List.set_cons_succ, List.getD_cons_zero, List.getD_cons_succ, List.filterMap_cons, List.filterMap_nil, List.all_cons, List.all_nil, Bool.and_true, Bool.true_and, Bool.not_true, Bool.not_false, Bool.not_eq_true, Bool.false_eq_true, Bool.and_self, if_true, if_false, true_and, and_true, ↓reduceIte, eqD, neD, sh_int, eqv_int, eqv_strs, sDraw, List.length_cons, List.length_nil, Nat.zero_add, Nat.reduceAdd, decide_true, eq_self, ixD]
        by_cases z : n = 0
        · subst z
          rw [show decide ((0 : Int) < ((0 : Nat) : Int)) = false from rfl]
          try simp only [Q.isDc, Q.sPar2K, Q.tDisp2, Q.tIxK, Q.sSetIxK, Q.tVd, Q.tGetK, Q.iKeysQ, Q.tDispK, Q.tVals, Q.tAddL, Q.sSetM, Q.sAl2, Q.tAlApp2, Q.sFrz2, Q.iZipM, Q.itZm, Q.tLcM, Q.addF, Q.isN, Q.mulF, Q.bandI, Q.iZip, Q.itZ, Q.slD, Q.enOf, Q.tV, Q.tK, Q.t2, Q.t1, Q.tB, Q.cI, Q.cIp, Q.subI, Q.fdivI, Q.fdivW, Q.modI, Q.ltI, Q.leI, Q.gtI, Q.geI, Q.negI, Q.vAnd, Q.vNot, Q.qAnd, Q.qOr, Q.qNot, Q.qIf, Q.chI, Q.tTupQ, Q.dNil, Q.dCons, Q.tLstQ, Q.tFz, Q.tCA, Q.lenD, Q.tupD, Q.isD, Q.isInt, Q.isBool, Q.isTup, Q.isStr, Q.tLenN, Q.tIxN, Q.setQ, Q.aNil, Q.aD, Q.aK, Q.tCallQ, Q.tCallKQ, Q.pick, Q.sNil, Q.sSeq, Q.sRet, Q.sExpr, Q.sIf, Q.sSet, Q.sSetL, Q.sAsg, Q.sFor, Q.sPar2, Q.sPar3, Q.pNil, Q.pD, Q.pO, Q.gN, Q.gT, Q.gsNil, Q.gsCons, Q.iQ, Q.itD, Q.iEn, Q.itE, Q.rg1, Q.oSome, Q.tSlQ, Q.revD, Q.tOwnM, Q.appC, Q.popC, Q.extC, Q.ownL, Q.tRepL, Q.repC, Q.sSetIx, Q.ixOwn, Q.tLcQ, Q.noOwn, Q.rstQ, Q.wipeQ, Q.sDn, Q.sSetD, Q.tDgetN, Q.dOwn, Q.sNever, Q.isB, Q.listD, Q.listC, Q.reprD, Q.Sl.isOwn, Q.sAugIx, Q.setQ, Q.tLcM, Q.augC, Q.keyD, Q.rg3, List.map_cons, List.map_nil, List.replicate_succ, List.replicate_zero, List.cons_append, List.nil_append, List.append_nil, List.getElem?_cons_zero, List.getElem?_cons_succ, List.set_cons_zero, List.set_cons_succ, List.getD_cons_zero, List.getD_cons_succ, List.filterMap_cons, List.filterMap_nil, List.all_cons, List.all_nil, Bool.and_true, Bool.true_and, Bool.not_true, Bool.not_false, Bool.not_eq_true, Bool.false_eq_true, Bool.and_self, if_true, if_false, true_and, and_true, ↓reduceIte, eqD, neD, sh_int, eqv_int, eqv_strs, sDraw, List.length_cons, List.length_nil, Nat.zero_add, Nat.reduceAdd, decide_true, eq_self]
          exact hn2 _ ⟨_, _, by rfl⟩
        · rw [decide_eq_true (show (0 : Int) < (n : Int) by omega)]
          try simp only [Q.isDc, Q.sPar2K, Q.tDisp2, Q.tIxK, Q.sSetIxK, Q.tVd, Q.tGetK, Q.iKeysQ, Q.tDispK, Q.tVals, Q.tAddL, Q.sSetM, Q.sAl2, Q.tAlApp2, Q.sFrz2, Q.iZipM, Q.itZm, Q.tLcM, Q.addF, Q.isN, Q.mulF, Q.bandI, Q.iZip, Q.itZ, Q.slD, Q.enOf, Q.tV, Q.tK, Q.t2, Q.t1, Q.tB, Q.cI, Q.cIp, Q.subI, Q.fdivI, Q.fdivW, Q.modI, Q.ltI, Q.leI, Q.gtI, Q.geI, Q.negI, Q.vAnd, Q.vNot, Q.qAnd, Q.qOr, Q.qNot, Q.qIf, Q.chI, Q.tTupQ, Q.dNil, Q.dCons, Q.tLstQ, Q.tFz, Q.tCA, Q.lenD, Q.tupD, Q.isD, Q.isInt, Q.isBool, Q.isTup, Q.isStr, Q.tLenN, Q.tIxN, Q.setQ, Q.aNil, Q.aD, Q.aK, Q.tCallQ, Q.tCallKQ, Q.pick, Q.sNil, Q.sSeq, Q.sRet, Q.sExpr, Q.sIf, Q.sSet, Q.sSetL, Q.sAsg, Q.sFor, Q.sPar2, Q.sPar3, Q.pNil, Q.pD, Q.pO, Q.gN, Q.gT, Q.gsNil, Q.gsCons, Q.iQ, Q.itD, Q.iEn, Q.itE, Q.rg1, Q.oSome, Q.tSlQ, Q.revD, Q.tOwnM, Q.appC, Q.popC, Q.extC, Q.ownL, Q.tRepL, Q.repC, Q.sSetIx, Q.ixOwn, Q.tLcQ, Q.noOwn, Q.rstQ, Q.wipeQ, Q.sDn, Q.sSetD, Q.tDgetN, Q.dOwn, Q.sNever, Q.isB, Q.listD, Q.listC, Q.reprD, Q.Sl.isOwn, Q.sAugIx, Q.setQ, Q.tLcM, Q.augC, Q.keyD, Q.rg3, List.map_cons, List.map_nil, List.replicate_succ, List.replicate_zero, List.cons_append, List.nil_append, List.append_nil, List.getElem?_cons_zero, List.getElem?_cons_succ, List.set_cons_zero, List.set_cons_succ, List.getD_cons_zero, List.getD_cons_succ, List.filterMap_cons, List.filterMap_nil, List.all_cons, List.all_nil, Bool.and_true, Bool.true_and, Bool.not_true, Bool.not_false, Bool.not_eq_true, Bool.false_eq_true, Bool.and_self, if_true, if_false, true_and, and_true, ↓reduceIte, eqD, neD, sh_int, eqv_int, eqv_strs, sDraw, List.length_cons, List.length_nil, Nat.zero_add, Nat.reduceAdd, decide_true, eq_self, ixD]
          obtain ⟨k, rfl⟩ : ∃ k, n = k + 1 := ⟨n - 1, by omega⟩
          have ck := ca k (by omega)
          refine ⟨_, by rw [show ((k + 1 : Nat) : Int) - 1 = ((k : Nat) : Int) by omega]; exact at_c k (by omega), _, at_c (k + 1) nS, ds, _, _, rfl, hd, ck.1, c.1, ?_⟩
          rw [ck.2.1, c.2.1, decide_eq_true (show ((k : Nat) : Int) < ((k + 1 : Nat) : Int) by omega)]
          try simp only [Q.isDc, Q.sPar2K, Q.tDisp2, Q.tIxK, Q.sSetIxK, Q.tVd, Q.tGetK, Q.iKeysQ, Q.tDispK, Q.tVals, Q.tAddL, Q.sSetM, Q.sAl2, Q.tAlApp2, Q.sFrz2, Q.iZipM, Q.itZm, Q.tLcM, Q.addF, Q.isN, Q.mulF, Q.bandI, Q.iZip, Q.itZ, Q.slD, Q.enOf, Q.tV, Q.tK, Q.t2, Q.t1, Q.tB, Q.cI, Q.cIp, Q.subI, Q.fdivI, Q.fdivW, Q.modI, Q.ltI, Q.leI, Q.gtI, Q.geI, Q.negI, Q.vAnd, Q.vNot, Q.qAnd, Q.qOr, Q.qNot, Q.qIf, Q.chI, Q.tTupQ, Q.dNil, Q.dCons, Q.tLstQ, Q.tFz, Q.tCA, Q.lenD, Q.tupD, Q.isD, Q.isInt, Q.isBool, Q.isTup, Q.isStr, Q.tLenN, Q.tIxN, Q.setQ, Q.aNil, Q.aD, Q.aK, Q.tCallQ, Q.tCallKQ, Q.pick, Q.sNil, Q.sSeq, Q.sRet, Q.sExpr, Q.sIf, Q.sSet, Q.sSetL, Q.sAsg, Q.sFor, Q.sPar2, Q.sPar3, Q.pNil, Q.pD, Q.pO, Q.gN, Q.gT, Q.gsNil, Q.gsCons, Q.iQ, Q.itD, Q.iEn, Q.itE, Q.rg1, Q.oSome, Q.tSlQ, Q.revD, Q.tOwnM, Q.appC, Q.popC, Q.extC, Q.ownL, Q.tRepL, Q.repC, Q.sSetIx, Q.ixOwn, Q.tLcQ, Q.noOwn, Q.rstQ, Q.wipeQ, Q.sDn, Q.sSetD, Q.tDgetN, Q.dOwn, Q.sNever, Q.isB, Q.listD, Q.listC, Q.reprD, Q.Sl.isOwn, Q.sAugIx, Q.setQ, Q.tLcM, Q.augC, Q.keyD, Q.rg3, List.map_cons, List.map_nil, List.replicate_succ, List.replicate_zero, List.cons_append, List.nil_append, List.append_nil, List.getElem?_cons_zero, List.getElem?_cons_succ, List.set_cons_zero, List.set_cons_succ, List.getD_cons_zero, List.getD_cons_succ, List.filterMap_cons, List.filterMap_nil, List.all_cons, List.all_nil, Bool.and_true, Bool.true_and, Bool.not_true, Bool.not_false, Bool.not_eq_true, Bool.false_eq_true, Bool.and_self, if_true, if_false, true_and, and_true, ↓reduceIte, eqD, neD, sh_int, eqv_int, eqv_strs, sDraw, List.length_cons, List.length_nil, Nat.zero_add, Nat.reduceAdd, decide_true, eq_self]
          exact hn2 _ ⟨_, _, by rfl⟩
      · obtain ⟨s7, s8, rfl⟩ := hρ
        exact s6 _ _
    have s4 : law_s0b_s4 E' [.un, .dk, .d (.int ((0 : Int) + (x : Int))), .d (desksD ds), .d (.list ((List.range S).map (tupI ∘ fun n => codeAt ds ((n : Nat) : Int)))), .d (.tuple ((fullW ds.reverse).map .int)), .d (tupI (fullW ds.reverse)), s7, s8, s9, s10, s11, s12, .un, .un] := by
      show sSeq _ law_s0b_s5 _ _
      simp only [Q.isDc, Q.sPar2K, Q.tDisp2, Q.tIxK, Q.sSetIxK, Q.tVd, Q.tGetK, Q.iKeysQ, Q.tDispK, Q.tVals, Q.tAddL, Q.sSetM, Q.sAl2, Q.tAlApp2, Q.sFrz2, Q.iZipM, Q.itZm, Q.tLcM, Q.addF, Q.isN, Q.mulF, Q.bandI, Q.iZip, Q.itZ, Q.slD, Q.enOf, Q.tV, Q.tK, Q.t2, Q.t1, Q.tB, Q.cI, Q.cIp, Q.subI, Q.fdivI, Q.fdivW, Q.modI, Q.ltI, Q.leI, Q.gtI, Q.geI, Q.negI, Q.vAnd, Q.vNot, Q.qAnd, Q.qOr, Q.qNot, Q.qIf, Q.chI, Q.tTupQ, Q.dNil, Q.dCons, Q.tLstQ, Q.tFz, Q.tCA, Q.lenD, Q.tupD, Q.isD, Q.isInt, Q.isBool, Q.isTup, Q.isStr, Q.tLenN, Q.tIxN, Q.setQ, Q.aNil, Q.aD, Q.aK, Q.tCallQ, Q.tCallKQ, Q.pick, Q.sNil, Q.sSeq, Q.sRet, Q.sExpr, Q.sIf, Q.sSet, Q.sSetL, Q.sAsg, Q.sFor, Q.sPar2, Q.sPar3, Q.pNil, Q.pD, Q.pO, Q.gN, Q.gT, Q.gsNil, Q.gsCons, Q.iQ, Q.itD, Q.iEn, Q.itE, Q.rg1, Q.oSome, Q.tSlQ, Q.revD, Q.tOwnM, Q.appC, Q.popC, Q.extC, Q.ownL, Q.tRepL, Q.repC, Q.sSetIx, Q.ixOwn, Q.tLcQ, Q.noOwn, Q.rstQ, Q.wipeQ, Q.sDn, Q.sSetD, Q.tDgetN, Q.dOwn, Q.sNever, Q.isB, Q.listD, Q.listC, Q.reprD, Q.Sl.isOwn, Q.sAugIx, Q.setQ, Q.tLcM, Q.augC, Q.keyD, Q.rg3, List.map_cons, List.map_nil, List.replicate_succ, List.replicate_zero, List.cons_append, List.nil_append, List.append_nil, List.getElem?_cons_zero, List.getElem?_cons_succ, List.set_cons_zero, List.set_cons_succ, List.getD_cons_zero, List.getD_cons_succ, List.filterMap_cons, List.filterMap_nil, List.all_cons, List.all_nil, Bool.and_true, Bool.true_and, Bool.not_true, Bool.not_false, Bool.not_eq_true, Bool.false_eq_true, Bool.and_self, if_true, if_false, true_and, and_true, ↓reduceIte, eqD, neD, sh_int, eqv_int, eqv_strs, sDraw, List.length_cons, List.length_nil, Nat.zero_add, Nat.reduceAdd, decide_true, eq_self]
      refine ⟨trw, trw, tw.text, tw.text, ?_⟩
      try rw [eqv_strs]
      try simp only [Q.isDc, Q.sPar2K, Q.tDisp2, Q.tIxK, Q.sSetIxK, Q.tVd, Q.tGetK, Q.iKeysQ, Q.tDispK, Q.tVals, Q.tAddL, Q.sSetM, Q.sAl2, Q.tAlApp2, Q.sFrz2, Q.iZipM, Q.itZm, Q.tLcM, Q.addF, Q.isN, Q.mulF, Q.bandI, Q.iZip, Q.itZ, Q.slD, Q.enOf, Q.tV, Q.tK, Q.t2, Q.t1, Q.tB, Q.cI, Q.cIp, Q.subI, Q.fdivI, Q.fdivW, Q.modI, Q.ltI, Q.leI, Q.gtI, Q.geI, Q.negI, Q.vAnd, Q.vNot, Q.qAnd, Q.qOr, Q.qNot, Q.qIf, Q.chI, Q.tTupQ, Q.dNil, Q.dCons, Q.tLstQ, Q.tFz, Q.tCA, Q.lenD, Q.tupD, Q.isD, Q.isInt, Q.isBool, Q.isTup, Q.isStr, Q.tLenN, Q.tIxN, Q.setQ, Q.aNil, Q.aD, Q.aK, Q.tCallQ, Q.tCallKQ, Q.pick, Q.sNil, Q.sSeq, Q.sRet, Q.sExpr, Q.sIf, Q.sSet, Q.sSetL, Q.sAsg, Q.sFor, Q.sPar2, Q.sPar3, Q.pNil, Q.pD, Q.pO, Q.gN, Q.gT, Q.gsNil, Q.gsCons, Q.iQ, Q.itD, Q.iEn, Q.itE, Q.rg1, Q.oSome, Q.tSlQ, Q.revD, Q.tOwnM, Q.appC, Q.popC, Q.extC, Q.ownL, Q.tRepL, Q.repC, Q.sSetIx, Q.ixOwn, Q.tLcQ, Q.noOwn, Q.rstQ, Q.wipeQ, Q.sDn, Q.sSetD, Q.tDgetN, Q.dOwn, Q.sNever, Q.isB, Q.listD, Q.listC, Q.reprD, Q.Sl.isOwn, Q.sAugIx, Q.setQ, Q.tLcM, Q.augC, Q.keyD, Q.rg3, List.map_cons, List.map_nil, List.replicate_succ, List.replicate_zero, List.cons_append, List.nil_append, List.append_nil, List.getElem?_cons_zero, List.getElem?_cons_succ, List.set_cons_zero, List.set_cons_succ, List.getD_cons_zero, List.getD_cons_succ, List.filterMap_cons, List.filterMap_nil, List.all_cons, List.all_nil, Bool.and_true, Bool.true_and, Bool.not_true, Bool.not_false, Bool.not_eq_true, Bool.false_eq_true, Bool.and_self, if_true, if_false, true_and, and_true, ↓reduceIte, eqD, neD, sh_int, eqv_int, eqv_strs, sDraw, List.length_cons, List.length_nil, Nat.zero_add, Nat.reduceAdd, decide_true, eq_self]
      refine ⟨ds, rfl, hd, ?_⟩
      have ti : Tn 0 41 (.int (many ds)) := tn_pos (by omega) (by omega)
      simp only [List.length_map, wl]
      rw [← SE]
      refine ⟨rep2 ti (by decide) (by decide), rep2 ti (by decide) (by decide), ti.text, ti.text, ?_⟩
      try rw [eqv_strs]
      try simp only [Q.isDc, Q.sPar2K, Q.tDisp2, Q.tIxK, Q.sSetIxK, Q.tVd, Q.tGetK, Q.iKeysQ, Q.tDispK, Q.tVals, Q.tAddL, Q.sSetM, Q.sAl2, Q.tAlApp2, Q.sFrz2, Q.iZipM, Q.itZm, Q.tLcM, Q.addF, Q.isN, Q.mulF, Q.bandI, Q.iZip, Q.itZ, Q.slD, Q.enOf, Q.tV, Q.tK, Q.t2, Q.t1, Q.tB, Q.cI, Q.cIp, Q.subI, Q.fdivI, Q.fdivW, Q.modI, Q.ltI, Q.leI, Q.gtI, Q.geI, Q.negI, Q.vAnd, Q.vNot, Q.qAnd, Q.qOr, Q.qNot, Q.qIf, Q.chI, Q.tTupQ, Q.dNil, Q.dCons, Q.tLstQ, Q.tFz, Q.tCA, Q.lenD, Q.tupD, Q.isD, Q.isInt, Q.isBool, Q.isTup, Q.isStr, Q.tLenN, Q.tIxN, Q.setQ, Q.aNil, Q.aD, Q.aK, Q.tCallQ, Q.tCallKQ, Q.pick, Q.sNil, Q.sSeq, Q.sRet, Q.sExpr, Q.sIf, Q.sSet, Q.sSetL, Q.sAsg, Q.sFor, Q.sPar2, Q.sPar3, Q.pNil, Q.pD, Q.pO, Q.gN, Q.gT, Q.gsNil, Q.gsCons, Q.iQ, Q.itD, Q.iEn, Q.itE, Q.rg1, Q.oSome, Q.tSlQ, Q.revD, Q.tOwnM, Q.appC, Q.popC, Q.extC, Q.ownL, Q.tRepL, Q.repC, Q.sSetIx, Q.ixOwn, Q.tLcQ, Q.noOwn, Q.rstQ, Q.wipeQ, Q.sDn, Q.sSetD, Q.tDgetN, Q.dOwn, Q.sNever, Q.isB, Q.listD, Q.listC, Q.reprD, Q.Sl.isOwn, Q.sAugIx, Q.setQ, Q.tLcM, Q.augC, Q.keyD, Q.rg3, List.map_cons, List.map_nil, List.replicate_succ, List.replicate_zero, List.cons_append, List.nil_append, List.append_nil, List.getElem?_cons_zero, List.getElem?_cons_succ, List.set_cons_zero, List.set_cons_succ, List.getD_cons_zero, List.getD_cons_succ, List.filterMap_cons, List.filterMap_nil, List.all_cons, List.all_nil, Bool.and_true, Bool.true_and, Bool.not_true, Bool.not_false, Bool.not_eq_true, Bool.false_eq_true, Bool.and_self, if_true, if_false, true_and, and_true, ↓reduceIte, eqD, neD, sh_int, eqv_int, eqv_strs, sDraw, List.length_cons, List.length_nil, Nat.zero_add, Nat.reduceAdd, decide_true, eq_self]
      exact s5 _ _ _ _ _ _
    show sSeq _ law_s0b_s4 _ _
    simp only [Q.isDc, Q.sPar2K, Q.tDisp2, Q.tIxK, Q.sSetIxK, Q.tVd, Q.tGetK, Q.iKeysQ, Q.tDispK, Q.tVals, Q.tAddL, Q.sSetM, Q.sAl2, Q.tAlApp2, Q.sFrz2, Q.iZipM, Q.itZm, Q.tLcM, Q.addF, Q.isN, Q.mulF, Q.bandI, Q.iZip, Q.itZ, Q.slD, Q.enOf, Q.tV, Q.tK, Q.t2, Q.t1, Q.tB, Q.cI, Q.cIp, Q.subI, Q.fdivI, Q.fdivW, Q.modI, Q.ltI, Q.leI, Q.gtI, Q.geI, Q.negI, Q.vAnd, Q.vNot, Q.qAnd, Q.qOr, Q.qNot, Q.qIf, Q.chI, Q.tTupQ, Q.dNil, Q.dCons, Q.tLstQ, Q.tFz, Q.tCA, Q.lenD, Q.tupD, Q.isD, Q.isInt, Q.isBool, Q.isTup, Q.isStr, Q.tLenN, Q.tIxN, Q.setQ, Q.aNil, Q.aD, Q.aK, Q.tCallQ, Q.tCallKQ, Q.pick, Q.sNil, Q.sSeq, Q.sRet, Q.sExpr, Q.sIf, Q.sSet, Q.sSetL, Q.sAsg, Q.sFor, Q.sPar2, Q.sPar3, Q.pNil, Q.pD, Q.pO, Q.gN, Q.gT, Q.gsNil, Q.gsCons, Q.iQ, Q.itD, Q.iEn, Q.itE, Q.rg1, Q.oSome, Q.tSlQ, Q.revD, Q.tOwnM, Q.appC, Q.popC, Q.extC, Q.ownL, Q.tRepL, Q.repC, Q.sSetIx, Q.ixOwn, Q.tLcQ, Q.noOwn, Q.rstQ, Q.wipeQ, Q.sDn, Q.sSetD, Q.tDgetN, Q.dOwn, Q.sNever, Q.isB, Q.listD, Q.listC, Q.reprD, Q.Sl.isOwn, Q.sAugIx, Q.setQ, Q.tLcM, Q.augC, Q.keyD, Q.rg3, List.map_cons, List.map_nil, List.replicate_succ, List.replicate_zero, List.cons_append, List.nil_append, List.append_nil, List.getElem?_cons_zero, List.getElem?_cons_succ, List.set_cons_zero, List.set_cons_succ, List.getD_cons_zero, List.getD_cons_succ, List.filterMap_cons, List.filterMap_nil, List.all_cons, List.all_nil, Bool.and_true, Bool.true_and, Bool.not_true, Bool.not_false, Bool.not_eq_true, Bool.false_eq_true, Bool.and_self, if_true, if_false, true_and, and_true, ↓reduceIte, eqD, neD, sh_int, eqv_int, eqv_strs, sDraw, List.length_cons, List.length_nil, Nat.zero_add, Nat.reduceAdd, decide_true, eq_self]
    refine ⟨by decide, by decide, fun r r0 r1 => ?_⟩
    by_cases z : r = 0
    · rw [decide_eq_true z]
      simp only [Q.isDc, Q.sPar2K, Q.tDisp2, Q.tIxK, Q.sSetIxK, Q.tVd, Q.tGetK, Q.iKeysQ, Q.tDispK, Q.tVals, Q.tAddL, Q.sSetM, Q.sAl2, Q.tAlApp2, Q.sFrz2, Q.iZipM, Q.itZm, Q.tLcM, Q.addF, Q.isN, Q.mulF, Q.bandI, Q.iZip, Q.itZ, Q.slD, Q.enOf, Q.tV, Q.tK, Q.t2, Q.t1, Q.tB, Q.cI, Q.cIp, Q.subI, Q.fdivI, Q.fdivW, Q.modI, Q.ltI, Q.leI, Q.gtI, Q.geI, Q.negI, Q.vAnd, Q.vNot, Q.qAnd, Q.qOr, Q.qNot, Q.qIf, Q.chI, Q.tTupQ, Q.dNil, Q.dCons, Q.tLstQ, Q.tFz, Q.tCA, Q.lenD, Q.tupD, Q.isD, Q.isInt, Q.isBool, Q.isTup, Q.isStr, Q.tLenN, Q.tIxN, Q.setQ, Q.aNil, Q.aD, Q.aK, Q.tCallQ, Q.tCallKQ, Q.pick, Q.sNil, Q.sSeq, Q.sRet, Q.sExpr, Q.sIf, Q.sSet, Q.sSetL, Q.sAsg, Q.sFor, Q.sPar2, Q.sPar3, Q.pNil, Q.pD, Q.pO, Q.gN, Q.gT, Q.gsNil, Q.gsCons, Q.iQ, Q.itD, Q.iEn, Q.itE, Q.rg1, Q.oSome, Q.tSlQ, Q.revD, Q.tOwnM, Q.appC, Q.popC, Q.extC, Q.ownL, Q.tRepL, Q.repC, Q.sSetIx, Q.ixOwn, Q.tLcQ, Q.noOwn, Q.rstQ, Q.wipeQ, Q.sDn, Q.sSetD, Q.tDgetN, Q.dOwn, Q.sNever, Q.isB, Q.listD, Q.listC, Q.reprD, Q.Sl.isOwn, Q.sAugIx, Q.setQ, Q.tLcM, Q.augC, Q.keyD, Q.rg3, List.map_cons, List.map_nil, List.replicate_succ, List.replicate_zero, List.cons_append, List.nil_append, List.append_nil, List.getElem?_cons_zero, List.getElem?_cons_succ, List.set_cons_zero, List.set_cons_succ, List.getD_cons_zero, List.getD_cons_succ, List.filterMap_cons, List.filterMap_nil, List.all_cons, List.all_nil, Bool.and_true, Bool.true_and, Bool.not_true, Bool.not_false, Bool.not_eq_true, Bool.false_eq_true, Bool.and_self, if_true, if_false, true_and, and_true, ↓reduceIte, eqD, neD, sh_int, eqv_int, eqv_strs, sDraw, List.length_cons, List.length_nil, Nat.zero_add, Nat.reduceAdd, decide_true, eq_self]
      exact ⟨ds, rfl, hd, by omega, s4⟩
    · rw [decide_eq_false z]
      simp only [Q.isDc, Q.sPar2K, Q.tDisp2, Q.tIxK, Q.sSetIxK, Q.tVd, Q.tGetK, Q.iKeysQ, Q.tDispK, Q.tVals, Q.tAddL, Q.sSetM, Q.sAl2, Q.tAlApp2, Q.sFrz2, Q.iZipM, Q.itZm, Q.tLcM, Q.addF, Q.isN, Q.mulF, Q.bandI, Q.iZip, Q.itZ, Q.slD, Q.enOf, Q.tV, Q.tK, Q.t2, Q.t1, Q.tB, Q.cI, Q.cIp, Q.subI, Q.fdivI, Q.fdivW, Q.modI, Q.ltI, Q.leI, Q.gtI, Q.geI, Q.negI, Q.vAnd, Q.vNot, Q.qAnd, Q.qOr, Q.qNot, Q.qIf, Q.chI, Q.tTupQ, Q.dNil, Q.dCons, Q.tLstQ, Q.tFz, Q.tCA, Q.lenD, Q.tupD, Q.isD, Q.isInt, Q.isBool, Q.isTup, Q.isStr, Q.tLenN, Q.tIxN, Q.setQ, Q.aNil, Q.aD, Q.aK, Q.tCallQ, Q.tCallKQ, Q.pick, Q.sNil, Q.sSeq, Q.sRet, Q.sExpr, Q.sIf, Q.sSet, Q.sSetL, Q.sAsg, Q.sFor, Q.sPar2, Q.sPar3, Q.pNil, Q.pD, Q.pO, Q.gN, Q.gT, Q.gsNil, Q.gsCons, Q.iQ, Q.itD, Q.iEn, Q.itE, Q.rg1, Q.oSome, Q.tSlQ, Q.revD, Q.tOwnM, Q.appC, Q.popC, Q.extC, Q.ownL, Q.tRepL, Q.repC, Q.sSetIx, Q.ixOwn, Q.tLcQ, Q.noOwn, Q.rstQ, Q.wipeQ, Q.sDn, Q.sSetD, Q.tDgetN, Q.dOwn, Q.sNever, Q.isB, Q.listD, Q.listC, Q.reprD, Q.Sl.isOwn, Q.sAugIx, Q.setQ, Q.tLcM, Q.augC, Q.keyD, Q.rg3, List.map_cons, List.map_nil, List.replicate_succ, List.replicate_zero, List.cons_append, List.nil_append, List.append_nil, List.getElem?_cons_zero, List.getElem?_cons_succ, List.set_cons_zero, List.set_cons_succ, List.getD_cons_zero, List.getD_cons_succ, List.filterMap_cons, List.filterMap_nil, List.all_cons, List.all_nil, Bool.and_true, Bool.true_and, Bool.not_true, Bool.not_false, Bool.not_eq_true, Bool.false_eq_true, Bool.and_self, if_true, if_false, true_and, and_true, ↓reduceIte, eqD, neD, sh_int, eqv_int, eqv_strs, sDraw, List.length_cons, List.length_nil, Nat.zero_add, Nat.reduceAdd, decide_true, eq_self]
      exact ⟨ds, rfl, hd, by omega, s4⟩
  · obtain ⟨s2, s3, s4, s5, s6, s7, s8, s9, s10, s11, s12, rfl⟩ := hρ
    simp only [law_s1, Q.isDc, Q.sPar2K, Q.tDisp2, Q.tIxK, Q.sSetIxK, Q.tVd, Q.tGetK, Q.iKeysQ, Q.tDispK, Q.tVals, Q.tAddL, Q.sSetM, Q.sAl2, Q.tAlApp2, Q.sFrz2, Q.iZipM, Q.itZm, Q.tLcM, Q.addF, Q.isN, Q.mulF, Q.bandI, Q.iZip, Q.itZ, Q.slD, Q.enOf, Q.tV, Q.tK, Q.t2, Q.t1, Q.tB, Q.cI, Q.cIp, Q.subI, Q.fdivI, Q.fdivW, Q.modI, Q.ltI, Q.leI, Q.gtI, Q.geI, Q.negI, Q.vAnd, Q.vNot, Q.qAnd, Q.qOr, Q.qNot, Q.qIf, Q.chI, Q.tTupQ, Q.dNil, Q.dCons, Q.tLstQ, Q.tFz, Q.tCA, Q.lenD, Q.tupD, Q.isD, Q.isInt, Q.isBool, Q.isTup, Q.isStr, Q.tLenN, Q.tIxN, Q.setQ, Q.aNil, Q.aD, Q.aK, Q.tCallQ, Q.tCallKQ, Q.pick, Q.sNil, Q.sSeq, Q.sRet, Q.sExpr, Q.sIf, Q.sSet, Q.sSetL, Q.sAsg, Q.sFor, Q.sPar2, Q.sPar3, Q.pNil, Q.pD, Q.pO, Q.gN, Q.gT, Q.gsNil, Q.gsCons, Q.iQ, Q.itD, Q.iEn, Q.itE, Q.rg1, Q.oSome, Q.tSlQ, Q.revD, Q.tOwnM, Q.appC, Q.popC, Q.extC, Q.ownL, Q.tRepL, Q.repC, Q.sSetIx, Q.ixOwn, Q.tLcQ, Q.noOwn, Q.rstQ, Q.wipeQ, Q.sDn, Q.sSetD, Q.tDgetN, Q.dOwn, Q.sNever, Q.isB, Q.listD, Q.listC, Q.reprD, Q.Sl.isOwn, Q.sAugIx, Q.setQ, Q.tLcM, Q.augC, Q.keyD, Q.rg3, List.map_cons, List.map_nil, List.replicate_succ, List.replicate_zero, List.cons_append, List.nil_append, List.append_nil, List.getElem?_cons_zero, List.getElem?_cons_succ, List.set_cons_zero, List.set_cons_succ, List.getD_cons_zero, List.getD_cons_succ, List.filterMap_cons, List.filterMap_nil, List.all_cons, List.all_nil, Bool.and_true, Bool.true_and, Bool.not_true, Bool.not_false, Bool.not_eq_true, Bool.false_eq_true, Bool.and_self, if_true, if_false, true_and, and_true, ↓reduceIte, eqD, neD, sh_int, eqv_int, eqv_strs, sDraw, List.length_cons, List.length_nil, Nat.zero_add, Nat.reduceAdd, decide_true, eq_self]
end T44
end P62
section P63
open PySem PySem.Spec PyProof.Rows L2 HT Q
namespace T44
section
variable {P : Program} {w : World} {K : PySem.W.Frag} {mg : Str → Option Value} {base : Heap}
theorem dv_law (T : Txt K mg) {f__law_deck : Addr} {fd__law_deck : FuncData} (A__law_deck : At K mg "_law_deck" ["_law_script", "_law_law_number"] (top 36) f__law_deck fd__law_deck) (G__law_deck : FnOk P w K mg base CX0 1 f__law_deck fd__law_deck ["_law_script", "_law_law_number"] (spDeck2 K))
    {f__law_desks : Addr} {fd__law_desks : FuncData} {S__law_desks : PSpec} (A__law_desks : At K mg "_law_desks" ["_law_deck_here", "_law_many", "_law_limit"] (top 40) f__law_desks fd__law_desks) (G__law_desks : FnG P w K mg base 3 f__law_desks fd__law_desks ["_law_deck_here", "_law_many", "_law_limit"] S__law_desks)
    {f__law_pick : Addr} {fd__law_pick : FuncData} {S__law_pick : PSpec} (A__law_pick : At K mg "_law_pick" ["_law_deck_here", "_law_some"] (top 38) f__law_pick fd__law_pick) (G__law_pick : FnG P w K mg base 2 f__law_pick fd__law_pick ["_law_deck_here", "_law_some"] S__law_pick)
    {f__law_codes : Addr} {fd__law_codes : FuncData} {S__law_codes : PSpec} (A__law_codes : At K mg "_law_codes" ["_law_desks_here"] (top 42) f__law_codes fd__law_codes) (G__law_codes : FnG P w K mg base 1 f__law_codes fd__law_codes ["_law_desks_here"] S__law_codes)
    {f__law_sign : Addr} {fd__law_sign : FuncData} {S__law_sign : PSpec} (A__law_sign : At K mg "_law_sign" ["_law_desks_here", "_law_code"] (top 41) f__law_sign fd__law_sign) (G__law_sign : FnG P w K mg base 1 f__law_sign fd__law_sign ["_law_desks_here", "_law_code"] S__law_sign)
    {f__law_draw : Addr} {fd__law_draw : FuncData} {S__law_draw : PSpec} (A__law_draw : At K mg "_law_draw" ["_law_deck_here", "_law_below"] (top 37) f__law_draw fd__law_draw) (G__law_draw : FnG P w K mg base 1 f__law_draw fd__law_draw ["_law_deck_here", "_law_below"] S__law_draw)
    {f_folded_word : Addr} {fd_folded_word : FuncData} {S_folded_word : PSpec} (A_folded_word : At K mg "folded_word" ["desks"] (top 32) f_folded_word fd_folded_word) (G_folded_word : FnG P w K mg base 4 f_folded_word fd_folded_word ["desks"] S_folded_word)
    {f_codes_number : Addr} {fd_codes_number : FuncData} {S_codes_number : PSpec} (A_codes_number : At K mg "codes_number" ["desks"] (top 30) f_codes_number fd_codes_number) (G_codes_number : FnG P w K mg base 4 f_codes_number fd_codes_number ["desks"] S_codes_number)
    {f_code_at : Addr} {fd_code_at : FuncData} {S_code_at : PSpec} (A_code_at : At K mg "code_at" ["desks", "n"] (top 31) f_code_at fd_code_at) (G_code_at : FnG P w K mg base 4 f_code_at fd_code_at ["desks", "n"] S_code_at)
    {f_sign_of : Addr} {fd_sign_of : FuncData} {S_sign_of : PSpec} (A_sign_of : At K mg "sign_of" ["desks", "code"] (top 28) f_sign_of fd_sign_of) (G_sign_of : FnG P w K mg base 5 f_sign_of fd_sign_of ["desks", "code"] S_sign_of)
    {f_is_ahead : Addr} {fd_is_ahead : FuncData} {S_is_ahead : PSpec} (A_is_ahead : At K mg "is_ahead" ["desks", "one", "other"] (top 29) f_is_ahead fd_is_ahead) (G_is_ahead : FnG P w K mg base 5 f_is_ahead fd_is_ahead ["desks", "one", "other"] S_is_ahead)
    {f_sign_rows : Addr} {fd_sign_rows : FuncData} {S_sign_rows : PSpec} (A_sign_rows : At K mg "sign_rows" ["desks", "m"] (top 34) f_sign_rows fd_sign_rows) (G_sign_rows : FnG P w K mg base 4 f_sign_rows fd_sign_rows ["desks", "m"] S_sign_rows)
    {f__law_rows : Addr} {fd__law_rows : FuncData} {S__law_rows : PSpec} (A__law_rows : At K mg "_law_rows" ["_law_word", "_law_m"] (top 46) f__law_rows fd__law_rows) (G__law_rows : FnG P w K mg base 2 f__law_rows fd__law_rows ["_law_word", "_law_m"] S__law_rows)
    {f__law_short_word : Addr} {fd__law_short_word : FuncData} {S__law_short_word : PSpec} (A__law_short_word : At K mg "_law_short_word" ["_law_desks_here"] (top 44) f__law_short_word fd__law_short_word) (G__law_short_word : FnG P w K mg base 2 f__law_short_word fd__law_short_word ["_law_desks_here"] S__law_short_word)
    {f : Addr} {fd : FuncData} (F : Fun K "law" "law" (top 47) f fd)
    (hread : (t_law S__law_desks S__law_pick S__law_codes S__law_sign S__law_draw S_folded_word S_codes_number S_code_at S_sign_of S_is_ahead S_sign_rows S__law_rows S__law_short_word) { nx := fun _ => False, rt := fun y => y = .bool true } (.un :: .dk :: List.replicate 13 .un)) : LawOk P w K mg base 6 f fd "_law_script" :=
  LawOk.of F sc_law (t := t_law S__law_desks S__law_pick S__law_codes S__law_sign S__law_draw S_folded_word S_codes_number S_code_at S_sign_of S_is_ahead S_sign_rows S__law_rows S__law_short_word) rfl rfl (fun cdv A outer s H hG hr => deck2_ps (ps_set (i := 1) sc_law.nd rfl (Or.inl rfl) (pe_call G__law_deck (hr.mono (by decide)) (by rfl) A__law_deck.m A__law_deck.F.kp A__law_deck.b .nil pass0 (pa_cons (pv 0) (pa_cons pe_int pa_nil))))) (fun cdv A outer s H hG hr => by
    have hu := hr.units
    exact (qss_cons (qs_for PassesOwn.never rfl (qi_range1 (by rfl) T.b_range q_int) (qg_name 2 sc_law.nd) (qss_cons (qs_set 3 sc_law.nd (q_call G__law_desks hG (hr.mono (by decide)) (by rfl) A__law_desks.m A__law_desks.F.kp A__law_desks.b (qa_k 1 (qa_d q_int (qa_d (q_call G__law_pick hG (hr.mono (by decide)) (by rfl) A__law_pick.m A__law_pick.F.kp A__law_pick.b (qa_k 1 (qa_d (q_frz (ql_lst (qd_cons q_int (qd_cons q_int (qd_cons q_int (qd_cons q_int (qd_cons q_int (qd_cons q_int (qd_cons q_int (qd_cons q_int (qd_cons q_int (qd_cons q_int (qd_cons q_int (qd_cons q_int qd_nil)))))))))))))) qa_nil))) qa_nil)))))
      (qss_cons (qs_set 4 sc_law.nd (q_call G__law_codes hG (hr.mono (by decide)) (by rfl) A__law_codes.m A__law_codes.F.kp A__law_codes.b (qa_d (qv 3) qa_nil)))
      (qss_cons (qs_set 5 sc_law.nd (q_tuple (by rfl) T.b_tuple (q_frz (ql_lc (own := [("_law_code", 13)]) rfl sc_law.nd (qi_e (qv 4)) (blkOk_by (own := [("_law_code", 13)]) (N := N_law) (sc := defScope (top 47)) (by decide +kernel)) (fun _ _ _ _ _ => (qg_name 13 sc_law.nd)) (by decide) (fun _ _ _ _ _ => qts_nil) (fun _ _ _ _ _ => (q_call G__law_sign hG (hr.mono (by decide)) (by rfl) A__law_sign.m A__law_sign.F.kp A__law_sign.b (qa_d (qv 3) (qa_d (qv 13) qa_nil))))))))
      (qss_cons (qs_set 6 sc_law.nd (q_ifExp (q_teq hu (q_call G__law_draw hG (hr.mono (by decide)) (by rfl) A__law_draw.m A__law_draw.F.kp A__law_draw.b (qa_k 1 (qa_d q_int qa_nil))) q_int) (q_call G_folded_word hG (hr.mono (by decide)) (by rfl) A_folded_word.m A_folded_word.F.kp A_folded_word.b (qa_d (qv 3) qa_nil)) (q_callK0 G_folded_word hG (hr.mono (by decide)) (by rfl) A_folded_word.m A_folded_word.F.kp (kw_folded_word_0_desks A_folded_word.F) (qk_d (qv 3) qk_nil))))
      (qss_cons (qs_if (QW.qt (qw_or (q_tne hu (q_repr hG hu (by rfl) T.b_repr (qv 6)) (q_repr hG hu (by rfl) T.b_repr (qv 5))) (qw_or1 (q_tne hu (q_repr hG hu (by rfl) T.b_repr (q_call G_codes_number hG (hr.mono (by decide)) (by rfl) A_codes_number.m A_codes_number.F.kp A_codes_number.b (qa_d (qv 3) qa_nil))) (q_repr hG hu (by rfl) T.b_repr (q_lenN 5 (by rfl) T.b_len)))))) (qss_one (qs_ret q_bl)) qss_nil)
      (qss_cons (qs_for PassesOwn.never rfl (qi_range1 (by rfl) T.b_range q_int) (qg_name 7 sc_law.nd) (qss_cons (qs_set 8 sc_law.nd (q_call G__law_draw hG (hr.mono (by decide)) (by rfl) A__law_draw.m A__law_draw.F.kp A__law_draw.b (qa_k 1 (qa_d (q_lenN 4 (by rfl) T.b_len) qa_nil))))
      (qss_cons (qs_if (QW.qt (qw_or (q_tne hu (q_repr hG hu (by rfl) T.b_repr (q_call G_code_at hG (hr.mono (by decide)) (by rfl) A_code_at.m A_code_at.F.kp A_code_at.b (qa_d (qv 3) (qa_d (qv 8) qa_nil)))) (q_repr hG hu (by rfl) T.b_repr (q_ixN 4 (qv 8)))) (qw_or1 (q_tne hu (q_repr hG hu (by rfl) T.b_repr (q_call G_sign_of hG (hr.mono (by decide)) (by rfl) A_sign_of.m A_sign_of.F.kp A_sign_of.b (qa_d (qv 3) (qa_d (q_ixN 4 (qv 8)) qa_nil)))) (q_repr hG hu (by rfl) T.b_repr (q_ixN 5 (qv 8))))))) (qss_one (qs_ret q_bl)) qss_nil)
      (qss_one (qs_if (QW.qt (qw_and (q_tgt (qv 8) q_int) (qw_and1 (q_tisnB (q_call G_is_ahead hG (hr.mono (by decide)) (by rfl) A_is_ahead.m A_is_ahead.F.kp A_is_ahead.b (qa_d (qv 3) (qa_d (q_ixN 4 (q_sub (qv 8) q_int)) (qa_d (q_ixN 4 (qv 8)) qa_nil)))) q_bl)))) (qss_one (qs_ret q_bl)) qss_nil)))))
      (qss_cons (qs_for PassesOwn.never rfl (qi_range1 (by rfl) T.b_range q_int) (qg_name 7 sc_law.nd) (qss_cons (qs_set 9 sc_law.nd (q_call G__law_draw hG (hr.mono (by decide)) (by rfl) A__law_draw.m A__law_draw.F.kp A__law_draw.b (qa_k 1 (qa_d q_int qa_nil))))
      (qss_cons (qs_set 10 sc_law.nd (q_ifExp (q_tne hu (qv 7) q_int) (q_call G_sign_rows hG (hr.mono (by decide)) (by rfl) A_sign_rows.m A_sign_rows.F.kp A_sign_rows.b (qa_d (qv 3) (qa_d (qv 9) qa_nil))) (q_callK0 G_sign_rows hG (hr.mono (by decide)) (by rfl) A_sign_rows.m A_sign_rows.F.kp (kw_sign_rows_0_m_desks A_sign_rows.F) (qk_d (qv 9) (qk_d (qv 3) qk_nil)))))
      (qss_one (qs_if (q_tne hu (q_repr hG hu (by rfl) T.b_repr (qv 10)) (q_repr hG hu (by rfl) T.b_repr (q_call G__law_rows hG (hr.mono (by decide)) (by rfl) A__law_rows.m A__law_rows.F.kp A__law_rows.b (qa_d (q_call G__law_short_word hG (hr.mono (by decide)) (by rfl) A__law_short_word.m A__law_short_word.F.kp A__law_short_word.b (qa_d (qv 3) qa_nil)) (qa_d (qv 9) qa_nil))))) (qss_one (qs_ret q_bl)) qss_nil)))))
      (qss_cons (qs_if (QW.qt (qw_and (q_tlt (q_lenN 3 (by rfl) T.b_len) q_int) (qw_and1 (q_tgt (q_lenN 5 (by rfl) T.b_len) q_int)))) (qss_cons (qs_par2 11 9 rfl sc_law.nd (qp_d (q_addF (qv 3) (q_tup (qd_cons (q_tup (qd_cons q_str (qd_cons q_str qd_nil))) qd_nil))) (qp_d (q_call G__law_draw hG (hr.mono (by decide)) (by rfl) A__law_draw.m A__law_draw.F.kp A__law_draw.b (qa_k 1 (qa_d q_int qa_nil))) qp_nil)))
      (qss_one (qs_if (q_tne hu (q_repr hG hu (by rfl) T.b_repr (q_call G_sign_rows hG (hr.mono (by decide)) (by rfl) A_sign_rows.m A_sign_rows.F.kp A_sign_rows.b (qa_d (qv 11) (qa_d (qv 9) qa_nil)))) (q_repr hG hu (by rfl) T.b_repr (q_call G__law_rows hG (hr.mono (by decide)) (by rfl) A__law_rows.m A__law_rows.F.kp A__law_rows.b (qa_d (q_call G__law_short_word hG (hr.mono (by decide)) (by rfl) A__law_short_word.m A__law_short_word.F.kp A__law_short_word.b (qa_d (qv 11) qa_nil)) (qa_d (qv 9) qa_nil))))) (qss_one (qs_ret q_bl)) qss_nil))) qss_nil)
      (qss_one (qs_if (q_tlt (q_lenN 3 (by rfl) T.b_len) q_int) (qss_cons (qs_set 12 sc_law.nd (q_tuple (by rfl) T.b_tuple (q_frz (ql_lc (own := [("_law_sign_here", 14)]) rfl sc_law.nd (qi_e (q_rev (qv 5))) (blkOk_by (own := [("_law_sign_here", 14)]) (N := N_law) (sc := defScope (top 47)) (by decide +kernel)) (fun _ _ _ _ _ => (qg_name 14 sc_law.nd)) (by decide) (fun _ _ _ _ _ => qts_nil) (fun _ _ _ _ _ => (q_neg (qv 14)))))))
      (qss_cons (qs_if (q_tne hu (q_repr hG hu (by rfl) T.b_repr (q_call G_folded_word hG (hr.mono (by decide)) (by rfl) A_folded_word.m A_folded_word.F.kp A_folded_word.b (qa_d (q_addF (qv 3) (q_tup (qd_cons (q_tup (qd_cons q_str qd_nil)) qd_nil))) qa_nil))) (q_repr hG hu (by rfl) T.b_repr (qv 5))) (qss_one (qs_ret q_bl)) qss_nil)
      (qss_one (qs_if (q_tne hu (q_repr hG hu (by rfl) T.b_repr (q_call G_folded_word hG (hr.mono (by decide)) (by rfl) A_folded_word.m A_folded_word.F.kp A_folded_word.b (qa_d (q_addF (qv 3) (q_tup (qd_cons (q_tup (qd_cons q_str (qd_cons q_str qd_nil))) qd_nil))) qa_nil))) (q_repr hG hu (by rfl) T.b_repr (q_addF (qv 5) (qv 12)))) (qss_one (qs_ret q_bl)) qss_nil)))) qss_nil)))))))))))
      (qss_one (qs_ret q_bl)))) hread
end
end T44
end P63
section P64
open PySem PySem.Spec PyProof.Rows L2 HT Q
namespace T44
theorem all_mk {l : PySem.W.OpenLaw} {w : World} {K : PySem.W.Frag} {h : Heap} {mg : Str → Option Value} {fa : Addr} (X : K.In h) (G : h.Ns mainGlobals mg) (hfa : mg "law" = some (.ref fa))
    {f0 : Addr} {od0 an0 : Option Addr} {sl0 : Array (Option Value)} {oc0 kV0 dc0 pm0 cd0 ct0 : Value}
    (a0 : PySem.W.nsIn K mainGlobals "is_integer" = some (some (.ref f0))) (l0 : K.lookup f0 = some ⟨oc0, od0, .func (PySem.W.fnOf "is_integer" "is_integer" (defArgs (top 3)) (defBody (top 3)) (defScope (top 3)) .none kV0 dc0 pm0 an0 cd0 ct0), sl0⟩) (c0 : PySem.W.codeIn K cd0 "is_integer" = true) (k0 : PySem.W.keepIn K (.ref f0) = true)
    {f1 : Addr} {od1 an1 : Option Addr} {sl1 : Array (Option Value)} {oc1 kV1 dc1 pm1 cd1 ct1 : Value}
    (a1 : PySem.W.nsIn K mainGlobals "is_between" = some (some (.ref f1))) (l1 : K.lookup f1 = some ⟨oc1, od1, .func (PySem.W.fnOf "is_between" "is_between" (defArgs (top 4)) (defBody (top 4)) (defScope (top 4)) .none kV1 dc1 pm1 an1 cd1 ct1), sl1⟩) (c1 : PySem.W.codeIn K cd1 "is_between" = true) (k1 : PySem.W.keepIn K (.ref f1) = true)
    {f2 : Addr} {od2 an2 : Option Addr} {sl2 : Array (Option Value)} {oc2 kV2 dc2 pm2 cd2 ct2 : Value}
    (a2 : PySem.W.nsIn K mainGlobals "is_desk_value" = some (some (.ref f2))) (l2 : K.lookup f2 = some ⟨oc2, od2, .func (PySem.W.fnOf "is_desk_value" "is_desk_value" (defArgs (top 5)) (defBody (top 5)) (defScope (top 5)) .none kV2 dc2 pm2 an2 cd2 ct2), sl2⟩) (c2 : PySem.W.codeIn K cd2 "is_desk_value" = true) (k2 : PySem.W.keepIn K (.ref f2) = true)
    {f3 : Addr} {od3 an3 : Option Addr} {sl3 : Array (Option Value)} {oc3 kV3 dc3 pm3 cd3 ct3 : Value}
    (a3 : PySem.W.nsIn K mainGlobals "need_number" = some (some (.ref f3))) (l3 : K.lookup f3 = some ⟨oc3, od3, .func (PySem.W.fnOf "need_number" "need_number" (defArgs (top 12)) (defBody (top 12)) (defScope (top 12)) .none kV3 dc3 pm3 an3 cd3 ct3), sl3⟩) (c3 : PySem.W.codeIn K cd3 "need_number" = true) (k3 : PySem.W.keepIn K (.ref f3) = true)
    {f4 : Addr} {od4 an4 : Option Addr} {sl4 : Array (Option Value)} {oc4 kV4 dc4 pm4 cd4 ct4 : Value}
    (a4 : PySem.W.nsIn K mainGlobals "sign_of_place" = some (some (.ref f4))) (l4 : K.lookup f4 = some ⟨oc4, od4, .func (PySem.W.fnOf "sign_of_place" "sign_of_place" (defArgs (top 14)) (defBody (top 14)) (defScope (top 14)) .none kV4 dc4 pm4 an4 cd4 ct4), sl4⟩) (c4 : PySem.W.codeIn K cd4 "sign_of_place" = true) (k4 : PySem.W.keepIn K (.ref f4) = true)
    {f5 : Addr} {od5 an5 : Option Addr} {sl5 : Array (Option Value)} {oc5 kV5 dc5 pm5 cd5 ct5 : Value}
    (a5 : PySem.W.nsIn K mainGlobals "are_desks_value" = some (some (.ref f5))) (l5 : K.lookup f5 = some ⟨oc5, od5, .func (PySem.W.fnOf "are_desks_value" "are_desks_value" (defArgs (top 17)) (defBody (top 17)) (defScope (top 17)) .none kV5 dc5 pm5 an5 cd5 ct5), sl5⟩) (c5 : PySem.W.codeIn K cd5 "are_desks_value" = true) (k5 : PySem.W.keepIn K (.ref f5) = true)
    {f6 : Addr} {od6 an6 : Option Addr} {sl6 : Array (Option Value)} {oc6 kV6 dc6 pm6 cd6 ct6 : Value}
    (a6 : PySem.W.nsIn K mainGlobals "is_code_value" = some (some (.ref f6))) (l6 : K.lookup f6 = some ⟨oc6, od6, .func (PySem.W.fnOf "is_code_value" "is_code_value" (defArgs (top 18)) (defBody (top 18)) (defScope (top 18)) .none kV6 dc6 pm6 an6 cd6 ct6), sl6⟩) (c6 : PySem.W.codeIn K cd6 "is_code_value" = true) (k6 : PySem.W.keepIn K (.ref f6) = true)
    {f7 : Addr} {od7 an7 : Option Addr} {sl7 : Array (Option Value)} {oc7 kV7 dc7 pm7 cd7 ct7 : Value}
    (a7 : PySem.W.nsIn K mainGlobals "raw_sign" = some (some (.ref f7))) (l7 : K.lookup f7 = some ⟨oc7, od7, .func (PySem.W.fnOf "raw_sign" "raw_sign" (defArgs (top 19)) (defBody (top 19)) (defScope (top 19)) .none kV7 dc7 pm7 an7 cd7 ct7), sl7⟩) (c7 : PySem.W.codeIn K cd7 "raw_sign" = true) (k7 : PySem.W.keepIn K (.ref f7) = true)
    {f8 : Addr} {od8 an8 : Option Addr} {sl8 : Array (Option Value)} {oc8 kV8 dc8 pm8 cd8 ct8 : Value}
    (a8 : PySem.W.nsIn K mainGlobals "many_codes" = some (some (.ref f8))) (l8 : K.lookup f8 = some ⟨oc8, od8, .func (PySem.W.fnOf "many_codes" "many_codes" (defArgs (top 20)) (defBody (top 20)) (defScope (top 20)) .none kV8 dc8 pm8 an8 cd8 ct8), sl8⟩) (c8 : PySem.W.codeIn K cd8 "many_codes" = true) (k8 : PySem.W.keepIn K (.ref f8) = true)
    {f9 : Addr} {od9 an9 : Option Addr} {sl9 : Array (Option Value)} {oc9 kV9 dc9 pm9 cd9 ct9 : Value}
    (a9 : PySem.W.nsIn K mainGlobals "raw_code_at" = some (some (.ref f9))) (l9 : K.lookup f9 = some ⟨oc9, od9, .func (PySem.W.fnOf "raw_code_at" "raw_code_at" (defArgs (top 21)) (defBody (top 21)) (defScope (top 21)) .none kV9 dc9 pm9 an9 cd9 ct9), sl9⟩) (c9 : PySem.W.codeIn K cd9 "raw_code_at" = true) (k9 : PySem.W.keepIn K (.ref f9) = true)
    {f10 : Addr} {od10 an10 : Option Addr} {sl10 : Array (Option Value)} {oc10 kV10 dc10 pm10 cd10 ct10 : Value}
    (a10 : PySem.W.nsIn K mainGlobals "raw_position" = some (some (.ref f10))) (l10 : K.lookup f10 = some ⟨oc10, od10, .func (PySem.W.fnOf "raw_position" "raw_position" (defArgs (top 22)) (defBody (top 22)) (defScope (top 22)) .none kV10 dc10 pm10 an10 cd10 ct10), sl10⟩) (c10 : PySem.W.codeIn K cd10 "raw_position" = true) (k10 : PySem.W.keepIn K (.ref f10) = true)
    {f11 : Addr} {od11 an11 : Option Addr} {sl11 : Array (Option Value)} {oc11 kV11 dc11 pm11 cd11 ct11 : Value}
    (a11 : PySem.W.nsIn K mainGlobals "word_of" = some (some (.ref f11))) (l11 : K.lookup f11 = some ⟨oc11, od11, .func (PySem.W.fnOf "word_of" "word_of" (defArgs (top 23)) (defBody (top 23)) (defScope (top 23)) .none kV11 dc11 pm11 an11 cd11 ct11), sl11⟩) (c11 : PySem.W.codeIn K cd11 "word_of" = true) (k11 : PySem.W.keepIn K (.ref f11) = true)
    {f12 : Addr} {od12 an12 : Option Addr} {sl12 : Array (Option Value)} {oc12 kV12 dc12 pm12 cd12 ct12 : Value}
    (a12 : PySem.W.nsIn K mainGlobals "many_rows_of_signs" = some (some (.ref f12))) (l12 : K.lookup f12 = some ⟨oc12, od12, .func (PySem.W.fnOf "many_rows_of_signs" "many_rows_of_signs" (defArgs (top 24)) (defBody (top 24)) (defScope (top 24)) .none kV12 dc12 pm12 an12 cd12 ct12), sl12⟩) (c12 : PySem.W.codeIn K cd12 "many_rows_of_signs" = true) (k12 : PySem.W.keepIn K (.ref f12) = true)
    {f13 : Addr} {od13 an13 : Option Addr} {sl13 : Array (Option Value)} {oc13 kV13 dc13 pm13 cd13 ct13 : Value}
    (a13 : PySem.W.nsIn K mainGlobals "need_desks" = some (some (.ref f13))) (l13 : K.lookup f13 = some ⟨oc13, od13, .func (PySem.W.fnOf "need_desks" "need_desks" (defArgs (top 26)) (defBody (top 26)) (defScope (top 26)) .none kV13 dc13 pm13 an13 cd13 ct13), sl13⟩) (c13 : PySem.W.codeIn K cd13 "need_desks" = true) (k13 : PySem.W.keepIn K (.ref f13) = true)
    {f14 : Addr} {od14 an14 : Option Addr} {sl14 : Array (Option Value)} {oc14 kV14 dc14 pm14 cd14 ct14 : Value}
    (a14 : PySem.W.nsIn K mainGlobals "need_code" = some (some (.ref f14))) (l14 : K.lookup f14 = some ⟨oc14, od14, .func (PySem.W.fnOf "need_code" "need_code" (defArgs (top 27)) (defBody (top 27)) (defScope (top 27)) .none kV14 dc14 pm14 an14 cd14 ct14), sl14⟩) (c14 : PySem.W.codeIn K cd14 "need_code" = true) (k14 : PySem.W.keepIn K (.ref f14) = true)
    {f15 : Addr} {od15 an15 : Option Addr} {sl15 : Array (Option Value)} {oc15 kV15 dc15 pm15 cd15 ct15 : Value}
    (a15 : PySem.W.nsIn K mainGlobals "sign_of" = some (some (.ref f15))) (l15 : K.lookup f15 = some ⟨oc15, od15, .func (PySem.W.fnOf "sign_of" "sign_of" (defArgs (top 28)) (defBody (top 28)) (defScope (top 28)) .none kV15 dc15 pm15 an15 cd15 ct15), sl15⟩) (c15 : PySem.W.codeIn K cd15 "sign_of" = true) (k15 : PySem.W.keepIn K (.ref f15) = true)
    {f16 : Addr} {od16 an16 : Option Addr} {sl16 : Array (Option Value)} {oc16 kV16 dc16 pm16 cd16 ct16 : Value}
    (a16 : PySem.W.nsIn K mainGlobals "is_ahead" = some (some (.ref f16))) (l16 : K.lookup f16 = some ⟨oc16, od16, .func (PySem.W.fnOf "is_ahead" "is_ahead" (defArgs (top 29)) (defBody (top 29)) (defScope (top 29)) .none kV16 dc16 pm16 an16 cd16 ct16), sl16⟩) (c16 : PySem.W.codeIn K cd16 "is_ahead" = true) (k16 : PySem.W.keepIn K (.ref f16) = true)
    {f17 : Addr} {od17 an17 : Option Addr} {sl17 : Array (Option Value)} {oc17 kV17 dc17 pm17 cd17 ct17 : Value}
    (a17 : PySem.W.nsIn K mainGlobals "codes_number" = some (some (.ref f17))) (l17 : K.lookup f17 = some ⟨oc17, od17, .func (PySem.W.fnOf "codes_number" "codes_number" (defArgs (top 30)) (defBody (top 30)) (defScope (top 30)) .none kV17 dc17 pm17 an17 cd17 ct17), sl17⟩) (c17 : PySem.W.codeIn K cd17 "codes_number" = true) (k17 : PySem.W.keepIn K (.ref f17) = true)
    {f18 : Addr} {od18 an18 : Option Addr} {sl18 : Array (Option Value)} {oc18 kV18 dc18 pm18 cd18 ct18 : Value}
    (a18 : PySem.W.nsIn K mainGlobals "code_at" = some (some (.ref f18))) (l18 : K.lookup f18 = some ⟨oc18, od18, .func (PySem.W.fnOf "code_at" "code_at" (defArgs (top 31)) (defBody (top 31)) (defScope (top 31)) .none kV18 dc18 pm18 an18 cd18 ct18), sl18⟩) (c18 : PySem.W.codeIn K cd18 "code_at" = true) (k18 : PySem.W.keepIn K (.ref f18) = true)
    {f19 : Addr} {od19 an19 : Option Addr} {sl19 : Array (Option Value)} {oc19 kV19 dc19 pm19 cd19 ct19 : Value}
    (a19 : PySem.W.nsIn K mainGlobals "folded_word" = some (some (.ref f19))) (l19 : K.lookup f19 = some ⟨oc19, od19, .func (PySem.W.fnOf "folded_word" "folded_word" (defArgs (top 32)) (defBody (top 32)) (defScope (top 32)) .none kV19 dc19 pm19 an19 cd19 ct19), sl19⟩) (c19 : PySem.W.codeIn K cd19 "folded_word" = true) (k19 : PySem.W.keepIn K (.ref f19) = true)
    {f20 : Addr} {od20 an20 : Option Addr} {sl20 : Array (Option Value)} {oc20 kV20 dc20 pm20 cd20 ct20 : Value}
    (a20 : PySem.W.nsIn K mainGlobals "sign_rows" = some (some (.ref f20))) (l20 : K.lookup f20 = some ⟨oc20, od20, .func (PySem.W.fnOf "sign_rows" "sign_rows" (defArgs (top 34)) (defBody (top 34)) (defScope (top 34)) .none kV20 dc20 pm20 an20 cd20 ct20), sl20⟩) (c20 : PySem.W.codeIn K cd20 "sign_rows" = true) (k20 : PySem.W.keepIn K (.ref f20) = true)
    {f21 : Addr} {od21 an21 : Option Addr} {sl21 : Array (Option Value)} {oc21 kV21 dc21 pm21 cd21 ct21 : Value}
    (a21 : PySem.W.nsIn K mainGlobals "_law_deck" = some (some (.ref f21))) (l21 : K.lookup f21 = some ⟨oc21, od21, .func (PySem.W.fnOf "_law_deck" "_law_deck" (defArgs (top 36)) (defBody (top 36)) (defScope (top 36)) .none kV21 dc21 pm21 an21 cd21 ct21), sl21⟩) (c21 : PySem.W.codeIn K cd21 "_law_deck" = true) (k21 : PySem.W.keepIn K (.ref f21) = true)
    {f22 : Addr} {od22 an22 : Option Addr} {sl22 : Array (Option Value)} {oc22 kV22 dc22 pm22 cd22 ct22 : Value}
    (a22 : PySem.W.nsIn K mainGlobals "_law_draw" = some (some (.ref f22))) (l22 : K.lookup f22 = some ⟨oc22, od22, .func (PySem.W.fnOf "_law_draw" "_law_draw" (defArgs (top 37)) (defBody (top 37)) (defScope (top 37)) .none kV22 dc22 pm22 an22 cd22 ct22), sl22⟩) (c22 : PySem.W.codeIn K cd22 "_law_draw" = true) (k22 : PySem.W.keepIn K (.ref f22) = true)
    {f23 : Addr} {od23 an23 : Option Addr} {sl23 : Array (Option Value)} {oc23 kV23 dc23 pm23 cd23 ct23 : Value}
    (a23 : PySem.W.nsIn K mainGlobals "_law_pick" = some (some (.ref f23))) (l23 : K.lookup f23 = some ⟨oc23, od23, .func (PySem.W.fnOf "_law_pick" "_law_pick" (defArgs (top 38)) (defBody (top 38)) (defScope (top 38)) .none kV23 dc23 pm23 an23 cd23 ct23), sl23⟩) (c23 : PySem.W.codeIn K cd23 "_law_pick" = true) (k23 : PySem.W.keepIn K (.ref f23) = true)
    {f24 : Addr} {od24 an24 : Option Addr} {sl24 : Array (Option Value)} {oc24 kV24 dc24 pm24 cd24 ct24 : Value}
    (a24 : PySem.W.nsIn K mainGlobals "_law_desk" = some (some (.ref f24))) (l24 : K.lookup f24 = some ⟨oc24, od24, .func (PySem.W.fnOf "_law_desk" "_law_desk" (defArgs (top 39)) (defBody (top 39)) (defScope (top 39)) .none kV24 dc24 pm24 an24 cd24 ct24), sl24⟩) (c24 : PySem.W.codeIn K cd24 "_law_desk" = true) (k24 : PySem.W.keepIn K (.ref f24) = true)
    {f25 : Addr} {od25 an25 : Option Addr} {sl25 : Array (Option Value)} {oc25 kV25 dc25 pm25 cd25 ct25 : Value}
    (a25 : PySem.W.nsIn K mainGlobals "_law_desks" = some (some (.ref f25))) (l25 : K.lookup f25 = some ⟨oc25, od25, .func (PySem.W.fnOf "_law_desks" "_law_desks" (defArgs (top 40)) (defBody (top 40)) (defScope (top 40)) .none kV25 dc25 pm25 an25 cd25 ct25), sl25⟩) (c25 : PySem.W.codeIn K cd25 "_law_desks" = true) (k25 : PySem.W.keepIn K (.ref f25) = true)
    {f26 : Addr} {od26 an26 : Option Addr} {sl26 : Array (Option Value)} {oc26 kV26 dc26 pm26 cd26 ct26 : Value}
    (a26 : PySem.W.nsIn K mainGlobals "_law_sign" = some (some (.ref f26))) (l26 : K.lookup f26 = some ⟨oc26, od26, .func (PySem.W.fnOf "_law_sign" "_law_sign" (defArgs (top 41)) (defBody (top 41)) (defScope (top 41)) .none kV26 dc26 pm26 an26 cd26 ct26), sl26⟩) (c26 : PySem.W.codeIn K cd26 "_law_sign" = true) (k26 : PySem.W.keepIn K (.ref f26) = true)
    {f27 : Addr} {od27 an27 : Option Addr} {sl27 : Array (Option Value)} {oc27 kV27 dc27 pm27 cd27 ct27 : Value}
    (a27 : PySem.W.nsIn K mainGlobals "_law_codes" = some (some (.ref f27))) (l27 : K.lookup f27 = some ⟨oc27, od27, .func (PySem.W.fnOf "_law_codes" "_law_codes" (defArgs (top 42)) (defBody (top 42)) (defScope (top 42)) .none kV27 dc27 pm27 an27 cd27 ct27), sl27⟩) (c27 : PySem.W.codeIn K cd27 "_law_codes" = true) (k27 : PySem.W.keepIn K (.ref f27) = true)
    {f28 : Addr} {od28 an28 : Option Addr} {sl28 : Array (Option Value)} {oc28 kV28 dc28 pm28 cd28 ct28 : Value}
    (a28 : PySem.W.nsIn K mainGlobals "_law_cut" = some (some (.ref f28))) (l28 : K.lookup f28 = some ⟨oc28, od28, .func (PySem.W.fnOf "_law_cut" "_law_cut" (defArgs (top 43)) (defBody (top 43)) (defScope (top 43)) .none kV28 dc28 pm28 an28 cd28 ct28), sl28⟩) (c28 : PySem.W.codeIn K cd28 "_law_cut" = true) (k28 : PySem.W.keepIn K (.ref f28) = true)
    {f29 : Addr} {od29 an29 : Option Addr} {sl29 : Array (Option Value)} {oc29 kV29 dc29 pm29 cd29 ct29 : Value}
    (a29 : PySem.W.nsIn K mainGlobals "_law_short_word" = some (some (.ref f29))) (l29 : K.lookup f29 = some ⟨oc29, od29, .func (PySem.W.fnOf "_law_short_word" "_law_short_word" (defArgs (top 44)) (defBody (top 44)) (defScope (top 44)) .none kV29 dc29 pm29 an29 cd29 ct29), sl29⟩) (c29 : PySem.W.codeIn K cd29 "_law_short_word" = true) (k29 : PySem.W.keepIn K (.ref f29) = true)
    {f30 : Addr} {od30 an30 : Option Addr} {sl30 : Array (Option Value)} {oc30 kV30 dc30 pm30 cd30 ct30 : Value}
    (a30 : PySem.W.nsIn K mainGlobals "_law_nexts" = some (some (.ref f30))) (l30 : K.lookup f30 = some ⟨oc30, od30, .func (PySem.W.fnOf "_law_nexts" "_law_nexts" (defArgs (top 45)) (defBody (top 45)) (defScope (top 45)) .none kV30 dc30 pm30 an30 cd30 ct30), sl30⟩) (c30 : PySem.W.codeIn K cd30 "_law_nexts" = true) (k30 : PySem.W.keepIn K (.ref f30) = true)
    {f31 : Addr} {od31 an31 : Option Addr} {sl31 : Array (Option Value)} {oc31 kV31 dc31 pm31 cd31 ct31 : Value}
    (a31 : PySem.W.nsIn K mainGlobals "_law_rows" = some (some (.ref f31))) (l31 : K.lookup f31 = some ⟨oc31, od31, .func (PySem.W.fnOf "_law_rows" "_law_rows" (defArgs (top 46)) (defBody (top 46)) (defScope (top 46)) .none kV31 dc31 pm31 an31 cd31 ct31), sl31⟩) (c31 : PySem.W.codeIn K cd31 "_law_rows" = true) (k31 : PySem.W.keepIn K (.ref f31) = true)
    {f32 : Addr} {od32 an32 : Option Addr} {sl32 : Array (Option Value)} {oc32 kV32 dc32 pm32 cd32 ct32 : Value}
    (a32 : PySem.W.nsIn K mainGlobals "law" = some (some (.ref f32))) (l32 : K.lookup f32 = some ⟨oc32, od32, .func (PySem.W.fnOf "law" "law" (defArgs (top 47)) (defBody (top 47)) (defScope (top 47)) .none kV32 dc32 pm32 an32 cd32 ct32), sl32⟩) (c32 : PySem.W.codeIn K cd32 "law" = true) (k32 : PySem.W.keepIn K (.ref f32) = true)
    (z_len : PySem.W.nsIn K mainGlobals "len" = some none)
    (z_tuple : PySem.W.nsIn K mainGlobals "tuple" = some none)
    (z_list : PySem.W.nsIn K mainGlobals "list" = some none)
    (z_range : PySem.W.nsIn K mainGlobals "range" = some none)
    (z_all : PySem.W.nsIn K mainGlobals "all" = some none)
    (z_sum : PySem.W.nsIn K mainGlobals "sum" = some none)
    (z_max : PySem.W.nsIn K mainGlobals "max" = some none)
    (z_int : PySem.W.nsIn K mainGlobals "int" = some none)
    (z_isinstance : PySem.W.nsIn K mainGlobals "isinstance" = some none)
    (z_repr : PySem.W.nsIn K mainGlobals "repr" = some none)
    (z_enumerate : PySem.W.nsIn K mainGlobals "enumerate" = some none)
    (z_bool : PySem.W.nsIn K mainGlobals "bool" = some none)
    (z_str : PySem.W.nsIn K mainGlobals "str" = some none)
    (z_zip : PySem.W.nsIn K mainGlobals "zip" = some none)
    {t_MOST_PLACES : _} (z_MOST_PLACES : PySem.W.nsIn K mainGlobals "MOST_PLACES" = some (some (.int 6 t_MOST_PLACES)))
    {t_MOST_DESKS : _} (z_MOST_DESKS : PySem.W.nsIn K mainGlobals "MOST_DESKS" = some (some (.int 12 t_MOST_DESKS)))
    {p_PLACES : Addr} {d_PLACES : Option Addr} {n_PLACES : Nat} {s_PLACES : Array (Option Value)} {t0_PLACES t1_PLACES : Tok} (z_PLACES : PySem.W.nsIn K mainGlobals "PLACES" = some (some (.ref p_PLACES))) (y_PLACES : K.lookup p_PLACES = some ⟨.type "tuple", d_PLACES, .seq #[.str "tray" t0_PLACES, .str "pile" t1_PLACES] n_PLACES, s_PLACES⟩)
    : ∃ fd : FuncData, (∀ (s : Shared) (v : Value), BindsTo s fd ⟨[v], []⟩ [("_law_script", v)]) ∧ ∀ base : Heap, K.In base → base.Ns mainGlobals mg → LawOk l.prog w K mg base 6 fa fd "_law_script" := by
  have e := hfa.symm.trans (PySem.W.mg_of X G a32)
  cases e
  have T : Txt K mg := ⟨PySem.W.mg_none_of X G z_len, PySem.W.mg_none_of X G z_tuple, PySem.W.mg_none_of X G z_list, PySem.W.mg_none_of X G z_range, PySem.W.mg_none_of X G z_all, PySem.W.mg_none_of X G z_sum, PySem.W.mg_none_of X G z_max, PySem.W.mg_none_of X G z_int, PySem.W.mg_none_of X G z_isinstance, PySem.W.mg_none_of X G z_repr, PySem.W.mg_none_of X G z_enumerate, PySem.W.mg_none_of X G z_bool, PySem.W.mg_none_of X G z_str, PySem.W.mg_none_of X G z_zip, ⟨_, PySem.W.mg_of X G z_MOST_PLACES⟩, ⟨_, PySem.W.mg_of X G z_MOST_DESKS⟩, ⟨_, PySem.W.mg_of X G z_PLACES, gtup_of (zs := ["tray", "pile"]) y_PLACES (Nat.le_of_ble_eq_true rfl) (.cons ⟨_, rfl⟩ (.cons ⟨_, rfl⟩ (.nil)))⟩⟩
  have F_is_integer := fun_mk (st := top 3) l0 c0 k0
  have A_is_integer : At K mg "is_integer" ["thing"] (top 3) f0 _ := ⟨F_is_integer, PySem.W.mg_of X G a0, F_is_integer.binds (ps := ["thing"]) fun _ _ _ _ _ _ us hl => match us, hl with | [_], _ => rfl⟩
  have F_is_between := fun_mk (st := top 4) l1 c1 k1
  have A_is_between : At K mg "is_between" ["thing", "least", "most"] (top 4) f1 _ := ⟨F_is_between, PySem.W.mg_of X G a1, F_is_between.binds (ps := ["thing", "least", "most"]) fun _ _ _ _ _ _ us hl => match us, hl with | [_, _, _], _ => rfl⟩
  have F_is_desk_value := fun_mk (st := top 5) l2 c2 k2
  have A_is_desk_value : At K mg "is_desk_value" ["thing"] (top 5) f2 _ := ⟨F_is_desk_value, PySem.W.mg_of X G a2, F_is_desk_value.binds (ps := ["thing"]) fun _ _ _ _ _ _ us hl => match us, hl with | [_], _ => rfl⟩
  have F_need_number := fun_mk (st := top 12) l3 c3 k3
  have A_need_number : At K mg "need_number" ["number"] (top 12) f3 _ := ⟨F_need_number, PySem.W.mg_of X G a3, F_need_number.binds (ps := ["number"]) fun _ _ _ _ _ _ us hl => match us, hl with | [_], _ => rfl⟩
  have F_sign_of_place := fun_mk (st := top 14) l4 c4 k4
  have A_sign_of_place : At K mg "sign_of_place" ["place"] (top 14) f4 _ := ⟨F_sign_of_place, PySem.W.mg_of X G a4, F_sign_of_place.binds (ps := ["place"]) fun _ _ _ _ _ _ us hl => match us, hl with | [_], _ => rfl⟩
  have F_are_desks_value := fun_mk (st := top 17) l5 c5 k5
  have A_are_desks_value : At K mg "are_desks_value" ["thing"] (top 17) f5 _ := ⟨F_are_desks_value, PySem.W.mg_of X G a5, F_are_desks_value.binds (ps := ["thing"]) fun _ _ _ _ _ _ us hl => match us, hl with | [_], _ => rfl⟩
  have F_is_code_value := fun_mk (st := top 18) l6 c6 k6
  have A_is_code_value : At K mg "is_code_value" ["desks", "thing"] (top 18) f6 _ := ⟨F_is_code_value, PySem.W.mg_of X G a6, F_is_code_value.binds (ps := ["desks", "thing"]) fun _ _ _ _ _ _ us hl => match us, hl with | [_, _], _ => rfl⟩
  have F_raw_sign := fun_mk (st := top 19) l7 c7 k7
  have A_raw_sign : At K mg "raw_sign" ["desks", "code"] (top 19) f7 _ := ⟨F_raw_sign, PySem.W.mg_of X G a7, F_raw_sign.binds (ps := ["desks", "code"]) fun _ _ _ _ _ _ us hl => match us, hl with | [_, _], _ => rfl⟩
  have F_many_codes := fun_mk (st := top 20) l8 c8 k8
  have A_many_codes : At K mg "many_codes" ["desks"] (top 20) f8 _ := ⟨F_many_codes, PySem.W.mg_of X G a8, F_many_codes.binds (ps := ["desks"]) fun _ _ _ _ _ _ us hl => match us, hl with | [_], _ => rfl⟩
  have F_raw_code_at := fun_mk (st := top 21) l9 c9 k9
  have A_raw_code_at : At K mg "raw_code_at" ["desks", "n"] (top 21) f9 _ := ⟨F_raw_code_at, PySem.W.mg_of X G a9, F_raw_code_at.binds (ps := ["desks", "n"]) fun _ _ _ _ _ _ us hl => match us, hl with | [_, _], _ => rfl⟩
  have F_raw_position := fun_mk (st := top 22) l10 c10 k10
  have A_raw_position : At K mg "raw_position" ["desks", "code"] (top 22) f10 _ := ⟨F_raw_position, PySem.W.mg_of X G a10, F_raw_position.binds (ps := ["desks", "code"]) fun _ _ _ _ _ _ us hl => match us, hl with | [_, _], _ => rfl⟩
  have F_word_of := fun_mk (st := top 23) l11 c11 k11
  have A_word_of : At K mg "word_of" ["desks"] (top 23) f11 _ := ⟨F_word_of, PySem.W.mg_of X G a11, F_word_of.binds (ps := ["desks"]) fun _ _ _ _ _ _ us hl => match us, hl with | [_], _ => rfl⟩
  have F_many_rows_of_signs := fun_mk (st := top 24) l12 c12 k12
  have A_many_rows_of_signs : At K mg "many_rows_of_signs" ["word", "m"] (top 24) f12 _ := ⟨F_many_rows_of_signs, PySem.W.mg_of X G a12, F_many_rows_of_signs.binds (ps := ["word", "m"]) fun _ _ _ _ _ _ us hl => match us, hl with | [_, _], _ => rfl⟩
  have F_need_desks := fun_mk (st := top 26) l13 c13 k13
  have A_need_desks : At K mg "need_desks" ["desks"] (top 26) f13 _ := ⟨F_need_desks, PySem.W.mg_of X G a13, F_need_desks.binds (ps := ["desks"]) fun _ _ _ _ _ _ us hl => match us, hl with | [_], _ => rfl⟩
  have F_need_code := fun_mk (st := top 27) l14 c14 k14
  have A_need_code : At K mg "need_code" ["desks", "code"] (top 27) f14 _ := ⟨F_need_code, PySem.W.mg_of X G a14, F_need_code.binds (ps := ["desks", "code"]) fun _ _ _ _ _ _ us hl => match us, hl with | [_, _], _ => rfl⟩
  have F_sign_of := fun_mk (st := top 28) l15 c15 k15
  have A_sign_of : At K mg "sign_of" ["desks", "code"] (top 28) f15 _ := ⟨F_sign_of, PySem.W.mg_of X G a15, F_sign_of.binds (ps := ["desks", "code"]) fun _ _ _ _ _ _ us hl => match us, hl with | [_, _], _ => rfl⟩
  have F_is_ahead := fun_mk (st := top 29) l16 c16 k16
  have A_is_ahead : At K mg "is_ahead" ["desks", "one", "other"] (top 29) f16 _ := ⟨F_is_ahead, PySem.W.mg_of X G a16, F_is_ahead.binds (ps := ["desks", "one", "other"]) fun _ _ _ _ _ _ us hl => match us, hl with | [_, _, _], _ => rfl⟩
  have F_codes_number := fun_mk (st := top 30) l17 c17 k17
  have A_codes_number : At K mg "codes_number" ["desks"] (top 30) f17 _ := ⟨F_codes_number, PySem.W.mg_of X G a17, F_codes_number.binds (ps := ["desks"]) fun _ _ _ _ _ _ us hl => match us, hl with | [_], _ => rfl⟩
  have F_code_at := fun_mk (st := top 31) l18 c18 k18
  have A_code_at : At K mg "code_at" ["desks", "n"] (top 31) f18 _ := ⟨F_code_at, PySem.W.mg_of X G a18, F_code_at.binds (ps := ["desks", "n"]) fun _ _ _ _ _ _ us hl => match us, hl with | [_, _], _ => rfl⟩
  have F_folded_word := fun_mk (st := top 32) l19 c19 k19
  have A_folded_word : At K mg "folded_word" ["desks"] (top 32) f19 _ := ⟨F_folded_word, PySem.W.mg_of X G a19, F_folded_word.binds (ps := ["desks"]) fun _ _ _ _ _ _ us hl => match us, hl with | [_], _ => rfl⟩
  have F_sign_rows := fun_mk (st := top 34) l20 c20 k20
  have A_sign_rows : At K mg "sign_rows" ["desks", "m"] (top 34) f20 _ := ⟨F_sign_rows, PySem.W.mg_of X G a20, F_sign_rows.binds (ps := ["desks", "m"]) fun _ _ _ _ _ _ us hl => match us, hl with | [_, _], _ => rfl⟩
  have F__law_deck := fun_mk (st := top 36) l21 c21 k21
  have A__law_deck : At K mg "_law_deck" ["_law_script", "_law_law_number"] (top 36) f21 _ := ⟨F__law_deck, PySem.W.mg_of X G a21, F__law_deck.binds (ps := ["_law_script", "_law_law_number"]) fun _ _ _ _ _ _ us hl => match us, hl with | [_, _], _ => rfl⟩
  have F__law_draw := fun_mk (st := top 37) l22 c22 k22
  have A__law_draw : At K mg "_law_draw" ["_law_deck_here", "_law_below"] (top 37) f22 _ := ⟨F__law_draw, PySem.W.mg_of X G a22, F__law_draw.binds (ps := ["_law_deck_here", "_law_below"]) fun _ _ _ _ _ _ us hl => match us, hl with | [_, _], _ => rfl⟩
  have F__law_pick := fun_mk (st := top 38) l23 c23 k23
  have A__law_pick : At K mg "_law_pick" ["_law_deck_here", "_law_some"] (top 38) f23 _ := ⟨F__law_pick, PySem.W.mg_of X G a23, F__law_pick.binds (ps := ["_law_deck_here", "_law_some"]) fun _ _ _ _ _ _ us hl => match us, hl with | [_, _], _ => rfl⟩
  have F__law_desk := fun_mk (st := top 39) l24 c24 k24
  have A__law_desk : At K mg "_law_desk" ["_law_deck_here", "_law_most"] (top 39) f24 _ := ⟨F__law_desk, PySem.W.mg_of X G a24, F__law_desk.binds (ps := ["_law_deck_here", "_law_most"]) fun _ _ _ _ _ _ us hl => match us, hl with | [_, _], _ => rfl⟩
  have F__law_desks := fun_mk (st := top 40) l25 c25 k25
  have A__law_desks : At K mg "_law_desks" ["_law_deck_here", "_law_many", "_law_limit"] (top 40) f25 _ := ⟨F__law_desks, PySem.W.mg_of X G a25, F__law_desks.binds (ps := ["_law_deck_here", "_law_many", "_law_limit"]) fun _ _ _ _ _ _ us hl => match us, hl with | [_, _, _], _ => rfl⟩
  have F__law_sign := fun_mk (st := top 41) l26 c26 k26
  have A__law_sign : At K mg "_law_sign" ["_law_desks_here", "_law_code"] (top 41) f26 _ := ⟨F__law_sign, PySem.W.mg_of X G a26, F__law_sign.binds (ps := ["_law_desks_here", "_law_code"]) fun _ _ _ _ _ _ us hl => match us, hl with | [_, _], _ => rfl⟩
  have F__law_codes := fun_mk (st := top 42) l27 c27 k27
  have A__law_codes : At K mg "_law_codes" ["_law_desks_here"] (top 42) f27 _ := ⟨F__law_codes, PySem.W.mg_of X G a27, F__law_codes.binds (ps := ["_law_desks_here"]) fun _ _ _ _ _ _ us hl => match us, hl with | [_], _ => rfl⟩
  have F__law_cut := fun_mk (st := top 43) l28 c28 k28
  have A__law_cut : At K mg "_law_cut" ["_law_word"] (top 43) f28 _ := ⟨F__law_cut, PySem.W.mg_of X G a28, F__law_cut.binds (ps := ["_law_word"]) fun _ _ _ _ _ _ us hl => match us, hl with | [_], _ => rfl⟩
  have F__law_short_word := fun_mk (st := top 44) l29 c29 k29
  have A__law_short_word : At K mg "_law_short_word" ["_law_desks_here"] (top 44) f29 _ := ⟨F__law_short_word, PySem.W.mg_of X G a29, F__law_short_word.binds (ps := ["_law_desks_here"]) fun _ _ _ _ _ _ us hl => match us, hl with | [_], _ => rfl⟩
  have F__law_nexts := fun_mk (st := top 45) l30 c30 k30
  have A__law_nexts : At K mg "_law_nexts" ["_law_word"] (top 45) f30 _ := ⟨F__law_nexts, PySem.W.mg_of X G a30, F__law_nexts.binds (ps := ["_law_word"]) fun _ _ _ _ _ _ us hl => match us, hl with | [_], _ => rfl⟩
  have F__law_rows := fun_mk (st := top 46) l31 c31 k31
  have A__law_rows : At K mg "_law_rows" ["_law_word", "_law_m"] (top 46) f31 _ := ⟨F__law_rows, PySem.W.mg_of X G a31, F__law_rows.binds (ps := ["_law_word", "_law_m"]) fun _ _ _ _ _ _ us hl => match us, hl with | [_, _], _ => rfl⟩
  have F_law := fun_mk (st := top 47) l32 c32 k32
  refine ⟨PySem.W.fnOf "law" "law" (defArgs (top 47)) (defBody (top 47)) (defScope (top 47)) .none kV32 dc32 pm32 an32 cd32 ct32, fun s v => .of_eq rfl, fun base hK hN => ?_⟩
  have G__law_deck := ok_deck (P := l.prog) (w := w) (base := base) F__law_deck T.b_int T.b_int
  have G__law_draw := FnG.draw (ok_draw (P := l.prog) (w := w) (base := base) F__law_draw T.b_int T.b_max) rfl
  have G_is_integer := dv_is_integer (P := l.prog) (w := w) (base := base) T F_is_integer len_is_integer rd_is_integer
  have G_is_desk_value := dv_is_desk_value (P := l.prog) (w := w) (base := base) T F_is_desk_value len_is_desk_value rd_is_desk_value
  have G_sign_of_place := dv_sign_of_place (P := l.prog) (w := w) (base := base) T F_sign_of_place len_sign_of_place rd_sign_of_place
  have G_many_codes := dv_many_codes (P := l.prog) (w := w) (base := base) T F_many_codes len_many_codes rd_many_codes
  have G_raw_position := dv_raw_position (P := l.prog) (w := w) (base := base) T F_raw_position len_raw_position rd_raw_position
  have G_word_of := dv_word_of (P := l.prog) (w := w) (base := base) T F_word_of len_word_of rd_word_of
  have G_many_rows_of_signs := dv_many_rows_of_signs (P := l.prog) (w := w) (base := base) T F_many_rows_of_signs len_many_rows_of_signs rd_many_rows_of_signs
  have G__law_sign := dv__law_sign (P := l.prog) (w := w) (base := base) T F__law_sign len__law_sign rd__law_sign
  have G__law_codes := dv__law_codes (P := l.prog) (w := w) (base := base) T F__law_codes len__law_codes rd__law_codes
  have G__law_cut := dv__law_cut (P := l.prog) (w := w) (base := base) T F__law_cut len__law_cut rd__law_cut
  have G__law_nexts := dv__law_nexts (P := l.prog) (w := w) (base := base) T F__law_nexts len__law_nexts rd__law_nexts
  have G_is_between := dv_is_between (P := l.prog) (w := w) (base := base) T A_is_integer G_is_integer F_is_between len_is_between rd_is_between
  have G_need_number := dv_need_number (P := l.prog) (w := w) (base := base) T A_is_integer G_is_integer F_need_number len_need_number rd_need_number
  have G_are_desks_value := dv_are_desks_value (P := l.prog) (w := w) (base := base) T A_is_desk_value G_is_desk_value F_are_desks_value len_are_desks_value rd_are_desks_value
  have G_raw_sign := dv_raw_sign (P := l.prog) (w := w) (base := base) T A_sign_of_place G_sign_of_place F_raw_sign len_raw_sign rd_raw_sign
  have G_raw_code_at := dv_raw_code_at (P := l.prog) (w := w) (base := base) T A_many_codes G_many_codes F_raw_code_at len_raw_code_at rd_raw_code_at
  have G__law_pick := dv__law_pick (P := l.prog) (w := w) (base := base) T A__law_draw G__law_draw F__law_pick len__law_pick rd__law_pick
  have G__law_desk := dv__law_desk (P := l.prog) (w := w) (base := base) T A__law_draw G__law_draw F__law_desk len__law_desk rd__law_desk
  have G__law_short_word := dv__law_short_word (P := l.prog) (w := w) (base := base) T A__law_cut G__law_cut F__law_short_word len__law_short_word rd__law_short_word
  have G__law_rows := dv__law_rows (P := l.prog) (w := w) (base := base) T A__law_nexts G__law_nexts F__law_rows len__law_rows rd__law_rows
  have G_is_code_value := dv_is_code_value (P := l.prog) (w := w) (base := base) T A_is_between G_is_between F_is_code_value len_is_code_value rd_is_code_value
  have G_need_desks := dv_need_desks (P := l.prog) (w := w) (base := base) T A_are_desks_value G_are_desks_value F_need_desks len_need_desks rd_need_desks
  have G__law_desks := dv__law_desks (P := l.prog) (w := w) (base := base) T A__law_desk G__law_desk A__law_draw G__law_draw A__law_pick G__law_pick F__law_desks len__law_desks rd__law_desks
  have G_need_code := dv_need_code (P := l.prog) (w := w) (base := base) T A_need_desks G_need_desks A_is_code_value G_is_code_value F_need_code len_need_code rd_need_code
  have G_codes_number := dv_codes_number (P := l.prog) (w := w) (base := base) T A_need_desks G_need_desks A_many_codes G_many_codes F_codes_number len_codes_number rd_codes_number
  have G_code_at := dv_code_at (P := l.prog) (w := w) (base := base) T A_need_desks G_need_desks A_is_between G_is_between A_many_codes G_many_codes A_raw_code_at G_raw_code_at F_code_at len_code_at rd_code_at
  have G_folded_word := dv_folded_word (P := l.prog) (w := w) (base := base) T A_need_desks G_need_desks A_word_of G_word_of F_folded_word len_folded_word rd_folded_word
  have G_sign_rows := dv_sign_rows (P := l.prog) (w := w) (base := base) T A_need_desks G_need_desks A_need_number G_need_number A_many_rows_of_signs G_many_rows_of_signs A_word_of G_word_of F_sign_rows len_sign_rows rd_sign_rows
  have G_sign_of := dv_sign_of (P := l.prog) (w := w) (base := base) T A_need_code G_need_code A_raw_sign G_raw_sign F_sign_of len_sign_of rd_sign_of
  have G_is_ahead := dv_is_ahead (P := l.prog) (w := w) (base := base) T A_need_code G_need_code A_raw_position G_raw_position F_is_ahead len_is_ahead rd_is_ahead
  exact dv_law T A__law_deck G__law_deck A__law_desks G__law_desks A__law_pick G__law_pick A__law_codes G__law_codes A__law_sign G__law_sign A__law_draw G__law_draw A_folded_word G_folded_word A_codes_number G_codes_number A_code_at G_code_at A_sign_of G_sign_of A_is_ahead G_is_ahead A_sign_rows G_sign_rows A__law_rows G__law_rows A__law_short_word G__law_short_word F_law rd_law
end T44
end P64
open PySem PySem.W PyProof.Rows
set_option maxRecDepth 100000 in
set_option maxHeartbeats 0 in
theorem PySem.Challenge.cw_lotthrows_k44_whole_folded_words_and_row_holds : PySem.Challenge.rw_lotthrows_k44_whole_folded_words_and_row.Holds := by
  w_on; o_law; k_head; (case hw => w_witness2)
  k_fill
  refine Q.walk_ofG (l := PySem.Challenge.rw_lotthrows_k44_whole_folded_words_and_row) (k := 6) (x := "_law_script") rfl rfl ⟨rfl, by decide, by decide⟩ (fun w h Y => PySem.W.kIn_of Y) ?F
  case F =>
    intro w mg fa h KX G hmg
    refine' T44.all_mk KX G hmg ?a0 ?l0 ?c0 ?k0 ?a1 ?l1 ?c1 ?k1 ?a2 ?l2 ?c2 ?k2 ?a3 ?l3 ?c3 ?k3 ?a4 ?l4 ?c4 ?k4 ?a5 ?l5 ?c5 ?k5 ?a6 ?l6 ?c6 ?k6 ?a7 ?l7 ?c7 ?k7 ?a8 ?l8 ?c8 ?k8 ?a9 ?l9 ?c9 ?k9 ?a10 ?l10 ?c10 ?k10 ?a11 ?l11 ?c11 ?k11 ?a12 ?l12 ?c12 ?k12 ?a13 ?l13 ?c13 ?k13 ?a14 ?l14 ?c14 ?k14 ?a15 ?l15 ?c15 ?k15 ?a16 ?l16 ?c16 ?k16 ?a17 ?l17 ?c17 ?k17 ?a18 ?l18 ?c18 ?k18 ?a19 ?l19 ?c19 ?k19 ?a20 ?l20 ?c20 ?k20 ?a21 ?l21 ?c21 ?k21 ?a22 ?l22 ?c22 ?k22 ?a23 ?l23 ?c23 ?k23 ?a24 ?l24 ?c24 ?k24 ?a25 ?l25 ?c25 ?k25 ?a26 ?l26 ?c26 ?k26 ?a27 ?l27 ?c27 ?k27 ?a28 ?l28 ?c28 ?k28 ?a29 ?l29 ?c29 ?k29 ?a30 ?l30 ?c30 ?k30 ?a31 ?l31 ?c31 ?k31 ?a32 ?l32 ?c32 ?k32 ?z_len ?z_tuple ?z_list ?z_range ?z_all ?z_sum ?z_max ?z_int ?z_isinstance ?z_repr ?z_enumerate ?z_bool ?z_str ?z_zip ?z_MOST_PLACES ?z_MOST_DESKS ?z_PLACES ?y_PLACES
    (case a0 => k_is)
    (case l0 => k_is)
    (case c0 => k_is)
    (case k0 => k_is)
    (case a1 => k_is)
    (case l1 => k_is)
    (case c1 => k_is)
    (case k1 => k_is)
    (case a2 => k_is)
    (case l2 => k_is)
    (case c2 => k_is)
    (case k2 => k_is)
    (case a3 => k_is)
    (case l3 => k_is)
    (case c3 => k_is)
    (case k3 => k_is)
    (case a4 => k_is)
    (case l4 => k_is)
    (case c4 => k_is)
    (case k4 => k_is)
    (case a5 => k_is)
    (case l5 => k_is)
    (case c5 => k_is)
    (case k5 => k_is)
    (case a6 => k_is)
    (case l6 => k_is)
    (case c6 => k_is)
    (case k6 => k_is)
    (case a7 => k_is)
    (case l7 => k_is)
    (case c7 => k_is)
    (case k7 => k_is)
    (case a8 => k_is)
    (case l8 => k_is)
    (case c8 => k_is)
    (case k8 => k_is)
    (case a9 => k_is)
    (case l9 => k_is)
    (case c9 => k_is)
    (case k9 => k_is)
    (case a10 => k_is)
    (case l10 => k_is)
    (case c10 => k_is)
    (case k10 => k_is)
    (case a11 => k_is)
    (case l11 => k_is)
    (case c11 => k_is)
    (case k11 => k_is)
    (case a12 => k_is)
    (case l12 => k_is)
    (case c12 => k_is)
    (case k12 => k_is)
    (case a13 => k_is)
    (case l13 => k_is)
    (case c13 => k_is)
    (case k13 => k_is)
    (case a14 => k_is)
    (case l14 => k_is)
    (case c14 => k_is)
    (case k14 => k_is)
    (case a15 => k_is)
    (case l15 => k_is)
    (case c15 => k_is)
    (case k15 => k_is)
    (case a16 => k_is)
    (case l16 => k_is)
    (case c16 => k_is)
    (case k16 => k_is)
    (case a17 => k_is)
    (case l17 => k_is)
    (case c17 => k_is)
    (case k17 => k_is)
    (case a18 => k_is)
    (case l18 => k_is)
    (case c18 => k_is)
    (case k18 => k_is)
    (case a19 => k_is)
    (case l19 => k_is)
    (case c19 => k_is)
    (case k19 => k_is)
    (case a20 => k_is)
    (case l20 => k_is)
    (case c20 => k_is)
    (case k20 => k_is)
    (case a21 => k_is)
    (case l21 => k_is)
    (case c21 => k_is)
    (case k21 => k_is)
    (case a22 => k_is)
    (case l22 => k_is)
    (case c22 => k_is)
    (case k22 => k_is)
    (case a23 => k_is)
    (case l23 => k_is)
    (case c23 => k_is)
    (case k23 => k_is)
    (case a24 => k_is)
    (case l24 => k_is)
    (case c24 => k_is)
    (case k24 => k_is)
    (case a25 => k_is)
    (case l25 => k_is)
    (case c25 => k_is)
    (case k25 => k_is)
    (case a26 => k_is)
    (case l26 => k_is)
    (case c26 => k_is)
    (case k26 => k_is)
    (case a27 => k_is)
    (case l27 => k_is)
    (case c27 => k_is)
    (case k27 => k_is)
    (case a28 => k_is)
    (case l28 => k_is)
    (case c28 => k_is)
    (case k28 => k_is)
    (case a29 => k_is)
    (case l29 => k_is)
    (case c29 => k_is)
    (case k29 => k_is)
    (case a30 => k_is)
    (case l30 => k_is)
    (case c30 => k_is)
    (case k30 => k_is)
    (case a31 => k_is)
    (case l31 => k_is)
    (case c31 => k_is)
    (case k31 => k_is)
    (case a32 => k_is)
    (case l32 => k_is)
    (case c32 => k_is)
    (case k32 => k_is)
    (case z_len => k_is)
    (case z_tuple => k_is)
    (case z_list => k_is)
    (case z_range => k_is)
    (case z_all => k_is)
    (case z_sum => k_is)
    (case z_max => k_is)
    (case z_int => k_is)
    (case z_isinstance => k_is)
    (case z_repr => k_is)
    (case z_enumerate => k_is)
    (case z_bool => k_is)
    (case z_str => k_is)
    (case z_zip => k_is)
    (case z_MOST_PLACES => k_is)
    (case z_MOST_DESKS => k_is)
    (case z_PLACES => k_is)
    (case y_PLACES => k_is)


