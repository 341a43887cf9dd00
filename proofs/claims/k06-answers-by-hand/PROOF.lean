import PyProof.Rows.All
import Wide.All
import OpenK.AllK
import Wide.FinOn
import HandS.ForMost
import HandS.Walk
import HandS.Wide
import HandS.Style
import HandS.IsInst
import HandS.Conv
import HandS.RevRange
import KE.KStateDown
import Lean
import HandS.More
import HandS.WordsExc
import HandS.Defaults
import HandS.Head0
import HandS.Head1
import HandS.Head2
import HandS.HeadEnd
import HandS.HeadHook1
import HandS.HeadHook2
import KE.DataMinMax
import HandS.SortKw
import HandS.Strs
import HandS.SetFor
import PyProof.Rows.SetFrom
import HandS.Deep
import PySem.Challenge.RW_posthouses_k06_answers_by_hand
set_option Elab.async false
set_option linter.all false
set_option maxRecDepth 100000
set_option maxHeartbeats 2000000
namespace Ph
open PySem PySem.Spec L2

/-! ### heaps that grow -/
theorem same_upd {H : Hp} {p : Addr} {o : HO} (h : H p = none) : Same H (upd H p o) := fun b x e => by
  rw [upd_ne (ne_of_none e h)]
  exact e
theorem rd_mono {H H' : Hp} {a : Addr} {u : HO} (e : Same H H') (h : Rd H a u) : Rd H' a u := by
  rcases h with h | ⟨o, h⟩
  · exact .inl (e _ _ h)
  · exact .inr ⟨o, e _ _ h⟩
theorem sqL_mono {K : PySem.W.Frag} {H H' : Hp} {a : Addr} {xs : List V} (e : Same H H') (h : SqL K H a xs) : SqL K H' a xs := h.imp (rd_mono e) id
theorem sqT_mono {K : PySem.W.Frag} {H H' : Hp} {a : Addr} {xs : List V} (e : Same H H') (h : SqT K H a xs) : SqT K H' a xs := h.imp (rd_mono e) id
mutual
theorem dp_mono {K : PySem.W.Frag} {H H' : Hp} (e : Same H H') : ∀ {v : V} {d : PyData}, Dp K H v d → Dp K H' v d
  | _, _, .non => .non
  | _, _, .bl b => .bl b
  | _, _, .int i => .int i
  | _, _, .str x => .str x
  | _, _, .lst h t => .lst (sqL_mono e h) (dpAll_mono e t)
  | _, _, .tup h t => .tup (sqT_mono e h) (dpAll_mono e t)
theorem dpAll_mono {K : PySem.W.Frag} {H H' : Hp} (e : Same H H') : ∀ {vs : List V} {ds : List PyData}, DpAll K H vs ds → DpAll K H' vs ds
  | _, _, .nil => .nil
  | _, _, .cons h t => .cons (dp_mono e h) (dpAll_mono e t)
end
section
variable {K : PySem.W.Frag} {H : Hp}
theorem dpAll_len : ∀ {vs : List V} {ds : List PyData}, DpAll K H vs ds → vs.length = ds.length
  | _, _, .nil => rfl
  | _, _, .cons _ t => congrArg (· + 1) (dpAll_len t)
theorem dpAll_get : ∀ {vs : List V} {ds : List PyData} {i : Nat} {d : PyData}, DpAll K H vs ds → ds[i]? = some d → ∃ v, vs[i]? = some v ∧ Dp K H v d
  | _, _, _, _, .nil, e => by simp at e
  | _, _, 0, _, .cons h _, e => by simp at e; subst e; exact ⟨_, rfl, h⟩
  | _, _, i + 1, _, .cons _ t, e => by
    obtain ⟨v, h1, h2⟩ := dpAll_get (i := i) t (by simpa using e)
    exact ⟨v, by simpa using h1, h2⟩
theorem dpAll_getV : ∀ {vs : List V} {ds : List PyData} {i : Nat} {v : V}, DpAll K H vs ds → vs[i]? = some v → ∃ d, ds[i]? = some d ∧ Dp K H v d
  | _, _, _, _, .nil, e => by simp at e
  | _, _, 0, _, .cons h _, e => by simp at e; subst e; exact ⟨_, rfl, h⟩
  | _, _, i + 1, _, .cons _ t, e => by
    obtain ⟨v, h1, h2⟩ := dpAll_getV (i := i) t (by simpa using e)
    exact ⟨v, by simpa using h1, h2⟩
theorem dpAll_app : ∀ {vs us : List V} {ds es : List PyData}, DpAll K H vs ds → DpAll K H us es → DpAll K H (vs ++ us) (ds ++ es)
  | _, _, _, _, .nil, s => s
  | _, _, _, _, .cons h t, s => .cons h (dpAll_app t s)
theorem dpAll_take : ∀ {vs : List V} {ds : List PyData} (n : Nat), DpAll K H vs ds → DpAll K H (vs.take n) (ds.take n)
  | _, _, 0, _ => .nil
  | _, _, _ + 1, .nil => .nil
  | _, _, n + 1, .cons h t => .cons h (dpAll_take n t)
theorem dpAll_drop : ∀ {vs : List V} {ds : List PyData} (n : Nat), DpAll K H vs ds → DpAll K H (vs.drop n) (ds.drop n)
  | _, _, 0, r => r
  | _, _, _ + 1, .nil => .nil
  | _, _, n + 1, .cons _ t => dpAll_drop n t
theorem dpAll_set : ∀ {vs : List V} {ds : List PyData} {v : V} {d : PyData} (i : Nat), DpAll K H vs ds → Dp K H v d → DpAll K H (vs.set i v) (ds.set i d)
  | _, _, _, _, _, .nil, _ => .nil
  | _, _, _, _, 0, .cons _ t, r => .cons r t
  | _, _, _, _, i + 1, .cons h t, r => .cons h (dpAll_set i t r)
theorem dpAll_rev : ∀ {vs : List V} {ds : List PyData}, DpAll K H vs ds → DpAll K H vs.reverse ds.reverse
  | _, _, .nil => .nil
  | _, _, .cons h t => by
    rw [List.reverse_cons, List.reverse_cons]
    exact dpAll_app (dpAll_rev t) (.cons h .nil)
theorem dpAll_ints : ∀ {vs : List V} {ns : List Int}, DpAll K H vs (ns.map PyData.int) → vs = ns.map V.int
  | _, [], h => by cases h; rfl
  | _, n :: ns, h => by
    cases h with
    | cons h t =>
      cases h
      rw [dpAll_ints t]
      rfl
theorem ints_dpAll : ∀ (ns : List Int), DpAll K H (ns.map V.int) (ns.map PyData.int)
  | [] => .nil
  | n :: ns => .cons (.int n) (ints_dpAll ns)
theorem dpAll_bls : ∀ {vs : List V} {ns : List Bool}, DpAll K H vs (ns.map PyData.bool) → vs = ns.map V.bl
  | _, [], h => by cases h; rfl
  | _, n :: ns, h => by
    cases h with
    | cons h t =>
      cases h
      rw [dpAll_bls t]
      rfl
end

/-- the known part G grew to G', the heap H to H': all new things are new -/
structure Nu (G H G' H' : Hp) : Prop where
  g : Same G G'
  h : Same H H'
  s : Same G' H'
  n : ∀ b, G b = none → H b ≠ none → G' b = none
theorem Nu.refl {G H : Hp} (s : Same G H) : Nu G H G H := ⟨Same.refl _, Same.refl _, s, fun _ h _ => h⟩
theorem some_ne {H : Hp} {b : Addr} {o : HO} (h : H b = some o) : H b ≠ none := by rw [h]; exact fun z => nomatch z
theorem ne_some {H : Hp} {b : Addr} (h : H b ≠ none) : ∃ o, H b = some o := by
  cases e : H b with
  | none => exact absurd e h
  | some o => exact ⟨o, rfl⟩
theorem Nu.trans {G H G1 H1 G2 H2 : Hp} (a : Nu G H G1 H1) (b : Nu G1 H1 G2 H2) : Nu G H G2 H2 :=
  ⟨a.g.trans b.g, a.h.trans b.h, b.s, fun c h1 h2 => b.n c (a.n c h1 h2) (let ⟨_, e⟩ := ne_some h2; some_ne (a.h _ _ e))⟩
/-- a new object is laid and known -/
theorem Nu.new {G H : Hp} {p : Addr} {o : HO} (s : Same G H) (hp : H p = none) : Nu G H (upd G p o) (upd H p o) := by
  have hg : G p = none := s.free hp
  refine ⟨same_upd hg, same_upd hp, fun b u e => ?_, fun b h1 h2 => ?_⟩
  · by_cases hb : b = p
    · subst hb; rw [upd_same] at e ⊢; exact e
    · rw [upd_ne hb] at e ⊢; exact s _ _ e
  · have hb : b ≠ p := fun z => h2 (by rw [z]; exact hp)
    rw [upd_ne hb]; exact h1
/-- a new object is laid, not known -/
theorem Nu.laid {G H : Hp} {p : Addr} {o : HO} (s : Same G H) (hp : H p = none) : Nu G H G (upd H p o) :=
  ⟨Same.refl _, same_upd hp, s.trans (same_upd hp), fun _ h _ => h⟩
/-- what is there becomes known -/
theorem Nu.know {G H G' H' : Hp} {p : Addr} {o : HO} (n : Nu G H G' H') (hg : G' p = none) (hp : H p = none) (ho : H' p = some o) : Nu G H (upd G' p o) H' := by
  refine ⟨n.g.trans (same_upd hg), n.h, fun b u e => ?_, fun b h1 h2 => ?_⟩
  · by_cases hb : b = p
    · subst hb; rw [upd_same] at e; rw [ho]; exact e
    · rw [upd_ne hb] at e; exact n.s _ _ e
  · have hb : b ≠ p := fun z => h2 (by rw [z]; exact hp)
    rw [upd_ne hb]; exact n.n b h1 h2

/-! ### what the slots hold -/
inductive Sl where
  | no
  | d (x : PyData)
  /-- a list at p of one's own -/
  | m (p : Addr) (ds : List PyData)
  /-- an answer at x, its lists at p and q -/
  | ob (x C p q : Addr) (ps bs : List Int) (fee : Option Int)
  /-- a list of one's own of two lists of one's own -/
  | m2 (h p q : Addr) (as bs : List Int)
  /-- an answer that is known -/
  | od (C : Addr) (ps bs : List Int) (fee : Option Int)
def flds (p q : Addr) : Option Int → List (Str × V)
  | none => [("posts", .ref p), ("bounds", .ref q)]
  | some i => [("posts", .ref p), ("bounds", .ref q), ("fee", .int i)]
def Own (K : PySem.W.Frag) (G H : Hp) (o : Option V) : Sl → List Addr → Prop
  | .no, f => f = []
  | .d x, f => f = [] ∧ ∃ v, o = some v ∧ Dp K G v x
  | .m p ds, f => f = [p] ∧ o = some (.ref p) ∧ ∃ vs, H p = some (.lst vs) ∧ DpAll K G vs ds
  | .ob x C p q ps bs fee, f => ∃ dx, f = [x, dx, p, q] ∧ o = some (.ref x) ∧ H x = some (.ins C dx (flds p q fee)) ∧ H dx = some (.own x) ∧ H p = some (.lst (ps.map V.int)) ∧ H q = some (.lst (bs.map V.int)) ∧ p ≠ q
  | .m2 h p q as bs, f => f = [h, p, q] ∧ o = some (.ref h) ∧ H h = some (.lst [.ref p, .ref q]) ∧ H p = some (.lst (as.map V.int)) ∧ H q = some (.lst (bs.map V.int)) ∧ p ≠ q ∧ h ≠ p ∧ h ≠ q
  | .od C ps bs fee, f => f = [] ∧ ∃ x dx p q, o = some (.ref x) ∧ G x = some (.ins C dx (flds p q fee)) ∧ G p = some (.lst (ps.map V.int)) ∧ G q = some (.lst (bs.map V.int))
theorem Own.up {K : PySem.W.Frag} {G H G' H' : Hp} {o : Option V} : ∀ {s : Sl} {f : List Addr}, Own K G H o s f → Same G G' → (∀ b ∈ f, H' b = H b) → Own K G' H' o s f
  | .no, _, h, _, _ => h
  | .d _, _, ⟨h, v, e, p⟩, g, _ => ⟨h, v, e, dp_mono g p⟩
  | .m p ds, _, ⟨h, e, vs, hp, t⟩, g, k => ⟨h, e, vs, by rw [k p (by rw [h]; simp)]; exact hp, dpAll_mono g t⟩
  | .ob x C p q ps bs fee, _, ⟨dx, h, e, h1, h2, h3, h4, h5⟩, g, k =>
    ⟨dx, h, e, by rw [k x (by rw [h]; simp)]; exact h1, by rw [k dx (by rw [h]; simp)]; exact h2, by rw [k p (by rw [h]; simp)]; exact h3, by rw [k q (by rw [h]; simp)]; exact h4, h5⟩
  | .m2 h p q as bs, _, ⟨e0, e, h1, h2, h3, h4⟩, g, k => ⟨e0, e, by rw [k h (by rw [e0]; simp)]; exact h1, by rw [k p (by rw [e0]; simp)]; exact h2, by rw [k q (by rw [e0]; simp)]; exact h3, h4⟩
  | .od C ps bs fee, _, ⟨h, x, dx, p, q, e, h1, h2, h3⟩, g, k => ⟨h, x, dx, p, q, e, g _ _ h1, g _ _ h2, g _ _ h3⟩
structure Bs where
  Gb : Hp
  G0 : Hp
  H0 : Hp
structure GoodAt (K : PySem.W.Frag) (B : Bs) (δ : List Sl) (σ : St) (H G : Hp) (F : Nat → List Addr) : Prop where
  nu : Nu B.G0 B.H0 G H
  base : Same B.Gb G
  len : σ.length = δ.length
  own : ∀ i s, δ[i]? = some s → ∃ o, σ[i]? = some o ∧ Own K G H o s (F i)
  sep : ∀ i j b, i < δ.length → j < δ.length → b ∈ F i → b ∈ F j → i = j
  frs : ∀ i b, i < δ.length → b ∈ F i → G b = none ∧ B.H0 b = none ∧ H b ≠ none
def Good (K : PySem.W.Frag) (B : Bs) (δ : List Sl) (σ : St) (H : Hp) : Prop := ∃ G F, GoodAt K B δ σ H G F
section
variable {K : PySem.W.Frag} {B : Bs} {δ : List Sl} {σ : St} {H G H' G' : Hp} {F : Nat → List Addr}
theorem GoodAt.good (g : GoodAt K B δ σ H G F) : Good K B δ σ H := ⟨G, F, g⟩
theorem GoodAt.up (g : GoodAt K B δ σ H G F) (n : Nu G H G' H') : GoodAt K B δ σ H' G' F where
  nu := g.nu.trans n
  base := g.base.trans n.g
  len := g.len
  own := fun i s e => by
    obtain ⟨o, h1, h2⟩ := g.own i s e
    refine ⟨o, h1, h2.up n.g fun b hb => ?_⟩
    have hi : i < δ.length := (List.getElem?_eq_some_iff.mp e).1
    obtain ⟨u, q⟩ := ne_some (g.frs i b hi hb).2.2
    rw [q, n.h _ _ q]
  sep := g.sep
  frs := fun i b hi hb => by
    obtain ⟨h1, h2, h3⟩ := g.frs i b hi hb
    obtain ⟨u, q⟩ := ne_some h3
    exact ⟨n.n b h1 h3, h2, some_ne (n.h _ _ q)⟩
theorem GoodAt.put {i : Nat} {v : V} {s : Sl} {f : List Addr} (g : GoodAt K B δ σ H G F) (h : Own K G H (some v) s f)
    (hf : ∀ b ∈ f, G b = none ∧ B.H0 b = none ∧ H b ≠ none ∧ ∀ j, j < δ.length → j ≠ i → b ∉ F j) :
    GoodAt K B (δ.set i s) (σ.set i (some v)) H G (fun j => if j = i then f else F j) where
  nu := g.nu
  base := g.base
  len := by rw [List.length_set, List.length_set]; exact g.len
  own := fun j t e => by
    by_cases hj : j = i
    · subst hj
      have hl : j < (δ.set j s).length := (List.getElem?_eq_some_iff.mp e).1
      rw [List.length_set] at hl
      rw [List.getElem?_set_self hl] at e
      cases e
      refine ⟨some v, List.getElem?_set_self (by rw [g.len]; exact hl), ?_⟩
      rw [if_pos rfl]; exact h
    · rw [List.getElem?_set_ne (fun z => hj z.symm)] at e
      obtain ⟨o, h1, h2⟩ := g.own j t e
      refine ⟨o, by rw [List.getElem?_set_ne (fun z => hj z.symm)]; exact h1, ?_⟩
      rw [if_neg hj]; exact h2
  sep := fun j k b hj hk h1 h2 => by
    rw [List.length_set] at hj hk
    by_cases ej : j = i
    · by_cases ek : k = i
      · rw [ej, ek]
      · rw [if_pos ej] at h1; rw [if_neg ek] at h2
        exact absurd h2 ((hf b h1).2.2.2 k hk ek)
    · by_cases ek : k = i
      · rw [if_neg ej] at h1; rw [if_pos ek] at h2
        exact absurd h1 ((hf b h2).2.2.2 j hj ej)
      · rw [if_neg ej] at h1; rw [if_neg ek] at h2
        exact g.sep j k b hj hk h1 h2
  frs := fun j b hj hb => by
    rw [List.length_set] at hj
    by_cases ej : j = i
    · rw [if_pos ej] at hb
      exact ⟨(hf b hb).1, (hf b hb).2.1, (hf b hb).2.2.1⟩
    · rw [if_neg ej] at hb
      exact g.frs j b hj hb
theorem GoodAt.putD {i : Nat} {v : V} {d : PyData} (g : GoodAt K B δ σ H G F) (h : Dp K G v d) : Good K B (δ.set i (.d d)) (σ.set i (some v)) H :=
  ⟨_, _, g.put (s := .d d) (f := []) ⟨rfl, v, rfl, h⟩ fun _ z => nomatch z⟩
theorem Good.base (g : Good K B δ σ H) {Gb : Hp} (h : Same Gb B.Gb) : Good K ⟨Gb, B.G0, B.H0⟩ δ σ H :=
  let ⟨G, F, q⟩ := g
  ⟨G, F, ⟨q.nu, h.trans q.base, q.len, q.own, q.sep, q.frs⟩⟩
theorem GoodAt.baseTo (q : GoodAt K B δ σ H G F) : GoodAt K ⟨G, B.G0, B.H0⟩ δ σ H G F := ⟨q.nu, Same.refl _, q.len, q.own, q.sep, q.frs⟩
end
/-- slots forgotten -/
inductive WkL : List Sl → List Sl → Prop where
  | nil : WkL [] []
  | same {s : Sl} {a b : List Sl} : WkL a b → WkL (s :: a) (s :: b)
  | drop {s : Sl} {a b : List Sl} : WkL a b → WkL (s :: a) (.no :: b)
theorem WkL.len : ∀ {a b : List Sl}, WkL a b → a.length = b.length
  | _, _, .nil => rfl
  | _, _, .same h => congrArg (· + 1) h.len
  | _, _, .drop h => congrArg (· + 1) h.len
theorem WkL.get : ∀ {a b : List Sl}, WkL a b → ∀ (i : Nat) (s : Sl), b[i]? = some s → s = .no ∨ a[i]? = some s
  | _, _, .nil, _, _, e => by simp at e
  | _, _, .same _, 0, _, e => .inr (by simpa using e)
  | _, _, .drop _, 0, _, e => .inl (by simp at e; exact e.symm)
  | _, _, .same h, i + 1, s, e => by simpa using h.get i s (by simpa using e)
  | _, _, .drop h, i + 1, s, e => by simpa using h.get i s (by simpa using e)
theorem WkL.refl : ∀ a : List Sl, WkL a a
  | [] => .nil
  | _ :: a => .same (WkL.refl a)
theorem Good.weak {K : PySem.W.Frag} {B : Bs} {δ δ' : List Sl} {σ : St} {H : Hp} (w : WkL δ δ') (g : Good K B δ σ H) : Good K B δ' σ H := by
  obtain ⟨G, F, q⟩ := g
  refine ⟨G, fun i => match δ'[i]? with | some .no => [] | _ => F i, q.nu, q.base, q.len.trans w.len, fun i s e => ?_, fun i j b hi hj h1 h2 => ?_, fun i b hi hb => ?_⟩
  · rcases w.get i s e with z | z
    · subst z
      have hi : i < σ.length := by rw [q.len, w.len]; exact (List.getElem?_eq_some_iff.mp e).1
      refine ⟨σ[i], by simp [hi], ?_⟩
      simp only [e]
      rfl
    · obtain ⟨o, h1, h2⟩ := q.own i s z
      refine ⟨o, h1, ?_⟩
      cases s with
      | no => simp only [e]; rfl
      | d x => simp only [e]; exact h2
      | m p ds => simp only [e]; exact h2
      | ob x C p q ps bs fee => simp only [e]; exact h2
      | m2 h p q as bs => simp only [e]; exact h2
      | od C ps bs fee => simp only [e]; exact h2
  · have k1 : b ∈ F i := by
      split at h1
      · cases h1
      · exact h1
    have k2 : b ∈ F j := by
      split at h2
      · cases h2
      · exact h2
    exact q.sep i j b (by rw [w.len]; exact hi) (by rw [w.len]; exact hj) k1 k2
  · have k1 : b ∈ F i := by
      split at hb
      · cases hb
      · exact hb
    exact q.frs i b (by rw [w.len]; exact hi) k1
theorem good_start {K : PySem.W.Frag} {G H : Hp} {N : List Str} {vs : List V} {ds : List PyData} (s : Same G H) (h : DpAll K G vs ds) :
    Good K ⟨G, G, H⟩ (ds.map Sl.d ++ List.replicate (N.length - ds.length) Sl.no) (L2.start N vs) H := by
  have hl := dpAll_len h
  refine ⟨G, fun _ => [], Nu.refl s, Same.refl _, ?_, fun i t e => ?_, (fun _ _ _ _ _ z => nomatch z), (fun _ _ _ z => nomatch z)⟩
  · unfold L2.start
    simp [hl]
  · unfold L2.start
    by_cases hi : i < ds.length
    · rw [List.getElem?_append_left (by simpa using hi)] at e
      rw [List.getElem?_map, List.getElem?_eq_getElem hi] at e
      cases e
      obtain ⟨v, h1, h2⟩ := dpAll_get h (List.getElem?_eq_getElem hi)
      refine ⟨some v, ?_, rfl, v, rfl, h2⟩
      rw [List.getElem?_append_left (by simpa [hl] using hi), List.getElem?_map, h1]
      rfl
    · rw [List.getElem?_append_right (by simpa using hi)] at e
      rw [List.getElem?_replicate] at e
      split at e
      · rename_i hk
        cases e
        refine ⟨none, ?_, rfl⟩
        rw [List.getElem?_append_right (by simpa [hl] using hi), List.getElem?_replicate, if_pos ?_]
        simpa [hl] using hk
      · cases e
end Ph

set_option Elab.async false
set_option linter.all false
set_option maxRecDepth 100000
set_option maxHeartbeats 2000000
namespace Ph
open PySem PySem.Spec L2

/-! ### what an expression gives -/
section
variable (K : PySem.W.Frag)
/-- data, known -/
def EvD (te : TE) (δ : List Sl) (d : PyData) : Prop := ∀ B σ H G F, GoodAt K B δ σ H G F → ∀ Q : VK, (∀ v G' H', Nu G H G' H' → Dp K G' v d → Q v H') → te σ H Q
/-- data that may be read now -/
def EvR (te : TE) (δ : List Sl) (d : PyData) : Prop := ∀ B σ H G F, GoodAt K B δ σ H G F → ∀ Q : VK, (∀ v G' H', Nu G H G' H' → Dp K H' v d → Q v H') → te σ H Q
/-- a list that may be read now, its items known -/
def RdL (G H : Hp) (v : V) (ds : List PyData) : Prop := ∃ p vs, v = .ref p ∧ SqL K H p vs ∧ DpAll K G vs ds
def EvL (te : TE) (δ : List Sl) (ds : List PyData) : Prop := ∀ B σ H G F, GoodAt K B δ σ H G F → ∀ Q : VK, (∀ v G' H', Nu G H G' H' → RdL K G' H' v ds → Q v H') → te σ H Q
/-- a new list -/
def EvN (te : TE) (δ : List Sl) (ds : List PyData) : Prop := ∀ B σ H G F, GoodAt K B δ σ H G F → ∀ Q : VK, (∀ p vs G' H', Nu G H G' H' → G' p = none → H p = none → H' p = some (.lst vs) → DpAll K G' vs ds → Q (.ref p) H') → te σ H Q
def EvA (ta : TA) (δ : List Sl) (ds : List PyData) : Prop := ∀ B σ H G F, GoodAt K B δ σ H G F → ∀ Q : List V → Hp → Prop, (∀ vs G' H', Nu G H G' H' → DpAll K G' vs ds → Q vs H') → ta σ H Q
def EvAR (ta : TA) (δ : List Sl) (ds : List PyData) : Prop := ∀ B σ H G F, GoodAt K B δ σ H G F → ∀ Q : List V → Hp → Prop, (∀ vs G' H', Nu G H G' H' → DpAll K H' vs ds → Q vs H') → ta σ H Q
def EvT (tt : TT) (δ : List Sl) (b : Bool) : Prop := ∀ B σ H G F, GoodAt K B δ σ H G F → ∀ Q : Bool → Hp → Prop, (∀ G' H', Nu G H G' H' → Q b H') → tt σ H Q
def EvO (to : TO) (δ : List Sl) (o : Option Int) : Prop := ∀ B σ H G F, GoodAt K B δ σ H G F → ∀ Q : Option Int → Hp → Prop, (∀ G' H', Nu G H G' H' → Q o H') → to σ H Q
def RvD (r : R2) (d e f : PyData) : Prop := ∀ G H x y, Same G H → Dp K G x d → Dp K G y e → ∀ Q : VK, (∀ z G' H', Nu G H G' H' → Dp K G' z f → Q z H') → r x y H Q
/-- the value of a scalar -/
def sv : PyData → Option V
  | .none => some .non
  | .bool b => some (.bl b)
  | .int i => some (.int i)
  | .str x => some (.str x)
  | _ => none
end
section
variable {K : PySem.W.Frag} {δ : List Sl} {ta tb tc te : TE} {t u : TT} {d e f : PyData} {ds es : List PyData} {i j : Int} {r r' : R2}
theorem sv_dp {G H : Hp} {v x : V} (h : Dp K G v d) (s : sv d = some x) : v = x ∧ Dp K H v d := by
  cases h with
  | non => exact ⟨Option.some.inj s, .non⟩
  | bl b => exact ⟨Option.some.inj s, .bl b⟩
  | int i => exact ⟨Option.some.inj s, .int i⟩
  | str x => exact ⟨Option.some.inj s, .str x⟩
  | lst a b => cases s
  | tup a b => cases s
/-! ### from one kind to another -/
theorem evr_d (h : EvD K te δ d) : EvR K te δ d := fun B σ H G F g Q q => h B σ H G F g Q fun v G' H' n p => q v G' H' n (dp_mono n.s p)
theorem evl_d (h : EvD K te δ (.list ds)) : EvL K te δ ds := fun B σ H G F g Q q => h B σ H G F g Q fun v G' H' n p => by
  cases p with
  | lst a b => exact q _ G' H' n ⟨_, _, rfl, sqL_mono n.s a, b⟩
theorem evr_l (h : EvL K te δ ds) : EvR K te δ (.list ds) := fun B σ H G F g Q q => h B σ H G F g Q fun v G' H' n ⟨p, vs, e, a, b⟩ => by
  subst e
  exact q _ G' H' n (.lst a (dpAll_mono n.s b))
theorem evl_n (h : EvN K te δ ds) : EvL K te δ ds := fun B σ H G F g Q q => h B σ H G F g Q fun p vs G' H' n _ _ e b => q _ G' H' n ⟨p, vs, rfl, .inl (.inl e), b⟩
theorem evd_n (h : EvN K te δ ds) : EvD K te δ (.list ds) := fun B σ H G F g Q q => h B σ H G F g Q fun p vs G' H' n h1 h2 e b =>
  q _ _ H' (n.know h1 h2 e) (.lst (.inl (.inl upd_same)) (dpAll_mono (same_upd h1) b))
theorem evr_n (h : EvN K te δ ds) : EvR K te δ (.list ds) := evr_l (evl_n h)
theorem evd_is (h : EvD K te δ d) (q : d = e) : EvD K te δ e := q ▸ h
theorem evr_is (h : EvR K te δ d) (q : d = e) : EvR K te δ e := q ▸ h
theorem evl_is (h : EvL K te δ ds) (q : ds = es) : EvL K te δ es := q ▸ h
theorem evn_is (h : EvN K te δ ds) (q : ds = es) : EvN K te δ es := q ▸ h
theorem evt_is {a b : Bool} (h : EvT K t δ a) (q : a = b) : EvT K t δ b := q ▸ h
/-- a scalar that may be read is known -/
theorem evd_r {x : V} (h : EvR K te δ d) (s : sv d = some x) : EvD K te δ d := fun B σ H G F g Q q => h B σ H G F g Q fun v G' H' n p => q v G' H' n (sv_dp p s).2
theorem evd_at {d : PyData} {n : Nat} (h : δ[n]? = some (.d d)) : EvD K (tVar n) δ d := fun B σ H G F g Q q => by
  obtain ⟨o, h1, _, v, h2, h3⟩ := g.own n _ h
  subst h2
  exact ⟨v, h1, q v G H (Nu.refl g.nu.s) h3⟩
theorem evl_at {n : Nat} {p : Addr} (h : δ[n]? = some (.m p ds)) : EvL K (tVar n) δ ds := fun B σ H G F g Q q => by
  obtain ⟨o, h1, _, h2, vs, h3, h4⟩ := g.own n _ h
  subst h2
  exact ⟨.ref p, h1, q _ G H (Nu.refl g.nu.s) ⟨p, vs, rfl, .inl (.inl h3), h4⟩⟩
theorem evd_int {n : Int} : EvD K (tC (.int n)) δ (.int n) := fun B σ H G F g Q q => q _ G H (Nu.refl g.nu.s) (.int n)
theorem evd_bl {b : Bool} : EvD K (tC (.bl b)) δ (.bool b) := fun B σ H G F g Q q => q _ G H (Nu.refl g.nu.s) (.bl b)
theorem evd_non : EvD K (tC .non) δ .none := fun B σ H G F g Q q => q _ G H (Nu.refl g.nu.s) .non
theorem evd_str {x : Str} : EvD K (tC (.str x)) δ (.str x) := fun B σ H G F g Q q => q _ G H (Nu.refl g.nu.s) (.str x)
/-! ### arguments -/
theorem ea_nil : EvA K tNil δ [] := fun B σ H G F g Q q => q _ G H (Nu.refl g.nu.s) .nil
theorem ea_cons {tr : TA} (h : EvD K te δ d) (hr : EvA K tr δ ds) : EvA K (tCons te tr) δ (d :: ds) := fun B σ H G F g Q q =>
  h B σ H G F g _ fun v G1 H1 n1 p => hr B σ H1 G1 F (g.up n1) _ fun vs G2 H2 n2 ps => q _ G2 H2 (n1.trans n2) (.cons (dp_mono n2.g p) ps)
theorem ear_nil : EvAR K tNil δ [] := fun B σ H G F g Q q => q _ G H (Nu.refl g.nu.s) .nil
theorem ear_cons {tr : TA} (h : EvR K te δ d) (hr : EvAR K tr δ ds) : EvAR K (tCons te tr) δ (d :: ds) := fun B σ H G F g Q q =>
  h B σ H G F g _ fun v G1 H1 n1 p => hr B σ H1 G1 F (g.up n1) _ fun vs G2 H2 n2 ps => q _ G2 H2 (n1.trans n2) (.cons (dp_mono n2.h p) ps)
theorem ear_a {ta : TA} (h : EvA K ta δ ds) : EvAR K ta δ ds := fun B σ H G F g Q q => h B σ H G F g Q fun vs G' H' n p => q vs G' H' n (dpAll_mono n.s p)
/-! ### operators -/
theorem evd_op (ha : EvD K ta δ d) (hb : EvD K tb δ e) (hr : RvD K r d e f) : EvD K (tOp r ta tb) δ f := fun B σ H G F g Q q =>
  ha B σ H G F g _ fun x G1 H1 n1 p => hb B σ H1 G1 F (g.up n1) _ fun y G2 H2 n2 p2 => hr G2 H2 x y n2.s (dp_mono n2.g p) p2 Q fun z G3 H3 n3 p3 => q z G3 H3 ((n1.trans n2).trans n3) p3
def oAdd : R2 := rI0 fun i j => .int (i + j)
def oSub : R2 := rI0 fun i j => .int (i - j)
def oMul : R2 := rI CMul fun i j => .int (i * j)
def oMulW : R2 := rI CMulW fun i j => .int (i * j)
def oDiv : R2 := rI CDiv fun i j => .int (i / j)
def oMod : R2 := rI (fun _ j => 0 < j) fun i j => .int (i % j)
def oPow : R2 := rI CPow fun i j => .int (i ^ j.toNat)
def oLt : R2 := rI0 fun i j => .bl (decide (i < j))
def oLe : R2 := rI0 fun i j => .bl (decide (i ≤ j))
def oGt : R2 := rI0 fun i j => .bl (decide (j < i))
def oGe : R2 := rI0 fun i j => .bl (decide (j ≤ i))
def oEqI : R2 := rEq
def oNeI : R2 := rNe
def oNeg : V → Hp → VK → Prop := rU fun i => .int (-i)
theorem rvd_int {g : Int → Int → Int} : RvD K (rI0 fun i j => .int (g i j)) (.int i) (.int j) (.int (g i j)) := fun G H x y s hx hy Q q => by
  cases hx; cases hy
  exact ⟨i, j, rfl, rfl, q _ G H (Nu.refl s) (.int _)⟩
theorem rvd_intC {C : Int → Int → Prop} {g : Int → Int → Int} (hc : C i j) : RvD K (rI C fun i j => .int (g i j)) (.int i) (.int j) (.int (g i j)) := fun G H x y s hx hy Q q => by
  cases hx; cases hy
  exact ⟨i, j, rfl, rfl, hc, q _ G H (Nu.refl s) (.int _)⟩
theorem rvd_bool {g : Int → Int → Bool} : RvD K (rI0 fun i j => .bl (g i j)) (.int i) (.int j) (.bool (g i j)) := fun G H x y s hx hy Q q => by
  cases hx; cases hy
  exact ⟨i, j, rfl, rfl, q _ G H (Nu.refl s) (.bl _)⟩
theorem evd_add (ha : EvD K ta δ (.int i)) (hb : EvD K tb δ (.int j)) : EvD K (tOp oAdd ta tb) δ (.int (i + j)) := evd_op ha hb rvd_int
theorem evd_sub (ha : EvD K ta δ (.int i)) (hb : EvD K tb δ (.int j)) : EvD K (tOp oSub ta tb) δ (.int (i - j)) := evd_op ha hb rvd_int
theorem evd_mul (ha : EvD K ta δ (.int i)) (hb : EvD K tb δ (.int j)) (hc : CMul i j) : EvD K (tOp oMul ta tb) δ (.int (i * j)) := evd_op ha hb (rvd_intC hc)
theorem evd_mulW (ha : EvD K ta δ (.int i)) (hb : EvD K tb δ (.int j)) (hc : CMulW i j) : EvD K (tOp oMulW ta tb) δ (.int (i * j)) := evd_op ha hb (rvd_intC hc)
theorem evd_div (ha : EvD K ta δ (.int i)) (hb : EvD K tb δ (.int j)) (hc : CDiv i j) : EvD K (tOp oDiv ta tb) δ (.int (i / j)) := evd_op ha hb (rvd_intC hc)
theorem evd_mod (ha : EvD K ta δ (.int i)) (hb : EvD K tb δ (.int j)) (hc : 0 < j) : EvD K (tOp oMod ta tb) δ (.int (i % j)) := evd_op ha hb (rvd_intC (C := fun _ j => 0 < j) hc)
theorem evd_pow (ha : EvD K ta δ (.int i)) (hb : EvD K tb δ (.int j)) (hc : CPow i j) : EvD K (tOp oPow ta tb) δ (.int (i ^ j.toNat)) := evd_op ha hb (rvd_intC hc)
theorem evd_lt (ha : EvD K ta δ (.int i)) (hb : EvD K tb δ (.int j)) : EvD K (tOp oLt ta tb) δ (.bool (decide (i < j))) := evd_op ha hb rvd_bool
theorem evd_le (ha : EvD K ta δ (.int i)) (hb : EvD K tb δ (.int j)) : EvD K (tOp oLe ta tb) δ (.bool (decide (i ≤ j))) := evd_op ha hb rvd_bool
theorem evd_gt (ha : EvD K ta δ (.int i)) (hb : EvD K tb δ (.int j)) : EvD K (tOp oGt ta tb) δ (.bool (decide (j < i))) := evd_op ha hb rvd_bool
theorem evd_ge (ha : EvD K ta δ (.int i)) (hb : EvD K tb δ (.int j)) : EvD K (tOp oGe ta tb) δ (.bool (decide (j ≤ i))) := evd_op ha hb rvd_bool
theorem evd_eqI (ha : EvD K ta δ (.int i)) (hb : EvD K tb δ (.int j)) : EvD K (tOp oEqI ta tb) δ (.bool (decide (i = j))) := evd_op ha hb fun G H x y s hx hy Q q => by
  cases hx; cases hy
  refine ⟨rfl, q _ G H (Nu.refl s) ?_⟩
  have e : decide (V.int i = V.int j) = decide (i = j) := by
    by_cases h : i = j
    · rw [decide_eq_true h, h, decide_eq_true rfl]
    · rw [decide_eq_false h, decide_eq_false fun z => h (V.int.inj z)]
  rw [e]
  exact .bl _
theorem evd_neI (ha : EvD K ta δ (.int i)) (hb : EvD K tb δ (.int j)) : EvD K (tOp oNeI ta tb) δ (.bool (!decide (i = j))) := evd_op ha hb fun G H x y s hx hy Q q => by
  cases hx; cases hy
  refine ⟨rfl, q _ G H (Nu.refl s) ?_⟩
  have e : decide (V.int i = V.int j) = decide (i = j) := by
    by_cases h : i = j
    · rw [decide_eq_true h, h, decide_eq_true rfl]
    · rw [decide_eq_false h, decide_eq_false fun z => h (V.int.inj z)]
  rw [e]
  exact .bl _
/-- bools, by == -/
theorem evd_eqB {a b : Bool} (ha : EvD K ta δ (.bool a)) (hb : EvD K tb δ (.bool b)) : EvD K (tOp oEqI ta tb) δ (.bool (a == b)) := evd_op ha hb fun G H x y s hx hy Q q => by
  cases hx; cases hy
  refine ⟨rfl, q _ G H (Nu.refl s) ?_⟩
  have e : decide (V.bl a = V.bl b) = (a == b) := by cases a <;> cases b <;> rfl
  rw [e]
  exact .bl _
theorem evd_neB {a b : Bool} (ha : EvD K ta δ (.bool a)) (hb : EvD K tb δ (.bool b)) : EvD K (tOp oNeI ta tb) δ (.bool (a != b)) := evd_op ha hb fun G H x y s hx hy Q q => by
  cases hx; cases hy
  refine ⟨rfl, q _ G H (Nu.refl s) ?_⟩
  have e : (!decide (V.bl a = V.bl b)) = (a != b) := by cases a <;> cases b <;> rfl
  rw [e]
  exact .bl _
def oIsB : R2 := rIsB
def oNotB : R2 := rNotB
theorem evd_isB {a b : Bool} (ha : EvD K ta δ (.bool a)) (hb : EvD K tb δ (.bool b)) : EvD K (tOp oIsB ta tb) δ (.bool (a == b)) := evd_op ha hb fun G H x y s hx hy Q q => by
  cases hx; cases hy
  refine ⟨a, b, rfl, rfl, q _ G H (Nu.refl s) ?_⟩
  have e : decide (a = b) = (a == b) := by cases a <;> cases b <;> rfl
  rw [e]
  exact .bl _
theorem evd_notB {a b : Bool} (ha : EvD K ta δ (.bool a)) (hb : EvD K tb δ (.bool b)) : EvD K (tOp oNotB ta tb) δ (.bool (a != b)) := evd_op ha hb fun G H x y s hx hy Q q => by
  cases hx; cases hy
  refine ⟨a, b, rfl, rfl, q _ G H (Nu.refl s) ?_⟩
  have e : (!decide (a = b)) = (a != b) := by cases a <;> cases b <;> rfl
  rw [e]
  exact .bl _
theorem evd_neg (ha : EvD K ta δ (.int i)) : EvD K (tUn oNeg ta) δ (.int (-i)) := fun B σ H G F g Q q => ha B σ H G F g _ fun x G1 H1 n1 p => by
  cases p
  exact ⟨i, rfl, q _ G1 H1 n1 (.int _)⟩
/-! ### == of data -/
def oEqD (K : PySem.W.Frag) : R2 := rEqD K
def oNeD (K : PySem.W.Frag) : R2 := rNeD K
theorem evd_eqD (ha : EvR K ta δ d) (hb : EvR K tb δ e) (sd : SeqAt.shaped d = true) (se : SeqAt.shaped e = true) : EvD K (tOp (oEqD K) ta tb) δ (.bool (PyData.eqv d e)) := fun B σ H G F g Q q =>
  ha B σ H G F g _ fun x G1 H1 n1 p => hb B σ H1 G1 F (g.up n1) _ fun y G2 H2 n2 p2 => ⟨d, e, dp_mono n2.h p, p2, sd, se, q _ G2 H2 (n1.trans n2) (.bl _)⟩
theorem evd_neD (ha : EvR K ta δ d) (hb : EvR K tb δ e) (sd : SeqAt.shaped d = true) (se : SeqAt.shaped e = true) : EvD K (tOp (oNeD K) ta tb) δ (.bool (!PyData.eqv d e)) := fun B σ H G F g Q q =>
  ha B σ H G F g _ fun x G1 H1 n1 p => hb B σ H1 G1 F (g.up n1) _ fun y G2 H2 n2 p2 => ⟨d, e, dp_mono n2.h p, p2, sd, se, q _ G2 H2 (n1.trans n2) (.bl _)⟩
/-! ### items -/
def oIx (K : PySem.W.Frag) : R2 := rIxL K
def oIxT (K : PySem.W.Frag) : R2 := rIxT K
theorem atI_dp {G : Hp} {vs : List V} (h : DpAll K G vs ds) (e : atI ds i = some d) : ∃ v, atI vs i = some v ∧ Dp K G v d := by
  unfold atI at e ⊢
  rw [dpAll_len h]
  cases q : ixN ds.length i with
  | none => rw [q] at e; cases e
  | some k =>
    rw [q] at e
    exact dpAll_get h e
theorem evd_ix (ha : EvL K ta δ ds) (hb : EvD K tb δ (.int i)) (hi : atI ds i = some d) : EvD K (tOp (oIx K) ta tb) δ d := fun B σ H G F g Q q =>
  ha B σ H G F g _ fun x G1 H1 n1 ⟨p, vs, ep, sq, al⟩ => hb B σ H1 G1 F (g.up n1) _ fun y G2 H2 n2 p2 => by
    subst ep
    cases p2
    obtain ⟨v, h1, h2⟩ := atI_dp (dpAll_mono n2.g al) hi
    exact ⟨p, vs, i, v, rfl, rfl, sqL_mono n2.h sq, h1, q _ G2 H2 (n1.trans n2) h2⟩
theorem evd_ixT (ha : EvD K ta δ (.tuple ds)) (hb : EvD K tb δ (.int i)) (hi : atI ds i = some d) : EvD K (tOp (oIxT K) ta tb) δ d := fun B σ H G F g Q q =>
  ha B σ H G F g _ fun x G1 H1 n1 p1 => hb B σ H1 G1 F (g.up n1) _ fun y G2 H2 n2 p2 => by
    cases p1 with
    | tup sq al =>
      cases p2
      obtain ⟨v, h1, h2⟩ := atI_dp (dpAll_mono n2.g al) hi
      exact ⟨_, _, i, v, rfl, rfl, sqT_mono (n2.g.trans n2.s) sq, h1, q _ G2 H2 (n1.trans n2) h2⟩
/-! ### built-ins -/
def cLen (K : PySem.W.Frag) : List V → Hp → VK → Prop := fun xs H Q => ∃ p ys, xs = [.ref p] ∧ (SqL K H p ys ∨ SqT K H p ys) ∧ Q (.int ys.length) H
def cAbs : List V → Hp → VK → Prop := fun xs H Q => ∃ i, xs = [.int i] ∧ Q (.int (if i < 0 then -i else i)) H
def cMin2 : List V → Hp → VK → Prop := fun xs H Q => ∃ i j, xs = [.int i, .int j] ∧ Q (.int (if j < i then j else i)) H
def cMax2 : List V → Hp → VK → Prop := fun xs H Q => ∃ i j, xs = [.int i, .int j] ∧ Q (.int (if j > i then j else i)) H
def cSum (K : PySem.W.Frag) : List V → Hp → VK → Prop := rSum K
def cMin (K : PySem.W.Frag) : List V → Hp → VK → Prop := rMin K
def cAny (K : PySem.W.Frag) : List V → Hp → VK → Prop := rAny K
def cAll (K : PySem.W.Frag) : List V → Hp → VK → Prop := rAll K
def cList (K : PySem.W.Frag) : List V → Hp → VK → Prop := fun xs H Q => ∃ p ys, xs = [.ref p] ∧ (SqL K H p ys ∨ SqT K H p ys) ∧ ∀ l, H l = none → Q (.ref l) (upd H l (.lst ys))
def cIsi (K : PySem.W.Frag) : List V → Hp → VK → Prop := rIsi K
theorem evd_len (ha : EvL K ta δ ds) : EvD K (tCB (cLen K) (tCons ta tNil)) δ (.int ds.length) := fun B σ H G F g Q q =>
  ha B σ H G F g _ fun x G1 H1 n1 ⟨p, vs, ep, sq, al⟩ => ⟨p, vs, by rw [ep], .inl sq, by rw [dpAll_len al]; exact q _ G1 H1 n1 (.int _)⟩
theorem evd_lenT (ha : EvR K ta δ (.tuple ds)) : EvD K (tCB (cLen K) (tCons ta tNil)) δ (.int ds.length) := fun B σ H G F g Q q =>
  ha B σ H G F g _ fun x G1 H1 n1 p => by
    cases p with
    | tup sq al => exact ⟨_, _, rfl, .inr sq, by rw [dpAll_len al]; exact q _ G1 H1 n1 (.int _)⟩
theorem evd_abs (ha : EvD K ta δ (.int i)) : EvD K (tCB cAbs (tCons ta tNil)) δ (.int (if i < 0 then -i else i)) := fun B σ H G F g Q q =>
  ha B σ H G F g _ fun x G1 H1 n1 p => by
    cases p
    exact ⟨i, rfl, q _ G1 H1 n1 (.int _)⟩
theorem evd_min2 (ha : EvD K ta δ (.int i)) (hb : EvD K tb δ (.int j)) : EvD K (tCB cMin2 (tCons ta (tCons tb tNil))) δ (.int (if j < i then j else i)) := fun B σ H G F g Q q =>
  ha B σ H G F g _ fun x G1 H1 n1 p => hb B σ H1 G1 F (g.up n1) _ fun y G2 H2 n2 p2 => by
    cases p; cases p2
    exact ⟨i, j, rfl, q _ G2 H2 (n1.trans n2) (.int _)⟩
theorem evd_max2 (ha : EvD K ta δ (.int i)) (hb : EvD K tb δ (.int j)) : EvD K (tCB cMax2 (tCons ta (tCons tb tNil))) δ (.int (if j > i then j else i)) := fun B σ H G F g Q q =>
  ha B σ H G F g _ fun x G1 H1 n1 p => hb B σ H1 G1 F (g.up n1) _ fun y G2 H2 n2 p2 => by
    cases p; cases p2
    exact ⟨i, j, rfl, q _ G2 H2 (n1.trans n2) (.int _)⟩
theorem evd_sum {ns : List Int} (ha : EvL K ta δ (ns.map PyData.int)) : EvD K (tCB (cSum K) (tCons ta tNil)) δ (.int ns.sum) := fun B σ H G F g Q q =>
  ha B σ H G F g _ fun x G1 H1 n1 ⟨p, vs, ep, sq, al⟩ => by
    rw [dpAll_ints al] at sq
    exact ⟨p, ns, by rw [ep], sq, q _ G1 H1 n1 (.int _)⟩
/-- the least of a list -/
theorem evd_min {ns : List Int} {m : Int} (ha : EvL K ta δ (ns.map PyData.int)) (hm : m ∈ ns) (hl : ∀ y ∈ ns, m ≤ y) : EvD K (tCB (cMin K) (tCons ta tNil)) δ (.int m) := fun B σ H G F g Q q =>
  ha B σ H G F g _ fun x G1 H1 n1 ⟨p, vs, ep, sq, al⟩ => by
    rw [dpAll_ints al] at sq
    refine ⟨p, ns, by rw [ep], sq, List.length_pos_of_mem hm, fun m' h1 h2 => ?_⟩
    have e : m' = m := Int.le_antisymm (h2 m hm) (hl m' h1)
    rw [e]
    exact q _ G1 H1 n1 (.int _)
theorem evd_any {ns : List Bool} (ha : EvL K ta δ (ns.map PyData.bool)) : EvD K (tCB (cAny K) (tCons ta tNil)) δ (.bool (ns.any id)) := fun B σ H G F g Q q =>
  ha B σ H G F g _ fun x G1 H1 n1 ⟨p, vs, ep, sq, al⟩ => by
    rw [dpAll_bls al] at sq
    exact ⟨p, ns, by rw [ep], sq, q _ G1 H1 n1 (.bl _)⟩
theorem evd_all {ns : List Bool} (ha : EvL K ta δ (ns.map PyData.bool)) : EvD K (tCB (cAll K) (tCons ta tNil)) δ (.bool (ns.all id)) := fun B σ H G F g Q q =>
  ha B σ H G F g _ fun x G1 H1 n1 ⟨p, vs, ep, sq, al⟩ => by
    rw [dpAll_bls al] at sq
    exact ⟨p, ns, by rw [ep], sq, q _ G1 H1 n1 (.bl _)⟩
theorem evn_list (ha : EvL K ta δ ds) : EvN K (tCB (cList K) (tCons ta tNil)) δ ds := fun B σ H G F g Q q =>
  ha B σ H G F g _ fun x G1 H1 n1 ⟨p, vs, ep, sq, al⟩ => ⟨p, vs, by rw [ep], .inl sq, fun l hl =>
    q l vs G1 _ (n1.trans (Nu.laid n1.s hl)) (n1.s.free hl) (n1.h.free hl) upd_same al⟩
/-! ### isinstance -/
def kindOf : PyData → String
  | .none => "NoneType"
  | .bool _ => "bool"
  | .int _ => "int"
  | .str _ => "str"
  | .list _ => "list"
  | .tuple _ => "tuple"
  | .dict _ => "dict"
theorem evd_isi {n : String} {b : Bool} (ha : EvR K ta δ d) (hk : kitB (kindOf d) n = some b) : EvD K (tCB (cIsi K) (tCons ta (tCons (tC (.ty n)) tNil))) δ (.bool b) := fun B σ H G F g Q q =>
  ha B σ H G F g _ fun x G1 H1 n1 p => by
    refine ⟨x, .ty n, .type (kindOf d), .type n, b, rfl, .ty n, ?_, kit_ty hk, q _ G1 H1 n1 (.bl _)⟩
    cases p with
    | non => exact .base .non
    | bl b => exact .base (.bl b)
    | int i => exact .base (.int i)
    | str x => exact .base (.str x)
    | lst a _ =>
      rcases a with (a | ⟨o, a⟩) | ⟨o, its, n, a, c, _⟩
      · exact .base (.lst a)
      · exact .base (.frz a)
      · exact .kList a c
    | tup a _ =>
      rcases a with (a | ⟨o, a⟩) | ⟨o, its, n, a, c, _⟩
      · exact .base (.tup a)
      · exact .fTuple a
      · exact .kTuple a c
/-! ### displays -/
theorem evd_tup {ta : TA} (h : EvA K ta δ ds) (hz : ds.length ≤ 1000000) : EvD K (tTup ta) δ (.tuple ds) := fun B σ H G F g Q q =>
  h B σ H G F g _ fun vs G1 H1 n1 p => ⟨by rw [dpAll_len p]; exact Nat.le_trans hz (by decide), fun l hl =>
    q _ _ _ (n1.trans (Nu.new n1.s hl)) (.tup (.inl (.inl upd_same)) (dpAll_mono (same_upd (n1.s.free hl)) p))⟩
theorem evn_lst {ta : TA} (h : EvA K ta δ ds) (hz : ds.length ≤ 1000000) : EvN K (tLst ta) δ ds := fun B σ H G F g Q q =>
  h B σ H G F g _ fun vs G1 H1 n1 p => ⟨by rw [dpAll_len p]; exact Nat.le_trans hz (by decide), fun l hl =>
    q l vs G1 _ (n1.trans (Nu.laid n1.s hl)) (n1.s.free hl) (n1.h.free hl) upd_same p⟩
/-! ### slices, + of lists -/
theorem evo_none : EvO K tNoPart δ none := fun B σ H G F g Q q => q G H (Nu.refl g.nu.s)
theorem evo_some (h : EvD K te δ (.int i)) : EvO K (tPart te) δ (some i) := fun B σ H G F g Q q => h B σ H G F g _ fun v G1 H1 n1 p => by
  cases p
  exact ⟨i, rfl, q G1 H1 n1⟩
def cut {α : Type} (xs : List α) (lo hi : Option Int) : List α := (xs.drop (HT.sIx xs.length 0 lo)).take (HT.sIx xs.length xs.length hi - HT.sIx xs.length 0 lo)
def oSl (K : PySem.W.Frag) : V → Option Int → Option Int → Hp → VK → Prop := rSlL K
theorem evn_sl {tl th : TO} {lo hi : Option Int} (ha : EvL K ta δ ds) (hl : EvO K tl δ lo) (hh : EvO K th δ hi) : EvN K (tSl (oSl K) ta tl th) δ (cut ds lo hi) := fun B σ H G F g Q q =>
  ha B σ H G F g _ fun x G1 H1 n1 ⟨p, vs, ep, sq, al⟩ => hl B σ H1 G1 F (g.up n1) _ fun G2 H2 n2 => hh B σ H2 G2 F ((g.up n1).up n2) _ fun G3 H3 n3 => by
    refine ⟨p, vs, ep, sqL_mono (n2.h.trans n3.h) sq, fun l hl => ?_⟩
    have n := (n1.trans n2).trans n3
    refine q l _ G3 _ (n.trans (Nu.laid n.s hl)) (n.s.free hl) (n.h.free hl) upd_same ?_
    unfold cutV cut
    rw [dpAll_len al]
    exact dpAll_take _ (dpAll_drop _ (dpAll_mono (n2.g.trans n3.g) al))
/-- xs[::-1] -/
theorem evn_rev (ha : EvL K ta δ ds) : EvN K (tRevL K ta) δ ds.reverse := fun B σ H G F g Q q =>
  ha B σ H G F g _ fun x G1 H1 n1 ⟨p, vs, ep, sq, al⟩ => ⟨p, vs, ep, sq, fun l hl => q l _ G1 _ (n1.trans (Nu.laid n1.s hl)) (n1.s.free hl) (n1.h.free hl) upd_same (dpAll_rev al)⟩
/-- a list that is tracked as such -/
def EvK (K : PySem.W.Frag) (te : TE) (δ : List Sl) (ds : List PyData) : Prop := ∀ B σ H G F, GoodAt K B δ σ H G F → ∀ Q : VK, (∀ v G' H', Nu G H G' H' → (∃ p vs, v = .ref p ∧ H' p = some (.lst vs) ∧ DpAll K G' vs ds) → Q v H') → te σ H Q
theorem evk_n (h : EvN K te δ ds) : EvK K te δ ds := fun B σ H G F g Q q => h B σ H G F g Q fun p vs G' H' n _ _ e b => q _ G' H' n ⟨p, vs, rfl, e, b⟩
theorem evk_at {n : Nat} {p : Addr} (h : δ[n]? = some (.m p ds)) : EvK K (tVar n) δ ds := fun B σ H G F g Q q => by
  obtain ⟨o, h1, _, h2, vs, h3, h4⟩ := g.own n _ h
  subst h2
  exact ⟨.ref p, h1, q _ G H (Nu.refl g.nu.s) ⟨p, vs, rfl, h3, h4⟩⟩
def oCat : R2 := rCat
theorem evn_cat (ha : EvK K ta δ ds) (hb : EvK K tb δ es) (hz : ds.length + es.length ≤ 1000000) : EvN K (tOp oCat ta tb) δ (ds ++ es) := fun B σ H G F g Q q =>
  ha B σ H G F g _ fun x G1 H1 n1 ⟨p, vs, ep, hp, al⟩ => hb B σ H1 G1 F (g.up n1) _ fun y G2 H2 n2 ⟨p2, vs2, ep2, hp2, al2⟩ => by
    refine ⟨p, p2, vs, vs2, ep, ep2, n2.h _ _ hp, hp2, ?_, fun l hl => ?_⟩
    · rw [dpAll_len al, dpAll_len al2]; exact Nat.le_trans hz (by decide)
    · have n := n1.trans n2
      exact q l _ G2 _ (n.trans (Nu.laid n.s hl)) (n.s.free hl) (n.h.free hl) upd_same (dpAll_app (dpAll_mono n2.g al) al2)
/-! ### tests -/
theorem evt_test {b : Bool} (h : EvD K te δ (.bool b)) : EvT K (tTest te) δ b := fun B σ H G F g Q q => h B σ H G F g _ fun v G1 H1 n1 p => by
  cases p
  exact ⟨b, rfl, q G1 H1 n1⟩
theorem evt_B {b : Bool} (h : EvD K te δ (.bool b)) : EvT K (tB te) δ b := fun B σ H G F g Q q => h B σ H G F g _ fun v G1 H1 n1 p => by
  cases p
  exact ⟨b, rfl, q G1 H1 n1⟩
theorem evt_not {a : Bool} (h : EvT K t δ a) : EvT K (tNot t) δ (!a) := fun B σ H G F g Q q => h B σ H G F g _ fun G1 H1 n1 => q G1 H1 n1
theorem evt_and {a b : Bool} (h : EvT K t δ a) (h2 : a = true → EvT K u δ b) : EvT K (tAnd t u) δ (a && b) := fun B σ H G F g Q q => h B σ H G F g _ fun G1 H1 n1 => by
  cases a with
  | true => exact iteT (h2 rfl B σ H1 G1 F (g.up n1) _ fun G2 H2 n2 => q G2 H2 (n1.trans n2))
  | false => exact iteF (q G1 H1 n1)
theorem evt_or {a b : Bool} (h : EvT K t δ a) (h2 : a = false → EvT K u δ b) : EvT K (tOr t u) δ (a || b) := fun B σ H G F g Q q => h B σ H G F g _ fun G1 H1 n1 => by
  cases a with
  | true => exact iteT (q G1 H1 n1)
  | false => exact iteF (h2 rfl B σ H1 G1 F (g.up n1) _ fun G2 H2 n2 => q G2 H2 (n1.trans n2))
theorem evd_and {a b : Bool} (h : EvD K ta δ (.bool a)) (h2 : a = true → EvD K tb δ (.bool b)) : EvD K (tAndV ta tb) δ (.bool (a && b)) := fun B σ H G F g Q q => h B σ H G F g _ fun v G1 H1 n1 p => by
  cases p
  refine ⟨a, rfl, ?_⟩
  cases a with
  | true => exact iteT (h2 rfl B σ H1 G1 F (g.up n1) _ fun v2 G2 H2 n2 p2 => q v2 G2 H2 (n1.trans n2) p2)
  | false => exact iteF (q _ G1 H1 n1 (.bl _))
theorem evd_or {a b : Bool} (h : EvD K ta δ (.bool a)) (h2 : a = false → EvD K tb δ (.bool b)) : EvD K (tOrV ta tb) δ (.bool (a || b)) := fun B σ H G F g Q q => h B σ H G F g _ fun v G1 H1 n1 p => by
  cases p
  refine ⟨a, rfl, ?_⟩
  cases a with
  | true => exact iteT (q _ G1 H1 n1 (.bl _))
  | false => exact iteF (h2 rfl B σ H1 G1 F (g.up n1) _ fun v2 G2 H2 n2 p2 => q v2 G2 H2 (n1.trans n2) p2)
theorem evd_not {a : Bool} (h : EvD K ta δ (.bool a)) : EvD K (tNotV ta) δ (.bool (!a)) := fun B σ H G F g Q q => h B σ H G F g _ fun v G1 H1 n1 p => by
  cases p
  exact ⟨a, rfl, q _ G1 H1 n1 (.bl _)⟩
theorem evd_if {b : Bool} (h : EvT K t δ b) (h1 : b = true → EvD K ta δ d) (h2 : b = false → EvD K tb δ d) : EvD K (tIf t ta tb) δ d := fun B σ H G F g Q q => h B σ H G F g _ fun G1 H1 n1 => by
  cases b with
  | true => exact iteT (h1 rfl B σ H1 G1 F (g.up n1) _ fun v2 G2 H2 n2 p2 => q v2 G2 H2 (n1.trans n2) p2)
  | false => exact iteF (h2 rfl B σ H1 G1 F (g.up n1) _ fun v2 G2 H2 n2 p2 => q v2 G2 H2 (n1.trans n2) p2)
theorem evn_if {b : Bool} (h : EvT K t δ b) (h1 : b = true → EvN K ta δ ds) (h2 : b = false → EvN K tb δ ds) : EvN K (tIf t ta tb) δ ds := fun B σ H G F g Q q => h B σ H G F g _ fun G1 H1 n1 => by
  cases b with
  | true => exact iteT (h1 rfl B σ H1 G1 F (g.up n1) _ fun p vs G2 H2 n2 a b c e => q p vs G2 H2 (n1.trans n2) a (n1.h.free b) c e)
  | false => exact iteF (h2 rfl B σ H1 G1 F (g.up n1) _ fun p vs G2 H2 n2 a b c e => q p vs G2 H2 (n1.trans n2) a (n1.h.free b) c e)
theorem evl_if {b : Bool} (h : EvT K t δ b) (h1 : b = true → EvL K ta δ ds) (h2 : b = false → EvL K tb δ ds) : EvL K (tIf t ta tb) δ ds := fun B σ H G F g Q q => h B σ H G F g _ fun G1 H1 n1 => by
  cases b with
  | true => exact iteT (h1 rfl B σ H1 G1 F (g.up n1) _ fun v2 G2 H2 n2 p2 => q v2 G2 H2 (n1.trans n2) p2)
  | false => exact iteF (h2 rfl B σ H1 G1 F (g.up n1) _ fun v2 G2 H2 n2 p2 => q v2 G2 H2 (n1.trans n2) p2)
/-- i r j r' k -/
theorem evd_chain {k : Int} {f1 f2 : Int → Int → Bool} (ha : EvD K ta δ (.int i)) (hb : EvD K tb δ (.int j)) (hc : EvD K tc δ (.int k)) : EvD K (tChain (rI0 fun i j => .bl (f1 i j)) (rI0 fun i j => .bl (f2 i j)) ta tb tc) δ (.bool (f1 i j && f2 j k)) := fun B σ H G F g Q q =>
  ha B σ H G F g _ fun x G1 H1 n1 p => hb B σ H1 G1 F (g.up n1) _ fun y G2 H2 n2 p2 => by
    cases p; cases p2
    refine ⟨i, j, rfl, rfl, f1 i j, rfl, ?_⟩
    cases hf : f1 i j with
    | true =>
      rw [hf, Bool.true_and] at q
      exact iteT (hc B σ H2 G2 F ((g.up n1).up n2) _ fun z G3 H3 n3 p3 => by
        cases p3
        exact ⟨j, k, rfl, rfl, q _ G3 H3 ((n1.trans n2).trans n3) (.bl _)⟩)
    | false =>
      rw [hf, Bool.false_and] at q
      exact iteF (q _ G2 H2 (n1.trans n2) (.bl _))
end
end Ph

set_option Elab.async false
set_option linter.all false
set_option maxRecDepth 100000
set_option maxHeartbeats 2000000
namespace Ph
open PySem PySem.Spec L2

/-! ### walks -/
structure WalkD (K : PySem.W.Frag) (J : It) (n : Nat) (Gs : Hp) (Y : Nat → PyData) (side : Hp → Hp → Prop) : Prop where
  goes : ∀ i H G, i < n → Same Gs G → Same G H → side G H → J.go i H
  stops : ∀ H G, Same Gs G → Same G H → side G H → J.stop n H
  yields : ∀ i H G x H', i < n → Same Gs G → Same G H → side G H → J.yld i H x H' → ∃ G', Nu G H G' H' ∧ Dp K G' x (Y i)
def EvI (K : PySem.W.Frag) (wi : TI) (δ : List Sl) (n : Nat) (Y : Nat → PyData) (side : Hp → Hp → Prop) : Prop :=
  ∀ B σ H G F, GoodAt K B δ σ H G F → ∀ R : It → Hp → Prop, (∀ J G' H', Nu G H G' H' → WalkD K J n G' Y side → R J H') → wi σ H R
def noSide : Hp → Hp → Prop := fun _ _ => True
/-- the list at p of one's own stands as it stood -/
def mSide (K : PySem.W.Frag) (p : Addr) (ds : List PyData) : Hp → Hp → Prop := fun G H => ∃ vs, H p = some (.lst vs) ∧ DpAll K G vs ds
section
variable {K : PySem.W.Frag} {δ : List Sl} {te ta tb tl : TE} {ds es : List PyData} {i j : Int} {n : Nat} {Y : Nat → PyData}
theorem evi_list (h : EvD K tl δ (.list ds)) : EvI K (iList K tl) δ ds.length (fun i => ds.getD i .none) noSide := fun B σ H G F g R q =>
  h B σ H G F g _ fun v G1 H1 n1 p => by
    cases p with
    | @lst a vs _ sq al =>
      refine ⟨a, rfl, ⟨vs, sqL_mono n1.s sq⟩, q _ G1 H1 n1 ⟨fun i H2 G2 hi s1 s2 _ => ?_, fun H2 G2 s1 s2 _ => ?_, fun i H2 G2 x H' hi s1 s2 _ y => ?_⟩⟩
      · have hi' : i < vs.length := by rw [dpAll_len al]; exact hi
        exact ⟨vs, vs[i], sqL_mono (s1.trans s2) sq, by simp [hi']⟩
      · exact ⟨vs, sqL_mono (s1.trans s2) sq, by rw [dpAll_len al]; exact Nat.le_refl _⟩
      · obtain ⟨e, y⟩ := y
        subst e
        obtain ⟨d, h1, h2⟩ := dpAll_getV al (y vs (sqL_mono (s1.trans s2) sq))
        refine ⟨G2, Nu.refl s2, ?_⟩
        rw [List.getD_eq_getElem?_getD, h1]
        exact dp_mono s1 h2
theorem evi_range1 (h : EvD K te δ (.int (n : Int))) (hn : n ≤ 1000000) : EvI K (iRng1 (tCons te tNil)) δ n (fun i => .int (i : Int)) noSide := fun B σ H G F g R q =>
  h B σ H G F g _ fun v G1 H1 n1 p => by
    cases p
    refine ⟨(n : Int), rfl, by omega, by omega, q _ G1 H1 n1 ?_⟩
    rw [Int.toNat_natCast]
    refine ⟨fun i H2 G2 hi _ _ _ => hi, fun H2 G2 _ _ _ => Nat.le_refl _, fun i H2 G2 x H' hi s1 s2 _ y => ?_⟩
    obtain ⟨e, y⟩ := y
    subst e
    subst y
    refine ⟨G2, Nu.refl s2, ?_⟩
    rw [Int.zero_add]
    exact .int _
theorem evi_range1' {m : Int} (h : EvD K te δ (.int m)) (hm : m ≤ 1000000) (hl : -1000000 ≤ m) : EvI K (iRng1 (tCons te tNil)) δ m.toNat (fun i => .int (i : Int)) noSide := fun B σ H G F g R q =>
  h B σ H G F g _ fun v G1 H1 n1 p => by
    cases p
    refine ⟨m, rfl, by omega, by omega, q _ G1 H1 n1 ?_⟩
    refine ⟨fun i H2 G2 hi _ _ _ => hi, fun H2 G2 _ _ _ => Nat.le_refl _, fun i H2 G2 x H' hi s1 s2 _ y => ?_⟩
    obtain ⟨e, y⟩ := y
    subst e
    subst y
    refine ⟨G2, Nu.refl s2, ?_⟩
    rw [Int.zero_add]
    exact .int _
theorem evi_range2 (ha : EvD K ta δ (.int i)) (hb : EvD K tb δ (.int j)) (h0 : -1000000 ≤ i) (h1 : i ≤ 1000000) (h2 : -1000000 ≤ j) (h3 : j ≤ 1000000) : EvI K (iRng2 (tCons ta (tCons tb tNil))) δ (j - i).toNat (fun k => .int (i + (k : Int))) noSide := fun B σ H G F g R q =>
  ha B σ H G F g _ fun v G1 H1 n1 p => hb B σ H1 G1 F (g.up n1) _ fun w G2 H2 n2 p2 => by
    cases p; cases p2
    refine ⟨i, j, rfl, ⟨by omega, by omega, by omega, by omega⟩, q _ G2 H2 (n1.trans n2) ⟨fun i H2 G2 hi _ _ _ => hi, fun H2 G2 _ _ _ => Nat.le_refl _, fun i H2 G2 x H' hi s1 s2 _ y => ?_⟩⟩
    obtain ⟨e, y⟩ := y
    subst e
    subst y
    exact ⟨G2, Nu.refl s2, .int _⟩
theorem evi_range3 {c : Int} {tc : TE} (ha : EvD K ta δ (.int i)) (hb : EvD K tb δ (.int j)) (hc : EvD K tc δ (.int c)) (ok : RgC i j c n) : EvI K (iRng3 (tCons ta (tCons tb (tCons tc tNil)))) δ n (fun k => .int (i + (k : Int) * c)) noSide := fun B σ H G F g R q =>
  ha B σ H G F g _ fun v G1 H1 n1 p => hb B σ H1 G1 F (g.up n1) _ fun w G2 H2 n2 p2 => hc B σ H2 G2 F ((g.up n1).up n2) _ fun z G3 H3 n3 p3 => by
    cases p; cases p2; cases p3
    refine ⟨i, j, c, n, rfl, ok, q _ G3 H3 ((n1.trans n2).trans n3) ⟨fun i H2 G2 hi _ _ _ => hi, fun H2 G2 _ _ _ => Nat.le_refl _, fun i H2 G2 x H' hi s1 s2 _ y => ?_⟩⟩
    obtain ⟨e, y⟩ := y
    subst e
    subst y
    exact ⟨G2, Nu.refl s2, .int _⟩
theorem evi_enum (h : EvD K tl δ (.list ds)) : EvI K (iEnum K (tCons tl tNil)) δ ds.length (fun i => .tuple [.int (i : Int), ds.getD i .none]) noSide := fun B σ H G F g R q =>
  h B σ H G F g _ fun v G1 H1 n1 p => by
    cases p with
    | @lst a vs _ sq al =>
      refine ⟨a, vs, rfl, sqL_mono n1.s sq, q _ G1 H1 n1 ⟨fun i H2 G2 hi s1 s2 _ => ?_, fun H2 G2 s1 s2 _ => ?_, fun i H2 G2 x H' hi s1 s2 _ y => ?_⟩⟩
      · have hi' : i < vs.length := by rw [dpAll_len al]; exact hi
        exact ⟨vs, vs[i], sqL_mono (s1.trans s2) sq, by simp [hi']⟩
      · exact ⟨vs, sqL_mono (s1.trans s2) sq, by rw [dpAll_len al]; exact Nat.le_refl _⟩
      · obtain ⟨T, y0, rfl, hT, rfl, y⟩ := y
        obtain ⟨d, h1, h2⟩ := dpAll_getV al (y vs (sqL_mono (s1.trans s2) sq))
        refine ⟨_, Nu.new s2 hT, ?_⟩
        rw [List.getD_eq_getElem?_getD, h1]
        exact .tup (.inl (.inl upd_same)) (.cons (.int _) (.cons (dp_mono (s1.trans (same_upd (s2.free hT))) h2) .nil))
/-- zip of two known lists -/
theorem evi_zip (ha : EvD K ta δ (.list ds)) (hb : EvD K tb δ (.list es)) (hn : n = min ds.length es.length) : EvI K (iZip K (tCons ta (tCons tb tNil))) δ n (fun i => .tuple [ds.getD i .none, es.getD i .none]) noSide := fun B σ H G F g R q =>
  ha B σ H G F g _ fun v G1 H1 n1 p => hb B σ H1 G1 F (g.up n1) _ fun w G2 H2 n2 p2 => by
    cases p with
    | @lst a vs _ sq al =>
      cases p2 with
      | @lst b us _ sq2 al2 =>
        have sqG : SqL K G2 a vs := sqL_mono n2.g sq
        have alG : DpAll K G2 vs ds := dpAll_mono n2.g al
        refine ⟨a, b, vs, us, rfl, sqL_mono n2.s sqG, sqL_mono n2.s sq2, q _ G2 H2 (n1.trans n2) ⟨fun i H3 G3 hi s1 s2 _ => ?_, fun H3 G3 s1 s2 _ => ?_, fun i H3 G3 x H' hi s1 s2 _ y => ?_⟩⟩
        · have h1 : i < vs.length := by rw [dpAll_len al]; omega
          have h2 : i < us.length := by rw [dpAll_len al2]; omega
          exact ⟨vs, us, vs[i], us[i], sqL_mono (s1.trans s2) sqG, sqL_mono (s1.trans s2) sq2, by simp [h1], by simp [h2]⟩
        · refine ⟨vs, us, sqL_mono (s1.trans s2) sqG, sqL_mono (s1.trans s2) sq2, ?_⟩
          rw [dpAll_len al, dpAll_len al2]; omega
        · obtain ⟨T, x1, y1, rfl, hT, rfl, f1, f2⟩ := y
          obtain ⟨d, h1, h2⟩ := dpAll_getV alG (f1 vs (sqL_mono (s1.trans s2) sqG))
          obtain ⟨e, h3, h4⟩ := dpAll_getV al2 (f2 us (sqL_mono (s1.trans s2) sq2))
          refine ⟨_, Nu.new s2 hT, ?_⟩
          rw [List.getD_eq_getElem?_getD, h1, List.getD_eq_getElem?_getD, h3]
          have k := s1.trans (same_upd (o := .tup [x1, y1]) (s2.free hT))
          exact .tup (.inl (.inl upd_same)) (.cons (dp_mono k h2) (.cons (dp_mono k h4) .nil))
/-- zip of a known list and one of one's own -/
theorem evi_zipM {p : Addr} {k : Nat} (ha : EvD K ta δ (.list ds)) (hb : δ[k]? = some (.m p es)) (hn : n = min ds.length es.length) : EvI K (iZip K (tCons ta (tCons (tVar k) tNil))) δ n (fun i => .tuple [ds.getD i .none, es.getD i .none]) (mSide K p es) := fun B σ H G F g R q =>
  ha B σ H G F g _ fun v G1 H1 n1 pa => by
    obtain ⟨o, h1, _, h2, us0, h3, h4⟩ := (g.up n1).own k _ hb
    subst h2
    refine ⟨.ref p, h1, ?_⟩
    cases pa with
    | @lst a vs _ sq al =>
      refine ⟨a, p, vs, us0, rfl, sqL_mono n1.s sq, .inl (.inl h3), q _ G1 H1 n1 ⟨fun i H3 G3 hi s1 s2 ⟨us, q1, al2⟩ => ?_, fun H3 G3 s1 s2 ⟨us, q1, al2⟩ => ?_, fun i H3 G3 x H' hi s1 s2 ⟨us, q1, al2⟩ y => ?_⟩⟩
      · have h1 : i < vs.length := by rw [dpAll_len al]; omega
        have h2 : i < us.length := by rw [dpAll_len al2]; omega
        exact ⟨vs, us, vs[i], us[i], sqL_mono (s1.trans s2) sq, .inl (.inl q1), by simp [h1], by simp [h2]⟩
      · refine ⟨vs, us, sqL_mono (s1.trans s2) sq, .inl (.inl q1), ?_⟩
        rw [dpAll_len al, dpAll_len al2]; omega
      · obtain ⟨T, x1, y1, rfl, hT, rfl, f1, f2⟩ := y
        obtain ⟨d, h1, h2⟩ := dpAll_getV al (f1 vs (sqL_mono (s1.trans s2) sq))
        obtain ⟨e, h3, h4⟩ := dpAll_getV al2 (f2 us (.inl (.inl q1)))
        refine ⟨_, Nu.new s2 hT, ?_⟩
        rw [List.getD_eq_getElem?_getD, h1, List.getD_eq_getElem?_getD, h3]
        have kk := same_upd (o := .tup [x1, y1]) (s2.free hT)
        exact .tup (.inl (.inl upd_same)) (.cons (dp_mono (s1.trans kk) h2) (.cons (dp_mono kk h4) .nil))
/-- range downwards, by reversed -/
theorem evi_rev {m : Int} (ha : EvD K ta δ (.int m)) (h0 : 0 ≤ m) (h1 : m ≤ 1000000) : EvI K (iRevR (tRg1 ta)) δ m.toNat (fun k => .int (m - 1 - (k : Int))) noSide := fun B σ H G F g R q =>
  ha B σ H G F g _ fun v G1 H1 n1 p => by
    cases p
    refine ⟨m, rfl, by omega, by omega, by omega, by omega, q _ G1 H1 n1 ?_⟩
    have e : (m - 0).toNat = m.toNat := by rw [Int.sub_zero]
    rw [e]
    refine ⟨fun i H2 G2 hi _ _ _ => hi, fun H2 G2 _ _ _ => Nat.le_refl _, fun i H2 G2 x H' hi s1 s2 _ y => ?_⟩
    obtain ⟨e, y⟩ := y
    subst e
    subst y
    refine ⟨G2, Nu.refl s2, ?_⟩
    have e2 : (0 : Int) + ((m.toNat : Nat) : Int) - 1 + (i : Int) * -1 = m - 1 - (i : Int) := by omega
    rw [e2]
    exact .int _
end
/-! ### targets -/
def Tg (K : PySem.W.Frag) (g : TG) (x : PyData) (δ δ' : List Sl) : Prop := ∀ B σ H G F v, GoodAt K B δ σ H G F → Dp K G v x → ∀ Q : L2.St → Hp → Prop, (∀ σ' F', GoodAt K B δ' σ' H G F' → Q σ' H) → g v σ H Q
def Tgs (K : PySem.W.Frag) (g : TGs) (xs : List PyData) (δ δ' : List Sl) : Prop := ∀ B σ H G F vs, GoodAt K B δ σ H G F → DpAll K G vs xs → ∀ Q : L2.St → Hp → Prop, (∀ σ' F', GoodAt K B δ' σ' H G F' → Q σ' H) → g vs σ H Q
section
variable {K : PySem.W.Frag} {δ δ1 δ2 : List Sl}
theorem tg_name {x : PyData} {i : Nat} : Tg K (gName i) x δ (δ.set i (.d x)) := fun B σ H G F v g h Q q =>
  q _ _ (g.put (s := .d x) (f := []) ⟨rfl, v, rfl, h⟩ fun _ z => nomatch z)
theorem tgs_nil : Tgs K gNil [] δ δ := fun B σ H G F vs g h Q q => by
  cases h
  exact ⟨rfl, q σ F g⟩
theorem tgs_cons {t : TG} {u : TGs} {x : PyData} {xs : List PyData} (h1 : Tg K t x δ δ1) (h2 : Tgs K u xs δ1 δ2) : Tgs K (gCons t u) (x :: xs) δ δ2 := fun B σ H G F vs g h Q q => by
  cases h with
  | @cons v r _ _ p ps => exact ⟨v, r, rfl, h1 B σ H G F v g p _ fun σ' F' g' => h2 B σ' H G F' r g' ps Q q⟩
theorem tg_tup {u : TGs} {n : Nat} {xs : List PyData} (h : Tgs K u xs δ δ1) (hn : xs.length = n) : Tg K (gTup K n u) (.tuple xs) δ δ1 := fun B σ H G F v g p Q q => by
  cases p with
  | @tup a vs _ sq al => exact ⟨a, vs, rfl, sqT_mono g.nu.s sq, (dpAll_len al).trans hn, h B σ H G F vs g al Q q⟩
end
/-! ### comprehensions -/
theorem wipe_get {σ : L2.St} (i : Nat) : ∀ vs : List Nat, (wipe σ vs)[i]? = if i ∈ vs then σ[i]?.map (fun _ => none) else σ[i]?
  | [] => by simp [wipe]
  | v :: vs => by
    show ((wipe σ vs).set v none)[i]? = _
    by_cases hi : v = i
    · subst hi
      by_cases hv : v < σ.length
      · rw [List.getElem?_set_self (by rw [wipe_length]; exact hv), if_pos List.mem_cons_self, List.getElem?_eq_getElem hv]
        rfl
      · rw [List.getElem?_eq_none (by rw [List.length_set, wipe_length]; omega), if_pos List.mem_cons_self, List.getElem?_eq_none (by omega)]
        rfl
    · rw [List.getElem?_set_ne hi, wipe_get i vs]
      by_cases h : i ∈ vs
      · rw [if_pos h, if_pos (List.mem_cons_of_mem _ h)]
      · rw [if_neg h, if_neg (by simp only [List.mem_cons, not_or]; exact ⟨fun e => hi e.symm, h⟩)]
/-- slots outside vs are as they were -/
def Off (vs : List Nat) (σ σ' : L2.St) : Prop := σ'.length = σ.length ∧ ∀ i, i ∉ vs → σ'[i]? = σ[i]?
theorem wipe_off {vs : List Nat} {σ σ' : L2.St} (h : Off vs σ σ') : wipe σ' vs = wipe σ vs := by
  refine List.ext_getElem? fun i => ?_
  rw [wipe_get, wipe_get]
  by_cases hi : i ∈ vs
  · rw [if_pos hi, if_pos hi]
    by_cases hl : i < σ.length
    · have hl' : i < σ'.length := by rw [h.1]; exact hl
      rw [List.getElem?_eq_getElem hl, List.getElem?_eq_getElem hl']
      rfl
    · have e1 : σ'[i]? = none := List.getElem?_eq_none (by rw [h.1]; omega)
      have e2 : σ[i]? = none := List.getElem?_eq_none (by omega)
      rw [e1, e2]
  · rw [if_neg hi, if_neg hi]
    exact h.2 i hi
theorem off_wipe (vs : List Nat) (σ : L2.St) : Off vs σ (wipe σ vs) := ⟨wipe_length σ vs, fun i hi => by rw [wipe_get, if_neg hi]⟩
theorem Off.trans {vs : List Nat} {a b c : L2.St} (h : Off vs a b) (k : Off vs b c) : Off vs a c := ⟨k.1.trans h.1, fun i hi => (k.2 i hi).trans (h.2 i hi)⟩
theorem off_set {vs : List Nat} {σ : L2.St} {i : Nat} {x : Option V} (hi : i ∈ vs) : Off vs σ (σ.set i x) := ⟨List.length_set, fun j hj => by
  rw [List.getElem?_set_ne]
  exact fun e => hj (e ▸ hi)⟩
/-- a target that stores to the slots of vs alone -/
def TgV (K : PySem.W.Frag) (g : TG) (vs : List Nat) (x : PyData) (δ δ' : List Sl) : Prop := ∀ B σ H G F v, GoodAt K B δ σ H G F → Dp K G v x → ∀ Q : L2.St → Hp → Prop, (∀ σ' F', GoodAt K B δ' σ' H G F' → Off vs σ σ' → Q σ' H) → g v σ H Q
def TgsV (K : PySem.W.Frag) (g : TGs) (vs : List Nat) (xs : List PyData) (δ δ' : List Sl) : Prop := ∀ B σ H G F us, GoodAt K B δ σ H G F → DpAll K G us xs → ∀ Q : L2.St → Hp → Prop, (∀ σ' F', GoodAt K B δ' σ' H G F' → Off vs σ σ' → Q σ' H) → g us σ H Q
section
variable {K : PySem.W.Frag} {δ δ1 δ2 : List Sl} {vs : List Nat}
theorem tv_name {x : PyData} {i : Nat} (hi : i ∈ vs) : TgV K (gName i) vs x δ (δ.set i (.d x)) := fun B σ H G F v g h Q q =>
  q _ _ (g.put (s := .d x) (f := []) ⟨rfl, v, rfl, h⟩ fun _ z => nomatch z) (off_set hi)
theorem tvs_nil : TgsV K gNil vs [] δ δ := fun B σ H G F us g h Q q => by
  cases h
  exact ⟨rfl, q σ F g ⟨rfl, fun _ _ => rfl⟩⟩
theorem tvs_cons {t : TG} {u : TGs} {x : PyData} {xs : List PyData} (h1 : TgV K t vs x δ δ1) (h2 : TgsV K u vs xs δ1 δ2) : TgsV K (gCons t u) vs (x :: xs) δ δ2 := fun B σ H G F us g h Q q => by
  cases h with
  | @cons v r _ _ p ps => exact ⟨v, r, rfl, h1 B σ H G F v g p _ fun σ' F' g' o => h2 B σ' H G F' r g' ps Q fun σ2 F2 g2 o2 => q σ2 F2 g2 (o.trans o2)⟩
theorem tv_tup {u : TGs} {n : Nat} {xs : List PyData} (h : TgsV K u vs xs δ δ1) (hn : xs.length = n) : TgV K (gTup K n u) vs (.tuple xs) δ δ1 := fun B σ H G F v g p Q q => by
  cases p with
  | @tup a us _ sq al => exact ⟨a, us, rfl, sqT_mono g.nu.s sq, (dpAll_len al).trans hn, h B σ H G F us g al Q q⟩
end
/-- the slots of vs forgotten -/
def wipeD (δ : List Sl) : List Nat → List Sl
  | [] => δ
  | v :: vs => (wipeD δ vs).set v .no
theorem good_wipe {K : PySem.W.Frag} {B : Bs} {δ : List Sl} {σ : L2.St} {H G : Hp} {F : Nat → List Addr} (g : GoodAt K B δ σ H G F) : ∀ vs : List Nat, ∃ F', GoodAt K B (wipeD δ vs) (wipe σ vs) H G F'
  | [] => ⟨F, g⟩
  | v :: vs => by
    obtain ⟨F1, q⟩ := good_wipe g vs
    refine ⟨fun j => if j = v then [] else F1 j, q.nu, q.base, ?_, fun i s e => ?_, fun i j b hi hj h1 h2 => ?_, fun i b hi hb => ?_⟩
    · show ((wipe σ vs).set v none).length = ((wipeD δ vs).set v .no).length
      rw [List.length_set, List.length_set]; exact q.len
    · have e : ((wipeD δ vs).set v Sl.no)[i]? = some s := e
      show ∃ o, ((wipe σ vs).set v none)[i]? = some o ∧ _
      by_cases hi : i = v
      · subst hi
        have hl : i < ((wipeD δ vs).set i Sl.no).length := (List.getElem?_eq_some_iff.mp e).1
        rw [List.length_set] at hl
        rw [List.getElem?_set_self hl] at e
        cases e
        refine ⟨none, List.getElem?_set_self (by rw [q.len]; exact hl), ?_⟩
        rw [if_pos rfl]; rfl
      · rw [List.getElem?_set_ne (fun z => hi z.symm)] at e
        obtain ⟨o, h1, h2⟩ := q.own i s e
        exact ⟨o, by rw [List.getElem?_set_ne (fun z => hi z.symm)]; exact h1, by rw [if_neg hi]; exact h2⟩
    · have hi' : i < (wipeD δ vs).length := by
        have hi : i < ((wipeD δ vs).set v Sl.no).length := hi
        rw [List.length_set] at hi; exact hi
      have hj' : j < (wipeD δ vs).length := by
        have hj : j < ((wipeD δ vs).set v Sl.no).length := hj
        rw [List.length_set] at hj; exact hj
      split at h1
      · cases h1
      · split at h2
        · cases h2
        · exact q.sep i j b hi' hj' h1 h2
    · have hi' : i < (wipeD δ vs).length := by
        have hi : i < ((wipeD δ vs).set v Sl.no).length := hi
        rw [List.length_set] at hi; exact hi
      split at hb
      · cases hb
      · exact q.frs i b hi' hb
section
variable {K : PySem.W.Frag} {δ : List Sl} {te : TE} {tt : TT} {wi : TI} {g : TG} {vs : List Nat} {n : Nat} {Y : Nat → PyData} {side : Hp → Hp → Prop}
theorem evt_yes : EvT K tYes δ true := fun B σ H G F g Q q => q G H (Nu.refl g.nu.s)
/-- [te for g in wi if tt], by turns -/
theorem evn_lc (hi : EvI K wi δ n Y side) (hside : ∀ B σ H G F, GoodAt K B (wipeD δ vs) σ H G F → side G H) (hn : n ≤ 1000000) {δi : Nat → List Sl} {b : Nat → Bool} {f : Nat → PyData}
    (hg : ∀ i, i < n → TgV K g vs (Y i) (wipeD δ vs) (δi i)) (ht : ∀ i, i < n → EvT K tt (δi i) (b i)) (he : ∀ i, i < n → b i = true → EvD K te (δi i) (f i)) :
    EvN K (tLc wi g tt te vs) δ (((List.range n).filter b).map f) := fun B σ H G F gd Q q =>
  hi B σ H G F gd _ fun J G1 H1 n1 w => by
    intro D hD
    have gd1 := gd.up n1
    obtain ⟨F1, gw⟩ := good_wipe gd1 vs
    have hGD : G1 D = none := n1.s.free hD
    -- the state behind i turns: the new list at D, all else known by G2
    let Pv : Nat → Hp → Prop := fun i H2 => ∃ G2 acc, Nu G1 H1 G2 H2 ∧ G2 D = none ∧ H2 D = some (.lst acc) ∧ DpAll K G2 acc (((List.range i).filter b).map f)
    refine ⟨fun i m H2 => m = n - i ∧ i ≤ n ∧ Pv i H2, ⟨n, by simp, Nat.zero_le _, G1, [], Nu.laid n1.s hD, hGD, upd_same, .nil⟩, ?_⟩
    rintro i m H2 ⟨rfl, hle, G2, acc, n2, hG2, hH2, al⟩
    have g2 : GoodAt K B (wipeD δ vs) (wipe σ vs) H2 G2 F1 := gw.up n2
    by_cases hlt : i < n
    · refine .inr ⟨w.goes i H2 G2 hlt n2.g n2.s (hside _ _ _ _ _ g2), Pv (i + 1), fun H' p' => ⟨n - (i + 1), by omega, rfl, hlt, p'⟩, fun x H3 y => ?_⟩
      obtain ⟨G3, n3, p3⟩ := w.yields i H2 G2 x H3 hlt n2.g n2.s (hside _ _ _ _ _ g2) y
      have g3 := g2.up n3
      have hG3 : G3 D = none := n3.n D hG2 (some_ne hH2)
      refine hg i hlt B _ H3 G3 F1 x g3 p3 _ fun σ2 F2 g4 off => ⟨(wipe_off off).trans (wipe_off (off_wipe vs σ)), ht i hlt B σ2 H3 G3 F2 g4 _ fun G5 H5 n5 => ?_⟩
      have hD5 : H5 D = some (.lst acc) := n5.h _ _ (n3.h _ _ hH2)
      have hG5 : G5 D = none := n5.n D hG3 (some_ne (n3.h _ _ hH2))
      have e : (List.range (i + 1)).filter b = (List.range i).filter b ++ (if b i = true then [i] else []) := by
        rw [List.range_succ, List.filter_append, List.filter_cons]
        by_cases hb : b i = true
        · rw [if_pos hb, if_pos hb]; rfl
        · rw [if_neg hb, if_neg hb]; rfl
      cases hb : b i with
      | true =>
        refine iteT (he i hlt hb B σ2 H5 G5 F2 (g4.up n5) _ fun y2 G6 H6 n6 p6 => ?_)
        have hD6 : H6 D = some (.lst acc) := n6.h _ _ hD5
        have hG6 : G6 D = none := n6.n D hG5 (some_ne hD5)
        have nn := ((n2.trans n3).trans n5).trans n6
        have hlen : acc.length ≤ i := by
          rw [dpAll_len al, List.length_map]
          exact Nat.le_trans (List.length_filter_le _ _) (by rw [List.length_range]; exact Nat.le_refl _)
        refine ⟨acc, hD6, Nat.lt_of_le_of_lt (Nat.le_trans hlen (Nat.le_trans hle hn)) (by decide), G6, acc ++ [y2], ⟨nn.g, fun c o z => ?_, fun c o z => ?_, nn.n⟩, hG6, upd_same, ?_⟩
        · rw [upd_ne (fun e => by rw [e] at z; rw [hD] at z; cases z)]; exact nn.h _ _ z
        · rw [upd_ne (fun e => by rw [e] at z; rw [hG6] at z; cases z)]; exact nn.s _ _ z
        · rw [e, hb, if_pos rfl, List.map_append]
          exact dpAll_app (dpAll_mono ((n3.trans n5).trans n6).g al) (.cons p6 .nil)
      | false =>
        refine iteF ⟨G5, acc, (n2.trans n3).trans n5, hG5, hD5, ?_⟩
        rw [e, hb, if_neg Bool.false_ne_true, List.append_nil]
        exact dpAll_mono (n3.trans n5).g al
    · have ei : i = n := by omega
      subst ei
      exact .inl ⟨w.stops H2 G2 n2.g n2.s (hside _ _ _ _ _ g2), q D acc G2 H2 (n1.trans n2) hG2 (n1.h.free hD) hH2 al⟩
theorem range_map_getD {α β : Type} (xs : List α) (x0 : α) (f : α → β) : (List.range xs.length).map (fun i => f (xs.getD i x0)) = xs.map f := by
  refine List.ext_getElem? fun i => ?_
  rw [List.getElem?_map, List.getElem?_map]
  by_cases h : i < xs.length
  · rw [List.getElem?_range h, List.getElem?_eq_getElem h]
    simp [List.getD_eq_getElem?_getD, h]
  · rw [List.getElem?_eq_none (by rw [List.length_range]; omega), List.getElem?_eq_none (by omega)]
    rfl
/-- a comprehension over a known list, without a test -/
theorem evn_lcL {α : Type} {xs : List α} (x0 : α) {en f : α → PyData} {tl : TE} {j : Nat} (h : EvD K tl δ (.list (xs.map en))) (hn : xs.length ≤ 1000000) (he : ∀ x, x ∈ xs → EvD K te ((wipeD δ [j]).set j (.d (en x))) (f x)) :
    EvN K (tLc (iList K tl) (gName j) tYes te [j]) δ (xs.map f) := by
  have k := evn_lc (K := K) (δ := δ) (te := te) (tt := tYes) (wi := iList K tl) (g := gName j) (vs := [j]) (b := fun _ => true) (f := fun i => f (xs.getD i x0)) (δi := fun i => (wipeD δ [j]).set j (.d (en (xs.getD i x0))))
    (evi_list h) (fun _ _ _ _ _ _ => trivial) (by rw [List.length_map]; exact hn) (fun i hi => by
      rw [List.length_map] at hi
      have e : (xs.map en).getD i .none = en (xs.getD i x0) := by simp [List.getD_eq_getElem?_getD, hi]
      show TgV K (gName j) [j] ((xs.map en).getD i .none) _ _
      rw [e]
      exact tv_name (by simp)) (fun _ _ => evt_yes) (fun i hi _ => by
      rw [List.length_map] at hi
      exact he _ (by simp [List.getD_eq_getElem?_getD, hi]))
  rw [List.length_map, List.filter_eq_self.mpr (fun _ _ => rfl), range_map_getD] at k
  exact k
/-- .. over range(n) -/
theorem evn_lcR {n : Nat} {f : Nat → PyData} {ta : TE} {j : Nat} (h : EvD K ta δ (.int (n : Int))) (hn : n ≤ 1000000) (he : ∀ i, i < n → EvD K te ((wipeD δ [j]).set j (.d (.int (i : Int)))) (f i)) :
    EvN K (tLc (iRng1 (tCons ta tNil)) (gName j) tYes te [j]) δ ((List.range n).map f) := by
  have k := evn_lc (K := K) (δ := δ) (te := te) (tt := tYes) (wi := iRng1 (tCons ta tNil)) (g := gName j) (vs := [j]) (b := fun _ => true) (f := f) (δi := fun i => (wipeD δ [j]).set j (.d (.int (i : Int))))
    (evi_range1 h hn) (fun _ _ _ _ _ _ => trivial) hn (fun i hi => tv_name (by simp)) (fun _ _ => evt_yes) (fun i hi _ => he i hi)
  rw [List.filter_eq_self.mpr (fun _ _ => rfl)] at k
  exact k
end
end Ph

set_option Elab.async false
set_option linter.all false
set_option maxRecDepth 100000
set_option maxHeartbeats 2000000
namespace Ph
open PySem PySem.Spec L2

/-! ### statements -/
def RunS (K : PySem.W.Frag) (B : Bs) (t : TS) (D : Ends) (δ : List Sl) : Prop := ∀ σ H, Good K B δ σ H → t D σ H
def Nx (K : PySem.W.Frag) (B : Bs) (D : Ends) (δ : List Sl) : Prop := ∀ σ H, Good K B δ σ H → D.nx σ H
def RtD (K : PySem.W.Frag) (B : Bs) (D : Ends) (d : PyData) : Prop := ∀ v G' H', Nu B.G0 B.H0 G' H' → Dp K G' v d → D.rt v H'
def RtN (K : PySem.W.Frag) (B : Bs) (D : Ends) (ds : List PyData) : Prop := ∀ p vs G' H', Nu B.G0 B.H0 G' H' → G' p = none → B.H0 p = none → H' p = some (.lst vs) → DpAll K G' vs ds → D.rt (.ref p) H'
theorem RtD.base {K : PySem.W.Frag} {B : Bs} {Gb : Hp} {D : Ends} {d : PyData} (h : RtD K B D d) : RtD K ⟨Gb, B.G0, B.H0⟩ D d := h
theorem rtN_of {K : PySem.W.Frag} {B : Bs} {D : Ends} {ds : List PyData} (h : RtD K B D (.list ds)) : RtN K B D ds := fun p vs G' H' n h1 h2 e b =>
  h _ _ H' (n.know h1 h2 e) (.lst (.inl (.inl upd_same)) (dpAll_mono (same_upd h1) b))
section
variable {K : PySem.W.Frag} {B : Bs} {D : Ends} {δ δ' : List Sl} {te ta tb : TE} {t u : TT} {tu tw tz : TS} {d e : PyData} {ds es : List PyData} {i : Nat} {p : Addr} {b : Bool}
theorem r_next (h : Nx K B D δ) : RunS K B tNext D δ := h
theorem nx_run (h : RunS K B tz D δ) : Nx K B { D with nx := tz D } δ := h
theorem RunS.weak (w : WkL δ δ') (h : RunS K B tz D δ') : RunS K B tz D δ := fun σ H g => h σ H (g.weak w)
theorem RunS.base {Gb : Hp} (hb : Same B.Gb Gb) (h : RunS K B tz D δ) : RunS K ⟨Gb, B.G0, B.H0⟩ tz D δ := fun σ H g => h σ H (g.base hb)
theorem r_set (h : EvD K te δ d) (k : RunS K B tz D (δ.set i (.d d))) : RunS K B (tSeq (tAsg te (gName i)) tz) D δ := fun σ H ⟨G, F, g⟩ =>
  h B σ H G F g _ fun v G' H' n hv => k _ _ ((g.up n).putD hv)
theorem r_setN (h : EvN K te δ ds) (k : ∀ p, RunS K B tz D (δ.set i (.m p ds))) : RunS K B (tSeq (tAsg te (gName i)) tz) D δ := fun σ H ⟨G, F, g⟩ =>
  h B σ H G F g _ fun p vs G' H' n h1 h2 h3 h4 => by
    refine k p _ _ ⟨_, _, (g.up n).put (s := .m p ds) (f := [p]) ⟨rfl, rfl, vs, h3, h4⟩ fun c hc => ?_⟩
    obtain rfl : c = p := by simpa using hc
    exact ⟨h1, g.nu.h.free h2, some_ne h3, fun j hj _ hm => (g.frs j c hj hm).2.2 h2⟩
/-- a, b = e -/
theorem r_setT {g : TG} (h : EvD K te δ d) (hg : Tg K g d δ δ') (k : RunS K B tz D δ') : RunS K B (tSeq (tAsg te g) tz) D δ := fun σ H ⟨G, F, gd⟩ =>
  h B σ H G F gd _ fun v G' H' n hv => hg B σ H' G' F v (gd.up n) hv _ fun σ' F' g' => k _ _ ⟨_, _, g'⟩
theorem r_drop (h : EvD K te δ d) (k : RunS K B tz D δ) : RunS K B (tSeq (tDrop te) tz) D δ := fun σ H ⟨G, F, g⟩ =>
  h B σ H G F g _ fun v G' H' n hv => k _ _ ⟨_, _, g.up n⟩
theorem r_ret (h : EvD K te δ d) (k : RtD K B D d) : RunS K B (tSeq (tRet te) tz) D δ := fun σ H ⟨G, F, g⟩ =>
  h B σ H G F g _ fun v G' H' n hv => k v G' H' (g.nu.trans n) hv
theorem r_retN (h : EvN K te δ ds) (k : RtN K B D ds) : RunS K B (tSeq (tRet te) tz) D δ := fun σ H ⟨G, F, g⟩ =>
  h B σ H G F g _ fun p vs G' H' n h1 h2 h3 h4 => k p vs G' H' (g.nu.trans n) h1 (g.nu.h.free h2) h3 h4
theorem r_retM (h : δ[i]? = some (.m p ds)) (k : RtN K B D ds) : RunS K B (tSeq (tRet (tVar i)) tz) D δ := fun σ H ⟨G, F, g⟩ => by
  obtain ⟨o, h1, hf, h2, vs, h3, h4⟩ := g.own i _ h
  subst h2
  have hi : i < δ.length := (List.getElem?_eq_some_iff.mp h).1
  obtain ⟨f1, f2, f3⟩ := g.frs i p hi (by rw [hf]; exact List.mem_singleton_self p)
  exact ⟨.ref p, h1, k p vs G H g.nu f1 f2 h3 h4⟩
theorem r_if (h : EvT K t δ b) (h1 : b = true → RunS K B tu { D with nx := tz D } δ) (h2 : b = false → RunS K B tw { D with nx := tz D } δ) : RunS K B (tSeq (tIfS t tu tw) tz) D δ := fun σ H ⟨G, F, g⟩ =>
  h B σ H G F g _ fun G' H' n => by
    cases b with
    | true => exact iteT (h1 rfl _ _ ⟨_, _, g.up n⟩)
    | false => exact iteF (h2 rfl _ _ ⟨_, _, g.up n⟩)
/-- an if without else -/
theorem r_when (h : EvT K t δ b) (h1 : b = true → RunS K B tu { D with nx := tz D } δ) (h2 : b = false → RunS K B tz D δ) : RunS K B (tSeq (tIfS t tu tNext) tz) D δ := r_if h h1 h2
/-- .. that is not taken -/
theorem r_skip (h : EvT K t δ false) (h2 : RunS K B tz D δ) : RunS K B (tSeq (tIfS t tu tNext) tz) D δ := r_if h (fun z => nomatch z) fun _ => h2
theorem goodAt_wr {σ : L2.St} {H G : Hp} {F : Nat → List Addr} {vs : List V} {es : List PyData} (g : GoodAt K B δ σ H G F) (h : δ[i]? = some (.m p ds)) (he : DpAll K G vs es) : Good K B (δ.set i (.m p es)) σ (upd H p (.lst vs)) := by
  obtain ⟨o, h1, hf, h2, us, h3, h4⟩ := g.own i _ h
  subst h2
  have hi : i < δ.length := (List.getElem?_eq_some_iff.mp h).1
  obtain ⟨f1, f2, f3⟩ := g.frs i p hi (by rw [hf]; exact List.mem_singleton_self p)
  have hF : ∀ j, j < δ.length → j ≠ i → p ∉ F j := fun j hj hne hm => hne (g.sep j i p hj hi hm (by rw [hf]; exact List.mem_singleton_self p))
  refine ⟨G, F, ⟨g.nu.g, fun c o z => ?_, fun c o z => ?_, g.nu.n⟩, g.base, by rw [List.length_set]; exact g.len, fun j s e => ?_, fun j k c hj hk => ?_, fun j c hj hc => ?_⟩
  · rw [upd_ne (fun e => by rw [e] at z; rw [f2] at z; cases z)]; exact g.nu.h _ _ z
  · rw [upd_ne (fun e => by rw [e] at z; rw [f1] at z; cases z)]; exact g.nu.s _ _ z
  · by_cases hj : j = i
    · subst hj
      rw [List.getElem?_set_self hi] at e
      cases e
      exact ⟨_, h1, hf, rfl, vs, upd_same, he⟩
    · rw [List.getElem?_set_ne (fun z => hj z.symm)] at e
      obtain ⟨o, k1, k2⟩ := g.own j s e
      have hjl : j < δ.length := (List.getElem?_eq_some_iff.mp e).1
      refine ⟨o, k1, k2.up (Same.refl _) fun c hc => upd_ne fun z => ?_⟩
      subst z
      exact hF j hjl hj hc
  · rw [List.length_set] at hj hk
    exact g.sep j k c hj hk
  · rw [List.length_set] at hj
    obtain ⟨k1, k2, k3⟩ := g.frs j c hj hc
    refine ⟨k1, k2, ?_⟩
    by_cases hcp : c = p
    · rw [hcp, upd_same]; exact fun z => nomatch z
    · rw [upd_ne hcp]; exact k3
/-- xs.append(e) -/
theorem r_app (hi : δ[i]? = some (.m p ds)) (h : EvD K te δ d) (hz : ds.length ≤ 1000000) (k : RunS K B tz D (δ.set i (.m p (ds ++ [d])))) :
    RunS K B (tSeq (tDrop (tBM K "list" rAppend (tVar i) (tCons te tNil))) tz) D δ := fun σ H ⟨G, F, g⟩ => by
  obtain ⟨o, h1, hf, h2, vs, h3, h4⟩ := g.own i _ hi
  subst h2
  refine ⟨.ref p, h1, .inl ⟨rfl, vs, .inl (.inl h3)⟩, h B σ H G F g _ fun v G' H' n hv => ?_⟩
  have h3' : H' p = some (.lst vs) := n.h _ _ h3
  refine ⟨p, vs, v, rfl, rfl, h3', ?_, k _ _ (goodAt_wr (g.up n) hi (dpAll_app (dpAll_mono n.g h4) (.cons hv .nil)))⟩
  rw [dpAll_len h4]
  exact Nat.lt_of_le_of_lt hz (by decide)
/-- xs[j] = e -/
theorem r_setIx {j : Int} {k : Nat} (hi : δ[i]? = some (.m p ds)) (h : EvD K te δ d) (hb : EvD K tb δ (.int j)) (hj : ixN ds.length j = some k) (kk : RunS K B tz D (δ.set i (.m p (ds.set k d)))) :
    RunS K B (tSeq (tAsg te (gSub (tVar i) tb rSetL)) tz) D δ := fun σ H ⟨G, F, g⟩ =>
  h B σ H G F g _ fun v G' H' n hv => by
    obtain ⟨o, h1, hf, h2, vs, h3, h4⟩ := (g.up n).own i _ hi
    subst h2
    refine ⟨.ref p, h1, hb B σ H' G' F (g.up n) _ fun w G2 H2 n2 pw => ?_⟩
    cases pw
    have h3' : H2 p = some (.lst vs) := n2.h _ _ h3
    refine ⟨p, vs, j, k, rfl, rfl, h3', by rw [dpAll_len h4]; exact hj, kk _ _ (goodAt_wr ((g.up n).up n2) hi (dpAll_set k (dpAll_mono n2.g h4) (dp_mono n2.g hv)))⟩
/-- a list of one's own is known from here on -/
theorem r_freeze {tt : TS} (hi : δ[i]? = some (.m p ds)) (k : RunS K B tt D (δ.set i (.d (.list ds)))) : RunS K B tt D δ := fun σ H ⟨G, F, g⟩ => by
  obtain ⟨o, h1, hf, h2, vs, h3, h4⟩ := g.own i _ hi
  subst h2
  have hil : i < δ.length := (List.getElem?_eq_some_iff.mp hi).1
  obtain ⟨f1, f2, f3⟩ := g.frs i p hil (by rw [hf]; exact List.mem_singleton_self p)
  have hs : Same G (upd G p (.lst vs)) := same_upd f1
  refine k σ H ⟨upd G p (.lst vs), fun j => if j = i then [] else F j, g.nu.know f1 f2 h3, g.base.trans hs, by rw [List.length_set]; exact g.len, fun j s e => ?_, fun j l c hj hl a b => ?_, fun j c hj hc => ?_⟩
  · by_cases hj : j = i
    · subst hj
      rw [List.getElem?_set_self hil] at e
      cases e
      refine ⟨_, h1, ?_⟩
      rw [if_pos rfl]
      exact ⟨rfl, _, rfl, .lst (.inl (.inl upd_same)) (dpAll_mono hs h4)⟩
    · rw [List.getElem?_set_ne (fun z => hj z.symm)] at e
      obtain ⟨o, k1, k2⟩ := g.own j s e
      refine ⟨o, k1, ?_⟩
      rw [if_neg hj]
      exact k2.up hs fun _ _ => rfl
  · rw [List.length_set] at hj hl
    split at a
    · cases a
    · split at b
      · cases b
      · exact g.sep j l c hj hl a b
  · rw [List.length_set] at hj
    split at hc
    · cases hc
    · rename_i hji
      obtain ⟨k1, k2, k3⟩ := g.frs j c hj hc
      refine ⟨?_, k2, k3⟩
      have hne : c ≠ p := fun z => by
        rw [z] at hc
        exact hji (g.sep j i p hj hil hc (by rw [hf]; exact List.mem_singleton_self p))
      rw [upd_ne hne]
      exact k1
/-! ### loops -/
variable {wi : TI} {g : TG} {n : Nat} {Y : Nat → PyData} {side : Hp → Hp → Prop} {tc : TT}
def NI (K : PySem.W.Frag) (B : Bs) (P : List Sl → Prop) : L2.St → Hp → Prop := fun σ H => ∃ δ', P δ' ∧ Good K B δ' σ H
theorem r_for (hi : EvI K wi δ n Y side) (P : Nat → List Sl → Prop) (h0 : ∃ δ0, WkL δ δ0 ∧ P 0 δ0) (hside : ∀ i δ', P i δ' → ∀ B σ H G F, GoodAt K B δ' σ H G F → side G H)
    (step : ∀ Gb, Same B.Gb Gb → ∀ i δ', i < n → P i δ' → ∃ δ'', Tg K g (Y i) δ' δ'' ∧ RunS K ⟨Gb, B.G0, B.H0⟩ tu { D with nx := NI K ⟨Gb, B.G0, B.H0⟩ (P (i + 1)), ct := NI K ⟨Gb, B.G0, B.H0⟩ (P (i + 1)), bk := tz D } δ'')
    (done : ∀ δ', P n δ' → RunS K B tz D δ') : RunS K B (tSeq (tFor wi g tu) tz) D δ := fun σ H ⟨G, F, gd⟩ =>
  hi B σ H G F gd _ fun J G1 H1 n1 w => by
    obtain ⟨δ0, w0, p0⟩ := h0
    have g1 := gd.up n1
    have hb : Same B.Gb G1 := g1.base
    refine ⟨fun i m σ2 H2 => m = n - i ∧ i ≤ n ∧ NI K ⟨G1, B.G0, B.H0⟩ (P i) σ2 H2, ⟨n, by simp, Nat.zero_le _, δ0, p0, (g1.baseTo.good).weak w0⟩, ?_⟩
    rintro i m σ2 H2 ⟨rfl, hle, δ2, p2, G2, F2, g2⟩
    by_cases hlt : i < n
    · refine .inr ⟨w.goes i H2 G2 hlt g2.base g2.nu.s (hside i δ2 p2 _ _ _ _ _ g2), NI K ⟨G1, B.G0, B.H0⟩ (P (i + 1)), fun σ' H' p' => ⟨n - (i + 1), by omega, rfl, hlt, p'⟩, fun x H3 y => ?_⟩
      obtain ⟨G3, n3, p3⟩ := w.yields i H2 G2 x H3 hlt g2.base g2.nu.s (hside i δ2 p2 _ _ _ _ _ g2) y
      obtain ⟨δ3, tg, run⟩ := step G1 hb i δ2 hlt p2
      exact tg _ _ _ _ _ _ (g2.up n3) p3 _ fun σ' F' g' => run σ' H3 ⟨_, _, g'⟩
    · have ei : i = n := by omega
      subst ei
      exact .inl ⟨w.stops H2 G2 g2.base g2.nu.s (hside i δ2 p2 _ _ _ _ _ g2), done δ2 p2 σ2 H2 (Good.base (B := ⟨G1, B.G0, B.H0⟩) ⟨G2, F2, g2⟩ hb)⟩
theorem nx_inv (w : WkL δ δ') (h : ∃ P, D.nx = NI K B P ∧ P δ') : Nx K B D δ := fun σ H g => by
  obtain ⟨P, e, p⟩ := h
  rw [e]
  exact ⟨δ', p, g.weak w⟩
/-- a loop whose slots are told by the turn -/
theorem r_forE (hi : EvI K wi δ n Y noSide) (env : Nat → List Sl) (h0 : WkL δ (env 0))
    (step : ∀ Gb, Same B.Gb Gb → ∀ i, i < n → ∃ δ'', Tg K g (Y i) (env i) δ'' ∧ RunS K ⟨Gb, B.G0, B.H0⟩ tu { D with nx := NI K ⟨Gb, B.G0, B.H0⟩ (· = env (i + 1)), ct := NI K ⟨Gb, B.G0, B.H0⟩ (· = env (i + 1)), bk := tz D } δ'')
    (done : RunS K B tz D (env n)) : RunS K B (tSeq (tFor wi g tu) tz) D δ :=
  r_for hi (fun i δ' => δ' = env i) ⟨_, h0, rfl⟩ (fun _ _ _ _ _ _ _ _ _ => trivial) (fun Gb hb i δ' hlt e => by subst e; exact step Gb hb i hlt) (fun δ' e => by subst e; exact done)
theorem nx_env {δe : List Sl} (w : WkL δ δe) (h : D.nx = NI K B (· = δe) := by rfl) : Nx K B D δ := nx_inv w ⟨_, h, rfl⟩
/-- while, W by a measure -/
theorem r_while (P : Nat → List Sl → Prop) (m0 : Nat) (h0 : ∃ δ0, WkL δ δ0 ∧ P m0 δ0)
    (step : ∀ m δ', P m δ' → ∃ b, EvT K tc δ' b ∧ (b = true → RunS K B tu { D with nx := NI K B (fun δ2 => ∃ m', m' < m ∧ P m' δ2), ct := NI K B (fun δ2 => ∃ m', m' < m ∧ P m' δ2), bk := tz D } δ') ∧ (b = false → RunS K B tz D δ')) :
    RunS K B (tSeq (tWhile tc tu) tz) D δ := fun σ H gd => by
  obtain ⟨δ0, w0, p0⟩ := h0
  refine ⟨fun m σ2 H2 => NI K B (P m) σ2 H2, ⟨m0, δ0, p0, gd.weak w0⟩, ?_⟩
  rintro m σ2 H2 ⟨δ2, p2, G2, F2, g2⟩
  obtain ⟨b, ht, h1, h2⟩ := step m δ2 p2
  refine ht B σ2 H2 G2 F2 g2 _ fun G3 H3 n3 => ?_
  cases b with
  | true =>
    exact iteT ⟨_, fun σ' H' ⟨δ3, ⟨m', hm, p3⟩, g3⟩ => ⟨m', hm, δ3, p3, g3⟩, h1 rfl σ2 H3 ⟨_, _, g2.up n3⟩⟩
  | false => exact iteF (h2 rfl σ2 H3 ⟨_, _, g2.up n3⟩)
theorem mSide_at {δ' : List Sl} {k : Nat} {p : Addr} {es : List PyData} (h : δ'[k]? = some (.m p es)) : ∀ B σ H G F, GoodAt K B δ' σ H G F → mSide K p es G H := fun B σ H G F g => by
  obtain ⟨o, _, _, _, vs, h3, h4⟩ := g.own k _ h
  exact ⟨vs, h3, h4⟩
end
/-! ### promises -/
/-- called with data ds it gives data d, R ds d -/
def Pr (K : PySem.W.Frag) (R : List PyData → PyData → Prop) : Sp := fun vs H Q _ => ∃ G ds d, Same G H ∧ DpAll K G vs ds ∧ R ds d ∧ ∀ v G' H', Nu G H G' H' → Dp K G' v d → Q v H'
/-- .. a new list -/
def PrN (K : PySem.W.Frag) (R : List PyData → List PyData → Prop) : Sp := fun vs H Q _ => ∃ G ds d, Same G H ∧ DpAll K G vs ds ∧ R ds d ∧ ∀ p us G' H', Nu G H G' H' → G' p = none → H p = none → H' p = some (.lst us) → DpAll K G' us d → Q (.ref p) H'
section
variable {K : PySem.W.Frag} {δ : List Sl} {ta : TA} {ds : List PyData} {d : PyData} {es : List PyData} {E : XK}
theorem evd_call {R : List PyData → PyData → Prop} (ha : EvA K ta δ ds) (hr : R ds d) : EvD K (tCall (Pr K R) [] E ta) δ d := fun B σ H G F g Q q =>
  ha B σ H G F g _ fun vs G1 H1 n1 p => ⟨G1, ds, d, n1.s, by rw [List.append_nil]; exact p, hr, fun v G' H' n hv => q v G' H' (n1.trans n) hv⟩
theorem evn_call {R : List PyData → List PyData → Prop} (ha : EvA K ta δ ds) (hr : R ds es) : EvN K (tCall (PrN K R) [] E ta) δ es := fun B σ H G F g Q q =>
  ha B σ H G F g _ fun vs G1 H1 n1 p => ⟨G1, ds, es, n1.s, by rw [List.append_nil]; exact p, hr, fun p us G' H' n h1 h2 h3 h4 => q p us G' H' (n1.trans n) h1 (n1.h.free h2) h3 h4⟩
/-- with arguments that may be read now, a scalar handed back -/
theorem evd_callR {R : List PyData → PyData → Prop} {x : V} (ha : EvAR K ta δ ds) (hr : R ds d) (hs : sv d = some x) : EvD K (tCall (Pr K R) [] E ta) δ d := fun B σ H G F g Q q =>
  ha B σ H G F g _ fun vs G1 H1 n1 p => ⟨H1, ds, d, Same.refl _, by rw [List.append_nil]; exact p, hr, fun v G' H' n hv =>
    q v G1 H' (n1.trans ⟨Same.refl _, n.h, n1.s.trans n.h, fun _ h _ => h⟩) (sv_dp hv hs).2⟩
end
section
variable {P : Program} {w : World} {K : PySem.W.Frag} {mg : Str → Option Value} {base : Heap} {x qual : Str} {st : Stmt} {f : Addr} {fd : FuncData} {N ps : List Str} {k : Nat} {t : TS}
/-- a def's promise, from its body's reading -/
theorem ok_pr {R : List PyData → PyData → Prop} (F : Fun K x qual st f fd) (S : FnScope N ps (defScope st)) (len : ∀ ds d, R ds d → ds.length = ps.length)
    (hd : ∀ (cdv : Value) (A : Around) (outer : List Env) (s : Shared) (H : Hp) (E : XK), Room k (A.deeper (PyProof.Rows.envOfC qual (defScope st) s.heap.objs.size f cdv)) → PSs (cxOf CX0 P w K mg base N qual (defScope st) f cdv A outer s H E).nox (defBody st) t)
    (run : ∀ ds d, R ds d → ∀ B D, RtD K B D d → (d = .none → ∀ δ, Nx K B D δ) → RunS K B t D (ds.map Sl.d ++ List.replicate (N.length - ds.length) Sl.no)) : FnOk P w K mg base CX0 (k + 1) f fd ps (Pr K R) := by
  refine F.ok S (fun vs H Q E h => ?_) (fun cdv A outer s H vs Q E hr h => ⟨t, hd cdv A outer s H E hr, ?_⟩)
  · obtain ⟨G, ds, d, _, p, r, _⟩ := h
    rw [dpAll_len p]; exact len ds d r
  · obtain ⟨G, ds, d, s0, p, r, q⟩ := h
    refine run ds d r ⟨G, G, H⟩ _ (fun v G' H' n hv => q v G' H' n hv) (fun e δ σ' H' g => ?_) _ _ (good_start s0 p)
    obtain ⟨G', F', g⟩ := g
    subst e
    exact q .non G' H' g.nu .non
theorem ok_prN {R : List PyData → List PyData → Prop} (F : Fun K x qual st f fd) (S : FnScope N ps (defScope st)) (len : ∀ ds d, R ds d → ds.length = ps.length)
    (hd : ∀ (cdv : Value) (A : Around) (outer : List Env) (s : Shared) (H : Hp) (E : XK), Room k (A.deeper (PyProof.Rows.envOfC qual (defScope st) s.heap.objs.size f cdv)) → PSs (cxOf CX0 P w K mg base N qual (defScope st) f cdv A outer s H E).nox (defBody st) t)
    (run : ∀ ds d, R ds d → ∀ B D, RtN K B D d → RunS K B t D (ds.map Sl.d ++ List.replicate (N.length - ds.length) Sl.no)) : FnOk P w K mg base CX0 (k + 1) f fd ps (PrN K R) := by
  refine F.ok S (fun vs H Q E h => ?_) (fun cdv A outer s H vs Q E hr h => ⟨t, hd cdv A outer s H E hr, ?_⟩)
  · obtain ⟨G, ds, d, _, p, r, _⟩ := h
    rw [dpAll_len p]; exact len ds d r
  · obtain ⟨G, ds, d, s0, p, r, q⟩ := h
    exact run ds d r ⟨G, G, H⟩ _ (fun p us G' H' n h1 h2 h3 h4 => q p us G' H' n h1 h2 h3 h4) _ _ (good_start s0 p)
end
end Ph

set_option Elab.async false
set_option linter.all false
set_option maxRecDepth 100000
set_option maxHeartbeats 2000000
namespace Ph
open PySem PySem.Spec L2

/-! ### what derivations lean on -/
/-- the built-ins that the text uses stand as they are -/
structure Blt (mg : Str → Option Value) : Prop where
  len : mg "len" = none
  range : mg "range" = none
  zip : mg "zip" = none
  enumerate : mg "enumerate" = none
  reversed : mg "reversed" = none
  isinstance : mg "isinstance" = none
  abs : mg "abs" = none
  min : mg "min" = none
  max : mg "max" = none
  sum : mg "sum" = none
  any : mg "any" = none
  all : mg "all" = none
  list : mg "list" = none
  sorted : mg "sorted" = none
  set : mg "set" = none
  int : mg "int" = none
  bool : mg "bool" = none
  tuple : mg "tuple" = none
structure Cl (P : Program) (w : World) (K : PySem.W.Frag) (mg : Str → Option Value) (base : Heap) (k : Nat) (x : Str) (sp : Sp) : Prop where
  ex : ∃ (f : Addr) (fd : FuncData) (ps : List Str), FnOk P w K mg base CX0 k f fd ps sp ∧ mg x = some (.ref f) ∧ PySem.W.keepIn K (.ref f) = true ∧ Binds K fd ps []
theorem pc {X : Cx} {k j : Nat} {x : Str} {sp : Sp} {p pos : Pos} {e : Expr} {es : List Expr} {t : TA} (c : Cl X.prog X.w X.K X.mg X.base k x sp) (hr : Room j X.A) (hk : k ≤ j) (hg : Gl X x) (ha : PA X (e :: es) t)
    (hdb : (x == ("__debug__" : Str)) = false := by decide) (he : starEach (e :: es) X.env = (false, eval e X.env) :: starEach es X.env := by rfl) (hpl : (backTo pos (starEach es X.env)).any (·.1) = false := by rfl) :
    PE X (.Call (.Name x p) (e :: es) [] pos) (tCall sp [] E0 t) := by
  obtain ⟨f, fd, ps, F, hm, kp, b⟩ := c.ex
  exact pe_call F (hr.mono hk) hg hm kp b .nil pass0 ha hdb he hpl
theorem cl_of {P : Program} {w : World} {K : PySem.W.Frag} {mg : Str → Option Value} {base : Heap} {k : Nat} {x : Str} {sp : Sp} {f : Addr} {fd : FuncData} {ps : List Str} (F : FnOk P w K mg base CX0 k f fd ps sp) (g : mg x = some (.ref f)) (kp : PySem.W.keepIn K (.ref f) = true) (b : Binds K fd ps []) : Cl P w K mg base k x sp := ⟨f, fd, ps, F, g, kp, b⟩
section
variable {X : Cx}
theorem p_add : OpR X (binaryOp .Add) oAdd := op_add
theorem p_sub : OpR X (binaryOp .Sub) oSub := op_sub
theorem p_mul : OpR X (binaryOp .Mult) oMul := op_mul
theorem p_mulW : OpR X (binaryOp .Mult) oMulW := op_mulW
theorem p_div : OpR X (binaryOp .FloorDiv) oDiv := op_fdiv
theorem p_mod : OpR X (binaryOp .Mod) oMod := op_mod
theorem p_pow : OpR X (binaryOp .Pow) oPow := op_pow
theorem p_lt : OpR X (compareOp .Lt) oLt := op_lt
theorem p_le : OpR X (compareOp .LtE) oLe := op_le
theorem p_gt : OpR X (compareOp .Gt) oGt := op_gt
theorem p_ge : OpR X (compareOp .GtE) oGe := op_ge
theorem p_eqI : OpR X (compareOp .Eq) oEqI := op_eq
theorem p_neI : OpR X (compareOp .NotEq) oNeI := op_ne
theorem p_isB : OpR X (compareOp .Is) oIsB := op_isBl
theorem p_notB : OpR X (compareOp .IsNot) oNotB := op_notBl
theorem p_neg : UnR X (unaryOp .USub) oNeg := un_neg
theorem p_eqD (hu : X.A.units + 64 < cLine) : OpR X (compareOp .Eq) (oEqD X.K) := op_eqD hu
theorem p_neD (hu : X.A.units + 64 < cLine) : OpR X (compareOp .NotEq) (oNeD X.K) := op_neD hu
theorem p_cat : OpR X (binaryOp .Add) oCat := op_cat
theorem p_ix : IxR X (oIx X.K) := ix_list
theorem p_ixT : IxR X (oIxT X.K) := ix_tup
theorem p_sl : SlR X (oSl X.K) := sl_list
theorem q_len : CallR X (.builtin "len") (cLen X.K) := call_len_seq
theorem q_abs : CallR X (.builtin "abs") cAbs := call_abs
theorem q_min2 (hc : X.calm = true) : CallR X (.builtin "min") cMin2 := call_min2 hc
theorem q_max2 (hc : X.calm = true) : CallR X (.builtin "max") cMax2 := call_max2 hc
theorem q_sum (hc : X.calm = true) : CallR X (.builtin "sum") (cSum X.K) := cr_sum hc
theorem q_min (hc : X.calm = true) : CallR X (.builtin "min") (cMin X.K) := cr_min hc
theorem q_any (hc : X.calm = true) : CallR X (.builtin "any") (cAny X.K) := cr_any hc
theorem q_all (hc : X.calm = true) : CallR X (.builtin "all") (cAll X.K) := cr_all hc
theorem q_list : CallR X (.type "list") (cList X.K) := call_list_of
theorem q_isi : CallR X (.builtin "isinstance") (cIsi X.K) := call_isi
end
end Ph

set_option Elab.async false
set_option linter.all false
set_option maxRecDepth 100000
set_option maxHeartbeats 2000000
namespace Ph
open PySem PySem.Spec L2
/-! ### data of one's own kinds -/
abbrev eInts (ns : List Int) : PyData := .list (ns.map PyData.int)
abbrev eHs (h : Int × Int) : PyData := .tuple [.int h.1, .int h.2]
abbrev eRoad (ps : List (Int × Int)) : PyData := .list (ps.map eHs)
abbrev eRow (t : List (Int × Int)) : PyData := .list (t.map eHs)
abbrev eTab (t : List (List (Int × Int))) : PyData := .list (t.map eRow)
section
variable {K : PySem.W.Frag} {δ : List Sl} {ta tb tc te : TE} {i j k : Int} {ds : List PyData} {d : PyData}
theorem atI_nn {α : Type} [Inhabited α] {xs : List α} {en : α → PyData} (h0 : 0 ≤ i) (h1 : i < xs.length) : atI (xs.map en) i = some (en (xs.getD i.toNat default)) := by
  have hl : i.toNat < xs.length := by omega
  unfold atI ixN
  rw [if_pos h0, List.length_map, if_pos h1]
  show (xs.map en)[i.toNat]? = _
  rw [List.getElem?_map, List.getElem?_eq_getElem hl, List.getD_eq_getElem?_getD, List.getElem?_eq_getElem hl]
  rfl
theorem evd_ixm {α : Type} [Inhabited α] {xs : List α} {en : α → PyData} (ha : EvL K ta δ (xs.map en)) (hb : EvD K tb δ (.int i)) (h0 : 0 ≤ i) (h1 : i < xs.length) : EvD K (tOp (oIx K) ta tb) δ (en (xs.getD i.toNat default)) :=
  evd_ix ha hb (atI_nn h0 h1)
/-- xs[-1] -/
theorem evd_ixl {α : Type} [Inhabited α] {xs : List α} {en : α → PyData} (ha : EvL K ta δ (xs.map en)) (h1 : xs ≠ []) : EvD K (tOp (oIx K) ta (tUn oNeg (tC (.int 1)))) δ (en (xs.getD (xs.length - 1) default)) :=
  evd_ix ha (evd_neg evd_int) (by
    have hp : 0 < xs.length := List.length_pos_iff.mpr h1
    unfold atI ixN
    rw [if_neg (by omega), List.length_map, if_pos (by omega)]
    have e : (-1 + (xs.length : Int)).toNat = xs.length - 1 := by omega
    rw [e]
    show (xs.map en)[xs.length - 1]? = _
    have hl : xs.length - 1 < xs.length := by omega
    rw [List.getElem?_map, List.getElem?_eq_getElem hl, List.getD_eq_getElem?_getD, List.getElem?_eq_getElem hl]
    rfl)
theorem evd_ixt {n : Nat} (ha : EvD K ta δ (.tuple ds)) (hb : EvD K tb δ (.int (n : Int))) (hi : ds[n]? = some d) : EvD K (tOp (oIxT K) ta tb) δ d :=
  evd_ixT ha hb (atI_nat hi)
theorem evd_ixt0 {e : PyData} {ds : List PyData} (ha : EvD K ta δ (.tuple (e :: ds))) : EvD K (tOp (oIxT K) ta (tC (.int 0))) δ e := evd_ixT ha evd_int (atI_nat (j := 0) rfl)
theorem evd_ixt1 {e f : PyData} {ds : List PyData} (ha : EvD K ta δ (.tuple (e :: f :: ds))) : EvD K (tOp (oIxT K) ta (tC (.int 1))) δ f := evd_ixT ha evd_int (atI_nat (j := 1) rfl)
theorem evd_lenm {α : Type} {xs : List α} {en : α → PyData} (ha : EvL K ta δ (xs.map en)) : EvD K (tCB (cLen K) (tCons ta tNil)) δ (.int xs.length) := by
  have h := evd_len ha
  rw [List.length_map] at h
  exact h
theorem evd_ltlt (ha : EvD K ta δ (.int i)) (hb : EvD K tb δ (.int j)) (hc : EvD K tc δ (.int k)) : EvD K (tChain oLt oLt ta tb tc) δ (.bool (decide (i < j) && decide (j < k))) := evd_chain (f1 := fun i j => decide (i < j)) (f2 := fun i j => decide (i < j)) ha hb hc
theorem evd_lelt (ha : EvD K ta δ (.int i)) (hb : EvD K tb δ (.int j)) (hc : EvD K tc δ (.int k)) : EvD K (tChain oLe oLt ta tb tc) δ (.bool (decide (i ≤ j) && decide (j < k))) := evd_chain (f1 := fun i j => decide (i ≤ j)) (f2 := fun i j => decide (i < j)) ha hb hc
theorem evd_lele (ha : EvD K ta δ (.int i)) (hb : EvD K tb δ (.int j)) (hc : EvD K tc δ (.int k)) : EvD K (tChain oLe oLe ta tb tc) δ (.bool (decide (i ≤ j) && decide (j ≤ k))) := evd_chain (f1 := fun i j => decide (i ≤ j)) (f2 := fun i j => decide (i ≤ j)) ha hb hc
/-- the value as a natural distance -/
theorem evd_absN (ha : EvD K ta δ (.int i)) : EvD K (tCB cAbs (tCons ta tNil)) δ (.int (i.natAbs : Int)) := by
  have h := evd_abs ha
  have e : (if i < 0 then -i else i) = (i.natAbs : Int) := by split <;> omega
  rw [e] at h
  exact h
end
/-- data without texts, n deep at most -/
def Shp (n : Nat) (d : PyData) : Prop := d.canLay0 = true ∧ d.depth ≤ n
theorem shp_int {n : Nat} (i : Int) : Shp n (.int i) := ⟨rfl, Nat.zero_le _⟩
theorem shp_bool {n : Nat} (b : Bool) : Shp n (.bool b) := ⟨rfl, Nat.zero_le _⟩
theorem shp_all {n : Nat} : ∀ {ds : List PyData}, (∀ d ∈ ds, Shp n d) → PyData.canLayAll0 ds = true ∧ PyData.depthAll ds ≤ n
  | [], _ => ⟨rfl, Nat.zero_le _⟩
  | d :: ds, h => by
    obtain ⟨h1, h2⟩ := shp_all (ds := ds) fun x hx => h x (List.mem_cons_of_mem _ hx)
    obtain ⟨h3, h4⟩ := h d List.mem_cons_self
    refine ⟨?_, ?_⟩
    · show (PyData.canLay0 d && PyData.canLayAll0 ds) = true
      rw [h1, h3]; rfl
    · show max (PyData.depth d) (PyData.depthAll ds) ≤ n
      omega
theorem shp_list {n : Nat} {ds : List PyData} (h : ∀ d ∈ ds, Shp n d) : Shp (n + 1) (.list ds) := by
  obtain ⟨h1, h2⟩ := shp_all h
  exact ⟨h1, Nat.succ_le_succ h2⟩
theorem shp_tup {n : Nat} {ds : List PyData} (h : ∀ d ∈ ds, Shp n d) : Shp (n + 1) (.tuple ds) := by
  obtain ⟨h1, h2⟩ := shp_all h
  exact ⟨h1, Nat.succ_le_succ h2⟩
theorem Shp.ok {n : Nat} {d : PyData} (h : Shp n d) (hn : n ≤ 64) : SeqAt.shaped d = true := by
  unfold SeqAt.shaped
  rw [h.1, decide_eq_true (Nat.le_trans h.2 hn)]; rfl
theorem shp_ints (ns : List Int) : Shp 1 (eInts ns) := shp_list fun d hd => by
  obtain ⟨i, _, rfl⟩ := List.mem_map.mp hd
  exact shp_int i
theorem shp_hs (h : Int × Int) : Shp 1 (eHs h) := shp_tup fun d hd => by
  simp at hd
  rcases hd with rfl | rfl
  · exact shp_int _
  · exact shp_int _
theorem shp_road (ps : List (Int × Int)) : Shp 2 (eRoad ps) := shp_list fun d hd => by
  obtain ⟨i, _, rfl⟩ := List.mem_map.mp hd
  exact shp_hs i
theorem shp_mono {m n : Nat} {d : PyData} (h : Shp m d) (hn : m ≤ n) : Shp n d := ⟨h.1, Nat.le_trans h.2 hn⟩
/-! ### == of data is = -/
theorem eqv_int (i j : Int) : PyData.eqv (.int i) (.int j) = (i == j) := by unfold PyData.eqv; rfl
theorem eqvAll_map {α : Type} {en : α → PyData} (h : ∀ x y, PyData.eqv (en x) (en y) = true ↔ x = y) : ∀ xs ys : List α, PyData.eqvAll (xs.map en) (ys.map en) = true ↔ xs = ys
  | [], [] => by simp [PyData.eqvAll]
  | [], _ :: _ => by simp [PyData.eqvAll]
  | _ :: _, [] => by simp [PyData.eqvAll]
  | x :: xs, y :: ys => by
    have ih := eqvAll_map h xs ys
    simp only [List.map_cons, PyData.eqvAll, Bool.and_eq_true, h, ih, List.cons.injEq]
theorem eqv_ints (xs ys : List Int) : PyData.eqv (eInts xs) (eInts ys) = decide (xs = ys) := by
  have h := eqvAll_map (en := PyData.int) (fun x y => by rw [eqv_int]; exact beq_iff_eq) xs ys
  show PyData.eqvAll _ _ = _
  by_cases e : xs = ys
  · rw [decide_eq_true e]; exact h.mpr e
  · rw [decide_eq_false e]
    cases q : PyData.eqvAll (xs.map PyData.int) (ys.map PyData.int) with
    | false => rfl
    | true => exact absurd (h.mp q) e
theorem eqv_hs (x y : Int × Int) : PyData.eqv (eHs x) (eHs y) = true ↔ x = y := by
  show PyData.eqvAll _ _ = true ↔ _
  simp [PyData.eqvAll, eqv_int, Prod.ext_iff]
theorem eqv_road (xs ys : List (Int × Int)) : PyData.eqv (eRoad xs) (eRoad ys) = decide (xs = ys) := by
  have h := eqvAll_map (en := eHs) eqv_hs xs ys
  show PyData.eqvAll _ _ = _
  by_cases e : xs = ys
  · rw [decide_eq_true e]; exact h.mpr e
  · rw [decide_eq_false e]
    cases q : PyData.eqvAll (xs.map eHs) (ys.map eHs) with
    | false => rfl
    | true => exact absurd (h.mp q) e
end Ph

set_option Elab.async false
set_option linter.all false
set_option maxRecDepth 100000
set_option maxHeartbeats 2000000
namespace Ph
open PySem PySem.Spec L2
section
variable {K : PySem.W.Frag} {δ : List Sl} {ta tb tc te tl : TE} {i j k : Int} {ds es : List PyData} {d : PyData} {wi : TI} {n : Nat} {Y Y' : Nat → PyData} {side : Hp → Hp → Prop}
theorem eqv_nil (ds : List PyData) : PyData.eqv (.list ds) (.list []) = decide (ds = []) := by
  cases ds with
  | nil => rfl
  | cons a r => rfl
theorem evd_eqE (ha : EvR K ta δ (.list ds)) (hs : SeqAt.shaped (.list ds) = true) : EvD K (tOp (oEqD K) ta (tLst tNil)) δ (.bool (decide (ds = []))) := by
  have h := evd_eqD ha (evr_n (evn_lst ea_nil (by decide))) hs (by decide)
  rw [eqv_nil] at h
  exact h
theorem evd_neE (ha : EvR K ta δ (.list ds)) (hs : SeqAt.shaped (.list ds) = true) : EvD K (tOp (oNeD K) ta (tLst tNil)) δ (.bool (!decide (ds = []))) := by
  have h := evd_neD ha (evr_n (evn_lst ea_nil (by decide))) hs (by decide)
  rw [eqv_nil] at h
  exact h
theorem map_nil {α : Type} {en : α → PyData} (xs : List α) : decide (xs.map en = []) = decide (xs = []) := by cases xs <;> rfl
theorem EvI.congr (h : EvI K wi δ n Y side) (e : ∀ i, i < n → Y i = Y' i) : EvI K wi δ n Y' side := fun B σ H G F g R q => h B σ H G F g R fun J G' H' nn w =>
  q J G' H' nn ⟨w.goes, w.stops, fun i H G x H' hi a b c y => by rw [← e i hi]; exact w.yields i H G x H' hi a b c y⟩
theorem getD_map {α : Type} [Inhabited α] {en : α → PyData} {xs : List α} {i : Nat} (h : i < xs.length) : (xs.map en).getD i .none = en (xs.getD i default) := by
  simp [List.getD_eq_getElem?_getD, h]
theorem evi_listm {α : Type} [Inhabited α] {xs : List α} {en : α → PyData} (h : EvD K tl δ (.list (xs.map en))) : EvI K (iList K tl) δ xs.length (fun i => en (xs.getD i default)) noSide := by
  have k := evi_list h
  rw [List.length_map] at k
  exact k.congr fun i hi => getD_map hi
theorem evi_enumm {α : Type} [Inhabited α] {xs : List α} {en : α → PyData} (h : EvD K tl δ (.list (xs.map en))) : EvI K (iEnum K (tCons tl tNil)) δ xs.length (fun i => .tuple [.int (i : Int), en (xs.getD i default)]) noSide := by
  have k := evi_enum h
  rw [List.length_map] at k
  exact k.congr fun i hi => by rw [getD_map hi]
theorem evi_zipm {α β : Type} [Inhabited α] [Inhabited β] {xs : List α} {ys : List β} {en : α → PyData} {eo : β → PyData} (ha : EvD K ta δ (.list (xs.map en))) (hb : EvD K tb δ (.list (ys.map eo))) (hn : xs.length = ys.length) :
    EvI K (iZip K (tCons ta (tCons tb tNil))) δ xs.length (fun i => .tuple [en (xs.getD i default), eo (ys.getD i default)]) noSide :=
  (evi_zip (n := xs.length) ha hb (by rw [List.length_map, List.length_map]; omega)).congr fun i hi => by rw [getD_map hi, getD_map (by omega)]
theorem evi_zipMm {α β : Type} [Inhabited α] [Inhabited β] {xs : List α} {ys : List β} {en : α → PyData} {eo : β → PyData} {p : Addr} {k : Nat} (ha : EvD K ta δ (.list (xs.map en))) (hb : δ[k]? = some (.m p (ys.map eo))) (hn : xs.length = ys.length) :
    EvI K (iZip K (tCons ta (tCons (tVar k) tNil))) δ xs.length (fun i => .tuple [en (xs.getD i default), eo (ys.getD i default)]) (mSide K p (ys.map eo)) :=
  (evi_zipM (n := xs.length) ha hb (by rw [List.length_map, List.length_map]; omega)).congr fun i hi => by rw [getD_map hi, getD_map (by omega)]
end
theorem take_snoc {α : Type} [Inhabited α] (xs : List α) {i : Nat} (h : i < xs.length) : xs.take (i + 1) = xs.take i ++ [xs.getD i default] := by
  rw [List.take_add_one, List.getElem?_eq_getElem h, List.getD_eq_getElem?_getD, List.getElem?_eq_getElem h]
  rfl
theorem getD_mem {α : Type} [Inhabited α] {xs : List α} {i : Nat} (h : i < xs.length) : xs.getD i default ∈ xs := by
  rw [List.getD_eq_getElem?_getD, List.getElem?_eq_getElem h]
  exact List.getElem_mem h
theorem getD_mem0 {xs : List Int} {i : Nat} (h : i < xs.length) : xs.getD i 0 ∈ xs := getD_mem (α := Int) h
theorem getD_mapI {α : Type} [Inhabited α] {f : α → Int} {xs : List α} {i : Nat} (h : i < xs.length) : (xs.map f).getD i 0 = f (xs.getD i default) := by
  simp [List.getD_eq_getElem?_getD, h]
theorem toNat_add1 (k : Nat) : ((k : Int) + 1).toNat = k + 1 := by omega
end Ph

set_option Elab.async false
set_option linter.all false
set_option maxRecDepth 100000
set_option maxHeartbeats 2000000
namespace Ph
open PySem PySem.Spec L2
/-! ### range(0, n, c), as a loop's and as a list's source -/
theorem rgc_pos {n m : Nat} {c : Int} (hc : 1 ≤ c) (hc2 : c ≤ 1000) (hn : n ≤ 1000000) (hm : ((n : Int) + c - 1) / c = (m : Int)) : RgC 0 n c m := by
  have hs : Builtin.Range.rangeSize 0 n c = (m : Int) := (PyProof.Rows.rangeSize_pos hc (by omega)).trans hm
  have hm1 : (m : Int) ≤ n := by
    rw [← hm]
    by_cases h0 : n = 0
    · subst h0
      rw [Int.ediv_eq_zero_of_lt (by omega) (by omega)]
      exact Int.le_refl _
    · have h1 : ((n : Int) - 1) / c ≤ n - 1 := Int.ediv_le_self c (by omega)
      have e : (n : Int) + c - 1 = (n - 1) + 1 * c := by omega
      rw [e, Int.add_mul_ediv_right _ _ (by omega)]
      omega
  have hm0 : (m : Int) * c ≤ 1000000 * 1000 := by
    have a1 : (m : Int) * c ≤ m * 1000 := Int.mul_le_mul_of_nonneg_left hc2 (by omega)
    omega
  have hm2 : 0 ≤ (m : Int) * c := Int.mul_nonneg (by omega) (by omega)
  refine ⟨by omega, by omega, ?_, hs⟩
  unfold Builtin.Range.small
  rw [hs]
  simp only [Builtin.Range.rangeFitsLong, Bool.and_eq_true, Bool.or_eq_true, decide_eq_true_eq, beq_iff_eq]
  have hc0 : c > 0 := by omega
  simp only [hc0, if_true, Bool.and_eq_true, decide_eq_true_eq]
  omega
section
open PyProof.Rows
variable {X : Cx} {a b c : Expr} {ta tb tc : TE}
def PRg3 (X : Cx) (e : Expr) (t : L2.St → Hp → (Int → Int → Int → Hp → Prop) → Prop) : Prop :=
  ∀ (pins : List (Addr × Obj)) (s : Shared) (σ : L2.St) (H : Hp) (Q : Int → Int → Int → Hp → Prop), L2.Inv X pins σ H s → t σ H Q →
    wpAny (model X.prog X.w) X.A (eval e X.env) (fun x s' => ∃ r a b c t u v H', x = .ref r ∧ PySem.IsRange s'.heap r a b c t u v ∧ L2.Inv X pins σ H' s' ∧ Q a b c H') X.xe s
/-- list(range(a, b, c)) -/
def tRg3 (ta tb tc : TE) : L2.St → Hp → (Int → Int → Int → Hp → Prop) → Prop := fun σ H Q => ta σ H fun x H1 => tb σ H1 fun y H2 => tc σ H2 fun z H3 => ∃ i j k, x = .int i ∧ y = .int j ∧ z = .int k ∧ (k ≠ 0 ∧ k.natAbs < 1073741824) ∧ Q i j k H3
def tLstRg3 (te : L2.St → Hp → (Int → Int → Int → Hp → Prop) → Prop) : TE := fun σ H Q => te σ H fun a b c H1 => ∃ n, RgC a b c n ∧ n ≤ 1000000 ∧ ∀ q, H1 q = none → Q (.ref q) (upd H1 q (.lst ((List.range n).map fun (i : Nat) => V.int (a + (i : Int) * c))))
theorem prg_3 {p pos : Pos} (hg : Gl X "range") (hm : X.mg "range" = none) (ha : PE X a ta) (hb : PE X b tb) (hc : PE X c tc) (na : starEach [a, b, c] X.env = (false, eval a X.env) :: starEach [b, c] X.env := by rfl)
    (nb : starEach [b, c] X.env = (false, eval b X.env) :: starEach [c] X.env := by rfl) (nc : starEach [c] X.env = (false, eval c X.env) :: starEach [] X.env := by rfl)
    (hp : (backTo pos (starEach [b, c] X.env)).any (·.1) = false := by rfl) (hp2 : (backTo pos (starEach [c] X.env)).any (·.1) = false := by rfl) : PRg3 X (.Call (.Name "range" p) [a, b, c] [] pos) (tRg3 ta tb tc) := by
  intro pins s σ H Q I h
  refine PyProof.Rows.Call_ (ld_blt I hg hm PyProof.Rows.boot_range (PyProof.Rows.callWith_type1 (args_cons (thn (ha.run pins s σ H _ I h) fun v s1 ⟨x, H1, I1, r1, q1⟩ => args_cons (thn (hb.run pins s1 σ H1 _ I1 q1) fun u s2 ⟨y, H2, I2, r2, q2⟩ => one_arg hc I2 q2 (fun t s3 z H3 I3 r3 q => ?_) nc) nb) na) na hp))
  obtain ⟨i, j, k, rfl, rfl, rfl, ⟨c0, c1⟩, q⟩ := q
  obtain ⟨t, rfl⟩ := r1
  obtain ⟨t', rfl⟩ := r2
  obtain ⟨t'', rfl⟩ := r3
  exact call_range_3 c0 ⟨_, i, j, k, _, _, _, H3, rfl, IsRange.new _ _ _ _ _ _ _, I3.kept fun b u e => Heap.get?_push_of_some _ e, q⟩ (.inl (PyProof.noPylong_small c1))
theorem pe_listRg3 {e : Expr} {te : L2.St → Hp → (Int → Int → Int → Hp → Prop) → Prop} {p pos : Pos} (hc : X.calm = true) (hg : Gl X "list") (hm : X.mg "list" = none) (he : PRg3 X e te)
    (na : starEach [e] X.env = (false, eval e X.env) :: starEach [] X.env := by rfl) : PE X (.Call (.Name "list" p) [e] [] pos) (tLstRg3 te) := by
  refine ⟨fun pins s σ H Q I h => ?_⟩
  refine PyProof.Rows.Call_ (ld_blt I hg hm boot_list (PyProof.Rows.callWith_type1 (args_cons (thn (he pins s σ H _ I h) fun x s1 ⟨r, a, b, c, t, u, v, H1, ex, hr, I1, n, ok, hn, q⟩ => args_nil ?_) na) na))
  subst ex
  obtain ⟨c0, c1, c2, c3⟩ := ok
  refine call_list_range (n := n) (I1.ok.hd hc) hr c2 c3 (by omega) fun h' tk acc c' hk e' hi => ?_
  have el : acc.toList.length = n := by rw [Array.length_toList]; exact hi.1
  refine ⟨.ref s1.heap.objs.size, upd H1 s1.heap.objs.size (.lst ((List.range n).map fun (i : Nat) => V.int (a + (i : Int) * c))), I1.laid hk (Nat.le_refl _) (show ObjOk X.prog X.w _ _ _ (.lst _) from ⟨?_, acc.toList, c', ?_, ?_⟩), rfl, q _ (I1.hok.fresh (Nat.le_refl _))⟩
  · rw [List.length_map, List.length_range, sizeLine_eq]; omega
  · rw [← el]
    refine vals_of_get acc.toList _ fun j u hj => ?_
    obtain ⟨t, rfl⟩ := hi.2 j u (by rw [← hj, Array.getElem?_toList])
    exact ⟨t, rfl⟩
  · rw [Array.toArray_toList]; exact e'
end
section
variable {K : PySem.W.Frag} {δ : List Sl} {ta tb tc : TE} {i j k : Int} {n m : Nat}
theorem evn_listRg (ha : EvD K ta δ (.int (n : Int))) (hn : n ≤ 1000000) : EvN K (tLstRg (tRg1 ta)) δ ((List.range n).map fun (i : Nat) => PyData.int (i : Int)) := fun B σ H G F g Q q =>
  ha B σ H G F g _ fun x G1 H1 n1 p => by
    cases p
    refine ⟨(n : Int), rfl, ⟨by omega, by omega, by omega, by omega, by omega⟩, fun l hl => ?_⟩
    refine q l _ G1 _ (n1.trans (Nu.laid n1.s hl)) (n1.s.free hl) (n1.h.free hl) upd_same ?_
    have e : rgV 0 (n : Int) = ((List.range n).map fun (i : Nat) => (i : Int)).map V.int := by
      unfold rgV
      rw [Int.sub_zero, Int.toNat_natCast, List.map_map]
      refine List.map_congr_left fun i _ => ?_
      simp
    have e2 : ((List.range n).map fun (i : Nat) => PyData.int (i : Int)) = ((List.range n).map fun (i : Nat) => (i : Int)).map PyData.int := by rw [List.map_map]; rfl
    rw [e, e2]
    exact ints_dpAll _
theorem evn_listRg3 {c : Int} (ha : EvD K ta δ (.int i)) (hb : EvD K tb δ (.int j)) (hc : EvD K tc δ (.int c)) (ok : RgC i j c n) (hn : n ≤ 1000000) : EvN K (tLstRg3 (tRg3 ta tb tc)) δ ((List.range n).map fun (k : Nat) => PyData.int (i + (k : Int) * c)) := fun B σ H G F g Q q =>
  ha B σ H G F g _ fun v G1 H1 n1 p => hb B σ H1 G1 F (g.up n1) _ fun w G2 H2 n2 p2 => hc B σ H2 G2 F ((g.up n1).up n2) _ fun z G3 H3 n3 p3 => by
    cases p; cases p2; cases p3
    have nn := (n1.trans n2).trans n3
    refine ⟨i, j, c, rfl, rfl, rfl, ⟨ok.1, ok.2.1⟩, n, ok, hn, fun l hl => ?_⟩
    refine q l _ G3 _ (nn.trans (Nu.laid nn.s hl)) (nn.s.free hl) (nn.h.free hl) upd_same ?_
    have e : ((List.range n).map fun (k : Nat) => V.int (i + (k : Int) * c)) = ((List.range n).map fun (k : Nat) => (i + (k : Int) * c)).map V.int := by rw [List.map_map]; rfl
    have e2 : ((List.range n).map fun (k : Nat) => PyData.int (i + (k : Int) * c)) = ((List.range n).map fun (k : Nat) => (i + (k : Int) * c)).map PyData.int := by rw [List.map_map]; rfl
    rw [e, e2]
    exact ints_dpAll _
end
end Ph

set_option Elab.async false
set_option linter.all false
set_option maxRecDepth 100000
set_option maxHeartbeats 2000000
namespace Ph
/-! ### nearest posts: the mathematics -/
/-- the place of a house told by a count -/
def pl (road : List (Int × Int)) (p : Int) : Int := (road.getD p.toNat default).1
/-- the pointer moves on while the next post is nearer -/
def adv (q : List Int) (x : Int) (a : Nat) : Nat :=
  if a + 1 < q.length ∧ (q.getD (a + 1) 0 - x).natAbs < (q.getD a 0 - x).natAbs then adv q x (a + 1) else a
termination_by q.length - a
theorem adv_go {q : List Int} {x : Int} {a : Nat} (h : a + 1 < q.length ∧ (q.getD (a + 1) 0 - x).natAbs < (q.getD a 0 - x).natAbs) : adv q x a = adv q x (a + 1) := by
  rw [adv, if_pos h]
theorem adv_stop {q : List Int} {x : Int} {a : Nat} (h : ¬ (a + 1 < q.length ∧ (q.getD (a + 1) 0 - x).natAbs < (q.getD a 0 - x).natAbs)) : adv q x a = a := by
  rw [adv, if_neg h]
theorem adv_ge (q : List Int) (x : Int) (a : Nat) : a ≤ adv q x a := by
  by_cases h : a + 1 < q.length ∧ (q.getD (a + 1) 0 - x).natAbs < (q.getD a 0 - x).natAbs
  · rw [adv_go h]
    exact Nat.le_trans (Nat.le_succ a) (adv_ge q x (a + 1))
  · rw [adv_stop h]
    exact Nat.le_refl _
termination_by q.length - a
theorem adv_lt (q : List Int) (x : Int) (a : Nat) (ha : a < q.length) : adv q x a < q.length := by
  by_cases h : a + 1 < q.length ∧ (q.getD (a + 1) 0 - x).natAbs < (q.getD a 0 - x).natAbs
  · rw [adv_go h]
    exact adv_lt q x (a + 1) h.1
  · rw [adv_stop h]
    exact ha
termination_by q.length - a
theorem adv_next (q : List Int) (x : Int) (a : Nat) (h1 : adv q x a + 1 < q.length) : (q.getD (adv q x a) 0 - x).natAbs ≤ (q.getD (adv q x a + 1) 0 - x).natAbs := by
  by_cases h : a + 1 < q.length ∧ (q.getD (a + 1) 0 - x).natAbs < (q.getD a 0 - x).natAbs
  · rw [adv_go h] at h1 ⊢
    exact adv_next q x (a + 1) h1
  · rw [adv_stop h] at h1 ⊢
    exact Nat.le_of_not_lt fun z => h ⟨h1, z⟩
termination_by q.length - a
/-- pointers behind the houses xs -/
def ptrs (q : List Int) : List Int → Nat → List Nat
  | [], _ => []
  | x :: xs, a => adv q x a :: ptrs q xs (adv q x a)
def ptr (q : List Int) (xs : List Int) (a : Nat) : Nat := xs.foldl (fun a x => adv q x a) a
theorem ptrs_snoc (q : List Int) (x : Int) : ∀ (xs : List Int) (a : Nat), ptrs q (xs ++ [x]) a = ptrs q xs a ++ [adv q x (ptr q xs a)]
  | [], _ => rfl
  | y :: xs, a => by
    show adv q y a :: ptrs q (xs ++ [x]) (adv q y a) = _
    rw [ptrs_snoc q x xs]
    rfl
theorem ptr_snoc (q : List Int) (x : Int) (xs : List Int) (a : Nat) : ptr q (xs ++ [x]) a = adv q x (ptr q xs a) := by
  unfold ptr
  rw [List.foldl_append]
  rfl
theorem ptrs_length (q : List Int) : ∀ (xs : List Int) (a : Nat), (ptrs q xs a).length = xs.length
  | [], _ => rfl
  | y :: xs, a => congrArg (· + 1) (ptrs_length q xs _)
theorem ptr_lt {q : List Int} : ∀ (xs : List Int) (a : Nat), a < q.length → ptr q xs a < q.length
  | [], _, h => h
  | x :: xs, a, h => ptr_lt xs (adv q x a) (adv_lt q x a h)
theorem ptrs_lt {q : List Int} : ∀ (xs : List Int) (a : Nat), a < q.length → ∀ p ∈ ptrs q xs a, p < q.length
  | [], _, _, _, hp => nomatch hp
  | x :: xs, a, h, p, hp => by
    rcases List.mem_cons.mp hp with e | hp
    · rw [e]; exact adv_lt q x a h
    · exact ptrs_lt xs _ (adv_lt q x a h) p hp
/-- the i-th pointer -/
theorem ptrs_get (q : List Int) (xs : List Int) (a : Nat) (i : Nat) (hi : i < xs.length) : (ptrs q xs a)[i]? = some (adv q (xs.getD i 0) (ptr q (xs.take i) a)) := by
  induction xs generalizing a i with
  | nil => simp at hi
  | cons y xs ih =>
    cases i with
    | zero => rfl
    | succ i =>
      show (ptrs q xs (adv q y a))[i]? = _
      rw [ih _ _ (by simpa using hi)]
      rfl
/-- the posts' places rise: what lies behind the pointer is no nearer, for all houses to come -/
theorem adv_prev {q : List Int} (hq : ∀ i j, i < j → j < q.length → q.getD i 0 < q.getD j 0) {x y : Int} (hxy : x ≤ y) (a : Nat) (ha : a < q.length)
    (hp : 0 < a → 2 * x > q.getD (a - 1) 0 + q.getD a 0) : 0 < adv q x a → 2 * y > q.getD (adv q x a - 1) 0 + q.getD (adv q x a) 0 := by
  by_cases h : a + 1 < q.length ∧ (q.getD (a + 1) 0 - x).natAbs < (q.getD a 0 - x).natAbs
  · rw [adv_go h]
    refine adv_prev hq hxy (a + 1) h.1 fun _ => ?_
    have h1 := hq a (a + 1) (by omega) h.1
    have h2 := h.2
    show 2 * x > q.getD a 0 + q.getD (a + 1) 0
    omega
  · rw [adv_stop h]
    intro h0
    have := hp h0
    omega
termination_by q.length - a
end Ph

set_option Elab.async false
set_option linter.all false
set_option maxRecDepth 100000
set_option maxHeartbeats 2000000
namespace Ph
open PySem PySem.Spec L2
/-! ### what each def gives -/
def isNum : PyData → Bool
  | .int _ => true
  | _ => false
def isHouse : PyData → Bool
  | .tuple [.int _, .int l] => decide (0 ≤ l)
  | _ => false
/-- a road: the places rise, the letters are no less than nought; sizes -/
structure RoadOk (r : List (Int × Int)) : Prop where
  rise : ∀ i, i + 1 < r.length → (r.getD i default).1 < (r.getD (i + 1) default).1
  let0 : ∀ h ∈ r, 0 ≤ h.2
  len : r.length ≤ 1000
  big : ∀ h ∈ r, h.1.natAbs < 2 ^ 300 ∧ h.2.natAbs < 2 ^ 300
def risingB (n : Int) : Int → List Int → Bool
  | _, [] => true
  | last, p :: ps => decide (last < p) && decide (p < n) && risingB n p ps
def arePosts (n : Nat) (ps : List Int) : Bool := risingB n (-1) ps && (!decide (ps = []) || decide (n = 0))
/-- the nearest posts, house by house -/
def nearL (r : List (Int × Int)) (ps : List Int) : List Int := (ptrs (ps.map (pl r)) (r.map (·.1)) 0).map fun a => ps.getD a 0
def wayT (r : List (Int × Int)) (x : (Int × Int) × Int) : Int := x.1.2 * ((x.1.1 - pl r x.2).natAbs : Int)
def wayL (r : List (Int × Int)) (ps : List Int) : Int := ((r.zip (nearL r ps)).map (wayT r)).sum
/-! ### posts -/
theorem risingB_iff (n : Int) : ∀ (xs : List Int) (last : Int), risingB n last xs = true → (∀ i, i < xs.length → last < xs.getD i 0 ∧ xs.getD i 0 < n) ∧ ∀ i j, i < j → j < xs.length → xs.getD i 0 < xs.getD j 0
  | [], _, _ => ⟨fun i h => absurd h (by simp), fun i j _ h => absurd h (by simp)⟩
  | x :: xs, last, h => by
    have h : (decide (last < x) && decide (x < n) && risingB n x xs) = true := h
    simp only [Bool.and_eq_true, decide_eq_true_eq] at h
    obtain ⟨⟨h1, h2⟩, h3⟩ := h
    obtain ⟨k1, k2⟩ := risingB_iff n xs x h3
    refine ⟨fun i hi => ?_, fun i j hij hj => ?_⟩
    · cases i with
      | zero => exact ⟨h1, h2⟩
      | succ i =>
        have := k1 i (by simpa using hi)
        exact ⟨Int.lt_trans h1 this.1, this.2⟩
    · cases j with
      | zero => omega
      | succ j =>
        have hj' : j < xs.length := by simpa using hj
        cases i with
        | zero => exact (k1 j hj').1
        | succ i => exact k2 i j (by omega) hj'
/-- what are_posts says -/
structure PostsOk (n : Nat) (ps : List Int) : Prop where
  bnd : ∀ i, i < ps.length → 0 ≤ ps.getD i 0 ∧ ps.getD i 0 < n
  rise : ∀ i j, i < j → j < ps.length → ps.getD i 0 < ps.getD j 0
  some : 0 < n → 0 < ps.length
theorem postsOk {n : Nat} {ps : List Int} (h : arePosts n ps = true) : PostsOk n ps := by
  unfold arePosts at h
  simp only [Bool.and_eq_true, Bool.or_eq_true, Bool.not_eq_true', decide_eq_false_iff_not, decide_eq_true_eq] at h
  obtain ⟨h1, h2⟩ := h
  obtain ⟨k1, k2⟩ := risingB_iff n ps (-1) h1
  refine ⟨fun i hi => ⟨by have := (k1 i hi).1; omega, (k1 i hi).2⟩, k2, fun hn => ?_⟩
  rcases h2 with h2 | h2
  · exact List.length_pos_iff.mpr h2
  · omega
theorem nearL_length (r : List (Int × Int)) (ps : List Int) : (nearL r ps).length = r.length := by
  unfold nearL
  rw [List.length_map, ptrs_length, List.length_map]
theorem nearL_bnd {r : List (Int × Int)} {ps : List Int} (h : PostsOk r.length ps) {i : Nat} (hi : i < r.length) : 0 ≤ (nearL r ps).getD i default ∧ (nearL r ps).getD i default < r.length := by
  have hq : 0 < (ps.map (pl r)).length := by rw [List.length_map]; exact h.some (by omega)
  have e := ptrs_get (ps.map (pl r)) (r.map (·.1)) 0 i (by rw [List.length_map]; exact hi)
  have hl : i < (ptrs (ps.map (pl r)) (r.map (·.1)) 0).length := by rw [ptrs_length, List.length_map]; exact hi
  have hm := ptrs_lt (r.map (·.1)) 0 hq _ (List.mem_of_getElem? e)
  rw [List.length_map] at hm
  have e2 : (nearL r ps).getD i default = ps.getD (adv (ps.map (pl r)) ((r.map (·.1)).getD i 0) (ptr (ps.map (pl r)) ((r.map (·.1)).take i) 0)) 0 := by
    unfold nearL
    rw [List.getD_eq_getElem?_getD, List.getElem?_map, e]
    rfl
  rw [e2]
  exact h.bnd _ hm
/-! the law's road -/
def lApart (m : Int) : Int := ([3, 40, 1, 10 ^ 20] : List Int).getD (m % 4).toNat 0
def lMost (m : Int) : Int := ([2, 30, 1000, 10 ^ 25] : List Int).getD (m / 4 % 4).toNat 0
def lPlace0 (m : Int) : Int := m / 16 % 41 - 20
/-- the place behind k houses -/
def lPlace (s : List Int) : Nat → Int
  | 0 => lPlace0 s.sum
  | k + 1 => lPlace s k + 1 + s.getD (2 * k) 0 % lApart s.sum
def lLet (s : List Int) (k : Nat) : Int := (if 2 * k + 1 = s.length then (if k = 0 then s.getD (s.length - 1) 0 else s.getD (2 * k - 1) 0) else s.getD (2 * k + 1) 0) % lMost s.sum
def lBase (s : List Int) : List (Int × Int) := (List.range ((s.length + 1) / 2)).map fun k => (lPlace s (k + 1), lLet s k)
def lMany (m : Int) (b : List (Int × Int)) : List (Int × Int) := (List.range (40 + m % 5).toNat).map fun (i : Nat) => (50 * (i : Int) + (b.getD (i % b.length) default).1 % 50, (b.getD (i % b.length) default).2)
def lawRoad (s : List Int) : List (Int × Int) := if s.sum / 64 % 8 = 1 ∧ lBase s ≠ [] then lMany s.sum (lBase s) else lBase s
/-- two hundred houses by a few -/
def lawRoad2 (b : List (Int × Int)) : List (Int × Int) := (List.range 200).map fun (i : Nat) => (9 * (i : Int) + (b.getD (i % b.length) default).1 % 8, (b.getD (i % b.length) default).2)
def lawDrawn (s : List Int) (n : Nat) : List Int := ((List.range n).filter fun (i : Nat) => decide (s.getD i 0 / 7 % 4 = 0)).map fun (i : Nat) => (i : Int)
def lawPosts (s : List Int) (n : Nat) : List Int := if lawDrawn s n ≠ [] ∨ n = 0 then lawDrawn s n else [s.sum % n]
/-! relations -/
def R_is_number : List PyData → PyData → Prop := fun ds d => ∃ x, ds = [x] ∧ d = .bool (isNum x)
def R_is_house : List PyData → PyData → Prop := fun ds d => ∃ x, ds = [x] ∧ d = .bool (isHouse x)
def R_asked_road : List PyData → PyData → Prop := fun ds d => ∃ r, ds = [eRoad r] ∧ RoadOk r ∧ d = .none
def R_are_posts : List PyData → PyData → Prop := fun ds d => ∃ r ps, ds = [eRoad r, eInts ps] ∧ r.length ≤ 1000 ∧ d = .bool (arePosts r.length ps)
def R_asked_posts : List PyData → PyData → Prop := fun ds d => ∃ r ps, ds = [eRoad r, eInts ps] ∧ r.length ≤ 1000 ∧ ps.length ≤ 1000 ∧ arePosts r.length ps = true ∧ d = .none
def R_nearest_of : List PyData → List PyData → Prop := fun ds d => ∃ r ps, ds = [eRoad r, eInts ps] ∧ RoadOk r ∧ arePosts r.length ps = true ∧ d = (nearL r ps).map .int
def R_way_of : List PyData → PyData → Prop := fun ds d => ∃ r ps, ds = [eRoad r, eInts ps] ∧ RoadOk r ∧ arePosts r.length ps = true ∧ d = .int (wayL r ps)
def R_nearest : List PyData → List PyData → Prop := fun ds d => ∃ r ps, ds = [eRoad r, eInts ps] ∧ RoadOk r ∧ arePosts r.length ps = true ∧ ps.length ≤ 1000 ∧ d = (nearL r ps).map .int
def R_way : List PyData → PyData → Prop := fun ds d => ∃ r ps, ds = [eRoad r, eInts ps] ∧ RoadOk r ∧ arePosts r.length ps = true ∧ ps.length ≤ 1000 ∧ d = .int (wayL r ps)
def R_law_road : List PyData → List PyData → Prop := fun ds d => ∃ s, ds = [eInts s] ∧ s.length ≤ 63 ∧ d = (lawRoad s).map eHs
def R_law_numbers : List PyData → PyData → Prop := fun ds d => ∃ ns, ds = [eInts ns] ∧ ns.length ≤ 1000 ∧ d = .bool true
def R_law_posts : List PyData → PyData → Prop := fun ds d => ∃ s n, ds = [eInts s, .int (n : Nat)] ∧ s.length ≤ 63 ∧ n ≤ s.length ∧ d = eInts (lawPosts s n)
/-! promises -/
def sp_is_number (K : PySem.W.Frag) : Sp := Pr K R_is_number
def sp_is_house (K : PySem.W.Frag) : Sp := Pr K R_is_house
def sp_asked_road (K : PySem.W.Frag) : Sp := Pr K R_asked_road
def sp_are_posts (K : PySem.W.Frag) : Sp := Pr K R_are_posts
def sp_asked_posts (K : PySem.W.Frag) : Sp := Pr K R_asked_posts
def sp_nearest_of (K : PySem.W.Frag) : Sp := PrN K R_nearest_of
def sp_way_of (K : PySem.W.Frag) : Sp := Pr K R_way_of
def sp_nearest (K : PySem.W.Frag) : Sp := PrN K R_nearest
def sp_way (K : PySem.W.Frag) : Sp := Pr K R_way
def sp_law_road (K : PySem.W.Frag) : Sp := PrN K R_law_road
def sp_law_numbers (K : PySem.W.Frag) : Sp := Pr K R_law_numbers
def sp_law_posts (K : PySem.W.Frag) : Sp := Pr K R_law_posts
theorem len_is_number : ∀ ds d, R_is_number ds d → ds.length = 1 := by rintro _ _ ⟨_, rfl, _⟩; rfl
theorem len_is_house : ∀ ds d, R_is_house ds d → ds.length = 1 := by rintro _ _ ⟨_, rfl, _⟩; rfl
theorem len_asked_road : ∀ ds d, R_asked_road ds d → ds.length = 1 := by rintro _ _ ⟨_, rfl, _⟩; rfl
theorem len_are_posts : ∀ ds d, R_are_posts ds d → ds.length = 2 := by rintro _ _ ⟨_, _, rfl, _⟩; rfl
theorem len_asked_posts : ∀ ds d, R_asked_posts ds d → ds.length = 2 := by rintro _ _ ⟨_, _, rfl, _⟩; rfl
theorem len_nearest_of : ∀ ds d, R_nearest_of ds d → ds.length = 2 := by rintro _ _ ⟨_, _, rfl, _⟩; rfl
theorem len_way_of : ∀ ds d, R_way_of ds d → ds.length = 2 := by rintro _ _ ⟨_, _, rfl, _⟩; rfl
theorem len_nearest : ∀ ds d, R_nearest ds d → ds.length = 2 := by rintro _ _ ⟨_, _, rfl, _⟩; rfl
theorem len_way : ∀ ds d, R_way ds d → ds.length = 2 := by rintro _ _ ⟨_, _, rfl, _⟩; rfl
theorem len_law_road : ∀ ds d, R_law_road ds d → ds.length = 1 := by rintro _ _ ⟨_, rfl, _⟩; rfl
theorem len_law_numbers : ∀ ds d, R_law_numbers ds d → ds.length = 1 := by rintro _ _ ⟨_, rfl, _⟩; rfl
theorem len_law_posts : ∀ ds d, R_law_posts ds d → ds.length = 2 := by rintro _ _ ⟨_, _, rfl, _⟩; rfl
end Ph

set_option Elab.async false
set_option linter.all false
set_option maxRecDepth 100000
set_option maxHeartbeats 2000000
namespace Ph
/-! ### the law's roads are roads -/
theorem lApart_b (m : Int) : 0 < lApart m ∧ lApart m ≤ 10 ^ 20 := by
  have h1 : 0 ≤ m % 4 := Int.emod_nonneg _ (by decide)
  have h2 : m % 4 < 4 := Int.emod_lt_of_pos _ (by decide)
  have h : m % 4 = 0 ∨ m % 4 = 1 ∨ m % 4 = 2 ∨ m % 4 = 3 := by omega
  unfold lApart
  rcases h with h | h | h | h <;> rw [h] <;> decide
theorem lMost_b (m : Int) : 0 < lMost m ∧ lMost m ≤ 10 ^ 25 := by
  have h1 : 0 ≤ m / 4 % 4 := Int.emod_nonneg _ (by decide)
  have h2 : m / 4 % 4 < 4 := Int.emod_lt_of_pos _ (by decide)
  have h : m / 4 % 4 = 0 ∨ m / 4 % 4 = 1 ∨ m / 4 % 4 = 2 ∨ m / 4 % 4 = 3 := by omega
  unfold lMost
  rcases h with h | h | h | h <;> rw [h] <;> decide
theorem lPlace_b (s : List Int) {A : Nat} (hA : lApart s.sum ≤ (A : Int)) : ∀ k : Nat, (lPlace s k).natAbs ≤ 41 + k * (A + 1)
  | 0 => by
    show (lPlace0 s.sum).natAbs ≤ _
    unfold lPlace0
    have h1 : 0 ≤ s.sum / 16 % 41 := Int.emod_nonneg _ (by decide)
    have h2 : s.sum / 16 % 41 < 41 := Int.emod_lt_of_pos _ (by decide)
    omega
  | k + 1 => by
    have ih := lPlace_b s hA k
    have hb := (lApart_b s.sum).1
    have h1 : 0 ≤ s.getD (2 * k) 0 % lApart s.sum := Int.emod_nonneg _ (by omega)
    have h2 : s.getD (2 * k) 0 % lApart s.sum < lApart s.sum := Int.emod_lt_of_pos _ hb
    show (lPlace s k + 1 + s.getD (2 * k) 0 % lApart s.sum).natAbs ≤ _
    have e : (k + 1) * (A + 1) = k * (A + 1) + (A + 1) := by rw [Nat.add_mul, Nat.one_mul]
    rw [e]
    omega
theorem lBase_length (s : List Int) : (lBase s).length = (s.length + 1) / 2 := by unfold lBase; rw [List.length_map, List.length_range]
theorem lBase_get (s : List Int) {i : Nat} (h : i < (lBase s).length) : (lBase s).getD i default = (lPlace s (i + 1), lLet s i) := by
  have h' : i < (s.length + 1) / 2 := by rw [← lBase_length]; exact h
  unfold lBase
  simp [List.getD_eq_getElem?_getD, h']
theorem mem_getD {α : Type} [Inhabited α] {xs : List α} {x : α} (h : x ∈ xs) : ∃ i, i < xs.length ∧ xs.getD i default = x := by
  obtain ⟨i, hi, e⟩ := List.mem_iff_getElem.mp h
  exact ⟨i, hi, by simp [List.getD_eq_getElem?_getD, hi, e]⟩
theorem lLet_b (s : List Int) (i : Nat) : 0 ≤ lLet s i ∧ lLet s i < 10 ^ 25 := by
  have hb := lMost_b s.sum
  unfold lLet
  refine ⟨Int.emod_nonneg _ (by omega), Int.lt_of_lt_of_le (Int.emod_lt_of_pos _ hb.1) hb.2⟩
theorem roadOk_base {s : List Int} (hs : s.length ≤ 63) : RoadOk (lBase s) := by
  have hl := lBase_length s
  refine ⟨fun i hi => ?_, fun h hh => ?_, by omega, fun h hh => ?_⟩
  · rw [lBase_get s (by omega), lBase_get s (by omega)]
    show lPlace s (i + 1) < lPlace s (i + 1) + 1 + s.getD (2 * (i + 1)) 0 % lApart s.sum
    have h1 : 0 ≤ s.getD (2 * (i + 1)) 0 % lApart s.sum := Int.emod_nonneg _ (by have := (lApart_b s.sum).1; omega)
    omega
  · obtain ⟨i, hi, rfl⟩ := mem_getD hh
    rw [lBase_get s hi]
    exact (lLet_b s i).1
  · obtain ⟨i, hi, rfl⟩ := mem_getD hh
    rw [lBase_get s hi]
    have h2 := lLet_b s i
    refine ⟨?_, ?_⟩
    · show (lPlace s (i + 1)).natAbs < _
      have h1 := lPlace_b s (A := 100000000000000000000) (Int.le_trans (lApart_b s.sum).2 (by decide)) (i + 1)
      have h3 : (i + 1) * (100000000000000000000 + 1) ≤ 64 * (100000000000000000000 + 1) := Nat.mul_le_mul_right _ (by omega)
      have h4 : 41 + 64 * (100000000000000000000 + 1) < 2 ^ 300 := by decide +kernel
      exact Nat.lt_of_le_of_lt h1 (Nat.lt_of_le_of_lt (Nat.add_le_add_left h3 41) h4)
    · show (lLet s i).natAbs < _
      have h6 : (lLet s i).natAbs < 10000000000000000000000000 := by
        have e : (10 : Int) ^ 25 = 10000000000000000000000000 := by decide
        rw [e] at h2
        omega
      exact Nat.lt_trans h6 (by decide +kernel)
/-- forty houses and more, two hundred: by some, c apart -/
theorem roadOk_by {b : List (Int × Int)} (ok : RoadOk b) (hb : b ≠ []) {n : Nat} (hn : n ≤ 1000) {c d : Int} (hd : 0 < d) (hc : d ≤ c) (hcb : c ≤ 1000) :
    RoadOk ((List.range n).map fun (i : Nat) => (c * (i : Int) + (b.getD (i % b.length) default).1 % d, (b.getD (i % b.length) default).2)) := by
  have hp : 0 < b.length := List.length_pos_iff.mpr hb
  have get : ∀ i, i < n → ((List.range n).map fun (i : Nat) => (c * (i : Int) + (b.getD (i % b.length) default).1 % d, (b.getD (i % b.length) default).2)).getD i default = (c * (i : Int) + (b.getD (i % b.length) default).1 % d, (b.getD (i % b.length) default).2) := by
    intro i hi
    simp [List.getD_eq_getElem?_getD, hi]
  have hl : ((List.range n).map fun (i : Nat) => (c * (i : Int) + (b.getD (i % b.length) default).1 % d, (b.getD (i % b.length) default).2)).length = n := by rw [List.length_map, List.length_range]
  have hm : ∀ i, 0 ≤ (b.getD (i % b.length) default).1 % d ∧ (b.getD (i % b.length) default).1 % d < d := fun i => ⟨Int.emod_nonneg _ (by omega), Int.emod_lt_of_pos _ hd⟩
  have hbm : ∀ i, b.getD (i % b.length) default ∈ b := fun i => getD_mem (Nat.mod_lt _ hp)
  refine ⟨fun i hi => ?_, fun h hh => ?_, by omega, fun h hh => ?_⟩
  · rw [get i (by omega), get (i + 1) (by omega)]
    show c * (i : Int) + (b.getD (i % b.length) default).1 % d < c * ((i + 1 : Nat) : Int) + (b.getD ((i + 1) % b.length) default).1 % d
    have e : c * ((i + 1 : Nat) : Int) = c * (i : Int) + c := by rw [Int.natCast_add, Int.mul_add]; simp
    rw [e]
    have h1 := hm i
    have h2 := hm (i + 1)
    omega
  · obtain ⟨i, hi, rfl⟩ := mem_getD hh
    rw [get i (by omega)]
    show 0 ≤ (b.getD (i % b.length) default).2
    exact ok.let0 _ (hbm i)
  · obtain ⟨i, hi, rfl⟩ := mem_getD hh
    rw [get i (by omega)]
    refine ⟨?_, (ok.big _ (hbm i)).2⟩
    show (c * (i : Int) + (b.getD (i % b.length) default).1 % d).natAbs < _
    have h1 := hm i
    have h2 : c * (i : Int) ≤ 1000 * 1000 := by
      have a1 : c * (i : Int) ≤ 1000 * (i : Int) := Int.mul_le_mul_of_nonneg_right hcb (by omega)
      omega
    have h3 : 0 ≤ c * (i : Int) := Int.mul_nonneg (by omega) (by omega)
    have h5 : (c * (i : Int) + (b.getD (i % b.length) default).1 % d).natAbs < 1002000 := by omega
    exact Nat.lt_trans h5 (by decide +kernel)
theorem roadOk_law {s : List Int} (hs : s.length ≤ 63) : RoadOk (lawRoad s) := by
  unfold lawRoad
  split
  · rename_i h
    have h1 : 0 ≤ s.sum % 5 := Int.emod_nonneg _ (by decide)
    have h2 : s.sum % 5 < 5 := Int.emod_lt_of_pos _ (by decide)
    exact roadOk_by (roadOk_base hs) h.2 (by omega) (by decide) (by decide) (by decide)
  · exact roadOk_base hs
theorem lawRoad_len {s : List Int} (hs : s.length ≤ 63) : (lawRoad s).length ≤ 44 ∧ (s.length + 1) / 2 ≤ (lawRoad s).length := by
  have hl := lBase_length s
  unfold lawRoad
  split
  · have h1 : 0 ≤ s.sum % 5 := Int.emod_nonneg _ (by decide)
    have h2 : s.sum % 5 < 5 := Int.emod_lt_of_pos _ (by decide)
    unfold lMany
    rw [List.length_map, List.length_range]
    omega
  · omega
theorem roadOk_law2 {b : List (Int × Int)} (ok : RoadOk b) (hb : b ≠ []) : RoadOk (lawRoad2 b) := roadOk_by ok hb (by decide) (by decide) (by decide) (by decide)
theorem roadOk_nil : RoadOk [] := ⟨fun i h => absurd h (by simp), fun h hh => (nomatch hh), by decide, fun h hh => (nomatch hh)⟩
theorem lawRoad_ne {s : List Int} (hs : s.length ≤ 63) (h : lawRoad s ≠ []) : s ≠ [] := by
  rintro rfl
  apply h
  unfold lawRoad
  have e : lBase [] = [] := rfl
  rw [e]
  split
  · rename_i z; exact absurd rfl z.2
  · rfl
/-! ### nearest, house by house -/
theorem pl_rise {r : List (Int × Int)} (ok : RoadOk r) : ∀ {i j : Nat}, i < j → j < r.length → (r.getD i default).1 < (r.getD j default).1
  | i, 0, h, _ => absurd h (by omega)
  | i, j + 1, h, hj => by
    have h1 := ok.rise j hj
    by_cases e : i = j
    · subst e; exact h1
    · exact Int.lt_trans (pl_rise ok (by omega) (by omega)) h1
theorem near_at {r : List (Int × Int)} {ps : List Int} (ok : RoadOk r) (po : PostsOk r.length ps) : ∀ (i : Nat), i < r.length →
    ∃ a, ptr (ps.map (pl r)) ((r.map (·.1)).take (i + 1)) 0 = a ∧ ptr (ps.map (pl r)) ((r.map (·.1)).take i) 0 ≤ a ∧ a < ps.length ∧ (nearL r ps).getD i default = ps.getD a 0 ∧
      (a + 1 < ps.length → ((r.getD i default).1 - pl r (ps.getD a 0)).natAbs ≤ ((r.getD i default).1 - pl r (ps.getD (a + 1) 0)).natAbs) ∧
      (0 < a → 2 * (r.getD i default).1 > pl r (ps.getD (a - 1) 0) + pl r (ps.getD a 0)) ∧ (0 < a → pl r (ps.getD (a - 1) 0) < pl r (ps.getD a 0)) := by
  have qget : ∀ a, a < ps.length → (ps.map (pl r)).getD a 0 = pl r (ps.getD a 0) := fun a ha => getD_mapI (α := Int) ha
  have hq : ∀ i j, i < j → j < (ps.map (pl r)).length → (ps.map (pl r)).getD i 0 < (ps.map (pl r)).getD j 0 := by
    intro i j hij hj
    rw [List.length_map] at hj
    rw [qget i (by omega), qget j hj]
    have b1 := po.bnd i (by omega)
    have b2 := po.bnd j hj
    have b3 := po.rise i j hij hj
    exact pl_rise ok (by omega) (by omega)
  intro i
  induction i with
  | zero =>
    intro hi
    have h0 : 0 < ps.length := po.some hi
    have hx : (r.map (·.1)).getD 0 default = (r.getD 0 default).1 := getD_mapI (f := fun h : Int × Int => h.1) hi
    have e1 : (r.map (·.1)).take (0 + 1) = (r.map (·.1)).take 0 ++ [(r.getD 0 default).1] := by rw [take_snoc _ (by rw [List.length_map]; exact hi), hx]
    have hal := adv_lt (ps.map (pl r)) (r.getD 0 default).1 0 (by rw [List.length_map]; exact h0)
    rw [List.length_map] at hal
    refine ⟨adv (ps.map (pl r)) (r.getD 0 default).1 0, by rw [e1, ptr_snoc]; rfl, Nat.zero_le _, hal, ?_, fun h => ?_, fun h => ?_, fun h => ?_⟩
    · have e := ptrs_get (ps.map (pl r)) (r.map (·.1)) 0 0 (by rw [List.length_map]; exact hi)
      unfold nearL
      rw [List.getD_eq_getElem?_getD, List.getElem?_map, e]
      have hx' : (r.map (·.1)).getD 0 0 = (r.getD 0 default).1 := hx
      rw [hx']
      rfl
    · have := adv_next (ps.map (pl r)) (r.getD 0 default).1 0 (by rw [List.length_map]; exact h)
      rw [qget _ hal, qget _ h] at this
      omega
    · have := adv_prev hq (Int.le_refl (r.getD 0 default).1) 0 (by rw [List.length_map]; exact h0) (fun z => absurd z (by omega)) h
      rw [qget _ hal, qget _ (by omega)] at this
      exact this
    · have := hq (adv (ps.map (pl r)) (r.getD 0 default).1 0 - 1) (adv (ps.map (pl r)) (r.getD 0 default).1 0) (by omega) (by rw [List.length_map]; exact hal)
      rw [qget _ hal, qget _ (by omega)] at this
      exact this
  | succ i ih =>
    intro hi
    obtain ⟨a, h1, h2, h3, h4, h5, h6, h7⟩ := ih (by omega)
    have h0 : 0 < ps.length := by omega
    have hx : (r.map (·.1)).getD (i + 1) default = (r.getD (i + 1) default).1 := getD_mapI (f := fun h : Int × Int => h.1) hi
    have e1 : (r.map (·.1)).take (i + 1 + 1) = (r.map (·.1)).take (i + 1) ++ [(r.getD (i + 1) default).1] := by rw [take_snoc _ (by rw [List.length_map]; exact hi), hx]
    have hal := adv_lt (ps.map (pl r)) (r.getD (i + 1) default).1 a (by rw [List.length_map]; exact h3)
    rw [List.length_map] at hal
    refine ⟨adv (ps.map (pl r)) (r.getD (i + 1) default).1 a, by rw [e1, ptr_snoc, h1], by rw [h1]; exact adv_ge _ _ _, hal, ?_, fun h => ?_, fun h => ?_, fun h => ?_⟩
    · have e := ptrs_get (ps.map (pl r)) (r.map (·.1)) 0 (i + 1) (by rw [List.length_map]; exact hi)
      unfold nearL
      rw [List.getD_eq_getElem?_getD, List.getElem?_map, e, h1]
      have hx' : (r.map (·.1)).getD (i + 1) 0 = (r.getD (i + 1) default).1 := hx
      rw [hx']
      rfl
    · have := adv_next (ps.map (pl r)) (r.getD (i + 1) default).1 a (by rw [List.length_map]; exact h)
      rw [qget _ hal, qget _ h] at this
      omega
    · have hxy : (r.getD i default).1 ≤ (r.getD (i + 1) default).1 := by have := ok.rise i hi; omega
      have hp : 0 < a → 2 * (r.getD (i + 1) default).1 > (ps.map (pl r)).getD (a - 1) 0 + (ps.map (pl r)).getD a 0 := by
        intro z
        rw [qget _ h3, qget _ (by omega)]
        have := h6 z
        omega
      have := adv_prev hq (Int.le_refl (r.getD (i + 1) default).1) a (by rw [List.length_map]; exact h3) hp h
      rw [qget _ hal, qget _ (by omega)] at this
      exact this
    · have := hq (adv (ps.map (pl r)) (r.getD (i + 1) default).1 a - 1) (adv (ps.map (pl r)) (r.getD (i + 1) default).1 a) (by omega) (by rw [List.length_map]; exact hal)
      rw [qget _ hal, qget _ (by omega)] at this
      exact this
theorem near0 (r : List (Int × Int)) : nearL r [0] = r.map fun _ => 0 := by
  unfold nearL
  have h : ∀ (l : List Nat), l.map (fun a => ([0] : List Int).getD a 0) = List.replicate l.length 0 := by
    intro l
    induction l with
    | nil => rfl
    | cons a l ih =>
      rw [List.map_cons, ih, List.length_cons, List.replicate_succ]
      congr 1
      cases a <;> rfl
  rw [h, ptrs_length, List.length_map, List.map_const']
/-! ### posts by the law -/
theorem rising_of {n : Int} : ∀ {xs : List Int} {last : Int}, (∀ i, i < xs.length → last < xs.getD i 0 ∧ xs.getD i 0 < n) → (∀ i, i + 1 < xs.length → xs.getD i 0 < xs.getD (i + 1) 0) → risingB n last xs = true
  | [], _, _, _ => rfl
  | x :: xs, last, h1, h2 => by
    have a : last < x ∧ x < n := h1 0 (by simp)
    show (decide (last < x) && decide (x < n) && risingB n x xs) = true
    rw [decide_eq_true a.1, decide_eq_true a.2, Bool.true_and, Bool.true_and]
    have mono : ∀ i, i < xs.length → x < xs.getD i 0 := by
      intro i
      induction i with
      | zero => intro hi; exact h2 0 (by simpa using hi)
      | succ i ih =>
        intro hi
        have := h2 (i + 1) (by simpa using hi)
        exact Int.lt_trans (ih (by omega)) this
    exact rising_of (fun i hi => ⟨mono i hi, (h1 (i + 1) (by simpa using hi)).2⟩) fun i hi => h2 (i + 1) (by simpa using hi)
theorem arePosts_of {n : Nat} {xs : List Int} (h1 : ∀ i, i < xs.length → 0 ≤ xs.getD i 0 ∧ xs.getD i 0 < n) (h2 : ∀ i, i + 1 < xs.length → xs.getD i 0 < xs.getD (i + 1) 0) (h3 : xs ≠ []) : arePosts n xs = true := by
  unfold arePosts
  rw [rising_of (fun i hi => ⟨by have := (h1 i hi).1; omega, (h1 i hi).2⟩) h2, decide_eq_false h3]
  rfl
theorem rising_pw {n : Int} : ∀ {xs : List Int} {last : Int}, xs.Pairwise (· < ·) → (∀ x ∈ xs, last < x ∧ x < n) → risingB n last xs = true
  | [], _, _, _ => rfl
  | x :: xs, last, hp, h => by
    obtain ⟨p1, p2⟩ := List.pairwise_cons.mp hp
    have a := h x List.mem_cons_self
    show (decide (last < x) && decide (x < n) && risingB n x xs) = true
    rw [decide_eq_true a.1, decide_eq_true a.2, rising_pw p2 fun y hy => ⟨p1 y hy, (h y (List.mem_cons_of_mem _ hy)).2⟩]
    rfl
theorem arePosts_pw {n : Nat} {xs : List Int} (hp : xs.Pairwise (· < ·)) (h : ∀ x ∈ xs, 0 ≤ x ∧ x < n) (h3 : xs ≠ []) : arePosts n xs = true := by
  unfold arePosts
  rw [rising_pw hp fun x hx => ⟨by have := (h x hx).1; omega, (h x hx).2⟩, decide_eq_false h3]
  rfl
theorem pw_cast : ∀ {l : List Nat}, l.Pairwise (· < ·) → (l.map fun (i : Nat) => (i : Int)).Pairwise (· < ·) := by
  intro l h
  rw [List.pairwise_map]
  exact h.imp fun h => by omega
theorem pw_range (n : Nat) : (List.range n).Pairwise (· < ·) := List.pairwise_lt_range
theorem posts_drawn {s : List Int} {n m : Nat} (hm : m ≤ n) (h : lawDrawn s m ≠ []) : arePosts n (lawDrawn s m) = true := by
  refine arePosts_pw (pw_cast ((pw_range m).filter _)) (fun x hx => ?_) h
  unfold lawDrawn at hx
  obtain ⟨i, hi, rfl⟩ := List.mem_map.mp hx
  have := List.mem_range.mp ((List.mem_filter.mp hi).1)
  omega
theorem posts_all {n : Nat} (h : 0 < n) : arePosts n ((List.range n).map fun (i : Nat) => (i : Int)) = true := by
  refine arePosts_pw (pw_cast (pw_range n)) (fun x hx => ?_) ?_
  · obtain ⟨i, hi, rfl⟩ := List.mem_map.mp hx
    have := List.mem_range.mp hi
    omega
  · intro z
    have := congrArg List.length z
    simp at this
    omega
theorem posts_one {n : Nat} {p : Int} (h : 0 ≤ p ∧ p < n) : arePosts n [p] = true := arePosts_pw (List.pairwise_singleton _ _) (fun x hx => by simp at hx; subst hx; exact h) (by simp)
theorem posts_step {n m : Nat} {c : Int} (hc : 1 ≤ c) (hn : 0 < n) (hm : ((n : Int) + c - 1) / c = (m : Int)) : arePosts n ((List.range m).map fun (k : Nat) => 0 + (k : Int) * c) = true := by
  have hmc : (m : Int) * c ≤ n + c - 1 := by rw [← hm]; exact Int.ediv_mul_le _ (by omega)
  refine arePosts_pw ?_ (fun x hx => ?_) ?_
  · rw [List.pairwise_map]
    refine (pw_range m).imp fun h => ?_
    rename_i a b
    have : (a : Int) * c < (b : Int) * c := Int.mul_lt_mul_of_pos_right (by omega) (by omega)
    omega
  · obtain ⟨k, hk, rfl⟩ := List.mem_map.mp hx
    have hk := List.mem_range.mp hk
    have h1 : 0 ≤ (k : Int) * c := Int.mul_nonneg (by omega) (by omega)
    have h2 : ((k + 1 : Nat) : Int) * c ≤ (m : Int) * c := Int.mul_le_mul_of_nonneg_right (by omega) (by omega)
    have e : ((k + 1 : Nat) : Int) * c = (k : Int) * c + c := by rw [Int.natCast_add, Int.add_mul]; simp
    omega
  · intro z
    have h0 : m = 0 := by have := congrArg List.length z; simpa using this
    subst h0
    have : 1 ≤ ((n : Int) + c - 1) / c := Int.le_ediv_of_mul_le (by omega) (by omega)
    omega
end Ph

set_option Elab.async false
set_option linter.all false
set_option maxRecDepth 100000
set_option maxHeartbeats 2000000
namespace Ph
open PySem PySem.Spec L2
/-! ### readings (printed by gen.py) -/
def t_is_number (K : PySem.W.Frag) : TS := (tSeq (tRet (tAndV (tCB (cIsi K) (tCons (tVar 0) (tCons (tC (.ty "int")) tNil))) (tNotV (tCB (cIsi K) (tCons (tVar 0) (tCons (tC (.ty "bool")) tNil))))))
  tNext)
def t_is_house (K : PySem.W.Frag) : TS := (tSeq (tIfS (tOr (tNot (tB (tCB (cIsi K) (tCons (tVar 0) (tCons (tC (.ty "tuple")) tNil))))) (tOr (tTest (tOp oNeI (tCB (cLen K) (tCons (tVar 0) tNil)) (tC (.int 2)))) (tNot (tB (tCall (sp_is_number K) [] E0 (tCons (tOp (oIxT K) (tVar 0) (tC (.int 0))) tNil))))))
   (tSeq (tRet (tC (.bl false)))
  tNext) tNext)
  (tSeq (tRet (tAndV (tCall (sp_is_number K) [] E0 (tCons (tOp (oIxT K) (tVar 0) (tC (.int 1))) tNil)) (tOp oGe (tOp (oIxT K) (tVar 0) (tC (.int 1))) (tC (.int 0)))))
  tNext))
def t_asked_road (K : PySem.W.Frag) : TS := (tSeq (tIfS (tOr (tNot (tB (tCB (cIsi K) (tCons (tVar 0) (tCons (tC (.ty "list")) tNil))))) (tNot (tB (tCB (cAll K) (tCons (tLc (iList K (tVar 0)) (gName 1) tYes (tCall (sp_is_house K) [] E0 (tCons (tVar 1) tNil)) [1]) tNil)))))
   (tSeq tNever
  tNext) tNext)
  (tSeq (tIfS (tNot (tB (tCB (cAll K) (tCons (tLc (iRng1 (tCons (tOp oSub (tCB (cLen K) (tCons (tVar 0) tNil)) (tC (.int 1))) tNil)) (gName 2) tYes (tOp oLt (tOp (oIxT K) (tOp (oIx K) (tVar 0) (tVar 2)) (tC (.int 0))) (tOp (oIxT K) (tOp (oIx K) (tVar 0) (tOp oAdd (tVar 2) (tC (.int 1)))) (tC (.int 0)))) [2]) tNil))))
   (tSeq tNever
  tNext) tNext)
  tNext))
def t_are_posts (K : PySem.W.Frag) : TS := (tSeq (tAsg (tUn oNeg (tC (.int 1))) (gName 2))
  (tSeq (tFor (iList K (tVar 1)) (gName 3)
   (tSeq (tIfS (tNot (tTest (tChain oLt oLt (tVar 2) (tVar 3) (tCB (cLen K) (tCons (tVar 0) tNil)))))
   (tSeq (tRet (tC (.bl false)))
  tNext) tNext)
  (tSeq (tAsg (tVar 3) (gName 2))
  tNext)))
  (tSeq (tRet (tOrV (tOp (oNeD K) (tVar 1) (tLst tNil)) (tOp (oEqD K) (tVar 0) (tLst tNil))))
  tNext)))
def t_asked_posts (K : PySem.W.Frag) : TS := (tSeq (tIfS (tOr (tNot (tB (tCB (cIsi K) (tCons (tVar 1) (tCons (tC (.ty "list")) tNil))))) (tOr (tNot (tB (tCB (cAll K) (tCons (tLc (iList K (tVar 1)) (gName 2) tYes (tCall (sp_is_number K) [] E0 (tCons (tVar 2) tNil)) [2]) tNil)))) (tNot (tB (tCall (sp_are_posts K) [] E0 (tCons (tVar 0) (tCons (tVar 1) tNil)))))))
   (tSeq tNever
  tNext) tNext)
  tNext)
def t_nearest_of (K : PySem.W.Frag) : TS := (tSeq (tAsg (tLst tNil) (gName 2))
  (tSeq (tAsg (tC (.int 0)) (gName 3))
  (tSeq (tFor (iList K (tVar 0)) (gTup K 2 (gCons (gName 4) (gCons (gName 5) gNil)))
   (tSeq (tWhile (tAnd (tTest (tOp oLt (tOp oAdd (tVar 3) (tC (.int 1))) (tCB (cLen K) (tCons (tVar 1) tNil)))) (tTest (tOp oLt (tCB cAbs (tCons (tOp oSub (tOp (oIxT K) (tOp (oIx K) (tVar 0) (tOp (oIx K) (tVar 1) (tOp oAdd (tVar 3) (tC (.int 1))))) (tC (.int 0))) (tVar 4)) tNil)) (tCB cAbs (tCons (tOp oSub (tOp (oIxT K) (tOp (oIx K) (tVar 0) (tOp (oIx K) (tVar 1) (tVar 3))) (tC (.int 0))) (tVar 4)) tNil)))))
   (tSeq (tAsg (tOp oAdd (tVar 3) (tC (.int 1))) (gName 3))
  tNext))
  (tSeq (tDrop (tBM K "list" rAppend (tVar 2) (tCons (tOp (oIx K) (tVar 1) (tVar 3)) tNil)))
  tNext)))
  (tSeq (tRet (tVar 2))
  tNext))))
def t_way_of (K : PySem.W.Frag) : TS := (tSeq (tAsg (tC (.int 0)) (gName 2))
  (tSeq (tFor (iZip K (tCons (tVar 0) (tCons (tCall (sp_nearest_of K) [] E0 (tCons (tVar 0) (tCons (tVar 1) tNil))) tNil))) (gTup K 2 (gCons (gName 3) (gCons (gName 4) gNil)))
   (tSeq (tAsg (tOp oAdd (tVar 2) (tOp oMulW (tOp (oIxT K) (tVar 3) (tC (.int 1))) (tCB cAbs (tCons (tOp oSub (tOp (oIxT K) (tVar 3) (tC (.int 0))) (tOp (oIxT K) (tOp (oIx K) (tVar 0) (tVar 4)) (tC (.int 0)))) tNil)))) (gName 2))
  tNext))
  (tSeq (tRet (tVar 2))
  tNext)))
def t_nearest (K : PySem.W.Frag) : TS := (tSeq (tDrop (tCall (sp_asked_road K) [] E0 (tCons (tVar 0) tNil)))
  (tSeq (tDrop (tCall (sp_asked_posts K) [] E0 (tCons (tVar 0) (tCons (tVar 1) tNil))))
  (tSeq (tRet (tCall (sp_nearest_of K) [] E0 (tCons (tVar 0) (tCons (tVar 1) tNil))))
  tNext)))
def t_way (K : PySem.W.Frag) : TS := (tSeq (tDrop (tCall (sp_asked_road K) [] E0 (tCons (tVar 0) tNil)))
  (tSeq (tDrop (tCall (sp_asked_posts K) [] E0 (tCons (tVar 0) (tCons (tVar 1) tNil))))
  (tSeq (tRet (tCall (sp_way_of K) [] E0 (tCons (tVar 0) (tCons (tVar 1) tNil))))
  tNext)))
def t_law_road (K : PySem.W.Frag) : TS := (tSeq (tAsg (tCB (cSum K) (tCons (tVar 0) tNil)) (gName 1))
  (tSeq (tAsg (tOp (oIxT K) (tTup (tCons (tC (.int 3)) (tCons (tC (.int 40)) (tCons (tC (.int 1)) (tCons (tOp oPow (tC (.int 10)) (tC (.int 20))) tNil))))) (tOp oMod (tVar 1) (tC (.int 4)))) (gName 2))
  (tSeq (tAsg (tOp (oIxT K) (tTup (tCons (tC (.int 2)) (tCons (tC (.int 30)) (tCons (tC (.int 1000)) (tCons (tOp oPow (tC (.int 10)) (tC (.int 25))) tNil))))) (tOp oMod (tOp oDiv (tVar 1) (tC (.int 4))) (tC (.int 4)))) (gName 3))
  (tSeq (tAsg (tOp oSub (tOp oMod (tOp oDiv (tVar 1) (tC (.int 16))) (tC (.int 41))) (tC (.int 20))) (gName 4))
  (tSeq (tAsg (tLst tNil) (gName 5))
  (tSeq (tFor (iRng3 (tCons (tC (.int 0)) (tCons (tCB (cLen K) (tCons (tVar 0) tNil)) (tCons (tC (.int 2)) tNil)))) (gName 6)
   (tSeq (tAsg (tOp oAdd (tOp oAdd (tVar 4) (tC (.int 1))) (tOp oMod (tOp (oIx K) (tVar 0) (tVar 6)) (tVar 2))) (gName 4))
  (tSeq (tDrop (tBM K "list" rAppend (tVar 5) (tCons (tTup (tCons (tVar 4) (tCons (tOp oMod (tOp (oIx K) (tVar 0) (tIf (tTest (tOp oEqI (tOp oAdd (tVar 6) (tC (.int 1))) (tCB (cLen K) (tCons (tVar 0) tNil)))) (tOp oSub (tVar 6) (tC (.int 1))) (tOp oAdd (tVar 6) (tC (.int 1))))) (tVar 3)) tNil))) tNil)))
  tNext)))
  (tSeq (tIfS (tAnd (tTest (tOp oEqI (tOp oMod (tOp oDiv (tVar 1) (tC (.int 64))) (tC (.int 8))) (tC (.int 1)))) (tTest (tOp (oNeD K) (tVar 5) (tLst tNil))))
   (tSeq (tAsg (tVar 5) (gName 7))
  (tSeq (tAsg (tLc (iRng1 (tCons (tOp oAdd (tC (.int 40)) (tOp oMod (tVar 1) (tC (.int 5)))) tNil)) (gName 6) tYes (tTup (tCons (tOp oAdd (tOp oMul (tC (.int 50)) (tVar 6)) (tOp oMod (tOp (oIxT K) (tOp (oIx K) (tVar 7) (tOp oMod (tVar 6) (tCB (cLen K) (tCons (tVar 7) tNil)))) (tC (.int 0))) (tC (.int 50)))) (tCons (tOp (oIxT K) (tOp (oIx K) (tVar 7) (tOp oMod (tVar 6) (tCB (cLen K) (tCons (tVar 7) tNil)))) (tC (.int 1))) tNil))) [6]) (gName 5))
  tNext)) tNext)
  (tSeq (tRet (tVar 5))
  tNext))))))))
def t_law_numbers (K : PySem.W.Frag) : TS := (tSeq (tIfS (tNot (tB (tCB (cIsi K) (tCons (tVar 0) (tCons (tC (.ty "list")) tNil)))))
   (tSeq (tRet (tC (.bl false)))
  tNext) tNext)
  (tSeq (tRet (tCB (cAll K) (tCons (tLc (iList K (tVar 0)) (gName 1) tYes (tAndV (tCB (cIsi K) (tCons (tVar 1) (tCons (tC (.ty "int")) tNil))) (tNotV (tCB (cIsi K) (tCons (tVar 1) (tCons (tC (.ty "bool")) tNil))))) [1]) tNil)))
  tNext))
def t_law_posts (K : PySem.W.Frag) : TS := (tSeq (tAsg (tLc (iRng1 (tCons (tVar 1) tNil)) (gName 3) (tTest (tOp oEqI (tOp oMod (tOp oDiv (tOp (oIx K) (tVar 0) (tVar 3)) (tC (.int 7))) (tC (.int 4))) (tC (.int 0)))) (tVar 3) [3]) (gName 2))
  (tSeq (tRet (tIf (tOr (tTest (tOp (oNeD K) (tVar 2) (tLst tNil))) (tTest (tOp oEqI (tVar 1) (tC (.int 0))))) (tVar 2) (tLst (tCons (tOp oMod (tCB (cSum K) (tCons (tVar 0) tNil)) (tVar 1)) tNil))))
  tNext))
def t_law_k01_b1 (K : PySem.W.Frag) : TS := (tSeq (tAsg (tOp oAdd (tVar 2) (tC (.int 1))) (gName 2))
  tNext)
def t_law_k01_b2 (K : PySem.W.Frag) : TS := (tSeq (tWhile (tAnd (tTest (tOp oLt (tVar 2) (tCB (cLen K) (tCons (tVar 6) tNil)))) (tTest (tOp oNeI (tOp (oIx K) (tVar 6) (tVar 2)) (tVar 11))))
   (t_law_k01_b1 K))
  (tSeq (tIfS (tTest (tOp oEqI (tVar 2) (tCB (cLen K) (tCons (tVar 6) tNil))))
   (tSeq (tRet (tC (.bl false)))
  tNext) tNext)
  (tSeq (tAsg (tCB cAbs (tCons (tOp oSub (tOp (oIxT K) (tVar 10) (tC (.int 0))) (tOp (oIxT K) (tOp (oIx K) (tVar 1) (tVar 11)) (tC (.int 0)))) tNil)) (gName 12))
  (tSeq (tIfS (tAnd (tTest (tOp oGt (tVar 2) (tC (.int 0)))) (tTest (tOp oLe (tCB cAbs (tCons (tOp oSub (tOp (oIxT K) (tVar 10) (tC (.int 0))) (tOp (oIxT K) (tOp (oIx K) (tVar 1) (tOp (oIx K) (tVar 6) (tOp oSub (tVar 2) (tC (.int 1))))) (tC (.int 0)))) tNil)) (tVar 12))))
   (tSeq (tRet (tC (.bl false)))
  tNext) tNext)
  (tSeq (tIfS (tAnd (tTest (tOp oLt (tOp oAdd (tVar 2) (tC (.int 1))) (tCB (cLen K) (tCons (tVar 6) tNil)))) (tTest (tOp oLt (tCB cAbs (tCons (tOp oSub (tOp (oIxT K) (tVar 10) (tC (.int 0))) (tOp (oIxT K) (tOp (oIx K) (tVar 1) (tOp (oIx K) (tVar 6) (tOp oAdd (tVar 2) (tC (.int 1))))) (tC (.int 0)))) tNil)) (tVar 12))))
   (tSeq (tRet (tC (.bl false)))
  tNext) tNext)
  (tSeq (tAsg (tOp oAdd (tVar 9) (tOp oMulW (tOp (oIxT K) (tVar 10) (tC (.int 1))) (tVar 12))) (gName 9))
  tNext))))))
def t_law_k01_b3 (K : PySem.W.Frag) : TS := (tSeq (tAsg (tLst (tCons (tCB (cList K) (tCons (tVar 1) tNil)) (tCons (tCB (cList K) (tCons (tVar 6) tNil)) tNil))) (gName 7))
  (tSeq (tAsg (tCall (sp_nearest K) [] E0 (tCons (tOp (oIx K) (tVar 7) (tC (.int 0))) (tCons (tOp (oIx K) (tVar 7) (tC (.int 1))) tNil))) (gName 8))
  (tSeq (tIfS (tOr (tNot (tB (tCall (sp_law_numbers K) [] E0 (tCons (tVar 8) tNil)))) (tOr (tTest (tOp oNeI (tCB (cLen K) (tCons (tVar 8) tNil)) (tCB (cLen K) (tCons (tVar 1) tNil)))) (tTest (tOp (oNeD K) (tVar 7) (tLst (tCons (tVar 1) (tCons (tVar 6) tNil)))))))
   (tSeq (tRet (tC (.bl false)))
  tNext) tNext)
  (tSeq (tAsg (tC (.int 0)) (gName 9))
  (tSeq (tAsg (tC (.int 0)) (gName 2))
  (tSeq (tFor (iZip K (tCons (tVar 1) (tCons (tVar 8) tNil))) (gTup K 2 (gCons (gName 10) (gCons (gName 11) gNil)))
   (t_law_k01_b2 K))
  (tSeq (tIfS (tOr (tTest (tOp oNeI (tCall (sp_way K) [] E0 (tCons (tOp (oIx K) (tVar 7) (tC (.int 0))) (tCons (tOp (oIx K) (tVar 7) (tC (.int 1))) tNil))) (tVar 9))) (tTest (tOp (oNeD K) (tVar 7) (tLst (tCons (tVar 1) (tCons (tVar 6) tNil))))))
   (tSeq (tRet (tC (.bl false)))
  tNext) tNext)
  (tSeq (tDrop (tBM K "list" rAppend (tVar 8) (tCons (tC (.int 0)) tNil)))
  tNext))))))))
def t_law_k01_s7 (K : PySem.W.Frag) : TS := (tSeq (tRet (tOp (oEqD K) (tCall (sp_nearest K) [] E0 (tCons (tVar 1) (tCons (tLst (tCons (tC (.int 0)) tNil)) tNil))) (tLc (iList K (tVar 1)) (gName 10) tYes (tC (.int 0)) [10])))
  tNext)
def t_law_k01_s6 (K : PySem.W.Frag) : TS := (tSeq (tFor (iList K (tIf (tTest (tOp (oNeD K) (tVar 4) (tLst tNil))) (tVar 5) (tSl (oSl K) (tVar 5) (tPart (tC (.int 1))) tNoPart))) (gName 6)
   (t_law_k01_b3 K))
  (t_law_k01_s7 K))
def t_law_k01_s5 (K : PySem.W.Frag) : TS := (tSeq (tAsg (tLst (tCons (tVar 4) (tCons (tLst (tCons (tOp oMod (tVar 3) (tCB (cLen K) (tCons (tVar 1) tNil))) tNil)) (tCons (tLstRg (tRg1 (tCB (cLen K) (tCons (tVar 1) tNil)))) (tCons (tLstRg3 (tRg3 (tC (.int 0)) (tCB (cLen K) (tCons (tVar 1) tNil)) (tOp oAdd (tC (.int 2)) (tOp oMod (tVar 3) (tC (.int 5)))))) tNil))))) (gName 5))
  (t_law_k01_s6 K))
def t_law_k01_s4 (K : PySem.W.Frag) : TS := (tSeq (tAsg (tCall (sp_law_posts K) [] E0 (tCons (tVar 0) (tCons (tCB cMin2 (tCons (tOp oDiv (tCB (cLen K) (tCons (tVar 0) tNil)) (tC (.int 2))) (tCons (tCB (cLen K) (tCons (tVar 1) tNil)) tNil))) tNil))) (gName 4))
  (t_law_k01_s5 K))
def t_law_k01_s3 (K : PySem.W.Frag) : TS := (tSeq (tAsg (tCB (cSum K) (tCons (tVar 0) tNil)) (gName 3))
  (t_law_k01_s4 K))
def t_law_k01_s2 (K : PySem.W.Frag) : TS := (tSeq (tIfS (tTest (tOp (oEqD K) (tVar 1) (tLst tNil)))
   (tSeq (tRet (tAndV (tOp (oEqD K) (tCall (sp_nearest K) [] E0 (tCons (tLst tNil) (tCons (tLst tNil) tNil))) (tLst tNil)) (tOp oEqI (tCall (sp_way K) [] E0 (tCons (tLst tNil) (tCons (tLst tNil) tNil))) (tC (.int 0)))))
  tNext) tNext)
  (t_law_k01_s3 K))
def t_law_k01_s1 (K : PySem.W.Frag) : TS := (tSeq (tIfS (tAnd (tTest (tOp oEqI (tOp oMod (tCB (cSum K) (tCons (tVar 0) tNil)) (tC (.int 7))) (tC (.int 3)))) (tTest (tOp (oNeD K) (tVar 1) (tLst tNil))))
   (tSeq (tAsg (tLc (iRng1 (tCons (tC (.int 200)) tNil)) (gName 2) tYes (tTup (tCons (tOp oAdd (tOp oMul (tC (.int 9)) (tVar 2)) (tOp oMod (tOp (oIxT K) (tOp (oIx K) (tVar 1) (tOp oMod (tVar 2) (tCB (cLen K) (tCons (tVar 1) tNil)))) (tC (.int 0))) (tC (.int 8)))) (tCons (tOp (oIxT K) (tOp (oIx K) (tVar 1) (tOp oMod (tVar 2) (tCB (cLen K) (tCons (tVar 1) tNil)))) (tC (.int 1))) tNil))) [2]) (gName 1))
  tNext) tNext)
  (t_law_k01_s2 K))
def t_law_k01 (K : PySem.W.Frag) : TS := (tSeq (tAsg (tCall (sp_law_road K) [] E0 (tCons (tVar 0) tNil)) (gName 1))
  (t_law_k01_s1 K))
end Ph

set_option Elab.async false
set_option linter.all false
set_option maxRecDepth 100000
set_option maxHeartbeats 2000000
namespace Ph
open PySem PySem.Spec L2
def isIB : PyData → Bool
  | .int _ => true
  | .bool _ => true
  | _ => false
def isBB : PyData → Bool
  | .bool _ => true
  | _ => false
def isTB : PyData → Bool
  | .tuple _ => true
  | _ => false
def isLB : PyData → Bool
  | .list _ => true
  | _ => false
theorem kb_NoneType_int : kitB "NoneType" "int" = some false := by decide +kernel
theorem kb_bool_int : kitB "bool" "int" = some true := by decide +kernel
theorem kb_int_int : kitB "int" "int" = some true := by decide +kernel
theorem kb_str_int : kitB "str" "int" = some false := by decide +kernel
theorem kb_list_int : kitB "list" "int" = some false := by decide +kernel
theorem kb_tuple_int : kitB "tuple" "int" = some false := by decide +kernel
theorem kb_dict_int : kitB "dict" "int" = some false := by decide +kernel
theorem kb_NoneType_bool : kitB "NoneType" "bool" = some false := by decide +kernel
theorem kb_bool_bool : kitB "bool" "bool" = some true := by decide +kernel
theorem kb_int_bool : kitB "int" "bool" = some false := by decide +kernel
theorem kb_str_bool : kitB "str" "bool" = some false := by decide +kernel
theorem kb_list_bool : kitB "list" "bool" = some false := by decide +kernel
theorem kb_tuple_bool : kitB "tuple" "bool" = some false := by decide +kernel
theorem kb_dict_bool : kitB "dict" "bool" = some false := by decide +kernel
theorem kb_NoneType_tuple : kitB "NoneType" "tuple" = some false := by decide +kernel
theorem kb_bool_tuple : kitB "bool" "tuple" = some false := by decide +kernel
theorem kb_int_tuple : kitB "int" "tuple" = some false := by decide +kernel
theorem kb_str_tuple : kitB "str" "tuple" = some false := by decide +kernel
theorem kb_list_tuple : kitB "list" "tuple" = some false := by decide +kernel
theorem kb_tuple_tuple : kitB "tuple" "tuple" = some true := by decide +kernel
theorem kb_dict_tuple : kitB "dict" "tuple" = some false := by decide +kernel
theorem kb_NoneType_list : kitB "NoneType" "list" = some false := by decide +kernel
theorem kb_bool_list : kitB "bool" "list" = some false := by decide +kernel
theorem kb_int_list : kitB "int" "list" = some false := by decide +kernel
theorem kb_str_list : kitB "str" "list" = some false := by decide +kernel
theorem kb_list_list : kitB "list" "list" = some true := by decide +kernel
theorem kb_tuple_list : kitB "tuple" "list" = some false := by decide +kernel
theorem kb_dict_list : kitB "dict" "list" = some false := by decide +kernel
theorem isi_int (x : PyData) : kitB (kindOf x) "int" = some (isIB x) := by cases x <;> first | exact kb_NoneType_int | exact kb_bool_int | exact kb_int_int | exact kb_str_int | exact kb_list_int | exact kb_tuple_int | exact kb_dict_int
theorem isi_bool (x : PyData) : kitB (kindOf x) "bool" = some (isBB x) := by cases x <;> first | exact kb_NoneType_bool | exact kb_bool_bool | exact kb_int_bool | exact kb_str_bool | exact kb_list_bool | exact kb_tuple_bool | exact kb_dict_bool
theorem isi_tuple (x : PyData) : kitB (kindOf x) "tuple" = some (isTB x) := by cases x <;> first | exact kb_NoneType_tuple | exact kb_bool_tuple | exact kb_int_tuple | exact kb_str_tuple | exact kb_list_tuple | exact kb_tuple_tuple | exact kb_dict_tuple
theorem isi_list (x : PyData) : kitB (kindOf x) "list" = some (isLB x) := by cases x <;> first | exact kb_NoneType_list | exact kb_bool_list | exact kb_int_list | exact kb_str_list | exact kb_list_list | exact kb_tuple_list | exact kb_dict_list
end Ph

set_option Elab.async false
set_option linter.all false
set_option maxRecDepth 100000
set_option maxHeartbeats 2000000
namespace Ph
open PySem PySem.Spec L2
/-! ### steps by themselves -/
local macro_rules | `(tactic| walk_at "side") => `(tactic| first | assumption | decide | omega | (simp only [List.length_map, List.length_append, List.length_cons, List.length_nil, List.length_range, List.length_take, List.length_reverse]; omega))
local macro_rules | `(tactic| walk_at "ev") => `(tactic| (refine' evd_is ?eva ?evb; (case' eva => walk_at "ev1"); (case' evb => first | rfl | skip)))
local macro_rules | `(tactic| walk_at "evt") => `(tactic| (refine' evt_is ?eva ?evb; (case' eva => walk_at "evt1"); (case' evb => first | rfl | skip)))
local macro_rules | `(tactic| walk_at "evr") => `(tactic| first
  | exact evr_l (evl_at rfl)
  | (refine' evr_n ?evn; (case' evn => walk_at "evn1"))
  | (refine' evr_d ?evd; (case' evd => walk_at "ev")))
local macro_rules | `(tactic| walk_at "evl") => `(tactic| first
  | exact evl_at rfl
  | (refine' evl_n ?evn; (case' evn => (refine' evn_is ?eva ?evb; (case' eva => walk_at "evn1"); (case' evb => first | rfl | skip))))
  | (refine' evl_d ?evd; (case' evd => walk_at "ev")))
local macro_rules | `(tactic| walk_at "evk") => `(tactic| first
  | exact evk_at rfl
  | (refine' evk_n ?evn; (case' evn => walk_at "evn1")))
local macro_rules | `(tactic| walk_at "eva") => `(tactic| first
  | exact ea_nil
  | (with_reducible refine' ea_cons ?a ?b; (case' a => walk_at "ev"); (case' b => walk_at "eva")))
local macro_rules | `(tactic| walk_at "evar") => `(tactic| first
  | exact ear_nil
  | (with_reducible refine' ear_cons ?a ?b; (case' a => walk_at "evr"); (case' b => walk_at "evar")))
local macro_rules | `(tactic| walk_at "evo") => `(tactic| first
  | exact evo_none
  | (with_reducible refine' evo_some ?a; (case' a => walk_at "ev")))
local macro_rules | `(tactic| walk_at "ev1") => `(tactic| first
  | exact evd_int | exact evd_bl | exact evd_non | exact evd_str | exact evd_at rfl
  | (with_reducible refine' evd_add ?a ?b; (case' a => walk_at "ev"); (case' b => walk_at "ev"))
  | (with_reducible refine' evd_sub ?a ?b; (case' a => walk_at "ev"); (case' b => walk_at "ev"))
  | (with_reducible refine' evd_ixt0 ?a; (case' a => walk_at "ev"))
  | (with_reducible refine' evd_ixt1 ?a; (case' a => walk_at "ev"))
  | (with_reducible refine' evd_ixl ?a ?b; (case' a => walk_at "evl"))
  | (with_reducible refine' evd_ixm ?a ?b ?c ?d; (case' a => walk_at "evl"); (case' b => walk_at "ev"))
  | (with_reducible refine' evd_lenm ?a; (case' a => walk_at "evl"))
  | (with_reducible refine' evd_absN ?a; (case' a => walk_at "ev"))
  | (with_reducible refine' evd_lt ?a ?b; (case' a => walk_at "ev"); (case' b => walk_at "ev"))
  | (with_reducible refine' evd_le ?a ?b; (case' a => walk_at "ev"); (case' b => walk_at "ev"))
  | (with_reducible refine' evd_gt ?a ?b; (case' a => walk_at "ev"); (case' b => walk_at "ev"))
  | (with_reducible refine' evd_ge ?a ?b; (case' a => walk_at "ev"); (case' b => walk_at "ev"))
  | (with_reducible refine' evd_eqI ?a ?b; (case' a => walk_at "ev"); (case' b => walk_at "ev"))
  | (with_reducible refine' evd_neI ?a ?b; (case' a => walk_at "ev"); (case' b => walk_at "ev"))
  | (with_reducible refine' evd_eqB ?a ?b; (case' a => walk_at "ev"); (case' b => walk_at "ev"))
  | (with_reducible refine' evd_neB ?a ?b; (case' a => walk_at "ev"); (case' b => walk_at "ev"))
  | (with_reducible refine' evd_isB ?a ?b; (case' a => walk_at "ev"); (case' b => walk_at "ev"))
  | (with_reducible refine' evd_notB ?a ?b; (case' a => walk_at "ev"); (case' b => walk_at "ev"))
  | (with_reducible refine' evd_neg ?a; (case' a => walk_at "ev"))
  | (with_reducible refine' evd_mul ?a ?b ?c; (case' a => walk_at "ev"); (case' b => walk_at "ev"))
  | (with_reducible refine' evd_mulW ?a ?b ?c; (case' a => walk_at "ev"); (case' b => walk_at "ev"))
  | (with_reducible refine' evd_div ?a ?b ?c; (case' a => walk_at "ev"); (case' b => walk_at "ev"))
  | (with_reducible refine' evd_mod ?a ?b ?c; (case' a => walk_at "ev"); (case' b => walk_at "ev"))
  | (with_reducible refine' evd_ltlt ?a ?b ?c; (case' a => walk_at "ev"); (case' b => walk_at "ev"); (case' c => walk_at "ev"))
  | (with_reducible refine' evd_lelt ?a ?b ?c; (case' a => walk_at "ev"); (case' b => walk_at "ev"); (case' c => walk_at "ev"))
  | (with_reducible refine' evd_lele ?a ?b ?c; (case' a => walk_at "ev"); (case' b => walk_at "ev"); (case' c => walk_at "ev"))
  | (with_reducible refine' evd_min2 ?a ?b; (case' a => walk_at "ev"); (case' b => walk_at "ev"))
  | (with_reducible refine' evd_max2 ?a ?b; (case' a => walk_at "ev"); (case' b => walk_at "ev"))
  | (with_reducible refine' evd_sum ?a; (case' a => walk_at "evl"))
  | (with_reducible refine' evd_tup ?a ?b; (case' a => walk_at "eva"); (case' b => decide))
  | (with_reducible refine' evd_not ?a; (case' a => walk_at "ev"))
  | (with_reducible refine' evd_n ?a; (case' a => walk_at "evn1")))
local macro_rules | `(tactic| walk_at "evn1") => `(tactic| first
  | (with_reducible refine' evn_lst ?a ?b; (case' a => walk_at "eva"); (case' b => decide))
  | (with_reducible refine' evn_list ?a; (case' a => walk_at "evl"))
  | (with_reducible refine' evn_sl ?a ?b ?c; (case' a => walk_at "evl"); (case' b => walk_at "evo"); (case' c => walk_at "evo"))
  | (with_reducible refine' evn_rev ?a; (case' a => walk_at "evl")))
local macro_rules | `(tactic| walk_at "evt1") => `(tactic| first
  | (with_reducible refine' evt_test ?a; (case' a => walk_at "ev"))
  | (with_reducible refine' evt_B ?a; (case' a => walk_at "ev"))
  | (with_reducible refine' evt_not ?a; (case' a => walk_at "evt")))
local macro_rules | `(tactic| walk_at "set") => `(tactic| (refine' r_set ?e ?k; (case' e => (walk_at "ev"; (all_goals try walk_at "side"))); (case' k => dsimp only [List.set_cons_zero, List.set_cons_succ])))
local macro_rules | `(tactic| walk_at "setn") => `(tactic| (refine' r_setN ?e ?k; (case' e => (walk_at "evn1"; (all_goals try walk_at "side"))); (case' k => (intro p; dsimp only [List.set_cons_zero, List.set_cons_succ]))))
local macro_rules | `(tactic| walk_at "app") => `(tactic| (refine' r_app rfl ?e ?z ?k; (case' e => (walk_at "ev"; (all_goals try walk_at "side"))); (case' z => walk_at "side"); (case' k => dsimp only [List.set_cons_zero, List.set_cons_succ])))
local macro_rules | `(tactic| walk_at "wk") => `(tactic| first | exact WkL.nil | (refine' WkL.same ?_; walk_at "wk") | (refine' WkL.drop ?_; walk_at "wk"))
section
variable {K : PySem.W.Frag} {δ : List Sl} {ta tb tc te : TE} {d e f : PyData}
theorem run_is_number : ∀ ds d, R_is_number ds d → ∀ B D, RtD K B D d → (d = .none → ∀ δ, Nx K B D δ) → RunS K B (t_is_number K) D (ds.map Sl.d ++ List.replicate (1 - ds.length) Sl.no) := by
  rintro _ _ ⟨x, rfl, rfl⟩ B D k _
  show RunS K B (t_is_number K) D [.d x]
  refine r_ret (evd_is (evd_and (evd_isi (evr_d (evd_at rfl)) (isi_int x)) (fun _ => evd_not (evd_isi (evr_d (evd_at rfl)) (isi_bool x)))) ?_) k
  cases x <;> rfl
theorem ev_is_number {x : PyData} (ha : EvD K ta δ x) : EvD K (tCall (sp_is_number K) [] E0 (tCons ta tNil)) δ (.bool (isNum x)) := evd_call (ea_cons ha ea_nil) ⟨x, rfl, rfl⟩
theorem run_is_house : ∀ ds d, R_is_house ds d → ∀ B D, RtD K B D d → (d = .none → ∀ δ, Nx K B D δ) → RunS K B (t_is_house K) D (ds.map Sl.d ++ List.replicate (1 - ds.length) Sl.no) := by
  rintro _ _ ⟨x, rfl, rfl⟩ B D k _
  show RunS K B (t_is_house K) D [.d x]
  have no : ∀ b : Bool, b = true → isHouse x = false → EvT K (tOr (tNot (tB (tCB (cIsi K) (tCons (tVar 0) (tCons (tC (.ty "tuple")) tNil))))) (tOr (tTest (tOp oNeI (tCB (cLen K) (tCons (tVar 0) tNil)) (tC (.int 2)))) (tNot (tB (tCall (sp_is_number K) [] E0 (tCons (tOp (oIxT K) (tVar 0) (tC (.int 0))) tNil)))))) [.d x] b → RunS K B (t_is_house K) D [.d x] := by
    intro b hb hh ht
    refine r_when ht (fun _ => ?_) (fun z => by rw [hb] at z; cases z)
    refine r_ret (evd_is evd_bl ?_) k
    rw [hh]
  have first : ∀ b : Bool, isTB x = b → EvT K (tNot (tB (tCB (cIsi K) (tCons (tVar 0) (tCons (tC (.ty "tuple")) tNil))))) [.d x] (!b) := by
    intro b hb
    refine evt_not (evt_B (evd_isi (evr_d (evd_at rfl)) ?_))
    rw [isi_tuple, hb]
  cases x with
  | tuple xs =>
    have f := first true rfl
    by_cases h2 : xs.length = 2
    · obtain ⟨a, b, rfl⟩ : ∃ a b, xs = [a, b] := by
        match xs, h2 with
        | [a, b], _ => exact ⟨a, b, rfl⟩
      by_cases ha : isNum a = true
      · refine r_skip (evt_is (evt_or f fun _ => evt_or (evt_test (evd_neI (evd_lenT (evr_d (evd_at rfl))) evd_int)) fun _ => evt_not (evt_B (ev_is_number (evd_ixt0 (evd_at rfl))))) ?_) ?_
        · rw [ha]; rfl
        · cases a with
          | int p =>
            by_cases hb : isNum b = true
            · cases b with
              | int l => exact r_ret (evd_and (ev_is_number (evd_ixt1 (evd_at rfl))) fun _ => evd_ge (evd_ixt1 (evd_at rfl)) evd_int) k
              | _ => cases hb
            · have hb' : isNum b = false := by simpa using hb
              have e : isHouse (.tuple [.int p, b]) = (isNum b && false) := by
                rw [Bool.and_false]
                cases b with
                | int l => cases hb'
                | _ => rfl
              rw [e] at k
              exact r_ret (evd_and (ev_is_number (evd_ixt1 (evd_at rfl))) fun z => by rw [hb'] at z; cases z) k
          | _ => cases ha
      · have ha' : isNum a = false := by simpa using ha
        refine no _ rfl ?_ (evt_is (evt_or f fun _ => evt_or (evt_test (evd_neI (evd_lenT (evr_d (evd_at rfl))) evd_int)) fun _ => evt_not (evt_B (ev_is_number (evd_ixt0 (evd_at rfl))))) ?_)
        · cases a with
          | int p => cases ha'
          | _ => rfl
        · rw [ha']; rfl
    · refine no _ rfl ?_ (evt_is (evt_or (b := true) f fun _ => evt_is (evt_or (b := true) (evt_test (evd_neI (evd_lenT (evr_d (evd_at rfl))) evd_int)) fun z => ?_) ?_) ?_)
      · match xs, h2 with
        | [], _ => rfl
        | [a], _ => cases a <;> rfl
        | a :: b :: c :: r, _ => cases a <;> cases b <;> rfl
      · exfalso
        have : ¬ ((xs.length : Int) = 2) := by omega
        simp [this] at z
      · have : ¬ ((xs.length : Int) = 2) := by omega
        simp [this]
      · rfl
  | _ => exact no true rfl rfl (evt_is (evt_or (b := true) (first false rfl) fun z => nomatch z) rfl)
theorem ev_is_house {x : PyData} (ha : EvD K ta δ x) : EvD K (tCall (sp_is_house K) [] E0 (tCons ta tNil)) δ (.bool (isHouse x)) := evd_call (ea_cons ha ea_nil) ⟨x, rfl, rfl⟩
end
end Ph

set_option Elab.async false
set_option linter.all false
set_option maxRecDepth 100000
set_option maxHeartbeats 2000000
namespace Ph
open PySem PySem.Spec L2
/-! ### steps by themselves -/
local macro_rules | `(tactic| walk_at "side") => `(tactic| first | assumption | decide | omega | (simp only [List.length_map, List.length_append, List.length_cons, List.length_nil, List.length_range, List.length_take, List.length_reverse]; omega))
local macro_rules | `(tactic| walk_at "ev") => `(tactic| (refine' evd_is ?eva ?evb; (case' eva => walk_at "ev1"); (case' evb => first | rfl | skip)))
local macro_rules | `(tactic| walk_at "evt") => `(tactic| (refine' evt_is ?eva ?evb; (case' eva => walk_at "evt1"); (case' evb => first | rfl | skip)))
local macro_rules | `(tactic| walk_at "evr") => `(tactic| first
  | exact evr_l (evl_at rfl)
  | (refine' evr_n ?evn; (case' evn => walk_at "evn1"))
  | (refine' evr_d ?evd; (case' evd => walk_at "ev")))
local macro_rules | `(tactic| walk_at "evl") => `(tactic| first
  | exact evl_at rfl
  | (refine' evl_n ?evn; (case' evn => (refine' evn_is ?eva ?evb; (case' eva => walk_at "evn1"); (case' evb => first | rfl | skip))))
  | (refine' evl_d ?evd; (case' evd => walk_at "ev")))
local macro_rules | `(tactic| walk_at "evk") => `(tactic| first
  | exact evk_at rfl
  | (refine' evk_n ?evn; (case' evn => walk_at "evn1")))
local macro_rules | `(tactic| walk_at "eva") => `(tactic| first
  | exact ea_nil
  | (with_reducible refine' ea_cons ?a ?b; (case' a => walk_at "ev"); (case' b => walk_at "eva")))
local macro_rules | `(tactic| walk_at "evar") => `(tactic| first
  | exact ear_nil
  | (with_reducible refine' ear_cons ?a ?b; (case' a => walk_at "evr"); (case' b => walk_at "evar")))
local macro_rules | `(tactic| walk_at "evo") => `(tactic| first
  | exact evo_none
  | (with_reducible refine' evo_some ?a; (case' a => walk_at "ev")))
local macro_rules | `(tactic| walk_at "ev1") => `(tactic| first
  | exact evd_int | exact evd_bl | exact evd_non | exact evd_str | exact evd_at rfl
  | (with_reducible refine' evd_add ?a ?b; (case' a => walk_at "ev"); (case' b => walk_at "ev"))
  | (with_reducible refine' evd_sub ?a ?b; (case' a => walk_at "ev"); (case' b => walk_at "ev"))
  | (with_reducible refine' evd_ixt0 ?a; (case' a => walk_at "ev"))
  | (with_reducible refine' evd_ixt1 ?a; (case' a => walk_at "ev"))
  | (with_reducible refine' evd_ixl ?a ?b; (case' a => walk_at "evl"))
  | (with_reducible refine' evd_ixm ?a ?b ?c ?d; (case' a => walk_at "evl"); (case' b => walk_at "ev"))
  | (with_reducible refine' evd_lenm ?a; (case' a => walk_at "evl"))
  | (with_reducible refine' evd_absN ?a; (case' a => walk_at "ev"))
  | (with_reducible refine' evd_lt ?a ?b; (case' a => walk_at "ev"); (case' b => walk_at "ev"))
  | (with_reducible refine' evd_le ?a ?b; (case' a => walk_at "ev"); (case' b => walk_at "ev"))
  | (with_reducible refine' evd_gt ?a ?b; (case' a => walk_at "ev"); (case' b => walk_at "ev"))
  | (with_reducible refine' evd_ge ?a ?b; (case' a => walk_at "ev"); (case' b => walk_at "ev"))
  | (with_reducible refine' evd_eqI ?a ?b; (case' a => walk_at "ev"); (case' b => walk_at "ev"))
  | (with_reducible refine' evd_neI ?a ?b; (case' a => walk_at "ev"); (case' b => walk_at "ev"))
  | (with_reducible refine' evd_eqB ?a ?b; (case' a => walk_at "ev"); (case' b => walk_at "ev"))
  | (with_reducible refine' evd_neB ?a ?b; (case' a => walk_at "ev"); (case' b => walk_at "ev"))
  | (with_reducible refine' evd_isB ?a ?b; (case' a => walk_at "ev"); (case' b => walk_at "ev"))
  | (with_reducible refine' evd_notB ?a ?b; (case' a => walk_at "ev"); (case' b => walk_at "ev"))
  | (with_reducible refine' evd_neg ?a; (case' a => walk_at "ev"))
  | (with_reducible refine' evd_mul ?a ?b ?c; (case' a => walk_at "ev"); (case' b => walk_at "ev"))
  | (with_reducible refine' evd_mulW ?a ?b ?c; (case' a => walk_at "ev"); (case' b => walk_at "ev"))
  | (with_reducible refine' evd_div ?a ?b ?c; (case' a => walk_at "ev"); (case' b => walk_at "ev"))
  | (with_reducible refine' evd_mod ?a ?b ?c; (case' a => walk_at "ev"); (case' b => walk_at "ev"))
  | (with_reducible refine' evd_ltlt ?a ?b ?c; (case' a => walk_at "ev"); (case' b => walk_at "ev"); (case' c => walk_at "ev"))
  | (with_reducible refine' evd_lelt ?a ?b ?c; (case' a => walk_at "ev"); (case' b => walk_at "ev"); (case' c => walk_at "ev"))
  | (with_reducible refine' evd_lele ?a ?b ?c; (case' a => walk_at "ev"); (case' b => walk_at "ev"); (case' c => walk_at "ev"))
  | (with_reducible refine' evd_min2 ?a ?b; (case' a => walk_at "ev"); (case' b => walk_at "ev"))
  | (with_reducible refine' evd_max2 ?a ?b; (case' a => walk_at "ev"); (case' b => walk_at "ev"))
  | (with_reducible refine' evd_sum ?a; (case' a => walk_at "evl"))
  | (with_reducible refine' evd_tup ?a ?b; (case' a => walk_at "eva"); (case' b => decide))
  | (with_reducible refine' evd_not ?a; (case' a => walk_at "ev"))
  | (with_reducible refine' evd_n ?a; (case' a => walk_at "evn1")))
local macro_rules | `(tactic| walk_at "evn1") => `(tactic| first
  | (with_reducible refine' evn_lst ?a ?b; (case' a => walk_at "eva"); (case' b => decide))
  | (with_reducible refine' evn_list ?a; (case' a => walk_at "evl"))
  | (with_reducible refine' evn_sl ?a ?b ?c; (case' a => walk_at "evl"); (case' b => walk_at "evo"); (case' c => walk_at "evo"))
  | (with_reducible refine' evn_rev ?a; (case' a => walk_at "evl")))
local macro_rules | `(tactic| walk_at "evt1") => `(tactic| first
  | (with_reducible refine' evt_test ?a; (case' a => walk_at "ev"))
  | (with_reducible refine' evt_B ?a; (case' a => walk_at "ev"))
  | (with_reducible refine' evt_not ?a; (case' a => walk_at "evt")))
local macro_rules | `(tactic| walk_at "set") => `(tactic| (refine' r_set ?e ?k; (case' e => (walk_at "ev"; (all_goals try walk_at "side"))); (case' k => dsimp only [List.set_cons_zero, List.set_cons_succ])))
local macro_rules | `(tactic| walk_at "setn") => `(tactic| (refine' r_setN ?e ?k; (case' e => (walk_at "evn1"; (all_goals try walk_at "side"))); (case' k => (intro p; dsimp only [List.set_cons_zero, List.set_cons_succ]))))
local macro_rules | `(tactic| walk_at "app") => `(tactic| (refine' r_app rfl ?e ?z ?k; (case' e => (walk_at "ev"; (all_goals try walk_at "side"))); (case' z => walk_at "side"); (case' k => dsimp only [List.set_cons_zero, List.set_cons_succ])))
local macro_rules | `(tactic| walk_at "wk") => `(tactic| first | exact WkL.nil | (refine' WkL.same ?_; walk_at "wk") | (refine' WkL.drop ?_; walk_at "wk"))
section
variable {K : PySem.W.Frag} {δ : List Sl} {ta tb tc te : TE} {d e f : PyData}
theorem isHouse_hs (h : Int × Int) (h0 : 0 ≤ h.2) : isHouse (eHs h) = true := decide_eq_true h0
theorem run_asked_road : ∀ ds d, R_asked_road ds d → ∀ B D, RtD K B D d → (d = .none → ∀ δ, Nx K B D δ) → RunS K B (t_asked_road K) D (ds.map Sl.d ++ List.replicate (3 - ds.length) Sl.no) := by
  rintro _ _ ⟨r, rfl, ok, rfl⟩ B D k kn
  show RunS K B (t_asked_road K) D [.d (eRoad r), .no, .no]
  refine r_skip (evt_is (evt_or (evt_not (evt_B (evd_isi (evr_d (evd_at rfl)) kb_list_list))) fun _ => evt_not (evt_B (evd_all (ns := r.map fun _ => true) (evl_is (evl_n (evn_lcL (α := Int × Int) default (xs := r) (en := eHs) (f := fun _ => .bool true) (evd_at rfl) (by have := ok.len; omega) fun x hx => evd_is (ev_is_house (evd_at rfl)) ?_)) ?_)))) ?_) ?_
  · rw [isHouse_hs x (ok.let0 x hx)]
  · rw [List.map_map]; rfl
  · have e : (r.map fun _ => true).all id = true := by rw [List.all_map]; exact List.all_eq_true.mpr fun _ _ => rfl
    rw [e]; rfl
  by_cases h0 : r.length = 0
  · -- no house
    have hr : r = [] := List.length_eq_zero_iff.mp h0
    subst hr
    refine r_skip (evt_is (evt_not (evt_B (evd_all (ns := []) (evl_is (ds := []) (evl_n (evn_is (evn_lc (b := fun _ => true) (f := fun _ => .none) (δi := fun _ => []) (evi_range1' (m := -1) (evd_sub (evd_lenm (α := Int × Int) (xs := []) (en := eHs) (evl_d (evd_at rfl))) evd_int) (by decide) (by decide)) (fun _ _ _ _ _ _ => trivial) (by decide) (fun i hi => absurd hi (by simp)) (fun i hi => absurd hi (by simp)) (fun i hi => absurd hi (by simp))) rfl)) rfl)))) rfl) ?_
    exact r_next (kn rfl _)
  · refine r_skip (evt_is (evt_not (evt_B (evd_all (ns := (List.range (r.length - 1)).map fun _ => true) (evl_is (evl_n (evn_lcR (n := r.length - 1) (f := fun _ => .bool true) (evd_is (evd_sub (evd_lenm (evl_d (evd_at rfl))) evd_int) ?_) (by have := ok.len; omega) fun i hi => ?_)) ?_)))) ?_) ?_
    · have e : ((r.length - 1 : Nat) : Int) = (r.length : Int) - 1 := by omega
      rw [e]
    · refine evd_is (evd_lt (evd_ixt0 (evd_ixm (en := eHs) (evl_d (evd_at rfl)) (evd_at rfl) (by omega) (by omega))) (evd_ixt0 (evd_ixm (en := eHs) (evl_d (evd_at rfl)) (evd_add (evd_at rfl) evd_int) (by omega) (by omega)))) ?_
      have := ok.rise i (by omega)
      rw [Int.toNat_natCast, toNat_add1, decide_eq_true this]
    · rw [List.map_map]; rfl
    · have e : ((List.range (r.length - 1)).map fun _ => true).all id = true := by rw [List.all_map]; exact List.all_eq_true.mpr fun _ _ => rfl
      rw [e]; rfl
    · exact r_next (kn rfl _)
theorem ev_asked_road {r : List (Int × Int)} (ha : EvD K ta δ (eRoad r)) (ok : RoadOk r) : EvD K (tCall (sp_asked_road K) [] E0 (tCons ta tNil)) δ .none := evd_call (ea_cons ha ea_nil) ⟨r, rfl, ok, rfl⟩
theorem risingB_snoc (n : Int) : ∀ (xs : List Int) (last p : Int), risingB n last (xs ++ [p]) = (risingB n last xs && (decide (xs.foldl (fun _ x => x) last < p) && decide (p < n)))
  | [], last, p => by simp [risingB]; rfl
  | x :: xs, last, p => by
    show (decide (last < x) && decide (x < n) && risingB n x (xs ++ [p])) = _
    rw [risingB_snoc n xs x p]
    show _ = (decide (last < x) && decide (x < n) && risingB n x xs && (decide (xs.foldl (fun _ x => x) x < p) && decide (p < n)))
    simp only [Bool.and_assoc]
theorem risingB_take {n : Int} : ∀ {xs : List Int} {last : Int} (i : Nat), risingB n last (xs.take i) = false → risingB n last xs = false
  | [], _, i, h => by simp [risingB] at h
  | x :: xs, last, 0, h => by simp [risingB] at h
  | x :: xs, last, i + 1, h => by
    have h : (decide (last < x) && decide (x < n) && risingB n x (xs.take i)) = false := h
    show (decide (last < x) && decide (x < n) && risingB n x xs) = false
    cases q : (decide (last < x) && decide (x < n)) with
    | false => rfl
    | true =>
      rw [q, Bool.true_and] at h
      rw [Bool.true_and]
      exact risingB_take i h
theorem run_are_posts : ∀ ds d, R_are_posts ds d → ∀ B D, RtD K B D d → (d = .none → ∀ δ, Nx K B D δ) → RunS K B (t_are_posts K) D (ds.map Sl.d ++ List.replicate (4 - ds.length) Sl.no) := by
  rintro _ _ ⟨r, ps, rfl, hl, rfl⟩ B D k _
  show RunS K B (t_are_posts K) D [.d (eRoad r), .d (eInts ps), .no, .no]
  walk_at "set"
  refine r_for (evi_listm (en := PyData.int) (evd_at rfl)) (fun i δ => risingB r.length (-1) (ps.take i) = true ∧ δ = [.d (eRoad r), .d (eInts ps), .d (.int ((ps.take i).foldl (fun _ x => x) (-1))), .no]) ⟨_, by walk_at "wk", rfl, rfl⟩ (fun _ _ _ _ _ _ _ _ _ => trivial) (fun Gb hb i δ' hi hP => ?_) (fun δ' hP => ?_)
  · obtain ⟨hr, rfl⟩ := hP
    refine ⟨_, tg_name, ?_⟩
    dsimp only [List.set_cons_zero, List.set_cons_succ]
    have e := risingB_snoc r.length (ps.take i) (-1) (ps.getD i default)
    rw [hr, Bool.true_and] at e
    rw [← take_snoc ps hi] at e
    refine r_when (evt_not (evt_test (evd_ltlt (evd_at rfl) (evd_at rfl) (evd_lenm (evl_d (evd_at rfl)))))) (fun hb => ?_) (fun hb => ?_)
    · refine r_ret (evd_is evd_bl ?_) k
      have h1 : risingB r.length (-1) (ps.take (i + 1)) = false := by rw [e]; simpa only [Bool.not_eq_true'] using hb
      unfold arePosts
      rw [risingB_take (i + 1) h1]
      rfl
    · walk_at "set"
      refine r_next (nx_inv ?_ ⟨_, rfl, ?_, rfl⟩)
      · rw [take_snoc ps hi, List.foldl_append]
        walk_at "wk"
      · rw [e]; simpa only [Bool.not_eq_false'] using hb
  · obtain ⟨hr, rfl⟩ := hP
    rw [List.take_length] at hr
    refine r_ret (evd_is (evd_or (evd_neE (evr_d (evd_at rfl)) ((shp_ints ps).ok (by decide))) fun _ => evd_eqE (evr_d (evd_at rfl)) ((shp_road r).ok (by decide))) ?_) k
    unfold arePosts
    rw [hr, map_nil, map_nil]
    simp only [List.length_eq_zero_iff, Bool.true_and]
theorem ev_are_posts {r : List (Int × Int)} {ps : List Int} (ha : EvD K ta δ (eRoad r)) (hb : EvD K tb δ (eInts ps)) (hl : r.length ≤ 1000) : EvD K (tCall (sp_are_posts K) [] E0 (tCons ta (tCons tb tNil))) δ (.bool (arePosts r.length ps)) := evd_call (ea_cons ha (ea_cons hb ea_nil)) ⟨r, ps, rfl, hl, rfl⟩
theorem run_asked_posts : ∀ ds d, R_asked_posts ds d → ∀ B D, RtD K B D d → (d = .none → ∀ δ, Nx K B D δ) → RunS K B (t_asked_posts K) D (ds.map Sl.d ++ List.replicate (3 - ds.length) Sl.no) := by
  rintro _ _ ⟨r, ps, rfl, hl, hp, ha, rfl⟩ B D k kn
  show RunS K B (t_asked_posts K) D [.d (eRoad r), .d (eInts ps), .no]
  refine r_skip (evt_is (evt_or (evt_not (evt_B (evd_isi (evr_d (evd_at rfl)) kb_list_list))) fun _ => evt_or (evt_not (evt_B (evd_all (ns := ps.map fun _ => true) (evl_is (evl_n (evn_lcL (α := Int) default (xs := ps) (en := PyData.int) (f := fun _ => .bool true) (evd_at rfl) (by omega) fun x hx => evd_is (ev_is_number (evd_at rfl)) rfl)) ?_)))) fun _ => evt_not (evt_B (ev_are_posts (evd_at rfl) (evd_at rfl) hl))) ?_) (r_next (kn rfl _))
  · rw [List.map_map]; rfl
  · have e : (ps.map fun _ => true).all id = true := by rw [List.all_map]; exact List.all_eq_true.mpr fun _ _ => rfl
    rw [e, ha]; rfl
theorem ev_asked_posts {r : List (Int × Int)} {ps : List Int} (ha : EvD K ta δ (eRoad r)) (hb : EvD K tb δ (eInts ps)) (hl : r.length ≤ 1000) (hp : ps.length ≤ 1000) (h : arePosts r.length ps = true) : EvD K (tCall (sp_asked_posts K) [] E0 (tCons ta (tCons tb tNil))) δ .none :=
  evd_call (ea_cons ha (ea_cons hb ea_nil)) ⟨r, ps, rfl, hl, hp, h, rfl⟩
end
end Ph

set_option Elab.async false
set_option linter.all false
set_option maxRecDepth 100000
set_option maxHeartbeats 2000000
namespace Ph
open PySem PySem.Spec L2
/-! ### steps by themselves -/
local macro_rules | `(tactic| walk_at "side") => `(tactic| first | assumption | decide | omega | (simp only [List.length_map, List.length_append, List.length_cons, List.length_nil, List.length_range, List.length_take, List.length_reverse]; omega))
local macro_rules | `(tactic| walk_at "ev") => `(tactic| (refine' evd_is ?eva ?evb; (case' eva => walk_at "ev1"); (case' evb => first | rfl | skip)))
local macro_rules | `(tactic| walk_at "evt") => `(tactic| (refine' evt_is ?eva ?evb; (case' eva => walk_at "evt1"); (case' evb => first | rfl | skip)))
local macro_rules | `(tactic| walk_at "evr") => `(tactic| first
  | exact evr_l (evl_at rfl)
  | (refine' evr_n ?evn; (case' evn => walk_at "evn1"))
  | (refine' evr_d ?evd; (case' evd => walk_at "ev")))
local macro_rules | `(tactic| walk_at "evl") => `(tactic| first
  | exact evl_at rfl
  | (refine' evl_n ?evn; (case' evn => (refine' evn_is ?eva ?evb; (case' eva => walk_at "evn1"); (case' evb => first | rfl | skip))))
  | (refine' evl_d ?evd; (case' evd => walk_at "ev")))
local macro_rules | `(tactic| walk_at "evk") => `(tactic| first
  | exact evk_at rfl
  | (refine' evk_n ?evn; (case' evn => walk_at "evn1")))
local macro_rules | `(tactic| walk_at "eva") => `(tactic| first
  | exact ea_nil
  | (with_reducible refine' ea_cons ?a ?b; (case' a => walk_at "ev"); (case' b => walk_at "eva")))
local macro_rules | `(tactic| walk_at "evar") => `(tactic| first
  | exact ear_nil
  | (with_reducible refine' ear_cons ?a ?b; (case' a => walk_at "evr"); (case' b => walk_at "evar")))
local macro_rules | `(tactic| walk_at "evo") => `(tactic| first
  | exact evo_none
  | (with_reducible refine' evo_some ?a; (case' a => walk_at "ev")))
local macro_rules | `(tactic| walk_at "ev1") => `(tactic| first
  | exact evd_int | exact evd_bl | exact evd_non | exact evd_str | exact evd_at rfl
  | (with_reducible refine' evd_add ?a ?b; (case' a => walk_at "ev"); (case' b => walk_at "ev"))
  | (with_reducible refine' evd_sub ?a ?b; (case' a => walk_at "ev"); (case' b => walk_at "ev"))
  | (with_reducible refine' evd_ixt0 ?a; (case' a => walk_at "ev"))
  | (with_reducible refine' evd_ixt1 ?a; (case' a => walk_at "ev"))
  | (with_reducible refine' evd_ixl ?a ?b; (case' a => walk_at "evl"))
  | (with_reducible refine' evd_ixm ?a ?b ?c ?d; (case' a => walk_at "evl"); (case' b => walk_at "ev"))
  | (with_reducible refine' evd_lenm ?a; (case' a => walk_at "evl"))
  | (with_reducible refine' evd_absN ?a; (case' a => walk_at "ev"))
  | (with_reducible refine' evd_lt ?a ?b; (case' a => walk_at "ev"); (case' b => walk_at "ev"))
  | (with_reducible refine' evd_le ?a ?b; (case' a => walk_at "ev"); (case' b => walk_at "ev"))
  | (with_reducible refine' evd_gt ?a ?b; (case' a => walk_at "ev"); (case' b => walk_at "ev"))
  | (with_reducible refine' evd_ge ?a ?b; (case' a => walk_at "ev"); (case' b => walk_at "ev"))
  | (with_reducible refine' evd_eqI ?a ?b; (case' a => walk_at "ev"); (case' b => walk_at "ev"))
  | (with_reducible refine' evd_neI ?a ?b; (case' a => walk_at "ev"); (case' b => walk_at "ev"))
  | (with_reducible refine' evd_eqB ?a ?b; (case' a => walk_at "ev"); (case' b => walk_at "ev"))
  | (with_reducible refine' evd_neB ?a ?b; (case' a => walk_at "ev"); (case' b => walk_at "ev"))
  | (with_reducible refine' evd_isB ?a ?b; (case' a => walk_at "ev"); (case' b => walk_at "ev"))
  | (with_reducible refine' evd_notB ?a ?b; (case' a => walk_at "ev"); (case' b => walk_at "ev"))
  | (with_reducible refine' evd_neg ?a; (case' a => walk_at "ev"))
  | (with_reducible refine' evd_mul ?a ?b ?c; (case' a => walk_at "ev"); (case' b => walk_at "ev"))
  | (with_reducible refine' evd_mulW ?a ?b ?c; (case' a => walk_at "ev"); (case' b => walk_at "ev"))
  | (with_reducible refine' evd_div ?a ?b ?c; (case' a => walk_at "ev"); (case' b => walk_at "ev"))
  | (with_reducible refine' evd_mod ?a ?b ?c; (case' a => walk_at "ev"); (case' b => walk_at "ev"))
  | (with_reducible refine' evd_ltlt ?a ?b ?c; (case' a => walk_at "ev"); (case' b => walk_at "ev"); (case' c => walk_at "ev"))
  | (with_reducible refine' evd_lelt ?a ?b ?c; (case' a => walk_at "ev"); (case' b => walk_at "ev"); (case' c => walk_at "ev"))
  | (with_reducible refine' evd_lele ?a ?b ?c; (case' a => walk_at "ev"); (case' b => walk_at "ev"); (case' c => walk_at "ev"))
  | (with_reducible refine' evd_min2 ?a ?b; (case' a => walk_at "ev"); (case' b => walk_at "ev"))
  | (with_reducible refine' evd_max2 ?a ?b; (case' a => walk_at "ev"); (case' b => walk_at "ev"))
  | (with_reducible refine' evd_sum ?a; (case' a => walk_at "evl"))
  | (with_reducible refine' evd_tup ?a ?b; (case' a => walk_at "eva"); (case' b => decide))
  | (with_reducible refine' evd_not ?a; (case' a => walk_at "ev"))
  | (with_reducible refine' evd_n ?a; (case' a => walk_at "evn1")))
local macro_rules | `(tactic| walk_at "evn1") => `(tactic| first
  | (with_reducible refine' evn_lst ?a ?b; (case' a => walk_at "eva"); (case' b => decide))
  | (with_reducible refine' evn_list ?a; (case' a => walk_at "evl"))
  | (with_reducible refine' evn_sl ?a ?b ?c; (case' a => walk_at "evl"); (case' b => walk_at "evo"); (case' c => walk_at "evo"))
  | (with_reducible refine' evn_rev ?a; (case' a => walk_at "evl")))
local macro_rules | `(tactic| walk_at "evt1") => `(tactic| first
  | (with_reducible refine' evt_test ?a; (case' a => walk_at "ev"))
  | (with_reducible refine' evt_B ?a; (case' a => walk_at "ev"))
  | (with_reducible refine' evt_not ?a; (case' a => walk_at "evt")))
local macro_rules | `(tactic| walk_at "set") => `(tactic| (refine' r_set ?e ?k; (case' e => (walk_at "ev"; (all_goals try walk_at "side"))); (case' k => dsimp only [List.set_cons_zero, List.set_cons_succ])))
local macro_rules | `(tactic| walk_at "setn") => `(tactic| (refine' r_setN ?e ?k; (case' e => (walk_at "evn1"; (all_goals try walk_at "side"))); (case' k => (intro p; dsimp only [List.set_cons_zero, List.set_cons_succ]))))
local macro_rules | `(tactic| walk_at "app") => `(tactic| (refine' r_app rfl ?e ?z ?k; (case' e => (walk_at "ev"; (all_goals try walk_at "side"))); (case' z => walk_at "side"); (case' k => dsimp only [List.set_cons_zero, List.set_cons_succ])))
local macro_rules | `(tactic| walk_at "wk") => `(tactic| first | exact WkL.nil | (refine' WkL.same ?_; walk_at "wk") | (refine' WkL.drop ?_; walk_at "wk"))
section
variable {K : PySem.W.Frag} {δ : List Sl} {ta tb tc te : TE} {d e f : PyData}
/-- road[posts[i]][0] -/
theorem ev_pl {r : List (Int × Int)} {ps : List Int} {i : Int} (k : Nat) (ha : EvL K ta δ (r.map eHs)) (hb : EvL K tb δ (ps.map PyData.int)) (hi : EvD K tc δ (.int i)) (e : i = (k : Int)) (hk : k < ps.length) (h : 0 ≤ ps.getD k 0 ∧ ps.getD k 0 < r.length) :
    EvD K (tOp (oIxT K) (tOp (oIx K) ta (tOp (oIx K) tb tc)) (tC (.int 0))) δ (.int (pl r (ps.getD k 0))) := by
  subst e
  have h' : 0 ≤ ps.getD ((k : Int)).toNat default ∧ ps.getD ((k : Int)).toNat default < r.length := by rw [Int.toNat_natCast]; exact h
  refine evd_is (evd_ixt0 (evd_ixm (en := eHs) ha (evd_ixm (en := PyData.int) hb hi (by omega) (by omega)) h'.1 h'.2)) ?_
  rw [Int.toNat_natCast]
  rfl
theorem big_mul {a b : Int} (ha : a.natAbs < 2 ^ 1000) (hb : b.natAbs < 2 ^ 1000) : CMulW a b := wide_mul ha hb (by decide) (by decide) (by decide)
theorem abs_big {a b : Int} (ha : a.natAbs < 2 ^ 300) (hb : b.natAbs < 2 ^ 300) : ((a - b).natAbs : Int).natAbs < 2 ^ 1000 := by
  have h1 : (a - b).natAbs ≤ a.natAbs + b.natAbs := by omega
  have h2 : (2 : Nat) ^ 300 + 2 ^ 300 ≤ 2 ^ 1000 := by decide +kernel
  rw [Int.natAbs_natCast]
  omega
theorem up_big {a : Int} (ha : a.natAbs < 2 ^ 300) : a.natAbs < 2 ^ 1000 := Nat.lt_trans ha (by decide +kernel)
theorem pl_big {r : List (Int × Int)} (ok : RoadOk r) (p : Int) : (pl r p).natAbs < 2 ^ 300 := by
  unfold pl
  by_cases h : p.toNat < r.length
  · exact (ok.big _ (getD_mem h)).1
  · rw [List.getD_eq_getElem?_getD, List.getElem?_eq_none (by omega)]
    decide +kernel
theorem run_nearest_of : ∀ ds d, R_nearest_of ds d → ∀ B D, RtN K B D d → RunS K B (t_nearest_of K) D (ds.map Sl.d ++ List.replicate (6 - ds.length) Sl.no) := by
  rintro _ _ ⟨r, ps, rfl, ok, hp, rfl⟩ B D k
  show RunS K B (t_nearest_of K) D [.d (eRoad r), .d (eInts ps), .no, .no, .no, .no]
  have po := postsOk hp
  walk_at "setn"
  rename_i p
  walk_at "set"
  refine r_forE (evi_listm (en := eHs) (evd_at rfl)) (fun i => [.d (eRoad r), .d (eInts ps), .m p (((ptrs (ps.map (pl r)) ((r.map (·.1)).take i) 0).map fun a => ps.getD a 0).map .int), .d (.int ((ptr (ps.map (pl r)) ((r.map (·.1)).take i) 0 : Nat) : Int)), .no, .no]) (by walk_at "wk") (fun Gb hb i hi => ?_) ?_
  · refine ⟨_, tg_tup (tgs_cons tg_name (tgs_cons tg_name tgs_nil)) rfl, ?_⟩
    dsimp only [List.set_cons_zero, List.set_cons_succ]
    have hr : 0 < r.length := by omega
    have hq : 0 < (ps.map (pl r)).length := by rw [List.length_map]; exact po.some hr
    have hqa : ∀ a, a < ps.length → (ps.map (pl r)).getD a 0 = pl r (ps.getD a 0) := fun a ha => getD_mapI (α := Int) ha
    generalize hx : (r.getD i default).1 = x
    generalize (r.getD i default).2 = l
    generalize ha0 : ptr (ps.map (pl r)) ((r.map (·.1)).take i) 0 = a0
    have ha0l : a0 < ps.length := by rw [← ha0]; have := ptr_lt (q := ps.map (pl r)) ((r.map (·.1)).take i) 0 hq; rw [List.length_map] at this; exact this
    refine r_while (fun m δ => ∃ a, adv (ps.map (pl r)) x a = adv (ps.map (pl r)) x a0 ∧ a < ps.length ∧ m = ps.length - a ∧ δ = [.d (eRoad r), .d (eInts ps), .m p (((ptrs (ps.map (pl r)) ((r.map (·.1)).take i) 0).map fun a => ps.getD a 0).map .int), .d (.int (a : Int)), .d (.int x), .d (.int l)]) _ ⟨_, WkL.refl _, a0, rfl, ha0l, rfl, rfl⟩ ?_
    rintro m _ ⟨a, h1, h2, h3, rfl⟩
    refine ⟨_, evt_and (evt_test (evd_lt (evd_add (evd_at rfl) evd_int) (evd_lenm (en := PyData.int) (evl_d (evd_at rfl))))) fun h => evt_test (evd_lt (evd_absN (evd_sub (ev_pl (a + 1) (evl_d (evd_at rfl)) (evl_d (evd_at rfl)) (evd_add (evd_at rfl) evd_int) rfl ?_ ?_) (evd_at rfl))) (evd_absN (evd_sub (ev_pl a (evl_d (evd_at rfl)) (evl_d (evd_at rfl)) (evd_at rfl) rfl h2 (po.bnd a h2)) (evd_at rfl)))), fun h => ?_, fun h => ?_⟩
    · have := of_decide_eq_true h; omega
    · have := of_decide_eq_true h; exact po.bnd (a + 1) (by omega)
    · simp only [Bool.and_eq_true, decide_eq_true_eq] at h
      have hl : a + 1 < ps.length := by omega
      walk_at "set"
      refine r_next (nx_inv (WkL.refl _) ⟨_, rfl, m - 1, by omega, a + 1, ?_, hl, by omega, rfl⟩)
      rw [← h1]
      refine (adv_go ⟨by rw [List.length_map]; exact hl, ?_⟩).symm
      rw [hqa _ hl, hqa _ h2]
      have := h.2
      omega
    · have h0 : adv (ps.map (pl r)) x a = a := by
        refine adv_stop fun z => ?_
        rw [List.length_map] at z
        rw [hqa _ z.1, hqa _ h2] at z
        simp only [Bool.and_eq_false_iff, decide_eq_false_iff_not] at h
        omega
      have hxi : (r.map (·.1)).getD i default = x := by rw [← hx]; exact getD_mapI (f := fun h : Int × Int => h.1) hi
      have e1 : (r.map (·.1)).take (i + 1) = (r.map (·.1)).take i ++ [x] := by rw [take_snoc _ (by rw [List.length_map]; exact hi), hxi]
      refine r_app rfl (evd_ixm (en := PyData.int) (evl_d (evd_at rfl)) (evd_at rfl) (by omega) (by omega)) ?_ ?_
      · rw [List.length_map, List.length_map, ptrs_length, List.length_take, List.length_map]
        have := ok.len
        omega
      · dsimp only [List.set_cons_zero, List.set_cons_succ]
        refine r_next (nx_env ?_)
        have ea : a = adv (ps.map (pl r)) x a0 := by rw [← h1, h0]
        rw [e1, ptrs_snoc, ptr_snoc, ha0, ← ea, List.map_append, List.map_append, Int.toNat_natCast]
        walk_at "wk"
  · refine r_retM rfl ?_
    have e : (r.map (·.1)).take r.length = r.map (·.1) := List.take_of_length_le (by rw [List.length_map]; exact Nat.le_refl _)
    rw [e]
    exact k
theorem ev_nearest_of {r : List (Int × Int)} {ps : List Int} (ha : EvD K ta δ (eRoad r)) (hb : EvD K tb δ (eInts ps)) (ok : RoadOk r) (h : arePosts r.length ps = true) : EvN K (tCall (sp_nearest_of K) [] E0 (tCons ta (tCons tb tNil))) δ ((nearL r ps).map .int) :=
  evn_call (ea_cons ha (ea_cons hb ea_nil)) ⟨r, ps, rfl, ok, h, rfl⟩
theorem run_way_of : ∀ ds d, R_way_of ds d → ∀ B D, RtD K B D d → (d = .none → ∀ δ, Nx K B D δ) → RunS K B (t_way_of K) D (ds.map Sl.d ++ List.replicate (5 - ds.length) Sl.no) := by
  rintro _ _ ⟨r, ps, rfl, ok, hp, rfl⟩ B D k _
  show RunS K B (t_way_of K) D [.d (eRoad r), .d (eInts ps), .no, .no, .no]
  have po := postsOk hp
  have hl := nearL_length r ps
  walk_at "set"
  refine r_forE (evi_zipm (en := eHs) (eo := PyData.int) (evd_at rfl) (evd_n (ev_nearest_of (evd_at rfl) (evd_at rfl) ok hp)) hl.symm) (fun i => [.d (eRoad r), .d (eInts ps), .d (.int (((r.zip (nearL r ps)).take i).map (wayT r)).sum), .no, .no]) (by walk_at "wk") (fun Gb hb i hi => ?_) ?_
  · refine ⟨_, tg_tup (tgs_cons tg_name (tgs_cons tg_name tgs_nil)) rfl, ?_⟩
    dsimp only [List.set_cons_zero, List.set_cons_succ]
    have hbd := nearL_bnd po hi
    have hm := getD_mem hi
    have hz : (r.zip (nearL r ps)).getD i default = (r.getD i default, (nearL r ps).getD i default) := by
      have h1 : i < (nearL r ps).length := by omega
      simp [List.getD_eq_getElem?_getD, List.getElem?_zip_eq_some, hi, h1, List.getElem?_eq_getElem, List.zip, List.getElem?_zipWith]
    refine r_set (evd_add (evd_at rfl) (evd_mulW (evd_ixt1 (evd_at rfl)) (evd_absN (evd_sub (evd_ixt0 (evd_at rfl)) (evd_ixt0 (evd_ixm (en := eHs) (evl_d (evd_at rfl)) (evd_at rfl) hbd.1 hbd.2)))) (big_mul (up_big (ok.big _ hm).2) (abs_big (ok.big _ hm).1 (pl_big ok _))))) ?_
    dsimp only [List.set_cons_zero, List.set_cons_succ]
    refine r_next (nx_env ?_)
    rw [take_snoc _ (by rw [List.length_zip]; omega), hz, List.map_append, List.sum_append]
    have e : ([(r.getD i default, (nearL r ps).getD i default)].map (wayT r)).sum = (r.getD i default).2 * (((r.getD i default).1 - (r.getD ((nearL r ps).getD i default).toNat default).1).natAbs : Int) := by
      simp [wayT, pl]
    rw [e]
    walk_at "wk"
  · have e : (r.zip (nearL r ps)).take r.length = r.zip (nearL r ps) := List.take_of_length_le (by rw [List.length_zip]; omega)
    rw [e]
    exact r_ret (evd_at rfl) k
theorem ev_way_of {r : List (Int × Int)} {ps : List Int} (ha : EvD K ta δ (eRoad r)) (hb : EvD K tb δ (eInts ps)) (ok : RoadOk r) (h : arePosts r.length ps = true) : EvD K (tCall (sp_way_of K) [] E0 (tCons ta (tCons tb tNil))) δ (.int (wayL r ps)) :=
  evd_call (ea_cons ha (ea_cons hb ea_nil)) ⟨r, ps, rfl, ok, h, rfl⟩
theorem run_nearest : ∀ ds d, R_nearest ds d → ∀ B D, RtN K B D d → RunS K B (t_nearest K) D (ds.map Sl.d ++ List.replicate (2 - ds.length) Sl.no) := by
  rintro _ _ ⟨r, ps, rfl, ok, hp, hl, rfl⟩ B D k
  show RunS K B (t_nearest K) D [.d (eRoad r), .d (eInts ps)]
  exact r_drop (ev_asked_road (evd_at rfl) ok) (r_drop (ev_asked_posts (evd_at rfl) (evd_at rfl) ok.len hl hp) (r_retN (ev_nearest_of (evd_at rfl) (evd_at rfl) ok hp) k))
theorem ev_nearest {r : List (Int × Int)} {ps : List Int} (ha : EvD K ta δ (eRoad r)) (hb : EvD K tb δ (eInts ps)) (ok : RoadOk r) (h : arePosts r.length ps = true) (hl : ps.length ≤ 1000) : EvN K (tCall (sp_nearest K) [] E0 (tCons ta (tCons tb tNil))) δ ((nearL r ps).map .int) :=
  evn_call (ea_cons ha (ea_cons hb ea_nil)) ⟨r, ps, rfl, ok, h, hl, rfl⟩
theorem run_way : ∀ ds d, R_way ds d → ∀ B D, RtD K B D d → (d = .none → ∀ δ, Nx K B D δ) → RunS K B (t_way K) D (ds.map Sl.d ++ List.replicate (2 - ds.length) Sl.no) := by
  rintro _ _ ⟨r, ps, rfl, ok, hp, hl, rfl⟩ B D k _
  show RunS K B (t_way K) D [.d (eRoad r), .d (eInts ps)]
  exact r_drop (ev_asked_road (evd_at rfl) ok) (r_drop (ev_asked_posts (evd_at rfl) (evd_at rfl) ok.len hl hp) (r_ret (ev_way_of (evd_at rfl) (evd_at rfl) ok hp) k))
theorem ev_way {r : List (Int × Int)} {ps : List Int} (ha : EvD K ta δ (eRoad r)) (hb : EvD K tb δ (eInts ps)) (ok : RoadOk r) (h : arePosts r.length ps = true) (hl : ps.length ≤ 1000) : EvD K (tCall (sp_way K) [] E0 (tCons ta (tCons tb tNil))) δ (.int (wayL r ps)) :=
  evd_call (ea_cons ha (ea_cons hb ea_nil)) ⟨r, ps, rfl, ok, h, hl, rfl⟩
end
end Ph

set_option Elab.async false
set_option linter.all false
set_option maxRecDepth 100000
set_option maxHeartbeats 2000000
namespace Ph
open PySem PySem.Spec L2
/-! ### steps by themselves -/
local macro_rules | `(tactic| walk_at "side") => `(tactic| first | assumption | decide | omega | (simp only [List.length_map, List.length_append, List.length_cons, List.length_nil, List.length_range, List.length_take, List.length_reverse]; omega))
local macro_rules | `(tactic| walk_at "ev") => `(tactic| (refine' evd_is ?eva ?evb; (case' eva => walk_at "ev1"); (case' evb => first | rfl | skip)))
local macro_rules | `(tactic| walk_at "evt") => `(tactic| (refine' evt_is ?eva ?evb; (case' eva => walk_at "evt1"); (case' evb => first | rfl | skip)))
local macro_rules | `(tactic| walk_at "evr") => `(tactic| first
  | exact evr_l (evl_at rfl)
  | (refine' evr_n ?evn; (case' evn => walk_at "evn1"))
  | (refine' evr_d ?evd; (case' evd => walk_at "ev")))
local macro_rules | `(tactic| walk_at "evl") => `(tactic| first
  | exact evl_at rfl
  | (refine' evl_n ?evn; (case' evn => (refine' evn_is ?eva ?evb; (case' eva => walk_at "evn1"); (case' evb => first | rfl | skip))))
  | (refine' evl_d ?evd; (case' evd => walk_at "ev")))
local macro_rules | `(tactic| walk_at "evk") => `(tactic| first
  | exact evk_at rfl
  | (refine' evk_n ?evn; (case' evn => walk_at "evn1")))
local macro_rules | `(tactic| walk_at "eva") => `(tactic| first
  | exact ea_nil
  | (with_reducible refine' ea_cons ?a ?b; (case' a => walk_at "ev"); (case' b => walk_at "eva")))
local macro_rules | `(tactic| walk_at "evar") => `(tactic| first
  | exact ear_nil
  | (with_reducible refine' ear_cons ?a ?b; (case' a => walk_at "evr"); (case' b => walk_at "evar")))
local macro_rules | `(tactic| walk_at "evo") => `(tactic| first
  | exact evo_none
  | (with_reducible refine' evo_some ?a; (case' a => walk_at "ev")))
local macro_rules | `(tactic| walk_at "ev1") => `(tactic| first
  | exact evd_int | exact evd_bl | exact evd_non | exact evd_str | exact evd_at rfl
  | (with_reducible refine' evd_add ?a ?b; (case' a => walk_at "ev"); (case' b => walk_at "ev"))
  | (with_reducible refine' evd_sub ?a ?b; (case' a => walk_at "ev"); (case' b => walk_at "ev"))
  | (with_reducible refine' evd_ixt0 ?a; (case' a => walk_at "ev"))
  | (with_reducible refine' evd_ixt1 ?a; (case' a => walk_at "ev"))
  | (with_reducible refine' evd_ixl ?a ?b; (case' a => walk_at "evl"))
  | (with_reducible refine' evd_ixm ?a ?b ?c ?d; (case' a => walk_at "evl"); (case' b => walk_at "ev"))
  | (with_reducible refine' evd_lenm ?a; (case' a => walk_at "evl"))
  | (with_reducible refine' evd_absN ?a; (case' a => walk_at "ev"))
  | (with_reducible refine' evd_lt ?a ?b; (case' a => walk_at "ev"); (case' b => walk_at "ev"))
  | (with_reducible refine' evd_le ?a ?b; (case' a => walk_at "ev"); (case' b => walk_at "ev"))
  | (with_reducible refine' evd_gt ?a ?b; (case' a => walk_at "ev"); (case' b => walk_at "ev"))
  | (with_reducible refine' evd_ge ?a ?b; (case' a => walk_at "ev"); (case' b => walk_at "ev"))
  | (with_reducible refine' evd_eqI ?a ?b; (case' a => walk_at "ev"); (case' b => walk_at "ev"))
  | (with_reducible refine' evd_neI ?a ?b; (case' a => walk_at "ev"); (case' b => walk_at "ev"))
  | (with_reducible refine' evd_eqB ?a ?b; (case' a => walk_at "ev"); (case' b => walk_at "ev"))
  | (with_reducible refine' evd_neB ?a ?b; (case' a => walk_at "ev"); (case' b => walk_at "ev"))
  | (with_reducible refine' evd_isB ?a ?b; (case' a => walk_at "ev"); (case' b => walk_at "ev"))
  | (with_reducible refine' evd_notB ?a ?b; (case' a => walk_at "ev"); (case' b => walk_at "ev"))
  | (with_reducible refine' evd_neg ?a; (case' a => walk_at "ev"))
  | (with_reducible refine' evd_mul ?a ?b ?c; (case' a => walk_at "ev"); (case' b => walk_at "ev"))
  | (with_reducible refine' evd_mulW ?a ?b ?c; (case' a => walk_at "ev"); (case' b => walk_at "ev"))
  | (with_reducible refine' evd_div ?a ?b ?c; (case' a => walk_at "ev"); (case' b => walk_at "ev"))
  | (with_reducible refine' evd_mod ?a ?b ?c; (case' a => walk_at "ev"); (case' b => walk_at "ev"))
  | (with_reducible refine' evd_ltlt ?a ?b ?c; (case' a => walk_at "ev"); (case' b => walk_at "ev"); (case' c => walk_at "ev"))
  | (with_reducible refine' evd_lelt ?a ?b ?c; (case' a => walk_at "ev"); (case' b => walk_at "ev"); (case' c => walk_at "ev"))
  | (with_reducible refine' evd_lele ?a ?b ?c; (case' a => walk_at "ev"); (case' b => walk_at "ev"); (case' c => walk_at "ev"))
  | (with_reducible refine' evd_min2 ?a ?b; (case' a => walk_at "ev"); (case' b => walk_at "ev"))
  | (with_reducible refine' evd_max2 ?a ?b; (case' a => walk_at "ev"); (case' b => walk_at "ev"))
  | (with_reducible refine' evd_sum ?a; (case' a => walk_at "evl"))
  | (with_reducible refine' evd_tup ?a ?b; (case' a => walk_at "eva"); (case' b => decide))
  | (with_reducible refine' evd_not ?a; (case' a => walk_at "ev"))
  | (with_reducible refine' evd_n ?a; (case' a => walk_at "evn1")))
local macro_rules | `(tactic| walk_at "evn1") => `(tactic| first
  | (with_reducible refine' evn_lst ?a ?b; (case' a => walk_at "eva"); (case' b => decide))
  | (with_reducible refine' evn_list ?a; (case' a => walk_at "evl"))
  | (with_reducible refine' evn_sl ?a ?b ?c; (case' a => walk_at "evl"); (case' b => walk_at "evo"); (case' c => walk_at "evo"))
  | (with_reducible refine' evn_rev ?a; (case' a => walk_at "evl")))
local macro_rules | `(tactic| walk_at "evt1") => `(tactic| first
  | (with_reducible refine' evt_test ?a; (case' a => walk_at "ev"))
  | (with_reducible refine' evt_B ?a; (case' a => walk_at "ev"))
  | (with_reducible refine' evt_not ?a; (case' a => walk_at "evt")))
local macro_rules | `(tactic| walk_at "set") => `(tactic| (refine' r_set ?e ?k; (case' e => (walk_at "ev"; (all_goals try walk_at "side"))); (case' k => dsimp only [List.set_cons_zero, List.set_cons_succ])))
local macro_rules | `(tactic| walk_at "setn") => `(tactic| (refine' r_setN ?e ?k; (case' e => (walk_at "evn1"; (all_goals try walk_at "side"))); (case' k => (intro p; dsimp only [List.set_cons_zero, List.set_cons_succ]))))
local macro_rules | `(tactic| walk_at "app") => `(tactic| (refine' r_app rfl ?e ?z ?k; (case' e => (walk_at "ev"; (all_goals try walk_at "side"))); (case' z => walk_at "side"); (case' k => dsimp only [List.set_cons_zero, List.set_cons_succ])))
local macro_rules | `(tactic| walk_at "wk") => `(tactic| first | exact WkL.nil | (refine' WkL.same ?_; walk_at "wk") | (refine' WkL.drop ?_; walk_at "wk"))
section
variable {K : PySem.W.Frag} {δ : List Sl} {ta tb tc te : TE} {d e f : PyData}
theorem run_law_numbers : ∀ ds d, R_law_numbers ds d → ∀ B D, RtD K B D d → (d = .none → ∀ δ, Nx K B D δ) → RunS K B (t_law_numbers K) D (ds.map Sl.d ++ List.replicate (2 - ds.length) Sl.no) := by
  rintro _ _ ⟨ns, rfl, hl, rfl⟩ B D k _
  show RunS K B (t_law_numbers K) D [.d (eInts ns), .no]
  refine r_skip (evt_is (evt_not (evt_B (evd_isi (evr_d (evd_at rfl)) kb_list_list))) rfl) ?_
  refine r_ret (evd_is (evd_all (ns := ns.map fun _ => true) (evl_is (evl_n (evn_lcL (α := Int) default (xs := ns) (en := PyData.int) (f := fun _ => .bool true) (evd_at rfl) (by omega) fun x hx => evd_is (evd_and (evd_isi (d := .int x) (evr_d (evd_at rfl)) kb_int_int) fun _ => evd_not (evd_isi (d := .int x) (evr_d (evd_at rfl)) kb_int_bool)) rfl)) ?_)) ?_) k
  · rw [List.map_map]; rfl
  · have e : (ns.map fun _ => true).all id = true := by rw [List.all_map]; exact List.all_eq_true.mpr fun _ _ => rfl
    rw [e]
theorem ev_law_numbers {ns : List Int} (ha : EvR K ta δ (eInts ns)) (hl : ns.length ≤ 1000) : EvD K (tCall (sp_law_numbers K) [] E0 (tCons ta tNil)) δ (.bool true) := evd_callR (ear_cons ha ear_nil) ⟨ns, rfl, hl, rfl⟩ rfl
theorem emod4 {m : Int} (c : Int) (hc : 0 < c) : 0 ≤ m % c ∧ m % c < c := ⟨Int.emod_nonneg _ (by omega), Int.emod_lt_of_pos _ hc⟩
/-- (a, b, c, d)[m % 4] -/
theorem ev_pick {m : Int} {a b c d : Int} (h : EvD K ta δ (.tuple [.int a, .int b, .int c, .int d])) (hm : EvD K tb δ (.int m)) (hb : 0 ≤ m ∧ m < 4) : EvD K (tOp (oIxT K) ta tb) δ (.int (([a, b, c, d] : List Int).getD m.toNat 0)) :=
  evd_ixT (ds := ([a, b, c, d] : List Int).map PyData.int) h hm (atI_nn (xs := ([a, b, c, d] : List Int)) (en := PyData.int) hb.1 hb.2)
theorem run_law_posts : ∀ ds d, R_law_posts ds d → ∀ B D, RtD K B D d → (d = .none → ∀ δ, Nx K B D δ) → RunS K B (t_law_posts K) D (ds.map Sl.d ++ List.replicate (4 - ds.length) Sl.no) := by
  rintro _ _ ⟨s, n, rfl, hl, hn, rfl⟩ B D k _
  show RunS K B (t_law_posts K) D [.d (eInts s), .d (.int n), .no, .no]
  refine r_set (d := eInts (lawDrawn s n)) (evd_is (evd_n (evn_lc (b := fun i => decide (s.getD i 0 / 7 % 4 = 0)) (f := fun (i : Nat) => PyData.int (i : Int)) (δi := fun i => [.d (eInts s), .d (.int n), .no, .d (.int (i : Int))]) (evi_range1 (evd_at rfl) (by omega)) (fun _ _ _ _ _ _ => trivial) (by omega) (fun i hi => tv_name (by simp)) (fun i hi => ?_) (fun i hi _ => evd_at rfl))) ?_) ?_
  · refine evt_is (evt_test (evd_eqI (evd_mod (evd_div (evd_ixm (en := PyData.int) (evl_d (evd_at rfl)) (evd_at rfl) (by omega) (by omega)) evd_int ⟨by decide, by decide⟩) evd_int (by decide)) evd_int)) ?_
    rw [Int.toNat_natCast]
    rfl
  · unfold lawDrawn eInts
    rw [List.map_map]
    rfl
  · dsimp only [List.set_cons_zero, List.set_cons_succ]
    refine r_ret (evd_is (evd_if (d := eInts (lawPosts s n)) (evt_or (evt_test (evd_neE (evr_d (evd_at rfl)) ((shp_ints _).ok (by decide)))) fun _ => evt_test (evd_eqI (evd_at rfl) evd_int)) (fun h => ?_) (fun h => ?_)) rfl) k
    · rw [map_nil] at h
      have e : lawPosts s n = lawDrawn s n := by
        unfold lawPosts
        refine if_pos ?_
        simpa using h
      rw [e]
      exact evd_at rfl
    · rw [map_nil] at h
      have h' : lawDrawn s n = [] ∧ ¬ ((n : Int) = 0) := by simpa using h
      have e : lawPosts s n = [s.sum % n] := by
        unfold lawPosts
        refine if_neg ?_
        rintro (z | z)
        · exact z h'.1
        · apply h'.2; omega
      rw [e]
      exact evd_n (evn_lst (ea_cons (evd_mod (evd_sum (evl_d (evd_at rfl))) (evd_at rfl) (by omega)) ea_nil) (by simp))
theorem ev_law_posts {s : List Int} {n : Nat} (ha : EvD K ta δ (eInts s)) (hb : EvD K tb δ (.int (n : Int))) (hl : s.length ≤ 63) (hn : n ≤ s.length) : EvD K (tCall (sp_law_posts K) [] E0 (tCons ta (tCons tb tNil))) δ (eInts (lawPosts s n)) := evd_call (ea_cons ha (ea_cons hb ea_nil)) ⟨s, n, rfl, hl, hn, rfl⟩
theorem run_law_road : ∀ ds d, R_law_road ds d → ∀ B D, RtN K B D d → RunS K B (t_law_road K) D (ds.map Sl.d ++ List.replicate (8 - ds.length) Sl.no) := by
  rintro _ _ ⟨s, rfl, hl, rfl⟩ B D k
  show RunS K B (t_law_road K) D [.d (eInts s), .no, .no, .no, .no, .no, .no, .no]
  have hb := lBase_length s
  refine r_set (evd_sum (evl_d (evd_at rfl))) ?_
  refine r_set (d := .int (lApart s.sum)) (ev_pick (a := 3) (b := 40) (c := 1) (d := 10 ^ 20) (evd_tup (ea_cons evd_int (ea_cons evd_int (ea_cons evd_int (ea_cons (evd_pow evd_int evd_int ⟨by decide, by decide, by decide⟩) ea_nil)))) (by decide)) (evd_mod (evd_at rfl) evd_int (by decide)) (emod4 4 (by decide))) ?_
  refine r_set (d := .int (lMost s.sum)) (ev_pick (a := 2) (b := 30) (c := 1000) (d := 10 ^ 25) (evd_tup (ea_cons evd_int (ea_cons evd_int (ea_cons evd_int (ea_cons (evd_pow evd_int evd_int ⟨by decide, by decide, by decide⟩) ea_nil)))) (by decide)) (evd_mod (evd_div (evd_at rfl) evd_int ⟨by decide, by decide⟩) evd_int (by decide)) (emod4 4 (by decide))) ?_
  refine r_set (d := .int (lPlace s 0)) (evd_sub (evd_mod (evd_div (evd_at rfl) evd_int ⟨by decide, by decide⟩) evd_int (by decide)) evd_int) ?_
  refine r_setN (evn_lst ea_nil (by decide)) fun p => ?_
  dsimp only [List.set_cons_zero, List.set_cons_succ]
  refine r_forE (evi_range3 (n := (s.length + 1) / 2) evd_int (evd_lenm (en := PyData.int) (evl_d (evd_at rfl))) evd_int (rgc_pos (by decide) (by decide) (by omega) (by omega))) (fun i => [.d (eInts s), .d (.int s.sum), .d (.int (lApart s.sum)), .d (.int (lMost s.sum)), .d (.int (lPlace s i)), .m p (((List.range i).map fun k => (lPlace s (k + 1), lLet s k)).map eHs), .no, .no]) (by walk_at "wk") (fun Gb hbb i hi => ?_) ?_
  · refine ⟨_, tg_name, ?_⟩
    dsimp only [List.set_cons_zero, List.set_cons_succ]
    have e0 : (0 : Int) + (i : Int) * 2 = ((2 * i : Nat) : Int) := by omega
    rw [e0]
    have hA := (lApart_b s.sum).1
    have hM := (lMost_b s.sum).1
    refine r_set (d := .int (lPlace s (i + 1))) (evd_is (evd_add (evd_add (evd_at rfl) evd_int) (evd_mod (evd_ixm (en := PyData.int) (evl_d (evd_at rfl)) (evd_at rfl) (by omega) (by omega)) (evd_at rfl) hA)) ?_) ?_
    · rw [Int.toNat_natCast]
      rfl
    · dsimp only [List.set_cons_zero, List.set_cons_succ]
      refine r_app rfl (d := eHs (lPlace s (i + 1), lLet s i)) (evd_tup (ea_cons (evd_at rfl) (ea_cons ?_ ea_nil)) (by simp)) ?_ ?_
      · by_cases hc : 2 * i + 1 = s.length
        · by_cases h0 : i = 0
          · subst h0
            have h1 : s.length = 1 := by omega
            obtain ⟨a, rfl⟩ : ∃ a, s = [a] := by
              match s, h1 with
              | [a], _ => exact ⟨a, rfl⟩
            have e : lLet [a] 0 = a % lMost ([a] : List Int).sum := rfl
            rw [e]
            refine evd_mod (evd_ix (ds := [PyData.int a]) (d := .int a) (i := -1) (evl_d (evd_at rfl)) (evd_if (evt_test (evd_eqI (evd_add (evd_at rfl) evd_int) (evd_lenm (en := PyData.int) (evl_d (evd_at rfl))))) (fun _ => evd_is (evd_sub (evd_at rfl) evd_int) rfl) (fun z => ?_)) rfl) (evd_at rfl) hM
            exact absurd z (by simp)
          · have e : lLet s i = s.getD (2 * i - 1) 0 % lMost s.sum := by unfold lLet; rw [if_pos hc, if_neg h0]
            rw [e]
            refine evd_mod (evd_is (evd_ixm (i := ((2 * i - 1 : Nat) : Int)) (en := PyData.int) (evl_d (evd_at rfl)) (evd_if (evt_test (evd_eqI (evd_add (evd_at rfl) evd_int) (evd_lenm (en := PyData.int) (evl_d (evd_at rfl))))) (fun _ => evd_is (evd_sub (evd_at rfl) evd_int) ?_) (fun z => ?_)) (by omega) (by omega)) ?_) (evd_at rfl) hM
            · congr 1; omega
            · exfalso
              have := of_decide_eq_false z
              omega
            · rw [Int.toNat_natCast]; rfl
        · have e : lLet s i = s.getD (2 * i + 1) 0 % lMost s.sum := by unfold lLet; rw [if_neg hc]
          rw [e]
          refine evd_mod (evd_is (evd_ixm (i := ((2 * i + 1 : Nat) : Int)) (en := PyData.int) (evl_d (evd_at rfl)) (evd_if (evt_test (evd_eqI (evd_add (evd_at rfl) evd_int) (evd_lenm (en := PyData.int) (evl_d (evd_at rfl))))) (fun z => ?_) (fun _ => evd_is (evd_add (evd_at rfl) evd_int) ?_)) (by omega) (by omega)) ?_) (evd_at rfl) hM
          · exfalso
            have := of_decide_eq_true z
            omega
          · congr 1
          · rw [Int.toNat_natCast]; rfl
      · rw [List.length_map, List.length_map, List.length_range]; omega
      · dsimp only [List.set_cons_zero, List.set_cons_succ]
        refine r_next (nx_env ?_)
        rw [List.range_succ, List.map_append, List.map_append]
        walk_at "wk"
  · have eB : (List.range ((s.length + 1) / 2)).map (fun k => (lPlace s (k + 1), lLet s k)) = lBase s := rfl
    rw [eB]
    refine r_when (evt_and (evt_test (evd_eqI (evd_mod (evd_div (evd_at rfl) evd_int ⟨by decide, by decide⟩) evd_int (by decide)) evd_int)) fun _ => evt_test (evd_neE (evr_l (evl_at rfl)) ((shp_road _).ok (by decide)))) (fun h => ?_) (fun h => ?_)
    · rw [map_nil] at h
      have h' : s.sum / 64 % 8 = 1 ∧ lBase s ≠ [] := by simpa using h
      have e : lawRoad s = lMany s.sum (lBase s) := by unfold lawRoad; rw [if_pos h']
      rw [e] at k
      refine r_freeze (i := 5) rfl ?_
      refine r_set (evd_at rfl) ?_
      dsimp only [List.set_cons_zero, List.set_cons_succ]
      have hp : 0 < (lBase s).length := List.length_pos_iff.mpr h'.2
      have hm := emod4 (m := s.sum) 5 (by decide)
      refine r_setN (ds := (lMany s.sum (lBase s)).map eHs) (evn_is (evn_lcR (n := (40 + s.sum % 5).toNat) (f := fun (i : Nat) => eHs (50 * (i : Int) + ((lBase s).getD (i % (lBase s).length) default).1 % 50, ((lBase s).getD (i % (lBase s).length) default).2)) (evd_is (evd_add evd_int (evd_mod (evd_at rfl) evd_int (by decide))) ?_) (by omega) fun i hi => ?_) ?_) fun p2 => ?_
      · congr 1; omega
      · have em : (i : Int) % ((lBase s).length : Int) = ((i % (lBase s).length : Nat) : Int) := rfl
        have hlt : i % (lBase s).length < (lBase s).length := Nat.mod_lt _ hp
        have hix : EvD K (tOp (oIx K) (tVar 7) (tOp oMod (tVar 6) (tCB (cLen K) (tCons (tVar 7) tNil)))) ((wipeD [Sl.d (eInts s), .d (.int s.sum), .d (.int (lApart s.sum)), .d (.int (lMost s.sum)), .d (.int (lPlace s ((s.length + 1) / 2))), .d (eRoad (lBase s)), .no, .d (eRoad (lBase s))] [6]).set 6 (.d (.int (i : Int)))) (eHs ((lBase s).getD (i % (lBase s).length) default)) := by
          refine evd_is (evd_ixm (en := eHs) (evl_d (evd_at rfl)) (evd_mod (evd_at rfl) (evd_lenm (en := eHs) (evl_d (evd_at rfl))) (by omega)) ?_ ?_) ?_
          · rw [em]; omega
          · rw [em]; omega
          · rw [em, Int.toNat_natCast]
        exact evd_tup (ea_cons (evd_add (evd_mul evd_int (evd_at rfl) (.inl ⟨by decide, by decide⟩)) (evd_mod (evd_ixt0 hix) evd_int (by decide))) (ea_cons (evd_ixt1 hix) ea_nil)) (by simp)
      · unfold lMany
        rw [List.map_map]
        rfl
      · exact r_next (nx_run (r_retM rfl k))
    · rw [map_nil] at h
      have h' : ¬ (s.sum / 64 % 8 = 1 ∧ lBase s ≠ []) := by simpa using h
      have e : lawRoad s = lBase s := by unfold lawRoad; rw [if_neg h']
      rw [e] at k
      exact r_retM rfl k
theorem ev_law_road {s : List Int} (ha : EvD K ta δ (eInts s)) (hl : s.length ≤ 63) : EvN K (tCall (sp_law_road K) [] E0 (tCons ta tNil)) δ ((lawRoad s).map eHs) := evn_call (ea_cons ha ea_nil) ⟨s, rfl, hl, rfl⟩
end
end Ph

set_option Elab.async false
set_option linter.all false
set_option maxRecDepth 100000
set_option maxHeartbeats 2000000
namespace Ph
open PySem PySem.Spec L2
theorem fun_of {K : PySem.W.Frag} {x q : Str} {st : Stmt} {f : Addr} {fd : FuncData} (F : FunD K x q (defArgs st) (defBody st) (defScope st) [] [] f fd) : Fun K x q st f fd := by
  obtain ⟨oc, od, dV, kV, doc, pm, an, cdv, ct, osl, e, lk, hc, hD, _⟩ := F.ex
  rcases hD with ⟨_, z⟩ | ⟨z, _⟩
  · rw [z] at e
    exact ⟨⟨oc, od, kV, doc, pm, an, cdv, ct, osl, e, lk, hc⟩, F.kp⟩
  · exact absurd rfl z
end Ph

set_option Elab.async false
set_option linter.all false
set_option maxRecDepth 100000
set_option maxHeartbeats 2000000
namespace Ph
open PySem PySem.Spec L2
/-! ### min of a list of pairs -/
def pairLt (a b : Int × Int) : Bool := decide (a.1 < b.1) || (decide (a.1 = b.1) && decide (a.2 < b.2))
def minP (x : Int × Int) (xs : List (Int × Int)) : Int × Int := xs.foldl (fun a y => if pairLt y a then y else a) x
def minPD (z : Int × Int) : List (Int × Int) → Int × Int
  | [] => z
  | x :: xs => minP x xs
theorem dataLt_hs (a b : Int × Int) : PySem.W.dataLt (eHs a) (eHs b) = pairLt a b := by
  have e1 : PySem.W.keyToksAll [PyData.int a.1, PyData.int a.2] = [Sum.inl 1, Sum.inl a.1, Sum.inl 1, Sum.inl a.2, Sum.inl 0] := rfl
  have e2 : PySem.W.keyToksAll [PyData.int b.1, PyData.int b.2] = [.inl 1, .inl b.1, .inl 1, .inl b.2, .inl 0] := rfl
  show PySem.W.dataLt (.tuple [PyData.int a.1, PyData.int a.2]) (.tuple [PyData.int b.1, PyData.int b.2]) = _
  rw [PySem.W.dataLt_tuple, e1, e2, PyProof.Rows.lex_self]
  have one : ∀ x y : Int, PyProof.Rows.lexLt PyProof.Rows.itemOrd [(Sum.inl x : Int ⊕ List Nat)] [(Sum.inl y : Int ⊕ List Nat)] = decide (x < y) := fun x y => by
    have := PySem.W.dataLt_int x y
    unfold PySem.W.dataLt at this
    simpa only [PySem.W.keyToks] using this
  unfold pairLt
  by_cases h1 : a.1 = b.1
  · rw [h1, PyProof.Rows.lex_self, PyProof.Rows.lex_self]
    have n : ¬ b.1 < b.1 := by omega
    rw [decide_eq_false n, Bool.false_or, decide_eq_true rfl, Bool.true_and]
    by_cases h2 : a.2 = b.2
    · rw [h2, PyProof.Rows.lex_self, PyProof.Rows.lex_self]
      have n2 : ¬ b.2 < b.2 := by omega
      rw [decide_eq_false n2]
      rfl
    · rw [PySem.W.lex_atom (fun z => h2 (Sum.inl.inj z)), one]
  · rw [PySem.W.lex_atom (fun z => h1 (Sum.inl.inj z)), one, decide_eq_false h1, Bool.false_and, Bool.or_false]
theorem minD_hs (x : Int × Int) (xs : List (Int × Int)) : PySem.W.minD (eHs x) (xs.map eHs) = eHs (minP x xs) := by
  unfold PySem.W.minD minP
  induction xs generalizing x with
  | nil => rfl
  | cons y r ih =>
    rw [List.map_cons, List.foldl_cons, List.foldl_cons, ← ih, dataLt_hs]
    split <;> rfl
theorem eHs_inj {a b : Int × Int} (h : eHs a = eHs b) : a = b := by
  have h1 : [PyData.int a.1, PyData.int a.2] = [PyData.int b.1, PyData.int b.2] := PyData.tuple.inj h
  simp at h1
  exact Prod.ext h1.1 h1.2
theorem alike_hs (xs : List (Int × Int)) : PySem.W.AlikeAll (xs.map eHs) := by
  refine ⟨fun x hx y hy => ?_, fun x hx => ?_⟩
  · obtain ⟨a, _, rfl⟩ := List.mem_map.mp hx
    obtain ⟨b, _, rfl⟩ := List.mem_map.mp hy
    rfl
  · obtain ⟨a, _, rfl⟩ := List.mem_map.mp hx
    exact fun z => nomatch z
theorem depth_hs (xs : List (Int × Int)) : PyData.depthAll (xs.map eHs) ≤ 1 := (shp_all (n := 1) fun d hd => by
  obtain ⟨a, _, rfl⟩ := List.mem_map.mp hd
  exact shp_hs a).2
def cMinT (K : PySem.W.Frag) : List V → Hp → VK → Prop := fun vs H Q => ∃ (p : Addr) (us : List V) (x : Int × Int) (xs : List (Int × Int)), vs = [.ref p] ∧ SqL K H p us ∧ DpAll K H us ((x :: xs).map eHs) ∧ ∀ (i : Nat) (v : V), us[i]? = some v → (x :: xs)[i]? = some (minP x xs) → Q v H
def cMinTD (K : PySem.W.Frag) : List V → List V → Hp → VK → Prop := fun vs zs H Q => ∃ (p : Addr) (us : List V) (xs : List (Int × Int)) (d : V), vs = [.ref p] ∧ zs = [d] ∧ SqL K H p us ∧ DpAll K H us (xs.map eHs) ∧ (xs = [] → Q d H) ∧
  ∀ (y : Int × Int) (ys : List (Int × Int)) (i : Nat) (v : V), xs = y :: ys → us[i]? = some v → xs[i]? = some (minP y ys) → Q v H
section
variable {X : Cx}
theorem reads_same {h h' : Heap} {u : Value} {d : PyData} {m : Int × Int} {as bs : List Addr} (k : ∀ b o, h.get? b = some o → h'.get? b = some o) (r1 : Reads h u d as) (r2 : Reads h' u (eHs m) bs) {xs : List (Int × Int)} {i : Nat} (e : (xs.map eHs)[i]? = some d) : xs[i]? = some m := by
  rw [List.getElem?_map] at e
  obtain ⟨y, hy, rfl⟩ := Option.map_eq_some_iff.mp e
  have := SeqAt.Reads.unique _ _ _ _ _ rfl (PySem.W.reads_keeps k r1) r2
  rw [hy, eHs_inj this]
theorem q_minT (hu : X.A.units + 64 < cLine) (hc : X.calm = true) : CallR X (.builtin "min") (cMinT X.K) := by
  intro pins s σ H vs us Q I r h
  obtain ⟨p, ws, x, xs, rfl, sq, al, q⟩ := h
  obtain ⟨u1, rfl, r1⟩ : ∃ u1, us = [u1] ∧ RelV (.ref p) u1 := by
    cases r with
    | cons a b => cases b; exact ⟨_, rfl, a⟩
  obtain rfl : u1 = .ref p := r1
  obtain ⟨its, rv, pl, hz⟩ := I.list sq
  obtain ⟨as, hr⟩ := Dp.readsAll I _ _ _ al rv
  have hd := depth_hs (x :: xs)
  refine PySem.W.min_list_data (vs := its.toArray) (x := eHs x) (xs := xs.map eHs) (as := as) (I.ok.hd hc) pl.isList (by simpa using hr) (alike_hs (x :: xs)) (by have : PyData.depthAll (eHs x :: xs.map eHs) ≤ 1 := hd; omega) fun i v h' tk bs hv hrd hk => ?_
  have hv' : its[i]? = some v := by simpa using hv
  obtain ⟨y, hy, ry⟩ : ∃ y, ws[i]? = some y ∧ RelV y v := by
    have hl := rv.length
    have hi : i < ws.length := by rw [hl]; exact (List.getElem?_eq_some_iff.mp hv').1
    obtain ⟨u, h1, h2⟩ := Vals.get rv (List.getElem?_eq_getElem hi)
    rw [hv'] at h1
    cases h1
    exact ⟨_, List.getElem?_eq_getElem hi, h2⟩
  obtain ⟨d, hd1, hd2⟩ := dpAll_getV al hy
  obtain ⟨as2, r2⟩ := Dp.reads I _ _ _ hd2 ry
  rw [minD_hs] at hrd
  exact ⟨y, H, I.kept (t' := tk) hk, ry, q i y hy (reads_same hk r2 hrd hd1)⟩
theorem q_minTD (hu : X.A.units + 64 < cLine) (hc : X.calm = true) : CallRK X (.builtin "min") ["default"] (cMinTD X.K) := by
  intro pins s σ H vs zs us ws0 Q I r rz h
  obtain ⟨p, ws, xs, d0, rfl, rfl, sq, al, q0, q⟩ := h
  obtain ⟨u1, rfl, r1⟩ : ∃ u1, us = [u1] ∧ RelV (.ref p) u1 := by
    cases r with
    | cons a b => cases b; exact ⟨_, rfl, a⟩
  obtain ⟨u2, rfl, r2⟩ : ∃ u2, ws0 = [u2] ∧ RelV d0 u2 := by
    cases rz with
    | cons a b => cases b; exact ⟨_, rfl, a⟩
  obtain rfl : u1 = .ref p := r1
  obtain ⟨its, rv, pl, hz⟩ := I.list sq
  obtain ⟨as, hr⟩ := Dp.readsAll I _ _ _ al rv
  have hd := depth_hs xs
  show wpAny _ _ (call (.builtin "min") [.ref p] [(Str.ofString "default", u2)]) _ _ _
  refine PySem.W.min_list_default (vs := its.toArray) (xs := xs.map eHs) (as := as) (I.ok.hd hc) pl.isList (by simpa using hr) (alike_hs xs) (by omega) (fun e h' tk hk => ?_) fun y ys i v h' tk bs e hv hrd hk => ?_
  · exact ⟨d0, H, I.kept (t' := tk) hk, r2, q0 (List.map_eq_nil_iff.mp e)⟩
  · cases xs with
    | nil => cases e
    | cons x xs =>
      rw [List.map_cons] at e
      obtain ⟨rfl, rfl⟩ := List.cons.inj e
      have hv' : its[i]? = some v := by simpa using hv
      obtain ⟨z, hy, ry⟩ : ∃ y, ws[i]? = some y ∧ RelV y v := by
        have hl := rv.length
        have hi : i < ws.length := by rw [hl]; exact (List.getElem?_eq_some_iff.mp hv').1
        obtain ⟨u, h1, h2⟩ := Vals.get rv (List.getElem?_eq_getElem hi)
        rw [hv'] at h1
        cases h1
        exact ⟨_, List.getElem?_eq_getElem hi, h2⟩
      obtain ⟨d, hd1, hd2⟩ := dpAll_getV al hy
      obtain ⟨as2, r3⟩ := Dp.reads I _ _ _ hd2 ry
      rw [minD_hs] at hrd
      exact ⟨z, H, I.kept (t' := tk) hk, ry, q x xs i z rfl hy (reads_same hk r3 hrd hd1)⟩
end
section
variable {K : PySem.W.Frag} {δ : List Sl} {ta tb : TE}
theorem evd_minT {x : Int × Int} {xs : List (Int × Int)} (ha : EvL K ta δ ((x :: xs).map eHs)) : EvD K (tCB (cMinT K) (tCons ta tNil)) δ (eHs (minP x xs)) := fun B σ H G F g Q q =>
  ha B σ H G F g _ fun v G1 H1 n1 ⟨p, vs, ep, sq, al⟩ => ⟨p, vs, x, xs, by rw [ep], sq, dpAll_mono n1.s al, fun i v h1 h2 => by
    obtain ⟨d, h3, h4⟩ := dpAll_getV al h1
    rw [List.getElem?_map, h2] at h3
    cases h3
    exact q _ G1 H1 n1 h4⟩
theorem evd_minTD {z : Int × Int} {xs : List (Int × Int)} (ha : EvL K ta δ (xs.map eHs)) (hb : EvD K tb δ (eHs z)) : EvD K (tCKw (cMinTD K) (tCons ta tNil) (tCons tb tNil)) δ (eHs (minPD z xs)) := fun B σ H G F g Q q =>
  ha B σ H G F g _ fun v G1 H1 n1 ⟨p, vs, ep, sq, al⟩ => hb B σ H1 G1 F (g.up n1) _ fun w G2 H2 n2 p2 => by
    have al2 := dpAll_mono n2.g al
    refine ⟨p, vs, xs, w, by rw [ep], rfl, sqL_mono n2.h sq, dpAll_mono n2.s al2, fun e => ?_, fun y ys i v e h1 h2 => ?_⟩
    · subst e
      exact q _ G2 H2 (n1.trans n2) p2
    · subst e
      obtain ⟨d, h3, h4⟩ := dpAll_getV al2 h1
      rw [List.getElem?_map, h2] at h3
      cases h3
      exact q _ G2 H2 (n1.trans n2) h4
end
end Ph

set_option Elab.async false
set_option linter.all false
set_option maxRecDepth 100000
set_option maxHeartbeats 2000000
namespace Ph
open PySem PySem.Spec L2 PyProof.Rows
/-! ### a chain of three comparisons, as a test -/
def tCh3 (r r' r'' : R2) (ta tb tc td : TE) : TT := fun σ H Q => ta σ H fun x H1 => tb σ H1 fun y H2 => r x y H2 fun z H3 => ∃ k, z = .bl k ∧
  (if k = true then tc σ H3 fun w' H4 => r' y w' H4 fun z2 H5 => ∃ k2, z2 = .bl k2 ∧
    (if k2 = true then td σ H5 fun u H6 => r'' w' u H6 fun z3 H7 => ∃ k3, z3 = .bl k3 ∧ Q k3 H7 else Q false H5) else Q false H3)
section
variable {X : Cx}
theorem pt_chain3 {a b c d : Expr} {pos : Pos} {ta tb tc td : TE} {op op' op'' : CmpOp} {r r' r'' : R2} (ho : OpR X (compareOp op) r) (ho' : OpR X (compareOp op') r') (ho'' : OpR X (compareOp op'') r'') (ha : PE X a ta) (hb : PE X b tb) (hc : PE X c tc) (hd : PE X d td)
    (hm : lastMarks [op, op', op''] [b, c, d] = false := by with_unfolding_all rfl) : PT X (.Compare a [op, op', op''] [b, c, d] pos) (tCh3 r r' r'' ta tb tc td) := by
  refine ⟨fun pins s σ H Q I h => ?_⟩
  refine isTrue_chain (thn (ha.run pins s σ H _ I h) fun v s1 ⟨x, H1, I1, r1, q1⟩ => test_link (thn (hb.run pins s1 σ H1 _ I1 q1) fun u s2 ⟨y, H2, I2, r2, q2⟩ =>
    thn (ho pins s2 σ H2 x y v u _ I2 r1 r2 q2) fun d s3 ⟨z, H3, I3, r3, k, e, q3⟩ => ?_)) hm
  subst e
  cases r3
  refine wpAny_truthy_bool ?_
  cases k with
  | false => exact ite_ff ⟨H3, I3, q3⟩
  | true =>
    refine ite_tt (test_link (thn (hc.run pins s3 σ H3 _ I3 q3) fun w' s4 ⟨z', H4, I4, r4, q4⟩ => thn (ho' pins s4 σ H4 y z' u w' _ I4 r2 r4 q4) fun d' s5 ⟨z2, H5, I5, r5, k2, e2, q5⟩ => ?_))
    subst e2
    cases r5
    refine wpAny_truthy_bool ?_
    cases k2 with
    | false => exact ite_ff ⟨H5, I5, q5⟩
    | true =>
      refine ite_tt (test_last (thn (hd.run pins s5 σ H5 _ I5 q5) fun w2 s6 ⟨z3, H6, I6, r6, q6⟩ => thn (ho'' pins s6 σ H6 z' z3 w' w2 _ I6 r4 r6 q6) fun d2 s7 ⟨z4, H7, I7, r7, k3, e3, q7⟩ => ?_))
      subst e3
      cases r7
      exact wpAny_truthy_bool ⟨H7, I7, q7⟩
end
section
variable {K : PySem.W.Frag} {δ : List Sl} {ta tb tc td : TE} {i j k l : Int}
/-- i <= j < k <= l, when it holds -/
theorem evt_lltl (ha : EvD K ta δ (.int i)) (hb : EvD K tb δ (.int j)) (hc : EvD K tc δ (.int k)) (hd : EvD K td δ (.int l)) (h1 : i ≤ j) (h2 : j < k) (h3 : k ≤ l) : EvT K (tCh3 oLe oLt oLe ta tb tc td) δ true := fun B σ H G F g Q q =>
  ha B σ H G F g _ fun x G1 H1 n1 p => hb B σ H1 G1 F (g.up n1) _ fun y G2 H2 n2 p2 => by
    cases p; cases p2
    refine ⟨i, j, rfl, rfl, _, rfl, ?_⟩
    rw [decide_eq_true h1]
    refine iteT (hc B σ H2 G2 F ((g.up n1).up n2) _ fun z G3 H3 n3 p3 => ?_)
    cases p3
    refine ⟨j, k, rfl, rfl, _, rfl, ?_⟩
    rw [decide_eq_true h2]
    refine iteT (hd B σ H3 G3 F (((g.up n1).up n2).up n3) _ fun z4 G4 H4 n4 p4 => ?_)
    cases p4
    refine ⟨k, l, rfl, rfl, _, rfl, ?_⟩
    rw [decide_eq_true h3]
    exact q G4 H4 (((n1.trans n2).trans n3).trans n4)
end
end Ph

set_option Elab.async false
set_option linter.all false
set_option maxRecDepth 100000
set_option maxHeartbeats 2000000
namespace Ph
open PySem PySem.Spec L2
/-! ### answers -/
/-- an answer at x in the heap -/
def ObAt (H : Hp) (x C : Addr) (ps bs : List Int) (fee : Option Int) : Prop := ∃ dx p q, H x = some (.ins C dx (flds p q fee)) ∧ H p = some (.lst (ps.map V.int)) ∧ H q = some (.lst (bs.map V.int))
theorem ObAt.mono {H H' : Hp} {x C : Addr} {ps bs : List Int} {fee : Option Int} (s : Same H H') : ObAt H x C ps bs fee → ObAt H' x C ps bs fee
  | ⟨dx, p, q, a, b, c⟩ => ⟨dx, p, q, s _ _ a, s _ _ b, s _ _ c⟩
/-- a new answer: G the known heap, H0 the one before -/
def ObNew (G H0 H : Hp) (x C : Addr) (ps bs : List Int) (fee : Option Int) : Prop := ∃ dx p q, H x = some (.ins C dx (flds p q fee)) ∧ H dx = some (.own x) ∧ H p = some (.lst (ps.map V.int)) ∧ H q = some (.lst (bs.map V.int)) ∧ p ≠ q ∧
  ∀ b ∈ [x, dx, p, q], G b = none ∧ H0 b = none
theorem ObNew.at_ {G H0 H : Hp} {x C : Addr} {ps bs : List Int} {fee : Option Int} : ObNew G H0 H x C ps bs fee → ObAt H x C ps bs fee
  | ⟨dx, p, q, a, _, b, c, _⟩ => ⟨dx, p, q, a, b, c⟩
/-- what is asked of the class -/
structure COk (K : PySem.W.Frag) (C : Addr) : Prop where
  c : Cls K C
  np : NoAttr K C "posts"
  nb : NoAttr K C "bounds"
  nf : NoAttr K C "fee"
section
variable (K : PySem.W.Frag)
/-- an answer that may be read now -/
def EvB (te : TE) (δ : List Sl) (C : Addr) (ps bs : List Int) (fee : Option Int) : Prop := ∀ B σ H G F, GoodAt K B δ σ H G F → ∀ Q : VK, (∀ x G' H', Nu G H G' H' → ObAt H' x C ps bs fee → Q (.ref x) H') → te σ H Q
/-- a new answer -/
def EvNB (te : TE) (δ : List Sl) (C : Addr) (ps bs : List Int) (fee : Option Int) : Prop := ∀ B σ H G F, GoodAt K B δ σ H G F → ∀ Q : VK, (∀ x G' H', Nu G H G' H' → ObNew G' H H' x C ps bs fee → Q (.ref x) H') → te σ H Q
end
section
variable {K : PySem.W.Frag} {δ : List Sl} {ta tb tc te : TE} {t : TA} {C : Addr} {ps bs : List Int} {fee : Option Int}
theorem evb_at {n : Nat} {x p q : Addr} (h : δ[n]? = some (.ob x C p q ps bs fee)) : EvB K (tVar n) δ C ps bs fee := fun B σ H G F g Q k => by
  obtain ⟨o, h1, dx, _, h2, h3, h4, h5, h6, _⟩ := g.own n _ h
  subst h2
  exact ⟨.ref x, h1, k x G H (Nu.refl g.nu.s) ⟨dx, p, q, h3, h5, h6⟩⟩
theorem evb_od {n : Nat} (h : δ[n]? = some (.od C ps bs fee)) : EvB K (tVar n) δ C ps bs fee := fun B σ H G F g Q k => by
  obtain ⟨o, h1, _, x, dx, p, q, h2, h3, h4, h5⟩ := g.own n _ h
  subst h2
  exact ⟨.ref x, h1, k x G H (Nu.refl g.nu.s) ⟨dx, p, q, g.nu.s _ _ h3, g.nu.s _ _ h4, g.nu.s _ _ h5⟩⟩
theorem evb_n (h : EvNB K te δ C ps bs fee) : EvB K te δ C ps bs fee := fun B σ H G F g Q k => h B σ H G F g Q fun x G' H' n o => k x G' H' n o.at_
theorem fl_posts (p q : Addr) (fee : Option Int) : (flds p q fee).lookup ("posts" : Str) = some (V.ref p) := by cases fee <;> rfl
theorem fl_bounds (p q : Addr) (fee : Option Int) : (flds p q fee).lookup ("bounds" : Str) = some (V.ref q) := by cases fee <;> rfl
theorem evl_posts (c : COk K C) (h : EvB K te δ C ps bs fee) : EvL K (tFld K te "posts") δ (ps.map .int) := fun B σ H G F g Q k => h B σ H G F g _ fun x G' H' n ⟨dx, p, q, a, b, d⟩ =>
  ⟨x, C, dx, _, .ref p, rfl, a, c.c, c.np, fl_posts p q fee, k _ G' H' n ⟨p, _, rfl, .inl (.inl b), ints_dpAll ps⟩⟩
theorem evl_bounds (c : COk K C) (h : EvB K te δ C ps bs fee) : EvL K (tFld K te "bounds") δ (bs.map .int) := fun B σ H G F g Q k => h B σ H G F g _ fun x G' H' n ⟨dx, p, q, a, b, d⟩ =>
  ⟨x, C, dx, _, .ref q, rfl, a, c.c, c.nb, fl_bounds p q fee, k _ G' H' n ⟨q, _, rfl, .inl (.inl d), ints_dpAll bs⟩⟩
theorem evd_fee {i : Int} (c : COk K C) (h : EvB K te δ C ps bs (some i)) : EvD K (tFld K te "fee") δ (.int i) := fun B σ H G F g Q k => h B σ H G F g _ fun x G' H' n ⟨dx, p, q, a, b, d⟩ =>
  ⟨x, C, dx, _, .int i, rfl, a, c.c, c.nf, rfl, k _ G' H' n (.int i)⟩
/-! ### arguments with answers -/
inductive Ad where
  | d (x : PyData)
  | o (C : Addr) (ps bs : List Int) (fee : Option Int)
def Ad.sl : Ad → Sl
  | .d x => .d x
  | .o C ps bs fee => .od C ps bs fee
inductive AdOk (K : PySem.W.Frag) (H : Hp) : V → Ad → Prop where
  | d {v : V} {x : PyData} (h : Dp K H v x) : AdOk K H v (.d x)
  | o {x C : Addr} {ps bs : List Int} {fee : Option Int} (h : ObAt H x C ps bs fee) : AdOk K H (.ref x) (.o C ps bs fee)
inductive AdAll (K : PySem.W.Frag) (H : Hp) : List V → List Ad → Prop where
  | nil : AdAll K H [] []
  | cons {v : V} {a : Ad} {vs : List V} {as : List Ad} (h : AdOk K H v a) (t : AdAll K H vs as) : AdAll K H (v :: vs) (a :: as)
theorem AdOk.mono {H H' : Hp} (s : Same H H') {v : V} {a : Ad} : AdOk K H v a → AdOk K H' v a
  | .d h => .d (dp_mono s h)
  | .o h => .o (h.mono s)
theorem AdAll.mono {H H' : Hp} (s : Same H H') : ∀ {vs : List V} {as : List Ad}, AdAll K H vs as → AdAll K H' vs as
  | _, _, .nil => .nil
  | _, _, .cons h t => .cons (h.mono s) (t.mono s)
theorem AdAll.len {H : Hp} : ∀ {vs : List V} {as : List Ad}, AdAll K H vs as → vs.length = as.length
  | _, _, .nil => rfl
  | _, _, .cons _ t => congrArg (· + 1) t.len
def EvAB (K : PySem.W.Frag) (ta : TA) (δ : List Sl) (as : List Ad) : Prop := ∀ B σ H G F, GoodAt K B δ σ H G F → ∀ Q : List V → Hp → Prop, (∀ vs G' H', Nu G H G' H' → AdAll K H' vs as → Q vs H') → ta σ H Q
theorem eab_nil : EvAB K tNil δ [] := fun B σ H G F g Q q => q _ G H (Nu.refl g.nu.s) .nil
theorem eab_d {tr : TA} {d : PyData} {as : List Ad} (h : EvR K te δ d) (hr : EvAB K tr δ as) : EvAB K (tCons te tr) δ (.d d :: as) := fun B σ H G F g Q q =>
  h B σ H G F g _ fun v G1 H1 n1 p => hr B σ H1 G1 F (g.up n1) _ fun vs G2 H2 n2 ps => q _ G2 H2 (n1.trans n2) (.cons (.d (dp_mono n2.h p)) ps)
theorem eab_o {tr : TA} {as : List Ad} (h : EvB K te δ C ps bs fee) (hr : EvAB K tr δ as) : EvAB K (tCons te tr) δ (.o C ps bs fee :: as) := fun B σ H G F g Q q =>
  h B σ H G F g _ fun x G1 H1 n1 p => hr B σ H1 G1 F (g.up n1) _ fun vs G2 H2 n2 ps => q _ G2 H2 (n1.trans n2) (.cons (.o (p.mono n2.h)) ps)
/-- called with such arguments it gives a truth value -/
def PrB (K : PySem.W.Frag) (R : List Ad → Bool → Prop) : Sp := fun vs H Q _ => ∃ as b, AdAll K H vs as ∧ R as b ∧ ∀ H', Same H H' → Q (.bl b) H'
theorem evd_callB {R : List Ad → Bool → Prop} {as : List Ad} {b : Bool} {E : XK} (ha : EvAB K t δ as) (hr : R as b) : EvD K (tCall (PrB K R) [] E t) δ (.bool b) := fun B σ H G F g Q q =>
  ha B σ H G F g _ fun vs G1 H1 n1 p => ⟨as, b, by rw [List.append_nil]; exact p, hr, fun H' s => q _ G1 H' (n1.trans ⟨Same.refl _, s, n1.s.trans s, fun _ h _ => h⟩) (.bl b)⟩
theorem evd_meth {R : List Ad → Bool → Prop} {as : List Ad} {b : Bool} {E : XK} {m : Str} (ho : EvB K te δ C ps bs fee) (hm : ∀ p q, (flds p q fee).lookup m = none) (ha : EvAB K t δ as) (hr : R (.o C ps bs fee :: as) b) : EvD K (tMeth C m (PrB K R) [] E te t) δ (.bool b) := fun B σ H G F g Q q =>
  ho B σ H G F g _ fun x G1 H1 n1 o => by
    obtain ⟨dx, p, q', a, b', d⟩ := o
    exact ⟨x, dx, _, rfl, a, hm p q', ha B σ H1 G1 F (g.up n1) _ fun vs G2 H2 n2 ps2 => ⟨_, b, by rw [List.append_nil]; exact .cons (.o (ObAt.mono n2.h ⟨dx, p, q', a, b', d⟩)) ps2, hr, fun H' s =>
      q _ G2 H' ((n1.trans n2).trans ⟨Same.refl _, s, n2.s.trans s, fun _ h _ => h⟩) (.bl b)⟩⟩
theorem good_startB {H : Hp} {N : List Str} {vs : List V} {as : List Ad} (h : AdAll K H vs as) :
    Good K ⟨H, H, H⟩ (as.map Ad.sl ++ List.replicate (N.length - as.length) Sl.no) (L2.start N vs) H := by
  have hl := h.len
  have hg : ∀ {vs : List V} {as : List Ad}, AdAll K H vs as → ∀ (i : Nat) (a : Ad), as[i]? = some a → ∃ v, vs[i]? = some v ∧ AdOk K H v a := by
    intro vs as h
    induction h with
    | nil => intro i a e; simp at e
    | cons h t ih =>
      intro i a e
      cases i with
      | zero => simp at e; subst e; exact ⟨_, rfl, h⟩
      | succ i => simpa using ih i a (by simpa using e)
  refine ⟨H, fun _ => [], Nu.refl (Same.refl _), Same.refl _, ?_, fun i t e => ?_, (fun _ _ _ _ _ z => nomatch z), (fun _ _ _ z => nomatch z)⟩
  · unfold L2.start
    simp [hl]
  · unfold L2.start
    by_cases hi : i < as.length
    · rw [List.getElem?_append_left (by simpa using hi)] at e
      rw [List.getElem?_map, List.getElem?_eq_getElem hi] at e
      cases e
      obtain ⟨v, h1, h2⟩ := hg h i _ (List.getElem?_eq_getElem hi)
      refine ⟨some v, ?_, ?_⟩
      · rw [List.getElem?_append_left (by simpa [hl] using hi), List.getElem?_map, h1]
        rfl
      · cases q : as[i] with
        | d x =>
          rw [q] at h2
          cases h2 with
          | d h2 => exact ⟨rfl, v, rfl, h2⟩
        | o C ps bs fee =>
          rw [q] at h2
          cases h2 with
          | o h2 =>
            obtain ⟨dx, p, q', a, b, c⟩ := h2
            exact ⟨rfl, _, dx, p, q', rfl, a, b, c⟩
    · rw [List.getElem?_append_right (by simpa using hi)] at e
      rw [List.getElem?_replicate] at e
      split at e
      · rename_i hk
        cases e
        refine ⟨none, ?_, rfl⟩
        rw [List.getElem?_append_right (by simpa [hl] using hi), List.getElem?_replicate, if_pos ?_]
        simpa [hl] using hk
      · cases e
/-! ### to make one -/
def feeV : Option Int → List V
  | none => []
  | some i => [.int i]
/-- what __init__ does -/
def PrI (K : PySem.W.Frag) (C : Addr) : Sp := fun vs H Q _ => ∃ (x dx a b : Addr) (ps bs : List Int) (fee : Option Int), vs = .ref x :: .ref a :: .ref b :: feeV fee ∧ H x = some (.ins C dx []) ∧ SqL K H a (ps.map V.int) ∧ SqL K H b (bs.map V.int) ∧
  ∀ p q H', p ≠ q → H p = none → H q = none → (∀ c, c ≠ x → H c ≠ none → H' c = H c) → H' x = some (.ins C dx (flds p q fee)) → H' p = some (.lst (ps.map V.int)) → H' q = some (.lst (bs.map V.int)) → Q .non H'
/-- the arguments of a making -/
def EvMk (K : PySem.W.Frag) (t : TA) (δ : List Sl) (ps bs : List Int) (fee : Option Int) : Prop := ∀ B σ H G F, GoodAt K B δ σ H G F → ∀ Q : List V → Hp → Prop, (∀ a b G' H', Nu G H G' H' → SqL K H' a (ps.map V.int) → SqL K H' b (bs.map V.int) → Q (.ref a :: .ref b :: feeV fee) H') → t σ H Q
theorem evmk3 {i : Int} (ha : EvL K ta δ (ps.map .int)) (hb : EvL K tb δ (bs.map .int)) (hc : EvD K tc δ (.int i)) : EvMk K (tCons ta (tCons tb (tCons tc tNil))) δ ps bs (some i) := fun B σ H G F g Q q =>
  ha B σ H G F g _ fun v1 G1 H1 n1 ⟨a, us, e1, s1, d1⟩ => hb B σ H1 G1 F (g.up n1) _ fun v2 G2 H2 n2 ⟨b, ws, e2, s2, d2⟩ => hc B σ H2 G2 F ((g.up n1).up n2) _ fun v3 G3 H3 n3 d3 => by
    cases d3
    subst e1 e2
    have z1 := dpAll_ints d1
    have z2 := dpAll_ints d2
    subst z1 z2
    exact q a b G3 H3 ((n1.trans n2).trans n3) (sqL_mono (n2.h.trans n3.h) s1) (sqL_mono n3.h s2)
theorem evmk2 (ha : EvL K ta δ (ps.map .int)) (hb : EvL K tb δ (bs.map .int)) : EvMk K (tCons ta (tCons tb tNil)) δ ps bs none := fun B σ H G F g Q q =>
  ha B σ H G F g _ fun v1 G1 H1 n1 ⟨a, us, e1, s1, d1⟩ => hb B σ H1 G1 F (g.up n1) _ fun v2 G2 H2 n2 ⟨b, ws, e2, s2, d2⟩ => by
    subst e1 e2
    have z1 := dpAll_ints d1
    have z2 := dpAll_ints d2
    subst z1 z2
    exact q a b G2 H2 (n1.trans n2) (sqL_mono n2.h s1) s2
theorem sqL_none {H H' : Hp} {a : Addr} {xs : List V} (s : Same H H') (h : SqL K H a xs) : SqL K H' a xs := sqL_mono s h
def PrIn (K : PySem.W.Frag) (n : Nat) (C : Addr) : Sp := fun vs H Q E => vs.length = n ∧ PrI K C vs H Q E
theorem evnb_make {E : XK} {n : Nat} (h : EvMk K t δ ps bs fee) (hn : (feeV fee).length + 3 = n) : EvNB K (tMake C (PrIn K n C) [] E t) δ C ps bs fee := fun B σ H G F g Q q =>
  h B σ H G F g _ fun a b G1 H1 n1 s1 s2 => fun x dx hx hdx hne => by
    have same1 : Same H1 (upd (upd H1 dx (.own x)) x (.ins C dx [])) := (same_upd hdx).trans (same_upd (by rw [upd_ne (fun z => hne z.symm)]; exact hx))
    refine ⟨by rw [List.append_nil, ← hn]; rfl, x, dx, a, b, ps, bs, fee, by rw [List.append_nil], upd_same, sqL_mono same1 s1, sqL_mono same1 s2, fun p q' H' hpq hp hq keep h1 h2 h3 => ⟨rfl, ?_⟩⟩
    have hs : Same H1 H' := fun c o e => by
      have hcx : c ≠ x := fun z => by rw [z, hx] at e; cases e
      have e2 := same1 _ _ e
      rw [keep c hcx (some_ne e2)]
      exact e2
    have hdx' : H' dx = some (.own x) := by
      have e : upd (upd H1 dx (.own x)) x (.ins C dx []) dx = some (.own x) := by rw [upd_ne hne, upd_same]
      rw [keep dx hne (some_ne e)]
      exact e
    have fr : ∀ c, upd (upd H1 dx (.own x)) x (.ins C dx []) c = none → H1 c = none := fun c hc => by
      cases e : H1 c with
      | none => rfl
      | some o => rw [same1 _ _ e] at hc; cases hc
    refine q x G1 H' (n1.trans ⟨Same.refl _, hs, n1.s.trans hs, fun _ h _ => h⟩) ⟨dx, p, q', h1, hdx', h2, h3, hpq, fun c hc => ?_⟩
    have hc1 : H1 c = none := by
      simp only [List.mem_cons, List.not_mem_nil, or_false] at hc
      rcases hc with rfl | rfl | rfl | rfl
      · exact hx
      · exact hdx
      · exact fr _ hp
      · exact fr _ hq
    exact ⟨n1.s.free hc1, n1.h.free hc1⟩
end
section
variable {K : PySem.W.Frag} {B : Bs} {D : Ends} {δ δ' : List Sl} {te ta tb : TE} {tz : TS} {C : Addr} {ps bs : List Int} {fee : Option Int} {i : Nat}
theorem r_setO (h : EvNB K te δ C ps bs fee) (k : ∀ x p q, RunS K B tz D (δ.set i (.ob x C p q ps bs fee))) : RunS K B (tSeq (tAsg te (gName i)) tz) D δ := fun σ H ⟨G, F, g⟩ =>
  h B σ H G F g _ fun x G' H' n ⟨dx, p, q, h1, h2, h3, h4, h5, h6⟩ => by
    refine k x p q _ _ ⟨_, _, (g.up n).put (s := .ob x C p q ps bs fee) (f := [x, dx, p, q]) ⟨dx, rfl, rfl, h1, h2, h3, h4, h5⟩ fun c hc => ?_⟩
    obtain ⟨f1, f2⟩ := h6 c hc
    refine ⟨f1, g.nu.h.free f2, ?_, fun j hj _ hm => (g.frs j c hj hm).2.2 f2⟩
    simp only [List.mem_cons, List.not_mem_nil, or_false] at hc
    rcases hc with rfl | rfl | rfl | rfl
    · exact some_ne h1
    · exact some_ne h2
    · exact some_ne h3
    · exact some_ne h4
def RtO (K : PySem.W.Frag) (B : Bs) (D : Ends) (C : Addr) (ps bs : List Int) (fee : Option Int) : Prop := ∀ x G' H', Nu B.G0 B.H0 G' H' → ObNew G' B.H0 H' x C ps bs fee → D.rt (.ref x) H'
theorem r_retO (h : EvNB K te δ C ps bs fee) (k : RtO K B D C ps bs fee) : RunS K B (tSeq (tRet te) tz) D δ := fun σ H ⟨G, F, g⟩ =>
  h B σ H G F g _ fun x G' H' n ⟨dx, p, q, h1, h2, h3, h4, h5, h6⟩ => k x G' H' (g.nu.trans n) ⟨dx, p, q, h1, h2, h3, h4, h5, fun b hb => ⟨(h6 b hb).1, g.nu.h.free (h6 b hb).2⟩⟩
/-- the bounds' list is written -/
theorem goodAt_wrB {σ : L2.St} {H G : Hp} {F : Nat → List Addr} {x p q : Addr} {bs' : List Int} (g : GoodAt K B δ σ H G F) (h : δ[i]? = some (.ob x C p q ps bs fee)) : Good K B (δ.set i (.ob x C p q ps bs' fee)) σ (upd H q (.lst (bs'.map V.int))) := by
  obtain ⟨o, h1, dx, hf, h2, h3, h4, h5, h6, h7⟩ := g.own i _ h
  subst h2
  have hi : i < δ.length := (List.getElem?_eq_some_iff.mp h).1
  have hqF : q ∈ F i := by rw [hf]; simp
  obtain ⟨f1, f2, f3⟩ := g.frs i q hi hqF
  have hF : ∀ j, j < δ.length → j ≠ i → q ∉ F j := fun j hj hne hm => hne (g.sep j i q hj hi hm hqF)
  refine ⟨G, F, ⟨g.nu.g, fun c o z => ?_, fun c o z => ?_, g.nu.n⟩, g.base, by rw [List.length_set]; exact g.len, fun j s e => ?_, fun j k c hj hk => ?_, fun j c hj hc => ?_⟩
  · rw [upd_ne (fun e => by rw [e] at z; rw [f2] at z; cases z)]; exact g.nu.h _ _ z
  · rw [upd_ne (fun e => by rw [e] at z; rw [f1] at z; cases z)]; exact g.nu.s _ _ z
  · by_cases hj : j = i
    · subst hj
      rw [List.getElem?_set_self hi] at e
      cases e
      have n1 : x ≠ q := fun z => by rw [z, h6] at h3; cases h3
      have n2 : dx ≠ q := fun z => by rw [z, h6] at h4; cases h4
      exact ⟨_, h1, dx, hf, rfl, by rw [upd_ne n1]; exact h3, by rw [upd_ne n2]; exact h4, by rw [upd_ne h7]; exact h5, upd_same, h7⟩
    · rw [List.getElem?_set_ne (fun z => hj z.symm)] at e
      obtain ⟨o, k1, k2⟩ := g.own j s e
      have hjl : j < δ.length := (List.getElem?_eq_some_iff.mp e).1
      refine ⟨o, k1, k2.up (Same.refl _) fun c hc => upd_ne fun z => ?_⟩
      subst z
      exact hF j hjl hj hc
  · rw [List.length_set] at hj hk
    exact g.sep j k c hj hk
  · rw [List.length_set] at hj
    obtain ⟨k1, k2, k3⟩ := g.frs j c hj hc
    refine ⟨k1, k2, ?_⟩
    by_cases hcp : c = q
    · rw [hcp, upd_same]; exact fun z => nomatch z
    · rw [upd_ne hcp]; exact k3
/-- o.bounds.append(e) -/
theorem r_obApp {x p q : Addr} {n : Int} (c : COk K C) (hi : δ[i]? = some (.ob x C p q ps bs fee)) (h : EvD K te δ (.int n)) (hz : bs.length ≤ 1000000) (k : RunS K B tz D (δ.set i (.ob x C p q ps (bs ++ [n]) fee))) :
    RunS K B (tSeq (tDrop (tBM K "list" rAppend (tFld K (tVar i) "bounds") (tCons te tNil))) tz) D δ := fun σ H ⟨G, F, g⟩ => by
  obtain ⟨o, h1, dx, hf, h2, h3, h4, h5, h6, h7⟩ := g.own i _ hi
  subst h2
  refine ⟨.ref x, h1, x, C, dx, _, .ref q, rfl, h3, c.c, c.nb, fl_bounds p q fee, .inl ⟨rfl, _, .inl (.inl h6)⟩, h B σ H G F g _ fun v G' H' n' hv => ?_⟩
  cases hv
  have h6' : H' q = some (.lst (bs.map V.int)) := n'.h _ _ h6
  have kk := k _ _ (goodAt_wrB (bs' := bs ++ [n]) (g.up n') hi)
  rw [List.map_append] at kk
  refine ⟨q, bs.map V.int, .int n, rfl, rfl, h6', ?_, kk⟩
  rw [List.length_map]
  exact Nat.lt_of_le_of_lt hz (by decide)
/-- o.bounds[j] = e -/
theorem r_obSet {x p q : Addr} {n j : Int} {kx : Nat} (c : COk K C) (hi : δ[i]? = some (.ob x C p q ps bs fee)) (h : EvD K te δ (.int n)) (hb : EvD K tb δ (.int j)) (hj : ixN bs.length j = some kx) (k : RunS K B tz D (δ.set i (.ob x C p q ps (bs.set kx n) fee))) :
    RunS K B (tSeq (tAsg te (gSub (tFld K (tVar i) "bounds") tb rSetL)) tz) D δ := fun σ H ⟨G, F, g⟩ =>
  h B σ H G F g _ fun v G' H' n' hv => by
    obtain ⟨o, h1, dx, hf, h2, h3, h4, h5, h6, h7⟩ := (g.up n').own i _ hi
    subst h2
    refine ⟨.ref x, h1, x, C, dx, _, .ref q, rfl, h3, c.c, c.nb, fl_bounds p q fee, hb B σ H' G' F (g.up n') _ fun w G2 H2 n2 pw => ?_⟩
    cases pw
    cases hv
    have h6' : H2 q = some (.lst (bs.map V.int)) := n2.h _ _ h6
    have kk := k _ _ (goodAt_wrB (bs' := bs.set kx n) ((g.up n').up n2) hi)
    rw [List.map_set] at kk
    exact ⟨q, bs.map V.int, j, kx, rfl, rfl, h6', by rw [List.length_map]; exact hj, kk⟩
/-- called with data it gives a new answer -/
def PrO (K : PySem.W.Frag) (C : Addr) (R : List PyData → List Int → List Int → Option Int → Prop) : Sp := fun vs H Q _ => ∃ G ds ps bs fee, Same G H ∧ DpAll K G vs ds ∧ R ds ps bs fee ∧ ∀ x G' H', Nu G H G' H' → ObNew G' H H' x C ps bs fee → Q (.ref x) H'
theorem evnb_call {R : List PyData → List Int → List Int → Option Int → Prop} {t : TA} {ds : List PyData} {E : XK} (ha : EvA K t δ ds) (hr : R ds ps bs fee) : EvNB K (tCall (PrO K C R) [] E t) δ C ps bs fee := fun B σ H G F g Q q =>
  ha B σ H G F g _ fun vs G1 H1 n1 p => ⟨G1, ds, ps, bs, fee, n1.s, by rw [List.append_nil]; exact p, hr, fun x G' H' n ⟨dx, p', q', h1, h2, h3, h4, h5, h6⟩ => q x G' H' (n1.trans n) ⟨dx, p', q', h1, h2, h3, h4, h5, fun b hb => ⟨(h6 b hb).1, n1.h.free (h6 b hb).2⟩⟩⟩
end
section
variable {P : Program} {w : World} {K : PySem.W.Frag} {mg : Str → Option Value} {base : Heap} {x qual : Str} {st : Stmt} {f : Addr} {fd : FuncData} {N ps : List Str} {k : Nat} {t : TS} {C : Addr}
theorem ok_prO {R : List PyData → List Int → List Int → Option Int → Prop} (F : Fun K x qual st f fd) (S : FnScope N ps (defScope st)) (len : ∀ ds a b c, R ds a b c → ds.length = ps.length)
    (hd : ∀ (cdv : Value) (A : Around) (outer : List Env) (s : Shared) (H : Hp) (E : XK), Room k (A.deeper (PyProof.Rows.envOfC qual (defScope st) s.heap.objs.size f cdv)) → PSs (cxOf CX0 P w K mg base N qual (defScope st) f cdv A outer s H E).nox (defBody st) t)
    (run : ∀ ds a b c, R ds a b c → ∀ B D, RtO K B D C a b c → RunS K B t D (ds.map Sl.d ++ List.replicate (N.length - ds.length) Sl.no)) : FnOk P w K mg base CX0 (k + 1) f fd ps (PrO K C R) := by
  refine F.ok S (fun vs H Q E h => ?_) (fun cdv A outer s H vs Q E hr h => ⟨t, hd cdv A outer s H E hr, ?_⟩)
  · obtain ⟨G, ds, a, b, c, _, p, r, _⟩ := h
    rw [dpAll_len p]; exact len ds a b c r
  · obtain ⟨G, ds, a, b, c, s0, p, r, q⟩ := h
    exact run ds a b c r ⟨G, G, H⟩ _ (fun x G' H' n o => q x G' H' n o) _ _ (good_start s0 p)
theorem ok_prB {R : List Ad → Bool → Prop} (F : Fun K x qual st f fd) (S : FnScope N ps (defScope st)) (len : ∀ as b, R as b → as.length = ps.length)
    (hd : ∀ (cdv : Value) (A : Around) (outer : List Env) (s : Shared) (H : Hp) (E : XK), Room k (A.deeper (PyProof.Rows.envOfC qual (defScope st) s.heap.objs.size f cdv)) → PSs (cxOf CX0 P w K mg base N qual (defScope st) f cdv A outer s H E).nox (defBody st) t)
    (run : ∀ as b, R as b → ∀ B D, RtD K B D (.bool b) → RunS K B t D (as.map Ad.sl ++ List.replicate (N.length - as.length) Sl.no)) : FnOk P w K mg base CX0 (k + 1) f fd ps (PrB K R) := by
  refine F.ok S (fun vs H Q E h => ?_) (fun cdv A outer s H vs Q E hr h => ⟨t, hd cdv A outer s H E hr, ?_⟩)
  · obtain ⟨as, b, p, r, _⟩ := h
    rw [p.len]; exact len as b r
  · obtain ⟨as, b, p, r, q⟩ := h
    refine run as b r ⟨H, H, H⟩ _ (fun v G' H' n hv => ?_) _ _ (good_startB p)
    cases hv
    exact q H' n.h
end
end Ph

set_option Elab.async false
set_option linter.all false
set_option maxRecDepth 100000
set_option maxHeartbeats 2000000
namespace Ph
open PySem PySem.Spec L2
/-- a class of the text that is called -/
structure ClM (P : Program) (w : World) (K : PySem.W.Frag) (mg : Str → Option Value) (base : Heap) (k : Nat) (x : Str) (C : Addr) (sp : Sp) : Prop where
  ex : ∃ (f : Addr) (fd : FuncData) (ps : List Str), Mk K C f ∧ FnOk P w K mg base CX0 k f fd ps sp ∧ mg x = some (.ref C) ∧ Binds K fd ps []
theorem pmk {X : Cx} {k j : Nat} {x : Str} {C : Addr} {sp : Sp} {p pos : Pos} {e : Expr} {es : List Expr} {t : TA} (c : ClM X.prog X.w X.K X.mg X.base k x C sp) (hr : Room j X.A) (hk : k + 1 ≤ j) (hg : Gl X x) (ha : PA X (e :: es) t)
    (hdb : (x == ("__debug__" : Str)) = false := by decide) (he : starEach (e :: es) X.env = (false, eval e X.env) :: starEach es X.env := by rfl) (hpl : (backTo pos (starEach es X.env)).any (·.1) = false := by rfl) :
    PE X (.Call (.Name x p) (e :: es) [] pos) (tMake C sp [] E0 t) := by
  obtain ⟨f, fd, ps, M, F, hm, b⟩ := c.ex
  exact pe_make M F (hr.mono hk) hg hm b .nil pass0 ha hdb he hpl
/-- a method -/
structure ClT (P : Program) (w : World) (K : PySem.W.Frag) (mg : Str → Option Value) (base : Heap) (k : Nat) (C : Addr) (m : Str) (sp : Sp) : Prop where
  ex : ∃ (f : Addr) (fd : FuncData) (ps : List Str), Meth K C m f ∧ FnOk P w K mg base CX0 k f fd ps sp ∧ Binds K fd ps []
  c : Cls K C
theorem pmeth {X : Cx} {k j : Nat} {m : Str} {C : Addr} {sp : Sp} {apos pos : Pos} {o e : Expr} {es : List Expr} {to : TE} {t : TA} {pl : Sem Bool} (c : ClT X.prog X.w X.K X.mg X.base k C m sp) (hr : Room j X.A) (hk : k ≤ j) (ho : PE X o to) (ha : PA X (e :: es) t)
    (hst : starEach (e :: es) X.env = (false, eval e X.env) :: starEach es X.env := by rfl) (hpl : (backTo pos (starEach es X.env)).any (·.1) = false := by rfl)
    (ht : eval (.Call (.Attribute o m apos) (e :: es) [] pos) X.env = (do
      let ov ← eval o X.env
      standAt apos.atName
      let (f, first) ← holding [ov] (getMethod ov m pl)
      callWith pos f first (backTo pos (starEach (e :: es) X.env)) (backToKw pos (keywordEach [] X.env))) := by rfl) :
    PE X (.Call (.Attribute o m apos) (e :: es) [] pos) (tMeth C m sp [] E0 to t) := by
  obtain ⟨f, fd, ps, M, F, b⟩ := c.ex
  exact pe_meth ho c.c M F (hr.mono hk) b .nil pass0 ha hst hpl ht
/-! ### isinstance -/
structure IsC (K : PySem.W.Frag) (C : Addr) : Prop where
  ha : PySem.W.findIn K (.ref C) "__class__" = some (some (.builtin "object.__class__"))
  hn : PySem.W.specialIn K (.builtin "object.__class__") "__get__" = some (some (.builtin "getset_descriptor.__get__"))
  tk : PySem.W.takesIn K (.builtin "object.__class__") = some true
  hm : PySem.W.mroIn K C (.type "object") = some true
theorem evd_isiO {K : PySem.W.Frag} {δ : List Sl} {te : TE} {C D : Addr} {ps bs : List Int} {fee : Option Int} {b : Bool} (co : COk K C) (ic : IsC K C) (h : EvB K te δ C ps bs fee) (hk : PySem.W.kitOne K (.ref C) (.ref D) = some b) :
    EvD K (tCB (cIsi K) (tCons te (tCons (tC (.ref D)) tNil))) δ (.bool b) := fun B σ H G F g Q q =>
  h B σ H G F g _ fun x G1 H1 n1 ⟨dx, p, q', e1, _, _⟩ => ⟨.ref x, .ref D, .ref C, .ref D, b, rfl, .own D, .base (.ins e1 co.c ic.ha ic.hn ic.tk ic.hm), hk, q _ G1 H1 n1 (.bl b)⟩
/-! ### more facts of the head -/
inductive Xf where
  | isc (x : Str)
  | kit (x y : Str) (b : Bool)
def Xf.ok (K : PySem.W.Frag) : Xf → Bool
  | .isc x => He.eqO (PySem.W.findIn K (.ref (He.ga K x)) "__class__") (some (some (.builtin "object.__class__"))) && (He.eqO (PySem.W.specialIn K (.builtin "object.__class__") "__get__") (some (some (.builtin "getset_descriptor.__get__"))) &&
      (decide (PySem.W.takesIn K (.builtin "object.__class__") = some true) && decide (PySem.W.mroIn K (He.ga K x) (.type "object") = some true)))
  | .kit x y b => decide (PySem.W.kitOne K (.ref (He.ga K x)) (.ref (He.ga K y)) = some b)
theorem isc_ok {K : PySem.W.Frag} {x : Str} (h : (Xf.isc x).ok K = true) : IsC K (He.ga K x) := by
  obtain ⟨h1, h⟩ := He.ba h
  obtain ⟨h2, h⟩ := He.ba h
  obtain ⟨h3, h4⟩ := He.ba h
  exact ⟨He.eqO_ok h1, He.eqO_ok h2, of_decide_eq_true h3, of_decide_eq_true h4⟩
theorem kit_ok {K : PySem.W.Frag} {x y : Str} {b : Bool} (h : (Xf.kit x y b).ok K = true) : PySem.W.kitOne K (.ref (He.ga K x)) (.ref (He.ga K y)) = some b := of_decide_eq_true h
abbrev AlX : Type := Bool × He.AlD
def obsX (xs : List Xf) (fa : List He.Fa) (fn : List He.DefD) (K : PySem.W.Frag) : AlX := (xs.all fun f => f.ok K, He.obsD fa fn K)
def obsXG (n : Nat) (xs : List Xf) (fa : List He.Fa) (fn : List He.DefD) (g : Addr → Option Obj) : AlX := obsX xs fa fn (He.frG g (He.asD g n))
def hookX (n : Nat) (xs : List Xf) (fa : List He.Fa) (fn : List He.DefD) : PySem.W.Hook where
  α := AlX
  obs := fun s => obsXG n xs fa fn s.heap.get?
  val := fun _ => (true, He.valD fn)
  says := fun _ h => ∃ K : PySem.W.Frag, K.In h ∧ He.SaysD fa fn K ∧ (xs.all fun f => f.ok K) = true
  of := fun _ _ e => ⟨_, He.frG_in, congrArg (fun z : AlX => z.2) e, congrArg (fun z : AlX => z.1) e⟩
  keeps := fun _ _ _ ⟨K, hK, c⟩ k => ⟨K, PySem.W.Frag.In.keeps hK k, c⟩
theorem obsXG_eq {n : Nat} {xs : List Xf} {fa : List He.Fa} {fn : List He.DefD} {g : Addr → Option Obj} {s : Shared} (h : ∀ a, g a = s.heap.get? a) : obsXG n xs fa fn g = (hookX n xs fa fn).obs s := by
  have e : g = s.heap.get? := funext h
  rw [e] <;> rfl
theorem xf_at {xs : List Xf} {K : PySem.W.Frag} (c : (xs.all fun f => f.ok K) = true) (i : Nat) {f : Xf} (h : xs[i]? = some f := by rfl) : f.ok K = true := List.all_eq_true.mp c f (List.mem_of_getElem? h)
/-! ### __init__ -/
theorem sqL_updI {K : PySem.W.Frag} {H : Hp} {x b C dx : Addr} {fs : List (Str × V)} {u : HO} {xs : List V} (hx : H x = some (.ins C dx fs)) (h : SqL K H b xs) : SqL K (upd H x u) b xs := by
  refine h.imp (fun z => ?_) id
  have hb : b ≠ x := by
    rintro rfl
    rcases z with z | ⟨o, z⟩
    · rw [hx] at z; cases z
    · rw [hx] at z; cases z
  rcases z with z | ⟨o, z⟩
  · exact .inl (by rw [upd_ne hb]; exact z)
  · exact .inr ⟨o, by rw [upd_ne hb]; exact z⟩
def t_init3 (K : PySem.W.Frag) : TS := tSeq (sFld K (tVar 0) (tCB (cList K) (tCons (tVar 1) tNil)) "posts") (tSeq (sFld K (tVar 0) (tCB (cList K) (tCons (tVar 2) tNil)) "bounds") (tSeq (sFld K (tVar 0) (tVar 3) "fee") tNext))
def t_init2 (K : PySem.W.Frag) : TS := tSeq (sFld K (tVar 0) (tCB (cList K) (tCons (tVar 1) tNil)) "posts") (tSeq (sFld K (tVar 0) (tCB (cList K) (tCons (tVar 2) tNil)) "bounds") tNext)
/-- .. with a fee or without -/
abbrev PrI3 (K : PySem.W.Frag) (C : Addr) : Sp := PrIn K 4 C
abbrev PrI2 (K : PySem.W.Frag) (C : Addr) : Sp := PrIn K 3 C
section
variable {K : PySem.W.Frag} {C x dx a b : Addr} {ps bs : List Int} {H : Hp} {Q : VK}
theorem init_two {σ : L2.St} {D : Ends} {tz : TS} (co : COk K C) (s0 : σ[0]? = some (some (.ref x))) (s1 : σ[1]? = some (some (.ref a))) (s2 : σ[2]? = some (some (.ref b))) (hx : H x = some (.ins C dx [])) (ha : SqL K H a (ps.map V.int)) (hb : SqL K H b (bs.map V.int))
    (k : ∀ p q H', p ≠ q → H p = none → H q = none → (∀ c, c ≠ x → H c ≠ none → H' c = H c) → H' x = some (.ins C dx (flds p q none)) → H' p = some (.lst (ps.map V.int)) → H' q = some (.lst (bs.map V.int)) → tz D σ H') :
    tSeq (sFld K (tVar 0) (tCB (cList K) (tCons (tVar 1) tNil)) "posts") (tSeq (sFld K (tVar 0) (tCB (cList K) (tCons (tVar 2) tNil)) "bounds") tz) D σ H := by
  refine ⟨.ref a, s1, a, ps.map V.int, rfl, .inl ha, fun l hl => ?_⟩
  have hlx : x ≠ l := fun z => by rw [z, hl] at hx; cases hx
  have hx1 : upd H l (.lst (ps.map V.int)) x = some (.ins C dx []) := by rw [upd_ne hlx]; exact hx
  refine ⟨.ref x, s0, x, C, dx, [], rfl, hx1, co.c, co.np, by decide, ?_⟩
  have hb1 : SqL K (upd (upd H l (.lst (ps.map V.int))) x (.ins C dx (putF "posts" (.ref l) []))) b (bs.map V.int) := sqL_updI hx1 (sqL_mono (same_upd hl) hb)
  refine ⟨.ref b, s2, b, bs.map V.int, rfl, .inl hb1, fun l2 hl2 => ?_⟩
  have h2x : x ≠ l2 := fun z => by rw [← z, upd_same] at hl2; cases hl2
  have h2l : l ≠ l2 := fun z => by rw [← z, upd_ne hlx.symm, upd_same] at hl2; cases hl2
  have hl2H : H l2 = none := by rw [upd_ne h2x.symm, upd_ne h2l.symm] at hl2; exact hl2
  refine ⟨.ref x, s0, x, C, dx, putF "posts" (.ref l) [], rfl, by rw [upd_ne h2x, upd_same], co.c, co.nb, (show 1 < 1000 by decide), ?_⟩
  refine k l l2 _ h2l hl hl2H (fun c hc hn => ?_) (by rw [upd_same]; rfl) ?_ ?_
  · have c1 : c ≠ l := fun z => hn (by rw [z]; exact hl)
    have c2 : c ≠ l2 := fun z => hn (by rw [z]; exact hl2H)
    rw [upd_ne hc, upd_ne c2, upd_ne hc, upd_ne c1]
  · rw [upd_ne hlx.symm, upd_ne h2l, upd_ne hlx.symm, upd_same]
  · rw [upd_ne h2x.symm, upd_same]
theorem init_ok3 {vs : List V} {E : XK} (co : COk K C) (h : PrI3 K C vs H Q E) (N : List Str) : t_init3 K { nx := fun _ H' => Q .non H', rt := Q } (L2.start N vs) H := by
  obtain ⟨hl, x, dx, a, b, ps, bs, fee, rfl, hx, ha, hb, k⟩ := h
  cases fee with
  | none => cases hl
  | some i =>
    refine init_two co rfl rfl rfl hx ha hb fun p q H' h1 h2 h3 h4 h5 h6 h7 => ?_
    have px : p ≠ x := fun z => by rw [z, hx] at h2; cases h2
    have qx : q ≠ x := fun z => by rw [z, hx] at h3; cases h3
    refine ⟨.int i, rfl, .ref x, rfl, x, C, dx, _, rfl, h5, co.c, co.nf, (show 2 < 1000 by decide), ?_⟩
    exact k p q _ h1 h2 h3 (fun c hc hn => by rw [upd_ne hc]; exact h4 c hc hn) (by rw [upd_same]; rfl) (by rw [upd_ne px]; exact h6) (by rw [upd_ne qx]; exact h7)
theorem init_ok2 {vs : List V} {E : XK} (co : COk K C) (h : PrI2 K C vs H Q E) (N : List Str) : t_init2 K { nx := fun _ H' => Q .non H', rt := Q } (L2.start N vs) H := by
  obtain ⟨hl, x, dx, a, b, ps, bs, fee, rfl, hx, ha, hb, k⟩ := h
  cases fee with
  | some i => cases hl
  | none => exact init_two co rfl rfl rfl hx ha hb k
end
end Ph

set_option Elab.async false
set_option linter.all false
set_option maxRecDepth 100000
set_option maxHeartbeats 2000000
namespace Ph
open PySem PySem.Spec L2
section
variable {K : PySem.W.Frag} {B : Bs} {D : Ends} {δ : List Sl} {te : TE} {tt : TS} {C : Addr} {ps bs : List Int} {fee : Option Int} {i : Nat}
/-- several things become known at once -/
theorem know_all {B : Bs} {G H : Hp} (nu : Nu B.G0 B.H0 G H) (base : Same B.Gb G) : ∀ (cs : List Addr), (∀ c ∈ cs, G c = none ∧ B.H0 c = none ∧ H c ≠ none) → ∃ G', Nu B.G0 B.H0 G' H ∧ Same B.Gb G' ∧ Same G G' ∧ (∀ c ∈ cs, G' c = H c) ∧ ∀ c, c ∉ cs → G' c = G c
  | [], _ => ⟨G, nu, base, Same.refl _, fun _ h => (nomatch h), fun _ _ => rfl⟩
  | c :: cs, h => by
    obtain ⟨G', n1, b1, s1, k1, k2⟩ := know_all nu base cs fun d hd => h d (List.mem_cons_of_mem _ hd)
    obtain ⟨h1, h2, h3⟩ := h c (List.mem_cons_self ..)
    obtain ⟨o, ho⟩ := ne_some h3
    by_cases hm : c ∈ cs
    · exact ⟨G', n1, b1, s1, fun d hd => by
        rcases List.mem_cons.mp hd with rfl | hd
        · exact k1 _ hm
        · exact k1 _ hd, fun d hd => k2 d fun z => hd (List.mem_cons_of_mem _ z)⟩
    · have hg : G' c = none := by rw [k2 c hm]; exact h1
      refine ⟨upd G' c o, n1.know hg h2 ho, b1.trans (same_upd hg), s1.trans (same_upd hg), fun d hd => ?_, fun d hd => ?_⟩
      · by_cases e : d = c
        · rw [e, upd_same, ho]
        · rw [upd_ne e]
          rcases List.mem_cons.mp hd with z | z
          · exact absurd z e
          · exact k1 d z
      · have e : d ≠ c := fun z => hd (by rw [z]; exact List.mem_cons_self ..)
        rw [upd_ne e]
        exact k2 d fun z => hd (List.mem_cons_of_mem _ z)
/-- an answer of one's own is known from here on -/
theorem r_freezeO {x p q : Addr} (hi : δ[i]? = some (.ob x C p q ps bs fee)) (k : RunS K B tt D (δ.set i (.od C ps bs fee))) : RunS K B tt D δ := fun σ H ⟨G, F, g⟩ => by
  obtain ⟨o, h1, dx, hf, h2, h3, h4, h5, h6, h7⟩ := g.own i _ hi
  subst h2
  have hil : i < δ.length := (List.getElem?_eq_some_iff.mp hi).1
  obtain ⟨G', n1, b1, s1, k1, k2⟩ := know_all g.nu g.base (F i) fun c hc => g.frs i c hil hc
  have mem : ∀ c, c = x ∨ c = dx ∨ c = p ∨ c = q → G' c = H c := fun c hc => k1 c (by rw [hf]; simp; exact hc)
  refine k σ H ⟨G', fun j => if j = i then [] else F j, n1, b1, by rw [List.length_set]; exact g.len, fun j s e => ?_, fun j l c hj hl a b => ?_, fun j c hj hc => ?_⟩
  · by_cases hj : j = i
    · subst hj
      rw [List.getElem?_set_self hil] at e
      cases e
      refine ⟨_, h1, ?_⟩
      rw [if_pos rfl]
      exact ⟨rfl, x, dx, p, q, rfl, by rw [mem x (.inl rfl)]; exact h3, by rw [mem p (.inr (.inr (.inl rfl)))]; exact h5, by rw [mem q (.inr (.inr (.inr rfl)))]; exact h6⟩
    · rw [List.getElem?_set_ne (fun z => hj z.symm)] at e
      obtain ⟨o, k3, k4⟩ := g.own j s e
      refine ⟨o, k3, ?_⟩
      rw [if_neg hj]
      exact k4.up s1 fun _ _ => rfl
  · rw [List.length_set] at hj hl
    split at a
    · cases a
    · split at b
      · cases b
      · exact g.sep j l c hj hl a b
  · rw [List.length_set] at hj
    split at hc
    · cases hc
    · rename_i hji
      obtain ⟨k3, k4, k5⟩ := g.frs j c hj hc
      refine ⟨?_, k4, k5⟩
      rw [k2 c fun z => hji (g.sep j i c hj hil hc z)]
      exact k3
theorem evd_postsD {n : Nat} (c : COk K C) (h : δ[n]? = some (.od C ps bs fee)) : EvD K (tFld K (tVar n) "posts") δ (.list (ps.map .int)) := fun B σ H G F g Q k => by
  obtain ⟨o, h1, _, x, dx, p, q, h2, h3, h4, h5⟩ := g.own n _ h
  subst h2
  exact ⟨.ref x, h1, x, C, dx, _, .ref p, rfl, g.nu.s _ _ h3, c.c, c.np, fl_posts p q fee, k _ G H (Nu.refl g.nu.s) (.lst (.inl (.inl h4)) (ints_dpAll ps))⟩
theorem evd_boundsD {n : Nat} (c : COk K C) (h : δ[n]? = some (.od C ps bs fee)) : EvD K (tFld K (tVar n) "bounds") δ (.list (bs.map .int)) := fun B σ H G F g Q k => by
  obtain ⟨o, h1, _, x, dx, p, q, h2, h3, h4, h5⟩ := g.own n _ h
  subst h2
  exact ⟨.ref x, h1, x, C, dx, _, .ref q, rfl, g.nu.s _ _ h3, c.c, c.nb, fl_bounds p q fee, k _ G H (Nu.refl g.nu.s) (.lst (.inl (.inl h5)) (ints_dpAll bs))⟩
end
end Ph

set_option Elab.async false
set_option linter.all false
set_option maxRecDepth 100000
set_option maxHeartbeats 2000000
namespace Ph
open PySem PySem.Spec L2
/-! ### a list of two lists -/
section
variable {K : PySem.W.Frag} {B : Bs} {D : Ends} {δ : List Sl} {te ta tb : TE} {tz : TS} {as bs : List Int} {i : Nat}
/-- something of one's own is written -/
theorem goodAt_wrG {σ : L2.St} {H G : Hp} {F : Nat → List Addr} {c0 : Addr} {u : HO} {s' : Sl} (g : GoodAt K B δ σ H G F) (hi : i < δ.length) (hc : c0 ∈ F i) (ho : ∀ o, σ[i]? = some o → Own K G (upd H c0 u) o s' (F i)) : Good K B (δ.set i s') σ (upd H c0 u) := by
  obtain ⟨f1, f2, f3⟩ := g.frs i c0 hi hc
  have hF : ∀ j, j < δ.length → j ≠ i → c0 ∉ F j := fun j hj hne hm => hne (g.sep j i c0 hj hi hm hc)
  refine ⟨G, F, ⟨g.nu.g, fun c o z => ?_, fun c o z => ?_, g.nu.n⟩, g.base, by rw [List.length_set]; exact g.len, fun j s e => ?_, fun j k c hj hk => ?_, fun j c hj hc2 => ?_⟩
  · rw [upd_ne (fun e => by rw [e] at z; rw [f2] at z; cases z)]; exact g.nu.h _ _ z
  · rw [upd_ne (fun e => by rw [e] at z; rw [f1] at z; cases z)]; exact g.nu.s _ _ z
  · by_cases hj : j = i
    · subst hj
      rw [List.getElem?_set_self hi] at e
      cases e
      obtain ⟨o, h1, _⟩ := g.own j _ (List.getElem?_eq_getElem hi)
      exact ⟨o, h1, ho o h1⟩
    · rw [List.getElem?_set_ne (fun z => hj z.symm)] at e
      obtain ⟨o, k1, k2⟩ := g.own j s e
      have hjl : j < δ.length := (List.getElem?_eq_some_iff.mp e).1
      refine ⟨o, k1, k2.up (Same.refl _) fun c hcj => upd_ne fun z => ?_⟩
      rw [z] at hcj
      exact hF j hjl hj hcj
  · rw [List.length_set] at hj hk
    exact g.sep j k c hj hk
  · rw [List.length_set] at hj
    obtain ⟨k1, k2, k3⟩ := g.frs j c hj hc2
    refine ⟨k1, k2, ?_⟩
    by_cases hcp : c = c0
    · rw [hcp, upd_same]; exact fun z => nomatch z
    · rw [upd_ne hcp]; exact k3
theorem r_setM2 (ha : EvL K ta δ (as.map .int)) (hb : EvL K tb δ (bs.map .int)) (k : ∀ h p q, RunS K B tz D (δ.set i (.m2 h p q as bs))) :
    RunS K B (tSeq (tAsg (tLst (tCons (tCB (cList K) (tCons ta tNil)) (tCons (tCB (cList K) (tCons tb tNil)) tNil))) (gName i)) tz) D δ := fun σ H ⟨G, F, g⟩ =>
  (evn_list ha) B σ H G F g _ fun p vs G1 H1 n1 f1 f2 f3 f4 => (evn_list hb) B σ H1 G1 F (g.up n1) _ fun q ws G2 H2 n2 e1 e2 e3 e4 => by
    have z1 := dpAll_ints f4
    have z2 := dpAll_ints e4
    subst z1 z2
    refine ⟨(by decide : 2 ≤ sizeLine), fun l hl => ?_⟩
    have hp2 : H2 p = some (.lst (as.map V.int)) := n2.h _ _ f3
    have hpl : p ≠ l := fun z => by rw [z, hl] at hp2; cases hp2
    have hql : q ≠ l := fun z => by rw [z, hl] at e3; cases e3
    have hpq : p ≠ q := fun z => by rw [z, e2] at f3; cases f3
    have n := (n1.trans n2).trans (Nu.laid (o := .lst [.ref p, .ref q]) n2.s hl)
    refine k l p q _ _ ⟨_, _, (g.up n).put (s := .m2 l p q as bs) (f := [l, p, q]) ⟨rfl, rfl, upd_same, by rw [upd_ne hpl]; exact hp2, by rw [upd_ne hql]; exact e3, hpq, hpl.symm, hql.symm⟩ fun c hc => ?_⟩
    have hcN : G2 c = none ∧ H c = none := by
      simp only [List.mem_cons, List.not_mem_nil, or_false] at hc
      rcases hc with rfl | rfl | rfl
      · exact ⟨n2.s.free hl, n1.h.free (n2.h.free hl)⟩
      · exact ⟨n2.n _ f1 (some_ne f3), f2⟩
      · exact ⟨e1, n1.h.free e2⟩
    refine ⟨hcN.1, g.nu.h.free hcN.2, ?_, fun j hj _ hm => (g.frs j c hj hm).2.2 hcN.2⟩
    simp only [List.mem_cons, List.not_mem_nil, or_false] at hc
    rcases hc with rfl | rfl | rfl
    · rw [upd_same]; exact fun z => nomatch z
    · rw [upd_ne hpl]; exact some_ne hp2
    · rw [upd_ne hql]; exact some_ne e3
theorem evl_m2a {h p q : Addr} (hi : δ[i]? = some (.m2 h p q as bs)) : EvL K (tOp (oIx K) (tVar i) (tC (.int 0))) δ (as.map .int) := fun B σ H G F g Q k => by
  obtain ⟨o, h1, _, h2, h3, h4, h5, _⟩ := g.own i _ hi
  subst h2
  exact ⟨.ref h, h1, h, _, 0, .ref p, rfl, rfl, .inl (.inl h3), rfl, k _ G H (Nu.refl g.nu.s) ⟨p, _, rfl, .inl (.inl h4), ints_dpAll as⟩⟩
theorem evl_m2b {h p q : Addr} (hi : δ[i]? = some (.m2 h p q as bs)) : EvL K (tOp (oIx K) (tVar i) (tC (.int 1))) δ (bs.map .int) := fun B σ H G F g Q k => by
  obtain ⟨o, h1, _, h2, h3, h4, h5, _⟩ := g.own i _ hi
  subst h2
  exact ⟨.ref h, h1, h, _, 1, .ref q, rfl, rfl, .inl (.inl h3), rfl, k _ G H (Nu.refl g.nu.s) ⟨q, _, rfl, .inl (.inl h5), ints_dpAll bs⟩⟩
theorem r_m2a {h p q : Addr} {n : Int} (hi : δ[i]? = some (.m2 h p q as bs)) (he : EvD K te δ (.int n)) (hz : as.length ≤ 1000000) (k : RunS K B tz D (δ.set i (.m2 h p q (as ++ [n]) bs))) :
    RunS K B (tSeq (tDrop (tBM K "list" rAppend (tOp (oIx K) (tVar i) (tC (.int 0))) (tCons te tNil))) tz) D δ := fun σ H ⟨G, F, g⟩ => by
  obtain ⟨o, h1, hf, h2, h3, h4, h5, h6, h7, h8⟩ := g.own i _ hi
  subst h2
  have hil : i < δ.length := (List.getElem?_eq_some_iff.mp hi).1
  refine ⟨.ref h, h1, h, _, 0, .ref p, rfl, rfl, .inl (.inl h3), rfl, .inl ⟨rfl, _, .inl (.inl h4)⟩, he B σ H G F g _ fun v G' H' n' hv => ?_⟩
  cases hv
  have h4' : H' p = some (.lst (as.map V.int)) := n'.h _ _ h4
  have kk := k _ _ (goodAt_wrG (c0 := p) (u := .lst ((as ++ [n]).map V.int)) (s' := .m2 h p q (as ++ [n]) bs) (g.up n') hil (by rw [hf]; simp) fun o ho => by
    rw [h1] at ho
    cases ho
    exact ⟨hf, rfl, by rw [upd_ne h7]; exact n'.h _ _ h3, upd_same, by rw [upd_ne h6.symm]; exact n'.h _ _ h5, h6, h7, h8⟩)
  rw [List.map_append] at kk
  refine ⟨p, as.map V.int, .int n, rfl, rfl, h4', ?_, kk⟩
  rw [List.length_map]
  exact Nat.lt_of_le_of_lt hz (by decide)
theorem r_m2b {h p q : Addr} {n : Int} (hi : δ[i]? = some (.m2 h p q as bs)) (he : EvD K te δ (.int n)) (hz : bs.length ≤ 1000000) (k : RunS K B tz D (δ.set i (.m2 h p q as (bs ++ [n])))) :
    RunS K B (tSeq (tDrop (tBM K "list" rAppend (tOp (oIx K) (tVar i) (tC (.int 1))) (tCons te tNil))) tz) D δ := fun σ H ⟨G, F, g⟩ => by
  obtain ⟨o, h1, hf, h2, h3, h4, h5, h6, h7, h8⟩ := g.own i _ hi
  subst h2
  have hil : i < δ.length := (List.getElem?_eq_some_iff.mp hi).1
  refine ⟨.ref h, h1, h, _, 1, .ref q, rfl, rfl, .inl (.inl h3), rfl, .inl ⟨rfl, _, .inl (.inl h5)⟩, he B σ H G F g _ fun v G' H' n' hv => ?_⟩
  cases hv
  have h5' : H' q = some (.lst (bs.map V.int)) := n'.h _ _ h5
  have kk := k _ _ (goodAt_wrG (c0 := q) (u := .lst ((bs ++ [n]).map V.int)) (s' := .m2 h p q as (bs ++ [n])) (g.up n') hil (by rw [hf]; simp) fun o ho => by
    rw [h1] at ho
    cases ho
    exact ⟨hf, rfl, by rw [upd_ne h8]; exact n'.h _ _ h3, by rw [upd_ne h6]; exact n'.h _ _ h4, upd_same, h6, h7, h8⟩)
  rw [List.map_append] at kk
  refine ⟨q, bs.map V.int, .int n, rfl, rfl, h5', ?_, kk⟩
  rw [List.length_map]
  exact Nat.lt_of_le_of_lt hz (by decide)
end
end Ph

set_option Elab.async false
set_option linter.all false
set_option maxRecDepth 100000
set_option maxHeartbeats 2000000
namespace Ph
open PySem PySem.Spec L2
/-- list + list, both may be read -/
def oCatL (K : PySem.W.Frag) : R2 := fun x y H Q => ∃ a b xs ys, x = .ref a ∧ y = .ref b ∧ SqL K H a xs ∧ SqL K H b ys ∧ xs.length + ys.length ≤ sizeLine ∧ ∀ p, H p = none → Q (.ref p) (upd H p (.lst (xs ++ ys)))
theorem p_catL {X : Cx} : OpR X (binaryOp .Add) (oCatL X.K) := by
  intro pins s σ H x y v u Q I rx ry h
  obtain ⟨a, b, xs, ys, rfl, rfl, ha, hb, hz, q⟩ := h
  cases rx
  cases ry
  obtain ⟨its, r1, pl1, z1⟩ := I.list ha
  obtain ⟨its2, r2, pl2, z2⟩ := I.list hb
  obtain ⟨⟨cls, dd, data, sl⟩, n, ho, hc, hdd, hd⟩ := pl1
  obtain ⟨⟨cls2, dd2, data2, sl2⟩, n2, ho2, hc2, hdd2, hd2⟩ := pl2
  simp only at hc hd hc2 hd2
  subst hc hd hc2 hd2
  have e : its.toArray ++ its2.toArray = (its ++ its2).toArray := by simp
  have hl1 := r1.length
  have hl2 := r2.length
  refine PySem.concat_meets ⟨_, ho, rfl⟩ ⟨_, ho2, rfl⟩ PySem.noFill_list_add PySem.seq_list_add PySem.F.slot_list_add PySem.F.entry_list_add (PySem.F.args_list_add_2 _ _) (PyProof.Rows.list_addW a b its.toArray its2.toArray n n2 dd dd2 sl sl2 (by simp; omega)) ⟨ho, ho2, ?_⟩
  rw [e]
  exact ⟨.ref _, _, I.lnew (t' := s.toks) (r1.append r2) (by rw [List.length_append]; omega), rfl, q _ I.fresh⟩
section
variable {K : PySem.W.Frag} {δ : List Sl} {ta tb : TE} {ds es : List PyData}
theorem evn_catL (ha : EvL K ta δ ds) (hb : EvL K tb δ es) (hz : ds.length + es.length ≤ 1000000) : EvN K (tOp (oCatL K) ta tb) δ (ds ++ es) := fun B σ H G F g Q q =>
  ha B σ H G F g _ fun v G1 H1 n1 ⟨p, vs, ep, sq, al⟩ => hb B σ H1 G1 F (g.up n1) _ fun w G2 H2 n2 ⟨p2, ws, ep2, sq2, al2⟩ => by
    subst ep ep2
    refine ⟨p, p2, vs, ws, rfl, rfl, sqL_mono n2.h sq, sq2, ?_, fun l hl => ?_⟩
    · rw [dpAll_len al, dpAll_len al2]; exact Nat.le_trans hz (by decide)
    · have n := n1.trans n2
      exact q l _ G2 _ (n.trans (Nu.laid n.s hl)) (n.s.free hl) (n.h.free hl) upd_same (dpAll_app (dpAll_mono n2.g al) al2)
end
end Ph

set_option Elab.async false
set_option linter.all false
set_option maxRecDepth 100000
set_option maxHeartbeats 4000000
namespace Ph
open PySem PySem.Spec L2 PyProof.Rows PySem.Calls
/-- the set that is laid first -/
abbrev ob0 (w : World) : Obj := { cls := .type "set", dict := none, data := .set #[] 0 (.fresh 0 0 (!w.params.followText "set-order")) }
section
variable {P : Program} {w : World} {A : Around} {E : Value → Shared → Prop} {s : Shared} {l : Addr} {items : Array Value} {ns : List Int} {Q : Value → Shared → Prop}
/-- what filling it gives -/
def Filled (w : World) (s : Shared) (ns : List Int) : Value → Shared → Prop := fun r s₂ => r = .none ∧ ∃ h' tk c, s₂ = { s with heap := h', toks := tk } ∧ SetR w h' s.heap.objs.size (fun j => decide (j ∈ ns)) c ∧ c ≤ ns.length ∧ ∀ b o, s.heap.get? b = some o → h'.get? b = some o
theorem fill_list (hh : A.handled = none) (hl : s.heap.IsList l items) (hi : IntsAre items.toList ns) (hb : ns.length + 1 < scanBound) :
    codeAny (model P w) A (.call (.builtin "set.__init__") ⟨[.ref s.heap.objs.size, .ref l], []⟩) (wants (Filled w s ns) E) { s with heap := s.heap.push (ob0 w) } := by
  have hS : (s.heap.push (ob0 w)).get? s.heap.objs.size = some (ob0 w) := Heap.get?_push_size _ rfl
  have hT : Shared.TypeIs { s with heap := s.heap.push (ob0 w) } (.ref s.heap.objs.size) "set" := ⟨_, hS, rfl⟩
  have size : items.size = ns.length := by
    have q := IntsAre.length hi
    rwa [Array.length_toList] at q
  refine codeAny_call_builtin PySem.F.called_set.init.plain PySem.F.entry_set_init (check_set_init_1 hT ?_)
  obtain ⟨⟨ocls, odict, odata, oslots⟩, hol, hcl, nl, hdl⟩ := hl
  simp only at hcl hdl
  subst hcl hdl
  have hol' : (s.heap.push (ob0 w)).get? l = some { cls := .type "list", dict := odict, data := .seq items nl, slots := oslots } := Heap.get?_push_of_some _ hol
  have a1 := PySem.F.sub_list_set
  have a2 := PySem.F.sub_list_frozenset
  have a3 : (Value.type "list" == Value.type "dict") = false := by decide
  have hl1 : (s.heap.push (ob0 w)).IsList l items := ⟨_, hol', rfl, nl, rfl⟩
  have lt : l < s.heap.objs.size := Heap.lt_size hol
  have sz : (s.heap.push (ob0 w)).objs.size = s.heap.objs.size + 1 := Heap.size_push ..
  unfold Builtin.«set.__init__» noKeywords Builtin.Frozenset.updateFrom
  generalize hPI : pyIter = PI
  wp_walk
  subst hPI
  refine wpAny_pyIter_list hl1 (wpAny_bind (wpAny_runValue ?_))
  have n1 : l ≠ (s.heap.push (ob0 w)).objs.size := by rw [sz]; exact Nat.ne_of_lt (Nat.lt_succ_of_lt lt)
  have n2 : s.heap.objs.size ∉ [(s.heap.push (ob0 w)).objs.size, l] := by
    rw [sz]; simp only [List.mem_cons, List.not_mem_nil, or_false, not_or]; exact ⟨Nat.ne_of_lt (Nat.lt_succ_self _), Nat.ne_of_gt lt⟩
  refine set_update_ints ((Walks.list (by simp [hh]) _ l n1 items).toS) s.heap.objs.size n2 ns size hb (fun i v hv => ?_) (items.size - 0) 0 _ (by omega) (Nat.zero_le _) ⟨⟨_, Heap.get?_push_size _ rfl, rfl, rfl⟩, hl1.push _⟩ ⟨0, Nat.le_refl 0, setR_new_at (Heap.get?_push_of_some _ hS)⟩ fun s' c hm hc hR => ?_
  · have hi' : i < ns.length := by rw [← size]; exact (Array.getElem?_eq_some_iff.mp hv).1
    obtain ⟨t, e⟩ := IntsAre.int_at hi i v (by rw [Array.getElem?_toList]; exact hv)
    refine ⟨ns[i], t, List.getElem?_eq_getElem hi', ?_⟩
    rw [e, List.getD_eq_getElem?_getD, List.getElem?_eq_getElem hi'] <;> rfl
  · obtain ⟨h', g2, d', tk', os'⟩ := s'
    obtain rfl : g2 = s.gens := hm.gens
    obtain rfl : d' = s.drawn := hm.drawn
    obtain rfl : os' = s.os := hm.os
    show wpAny _ _ _ _ _ _
    refine wpAny_pure ?_
    show wpAny _ _ (ret Value.none) _ _ _
    refine wpAny_pure ⟨rfl, h', tk', c, rfl, hR, by rw [← size]; exact hc, fun b o e => ?_⟩
    have hb0 : b < s.heap.objs.size := Heap.lt_size e
    exact hm.heap b o (by simp only [List.mem_cons, List.not_mem_nil, or_false, not_or]; rw [sz]; exact ⟨Nat.ne_of_lt hb0, Nat.ne_of_lt (Nat.lt_succ_of_lt hb0)⟩) (Heap.get?_push_of_some _ (Heap.get?_push_of_some _ e))
theorem set_of_list (hh : A.handled = none) (hl : s.heap.IsList l items) (hi : IntsAre items.toList ns) (hb : ns.length + 1 < scanBound)
    (h : ∀ (h' : Heap) (tk c : Nat), SetR w h' s.heap.objs.size (fun j => decide (j ∈ ns)) c → c ≤ ns.length → (∀ b o, s.heap.get? b = some o → h'.get? b = some o) → Q (.ref s.heap.objs.size) { s with heap := h', toks := tk }) :
    wpAny (model P w) A (call (.type "set") [.ref l]) Q E s := by
  obtain ⟨c, tl, hmro⟩ := PySem.F.called_set.mro
  have b1 := PySem.F.called_set.made
  have b2 := PySem.F.called_set.sub
  have b3 := PySem.F.called_set.notType
  have b4 := PySem.F.called_set.canCreate
  have b5 := PySem.F.typeCall_set_1 (.ref l)
  refine wpAny_call (codeAny_of_tree ?_)
  show wpAny _ _ (callAny (.type "set") _) _ _ _
  refine wpAny_pure ⟨Code.quiet_builtin _ (by decide +kernel), codeAny_builtin PySem.F.entry_type_call ?_⟩
  rw [Around.under_plain (weight_type_call_type "set" [.ref l] []) rfl]
  repeat (any_goals (first | assumption | wp_step))
  refine codeAny_mono (code_set_led1 (.ref l) (E := E) (Q₁ := fun obj s₁ => obj = .ref s.heap.objs.size ∧ s₁ = { s with heap := s.heap.push (ob0 w) }) ⟨rfl, rfl⟩) fun r s₁ hr => ?_
  rcases r with e | fl
  · exact hr
  cases fl with
  | ret obj =>
    obtain ⟨rfl, rfl⟩ := hr
    have hT : Shared.TypeIs { s with heap := s.heap.push (ob0 w) } (.ref s.heap.objs.size) "set" := ⟨_, Heap.get?_push_size _ rfl, rfl⟩
    have c1 := PySem.F.called_set.init.lookup
    have c2 := PySem.F.called_set.init.bind (.ref s.heap.objs.size)
    repeat (any_goals (first | assumption | wp_step))
    refine codeAny_mono (fill_list (E := E) (by simp [hh]) hl hi hb) fun r₂ s₂ hr₂ => ?_
    rcases r₂ with e | fl₂
    · exact hr₂
    cases fl₂ with
    | ret r =>
      obtain ⟨rfl, h', tk, c, rfl, d1, d2, d3⟩ := hr₂
      repeat (any_goals (first | assumption | wp_step))
      exact h _ _ c d1 d2 d3
    | _ => exact hr₂.elim
  | _ => exact hr.elim
end
end Ph

set_option Elab.async false
set_option linter.all false
set_option maxRecDepth 100000
set_option maxHeartbeats 4000000
namespace Ph
open PySem PySem.Spec L2
/-- set(list of ints) -/
def cSetI (K : PySem.W.Frag) (w : World) : List V → Hp → VK → Prop := fun xs H Q => ∃ (l : Addr) (ns : List Int), xs = [.ref l] ∧ SqL K H l (ns.map V.int) ∧ ns.length < 64 ∧
  ∀ (p : Addr) (c : Nat), H p = none → c ≤ ns.length → Q (.ref p) (upd H p (SetO w p (fun j => decide (j ∈ ns)) c))
theorem q_setI {X : Cx} (hc : X.calm = true) : CallR X (.type "set") (cSetI X.K X.w) := by
  intro pins s σ H xs us Q I r h
  obtain ⟨l, ns, rfl, sq, hl, q⟩ := h
  rw [Vals.ref1 r]
  obtain ⟨its, rv, pl, hz⟩ := I.list sq
  refine set_of_list (P := X.prog) (w := X.w) (ns := ns) (I.ok.hd hc) pl.isList (by simpa using ints_of_vals rv) (by unfold scanBound; omega) fun h' tk c R hcl k => ?_
  exact ⟨.ref s.heap.objs.size, upd H s.heap.objs.size (SetO X.w s.heap.objs.size (fun j => decide (j ∈ ns)) c), I.laid (t' := tk) k (Nat.le_refl _) (setO_new R), rfl, q _ c (I.hok.fresh (Nat.le_refl _)) hcl⟩
/-- sorted(set(e)) -/
def tSortedSet (K : PySem.W.Frag) (te : TE) : TE := fun σ H Q => te σ H fun v H1 => ∃ (l : Addr) (ns : List Int), v = .ref l ∧ SqL K H1 l (ns.map V.int) ∧ ns.length < 64 ∧
  ∀ (p q : Addr) (ms : List Int) (o : HO), H1 p = none → H1 q = none → p ≠ q → ms.Pairwise (· < ·) → (∀ k, k ∈ ms ↔ k ∈ ns) → Q (.ref q) (upd (upd H1 p o) q (.lst (ms.map V.int)))
theorem pe_sortedSet {X : Cx} {e : Expr} {te : TE} (h : PE X e (tCB (rSortedSet X.w) (tCons (tCB (cSetI X.K X.w) (tCons te tNil)) tNil))) (mono : ∀ σ H (Q Q' : VK), (∀ v H', Q v H' → Q' v H') → te σ H Q → te σ H Q') : PE X e (tSortedSet X.K te) := by
  refine ⟨fun pins s σ H Q I t => h.run pins s σ H Q I ?_⟩
  refine mono σ H _ _ (fun v H1 z => ?_) t
  obtain ⟨l, ns, rfl, sq, hl, q⟩ := z
  refine ⟨l, ns, rfl, sq, hl, fun p c hp hcl => ?_⟩
  refine ⟨p, _, c, rfl, upd_same, by omega, fun ms q' hpw hmem hlen hq' => ?_⟩
  have hne : p ≠ q' := fun z => by rw [← z, upd_same] at hq'; cases hq'
  rw [upd_ne hne.symm] at hq'
  exact q p q' ms _ hp hq' hne hpw fun k => by rw [hmem k]; simp
end Ph
namespace Ph
open PySem PySem.Spec L2
theorem mono_var {n : Nat} : ∀ (σ : L2.St) (H : Hp) (Q Q' : VK), (∀ v H', Q v H' → Q' v H') → tVar n σ H Q → tVar n σ H Q' := fun σ H Q Q' m ⟨v, h1, h2⟩ => ⟨v, h1, m _ _ h2⟩
theorem rise_uniq : ∀ {a b : List Int}, a.Pairwise (· < ·) → b.Pairwise (· < ·) → (∀ k, k ∈ a ↔ k ∈ b) → a = b
  | [], [], _, _, _ => rfl
  | [], y :: b, _, _, h => absurd ((h y).mpr (List.mem_cons_self ..)) (by simp)
  | x :: a, [], _, _, h => absurd ((h x).mp (List.mem_cons_self ..)) (by simp)
  | x :: a, y :: b, h1, h2, h => by
    obtain ⟨p1, p2⟩ := List.pairwise_cons.mp h1
    obtain ⟨q1, q2⟩ := List.pairwise_cons.mp h2
    have e : x = y := by
      rcases List.mem_cons.mp ((h x).mp (List.mem_cons_self ..)) with z | z
      · exact z
      · rcases List.mem_cons.mp ((h y).mpr (List.mem_cons_self ..)) with w | w
        · exact w.symm
        · have := p1 y w
          have := q1 x z
          omega
    subst e
    rw [rise_uniq p2 q2 fun k => ?_]
    constructor
    · intro z
      rcases List.mem_cons.mp ((h k).mp (List.mem_cons_of_mem _ z)) with w | w
      · have := p1 k z
        omega
      · exact w
    · intro z
      rcases List.mem_cons.mp ((h k).mpr (List.mem_cons_of_mem _ z)) with w | w
      · have := q1 k z
        omega
      · exact w
section
variable {K : PySem.W.Frag} {δ : List Sl} {ta tb : TE}
/-- xs != sorted(set(xs)) -/
theorem evd_neSorted {ns : List Int} (ha : EvR K ta δ (eInts ns)) (hb : EvL K tb δ (ns.map .int)) (hl : ns.length < 64) : EvD K (tOp (oNeD K) ta (tSortedSet K tb)) δ (.bool (!decide (ns.Pairwise (· < ·)))) := fun B σ H G F g Q k =>
  ha B σ H G F g _ fun x G1 H1 n1 px => hb B σ H1 G1 F (g.up n1) _ fun y G2 H2 n2 ⟨l, vs, ep, sq, al⟩ => by
    have z := dpAll_ints al
    subst z
    refine ⟨l, ns, ep, sq, hl, fun p q ms o hp hq hne hpw hmem => ?_⟩
    have hq' : upd H2 p o q = none := by rw [upd_ne hne.symm]; exact hq
    have n3 : Nu G H G2 (upd (upd H2 p o) q (.lst (ms.map V.int))) := ((n1.trans n2).trans (Nu.laid n2.s hp)).trans (Nu.laid (n2.s.trans (same_upd hp)) hq')
    refine ⟨eInts ns, eInts ms, dp_mono (n2.h.trans ((same_upd hp).trans (same_upd hq'))) px, .lst (.inl (.inl upd_same)) (ints_dpAll ms), (shp_ints ns).ok (by decide), (shp_ints ms).ok (by decide), ?_⟩
    have e : PyData.eqv (eInts ns) (eInts ms) = decide (ns.Pairwise (· < ·)) := by
      rw [eqv_ints]
      refine decide_eq_decide.mpr ⟨fun h => by rw [h]; exact hpw, fun h => rise_uniq h hpw fun k => (hmem k).symm⟩
    have kk := k (.bl (!PyData.eqv (eInts ns) (eInts ms))) G2 _ n3
    rw [e] at kk ⊢
    exact kk (.bl _)
end
end Ph

set_option Elab.async false
set_option linter.all false
set_option maxRecDepth 100000
set_option maxHeartbeats 2000000
namespace Ph
open PySem PySem.Spec L2
def oInD (K : PySem.W.Frag) : R2 := rInD K
theorem p_inD {X : Cx} {k : Nat} (hr : Room k X.A) : OpR X (compareOp .In) (oInD X.K) := op_inD (by have := hr.un; omega)
section
variable {K : PySem.W.Frag} {δ : List Sl} {ta tb : TE} {d : PyData} {ds : List PyData}
theorem evd_inD (ha : EvR K ta δ d) (hb : EvR K tb δ (.list ds)) (sd : SeqAt.shaped d = true) (se : SeqAt.shaped (.list ds) = true) : EvD K (tOp (oInD K) ta tb) δ (.bool (ds.any fun z => PyData.eqv z d)) := fun B σ H G F g Q q =>
  ha B σ H G F g _ fun x G1 H1 n1 p => hb B σ H1 G1 F (g.up n1) _ fun y G2 H2 n2 p2 => ⟨d, ds, dp_mono n2.h p, p2, sd, se, q _ G2 H2 (n1.trans n2) (.bl _)⟩
end
end Ph

set_option Elab.async false
set_option linter.all false
set_option maxRecDepth 100000
set_option maxHeartbeats 2000000
namespace Ph
open PySem PySem.Spec L2 PyProof.Rows
/-- the places that xs[lo::st] takes -/
def stepIx (n : Nat) (lo st : Int) : List Nat := sliceRange (sliceBounds (some lo) none (some st) n).1 (sliceBounds (some lo) none (some st) n).2.1 (sliceBounds (some lo) none (some st) n).2.2
def stepL {α : Type} (xs : List α) (lo st : Int) : List α := (stepIx xs.length lo st).filterMap (xs[·]?)
theorem stepL_map {α β : Type} (f : α → β) (xs : List α) (lo st : Int) : stepL (xs.map f) lo st = (stepL xs lo st).map f := by
  unfold stepL
  rw [List.length_map, List.map_filterMap]
  congr 1
  funext i
  rw [List.getElem?_map]
theorem stepL_mem {α : Type} {xs : List α} {lo st : Int} {x : α} (h : x ∈ stepL xs lo st) : x ∈ xs := by
  obtain ⟨i, _, hi⟩ := List.mem_filterMap.mp h
  exact List.mem_of_getElem? hi
theorem vals_pick : ∀ (ix : List Nat) {vs : List V} {us : List Value}, Vals vs us → Vals (ix.filterMap (vs[·]?)) (ix.filterMap (us[·]?))
  | [], _, _, _ => .nil
  | i :: ix, vs, us, r => by
    have ih := vals_pick ix r
    have hl := r.length
    rw [List.filterMap_cons, List.filterMap_cons]
    cases h : us[i]? with
    | none =>
      have : vs[i]? = none := by
        rw [List.getElem?_eq_none_iff] at h ⊢
        omega
      rw [this]
      exact ih
    | some u =>
      have hi : i < vs.length := by rw [hl]; exact (List.getElem?_eq_some_iff.mp h).1
      obtain ⟨u', h1, h2⟩ := Vals.get r (List.getElem?_eq_getElem hi)
      rw [h] at h1
      cases h1
      rw [List.getElem?_eq_getElem hi]
      exact .cons h2 ih
/-- xs[lo::st] -/
def tStp (K : PySem.W.Frag) (te : TE) (lo st : Int) : TE := fun σ H Q => te σ H fun x H1 => ∃ a xs, x = .ref a ∧ SqL K H1 a xs ∧ (stepL xs lo st).length ≤ sizeLine ∧ ∀ p, H1 p = none → Q (.ref p) (upd H1 p (.lst (stepL xs lo st)))
theorem pe_stp {X : Cx} {e : Expr} {te : TE} {lo st : Int} {k k2 : Nat} {p1 p2 p3 pos : Pos} (h0 : st ≠ 0) (he : PE X e te) : PE X (.Subscript e (.Slice (some (.Constant (.int lo) k p1)) none (some (.Constant (.int st) k2 p2)) p3) pos) (tStp X.K te lo st) := by
  refine ⟨fun pins s σ H Q I h => ?_⟩
  refine Subscript_ (thn (he.run pins s σ H _ I h) fun v s1 ⟨x, H1, I1, r1, q1⟩ => ?_)
  obtain ⟨a, xs, ex, hx, hlen, q⟩ := q1
  subst ex
  cases r1
  have hlo : PO X (some (.Constant (.int lo) k p1)) (tPart (tC (.int lo))) := po_some pe_int
  have hst : PO X (some (.Constant (.int st) k2 p2)) (tPart (tC (.int st))) := po_some pe_int
  refine wpAny_Slice (thn (hlo.run pins s1 σ H1 (fun o H2 => o = some lo ∧ H2 = H1) I1 ⟨lo, rfl, rfl, rfl⟩) fun vl s2 ⟨l, H2, I2, pl, el, e2⟩ => ?_)
  subst el e2
  refine thn (po_none.run pins s2 σ H2 (fun o H3 => o = none ∧ H3 = H2) I2 ⟨rfl, rfl⟩) fun vu s3 ⟨u, H3, I3, pu, eu, e3⟩ => ?_
  subst eu e3
  refine thn (hst.run pins s3 σ H3 (fun o H4 => o = some st ∧ H4 = H3) I3 ⟨st, rfl, rfl, rfl⟩) fun vs s4 ⟨o, H4, I4, ps, eo, e4⟩ => ?_
  subst eo e4
  have I5 : Inv X pins σ H4 { s4 with heap := s4.heap.push { cls := .type "slice", data := .fields #[vl, vu, vs] } } := I4.kept (t' := s4.toks) fun b ob q => Heap.get?_push_of_some _ q
  obtain ⟨its, r, ht, hz⟩ := I5.list hx
  have hl := r.length
  show wpAny (model X.prog X.w) X.A (subscriptTail e _ (.ref a) (.ref s4.heap.objs.size)) (EP X pins σ Q) X.xe { s4 with heap := s4.heap.push { cls := .type "slice", data := .fields #[vl, vu, vs] } }
  refine tail_any (ops := [.ref a, .ref s4.heap.objs.size]) ht.isList.typeIs (PySem.slot_list_getitem.lookup) ?_ (by with_unfolding_all rfl)
  refine wpAny_getItem_list_slice ht.isList (Heap.IsSliceOf.new _ vl vu vs) pl pu ps (fun z => h0 (Option.some.inj z)) ?_ (by rw [List.size_toArray]; omega)
  have e : slicePick its.toArray (some lo) none (some st) = ((stepIx xs.length lo st).filterMap (its[·]?)).toArray := by
    unfold slicePick stepIx
    rw [List.size_toArray, hl]
    simp
  rw [e]
  refine ⟨.ref _, _, I5.laid (t' := s4.toks) (o := .lst (stepL xs lo st)) (fun b ob q => Heap.get?_push_of_some _ q) (Nat.le_refl _) ?_, rfl, q _ (I5.hok.fresh (Nat.le_refl _))⟩
  exact ⟨hlen, _, 0, vals_pick _ r, Heap.get?_push_size _ rfl⟩
section
variable {K : PySem.W.Frag} {δ : List Sl} {ta : TE} {ds : List PyData}
theorem dpAll_pick {G : Hp} : ∀ (ix : List Nat) {vs : List V} {ds : List PyData}, DpAll K G vs ds → DpAll K G (ix.filterMap (vs[·]?)) (ix.filterMap (ds[·]?))
  | [], _, _, _ => .nil
  | i :: ix, vs, ds, h => by
    have ih := dpAll_pick ix h
    have hl := dpAll_len h
    rw [List.filterMap_cons, List.filterMap_cons]
    cases q : ds[i]? with
    | none =>
      have : vs[i]? = none := by
        rw [List.getElem?_eq_none_iff] at q ⊢
        omega
      rw [this]
      exact ih
    | some d =>
      obtain ⟨v, h1, h2⟩ := dpAll_get h q
      rw [h1]
      exact .cons h2 ih
theorem evn_stp {lo st : Int} (ha : EvL K ta δ ds) (hz : (stepL ds lo st).length ≤ 1000000) : EvN K (tStp K ta lo st) δ (stepL ds lo st) := fun B σ H G F g Q q =>
  ha B σ H G F g _ fun x G1 H1 n1 ⟨p, vs, ep, sq, al⟩ => by
    have hp : DpAll K G1 (stepL vs lo st) (stepL ds lo st) := by
      unfold stepL
      rw [dpAll_len al]
      exact dpAll_pick _ al
    refine ⟨p, vs, ep, sq, ?_, fun l hl => q l _ G1 _ (n1.trans (Nu.laid n1.s hl)) (n1.s.free hl) (n1.h.free hl) upd_same hp⟩
    rw [dpAll_len hp]
    exact Nat.le_trans hz (by decide)
/-- a list display of things that may be read now -/
theorem evr_lstR {t : TA} (h : EvAR K t δ ds) (hz : ds.length ≤ 1000000) : EvR K (tLst t) δ (.list ds) := fun B σ H G F g Q q =>
  h B σ H G F g _ fun vs G1 H1 n1 p => ⟨by rw [dpAll_len p]; exact Nat.le_trans hz (by decide), fun l hl =>
    q _ G1 _ (n1.trans (Nu.laid n1.s hl)) (.lst (.inl (.inl upd_same)) (dpAll_mono (same_upd hl) p))⟩
end
end Ph

set_option Elab.async false
set_option linter.all false
set_option maxRecDepth 100000
set_option maxHeartbeats 2000000
namespace Ph
/-! ### sums, the way to one house, middles -/
def sumTo (g : Nat → Int) : Nat → Int
  | 0 => 0
  | n + 1 => sumTo g n + g n
def xs (r : List (Int × Int)) (i : Nat) : Int := (r.getD i default).1
def ls (r : List (Int × Int)) (i : Nat) : Int := (r.getD i default).2
def sM (r : List (Int × Int)) (i : Nat) : Int := sumTo (ls r) i
def sF (r : List (Int × Int)) (i : Nat) : Int := sumTo (fun i => ls r i * xs r i) i
def gc (r : List (Int × Int)) (p i : Nat) : Int := ls r i * ((xs r i - xs r p).natAbs : Int)
/-- how far the letters of the houses from f on, less than e, are carried to the house p -/
def cst (r : List (Int × Int)) (f e p : Nat) : Int := sumTo (gc r p) e - sumTo (gc r p) f
theorem ls_nonneg {r : List (Int × Int)} (ok : RoadOk r) (i : Nat) : 0 ≤ ls r i := by
  unfold ls
  by_cases h : i < r.length
  · exact ok.let0 _ (getD_mem h)
  · rw [List.getD_eq_getElem?_getD, List.getElem?_eq_none (by omega)]
    exact Int.le_refl 0
theorem xs_lt {r : List (Int × Int)} (ok : RoadOk r) {i j : Nat} (h : i < j) (hj : j < r.length) : xs r i < xs r j := pl_rise ok h hj
theorem xs_le {r : List (Int × Int)} (ok : RoadOk r) {i j : Nat} (h : i ≤ j) (hj : j < r.length) : xs r i ≤ xs r j := by
  by_cases e : i = j
  · rw [e]; exact Int.le_refl _
  · exact Int.le_of_lt (xs_lt ok (by omega) hj)
theorem sM_mono {r : List (Int × Int)} (ok : RoadOk r) {i : Nat} : ∀ {j : Nat}, i ≤ j → sM r i ≤ sM r j
  | 0, h => by have : i = 0 := by omega
               rw [this]; exact Int.le_refl _
  | j + 1, h => by
    by_cases e : i = j + 1
    · rw [e]; exact Int.le_refl _
    · have h1 := sM_mono ok (j := j) (show i ≤ j by omega)
      have h2 := ls_nonneg ok j
      show sM r i ≤ sM r j + ls r j
      omega
/-- up to the house p -/
theorem cst_up {r : List (Int × Int)} (ok : RoadOk r) {f p : Nat} (hp : p < r.length) : ∀ {e : Nat}, f ≤ e → e ≤ p → cst r f e p = xs r p * (sM r e - sM r f) - (sF r e - sF r f)
  | 0, h, _ => by
    have : f = 0 := by omega
    subst this
    show (0 : Int) - 0 = xs r p * (0 - 0) - (0 - 0)
    simp
  | e + 1, h, h2 => by
    by_cases q : f = e + 1
    · subst q
      unfold cst
      simp
    · have ih := cst_up ok hp (f := f) (e := e) (by omega) (by omega)
      have e1 : cst r f (e + 1) p = cst r f e p + gc r p e := by unfold cst; show sumTo (gc r p) e + gc r p e - _ = _; omega
      have hx := xs_le ok (show e ≤ p by omega) hp
      have e2 : gc r p e = xs r p * ls r e - ls r e * xs r e := by
        unfold gc
        have : ((xs r e - xs r p).natAbs : Int) = xs r p - xs r e := by omega
        rw [this, Int.mul_sub, Int.mul_comm (ls r e) (xs r p)]
      rw [e1, ih, e2]
      show xs r p * (sM r e - sM r f) - (sF r e - sF r f) + (xs r p * ls r e - ls r e * xs r e) = xs r p * (sM r e + ls r e - sM r f) - (sF r e + ls r e * xs r e - sF r f)
      have e3 : sM r e + ls r e - sM r f = (sM r e - sM r f) + ls r e := by omega
      rw [e3, Int.mul_add]
      omega
/-- from the house p on -/
theorem cst_dn {r : List (Int × Int)} (ok : RoadOk r) {f p : Nat} (hpf : p ≤ f) : ∀ {e : Nat}, f ≤ e → e ≤ r.length → cst r f e p = (sF r e - sF r f) - xs r p * (sM r e - sM r f)
  | 0, h, _ => by
    have : f = 0 := by omega
    subst this
    show (0 : Int) - 0 = (0 - 0) - xs r p * (0 - 0)
    simp
  | e + 1, h, h2 => by
    by_cases q : f = e + 1
    · subst q
      unfold cst
      simp
    · have ih := cst_dn ok hpf (f := f) (e := e) (by omega) (by omega)
      have e1 : cst r f (e + 1) p = cst r f e p + gc r p e := by unfold cst; show sumTo (gc r p) e + gc r p e - _ = _; omega
      have hx := xs_le ok (show p ≤ e by omega) (show e < r.length by omega)
      have e2 : gc r p e = ls r e * xs r e - xs r p * ls r e := by
        unfold gc
        have : ((xs r e - xs r p).natAbs : Int) = xs r e - xs r p := by omega
        rw [this, Int.mul_sub, Int.mul_comm (ls r e) (xs r p)]
      rw [e1, ih, e2]
      show (sF r e - sF r f) - xs r p * (sM r e - sM r f) + (ls r e * xs r e - xs r p * ls r e) = (sF r e + ls r e * xs r e - sF r f) - xs r p * (sM r e + ls r e - sM r f)
      have e3 : sM r e + ls r e - sM r f = (sM r e - sM r f) + ls r e := by omega
      rw [e3, Int.mul_add]
      omega
theorem cst_split (r : List (Int × Int)) (f m e p : Nat) : cst r f e p = cst r f m p + cst r m e p := by unfold cst; omega
/-- what carried reckons -/
theorem cst_carried {r : List (Int × Int)} (ok : RoadOk r) {f e p : Nat} (h1 : f ≤ p) (h2 : p < e) (h3 : e ≤ r.length) :
    cst r f e p = xs r p * (sM r p - sM r f) - (sF r p - sF r f) + (sF r e - sF r p) - xs r p * (sM r e - sM r p) := by
  rw [cst_split r f p e p, cst_up ok (by omega) h1 (Nat.le_refl _), cst_dn ok (Nat.le_refl _) (by omega) h3]
  omega
/-- one house further -/
theorem cst_step {r : List (Int × Int)} (ok : RoadOk r) {f e p : Nat} (h1 : f ≤ p) (h2 : p + 1 < e) (h3 : e ≤ r.length) :
    cst r f e (p + 1) = cst r f e p + (xs r (p + 1) - xs r p) * (2 * (sM r (p + 1) - sM r f) - (sM r e - sM r f)) := by
  rw [cst_carried ok (f := f) (p := p + 1) (by omega) h2 h3, cst_carried ok h1 (by omega) h3]
  have a1 : sM r (p + 1) = sM r p + ls r p := rfl
  have a2 : sF r (p + 1) = sF r p + ls r p * xs r p := rfl
  rw [a1, a2]
  generalize sM r p = A
  generalize sM r f = C
  generalize sM r e = E
  generalize sF r p = P
  generalize sF r f = Q
  generalize sF r e = W
  generalize ls r p = l
  generalize xs r p = x
  generalize xs r (p + 1) = y
  simp only [Int.mul_sub, Int.sub_mul, Int.mul_add, Int.add_mul]
  have c1 : l * x = x * l := Int.mul_comm _ _
  have c2 : y * (2 * A) = 2 * (y * A) := by rw [← Int.mul_assoc, Int.mul_comm y 2, Int.mul_assoc]
  have c3 : y * (2 * l) = 2 * (y * l) := by rw [← Int.mul_assoc, Int.mul_comm y 2, Int.mul_assoc]
  have c4 : y * (2 * C) = 2 * (y * C) := by rw [← Int.mul_assoc, Int.mul_comm y 2, Int.mul_assoc]
  have c5 : x * (2 * A) = 2 * (x * A) := by rw [← Int.mul_assoc, Int.mul_comm x 2, Int.mul_assoc]
  have c6 : x * (2 * l) = 2 * (x * l) := by rw [← Int.mul_assoc, Int.mul_comm x 2, Int.mul_assoc]
  have c7 : x * (2 * C) = 2 * (x * C) := by rw [← Int.mul_assoc, Int.mul_comm x 2, Int.mul_assoc]
  rw [c1, c2, c3, c4, c5, c6, c7]
  omega
/-- half of the letters on either side -/
def isMid (r : List (Int × Int)) (f e p : Nat) : Prop := 2 * (sM r p - sM r f) ≤ sM r e - sM r f ∧ sM r e - sM r f ≤ 2 * (sM r (p + 1) - sM r f)
instance (r : List (Int × Int)) (f e p : Nat) : Decidable (isMid r f e p) := by unfold isMid; infer_instance
theorem mid_right {r : List (Int × Int)} (ok : RoadOk r) {f e p : Nat} (h1 : f ≤ p) (h3 : e ≤ r.length) (hm : sM r e - sM r f ≤ 2 * (sM r (p + 1) - sM r f)) : ∀ {q : Nat}, p ≤ q → q < e → cst r f e p ≤ cst r f e q
  | 0, h, _ => by have : p = 0 := by omega
                  rw [this]; exact Int.le_refl _
  | q + 1, h, hq => by
    by_cases z : p = q + 1
    · rw [z]; exact Int.le_refl _
    · have ih := mid_right ok h1 h3 hm (q := q) (by omega) (by omega)
      rw [cst_step ok (show f ≤ q by omega) hq h3]
      have hx := xs_le ok (show q ≤ q + 1 by omega) (show q + 1 < r.length by omega)
      have hs := sM_mono ok (show p + 1 ≤ q + 1 by omega)
      have : 0 ≤ (xs r (q + 1) - xs r q) * (2 * (sM r (q + 1) - sM r f) - (sM r e - sM r f)) := Int.mul_nonneg (by omega) (by omega)
      omega
theorem mid_left {r : List (Int × Int)} (ok : RoadOk r) {f e p : Nat} (h2 : p < e) (h3 : e ≤ r.length) (hm : 2 * (sM r p - sM r f) ≤ sM r e - sM r f) : ∀ (k q : Nat), q + k = p → f ≤ q → cst r f e p ≤ cst r f e q
  | 0, q, h, _ => by have : q = p := by omega
                     rw [this]; exact Int.le_refl _
  | k + 1, q, h, hq => by
    have ih := mid_left ok h2 h3 hm k (q + 1) (by omega) (by omega)
    rw [cst_step ok hq (by omega) h3] at ih
    have hx := xs_le ok (show q ≤ q + 1 by omega) (show q + 1 < r.length by omega)
    have hs := sM_mono ok (show q + 1 ≤ p by omega)
    have : (xs r (q + 1) - xs r q) * (2 * (sM r (q + 1) - sM r f) - (sM r e - sM r f)) ≤ 0 := Int.mul_nonpos_of_nonneg_of_nonpos (by omega) (by omega)
    omega
theorem mid_least {r : List (Int × Int)} (ok : RoadOk r) {f e p : Nat} (h1 : f ≤ p) (h2 : p < e) (h3 : e ≤ r.length) (hm : isMid r f e p) {q : Nat} (hq1 : f ≤ q) (hq2 : q < e) : cst r f e p ≤ cst r f e q := by
  by_cases h : p ≤ q
  · exact mid_right ok h1 h3 hm.2 h hq2
  · exact mid_left ok h2 h3 hm.1 (p - q) q (by omega) hq1
theorem least_mid {r : List (Int × Int)} (ok : RoadOk r) {f e p : Nat} (h1 : f ≤ p) (h2 : p < e) (h3 : e ≤ r.length) (hl : ∀ q, f ≤ q → q < e → cst r f e p ≤ cst r f e q) : isMid r f e p := by
  refine ⟨?_, ?_⟩
  · by_cases z : p = f
    · subst z
      have := sM_mono ok (show p ≤ e by omega)
      omega
    · refine Int.not_lt.mp fun hlt => ?_
      have h := hl (p - 1) (by omega) (by omega)
      have hs := cst_step ok (show f ≤ p - 1 by omega) (show p - 1 + 1 < e by omega) h3
      have e1 : p - 1 + 1 = p := by omega
      rw [e1] at hs
      have hx := xs_lt ok (show p - 1 < p by omega) (show p < r.length by omega)
      have : 0 < (xs r p - xs r (p - 1)) * (2 * (sM r p - sM r f) - (sM r e - sM r f)) := Int.mul_pos (by omega) (by omega)
      omega
  · by_cases z : p + 1 = e
    · rw [z]
      have := sM_mono ok (show f ≤ e by omega)
      omega
    · refine Int.not_lt.mp fun hlt => ?_
      have h := hl (p + 1) (by omega) (by omega)
      rw [cst_step ok h1 (by omega) h3] at h
      have hx := xs_lt ok (show p < p + 1 by omega) (show p + 1 < r.length by omega)
      have : (xs r (p + 1) - xs r p) * (2 * (sM r (p + 1) - sM r f) - (sM r e - sM r f)) < 0 := Int.mul_neg_of_pos_of_neg (by omega) (by omega)
      omega
/-! the first best house -/
def mAdv (r : List (Int × Int)) (f e p : Nat) : Nat :=
  if p + 1 < e ∧ 2 * (sM r (p + 1) - sM r f) < sM r e - sM r f then mAdv r f e (p + 1) else p
termination_by e - p
theorem mAdv_go {r : List (Int × Int)} {f e p : Nat} (h : p + 1 < e ∧ 2 * (sM r (p + 1) - sM r f) < sM r e - sM r f) : mAdv r f e p = mAdv r f e (p + 1) := by rw [mAdv, if_pos h]
theorem mAdv_stop {r : List (Int × Int)} {f e p : Nat} (h : ¬ (p + 1 < e ∧ 2 * (sM r (p + 1) - sM r f) < sM r e - sM r f)) : mAdv r f e p = p := by rw [mAdv, if_neg h]
def mid (r : List (Int × Int)) (f e : Nat) : Nat := mAdv r f e f
theorem mAdv_ge (r : List (Int × Int)) (f e p : Nat) : p ≤ mAdv r f e p := by
  by_cases h : p + 1 < e ∧ 2 * (sM r (p + 1) - sM r f) < sM r e - sM r f
  · rw [mAdv_go h]
    exact Nat.le_trans (Nat.le_succ p) (mAdv_ge r f e (p + 1))
  · rw [mAdv_stop h]; exact Nat.le_refl _
termination_by e - p
theorem mAdv_lt (r : List (Int × Int)) (f e p : Nat) (hp : p < e) : mAdv r f e p < e := by
  by_cases h : p + 1 < e ∧ 2 * (sM r (p + 1) - sM r f) < sM r e - sM r f
  · rw [mAdv_go h]
    exact mAdv_lt r f e (p + 1) h.1
  · rw [mAdv_stop h]; exact hp
termination_by e - p
/-- all houses ahead of it have less than half -/
theorem mAdv_bef (r : List (Int × Int)) (f e p : Nat) : ∀ q, p ≤ q → q < mAdv r f e p → 2 * (sM r (q + 1) - sM r f) < sM r e - sM r f := by
  intro q h1 h2
  by_cases h : p + 1 < e ∧ 2 * (sM r (p + 1) - sM r f) < sM r e - sM r f
  · rw [mAdv_go h] at h2
    by_cases z : p = q
    · rw [← z]; exact h.2
    · exact mAdv_bef r f e (p + 1) q (by omega) h2
  · rw [mAdv_stop h] at h2
    omega
termination_by e - p
theorem mAdv_half {r : List (Int × Int)} (ok : RoadOk r) (f e p : Nat) (hf : f ≤ p) (hp : p < e) : sM r e - sM r f ≤ 2 * (sM r (mAdv r f e p + 1) - sM r f) := by
  by_cases h : p + 1 < e ∧ 2 * (sM r (p + 1) - sM r f) < sM r e - sM r f
  · rw [mAdv_go h]
    exact mAdv_half ok f e (p + 1) (by omega) h.1
  · rw [mAdv_stop h]
    by_cases z : p + 1 < e
    · have : ¬ 2 * (sM r (p + 1) - sM r f) < sM r e - sM r f := fun w => h ⟨z, w⟩
      omega
    · have e1 : p + 1 = e := by omega
      rw [e1]
      have := sM_mono ok (show f ≤ e by omega)
      omega
termination_by e - p
theorem mid_ge (r : List (Int × Int)) (f e : Nat) : f ≤ mid r f e := mAdv_ge r f e f
theorem mid_lt (r : List (Int × Int)) {f e : Nat} (h : f < e) : mid r f e < e := mAdv_lt r f e f h
theorem mid_isMid {r : List (Int × Int)} (ok : RoadOk r) {f e : Nat} (h : f < e) : isMid r f e (mid r f e) := by
  refine ⟨?_, mAdv_half ok f e f (Nat.le_refl _) h⟩
  by_cases z : mid r f e = f
  · rw [z]
    have := sM_mono ok (show f ≤ e by omega)
    omega
  · have hg := mid_ge r f e
    have := mAdv_bef r f e f (mid r f e - 1) (by omega) (by unfold mid; unfold mid at z hg; omega)
    have e1 : mid r f e - 1 + 1 = mid r f e := by omega
    rw [e1] at this
    omega
/-- the pointer goes on from the end ahead -/
theorem mAdv_from {r : List (Int × Int)} {f e p : Nat} : ∀ (k q : Nat), q + k = p → (∀ z, q ≤ z → z < p → z + 1 < e ∧ 2 * (sM r (z + 1) - sM r f) < sM r e - sM r f) → mAdv r f e q = mAdv r f e p
  | 0, q, h, _ => by have : q = p := by omega
                     rw [this]
  | k + 1, q, h, hz => by
    rw [mAdv_go (hz q (Nat.le_refl _) (by omega))]
    exact mAdv_from k (q + 1) (by omega) fun z h1 h2 => hz z (by omega) h2
theorem mid_next {r : List (Int × Int)} (ok : RoadOk r) {f e : Nat} (h : f < e) : mAdv r f (e + 1) (mid r f e) = mid r f (e + 1) := by
  refine (mAdv_from (mid r f e - f) f (by have := mid_ge r f e; omega) fun z h1 h2 => ⟨?_, ?_⟩).symm
  · have := mid_lt r h
    omega
  · have h3 := mAdv_bef r f e f z h1 h2
    have h4 := sM_mono ok (show e ≤ e + 1 by omega)
    omega
/-- the one way of a stretch -/
def wv (r : List (Int × Int)) (f e : Nat) : Int := cst r f e (mid r f e)
theorem wv_le {r : List (Int × Int)} (ok : RoadOk r) {f e p : Nat} (h1 : f ≤ p) (h2 : p < e) (h3 : e ≤ r.length) : wv r f e ≤ cst r f e p :=
  mid_least ok (mid_ge r f e) (mid_lt r (by omega)) h3 (mid_isMid ok (by omega)) h1 h2
/-- the middle of a stretch -/
def midL (r : List (Int × Int)) (f e : Nat) : List Int := ((List.range (e - f)).filter fun k => decide (isMid r f e (f + k))).map fun (k : Nat) => (f : Int) + (k : Int)
theorem mid_iff {r : List (Int × Int)} (ok : RoadOk r) {f e p : Nat} (h1 : f ≤ p) (h2 : p < e) (h3 : e ≤ r.length) : cst r f e p = wv r f e ↔ isMid r f e p := by
  constructor
  · intro h
    refine least_mid ok h1 h2 h3 fun q a b => ?_
    rw [h]
    exact wv_le ok a b h3
  · intro h
    exact Int.le_antisymm (mid_least ok h1 h2 h3 h (mid_ge r f e) (mid_lt r (by omega))) (wv_le ok h1 h2 h3)
/-! sums as the code keeps them -/
def pM (r : List (Int × Int)) (k : Nat) : List Int := (List.range (k + 1)).map (sM r)
def pF (r : List (Int × Int)) (k : Nat) : List Int := (List.range (k + 1)).map (sF r)
theorem pM_len (r : List (Int × Int)) (k : Nat) : (pM r k).length = k + 1 := by unfold pM; rw [List.length_map, List.length_range]
theorem pF_len (r : List (Int × Int)) (k : Nat) : (pF r k).length = k + 1 := by unfold pF; rw [List.length_map, List.length_range]
theorem pM_get (r : List (Int × Int)) {k i : Nat} (h : i ≤ k) : (pM r k).getD i default = sM r i := by
  have h' : i < k + 1 := by omega
  unfold pM
  simp [List.getD_eq_getElem?_getD, h']
theorem pF_get (r : List (Int × Int)) {k i : Nat} (h : i ≤ k) : (pF r k).getD i default = sF r i := by
  have h' : i < k + 1 := by omega
  unfold pF
  simp [List.getD_eq_getElem?_getD, h']
theorem pM_snoc (r : List (Int × Int)) (k : Nat) : pM r (k + 1) = pM r k ++ [sM r k + ls r k] := by
  unfold pM
  rw [List.range_succ, List.map_append]
  rfl
theorem pF_snoc (r : List (Int × Int)) (k : Nat) : pF r (k + 1) = pF r k ++ [sF r k + ls r k * xs r k] := by
  unfold pF
  rw [List.range_succ, List.map_append]
  rfl
/-! sizes -/
theorem ls_big {r : List (Int × Int)} (ok : RoadOk r) (i : Nat) : (ls r i).natAbs < 2 ^ 300 := by
  unfold ls
  by_cases h : i < r.length
  · exact (ok.big _ (getD_mem h)).2
  · rw [List.getD_eq_getElem?_getD, List.getElem?_eq_none (by omega)]
    decide +kernel
theorem xs_big {r : List (Int × Int)} (ok : RoadOk r) (i : Nat) : (xs r i).natAbs < 2 ^ 300 := by
  unfold xs
  by_cases h : i < r.length
  · exact (ok.big _ (getD_mem h)).1
  · rw [List.getD_eq_getElem?_getD, List.getElem?_eq_none (by omega)]
    decide +kernel
theorem sM_big' {r : List (Int × Int)} {A : Nat} (hA : ∀ i, (ls r i).natAbs ≤ A) : ∀ k : Nat, (sM r k).natAbs ≤ k * A
  | 0 => by show (0 : Int).natAbs ≤ _; simp
  | k + 1 => by
    have ih := sM_big' hA k
    have h := hA k
    show (sM r k + ls r k).natAbs ≤ _
    rw [Nat.add_mul, Nat.one_mul]
    omega
theorem sM_big {r : List (Int × Int)} (ok : RoadOk r) {k : Nat} (hk : k ≤ 1000) : (sM r k).natAbs < 2 ^ 400 := by
  have h := sM_big' (r := r) (A := 2 ^ 300) (fun i => Nat.le_of_lt (ls_big ok i)) k
  have h2 : k * 2 ^ 300 ≤ 1000 * 2 ^ 300 := Nat.mul_le_mul_right _ hk
  exact Nat.lt_of_le_of_lt h (Nat.lt_of_le_of_lt h2 (by decide +kernel))
end Ph

set_option Elab.async false
set_option linter.all false
set_option maxRecDepth 100000
set_option maxHeartbeats 2000000
namespace Ph
open PySem PySem.Spec L2
/-! ### what each def gives (k02) -/
def eSums (r : List (Int × Int)) : PyData := .tuple [eInts (pM r r.length), eInts (pF r r.length)]
def cell (r : List (Int × Int)) (f j : Nat) : Int × Int := (((mid r f (f + 1 + j) : Nat) : Int), wv r f (f + 1 + j))
def rowOf (r : List (Int × Int)) (f : Nat) : List (Int × Int) := (List.range (r.length - f)).map (cell r f)
def midT (r : List (Int × Int)) : List (List (Int × Int)) := (List.range r.length).map (rowOf r)
def lay1 (r : List (Int × Int)) : List (Int × Int) := (List.range r.length).map fun j => (wv r 0 (j + 1), 0)
theorem rowOf_len (r : List (Int × Int)) (f : Nat) : (rowOf r f).length = r.length - f := by unfold rowOf; rw [List.length_map, List.length_range]
theorem midT_len (r : List (Int × Int)) : (midT r).length = r.length := by unfold midT; rw [List.length_map, List.length_range]
theorem lay1_len (r : List (Int × Int)) : (lay1 r).length = r.length := by unfold lay1; rw [List.length_map, List.length_range]
theorem rowOf_get (r : List (Int × Int)) {f j : Nat} (h : j < r.length - f) : (rowOf r f).getD j default = cell r f j := by
  unfold rowOf
  simp [List.getD_eq_getElem?_getD, h]
theorem midT_get (r : List (Int × Int)) {f : Nat} (h : f < r.length) : (midT r).getD f default = rowOf r f := by
  unfold midT
  simp [List.getD_eq_getElem?_getD, h]
theorem lay1_get (r : List (Int × Int)) {j : Nat} (h : j < r.length) : (lay1 r).getD j default = (wv r 0 (j + 1), 0) := by
  unfold lay1
  simp [List.getD_eq_getElem?_getD, h]
def R_asked_stretch : List PyData → PyData → Prop := fun ds d => ∃ (r : List (Int × Int)) (f e : Nat), ds = [eRoad r, .int (f : Int), .int (e : Int)] ∧ f < e ∧ e ≤ r.length ∧ r.length ≤ 1000 ∧ d = .none
def R_sums : List PyData → PyData → Prop := fun ds d => ∃ r, ds = [eRoad r] ∧ RoadOk r ∧ d = eSums r
def R_carried : List PyData → PyData → Prop := fun ds d => ∃ (r : List (Int × Int)) (f e p : Nat), ds = [eRoad r, eSums r, .int (f : Int), .int (e : Int), .int (p : Int)] ∧ f ≤ p ∧ p < e ∧ e ≤ r.length ∧ RoadOk r ∧ d = .int (cst r f e p)
def R_middles : List PyData → List PyData → Prop := fun ds d => ∃ r, ds = [eRoad r] ∧ RoadOk r ∧ d = (midT r).map eRow
def R_middle : List PyData → List PyData → Prop := fun ds d => ∃ (r : List (Int × Int)) (f e : Nat), ds = [eRoad r, .int (f : Int), .int (e : Int)] ∧ f < e ∧ e ≤ r.length ∧ RoadOk r ∧ d = (midL r f e).map .int
def R_one_way : List PyData → PyData → Prop := fun ds d => ∃ (r : List (Int × Int)) (f e : Nat), ds = [eRoad r, .int (f : Int), .int (e : Int)] ∧ f < e ∧ e ≤ r.length ∧ RoadOk r ∧ d = .int (wv r f e)
def R_asked_number : List PyData → PyData → Prop := fun ds d => ∃ m : Int, ds = [.int m] ∧ 0 ≤ m ∧ d = .none
def sp_asked_stretch (K : PySem.W.Frag) : Sp := Pr K R_asked_stretch
def sp_sums (K : PySem.W.Frag) : Sp := Pr K R_sums
def sp_carried (K : PySem.W.Frag) : Sp := Pr K R_carried
def sp_middles (K : PySem.W.Frag) : Sp := PrN K R_middles
def sp_middle (K : PySem.W.Frag) : Sp := PrN K R_middle
def sp_one_way (K : PySem.W.Frag) : Sp := Pr K R_one_way
def sp_asked_number (K : PySem.W.Frag) : Sp := Pr K R_asked_number
theorem len_asked_stretch : ∀ ds d, R_asked_stretch ds d → ds.length = 3 := by rintro _ _ ⟨_, _, _, rfl, _⟩; rfl
theorem len_sums : ∀ ds d, R_sums ds d → ds.length = 1 := by rintro _ _ ⟨_, rfl, _⟩; rfl
theorem len_carried : ∀ ds d, R_carried ds d → ds.length = 5 := by rintro _ _ ⟨_, _, _, _, rfl, _⟩; rfl
theorem len_middles : ∀ ds d, R_middles ds d → ds.length = 1 := by rintro _ _ ⟨_, rfl, _⟩; rfl
theorem len_middle : ∀ ds d, R_middle ds d → ds.length = 3 := by rintro _ _ ⟨_, _, _, rfl, _⟩; rfl
theorem len_one_way : ∀ ds d, R_one_way ds d → ds.length = 3 := by rintro _ _ ⟨_, _, _, rfl, _⟩; rfl
theorem len_asked_number : ∀ ds d, R_asked_number ds d → ds.length = 1 := by rintro _ _ ⟨_, rfl, _⟩; rfl
/-! the law -/
def R_law : List PyData → PyData → Prop := fun ds d => ∃ s, ds = [eInts s] ∧ s.length ≤ 63 ∧ d = .bool true
def sp_law (K : PySem.W.Frag) : Sp := Pr K R_law
theorem len_law : ∀ ds d, R_law ds d → ds.length = 1 := by rintro _ _ ⟨_, rfl, _⟩; rfl
end Ph

set_option Elab.async false
set_option linter.all false
set_option maxRecDepth 100000
namespace Ph
open PySem PySem.Spec L2
def t_asked_stretch (K : PySem.W.Frag) : TS := (tSeq (tIfS (tOr (tNot (tB (tCall (sp_is_number K) [] E0 (tCons (tVar 1) tNil)))) (tOr (tNot (tB (tCall (sp_is_number K) [] E0 (tCons (tVar 2) tNil)))) (tNot (tCh3 oLe oLt oLe (tC (.int 0)) (tVar 1) (tVar 2) (tCB (cLen K) (tCons (tVar 0) tNil))))))
   (tSeq tNever
  tNext) tNext)
  tNext)
def t_sums (K : PySem.W.Frag) : TS := (tSeq (tAsg (tLst (tCons (tC (.int 0)) tNil)) (gName 1))
  (tSeq (tAsg (tLst (tCons (tC (.int 0)) tNil)) (gName 2))
  (tSeq (tFor (iList K (tVar 0)) (gTup K 2 (gCons (gName 3) (gCons (gName 4) gNil)))
   (tSeq (tDrop (tBM K "list" rAppend (tVar 1) (tCons (tOp oAdd (tOp (oIx K) (tVar 1) (tUn oNeg (tC (.int 1)))) (tVar 4)) tNil)))
  (tSeq (tDrop (tBM K "list" rAppend (tVar 2) (tCons (tOp oAdd (tOp (oIx K) (tVar 2) (tUn oNeg (tC (.int 1)))) (tOp oMulW (tVar 4) (tVar 3))) tNil)))
  tNext)))
  (tSeq (tRet (tTup (tCons (tVar 1) (tCons (tVar 2) tNil))))
  tNext))))
def t_carried (K : PySem.W.Frag) : TS := (tSeq (tAsg (tVar 1) (gTup K 2 (gCons (gName 5) (gCons (gName 6) gNil))))
  (tSeq (tAsg (tOp (oIxT K) (tOp (oIx K) (tVar 0) (tVar 4)) (tC (.int 0))) (gName 7))
  (tSeq (tAsg (tOp oSub (tOp oMulW (tVar 7) (tOp oSub (tOp (oIx K) (tVar 5) (tVar 4)) (tOp (oIx K) (tVar 5) (tVar 2)))) (tOp oSub (tOp (oIx K) (tVar 6) (tVar 4)) (tOp (oIx K) (tVar 6) (tVar 2)))) (gName 8))
  (tSeq (tRet (tOp oSub (tOp oAdd (tVar 8) (tOp oSub (tOp (oIx K) (tVar 6) (tVar 3)) (tOp (oIx K) (tVar 6) (tVar 4)))) (tOp oMulW (tVar 7) (tOp oSub (tOp (oIx K) (tVar 5) (tVar 3)) (tOp (oIx K) (tVar 5) (tVar 4))))))
  tNext))))
def t_middles (K : PySem.W.Frag) : TS := (tSeq (tAsg (tCall (sp_sums K) [] E0 (tCons (tVar 0) tNil)) (gName 1))
  (tSeq (tAsg (tOp (oIxT K) (tVar 1) (tC (.int 0))) (gName 2))
  (tSeq (tAsg (tLst tNil) (gName 3))
  (tSeq (tFor (iRng1 (tCons (tCB (cLen K) (tCons (tVar 0) tNil)) tNil)) (gName 4)
   (tSeq (tAsg (tLst tNil) (gName 5))
  (tSeq (tAsg (tVar 4) (gName 6))
  (tSeq (tFor (iRng2 (tCons (tOp oAdd (tVar 4) (tC (.int 1))) (tCons (tOp oAdd (tCB (cLen K) (tCons (tVar 0) tNil)) (tC (.int 1))) tNil))) (gName 7)
   (tSeq (tWhile (tTest (tOp oLt (tOp oMul (tC (.int 2)) (tOp oSub (tOp (oIx K) (tVar 2) (tOp oAdd (tVar 6) (tC (.int 1)))) (tOp (oIx K) (tVar 2) (tVar 4)))) (tOp oSub (tOp (oIx K) (tVar 2) (tVar 7)) (tOp (oIx K) (tVar 2) (tVar 4)))))
   (tSeq (tAsg (tOp oAdd (tVar 6) (tC (.int 1))) (gName 6))
  tNext))
  (tSeq (tDrop (tBM K "list" rAppend (tVar 5) (tCons (tTup (tCons (tVar 6) (tCons (tCall (sp_carried K) [] E0 (tCons (tVar 0) (tCons (tVar 1) (tCons (tVar 4) (tCons (tVar 7) (tCons (tVar 6) tNil)))))) tNil))) tNil)))
  tNext)))
  (tSeq (tDrop (tBM K "list" rAppend (tVar 3) (tCons (tVar 5) tNil)))
  tNext)))))
  (tSeq (tRet (tVar 3))
  tNext)))))
def t_middle (K : PySem.W.Frag) : TS := (tSeq (tDrop (tCall (sp_asked_road K) [] E0 (tCons (tVar 0) tNil)))
  (tSeq (tDrop (tCall (sp_asked_stretch K) [] E0 (tCons (tVar 0) (tCons (tVar 1) (tCons (tVar 2) tNil)))))
  (tSeq (tAsg (tCall (sp_sums K) [] E0 (tCons (tVar 0) tNil)) (gName 3))
  (tSeq (tAsg (tLc (iRng2 (tCons (tVar 1) (tCons (tVar 2) tNil))) (gName 5) tYes (tCall (sp_carried K) [] E0 (tCons (tVar 0) (tCons (tVar 3) (tCons (tVar 1) (tCons (tVar 2) (tCons (tVar 5) tNil)))))) [5]) (gName 4))
  (tSeq (tAsg (tCB (cMin K) (tCons (tVar 4) tNil)) (gName 6))
  (tSeq (tRet (tLc (iEnum K (tCons (tVar 4) tNil)) (gTup K 2 (gCons (gName 7) (gCons (gName 8) gNil))) (tTest (tOp oEqI (tVar 8) (tVar 6))) (tOp oAdd (tVar 1) (tVar 7)) [7, 8]))
  tNext))))))
def t_one_way (K : PySem.W.Frag) : TS := (tSeq (tDrop (tCall (sp_asked_road K) [] E0 (tCons (tVar 0) tNil)))
  (tSeq (tDrop (tCall (sp_asked_stretch K) [] E0 (tCons (tVar 0) (tCons (tVar 1) (tCons (tVar 2) tNil)))))
  (tSeq (tAsg (tCall (sp_sums K) [] E0 (tCons (tVar 0) tNil)) (gName 3))
  (tSeq (tRet (tCB (cMin K) (tCons (tLc (iRng2 (tCons (tVar 1) (tCons (tVar 2) tNil))) (gName 4) tYes (tCall (sp_carried K) [] E0 (tCons (tVar 0) (tCons (tVar 3) (tCons (tVar 1) (tCons (tVar 2) (tCons (tVar 4) tNil)))))) [4]) tNil)))
  tNext))))
def t_asked_number (K : PySem.W.Frag) : TS := (tSeq (tIfS (tOr (tNot (tB (tCall (sp_is_number K) [] E0 (tCons (tVar 0) tNil)))) (tTest (tOp oLt (tVar 0) (tC (.int 0)))))
   (tSeq tNever
  tNext) tNext)
  tNext)
end Ph

set_option Elab.async false
set_option linter.all false
set_option maxRecDepth 100000
set_option maxHeartbeats 2000000
namespace Ph
open PySem PySem.Spec L2
section
variable {K : PySem.W.Frag} {δ : List Sl} {ta tb tc td te : TE} {d e f : PyData}
local macro_rules | `(tactic| walk_at "wk") => `(tactic| first | exact WkL.nil | (refine' WkL.same ?_; walk_at "wk") | (refine' WkL.drop ?_; walk_at "wk"))
/-- [.. for x in range(a, b)] -/
theorem evn_lcR2 {a b : Nat} {f : Nat → PyData} {j : Nat} (h1 : EvD K ta δ (.int (a : Int))) (h2 : EvD K tb δ (.int (b : Int))) (hb : b ≤ 1000000) (ha : a ≤ 1000000) (he : ∀ k, k < b - a → EvD K te ((wipeD δ [j]).set j (.d (.int ((a + k : Nat) : Int)))) (f k)) :
    EvN K (tLc (iRng2 (tCons ta (tCons tb tNil))) (gName j) tYes te [j]) δ ((List.range (b - a)).map f) := by
  have hi := evi_range2 h1 h2 (by omega) (by omega) (by omega) (by omega)
  have e : ((b : Int) - (a : Int)).toNat = b - a := by omega
  rw [e] at hi
  have k := evn_lc (K := K) (δ := δ) (te := te) (tt := tYes) (g := gName j) (vs := [j]) (b := fun _ => true) (f := f) (δi := fun k => (wipeD δ [j]).set j (.d (.int ((a + k : Nat) : Int))))
    (EvI.congr (Y' := fun k => .int ((a + k : Nat) : Int)) hi (fun i _ => by rw [Int.natCast_add])) (fun _ _ _ _ _ _ => trivial) (by omega) (fun i hi => tv_name (by simp)) (fun _ _ => evt_yes) (fun i hi _ => he i hi)
  rw [List.filter_eq_self.mpr (fun _ _ => rfl)] at k
  exact k
theorem ev_pM {r : List (Int × Int)} {n k : Nat} (ha : EvL K ta δ ((pM r n).map .int)) (hb : EvD K tb δ (.int (k : Int))) (h : k ≤ n) : EvD K (tOp (oIx K) ta tb) δ (.int (sM r k)) :=
  evd_is (evd_ixm (xs := pM r n) (en := PyData.int) ha hb (by omega) (by rw [pM_len]; omega)) (by rw [Int.toNat_natCast, pM_get r h])
theorem ev_pF {r : List (Int × Int)} {n k : Nat} (ha : EvL K ta δ ((pF r n).map .int)) (hb : EvD K tb δ (.int (k : Int))) (h : k ≤ n) : EvD K (tOp (oIx K) ta tb) δ (.int (sF r k)) :=
  evd_is (evd_ixm (xs := pF r n) (en := PyData.int) ha hb (by omega) (by rw [pF_len]; omega)) (by rw [Int.toNat_natCast, pF_get r h])
theorem ev_xs {r : List (Int × Int)} {p : Nat} (ha : EvL K ta δ (r.map eHs)) (hb : EvD K tb δ (.int (p : Int))) (h : p < r.length) : EvD K (tOp (oIxT K) (tOp (oIx K) ta tb) (tC (.int 0))) δ (.int (xs r p)) :=
  evd_is (evd_ixt0 (evd_ixm (xs := r) (en := eHs) ha hb (by omega) (by omega))) (by rw [Int.toNat_natCast]; rfl)
theorem run_asked_stretch : ∀ ds d, R_asked_stretch ds d → ∀ B D, RtD K B D d → (d = .none → ∀ δ, Nx K B D δ) → RunS K B (t_asked_stretch K) D (ds.map Sl.d ++ List.replicate (3 - ds.length) Sl.no) := by
  rintro _ _ ⟨r, f, e, rfl, h1, h2, h3, rfl⟩ B D k kn
  show RunS K B (t_asked_stretch K) D [.d (eRoad r), .d (.int f), .d (.int e)]
  refine r_skip (evt_is (evt_or (evt_not (evt_B (ev_is_number (evd_at rfl)))) fun _ => evt_or (evt_not (evt_B (ev_is_number (evd_at rfl)))) fun _ => evt_not (evt_lltl evd_int (evd_at rfl) (evd_at rfl) (evd_lenm (en := eHs) (evl_d (evd_at rfl))) (by omega) (by omega) (by omega))) rfl) (r_next (kn rfl _))
theorem ev_asked_stretch {r : List (Int × Int)} {f e : Nat} (ha : EvD K ta δ (eRoad r)) (hb : EvD K tb δ (.int (f : Int))) (hc : EvD K tc δ (.int (e : Int))) (h1 : f < e) (h2 : e ≤ r.length) (h3 : r.length ≤ 1000) : EvD K (tCall (sp_asked_stretch K) [] E0 (tCons ta (tCons tb (tCons tc tNil)))) δ .none :=
  evd_call (ea_cons ha (ea_cons hb (ea_cons hc ea_nil))) ⟨r, f, e, rfl, h1, h2, h3, rfl⟩
theorem run_asked_number : ∀ ds d, R_asked_number ds d → ∀ B D, RtD K B D d → (d = .none → ∀ δ, Nx K B D δ) → RunS K B (t_asked_number K) D (ds.map Sl.d ++ List.replicate (1 - ds.length) Sl.no) := by
  rintro _ _ ⟨m, rfl, h1, rfl⟩ B D k kn
  show RunS K B (t_asked_number K) D [.d (.int m)]
  refine r_skip (evt_is (evt_or (evt_not (evt_B (ev_is_number (evd_at rfl)))) fun _ => evt_test (evd_lt (evd_at rfl) evd_int)) ?_) (r_next (kn rfl _))
  rw [decide_eq_false (show ¬ m < 0 by omega)]
  rfl
theorem ev_asked_number {m : Int} (ha : EvD K ta δ (.int m)) (h : 0 ≤ m) : EvD K (tCall (sp_asked_number K) [] E0 (tCons ta tNil)) δ .none := evd_call (ea_cons ha ea_nil) ⟨m, rfl, h, rfl⟩
theorem run_sums : ∀ ds d, R_sums ds d → ∀ B D, RtD K B D d → (d = .none → ∀ δ, Nx K B D δ) → RunS K B (t_sums K) D (ds.map Sl.d ++ List.replicate (5 - ds.length) Sl.no) := by
  rintro _ _ ⟨r, rfl, ok, rfl⟩ B D k _
  show RunS K B (t_sums K) D [.d (eRoad r), .no, .no, .no, .no]
  have hn := ok.len
  refine r_setN (ds := (pM r 0).map .int) (evn_lst (ea_cons evd_int ea_nil) (by simp [pM_len])) fun p => r_setN (ds := (pF r 0).map .int) (evn_lst (ea_cons evd_int ea_nil) (by simp [pF_len])) fun q => ?_
  dsimp only [List.set_cons_zero, List.set_cons_succ]
  refine r_for (evi_listm (xs := r) (en := eHs) (evd_at rfl)) (fun i δ => δ = [.d (eRoad r), .m p ((pM r i).map .int), .m q ((pF r i).map .int), .no, .no]) ⟨_, by walk_at "wk", rfl⟩ (fun _ _ _ _ _ _ _ _ _ => trivial) (fun Gb hb i δ' hi hP => ?_) (fun δ' hP => ?_)
  · subst hP
    refine ⟨_, tg_tup (tgs_cons tg_name (tgs_cons tg_name tgs_nil)) rfl, ?_⟩
    dsimp only [List.set_cons_zero, List.set_cons_succ]
    have hm := getD_mem hi
    refine r_app rfl (d := .int (sM r i + ls r i)) (evd_is (evd_add (evd_ixl (xs := pM r i) (en := PyData.int) (evl_at rfl) (by intro z; have := pM_len r i; rw [z] at this; cases this)) (evd_at rfl)) ?_) (by rw [List.length_map, pM_len]; omega) ?_
    · rw [pM_len, Nat.add_sub_cancel, pM_get r (Nat.le_refl i)]
      rfl
    dsimp only [List.set_cons_zero, List.set_cons_succ]
    refine r_app rfl (d := .int (sF r i + ls r i * xs r i)) (evd_is (evd_add (evd_ixl (xs := pF r i) (en := PyData.int) (evl_at rfl) (by intro z; have := pF_len r i; rw [z] at this; cases this)) (evd_mulW (evd_at rfl) (evd_at rfl) (big_mul (up_big (ok.big _ hm).2) (up_big (ok.big _ hm).1)))) ?_) (by rw [List.length_map, pF_len]; omega) ?_
    · rw [pF_len, Nat.add_sub_cancel, pF_get r (Nat.le_refl i)]
      rfl
    dsimp only [List.set_cons_zero, List.set_cons_succ]
    refine r_next (nx_inv ?_ ⟨_, rfl, rfl⟩)
    rw [pM_snoc, pF_snoc, List.map_append, List.map_append]
    walk_at "wk"
  · subst hP
    refine r_freeze (i := 1) rfl (r_freeze (i := 2) rfl ?_)
    dsimp only [List.set_cons_zero, List.set_cons_succ]
    exact r_ret (evd_tup (ea_cons (evd_at rfl) (ea_cons (evd_at rfl) ea_nil)) (by simp)) k
theorem ev_sums {r : List (Int × Int)} (ha : EvD K ta δ (eRoad r)) (ok : RoadOk r) : EvD K (tCall (sp_sums K) [] E0 (tCons ta tNil)) δ (eSums r) := evd_call (ea_cons ha ea_nil) ⟨r, rfl, ok, rfl⟩
theorem dif_big {a b : Int} (ha : a.natAbs < 2 ^ 400) (hb : b.natAbs < 2 ^ 400) : (a - b).natAbs < 2 ^ 1000 := by
  have h1 : (a - b).natAbs ≤ a.natAbs + b.natAbs := by omega
  have h2 : (2 : Nat) ^ 400 + 2 ^ 400 ≤ 2 ^ 1000 := by decide +kernel
  omega
theorem run_carried : ∀ ds d, R_carried ds d → ∀ B D, RtD K B D d → (d = .none → ∀ δ, Nx K B D δ) → RunS K B (t_carried K) D (ds.map Sl.d ++ List.replicate (9 - ds.length) Sl.no) := by
  rintro _ _ ⟨r, f, e, p, rfl, h1, h2, h3, ok, rfl⟩ B D k _
  show RunS K B (t_carried K) D [.d (eRoad r), .d (eSums r), .d (.int f), .d (.int e), .d (.int p), .no, .no, .no, .no]
  have hn := ok.len
  refine r_setT (evd_at rfl) (tg_tup (tgs_cons tg_name (tgs_cons tg_name tgs_nil)) rfl) ?_
  dsimp only [List.set_cons_zero, List.set_cons_succ]
  refine r_set (ev_xs (evl_d (evd_at rfl)) (evd_at rfl) (by omega)) ?_
  dsimp only [List.set_cons_zero, List.set_cons_succ]
  refine r_set (evd_sub (evd_mulW (evd_at rfl) (evd_sub (ev_pM (evl_d (evd_at rfl)) (evd_at rfl) (by omega)) (ev_pM (evl_d (evd_at rfl)) (evd_at rfl) (by omega))) (big_mul (up_big (xs_big ok p)) (dif_big (sM_big ok (by omega)) (sM_big ok (by omega))))) (evd_sub (ev_pF (evl_d (evd_at rfl)) (evd_at rfl) (by omega)) (ev_pF (evl_d (evd_at rfl)) (evd_at rfl) (by omega)))) ?_
  dsimp only [List.set_cons_zero, List.set_cons_succ]
  refine r_ret (evd_is (evd_sub (evd_add (evd_at rfl) (evd_sub (ev_pF (evl_d (evd_at rfl)) (evd_at rfl) (by omega)) (ev_pF (evl_d (evd_at rfl)) (evd_at rfl) (by omega)))) (evd_mulW (evd_at rfl) (evd_sub (ev_pM (evl_d (evd_at rfl)) (evd_at rfl) (by omega)) (ev_pM (evl_d (evd_at rfl)) (evd_at rfl) (by omega))) (big_mul (up_big (xs_big ok p)) (dif_big (sM_big ok (by omega)) (sM_big ok (by omega)))))) ?_) k
  rw [cst_carried ok h1 h2 h3]
theorem ev_carried {r : List (Int × Int)} {t1 t2 t3 t4 t5 : TE} {f e p : Nat} (ha : EvD K t1 δ (eRoad r)) (hb : EvD K t2 δ (eSums r)) (hc : EvD K t3 δ (.int (f : Int))) (hd : EvD K t4 δ (.int (e : Int))) (he : EvD K t5 δ (.int (p : Int))) (ok : RoadOk r) (h1 : f ≤ p) (h2 : p < e) (h3 : e ≤ r.length) :
    EvD K (tCall (sp_carried K) [] E0 (tCons t1 (tCons t2 (tCons t3 (tCons t4 (tCons t5 tNil)))))) δ (.int (cst r f e p)) :=
  evd_call (ea_cons ha (ea_cons hb (ea_cons hc (ea_cons hd (ea_cons he ea_nil))))) ⟨r, f, e, p, rfl, h1, h2, h3, ok, rfl⟩
end
end Ph

set_option Elab.async false
set_option linter.all false
set_option maxRecDepth 100000
set_option maxHeartbeats 2000000
namespace Ph
open PySem PySem.Spec L2
section
variable {K : PySem.W.Frag} {δ : List Sl} {ta tb tc td te : TE} {d e f : PyData}
local macro_rules | `(tactic| walk_at "wk") => `(tactic| first | exact WkL.nil | (refine' WkL.same ?_; walk_at "wk") | (refine' WkL.drop ?_; walk_at "wk"))
/-- the pointer of one turn -/
theorem mid_turn {r : List (Int × Int)} (ok : RoadOk r) (f j : Nat) : mAdv r f (f + 1 + j) (mid r f (f + j)) = mid r f (f + 1 + j) := by
  by_cases h : j = 0
  · subst h
    have : mid r f (f + 0) = f := by
      unfold mid
      exact mAdv_stop (fun z => absurd z.1 (by omega))
    rw [this]; rfl
  · have := mid_next ok (f := f) (e := f + j) (by omega)
    have e : f + 1 + j = f + j + 1 := by omega
    rw [e]; exact this
theorem mid_lt' (r : List (Int × Int)) (f j : Nat) : f ≤ mid r f (f + j) ∧ mid r f (f + j) < f + 1 + j := by
  refine ⟨mid_ge r f _, ?_⟩
  by_cases h : j = 0
  · subst h
    have : mid r f (f + 0) = f := by
      unfold mid
      exact mAdv_stop (fun z => absurd z.1 (by omega))
    rw [this]; omega
  · have := mid_lt r (f := f) (e := f + j) (by omega)
    omega
theorem run_middles : ∀ ds d, R_middles ds d → ∀ B D, RtN K B D d → RunS K B (t_middles K) D (ds.map Sl.d ++ List.replicate (8 - ds.length) Sl.no) := by
  rintro _ _ ⟨r, rfl, ok, rfl⟩ B D k
  show RunS K B (t_middles K) D [.d (eRoad r), .no, .no, .no, .no, .no, .no, .no]
  have hn := ok.len
  refine r_set (ev_sums (evd_at rfl) ok) ?_
  dsimp only [List.set_cons_zero, List.set_cons_succ]
  refine r_set (d := eInts (pM r r.length)) (evd_ixt0 (evd_at rfl)) ?_
  refine r_setN (ds := ((List.range 0).map (rowOf r)).map eRow) (evn_lst ea_nil (by simp)) fun p => ?_
  dsimp only [List.set_cons_zero, List.set_cons_succ]
  refine r_for (evi_range1 (evd_lenm (xs := r) (en := eHs) (evl_d (evd_at rfl))) (by omega)) (fun i δ => δ = [.d (eRoad r), .d (eSums r), .d (eInts (pM r r.length)), .m p (((List.range i).map (rowOf r)).map eRow), .no, .no, .no, .no]) ⟨_, by walk_at "wk", rfl⟩ (fun _ _ _ _ _ _ _ _ _ => trivial) (fun Gb hb i δ' hi hP => ?_) (fun δ' hP => ?_)
  · subst hP
    refine ⟨_, tg_name, ?_⟩
    dsimp only [List.set_cons_zero, List.set_cons_succ]
    refine r_setN (ds := ((List.range 0).map (cell r i)).map eHs) (evn_lst ea_nil (by simp)) fun q => ?_
    refine r_set (d := .int ((mid r i (i + 0) : Nat) : Int)) (evd_is (evd_at rfl) ?_) ?_
    · have : mid r i (i + 0) = i := by
        unfold mid
        exact mAdv_stop (fun z => absurd z.1 (by omega))
      rw [this]
    dsimp only [List.set_cons_zero, List.set_cons_succ]
    have hr := evi_range2 (K := K) (δ := [.d (eRoad r), .d (eSums r), .d (eInts (pM r r.length)), .m p (((List.range i).map (rowOf r)).map eRow), .d (.int (i : Int)), .m q (((List.range 0).map (cell r i)).map eHs), .d (.int ((mid r i (i + 0) : Nat) : Int)), .no]) (evd_add (evd_at (n := 4) rfl) (evd_int (n := 1))) (evd_add (evd_lenm (xs := r) (en := eHs) (evl_d (evd_at (n := 0) rfl))) (evd_int (n := 1))) (by omega) (by omega) (by omega) (by omega)
    have ez : ((r.length : Int) + 1 - ((i : Int) + 1)).toNat = r.length - i := by omega
    rw [ez] at hr
    refine r_for (EvI.congr (Y' := fun j => .int ((i + 1 + j : Nat) : Int)) hr (fun j _ => by rw [Int.natCast_add, Int.natCast_add]; rfl)) (fun j δ => δ = [.d (eRoad r), .d (eSums r), .d (eInts (pM r r.length)), .m p (((List.range i).map (rowOf r)).map eRow), .d (.int (i : Int)), .m q (((List.range j).map (cell r i)).map eHs), .d (.int ((mid r i (i + j) : Nat) : Int)), .no]) ⟨_, by walk_at "wk", rfl⟩ (fun _ _ _ _ _ _ _ _ _ => trivial) (fun Gb2 hb2 j δ' hj hP => ?_) (fun δ' hP => ?_)
    · subst hP
      refine ⟨_, tg_name, ?_⟩
      dsimp only [List.set_cons_zero, List.set_cons_succ]
      have ht := mid_turn ok i j
      obtain ⟨g1, g2⟩ := mid_lt' r i j
      generalize mid r i (i + j) = b0 at *
      refine r_while (fun m δ => ∃ b, m = (i + 1 + j) - b ∧ mAdv r i (i + 1 + j) b = mid r i (i + 1 + j) ∧ i ≤ b ∧ b < i + 1 + j ∧ δ = [.d (eRoad r), .d (eSums r), .d (eInts (pM r r.length)), .m p (((List.range i).map (rowOf r)).map eRow), .d (.int (i : Int)), .m q (((List.range j).map (cell r i)).map eHs), .d (.int (b : Int)), .d (.int ((i + 1 + j : Nat) : Int))]) _ ⟨_, WkL.refl _, b0, rfl, ht, g1, g2, rfl⟩ ?_
      rintro m _ ⟨b, rfl, hb1, hb2, hb3, rfl⟩
      refine ⟨_, evt_test (evd_lt (evd_mul evd_int (evd_sub (ev_pM (r := r) (n := r.length) (k := b + 1) (evl_d (evd_at rfl)) (evd_is (evd_add (evd_at rfl) evd_int) rfl) (by omega)) (ev_pM (r := r) (n := r.length) (evl_d (evd_at rfl)) (evd_at rfl) (by omega))) (.inl ⟨by decide, by decide⟩)) (evd_sub (ev_pM (r := r) (n := r.length) (evl_d (evd_at rfl)) (evd_at rfl) (by omega)) (ev_pM (r := r) (n := r.length) (evl_d (evd_at rfl)) (evd_at rfl) (by omega)))), fun hc => ?_, fun hc => ?_⟩
      · have hc := of_decide_eq_true hc
        have hlt : b + 1 < i + 1 + j := by
          by_cases z : b + 1 = i + 1 + j
          · rw [z] at hc
            have := sM_mono ok (show i ≤ i + 1 + j by omega)
            omega
          · omega
        refine r_set (d := .int ((b + 1 : Nat) : Int)) (evd_is (evd_add (evd_at rfl) evd_int) rfl) ?_
        dsimp only [List.set_cons_zero, List.set_cons_succ]
        refine r_next (nx_inv (WkL.refl _) ⟨_, rfl, _, ?_, b + 1, rfl, ?_, by omega, by omega, rfl⟩)
        · omega
        · rw [← mAdv_go ⟨hlt, hc⟩]; exact hb1
      · have hc := of_decide_eq_false hc
        have hbm : mid r i (i + 1 + j) = b := by
          rw [← hb1]
          exact mAdv_stop fun z => hc z.2
        refine r_app rfl (d := eHs (cell r i j)) (evd_is (evd_tup (ea_cons (evd_at rfl) (ea_cons (ev_carried (evd_at rfl) (evd_at rfl) (evd_at rfl) (evd_at rfl) (evd_at rfl) ok hb2 hb3 (by omega)) ea_nil)) (by simp)) ?_) (by rw [List.length_map, List.length_map, List.length_range]; omega) ?_
        · unfold cell wv
          rw [hbm]
        dsimp only [List.set_cons_zero, List.set_cons_succ]
        refine r_next (nx_inv ?_ ⟨_, rfl, rfl⟩)
        have e1 : i + (j + 1) = i + 1 + j := by omega
        rw [List.range_succ, List.map_append, List.map_append, e1, hbm]
        walk_at "wk"
    · subst hP
      refine r_freeze (i := 5) rfl ?_
      dsimp only [List.set_cons_zero, List.set_cons_succ]
      refine r_app rfl (evd_at (d := eRow (rowOf r i)) rfl) (by rw [List.length_map, List.length_map, List.length_range]; omega) ?_
      dsimp only [List.set_cons_zero, List.set_cons_succ]
      refine r_next (nx_inv ?_ ⟨_, rfl, rfl⟩)
      rw [List.range_succ, List.map_append, List.map_append]
      walk_at "wk"
  · subst hP
    exact r_retM rfl k
theorem ev_middles {r : List (Int × Int)} (ha : EvD K ta δ (eRoad r)) (ok : RoadOk r) : EvN K (tCall (sp_middles K) [] E0 (tCons ta tNil)) δ ((midT r).map eRow) := evn_call (ea_cons ha ea_nil) ⟨r, rfl, ok, rfl⟩
theorem wv_mem {r : List (Int × Int)} (ok : RoadOk r) {f e : Nat} (h1 : f < e) (h2 : e ≤ r.length) : wv r f e ∈ (List.range (e - f)).map fun k => cst r f e (f + k) := by
  have a := mid_ge r f e
  have b := mid_lt r h1
  refine List.mem_map.mpr ⟨mid r f e - f, List.mem_range.mpr (by omega), ?_⟩
  have : f + (mid r f e - f) = mid r f e := by omega
  rw [this]; rfl
theorem wv_min {r : List (Int × Int)} (ok : RoadOk r) {f e : Nat} (h1 : f < e) (h2 : e ≤ r.length) : ∀ y ∈ (List.range (e - f)).map fun k => cst r f e (f + k), wv r f e ≤ y := by
  intro y hy
  obtain ⟨k, hk, rfl⟩ := List.mem_map.mp hy
  have := List.mem_range.mp hk
  exact wv_le ok (by omega) (by omega) h2
theorem run_one_way : ∀ ds d, R_one_way ds d → ∀ B D, RtD K B D d → (d = .none → ∀ δ, Nx K B D δ) → RunS K B (t_one_way K) D (ds.map Sl.d ++ List.replicate (5 - ds.length) Sl.no) := by
  rintro _ _ ⟨r, f, e, rfl, h1, h2, ok, rfl⟩ B D k _
  show RunS K B (t_one_way K) D [.d (eRoad r), .d (.int f), .d (.int e), .no, .no]
  have hn := ok.len
  refine r_drop (ev_asked_road (evd_at rfl) ok) (r_drop (ev_asked_stretch (evd_at rfl) (evd_at rfl) (evd_at rfl) h1 h2 hn) (r_set (ev_sums (evd_at rfl) ok) ?_))
  dsimp only [List.set_cons_zero, List.set_cons_succ]
  refine r_ret (evd_min (ns := (List.range (e - f)).map fun k => cst r f e (f + k)) (evl_is (evl_n (evn_lcR2 (f := fun k => .int (cst r f e (f + k))) (evd_at rfl) (evd_at rfl) (by omega) (by omega) fun k hk => ?_)) ?_) (wv_mem ok h1 h2) (wv_min ok h1 h2)) k
  · exact ev_carried (evd_at rfl) (evd_at rfl) (evd_at rfl) (evd_at rfl) (evd_at rfl) ok (by omega) (by omega) h2
  · rw [List.map_map]; rfl
theorem ev_one_way {r : List (Int × Int)} {f e : Nat} (ha : EvD K ta δ (eRoad r)) (hb : EvD K tb δ (.int (f : Int))) (hc : EvD K tc δ (.int (e : Int))) (ok : RoadOk r) (h1 : f < e) (h2 : e ≤ r.length) : EvD K (tCall (sp_one_way K) [] E0 (tCons ta (tCons tb (tCons tc tNil)))) δ (.int (wv r f e)) :=
  evd_call (ea_cons ha (ea_cons hb (ea_cons hc ea_nil))) ⟨r, f, e, rfl, h1, h2, ok, rfl⟩
theorem run_middle : ∀ ds d, R_middle ds d → ∀ B D, RtN K B D d → RunS K B (t_middle K) D (ds.map Sl.d ++ List.replicate (9 - ds.length) Sl.no) := by
  rintro _ _ ⟨r, f, e, rfl, h1, h2, ok, rfl⟩ B D k
  show RunS K B (t_middle K) D [.d (eRoad r), .d (.int f), .d (.int e), .no, .no, .no, .no, .no, .no]
  have hn := ok.len
  refine r_drop (ev_asked_road (evd_at rfl) ok) (r_drop (ev_asked_stretch (evd_at rfl) (evd_at rfl) (evd_at rfl) h1 h2 hn) (r_set (ev_sums (evd_at rfl) ok) ?_))
  dsimp only [List.set_cons_zero, List.set_cons_succ]
  refine r_set (d := eInts ((List.range (e - f)).map fun k => cst r f e (f + k))) (evd_is (evd_n (evn_lcR2 (f := fun k => .int (cst r f e (f + k))) (evd_at rfl) (evd_at rfl) (by omega) (by omega) fun k hk => ?_)) ?_) ?_
  · exact ev_carried (evd_at rfl) (evd_at rfl) (evd_at rfl) (evd_at rfl) (evd_at rfl) ok (by omega) (by omega) h2
  · unfold eInts; rw [List.map_map]; rfl
  dsimp only [List.set_cons_zero, List.set_cons_succ]
  refine r_set (evd_min (evl_d (evd_at rfl)) (wv_mem ok h1 h2) (wv_min ok h1 h2)) ?_
  dsimp only [List.set_cons_zero, List.set_cons_succ]
  have hl : ((List.range (e - f)).map fun k => cst r f e (f + k)).length = e - f := by rw [List.length_map, List.length_range]
  have hg : ∀ i, i < e - f → ((List.range (e - f)).map fun k => cst r f e (f + k)).getD i default = cst r f e (f + i) := fun i hi => by simp [List.getD_eq_getElem?_getD, hi]
  have hi := evi_enumm (K := K) (δ := [.d (eRoad r), .d (.int f), .d (.int e), .d (eSums r), .d (eInts ((List.range (e - f)).map fun k => cst r f e (f + k))), .no, .d (.int (wv r f e)), .no, .no]) (xs := (List.range (e - f)).map fun k => cst r f e (f + k)) (en := PyData.int) (evd_at (n := 4) rfl)
  rw [hl] at hi
  refine r_retN (evn_is (evn_lc (b := fun i => decide (isMid r f e (f + i))) (f := fun (i : Nat) => .int ((f : Int) + (i : Int))) (δi := fun (i : Nat) => [.d (eRoad r), .d (.int f), .d (.int e), .d (eSums r), .d (eInts ((List.range (e - f)).map fun k => cst r f e (f + k))), .no, .d (.int (wv r f e)), .d (.int (i : Int)), .d (.int (cst r f e (f + i)))])
    (EvI.congr (Y' := fun i => .tuple [.int (i : Int), .int (cst r f e (f + i))]) hi fun i hi => by rw [hg i hi]) (fun _ _ _ _ _ _ => trivial) (by omega) (fun i hi => tv_tup (tvs_cons (tv_name (by simp)) (tvs_cons (tv_name (by simp)) tvs_nil)) rfl) (fun i hi => evt_is (evt_test (evd_eqI (evd_at rfl) (evd_at rfl))) ?_) (fun i hi _ => evd_add (evd_at rfl) (evd_at rfl))) ?_) k
  · exact decide_eq_decide.mpr (mid_iff ok (by omega) (by omega) h2)
  · unfold midL; rw [List.map_map]; rfl
theorem ev_middle {r : List (Int × Int)} {f e : Nat} (ha : EvD K ta δ (eRoad r)) (hb : EvD K tb δ (.int (f : Int))) (hc : EvD K tc δ (.int (e : Int))) (ok : RoadOk r) (h1 : f < e) (h2 : e ≤ r.length) : EvN K (tCall (sp_middle K) [] E0 (tCons ta (tCons tb (tCons tc tNil)))) δ ((midL r f e).map .int) :=
  evn_call (ea_cons ha (ea_cons hb (ea_cons hc ea_nil))) ⟨r, f, e, rfl, h1, h2, ok, rfl⟩
end
end Ph

set_option Elab.async false
set_option linter.all false
set_option maxRecDepth 100000
set_option maxHeartbeats 2000000
namespace Ph
open PySem PySem.Spec L2
/-- the law's promise, at its start -/
theorem law_start {K : PySem.W.Frag} {H : Hp} {a : Addr} {ns : List Int} (hl : ns.length ≤ 63) (hS : SqL K H a (ns.map V.int)) : sp_law K [.ref a] H (fun v _ => v = .bl true) fun _ _ _ => False :=
  ⟨H, [eInts ns], .bool true, Same.refl _, .cons (.lst hS (ints_dpAll ns)) .nil, ⟨ns, rfl, hl, rfl⟩, fun v G' H' _ h => (sv_dp (H := H) h rfl).1⟩
section
variable {K : PySem.W.Frag} {δ : List Sl} {ta tb tc te : TE} {d e f : PyData}
theorem shp_pair {n : Nat} {a b : PyData} (ha : Shp n a) (hb : Shp n b) : Shp (n + 1) (.list [a, b]) := shp_list fun d hd => by
  simp at hd
  rcases hd with rfl | rfl
  · exact ha
  · exact hb
/-- x != x -/
theorem evd_neSame {n : Nat} {d : PyData} (ha : EvR K ta δ d) (hb : EvR K tb δ d) (hs : Shp n d) (hn : n ≤ 64) : EvD K (tOp (oNeD K) ta tb) δ (.bool false) := by
  have h := evd_neD ha hb (hs.ok hn) (hs.ok hn)
  rw [SeqAt.eqv_refl d hs.1] at h
  exact h
theorem evd_eqSame {n : Nat} {d : PyData} (ha : EvR K ta δ d) (hb : EvR K tb δ d) (hs : Shp n d) (hn : n ≤ 64) : EvD K (tOp (oEqD K) ta tb) δ (.bool true) := by
  have h := evd_eqD ha hb (hs.ok hn) (hs.ok hn)
  rw [SeqAt.eqv_refl d hs.1] at h
  exact h
theorem evt_or_ff {t u : TT} (h : EvT K t δ false) (h2 : EvT K u δ false) : EvT K (tOr t u) δ false := evt_or h fun _ => h2
/-- two hundred houses by a few: slot 1 holds the road, slot 2 is the pointer -/
theorem ev_road2 {r : List (Int × Int)} {x0 x2 : Sl} {xs : List Sl} (hne : r ≠ []) : EvD K (tLc (iRng1 (tCons (tC (.int 200)) tNil)) (gName 2) tYes (tTup (tCons (tOp oAdd (tOp oMul (tC (.int 9)) (tVar 2)) (tOp oMod (tOp (oIxT K) (tOp (oIx K) (tVar 1) (tOp oMod (tVar 2) (tCB (cLen K) (tCons (tVar 1) tNil)))) (tC (.int 0))) (tC (.int 8)))) (tCons (tOp (oIxT K) (tOp (oIx K) (tVar 1) (tOp oMod (tVar 2) (tCB (cLen K) (tCons (tVar 1) tNil)))) (tC (.int 1))) tNil))) [2]) (x0 :: .d (eRoad r) :: x2 :: xs) (eRoad (lawRoad2 r)) := by
  have hp : 0 < r.length := List.length_pos_iff.mpr hne
  refine evd_is (evd_n (evn_lcR (n := 200) (f := fun (i : Nat) => eHs (9 * (i : Int) + (r.getD (i % r.length) default).1 % 8, (r.getD (i % r.length) default).2)) evd_int (by decide) fun i hi => ?_)) ?_
  · have em : (i : Int) % (r.length : Int) = ((i % r.length : Nat) : Int) := rfl
    have hlt : i % r.length < r.length := Nat.mod_lt _ hp
    have hix : EvD K (tOp (oIx K) (tVar 1) (tOp oMod (tVar 2) (tCB (cLen K) (tCons (tVar 1) tNil)))) ((wipeD (x0 :: .d (eRoad r) :: x2 :: xs) [2]).set 2 (.d (.int (i : Int)))) (eHs (r.getD (i % r.length) default)) := by
      refine evd_is (evd_ixm (en := eHs) (evl_d (evd_at rfl)) (evd_mod (evd_at rfl) (evd_lenm (en := eHs) (evl_d (evd_at rfl))) (by omega)) ?_ ?_) ?_
      · rw [em]; omega
      · rw [em]; omega
      · rw [em, Int.toNat_natCast]
    exact evd_tup (ea_cons (evd_add (evd_mul evd_int (evd_at rfl) (.inl ⟨by decide, by decide⟩)) (evd_mod (evd_ixt0 hix) evd_int (by decide))) (ea_cons (evd_ixt1 hix) ea_nil)) (by simp)
  · unfold lawRoad2 eRoad
    rw [List.map_map]
    rfl
theorem lawRoad2_len (r : List (Int × Int)) : (lawRoad2 r).length = 200 := by unfold lawRoad2; rw [List.length_map, List.length_range]
/-- a cut of typed items -/
theorem cut_map {α : Type} {en : α → PyData} (xs : List α) (lo hi : Option Int) : cut (xs.map en) lo hi = (cut xs lo hi).map en := by
  unfold cut
  rw [List.length_map, List.map_take, List.map_drop]
theorem cut_ff {α : Type} {xs : List α} {f e : Nat} (h : f ≤ e) (h2 : e ≤ xs.length) : cut xs (some (f : Int)) (some (e : Int)) = (xs.drop f).take (e - f) := by
  have a : HT.sIx xs.length 0 (some (f : Int)) = f := by rw [HT.sIx_nat]; omega
  have b : HT.sIx xs.length xs.length (some (e : Int)) = e := by rw [HT.sIx_nat]; omega
  unfold cut
  rw [a, b]
theorem cut_to {α : Type} {xs : List α} {e : Nat} : cut xs none (some (e : Int)) = xs.take (min e xs.length) := by
  have a : HT.sIx xs.length 0 none = 0 := rfl
  have b : HT.sIx xs.length xs.length (some (e : Int)) = min e xs.length := HT.sIx_nat _ _ _
  unfold cut
  rw [a, b]
  simp
/-- [.. for a, b in a list of pairs] -/
theorem evn_lcP {xs : List (Int × Int)} {f : Int × Int → PyData} {tl : TE} {i j : Nat} (h : EvD K tl δ (eRoad xs)) (hn : xs.length ≤ 1000000) (he : ∀ x, x ∈ xs → EvD K te (((wipeD δ [i, j]).set i (.d (.int x.1))).set j (.d (.int x.2))) (f x)) :
    EvN K (tLc (iList K tl) (gTup K 2 (gCons (gName i) (gCons (gName j) gNil))) tYes te [i, j]) δ (xs.map f) := by
  have k := evn_lc (K := K) (δ := δ) (te := te) (tt := tYes) (wi := iList K tl) (g := gTup K 2 (gCons (gName i) (gCons (gName j) gNil))) (vs := [i, j]) (b := fun _ => true) (f := fun k => f (xs.getD k default)) (δi := fun k => ((wipeD δ [i, j]).set i (.d (.int (xs.getD k default).1))).set j (.d (.int (xs.getD k default).2)))
    (evi_listm (xs := xs) (en := eHs) h) (fun _ _ _ _ _ _ => trivial) hn (fun k hk => tv_tup (tvs_cons (tv_name (by simp)) (tvs_cons (tv_name (by simp)) tvs_nil)) rfl) (fun _ _ => evt_yes) (fun k hk _ => he _ (getD_mem hk))
  rw [List.filter_eq_self.mpr (fun _ _ => rfl)] at k
  refine evn_is k ?_
  refine List.ext_getElem (by simp) fun n h1 h2 => ?_
  simp at h1 h2
  simp [List.getD_eq_getElem?_getD, h2]
end
/-! sums over a stretch -/
theorem slice_eq {α : Type} [Inhabited α] {xs : List α} {f e : Nat} (h : f ≤ e) (h2 : e ≤ xs.length) : (xs.drop f).take (e - f) = (List.range (e - f)).map fun k => xs.getD (f + k) default := by
  refine List.ext_getElem (by simp; omega) fun n h1 h3 => ?_
  simp at h1 h3
  have : f + n < xs.length := by omega
  simp [List.getD_eq_getElem?_getD, this]
theorem sum_range (g : Nat → Int) : ∀ n : Nat, ((List.range n).map g).sum = sumTo g n
  | 0 => rfl
  | n + 1 => by
    rw [List.range_succ, List.map_append, List.sum_append, sum_range g n]
    simp [sumTo]
theorem sumTo_shift (g : Nat → Int) (f : Nat) : ∀ n : Nat, sumTo (fun k => g (f + k)) n = sumTo g (f + n) - sumTo g f
  | 0 => by simp [sumTo]
  | n + 1 => by
    have ih := sumTo_shift g f n
    show sumTo (fun k => g (f + k)) n + g (f + n) = sumTo g (f + n) + g (f + n) - sumTo g f
    omega
theorem slice_sum {xs : List (Int × Int)} {f e : Nat} (g : Int × Int → Int) (h : f ≤ e) (h2 : e ≤ xs.length) : (((xs.drop f).take (e - f)).map g).sum = sumTo (fun i => g (xs.getD i default)) e - sumTo (fun i => g (xs.getD i default)) f := by
  rw [slice_eq h h2, List.map_map]
  have a := sum_range (fun k => g (xs.getD (f + k) default)) (e - f)
  have b := sumTo_shift (fun i => g (xs.getD i default)) f (e - f)
  have c : f + (e - f) = e := by omega
  rw [c] at b
  rw [← b, ← a]
  rfl
end Ph

set_option Elab.async false
set_option linter.all false
set_option maxRecDepth 100000
set_option maxHeartbeats 2000000
namespace Ph
/-! ### the quadrangle rule of the one way -/
theorem sumTo_le {g g' : Nat → Int} {f : Nat} : ∀ {e : Nat}, f ≤ e → (∀ i, f ≤ i → i < e → g i ≤ g' i) → sumTo g e - sumTo g f ≤ sumTo g' e - sumTo g' f
  | 0, h, _ => by have : f = 0 := by omega
                  subst this; exact Int.le_refl _
  | e + 1, h, k => by
    by_cases z : f = e + 1
    · subst z; omega
    · have ih := sumTo_le (g := g) (g' := g') (f := f) (e := e) (by omega) fun i a b => k i a (by omega)
      have := k e (by omega) (by omega)
      show sumTo g e + g e - sumTo g f ≤ sumTo g' e + g' e - sumTo g' f
      omega
theorem mul_dist {l a b : Int} (h : 0 ≤ l) (hab : a ≤ b) : l * a ≤ l * b := Int.mul_le_mul_of_nonneg_left hab h
theorem gc_right {r : List (Int × Int)} (ok : RoadOk r) {i m m' : Nat} (h : m ≤ m') (h2 : m' ≤ i) (hi : i < r.length) : gc r m' i ≤ gc r m i := by
  have a := xs_le ok h (by omega)
  have b := xs_le ok h2 hi
  exact mul_dist (ls_nonneg ok i) (by omega)
theorem gc_left {r : List (Int × Int)} (ok : RoadOk r) {i m m' : Nat} (h : i ≤ m') (h2 : m' ≤ m) (hm : m < r.length) : gc r m' i ≤ gc r m i := by
  have a := xs_le ok h (by omega)
  have b := xs_le ok h2 hm
  exact mul_dist (ls_nonneg ok i) (by omega)
theorem cst_le {r : List (Int × Int)} {f e m m' : Nat} (h : f ≤ e) (k : ∀ i, f ≤ i → i < e → gc r m' i ≤ gc r m i) : cst r f e m' ≤ cst r f e m := sumTo_le h k
theorem monge {r : List (Int × Int)} (ok : RoadOk r) {p q s t : Nat} (h1 : p ≤ q) (h2 : q < s) (h3 : s ≤ t) (h4 : t ≤ r.length) : wv r p s + wv r q t ≤ wv r p t + wv r q s := by
  have a1 := mid_ge r p t
  have a2 := mid_lt r (f := p) (e := t) (by omega)
  have b1 := mid_ge r q s
  have b2 := mid_lt r h2
  have e1 : wv r p t = cst r p t (mid r p t) := rfl
  have e2 : wv r q s = cst r q s (mid r q s) := rfl
  generalize mid r p t = m at *
  generalize mid r q s = m' at *
  by_cases h : m ≤ m'
  · have c1 := wv_le ok (f := p) (e := s) (p := m) a1 (by omega) (by omega)
    have c2 := wv_le ok (f := q) (e := t) (p := m') b1 (by omega) h4
    have c3 := cst_le (r := r) (f := s) (e := t) (m := m) (m' := m') h3 fun i x y => gc_right ok h (by omega) (by omega)
    have d1 := cst_split r p s t m
    have d2 := cst_split r q s t m'
    omega
  · have c1 := wv_le ok (f := p) (e := s) (p := m') (by omega) b2 (by omega)
    have c2 := wv_le ok (f := q) (e := t) (p := m) (by omega) a2 h4
    have c3 := cst_le (r := r) (f := p) (e := q) (m := m) (m' := m') h1 fun i x y => gc_left ok (by omega) (by omega) (by omega)
    have d1 := cst_split r p q t m
    have d2 := cst_split r p q s m'
    omega
theorem wv_nonneg {r : List (Int × Int)} (ok : RoadOk r) (f e : Nat) (h : f ≤ e) : 0 ≤ wv r f e := by
  have := sumTo_le (g := fun _ => 0) (g' := gc r (mid r f e)) h fun i _ _ => Int.mul_nonneg (ls_nonneg ok i) (by omega)
  have z : ∀ n, sumTo (fun _ => 0) n = 0 := fun n => by
    induction n with
    | zero => rfl
    | succ n ih => show sumTo (fun _ => 0) n + 0 = 0; omega
  rw [z, z] at this
  exact this
theorem wv_one {r : List (Int × Int)} (f : Nat) : wv r f (f + 1) = 0 := by
  have : mid r f (f + 1) = f := by
    have a := mid_ge r f (f + 1)
    have b := mid_lt r (f := f) (e := f + 1) (by omega)
    omega
  unfold wv cst
  rw [this]
  show sumTo (gc r f) f + gc r f f - _ = 0
  have : gc r f f = 0 := by unfold gc; rw [Int.sub_self]; simp
  omega
/-! ### ways in stretches -/
/-- k stretches to e, at this cost -/
inductive Pth (r : List (Int × Int)) : Nat → Nat → Int → Prop where
  | zero : Pth r 0 0 0
  | go {k f e : Nat} {c : Int} : Pth r k f c → f < e → Pth r (k + 1) e (c + wv r f e)
theorem Pth.le {r : List (Int × Int)} : ∀ {k e : Nat} {c : Int}, Pth r k e c → k ≤ e
  | _, _, _, .zero => Nat.le_refl _
  | _, _, _, .go p h => by have := p.le; omega
theorem Pth.z {r : List (Int × Int)} {e : Nat} {c : Int} (p : Pth r 0 e c) : e = 0 ∧ c = 0 := by cases p; exact ⟨rfl, rfl⟩
theorem Pth.is {r : List (Int × Int)} {k e : Nat} {c c' : Int} (p : Pth r k e c) (h : c = c') : Pth r k e c' := h ▸ p
theorem swap {r : List (Int × Int)} (ok : RoadOk r) : ∀ (i : Nat) {x y : Nat} {cx cy : Int}, Pth r (i + 1) x cx → Pth r (i + 2) y cy → y ≤ x → x ≤ r.length → ∃ c1 c2, Pth r (i + 1) y c1 ∧ Pth r (i + 2) x c2 ∧ c1 + c2 ≤ cx + cy := by
  intro i
  induction i with
  | zero =>
    intro x y cx cy px py hyx hx
    cases px with
    | @go _ x' _ cx' px' hx' =>
      cases py with
      | @go _ y' _ cy' py' hy' =>
        have z := px'.z.1
        refine ⟨_, _, .go px' (show x' < y by omega), .go py' (show y' < x by omega), ?_⟩
        have := monge ok (p := x') (q := y') (s := y) (t := x) (by omega) hy' hyx hx
        omega
  | succ i ih =>
    intro x y cx cy px py hyx hx
    cases px with
    | @go _ x' _ cx' px' hx' =>
      cases py with
      | @go _ y' _ cy' py' hy' =>
        by_cases h : x' ≤ y'
        · refine ⟨_, _, .go px' (show x' < y by omega), .go py' (show y' < x by omega), ?_⟩
          have := monge ok (p := x') (q := y') (s := y) (t := x) h hy' hyx hx
          omega
        · obtain ⟨c1, c2, q1, q2, q3⟩ := ih px' py' (by omega) (by omega)
          exact ⟨_, _, .go q1 hy', .go q2 hx', by omega⟩
/-- the least way by k stretches bends one way -/
theorem bend {r : List (Int × Int)} (ok : RoadOk r) {k n : Nat} {ca cb : Int} (hn : n ≤ r.length) (pa : Pth r (k + 1) n ca) (pb : Pth r (k + 3) n cb) : ∃ c1 c2, Pth r (k + 2) n c1 ∧ Pth r (k + 2) n c2 ∧ c1 + c2 ≤ ca + cb := by
  cases pb with
  | @go _ y' _ cy' py' hy' =>
    obtain ⟨c1, c2, q1, q2, q3⟩ := swap ok k pa py' (by omega) hn
    exact ⟨_, _, .go q1 hy', q2, by omega⟩
/-! ### least of a list of pairs -/
theorem minP_mem (x : Int × Int) (xs : List (Int × Int)) : minP x xs ∈ x :: xs ∧ ∀ y ∈ x :: xs, (minP x xs).1 ≤ y.1 := by
  induction xs generalizing x with
  | nil =>
    refine ⟨List.mem_singleton_self x, fun y hy => ?_⟩
    rw [List.mem_singleton.mp hy]
    exact Int.le_refl _
  | cons z zs ih =>
    have e : minP x (z :: zs) = minP (if pairLt z x then z else x) zs := rfl
    rw [e]
    obtain ⟨a, b⟩ := ih (if pairLt z x then z else x)
    have hle : (if pairLt z x then z else x).1 ≤ x.1 ∧ (if pairLt z x then z else x).1 ≤ z.1 := by
      by_cases h : pairLt z x = true
      · rw [if_pos h]
        unfold pairLt at h
        simp at h
        omega
      · rw [if_neg h]
        unfold pairLt at h
        simp at h
        omega
    refine ⟨?_, fun y hy => ?_⟩
    · rcases List.mem_cons.mp a with h | h
      · rw [h]
        split
        · simp
        · simp
      · exact List.mem_cons_of_mem _ (List.mem_cons_of_mem _ h)
    · have b0 := b _ (List.mem_cons_self ..)
      rcases List.mem_cons.mp hy with rfl | hy
      · omega
      · rcases List.mem_cons.mp hy with rfl | hy
        · omega
        · exact b y (List.mem_cons_of_mem _ hy)
theorem minPD_mem {z : Int × Int} {xs : List (Int × Int)} (h : xs ≠ []) : minPD z xs ∈ xs ∧ ∀ y ∈ xs, (minPD z xs).1 ≤ y.1 := by
  cases xs with
  | nil => exact absurd rfl h
  | cons x xs => exact minP_mem x xs
/-! ### the layers -/
def layC (r : List (Int × Int)) (last : List (Int × Int)) (turn e : Nat) : List (Int × Int) := (List.range (e - turn)).map fun a => ((last.getD (turn + a - 1) default).1 + wv r (turn + a) e, ((turn + a : Nat) : Int))
def lay (r : List (Int × Int)) : Nat → List (Int × Int)
  | 0 => (List.range r.length).map fun j => (wv r 0 (j + 1), 0)
  | t + 1 => (List.range r.length).map fun j => minPD (0, 0) (layC r (lay r t) (t + 1) (j + 1))
theorem lay_len (r : List (Int × Int)) (t : Nat) : (lay r t).length = r.length := by
  cases t with
  | zero => unfold lay; rw [List.length_map, List.length_range]
  | succ t => unfold lay; rw [List.length_map, List.length_range]
theorem lay0_get (r : List (Int × Int)) {j : Nat} (h : j < r.length) : (lay r 0).getD j default = (wv r 0 (j + 1), 0) := by
  unfold lay
  simp [List.getD_eq_getElem?_getD, h]
theorem layS_get (r : List (Int × Int)) {t j : Nat} (h : j < r.length) : (lay r (t + 1)).getD j default = minPD (0, 0) (layC r (lay r t) (t + 1) (j + 1)) := by
  rw [lay]
  simp [List.getD_eq_getElem?_getD, h]
/-- the least way of the first e houses by k posts -/
def V (r : List (Int × Int)) (k e : Nat) : Int := ((lay r (k - 1)).getD (e - 1) default).1
/-- .. where the last stretch begins -/
def ag (r : List (Int × Int)) (k e : Nat) : Nat := ((lay r (k - 1)).getD (e - 1) default).2.toNat
theorem V_one {r : List (Int × Int)} {e : Nat} (h : 1 ≤ e) (h2 : e ≤ r.length) : V r 1 e = wv r 0 e ∧ (lay r 0).getD (e - 1) default = (wv r 0 e, 0) := by
  have := lay0_get r (j := e - 1) (by omega)
  have e1 : e - 1 + 1 = e := by omega
  rw [e1] at this
  refine ⟨?_, this⟩
  unfold V
  rw [this]
theorem V_step {r : List (Int × Int)} {k e : Nat} (hk : 1 ≤ k) (h : k < e) (h2 : e ≤ r.length) :
    (∃ f, k ≤ f ∧ f < e ∧ (lay r k).getD (e - 1) default = (V r k f + wv r f e, (f : Int)) ∧ V r (k + 1) e = V r k f + wv r f e) ∧ ∀ f, k ≤ f → f < e → V r (k + 1) e ≤ V r k f + wv r f e := by
  obtain ⟨t, rfl⟩ : ∃ t, k = t + 1 := ⟨k - 1, by omega⟩
  have hg := layS_get r (t := t) (j := e - 1) (by omega)
  have e1 : e - 1 + 1 = e := by omega
  rw [e1] at hg
  have hne : layC r (lay r t) (t + 1) e ≠ [] := by
    intro z
    have : (layC r (lay r t) (t + 1) e).length = e - (t + 1) := by unfold layC; rw [List.length_map, List.length_range]
    rw [z] at this
    simp at this
    omega
  obtain ⟨m1, m2⟩ := minPD_mem (z := (0, 0)) hne
  have mem : ∀ f, t + 1 ≤ f → f < e → (V r (t + 1) f + wv r f e, ((f : Nat) : Int)) ∈ layC r (lay r t) (t + 1) e := fun f a b => by
    refine List.mem_map.mpr ⟨f - (t + 1), List.mem_range.mpr (by omega), ?_⟩
    have e2 : t + 1 + (f - (t + 1)) = f := by omega
    rw [e2]
    rfl
  refine ⟨?_, fun f a b => ?_⟩
  · obtain ⟨a, ha, he⟩ := List.mem_map.mp m1
    have ha := List.mem_range.mp ha
    refine ⟨t + 1 + a, by omega, by omega, ?_, ?_⟩
    · rw [hg, ← he]; rfl
    · show ((lay r (t + 1)).getD (e - 1) default).1 = _
      rw [hg, ← he]; rfl
  · show ((lay r (t + 1)).getD (e - 1) default).1 ≤ _
    rw [hg]
    exact m2 _ (mem f a b)
theorem V_pth {r : List (Int × Int)} : ∀ (k : Nat) {e : Nat}, k + 1 ≤ e → e ≤ r.length → Pth r (k + 1) e (V r (k + 1) e) := by
  intro k
  induction k with
  | zero =>
    intro e h h2
    refine (Pth.go .zero (show 0 < e by omega)).is ?_
    rw [(V_one h h2).1]; omega
  | succ k ih =>
    intro e h h2
    obtain ⟨⟨f, a, b, _, d⟩, _⟩ := V_step (r := r) (k := k + 1) (e := e) (by omega) (by omega) h2
    exact (Pth.go (ih a (by omega)) b).is d.symm
theorem V_le {r : List (Int × Int)} : ∀ (k : Nat) {e : Nat} {c : Int}, Pth r (k + 1) e c → e ≤ r.length → V r (k + 1) e ≤ c := by
  intro k
  induction k with
  | zero =>
    intro e c p h
    cases p with
    | @go _ f _ c' p' hf =>
      obtain ⟨rfl, rfl⟩ := p'.z
      rw [(V_one (by omega) h).1]; omega
  | succ k ih =>
    intro e c p h
    cases p with
    | @go _ f _ c' p' hf =>
      have := p'.le
      have a := (V_step (r := r) (k := k + 1) (e := e) (by omega) (by omega) h).2 f (by omega) hf
      have b := ih p' (by omega)
      omega
theorem V_bend {r : List (Int × Int)} (ok : RoadOk r) {k n : Nat} (hn : n ≤ r.length) (h : k + 3 ≤ n) : 2 * V r (k + 2) n ≤ V r (k + 1) n + V r (k + 3) n := by
  obtain ⟨c1, c2, q1, q2, q3⟩ := bend ok hn (V_pth k (by omega) hn) (V_pth (k + 2) h hn)
  have a : V r (k + 2) n ≤ c1 := V_le (k + 1) q1 hn
  have b : V r (k + 2) n ≤ c2 := V_le (k + 1) q2 hn
  have q3' : c1 + c2 ≤ V r (k + 1) n + V r (k + 3) n := q3
  omega
theorem pth_all {r : List (Int × Int)} : ∀ n : Nat, Pth r n n 0
  | 0 => .zero
  | n + 1 => (Pth.go (pth_all n) (Nat.lt_succ_self n)).is (by rw [wv_one]; rfl)
theorem pth_nonneg {r : List (Int × Int)} (ok : RoadOk r) : ∀ {k e : Nat} {c : Int}, Pth r k e c → 0 ≤ c
  | _, _, _, .zero => Int.le_refl _
  | _, _, _, .go p h => by
    have := pth_nonneg ok p
    have := wv_nonneg ok _ _ (Nat.le_of_lt h)
    omega
theorem V_all {r : List (Int × Int)} (ok : RoadOk r) {n : Nat} (h : 1 ≤ n) (hn : n ≤ r.length) : V r n n = 0 := by
  obtain ⟨m, rfl⟩ : ∃ m, n = m + 1 := ⟨n - 1, by omega⟩
  have a := V_le m (pth_all (m + 1)) hn
  have b := pth_nonneg ok (V_pth m (Nat.le_refl _) hn)
  omega
theorem V_nonneg {r : List (Int × Int)} (ok : RoadOk r) {k n : Nat} (hk : 1 ≤ k) (h : k ≤ n) (hn : n ≤ r.length) : 0 ≤ V r k n := by
  obtain ⟨m, rfl⟩ : ∃ m, k = m + 1 := ⟨k - 1, by omega⟩
  exact pth_nonneg ok (V_pth m h hn)
/-- falls grow less -/
theorem V_falls {r : List (Int × Int)} (ok : RoadOk r) {n : Nat} (hn : n ≤ r.length) {a : Nat} (ha : 1 ≤ a) : ∀ (d : Nat), a + d + 1 ≤ n → V r (a + d) n - V r (a + d + 1) n ≤ V r a n - V r (a + 1) n
  | 0, _ => Int.le_refl _
  | d + 1, h => by
    have ih := V_falls ok hn ha d (by omega)
    obtain ⟨k, hk⟩ : ∃ k, a + d = k + 1 := ⟨a + d - 1, by omega⟩
    have b := V_bend ok (k := k) hn (by omega)
    have e1 : a + (d + 1) = k + 2 := by omega
    rw [e1]
    have e2 : k + 2 + 1 = k + 3 := rfl
    rw [hk] at ih
    have e3 : k + 1 + 1 = k + 2 := rfl
    rw [e3] at ih
    rw [e2]
    omega
/-- the fee that keeps so many posts: what one post more saves -/
def feeOf (r : List (Int × Int)) (many : Nat) : Int := if many < r.length then V r many r.length - V r (many + 1) r.length else 0
theorem fee_up {r : List (Int × Int)} (ok : RoadOk r) {m : Nat} (hm : 1 ≤ m) (hmn : m < r.length) : ∀ d : Nat, m + d ≤ r.length → V r m r.length ≤ V r (m + d) r.length + (d : Int) * feeOf r m
  | 0, _ => by simp
  | d + 1, h => by
    have ih := fee_up ok hm hmn d (by omega)
    have f := V_falls ok (Nat.le_refl _) hm d (by omega)
    have e : feeOf r m = V r m r.length - V r (m + 1) r.length := by unfold feeOf; rw [if_pos hmn]
    rw [← e] at f
    have e2 : ((d + 1 : Nat) : Int) * feeOf r m = (d : Int) * feeOf r m + feeOf r m := by rw [Int.natCast_add, Int.add_mul]; simp
    rw [e2]
    have e3 : m + (d + 1) = m + d + 1 := rfl
    rw [e3]
    omega
theorem fee_dn {r : List (Int × Int)} (ok : RoadOk r) {m : Nat} (hmn : m ≤ r.length) : ∀ d : Nat, d < m → V r m r.length + (d : Int) * feeOf r m ≤ V r (m - d) r.length
  | 0, _ => by simp
  | d + 1, h => by
    have ih := fee_dn ok hmn d (by omega)
    have e2 : ((d + 1 : Nat) : Int) * feeOf r m = (d : Int) * feeOf r m + feeOf r m := by rw [Int.natCast_add, Int.add_mul]; simp
    rw [e2]
    have e3 : m - d = m - (d + 1) + 1 := by omega
    rw [e3] at ih
    have key : feeOf r m ≤ V r (m - (d + 1)) r.length - V r (m - (d + 1) + 1) r.length := by
      unfold feeOf
      split
      · rename_i hlt
        have f := V_falls ok (Nat.le_refl r.length) (a := m - (d + 1)) (by omega) (d + 1) (by omega)
        have e4 : m - (d + 1) + (d + 1) = m := by omega
        rw [e4] at f
        exact f
      · have hm : m = r.length := by omega
        -- the fall ahead is no less than the last one, and that is no less than nought
        have f := V_falls ok (Nat.le_refl r.length) (a := m - (d + 1)) (by omega) d (by omega)
        have e4 : m - (d + 1) + d + 1 = m := by omega
        have e5 : m - (d + 1) + d = m - 1 := by omega
        rw [e4, e5, hm, V_all ok (by omega) (Nat.le_refl _)] at f
        have g := V_nonneg ok (k := r.length - 1) (n := r.length) (by omega) (by omega) (Nat.le_refl _)
        rw [hm]
        omega
    omega
/-- so many posts are the best ones with the fee -/
theorem fee_best {r : List (Int × Int)} (ok : RoadOk r) {m k : Nat} (hm : 1 ≤ m) (hmn : m ≤ r.length) (hk : 1 ≤ k) (hkn : k ≤ r.length) : V r m r.length + (m : Int) * feeOf r m ≤ V r k r.length + (k : Int) * feeOf r m := by
  by_cases h : m ≤ k
  · by_cases z : m = k
    · subst z; exact Int.le_refl _
    · have a := fee_up ok hm (show m < r.length by omega) (k - m) (by omega)
      have e : m + (k - m) = k := by omega
      rw [e] at a
      have e2 : ((k - m : Nat) : Int) = (k : Int) - (m : Int) := by omega
      rw [e2, Int.sub_mul] at a
      omega
  · have a := fee_dn ok hmn (m - k) (by omega)
    have e : m - (m - k) = k := by omega
    rw [e] at a
    have e2 : ((m - k : Nat) : Int) = (m : Int) - (k : Int) := by omega
    rw [e2, Int.sub_mul] at a
    omega
end Ph

set_option Elab.async false
set_option linter.all false
set_option maxRecDepth 100000
set_option maxHeartbeats 2000000
namespace Ph
/-! ### posts of stretches -/
/-- stretches and their middles -/
inductive Cut (r : List (Int × Int)) : Nat → Nat → Int → List Nat → Prop where
  | zero : Cut r 0 0 0 []
  | go {k f e : Nat} {c : Int} {ps : List Nat} : Cut r k f c ps → f < e → Cut r (k + 1) e (c + wv r f e) (ps ++ [mid r f e])
theorem Cut.pth {r : List (Int × Int)} : ∀ {k e : Nat} {c : Int} {ps : List Nat}, Cut r k e c ps → Pth r k e c
  | _, _, _, _, .zero => .zero
  | _, _, _, _, .go p h => .go p.pth h
/-- rising posts, all ahead of e -/
inductive Ris : Nat → List Nat → Prop where
  | nil {e : Nat} : Ris e []
  | snoc {f e p : Nat} {ps : List Nat} : Ris f ps → f ≤ p → p < e → Ris e (ps ++ [p])
theorem Cut.ris {r : List (Int × Int)} : ∀ {k e : Nat} {c : Int} {ps : List Nat}, Cut r k e c ps → Ris e ps ∧ ps.length = k
  | _, _, _, _, .zero => ⟨.nil, rfl⟩
  | _, _, _, _, .go p h => ⟨.snoc p.ris.1 (mid_ge r _ _) (mid_lt r h), by rw [List.length_append, p.ris.2]; rfl⟩
theorem Ris.lt : ∀ {e : Nat} {ps : List Nat}, Ris e ps → ∀ p ∈ ps, p < e
  | _, _, .nil, _, h => nomatch h
  | _, _, .snoc a h1 h2, p, h => by
    rcases List.mem_append.mp h with h | h
    · have := a.lt p h; omega
    · rw [List.mem_singleton.mp h]; exact h2
/-- how far a house is from a post -/
def dst (r : List (Int × Int)) (i p : Nat) : Int := ((xs r i - xs r p).natAbs : Int)
def wy (r : List (Int × Int)) (D : Nat → Int) (e : Nat) : Int := sumTo (fun i => ls r i * D i) e
theorem Cut.up {r : List (Int × Int)} (ok : RoadOk r) {D : Nat → Int} : ∀ {k e : Nat} {c : Int} {ps : List Nat}, Cut r k e c ps → e ≤ r.length → (∀ i, i < e → ∀ p ∈ ps, D i ≤ dst r i p) → wy r D e ≤ c
  | _, _, _, _, .zero, _, _ => Int.le_refl _
  | _, _, _, _, .go (f := f) (e := e) (ps := ps) p h, hn, hD => by
    have ih := p.up ok (D := D) (by omega) fun i hi q hq => hD i (by omega) q (List.mem_append_left _ hq)
    have s : wy r D e - wy r D f ≤ cst r f e (mid r f e) := sumTo_le (Nat.le_of_lt h) fun i h1 h2 => mul_dist (ls_nonneg ok i) (hD i h2 _ (List.mem_append_right _ (List.mem_singleton_self _)))
    have : wv r f e = cst r f e (mid r f e) := rfl
    omega
theorem first_at (P : Nat → Prop) [DecidablePred P] : ∀ (k a : Nat), P (a + k) → ∃ f, a ≤ f ∧ f ≤ a + k ∧ P f ∧ ∀ i, a ≤ i → i < f → ¬ P i
  | 0, a, h => ⟨a, Nat.le_refl _, Nat.le_refl _, h, fun i h1 h2 => by omega⟩
  | k + 1, a, h => by
    by_cases z : P a
    · exact ⟨a, Nat.le_refl _, by omega, z, fun i h1 h2 => by omega⟩
    · obtain ⟨f, h1, h2, h3, h4⟩ := first_at P k (a + 1) (by have : a + 1 + k = a + (k + 1) := by omega
                                                             rw [this]; exact h)
      refine ⟨f, by omega, by omega, h3, fun i a1 a2 => ?_⟩
      by_cases e : i = a
      · rw [e]; exact z
      · exact h4 i (by omega) a2
/-- D is how far the nearest post is -/
def IsD (r : List (Int × Int)) (ps : List Nat) (e : Nat) (D : Nat → Int) : Prop := ∀ i, i < e → (∃ p ∈ ps, D i = dst r i p) ∧ ∀ p ∈ ps, D i ≤ dst r i p
theorem isD_down {r : List (Int × Int)} (ok : RoadOk r) {D : Nat → Int} : ∀ (n : Nat) {e : Nat} {ps : List Nat}, Ris e ps → ps.length = n + 1 → e ≤ r.length → IsD r ps e D → ∃ c, Pth r (n + 1) e c ∧ c ≤ wy r D e := by
  intro n
  induction n with
  | zero =>
    intro e ps ri hl hn hD
    cases ri with
    | nil => cases hl
    | @snoc f0 _ p qs ri h1 h2 =>
      have hq : qs = [] := by
        rw [List.length_append] at hl
        exact List.length_eq_zero_iff.mp (by simp at hl; simpa using hl)
      subst hq
      refine ⟨_, (Pth.go .zero (show 0 < e by omega)), ?_⟩
      have a := wv_le ok (f := 0) (e := e) (p := p) (by omega) h2 hn
      have b : wy r D e - wy r D 0 = cst r 0 e p := by
        refine Int.le_antisymm (sumTo_le (Nat.zero_le _) fun i _ hi => mul_dist (ls_nonneg ok i) ((hD i hi).2 p (by simp))) (sumTo_le (Nat.zero_le _) fun i _ hi => mul_dist (ls_nonneg ok i) ?_)
        obtain ⟨⟨q, hq, e1⟩, _⟩ := hD i hi
        simp at hq
        rw [e1, hq]
        exact Int.le_refl _
      have z : wy r D 0 = 0 := rfl
      omega
  | succ n ih =>
    intro e ps ri hl hn hD
    cases ri with
    | nil => cases hl
    | @snoc f0 _ p qs ri h1 h2 =>
      have hql : qs.length = n + 1 := by
        rw [List.length_append] at hl
        simpa using hl
      cases ri with
      | nil => cases hql
      | @snoc f1 _ p' rs ri2 k1 k2 =>
        have hle : ∀ q ∈ rs ++ [p'], q ≤ p' := by
          intro q hq
          rcases List.mem_append.mp hq with z | z
          · have := ri2.lt q z
            omega
          · rw [List.mem_singleton.mp z]
            exact Nat.le_refl _
        have hxp : xs r p' < xs r p := xs_lt ok (by omega) (by omega)
        obtain ⟨f, g1, g2, f3, f4⟩ := first_at (fun i => 2 * xs r i ≥ xs r p' + xs r p) (p - (p' + 1)) (p' + 1) (by
          have e1 : p' + 1 + (p - (p' + 1)) = p := by omega
          rw [e1]; omega)
        -- behind f the last post is the nearest
        have far : ∀ i, f ≤ i → i < e → ∀ q ∈ rs ++ [p'], dst r i p ≤ dst r i q := by
          intro i a b q hq
          have x1 := xs_le ok a (by omega)
          have x2 := xs_le ok (hle q hq) (by omega)
          have x3 := xs_lt ok (show p' < i by omega) (by omega)
          unfold dst
          omega
        -- ahead of f it is not needed
        have near : ∀ i, i < f → dst r i p' ≤ dst r i p := by
          intro i a
          unfold dst
          by_cases z : i ≤ p'
          · have x1 := xs_le ok z (by omega)
            omega
          · have := f4 i (by omega) a
            have x1 := xs_lt ok (show p' < i by omega) (by omega)
            omega
        have hD1 : IsD r (rs ++ [p']) f D := by
          intro i hi
          obtain ⟨⟨q, hq, e1⟩, h4⟩ := hD i (by omega)
          refine ⟨?_, fun q hq => h4 q (List.mem_append_left _ hq)⟩
          rcases List.mem_append.mp hq with z | z
          · exact ⟨q, z, e1⟩
          · rw [List.mem_singleton.mp z] at e1
            refine ⟨p', by simp, ?_⟩
            have a := near i hi
            have b := h4 p' (by simp)
            omega
        obtain ⟨c, c1, c2⟩ := ih (.snoc ri2 k1 (show p' < f by omega)) hql (by omega) hD1
        refine ⟨_, Pth.go c1 (show f < e by omega), ?_⟩
        have a := wv_le ok (f := f) (e := e) (p := p) (by omega) h2 hn
        have b : cst r f e p ≤ wy r D e - wy r D f := by
          refine sumTo_le (show f ≤ e by omega) fun i x y => mul_dist (ls_nonneg ok i) ?_
          obtain ⟨⟨q, hq, e1⟩, _⟩ := hD i y
          rcases List.mem_append.mp hq with z | z
          · have := far i x y q z
            unfold dst at this e1
            omega
          · rw [List.mem_singleton.mp z] at e1
            unfold dst at e1
            omega
        omega
/-- posts by stretches have the least way of so many posts, when the stretches have -/
theorem way_least {r : List (Int × Int)} (ok : RoadOk r) {D : Nat → Int} {k : Nat} {c : Int} {ps : List Nat} (hc : Cut r (k + 1) r.length c ps) (hm : ∀ c', Pth r (k + 1) r.length c' → c ≤ c') (hD : IsD r ps r.length D) : wy r D r.length = c := by
  have a := hc.up ok (Nat.le_refl _) fun i hi p hp => (hD i hi).2 p hp
  obtain ⟨c', h1, h2⟩ := isD_down ok k hc.ris.1 hc.ris.2 (Nat.le_refl _) hD
  have := hm c' h1
  omega
/-! ### the posts of the layers -/
def pb (r : List (Int × Int)) : Nat → Nat → List Nat
  | 0, _ => []
  | k + 1, e => pb r k (ag r (k + 1) e) ++ [mid r (ag r (k + 1) e) e]
theorem pb_cut {r : List (Int × Int)} : ∀ (k : Nat) {e : Nat}, k + 1 ≤ e → e ≤ r.length → Cut r (k + 1) e (V r (k + 1) e) (pb r (k + 1) e) := by
  intro k
  induction k with
  | zero =>
    intro e h h2
    have hv := V_one h h2
    have ha : ag r 1 e = 0 := by
      unfold ag
      show ((lay r 0).getD (e - 1) default).2.toNat = 0
      rw [hv.2]; rfl
    have := Cut.go (r := r) (e := e) .zero (show 0 < e by omega)
    rw [Int.zero_add, ← hv.1] at this
    show Cut r 1 e _ (pb r 0 (ag r 1 e) ++ [mid r (ag r 1 e) e])
    rw [ha]
    exact this
  | succ k ih =>
    intro e h h2
    obtain ⟨⟨f, a, b, c, d⟩, _⟩ := V_step (r := r) (k := k + 1) (e := e) (by omega) (by omega) h2
    have ha : ag r (k + 2) e = f := by
      unfold ag
      show ((lay r (k + 1)).getD (e - 1) default).2.toNat = f
      rw [c]; simp
    have := Cut.go (ih a (by omega)) b
    rw [← d] at this
    show Cut r (k + 2) e _ (pb r (k + 1) (ag r (k + 2) e) ++ [mid r (ag r (k + 2) e) e])
    rw [ha]
    exact this
theorem pb_way {r : List (Int × Int)} (ok : RoadOk r) {D : Nat → Int} {k : Nat} (hk : 1 ≤ k) (hn : k ≤ r.length) (hD : IsD r (pb r k r.length) r.length D) : wy r D r.length = V r k r.length := by
  obtain ⟨m, rfl⟩ : ∃ m, k = m + 1 := ⟨k - 1, by omega⟩
  exact way_least ok (pb_cut m hn (Nat.le_refl _)) (fun c h => V_le m h (Nat.le_refl _)) hD
/-! ### bounds -/
def ledC (r : List (Int × Int)) (found : List (Int × Int)) (e : Nat) : List (Int × Int) := (List.range e).map fun f => ((found.getD f default).1 + wv r f e, (f : Int))
def ledStep (r : List (Int × Int)) (fee : Int) (found : List (Int × Int)) (e : Nat) : Int × Int := ((minPD (0, 0) (ledC r found e)).1 + fee, (minPD (0, 0) (ledC r found e)).2)
def ledL (r : List (Int × Int)) (fee : Int) : Nat → List (Int × Int)
  | 0 => [(0, 0)]
  | e + 1 => ledL r fee e ++ [ledStep r fee (ledL r fee e) (e + 1)]
theorem ledL_len (r : List (Int × Int)) (fee : Int) : ∀ e : Nat, (ledL r fee e).length = e + 1
  | 0 => rfl
  | e + 1 => by rw [ledL, List.length_append, ledL_len r fee e]; rfl
def bd (r : List (Int × Int)) (fee : Int) (e : Nat) : Int := ((ledL r fee e).getD e default).1
def bg (r : List (Int × Int)) (fee : Int) (e : Nat) : Nat := ((ledL r fee e).getD e default).2.toNat
theorem ledL_get (r : List (Int × Int)) (fee : Int) {e : Nat} : ∀ {m : Nat}, e ≤ m → (ledL r fee m).getD e default = (ledL r fee e).getD e default
  | 0, h => by have : e = 0 := by omega
               rw [this]
  | m + 1, h => by
    by_cases z : e = m + 1
    · rw [z]
    · have ih := ledL_get r fee (e := e) (m := m) (by omega)
      rw [← ih, ledL, List.getD_eq_getElem?_getD, List.getElem?_append_left (by rw [ledL_len]; omega), ← List.getD_eq_getElem?_getD]
theorem ledL_last (r : List (Int × Int)) (fee : Int) (e : Nat) : (ledL r fee (e + 1)).getD (e + 1) default = ledStep r fee (ledL r fee e) (e + 1) := by
  rw [ledL, List.getD_eq_getElem?_getD, List.getElem?_append_right (by rw [ledL_len]; omega), ledL_len]
  simp
theorem bd_zero (r : List (Int × Int)) (fee : Int) : bd r fee 0 = 0 := rfl
theorem bd_step (r : List (Int × Int)) (fee : Int) {e : Nat} (h : 1 ≤ e) : (∃ f, f < e ∧ bg r fee e = f ∧ bd r fee e = bd r fee f + wv r f e + fee ∧ (ledL r fee e).getD e default = (bd r fee e, (f : Int))) ∧ ∀ f, f < e → bd r fee e ≤ bd r fee f + wv r f e + fee := by
  obtain ⟨m, rfl⟩ : ∃ m, e = m + 1 := ⟨e - 1, by omega⟩
  have hg := ledL_last r fee m
  have hne : ledC r (ledL r fee m) (m + 1) ≠ [] := by
    intro z
    have : (ledC r (ledL r fee m) (m + 1)).length = m + 1 := by unfold ledC; rw [List.length_map, List.length_range]
    rw [z] at this
    cases this
  obtain ⟨m1, m2⟩ := minPD_mem (z := (0, 0)) hne
  have mem : ∀ f, f < m + 1 → (bd r fee f + wv r f (m + 1), (f : Int)) ∈ ledC r (ledL r fee m) (m + 1) := fun f a => by
    refine List.mem_map.mpr ⟨f, List.mem_range.mpr a, ?_⟩
    unfold bd
    rw [ledL_get r fee (show f ≤ m by omega)]
  refine ⟨?_, fun f a => ?_⟩
  · obtain ⟨f, hf, he⟩ := List.mem_map.mp m1
    have hf := List.mem_range.mp hf
    rw [ledL_get r fee (show f ≤ m by omega)] at he
    have e1 : (ledL r fee (m + 1)).getD (m + 1) default = (bd r fee f + wv r f (m + 1) + fee, (f : Int)) := by
      rw [hg]; unfold ledStep; rw [← he]; rfl
    refine ⟨f, hf, ?_, ?_, ?_⟩
    · unfold bg; rw [e1]; simp
    · show ((ledL r fee (m + 1)).getD (m + 1) default).1 = _
      rw [e1]
    · rw [e1]
      show _ = (((ledL r fee (m + 1)).getD (m + 1) default).1, (f : Int))
      rw [e1]
  · show ((ledL r fee (m + 1)).getD (m + 1) default).1 ≤ _
    rw [hg]
    have := m2 _ (mem f a)
    show (minPD (0, 0) (ledC r (ledL r fee m) (m + 1))).1 + fee ≤ _
    simp only at this
    omega
theorem bd_le {r : List (Int × Int)} {fee : Int} : ∀ {k e : Nat} {c : Int}, Pth r k e c → bd r fee e ≤ c + (k : Int) * fee
  | _, _, _, .zero => by rw [bd_zero]; simp
  | _, _, _, .go (k := k) (f := f) (e := e) p h => by
    have ih := bd_le (fee := fee) p
    have a := (bd_step r fee (e := e) (by omega)).2 f h
    have e2 : ((k + 1 : Nat) : Int) * fee = (k : Int) * fee + fee := by rw [Int.natCast_add, Int.add_mul]; simp
    rw [e2]
    omega
/-- the posts that the bounds come by -/
def qb (r : List (Int × Int)) (fee : Int) (e : Nat) : List Nat :=
  if h : 0 < e ∧ bg r fee e < e then qb r fee (bg r fee e) ++ [mid r (bg r fee e) e] else []
termination_by e
decreasing_by exact h.2
theorem qb_cut {r : List (Int × Int)} {fee : Int} (n : Nat) : ∀ e, e ≤ n → ∃ k c, Cut r k e c (qb r fee e) ∧ bd r fee e = c + (k : Int) * fee := by
  induction n with
  | zero =>
    intro e h
    have : e = 0 := by omega
    subst this
    refine ⟨0, 0, ?_, by rw [bd_zero]; simp⟩
    rw [qb, dif_neg (by omega)]
    exact .zero
  | succ n ih =>
    intro e h
    by_cases z : e = 0
    · exact ih e (by omega)
    · obtain ⟨⟨f, h1, h2, h3, _⟩, _⟩ := bd_step r fee (e := e) (by omega)
      obtain ⟨k, c, a, b⟩ := ih f (by omega)
      refine ⟨k + 1, c + wv r f e, ?_, ?_⟩
      · rw [qb, dif_pos ⟨by omega, by omega⟩, h2]
        exact .go a h1
      · have e2 : ((k + 1 : Nat) : Int) * fee = (k : Int) * fee + fee := by rw [Int.natCast_add, Int.add_mul]; simp
        rw [e2, h3, b]
        omega
/-- the bounds with the fee of so many posts end at their way and their fees -/
theorem bd_best {r : List (Int × Int)} (ok : RoadOk r) {m : Nat} (hm : 1 ≤ m) (hmn : m ≤ r.length) : bd r (feeOf r m) r.length = V r m r.length + (m : Int) * feeOf r m := by
  refine Int.le_antisymm ?_ ?_
  · obtain ⟨k, rfl⟩ : ∃ k, m = k + 1 := ⟨m - 1, by omega⟩
    exact bd_le (V_pth k hmn (Nat.le_refl _))
  · obtain ⟨k, c, a, b⟩ := qb_cut (r := r) (fee := feeOf r m) r.length r.length (Nat.le_refl _)
    rw [b]
    have hk : 1 ≤ k := by
      cases k with
      | zero => have := a.pth.z; omega
      | succ k => omega
    obtain ⟨j, rfl⟩ : ∃ j, k = j + 1 := ⟨k - 1, by omega⟩
    have c1 := V_le j a.pth (Nat.le_refl _)
    have c2 := fee_best ok hm hmn hk a.pth.le
    omega
/-- .. and with any fee at the way of the posts they come by -/
theorem qb_way {r : List (Int × Int)} (ok : RoadOk r) {fee : Int} {D : Nat → Int} (hp : 0 < r.length) (hD : IsD r (qb r fee r.length) r.length D) : bd r fee r.length = wy r D r.length + ((qb r fee r.length).length : Int) * fee := by
  obtain ⟨k, c, a, b⟩ := qb_cut (r := r) (fee := fee) r.length r.length (Nat.le_refl _)
  have hk : 1 ≤ k := by
    cases k with
    | zero => have := a.pth.z; omega
    | succ k => omega
  obtain ⟨j, rfl⟩ : ∃ j, k = j + 1 := ⟨k - 1, by omega⟩
  have w := way_least ok a (fun c' h => by have := bd_le (fee := fee) h; omega) hD
  rw [a.ris.2, b, w]
end Ph

set_option Elab.async false
set_option linter.all false
set_option maxRecDepth 100000
set_option maxHeartbeats 2000000
namespace Ph
open PySem PySem.Spec L2
/-! ### layers, posts_by, led (k03 ..) -/
def layT (r : List (Int × Int)) (m : Nat) : List (List (Int × Int)) := (List.range m).map (lay r)
theorem layT_len (r : List (Int × Int)) (m : Nat) : (layT r m).length = m := by unfold layT; rw [List.length_map, List.length_range]
theorem layT_get (r : List (Int × Int)) {m t : Nat} (h : t < m) : (layT r m).getD t default = lay r t := by
  unfold layT
  simp [List.getD_eq_getElem?_getD, h]
def nats (ps : List Nat) : List Int := ps.map fun (p : Nat) => (p : Int)
theorem ag_spec (r : List (Int × Int)) {k e : Nat} (h1 : 1 ≤ k) (h2 : k ≤ e) (h3 : e ≤ r.length) : k - 1 ≤ ag r k e ∧ ag r k e < e ∧ ((lay r (k - 1)).getD (e - 1) default).2 = (ag r k e : Int) := by
  by_cases z : k = 1
  · subst z
    have hv := (V_one (r := r) h2 h3).2
    have ha : ag r 1 e = 0 := by
      unfold ag
      show ((lay r 0).getD (e - 1) default).2.toNat = 0
      rw [hv]; rfl
    rw [ha]
    refine ⟨by omega, by omega, ?_⟩
    show ((lay r 0).getD (e - 1) default).2 = _
    rw [hv]; rfl
  · obtain ⟨j, rfl⟩ : ∃ j, k = j + 1 := ⟨k - 1, by omega⟩
    obtain ⟨⟨f, a, b, c, d⟩, _⟩ := V_step (r := r) (k := j) (e := e) (by omega) (by omega) h3
    have ha : ag r (j + 1) e = f := by
      unfold ag
      show ((lay r j).getD (e - 1) default).2.toNat = f
      rw [c]; simp
    rw [ha]
    refine ⟨by omega, by omega, ?_⟩
    show ((lay r j).getD (e - 1) default).2 = _
    rw [c]
def R_layers : List PyData → List PyData → Prop := fun ds d => ∃ (r : List (Int × Int)) (m : Nat), ds = [eRoad r, eTab (midT r), .int (m : Int)] ∧ r ≠ [] ∧ 1 ≤ m ∧ m ≤ r.length ∧ RoadOk r ∧ d = (layT r m).map eRow
def R_posts_by : List PyData → List PyData → Prop := fun ds d => ∃ (r : List (Int × Int)) (m k : Nat), ds = [eRoad r, eTab (midT r), eTab (layT r m), .int (k : Int)] ∧ 1 ≤ k ∧ k ≤ m ∧ m ≤ r.length ∧ RoadOk r ∧ d = (nats (pb r k r.length)).map .int
def R_led : List PyData → List PyData → Prop := fun ds d => ∃ (r : List (Int × Int)) (fee : Int), ds = [eRoad r, eTab (midT r), .int fee] ∧ RoadOk r ∧ d = (ledL r fee r.length).map eHs
def R_asked_many : List PyData → PyData → Prop := fun ds d => ∃ (r : List (Int × Int)) (m : Nat), ds = [eRoad r, .int (m : Int)] ∧ 1 ≤ m ∧ m ≤ r.length ∧ d = .none
def sp_layers (K : PySem.W.Frag) : Sp := PrN K R_layers
def sp_posts_by (K : PySem.W.Frag) : Sp := PrN K R_posts_by
def sp_led (K : PySem.W.Frag) : Sp := PrN K R_led
def sp_asked_many (K : PySem.W.Frag) : Sp := Pr K R_asked_many
theorem len_layers : ∀ ds d, R_layers ds d → ds.length = 3 := by rintro _ _ ⟨_, _, rfl, _⟩; rfl
theorem len_posts_by : ∀ ds d, R_posts_by ds d → ds.length = 4 := by rintro _ _ ⟨_, _, _, rfl, _⟩; rfl
theorem len_led : ∀ ds d, R_led ds d → ds.length = 3 := by rintro _ _ ⟨_, _, rfl, _⟩; rfl
theorem len_asked_many : ∀ ds d, R_asked_many ds d → ds.length = 2 := by rintro _ _ ⟨_, _, rfl, _⟩; rfl
end Ph

set_option Elab.async false
set_option linter.all false
set_option maxRecDepth 100000
namespace Ph
open PySem PySem.Spec L2
def t_layers (K : PySem.W.Frag) : TS := (tSeq (tAsg (tCB (cLen K) (tCons (tVar 0) tNil)) (gName 3))
  (tSeq (tAsg (tLst (tCons (tLc (iRng2 (tCons (tC (.int 1)) (tCons (tOp oAdd (tVar 3) (tC (.int 1))) tNil))) (gName 5) tYes (tTup (tCons (tOp (oIxT K) (tOp (oIx K) (tOp (oIx K) (tVar 1) (tC (.int 0))) (tOp oSub (tVar 5) (tC (.int 1)))) (tC (.int 1))) (tCons (tC (.int 0)) tNil))) [5]) tNil)) (gName 4))
  (tSeq (tFor (iRng2 (tCons (tC (.int 1)) (tCons (tVar 2) tNil))) (gName 6)
   (tSeq (tAsg (tOp (oIx K) (tVar 4) (tUn oNeg (tC (.int 1)))) (gName 7))
  (tSeq (tAsg (tLst tNil) (gName 8))
  (tSeq (tFor (iRng2 (tCons (tC (.int 1)) (tCons (tOp oAdd (tVar 3) (tC (.int 1))) tNil))) (gName 5)
   (tSeq (tAsg (tLc (iRng2 (tCons (tVar 6) (tCons (tVar 5) tNil))) (gName 10) tYes (tTup (tCons (tOp oAdd (tOp (oIxT K) (tOp (oIx K) (tVar 7) (tOp oSub (tVar 10) (tC (.int 1)))) (tC (.int 0))) (tOp (oIxT K) (tOp (oIx K) (tOp (oIx K) (tVar 1) (tVar 10)) (tOp oSub (tOp oSub (tVar 5) (tVar 10)) (tC (.int 1)))) (tC (.int 1)))) (tCons (tVar 10) tNil))) [10]) (gName 9))
  (tSeq (tDrop (tBM K "list" rAppend (tVar 8) (tCons (tCKw (cMinTD K) (tCons (tVar 9) tNil) (tCons (tTup (tCons (tC (.int 0)) (tCons (tC (.int 0)) tNil))) tNil)) tNil)))
  tNext)))
  (tSeq (tDrop (tBM K "list" rAppend (tVar 4) (tCons (tVar 8) tNil)))
  tNext)))))
  (tSeq (tRet (tVar 4))
  tNext))))
def t_posts_by (K : PySem.W.Frag) : TS := (tSeq (tAsg (tLst tNil) (gName 4))
  (tSeq (tAsg (tCB (cLen K) (tCons (tVar 0) tNil)) (gName 5))
  (tSeq (tFor (iRevR (tRg1 (tVar 3))) (gName 6)
   (tSeq (tAsg (tOp (oIxT K) (tOp (oIx K) (tOp (oIx K) (tVar 2) (tVar 6)) (tOp oSub (tVar 5) (tC (.int 1)))) (tC (.int 1))) (gName 7))
  (tSeq (tDrop (tBM K "list" rAppend (tVar 4) (tCons (tOp (oIxT K) (tOp (oIx K) (tOp (oIx K) (tVar 1) (tVar 7)) (tOp oSub (tOp oSub (tVar 5) (tVar 7)) (tC (.int 1)))) (tC (.int 0))) tNil)))
  (tSeq (tAsg (tVar 7) (gName 5))
  tNext))))
  (tSeq (tRet (tRevL K (tVar 4)))
  tNext))))
def t_led (K : PySem.W.Frag) : TS := (tSeq (tAsg (tLst (tCons (tTup (tCons (tC (.int 0)) (tCons (tC (.int 0)) tNil))) tNil)) (gName 3))
  (tSeq (tFor (iRng2 (tCons (tC (.int 1)) (tCons (tOp oAdd (tCB (cLen K) (tCons (tVar 0) tNil)) (tC (.int 1))) tNil))) (gName 4)
   (tSeq (tAsg (tLc (iRng1 (tCons (tVar 4) tNil)) (gName 7) tYes (tTup (tCons (tOp oAdd (tOp (oIxT K) (tOp (oIx K) (tVar 3) (tVar 7)) (tC (.int 0))) (tOp (oIxT K) (tOp (oIx K) (tOp (oIx K) (tVar 1) (tVar 7)) (tOp oSub (tOp oSub (tVar 4) (tVar 7)) (tC (.int 1)))) (tC (.int 1)))) (tCons (tVar 7) tNil))) [7]) (gName 5))
  (tSeq (tAsg (tCB (cMinT K) (tCons (tVar 5) tNil)) (gTup K 2 (gCons (gName 6) (gCons (gName 7) gNil))))
  (tSeq (tDrop (tBM K "list" rAppend (tVar 3) (tCons (tTup (tCons (tOp oAdd (tVar 6) (tVar 2)) (tCons (tVar 7) tNil))) tNil)))
  tNext))))
  (tSeq (tRet (tVar 3))
  tNext)))
def t_asked_many (K : PySem.W.Frag) : TS := (tSeq (tIfS (tOr (tNot (tB (tCall (sp_is_number K) [] E0 (tCons (tVar 1) tNil)))) (tNot (tTest (tChain oLe oLe (tC (.int 1)) (tVar 1) (tCB (cLen K) (tCons (tVar 0) tNil))))))
   (tSeq tNever
  tNext) tNext)
  tNext)
end Ph

set_option Elab.async false
set_option linter.all false
set_option maxRecDepth 100000
set_option maxHeartbeats 2000000
namespace Ph
open PySem PySem.Spec L2
section
variable {K : PySem.W.Frag} {δ : List Sl} {ta tb tc td te tj : TE} {d e f : PyData}
local macro_rules | `(tactic| walk_at "wk") => `(tactic| first | exact WkL.nil | (refine' WkL.same ?_; walk_at "wk") | (refine' WkL.drop ?_; walk_at "wk"))
theorem run_asked_many : ∀ ds d, R_asked_many ds d → ∀ B D, RtD K B D d → (d = .none → ∀ δ, Nx K B D δ) → RunS K B (t_asked_many K) D (ds.map Sl.d ++ List.replicate (2 - ds.length) Sl.no) := by
  rintro _ _ ⟨r, m, rfl, h1, h2, rfl⟩ B D k kn
  show RunS K B (t_asked_many K) D [.d (eRoad r), .d (.int m)]
  refine r_skip (evt_is (evt_or (evt_not (evt_B (ev_is_number (evd_at rfl)))) fun _ => evt_not (evt_test (evd_lele evd_int (evd_at rfl) (evd_lenm (en := eHs) (evl_d (evd_at rfl)))))) ?_) (r_next (kn rfl _))
  rw [decide_eq_true (show (1 : Int) ≤ m by omega), decide_eq_true (show (m : Int) ≤ r.length by omega)]
  rfl
theorem ev_asked_many {r : List (Int × Int)} {m : Nat} (ha : EvD K ta δ (eRoad r)) (hb : EvD K tb δ (.int (m : Int))) (h1 : 1 ≤ m) (h2 : m ≤ r.length) : EvD K (tCall (sp_asked_many K) [] E0 (tCons ta (tCons tb tNil))) δ .none :=
  evd_call (ea_cons ha (ea_cons hb ea_nil)) ⟨r, m, rfl, h1, h2, rfl⟩
/-- table[first][j] -/
theorem ev_cell {r : List (Int × Int)} {f j : Nat} (ha : EvD K ta δ (eTab (midT r))) (hb : EvD K tb δ (.int (f : Int))) (hj : EvD K tj δ (.int (j : Int))) (h : f + 1 + j ≤ r.length) :
    EvD K (tOp (oIx K) (tOp (oIx K) ta tb) tj) δ (eHs (cell r f j)) := by
  refine evd_is (evd_ixm (xs := rowOf r f) (en := eHs) (evl_d (evd_is (evd_ixm (xs := midT r) (en := eRow) (evl_d ha) hb (by omega) (by rw [midT_len]; omega)) ?_)) hj (by omega) (by rw [rowOf_len]; omega)) ?_
  · rw [Int.toNat_natCast, midT_get r (by omega)]
  · rw [Int.toNat_natCast, rowOf_get r (by omega)]
/-- table[first][end - first - 1] -/
theorem ev_cellE {r : List (Int × Int)} {f e : Nat} {t1 t2 : TE} (ha : EvD K ta δ (eTab (midT r))) (hb : EvD K tb δ (.int (f : Int))) (h1 : EvD K t1 δ (.int (e : Int))) (h2 : EvD K t2 δ (.int (f : Int))) (h : f < e) (hn : e ≤ r.length) :
    EvD K (tOp (oIx K) (tOp (oIx K) ta tb) (tOp oSub (tOp oSub t1 t2) (tC (.int 1)))) δ (eHs (((mid r f e : Nat) : Int), wv r f e)) := by
  have k := ev_cell (j := e - f - 1) ha hb (evd_is (evd_sub (evd_sub h1 h2) evd_int) (show PyData.int ((e : Int) - (f : Int) - 1) = .int ((e - f - 1 : Nat) : Int) by congr 1; omega)) (by omega)
  have e1 : f + 1 + (e - f - 1) = e := by omega
  unfold cell at k
  rw [e1] at k
  exact k
theorem run_layers : ∀ ds d, R_layers ds d → ∀ B D, RtN K B D d → RunS K B (t_layers K) D (ds.map Sl.d ++ List.replicate (11 - ds.length) Sl.no) := by
  rintro _ _ ⟨r, m, rfl, hne, hm1, hm2, ok, rfl⟩ B D k
  show RunS K B (t_layers K) D [.d (eRoad r), .d (eTab (midT r)), .d (.int m), .no, .no, .no, .no, .no, .no, .no, .no]
  have hn := ok.len
  have hp : 0 < r.length := List.length_pos_iff.mpr hne
  refine r_set (evd_lenm (xs := r) (en := eHs) (evl_d (evd_at rfl))) ?_
  dsimp only [List.set_cons_zero, List.set_cons_succ]
  refine r_setN (ds := (layT r 1).map eRow) (evn_is (evn_lst (ea_cons (evd_is (evd_n (evn_lcR2 (a := 1) (b := r.length + 1) (f := fun j => eHs (wv r 0 (j + 1), 0)) (evd_is evd_int rfl) (evd_is (evd_add (evd_at rfl) evd_int) rfl) (by omega) (by omega) fun j hj => ?_)) (show _ = eRow (lay r 0) from ?_)) ea_nil) (by simp)) rfl) fun p => ?_
  · have k := ev_cell (K := K) (δ := (wipeD [.d (eRoad r), .d (eTab (midT r)), .d (.int m), .d (.int (r.length : Int)), .no, .no, .no, .no, .no, .no, .no] [5]).set 5 (.d (.int ((1 + j : Nat) : Int)))) (r := r) (f := 0) (j := j) (evd_at (n := 1) rfl) (evd_int (n := 0)) (evd_is (evd_sub (evd_at (n := 5) rfl) evd_int) (show PyData.int (((1 + j : Nat) : Int) - 1) = .int (j : Int) by congr 1; omega)) (by omega)
    have e1 : 0 + 1 + j = j + 1 := by omega
    have e2 : 1 + j = j + 1 := by omega
    unfold cell at k
    rw [e1] at k
    try rw [e2] at k
    rw [e2]
    exact evd_tup (ea_cons (evd_ixt1 k) (ea_cons evd_int ea_nil)) (by simp)
  · unfold lay eRow
    rw [List.map_map]
    rfl
  dsimp only [List.set_cons_zero, List.set_cons_succ]
  have hr := evi_range2 (K := K) (δ := [.d (eRoad r), .d (eTab (midT r)), .d (.int m), .d (.int (r.length : Int)), .m p ((layT r 1).map eRow), .no, .no, .no, .no, .no, .no]) (evd_int (n := 1)) (evd_at (n := 2) (d := .int m) rfl) (by decide) (by decide) (by omega) (by omega)
  refine r_for hr (fun i δ => δ = [.d (eRoad r), .d (eTab (midT r)), .d (.int m), .d (.int (r.length : Int)), .m p ((layT r (i + 1)).map eRow), .no, .no, .no, .no, .no, .no]) ⟨_, by walk_at "wk", rfl⟩ (fun _ _ _ _ _ _ _ _ _ => trivial) (fun Gb hb i δ' hi hP => ?_) (fun δ' hP => ?_)
  · subst hP
    refine ⟨_, tg_name, ?_⟩
    dsimp only [List.set_cons_zero, List.set_cons_succ]
    refine r_set (d := eRow (lay r i)) (evd_is (evd_ixl (xs := layT r (i + 1)) (en := eRow) (evl_at rfl) (by intro z; have := layT_len r (i + 1); rw [z] at this; cases this)) ?_) ?_
    · rw [layT_len, Nat.add_sub_cancel, layT_get r (Nat.lt_succ_self i)]
    dsimp only [List.set_cons_zero, List.set_cons_succ]
    refine r_setN (ds := ((List.range 0).map fun j => minPD (0, 0) (layC r (lay r i) (i + 1) (j + 1))).map eHs) (evn_lst ea_nil (by simp)) fun q => ?_
    dsimp only [List.set_cons_zero, List.set_cons_succ]
    have hr2 := evi_range2 (K := K) (δ := [.d (eRoad r), .d (eTab (midT r)), .d (.int m), .d (.int (r.length : Int)), .m p ((layT r (i + 1)).map eRow), .no, .d (.int (1 + (i : Int))), .d (eRow (lay r i)), .m q (((List.range 0).map fun j => minPD (0, 0) (layC r (lay r i) (i + 1) (j + 1))).map eHs), .no, .no]) (evd_int (n := 1)) (evd_add (evd_at (n := 3) (d := .int (r.length : Int)) rfl) (evd_int (n := 1))) (by decide) (by decide) (by omega) (by omega)
    have ez : ((r.length : Int) + 1 - 1).toNat = r.length := by omega
    rw [ez] at hr2
    refine r_for (EvI.congr (Y' := fun j => .int ((j + 1 : Nat) : Int)) hr2 (fun j _ => by congr 1; omega)) (fun j δ => δ = [.d (eRoad r), .d (eTab (midT r)), .d (.int m), .d (.int (r.length : Int)), .m p ((layT r (i + 1)).map eRow), .no, .d (.int (1 + (i : Int))), .d (eRow (lay r i)), .m q (((List.range j).map fun j => minPD (0, 0) (layC r (lay r i) (i + 1) (j + 1))).map eHs), .no, .no]) ⟨_, by walk_at "wk", rfl⟩ (fun _ _ _ _ _ _ _ _ _ => trivial) (fun Gb2 hb2 j δ' hj hP => ?_) (fun δ' hP => ?_)
    · subst hP
      refine ⟨_, tg_name, ?_⟩
      dsimp only [List.set_cons_zero, List.set_cons_succ]
      refine r_set (d := eRow (layC r (lay r i) (i + 1) (j + 1))) (evd_is (evd_n (evn_lcR2 (a := i + 1) (b := j + 1) (f := fun k => eHs (((lay r i).getD (i + 1 + k - 1) default).1 + wv r (i + 1 + k) (j + 1), ((i + 1 + k : Nat) : Int))) (evd_is (evd_at rfl) (show PyData.int (1 + (i : Int)) = _ by congr 1; omega)) (evd_at rfl) (by omega) (by omega) fun k hk => ?_)) ?_) ?_
      · refine evd_tup (ea_cons (evd_add (evd_is (evd_ixt0 (evd_ixm (xs := lay r i) (en := eHs) (evl_d (evd_at rfl)) (evd_sub (evd_at rfl) evd_int) (by omega) (by rw [lay_len]; omega))) ?_) (evd_ixt1 (ev_cellE (f := i + 1 + k) (e := j + 1) (evd_at rfl) (evd_at rfl) (evd_at rfl) (evd_at rfl) (by omega) (by omega)))) (ea_cons (evd_at rfl) ea_nil)) (by simp)
        have : (((i + 1 + k : Nat) : Int) - 1).toNat = i + 1 + k - 1 := by omega
        rw [this]
      · unfold layC eRow
        rw [List.map_map]
        rfl
      dsimp only [List.set_cons_zero, List.set_cons_succ]
      refine r_app rfl (evd_minTD (z := (0, 0)) (evl_d (evd_at rfl)) (evd_tup (ea_cons evd_int (ea_cons evd_int ea_nil)) (by simp))) (by rw [List.length_map, List.length_map, List.length_range]; omega) ?_
      dsimp only [List.set_cons_zero, List.set_cons_succ]
      refine r_next (nx_inv ?_ ⟨_, rfl, rfl⟩)
      rw [List.range_succ, List.map_append, List.map_append]
      walk_at "wk"
    · subst hP
      refine r_freeze (i := 8) rfl ?_
      dsimp only [List.set_cons_zero, List.set_cons_succ]
      refine r_app rfl (evd_at (d := eRow (lay r (i + 1))) rfl) (by rw [List.length_map, layT_len]; omega) ?_
      dsimp only [List.set_cons_zero, List.set_cons_succ]
      refine r_next (nx_inv ?_ ⟨_, rfl, rfl⟩)
      have : layT r (i + 1 + 1) = layT r (i + 1) ++ [lay r (i + 1)] := by unfold layT; rw [List.range_succ, List.map_append]; rfl
      rw [this, List.map_append]
      walk_at "wk"
  · subst hP
    have : ((m : Int) - 1).toNat + 1 = m := by omega
    rw [this]
    exact r_retM rfl k
theorem ev_layers {r : List (Int × Int)} {m : Nat} (ha : EvD K ta δ (eRoad r)) (hb : EvD K tb δ (eTab (midT r))) (hc : EvD K tc δ (.int (m : Int))) (hne : r ≠ []) (h1 : 1 ≤ m) (h2 : m ≤ r.length) (ok : RoadOk r) : EvN K (tCall (sp_layers K) [] E0 (tCons ta (tCons tb (tCons tc tNil)))) δ ((layT r m).map eRow) :=
  evn_call (ea_cons ha (ea_cons hb (ea_cons hc ea_nil))) ⟨r, m, rfl, hne, h1, h2, ok, rfl⟩
theorem run_posts_by : ∀ ds d, R_posts_by ds d → ∀ B D, RtN K B D d → RunS K B (t_posts_by K) D (ds.map Sl.d ++ List.replicate (8 - ds.length) Sl.no) := by
  rintro _ _ ⟨r, m, k0, rfl, h1, h2, h3, ok, rfl⟩ B D k
  show RunS K B (t_posts_by K) D [.d (eRoad r), .d (eTab (midT r)), .d (eTab (layT r m)), .d (.int k0), .no, .no, .no, .no]
  have hn := ok.len
  refine r_setN (ds := (nats []).map .int) (evn_lst ea_nil (by simp [nats])) fun p => ?_
  dsimp only [List.set_cons_zero, List.set_cons_succ]
  refine r_set (evd_lenm (xs := r) (en := eHs) (evl_d (evd_at rfl))) ?_
  dsimp only [List.set_cons_zero, List.set_cons_succ]
  have hr := evi_rev (K := K) (δ := [.d (eRoad r), .d (eTab (midT r)), .d (eTab (layT r m)), .d (.int k0), .m p ((nats []).map .int), .d (.int (r.length : Int)), .no, .no]) (evd_at (n := 3) (d := .int k0) rfl) (by omega) (by omega)
  rw [Int.toNat_natCast] at hr
  refine r_for hr (fun i δ => ∃ (e : Nat) (fs : List Nat), k0 - i ≤ e ∧ e ≤ r.length ∧ fs.length = i ∧ pb r k0 r.length = pb r (k0 - i) e ++ fs.reverse ∧ δ = [.d (eRoad r), .d (eTab (midT r)), .d (eTab (layT r m)), .d (.int k0), .m p ((nats fs).map .int), .d (.int (e : Int)), .no, .no]) ⟨_, WkL.refl _, r.length, [], by omega, Nat.le_refl _, rfl, by simp, rfl⟩ (fun _ _ _ _ _ _ _ _ _ => trivial) (fun Gb hb i δ' hi hP => ?_) (fun δ' hP => ?_)
  · obtain ⟨e, fs, e1, e2, e3, e4, rfl⟩ := hP
    refine ⟨_, tg_name, ?_⟩
    dsimp only [List.set_cons_zero, List.set_cons_succ]
    obtain ⟨kk, hkk⟩ : ∃ kk, k0 - i = kk + 1 := ⟨k0 - i - 1, by omega⟩
    obtain ⟨a1, a2, a3⟩ := ag_spec r (k := k0 - i) (e := e) (by omega) e1 e2
    refine r_set (d := .int ((ag r (k0 - i) e : Nat) : Int)) (evd_is (evd_ixt1 (evd_is (evd_ixm (xs := lay r (k0 - i - 1)) (en := eHs) (evl_d (evd_is (evd_ixm (xs := layT r m) (en := eRow) (evl_d (evd_at rfl)) (evd_at rfl) (by omega) (by rw [layT_len]; omega)) ?_)) (evd_sub (evd_at rfl) evd_int) (by omega) (by rw [lay_len]; omega)) rfl)) ?_) ?_
    · have : ((k0 : Int) - 1 - (i : Int)).toNat = k0 - i - 1 := by omega
      rw [this, layT_get r (by omega)]
    · have : ((e : Int) - 1).toNat = e - 1 := by omega
      rw [this, a3]
    dsimp only [List.set_cons_zero, List.set_cons_succ]
    refine r_app rfl (evd_ixt0 (ev_cellE (f := ag r (k0 - i) e) (e := e) (evd_at rfl) (evd_at rfl) (evd_at rfl) (evd_at rfl) a2 e2)) (by simp [nats]; omega) ?_
    dsimp only [List.set_cons_zero, List.set_cons_succ]
    refine r_set (evd_at rfl) ?_
    dsimp only [List.set_cons_zero, List.set_cons_succ]
    refine r_next (nx_inv (δ' := [.d (eRoad r), .d (eTab (midT r)), .d (eTab (layT r m)), .d (.int k0), .m p ((nats (fs ++ [mid r (ag r (k0 - i) e) e])).map .int), .d (.int ((ag r (k0 - i) e : Nat) : Int)), .no, .no]) ?_ ⟨_, rfl, ag r (k0 - i) e, fs ++ [mid r (ag r (k0 - i) e) e], by omega, by omega, by simp; omega, ?_, rfl⟩)
    · unfold nats
      rw [List.map_append, List.map_append]
      walk_at "wk"
    · rw [e4, List.reverse_append]
      have e5 : k0 - (i + 1) = kk := by omega
      rw [e5, hkk]
      show pb r kk (ag r (kk + 1) e) ++ [mid r (ag r (kk + 1) e) e] ++ fs.reverse = _
      simp
  · obtain ⟨e, fs, e1, e2, e3, e4, rfl⟩ := hP
    refine r_retN (evn_is (evn_rev (evl_at rfl)) ?_) k
    rw [e4, Nat.sub_self]
    unfold nats pb
    simp
theorem ev_posts_by {r : List (Int × Int)} {m k : Nat} (ha : EvD K ta δ (eRoad r)) (hb : EvD K tb δ (eTab (midT r))) (hc : EvD K tc δ (eTab (layT r m))) (hd : EvD K td δ (.int (k : Int))) (h1 : 1 ≤ k) (h2 : k ≤ m) (h3 : m ≤ r.length) (ok : RoadOk r) : EvN K (tCall (sp_posts_by K) [] E0 (tCons ta (tCons tb (tCons tc (tCons td tNil))))) δ ((nats (pb r k r.length)).map .int) :=
  evn_call (ea_cons ha (ea_cons hb (ea_cons hc (ea_cons hd ea_nil)))) ⟨r, m, k, rfl, h1, h2, h3, ok, rfl⟩
theorem run_led : ∀ ds d, R_led ds d → ∀ B D, RtN K B D d → RunS K B (t_led K) D (ds.map Sl.d ++ List.replicate (8 - ds.length) Sl.no) := by
  rintro _ _ ⟨r, fee, rfl, ok, rfl⟩ B D k
  show RunS K B (t_led K) D [.d (eRoad r), .d (eTab (midT r)), .d (.int fee), .no, .no, .no, .no, .no]
  have hn := ok.len
  refine r_setN (ds := (ledL r fee 0).map eHs) (evn_lst (ea_cons (evd_tup (ea_cons evd_int (ea_cons evd_int ea_nil)) (by simp)) ea_nil) (by simp [ledL])) fun p => ?_
  dsimp only [List.set_cons_zero, List.set_cons_succ]
  have hr := evi_range2 (K := K) (δ := [.d (eRoad r), .d (eTab (midT r)), .d (.int fee), .m p ((ledL r fee 0).map eHs), .no, .no, .no, .no]) (evd_int (n := 1)) (evd_add (evd_lenm (xs := r) (en := eHs) (evl_d (evd_at (n := 0) rfl))) (evd_int (n := 1))) (by decide) (by decide) (by omega) (by omega)
  have ez : ((r.length : Int) + 1 - 1).toNat = r.length := by omega
  rw [ez] at hr
  refine r_for (EvI.congr (Y' := fun j => .int ((j + 1 : Nat) : Int)) hr (fun j _ => by congr 1; omega)) (fun i δ => δ = [.d (eRoad r), .d (eTab (midT r)), .d (.int fee), .m p ((ledL r fee i).map eHs), .no, .no, .no, .no]) ⟨_, by walk_at "wk", rfl⟩ (fun _ _ _ _ _ _ _ _ _ => trivial) (fun Gb hb i δ' hi hP => ?_) (fun δ' hP => ?_)
  · subst hP
    refine ⟨_, tg_name, ?_⟩
    dsimp only [List.set_cons_zero, List.set_cons_succ]
    have hll := ledL_len r fee i
    refine r_set (d := eRow (ledC r (ledL r fee i) (i + 1))) (evd_is (evd_n (evn_lcR (n := i + 1) (f := fun k => eHs (((ledL r fee i).getD k default).1 + wv r k (i + 1), (k : Int))) (evd_at rfl) (by omega) fun k hk => ?_)) ?_) ?_
    · exact evd_tup (ea_cons (evd_add (evd_ixt0 (evd_ixm (xs := ledL r fee i) (en := eHs) (i := (k : Int)) (evl_at rfl) (evd_at rfl) (by omega) (by omega))) (evd_ixt1 (ev_cellE (f := k) (e := i + 1) (evd_at rfl) (evd_at rfl) (evd_at rfl) (evd_at rfl) (by omega) (by omega)))) (ea_cons (evd_at rfl) ea_nil)) (by simp)
    · unfold ledC eRow
      rw [List.map_map]
      rfl
    dsimp only [List.set_cons_zero, List.set_cons_succ]
    obtain ⟨y, ys, hy⟩ : ∃ y ys, ledC r (ledL r fee i) (i + 1) = y :: ys := by
      unfold ledC
      rw [List.range_succ_eq_map]
      exact ⟨_, _, rfl⟩
    have hmin : minPD (0, 0) (ledC r (ledL r fee i) (i + 1)) = minP y ys := by rw [hy]; rfl
    refine r_setT (d := eHs (minPD (0, 0) (ledC r (ledL r fee i) (i + 1)))) (evd_is (evd_minT (x := y) (xs := ys) (evl_is (evl_d (evd_at rfl)) (by rw [hy]))) (by rw [hmin])) (tg_tup (tgs_cons tg_name (tgs_cons tg_name tgs_nil)) rfl) ?_
    dsimp only [List.set_cons_zero, List.set_cons_succ]
    refine r_app rfl (d := eHs (ledStep r fee (ledL r fee i) (i + 1))) (evd_tup (ea_cons (evd_add (evd_at rfl) (evd_at rfl)) (ea_cons (evd_at rfl) ea_nil)) (by simp)) (by rw [List.length_map]; omega) ?_
    dsimp only [List.set_cons_zero, List.set_cons_succ]
    refine r_next (nx_inv ?_ ⟨_, rfl, rfl⟩)
    rw [ledL, List.map_append]
    walk_at "wk"
  · subst hP
    exact r_retM rfl k
theorem ev_led {r : List (Int × Int)} {fee : Int} (ha : EvD K ta δ (eRoad r)) (hb : EvD K tb δ (eTab (midT r))) (hc : EvD K tc δ (.int fee)) (ok : RoadOk r) : EvN K (tCall (sp_led K) [] E0 (tCons ta (tCons tb (tCons tc tNil)))) δ ((ledL r fee r.length).map eHs) :=
  evn_call (ea_cons ha (ea_cons hb (ea_cons hc ea_nil))) ⟨r, fee, rfl, ok, rfl⟩
end
end Ph

set_option Elab.async false
set_option linter.all false
set_option maxRecDepth 100000
set_option maxHeartbeats 2000000
namespace Ph
theorem nats_len (qs : List Nat) : (nats qs).length = qs.length := by unfold nats; rw [List.length_map]
theorem nats_get (qs : List Nat) {i : Nat} (h : i < qs.length) : (nats qs).getD i 0 = ((qs.getD i 0 : Nat) : Int) := by
  unfold nats
  simp [List.getD_eq_getElem?_getD, h]
theorem near_min {r : List (Int × Int)} {ps : List Int} (ok : RoadOk r) (po : PostsOk r.length ps) (i : Nat) (hi : i < r.length) :
    ∃ a, a < ps.length ∧ (nearL r ps).getD i default = ps.getD a 0 ∧ ∀ b, b < ps.length → ((r.getD i default).1 - pl r (ps.getD a 0)).natAbs ≤ ((r.getD i default).1 - pl r (ps.getD b 0)).natAbs := by
  obtain ⟨a, _, _, h1, h2, h3, h4, h5⟩ := near_at ok po i hi
  refine ⟨a, h1, h2, fun b hb => ?_⟩
  have mono : ∀ c d, c ≤ d → d < ps.length → pl r (ps.getD c 0) ≤ pl r (ps.getD d 0) := fun c d hcd hd => by
    by_cases z : c = d
    · rw [z]; exact Int.le_refl _
    · have b1 := po.bnd c (by omega)
      have b2 := po.bnd d hd
      have b3 := po.rise c d (by omega) hd
      exact Int.le_of_lt (pl_rise ok (by omega) (by omega))
  by_cases z : b = a
  · rw [z]; exact Nat.le_refl _
  · by_cases w : a < b
    · have e1 := h3 (by omega)
      have e2 := mono (a + 1) b (by omega) hb
      have b1 := po.bnd a h1
      have b2 := po.bnd (a + 1) (by omega)
      have b3 := po.rise a (a + 1) (by omega) (by omega)
      have e3 : pl r (ps.getD a 0) < pl r (ps.getD (a + 1) 0) := pl_rise ok (by omega) (by omega)
      omega
    · have e1 := h4 (by omega)
      have e2 := mono b (a - 1) (by omega) (by omega)
      have e3 := h5 (by omega)
      omega
theorem way_wy {r : List (Int × Int)} {qs : List Nat} (ok : RoadOk r) (h : arePosts r.length (nats qs) = true) : ∃ D, wayL r (nats qs) = wy r D r.length ∧ IsD r qs r.length D := by
  have po := postsOk h
  have hl := nearL_length r (nats qs)
  refine ⟨fun i => ((xs r i - pl r ((nearL r (nats qs)).getD i default)).natAbs : Int), ?_, fun i hi => ?_⟩
  · unfold wayL wy
    rw [← sum_range]
    congr 1
    refine List.ext_getElem (by simp [hl]) fun n h1 h2 => ?_
    simp at h1 h2
    simp [wayT, ls, xs, List.getD_eq_getElem?_getD, h2, hl]
  · obtain ⟨a, h1, h2, h3⟩ := near_min ok po i hi
    have hq : ∀ b, b < qs.length → pl r ((nats qs).getD b 0) = xs r (qs.getD b 0) := fun b hb => by
      rw [nats_get qs hb]
      unfold pl xs
      rw [Int.toNat_natCast]
    rw [nats_len] at h1
    refine ⟨⟨qs.getD a 0, ?_, ?_⟩, fun p hp => ?_⟩
    · rw [List.getD_eq_getElem?_getD, List.getElem?_eq_getElem h1]
      exact List.getElem_mem h1
    · show ((xs r i - pl r ((nearL r (nats qs)).getD i default)).natAbs : Int) = _
      rw [h2, hq a h1]
      rfl
    · obtain ⟨b, hb, rfl⟩ := List.getElem_of_mem hp
      have k := h3 b (by rw [nats_len]; exact hb)
      show ((xs r i - pl r ((nearL r (nats qs)).getD i default)).natAbs : Int) ≤ dst r i qs[b]
      rw [h2]
      have e : qs.getD b 0 = qs[b] := by rw [List.getD_eq_getElem?_getD, List.getElem?_eq_getElem hb]; rfl
      have e2 := hq b hb
      rw [e] at e2
      rw [e2] at k
      unfold dst
      have : ((r.getD i default).1 - pl r ((nats qs).getD a 0)).natAbs = (xs r i - pl r ((nats qs).getD a 0)).natAbs := rfl
      have : ((r.getD i default).1 - xs r qs[b]).natAbs = (xs r i - xs r qs[b]).natAbs := rfl
      omega
theorem ris_posts {n : Nat} {qs : List Nat} (h : Ris n qs) (hne : qs ≠ []) : arePosts n (nats qs) = true := by
  have key : ∀ {e : Nat} {qs : List Nat}, Ris e qs → e ≤ n → risingB n (-1) (nats qs) = true ∧ (nats qs).foldl (fun _ x => x) (-1) < e := by
    intro e qs h
    induction h with
    | nil => intro _; exact ⟨rfl, by show (-1 : Int) < _; omega⟩
    | @snoc f e p ps a h1 h2 ih =>
      intro he
      obtain ⟨i1, i2⟩ := ih (by omega)
      have e1 : nats (ps ++ [p]) = nats ps ++ [(p : Int)] := by unfold nats; rw [List.map_append]; rfl
      rw [e1, risingB_snoc, i1, List.foldl_append]
      refine ⟨?_, ?_⟩
      · rw [decide_eq_true (show (nats ps).foldl (fun _ x => x) (-1) < (p : Int) by omega), decide_eq_true (show (p : Int) < n by omega)]
        rfl
      · show (p : Int) < e
        omega
  unfold arePosts
  rw [(key h (Nat.le_refl _)).1]
  have : nats qs ≠ [] := fun z => hne (List.map_eq_nil_iff.mp z)
  simp [this]
/-- any posts' way is no less than the least way of so many -/
theorem way_ge {r : List (Int × Int)} {qs : List Nat} {k : Nat} (ok : RoadOk r) (h : Ris r.length qs) (hk : qs.length = k) (h1 : 1 ≤ k) : V r k r.length ≤ wayL r (nats qs) := by
  obtain ⟨m, rfl⟩ : ∃ m, k = m + 1 := ⟨k - 1, by omega⟩
  have hne : qs ≠ [] := by rintro rfl; cases hk
  obtain ⟨D, e, hD⟩ := way_wy ok (ris_posts h hne)
  obtain ⟨c, c1, c2⟩ := isD_down ok m h hk (Nat.le_refl _) hD
  have := V_le m c1 (Nat.le_refl _)
  omega
theorem way_pb {r : List (Int × Int)} {k : Nat} (ok : RoadOk r) (h1 : 1 ≤ k) (h2 : k ≤ r.length) : Ris r.length (pb r k r.length) ∧ (pb r k r.length).length = k ∧ arePosts r.length (nats (pb r k r.length)) = true ∧ wayL r (nats (pb r k r.length)) = V r k r.length := by
  obtain ⟨m, rfl⟩ : ∃ m, k = m + 1 := ⟨k - 1, by omega⟩
  have c := (pb_cut m h2 (Nat.le_refl _)).ris
  have hne : pb r (m + 1) r.length ≠ [] := by intro z; rw [z] at c; cases c.2
  have hp := ris_posts c.1 hne
  obtain ⟨D, e, hD⟩ := way_wy ok hp
  exact ⟨c.1, c.2, hp, by rw [e, pb_way ok h1 h2 hD]⟩
/-! falls -/
theorem V_fall0 {r : List (Int × Int)} (ok : RoadOk r) {k : Nat} (h1 : 1 ≤ k) (h : k + 1 ≤ r.length) : V r (k + 1) r.length ≤ V r k r.length := by
  have f := V_falls ok (Nat.le_refl r.length) h1 (r.length - 1 - k) (by omega)
  have e4 : k + (r.length - 1 - k) + 1 = r.length := by omega
  have e5 : k + (r.length - 1 - k) = r.length - 1 := by omega
  rw [e4, e5, V_all ok (by omega) (Nat.le_refl _)] at f
  have g := V_nonneg ok (k := r.length - 1) (n := r.length) (by omega) (by omega) (Nat.le_refl _)
  omega
/-! all choices of posts -/
def chs : Nat → List (List Nat)
  | 0 => [[]]
  | n + 1 => chs n ++ (chs n).map (· ++ [n])
theorem chs_len : ∀ n, (chs n).length = 2 ^ n
  | 0 => rfl
  | n + 1 => by rw [chs, List.length_append, List.length_map, chs_len n, Nat.pow_succ]; omega
theorem chs_ris : ∀ (n : Nat) {L : List Nat}, L ∈ chs n → Ris n L
  | 0, L, h => by
    have : L = [] := by simpa [chs] using h
    rw [this]; exact .nil
  | n + 1, L, h => by
    rcases List.mem_append.mp h with h | h
    · cases chs_ris n h with
      | nil => exact .nil
      | snoc a b c => exact .snoc a b (by omega)
    · obtain ⟨M, hM, rfl⟩ := List.mem_map.mp h
      exact .snoc (chs_ris n hM) (Nat.le_refl _) (by omega)
theorem ris_chs : ∀ (n : Nat) {L : List Nat}, Ris n L → L ∈ chs n
  | 0, L, h => by
    cases h with
    | nil => simp [chs]
    | snoc a b c => omega
  | n + 1, L, h => by
    cases h with
    | nil => exact List.mem_append_left _ (ris_chs n .nil)
    | @snoc f _ p ps a b c =>
      by_cases z : p = n
      · refine List.mem_append_right _ (List.mem_map.mpr ⟨ps, ris_chs n ?_, by rw [z]⟩)
        cases a with
        | nil => exact .nil
        | snoc a' b' c' => exact .snoc a' b' (by omega)
      · exact List.mem_append_left _ (ris_chs n (.snoc a b (by omega)))
/-- the first is none, no other is -/
theorem chs_cons : ∀ n, ∃ R, chs n = [] :: R ∧ ∀ L ∈ R, L ≠ []
  | 0 => ⟨[], rfl, fun _ h => nomatch h⟩
  | n + 1 => by
    obtain ⟨R, h1, h2⟩ := chs_cons n
    refine ⟨R ++ (chs n).map (· ++ [n]), by rw [chs, h1]; rfl, fun L hL => ?_⟩
    rcases List.mem_append.mp hL with h | h
    · exact h2 L h
    · obtain ⟨M, _, rfl⟩ := List.mem_map.mp h
      simp
end Ph

set_option Elab.async false
set_option linter.all false
set_option maxRecDepth 100000
set_option maxHeartbeats 2000000
namespace Ph
open PySem PySem.Spec L2
/-! ### best, ways, choices -/
def bdL (r : List (Int × Int)) (fee : Int) : List Int := (ledL r fee r.length).map (·.1)
theorem bdL_len (r : List (Int × Int)) (fee : Int) : (bdL r fee).length = r.length + 1 := by unfold bdL; rw [List.length_map, ledL_len]
theorem bdL_get (r : List (Int × Int)) (fee : Int) {e : Nat} (h : e ≤ r.length) : (bdL r fee).getD e 0 = bd r fee e := by
  unfold bdL bd
  rw [← ledL_get r fee h]
  have h2 : e < (ledL r fee r.length).length := by rw [ledL_len]; omega
  simp [List.getD_eq_getElem?_getD, h2]
def waysL (r : List (Int × Int)) (m : Nat) : List Int := (List.range (min m r.length)).map fun j => V r (j + 1) r.length
theorem waysL_len (r : List (Int × Int)) (m : Nat) : (waysL r m).length = min m r.length := by unfold waysL; rw [List.length_map, List.length_range]
theorem waysL_get (r : List (Int × Int)) {m j : Nat} (h : j < min m r.length) : (waysL r m).getD j default = V r (j + 1) r.length := by
  unfold waysL
  rw [List.getD_eq_getElem?_getD, List.getElem?_map, List.getElem?_range h]
  rfl
def R_best : List PyData → List Int → List Int → Option Int → Prop := fun ds ps bs fee => ∃ (r : List (Int × Int)) (m : Nat), ds = [eRoad r, .int (m : Int)] ∧ 1 ≤ m ∧ m ≤ r.length ∧ RoadOk r ∧ ps = nats (pb r m r.length) ∧ bs = bdL r (feeOf r m) ∧ fee = some (feeOf r m)
def R_ways : List PyData → List PyData → Prop := fun ds d => ∃ (r : List (Int × Int)) (m : Nat), ds = [eRoad r, .int (m : Int)] ∧ RoadOk r ∧ d = (waysL r m).map .int
def R_law_choices : List PyData → List PyData → Prop := fun ds d => ∃ n : Nat, ds = [.int (n : Int)] ∧ n ≤ 6 ∧ d = (chs n).tail.map fun L => eInts (nats L)
def sp_best (K : PySem.W.Frag) : Sp := PrO K (He.ga K "Best") R_best
def sp_ways (K : PySem.W.Frag) : Sp := PrN K R_ways
def sp_law_choices (K : PySem.W.Frag) : Sp := PrN K R_law_choices
theorem len_best : ∀ ds a b c, R_best ds a b c → ds.length = 2 := by rintro _ _ _ _ ⟨_, _, rfl, _⟩; rfl
theorem len_ways : ∀ ds d, R_ways ds d → ds.length = 2 := by rintro _ _ ⟨_, _, rfl, _⟩; rfl
theorem len_law_choices : ∀ ds d, R_law_choices ds d → ds.length = 1 := by rintro _ _ ⟨_, rfl, _⟩; rfl
end Ph

set_option Elab.async false
set_option linter.all false
set_option maxRecDepth 100000
namespace Ph
open PySem PySem.Spec L2
def t_best_s6 (K : PySem.W.Frag) : TS := (tSeq (tRet (tMake (He.ga K "Best") (PrI3 K (He.ga K "Best")) [] E0 (tCons (tCall (sp_posts_by K) [] E0 (tCons (tVar 0) (tCons (tVar 2) (tCons (tVar 3) (tCons (tVar 1) tNil))))) (tCons (tVar 5) (tCons (tVar 4) tNil)))))
  tNext)
def t_best_s5 (K : PySem.W.Frag) : TS := (tSeq (tAsg (tLc (iList K (tCall (sp_led K) [] E0 (tCons (tVar 0) (tCons (tVar 2) (tCons (tVar 4) tNil))))) (gName 6) tYes (tOp (oIxT K) (tVar 6) (tC (.int 0))) [6]) (gName 5))
  (t_best_s6 K))
def t_best_s4 (K : PySem.W.Frag) : TS := (tSeq (tAsg (tIf (tTest (tOp oLt (tVar 1) (tCB (cLen K) (tCons (tVar 0) tNil)))) (tOp oSub (tOp (oIxT K) (tOp (oIx K) (tOp (oIx K) (tVar 3) (tOp oSub (tVar 1) (tC (.int 1)))) (tUn oNeg (tC (.int 1)))) (tC (.int 0))) (tOp (oIxT K) (tOp (oIx K) (tOp (oIx K) (tVar 3) (tVar 1)) (tUn oNeg (tC (.int 1)))) (tC (.int 0)))) (tC (.int 0))) (gName 4))
  (t_best_s5 K))
def t_best_s3 (K : PySem.W.Frag) : TS := (tSeq (tAsg (tCall (sp_layers K) [] E0 (tCons (tVar 0) (tCons (tVar 2) (tCons (tCB cMin2 (tCons (tOp oAdd (tVar 1) (tC (.int 1))) (tCons (tCB (cLen K) (tCons (tVar 0) tNil)) tNil))) tNil)))) (gName 3))
  (t_best_s4 K))
def t_best_s2 (K : PySem.W.Frag) : TS := (tSeq (tAsg (tCall (sp_middles K) [] E0 (tCons (tVar 0) tNil)) (gName 2))
  (t_best_s3 K))
def t_best_s1 (K : PySem.W.Frag) : TS := (tSeq (tDrop (tCall (sp_asked_many K) [] E0 (tCons (tVar 0) (tCons (tVar 1) tNil))))
  (t_best_s2 K))
def t_best (K : PySem.W.Frag) : TS := (tSeq (tDrop (tCall (sp_asked_road K) [] E0 (tCons (tVar 0) tNil)))
  (t_best_s1 K))
def t_ways (K : PySem.W.Frag) : TS := (tSeq (tDrop (tCall (sp_asked_road K) [] E0 (tCons (tVar 0) tNil)))
  (tSeq (tDrop (tCall (sp_asked_number K) [] E0 (tCons (tVar 1) tNil)))
  (tSeq (tIfS (tOr (tTest (tOp (oEqD K) (tVar 0) (tLst tNil))) (tTest (tOp oEqI (tVar 1) (tC (.int 0)))))
   (tSeq (tRet (tLst tNil))
  tNext) tNext)
  (tSeq (tAsg (tCall (sp_layers K) [] E0 (tCons (tVar 0) (tCons (tCall (sp_middles K) [] E0 (tCons (tVar 0) tNil)) (tCons (tCB cMin2 (tCons (tVar 1) (tCons (tCB (cLen K) (tCons (tVar 0) tNil)) tNil))) tNil)))) (gName 2))
  (tSeq (tRet (tLc (iList K (tVar 2)) (gName 3) tYes (tOp (oIxT K) (tOp (oIx K) (tVar 3) (tUn oNeg (tC (.int 1)))) (tC (.int 0))) [3]))
  tNext)))))
end Ph

set_option Elab.async false
set_option linter.all false
set_option maxRecDepth 100000
set_option maxHeartbeats 2000000
namespace Ph
open PySem PySem.Spec L2
section
variable {K : PySem.W.Frag} {δ : List Sl} {ta tb tc td te tj : TE} {d e f : PyData}
theorem run_best : ∀ ds a b c, R_best ds a b c → ∀ B D, RtO K B D (He.ga K "Best") a b c → RunS K B (t_best K) D (ds.map Sl.d ++ List.replicate (7 - ds.length) Sl.no) := by
  rintro _ _ _ _ ⟨r, m, rfl, h1, h2, ok, rfl, rfl, rfl⟩ B D k
  show RunS K B (t_best K) D [.d (eRoad r), .d (.int m), .no, .no, .no, .no, .no]
  have hn := ok.len
  have hne : r ≠ [] := by rintro rfl; simp at h2; omega
  refine r_drop (ev_asked_road (evd_at rfl) ok) (r_drop (ev_asked_many (evd_at rfl) (evd_at rfl) h1 h2) ?_)
  refine r_set (d := eTab (midT r)) (evd_n (ev_middles (evd_at rfl) ok)) ?_
  dsimp only [List.set_cons_zero, List.set_cons_succ]
  refine r_set (d := eTab (layT r (min (m + 1) r.length))) (evd_n (ev_layers (m := min (m + 1) r.length) (evd_at rfl) (evd_at rfl) (evd_is (evd_min2 (evd_add (evd_at rfl) evd_int) (evd_lenm (xs := r) (en := eHs) (evl_d (evd_at rfl)))) ?_) hne (by omega) (by omega) ok)) ?_
  · congr 1
    split <;> omega
  dsimp only [List.set_cons_zero, List.set_cons_succ]
  have last : ∀ t, (lay r t).getD ((lay r t).length - 1) default = (lay r t).getD (r.length - 1) default := fun t => by rw [lay_len]
  have hlay : ∀ t, lay r t ≠ [] := fun t z => by
    have := lay_len r t
    rw [z] at this
    simp at this
    omega
  refine r_set (d := .int (feeOf r m)) (evd_if (evt_test (evd_lt (evd_at rfl) (evd_lenm (xs := r) (en := eHs) (evl_d (evd_at rfl))))) (fun h => ?_) (fun h => ?_)) ?_
  · have h := of_decide_eq_true h
    have hm : m < r.length := by omega
    refine evd_is (evd_sub (evd_ixt0 (evd_ixl (xs := lay r (m - 1)) (en := eHs) (evl_d (evd_is (evd_ixm (xs := layT r (min (m + 1) r.length)) (en := eRow) (evl_d (evd_at rfl)) (evd_sub (evd_at rfl) evd_int) (by omega) (by rw [layT_len]; omega)) ?_)) (hlay _))) (evd_ixt0 (evd_ixl (xs := lay r m) (en := eHs) (evl_d (evd_is (evd_ixm (xs := layT r (min (m + 1) r.length)) (en := eRow) (evl_d (evd_at rfl)) (evd_at rfl) (by omega) (by rw [layT_len]; omega)) ?_)) (hlay _)))) ?_
    · have : ((m : Int) - 1).toNat = m - 1 := by omega
      rw [this, layT_get r (by omega)]
    · rw [Int.toNat_natCast, layT_get r (by omega)]
    · rw [last, last]
      unfold feeOf
      rw [if_pos hm]
      rfl
  · have h := of_decide_eq_false h
    refine evd_is evd_int ?_
    unfold feeOf
    rw [if_neg (by omega)]
  dsimp only [List.set_cons_zero, List.set_cons_succ]
  refine r_set (d := eInts (bdL r (feeOf r m))) (evd_is (evd_n (evn_lcL (α := Int × Int) default (xs := ledL r (feeOf r m) r.length) (en := eHs) (f := fun x => .int x.1) (evd_n (ev_led (evd_at rfl) (evd_at rfl) (evd_at rfl) ok)) (by rw [ledL_len]; omega) fun x hx => evd_ixt0 (evd_at rfl))) ?_) ?_
  · unfold bdL eInts
    rw [List.map_map]
    rfl
  dsimp only [List.set_cons_zero, List.set_cons_succ]
  exact r_retO (evnb_make (evmk3 (evl_n (ev_posts_by (evd_at rfl) (evd_at rfl) (evd_at rfl) (evd_at rfl) h1 (by omega) (by omega) ok)) (evl_d (evd_at rfl)) (evd_at rfl)) rfl) k
theorem ev_best {r : List (Int × Int)} {m : Nat} (ha : EvD K ta δ (eRoad r)) (hb : EvD K tb δ (.int (m : Int))) (h1 : 1 ≤ m) (h2 : m ≤ r.length) (ok : RoadOk r) : EvNB K (tCall (sp_best K) [] E0 (tCons ta (tCons tb tNil))) δ (He.ga K "Best") (nats (pb r m r.length)) (bdL r (feeOf r m)) (some (feeOf r m)) :=
  evnb_call (ea_cons ha (ea_cons hb ea_nil)) ⟨r, m, rfl, h1, h2, ok, rfl, rfl, rfl⟩
theorem run_ways : ∀ ds d, R_ways ds d → ∀ B D, RtN K B D d → RunS K B (t_ways K) D (ds.map Sl.d ++ List.replicate (4 - ds.length) Sl.no) := by
  rintro _ _ ⟨r, m, rfl, ok, rfl⟩ B D k
  show RunS K B (t_ways K) D [.d (eRoad r), .d (.int m), .no, .no]
  have hn := ok.len
  refine r_drop (ev_asked_road (evd_at rfl) ok) (r_drop (ev_asked_number (evd_at rfl) (by omega)) ?_)
  refine r_when (evt_or (evt_test (evd_eqE (evr_d (evd_at rfl)) ((shp_road _).ok (by decide)))) fun _ => evt_test (evd_eqI (evd_at rfl) evd_int)) (fun h => ?_) (fun h => ?_)
  · refine r_retN (evn_is (evn_lst ea_nil (by simp)) ?_) k
    rw [map_nil] at h
    have : min m r.length = 0 := by
      simp only [Bool.or_eq_true, decide_eq_true_eq] at h
      rcases h with h | h
      · rw [h]; simp
      · omega
    unfold waysL
    rw [this]
    rfl
  · rw [map_nil] at h
    simp only [Bool.or_eq_false_iff, decide_eq_false_iff_not] at h
    obtain ⟨hne, hm0⟩ := h
    have hp : 0 < r.length := List.length_pos_iff.mpr hne
    have hlay : ∀ t, lay r t ≠ [] := fun t z => by
      have := lay_len r t
      rw [z] at this
      simp at this
      omega
    refine r_set (d := eTab (layT r (min m r.length))) (evd_n (ev_layers (m := min m r.length) (evd_at rfl) (evd_n (ev_middles (evd_at rfl) ok)) (evd_is (evd_min2 (evd_at rfl) (evd_lenm (xs := r) (en := eHs) (evl_d (evd_at rfl)))) ?_) hne (by omega) (by omega) ok)) ?_
    · congr 1
      split <;> omega
    dsimp only [List.set_cons_zero, List.set_cons_succ]
    refine r_retN (evn_is (evn_lcL (α := List (Int × Int)) default (xs := layT r (min m r.length)) (en := eRow) (f := fun l => .int (l.getD (l.length - 1) default).1) (evd_at rfl) (by rw [layT_len]; omega) fun l hl => ?_) ?_) k
    · obtain ⟨t, _, rfl⟩ := List.mem_map.mp hl
      exact evd_ixt0 (evd_ixl (xs := lay r t) (en := eHs) (evl_d (evd_at rfl)) (hlay t))
    · unfold layT waysL
      rw [List.map_map, List.map_map]
      refine List.map_congr_left fun t _ => ?_
      show PyData.int ((lay r t).getD ((lay r t).length - 1) default).1 = .int (V r (t + 1) r.length)
      rw [lay_len]
      rfl
theorem ev_ways {r : List (Int × Int)} {m : Nat} (ha : EvD K ta δ (eRoad r)) (hb : EvD K tb δ (.int (m : Int))) (ok : RoadOk r) : EvN K (tCall (sp_ways K) [] E0 (tCons ta (tCons tb tNil))) δ ((waysL r m).map .int) :=
  evn_call (ea_cons ha (ea_cons hb ea_nil)) ⟨r, m, rfl, ok, rfl⟩
end
end Ph

set_option Elab.async false
set_option linter.all false
set_option maxRecDepth 100000
namespace Ph
open PySem PySem.Spec L2
def t_law_choices (K : PySem.W.Frag) : TS := (tSeq (tAsg (tLst (tCons (tLst tNil) tNil)) (gName 1))
  (tSeq (tFor (iRng1 (tCons (tVar 0) tNil)) (gName 2)
   (tSeq (tAsg (tOp (oCatL K) (tVar 1) (tLc (iList K (tVar 1)) (gName 3) tYes (tOp (oCatL K) (tVar 3) (tLst (tCons (tVar 2) tNil))) [3])) (gName 1))
  tNext))
  (tSeq (tRet (tSl (oSl K) (tVar 1) (tPart (tC (.int 1))) tNoPart))
  tNext)))
def t_law_k04_b1 (K : PySem.W.Frag) : TS := (tSeq (tIfS (tTest (tOp oNeI (tCall (sp_way K) [] E0 (tCons (tVar 2) (tCons (tFld K (tCall (sp_best K) [] E0 (tCons (tVar 2) (tCons (tVar 8) tNil))) "posts") tNil))) (tOp (oIx K) (tVar 4) (tOp oSub (tVar 8) (tC (.int 1))))))
   (tSeq (tRet (tC (.bl false)))
  tNext) tNext)
  tNext)
def t_law_k04_b2 (K : PySem.W.Frag) : TS := (tSeq (tAsg (tCall (sp_way K) [] E0 (tCons (tVar 9) (tCons (tVar 12) tNil))) (gName 13))
  (tSeq (tIfS (tOr (tTest (tOp oLt (tOp (oIx K) (tVar 10) (tOp oSub (tCB (cLen K) (tCons (tVar 12) tNil)) (tC (.int 1)))) (tC (.int 0)))) (tTest (tOp oLt (tVar 13) (tOp (oIx K) (tVar 10) (tOp oSub (tCB (cLen K) (tCons (tVar 12) tNil)) (tC (.int 1)))))))
   (tSeq (tAsg (tVar 13) (gSub (tVar 10) (tOp oSub (tCB (cLen K) (tCons (tVar 12) tNil)) (tC (.int 1))) rSetL))
  tNext) tNext)
  tNext))
def t_law_k04_s14 (K : PySem.W.Frag) : TS := (tSeq (tRet (tAndV (tOp (oEqD K) (tCall (sp_ways K) [] E0 (tCons (tVar 1) (tCons (tC (.int 0)) tNil))) (tLst tNil)) (tOp (oEqD K) (tCall (sp_ways K) [] E0 (tCons (tVar 1) (tCons (tC (.int 2)) tNil))) (tSl (oSl K) (tCall (sp_ways K) [] E0 (tCons (tVar 1) (tCons (tC (.int 3)) tNil))) tNoPart (tPart (tC (.int 2)))))))
  tNext)
def t_law_k04_s13 (K : PySem.W.Frag) : TS := (tSeq (tDrop (tBM K "list" rAppend (tVar 4) (tCons (tC (.int 0)) tNil)))
  (t_law_k04_s14 K))
def t_law_k04_s12 (K : PySem.W.Frag) : TS := (tSeq (tIfS (tTest (tOp (oNeD K) (tCall (sp_ways K) [] E0 (tCons (tVar 9) (tCons (tC (.int 6)) tNil))) (tVar 10)))
   (tSeq (tRet (tC (.bl false)))
  tNext) tNext)
  (t_law_k04_s13 K))
def t_law_k04_s11 (K : PySem.W.Frag) : TS := (tSeq (tFor (iList K (tCall (sp_law_choices K) [] E0 (tCons (tCB (cLen K) (tCons (tVar 9) tNil)) tNil))) (gName 12)
   (t_law_k04_b2 K))
  (t_law_k04_s12 K))
def t_law_k04_s10 (K : PySem.W.Frag) : TS := (tSeq (tAsg (tLc (iList K (tVar 9)) (gName 11) tYes (tUn oNeg (tC (.int 1))) [11]) (gName 10))
  (t_law_k04_s11 K))
def t_law_k04_s9 (K : PySem.W.Frag) : TS := (tSeq (tAsg (tSl (oSl K) (tVar 1) (tPart (tUn oNeg (tC (.int 6)))) tNoPart) (gName 9))
  (t_law_k04_s10 K))
def t_law_k04_s8 (K : PySem.W.Frag) : TS := (tSeq (tFor (iRng3 (tCons (tC (.int 1)) (tCons (tOp oAdd (tCB (cLen K) (tCons (tVar 2) tNil)) (tC (.int 1))) (tCons (tC (.int 3)) tNil)))) (gName 8)
   (t_law_k04_b1 K))
  (t_law_k04_s9 K))
def t_law_k04_s7 (K : PySem.W.Frag) : TS := (tSeq (tIfS (tOr (tB (tCB (cAny K) (tCons (tLc (iList K (tVar 5)) (gName 7) tYes (tOp oLt (tVar 7) (tC (.int 0))) [7]) tNil))) (tB (tCB (cAny K) (tCons (tLc (iRng1 (tCons (tOp oSub (tCB (cLen K) (tCons (tVar 5) tNil)) (tC (.int 1))) tNil)) (gName 6) tYes (tOp oLt (tOp (oIx K) (tVar 5) (tVar 6)) (tOp (oIx K) (tVar 5) (tOp oAdd (tVar 6) (tC (.int 1))))) [6]) tNil))))
   (tSeq (tRet (tC (.bl false)))
  tNext) tNext)
  (t_law_k04_s8 K))
def t_law_k04_s6 (K : PySem.W.Frag) : TS := (tSeq (tAsg (tLc (iRng1 (tCons (tOp oSub (tCB (cLen K) (tCons (tVar 4) tNil)) (tC (.int 1))) tNil)) (gName 6) tYes (tOp oSub (tOp (oIx K) (tVar 4) (tVar 6)) (tOp (oIx K) (tVar 4) (tOp oAdd (tVar 6) (tC (.int 1))))) [6]) (gName 5))
  (t_law_k04_s7 K))
def t_law_k04_s5 (K : PySem.W.Frag) : TS := (tSeq (tIfS (tAnd (tTest (tOp (oNeD K) (tVar 2) (tLst tNil))) (tTest (tOp oNeI (tOp (oIx K) (tVar 4) (tUn oNeg (tC (.int 1)))) (tC (.int 0)))))
   (tSeq (tRet (tC (.bl false)))
  tNext) tNext)
  (t_law_k04_s6 K))
def t_law_k04_s4 (K : PySem.W.Frag) : TS := (tSeq (tIfS (tOr (tNot (tB (tCall (sp_law_numbers K) [] E0 (tCons (tVar 4) tNil)))) (tOr (tTest (tOp oNeI (tCB (cLen K) (tCons (tVar 4) tNil)) (tCB (cLen K) (tCons (tVar 2) tNil)))) (tTest (tOp (oNeD K) (tVar 3) (tVar 2)))))
   (tSeq (tRet (tC (.bl false)))
  tNext) tNext)
  (t_law_k04_s5 K))
def t_law_k04_s3 (K : PySem.W.Frag) : TS := (tSeq (tAsg (tCall (sp_ways K) [] E0 (tCons (tVar 3) (tCons (tOp oAdd (tCB (cLen K) (tCons (tVar 2) tNil)) (tC (.int 2))) tNil))) (gName 4))
  (t_law_k04_s4 K))
def t_law_k04_s2 (K : PySem.W.Frag) : TS := (tSeq (tAsg (tCB (cList K) (tCons (tVar 2) tNil)) (gName 3))
  (t_law_k04_s3 K))
def t_law_k04_s1 (K : PySem.W.Frag) : TS := (tSeq (tAsg (tSl (oSl K) (tVar 1) tNoPart (tPart (tC (.int 14)))) (gName 2))
  (t_law_k04_s2 K))
def t_law_k04 (K : PySem.W.Frag) : TS := (tSeq (tAsg (tCall (sp_law_road K) [] E0 (tCons (tVar 0) tNil)) (gName 1))
  (t_law_k04_s1 K))
end Ph

set_option Elab.async false
set_option linter.all false
set_option maxRecDepth 100000
set_option maxHeartbeats 2000000
namespace Ph
open PySem PySem.Spec L2
def eL (L : List Nat) : PyData := eInts (nats L)
/-! ### pieces of a road -/
theorem getD_slice {α : Type} [Inhabited α] {xs : List α} {a b i : Nat} (h : i < ((xs.drop a).take b).length) : ((xs.drop a).take b).getD i default = xs.getD (a + i) default ∧ a + i < xs.length := by
  rw [List.length_take, List.length_drop] at h
  refine ⟨?_, by omega⟩
  have h1 : i < b := by omega
  simp [List.getD_eq_getElem?_getD, List.getElem?_take, h1]
theorem roadOk_slice {r : List (Int × Int)} (ok : RoadOk r) (a b : Nat) : RoadOk ((r.drop a).take b) := by
  refine ⟨fun i hi => ?_, fun h hh => ok.let0 h (List.mem_of_mem_drop (List.mem_of_mem_take hh)), ?_, fun h hh => ok.big h (List.mem_of_mem_drop (List.mem_of_mem_take hh))⟩
  · obtain ⟨e1, _⟩ := getD_slice (xs := r) (a := a) (b := b) (i := i) (by omega)
    obtain ⟨e2, h2⟩ := getD_slice (xs := r) (a := a) (b := b) (i := i + 1) hi
    rw [e1, e2]
    have : a + (i + 1) = a + i + 1 := rfl
    rw [this] at h2 ⊢
    exact ok.rise _ h2
  · have := ok.len
    rw [List.length_take, List.length_drop]
    omega
theorem cut_to' {α : Type} {xs : List α} {e : Nat} : cut xs none (some (e : Int)) = (xs.drop 0).take (min e xs.length) := cut_to
theorem cut_end {α : Type} {xs : List α} {k : Nat} (hk : 0 < k) : cut xs (some (-(k : Int))) none = (xs.drop (xs.length - k)).take xs.length := by
  have a : HT.sIx xs.length 0 (some (-(k : Int))) = xs.length - k := by
    show (if -(k : Int) < 0 then (-(k : Int) + (xs.length : Int)).toNat else min (-(k : Int)).toNat xs.length) = _
    rw [if_pos (by omega)]
    omega
  have b : HT.sIx xs.length xs.length none = xs.length := rfl
  unfold cut
  rw [a, b, List.take_of_length_le (by rw [List.length_drop]; omega), List.take_of_length_le (by rw [List.length_drop]; omega)]
theorem cut_tail {α : Type} (x : α) (xs : List α) : cut (x :: xs) (some 1) none = xs := by
  have a : HT.sIx (x :: xs).length 0 (some (1 : Int)) = 1 := (HT.sIx_nat _ _ 1).trans (by rw [List.length_cons]; omega)
  have b : HT.sIx (x :: xs).length (x :: xs).length none = (x :: xs).length := rfl
  unfold cut
  rw [a, b]
  simp
/-! ### counts by threes -/
theorem rgc_from1 {n m : Nat} {c : Int} (hc : 1 ≤ c) (hc2 : c ≤ 1000) (hn : n ≤ 1000000) (hm : ((n : Int) + c - 1) / c = (m : Int)) : RgC 1 ((n : Int) + 1) c m := by
  obtain ⟨a, b, d, e⟩ := rgc_pos hc hc2 hn hm
  have hs : Builtin.Range.rangeSize 1 ((n : Int) + 1) c = (m : Int) := by
    rw [← e]
    unfold Builtin.Range.rangeSize
    have h1 : c > 0 := by omega
    have e1 : (n : Int) + 1 - 1 - 1 = n - 0 - 1 := by omega
    rw [e1, if_pos h1, if_pos h1]
    by_cases z : (0 : Int) < n
    · have z2 : (1 : Int) < n + 1 := by omega
      rw [if_pos z, if_pos z2]
    · have z2 : ¬ (1 : Int) < n + 1 := by omega
      rw [if_neg z, if_neg z2]
  have hm1 : (m : Int) ≤ n := by
    rw [← hm]
    by_cases h0 : n = 0
    · subst h0
      rw [Int.ediv_eq_zero_of_lt (by omega) (by omega)]
      exact Int.le_refl _
    · have h1 : ((n : Int) - 1) / c ≤ n - 1 := Int.ediv_le_self c (by omega)
      have e : (n : Int) + c - 1 = (n - 1) + 1 * c := by omega
      rw [e, Int.add_mul_ediv_right _ _ (by omega)]
      omega
  have hm0 : (m : Int) * c ≤ 1000000 * 1000 := by
    have a1 : (m : Int) * c ≤ m * 1000 := Int.mul_le_mul_of_nonneg_left hc2 (by omega)
    omega
  have hm2 : 0 ≤ (m : Int) * c := Int.mul_nonneg (by omega) (by omega)
  refine ⟨a, b, ?_, hs⟩
  unfold Builtin.Range.small
  rw [hs]
  simp only [Builtin.Range.rangeFitsLong, Bool.and_eq_true, Bool.or_eq_true, decide_eq_true_eq, beq_iff_eq]
  have hc0 : c > 0 := by omega
  simp only [hc0, if_true, Bool.and_eq_true, decide_eq_true_eq]
  omega
section
variable {K : PySem.W.Frag} {δ : List Sl} {ta tb tc td te tj : TE} {d e f : PyData}
local macro_rules | `(tactic| walk_at "wk") => `(tactic| first | exact WkL.nil | (refine' WkL.same ?_; walk_at "wk") | (refine' WkL.drop ?_; walk_at "wk"))
/-- [.. for i in range(m)], m perhaps below nought -/
theorem evn_lcZ {m : Int} {f : Nat → PyData} {j : Nat} (h : EvD K ta δ (.int m)) (hm : m ≤ 1000000) (hl : -1000000 ≤ m) (he : ∀ i, i < m.toNat → EvD K te ((wipeD δ [j]).set j (.d (.int (i : Int)))) (f i)) :
    EvN K (tLc (iRng1 (tCons ta tNil)) (gName j) tYes te [j]) δ ((List.range m.toNat).map f) := by
  have k := evn_lc (K := K) (δ := δ) (te := te) (tt := tYes) (g := gName j) (vs := [j]) (b := fun _ => true) (f := f) (δi := fun i => (wipeD δ [j]).set j (.d (.int (i : Int))))
    (evi_range1' h hm hl) (fun _ _ _ _ _ _ => trivial) (by omega) (fun i hi => tv_name (by simp)) (fun _ _ => evt_yes) (fun i hi _ => he i hi)
  rw [List.filter_eq_self.mpr (fun _ _ => rfl)] at k
  exact k
theorem run_law_choices : ∀ ds d, R_law_choices ds d → ∀ B D, RtN K B D d → RunS K B (t_law_choices K) D (ds.map Sl.d ++ List.replicate (4 - ds.length) Sl.no) := by
  rintro _ _ ⟨n, rfl, hn, rfl⟩ B D k
  show RunS K B (t_law_choices K) D [.d (.int n), .no, .no, .no]
  refine r_set (d := .list ((chs 0).map eL)) (evd_n (evn_is (evn_lst (ea_cons (evd_n (evn_lst ea_nil (by simp))) ea_nil) (by simp)) rfl)) ?_
  dsimp only [List.set_cons_zero, List.set_cons_succ]
  refine r_forE (evi_range1 (evd_at rfl) (by omega)) (fun i => [.d (.int n), .d (.list ((chs i).map eL)), .no, .no]) (by walk_at "wk") (fun Gb hb i hi => ⟨_, tg_name, ?_⟩) ?_
  · dsimp only [List.set_cons_zero, List.set_cons_succ]
    have hl := chs_len i
    have hp : 2 ^ i ≤ 2 ^ 6 := Nat.pow_le_pow_right (by decide) (by omega)
    refine r_set (d := .list ((chs (i + 1)).map eL)) (evd_n (evn_is (evn_catL (evl_d (evd_at rfl)) (evl_n (evn_lcL (α := List Nat) default (xs := chs i) (en := eL) (f := fun L => eL (L ++ [i])) (evd_at rfl) (by omega) fun L hL => ?_)) (by rw [List.length_map, List.length_map, hl]; omega)) ?_)) (r_next (nx_env ?_))
    · refine evd_n (evn_is (evn_catL (evl_d (evd_at rfl)) (evl_n (evn_lst (ea_cons (evd_at rfl) ea_nil) (by simp))) ?_) ?_)
      · have hb := (chs_ris i hL).lt
        have : L.length ≤ 64 := by
          have : ∀ {e : Nat} {L : List Nat}, Ris e L → L.length ≤ e := by
            intro e L h
            induction h with
            | nil => exact Nat.zero_le _
            | snoc a h1 h2 ih => rw [List.length_append]; simp; omega
          have := this (chs_ris i hL)
          omega
        rw [List.length_map, nats_len]
        simp
        omega
      · unfold nats
        simp
    · rw [chs, List.map_append, List.map_map]
      rfl
    · dsimp only [List.set_cons_zero, List.set_cons_succ]
      walk_at "wk"
  · obtain ⟨R, h1, h2⟩ := chs_cons n
    refine r_retN (evn_is (evn_sl (evl_d (evd_at rfl)) (evo_some evd_int) evo_none) ?_) k
    rw [h1, List.map_cons, cut_tail]
    rfl
theorem ev_law_choices {n : Nat} (ha : EvD K ta δ (.int (n : Int))) (hn : n ≤ 6) : EvN K (tCall (sp_law_choices K) [] E0 (tCons ta tNil)) δ ((chs n).tail.map eL) := evn_call (ea_cons ha ea_nil) ⟨n, rfl, hn, rfl⟩
end
end Ph

set_option Elab.async false
set_option linter.all false
set_option maxRecDepth 100000
set_option maxHeartbeats 2000000
namespace Ph
open PySem PySem.Spec L2
section
variable {K : PySem.W.Frag} {δ : List Sl} {ta tb tc td te tj : TE} {d e f : PyData}
local macro_rules | `(tactic| walk_at "wk") => `(tactic| first | exact WkL.nil | (refine' WkL.same ?_; walk_at "wk") | (refine' WkL.drop ?_; walk_at "wk"))
/-- way of posts that may be read now -/
theorem ev_wayR {r : List (Int × Int)} {ps : List Int} (ha : EvR K ta δ (eRoad r)) (hb : EvR K tb δ (eInts ps)) (ok : RoadOk r) (h : arePosts r.length ps = true) (hl : ps.length ≤ 1000) : EvD K (tCall (sp_way K) [] E0 (tCons ta (tCons tb tNil))) δ (.int (wayL r ps)) :=
  evd_callR (ear_cons ha (ear_cons hb ear_nil)) ⟨r, ps, rfl, ok, h, hl, rfl⟩ rfl
theorem ris_len : ∀ {e : Nat} {L : List Nat}, Ris e L → L.length ≤ e := by
  intro e L h
  induction h with
  | nil => exact Nat.zero_le _
  | snoc a h1 h2 ih => rw [List.length_append]; simp; omega
/-- the last two answers -/
theorem k04_last {s : List Int} {r : List (Int × Int)} {B : Bs} {D : Ends} {x2 x3 x4 x5 x6 x7 x8 x9 x10 x11 x12 x13 : Sl} (ok : RoadOk r) (k : RtD K B D (.bool true)) :
    RunS K B (t_law_k04_s14 K) D [.d (eInts s), .d (eRoad r), x2, x3, x4, x5, x6, x7, x8, x9, x10, x11, x12, x13] := by
  refine r_ret (evd_is (evd_and (a := true) (evd_is (evd_eqE (evr_n (ev_ways (m := 0) (evd_at rfl) (evd_is evd_int rfl) ok)) ((shp_ints _).ok (by decide))) ?_) fun _ => evd_eqSame (d := eInts (waysL r 2)) (evr_n (ev_ways (m := 2) (evd_at rfl) (evd_is evd_int rfl) ok)) (evr_n (evn_is (evn_sl (evl_n (ev_ways (m := 3) (evd_at rfl) (evd_is evd_int rfl) ok)) evo_none (evo_some evd_int)) ?_)) (shp_ints _) (by decide)) rfl) k
  · have : waysL r 0 = [] := by unfold waysL; simp
    rw [this]; rfl
  · have := cut_to (xs := waysL r 3) (e := 2)
    rw [cut_map]
    refine congrArg _ (this.trans ?_)
    rw [waysL_len]
    unfold waysL
    rw [← List.map_take, List.take_range]
    congr 2
    omega
/-- a turn of the choices -/
theorem k04_least {s : List Int} {r : List (Int × Int)} {sm : List (Int × Int)} {B : Bs} {D : Ends} {p : Addr} {w : List Int} {L : List Nat} {x2 x3 x4 x5 x6 x7 x8 x11 : Sl} (ok : RoadOk sm) (hL : Ris sm.length L) (hne : L ≠ []) (hw : w.length = sm.length)
    (k : ∀ w' : List Int, w'.length = sm.length → (∀ j, j < sm.length → w'.getD j 0 = w.getD j 0 ∨ (j + 1 = L.length ∧ w'.getD j 0 = wayL sm (nats L))) → (∀ j, j + 1 = L.length → 0 ≤ w'.getD j 0 ∧ w'.getD j 0 ≤ wayL sm (nats L)) → (∀ j, 0 ≤ w.getD j 0 → w'.getD j 0 ≤ w.getD j 0 ∧ 0 ≤ w'.getD j 0) →
      Nx K B D [.d (eInts s), .d (eRoad r), x2, x3, x4, x5, x6, x7, x8, .d (eRoad sm), .m p (w'.map .int), x11, .no, .no]) :
    RunS K B (t_law_k04_b2 K) D [.d (eInts s), .d (eRoad r), x2, x3, x4, x5, x6, x7, x8, .d (eRoad sm), .m p (w.map .int), x11, .d (eL L), .no] := by
  have hap := ris_posts hL hne
  have hlen := ris_len hL
  have hn := ok.len
  have hp : 0 < L.length := List.length_pos_iff.mpr hne
  have hge := way_ge (k := L.length) ok hL rfl hp
  have h0 := V_nonneg ok hp hlen (Nat.le_refl _)
  refine r_set (ev_wayR (evr_d (evd_at rfl)) (evr_d (evd_at rfl)) ok hap (by rw [nats_len]; omega)) ?_
  dsimp only [List.set_cons_zero, List.set_cons_succ]
  have hix : ∀ {δ : List Sl}, δ[12]? = some (.d (eL L)) → EvD K (tOp oSub (tCB (cLen K) (tCons (tVar 12) tNil)) (tC (.int 1))) δ (.int ((L.length - 1 : Nat) : Int)) := fun h => evd_is (evd_sub (evd_lenm (xs := nats L) (en := PyData.int) (evl_d (evd_at h))) evd_int) (by rw [nats_len]; congr 1; omega)
  have hit : ∀ {δ : List Sl}, δ[12]? = some (.d (eL L)) → δ[10]? = some (.m p (w.map .int)) → EvD K (tOp (oIx K) (tVar 10) (tOp oSub (tCB (cLen K) (tCons (tVar 12) tNil)) (tC (.int 1)))) δ (.int (w.getD (L.length - 1) 0)) := fun h h2 =>
    evd_is (evd_ixm (xs := w) (en := PyData.int) (evl_at h2) (hix h) (by omega) (by omega)) (by rw [Int.toNat_natCast]; rfl)
  refine r_when (evt_or (evt_test (evd_lt (hit rfl rfl) evd_int)) fun _ => evt_test (evd_lt (evd_at rfl) (hit rfl rfl))) (fun h => ?_) (fun h => ?_)
  · refine r_setIx (k := L.length - 1) rfl (evd_at rfl) (hix rfl) ?_ (r_next (nx_run (r_next ?_)))
    · rw [List.length_map]
      unfold ixN
      rw [if_pos (by omega), if_pos (by omega), Int.toNat_natCast]
    · dsimp only [List.set_cons_zero, List.set_cons_succ]
      intro σ H g
      have e : (w.map PyData.int).set (L.length - 1) (.int (wayL sm (nats L))) = (w.set (L.length - 1) (wayL sm (nats L))).map .int := by rw [List.map_set]
      rw [e] at g
      have gs : ∀ j, (w.set (L.length - 1) (wayL sm (nats L))).getD j 0 = if j = L.length - 1 then wayL sm (nats L) else w.getD j 0 := fun j => by
        by_cases z : j = L.length - 1
        · rw [if_pos z, z]
          simp [List.getD_eq_getElem?_getD, show L.length - 1 < w.length by omega]
        · rw [if_neg z, List.getD_eq_getElem?_getD, List.getElem?_set_ne (fun q => z q.symm), ← List.getD_eq_getElem?_getD]
      refine k (w.set (L.length - 1) (wayL sm (nats L))) (by rw [List.length_set]; exact hw) (fun j hj => ?_) (fun j hj => ?_) (fun j hj => ?_) σ H (g.weak (by walk_at "wk"))
      · rw [gs]
        by_cases z : j = L.length - 1
        · rw [if_pos z]; exact .inr ⟨by omega, rfl⟩
        · rw [if_neg z]; exact .inl rfl
      · rw [gs, if_pos (by omega)]
        exact ⟨by omega, Int.le_refl _⟩
      · rw [gs]
        by_cases z : j = L.length - 1
        · rw [if_pos z]
          simp only [Bool.or_eq_true, decide_eq_true_eq] at h
          rw [z] at hj ⊢
          omega
        · rw [if_neg z]; exact ⟨Int.le_refl _, hj⟩
  · refine r_next fun σ H g => ?_
    simp only [Bool.or_eq_false_iff, decide_eq_false_iff_not] at h
    refine k w hw (fun j hj => .inl rfl) (fun j hj => ?_) (fun j hj => ⟨Int.le_refl _, hj⟩) σ H (g.weak (by walk_at "wk"))
    have : j = L.length - 1 := by omega
    rw [this]
    omega
theorem tail_mem {n : Nat} {L : List Nat} (h : L ∈ (chs n).tail) : Ris n L ∧ L ≠ [] := by
  obtain ⟨R, h1, h2⟩ := chs_cons n
  rw [h1] at h
  exact ⟨chs_ris n (by rw [h1]; exact List.mem_cons_of_mem _ h), h2 L h⟩
theorem mem_tail {n : Nat} {L : List Nat} (h : Ris n L) (hne : L ≠ []) : L ∈ (chs n).tail := by
  obtain ⟨R, h1, h2⟩ := chs_cons n
  have := ris_chs n h
  rw [h1] at this ⊢
  rcases List.mem_cons.mp this with z | z
  · exact absurd z hne
  · exact z
/-- the small road -/
theorem k04_small {s : List Int} {r : List (Int × Int)} {B : Bs} {D : Ends} {p : Addr} {fo : List Int} {x2 x3 x5 x6 x7 x8 : Sl} (ok : RoadOk r) (hf : fo.length ≤ 1000) (k : RtD K B D (.bool true)) :
    RunS K B (t_law_k04_s9 K) D [.d (eInts s), .d (eRoad r), .no, .no, .m p (fo.map .int), .no, .no, .no, .no, .no, .no, .no, .no, .no] := by
  have hn := ok.len
  have oks := roadOk_slice ok (r.length - 6) r.length
  refine r_set (d := eRoad ((r.drop (r.length - 6)).take r.length)) (evd_n (evn_is (evn_sl (evl_d (evd_at rfl)) (evo_some (evd_neg evd_int)) evo_none) ?_)) ?_
  · rw [cut_map]
    exact congrArg _ (cut_end (xs := r) (k := 6) (by decide))
  have hsl : ((r.drop (r.length - 6)).take r.length).length ≤ 6 := by rw [List.length_take, List.length_drop]; omega
  generalize (r.drop (r.length - 6)).take r.length = sm at *
  dsimp only [List.set_cons_zero, List.set_cons_succ]
  refine r_setN (ds := (sm.map fun _ => (-1 : Int)).map .int) (evn_is (evn_lcL (α := Int × Int) default (xs := sm) (en := eHs) (f := fun _ => .int (-1)) (evd_at rfl) (by omega) fun x hx => evd_neg evd_int) ?_) fun q => ?_
  · rw [List.map_map]; rfl
  dsimp only [List.set_cons_zero, List.set_cons_succ]
  refine r_for (evi_listm (xs := (chs sm.length).tail) (en := eL) (evd_n (ev_law_choices (n := sm.length) (evd_lenm (xs := sm) (en := eHs) (evl_d (evd_at rfl))) hsl))) (fun i δ => ∃ w : List Int, w.length = sm.length ∧ (∀ j, j < sm.length → w.getD j 0 = -1 ∨ V sm (j + 1) sm.length ≤ w.getD j 0) ∧ (∀ L ∈ (chs sm.length).tail.take i, ∀ j, j + 1 = L.length → 0 ≤ w.getD j 0 ∧ w.getD j 0 ≤ wayL sm (nats L)) ∧
    δ = [.d (eInts s), .d (eRoad r), .no, .no, .m p (fo.map .int), .no, .no, .no, .no, .d (eRoad sm), .m q (w.map .int), .no, .no, .no]) ⟨_, WkL.refl _, sm.map fun _ => -1, by rw [List.length_map], fun j hj => .inl ?_, fun L hL => (nomatch hL), rfl⟩ (fun _ _ _ _ _ _ _ _ _ => trivial) (fun Gb hb i δ' hi hP => ?_) (fun δ' hP => ?_)
  · simp [List.getD_eq_getElem?_getD, hj]
  · obtain ⟨w, hw1, hw2, hw3, rfl⟩ := hP
    refine ⟨_, tg_name, ?_⟩
    dsimp only [List.set_cons_zero, List.set_cons_succ]
    obtain ⟨hr, hne⟩ := tail_mem (getD_mem hi)
    refine k04_least oks hr hne hw1 fun w' a1 a2 a3 a4 => nx_inv (WkL.refl _) ⟨_, rfl, w', a1, fun j hj => ?_, fun L hL j hj => ?_, rfl⟩
    · rcases a2 j hj with z | ⟨z1, z2⟩
      · rw [z]; exact hw2 j hj
      · right
        rw [z2, z1]
        exact way_ge oks hr rfl (List.length_pos_iff.mpr hne)
    · rw [take_snoc _ hi] at hL
      rcases List.mem_append.mp hL with z | z
      · obtain ⟨b1, b2⟩ := hw3 L z j hj
        obtain ⟨c1, c2⟩ := a4 j b1
        exact ⟨c2, by omega⟩
      · rw [List.mem_singleton.mp z] at hj ⊢
        exact a3 j hj
  · obtain ⟨w, hw1, hw2, hw3, rfl⟩ := hP
    rw [List.take_length] at hw3
    have hweq : w = waysL sm 6 := by
      refine List.ext_getElem (by rw [hw1, waysL_len]; omega) fun j h1 h2 => ?_
      have hj : j < sm.length := by omega
      obtain ⟨q1, q2, q3, q4⟩ := way_pb (k := j + 1) oks (by omega) (by omega)
      have hne : pb sm (j + 1) sm.length ≠ [] := by intro z; rw [z] at q2; cases q2
      obtain ⟨b1, b2⟩ := hw3 _ (mem_tail q1 hne) j q2.symm
      have e1 : w.getD j 0 = w[j] := by simp [List.getD_eq_getElem?_getD, h1]
      have e2 : (waysL sm 6).getD j default = (waysL sm 6)[j] := by simp [List.getD_eq_getElem?_getD, h2]
      rw [← e2, waysL_get sm (by omega), ← e1]
      rcases hw2 j hj with z | z
      · omega
      · omega
    subst hweq
    refine r_skip (evt_test (evd_neSame (d := eInts (waysL sm 6)) (evr_n (ev_ways (m := 6) (evd_at rfl) (evd_is evd_int rfl) oks)) (evr_l (evl_at rfl)) (shp_ints _) (by decide))) ?_
    refine r_app rfl evd_int (by rw [List.length_map]; omega) ?_
    dsimp only [List.set_cons_zero, List.set_cons_succ]
    exact k04_last ok k
theorem run_law_k04 (co : COk K (He.ga K "Best")) : ∀ ds d, R_law ds d → ∀ B D, RtD K B D d → (d = .none → ∀ δ, Nx K B D δ) → RunS K B (t_law_k04 K) D (ds.map Sl.d ++ List.replicate (14 - ds.length) Sl.no) := by
  rintro _ _ ⟨s, rfl, hs, rfl⟩ B D k _
  show RunS K B (t_law_k04 K) D [.d (eInts s), .no, .no, .no, .no, .no, .no, .no, .no, .no, .no, .no, .no, .no]
  have ok := roadOk_law hs
  have hl := lawRoad_len hs
  refine r_set (evd_n (ev_law_road (evd_at rfl) hs)) ?_
  dsimp only [List.set_cons_zero, List.set_cons_succ]
  generalize lawRoad s = r at *
  have okp := roadOk_slice ok 0 (min 14 r.length)
  refine r_set (d := eRoad ((r.drop 0).take (min 14 r.length))) (evd_n (evn_is (evn_sl (evl_d (evd_at rfl)) evo_none (evo_some evd_int)) ?_)) ?_
  · rw [cut_map]
    exact congrArg _ (cut_to' (xs := r) (e := 14))
  have hpl : ((r.drop 0).take (min 14 r.length)).length ≤ 14 := by rw [List.length_take]; omega
  generalize (r.drop 0).take (min 14 r.length) = pt at *
  dsimp only [List.set_cons_zero, List.set_cons_succ]
  refine r_set (evd_n (evn_list (evl_d (evd_at rfl)))) ?_
  dsimp only [List.set_cons_zero, List.set_cons_succ]
  refine r_setN (ev_ways (r := pt) (m := pt.length + 2) (evd_at rfl) (evd_is (evd_add (evd_lenm (xs := pt) (en := eHs) (evl_d (evd_at rfl))) evd_int) rfl) okp) fun p => ?_
  dsimp only [List.set_cons_zero, List.set_cons_succ]
  have hwl : (waysL pt (pt.length + 2)).length = pt.length := by rw [waysL_len]; omega
  have hwg : ∀ j, j < pt.length → (waysL pt (pt.length + 2)).getD j default = V pt (j + 1) pt.length := fun j hj => waysL_get pt (by omega)
  generalize waysL pt (pt.length + 2) = fo at *
  refine r_skip (evt_or_ff (evt_is (evt_not (evt_B (ev_law_numbers (evr_l (evl_at rfl)) (by omega)))) rfl) (evt_or_ff (evt_is (evt_test (evd_neI (evd_lenm (xs := fo) (en := PyData.int) (evl_at rfl)) (evd_lenm (xs := pt) (en := eHs) (evl_d (evd_at rfl))))) ?_) (evt_test (evd_neSame (evr_d (evd_at rfl)) (evr_d (evd_at rfl)) (shp_road _) (by decide))))) ?_
  · rw [hwl, decide_eq_true rfl]; rfl
  refine r_skip (evt_is (evt_and (evt_test (evd_neE (evr_d (evd_at rfl)) ((shp_road _).ok (by decide)))) fun h => evt_test (evd_neI (evd_ixl (xs := fo) (en := PyData.int) (evl_at rfl) ?_) evd_int)) ?_) ?_
  · rw [map_nil] at h
    rintro z
    rw [z] at hwl
    have : pt = [] := List.length_eq_zero_iff.mp hwl.symm
    rw [this] at h
    cases h
  · rw [map_nil]
    by_cases z : pt = []
    · rw [z]; rfl
    · have hp : 0 < pt.length := List.length_pos_iff.mpr z
      rw [hwl, hwg (pt.length - 1) (by omega)]
      have e : pt.length - 1 + 1 = pt.length := by omega
      rw [e, V_all okp (by omega) (Nat.le_refl _), decide_eq_true rfl, Bool.not_true, Bool.and_false]
  -- the falls
  refine r_set (d := eInts ((List.range (pt.length - 1)).map fun j => V pt (j + 1) pt.length - V pt (j + 2) pt.length)) (evd_is (evd_n (evn_lcZ (m := (pt.length : Int) - 1) (f := fun j => .int (V pt (j + 1) pt.length - V pt (j + 2) pt.length)) (evd_is (evd_sub (evd_lenm (xs := fo) (en := PyData.int) (evl_at rfl)) evd_int) (by rw [hwl])) (by omega) (by omega) fun j hj => ?_)) ?_) ?_
  · refine evd_is (evd_sub (evd_ixm (xs := fo) (en := PyData.int) (i := (j : Int)) (evl_at rfl) (evd_at rfl) (by omega) (by omega)) (evd_ixm (xs := fo) (en := PyData.int) (i := (j : Int) + 1) (evl_at rfl) (evd_add (evd_at rfl) evd_int) (by omega) (by omega))) ?_
    rw [Int.toNat_natCast, toNat_add1, hwg j (by omega), hwg (j + 1) (by omega)]
  · unfold eInts
    rw [List.map_map]
    have : ((pt.length : Int) - 1).toNat = pt.length - 1 := by omega
    rw [this]
    rfl
  dsimp only [List.set_cons_zero, List.set_cons_succ]
  have hFl : ((List.range (pt.length - 1)).map fun j => V pt (j + 1) pt.length - V pt (j + 2) pt.length).length = pt.length - 1 := by rw [List.length_map, List.length_range]
  have hFg : ∀ j, j < pt.length - 1 → ((List.range (pt.length - 1)).map fun j => V pt (j + 1) pt.length - V pt (j + 2) pt.length).getD j default = V pt (j + 1) pt.length - V pt (j + 2) pt.length := fun j hj => by simp [List.getD_eq_getElem?_getD, hj]
  have hFm : ∀ x ∈ (List.range (pt.length - 1)).map fun j => V pt (j + 1) pt.length - V pt (j + 2) pt.length, 0 ≤ x := fun x hx => by
    obtain ⟨j, hj, rfl⟩ := List.mem_map.mp hx
    have := List.mem_range.mp hj
    have := V_fall0 okp (k := j + 1) (by omega) (by omega)
    have e : j + 1 + 1 = j + 2 := rfl
    rw [e] at this
    omega
  generalize ((List.range (pt.length - 1)).map fun j => V pt (j + 1) pt.length - V pt (j + 2) pt.length) = F at *
  refine r_skip (evt_or_ff (evt_is (evt_B (evd_any (ns := F.map fun x => decide (x < 0)) (evl_is (evl_n (evn_lcL (α := Int) default (xs := F) (en := PyData.int) (f := fun x => .bool (decide (x < 0))) (evd_at rfl) (by omega) fun x hx => evd_lt (evd_at rfl) evd_int)) ?_))) ?_) (evt_is (evt_B (evd_any (ns := (List.range ((F.length : Int) - 1).toNat).map fun j => decide (F.getD j default < F.getD (j + 1) default)) (evl_is (evl_n (evn_lcZ (m := (F.length : Int) - 1) (f := fun j => .bool (decide (F.getD j default < F.getD (j + 1) default))) (evd_sub (evd_lenm (xs := F) (en := PyData.int) (evl_d (evd_at rfl))) evd_int) (by omega) (by omega) fun j hj => ?_)) ?_))) ?_)) ?_
  · rw [List.map_map]; rfl
  · rw [List.any_map, List.any_eq_false]
    intro x hx
    have := hFm x hx
    simp
    omega
  · refine evd_is (evd_lt (evd_ixm (xs := F) (en := PyData.int) (i := (j : Int)) (evl_d (evd_at rfl)) (evd_at rfl) (by omega) (by omega)) (evd_ixm (xs := F) (en := PyData.int) (i := (j : Int) + 1) (evl_d (evd_at rfl)) (evd_add (evd_at rfl) evd_int) (by omega) (by omega))) ?_
    rw [Int.toNat_natCast, toNat_add1]
  · rw [List.map_map]; rfl
  · rw [List.any_map, List.any_eq_false]
    intro j hj
    have hj := List.mem_range.mp hj
    rw [hFl] at hj
    have b := V_bend okp (k := j) (n := pt.length) (Nat.le_refl _) (by omega)
    simp only [Function.comp_apply, id, decide_eq_true_eq]
    rw [hFg j (by omega), hFg (j + 1) (by omega)]
    have e1 : j + 1 + 1 = j + 2 := rfl
    have e2 : j + 1 + 2 = j + 3 := rfl
    rw [e1, e2]
    omega
  -- the best posts' ways
  have hcnt : ((pt.length : Int) + 3 - 1) / 3 = (((pt.length + 2) / 3 : Nat) : Int) := by omega
  refine r_forE (evi_range3 evd_int (evd_add (evd_lenm (xs := pt) (en := eHs) (evl_d (evd_at rfl))) evd_int) evd_int (rgc_from1 (n := pt.length) (c := 3) (by decide) (by decide) (by omega) hcnt)) (fun i => [.d (eInts s), .d (eRoad r), .d (eRoad pt), .d (eRoad pt), .m p (fo.map .int), .d (eInts F), .no, .no, .no, .no, .no, .no, .no, .no]) (by walk_at "wk") (fun Gb hb i hi => ⟨_, tg_name, ?_⟩) ?_
  · dsimp only [List.set_cons_zero, List.set_cons_succ]
    have hm : 1 + i * 3 ≤ pt.length := by omega
    obtain ⟨q1, q2, q3, q4⟩ := way_pb (r := pt) (k := 1 + i * 3) okp (by omega) hm
    refine r_skip (evt_is (evt_test (evd_neI (ev_wayR (evr_d (evd_at rfl)) (evr_l (evl_posts co (evb_n (ev_best (m := 1 + i * 3) (evd_at rfl) (evd_is (evd_at rfl) (show PyData.int (1 + (i : Int) * 3) = .int ((1 + i * 3 : Nat) : Int) by congr 1)) (by omega) hm okp)))) okp q3 (by rw [nats_len, q2]; omega)) (evd_ixm (xs := fo) (en := PyData.int) (evl_at rfl) (evd_sub (evd_at rfl) evd_int) (by omega) (by omega)))) ?_) (r_next (nx_env ?_))
    · have e : ((1 : Int) + (i : Int) * 3 - 1).toNat = i * 3 := by omega
      rw [q4, e, hwg (i * 3) (by omega)]
      have e2 : 1 + i * 3 = i * 3 + 1 := by omega
      rw [e2, decide_eq_true rfl]; rfl
    · walk_at "wk"
  · refine RunS.weak (δ' := [.d (eInts s), .d (eRoad r), .no, .no, .m p (fo.map .int), .no, .no, .no, .no, .no, .no, .no, .no, .no]) (by walk_at "wk") ?_
    exact k04_small (x2 := .no) (x3 := .no) (x5 := .no) (x6 := .no) (x7 := .no) (x8 := .no) ok (by omega) k
end
end Ph

set_option Elab.async false
set_option linter.all false
set_option maxRecDepth 100000
set_option maxHeartbeats 2000000
namespace Ph
open PySem PySem.Spec L2
/-! ### what an answer says of itself -/
def BndOk (r : List (Int × Int)) (bs : List Int) (fee : Int) : Prop := bs.length = r.length + 1 ∧ bs.getD 0 0 = 0 ∧ ∀ f, f < r.length → ∀ j, j < r.length - f → bs.getD (f + 1 + j) 0 - bs.getD f 0 ≤ wv r f (f + 1 + j) + fee
instance (r : List (Int × Int)) (bs : List Int) (fee : Int) : Decidable (BndOk r bs fee) := by unfold BndOk; infer_instance
def boundsB (r : List (Int × Int)) (bs : List Int) (fee : Int) : Bool := decide (BndOk r bs fee)
def bestB (r : List (Int × Int)) (many : Int) (ps bs : List Int) (fee : Int) : Bool :=
  decide ((ps.length : Int) = many) && (arePosts r.length ps && (boundsB r bs fee && decide (bs.getD (bs.length - 1) 0 - many * fee = wayL r ps)))
def paidB (r : List (Int × Int)) (ps bs : List Int) (fee : Int) : Bool :=
  arePosts r.length ps && (boundsB r bs fee && decide (bs.getD (bs.length - 1) 0 = wayL r ps + (ps.length : Int) * fee))
def owL (r : List (Int × Int)) (f : Nat) : List Int := (List.range (r.length - f)).map fun j => wv r f (f + 1 + j)
theorem owL_len (r : List (Int × Int)) (f : Nat) : (owL r f).length = r.length - f := by unfold owL; rw [List.length_map, List.length_range]
theorem owL_get (r : List (Int × Int)) {f j : Nat} (h : j < r.length - f) : (owL r f).getD j default = wv r f (f + 1 + j) := by
  unfold owL
  simp [List.getD_eq_getElem?_getD, h]
def R_are_bounds : List PyData → PyData → Prop := fun ds d => ∃ (r : List (Int × Int)) (bs : List Int) (fee : Int), ds = [eRoad r, eInts bs, .int fee] ∧ RoadOk r ∧ d = .bool (boundsB r bs fee)
def R_law_bounds : List PyData → PyData → Prop := R_are_bounds
/-- asked of an answer by best: road, many, the answer (in either order) -/
def R_Best_shows (C : Addr) : List Ad → Bool → Prop := fun as b => ∃ (r : List (Int × Int)) (many : Int) (ps bs : List Int) (fee : Int), as = [.o C ps bs (some fee), .d (eRoad r), .d (.int many)] ∧ RoadOk r ∧ ps.length ≤ 1000 ∧ many.natAbs < 2 ^ 1000 ∧ fee.natAbs < 2 ^ 1000 ∧ b = bestB r many ps bs fee
def R_Paid_shows (C : Addr) : List Ad → Bool → Prop := fun as b => ∃ (r : List (Int × Int)) (fee : Int) (ps bs : List Int), as = [.o C ps bs none, .d (eRoad r), .d (.int fee)] ∧ RoadOk r ∧ ps.length ≤ 1000 ∧ fee.natAbs < 2 ^ 1000 ∧ b = paidB r ps bs fee
def sp_Best_shows (K : PySem.W.Frag) : Sp := PrB K (R_Best_shows (He.ga K "Best"))
def sp_Paid_shows (K : PySem.W.Frag) : Sp := PrB K (R_Paid_shows (He.ga K "Paid"))
theorem len_Best_shows {C : Addr} : ∀ as b, R_Best_shows C as b → as.length = 3 := by rintro _ _ ⟨_, _, _, _, _, rfl, _⟩; rfl
theorem len_Paid_shows {C : Addr} : ∀ as b, R_Paid_shows C as b → as.length = 3 := by rintro _ _ ⟨_, _, _, _, rfl, _⟩; rfl
def R_law_way : List PyData → PyData → Prop := fun ds d => ∃ (r : List (Int × Int)) (ps : List Int), ds = [eRoad r, eInts ps] ∧ RoadOk r ∧ ps.length ≤ 1000 ∧ arePosts r.length ps = true ∧ d = .int (wayL r ps)
def R_law_one_ways : List PyData → List PyData → Prop := fun ds d => ∃ (r : List (Int × Int)) (f : Nat), ds = [eRoad r, .int (f : Int)] ∧ RoadOk r ∧ f < r.length ∧ d = (owL r f).map .int
def R_law_rising : List PyData → PyData → Prop := fun ds d => ∃ (r : List (Int × Int)) (ps : List Int), ds = [eRoad r, eInts ps] ∧ r.length ≤ 1000 ∧ ps.length < 64 ∧ d = .bool (arePosts r.length ps)
def sp_are_bounds (K : PySem.W.Frag) : Sp := Pr K R_are_bounds
def sp_law_bounds (K : PySem.W.Frag) : Sp := Pr K R_law_bounds
def sp_law_way (K : PySem.W.Frag) : Sp := Pr K R_law_way
def sp_law_one_ways (K : PySem.W.Frag) : Sp := PrN K R_law_one_ways
def sp_law_rising (K : PySem.W.Frag) : Sp := Pr K R_law_rising
theorem len_are_bounds : ∀ ds d, R_are_bounds ds d → ds.length = 3 := by rintro _ _ ⟨_, _, _, rfl, _⟩; rfl
theorem len_law_bounds : ∀ ds d, R_law_bounds ds d → ds.length = 3 := by rintro _ _ ⟨_, _, _, rfl, _⟩; rfl
theorem len_law_way : ∀ ds d, R_law_way ds d → ds.length = 2 := by rintro _ _ ⟨_, _, rfl, _⟩; rfl
theorem len_law_one_ways : ∀ ds d, R_law_one_ways ds d → ds.length = 2 := by rintro _ _ ⟨_, _, rfl, _⟩; rfl
theorem len_law_rising : ∀ ds d, R_law_rising ds d → ds.length = 2 := by rintro _ _ ⟨_, _, rfl, _⟩; rfl
end Ph

set_option Elab.async false
set_option linter.all false
set_option maxRecDepth 100000
namespace Ph
open PySem PySem.Spec L2
def t_are_bounds (K : PySem.W.Frag) : TS := (tSeq (tIfS (tOr (tTest (tOp oNeI (tCB (cLen K) (tCons (tVar 1) tNil)) (tOp oAdd (tCB (cLen K) (tCons (tVar 0) tNil)) (tC (.int 1))))) (tTest (tOp oNeI (tOp (oIx K) (tVar 1) (tC (.int 0))) (tC (.int 0)))))
   (tSeq (tRet (tC (.bl false)))
  tNext) tNext)
  (tSeq (tFor (iEnum K (tCons (tCall (sp_middles K) [] E0 (tCons (tVar 0) tNil)) tNil)) (gTup K 2 (gCons (gName 3) (gCons (gName 4) gNil)))
   (tSeq (tFor (iEnum K (tCons (tVar 4) tNil)) (gTup K 2 (gCons (gName 5) (gCons (gName 6) gNil)))
   (tSeq (tIfS (tTest (tOp oGt (tOp oSub (tOp (oIx K) (tVar 1) (tOp oAdd (tOp oAdd (tVar 3) (tC (.int 1))) (tVar 5))) (tOp (oIx K) (tVar 1) (tVar 3))) (tOp oAdd (tOp (oIxT K) (tVar 6) (tC (.int 1))) (tVar 2))))
   (tSeq (tRet (tC (.bl false)))
  tNext) tNext)
  tNext))
  tNext))
  (tSeq (tRet (tC (.bl true)))
  tNext)))
def t_law_way (K : PySem.W.Frag) : TS := (tSeq (tAsg (tC (.int 0)) (gName 2))
  (tSeq (tFor (iList K (tVar 0)) (gTup K 2 (gCons (gName 3) (gCons (gName 4) gNil)))
   (tSeq (tAsg (tOp oAdd (tVar 2) (tOp oMulW (tVar 4) (tCB (cMin K) (tCons (tLc (iList K (tVar 1)) (gName 5) tYes (tCB cAbs (tCons (tOp oSub (tVar 3) (tOp (oIxT K) (tOp (oIx K) (tVar 0) (tVar 5)) (tC (.int 0)))) tNil)) [5]) tNil)))) (gName 2))
  tNext))
  (tSeq (tRet (tVar 2))
  tNext)))
def t_law_one_ways (K : PySem.W.Frag) : TS := (tSeq (tAsg (tLst tNil) (gName 2))
  (tSeq (tAsg (tVar 1) (gName 3))
  (tSeq (tAsg (tC (.int 0)) (gName 4))
  (tSeq (tAsg (tC (.int 0)) (gName 5))
  (tSeq (tAsg (tC (.int 0)) (gName 6))
  (tSeq (tFor (iList K (tSl (oSl K) (tVar 0) (tPart (tVar 1)) tNoPart)) (gTup K 2 (gCons (gName 7) (gCons (gName 8) gNil)))
   (tSeq (tAsg (tOp oAdd (tVar 6) (tOp oMulW (tVar 8) (tOp oSub (tVar 7) (tOp (oIxT K) (tOp (oIx K) (tVar 0) (tVar 3)) (tC (.int 0)))))) (gName 6))
  (tSeq (tAsg (tOp oAdd (tVar 5) (tVar 8)) (gName 5))
  (tSeq (tWhile (tTest (tOp oLt (tOp oMul (tC (.int 2)) (tOp oAdd (tVar 4) (tOp (oIxT K) (tOp (oIx K) (tVar 0) (tVar 3)) (tC (.int 1))))) (tVar 5)))
   (tSeq (tAsg (tOp oAdd (tVar 4) (tOp (oIxT K) (tOp (oIx K) (tVar 0) (tVar 3)) (tC (.int 1)))) (gName 4))
  (tSeq (tAsg (tOp oSub (tOp (oIxT K) (tOp (oIx K) (tVar 0) (tOp oAdd (tVar 3) (tC (.int 1)))) (tC (.int 0))) (tOp (oIxT K) (tOp (oIx K) (tVar 0) (tVar 3)) (tC (.int 0)))) (gName 9))
  (tSeq (tAsg (tOp oAdd (tVar 6) (tOp oMulW (tVar 9) (tOp oSub (tOp oMul (tC (.int 2)) (tVar 4)) (tVar 5)))) (gName 6))
  (tSeq (tAsg (tOp oAdd (tVar 3) (tC (.int 1))) (gName 3))
  tNext)))))
  (tSeq (tDrop (tBM K "list" rAppend (tVar 2) (tCons (tVar 6) tNil)))
  tNext)))))
  (tSeq (tRet (tVar 2))
  tNext)))))))
def t_law_bounds (K : PySem.W.Frag) : TS := (tSeq (tIfS (tOr (tTest (tOp oNeI (tCB (cLen K) (tCons (tVar 1) tNil)) (tOp oAdd (tCB (cLen K) (tCons (tVar 0) tNil)) (tC (.int 1))))) (tTest (tOp oNeI (tOp (oIx K) (tVar 1) (tC (.int 0))) (tC (.int 0)))))
   (tSeq (tRet (tC (.bl false)))
  tNext) tNext)
  (tSeq (tFor (iRng1 (tCons (tCB (cLen K) (tCons (tVar 0) tNil)) tNil)) (gName 3)
   (tSeq (tFor (iEnum K (tCons (tCall (sp_law_one_ways K) [] E0 (tCons (tVar 0) (tCons (tVar 3) tNil))) tNil)) (gTup K 2 (gCons (gName 4) (gCons (gName 5) gNil)))
   (tSeq (tIfS (tTest (tOp oGt (tOp oSub (tOp (oIx K) (tVar 1) (tOp oAdd (tOp oAdd (tVar 3) (tC (.int 1))) (tVar 4))) (tOp (oIx K) (tVar 1) (tVar 3))) (tOp oAdd (tVar 5) (tVar 2))))
   (tSeq (tRet (tC (.bl false)))
  tNext) tNext)
  tNext))
  tNext))
  (tSeq (tRet (tC (.bl true)))
  tNext)))
end Ph

set_option Elab.async false
set_option linter.all false
set_option maxRecDepth 100000
set_option maxHeartbeats 2000000
namespace Ph
open PySem PySem.Spec L2
section
variable {K : PySem.W.Frag} {δ : List Sl} {ta tb tc td te tj : TE} {d e f : PyData}
local macro_rules | `(tactic| walk_at "wk") => `(tactic| first | exact WkL.nil | (refine' WkL.same ?_; walk_at "wk") | (refine' WkL.drop ?_; walk_at "wk"))
theorem bnd_no {r : List (Int × Int)} {bs : List Int} {fee : Int} (h : ¬ BndOk r bs fee) : boundsB r bs fee = false := decide_eq_false h
/-- bounds[first + 1 + at] - bounds[first] -/
theorem ev_gap {bs : List Int} {f j : Nat} {t1 t2 t3 : TE} (ha : EvL K ta δ (bs.map .int)) (hb : EvL K tb δ (bs.map .int)) (h1 : EvD K t1 δ (.int (f : Int))) (h2 : EvD K t2 δ (.int (j : Int))) (h3 : EvD K t3 δ (.int (f : Int))) (hl : f + 1 + j < bs.length) :
    EvD K (tOp oSub (tOp (oIx K) ta (tOp oAdd (tOp oAdd t1 (tC (.int 1))) t2)) (tOp (oIx K) tb t3)) δ (.int (bs.getD (f + 1 + j) 0 - bs.getD f 0)) := by
  refine evd_is (evd_sub (evd_ixm (xs := bs) (en := PyData.int) (i := (f : Int) + 1 + (j : Int)) ha (evd_add (evd_add h1 evd_int) h2) (by omega) (by omega)) (evd_ixm (xs := bs) (en := PyData.int) (i := (f : Int)) hb h3 (by omega) (by omega))) ?_
  have e : ((f : Int) + 1 + (j : Int)).toNat = f + 1 + j := by omega
  rw [e, Int.toNat_natCast]
  rfl
theorem run_are_bounds : ∀ ds d, R_are_bounds ds d → ∀ B D, RtD K B D d → (d = .none → ∀ δ, Nx K B D δ) → RunS K B (t_are_bounds K) D (ds.map Sl.d ++ List.replicate (7 - ds.length) Sl.no) := by
  rintro _ _ ⟨r, bs, fee, rfl, ok, rfl⟩ B D k _
  show RunS K B (t_are_bounds K) D [.d (eRoad r), .d (eInts bs), .d (.int fee), .no, .no, .no, .no]
  have hn := ok.len
  refine r_when (evt_or (evt_test (evd_neI (evd_lenm (xs := bs) (en := PyData.int) (evl_d (evd_at rfl))) (evd_add (evd_lenm (xs := r) (en := eHs) (evl_d (evd_at rfl))) evd_int))) fun h => evt_test (evd_neI (evd_ixm (xs := bs) (en := PyData.int) (i := 0) (evl_d (evd_at rfl)) evd_int (by decide) ?_) evd_int)) (fun h => ?_) (fun h => ?_)
  · simp only [Bool.not_eq_false', decide_eq_true_eq] at h
    omega
  · refine r_ret (evd_is evd_bl ?_) k
    rw [bnd_no]
    rintro ⟨h1, h2, _⟩
    have h2' : bs.getD (0 : Int).toNat default = 0 := h2
    rw [decide_eq_true (show (bs.length : Int) = r.length + 1 by omega), h2'] at h
    cases h
  · simp only [Bool.or_eq_false_iff, Bool.not_eq_false', decide_eq_true_eq] at h
    obtain ⟨hl, h0⟩ := h
    have hl : bs.length = r.length + 1 := by omega
    have h0 : bs.getD 0 0 = 0 := h0
    have hi1 := evi_enumm (K := K) (δ := [.d (eRoad r), .d (eInts bs), .d (.int fee), .no, .no, .no, .no]) (xs := midT r) (en := eRow) (evd_n (ev_middles (evd_at (n := 0) rfl) ok))
    rw [midT_len] at hi1
    refine r_for hi1 (fun i δ => (∀ f, f < i → ∀ j, j < r.length - f → bs.getD (f + 1 + j) 0 - bs.getD f 0 ≤ wv r f (f + 1 + j) + fee) ∧ δ = [.d (eRoad r), .d (eInts bs), .d (.int fee), .no, .no, .no, .no]) ⟨_, WkL.refl _, fun f hf => absurd hf (by omega), rfl⟩ (fun _ _ _ _ _ _ _ _ _ => trivial) (fun Gb hb i δ' hi hP => ?_) (fun δ' hP => ?_)
    · obtain ⟨hA, rfl⟩ := hP
      refine ⟨_, tg_tup (tgs_cons tg_name (tgs_cons tg_name tgs_nil)) rfl, ?_⟩
      dsimp only [List.set_cons_zero, List.set_cons_succ]
      rw [midT_get r hi]
      have hi2 := evi_enumm (K := K) (δ := [.d (eRoad r), .d (eInts bs), .d (.int fee), .d (.int (i : Int)), .d (eRow (rowOf r i)), .no, .no]) (xs := rowOf r i) (en := eHs) (evd_at (n := 4) rfl)
      rw [rowOf_len] at hi2
      refine r_for hi2 (fun j δ => (∀ q, q < j → bs.getD (i + 1 + q) 0 - bs.getD i 0 ≤ wv r i (i + 1 + q) + fee) ∧ δ = [.d (eRoad r), .d (eInts bs), .d (.int fee), .d (.int (i : Int)), .d (eRow (rowOf r i)), .no, .no]) ⟨_, WkL.refl _, fun f hf => absurd hf (by omega), rfl⟩ (fun _ _ _ _ _ _ _ _ _ => trivial) (fun Gb2 hb2 j δ' hj hP => ?_) (fun δ' hP => ?_)
      · obtain ⟨hB, rfl⟩ := hP
        refine ⟨_, tg_tup (tgs_cons tg_name (tgs_cons tg_name tgs_nil)) rfl, ?_⟩
        dsimp only [List.set_cons_zero, List.set_cons_succ]
        rw [rowOf_get r hj]
        refine r_when (evt_test (evd_gt (ev_gap (f := i) (j := j) (evl_d (evd_at rfl)) (evl_d (evd_at rfl)) (evd_at rfl) (evd_at rfl) (evd_at rfl) (by omega)) (evd_add (evd_ixt1 (evd_at rfl)) (evd_at rfl)))) (fun h => ?_) (fun h => ?_)
        · have h := of_decide_eq_true h
          refine r_ret (evd_is evd_bl ?_) k
          rw [bnd_no]
          rintro ⟨_, _, h3⟩
          have := h3 i hi j hj
          have e : (cell r i j).2 = wv r i (i + 1 + j) := rfl
          omega
        · have h := of_decide_eq_false h
          refine r_next (nx_inv (by walk_at "wk") ⟨_, rfl, fun q hq => ?_, rfl⟩)
          by_cases z : q = j
          · rw [z]
            have e : (cell r i j).2 = wv r i (i + 1 + j) := rfl
            omega
          · exact hB q (by omega)
      · obtain ⟨hB, rfl⟩ := hP
        refine r_next (nx_inv (by walk_at "wk") ⟨_, rfl, fun f hf => ?_, rfl⟩)
        by_cases z : f = i
        · rw [z]; exact hB
        · exact hA f (by omega)
    · obtain ⟨hA, rfl⟩ := hP
      refine r_ret (evd_is evd_bl ?_) k
      unfold boundsB
      rw [decide_eq_true ⟨hl, h0, hA⟩]
theorem ev_are_bounds {r : List (Int × Int)} {bs : List Int} {fee : Int} (ha : EvR K ta δ (eRoad r)) (hb : EvR K tb δ (eInts bs)) (hc : EvR K tc δ (.int fee)) (ok : RoadOk r) : EvD K (tCall (sp_are_bounds K) [] E0 (tCons ta (tCons tb (tCons tc tNil)))) δ (.bool (boundsB r bs fee)) :=
  evd_callR (ear_cons ha (ear_cons hb (ear_cons hc ear_nil))) ⟨r, bs, fee, rfl, ok, rfl⟩ rfl
theorem run_law_one_ways : ∀ ds d, R_law_one_ways ds d → ∀ B D, RtN K B D d → RunS K B (t_law_one_ways K) D (ds.map Sl.d ++ List.replicate (10 - ds.length) Sl.no) := by
  rintro _ _ ⟨r, f, rfl, ok, hf, rfl⟩ B D k
  show RunS K B (t_law_one_ways K) D [.d (eRoad r), .d (.int f), .no, .no, .no, .no, .no, .no, .no, .no]
  have hn := ok.len
  have mid0 : mid r f (f + 0) = f := by
    unfold mid
    exact mAdv_stop (fun z => absurd z.1 (by omega))
  refine r_setN (ds := ((List.range 0).map fun j => wv r f (f + 1 + j)).map .int) (evn_lst ea_nil (by simp)) fun p => ?_
  refine r_set (d := .int ((mid r f (f + 0) : Nat) : Int)) (evd_is (evd_at rfl) (by rw [mid0])) ?_
  dsimp only [List.set_cons_zero, List.set_cons_succ]
  refine r_set (d := .int (sM r (mid r f (f + 0)) - sM r f)) (evd_is evd_int (by rw [mid0, Int.sub_self])) ?_
  refine r_set (d := .int (sM r (f + 0) - sM r f)) (evd_is evd_int (by rw [Nat.add_zero, Int.sub_self])) ?_
  refine r_set (d := .int (cst r f (f + 0) (mid r f (f + 0)))) (evd_is evd_int (by unfold cst; rw [Nat.add_zero, Int.sub_self])) ?_
  dsimp only [List.set_cons_zero, List.set_cons_succ]
  have hcut : cut r (some (f : Int)) none = (r.drop f).take (r.length - f) := by
    have a : HT.sIx r.length 0 (some (f : Int)) = f := by rw [HT.sIx_nat]; omega
    have b : HT.sIx r.length r.length none = r.length := rfl
    unfold cut
    rw [a, b]
  have hSl : ((r.drop f).take (r.length - f)).length = r.length - f := by simp
  have hSg : ∀ i, i < r.length - f → ((r.drop f).take (r.length - f)).getD i default = r.getD (f + i) default := fun i hi => by
    rw [slice_eq (by omega) (Nat.le_refl _)]
    simp [List.getD_eq_getElem?_getD, hi]
  have hi1 := evi_listm (K := K) (δ := [.d (eRoad r), .d (.int f), .m p (((List.range 0).map fun j => wv r f (f + 1 + j)).map .int), .d (.int ((mid r f (f + 0) : Nat) : Int)), .d (.int (sM r (mid r f (f + 0)) - sM r f)), .d (.int (sM r (f + 0) - sM r f)), .d (.int (cst r f (f + 0) (mid r f (f + 0)))), .no, .no, .no]) (tl := tSl (oSl K) (tVar 0) (tPart (tVar 1)) tNoPart) (xs := (r.drop f).take (r.length - f)) (en := eHs) (evd_n (evn_is (evn_sl (evl_d (evd_at rfl)) (evo_some (evd_at rfl)) evo_none) (by rw [cut_map, hcut])))
  rw [hSl] at hi1
  refine r_for hi1 (fun j δ => δ = [.d (eRoad r), .d (.int f), .m p (((List.range j).map fun j => wv r f (f + 1 + j)).map .int), .d (.int ((mid r f (f + j) : Nat) : Int)), .d (.int (sM r (mid r f (f + j)) - sM r f)), .d (.int (sM r (f + j) - sM r f)), .d (.int (cst r f (f + j) (mid r f (f + j)))), .no, .no, .no]) ⟨_, by walk_at "wk", rfl⟩ (fun _ _ _ _ _ _ _ _ _ => trivial) (fun Gb hb j δ' hj hP => ?_) (fun δ' hP => ?_)
  · subst hP
    refine ⟨_, tg_tup (tgs_cons tg_name (tgs_cons tg_name tgs_nil)) rfl, ?_⟩
    dsimp only [List.set_cons_zero, List.set_cons_succ]
    rw [hSg j hj]
    have ht := mid_turn ok f j
    obtain ⟨g1, g2⟩ := mid_lt' r f j
    generalize mid r f (f + j) = b0 at *
    have hm := getD_mem (xs := r) (i := f + j) (by omega)
    have ec : cst r f (f + 1 + j) b0 = cst r f (f + j) b0 + gc r b0 (f + j) := by
      have : f + 1 + j = f + j + 1 := by omega
      rw [this]
      unfold cst
      show sumTo (gc r b0) (f + j) + gc r b0 (f + j) - _ = _
      omega
    have egc : gc r b0 (f + j) = ls r (f + j) * (xs r (f + j) - xs r b0) := by
      unfold gc
      have := xs_le ok (show b0 ≤ f + j by omega) (by omega)
      congr 1
      omega
    refine r_set (d := .int (cst r f (f + 1 + j) b0)) (evd_is (evd_add (evd_at rfl) (evd_mulW (evd_at rfl) (evd_sub (evd_at rfl) (ev_xs (r := r) (p := b0) (evl_d (evd_at rfl)) (evd_at rfl) (by omega))) (big_mul (up_big (ok.big _ hm).2) ?_))) ?_) ?_
    · have a1 := (ok.big _ hm).1
      have a2 := xs_big ok b0
      have h2 : (2 : Nat) ^ 300 + 2 ^ 300 ≤ 2 ^ 1000 := by decide +kernel
      omega
    · rw [ec, egc]; rfl
    dsimp only [List.set_cons_zero, List.set_cons_succ]
    refine r_set (d := .int (sM r (f + 1 + j) - sM r f)) (evd_is (evd_add (evd_at rfl) (evd_at rfl)) ?_) ?_
    · have e1 : f + 1 + j = f + j + 1 := by omega
      have e2 : sM r (f + j + 1) = sM r (f + j) + (r.getD (f + j) default).2 := rfl
      rw [e1, e2]
      congr 1; omega
    dsimp only [List.set_cons_zero, List.set_cons_succ]
    refine r_while (fun m δ => ∃ (b : Nat) (x9 : Sl), m = (f + 1 + j) - b ∧ mAdv r f (f + 1 + j) b = mid r f (f + 1 + j) ∧ f ≤ b ∧ b < f + 1 + j ∧ δ = [.d (eRoad r), .d (.int f), .m p (((List.range j).map fun j => wv r f (f + 1 + j)).map .int), .d (.int (b : Int)), .d (.int (sM r b - sM r f)), .d (.int (sM r (f + 1 + j) - sM r f)), .d (.int (cst r f (f + 1 + j) b)), .d (.int (r.getD (f + j) default).1), .d (.int (r.getD (f + j) default).2), x9]) _ ⟨_, WkL.refl _, b0, _, rfl, ht, g1, g2, rfl⟩ ?_
    rintro m _ ⟨b, x9, rfl, hb1, hb2, hb3, rfl⟩
    have hlet : ∀ {δ : List Sl}, δ[0]? = some (.d (eRoad r)) → δ[3]? = some (.d (.int (b : Int))) → EvD K (tOp (oIxT K) (tOp (oIx K) (tVar 0) (tVar 3)) (tC (.int 1))) δ (.int (ls r b)) := fun h0 h3 => evd_is (evd_ixt1 (evd_ixm (xs := r) (en := eHs) (evl_d (evd_at h0)) (evd_at h3) (by omega) (by omega))) (by rw [Int.toNat_natCast]; rfl)
    have esM : sM r (b + 1) = sM r b + ls r b := rfl
    refine ⟨_, evt_test (evd_lt (evd_mul evd_int (evd_add (evd_at rfl) (hlet rfl rfl)) (.inl ⟨by decide, by decide⟩)) (evd_at rfl)), fun hc => ?_, fun hc => ?_⟩
    · have hc := of_decide_eq_true hc
      have hlt : b + 1 < f + 1 + j := by
        by_cases z : b + 1 = f + 1 + j
        · rw [← z] at hc
          have := sM_mono ok (show f ≤ b + 1 by omega)
          omega
        · omega
      refine r_set (d := .int (sM r (b + 1) - sM r f)) (evd_is (evd_add (evd_at rfl) (hlet rfl rfl)) (by rw [esM]; congr 1; omega)) ?_
      dsimp only [List.set_cons_zero, List.set_cons_succ]
      refine r_set (d := .int (xs r (b + 1) - xs r b)) (evd_sub (ev_xs (r := r) (p := b + 1) (evl_d (evd_at rfl)) (evd_is (evd_add (evd_at rfl) evd_int) rfl) (by omega)) (ev_xs (r := r) (p := b) (evl_d (evd_at rfl)) (evd_at rfl) (by omega))) ?_
      dsimp only [List.set_cons_zero, List.set_cons_succ]
      refine r_set (d := .int (cst r f (f + 1 + j) (b + 1))) (evd_is (evd_add (evd_at rfl) (evd_mulW (evd_at rfl) (evd_sub (evd_mul evd_int (evd_at rfl) (.inl ⟨by decide, by decide⟩)) (evd_at rfl)) (big_mul ?_ ?_))) ?_) ?_
      · have a1 := xs_big ok (b + 1)
        have a2 := xs_big ok b
        have h2 : (2 : Nat) ^ 300 + 2 ^ 300 ≤ 2 ^ 1000 := by decide +kernel
        omega
      · have a1 := sM_big ok (k := b + 1) (by omega)
        have a2 := sM_big ok (k := f) (by omega)
        have a3 := sM_big ok (k := f + 1 + j) (by omega)
        have h2 : 6 * (2 : Nat) ^ 400 ≤ 2 ^ 1000 := by decide +kernel
        omega
      · rw [cst_step ok hb2 hlt (by omega)]
      dsimp only [List.set_cons_zero, List.set_cons_succ]
      refine r_set (d := .int ((b + 1 : Nat) : Int)) (evd_is (evd_add (evd_at rfl) evd_int) rfl) ?_
      dsimp only [List.set_cons_zero, List.set_cons_succ]
      refine r_next (nx_inv (WkL.refl _) ⟨_, rfl, _, ?_, b + 1, _, rfl, ?_, by omega, by omega, rfl⟩)
      · omega
      · rw [← mAdv_go ⟨hlt, by rw [esM]; omega⟩]; exact hb1
    · have hc := of_decide_eq_false hc
      have hbm : mid r f (f + 1 + j) = b := by
        rw [← hb1]
        exact mAdv_stop fun z => hc (by have := z.2; rw [esM] at this; omega)
      refine r_app rfl (evd_at rfl) (by rw [List.length_map, List.length_map, List.length_range]; omega) ?_
      dsimp only [List.set_cons_zero, List.set_cons_succ]
      refine r_next (nx_inv ?_ ⟨_, rfl, rfl⟩)
      have e1 : f + (j + 1) = f + 1 + j := by omega
      have e2 : wv r f (f + 1 + j) = cst r f (f + 1 + j) b := by unfold wv; rw [hbm]
      rw [List.range_succ, List.map_append, List.map_append, e1, hbm, List.map_cons, List.map_nil, List.map_cons, List.map_nil, e2]
      walk_at "wk"
  · subst hP
    exact r_retM rfl k
theorem ev_law_one_ways {r : List (Int × Int)} {f : Nat} (ha : EvD K ta δ (eRoad r)) (hb : EvD K tb δ (.int (f : Int))) (ok : RoadOk r) (hf : f < r.length) : EvN K (tCall (sp_law_one_ways K) [] E0 (tCons ta (tCons tb tNil))) δ ((owL r f).map .int) :=
  evn_call (ea_cons ha (ea_cons hb ea_nil)) ⟨r, f, rfl, ok, hf, rfl⟩
theorem run_law_bounds : ∀ ds d, R_law_bounds ds d → ∀ B D, RtD K B D d → (d = .none → ∀ δ, Nx K B D δ) → RunS K B (t_law_bounds K) D (ds.map Sl.d ++ List.replicate (6 - ds.length) Sl.no) := by
  rintro _ _ ⟨r, bs, fee, rfl, ok, rfl⟩ B D k _
  show RunS K B (t_law_bounds K) D [.d (eRoad r), .d (eInts bs), .d (.int fee), .no, .no, .no]
  have hn := ok.len
  refine r_when (evt_or (evt_test (evd_neI (evd_lenm (xs := bs) (en := PyData.int) (evl_d (evd_at rfl))) (evd_add (evd_lenm (xs := r) (en := eHs) (evl_d (evd_at rfl))) evd_int))) fun h => evt_test (evd_neI (evd_ixm (xs := bs) (en := PyData.int) (i := 0) (evl_d (evd_at rfl)) evd_int (by decide) ?_) evd_int)) (fun h => ?_) (fun h => ?_)
  · simp only [Bool.not_eq_false', decide_eq_true_eq] at h
    omega
  · refine r_ret (evd_is evd_bl ?_) k
    rw [bnd_no]
    rintro ⟨h1, h2, _⟩
    have h2' : bs.getD (0 : Int).toNat default = 0 := h2
    rw [decide_eq_true (show (bs.length : Int) = r.length + 1 by omega), h2'] at h
    cases h
  · simp only [Bool.or_eq_false_iff, Bool.not_eq_false', decide_eq_true_eq] at h
    obtain ⟨hl, h0⟩ := h
    have hl : bs.length = r.length + 1 := by omega
    have h0 : bs.getD 0 0 = 0 := h0
    refine r_for (evi_range1 (evd_lenm (xs := r) (en := eHs) (evl_d (evd_at rfl))) (by omega)) (fun i δ => (∀ f, f < i → ∀ j, j < r.length - f → bs.getD (f + 1 + j) 0 - bs.getD f 0 ≤ wv r f (f + 1 + j) + fee) ∧ δ = [.d (eRoad r), .d (eInts bs), .d (.int fee), .no, .no, .no]) ⟨_, WkL.refl _, fun f hf => absurd hf (by omega), rfl⟩ (fun _ _ _ _ _ _ _ _ _ => trivial) (fun Gb hb i δ' hi hP => ?_) (fun δ' hP => ?_)
    · obtain ⟨hA, rfl⟩ := hP
      refine ⟨_, tg_name, ?_⟩
      dsimp only [List.set_cons_zero, List.set_cons_succ]
      have hi2 := evi_enumm (K := K) (δ := [.d (eRoad r), .d (eInts bs), .d (.int fee), .d (.int (i : Int)), .no, .no]) (tl := tCall (sp_law_one_ways K) [] E0 (tCons (tVar 0) (tCons (tVar 3) tNil))) (xs := owL r i) (en := PyData.int) (evd_n (ev_law_one_ways (evd_at (n := 0) rfl) (evd_at (n := 3) rfl) ok hi))
      rw [owL_len] at hi2
      refine r_for hi2 (fun j δ => (∀ q, q < j → bs.getD (i + 1 + q) 0 - bs.getD i 0 ≤ wv r i (i + 1 + q) + fee) ∧ δ = [.d (eRoad r), .d (eInts bs), .d (.int fee), .d (.int (i : Int)), .no, .no]) ⟨_, WkL.refl _, fun f hf => absurd hf (by omega), rfl⟩ (fun _ _ _ _ _ _ _ _ _ => trivial) (fun Gb2 hb2 j δ' hj hP => ?_) (fun δ' hP => ?_)
      · obtain ⟨hB, rfl⟩ := hP
        refine ⟨_, tg_tup (tgs_cons tg_name (tgs_cons tg_name tgs_nil)) rfl, ?_⟩
        dsimp only [List.set_cons_zero, List.set_cons_succ]
        rw [owL_get r hj]
        refine r_when (evt_test (evd_gt (ev_gap (f := i) (j := j) (evl_d (evd_at rfl)) (evl_d (evd_at rfl)) (evd_at rfl) (evd_at rfl) (evd_at rfl) (by omega)) (evd_add (evd_at rfl) (evd_at rfl)))) (fun h => ?_) (fun h => ?_)
        · have h := of_decide_eq_true h
          refine r_ret (evd_is evd_bl ?_) k
          rw [bnd_no]
          rintro ⟨_, _, h3⟩
          have := h3 i hi j hj
          omega
        · have h := of_decide_eq_false h
          refine r_next (nx_inv (by walk_at "wk") ⟨_, rfl, fun q hq => ?_, rfl⟩)
          by_cases z : q = j
          · rw [z]; omega
          · exact hB q (by omega)
      · obtain ⟨hB, rfl⟩ := hP
        refine r_next (nx_inv (by walk_at "wk") ⟨_, rfl, fun f hf => ?_, rfl⟩)
        by_cases z : f = i
        · rw [z]; exact hB
        · exact hA f (by omega)
    · obtain ⟨hA, rfl⟩ := hP
      refine r_ret (evd_is evd_bl ?_) k
      unfold boundsB
      rw [decide_eq_true ⟨hl, h0, hA⟩]
theorem ev_law_bounds {r : List (Int × Int)} {bs : List Int} {fee : Int} (ha : EvR K ta δ (eRoad r)) (hb : EvR K tb δ (eInts bs)) (hc : EvR K tc δ (.int fee)) (ok : RoadOk r) : EvD K (tCall (sp_law_bounds K) [] E0 (tCons ta (tCons tb (tCons tc tNil)))) δ (.bool (boundsB r bs fee)) :=
  evd_callR (ear_cons ha (ear_cons hb (ear_cons hc ear_nil))) ⟨r, bs, fee, rfl, ok, rfl⟩ rfl
end
end Ph

set_option Elab.async false
set_option linter.all false
set_option maxRecDepth 100000
set_option maxHeartbeats 2000000
namespace Ph
open PySem PySem.Spec L2
/-! paying, and the law of answers by hand (k06) -/
def R_paying : List PyData → List Int → List Int → Option Int → Prop := fun ds ps bs fee => ∃ (r : List (Int × Int)) (c : Int), ds = [eRoad r, .int c] ∧ 0 ≤ c ∧ RoadOk r ∧ ps = nats (qb r c r.length) ∧ bs = bdL r c ∧ fee = none
def sp_paying (K : PySem.W.Frag) : Sp := PrO K (He.ga K "Paid") R_paying
theorem len_paying : ∀ ds a b c, R_paying ds a b c → ds.length = 2 := by rintro _ _ _ _ ⟨_, _, rfl, _⟩; rfl
/-- a list bent by a cell -/
def bent (xs : List Int) (c : Int) : List Int :=
  let at_ := c / 8 % ((xs.length : Int) + 1)
  if c % 8 = 1 ∨ c % 8 = 2 then cut xs none (some at_) ++ (cut xs (some at_) (some (at_ + 1))).map (fun x => x + ([1, -1] : List Int).getD (c % 8 - 1).toNat 0) ++ cut xs (some (at_ + 1)) none
  else if c % 8 = 3 then cut xs none (some at_) ++ cut xs (some (at_ + 1)) none
  else if c % 8 = 4 then cut xs none (some at_) ++ cut xs (some at_) (some (at_ + 1)) ++ cut xs (some at_) none
  else if c % 8 = 5 then cut xs none (some 1) ++ (cut xs (some 1) none).map (fun x => x + 1)
  else if c % 8 = 6 then cut xs none (some 1) ++ (cut xs (some 1) none).map (fun x => x - c / 64 % 3)
  else if c % 8 = 7 then xs.reverse else xs
theorem cut_len {α : Type} (xs : List α) (lo hi : Option Int) : (cut xs lo hi).length ≤ xs.length := by
  unfold cut
  rw [List.length_take, List.length_drop]
  omega
theorem bent_len (xs : List Int) (c : Int) : (bent xs c).length ≤ 3 * xs.length := by
  have a := fun lo hi => cut_len xs lo hi
  unfold bent
  dsimp only
  split
  · simp only [List.length_append, List.length_map]
    have := a none (some (c / 8 % ((xs.length : Int) + 1)))
    have := a (some (c / 8 % ((xs.length : Int) + 1))) (some (c / 8 % ((xs.length : Int) + 1) + 1))
    have := a (some (c / 8 % ((xs.length : Int) + 1) + 1)) none
    omega
  · split
    · simp only [List.length_append]
      have := a none (some (c / 8 % ((xs.length : Int) + 1)))
      have := a (some (c / 8 % ((xs.length : Int) + 1) + 1)) none
      omega
    · split
      · simp only [List.length_append]
        have := a none (some (c / 8 % ((xs.length : Int) + 1)))
        have := a (some (c / 8 % ((xs.length : Int) + 1))) (some (c / 8 % ((xs.length : Int) + 1) + 1))
        have := a (some (c / 8 % ((xs.length : Int) + 1))) none
        omega
      · split
        · simp only [List.length_append, List.length_map]
          have := a none (some 1)
          have := a (some 1) none
          omega
        · split
          · simp only [List.length_append, List.length_map]
            have := a none (some 1)
            have := a (some 1) none
            omega
          · split
            · rw [List.length_reverse]; omega
            · omega
def R_law_says : List PyData → PyData → Prop := fun ds d => ∃ b : Bool, ds = [.bool b, .bool b] ∧ d = .bool true
def R_law_bent : List PyData → List PyData → Prop := fun ds d => ∃ (xs : List Int) (c : Int), ds = [eInts xs, .int c] ∧ xs.length ≤ 100 ∧ d = (bent xs c).map .int
def R_law_best_right : List PyData → PyData → Prop := fun ds d => ∃ (r : List (Int × Int)) (many : Int) (ps bs : List Int) (fee : Int), ds = [eRoad r, .int many, eInts ps, eInts bs, .int fee] ∧ RoadOk r ∧ ps.length < 64 ∧ bs.length ≤ 1000 ∧ many.natAbs < 2 ^ 1000 ∧ fee.natAbs < 2 ^ 1000 ∧ d = .bool true
def R_law_paid_right : List PyData → PyData → Prop := fun ds d => ∃ (r : List (Int × Int)) (fee : Int) (ps bs : List Int), ds = [eRoad r, .int fee, eInts ps, eInts bs] ∧ RoadOk r ∧ ps.length < 64 ∧ bs.length ≤ 1000 ∧ fee.natAbs < 2 ^ 1000 ∧ d = .bool true
def sp_law_says (K : PySem.W.Frag) : Sp := Pr K R_law_says
def sp_law_bent (K : PySem.W.Frag) : Sp := PrN K R_law_bent
def sp_law_best_right (K : PySem.W.Frag) : Sp := Pr K R_law_best_right
def sp_law_paid_right (K : PySem.W.Frag) : Sp := Pr K R_law_paid_right
theorem len_law_says : ∀ ds d, R_law_says ds d → ds.length = 2 := by rintro _ _ ⟨_, rfl, _⟩; rfl
theorem len_law_bent : ∀ ds d, R_law_bent ds d → ds.length = 2 := by rintro _ _ ⟨_, _, rfl, _⟩; rfl
theorem len_law_best_right : ∀ ds d, R_law_best_right ds d → ds.length = 5 := by rintro _ _ ⟨_, _, _, _, _, rfl, _⟩; rfl
theorem len_law_paid_right : ∀ ds d, R_law_paid_right ds d → ds.length = 4 := by rintro _ _ ⟨_, _, _, _, rfl, _⟩; rfl
end Ph

set_option Elab.async false
set_option linter.all false
set_option maxRecDepth 100000
namespace Ph
open PySem PySem.Spec L2
def t_Best_shows (K : PySem.W.Frag) : TS := (tSeq (tIfS (tOr (tTest (tOp oNeI (tCB (cLen K) (tCons (tFld K (tVar 0) "posts") tNil)) (tVar 2))) (tOr (tNot (tB (tCall (sp_are_posts K) [] E0 (tCons (tVar 1) (tCons (tFld K (tVar 0) "posts") tNil))))) (tNot (tB (tCall (sp_are_bounds K) [] E0 (tCons (tVar 1) (tCons (tFld K (tVar 0) "bounds") (tCons (tFld K (tVar 0) "fee") tNil))))))))
   (tSeq (tRet (tC (.bl false)))
  tNext) tNext)
  (tSeq (tRet (tOp oEqI (tOp oSub (tOp (oIx K) (tFld K (tVar 0) "bounds") (tUn oNeg (tC (.int 1)))) (tOp oMulW (tVar 2) (tFld K (tVar 0) "fee"))) (tCall (sp_way_of K) [] E0 (tCons (tVar 1) (tCons (tFld K (tVar 0) "posts") tNil)))))
  tNext))
def t_Paid_shows (K : PySem.W.Frag) : TS := (tSeq (tIfS (tOr (tNot (tB (tCall (sp_are_posts K) [] E0 (tCons (tVar 1) (tCons (tFld K (tVar 0) "posts") tNil))))) (tNot (tB (tCall (sp_are_bounds K) [] E0 (tCons (tVar 1) (tCons (tFld K (tVar 0) "bounds") (tCons (tVar 2) tNil)))))))
   (tSeq (tRet (tC (.bl false)))
  tNext) tNext)
  (tSeq (tRet (tOp oEqI (tOp (oIx K) (tFld K (tVar 0) "bounds") (tUn oNeg (tC (.int 1)))) (tOp oAdd (tCall (sp_way_of K) [] E0 (tCons (tVar 1) (tCons (tFld K (tVar 0) "posts") tNil))) (tOp oMulW (tCB (cLen K) (tCons (tFld K (tVar 0) "posts") tNil)) (tVar 2)))))
  tNext))
def t_paying_b1 (K : PySem.W.Frag) : TS := (tSeq (tAsg (tOp (oIxT K) (tOp (oIx K) (tVar 3) (tVar 5)) (tC (.int 1))) (gName 6))
  (tSeq (tDrop (tBM K "list" rAppend (tVar 4) (tCons (tOp (oIxT K) (tOp (oIx K) (tOp (oIx K) (tVar 2) (tVar 6)) (tOp oSub (tOp oSub (tVar 5) (tVar 6)) (tC (.int 1)))) (tC (.int 0))) tNil)))
  (tSeq (tAsg (tVar 6) (gName 5))
  tNext)))
def t_paying_s7 (K : PySem.W.Frag) : TS := (tSeq (tRet (tMake (He.ga K "Paid") (PrI2 K (He.ga K "Paid")) [] E0 (tCons (tRevL K (tVar 4)) (tCons (tLc (iList K (tVar 3)) (gName 7) tYes (tOp (oIxT K) (tVar 7) (tC (.int 0))) [7]) tNil))))
  tNext)
def t_paying_s6 (K : PySem.W.Frag) : TS := (tSeq (tWhile (tTest (tOp oGt (tVar 5) (tC (.int 0))))
   (t_paying_b1 K))
  (t_paying_s7 K))
def t_paying_s5 (K : PySem.W.Frag) : TS := (tSeq (tAsg (tCB (cLen K) (tCons (tVar 0) tNil)) (gName 5))
  (t_paying_s6 K))
def t_paying_s4 (K : PySem.W.Frag) : TS := (tSeq (tAsg (tLst tNil) (gName 4))
  (t_paying_s5 K))
def t_paying_s3 (K : PySem.W.Frag) : TS := (tSeq (tAsg (tCall (sp_led K) [] E0 (tCons (tVar 0) (tCons (tVar 2) (tCons (tVar 1) tNil)))) (gName 3))
  (t_paying_s4 K))
def t_paying_s2 (K : PySem.W.Frag) : TS := (tSeq (tAsg (tCall (sp_middles K) [] E0 (tCons (tVar 0) tNil)) (gName 2))
  (t_paying_s3 K))
def t_paying_s1 (K : PySem.W.Frag) : TS := (tSeq (tDrop (tCall (sp_asked_number K) [] E0 (tCons (tVar 1) tNil)))
  (t_paying_s2 K))
def t_paying (K : PySem.W.Frag) : TS := (tSeq (tDrop (tCall (sp_asked_road K) [] E0 (tCons (tVar 0) tNil)))
  (t_paying_s1 K))
def t_law_rising (K : PySem.W.Frag) : TS := (tSeq (tIfS (tOr (tTest (tOp (oNeD K) (tVar 1) (tSortedSet K (tVar 1)))) (tB (tCB (cAny K) (tCons (tLc (iList K (tVar 1)) (gName 2) tYes (tNotV (tChain oLe oLt (tC (.int 0)) (tVar 2) (tCB (cLen K) (tCons (tVar 0) tNil)))) [2]) tNil))))
   (tSeq (tRet (tC (.bl false)))
  tNext) tNext)
  (tSeq (tRet (tOrV (tOp (oNeD K) (tVar 1) (tLst tNil)) (tOp (oEqD K) (tVar 0) (tLst tNil))))
  tNext))
def t_law_says (K : PySem.W.Frag) : TS := (tSeq (tRet (tAndV (tCB (cIsi K) (tCons (tVar 0) (tCons (tC (.ty "bool")) tNil))) (tOp oEqI (tVar 0) (tVar 1))))
  tNext)
def t_law_bent (K : PySem.W.Frag) : TS := (tSeq (tAsg (tOp oMod (tVar 1) (tC (.int 8))) (gName 2))
  (tSeq (tAsg (tOp oMod (tOp oDiv (tVar 1) (tC (.int 8))) (tOp oAdd (tCB (cLen K) (tCons (tVar 0) tNil)) (tC (.int 1)))) (gName 3))
  (tSeq (tIfS (tTest (tOp (oInD K) (tVar 2) (tLst (tCons (tC (.int 1)) (tCons (tC (.int 2)) tNil)))))
   (tSeq (tRet (tOp (oCatL K) (tOp (oCatL K) (tSl (oSl K) (tVar 0) tNoPart (tPart (tVar 3))) (tLc (iList K (tSl (oSl K) (tVar 0) (tPart (tVar 3)) (tPart (tOp oAdd (tVar 3) (tC (.int 1)))))) (gName 4) tYes (tOp oAdd (tVar 4) (tOp (oIxT K) (tTup (tCons (tC (.int 1)) (tCons (tUn oNeg (tC (.int 1))) tNil))) (tOp oSub (tVar 2) (tC (.int 1))))) [4])) (tSl (oSl K) (tVar 0) (tPart (tOp oAdd (tVar 3) (tC (.int 1)))) tNoPart)))
  tNext) tNext)
  (tSeq (tIfS (tTest (tOp oEqI (tVar 2) (tC (.int 3))))
   (tSeq (tRet (tOp (oCatL K) (tSl (oSl K) (tVar 0) tNoPart (tPart (tVar 3))) (tSl (oSl K) (tVar 0) (tPart (tOp oAdd (tVar 3) (tC (.int 1)))) tNoPart)))
  tNext) tNext)
  (tSeq (tIfS (tTest (tOp oEqI (tVar 2) (tC (.int 4))))
   (tSeq (tRet (tOp (oCatL K) (tOp (oCatL K) (tSl (oSl K) (tVar 0) tNoPart (tPart (tVar 3))) (tSl (oSl K) (tVar 0) (tPart (tVar 3)) (tPart (tOp oAdd (tVar 3) (tC (.int 1)))))) (tSl (oSl K) (tVar 0) (tPart (tVar 3)) tNoPart)))
  tNext) tNext)
  (tSeq (tIfS (tTest (tOp oEqI (tVar 2) (tC (.int 5))))
   (tSeq (tRet (tOp (oCatL K) (tSl (oSl K) (tVar 0) tNoPart (tPart (tC (.int 1)))) (tLc (iList K (tSl (oSl K) (tVar 0) (tPart (tC (.int 1))) tNoPart)) (gName 4) tYes (tOp oAdd (tVar 4) (tC (.int 1))) [4])))
  tNext) tNext)
  (tSeq (tIfS (tTest (tOp oEqI (tVar 2) (tC (.int 6))))
   (tSeq (tRet (tOp (oCatL K) (tSl (oSl K) (tVar 0) tNoPart (tPart (tC (.int 1)))) (tLc (iList K (tSl (oSl K) (tVar 0) (tPart (tC (.int 1))) tNoPart)) (gName 4) tYes (tOp oSub (tVar 4) (tOp oMod (tOp oDiv (tVar 1) (tC (.int 64))) (tC (.int 3)))) [4])))
  tNext) tNext)
  (tSeq (tRet (tIf (tTest (tOp oEqI (tVar 2) (tC (.int 7)))) (tRevL K (tVar 0)) (tCB (cList K) (tCons (tVar 0) tNil))))
  tNext))))))))
def t_law_best_right (K : PySem.W.Frag) : TS := (tSeq (tAsg (tLst (tCons (tCB (cList K) (tCons (tVar 2) tNil)) (tCons (tCB (cList K) (tCons (tVar 3) tNil)) tNil))) (gName 5))
  (tSeq (tAsg (tMake (He.ga K "Best") (PrI3 K (He.ga K "Best")) [] E0 (tCons (tOp (oIx K) (tVar 5) (tC (.int 0))) (tCons (tOp (oIx K) (tVar 5) (tC (.int 1))) (tCons (tVar 4) tNil)))) (gName 6))
  (tSeq (tDrop (tBM K "list" rAppend (tOp (oIx K) (tVar 5) (tC (.int 0))) (tCons (tC (.int 0)) tNil)))
  (tSeq (tDrop (tBM K "list" rAppend (tOp (oIx K) (tVar 5) (tC (.int 1))) (tCons (tC (.int 0)) tNil)))
  (tSeq (tIfS (tTest (tOp (oNeD K) (tLst (tCons (tFld K (tVar 6) "posts") (tCons (tFld K (tVar 6) "bounds") (tCons (tFld K (tVar 6) "fee") tNil)))) (tLst (tCons (tVar 2) (tCons (tVar 3) (tCons (tVar 4) tNil))))))
   (tSeq (tRet (tC (.bl false)))
  tNext) tNext)
  (tSeq (tAsg (tAndV (tOp oEqI (tCB (cLen K) (tCons (tVar 2) tNil)) (tVar 1)) (tAndV (tCall (sp_law_rising K) [] E0 (tCons (tVar 0) (tCons (tVar 2) tNil))) (tCall (sp_law_bounds K) [] E0 (tCons (tVar 0) (tCons (tVar 3) (tCons (tVar 4) tNil)))))) (gName 7))
  (tSeq (tIfS (tB (tVar 7))
   (tSeq (tAsg (tOp oEqI (tOp oSub (tOp (oIx K) (tVar 3) (tUn oNeg (tC (.int 1)))) (tOp oMulW (tVar 1) (tVar 4))) (tCall (sp_law_way K) [] E0 (tCons (tVar 0) (tCons (tVar 2) tNil)))) (gName 7))
  tNext) tNext)
  (tSeq (tRet (tCall (sp_law_says K) [] E0 (tCons (tMeth (He.ga K "Best") "shows" (sp_Best_shows K) [] E0 (tVar 6) (tCons (tVar 0) (tCons (tVar 1) tNil))) (tCons (tVar 7) tNil))))
  tNext))))))))
def t_law_paid_right (K : PySem.W.Frag) : TS := (tSeq (tAsg (tLst (tCons (tCB (cList K) (tCons (tVar 2) tNil)) (tCons (tCB (cList K) (tCons (tVar 3) tNil)) tNil))) (gName 4))
  (tSeq (tAsg (tMake (He.ga K "Paid") (PrI2 K (He.ga K "Paid")) [] E0 (tCons (tOp (oIx K) (tVar 4) (tC (.int 0))) (tCons (tOp (oIx K) (tVar 4) (tC (.int 1))) tNil))) (gName 5))
  (tSeq (tDrop (tBM K "list" rAppend (tOp (oIx K) (tVar 4) (tC (.int 0))) (tCons (tC (.int 0)) tNil)))
  (tSeq (tDrop (tBM K "list" rAppend (tOp (oIx K) (tVar 4) (tC (.int 1))) (tCons (tC (.int 0)) tNil)))
  (tSeq (tIfS (tTest (tOp (oNeD K) (tLst (tCons (tFld K (tVar 5) "posts") (tCons (tFld K (tVar 5) "bounds") tNil))) (tLst (tCons (tVar 2) (tCons (tVar 3) tNil)))))
   (tSeq (tRet (tC (.bl false)))
  tNext) tNext)
  (tSeq (tAsg (tAndV (tCall (sp_law_rising K) [] E0 (tCons (tVar 0) (tCons (tVar 2) tNil))) (tCall (sp_law_bounds K) [] E0 (tCons (tVar 0) (tCons (tVar 3) (tCons (tVar 1) tNil))))) (gName 6))
  (tSeq (tIfS (tB (tVar 6))
   (tSeq (tAsg (tOp oEqI (tOp (oIx K) (tVar 3) (tUn oNeg (tC (.int 1)))) (tOp oAdd (tCall (sp_law_way K) [] E0 (tCons (tVar 0) (tCons (tVar 2) tNil))) (tOp oMulW (tCB (cLen K) (tCons (tVar 2) tNil)) (tVar 1)))) (gName 6))
  tNext) tNext)
  (tSeq (tRet (tCall (sp_law_says K) [] E0 (tCons (tMeth (He.ga K "Paid") "shows" (sp_Paid_shows K) [] E0 (tVar 5) (tCons (tVar 0) (tCons (tVar 1) tNil))) (tCons (tVar 6) tNil))))
  tNext))))))))
def t_law_k06_b1 (K : PySem.W.Frag) : TS := (tSeq (tIfS (tNot (tB (tCall (sp_law_best_right K) [] E0 (tCons (tVar 1) (tCons (tVar 2) (tCons (tVar 10) (tCons (tVar 11) (tCons (tVar 12) tNil))))))))
   (tSeq (tRet (tC (.bl false)))
  tNext) tNext)
  (tSeq (tIfS (tNot (tB (tCall (sp_law_best_right K) [] E0 (tCons (tVar 1) (tCons (tCB (cLen K) (tCons (tVar 10) tNil)) (tCons (tVar 10) (tCons (tVar 11) (tCons (tVar 12) tNil))))))))
   (tSeq (tRet (tC (.bl false)))
  tNext) tNext)
  tNext))
def t_law_k06_b2 (K : PySem.W.Frag) : TS := (tSeq (tAsg (tCall (sp_law_bent K) [] E0 (tCons (tFld K (tVar 3) "posts") (tCons (tOp oDiv (tVar 5) (tC (.int 3))) tNil))) (gName 6))
  (tSeq (tAsg (tCall (sp_law_bent K) [] E0 (tCons (tFld K (tVar 3) "bounds") (tCons (tVar 5) tNil))) (gName 7))
  (tSeq (tAsg (tOp oAdd (tFld K (tVar 3) "fee") (tOp (oIxT K) (tTup (tCons (tC (.int 0)) (tCons (tC (.int 1)) (tCons (tUn oNeg (tC (.int 1))) (tCons (tC (.int 0)) tNil))))) (tOp oMod (tOp oDiv (tVar 5) (tC (.int 5))) (tC (.int 4))))) (gName 8))
  (tSeq (tAsg (tLst (tCons (tTup (tCons (tFld K (tVar 3) "posts") (tCons (tVar 7) (tCons (tFld K (tVar 3) "fee") tNil)))) (tCons (tTup (tCons (tVar 6) (tCons (tFld K (tVar 3) "bounds") (tCons (tFld K (tVar 3) "fee") tNil)))) (tCons (tTup (tCons (tFld K (tVar 3) "posts") (tCons (tVar 7) (tCons (tVar 8) tNil)))) tNil)))) (gName 9))
  (tSeq (tFor (iList K (tVar 9)) (gTup K 3 (gCons (gName 10) (gCons (gName 11) (gCons (gName 12) gNil))))
   (t_law_k06_b1 K))
  (tSeq (tAsg (tCB cMax2 (tCons (tC (.int 0)) (tCons (tOp oAdd (tOp oMod (tOp oDiv (tCB (cSum K) (tCons (tVar 0) tNil)) (tC (.int 5))) (tC (.int 60))) (tOp (oIxT K) (tTup (tCons (tC (.int 0)) (tCons (tC (.int 1)) (tCons (tUn oNeg (tC (.int 1))) tNil)))) (tOp oMod (tOp oDiv (tVar 5) (tC (.int 7))) (tC (.int 3))))) tNil))) (gName 8))
  (tSeq (tIfS (tNot (tB (tCall (sp_law_paid_right K) [] E0 (tCons (tVar 1) (tCons (tVar 8) (tCons (tCall (sp_law_bent K) [] E0 (tCons (tFld K (tVar 4) "posts") (tCons (tOp oDiv (tVar 5) (tC (.int 3))) tNil))) (tCons (tFld K (tVar 4) "bounds") tNil)))))))
   (tSeq (tRet (tC (.bl false)))
  tNext) tNext)
  (tSeq (tIfS (tNot (tB (tCall (sp_law_paid_right K) [] E0 (tCons (tVar 1) (tCons (tVar 8) (tCons (tFld K (tVar 4) "posts") (tCons (tCall (sp_law_bent K) [] E0 (tCons (tFld K (tVar 4) "bounds") (tCons (tVar 5) tNil))) tNil)))))))
   (tSeq (tRet (tC (.bl false)))
  tNext) tNext)
  tNext))))))))
def t_law_k06_s6 (K : PySem.W.Frag) : TS := (tSeq (tRet (tCall (sp_law_says K) [] E0 (tCons (tMeth (He.ga K "Best") "shows" (sp_Best_shows K) [] E0 (tMake (He.ga K "Best") (PrI3 K (He.ga K "Best")) [] E0 (tCons (tLst (tCons (tC (.int 0)) tNil)) (tCons (tLst (tCons (tC (.int 0)) (tCons (tC (.int 4)) tNil))) (tCons (tC (.int 4)) tNil)))) (tCons (tLst (tCons (tTup (tCons (tC (.int 1)) (tCons (tC (.int 2)) tNil))) tNil)) (tCons (tC (.int 1)) tNil))) (tCons (tC (.bl true)) tNil))))
  tNext)
def t_law_k06_s5 (K : PySem.W.Frag) : TS := (tSeq (tFor (iList K (tOp (oCatL K) (tSl (oSl K) (tVar 0) tNoPart (tPart (tC (.int 5)))) (tStp K (tVar 0) 5 12))) (gName 5)
   (t_law_k06_b2 K))
  (t_law_k06_s6 K))
def t_law_k06_s4 (K : PySem.W.Frag) : TS := (tSeq (tAsg (tCall (sp_paying K) [] E0 (tCons (tVar 1) (tCons (tOp oMod (tOp oDiv (tCB (cSum K) (tCons (tVar 0) tNil)) (tC (.int 5))) (tC (.int 60))) tNil))) (gName 4))
  (t_law_k06_s5 K))
def t_law_k06_s3 (K : PySem.W.Frag) : TS := (tSeq (tAsg (tCall (sp_best K) [] E0 (tCons (tVar 1) (tCons (tVar 2) tNil))) (gName 3))
  (t_law_k06_s4 K))
def t_law_k06_s2 (K : PySem.W.Frag) : TS := (tSeq (tAsg (tOp oAdd (tC (.int 1)) (tOp oMod (tCB (cSum K) (tCons (tVar 0) tNil)) (tCB (cLen K) (tCons (tVar 1) tNil)))) (gName 2))
  (t_law_k06_s3 K))
def t_law_k06_s1 (K : PySem.W.Frag) : TS := (tSeq (tIfS (tTest (tOp (oEqD K) (tVar 1) (tLst tNil)))
   (tSeq (tRet (tAndV (tCall (sp_law_says K) [] E0 (tCons (tMeth (He.ga K "Paid") "shows" (sp_Paid_shows K) [] E0 (tMake (He.ga K "Paid") (PrI2 K (He.ga K "Paid")) [] E0 (tCons (tLst tNil) (tCons (tLst (tCons (tC (.int 0)) tNil)) tNil))) (tCons (tLst tNil) (tCons (tC (.int 4)) tNil))) (tCons (tC (.bl true)) tNil))) (tCall (sp_law_says K) [] E0 (tCons (tMeth (He.ga K "Paid") "shows" (sp_Paid_shows K) [] E0 (tMake (He.ga K "Paid") (PrI2 K (He.ga K "Paid")) [] E0 (tCons (tLst tNil) (tCons (tLst tNil) tNil))) (tCons (tLst tNil) (tCons (tC (.int 4)) tNil))) (tCons (tC (.bl false)) tNil)))))
  tNext) tNext)
  (t_law_k06_s2 K))
def t_law_k06 (K : PySem.W.Frag) : TS := (tSeq (tAsg (tSl (oSl K) (tCall (sp_law_road K) [] E0 (tCons (tVar 0) tNil)) tNoPart (tPart (tC (.int 9)))) (gName 1))
  (t_law_k06_s1 K))
end Ph

set_option Elab.async false
set_option linter.all false
set_option maxRecDepth 100000
set_option maxHeartbeats 2000000
namespace Ph
open PySem PySem.Spec L2
theorem wayL_sum (r : List (Int × Int)) (ps : List Int) : wayL r ps = sumTo (fun i => ls r i * ((xs r i - pl r ((nearL r ps).getD i default)).natAbs : Int)) r.length := by
  have hl := nearL_length r ps
  unfold wayL
  rw [← sum_range]
  congr 1
  refine List.ext_getElem (by simp [hl]) fun n h1 h2 => ?_
  simp at h1 h2
  simp [wayT, ls, xs, List.getD_eq_getElem?_getD, h2, hl]
theorem rising_iff (n : Int) : ∀ (xs : List Int) (last : Int), risingB n last xs = true ↔ (xs.Pairwise (· < ·) ∧ ∀ p ∈ xs, last < p ∧ p < n)
  | [], last => by simp [risingB]
  | x :: xs, last => by
    show (decide (last < x) && decide (x < n) && risingB n x xs) = true ↔ _
    rw [Bool.and_eq_true, Bool.and_eq_true, decide_eq_true_eq, decide_eq_true_eq, rising_iff n xs x, List.pairwise_cons]
    constructor
    · rintro ⟨⟨h1, h2⟩, h3, h4⟩
      refine ⟨⟨fun y hy => (h4 y hy).1, h3⟩, fun p hp => ?_⟩
      rcases List.mem_cons.mp hp with rfl | hp
      · exact ⟨h1, h2⟩
      · have := h4 p hp
        exact ⟨by omega, this.2⟩
    · rintro ⟨⟨h1, h2⟩, h3⟩
      have := h3 x (List.mem_cons_self ..)
      exact ⟨⟨this.1, this.2⟩, h2, fun p hp => ⟨h1 p hp, (h3 p (List.mem_cons_of_mem _ hp)).2⟩⟩
theorem gc_sum_big {r : List (Int × Int)} (ok : RoadOk r) (p : Nat) : ∀ k : Nat, (sumTo (gc r p) k).natAbs ≤ k * (2 ^ 300 * (2 * 2 ^ 300))
  | 0 => by show (0 : Int).natAbs ≤ _; simp
  | k + 1 => by
    have ih := gc_sum_big ok p k
    have h : (gc r p k).natAbs ≤ 2 ^ 300 * (2 * 2 ^ 300) := by
      unfold gc
      rw [Int.natAbs_mul]
      have a := ls_big ok k
      have b := xs_big ok k
      have c := xs_big ok p
      refine Nat.mul_le_mul (Nat.le_of_lt a) ?_
      rw [Int.natAbs_natCast]
      omega
    show (sumTo (gc r p) k + gc r p k).natAbs ≤ _
    rw [Nat.add_mul, Nat.one_mul]
    omega
theorem wv_big {r : List (Int × Int)} (ok : RoadOk r) (f e : Nat) (he : e ≤ 1000) (hf : f ≤ 1000) : (wv r f e).natAbs < 2 ^ 900 := by
  have a := gc_sum_big ok (mid r f e) e
  have b := gc_sum_big ok (mid r f e) f
  have c : e * (2 ^ 300 * (2 * 2 ^ 300)) ≤ 1000 * (2 ^ 300 * (2 * 2 ^ 300)) := Nat.mul_le_mul_right _ he
  have d : f * (2 ^ 300 * (2 * 2 ^ 300)) ≤ 1000 * (2 ^ 300 * (2 * 2 ^ 300)) := Nat.mul_le_mul_right _ hf
  have z : 2000 * (2 ^ 300 * (2 * 2 ^ 300)) < 2 ^ 900 := by decide +kernel
  unfold wv cst
  omega
theorem V_top {r : List (Int × Int)} (ok : RoadOk r) : ∀ (d : Nat), 1 + d ≤ r.length → V r (1 + d) r.length ≤ V r 1 r.length
  | 0, _ => Int.le_refl _
  | d + 1, h => by
    have ih := V_top ok d (by omega)
    have := V_fall0 ok (k := 1 + d) (by omega) (by omega)
    have e : 1 + (d + 1) = 1 + d + 1 := rfl
    rw [e]
    omega
theorem fee_big {r : List (Int × Int)} (ok : RoadOk r) {m : Nat} (h1 : 1 ≤ m) (h2 : m ≤ r.length) : (feeOf r m).natAbs < 2 ^ 1000 := by
  have hn := ok.len
  have z : (2 : Nat) ^ 900 ≤ 2 ^ 1000 := by decide +kernel
  unfold feeOf
  split
  · rename_i h
    have a := V_fall0 ok h1 (by omega)
    have b := V_nonneg ok (k := m + 1) (n := r.length) (by omega) (by omega) (Nat.le_refl _)
    have c := V_top ok (m - 1) (by omega)
    have e : 1 + (m - 1) = m := by omega
    rw [e] at c
    have d := (V_one (r := r) (e := r.length) (by omega) (Nat.le_refl _)).1
    have w := wv_big ok 0 r.length hn (by omega)
    rw [d] at c
    omega
  · show (0 : Int).natAbs < _
    exact Nat.lt_of_lt_of_le (by decide) z
theorem bnd_led {r : List (Int × Int)} (fee : Int) : BndOk r (bdL r fee) fee := by
  refine ⟨bdL_len r fee, ?_, fun f hf j hj => ?_⟩
  · rw [bdL_get r fee (Nat.zero_le _), bd_zero]
  · rw [bdL_get r fee (by omega), bdL_get r fee (by omega)]
    have := (bd_step r fee (e := f + 1 + j) (by omega)).2 f (by omega)
    omega
section
variable {K : PySem.W.Frag} {δ : List Sl} {ta tb tc td te tj : TE} {d e f : PyData}
local macro_rules | `(tactic| walk_at "wk") => `(tactic| first | exact WkL.nil | (refine' WkL.same ?_; walk_at "wk") | (refine' WkL.drop ?_; walk_at "wk"))
theorem run_law_way : ∀ ds d, R_law_way ds d → ∀ B D, RtD K B D d → (d = .none → ∀ δ, Nx K B D δ) → RunS K B (t_law_way K) D (ds.map Sl.d ++ List.replicate (6 - ds.length) Sl.no) := by
  rintro _ _ ⟨r, ps, rfl, ok, hpl, hp, rfl⟩ B D k _
  show RunS K B (t_law_way K) D [.d (eRoad r), .d (eInts ps), .no, .no, .no, .no]
  have hn := ok.len
  have po := postsOk hp
  refine r_set (d := .int (sumTo (fun i => ls r i * ((xs r i - pl r ((nearL r ps).getD i default)).natAbs : Int)) 0)) evd_int ?_
  dsimp only [List.set_cons_zero, List.set_cons_succ]
  refine r_forE (evi_listm (xs := r) (en := eHs) (evd_at rfl)) (fun i => [.d (eRoad r), .d (eInts ps), .d (.int (sumTo (fun i => ls r i * ((xs r i - pl r ((nearL r ps).getD i default)).natAbs : Int)) i)), .no, .no, .no]) (by walk_at "wk") (fun Gb hb i hi => ⟨_, tg_tup (tgs_cons tg_name (tgs_cons tg_name tgs_nil)) rfl, ?_⟩) ?_
  · dsimp only [List.set_cons_zero, List.set_cons_succ]
    obtain ⟨a, h1, h2, h3⟩ := near_min ok po i hi
    have hm := getD_mem hi
    refine r_set (d := .int (sumTo (fun i => ls r i * ((xs r i - pl r ((nearL r ps).getD i default)).natAbs : Int)) (i + 1))) (evd_is (evd_add (evd_at rfl) (evd_mulW (evd_at rfl) (evd_min (ns := ps.map fun p => (((r.getD i default).1 - pl r p).natAbs : Int)) (m := (((r.getD i default).1 - pl r (ps.getD a 0)).natAbs : Int)) (evl_is (evl_n (evn_lcL (α := Int) default (xs := ps) (en := PyData.int) (f := fun p => .int (((r.getD i default).1 - pl r p).natAbs : Int)) (evd_at rfl) (by omega) fun p hpm => ?_)) ?_) ?_ ?_) (big_mul (up_big (ok.big _ hm).2) (abs_big (ok.big _ hm).1 (pl_big ok _))))) ?_) ?_
    · obtain ⟨b, hb, rfl⟩ := List.getElem_of_mem hpm
      have hbd := po.bnd b hb
      have e : ps.getD b 0 = ps[b] := by rw [List.getD_eq_getElem?_getD, List.getElem?_eq_getElem hb]; rfl
      rw [e] at hbd
      exact evd_absN (evd_sub (evd_at rfl) (evd_ixt0 (evd_ixm (xs := r) (en := eHs) (evl_d (evd_at rfl)) (evd_at rfl) hbd.1 hbd.2)))
    · rw [List.map_map]; rfl
    · refine List.mem_map.mpr ⟨ps.getD a 0, ?_, rfl⟩
      exact getD_mem0 h1
    · intro y hy
      obtain ⟨p, hpm, rfl⟩ := List.mem_map.mp hy
      obtain ⟨b, hb, rfl⟩ := List.getElem_of_mem hpm
      have k := h3 b hb
      have e : ps.getD b 0 = ps[b] := by rw [List.getD_eq_getElem?_getD, List.getElem?_eq_getElem hb]; rfl
      rw [e] at k
      omega
    · show _ = PyData.int (sumTo _ i + ls r i * ((xs r i - pl r ((nearL r ps).getD i default)).natAbs : Int))
      rw [h2]
      rfl
    · dsimp only [List.set_cons_zero, List.set_cons_succ]
      refine r_next (nx_env ?_)
      walk_at "wk"
  · refine r_ret (evd_is (evd_at rfl) ?_) k
    rw [wayL_sum]
theorem ev_law_wayR {r : List (Int × Int)} {ps : List Int} (ha : EvR K ta δ (eRoad r)) (hb : EvR K tb δ (eInts ps)) (ok : RoadOk r) (hl : ps.length ≤ 1000) (h : arePosts r.length ps = true) : EvD K (tCall (sp_law_way K) [] E0 (tCons ta (tCons tb tNil))) δ (.int (wayL r ps)) :=
  evd_callR (ear_cons ha (ear_cons hb ear_nil)) ⟨r, ps, rfl, ok, hl, h, rfl⟩ rfl
theorem ev_are_postsR {r : List (Int × Int)} {ps : List Int} (ha : EvR K ta δ (eRoad r)) (hb : EvR K tb δ (eInts ps)) (hl : r.length ≤ 1000) : EvD K (tCall (sp_are_posts K) [] E0 (tCons ta (tCons tb tNil))) δ (.bool (arePosts r.length ps)) :=
  evd_callR (ear_cons ha (ear_cons hb ear_nil)) ⟨r, ps, rfl, hl, rfl⟩ rfl
theorem ev_way_ofR {r : List (Int × Int)} {ps : List Int} (ha : EvR K ta δ (eRoad r)) (hb : EvR K tb δ (eInts ps)) (ok : RoadOk r) (h : arePosts r.length ps = true) : EvD K (tCall (sp_way_of K) [] E0 (tCons ta (tCons tb tNil))) δ (.int (wayL r ps)) :=
  evd_callR (ear_cons ha (ear_cons hb ear_nil)) ⟨r, ps, rfl, ok, h, rfl⟩ rfl
theorem ev_law_risingR {r : List (Int × Int)} {ps : List Int} (ha : EvR K ta δ (eRoad r)) (hb : EvR K tb δ (eInts ps)) (hl : r.length ≤ 1000) (h : ps.length < 64) : EvD K (tCall (sp_law_rising K) [] E0 (tCons ta (tCons tb tNil))) δ (.bool (arePosts r.length ps)) :=
  evd_callR (ear_cons ha (ear_cons hb ear_nil)) ⟨r, ps, rfl, hl, h, rfl⟩ rfl
theorem run_Best_shows (co : COk K (He.ga K "Best")) : ∀ as b, R_Best_shows (He.ga K "Best") as b → ∀ B D, RtD K B D (.bool b) → RunS K B (t_Best_shows K) D (as.map Ad.sl ++ List.replicate (3 - as.length) Sl.no) := by
  rintro _ _ ⟨r, many, ps, bs, fee, rfl, ok, hpl, hm, hf, rfl⟩ B D k
  show RunS K B (t_Best_shows K) D [.od (He.ga K "Best") ps bs (some fee), .d (eRoad r), .d (.int many)]
  have hn := ok.len
  refine r_when (evt_or (evt_test (evd_neI (evd_lenm (xs := ps) (en := PyData.int) (evl_posts co (evb_od rfl))) (evd_at rfl))) fun _ => evt_or (evt_not (evt_B (ev_are_postsR (evr_d (evd_at rfl)) (evr_l (evl_posts co (evb_od rfl))) hn))) fun _ => evt_not (evt_B (ev_are_bounds (evr_d (evd_at rfl)) (evr_l (evl_bounds co (evb_od rfl))) (evr_d (evd_fee co (evb_od rfl))) ok))) (fun h => ?_) (fun h => ?_)
  · refine r_ret (evd_is evd_bl ?_) k
    unfold bestB
    congr 1
    simp only [Bool.or_eq_true, Bool.not_eq_true', decide_eq_false_iff_not] at h
    rcases h with h | h | h
    · rw [decide_eq_false h, Bool.false_and]
    · rw [h, Bool.false_and, Bool.and_false]
    · rw [h, Bool.false_and, Bool.and_false, Bool.and_false]
  · simp only [Bool.or_eq_false_iff, Bool.not_eq_false', decide_eq_true_eq] at h
    obtain ⟨h1, h2, h3⟩ := h
    have hb := (of_decide_eq_true h3).1
    refine r_ret (evd_is (evd_eqI (evd_sub (evd_ixl (xs := bs) (en := PyData.int) (evl_bounds co (evb_od rfl)) ?_) (evd_mulW (evd_at rfl) (evd_fee co (evb_od rfl)) (big_mul hm hf))) (ev_way_ofR (evr_d (evd_at rfl)) (evr_l (evl_posts co (evb_od rfl))) ok h2)) ?_) k
    · rintro rfl
      cases hb
    · unfold bestB
      rw [decide_eq_true h1, h2, h3]
      rfl
theorem run_law_rising : ∀ ds d, R_law_rising ds d → ∀ B D, RtD K B D d → (d = .none → ∀ δ, Nx K B D δ) → RunS K B (t_law_rising K) D (ds.map Sl.d ++ List.replicate (3 - ds.length) Sl.no) := by
  rintro _ _ ⟨r, ps, rfl, hn, hp, rfl⟩ B D k _
  show RunS K B (t_law_rising K) D [.d (eRoad r), .d (eInts ps), .no]
  have key : (!decide (ps.Pairwise (· < ·)) || (ps.map fun p => !(decide (0 ≤ p) && decide (p < (r.length : Int)))).any id) = !risingB r.length (-1) ps := by
    have i := rising_iff r.length ps (-1)
    cases hb : risingB r.length (-1) ps with
    | true =>
      obtain ⟨h1, h2⟩ := i.mp hb
      rw [decide_eq_true h1, Bool.not_true, Bool.false_or, List.any_map, List.any_eq_false]
      intro p hp
      have := h2 p hp
      simp
      omega
    | false =>
      rw [Bool.not_false]
      by_cases h1 : ps.Pairwise (· < ·)
      · rw [decide_eq_true h1, Bool.not_true, Bool.false_or, List.any_map, List.any_eq_true]
        refine Classical.byContradiction fun z => ?_
        rw [i.mpr ⟨h1, fun p hp => ?_⟩] at hb
        · cases hb
        · refine Classical.byContradiction fun w => z ⟨p, hp, ?_⟩
          simp
          omega
      · rw [decide_eq_false h1]; rfl
  have t : EvT K (tOr (tTest (tOp (oNeD K) (tVar 1) (tSortedSet K (tVar 1)))) (tB (tCB (cAny K) (tCons (tLc (iList K (tVar 1)) (gName 2) tYes (tNotV (tChain oLe oLt (tC (.int 0)) (tVar 2) (tCB (cLen K) (tCons (tVar 0) tNil)))) [2]) tNil)))) [.d (eRoad r), .d (eInts ps), .no] (!risingB r.length (-1) ps) := by
    refine evt_is (evt_or (evt_test (evd_neSorted (ns := ps) (evr_d (evd_at rfl)) (evl_d (evd_at rfl)) hp)) fun _ => evt_B (evd_any (ns := ps.map fun p => !(decide (0 ≤ p) && decide (p < (r.length : Int)))) (evl_is (evl_n (evn_lcL (α := Int) default (xs := ps) (en := PyData.int) (f := fun p => .bool (!(decide (0 ≤ p) && decide (p < (r.length : Int))))) (evd_at rfl) (by omega) fun x hx => evd_not (evd_lelt evd_int (evd_at rfl) (evd_lenm (xs := r) (en := eHs) (evl_d (evd_at rfl)))))) ?_))) key
    rw [List.map_map]; rfl
  refine r_when t (fun h => ?_) (fun h => ?_)
  · refine r_ret (evd_is evd_bl ?_) k
    unfold arePosts
    simp only [Bool.not_eq_true'] at h
    rw [h]; rfl
  · refine r_ret (evd_is (evd_or (evd_neE (evr_d (evd_at rfl)) ((shp_ints ps).ok (by decide))) fun _ => evd_eqE (evr_d (evd_at rfl)) ((shp_road r).ok (by decide))) ?_) k
    unfold arePosts
    have h' : risingB r.length (-1) ps = true := by simpa using h
    rw [h', map_nil, map_nil]
    simp only [List.length_eq_zero_iff, Bool.true_and]
theorem run_paying : ∀ ds a b c, R_paying ds a b c → ∀ B D, RtO K B D (He.ga K "Paid") a b c → RunS K B (t_paying K) D (ds.map Sl.d ++ List.replicate (8 - ds.length) Sl.no) := by
  rintro _ _ _ _ ⟨r, fee, rfl, h0, ok, rfl, rfl, rfl⟩ B D k
  show RunS K B (t_paying K) D [.d (eRoad r), .d (.int fee), .no, .no, .no, .no, .no, .no]
  have hn := ok.len
  refine r_drop (ev_asked_road (evd_at rfl) ok) (r_drop (ev_asked_number (evd_at rfl) h0) ?_)
  refine r_set (d := eTab (midT r)) (evd_n (ev_middles (evd_at rfl) ok)) ?_
  dsimp only [List.set_cons_zero, List.set_cons_succ]
  refine r_set (d := eRow (ledL r fee r.length)) (evd_n (ev_led (evd_at rfl) (evd_at rfl) (evd_at rfl) ok)) ?_
  dsimp only [List.set_cons_zero, List.set_cons_succ]
  refine r_setN (ds := (nats []).map .int) (evn_lst ea_nil (by simp [nats])) fun p => ?_
  refine r_set (evd_lenm (xs := r) (en := eHs) (evl_d (evd_at rfl))) ?_
  dsimp only [List.set_cons_zero, List.set_cons_succ]
  have hll := ledL_len r fee r.length
  refine r_while (fun e δ => ∃ (fs : List Nat) (x6 : Sl), e ≤ r.length ∧ fs.length + e ≤ r.length ∧ qb r fee r.length = qb r fee e ++ fs.reverse ∧ δ = [.d (eRoad r), .d (.int fee), .d (eTab (midT r)), .d (eRow (ledL r fee r.length)), .m p ((nats fs).map .int), .d (.int (e : Int)), x6, .no]) r.length ⟨_, WkL.refl _, [], .no, Nat.le_refl _, by simp, by simp, rfl⟩ ?_
  rintro e _ ⟨fs, x6, e1, e2, e3, rfl⟩
  refine ⟨_, evt_test (evd_gt (evd_at rfl) evd_int), fun hc => ?_, fun hc => ?_⟩
  · have hc := of_decide_eq_true hc
    obtain ⟨⟨f, a1, a2, a3, a4⟩, _⟩ := bd_step r fee (e := e) (by omega)
    refine r_set (d := .int (f : Int)) (evd_is (evd_ixt1 (evd_ixm (xs := ledL r fee r.length) (en := eHs) (i := (e : Int)) (evl_d (evd_at rfl)) (evd_at rfl) (by omega) (by omega))) ?_) ?_
    · rw [Int.toNat_natCast, ledL_get r fee e1, a4]
    dsimp only [List.set_cons_zero, List.set_cons_succ]
    refine r_app rfl (evd_ixt0 (ev_cellE (f := f) (e := e) (evd_at rfl) (evd_at rfl) (evd_at rfl) (evd_at rfl) a1 e1)) (by rw [List.length_map, nats_len]; omega) ?_
    dsimp only [List.set_cons_zero, List.set_cons_succ]
    refine r_set (evd_at rfl) ?_
    dsimp only [List.set_cons_zero, List.set_cons_succ]
    refine r_next (nx_inv (δ' := [.d (eRoad r), .d (.int fee), .d (eTab (midT r)), .d (eRow (ledL r fee r.length)), .m p ((nats (fs ++ [mid r f e])).map .int), .d (.int (f : Int)), .d (.int (f : Int)), .no]) ?_ ⟨_, rfl, f, by omega, fs ++ [mid r f e], _, by omega, by rw [List.length_append]; simp; omega, ?_, rfl⟩)
    · unfold nats
      rw [List.map_append, List.map_append]
      walk_at "wk"
    · rw [e3, List.reverse_append]
      have q : qb r fee e = qb r fee f ++ [mid r f e] := by
        rw [qb, dif_pos ⟨by omega, by omega⟩, a2]
      rw [q]
      simp
  · have hc := of_decide_eq_false hc
    have z : e = 0 := by omega
    subst z
    refine r_retO (evnb_make (evmk2 (evl_n (evn_is (evn_rev (evl_at rfl)) ?_)) (evl_n (evn_is (evn_lcL (α := Int × Int) default (xs := ledL r fee r.length) (en := eHs) (f := fun x => .int x.1) (evd_at rfl) (by omega) fun x hx => evd_ixt0 (evd_at rfl)) ?_))) rfl) k
    · rw [e3, qb, dif_neg (by omega)]
      unfold nats
      simp
    · unfold bdL
      rw [List.map_map]
      rfl
theorem ev_paying {r : List (Int × Int)} {c : Int} (ha : EvD K ta δ (eRoad r)) (hb : EvD K tb δ (.int c)) (h : 0 ≤ c) (ok : RoadOk r) : EvNB K (tCall (sp_paying K) [] E0 (tCons ta (tCons tb tNil))) δ (He.ga K "Paid") (nats (qb r c r.length)) (bdL r c) none :=
  evnb_call (ea_cons ha (ea_cons hb ea_nil)) ⟨r, c, rfl, h, ok, rfl, rfl, rfl⟩
theorem len_big {n : Nat} (h : n ≤ 1000) : ((n : Nat) : Int).natAbs < 2 ^ 1000 := by
  have z9 : (2 : Nat) ^ 10 ≤ 2 ^ 1000 := by decide +kernel
  omega
theorem run_Paid_shows (co : COk K (He.ga K "Paid")) : ∀ as b, R_Paid_shows (He.ga K "Paid") as b → ∀ B D, RtD K B D (.bool b) → RunS K B (t_Paid_shows K) D (as.map Ad.sl ++ List.replicate (3 - as.length) Sl.no) := by
  rintro _ _ ⟨r, fee, ps, bs, rfl, ok, hpl, hf, rfl⟩ B D k
  show RunS K B (t_Paid_shows K) D [.od (He.ga K "Paid") ps bs none, .d (eRoad r), .d (.int fee)]
  have hn := ok.len
  refine r_when (evt_or (evt_not (evt_B (ev_are_postsR (evr_d (evd_at rfl)) (evr_l (evl_posts co (evb_od rfl))) hn))) fun _ => evt_not (evt_B (ev_are_bounds (evr_d (evd_at rfl)) (evr_l (evl_bounds co (evb_od rfl))) (evr_d (evd_at rfl)) ok))) (fun h => ?_) (fun h => ?_)
  · refine r_ret (evd_is evd_bl ?_) k
    unfold paidB
    congr 1
    simp only [Bool.or_eq_true, Bool.not_eq_true'] at h
    rcases h with h | h
    · rw [h, Bool.false_and]
    · rw [h, Bool.false_and, Bool.and_false]
  · simp only [Bool.or_eq_false_iff, Bool.not_eq_false'] at h
    obtain ⟨h2, h3⟩ := h
    have hb := (of_decide_eq_true h3).1
    refine r_ret (evd_is (evd_eqI (evd_ixl (xs := bs) (en := PyData.int) (evl_bounds co (evb_od rfl)) ?_) (evd_add (ev_way_ofR (evr_d (evd_at rfl)) (evr_l (evl_posts co (evb_od rfl))) ok h2) (evd_mulW (evd_lenm (xs := ps) (en := PyData.int) (evl_posts co (evb_od rfl))) (evd_at rfl) (big_mul (len_big hpl) hf)))) ?_) k
    · rintro rfl
      cases hb
    · unfold paidB
      rw [h2, h3]
      rfl
end
end Ph

set_option Elab.async false
set_option linter.all false
set_option maxRecDepth 100000
set_option maxHeartbeats 2000000
namespace Ph
open PySem PySem.Spec L2
section
variable {K : PySem.W.Frag} {δ : List Sl} {ta tb tc td te tj : TE} {d e f : PyData}
local macro_rules | `(tactic| walk_at "wk") => `(tactic| first | exact WkL.nil | (refine' WkL.same ?_; walk_at "wk") | (refine' WkL.drop ?_; walk_at "wk"))
theorem run_law_says : ∀ ds d, R_law_says ds d → ∀ B D, RtD K B D d → (d = .none → ∀ δ, Nx K B D δ) → RunS K B (t_law_says K) D (ds.map Sl.d ++ List.replicate (2 - ds.length) Sl.no) := by
  rintro _ _ ⟨b, rfl, rfl⟩ B D k _
  show RunS K B (t_law_says K) D [.d (.bool b), .d (.bool b)]
  refine r_ret (evd_is (evd_and (a := true) (evd_isi (evr_d (evd_at rfl)) kb_bool_bool) fun _ => evd_eqB (evd_at rfl) (evd_at rfl)) ?_) k
  cases b <;> rfl
theorem ev_law_says {b : Bool} (ha : EvD K ta δ (.bool b)) (hb : EvD K tb δ (.bool b)) : EvD K (tCall (sp_law_says K) [] E0 (tCons ta (tCons tb tNil))) δ (.bool true) := evd_call (ea_cons ha (ea_cons hb ea_nil)) ⟨b, rfl, rfl⟩
theorem ev_cut {xs : List Int} {lo hi : Option Int} {tl th : TO} (ha : EvL K ta δ (xs.map .int)) (hl : EvO K tl δ lo) (hh : EvO K th δ hi) : EvN K (tSl (oSl K) ta tl th) δ ((cut xs lo hi).map .int) := evn_is (evn_sl ha hl hh) (cut_map xs lo hi)
theorem run_law_bent : ∀ ds d, R_law_bent ds d → ∀ B D, RtN K B D d → RunS K B (t_law_bent K) D (ds.map Sl.d ++ List.replicate (5 - ds.length) Sl.no) := by
  rintro _ _ ⟨xs, c, rfl, hl, rfl⟩ B D k
  show RunS K B (t_law_bent K) D [.d (eInts xs), .d (.int c), .no, .no, .no]
  have cl := fun lo hi => cut_len xs lo hi
  refine r_set (evd_mod (evd_at rfl) evd_int (by decide)) ?_
  dsimp only [List.set_cons_zero, List.set_cons_succ]
  refine r_set (evd_mod (evd_div (evd_at rfl) evd_int ⟨by decide, by decide⟩) (evd_add (evd_lenm (xs := xs) (en := PyData.int) (evl_d (evd_at rfl))) evd_int) (by omega)) ?_
  dsimp only [List.set_cons_zero, List.set_cons_succ]
  have hb : bent xs c = bent xs c := rfl
  unfold bent at k
  dsimp only at k
  generalize c / 8 % ((xs.length : Int) + 1) = at_ at *
  have z0 := cl none (some at_)
  have z1 := cl (some at_) (some (at_ + 1))
  have z2 := cl (some (at_ + 1)) none
  have z3 := cl (some at_) none
  have z4 := cl none (some 1)
  have z5 := cl (some 1) none
  generalize hk : c % 8 = kd at *
  have t12 : EvT K (tTest (tOp (oInD K) (tVar 2) (tLst (tCons (tC (.int 1)) (tCons (tC (.int 2)) tNil))))) [.d (eInts xs), .d (.int c), .d (.int kd), .d (.int at_), .no] (decide (kd = 1 ∨ kd = 2)) := by
    refine evt_is (evt_test (evd_inD (d := .int kd) (ds := ([1, 2] : List Int).map .int) (evr_d (evd_at rfl)) (evr_n (evn_lst (ea_cons evd_int (ea_cons evd_int ea_nil)) (by simp))) rfl ((shp_ints [1, 2]).ok (by decide)))) ?_
    simp only [List.map_cons, List.map_nil, List.any_cons, List.any_nil, eqv_int, Bool.or_false]
    by_cases h1 : kd = 1
    · subst h1; rfl
    · by_cases h2 : kd = 2
      · subst h2; rfl
      · have a1 : ¬ (1 = kd) := fun z => h1 z.symm
        have a2 : ¬ (2 = kd) := fun z => h2 z.symm
        simp [h1, h2, a1, a2]
  refine r_when t12 (fun h => ?_) (fun h => ?_)
  · have h := of_decide_eq_true h
    rw [if_pos h] at k
    refine r_retN (evn_is (evn_catL (evl_n (evn_catL (evl_n (ev_cut (xs := xs) (evl_d (evd_at rfl)) evo_none (evo_some (evd_at rfl)))) (evl_n (evn_lcL (α := Int) default (xs := cut xs (some at_) (some (at_ + 1))) (en := PyData.int) (f := fun x => .int (x + ([1, -1] : List Int).getD (kd - 1).toNat 0)) (evd_n (ev_cut (xs := xs) (evl_d (evd_at rfl)) (evo_some (evd_at rfl)) (evo_some (evd_add (evd_at rfl) evd_int)))) (by omega) fun x hx => evd_add (evd_at rfl) ?_)) (by simp only [List.length_map]; omega))) (evl_n (ev_cut (xs := xs) (evl_d (evd_at rfl)) (evo_some (evd_add (evd_at rfl) evd_int)) evo_none)) (by simp only [List.length_map, List.length_append]; omega)) ?_) k
    · exact evd_ixT (ds := ([1, -1] : List Int).map PyData.int) (evd_tup (ea_cons evd_int (ea_cons (evd_neg evd_int) ea_nil)) (by simp)) (evd_sub (evd_at rfl) evd_int) (atI_nn (xs := ([1, -1] : List Int)) (en := PyData.int) (by omega) (by simp; omega))
    · simp only [List.map_append, List.map_map]
      rfl
  · have h := of_decide_eq_false h
    rw [if_neg h] at k
    refine r_when (evt_test (evd_eqI (evd_at rfl) evd_int)) (fun h => ?_) (fun h => ?_)
    · have h := of_decide_eq_true h
      rw [if_pos h] at k
      exact r_retN (evn_is (evn_catL (evl_n (ev_cut (xs := xs) (evl_d (evd_at rfl)) evo_none (evo_some (evd_at rfl)))) (evl_n (ev_cut (xs := xs) (evl_d (evd_at rfl)) (evo_some (evd_add (evd_at rfl) evd_int)) evo_none)) (by simp only [List.length_map]; omega)) (by rw [List.map_append])) k
    have h := of_decide_eq_false h
    rw [if_neg h] at k
    refine r_when (evt_test (evd_eqI (evd_at rfl) evd_int)) (fun h => ?_) (fun h => ?_)
    · have h := of_decide_eq_true h
      rw [if_pos h] at k
      exact r_retN (evn_is (evn_catL (evl_n (evn_catL (evl_n (ev_cut (xs := xs) (evl_d (evd_at rfl)) evo_none (evo_some (evd_at rfl)))) (evl_n (ev_cut (xs := xs) (evl_d (evd_at rfl)) (evo_some (evd_at rfl)) (evo_some (evd_add (evd_at rfl) evd_int)))) (by simp only [List.length_map]; omega))) (evl_n (ev_cut (xs := xs) (evl_d (evd_at rfl)) (evo_some (evd_at rfl)) evo_none)) (by simp only [List.length_map, List.length_append]; omega)) (by rw [List.map_append, List.map_append])) k
    have h := of_decide_eq_false h
    rw [if_neg h] at k
    refine r_when (evt_test (evd_eqI (evd_at rfl) evd_int)) (fun h => ?_) (fun h => ?_)
    · have h := of_decide_eq_true h
      rw [if_pos h] at k
      exact r_retN (evn_is (evn_catL (evl_n (ev_cut (xs := xs) (evl_d (evd_at rfl)) evo_none (evo_some evd_int))) (evl_n (evn_lcL (α := Int) default (xs := cut xs (some 1) none) (en := PyData.int) (f := fun x => .int (x + 1)) (evd_n (ev_cut (xs := xs) (evl_d (evd_at rfl)) (evo_some evd_int) evo_none)) (by omega) fun x hx => evd_add (evd_at rfl) evd_int)) (by simp only [List.length_map]; omega)) (by simp only [List.map_append, List.map_map]; rfl)) k
    have h := of_decide_eq_false h
    rw [if_neg h] at k
    refine r_when (evt_test (evd_eqI (evd_at rfl) evd_int)) (fun h => ?_) (fun h => ?_)
    · have h := of_decide_eq_true h
      rw [if_pos h] at k
      exact r_retN (evn_is (evn_catL (evl_n (ev_cut (xs := xs) (evl_d (evd_at rfl)) evo_none (evo_some evd_int))) (evl_n (evn_lcL (α := Int) default (xs := cut xs (some 1) none) (en := PyData.int) (f := fun x => .int (x - c / 64 % 3)) (evd_n (ev_cut (xs := xs) (evl_d (evd_at rfl)) (evo_some evd_int) evo_none)) (by omega) fun x hx => evd_sub (evd_at rfl) (evd_mod (evd_div (evd_at rfl) evd_int ⟨by decide, by decide⟩) evd_int (by decide)))) (by simp only [List.length_map]; omega)) (by simp only [List.map_append, List.map_map]; rfl)) k
    have h := of_decide_eq_false h
    rw [if_neg h] at k
    refine r_retN (evn_if (ds := (if kd = 7 then xs.reverse else xs).map .int) (evt_test (evd_eqI (evd_at rfl) evd_int)) (fun h => ?_) (fun h => ?_)) k
    · rw [if_pos (of_decide_eq_true h)]
      exact evn_is (evn_rev (evl_d (evd_at rfl))) (by rw [List.map_reverse])
    · rw [if_neg (of_decide_eq_false h)]
      exact evn_list (evl_d (evd_at rfl))
theorem ev_law_bent {xs : List Int} {c : Int} (ha : EvD K ta δ (eInts xs)) (hb : EvD K tb δ (.int c)) (hl : xs.length ≤ 100) : EvN K (tCall (sp_law_bent K) [] E0 (tCons ta (tCons tb tNil))) δ ((bent xs c).map .int) := evn_call (ea_cons ha (ea_cons hb ea_nil)) ⟨xs, c, rfl, hl, rfl⟩
end
end Ph

set_option Elab.async false
set_option linter.all false
set_option maxRecDepth 100000
set_option maxHeartbeats 2000000
namespace Ph
open PySem PySem.Spec L2
section
variable {K : PySem.W.Frag} {δ : List Sl} {ta tb tc td te tj : TE} {d e f : PyData}
local macro_rules | `(tactic| walk_at "wk") => `(tactic| first | exact WkL.nil | (refine' WkL.same ?_; walk_at "wk") | (refine' WkL.drop ?_; walk_at "wk"))
theorem ev_showsB {r : List (Int × Int)} {many : Int} {ps bs : List Int} {fee : Int} {to : TE} (ho : EvB K to δ (He.ga K "Best") ps bs (some fee)) (ha : EvR K ta δ (eRoad r)) (hb : EvD K tb δ (.int many)) (ok : RoadOk r) (hp : ps.length ≤ 1000) (hm : many.natAbs < 2 ^ 1000) (hf : fee.natAbs < 2 ^ 1000) :
    EvD K (tMeth (He.ga K "Best") "shows" (sp_Best_shows K) [] E0 to (tCons ta (tCons tb tNil))) δ (.bool (bestB r many ps bs fee)) :=
  evd_meth ho (fun p q => rfl) (eab_d ha (eab_d (evr_d hb) eab_nil)) ⟨r, many, ps, bs, fee, rfl, ok, hp, hm, hf, rfl⟩
theorem ev_showsP {r : List (Int × Int)} {ps bs : List Int} {fee : Int} {to : TE} (ho : EvB K to δ (He.ga K "Paid") ps bs none) (ha : EvR K ta δ (eRoad r)) (hb : EvD K tb δ (.int fee)) (ok : RoadOk r) (hp : ps.length ≤ 1000) (hf : fee.natAbs < 2 ^ 1000) :
    EvD K (tMeth (He.ga K "Paid") "shows" (sp_Paid_shows K) [] E0 to (tCons ta (tCons tb tNil))) δ (.bool (paidB r ps bs fee)) :=
  evd_meth ho (fun p q => rfl) (eab_d ha (eab_d (evr_d hb) eab_nil)) ⟨r, fee, ps, bs, rfl, ok, hp, hf, rfl⟩
theorem shp_three {a b : List Int} {c : Int} : Shp 2 (.list [eInts a, eInts b, .int c]) := shp_list fun d hd => by
  simp at hd
  rcases hd with rfl | rfl | rfl
  · exact shp_ints a
  · exact shp_ints b
  · exact shp_mono (m := 0) (shp_int c) (by decide)
theorem run_law_best_right (co : COk K (He.ga K "Best")) : ∀ ds d, R_law_best_right ds d → ∀ B D, RtD K B D d → (d = .none → ∀ δ, Nx K B D δ) → RunS K B (t_law_best_right K) D (ds.map Sl.d ++ List.replicate (8 - ds.length) Sl.no) := by
  rintro _ _ ⟨r, many, ps, bs, fee, rfl, ok, hp, hbl, hm, hf, rfl⟩ B D k _
  show RunS K B (t_law_best_right K) D [.d (eRoad r), .d (.int many), .d (eInts ps), .d (eInts bs), .d (.int fee), .no, .no, .no]
  have hn := ok.len
  refine r_setM2 (as := ps) (bs := bs) (evl_d (evd_at rfl)) (evl_d (evd_at rfl)) fun h1 p1 q1 => ?_
  dsimp only [List.set_cons_zero, List.set_cons_succ]
  refine r_setO (evnb_make (ps := ps) (bs := bs) (fee := some fee) (evmk3 (evl_m2a rfl) (evl_m2b rfl) (evd_at rfl)) rfl) fun x p q => ?_
  dsimp only [List.set_cons_zero, List.set_cons_succ]
  refine r_m2a rfl evd_int (by omega) ?_
  dsimp only [List.set_cons_zero, List.set_cons_succ]
  refine r_m2b rfl evd_int (by omega) ?_
  dsimp only [List.set_cons_zero, List.set_cons_succ]
  refine r_skip (evt_test (evd_neSame (d := .list [eInts ps, eInts bs, .int fee]) (evr_lstR (ear_cons (evr_l (evl_posts co (evb_at rfl))) (ear_cons (evr_l (evl_bounds co (evb_at rfl))) (ear_cons (evr_d (evd_fee co (evb_at rfl))) ear_nil))) (by simp)) (evr_n (evn_lst (ea_cons (evd_at rfl) (ea_cons (evd_at rfl) (ea_cons (evd_at rfl) ea_nil))) (by simp))) shp_three (by decide))) ?_
  refine r_set (evd_and (evd_eqI (evd_lenm (xs := ps) (en := PyData.int) (evl_d (evd_at rfl))) (evd_at rfl)) fun _ => evd_and (ev_law_risingR (evr_d (evd_at rfl)) (evr_d (evd_at rfl)) hn hp) fun _ => ev_law_bounds (evr_d (evd_at rfl)) (evr_d (evd_at rfl)) (evr_d (evd_at rfl)) ok) ?_
  dsimp only [List.set_cons_zero, List.set_cons_succ]
  have rest : ∀ (D2 : Ends), RtD K B D2 (.bool true) → RunS K B (tSeq (tRet (tCall (sp_law_says K) [] E0 (tCons (tMeth (He.ga K "Best") "shows" (sp_Best_shows K) [] E0 (tVar 6) (tCons (tVar 0) (tCons (tVar 1) tNil))) (tCons (tVar 7) tNil)))) tNext) D2 [.d (eRoad r), .d (.int many), .d (eInts ps), .d (eInts bs), .d (.int fee), .m2 h1 p1 q1 (ps ++ [0]) (bs ++ [0]), .ob x (He.ga K "Best") p q ps bs (some fee), .d (.bool (bestB r many ps bs fee))] := fun D2 k2 =>
    r_ret (ev_law_says (ev_showsB (evb_at rfl) (evr_d (evd_at rfl)) (evd_at rfl) ok (by omega) hm hf) (evd_at rfl)) k2
  refine r_when (evt_B (evd_at rfl)) (fun h => ?_) (fun h => ?_)
  · have hh := h
    simp only [Bool.and_eq_true, decide_eq_true_eq] at hh
    obtain ⟨a1, a2, a3⟩ := hh
    have hb := (of_decide_eq_true a3).1
    refine r_set (d := .bool (bestB r many ps bs fee)) (evd_is (evd_eqI (evd_sub (evd_ixl (xs := bs) (en := PyData.int) (evl_d (evd_at rfl)) ?_) (evd_mulW (evd_at rfl) (evd_at rfl) (big_mul hm hf))) (ev_law_wayR (evr_d (evd_at rfl)) (evr_d (evd_at rfl)) ok (by omega) a2)) ?_) (r_next (nx_run ?_))
    · rintro rfl
      cases hb
    · unfold bestB
      rw [decide_eq_true a1, a2, a3]
      rfl
    · dsimp only [List.set_cons_zero, List.set_cons_succ]
      exact rest _ k
  · have e : (decide ((ps.length : Int) = many) && (arePosts r.length ps && boundsB r bs fee)) = bestB r many ps bs fee := by
      rw [h]
      unfold bestB
      rw [← Bool.and_assoc, ← Bool.and_assoc]
      rw [← Bool.and_assoc] at h
      rw [h, Bool.false_and]
    rw [e]
    exact rest _ k
theorem ev_best_right {r : List (Int × Int)} {many : Int} {ps bs : List Int} {fee : Int} {t1 t2 t3 t4 t5 : TE} (h1 : EvD K t1 δ (eRoad r)) (h2 : EvD K t2 δ (.int many)) (h3 : EvD K t3 δ (eInts ps)) (h4 : EvD K t4 δ (eInts bs)) (h5 : EvD K t5 δ (.int fee)) (ok : RoadOk r) (hp : ps.length < 64) (hb : bs.length ≤ 1000) (hm : many.natAbs < 2 ^ 1000) (hf : fee.natAbs < 2 ^ 1000) :
    EvD K (tCall (sp_law_best_right K) [] E0 (tCons t1 (tCons t2 (tCons t3 (tCons t4 (tCons t5 tNil)))))) δ (.bool true) := evd_call (ea_cons h1 (ea_cons h2 (ea_cons h3 (ea_cons h4 (ea_cons h5 ea_nil))))) ⟨r, many, ps, bs, fee, rfl, ok, hp, hb, hm, hf, rfl⟩
theorem run_law_paid_right (co : COk K (He.ga K "Paid")) : ∀ ds d, R_law_paid_right ds d → ∀ B D, RtD K B D d → (d = .none → ∀ δ, Nx K B D δ) → RunS K B (t_law_paid_right K) D (ds.map Sl.d ++ List.replicate (7 - ds.length) Sl.no) := by
  rintro _ _ ⟨r, fee, ps, bs, rfl, ok, hp, hbl, hf, rfl⟩ B D k _
  show RunS K B (t_law_paid_right K) D [.d (eRoad r), .d (.int fee), .d (eInts ps), .d (eInts bs), .no, .no, .no]
  have hn := ok.len
  refine r_setM2 (as := ps) (bs := bs) (evl_d (evd_at rfl)) (evl_d (evd_at rfl)) fun h1 p1 q1 => ?_
  dsimp only [List.set_cons_zero, List.set_cons_succ]
  refine r_setO (evnb_make (ps := ps) (bs := bs) (fee := none) (evmk2 (evl_m2a rfl) (evl_m2b rfl)) rfl) fun x p q => ?_
  dsimp only [List.set_cons_zero, List.set_cons_succ]
  refine r_m2a rfl evd_int (by omega) ?_
  dsimp only [List.set_cons_zero, List.set_cons_succ]
  refine r_m2b rfl evd_int (by omega) ?_
  dsimp only [List.set_cons_zero, List.set_cons_succ]
  refine r_skip (evt_test (evd_neSame (d := .list [eInts ps, eInts bs]) (evr_lstR (ear_cons (evr_l (evl_posts co (evb_at rfl))) (ear_cons (evr_l (evl_bounds co (evb_at rfl))) ear_nil)) (by simp)) (evr_n (evn_lst (ea_cons (evd_at rfl) (ea_cons (evd_at rfl) ea_nil)) (by simp))) (shp_pair (shp_ints ps) (shp_ints bs)) (by decide))) ?_
  refine r_set (evd_and (ev_law_risingR (evr_d (evd_at rfl)) (evr_d (evd_at rfl)) hn hp) fun _ => ev_law_bounds (evr_d (evd_at rfl)) (evr_d (evd_at rfl)) (evr_d (evd_at rfl)) ok) ?_
  dsimp only [List.set_cons_zero, List.set_cons_succ]
  have rest : ∀ (D2 : Ends), RtD K B D2 (.bool true) → RunS K B (tSeq (tRet (tCall (sp_law_says K) [] E0 (tCons (tMeth (He.ga K "Paid") "shows" (sp_Paid_shows K) [] E0 (tVar 5) (tCons (tVar 0) (tCons (tVar 1) tNil))) (tCons (tVar 6) tNil)))) tNext) D2 [.d (eRoad r), .d (.int fee), .d (eInts ps), .d (eInts bs), .m2 h1 p1 q1 (ps ++ [0]) (bs ++ [0]), .ob x (He.ga K "Paid") p q ps bs none, .d (.bool (paidB r ps bs fee))] := fun D2 k2 =>
    r_ret (ev_law_says (ev_showsP (evb_at rfl) (evr_d (evd_at rfl)) (evd_at rfl) ok (by omega) hf) (evd_at rfl)) k2
  refine r_when (evt_B (evd_at rfl)) (fun h => ?_) (fun h => ?_)
  · have hh := h
    simp only [Bool.and_eq_true] at hh
    obtain ⟨a2, a3⟩ := hh
    have hb := (of_decide_eq_true a3).1
    refine r_set (d := .bool (paidB r ps bs fee)) (evd_is (evd_eqI (evd_ixl (xs := bs) (en := PyData.int) (evl_d (evd_at rfl)) ?_) (evd_add (ev_law_wayR (evr_d (evd_at rfl)) (evr_d (evd_at rfl)) ok (by omega) a2) (evd_mulW (evd_lenm (xs := ps) (en := PyData.int) (evl_d (evd_at rfl))) (evd_at rfl) (big_mul (len_big (by omega)) hf)))) ?_) (r_next (nx_run ?_))
    · rintro rfl
      cases hb
    · unfold paidB
      rw [a2, a3]
      rfl
    · dsimp only [List.set_cons_zero, List.set_cons_succ]
      exact rest _ k
  · have e : (arePosts r.length ps && boundsB r bs fee) = paidB r ps bs fee := by
      rw [h]
      unfold paidB
      rw [← Bool.and_assoc, h, Bool.false_and]
    rw [e]
    exact rest _ k
theorem ev_paid_right {r : List (Int × Int)} {ps bs : List Int} {fee : Int} {t1 t2 t3 t4 : TE} (h1 : EvD K t1 δ (eRoad r)) (h2 : EvD K t2 δ (.int fee)) (h3 : EvD K t3 δ (eInts ps)) (h4 : EvD K t4 δ (eInts bs)) (ok : RoadOk r) (hp : ps.length < 64) (hb : bs.length ≤ 1000) (hf : fee.natAbs < 2 ^ 1000) :
    EvD K (tCall (sp_law_paid_right K) [] E0 (tCons t1 (tCons t2 (tCons t3 (tCons t4 tNil))))) δ (.bool true) := evd_call (ea_cons h1 (ea_cons h2 (ea_cons h3 (ea_cons h4 ea_nil)))) ⟨r, fee, ps, bs, rfl, ok, hp, hb, hf, rfl⟩
end
end Ph

set_option Elab.async false
set_option linter.all false
set_option maxRecDepth 100000
set_option maxHeartbeats 2000000
namespace Ph
open PySem PySem.Spec L2
def enLLI (x : List Int × List Int × Int) : PyData := .tuple [eInts x.1, eInts x.2.1, .int x.2.2]
theorem step_small : ∀ n, n ≤ 63 → (stepIx n 5 12).length ≤ 100 := by decide +kernel
theorem stepL_len {α : Type} (xs : List α) (h : xs.length ≤ 63) : (stepL xs 5 12).length ≤ 100 := by
  unfold stepL
  exact Nat.le_trans (List.length_filterMap_le _ _) (step_small _ h)
theorem fee_big2 {r : List (Int × Int)} (ok : RoadOk r) {m : Nat} (h1 : 1 ≤ m) (h2 : m ≤ r.length) : (feeOf r m).natAbs < 2 ^ 999 := by
  have hn := ok.len
  have z : (2 : Nat) ^ 900 ≤ 2 ^ 999 := by decide +kernel
  unfold feeOf
  split
  · rename_i h
    have a := V_fall0 ok h1 (by omega)
    have b := V_nonneg ok (k := m + 1) (n := r.length) (by omega) (by omega) (Nat.le_refl _)
    have c := V_top ok (m - 1) (by omega)
    have e : 1 + (m - 1) = m := by omega
    rw [e] at c
    have d := (V_one (r := r) (e := r.length) (by omega) (Nat.le_refl _)).1
    have w := wv_big ok 0 r.length hn (by omega)
    rw [d] at c
    omega
  · show (0 : Int).natAbs < _
    exact Nat.lt_of_lt_of_le (by decide) z
theorem small_big {a : Int} (h : a.natAbs ≤ 1000) : a.natAbs < 2 ^ 1000 := by
  have z9 : (2 : Nat) ^ 10 ≤ 2 ^ 1000 := by decide +kernel
  omega
section
variable {K : PySem.W.Frag} {δ : List Sl} {ta tb tc td te tj : TE} {d e f : PyData}
local macro_rules | `(tactic| walk_at "wk") => `(tactic| first | exact WkL.nil | (refine' WkL.same ?_; walk_at "wk") | (refine' WkL.drop ?_; walk_at "wk"))
theorem k06_turn {s : List Int} {r : List (Int × Int)} {m : Int} {ps bs qs cs : List Int} {fee : Int} {c : Int} {B : Bs} {D : Ends} (co : COk K (He.ga K "Best")) (cp : COk K (He.ga K "Paid")) (ok : RoadOk r) (hm : m.natAbs ≤ 1000) (hp : ps.length ≤ 10) (hb : bs.length ≤ 12) (hq : qs.length ≤ 10) (hc : cs.length ≤ 12) (hf : fee.natAbs + 1 < 2 ^ 1000)
    (k : Nx K B D [.d (eInts s), .d (eRoad r), .d (.int m), .od (He.ga K "Best") ps bs (some fee), .od (He.ga K "Paid") qs cs none, .no, .no, .no, .no, .no, .no, .no, .no]) :
    RunS K B (t_law_k06_b2 K) D [.d (eInts s), .d (eRoad r), .d (.int m), .od (He.ga K "Best") ps bs (some fee), .od (He.ga K "Paid") qs cs none, .d (.int c), .no, .no, .no, .no, .no, .no, .no] := by
  have l1 := bent_len ps (c / 3)
  have l2 := bent_len bs c
  have l3 := bent_len qs (c / 3)
  have l4 := bent_len cs c
  have hm' := small_big hm
  refine r_set (evd_n (ev_law_bent (xs := ps) (evd_postsD co rfl) (evd_div (evd_at rfl) evd_int ⟨by decide, by decide⟩) (by omega))) ?_
  dsimp only [List.set_cons_zero, List.set_cons_succ]
  refine r_set (evd_n (ev_law_bent (xs := bs) (evd_boundsD co rfl) (evd_at rfl) (by omega))) ?_
  dsimp only [List.set_cons_zero, List.set_cons_succ]
  have h4 := emod4 (m := c / 5) 4 (by decide)
  have hpick : (([0, 1, -1, 0] : List Int).getD (c / 5 % 4).toNat 0).natAbs ≤ 1 := by
    have : (c / 5 % 4).toNat = 0 ∨ (c / 5 % 4).toNat = 1 ∨ (c / 5 % 4).toNat = 2 ∨ (c / 5 % 4).toNat = 3 := by omega
    rcases this with h | h | h | h <;> rw [h] <;> decide
  refine r_set (evd_add (evd_fee co (evb_od rfl)) (ev_pick (a := 0) (b := 1) (c := -1) (d := 0) (evd_tup (ea_cons evd_int (ea_cons evd_int (ea_cons (evd_neg evd_int) (ea_cons evd_int ea_nil)))) (by decide)) (evd_mod (evd_div (evd_at rfl) evd_int ⟨by decide, by decide⟩) evd_int (by decide)) h4)) ?_
  dsimp only [List.set_cons_zero, List.set_cons_succ]
  generalize ([0, 1, -1, 0] : List Int).getD (c / 5 % 4).toNat 0 = pk at *
  generalize hB1 : bent ps (c / 3) = b1 at *
  generalize hB2 : bent bs c = b2 at *
  refine r_set (d := .list ([(ps, b2, fee), (b1, bs, fee), (ps, b2, fee + pk)].map enLLI)) (evd_n (evn_lst (ea_cons (evd_tup (ea_cons (evd_postsD co rfl) (ea_cons (evd_at rfl) (ea_cons (evd_fee co (evb_od rfl)) ea_nil))) (by simp)) (ea_cons (evd_tup (ea_cons (evd_at rfl) (ea_cons (evd_boundsD co rfl) (ea_cons (evd_fee co (evb_od rfl)) ea_nil))) (by simp)) (ea_cons (evd_tup (ea_cons (evd_postsD co rfl) (ea_cons (evd_at rfl) (ea_cons (evd_at rfl) ea_nil))) (by simp)) ea_nil))) (by simp))) ?_
  dsimp only [List.set_cons_zero, List.set_cons_succ]
  refine r_forE (evi_listm (xs := [(ps, b2, fee), (b1, bs, fee), (ps, b2, fee + pk)]) (en := enLLI) (evd_at rfl)) (fun _ => [.d (eInts s), .d (eRoad r), .d (.int m), .od (He.ga K "Best") ps bs (some fee), .od (He.ga K "Paid") qs cs none, .d (.int c), .no, .no, .no, .no, .no, .no, .no]) (by walk_at "wk") (fun Gb hb i hi => ⟨_, tg_tup (tgs_cons tg_name (tgs_cons tg_name (tgs_cons tg_name tgs_nil))) rfl, ?_⟩) ?_
  · dsimp only [List.set_cons_zero, List.set_cons_succ]
    have hall : ∀ x ∈ [(ps, b2, fee), (b1, bs, fee), (ps, b2, fee + pk)], x.1.length < 64 ∧ x.2.1.length ≤ 1000 ∧ x.2.2.natAbs < 2 ^ 1000 := by
      intro x hx
      simp only [List.mem_cons, List.not_mem_nil, or_false] at hx
      rcases hx with rfl | rfl | rfl
      · refine ⟨?_, ?_, ?_⟩
        · show ps.length < 64; omega
        · show b2.length ≤ 1000; omega
        · show fee.natAbs < _; omega
      · refine ⟨?_, ?_, ?_⟩
        · show b1.length < 64; omega
        · show bs.length ≤ 1000; omega
        · show fee.natAbs < _; omega
      · refine ⟨?_, ?_, ?_⟩
        · show ps.length < 64; omega
        · show b2.length ≤ 1000; omega
        · show (fee + pk).natAbs < _; omega
    obtain ⟨q1, q2, q3⟩ := hall _ (getD_mem hi)
    generalize [(ps, b2, fee), (b1, bs, fee), (ps, b2, fee + pk)].getD i default = x at *
    refine r_skip (evt_is (evt_not (evt_B (ev_best_right (evd_at rfl) (evd_at rfl) (evd_at rfl) (evd_at rfl) (evd_at rfl) ok q1 q2 hm' q3))) rfl) ?_
    refine r_skip (evt_is (evt_not (evt_B (ev_best_right (evd_at rfl) (evd_lenm (xs := x.1) (en := PyData.int) (evl_d (evd_at rfl))) (evd_at rfl) (evd_at rfl) (evd_at rfl) ok q1 q2 (len_big (by omega)) q3))) rfl) ?_
    refine r_next (nx_env ?_)
    walk_at "wk"
  · have h3 := emod4 (m := c / 7) 3 (by decide)
    have h60 := emod4 (m := s.sum / 5) 60 (by decide)
    have hpk : (([0, 1, -1] : List Int).getD (c / 7 % 3).toNat 0).natAbs ≤ 1 := by
      have : (c / 7 % 3).toNat = 0 ∨ (c / 7 % 3).toNat = 1 ∨ (c / 7 % 3).toNat = 2 := by omega
      rcases this with h | h | h <;> rw [h] <;> decide
    refine r_set (evd_max2 evd_int (evd_add (evd_mod (evd_div (evd_sum (evl_d (evd_at rfl))) evd_int ⟨by decide, by decide⟩) evd_int (by decide)) (evd_ixT (d := .int (([0, 1, -1] : List Int).getD (c / 7 % 3).toNat 0)) (ds := ([0, 1, -1] : List Int).map PyData.int) (evd_tup (ea_cons evd_int (ea_cons evd_int (ea_cons (evd_neg evd_int) ea_nil))) (by simp)) (evd_mod (evd_div (evd_at rfl) evd_int ⟨by decide, by decide⟩) evd_int (by decide)) (atI_nn (xs := ([0, 1, -1] : List Int)) (en := PyData.int) (by omega) (by simp; omega))))) ?_
    dsimp only [List.set_cons_zero, List.set_cons_succ]
    generalize ([0, 1, -1] : List Int).getD (c / 7 % 3).toNat 0 = pk3 at *
    refine r_skip (evt_is (evt_not (evt_B (ev_paid_right (evd_at rfl) (evd_at rfl) (evd_n (ev_law_bent (xs := qs) (evd_postsD cp rfl) (evd_div (evd_at rfl) evd_int ⟨by decide, by decide⟩) (by omega))) (evd_boundsD cp rfl) ok (by omega) (by omega) (small_big (by split <;> omega))))) rfl) ?_
    refine r_skip (evt_is (evt_not (evt_B (ev_paid_right (evd_at rfl) (evd_at rfl) (evd_postsD cp rfl) (evd_n (ev_law_bent (xs := cs) (evd_boundsD cp rfl) (evd_at rfl) (by omega))) ok (by omega) (by omega) (small_big (by split <;> omega))))) rfl) ?_
    refine r_next fun σ H g => k σ H (g.weak ?_)
    walk_at "wk"
theorem k06_last {B : Bs} {D : Ends} {δ : List Sl} (k : RtD K B D (.bool true)) : RunS K B (t_law_k06_s6 K) D δ := by
  have okx : RoadOk [((1 : Int), (2 : Int))] := by
    have big : 100 ≤ 2 ^ 300 := by decide +kernel
    refine ⟨fun i hi => absurd hi (by simp), fun x hx => ?_, by simp, fun x hx => ?_⟩
    · simp at hx; rw [hx]; decide
    · simp only [List.mem_cons, List.not_mem_nil, or_false] at hx
      rw [hx]
      exact ⟨Nat.lt_of_lt_of_le (by decide) big, Nat.lt_of_lt_of_le (by decide) big⟩
  have hpb : nats (pb [((1 : Int), (2 : Int))] 1 1) = [0] := by
    have a := (pb_cut (r := [((1 : Int), (2 : Int))]) 0 (e := 1) (by decide) (by decide)).ris
    obtain ⟨p, hp⟩ := List.length_eq_one_iff.mp a.2
    have := a.1.lt p (by rw [hp]; simp)
    have e : p = 0 := by omega
    rw [hp, e]; rfl
  obtain ⟨w1, w2, w3, w4⟩ := way_pb (r := [((1 : Int), (2 : Int))]) (k := 1) okx (by decide) (by decide)
  have e1 : [((1 : Int), (2 : Int))].length = 1 := rfl
  rw [e1, hpb] at w3 w4
  have v := V_all okx (n := 1) (by decide) (by decide)
  rw [v] at w4
  have hbd : BndOk [((1 : Int), (2 : Int))] [0, 4] 4 := by
    refine ⟨rfl, rfl, fun f hf j hj => ?_⟩
    have f0 : f = 0 := by rw [e1] at hf; omega
    subst f0
    have j0 : j = 0 := by rw [e1] at hj; omega
    subst j0
    have := wv_one (r := [((1 : Int), (2 : Int))]) 0
    show ([0, 4] : List Int).getD 1 0 - ([0, 4] : List Int).getD 0 0 ≤ wv [((1 : Int), (2 : Int))] 0 1 + 4
    rw [this]
    decide
  have hB : bestB [((1 : Int), (2 : Int))] 1 [0] [0, 4] 4 = true := by
    unfold bestB boundsB
    rw [e1, w3, decide_eq_true hbd, w4]
    decide
  refine r_ret (ev_law_says (evd_is (ev_showsB (r := [(1, 2)]) (many := 1) (ps := [0]) (bs := [0, 4]) (fee := 4) (evb_n (evnb_make (evmk3 (evl_n (evn_lst (ea_cons evd_int ea_nil) (by simp))) (evl_n (evn_lst (ea_cons evd_int (ea_cons evd_int ea_nil)) (by simp))) evd_int) rfl)) (evr_n (evn_lst (ea_cons (evd_tup (ea_cons evd_int (ea_cons evd_int ea_nil)) (by simp)) ea_nil) (by simp))) evd_int okx (by simp) (small_big (by decide)) (small_big (by decide))) (by rw [hB])) evd_bl) k
theorem run_law_k06 (co : COk K (He.ga K "Best")) (cp : COk K (He.ga K "Paid")) : ∀ ds d, R_law ds d → ∀ B D, RtD K B D d → (d = .none → ∀ δ, Nx K B D δ) → RunS K B (t_law_k06 K) D (ds.map Sl.d ++ List.replicate (13 - ds.length) Sl.no) := by
  rintro _ _ ⟨s, rfl, hs, rfl⟩ B D k _
  show RunS K B (t_law_k06 K) D [.d (eInts s), .no, .no, .no, .no, .no, .no, .no, .no, .no, .no, .no, .no]
  have ok0 := roadOk_law hs
  have t9 : cut (lawRoad s) none (some (9 : Int)) = ((lawRoad s).drop 0).take (min 9 (lawRoad s).length) := cut_to' (xs := lawRoad s) (e := 9)
  refine r_set (d := eRoad (((lawRoad s).drop 0).take (min 9 (lawRoad s).length))) (evd_n (evn_is (evn_sl (evl_n (ev_law_road (evd_at rfl) hs)) evo_none (evo_some evd_int)) (by rw [cut_map, t9]))) ?_
  have ok := roadOk_slice ok0 0 (min 9 (lawRoad s).length)
  have hl : (((lawRoad s).drop 0).take (min 9 (lawRoad s).length)).length ≤ 9 := by rw [List.length_take]; omega
  generalize ((lawRoad s).drop 0).take (min 9 (lawRoad s).length) = r at *
  dsimp only [List.set_cons_zero, List.set_cons_succ]
  refine r_when (evt_test (evd_eqE (evr_d (evd_at rfl)) ((shp_road _).ok (by decide)))) (fun _ => ?_) (fun h => ?_)
  · have p1 : paidB [] [] [0] 4 = true := by
      have hb : BndOk [] [0] 4 := ⟨rfl, rfl, fun f hf => absurd hf (by simp)⟩
      unfold paidB boundsB
      rw [decide_eq_true hb]
      rfl
    have p2 : paidB [] [] [] 4 = false := by
      have hb : boundsB [] [] 4 = false := bnd_no fun z => absurd z.1 (by simp)
      unfold paidB
      rw [hb, Bool.false_and, Bool.and_false]
    exact r_ret (evd_is (evd_and (a := true) (ev_law_says (b := true) (evd_is (ev_showsP (r := []) (ps := []) (bs := [0]) (fee := 4) (evb_n (evnb_make (evmk2 (evl_n (evn_lst ea_nil (by simp))) (evl_n (evn_lst (ea_cons evd_int ea_nil) (by simp)))) rfl)) (evr_n (evn_lst ea_nil (by simp))) evd_int roadOk_nil (by simp) (small_big (by decide))) (by rw [p1])) evd_bl) fun _ => ev_law_says (b := false) (evd_is (ev_showsP (r := []) (ps := []) (bs := []) (fee := 4) (evb_n (evnb_make (evmk2 (evl_n (evn_lst ea_nil (by simp))) (evl_n (evn_lst ea_nil (by simp)))) rfl)) (evr_n (evn_lst ea_nil (by simp))) evd_int roadOk_nil (by simp) (small_big (by decide))) (by rw [p2])) evd_bl) rfl) k
  · rw [map_nil] at h
    have hne : r ≠ [] := of_decide_eq_false h
    have hp : 0 < r.length := List.length_pos_iff.mpr hne
    have hmm := emod4 (m := s.sum) (r.length : Int) (by omega)
    obtain ⟨m, hme⟩ : ∃ m : Nat, 1 + s.sum % (r.length : Int) = (m : Int) := ⟨(1 + s.sum % (r.length : Int)).toNat, by omega⟩
    have hm1 : 1 ≤ m := by omega
    have hm2 : m ≤ r.length := by omega
    refine r_set (d := .int (m : Int)) (evd_is (evd_add evd_int (evd_mod (evd_sum (evl_d (evd_at rfl))) (evd_lenm (xs := r) (en := eHs) (evl_d (evd_at rfl))) (by omega))) (by rw [hme])) ?_
    dsimp only [List.set_cons_zero, List.set_cons_succ]
    obtain ⟨w1, w2, w3, w4⟩ := way_pb ok hm1 hm2
    have hf := fee_big ok hm1 hm2
    refine r_setO (ev_best (evd_at rfl) (evd_at rfl) hm1 hm2 ok) fun x p q => ?_
    dsimp only [List.set_cons_zero, List.set_cons_succ]
    refine r_freezeO (i := 3) rfl ?_
    dsimp only [List.set_cons_zero, List.set_cons_succ]
    have h60 := emod4 (m := s.sum / 5) 60 (by decide)
    refine r_setO (ev_paying (evd_at rfl) (evd_mod (evd_div (evd_sum (evl_d (evd_at rfl))) evd_int ⟨by decide, by decide⟩) evd_int (by decide)) h60.1 ok) fun x2 p2 q2 => ?_
    dsimp only [List.set_cons_zero, List.set_cons_succ]
    refine r_freezeO (i := 4) rfl ?_
    dsimp only [List.set_cons_zero, List.set_cons_succ]
    obtain ⟨kk, cc, ca, cb⟩ := qb_cut (r := r) (fee := s.sum / 5 % 60) r.length r.length (Nat.le_refl _)
    have hql := ris_len ca.ris.1
    have hfe : (feeOf r m).natAbs + 1 < 2 ^ 1000 := by
      have z : (2 : Nat) ^ 999 + 1 < 2 ^ 1000 := by decide +kernel
      have f2 := fee_big2 ok hm1 hm2
      omega
    refine r_forE (evi_listm (xs := cut s none (some 5) ++ stepL s 5 12) (en := PyData.int) (evd_n (evn_is (evn_catL (evl_n (ev_cut (xs := s) (evl_d (evd_at rfl)) evo_none (evo_some evd_int))) (evl_n (evn_stp (evl_d (evd_at rfl)) (by rw [stepL_map, List.length_map]; have := stepL_len s hs; omega))) (by rw [stepL_map, List.length_map, List.length_map]; have := stepL_len s hs; have := cut_len s none (some 5); omega)) (by rw [stepL_map, List.map_append])))) (fun _ => [.d (eInts s), .d (eRoad r), .d (.int (m : Int)), .od (He.ga K "Best") (nats (pb r m r.length)) (bdL r (feeOf r m)) (some (feeOf r m)), .od (He.ga K "Paid") (nats (qb r (s.sum / 5 % 60) r.length)) (bdL r (s.sum / 5 % 60)) none, .no, .no, .no, .no, .no, .no, .no, .no]) (WkL.refl _) (fun Gb hb i hi => ⟨_, tg_name, ?_⟩) (k06_last k)
    dsimp only [List.set_cons_zero, List.set_cons_succ]
    exact k06_turn co cp ok (by omega) (by rw [nats_len, w2]; omega) (by rw [bdL_len]; omega) (by rw [nats_len]; omega) (by rw [bdL_len]; omega) hfe (nx_env (WkL.refl _))
end
end Ph

set_option Elab.async false
set_option linter.all false
set_option maxRecDepth 100000
set_option maxHeartbeats 4000000
namespace Ph_k06
open PySem PySem.Spec L2 Ph
def topS (i : Nat) : Stmt := PySem.Challenge.pw_posthouses_k06_answers_by_hand.main.body.getD i (.Pass ⟨0, 0, 0, 0⟩)
section
variable {P : Program} {w : World} {K : PySem.W.Frag} {mg : Str → Option Value} {base : Heap}
abbrev s_is_number : Stmt := topS 5
abbrev N_is_number : List Str := ["thing"]
theorem sc_is_number : FnScope N_is_number ["thing"] (defScope s_is_number) := ⟨rfl, rfl, rfl, by decide +kernel, rfl, by decide +kernel, by decide +kernel⟩
theorem d_is_number (bl : Blt mg)   {f : Addr} {cdv : Value} {A : Around} {outer : List Env} {s : Shared} {H : Hp} {E : XK} (hr : Room 0 (A.deeper (PyProof.Rows.envOfC "is_number" (defScope s_is_number) s.heap.objs.size f cdv))) :
    PSs (cxOf CX0 P w K mg base N_is_number "is_number" (defScope s_is_number) f cdv A outer s H E).nox (defBody s_is_number) (t_is_number K) :=
  (pss_cons (ps_ret (pe_and (pe_callB (q_isi) (by rfl) bl.isinstance (by decide +kernel) (pa_cons (pv 0) (pa_cons (pe_bltn (v := .ty "int") (by rfl) bl.int (by decide +kernel) rfl) pa_nil))) (pe_one (pe_not (pe_callB (q_isi) (by rfl) bl.isinstance (by decide +kernel) (pa_cons (pv 0) (pa_cons (pe_bltn (v := .ty "bool") (by rfl) bl.bool (by decide +kernel) rfl) pa_nil)))))))
  pss_nil)
abbrev s_is_house : Stmt := topS 6
abbrev N_is_house : List Str := ["thing"]
theorem sc_is_house : FnScope N_is_house ["thing"] (defScope s_is_house) := ⟨rfl, rfl, rfl, by decide +kernel, rfl, by decide +kernel, by decide +kernel⟩
theorem d_is_house (bl : Blt mg) (c_is_number : Cl P w K mg base 1 "is_number" (sp_is_number K))  {f : Addr} {cdv : Value} {A : Around} {outer : List Env} {s : Shared} {H : Hp} {E : XK} (hr : Room 1 (A.deeper (PyProof.Rows.envOfC "is_house" (defScope s_is_house) s.heap.objs.size f cdv))) :
    PSs (cxOf CX0 P w K mg base N_is_house "is_house" (defScope s_is_house) f cdv A outer s H E).nox (defBody s_is_house) (t_is_house K) :=
  (pss_cons (ps_if (PW.pt (pw_or (pt_not (pt_val (pe_callB (q_isi) (by rfl) bl.isinstance (by decide +kernel) (pa_cons (pv 0) (pa_cons (pe_bltn (v := .ty "tuple") (by rfl) bl.tuple (by decide +kernel) rfl) pa_nil))))) (pw_or (pt_cmpR p_neI (pe_callB (q_len) (by rfl) bl.len (by decide +kernel) (pa_cons (pv 0) pa_nil)) pe_int (nomark _)) (pw_or1 (pt_not (pt_val (pc c_is_number hr (by decide) (by rfl) (pa_cons (pe_ix p_ixT (pv 0) pe_int (fun _ _ => rfl)) pa_nil))))))))
   (pss_cons (ps_ret pe_bl)
  pss_nil) pss_nil)
  (pss_cons (ps_ret (pe_and (pc c_is_number hr (by decide) (by rfl) (pa_cons (pe_ix p_ixT (pv 0) pe_int (fun _ _ => rfl)) pa_nil)) (pe_one (pe_cmpR p_ge (pe_ix p_ixT (pv 0) pe_int (fun _ _ => rfl)) pe_int (nomark _)))))
  pss_nil))
abbrev s_asked_road : Stmt := topS 7
abbrev N_asked_road : List Str := ["road", "house", "at"]
theorem sc_asked_road : FnScope N_asked_road ["road"] (defScope s_asked_road) := ⟨rfl, rfl, rfl, by decide +kernel, rfl, by decide +kernel, by decide +kernel⟩
theorem d_asked_road (bl : Blt mg) (c_is_house : Cl P w K mg base 2 "is_house" (sp_is_house K))  {f : Addr} {cdv : Value} {A : Around} {outer : List Env} {s : Shared} {H : Hp} {E : XK} (hr : Room 2 (A.deeper (PyProof.Rows.envOfC "asked_road" (defScope s_asked_road) s.heap.objs.size f cdv))) :
    PSs (cxOf CX0 P w K mg base N_asked_road "asked_road" (defScope s_asked_road) f cdv A outer s H E).nox (defBody s_asked_road) (t_asked_road K) :=
  (pss_cons (ps_if (PW.pt (pw_or (pt_not (pt_val (pe_callB (q_isi) (by rfl) bl.isinstance (by decide +kernel) (pa_cons (pv 0) (pa_cons (pe_bltn (v := .ty "list") (by rfl) bl.list (by decide +kernel) rfl) pa_nil))))) (pw_or1 (pt_not (pt_val (pe_callB (q_all rfl) (by rfl) bl.all (by decide +kernel) (pa_cons (pe_lc (own := [("house", 1)]) (g := (gName 1)) (tt := tYes) (te := (tCall (sp_is_house K) [] E0 (tCons (tVar 1) tNil))) rfl sc_asked_road.nd (pi_list (pv 0)) (blkOk_by (N := N_asked_road) (sc := defScope s_asked_road) (by decide +kernel)) (fun _ _ _ _ _ => (pg_name (i := 1) sc_asked_road.nd rfl (.inl rfl))) (fun _ _ _ _ _ => pts_nil) (fun _ _ _ _ _ => (pc c_is_house hr (by decide) (by rfl) (pa_cons (pv 1) pa_nil)))) pa_nil)))))))
   (pss_cons ps_never
  pss_nil) pss_nil)
  (pss_cons (ps_if (pt_not (pt_val (pe_callB (q_all rfl) (by rfl) bl.all (by decide +kernel) (pa_cons (pe_lc (own := [("at", 2)]) (g := (gName 2)) (tt := tYes) (te := (tOp oLt (tOp (oIxT K) (tOp (oIx K) (tVar 0) (tVar 2)) (tC (.int 0))) (tOp (oIxT K) (tOp (oIx K) (tVar 0) (tOp oAdd (tVar 2) (tC (.int 1)))) (tC (.int 0))))) rfl sc_asked_road.nd (pi_range1 (by rfl) bl.range (pa_cons (pe_op p_sub (pe_callB (q_len) (by rfl) bl.len (by decide +kernel) (pa_cons (pv 0) pa_nil)) pe_int) pa_nil)) (blkOk_by (N := N_asked_road) (sc := defScope s_asked_road) (by decide +kernel)) (fun _ _ _ _ _ => (pg_name (i := 2) sc_asked_road.nd rfl (.inl rfl))) (fun _ _ _ _ _ => pts_nil) (fun _ _ _ _ _ => (pe_cmpR p_lt (pe_ix p_ixT (pe_ix p_ix (pv 0) (pv 2) (fun _ _ => rfl)) pe_int (fun _ _ => rfl)) (pe_ix p_ixT (pe_ix p_ix (pv 0) (pe_op p_add (pv 2) pe_int) (fun _ _ => rfl)) pe_int (fun _ _ => rfl)) (nomark _)))) pa_nil))))
   (pss_cons ps_never
  pss_nil) pss_nil)
  pss_nil))
abbrev s_are_posts : Stmt := topS 8
abbrev N_are_posts : List Str := ["road", "posts", "last", "post"]
theorem sc_are_posts : FnScope N_are_posts ["road", "posts"] (defScope s_are_posts) := ⟨rfl, rfl, rfl, by decide +kernel, rfl, by decide +kernel, by decide +kernel⟩
theorem d_are_posts (bl : Blt mg)   {f : Addr} {cdv : Value} {A : Around} {outer : List Env} {s : Shared} {H : Hp} {E : XK} (hr : Room 0 (A.deeper (PyProof.Rows.envOfC "are_posts" (defScope s_are_posts) s.heap.objs.size f cdv))) :
    PSs (cxOf CX0 P w K mg base N_are_posts "are_posts" (defScope s_are_posts) f cdv A outer s H E).nox (defBody s_are_posts) (t_are_posts K) :=
  (pss_cons (ps_set (i := 2) sc_are_posts.nd rfl (.inl rfl) (pe_un p_neg pe_int))
  (pss_cons (ps_for PassesOwn.never rfl (pi_list (pv 1)) (pg_name (i := 3) sc_are_posts.nd rfl (.inl rfl))
   (pss_cons (ps_if (pt_not (pt_chain p_lt p_lt (pv 2) (pv 3) (pe_callB (q_len) (by rfl) bl.len (by decide +kernel) (pa_cons (pv 0) pa_nil))))
   (pss_cons (ps_ret pe_bl)
  pss_nil) pss_nil)
  (pss_cons (ps_set (i := 2) sc_are_posts.nd rfl (.inl rfl) (pv 3))
  pss_nil)))
  (pss_cons (ps_ret (pe_or (pe_cmpR (p_neD hr.units) (pv 1) (pe_lst pa_nil) (nomark _)) (pe_one (pe_cmpR (p_eqD hr.units) (pv 0) (pe_lst pa_nil) (nomark _)))))
  pss_nil)))
abbrev s_nearest_of : Stmt := topS 9
abbrev N_nearest_of : List Str := ["road", "posts", "found", "at", "place", "letters"]
theorem sc_nearest_of : FnScope N_nearest_of ["road", "posts"] (defScope s_nearest_of) := ⟨rfl, rfl, rfl, by decide +kernel, rfl, by decide +kernel, by decide +kernel⟩
theorem d_nearest_of (bl : Blt mg)   {f : Addr} {cdv : Value} {A : Around} {outer : List Env} {s : Shared} {H : Hp} {E : XK} (hr : Room 0 (A.deeper (PyProof.Rows.envOfC "nearest_of" (defScope s_nearest_of) s.heap.objs.size f cdv))) :
    PSs (cxOf CX0 P w K mg base N_nearest_of "nearest_of" (defScope s_nearest_of) f cdv A outer s H E).nox (defBody s_nearest_of) (t_nearest_of K) :=
  (pss_cons (ps_set (i := 2) sc_nearest_of.nd rfl (.inl rfl) (pe_lst pa_nil))
  (pss_cons (ps_set (i := 3) sc_nearest_of.nd rfl (.inl rfl) pe_int)
  (pss_cons (ps_for PassesOwn.never rfl (pi_list (pv 0)) (pg_tup rfl (pgs_cons (pg_name (i := 4) sc_nearest_of.nd rfl (.inl rfl)) (pgs_cons (pg_name (i := 5) sc_nearest_of.nd rfl (.inl rfl)) pgs_nil)))
   (pss_cons (ps_while PassesOwn.never (PW.pt (pw_and (pt_cmpR p_lt (pe_op p_add (pv 3) pe_int) (pe_callB (q_len) (by rfl) bl.len (by decide +kernel) (pa_cons (pv 1) pa_nil)) (nomark _)) (pw_and1 (pt_cmpR p_lt (pe_callB (q_abs) (by rfl) bl.abs (by decide +kernel) (pa_cons (pe_op p_sub (pe_ix p_ixT (pe_ix p_ix (pv 0) (pe_ix p_ix (pv 1) (pe_op p_add (pv 3) pe_int) (fun _ _ => rfl)) (fun _ _ => rfl)) pe_int (fun _ _ => rfl)) (pv 4)) pa_nil)) (pe_callB (q_abs) (by rfl) bl.abs (by decide +kernel) (pa_cons (pe_op p_sub (pe_ix p_ixT (pe_ix p_ix (pv 0) (pe_ix p_ix (pv 1) (pv 3) (fun _ _ => rfl)) (fun _ _ => rfl)) pe_int (fun _ _ => rfl)) (pv 4)) pa_nil)) (nomark _)))))
   (pss_cons (ps_set (i := 3) sc_nearest_of.nd rfl (.inl rfl) (pe_op p_add (pv 3) pe_int))
  pss_nil))
  (pss_cons (ps_expr (pe_bm PySem.F.plainAttrs_list PySem.F.slot_list_append PySem.F.type_list_append mt_append (pv 2) (pa_cons (pe_ix p_ix (pv 1) (pv 3) (fun _ _ => rfl)) pa_nil)))
  pss_nil)))
  (pss_cons (ps_ret (pv 2))
  pss_nil))))
abbrev s_way_of : Stmt := topS 10
abbrev N_way_of : List Str := ["road", "posts", "total", "house", "post"]
theorem sc_way_of : FnScope N_way_of ["road", "posts"] (defScope s_way_of) := ⟨rfl, rfl, rfl, by decide +kernel, rfl, by decide +kernel, by decide +kernel⟩
theorem d_way_of (bl : Blt mg) (c_nearest_of : Cl P w K mg base 1 "nearest_of" (sp_nearest_of K))  {f : Addr} {cdv : Value} {A : Around} {outer : List Env} {s : Shared} {H : Hp} {E : XK} (hr : Room 1 (A.deeper (PyProof.Rows.envOfC "way_of" (defScope s_way_of) s.heap.objs.size f cdv))) :
    PSs (cxOf CX0 P w K mg base N_way_of "way_of" (defScope s_way_of) f cdv A outer s H E).nox (defBody s_way_of) (t_way_of K) :=
  (pss_cons (ps_set (i := 2) sc_way_of.nd rfl (.inl rfl) pe_int)
  (pss_cons (ps_for PassesOwn.never rfl (pi_zip (by rfl) bl.zip (pa_cons (pv 0) (pa_cons (pc c_nearest_of hr (by decide) (by rfl) (pa_cons (pv 0) (pa_cons (pv 1) pa_nil))) pa_nil))) (pg_tup rfl (pgs_cons (pg_name (i := 3) sc_way_of.nd rfl (.inl rfl)) (pgs_cons (pg_name (i := 4) sc_way_of.nd rfl (.inl rfl)) pgs_nil)))
   (pss_cons (ps_set (i := 2) sc_way_of.nd rfl (.inl rfl) (pe_op p_add (pv 2) (pe_op p_mulW (pe_ix p_ixT (pv 3) pe_int (fun _ _ => rfl)) (pe_callB (q_abs) (by rfl) bl.abs (by decide +kernel) (pa_cons (pe_op p_sub (pe_ix p_ixT (pv 3) pe_int (fun _ _ => rfl)) (pe_ix p_ixT (pe_ix p_ix (pv 0) (pv 4) (fun _ _ => rfl)) pe_int (fun _ _ => rfl))) pa_nil)))))
  pss_nil))
  (pss_cons (ps_ret (pv 2))
  pss_nil)))
abbrev s_sums : Stmt := topS 11
abbrev N_sums : List Str := ["road", "many", "far", "place", "letters"]
theorem sc_sums : FnScope N_sums ["road"] (defScope s_sums) := ⟨rfl, rfl, rfl, by decide +kernel, rfl, by decide +kernel, by decide +kernel⟩
theorem d_sums (bl : Blt mg)   {f : Addr} {cdv : Value} {A : Around} {outer : List Env} {s : Shared} {H : Hp} {E : XK} (hr : Room 0 (A.deeper (PyProof.Rows.envOfC "sums" (defScope s_sums) s.heap.objs.size f cdv))) :
    PSs (cxOf CX0 P w K mg base N_sums "sums" (defScope s_sums) f cdv A outer s H E).nox (defBody s_sums) (t_sums K) :=
  (pss_cons (ps_set (i := 1) sc_sums.nd rfl (.inl rfl) (pe_lst (pa_cons pe_int pa_nil)))
  (pss_cons (ps_set (i := 2) sc_sums.nd rfl (.inl rfl) (pe_lst (pa_cons pe_int pa_nil)))
  (pss_cons (ps_for PassesOwn.never rfl (pi_list (pv 0)) (pg_tup rfl (pgs_cons (pg_name (i := 3) sc_sums.nd rfl (.inl rfl)) (pgs_cons (pg_name (i := 4) sc_sums.nd rfl (.inl rfl)) pgs_nil)))
   (pss_cons (ps_expr (pe_bm PySem.F.plainAttrs_list PySem.F.slot_list_append PySem.F.type_list_append mt_append (pv 1) (pa_cons (pe_op p_add (pe_ix p_ix (pv 1) (pe_un p_neg pe_int) (fun _ _ => rfl)) (pv 4)) pa_nil)))
  (pss_cons (ps_expr (pe_bm PySem.F.plainAttrs_list PySem.F.slot_list_append PySem.F.type_list_append mt_append (pv 2) (pa_cons (pe_op p_add (pe_ix p_ix (pv 2) (pe_un p_neg pe_int) (fun _ _ => rfl)) (pe_op p_mulW (pv 4) (pv 3))) pa_nil)))
  pss_nil)))
  (pss_cons (ps_ret (pe_tup (pa_cons (pv 1) (pa_cons (pv 2) pa_nil))))
  pss_nil))))
abbrev s_carried : Stmt := topS 12
abbrev N_carried : List Str := ["road", "told", "first", "end", "post", "many", "far", "place", "ahead"]
theorem sc_carried : FnScope N_carried ["road", "told", "first", "end", "post"] (defScope s_carried) := ⟨rfl, rfl, rfl, by decide +kernel, rfl, by decide +kernel, by decide +kernel⟩
theorem d_carried (bl : Blt mg)   {f : Addr} {cdv : Value} {A : Around} {outer : List Env} {s : Shared} {H : Hp} {E : XK} (hr : Room 0 (A.deeper (PyProof.Rows.envOfC "carried" (defScope s_carried) s.heap.objs.size f cdv))) :
    PSs (cxOf CX0 P w K mg base N_carried "carried" (defScope s_carried) f cdv A outer s H E).nox (defBody s_carried) (t_carried K) :=
  (pss_cons (ps_asg (pv 1) (pg_tup rfl (pgs_cons (pg_name (i := 5) sc_carried.nd rfl (.inl rfl)) (pgs_cons (pg_name (i := 6) sc_carried.nd rfl (.inl rfl)) pgs_nil))))
  (pss_cons (ps_set (i := 7) sc_carried.nd rfl (.inl rfl) (pe_ix p_ixT (pe_ix p_ix (pv 0) (pv 4) (fun _ _ => rfl)) pe_int (fun _ _ => rfl)))
  (pss_cons (ps_set (i := 8) sc_carried.nd rfl (.inl rfl) (pe_op p_sub (pe_op p_mulW (pv 7) (pe_op p_sub (pe_ix p_ix (pv 5) (pv 4) (fun _ _ => rfl)) (pe_ix p_ix (pv 5) (pv 2) (fun _ _ => rfl)))) (pe_op p_sub (pe_ix p_ix (pv 6) (pv 4) (fun _ _ => rfl)) (pe_ix p_ix (pv 6) (pv 2) (fun _ _ => rfl)))))
  (pss_cons (ps_ret (pe_op p_sub (pe_op p_add (pv 8) (pe_op p_sub (pe_ix p_ix (pv 6) (pv 3) (fun _ _ => rfl)) (pe_ix p_ix (pv 6) (pv 4) (fun _ _ => rfl)))) (pe_op p_mulW (pv 7) (pe_op p_sub (pe_ix p_ix (pv 5) (pv 3) (fun _ _ => rfl)) (pe_ix p_ix (pv 5) (pv 4) (fun _ _ => rfl))))))
  pss_nil))))
abbrev s_middles : Stmt := topS 13
abbrev N_middles : List Str := ["road", "told", "many", "found", "first", "row", "post", "end"]
theorem sc_middles : FnScope N_middles ["road"] (defScope s_middles) := ⟨rfl, rfl, rfl, by decide +kernel, rfl, by decide +kernel, by decide +kernel⟩
theorem d_middles (bl : Blt mg) (c_carried : Cl P w K mg base 1 "carried" (sp_carried K)) (c_sums : Cl P w K mg base 1 "sums" (sp_sums K))  {f : Addr} {cdv : Value} {A : Around} {outer : List Env} {s : Shared} {H : Hp} {E : XK} (hr : Room 1 (A.deeper (PyProof.Rows.envOfC "middles" (defScope s_middles) s.heap.objs.size f cdv))) :
    PSs (cxOf CX0 P w K mg base N_middles "middles" (defScope s_middles) f cdv A outer s H E).nox (defBody s_middles) (t_middles K) :=
  (pss_cons (ps_set (i := 1) sc_middles.nd rfl (.inl rfl) (pc c_sums hr (by decide) (by rfl) (pa_cons (pv 0) pa_nil)))
  (pss_cons (ps_set (i := 2) sc_middles.nd rfl (.inl rfl) (pe_ix p_ixT (pv 1) pe_int (fun _ _ => rfl)))
  (pss_cons (ps_set (i := 3) sc_middles.nd rfl (.inl rfl) (pe_lst pa_nil))
  (pss_cons (ps_for PassesOwn.never rfl (pi_range1 (by rfl) bl.range (pa_cons (pe_callB (q_len) (by rfl) bl.len (by decide +kernel) (pa_cons (pv 0) pa_nil)) pa_nil)) (pg_name (i := 4) sc_middles.nd rfl (.inl rfl))
   (pss_cons (ps_set (i := 5) sc_middles.nd rfl (.inl rfl) (pe_lst pa_nil))
  (pss_cons (ps_set (i := 6) sc_middles.nd rfl (.inl rfl) (pv 4))
  (pss_cons (ps_for PassesOwn.never rfl (pi_range2 (by rfl) bl.range (pa_cons (pe_op p_add (pv 4) pe_int) (pa_cons (pe_op p_add (pe_callB (q_len) (by rfl) bl.len (by decide +kernel) (pa_cons (pv 0) pa_nil)) pe_int) pa_nil))) (pg_name (i := 7) sc_middles.nd rfl (.inl rfl))
   (pss_cons (ps_while PassesOwn.never (pt_cmpR p_lt (pe_op p_mul pe_int (pe_op p_sub (pe_ix p_ix (pv 2) (pe_op p_add (pv 6) pe_int) (fun _ _ => rfl)) (pe_ix p_ix (pv 2) (pv 4) (fun _ _ => rfl)))) (pe_op p_sub (pe_ix p_ix (pv 2) (pv 7) (fun _ _ => rfl)) (pe_ix p_ix (pv 2) (pv 4) (fun _ _ => rfl))) (nomark _))
   (pss_cons (ps_set (i := 6) sc_middles.nd rfl (.inl rfl) (pe_op p_add (pv 6) pe_int))
  pss_nil))
  (pss_cons (ps_expr (pe_bm PySem.F.plainAttrs_list PySem.F.slot_list_append PySem.F.type_list_append mt_append (pv 5) (pa_cons (pe_tup (pa_cons (pv 6) (pa_cons (pc c_carried hr (by decide) (by rfl) (pa_cons (pv 0) (pa_cons (pv 1) (pa_cons (pv 4) (pa_cons (pv 7) (pa_cons (pv 6) pa_nil)))))) pa_nil))) pa_nil)))
  pss_nil)))
  (pss_cons (ps_expr (pe_bm PySem.F.plainAttrs_list PySem.F.slot_list_append PySem.F.type_list_append mt_append (pv 3) (pa_cons (pv 5) pa_nil)))
  pss_nil)))))
  (pss_cons (ps_ret (pv 3))
  pss_nil)))))
abbrev s_are_bounds : Stmt := topS 16
abbrev N_are_bounds : List Str := ["road", "bounds", "fee", "first", "row", "at", "told"]
theorem sc_are_bounds : FnScope N_are_bounds ["road", "bounds", "fee"] (defScope s_are_bounds) := ⟨rfl, rfl, rfl, by decide +kernel, rfl, by decide +kernel, by decide +kernel⟩
theorem d_are_bounds (bl : Blt mg) (c_middles : Cl P w K mg base 2 "middles" (sp_middles K))  {f : Addr} {cdv : Value} {A : Around} {outer : List Env} {s : Shared} {H : Hp} {E : XK} (hr : Room 2 (A.deeper (PyProof.Rows.envOfC "are_bounds" (defScope s_are_bounds) s.heap.objs.size f cdv))) :
    PSs (cxOf CX0 P w K mg base N_are_bounds "are_bounds" (defScope s_are_bounds) f cdv A outer s H E).nox (defBody s_are_bounds) (t_are_bounds K) :=
  (pss_cons (ps_if (PW.pt (pw_or (pt_cmpR p_neI (pe_callB (q_len) (by rfl) bl.len (by decide +kernel) (pa_cons (pv 1) pa_nil)) (pe_op p_add (pe_callB (q_len) (by rfl) bl.len (by decide +kernel) (pa_cons (pv 0) pa_nil)) pe_int) (nomark _)) (pw_or1 (pt_cmpR p_neI (pe_ix p_ix (pv 1) pe_int (fun _ _ => rfl)) pe_int (nomark _)))))
   (pss_cons (ps_ret pe_bl)
  pss_nil) pss_nil)
  (pss_cons (ps_for PassesOwn.never rfl (pi_enum (by rfl) bl.enumerate (pa_cons (pc c_middles hr (by decide) (by rfl) (pa_cons (pv 0) pa_nil)) pa_nil)) (pg_tup rfl (pgs_cons (pg_name (i := 3) sc_are_bounds.nd rfl (.inl rfl)) (pgs_cons (pg_name (i := 4) sc_are_bounds.nd rfl (.inl rfl)) pgs_nil)))
   (pss_cons (ps_for PassesOwn.never rfl (pi_enum (by rfl) bl.enumerate (pa_cons (pv 4) pa_nil)) (pg_tup rfl (pgs_cons (pg_name (i := 5) sc_are_bounds.nd rfl (.inl rfl)) (pgs_cons (pg_name (i := 6) sc_are_bounds.nd rfl (.inl rfl)) pgs_nil)))
   (pss_cons (ps_if (pt_cmpR p_gt (pe_op p_sub (pe_ix p_ix (pv 1) (pe_op p_add (pe_op p_add (pv 3) pe_int) (pv 5)) (fun _ _ => rfl)) (pe_ix p_ix (pv 1) (pv 3) (fun _ _ => rfl))) (pe_op p_add (pe_ix p_ixT (pv 6) pe_int (fun _ _ => rfl)) (pv 2)) (nomark _))
   (pss_cons (ps_ret pe_bl)
  pss_nil) pss_nil)
  pss_nil))
  pss_nil))
  (pss_cons (ps_ret pe_bl)
  pss_nil)))
abbrev s_Best_init : Stmt := inClass (topS 17) 0
abbrev N_Best_init : List Str := ["self", "posts", "bounds", "fee"]
theorem sc_Best_init : FnScope N_Best_init ["self", "posts", "bounds", "fee"] (defScope s_Best_init) := ⟨rfl, rfl, rfl, by decide +kernel, rfl, by decide +kernel, by decide +kernel⟩
theorem d_Best_init (bl : Blt mg)   {f : Addr} {cdv : Value} {A : Around} {outer : List Env} {s : Shared} {H : Hp} {E : XK} (hr : Room 0 (A.deeper (PyProof.Rows.envOfC "Best.__init__" (defScope s_Best_init) s.heap.objs.size f cdv))) :
    PSs (cxOf CX0 P w K mg base N_Best_init "Best.__init__" (defScope s_Best_init) f cdv A outer s H E).nox (defBody s_Best_init) (t_init3 K) :=
  (pss_cons (ps_fld (pv 0) (pe_callTy q_list (by rfl) bl.list (by decide +kernel) (pa_cons (pv 1) pa_nil)) rfl)
  (pss_cons (ps_fld (pv 0) (pe_callTy q_list (by rfl) bl.list (by decide +kernel) (pa_cons (pv 2) pa_nil)) rfl)
  (pss_cons (ps_fld (pv 0) (pv 3) rfl)
  pss_nil)))
abbrev s_Best_shows : Stmt := inClass (topS 17) 1
abbrev N_Best_shows : List Str := ["self", "road", "many"]
theorem sc_Best_shows : FnScope N_Best_shows ["self", "road", "many"] (defScope s_Best_shows) := ⟨rfl, rfl, rfl, by decide +kernel, rfl, by decide +kernel, by decide +kernel⟩
theorem d_Best_shows (bl : Blt mg) (c_are_bounds : Cl P w K mg base 3 "are_bounds" (sp_are_bounds K)) (c_are_posts : Cl P w K mg base 1 "are_posts" (sp_are_posts K)) (c_way_of : Cl P w K mg base 2 "way_of" (sp_way_of K))  {f : Addr} {cdv : Value} {A : Around} {outer : List Env} {s : Shared} {H : Hp} {E : XK} (hr : Room 3 (A.deeper (PyProof.Rows.envOfC "Best.shows" (defScope s_Best_shows) s.heap.objs.size f cdv))) :
    PSs (cxOf CX0 P w K mg base N_Best_shows "Best.shows" (defScope s_Best_shows) f cdv A outer s H E).nox (defBody s_Best_shows) (t_Best_shows K) :=
  (pss_cons (ps_if (PW.pt (pw_or (pt_cmpR p_neI (pe_callB (q_len) (by rfl) bl.len (by decide +kernel) (pa_cons (pe_fld (pv 0) rfl) pa_nil)) (pv 2) (nomark _)) (pw_or (pt_not (pt_val (pc c_are_posts hr (by decide) (by rfl) (pa_cons (pv 1) (pa_cons (pe_fld (pv 0) rfl) pa_nil))))) (pw_or1 (pt_not (pt_val (pc c_are_bounds hr (by decide) (by rfl) (pa_cons (pv 1) (pa_cons (pe_fld (pv 0) rfl) (pa_cons (pe_fld (pv 0) rfl) pa_nil))))))))))
   (pss_cons (ps_ret pe_bl)
  pss_nil) pss_nil)
  (pss_cons (ps_ret (pe_cmpR p_eqI (pe_op p_sub (pe_ix p_ix (pe_fld (pv 0) rfl) (pe_un p_neg pe_int) (fun _ _ => rfl)) (pe_op p_mulW (pv 2) (pe_fld (pv 0) rfl))) (pc c_way_of hr (by decide) (by rfl) (pa_cons (pv 1) (pa_cons (pe_fld (pv 0) rfl) pa_nil))) (nomark _)))
  pss_nil))
abbrev s_Paid_init : Stmt := inClass (topS 18) 0
abbrev N_Paid_init : List Str := ["self", "posts", "bounds"]
theorem sc_Paid_init : FnScope N_Paid_init ["self", "posts", "bounds"] (defScope s_Paid_init) := ⟨rfl, rfl, rfl, by decide +kernel, rfl, by decide +kernel, by decide +kernel⟩
theorem d_Paid_init (bl : Blt mg)   {f : Addr} {cdv : Value} {A : Around} {outer : List Env} {s : Shared} {H : Hp} {E : XK} (hr : Room 0 (A.deeper (PyProof.Rows.envOfC "Paid.__init__" (defScope s_Paid_init) s.heap.objs.size f cdv))) :
    PSs (cxOf CX0 P w K mg base N_Paid_init "Paid.__init__" (defScope s_Paid_init) f cdv A outer s H E).nox (defBody s_Paid_init) (t_init2 K) :=
  (pss_cons (ps_fld (pv 0) (pe_callTy q_list (by rfl) bl.list (by decide +kernel) (pa_cons (pv 1) pa_nil)) rfl)
  (pss_cons (ps_fld (pv 0) (pe_callTy q_list (by rfl) bl.list (by decide +kernel) (pa_cons (pv 2) pa_nil)) rfl)
  pss_nil))
abbrev s_Paid_shows : Stmt := inClass (topS 18) 1
abbrev N_Paid_shows : List Str := ["self", "road", "fee"]
theorem sc_Paid_shows : FnScope N_Paid_shows ["self", "road", "fee"] (defScope s_Paid_shows) := ⟨rfl, rfl, rfl, by decide +kernel, rfl, by decide +kernel, by decide +kernel⟩
theorem d_Paid_shows (bl : Blt mg) (c_are_bounds : Cl P w K mg base 3 "are_bounds" (sp_are_bounds K)) (c_are_posts : Cl P w K mg base 1 "are_posts" (sp_are_posts K)) (c_way_of : Cl P w K mg base 2 "way_of" (sp_way_of K))  {f : Addr} {cdv : Value} {A : Around} {outer : List Env} {s : Shared} {H : Hp} {E : XK} (hr : Room 3 (A.deeper (PyProof.Rows.envOfC "Paid.shows" (defScope s_Paid_shows) s.heap.objs.size f cdv))) :
    PSs (cxOf CX0 P w K mg base N_Paid_shows "Paid.shows" (defScope s_Paid_shows) f cdv A outer s H E).nox (defBody s_Paid_shows) (t_Paid_shows K) :=
  (pss_cons (ps_if (PW.pt (pw_or (pt_not (pt_val (pc c_are_posts hr (by decide) (by rfl) (pa_cons (pv 1) (pa_cons (pe_fld (pv 0) rfl) pa_nil))))) (pw_or1 (pt_not (pt_val (pc c_are_bounds hr (by decide) (by rfl) (pa_cons (pv 1) (pa_cons (pe_fld (pv 0) rfl) (pa_cons (pv 2) pa_nil)))))))))
   (pss_cons (ps_ret pe_bl)
  pss_nil) pss_nil)
  (pss_cons (ps_ret (pe_cmpR p_eqI (pe_ix p_ix (pe_fld (pv 0) rfl) (pe_un p_neg pe_int) (fun _ _ => rfl)) (pe_op p_add (pc c_way_of hr (by decide) (by rfl) (pa_cons (pv 1) (pa_cons (pe_fld (pv 0) rfl) pa_nil))) (pe_op p_mulW (pe_callB (q_len) (by rfl) bl.len (by decide +kernel) (pa_cons (pe_fld (pv 0) rfl) pa_nil)) (pv 2))) (nomark _)))
  pss_nil))
abbrev s_layers : Stmt := topS 20
abbrev N_layers : List Str := ["road", "table", "many", "size", "found", "end", "turn", "last", "now", "told", "first"]
theorem sc_layers : FnScope N_layers ["road", "table", "many"] (defScope s_layers) := ⟨rfl, rfl, rfl, by decide +kernel, rfl, by decide +kernel, by decide +kernel⟩
theorem d_layers (bl : Blt mg)   {f : Addr} {cdv : Value} {A : Around} {outer : List Env} {s : Shared} {H : Hp} {E : XK} (hr : Room 0 (A.deeper (PyProof.Rows.envOfC "layers" (defScope s_layers) s.heap.objs.size f cdv))) :
    PSs (cxOf CX0 P w K mg base N_layers "layers" (defScope s_layers) f cdv A outer s H E).nox (defBody s_layers) (t_layers K) :=
  (pss_cons (ps_set (i := 3) sc_layers.nd rfl (.inl rfl) (pe_callB (q_len) (by rfl) bl.len (by decide +kernel) (pa_cons (pv 0) pa_nil)))
  (pss_cons (ps_set (i := 4) sc_layers.nd rfl (.inl rfl) (pe_lst (pa_cons (pe_lc (own := [("end", 5)]) (g := (gName 5)) (tt := tYes) (te := (tTup (tCons (tOp (oIxT K) (tOp (oIx K) (tOp (oIx K) (tVar 1) (tC (.int 0))) (tOp oSub (tVar 5) (tC (.int 1)))) (tC (.int 1))) (tCons (tC (.int 0)) tNil)))) rfl sc_layers.nd (pi_range2 (by rfl) bl.range (pa_cons pe_int (pa_cons (pe_op p_add (pv 3) pe_int) pa_nil))) (blkOk_by (N := N_layers) (sc := defScope s_layers) (by decide +kernel)) (fun _ _ _ _ _ => (pg_name (i := 5) sc_layers.nd rfl (.inl rfl))) (fun _ _ _ _ _ => pts_nil) (fun _ _ _ _ _ => (pe_tup (pa_cons (pe_ix p_ixT (pe_ix p_ix (pe_ix p_ix (pv 1) pe_int (fun _ _ => rfl)) (pe_op p_sub (pv 5) pe_int) (fun _ _ => rfl)) pe_int (fun _ _ => rfl)) (pa_cons pe_int pa_nil))))) pa_nil)))
  (pss_cons (ps_for PassesOwn.never rfl (pi_range2 (by rfl) bl.range (pa_cons pe_int (pa_cons (pv 2) pa_nil))) (pg_name (i := 6) sc_layers.nd rfl (.inl rfl))
   (pss_cons (ps_set (i := 7) sc_layers.nd rfl (.inr rfl) (pe_ix p_ix (pv 4) (pe_un p_neg pe_int) (fun _ _ => rfl)))
  (pss_cons (ps_set (i := 8) sc_layers.nd rfl (.inl rfl) (pe_lst pa_nil))
  (pss_cons (ps_for PassesOwn.never rfl (pi_range2 (by rfl) bl.range (pa_cons pe_int (pa_cons (pe_op p_add (pv 3) pe_int) pa_nil))) (pg_name (i := 5) sc_layers.nd rfl (.inr rfl))
   (pss_cons (ps_setLc (i := 9) (own := [("first", 10)]) (g := (gName 10)) (tt := tYes) (te := (tTup (tCons (tOp oAdd (tOp (oIxT K) (tOp (oIx K) (tVar 7) (tOp oSub (tVar 10) (tC (.int 1)))) (tC (.int 0))) (tOp (oIxT K) (tOp (oIx K) (tOp (oIx K) (tVar 1) (tVar 10)) (tOp oSub (tOp oSub (tVar 5) (tVar 10)) (tC (.int 1)))) (tC (.int 1)))) (tCons (tVar 10) tNil)))) rfl sc_layers.nd rfl rfl (sw_true rfl rfl rfl (by decide +kernel)) (pi_range2 (by rfl) bl.range (pa_cons (pv 6) (pa_cons (pv 5) pa_nil))) (blkOk_by (N := N_layers) (sc := defScope s_layers) (by decide +kernel)) (fun _ _ _ _ _ => (pg_name (i := 10) sc_layers.nd rfl (.inl rfl))) (fun _ _ _ _ _ => pts_nil) (fun _ _ _ _ _ => (pe_tup (pa_cons (pe_op p_add (pe_ix p_ixT (pe_ix p_ix (pv 7) (pe_op p_sub (pv 10) pe_int) (fun _ _ => rfl)) pe_int (fun _ _ => rfl)) (pe_ix p_ixT (pe_ix p_ix (pe_ix p_ix (pv 1) (pv 10) (fun _ _ => rfl)) (pe_op p_sub (pe_op p_sub (pv 5) (pv 10)) pe_int) (fun _ _ => rfl)) pe_int (fun _ _ => rfl))) (pa_cons (pv 10) pa_nil)))))
  (pss_cons (ps_expr (pe_bm PySem.F.plainAttrs_list PySem.F.slot_list_append PySem.F.type_list_append mt_append (pv 8) (pa_cons (pe_callBK (ks := ["default"]) (q_minTD hr.units rfl) (by rfl) bl.min (by decide +kernel) (pa_cons (pv 9) pa_nil) (pk_cons (pe_tup (pa_cons pe_int (pa_cons pe_int pa_nil))) pk_nil)) pa_nil)))
  pss_nil)))
  (pss_cons (ps_expr (pe_bm PySem.F.plainAttrs_list PySem.F.slot_list_append PySem.F.type_list_append mt_append (pv 4) (pa_cons (pv 8) pa_nil)))
  pss_nil)))))
  (pss_cons (ps_ret (pv 4))
  pss_nil))))
abbrev s_posts_by : Stmt := topS 21
abbrev N_posts_by : List Str := ["road", "table", "told", "many", "found", "end", "turn", "first"]
theorem sc_posts_by : FnScope N_posts_by ["road", "table", "told", "many"] (defScope s_posts_by) := ⟨rfl, rfl, rfl, by decide +kernel, rfl, by decide +kernel, by decide +kernel⟩
theorem d_posts_by (bl : Blt mg)   {f : Addr} {cdv : Value} {A : Around} {outer : List Env} {s : Shared} {H : Hp} {E : XK} (hr : Room 0 (A.deeper (PyProof.Rows.envOfC "posts_by" (defScope s_posts_by) s.heap.objs.size f cdv))) :
    PSs (cxOf CX0 P w K mg base N_posts_by "posts_by" (defScope s_posts_by) f cdv A outer s H E).nox (defBody s_posts_by) (t_posts_by K) :=
  (pss_cons (ps_set (i := 4) sc_posts_by.nd rfl (.inl rfl) (pe_lst pa_nil))
  (pss_cons (ps_set (i := 5) sc_posts_by.nd rfl (.inl rfl) (pe_callB (q_len) (by rfl) bl.len (by decide +kernel) (pa_cons (pv 0) pa_nil)))
  (pss_cons (ps_for PassesOwn.never rfl (pi_revR (by rfl) bl.reversed (prg_1 (by rfl) bl.range (pv 3))) (pg_name (i := 6) sc_posts_by.nd rfl (.inl rfl))
   (pss_cons (ps_set (i := 7) sc_posts_by.nd rfl (.inl rfl) (pe_ix p_ixT (pe_ix p_ix (pe_ix p_ix (pv 2) (pv 6) (fun _ _ => rfl)) (pe_op p_sub (pv 5) pe_int) (fun _ _ => rfl)) pe_int (fun _ _ => rfl)))
  (pss_cons (ps_expr (pe_bm PySem.F.plainAttrs_list PySem.F.slot_list_append PySem.F.type_list_append mt_append (pv 4) (pa_cons (pe_ix p_ixT (pe_ix p_ix (pe_ix p_ix (pv 1) (pv 7) (fun _ _ => rfl)) (pe_op p_sub (pe_op p_sub (pv 5) (pv 7)) pe_int) (fun _ _ => rfl)) pe_int (fun _ _ => rfl)) pa_nil)))
  (pss_cons (ps_set (i := 5) sc_posts_by.nd rfl (.inl rfl) (pv 7))
  pss_nil))))
  (pss_cons (ps_ret (pe_revL (pv 4)))
  pss_nil))))
abbrev s_led : Stmt := topS 22
abbrev N_led : List Str := ["road", "table", "fee", "found", "end", "told", "far", "first"]
theorem sc_led : FnScope N_led ["road", "table", "fee"] (defScope s_led) := ⟨rfl, rfl, rfl, by decide +kernel, rfl, by decide +kernel, by decide +kernel⟩
theorem d_led (bl : Blt mg)   {f : Addr} {cdv : Value} {A : Around} {outer : List Env} {s : Shared} {H : Hp} {E : XK} (hr : Room 0 (A.deeper (PyProof.Rows.envOfC "led" (defScope s_led) s.heap.objs.size f cdv))) :
    PSs (cxOf CX0 P w K mg base N_led "led" (defScope s_led) f cdv A outer s H E).nox (defBody s_led) (t_led K) :=
  (pss_cons (ps_set (i := 3) sc_led.nd rfl (.inr rfl) (pe_lst (pa_cons (pe_tup (pa_cons pe_int (pa_cons pe_int pa_nil))) pa_nil)))
  (pss_cons (ps_for PassesOwn.never rfl (pi_range2 (by rfl) bl.range (pa_cons pe_int (pa_cons (pe_op p_add (pe_callB (q_len) (by rfl) bl.len (by decide +kernel) (pa_cons (pv 0) pa_nil)) pe_int) pa_nil))) (pg_name (i := 4) sc_led.nd rfl (.inr rfl))
   (pss_cons (ps_setLc (i := 5) (own := [("first", 7)]) (g := (gName 7)) (tt := tYes) (te := (tTup (tCons (tOp oAdd (tOp (oIxT K) (tOp (oIx K) (tVar 3) (tVar 7)) (tC (.int 0))) (tOp (oIxT K) (tOp (oIx K) (tOp (oIx K) (tVar 1) (tVar 7)) (tOp oSub (tOp oSub (tVar 4) (tVar 7)) (tC (.int 1)))) (tC (.int 1)))) (tCons (tVar 7) tNil)))) rfl sc_led.nd rfl rfl (sw_true rfl rfl rfl (by decide +kernel)) (pi_range1 (by rfl) bl.range (pa_cons (pv 4) pa_nil)) (blkOk_by (N := N_led) (sc := defScope s_led) (by decide +kernel)) (fun _ _ _ _ _ => (pg_name (i := 7) sc_led.nd rfl (.inl rfl))) (fun _ _ _ _ _ => pts_nil) (fun _ _ _ _ _ => (pe_tup (pa_cons (pe_op p_add (pe_ix p_ixT (pe_ix p_ix (pv 3) (pv 7) (fun _ _ => rfl)) pe_int (fun _ _ => rfl)) (pe_ix p_ixT (pe_ix p_ix (pe_ix p_ix (pv 1) (pv 7) (fun _ _ => rfl)) (pe_op p_sub (pe_op p_sub (pv 4) (pv 7)) pe_int) (fun _ _ => rfl)) pe_int (fun _ _ => rfl))) (pa_cons (pv 7) pa_nil)))))
  (pss_cons (ps_asg (pe_callB (q_minT hr.units rfl) (by rfl) bl.min (by decide +kernel) (pa_cons (pv 5) pa_nil)) (pg_tup rfl (pgs_cons (pg_name (i := 6) sc_led.nd rfl (.inl rfl)) (pgs_cons (pg_name (i := 7) sc_led.nd rfl (.inl rfl)) pgs_nil))))
  (pss_cons (ps_expr (pe_bm PySem.F.plainAttrs_list PySem.F.slot_list_append PySem.F.type_list_append mt_append (pv 3) (pa_cons (pe_tup (pa_cons (pe_op p_add (pv 6) (pv 2)) (pa_cons (pv 7) pa_nil))) pa_nil)))
  pss_nil))))
  (pss_cons (ps_ret (pv 3))
  pss_nil)))
abbrev s_asked_many : Stmt := topS 23
abbrev N_asked_many : List Str := ["road", "many"]
theorem sc_asked_many : FnScope N_asked_many ["road", "many"] (defScope s_asked_many) := ⟨rfl, rfl, rfl, by decide +kernel, rfl, by decide +kernel, by decide +kernel⟩
theorem d_asked_many (bl : Blt mg) (c_is_number : Cl P w K mg base 1 "is_number" (sp_is_number K))  {f : Addr} {cdv : Value} {A : Around} {outer : List Env} {s : Shared} {H : Hp} {E : XK} (hr : Room 1 (A.deeper (PyProof.Rows.envOfC "asked_many" (defScope s_asked_many) s.heap.objs.size f cdv))) :
    PSs (cxOf CX0 P w K mg base N_asked_many "asked_many" (defScope s_asked_many) f cdv A outer s H E).nox (defBody s_asked_many) (t_asked_many K) :=
  (pss_cons (ps_if (PW.pt (pw_or (pt_not (pt_val (pc c_is_number hr (by decide) (by rfl) (pa_cons (pv 1) pa_nil)))) (pw_or1 (pt_not (pt_chain p_le p_le pe_int (pv 1) (pe_callB (q_len) (by rfl) bl.len (by decide +kernel) (pa_cons (pv 0) pa_nil)))))))
   (pss_cons ps_never
  pss_nil) pss_nil)
  pss_nil)
abbrev s_asked_number : Stmt := topS 24
abbrev N_asked_number : List Str := ["number"]
theorem sc_asked_number : FnScope N_asked_number ["number"] (defScope s_asked_number) := ⟨rfl, rfl, rfl, by decide +kernel, rfl, by decide +kernel, by decide +kernel⟩
theorem d_asked_number (bl : Blt mg) (c_is_number : Cl P w K mg base 1 "is_number" (sp_is_number K))  {f : Addr} {cdv : Value} {A : Around} {outer : List Env} {s : Shared} {H : Hp} {E : XK} (hr : Room 1 (A.deeper (PyProof.Rows.envOfC "asked_number" (defScope s_asked_number) s.heap.objs.size f cdv))) :
    PSs (cxOf CX0 P w K mg base N_asked_number "asked_number" (defScope s_asked_number) f cdv A outer s H E).nox (defBody s_asked_number) (t_asked_number K) :=
  (pss_cons (ps_if (PW.pt (pw_or (pt_not (pt_val (pc c_is_number hr (by decide) (by rfl) (pa_cons (pv 0) pa_nil)))) (pw_or1 (pt_cmpR p_lt (pv 0) pe_int (nomark _)))))
   (pss_cons ps_never
  pss_nil) pss_nil)
  pss_nil)
abbrev s_best : Stmt := topS 25
abbrev N_best : List Str := ["road", "many", "table", "told", "fee", "bounds", "one"]
theorem sc_best : FnScope N_best ["road", "many"] (defScope s_best) := ⟨rfl, rfl, rfl, by decide +kernel, rfl, by decide +kernel, by decide +kernel⟩
theorem d_best (bl : Blt mg) (m_Best : ClM P w K mg base 1 "Best" (He.ga K "Best") (PrI3 K (He.ga K "Best"))) (c_asked_many : Cl P w K mg base 2 "asked_many" (sp_asked_many K)) (c_asked_road : Cl P w K mg base 3 "asked_road" (sp_asked_road K)) (c_layers : Cl P w K mg base 1 "layers" (sp_layers K)) (c_led : Cl P w K mg base 1 "led" (sp_led K)) (c_middles : Cl P w K mg base 2 "middles" (sp_middles K)) (c_posts_by : Cl P w K mg base 1 "posts_by" (sp_posts_by K))  {f : Addr} {cdv : Value} {A : Around} {outer : List Env} {s : Shared} {H : Hp} {E : XK} (hr : Room 3 (A.deeper (PyProof.Rows.envOfC "best" (defScope s_best) s.heap.objs.size f cdv))) :
    PSs (cxOf CX0 P w K mg base N_best "best" (defScope s_best) f cdv A outer s H E).nox (defBody s_best) (t_best K) :=
  (pss_cons (ps_expr (pc c_asked_road hr (by decide) (by rfl) (pa_cons (pv 0) pa_nil)))
  (pss_cons (ps_expr (pc c_asked_many hr (by decide) (by rfl) (pa_cons (pv 0) (pa_cons (pv 1) pa_nil))))
  (pss_cons (ps_set (i := 2) sc_best.nd rfl (.inl rfl) (pc c_middles hr (by decide) (by rfl) (pa_cons (pv 0) pa_nil)))
  (pss_cons (ps_set (i := 3) sc_best.nd rfl (.inl rfl) (pc c_layers hr (by decide) (by rfl) (pa_cons (pv 0) (pa_cons (pv 2) (pa_cons (pe_callB (q_min2 rfl) (by rfl) bl.min (by decide +kernel) (pa_cons (pe_op p_add (pv 1) pe_int) (pa_cons (pe_callB (q_len) (by rfl) bl.len (by decide +kernel) (pa_cons (pv 0) pa_nil)) pa_nil))) pa_nil)))))
  (pss_cons (ps_set (i := 4) sc_best.nd rfl (.inl rfl) (pe_ifExp (pt_cmpR p_lt (pv 1) (pe_callB (q_len) (by rfl) bl.len (by decide +kernel) (pa_cons (pv 0) pa_nil)) (nomark _)) (pe_op p_sub (pe_ix p_ixT (pe_ix p_ix (pe_ix p_ix (pv 3) (pe_op p_sub (pv 1) pe_int) (fun _ _ => rfl)) (pe_un p_neg pe_int) (fun _ _ => rfl)) pe_int (fun _ _ => rfl)) (pe_ix p_ixT (pe_ix p_ix (pe_ix p_ix (pv 3) (pv 1) (fun _ _ => rfl)) (pe_un p_neg pe_int) (fun _ _ => rfl)) pe_int (fun _ _ => rfl))) pe_int))
  (pss_cons (ps_setLc (i := 5) (own := [("one", 6)]) (g := (gName 6)) (tt := tYes) (te := (tOp (oIxT K) (tVar 6) (tC (.int 0)))) rfl sc_best.nd rfl rfl (sw_true rfl rfl rfl (by decide +kernel)) (pi_list (pc c_led hr (by decide) (by rfl) (pa_cons (pv 0) (pa_cons (pv 2) (pa_cons (pv 4) pa_nil))))) (blkOk_by (N := N_best) (sc := defScope s_best) (by decide +kernel)) (fun _ _ _ _ _ => (pg_name (i := 6) sc_best.nd rfl (.inl rfl))) (fun _ _ _ _ _ => pts_nil) (fun _ _ _ _ _ => (pe_ix p_ixT (pv 6) pe_int (fun _ _ => rfl))))
  (pss_cons (ps_ret (pmk m_Best hr (by decide) (by rfl) (pa_cons (pc c_posts_by hr (by decide) (by rfl) (pa_cons (pv 0) (pa_cons (pv 2) (pa_cons (pv 3) (pa_cons (pv 1) pa_nil))))) (pa_cons (pv 5) (pa_cons (pv 4) pa_nil)))))
  pss_nil)))))))
abbrev s_paying : Stmt := topS 26
abbrev N_paying : List Str := ["road", "fee", "table", "told", "found", "end", "first", "one"]
theorem sc_paying : FnScope N_paying ["road", "fee"] (defScope s_paying) := ⟨rfl, rfl, rfl, by decide +kernel, rfl, by decide +kernel, by decide +kernel⟩
theorem d_paying (bl : Blt mg) (m_Paid : ClM P w K mg base 1 "Paid" (He.ga K "Paid") (PrI2 K (He.ga K "Paid"))) (c_asked_number : Cl P w K mg base 2 "asked_number" (sp_asked_number K)) (c_asked_road : Cl P w K mg base 3 "asked_road" (sp_asked_road K)) (c_led : Cl P w K mg base 1 "led" (sp_led K)) (c_middles : Cl P w K mg base 2 "middles" (sp_middles K))  {f : Addr} {cdv : Value} {A : Around} {outer : List Env} {s : Shared} {H : Hp} {E : XK} (hr : Room 3 (A.deeper (PyProof.Rows.envOfC "paying" (defScope s_paying) s.heap.objs.size f cdv))) :
    PSs (cxOf CX0 P w K mg base N_paying "paying" (defScope s_paying) f cdv A outer s H E).nox (defBody s_paying) (t_paying K) :=
  (pss_cons (ps_expr (pc c_asked_road hr (by decide) (by rfl) (pa_cons (pv 0) pa_nil)))
  (pss_cons (ps_expr (pc c_asked_number hr (by decide) (by rfl) (pa_cons (pv 1) pa_nil)))
  (pss_cons (ps_set (i := 2) sc_paying.nd rfl (.inl rfl) (pc c_middles hr (by decide) (by rfl) (pa_cons (pv 0) pa_nil)))
  (pss_cons (ps_set (i := 3) sc_paying.nd rfl (.inl rfl) (pc c_led hr (by decide) (by rfl) (pa_cons (pv 0) (pa_cons (pv 2) (pa_cons (pv 1) pa_nil)))))
  (pss_cons (ps_set (i := 4) sc_paying.nd rfl (.inl rfl) (pe_lst pa_nil))
  (pss_cons (ps_set (i := 5) sc_paying.nd rfl (.inl rfl) (pe_callB (q_len) (by rfl) bl.len (by decide +kernel) (pa_cons (pv 0) pa_nil)))
  (pss_cons (ps_while PassesOwn.never (pt_cmpR p_gt (pv 5) pe_int (nomark _))
   (pss_cons (ps_set (i := 6) sc_paying.nd rfl (.inl rfl) (pe_ix p_ixT (pe_ix p_ix (pv 3) (pv 5) (fun _ _ => rfl)) pe_int (fun _ _ => rfl)))
  (pss_cons (ps_expr (pe_bm PySem.F.plainAttrs_list PySem.F.slot_list_append PySem.F.type_list_append mt_append (pv 4) (pa_cons (pe_ix p_ixT (pe_ix p_ix (pe_ix p_ix (pv 2) (pv 6) (fun _ _ => rfl)) (pe_op p_sub (pe_op p_sub (pv 5) (pv 6)) pe_int) (fun _ _ => rfl)) pe_int (fun _ _ => rfl)) pa_nil)))
  (pss_cons (ps_set (i := 5) sc_paying.nd rfl (.inl rfl) (pv 6))
  pss_nil))))
  (pss_cons (ps_ret (pmk m_Paid hr (by decide) (by rfl) (pa_cons (pe_revL (pv 4)) (pa_cons (pe_lc (own := [("one", 7)]) (g := (gName 7)) (tt := tYes) (te := (tOp (oIxT K) (tVar 7) (tC (.int 0)))) rfl sc_paying.nd (pi_list (pv 3)) (blkOk_by (N := N_paying) (sc := defScope s_paying) (by decide +kernel)) (fun _ _ _ _ _ => (pg_name (i := 7) sc_paying.nd rfl (.inl rfl))) (fun _ _ _ _ _ => pts_nil) (fun _ _ _ _ _ => (pe_ix p_ixT (pv 7) pe_int (fun _ _ => rfl)))) pa_nil))))
  pss_nil))))))))
abbrev s_law_road : Stmt := topS 28
abbrev N_law_road : List Str := ["_law_script", "_law_mixed", "_law_apart", "_law_most", "_law_place", "_law_found", "_law_at", "_law_some"]
theorem sc_law_road : FnScope N_law_road ["_law_script"] (defScope s_law_road) := ⟨rfl, rfl, rfl, by decide +kernel, rfl, by decide +kernel, by decide +kernel⟩
theorem d_law_road (bl : Blt mg)   {f : Addr} {cdv : Value} {A : Around} {outer : List Env} {s : Shared} {H : Hp} {E : XK} (hr : Room 0 (A.deeper (PyProof.Rows.envOfC "_law_road" (defScope s_law_road) s.heap.objs.size f cdv))) :
    PSs (cxOf CX0 P w K mg base N_law_road "_law_road" (defScope s_law_road) f cdv A outer s H E).nox (defBody s_law_road) (t_law_road K) :=
  (pss_cons (ps_set (i := 1) sc_law_road.nd rfl (.inl rfl) (pe_callB (q_sum rfl) (by rfl) bl.sum (by decide +kernel) (pa_cons (pv 0) pa_nil)))
  (pss_cons (ps_set (i := 2) sc_law_road.nd rfl (.inl rfl) (pe_ix p_ixT (pe_tup (pa_cons pe_int (pa_cons pe_int (pa_cons pe_int (pa_cons (pe_op p_pow pe_int pe_int) pa_nil))))) (pe_op p_mod (pv 1) pe_int) (fun _ _ => rfl)))
  (pss_cons (ps_set (i := 3) sc_law_road.nd rfl (.inl rfl) (pe_ix p_ixT (pe_tup (pa_cons pe_int (pa_cons pe_int (pa_cons pe_int (pa_cons (pe_op p_pow pe_int pe_int) pa_nil))))) (pe_op p_mod (pe_op p_div (pv 1) pe_int) pe_int) (fun _ _ => rfl)))
  (pss_cons (ps_set (i := 4) sc_law_road.nd rfl (.inl rfl) (pe_op p_sub (pe_op p_mod (pe_op p_div (pv 1) pe_int) pe_int) pe_int))
  (pss_cons (ps_set (i := 5) sc_law_road.nd rfl (.inl rfl) (pe_lst pa_nil))
  (pss_cons (ps_for PassesOwn.never rfl (pi_range3 (by rfl) bl.range (pa_cons pe_int (pa_cons (pe_callB (q_len) (by rfl) bl.len (by decide +kernel) (pa_cons (pv 0) pa_nil)) (pa_cons pe_int pa_nil)))) (pg_name (i := 6) sc_law_road.nd rfl (.inl rfl))
   (pss_cons (ps_set (i := 4) sc_law_road.nd rfl (.inl rfl) (pe_op p_add (pe_op p_add (pv 4) pe_int) (pe_op p_mod (pe_ix p_ix (pv 0) (pv 6) (fun _ _ => rfl)) (pv 2))))
  (pss_cons (ps_expr (pe_bm PySem.F.plainAttrs_list PySem.F.slot_list_append PySem.F.type_list_append mt_append (pv 5) (pa_cons (pe_tup (pa_cons (pv 4) (pa_cons (pe_op p_mod (pe_ix p_ix (pv 0) (pe_ifExp (pt_cmpR p_eqI (pe_op p_add (pv 6) pe_int) (pe_callB (q_len) (by rfl) bl.len (by decide +kernel) (pa_cons (pv 0) pa_nil)) (nomark _)) (pe_op p_sub (pv 6) pe_int) (pe_op p_add (pv 6) pe_int)) (fun _ _ => rfl)) (pv 3)) pa_nil))) pa_nil)))
  pss_nil)))
  (pss_cons (ps_if (PW.pt (pw_and (pt_cmpR p_eqI (pe_op p_mod (pe_op p_div (pv 1) pe_int) pe_int) pe_int (nomark _)) (pw_and1 (pt_cmpR (p_neD hr.units) (pv 5) (pe_lst pa_nil) (nomark _)))))
   (pss_cons (ps_set (i := 7) sc_law_road.nd rfl (.inr rfl) (pv 5))
  (pss_cons (ps_setLc (i := 5) (own := [("_law_at", 6)]) (g := (gName 6)) (tt := tYes) (te := (tTup (tCons (tOp oAdd (tOp oMul (tC (.int 50)) (tVar 6)) (tOp oMod (tOp (oIxT K) (tOp (oIx K) (tVar 7) (tOp oMod (tVar 6) (tCB (cLen K) (tCons (tVar 7) tNil)))) (tC (.int 0))) (tC (.int 50)))) (tCons (tOp (oIxT K) (tOp (oIx K) (tVar 7) (tOp oMod (tVar 6) (tCB (cLen K) (tCons (tVar 7) tNil)))) (tC (.int 1))) tNil)))) rfl sc_law_road.nd rfl rfl (sw_true rfl rfl rfl (by decide +kernel)) (pi_range1 (by rfl) bl.range (pa_cons (pe_op p_add pe_int (pe_op p_mod (pv 1) pe_int)) pa_nil)) (blkOk_by (N := N_law_road) (sc := defScope s_law_road) (by decide +kernel)) (fun _ _ _ _ _ => (pg_name (i := 6) sc_law_road.nd rfl (.inl rfl))) (fun _ _ _ _ _ => pts_nil) (fun _ _ _ _ _ => (pe_tup (pa_cons (pe_op p_add (pe_op p_mul pe_int (pv 6)) (pe_op p_mod (pe_ix p_ixT (pe_ix p_ix (pv 7) (pe_op p_mod (pv 6) (pe_callB (q_len) (by rfl) bl.len (by decide +kernel) (pa_cons (pv 7) pa_nil))) (fun _ _ => rfl)) pe_int (fun _ _ => rfl)) pe_int)) (pa_cons (pe_ix p_ixT (pe_ix p_ix (pv 7) (pe_op p_mod (pv 6) (pe_callB (q_len) (by rfl) bl.len (by decide +kernel) (pa_cons (pv 7) pa_nil))) (fun _ _ => rfl)) pe_int (fun _ _ => rfl)) pa_nil)))))
  pss_nil)) pss_nil)
  (pss_cons (ps_ret (pv 5))
  pss_nil))))))))
abbrev s_law_way : Stmt := topS 29
abbrev N_law_way : List Str := ["_law_road_here", "_law_posts", "_law_total", "_law_place", "_law_letters", "_law_post"]
theorem sc_law_way : FnScope N_law_way ["_law_road_here", "_law_posts"] (defScope s_law_way) := ⟨rfl, rfl, rfl, by decide +kernel, rfl, by decide +kernel, by decide +kernel⟩
theorem d_law_way (bl : Blt mg)   {f : Addr} {cdv : Value} {A : Around} {outer : List Env} {s : Shared} {H : Hp} {E : XK} (hr : Room 0 (A.deeper (PyProof.Rows.envOfC "_law_way" (defScope s_law_way) s.heap.objs.size f cdv))) :
    PSs (cxOf CX0 P w K mg base N_law_way "_law_way" (defScope s_law_way) f cdv A outer s H E).nox (defBody s_law_way) (t_law_way K) :=
  (pss_cons (ps_set (i := 2) sc_law_way.nd rfl (.inl rfl) pe_int)
  (pss_cons (ps_for PassesOwn.never rfl (pi_list (pv 0)) (pg_tup rfl (pgs_cons (pg_name (i := 3) sc_law_way.nd rfl (.inr rfl)) (pgs_cons (pg_name (i := 4) sc_law_way.nd rfl (.inl rfl)) pgs_nil)))
   (pss_cons (ps_set (i := 2) sc_law_way.nd rfl (.inl rfl) (pe_op p_add (pv 2) (pe_op p_mulW (pv 4) (pe_callB (q_min rfl) (by rfl) bl.min (by decide +kernel) (pa_cons (pe_lc (own := [("_law_post", 5)]) (g := (gName 5)) (tt := tYes) (te := (tCB cAbs (tCons (tOp oSub (tVar 3) (tOp (oIxT K) (tOp (oIx K) (tVar 0) (tVar 5)) (tC (.int 0)))) tNil))) rfl sc_law_way.nd (pi_list (pv 1)) (blkOk_by (N := N_law_way) (sc := defScope s_law_way) (by decide +kernel)) (fun _ _ _ _ _ => (pg_name (i := 5) sc_law_way.nd rfl (.inl rfl))) (fun _ _ _ _ _ => pts_nil) (fun _ _ _ _ _ => (pe_callB (q_abs) (by rfl) bl.abs (by decide +kernel) (pa_cons (pe_op p_sub (pv 3) (pe_ix p_ixT (pe_ix p_ix (pv 0) (pv 5) (fun _ _ => rfl)) pe_int (fun _ _ => rfl))) pa_nil)))) pa_nil)))))
  pss_nil))
  (pss_cons (ps_ret (pv 2))
  pss_nil)))
abbrev s_law_one_ways : Stmt := topS 30
abbrev N_law_one_ways : List Str := ["_law_road_here", "_law_first", "_law_found", "_law_post", "_law_ahead", "_law_whole", "_law_far", "_law_place", "_law_letters", "_law_step"]
theorem sc_law_one_ways : FnScope N_law_one_ways ["_law_road_here", "_law_first"] (defScope s_law_one_ways) := ⟨rfl, rfl, rfl, by decide +kernel, rfl, by decide +kernel, by decide +kernel⟩
theorem d_law_one_ways (bl : Blt mg)   {f : Addr} {cdv : Value} {A : Around} {outer : List Env} {s : Shared} {H : Hp} {E : XK} (hr : Room 0 (A.deeper (PyProof.Rows.envOfC "_law_one_ways" (defScope s_law_one_ways) s.heap.objs.size f cdv))) :
    PSs (cxOf CX0 P w K mg base N_law_one_ways "_law_one_ways" (defScope s_law_one_ways) f cdv A outer s H E).nox (defBody s_law_one_ways) (t_law_one_ways K) :=
  (pss_cons (ps_set (i := 2) sc_law_one_ways.nd rfl (.inl rfl) (pe_lst pa_nil))
  (pss_cons (ps_set (i := 3) sc_law_one_ways.nd rfl (.inl rfl) (pv 1))
  (pss_cons (ps_set (i := 4) sc_law_one_ways.nd rfl (.inl rfl) pe_int)
  (pss_cons (ps_set (i := 5) sc_law_one_ways.nd rfl (.inl rfl) pe_int)
  (pss_cons (ps_set (i := 6) sc_law_one_ways.nd rfl (.inl rfl) pe_int)
  (pss_cons (ps_for PassesOwn.never rfl (pi_list (pe_slice p_sl (pv 0) (po_some (pv 1)) po_none)) (pg_tup rfl (pgs_cons (pg_name (i := 7) sc_law_one_ways.nd rfl (.inl rfl)) (pgs_cons (pg_name (i := 8) sc_law_one_ways.nd rfl (.inl rfl)) pgs_nil)))
   (pss_cons (ps_set (i := 6) sc_law_one_ways.nd rfl (.inl rfl) (pe_op p_add (pv 6) (pe_op p_mulW (pv 8) (pe_op p_sub (pv 7) (pe_ix p_ixT (pe_ix p_ix (pv 0) (pv 3) (fun _ _ => rfl)) pe_int (fun _ _ => rfl))))))
  (pss_cons (ps_set (i := 5) sc_law_one_ways.nd rfl (.inl rfl) (pe_op p_add (pv 5) (pv 8)))
  (pss_cons (ps_while PassesOwn.never (pt_cmpR p_lt (pe_op p_mul pe_int (pe_op p_add (pv 4) (pe_ix p_ixT (pe_ix p_ix (pv 0) (pv 3) (fun _ _ => rfl)) pe_int (fun _ _ => rfl)))) (pv 5) (nomark _))
   (pss_cons (ps_set (i := 4) sc_law_one_ways.nd rfl (.inl rfl) (pe_op p_add (pv 4) (pe_ix p_ixT (pe_ix p_ix (pv 0) (pv 3) (fun _ _ => rfl)) pe_int (fun _ _ => rfl))))
  (pss_cons (ps_set (i := 9) sc_law_one_ways.nd rfl (.inl rfl) (pe_op p_sub (pe_ix p_ixT (pe_ix p_ix (pv 0) (pe_op p_add (pv 3) pe_int) (fun _ _ => rfl)) pe_int (fun _ _ => rfl)) (pe_ix p_ixT (pe_ix p_ix (pv 0) (pv 3) (fun _ _ => rfl)) pe_int (fun _ _ => rfl))))
  (pss_cons (ps_set (i := 6) sc_law_one_ways.nd rfl (.inl rfl) (pe_op p_add (pv 6) (pe_op p_mulW (pv 9) (pe_op p_sub (pe_op p_mul pe_int (pv 4)) (pv 5)))))
  (pss_cons (ps_set (i := 3) sc_law_one_ways.nd rfl (.inl rfl) (pe_op p_add (pv 3) pe_int))
  pss_nil)))))
  (pss_cons (ps_expr (pe_bm PySem.F.plainAttrs_list PySem.F.slot_list_append PySem.F.type_list_append mt_append (pv 2) (pa_cons (pv 6) pa_nil)))
  pss_nil)))))
  (pss_cons (ps_ret (pv 2))
  pss_nil)))))))
abbrev s_law_bounds : Stmt := topS 31
abbrev N_law_bounds : List Str := ["_law_road_here", "_law_bounds_here", "_law_fee", "_law_first", "_law_at", "_law_far"]
theorem sc_law_bounds : FnScope N_law_bounds ["_law_road_here", "_law_bounds_here", "_law_fee"] (defScope s_law_bounds) := ⟨rfl, rfl, rfl, by decide +kernel, rfl, by decide +kernel, by decide +kernel⟩
theorem d_law_bounds (bl : Blt mg) (c_law_one_ways : Cl P w K mg base 1 "_law_one_ways" (sp_law_one_ways K))  {f : Addr} {cdv : Value} {A : Around} {outer : List Env} {s : Shared} {H : Hp} {E : XK} (hr : Room 1 (A.deeper (PyProof.Rows.envOfC "_law_bounds" (defScope s_law_bounds) s.heap.objs.size f cdv))) :
    PSs (cxOf CX0 P w K mg base N_law_bounds "_law_bounds" (defScope s_law_bounds) f cdv A outer s H E).nox (defBody s_law_bounds) (t_law_bounds K) :=
  (pss_cons (ps_if (PW.pt (pw_or (pt_cmpR p_neI (pe_callB (q_len) (by rfl) bl.len (by decide +kernel) (pa_cons (pv 1) pa_nil)) (pe_op p_add (pe_callB (q_len) (by rfl) bl.len (by decide +kernel) (pa_cons (pv 0) pa_nil)) pe_int) (nomark _)) (pw_or1 (pt_cmpR p_neI (pe_ix p_ix (pv 1) pe_int (fun _ _ => rfl)) pe_int (nomark _)))))
   (pss_cons (ps_ret pe_bl)
  pss_nil) pss_nil)
  (pss_cons (ps_for PassesOwn.never rfl (pi_range1 (by rfl) bl.range (pa_cons (pe_callB (q_len) (by rfl) bl.len (by decide +kernel) (pa_cons (pv 0) pa_nil)) pa_nil)) (pg_name (i := 3) sc_law_bounds.nd rfl (.inl rfl))
   (pss_cons (ps_for PassesOwn.never rfl (pi_enum (by rfl) bl.enumerate (pa_cons (pc c_law_one_ways hr (by decide) (by rfl) (pa_cons (pv 0) (pa_cons (pv 3) pa_nil))) pa_nil)) (pg_tup rfl (pgs_cons (pg_name (i := 4) sc_law_bounds.nd rfl (.inl rfl)) (pgs_cons (pg_name (i := 5) sc_law_bounds.nd rfl (.inl rfl)) pgs_nil)))
   (pss_cons (ps_if (pt_cmpR p_gt (pe_op p_sub (pe_ix p_ix (pv 1) (pe_op p_add (pe_op p_add (pv 3) pe_int) (pv 4)) (fun _ _ => rfl)) (pe_ix p_ix (pv 1) (pv 3) (fun _ _ => rfl))) (pe_op p_add (pv 5) (pv 2)) (nomark _))
   (pss_cons (ps_ret pe_bl)
  pss_nil) pss_nil)
  pss_nil))
  pss_nil))
  (pss_cons (ps_ret pe_bl)
  pss_nil)))
abbrev s_law_rising : Stmt := topS 32
abbrev N_law_rising : List Str := ["_law_road_here", "_law_posts", "_law_post"]
theorem sc_law_rising : FnScope N_law_rising ["_law_road_here", "_law_posts"] (defScope s_law_rising) := ⟨rfl, rfl, rfl, by decide +kernel, rfl, by decide +kernel, by decide +kernel⟩
theorem d_law_rising (bl : Blt mg)   {f : Addr} {cdv : Value} {A : Around} {outer : List Env} {s : Shared} {H : Hp} {E : XK} (hr : Room 0 (A.deeper (PyProof.Rows.envOfC "_law_rising" (defScope s_law_rising) s.heap.objs.size f cdv))) :
    PSs (cxOf CX0 P w K mg base N_law_rising "_law_rising" (defScope s_law_rising) f cdv A outer s H E).nox (defBody s_law_rising) (t_law_rising K) :=
  (pss_cons (ps_if (PW.pt (pw_or (pt_cmpR (p_neD hr.units) (pv 1) (pe_sortedSet (pe_callB (cr_sortedSet rfl) (by rfl) bl.sorted (by decide +kernel) (pa_cons (pe_callTy (q_setI rfl) (by rfl) bl.set (by decide +kernel) (pa_cons (pv 1) pa_nil)) pa_nil)) mono_var) (nomark _)) (pw_or1 (pt_val (pe_callB (q_any rfl) (by rfl) bl.any (by decide +kernel) (pa_cons (pe_lc (own := [("_law_post", 2)]) (g := (gName 2)) (tt := tYes) (te := (tNotV (tChain oLe oLt (tC (.int 0)) (tVar 2) (tCB (cLen K) (tCons (tVar 0) tNil))))) rfl sc_law_rising.nd (pi_list (pv 1)) (blkOk_by (N := N_law_rising) (sc := defScope s_law_rising) (by decide +kernel)) (fun _ _ _ _ _ => (pg_name (i := 2) sc_law_rising.nd rfl (.inl rfl))) (fun _ _ _ _ _ => pts_nil) (fun _ _ _ _ _ => (pe_not (pe_chain p_le p_lt pe_int (pv 2) (pe_callB (q_len) (by rfl) bl.len (by decide +kernel) (pa_cons (pv 0) pa_nil)))))) pa_nil))))))
   (pss_cons (ps_ret pe_bl)
  pss_nil) pss_nil)
  (pss_cons (ps_ret (pe_or (pe_cmpR (p_neD hr.units) (pv 1) (pe_lst pa_nil) (nomark _)) (pe_one (pe_cmpR (p_eqD hr.units) (pv 0) (pe_lst pa_nil) (nomark _)))))
  pss_nil))
abbrev s_law_says : Stmt := topS 33
abbrev N_law_says : List Str := ["_law_said", "_law_due"]
theorem sc_law_says : FnScope N_law_says ["_law_said", "_law_due"] (defScope s_law_says) := ⟨rfl, rfl, rfl, by decide +kernel, rfl, by decide +kernel, by decide +kernel⟩
theorem d_law_says (bl : Blt mg)   {f : Addr} {cdv : Value} {A : Around} {outer : List Env} {s : Shared} {H : Hp} {E : XK} (hr : Room 0 (A.deeper (PyProof.Rows.envOfC "_law_says" (defScope s_law_says) s.heap.objs.size f cdv))) :
    PSs (cxOf CX0 P w K mg base N_law_says "_law_says" (defScope s_law_says) f cdv A outer s H E).nox (defBody s_law_says) (t_law_says K) :=
  (pss_cons (ps_ret (pe_and (pe_callB (q_isi) (by rfl) bl.isinstance (by decide +kernel) (pa_cons (pv 0) (pa_cons (pe_bltn (v := .ty "bool") (by rfl) bl.bool (by decide +kernel) rfl) pa_nil))) (pe_one (pe_cmpR p_eqI (pv 0) (pv 1) (nomark _)))))
  pss_nil)
abbrev s_law_bent : Stmt := topS 34
abbrev N_law_bent : List Str := ["_law_some", "_law_cell", "_law_kind", "_law_at", "_law_one"]
theorem sc_law_bent : FnScope N_law_bent ["_law_some", "_law_cell"] (defScope s_law_bent) := ⟨rfl, rfl, rfl, by decide +kernel, rfl, by decide +kernel, by decide +kernel⟩
theorem d_law_bent (bl : Blt mg)   {f : Addr} {cdv : Value} {A : Around} {outer : List Env} {s : Shared} {H : Hp} {E : XK} (hr : Room 0 (A.deeper (PyProof.Rows.envOfC "_law_bent" (defScope s_law_bent) s.heap.objs.size f cdv))) :
    PSs (cxOf CX0 P w K mg base N_law_bent "_law_bent" (defScope s_law_bent) f cdv A outer s H E).nox (defBody s_law_bent) (t_law_bent K) :=
  (pss_cons (ps_set (i := 2) sc_law_bent.nd rfl (.inr rfl) (pe_op p_mod (pv 1) pe_int))
  (pss_cons (ps_set (i := 3) sc_law_bent.nd rfl (.inl rfl) (pe_op p_mod (pe_op p_div (pv 1) pe_int) (pe_op p_add (pe_callB (q_len) (by rfl) bl.len (by decide +kernel) (pa_cons (pv 0) pa_nil)) pe_int)))
  (pss_cons (ps_if (pt_cmpR (p_inD hr) (pv 2) (pe_lst (pa_cons pe_int (pa_cons pe_int pa_nil))) (by rfl))
   (pss_cons (ps_ret (pe_op p_catL (pe_op p_catL (pe_slice p_sl (pv 0) po_none (po_some (pv 3))) (pe_lc (own := [("_law_one", 4)]) (g := (gName 4)) (tt := tYes) (te := (tOp oAdd (tVar 4) (tOp (oIxT K) (tTup (tCons (tC (.int 1)) (tCons (tUn oNeg (tC (.int 1))) tNil))) (tOp oSub (tVar 2) (tC (.int 1)))))) rfl sc_law_bent.nd (pi_list (pe_slice p_sl (pv 0) (po_some (pv 3)) (po_some (pe_op p_add (pv 3) pe_int)))) (blkOk_by (N := N_law_bent) (sc := defScope s_law_bent) (by decide +kernel)) (fun _ _ _ _ _ => (pg_name (i := 4) sc_law_bent.nd rfl (.inl rfl))) (fun _ _ _ _ _ => pts_nil) (fun _ _ _ _ _ => (pe_op p_add (pv 4) (pe_ix p_ixT (pe_tup (pa_cons pe_int (pa_cons (pe_un p_neg pe_int) pa_nil))) (pe_op p_sub (pv 2) pe_int) (fun _ _ => rfl)))))) (pe_slice p_sl (pv 0) (po_some (pe_op p_add (pv 3) pe_int)) po_none)))
  pss_nil) pss_nil)
  (pss_cons (ps_if (pt_cmpR p_eqI (pv 2) pe_int (nomark _))
   (pss_cons (ps_ret (pe_op p_catL (pe_slice p_sl (pv 0) po_none (po_some (pv 3))) (pe_slice p_sl (pv 0) (po_some (pe_op p_add (pv 3) pe_int)) po_none)))
  pss_nil) pss_nil)
  (pss_cons (ps_if (pt_cmpR p_eqI (pv 2) pe_int (nomark _))
   (pss_cons (ps_ret (pe_op p_catL (pe_op p_catL (pe_slice p_sl (pv 0) po_none (po_some (pv 3))) (pe_slice p_sl (pv 0) (po_some (pv 3)) (po_some (pe_op p_add (pv 3) pe_int)))) (pe_slice p_sl (pv 0) (po_some (pv 3)) po_none)))
  pss_nil) pss_nil)
  (pss_cons (ps_if (pt_cmpR p_eqI (pv 2) pe_int (nomark _))
   (pss_cons (ps_ret (pe_op p_catL (pe_slice p_sl (pv 0) po_none (po_some pe_int)) (pe_lc (own := [("_law_one", 4)]) (g := (gName 4)) (tt := tYes) (te := (tOp oAdd (tVar 4) (tC (.int 1)))) rfl sc_law_bent.nd (pi_list (pe_slice p_sl (pv 0) (po_some pe_int) po_none)) (blkOk_by (N := N_law_bent) (sc := defScope s_law_bent) (by decide +kernel)) (fun _ _ _ _ _ => (pg_name (i := 4) sc_law_bent.nd rfl (.inl rfl))) (fun _ _ _ _ _ => pts_nil) (fun _ _ _ _ _ => (pe_op p_add (pv 4) pe_int)))))
  pss_nil) pss_nil)
  (pss_cons (ps_if (pt_cmpR p_eqI (pv 2) pe_int (nomark _))
   (pss_cons (ps_ret (pe_op p_catL (pe_slice p_sl (pv 0) po_none (po_some pe_int)) (pe_lc (own := [("_law_one", 4)]) (g := (gName 4)) (tt := tYes) (te := (tOp oSub (tVar 4) (tOp oMod (tOp oDiv (tVar 1) (tC (.int 64))) (tC (.int 3))))) rfl sc_law_bent.nd (pi_list (pe_slice p_sl (pv 0) (po_some pe_int) po_none)) (blkOk_by (N := N_law_bent) (sc := defScope s_law_bent) (by decide +kernel)) (fun _ _ _ _ _ => (pg_name (i := 4) sc_law_bent.nd rfl (.inl rfl))) (fun _ _ _ _ _ => pts_nil) (fun _ _ _ _ _ => (pe_op p_sub (pv 4) (pe_op p_mod (pe_op p_div (pv 1) pe_int) pe_int))))))
  pss_nil) pss_nil)
  (pss_cons (ps_ret (pe_ifExp (pt_cmpR p_eqI (pv 2) pe_int (nomark _)) (pe_revL (pv 0)) (pe_callTy q_list (by rfl) bl.list (by decide +kernel) (pa_cons (pv 0) pa_nil))))
  pss_nil))))))))
abbrev s_law_best_right : Stmt := topS 35
abbrev N_law_best_right : List Str := ["_law_road_here", "_law_many", "_law_posts", "_law_bounds_here", "_law_fee", "_law_handed", "_law_answer", "_law_due"]
theorem sc_law_best_right : FnScope N_law_best_right ["_law_road_here", "_law_many", "_law_posts", "_law_bounds_here", "_law_fee"] (defScope s_law_best_right) := ⟨rfl, rfl, rfl, by decide +kernel, rfl, by decide +kernel, by decide +kernel⟩
theorem d_law_best_right (bl : Blt mg) (m_Best : ClM P w K mg base 1 "Best" (He.ga K "Best") (PrI3 K (He.ga K "Best"))) (c_Best_shows : ClT P w K mg base 4 (He.ga K "Best") "shows" (sp_Best_shows K)) (c_law_bounds : Cl P w K mg base 2 "_law_bounds" (sp_law_bounds K)) (c_law_rising : Cl P w K mg base 1 "_law_rising" (sp_law_rising K)) (c_law_says : Cl P w K mg base 1 "_law_says" (sp_law_says K)) (c_law_way : Cl P w K mg base 1 "_law_way" (sp_law_way K))  {f : Addr} {cdv : Value} {A : Around} {outer : List Env} {s : Shared} {H : Hp} {E : XK} (hr : Room 4 (A.deeper (PyProof.Rows.envOfC "_law_best_right" (defScope s_law_best_right) s.heap.objs.size f cdv))) :
    PSs (cxOf CX0 P w K mg base N_law_best_right "_law_best_right" (defScope s_law_best_right) f cdv A outer s H E).nox (defBody s_law_best_right) (t_law_best_right K) :=
  (pss_cons (ps_set (i := 5) sc_law_best_right.nd rfl (.inl rfl) (pe_lst (pa_cons (pe_callTy q_list (by rfl) bl.list (by decide +kernel) (pa_cons (pv 2) pa_nil)) (pa_cons (pe_callTy q_list (by rfl) bl.list (by decide +kernel) (pa_cons (pv 3) pa_nil)) pa_nil))))
  (pss_cons (ps_set (i := 6) sc_law_best_right.nd rfl (.inl rfl) (pmk m_Best hr (by decide) (by rfl) (pa_cons (pe_ix p_ix (pv 5) pe_int (fun _ _ => rfl)) (pa_cons (pe_ix p_ix (pv 5) pe_int (fun _ _ => rfl)) (pa_cons (pv 4) pa_nil)))))
  (pss_cons (ps_expr (pe_bm PySem.F.plainAttrs_list PySem.F.slot_list_append PySem.F.type_list_append mt_append (pe_ix p_ix (pv 5) pe_int (fun _ _ => rfl)) (pa_cons pe_int pa_nil)))
  (pss_cons (ps_expr (pe_bm PySem.F.plainAttrs_list PySem.F.slot_list_append PySem.F.type_list_append mt_append (pe_ix p_ix (pv 5) pe_int (fun _ _ => rfl)) (pa_cons pe_int pa_nil)))
  (pss_cons (ps_if (pt_cmpR (p_neD hr.units) (pe_lst (pa_cons (pe_fld (pv 6) rfl) (pa_cons (pe_fld (pv 6) rfl) (pa_cons (pe_fld (pv 6) rfl) pa_nil)))) (pe_lst (pa_cons (pv 2) (pa_cons (pv 3) (pa_cons (pv 4) pa_nil)))) (nomark _))
   (pss_cons (ps_ret pe_bl)
  pss_nil) pss_nil)
  (pss_cons (ps_set (i := 7) sc_law_best_right.nd rfl (.inl rfl) (pe_and (pe_cmpR p_eqI (pe_callB (q_len) (by rfl) bl.len (by decide +kernel) (pa_cons (pv 2) pa_nil)) (pv 1) (nomark _)) (pe_and (pc c_law_rising hr (by decide) (by rfl) (pa_cons (pv 0) (pa_cons (pv 2) pa_nil))) (pe_one (pc c_law_bounds hr (by decide) (by rfl) (pa_cons (pv 0) (pa_cons (pv 3) (pa_cons (pv 4) pa_nil))))))))
  (pss_cons (ps_if (pt_val (pv 7))
   (pss_cons (ps_set (i := 7) sc_law_best_right.nd rfl (.inl rfl) (pe_cmpR p_eqI (pe_op p_sub (pe_ix p_ix (pv 3) (pe_un p_neg pe_int) (fun _ _ => rfl)) (pe_op p_mulW (pv 1) (pv 4))) (pc c_law_way hr (by decide) (by rfl) (pa_cons (pv 0) (pa_cons (pv 2) pa_nil))) (nomark _)))
  pss_nil) pss_nil)
  (pss_cons (ps_ret (pc c_law_says hr (by decide) (by rfl) (pa_cons (pmeth c_Best_shows hr (by decide) (pv 6) (pa_cons (pv 0) (pa_cons (pv 1) pa_nil))) (pa_cons (pv 7) pa_nil))))
  pss_nil))))))))
abbrev s_law_paid_right : Stmt := topS 36
abbrev N_law_paid_right : List Str := ["_law_road_here", "_law_fee", "_law_posts", "_law_bounds_here", "_law_handed", "_law_answer", "_law_due"]
theorem sc_law_paid_right : FnScope N_law_paid_right ["_law_road_here", "_law_fee", "_law_posts", "_law_bounds_here"] (defScope s_law_paid_right) := ⟨rfl, rfl, rfl, by decide +kernel, rfl, by decide +kernel, by decide +kernel⟩
theorem d_law_paid_right (bl : Blt mg) (m_Paid : ClM P w K mg base 1 "Paid" (He.ga K "Paid") (PrI2 K (He.ga K "Paid"))) (c_Paid_shows : ClT P w K mg base 4 (He.ga K "Paid") "shows" (sp_Paid_shows K)) (c_law_bounds : Cl P w K mg base 2 "_law_bounds" (sp_law_bounds K)) (c_law_rising : Cl P w K mg base 1 "_law_rising" (sp_law_rising K)) (c_law_says : Cl P w K mg base 1 "_law_says" (sp_law_says K)) (c_law_way : Cl P w K mg base 1 "_law_way" (sp_law_way K))  {f : Addr} {cdv : Value} {A : Around} {outer : List Env} {s : Shared} {H : Hp} {E : XK} (hr : Room 4 (A.deeper (PyProof.Rows.envOfC "_law_paid_right" (defScope s_law_paid_right) s.heap.objs.size f cdv))) :
    PSs (cxOf CX0 P w K mg base N_law_paid_right "_law_paid_right" (defScope s_law_paid_right) f cdv A outer s H E).nox (defBody s_law_paid_right) (t_law_paid_right K) :=
  (pss_cons (ps_set (i := 4) sc_law_paid_right.nd rfl (.inl rfl) (pe_lst (pa_cons (pe_callTy q_list (by rfl) bl.list (by decide +kernel) (pa_cons (pv 2) pa_nil)) (pa_cons (pe_callTy q_list (by rfl) bl.list (by decide +kernel) (pa_cons (pv 3) pa_nil)) pa_nil))))
  (pss_cons (ps_set (i := 5) sc_law_paid_right.nd rfl (.inl rfl) (pmk m_Paid hr (by decide) (by rfl) (pa_cons (pe_ix p_ix (pv 4) pe_int (fun _ _ => rfl)) (pa_cons (pe_ix p_ix (pv 4) pe_int (fun _ _ => rfl)) pa_nil))))
  (pss_cons (ps_expr (pe_bm PySem.F.plainAttrs_list PySem.F.slot_list_append PySem.F.type_list_append mt_append (pe_ix p_ix (pv 4) pe_int (fun _ _ => rfl)) (pa_cons pe_int pa_nil)))
  (pss_cons (ps_expr (pe_bm PySem.F.plainAttrs_list PySem.F.slot_list_append PySem.F.type_list_append mt_append (pe_ix p_ix (pv 4) pe_int (fun _ _ => rfl)) (pa_cons pe_int pa_nil)))
  (pss_cons (ps_if (pt_cmpR (p_neD hr.units) (pe_lst (pa_cons (pe_fld (pv 5) rfl) (pa_cons (pe_fld (pv 5) rfl) pa_nil))) (pe_lst (pa_cons (pv 2) (pa_cons (pv 3) pa_nil))) (nomark _))
   (pss_cons (ps_ret pe_bl)
  pss_nil) pss_nil)
  (pss_cons (ps_set (i := 6) sc_law_paid_right.nd rfl (.inl rfl) (pe_and (pc c_law_rising hr (by decide) (by rfl) (pa_cons (pv 0) (pa_cons (pv 2) pa_nil))) (pe_one (pc c_law_bounds hr (by decide) (by rfl) (pa_cons (pv 0) (pa_cons (pv 3) (pa_cons (pv 1) pa_nil)))))))
  (pss_cons (ps_if (pt_val (pv 6))
   (pss_cons (ps_set (i := 6) sc_law_paid_right.nd rfl (.inl rfl) (pe_cmpR p_eqI (pe_ix p_ix (pv 3) (pe_un p_neg pe_int) (fun _ _ => rfl)) (pe_op p_add (pc c_law_way hr (by decide) (by rfl) (pa_cons (pv 0) (pa_cons (pv 2) pa_nil))) (pe_op p_mulW (pe_callB (q_len) (by rfl) bl.len (by decide +kernel) (pa_cons (pv 2) pa_nil)) (pv 1))) (nomark _)))
  pss_nil) pss_nil)
  (pss_cons (ps_ret (pc c_law_says hr (by decide) (by rfl) (pa_cons (pmeth c_Paid_shows hr (by decide) (pv 5) (pa_cons (pv 0) (pa_cons (pv 1) pa_nil))) (pa_cons (pv 6) pa_nil))))
  pss_nil))))))))
abbrev s_law : Stmt := topS 37
abbrev N_law : List Str := ["_law_script", "_law_road_here", "_law_many", "_law_told", "_law_paid", "_law_cell", "_law_posts", "_law_bounds_here", "_law_fee", "_law_asked", "_law_some", "_law_more", "_law_each"]
theorem sc_law : FnScope N_law ["_law_script"] (defScope s_law) := ⟨rfl, rfl, rfl, by decide +kernel, rfl, by decide +kernel, by decide +kernel⟩
theorem d_law (bl : Blt mg) (m_Best : ClM P w K mg base 1 "Best" (He.ga K "Best") (PrI3 K (He.ga K "Best"))) (c_Best_shows : ClT P w K mg base 4 (He.ga K "Best") "shows" (sp_Best_shows K)) (m_Paid : ClM P w K mg base 1 "Paid" (He.ga K "Paid") (PrI2 K (He.ga K "Paid"))) (c_Paid_shows : ClT P w K mg base 4 (He.ga K "Paid") "shows" (sp_Paid_shows K)) (c_law_bent : Cl P w K mg base 1 "_law_bent" (sp_law_bent K)) (c_law_best_right : Cl P w K mg base 5 "_law_best_right" (sp_law_best_right K)) (c_law_paid_right : Cl P w K mg base 5 "_law_paid_right" (sp_law_paid_right K)) (c_law_road : Cl P w K mg base 1 "_law_road" (sp_law_road K)) (c_law_says : Cl P w K mg base 1 "_law_says" (sp_law_says K)) (c_best : Cl P w K mg base 4 "best" (sp_best K)) (c_paying : Cl P w K mg base 4 "paying" (sp_paying K))  {f : Addr} {cdv : Value} {A : Around} {outer : List Env} {s : Shared} {H : Hp} {E : XK} (hr : Room 5 (A.deeper (PyProof.Rows.envOfC "law" (defScope s_law) s.heap.objs.size f cdv))) :
    PSs (cxOf CX0 P w K mg base N_law "law" (defScope s_law) f cdv A outer s H E).nox (defBody s_law) (t_law_k06 K) :=
  (pss_cons (ps_set (i := 1) sc_law.nd rfl (.inl rfl) (pe_slice p_sl (pc c_law_road hr (by decide) (by rfl) (pa_cons (pv 0) pa_nil)) po_none (po_some pe_int)))
  (pss_cons (ps_if (pt_cmpR (p_eqD hr.units) (pv 1) (pe_lst pa_nil) (nomark _))
   (pss_cons (ps_ret (pe_and (pc c_law_says hr (by decide) (by rfl) (pa_cons (pmeth c_Paid_shows hr (by decide) (pmk m_Paid hr (by decide) (by rfl) (pa_cons (pe_lst pa_nil) (pa_cons (pe_lst (pa_cons pe_int pa_nil)) pa_nil))) (pa_cons (pe_lst pa_nil) (pa_cons pe_int pa_nil))) (pa_cons pe_bl pa_nil))) (pe_one (pc c_law_says hr (by decide) (by rfl) (pa_cons (pmeth c_Paid_shows hr (by decide) (pmk m_Paid hr (by decide) (by rfl) (pa_cons (pe_lst pa_nil) (pa_cons (pe_lst pa_nil) pa_nil))) (pa_cons (pe_lst pa_nil) (pa_cons pe_int pa_nil))) (pa_cons pe_bl pa_nil))))))
  pss_nil) pss_nil)
  (pss_cons (ps_set (i := 2) sc_law.nd rfl (.inl rfl) (pe_op p_add pe_int (pe_op p_mod (pe_callB (q_sum rfl) (by rfl) bl.sum (by decide +kernel) (pa_cons (pv 0) pa_nil)) (pe_callB (q_len) (by rfl) bl.len (by decide +kernel) (pa_cons (pv 1) pa_nil)))))
  (pss_cons (ps_set (i := 3) sc_law.nd rfl (.inl rfl) (pc c_best hr (by decide) (by rfl) (pa_cons (pv 1) (pa_cons (pv 2) pa_nil))))
  (pss_cons (ps_set (i := 4) sc_law.nd rfl (.inl rfl) (pc c_paying hr (by decide) (by rfl) (pa_cons (pv 1) (pa_cons (pe_op p_mod (pe_op p_div (pe_callB (q_sum rfl) (by rfl) bl.sum (by decide +kernel) (pa_cons (pv 0) pa_nil)) pe_int) pe_int) pa_nil))))
  (pss_cons (ps_for PassesOwn.never rfl (pi_list (pe_op p_catL (pe_slice p_sl (pv 0) po_none (po_some pe_int)) (pe_stp (by decide) (pv 0)))) (pg_name (i := 5) sc_law.nd rfl (.inl rfl))
   (pss_cons (ps_set (i := 6) sc_law.nd rfl (.inl rfl) (pc c_law_bent hr (by decide) (by rfl) (pa_cons (pe_fld (pv 3) rfl) (pa_cons (pe_op p_div (pv 5) pe_int) pa_nil))))
  (pss_cons (ps_set (i := 7) sc_law.nd rfl (.inl rfl) (pc c_law_bent hr (by decide) (by rfl) (pa_cons (pe_fld (pv 3) rfl) (pa_cons (pv 5) pa_nil))))
  (pss_cons (ps_set (i := 8) sc_law.nd rfl (.inl rfl) (pe_op p_add (pe_fld (pv 3) rfl) (pe_ix p_ixT (pe_tup (pa_cons pe_int (pa_cons pe_int (pa_cons (pe_un p_neg pe_int) (pa_cons pe_int pa_nil))))) (pe_op p_mod (pe_op p_div (pv 5) pe_int) pe_int) (fun _ _ => rfl))))
  (pss_cons (ps_set (i := 9) sc_law.nd rfl (.inl rfl) (pe_lst (pa_cons (pe_tup (pa_cons (pe_fld (pv 3) rfl) (pa_cons (pv 7) (pa_cons (pe_fld (pv 3) rfl) pa_nil)))) (pa_cons (pe_tup (pa_cons (pv 6) (pa_cons (pe_fld (pv 3) rfl) (pa_cons (pe_fld (pv 3) rfl) pa_nil)))) (pa_cons (pe_tup (pa_cons (pe_fld (pv 3) rfl) (pa_cons (pv 7) (pa_cons (pv 8) pa_nil)))) pa_nil)))))
  (pss_cons (ps_for PassesOwn.never rfl (pi_list (pv 9)) (pg_tup rfl (pgs_cons (pg_name (i := 10) sc_law.nd rfl (.inl rfl)) (pgs_cons (pg_name (i := 11) sc_law.nd rfl (.inl rfl)) (pgs_cons (pg_name (i := 12) sc_law.nd rfl (.inl rfl)) pgs_nil))))
   (pss_cons (ps_if (pt_not (pt_val (pc c_law_best_right hr (by decide) (by rfl) (pa_cons (pv 1) (pa_cons (pv 2) (pa_cons (pv 10) (pa_cons (pv 11) (pa_cons (pv 12) pa_nil))))))))
   (pss_cons (ps_ret pe_bl)
  pss_nil) pss_nil)
  (pss_cons (ps_if (pt_not (pt_val (pc c_law_best_right hr (by decide) (by rfl) (pa_cons (pv 1) (pa_cons (pe_callB (q_len) (by rfl) bl.len (by decide +kernel) (pa_cons (pv 10) pa_nil)) (pa_cons (pv 10) (pa_cons (pv 11) (pa_cons (pv 12) pa_nil))))))))
   (pss_cons (ps_ret pe_bl)
  pss_nil) pss_nil)
  pss_nil)))
  (pss_cons (ps_set (i := 8) sc_law.nd rfl (.inl rfl) (pe_callB (q_max2 rfl) (by rfl) bl.max (by decide +kernel) (pa_cons pe_int (pa_cons (pe_op p_add (pe_op p_mod (pe_op p_div (pe_callB (q_sum rfl) (by rfl) bl.sum (by decide +kernel) (pa_cons (pv 0) pa_nil)) pe_int) pe_int) (pe_ix p_ixT (pe_tup (pa_cons pe_int (pa_cons pe_int (pa_cons (pe_un p_neg pe_int) pa_nil)))) (pe_op p_mod (pe_op p_div (pv 5) pe_int) pe_int) (fun _ _ => rfl))) pa_nil))))
  (pss_cons (ps_if (pt_not (pt_val (pc c_law_paid_right hr (by decide) (by rfl) (pa_cons (pv 1) (pa_cons (pv 8) (pa_cons (pc c_law_bent hr (by decide) (by rfl) (pa_cons (pe_fld (pv 4) rfl) (pa_cons (pe_op p_div (pv 5) pe_int) pa_nil))) (pa_cons (pe_fld (pv 4) rfl) pa_nil)))))))
   (pss_cons (ps_ret pe_bl)
  pss_nil) pss_nil)
  (pss_cons (ps_if (pt_not (pt_val (pc c_law_paid_right hr (by decide) (by rfl) (pa_cons (pv 1) (pa_cons (pv 8) (pa_cons (pe_fld (pv 4) rfl) (pa_cons (pc c_law_bent hr (by decide) (by rfl) (pa_cons (pe_fld (pv 4) rfl) (pa_cons (pv 5) pa_nil))) pa_nil)))))))
   (pss_cons (ps_ret pe_bl)
  pss_nil) pss_nil)
  pss_nil)))))))))
  (pss_cons (ps_ret (pc c_law_says hr (by decide) (by rfl) (pa_cons (pmeth c_Best_shows hr (by decide) (pmk m_Best hr (by decide) (by rfl) (pa_cons (pe_lst (pa_cons pe_int pa_nil)) (pa_cons (pe_lst (pa_cons pe_int (pa_cons pe_int pa_nil))) (pa_cons pe_int pa_nil)))) (pa_cons (pe_lst (pa_cons (pe_tup (pa_cons pe_int (pa_cons pe_int pa_nil))) pa_nil)) (pa_cons pe_int pa_nil))) (pa_cons pe_bl pa_nil))))
  pss_nil)))))))
end
end Ph_k06

set_option Elab.async false
set_option linter.all false
set_option maxRecDepth 100000
set_option maxHeartbeats 0
namespace Ph_k06
open PySem PySem.Spec L2 Ph
def h_is_number : He.DefD := ⟨("is_number", none), "is_number", "is_number", defArgs s_is_number, defBody s_is_number, defScope s_is_number, [], []⟩
def h_are_posts : He.DefD := ⟨("are_posts", none), "are_posts", "are_posts", defArgs s_are_posts, defBody s_are_posts, defScope s_are_posts, [], []⟩
def h_nearest_of : He.DefD := ⟨("nearest_of", none), "nearest_of", "nearest_of", defArgs s_nearest_of, defBody s_nearest_of, defScope s_nearest_of, [], []⟩
def h_sums : He.DefD := ⟨("sums", none), "sums", "sums", defArgs s_sums, defBody s_sums, defScope s_sums, [], []⟩
def h_carried : He.DefD := ⟨("carried", none), "carried", "carried", defArgs s_carried, defBody s_carried, defScope s_carried, [], []⟩
def h_Best_init : He.DefD := ⟨("Best", some "__init__"), "__init__", "Best.__init__", defArgs s_Best_init, defBody s_Best_init, defScope s_Best_init, [], []⟩
def h_Paid_init : He.DefD := ⟨("Paid", some "__init__"), "__init__", "Paid.__init__", defArgs s_Paid_init, defBody s_Paid_init, defScope s_Paid_init, [], []⟩
def h_layers : He.DefD := ⟨("layers", none), "layers", "layers", defArgs s_layers, defBody s_layers, defScope s_layers, [], []⟩
def h_posts_by : He.DefD := ⟨("posts_by", none), "posts_by", "posts_by", defArgs s_posts_by, defBody s_posts_by, defScope s_posts_by, [], []⟩
def h_led : He.DefD := ⟨("led", none), "led", "led", defArgs s_led, defBody s_led, defScope s_led, [], []⟩
def h_law_road : He.DefD := ⟨("_law_road", none), "_law_road", "_law_road", defArgs s_law_road, defBody s_law_road, defScope s_law_road, [], []⟩
def h_law_way : He.DefD := ⟨("_law_way", none), "_law_way", "_law_way", defArgs s_law_way, defBody s_law_way, defScope s_law_way, [], []⟩
def h_law_one_ways : He.DefD := ⟨("_law_one_ways", none), "_law_one_ways", "_law_one_ways", defArgs s_law_one_ways, defBody s_law_one_ways, defScope s_law_one_ways, [], []⟩
def h_law_rising : He.DefD := ⟨("_law_rising", none), "_law_rising", "_law_rising", defArgs s_law_rising, defBody s_law_rising, defScope s_law_rising, [], []⟩
def h_law_says : He.DefD := ⟨("_law_says", none), "_law_says", "_law_says", defArgs s_law_says, defBody s_law_says, defScope s_law_says, [], []⟩
def h_law_bent : He.DefD := ⟨("_law_bent", none), "_law_bent", "_law_bent", defArgs s_law_bent, defBody s_law_bent, defScope s_law_bent, [], []⟩
def h_is_house : He.DefD := ⟨("is_house", none), "is_house", "is_house", defArgs s_is_house, defBody s_is_house, defScope s_is_house, [], []⟩
def h_way_of : He.DefD := ⟨("way_of", none), "way_of", "way_of", defArgs s_way_of, defBody s_way_of, defScope s_way_of, [], []⟩
def h_middles : He.DefD := ⟨("middles", none), "middles", "middles", defArgs s_middles, defBody s_middles, defScope s_middles, [], []⟩
def h_asked_many : He.DefD := ⟨("asked_many", none), "asked_many", "asked_many", defArgs s_asked_many, defBody s_asked_many, defScope s_asked_many, [], []⟩
def h_asked_number : He.DefD := ⟨("asked_number", none), "asked_number", "asked_number", defArgs s_asked_number, defBody s_asked_number, defScope s_asked_number, [], []⟩
def h_law_bounds : He.DefD := ⟨("_law_bounds", none), "_law_bounds", "_law_bounds", defArgs s_law_bounds, defBody s_law_bounds, defScope s_law_bounds, [], []⟩
def h_asked_road : He.DefD := ⟨("asked_road", none), "asked_road", "asked_road", defArgs s_asked_road, defBody s_asked_road, defScope s_asked_road, [], []⟩
def h_are_bounds : He.DefD := ⟨("are_bounds", none), "are_bounds", "are_bounds", defArgs s_are_bounds, defBody s_are_bounds, defScope s_are_bounds, [], []⟩
def h_Best_shows : He.DefD := ⟨("Best", some "shows"), "shows", "Best.shows", defArgs s_Best_shows, defBody s_Best_shows, defScope s_Best_shows, [], []⟩
def h_Paid_shows : He.DefD := ⟨("Paid", some "shows"), "shows", "Paid.shows", defArgs s_Paid_shows, defBody s_Paid_shows, defScope s_Paid_shows, [], []⟩
def h_best : He.DefD := ⟨("best", none), "best", "best", defArgs s_best, defBody s_best, defScope s_best, [], []⟩
def h_paying : He.DefD := ⟨("paying", none), "paying", "paying", defArgs s_paying, defBody s_paying, defScope s_paying, [], []⟩
def h_law_best_right : He.DefD := ⟨("_law_best_right", none), "_law_best_right", "_law_best_right", defArgs s_law_best_right, defBody s_law_best_right, defScope s_law_best_right, [], []⟩
def h_law_paid_right : He.DefD := ⟨("_law_paid_right", none), "_law_paid_right", "_law_paid_right", defArgs s_law_paid_right, defBody s_law_paid_right, defScope s_law_paid_right, [], []⟩
def h_law : He.DefD := ⟨("law", none), "law", "law", defArgs s_law, defBody s_law, defScope s_law, [], []⟩
def fn : List He.DefD := [h_is_number, h_are_posts, h_nearest_of, h_sums, h_carried, h_Best_init, h_Paid_init, h_layers, h_posts_by, h_led, h_law_road, h_law_way, h_law_one_ways, h_law_rising, h_law_says, h_law_bent, h_is_house, h_way_of, h_middles, h_asked_many, h_asked_number, h_law_bounds, h_asked_road, h_are_bounds, h_Best_shows, h_Paid_shows, h_best, h_paying, h_law_best_right, h_law_paid_right, h_law]
def fa : List He.Fa := [.glo "is_number", .glo "are_posts", .glo "nearest_of", .glo "sums", .glo "carried", .glo "layers", .glo "posts_by", .glo "led", .glo "_law_road", .glo "_law_way", .glo "_law_one_ways", .glo "_law_rising", .glo "_law_says", .glo "_law_bent", .glo "is_house", .glo "way_of", .glo "middles", .glo "asked_many", .glo "asked_number", .glo "_law_bounds", .glo "asked_road", .glo "are_bounds", .glo "best", .glo "paying", .glo "_law_best_right", .glo "_law_paid_right", .glo "law", .free "len", .free "range", .free "zip", .free "enumerate", .free "reversed", .free "isinstance", .free "abs", .free "min", .free "max", .free "sum", .free "any", .free "all", .free "list", .free "sorted", .free "set", .free "int", .free "bool", .free "tuple", .glo "Best", .cls "Best", .noat "Best" "posts", .noat "Best" "bounds", .noat "Best" "fee", .glo "Paid", .cls "Paid", .noat "Paid" "posts", .noat "Paid" "bounds", .noat "Paid" "fee", .mkr "Best", .meth "Best" "shows", .mkr "Paid", .meth "Paid" "shows"]
def xf : List Xf := []
abbrev R : PySem.W.OpenRow := PySem.W.OpenLaw.row PySem.Challenge.rw_posthouses_k06_answers_by_hand
abbrev hk : PySem.W.Hook := hookX 6 xf fa fn
def ob (s : PySem.W.SharedT) : AlX := obsXG 6 xf fa fn (HandSHeadRun.getT s)
theorem ob_eq (s : PySem.W.SharedT) : ob s = hk.obs s.abs := obsXG_eq (HandSHeadRun.getT_eq s)
def loose : List PySem.Str := ["PostError", "BadRoad", "BadMany", "Answer", "Best", "Paid", "is_number", "is_house", "asked_road", "are_posts", "nearest_of", "way_of", "sums", "carried", "middles", "are_bounds", "layers", "posts_by", "led", "asked_many", "asked_number", "best", "paying", "_law_road", "_law_way", "_law_one_ways", "_law_bounds", "_law_rising", "_law_says", "_law_bent", "_law_best_right", "_law_paid_right"]
theorem run (w : World) : HandSHeadRun.RunEq R (PySem.W.view R.prog [37]) hk ob 4000 loose w := by
  intro os
  kernel_rfl
theorem facts {P : Program} {w : World} {K : PySem.W.Frag} {h : Heap} {mg : Str → Option Value} {f : Addr} (X : K.In h) (G : h.Ns mainGlobals mg) (hfa : mg ("law" : Str) = some (.ref f)) (c : He.SaysD fa fn K) (cx : (xf.all fun f => f.ok K) = true) :
    ∃ fd : FuncData, (∀ (s : Shared) (v : Value), BindsTo s fd ⟨[v], []⟩ [("_law_script", v)]) ∧ ∀ base : Heap, K.In base → base.Ns mainGlobals mg → FnOk P w K mg base CX0 6 f fd ["_law_script"] (sp_law K) := by
  have bl : Blt mg := ⟨He.free_ok X G (c.fact 27 (f := .free "len") rfl), He.free_ok X G (c.fact 28 (f := .free "range") rfl), He.free_ok X G (c.fact 29 (f := .free "zip") rfl), He.free_ok X G (c.fact 30 (f := .free "enumerate") rfl), He.free_ok X G (c.fact 31 (f := .free "reversed") rfl), He.free_ok X G (c.fact 32 (f := .free "isinstance") rfl), He.free_ok X G (c.fact 33 (f := .free "abs") rfl), He.free_ok X G (c.fact 34 (f := .free "min") rfl), He.free_ok X G (c.fact 35 (f := .free "max") rfl), He.free_ok X G (c.fact 36 (f := .free "sum") rfl), He.free_ok X G (c.fact 37 (f := .free "any") rfl), He.free_ok X G (c.fact 38 (f := .free "all") rfl), He.free_ok X G (c.fact 39 (f := .free "list") rfl), He.free_ok X G (c.fact 40 (f := .free "sorted") rfl), He.free_ok X G (c.fact 41 (f := .free "set") rfl), He.free_ok X G (c.fact 42 (f := .free "int") rfl), He.free_ok X G (c.fact 43 (f := .free "bool") rfl), He.free_ok X G (c.fact 44 (f := .free "tuple") rfl)⟩
  obtain ⟨fd_is_number, F_is_number⟩ := c.def_ 0 (d := h_is_number) rfl
  obtain ⟨fd_are_posts, F_are_posts⟩ := c.def_ 1 (d := h_are_posts) rfl
  obtain ⟨fd_nearest_of, F_nearest_of⟩ := c.def_ 2 (d := h_nearest_of) rfl
  obtain ⟨fd_sums, F_sums⟩ := c.def_ 3 (d := h_sums) rfl
  obtain ⟨fd_carried, F_carried⟩ := c.def_ 4 (d := h_carried) rfl
  obtain ⟨fd_Best_init, F_Best_init⟩ := c.def_ 5 (d := h_Best_init) rfl
  obtain ⟨fd_Paid_init, F_Paid_init⟩ := c.def_ 6 (d := h_Paid_init) rfl
  obtain ⟨fd_layers, F_layers⟩ := c.def_ 7 (d := h_layers) rfl
  obtain ⟨fd_posts_by, F_posts_by⟩ := c.def_ 8 (d := h_posts_by) rfl
  obtain ⟨fd_led, F_led⟩ := c.def_ 9 (d := h_led) rfl
  obtain ⟨fd_law_road, F_law_road⟩ := c.def_ 10 (d := h_law_road) rfl
  obtain ⟨fd_law_way, F_law_way⟩ := c.def_ 11 (d := h_law_way) rfl
  obtain ⟨fd_law_one_ways, F_law_one_ways⟩ := c.def_ 12 (d := h_law_one_ways) rfl
  obtain ⟨fd_law_rising, F_law_rising⟩ := c.def_ 13 (d := h_law_rising) rfl
  obtain ⟨fd_law_says, F_law_says⟩ := c.def_ 14 (d := h_law_says) rfl
  obtain ⟨fd_law_bent, F_law_bent⟩ := c.def_ 15 (d := h_law_bent) rfl
  obtain ⟨fd_is_house, F_is_house⟩ := c.def_ 16 (d := h_is_house) rfl
  obtain ⟨fd_way_of, F_way_of⟩ := c.def_ 17 (d := h_way_of) rfl
  obtain ⟨fd_middles, F_middles⟩ := c.def_ 18 (d := h_middles) rfl
  obtain ⟨fd_asked_many, F_asked_many⟩ := c.def_ 19 (d := h_asked_many) rfl
  obtain ⟨fd_asked_number, F_asked_number⟩ := c.def_ 20 (d := h_asked_number) rfl
  obtain ⟨fd_law_bounds, F_law_bounds⟩ := c.def_ 21 (d := h_law_bounds) rfl
  obtain ⟨fd_asked_road, F_asked_road⟩ := c.def_ 22 (d := h_asked_road) rfl
  obtain ⟨fd_are_bounds, F_are_bounds⟩ := c.def_ 23 (d := h_are_bounds) rfl
  obtain ⟨fd_Best_shows, F_Best_shows⟩ := c.def_ 24 (d := h_Best_shows) rfl
  obtain ⟨fd_Paid_shows, F_Paid_shows⟩ := c.def_ 25 (d := h_Paid_shows) rfl
  obtain ⟨fd_best, F_best⟩ := c.def_ 26 (d := h_best) rfl
  obtain ⟨fd_paying, F_paying⟩ := c.def_ 27 (d := h_paying) rfl
  obtain ⟨fd_law_best_right, F_law_best_right⟩ := c.def_ 28 (d := h_law_best_right) rfl
  obtain ⟨fd_law_paid_right, F_law_paid_right⟩ := c.def_ 29 (d := h_law_paid_right) rfl
  obtain ⟨fd_law, F_law⟩ := c.def_ 30 (d := h_law) rfl
  have e := hfa.symm.trans (He.glo_ok X G (c.fact 26 (f := .glo "law") rfl))
  cases e
  have b := FunD.bindsA (ps := ["_law_script"]) F_law fun _ _ _ _ _ _ us hl => match us, hl with | [_], _ => rfl
  refine ⟨fd_law, fun s v => b s [v] rfl, fun base _ _ => ?_⟩
  have co_Best : COk K (He.ga K "Best") := ⟨He.cls_ok (c.fact 46 (f := .cls "Best") rfl), He.noat_ok (c.fact 47 (f := .noat "Best" "posts") rfl), He.noat_ok (c.fact 48 (f := .noat "Best" "bounds") rfl), He.noat_ok (c.fact 49 (f := .noat "Best" "fee") rfl)⟩
  have co_Paid : COk K (He.ga K "Paid") := ⟨He.cls_ok (c.fact 51 (f := .cls "Paid") rfl), He.noat_ok (c.fact 52 (f := .noat "Paid" "posts") rfl), He.noat_ok (c.fact 53 (f := .noat "Paid" "bounds") rfl), He.noat_ok (c.fact 54 (f := .noat "Paid" "fee") rfl)⟩
  have c_is_number : Cl P w K mg base 1 "is_number" (sp_is_number K) := cl_of (ok_pr (k := 0) (fun_of F_is_number) sc_is_number len_is_number (fun cdv A outer s H E hr => d_is_number bl   hr) run_is_number) (He.glo_ok X G (c.fact 0 (f := .glo "is_number") rfl)) F_is_number.kp (F_is_number.bindsN fun _ _ _ _ _ _ us hl => match us, hl with | [_], _ => rfl)
  have c_are_posts : Cl P w K mg base 1 "are_posts" (sp_are_posts K) := cl_of (ok_pr (k := 0) (fun_of F_are_posts) sc_are_posts len_are_posts (fun cdv A outer s H E hr => d_are_posts bl   hr) run_are_posts) (He.glo_ok X G (c.fact 1 (f := .glo "are_posts") rfl)) F_are_posts.kp (F_are_posts.bindsN fun _ _ _ _ _ _ us hl => match us, hl with | [_, _], _ => rfl)
  have c_nearest_of : Cl P w K mg base 1 "nearest_of" (sp_nearest_of K) := cl_of (ok_prN (k := 0) (fun_of F_nearest_of) sc_nearest_of len_nearest_of (fun cdv A outer s H E hr => d_nearest_of bl   hr) run_nearest_of) (He.glo_ok X G (c.fact 2 (f := .glo "nearest_of") rfl)) F_nearest_of.kp (F_nearest_of.bindsN fun _ _ _ _ _ _ us hl => match us, hl with | [_, _], _ => rfl)
  have c_sums : Cl P w K mg base 1 "sums" (sp_sums K) := cl_of (ok_pr (k := 0) (fun_of F_sums) sc_sums len_sums (fun cdv A outer s H E hr => d_sums bl   hr) run_sums) (He.glo_ok X G (c.fact 3 (f := .glo "sums") rfl)) F_sums.kp (F_sums.bindsN fun _ _ _ _ _ _ us hl => match us, hl with | [_], _ => rfl)
  have c_carried : Cl P w K mg base 1 "carried" (sp_carried K) := cl_of (ok_pr (k := 0) (fun_of F_carried) sc_carried len_carried (fun cdv A outer s H E hr => d_carried bl   hr) run_carried) (He.glo_ok X G (c.fact 4 (f := .glo "carried") rfl)) F_carried.kp (F_carried.bindsN fun _ _ _ _ _ _ us hl => match us, hl with | [_, _, _, _, _], _ => rfl)
  have m_Best : ClM P w K mg base 1 "Best" (He.ga K "Best") (PrI3 K (He.ga K "Best")) := ⟨_, fd_Best_init, ["self", "posts", "bounds", "fee"], He.mkr_ok (c.fact 55 (f := .mkr "Best") rfl), (fun_of F_Best_init).ok (k := 0) sc_Best_init (fun vs H Q E h => h.1) (fun cdv A outer s H vs Q E hr h => ⟨_, d_Best_init bl   hr, init_ok3 co_Best h _⟩), He.glo_ok X G (c.fact 45 (f := .glo "Best") rfl), F_Best_init.bindsN fun _ _ _ _ _ _ us hl => match us, hl with | [_, _, _, _], _ => rfl⟩
  have m_Paid : ClM P w K mg base 1 "Paid" (He.ga K "Paid") (PrI2 K (He.ga K "Paid")) := ⟨_, fd_Paid_init, ["self", "posts", "bounds"], He.mkr_ok (c.fact 57 (f := .mkr "Paid") rfl), (fun_of F_Paid_init).ok (k := 0) sc_Paid_init (fun vs H Q E h => h.1) (fun cdv A outer s H vs Q E hr h => ⟨_, d_Paid_init bl   hr, init_ok2 co_Paid h _⟩), He.glo_ok X G (c.fact 50 (f := .glo "Paid") rfl), F_Paid_init.bindsN fun _ _ _ _ _ _ us hl => match us, hl with | [_, _, _], _ => rfl⟩
  have c_layers : Cl P w K mg base 1 "layers" (sp_layers K) := cl_of (ok_prN (k := 0) (fun_of F_layers) sc_layers len_layers (fun cdv A outer s H E hr => d_layers bl   hr) run_layers) (He.glo_ok X G (c.fact 5 (f := .glo "layers") rfl)) F_layers.kp (F_layers.bindsN fun _ _ _ _ _ _ us hl => match us, hl with | [_, _, _], _ => rfl)
  have c_posts_by : Cl P w K mg base 1 "posts_by" (sp_posts_by K) := cl_of (ok_prN (k := 0) (fun_of F_posts_by) sc_posts_by len_posts_by (fun cdv A outer s H E hr => d_posts_by bl   hr) run_posts_by) (He.glo_ok X G (c.fact 6 (f := .glo "posts_by") rfl)) F_posts_by.kp (F_posts_by.bindsN fun _ _ _ _ _ _ us hl => match us, hl with | [_, _, _, _], _ => rfl)
  have c_led : Cl P w K mg base 1 "led" (sp_led K) := cl_of (ok_prN (k := 0) (fun_of F_led) sc_led len_led (fun cdv A outer s H E hr => d_led bl   hr) run_led) (He.glo_ok X G (c.fact 7 (f := .glo "led") rfl)) F_led.kp (F_led.bindsN fun _ _ _ _ _ _ us hl => match us, hl with | [_, _, _], _ => rfl)
  have c_law_road : Cl P w K mg base 1 "_law_road" (sp_law_road K) := cl_of (ok_prN (k := 0) (fun_of F_law_road) sc_law_road len_law_road (fun cdv A outer s H E hr => d_law_road bl   hr) run_law_road) (He.glo_ok X G (c.fact 8 (f := .glo "_law_road") rfl)) F_law_road.kp (F_law_road.bindsN fun _ _ _ _ _ _ us hl => match us, hl with | [_], _ => rfl)
  have c_law_way : Cl P w K mg base 1 "_law_way" (sp_law_way K) := cl_of (ok_pr (k := 0) (fun_of F_law_way) sc_law_way len_law_way (fun cdv A outer s H E hr => d_law_way bl   hr) run_law_way) (He.glo_ok X G (c.fact 9 (f := .glo "_law_way") rfl)) F_law_way.kp (F_law_way.bindsN fun _ _ _ _ _ _ us hl => match us, hl with | [_, _], _ => rfl)
  have c_law_one_ways : Cl P w K mg base 1 "_law_one_ways" (sp_law_one_ways K) := cl_of (ok_prN (k := 0) (fun_of F_law_one_ways) sc_law_one_ways len_law_one_ways (fun cdv A outer s H E hr => d_law_one_ways bl   hr) run_law_one_ways) (He.glo_ok X G (c.fact 10 (f := .glo "_law_one_ways") rfl)) F_law_one_ways.kp (F_law_one_ways.bindsN fun _ _ _ _ _ _ us hl => match us, hl with | [_, _], _ => rfl)
  have c_law_rising : Cl P w K mg base 1 "_law_rising" (sp_law_rising K) := cl_of (ok_pr (k := 0) (fun_of F_law_rising) sc_law_rising len_law_rising (fun cdv A outer s H E hr => d_law_rising bl   hr) run_law_rising) (He.glo_ok X G (c.fact 11 (f := .glo "_law_rising") rfl)) F_law_rising.kp (F_law_rising.bindsN fun _ _ _ _ _ _ us hl => match us, hl with | [_, _], _ => rfl)
  have c_law_says : Cl P w K mg base 1 "_law_says" (sp_law_says K) := cl_of (ok_pr (k := 0) (fun_of F_law_says) sc_law_says len_law_says (fun cdv A outer s H E hr => d_law_says bl   hr) run_law_says) (He.glo_ok X G (c.fact 12 (f := .glo "_law_says") rfl)) F_law_says.kp (F_law_says.bindsN fun _ _ _ _ _ _ us hl => match us, hl with | [_, _], _ => rfl)
  have c_law_bent : Cl P w K mg base 1 "_law_bent" (sp_law_bent K) := cl_of (ok_prN (k := 0) (fun_of F_law_bent) sc_law_bent len_law_bent (fun cdv A outer s H E hr => d_law_bent bl   hr) run_law_bent) (He.glo_ok X G (c.fact 13 (f := .glo "_law_bent") rfl)) F_law_bent.kp (F_law_bent.bindsN fun _ _ _ _ _ _ us hl => match us, hl with | [_, _], _ => rfl)
  have c_is_house : Cl P w K mg base 2 "is_house" (sp_is_house K) := cl_of (ok_pr (k := 1) (fun_of F_is_house) sc_is_house len_is_house (fun cdv A outer s H E hr => d_is_house bl c_is_number  hr) run_is_house) (He.glo_ok X G (c.fact 14 (f := .glo "is_house") rfl)) F_is_house.kp (F_is_house.bindsN fun _ _ _ _ _ _ us hl => match us, hl with | [_], _ => rfl)
  have c_way_of : Cl P w K mg base 2 "way_of" (sp_way_of K) := cl_of (ok_pr (k := 1) (fun_of F_way_of) sc_way_of len_way_of (fun cdv A outer s H E hr => d_way_of bl c_nearest_of  hr) run_way_of) (He.glo_ok X G (c.fact 15 (f := .glo "way_of") rfl)) F_way_of.kp (F_way_of.bindsN fun _ _ _ _ _ _ us hl => match us, hl with | [_, _], _ => rfl)
  have c_middles : Cl P w K mg base 2 "middles" (sp_middles K) := cl_of (ok_prN (k := 1) (fun_of F_middles) sc_middles len_middles (fun cdv A outer s H E hr => d_middles bl c_carried c_sums  hr) run_middles) (He.glo_ok X G (c.fact 16 (f := .glo "middles") rfl)) F_middles.kp (F_middles.bindsN fun _ _ _ _ _ _ us hl => match us, hl with | [_], _ => rfl)
  have c_asked_many : Cl P w K mg base 2 "asked_many" (sp_asked_many K) := cl_of (ok_pr (k := 1) (fun_of F_asked_many) sc_asked_many len_asked_many (fun cdv A outer s H E hr => d_asked_many bl c_is_number  hr) run_asked_many) (He.glo_ok X G (c.fact 17 (f := .glo "asked_many") rfl)) F_asked_many.kp (F_asked_many.bindsN fun _ _ _ _ _ _ us hl => match us, hl with | [_, _], _ => rfl)
  have c_asked_number : Cl P w K mg base 2 "asked_number" (sp_asked_number K) := cl_of (ok_pr (k := 1) (fun_of F_asked_number) sc_asked_number len_asked_number (fun cdv A outer s H E hr => d_asked_number bl c_is_number  hr) run_asked_number) (He.glo_ok X G (c.fact 18 (f := .glo "asked_number") rfl)) F_asked_number.kp (F_asked_number.bindsN fun _ _ _ _ _ _ us hl => match us, hl with | [_], _ => rfl)
  have c_law_bounds : Cl P w K mg base 2 "_law_bounds" (sp_law_bounds K) := cl_of (ok_pr (k := 1) (fun_of F_law_bounds) sc_law_bounds len_law_bounds (fun cdv A outer s H E hr => d_law_bounds bl c_law_one_ways  hr) run_law_bounds) (He.glo_ok X G (c.fact 19 (f := .glo "_law_bounds") rfl)) F_law_bounds.kp (F_law_bounds.bindsN fun _ _ _ _ _ _ us hl => match us, hl with | [_, _, _], _ => rfl)
  have c_asked_road : Cl P w K mg base 3 "asked_road" (sp_asked_road K) := cl_of (ok_pr (k := 2) (fun_of F_asked_road) sc_asked_road len_asked_road (fun cdv A outer s H E hr => d_asked_road bl c_is_house  hr) run_asked_road) (He.glo_ok X G (c.fact 20 (f := .glo "asked_road") rfl)) F_asked_road.kp (F_asked_road.bindsN fun _ _ _ _ _ _ us hl => match us, hl with | [_], _ => rfl)
  have c_are_bounds : Cl P w K mg base 3 "are_bounds" (sp_are_bounds K) := cl_of (ok_pr (k := 2) (fun_of F_are_bounds) sc_are_bounds len_are_bounds (fun cdv A outer s H E hr => d_are_bounds bl c_middles  hr) run_are_bounds) (He.glo_ok X G (c.fact 21 (f := .glo "are_bounds") rfl)) F_are_bounds.kp (F_are_bounds.bindsN fun _ _ _ _ _ _ us hl => match us, hl with | [_, _, _], _ => rfl)
  have c_Best_shows : ClT P w K mg base 4 (He.ga K "Best") "shows" (sp_Best_shows K) := ⟨⟨_, fd_Best_shows, _, He.meth_ok (c.fact 56 (f := .meth "Best" "shows") rfl), ok_prB (k := 3) (fun_of F_Best_shows) sc_Best_shows len_Best_shows (fun cdv A outer s H E hr => d_Best_shows bl c_are_bounds c_are_posts c_way_of  hr) (run_Best_shows co_Best), F_Best_shows.bindsN fun _ _ _ _ _ _ us hl => match us, hl with | [_, _, _], _ => rfl⟩, He.cls_ok (c.fact 46 (f := .cls "Best") rfl)⟩
  have c_Paid_shows : ClT P w K mg base 4 (He.ga K "Paid") "shows" (sp_Paid_shows K) := ⟨⟨_, fd_Paid_shows, _, He.meth_ok (c.fact 58 (f := .meth "Paid" "shows") rfl), ok_prB (k := 3) (fun_of F_Paid_shows) sc_Paid_shows len_Paid_shows (fun cdv A outer s H E hr => d_Paid_shows bl c_are_bounds c_are_posts c_way_of  hr) (run_Paid_shows co_Paid), F_Paid_shows.bindsN fun _ _ _ _ _ _ us hl => match us, hl with | [_, _, _], _ => rfl⟩, He.cls_ok (c.fact 51 (f := .cls "Paid") rfl)⟩
  have c_best : Cl P w K mg base 4 "best" (sp_best K) := cl_of (ok_prO (k := 3) (fun_of F_best) sc_best len_best (fun cdv A outer s H E hr => d_best bl m_Best c_asked_many c_asked_road c_layers c_led c_middles c_posts_by  hr) run_best) (He.glo_ok X G (c.fact 22 (f := .glo "best") rfl)) F_best.kp (F_best.bindsN fun _ _ _ _ _ _ us hl => match us, hl with | [_, _], _ => rfl)
  have c_paying : Cl P w K mg base 4 "paying" (sp_paying K) := cl_of (ok_prO (k := 3) (fun_of F_paying) sc_paying len_paying (fun cdv A outer s H E hr => d_paying bl m_Paid c_asked_number c_asked_road c_led c_middles  hr) run_paying) (He.glo_ok X G (c.fact 23 (f := .glo "paying") rfl)) F_paying.kp (F_paying.bindsN fun _ _ _ _ _ _ us hl => match us, hl with | [_, _], _ => rfl)
  have c_law_best_right : Cl P w K mg base 5 "_law_best_right" (sp_law_best_right K) := cl_of (ok_pr (k := 4) (fun_of F_law_best_right) sc_law_best_right len_law_best_right (fun cdv A outer s H E hr => d_law_best_right bl m_Best c_Best_shows c_law_bounds c_law_rising c_law_says c_law_way  hr) (run_law_best_right co_Best)) (He.glo_ok X G (c.fact 24 (f := .glo "_law_best_right") rfl)) F_law_best_right.kp (F_law_best_right.bindsN fun _ _ _ _ _ _ us hl => match us, hl with | [_, _, _, _, _], _ => rfl)
  have c_law_paid_right : Cl P w K mg base 5 "_law_paid_right" (sp_law_paid_right K) := cl_of (ok_pr (k := 4) (fun_of F_law_paid_right) sc_law_paid_right len_law_paid_right (fun cdv A outer s H E hr => d_law_paid_right bl m_Paid c_Paid_shows c_law_bounds c_law_rising c_law_says c_law_way  hr) (run_law_paid_right co_Paid)) (He.glo_ok X G (c.fact 25 (f := .glo "_law_paid_right") rfl)) F_law_paid_right.kp (F_law_paid_right.bindsN fun _ _ _ _ _ _ us hl => match us, hl with | [_, _, _, _], _ => rfl)
  exact ok_pr (k := 5) (fun_of F_law) sc_law len_law (fun cdv A outer s H E hr => d_law bl m_Best c_Best_shows m_Paid c_Paid_shows c_law_bent c_law_best_right c_law_paid_right c_law_road c_law_says c_best c_paying  hr) (run_law_k06 co_Best co_Paid)
end Ph_k06
open PySem PySem.W PySem.Calls PyProof.Rows
theorem PySem.Challenge.cw_posthouses_k06_answers_by_hand_holds : PySem.Challenge.rw_posthouses_k06_answers_by_hand.Holds := by
  w_on; o_law
  refine HandSHeadRun.head_any (r := OpenLaw.row PySem.Challenge.rw_posthouses_k06_answers_by_hand) (q := view (OpenLaw.row PySem.Challenge.rw_posthouses_k06_answers_by_hand).prog [37]) (H := Ph_k06.hk) (ob := Ph_k06.ob) (M := 4000) (loose := Ph_k06.loose) (d := HandSHeadRun.topDef (OpenLaw.row PySem.Challenge.rw_posthouses_k06_answers_by_hand).prog 37) (kwd := []) Ph_k06.ob_eq
    (by kernel_rfl) (fun s => by kernel_rfl) Ph_k06.run (by kernel_rfl) (by kernel_rfl) (by kernel_rfl) (by rfl) (by first | assumption | decide +kernel) (by decide +kernel) ⟨rfl, rfl, rfl, rfl, rfl, by decide +kernel⟩ ?hw ?hc
  case hw => w_witness2
  case hc =>
    refine L2.walk_ofE (l := PySem.Challenge.rw_posthouses_k06_answers_by_hand) (n := 63) (k := 6) (x := "_law_script") (CX := L2.CX0) rfl (by decide) (by kernel_rfl) ⟨rfl, by decide, by decide⟩ ?F (fun _ _ _ _ z => z)
    intro w mg fa h Y G hmg0
    obtain ⟨K, KX, c, cx⟩ := Y
    have hmg : mg ("law" : PySem.Str) = some (.ref fa) := by
      have e : (HandSHeadRun.topDef (OpenLaw.row PySem.Challenge.rw_posthouses_k06_answers_by_hand).prog 37).name = ("law" : PySem.Str) := by kernel_rfl
      rw [← e]
      exact hmg0
    obtain ⟨fd, hb, hF⟩ := Ph_k06.facts (P := (PySem.Challenge.rw_posthouses_k06_answers_by_hand).prog) (w := w) KX G hmg c cx
    exact ⟨K, fd, Ph.sp_law K, KX, hb, fun H a ns hl _ hS => Ph.law_start hl hS, hF⟩
#print axioms PySem.Challenge.cw_posthouses_k06_answers_by_hand_holds
