import PyProof.Rows.All
import Wide.All
import OpenK.AllK
import Wide.FinOn
import HandS.ForMost
import HandS.Walk
import HandS.Wide
import HandS.Style
import HandS.IsInst
import HandS.Conv
import HandS.RevRange
import KE.KStateDown
import Lean
import HandS.More
import HandS.WordsExc
import HandS.Defaults
import HandS.Head0
import HandS.Head1
import HandS.Head2
import HandS.HeadEnd
import HandS.HeadHook1
import HandS.HeadHook2
import KE.DataMinMax
import HandS.SortKw
import HandS.Exc
import HandS.ExcOwn
import HandS.ExcIs
import HandS.Dict
import PySem.Challenge.RW_posthouses_k07_refused
set_option Elab.async false
set_option linter.all false
set_option maxRecDepth 100000
set_option maxHeartbeats 2000000
namespace Ph
open PySem PySem.Spec L2

/-! ### data in the heap, an empty dict too -/
mutual
/-- v stands for the data d in H (the kit's relation of that name, widened by the empty dict) -/
inductive Dp (K : PySem.W.Frag) (H : Hp) : V → PyData → Prop where
  | non : Dp K H V.non PyData.none
  | bl (c : Bool) : Dp K H (V.bl c) (PyData.bool c)
  | int (n : Int) : Dp K H (V.int n) (PyData.int n)
  | str (z : Str) : Dp K H (V.str z) (PyData.str z)
  | lst {p : Addr} {vs : List V} {es : List PyData} (h : SqL K H p vs) (t : DpAll K H vs es) : Dp K H (V.ref p) (PyData.list es)
  | tup {p : Addr} {vs : List V} {es : List PyData} (h : SqT K H p vs) (t : DpAll K H vs es) : Dp K H (V.ref p) (PyData.tuple es)
  | dct {p : Addr} (h : Rd H p (.dK [])) : Dp K H (V.ref p) (PyData.dict [])
/-- item by item -/
inductive DpAll (K : PySem.W.Frag) (H : Hp) : List V → List PyData → Prop where
  | nil : DpAll K H List.nil List.nil
  | cons {u : V} {vs : List V} {e : PyData} {es : List PyData} (h : Dp K H u e) (t : DpAll K H vs es) : DpAll K H (List.cons u vs) (List.cons e es)
end
mutual
/-- data without dicts are the kit's -/
theorem dp_lay {K : PySem.W.Frag} {H : Hp} : ∀ {v : V} {d : PyData}, Dp K H v d → d.canLay0 = true → L2.Dp K H v d
  | _, _, .non, _ => .non
  | _, _, .bl b, _ => .bl b
  | _, _, .int i, _ => .int i
  | _, _, .str x, _ => .str x
  | _, _, .lst h t, c => .lst h (dpAll_lay t c)
  | _, _, .tup h t, c => .tup h (dpAll_lay t c)
  | _, _, .dct _, c => nomatch c
theorem dpAll_lay {K : PySem.W.Frag} {H : Hp} : ∀ {vs : List V} {ds : List PyData}, DpAll K H vs ds → PyData.canLayAll0 ds = true → L2.DpAll K H vs ds
  | _, _, .nil, _ => .nil
  | _, _, .cons h t, c => by
    have c' : (PyData.canLay0 _ && PyData.canLayAll0 _) = true := c
    rw [Bool.and_eq_true] at c'
    exact .cons (dp_lay h c'.1) (dpAll_lay t c'.2)
end
/-! ### heaps that grow -/
theorem same_upd {H : Hp} {p : Addr} {o : HO} (h : H p = none) : Same H (upd H p o) := fun b x e => by
  rw [upd_ne (ne_of_none e h)]
  exact e
theorem rd_mono {H H' : Hp} {a : Addr} {u : HO} (e : Same H H') (h : Rd H a u) : Rd H' a u := by
  rcases h with h | ⟨o, h⟩
  · exact .inl (e _ _ h)
  · exact .inr ⟨o, e _ _ h⟩
theorem sqL_mono {K : PySem.W.Frag} {H H' : Hp} {a : Addr} {xs : List V} (e : Same H H') (h : SqL K H a xs) : SqL K H' a xs := h.imp (rd_mono e) id
theorem sqT_mono {K : PySem.W.Frag} {H H' : Hp} {a : Addr} {xs : List V} (e : Same H H') (h : SqT K H a xs) : SqT K H' a xs := h.imp (rd_mono e) id
mutual
theorem dp_mono {K : PySem.W.Frag} {H H' : Hp} (e : Same H H') : ∀ {v : V} {d : PyData}, Dp K H v d → Dp K H' v d
  | _, _, .non => .non
  | _, _, .bl b => .bl b
  | _, _, .int i => .int i
  | _, _, .str x => .str x
  | _, _, .lst h t => .lst (sqL_mono e h) (dpAll_mono e t)
  | _, _, .tup h t => .tup (sqT_mono e h) (dpAll_mono e t)
  | _, _, .dct h => .dct (rd_mono e h)
theorem dpAll_mono {K : PySem.W.Frag} {H H' : Hp} (e : Same H H') : ∀ {vs : List V} {ds : List PyData}, DpAll K H vs ds → DpAll K H' vs ds
  | _, _, .nil => .nil
  | _, _, .cons h t => .cons (dp_mono e h) (dpAll_mono e t)
end
section
variable {K : PySem.W.Frag} {H : Hp}
theorem dpAll_len : ∀ {vs : List V} {ds : List PyData}, DpAll K H vs ds → vs.length = ds.length
  | _, _, .nil => rfl
  | _, _, .cons _ t => congrArg (· + 1) (dpAll_len t)
theorem dpAll_get : ∀ {vs : List V} {ds : List PyData} {i : Nat} {d : PyData}, DpAll K H vs ds → ds[i]? = some d → ∃ v, vs[i]? = some v ∧ Dp K H v d
  | _, _, _, _, .nil, e => by simp at e
  | _, _, 0, _, .cons h _, e => by simp at e; subst e; exact ⟨_, rfl, h⟩
  | _, _, i + 1, _, .cons _ t, e => by
    obtain ⟨v, h1, h2⟩ := dpAll_get (i := i) t (by simpa using e)
    exact ⟨v, by simpa using h1, h2⟩
theorem dpAll_getV : ∀ {vs : List V} {ds : List PyData} {i : Nat} {v : V}, DpAll K H vs ds → vs[i]? = some v → ∃ d, ds[i]? = some d ∧ Dp K H v d
  | _, _, _, _, .nil, e => by simp at e
  | _, _, 0, _, .cons h _, e => by simp at e; subst e; exact ⟨_, rfl, h⟩
  | _, _, i + 1, _, .cons _ t, e => by
    obtain ⟨v, h1, h2⟩ := dpAll_getV (i := i) t (by simpa using e)
    exact ⟨v, by simpa using h1, h2⟩
theorem dpAll_app : ∀ {vs us : List V} {ds es : List PyData}, DpAll K H vs ds → DpAll K H us es → DpAll K H (vs ++ us) (ds ++ es)
  | _, _, _, _, .nil, s => s
  | _, _, _, _, .cons h t, s => .cons h (dpAll_app t s)
theorem dpAll_take : ∀ {vs : List V} {ds : List PyData} (n : Nat), DpAll K H vs ds → DpAll K H (vs.take n) (ds.take n)
  | _, _, 0, _ => .nil
  | _, _, _ + 1, .nil => .nil
  | _, _, n + 1, .cons h t => .cons h (dpAll_take n t)
theorem dpAll_drop : ∀ {vs : List V} {ds : List PyData} (n : Nat), DpAll K H vs ds → DpAll K H (vs.drop n) (ds.drop n)
  | _, _, 0, r => r
  | _, _, _ + 1, .nil => .nil
  | _, _, n + 1, .cons _ t => dpAll_drop n t
theorem dpAll_set : ∀ {vs : List V} {ds : List PyData} {v : V} {d : PyData} (i : Nat), DpAll K H vs ds → Dp K H v d → DpAll K H (vs.set i v) (ds.set i d)
  | _, _, _, _, _, .nil, _ => .nil
  | _, _, _, _, 0, .cons _ t, r => .cons r t
  | _, _, _, _, i + 1, .cons h t, r => .cons h (dpAll_set i t r)
theorem dpAll_rev : ∀ {vs : List V} {ds : List PyData}, DpAll K H vs ds → DpAll K H vs.reverse ds.reverse
  | _, _, .nil => .nil
  | _, _, .cons h t => by
    rw [List.reverse_cons, List.reverse_cons]
    exact dpAll_app (dpAll_rev t) (.cons h .nil)
theorem dpAll_ints : ∀ {vs : List V} {ns : List Int}, DpAll K H vs (ns.map PyData.int) → vs = ns.map V.int
  | _, [], h => by cases h; rfl
  | _, n :: ns, h => by
    cases h with
    | cons h t =>
      cases h
      rw [dpAll_ints t]
      rfl
theorem ints_dpAll : ∀ (ns : List Int), DpAll K H (ns.map V.int) (ns.map PyData.int)
  | [] => .nil
  | n :: ns => .cons (.int n) (ints_dpAll ns)
theorem dpAll_bls : ∀ {vs : List V} {ns : List Bool}, DpAll K H vs (ns.map PyData.bool) → vs = ns.map V.bl
  | _, [], h => by cases h; rfl
  | _, n :: ns, h => by
    cases h with
    | cons h t =>
      cases h
      rw [dpAll_bls t]
      rfl
end

/-- the known part G grew to G', the heap H to H': all new things are new -/
structure Nu (G H G' H' : Hp) : Prop where
  g : Same G G'
  h : Same H H'
  s : Same G' H'
  n : ∀ b, G b = none → H b ≠ none → G' b = none
theorem Nu.refl {G H : Hp} (s : Same G H) : Nu G H G H := ⟨Same.refl _, Same.refl _, s, fun _ h _ => h⟩
theorem some_ne {H : Hp} {b : Addr} {o : HO} (h : H b = some o) : H b ≠ none := by rw [h]; exact fun z => nomatch z
theorem ne_some {H : Hp} {b : Addr} (h : H b ≠ none) : ∃ o, H b = some o := by
  cases e : H b with
  | none => exact absurd e h
  | some o => exact ⟨o, rfl⟩
theorem Nu.trans {G H G1 H1 G2 H2 : Hp} (a : Nu G H G1 H1) (b : Nu G1 H1 G2 H2) : Nu G H G2 H2 :=
  ⟨a.g.trans b.g, a.h.trans b.h, b.s, fun c h1 h2 => b.n c (a.n c h1 h2) (let ⟨_, e⟩ := ne_some h2; some_ne (a.h _ _ e))⟩
/-- a new object is laid and known -/
theorem Nu.new {G H : Hp} {p : Addr} {o : HO} (s : Same G H) (hp : H p = none) : Nu G H (upd G p o) (upd H p o) := by
  have hg : G p = none := s.free hp
  refine ⟨same_upd hg, same_upd hp, fun b u e => ?_, fun b h1 h2 => ?_⟩
  · by_cases hb : b = p
    · subst hb; rw [upd_same] at e ⊢; exact e
    · rw [upd_ne hb] at e ⊢; exact s _ _ e
  · have hb : b ≠ p := fun z => h2 (by rw [z]; exact hp)
    rw [upd_ne hb]; exact h1
/-- a new object is laid, not known -/
theorem Nu.laid {G H : Hp} {p : Addr} {o : HO} (s : Same G H) (hp : H p = none) : Nu G H G (upd H p o) :=
  ⟨Same.refl _, same_upd hp, s.trans (same_upd hp), fun _ h _ => h⟩
/-- what is there becomes known -/
theorem Nu.know {G H G' H' : Hp} {p : Addr} {o : HO} (n : Nu G H G' H') (hg : G' p = none) (hp : H p = none) (ho : H' p = some o) : Nu G H (upd G' p o) H' := by
  refine ⟨n.g.trans (same_upd hg), n.h, fun b u e => ?_, fun b h1 h2 => ?_⟩
  · by_cases hb : b = p
    · subst hb; rw [upd_same] at e; rw [ho]; exact e
    · rw [upd_ne hb] at e; exact n.s _ _ e
  · have hb : b ≠ p := fun z => h2 (by rw [z]; exact hp)
    rw [upd_ne hb]; exact n.n b h1 h2

/-! ### what the slots hold -/
inductive Sl where
  | no
  | d (x : PyData)
  /-- a list at p of one's own -/
  | m (p : Addr) (ds : List PyData)
  /-- an answer at x, its lists at p and q -/
  | ob (x C p q : Addr) (ps bs : List Int) (fee : Option Int)
  /-- a list of one's own of two lists of one's own -/
  | m2 (h p q : Addr) (as bs : List Int)
  /-- an answer that is known -/
  | od (C : Addr) (ps bs : List Int) (fee : Option Int)
def flds (p q : Addr) : Option Int → List (Str × V)
  | none => [("posts", .ref p), ("bounds", .ref q)]
  | some i => [("posts", .ref p), ("bounds", .ref q), ("fee", .int i)]
def Own (K : PySem.W.Frag) (G H : Hp) (o : Option V) : Sl → List Addr → Prop
  | .no, f => f = []
  | .d x, f => f = [] ∧ ∃ v, o = some v ∧ Dp K G v x
  | .m p ds, f => f = [p] ∧ o = some (.ref p) ∧ ∃ vs, H p = some (.lst vs) ∧ DpAll K G vs ds
  | .ob x C p q ps bs fee, f => ∃ dx, f = [x, dx, p, q] ∧ o = some (.ref x) ∧ H x = some (.ins C dx (flds p q fee)) ∧ H dx = some (.own x) ∧ H p = some (.lst (ps.map V.int)) ∧ H q = some (.lst (bs.map V.int)) ∧ p ≠ q
  | .m2 h p q as bs, f => f = [h, p, q] ∧ o = some (.ref h) ∧ H h = some (.lst [.ref p, .ref q]) ∧ H p = some (.lst (as.map V.int)) ∧ H q = some (.lst (bs.map V.int)) ∧ p ≠ q ∧ h ≠ p ∧ h ≠ q
  | .od C ps bs fee, f => f = [] ∧ ∃ x dx p q, o = some (.ref x) ∧ G x = some (.ins C dx (flds p q fee)) ∧ G p = some (.lst (ps.map V.int)) ∧ G q = some (.lst (bs.map V.int))
theorem Own.up {K : PySem.W.Frag} {G H G' H' : Hp} {o : Option V} : ∀ {s : Sl} {f : List Addr}, Own K G H o s f → Same G G' → (∀ b ∈ f, H' b = H b) → Own K G' H' o s f
  | .no, _, h, _, _ => h
  | .d _, _, ⟨h, v, e, p⟩, g, _ => ⟨h, v, e, dp_mono g p⟩
  | .m p ds, _, ⟨h, e, vs, hp, t⟩, g, k => ⟨h, e, vs, by rw [k p (by rw [h]; simp)]; exact hp, dpAll_mono g t⟩
  | .ob x C p q ps bs fee, _, ⟨dx, h, e, h1, h2, h3, h4, h5⟩, g, k =>
    ⟨dx, h, e, by rw [k x (by rw [h]; simp)]; exact h1, by rw [k dx (by rw [h]; simp)]; exact h2, by rw [k p (by rw [h]; simp)]; exact h3, by rw [k q (by rw [h]; simp)]; exact h4, h5⟩
  | .m2 h p q as bs, _, ⟨e0, e, h1, h2, h3, h4⟩, g, k => ⟨e0, e, by rw [k h (by rw [e0]; simp)]; exact h1, by rw [k p (by rw [e0]; simp)]; exact h2, by rw [k q (by rw [e0]; simp)]; exact h3, h4⟩
  | .od C ps bs fee, _, ⟨h, x, dx, p, q, e, h1, h2, h3⟩, g, k => ⟨h, x, dx, p, q, e, g _ _ h1, g _ _ h2, g _ _ h3⟩
structure Bs where
  Gb : Hp
  G0 : Hp
  H0 : Hp
structure GoodAt (K : PySem.W.Frag) (B : Bs) (δ : List Sl) (σ : St) (H G : Hp) (F : Nat → List Addr) : Prop where
  nu : Nu B.G0 B.H0 G H
  base : Same B.Gb G
  len : σ.length = δ.length
  own : ∀ i s, δ[i]? = some s → ∃ o, σ[i]? = some o ∧ Own K G H o s (F i)
  sep : ∀ i j b, i < δ.length → j < δ.length → b ∈ F i → b ∈ F j → i = j
  frs : ∀ i b, i < δ.length → b ∈ F i → G b = none ∧ B.H0 b = none ∧ H b ≠ none
def Good (K : PySem.W.Frag) (B : Bs) (δ : List Sl) (σ : St) (H : Hp) : Prop := ∃ G F, GoodAt K B δ σ H G F
section
variable {K : PySem.W.Frag} {B : Bs} {δ : List Sl} {σ : St} {H G H' G' : Hp} {F : Nat → List Addr}
theorem GoodAt.good (g : GoodAt K B δ σ H G F) : Good K B δ σ H := ⟨G, F, g⟩
theorem GoodAt.up (g : GoodAt K B δ σ H G F) (n : Nu G H G' H') : GoodAt K B δ σ H' G' F where
  nu := g.nu.trans n
  base := g.base.trans n.g
  len := g.len
  own := fun i s e => by
    obtain ⟨o, h1, h2⟩ := g.own i s e
    refine ⟨o, h1, h2.up n.g fun b hb => ?_⟩
    have hi : i < δ.length := (List.getElem?_eq_some_iff.mp e).1
    obtain ⟨u, q⟩ := ne_some (g.frs i b hi hb).2.2
    rw [q, n.h _ _ q]
  sep := g.sep
  frs := fun i b hi hb => by
    obtain ⟨h1, h2, h3⟩ := g.frs i b hi hb
    obtain ⟨u, q⟩ := ne_some h3
    exact ⟨n.n b h1 h3, h2, some_ne (n.h _ _ q)⟩
theorem GoodAt.put {i : Nat} {v : V} {s : Sl} {f : List Addr} (g : GoodAt K B δ σ H G F) (h : Own K G H (some v) s f)
    (hf : ∀ b ∈ f, G b = none ∧ B.H0 b = none ∧ H b ≠ none ∧ ∀ j, j < δ.length → j ≠ i → b ∉ F j) :
    GoodAt K B (δ.set i s) (σ.set i (some v)) H G (fun j => if j = i then f else F j) where
  nu := g.nu
  base := g.base
  len := by rw [List.length_set, List.length_set]; exact g.len
  own := fun j t e => by
    by_cases hj : j = i
    · subst hj
      have hl : j < (δ.set j s).length := (List.getElem?_eq_some_iff.mp e).1
      rw [List.length_set] at hl
      rw [List.getElem?_set_self hl] at e
      cases e
      refine ⟨some v, List.getElem?_set_self (by rw [g.len]; exact hl), ?_⟩
      rw [if_pos rfl]; exact h
    · rw [List.getElem?_set_ne (fun z => hj z.symm)] at e
      obtain ⟨o, h1, h2⟩ := g.own j t e
      refine ⟨o, by rw [List.getElem?_set_ne (fun z => hj z.symm)]; exact h1, ?_⟩
      rw [if_neg hj]; exact h2
  sep := fun j k b hj hk h1 h2 => by
    rw [List.length_set] at hj hk
    by_cases ej : j = i
    · by_cases ek : k = i
      · rw [ej, ek]
      · rw [if_pos ej] at h1; rw [if_neg ek] at h2
        exact absurd h2 ((hf b h1).2.2.2 k hk ek)
    · by_cases ek : k = i
      · rw [if_neg ej] at h1; rw [if_pos ek] at h2
        exact absurd h1 ((hf b h2).2.2.2 j hj ej)
      · rw [if_neg ej] at h1; rw [if_neg ek] at h2
        exact g.sep j k b hj hk h1 h2
  frs := fun j b hj hb => by
    rw [List.length_set] at hj
    by_cases ej : j = i
    · rw [if_pos ej] at hb
      exact ⟨(hf b hb).1, (hf b hb).2.1, (hf b hb).2.2.1⟩
    · rw [if_neg ej] at hb
      exact g.frs j b hj hb
theorem GoodAt.putD {i : Nat} {v : V} {d : PyData} (g : GoodAt K B δ σ H G F) (h : Dp K G v d) : Good K B (δ.set i (.d d)) (σ.set i (some v)) H :=
  ⟨_, _, g.put (s := .d d) (f := []) ⟨rfl, v, rfl, h⟩ fun _ z => nomatch z⟩
theorem Good.base (g : Good K B δ σ H) {Gb : Hp} (h : Same Gb B.Gb) : Good K ⟨Gb, B.G0, B.H0⟩ δ σ H :=
  let ⟨G, F, q⟩ := g
  ⟨G, F, ⟨q.nu, h.trans q.base, q.len, q.own, q.sep, q.frs⟩⟩
theorem GoodAt.baseTo (q : GoodAt K B δ σ H G F) : GoodAt K ⟨G, B.G0, B.H0⟩ δ σ H G F := ⟨q.nu, Same.refl _, q.len, q.own, q.sep, q.frs⟩
end
/-- slots forgotten -/
inductive WkL : List Sl → List Sl → Prop where
  | nil : WkL [] []
  | same {s : Sl} {a b : List Sl} : WkL a b → WkL (s :: a) (s :: b)
  | drop {s : Sl} {a b : List Sl} : WkL a b → WkL (s :: a) (.no :: b)
theorem WkL.len : ∀ {a b : List Sl}, WkL a b → a.length = b.length
  | _, _, .nil => rfl
  | _, _, .same h => congrArg (· + 1) h.len
  | _, _, .drop h => congrArg (· + 1) h.len
theorem WkL.get : ∀ {a b : List Sl}, WkL a b → ∀ (i : Nat) (s : Sl), b[i]? = some s → s = .no ∨ a[i]? = some s
  | _, _, .nil, _, _, e => by simp at e
  | _, _, .same _, 0, _, e => .inr (by simpa using e)
  | _, _, .drop _, 0, _, e => .inl (by simp at e; exact e.symm)
  | _, _, .same h, i + 1, s, e => by simpa using h.get i s (by simpa using e)
  | _, _, .drop h, i + 1, s, e => by simpa using h.get i s (by simpa using e)
theorem WkL.refl : ∀ a : List Sl, WkL a a
  | [] => .nil
  | _ :: a => .same (WkL.refl a)
theorem Good.weak {K : PySem.W.Frag} {B : Bs} {δ δ' : List Sl} {σ : St} {H : Hp} (w : WkL δ δ') (g : Good K B δ σ H) : Good K B δ' σ H := by
  obtain ⟨G, F, q⟩ := g
  refine ⟨G, fun i => match δ'[i]? with | some .no => [] | _ => F i, q.nu, q.base, q.len.trans w.len, fun i s e => ?_, fun i j b hi hj h1 h2 => ?_, fun i b hi hb => ?_⟩
  · rcases w.get i s e with z | z
    · subst z
      have hi : i < σ.length := by rw [q.len, w.len]; exact (List.getElem?_eq_some_iff.mp e).1
      refine ⟨σ[i], by simp [hi], ?_⟩
      simp only [e]
      rfl
    · obtain ⟨o, h1, h2⟩ := q.own i s z
      refine ⟨o, h1, ?_⟩
      cases s with
      | no => simp only [e]; rfl
      | d x => simp only [e]; exact h2
      | m p ds => simp only [e]; exact h2
      | ob x C p q ps bs fee => simp only [e]; exact h2
      | m2 h p q as bs => simp only [e]; exact h2
      | od C ps bs fee => simp only [e]; exact h2
  · have k1 : b ∈ F i := by
      split at h1
      · cases h1
      · exact h1
    have k2 : b ∈ F j := by
      split at h2
      · cases h2
      · exact h2
    exact q.sep i j b (by rw [w.len]; exact hi) (by rw [w.len]; exact hj) k1 k2
  · have k1 : b ∈ F i := by
      split at hb
      · cases hb
      · exact hb
    exact q.frs i b (by rw [w.len]; exact hi) k1
theorem good_start {K : PySem.W.Frag} {G H : Hp} {N : List Str} {vs : List V} {ds : List PyData} (s : Same G H) (h : DpAll K G vs ds) :
    Good K ⟨G, G, H⟩ (ds.map Sl.d ++ List.replicate (N.length - ds.length) Sl.no) (L2.start N vs) H := by
  have hl := dpAll_len h
  refine ⟨G, fun _ => [], Nu.refl s, Same.refl _, ?_, fun i t e => ?_, (fun _ _ _ _ _ z => nomatch z), (fun _ _ _ z => nomatch z)⟩
  · unfold L2.start
    simp [hl]
  · unfold L2.start
    by_cases hi : i < ds.length
    · rw [List.getElem?_append_left (by simpa using hi)] at e
      rw [List.getElem?_map, List.getElem?_eq_getElem hi] at e
      cases e
      obtain ⟨v, h1, h2⟩ := dpAll_get h (List.getElem?_eq_getElem hi)
      refine ⟨some v, ?_, rfl, v, rfl, h2⟩
      rw [List.getElem?_append_left (by simpa [hl] using hi), List.getElem?_map, h1]
      rfl
    · rw [List.getElem?_append_right (by simpa using hi)] at e
      rw [List.getElem?_replicate] at e
      split at e
      · rename_i hk
        cases e
        refine ⟨none, ?_, rfl⟩
        rw [List.getElem?_append_right (by simpa [hl] using hi), List.getElem?_replicate, if_pos ?_]
        simpa [hl] using hk
      · cases e
end Ph

set_option Elab.async false
set_option linter.all false
set_option maxRecDepth 100000
set_option maxHeartbeats 2000000
namespace Ph
open PySem PySem.Spec L2

/-! ### what an expression gives -/
section
variable (K : PySem.W.Frag)
/-- data, known -/
def EvD (te : TE) (δ : List Sl) (d : PyData) : Prop := ∀ B σ H G F, GoodAt K B δ σ H G F → ∀ Q : VK, (∀ v G' H', Nu G H G' H' → Dp K G' v d → Q v H') → te σ H Q
/-- data that may be read now -/
def EvR (te : TE) (δ : List Sl) (d : PyData) : Prop := ∀ B σ H G F, GoodAt K B δ σ H G F → ∀ Q : VK, (∀ v G' H', Nu G H G' H' → Dp K H' v d → Q v H') → te σ H Q
/-- a list that may be read now, its items known -/
def RdL (G H : Hp) (v : V) (ds : List PyData) : Prop := ∃ p vs, v = .ref p ∧ SqL K H p vs ∧ DpAll K G vs ds
def EvL (te : TE) (δ : List Sl) (ds : List PyData) : Prop := ∀ B σ H G F, GoodAt K B δ σ H G F → ∀ Q : VK, (∀ v G' H', Nu G H G' H' → RdL K G' H' v ds → Q v H') → te σ H Q
/-- a new list -/
def EvN (te : TE) (δ : List Sl) (ds : List PyData) : Prop := ∀ B σ H G F, GoodAt K B δ σ H G F → ∀ Q : VK, (∀ p vs G' H', Nu G H G' H' → G' p = none → H p = none → H' p = some (.lst vs) → DpAll K G' vs ds → Q (.ref p) H') → te σ H Q
def EvA (ta : TA) (δ : List Sl) (ds : List PyData) : Prop := ∀ B σ H G F, GoodAt K B δ σ H G F → ∀ Q : List V → Hp → Prop, (∀ vs G' H', Nu G H G' H' → DpAll K G' vs ds → Q vs H') → ta σ H Q
def EvAR (ta : TA) (δ : List Sl) (ds : List PyData) : Prop := ∀ B σ H G F, GoodAt K B δ σ H G F → ∀ Q : List V → Hp → Prop, (∀ vs G' H', Nu G H G' H' → DpAll K H' vs ds → Q vs H') → ta σ H Q
def EvT (tt : TT) (δ : List Sl) (b : Bool) : Prop := ∀ B σ H G F, GoodAt K B δ σ H G F → ∀ Q : Bool → Hp → Prop, (∀ G' H', Nu G H G' H' → Q b H') → tt σ H Q
def EvO (to : TO) (δ : List Sl) (o : Option Int) : Prop := ∀ B σ H G F, GoodAt K B δ σ H G F → ∀ Q : Option Int → Hp → Prop, (∀ G' H', Nu G H G' H' → Q o H') → to σ H Q
def RvD (r : R2) (d e f : PyData) : Prop := ∀ G H x y, Same G H → Dp K G x d → Dp K G y e → ∀ Q : VK, (∀ z G' H', Nu G H G' H' → Dp K G' z f → Q z H') → r x y H Q
/-- the value of a scalar -/
def sv : PyData → Option V
  | .none => some .non
  | .bool b => some (.bl b)
  | .int i => some (.int i)
  | .str x => some (.str x)
  | _ => none
end
section
variable {K : PySem.W.Frag} {δ : List Sl} {ta tb tc te : TE} {t u : TT} {d e f : PyData} {ds es : List PyData} {i j : Int} {r r' : R2}
theorem sv_dp {G H : Hp} {v x : V} (h : Dp K G v d) (s : sv d = some x) : v = x ∧ Dp K H v d := by
  cases h with
  | non => exact ⟨Option.some.inj s, .non⟩
  | bl b => exact ⟨Option.some.inj s, .bl b⟩
  | int i => exact ⟨Option.some.inj s, .int i⟩
  | str x => exact ⟨Option.some.inj s, .str x⟩
  | lst a b => cases s
  | tup a b => cases s
  | dct a => cases s
theorem shaped_lay {d : PyData} (h : SeqAt.shaped d = true) : d.canLay0 = true := by
  unfold SeqAt.shaped at h
  rw [Bool.and_eq_true] at h
  exact h.1
/-! ### from one kind to another -/
theorem evr_d (h : EvD K te δ d) : EvR K te δ d := fun B σ H G F g Q q => h B σ H G F g Q fun v G' H' n p => q v G' H' n (dp_mono n.s p)
theorem evl_d (h : EvD K te δ (.list ds)) : EvL K te δ ds := fun B σ H G F g Q q => h B σ H G F g Q fun v G' H' n p => by
  cases p with
  | lst a b => exact q _ G' H' n ⟨_, _, rfl, sqL_mono n.s a, b⟩
theorem evr_l (h : EvL K te δ ds) : EvR K te δ (.list ds) := fun B σ H G F g Q q => h B σ H G F g Q fun v G' H' n ⟨p, vs, e, a, b⟩ => by
  subst e
  exact q _ G' H' n (.lst a (dpAll_mono n.s b))
theorem evl_n (h : EvN K te δ ds) : EvL K te δ ds := fun B σ H G F g Q q => h B σ H G F g Q fun p vs G' H' n _ _ e b => q _ G' H' n ⟨p, vs, rfl, .inl (.inl e), b⟩
theorem evd_n (h : EvN K te δ ds) : EvD K te δ (.list ds) := fun B σ H G F g Q q => h B σ H G F g Q fun p vs G' H' n h1 h2 e b =>
  q _ _ H' (n.know h1 h2 e) (.lst (.inl (.inl upd_same)) (dpAll_mono (same_upd h1) b))
theorem evr_n (h : EvN K te δ ds) : EvR K te δ (.list ds) := evr_l (evl_n h)
theorem evd_is (h : EvD K te δ d) (q : d = e) : EvD K te δ e := q ▸ h
theorem evr_is (h : EvR K te δ d) (q : d = e) : EvR K te δ e := q ▸ h
theorem evl_is (h : EvL K te δ ds) (q : ds = es) : EvL K te δ es := q ▸ h
theorem evn_is (h : EvN K te δ ds) (q : ds = es) : EvN K te δ es := q ▸ h
theorem evt_is {a b : Bool} (h : EvT K t δ a) (q : a = b) : EvT K t δ b := q ▸ h
/-- a scalar that may be read is known -/
theorem evd_r {x : V} (h : EvR K te δ d) (s : sv d = some x) : EvD K te δ d := fun B σ H G F g Q q => h B σ H G F g Q fun v G' H' n p => q v G' H' n (sv_dp p s).2
theorem evd_at {d : PyData} {n : Nat} (h : δ[n]? = some (.d d)) : EvD K (tVar n) δ d := fun B σ H G F g Q q => by
  obtain ⟨o, h1, _, v, h2, h3⟩ := g.own n _ h
  subst h2
  exact ⟨v, h1, q v G H (Nu.refl g.nu.s) h3⟩
theorem evl_at {n : Nat} {p : Addr} (h : δ[n]? = some (.m p ds)) : EvL K (tVar n) δ ds := fun B σ H G F g Q q => by
  obtain ⟨o, h1, _, h2, vs, h3, h4⟩ := g.own n _ h
  subst h2
  exact ⟨.ref p, h1, q _ G H (Nu.refl g.nu.s) ⟨p, vs, rfl, .inl (.inl h3), h4⟩⟩
theorem evd_int {n : Int} : EvD K (tC (.int n)) δ (.int n) := fun B σ H G F g Q q => q _ G H (Nu.refl g.nu.s) (.int n)
theorem evd_bl {b : Bool} : EvD K (tC (.bl b)) δ (.bool b) := fun B σ H G F g Q q => q _ G H (Nu.refl g.nu.s) (.bl b)
theorem evd_non : EvD K (tC .non) δ .none := fun B σ H G F g Q q => q _ G H (Nu.refl g.nu.s) .non
theorem evd_str {x : Str} : EvD K (tC (.str x)) δ (.str x) := fun B σ H G F g Q q => q _ G H (Nu.refl g.nu.s) (.str x)
/-! ### arguments -/
theorem ea_nil : EvA K tNil δ [] := fun B σ H G F g Q q => q _ G H (Nu.refl g.nu.s) .nil
theorem ea_cons {tr : TA} (h : EvD K te δ d) (hr : EvA K tr δ ds) : EvA K (tCons te tr) δ (d :: ds) := fun B σ H G F g Q q =>
  h B σ H G F g _ fun v G1 H1 n1 p => hr B σ H1 G1 F (g.up n1) _ fun vs G2 H2 n2 ps => q _ G2 H2 (n1.trans n2) (.cons (dp_mono n2.g p) ps)
theorem ear_nil : EvAR K tNil δ [] := fun B σ H G F g Q q => q _ G H (Nu.refl g.nu.s) .nil
theorem ear_cons {tr : TA} (h : EvR K te δ d) (hr : EvAR K tr δ ds) : EvAR K (tCons te tr) δ (d :: ds) := fun B σ H G F g Q q =>
  h B σ H G F g _ fun v G1 H1 n1 p => hr B σ H1 G1 F (g.up n1) _ fun vs G2 H2 n2 ps => q _ G2 H2 (n1.trans n2) (.cons (dp_mono n2.h p) ps)
theorem ear_a {ta : TA} (h : EvA K ta δ ds) : EvAR K ta δ ds := fun B σ H G F g Q q => h B σ H G F g Q fun vs G' H' n p => q vs G' H' n (dpAll_mono n.s p)
/-! ### operators -/
theorem evd_op (ha : EvD K ta δ d) (hb : EvD K tb δ e) (hr : RvD K r d e f) : EvD K (tOp r ta tb) δ f := fun B σ H G F g Q q =>
  ha B σ H G F g _ fun x G1 H1 n1 p => hb B σ H1 G1 F (g.up n1) _ fun y G2 H2 n2 p2 => hr G2 H2 x y n2.s (dp_mono n2.g p) p2 Q fun z G3 H3 n3 p3 => q z G3 H3 ((n1.trans n2).trans n3) p3
def oAdd : R2 := rI0 fun i j => .int (i + j)
def oSub : R2 := rI0 fun i j => .int (i - j)
def oMul : R2 := rI CMul fun i j => .int (i * j)
def oMulW : R2 := rI CMulW fun i j => .int (i * j)
def oDiv : R2 := rI CDiv fun i j => .int (i / j)
def oMod : R2 := rI (fun _ j => 0 < j) fun i j => .int (i % j)
def oPow : R2 := rI CPow fun i j => .int (i ^ j.toNat)
def oLt : R2 := rI0 fun i j => .bl (decide (i < j))
def oLe : R2 := rI0 fun i j => .bl (decide (i ≤ j))
def oGt : R2 := rI0 fun i j => .bl (decide (j < i))
def oGe : R2 := rI0 fun i j => .bl (decide (j ≤ i))
def oEqI : R2 := rEq
def oNeI : R2 := rNe
def oNeg : V → Hp → VK → Prop := rU fun i => .int (-i)
theorem rvd_int {g : Int → Int → Int} : RvD K (rI0 fun i j => .int (g i j)) (.int i) (.int j) (.int (g i j)) := fun G H x y s hx hy Q q => by
  cases hx; cases hy
  exact ⟨i, j, rfl, rfl, q _ G H (Nu.refl s) (.int _)⟩
theorem rvd_intC {C : Int → Int → Prop} {g : Int → Int → Int} (hc : C i j) : RvD K (rI C fun i j => .int (g i j)) (.int i) (.int j) (.int (g i j)) := fun G H x y s hx hy Q q => by
  cases hx; cases hy
  exact ⟨i, j, rfl, rfl, hc, q _ G H (Nu.refl s) (.int _)⟩
theorem rvd_bool {g : Int → Int → Bool} : RvD K (rI0 fun i j => .bl (g i j)) (.int i) (.int j) (.bool (g i j)) := fun G H x y s hx hy Q q => by
  cases hx; cases hy
  exact ⟨i, j, rfl, rfl, q _ G H (Nu.refl s) (.bl _)⟩
theorem evd_add (ha : EvD K ta δ (.int i)) (hb : EvD K tb δ (.int j)) : EvD K (tOp oAdd ta tb) δ (.int (i + j)) := evd_op ha hb rvd_int
theorem evd_sub (ha : EvD K ta δ (.int i)) (hb : EvD K tb δ (.int j)) : EvD K (tOp oSub ta tb) δ (.int (i - j)) := evd_op ha hb rvd_int
theorem evd_mul (ha : EvD K ta δ (.int i)) (hb : EvD K tb δ (.int j)) (hc : CMul i j) : EvD K (tOp oMul ta tb) δ (.int (i * j)) := evd_op ha hb (rvd_intC hc)
theorem evd_mulW (ha : EvD K ta δ (.int i)) (hb : EvD K tb δ (.int j)) (hc : CMulW i j) : EvD K (tOp oMulW ta tb) δ (.int (i * j)) := evd_op ha hb (rvd_intC hc)
theorem evd_div (ha : EvD K ta δ (.int i)) (hb : EvD K tb δ (.int j)) (hc : CDiv i j) : EvD K (tOp oDiv ta tb) δ (.int (i / j)) := evd_op ha hb (rvd_intC hc)
theorem evd_mod (ha : EvD K ta δ (.int i)) (hb : EvD K tb δ (.int j)) (hc : 0 < j) : EvD K (tOp oMod ta tb) δ (.int (i % j)) := evd_op ha hb (rvd_intC (C := fun _ j => 0 < j) hc)
theorem evd_pow (ha : EvD K ta δ (.int i)) (hb : EvD K tb δ (.int j)) (hc : CPow i j) : EvD K (tOp oPow ta tb) δ (.int (i ^ j.toNat)) := evd_op ha hb (rvd_intC hc)
theorem evd_lt (ha : EvD K ta δ (.int i)) (hb : EvD K tb δ (.int j)) : EvD K (tOp oLt ta tb) δ (.bool (decide (i < j))) := evd_op ha hb rvd_bool
theorem evd_le (ha : EvD K ta δ (.int i)) (hb : EvD K tb δ (.int j)) : EvD K (tOp oLe ta tb) δ (.bool (decide (i ≤ j))) := evd_op ha hb rvd_bool
theorem evd_gt (ha : EvD K ta δ (.int i)) (hb : EvD K tb δ (.int j)) : EvD K (tOp oGt ta tb) δ (.bool (decide (j < i))) := evd_op ha hb rvd_bool
theorem evd_ge (ha : EvD K ta δ (.int i)) (hb : EvD K tb δ (.int j)) : EvD K (tOp oGe ta tb) δ (.bool (decide (j ≤ i))) := evd_op ha hb rvd_bool
theorem evd_eqI (ha : EvD K ta δ (.int i)) (hb : EvD K tb δ (.int j)) : EvD K (tOp oEqI ta tb) δ (.bool (decide (i = j))) := evd_op ha hb fun G H x y s hx hy Q q => by
  cases hx; cases hy
  refine ⟨rfl, q _ G H (Nu.refl s) ?_⟩
  have e : decide (V.int i = V.int j) = decide (i = j) := by
    by_cases h : i = j
    · rw [decide_eq_true h, h, decide_eq_true rfl]
    · rw [decide_eq_false h, decide_eq_false fun z => h (V.int.inj z)]
  rw [e]
  exact .bl _
theorem evd_neI (ha : EvD K ta δ (.int i)) (hb : EvD K tb δ (.int j)) : EvD K (tOp oNeI ta tb) δ (.bool (!decide (i = j))) := evd_op ha hb fun G H x y s hx hy Q q => by
  cases hx; cases hy
  refine ⟨rfl, q _ G H (Nu.refl s) ?_⟩
  have e : decide (V.int i = V.int j) = decide (i = j) := by
    by_cases h : i = j
    · rw [decide_eq_true h, h, decide_eq_true rfl]
    · rw [decide_eq_false h, decide_eq_false fun z => h (V.int.inj z)]
  rw [e]
  exact .bl _
/-- bools, by == -/
theorem evd_eqB {a b : Bool} (ha : EvD K ta δ (.bool a)) (hb : EvD K tb δ (.bool b)) : EvD K (tOp oEqI ta tb) δ (.bool (a == b)) := evd_op ha hb fun G H x y s hx hy Q q => by
  cases hx; cases hy
  refine ⟨rfl, q _ G H (Nu.refl s) ?_⟩
  have e : decide (V.bl a = V.bl b) = (a == b) := by cases a <;> cases b <;> rfl
  rw [e]
  exact .bl _
theorem evd_neB {a b : Bool} (ha : EvD K ta δ (.bool a)) (hb : EvD K tb δ (.bool b)) : EvD K (tOp oNeI ta tb) δ (.bool (a != b)) := evd_op ha hb fun G H x y s hx hy Q q => by
  cases hx; cases hy
  refine ⟨rfl, q _ G H (Nu.refl s) ?_⟩
  have e : (!decide (V.bl a = V.bl b)) = (a != b) := by cases a <;> cases b <;> rfl
  rw [e]
  exact .bl _
def oIsB : R2 := rIsB
def oNotB : R2 := rNotB
theorem evd_isB {a b : Bool} (ha : EvD K ta δ (.bool a)) (hb : EvD K tb δ (.bool b)) : EvD K (tOp oIsB ta tb) δ (.bool (a == b)) := evd_op ha hb fun G H x y s hx hy Q q => by
  cases hx; cases hy
  refine ⟨a, b, rfl, rfl, q _ G H (Nu.refl s) ?_⟩
  have e : decide (a = b) = (a == b) := by cases a <;> cases b <;> rfl
  rw [e]
  exact .bl _
theorem evd_notB {a b : Bool} (ha : EvD K ta δ (.bool a)) (hb : EvD K tb δ (.bool b)) : EvD K (tOp oNotB ta tb) δ (.bool (a != b)) := evd_op ha hb fun G H x y s hx hy Q q => by
  cases hx; cases hy
  refine ⟨a, b, rfl, rfl, q _ G H (Nu.refl s) ?_⟩
  have e : (!decide (a = b)) = (a != b) := by cases a <;> cases b <;> rfl
  rw [e]
  exact .bl _
theorem evd_neg (ha : EvD K ta δ (.int i)) : EvD K (tUn oNeg ta) δ (.int (-i)) := fun B σ H G F g Q q => ha B σ H G F g _ fun x G1 H1 n1 p => by
  cases p
  exact ⟨i, rfl, q _ G1 H1 n1 (.int _)⟩
/-! ### == of data -/
def oEqD (K : PySem.W.Frag) : R2 := rEqD K
def oNeD (K : PySem.W.Frag) : R2 := rNeD K
theorem evd_eqD (ha : EvR K ta δ d) (hb : EvR K tb δ e) (sd : SeqAt.shaped d = true) (se : SeqAt.shaped e = true) : EvD K (tOp (oEqD K) ta tb) δ (.bool (PyData.eqv d e)) := fun B σ H G F g Q q =>
  ha B σ H G F g _ fun x G1 H1 n1 p => hb B σ H1 G1 F (g.up n1) _ fun y G2 H2 n2 p2 => ⟨d, e, dp_lay (dp_mono n2.h p) (shaped_lay sd), dp_lay p2 (shaped_lay se), sd, se, q _ G2 H2 (n1.trans n2) (.bl _)⟩
theorem evd_neD (ha : EvR K ta δ d) (hb : EvR K tb δ e) (sd : SeqAt.shaped d = true) (se : SeqAt.shaped e = true) : EvD K (tOp (oNeD K) ta tb) δ (.bool (!PyData.eqv d e)) := fun B σ H G F g Q q =>
  ha B σ H G F g _ fun x G1 H1 n1 p => hb B σ H1 G1 F (g.up n1) _ fun y G2 H2 n2 p2 => ⟨d, e, dp_lay (dp_mono n2.h p) (shaped_lay sd), dp_lay p2 (shaped_lay se), sd, se, q _ G2 H2 (n1.trans n2) (.bl _)⟩
/-! ### items -/
def oIx (K : PySem.W.Frag) : R2 := rIxL K
def oIxT (K : PySem.W.Frag) : R2 := rIxT K
theorem atI_dp {G : Hp} {vs : List V} (h : DpAll K G vs ds) (e : atI ds i = some d) : ∃ v, atI vs i = some v ∧ Dp K G v d := by
  unfold atI at e ⊢
  rw [dpAll_len h]
  cases q : ixN ds.length i with
  | none => rw [q] at e; cases e
  | some k =>
    rw [q] at e
    exact dpAll_get h e
theorem evd_ix (ha : EvL K ta δ ds) (hb : EvD K tb δ (.int i)) (hi : atI ds i = some d) : EvD K (tOp (oIx K) ta tb) δ d := fun B σ H G F g Q q =>
  ha B σ H G F g _ fun x G1 H1 n1 ⟨p, vs, ep, sq, al⟩ => hb B σ H1 G1 F (g.up n1) _ fun y G2 H2 n2 p2 => by
    subst ep
    cases p2
    obtain ⟨v, h1, h2⟩ := atI_dp (dpAll_mono n2.g al) hi
    exact ⟨p, vs, i, v, rfl, rfl, sqL_mono n2.h sq, h1, q _ G2 H2 (n1.trans n2) h2⟩
theorem evd_ixT (ha : EvD K ta δ (.tuple ds)) (hb : EvD K tb δ (.int i)) (hi : atI ds i = some d) : EvD K (tOp (oIxT K) ta tb) δ d := fun B σ H G F g Q q =>
  ha B σ H G F g _ fun x G1 H1 n1 p1 => hb B σ H1 G1 F (g.up n1) _ fun y G2 H2 n2 p2 => by
    cases p1 with
    | tup sq al =>
      cases p2
      obtain ⟨v, h1, h2⟩ := atI_dp (dpAll_mono n2.g al) hi
      exact ⟨_, _, i, v, rfl, rfl, sqT_mono (n2.g.trans n2.s) sq, h1, q _ G2 H2 (n1.trans n2) h2⟩
/-! ### built-ins -/
def cLen (K : PySem.W.Frag) : List V → Hp → VK → Prop := fun xs H Q => ∃ p ys, xs = [.ref p] ∧ (SqL K H p ys ∨ SqT K H p ys) ∧ Q (.int ys.length) H
def cAbs : List V → Hp → VK → Prop := fun xs H Q => ∃ i, xs = [.int i] ∧ Q (.int (if i < 0 then -i else i)) H
def cMin2 : List V → Hp → VK → Prop := fun xs H Q => ∃ i j, xs = [.int i, .int j] ∧ Q (.int (if j < i then j else i)) H
def cMax2 : List V → Hp → VK → Prop := fun xs H Q => ∃ i j, xs = [.int i, .int j] ∧ Q (.int (if j > i then j else i)) H
def cSum (K : PySem.W.Frag) : List V → Hp → VK → Prop := rSum K
def cMin (K : PySem.W.Frag) : List V → Hp → VK → Prop := rMin K
def cAny (K : PySem.W.Frag) : List V → Hp → VK → Prop := rAny K
def cAll (K : PySem.W.Frag) : List V → Hp → VK → Prop := rAll K
def cList (K : PySem.W.Frag) : List V → Hp → VK → Prop := fun xs H Q => ∃ p ys, xs = [.ref p] ∧ (SqL K H p ys ∨ SqT K H p ys) ∧ ∀ l, H l = none → Q (.ref l) (upd H l (.lst ys))
def cIsi (K : PySem.W.Frag) : List V → Hp → VK → Prop := rIsi K
theorem evd_len (ha : EvL K ta δ ds) : EvD K (tCB (cLen K) (tCons ta tNil)) δ (.int ds.length) := fun B σ H G F g Q q =>
  ha B σ H G F g _ fun x G1 H1 n1 ⟨p, vs, ep, sq, al⟩ => ⟨p, vs, by rw [ep], .inl sq, by rw [dpAll_len al]; exact q _ G1 H1 n1 (.int _)⟩
theorem evd_lenT (ha : EvR K ta δ (.tuple ds)) : EvD K (tCB (cLen K) (tCons ta tNil)) δ (.int ds.length) := fun B σ H G F g Q q =>
  ha B σ H G F g _ fun x G1 H1 n1 p => by
    cases p with
    | tup sq al => exact ⟨_, _, rfl, .inr sq, by rw [dpAll_len al]; exact q _ G1 H1 n1 (.int _)⟩
theorem evd_abs (ha : EvD K ta δ (.int i)) : EvD K (tCB cAbs (tCons ta tNil)) δ (.int (if i < 0 then -i else i)) := fun B σ H G F g Q q =>
  ha B σ H G F g _ fun x G1 H1 n1 p => by
    cases p
    exact ⟨i, rfl, q _ G1 H1 n1 (.int _)⟩
theorem evd_min2 (ha : EvD K ta δ (.int i)) (hb : EvD K tb δ (.int j)) : EvD K (tCB cMin2 (tCons ta (tCons tb tNil))) δ (.int (if j < i then j else i)) := fun B σ H G F g Q q =>
  ha B σ H G F g _ fun x G1 H1 n1 p => hb B σ H1 G1 F (g.up n1) _ fun y G2 H2 n2 p2 => by
    cases p; cases p2
    exact ⟨i, j, rfl, q _ G2 H2 (n1.trans n2) (.int _)⟩
theorem evd_max2 (ha : EvD K ta δ (.int i)) (hb : EvD K tb δ (.int j)) : EvD K (tCB cMax2 (tCons ta (tCons tb tNil))) δ (.int (if j > i then j else i)) := fun B σ H G F g Q q =>
  ha B σ H G F g _ fun x G1 H1 n1 p => hb B σ H1 G1 F (g.up n1) _ fun y G2 H2 n2 p2 => by
    cases p; cases p2
    exact ⟨i, j, rfl, q _ G2 H2 (n1.trans n2) (.int _)⟩
theorem evd_sum {ns : List Int} (ha : EvL K ta δ (ns.map PyData.int)) : EvD K (tCB (cSum K) (tCons ta tNil)) δ (.int ns.sum) := fun B σ H G F g Q q =>
  ha B σ H G F g _ fun x G1 H1 n1 ⟨p, vs, ep, sq, al⟩ => by
    rw [dpAll_ints al] at sq
    exact ⟨p, ns, by rw [ep], sq, q _ G1 H1 n1 (.int _)⟩
/-- the least of a list -/
theorem evd_min {ns : List Int} {m : Int} (ha : EvL K ta δ (ns.map PyData.int)) (hm : m ∈ ns) (hl : ∀ y ∈ ns, m ≤ y) : EvD K (tCB (cMin K) (tCons ta tNil)) δ (.int m) := fun B σ H G F g Q q =>
  ha B σ H G F g _ fun x G1 H1 n1 ⟨p, vs, ep, sq, al⟩ => by
    rw [dpAll_ints al] at sq
    refine ⟨p, ns, by rw [ep], sq, List.length_pos_of_mem hm, fun m' h1 h2 => ?_⟩
    have e : m' = m := Int.le_antisymm (h2 m hm) (hl m' h1)
    rw [e]
    exact q _ G1 H1 n1 (.int _)
theorem evd_any {ns : List Bool} (ha : EvL K ta δ (ns.map PyData.bool)) : EvD K (tCB (cAny K) (tCons ta tNil)) δ (.bool (ns.any id)) := fun B σ H G F g Q q =>
  ha B σ H G F g _ fun x G1 H1 n1 ⟨p, vs, ep, sq, al⟩ => by
    rw [dpAll_bls al] at sq
    exact ⟨p, ns, by rw [ep], sq, q _ G1 H1 n1 (.bl _)⟩
theorem evd_all {ns : List Bool} (ha : EvL K ta δ (ns.map PyData.bool)) : EvD K (tCB (cAll K) (tCons ta tNil)) δ (.bool (ns.all id)) := fun B σ H G F g Q q =>
  ha B σ H G F g _ fun x G1 H1 n1 ⟨p, vs, ep, sq, al⟩ => by
    rw [dpAll_bls al] at sq
    exact ⟨p, ns, by rw [ep], sq, q _ G1 H1 n1 (.bl _)⟩
theorem evn_list (ha : EvL K ta δ ds) : EvN K (tCB (cList K) (tCons ta tNil)) δ ds := fun B σ H G F g Q q =>
  ha B σ H G F g _ fun x G1 H1 n1 ⟨p, vs, ep, sq, al⟩ => ⟨p, vs, by rw [ep], .inl sq, fun l hl =>
    q l vs G1 _ (n1.trans (Nu.laid n1.s hl)) (n1.s.free hl) (n1.h.free hl) upd_same al⟩
/-! ### isinstance -/
def kindOf : PyData → String
  | .none => "NoneType"
  | .bool _ => "bool"
  | .int _ => "int"
  | .str _ => "str"
  | .list _ => "list"
  | .tuple _ => "tuple"
  | .dict _ => "dict"
theorem evd_isi {n : String} {b : Bool} (ha : EvR K ta δ d) (hk : kitB (kindOf d) n = some b) : EvD K (tCB (cIsi K) (tCons ta (tCons (tC (.ty n)) tNil))) δ (.bool b) := fun B σ H G F g Q q =>
  ha B σ H G F g _ fun x G1 H1 n1 p => by
    refine ⟨x, .ty n, .type (kindOf d), .type n, b, rfl, .ty n, ?_, kit_ty hk, q _ G1 H1 n1 (.bl _)⟩
    cases p with
    | non => exact .base .non
    | bl b => exact .base (.bl b)
    | int i => exact .base (.int i)
    | str x => exact .base (.str x)
    | lst a _ =>
      rcases a with (a | ⟨o, a⟩) | ⟨o, its, n, a, c, _⟩
      · exact .base (.lst a)
      · exact .base (.frz a)
      · exact .kList a c
    | tup a _ =>
      rcases a with (a | ⟨o, a⟩) | ⟨o, its, n, a, c, _⟩
      · exact .base (.tup a)
      · exact .fTuple a
      · exact .kTuple a c
    | dct a =>
      rcases a with a | ⟨o, a⟩
      · exact .base (.dK a)
      · exact .fDict a
/-! ### displays -/
theorem evd_tup {ta : TA} (h : EvA K ta δ ds) (hz : ds.length ≤ 1000000) : EvD K (tTup ta) δ (.tuple ds) := fun B σ H G F g Q q =>
  h B σ H G F g _ fun vs G1 H1 n1 p => ⟨by rw [dpAll_len p]; exact Nat.le_trans hz (by decide), fun l hl =>
    q _ _ _ (n1.trans (Nu.new n1.s hl)) (.tup (.inl (.inl upd_same)) (dpAll_mono (same_upd (n1.s.free hl)) p))⟩
theorem evn_lst {ta : TA} (h : EvA K ta δ ds) (hz : ds.length ≤ 1000000) : EvN K (tLst ta) δ ds := fun B σ H G F g Q q =>
  h B σ H G F g _ fun vs G1 H1 n1 p => ⟨by rw [dpAll_len p]; exact Nat.le_trans hz (by decide), fun l hl =>
    q l vs G1 _ (n1.trans (Nu.laid n1.s hl)) (n1.s.free hl) (n1.h.free hl) upd_same p⟩
/-! ### slices, + of lists -/
theorem evo_none : EvO K tNoPart δ none := fun B σ H G F g Q q => q G H (Nu.refl g.nu.s)
theorem evo_some (h : EvD K te δ (.int i)) : EvO K (tPart te) δ (some i) := fun B σ H G F g Q q => h B σ H G F g _ fun v G1 H1 n1 p => by
  cases p
  exact ⟨i, rfl, q G1 H1 n1⟩
def cut {α : Type} (xs : List α) (lo hi : Option Int) : List α := (xs.drop (HT.sIx xs.length 0 lo)).take (HT.sIx xs.length xs.length hi - HT.sIx xs.length 0 lo)
def oSl (K : PySem.W.Frag) : V → Option Int → Option Int → Hp → VK → Prop := rSlL K
theorem evn_sl {tl th : TO} {lo hi : Option Int} (ha : EvL K ta δ ds) (hl : EvO K tl δ lo) (hh : EvO K th δ hi) : EvN K (tSl (oSl K) ta tl th) δ (cut ds lo hi) := fun B σ H G F g Q q =>
  ha B σ H G F g _ fun x G1 H1 n1 ⟨p, vs, ep, sq, al⟩ => hl B σ H1 G1 F (g.up n1) _ fun G2 H2 n2 => hh B σ H2 G2 F ((g.up n1).up n2) _ fun G3 H3 n3 => by
    refine ⟨p, vs, ep, sqL_mono (n2.h.trans n3.h) sq, fun l hl => ?_⟩
    have n := (n1.trans n2).trans n3
    refine q l _ G3 _ (n.trans (Nu.laid n.s hl)) (n.s.free hl) (n.h.free hl) upd_same ?_
    unfold cutV cut
    rw [dpAll_len al]
    exact dpAll_take _ (dpAll_drop _ (dpAll_mono (n2.g.trans n3.g) al))
/-- xs[::-1] -/
theorem evn_rev (ha : EvL K ta δ ds) : EvN K (tRevL K ta) δ ds.reverse := fun B σ H G F g Q q =>
  ha B σ H G F g _ fun x G1 H1 n1 ⟨p, vs, ep, sq, al⟩ => ⟨p, vs, ep, sq, fun l hl => q l _ G1 _ (n1.trans (Nu.laid n1.s hl)) (n1.s.free hl) (n1.h.free hl) upd_same (dpAll_rev al)⟩
/-- a list that is tracked as such -/
def EvK (K : PySem.W.Frag) (te : TE) (δ : List Sl) (ds : List PyData) : Prop := ∀ B σ H G F, GoodAt K B δ σ H G F → ∀ Q : VK, (∀ v G' H', Nu G H G' H' → (∃ p vs, v = .ref p ∧ H' p = some (.lst vs) ∧ DpAll K G' vs ds) → Q v H') → te σ H Q
theorem evk_n (h : EvN K te δ ds) : EvK K te δ ds := fun B σ H G F g Q q => h B σ H G F g Q fun p vs G' H' n _ _ e b => q _ G' H' n ⟨p, vs, rfl, e, b⟩
theorem evk_at {n : Nat} {p : Addr} (h : δ[n]? = some (.m p ds)) : EvK K (tVar n) δ ds := fun B σ H G F g Q q => by
  obtain ⟨o, h1, _, h2, vs, h3, h4⟩ := g.own n _ h
  subst h2
  exact ⟨.ref p, h1, q _ G H (Nu.refl g.nu.s) ⟨p, vs, rfl, h3, h4⟩⟩
def oCat : R2 := rCat
theorem evn_cat (ha : EvK K ta δ ds) (hb : EvK K tb δ es) (hz : ds.length + es.length ≤ 1000000) : EvN K (tOp oCat ta tb) δ (ds ++ es) := fun B σ H G F g Q q =>
  ha B σ H G F g _ fun x G1 H1 n1 ⟨p, vs, ep, hp, al⟩ => hb B σ H1 G1 F (g.up n1) _ fun y G2 H2 n2 ⟨p2, vs2, ep2, hp2, al2⟩ => by
    refine ⟨p, p2, vs, vs2, ep, ep2, n2.h _ _ hp, hp2, ?_, fun l hl => ?_⟩
    · rw [dpAll_len al, dpAll_len al2]; exact Nat.le_trans hz (by decide)
    · have n := n1.trans n2
      exact q l _ G2 _ (n.trans (Nu.laid n.s hl)) (n.s.free hl) (n.h.free hl) upd_same (dpAll_app (dpAll_mono n2.g al) al2)
/-! ### tests -/
theorem evt_test {b : Bool} (h : EvD K te δ (.bool b)) : EvT K (tTest te) δ b := fun B σ H G F g Q q => h B σ H G F g _ fun v G1 H1 n1 p => by
  cases p
  exact ⟨b, rfl, q G1 H1 n1⟩
theorem evt_B {b : Bool} (h : EvD K te δ (.bool b)) : EvT K (tB te) δ b := fun B σ H G F g Q q => h B σ H G F g _ fun v G1 H1 n1 p => by
  cases p
  exact ⟨b, rfl, q G1 H1 n1⟩
theorem evt_not {a : Bool} (h : EvT K t δ a) : EvT K (tNot t) δ (!a) := fun B σ H G F g Q q => h B σ H G F g _ fun G1 H1 n1 => q G1 H1 n1
theorem evt_and {a b : Bool} (h : EvT K t δ a) (h2 : a = true → EvT K u δ b) : EvT K (tAnd t u) δ (a && b) := fun B σ H G F g Q q => h B σ H G F g _ fun G1 H1 n1 => by
  cases a with
  | true => exact iteT (h2 rfl B σ H1 G1 F (g.up n1) _ fun G2 H2 n2 => q G2 H2 (n1.trans n2))
  | false => exact iteF (q G1 H1 n1)
theorem evt_or {a b : Bool} (h : EvT K t δ a) (h2 : a = false → EvT K u δ b) : EvT K (tOr t u) δ (a || b) := fun B σ H G F g Q q => h B σ H G F g _ fun G1 H1 n1 => by
  cases a with
  | true => exact iteT (q G1 H1 n1)
  | false => exact iteF (h2 rfl B σ H1 G1 F (g.up n1) _ fun G2 H2 n2 => q G2 H2 (n1.trans n2))
theorem evd_and {a b : Bool} (h : EvD K ta δ (.bool a)) (h2 : a = true → EvD K tb δ (.bool b)) : EvD K (tAndV ta tb) δ (.bool (a && b)) := fun B σ H G F g Q q => h B σ H G F g _ fun v G1 H1 n1 p => by
  cases p
  refine ⟨a, rfl, ?_⟩
  cases a with
  | true => exact iteT (h2 rfl B σ H1 G1 F (g.up n1) _ fun v2 G2 H2 n2 p2 => q v2 G2 H2 (n1.trans n2) p2)
  | false => exact iteF (q _ G1 H1 n1 (.bl _))
theorem evd_or {a b : Bool} (h : EvD K ta δ (.bool a)) (h2 : a = false → EvD K tb δ (.bool b)) : EvD K (tOrV ta tb) δ (.bool (a || b)) := fun B σ H G F g Q q => h B σ H G F g _ fun v G1 H1 n1 p => by
  cases p
  refine ⟨a, rfl, ?_⟩
  cases a with
  | true => exact iteT (q _ G1 H1 n1 (.bl _))
  | false => exact iteF (h2 rfl B σ H1 G1 F (g.up n1) _ fun v2 G2 H2 n2 p2 => q v2 G2 H2 (n1.trans n2) p2)
theorem evd_not {a : Bool} (h : EvD K ta δ (.bool a)) : EvD K (tNotV ta) δ (.bool (!a)) := fun B σ H G F g Q q => h B σ H G F g _ fun v G1 H1 n1 p => by
  cases p
  exact ⟨a, rfl, q _ G1 H1 n1 (.bl _)⟩
theorem evd_if {b : Bool} (h : EvT K t δ b) (h1 : b = true → EvD K ta δ d) (h2 : b = false → EvD K tb δ d) : EvD K (tIf t ta tb) δ d := fun B σ H G F g Q q => h B σ H G F g _ fun G1 H1 n1 => by
  cases b with
  | true => exact iteT (h1 rfl B σ H1 G1 F (g.up n1) _ fun v2 G2 H2 n2 p2 => q v2 G2 H2 (n1.trans n2) p2)
  | false => exact iteF (h2 rfl B σ H1 G1 F (g.up n1) _ fun v2 G2 H2 n2 p2 => q v2 G2 H2 (n1.trans n2) p2)
theorem evn_if {b : Bool} (h : EvT K t δ b) (h1 : b = true → EvN K ta δ ds) (h2 : b = false → EvN K tb δ ds) : EvN K (tIf t ta tb) δ ds := fun B σ H G F g Q q => h B σ H G F g _ fun G1 H1 n1 => by
  cases b with
  | true => exact iteT (h1 rfl B σ H1 G1 F (g.up n1) _ fun p vs G2 H2 n2 a b c e => q p vs G2 H2 (n1.trans n2) a (n1.h.free b) c e)
  | false => exact iteF (h2 rfl B σ H1 G1 F (g.up n1) _ fun p vs G2 H2 n2 a b c e => q p vs G2 H2 (n1.trans n2) a (n1.h.free b) c e)
theorem evl_if {b : Bool} (h : EvT K t δ b) (h1 : b = true → EvL K ta δ ds) (h2 : b = false → EvL K tb δ ds) : EvL K (tIf t ta tb) δ ds := fun B σ H G F g Q q => h B σ H G F g _ fun G1 H1 n1 => by
  cases b with
  | true => exact iteT (h1 rfl B σ H1 G1 F (g.up n1) _ fun v2 G2 H2 n2 p2 => q v2 G2 H2 (n1.trans n2) p2)
  | false => exact iteF (h2 rfl B σ H1 G1 F (g.up n1) _ fun v2 G2 H2 n2 p2 => q v2 G2 H2 (n1.trans n2) p2)
/-- i r j r' k -/
theorem evd_chain {k : Int} {f1 f2 : Int → Int → Bool} (ha : EvD K ta δ (.int i)) (hb : EvD K tb δ (.int j)) (hc : EvD K tc δ (.int k)) : EvD K (tChain (rI0 fun i j => .bl (f1 i j)) (rI0 fun i j => .bl (f2 i j)) ta tb tc) δ (.bool (f1 i j && f2 j k)) := fun B σ H G F g Q q =>
  ha B σ H G F g _ fun x G1 H1 n1 p => hb B σ H1 G1 F (g.up n1) _ fun y G2 H2 n2 p2 => by
    cases p; cases p2
    refine ⟨i, j, rfl, rfl, f1 i j, rfl, ?_⟩
    cases hf : f1 i j with
    | true =>
      rw [hf, Bool.true_and] at q
      exact iteT (hc B σ H2 G2 F ((g.up n1).up n2) _ fun z G3 H3 n3 p3 => by
        cases p3
        exact ⟨j, k, rfl, rfl, q _ G3 H3 ((n1.trans n2).trans n3) (.bl _)⟩)
    | false =>
      rw [hf, Bool.false_and] at q
      exact iteF (q _ G2 H2 (n1.trans n2) (.bl _))
end
end Ph

set_option Elab.async false
set_option linter.all false
set_option maxRecDepth 100000
set_option maxHeartbeats 2000000
namespace Ph
open PySem PySem.Spec L2

/-! ### walks -/
structure WalkD (K : PySem.W.Frag) (J : It) (n : Nat) (Gs : Hp) (Y : Nat → PyData) (side : Hp → Hp → Prop) : Prop where
  goes : ∀ i H G, i < n → Same Gs G → Same G H → side G H → J.go i H
  stops : ∀ H G, Same Gs G → Same G H → side G H → J.stop n H
  yields : ∀ i H G x H', i < n → Same Gs G → Same G H → side G H → J.yld i H x H' → ∃ G', Nu G H G' H' ∧ Dp K G' x (Y i)
def EvI (K : PySem.W.Frag) (wi : TI) (δ : List Sl) (n : Nat) (Y : Nat → PyData) (side : Hp → Hp → Prop) : Prop :=
  ∀ B σ H G F, GoodAt K B δ σ H G F → ∀ R : It → Hp → Prop, (∀ J G' H', Nu G H G' H' → WalkD K J n G' Y side → R J H') → wi σ H R
def noSide : Hp → Hp → Prop := fun _ _ => True
/-- the list at p of one's own stands as it stood -/
def mSide (K : PySem.W.Frag) (p : Addr) (ds : List PyData) : Hp → Hp → Prop := fun G H => ∃ vs, H p = some (.lst vs) ∧ DpAll K G vs ds
section
variable {K : PySem.W.Frag} {δ : List Sl} {te ta tb tl : TE} {ds es : List PyData} {i j : Int} {n : Nat} {Y : Nat → PyData}
theorem evi_list (h : EvD K tl δ (.list ds)) : EvI K (iList K tl) δ ds.length (fun i => ds.getD i .none) noSide := fun B σ H G F g R q =>
  h B σ H G F g _ fun v G1 H1 n1 p => by
    cases p with
    | @lst a vs _ sq al =>
      refine ⟨a, rfl, ⟨vs, sqL_mono n1.s sq⟩, q _ G1 H1 n1 ⟨fun i H2 G2 hi s1 s2 _ => ?_, fun H2 G2 s1 s2 _ => ?_, fun i H2 G2 x H' hi s1 s2 _ y => ?_⟩⟩
      · have hi' : i < vs.length := by rw [dpAll_len al]; exact hi
        exact ⟨vs, vs[i], sqL_mono (s1.trans s2) sq, by simp [hi']⟩
      · exact ⟨vs, sqL_mono (s1.trans s2) sq, by rw [dpAll_len al]; exact Nat.le_refl _⟩
      · obtain ⟨e, y⟩ := y
        subst e
        obtain ⟨d, h1, h2⟩ := dpAll_getV al (y vs (sqL_mono (s1.trans s2) sq))
        refine ⟨G2, Nu.refl s2, ?_⟩
        rw [List.getD_eq_getElem?_getD, h1]
        exact dp_mono s1 h2
theorem evi_range1 (h : EvD K te δ (.int (n : Int))) (hn : n ≤ 1000000) : EvI K (iRng1 (tCons te tNil)) δ n (fun i => .int (i : Int)) noSide := fun B σ H G F g R q =>
  h B σ H G F g _ fun v G1 H1 n1 p => by
    cases p
    refine ⟨(n : Int), rfl, by omega, by omega, q _ G1 H1 n1 ?_⟩
    rw [Int.toNat_natCast]
    refine ⟨fun i H2 G2 hi _ _ _ => hi, fun H2 G2 _ _ _ => Nat.le_refl _, fun i H2 G2 x H' hi s1 s2 _ y => ?_⟩
    obtain ⟨e, y⟩ := y
    subst e
    subst y
    refine ⟨G2, Nu.refl s2, ?_⟩
    rw [Int.zero_add]
    exact .int _
theorem evi_range1' {m : Int} (h : EvD K te δ (.int m)) (hm : m ≤ 1000000) (hl : -1000000 ≤ m) : EvI K (iRng1 (tCons te tNil)) δ m.toNat (fun i => .int (i : Int)) noSide := fun B σ H G F g R q =>
  h B σ H G F g _ fun v G1 H1 n1 p => by
    cases p
    refine ⟨m, rfl, by omega, by omega, q _ G1 H1 n1 ?_⟩
    refine ⟨fun i H2 G2 hi _ _ _ => hi, fun H2 G2 _ _ _ => Nat.le_refl _, fun i H2 G2 x H' hi s1 s2 _ y => ?_⟩
    obtain ⟨e, y⟩ := y
    subst e
    subst y
    refine ⟨G2, Nu.refl s2, ?_⟩
    rw [Int.zero_add]
    exact .int _
theorem evi_range2 (ha : EvD K ta δ (.int i)) (hb : EvD K tb δ (.int j)) (h0 : -1000000 ≤ i) (h1 : i ≤ 1000000) (h2 : -1000000 ≤ j) (h3 : j ≤ 1000000) : EvI K (iRng2 (tCons ta (tCons tb tNil))) δ (j - i).toNat (fun k => .int (i + (k : Int))) noSide := fun B σ H G F g R q =>
  ha B σ H G F g _ fun v G1 H1 n1 p => hb B σ H1 G1 F (g.up n1) _ fun w G2 H2 n2 p2 => by
    cases p; cases p2
    refine ⟨i, j, rfl, ⟨by omega, by omega, by omega, by omega⟩, q _ G2 H2 (n1.trans n2) ⟨fun i H2 G2 hi _ _ _ => hi, fun H2 G2 _ _ _ => Nat.le_refl _, fun i H2 G2 x H' hi s1 s2 _ y => ?_⟩⟩
    obtain ⟨e, y⟩ := y
    subst e
    subst y
    exact ⟨G2, Nu.refl s2, .int _⟩
theorem evi_range3 {c : Int} {tc : TE} (ha : EvD K ta δ (.int i)) (hb : EvD K tb δ (.int j)) (hc : EvD K tc δ (.int c)) (ok : RgC i j c n) : EvI K (iRng3 (tCons ta (tCons tb (tCons tc tNil)))) δ n (fun k => .int (i + (k : Int) * c)) noSide := fun B σ H G F g R q =>
  ha B σ H G F g _ fun v G1 H1 n1 p => hb B σ H1 G1 F (g.up n1) _ fun w G2 H2 n2 p2 => hc B σ H2 G2 F ((g.up n1).up n2) _ fun z G3 H3 n3 p3 => by
    cases p; cases p2; cases p3
    refine ⟨i, j, c, n, rfl, ok, q _ G3 H3 ((n1.trans n2).trans n3) ⟨fun i H2 G2 hi _ _ _ => hi, fun H2 G2 _ _ _ => Nat.le_refl _, fun i H2 G2 x H' hi s1 s2 _ y => ?_⟩⟩
    obtain ⟨e, y⟩ := y
    subst e
    subst y
    exact ⟨G2, Nu.refl s2, .int _⟩
theorem evi_enum (h : EvD K tl δ (.list ds)) : EvI K (iEnum K (tCons tl tNil)) δ ds.length (fun i => .tuple [.int (i : Int), ds.getD i .none]) noSide := fun B σ H G F g R q =>
  h B σ H G F g _ fun v G1 H1 n1 p => by
    cases p with
    | @lst a vs _ sq al =>
      refine ⟨a, vs, rfl, sqL_mono n1.s sq, q _ G1 H1 n1 ⟨fun i H2 G2 hi s1 s2 _ => ?_, fun H2 G2 s1 s2 _ => ?_, fun i H2 G2 x H' hi s1 s2 _ y => ?_⟩⟩
      · have hi' : i < vs.length := by rw [dpAll_len al]; exact hi
        exact ⟨vs, vs[i], sqL_mono (s1.trans s2) sq, by simp [hi']⟩
      · exact ⟨vs, sqL_mono (s1.trans s2) sq, by rw [dpAll_len al]; exact Nat.le_refl _⟩
      · obtain ⟨T, y0, rfl, hT, rfl, y⟩ := y
        obtain ⟨d, h1, h2⟩ := dpAll_getV al (y vs (sqL_mono (s1.trans s2) sq))
        refine ⟨_, Nu.new s2 hT, ?_⟩
        rw [List.getD_eq_getElem?_getD, h1]
        exact .tup (.inl (.inl upd_same)) (.cons (.int _) (.cons (dp_mono (s1.trans (same_upd (s2.free hT))) h2) .nil))
/-- zip of two known lists -/
theorem evi_zip (ha : EvD K ta δ (.list ds)) (hb : EvD K tb δ (.list es)) (hn : n = min ds.length es.length) : EvI K (iZip K (tCons ta (tCons tb tNil))) δ n (fun i => .tuple [ds.getD i .none, es.getD i .none]) noSide := fun B σ H G F g R q =>
  ha B σ H G F g _ fun v G1 H1 n1 p => hb B σ H1 G1 F (g.up n1) _ fun w G2 H2 n2 p2 => by
    cases p with
    | @lst a vs _ sq al =>
      cases p2 with
      | @lst b us _ sq2 al2 =>
        have sqG : SqL K G2 a vs := sqL_mono n2.g sq
        have alG : DpAll K G2 vs ds := dpAll_mono n2.g al
        refine ⟨a, b, vs, us, rfl, sqL_mono n2.s sqG, sqL_mono n2.s sq2, q _ G2 H2 (n1.trans n2) ⟨fun i H3 G3 hi s1 s2 _ => ?_, fun H3 G3 s1 s2 _ => ?_, fun i H3 G3 x H' hi s1 s2 _ y => ?_⟩⟩
        · have h1 : i < vs.length := by rw [dpAll_len al]; omega
          have h2 : i < us.length := by rw [dpAll_len al2]; omega
          exact ⟨vs, us, vs[i], us[i], sqL_mono (s1.trans s2) sqG, sqL_mono (s1.trans s2) sq2, by simp [h1], by simp [h2]⟩
        · refine ⟨vs, us, sqL_mono (s1.trans s2) sqG, sqL_mono (s1.trans s2) sq2, ?_⟩
          rw [dpAll_len al, dpAll_len al2]; omega
        · obtain ⟨T, x1, y1, rfl, hT, rfl, f1, f2⟩ := y
          obtain ⟨d, h1, h2⟩ := dpAll_getV alG (f1 vs (sqL_mono (s1.trans s2) sqG))
          obtain ⟨e, h3, h4⟩ := dpAll_getV al2 (f2 us (sqL_mono (s1.trans s2) sq2))
          refine ⟨_, Nu.new s2 hT, ?_⟩
          rw [List.getD_eq_getElem?_getD, h1, List.getD_eq_getElem?_getD, h3]
          have k := s1.trans (same_upd (o := .tup [x1, y1]) (s2.free hT))
          exact .tup (.inl (.inl upd_same)) (.cons (dp_mono k h2) (.cons (dp_mono k h4) .nil))
/-- zip of a known list and one of one's own -/
theorem evi_zipM {p : Addr} {k : Nat} (ha : EvD K ta δ (.list ds)) (hb : δ[k]? = some (.m p es)) (hn : n = min ds.length es.length) : EvI K (iZip K (tCons ta (tCons (tVar k) tNil))) δ n (fun i => .tuple [ds.getD i .none, es.getD i .none]) (mSide K p es) := fun B σ H G F g R q =>
  ha B σ H G F g _ fun v G1 H1 n1 pa => by
    obtain ⟨o, h1, _, h2, us0, h3, h4⟩ := (g.up n1).own k _ hb
    subst h2
    refine ⟨.ref p, h1, ?_⟩
    cases pa with
    | @lst a vs _ sq al =>
      refine ⟨a, p, vs, us0, rfl, sqL_mono n1.s sq, .inl (.inl h3), q _ G1 H1 n1 ⟨fun i H3 G3 hi s1 s2 ⟨us, q1, al2⟩ => ?_, fun H3 G3 s1 s2 ⟨us, q1, al2⟩ => ?_, fun i H3 G3 x H' hi s1 s2 ⟨us, q1, al2⟩ y => ?_⟩⟩
      · have h1 : i < vs.length := by rw [dpAll_len al]; omega
        have h2 : i < us.length := by rw [dpAll_len al2]; omega
        exact ⟨vs, us, vs[i], us[i], sqL_mono (s1.trans s2) sq, .inl (.inl q1), by simp [h1], by simp [h2]⟩
      · refine ⟨vs, us, sqL_mono (s1.trans s2) sq, .inl (.inl q1), ?_⟩
        rw [dpAll_len al, dpAll_len al2]; omega
      · obtain ⟨T, x1, y1, rfl, hT, rfl, f1, f2⟩ := y
        obtain ⟨d, h1, h2⟩ := dpAll_getV al (f1 vs (sqL_mono (s1.trans s2) sq))
        obtain ⟨e, h3, h4⟩ := dpAll_getV al2 (f2 us (.inl (.inl q1)))
        refine ⟨_, Nu.new s2 hT, ?_⟩
        rw [List.getD_eq_getElem?_getD, h1, List.getD_eq_getElem?_getD, h3]
        have kk := same_upd (o := .tup [x1, y1]) (s2.free hT)
        exact .tup (.inl (.inl upd_same)) (.cons (dp_mono (s1.trans kk) h2) (.cons (dp_mono kk h4) .nil))
/-- range downwards, by reversed -/
theorem evi_rev {m : Int} (ha : EvD K ta δ (.int m)) (h0 : 0 ≤ m) (h1 : m ≤ 1000000) : EvI K (iRevR (tRg1 ta)) δ m.toNat (fun k => .int (m - 1 - (k : Int))) noSide := fun B σ H G F g R q =>
  ha B σ H G F g _ fun v G1 H1 n1 p => by
    cases p
    refine ⟨m, rfl, by omega, by omega, by omega, by omega, q _ G1 H1 n1 ?_⟩
    have e : (m - 0).toNat = m.toNat := by rw [Int.sub_zero]
    rw [e]
    refine ⟨fun i H2 G2 hi _ _ _ => hi, fun H2 G2 _ _ _ => Nat.le_refl _, fun i H2 G2 x H' hi s1 s2 _ y => ?_⟩
    obtain ⟨e, y⟩ := y
    subst e
    subst y
    refine ⟨G2, Nu.refl s2, ?_⟩
    have e2 : (0 : Int) + ((m.toNat : Nat) : Int) - 1 + (i : Int) * -1 = m - 1 - (i : Int) := by omega
    rw [e2]
    exact .int _
end
/-! ### targets -/
def Tg (K : PySem.W.Frag) (g : TG) (x : PyData) (δ δ' : List Sl) : Prop := ∀ B σ H G F v, GoodAt K B δ σ H G F → Dp K G v x → ∀ Q : L2.St → Hp → Prop, (∀ σ' F', GoodAt K B δ' σ' H G F' → Q σ' H) → g v σ H Q
def Tgs (K : PySem.W.Frag) (g : TGs) (xs : List PyData) (δ δ' : List Sl) : Prop := ∀ B σ H G F vs, GoodAt K B δ σ H G F → DpAll K G vs xs → ∀ Q : L2.St → Hp → Prop, (∀ σ' F', GoodAt K B δ' σ' H G F' → Q σ' H) → g vs σ H Q
section
variable {K : PySem.W.Frag} {δ δ1 δ2 : List Sl}
theorem tg_name {x : PyData} {i : Nat} : Tg K (gName i) x δ (δ.set i (.d x)) := fun B σ H G F v g h Q q =>
  q _ _ (g.put (s := .d x) (f := []) ⟨rfl, v, rfl, h⟩ fun _ z => nomatch z)
theorem tgs_nil : Tgs K gNil [] δ δ := fun B σ H G F vs g h Q q => by
  cases h
  exact ⟨rfl, q σ F g⟩
theorem tgs_cons {t : TG} {u : TGs} {x : PyData} {xs : List PyData} (h1 : Tg K t x δ δ1) (h2 : Tgs K u xs δ1 δ2) : Tgs K (gCons t u) (x :: xs) δ δ2 := fun B σ H G F vs g h Q q => by
  cases h with
  | @cons v r _ _ p ps => exact ⟨v, r, rfl, h1 B σ H G F v g p _ fun σ' F' g' => h2 B σ' H G F' r g' ps Q q⟩
theorem tg_tup {u : TGs} {n : Nat} {xs : List PyData} (h : Tgs K u xs δ δ1) (hn : xs.length = n) : Tg K (gTup K n u) (.tuple xs) δ δ1 := fun B σ H G F v g p Q q => by
  cases p with
  | @tup a vs _ sq al => exact ⟨a, vs, rfl, sqT_mono g.nu.s sq, (dpAll_len al).trans hn, h B σ H G F vs g al Q q⟩
end
/-! ### comprehensions -/
theorem wipe_get {σ : L2.St} (i : Nat) : ∀ vs : List Nat, (wipe σ vs)[i]? = if i ∈ vs then σ[i]?.map (fun _ => none) else σ[i]?
  | [] => by simp [wipe]
  | v :: vs => by
    show ((wipe σ vs).set v none)[i]? = _
    by_cases hi : v = i
    · subst hi
      by_cases hv : v < σ.length
      · rw [List.getElem?_set_self (by rw [wipe_length]; exact hv), if_pos List.mem_cons_self, List.getElem?_eq_getElem hv]
        rfl
      · rw [List.getElem?_eq_none (by rw [List.length_set, wipe_length]; omega), if_pos List.mem_cons_self, List.getElem?_eq_none (by omega)]
        rfl
    · rw [List.getElem?_set_ne hi, wipe_get i vs]
      by_cases h : i ∈ vs
      · rw [if_pos h, if_pos (List.mem_cons_of_mem _ h)]
      · rw [if_neg h, if_neg (by simp only [List.mem_cons, not_or]; exact ⟨fun e => hi e.symm, h⟩)]
/-- slots outside vs are as they were -/
def Off (vs : List Nat) (σ σ' : L2.St) : Prop := σ'.length = σ.length ∧ ∀ i, i ∉ vs → σ'[i]? = σ[i]?
theorem wipe_off {vs : List Nat} {σ σ' : L2.St} (h : Off vs σ σ') : wipe σ' vs = wipe σ vs := by
  refine List.ext_getElem? fun i => ?_
  rw [wipe_get, wipe_get]
  by_cases hi : i ∈ vs
  · rw [if_pos hi, if_pos hi]
    by_cases hl : i < σ.length
    · have hl' : i < σ'.length := by rw [h.1]; exact hl
      rw [List.getElem?_eq_getElem hl, List.getElem?_eq_getElem hl']
      rfl
    · have e1 : σ'[i]? = none := List.getElem?_eq_none (by rw [h.1]; omega)
      have e2 : σ[i]? = none := List.getElem?_eq_none (by omega)
      rw [e1, e2]
  · rw [if_neg hi, if_neg hi]
    exact h.2 i hi
theorem off_wipe (vs : List Nat) (σ : L2.St) : Off vs σ (wipe σ vs) := ⟨wipe_length σ vs, fun i hi => by rw [wipe_get, if_neg hi]⟩
theorem Off.trans {vs : List Nat} {a b c : L2.St} (h : Off vs a b) (k : Off vs b c) : Off vs a c := ⟨k.1.trans h.1, fun i hi => (k.2 i hi).trans (h.2 i hi)⟩
theorem off_set {vs : List Nat} {σ : L2.St} {i : Nat} {x : Option V} (hi : i ∈ vs) : Off vs σ (σ.set i x) := ⟨List.length_set, fun j hj => by
  rw [List.getElem?_set_ne]
  exact fun e => hj (e ▸ hi)⟩
/-- a target that stores to the slots of vs alone -/
def TgV (K : PySem.W.Frag) (g : TG) (vs : List Nat) (x : PyData) (δ δ' : List Sl) : Prop := ∀ B σ H G F v, GoodAt K B δ σ H G F → Dp K G v x → ∀ Q : L2.St → Hp → Prop, (∀ σ' F', GoodAt K B δ' σ' H G F' → Off vs σ σ' → Q σ' H) → g v σ H Q
def TgsV (K : PySem.W.Frag) (g : TGs) (vs : List Nat) (xs : List PyData) (δ δ' : List Sl) : Prop := ∀ B σ H G F us, GoodAt K B δ σ H G F → DpAll K G us xs → ∀ Q : L2.St → Hp → Prop, (∀ σ' F', GoodAt K B δ' σ' H G F' → Off vs σ σ' → Q σ' H) → g us σ H Q
section
variable {K : PySem.W.Frag} {δ δ1 δ2 : List Sl} {vs : List Nat}
theorem tv_name {x : PyData} {i : Nat} (hi : i ∈ vs) : TgV K (gName i) vs x δ (δ.set i (.d x)) := fun B σ H G F v g h Q q =>
  q _ _ (g.put (s := .d x) (f := []) ⟨rfl, v, rfl, h⟩ fun _ z => nomatch z) (off_set hi)
theorem tvs_nil : TgsV K gNil vs [] δ δ := fun B σ H G F us g h Q q => by
  cases h
  exact ⟨rfl, q σ F g ⟨rfl, fun _ _ => rfl⟩⟩
theorem tvs_cons {t : TG} {u : TGs} {x : PyData} {xs : List PyData} (h1 : TgV K t vs x δ δ1) (h2 : TgsV K u vs xs δ1 δ2) : TgsV K (gCons t u) vs (x :: xs) δ δ2 := fun B σ H G F us g h Q q => by
  cases h with
  | @cons v r _ _ p ps => exact ⟨v, r, rfl, h1 B σ H G F v g p _ fun σ' F' g' o => h2 B σ' H G F' r g' ps Q fun σ2 F2 g2 o2 => q σ2 F2 g2 (o.trans o2)⟩
theorem tv_tup {u : TGs} {n : Nat} {xs : List PyData} (h : TgsV K u vs xs δ δ1) (hn : xs.length = n) : TgV K (gTup K n u) vs (.tuple xs) δ δ1 := fun B σ H G F v g p Q q => by
  cases p with
  | @tup a us _ sq al => exact ⟨a, us, rfl, sqT_mono g.nu.s sq, (dpAll_len al).trans hn, h B σ H G F us g al Q q⟩
end
/-- the slots of vs forgotten -/
def wipeD (δ : List Sl) : List Nat → List Sl
  | [] => δ
  | v :: vs => (wipeD δ vs).set v .no
theorem good_wipe {K : PySem.W.Frag} {B : Bs} {δ : List Sl} {σ : L2.St} {H G : Hp} {F : Nat → List Addr} (g : GoodAt K B δ σ H G F) : ∀ vs : List Nat, ∃ F', GoodAt K B (wipeD δ vs) (wipe σ vs) H G F'
  | [] => ⟨F, g⟩
  | v :: vs => by
    obtain ⟨F1, q⟩ := good_wipe g vs
    refine ⟨fun j => if j = v then [] else F1 j, q.nu, q.base, ?_, fun i s e => ?_, fun i j b hi hj h1 h2 => ?_, fun i b hi hb => ?_⟩
    · show ((wipe σ vs).set v none).length = ((wipeD δ vs).set v .no).length
      rw [List.length_set, List.length_set]; exact q.len
    · have e : ((wipeD δ vs).set v Sl.no)[i]? = some s := e
      show ∃ o, ((wipe σ vs).set v none)[i]? = some o ∧ _
      by_cases hi : i = v
      · subst hi
        have hl : i < ((wipeD δ vs).set i Sl.no).length := (List.getElem?_eq_some_iff.mp e).1
        rw [List.length_set] at hl
        rw [List.getElem?_set_self hl] at e
        cases e
        refine ⟨none, List.getElem?_set_self (by rw [q.len]; exact hl), ?_⟩
        rw [if_pos rfl]; rfl
      · rw [List.getElem?_set_ne (fun z => hi z.symm)] at e
        obtain ⟨o, h1, h2⟩ := q.own i s e
        exact ⟨o, by rw [List.getElem?_set_ne (fun z => hi z.symm)]; exact h1, by rw [if_neg hi]; exact h2⟩
    · have hi' : i < (wipeD δ vs).length := by
        have hi : i < ((wipeD δ vs).set v Sl.no).length := hi
        rw [List.length_set] at hi; exact hi
      have hj' : j < (wipeD δ vs).length := by
        have hj : j < ((wipeD δ vs).set v Sl.no).length := hj
        rw [List.length_set] at hj; exact hj
      split at h1
      · cases h1
      · split at h2
        · cases h2
        · exact q.sep i j b hi' hj' h1 h2
    · have hi' : i < (wipeD δ vs).length := by
        have hi : i < ((wipeD δ vs).set v Sl.no).length := hi
        rw [List.length_set] at hi; exact hi
      split at hb
      · cases hb
      · exact q.frs i b hi' hb
section
variable {K : PySem.W.Frag} {δ : List Sl} {te : TE} {tt : TT} {wi : TI} {g : TG} {vs : List Nat} {n : Nat} {Y : Nat → PyData} {side : Hp → Hp → Prop}
theorem evt_yes : EvT K tYes δ true := fun B σ H G F g Q q => q G H (Nu.refl g.nu.s)
/-- [te for g in wi if tt], by turns -/
theorem evn_lc (hi : EvI K wi δ n Y side) (hside : ∀ B σ H G F, GoodAt K B (wipeD δ vs) σ H G F → side G H) (hn : n ≤ 1000000) {δi : Nat → List Sl} {b : Nat → Bool} {f : Nat → PyData}
    (hg : ∀ i, i < n → TgV K g vs (Y i) (wipeD δ vs) (δi i)) (ht : ∀ i, i < n → EvT K tt (δi i) (b i)) (he : ∀ i, i < n → b i = true → EvD K te (δi i) (f i)) :
    EvN K (tLc wi g tt te vs) δ (((List.range n).filter b).map f) := fun B σ H G F gd Q q =>
  hi B σ H G F gd _ fun J G1 H1 n1 w => by
    intro D hD
    have gd1 := gd.up n1
    obtain ⟨F1, gw⟩ := good_wipe gd1 vs
    have hGD : G1 D = none := n1.s.free hD
    -- the state behind i turns: the new list at D, all else known by G2
    let Pv : Nat → Hp → Prop := fun i H2 => ∃ G2 acc, Nu G1 H1 G2 H2 ∧ G2 D = none ∧ H2 D = some (.lst acc) ∧ DpAll K G2 acc (((List.range i).filter b).map f)
    refine ⟨fun i m H2 => m = n - i ∧ i ≤ n ∧ Pv i H2, ⟨n, by simp, Nat.zero_le _, G1, [], Nu.laid n1.s hD, hGD, upd_same, .nil⟩, ?_⟩
    rintro i m H2 ⟨rfl, hle, G2, acc, n2, hG2, hH2, al⟩
    have g2 : GoodAt K B (wipeD δ vs) (wipe σ vs) H2 G2 F1 := gw.up n2
    by_cases hlt : i < n
    · refine .inr ⟨w.goes i H2 G2 hlt n2.g n2.s (hside _ _ _ _ _ g2), Pv (i + 1), fun H' p' => ⟨n - (i + 1), by omega, rfl, hlt, p'⟩, fun x H3 y => ?_⟩
      obtain ⟨G3, n3, p3⟩ := w.yields i H2 G2 x H3 hlt n2.g n2.s (hside _ _ _ _ _ g2) y
      have g3 := g2.up n3
      have hG3 : G3 D = none := n3.n D hG2 (some_ne hH2)
      refine hg i hlt B _ H3 G3 F1 x g3 p3 _ fun σ2 F2 g4 off => ⟨(wipe_off off).trans (wipe_off (off_wipe vs σ)), ht i hlt B σ2 H3 G3 F2 g4 _ fun G5 H5 n5 => ?_⟩
      have hD5 : H5 D = some (.lst acc) := n5.h _ _ (n3.h _ _ hH2)
      have hG5 : G5 D = none := n5.n D hG3 (some_ne (n3.h _ _ hH2))
      have e : (List.range (i + 1)).filter b = (List.range i).filter b ++ (if b i = true then [i] else []) := by
        rw [List.range_succ, List.filter_append, List.filter_cons]
        by_cases hb : b i = true
        · rw [if_pos hb, if_pos hb]; rfl
        · rw [if_neg hb, if_neg hb]; rfl
      cases hb : b i with
      | true =>
        refine iteT (he i hlt hb B σ2 H5 G5 F2 (g4.up n5) _ fun y2 G6 H6 n6 p6 => ?_)
        have hD6 : H6 D = some (.lst acc) := n6.h _ _ hD5
        have hG6 : G6 D = none := n6.n D hG5 (some_ne hD5)
        have nn := ((n2.trans n3).trans n5).trans n6
        have hlen : acc.length ≤ i := by
          rw [dpAll_len al, List.length_map]
          exact Nat.le_trans (List.length_filter_le _ _) (by rw [List.length_range]; exact Nat.le_refl _)
        refine ⟨acc, hD6, Nat.lt_of_le_of_lt (Nat.le_trans hlen (Nat.le_trans hle hn)) (by decide), G6, acc ++ [y2], ⟨nn.g, fun c o z => ?_, fun c o z => ?_, nn.n⟩, hG6, upd_same, ?_⟩
        · rw [upd_ne (fun e => by rw [e] at z; rw [hD] at z; cases z)]; exact nn.h _ _ z
        · rw [upd_ne (fun e => by rw [e] at z; rw [hG6] at z; cases z)]; exact nn.s _ _ z
        · rw [e, hb, if_pos rfl, List.map_append]
          exact dpAll_app (dpAll_mono ((n3.trans n5).trans n6).g al) (.cons p6 .nil)
      | false =>
        refine iteF ⟨G5, acc, (n2.trans n3).trans n5, hG5, hD5, ?_⟩
        rw [e, hb, if_neg Bool.false_ne_true, List.append_nil]
        exact dpAll_mono (n3.trans n5).g al
    · have ei : i = n := by omega
      subst ei
      exact .inl ⟨w.stops H2 G2 n2.g n2.s (hside _ _ _ _ _ g2), q D acc G2 H2 (n1.trans n2) hG2 (n1.h.free hD) hH2 al⟩
theorem range_map_getD {α β : Type} (xs : List α) (x0 : α) (f : α → β) : (List.range xs.length).map (fun i => f (xs.getD i x0)) = xs.map f := by
  refine List.ext_getElem? fun i => ?_
  rw [List.getElem?_map, List.getElem?_map]
  by_cases h : i < xs.length
  · rw [List.getElem?_range h, List.getElem?_eq_getElem h]
    simp [List.getD_eq_getElem?_getD, h]
  · rw [List.getElem?_eq_none (by rw [List.length_range]; omega), List.getElem?_eq_none (by omega)]
    rfl
/-- a comprehension over a known list, without a test -/
theorem evn_lcL {α : Type} {xs : List α} (x0 : α) {en f : α → PyData} {tl : TE} {j : Nat} (h : EvD K tl δ (.list (xs.map en))) (hn : xs.length ≤ 1000000) (he : ∀ x, x ∈ xs → EvD K te ((wipeD δ [j]).set j (.d (en x))) (f x)) :
    EvN K (tLc (iList K tl) (gName j) tYes te [j]) δ (xs.map f) := by
  have k := evn_lc (K := K) (δ := δ) (te := te) (tt := tYes) (wi := iList K tl) (g := gName j) (vs := [j]) (b := fun _ => true) (f := fun i => f (xs.getD i x0)) (δi := fun i => (wipeD δ [j]).set j (.d (en (xs.getD i x0))))
    (evi_list h) (fun _ _ _ _ _ _ => trivial) (by rw [List.length_map]; exact hn) (fun i hi => by
      rw [List.length_map] at hi
      have e : (xs.map en).getD i .none = en (xs.getD i x0) := by simp [List.getD_eq_getElem?_getD, hi]
      show TgV K (gName j) [j] ((xs.map en).getD i .none) _ _
      rw [e]
      exact tv_name (by simp)) (fun _ _ => evt_yes) (fun i hi _ => by
      rw [List.length_map] at hi
      exact he _ (by simp [List.getD_eq_getElem?_getD, hi]))
  rw [List.length_map, List.filter_eq_self.mpr (fun _ _ => rfl), range_map_getD] at k
  exact k
/-- .. over range(n) -/
theorem evn_lcR {n : Nat} {f : Nat → PyData} {ta : TE} {j : Nat} (h : EvD K ta δ (.int (n : Int))) (hn : n ≤ 1000000) (he : ∀ i, i < n → EvD K te ((wipeD δ [j]).set j (.d (.int (i : Int)))) (f i)) :
    EvN K (tLc (iRng1 (tCons ta tNil)) (gName j) tYes te [j]) δ ((List.range n).map f) := by
  have k := evn_lc (K := K) (δ := δ) (te := te) (tt := tYes) (wi := iRng1 (tCons ta tNil)) (g := gName j) (vs := [j]) (b := fun _ => true) (f := f) (δi := fun i => (wipeD δ [j]).set j (.d (.int (i : Int))))
    (evi_range1 h hn) (fun _ _ _ _ _ _ => trivial) hn (fun i hi => tv_name (by simp)) (fun _ _ => evt_yes) (fun i hi _ => he i hi)
  rw [List.filter_eq_self.mpr (fun _ _ => rfl)] at k
  exact k
end
end Ph

set_option Elab.async false
set_option linter.all false
set_option maxRecDepth 100000
set_option maxHeartbeats 2000000
namespace Ph
open PySem PySem.Spec L2

/-! ### statements -/
def RunS (K : PySem.W.Frag) (B : Bs) (t : TS) (D : Ends) (δ : List Sl) : Prop := ∀ σ H, Good K B δ σ H → t D σ H
def Nx (K : PySem.W.Frag) (B : Bs) (D : Ends) (δ : List Sl) : Prop := ∀ σ H, Good K B δ σ H → D.nx σ H
def RtD (K : PySem.W.Frag) (B : Bs) (D : Ends) (d : PyData) : Prop := ∀ v G' H', Nu B.G0 B.H0 G' H' → Dp K G' v d → D.rt v H'
def RtN (K : PySem.W.Frag) (B : Bs) (D : Ends) (ds : List PyData) : Prop := ∀ p vs G' H', Nu B.G0 B.H0 G' H' → G' p = none → B.H0 p = none → H' p = some (.lst vs) → DpAll K G' vs ds → D.rt (.ref p) H'
theorem RtD.base {K : PySem.W.Frag} {B : Bs} {Gb : Hp} {D : Ends} {d : PyData} (h : RtD K B D d) : RtD K ⟨Gb, B.G0, B.H0⟩ D d := h
theorem rtN_of {K : PySem.W.Frag} {B : Bs} {D : Ends} {ds : List PyData} (h : RtD K B D (.list ds)) : RtN K B D ds := fun p vs G' H' n h1 h2 e b =>
  h _ _ H' (n.know h1 h2 e) (.lst (.inl (.inl upd_same)) (dpAll_mono (same_upd h1) b))
section
variable {K : PySem.W.Frag} {B : Bs} {D : Ends} {δ δ' : List Sl} {te ta tb : TE} {t u : TT} {tu tw tz : TS} {d e : PyData} {ds es : List PyData} {i : Nat} {p : Addr} {b : Bool}
theorem r_next (h : Nx K B D δ) : RunS K B tNext D δ := h
theorem nx_run (h : RunS K B tz D δ) : Nx K B { D with nx := tz D } δ := h
theorem RunS.weak (w : WkL δ δ') (h : RunS K B tz D δ') : RunS K B tz D δ := fun σ H g => h σ H (g.weak w)
theorem RunS.base {Gb : Hp} (hb : Same B.Gb Gb) (h : RunS K B tz D δ) : RunS K ⟨Gb, B.G0, B.H0⟩ tz D δ := fun σ H g => h σ H (g.base hb)
theorem r_set (h : EvD K te δ d) (k : RunS K B tz D (δ.set i (.d d))) : RunS K B (tSeq (tAsg te (gName i)) tz) D δ := fun σ H ⟨G, F, g⟩ =>
  h B σ H G F g _ fun v G' H' n hv => k _ _ ((g.up n).putD hv)
theorem r_setN (h : EvN K te δ ds) (k : ∀ p, RunS K B tz D (δ.set i (.m p ds))) : RunS K B (tSeq (tAsg te (gName i)) tz) D δ := fun σ H ⟨G, F, g⟩ =>
  h B σ H G F g _ fun p vs G' H' n h1 h2 h3 h4 => by
    refine k p _ _ ⟨_, _, (g.up n).put (s := .m p ds) (f := [p]) ⟨rfl, rfl, vs, h3, h4⟩ fun c hc => ?_⟩
    obtain rfl : c = p := by simpa using hc
    exact ⟨h1, g.nu.h.free h2, some_ne h3, fun j hj _ hm => (g.frs j c hj hm).2.2 h2⟩
/-- a, b = e -/
theorem r_setT {g : TG} (h : EvD K te δ d) (hg : Tg K g d δ δ') (k : RunS K B tz D δ') : RunS K B (tSeq (tAsg te g) tz) D δ := fun σ H ⟨G, F, gd⟩ =>
  h B σ H G F gd _ fun v G' H' n hv => hg B σ H' G' F v (gd.up n) hv _ fun σ' F' g' => k _ _ ⟨_, _, g'⟩
theorem r_drop (h : EvD K te δ d) (k : RunS K B tz D δ) : RunS K B (tSeq (tDrop te) tz) D δ := fun σ H ⟨G, F, g⟩ =>
  h B σ H G F g _ fun v G' H' n hv => k _ _ ⟨_, _, g.up n⟩
theorem r_ret (h : EvD K te δ d) (k : RtD K B D d) : RunS K B (tSeq (tRet te) tz) D δ := fun σ H ⟨G, F, g⟩ =>
  h B σ H G F g _ fun v G' H' n hv => k v G' H' (g.nu.trans n) hv
theorem r_retN (h : EvN K te δ ds) (k : RtN K B D ds) : RunS K B (tSeq (tRet te) tz) D δ := fun σ H ⟨G, F, g⟩ =>
  h B σ H G F g _ fun p vs G' H' n h1 h2 h3 h4 => k p vs G' H' (g.nu.trans n) h1 (g.nu.h.free h2) h3 h4
theorem r_retM (h : δ[i]? = some (.m p ds)) (k : RtN K B D ds) : RunS K B (tSeq (tRet (tVar i)) tz) D δ := fun σ H ⟨G, F, g⟩ => by
  obtain ⟨o, h1, hf, h2, vs, h3, h4⟩ := g.own i _ h
  subst h2
  have hi : i < δ.length := (List.getElem?_eq_some_iff.mp h).1
  obtain ⟨f1, f2, f3⟩ := g.frs i p hi (by rw [hf]; exact List.mem_singleton_self p)
  exact ⟨.ref p, h1, k p vs G H g.nu f1 f2 h3 h4⟩
theorem r_if (h : EvT K t δ b) (h1 : b = true → RunS K B tu { D with nx := tz D } δ) (h2 : b = false → RunS K B tw { D with nx := tz D } δ) : RunS K B (tSeq (tIfS t tu tw) tz) D δ := fun σ H ⟨G, F, g⟩ =>
  h B σ H G F g _ fun G' H' n => by
    cases b with
    | true => exact iteT (h1 rfl _ _ ⟨_, _, g.up n⟩)
    | false => exact iteF (h2 rfl _ _ ⟨_, _, g.up n⟩)
/-- an if without else -/
theorem r_when (h : EvT K t δ b) (h1 : b = true → RunS K B tu { D with nx := tz D } δ) (h2 : b = false → RunS K B tz D δ) : RunS K B (tSeq (tIfS t tu tNext) tz) D δ := r_if h h1 h2
/-- .. that is not taken -/
theorem r_skip (h : EvT K t δ false) (h2 : RunS K B tz D δ) : RunS K B (tSeq (tIfS t tu tNext) tz) D δ := r_if h (fun z => nomatch z) fun _ => h2
theorem goodAt_wr {σ : L2.St} {H G : Hp} {F : Nat → List Addr} {vs : List V} {es : List PyData} (g : GoodAt K B δ σ H G F) (h : δ[i]? = some (.m p ds)) (he : DpAll K G vs es) : Good K B (δ.set i (.m p es)) σ (upd H p (.lst vs)) := by
  obtain ⟨o, h1, hf, h2, us, h3, h4⟩ := g.own i _ h
  subst h2
  have hi : i < δ.length := (List.getElem?_eq_some_iff.mp h).1
  obtain ⟨f1, f2, f3⟩ := g.frs i p hi (by rw [hf]; exact List.mem_singleton_self p)
  have hF : ∀ j, j < δ.length → j ≠ i → p ∉ F j := fun j hj hne hm => hne (g.sep j i p hj hi hm (by rw [hf]; exact List.mem_singleton_self p))
  refine ⟨G, F, ⟨g.nu.g, fun c o z => ?_, fun c o z => ?_, g.nu.n⟩, g.base, by rw [List.length_set]; exact g.len, fun j s e => ?_, fun j k c hj hk => ?_, fun j c hj hc => ?_⟩
  · rw [upd_ne (fun e => by rw [e] at z; rw [f2] at z; cases z)]; exact g.nu.h _ _ z
  · rw [upd_ne (fun e => by rw [e] at z; rw [f1] at z; cases z)]; exact g.nu.s _ _ z
  · by_cases hj : j = i
    · subst hj
      rw [List.getElem?_set_self hi] at e
      cases e
      exact ⟨_, h1, hf, rfl, vs, upd_same, he⟩
    · rw [List.getElem?_set_ne (fun z => hj z.symm)] at e
      obtain ⟨o, k1, k2⟩ := g.own j s e
      have hjl : j < δ.length := (List.getElem?_eq_some_iff.mp e).1
      refine ⟨o, k1, k2.up (Same.refl _) fun c hc => upd_ne fun z => ?_⟩
      subst z
      exact hF j hjl hj hc
  · rw [List.length_set] at hj hk
    exact g.sep j k c hj hk
  · rw [List.length_set] at hj
    obtain ⟨k1, k2, k3⟩ := g.frs j c hj hc
    refine ⟨k1, k2, ?_⟩
    by_cases hcp : c = p
    · rw [hcp, upd_same]; exact fun z => nomatch z
    · rw [upd_ne hcp]; exact k3
/-- xs.append(e) -/
theorem r_app (hi : δ[i]? = some (.m p ds)) (h : EvD K te δ d) (hz : ds.length ≤ 1000000) (k : RunS K B tz D (δ.set i (.m p (ds ++ [d])))) :
    RunS K B (tSeq (tDrop (tBM K "list" rAppend (tVar i) (tCons te tNil))) tz) D δ := fun σ H ⟨G, F, g⟩ => by
  obtain ⟨o, h1, hf, h2, vs, h3, h4⟩ := g.own i _ hi
  subst h2
  refine ⟨.ref p, h1, .inl ⟨rfl, vs, .inl (.inl h3)⟩, h B σ H G F g _ fun v G' H' n hv => ?_⟩
  have h3' : H' p = some (.lst vs) := n.h _ _ h3
  refine ⟨p, vs, v, rfl, rfl, h3', ?_, k _ _ (goodAt_wr (g.up n) hi (dpAll_app (dpAll_mono n.g h4) (.cons hv .nil)))⟩
  rw [dpAll_len h4]
  exact Nat.lt_of_le_of_lt hz (by decide)
/-- xs[j] = e -/
theorem r_setIx {j : Int} {k : Nat} (hi : δ[i]? = some (.m p ds)) (h : EvD K te δ d) (hb : EvD K tb δ (.int j)) (hj : ixN ds.length j = some k) (kk : RunS K B tz D (δ.set i (.m p (ds.set k d)))) :
    RunS K B (tSeq (tAsg te (gSub (tVar i) tb rSetL)) tz) D δ := fun σ H ⟨G, F, g⟩ =>
  h B σ H G F g _ fun v G' H' n hv => by
    obtain ⟨o, h1, hf, h2, vs, h3, h4⟩ := (g.up n).own i _ hi
    subst h2
    refine ⟨.ref p, h1, hb B σ H' G' F (g.up n) _ fun w G2 H2 n2 pw => ?_⟩
    cases pw
    have h3' : H2 p = some (.lst vs) := n2.h _ _ h3
    refine ⟨p, vs, j, k, rfl, rfl, h3', by rw [dpAll_len h4]; exact hj, kk _ _ (goodAt_wr ((g.up n).up n2) hi (dpAll_set k (dpAll_mono n2.g h4) (dp_mono n2.g hv)))⟩
/-- a list of one's own is known from here on -/
theorem r_freeze {tt : TS} (hi : δ[i]? = some (.m p ds)) (k : RunS K B tt D (δ.set i (.d (.list ds)))) : RunS K B tt D δ := fun σ H ⟨G, F, g⟩ => by
  obtain ⟨o, h1, hf, h2, vs, h3, h4⟩ := g.own i _ hi
  subst h2
  have hil : i < δ.length := (List.getElem?_eq_some_iff.mp hi).1
  obtain ⟨f1, f2, f3⟩ := g.frs i p hil (by rw [hf]; exact List.mem_singleton_self p)
  have hs : Same G (upd G p (.lst vs)) := same_upd f1
  refine k σ H ⟨upd G p (.lst vs), fun j => if j = i then [] else F j, g.nu.know f1 f2 h3, g.base.trans hs, by rw [List.length_set]; exact g.len, fun j s e => ?_, fun j l c hj hl a b => ?_, fun j c hj hc => ?_⟩
  · by_cases hj : j = i
    · subst hj
      rw [List.getElem?_set_self hil] at e
      cases e
      refine ⟨_, h1, ?_⟩
      rw [if_pos rfl]
      exact ⟨rfl, _, rfl, .lst (.inl (.inl upd_same)) (dpAll_mono hs h4)⟩
    · rw [List.getElem?_set_ne (fun z => hj z.symm)] at e
      obtain ⟨o, k1, k2⟩ := g.own j s e
      refine ⟨o, k1, ?_⟩
      rw [if_neg hj]
      exact k2.up hs fun _ _ => rfl
  · rw [List.length_set] at hj hl
    split at a
    · cases a
    · split at b
      · cases b
      · exact g.sep j l c hj hl a b
  · rw [List.length_set] at hj
    split at hc
    · cases hc
    · rename_i hji
      obtain ⟨k1, k2, k3⟩ := g.frs j c hj hc
      refine ⟨?_, k2, k3⟩
      have hne : c ≠ p := fun z => by
        rw [z] at hc
        exact hji (g.sep j i p hj hil hc (by rw [hf]; exact List.mem_singleton_self p))
      rw [upd_ne hne]
      exact k1
/-! ### loops -/
variable {wi : TI} {g : TG} {n : Nat} {Y : Nat → PyData} {side : Hp → Hp → Prop} {tc : TT}
def NI (K : PySem.W.Frag) (B : Bs) (P : List Sl → Prop) : L2.St → Hp → Prop := fun σ H => ∃ δ', P δ' ∧ Good K B δ' σ H
theorem r_for (hi : EvI K wi δ n Y side) (P : Nat → List Sl → Prop) (h0 : ∃ δ0, WkL δ δ0 ∧ P 0 δ0) (hside : ∀ i δ', P i δ' → ∀ B σ H G F, GoodAt K B δ' σ H G F → side G H)
    (step : ∀ Gb, Same B.Gb Gb → ∀ i δ', i < n → P i δ' → ∃ δ'', Tg K g (Y i) δ' δ'' ∧ RunS K ⟨Gb, B.G0, B.H0⟩ tu { D with nx := NI K ⟨Gb, B.G0, B.H0⟩ (P (i + 1)), ct := NI K ⟨Gb, B.G0, B.H0⟩ (P (i + 1)), bk := tz D } δ'')
    (done : ∀ δ', P n δ' → RunS K B tz D δ') : RunS K B (tSeq (tFor wi g tu) tz) D δ := fun σ H ⟨G, F, gd⟩ =>
  hi B σ H G F gd _ fun J G1 H1 n1 w => by
    obtain ⟨δ0, w0, p0⟩ := h0
    have g1 := gd.up n1
    have hb : Same B.Gb G1 := g1.base
    refine ⟨fun i m σ2 H2 => m = n - i ∧ i ≤ n ∧ NI K ⟨G1, B.G0, B.H0⟩ (P i) σ2 H2, ⟨n, by simp, Nat.zero_le _, δ0, p0, (g1.baseTo.good).weak w0⟩, ?_⟩
    rintro i m σ2 H2 ⟨rfl, hle, δ2, p2, G2, F2, g2⟩
    by_cases hlt : i < n
    · refine .inr ⟨w.goes i H2 G2 hlt g2.base g2.nu.s (hside i δ2 p2 _ _ _ _ _ g2), NI K ⟨G1, B.G0, B.H0⟩ (P (i + 1)), fun σ' H' p' => ⟨n - (i + 1), by omega, rfl, hlt, p'⟩, fun x H3 y => ?_⟩
      obtain ⟨G3, n3, p3⟩ := w.yields i H2 G2 x H3 hlt g2.base g2.nu.s (hside i δ2 p2 _ _ _ _ _ g2) y
      obtain ⟨δ3, tg, run⟩ := step G1 hb i δ2 hlt p2
      exact tg _ _ _ _ _ _ (g2.up n3) p3 _ fun σ' F' g' => run σ' H3 ⟨_, _, g'⟩
    · have ei : i = n := by omega
      subst ei
      exact .inl ⟨w.stops H2 G2 g2.base g2.nu.s (hside i δ2 p2 _ _ _ _ _ g2), done δ2 p2 σ2 H2 (Good.base (B := ⟨G1, B.G0, B.H0⟩) ⟨G2, F2, g2⟩ hb)⟩
theorem nx_inv (w : WkL δ δ') (h : ∃ P, D.nx = NI K B P ∧ P δ') : Nx K B D δ := fun σ H g => by
  obtain ⟨P, e, p⟩ := h
  rw [e]
  exact ⟨δ', p, g.weak w⟩
/-- a loop whose slots are told by the turn -/
theorem r_forE (hi : EvI K wi δ n Y noSide) (env : Nat → List Sl) (h0 : WkL δ (env 0))
    (step : ∀ Gb, Same B.Gb Gb → ∀ i, i < n → ∃ δ'', Tg K g (Y i) (env i) δ'' ∧ RunS K ⟨Gb, B.G0, B.H0⟩ tu { D with nx := NI K ⟨Gb, B.G0, B.H0⟩ (· = env (i + 1)), ct := NI K ⟨Gb, B.G0, B.H0⟩ (· = env (i + 1)), bk := tz D } δ'')
    (done : RunS K B tz D (env n)) : RunS K B (tSeq (tFor wi g tu) tz) D δ :=
  r_for hi (fun i δ' => δ' = env i) ⟨_, h0, rfl⟩ (fun _ _ _ _ _ _ _ _ _ => trivial) (fun Gb hb i δ' hlt e => by subst e; exact step Gb hb i hlt) (fun δ' e => by subst e; exact done)
theorem nx_env {δe : List Sl} (w : WkL δ δe) (h : D.nx = NI K B (· = δe) := by rfl) : Nx K B D δ := nx_inv w ⟨_, h, rfl⟩
/-- while, W by a measure -/
theorem r_while (P : Nat → List Sl → Prop) (m0 : Nat) (h0 : ∃ δ0, WkL δ δ0 ∧ P m0 δ0)
    (step : ∀ m δ', P m δ' → ∃ b, EvT K tc δ' b ∧ (b = true → RunS K B tu { D with nx := NI K B (fun δ2 => ∃ m', m' < m ∧ P m' δ2), ct := NI K B (fun δ2 => ∃ m', m' < m ∧ P m' δ2), bk := tz D } δ') ∧ (b = false → RunS K B tz D δ')) :
    RunS K B (tSeq (tWhile tc tu) tz) D δ := fun σ H gd => by
  obtain ⟨δ0, w0, p0⟩ := h0
  refine ⟨fun m σ2 H2 => NI K B (P m) σ2 H2, ⟨m0, δ0, p0, gd.weak w0⟩, ?_⟩
  rintro m σ2 H2 ⟨δ2, p2, G2, F2, g2⟩
  obtain ⟨b, ht, h1, h2⟩ := step m δ2 p2
  refine ht B σ2 H2 G2 F2 g2 _ fun G3 H3 n3 => ?_
  cases b with
  | true =>
    exact iteT ⟨_, fun σ' H' ⟨δ3, ⟨m', hm, p3⟩, g3⟩ => ⟨m', hm, δ3, p3, g3⟩, h1 rfl σ2 H3 ⟨_, _, g2.up n3⟩⟩
  | false => exact iteF (h2 rfl σ2 H3 ⟨_, _, g2.up n3⟩)
theorem mSide_at {δ' : List Sl} {k : Nat} {p : Addr} {es : List PyData} (h : δ'[k]? = some (.m p es)) : ∀ B σ H G F, GoodAt K B δ' σ H G F → mSide K p es G H := fun B σ H G F g => by
  obtain ⟨o, _, _, _, vs, h3, h4⟩ := g.own k _ h
  exact ⟨vs, h3, h4⟩
end
/-! ### promises -/
/-- called with data ds it gives data d, R ds d -/
def Pr (K : PySem.W.Frag) (R : List PyData → PyData → Prop) : Sp := fun vs H Q _ => ∃ G ds d, Same G H ∧ DpAll K G vs ds ∧ R ds d ∧ ∀ v G' H', Nu G H G' H' → Dp K G' v d → Q v H'
/-- .. a new list -/
def PrN (K : PySem.W.Frag) (R : List PyData → List PyData → Prop) : Sp := fun vs H Q _ => ∃ G ds d, Same G H ∧ DpAll K G vs ds ∧ R ds d ∧ ∀ p us G' H', Nu G H G' H' → G' p = none → H p = none → H' p = some (.lst us) → DpAll K G' us d → Q (.ref p) H'
section
variable {K : PySem.W.Frag} {δ : List Sl} {ta : TA} {ds : List PyData} {d : PyData} {es : List PyData} {E : XK}
theorem evd_call {R : List PyData → PyData → Prop} (ha : EvA K ta δ ds) (hr : R ds d) : EvD K (tCall (Pr K R) [] E ta) δ d := fun B σ H G F g Q q =>
  ha B σ H G F g _ fun vs G1 H1 n1 p => ⟨G1, ds, d, n1.s, by rw [List.append_nil]; exact p, hr, fun v G' H' n hv => q v G' H' (n1.trans n) hv⟩
theorem evn_call {R : List PyData → List PyData → Prop} (ha : EvA K ta δ ds) (hr : R ds es) : EvN K (tCall (PrN K R) [] E ta) δ es := fun B σ H G F g Q q =>
  ha B σ H G F g _ fun vs G1 H1 n1 p => ⟨G1, ds, es, n1.s, by rw [List.append_nil]; exact p, hr, fun p us G' H' n h1 h2 h3 h4 => q p us G' H' (n1.trans n) h1 (n1.h.free h2) h3 h4⟩
/-- with arguments that may be read now, a scalar handed back -/
theorem evd_callR {R : List PyData → PyData → Prop} {x : V} (ha : EvAR K ta δ ds) (hr : R ds d) (hs : sv d = some x) : EvD K (tCall (Pr K R) [] E ta) δ d := fun B σ H G F g Q q =>
  ha B σ H G F g _ fun vs G1 H1 n1 p => ⟨H1, ds, d, Same.refl _, by rw [List.append_nil]; exact p, hr, fun v G' H' n hv =>
    q v G1 H' (n1.trans ⟨Same.refl _, n.h, n1.s.trans n.h, fun _ h _ => h⟩) (sv_dp hv hs).2⟩
end
section
variable {P : Program} {w : World} {K : PySem.W.Frag} {mg : Str → Option Value} {base : Heap} {x qual : Str} {st : Stmt} {f : Addr} {fd : FuncData} {N ps : List Str} {k : Nat} {t : TS}
/-- a def's promise, from its body's reading -/
theorem ok_pr {R : List PyData → PyData → Prop} (F : Fun K x qual st f fd) (S : FnScope N ps (defScope st)) (len : ∀ ds d, R ds d → ds.length = ps.length)
    (hd : ∀ (cdv : Value) (A : Around) (outer : List Env) (s : Shared) (H : Hp) (E : XK), Room k (A.deeper (PyProof.Rows.envOfC qual (defScope st) s.heap.objs.size f cdv)) → PSs (cxOf CX0 P w K mg base N qual (defScope st) f cdv A outer s H E).nox (defBody st) t)
    (run : ∀ ds d, R ds d → ∀ B D, RtD K B D d → (d = .none → ∀ δ, Nx K B D δ) → RunS K B t D (ds.map Sl.d ++ List.replicate (N.length - ds.length) Sl.no)) : FnOk P w K mg base CX0 (k + 1) f fd ps (Pr K R) := by
  refine F.ok S (fun vs H Q E h => ?_) (fun cdv A outer s H vs Q E hr h => ⟨t, hd cdv A outer s H E hr, ?_⟩)
  · obtain ⟨G, ds, d, _, p, r, _⟩ := h
    rw [dpAll_len p]; exact len ds d r
  · obtain ⟨G, ds, d, s0, p, r, q⟩ := h
    refine run ds d r ⟨G, G, H⟩ _ (fun v G' H' n hv => q v G' H' n hv) (fun e δ σ' H' g => ?_) _ _ (good_start s0 p)
    obtain ⟨G', F', g⟩ := g
    subst e
    exact q .non G' H' g.nu .non
theorem ok_prN {R : List PyData → List PyData → Prop} (F : Fun K x qual st f fd) (S : FnScope N ps (defScope st)) (len : ∀ ds d, R ds d → ds.length = ps.length)
    (hd : ∀ (cdv : Value) (A : Around) (outer : List Env) (s : Shared) (H : Hp) (E : XK), Room k (A.deeper (PyProof.Rows.envOfC qual (defScope st) s.heap.objs.size f cdv)) → PSs (cxOf CX0 P w K mg base N qual (defScope st) f cdv A outer s H E).nox (defBody st) t)
    (run : ∀ ds d, R ds d → ∀ B D, RtN K B D d → RunS K B t D (ds.map Sl.d ++ List.replicate (N.length - ds.length) Sl.no)) : FnOk P w K mg base CX0 (k + 1) f fd ps (PrN K R) := by
  refine F.ok S (fun vs H Q E h => ?_) (fun cdv A outer s H vs Q E hr h => ⟨t, hd cdv A outer s H E hr, ?_⟩)
  · obtain ⟨G, ds, d, _, p, r, _⟩ := h
    rw [dpAll_len p]; exact len ds d r
  · obtain ⟨G, ds, d, s0, p, r, q⟩ := h
    exact run ds d r ⟨G, G, H⟩ _ (fun p us G' H' n h1 h2 h3 h4 => q p us G' H' n h1 h2 h3 h4) _ _ (good_start s0 p)
end
end Ph

set_option Elab.async false
set_option linter.all false
set_option maxRecDepth 100000
set_option maxHeartbeats 2000000
namespace Ph
open PySem PySem.Spec L2

/-! ### what derivations lean on -/
/-- the built-ins that the text uses stand as they are -/
structure Blt (mg : Str → Option Value) : Prop where
  len : mg "len" = none
  range : mg "range" = none
  zip : mg "zip" = none
  enumerate : mg "enumerate" = none
  reversed : mg "reversed" = none
  isinstance : mg "isinstance" = none
  abs : mg "abs" = none
  min : mg "min" = none
  max : mg "max" = none
  sum : mg "sum" = none
  any : mg "any" = none
  all : mg "all" = none
  list : mg "list" = none
  sorted : mg "sorted" = none
  set : mg "set" = none
  int : mg "int" = none
  bool : mg "bool" = none
  tuple : mg "tuple" = none
structure Cl (P : Program) (w : World) (K : PySem.W.Frag) (mg : Str → Option Value) (base : Heap) (k : Nat) (x : Str) (sp : Sp) : Prop where
  ex : ∃ (f : Addr) (fd : FuncData) (ps : List Str), FnOk P w K mg base CX0 k f fd ps sp ∧ mg x = some (.ref f) ∧ PySem.W.keepIn K (.ref f) = true ∧ Binds K fd ps []
theorem pc {X : Cx} {k j : Nat} {x : Str} {sp : Sp} {p pos : Pos} {e : Expr} {es : List Expr} {t : TA} (c : Cl X.prog X.w X.K X.mg X.base k x sp) (hr : Room j X.A) (hk : k ≤ j) (hg : Gl X x) (ha : PA X (e :: es) t)
    (hdb : (x == ("__debug__" : Str)) = false := by decide) (he : starEach (e :: es) X.env = (false, eval e X.env) :: starEach es X.env := by rfl) (hpl : (backTo pos (starEach es X.env)).any (·.1) = false := by rfl) :
    PE X (.Call (.Name x p) (e :: es) [] pos) (tCall sp [] E0 t) := by
  obtain ⟨f, fd, ps, F, hm, kp, b⟩ := c.ex
  exact pe_call F (hr.mono hk) hg hm kp b .nil pass0 ha hdb he hpl
theorem cl_of {P : Program} {w : World} {K : PySem.W.Frag} {mg : Str → Option Value} {base : Heap} {k : Nat} {x : Str} {sp : Sp} {f : Addr} {fd : FuncData} {ps : List Str} (F : FnOk P w K mg base CX0 k f fd ps sp) (g : mg x = some (.ref f)) (kp : PySem.W.keepIn K (.ref f) = true) (b : Binds K fd ps []) : Cl P w K mg base k x sp := ⟨f, fd, ps, F, g, kp, b⟩
section
variable {X : Cx}
theorem p_add : OpR X (binaryOp .Add) oAdd := op_add
theorem p_sub : OpR X (binaryOp .Sub) oSub := op_sub
theorem p_mul : OpR X (binaryOp .Mult) oMul := op_mul
theorem p_mulW : OpR X (binaryOp .Mult) oMulW := op_mulW
theorem p_div : OpR X (binaryOp .FloorDiv) oDiv := op_fdiv
theorem p_mod : OpR X (binaryOp .Mod) oMod := op_mod
theorem p_pow : OpR X (binaryOp .Pow) oPow := op_pow
theorem p_lt : OpR X (compareOp .Lt) oLt := op_lt
theorem p_le : OpR X (compareOp .LtE) oLe := op_le
theorem p_gt : OpR X (compareOp .Gt) oGt := op_gt
theorem p_ge : OpR X (compareOp .GtE) oGe := op_ge
theorem p_eqI : OpR X (compareOp .Eq) oEqI := op_eq
theorem p_neI : OpR X (compareOp .NotEq) oNeI := op_ne
theorem p_isB : OpR X (compareOp .Is) oIsB := op_isBl
theorem p_notB : OpR X (compareOp .IsNot) oNotB := op_notBl
theorem p_neg : UnR X (unaryOp .USub) oNeg := un_neg
theorem p_eqD (hu : X.A.units + 64 < cLine) : OpR X (compareOp .Eq) (oEqD X.K) := op_eqD hu
theorem p_neD (hu : X.A.units + 64 < cLine) : OpR X (compareOp .NotEq) (oNeD X.K) := op_neD hu
theorem p_cat : OpR X (binaryOp .Add) oCat := op_cat
theorem p_ix : IxR X (oIx X.K) := ix_list
theorem p_ixT : IxR X (oIxT X.K) := ix_tup
theorem p_sl : SlR X (oSl X.K) := sl_list
theorem q_len : CallR X (.builtin "len") (cLen X.K) := call_len_seq
theorem q_abs : CallR X (.builtin "abs") cAbs := call_abs
theorem q_min2 (hc : X.calm = true) : CallR X (.builtin "min") cMin2 := call_min2 hc
theorem q_max2 (hc : X.calm = true) : CallR X (.builtin "max") cMax2 := call_max2 hc
theorem q_sum (hc : X.calm = true) : CallR X (.builtin "sum") (cSum X.K) := cr_sum hc
theorem q_min (hc : X.calm = true) : CallR X (.builtin "min") (cMin X.K) := cr_min hc
theorem q_any (hc : X.calm = true) : CallR X (.builtin "any") (cAny X.K) := cr_any hc
theorem q_all (hc : X.calm = true) : CallR X (.builtin "all") (cAll X.K) := cr_all hc
theorem q_list : CallR X (.type "list") (cList X.K) := call_list_of
theorem q_isi : CallR X (.builtin "isinstance") (cIsi X.K) := call_isi
end
end Ph

set_option Elab.async false
set_option linter.all false
set_option maxRecDepth 100000
set_option maxHeartbeats 2000000
namespace Ph
open PySem PySem.Spec L2
/-! ### data of one's own kinds -/
abbrev eInts (ns : List Int) : PyData := .list (ns.map PyData.int)
abbrev eHs (h : Int × Int) : PyData := .tuple [.int h.1, .int h.2]
abbrev eRoad (ps : List (Int × Int)) : PyData := .list (ps.map eHs)
abbrev eRow (t : List (Int × Int)) : PyData := .list (t.map eHs)
abbrev eTab (t : List (List (Int × Int))) : PyData := .list (t.map eRow)
section
variable {K : PySem.W.Frag} {δ : List Sl} {ta tb tc te : TE} {i j k : Int} {ds : List PyData} {d : PyData}
theorem atI_nn {α : Type} [Inhabited α] {xs : List α} {en : α → PyData} (h0 : 0 ≤ i) (h1 : i < xs.length) : atI (xs.map en) i = some (en (xs.getD i.toNat default)) := by
  have hl : i.toNat < xs.length := by omega
  unfold atI ixN
  rw [if_pos h0, List.length_map, if_pos h1]
  show (xs.map en)[i.toNat]? = _
  rw [List.getElem?_map, List.getElem?_eq_getElem hl, List.getD_eq_getElem?_getD, List.getElem?_eq_getElem hl]
  rfl
theorem evd_ixm {α : Type} [Inhabited α] {xs : List α} {en : α → PyData} (ha : EvL K ta δ (xs.map en)) (hb : EvD K tb δ (.int i)) (h0 : 0 ≤ i) (h1 : i < xs.length) : EvD K (tOp (oIx K) ta tb) δ (en (xs.getD i.toNat default)) :=
  evd_ix ha hb (atI_nn h0 h1)
/-- xs[-1] -/
theorem evd_ixl {α : Type} [Inhabited α] {xs : List α} {en : α → PyData} (ha : EvL K ta δ (xs.map en)) (h1 : xs ≠ []) : EvD K (tOp (oIx K) ta (tUn oNeg (tC (.int 1)))) δ (en (xs.getD (xs.length - 1) default)) :=
  evd_ix ha (evd_neg evd_int) (by
    have hp : 0 < xs.length := List.length_pos_iff.mpr h1
    unfold atI ixN
    rw [if_neg (by omega), List.length_map, if_pos (by omega)]
    have e : (-1 + (xs.length : Int)).toNat = xs.length - 1 := by omega
    rw [e]
    show (xs.map en)[xs.length - 1]? = _
    have hl : xs.length - 1 < xs.length := by omega
    rw [List.getElem?_map, List.getElem?_eq_getElem hl, List.getD_eq_getElem?_getD, List.getElem?_eq_getElem hl]
    rfl)
theorem evd_ixt {n : Nat} (ha : EvD K ta δ (.tuple ds)) (hb : EvD K tb δ (.int (n : Int))) (hi : ds[n]? = some d) : EvD K (tOp (oIxT K) ta tb) δ d :=
  evd_ixT ha hb (atI_nat hi)
theorem evd_ixt0 {e : PyData} {ds : List PyData} (ha : EvD K ta δ (.tuple (e :: ds))) : EvD K (tOp (oIxT K) ta (tC (.int 0))) δ e := evd_ixT ha evd_int (atI_nat (j := 0) rfl)
theorem evd_ixt1 {e f : PyData} {ds : List PyData} (ha : EvD K ta δ (.tuple (e :: f :: ds))) : EvD K (tOp (oIxT K) ta (tC (.int 1))) δ f := evd_ixT ha evd_int (atI_nat (j := 1) rfl)
theorem evd_lenm {α : Type} {xs : List α} {en : α → PyData} (ha : EvL K ta δ (xs.map en)) : EvD K (tCB (cLen K) (tCons ta tNil)) δ (.int xs.length) := by
  have h := evd_len ha
  rw [List.length_map] at h
  exact h
theorem evd_ltlt (ha : EvD K ta δ (.int i)) (hb : EvD K tb δ (.int j)) (hc : EvD K tc δ (.int k)) : EvD K (tChain oLt oLt ta tb tc) δ (.bool (decide (i < j) && decide (j < k))) := evd_chain (f1 := fun i j => decide (i < j)) (f2 := fun i j => decide (i < j)) ha hb hc
theorem evd_lelt (ha : EvD K ta δ (.int i)) (hb : EvD K tb δ (.int j)) (hc : EvD K tc δ (.int k)) : EvD K (tChain oLe oLt ta tb tc) δ (.bool (decide (i ≤ j) && decide (j < k))) := evd_chain (f1 := fun i j => decide (i ≤ j)) (f2 := fun i j => decide (i < j)) ha hb hc
theorem evd_lele (ha : EvD K ta δ (.int i)) (hb : EvD K tb δ (.int j)) (hc : EvD K tc δ (.int k)) : EvD K (tChain oLe oLe ta tb tc) δ (.bool (decide (i ≤ j) && decide (j ≤ k))) := evd_chain (f1 := fun i j => decide (i ≤ j)) (f2 := fun i j => decide (i ≤ j)) ha hb hc
/-- the value as a natural distance -/
theorem evd_absN (ha : EvD K ta δ (.int i)) : EvD K (tCB cAbs (tCons ta tNil)) δ (.int (i.natAbs : Int)) := by
  have h := evd_abs ha
  have e : (if i < 0 then -i else i) = (i.natAbs : Int) := by split <;> omega
  rw [e] at h
  exact h
end
/-- data without texts, n deep at most -/
def Shp (n : Nat) (d : PyData) : Prop := d.canLay0 = true ∧ d.depth ≤ n
theorem shp_int {n : Nat} (i : Int) : Shp n (.int i) := ⟨rfl, Nat.zero_le _⟩
theorem shp_bool {n : Nat} (b : Bool) : Shp n (.bool b) := ⟨rfl, Nat.zero_le _⟩
theorem shp_all {n : Nat} : ∀ {ds : List PyData}, (∀ d ∈ ds, Shp n d) → PyData.canLayAll0 ds = true ∧ PyData.depthAll ds ≤ n
  | [], _ => ⟨rfl, Nat.zero_le _⟩
  | d :: ds, h => by
    obtain ⟨h1, h2⟩ := shp_all (ds := ds) fun x hx => h x (List.mem_cons_of_mem _ hx)
    obtain ⟨h3, h4⟩ := h d List.mem_cons_self
    refine ⟨?_, ?_⟩
    · show (PyData.canLay0 d && PyData.canLayAll0 ds) = true
      rw [h1, h3]; rfl
    · show max (PyData.depth d) (PyData.depthAll ds) ≤ n
      omega
theorem shp_list {n : Nat} {ds : List PyData} (h : ∀ d ∈ ds, Shp n d) : Shp (n + 1) (.list ds) := by
  obtain ⟨h1, h2⟩ := shp_all h
  exact ⟨h1, Nat.succ_le_succ h2⟩
theorem shp_tup {n : Nat} {ds : List PyData} (h : ∀ d ∈ ds, Shp n d) : Shp (n + 1) (.tuple ds) := by
  obtain ⟨h1, h2⟩ := shp_all h
  exact ⟨h1, Nat.succ_le_succ h2⟩
theorem Shp.ok {n : Nat} {d : PyData} (h : Shp n d) (hn : n ≤ 64) : SeqAt.shaped d = true := by
  unfold SeqAt.shaped
  rw [h.1, decide_eq_true (Nat.le_trans h.2 hn)]; rfl
theorem shp_ints (ns : List Int) : Shp 1 (eInts ns) := shp_list fun d hd => by
  obtain ⟨i, _, rfl⟩ := List.mem_map.mp hd
  exact shp_int i
theorem shp_hs (h : Int × Int) : Shp 1 (eHs h) := shp_tup fun d hd => by
  simp at hd
  rcases hd with rfl | rfl
  · exact shp_int _
  · exact shp_int _
theorem shp_road (ps : List (Int × Int)) : Shp 2 (eRoad ps) := shp_list fun d hd => by
  obtain ⟨i, _, rfl⟩ := List.mem_map.mp hd
  exact shp_hs i
theorem shp_mono {m n : Nat} {d : PyData} (h : Shp m d) (hn : m ≤ n) : Shp n d := ⟨h.1, Nat.le_trans h.2 hn⟩
/-! ### == of data is = -/
theorem eqv_int (i j : Int) : PyData.eqv (.int i) (.int j) = (i == j) := by unfold PyData.eqv; rfl
theorem eqvAll_map {α : Type} {en : α → PyData} (h : ∀ x y, PyData.eqv (en x) (en y) = true ↔ x = y) : ∀ xs ys : List α, PyData.eqvAll (xs.map en) (ys.map en) = true ↔ xs = ys
  | [], [] => by simp [PyData.eqvAll]
  | [], _ :: _ => by simp [PyData.eqvAll]
  | _ :: _, [] => by simp [PyData.eqvAll]
  | x :: xs, y :: ys => by
    have ih := eqvAll_map h xs ys
    simp only [List.map_cons, PyData.eqvAll, Bool.and_eq_true, h, ih, List.cons.injEq]
theorem eqv_ints (xs ys : List Int) : PyData.eqv (eInts xs) (eInts ys) = decide (xs = ys) := by
  have h := eqvAll_map (en := PyData.int) (fun x y => by rw [eqv_int]; exact beq_iff_eq) xs ys
  show PyData.eqvAll _ _ = _
  by_cases e : xs = ys
  · rw [decide_eq_true e]; exact h.mpr e
  · rw [decide_eq_false e]
    cases q : PyData.eqvAll (xs.map PyData.int) (ys.map PyData.int) with
    | false => rfl
    | true => exact absurd (h.mp q) e
theorem eqv_hs (x y : Int × Int) : PyData.eqv (eHs x) (eHs y) = true ↔ x = y := by
  show PyData.eqvAll _ _ = true ↔ _
  simp [PyData.eqvAll, eqv_int, Prod.ext_iff]
theorem eqv_road (xs ys : List (Int × Int)) : PyData.eqv (eRoad xs) (eRoad ys) = decide (xs = ys) := by
  have h := eqvAll_map (en := eHs) eqv_hs xs ys
  show PyData.eqvAll _ _ = _
  by_cases e : xs = ys
  · rw [decide_eq_true e]; exact h.mpr e
  · rw [decide_eq_false e]
    cases q : PyData.eqvAll (xs.map eHs) (ys.map eHs) with
    | false => rfl
    | true => exact absurd (h.mp q) e
end Ph

set_option Elab.async false
set_option linter.all false
set_option maxRecDepth 100000
set_option maxHeartbeats 2000000
namespace Ph
open PySem PySem.Spec L2
section
variable {K : PySem.W.Frag} {δ : List Sl} {ta tb tc te tl : TE} {i j k : Int} {ds es : List PyData} {d : PyData} {wi : TI} {n : Nat} {Y Y' : Nat → PyData} {side : Hp → Hp → Prop}
theorem eqv_nil (ds : List PyData) : PyData.eqv (.list ds) (.list []) = decide (ds = []) := by
  cases ds with
  | nil => rfl
  | cons a r => rfl
theorem evd_eqE (ha : EvR K ta δ (.list ds)) (hs : SeqAt.shaped (.list ds) = true) : EvD K (tOp (oEqD K) ta (tLst tNil)) δ (.bool (decide (ds = []))) := by
  have h := evd_eqD ha (evr_n (evn_lst ea_nil (by decide))) hs (by decide)
  rw [eqv_nil] at h
  exact h
theorem evd_neE (ha : EvR K ta δ (.list ds)) (hs : SeqAt.shaped (.list ds) = true) : EvD K (tOp (oNeD K) ta (tLst tNil)) δ (.bool (!decide (ds = []))) := by
  have h := evd_neD ha (evr_n (evn_lst ea_nil (by decide))) hs (by decide)
  rw [eqv_nil] at h
  exact h
theorem map_nil {α : Type} {en : α → PyData} (xs : List α) : decide (xs.map en = []) = decide (xs = []) := by cases xs <;> rfl
theorem EvI.congr (h : EvI K wi δ n Y side) (e : ∀ i, i < n → Y i = Y' i) : EvI K wi δ n Y' side := fun B σ H G F g R q => h B σ H G F g R fun J G' H' nn w =>
  q J G' H' nn ⟨w.goes, w.stops, fun i H G x H' hi a b c y => by rw [← e i hi]; exact w.yields i H G x H' hi a b c y⟩
theorem getD_map {α : Type} [Inhabited α] {en : α → PyData} {xs : List α} {i : Nat} (h : i < xs.length) : (xs.map en).getD i .none = en (xs.getD i default) := by
  simp [List.getD_eq_getElem?_getD, h]
theorem evi_listm {α : Type} [Inhabited α] {xs : List α} {en : α → PyData} (h : EvD K tl δ (.list (xs.map en))) : EvI K (iList K tl) δ xs.length (fun i => en (xs.getD i default)) noSide := by
  have k := evi_list h
  rw [List.length_map] at k
  exact k.congr fun i hi => getD_map hi
theorem evi_enumm {α : Type} [Inhabited α] {xs : List α} {en : α → PyData} (h : EvD K tl δ (.list (xs.map en))) : EvI K (iEnum K (tCons tl tNil)) δ xs.length (fun i => .tuple [.int (i : Int), en (xs.getD i default)]) noSide := by
  have k := evi_enum h
  rw [List.length_map] at k
  exact k.congr fun i hi => by rw [getD_map hi]
theorem evi_zipm {α β : Type} [Inhabited α] [Inhabited β] {xs : List α} {ys : List β} {en : α → PyData} {eo : β → PyData} (ha : EvD K ta δ (.list (xs.map en))) (hb : EvD K tb δ (.list (ys.map eo))) (hn : xs.length = ys.length) :
    EvI K (iZip K (tCons ta (tCons tb tNil))) δ xs.length (fun i => .tuple [en (xs.getD i default), eo (ys.getD i default)]) noSide :=
  (evi_zip (n := xs.length) ha hb (by rw [List.length_map, List.length_map]; omega)).congr fun i hi => by rw [getD_map hi, getD_map (by omega)]
theorem evi_zipMm {α β : Type} [Inhabited α] [Inhabited β] {xs : List α} {ys : List β} {en : α → PyData} {eo : β → PyData} {p : Addr} {k : Nat} (ha : EvD K ta δ (.list (xs.map en))) (hb : δ[k]? = some (.m p (ys.map eo))) (hn : xs.length = ys.length) :
    EvI K (iZip K (tCons ta (tCons (tVar k) tNil))) δ xs.length (fun i => .tuple [en (xs.getD i default), eo (ys.getD i default)]) (mSide K p (ys.map eo)) :=
  (evi_zipM (n := xs.length) ha hb (by rw [List.length_map, List.length_map]; omega)).congr fun i hi => by rw [getD_map hi, getD_map (by omega)]
end
theorem take_snoc {α : Type} [Inhabited α] (xs : List α) {i : Nat} (h : i < xs.length) : xs.take (i + 1) = xs.take i ++ [xs.getD i default] := by
  rw [List.take_add_one, List.getElem?_eq_getElem h, List.getD_eq_getElem?_getD, List.getElem?_eq_getElem h]
  rfl
theorem getD_mem {α : Type} [Inhabited α] {xs : List α} {i : Nat} (h : i < xs.length) : xs.getD i default ∈ xs := by
  rw [List.getD_eq_getElem?_getD, List.getElem?_eq_getElem h]
  exact List.getElem_mem h
theorem getD_mem0 {xs : List Int} {i : Nat} (h : i < xs.length) : xs.getD i 0 ∈ xs := getD_mem (α := Int) h
theorem getD_mapI {α : Type} [Inhabited α] {f : α → Int} {xs : List α} {i : Nat} (h : i < xs.length) : (xs.map f).getD i 0 = f (xs.getD i default) := by
  simp [List.getD_eq_getElem?_getD, h]
theorem toNat_add1 (k : Nat) : ((k : Int) + 1).toNat = k + 1 := by omega
end Ph

set_option Elab.async false
set_option linter.all false
set_option maxRecDepth 100000
set_option maxHeartbeats 2000000
namespace Ph
open PySem PySem.Spec L2
/-! ### range(0, n, c), as a loop's and as a list's source -/
theorem rgc_pos {n m : Nat} {c : Int} (hc : 1 ≤ c) (hc2 : c ≤ 1000) (hn : n ≤ 1000000) (hm : ((n : Int) + c - 1) / c = (m : Int)) : RgC 0 n c m := by
  have hs : Builtin.Range.rangeSize 0 n c = (m : Int) := (PyProof.Rows.rangeSize_pos hc (by omega)).trans hm
  have hm1 : (m : Int) ≤ n := by
    rw [← hm]
    by_cases h0 : n = 0
    · subst h0
      rw [Int.ediv_eq_zero_of_lt (by omega) (by omega)]
      exact Int.le_refl _
    · have h1 : ((n : Int) - 1) / c ≤ n - 1 := Int.ediv_le_self c (by omega)
      have e : (n : Int) + c - 1 = (n - 1) + 1 * c := by omega
      rw [e, Int.add_mul_ediv_right _ _ (by omega)]
      omega
  have hm0 : (m : Int) * c ≤ 1000000 * 1000 := by
    have a1 : (m : Int) * c ≤ m * 1000 := Int.mul_le_mul_of_nonneg_left hc2 (by omega)
    omega
  have hm2 : 0 ≤ (m : Int) * c := Int.mul_nonneg (by omega) (by omega)
  refine ⟨by omega, by omega, ?_, hs⟩
  unfold Builtin.Range.small
  rw [hs]
  simp only [Builtin.Range.rangeFitsLong, Bool.and_eq_true, Bool.or_eq_true, decide_eq_true_eq, beq_iff_eq]
  have hc0 : c > 0 := by omega
  simp only [hc0, if_true, Bool.and_eq_true, decide_eq_true_eq]
  omega
section
open PyProof.Rows
variable {X : Cx} {a b c : Expr} {ta tb tc : TE}
def PRg3 (X : Cx) (e : Expr) (t : L2.St → Hp → (Int → Int → Int → Hp → Prop) → Prop) : Prop :=
  ∀ (pins : List (Addr × Obj)) (s : Shared) (σ : L2.St) (H : Hp) (Q : Int → Int → Int → Hp → Prop), L2.Inv X pins σ H s → t σ H Q →
    wpAny (model X.prog X.w) X.A (eval e X.env) (fun x s' => ∃ r a b c t u v H', x = .ref r ∧ PySem.IsRange s'.heap r a b c t u v ∧ L2.Inv X pins σ H' s' ∧ Q a b c H') X.xe s
/-- list(range(a, b, c)) -/
def tRg3 (ta tb tc : TE) : L2.St → Hp → (Int → Int → Int → Hp → Prop) → Prop := fun σ H Q => ta σ H fun x H1 => tb σ H1 fun y H2 => tc σ H2 fun z H3 => ∃ i j k, x = .int i ∧ y = .int j ∧ z = .int k ∧ (k ≠ 0 ∧ k.natAbs < 1073741824) ∧ Q i j k H3
def tLstRg3 (te : L2.St → Hp → (Int → Int → Int → Hp → Prop) → Prop) : TE := fun σ H Q => te σ H fun a b c H1 => ∃ n, RgC a b c n ∧ n ≤ 1000000 ∧ ∀ q, H1 q = none → Q (.ref q) (upd H1 q (.lst ((List.range n).map fun (i : Nat) => V.int (a + (i : Int) * c))))
theorem prg_3 {p pos : Pos} (hg : Gl X "range") (hm : X.mg "range" = none) (ha : PE X a ta) (hb : PE X b tb) (hc : PE X c tc) (na : starEach [a, b, c] X.env = (false, eval a X.env) :: starEach [b, c] X.env := by rfl)
    (nb : starEach [b, c] X.env = (false, eval b X.env) :: starEach [c] X.env := by rfl) (nc : starEach [c] X.env = (false, eval c X.env) :: starEach [] X.env := by rfl)
    (hp : (backTo pos (starEach [b, c] X.env)).any (·.1) = false := by rfl) (hp2 : (backTo pos (starEach [c] X.env)).any (·.1) = false := by rfl) : PRg3 X (.Call (.Name "range" p) [a, b, c] [] pos) (tRg3 ta tb tc) := by
  intro pins s σ H Q I h
  refine PyProof.Rows.Call_ (ld_blt I hg hm PyProof.Rows.boot_range (PyProof.Rows.callWith_type1 (args_cons (thn (ha.run pins s σ H _ I h) fun v s1 ⟨x, H1, I1, r1, q1⟩ => args_cons (thn (hb.run pins s1 σ H1 _ I1 q1) fun u s2 ⟨y, H2, I2, r2, q2⟩ => one_arg hc I2 q2 (fun t s3 z H3 I3 r3 q => ?_) nc) nb) na) na hp))
  obtain ⟨i, j, k, rfl, rfl, rfl, ⟨c0, c1⟩, q⟩ := q
  obtain ⟨t, rfl⟩ := r1
  obtain ⟨t', rfl⟩ := r2
  obtain ⟨t'', rfl⟩ := r3
  exact call_range_3 c0 ⟨_, i, j, k, _, _, _, H3, rfl, IsRange.new _ _ _ _ _ _ _, I3.kept fun b u e => Heap.get?_push_of_some _ e, q⟩ (.inl (PyProof.noPylong_small c1))
theorem pe_listRg3 {e : Expr} {te : L2.St → Hp → (Int → Int → Int → Hp → Prop) → Prop} {p pos : Pos} (hc : X.calm = true) (hg : Gl X "list") (hm : X.mg "list" = none) (he : PRg3 X e te)
    (na : starEach [e] X.env = (false, eval e X.env) :: starEach [] X.env := by rfl) : PE X (.Call (.Name "list" p) [e] [] pos) (tLstRg3 te) := by
  refine ⟨fun pins s σ H Q I h => ?_⟩
  refine PyProof.Rows.Call_ (ld_blt I hg hm boot_list (PyProof.Rows.callWith_type1 (args_cons (thn (he pins s σ H _ I h) fun x s1 ⟨r, a, b, c, t, u, v, H1, ex, hr, I1, n, ok, hn, q⟩ => args_nil ?_) na) na))
  subst ex
  obtain ⟨c0, c1, c2, c3⟩ := ok
  refine call_list_range (n := n) (I1.ok.hd hc) hr c2 c3 (by omega) fun h' tk acc c' hk e' hi => ?_
  have el : acc.toList.length = n := by rw [Array.length_toList]; exact hi.1
  refine ⟨.ref s1.heap.objs.size, upd H1 s1.heap.objs.size (.lst ((List.range n).map fun (i : Nat) => V.int (a + (i : Int) * c))), I1.laid hk (Nat.le_refl _) (show ObjOk X.prog X.w _ _ _ (.lst _) from ⟨?_, acc.toList, c', ?_, ?_⟩), rfl, q _ (I1.hok.fresh (Nat.le_refl _))⟩
  · rw [List.length_map, List.length_range, sizeLine_eq]; omega
  · rw [← el]
    refine vals_of_get acc.toList _ fun j u hj => ?_
    obtain ⟨t, rfl⟩ := hi.2 j u (by rw [← hj, Array.getElem?_toList])
    exact ⟨t, rfl⟩
  · rw [Array.toArray_toList]; exact e'
end
section
variable {K : PySem.W.Frag} {δ : List Sl} {ta tb tc : TE} {i j k : Int} {n m : Nat}
theorem evn_listRg (ha : EvD K ta δ (.int (n : Int))) (hn : n ≤ 1000000) : EvN K (tLstRg (tRg1 ta)) δ ((List.range n).map fun (i : Nat) => PyData.int (i : Int)) := fun B σ H G F g Q q =>
  ha B σ H G F g _ fun x G1 H1 n1 p => by
    cases p
    refine ⟨(n : Int), rfl, ⟨by omega, by omega, by omega, by omega, by omega⟩, fun l hl => ?_⟩
    refine q l _ G1 _ (n1.trans (Nu.laid n1.s hl)) (n1.s.free hl) (n1.h.free hl) upd_same ?_
    have e : rgV 0 (n : Int) = ((List.range n).map fun (i : Nat) => (i : Int)).map V.int := by
      unfold rgV
      rw [Int.sub_zero, Int.toNat_natCast, List.map_map]
      refine List.map_congr_left fun i _ => ?_
      simp
    have e2 : ((List.range n).map fun (i : Nat) => PyData.int (i : Int)) = ((List.range n).map fun (i : Nat) => (i : Int)).map PyData.int := by rw [List.map_map]; rfl
    rw [e, e2]
    exact ints_dpAll _
theorem evn_listRg3 {c : Int} (ha : EvD K ta δ (.int i)) (hb : EvD K tb δ (.int j)) (hc : EvD K tc δ (.int c)) (ok : RgC i j c n) (hn : n ≤ 1000000) : EvN K (tLstRg3 (tRg3 ta tb tc)) δ ((List.range n).map fun (k : Nat) => PyData.int (i + (k : Int) * c)) := fun B σ H G F g Q q =>
  ha B σ H G F g _ fun v G1 H1 n1 p => hb B σ H1 G1 F (g.up n1) _ fun w G2 H2 n2 p2 => hc B σ H2 G2 F ((g.up n1).up n2) _ fun z G3 H3 n3 p3 => by
    cases p; cases p2; cases p3
    have nn := (n1.trans n2).trans n3
    refine ⟨i, j, c, rfl, rfl, rfl, ⟨ok.1, ok.2.1⟩, n, ok, hn, fun l hl => ?_⟩
    refine q l _ G3 _ (nn.trans (Nu.laid nn.s hl)) (nn.s.free hl) (nn.h.free hl) upd_same ?_
    have e : ((List.range n).map fun (k : Nat) => V.int (i + (k : Int) * c)) = ((List.range n).map fun (k : Nat) => (i + (k : Int) * c)).map V.int := by rw [List.map_map]; rfl
    have e2 : ((List.range n).map fun (k : Nat) => PyData.int (i + (k : Int) * c)) = ((List.range n).map fun (k : Nat) => (i + (k : Int) * c)).map PyData.int := by rw [List.map_map]; rfl
    rw [e, e2]
    exact ints_dpAll _
end
end Ph

set_option Elab.async false
set_option linter.all false
set_option maxRecDepth 100000
set_option maxHeartbeats 2000000
namespace Ph
/-! ### nearest posts: the mathematics -/
/-- the place of a house told by a count -/
def pl (road : List (Int × Int)) (p : Int) : Int := (road.getD p.toNat default).1
/-- the pointer moves on while the next post is nearer -/
def adv (q : List Int) (x : Int) (a : Nat) : Nat :=
  if a + 1 < q.length ∧ (q.getD (a + 1) 0 - x).natAbs < (q.getD a 0 - x).natAbs then adv q x (a + 1) else a
termination_by q.length - a
theorem adv_go {q : List Int} {x : Int} {a : Nat} (h : a + 1 < q.length ∧ (q.getD (a + 1) 0 - x).natAbs < (q.getD a 0 - x).natAbs) : adv q x a = adv q x (a + 1) := by
  rw [adv, if_pos h]
theorem adv_stop {q : List Int} {x : Int} {a : Nat} (h : ¬ (a + 1 < q.length ∧ (q.getD (a + 1) 0 - x).natAbs < (q.getD a 0 - x).natAbs)) : adv q x a = a := by
  rw [adv, if_neg h]
theorem adv_ge (q : List Int) (x : Int) (a : Nat) : a ≤ adv q x a := by
  by_cases h : a + 1 < q.length ∧ (q.getD (a + 1) 0 - x).natAbs < (q.getD a 0 - x).natAbs
  · rw [adv_go h]
    exact Nat.le_trans (Nat.le_succ a) (adv_ge q x (a + 1))
  · rw [adv_stop h]
    exact Nat.le_refl _
termination_by q.length - a
theorem adv_lt (q : List Int) (x : Int) (a : Nat) (ha : a < q.length) : adv q x a < q.length := by
  by_cases h : a + 1 < q.length ∧ (q.getD (a + 1) 0 - x).natAbs < (q.getD a 0 - x).natAbs
  · rw [adv_go h]
    exact adv_lt q x (a + 1) h.1
  · rw [adv_stop h]
    exact ha
termination_by q.length - a
theorem adv_next (q : List Int) (x : Int) (a : Nat) (h1 : adv q x a + 1 < q.length) : (q.getD (adv q x a) 0 - x).natAbs ≤ (q.getD (adv q x a + 1) 0 - x).natAbs := by
  by_cases h : a + 1 < q.length ∧ (q.getD (a + 1) 0 - x).natAbs < (q.getD a 0 - x).natAbs
  · rw [adv_go h] at h1 ⊢
    exact adv_next q x (a + 1) h1
  · rw [adv_stop h] at h1 ⊢
    exact Nat.le_of_not_lt fun z => h ⟨h1, z⟩
termination_by q.length - a
/-- pointers behind the houses xs -/
def ptrs (q : List Int) : List Int → Nat → List Nat
  | [], _ => []
  | x :: xs, a => adv q x a :: ptrs q xs (adv q x a)
def ptr (q : List Int) (xs : List Int) (a : Nat) : Nat := xs.foldl (fun a x => adv q x a) a
theorem ptrs_snoc (q : List Int) (x : Int) : ∀ (xs : List Int) (a : Nat), ptrs q (xs ++ [x]) a = ptrs q xs a ++ [adv q x (ptr q xs a)]
  | [], _ => rfl
  | y :: xs, a => by
    show adv q y a :: ptrs q (xs ++ [x]) (adv q y a) = _
    rw [ptrs_snoc q x xs]
    rfl
theorem ptr_snoc (q : List Int) (x : Int) (xs : List Int) (a : Nat) : ptr q (xs ++ [x]) a = adv q x (ptr q xs a) := by
  unfold ptr
  rw [List.foldl_append]
  rfl
theorem ptrs_length (q : List Int) : ∀ (xs : List Int) (a : Nat), (ptrs q xs a).length = xs.length
  | [], _ => rfl
  | y :: xs, a => congrArg (· + 1) (ptrs_length q xs _)
theorem ptr_lt {q : List Int} : ∀ (xs : List Int) (a : Nat), a < q.length → ptr q xs a < q.length
  | [], _, h => h
  | x :: xs, a, h => ptr_lt xs (adv q x a) (adv_lt q x a h)
theorem ptrs_lt {q : List Int} : ∀ (xs : List Int) (a : Nat), a < q.length → ∀ p ∈ ptrs q xs a, p < q.length
  | [], _, _, _, hp => nomatch hp
  | x :: xs, a, h, p, hp => by
    rcases List.mem_cons.mp hp with e | hp
    · rw [e]; exact adv_lt q x a h
    · exact ptrs_lt xs _ (adv_lt q x a h) p hp
/-- the i-th pointer -/
theorem ptrs_get (q : List Int) (xs : List Int) (a : Nat) (i : Nat) (hi : i < xs.length) : (ptrs q xs a)[i]? = some (adv q (xs.getD i 0) (ptr q (xs.take i) a)) := by
  induction xs generalizing a i with
  | nil => simp at hi
  | cons y xs ih =>
    cases i with
    | zero => rfl
    | succ i =>
      show (ptrs q xs (adv q y a))[i]? = _
      rw [ih _ _ (by simpa using hi)]
      rfl
/-- the posts' places rise: what lies behind the pointer is no nearer, for all houses to come -/
theorem adv_prev {q : List Int} (hq : ∀ i j, i < j → j < q.length → q.getD i 0 < q.getD j 0) {x y : Int} (hxy : x ≤ y) (a : Nat) (ha : a < q.length)
    (hp : 0 < a → 2 * x > q.getD (a - 1) 0 + q.getD a 0) : 0 < adv q x a → 2 * y > q.getD (adv q x a - 1) 0 + q.getD (adv q x a) 0 := by
  by_cases h : a + 1 < q.length ∧ (q.getD (a + 1) 0 - x).natAbs < (q.getD a 0 - x).natAbs
  · rw [adv_go h]
    refine adv_prev hq hxy (a + 1) h.1 fun _ => ?_
    have h1 := hq a (a + 1) (by omega) h.1
    have h2 := h.2
    show 2 * x > q.getD a 0 + q.getD (a + 1) 0
    omega
  · rw [adv_stop h]
    intro h0
    have := hp h0
    omega
termination_by q.length - a
end Ph

set_option Elab.async false
set_option linter.all false
set_option maxRecDepth 100000
set_option maxHeartbeats 2000000
namespace Ph
open PySem PySem.Spec L2
/-! ### what each def gives -/
def isNum : PyData → Bool
  | .int _ => true
  | _ => false
def isHouse : PyData → Bool
  | .tuple [.int _, .int l] => decide (0 ≤ l)
  | _ => false
/-- a road: the places rise, the letters are no less than nought; sizes -/
structure RoadOk (r : List (Int × Int)) : Prop where
  rise : ∀ i, i + 1 < r.length → (r.getD i default).1 < (r.getD (i + 1) default).1
  let0 : ∀ h ∈ r, 0 ≤ h.2
  len : r.length ≤ 1000
  big : ∀ h ∈ r, h.1.natAbs < 2 ^ 300 ∧ h.2.natAbs < 2 ^ 300
def risingB (n : Int) : Int → List Int → Bool
  | _, [] => true
  | last, p :: ps => decide (last < p) && decide (p < n) && risingB n p ps
def arePosts (n : Nat) (ps : List Int) : Bool := risingB n (-1) ps && (!decide (ps = []) || decide (n = 0))
/-- the nearest posts, house by house -/
def nearL (r : List (Int × Int)) (ps : List Int) : List Int := (ptrs (ps.map (pl r)) (r.map (·.1)) 0).map fun a => ps.getD a 0
def wayT (r : List (Int × Int)) (x : (Int × Int) × Int) : Int := x.1.2 * ((x.1.1 - pl r x.2).natAbs : Int)
def wayL (r : List (Int × Int)) (ps : List Int) : Int := ((r.zip (nearL r ps)).map (wayT r)).sum
/-! ### posts -/
theorem risingB_iff (n : Int) : ∀ (xs : List Int) (last : Int), risingB n last xs = true → (∀ i, i < xs.length → last < xs.getD i 0 ∧ xs.getD i 0 < n) ∧ ∀ i j, i < j → j < xs.length → xs.getD i 0 < xs.getD j 0
  | [], _, _ => ⟨fun i h => absurd h (by simp), fun i j _ h => absurd h (by simp)⟩
  | x :: xs, last, h => by
    have h : (decide (last < x) && decide (x < n) && risingB n x xs) = true := h
    simp only [Bool.and_eq_true, decide_eq_true_eq] at h
    obtain ⟨⟨h1, h2⟩, h3⟩ := h
    obtain ⟨k1, k2⟩ := risingB_iff n xs x h3
    refine ⟨fun i hi => ?_, fun i j hij hj => ?_⟩
    · cases i with
      | zero => exact ⟨h1, h2⟩
      | succ i =>
        have := k1 i (by simpa using hi)
        exact ⟨Int.lt_trans h1 this.1, this.2⟩
    · cases j with
      | zero => omega
      | succ j =>
        have hj' : j < xs.length := by simpa using hj
        cases i with
        | zero => exact (k1 j hj').1
        | succ i => exact k2 i j (by omega) hj'
/-- what are_posts says -/
structure PostsOk (n : Nat) (ps : List Int) : Prop where
  bnd : ∀ i, i < ps.length → 0 ≤ ps.getD i 0 ∧ ps.getD i 0 < n
  rise : ∀ i j, i < j → j < ps.length → ps.getD i 0 < ps.getD j 0
  some : 0 < n → 0 < ps.length
theorem postsOk {n : Nat} {ps : List Int} (h : arePosts n ps = true) : PostsOk n ps := by
  unfold arePosts at h
  simp only [Bool.and_eq_true, Bool.or_eq_true, Bool.not_eq_true', decide_eq_false_iff_not, decide_eq_true_eq] at h
  obtain ⟨h1, h2⟩ := h
  obtain ⟨k1, k2⟩ := risingB_iff n ps (-1) h1
  refine ⟨fun i hi => ⟨by have := (k1 i hi).1; omega, (k1 i hi).2⟩, k2, fun hn => ?_⟩
  rcases h2 with h2 | h2
  · exact List.length_pos_iff.mpr h2
  · omega
theorem nearL_length (r : List (Int × Int)) (ps : List Int) : (nearL r ps).length = r.length := by
  unfold nearL
  rw [List.length_map, ptrs_length, List.length_map]
theorem nearL_bnd {r : List (Int × Int)} {ps : List Int} (h : PostsOk r.length ps) {i : Nat} (hi : i < r.length) : 0 ≤ (nearL r ps).getD i default ∧ (nearL r ps).getD i default < r.length := by
  have hq : 0 < (ps.map (pl r)).length := by rw [List.length_map]; exact h.some (by omega)
  have e := ptrs_get (ps.map (pl r)) (r.map (·.1)) 0 i (by rw [List.length_map]; exact hi)
  have hl : i < (ptrs (ps.map (pl r)) (r.map (·.1)) 0).length := by rw [ptrs_length, List.length_map]; exact hi
  have hm := ptrs_lt (r.map (·.1)) 0 hq _ (List.mem_of_getElem? e)
  rw [List.length_map] at hm
  have e2 : (nearL r ps).getD i default = ps.getD (adv (ps.map (pl r)) ((r.map (·.1)).getD i 0) (ptr (ps.map (pl r)) ((r.map (·.1)).take i) 0)) 0 := by
    unfold nearL
    rw [List.getD_eq_getElem?_getD, List.getElem?_map, e]
    rfl
  rw [e2]
  exact h.bnd _ hm
/-! the law's road -/
def lApart (m : Int) : Int := ([3, 40, 1, 10 ^ 20] : List Int).getD (m % 4).toNat 0
def lMost (m : Int) : Int := ([2, 30, 1000, 10 ^ 25] : List Int).getD (m / 4 % 4).toNat 0
def lPlace0 (m : Int) : Int := m / 16 % 41 - 20
/-- the place behind k houses -/
def lPlace (s : List Int) : Nat → Int
  | 0 => lPlace0 s.sum
  | k + 1 => lPlace s k + 1 + s.getD (2 * k) 0 % lApart s.sum
def lLet (s : List Int) (k : Nat) : Int := (if 2 * k + 1 = s.length then (if k = 0 then s.getD (s.length - 1) 0 else s.getD (2 * k - 1) 0) else s.getD (2 * k + 1) 0) % lMost s.sum
def lBase (s : List Int) : List (Int × Int) := (List.range ((s.length + 1) / 2)).map fun k => (lPlace s (k + 1), lLet s k)
def lMany (m : Int) (b : List (Int × Int)) : List (Int × Int) := (List.range (40 + m % 5).toNat).map fun (i : Nat) => (50 * (i : Int) + (b.getD (i % b.length) default).1 % 50, (b.getD (i % b.length) default).2)
def lawRoad (s : List Int) : List (Int × Int) := if s.sum / 64 % 8 = 1 ∧ lBase s ≠ [] then lMany s.sum (lBase s) else lBase s
/-- two hundred houses by a few -/
def lawRoad2 (b : List (Int × Int)) : List (Int × Int) := (List.range 200).map fun (i : Nat) => (9 * (i : Int) + (b.getD (i % b.length) default).1 % 8, (b.getD (i % b.length) default).2)
def lawDrawn (s : List Int) (n : Nat) : List Int := ((List.range n).filter fun (i : Nat) => decide (s.getD i 0 / 7 % 4 = 0)).map fun (i : Nat) => (i : Int)
def lawPosts (s : List Int) (n : Nat) : List Int := if lawDrawn s n ≠ [] ∨ n = 0 then lawDrawn s n else [s.sum % n]
/-! relations -/
def R_is_number : List PyData → PyData → Prop := fun ds d => ∃ x, ds = [x] ∧ d = .bool (isNum x)
def R_is_house : List PyData → PyData → Prop := fun ds d => ∃ x, ds = [x] ∧ d = .bool (isHouse x)
def R_asked_road : List PyData → PyData → Prop := fun ds d => ∃ r, ds = [eRoad r] ∧ RoadOk r ∧ d = .none
def R_are_posts : List PyData → PyData → Prop := fun ds d => ∃ r ps, ds = [eRoad r, eInts ps] ∧ r.length ≤ 1000 ∧ d = .bool (arePosts r.length ps)
def R_asked_posts : List PyData → PyData → Prop := fun ds d => ∃ r ps, ds = [eRoad r, eInts ps] ∧ r.length ≤ 1000 ∧ ps.length ≤ 1000 ∧ arePosts r.length ps = true ∧ d = .none
def R_nearest_of : List PyData → List PyData → Prop := fun ds d => ∃ r ps, ds = [eRoad r, eInts ps] ∧ RoadOk r ∧ arePosts r.length ps = true ∧ d = (nearL r ps).map .int
def R_way_of : List PyData → PyData → Prop := fun ds d => ∃ r ps, ds = [eRoad r, eInts ps] ∧ RoadOk r ∧ arePosts r.length ps = true ∧ d = .int (wayL r ps)
def R_nearest : List PyData → List PyData → Prop := fun ds d => ∃ r ps, ds = [eRoad r, eInts ps] ∧ RoadOk r ∧ arePosts r.length ps = true ∧ ps.length ≤ 1000 ∧ d = (nearL r ps).map .int
def R_way : List PyData → PyData → Prop := fun ds d => ∃ r ps, ds = [eRoad r, eInts ps] ∧ RoadOk r ∧ arePosts r.length ps = true ∧ ps.length ≤ 1000 ∧ d = .int (wayL r ps)
def R_law_road : List PyData → List PyData → Prop := fun ds d => ∃ s, ds = [eInts s] ∧ s.length ≤ 63 ∧ d = (lawRoad s).map eHs
def R_law_numbers : List PyData → PyData → Prop := fun ds d => ∃ ns, ds = [eInts ns] ∧ ns.length ≤ 1000 ∧ d = .bool true
def R_law_posts : List PyData → PyData → Prop := fun ds d => ∃ s n, ds = [eInts s, .int (n : Nat)] ∧ s.length ≤ 63 ∧ n ≤ s.length ∧ d = eInts (lawPosts s n)
/-! promises -/
def sp_is_number (K : PySem.W.Frag) : Sp := Pr K R_is_number
def sp_is_house (K : PySem.W.Frag) : Sp := Pr K R_is_house
def sp_asked_road (K : PySem.W.Frag) : Sp := Pr K R_asked_road
def sp_are_posts (K : PySem.W.Frag) : Sp := Pr K R_are_posts
def sp_asked_posts (K : PySem.W.Frag) : Sp := Pr K R_asked_posts
def sp_nearest_of (K : PySem.W.Frag) : Sp := PrN K R_nearest_of
def sp_way_of (K : PySem.W.Frag) : Sp := Pr K R_way_of
def sp_nearest (K : PySem.W.Frag) : Sp := PrN K R_nearest
def sp_way (K : PySem.W.Frag) : Sp := Pr K R_way
def sp_law_road (K : PySem.W.Frag) : Sp := PrN K R_law_road
def sp_law_numbers (K : PySem.W.Frag) : Sp := Pr K R_law_numbers
def sp_law_posts (K : PySem.W.Frag) : Sp := Pr K R_law_posts
theorem len_is_number : ∀ ds d, R_is_number ds d → ds.length = 1 := by rintro _ _ ⟨_, rfl, _⟩; rfl
theorem len_is_house : ∀ ds d, R_is_house ds d → ds.length = 1 := by rintro _ _ ⟨_, rfl, _⟩; rfl
theorem len_asked_road : ∀ ds d, R_asked_road ds d → ds.length = 1 := by rintro _ _ ⟨_, rfl, _⟩; rfl
theorem len_are_posts : ∀ ds d, R_are_posts ds d → ds.length = 2 := by rintro _ _ ⟨_, _, rfl, _⟩; rfl
theorem len_asked_posts : ∀ ds d, R_asked_posts ds d → ds.length = 2 := by rintro _ _ ⟨_, _, rfl, _⟩; rfl
theorem len_nearest_of : ∀ ds d, R_nearest_of ds d → ds.length = 2 := by rintro _ _ ⟨_, _, rfl, _⟩; rfl
theorem len_way_of : ∀ ds d, R_way_of ds d → ds.length = 2 := by rintro _ _ ⟨_, _, rfl, _⟩; rfl
theorem len_nearest : ∀ ds d, R_nearest ds d → ds.length = 2 := by rintro _ _ ⟨_, _, rfl, _⟩; rfl
theorem len_way : ∀ ds d, R_way ds d → ds.length = 2 := by rintro _ _ ⟨_, _, rfl, _⟩; rfl
theorem len_law_road : ∀ ds d, R_law_road ds d → ds.length = 1 := by rintro _ _ ⟨_, rfl, _⟩; rfl
theorem len_law_numbers : ∀ ds d, R_law_numbers ds d → ds.length = 1 := by rintro _ _ ⟨_, rfl, _⟩; rfl
theorem len_law_posts : ∀ ds d, R_law_posts ds d → ds.length = 2 := by rintro _ _ ⟨_, _, rfl, _⟩; rfl
end Ph

set_option Elab.async false
set_option linter.all false
set_option maxRecDepth 100000
set_option maxHeartbeats 2000000
namespace Ph
/-! ### the law's roads are roads -/
theorem lApart_b (m : Int) : 0 < lApart m ∧ lApart m ≤ 10 ^ 20 := by
  have h1 : 0 ≤ m % 4 := Int.emod_nonneg _ (by decide)
  have h2 : m % 4 < 4 := Int.emod_lt_of_pos _ (by decide)
  have h : m % 4 = 0 ∨ m % 4 = 1 ∨ m % 4 = 2 ∨ m % 4 = 3 := by omega
  unfold lApart
  rcases h with h | h | h | h <;> rw [h] <;> decide
theorem lMost_b (m : Int) : 0 < lMost m ∧ lMost m ≤ 10 ^ 25 := by
  have h1 : 0 ≤ m / 4 % 4 := Int.emod_nonneg _ (by decide)
  have h2 : m / 4 % 4 < 4 := Int.emod_lt_of_pos _ (by decide)
  have h : m / 4 % 4 = 0 ∨ m / 4 % 4 = 1 ∨ m / 4 % 4 = 2 ∨ m / 4 % 4 = 3 := by omega
  unfold lMost
  rcases h with h | h | h | h <;> rw [h] <;> decide
theorem lPlace_b (s : List Int) {A : Nat} (hA : lApart s.sum ≤ (A : Int)) : ∀ k : Nat, (lPlace s k).natAbs ≤ 41 + k * (A + 1)
  | 0 => by
    show (lPlace0 s.sum).natAbs ≤ _
    unfold lPlace0
    have h1 : 0 ≤ s.sum / 16 % 41 := Int.emod_nonneg _ (by decide)
    have h2 : s.sum / 16 % 41 < 41 := Int.emod_lt_of_pos _ (by decide)
    omega
  | k + 1 => by
    have ih := lPlace_b s hA k
    have hb := (lApart_b s.sum).1
    have h1 : 0 ≤ s.getD (2 * k) 0 % lApart s.sum := Int.emod_nonneg _ (by omega)
    have h2 : s.getD (2 * k) 0 % lApart s.sum < lApart s.sum := Int.emod_lt_of_pos _ hb
    show (lPlace s k + 1 + s.getD (2 * k) 0 % lApart s.sum).natAbs ≤ _
    have e : (k + 1) * (A + 1) = k * (A + 1) + (A + 1) := by rw [Nat.add_mul, Nat.one_mul]
    rw [e]
    omega
theorem lBase_length (s : List Int) : (lBase s).length = (s.length + 1) / 2 := by unfold lBase; rw [List.length_map, List.length_range]
theorem lBase_get (s : List Int) {i : Nat} (h : i < (lBase s).length) : (lBase s).getD i default = (lPlace s (i + 1), lLet s i) := by
  have h' : i < (s.length + 1) / 2 := by rw [← lBase_length]; exact h
  unfold lBase
  simp [List.getD_eq_getElem?_getD, h']
theorem mem_getD {α : Type} [Inhabited α] {xs : List α} {x : α} (h : x ∈ xs) : ∃ i, i < xs.length ∧ xs.getD i default = x := by
  obtain ⟨i, hi, e⟩ := List.mem_iff_getElem.mp h
  exact ⟨i, hi, by simp [List.getD_eq_getElem?_getD, hi, e]⟩
theorem lLet_b (s : List Int) (i : Nat) : 0 ≤ lLet s i ∧ lLet s i < 10 ^ 25 := by
  have hb := lMost_b s.sum
  unfold lLet
  refine ⟨Int.emod_nonneg _ (by omega), Int.lt_of_lt_of_le (Int.emod_lt_of_pos _ hb.1) hb.2⟩
theorem roadOk_base {s : List Int} (hs : s.length ≤ 63) : RoadOk (lBase s) := by
  have hl := lBase_length s
  refine ⟨fun i hi => ?_, fun h hh => ?_, by omega, fun h hh => ?_⟩
  · rw [lBase_get s (by omega), lBase_get s (by omega)]
    show lPlace s (i + 1) < lPlace s (i + 1) + 1 + s.getD (2 * (i + 1)) 0 % lApart s.sum
    have h1 : 0 ≤ s.getD (2 * (i + 1)) 0 % lApart s.sum := Int.emod_nonneg _ (by have := (lApart_b s.sum).1; omega)
    omega
  · obtain ⟨i, hi, rfl⟩ := mem_getD hh
    rw [lBase_get s hi]
    exact (lLet_b s i).1
  · obtain ⟨i, hi, rfl⟩ := mem_getD hh
    rw [lBase_get s hi]
    have h2 := lLet_b s i
    refine ⟨?_, ?_⟩
    · show (lPlace s (i + 1)).natAbs < _
      have h1 := lPlace_b s (A := 100000000000000000000) (Int.le_trans (lApart_b s.sum).2 (by decide)) (i + 1)
      have h3 : (i + 1) * (100000000000000000000 + 1) ≤ 64 * (100000000000000000000 + 1) := Nat.mul_le_mul_right _ (by omega)
      have h4 : 41 + 64 * (100000000000000000000 + 1) < 2 ^ 300 := by decide +kernel
      exact Nat.lt_of_le_of_lt h1 (Nat.lt_of_le_of_lt (Nat.add_le_add_left h3 41) h4)
    · show (lLet s i).natAbs < _
      have h6 : (lLet s i).natAbs < 10000000000000000000000000 := by
        have e : (10 : Int) ^ 25 = 10000000000000000000000000 := by decide
        rw [e] at h2
        omega
      exact Nat.lt_trans h6 (by decide +kernel)
/-- forty houses and more, two hundred: by some, c apart -/
theorem roadOk_by {b : List (Int × Int)} (ok : RoadOk b) (hb : b ≠ []) {n : Nat} (hn : n ≤ 1000) {c d : Int} (hd : 0 < d) (hc : d ≤ c) (hcb : c ≤ 1000) :
    RoadOk ((List.range n).map fun (i : Nat) => (c * (i : Int) + (b.getD (i % b.length) default).1 % d, (b.getD (i % b.length) default).2)) := by
  have hp : 0 < b.length := List.length_pos_iff.mpr hb
  have get : ∀ i, i < n → ((List.range n).map fun (i : Nat) => (c * (i : Int) + (b.getD (i % b.length) default).1 % d, (b.getD (i % b.length) default).2)).getD i default = (c * (i : Int) + (b.getD (i % b.length) default).1 % d, (b.getD (i % b.length) default).2) := by
    intro i hi
    simp [List.getD_eq_getElem?_getD, hi]
  have hl : ((List.range n).map fun (i : Nat) => (c * (i : Int) + (b.getD (i % b.length) default).1 % d, (b.getD (i % b.length) default).2)).length = n := by rw [List.length_map, List.length_range]
  have hm : ∀ i, 0 ≤ (b.getD (i % b.length) default).1 % d ∧ (b.getD (i % b.length) default).1 % d < d := fun i => ⟨Int.emod_nonneg _ (by omega), Int.emod_lt_of_pos _ hd⟩
  have hbm : ∀ i, b.getD (i % b.length) default ∈ b := fun i => getD_mem (Nat.mod_lt _ hp)
  refine ⟨fun i hi => ?_, fun h hh => ?_, by omega, fun h hh => ?_⟩
  · rw [get i (by omega), get (i + 1) (by omega)]
    show c * (i : Int) + (b.getD (i % b.length) default).1 % d < c * ((i + 1 : Nat) : Int) + (b.getD ((i + 1) % b.length) default).1 % d
    have e : c * ((i + 1 : Nat) : Int) = c * (i : Int) + c := by rw [Int.natCast_add, Int.mul_add]; simp
    rw [e]
    have h1 := hm i
    have h2 := hm (i + 1)
    omega
  · obtain ⟨i, hi, rfl⟩ := mem_getD hh
    rw [get i (by omega)]
    show 0 ≤ (b.getD (i % b.length) default).2
    exact ok.let0 _ (hbm i)
  · obtain ⟨i, hi, rfl⟩ := mem_getD hh
    rw [get i (by omega)]
    refine ⟨?_, (ok.big _ (hbm i)).2⟩
    show (c * (i : Int) + (b.getD (i % b.length) default).1 % d).natAbs < _
    have h1 := hm i
    have h2 : c * (i : Int) ≤ 1000 * 1000 := by
      have a1 : c * (i : Int) ≤ 1000 * (i : Int) := Int.mul_le_mul_of_nonneg_right hcb (by omega)
      omega
    have h3 : 0 ≤ c * (i : Int) := Int.mul_nonneg (by omega) (by omega)
    have h5 : (c * (i : Int) + (b.getD (i % b.length) default).1 % d).natAbs < 1002000 := by omega
    exact Nat.lt_trans h5 (by decide +kernel)
theorem roadOk_law {s : List Int} (hs : s.length ≤ 63) : RoadOk (lawRoad s) := by
  unfold lawRoad
  split
  · rename_i h
    have h1 : 0 ≤ s.sum % 5 := Int.emod_nonneg _ (by decide)
    have h2 : s.sum % 5 < 5 := Int.emod_lt_of_pos _ (by decide)
    exact roadOk_by (roadOk_base hs) h.2 (by omega) (by decide) (by decide) (by decide)
  · exact roadOk_base hs
theorem lawRoad_len {s : List Int} (hs : s.length ≤ 63) : (lawRoad s).length ≤ 44 ∧ (s.length + 1) / 2 ≤ (lawRoad s).length := by
  have hl := lBase_length s
  unfold lawRoad
  split
  · have h1 : 0 ≤ s.sum % 5 := Int.emod_nonneg _ (by decide)
    have h2 : s.sum % 5 < 5 := Int.emod_lt_of_pos _ (by decide)
    unfold lMany
    rw [List.length_map, List.length_range]
    omega
  · omega
theorem roadOk_law2 {b : List (Int × Int)} (ok : RoadOk b) (hb : b ≠ []) : RoadOk (lawRoad2 b) := roadOk_by ok hb (by decide) (by decide) (by decide) (by decide)
theorem roadOk_nil : RoadOk [] := ⟨fun i h => absurd h (by simp), fun h hh => (nomatch hh), by decide, fun h hh => (nomatch hh)⟩
theorem lawRoad_ne {s : List Int} (hs : s.length ≤ 63) (h : lawRoad s ≠ []) : s ≠ [] := by
  rintro rfl
  apply h
  unfold lawRoad
  have e : lBase [] = [] := rfl
  rw [e]
  split
  · rename_i z; exact absurd rfl z.2
  · rfl
/-! ### nearest, house by house -/
theorem pl_rise {r : List (Int × Int)} (ok : RoadOk r) : ∀ {i j : Nat}, i < j → j < r.length → (r.getD i default).1 < (r.getD j default).1
  | i, 0, h, _ => absurd h (by omega)
  | i, j + 1, h, hj => by
    have h1 := ok.rise j hj
    by_cases e : i = j
    · subst e; exact h1
    · exact Int.lt_trans (pl_rise ok (by omega) (by omega)) h1
theorem near_at {r : List (Int × Int)} {ps : List Int} (ok : RoadOk r) (po : PostsOk r.length ps) : ∀ (i : Nat), i < r.length →
    ∃ a, ptr (ps.map (pl r)) ((r.map (·.1)).take (i + 1)) 0 = a ∧ ptr (ps.map (pl r)) ((r.map (·.1)).take i) 0 ≤ a ∧ a < ps.length ∧ (nearL r ps).getD i default = ps.getD a 0 ∧
      (a + 1 < ps.length → ((r.getD i default).1 - pl r (ps.getD a 0)).natAbs ≤ ((r.getD i default).1 - pl r (ps.getD (a + 1) 0)).natAbs) ∧
      (0 < a → 2 * (r.getD i default).1 > pl r (ps.getD (a - 1) 0) + pl r (ps.getD a 0)) ∧ (0 < a → pl r (ps.getD (a - 1) 0) < pl r (ps.getD a 0)) := by
  have qget : ∀ a, a < ps.length → (ps.map (pl r)).getD a 0 = pl r (ps.getD a 0) := fun a ha => getD_mapI (α := Int) ha
  have hq : ∀ i j, i < j → j < (ps.map (pl r)).length → (ps.map (pl r)).getD i 0 < (ps.map (pl r)).getD j 0 := by
    intro i j hij hj
    rw [List.length_map] at hj
    rw [qget i (by omega), qget j hj]
    have b1 := po.bnd i (by omega)
    have b2 := po.bnd j hj
    have b3 := po.rise i j hij hj
    exact pl_rise ok (by omega) (by omega)
  intro i
  induction i with
  | zero =>
    intro hi
    have h0 : 0 < ps.length := po.some hi
    have hx : (r.map (·.1)).getD 0 default = (r.getD 0 default).1 := getD_mapI (f := fun h : Int × Int => h.1) hi
    have e1 : (r.map (·.1)).take (0 + 1) = (r.map (·.1)).take 0 ++ [(r.getD 0 default).1] := by rw [take_snoc _ (by rw [List.length_map]; exact hi), hx]
    have hal := adv_lt (ps.map (pl r)) (r.getD 0 default).1 0 (by rw [List.length_map]; exact h0)
    rw [List.length_map] at hal
    refine ⟨adv (ps.map (pl r)) (r.getD 0 default).1 0, by rw [e1, ptr_snoc]; rfl, Nat.zero_le _, hal, ?_, fun h => ?_, fun h => ?_, fun h => ?_⟩
    · have e := ptrs_get (ps.map (pl r)) (r.map (·.1)) 0 0 (by rw [List.length_map]; exact hi)
      unfold nearL
      rw [List.getD_eq_getElem?_getD, List.getElem?_map, e]
      have hx' : (r.map (·.1)).getD 0 0 = (r.getD 0 default).1 := hx
      rw [hx']
      rfl
    · have := adv_next (ps.map (pl r)) (r.getD 0 default).1 0 (by rw [List.length_map]; exact h)
      rw [qget _ hal, qget _ h] at this
      omega
    · have := adv_prev hq (Int.le_refl (r.getD 0 default).1) 0 (by rw [List.length_map]; exact h0) (fun z => absurd z (by omega)) h
      rw [qget _ hal, qget _ (by omega)] at this
      exact this
    · have := hq (adv (ps.map (pl r)) (r.getD 0 default).1 0 - 1) (adv (ps.map (pl r)) (r.getD 0 default).1 0) (by omega) (by rw [List.length_map]; exact hal)
      rw [qget _ hal, qget _ (by omega)] at this
      exact this
  | succ i ih =>
    intro hi
    obtain ⟨a, h1, h2, h3, h4, h5, h6, h7⟩ := ih (by omega)
    have h0 : 0 < ps.length := by omega
    have hx : (r.map (·.1)).getD (i + 1) default = (r.getD (i + 1) default).1 := getD_mapI (f := fun h : Int × Int => h.1) hi
    have e1 : (r.map (·.1)).take (i + 1 + 1) = (r.map (·.1)).take (i + 1) ++ [(r.getD (i + 1) default).1] := by rw [take_snoc _ (by rw [List.length_map]; exact hi), hx]
    have hal := adv_lt (ps.map (pl r)) (r.getD (i + 1) default).1 a (by rw [List.length_map]; exact h3)
    rw [List.length_map] at hal
    refine ⟨adv (ps.map (pl r)) (r.getD (i + 1) default).1 a, by rw [e1, ptr_snoc, h1], by rw [h1]; exact adv_ge _ _ _, hal, ?_, fun h => ?_, fun h => ?_, fun h => ?_⟩
    · have e := ptrs_get (ps.map (pl r)) (r.map (·.1)) 0 (i + 1) (by rw [List.length_map]; exact hi)
      unfold nearL
      rw [List.getD_eq_getElem?_getD, List.getElem?_map, e, h1]
      have hx' : (r.map (·.1)).getD (i + 1) 0 = (r.getD (i + 1) default).1 := hx
      rw [hx']
      rfl
    · have := adv_next (ps.map (pl r)) (r.getD (i + 1) default).1 a (by rw [List.length_map]; exact h)
      rw [qget _ hal, qget _ h] at this
      omega
    · have hxy : (r.getD i default).1 ≤ (r.getD (i + 1) default).1 := by have := ok.rise i hi; omega
      have hp : 0 < a → 2 * (r.getD (i + 1) default).1 > (ps.map (pl r)).getD (a - 1) 0 + (ps.map (pl r)).getD a 0 := by
        intro z
        rw [qget _ h3, qget _ (by omega)]
        have := h6 z
        omega
      have := adv_prev hq (Int.le_refl (r.getD (i + 1) default).1) a (by rw [List.length_map]; exact h3) hp h
      rw [qget _ hal, qget _ (by omega)] at this
      exact this
    · have := hq (adv (ps.map (pl r)) (r.getD (i + 1) default).1 a - 1) (adv (ps.map (pl r)) (r.getD (i + 1) default).1 a) (by omega) (by rw [List.length_map]; exact hal)
      rw [qget _ hal, qget _ (by omega)] at this
      exact this
theorem near0 (r : List (Int × Int)) : nearL r [0] = r.map fun _ => 0 := by
  unfold nearL
  have h : ∀ (l : List Nat), l.map (fun a => ([0] : List Int).getD a 0) = List.replicate l.length 0 := by
    intro l
    induction l with
    | nil => rfl
    | cons a l ih =>
      rw [List.map_cons, ih, List.length_cons, List.replicate_succ]
      congr 1
      cases a <;> rfl
  rw [h, ptrs_length, List.length_map, List.map_const']
/-! ### posts by the law -/
theorem rising_of {n : Int} : ∀ {xs : List Int} {last : Int}, (∀ i, i < xs.length → last < xs.getD i 0 ∧ xs.getD i 0 < n) → (∀ i, i + 1 < xs.length → xs.getD i 0 < xs.getD (i + 1) 0) → risingB n last xs = true
  | [], _, _, _ => rfl
  | x :: xs, last, h1, h2 => by
    have a : last < x ∧ x < n := h1 0 (by simp)
    show (decide (last < x) && decide (x < n) && risingB n x xs) = true
    rw [decide_eq_true a.1, decide_eq_true a.2, Bool.true_and, Bool.true_and]
    have mono : ∀ i, i < xs.length → x < xs.getD i 0 := by
      intro i
      induction i with
      | zero => intro hi; exact h2 0 (by simpa using hi)
      | succ i ih =>
        intro hi
        have := h2 (i + 1) (by simpa using hi)
        exact Int.lt_trans (ih (by omega)) this
    exact rising_of (fun i hi => ⟨mono i hi, (h1 (i + 1) (by simpa using hi)).2⟩) fun i hi => h2 (i + 1) (by simpa using hi)
theorem arePosts_of {n : Nat} {xs : List Int} (h1 : ∀ i, i < xs.length → 0 ≤ xs.getD i 0 ∧ xs.getD i 0 < n) (h2 : ∀ i, i + 1 < xs.length → xs.getD i 0 < xs.getD (i + 1) 0) (h3 : xs ≠ []) : arePosts n xs = true := by
  unfold arePosts
  rw [rising_of (fun i hi => ⟨by have := (h1 i hi).1; omega, (h1 i hi).2⟩) h2, decide_eq_false h3]
  rfl
theorem rising_pw {n : Int} : ∀ {xs : List Int} {last : Int}, xs.Pairwise (· < ·) → (∀ x ∈ xs, last < x ∧ x < n) → risingB n last xs = true
  | [], _, _, _ => rfl
  | x :: xs, last, hp, h => by
    obtain ⟨p1, p2⟩ := List.pairwise_cons.mp hp
    have a := h x List.mem_cons_self
    show (decide (last < x) && decide (x < n) && risingB n x xs) = true
    rw [decide_eq_true a.1, decide_eq_true a.2, rising_pw p2 fun y hy => ⟨p1 y hy, (h y (List.mem_cons_of_mem _ hy)).2⟩]
    rfl
theorem arePosts_pw {n : Nat} {xs : List Int} (hp : xs.Pairwise (· < ·)) (h : ∀ x ∈ xs, 0 ≤ x ∧ x < n) (h3 : xs ≠ []) : arePosts n xs = true := by
  unfold arePosts
  rw [rising_pw hp fun x hx => ⟨by have := (h x hx).1; omega, (h x hx).2⟩, decide_eq_false h3]
  rfl
theorem pw_cast : ∀ {l : List Nat}, l.Pairwise (· < ·) → (l.map fun (i : Nat) => (i : Int)).Pairwise (· < ·) := by
  intro l h
  rw [List.pairwise_map]
  exact h.imp fun h => by omega
theorem pw_range (n : Nat) : (List.range n).Pairwise (· < ·) := List.pairwise_lt_range
theorem posts_drawn {s : List Int} {n m : Nat} (hm : m ≤ n) (h : lawDrawn s m ≠ []) : arePosts n (lawDrawn s m) = true := by
  refine arePosts_pw (pw_cast ((pw_range m).filter _)) (fun x hx => ?_) h
  unfold lawDrawn at hx
  obtain ⟨i, hi, rfl⟩ := List.mem_map.mp hx
  have := List.mem_range.mp ((List.mem_filter.mp hi).1)
  omega
theorem posts_all {n : Nat} (h : 0 < n) : arePosts n ((List.range n).map fun (i : Nat) => (i : Int)) = true := by
  refine arePosts_pw (pw_cast (pw_range n)) (fun x hx => ?_) ?_
  · obtain ⟨i, hi, rfl⟩ := List.mem_map.mp hx
    have := List.mem_range.mp hi
    omega
  · intro z
    have := congrArg List.length z
    simp at this
    omega
theorem posts_one {n : Nat} {p : Int} (h : 0 ≤ p ∧ p < n) : arePosts n [p] = true := arePosts_pw (List.pairwise_singleton _ _) (fun x hx => by simp at hx; subst hx; exact h) (by simp)
theorem posts_step {n m : Nat} {c : Int} (hc : 1 ≤ c) (hn : 0 < n) (hm : ((n : Int) + c - 1) / c = (m : Int)) : arePosts n ((List.range m).map fun (k : Nat) => 0 + (k : Int) * c) = true := by
  have hmc : (m : Int) * c ≤ n + c - 1 := by rw [← hm]; exact Int.ediv_mul_le _ (by omega)
  refine arePosts_pw ?_ (fun x hx => ?_) ?_
  · rw [List.pairwise_map]
    refine (pw_range m).imp fun h => ?_
    rename_i a b
    have : (a : Int) * c < (b : Int) * c := Int.mul_lt_mul_of_pos_right (by omega) (by omega)
    omega
  · obtain ⟨k, hk, rfl⟩ := List.mem_map.mp hx
    have hk := List.mem_range.mp hk
    have h1 : 0 ≤ (k : Int) * c := Int.mul_nonneg (by omega) (by omega)
    have h2 : ((k + 1 : Nat) : Int) * c ≤ (m : Int) * c := Int.mul_le_mul_of_nonneg_right (by omega) (by omega)
    have e : ((k + 1 : Nat) : Int) * c = (k : Int) * c + c := by rw [Int.natCast_add, Int.add_mul]; simp
    omega
  · intro z
    have h0 : m = 0 := by have := congrArg List.length z; simpa using this
    subst h0
    have : 1 ≤ ((n : Int) + c - 1) / c := Int.le_ediv_of_mul_le (by omega) (by omega)
    omega
end Ph

set_option Elab.async false
set_option linter.all false
set_option maxRecDepth 100000
set_option maxHeartbeats 2000000
namespace Ph
open PySem PySem.Spec L2
/-! ### readings (printed by gen.py) -/
def t_is_number (K : PySem.W.Frag) : TS := (tSeq (tRet (tAndV (tCB (cIsi K) (tCons (tVar 0) (tCons (tC (.ty "int")) tNil))) (tNotV (tCB (cIsi K) (tCons (tVar 0) (tCons (tC (.ty "bool")) tNil))))))
  tNext)
def t_is_house (K : PySem.W.Frag) : TS := (tSeq (tIfS (tOr (tNot (tB (tCB (cIsi K) (tCons (tVar 0) (tCons (tC (.ty "tuple")) tNil))))) (tOr (tTest (tOp oNeI (tCB (cLen K) (tCons (tVar 0) tNil)) (tC (.int 2)))) (tNot (tB (tCall (sp_is_number K) [] E0 (tCons (tOp (oIxT K) (tVar 0) (tC (.int 0))) tNil))))))
   (tSeq (tRet (tC (.bl false)))
  tNext) tNext)
  (tSeq (tRet (tAndV (tCall (sp_is_number K) [] E0 (tCons (tOp (oIxT K) (tVar 0) (tC (.int 1))) tNil)) (tOp oGe (tOp (oIxT K) (tVar 0) (tC (.int 1))) (tC (.int 0)))))
  tNext))
def t_asked_road (K : PySem.W.Frag) : TS := (tSeq (tIfS (tOr (tNot (tB (tCB (cIsi K) (tCons (tVar 0) (tCons (tC (.ty "list")) tNil))))) (tNot (tB (tCB (cAll K) (tCons (tLc (iList K (tVar 0)) (gName 1) tYes (tCall (sp_is_house K) [] E0 (tCons (tVar 1) tNil)) [1]) tNil)))))
   (tSeq tNever
  tNext) tNext)
  (tSeq (tIfS (tNot (tB (tCB (cAll K) (tCons (tLc (iRng1 (tCons (tOp oSub (tCB (cLen K) (tCons (tVar 0) tNil)) (tC (.int 1))) tNil)) (gName 2) tYes (tOp oLt (tOp (oIxT K) (tOp (oIx K) (tVar 0) (tVar 2)) (tC (.int 0))) (tOp (oIxT K) (tOp (oIx K) (tVar 0) (tOp oAdd (tVar 2) (tC (.int 1)))) (tC (.int 0)))) [2]) tNil))))
   (tSeq tNever
  tNext) tNext)
  tNext))
def t_are_posts (K : PySem.W.Frag) : TS := (tSeq (tAsg (tUn oNeg (tC (.int 1))) (gName 2))
  (tSeq (tFor (iList K (tVar 1)) (gName 3)
   (tSeq (tIfS (tNot (tTest (tChain oLt oLt (tVar 2) (tVar 3) (tCB (cLen K) (tCons (tVar 0) tNil)))))
   (tSeq (tRet (tC (.bl false)))
  tNext) tNext)
  (tSeq (tAsg (tVar 3) (gName 2))
  tNext)))
  (tSeq (tRet (tOrV (tOp (oNeD K) (tVar 1) (tLst tNil)) (tOp (oEqD K) (tVar 0) (tLst tNil))))
  tNext)))
def t_asked_posts (K : PySem.W.Frag) : TS := (tSeq (tIfS (tOr (tNot (tB (tCB (cIsi K) (tCons (tVar 1) (tCons (tC (.ty "list")) tNil))))) (tOr (tNot (tB (tCB (cAll K) (tCons (tLc (iList K (tVar 1)) (gName 2) tYes (tCall (sp_is_number K) [] E0 (tCons (tVar 2) tNil)) [2]) tNil)))) (tNot (tB (tCall (sp_are_posts K) [] E0 (tCons (tVar 0) (tCons (tVar 1) tNil)))))))
   (tSeq tNever
  tNext) tNext)
  tNext)
def t_nearest_of (K : PySem.W.Frag) : TS := (tSeq (tAsg (tLst tNil) (gName 2))
  (tSeq (tAsg (tC (.int 0)) (gName 3))
  (tSeq (tFor (iList K (tVar 0)) (gTup K 2 (gCons (gName 4) (gCons (gName 5) gNil)))
   (tSeq (tWhile (tAnd (tTest (tOp oLt (tOp oAdd (tVar 3) (tC (.int 1))) (tCB (cLen K) (tCons (tVar 1) tNil)))) (tTest (tOp oLt (tCB cAbs (tCons (tOp oSub (tOp (oIxT K) (tOp (oIx K) (tVar 0) (tOp (oIx K) (tVar 1) (tOp oAdd (tVar 3) (tC (.int 1))))) (tC (.int 0))) (tVar 4)) tNil)) (tCB cAbs (tCons (tOp oSub (tOp (oIxT K) (tOp (oIx K) (tVar 0) (tOp (oIx K) (tVar 1) (tVar 3))) (tC (.int 0))) (tVar 4)) tNil)))))
   (tSeq (tAsg (tOp oAdd (tVar 3) (tC (.int 1))) (gName 3))
  tNext))
  (tSeq (tDrop (tBM K "list" rAppend (tVar 2) (tCons (tOp (oIx K) (tVar 1) (tVar 3)) tNil)))
  tNext)))
  (tSeq (tRet (tVar 2))
  tNext))))
def t_way_of (K : PySem.W.Frag) : TS := (tSeq (tAsg (tC (.int 0)) (gName 2))
  (tSeq (tFor (iZip K (tCons (tVar 0) (tCons (tCall (sp_nearest_of K) [] E0 (tCons (tVar 0) (tCons (tVar 1) tNil))) tNil))) (gTup K 2 (gCons (gName 3) (gCons (gName 4) gNil)))
   (tSeq (tAsg (tOp oAdd (tVar 2) (tOp oMulW (tOp (oIxT K) (tVar 3) (tC (.int 1))) (tCB cAbs (tCons (tOp oSub (tOp (oIxT K) (tVar 3) (tC (.int 0))) (tOp (oIxT K) (tOp (oIx K) (tVar 0) (tVar 4)) (tC (.int 0)))) tNil)))) (gName 2))
  tNext))
  (tSeq (tRet (tVar 2))
  tNext)))
def t_nearest (K : PySem.W.Frag) : TS := (tSeq (tDrop (tCall (sp_asked_road K) [] E0 (tCons (tVar 0) tNil)))
  (tSeq (tDrop (tCall (sp_asked_posts K) [] E0 (tCons (tVar 0) (tCons (tVar 1) tNil))))
  (tSeq (tRet (tCall (sp_nearest_of K) [] E0 (tCons (tVar 0) (tCons (tVar 1) tNil))))
  tNext)))
def t_way (K : PySem.W.Frag) : TS := (tSeq (tDrop (tCall (sp_asked_road K) [] E0 (tCons (tVar 0) tNil)))
  (tSeq (tDrop (tCall (sp_asked_posts K) [] E0 (tCons (tVar 0) (tCons (tVar 1) tNil))))
  (tSeq (tRet (tCall (sp_way_of K) [] E0 (tCons (tVar 0) (tCons (tVar 1) tNil))))
  tNext)))
def t_law_road (K : PySem.W.Frag) : TS := (tSeq (tAsg (tCB (cSum K) (tCons (tVar 0) tNil)) (gName 1))
  (tSeq (tAsg (tOp (oIxT K) (tTup (tCons (tC (.int 3)) (tCons (tC (.int 40)) (tCons (tC (.int 1)) (tCons (tOp oPow (tC (.int 10)) (tC (.int 20))) tNil))))) (tOp oMod (tVar 1) (tC (.int 4)))) (gName 2))
  (tSeq (tAsg (tOp (oIxT K) (tTup (tCons (tC (.int 2)) (tCons (tC (.int 30)) (tCons (tC (.int 1000)) (tCons (tOp oPow (tC (.int 10)) (tC (.int 25))) tNil))))) (tOp oMod (tOp oDiv (tVar 1) (tC (.int 4))) (tC (.int 4)))) (gName 3))
  (tSeq (tAsg (tOp oSub (tOp oMod (tOp oDiv (tVar 1) (tC (.int 16))) (tC (.int 41))) (tC (.int 20))) (gName 4))
  (tSeq (tAsg (tLst tNil) (gName 5))
  (tSeq (tFor (iRng3 (tCons (tC (.int 0)) (tCons (tCB (cLen K) (tCons (tVar 0) tNil)) (tCons (tC (.int 2)) tNil)))) (gName 6)
   (tSeq (tAsg (tOp oAdd (tOp oAdd (tVar 4) (tC (.int 1))) (tOp oMod (tOp (oIx K) (tVar 0) (tVar 6)) (tVar 2))) (gName 4))
  (tSeq (tDrop (tBM K "list" rAppend (tVar 5) (tCons (tTup (tCons (tVar 4) (tCons (tOp oMod (tOp (oIx K) (tVar 0) (tIf (tTest (tOp oEqI (tOp oAdd (tVar 6) (tC (.int 1))) (tCB (cLen K) (tCons (tVar 0) tNil)))) (tOp oSub (tVar 6) (tC (.int 1))) (tOp oAdd (tVar 6) (tC (.int 1))))) (tVar 3)) tNil))) tNil)))
  tNext)))
  (tSeq (tIfS (tAnd (tTest (tOp oEqI (tOp oMod (tOp oDiv (tVar 1) (tC (.int 64))) (tC (.int 8))) (tC (.int 1)))) (tTest (tOp (oNeD K) (tVar 5) (tLst tNil))))
   (tSeq (tAsg (tVar 5) (gName 7))
  (tSeq (tAsg (tLc (iRng1 (tCons (tOp oAdd (tC (.int 40)) (tOp oMod (tVar 1) (tC (.int 5)))) tNil)) (gName 6) tYes (tTup (tCons (tOp oAdd (tOp oMul (tC (.int 50)) (tVar 6)) (tOp oMod (tOp (oIxT K) (tOp (oIx K) (tVar 7) (tOp oMod (tVar 6) (tCB (cLen K) (tCons (tVar 7) tNil)))) (tC (.int 0))) (tC (.int 50)))) (tCons (tOp (oIxT K) (tOp (oIx K) (tVar 7) (tOp oMod (tVar 6) (tCB (cLen K) (tCons (tVar 7) tNil)))) (tC (.int 1))) tNil))) [6]) (gName 5))
  tNext)) tNext)
  (tSeq (tRet (tVar 5))
  tNext))))))))
def t_law_numbers (K : PySem.W.Frag) : TS := (tSeq (tIfS (tNot (tB (tCB (cIsi K) (tCons (tVar 0) (tCons (tC (.ty "list")) tNil)))))
   (tSeq (tRet (tC (.bl false)))
  tNext) tNext)
  (tSeq (tRet (tCB (cAll K) (tCons (tLc (iList K (tVar 0)) (gName 1) tYes (tAndV (tCB (cIsi K) (tCons (tVar 1) (tCons (tC (.ty "int")) tNil))) (tNotV (tCB (cIsi K) (tCons (tVar 1) (tCons (tC (.ty "bool")) tNil))))) [1]) tNil)))
  tNext))
def t_law_posts (K : PySem.W.Frag) : TS := (tSeq (tAsg (tLc (iRng1 (tCons (tVar 1) tNil)) (gName 3) (tTest (tOp oEqI (tOp oMod (tOp oDiv (tOp (oIx K) (tVar 0) (tVar 3)) (tC (.int 7))) (tC (.int 4))) (tC (.int 0)))) (tVar 3) [3]) (gName 2))
  (tSeq (tRet (tIf (tOr (tTest (tOp (oNeD K) (tVar 2) (tLst tNil))) (tTest (tOp oEqI (tVar 1) (tC (.int 0))))) (tVar 2) (tLst (tCons (tOp oMod (tCB (cSum K) (tCons (tVar 0) tNil)) (tVar 1)) tNil))))
  tNext))
def t_law_k01_b1 (K : PySem.W.Frag) : TS := (tSeq (tAsg (tOp oAdd (tVar 2) (tC (.int 1))) (gName 2))
  tNext)
def t_law_k01_b2 (K : PySem.W.Frag) : TS := (tSeq (tWhile (tAnd (tTest (tOp oLt (tVar 2) (tCB (cLen K) (tCons (tVar 6) tNil)))) (tTest (tOp oNeI (tOp (oIx K) (tVar 6) (tVar 2)) (tVar 11))))
   (t_law_k01_b1 K))
  (tSeq (tIfS (tTest (tOp oEqI (tVar 2) (tCB (cLen K) (tCons (tVar 6) tNil))))
   (tSeq (tRet (tC (.bl false)))
  tNext) tNext)
  (tSeq (tAsg (tCB cAbs (tCons (tOp oSub (tOp (oIxT K) (tVar 10) (tC (.int 0))) (tOp (oIxT K) (tOp (oIx K) (tVar 1) (tVar 11)) (tC (.int 0)))) tNil)) (gName 12))
  (tSeq (tIfS (tAnd (tTest (tOp oGt (tVar 2) (tC (.int 0)))) (tTest (tOp oLe (tCB cAbs (tCons (tOp oSub (tOp (oIxT K) (tVar 10) (tC (.int 0))) (tOp (oIxT K) (tOp (oIx K) (tVar 1) (tOp (oIx K) (tVar 6) (tOp oSub (tVar 2) (tC (.int 1))))) (tC (.int 0)))) tNil)) (tVar 12))))
   (tSeq (tRet (tC (.bl false)))
  tNext) tNext)
  (tSeq (tIfS (tAnd (tTest (tOp oLt (tOp oAdd (tVar 2) (tC (.int 1))) (tCB (cLen K) (tCons (tVar 6) tNil)))) (tTest (tOp oLt (tCB cAbs (tCons (tOp oSub (tOp (oIxT K) (tVar 10) (tC (.int 0))) (tOp (oIxT K) (tOp (oIx K) (tVar 1) (tOp (oIx K) (tVar 6) (tOp oAdd (tVar 2) (tC (.int 1))))) (tC (.int 0)))) tNil)) (tVar 12))))
   (tSeq (tRet (tC (.bl false)))
  tNext) tNext)
  (tSeq (tAsg (tOp oAdd (tVar 9) (tOp oMulW (tOp (oIxT K) (tVar 10) (tC (.int 1))) (tVar 12))) (gName 9))
  tNext))))))
def t_law_k01_b3 (K : PySem.W.Frag) : TS := (tSeq (tAsg (tLst (tCons (tCB (cList K) (tCons (tVar 1) tNil)) (tCons (tCB (cList K) (tCons (tVar 6) tNil)) tNil))) (gName 7))
  (tSeq (tAsg (tCall (sp_nearest K) [] E0 (tCons (tOp (oIx K) (tVar 7) (tC (.int 0))) (tCons (tOp (oIx K) (tVar 7) (tC (.int 1))) tNil))) (gName 8))
  (tSeq (tIfS (tOr (tNot (tB (tCall (sp_law_numbers K) [] E0 (tCons (tVar 8) tNil)))) (tOr (tTest (tOp oNeI (tCB (cLen K) (tCons (tVar 8) tNil)) (tCB (cLen K) (tCons (tVar 1) tNil)))) (tTest (tOp (oNeD K) (tVar 7) (tLst (tCons (tVar 1) (tCons (tVar 6) tNil)))))))
   (tSeq (tRet (tC (.bl false)))
  tNext) tNext)
  (tSeq (tAsg (tC (.int 0)) (gName 9))
  (tSeq (tAsg (tC (.int 0)) (gName 2))
  (tSeq (tFor (iZip K (tCons (tVar 1) (tCons (tVar 8) tNil))) (gTup K 2 (gCons (gName 10) (gCons (gName 11) gNil)))
   (t_law_k01_b2 K))
  (tSeq (tIfS (tOr (tTest (tOp oNeI (tCall (sp_way K) [] E0 (tCons (tOp (oIx K) (tVar 7) (tC (.int 0))) (tCons (tOp (oIx K) (tVar 7) (tC (.int 1))) tNil))) (tVar 9))) (tTest (tOp (oNeD K) (tVar 7) (tLst (tCons (tVar 1) (tCons (tVar 6) tNil))))))
   (tSeq (tRet (tC (.bl false)))
  tNext) tNext)
  (tSeq (tDrop (tBM K "list" rAppend (tVar 8) (tCons (tC (.int 0)) tNil)))
  tNext))))))))
def t_law_k01_s7 (K : PySem.W.Frag) : TS := (tSeq (tRet (tOp (oEqD K) (tCall (sp_nearest K) [] E0 (tCons (tVar 1) (tCons (tLst (tCons (tC (.int 0)) tNil)) tNil))) (tLc (iList K (tVar 1)) (gName 10) tYes (tC (.int 0)) [10])))
  tNext)
def t_law_k01_s6 (K : PySem.W.Frag) : TS := (tSeq (tFor (iList K (tIf (tTest (tOp (oNeD K) (tVar 4) (tLst tNil))) (tVar 5) (tSl (oSl K) (tVar 5) (tPart (tC (.int 1))) tNoPart))) (gName 6)
   (t_law_k01_b3 K))
  (t_law_k01_s7 K))
def t_law_k01_s5 (K : PySem.W.Frag) : TS := (tSeq (tAsg (tLst (tCons (tVar 4) (tCons (tLst (tCons (tOp oMod (tVar 3) (tCB (cLen K) (tCons (tVar 1) tNil))) tNil)) (tCons (tLstRg (tRg1 (tCB (cLen K) (tCons (tVar 1) tNil)))) (tCons (tLstRg3 (tRg3 (tC (.int 0)) (tCB (cLen K) (tCons (tVar 1) tNil)) (tOp oAdd (tC (.int 2)) (tOp oMod (tVar 3) (tC (.int 5)))))) tNil))))) (gName 5))
  (t_law_k01_s6 K))
def t_law_k01_s4 (K : PySem.W.Frag) : TS := (tSeq (tAsg (tCall (sp_law_posts K) [] E0 (tCons (tVar 0) (tCons (tCB cMin2 (tCons (tOp oDiv (tCB (cLen K) (tCons (tVar 0) tNil)) (tC (.int 2))) (tCons (tCB (cLen K) (tCons (tVar 1) tNil)) tNil))) tNil))) (gName 4))
  (t_law_k01_s5 K))
def t_law_k01_s3 (K : PySem.W.Frag) : TS := (tSeq (tAsg (tCB (cSum K) (tCons (tVar 0) tNil)) (gName 3))
  (t_law_k01_s4 K))
def t_law_k01_s2 (K : PySem.W.Frag) : TS := (tSeq (tIfS (tTest (tOp (oEqD K) (tVar 1) (tLst tNil)))
   (tSeq (tRet (tAndV (tOp (oEqD K) (tCall (sp_nearest K) [] E0 (tCons (tLst tNil) (tCons (tLst tNil) tNil))) (tLst tNil)) (tOp oEqI (tCall (sp_way K) [] E0 (tCons (tLst tNil) (tCons (tLst tNil) tNil))) (tC (.int 0)))))
  tNext) tNext)
  (t_law_k01_s3 K))
def t_law_k01_s1 (K : PySem.W.Frag) : TS := (tSeq (tIfS (tAnd (tTest (tOp oEqI (tOp oMod (tCB (cSum K) (tCons (tVar 0) tNil)) (tC (.int 7))) (tC (.int 3)))) (tTest (tOp (oNeD K) (tVar 1) (tLst tNil))))
   (tSeq (tAsg (tLc (iRng1 (tCons (tC (.int 200)) tNil)) (gName 2) tYes (tTup (tCons (tOp oAdd (tOp oMul (tC (.int 9)) (tVar 2)) (tOp oMod (tOp (oIxT K) (tOp (oIx K) (tVar 1) (tOp oMod (tVar 2) (tCB (cLen K) (tCons (tVar 1) tNil)))) (tC (.int 0))) (tC (.int 8)))) (tCons (tOp (oIxT K) (tOp (oIx K) (tVar 1) (tOp oMod (tVar 2) (tCB (cLen K) (tCons (tVar 1) tNil)))) (tC (.int 1))) tNil))) [2]) (gName 1))
  tNext) tNext)
  (t_law_k01_s2 K))
def t_law_k01 (K : PySem.W.Frag) : TS := (tSeq (tAsg (tCall (sp_law_road K) [] E0 (tCons (tVar 0) tNil)) (gName 1))
  (t_law_k01_s1 K))
end Ph

set_option Elab.async false
set_option linter.all false
set_option maxRecDepth 100000
set_option maxHeartbeats 2000000
namespace Ph
open PySem PySem.Spec L2
def isIB : PyData → Bool
  | .int _ => true
  | .bool _ => true
  | _ => false
def isBB : PyData → Bool
  | .bool _ => true
  | _ => false
def isTB : PyData → Bool
  | .tuple _ => true
  | _ => false
def isLB : PyData → Bool
  | .list _ => true
  | _ => false
theorem kb_NoneType_int : kitB "NoneType" "int" = some false := by decide +kernel
theorem kb_bool_int : kitB "bool" "int" = some true := by decide +kernel
theorem kb_int_int : kitB "int" "int" = some true := by decide +kernel
theorem kb_str_int : kitB "str" "int" = some false := by decide +kernel
theorem kb_list_int : kitB "list" "int" = some false := by decide +kernel
theorem kb_tuple_int : kitB "tuple" "int" = some false := by decide +kernel
theorem kb_dict_int : kitB "dict" "int" = some false := by decide +kernel
theorem kb_NoneType_bool : kitB "NoneType" "bool" = some false := by decide +kernel
theorem kb_bool_bool : kitB "bool" "bool" = some true := by decide +kernel
theorem kb_int_bool : kitB "int" "bool" = some false := by decide +kernel
theorem kb_str_bool : kitB "str" "bool" = some false := by decide +kernel
theorem kb_list_bool : kitB "list" "bool" = some false := by decide +kernel
theorem kb_tuple_bool : kitB "tuple" "bool" = some false := by decide +kernel
theorem kb_dict_bool : kitB "dict" "bool" = some false := by decide +kernel
theorem kb_NoneType_tuple : kitB "NoneType" "tuple" = some false := by decide +kernel
theorem kb_bool_tuple : kitB "bool" "tuple" = some false := by decide +kernel
theorem kb_int_tuple : kitB "int" "tuple" = some false := by decide +kernel
theorem kb_str_tuple : kitB "str" "tuple" = some false := by decide +kernel
theorem kb_list_tuple : kitB "list" "tuple" = some false := by decide +kernel
theorem kb_tuple_tuple : kitB "tuple" "tuple" = some true := by decide +kernel
theorem kb_dict_tuple : kitB "dict" "tuple" = some false := by decide +kernel
theorem kb_NoneType_list : kitB "NoneType" "list" = some false := by decide +kernel
theorem kb_bool_list : kitB "bool" "list" = some false := by decide +kernel
theorem kb_int_list : kitB "int" "list" = some false := by decide +kernel
theorem kb_str_list : kitB "str" "list" = some false := by decide +kernel
theorem kb_list_list : kitB "list" "list" = some true := by decide +kernel
theorem kb_tuple_list : kitB "tuple" "list" = some false := by decide +kernel
theorem kb_dict_list : kitB "dict" "list" = some false := by decide +kernel
theorem isi_int (x : PyData) : kitB (kindOf x) "int" = some (isIB x) := by cases x <;> first | exact kb_NoneType_int | exact kb_bool_int | exact kb_int_int | exact kb_str_int | exact kb_list_int | exact kb_tuple_int | exact kb_dict_int
theorem isi_bool (x : PyData) : kitB (kindOf x) "bool" = some (isBB x) := by cases x <;> first | exact kb_NoneType_bool | exact kb_bool_bool | exact kb_int_bool | exact kb_str_bool | exact kb_list_bool | exact kb_tuple_bool | exact kb_dict_bool
theorem isi_tuple (x : PyData) : kitB (kindOf x) "tuple" = some (isTB x) := by cases x <;> first | exact kb_NoneType_tuple | exact kb_bool_tuple | exact kb_int_tuple | exact kb_str_tuple | exact kb_list_tuple | exact kb_tuple_tuple | exact kb_dict_tuple
theorem isi_list (x : PyData) : kitB (kindOf x) "list" = some (isLB x) := by cases x <;> first | exact kb_NoneType_list | exact kb_bool_list | exact kb_int_list | exact kb_str_list | exact kb_list_list | exact kb_tuple_list | exact kb_dict_list
end Ph

set_option Elab.async false
set_option linter.all false
set_option maxRecDepth 100000
set_option maxHeartbeats 2000000
namespace Ph
open PySem PySem.Spec L2
/-! ### steps by themselves -/
local macro_rules | `(tactic| walk_at "side") => `(tactic| first | assumption | decide | omega | (simp only [List.length_map, List.length_append, List.length_cons, List.length_nil, List.length_range, List.length_take, List.length_reverse]; omega))
local macro_rules | `(tactic| walk_at "ev") => `(tactic| (refine' evd_is ?eva ?evb; (case' eva => walk_at "ev1"); (case' evb => first | rfl | skip)))
local macro_rules | `(tactic| walk_at "evt") => `(tactic| (refine' evt_is ?eva ?evb; (case' eva => walk_at "evt1"); (case' evb => first | rfl | skip)))
local macro_rules | `(tactic| walk_at "evr") => `(tactic| first
  | exact evr_l (evl_at rfl)
  | (refine' evr_n ?evn; (case' evn => walk_at "evn1"))
  | (refine' evr_d ?evd; (case' evd => walk_at "ev")))
local macro_rules | `(tactic| walk_at "evl") => `(tactic| first
  | exact evl_at rfl
  | (refine' evl_n ?evn; (case' evn => (refine' evn_is ?eva ?evb; (case' eva => walk_at "evn1"); (case' evb => first | rfl | skip))))
  | (refine' evl_d ?evd; (case' evd => walk_at "ev")))
local macro_rules | `(tactic| walk_at "evk") => `(tactic| first
  | exact evk_at rfl
  | (refine' evk_n ?evn; (case' evn => walk_at "evn1")))
local macro_rules | `(tactic| walk_at "eva") => `(tactic| first
  | exact ea_nil
  | (with_reducible refine' ea_cons ?a ?b; (case' a => walk_at "ev"); (case' b => walk_at "eva")))
local macro_rules | `(tactic| walk_at "evar") => `(tactic| first
  | exact ear_nil
  | (with_reducible refine' ear_cons ?a ?b; (case' a => walk_at "evr"); (case' b => walk_at "evar")))
local macro_rules | `(tactic| walk_at "evo") => `(tactic| first
  | exact evo_none
  | (with_reducible refine' evo_some ?a; (case' a => walk_at "ev")))
local macro_rules | `(tactic| walk_at "ev1") => `(tactic| first
  | exact evd_int | exact evd_bl | exact evd_non | exact evd_str | exact evd_at rfl
  | (with_reducible refine' evd_add ?a ?b; (case' a => walk_at "ev"); (case' b => walk_at "ev"))
  | (with_reducible refine' evd_sub ?a ?b; (case' a => walk_at "ev"); (case' b => walk_at "ev"))
  | (with_reducible refine' evd_ixt0 ?a; (case' a => walk_at "ev"))
  | (with_reducible refine' evd_ixt1 ?a; (case' a => walk_at "ev"))
  | (with_reducible refine' evd_ixl ?a ?b; (case' a => walk_at "evl"))
  | (with_reducible refine' evd_ixm ?a ?b ?c ?d; (case' a => walk_at "evl"); (case' b => walk_at "ev"))
  | (with_reducible refine' evd_lenm ?a; (case' a => walk_at "evl"))
  | (with_reducible refine' evd_absN ?a; (case' a => walk_at "ev"))
  | (with_reducible refine' evd_lt ?a ?b; (case' a => walk_at "ev"); (case' b => walk_at "ev"))
  | (with_reducible refine' evd_le ?a ?b; (case' a => walk_at "ev"); (case' b => walk_at "ev"))
  | (with_reducible refine' evd_gt ?a ?b; (case' a => walk_at "ev"); (case' b => walk_at "ev"))
  | (with_reducible refine' evd_ge ?a ?b; (case' a => walk_at "ev"); (case' b => walk_at "ev"))
  | (with_reducible refine' evd_eqI ?a ?b; (case' a => walk_at "ev"); (case' b => walk_at "ev"))
  | (with_reducible refine' evd_neI ?a ?b; (case' a => walk_at "ev"); (case' b => walk_at "ev"))
  | (with_reducible refine' evd_eqB ?a ?b; (case' a => walk_at "ev"); (case' b => walk_at "ev"))
  | (with_reducible refine' evd_neB ?a ?b; (case' a => walk_at "ev"); (case' b => walk_at "ev"))
  | (with_reducible refine' evd_isB ?a ?b; (case' a => walk_at "ev"); (case' b => walk_at "ev"))
  | (with_reducible refine' evd_notB ?a ?b; (case' a => walk_at "ev"); (case' b => walk_at "ev"))
  | (with_reducible refine' evd_neg ?a; (case' a => walk_at "ev"))
  | (with_reducible refine' evd_mul ?a ?b ?c; (case' a => walk_at "ev"); (case' b => walk_at "ev"))
  | (with_reducible refine' evd_mulW ?a ?b ?c; (case' a => walk_at "ev"); (case' b => walk_at "ev"))
  | (with_reducible refine' evd_div ?a ?b ?c; (case' a => walk_at "ev"); (case' b => walk_at "ev"))
  | (with_reducible refine' evd_mod ?a ?b ?c; (case' a => walk_at "ev"); (case' b => walk_at "ev"))
  | (with_reducible refine' evd_ltlt ?a ?b ?c; (case' a => walk_at "ev"); (case' b => walk_at "ev"); (case' c => walk_at "ev"))
  | (with_reducible refine' evd_lelt ?a ?b ?c; (case' a => walk_at "ev"); (case' b => walk_at "ev"); (case' c => walk_at "ev"))
  | (with_reducible refine' evd_lele ?a ?b ?c; (case' a => walk_at "ev"); (case' b => walk_at "ev"); (case' c => walk_at "ev"))
  | (with_reducible refine' evd_min2 ?a ?b; (case' a => walk_at "ev"); (case' b => walk_at "ev"))
  | (with_reducible refine' evd_max2 ?a ?b; (case' a => walk_at "ev"); (case' b => walk_at "ev"))
  | (with_reducible refine' evd_sum ?a; (case' a => walk_at "evl"))
  | (with_reducible refine' evd_tup ?a ?b; (case' a => walk_at "eva"); (case' b => decide))
  | (with_reducible refine' evd_not ?a; (case' a => walk_at "ev"))
  | (with_reducible refine' evd_n ?a; (case' a => walk_at "evn1")))
local macro_rules | `(tactic| walk_at "evn1") => `(tactic| first
  | (with_reducible refine' evn_lst ?a ?b; (case' a => walk_at "eva"); (case' b => decide))
  | (with_reducible refine' evn_list ?a; (case' a => walk_at "evl"))
  | (with_reducible refine' evn_sl ?a ?b ?c; (case' a => walk_at "evl"); (case' b => walk_at "evo"); (case' c => walk_at "evo"))
  | (with_reducible refine' evn_rev ?a; (case' a => walk_at "evl")))
local macro_rules | `(tactic| walk_at "evt1") => `(tactic| first
  | (with_reducible refine' evt_test ?a; (case' a => walk_at "ev"))
  | (with_reducible refine' evt_B ?a; (case' a => walk_at "ev"))
  | (with_reducible refine' evt_not ?a; (case' a => walk_at "evt")))
local macro_rules | `(tactic| walk_at "set") => `(tactic| (refine' r_set ?e ?k; (case' e => (walk_at "ev"; (all_goals try walk_at "side"))); (case' k => dsimp only [List.set_cons_zero, List.set_cons_succ])))
local macro_rules | `(tactic| walk_at "setn") => `(tactic| (refine' r_setN ?e ?k; (case' e => (walk_at "evn1"; (all_goals try walk_at "side"))); (case' k => (intro p; dsimp only [List.set_cons_zero, List.set_cons_succ]))))
local macro_rules | `(tactic| walk_at "app") => `(tactic| (refine' r_app rfl ?e ?z ?k; (case' e => (walk_at "ev"; (all_goals try walk_at "side"))); (case' z => walk_at "side"); (case' k => dsimp only [List.set_cons_zero, List.set_cons_succ])))
local macro_rules | `(tactic| walk_at "wk") => `(tactic| first | exact WkL.nil | (refine' WkL.same ?_; walk_at "wk") | (refine' WkL.drop ?_; walk_at "wk"))
section
variable {K : PySem.W.Frag} {δ : List Sl} {ta tb tc te : TE} {d e f : PyData}
theorem run_is_number : ∀ ds d, R_is_number ds d → ∀ B D, RtD K B D d → (d = .none → ∀ δ, Nx K B D δ) → RunS K B (t_is_number K) D (ds.map Sl.d ++ List.replicate (1 - ds.length) Sl.no) := by
  rintro _ _ ⟨x, rfl, rfl⟩ B D k _
  show RunS K B (t_is_number K) D [.d x]
  refine r_ret (evd_is (evd_and (evd_isi (evr_d (evd_at rfl)) (isi_int x)) (fun _ => evd_not (evd_isi (evr_d (evd_at rfl)) (isi_bool x)))) ?_) k
  cases x <;> rfl
theorem ev_is_number {x : PyData} (ha : EvD K ta δ x) : EvD K (tCall (sp_is_number K) [] E0 (tCons ta tNil)) δ (.bool (isNum x)) := evd_call (ea_cons ha ea_nil) ⟨x, rfl, rfl⟩
theorem run_is_house : ∀ ds d, R_is_house ds d → ∀ B D, RtD K B D d → (d = .none → ∀ δ, Nx K B D δ) → RunS K B (t_is_house K) D (ds.map Sl.d ++ List.replicate (1 - ds.length) Sl.no) := by
  rintro _ _ ⟨x, rfl, rfl⟩ B D k _
  show RunS K B (t_is_house K) D [.d x]
  have no : ∀ b : Bool, b = true → isHouse x = false → EvT K (tOr (tNot (tB (tCB (cIsi K) (tCons (tVar 0) (tCons (tC (.ty "tuple")) tNil))))) (tOr (tTest (tOp oNeI (tCB (cLen K) (tCons (tVar 0) tNil)) (tC (.int 2)))) (tNot (tB (tCall (sp_is_number K) [] E0 (tCons (tOp (oIxT K) (tVar 0) (tC (.int 0))) tNil)))))) [.d x] b → RunS K B (t_is_house K) D [.d x] := by
    intro b hb hh ht
    refine r_when ht (fun _ => ?_) (fun z => by rw [hb] at z; cases z)
    refine r_ret (evd_is evd_bl ?_) k
    rw [hh]
  have first : ∀ b : Bool, isTB x = b → EvT K (tNot (tB (tCB (cIsi K) (tCons (tVar 0) (tCons (tC (.ty "tuple")) tNil))))) [.d x] (!b) := by
    intro b hb
    refine evt_not (evt_B (evd_isi (evr_d (evd_at rfl)) ?_))
    rw [isi_tuple, hb]
  cases x with
  | tuple xs =>
    have f := first true rfl
    by_cases h2 : xs.length = 2
    · obtain ⟨a, b, rfl⟩ : ∃ a b, xs = [a, b] := by
        match xs, h2 with
        | [a, b], _ => exact ⟨a, b, rfl⟩
      by_cases ha : isNum a = true
      · refine r_skip (evt_is (evt_or f fun _ => evt_or (evt_test (evd_neI (evd_lenT (evr_d (evd_at rfl))) evd_int)) fun _ => evt_not (evt_B (ev_is_number (evd_ixt0 (evd_at rfl))))) ?_) ?_
        · rw [ha]; rfl
        · cases a with
          | int p =>
            by_cases hb : isNum b = true
            · cases b with
              | int l => exact r_ret (evd_and (ev_is_number (evd_ixt1 (evd_at rfl))) fun _ => evd_ge (evd_ixt1 (evd_at rfl)) evd_int) k
              | _ => cases hb
            · have hb' : isNum b = false := by simpa using hb
              have e : isHouse (.tuple [.int p, b]) = (isNum b && false) := by
                rw [Bool.and_false]
                cases b with
                | int l => cases hb'
                | _ => rfl
              rw [e] at k
              exact r_ret (evd_and (ev_is_number (evd_ixt1 (evd_at rfl))) fun z => by rw [hb'] at z; cases z) k
          | _ => cases ha
      · have ha' : isNum a = false := by simpa using ha
        refine no _ rfl ?_ (evt_is (evt_or f fun _ => evt_or (evt_test (evd_neI (evd_lenT (evr_d (evd_at rfl))) evd_int)) fun _ => evt_not (evt_B (ev_is_number (evd_ixt0 (evd_at rfl))))) ?_)
        · cases a with
          | int p => cases ha'
          | _ => rfl
        · rw [ha']; rfl
    · refine no _ rfl ?_ (evt_is (evt_or (b := true) f fun _ => evt_is (evt_or (b := true) (evt_test (evd_neI (evd_lenT (evr_d (evd_at rfl))) evd_int)) fun z => ?_) ?_) ?_)
      · match xs, h2 with
        | [], _ => rfl
        | [a], _ => cases a <;> rfl
        | a :: b :: c :: r, _ => cases a <;> cases b <;> rfl
      · exfalso
        have : ¬ ((xs.length : Int) = 2) := by omega
        simp [this] at z
      · have : ¬ ((xs.length : Int) = 2) := by omega
        simp [this]
      · rfl
  | _ => exact no true rfl rfl (evt_is (evt_or (b := true) (first false rfl) fun z => nomatch z) rfl)
theorem ev_is_house {x : PyData} (ha : EvD K ta δ x) : EvD K (tCall (sp_is_house K) [] E0 (tCons ta tNil)) δ (.bool (isHouse x)) := evd_call (ea_cons ha ea_nil) ⟨x, rfl, rfl⟩
end
end Ph

set_option Elab.async false
set_option linter.all false
set_option maxRecDepth 100000
set_option maxHeartbeats 2000000
namespace Ph
open PySem PySem.Spec L2
/-! ### steps by themselves -/
local macro_rules | `(tactic| walk_at "side") => `(tactic| first | assumption | decide | omega | (simp only [List.length_map, List.length_append, List.length_cons, List.length_nil, List.length_range, List.length_take, List.length_reverse]; omega))
local macro_rules | `(tactic| walk_at "ev") => `(tactic| (refine' evd_is ?eva ?evb; (case' eva => walk_at "ev1"); (case' evb => first | rfl | skip)))
local macro_rules | `(tactic| walk_at "evt") => `(tactic| (refine' evt_is ?eva ?evb; (case' eva => walk_at "evt1"); (case' evb => first | rfl | skip)))
local macro_rules | `(tactic| walk_at "evr") => `(tactic| first
  | exact evr_l (evl_at rfl)
  | (refine' evr_n ?evn; (case' evn => walk_at "evn1"))
  | (refine' evr_d ?evd; (case' evd => walk_at "ev")))
local macro_rules | `(tactic| walk_at "evl") => `(tactic| first
  | exact evl_at rfl
  | (refine' evl_n ?evn; (case' evn => (refine' evn_is ?eva ?evb; (case' eva => walk_at "evn1"); (case' evb => first | rfl | skip))))
  | (refine' evl_d ?evd; (case' evd => walk_at "ev")))
local macro_rules | `(tactic| walk_at "evk") => `(tactic| first
  | exact evk_at rfl
  | (refine' evk_n ?evn; (case' evn => walk_at "evn1")))
local macro_rules | `(tactic| walk_at "eva") => `(tactic| first
  | exact ea_nil
  | (with_reducible refine' ea_cons ?a ?b; (case' a => walk_at "ev"); (case' b => walk_at "eva")))
local macro_rules | `(tactic| walk_at "evar") => `(tactic| first
  | exact ear_nil
  | (with_reducible refine' ear_cons ?a ?b; (case' a => walk_at "evr"); (case' b => walk_at "evar")))
local macro_rules | `(tactic| walk_at "evo") => `(tactic| first
  | exact evo_none
  | (with_reducible refine' evo_some ?a; (case' a => walk_at "ev")))
local macro_rules | `(tactic| walk_at "ev1") => `(tactic| first
  | exact evd_int | exact evd_bl | exact evd_non | exact evd_str | exact evd_at rfl
  | (with_reducible refine' evd_add ?a ?b; (case' a => walk_at "ev"); (case' b => walk_at "ev"))
  | (with_reducible refine' evd_sub ?a ?b; (case' a => walk_at "ev"); (case' b => walk_at "ev"))
  | (with_reducible refine' evd_ixt0 ?a; (case' a => walk_at "ev"))
  | (with_reducible refine' evd_ixt1 ?a; (case' a => walk_at "ev"))
  | (with_reducible refine' evd_ixl ?a ?b; (case' a => walk_at "evl"))
  | (with_reducible refine' evd_ixm ?a ?b ?c ?d; (case' a => walk_at "evl"); (case' b => walk_at "ev"))
  | (with_reducible refine' evd_lenm ?a; (case' a => walk_at "evl"))
  | (with_reducible refine' evd_absN ?a; (case' a => walk_at "ev"))
  | (with_reducible refine' evd_lt ?a ?b; (case' a => walk_at "ev"); (case' b => walk_at "ev"))
  | (with_reducible refine' evd_le ?a ?b; (case' a => walk_at "ev"); (case' b => walk_at "ev"))
  | (with_reducible refine' evd_gt ?a ?b; (case' a => walk_at "ev"); (case' b => walk_at "ev"))
  | (with_reducible refine' evd_ge ?a ?b; (case' a => walk_at "ev"); (case' b => walk_at "ev"))
  | (with_reducible refine' evd_eqI ?a ?b; (case' a => walk_at "ev"); (case' b => walk_at "ev"))
  | (with_reducible refine' evd_neI ?a ?b; (case' a => walk_at "ev"); (case' b => walk_at "ev"))
  | (with_reducible refine' evd_eqB ?a ?b; (case' a => walk_at "ev"); (case' b => walk_at "ev"))
  | (with_reducible refine' evd_neB ?a ?b; (case' a => walk_at "ev"); (case' b => walk_at "ev"))
  | (with_reducible refine' evd_isB ?a ?b; (case' a => walk_at "ev"); (case' b => walk_at "ev"))
  | (with_reducible refine' evd_notB ?a ?b; (case' a => walk_at "ev"); (case' b => walk_at "ev"))
  | (with_reducible refine' evd_neg ?a; (case' a => walk_at "ev"))
  | (with_reducible refine' evd_mul ?a ?b ?c; (case' a => walk_at "ev"); (case' b => walk_at "ev"))
  | (with_reducible refine' evd_mulW ?a ?b ?c; (case' a => walk_at "ev"); (case' b => walk_at "ev"))
  | (with_reducible refine' evd_div ?a ?b ?c; (case' a => walk_at "ev"); (case' b => walk_at "ev"))
  | (with_reducible refine' evd_mod ?a ?b ?c; (case' a => walk_at "ev"); (case' b => walk_at "ev"))
  | (with_reducible refine' evd_ltlt ?a ?b ?c; (case' a => walk_at "ev"); (case' b => walk_at "ev"); (case' c => walk_at "ev"))
  | (with_reducible refine' evd_lelt ?a ?b ?c; (case' a => walk_at "ev"); (case' b => walk_at "ev"); (case' c => walk_at "ev"))
  | (with_reducible refine' evd_lele ?a ?b ?c; (case' a => walk_at "ev"); (case' b => walk_at "ev"); (case' c => walk_at "ev"))
  | (with_reducible refine' evd_min2 ?a ?b; (case' a => walk_at "ev"); (case' b => walk_at "ev"))
  | (with_reducible refine' evd_max2 ?a ?b; (case' a => walk_at "ev"); (case' b => walk_at "ev"))
  | (with_reducible refine' evd_sum ?a; (case' a => walk_at "evl"))
  | (with_reducible refine' evd_tup ?a ?b; (case' a => walk_at "eva"); (case' b => decide))
  | (with_reducible refine' evd_not ?a; (case' a => walk_at "ev"))
  | (with_reducible refine' evd_n ?a; (case' a => walk_at "evn1")))
local macro_rules | `(tactic| walk_at "evn1") => `(tactic| first
  | (with_reducible refine' evn_lst ?a ?b; (case' a => walk_at "eva"); (case' b => decide))
  | (with_reducible refine' evn_list ?a; (case' a => walk_at "evl"))
  | (with_reducible refine' evn_sl ?a ?b ?c; (case' a => walk_at "evl"); (case' b => walk_at "evo"); (case' c => walk_at "evo"))
  | (with_reducible refine' evn_rev ?a; (case' a => walk_at "evl")))
local macro_rules | `(tactic| walk_at "evt1") => `(tactic| first
  | (with_reducible refine' evt_test ?a; (case' a => walk_at "ev"))
  | (with_reducible refine' evt_B ?a; (case' a => walk_at "ev"))
  | (with_reducible refine' evt_not ?a; (case' a => walk_at "evt")))
local macro_rules | `(tactic| walk_at "set") => `(tactic| (refine' r_set ?e ?k; (case' e => (walk_at "ev"; (all_goals try walk_at "side"))); (case' k => dsimp only [List.set_cons_zero, List.set_cons_succ])))
local macro_rules | `(tactic| walk_at "setn") => `(tactic| (refine' r_setN ?e ?k; (case' e => (walk_at "evn1"; (all_goals try walk_at "side"))); (case' k => (intro p; dsimp only [List.set_cons_zero, List.set_cons_succ]))))
local macro_rules | `(tactic| walk_at "app") => `(tactic| (refine' r_app rfl ?e ?z ?k; (case' e => (walk_at "ev"; (all_goals try walk_at "side"))); (case' z => walk_at "side"); (case' k => dsimp only [List.set_cons_zero, List.set_cons_succ])))
local macro_rules | `(tactic| walk_at "wk") => `(tactic| first | exact WkL.nil | (refine' WkL.same ?_; walk_at "wk") | (refine' WkL.drop ?_; walk_at "wk"))
section
variable {K : PySem.W.Frag} {δ : List Sl} {ta tb tc te : TE} {d e f : PyData}
theorem isHouse_hs (h : Int × Int) (h0 : 0 ≤ h.2) : isHouse (eHs h) = true := decide_eq_true h0
theorem run_asked_road : ∀ ds d, R_asked_road ds d → ∀ B D, RtD K B D d → (d = .none → ∀ δ, Nx K B D δ) → RunS K B (t_asked_road K) D (ds.map Sl.d ++ List.replicate (3 - ds.length) Sl.no) := by
  rintro _ _ ⟨r, rfl, ok, rfl⟩ B D k kn
  show RunS K B (t_asked_road K) D [.d (eRoad r), .no, .no]
  refine r_skip (evt_is (evt_or (evt_not (evt_B (evd_isi (evr_d (evd_at rfl)) kb_list_list))) fun _ => evt_not (evt_B (evd_all (ns := r.map fun _ => true) (evl_is (evl_n (evn_lcL (α := Int × Int) default (xs := r) (en := eHs) (f := fun _ => .bool true) (evd_at rfl) (by have := ok.len; omega) fun x hx => evd_is (ev_is_house (evd_at rfl)) ?_)) ?_)))) ?_) ?_
  · rw [isHouse_hs x (ok.let0 x hx)]
  · rw [List.map_map]; rfl
  · have e : (r.map fun _ => true).all id = true := by rw [List.all_map]; exact List.all_eq_true.mpr fun _ _ => rfl
    rw [e]; rfl
  by_cases h0 : r.length = 0
  · -- no house
    have hr : r = [] := List.length_eq_zero_iff.mp h0
    subst hr
    refine r_skip (evt_is (evt_not (evt_B (evd_all (ns := []) (evl_is (ds := []) (evl_n (evn_is (evn_lc (b := fun _ => true) (f := fun _ => .none) (δi := fun _ => []) (evi_range1' (m := -1) (evd_sub (evd_lenm (α := Int × Int) (xs := []) (en := eHs) (evl_d (evd_at rfl))) evd_int) (by decide) (by decide)) (fun _ _ _ _ _ _ => trivial) (by decide) (fun i hi => absurd hi (by simp)) (fun i hi => absurd hi (by simp)) (fun i hi => absurd hi (by simp))) rfl)) rfl)))) rfl) ?_
    exact r_next (kn rfl _)
  · refine r_skip (evt_is (evt_not (evt_B (evd_all (ns := (List.range (r.length - 1)).map fun _ => true) (evl_is (evl_n (evn_lcR (n := r.length - 1) (f := fun _ => .bool true) (evd_is (evd_sub (evd_lenm (evl_d (evd_at rfl))) evd_int) ?_) (by have := ok.len; omega) fun i hi => ?_)) ?_)))) ?_) ?_
    · have e : ((r.length - 1 : Nat) : Int) = (r.length : Int) - 1 := by omega
      rw [e]
    · refine evd_is (evd_lt (evd_ixt0 (evd_ixm (en := eHs) (evl_d (evd_at rfl)) (evd_at rfl) (by omega) (by omega))) (evd_ixt0 (evd_ixm (en := eHs) (evl_d (evd_at rfl)) (evd_add (evd_at rfl) evd_int) (by omega) (by omega)))) ?_
      have := ok.rise i (by omega)
      rw [Int.toNat_natCast, toNat_add1, decide_eq_true this]
    · rw [List.map_map]; rfl
    · have e : ((List.range (r.length - 1)).map fun _ => true).all id = true := by rw [List.all_map]; exact List.all_eq_true.mpr fun _ _ => rfl
      rw [e]; rfl
    · exact r_next (kn rfl _)
theorem ev_asked_road {r : List (Int × Int)} (ha : EvD K ta δ (eRoad r)) (ok : RoadOk r) : EvD K (tCall (sp_asked_road K) [] E0 (tCons ta tNil)) δ .none := evd_call (ea_cons ha ea_nil) ⟨r, rfl, ok, rfl⟩
theorem risingB_snoc (n : Int) : ∀ (xs : List Int) (last p : Int), risingB n last (xs ++ [p]) = (risingB n last xs && (decide (xs.foldl (fun _ x => x) last < p) && decide (p < n)))
  | [], last, p => by simp [risingB]; rfl
  | x :: xs, last, p => by
    show (decide (last < x) && decide (x < n) && risingB n x (xs ++ [p])) = _
    rw [risingB_snoc n xs x p]
    show _ = (decide (last < x) && decide (x < n) && risingB n x xs && (decide (xs.foldl (fun _ x => x) x < p) && decide (p < n)))
    simp only [Bool.and_assoc]
theorem risingB_take {n : Int} : ∀ {xs : List Int} {last : Int} (i : Nat), risingB n last (xs.take i) = false → risingB n last xs = false
  | [], _, i, h => by simp [risingB] at h
  | x :: xs, last, 0, h => by simp [risingB] at h
  | x :: xs, last, i + 1, h => by
    have h : (decide (last < x) && decide (x < n) && risingB n x (xs.take i)) = false := h
    show (decide (last < x) && decide (x < n) && risingB n x xs) = false
    cases q : (decide (last < x) && decide (x < n)) with
    | false => rfl
    | true =>
      rw [q, Bool.true_and] at h
      rw [Bool.true_and]
      exact risingB_take i h
theorem run_are_posts : ∀ ds d, R_are_posts ds d → ∀ B D, RtD K B D d → (d = .none → ∀ δ, Nx K B D δ) → RunS K B (t_are_posts K) D (ds.map Sl.d ++ List.replicate (4 - ds.length) Sl.no) := by
  rintro _ _ ⟨r, ps, rfl, hl, rfl⟩ B D k _
  show RunS K B (t_are_posts K) D [.d (eRoad r), .d (eInts ps), .no, .no]
  walk_at "set"
  refine r_for (evi_listm (en := PyData.int) (evd_at rfl)) (fun i δ => risingB r.length (-1) (ps.take i) = true ∧ δ = [.d (eRoad r), .d (eInts ps), .d (.int ((ps.take i).foldl (fun _ x => x) (-1))), .no]) ⟨_, by walk_at "wk", rfl, rfl⟩ (fun _ _ _ _ _ _ _ _ _ => trivial) (fun Gb hb i δ' hi hP => ?_) (fun δ' hP => ?_)
  · obtain ⟨hr, rfl⟩ := hP
    refine ⟨_, tg_name, ?_⟩
    dsimp only [List.set_cons_zero, List.set_cons_succ]
    have e := risingB_snoc r.length (ps.take i) (-1) (ps.getD i default)
    rw [hr, Bool.true_and] at e
    rw [← take_snoc ps hi] at e
    refine r_when (evt_not (evt_test (evd_ltlt (evd_at rfl) (evd_at rfl) (evd_lenm (evl_d (evd_at rfl)))))) (fun hb => ?_) (fun hb => ?_)
    · refine r_ret (evd_is evd_bl ?_) k
      have h1 : risingB r.length (-1) (ps.take (i + 1)) = false := by rw [e]; simpa only [Bool.not_eq_true'] using hb
      unfold arePosts
      rw [risingB_take (i + 1) h1]
      rfl
    · walk_at "set"
      refine r_next (nx_inv ?_ ⟨_, rfl, ?_, rfl⟩)
      · rw [take_snoc ps hi, List.foldl_append]
        walk_at "wk"
      · rw [e]; simpa only [Bool.not_eq_false'] using hb
  · obtain ⟨hr, rfl⟩ := hP
    rw [List.take_length] at hr
    refine r_ret (evd_is (evd_or (evd_neE (evr_d (evd_at rfl)) ((shp_ints ps).ok (by decide))) fun _ => evd_eqE (evr_d (evd_at rfl)) ((shp_road r).ok (by decide))) ?_) k
    unfold arePosts
    rw [hr, map_nil, map_nil]
    simp only [List.length_eq_zero_iff, Bool.true_and]
theorem ev_are_posts {r : List (Int × Int)} {ps : List Int} (ha : EvD K ta δ (eRoad r)) (hb : EvD K tb δ (eInts ps)) (hl : r.length ≤ 1000) : EvD K (tCall (sp_are_posts K) [] E0 (tCons ta (tCons tb tNil))) δ (.bool (arePosts r.length ps)) := evd_call (ea_cons ha (ea_cons hb ea_nil)) ⟨r, ps, rfl, hl, rfl⟩
theorem run_asked_posts : ∀ ds d, R_asked_posts ds d → ∀ B D, RtD K B D d → (d = .none → ∀ δ, Nx K B D δ) → RunS K B (t_asked_posts K) D (ds.map Sl.d ++ List.replicate (3 - ds.length) Sl.no) := by
  rintro _ _ ⟨r, ps, rfl, hl, hp, ha, rfl⟩ B D k kn
  show RunS K B (t_asked_posts K) D [.d (eRoad r), .d (eInts ps), .no]
  refine r_skip (evt_is (evt_or (evt_not (evt_B (evd_isi (evr_d (evd_at rfl)) kb_list_list))) fun _ => evt_or (evt_not (evt_B (evd_all (ns := ps.map fun _ => true) (evl_is (evl_n (evn_lcL (α := Int) default (xs := ps) (en := PyData.int) (f := fun _ => .bool true) (evd_at rfl) (by omega) fun x hx => evd_is (ev_is_number (evd_at rfl)) rfl)) ?_)))) fun _ => evt_not (evt_B (ev_are_posts (evd_at rfl) (evd_at rfl) hl))) ?_) (r_next (kn rfl _))
  · rw [List.map_map]; rfl
  · have e : (ps.map fun _ => true).all id = true := by rw [List.all_map]; exact List.all_eq_true.mpr fun _ _ => rfl
    rw [e, ha]; rfl
theorem ev_asked_posts {r : List (Int × Int)} {ps : List Int} (ha : EvD K ta δ (eRoad r)) (hb : EvD K tb δ (eInts ps)) (hl : r.length ≤ 1000) (hp : ps.length ≤ 1000) (h : arePosts r.length ps = true) : EvD K (tCall (sp_asked_posts K) [] E0 (tCons ta (tCons tb tNil))) δ .none :=
  evd_call (ea_cons ha (ea_cons hb ea_nil)) ⟨r, ps, rfl, hl, hp, h, rfl⟩
end
end Ph

set_option Elab.async false
set_option linter.all false
set_option maxRecDepth 100000
set_option maxHeartbeats 2000000
namespace Ph
open PySem PySem.Spec L2
/-! ### steps by themselves -/
local macro_rules | `(tactic| walk_at "side") => `(tactic| first | assumption | decide | omega | (simp only [List.length_map, List.length_append, List.length_cons, List.length_nil, List.length_range, List.length_take, List.length_reverse]; omega))
local macro_rules | `(tactic| walk_at "ev") => `(tactic| (refine' evd_is ?eva ?evb; (case' eva => walk_at "ev1"); (case' evb => first | rfl | skip)))
local macro_rules | `(tactic| walk_at "evt") => `(tactic| (refine' evt_is ?eva ?evb; (case' eva => walk_at "evt1"); (case' evb => first | rfl | skip)))
local macro_rules | `(tactic| walk_at "evr") => `(tactic| first
  | exact evr_l (evl_at rfl)
  | (refine' evr_n ?evn; (case' evn => walk_at "evn1"))
  | (refine' evr_d ?evd; (case' evd => walk_at "ev")))
local macro_rules | `(tactic| walk_at "evl") => `(tactic| first
  | exact evl_at rfl
  | (refine' evl_n ?evn; (case' evn => (refine' evn_is ?eva ?evb; (case' eva => walk_at "evn1"); (case' evb => first | rfl | skip))))
  | (refine' evl_d ?evd; (case' evd => walk_at "ev")))
local macro_rules | `(tactic| walk_at "evk") => `(tactic| first
  | exact evk_at rfl
  | (refine' evk_n ?evn; (case' evn => walk_at "evn1")))
local macro_rules | `(tactic| walk_at "eva") => `(tactic| first
  | exact ea_nil
  | (with_reducible refine' ea_cons ?a ?b; (case' a => walk_at "ev"); (case' b => walk_at "eva")))
local macro_rules | `(tactic| walk_at "evar") => `(tactic| first
  | exact ear_nil
  | (with_reducible refine' ear_cons ?a ?b; (case' a => walk_at "evr"); (case' b => walk_at "evar")))
local macro_rules | `(tactic| walk_at "evo") => `(tactic| first
  | exact evo_none
  | (with_reducible refine' evo_some ?a; (case' a => walk_at "ev")))
local macro_rules | `(tactic| walk_at "ev1") => `(tactic| first
  | exact evd_int | exact evd_bl | exact evd_non | exact evd_str | exact evd_at rfl
  | (with_reducible refine' evd_add ?a ?b; (case' a => walk_at "ev"); (case' b => walk_at "ev"))
  | (with_reducible refine' evd_sub ?a ?b; (case' a => walk_at "ev"); (case' b => walk_at "ev"))
  | (with_reducible refine' evd_ixt0 ?a; (case' a => walk_at "ev"))
  | (with_reducible refine' evd_ixt1 ?a; (case' a => walk_at "ev"))
  | (with_reducible refine' evd_ixl ?a ?b; (case' a => walk_at "evl"))
  | (with_reducible refine' evd_ixm ?a ?b ?c ?d; (case' a => walk_at "evl"); (case' b => walk_at "ev"))
  | (with_reducible refine' evd_lenm ?a; (case' a => walk_at "evl"))
  | (with_reducible refine' evd_absN ?a; (case' a => walk_at "ev"))
  | (with_reducible refine' evd_lt ?a ?b; (case' a => walk_at "ev"); (case' b => walk_at "ev"))
  | (with_reducible refine' evd_le ?a ?b; (case' a => walk_at "ev"); (case' b => walk_at "ev"))
  | (with_reducible refine' evd_gt ?a ?b; (case' a => walk_at "ev"); (case' b => walk_at "ev"))
  | (with_reducible refine' evd_ge ?a ?b; (case' a => walk_at "ev"); (case' b => walk_at "ev"))
  | (with_reducible refine' evd_eqI ?a ?b; (case' a => walk_at "ev"); (case' b => walk_at "ev"))
  | (with_reducible refine' evd_neI ?a ?b; (case' a => walk_at "ev"); (case' b => walk_at "ev"))
  | (with_reducible refine' evd_eqB ?a ?b; (case' a => walk_at "ev"); (case' b => walk_at "ev"))
  | (with_reducible refine' evd_neB ?a ?b; (case' a => walk_at "ev"); (case' b => walk_at "ev"))
  | (with_reducible refine' evd_isB ?a ?b; (case' a => walk_at "ev"); (case' b => walk_at "ev"))
  | (with_reducible refine' evd_notB ?a ?b; (case' a => walk_at "ev"); (case' b => walk_at "ev"))
  | (with_reducible refine' evd_neg ?a; (case' a => walk_at "ev"))
  | (with_reducible refine' evd_mul ?a ?b ?c; (case' a => walk_at "ev"); (case' b => walk_at "ev"))
  | (with_reducible refine' evd_mulW ?a ?b ?c; (case' a => walk_at "ev"); (case' b => walk_at "ev"))
  | (with_reducible refine' evd_div ?a ?b ?c; (case' a => walk_at "ev"); (case' b => walk_at "ev"))
  | (with_reducible refine' evd_mod ?a ?b ?c; (case' a => walk_at "ev"); (case' b => walk_at "ev"))
  | (with_reducible refine' evd_ltlt ?a ?b ?c; (case' a => walk_at "ev"); (case' b => walk_at "ev"); (case' c => walk_at "ev"))
  | (with_reducible refine' evd_lelt ?a ?b ?c; (case' a => walk_at "ev"); (case' b => walk_at "ev"); (case' c => walk_at "ev"))
  | (with_reducible refine' evd_lele ?a ?b ?c; (case' a => walk_at "ev"); (case' b => walk_at "ev"); (case' c => walk_at "ev"))
  | (with_reducible refine' evd_min2 ?a ?b; (case' a => walk_at "ev"); (case' b => walk_at "ev"))
  | (with_reducible refine' evd_max2 ?a ?b; (case' a => walk_at "ev"); (case' b => walk_at "ev"))
  | (with_reducible refine' evd_sum ?a; (case' a => walk_at "evl"))
  | (with_reducible refine' evd_tup ?a ?b; (case' a => walk_at "eva"); (case' b => decide))
  | (with_reducible refine' evd_not ?a; (case' a => walk_at "ev"))
  | (with_reducible refine' evd_n ?a; (case' a => walk_at "evn1")))
local macro_rules | `(tactic| walk_at "evn1") => `(tactic| first
  | (with_reducible refine' evn_lst ?a ?b; (case' a => walk_at "eva"); (case' b => decide))
  | (with_reducible refine' evn_list ?a; (case' a => walk_at "evl"))
  | (with_reducible refine' evn_sl ?a ?b ?c; (case' a => walk_at "evl"); (case' b => walk_at "evo"); (case' c => walk_at "evo"))
  | (with_reducible refine' evn_rev ?a; (case' a => walk_at "evl")))
local macro_rules | `(tactic| walk_at "evt1") => `(tactic| first
  | (with_reducible refine' evt_test ?a; (case' a => walk_at "ev"))
  | (with_reducible refine' evt_B ?a; (case' a => walk_at "ev"))
  | (with_reducible refine' evt_not ?a; (case' a => walk_at "evt")))
local macro_rules | `(tactic| walk_at "set") => `(tactic| (refine' r_set ?e ?k; (case' e => (walk_at "ev"; (all_goals try walk_at "side"))); (case' k => dsimp only [List.set_cons_zero, List.set_cons_succ])))
local macro_rules | `(tactic| walk_at "setn") => `(tactic| (refine' r_setN ?e ?k; (case' e => (walk_at "evn1"; (all_goals try walk_at "side"))); (case' k => (intro p; dsimp only [List.set_cons_zero, List.set_cons_succ]))))
local macro_rules | `(tactic| walk_at "app") => `(tactic| (refine' r_app rfl ?e ?z ?k; (case' e => (walk_at "ev"; (all_goals try walk_at "side"))); (case' z => walk_at "side"); (case' k => dsimp only [List.set_cons_zero, List.set_cons_succ])))
local macro_rules | `(tactic| walk_at "wk") => `(tactic| first | exact WkL.nil | (refine' WkL.same ?_; walk_at "wk") | (refine' WkL.drop ?_; walk_at "wk"))
section
variable {K : PySem.W.Frag} {δ : List Sl} {ta tb tc te : TE} {d e f : PyData}
/-- road[posts[i]][0] -/
theorem ev_pl {r : List (Int × Int)} {ps : List Int} {i : Int} (k : Nat) (ha : EvL K ta δ (r.map eHs)) (hb : EvL K tb δ (ps.map PyData.int)) (hi : EvD K tc δ (.int i)) (e : i = (k : Int)) (hk : k < ps.length) (h : 0 ≤ ps.getD k 0 ∧ ps.getD k 0 < r.length) :
    EvD K (tOp (oIxT K) (tOp (oIx K) ta (tOp (oIx K) tb tc)) (tC (.int 0))) δ (.int (pl r (ps.getD k 0))) := by
  subst e
  have h' : 0 ≤ ps.getD ((k : Int)).toNat default ∧ ps.getD ((k : Int)).toNat default < r.length := by rw [Int.toNat_natCast]; exact h
  refine evd_is (evd_ixt0 (evd_ixm (en := eHs) ha (evd_ixm (en := PyData.int) hb hi (by omega) (by omega)) h'.1 h'.2)) ?_
  rw [Int.toNat_natCast]
  rfl
theorem big_mul {a b : Int} (ha : a.natAbs < 2 ^ 1000) (hb : b.natAbs < 2 ^ 1000) : CMulW a b := wide_mul ha hb (by decide) (by decide) (by decide)
theorem abs_big {a b : Int} (ha : a.natAbs < 2 ^ 300) (hb : b.natAbs < 2 ^ 300) : ((a - b).natAbs : Int).natAbs < 2 ^ 1000 := by
  have h1 : (a - b).natAbs ≤ a.natAbs + b.natAbs := by omega
  have h2 : (2 : Nat) ^ 300 + 2 ^ 300 ≤ 2 ^ 1000 := by decide +kernel
  rw [Int.natAbs_natCast]
  omega
theorem up_big {a : Int} (ha : a.natAbs < 2 ^ 300) : a.natAbs < 2 ^ 1000 := Nat.lt_trans ha (by decide +kernel)
theorem pl_big {r : List (Int × Int)} (ok : RoadOk r) (p : Int) : (pl r p).natAbs < 2 ^ 300 := by
  unfold pl
  by_cases h : p.toNat < r.length
  · exact (ok.big _ (getD_mem h)).1
  · rw [List.getD_eq_getElem?_getD, List.getElem?_eq_none (by omega)]
    decide +kernel
theorem run_nearest_of : ∀ ds d, R_nearest_of ds d → ∀ B D, RtN K B D d → RunS K B (t_nearest_of K) D (ds.map Sl.d ++ List.replicate (6 - ds.length) Sl.no) := by
  rintro _ _ ⟨r, ps, rfl, ok, hp, rfl⟩ B D k
  show RunS K B (t_nearest_of K) D [.d (eRoad r), .d (eInts ps), .no, .no, .no, .no]
  have po := postsOk hp
  walk_at "setn"
  rename_i p
  walk_at "set"
  refine r_forE (evi_listm (en := eHs) (evd_at rfl)) (fun i => [.d (eRoad r), .d (eInts ps), .m p (((ptrs (ps.map (pl r)) ((r.map (·.1)).take i) 0).map fun a => ps.getD a 0).map .int), .d (.int ((ptr (ps.map (pl r)) ((r.map (·.1)).take i) 0 : Nat) : Int)), .no, .no]) (by walk_at "wk") (fun Gb hb i hi => ?_) ?_
  · refine ⟨_, tg_tup (tgs_cons tg_name (tgs_cons tg_name tgs_nil)) rfl, ?_⟩
    dsimp only [List.set_cons_zero, List.set_cons_succ]
    have hr : 0 < r.length := by omega
    have hq : 0 < (ps.map (pl r)).length := by rw [List.length_map]; exact po.some hr
    have hqa : ∀ a, a < ps.length → (ps.map (pl r)).getD a 0 = pl r (ps.getD a 0) := fun a ha => getD_mapI (α := Int) ha
    generalize hx : (r.getD i default).1 = x
    generalize (r.getD i default).2 = l
    generalize ha0 : ptr (ps.map (pl r)) ((r.map (·.1)).take i) 0 = a0
    have ha0l : a0 < ps.length := by rw [← ha0]; have := ptr_lt (q := ps.map (pl r)) ((r.map (·.1)).take i) 0 hq; rw [List.length_map] at this; exact this
    refine r_while (fun m δ => ∃ a, adv (ps.map (pl r)) x a = adv (ps.map (pl r)) x a0 ∧ a < ps.length ∧ m = ps.length - a ∧ δ = [.d (eRoad r), .d (eInts ps), .m p (((ptrs (ps.map (pl r)) ((r.map (·.1)).take i) 0).map fun a => ps.getD a 0).map .int), .d (.int (a : Int)), .d (.int x), .d (.int l)]) _ ⟨_, WkL.refl _, a0, rfl, ha0l, rfl, rfl⟩ ?_
    rintro m _ ⟨a, h1, h2, h3, rfl⟩
    refine ⟨_, evt_and (evt_test (evd_lt (evd_add (evd_at rfl) evd_int) (evd_lenm (en := PyData.int) (evl_d (evd_at rfl))))) fun h => evt_test (evd_lt (evd_absN (evd_sub (ev_pl (a + 1) (evl_d (evd_at rfl)) (evl_d (evd_at rfl)) (evd_add (evd_at rfl) evd_int) rfl ?_ ?_) (evd_at rfl))) (evd_absN (evd_sub (ev_pl a (evl_d (evd_at rfl)) (evl_d (evd_at rfl)) (evd_at rfl) rfl h2 (po.bnd a h2)) (evd_at rfl)))), fun h => ?_, fun h => ?_⟩
    · have := of_decide_eq_true h; omega
    · have := of_decide_eq_true h; exact po.bnd (a + 1) (by omega)
    · simp only [Bool.and_eq_true, decide_eq_true_eq] at h
      have hl : a + 1 < ps.length := by omega
      walk_at "set"
      refine r_next (nx_inv (WkL.refl _) ⟨_, rfl, m - 1, by omega, a + 1, ?_, hl, by omega, rfl⟩)
      rw [← h1]
      refine (adv_go ⟨by rw [List.length_map]; exact hl, ?_⟩).symm
      rw [hqa _ hl, hqa _ h2]
      have := h.2
      omega
    · have h0 : adv (ps.map (pl r)) x a = a := by
        refine adv_stop fun z => ?_
        rw [List.length_map] at z
        rw [hqa _ z.1, hqa _ h2] at z
        simp only [Bool.and_eq_false_iff, decide_eq_false_iff_not] at h
        omega
      have hxi : (r.map (·.1)).getD i default = x := by rw [← hx]; exact getD_mapI (f := fun h : Int × Int => h.1) hi
      have e1 : (r.map (·.1)).take (i + 1) = (r.map (·.1)).take i ++ [x] := by rw [take_snoc _ (by rw [List.length_map]; exact hi), hxi]
      refine r_app rfl (evd_ixm (en := PyData.int) (evl_d (evd_at rfl)) (evd_at rfl) (by omega) (by omega)) ?_ ?_
      · rw [List.length_map, List.length_map, ptrs_length, List.length_take, List.length_map]
        have := ok.len
        omega
      · dsimp only [List.set_cons_zero, List.set_cons_succ]
        refine r_next (nx_env ?_)
        have ea : a = adv (ps.map (pl r)) x a0 := by rw [← h1, h0]
        rw [e1, ptrs_snoc, ptr_snoc, ha0, ← ea, List.map_append, List.map_append, Int.toNat_natCast]
        walk_at "wk"
  · refine r_retM rfl ?_
    have e : (r.map (·.1)).take r.length = r.map (·.1) := List.take_of_length_le (by rw [List.length_map]; exact Nat.le_refl _)
    rw [e]
    exact k
theorem ev_nearest_of {r : List (Int × Int)} {ps : List Int} (ha : EvD K ta δ (eRoad r)) (hb : EvD K tb δ (eInts ps)) (ok : RoadOk r) (h : arePosts r.length ps = true) : EvN K (tCall (sp_nearest_of K) [] E0 (tCons ta (tCons tb tNil))) δ ((nearL r ps).map .int) :=
  evn_call (ea_cons ha (ea_cons hb ea_nil)) ⟨r, ps, rfl, ok, h, rfl⟩
theorem run_way_of : ∀ ds d, R_way_of ds d → ∀ B D, RtD K B D d → (d = .none → ∀ δ, Nx K B D δ) → RunS K B (t_way_of K) D (ds.map Sl.d ++ List.replicate (5 - ds.length) Sl.no) := by
  rintro _ _ ⟨r, ps, rfl, ok, hp, rfl⟩ B D k _
  show RunS K B (t_way_of K) D [.d (eRoad r), .d (eInts ps), .no, .no, .no]
  have po := postsOk hp
  have hl := nearL_length r ps
  walk_at "set"
  refine r_forE (evi_zipm (en := eHs) (eo := PyData.int) (evd_at rfl) (evd_n (ev_nearest_of (evd_at rfl) (evd_at rfl) ok hp)) hl.symm) (fun i => [.d (eRoad r), .d (eInts ps), .d (.int (((r.zip (nearL r ps)).take i).map (wayT r)).sum), .no, .no]) (by walk_at "wk") (fun Gb hb i hi => ?_) ?_
  · refine ⟨_, tg_tup (tgs_cons tg_name (tgs_cons tg_name tgs_nil)) rfl, ?_⟩
    dsimp only [List.set_cons_zero, List.set_cons_succ]
    have hbd := nearL_bnd po hi
    have hm := getD_mem hi
    have hz : (r.zip (nearL r ps)).getD i default = (r.getD i default, (nearL r ps).getD i default) := by
      have h1 : i < (nearL r ps).length := by omega
      simp [List.getD_eq_getElem?_getD, List.getElem?_zip_eq_some, hi, h1, List.getElem?_eq_getElem, List.zip, List.getElem?_zipWith]
    refine r_set (evd_add (evd_at rfl) (evd_mulW (evd_ixt1 (evd_at rfl)) (evd_absN (evd_sub (evd_ixt0 (evd_at rfl)) (evd_ixt0 (evd_ixm (en := eHs) (evl_d (evd_at rfl)) (evd_at rfl) hbd.1 hbd.2)))) (big_mul (up_big (ok.big _ hm).2) (abs_big (ok.big _ hm).1 (pl_big ok _))))) ?_
    dsimp only [List.set_cons_zero, List.set_cons_succ]
    refine r_next (nx_env ?_)
    rw [take_snoc _ (by rw [List.length_zip]; omega), hz, List.map_append, List.sum_append]
    have e : ([(r.getD i default, (nearL r ps).getD i default)].map (wayT r)).sum = (r.getD i default).2 * (((r.getD i default).1 - (r.getD ((nearL r ps).getD i default).toNat default).1).natAbs : Int) := by
      simp [wayT, pl]
    rw [e]
    walk_at "wk"
  · have e : (r.zip (nearL r ps)).take r.length = r.zip (nearL r ps) := List.take_of_length_le (by rw [List.length_zip]; omega)
    rw [e]
    exact r_ret (evd_at rfl) k
theorem ev_way_of {r : List (Int × Int)} {ps : List Int} (ha : EvD K ta δ (eRoad r)) (hb : EvD K tb δ (eInts ps)) (ok : RoadOk r) (h : arePosts r.length ps = true) : EvD K (tCall (sp_way_of K) [] E0 (tCons ta (tCons tb tNil))) δ (.int (wayL r ps)) :=
  evd_call (ea_cons ha (ea_cons hb ea_nil)) ⟨r, ps, rfl, ok, h, rfl⟩
theorem run_nearest : ∀ ds d, R_nearest ds d → ∀ B D, RtN K B D d → RunS K B (t_nearest K) D (ds.map Sl.d ++ List.replicate (2 - ds.length) Sl.no) := by
  rintro _ _ ⟨r, ps, rfl, ok, hp, hl, rfl⟩ B D k
  show RunS K B (t_nearest K) D [.d (eRoad r), .d (eInts ps)]
  exact r_drop (ev_asked_road (evd_at rfl) ok) (r_drop (ev_asked_posts (evd_at rfl) (evd_at rfl) ok.len hl hp) (r_retN (ev_nearest_of (evd_at rfl) (evd_at rfl) ok hp) k))
theorem ev_nearest {r : List (Int × Int)} {ps : List Int} (ha : EvD K ta δ (eRoad r)) (hb : EvD K tb δ (eInts ps)) (ok : RoadOk r) (h : arePosts r.length ps = true) (hl : ps.length ≤ 1000) : EvN K (tCall (sp_nearest K) [] E0 (tCons ta (tCons tb tNil))) δ ((nearL r ps).map .int) :=
  evn_call (ea_cons ha (ea_cons hb ea_nil)) ⟨r, ps, rfl, ok, h, hl, rfl⟩
theorem run_way : ∀ ds d, R_way ds d → ∀ B D, RtD K B D d → (d = .none → ∀ δ, Nx K B D δ) → RunS K B (t_way K) D (ds.map Sl.d ++ List.replicate (2 - ds.length) Sl.no) := by
  rintro _ _ ⟨r, ps, rfl, ok, hp, hl, rfl⟩ B D k _
  show RunS K B (t_way K) D [.d (eRoad r), .d (eInts ps)]
  exact r_drop (ev_asked_road (evd_at rfl) ok) (r_drop (ev_asked_posts (evd_at rfl) (evd_at rfl) ok.len hl hp) (r_ret (ev_way_of (evd_at rfl) (evd_at rfl) ok hp) k))
theorem ev_way {r : List (Int × Int)} {ps : List Int} (ha : EvD K ta δ (eRoad r)) (hb : EvD K tb δ (eInts ps)) (ok : RoadOk r) (h : arePosts r.length ps = true) (hl : ps.length ≤ 1000) : EvD K (tCall (sp_way K) [] E0 (tCons ta (tCons tb tNil))) δ (.int (wayL r ps)) :=
  evd_call (ea_cons ha (ea_cons hb ea_nil)) ⟨r, ps, rfl, ok, h, hl, rfl⟩
end
end Ph

set_option Elab.async false
set_option linter.all false
set_option maxRecDepth 100000
set_option maxHeartbeats 2000000
namespace Ph
open PySem PySem.Spec L2
/-! ### steps by themselves -/
local macro_rules | `(tactic| walk_at "side") => `(tactic| first | assumption | decide | omega | (simp only [List.length_map, List.length_append, List.length_cons, List.length_nil, List.length_range, List.length_take, List.length_reverse]; omega))
local macro_rules | `(tactic| walk_at "ev") => `(tactic| (refine' evd_is ?eva ?evb; (case' eva => walk_at "ev1"); (case' evb => first | rfl | skip)))
local macro_rules | `(tactic| walk_at "evt") => `(tactic| (refine' evt_is ?eva ?evb; (case' eva => walk_at "evt1"); (case' evb => first | rfl | skip)))
local macro_rules | `(tactic| walk_at "evr") => `(tactic| first
  | exact evr_l (evl_at rfl)
  | (refine' evr_n ?evn; (case' evn => walk_at "evn1"))
  | (refine' evr_d ?evd; (case' evd => walk_at "ev")))
local macro_rules | `(tactic| walk_at "evl") => `(tactic| first
  | exact evl_at rfl
  | (refine' evl_n ?evn; (case' evn => (refine' evn_is ?eva ?evb; (case' eva => walk_at "evn1"); (case' evb => first | rfl | skip))))
  | (refine' evl_d ?evd; (case' evd => walk_at "ev")))
local macro_rules | `(tactic| walk_at "evk") => `(tactic| first
  | exact evk_at rfl
  | (refine' evk_n ?evn; (case' evn => walk_at "evn1")))
local macro_rules | `(tactic| walk_at "eva") => `(tactic| first
  | exact ea_nil
  | (with_reducible refine' ea_cons ?a ?b; (case' a => walk_at "ev"); (case' b => walk_at "eva")))
local macro_rules | `(tactic| walk_at "evar") => `(tactic| first
  | exact ear_nil
  | (with_reducible refine' ear_cons ?a ?b; (case' a => walk_at "evr"); (case' b => walk_at "evar")))
local macro_rules | `(tactic| walk_at "evo") => `(tactic| first
  | exact evo_none
  | (with_reducible refine' evo_some ?a; (case' a => walk_at "ev")))
local macro_rules | `(tactic| walk_at "ev1") => `(tactic| first
  | exact evd_int | exact evd_bl | exact evd_non | exact evd_str | exact evd_at rfl
  | (with_reducible refine' evd_add ?a ?b; (case' a => walk_at "ev"); (case' b => walk_at "ev"))
  | (with_reducible refine' evd_sub ?a ?b; (case' a => walk_at "ev"); (case' b => walk_at "ev"))
  | (with_reducible refine' evd_ixt0 ?a; (case' a => walk_at "ev"))
  | (with_reducible refine' evd_ixt1 ?a; (case' a => walk_at "ev"))
  | (with_reducible refine' evd_ixl ?a ?b; (case' a => walk_at "evl"))
  | (with_reducible refine' evd_ixm ?a ?b ?c ?d; (case' a => walk_at "evl"); (case' b => walk_at "ev"))
  | (with_reducible refine' evd_lenm ?a; (case' a => walk_at "evl"))
  | (with_reducible refine' evd_absN ?a; (case' a => walk_at "ev"))
  | (with_reducible refine' evd_lt ?a ?b; (case' a => walk_at "ev"); (case' b => walk_at "ev"))
  | (with_reducible refine' evd_le ?a ?b; (case' a => walk_at "ev"); (case' b => walk_at "ev"))
  | (with_reducible refine' evd_gt ?a ?b; (case' a => walk_at "ev"); (case' b => walk_at "ev"))
  | (with_reducible refine' evd_ge ?a ?b; (case' a => walk_at "ev"); (case' b => walk_at "ev"))
  | (with_reducible refine' evd_eqI ?a ?b; (case' a => walk_at "ev"); (case' b => walk_at "ev"))
  | (with_reducible refine' evd_neI ?a ?b; (case' a => walk_at "ev"); (case' b => walk_at "ev"))
  | (with_reducible refine' evd_eqB ?a ?b; (case' a => walk_at "ev"); (case' b => walk_at "ev"))
  | (with_reducible refine' evd_neB ?a ?b; (case' a => walk_at "ev"); (case' b => walk_at "ev"))
  | (with_reducible refine' evd_isB ?a ?b; (case' a => walk_at "ev"); (case' b => walk_at "ev"))
  | (with_reducible refine' evd_notB ?a ?b; (case' a => walk_at "ev"); (case' b => walk_at "ev"))
  | (with_reducible refine' evd_neg ?a; (case' a => walk_at "ev"))
  | (with_reducible refine' evd_mul ?a ?b ?c; (case' a => walk_at "ev"); (case' b => walk_at "ev"))
  | (with_reducible refine' evd_mulW ?a ?b ?c; (case' a => walk_at "ev"); (case' b => walk_at "ev"))
  | (with_reducible refine' evd_div ?a ?b ?c; (case' a => walk_at "ev"); (case' b => walk_at "ev"))
  | (with_reducible refine' evd_mod ?a ?b ?c; (case' a => walk_at "ev"); (case' b => walk_at "ev"))
  | (with_reducible refine' evd_ltlt ?a ?b ?c; (case' a => walk_at "ev"); (case' b => walk_at "ev"); (case' c => walk_at "ev"))
  | (with_reducible refine' evd_lelt ?a ?b ?c; (case' a => walk_at "ev"); (case' b => walk_at "ev"); (case' c => walk_at "ev"))
  | (with_reducible refine' evd_lele ?a ?b ?c; (case' a => walk_at "ev"); (case' b => walk_at "ev"); (case' c => walk_at "ev"))
  | (with_reducible refine' evd_min2 ?a ?b; (case' a => walk_at "ev"); (case' b => walk_at "ev"))
  | (with_reducible refine' evd_max2 ?a ?b; (case' a => walk_at "ev"); (case' b => walk_at "ev"))
  | (with_reducible refine' evd_sum ?a; (case' a => walk_at "evl"))
  | (with_reducible refine' evd_tup ?a ?b; (case' a => walk_at "eva"); (case' b => decide))
  | (with_reducible refine' evd_not ?a; (case' a => walk_at "ev"))
  | (with_reducible refine' evd_n ?a; (case' a => walk_at "evn1")))
local macro_rules | `(tactic| walk_at "evn1") => `(tactic| first
  | (with_reducible refine' evn_lst ?a ?b; (case' a => walk_at "eva"); (case' b => decide))
  | (with_reducible refine' evn_list ?a; (case' a => walk_at "evl"))
  | (with_reducible refine' evn_sl ?a ?b ?c; (case' a => walk_at "evl"); (case' b => walk_at "evo"); (case' c => walk_at "evo"))
  | (with_reducible refine' evn_rev ?a; (case' a => walk_at "evl")))
local macro_rules | `(tactic| walk_at "evt1") => `(tactic| first
  | (with_reducible refine' evt_test ?a; (case' a => walk_at "ev"))
  | (with_reducible refine' evt_B ?a; (case' a => walk_at "ev"))
  | (with_reducible refine' evt_not ?a; (case' a => walk_at "evt")))
local macro_rules | `(tactic| walk_at "set") => `(tactic| (refine' r_set ?e ?k; (case' e => (walk_at "ev"; (all_goals try walk_at "side"))); (case' k => dsimp only [List.set_cons_zero, List.set_cons_succ])))
local macro_rules | `(tactic| walk_at "setn") => `(tactic| (refine' r_setN ?e ?k; (case' e => (walk_at "evn1"; (all_goals try walk_at "side"))); (case' k => (intro p; dsimp only [List.set_cons_zero, List.set_cons_succ]))))
local macro_rules | `(tactic| walk_at "app") => `(tactic| (refine' r_app rfl ?e ?z ?k; (case' e => (walk_at "ev"; (all_goals try walk_at "side"))); (case' z => walk_at "side"); (case' k => dsimp only [List.set_cons_zero, List.set_cons_succ])))
local macro_rules | `(tactic| walk_at "wk") => `(tactic| first | exact WkL.nil | (refine' WkL.same ?_; walk_at "wk") | (refine' WkL.drop ?_; walk_at "wk"))
section
variable {K : PySem.W.Frag} {δ : List Sl} {ta tb tc te : TE} {d e f : PyData}
theorem run_law_numbers : ∀ ds d, R_law_numbers ds d → ∀ B D, RtD K B D d → (d = .none → ∀ δ, Nx K B D δ) → RunS K B (t_law_numbers K) D (ds.map Sl.d ++ List.replicate (2 - ds.length) Sl.no) := by
  rintro _ _ ⟨ns, rfl, hl, rfl⟩ B D k _
  show RunS K B (t_law_numbers K) D [.d (eInts ns), .no]
  refine r_skip (evt_is (evt_not (evt_B (evd_isi (evr_d (evd_at rfl)) kb_list_list))) rfl) ?_
  refine r_ret (evd_is (evd_all (ns := ns.map fun _ => true) (evl_is (evl_n (evn_lcL (α := Int) default (xs := ns) (en := PyData.int) (f := fun _ => .bool true) (evd_at rfl) (by omega) fun x hx => evd_is (evd_and (evd_isi (d := .int x) (evr_d (evd_at rfl)) kb_int_int) fun _ => evd_not (evd_isi (d := .int x) (evr_d (evd_at rfl)) kb_int_bool)) rfl)) ?_)) ?_) k
  · rw [List.map_map]; rfl
  · have e : (ns.map fun _ => true).all id = true := by rw [List.all_map]; exact List.all_eq_true.mpr fun _ _ => rfl
    rw [e]
theorem ev_law_numbers {ns : List Int} (ha : EvR K ta δ (eInts ns)) (hl : ns.length ≤ 1000) : EvD K (tCall (sp_law_numbers K) [] E0 (tCons ta tNil)) δ (.bool true) := evd_callR (ear_cons ha ear_nil) ⟨ns, rfl, hl, rfl⟩ rfl
theorem emod4 {m : Int} (c : Int) (hc : 0 < c) : 0 ≤ m % c ∧ m % c < c := ⟨Int.emod_nonneg _ (by omega), Int.emod_lt_of_pos _ hc⟩
/-- (a, b, c, d)[m % 4] -/
theorem ev_pick {m : Int} {a b c d : Int} (h : EvD K ta δ (.tuple [.int a, .int b, .int c, .int d])) (hm : EvD K tb δ (.int m)) (hb : 0 ≤ m ∧ m < 4) : EvD K (tOp (oIxT K) ta tb) δ (.int (([a, b, c, d] : List Int).getD m.toNat 0)) :=
  evd_ixT (ds := ([a, b, c, d] : List Int).map PyData.int) h hm (atI_nn (xs := ([a, b, c, d] : List Int)) (en := PyData.int) hb.1 hb.2)
theorem run_law_posts : ∀ ds d, R_law_posts ds d → ∀ B D, RtD K B D d → (d = .none → ∀ δ, Nx K B D δ) → RunS K B (t_law_posts K) D (ds.map Sl.d ++ List.replicate (4 - ds.length) Sl.no) := by
  rintro _ _ ⟨s, n, rfl, hl, hn, rfl⟩ B D k _
  show RunS K B (t_law_posts K) D [.d (eInts s), .d (.int n), .no, .no]
  refine r_set (d := eInts (lawDrawn s n)) (evd_is (evd_n (evn_lc (b := fun i => decide (s.getD i 0 / 7 % 4 = 0)) (f := fun (i : Nat) => PyData.int (i : Int)) (δi := fun i => [.d (eInts s), .d (.int n), .no, .d (.int (i : Int))]) (evi_range1 (evd_at rfl) (by omega)) (fun _ _ _ _ _ _ => trivial) (by omega) (fun i hi => tv_name (by simp)) (fun i hi => ?_) (fun i hi _ => evd_at rfl))) ?_) ?_
  · refine evt_is (evt_test (evd_eqI (evd_mod (evd_div (evd_ixm (en := PyData.int) (evl_d (evd_at rfl)) (evd_at rfl) (by omega) (by omega)) evd_int ⟨by decide, by decide⟩) evd_int (by decide)) evd_int)) ?_
    rw [Int.toNat_natCast]
    rfl
  · unfold lawDrawn eInts
    rw [List.map_map]
    rfl
  · dsimp only [List.set_cons_zero, List.set_cons_succ]
    refine r_ret (evd_is (evd_if (d := eInts (lawPosts s n)) (evt_or (evt_test (evd_neE (evr_d (evd_at rfl)) ((shp_ints _).ok (by decide)))) fun _ => evt_test (evd_eqI (evd_at rfl) evd_int)) (fun h => ?_) (fun h => ?_)) rfl) k
    · rw [map_nil] at h
      have e : lawPosts s n = lawDrawn s n := by
        unfold lawPosts
        refine if_pos ?_
        simpa using h
      rw [e]
      exact evd_at rfl
    · rw [map_nil] at h
      have h' : lawDrawn s n = [] ∧ ¬ ((n : Int) = 0) := by simpa using h
      have e : lawPosts s n = [s.sum % n] := by
        unfold lawPosts
        refine if_neg ?_
        rintro (z | z)
        · exact z h'.1
        · apply h'.2; omega
      rw [e]
      exact evd_n (evn_lst (ea_cons (evd_mod (evd_sum (evl_d (evd_at rfl))) (evd_at rfl) (by omega)) ea_nil) (by simp))
theorem ev_law_posts {s : List Int} {n : Nat} (ha : EvD K ta δ (eInts s)) (hb : EvD K tb δ (.int (n : Int))) (hl : s.length ≤ 63) (hn : n ≤ s.length) : EvD K (tCall (sp_law_posts K) [] E0 (tCons ta (tCons tb tNil))) δ (eInts (lawPosts s n)) := evd_call (ea_cons ha (ea_cons hb ea_nil)) ⟨s, n, rfl, hl, hn, rfl⟩
theorem run_law_road : ∀ ds d, R_law_road ds d → ∀ B D, RtN K B D d → RunS K B (t_law_road K) D (ds.map Sl.d ++ List.replicate (8 - ds.length) Sl.no) := by
  rintro _ _ ⟨s, rfl, hl, rfl⟩ B D k
  show RunS K B (t_law_road K) D [.d (eInts s), .no, .no, .no, .no, .no, .no, .no]
  have hb := lBase_length s
  refine r_set (evd_sum (evl_d (evd_at rfl))) ?_
  refine r_set (d := .int (lApart s.sum)) (ev_pick (a := 3) (b := 40) (c := 1) (d := 10 ^ 20) (evd_tup (ea_cons evd_int (ea_cons evd_int (ea_cons evd_int (ea_cons (evd_pow evd_int evd_int ⟨by decide, by decide, by decide⟩) ea_nil)))) (by decide)) (evd_mod (evd_at rfl) evd_int (by decide)) (emod4 4 (by decide))) ?_
  refine r_set (d := .int (lMost s.sum)) (ev_pick (a := 2) (b := 30) (c := 1000) (d := 10 ^ 25) (evd_tup (ea_cons evd_int (ea_cons evd_int (ea_cons evd_int (ea_cons (evd_pow evd_int evd_int ⟨by decide, by decide, by decide⟩) ea_nil)))) (by decide)) (evd_mod (evd_div (evd_at rfl) evd_int ⟨by decide, by decide⟩) evd_int (by decide)) (emod4 4 (by decide))) ?_
  refine r_set (d := .int (lPlace s 0)) (evd_sub (evd_mod (evd_div (evd_at rfl) evd_int ⟨by decide, by decide⟩) evd_int (by decide)) evd_int) ?_
  refine r_setN (evn_lst ea_nil (by decide)) fun p => ?_
  dsimp only [List.set_cons_zero, List.set_cons_succ]
  refine r_forE (evi_range3 (n := (s.length + 1) / 2) evd_int (evd_lenm (en := PyData.int) (evl_d (evd_at rfl))) evd_int (rgc_pos (by decide) (by decide) (by omega) (by omega))) (fun i => [.d (eInts s), .d (.int s.sum), .d (.int (lApart s.sum)), .d (.int (lMost s.sum)), .d (.int (lPlace s i)), .m p (((List.range i).map fun k => (lPlace s (k + 1), lLet s k)).map eHs), .no, .no]) (by walk_at "wk") (fun Gb hbb i hi => ?_) ?_
  · refine ⟨_, tg_name, ?_⟩
    dsimp only [List.set_cons_zero, List.set_cons_succ]
    have e0 : (0 : Int) + (i : Int) * 2 = ((2 * i : Nat) : Int) := by omega
    rw [e0]
    have hA := (lApart_b s.sum).1
    have hM := (lMost_b s.sum).1
    refine r_set (d := .int (lPlace s (i + 1))) (evd_is (evd_add (evd_add (evd_at rfl) evd_int) (evd_mod (evd_ixm (en := PyData.int) (evl_d (evd_at rfl)) (evd_at rfl) (by omega) (by omega)) (evd_at rfl) hA)) ?_) ?_
    · rw [Int.toNat_natCast]
      rfl
    · dsimp only [List.set_cons_zero, List.set_cons_succ]
      refine r_app rfl (d := eHs (lPlace s (i + 1), lLet s i)) (evd_tup (ea_cons (evd_at rfl) (ea_cons ?_ ea_nil)) (by simp)) ?_ ?_
      · by_cases hc : 2 * i + 1 = s.length
        · by_cases h0 : i = 0
          · subst h0
            have h1 : s.length = 1 := by omega
            obtain ⟨a, rfl⟩ : ∃ a, s = [a] := by
              match s, h1 with
              | [a], _ => exact ⟨a, rfl⟩
            have e : lLet [a] 0 = a % lMost ([a] : List Int).sum := rfl
            rw [e]
            refine evd_mod (evd_ix (ds := [PyData.int a]) (d := .int a) (i := -1) (evl_d (evd_at rfl)) (evd_if (evt_test (evd_eqI (evd_add (evd_at rfl) evd_int) (evd_lenm (en := PyData.int) (evl_d (evd_at rfl))))) (fun _ => evd_is (evd_sub (evd_at rfl) evd_int) rfl) (fun z => ?_)) rfl) (evd_at rfl) hM
            exact absurd z (by simp)
          · have e : lLet s i = s.getD (2 * i - 1) 0 % lMost s.sum := by unfold lLet; rw [if_pos hc, if_neg h0]
            rw [e]
            refine evd_mod (evd_is (evd_ixm (i := ((2 * i - 1 : Nat) : Int)) (en := PyData.int) (evl_d (evd_at rfl)) (evd_if (evt_test (evd_eqI (evd_add (evd_at rfl) evd_int) (evd_lenm (en := PyData.int) (evl_d (evd_at rfl))))) (fun _ => evd_is (evd_sub (evd_at rfl) evd_int) ?_) (fun z => ?_)) (by omega) (by omega)) ?_) (evd_at rfl) hM
            · congr 1; omega
            · exfalso
              have := of_decide_eq_false z
              omega
            · rw [Int.toNat_natCast]; rfl
        · have e : lLet s i = s.getD (2 * i + 1) 0 % lMost s.sum := by unfold lLet; rw [if_neg hc]
          rw [e]
          refine evd_mod (evd_is (evd_ixm (i := ((2 * i + 1 : Nat) : Int)) (en := PyData.int) (evl_d (evd_at rfl)) (evd_if (evt_test (evd_eqI (evd_add (evd_at rfl) evd_int) (evd_lenm (en := PyData.int) (evl_d (evd_at rfl))))) (fun z => ?_) (fun _ => evd_is (evd_add (evd_at rfl) evd_int) ?_)) (by omega) (by omega)) ?_) (evd_at rfl) hM
          · exfalso
            have := of_decide_eq_true z
            omega
          · congr 1
          · rw [Int.toNat_natCast]; rfl
      · rw [List.length_map, List.length_map, List.length_range]; omega
      · dsimp only [List.set_cons_zero, List.set_cons_succ]
        refine r_next (nx_env ?_)
        rw [List.range_succ, List.map_append, List.map_append]
        walk_at "wk"
  · have eB : (List.range ((s.length + 1) / 2)).map (fun k => (lPlace s (k + 1), lLet s k)) = lBase s := rfl
    rw [eB]
    refine r_when (evt_and (evt_test (evd_eqI (evd_mod (evd_div (evd_at rfl) evd_int ⟨by decide, by decide⟩) evd_int (by decide)) evd_int)) fun _ => evt_test (evd_neE (evr_l (evl_at rfl)) ((shp_road _).ok (by decide)))) (fun h => ?_) (fun h => ?_)
    · rw [map_nil] at h
      have h' : s.sum / 64 % 8 = 1 ∧ lBase s ≠ [] := by simpa using h
      have e : lawRoad s = lMany s.sum (lBase s) := by unfold lawRoad; rw [if_pos h']
      rw [e] at k
      refine r_freeze (i := 5) rfl ?_
      refine r_set (evd_at rfl) ?_
      dsimp only [List.set_cons_zero, List.set_cons_succ]
      have hp : 0 < (lBase s).length := List.length_pos_iff.mpr h'.2
      have hm := emod4 (m := s.sum) 5 (by decide)
      refine r_setN (ds := (lMany s.sum (lBase s)).map eHs) (evn_is (evn_lcR (n := (40 + s.sum % 5).toNat) (f := fun (i : Nat) => eHs (50 * (i : Int) + ((lBase s).getD (i % (lBase s).length) default).1 % 50, ((lBase s).getD (i % (lBase s).length) default).2)) (evd_is (evd_add evd_int (evd_mod (evd_at rfl) evd_int (by decide))) ?_) (by omega) fun i hi => ?_) ?_) fun p2 => ?_
      · congr 1; omega
      · have em : (i : Int) % ((lBase s).length : Int) = ((i % (lBase s).length : Nat) : Int) := rfl
        have hlt : i % (lBase s).length < (lBase s).length := Nat.mod_lt _ hp
        have hix : EvD K (tOp (oIx K) (tVar 7) (tOp oMod (tVar 6) (tCB (cLen K) (tCons (tVar 7) tNil)))) ((wipeD [Sl.d (eInts s), .d (.int s.sum), .d (.int (lApart s.sum)), .d (.int (lMost s.sum)), .d (.int (lPlace s ((s.length + 1) / 2))), .d (eRoad (lBase s)), .no, .d (eRoad (lBase s))] [6]).set 6 (.d (.int (i : Int)))) (eHs ((lBase s).getD (i % (lBase s).length) default)) := by
          refine evd_is (evd_ixm (en := eHs) (evl_d (evd_at rfl)) (evd_mod (evd_at rfl) (evd_lenm (en := eHs) (evl_d (evd_at rfl))) (by omega)) ?_ ?_) ?_
          · rw [em]; omega
          · rw [em]; omega
          · rw [em, Int.toNat_natCast]
        exact evd_tup (ea_cons (evd_add (evd_mul evd_int (evd_at rfl) (.inl ⟨by decide, by decide⟩)) (evd_mod (evd_ixt0 hix) evd_int (by decide))) (ea_cons (evd_ixt1 hix) ea_nil)) (by simp)
      · unfold lMany
        rw [List.map_map]
        rfl
      · exact r_next (nx_run (r_retM rfl k))
    · rw [map_nil] at h
      have h' : ¬ (s.sum / 64 % 8 = 1 ∧ lBase s ≠ []) := by simpa using h
      have e : lawRoad s = lBase s := by unfold lawRoad; rw [if_neg h']
      rw [e] at k
      exact r_retM rfl k
theorem ev_law_road {s : List Int} (ha : EvD K ta δ (eInts s)) (hl : s.length ≤ 63) : EvN K (tCall (sp_law_road K) [] E0 (tCons ta tNil)) δ ((lawRoad s).map eHs) := evn_call (ea_cons ha ea_nil) ⟨s, rfl, hl, rfl⟩
end
end Ph

set_option Elab.async false
set_option linter.all false
set_option maxRecDepth 100000
set_option maxHeartbeats 2000000
namespace Ph
open PySem PySem.Spec L2
theorem fun_of {K : PySem.W.Frag} {x q : Str} {st : Stmt} {f : Addr} {fd : FuncData} (F : FunD K x q (defArgs st) (defBody st) (defScope st) [] [] f fd) : Fun K x q st f fd := by
  obtain ⟨oc, od, dV, kV, doc, pm, an, cdv, ct, osl, e, lk, hc, hD, _⟩ := F.ex
  rcases hD with ⟨_, z⟩ | ⟨z, _⟩
  · rw [z] at e
    exact ⟨⟨oc, od, kV, doc, pm, an, cdv, ct, osl, e, lk, hc⟩, F.kp⟩
  · exact absurd rfl z
end Ph

set_option Elab.async false
set_option linter.all false
set_option maxRecDepth 100000
set_option maxHeartbeats 2000000
namespace Ph
open PySem PySem.Spec L2
/-! ### min of a list of pairs -/
def pairLt (a b : Int × Int) : Bool := decide (a.1 < b.1) || (decide (a.1 = b.1) && decide (a.2 < b.2))
def minP (x : Int × Int) (xs : List (Int × Int)) : Int × Int := xs.foldl (fun a y => if pairLt y a then y else a) x
def minPD (z : Int × Int) : List (Int × Int) → Int × Int
  | [] => z
  | x :: xs => minP x xs
theorem dataLt_hs (a b : Int × Int) : PySem.W.dataLt (eHs a) (eHs b) = pairLt a b := by
  have e1 : PySem.W.keyToksAll [PyData.int a.1, PyData.int a.2] = [Sum.inl 1, Sum.inl a.1, Sum.inl 1, Sum.inl a.2, Sum.inl 0] := rfl
  have e2 : PySem.W.keyToksAll [PyData.int b.1, PyData.int b.2] = [.inl 1, .inl b.1, .inl 1, .inl b.2, .inl 0] := rfl
  show PySem.W.dataLt (.tuple [PyData.int a.1, PyData.int a.2]) (.tuple [PyData.int b.1, PyData.int b.2]) = _
  rw [PySem.W.dataLt_tuple, e1, e2, PyProof.Rows.lex_self]
  have one : ∀ x y : Int, PyProof.Rows.lexLt PyProof.Rows.itemOrd [(Sum.inl x : Int ⊕ List Nat)] [(Sum.inl y : Int ⊕ List Nat)] = decide (x < y) := fun x y => by
    have := PySem.W.dataLt_int x y
    unfold PySem.W.dataLt at this
    simpa only [PySem.W.keyToks] using this
  unfold pairLt
  by_cases h1 : a.1 = b.1
  · rw [h1, PyProof.Rows.lex_self, PyProof.Rows.lex_self]
    have n : ¬ b.1 < b.1 := by omega
    rw [decide_eq_false n, Bool.false_or, decide_eq_true rfl, Bool.true_and]
    by_cases h2 : a.2 = b.2
    · rw [h2, PyProof.Rows.lex_self, PyProof.Rows.lex_self]
      have n2 : ¬ b.2 < b.2 := by omega
      rw [decide_eq_false n2]
      rfl
    · rw [PySem.W.lex_atom (fun z => h2 (Sum.inl.inj z)), one]
  · rw [PySem.W.lex_atom (fun z => h1 (Sum.inl.inj z)), one, decide_eq_false h1, Bool.false_and, Bool.or_false]
theorem minD_hs (x : Int × Int) (xs : List (Int × Int)) : PySem.W.minD (eHs x) (xs.map eHs) = eHs (minP x xs) := by
  unfold PySem.W.minD minP
  induction xs generalizing x with
  | nil => rfl
  | cons y r ih =>
    rw [List.map_cons, List.foldl_cons, List.foldl_cons, ← ih, dataLt_hs]
    split <;> rfl
theorem eHs_inj {a b : Int × Int} (h : eHs a = eHs b) : a = b := by
  have h1 : [PyData.int a.1, PyData.int a.2] = [PyData.int b.1, PyData.int b.2] := PyData.tuple.inj h
  simp at h1
  exact Prod.ext h1.1 h1.2
theorem alike_hs (xs : List (Int × Int)) : PySem.W.AlikeAll (xs.map eHs) := by
  refine ⟨fun x hx y hy => ?_, fun x hx => ?_⟩
  · obtain ⟨a, _, rfl⟩ := List.mem_map.mp hx
    obtain ⟨b, _, rfl⟩ := List.mem_map.mp hy
    rfl
  · obtain ⟨a, _, rfl⟩ := List.mem_map.mp hx
    exact fun z => nomatch z
theorem depth_hs (xs : List (Int × Int)) : PyData.depthAll (xs.map eHs) ≤ 1 := (shp_all (n := 1) fun d hd => by
  obtain ⟨a, _, rfl⟩ := List.mem_map.mp hd
  exact shp_hs a).2
def cMinT (K : PySem.W.Frag) : List V → Hp → VK → Prop := fun vs H Q => ∃ (p : Addr) (us : List V) (x : Int × Int) (xs : List (Int × Int)), vs = [.ref p] ∧ SqL K H p us ∧ DpAll K H us ((x :: xs).map eHs) ∧ ∀ (i : Nat) (v : V), us[i]? = some v → (x :: xs)[i]? = some (minP x xs) → Q v H
def cMinTD (K : PySem.W.Frag) : List V → List V → Hp → VK → Prop := fun vs zs H Q => ∃ (p : Addr) (us : List V) (xs : List (Int × Int)) (d : V), vs = [.ref p] ∧ zs = [d] ∧ SqL K H p us ∧ DpAll K H us (xs.map eHs) ∧ (xs = [] → Q d H) ∧
  ∀ (y : Int × Int) (ys : List (Int × Int)) (i : Nat) (v : V), xs = y :: ys → us[i]? = some v → xs[i]? = some (minP y ys) → Q v H
section
variable {X : Cx}
theorem lay_hs : ∀ xs : List (Int × Int), PyData.canLayAll0 (xs.map eHs) = true
  | [] => rfl
  | x :: xs => by
    show (PyData.canLay0 (eHs x) && PyData.canLayAll0 (xs.map eHs)) = true
    rw [lay_hs xs]
    rfl
theorem lay_hs_at {xs : List (Int × Int)} {i : Nat} {d : PyData} (h : (xs.map eHs)[i]? = some d) : d.canLay0 = true := by
  obtain ⟨x, _, rfl⟩ := List.mem_map.mp (List.mem_of_getElem? h)
  rfl
theorem reads_same {h h' : Heap} {u : Value} {d : PyData} {m : Int × Int} {as bs : List Addr} (k : ∀ b o, h.get? b = some o → h'.get? b = some o) (r1 : Reads h u d as) (r2 : Reads h' u (eHs m) bs) {xs : List (Int × Int)} {i : Nat} (e : (xs.map eHs)[i]? = some d) : xs[i]? = some m := by
  rw [List.getElem?_map] at e
  obtain ⟨y, hy, rfl⟩ := Option.map_eq_some_iff.mp e
  have := SeqAt.Reads.unique _ _ _ _ _ rfl (PySem.W.reads_keeps k r1) r2
  rw [hy, eHs_inj this]
theorem q_minT (hu : X.A.units + 64 < cLine) (hc : X.calm = true) : CallR X (.builtin "min") (cMinT X.K) := by
  intro pins s σ H vs us Q I r h
  obtain ⟨p, ws, x, xs, rfl, sq, al, q⟩ := h
  obtain ⟨u1, rfl, r1⟩ : ∃ u1, us = [u1] ∧ RelV (.ref p) u1 := by
    cases r with
    | cons a b => cases b; exact ⟨_, rfl, a⟩
  obtain rfl : u1 = .ref p := r1
  obtain ⟨its, rv, pl, hz⟩ := I.list sq
  obtain ⟨as, hr⟩ := L2.Dp.readsAll I _ _ _ (dpAll_lay al (lay_hs _)) rv
  have hd := depth_hs (x :: xs)
  refine PySem.W.min_list_data (vs := its.toArray) (x := eHs x) (xs := xs.map eHs) (as := as) (I.ok.hd hc) pl.isList (by simpa using hr) (alike_hs (x :: xs)) (by have : PyData.depthAll (eHs x :: xs.map eHs) ≤ 1 := hd; omega) fun i v h' tk bs hv hrd hk => ?_
  have hv' : its[i]? = some v := by simpa using hv
  obtain ⟨y, hy, ry⟩ : ∃ y, ws[i]? = some y ∧ RelV y v := by
    have hl := rv.length
    have hi : i < ws.length := by rw [hl]; exact (List.getElem?_eq_some_iff.mp hv').1
    obtain ⟨u, h1, h2⟩ := Vals.get rv (List.getElem?_eq_getElem hi)
    rw [hv'] at h1
    cases h1
    exact ⟨_, List.getElem?_eq_getElem hi, h2⟩
  obtain ⟨d, hd1, hd2⟩ := dpAll_getV al hy
  obtain ⟨as2, r2⟩ := L2.Dp.reads I _ _ _ (dp_lay hd2 (lay_hs_at hd1)) ry
  rw [minD_hs] at hrd
  exact ⟨y, H, I.kept (t' := tk) hk, ry, q i y hy (reads_same hk r2 hrd hd1)⟩
theorem q_minTD (hu : X.A.units + 64 < cLine) (hc : X.calm = true) : CallRK X (.builtin "min") ["default"] (cMinTD X.K) := by
  intro pins s σ H vs zs us ws0 Q I r rz h
  obtain ⟨p, ws, xs, d0, rfl, rfl, sq, al, q0, q⟩ := h
  obtain ⟨u1, rfl, r1⟩ : ∃ u1, us = [u1] ∧ RelV (.ref p) u1 := by
    cases r with
    | cons a b => cases b; exact ⟨_, rfl, a⟩
  obtain ⟨u2, rfl, r2⟩ : ∃ u2, ws0 = [u2] ∧ RelV d0 u2 := by
    cases rz with
    | cons a b => cases b; exact ⟨_, rfl, a⟩
  obtain rfl : u1 = .ref p := r1
  obtain ⟨its, rv, pl, hz⟩ := I.list sq
  obtain ⟨as, hr⟩ := L2.Dp.readsAll I _ _ _ (dpAll_lay al (lay_hs _)) rv
  have hd := depth_hs xs
  show wpAny _ _ (call (.builtin "min") [.ref p] [(Str.ofString "default", u2)]) _ _ _
  refine PySem.W.min_list_default (vs := its.toArray) (xs := xs.map eHs) (as := as) (I.ok.hd hc) pl.isList (by simpa using hr) (alike_hs xs) (by omega) (fun e h' tk hk => ?_) fun y ys i v h' tk bs e hv hrd hk => ?_
  · exact ⟨d0, H, I.kept (t' := tk) hk, r2, q0 (List.map_eq_nil_iff.mp e)⟩
  · cases xs with
    | nil => cases e
    | cons x xs =>
      rw [List.map_cons] at e
      obtain ⟨rfl, rfl⟩ := List.cons.inj e
      have hv' : its[i]? = some v := by simpa using hv
      obtain ⟨z, hy, ry⟩ : ∃ y, ws[i]? = some y ∧ RelV y v := by
        have hl := rv.length
        have hi : i < ws.length := by rw [hl]; exact (List.getElem?_eq_some_iff.mp hv').1
        obtain ⟨u, h1, h2⟩ := Vals.get rv (List.getElem?_eq_getElem hi)
        rw [hv'] at h1
        cases h1
        exact ⟨_, List.getElem?_eq_getElem hi, h2⟩
      obtain ⟨d, hd1, hd2⟩ := dpAll_getV al hy
      obtain ⟨as2, r3⟩ := L2.Dp.reads I _ _ _ (dp_lay hd2 (lay_hs_at hd1)) ry
      rw [minD_hs] at hrd
      exact ⟨z, H, I.kept (t' := tk) hk, ry, q x xs i z rfl hy (reads_same hk r3 hrd hd1)⟩
end
section
variable {K : PySem.W.Frag} {δ : List Sl} {ta tb : TE}
theorem evd_minT {x : Int × Int} {xs : List (Int × Int)} (ha : EvL K ta δ ((x :: xs).map eHs)) : EvD K (tCB (cMinT K) (tCons ta tNil)) δ (eHs (minP x xs)) := fun B σ H G F g Q q =>
  ha B σ H G F g _ fun v G1 H1 n1 ⟨p, vs, ep, sq, al⟩ => ⟨p, vs, x, xs, by rw [ep], sq, dpAll_mono n1.s al, fun i v h1 h2 => by
    obtain ⟨d, h3, h4⟩ := dpAll_getV al h1
    rw [List.getElem?_map, h2] at h3
    cases h3
    exact q _ G1 H1 n1 h4⟩
theorem evd_minTD {z : Int × Int} {xs : List (Int × Int)} (ha : EvL K ta δ (xs.map eHs)) (hb : EvD K tb δ (eHs z)) : EvD K (tCKw (cMinTD K) (tCons ta tNil) (tCons tb tNil)) δ (eHs (minPD z xs)) := fun B σ H G F g Q q =>
  ha B σ H G F g _ fun v G1 H1 n1 ⟨p, vs, ep, sq, al⟩ => hb B σ H1 G1 F (g.up n1) _ fun w G2 H2 n2 p2 => by
    have al2 := dpAll_mono n2.g al
    refine ⟨p, vs, xs, w, by rw [ep], rfl, sqL_mono n2.h sq, dpAll_mono n2.s al2, fun e => ?_, fun y ys i v e h1 h2 => ?_⟩
    · subst e
      exact q _ G2 H2 (n1.trans n2) p2
    · subst e
      obtain ⟨d, h3, h4⟩ := dpAll_getV al2 h1
      rw [List.getElem?_map, h2] at h3
      cases h3
      exact q _ G2 H2 (n1.trans n2) h4
end
end Ph

set_option Elab.async false
set_option linter.all false
set_option maxRecDepth 100000
set_option maxHeartbeats 2000000
namespace Ph
open PySem PySem.Spec L2 PyProof.Rows
/-! ### a chain of three comparisons, as a test -/
def tCh3 (r r' r'' : R2) (ta tb tc td : TE) : TT := fun σ H Q => ta σ H fun x H1 => tb σ H1 fun y H2 => r x y H2 fun z H3 => ∃ k, z = .bl k ∧
  (if k = true then tc σ H3 fun w' H4 => r' y w' H4 fun z2 H5 => ∃ k2, z2 = .bl k2 ∧
    (if k2 = true then td σ H5 fun u H6 => r'' w' u H6 fun z3 H7 => ∃ k3, z3 = .bl k3 ∧ Q k3 H7 else Q false H5) else Q false H3)
section
variable {X : Cx}
theorem pt_chain3 {a b c d : Expr} {pos : Pos} {ta tb tc td : TE} {op op' op'' : CmpOp} {r r' r'' : R2} (ho : OpR X (compareOp op) r) (ho' : OpR X (compareOp op') r') (ho'' : OpR X (compareOp op'') r'') (ha : PE X a ta) (hb : PE X b tb) (hc : PE X c tc) (hd : PE X d td)
    (hm : lastMarks [op, op', op''] [b, c, d] = false := by with_unfolding_all rfl) : PT X (.Compare a [op, op', op''] [b, c, d] pos) (tCh3 r r' r'' ta tb tc td) := by
  refine ⟨fun pins s σ H Q I h => ?_⟩
  refine isTrue_chain (thn (ha.run pins s σ H _ I h) fun v s1 ⟨x, H1, I1, r1, q1⟩ => test_link (thn (hb.run pins s1 σ H1 _ I1 q1) fun u s2 ⟨y, H2, I2, r2, q2⟩ =>
    thn (ho pins s2 σ H2 x y v u _ I2 r1 r2 q2) fun d s3 ⟨z, H3, I3, r3, k, e, q3⟩ => ?_)) hm
  subst e
  cases r3
  refine wpAny_truthy_bool ?_
  cases k with
  | false => exact ite_ff ⟨H3, I3, q3⟩
  | true =>
    refine ite_tt (test_link (thn (hc.run pins s3 σ H3 _ I3 q3) fun w' s4 ⟨z', H4, I4, r4, q4⟩ => thn (ho' pins s4 σ H4 y z' u w' _ I4 r2 r4 q4) fun d' s5 ⟨z2, H5, I5, r5, k2, e2, q5⟩ => ?_))
    subst e2
    cases r5
    refine wpAny_truthy_bool ?_
    cases k2 with
    | false => exact ite_ff ⟨H5, I5, q5⟩
    | true =>
      refine ite_tt (test_last (thn (hd.run pins s5 σ H5 _ I5 q5) fun w2 s6 ⟨z3, H6, I6, r6, q6⟩ => thn (ho'' pins s6 σ H6 z' z3 w' w2 _ I6 r4 r6 q6) fun d2 s7 ⟨z4, H7, I7, r7, k3, e3, q7⟩ => ?_))
      subst e3
      cases r7
      exact wpAny_truthy_bool ⟨H7, I7, q7⟩
end
section
variable {K : PySem.W.Frag} {δ : List Sl} {ta tb tc td : TE} {i j k l : Int}
/-- i <= j < k <= l, when it holds -/
theorem evt_lltl (ha : EvD K ta δ (.int i)) (hb : EvD K tb δ (.int j)) (hc : EvD K tc δ (.int k)) (hd : EvD K td δ (.int l)) (h1 : i ≤ j) (h2 : j < k) (h3 : k ≤ l) : EvT K (tCh3 oLe oLt oLe ta tb tc td) δ true := fun B σ H G F g Q q =>
  ha B σ H G F g _ fun x G1 H1 n1 p => hb B σ H1 G1 F (g.up n1) _ fun y G2 H2 n2 p2 => by
    cases p; cases p2
    refine ⟨i, j, rfl, rfl, _, rfl, ?_⟩
    rw [decide_eq_true h1]
    refine iteT (hc B σ H2 G2 F ((g.up n1).up n2) _ fun z G3 H3 n3 p3 => ?_)
    cases p3
    refine ⟨j, k, rfl, rfl, _, rfl, ?_⟩
    rw [decide_eq_true h2]
    refine iteT (hd B σ H3 G3 F (((g.up n1).up n2).up n3) _ fun z4 G4 H4 n4 p4 => ?_)
    cases p4
    refine ⟨k, l, rfl, rfl, _, rfl, ?_⟩
    rw [decide_eq_true h3]
    exact q G4 H4 (((n1.trans n2).trans n3).trans n4)
end
end Ph

set_option Elab.async false
set_option linter.all false
set_option maxRecDepth 100000
set_option maxHeartbeats 2000000
namespace Ph
open PySem PySem.Spec L2
/-! ### answers -/
/-- an answer at x in the heap -/
def ObAt (H : Hp) (x C : Addr) (ps bs : List Int) (fee : Option Int) : Prop := ∃ dx p q, H x = some (.ins C dx (flds p q fee)) ∧ H p = some (.lst (ps.map V.int)) ∧ H q = some (.lst (bs.map V.int))
theorem ObAt.mono {H H' : Hp} {x C : Addr} {ps bs : List Int} {fee : Option Int} (s : Same H H') : ObAt H x C ps bs fee → ObAt H' x C ps bs fee
  | ⟨dx, p, q, a, b, c⟩ => ⟨dx, p, q, s _ _ a, s _ _ b, s _ _ c⟩
/-- a new answer: G the known heap, H0 the one before -/
def ObNew (G H0 H : Hp) (x C : Addr) (ps bs : List Int) (fee : Option Int) : Prop := ∃ dx p q, H x = some (.ins C dx (flds p q fee)) ∧ H dx = some (.own x) ∧ H p = some (.lst (ps.map V.int)) ∧ H q = some (.lst (bs.map V.int)) ∧ p ≠ q ∧
  ∀ b ∈ [x, dx, p, q], G b = none ∧ H0 b = none
theorem ObNew.at_ {G H0 H : Hp} {x C : Addr} {ps bs : List Int} {fee : Option Int} : ObNew G H0 H x C ps bs fee → ObAt H x C ps bs fee
  | ⟨dx, p, q, a, _, b, c, _⟩ => ⟨dx, p, q, a, b, c⟩
/-- what is asked of the class -/
structure COk (K : PySem.W.Frag) (C : Addr) : Prop where
  c : Cls K C
  np : NoAttr K C "posts"
  nb : NoAttr K C "bounds"
  nf : NoAttr K C "fee"
section
variable (K : PySem.W.Frag)
/-- an answer that may be read now -/
def EvB (te : TE) (δ : List Sl) (C : Addr) (ps bs : List Int) (fee : Option Int) : Prop := ∀ B σ H G F, GoodAt K B δ σ H G F → ∀ Q : VK, (∀ x G' H', Nu G H G' H' → ObAt H' x C ps bs fee → Q (.ref x) H') → te σ H Q
/-- a new answer -/
def EvNB (te : TE) (δ : List Sl) (C : Addr) (ps bs : List Int) (fee : Option Int) : Prop := ∀ B σ H G F, GoodAt K B δ σ H G F → ∀ Q : VK, (∀ x G' H', Nu G H G' H' → ObNew G' H H' x C ps bs fee → Q (.ref x) H') → te σ H Q
end
section
variable {K : PySem.W.Frag} {δ : List Sl} {ta tb tc te : TE} {t : TA} {C : Addr} {ps bs : List Int} {fee : Option Int}
theorem evb_at {n : Nat} {x p q : Addr} (h : δ[n]? = some (.ob x C p q ps bs fee)) : EvB K (tVar n) δ C ps bs fee := fun B σ H G F g Q k => by
  obtain ⟨o, h1, dx, _, h2, h3, h4, h5, h6, _⟩ := g.own n _ h
  subst h2
  exact ⟨.ref x, h1, k x G H (Nu.refl g.nu.s) ⟨dx, p, q, h3, h5, h6⟩⟩
theorem evb_od {n : Nat} (h : δ[n]? = some (.od C ps bs fee)) : EvB K (tVar n) δ C ps bs fee := fun B σ H G F g Q k => by
  obtain ⟨o, h1, _, x, dx, p, q, h2, h3, h4, h5⟩ := g.own n _ h
  subst h2
  exact ⟨.ref x, h1, k x G H (Nu.refl g.nu.s) ⟨dx, p, q, g.nu.s _ _ h3, g.nu.s _ _ h4, g.nu.s _ _ h5⟩⟩
theorem evb_n (h : EvNB K te δ C ps bs fee) : EvB K te δ C ps bs fee := fun B σ H G F g Q k => h B σ H G F g Q fun x G' H' n o => k x G' H' n o.at_
theorem fl_posts (p q : Addr) (fee : Option Int) : (flds p q fee).lookup ("posts" : Str) = some (V.ref p) := by cases fee <;> rfl
theorem fl_bounds (p q : Addr) (fee : Option Int) : (flds p q fee).lookup ("bounds" : Str) = some (V.ref q) := by cases fee <;> rfl
theorem evl_posts (c : COk K C) (h : EvB K te δ C ps bs fee) : EvL K (tFld K te "posts") δ (ps.map .int) := fun B σ H G F g Q k => h B σ H G F g _ fun x G' H' n ⟨dx, p, q, a, b, d⟩ =>
  ⟨x, C, dx, _, .ref p, rfl, a, c.c, c.np, fl_posts p q fee, k _ G' H' n ⟨p, _, rfl, .inl (.inl b), ints_dpAll ps⟩⟩
theorem evl_bounds (c : COk K C) (h : EvB K te δ C ps bs fee) : EvL K (tFld K te "bounds") δ (bs.map .int) := fun B σ H G F g Q k => h B σ H G F g _ fun x G' H' n ⟨dx, p, q, a, b, d⟩ =>
  ⟨x, C, dx, _, .ref q, rfl, a, c.c, c.nb, fl_bounds p q fee, k _ G' H' n ⟨q, _, rfl, .inl (.inl d), ints_dpAll bs⟩⟩
theorem evd_fee {i : Int} (c : COk K C) (h : EvB K te δ C ps bs (some i)) : EvD K (tFld K te "fee") δ (.int i) := fun B σ H G F g Q k => h B σ H G F g _ fun x G' H' n ⟨dx, p, q, a, b, d⟩ =>
  ⟨x, C, dx, _, .int i, rfl, a, c.c, c.nf, rfl, k _ G' H' n (.int i)⟩
/-! ### arguments with answers -/
inductive Ad where
  | d (x : PyData)
  | o (C : Addr) (ps bs : List Int) (fee : Option Int)
def Ad.sl : Ad → Sl
  | .d x => .d x
  | .o C ps bs fee => .od C ps bs fee
inductive AdOk (K : PySem.W.Frag) (H : Hp) : V → Ad → Prop where
  | d {v : V} {x : PyData} (h : Dp K H v x) : AdOk K H v (.d x)
  | o {x C : Addr} {ps bs : List Int} {fee : Option Int} (h : ObAt H x C ps bs fee) : AdOk K H (.ref x) (.o C ps bs fee)
inductive AdAll (K : PySem.W.Frag) (H : Hp) : List V → List Ad → Prop where
  | nil : AdAll K H [] []
  | cons {v : V} {a : Ad} {vs : List V} {as : List Ad} (h : AdOk K H v a) (t : AdAll K H vs as) : AdAll K H (v :: vs) (a :: as)
theorem AdOk.mono {H H' : Hp} (s : Same H H') {v : V} {a : Ad} : AdOk K H v a → AdOk K H' v a
  | .d h => .d (dp_mono s h)
  | .o h => .o (h.mono s)
theorem AdAll.mono {H H' : Hp} (s : Same H H') : ∀ {vs : List V} {as : List Ad}, AdAll K H vs as → AdAll K H' vs as
  | _, _, .nil => .nil
  | _, _, .cons h t => .cons (h.mono s) (t.mono s)
theorem AdAll.len {H : Hp} : ∀ {vs : List V} {as : List Ad}, AdAll K H vs as → vs.length = as.length
  | _, _, .nil => rfl
  | _, _, .cons _ t => congrArg (· + 1) t.len
def EvAB (K : PySem.W.Frag) (ta : TA) (δ : List Sl) (as : List Ad) : Prop := ∀ B σ H G F, GoodAt K B δ σ H G F → ∀ Q : List V → Hp → Prop, (∀ vs G' H', Nu G H G' H' → AdAll K H' vs as → Q vs H') → ta σ H Q
theorem eab_nil : EvAB K tNil δ [] := fun B σ H G F g Q q => q _ G H (Nu.refl g.nu.s) .nil
theorem eab_d {tr : TA} {d : PyData} {as : List Ad} (h : EvR K te δ d) (hr : EvAB K tr δ as) : EvAB K (tCons te tr) δ (.d d :: as) := fun B σ H G F g Q q =>
  h B σ H G F g _ fun v G1 H1 n1 p => hr B σ H1 G1 F (g.up n1) _ fun vs G2 H2 n2 ps => q _ G2 H2 (n1.trans n2) (.cons (.d (dp_mono n2.h p)) ps)
theorem eab_o {tr : TA} {as : List Ad} (h : EvB K te δ C ps bs fee) (hr : EvAB K tr δ as) : EvAB K (tCons te tr) δ (.o C ps bs fee :: as) := fun B σ H G F g Q q =>
  h B σ H G F g _ fun x G1 H1 n1 p => hr B σ H1 G1 F (g.up n1) _ fun vs G2 H2 n2 ps => q _ G2 H2 (n1.trans n2) (.cons (.o (p.mono n2.h)) ps)
/-- called with such arguments it gives a truth value -/
def PrB (K : PySem.W.Frag) (R : List Ad → Bool → Prop) : Sp := fun vs H Q _ => ∃ as b, AdAll K H vs as ∧ R as b ∧ ∀ H', Same H H' → Q (.bl b) H'
theorem evd_callB {R : List Ad → Bool → Prop} {as : List Ad} {b : Bool} {E : XK} (ha : EvAB K t δ as) (hr : R as b) : EvD K (tCall (PrB K R) [] E t) δ (.bool b) := fun B σ H G F g Q q =>
  ha B σ H G F g _ fun vs G1 H1 n1 p => ⟨as, b, by rw [List.append_nil]; exact p, hr, fun H' s => q _ G1 H' (n1.trans ⟨Same.refl _, s, n1.s.trans s, fun _ h _ => h⟩) (.bl b)⟩
theorem evd_meth {R : List Ad → Bool → Prop} {as : List Ad} {b : Bool} {E : XK} {m : Str} (ho : EvB K te δ C ps bs fee) (hm : ∀ p q, (flds p q fee).lookup m = none) (ha : EvAB K t δ as) (hr : R (.o C ps bs fee :: as) b) : EvD K (tMeth C m (PrB K R) [] E te t) δ (.bool b) := fun B σ H G F g Q q =>
  ho B σ H G F g _ fun x G1 H1 n1 o => by
    obtain ⟨dx, p, q', a, b', d⟩ := o
    exact ⟨x, dx, _, rfl, a, hm p q', ha B σ H1 G1 F (g.up n1) _ fun vs G2 H2 n2 ps2 => ⟨_, b, by rw [List.append_nil]; exact .cons (.o (ObAt.mono n2.h ⟨dx, p, q', a, b', d⟩)) ps2, hr, fun H' s =>
      q _ G2 H' ((n1.trans n2).trans ⟨Same.refl _, s, n2.s.trans s, fun _ h _ => h⟩) (.bl b)⟩⟩
theorem good_startB {H : Hp} {N : List Str} {vs : List V} {as : List Ad} (h : AdAll K H vs as) :
    Good K ⟨H, H, H⟩ (as.map Ad.sl ++ List.replicate (N.length - as.length) Sl.no) (L2.start N vs) H := by
  have hl := h.len
  have hg : ∀ {vs : List V} {as : List Ad}, AdAll K H vs as → ∀ (i : Nat) (a : Ad), as[i]? = some a → ∃ v, vs[i]? = some v ∧ AdOk K H v a := by
    intro vs as h
    induction h with
    | nil => intro i a e; simp at e
    | cons h t ih =>
      intro i a e
      cases i with
      | zero => simp at e; subst e; exact ⟨_, rfl, h⟩
      | succ i => simpa using ih i a (by simpa using e)
  refine ⟨H, fun _ => [], Nu.refl (Same.refl _), Same.refl _, ?_, fun i t e => ?_, (fun _ _ _ _ _ z => nomatch z), (fun _ _ _ z => nomatch z)⟩
  · unfold L2.start
    simp [hl]
  · unfold L2.start
    by_cases hi : i < as.length
    · rw [List.getElem?_append_left (by simpa using hi)] at e
      rw [List.getElem?_map, List.getElem?_eq_getElem hi] at e
      cases e
      obtain ⟨v, h1, h2⟩ := hg h i _ (List.getElem?_eq_getElem hi)
      refine ⟨some v, ?_, ?_⟩
      · rw [List.getElem?_append_left (by simpa [hl] using hi), List.getElem?_map, h1]
        rfl
      · cases q : as[i] with
        | d x =>
          rw [q] at h2
          cases h2 with
          | d h2 => exact ⟨rfl, v, rfl, h2⟩
        | o C ps bs fee =>
          rw [q] at h2
          cases h2 with
          | o h2 =>
            obtain ⟨dx, p, q', a, b, c⟩ := h2
            exact ⟨rfl, _, dx, p, q', rfl, a, b, c⟩
    · rw [List.getElem?_append_right (by simpa using hi)] at e
      rw [List.getElem?_replicate] at e
      split at e
      · rename_i hk
        cases e
        refine ⟨none, ?_, rfl⟩
        rw [List.getElem?_append_right (by simpa [hl] using hi), List.getElem?_replicate, if_pos ?_]
        simpa [hl] using hk
      · cases e
/-! ### to make one -/
def feeV : Option Int → List V
  | none => []
  | some i => [.int i]
/-- what __init__ does -/
def PrI (K : PySem.W.Frag) (C : Addr) : Sp := fun vs H Q _ => ∃ (x dx a b : Addr) (ps bs : List Int) (fee : Option Int), vs = .ref x :: .ref a :: .ref b :: feeV fee ∧ H x = some (.ins C dx []) ∧ SqL K H a (ps.map V.int) ∧ SqL K H b (bs.map V.int) ∧
  ∀ p q H', p ≠ q → H p = none → H q = none → (∀ c, c ≠ x → H c ≠ none → H' c = H c) → H' x = some (.ins C dx (flds p q fee)) → H' p = some (.lst (ps.map V.int)) → H' q = some (.lst (bs.map V.int)) → Q .non H'
/-- the arguments of a making -/
def EvMk (K : PySem.W.Frag) (t : TA) (δ : List Sl) (ps bs : List Int) (fee : Option Int) : Prop := ∀ B σ H G F, GoodAt K B δ σ H G F → ∀ Q : List V → Hp → Prop, (∀ a b G' H', Nu G H G' H' → SqL K H' a (ps.map V.int) → SqL K H' b (bs.map V.int) → Q (.ref a :: .ref b :: feeV fee) H') → t σ H Q
theorem evmk3 {i : Int} (ha : EvL K ta δ (ps.map .int)) (hb : EvL K tb δ (bs.map .int)) (hc : EvD K tc δ (.int i)) : EvMk K (tCons ta (tCons tb (tCons tc tNil))) δ ps bs (some i) := fun B σ H G F g Q q =>
  ha B σ H G F g _ fun v1 G1 H1 n1 ⟨a, us, e1, s1, d1⟩ => hb B σ H1 G1 F (g.up n1) _ fun v2 G2 H2 n2 ⟨b, ws, e2, s2, d2⟩ => hc B σ H2 G2 F ((g.up n1).up n2) _ fun v3 G3 H3 n3 d3 => by
    cases d3
    subst e1 e2
    have z1 := dpAll_ints d1
    have z2 := dpAll_ints d2
    subst z1 z2
    exact q a b G3 H3 ((n1.trans n2).trans n3) (sqL_mono (n2.h.trans n3.h) s1) (sqL_mono n3.h s2)
theorem evmk2 (ha : EvL K ta δ (ps.map .int)) (hb : EvL K tb δ (bs.map .int)) : EvMk K (tCons ta (tCons tb tNil)) δ ps bs none := fun B σ H G F g Q q =>
  ha B σ H G F g _ fun v1 G1 H1 n1 ⟨a, us, e1, s1, d1⟩ => hb B σ H1 G1 F (g.up n1) _ fun v2 G2 H2 n2 ⟨b, ws, e2, s2, d2⟩ => by
    subst e1 e2
    have z1 := dpAll_ints d1
    have z2 := dpAll_ints d2
    subst z1 z2
    exact q a b G2 H2 (n1.trans n2) (sqL_mono n2.h s1) s2
theorem sqL_none {H H' : Hp} {a : Addr} {xs : List V} (s : Same H H') (h : SqL K H a xs) : SqL K H' a xs := sqL_mono s h
def PrIn (K : PySem.W.Frag) (n : Nat) (C : Addr) : Sp := fun vs H Q E => vs.length = n ∧ PrI K C vs H Q E
theorem evnb_make {E : XK} {n : Nat} (h : EvMk K t δ ps bs fee) (hn : (feeV fee).length + 3 = n) : EvNB K (tMake C (PrIn K n C) [] E t) δ C ps bs fee := fun B σ H G F g Q q =>
  h B σ H G F g _ fun a b G1 H1 n1 s1 s2 => fun x dx hx hdx hne => by
    have same1 : Same H1 (upd (upd H1 dx (.own x)) x (.ins C dx [])) := (same_upd hdx).trans (same_upd (by rw [upd_ne (fun z => hne z.symm)]; exact hx))
    refine ⟨by rw [List.append_nil, ← hn]; rfl, x, dx, a, b, ps, bs, fee, by rw [List.append_nil], upd_same, sqL_mono same1 s1, sqL_mono same1 s2, fun p q' H' hpq hp hq keep h1 h2 h3 => ⟨rfl, ?_⟩⟩
    have hs : Same H1 H' := fun c o e => by
      have hcx : c ≠ x := fun z => by rw [z, hx] at e; cases e
      have e2 := same1 _ _ e
      rw [keep c hcx (some_ne e2)]
      exact e2
    have hdx' : H' dx = some (.own x) := by
      have e : upd (upd H1 dx (.own x)) x (.ins C dx []) dx = some (.own x) := by rw [upd_ne hne, upd_same]
      rw [keep dx hne (some_ne e)]
      exact e
    have fr : ∀ c, upd (upd H1 dx (.own x)) x (.ins C dx []) c = none → H1 c = none := fun c hc => by
      cases e : H1 c with
      | none => rfl
      | some o => rw [same1 _ _ e] at hc; cases hc
    refine q x G1 H' (n1.trans ⟨Same.refl _, hs, n1.s.trans hs, fun _ h _ => h⟩) ⟨dx, p, q', h1, hdx', h2, h3, hpq, fun c hc => ?_⟩
    have hc1 : H1 c = none := by
      simp only [List.mem_cons, List.not_mem_nil, or_false] at hc
      rcases hc with rfl | rfl | rfl | rfl
      · exact hx
      · exact hdx
      · exact fr _ hp
      · exact fr _ hq
    exact ⟨n1.s.free hc1, n1.h.free hc1⟩
end
section
variable {K : PySem.W.Frag} {B : Bs} {D : Ends} {δ δ' : List Sl} {te ta tb : TE} {tz : TS} {C : Addr} {ps bs : List Int} {fee : Option Int} {i : Nat}
theorem r_setO (h : EvNB K te δ C ps bs fee) (k : ∀ x p q, RunS K B tz D (δ.set i (.ob x C p q ps bs fee))) : RunS K B (tSeq (tAsg te (gName i)) tz) D δ := fun σ H ⟨G, F, g⟩ =>
  h B σ H G F g _ fun x G' H' n ⟨dx, p, q, h1, h2, h3, h4, h5, h6⟩ => by
    refine k x p q _ _ ⟨_, _, (g.up n).put (s := .ob x C p q ps bs fee) (f := [x, dx, p, q]) ⟨dx, rfl, rfl, h1, h2, h3, h4, h5⟩ fun c hc => ?_⟩
    obtain ⟨f1, f2⟩ := h6 c hc
    refine ⟨f1, g.nu.h.free f2, ?_, fun j hj _ hm => (g.frs j c hj hm).2.2 f2⟩
    simp only [List.mem_cons, List.not_mem_nil, or_false] at hc
    rcases hc with rfl | rfl | rfl | rfl
    · exact some_ne h1
    · exact some_ne h2
    · exact some_ne h3
    · exact some_ne h4
def RtO (K : PySem.W.Frag) (B : Bs) (D : Ends) (C : Addr) (ps bs : List Int) (fee : Option Int) : Prop := ∀ x G' H', Nu B.G0 B.H0 G' H' → ObNew G' B.H0 H' x C ps bs fee → D.rt (.ref x) H'
theorem r_retO (h : EvNB K te δ C ps bs fee) (k : RtO K B D C ps bs fee) : RunS K B (tSeq (tRet te) tz) D δ := fun σ H ⟨G, F, g⟩ =>
  h B σ H G F g _ fun x G' H' n ⟨dx, p, q, h1, h2, h3, h4, h5, h6⟩ => k x G' H' (g.nu.trans n) ⟨dx, p, q, h1, h2, h3, h4, h5, fun b hb => ⟨(h6 b hb).1, g.nu.h.free (h6 b hb).2⟩⟩
/-- the bounds' list is written -/
theorem goodAt_wrB {σ : L2.St} {H G : Hp} {F : Nat → List Addr} {x p q : Addr} {bs' : List Int} (g : GoodAt K B δ σ H G F) (h : δ[i]? = some (.ob x C p q ps bs fee)) : Good K B (δ.set i (.ob x C p q ps bs' fee)) σ (upd H q (.lst (bs'.map V.int))) := by
  obtain ⟨o, h1, dx, hf, h2, h3, h4, h5, h6, h7⟩ := g.own i _ h
  subst h2
  have hi : i < δ.length := (List.getElem?_eq_some_iff.mp h).1
  have hqF : q ∈ F i := by rw [hf]; simp
  obtain ⟨f1, f2, f3⟩ := g.frs i q hi hqF
  have hF : ∀ j, j < δ.length → j ≠ i → q ∉ F j := fun j hj hne hm => hne (g.sep j i q hj hi hm hqF)
  refine ⟨G, F, ⟨g.nu.g, fun c o z => ?_, fun c o z => ?_, g.nu.n⟩, g.base, by rw [List.length_set]; exact g.len, fun j s e => ?_, fun j k c hj hk => ?_, fun j c hj hc => ?_⟩
  · rw [upd_ne (fun e => by rw [e] at z; rw [f2] at z; cases z)]; exact g.nu.h _ _ z
  · rw [upd_ne (fun e => by rw [e] at z; rw [f1] at z; cases z)]; exact g.nu.s _ _ z
  · by_cases hj : j = i
    · subst hj
      rw [List.getElem?_set_self hi] at e
      cases e
      have n1 : x ≠ q := fun z => by rw [z, h6] at h3; cases h3
      have n2 : dx ≠ q := fun z => by rw [z, h6] at h4; cases h4
      exact ⟨_, h1, dx, hf, rfl, by rw [upd_ne n1]; exact h3, by rw [upd_ne n2]; exact h4, by rw [upd_ne h7]; exact h5, upd_same, h7⟩
    · rw [List.getElem?_set_ne (fun z => hj z.symm)] at e
      obtain ⟨o, k1, k2⟩ := g.own j s e
      have hjl : j < δ.length := (List.getElem?_eq_some_iff.mp e).1
      refine ⟨o, k1, k2.up (Same.refl _) fun c hc => upd_ne fun z => ?_⟩
      subst z
      exact hF j hjl hj hc
  · rw [List.length_set] at hj hk
    exact g.sep j k c hj hk
  · rw [List.length_set] at hj
    obtain ⟨k1, k2, k3⟩ := g.frs j c hj hc
    refine ⟨k1, k2, ?_⟩
    by_cases hcp : c = q
    · rw [hcp, upd_same]; exact fun z => nomatch z
    · rw [upd_ne hcp]; exact k3
/-- o.bounds.append(e) -/
theorem r_obApp {x p q : Addr} {n : Int} (c : COk K C) (hi : δ[i]? = some (.ob x C p q ps bs fee)) (h : EvD K te δ (.int n)) (hz : bs.length ≤ 1000000) (k : RunS K B tz D (δ.set i (.ob x C p q ps (bs ++ [n]) fee))) :
    RunS K B (tSeq (tDrop (tBM K "list" rAppend (tFld K (tVar i) "bounds") (tCons te tNil))) tz) D δ := fun σ H ⟨G, F, g⟩ => by
  obtain ⟨o, h1, dx, hf, h2, h3, h4, h5, h6, h7⟩ := g.own i _ hi
  subst h2
  refine ⟨.ref x, h1, x, C, dx, _, .ref q, rfl, h3, c.c, c.nb, fl_bounds p q fee, .inl ⟨rfl, _, .inl (.inl h6)⟩, h B σ H G F g _ fun v G' H' n' hv => ?_⟩
  cases hv
  have h6' : H' q = some (.lst (bs.map V.int)) := n'.h _ _ h6
  have kk := k _ _ (goodAt_wrB (bs' := bs ++ [n]) (g.up n') hi)
  rw [List.map_append] at kk
  refine ⟨q, bs.map V.int, .int n, rfl, rfl, h6', ?_, kk⟩
  rw [List.length_map]
  exact Nat.lt_of_le_of_lt hz (by decide)
/-- o.bounds[j] = e -/
theorem r_obSet {x p q : Addr} {n j : Int} {kx : Nat} (c : COk K C) (hi : δ[i]? = some (.ob x C p q ps bs fee)) (h : EvD K te δ (.int n)) (hb : EvD K tb δ (.int j)) (hj : ixN bs.length j = some kx) (k : RunS K B tz D (δ.set i (.ob x C p q ps (bs.set kx n) fee))) :
    RunS K B (tSeq (tAsg te (gSub (tFld K (tVar i) "bounds") tb rSetL)) tz) D δ := fun σ H ⟨G, F, g⟩ =>
  h B σ H G F g _ fun v G' H' n' hv => by
    obtain ⟨o, h1, dx, hf, h2, h3, h4, h5, h6, h7⟩ := (g.up n').own i _ hi
    subst h2
    refine ⟨.ref x, h1, x, C, dx, _, .ref q, rfl, h3, c.c, c.nb, fl_bounds p q fee, hb B σ H' G' F (g.up n') _ fun w G2 H2 n2 pw => ?_⟩
    cases pw
    cases hv
    have h6' : H2 q = some (.lst (bs.map V.int)) := n2.h _ _ h6
    have kk := k _ _ (goodAt_wrB (bs' := bs.set kx n) ((g.up n').up n2) hi)
    rw [List.map_set] at kk
    exact ⟨q, bs.map V.int, j, kx, rfl, rfl, h6', by rw [List.length_map]; exact hj, kk⟩
/-- called with data it gives a new answer -/
def PrO (K : PySem.W.Frag) (C : Addr) (R : List PyData → List Int → List Int → Option Int → Prop) : Sp := fun vs H Q _ => ∃ G ds ps bs fee, Same G H ∧ DpAll K G vs ds ∧ R ds ps bs fee ∧ ∀ x G' H', Nu G H G' H' → ObNew G' H H' x C ps bs fee → Q (.ref x) H'
theorem evnb_call {R : List PyData → List Int → List Int → Option Int → Prop} {t : TA} {ds : List PyData} {E : XK} (ha : EvA K t δ ds) (hr : R ds ps bs fee) : EvNB K (tCall (PrO K C R) [] E t) δ C ps bs fee := fun B σ H G F g Q q =>
  ha B σ H G F g _ fun vs G1 H1 n1 p => ⟨G1, ds, ps, bs, fee, n1.s, by rw [List.append_nil]; exact p, hr, fun x G' H' n ⟨dx, p', q', h1, h2, h3, h4, h5, h6⟩ => q x G' H' (n1.trans n) ⟨dx, p', q', h1, h2, h3, h4, h5, fun b hb => ⟨(h6 b hb).1, n1.h.free (h6 b hb).2⟩⟩⟩
end
section
variable {P : Program} {w : World} {K : PySem.W.Frag} {mg : Str → Option Value} {base : Heap} {x qual : Str} {st : Stmt} {f : Addr} {fd : FuncData} {N ps : List Str} {k : Nat} {t : TS} {C : Addr}
theorem ok_prO {R : List PyData → List Int → List Int → Option Int → Prop} (F : Fun K x qual st f fd) (S : FnScope N ps (defScope st)) (len : ∀ ds a b c, R ds a b c → ds.length = ps.length)
    (hd : ∀ (cdv : Value) (A : Around) (outer : List Env) (s : Shared) (H : Hp) (E : XK), Room k (A.deeper (PyProof.Rows.envOfC qual (defScope st) s.heap.objs.size f cdv)) → PSs (cxOf CX0 P w K mg base N qual (defScope st) f cdv A outer s H E).nox (defBody st) t)
    (run : ∀ ds a b c, R ds a b c → ∀ B D, RtO K B D C a b c → RunS K B t D (ds.map Sl.d ++ List.replicate (N.length - ds.length) Sl.no)) : FnOk P w K mg base CX0 (k + 1) f fd ps (PrO K C R) := by
  refine F.ok S (fun vs H Q E h => ?_) (fun cdv A outer s H vs Q E hr h => ⟨t, hd cdv A outer s H E hr, ?_⟩)
  · obtain ⟨G, ds, a, b, c, _, p, r, _⟩ := h
    rw [dpAll_len p]; exact len ds a b c r
  · obtain ⟨G, ds, a, b, c, s0, p, r, q⟩ := h
    exact run ds a b c r ⟨G, G, H⟩ _ (fun x G' H' n o => q x G' H' n o) _ _ (good_start s0 p)
theorem ok_prB {R : List Ad → Bool → Prop} (F : Fun K x qual st f fd) (S : FnScope N ps (defScope st)) (len : ∀ as b, R as b → as.length = ps.length)
    (hd : ∀ (cdv : Value) (A : Around) (outer : List Env) (s : Shared) (H : Hp) (E : XK), Room k (A.deeper (PyProof.Rows.envOfC qual (defScope st) s.heap.objs.size f cdv)) → PSs (cxOf CX0 P w K mg base N qual (defScope st) f cdv A outer s H E).nox (defBody st) t)
    (run : ∀ as b, R as b → ∀ B D, RtD K B D (.bool b) → RunS K B t D (as.map Ad.sl ++ List.replicate (N.length - as.length) Sl.no)) : FnOk P w K mg base CX0 (k + 1) f fd ps (PrB K R) := by
  refine F.ok S (fun vs H Q E h => ?_) (fun cdv A outer s H vs Q E hr h => ⟨t, hd cdv A outer s H E hr, ?_⟩)
  · obtain ⟨as, b, p, r, _⟩ := h
    rw [p.len]; exact len as b r
  · obtain ⟨as, b, p, r, q⟩ := h
    refine run as b r ⟨H, H, H⟩ _ (fun v G' H' n hv => ?_) _ _ (good_startB p)
    cases hv
    exact q H' n.h
end
end Ph

set_option Elab.async false
set_option linter.all false
set_option maxRecDepth 100000
set_option maxHeartbeats 2000000
namespace Ph
open PySem PySem.Spec L2
/-- a class of the text that is called -/
structure ClM (P : Program) (w : World) (K : PySem.W.Frag) (mg : Str → Option Value) (base : Heap) (k : Nat) (x : Str) (C : Addr) (sp : Sp) : Prop where
  ex : ∃ (f : Addr) (fd : FuncData) (ps : List Str), Mk K C f ∧ FnOk P w K mg base CX0 k f fd ps sp ∧ mg x = some (.ref C) ∧ Binds K fd ps []
theorem pmk {X : Cx} {k j : Nat} {x : Str} {C : Addr} {sp : Sp} {p pos : Pos} {e : Expr} {es : List Expr} {t : TA} (c : ClM X.prog X.w X.K X.mg X.base k x C sp) (hr : Room j X.A) (hk : k + 1 ≤ j) (hg : Gl X x) (ha : PA X (e :: es) t)
    (hdb : (x == ("__debug__" : Str)) = false := by decide) (he : starEach (e :: es) X.env = (false, eval e X.env) :: starEach es X.env := by rfl) (hpl : (backTo pos (starEach es X.env)).any (·.1) = false := by rfl) :
    PE X (.Call (.Name x p) (e :: es) [] pos) (tMake C sp [] E0 t) := by
  obtain ⟨f, fd, ps, M, F, hm, b⟩ := c.ex
  exact pe_make M F (hr.mono hk) hg hm b .nil pass0 ha hdb he hpl
/-- a method -/
structure ClT (P : Program) (w : World) (K : PySem.W.Frag) (mg : Str → Option Value) (base : Heap) (k : Nat) (C : Addr) (m : Str) (sp : Sp) : Prop where
  ex : ∃ (f : Addr) (fd : FuncData) (ps : List Str), Meth K C m f ∧ FnOk P w K mg base CX0 k f fd ps sp ∧ Binds K fd ps []
  c : Cls K C
theorem pmeth {X : Cx} {k j : Nat} {m : Str} {C : Addr} {sp : Sp} {apos pos : Pos} {o e : Expr} {es : List Expr} {to : TE} {t : TA} {pl : Sem Bool} (c : ClT X.prog X.w X.K X.mg X.base k C m sp) (hr : Room j X.A) (hk : k ≤ j) (ho : PE X o to) (ha : PA X (e :: es) t)
    (hst : starEach (e :: es) X.env = (false, eval e X.env) :: starEach es X.env := by rfl) (hpl : (backTo pos (starEach es X.env)).any (·.1) = false := by rfl)
    (ht : eval (.Call (.Attribute o m apos) (e :: es) [] pos) X.env = (do
      let ov ← eval o X.env
      standAt apos.atName
      let (f, first) ← holding [ov] (getMethod ov m pl)
      callWith pos f first (backTo pos (starEach (e :: es) X.env)) (backToKw pos (keywordEach [] X.env))) := by rfl) :
    PE X (.Call (.Attribute o m apos) (e :: es) [] pos) (tMeth C m sp [] E0 to t) := by
  obtain ⟨f, fd, ps, M, F, b⟩ := c.ex
  exact pe_meth ho c.c M F (hr.mono hk) b .nil pass0 ha hst hpl ht
/-! ### isinstance -/
structure IsC (K : PySem.W.Frag) (C : Addr) : Prop where
  ha : PySem.W.findIn K (.ref C) "__class__" = some (some (.builtin "object.__class__"))
  hn : PySem.W.specialIn K (.builtin "object.__class__") "__get__" = some (some (.builtin "getset_descriptor.__get__"))
  tk : PySem.W.takesIn K (.builtin "object.__class__") = some true
  hm : PySem.W.mroIn K C (.type "object") = some true
theorem evd_isiO {K : PySem.W.Frag} {δ : List Sl} {te : TE} {C D : Addr} {ps bs : List Int} {fee : Option Int} {b : Bool} (co : COk K C) (ic : IsC K C) (h : EvB K te δ C ps bs fee) (hk : PySem.W.kitOne K (.ref C) (.ref D) = some b) :
    EvD K (tCB (cIsi K) (tCons te (tCons (tC (.ref D)) tNil))) δ (.bool b) := fun B σ H G F g Q q =>
  h B σ H G F g _ fun x G1 H1 n1 ⟨dx, p, q', e1, _, _⟩ => ⟨.ref x, .ref D, .ref C, .ref D, b, rfl, .own D, .base (.ins e1 co.c ic.ha ic.hn ic.tk ic.hm), hk, q _ G1 H1 n1 (.bl b)⟩
/-! ### more facts of the head -/
inductive Xf where
  | isc (x : Str)
  | kit (x y : Str) (b : Bool)
def Xf.ok (K : PySem.W.Frag) : Xf → Bool
  | .isc x => He.eqO (PySem.W.findIn K (.ref (He.ga K x)) "__class__") (some (some (.builtin "object.__class__"))) && (He.eqO (PySem.W.specialIn K (.builtin "object.__class__") "__get__") (some (some (.builtin "getset_descriptor.__get__"))) &&
      (decide (PySem.W.takesIn K (.builtin "object.__class__") = some true) && decide (PySem.W.mroIn K (He.ga K x) (.type "object") = some true)))
  | .kit x y b => decide (PySem.W.kitOne K (.ref (He.ga K x)) (.ref (He.ga K y)) = some b)
theorem isc_ok {K : PySem.W.Frag} {x : Str} (h : (Xf.isc x).ok K = true) : IsC K (He.ga K x) := by
  obtain ⟨h1, h⟩ := He.ba h
  obtain ⟨h2, h⟩ := He.ba h
  obtain ⟨h3, h4⟩ := He.ba h
  exact ⟨He.eqO_ok h1, He.eqO_ok h2, of_decide_eq_true h3, of_decide_eq_true h4⟩
theorem kit_ok {K : PySem.W.Frag} {x y : Str} {b : Bool} (h : (Xf.kit x y b).ok K = true) : PySem.W.kitOne K (.ref (He.ga K x)) (.ref (He.ga K y)) = some b := of_decide_eq_true h
abbrev AlX : Type := Bool × He.AlD
def obsX (xs : List Xf) (fa : List He.Fa) (fn : List He.DefD) (K : PySem.W.Frag) : AlX := (xs.all fun f => f.ok K, He.obsD fa fn K)
def obsXG (n : Nat) (xs : List Xf) (fa : List He.Fa) (fn : List He.DefD) (g : Addr → Option Obj) : AlX := obsX xs fa fn (He.frG g (He.asD g n))
def hookX (n : Nat) (xs : List Xf) (fa : List He.Fa) (fn : List He.DefD) : PySem.W.Hook where
  α := AlX
  obs := fun s => obsXG n xs fa fn s.heap.get?
  val := fun _ => (true, He.valD fn)
  says := fun _ h => ∃ K : PySem.W.Frag, K.In h ∧ He.SaysD fa fn K ∧ (xs.all fun f => f.ok K) = true
  of := fun _ _ e => ⟨_, He.frG_in, congrArg (fun z : AlX => z.2) e, congrArg (fun z : AlX => z.1) e⟩
  keeps := fun _ _ _ ⟨K, hK, c⟩ k => ⟨K, PySem.W.Frag.In.keeps hK k, c⟩
theorem obsXG_eq {n : Nat} {xs : List Xf} {fa : List He.Fa} {fn : List He.DefD} {g : Addr → Option Obj} {s : Shared} (h : ∀ a, g a = s.heap.get? a) : obsXG n xs fa fn g = (hookX n xs fa fn).obs s := by
  have e : g = s.heap.get? := funext h
  rw [e] <;> rfl
theorem xf_at {xs : List Xf} {K : PySem.W.Frag} (c : (xs.all fun f => f.ok K) = true) (i : Nat) {f : Xf} (h : xs[i]? = some f := by rfl) : f.ok K = true := List.all_eq_true.mp c f (List.mem_of_getElem? h)
/-! ### __init__ -/
theorem sqL_updI {K : PySem.W.Frag} {H : Hp} {x b C dx : Addr} {fs : List (Str × V)} {u : HO} {xs : List V} (hx : H x = some (.ins C dx fs)) (h : SqL K H b xs) : SqL K (upd H x u) b xs := by
  refine h.imp (fun z => ?_) id
  have hb : b ≠ x := by
    rintro rfl
    rcases z with z | ⟨o, z⟩
    · rw [hx] at z; cases z
    · rw [hx] at z; cases z
  rcases z with z | ⟨o, z⟩
  · exact .inl (by rw [upd_ne hb]; exact z)
  · exact .inr ⟨o, by rw [upd_ne hb]; exact z⟩
def t_init3 (K : PySem.W.Frag) : TS := tSeq (sFld K (tVar 0) (tCB (cList K) (tCons (tVar 1) tNil)) "posts") (tSeq (sFld K (tVar 0) (tCB (cList K) (tCons (tVar 2) tNil)) "bounds") (tSeq (sFld K (tVar 0) (tVar 3) "fee") tNext))
def t_init2 (K : PySem.W.Frag) : TS := tSeq (sFld K (tVar 0) (tCB (cList K) (tCons (tVar 1) tNil)) "posts") (tSeq (sFld K (tVar 0) (tCB (cList K) (tCons (tVar 2) tNil)) "bounds") tNext)
/-- .. with a fee or without -/
abbrev PrI3 (K : PySem.W.Frag) (C : Addr) : Sp := PrIn K 4 C
abbrev PrI2 (K : PySem.W.Frag) (C : Addr) : Sp := PrIn K 3 C
section
variable {K : PySem.W.Frag} {C x dx a b : Addr} {ps bs : List Int} {H : Hp} {Q : VK}
theorem init_two {σ : L2.St} {D : Ends} {tz : TS} (co : COk K C) (s0 : σ[0]? = some (some (.ref x))) (s1 : σ[1]? = some (some (.ref a))) (s2 : σ[2]? = some (some (.ref b))) (hx : H x = some (.ins C dx [])) (ha : SqL K H a (ps.map V.int)) (hb : SqL K H b (bs.map V.int))
    (k : ∀ p q H', p ≠ q → H p = none → H q = none → (∀ c, c ≠ x → H c ≠ none → H' c = H c) → H' x = some (.ins C dx (flds p q none)) → H' p = some (.lst (ps.map V.int)) → H' q = some (.lst (bs.map V.int)) → tz D σ H') :
    tSeq (sFld K (tVar 0) (tCB (cList K) (tCons (tVar 1) tNil)) "posts") (tSeq (sFld K (tVar 0) (tCB (cList K) (tCons (tVar 2) tNil)) "bounds") tz) D σ H := by
  refine ⟨.ref a, s1, a, ps.map V.int, rfl, .inl ha, fun l hl => ?_⟩
  have hlx : x ≠ l := fun z => by rw [z, hl] at hx; cases hx
  have hx1 : upd H l (.lst (ps.map V.int)) x = some (.ins C dx []) := by rw [upd_ne hlx]; exact hx
  refine ⟨.ref x, s0, x, C, dx, [], rfl, hx1, co.c, co.np, by decide, ?_⟩
  have hb1 : SqL K (upd (upd H l (.lst (ps.map V.int))) x (.ins C dx (putF "posts" (.ref l) []))) b (bs.map V.int) := sqL_updI hx1 (sqL_mono (same_upd hl) hb)
  refine ⟨.ref b, s2, b, bs.map V.int, rfl, .inl hb1, fun l2 hl2 => ?_⟩
  have h2x : x ≠ l2 := fun z => by rw [← z, upd_same] at hl2; cases hl2
  have h2l : l ≠ l2 := fun z => by rw [← z, upd_ne hlx.symm, upd_same] at hl2; cases hl2
  have hl2H : H l2 = none := by rw [upd_ne h2x.symm, upd_ne h2l.symm] at hl2; exact hl2
  refine ⟨.ref x, s0, x, C, dx, putF "posts" (.ref l) [], rfl, by rw [upd_ne h2x, upd_same], co.c, co.nb, (show 1 < 1000 by decide), ?_⟩
  refine k l l2 _ h2l hl hl2H (fun c hc hn => ?_) (by rw [upd_same]; rfl) ?_ ?_
  · have c1 : c ≠ l := fun z => hn (by rw [z]; exact hl)
    have c2 : c ≠ l2 := fun z => hn (by rw [z]; exact hl2H)
    rw [upd_ne hc, upd_ne c2, upd_ne hc, upd_ne c1]
  · rw [upd_ne hlx.symm, upd_ne h2l, upd_ne hlx.symm, upd_same]
  · rw [upd_ne h2x.symm, upd_same]
theorem init_ok3 {vs : List V} {E : XK} (co : COk K C) (h : PrI3 K C vs H Q E) (N : List Str) : t_init3 K { nx := fun _ H' => Q .non H', rt := Q } (L2.start N vs) H := by
  obtain ⟨hl, x, dx, a, b, ps, bs, fee, rfl, hx, ha, hb, k⟩ := h
  cases fee with
  | none => cases hl
  | some i =>
    refine init_two co rfl rfl rfl hx ha hb fun p q H' h1 h2 h3 h4 h5 h6 h7 => ?_
    have px : p ≠ x := fun z => by rw [z, hx] at h2; cases h2
    have qx : q ≠ x := fun z => by rw [z, hx] at h3; cases h3
    refine ⟨.int i, rfl, .ref x, rfl, x, C, dx, _, rfl, h5, co.c, co.nf, (show 2 < 1000 by decide), ?_⟩
    exact k p q _ h1 h2 h3 (fun c hc hn => by rw [upd_ne hc]; exact h4 c hc hn) (by rw [upd_same]; rfl) (by rw [upd_ne px]; exact h6) (by rw [upd_ne qx]; exact h7)
theorem init_ok2 {vs : List V} {E : XK} (co : COk K C) (h : PrI2 K C vs H Q E) (N : List Str) : t_init2 K { nx := fun _ H' => Q .non H', rt := Q } (L2.start N vs) H := by
  obtain ⟨hl, x, dx, a, b, ps, bs, fee, rfl, hx, ha, hb, k⟩ := h
  cases fee with
  | some i => cases hl
  | none => exact init_two co rfl rfl rfl hx ha hb k
end
end Ph

set_option Elab.async false
set_option linter.all false
set_option maxRecDepth 100000
set_option maxHeartbeats 2000000
namespace Ph
open PySem PySem.Spec L2
/-- list + list, both may be read -/
def oCatL (K : PySem.W.Frag) : R2 := fun x y H Q => ∃ a b xs ys, x = .ref a ∧ y = .ref b ∧ SqL K H a xs ∧ SqL K H b ys ∧ xs.length + ys.length ≤ sizeLine ∧ ∀ p, H p = none → Q (.ref p) (upd H p (.lst (xs ++ ys)))
theorem p_catL {X : Cx} : OpR X (binaryOp .Add) (oCatL X.K) := by
  intro pins s σ H x y v u Q I rx ry h
  obtain ⟨a, b, xs, ys, rfl, rfl, ha, hb, hz, q⟩ := h
  cases rx
  cases ry
  obtain ⟨its, r1, pl1, z1⟩ := I.list ha
  obtain ⟨its2, r2, pl2, z2⟩ := I.list hb
  obtain ⟨⟨cls, dd, data, sl⟩, n, ho, hc, hdd, hd⟩ := pl1
  obtain ⟨⟨cls2, dd2, data2, sl2⟩, n2, ho2, hc2, hdd2, hd2⟩ := pl2
  simp only at hc hd hc2 hd2
  subst hc hd hc2 hd2
  have e : its.toArray ++ its2.toArray = (its ++ its2).toArray := by simp
  have hl1 := r1.length
  have hl2 := r2.length
  refine PySem.concat_meets ⟨_, ho, rfl⟩ ⟨_, ho2, rfl⟩ PySem.noFill_list_add PySem.seq_list_add PySem.F.slot_list_add PySem.F.entry_list_add (PySem.F.args_list_add_2 _ _) (PyProof.Rows.list_addW a b its.toArray its2.toArray n n2 dd dd2 sl sl2 (by simp; omega)) ⟨ho, ho2, ?_⟩
  rw [e]
  exact ⟨.ref _, _, I.lnew (t' := s.toks) (r1.append r2) (by rw [List.length_append]; omega), rfl, q _ I.fresh⟩
section
variable {K : PySem.W.Frag} {δ : List Sl} {ta tb : TE} {ds es : List PyData}
theorem evn_catL (ha : EvL K ta δ ds) (hb : EvL K tb δ es) (hz : ds.length + es.length ≤ 1000000) : EvN K (tOp (oCatL K) ta tb) δ (ds ++ es) := fun B σ H G F g Q q =>
  ha B σ H G F g _ fun v G1 H1 n1 ⟨p, vs, ep, sq, al⟩ => hb B σ H1 G1 F (g.up n1) _ fun w G2 H2 n2 ⟨p2, ws, ep2, sq2, al2⟩ => by
    subst ep ep2
    refine ⟨p, p2, vs, ws, rfl, rfl, sqL_mono n2.h sq, sq2, ?_, fun l hl => ?_⟩
    · rw [dpAll_len al, dpAll_len al2]; exact Nat.le_trans hz (by decide)
    · have n := n1.trans n2
      exact q l _ G2 _ (n.trans (Nu.laid n.s hl)) (n.s.free hl) (n.h.free hl) upd_same (dpAll_app (dpAll_mono n2.g al) al2)
end
end Ph

set_option Elab.async false
set_option linter.all false
set_option maxRecDepth 100000
set_option maxHeartbeats 2000000
namespace Ph
/-! ### sums, the way to one house, middles -/
def sumTo (g : Nat → Int) : Nat → Int
  | 0 => 0
  | n + 1 => sumTo g n + g n
def xs (r : List (Int × Int)) (i : Nat) : Int := (r.getD i default).1
def ls (r : List (Int × Int)) (i : Nat) : Int := (r.getD i default).2
def sM (r : List (Int × Int)) (i : Nat) : Int := sumTo (ls r) i
def sF (r : List (Int × Int)) (i : Nat) : Int := sumTo (fun i => ls r i * xs r i) i
def gc (r : List (Int × Int)) (p i : Nat) : Int := ls r i * ((xs r i - xs r p).natAbs : Int)
/-- how far the letters of the houses from f on, less than e, are carried to the house p -/
def cst (r : List (Int × Int)) (f e p : Nat) : Int := sumTo (gc r p) e - sumTo (gc r p) f
theorem ls_nonneg {r : List (Int × Int)} (ok : RoadOk r) (i : Nat) : 0 ≤ ls r i := by
  unfold ls
  by_cases h : i < r.length
  · exact ok.let0 _ (getD_mem h)
  · rw [List.getD_eq_getElem?_getD, List.getElem?_eq_none (by omega)]
    exact Int.le_refl 0
theorem xs_lt {r : List (Int × Int)} (ok : RoadOk r) {i j : Nat} (h : i < j) (hj : j < r.length) : xs r i < xs r j := pl_rise ok h hj
theorem xs_le {r : List (Int × Int)} (ok : RoadOk r) {i j : Nat} (h : i ≤ j) (hj : j < r.length) : xs r i ≤ xs r j := by
  by_cases e : i = j
  · rw [e]; exact Int.le_refl _
  · exact Int.le_of_lt (xs_lt ok (by omega) hj)
theorem sM_mono {r : List (Int × Int)} (ok : RoadOk r) {i : Nat} : ∀ {j : Nat}, i ≤ j → sM r i ≤ sM r j
  | 0, h => by have : i = 0 := by omega
               rw [this]; exact Int.le_refl _
  | j + 1, h => by
    by_cases e : i = j + 1
    · rw [e]; exact Int.le_refl _
    · have h1 := sM_mono ok (j := j) (show i ≤ j by omega)
      have h2 := ls_nonneg ok j
      show sM r i ≤ sM r j + ls r j
      omega
/-- up to the house p -/
theorem cst_up {r : List (Int × Int)} (ok : RoadOk r) {f p : Nat} (hp : p < r.length) : ∀ {e : Nat}, f ≤ e → e ≤ p → cst r f e p = xs r p * (sM r e - sM r f) - (sF r e - sF r f)
  | 0, h, _ => by
    have : f = 0 := by omega
    subst this
    show (0 : Int) - 0 = xs r p * (0 - 0) - (0 - 0)
    simp
  | e + 1, h, h2 => by
    by_cases q : f = e + 1
    · subst q
      unfold cst
      simp
    · have ih := cst_up ok hp (f := f) (e := e) (by omega) (by omega)
      have e1 : cst r f (e + 1) p = cst r f e p + gc r p e := by unfold cst; show sumTo (gc r p) e + gc r p e - _ = _; omega
      have hx := xs_le ok (show e ≤ p by omega) hp
      have e2 : gc r p e = xs r p * ls r e - ls r e * xs r e := by
        unfold gc
        have : ((xs r e - xs r p).natAbs : Int) = xs r p - xs r e := by omega
        rw [this, Int.mul_sub, Int.mul_comm (ls r e) (xs r p)]
      rw [e1, ih, e2]
      show xs r p * (sM r e - sM r f) - (sF r e - sF r f) + (xs r p * ls r e - ls r e * xs r e) = xs r p * (sM r e + ls r e - sM r f) - (sF r e + ls r e * xs r e - sF r f)
      have e3 : sM r e + ls r e - sM r f = (sM r e - sM r f) + ls r e := by omega
      rw [e3, Int.mul_add]
      omega
/-- from the house p on -/
theorem cst_dn {r : List (Int × Int)} (ok : RoadOk r) {f p : Nat} (hpf : p ≤ f) : ∀ {e : Nat}, f ≤ e → e ≤ r.length → cst r f e p = (sF r e - sF r f) - xs r p * (sM r e - sM r f)
  | 0, h, _ => by
    have : f = 0 := by omega
    subst this
    show (0 : Int) - 0 = (0 - 0) - xs r p * (0 - 0)
    simp
  | e + 1, h, h2 => by
    by_cases q : f = e + 1
    · subst q
      unfold cst
      simp
    · have ih := cst_dn ok hpf (f := f) (e := e) (by omega) (by omega)
      have e1 : cst r f (e + 1) p = cst r f e p + gc r p e := by unfold cst; show sumTo (gc r p) e + gc r p e - _ = _; omega
      have hx := xs_le ok (show p ≤ e by omega) (show e < r.length by omega)
      have e2 : gc r p e = ls r e * xs r e - xs r p * ls r e := by
        unfold gc
        have : ((xs r e - xs r p).natAbs : Int) = xs r e - xs r p := by omega
        rw [this, Int.mul_sub, Int.mul_comm (ls r e) (xs r p)]
      rw [e1, ih, e2]
      show (sF r e - sF r f) - xs r p * (sM r e - sM r f) + (ls r e * xs r e - xs r p * ls r e) = (sF r e + ls r e * xs r e - sF r f) - xs r p * (sM r e + ls r e - sM r f)
      have e3 : sM r e + ls r e - sM r f = (sM r e - sM r f) + ls r e := by omega
      rw [e3, Int.mul_add]
      omega
theorem cst_split (r : List (Int × Int)) (f m e p : Nat) : cst r f e p = cst r f m p + cst r m e p := by unfold cst; omega
/-- what carried reckons -/
theorem cst_carried {r : List (Int × Int)} (ok : RoadOk r) {f e p : Nat} (h1 : f ≤ p) (h2 : p < e) (h3 : e ≤ r.length) :
    cst r f e p = xs r p * (sM r p - sM r f) - (sF r p - sF r f) + (sF r e - sF r p) - xs r p * (sM r e - sM r p) := by
  rw [cst_split r f p e p, cst_up ok (by omega) h1 (Nat.le_refl _), cst_dn ok (Nat.le_refl _) (by omega) h3]
  omega
/-- one house further -/
theorem cst_step {r : List (Int × Int)} (ok : RoadOk r) {f e p : Nat} (h1 : f ≤ p) (h2 : p + 1 < e) (h3 : e ≤ r.length) :
    cst r f e (p + 1) = cst r f e p + (xs r (p + 1) - xs r p) * (2 * (sM r (p + 1) - sM r f) - (sM r e - sM r f)) := by
  rw [cst_carried ok (f := f) (p := p + 1) (by omega) h2 h3, cst_carried ok h1 (by omega) h3]
  have a1 : sM r (p + 1) = sM r p + ls r p := rfl
  have a2 : sF r (p + 1) = sF r p + ls r p * xs r p := rfl
  rw [a1, a2]
  generalize sM r p = A
  generalize sM r f = C
  generalize sM r e = E
  generalize sF r p = P
  generalize sF r f = Q
  generalize sF r e = W
  generalize ls r p = l
  generalize xs r p = x
  generalize xs r (p + 1) = y
  simp only [Int.mul_sub, Int.sub_mul, Int.mul_add, Int.add_mul]
  have c1 : l * x = x * l := Int.mul_comm _ _
  have c2 : y * (2 * A) = 2 * (y * A) := by rw [← Int.mul_assoc, Int.mul_comm y 2, Int.mul_assoc]
  have c3 : y * (2 * l) = 2 * (y * l) := by rw [← Int.mul_assoc, Int.mul_comm y 2, Int.mul_assoc]
  have c4 : y * (2 * C) = 2 * (y * C) := by rw [← Int.mul_assoc, Int.mul_comm y 2, Int.mul_assoc]
  have c5 : x * (2 * A) = 2 * (x * A) := by rw [← Int.mul_assoc, Int.mul_comm x 2, Int.mul_assoc]
  have c6 : x * (2 * l) = 2 * (x * l) := by rw [← Int.mul_assoc, Int.mul_comm x 2, Int.mul_assoc]
  have c7 : x * (2 * C) = 2 * (x * C) := by rw [← Int.mul_assoc, Int.mul_comm x 2, Int.mul_assoc]
  rw [c1, c2, c3, c4, c5, c6, c7]
  omega
/-- half of the letters on either side -/
def isMid (r : List (Int × Int)) (f e p : Nat) : Prop := 2 * (sM r p - sM r f) ≤ sM r e - sM r f ∧ sM r e - sM r f ≤ 2 * (sM r (p + 1) - sM r f)
instance (r : List (Int × Int)) (f e p : Nat) : Decidable (isMid r f e p) := by unfold isMid; infer_instance
theorem mid_right {r : List (Int × Int)} (ok : RoadOk r) {f e p : Nat} (h1 : f ≤ p) (h3 : e ≤ r.length) (hm : sM r e - sM r f ≤ 2 * (sM r (p + 1) - sM r f)) : ∀ {q : Nat}, p ≤ q → q < e → cst r f e p ≤ cst r f e q
  | 0, h, _ => by have : p = 0 := by omega
                  rw [this]; exact Int.le_refl _
  | q + 1, h, hq => by
    by_cases z : p = q + 1
    · rw [z]; exact Int.le_refl _
    · have ih := mid_right ok h1 h3 hm (q := q) (by omega) (by omega)
      rw [cst_step ok (show f ≤ q by omega) hq h3]
      have hx := xs_le ok (show q ≤ q + 1 by omega) (show q + 1 < r.length by omega)
      have hs := sM_mono ok (show p + 1 ≤ q + 1 by omega)
      have : 0 ≤ (xs r (q + 1) - xs r q) * (2 * (sM r (q + 1) - sM r f) - (sM r e - sM r f)) := Int.mul_nonneg (by omega) (by omega)
      omega
theorem mid_left {r : List (Int × Int)} (ok : RoadOk r) {f e p : Nat} (h2 : p < e) (h3 : e ≤ r.length) (hm : 2 * (sM r p - sM r f) ≤ sM r e - sM r f) : ∀ (k q : Nat), q + k = p → f ≤ q → cst r f e p ≤ cst r f e q
  | 0, q, h, _ => by have : q = p := by omega
                     rw [this]; exact Int.le_refl _
  | k + 1, q, h, hq => by
    have ih := mid_left ok h2 h3 hm k (q + 1) (by omega) (by omega)
    rw [cst_step ok hq (by omega) h3] at ih
    have hx := xs_le ok (show q ≤ q + 1 by omega) (show q + 1 < r.length by omega)
    have hs := sM_mono ok (show q + 1 ≤ p by omega)
    have : (xs r (q + 1) - xs r q) * (2 * (sM r (q + 1) - sM r f) - (sM r e - sM r f)) ≤ 0 := Int.mul_nonpos_of_nonneg_of_nonpos (by omega) (by omega)
    omega
theorem mid_least {r : List (Int × Int)} (ok : RoadOk r) {f e p : Nat} (h1 : f ≤ p) (h2 : p < e) (h3 : e ≤ r.length) (hm : isMid r f e p) {q : Nat} (hq1 : f ≤ q) (hq2 : q < e) : cst r f e p ≤ cst r f e q := by
  by_cases h : p ≤ q
  · exact mid_right ok h1 h3 hm.2 h hq2
  · exact mid_left ok h2 h3 hm.1 (p - q) q (by omega) hq1
theorem least_mid {r : List (Int × Int)} (ok : RoadOk r) {f e p : Nat} (h1 : f ≤ p) (h2 : p < e) (h3 : e ≤ r.length) (hl : ∀ q, f ≤ q → q < e → cst r f e p ≤ cst r f e q) : isMid r f e p := by
  refine ⟨?_, ?_⟩
  · by_cases z : p = f
    · subst z
      have := sM_mono ok (show p ≤ e by omega)
      omega
    · refine Int.not_lt.mp fun hlt => ?_
      have h := hl (p - 1) (by omega) (by omega)
      have hs := cst_step ok (show f ≤ p - 1 by omega) (show p - 1 + 1 < e by omega) h3
      have e1 : p - 1 + 1 = p := by omega
      rw [e1] at hs
      have hx := xs_lt ok (show p - 1 < p by omega) (show p < r.length by omega)
      have : 0 < (xs r p - xs r (p - 1)) * (2 * (sM r p - sM r f) - (sM r e - sM r f)) := Int.mul_pos (by omega) (by omega)
      omega
  · by_cases z : p + 1 = e
    · rw [z]
      have := sM_mono ok (show f ≤ e by omega)
      omega
    · refine Int.not_lt.mp fun hlt => ?_
      have h := hl (p + 1) (by omega) (by omega)
      rw [cst_step ok h1 (by omega) h3] at h
      have hx := xs_lt ok (show p < p + 1 by omega) (show p + 1 < r.length by omega)
      have : (xs r (p + 1) - xs r p) * (2 * (sM r (p + 1) - sM r f) - (sM r e - sM r f)) < 0 := Int.mul_neg_of_pos_of_neg (by omega) (by omega)
      omega
/-! the first best house -/
def mAdv (r : List (Int × Int)) (f e p : Nat) : Nat :=
  if p + 1 < e ∧ 2 * (sM r (p + 1) - sM r f) < sM r e - sM r f then mAdv r f e (p + 1) else p
termination_by e - p
theorem mAdv_go {r : List (Int × Int)} {f e p : Nat} (h : p + 1 < e ∧ 2 * (sM r (p + 1) - sM r f) < sM r e - sM r f) : mAdv r f e p = mAdv r f e (p + 1) := by rw [mAdv, if_pos h]
theorem mAdv_stop {r : List (Int × Int)} {f e p : Nat} (h : ¬ (p + 1 < e ∧ 2 * (sM r (p + 1) - sM r f) < sM r e - sM r f)) : mAdv r f e p = p := by rw [mAdv, if_neg h]
def mid (r : List (Int × Int)) (f e : Nat) : Nat := mAdv r f e f
theorem mAdv_ge (r : List (Int × Int)) (f e p : Nat) : p ≤ mAdv r f e p := by
  by_cases h : p + 1 < e ∧ 2 * (sM r (p + 1) - sM r f) < sM r e - sM r f
  · rw [mAdv_go h]
    exact Nat.le_trans (Nat.le_succ p) (mAdv_ge r f e (p + 1))
  · rw [mAdv_stop h]; exact Nat.le_refl _
termination_by e - p
theorem mAdv_lt (r : List (Int × Int)) (f e p : Nat) (hp : p < e) : mAdv r f e p < e := by
  by_cases h : p + 1 < e ∧ 2 * (sM r (p + 1) - sM r f) < sM r e - sM r f
  · rw [mAdv_go h]
    exact mAdv_lt r f e (p + 1) h.1
  · rw [mAdv_stop h]; exact hp
termination_by e - p
/-- all houses ahead of it have less than half -/
theorem mAdv_bef (r : List (Int × Int)) (f e p : Nat) : ∀ q, p ≤ q → q < mAdv r f e p → 2 * (sM r (q + 1) - sM r f) < sM r e - sM r f := by
  intro q h1 h2
  by_cases h : p + 1 < e ∧ 2 * (sM r (p + 1) - sM r f) < sM r e - sM r f
  · rw [mAdv_go h] at h2
    by_cases z : p = q
    · rw [← z]; exact h.2
    · exact mAdv_bef r f e (p + 1) q (by omega) h2
  · rw [mAdv_stop h] at h2
    omega
termination_by e - p
theorem mAdv_half {r : List (Int × Int)} (ok : RoadOk r) (f e p : Nat) (hf : f ≤ p) (hp : p < e) : sM r e - sM r f ≤ 2 * (sM r (mAdv r f e p + 1) - sM r f) := by
  by_cases h : p + 1 < e ∧ 2 * (sM r (p + 1) - sM r f) < sM r e - sM r f
  · rw [mAdv_go h]
    exact mAdv_half ok f e (p + 1) (by omega) h.1
  · rw [mAdv_stop h]
    by_cases z : p + 1 < e
    · have : ¬ 2 * (sM r (p + 1) - sM r f) < sM r e - sM r f := fun w => h ⟨z, w⟩
      omega
    · have e1 : p + 1 = e := by omega
      rw [e1]
      have := sM_mono ok (show f ≤ e by omega)
      omega
termination_by e - p
theorem mid_ge (r : List (Int × Int)) (f e : Nat) : f ≤ mid r f e := mAdv_ge r f e f
theorem mid_lt (r : List (Int × Int)) {f e : Nat} (h : f < e) : mid r f e < e := mAdv_lt r f e f h
theorem mid_isMid {r : List (Int × Int)} (ok : RoadOk r) {f e : Nat} (h : f < e) : isMid r f e (mid r f e) := by
  refine ⟨?_, mAdv_half ok f e f (Nat.le_refl _) h⟩
  by_cases z : mid r f e = f
  · rw [z]
    have := sM_mono ok (show f ≤ e by omega)
    omega
  · have hg := mid_ge r f e
    have := mAdv_bef r f e f (mid r f e - 1) (by omega) (by unfold mid; unfold mid at z hg; omega)
    have e1 : mid r f e - 1 + 1 = mid r f e := by omega
    rw [e1] at this
    omega
/-- the pointer goes on from the end ahead -/
theorem mAdv_from {r : List (Int × Int)} {f e p : Nat} : ∀ (k q : Nat), q + k = p → (∀ z, q ≤ z → z < p → z + 1 < e ∧ 2 * (sM r (z + 1) - sM r f) < sM r e - sM r f) → mAdv r f e q = mAdv r f e p
  | 0, q, h, _ => by have : q = p := by omega
                     rw [this]
  | k + 1, q, h, hz => by
    rw [mAdv_go (hz q (Nat.le_refl _) (by omega))]
    exact mAdv_from k (q + 1) (by omega) fun z h1 h2 => hz z (by omega) h2
theorem mid_next {r : List (Int × Int)} (ok : RoadOk r) {f e : Nat} (h : f < e) : mAdv r f (e + 1) (mid r f e) = mid r f (e + 1) := by
  refine (mAdv_from (mid r f e - f) f (by have := mid_ge r f e; omega) fun z h1 h2 => ⟨?_, ?_⟩).symm
  · have := mid_lt r h
    omega
  · have h3 := mAdv_bef r f e f z h1 h2
    have h4 := sM_mono ok (show e ≤ e + 1 by omega)
    omega
/-- the one way of a stretch -/
def wv (r : List (Int × Int)) (f e : Nat) : Int := cst r f e (mid r f e)
theorem wv_le {r : List (Int × Int)} (ok : RoadOk r) {f e p : Nat} (h1 : f ≤ p) (h2 : p < e) (h3 : e ≤ r.length) : wv r f e ≤ cst r f e p :=
  mid_least ok (mid_ge r f e) (mid_lt r (by omega)) h3 (mid_isMid ok (by omega)) h1 h2
/-- the middle of a stretch -/
def midL (r : List (Int × Int)) (f e : Nat) : List Int := ((List.range (e - f)).filter fun k => decide (isMid r f e (f + k))).map fun (k : Nat) => (f : Int) + (k : Int)
theorem mid_iff {r : List (Int × Int)} (ok : RoadOk r) {f e p : Nat} (h1 : f ≤ p) (h2 : p < e) (h3 : e ≤ r.length) : cst r f e p = wv r f e ↔ isMid r f e p := by
  constructor
  · intro h
    refine least_mid ok h1 h2 h3 fun q a b => ?_
    rw [h]
    exact wv_le ok a b h3
  · intro h
    exact Int.le_antisymm (mid_least ok h1 h2 h3 h (mid_ge r f e) (mid_lt r (by omega))) (wv_le ok h1 h2 h3)
/-! sums as the code keeps them -/
def pM (r : List (Int × Int)) (k : Nat) : List Int := (List.range (k + 1)).map (sM r)
def pF (r : List (Int × Int)) (k : Nat) : List Int := (List.range (k + 1)).map (sF r)
theorem pM_len (r : List (Int × Int)) (k : Nat) : (pM r k).length = k + 1 := by unfold pM; rw [List.length_map, List.length_range]
theorem pF_len (r : List (Int × Int)) (k : Nat) : (pF r k).length = k + 1 := by unfold pF; rw [List.length_map, List.length_range]
theorem pM_get (r : List (Int × Int)) {k i : Nat} (h : i ≤ k) : (pM r k).getD i default = sM r i := by
  have h' : i < k + 1 := by omega
  unfold pM
  simp [List.getD_eq_getElem?_getD, h']
theorem pF_get (r : List (Int × Int)) {k i : Nat} (h : i ≤ k) : (pF r k).getD i default = sF r i := by
  have h' : i < k + 1 := by omega
  unfold pF
  simp [List.getD_eq_getElem?_getD, h']
theorem pM_snoc (r : List (Int × Int)) (k : Nat) : pM r (k + 1) = pM r k ++ [sM r k + ls r k] := by
  unfold pM
  rw [List.range_succ, List.map_append]
  rfl
theorem pF_snoc (r : List (Int × Int)) (k : Nat) : pF r (k + 1) = pF r k ++ [sF r k + ls r k * xs r k] := by
  unfold pF
  rw [List.range_succ, List.map_append]
  rfl
/-! sizes -/
theorem ls_big {r : List (Int × Int)} (ok : RoadOk r) (i : Nat) : (ls r i).natAbs < 2 ^ 300 := by
  unfold ls
  by_cases h : i < r.length
  · exact (ok.big _ (getD_mem h)).2
  · rw [List.getD_eq_getElem?_getD, List.getElem?_eq_none (by omega)]
    decide +kernel
theorem xs_big {r : List (Int × Int)} (ok : RoadOk r) (i : Nat) : (xs r i).natAbs < 2 ^ 300 := by
  unfold xs
  by_cases h : i < r.length
  · exact (ok.big _ (getD_mem h)).1
  · rw [List.getD_eq_getElem?_getD, List.getElem?_eq_none (by omega)]
    decide +kernel
theorem sM_big' {r : List (Int × Int)} {A : Nat} (hA : ∀ i, (ls r i).natAbs ≤ A) : ∀ k : Nat, (sM r k).natAbs ≤ k * A
  | 0 => by show (0 : Int).natAbs ≤ _; simp
  | k + 1 => by
    have ih := sM_big' hA k
    have h := hA k
    show (sM r k + ls r k).natAbs ≤ _
    rw [Nat.add_mul, Nat.one_mul]
    omega
theorem sM_big {r : List (Int × Int)} (ok : RoadOk r) {k : Nat} (hk : k ≤ 1000) : (sM r k).natAbs < 2 ^ 400 := by
  have h := sM_big' (r := r) (A := 2 ^ 300) (fun i => Nat.le_of_lt (ls_big ok i)) k
  have h2 : k * 2 ^ 300 ≤ 1000 * 2 ^ 300 := Nat.mul_le_mul_right _ hk
  exact Nat.lt_of_le_of_lt h (Nat.lt_of_le_of_lt h2 (by decide +kernel))
end Ph

set_option Elab.async false
set_option linter.all false
set_option maxRecDepth 100000
set_option maxHeartbeats 2000000
namespace Ph
open PySem PySem.Spec L2
/-! ### what each def gives (k02) -/
def eSums (r : List (Int × Int)) : PyData := .tuple [eInts (pM r r.length), eInts (pF r r.length)]
def cell (r : List (Int × Int)) (f j : Nat) : Int × Int := (((mid r f (f + 1 + j) : Nat) : Int), wv r f (f + 1 + j))
def rowOf (r : List (Int × Int)) (f : Nat) : List (Int × Int) := (List.range (r.length - f)).map (cell r f)
def midT (r : List (Int × Int)) : List (List (Int × Int)) := (List.range r.length).map (rowOf r)
def lay1 (r : List (Int × Int)) : List (Int × Int) := (List.range r.length).map fun j => (wv r 0 (j + 1), 0)
theorem rowOf_len (r : List (Int × Int)) (f : Nat) : (rowOf r f).length = r.length - f := by unfold rowOf; rw [List.length_map, List.length_range]
theorem midT_len (r : List (Int × Int)) : (midT r).length = r.length := by unfold midT; rw [List.length_map, List.length_range]
theorem lay1_len (r : List (Int × Int)) : (lay1 r).length = r.length := by unfold lay1; rw [List.length_map, List.length_range]
theorem rowOf_get (r : List (Int × Int)) {f j : Nat} (h : j < r.length - f) : (rowOf r f).getD j default = cell r f j := by
  unfold rowOf
  simp [List.getD_eq_getElem?_getD, h]
theorem midT_get (r : List (Int × Int)) {f : Nat} (h : f < r.length) : (midT r).getD f default = rowOf r f := by
  unfold midT
  simp [List.getD_eq_getElem?_getD, h]
theorem lay1_get (r : List (Int × Int)) {j : Nat} (h : j < r.length) : (lay1 r).getD j default = (wv r 0 (j + 1), 0) := by
  unfold lay1
  simp [List.getD_eq_getElem?_getD, h]
def R_asked_stretch : List PyData → PyData → Prop := fun ds d => ∃ (r : List (Int × Int)) (f e : Nat), ds = [eRoad r, .int (f : Int), .int (e : Int)] ∧ f < e ∧ e ≤ r.length ∧ r.length ≤ 1000 ∧ d = .none
def R_sums : List PyData → PyData → Prop := fun ds d => ∃ r, ds = [eRoad r] ∧ RoadOk r ∧ d = eSums r
def R_carried : List PyData → PyData → Prop := fun ds d => ∃ (r : List (Int × Int)) (f e p : Nat), ds = [eRoad r, eSums r, .int (f : Int), .int (e : Int), .int (p : Int)] ∧ f ≤ p ∧ p < e ∧ e ≤ r.length ∧ RoadOk r ∧ d = .int (cst r f e p)
def R_middles : List PyData → List PyData → Prop := fun ds d => ∃ r, ds = [eRoad r] ∧ RoadOk r ∧ d = (midT r).map eRow
def R_middle : List PyData → List PyData → Prop := fun ds d => ∃ (r : List (Int × Int)) (f e : Nat), ds = [eRoad r, .int (f : Int), .int (e : Int)] ∧ f < e ∧ e ≤ r.length ∧ RoadOk r ∧ d = (midL r f e).map .int
def R_one_way : List PyData → PyData → Prop := fun ds d => ∃ (r : List (Int × Int)) (f e : Nat), ds = [eRoad r, .int (f : Int), .int (e : Int)] ∧ f < e ∧ e ≤ r.length ∧ RoadOk r ∧ d = .int (wv r f e)
def R_asked_number : List PyData → PyData → Prop := fun ds d => ∃ m : Int, ds = [.int m] ∧ 0 ≤ m ∧ d = .none
def sp_asked_stretch (K : PySem.W.Frag) : Sp := Pr K R_asked_stretch
def sp_sums (K : PySem.W.Frag) : Sp := Pr K R_sums
def sp_carried (K : PySem.W.Frag) : Sp := Pr K R_carried
def sp_middles (K : PySem.W.Frag) : Sp := PrN K R_middles
def sp_middle (K : PySem.W.Frag) : Sp := PrN K R_middle
def sp_one_way (K : PySem.W.Frag) : Sp := Pr K R_one_way
def sp_asked_number (K : PySem.W.Frag) : Sp := Pr K R_asked_number
theorem len_asked_stretch : ∀ ds d, R_asked_stretch ds d → ds.length = 3 := by rintro _ _ ⟨_, _, _, rfl, _⟩; rfl
theorem len_sums : ∀ ds d, R_sums ds d → ds.length = 1 := by rintro _ _ ⟨_, rfl, _⟩; rfl
theorem len_carried : ∀ ds d, R_carried ds d → ds.length = 5 := by rintro _ _ ⟨_, _, _, _, rfl, _⟩; rfl
theorem len_middles : ∀ ds d, R_middles ds d → ds.length = 1 := by rintro _ _ ⟨_, rfl, _⟩; rfl
theorem len_middle : ∀ ds d, R_middle ds d → ds.length = 3 := by rintro _ _ ⟨_, _, _, rfl, _⟩; rfl
theorem len_one_way : ∀ ds d, R_one_way ds d → ds.length = 3 := by rintro _ _ ⟨_, _, _, rfl, _⟩; rfl
theorem len_asked_number : ∀ ds d, R_asked_number ds d → ds.length = 1 := by rintro _ _ ⟨_, rfl, _⟩; rfl
/-! the law -/
def R_law : List PyData → PyData → Prop := fun ds d => ∃ s, ds = [eInts s] ∧ s.length ≤ 63 ∧ d = .bool true
def sp_law (K : PySem.W.Frag) : Sp := Pr K R_law
theorem len_law : ∀ ds d, R_law ds d → ds.length = 1 := by rintro _ _ ⟨_, rfl, _⟩; rfl
end Ph

set_option Elab.async false
set_option linter.all false
set_option maxRecDepth 100000
namespace Ph
open PySem PySem.Spec L2
def t_asked_stretch (K : PySem.W.Frag) : TS := (tSeq (tIfS (tOr (tNot (tB (tCall (sp_is_number K) [] E0 (tCons (tVar 1) tNil)))) (tOr (tNot (tB (tCall (sp_is_number K) [] E0 (tCons (tVar 2) tNil)))) (tNot (tCh3 oLe oLt oLe (tC (.int 0)) (tVar 1) (tVar 2) (tCB (cLen K) (tCons (tVar 0) tNil))))))
   (tSeq tNever
  tNext) tNext)
  tNext)
def t_sums (K : PySem.W.Frag) : TS := (tSeq (tAsg (tLst (tCons (tC (.int 0)) tNil)) (gName 1))
  (tSeq (tAsg (tLst (tCons (tC (.int 0)) tNil)) (gName 2))
  (tSeq (tFor (iList K (tVar 0)) (gTup K 2 (gCons (gName 3) (gCons (gName 4) gNil)))
   (tSeq (tDrop (tBM K "list" rAppend (tVar 1) (tCons (tOp oAdd (tOp (oIx K) (tVar 1) (tUn oNeg (tC (.int 1)))) (tVar 4)) tNil)))
  (tSeq (tDrop (tBM K "list" rAppend (tVar 2) (tCons (tOp oAdd (tOp (oIx K) (tVar 2) (tUn oNeg (tC (.int 1)))) (tOp oMulW (tVar 4) (tVar 3))) tNil)))
  tNext)))
  (tSeq (tRet (tTup (tCons (tVar 1) (tCons (tVar 2) tNil))))
  tNext))))
def t_carried (K : PySem.W.Frag) : TS := (tSeq (tAsg (tVar 1) (gTup K 2 (gCons (gName 5) (gCons (gName 6) gNil))))
  (tSeq (tAsg (tOp (oIxT K) (tOp (oIx K) (tVar 0) (tVar 4)) (tC (.int 0))) (gName 7))
  (tSeq (tAsg (tOp oSub (tOp oMulW (tVar 7) (tOp oSub (tOp (oIx K) (tVar 5) (tVar 4)) (tOp (oIx K) (tVar 5) (tVar 2)))) (tOp oSub (tOp (oIx K) (tVar 6) (tVar 4)) (tOp (oIx K) (tVar 6) (tVar 2)))) (gName 8))
  (tSeq (tRet (tOp oSub (tOp oAdd (tVar 8) (tOp oSub (tOp (oIx K) (tVar 6) (tVar 3)) (tOp (oIx K) (tVar 6) (tVar 4)))) (tOp oMulW (tVar 7) (tOp oSub (tOp (oIx K) (tVar 5) (tVar 3)) (tOp (oIx K) (tVar 5) (tVar 4))))))
  tNext))))
def t_middles (K : PySem.W.Frag) : TS := (tSeq (tAsg (tCall (sp_sums K) [] E0 (tCons (tVar 0) tNil)) (gName 1))
  (tSeq (tAsg (tOp (oIxT K) (tVar 1) (tC (.int 0))) (gName 2))
  (tSeq (tAsg (tLst tNil) (gName 3))
  (tSeq (tFor (iRng1 (tCons (tCB (cLen K) (tCons (tVar 0) tNil)) tNil)) (gName 4)
   (tSeq (tAsg (tLst tNil) (gName 5))
  (tSeq (tAsg (tVar 4) (gName 6))
  (tSeq (tFor (iRng2 (tCons (tOp oAdd (tVar 4) (tC (.int 1))) (tCons (tOp oAdd (tCB (cLen K) (tCons (tVar 0) tNil)) (tC (.int 1))) tNil))) (gName 7)
   (tSeq (tWhile (tTest (tOp oLt (tOp oMul (tC (.int 2)) (tOp oSub (tOp (oIx K) (tVar 2) (tOp oAdd (tVar 6) (tC (.int 1)))) (tOp (oIx K) (tVar 2) (tVar 4)))) (tOp oSub (tOp (oIx K) (tVar 2) (tVar 7)) (tOp (oIx K) (tVar 2) (tVar 4)))))
   (tSeq (tAsg (tOp oAdd (tVar 6) (tC (.int 1))) (gName 6))
  tNext))
  (tSeq (tDrop (tBM K "list" rAppend (tVar 5) (tCons (tTup (tCons (tVar 6) (tCons (tCall (sp_carried K) [] E0 (tCons (tVar 0) (tCons (tVar 1) (tCons (tVar 4) (tCons (tVar 7) (tCons (tVar 6) tNil)))))) tNil))) tNil)))
  tNext)))
  (tSeq (tDrop (tBM K "list" rAppend (tVar 3) (tCons (tVar 5) tNil)))
  tNext)))))
  (tSeq (tRet (tVar 3))
  tNext)))))
def t_middle (K : PySem.W.Frag) : TS := (tSeq (tDrop (tCall (sp_asked_road K) [] E0 (tCons (tVar 0) tNil)))
  (tSeq (tDrop (tCall (sp_asked_stretch K) [] E0 (tCons (tVar 0) (tCons (tVar 1) (tCons (tVar 2) tNil)))))
  (tSeq (tAsg (tCall (sp_sums K) [] E0 (tCons (tVar 0) tNil)) (gName 3))
  (tSeq (tAsg (tLc (iRng2 (tCons (tVar 1) (tCons (tVar 2) tNil))) (gName 5) tYes (tCall (sp_carried K) [] E0 (tCons (tVar 0) (tCons (tVar 3) (tCons (tVar 1) (tCons (tVar 2) (tCons (tVar 5) tNil)))))) [5]) (gName 4))
  (tSeq (tAsg (tCB (cMin K) (tCons (tVar 4) tNil)) (gName 6))
  (tSeq (tRet (tLc (iEnum K (tCons (tVar 4) tNil)) (gTup K 2 (gCons (gName 7) (gCons (gName 8) gNil))) (tTest (tOp oEqI (tVar 8) (tVar 6))) (tOp oAdd (tVar 1) (tVar 7)) [7, 8]))
  tNext))))))
def t_one_way (K : PySem.W.Frag) : TS := (tSeq (tDrop (tCall (sp_asked_road K) [] E0 (tCons (tVar 0) tNil)))
  (tSeq (tDrop (tCall (sp_asked_stretch K) [] E0 (tCons (tVar 0) (tCons (tVar 1) (tCons (tVar 2) tNil)))))
  (tSeq (tAsg (tCall (sp_sums K) [] E0 (tCons (tVar 0) tNil)) (gName 3))
  (tSeq (tRet (tCB (cMin K) (tCons (tLc (iRng2 (tCons (tVar 1) (tCons (tVar 2) tNil))) (gName 4) tYes (tCall (sp_carried K) [] E0 (tCons (tVar 0) (tCons (tVar 3) (tCons (tVar 1) (tCons (tVar 2) (tCons (tVar 4) tNil)))))) [4]) tNil)))
  tNext))))
def t_asked_number (K : PySem.W.Frag) : TS := (tSeq (tIfS (tOr (tNot (tB (tCall (sp_is_number K) [] E0 (tCons (tVar 0) tNil)))) (tTest (tOp oLt (tVar 0) (tC (.int 0)))))
   (tSeq tNever
  tNext) tNext)
  tNext)
end Ph

set_option Elab.async false
set_option linter.all false
set_option maxRecDepth 100000
set_option maxHeartbeats 2000000
namespace Ph
open PySem PySem.Spec L2
section
variable {K : PySem.W.Frag} {δ : List Sl} {ta tb tc td te : TE} {d e f : PyData}
local macro_rules | `(tactic| walk_at "wk") => `(tactic| first | exact WkL.nil | (refine' WkL.same ?_; walk_at "wk") | (refine' WkL.drop ?_; walk_at "wk"))
/-- [.. for x in range(a, b)] -/
theorem evn_lcR2 {a b : Nat} {f : Nat → PyData} {j : Nat} (h1 : EvD K ta δ (.int (a : Int))) (h2 : EvD K tb δ (.int (b : Int))) (hb : b ≤ 1000000) (ha : a ≤ 1000000) (he : ∀ k, k < b - a → EvD K te ((wipeD δ [j]).set j (.d (.int ((a + k : Nat) : Int)))) (f k)) :
    EvN K (tLc (iRng2 (tCons ta (tCons tb tNil))) (gName j) tYes te [j]) δ ((List.range (b - a)).map f) := by
  have hi := evi_range2 h1 h2 (by omega) (by omega) (by omega) (by omega)
  have e : ((b : Int) - (a : Int)).toNat = b - a := by omega
  rw [e] at hi
  have k := evn_lc (K := K) (δ := δ) (te := te) (tt := tYes) (g := gName j) (vs := [j]) (b := fun _ => true) (f := f) (δi := fun k => (wipeD δ [j]).set j (.d (.int ((a + k : Nat) : Int))))
    (EvI.congr (Y' := fun k => .int ((a + k : Nat) : Int)) hi (fun i _ => by rw [Int.natCast_add])) (fun _ _ _ _ _ _ => trivial) (by omega) (fun i hi => tv_name (by simp)) (fun _ _ => evt_yes) (fun i hi _ => he i hi)
  rw [List.filter_eq_self.mpr (fun _ _ => rfl)] at k
  exact k
theorem ev_pM {r : List (Int × Int)} {n k : Nat} (ha : EvL K ta δ ((pM r n).map .int)) (hb : EvD K tb δ (.int (k : Int))) (h : k ≤ n) : EvD K (tOp (oIx K) ta tb) δ (.int (sM r k)) :=
  evd_is (evd_ixm (xs := pM r n) (en := PyData.int) ha hb (by omega) (by rw [pM_len]; omega)) (by rw [Int.toNat_natCast, pM_get r h])
theorem ev_pF {r : List (Int × Int)} {n k : Nat} (ha : EvL K ta δ ((pF r n).map .int)) (hb : EvD K tb δ (.int (k : Int))) (h : k ≤ n) : EvD K (tOp (oIx K) ta tb) δ (.int (sF r k)) :=
  evd_is (evd_ixm (xs := pF r n) (en := PyData.int) ha hb (by omega) (by rw [pF_len]; omega)) (by rw [Int.toNat_natCast, pF_get r h])
theorem ev_xs {r : List (Int × Int)} {p : Nat} (ha : EvL K ta δ (r.map eHs)) (hb : EvD K tb δ (.int (p : Int))) (h : p < r.length) : EvD K (tOp (oIxT K) (tOp (oIx K) ta tb) (tC (.int 0))) δ (.int (xs r p)) :=
  evd_is (evd_ixt0 (evd_ixm (xs := r) (en := eHs) ha hb (by omega) (by omega))) (by rw [Int.toNat_natCast]; rfl)
theorem run_asked_stretch : ∀ ds d, R_asked_stretch ds d → ∀ B D, RtD K B D d → (d = .none → ∀ δ, Nx K B D δ) → RunS K B (t_asked_stretch K) D (ds.map Sl.d ++ List.replicate (3 - ds.length) Sl.no) := by
  rintro _ _ ⟨r, f, e, rfl, h1, h2, h3, rfl⟩ B D k kn
  show RunS K B (t_asked_stretch K) D [.d (eRoad r), .d (.int f), .d (.int e)]
  refine r_skip (evt_is (evt_or (evt_not (evt_B (ev_is_number (evd_at rfl)))) fun _ => evt_or (evt_not (evt_B (ev_is_number (evd_at rfl)))) fun _ => evt_not (evt_lltl evd_int (evd_at rfl) (evd_at rfl) (evd_lenm (en := eHs) (evl_d (evd_at rfl))) (by omega) (by omega) (by omega))) rfl) (r_next (kn rfl _))
theorem ev_asked_stretch {r : List (Int × Int)} {f e : Nat} (ha : EvD K ta δ (eRoad r)) (hb : EvD K tb δ (.int (f : Int))) (hc : EvD K tc δ (.int (e : Int))) (h1 : f < e) (h2 : e ≤ r.length) (h3 : r.length ≤ 1000) : EvD K (tCall (sp_asked_stretch K) [] E0 (tCons ta (tCons tb (tCons tc tNil)))) δ .none :=
  evd_call (ea_cons ha (ea_cons hb (ea_cons hc ea_nil))) ⟨r, f, e, rfl, h1, h2, h3, rfl⟩
theorem run_asked_number : ∀ ds d, R_asked_number ds d → ∀ B D, RtD K B D d → (d = .none → ∀ δ, Nx K B D δ) → RunS K B (t_asked_number K) D (ds.map Sl.d ++ List.replicate (1 - ds.length) Sl.no) := by
  rintro _ _ ⟨m, rfl, h1, rfl⟩ B D k kn
  show RunS K B (t_asked_number K) D [.d (.int m)]
  refine r_skip (evt_is (evt_or (evt_not (evt_B (ev_is_number (evd_at rfl)))) fun _ => evt_test (evd_lt (evd_at rfl) evd_int)) ?_) (r_next (kn rfl _))
  rw [decide_eq_false (show ¬ m < 0 by omega)]
  rfl
theorem ev_asked_number {m : Int} (ha : EvD K ta δ (.int m)) (h : 0 ≤ m) : EvD K (tCall (sp_asked_number K) [] E0 (tCons ta tNil)) δ .none := evd_call (ea_cons ha ea_nil) ⟨m, rfl, h, rfl⟩
theorem run_sums : ∀ ds d, R_sums ds d → ∀ B D, RtD K B D d → (d = .none → ∀ δ, Nx K B D δ) → RunS K B (t_sums K) D (ds.map Sl.d ++ List.replicate (5 - ds.length) Sl.no) := by
  rintro _ _ ⟨r, rfl, ok, rfl⟩ B D k _
  show RunS K B (t_sums K) D [.d (eRoad r), .no, .no, .no, .no]
  have hn := ok.len
  refine r_setN (ds := (pM r 0).map .int) (evn_lst (ea_cons evd_int ea_nil) (by simp [pM_len])) fun p => r_setN (ds := (pF r 0).map .int) (evn_lst (ea_cons evd_int ea_nil) (by simp [pF_len])) fun q => ?_
  dsimp only [List.set_cons_zero, List.set_cons_succ]
  refine r_for (evi_listm (xs := r) (en := eHs) (evd_at rfl)) (fun i δ => δ = [.d (eRoad r), .m p ((pM r i).map .int), .m q ((pF r i).map .int), .no, .no]) ⟨_, by walk_at "wk", rfl⟩ (fun _ _ _ _ _ _ _ _ _ => trivial) (fun Gb hb i δ' hi hP => ?_) (fun δ' hP => ?_)
  · subst hP
    refine ⟨_, tg_tup (tgs_cons tg_name (tgs_cons tg_name tgs_nil)) rfl, ?_⟩
    dsimp only [List.set_cons_zero, List.set_cons_succ]
    have hm := getD_mem hi
    refine r_app rfl (d := .int (sM r i + ls r i)) (evd_is (evd_add (evd_ixl (xs := pM r i) (en := PyData.int) (evl_at rfl) (by intro z; have := pM_len r i; rw [z] at this; cases this)) (evd_at rfl)) ?_) (by rw [List.length_map, pM_len]; omega) ?_
    · rw [pM_len, Nat.add_sub_cancel, pM_get r (Nat.le_refl i)]
      rfl
    dsimp only [List.set_cons_zero, List.set_cons_succ]
    refine r_app rfl (d := .int (sF r i + ls r i * xs r i)) (evd_is (evd_add (evd_ixl (xs := pF r i) (en := PyData.int) (evl_at rfl) (by intro z; have := pF_len r i; rw [z] at this; cases this)) (evd_mulW (evd_at rfl) (evd_at rfl) (big_mul (up_big (ok.big _ hm).2) (up_big (ok.big _ hm).1)))) ?_) (by rw [List.length_map, pF_len]; omega) ?_
    · rw [pF_len, Nat.add_sub_cancel, pF_get r (Nat.le_refl i)]
      rfl
    dsimp only [List.set_cons_zero, List.set_cons_succ]
    refine r_next (nx_inv ?_ ⟨_, rfl, rfl⟩)
    rw [pM_snoc, pF_snoc, List.map_append, List.map_append]
    walk_at "wk"
  · subst hP
    refine r_freeze (i := 1) rfl (r_freeze (i := 2) rfl ?_)
    dsimp only [List.set_cons_zero, List.set_cons_succ]
    exact r_ret (evd_tup (ea_cons (evd_at rfl) (ea_cons (evd_at rfl) ea_nil)) (by simp)) k
theorem ev_sums {r : List (Int × Int)} (ha : EvD K ta δ (eRoad r)) (ok : RoadOk r) : EvD K (tCall (sp_sums K) [] E0 (tCons ta tNil)) δ (eSums r) := evd_call (ea_cons ha ea_nil) ⟨r, rfl, ok, rfl⟩
theorem dif_big {a b : Int} (ha : a.natAbs < 2 ^ 400) (hb : b.natAbs < 2 ^ 400) : (a - b).natAbs < 2 ^ 1000 := by
  have h1 : (a - b).natAbs ≤ a.natAbs + b.natAbs := by omega
  have h2 : (2 : Nat) ^ 400 + 2 ^ 400 ≤ 2 ^ 1000 := by decide +kernel
  omega
theorem run_carried : ∀ ds d, R_carried ds d → ∀ B D, RtD K B D d → (d = .none → ∀ δ, Nx K B D δ) → RunS K B (t_carried K) D (ds.map Sl.d ++ List.replicate (9 - ds.length) Sl.no) := by
  rintro _ _ ⟨r, f, e, p, rfl, h1, h2, h3, ok, rfl⟩ B D k _
  show RunS K B (t_carried K) D [.d (eRoad r), .d (eSums r), .d (.int f), .d (.int e), .d (.int p), .no, .no, .no, .no]
  have hn := ok.len
  refine r_setT (evd_at rfl) (tg_tup (tgs_cons tg_name (tgs_cons tg_name tgs_nil)) rfl) ?_
  dsimp only [List.set_cons_zero, List.set_cons_succ]
  refine r_set (ev_xs (evl_d (evd_at rfl)) (evd_at rfl) (by omega)) ?_
  dsimp only [List.set_cons_zero, List.set_cons_succ]
  refine r_set (evd_sub (evd_mulW (evd_at rfl) (evd_sub (ev_pM (evl_d (evd_at rfl)) (evd_at rfl) (by omega)) (ev_pM (evl_d (evd_at rfl)) (evd_at rfl) (by omega))) (big_mul (up_big (xs_big ok p)) (dif_big (sM_big ok (by omega)) (sM_big ok (by omega))))) (evd_sub (ev_pF (evl_d (evd_at rfl)) (evd_at rfl) (by omega)) (ev_pF (evl_d (evd_at rfl)) (evd_at rfl) (by omega)))) ?_
  dsimp only [List.set_cons_zero, List.set_cons_succ]
  refine r_ret (evd_is (evd_sub (evd_add (evd_at rfl) (evd_sub (ev_pF (evl_d (evd_at rfl)) (evd_at rfl) (by omega)) (ev_pF (evl_d (evd_at rfl)) (evd_at rfl) (by omega)))) (evd_mulW (evd_at rfl) (evd_sub (ev_pM (evl_d (evd_at rfl)) (evd_at rfl) (by omega)) (ev_pM (evl_d (evd_at rfl)) (evd_at rfl) (by omega))) (big_mul (up_big (xs_big ok p)) (dif_big (sM_big ok (by omega)) (sM_big ok (by omega)))))) ?_) k
  rw [cst_carried ok h1 h2 h3]
theorem ev_carried {r : List (Int × Int)} {t1 t2 t3 t4 t5 : TE} {f e p : Nat} (ha : EvD K t1 δ (eRoad r)) (hb : EvD K t2 δ (eSums r)) (hc : EvD K t3 δ (.int (f : Int))) (hd : EvD K t4 δ (.int (e : Int))) (he : EvD K t5 δ (.int (p : Int))) (ok : RoadOk r) (h1 : f ≤ p) (h2 : p < e) (h3 : e ≤ r.length) :
    EvD K (tCall (sp_carried K) [] E0 (tCons t1 (tCons t2 (tCons t3 (tCons t4 (tCons t5 tNil)))))) δ (.int (cst r f e p)) :=
  evd_call (ea_cons ha (ea_cons hb (ea_cons hc (ea_cons hd (ea_cons he ea_nil))))) ⟨r, f, e, p, rfl, h1, h2, h3, ok, rfl⟩
end
end Ph

set_option Elab.async false
set_option linter.all false
set_option maxRecDepth 100000
set_option maxHeartbeats 2000000
namespace Ph
open PySem PySem.Spec L2
section
variable {K : PySem.W.Frag} {δ : List Sl} {ta tb tc td te : TE} {d e f : PyData}
local macro_rules | `(tactic| walk_at "wk") => `(tactic| first | exact WkL.nil | (refine' WkL.same ?_; walk_at "wk") | (refine' WkL.drop ?_; walk_at "wk"))
/-- the pointer of one turn -/
theorem mid_turn {r : List (Int × Int)} (ok : RoadOk r) (f j : Nat) : mAdv r f (f + 1 + j) (mid r f (f + j)) = mid r f (f + 1 + j) := by
  by_cases h : j = 0
  · subst h
    have : mid r f (f + 0) = f := by
      unfold mid
      exact mAdv_stop (fun z => absurd z.1 (by omega))
    rw [this]; rfl
  · have := mid_next ok (f := f) (e := f + j) (by omega)
    have e : f + 1 + j = f + j + 1 := by omega
    rw [e]; exact this
theorem mid_lt' (r : List (Int × Int)) (f j : Nat) : f ≤ mid r f (f + j) ∧ mid r f (f + j) < f + 1 + j := by
  refine ⟨mid_ge r f _, ?_⟩
  by_cases h : j = 0
  · subst h
    have : mid r f (f + 0) = f := by
      unfold mid
      exact mAdv_stop (fun z => absurd z.1 (by omega))
    rw [this]; omega
  · have := mid_lt r (f := f) (e := f + j) (by omega)
    omega
theorem run_middles : ∀ ds d, R_middles ds d → ∀ B D, RtN K B D d → RunS K B (t_middles K) D (ds.map Sl.d ++ List.replicate (8 - ds.length) Sl.no) := by
  rintro _ _ ⟨r, rfl, ok, rfl⟩ B D k
  show RunS K B (t_middles K) D [.d (eRoad r), .no, .no, .no, .no, .no, .no, .no]
  have hn := ok.len
  refine r_set (ev_sums (evd_at rfl) ok) ?_
  dsimp only [List.set_cons_zero, List.set_cons_succ]
  refine r_set (d := eInts (pM r r.length)) (evd_ixt0 (evd_at rfl)) ?_
  refine r_setN (ds := ((List.range 0).map (rowOf r)).map eRow) (evn_lst ea_nil (by simp)) fun p => ?_
  dsimp only [List.set_cons_zero, List.set_cons_succ]
  refine r_for (evi_range1 (evd_lenm (xs := r) (en := eHs) (evl_d (evd_at rfl))) (by omega)) (fun i δ => δ = [.d (eRoad r), .d (eSums r), .d (eInts (pM r r.length)), .m p (((List.range i).map (rowOf r)).map eRow), .no, .no, .no, .no]) ⟨_, by walk_at "wk", rfl⟩ (fun _ _ _ _ _ _ _ _ _ => trivial) (fun Gb hb i δ' hi hP => ?_) (fun δ' hP => ?_)
  · subst hP
    refine ⟨_, tg_name, ?_⟩
    dsimp only [List.set_cons_zero, List.set_cons_succ]
    refine r_setN (ds := ((List.range 0).map (cell r i)).map eHs) (evn_lst ea_nil (by simp)) fun q => ?_
    refine r_set (d := .int ((mid r i (i + 0) : Nat) : Int)) (evd_is (evd_at rfl) ?_) ?_
    · have : mid r i (i + 0) = i := by
        unfold mid
        exact mAdv_stop (fun z => absurd z.1 (by omega))
      rw [this]
    dsimp only [List.set_cons_zero, List.set_cons_succ]
    have hr := evi_range2 (K := K) (δ := [.d (eRoad r), .d (eSums r), .d (eInts (pM r r.length)), .m p (((List.range i).map (rowOf r)).map eRow), .d (.int (i : Int)), .m q (((List.range 0).map (cell r i)).map eHs), .d (.int ((mid r i (i + 0) : Nat) : Int)), .no]) (evd_add (evd_at (n := 4) rfl) (evd_int (n := 1))) (evd_add (evd_lenm (xs := r) (en := eHs) (evl_d (evd_at (n := 0) rfl))) (evd_int (n := 1))) (by omega) (by omega) (by omega) (by omega)
    have ez : ((r.length : Int) + 1 - ((i : Int) + 1)).toNat = r.length - i := by omega
    rw [ez] at hr
    refine r_for (EvI.congr (Y' := fun j => .int ((i + 1 + j : Nat) : Int)) hr (fun j _ => by rw [Int.natCast_add, Int.natCast_add]; rfl)) (fun j δ => δ = [.d (eRoad r), .d (eSums r), .d (eInts (pM r r.length)), .m p (((List.range i).map (rowOf r)).map eRow), .d (.int (i : Int)), .m q (((List.range j).map (cell r i)).map eHs), .d (.int ((mid r i (i + j) : Nat) : Int)), .no]) ⟨_, by walk_at "wk", rfl⟩ (fun _ _ _ _ _ _ _ _ _ => trivial) (fun Gb2 hb2 j δ' hj hP => ?_) (fun δ' hP => ?_)
    · subst hP
      refine ⟨_, tg_name, ?_⟩
      dsimp only [List.set_cons_zero, List.set_cons_succ]
      have ht := mid_turn ok i j
      obtain ⟨g1, g2⟩ := mid_lt' r i j
      generalize mid r i (i + j) = b0 at *
      refine r_while (fun m δ => ∃ b, m = (i + 1 + j) - b ∧ mAdv r i (i + 1 + j) b = mid r i (i + 1 + j) ∧ i ≤ b ∧ b < i + 1 + j ∧ δ = [.d (eRoad r), .d (eSums r), .d (eInts (pM r r.length)), .m p (((List.range i).map (rowOf r)).map eRow), .d (.int (i : Int)), .m q (((List.range j).map (cell r i)).map eHs), .d (.int (b : Int)), .d (.int ((i + 1 + j : Nat) : Int))]) _ ⟨_, WkL.refl _, b0, rfl, ht, g1, g2, rfl⟩ ?_
      rintro m _ ⟨b, rfl, hb1, hb2, hb3, rfl⟩
      refine ⟨_, evt_test (evd_lt (evd_mul evd_int (evd_sub (ev_pM (r := r) (n := r.length) (k := b + 1) (evl_d (evd_at rfl)) (evd_is (evd_add (evd_at rfl) evd_int) rfl) (by omega)) (ev_pM (r := r) (n := r.length) (evl_d (evd_at rfl)) (evd_at rfl) (by omega))) (.inl ⟨by decide, by decide⟩)) (evd_sub (ev_pM (r := r) (n := r.length) (evl_d (evd_at rfl)) (evd_at rfl) (by omega)) (ev_pM (r := r) (n := r.length) (evl_d (evd_at rfl)) (evd_at rfl) (by omega)))), fun hc => ?_, fun hc => ?_⟩
      · have hc := of_decide_eq_true hc
        have hlt : b + 1 < i + 1 + j := by
          by_cases z : b + 1 = i + 1 + j
          · rw [z] at hc
            have := sM_mono ok (show i ≤ i + 1 + j by omega)
            omega
          · omega
        refine r_set (d := .int ((b + 1 : Nat) : Int)) (evd_is (evd_add (evd_at rfl) evd_int) rfl) ?_
        dsimp only [List.set_cons_zero, List.set_cons_succ]
        refine r_next (nx_inv (WkL.refl _) ⟨_, rfl, _, ?_, b + 1, rfl, ?_, by omega, by omega, rfl⟩)
        · omega
        · rw [← mAdv_go ⟨hlt, hc⟩]; exact hb1
      · have hc := of_decide_eq_false hc
        have hbm : mid r i (i + 1 + j) = b := by
          rw [← hb1]
          exact mAdv_stop fun z => hc z.2
        refine r_app rfl (d := eHs (cell r i j)) (evd_is (evd_tup (ea_cons (evd_at rfl) (ea_cons (ev_carried (evd_at rfl) (evd_at rfl) (evd_at rfl) (evd_at rfl) (evd_at rfl) ok hb2 hb3 (by omega)) ea_nil)) (by simp)) ?_) (by rw [List.length_map, List.length_map, List.length_range]; omega) ?_
        · unfold cell wv
          rw [hbm]
        dsimp only [List.set_cons_zero, List.set_cons_succ]
        refine r_next (nx_inv ?_ ⟨_, rfl, rfl⟩)
        have e1 : i + (j + 1) = i + 1 + j := by omega
        rw [List.range_succ, List.map_append, List.map_append, e1, hbm]
        walk_at "wk"
    · subst hP
      refine r_freeze (i := 5) rfl ?_
      dsimp only [List.set_cons_zero, List.set_cons_succ]
      refine r_app rfl (evd_at (d := eRow (rowOf r i)) rfl) (by rw [List.length_map, List.length_map, List.length_range]; omega) ?_
      dsimp only [List.set_cons_zero, List.set_cons_succ]
      refine r_next (nx_inv ?_ ⟨_, rfl, rfl⟩)
      rw [List.range_succ, List.map_append, List.map_append]
      walk_at "wk"
  · subst hP
    exact r_retM rfl k
theorem ev_middles {r : List (Int × Int)} (ha : EvD K ta δ (eRoad r)) (ok : RoadOk r) : EvN K (tCall (sp_middles K) [] E0 (tCons ta tNil)) δ ((midT r).map eRow) := evn_call (ea_cons ha ea_nil) ⟨r, rfl, ok, rfl⟩
theorem wv_mem {r : List (Int × Int)} (ok : RoadOk r) {f e : Nat} (h1 : f < e) (h2 : e ≤ r.length) : wv r f e ∈ (List.range (e - f)).map fun k => cst r f e (f + k) := by
  have a := mid_ge r f e
  have b := mid_lt r h1
  refine List.mem_map.mpr ⟨mid r f e - f, List.mem_range.mpr (by omega), ?_⟩
  have : f + (mid r f e - f) = mid r f e := by omega
  rw [this]; rfl
theorem wv_min {r : List (Int × Int)} (ok : RoadOk r) {f e : Nat} (h1 : f < e) (h2 : e ≤ r.length) : ∀ y ∈ (List.range (e - f)).map fun k => cst r f e (f + k), wv r f e ≤ y := by
  intro y hy
  obtain ⟨k, hk, rfl⟩ := List.mem_map.mp hy
  have := List.mem_range.mp hk
  exact wv_le ok (by omega) (by omega) h2
theorem run_one_way : ∀ ds d, R_one_way ds d → ∀ B D, RtD K B D d → (d = .none → ∀ δ, Nx K B D δ) → RunS K B (t_one_way K) D (ds.map Sl.d ++ List.replicate (5 - ds.length) Sl.no) := by
  rintro _ _ ⟨r, f, e, rfl, h1, h2, ok, rfl⟩ B D k _
  show RunS K B (t_one_way K) D [.d (eRoad r), .d (.int f), .d (.int e), .no, .no]
  have hn := ok.len
  refine r_drop (ev_asked_road (evd_at rfl) ok) (r_drop (ev_asked_stretch (evd_at rfl) (evd_at rfl) (evd_at rfl) h1 h2 hn) (r_set (ev_sums (evd_at rfl) ok) ?_))
  dsimp only [List.set_cons_zero, List.set_cons_succ]
  refine r_ret (evd_min (ns := (List.range (e - f)).map fun k => cst r f e (f + k)) (evl_is (evl_n (evn_lcR2 (f := fun k => .int (cst r f e (f + k))) (evd_at rfl) (evd_at rfl) (by omega) (by omega) fun k hk => ?_)) ?_) (wv_mem ok h1 h2) (wv_min ok h1 h2)) k
  · exact ev_carried (evd_at rfl) (evd_at rfl) (evd_at rfl) (evd_at rfl) (evd_at rfl) ok (by omega) (by omega) h2
  · rw [List.map_map]; rfl
theorem ev_one_way {r : List (Int × Int)} {f e : Nat} (ha : EvD K ta δ (eRoad r)) (hb : EvD K tb δ (.int (f : Int))) (hc : EvD K tc δ (.int (e : Int))) (ok : RoadOk r) (h1 : f < e) (h2 : e ≤ r.length) : EvD K (tCall (sp_one_way K) [] E0 (tCons ta (tCons tb (tCons tc tNil)))) δ (.int (wv r f e)) :=
  evd_call (ea_cons ha (ea_cons hb (ea_cons hc ea_nil))) ⟨r, f, e, rfl, h1, h2, ok, rfl⟩
theorem run_middle : ∀ ds d, R_middle ds d → ∀ B D, RtN K B D d → RunS K B (t_middle K) D (ds.map Sl.d ++ List.replicate (9 - ds.length) Sl.no) := by
  rintro _ _ ⟨r, f, e, rfl, h1, h2, ok, rfl⟩ B D k
  show RunS K B (t_middle K) D [.d (eRoad r), .d (.int f), .d (.int e), .no, .no, .no, .no, .no, .no]
  have hn := ok.len
  refine r_drop (ev_asked_road (evd_at rfl) ok) (r_drop (ev_asked_stretch (evd_at rfl) (evd_at rfl) (evd_at rfl) h1 h2 hn) (r_set (ev_sums (evd_at rfl) ok) ?_))
  dsimp only [List.set_cons_zero, List.set_cons_succ]
  refine r_set (d := eInts ((List.range (e - f)).map fun k => cst r f e (f + k))) (evd_is (evd_n (evn_lcR2 (f := fun k => .int (cst r f e (f + k))) (evd_at rfl) (evd_at rfl) (by omega) (by omega) fun k hk => ?_)) ?_) ?_
  · exact ev_carried (evd_at rfl) (evd_at rfl) (evd_at rfl) (evd_at rfl) (evd_at rfl) ok (by omega) (by omega) h2
  · unfold eInts; rw [List.map_map]; rfl
  dsimp only [List.set_cons_zero, List.set_cons_succ]
  refine r_set (evd_min (evl_d (evd_at rfl)) (wv_mem ok h1 h2) (wv_min ok h1 h2)) ?_
  dsimp only [List.set_cons_zero, List.set_cons_succ]
  have hl : ((List.range (e - f)).map fun k => cst r f e (f + k)).length = e - f := by rw [List.length_map, List.length_range]
  have hg : ∀ i, i < e - f → ((List.range (e - f)).map fun k => cst r f e (f + k)).getD i default = cst r f e (f + i) := fun i hi => by simp [List.getD_eq_getElem?_getD, hi]
  have hi := evi_enumm (K := K) (δ := [.d (eRoad r), .d (.int f), .d (.int e), .d (eSums r), .d (eInts ((List.range (e - f)).map fun k => cst r f e (f + k))), .no, .d (.int (wv r f e)), .no, .no]) (xs := (List.range (e - f)).map fun k => cst r f e (f + k)) (en := PyData.int) (evd_at (n := 4) rfl)
  rw [hl] at hi
  refine r_retN (evn_is (evn_lc (b := fun i => decide (isMid r f e (f + i))) (f := fun (i : Nat) => .int ((f : Int) + (i : Int))) (δi := fun (i : Nat) => [.d (eRoad r), .d (.int f), .d (.int e), .d (eSums r), .d (eInts ((List.range (e - f)).map fun k => cst r f e (f + k))), .no, .d (.int (wv r f e)), .d (.int (i : Int)), .d (.int (cst r f e (f + i)))])
    (EvI.congr (Y' := fun i => .tuple [.int (i : Int), .int (cst r f e (f + i))]) hi fun i hi => by rw [hg i hi]) (fun _ _ _ _ _ _ => trivial) (by omega) (fun i hi => tv_tup (tvs_cons (tv_name (by simp)) (tvs_cons (tv_name (by simp)) tvs_nil)) rfl) (fun i hi => evt_is (evt_test (evd_eqI (evd_at rfl) (evd_at rfl))) ?_) (fun i hi _ => evd_add (evd_at rfl) (evd_at rfl))) ?_) k
  · exact decide_eq_decide.mpr (mid_iff ok (by omega) (by omega) h2)
  · unfold midL; rw [List.map_map]; rfl
theorem ev_middle {r : List (Int × Int)} {f e : Nat} (ha : EvD K ta δ (eRoad r)) (hb : EvD K tb δ (.int (f : Int))) (hc : EvD K tc δ (.int (e : Int))) (ok : RoadOk r) (h1 : f < e) (h2 : e ≤ r.length) : EvN K (tCall (sp_middle K) [] E0 (tCons ta (tCons tb (tCons tc tNil)))) δ ((midL r f e).map .int) :=
  evn_call (ea_cons ha (ea_cons hb (ea_cons hc ea_nil))) ⟨r, f, e, rfl, h1, h2, ok, rfl⟩
end
end Ph

set_option Elab.async false
set_option linter.all false
set_option maxRecDepth 100000
set_option maxHeartbeats 2000000
namespace Ph
open PySem PySem.Spec L2
/-- the law's promise, at its start -/
theorem law_start {K : PySem.W.Frag} {H : Hp} {a : Addr} {ns : List Int} (hl : ns.length ≤ 63) (hS : SqL K H a (ns.map V.int)) : sp_law K [.ref a] H (fun v _ => v = .bl true) fun _ _ _ => False :=
  ⟨H, [eInts ns], .bool true, Same.refl _, .cons (.lst hS (ints_dpAll ns)) .nil, ⟨ns, rfl, hl, rfl⟩, fun v G' H' _ h => (sv_dp (H := H) h rfl).1⟩
section
variable {K : PySem.W.Frag} {δ : List Sl} {ta tb tc te : TE} {d e f : PyData}
theorem shp_pair {n : Nat} {a b : PyData} (ha : Shp n a) (hb : Shp n b) : Shp (n + 1) (.list [a, b]) := shp_list fun d hd => by
  simp at hd
  rcases hd with rfl | rfl
  · exact ha
  · exact hb
/-- x != x -/
theorem evd_neSame {n : Nat} {d : PyData} (ha : EvR K ta δ d) (hb : EvR K tb δ d) (hs : Shp n d) (hn : n ≤ 64) : EvD K (tOp (oNeD K) ta tb) δ (.bool false) := by
  have h := evd_neD ha hb (hs.ok hn) (hs.ok hn)
  rw [SeqAt.eqv_refl d hs.1] at h
  exact h
theorem evd_eqSame {n : Nat} {d : PyData} (ha : EvR K ta δ d) (hb : EvR K tb δ d) (hs : Shp n d) (hn : n ≤ 64) : EvD K (tOp (oEqD K) ta tb) δ (.bool true) := by
  have h := evd_eqD ha hb (hs.ok hn) (hs.ok hn)
  rw [SeqAt.eqv_refl d hs.1] at h
  exact h
theorem evt_or_ff {t u : TT} (h : EvT K t δ false) (h2 : EvT K u δ false) : EvT K (tOr t u) δ false := evt_or h fun _ => h2
/-- two hundred houses by a few: slot 1 holds the road, slot 2 is the pointer -/
theorem ev_road2 {r : List (Int × Int)} {x0 x2 : Sl} {xs : List Sl} (hne : r ≠ []) : EvD K (tLc (iRng1 (tCons (tC (.int 200)) tNil)) (gName 2) tYes (tTup (tCons (tOp oAdd (tOp oMul (tC (.int 9)) (tVar 2)) (tOp oMod (tOp (oIxT K) (tOp (oIx K) (tVar 1) (tOp oMod (tVar 2) (tCB (cLen K) (tCons (tVar 1) tNil)))) (tC (.int 0))) (tC (.int 8)))) (tCons (tOp (oIxT K) (tOp (oIx K) (tVar 1) (tOp oMod (tVar 2) (tCB (cLen K) (tCons (tVar 1) tNil)))) (tC (.int 1))) tNil))) [2]) (x0 :: .d (eRoad r) :: x2 :: xs) (eRoad (lawRoad2 r)) := by
  have hp : 0 < r.length := List.length_pos_iff.mpr hne
  refine evd_is (evd_n (evn_lcR (n := 200) (f := fun (i : Nat) => eHs (9 * (i : Int) + (r.getD (i % r.length) default).1 % 8, (r.getD (i % r.length) default).2)) evd_int (by decide) fun i hi => ?_)) ?_
  · have em : (i : Int) % (r.length : Int) = ((i % r.length : Nat) : Int) := rfl
    have hlt : i % r.length < r.length := Nat.mod_lt _ hp
    have hix : EvD K (tOp (oIx K) (tVar 1) (tOp oMod (tVar 2) (tCB (cLen K) (tCons (tVar 1) tNil)))) ((wipeD (x0 :: .d (eRoad r) :: x2 :: xs) [2]).set 2 (.d (.int (i : Int)))) (eHs (r.getD (i % r.length) default)) := by
      refine evd_is (evd_ixm (en := eHs) (evl_d (evd_at rfl)) (evd_mod (evd_at rfl) (evd_lenm (en := eHs) (evl_d (evd_at rfl))) (by omega)) ?_ ?_) ?_
      · rw [em]; omega
      · rw [em]; omega
      · rw [em, Int.toNat_natCast]
    exact evd_tup (ea_cons (evd_add (evd_mul evd_int (evd_at rfl) (.inl ⟨by decide, by decide⟩)) (evd_mod (evd_ixt0 hix) evd_int (by decide))) (ea_cons (evd_ixt1 hix) ea_nil)) (by simp)
  · unfold lawRoad2 eRoad
    rw [List.map_map]
    rfl
theorem lawRoad2_len (r : List (Int × Int)) : (lawRoad2 r).length = 200 := by unfold lawRoad2; rw [List.length_map, List.length_range]
/-- a cut of typed items -/
theorem cut_map {α : Type} {en : α → PyData} (xs : List α) (lo hi : Option Int) : cut (xs.map en) lo hi = (cut xs lo hi).map en := by
  unfold cut
  rw [List.length_map, List.map_take, List.map_drop]
theorem cut_ff {α : Type} {xs : List α} {f e : Nat} (h : f ≤ e) (h2 : e ≤ xs.length) : cut xs (some (f : Int)) (some (e : Int)) = (xs.drop f).take (e - f) := by
  have a : HT.sIx xs.length 0 (some (f : Int)) = f := by rw [HT.sIx_nat]; omega
  have b : HT.sIx xs.length xs.length (some (e : Int)) = e := by rw [HT.sIx_nat]; omega
  unfold cut
  rw [a, b]
theorem cut_to {α : Type} {xs : List α} {e : Nat} : cut xs none (some (e : Int)) = xs.take (min e xs.length) := by
  have a : HT.sIx xs.length 0 none = 0 := rfl
  have b : HT.sIx xs.length xs.length (some (e : Int)) = min e xs.length := HT.sIx_nat _ _ _
  unfold cut
  rw [a, b]
  simp
/-- [.. for a, b in a list of pairs] -/
theorem evn_lcP {xs : List (Int × Int)} {f : Int × Int → PyData} {tl : TE} {i j : Nat} (h : EvD K tl δ (eRoad xs)) (hn : xs.length ≤ 1000000) (he : ∀ x, x ∈ xs → EvD K te (((wipeD δ [i, j]).set i (.d (.int x.1))).set j (.d (.int x.2))) (f x)) :
    EvN K (tLc (iList K tl) (gTup K 2 (gCons (gName i) (gCons (gName j) gNil))) tYes te [i, j]) δ (xs.map f) := by
  have k := evn_lc (K := K) (δ := δ) (te := te) (tt := tYes) (wi := iList K tl) (g := gTup K 2 (gCons (gName i) (gCons (gName j) gNil))) (vs := [i, j]) (b := fun _ => true) (f := fun k => f (xs.getD k default)) (δi := fun k => ((wipeD δ [i, j]).set i (.d (.int (xs.getD k default).1))).set j (.d (.int (xs.getD k default).2)))
    (evi_listm (xs := xs) (en := eHs) h) (fun _ _ _ _ _ _ => trivial) hn (fun k hk => tv_tup (tvs_cons (tv_name (by simp)) (tvs_cons (tv_name (by simp)) tvs_nil)) rfl) (fun _ _ => evt_yes) (fun k hk _ => he _ (getD_mem hk))
  rw [List.filter_eq_self.mpr (fun _ _ => rfl)] at k
  refine evn_is k ?_
  refine List.ext_getElem (by simp) fun n h1 h2 => ?_
  simp at h1 h2
  simp [List.getD_eq_getElem?_getD, h2]
end
/-! sums over a stretch -/
theorem slice_eq {α : Type} [Inhabited α] {xs : List α} {f e : Nat} (h : f ≤ e) (h2 : e ≤ xs.length) : (xs.drop f).take (e - f) = (List.range (e - f)).map fun k => xs.getD (f + k) default := by
  refine List.ext_getElem (by simp; omega) fun n h1 h3 => ?_
  simp at h1 h3
  have : f + n < xs.length := by omega
  simp [List.getD_eq_getElem?_getD, this]
theorem sum_range (g : Nat → Int) : ∀ n : Nat, ((List.range n).map g).sum = sumTo g n
  | 0 => rfl
  | n + 1 => by
    rw [List.range_succ, List.map_append, List.sum_append, sum_range g n]
    simp [sumTo]
theorem sumTo_shift (g : Nat → Int) (f : Nat) : ∀ n : Nat, sumTo (fun k => g (f + k)) n = sumTo g (f + n) - sumTo g f
  | 0 => by simp [sumTo]
  | n + 1 => by
    have ih := sumTo_shift g f n
    show sumTo (fun k => g (f + k)) n + g (f + n) = sumTo g (f + n) + g (f + n) - sumTo g f
    omega
theorem slice_sum {xs : List (Int × Int)} {f e : Nat} (g : Int × Int → Int) (h : f ≤ e) (h2 : e ≤ xs.length) : (((xs.drop f).take (e - f)).map g).sum = sumTo (fun i => g (xs.getD i default)) e - sumTo (fun i => g (xs.getD i default)) f := by
  rw [slice_eq h h2, List.map_map]
  have a := sum_range (fun k => g (xs.getD (f + k) default)) (e - f)
  have b := sumTo_shift (fun i => g (xs.getD i default)) f (e - f)
  have c : f + (e - f) = e := by omega
  rw [c] at b
  rw [← b, ← a]
  rfl
end Ph

set_option Elab.async false
set_option linter.all false
set_option maxRecDepth 100000
set_option maxHeartbeats 2000000
namespace Ph
/-! ### the quadrangle rule of the one way -/
theorem sumTo_le {g g' : Nat → Int} {f : Nat} : ∀ {e : Nat}, f ≤ e → (∀ i, f ≤ i → i < e → g i ≤ g' i) → sumTo g e - sumTo g f ≤ sumTo g' e - sumTo g' f
  | 0, h, _ => by have : f = 0 := by omega
                  subst this; exact Int.le_refl _
  | e + 1, h, k => by
    by_cases z : f = e + 1
    · subst z; omega
    · have ih := sumTo_le (g := g) (g' := g') (f := f) (e := e) (by omega) fun i a b => k i a (by omega)
      have := k e (by omega) (by omega)
      show sumTo g e + g e - sumTo g f ≤ sumTo g' e + g' e - sumTo g' f
      omega
theorem mul_dist {l a b : Int} (h : 0 ≤ l) (hab : a ≤ b) : l * a ≤ l * b := Int.mul_le_mul_of_nonneg_left hab h
theorem gc_right {r : List (Int × Int)} (ok : RoadOk r) {i m m' : Nat} (h : m ≤ m') (h2 : m' ≤ i) (hi : i < r.length) : gc r m' i ≤ gc r m i := by
  have a := xs_le ok h (by omega)
  have b := xs_le ok h2 hi
  exact mul_dist (ls_nonneg ok i) (by omega)
theorem gc_left {r : List (Int × Int)} (ok : RoadOk r) {i m m' : Nat} (h : i ≤ m') (h2 : m' ≤ m) (hm : m < r.length) : gc r m' i ≤ gc r m i := by
  have a := xs_le ok h (by omega)
  have b := xs_le ok h2 hm
  exact mul_dist (ls_nonneg ok i) (by omega)
theorem cst_le {r : List (Int × Int)} {f e m m' : Nat} (h : f ≤ e) (k : ∀ i, f ≤ i → i < e → gc r m' i ≤ gc r m i) : cst r f e m' ≤ cst r f e m := sumTo_le h k
theorem monge {r : List (Int × Int)} (ok : RoadOk r) {p q s t : Nat} (h1 : p ≤ q) (h2 : q < s) (h3 : s ≤ t) (h4 : t ≤ r.length) : wv r p s + wv r q t ≤ wv r p t + wv r q s := by
  have a1 := mid_ge r p t
  have a2 := mid_lt r (f := p) (e := t) (by omega)
  have b1 := mid_ge r q s
  have b2 := mid_lt r h2
  have e1 : wv r p t = cst r p t (mid r p t) := rfl
  have e2 : wv r q s = cst r q s (mid r q s) := rfl
  generalize mid r p t = m at *
  generalize mid r q s = m' at *
  by_cases h : m ≤ m'
  · have c1 := wv_le ok (f := p) (e := s) (p := m) a1 (by omega) (by omega)
    have c2 := wv_le ok (f := q) (e := t) (p := m') b1 (by omega) h4
    have c3 := cst_le (r := r) (f := s) (e := t) (m := m) (m' := m') h3 fun i x y => gc_right ok h (by omega) (by omega)
    have d1 := cst_split r p s t m
    have d2 := cst_split r q s t m'
    omega
  · have c1 := wv_le ok (f := p) (e := s) (p := m') (by omega) b2 (by omega)
    have c2 := wv_le ok (f := q) (e := t) (p := m) (by omega) a2 h4
    have c3 := cst_le (r := r) (f := p) (e := q) (m := m) (m' := m') h1 fun i x y => gc_left ok (by omega) (by omega) (by omega)
    have d1 := cst_split r p q t m
    have d2 := cst_split r p q s m'
    omega
theorem wv_nonneg {r : List (Int × Int)} (ok : RoadOk r) (f e : Nat) (h : f ≤ e) : 0 ≤ wv r f e := by
  have := sumTo_le (g := fun _ => 0) (g' := gc r (mid r f e)) h fun i _ _ => Int.mul_nonneg (ls_nonneg ok i) (by omega)
  have z : ∀ n, sumTo (fun _ => 0) n = 0 := fun n => by
    induction n with
    | zero => rfl
    | succ n ih => show sumTo (fun _ => 0) n + 0 = 0; omega
  rw [z, z] at this
  exact this
theorem wv_one {r : List (Int × Int)} (f : Nat) : wv r f (f + 1) = 0 := by
  have : mid r f (f + 1) = f := by
    have a := mid_ge r f (f + 1)
    have b := mid_lt r (f := f) (e := f + 1) (by omega)
    omega
  unfold wv cst
  rw [this]
  show sumTo (gc r f) f + gc r f f - _ = 0
  have : gc r f f = 0 := by unfold gc; rw [Int.sub_self]; simp
  omega
/-! ### ways in stretches -/
/-- k stretches to e, at this cost -/
inductive Pth (r : List (Int × Int)) : Nat → Nat → Int → Prop where
  | zero : Pth r 0 0 0
  | go {k f e : Nat} {c : Int} : Pth r k f c → f < e → Pth r (k + 1) e (c + wv r f e)
theorem Pth.le {r : List (Int × Int)} : ∀ {k e : Nat} {c : Int}, Pth r k e c → k ≤ e
  | _, _, _, .zero => Nat.le_refl _
  | _, _, _, .go p h => by have := p.le; omega
theorem Pth.z {r : List (Int × Int)} {e : Nat} {c : Int} (p : Pth r 0 e c) : e = 0 ∧ c = 0 := by cases p; exact ⟨rfl, rfl⟩
theorem Pth.is {r : List (Int × Int)} {k e : Nat} {c c' : Int} (p : Pth r k e c) (h : c = c') : Pth r k e c' := h ▸ p
theorem swap {r : List (Int × Int)} (ok : RoadOk r) : ∀ (i : Nat) {x y : Nat} {cx cy : Int}, Pth r (i + 1) x cx → Pth r (i + 2) y cy → y ≤ x → x ≤ r.length → ∃ c1 c2, Pth r (i + 1) y c1 ∧ Pth r (i + 2) x c2 ∧ c1 + c2 ≤ cx + cy := by
  intro i
  induction i with
  | zero =>
    intro x y cx cy px py hyx hx
    cases px with
    | @go _ x' _ cx' px' hx' =>
      cases py with
      | @go _ y' _ cy' py' hy' =>
        have z := px'.z.1
        refine ⟨_, _, .go px' (show x' < y by omega), .go py' (show y' < x by omega), ?_⟩
        have := monge ok (p := x') (q := y') (s := y) (t := x) (by omega) hy' hyx hx
        omega
  | succ i ih =>
    intro x y cx cy px py hyx hx
    cases px with
    | @go _ x' _ cx' px' hx' =>
      cases py with
      | @go _ y' _ cy' py' hy' =>
        by_cases h : x' ≤ y'
        · refine ⟨_, _, .go px' (show x' < y by omega), .go py' (show y' < x by omega), ?_⟩
          have := monge ok (p := x') (q := y') (s := y) (t := x) h hy' hyx hx
          omega
        · obtain ⟨c1, c2, q1, q2, q3⟩ := ih px' py' (by omega) (by omega)
          exact ⟨_, _, .go q1 hy', .go q2 hx', by omega⟩
/-- the least way by k stretches bends one way -/
theorem bend {r : List (Int × Int)} (ok : RoadOk r) {k n : Nat} {ca cb : Int} (hn : n ≤ r.length) (pa : Pth r (k + 1) n ca) (pb : Pth r (k + 3) n cb) : ∃ c1 c2, Pth r (k + 2) n c1 ∧ Pth r (k + 2) n c2 ∧ c1 + c2 ≤ ca + cb := by
  cases pb with
  | @go _ y' _ cy' py' hy' =>
    obtain ⟨c1, c2, q1, q2, q3⟩ := swap ok k pa py' (by omega) hn
    exact ⟨_, _, .go q1 hy', q2, by omega⟩
/-! ### least of a list of pairs -/
theorem minP_mem (x : Int × Int) (xs : List (Int × Int)) : minP x xs ∈ x :: xs ∧ ∀ y ∈ x :: xs, (minP x xs).1 ≤ y.1 := by
  induction xs generalizing x with
  | nil =>
    refine ⟨List.mem_singleton_self x, fun y hy => ?_⟩
    rw [List.mem_singleton.mp hy]
    exact Int.le_refl _
  | cons z zs ih =>
    have e : minP x (z :: zs) = minP (if pairLt z x then z else x) zs := rfl
    rw [e]
    obtain ⟨a, b⟩ := ih (if pairLt z x then z else x)
    have hle : (if pairLt z x then z else x).1 ≤ x.1 ∧ (if pairLt z x then z else x).1 ≤ z.1 := by
      by_cases h : pairLt z x = true
      · rw [if_pos h]
        unfold pairLt at h
        simp at h
        omega
      · rw [if_neg h]
        unfold pairLt at h
        simp at h
        omega
    refine ⟨?_, fun y hy => ?_⟩
    · rcases List.mem_cons.mp a with h | h
      · rw [h]
        split
        · simp
        · simp
      · exact List.mem_cons_of_mem _ (List.mem_cons_of_mem _ h)
    · have b0 := b _ (List.mem_cons_self ..)
      rcases List.mem_cons.mp hy with rfl | hy
      · omega
      · rcases List.mem_cons.mp hy with rfl | hy
        · omega
        · exact b y (List.mem_cons_of_mem _ hy)
theorem minPD_mem {z : Int × Int} {xs : List (Int × Int)} (h : xs ≠ []) : minPD z xs ∈ xs ∧ ∀ y ∈ xs, (minPD z xs).1 ≤ y.1 := by
  cases xs with
  | nil => exact absurd rfl h
  | cons x xs => exact minP_mem x xs
/-! ### the layers -/
def layC (r : List (Int × Int)) (last : List (Int × Int)) (turn e : Nat) : List (Int × Int) := (List.range (e - turn)).map fun a => ((last.getD (turn + a - 1) default).1 + wv r (turn + a) e, ((turn + a : Nat) : Int))
def lay (r : List (Int × Int)) : Nat → List (Int × Int)
  | 0 => (List.range r.length).map fun j => (wv r 0 (j + 1), 0)
  | t + 1 => (List.range r.length).map fun j => minPD (0, 0) (layC r (lay r t) (t + 1) (j + 1))
theorem lay_len (r : List (Int × Int)) (t : Nat) : (lay r t).length = r.length := by
  cases t with
  | zero => unfold lay; rw [List.length_map, List.length_range]
  | succ t => unfold lay; rw [List.length_map, List.length_range]
theorem lay0_get (r : List (Int × Int)) {j : Nat} (h : j < r.length) : (lay r 0).getD j default = (wv r 0 (j + 1), 0) := by
  unfold lay
  simp [List.getD_eq_getElem?_getD, h]
theorem layS_get (r : List (Int × Int)) {t j : Nat} (h : j < r.length) : (lay r (t + 1)).getD j default = minPD (0, 0) (layC r (lay r t) (t + 1) (j + 1)) := by
  rw [lay]
  simp [List.getD_eq_getElem?_getD, h]
/-- the least way of the first e houses by k posts -/
def V (r : List (Int × Int)) (k e : Nat) : Int := ((lay r (k - 1)).getD (e - 1) default).1
/-- .. where the last stretch begins -/
def ag (r : List (Int × Int)) (k e : Nat) : Nat := ((lay r (k - 1)).getD (e - 1) default).2.toNat
theorem V_one {r : List (Int × Int)} {e : Nat} (h : 1 ≤ e) (h2 : e ≤ r.length) : V r 1 e = wv r 0 e ∧ (lay r 0).getD (e - 1) default = (wv r 0 e, 0) := by
  have := lay0_get r (j := e - 1) (by omega)
  have e1 : e - 1 + 1 = e := by omega
  rw [e1] at this
  refine ⟨?_, this⟩
  unfold V
  rw [this]
theorem V_step {r : List (Int × Int)} {k e : Nat} (hk : 1 ≤ k) (h : k < e) (h2 : e ≤ r.length) :
    (∃ f, k ≤ f ∧ f < e ∧ (lay r k).getD (e - 1) default = (V r k f + wv r f e, (f : Int)) ∧ V r (k + 1) e = V r k f + wv r f e) ∧ ∀ f, k ≤ f → f < e → V r (k + 1) e ≤ V r k f + wv r f e := by
  obtain ⟨t, rfl⟩ : ∃ t, k = t + 1 := ⟨k - 1, by omega⟩
  have hg := layS_get r (t := t) (j := e - 1) (by omega)
  have e1 : e - 1 + 1 = e := by omega
  rw [e1] at hg
  have hne : layC r (lay r t) (t + 1) e ≠ [] := by
    intro z
    have : (layC r (lay r t) (t + 1) e).length = e - (t + 1) := by unfold layC; rw [List.length_map, List.length_range]
    rw [z] at this
    simp at this
    omega
  obtain ⟨m1, m2⟩ := minPD_mem (z := (0, 0)) hne
  have mem : ∀ f, t + 1 ≤ f → f < e → (V r (t + 1) f + wv r f e, ((f : Nat) : Int)) ∈ layC r (lay r t) (t + 1) e := fun f a b => by
    refine List.mem_map.mpr ⟨f - (t + 1), List.mem_range.mpr (by omega), ?_⟩
    have e2 : t + 1 + (f - (t + 1)) = f := by omega
    rw [e2]
    rfl
  refine ⟨?_, fun f a b => ?_⟩
  · obtain ⟨a, ha, he⟩ := List.mem_map.mp m1
    have ha := List.mem_range.mp ha
    refine ⟨t + 1 + a, by omega, by omega, ?_, ?_⟩
    · rw [hg, ← he]; rfl
    · show ((lay r (t + 1)).getD (e - 1) default).1 = _
      rw [hg, ← he]; rfl
  · show ((lay r (t + 1)).getD (e - 1) default).1 ≤ _
    rw [hg]
    exact m2 _ (mem f a b)
theorem V_pth {r : List (Int × Int)} : ∀ (k : Nat) {e : Nat}, k + 1 ≤ e → e ≤ r.length → Pth r (k + 1) e (V r (k + 1) e) := by
  intro k
  induction k with
  | zero =>
    intro e h h2
    refine (Pth.go .zero (show 0 < e by omega)).is ?_
    rw [(V_one h h2).1]; omega
  | succ k ih =>
    intro e h h2
    obtain ⟨⟨f, a, b, _, d⟩, _⟩ := V_step (r := r) (k := k + 1) (e := e) (by omega) (by omega) h2
    exact (Pth.go (ih a (by omega)) b).is d.symm
theorem V_le {r : List (Int × Int)} : ∀ (k : Nat) {e : Nat} {c : Int}, Pth r (k + 1) e c → e ≤ r.length → V r (k + 1) e ≤ c := by
  intro k
  induction k with
  | zero =>
    intro e c p h
    cases p with
    | @go _ f _ c' p' hf =>
      obtain ⟨rfl, rfl⟩ := p'.z
      rw [(V_one (by omega) h).1]; omega
  | succ k ih =>
    intro e c p h
    cases p with
    | @go _ f _ c' p' hf =>
      have := p'.le
      have a := (V_step (r := r) (k := k + 1) (e := e) (by omega) (by omega) h).2 f (by omega) hf
      have b := ih p' (by omega)
      omega
theorem V_bend {r : List (Int × Int)} (ok : RoadOk r) {k n : Nat} (hn : n ≤ r.length) (h : k + 3 ≤ n) : 2 * V r (k + 2) n ≤ V r (k + 1) n + V r (k + 3) n := by
  obtain ⟨c1, c2, q1, q2, q3⟩ := bend ok hn (V_pth k (by omega) hn) (V_pth (k + 2) h hn)
  have a : V r (k + 2) n ≤ c1 := V_le (k + 1) q1 hn
  have b : V r (k + 2) n ≤ c2 := V_le (k + 1) q2 hn
  have q3' : c1 + c2 ≤ V r (k + 1) n + V r (k + 3) n := q3
  omega
theorem pth_all {r : List (Int × Int)} : ∀ n : Nat, Pth r n n 0
  | 0 => .zero
  | n + 1 => (Pth.go (pth_all n) (Nat.lt_succ_self n)).is (by rw [wv_one]; rfl)
theorem pth_nonneg {r : List (Int × Int)} (ok : RoadOk r) : ∀ {k e : Nat} {c : Int}, Pth r k e c → 0 ≤ c
  | _, _, _, .zero => Int.le_refl _
  | _, _, _, .go p h => by
    have := pth_nonneg ok p
    have := wv_nonneg ok _ _ (Nat.le_of_lt h)
    omega
theorem V_all {r : List (Int × Int)} (ok : RoadOk r) {n : Nat} (h : 1 ≤ n) (hn : n ≤ r.length) : V r n n = 0 := by
  obtain ⟨m, rfl⟩ : ∃ m, n = m + 1 := ⟨n - 1, by omega⟩
  have a := V_le m (pth_all (m + 1)) hn
  have b := pth_nonneg ok (V_pth m (Nat.le_refl _) hn)
  omega
theorem V_nonneg {r : List (Int × Int)} (ok : RoadOk r) {k n : Nat} (hk : 1 ≤ k) (h : k ≤ n) (hn : n ≤ r.length) : 0 ≤ V r k n := by
  obtain ⟨m, rfl⟩ : ∃ m, k = m + 1 := ⟨k - 1, by omega⟩
  exact pth_nonneg ok (V_pth m h hn)
/-- falls grow less -/
theorem V_falls {r : List (Int × Int)} (ok : RoadOk r) {n : Nat} (hn : n ≤ r.length) {a : Nat} (ha : 1 ≤ a) : ∀ (d : Nat), a + d + 1 ≤ n → V r (a + d) n - V r (a + d + 1) n ≤ V r a n - V r (a + 1) n
  | 0, _ => Int.le_refl _
  | d + 1, h => by
    have ih := V_falls ok hn ha d (by omega)
    obtain ⟨k, hk⟩ : ∃ k, a + d = k + 1 := ⟨a + d - 1, by omega⟩
    have b := V_bend ok (k := k) hn (by omega)
    have e1 : a + (d + 1) = k + 2 := by omega
    rw [e1]
    have e2 : k + 2 + 1 = k + 3 := rfl
    rw [hk] at ih
    have e3 : k + 1 + 1 = k + 2 := rfl
    rw [e3] at ih
    rw [e2]
    omega
/-- the fee that keeps so many posts: what one post more saves -/
def feeOf (r : List (Int × Int)) (many : Nat) : Int := if many < r.length then V r many r.length - V r (many + 1) r.length else 0
theorem fee_up {r : List (Int × Int)} (ok : RoadOk r) {m : Nat} (hm : 1 ≤ m) (hmn : m < r.length) : ∀ d : Nat, m + d ≤ r.length → V r m r.length ≤ V r (m + d) r.length + (d : Int) * feeOf r m
  | 0, _ => by simp
  | d + 1, h => by
    have ih := fee_up ok hm hmn d (by omega)
    have f := V_falls ok (Nat.le_refl _) hm d (by omega)
    have e : feeOf r m = V r m r.length - V r (m + 1) r.length := by unfold feeOf; rw [if_pos hmn]
    rw [← e] at f
    have e2 : ((d + 1 : Nat) : Int) * feeOf r m = (d : Int) * feeOf r m + feeOf r m := by rw [Int.natCast_add, Int.add_mul]; simp
    rw [e2]
    have e3 : m + (d + 1) = m + d + 1 := rfl
    rw [e3]
    omega
theorem fee_dn {r : List (Int × Int)} (ok : RoadOk r) {m : Nat} (hmn : m ≤ r.length) : ∀ d : Nat, d < m → V r m r.length + (d : Int) * feeOf r m ≤ V r (m - d) r.length
  | 0, _ => by simp
  | d + 1, h => by
    have ih := fee_dn ok hmn d (by omega)
    have e2 : ((d + 1 : Nat) : Int) * feeOf r m = (d : Int) * feeOf r m + feeOf r m := by rw [Int.natCast_add, Int.add_mul]; simp
    rw [e2]
    have e3 : m - d = m - (d + 1) + 1 := by omega
    rw [e3] at ih
    have key : feeOf r m ≤ V r (m - (d + 1)) r.length - V r (m - (d + 1) + 1) r.length := by
      unfold feeOf
      split
      · rename_i hlt
        have f := V_falls ok (Nat.le_refl r.length) (a := m - (d + 1)) (by omega) (d + 1) (by omega)
        have e4 : m - (d + 1) + (d + 1) = m := by omega
        rw [e4] at f
        exact f
      · have hm : m = r.length := by omega
        -- the fall ahead is no less than the last one, and that is no less than nought
        have f := V_falls ok (Nat.le_refl r.length) (a := m - (d + 1)) (by omega) d (by omega)
        have e4 : m - (d + 1) + d + 1 = m := by omega
        have e5 : m - (d + 1) + d = m - 1 := by omega
        rw [e4, e5, hm, V_all ok (by omega) (Nat.le_refl _)] at f
        have g := V_nonneg ok (k := r.length - 1) (n := r.length) (by omega) (by omega) (Nat.le_refl _)
        rw [hm]
        omega
    omega
/-- so many posts are the best ones with the fee -/
theorem fee_best {r : List (Int × Int)} (ok : RoadOk r) {m k : Nat} (hm : 1 ≤ m) (hmn : m ≤ r.length) (hk : 1 ≤ k) (hkn : k ≤ r.length) : V r m r.length + (m : Int) * feeOf r m ≤ V r k r.length + (k : Int) * feeOf r m := by
  by_cases h : m ≤ k
  · by_cases z : m = k
    · subst z; exact Int.le_refl _
    · have a := fee_up ok hm (show m < r.length by omega) (k - m) (by omega)
      have e : m + (k - m) = k := by omega
      rw [e] at a
      have e2 : ((k - m : Nat) : Int) = (k : Int) - (m : Int) := by omega
      rw [e2, Int.sub_mul] at a
      omega
  · have a := fee_dn ok hmn (m - k) (by omega)
    have e : m - (m - k) = k := by omega
    rw [e] at a
    have e2 : ((m - k : Nat) : Int) = (m : Int) - (k : Int) := by omega
    rw [e2, Int.sub_mul] at a
    omega
end Ph

set_option Elab.async false
set_option linter.all false
set_option maxRecDepth 100000
set_option maxHeartbeats 2000000
namespace Ph
/-! ### posts of stretches -/
/-- stretches and their middles -/
inductive Cut (r : List (Int × Int)) : Nat → Nat → Int → List Nat → Prop where
  | zero : Cut r 0 0 0 []
  | go {k f e : Nat} {c : Int} {ps : List Nat} : Cut r k f c ps → f < e → Cut r (k + 1) e (c + wv r f e) (ps ++ [mid r f e])
theorem Cut.pth {r : List (Int × Int)} : ∀ {k e : Nat} {c : Int} {ps : List Nat}, Cut r k e c ps → Pth r k e c
  | _, _, _, _, .zero => .zero
  | _, _, _, _, .go p h => .go p.pth h
/-- rising posts, all ahead of e -/
inductive Ris : Nat → List Nat → Prop where
  | nil {e : Nat} : Ris e []
  | snoc {f e p : Nat} {ps : List Nat} : Ris f ps → f ≤ p → p < e → Ris e (ps ++ [p])
theorem Cut.ris {r : List (Int × Int)} : ∀ {k e : Nat} {c : Int} {ps : List Nat}, Cut r k e c ps → Ris e ps ∧ ps.length = k
  | _, _, _, _, .zero => ⟨.nil, rfl⟩
  | _, _, _, _, .go p h => ⟨.snoc p.ris.1 (mid_ge r _ _) (mid_lt r h), by rw [List.length_append, p.ris.2]; rfl⟩
theorem Ris.lt : ∀ {e : Nat} {ps : List Nat}, Ris e ps → ∀ p ∈ ps, p < e
  | _, _, .nil, _, h => nomatch h
  | _, _, .snoc a h1 h2, p, h => by
    rcases List.mem_append.mp h with h | h
    · have := a.lt p h; omega
    · rw [List.mem_singleton.mp h]; exact h2
/-- how far a house is from a post -/
def dst (r : List (Int × Int)) (i p : Nat) : Int := ((xs r i - xs r p).natAbs : Int)
def wy (r : List (Int × Int)) (D : Nat → Int) (e : Nat) : Int := sumTo (fun i => ls r i * D i) e
theorem Cut.up {r : List (Int × Int)} (ok : RoadOk r) {D : Nat → Int} : ∀ {k e : Nat} {c : Int} {ps : List Nat}, Cut r k e c ps → e ≤ r.length → (∀ i, i < e → ∀ p ∈ ps, D i ≤ dst r i p) → wy r D e ≤ c
  | _, _, _, _, .zero, _, _ => Int.le_refl _
  | _, _, _, _, .go (f := f) (e := e) (ps := ps) p h, hn, hD => by
    have ih := p.up ok (D := D) (by omega) fun i hi q hq => hD i (by omega) q (List.mem_append_left _ hq)
    have s : wy r D e - wy r D f ≤ cst r f e (mid r f e) := sumTo_le (Nat.le_of_lt h) fun i h1 h2 => mul_dist (ls_nonneg ok i) (hD i h2 _ (List.mem_append_right _ (List.mem_singleton_self _)))
    have : wv r f e = cst r f e (mid r f e) := rfl
    omega
theorem first_at (P : Nat → Prop) [DecidablePred P] : ∀ (k a : Nat), P (a + k) → ∃ f, a ≤ f ∧ f ≤ a + k ∧ P f ∧ ∀ i, a ≤ i → i < f → ¬ P i
  | 0, a, h => ⟨a, Nat.le_refl _, Nat.le_refl _, h, fun i h1 h2 => by omega⟩
  | k + 1, a, h => by
    by_cases z : P a
    · exact ⟨a, Nat.le_refl _, by omega, z, fun i h1 h2 => by omega⟩
    · obtain ⟨f, h1, h2, h3, h4⟩ := first_at P k (a + 1) (by have : a + 1 + k = a + (k + 1) := by omega
                                                             rw [this]; exact h)
      refine ⟨f, by omega, by omega, h3, fun i a1 a2 => ?_⟩
      by_cases e : i = a
      · rw [e]; exact z
      · exact h4 i (by omega) a2
/-- D is how far the nearest post is -/
def IsD (r : List (Int × Int)) (ps : List Nat) (e : Nat) (D : Nat → Int) : Prop := ∀ i, i < e → (∃ p ∈ ps, D i = dst r i p) ∧ ∀ p ∈ ps, D i ≤ dst r i p
theorem isD_down {r : List (Int × Int)} (ok : RoadOk r) {D : Nat → Int} : ∀ (n : Nat) {e : Nat} {ps : List Nat}, Ris e ps → ps.length = n + 1 → e ≤ r.length → IsD r ps e D → ∃ c, Pth r (n + 1) e c ∧ c ≤ wy r D e := by
  intro n
  induction n with
  | zero =>
    intro e ps ri hl hn hD
    cases ri with
    | nil => cases hl
    | @snoc f0 _ p qs ri h1 h2 =>
      have hq : qs = [] := by
        rw [List.length_append] at hl
        exact List.length_eq_zero_iff.mp (by simp at hl; simpa using hl)
      subst hq
      refine ⟨_, (Pth.go .zero (show 0 < e by omega)), ?_⟩
      have a := wv_le ok (f := 0) (e := e) (p := p) (by omega) h2 hn
      have b : wy r D e - wy r D 0 = cst r 0 e p := by
        refine Int.le_antisymm (sumTo_le (Nat.zero_le _) fun i _ hi => mul_dist (ls_nonneg ok i) ((hD i hi).2 p (by simp))) (sumTo_le (Nat.zero_le _) fun i _ hi => mul_dist (ls_nonneg ok i) ?_)
        obtain ⟨⟨q, hq, e1⟩, _⟩ := hD i hi
        simp at hq
        rw [e1, hq]
        exact Int.le_refl _
      have z : wy r D 0 = 0 := rfl
      omega
  | succ n ih =>
    intro e ps ri hl hn hD
    cases ri with
    | nil => cases hl
    | @snoc f0 _ p qs ri h1 h2 =>
      have hql : qs.length = n + 1 := by
        rw [List.length_append] at hl
        simpa using hl
      cases ri with
      | nil => cases hql
      | @snoc f1 _ p' rs ri2 k1 k2 =>
        have hle : ∀ q ∈ rs ++ [p'], q ≤ p' := by
          intro q hq
          rcases List.mem_append.mp hq with z | z
          · have := ri2.lt q z
            omega
          · rw [List.mem_singleton.mp z]
            exact Nat.le_refl _
        have hxp : xs r p' < xs r p := xs_lt ok (by omega) (by omega)
        obtain ⟨f, g1, g2, f3, f4⟩ := first_at (fun i => 2 * xs r i ≥ xs r p' + xs r p) (p - (p' + 1)) (p' + 1) (by
          have e1 : p' + 1 + (p - (p' + 1)) = p := by omega
          rw [e1]; omega)
        -- behind f the last post is the nearest
        have far : ∀ i, f ≤ i → i < e → ∀ q ∈ rs ++ [p'], dst r i p ≤ dst r i q := by
          intro i a b q hq
          have x1 := xs_le ok a (by omega)
          have x2 := xs_le ok (hle q hq) (by omega)
          have x3 := xs_lt ok (show p' < i by omega) (by omega)
          unfold dst
          omega
        -- ahead of f it is not needed
        have near : ∀ i, i < f → dst r i p' ≤ dst r i p := by
          intro i a
          unfold dst
          by_cases z : i ≤ p'
          · have x1 := xs_le ok z (by omega)
            omega
          · have := f4 i (by omega) a
            have x1 := xs_lt ok (show p' < i by omega) (by omega)
            omega
        have hD1 : IsD r (rs ++ [p']) f D := by
          intro i hi
          obtain ⟨⟨q, hq, e1⟩, h4⟩ := hD i (by omega)
          refine ⟨?_, fun q hq => h4 q (List.mem_append_left _ hq)⟩
          rcases List.mem_append.mp hq with z | z
          · exact ⟨q, z, e1⟩
          · rw [List.mem_singleton.mp z] at e1
            refine ⟨p', by simp, ?_⟩
            have a := near i hi
            have b := h4 p' (by simp)
            omega
        obtain ⟨c, c1, c2⟩ := ih (.snoc ri2 k1 (show p' < f by omega)) hql (by omega) hD1
        refine ⟨_, Pth.go c1 (show f < e by omega), ?_⟩
        have a := wv_le ok (f := f) (e := e) (p := p) (by omega) h2 hn
        have b : cst r f e p ≤ wy r D e - wy r D f := by
          refine sumTo_le (show f ≤ e by omega) fun i x y => mul_dist (ls_nonneg ok i) ?_
          obtain ⟨⟨q, hq, e1⟩, _⟩ := hD i y
          rcases List.mem_append.mp hq with z | z
          · have := far i x y q z
            unfold dst at this e1
            omega
          · rw [List.mem_singleton.mp z] at e1
            unfold dst at e1
            omega
        omega
/-- posts by stretches have the least way of so many posts, when the stretches have -/
theorem way_least {r : List (Int × Int)} (ok : RoadOk r) {D : Nat → Int} {k : Nat} {c : Int} {ps : List Nat} (hc : Cut r (k + 1) r.length c ps) (hm : ∀ c', Pth r (k + 1) r.length c' → c ≤ c') (hD : IsD r ps r.length D) : wy r D r.length = c := by
  have a := hc.up ok (Nat.le_refl _) fun i hi p hp => (hD i hi).2 p hp
  obtain ⟨c', h1, h2⟩ := isD_down ok k hc.ris.1 hc.ris.2 (Nat.le_refl _) hD
  have := hm c' h1
  omega
/-! ### the posts of the layers -/
def pb (r : List (Int × Int)) : Nat → Nat → List Nat
  | 0, _ => []
  | k + 1, e => pb r k (ag r (k + 1) e) ++ [mid r (ag r (k + 1) e) e]
theorem pb_cut {r : List (Int × Int)} : ∀ (k : Nat) {e : Nat}, k + 1 ≤ e → e ≤ r.length → Cut r (k + 1) e (V r (k + 1) e) (pb r (k + 1) e) := by
  intro k
  induction k with
  | zero =>
    intro e h h2
    have hv := V_one h h2
    have ha : ag r 1 e = 0 := by
      unfold ag
      show ((lay r 0).getD (e - 1) default).2.toNat = 0
      rw [hv.2]; rfl
    have := Cut.go (r := r) (e := e) .zero (show 0 < e by omega)
    rw [Int.zero_add, ← hv.1] at this
    show Cut r 1 e _ (pb r 0 (ag r 1 e) ++ [mid r (ag r 1 e) e])
    rw [ha]
    exact this
  | succ k ih =>
    intro e h h2
    obtain ⟨⟨f, a, b, c, d⟩, _⟩ := V_step (r := r) (k := k + 1) (e := e) (by omega) (by omega) h2
    have ha : ag r (k + 2) e = f := by
      unfold ag
      show ((lay r (k + 1)).getD (e - 1) default).2.toNat = f
      rw [c]; simp
    have := Cut.go (ih a (by omega)) b
    rw [← d] at this
    show Cut r (k + 2) e _ (pb r (k + 1) (ag r (k + 2) e) ++ [mid r (ag r (k + 2) e) e])
    rw [ha]
    exact this
theorem pb_way {r : List (Int × Int)} (ok : RoadOk r) {D : Nat → Int} {k : Nat} (hk : 1 ≤ k) (hn : k ≤ r.length) (hD : IsD r (pb r k r.length) r.length D) : wy r D r.length = V r k r.length := by
  obtain ⟨m, rfl⟩ : ∃ m, k = m + 1 := ⟨k - 1, by omega⟩
  exact way_least ok (pb_cut m hn (Nat.le_refl _)) (fun c h => V_le m h (Nat.le_refl _)) hD
/-! ### bounds -/
def ledC (r : List (Int × Int)) (found : List (Int × Int)) (e : Nat) : List (Int × Int) := (List.range e).map fun f => ((found.getD f default).1 + wv r f e, (f : Int))
def ledStep (r : List (Int × Int)) (fee : Int) (found : List (Int × Int)) (e : Nat) : Int × Int := ((minPD (0, 0) (ledC r found e)).1 + fee, (minPD (0, 0) (ledC r found e)).2)
def ledL (r : List (Int × Int)) (fee : Int) : Nat → List (Int × Int)
  | 0 => [(0, 0)]
  | e + 1 => ledL r fee e ++ [ledStep r fee (ledL r fee e) (e + 1)]
theorem ledL_len (r : List (Int × Int)) (fee : Int) : ∀ e : Nat, (ledL r fee e).length = e + 1
  | 0 => rfl
  | e + 1 => by rw [ledL, List.length_append, ledL_len r fee e]; rfl
def bd (r : List (Int × Int)) (fee : Int) (e : Nat) : Int := ((ledL r fee e).getD e default).1
def bg (r : List (Int × Int)) (fee : Int) (e : Nat) : Nat := ((ledL r fee e).getD e default).2.toNat
theorem ledL_get (r : List (Int × Int)) (fee : Int) {e : Nat} : ∀ {m : Nat}, e ≤ m → (ledL r fee m).getD e default = (ledL r fee e).getD e default
  | 0, h => by have : e = 0 := by omega
               rw [this]
  | m + 1, h => by
    by_cases z : e = m + 1
    · rw [z]
    · have ih := ledL_get r fee (e := e) (m := m) (by omega)
      rw [← ih, ledL, List.getD_eq_getElem?_getD, List.getElem?_append_left (by rw [ledL_len]; omega), ← List.getD_eq_getElem?_getD]
theorem ledL_last (r : List (Int × Int)) (fee : Int) (e : Nat) : (ledL r fee (e + 1)).getD (e + 1) default = ledStep r fee (ledL r fee e) (e + 1) := by
  rw [ledL, List.getD_eq_getElem?_getD, List.getElem?_append_right (by rw [ledL_len]; omega), ledL_len]
  simp
theorem bd_zero (r : List (Int × Int)) (fee : Int) : bd r fee 0 = 0 := rfl
theorem bd_step (r : List (Int × Int)) (fee : Int) {e : Nat} (h : 1 ≤ e) : (∃ f, f < e ∧ bg r fee e = f ∧ bd r fee e = bd r fee f + wv r f e + fee ∧ (ledL r fee e).getD e default = (bd r fee e, (f : Int))) ∧ ∀ f, f < e → bd r fee e ≤ bd r fee f + wv r f e + fee := by
  obtain ⟨m, rfl⟩ : ∃ m, e = m + 1 := ⟨e - 1, by omega⟩
  have hg := ledL_last r fee m
  have hne : ledC r (ledL r fee m) (m + 1) ≠ [] := by
    intro z
    have : (ledC r (ledL r fee m) (m + 1)).length = m + 1 := by unfold ledC; rw [List.length_map, List.length_range]
    rw [z] at this
    cases this
  obtain ⟨m1, m2⟩ := minPD_mem (z := (0, 0)) hne
  have mem : ∀ f, f < m + 1 → (bd r fee f + wv r f (m + 1), (f : Int)) ∈ ledC r (ledL r fee m) (m + 1) := fun f a => by
    refine List.mem_map.mpr ⟨f, List.mem_range.mpr a, ?_⟩
    unfold bd
    rw [ledL_get r fee (show f ≤ m by omega)]
  refine ⟨?_, fun f a => ?_⟩
  · obtain ⟨f, hf, he⟩ := List.mem_map.mp m1
    have hf := List.mem_range.mp hf
    rw [ledL_get r fee (show f ≤ m by omega)] at he
    have e1 : (ledL r fee (m + 1)).getD (m + 1) default = (bd r fee f + wv r f (m + 1) + fee, (f : Int)) := by
      rw [hg]; unfold ledStep; rw [← he]; rfl
    refine ⟨f, hf, ?_, ?_, ?_⟩
    · unfold bg; rw [e1]; simp
    · show ((ledL r fee (m + 1)).getD (m + 1) default).1 = _
      rw [e1]
    · rw [e1]
      show _ = (((ledL r fee (m + 1)).getD (m + 1) default).1, (f : Int))
      rw [e1]
  · show ((ledL r fee (m + 1)).getD (m + 1) default).1 ≤ _
    rw [hg]
    have := m2 _ (mem f a)
    show (minPD (0, 0) (ledC r (ledL r fee m) (m + 1))).1 + fee ≤ _
    simp only at this
    omega
theorem bd_le {r : List (Int × Int)} {fee : Int} : ∀ {k e : Nat} {c : Int}, Pth r k e c → bd r fee e ≤ c + (k : Int) * fee
  | _, _, _, .zero => by rw [bd_zero]; simp
  | _, _, _, .go (k := k) (f := f) (e := e) p h => by
    have ih := bd_le (fee := fee) p
    have a := (bd_step r fee (e := e) (by omega)).2 f h
    have e2 : ((k + 1 : Nat) : Int) * fee = (k : Int) * fee + fee := by rw [Int.natCast_add, Int.add_mul]; simp
    rw [e2]
    omega
/-- the posts that the bounds come by -/
def qb (r : List (Int × Int)) (fee : Int) (e : Nat) : List Nat :=
  if h : 0 < e ∧ bg r fee e < e then qb r fee (bg r fee e) ++ [mid r (bg r fee e) e] else []
termination_by e
decreasing_by exact h.2
theorem qb_cut {r : List (Int × Int)} {fee : Int} (n : Nat) : ∀ e, e ≤ n → ∃ k c, Cut r k e c (qb r fee e) ∧ bd r fee e = c + (k : Int) * fee := by
  induction n with
  | zero =>
    intro e h
    have : e = 0 := by omega
    subst this
    refine ⟨0, 0, ?_, by rw [bd_zero]; simp⟩
    rw [qb, dif_neg (by omega)]
    exact .zero
  | succ n ih =>
    intro e h
    by_cases z : e = 0
    · exact ih e (by omega)
    · obtain ⟨⟨f, h1, h2, h3, _⟩, _⟩ := bd_step r fee (e := e) (by omega)
      obtain ⟨k, c, a, b⟩ := ih f (by omega)
      refine ⟨k + 1, c + wv r f e, ?_, ?_⟩
      · rw [qb, dif_pos ⟨by omega, by omega⟩, h2]
        exact .go a h1
      · have e2 : ((k + 1 : Nat) : Int) * fee = (k : Int) * fee + fee := by rw [Int.natCast_add, Int.add_mul]; simp
        rw [e2, h3, b]
        omega
/-- the bounds with the fee of so many posts end at their way and their fees -/
theorem bd_best {r : List (Int × Int)} (ok : RoadOk r) {m : Nat} (hm : 1 ≤ m) (hmn : m ≤ r.length) : bd r (feeOf r m) r.length = V r m r.length + (m : Int) * feeOf r m := by
  refine Int.le_antisymm ?_ ?_
  · obtain ⟨k, rfl⟩ : ∃ k, m = k + 1 := ⟨m - 1, by omega⟩
    exact bd_le (V_pth k hmn (Nat.le_refl _))
  · obtain ⟨k, c, a, b⟩ := qb_cut (r := r) (fee := feeOf r m) r.length r.length (Nat.le_refl _)
    rw [b]
    have hk : 1 ≤ k := by
      cases k with
      | zero => have := a.pth.z; omega
      | succ k => omega
    obtain ⟨j, rfl⟩ : ∃ j, k = j + 1 := ⟨k - 1, by omega⟩
    have c1 := V_le j a.pth (Nat.le_refl _)
    have c2 := fee_best ok hm hmn hk a.pth.le
    omega
/-- .. and with any fee at the way of the posts they come by -/
theorem qb_way {r : List (Int × Int)} (ok : RoadOk r) {fee : Int} {D : Nat → Int} (hp : 0 < r.length) (hD : IsD r (qb r fee r.length) r.length D) : bd r fee r.length = wy r D r.length + ((qb r fee r.length).length : Int) * fee := by
  obtain ⟨k, c, a, b⟩ := qb_cut (r := r) (fee := fee) r.length r.length (Nat.le_refl _)
  have hk : 1 ≤ k := by
    cases k with
    | zero => have := a.pth.z; omega
    | succ k => omega
  obtain ⟨j, rfl⟩ : ∃ j, k = j + 1 := ⟨k - 1, by omega⟩
  have w := way_least ok a (fun c' h => by have := bd_le (fee := fee) h; omega) hD
  rw [a.ris.2, b, w]
end Ph

set_option Elab.async false
set_option linter.all false
set_option maxRecDepth 100000
set_option maxHeartbeats 2000000
namespace Ph
open PySem PySem.Spec L2
/-! ### layers, posts_by, led (k03 ..) -/
def layT (r : List (Int × Int)) (m : Nat) : List (List (Int × Int)) := (List.range m).map (lay r)
theorem layT_len (r : List (Int × Int)) (m : Nat) : (layT r m).length = m := by unfold layT; rw [List.length_map, List.length_range]
theorem layT_get (r : List (Int × Int)) {m t : Nat} (h : t < m) : (layT r m).getD t default = lay r t := by
  unfold layT
  simp [List.getD_eq_getElem?_getD, h]
def nats (ps : List Nat) : List Int := ps.map fun (p : Nat) => (p : Int)
theorem ag_spec (r : List (Int × Int)) {k e : Nat} (h1 : 1 ≤ k) (h2 : k ≤ e) (h3 : e ≤ r.length) : k - 1 ≤ ag r k e ∧ ag r k e < e ∧ ((lay r (k - 1)).getD (e - 1) default).2 = (ag r k e : Int) := by
  by_cases z : k = 1
  · subst z
    have hv := (V_one (r := r) h2 h3).2
    have ha : ag r 1 e = 0 := by
      unfold ag
      show ((lay r 0).getD (e - 1) default).2.toNat = 0
      rw [hv]; rfl
    rw [ha]
    refine ⟨by omega, by omega, ?_⟩
    show ((lay r 0).getD (e - 1) default).2 = _
    rw [hv]; rfl
  · obtain ⟨j, rfl⟩ : ∃ j, k = j + 1 := ⟨k - 1, by omega⟩
    obtain ⟨⟨f, a, b, c, d⟩, _⟩ := V_step (r := r) (k := j) (e := e) (by omega) (by omega) h3
    have ha : ag r (j + 1) e = f := by
      unfold ag
      show ((lay r j).getD (e - 1) default).2.toNat = f
      rw [c]; simp
    rw [ha]
    refine ⟨by omega, by omega, ?_⟩
    show ((lay r j).getD (e - 1) default).2 = _
    rw [c]
def R_layers : List PyData → List PyData → Prop := fun ds d => ∃ (r : List (Int × Int)) (m : Nat), ds = [eRoad r, eTab (midT r), .int (m : Int)] ∧ r ≠ [] ∧ 1 ≤ m ∧ m ≤ r.length ∧ RoadOk r ∧ d = (layT r m).map eRow
def R_posts_by : List PyData → List PyData → Prop := fun ds d => ∃ (r : List (Int × Int)) (m k : Nat), ds = [eRoad r, eTab (midT r), eTab (layT r m), .int (k : Int)] ∧ 1 ≤ k ∧ k ≤ m ∧ m ≤ r.length ∧ RoadOk r ∧ d = (nats (pb r k r.length)).map .int
def R_led : List PyData → List PyData → Prop := fun ds d => ∃ (r : List (Int × Int)) (fee : Int), ds = [eRoad r, eTab (midT r), .int fee] ∧ RoadOk r ∧ d = (ledL r fee r.length).map eHs
def R_asked_many : List PyData → PyData → Prop := fun ds d => ∃ (r : List (Int × Int)) (m : Nat), ds = [eRoad r, .int (m : Int)] ∧ 1 ≤ m ∧ m ≤ r.length ∧ d = .none
def sp_layers (K : PySem.W.Frag) : Sp := PrN K R_layers
def sp_posts_by (K : PySem.W.Frag) : Sp := PrN K R_posts_by
def sp_led (K : PySem.W.Frag) : Sp := PrN K R_led
def sp_asked_many (K : PySem.W.Frag) : Sp := Pr K R_asked_many
theorem len_layers : ∀ ds d, R_layers ds d → ds.length = 3 := by rintro _ _ ⟨_, _, rfl, _⟩; rfl
theorem len_posts_by : ∀ ds d, R_posts_by ds d → ds.length = 4 := by rintro _ _ ⟨_, _, _, rfl, _⟩; rfl
theorem len_led : ∀ ds d, R_led ds d → ds.length = 3 := by rintro _ _ ⟨_, _, rfl, _⟩; rfl
theorem len_asked_many : ∀ ds d, R_asked_many ds d → ds.length = 2 := by rintro _ _ ⟨_, _, rfl, _⟩; rfl
end Ph

set_option Elab.async false
set_option linter.all false
set_option maxRecDepth 100000
namespace Ph
open PySem PySem.Spec L2
def t_layers (K : PySem.W.Frag) : TS := (tSeq (tAsg (tCB (cLen K) (tCons (tVar 0) tNil)) (gName 3))
  (tSeq (tAsg (tLst (tCons (tLc (iRng2 (tCons (tC (.int 1)) (tCons (tOp oAdd (tVar 3) (tC (.int 1))) tNil))) (gName 5) tYes (tTup (tCons (tOp (oIxT K) (tOp (oIx K) (tOp (oIx K) (tVar 1) (tC (.int 0))) (tOp oSub (tVar 5) (tC (.int 1)))) (tC (.int 1))) (tCons (tC (.int 0)) tNil))) [5]) tNil)) (gName 4))
  (tSeq (tFor (iRng2 (tCons (tC (.int 1)) (tCons (tVar 2) tNil))) (gName 6)
   (tSeq (tAsg (tOp (oIx K) (tVar 4) (tUn oNeg (tC (.int 1)))) (gName 7))
  (tSeq (tAsg (tLst tNil) (gName 8))
  (tSeq (tFor (iRng2 (tCons (tC (.int 1)) (tCons (tOp oAdd (tVar 3) (tC (.int 1))) tNil))) (gName 5)
   (tSeq (tAsg (tLc (iRng2 (tCons (tVar 6) (tCons (tVar 5) tNil))) (gName 10) tYes (tTup (tCons (tOp oAdd (tOp (oIxT K) (tOp (oIx K) (tVar 7) (tOp oSub (tVar 10) (tC (.int 1)))) (tC (.int 0))) (tOp (oIxT K) (tOp (oIx K) (tOp (oIx K) (tVar 1) (tVar 10)) (tOp oSub (tOp oSub (tVar 5) (tVar 10)) (tC (.int 1)))) (tC (.int 1)))) (tCons (tVar 10) tNil))) [10]) (gName 9))
  (tSeq (tDrop (tBM K "list" rAppend (tVar 8) (tCons (tCKw (cMinTD K) (tCons (tVar 9) tNil) (tCons (tTup (tCons (tC (.int 0)) (tCons (tC (.int 0)) tNil))) tNil)) tNil)))
  tNext)))
  (tSeq (tDrop (tBM K "list" rAppend (tVar 4) (tCons (tVar 8) tNil)))
  tNext)))))
  (tSeq (tRet (tVar 4))
  tNext))))
def t_posts_by (K : PySem.W.Frag) : TS := (tSeq (tAsg (tLst tNil) (gName 4))
  (tSeq (tAsg (tCB (cLen K) (tCons (tVar 0) tNil)) (gName 5))
  (tSeq (tFor (iRevR (tRg1 (tVar 3))) (gName 6)
   (tSeq (tAsg (tOp (oIxT K) (tOp (oIx K) (tOp (oIx K) (tVar 2) (tVar 6)) (tOp oSub (tVar 5) (tC (.int 1)))) (tC (.int 1))) (gName 7))
  (tSeq (tDrop (tBM K "list" rAppend (tVar 4) (tCons (tOp (oIxT K) (tOp (oIx K) (tOp (oIx K) (tVar 1) (tVar 7)) (tOp oSub (tOp oSub (tVar 5) (tVar 7)) (tC (.int 1)))) (tC (.int 0))) tNil)))
  (tSeq (tAsg (tVar 7) (gName 5))
  tNext))))
  (tSeq (tRet (tRevL K (tVar 4)))
  tNext))))
def t_led (K : PySem.W.Frag) : TS := (tSeq (tAsg (tLst (tCons (tTup (tCons (tC (.int 0)) (tCons (tC (.int 0)) tNil))) tNil)) (gName 3))
  (tSeq (tFor (iRng2 (tCons (tC (.int 1)) (tCons (tOp oAdd (tCB (cLen K) (tCons (tVar 0) tNil)) (tC (.int 1))) tNil))) (gName 4)
   (tSeq (tAsg (tLc (iRng1 (tCons (tVar 4) tNil)) (gName 7) tYes (tTup (tCons (tOp oAdd (tOp (oIxT K) (tOp (oIx K) (tVar 3) (tVar 7)) (tC (.int 0))) (tOp (oIxT K) (tOp (oIx K) (tOp (oIx K) (tVar 1) (tVar 7)) (tOp oSub (tOp oSub (tVar 4) (tVar 7)) (tC (.int 1)))) (tC (.int 1)))) (tCons (tVar 7) tNil))) [7]) (gName 5))
  (tSeq (tAsg (tCB (cMinT K) (tCons (tVar 5) tNil)) (gTup K 2 (gCons (gName 6) (gCons (gName 7) gNil))))
  (tSeq (tDrop (tBM K "list" rAppend (tVar 3) (tCons (tTup (tCons (tOp oAdd (tVar 6) (tVar 2)) (tCons (tVar 7) tNil))) tNil)))
  tNext))))
  (tSeq (tRet (tVar 3))
  tNext)))
def t_asked_many (K : PySem.W.Frag) : TS := (tSeq (tIfS (tOr (tNot (tB (tCall (sp_is_number K) [] E0 (tCons (tVar 1) tNil)))) (tNot (tTest (tChain oLe oLe (tC (.int 1)) (tVar 1) (tCB (cLen K) (tCons (tVar 0) tNil))))))
   (tSeq tNever
  tNext) tNext)
  tNext)
end Ph

set_option Elab.async false
set_option linter.all false
set_option maxRecDepth 100000
set_option maxHeartbeats 2000000
namespace Ph
open PySem PySem.Spec L2
section
variable {K : PySem.W.Frag} {δ : List Sl} {ta tb tc td te tj : TE} {d e f : PyData}
local macro_rules | `(tactic| walk_at "wk") => `(tactic| first | exact WkL.nil | (refine' WkL.same ?_; walk_at "wk") | (refine' WkL.drop ?_; walk_at "wk"))
theorem run_asked_many : ∀ ds d, R_asked_many ds d → ∀ B D, RtD K B D d → (d = .none → ∀ δ, Nx K B D δ) → RunS K B (t_asked_many K) D (ds.map Sl.d ++ List.replicate (2 - ds.length) Sl.no) := by
  rintro _ _ ⟨r, m, rfl, h1, h2, rfl⟩ B D k kn
  show RunS K B (t_asked_many K) D [.d (eRoad r), .d (.int m)]
  refine r_skip (evt_is (evt_or (evt_not (evt_B (ev_is_number (evd_at rfl)))) fun _ => evt_not (evt_test (evd_lele evd_int (evd_at rfl) (evd_lenm (en := eHs) (evl_d (evd_at rfl)))))) ?_) (r_next (kn rfl _))
  rw [decide_eq_true (show (1 : Int) ≤ m by omega), decide_eq_true (show (m : Int) ≤ r.length by omega)]
  rfl
theorem ev_asked_many {r : List (Int × Int)} {m : Nat} (ha : EvD K ta δ (eRoad r)) (hb : EvD K tb δ (.int (m : Int))) (h1 : 1 ≤ m) (h2 : m ≤ r.length) : EvD K (tCall (sp_asked_many K) [] E0 (tCons ta (tCons tb tNil))) δ .none :=
  evd_call (ea_cons ha (ea_cons hb ea_nil)) ⟨r, m, rfl, h1, h2, rfl⟩
/-- table[first][j] -/
theorem ev_cell {r : List (Int × Int)} {f j : Nat} (ha : EvD K ta δ (eTab (midT r))) (hb : EvD K tb δ (.int (f : Int))) (hj : EvD K tj δ (.int (j : Int))) (h : f + 1 + j ≤ r.length) :
    EvD K (tOp (oIx K) (tOp (oIx K) ta tb) tj) δ (eHs (cell r f j)) := by
  refine evd_is (evd_ixm (xs := rowOf r f) (en := eHs) (evl_d (evd_is (evd_ixm (xs := midT r) (en := eRow) (evl_d ha) hb (by omega) (by rw [midT_len]; omega)) ?_)) hj (by omega) (by rw [rowOf_len]; omega)) ?_
  · rw [Int.toNat_natCast, midT_get r (by omega)]
  · rw [Int.toNat_natCast, rowOf_get r (by omega)]
/-- table[first][end - first - 1] -/
theorem ev_cellE {r : List (Int × Int)} {f e : Nat} {t1 t2 : TE} (ha : EvD K ta δ (eTab (midT r))) (hb : EvD K tb δ (.int (f : Int))) (h1 : EvD K t1 δ (.int (e : Int))) (h2 : EvD K t2 δ (.int (f : Int))) (h : f < e) (hn : e ≤ r.length) :
    EvD K (tOp (oIx K) (tOp (oIx K) ta tb) (tOp oSub (tOp oSub t1 t2) (tC (.int 1)))) δ (eHs (((mid r f e : Nat) : Int), wv r f e)) := by
  have k := ev_cell (j := e - f - 1) ha hb (evd_is (evd_sub (evd_sub h1 h2) evd_int) (show PyData.int ((e : Int) - (f : Int) - 1) = .int ((e - f - 1 : Nat) : Int) by congr 1; omega)) (by omega)
  have e1 : f + 1 + (e - f - 1) = e := by omega
  unfold cell at k
  rw [e1] at k
  exact k
theorem run_layers : ∀ ds d, R_layers ds d → ∀ B D, RtN K B D d → RunS K B (t_layers K) D (ds.map Sl.d ++ List.replicate (11 - ds.length) Sl.no) := by
  rintro _ _ ⟨r, m, rfl, hne, hm1, hm2, ok, rfl⟩ B D k
  show RunS K B (t_layers K) D [.d (eRoad r), .d (eTab (midT r)), .d (.int m), .no, .no, .no, .no, .no, .no, .no, .no]
  have hn := ok.len
  have hp : 0 < r.length := List.length_pos_iff.mpr hne
  refine r_set (evd_lenm (xs := r) (en := eHs) (evl_d (evd_at rfl))) ?_
  dsimp only [List.set_cons_zero, List.set_cons_succ]
  refine r_setN (ds := (layT r 1).map eRow) (evn_is (evn_lst (ea_cons (evd_is (evd_n (evn_lcR2 (a := 1) (b := r.length + 1) (f := fun j => eHs (wv r 0 (j + 1), 0)) (evd_is evd_int rfl) (evd_is (evd_add (evd_at rfl) evd_int) rfl) (by omega) (by omega) fun j hj => ?_)) (show _ = eRow (lay r 0) from ?_)) ea_nil) (by simp)) rfl) fun p => ?_
  · have k := ev_cell (K := K) (δ := (wipeD [.d (eRoad r), .d (eTab (midT r)), .d (.int m), .d (.int (r.length : Int)), .no, .no, .no, .no, .no, .no, .no] [5]).set 5 (.d (.int ((1 + j : Nat) : Int)))) (r := r) (f := 0) (j := j) (evd_at (n := 1) rfl) (evd_int (n := 0)) (evd_is (evd_sub (evd_at (n := 5) rfl) evd_int) (show PyData.int (((1 + j : Nat) : Int) - 1) = .int (j : Int) by congr 1; omega)) (by omega)
    have e1 : 0 + 1 + j = j + 1 := by omega
    have e2 : 1 + j = j + 1 := by omega
    unfold cell at k
    rw [e1] at k
    try rw [e2] at k
    rw [e2]
    exact evd_tup (ea_cons (evd_ixt1 k) (ea_cons evd_int ea_nil)) (by simp)
  · unfold lay eRow
    rw [List.map_map]
    rfl
  dsimp only [List.set_cons_zero, List.set_cons_succ]
  have hr := evi_range2 (K := K) (δ := [.d (eRoad r), .d (eTab (midT r)), .d (.int m), .d (.int (r.length : Int)), .m p ((layT r 1).map eRow), .no, .no, .no, .no, .no, .no]) (evd_int (n := 1)) (evd_at (n := 2) (d := .int m) rfl) (by decide) (by decide) (by omega) (by omega)
  refine r_for hr (fun i δ => δ = [.d (eRoad r), .d (eTab (midT r)), .d (.int m), .d (.int (r.length : Int)), .m p ((layT r (i + 1)).map eRow), .no, .no, .no, .no, .no, .no]) ⟨_, by walk_at "wk", rfl⟩ (fun _ _ _ _ _ _ _ _ _ => trivial) (fun Gb hb i δ' hi hP => ?_) (fun δ' hP => ?_)
  · subst hP
    refine ⟨_, tg_name, ?_⟩
    dsimp only [List.set_cons_zero, List.set_cons_succ]
    refine r_set (d := eRow (lay r i)) (evd_is (evd_ixl (xs := layT r (i + 1)) (en := eRow) (evl_at rfl) (by intro z; have := layT_len r (i + 1); rw [z] at this; cases this)) ?_) ?_
    · rw [layT_len, Nat.add_sub_cancel, layT_get r (Nat.lt_succ_self i)]
    dsimp only [List.set_cons_zero, List.set_cons_succ]
    refine r_setN (ds := ((List.range 0).map fun j => minPD (0, 0) (layC r (lay r i) (i + 1) (j + 1))).map eHs) (evn_lst ea_nil (by simp)) fun q => ?_
    dsimp only [List.set_cons_zero, List.set_cons_succ]
    have hr2 := evi_range2 (K := K) (δ := [.d (eRoad r), .d (eTab (midT r)), .d (.int m), .d (.int (r.length : Int)), .m p ((layT r (i + 1)).map eRow), .no, .d (.int (1 + (i : Int))), .d (eRow (lay r i)), .m q (((List.range 0).map fun j => minPD (0, 0) (layC r (lay r i) (i + 1) (j + 1))).map eHs), .no, .no]) (evd_int (n := 1)) (evd_add (evd_at (n := 3) (d := .int (r.length : Int)) rfl) (evd_int (n := 1))) (by decide) (by decide) (by omega) (by omega)
    have ez : ((r.length : Int) + 1 - 1).toNat = r.length := by omega
    rw [ez] at hr2
    refine r_for (EvI.congr (Y' := fun j => .int ((j + 1 : Nat) : Int)) hr2 (fun j _ => by congr 1; omega)) (fun j δ => δ = [.d (eRoad r), .d (eTab (midT r)), .d (.int m), .d (.int (r.length : Int)), .m p ((layT r (i + 1)).map eRow), .no, .d (.int (1 + (i : Int))), .d (eRow (lay r i)), .m q (((List.range j).map fun j => minPD (0, 0) (layC r (lay r i) (i + 1) (j + 1))).map eHs), .no, .no]) ⟨_, by walk_at "wk", rfl⟩ (fun _ _ _ _ _ _ _ _ _ => trivial) (fun Gb2 hb2 j δ' hj hP => ?_) (fun δ' hP => ?_)
    · subst hP
      refine ⟨_, tg_name, ?_⟩
      dsimp only [List.set_cons_zero, List.set_cons_succ]
      refine r_set (d := eRow (layC r (lay r i) (i + 1) (j + 1))) (evd_is (evd_n (evn_lcR2 (a := i + 1) (b := j + 1) (f := fun k => eHs (((lay r i).getD (i + 1 + k - 1) default).1 + wv r (i + 1 + k) (j + 1), ((i + 1 + k : Nat) : Int))) (evd_is (evd_at rfl) (show PyData.int (1 + (i : Int)) = _ by congr 1; omega)) (evd_at rfl) (by omega) (by omega) fun k hk => ?_)) ?_) ?_
      · refine evd_tup (ea_cons (evd_add (evd_is (evd_ixt0 (evd_ixm (xs := lay r i) (en := eHs) (evl_d (evd_at rfl)) (evd_sub (evd_at rfl) evd_int) (by omega) (by rw [lay_len]; omega))) ?_) (evd_ixt1 (ev_cellE (f := i + 1 + k) (e := j + 1) (evd_at rfl) (evd_at rfl) (evd_at rfl) (evd_at rfl) (by omega) (by omega)))) (ea_cons (evd_at rfl) ea_nil)) (by simp)
        have : (((i + 1 + k : Nat) : Int) - 1).toNat = i + 1 + k - 1 := by omega
        rw [this]
      · unfold layC eRow
        rw [List.map_map]
        rfl
      dsimp only [List.set_cons_zero, List.set_cons_succ]
      refine r_app rfl (evd_minTD (z := (0, 0)) (evl_d (evd_at rfl)) (evd_tup (ea_cons evd_int (ea_cons evd_int ea_nil)) (by simp))) (by rw [List.length_map, List.length_map, List.length_range]; omega) ?_
      dsimp only [List.set_cons_zero, List.set_cons_succ]
      refine r_next (nx_inv ?_ ⟨_, rfl, rfl⟩)
      rw [List.range_succ, List.map_append, List.map_append]
      walk_at "wk"
    · subst hP
      refine r_freeze (i := 8) rfl ?_
      dsimp only [List.set_cons_zero, List.set_cons_succ]
      refine r_app rfl (evd_at (d := eRow (lay r (i + 1))) rfl) (by rw [List.length_map, layT_len]; omega) ?_
      dsimp only [List.set_cons_zero, List.set_cons_succ]
      refine r_next (nx_inv ?_ ⟨_, rfl, rfl⟩)
      have : layT r (i + 1 + 1) = layT r (i + 1) ++ [lay r (i + 1)] := by unfold layT; rw [List.range_succ, List.map_append]; rfl
      rw [this, List.map_append]
      walk_at "wk"
  · subst hP
    have : ((m : Int) - 1).toNat + 1 = m := by omega
    rw [this]
    exact r_retM rfl k
theorem ev_layers {r : List (Int × Int)} {m : Nat} (ha : EvD K ta δ (eRoad r)) (hb : EvD K tb δ (eTab (midT r))) (hc : EvD K tc δ (.int (m : Int))) (hne : r ≠ []) (h1 : 1 ≤ m) (h2 : m ≤ r.length) (ok : RoadOk r) : EvN K (tCall (sp_layers K) [] E0 (tCons ta (tCons tb (tCons tc tNil)))) δ ((layT r m).map eRow) :=
  evn_call (ea_cons ha (ea_cons hb (ea_cons hc ea_nil))) ⟨r, m, rfl, hne, h1, h2, ok, rfl⟩
theorem run_posts_by : ∀ ds d, R_posts_by ds d → ∀ B D, RtN K B D d → RunS K B (t_posts_by K) D (ds.map Sl.d ++ List.replicate (8 - ds.length) Sl.no) := by
  rintro _ _ ⟨r, m, k0, rfl, h1, h2, h3, ok, rfl⟩ B D k
  show RunS K B (t_posts_by K) D [.d (eRoad r), .d (eTab (midT r)), .d (eTab (layT r m)), .d (.int k0), .no, .no, .no, .no]
  have hn := ok.len
  refine r_setN (ds := (nats []).map .int) (evn_lst ea_nil (by simp [nats])) fun p => ?_
  dsimp only [List.set_cons_zero, List.set_cons_succ]
  refine r_set (evd_lenm (xs := r) (en := eHs) (evl_d (evd_at rfl))) ?_
  dsimp only [List.set_cons_zero, List.set_cons_succ]
  have hr := evi_rev (K := K) (δ := [.d (eRoad r), .d (eTab (midT r)), .d (eTab (layT r m)), .d (.int k0), .m p ((nats []).map .int), .d (.int (r.length : Int)), .no, .no]) (evd_at (n := 3) (d := .int k0) rfl) (by omega) (by omega)
  rw [Int.toNat_natCast] at hr
  refine r_for hr (fun i δ => ∃ (e : Nat) (fs : List Nat), k0 - i ≤ e ∧ e ≤ r.length ∧ fs.length = i ∧ pb r k0 r.length = pb r (k0 - i) e ++ fs.reverse ∧ δ = [.d (eRoad r), .d (eTab (midT r)), .d (eTab (layT r m)), .d (.int k0), .m p ((nats fs).map .int), .d (.int (e : Int)), .no, .no]) ⟨_, WkL.refl _, r.length, [], by omega, Nat.le_refl _, rfl, by simp, rfl⟩ (fun _ _ _ _ _ _ _ _ _ => trivial) (fun Gb hb i δ' hi hP => ?_) (fun δ' hP => ?_)
  · obtain ⟨e, fs, e1, e2, e3, e4, rfl⟩ := hP
    refine ⟨_, tg_name, ?_⟩
    dsimp only [List.set_cons_zero, List.set_cons_succ]
    obtain ⟨kk, hkk⟩ : ∃ kk, k0 - i = kk + 1 := ⟨k0 - i - 1, by omega⟩
    obtain ⟨a1, a2, a3⟩ := ag_spec r (k := k0 - i) (e := e) (by omega) e1 e2
    refine r_set (d := .int ((ag r (k0 - i) e : Nat) : Int)) (evd_is (evd_ixt1 (evd_is (evd_ixm (xs := lay r (k0 - i - 1)) (en := eHs) (evl_d (evd_is (evd_ixm (xs := layT r m) (en := eRow) (evl_d (evd_at rfl)) (evd_at rfl) (by omega) (by rw [layT_len]; omega)) ?_)) (evd_sub (evd_at rfl) evd_int) (by omega) (by rw [lay_len]; omega)) rfl)) ?_) ?_
    · have : ((k0 : Int) - 1 - (i : Int)).toNat = k0 - i - 1 := by omega
      rw [this, layT_get r (by omega)]
    · have : ((e : Int) - 1).toNat = e - 1 := by omega
      rw [this, a3]
    dsimp only [List.set_cons_zero, List.set_cons_succ]
    refine r_app rfl (evd_ixt0 (ev_cellE (f := ag r (k0 - i) e) (e := e) (evd_at rfl) (evd_at rfl) (evd_at rfl) (evd_at rfl) a2 e2)) (by simp [nats]; omega) ?_
    dsimp only [List.set_cons_zero, List.set_cons_succ]
    refine r_set (evd_at rfl) ?_
    dsimp only [List.set_cons_zero, List.set_cons_succ]
    refine r_next (nx_inv (δ' := [.d (eRoad r), .d (eTab (midT r)), .d (eTab (layT r m)), .d (.int k0), .m p ((nats (fs ++ [mid r (ag r (k0 - i) e) e])).map .int), .d (.int ((ag r (k0 - i) e : Nat) : Int)), .no, .no]) ?_ ⟨_, rfl, ag r (k0 - i) e, fs ++ [mid r (ag r (k0 - i) e) e], by omega, by omega, by simp; omega, ?_, rfl⟩)
    · unfold nats
      rw [List.map_append, List.map_append]
      walk_at "wk"
    · rw [e4, List.reverse_append]
      have e5 : k0 - (i + 1) = kk := by omega
      rw [e5, hkk]
      show pb r kk (ag r (kk + 1) e) ++ [mid r (ag r (kk + 1) e) e] ++ fs.reverse = _
      simp
  · obtain ⟨e, fs, e1, e2, e3, e4, rfl⟩ := hP
    refine r_retN (evn_is (evn_rev (evl_at rfl)) ?_) k
    rw [e4, Nat.sub_self]
    unfold nats pb
    simp
theorem ev_posts_by {r : List (Int × Int)} {m k : Nat} (ha : EvD K ta δ (eRoad r)) (hb : EvD K tb δ (eTab (midT r))) (hc : EvD K tc δ (eTab (layT r m))) (hd : EvD K td δ (.int (k : Int))) (h1 : 1 ≤ k) (h2 : k ≤ m) (h3 : m ≤ r.length) (ok : RoadOk r) : EvN K (tCall (sp_posts_by K) [] E0 (tCons ta (tCons tb (tCons tc (tCons td tNil))))) δ ((nats (pb r k r.length)).map .int) :=
  evn_call (ea_cons ha (ea_cons hb (ea_cons hc (ea_cons hd ea_nil)))) ⟨r, m, k, rfl, h1, h2, h3, ok, rfl⟩
theorem run_led : ∀ ds d, R_led ds d → ∀ B D, RtN K B D d → RunS K B (t_led K) D (ds.map Sl.d ++ List.replicate (8 - ds.length) Sl.no) := by
  rintro _ _ ⟨r, fee, rfl, ok, rfl⟩ B D k
  show RunS K B (t_led K) D [.d (eRoad r), .d (eTab (midT r)), .d (.int fee), .no, .no, .no, .no, .no]
  have hn := ok.len
  refine r_setN (ds := (ledL r fee 0).map eHs) (evn_lst (ea_cons (evd_tup (ea_cons evd_int (ea_cons evd_int ea_nil)) (by simp)) ea_nil) (by simp [ledL])) fun p => ?_
  dsimp only [List.set_cons_zero, List.set_cons_succ]
  have hr := evi_range2 (K := K) (δ := [.d (eRoad r), .d (eTab (midT r)), .d (.int fee), .m p ((ledL r fee 0).map eHs), .no, .no, .no, .no]) (evd_int (n := 1)) (evd_add (evd_lenm (xs := r) (en := eHs) (evl_d (evd_at (n := 0) rfl))) (evd_int (n := 1))) (by decide) (by decide) (by omega) (by omega)
  have ez : ((r.length : Int) + 1 - 1).toNat = r.length := by omega
  rw [ez] at hr
  refine r_for (EvI.congr (Y' := fun j => .int ((j + 1 : Nat) : Int)) hr (fun j _ => by congr 1; omega)) (fun i δ => δ = [.d (eRoad r), .d (eTab (midT r)), .d (.int fee), .m p ((ledL r fee i).map eHs), .no, .no, .no, .no]) ⟨_, by walk_at "wk", rfl⟩ (fun _ _ _ _ _ _ _ _ _ => trivial) (fun Gb hb i δ' hi hP => ?_) (fun δ' hP => ?_)
  · subst hP
    refine ⟨_, tg_name, ?_⟩
    dsimp only [List.set_cons_zero, List.set_cons_succ]
    have hll := ledL_len r fee i
    refine r_set (d := eRow (ledC r (ledL r fee i) (i + 1))) (evd_is (evd_n (evn_lcR (n := i + 1) (f := fun k => eHs (((ledL r fee i).getD k default).1 + wv r k (i + 1), (k : Int))) (evd_at rfl) (by omega) fun k hk => ?_)) ?_) ?_
    · exact evd_tup (ea_cons (evd_add (evd_ixt0 (evd_ixm (xs := ledL r fee i) (en := eHs) (i := (k : Int)) (evl_at rfl) (evd_at rfl) (by omega) (by omega))) (evd_ixt1 (ev_cellE (f := k) (e := i + 1) (evd_at rfl) (evd_at rfl) (evd_at rfl) (evd_at rfl) (by omega) (by omega)))) (ea_cons (evd_at rfl) ea_nil)) (by simp)
    · unfold ledC eRow
      rw [List.map_map]
      rfl
    dsimp only [List.set_cons_zero, List.set_cons_succ]
    obtain ⟨y, ys, hy⟩ : ∃ y ys, ledC r (ledL r fee i) (i + 1) = y :: ys := by
      unfold ledC
      rw [List.range_succ_eq_map]
      exact ⟨_, _, rfl⟩
    have hmin : minPD (0, 0) (ledC r (ledL r fee i) (i + 1)) = minP y ys := by rw [hy]; rfl
    refine r_setT (d := eHs (minPD (0, 0) (ledC r (ledL r fee i) (i + 1)))) (evd_is (evd_minT (x := y) (xs := ys) (evl_is (evl_d (evd_at rfl)) (by rw [hy]))) (by rw [hmin])) (tg_tup (tgs_cons tg_name (tgs_cons tg_name tgs_nil)) rfl) ?_
    dsimp only [List.set_cons_zero, List.set_cons_succ]
    refine r_app rfl (d := eHs (ledStep r fee (ledL r fee i) (i + 1))) (evd_tup (ea_cons (evd_add (evd_at rfl) (evd_at rfl)) (ea_cons (evd_at rfl) ea_nil)) (by simp)) (by rw [List.length_map]; omega) ?_
    dsimp only [List.set_cons_zero, List.set_cons_succ]
    refine r_next (nx_inv ?_ ⟨_, rfl, rfl⟩)
    rw [ledL, List.map_append]
    walk_at "wk"
  · subst hP
    exact r_retM rfl k
theorem ev_led {r : List (Int × Int)} {fee : Int} (ha : EvD K ta δ (eRoad r)) (hb : EvD K tb δ (eTab (midT r))) (hc : EvD K tc δ (.int fee)) (ok : RoadOk r) : EvN K (tCall (sp_led K) [] E0 (tCons ta (tCons tb (tCons tc tNil)))) δ ((ledL r fee r.length).map eHs) :=
  evn_call (ea_cons ha (ea_cons hb (ea_cons hc ea_nil))) ⟨r, fee, rfl, ok, rfl⟩
end
end Ph

set_option Elab.async false
set_option linter.all false
set_option maxRecDepth 100000
set_option maxHeartbeats 2000000
namespace Ph
theorem nats_len (qs : List Nat) : (nats qs).length = qs.length := by unfold nats; rw [List.length_map]
theorem nats_get (qs : List Nat) {i : Nat} (h : i < qs.length) : (nats qs).getD i 0 = ((qs.getD i 0 : Nat) : Int) := by
  unfold nats
  simp [List.getD_eq_getElem?_getD, h]
theorem near_min {r : List (Int × Int)} {ps : List Int} (ok : RoadOk r) (po : PostsOk r.length ps) (i : Nat) (hi : i < r.length) :
    ∃ a, a < ps.length ∧ (nearL r ps).getD i default = ps.getD a 0 ∧ ∀ b, b < ps.length → ((r.getD i default).1 - pl r (ps.getD a 0)).natAbs ≤ ((r.getD i default).1 - pl r (ps.getD b 0)).natAbs := by
  obtain ⟨a, _, _, h1, h2, h3, h4, h5⟩ := near_at ok po i hi
  refine ⟨a, h1, h2, fun b hb => ?_⟩
  have mono : ∀ c d, c ≤ d → d < ps.length → pl r (ps.getD c 0) ≤ pl r (ps.getD d 0) := fun c d hcd hd => by
    by_cases z : c = d
    · rw [z]; exact Int.le_refl _
    · have b1 := po.bnd c (by omega)
      have b2 := po.bnd d hd
      have b3 := po.rise c d (by omega) hd
      exact Int.le_of_lt (pl_rise ok (by omega) (by omega))
  by_cases z : b = a
  · rw [z]; exact Nat.le_refl _
  · by_cases w : a < b
    · have e1 := h3 (by omega)
      have e2 := mono (a + 1) b (by omega) hb
      have b1 := po.bnd a h1
      have b2 := po.bnd (a + 1) (by omega)
      have b3 := po.rise a (a + 1) (by omega) (by omega)
      have e3 : pl r (ps.getD a 0) < pl r (ps.getD (a + 1) 0) := pl_rise ok (by omega) (by omega)
      omega
    · have e1 := h4 (by omega)
      have e2 := mono b (a - 1) (by omega) (by omega)
      have e3 := h5 (by omega)
      omega
theorem way_wy {r : List (Int × Int)} {qs : List Nat} (ok : RoadOk r) (h : arePosts r.length (nats qs) = true) : ∃ D, wayL r (nats qs) = wy r D r.length ∧ IsD r qs r.length D := by
  have po := postsOk h
  have hl := nearL_length r (nats qs)
  refine ⟨fun i => ((xs r i - pl r ((nearL r (nats qs)).getD i default)).natAbs : Int), ?_, fun i hi => ?_⟩
  · unfold wayL wy
    rw [← sum_range]
    congr 1
    refine List.ext_getElem (by simp [hl]) fun n h1 h2 => ?_
    simp at h1 h2
    simp [wayT, ls, xs, List.getD_eq_getElem?_getD, h2, hl]
  · obtain ⟨a, h1, h2, h3⟩ := near_min ok po i hi
    have hq : ∀ b, b < qs.length → pl r ((nats qs).getD b 0) = xs r (qs.getD b 0) := fun b hb => by
      rw [nats_get qs hb]
      unfold pl xs
      rw [Int.toNat_natCast]
    rw [nats_len] at h1
    refine ⟨⟨qs.getD a 0, ?_, ?_⟩, fun p hp => ?_⟩
    · rw [List.getD_eq_getElem?_getD, List.getElem?_eq_getElem h1]
      exact List.getElem_mem h1
    · show ((xs r i - pl r ((nearL r (nats qs)).getD i default)).natAbs : Int) = _
      rw [h2, hq a h1]
      rfl
    · obtain ⟨b, hb, rfl⟩ := List.getElem_of_mem hp
      have k := h3 b (by rw [nats_len]; exact hb)
      show ((xs r i - pl r ((nearL r (nats qs)).getD i default)).natAbs : Int) ≤ dst r i qs[b]
      rw [h2]
      have e : qs.getD b 0 = qs[b] := by rw [List.getD_eq_getElem?_getD, List.getElem?_eq_getElem hb]; rfl
      have e2 := hq b hb
      rw [e] at e2
      rw [e2] at k
      unfold dst
      have : ((r.getD i default).1 - pl r ((nats qs).getD a 0)).natAbs = (xs r i - pl r ((nats qs).getD a 0)).natAbs := rfl
      have : ((r.getD i default).1 - xs r qs[b]).natAbs = (xs r i - xs r qs[b]).natAbs := rfl
      omega
theorem ris_posts {n : Nat} {qs : List Nat} (h : Ris n qs) (hne : qs ≠ []) : arePosts n (nats qs) = true := by
  have key : ∀ {e : Nat} {qs : List Nat}, Ris e qs → e ≤ n → risingB n (-1) (nats qs) = true ∧ (nats qs).foldl (fun _ x => x) (-1) < e := by
    intro e qs h
    induction h with
    | nil => intro _; exact ⟨rfl, by show (-1 : Int) < _; omega⟩
    | @snoc f e p ps a h1 h2 ih =>
      intro he
      obtain ⟨i1, i2⟩ := ih (by omega)
      have e1 : nats (ps ++ [p]) = nats ps ++ [(p : Int)] := by unfold nats; rw [List.map_append]; rfl
      rw [e1, risingB_snoc, i1, List.foldl_append]
      refine ⟨?_, ?_⟩
      · rw [decide_eq_true (show (nats ps).foldl (fun _ x => x) (-1) < (p : Int) by omega), decide_eq_true (show (p : Int) < n by omega)]
        rfl
      · show (p : Int) < e
        omega
  unfold arePosts
  rw [(key h (Nat.le_refl _)).1]
  have : nats qs ≠ [] := fun z => hne (List.map_eq_nil_iff.mp z)
  simp [this]
/-- any posts' way is no less than the least way of so many -/
theorem way_ge {r : List (Int × Int)} {qs : List Nat} {k : Nat} (ok : RoadOk r) (h : Ris r.length qs) (hk : qs.length = k) (h1 : 1 ≤ k) : V r k r.length ≤ wayL r (nats qs) := by
  obtain ⟨m, rfl⟩ : ∃ m, k = m + 1 := ⟨k - 1, by omega⟩
  have hne : qs ≠ [] := by rintro rfl; cases hk
  obtain ⟨D, e, hD⟩ := way_wy ok (ris_posts h hne)
  obtain ⟨c, c1, c2⟩ := isD_down ok m h hk (Nat.le_refl _) hD
  have := V_le m c1 (Nat.le_refl _)
  omega
theorem way_pb {r : List (Int × Int)} {k : Nat} (ok : RoadOk r) (h1 : 1 ≤ k) (h2 : k ≤ r.length) : Ris r.length (pb r k r.length) ∧ (pb r k r.length).length = k ∧ arePosts r.length (nats (pb r k r.length)) = true ∧ wayL r (nats (pb r k r.length)) = V r k r.length := by
  obtain ⟨m, rfl⟩ : ∃ m, k = m + 1 := ⟨k - 1, by omega⟩
  have c := (pb_cut m h2 (Nat.le_refl _)).ris
  have hne : pb r (m + 1) r.length ≠ [] := by intro z; rw [z] at c; cases c.2
  have hp := ris_posts c.1 hne
  obtain ⟨D, e, hD⟩ := way_wy ok hp
  exact ⟨c.1, c.2, hp, by rw [e, pb_way ok h1 h2 hD]⟩
/-! falls -/
theorem V_fall0 {r : List (Int × Int)} (ok : RoadOk r) {k : Nat} (h1 : 1 ≤ k) (h : k + 1 ≤ r.length) : V r (k + 1) r.length ≤ V r k r.length := by
  have f := V_falls ok (Nat.le_refl r.length) h1 (r.length - 1 - k) (by omega)
  have e4 : k + (r.length - 1 - k) + 1 = r.length := by omega
  have e5 : k + (r.length - 1 - k) = r.length - 1 := by omega
  rw [e4, e5, V_all ok (by omega) (Nat.le_refl _)] at f
  have g := V_nonneg ok (k := r.length - 1) (n := r.length) (by omega) (by omega) (Nat.le_refl _)
  omega
/-! all choices of posts -/
def chs : Nat → List (List Nat)
  | 0 => [[]]
  | n + 1 => chs n ++ (chs n).map (· ++ [n])
theorem chs_len : ∀ n, (chs n).length = 2 ^ n
  | 0 => rfl
  | n + 1 => by rw [chs, List.length_append, List.length_map, chs_len n, Nat.pow_succ]; omega
theorem chs_ris : ∀ (n : Nat) {L : List Nat}, L ∈ chs n → Ris n L
  | 0, L, h => by
    have : L = [] := by simpa [chs] using h
    rw [this]; exact .nil
  | n + 1, L, h => by
    rcases List.mem_append.mp h with h | h
    · cases chs_ris n h with
      | nil => exact .nil
      | snoc a b c => exact .snoc a b (by omega)
    · obtain ⟨M, hM, rfl⟩ := List.mem_map.mp h
      exact .snoc (chs_ris n hM) (Nat.le_refl _) (by omega)
theorem ris_chs : ∀ (n : Nat) {L : List Nat}, Ris n L → L ∈ chs n
  | 0, L, h => by
    cases h with
    | nil => simp [chs]
    | snoc a b c => omega
  | n + 1, L, h => by
    cases h with
    | nil => exact List.mem_append_left _ (ris_chs n .nil)
    | @snoc f _ p ps a b c =>
      by_cases z : p = n
      · refine List.mem_append_right _ (List.mem_map.mpr ⟨ps, ris_chs n ?_, by rw [z]⟩)
        cases a with
        | nil => exact .nil
        | snoc a' b' c' => exact .snoc a' b' (by omega)
      · exact List.mem_append_left _ (ris_chs n (.snoc a b (by omega)))
/-- the first is none, no other is -/
theorem chs_cons : ∀ n, ∃ R, chs n = [] :: R ∧ ∀ L ∈ R, L ≠ []
  | 0 => ⟨[], rfl, fun _ h => nomatch h⟩
  | n + 1 => by
    obtain ⟨R, h1, h2⟩ := chs_cons n
    refine ⟨R ++ (chs n).map (· ++ [n]), by rw [chs, h1]; rfl, fun L hL => ?_⟩
    rcases List.mem_append.mp hL with h | h
    · exact h2 L h
    · obtain ⟨M, _, rfl⟩ := List.mem_map.mp h
      simp
end Ph

set_option Elab.async false
set_option linter.all false
set_option maxRecDepth 100000
set_option maxHeartbeats 2000000
namespace Ph
open PySem PySem.Spec L2
/-! ### best, ways, choices -/
def bdL (r : List (Int × Int)) (fee : Int) : List Int := (ledL r fee r.length).map (·.1)
theorem bdL_len (r : List (Int × Int)) (fee : Int) : (bdL r fee).length = r.length + 1 := by unfold bdL; rw [List.length_map, ledL_len]
theorem bdL_get (r : List (Int × Int)) (fee : Int) {e : Nat} (h : e ≤ r.length) : (bdL r fee).getD e 0 = bd r fee e := by
  unfold bdL bd
  rw [← ledL_get r fee h]
  have h2 : e < (ledL r fee r.length).length := by rw [ledL_len]; omega
  simp [List.getD_eq_getElem?_getD, h2]
def waysL (r : List (Int × Int)) (m : Nat) : List Int := (List.range (min m r.length)).map fun j => V r (j + 1) r.length
theorem waysL_len (r : List (Int × Int)) (m : Nat) : (waysL r m).length = min m r.length := by unfold waysL; rw [List.length_map, List.length_range]
theorem waysL_get (r : List (Int × Int)) {m j : Nat} (h : j < min m r.length) : (waysL r m).getD j default = V r (j + 1) r.length := by
  unfold waysL
  rw [List.getD_eq_getElem?_getD, List.getElem?_map, List.getElem?_range h]
  rfl
def R_best : List PyData → List Int → List Int → Option Int → Prop := fun ds ps bs fee => ∃ (r : List (Int × Int)) (m : Nat), ds = [eRoad r, .int (m : Int)] ∧ 1 ≤ m ∧ m ≤ r.length ∧ RoadOk r ∧ ps = nats (pb r m r.length) ∧ bs = bdL r (feeOf r m) ∧ fee = some (feeOf r m)
def R_ways : List PyData → List PyData → Prop := fun ds d => ∃ (r : List (Int × Int)) (m : Nat), ds = [eRoad r, .int (m : Int)] ∧ RoadOk r ∧ d = (waysL r m).map .int
def R_law_choices : List PyData → List PyData → Prop := fun ds d => ∃ n : Nat, ds = [.int (n : Int)] ∧ n ≤ 6 ∧ d = (chs n).tail.map fun L => eInts (nats L)
def sp_best (K : PySem.W.Frag) : Sp := PrO K (He.ga K "Best") R_best
def sp_ways (K : PySem.W.Frag) : Sp := PrN K R_ways
def sp_law_choices (K : PySem.W.Frag) : Sp := PrN K R_law_choices
theorem len_best : ∀ ds a b c, R_best ds a b c → ds.length = 2 := by rintro _ _ _ _ ⟨_, _, rfl, _⟩; rfl
theorem len_ways : ∀ ds d, R_ways ds d → ds.length = 2 := by rintro _ _ ⟨_, _, rfl, _⟩; rfl
theorem len_law_choices : ∀ ds d, R_law_choices ds d → ds.length = 1 := by rintro _ _ ⟨_, rfl, _⟩; rfl
end Ph

set_option Elab.async false
set_option linter.all false
set_option maxRecDepth 100000
namespace Ph
open PySem PySem.Spec L2
def t_best_s6 (K : PySem.W.Frag) : TS := (tSeq (tRet (tMake (He.ga K "Best") (PrI3 K (He.ga K "Best")) [] E0 (tCons (tCall (sp_posts_by K) [] E0 (tCons (tVar 0) (tCons (tVar 2) (tCons (tVar 3) (tCons (tVar 1) tNil))))) (tCons (tVar 5) (tCons (tVar 4) tNil)))))
  tNext)
def t_best_s5 (K : PySem.W.Frag) : TS := (tSeq (tAsg (tLc (iList K (tCall (sp_led K) [] E0 (tCons (tVar 0) (tCons (tVar 2) (tCons (tVar 4) tNil))))) (gName 6) tYes (tOp (oIxT K) (tVar 6) (tC (.int 0))) [6]) (gName 5))
  (t_best_s6 K))
def t_best_s4 (K : PySem.W.Frag) : TS := (tSeq (tAsg (tIf (tTest (tOp oLt (tVar 1) (tCB (cLen K) (tCons (tVar 0) tNil)))) (tOp oSub (tOp (oIxT K) (tOp (oIx K) (tOp (oIx K) (tVar 3) (tOp oSub (tVar 1) (tC (.int 1)))) (tUn oNeg (tC (.int 1)))) (tC (.int 0))) (tOp (oIxT K) (tOp (oIx K) (tOp (oIx K) (tVar 3) (tVar 1)) (tUn oNeg (tC (.int 1)))) (tC (.int 0)))) (tC (.int 0))) (gName 4))
  (t_best_s5 K))
def t_best_s3 (K : PySem.W.Frag) : TS := (tSeq (tAsg (tCall (sp_layers K) [] E0 (tCons (tVar 0) (tCons (tVar 2) (tCons (tCB cMin2 (tCons (tOp oAdd (tVar 1) (tC (.int 1))) (tCons (tCB (cLen K) (tCons (tVar 0) tNil)) tNil))) tNil)))) (gName 3))
  (t_best_s4 K))
def t_best_s2 (K : PySem.W.Frag) : TS := (tSeq (tAsg (tCall (sp_middles K) [] E0 (tCons (tVar 0) tNil)) (gName 2))
  (t_best_s3 K))
def t_best_s1 (K : PySem.W.Frag) : TS := (tSeq (tDrop (tCall (sp_asked_many K) [] E0 (tCons (tVar 0) (tCons (tVar 1) tNil))))
  (t_best_s2 K))
def t_best (K : PySem.W.Frag) : TS := (tSeq (tDrop (tCall (sp_asked_road K) [] E0 (tCons (tVar 0) tNil)))
  (t_best_s1 K))
def t_ways (K : PySem.W.Frag) : TS := (tSeq (tDrop (tCall (sp_asked_road K) [] E0 (tCons (tVar 0) tNil)))
  (tSeq (tDrop (tCall (sp_asked_number K) [] E0 (tCons (tVar 1) tNil)))
  (tSeq (tIfS (tOr (tTest (tOp (oEqD K) (tVar 0) (tLst tNil))) (tTest (tOp oEqI (tVar 1) (tC (.int 0)))))
   (tSeq (tRet (tLst tNil))
  tNext) tNext)
  (tSeq (tAsg (tCall (sp_layers K) [] E0 (tCons (tVar 0) (tCons (tCall (sp_middles K) [] E0 (tCons (tVar 0) tNil)) (tCons (tCB cMin2 (tCons (tVar 1) (tCons (tCB (cLen K) (tCons (tVar 0) tNil)) tNil))) tNil)))) (gName 2))
  (tSeq (tRet (tLc (iList K (tVar 2)) (gName 3) tYes (tOp (oIxT K) (tOp (oIx K) (tVar 3) (tUn oNeg (tC (.int 1)))) (tC (.int 0))) [3]))
  tNext)))))
end Ph

set_option Elab.async false
set_option linter.all false
set_option maxRecDepth 100000
set_option maxHeartbeats 2000000
namespace Ph
open PySem PySem.Spec L2
section
variable {K : PySem.W.Frag} {δ : List Sl} {ta tb tc td te tj : TE} {d e f : PyData}
theorem run_best : ∀ ds a b c, R_best ds a b c → ∀ B D, RtO K B D (He.ga K "Best") a b c → RunS K B (t_best K) D (ds.map Sl.d ++ List.replicate (7 - ds.length) Sl.no) := by
  rintro _ _ _ _ ⟨r, m, rfl, h1, h2, ok, rfl, rfl, rfl⟩ B D k
  show RunS K B (t_best K) D [.d (eRoad r), .d (.int m), .no, .no, .no, .no, .no]
  have hn := ok.len
  have hne : r ≠ [] := by rintro rfl; simp at h2; omega
  refine r_drop (ev_asked_road (evd_at rfl) ok) (r_drop (ev_asked_many (evd_at rfl) (evd_at rfl) h1 h2) ?_)
  refine r_set (d := eTab (midT r)) (evd_n (ev_middles (evd_at rfl) ok)) ?_
  dsimp only [List.set_cons_zero, List.set_cons_succ]
  refine r_set (d := eTab (layT r (min (m + 1) r.length))) (evd_n (ev_layers (m := min (m + 1) r.length) (evd_at rfl) (evd_at rfl) (evd_is (evd_min2 (evd_add (evd_at rfl) evd_int) (evd_lenm (xs := r) (en := eHs) (evl_d (evd_at rfl)))) ?_) hne (by omega) (by omega) ok)) ?_
  · congr 1
    split <;> omega
  dsimp only [List.set_cons_zero, List.set_cons_succ]
  have last : ∀ t, (lay r t).getD ((lay r t).length - 1) default = (lay r t).getD (r.length - 1) default := fun t => by rw [lay_len]
  have hlay : ∀ t, lay r t ≠ [] := fun t z => by
    have := lay_len r t
    rw [z] at this
    simp at this
    omega
  refine r_set (d := .int (feeOf r m)) (evd_if (evt_test (evd_lt (evd_at rfl) (evd_lenm (xs := r) (en := eHs) (evl_d (evd_at rfl))))) (fun h => ?_) (fun h => ?_)) ?_
  · have h := of_decide_eq_true h
    have hm : m < r.length := by omega
    refine evd_is (evd_sub (evd_ixt0 (evd_ixl (xs := lay r (m - 1)) (en := eHs) (evl_d (evd_is (evd_ixm (xs := layT r (min (m + 1) r.length)) (en := eRow) (evl_d (evd_at rfl)) (evd_sub (evd_at rfl) evd_int) (by omega) (by rw [layT_len]; omega)) ?_)) (hlay _))) (evd_ixt0 (evd_ixl (xs := lay r m) (en := eHs) (evl_d (evd_is (evd_ixm (xs := layT r (min (m + 1) r.length)) (en := eRow) (evl_d (evd_at rfl)) (evd_at rfl) (by omega) (by rw [layT_len]; omega)) ?_)) (hlay _)))) ?_
    · have : ((m : Int) - 1).toNat = m - 1 := by omega
      rw [this, layT_get r (by omega)]
    · rw [Int.toNat_natCast, layT_get r (by omega)]
    · rw [last, last]
      unfold feeOf
      rw [if_pos hm]
      rfl
  · have h := of_decide_eq_false h
    refine evd_is evd_int ?_
    unfold feeOf
    rw [if_neg (by omega)]
  dsimp only [List.set_cons_zero, List.set_cons_succ]
  refine r_set (d := eInts (bdL r (feeOf r m))) (evd_is (evd_n (evn_lcL (α := Int × Int) default (xs := ledL r (feeOf r m) r.length) (en := eHs) (f := fun x => .int x.1) (evd_n (ev_led (evd_at rfl) (evd_at rfl) (evd_at rfl) ok)) (by rw [ledL_len]; omega) fun x hx => evd_ixt0 (evd_at rfl))) ?_) ?_
  · unfold bdL eInts
    rw [List.map_map]
    rfl
  dsimp only [List.set_cons_zero, List.set_cons_succ]
  exact r_retO (evnb_make (evmk3 (evl_n (ev_posts_by (evd_at rfl) (evd_at rfl) (evd_at rfl) (evd_at rfl) h1 (by omega) (by omega) ok)) (evl_d (evd_at rfl)) (evd_at rfl)) rfl) k
theorem ev_best {r : List (Int × Int)} {m : Nat} (ha : EvD K ta δ (eRoad r)) (hb : EvD K tb δ (.int (m : Int))) (h1 : 1 ≤ m) (h2 : m ≤ r.length) (ok : RoadOk r) : EvNB K (tCall (sp_best K) [] E0 (tCons ta (tCons tb tNil))) δ (He.ga K "Best") (nats (pb r m r.length)) (bdL r (feeOf r m)) (some (feeOf r m)) :=
  evnb_call (ea_cons ha (ea_cons hb ea_nil)) ⟨r, m, rfl, h1, h2, ok, rfl, rfl, rfl⟩
theorem run_ways : ∀ ds d, R_ways ds d → ∀ B D, RtN K B D d → RunS K B (t_ways K) D (ds.map Sl.d ++ List.replicate (4 - ds.length) Sl.no) := by
  rintro _ _ ⟨r, m, rfl, ok, rfl⟩ B D k
  show RunS K B (t_ways K) D [.d (eRoad r), .d (.int m), .no, .no]
  have hn := ok.len
  refine r_drop (ev_asked_road (evd_at rfl) ok) (r_drop (ev_asked_number (evd_at rfl) (by omega)) ?_)
  refine r_when (evt_or (evt_test (evd_eqE (evr_d (evd_at rfl)) ((shp_road _).ok (by decide)))) fun _ => evt_test (evd_eqI (evd_at rfl) evd_int)) (fun h => ?_) (fun h => ?_)
  · refine r_retN (evn_is (evn_lst ea_nil (by simp)) ?_) k
    rw [map_nil] at h
    have : min m r.length = 0 := by
      simp only [Bool.or_eq_true, decide_eq_true_eq] at h
      rcases h with h | h
      · rw [h]; simp
      · omega
    unfold waysL
    rw [this]
    rfl
  · rw [map_nil] at h
    simp only [Bool.or_eq_false_iff, decide_eq_false_iff_not] at h
    obtain ⟨hne, hm0⟩ := h
    have hp : 0 < r.length := List.length_pos_iff.mpr hne
    have hlay : ∀ t, lay r t ≠ [] := fun t z => by
      have := lay_len r t
      rw [z] at this
      simp at this
      omega
    refine r_set (d := eTab (layT r (min m r.length))) (evd_n (ev_layers (m := min m r.length) (evd_at rfl) (evd_n (ev_middles (evd_at rfl) ok)) (evd_is (evd_min2 (evd_at rfl) (evd_lenm (xs := r) (en := eHs) (evl_d (evd_at rfl)))) ?_) hne (by omega) (by omega) ok)) ?_
    · congr 1
      split <;> omega
    dsimp only [List.set_cons_zero, List.set_cons_succ]
    refine r_retN (evn_is (evn_lcL (α := List (Int × Int)) default (xs := layT r (min m r.length)) (en := eRow) (f := fun l => .int (l.getD (l.length - 1) default).1) (evd_at rfl) (by rw [layT_len]; omega) fun l hl => ?_) ?_) k
    · obtain ⟨t, _, rfl⟩ := List.mem_map.mp hl
      exact evd_ixt0 (evd_ixl (xs := lay r t) (en := eHs) (evl_d (evd_at rfl)) (hlay t))
    · unfold layT waysL
      rw [List.map_map, List.map_map]
      refine List.map_congr_left fun t _ => ?_
      show PyData.int ((lay r t).getD ((lay r t).length - 1) default).1 = .int (V r (t + 1) r.length)
      rw [lay_len]
      rfl
theorem ev_ways {r : List (Int × Int)} {m : Nat} (ha : EvD K ta δ (eRoad r)) (hb : EvD K tb δ (.int (m : Int))) (ok : RoadOk r) : EvN K (tCall (sp_ways K) [] E0 (tCons ta (tCons tb tNil))) δ ((waysL r m).map .int) :=
  evn_call (ea_cons ha (ea_cons hb ea_nil)) ⟨r, m, rfl, ok, rfl⟩
end
end Ph

set_option Elab.async false
set_option linter.all false
set_option maxRecDepth 100000
set_option maxHeartbeats 2000000
namespace Ph
open PySem PySem.Spec L2
/-! ### what raises -/
/-- te raises an own error of the class at C -/
def EvX (K : PySem.W.Frag) (te : TE) (δ : List Sl) (C : Addr) (W : WX) : Prop := ∀ B σ H G F, GoodAt K B δ σ H G F → (∀ G' H', Nu G H G' H' → W (.ref C) none σ H') → ∀ Q : VK, te σ H Q
/-- called with data ds it raises an own error of the class c -/
def PrX (K : PySem.W.Frag) (R : List PyData → Str → Prop) : Sp := fun vs H _ E => ∃ G ds c, Same G H ∧ DpAll K G vs ds ∧ R ds c ∧ ∀ G' H', Nu G H G' H' → E (.ref (He.ga K c)) none H'
/-- what is wanted of an error that leaves -/
def XOk (K : PySem.W.Frag) (B : Bs) (W : WX) (δ : List Sl) (C : Addr) : Prop := ∀ σ H, Good K B δ σ H → W (.ref C) none σ H
abbrev WD (E : XK) : WX := fun cls d _ H => E cls d H
def tRaise (W : WX) (C : Addr) : TS := fun _ σ H => W (.ref C) none σ H
/-- one of the defs at fs is called -/
def tCallV (fs : List Addr) (sp : Sp) (E : St → XK) (tf : TE) (t : TA) : TE := fun σ H Q => tf σ H fun v H1 => (∃ f ∈ fs, v = .ref f) ∧ t σ H1 fun vs H2 => sp vs H2 Q (E σ)
def EvF (K : PySem.W.Frag) (tf : TE) (δ : List Sl) (fs : List Addr) : Prop := ∀ B σ H G F, GoodAt K B δ σ H G F → ∀ Q : VK, (∀ f G' H', f ∈ fs → Nu G H G' H' → Q (.ref f) H') → tf σ H Q
def tRefs : List Addr → TA
  | [] => tNil
  | f :: fs => tCons (tC (.ref f)) (tRefs fs)
section
variable {K : PySem.W.Frag} {δ : List Sl} {ta te tf ti : TE} {t : TA} {ds : List PyData} {R : List PyData → Str → Prop} {W : WX} {c : Str} {C : Addr} {fs : List Addr} {B : Bs} {D : Ends} {tz tu tw : TS} {b : Bool}
theorem evx_call (ha : EvA K t δ ds) (hr : R ds c) : EvX K (tCallS (PrX K R) (WE W) t) δ (He.ga K c) W := fun B σ H G F g k Q =>
  ha B σ H G F g _ fun vs G1 H1 n1 p => ⟨G1, ds, c, n1.s, p, hr, fun G' H' n => k G' H' (n1.trans n)⟩
theorem evx_callV (hf : EvF K tf δ fs) (ha : EvA K t δ ds) (hr : R ds c) : EvX K (tCallV fs (PrX K R) (WE W) tf t) δ (He.ga K c) W := fun B σ H G F g k Q =>
  hf B σ H G F g _ fun f G0 H0 hm n0 => ⟨⟨f, hm, rfl⟩, ha B σ H0 G0 F (g.up n0) _ fun vs G1 H1 n1 p => ⟨G1, ds, c, n1.s, p, hr, fun G' H' n => k G' H' ((n0.trans n1).trans n)⟩⟩
theorem evx_if {tt : TT} (h : EvT K tt δ b) (h1 : b = true → EvX K ta δ C W) (h2 : b = false → EvX K te δ C W) : EvX K (tIf tt ta te) δ C W := fun B σ H G F g k Q => h B σ H G F g _ fun G1 H1 n1 => by
  cases b with
  | true => exact iteT (h1 rfl B σ H1 G1 F (g.up n1) (fun G2 H2 n2 => k G2 H2 (n1.trans n2)) Q)
  | false => exact iteF (h2 rfl B σ H1 G1 F (g.up n1) (fun G2 H2 n2 => k G2 H2 (n1.trans n2)) Q)
theorem refs_val : ∀ (fs : List Addr) (σ : L2.St) (H : Hp) (Q : List L2.V → Hp → Prop), Q (fs.map L2.V.ref) H → tRefs fs σ H Q
  | [], _, _, _, q => q
  | f :: fs, σ, H, Q, q => refs_val fs σ H _ q
theorem evf_pick {i : Int} (fs : List Addr) (hl : fs.length ≤ 1000) (hi : EvD K ti δ (.int i)) (h0 : 0 ≤ i) (h1 : i < fs.length) : EvF K (tOp (oIx K) (tLst (tRefs fs)) ti) δ fs := fun B σ H G F g Q q => by
  refine refs_val fs σ H _ ⟨by rw [List.length_map]; exact Nat.le_trans hl (by decide), fun p hp => ?_⟩
  have n1 : Nu G H G (upd H p (.lst (fs.map L2.V.ref))) := Nu.laid g.nu.s hp
  refine hi B σ _ G F (g.up n1) _ fun v G2 H2 n2 pv => ?_
  cases pv
  have hn : i.toNat < fs.length := by omega
  refine ⟨p, fs.map L2.V.ref, i, .ref (fs[i.toNat]), rfl, rfl, .inl (.inl (n2.h _ _ upd_same)), ?_, q _ G2 H2 (List.getElem_mem hn) (n1.trans n2)⟩
  unfold atI ixN
  rw [if_pos h0, List.length_map, if_pos h1]
  show (fs.map L2.V.ref)[i.toNat]? = _
  rw [List.getElem?_map, List.getElem?_eq_getElem hn]
  rfl
theorem r_dropX (h : EvX K te δ C W) (k : XOk K B W δ C) : RunS K B (tSeq (tDrop te) tz) D δ := fun σ H ⟨G, F, g⟩ =>
  h B σ H G F g (fun G' H' n => k σ H' ⟨_, _, g.up n⟩) _
theorem r_retX (h : EvX K te δ C W) (k : XOk K B W δ C) : RunS K B (tSeq (tRet te) tz) D δ := fun σ H ⟨G, F, g⟩ =>
  h B σ H G F g (fun G' H' n => k σ H' ⟨_, _, g.up n⟩) _
theorem r_raise (k : XOk K B W δ C) : RunS K B (tSeq (tRaise W C) tz) D δ := fun σ H g => k σ H g
/-- {} -/
def tDNew : TE := tDNewK
theorem evd_dnew : EvD K tDNew δ (.dict []) := fun B σ H G F g Q q => fun p hp => q _ _ _ (Nu.new g.nu.s hp) (.dct (.inl upd_same))
/-- i <= j < k <= l -/
theorem evt_lltlB {tb tc td : TE} {i j k l : Int} (ha : EvD K ta δ (.int i)) (hb : EvD K tb δ (.int j)) (hc : EvD K tc δ (.int k)) (hd : EvD K td δ (.int l)) : EvT K (tCh3 oLe oLt oLe ta tb tc td) δ (decide (i ≤ j) && (decide (j < k) && decide (k ≤ l))) := fun B σ H G F g Q q =>
  ha B σ H G F g _ fun x G1 H1 n1 p => hb B σ H1 G1 F (g.up n1) _ fun y G2 H2 n2 p2 => by
    cases p; cases p2
    refine ⟨i, j, rfl, rfl, _, rfl, ?_⟩
    cases e1 : decide (i ≤ j) with
    | false =>
      rw [e1] at q
      exact iteF (q G2 H2 (n1.trans n2))
    | true =>
      rw [e1] at q
      refine iteT (hc B σ H2 G2 F ((g.up n1).up n2) _ fun z G3 H3 n3 p3 => ?_)
      cases p3
      refine ⟨j, k, rfl, rfl, _, rfl, ?_⟩
      cases e2 : decide (j < k) with
      | false =>
        rw [e2] at q
        exact iteF (q G3 H3 ((n1.trans n2).trans n3))
      | true =>
        rw [e2] at q
        refine iteT (hd B σ H3 G3 F (((g.up n1).up n2).up n3) _ fun z4 G4 H4 n4 p4 => ?_)
        cases p4
        refine ⟨k, l, rfl, rfl, _, rfl, ?_⟩
        exact q G4 H4 (((n1.trans n2).trans n3).trans n4)
end
section
variable {P : Program} {w : World} {K : PySem.W.Frag} {mg : Str → Option Value} {base : Heap} {x qual : Str} {st : Stmt} {f : Addr} {fd : FuncData} {N ps : List Str} {k : Nat}
theorem ok_prX {t : WX → TS} {R : List PyData → Str → Prop} (F : Fun K x qual st f fd) (S : FnScope N ps (defScope st)) (len : ∀ ds c, R ds c → ds.length = ps.length)
    (hd : ∀ (cdv : Value) (A : Around) (outer : List Env) (s : Shared) (H : Hp) (E : XK), Room k (A.deeper (PyProof.Rows.envOfC qual (defScope st) s.heap.objs.size f cdv)) → PSs (cxOf (L2.CX P w) P w K mg base N qual (defScope st) f cdv A outer s H E) (defBody st) (t (WD E)))
    (run : ∀ ds c, R ds c → ∀ B (W : WX) D, (∀ δ, XOk K B W δ (He.ga K c)) → RunS K B (t W) D (ds.map Sl.d ++ List.replicate (N.length - ds.length) Sl.no)) : FnOk P w K mg base (L2.CX P w) (k + 1) f fd ps (PrX K R) := by
  refine F.okX S (fun vs H Q E h => ?_) (fun cdv A outer s H vs Q E hr h => ⟨t (WD E), hd cdv A outer s H E hr, ?_⟩)
  · obtain ⟨G, ds, c, _, p, r, _⟩ := h
    rw [dpAll_len p]; exact len ds c r
  · obtain ⟨G, ds, c, s0, p, r, q⟩ := h
    exact run ds c r ⟨G, G, H⟩ (WD E) _ (fun δ σ' H' ⟨G', F', g⟩ => q G' H' g.nu) _ _ (good_start s0 p)
/-- two promises of one def -/
theorem okX_or {CX : CXT} {RA RB R : List PyData → Str → Prop} (a : FnOk P w K mg base CX k f fd ps (PrX K RA)) (b : FnOk P w K mg base CX k f fd ps (PrX K RB)) (h : ∀ ds c, R ds c → RA ds c ∨ RB ds c) : FnOk P w K mg base CX k f fd ps (PrX K R) where
  len := fun vs H Q E ⟨G, ds, c, s, p, r, q⟩ => by
    rcases h ds c r with z | z
    · exact a.len vs H Q E ⟨G, ds, c, s, p, z, q⟩
    · exact b.len vs H Q E ⟨G, ds, c, s, p, z, q⟩
  run := fun A outer s H args us vs Q E hr he hb hv ⟨G, ds, c, s0, p, r, q⟩ => by
    rcases h ds c r with z | z
    · exact a.run A outer s H args us vs Q E hr he hb hv ⟨G, ds, c, s0, p, z, q⟩
    · exact b.run A outer s H args us vs Q E hr he hb hv ⟨G, ds, c, s0, p, z, q⟩
theorem okX_imp {CX : CXT} {RA R : List PyData → Str → Prop} (a : FnOk P w K mg base CX k f fd ps (PrX K RA)) (h : ∀ ds c, R ds c → RA ds c) : FnOk P w K mg base CX k f fd ps (PrX K R) :=
  a.imp fun vs H Q E ⟨G, ds, c, s, p, r, q⟩ => ⟨G, ds, c, s, p, h ds c r, q⟩
/-- a def that may raise -/
structure ClX (P : Program) (w : World) (K : PySem.W.Frag) (mg : Str → Option Value) (base : Heap) (k : Nat) (x : Str) (sp : Sp) : Prop where
  ex : ∃ (fd : FuncData) (ps : List Str), FnOk P w K mg base (L2.CX P w) k (He.ga K x) fd ps sp ∧ PySem.W.keepIn K (.ref (He.ga K x)) = true ∧ Binds K fd ps []
  g : mg x = some (.ref (He.ga K x))
end
section
variable {X : Cx} {k j : Nat} {x : Str} {sp : Sp} {p pos pos2 : Pos} {e fe : Expr} {es : List Expr} {t : TA} {tf : TE} {W : WX}
theorem pcX (c : ClX X.prog X.w X.K X.mg X.base k x sp) (tk : Takes X W) (hr : Room j X.A) (hk : k ≤ j) (hg : Gl X x) (ha : PA X (e :: es) t)
    (hdb : (x == ("__debug__" : Str)) = false := by decide) (he : starEach (e :: es) X.env = (false, eval e X.env) :: starEach es X.env := by rfl) (hpl : (backTo pos (starEach es X.env)).any (·.1) = false := by rfl) :
    PE X (.Call (.Name x p) (e :: es) [] pos) (tCallS sp (WE W) t) := by
  obtain ⟨fd, ps, F, kp, b⟩ := c.ex
  exact pe_callS F (hr.mono hk) hg c.g kp b (fun σ => passAt tk σ) ha hdb he hpl
/-- the classes of errors -/
structure XC (K : PySem.W.Frag) (mg : Str → Option Value) (x : Str) : Prop where
  g : mg x = some (.ref (He.ga K x))
  q : PySem.W.excIn K (He.ga K x) [.type "ValueError", .type "Exception", .type "BaseException", .type "object"] "ValueError.__new__" = true
  kp : PySem.W.keepIn K (.ref (He.ga K x)) = true
  b : PySem.W.subIn K (.ref (He.ga K x)) (.type "BaseException") = some true
  t : PySem.W.typeIn K (.ref (He.ga K x)) = some (.type "type")
theorem ps_raiseX {m : Str} {jj : Nat} {p2 pos' : Pos} (c : XC X.K X.mg x) (hc : X.calm = true) (tk : Takes X W) (hg : Gl X x) (hdb : (x == ("__debug__" : Str)) = false := by decide) :
    PS X (.Raise (some (.Call (.Name x p) [.Constant (.str m) jj p2] [] pos)) none pos') (tRaise W (He.ga X.K x)) := ps_raise hc tk (pmk_own PySem.F.excBase_ValueError c.q c.g c.kp (raises_own c.b c.t) hg hdb)
/-- f(..), f what an expression gives -/
theorem pe_callV {fs : List Addr} (hf : ∀ f ∈ fs, ∃ (fd : FuncData) (ps : List Str), FnOk X.prog X.w X.K X.mg X.base (L2.CX X.prog X.w) k f fd ps sp ∧ PySem.W.keepIn X.K (.ref f) = true ∧ Binds X.K fd ps []) (tk : Takes X W) (hr : Room j X.A) (hk : k ≤ j) (hfe : PE X fe tf) (ha : PA X (e :: es) t)
    (hcl : eval (.Call fe (e :: es) [] pos) X.env = (do callWith pos (← eval fe X.env) [] (backTo pos (starEach (e :: es) X.env)) (backToKw pos (keywordEach [] X.env))) := by rfl)
    (he : starEach (e :: es) X.env = (false, eval e X.env) :: starEach es X.env := by rfl) (hpl : (backTo pos (starEach es X.env)).any (·.1) = false := by rfl) :
    PE X (.Call fe (e :: es) [] pos) (tCallV fs sp (WE W) tf t) := by
  refine ⟨fun pins s σ H Q I h => ?_⟩
  refine PyProof.Rows.Call_ (thn (hfe.run pins s σ H _ I h) fun u s1 ⟨v, H1, I1, r1, ⟨f, hm, ev⟩, q1⟩ => ?_) hcl
  subst ev
  obtain rfl : u = Value.ref f := r1
  obtain ⟨fd, ps, F, kp, b⟩ := hf f hm
  refine PySem.W.callWith_K (h₀ := X.base) I1.ok.mod.kin kp (thn (ha.run pos pins s1 σ H1 _ I1 q1) fun us s2 ⟨vs, H2, I2, r, q⟩ => ⟨I2.kIn, ?_⟩) he hpl
  exact run_fnS F (hr.mono hk) b (passAt tk σ) I2 r q
/-- isinstance(e, c), e the error that the suite holds -/
def rIsX (K : PySem.W.Frag) (a : Addr) (cls : Value) (d : Option Addr) : List L2.V → Hp → VK → Prop := fun xs H Q => ∃ D : Addr, cls = .ref D ∧ d = none ∧ ExcC K D ∧ rIsE K D a xs H Q
theorem call_isX {a : Addr} {cls : Value} {d : Option Addr} {oe : Obj} {pn : List (Addr × Obj)} (hz : Zc cls d oe) (hf : ∃ vs, oe.data = .fields vs) : CallR (X.suite a ((a, oe) :: pn)) (.builtin "isinstance") (rIsX X.K a cls d) := by
  intro pins s σ H xs us Q I r h
  obtain ⟨D, rfl, rfl, c, h⟩ := h
  exact call_isE c hz hf pins s σ H xs us Q I r h
end
end Ph

set_option Elab.async false
set_option linter.all false
set_option maxRecDepth 100000
set_option maxHeartbeats 2000000
namespace Ph
open PySem PySem.Spec L2
/-! ### what is refused -/
/-- no road -/
inductive BadRd : PyData → Prop where
  | kind {d : PyData} (h : isLB d = false) : BadRd d
  | house {ds : List PyData} (hl : ds.length ≤ 1000) (h : ds.all isHouse = false) : BadRd (.list ds)
  | rise {r : List (Int × Int)} (hl : r.length ≤ 1000) (h0 : ∀ h ∈ r, 0 ≤ h.2) (i : Nat) (hi : i + 1 < r.length) (h : ¬ (r.getD i default).1 < (r.getD (i + 1) default).1) : BadRd (eRoad r)
/-- no posts of n houses -/
inductive BadPs (n : Nat) : PyData → Prop where
  | kind {d : PyData} (h : isLB d = false) : BadPs n d
  | nums {ds : List PyData} (hl : ds.length ≤ 1000) (h : ds.all isNum = false) : BadPs n (.list ds)
  | posts {ps : List Int} (hl : ps.length ≤ 1000) (h : arePosts n ps = false) : BadPs n (eInts ps)
/-- no stretch of n houses -/
inductive BadSt (n : Nat) : PyData → PyData → Prop where
  | one {a b : PyData} (h : isNum a = false) : BadSt n a b
  | two {a b : PyData} (h : isNum b = false) : BadSt n a b
  | st {i j : Int} (h : ¬ (0 ≤ i ∧ i < j ∧ j ≤ n)) : BadSt n (.int i) (.int j)
inductive BadMn (n : Nat) : PyData → Prop where
  | kind {a : PyData} (h : isNum a = false) : BadMn n a
  | out {i : Int} (h : ¬ (1 ≤ i ∧ i ≤ n)) : BadMn n (.int i)
inductive BadNm : PyData → Prop where
  | kind {a : PyData} (h : isNum a = false) : BadNm a
  | neg {i : Int} (h : i < 0) : BadNm (.int i)
theorem BadNm.many {n : Nat} {a : PyData} : BadNm a → BadMn n a
  | .kind h => .kind h
  | .neg h => .out (by omega)
def RX_asked_road : List PyData → Str → Prop := fun ds c => ∃ d, ds = [d] ∧ BadRd d ∧ c = "BadRoad"
def RX_asked_posts : List PyData → Str → Prop := fun ds c => ∃ (r : List (Int × Int)) (d : PyData), ds = [eRoad r, d] ∧ r.length ≤ 1000 ∧ BadPs r.length d ∧ c = "BadPosts"
def RX_asked_stretch : List PyData → Str → Prop := fun ds c => ∃ (r : List (Int × Int)) (a b : PyData), ds = [eRoad r, a, b] ∧ BadSt r.length a b ∧ c = "BadStretch"
def RX_asked_many : List PyData → Str → Prop := fun ds c => ∃ (r : List (Int × Int)) (a : PyData), ds = [eRoad r, a] ∧ BadMn r.length a ∧ c = "BadMany"
def RX_asked_number : List PyData → Str → Prop := fun ds c => ∃ a : PyData, ds = [a] ∧ BadNm a ∧ c = "BadMany"
/-- no road, at a door -/
def RA2 : List PyData → Str → Prop := fun ds c => ∃ a b, ds = [a, b] ∧ BadRd a ∧ c = "BadRoad"
def RA3 : List PyData → Str → Prop := fun ds c => ∃ a b e, ds = [a, b, e] ∧ BadRd a ∧ c = "BadRoad"
def RB_posts : List PyData → Str → Prop := fun ds c => ∃ (r : List (Int × Int)) (b : PyData), ds = [eRoad r, b] ∧ RoadOk r ∧ BadPs r.length b ∧ c = "BadPosts"
def RB_stretch : List PyData → Str → Prop := fun ds c => ∃ (r : List (Int × Int)) (a b : PyData), ds = [eRoad r, a, b] ∧ RoadOk r ∧ BadSt r.length a b ∧ c = "BadStretch"
def RB_many : List PyData → Str → Prop := fun ds c => ∃ (r : List (Int × Int)) (b : PyData), ds = [eRoad r, b] ∧ RoadOk r ∧ BadMn r.length b ∧ c = "BadMany"
def RB_number : List PyData → Str → Prop := fun ds c => ∃ (r : List (Int × Int)) (b : PyData), ds = [eRoad r, b] ∧ RoadOk r ∧ BadNm b ∧ c = "BadMany"
def RX_posts : List PyData → Str → Prop := fun ds c => RA2 ds c ∨ RB_posts ds c
def RX_stretch : List PyData → Str → Prop := fun ds c => RA3 ds c ∨ RB_stretch ds c
def RX_many : List PyData → Str → Prop := fun ds c => RA2 ds c ∨ RB_many ds c
def RX_number : List PyData → Str → Prop := fun ds c => RA2 ds c ∨ RB_number ds c
theorem RX_number.many : ∀ ds c, RX_number ds c → RX_many ds c
  | _, _, .inl h => .inl h
  | _, _, .inr ⟨r, b, e, ok, h, q⟩ => .inr ⟨r, b, e, ok, h.many, q⟩
def RX_law_road_asked : List PyData → Str → Prop := fun ds c => ∃ w m : Int, ds = [.int w, .int m] ∧ 0 ≤ w ∧ 0 ≤ m ∧ m < 1000 ∧ c = "BadRoad"
def kCls (k : Int) : Str := if k = 0 then "BadRoad" else if k = 1 then "BadPosts" else if k = 2 then "BadStretch" else "BadMany"
def RX_law_others_asked : List PyData → Str → Prop := fun ds c => ∃ k w m : Int, ds = [.int k, .int w, .int m] ∧ 1 ≤ k ∧ k ≤ 3 ∧ 0 ≤ w ∧ 0 ≤ m ∧ m < 1000 ∧ c = kCls k
def tolL (k : Int) : List PyData := [.bool (decide (k = 0)), .bool (decide (k = 1)), .bool (decide (k = 2)), .bool (decide (k = 3)), .bool true]
def R_law_told : List PyData → List PyData → Prop := fun ds d => ∃ k w m : Int, ds = [.int k, .int w, .int m] ∧ 0 ≤ k ∧ k ≤ 3 ∧ 0 ≤ w ∧ 0 ≤ m ∧ m < 1000 ∧ d = tolL k
def sx_asked_road (K : PySem.W.Frag) : Sp := PrX K RX_asked_road
def sx_asked_posts (K : PySem.W.Frag) : Sp := PrX K RX_asked_posts
def sx_asked_stretch (K : PySem.W.Frag) : Sp := PrX K RX_asked_stretch
def sx_asked_many (K : PySem.W.Frag) : Sp := PrX K RX_asked_many
def sx_asked_number (K : PySem.W.Frag) : Sp := PrX K RX_asked_number
def sx_nearest (K : PySem.W.Frag) : Sp := PrX K RX_posts
def sx_way (K : PySem.W.Frag) : Sp := PrX K RX_posts
def sx_np (K : PySem.W.Frag) : Sp := PrX K RX_posts
def sx_middle (K : PySem.W.Frag) : Sp := PrX K RX_stretch
def sx_one_way (K : PySem.W.Frag) : Sp := PrX K RX_stretch
def sx_ms (K : PySem.W.Frag) : Sp := PrX K RX_stretch
def sx_best (K : PySem.W.Frag) : Sp := PrX K RX_many
def sx_ways (K : PySem.W.Frag) : Sp := PrX K RX_number
def sx_paying (K : PySem.W.Frag) : Sp := PrX K RX_number
def sx_bwp (K : PySem.W.Frag) : Sp := PrX K RX_number
def sx_law_road_asked (K : PySem.W.Frag) : Sp := PrX K RX_law_road_asked
def sx_law_others_asked (K : PySem.W.Frag) : Sp := PrX K RX_law_others_asked
def sp_law_told (K : PySem.W.Frag) : Sp := PrN K R_law_told
theorem lx_asked_road : ∀ ds c, RX_asked_road ds c → ds.length = 1 := by rintro _ _ ⟨_, rfl, _⟩; rfl
theorem lx_asked_posts : ∀ ds c, RX_asked_posts ds c → ds.length = 2 := by rintro _ _ ⟨_, _, rfl, _⟩; rfl
theorem lx_asked_stretch : ∀ ds c, RX_asked_stretch ds c → ds.length = 3 := by rintro _ _ ⟨_, _, _, rfl, _⟩; rfl
theorem lx_asked_many : ∀ ds c, RX_asked_many ds c → ds.length = 2 := by rintro _ _ ⟨_, _, rfl, _⟩; rfl
theorem lx_asked_number : ∀ ds c, RX_asked_number ds c → ds.length = 1 := by rintro _ _ ⟨_, rfl, _⟩; rfl
theorem lxA2 : ∀ ds c, RA2 ds c → ds.length = 2 := by rintro _ _ ⟨_, _, rfl, _⟩; rfl
theorem lxA3 : ∀ ds c, RA3 ds c → ds.length = 3 := by rintro _ _ ⟨_, _, _, rfl, _⟩; rfl
theorem lxB_posts : ∀ ds c, RB_posts ds c → ds.length = 2 := by rintro _ _ ⟨_, _, rfl, _⟩; rfl
theorem lxB_stretch : ∀ ds c, RB_stretch ds c → ds.length = 3 := by rintro _ _ ⟨_, _, _, rfl, _⟩; rfl
theorem lxB_many : ∀ ds c, RB_many ds c → ds.length = 2 := by rintro _ _ ⟨_, _, rfl, _⟩; rfl
theorem lxB_number : ∀ ds c, RB_number ds c → ds.length = 2 := by rintro _ _ ⟨_, _, rfl, _⟩; rfl
theorem lx_law_road_asked : ∀ ds c, RX_law_road_asked ds c → ds.length = 2 := by rintro _ _ ⟨_, _, rfl, _⟩; rfl
theorem lx_law_others_asked : ∀ ds c, RX_law_others_asked ds c → ds.length = 3 := by rintro _ _ ⟨_, _, _, rfl, _⟩; rfl
theorem len_law_told : ∀ ds d, R_law_told ds d → ds.length = 3 := by rintro _ _ ⟨_, _, _, rfl, _⟩; rfl
end Ph

set_option Elab.async false
set_option linter.all false
set_option maxRecDepth 100000
namespace Ph
open PySem PySem.Spec L2
def tx_asked_road (K : PySem.W.Frag) (W : WX) : TS := (tSeq (tIfS (tOr (tNot (tB (tCB (cIsi K) (tCons (tVar 0) (tCons (tC (.ty "list")) tNil))))) (tNot (tB (tCB (cAll K) (tCons (tLc (iList K (tVar 0)) (gName 1) tYes (tCall (sp_is_house K) [] E0 (tCons (tVar 1) tNil)) [1]) tNil)))))
   (tSeq (tRaise W (He.ga K "BadRoad"))
  tNext) tNext)
  (tSeq (tIfS (tNot (tB (tCB (cAll K) (tCons (tLc (iRng1 (tCons (tOp oSub (tCB (cLen K) (tCons (tVar 0) tNil)) (tC (.int 1))) tNil)) (gName 2) tYes (tOp oLt (tOp (oIxT K) (tOp (oIx K) (tVar 0) (tVar 2)) (tC (.int 0))) (tOp (oIxT K) (tOp (oIx K) (tVar 0) (tOp oAdd (tVar 2) (tC (.int 1)))) (tC (.int 0)))) [2]) tNil))))
   (tSeq (tRaise W (He.ga K "BadRoad"))
  tNext) tNext)
  tNext))
def tx_asked_posts (K : PySem.W.Frag) (W : WX) : TS := (tSeq (tIfS (tOr (tNot (tB (tCB (cIsi K) (tCons (tVar 1) (tCons (tC (.ty "list")) tNil))))) (tOr (tNot (tB (tCB (cAll K) (tCons (tLc (iList K (tVar 1)) (gName 2) tYes (tCall (sp_is_number K) [] E0 (tCons (tVar 2) tNil)) [2]) tNil)))) (tNot (tB (tCall (sp_are_posts K) [] E0 (tCons (tVar 0) (tCons (tVar 1) tNil)))))))
   (tSeq (tRaise W (He.ga K "BadPosts"))
  tNext) tNext)
  tNext)
def tx_asked_stretch (K : PySem.W.Frag) (W : WX) : TS := (tSeq (tIfS (tOr (tNot (tB (tCall (sp_is_number K) [] E0 (tCons (tVar 1) tNil)))) (tOr (tNot (tB (tCall (sp_is_number K) [] E0 (tCons (tVar 2) tNil)))) (tNot (tCh3 oLe oLt oLe (tC (.int 0)) (tVar 1) (tVar 2) (tCB (cLen K) (tCons (tVar 0) tNil))))))
   (tSeq (tRaise W (He.ga K "BadStretch"))
  tNext) tNext)
  tNext)
def tx_asked_many (K : PySem.W.Frag) (W : WX) : TS := (tSeq (tIfS (tOr (tNot (tB (tCall (sp_is_number K) [] E0 (tCons (tVar 1) tNil)))) (tNot (tTest (tChain oLe oLe (tC (.int 1)) (tVar 1) (tCB (cLen K) (tCons (tVar 0) tNil))))))
   (tSeq (tRaise W (He.ga K "BadMany"))
  tNext) tNext)
  tNext)
def tx_asked_number (K : PySem.W.Frag) (W : WX) : TS := (tSeq (tIfS (tOr (tNot (tB (tCall (sp_is_number K) [] E0 (tCons (tVar 0) tNil)))) (tTest (tOp oLt (tVar 0) (tC (.int 0)))))
   (tSeq (tRaise W (He.ga K "BadMany"))
  tNext) tNext)
  tNext)
def tx_law_road_asked (K : PySem.W.Frag) (W : WX) : TS := (tSeq (tAsg (tOp (oIx K) (tLst (tCons (tTup (tCons (tC (.int 0)) (tCons (tOp oSub (tUn oNeg (tC (.int 1))) (tVar 1)) tNil))) (tCons (tTup (tCons (tC (.bl true)) (tCons (tC (.int 1)) tNil))) (tCons (tTup (tCons (tC (.int 0)) (tCons (tC (.bl true)) tNil))) (tCons (tTup (tCons (tC (.str "0")) (tCons (tC (.int 1)) tNil))) (tCons (tTup (tCons (tC (.int 0)) (tCons (tC .non) tNil))) (tCons (tLst (tCons (tC (.int 0)) (tCons (tC (.int 1)) tNil))) (tCons (tTup (tCons (tC (.int 0)) tNil)) (tCons (tTup (tCons (tC (.int 0)) (tCons (tC (.int 1)) (tCons (tC (.int 2)) tNil)))) (tCons (tC .non) (tCons (tC (.int 5)) tNil))))))))))) (tOp oMod (tVar 0) (tC (.int 10)))) (gName 2))
  (tSeq (tAsg (tLst (tCons (tOp (oCatL K) (tLc (iRng1 (tCons (tOp oMod (tVar 1) (tC (.int 9))) tNil)) (gName 4) tYes (tTup (tCons (tVar 4) (tCons (tC (.int 1)) tNil))) [4]) (tLst (tCons (tVar 2) tNil))) (tCons (tLst (tCons (tTup (tCons (tC (.int 3)) (tCons (tC (.int 1)) tNil))) (tCons (tTup (tCons (tC (.int 3)) (tCons (tC (.int 1)) tNil))) tNil))) (tCons (tLst (tCons (tTup (tCons (tC (.int 3)) (tCons (tC (.int 1)) tNil))) (tCons (tTup (tCons (tOp oSub (tC (.int 2)) (tVar 1)) (tCons (tC (.int 1)) tNil))) tNil))) tNil)))) (gName 3))
  (tSeq (tAsg (tOp (oCatL K) (tVar 3) (tLst (tCons (tC .non) (tCons (tTup (tCons (tTup (tCons (tC (.int 0)) (tCons (tC (.int 1)) tNil))) tNil)) tNil)))) (gName 3))
  (tSeq (tAsg (tOp (oIx K) (tOp (oCatL K) (tVar 3) (tLst (tCons (tOp (oCatL K) (tLst (tCons (tVar 2) tNil)) (tLst (tCons (tTup (tCons (tC (.int 9)) (tCons (tC (.int 1)) tNil))) tNil))) (tCons (tLst (tCons (tTup (tCons (tC (.int 0)) (tCons (tC (.int 1)) tNil))) (tCons (tVar 2) (tCons (tTup (tCons (tC (.int 9)) (tCons (tC (.int 2)) tNil))) tNil)))) (tCons (tC (.str "01")) (tCons tDNew tNil)))))) (tOp oMod (tOp oDiv (tVar 0) (tC (.int 10))) (tC (.int 9)))) (gName 5))
  (tSeq (tAsg (tOp oMod (tOp oDiv (tVar 0) (tC (.int 90))) (tC (.int 7))) (gName 6))
  (tSeq (tIfS (tTest (tOp oLt (tVar 6) (tC (.int 2))))
   (tSeq (tRet (tCallV [He.ga K "nearest", He.ga K "way"] (sx_np K) (WE W) (tOp (oIx K) (tLst (tRefs [He.ga K "nearest", He.ga K "way"])) (tVar 6)) (tCons (tVar 5) (tCons (tC .non) tNil))))
  tNext) tNext)
  (tSeq (tIfS (tTest (tOp oLt (tVar 6) (tC (.int 4))))
   (tSeq (tRet (tCallV [He.ga K "middle", He.ga K "one_way"] (sx_ms K) (WE W) (tOp (oIx K) (tLst (tRefs [He.ga K "middle", He.ga K "one_way"])) (tOp oSub (tVar 6) (tC (.int 2)))) (tCons (tVar 5) (tCons (tC .non) (tCons (tC .non) tNil)))))
  tNext) tNext)
  (tSeq (tRet (tCallV [He.ga K "best", He.ga K "ways", He.ga K "paying"] (sx_bwp K) (WE W) (tOp (oIx K) (tLst (tRefs [He.ga K "best", He.ga K "ways", He.ga K "paying"])) (tOp oSub (tVar 6) (tC (.int 4)))) (tCons (tVar 5) (tCons (tC .non) tNil))))
  tNext))))))))
def tx_law_others_asked (K : PySem.W.Frag) (W : WX) : TS := (tSeq (tAsg (tLst (tCons (tTup (tCons (tC (.int 0)) (tCons (tC (.int 4)) tNil))) (tCons (tTup (tCons (tC (.int 3)) (tCons (tC (.int 1)) tNil))) (tCons (tTup (tCons (tC (.int 8)) (tCons (tC (.int 2)) tNil))) tNil)))) (gName 3))
  (tSeq (tIfS (tTest (tOp oEqI (tOp oMod (tVar 2) (tC (.int 5))) (tC (.int 4))))
   (tSeq (tIfS (tTest (tOp oEqI (tVar 0) (tC (.int 1))))
   (tSeq (tRet (tIf (tTest (tOp oEqI (tOp oMod (tVar 1) (tC (.int 2))) (tC (.int 0)))) (tCallS (sx_nearest K) (WE W) (tCons (tLst tNil) (tCons (tLst (tCons (tC (.int 0)) tNil)) tNil))) (tCallS (sx_way K) (WE W) (tCons (tLst tNil) (tCons (tLst (tCons (tC (.int 0)) tNil)) tNil)))))
  tNext) tNext)
  (tSeq (tIfS (tTest (tOp oEqI (tVar 0) (tC (.int 2))))
   (tSeq (tRet (tIf (tTest (tOp oEqI (tOp oMod (tVar 1) (tC (.int 2))) (tC (.int 0)))) (tCallS (sx_middle K) (WE W) (tCons (tLst tNil) (tCons (tC (.int 0)) (tCons (tC (.int 0)) tNil)))) (tCallS (sx_one_way K) (WE W) (tCons (tLst tNil) (tCons (tC (.int 0)) (tCons (tC (.int 1)) tNil))))))
  tNext) tNext)
  (tSeq (tRet (tCallS (sx_best K) (WE W) (tCons (tLst tNil) (tCons (tOp oAdd (tC (.int 1)) (tOp oMod (tVar 1) (tC (.int 3)))) tNil))))
  tNext))) tNext)
  (tSeq (tIfS (tTest (tOp oEqI (tVar 0) (tC (.int 1))))
   (tSeq (tAsg (tLst (tCons (tC .non) (tCons (tTup (tCons (tC (.int 0)) tNil)) (tCons (tC (.str "0")) (tCons (tC (.int 0)) (tCons (tLst tNil) (tCons (tLst (tCons (tOp oAdd (tC (.int 3)) (tVar 2)) tNil)) (tCons (tLst (tCons (tOp oSub (tUn oNeg (tC (.int 1))) (tVar 2)) tNil)) (tCons (tLst (tCons (tC (.bl true)) tNil)) (tCons (tLst (tCons (tC (.str "0")) tNil)) (tCons (tLst (tCons (tC .non) tNil)) (tCons (tLst (tCons (tC (.int 1)) (tCons (tC (.int 0)) tNil))) (tCons (tLst (tCons (tC (.int 0)) (tCons (tC (.int 0)) tNil))) tNil))))))))))))) (gName 4))
  (tSeq (tRet (tCallV [He.ga K "nearest", He.ga K "way"] (sx_np K) (WE W) (tOp (oIx K) (tLst (tRefs [He.ga K "nearest", He.ga K "way"])) (tOp oMod (tOp oDiv (tVar 1) (tC (.int 13))) (tC (.int 2)))) (tCons (tVar 3) (tCons (tOp (oIx K) (tOp (oCatL K) (tVar 4) (tLst (tCons (tLst (tCons (tC (.int 0)) (tCons (tC (.int 1)) (tCons (tC (.int 2)) (tCons (tC (.int 3)) tNil))))) tNil))) (tOp oMod (tVar 1) (tC (.int 13)))) tNil))))
  tNext)) tNext)
  (tSeq (tIfS (tTest (tOp oEqI (tVar 0) (tC (.int 2))))
   (tSeq (tAsg (tLst (tCons (tTup (tCons (tC .non) (tCons (tC (.int 2)) tNil))) (tCons (tTup (tCons (tC (.int 0)) (tCons (tC .non) tNil))) (tCons (tTup (tCons (tC (.int 1)) (tCons (tC (.int 1)) tNil))) (tCons (tTup (tCons (tC (.int 2)) (tCons (tC (.int 1)) tNil))) (tCons (tTup (tCons (tOp oSub (tUn oNeg (tC (.int 1))) (tVar 2)) (tCons (tC (.int 2)) tNil))) (tCons (tTup (tCons (tC (.int 0)) (tCons (tOp oAdd (tC (.int 4)) (tVar 2)) tNil))) (tCons (tTup (tCons (tC (.bl true)) (tCons (tC (.int 2)) tNil))) (tCons (tTup (tCons (tC (.int 0)) (tCons (tC (.bl true)) tNil))) tNil))))))))) (gName 4))
  (tSeq (tAsg (tOp (oIx K) (tVar 4) (tOp oMod (tVar 1) (tC (.int 8)))) (gTup K 2 (gCons (gName 5) (gCons (gName 6) gNil))))
  (tSeq (tRet (tCallV [He.ga K "middle", He.ga K "one_way"] (sx_ms K) (WE W) (tOp (oIx K) (tLst (tRefs [He.ga K "middle", He.ga K "one_way"])) (tOp oMod (tOp oDiv (tVar 1) (tC (.int 8))) (tC (.int 2)))) (tCons (tVar 3) (tCons (tVar 5) (tCons (tVar 6) tNil)))))
  tNext))) tNext)
  (tSeq (tAsg (tOp (oIx K) (tLst (tCons (tC .non) (tCons (tC (.str "1")) (tCons (tC (.bl true)) (tCons (tLst (tCons (tC (.int 1)) tNil)) (tCons (tOp oSub (tUn oNeg (tC (.int 1))) (tVar 2)) (tCons (tTup (tCons (tC (.int 1)) tNil)) (tCons tDNew tNil)))))))) (tOp oMod (tVar 1) (tC (.int 7)))) (gName 4))
  (tSeq (tAsg (tOp oMod (tOp oDiv (tVar 1) (tC (.int 7))) (tC (.int 4))) (gName 7))
  (tSeq (tIfS (tTest (tOp oEqI (tVar 7) (tC (.int 3))))
   (tSeq (tRet (tCallS (sx_best K) (WE W) (tCons (tVar 3) (tCons (tOp (oIx K) (tLst (tCons (tC (.int 0)) (tCons (tOp oAdd (tC (.int 4)) (tVar 2)) tNil))) (tOp oMod (tOp oDiv (tVar 1) (tC (.int 28))) (tC (.int 2)))) tNil))))
  tNext) tNext)
  (tSeq (tRet (tCallV [He.ga K "best", He.ga K "ways", He.ga K "paying"] (sx_bwp K) (WE W) (tOp (oIx K) (tLst (tRefs [He.ga K "best", He.ga K "ways", He.ga K "paying"])) (tVar 7)) (tCons (tVar 3) (tCons (tVar 4) tNil))))
  tNext))))))))
/-! doors -/
def txA (K : PySem.W.Frag) (W : WX) : TS := tSeq (tDrop (tCallS (sx_asked_road K) (WE W) (tCons (tVar 0) tNil))) tNever
def txB_posts (K : PySem.W.Frag) (W : WX) : TS := tSeq (tDrop (tCall (sp_asked_road K) [] E0 (tCons (tVar 0) tNil))) (tSeq (tDrop (tCallS (sx_asked_posts K) (WE W) (tCons (tVar 0) (tCons (tVar 1) tNil)))) tNever)
def txB_stretch (K : PySem.W.Frag) (W : WX) : TS := tSeq (tDrop (tCall (sp_asked_road K) [] E0 (tCons (tVar 0) tNil))) (tSeq (tDrop (tCallS (sx_asked_stretch K) (WE W) (tCons (tVar 0) (tCons (tVar 1) (tCons (tVar 2) tNil))))) tNever)
def txB_many (K : PySem.W.Frag) (W : WX) : TS := tSeq (tDrop (tCall (sp_asked_road K) [] E0 (tCons (tVar 0) tNil))) (tSeq (tDrop (tCallS (sx_asked_many K) (WE W) (tCons (tVar 0) (tCons (tVar 1) tNil)))) tNever)
def txB_number (K : PySem.W.Frag) (W : WX) : TS := tSeq (tDrop (tCall (sp_asked_road K) [] E0 (tCons (tVar 0) tNil))) (tSeq (tDrop (tCallS (sx_asked_number K) (WE W) (tCons (tVar 1) tNil))) tNever)
/-! _law_told -/
def tt_body (K : PySem.W.Frag) (W : WX) : TS := tSeq (tIfS (tTest (tOp oEqI (tVar 0) (tC (.int 0))))
   (tSeq (tDrop (tCallS (sx_law_road_asked K) (WE W) (tCons (tVar 1) (tCons (tVar 2) tNil)))) tNext)
   (tSeq (tDrop (tCallS (sx_law_others_asked K) (WE W) (tCons (tVar 0) (tCons (tVar 1) (tCons (tVar 2) tNil))))) tNext)) tNext
def tt_is (K : PySem.W.Frag) (a : Addr) (cls : Value) (d : Option Addr) (v : L2.V) : TE := tCB (rIsX K a cls d) (tCons (tVar 3) (tCons (tC v) tNil))
def tt_suite (K : PySem.W.Frag) (a : Addr) (cls : Value) (d : Option Addr) : TS :=
  tSeq (tAsg (tLst (tCons (tt_is K a cls d (.ref (He.ga K "BadRoad"))) (tCons (tt_is K a cls d (.ref (He.ga K "BadPosts"))) (tCons (tt_is K a cls d (.ref (He.ga K "BadStretch"))) tNil)))) (gName 4))
  (tSeq (tRet (tOp (oCatL K) (tVar 4) (tLst (tCons (tt_is K a cls d (.ref (He.ga K "BadMany"))) (tCons (tt_is K a cls d (.ty "ValueError")) tNil))))) tNext)
def t_law_told (K : PySem.W.Frag) : TS := tSeq (fun D σ H => tt_body K (wAs K (.ref (He.ga K "PostError")) 3 (tt_suite K) (fun _ _ _ _ => False) D) D σ H) tNever
def t_law_k07 (K : PySem.W.Frag) : TS := (tSeq (tFor (iList K (tVar 0)) (gName 1)
   (tSeq (tAsg (tOp oMod (tVar 1) (tC (.int 4))) (gName 2))
  (tSeq (tAsg (tLst (tCons (tOp oEqI (tVar 2) (tC (.int 0))) (tCons (tOp oEqI (tVar 2) (tC (.int 1))) (tCons (tOp oEqI (tVar 2) (tC (.int 2))) (tCons (tOp oEqI (tVar 2) (tC (.int 3))) (tCons (tC (.bl true)) tNil)))))) (gName 3))
  (tSeq (tIfS (tTest (tOp (oNeD K) (tCall (sp_law_told K) [] E0 (tCons (tVar 2) (tCons (tOp oMod (tOp oDiv (tVar 1) (tC (.int 4))) (tC (.int 100000))) (tCons (tOp oMod (tOp oDiv (tVar 1) (tC (.int 400000))) (tC (.int 1000))) tNil)))) (tVar 3)))
   (tSeq (tRet (tC (.bl false)))
  tNext) tNext)
  tNext))))
  (tSeq (tAsg (tLst (tCons (tTup (tCons (tUn oNeg (tOp oPow (tC (.int 10)) (tC (.int 40)))) (tCons (tOp oPow (tC (.int 10)) (tC (.int 40))) tNil))) (tCons (tTup (tCons (tOp oPow (tC (.int 10)) (tC (.int 40))) (tCons (tC (.int 1)) tNil))) tNil))) (gName 4))
  (tSeq (tRet (tAndV (tOp oEqI (tCall (sp_way K) [] E0 (tCons (tVar 4) (tCons (tLst (tCons (tC (.int 0)) tNil)) tNil))) (tOp oMul (tC (.int 2)) (tOp oPow (tC (.int 10)) (tC (.int 40))))) (tAndV (tOp (oEqD K) (tFld K (tCall (sp_best K) [] E0 (tCons (tVar 4) (tCons (tC (.int 2)) tNil))) "posts") (tLst (tCons (tC (.int 0)) (tCons (tC (.int 1)) tNil)))) (tOp (oEqD K) (tCall (sp_ways K) [] E0 (tCons (tLst (tCons (tTup (tCons (tC (.int 0)) (tCons (tC (.int 0)) tNil))) tNil)) (tCons (tC (.int 5)) tNil))) (tLst (tCons (tC (.int 0)) tNil))))))
  tNext)))
end Ph

set_option Elab.async false
set_option linter.all false
set_option maxRecDepth 100000
set_option maxHeartbeats 2000000
namespace Ph
open PySem PySem.Spec L2
section
variable {K : PySem.W.Frag} {δ : List Sl} {ta tb tc te : TE} {d e f : PyData}
theorem all_bool (p : PyData → Bool) (ds : List PyData) : (ds.map p).all id = ds.all p := by
  rw [List.all_map]
  rfl
theorem run_x_asked_road : ∀ ds c, RX_asked_road ds c → ∀ B (W : WX) D, (∀ δ, XOk K B W δ (He.ga K c)) → RunS K B (tx_asked_road K W) D (ds.map Sl.d ++ List.replicate (3 - ds.length) Sl.no) := by
  rintro _ _ ⟨d, rfl, h, rfl⟩ B W D k
  show RunS K B (tx_asked_road K W) D [.d d, .no, .no]
  have isi : EvT K (tNot (tB (tCB (cIsi K) (tCons (tVar 0) (tCons (tC (.ty "list")) tNil))))) [.d d, .no, .no] (!isLB d) := evt_not (evt_B (evd_isi (evr_d (evd_at rfl)) (isi_list d)))
  cases h with
  | kind h =>
    rw [h] at isi
    exact r_when (b := true) (evt_or (b := false) isi (fun z => nomatch z)) (fun _ => r_raise (k _)) (fun z => nomatch z)
  | @house ds hl h =>
    refine r_when (b := true) (evt_is (evt_or isi fun _ => evt_not (evt_B (evd_all (ns := ds.map isHouse) (evl_is (evl_n (evn_lcL (α := PyData) .none (xs := ds) (en := id) (f := fun x => .bool (isHouse x)) (evd_is (evd_at rfl) (by rw [List.map_id])) (by omega) fun x hx => ev_is_house (evd_at rfl))) ?_)))) ?_) (fun _ => r_raise (k _)) (fun z => nomatch z)
    · rw [List.map_map]; rfl
    · rw [all_bool, h]; rfl
  | @rise r hl h0 i hi h =>
    refine r_skip (evt_is (evt_or isi fun _ => evt_not (evt_B (evd_all (ns := r.map fun _ => true) (evl_is (evl_n (evn_lcL (α := Int × Int) default (xs := r) (en := eHs) (f := fun _ => .bool true) (evd_at rfl) (by omega) fun x hx => evd_is (ev_is_house (evd_at rfl)) ?_)) ?_)))) ?_) ?_
    · rw [isHouse_hs x (h0 x hx)]
    · rw [List.map_map]; rfl
    · have e : (r.map fun _ => true).all id = true := by rw [List.all_map]; exact List.all_eq_true.mpr fun _ _ => rfl
      rw [e]; rfl
    refine r_when (b := true) (evt_is (evt_not (evt_B (evd_all (ns := (List.range (r.length - 1)).map fun j => decide ((r.getD j default).1 < (r.getD (j + 1) default).1)) (evl_is (evl_n (evn_lcR (n := r.length - 1) (f := fun j => .bool (decide ((r.getD j default).1 < (r.getD (j + 1) default).1))) (evd_is (evd_sub (evd_lenm (en := eHs) (xs := r) (evl_d (evd_at rfl))) evd_int) ?_) (by omega) fun i hi => ?_)) ?_)))) ?_) (fun _ => r_raise (k _)) (fun z => nomatch z)
    · have e : ((r.length - 1 : Nat) : Int) = (r.length : Int) - 1 := by omega
      rw [e]
    · refine evd_is (evd_lt (evd_ixt0 (evd_ixm (xs := r) (en := eHs) (evl_d (evd_at rfl)) (evd_at rfl) (by omega) (by omega))) (evd_ixt0 (evd_ixm (xs := r) (en := eHs) (evl_d (evd_at rfl)) (evd_add (evd_at rfl) evd_int) (by omega) (by omega)))) ?_
      rw [Int.toNat_natCast, toNat_add1]
    · rw [List.map_map]; rfl
    · have e : ((List.range (r.length - 1)).map fun j => decide ((r.getD j default).1 < (r.getD (j + 1) default).1)).all id = false :=
        List.all_eq_false.mpr ⟨_, List.mem_map.mpr ⟨i, List.mem_range.mpr (by omega), rfl⟩, by rw [decide_eq_false h]; exact Bool.false_ne_true⟩
      rw [e]; rfl
theorem run_x_asked_posts : ∀ ds c, RX_asked_posts ds c → ∀ B (W : WX) D, (∀ δ, XOk K B W δ (He.ga K c)) → RunS K B (tx_asked_posts K W) D (ds.map Sl.d ++ List.replicate (3 - ds.length) Sl.no) := by
  rintro _ _ ⟨r, d, rfl, hr, h, rfl⟩ B W D k
  show RunS K B (tx_asked_posts K W) D [.d (eRoad r), .d d, .no]
  have isi : EvT K (tNot (tB (tCB (cIsi K) (tCons (tVar 1) (tCons (tC (.ty "list")) tNil))))) [.d (eRoad r), .d d, .no] (!isLB d) := evt_not (evt_B (evd_isi (evr_d (evd_at rfl)) (isi_list d)))
  cases h with
  | kind h =>
    rw [h] at isi
    exact r_when (b := true) (evt_or (b := false) isi (fun z => nomatch z)) (fun _ => r_raise (k _)) (fun z => nomatch z)
  | @nums ds hl h =>
    refine r_when (b := true) (evt_is (evt_or isi fun _ => evt_or (b := false) (evt_not (evt_B (evd_all (ns := ds.map isNum) (evl_is (evl_n (evn_lcL (α := PyData) .none (xs := ds) (en := id) (f := fun x => .bool (isNum x)) (evd_is (evd_at rfl) (by rw [List.map_id])) (by omega) fun x hx => ev_is_number (evd_at rfl))) ?_)))) (fun z => ?_)) ?_) (fun _ => r_raise (k _)) (fun z => nomatch z)
    · rw [List.map_map]; rfl
    · rw [all_bool, h] at z; cases z
    · rw [all_bool, h]; rfl
  | @posts ps hl h =>
    refine r_when (b := true) (evt_is (evt_or isi fun _ => evt_or (evt_not (evt_B (evd_all (ns := ps.map fun _ => true) (evl_is (evl_n (evn_lcL (α := Int) default (xs := ps) (en := PyData.int) (f := fun _ => .bool true) (evd_at rfl) (by omega) fun x hx => evd_is (ev_is_number (evd_at rfl)) rfl)) ?_)))) fun _ => evt_not (evt_B (ev_are_posts (evd_at rfl) (evd_at rfl) hr))) ?_) (fun _ => r_raise (k _)) (fun z => nomatch z)
    · rw [List.map_map]; rfl
    · rw [h]
      have e : (ps.map fun _ => true).all id = true := by rw [List.all_map]; exact List.all_eq_true.mpr fun _ _ => rfl
      rw [e]; rfl
theorem run_x_asked_stretch : ∀ ds c, RX_asked_stretch ds c → ∀ B (W : WX) D, (∀ δ, XOk K B W δ (He.ga K c)) → RunS K B (tx_asked_stretch K W) D (ds.map Sl.d ++ List.replicate (3 - ds.length) Sl.no) := by
  rintro _ _ ⟨r, a, b, rfl, h, rfl⟩ B W D k
  show RunS K B (tx_asked_stretch K W) D [.d (eRoad r), .d a, .d b]
  cases h with
  | one h =>
    refine r_when (b := true) (evt_is (evt_or (b := false) (evt_not (evt_B (ev_is_number (evd_at rfl)))) (fun z => ?_)) ?_) (fun _ => r_raise (k _)) (fun z => nomatch z)
    · rw [h] at z; cases z
    · rw [h]; rfl
  | two h =>
    refine r_when (b := true) (evt_is (evt_or (evt_not (evt_B (ev_is_number (evd_at rfl)))) (fun _ => evt_or (b := false) (evt_not (evt_B (ev_is_number (evd_at rfl)))) (fun z => ?_))) ?_) (fun _ => r_raise (k _)) (fun z => nomatch z)
    · rw [h] at z; cases z
    · rw [h]; cases isNum a <;> rfl
  | @st i j h =>
    refine r_when (b := true) (evt_is (evt_or (evt_not (evt_B (ev_is_number (evd_at rfl)))) (fun _ => evt_or (evt_not (evt_B (ev_is_number (evd_at rfl)))) (fun _ => evt_not (evt_lltlB evd_int (evd_at rfl) (evd_at rfl) (evd_lenm (xs := r) (en := eHs) (evl_d (evd_at rfl))))))) ?_) (fun _ => r_raise (k _)) (fun z => nomatch z)
    show (!(decide ((0 : Int) ≤ i) && (decide (i < j) && decide (j ≤ (r.length : Int))))) = true
    rw [Bool.not_eq_true', ← Bool.not_eq_true]
    simp only [Bool.and_eq_true, decide_eq_true_eq]
    exact h
theorem run_x_asked_many : ∀ ds c, RX_asked_many ds c → ∀ B (W : WX) D, (∀ δ, XOk K B W δ (He.ga K c)) → RunS K B (tx_asked_many K W) D (ds.map Sl.d ++ List.replicate (2 - ds.length) Sl.no) := by
  rintro _ _ ⟨r, a, rfl, h, rfl⟩ B W D k
  show RunS K B (tx_asked_many K W) D [.d (eRoad r), .d a]
  cases h with
  | kind h =>
    refine r_when (b := true) (evt_is (evt_or (b := false) (evt_not (evt_B (ev_is_number (evd_at rfl)))) (fun z => ?_)) ?_) (fun _ => r_raise (k _)) (fun z => nomatch z)
    · rw [h] at z; cases z
    · rw [h]; rfl
  | @out i h =>
    refine r_when (b := true) (evt_is (evt_or (evt_not (evt_B (ev_is_number (evd_at rfl)))) (fun _ => evt_not (evt_test (evd_lele evd_int (evd_at rfl) (evd_lenm (xs := r) (en := eHs) (evl_d (evd_at rfl))))))) ?_) (fun _ => r_raise (k _)) (fun z => nomatch z)
    show (!(decide ((1 : Int) ≤ i) && decide (i ≤ (r.length : Int)))) = true
    rw [Bool.not_eq_true', ← Bool.not_eq_true]
    simp only [Bool.and_eq_true, decide_eq_true_eq]
    exact h
theorem run_x_asked_number : ∀ ds c, RX_asked_number ds c → ∀ B (W : WX) D, (∀ δ, XOk K B W δ (He.ga K c)) → RunS K B (tx_asked_number K W) D (ds.map Sl.d ++ List.replicate (1 - ds.length) Sl.no) := by
  rintro _ _ ⟨a, rfl, h, rfl⟩ B W D k
  show RunS K B (tx_asked_number K W) D [.d a]
  cases h with
  | kind h =>
    refine r_when (b := true) (evt_is (evt_or (b := false) (evt_not (evt_B (ev_is_number (evd_at rfl)))) (fun z => ?_)) ?_) (fun _ => r_raise (k _)) (fun z => nomatch z)
    · rw [h] at z; cases z
    · rw [h]; rfl
  | @neg i h =>
    refine r_when (b := true) (evt_is (evt_or (evt_not (evt_B (ev_is_number (evd_at rfl)))) (fun _ => evt_test (evd_lt (evd_at rfl) evd_int))) ?_) (fun _ => r_raise (k _)) (fun z => nomatch z)
    rw [decide_eq_true h]; rfl
/-! doors -/
theorem run_xA2 {tl : List Sl} : ∀ ds c, RA2 ds c → ∀ B (W : WX) D, (∀ δ, XOk K B W δ (He.ga K c)) → RunS K B (txA K W) D (ds.map Sl.d ++ tl) := by
  rintro _ _ ⟨a, b, rfl, h, rfl⟩ B W D k
  exact r_dropX (evx_call (ea_cons (evd_at rfl) ea_nil) ⟨a, rfl, h, rfl⟩) (k _)
theorem run_xA3 {tl : List Sl} : ∀ ds c, RA3 ds c → ∀ B (W : WX) D, (∀ δ, XOk K B W δ (He.ga K c)) → RunS K B (txA K W) D (ds.map Sl.d ++ tl) := by
  rintro _ _ ⟨a, b, e, rfl, h, rfl⟩ B W D k
  exact r_dropX (evx_call (ea_cons (evd_at rfl) ea_nil) ⟨a, rfl, h, rfl⟩) (k _)
theorem run_xB_posts {tl : List Sl} : ∀ ds c, RB_posts ds c → ∀ B (W : WX) D, (∀ δ, XOk K B W δ (He.ga K c)) → RunS K B (txB_posts K W) D (ds.map Sl.d ++ tl) := by
  rintro _ _ ⟨r, b, rfl, ok, h, rfl⟩ B W D k
  exact r_drop (ev_asked_road (evd_at rfl) ok) (r_dropX (evx_call (ea_cons (evd_at rfl) (ea_cons (evd_at rfl) ea_nil)) ⟨r, b, rfl, ok.len, h, rfl⟩) (k _))
theorem run_xB_stretch {tl : List Sl} : ∀ ds c, RB_stretch ds c → ∀ B (W : WX) D, (∀ δ, XOk K B W δ (He.ga K c)) → RunS K B (txB_stretch K W) D (ds.map Sl.d ++ tl) := by
  rintro _ _ ⟨r, a, b, rfl, ok, h, rfl⟩ B W D k
  exact r_drop (ev_asked_road (evd_at rfl) ok) (r_dropX (evx_call (ea_cons (evd_at rfl) (ea_cons (evd_at rfl) (ea_cons (evd_at rfl) ea_nil))) ⟨r, a, b, rfl, h, rfl⟩) (k _))
theorem run_xB_many {tl : List Sl} : ∀ ds c, RB_many ds c → ∀ B (W : WX) D, (∀ δ, XOk K B W δ (He.ga K c)) → RunS K B (txB_many K W) D (ds.map Sl.d ++ tl) := by
  rintro _ _ ⟨r, b, rfl, ok, h, rfl⟩ B W D k
  exact r_drop (ev_asked_road (evd_at rfl) ok) (r_dropX (evx_call (ea_cons (evd_at rfl) (ea_cons (evd_at rfl) ea_nil)) ⟨r, b, rfl, h, rfl⟩) (k _))
theorem run_xB_number {tl : List Sl} : ∀ ds c, RB_number ds c → ∀ B (W : WX) D, (∀ δ, XOk K B W δ (He.ga K c)) → RunS K B (txB_number K W) D (ds.map Sl.d ++ tl) := by
  rintro _ _ ⟨r, b, rfl, ok, h, rfl⟩ B W D k
  exact r_drop (ev_asked_road (evd_at rfl) ok) (r_dropX (evx_call (ea_cons (evd_at rfl) ea_nil) ⟨b, rfl, h, rfl⟩) (k _))
end
end Ph

set_option Elab.async false
set_option linter.all false
set_option maxRecDepth 100000
set_option maxHeartbeats 2000000
namespace Ph
open PySem PySem.Spec L2
theorem atI_getD {ds : List PyData} {i : Int} (h0 : 0 ≤ i) (h1 : i < ds.length) : atI ds i = some (ds.getD i.toNat .none) := by
  have hl : i.toNat < ds.length := by omega
  unfold atI ixN
  rw [if_pos h0, if_pos h1]
  show ds[i.toNat]? = _
  rw [List.getD_eq_getElem?_getD, List.getElem?_eq_getElem hl]
  rfl
/-! no road -/
def hsL (m : Int) : List PyData := [.tuple [.int 0, .int (-1 - m)], .tuple [.bool true, .int 1], .tuple [.int 0, .bool true], .tuple [.str "0", .int 1], .tuple [.int 0, .none], .list [.int 0, .int 1], .tuple [.int 0], .tuple [.int 0, .int 1, .int 2], .none, .int 5]
def lHouse (w m : Int) : PyData := (hsL m).getD (w % 10).toNat .none
theorem hsL_bad {m : Int} (hm : 0 ≤ m) : ∀ n, n < 10 → isHouse ((hsL m).getD n .none) = false
  | 0, _ => decide_eq_false (show ¬ (0 : Int) ≤ -1 - m by omega)
  | 1, _ => rfl
  | 2, _ => rfl
  | 3, _ => rfl
  | 4, _ => rfl
  | 5, _ => rfl
  | 6, _ => rfl
  | 7, _ => rfl
  | 8, _ => rfl
  | 9, _ => rfl
  | n + 10, h => absurd h (by omega)
theorem lHouse_bad {w m : Int} (hw : 0 ≤ w) (hm : 0 ≤ m) : isHouse (lHouse w m) = false := hsL_bad hm _ (by omega)
def hd9 (m : Int) : List PyData := (List.range (m % 9).toNat).map fun (j : Nat) => .tuple [.int (j : Int), .int 1]
def rdL0 (m : Int) (h : PyData) : List PyData := [.list (hd9 m ++ [h]), eRoad [(3, 1), (3, 1)], eRoad [(3, 1), (2 - m, 1)]]
def rdL (m : Int) (h : PyData) : List PyData := rdL0 m h ++ [.none, .tuple [.tuple [.int 0, .int 1]]] ++ [.list ([h] ++ [.tuple [.int 9, .int 1]]), .list [.tuple [.int 0, .int 1], h, .tuple [.int 9, .int 2]], .str "01", .dict []]
theorem rdL_bad {m : Int} {h : PyData} (hm : 0 ≤ m) (hh : isHouse h = false) : ∀ n, n < 9 → BadRd ((rdL m h).getD n .none)
  | 0, _ => by
    show BadRd (.list (hd9 m ++ [h]))
    refine .house ?_ ?_
    · rw [List.length_append]
      unfold hd9
      rw [List.length_map, List.length_range]
      show (m % 9).toNat + 1 ≤ 1000
      omega
    · rw [List.all_append]
      show (_ && (isHouse h && true)) = false
      rw [hh]
      exact Bool.and_false _
  | 1, _ => .rise (r := [(3, 1), (3, 1)]) (by first | decide | simp) (by first | decide | simp) 0 (by first | decide | simp) (by first | decide | simp)
  | 2, _ => .rise (r := [(3, 1), (2 - m, 1)]) (by show 2 ≤ 1000; omega) (fun x hx => by
      simp only [List.mem_cons, List.not_mem_nil, or_false] at hx
      rcases hx with rfl | rfl
      · exact (by decide : (0 : Int) ≤ 1)
      · exact (by decide : (0 : Int) ≤ 1)) 0 (by show 0 + 1 < 2; omega) (show ¬ (3 : Int) < 2 - m by omega)
  | 3, _ => .kind rfl
  | 4, _ => .kind rfl
  | 5, _ => .house (ds := [h, .tuple [.int 9, .int 1]]) (by show 2 ≤ 1000; omega) (by
      show (isHouse h && _) = false
      rw [hh]; rfl)
  | 6, _ => .house (ds := [.tuple [.int 0, .int 1], h, .tuple [.int 9, .int 2]]) (by show 3 ≤ 1000; omega) (by
      show (_ && (isHouse h && _)) = false
      rw [hh]; rfl)
  | 7, _ => .kind rfl
  | 8, _ => .kind rfl
  | n + 9, h => absurd h (by omega)
def lBad (w m : Int) : PyData := (rdL m (lHouse w m)).getD (w / 10 % 9).toNat .none
theorem lBad_bad {w m : Int} (hw : 0 ≤ w) (hm : 0 ≤ m) : BadRd (lBad w m) := rdL_bad hm (lHouse_bad hw hm) _ (by omega)
/-! no posts -/
def psL0 (m : Int) : List PyData := [.none, .tuple [.int 0], .str "0", .int 0, .list [], .list [.int (3 + m)], .list [.int (-1 - m)], .list [.bool true], .list [.str "0"], .list [.none], .list [.int 1, .int 0], .list [.int 0, .int 0]]
def psL (m : Int) : List PyData := psL0 m ++ [.list [.int 0, .int 1, .int 2, .int 3]]
theorem psL_bad {m : Int} (hm : 0 ≤ m) : ∀ n, n < 13 → BadPs 3 ((psL m).getD n .none)
  | 0, _ => .kind rfl
  | 1, _ => .kind rfl
  | 2, _ => .kind rfl
  | 3, _ => .kind rfl
  | 4, _ => .posts (ps := []) (by first | decide | simp) (by first | decide | simp)
  | 5, _ => .posts (ps := [3 + m]) (by show 1 ≤ 1000; omega) (by
      show (decide (-1 < 3 + m) && decide (3 + m < 3) && true && _) = false
      rw [decide_eq_false (show ¬ 3 + m < 3 by omega), Bool.and_false]; rfl)
  | 6, _ => .posts (ps := [-1 - m]) (by show 1 ≤ 1000; omega) (by
      show (decide (-1 < -1 - m) && decide (-1 - m < 3) && true && _) = false
      rw [decide_eq_false (show ¬ -1 < -1 - m by omega)]; rfl)
  | 7, _ => .nums (ds := [.bool true]) (by show 1 ≤ 1000; omega) rfl
  | 8, _ => .nums (ds := [.str "0"]) (by show 1 ≤ 1000; omega) rfl
  | 9, _ => .nums (ds := [.none]) (by show 1 ≤ 1000; omega) rfl
  | 10, _ => .posts (ps := [1, 0]) (by first | decide | simp) (by first | decide | simp)
  | 11, _ => .posts (ps := [0, 0]) (by first | decide | simp) (by first | decide | simp)
  | 12, _ => .posts (ps := [0, 1, 2, 3]) (by first | decide | simp) (by first | decide | simp)
  | n + 13, h => absurd h (by omega)
/-! no stretch -/
local instance : Inhabited PyData := ⟨.none⟩
def stP (m : Int) : List (PyData × PyData) := [(.none, .int 2), (.int 0, .none), (.int 1, .int 1), (.int 2, .int 1), (.int (-1 - m), .int 2), (.int 0, .int (4 + m)), (.bool true, .int 2), (.int 0, .bool true)]
abbrev ePr (p : PyData × PyData) : PyData := .tuple [p.1, p.2]
theorem stP_bad {m : Int} (hm : 0 ≤ m) : ∀ n, n < 8 → BadSt 3 ((stP m).getD n (.none, .none)).1 ((stP m).getD n (.none, .none)).2
  | 0, _ => .one rfl
  | 1, _ => .two rfl
  | 2, _ => .st (by omega)
  | 3, _ => .st (by omega)
  | 4, _ => .st (by omega)
  | 5, _ => .st (by omega)
  | 6, _ => .one rfl
  | 7, _ => .two rfl
  | n + 8, h => absurd h (by omega)
/-! no count -/
def nmL (m : Int) : List PyData := [.none, .str "1", .bool true, .list [.int 1], .int (-1 - m), .tuple [.int 1], .dict []]
theorem nmL_bad {m : Int} (hm : 0 ≤ m) : ∀ n, n < 7 → BadNm ((nmL m).getD n .none)
  | 0, _ => .kind rfl
  | 1, _ => .kind rfl
  | 2, _ => .kind rfl
  | 3, _ => .kind rfl
  | 4, _ => .neg (by omega)
  | 5, _ => .kind rfl
  | 6, _ => .kind rfl
  | n + 7, h => absurd h (by omega)
def rd3 : List (Int × Int) := [(0, 4), (3, 1), (8, 2)]
theorem rd3_ok : RoadOk rd3 where
  rise := by
    intro i hi
    match i, hi with
    | 0, _ => decide
    | 1, _ => decide
    | n + 2, h => exact absurd h (by show ¬ n + 2 + 1 < 3; omega)
  let0 := by decide
  len := by decide
  big := by decide
theorem rd0_ok : RoadOk [] := ⟨fun i h => absurd h (by simp), fun _ h => (nomatch h), by decide, fun _ h => (nomatch h)⟩
section
variable {K : PySem.W.Frag}
theorem run_x_law_road_asked : ∀ ds c, RX_law_road_asked ds c → ∀ B (W : WX) D, (∀ δ, XOk K B W δ (He.ga K c)) → RunS K B (tx_law_road_asked K W) D (ds.map Sl.d ++ List.replicate (7 - ds.length) Sl.no) := by
  rintro _ _ ⟨w, m, rfl, hw, hm, hm2, rfl⟩ B W D k
  show RunS K B (tx_law_road_asked K W) D [.d (.int w), .d (.int m), .no, .no, .no, .no, .no]
  refine r_set (d := lHouse w m) (evd_ix (ds := hsL m) (evl_n (evn_lst (ea_cons (evd_tup (ea_cons evd_int (ea_cons (evd_sub (evd_neg evd_int) (evd_at rfl)) ea_nil)) (by first | decide | simp)) (ea_cons (evd_tup (ea_cons evd_bl (ea_cons evd_int ea_nil)) (by first | decide | simp)) (ea_cons (evd_tup (ea_cons evd_int (ea_cons evd_bl ea_nil)) (by first | decide | simp)) (ea_cons (evd_tup (ea_cons evd_str (ea_cons evd_int ea_nil)) (by first | decide | simp)) (ea_cons (evd_tup (ea_cons evd_int (ea_cons evd_non ea_nil)) (by first | decide | simp)) (ea_cons (evd_n (evn_lst (ea_cons evd_int (ea_cons evd_int ea_nil)) (by first | decide | simp))) (ea_cons (evd_tup (ea_cons evd_int ea_nil) (by first | decide | simp)) (ea_cons (evd_tup (ea_cons evd_int (ea_cons evd_int (ea_cons evd_int ea_nil))) (by first | decide | simp)) (ea_cons evd_non (ea_cons evd_int ea_nil)))))))))) (by show 10 ≤ 1000000; omega))) (evd_mod (evd_at rfl) evd_int (by first | decide | simp)) (atI_getD (by omega) (by show w % 10 < 10; omega))) ?_
  dsimp only [List.set_cons_zero, List.set_cons_succ]
  have h9 : ((m % 9).toNat : Int) = m % 9 := by omega
  refine r_setN (ds := rdL0 m (lHouse w m)) (evn_lst (ea_cons (evd_n (evn_catL (ds := hd9 m) (es := [lHouse w m]) (evl_n (evn_lcR (n := (m % 9).toNat) (f := fun (j : Nat) => .tuple [.int (j : Int), .int 1]) (evd_is (evd_mod (evd_at rfl) evd_int (by first | decide | simp)) (by rw [h9])) (by omega) fun i hi => evd_tup (ea_cons (evd_at rfl) (ea_cons evd_int ea_nil)) (by first | decide | simp))) (evl_n (evn_lst (ea_cons (evd_at rfl) ea_nil) (by first | decide | simp))) ?_)) (ea_cons (evd_n (evn_lst (ea_cons (evd_tup (ea_cons evd_int (ea_cons evd_int ea_nil)) (by first | decide | simp)) (ea_cons (evd_tup (ea_cons evd_int (ea_cons evd_int ea_nil)) (by first | decide | simp)) ea_nil)) (by first | decide | simp))) (ea_cons (evd_n (evn_lst (ea_cons (evd_tup (ea_cons evd_int (ea_cons evd_int ea_nil)) (by first | decide | simp)) (ea_cons (evd_tup (ea_cons (evd_sub evd_int (evd_at rfl)) (ea_cons evd_int ea_nil)) (by first | decide | simp)) ea_nil)) (by first | decide | simp))) ea_nil))) (by show 3 ≤ 1000000; omega)) fun p => ?_
  · unfold hd9
    rw [List.length_map, List.length_range]
    show (m % 9).toNat + 1 ≤ 1000000
    omega
  dsimp only [List.set_cons_zero, List.set_cons_succ]
  refine r_setN (evn_catL (evl_at rfl) (evl_n (evn_lst (ds := [.none, .tuple [.tuple [.int 0, .int 1]]]) (ea_cons evd_non (ea_cons (evd_tup (ea_cons (evd_tup (ea_cons evd_int (ea_cons evd_int ea_nil)) (by first | decide | simp)) ea_nil) (by first | decide | simp)) ea_nil)) (by first | decide | simp))) (by show 5 ≤ 1000000; omega)) fun q => ?_
  dsimp only [List.set_cons_zero, List.set_cons_succ]
  refine r_set (d := lBad w m) (evd_ix (ds := rdL m (lHouse w m)) (evl_n (evn_catL (evl_at rfl) (evl_n (evn_lst (ea_cons (evd_n (evn_catL (ds := [lHouse w m]) (es := [.tuple [.int 9, .int 1]]) (evl_n (evn_lst (ea_cons (evd_at rfl) ea_nil) (by first | decide | simp))) (evl_n (evn_lst (ea_cons (evd_tup (ea_cons evd_int (ea_cons evd_int ea_nil)) (by first | decide | simp)) ea_nil) (by first | decide | simp))) (by show 2 ≤ 1000000; omega))) (ea_cons (evd_n (evn_lst (ea_cons (evd_tup (ea_cons evd_int (ea_cons evd_int ea_nil)) (by first | decide | simp)) (ea_cons (evd_at rfl) (ea_cons (evd_tup (ea_cons evd_int (ea_cons evd_int ea_nil)) (by first | decide | simp)) ea_nil))) (by show 3 ≤ 1000000; omega))) (ea_cons evd_str (ea_cons evd_dnew ea_nil)))) (by show 4 ≤ 1000000; omega))) (by show 9 ≤ 1000000; omega))) (evd_mod (evd_div (evd_at rfl) evd_int ⟨by decide, by decide⟩) evd_int (by first | decide | simp)) (atI_getD (by omega) (by show w / 10 % 9 < 9; omega))) ?_
  dsimp only [List.set_cons_zero, List.set_cons_succ]
  refine r_set (d := .int (w / 90 % 7)) (evd_mod (evd_div (evd_at rfl) evd_int ⟨by decide, by decide⟩) evd_int (by first | decide | simp)) ?_
  dsimp only [List.set_cons_zero, List.set_cons_succ]
  have bad := lBad_bad hw hm
  refine r_when (evt_test (evd_lt (evd_at rfl) evd_int)) (fun h => ?_) (fun h => ?_)
  · have h := of_decide_eq_true h
    exact r_retX (evx_callV (evf_pick [He.ga K "nearest", He.ga K "way"] (by first | decide | simp) (evd_at rfl) (by omega) h) (ea_cons (evd_at rfl) (ea_cons evd_non ea_nil)) (.inl ⟨_, _, rfl, bad, rfl⟩)) (k _)
  have h := of_decide_eq_false h
  refine r_when (evt_test (evd_lt (evd_at rfl) evd_int)) (fun h4 => ?_) (fun h4 => ?_)
  · have h4 := of_decide_eq_true h4
    exact r_retX (evx_callV (evf_pick [He.ga K "middle", He.ga K "one_way"] (by first | decide | simp) (evd_sub (evd_at rfl) evd_int) (by omega) (show w / 90 % 7 - 2 < (2 : Int) by omega)) (ea_cons (evd_at rfl) (ea_cons evd_non (ea_cons evd_non ea_nil))) (.inl ⟨_, _, _, rfl, bad, rfl⟩)) (k _)
  have h4 := of_decide_eq_false h4
  exact r_retX (evx_callV (evf_pick [He.ga K "best", He.ga K "ways", He.ga K "paying"] (by first | decide | simp) (evd_sub (evd_at rfl) evd_int) (by omega) (show w / 90 % 7 - 4 < (3 : Int) by omega)) (ea_cons (evd_at rfl) (ea_cons evd_non ea_nil)) (.inl ⟨_, _, rfl, bad, rfl⟩)) (k _)
theorem evd_nil {δ : List Sl} : EvD K (tLst tNil) δ (eRoad []) := evd_n (evn_lst ea_nil (by first | decide | simp))
theorem run_x_law_others_asked : ∀ ds c, RX_law_others_asked ds c → ∀ B (W : WX) D, (∀ δ, XOk K B W δ (He.ga K c)) → RunS K B (tx_law_others_asked K W) D (ds.map Sl.d ++ List.replicate (8 - ds.length) Sl.no) := by
  rintro _ _ ⟨kk, w, m, rfl, hk1, hk3, hw, hm, hm2, rfl⟩ B W D k
  show RunS K B (tx_law_others_asked K W) D [.d (.int kk), .d (.int w), .d (.int m), .no, .no, .no, .no, .no]
  refine r_set (d := eRoad rd3) (evd_n (evn_lst (ea_cons (evd_tup (ea_cons evd_int (ea_cons evd_int ea_nil)) (by first | decide | simp)) (ea_cons (evd_tup (ea_cons evd_int (ea_cons evd_int ea_nil)) (by first | decide | simp)) (ea_cons (evd_tup (ea_cons evd_int (ea_cons evd_int ea_nil)) (by first | decide | simp)) ea_nil))) (by first | decide | simp))) ?_
  dsimp only [List.set_cons_zero, List.set_cons_succ]
  refine r_when (evt_test (evd_eqI (evd_mod (evd_at rfl) evd_int (by first | decide | simp)) evd_int)) (fun _ => ?_) (fun _ => ?_)
  · -- no houses
    refine r_when (evt_test (evd_eqI (evd_at rfl) evd_int)) (fun h => ?_) (fun h => ?_)
    · have h := of_decide_eq_true h
      subst h
      have bp : RX_posts [eRoad [], eInts [0]] "BadPosts" := .inr ⟨[], _, rfl, rd0_ok, .posts (ps := [0]) (by first | decide | simp) (by first | decide | simp), rfl⟩
      have e0 : ∀ {δ : List Sl}, EvA K (tCons (tLst tNil) (tCons (tLst (tCons (tC (.int 0)) tNil)) tNil)) δ [eRoad [], eInts [0]] := ea_cons evd_nil (ea_cons (evd_n (evn_lst (ea_cons evd_int ea_nil) (by first | decide | simp))) ea_nil)
      exact r_retX (evx_if (evt_test (evd_eqI (evd_mod (evd_at rfl) evd_int (by first | decide | simp)) evd_int)) (fun _ => evx_call e0 bp) (fun _ => evx_call e0 bp)) (k _)
    have h := of_decide_eq_false h
    refine r_when (evt_test (evd_eqI (evd_at rfl) evd_int)) (fun h2 => ?_) (fun h2 => ?_)
    · have h2 := of_decide_eq_true h2
      subst h2
      exact r_retX (evx_if (evt_test (evd_eqI (evd_mod (evd_at rfl) evd_int (by first | decide | simp)) evd_int))
        (fun _ => evx_call (ea_cons evd_nil (ea_cons evd_int (ea_cons evd_int ea_nil))) (.inr ⟨[], _, _, rfl, rd0_ok, .st (by first | decide | simp), rfl⟩))
        (fun _ => evx_call (ea_cons evd_nil (ea_cons evd_int (ea_cons evd_int ea_nil))) (.inr ⟨[], _, _, rfl, rd0_ok, .st (by first | decide | simp), rfl⟩))) (k _)
    have h2 := of_decide_eq_false h2
    obtain rfl : kk = 3 := by omega
    exact r_retX (evx_call (ea_cons evd_nil (ea_cons (evd_add evd_int (evd_mod (evd_at rfl) evd_int (by first | decide | simp))) ea_nil)) (.inr ⟨[], _, rfl, rd0_ok, .out (by show ¬ (1 ≤ 1 + w % 3 ∧ 1 + w % 3 ≤ (0 : Int)); omega), rfl⟩)) (k _)
  refine r_when (evt_test (evd_eqI (evd_at rfl) evd_int)) (fun h => ?_) (fun h => ?_)
  · have h := of_decide_eq_true h
    subst h
    refine r_setN (ds := psL0 m) (evn_lst (ea_cons evd_non (ea_cons (evd_tup (ea_cons evd_int ea_nil) (by first | decide | simp)) (ea_cons evd_str (ea_cons evd_int (ea_cons (evd_n (evn_lst ea_nil (by first | decide | simp))) (ea_cons (evd_n (evn_lst (ea_cons (evd_add evd_int (evd_at rfl)) ea_nil) (by show 1 ≤ 1000000; omega))) (ea_cons (evd_n (evn_lst (ea_cons (evd_sub (evd_neg evd_int) (evd_at rfl)) ea_nil) (by show 1 ≤ 1000000; omega))) (ea_cons (evd_n (evn_lst (ea_cons evd_bl ea_nil) (by first | decide | simp))) (ea_cons (evd_n (evn_lst (ea_cons evd_str ea_nil) (by first | decide | simp))) (ea_cons (evd_n (evn_lst (ea_cons evd_non ea_nil) (by first | decide | simp))) (ea_cons (evd_n (evn_lst (ea_cons evd_int (ea_cons evd_int ea_nil)) (by first | decide | simp))) (ea_cons (evd_n (evn_lst (ea_cons evd_int (ea_cons evd_int ea_nil)) (by first | decide | simp))) ea_nil)))))))))))) (by show 12 ≤ 1000000; omega)) fun p => ?_
    dsimp only [List.set_cons_zero, List.set_cons_succ]
    refine r_retX (evx_callV (evf_pick [He.ga K "nearest", He.ga K "way"] (by first | decide | simp) (evd_mod (evd_div (evd_at rfl) evd_int ⟨by decide, by decide⟩) evd_int (by first | decide | simp)) (by omega) (show w / 13 % 2 < (2 : Int) by omega)) (ea_cons (evd_at rfl) (ea_cons (evd_ix (ds := psL m) (evl_n (evn_catL (evl_at rfl) (evl_n (evn_lst (ea_cons (evd_n (evn_lst (ea_cons evd_int (ea_cons evd_int (ea_cons evd_int (ea_cons evd_int ea_nil)))) (by first | decide | simp))) ea_nil) (by first | decide | simp))) (by show 13 ≤ 1000000; omega))) (evd_mod (evd_at rfl) evd_int (by first | decide | simp)) (atI_getD (by omega) (by show w % 13 < 13; omega))) ea_nil)) (.inr ⟨rd3, _, rfl, rd3_ok, psL_bad hm _ (by omega), rfl⟩)) (k _)
  have h := of_decide_eq_false h
  refine r_when (evt_test (evd_eqI (evd_at rfl) evd_int)) (fun h2 => ?_) (fun h2 => ?_)
  · have h2 := of_decide_eq_true h2
    subst h2
    refine r_setN (ds := (stP m).map ePr) (evn_lst (ea_cons (evd_tup (ea_cons evd_non (ea_cons evd_int ea_nil)) (by first | decide | simp)) (ea_cons (evd_tup (ea_cons evd_int (ea_cons evd_non ea_nil)) (by first | decide | simp)) (ea_cons (evd_tup (ea_cons evd_int (ea_cons evd_int ea_nil)) (by first | decide | simp)) (ea_cons (evd_tup (ea_cons evd_int (ea_cons evd_int ea_nil)) (by first | decide | simp)) (ea_cons (evd_tup (ea_cons (evd_sub (evd_neg evd_int) (evd_at rfl)) (ea_cons evd_int ea_nil)) (by show 2 ≤ 1000000; omega)) (ea_cons (evd_tup (ea_cons evd_int (ea_cons (evd_add evd_int (evd_at rfl)) ea_nil)) (by show 2 ≤ 1000000; omega)) (ea_cons (evd_tup (ea_cons evd_bl (ea_cons evd_int ea_nil)) (by first | decide | simp)) (ea_cons (evd_tup (ea_cons evd_int (ea_cons evd_bl ea_nil)) (by first | decide | simp)) ea_nil)))))))) (by show 8 ≤ 1000000; omega)) fun p => ?_
    dsimp only [List.set_cons_zero, List.set_cons_succ]
    refine r_setT (evd_ixm (xs := stP m) (en := ePr) (evl_at rfl) (evd_mod (evd_at rfl) evd_int (by first | decide | simp)) (by omega) (by show w % 8 < 8; omega)) (tg_tup (tgs_cons tg_name (tgs_cons tg_name tgs_nil)) rfl) ?_
    dsimp only [List.set_cons_zero, List.set_cons_succ]
    exact r_retX (evx_callV (evf_pick [He.ga K "middle", He.ga K "one_way"] (by first | decide | simp) (evd_mod (evd_div (evd_at rfl) evd_int ⟨by decide, by decide⟩) evd_int (by first | decide | simp)) (by omega) (show w / 8 % 2 < (2 : Int) by omega)) (ea_cons (evd_at rfl) (ea_cons (evd_at rfl) (ea_cons (evd_at rfl) ea_nil))) (.inr ⟨rd3, _, _, rfl, rd3_ok, stP_bad hm _ (by omega), rfl⟩)) (k _)
  have h2 := of_decide_eq_false h2
  obtain rfl : kk = 3 := by omega
  refine r_set (d := (nmL m).getD (w % 7).toNat .none) (evd_ix (ds := nmL m) (evl_n (evn_lst (ea_cons evd_non (ea_cons evd_str (ea_cons evd_bl (ea_cons (evd_n (evn_lst (ea_cons evd_int ea_nil) (by first | decide | simp))) (ea_cons (evd_sub (evd_neg evd_int) (evd_at rfl)) (ea_cons (evd_tup (ea_cons evd_int ea_nil) (by first | decide | simp)) (ea_cons evd_dnew ea_nil))))))) (by show 7 ≤ 1000000; omega))) (evd_mod (evd_at rfl) evd_int (by first | decide | simp)) (atI_getD (by omega) (by show w % 7 < 7; omega))) ?_
  dsimp only [List.set_cons_zero, List.set_cons_succ]
  refine r_set (d := .int (w / 7 % 4)) (evd_mod (evd_div (evd_at rfl) evd_int ⟨by decide, by decide⟩) evd_int (by first | decide | simp)) ?_
  dsimp only [List.set_cons_zero, List.set_cons_succ]
  refine r_when (evt_test (evd_eqI (evd_at rfl) evd_int)) (fun h3 => ?_) (fun h3 => ?_)
  · have pick : ∃ i : Int, atI [PyData.int 0, .int (4 + m)] (w / 28 % 2) = some (.int i) ∧ ¬ (1 ≤ i ∧ i ≤ (3 : Int)) := by
      rcases (by omega : w / 28 % 2 = 0 ∨ w / 28 % 2 = 1) with e | e
      · exact ⟨0, by rw [e]; rfl, by omega⟩
      · exact ⟨4 + m, by rw [e]; rfl, by omega⟩
    obtain ⟨i, hi, ho⟩ := pick
    exact r_retX (evx_call (ea_cons (evd_at rfl) (ea_cons (evd_ix (evl_n (evn_lst (ea_cons evd_int (ea_cons (evd_add evd_int (evd_at rfl)) ea_nil)) (by show 2 ≤ 1000000; omega))) (evd_mod (evd_div (evd_at rfl) evd_int ⟨by decide, by decide⟩) evd_int (by first | decide | simp)) hi) ea_nil)) (.inr ⟨rd3, _, rfl, rd3_ok, .out ho, rfl⟩)) (k _)
  have h3 := of_decide_eq_false h3
  exact r_retX (evx_callV (evf_pick [He.ga K "best", He.ga K "ways", He.ga K "paying"] (by first | decide | simp) (evd_at rfl) (by omega) (show w / 7 % 4 < (3 : Int) by omega)) (ea_cons (evd_at rfl) (ea_cons (evd_at rfl) ea_nil)) (.inr ⟨rd3, _, rfl, rd3_ok, nmL_bad hm _ (by omega), rfl⟩)) (k _)
end
end Ph

set_option Elab.async false
set_option linter.all false
set_option maxRecDepth 100000
set_option maxHeartbeats 200000
namespace Ph
open PySem PySem.Spec L2
/-- what the classes of errors say of one another -/
structure XF (K : PySem.W.Frag) : Prop where
  exc : ∀ k : Int, 0 ≤ k → k ≤ 3 → ExcC K (He.ga K (kCls k))
  pe : ∀ k : Int, 0 ≤ k → k ≤ 3 → PySem.W.exmOne K (.ref (He.ga K (kCls k))) (.ref (He.ga K "PostError")) = some true
  kit : ∀ k j : Int, 0 ≤ k → k ≤ 3 → 0 ≤ j → j ≤ 3 → PySem.W.kitOne K (.ref (He.ga K (kCls k))) (.ref (He.ga K (kCls j))) = some (decide (k = j))
  ve : ∀ k : Int, 0 ≤ k → k ≤ 3 → PySem.W.kitOne K (.ref (He.ga K (kCls k))) (.type "ValueError") = some true
section
variable {K : PySem.W.Frag}
theorem tt_is_ok {σ : L2.St} {H : Hp} {Q : VK} {a C : Addr} {v : L2.V} {cv : Value} {b : Bool} (h3 : σ[3]? = some (some (.ref a))) (xc : ExcC K C) (hc : ∀ u, RelV v u → u = cv) (hk : PySem.W.kitOne K (.ref C) cv = some b) (q : Q (.bl b) H) :
    tt_is K a (.ref C) none v σ H Q := ⟨.ref a, h3, C, rfl, rfl, xc, v, cv, b, rfl, hc, hk, q⟩
theorem rt_bools {B : Bs} {D : Ends} {δ : List Sl} {σ : L2.St} {H G : Hp} {F : Nat → List Addr} {ds : List PyData} (g : GoodAt K B δ σ H G F) (kk : RtN K B D ds) {xs ys : List L2.V} (hxy : DpAll K G (xs ++ ys) ds) {p q r : Addr} (hp : H p = none) (hq : upd H p (.lst xs) q = none) (hr : upd (upd H p (.lst xs)) q (.lst ys) r = none) :
    D.rt (.ref r) (upd (upd (upd H p (.lst xs)) q (.lst ys)) r (.lst (xs ++ ys))) := by
  have n1 : Nu G H G (upd H p (.lst xs)) := Nu.laid g.nu.s hp
  have n2 : Nu G H G (upd (upd H p (.lst xs)) q (.lst ys)) := n1.trans (Nu.laid n1.s hq)
  have n3 : Nu G H G (upd (upd (upd H p (.lst xs)) q (.lst ys)) r (.lst (xs ++ ys))) := n2.trans (Nu.laid n2.s hr)
  exact kk r (xs ++ ys) G _ (g.nu.trans n3) (n2.s.free hr) ((g.nu.trans n2).h.free hr) upd_same hxy
theorem tol_dp {G : Hp} (k : Int) : DpAll K G ([.bl (decide (k = 0)), .bl (decide (k = 1)), .bl (decide (k = 2))] ++ [.bl (decide (k = 3)), .bl true]) (tolL k) := .cons (.bl _) (.cons (.bl _) (.cons (.bl _) (.cons (.bl _) (.cons (.bl _) .nil))))
theorem suite_ok (xf : XF K) {k : Int} (h0 : 0 ≤ k) (h3 : k ≤ 3) {D : Ends} {s0 s1 s2 s4 : Option L2.V} {H : Hp} {x : Addr}
    (kk : ∀ p q r, H p = none → upd H p (.lst [.bl (decide (k = 0)), .bl (decide (k = 1)), .bl (decide (k = 2))]) q = none → upd (upd H p (.lst [.bl (decide (k = 0)), .bl (decide (k = 1)), .bl (decide (k = 2))])) q (.lst [.bl (decide (k = 3)), .bl true]) r = none →
      D.rt (.ref r) (upd (upd (upd H p (.lst [.bl (decide (k = 0)), .bl (decide (k = 1)), .bl (decide (k = 2))])) q (.lst [.bl (decide (k = 3)), .bl true])) r (.lst ([.bl (decide (k = 0)), .bl (decide (k = 1)), .bl (decide (k = 2))] ++ [.bl (decide (k = 3)), .bl true])))) :
    tt_suite K x (.ref (He.ga K (kCls k))) none D [s0, s1, s2, some (.ref x), s4] H := by
  have ec := xf.exc k h0 h3
  have own : ∀ (C : Addr) (u : Value), RelV (.ref C) u → u = .ref C := fun _ _ r => r
  have own2 : ∀ (n : String) (u : Value), RelV (.ty n) u → u = .type n := fun _ _ r => r
  refine tt_is_ok rfl ec (own _) (xf.kit k 0 h0 h3 (by decide) (by decide)) ?_
  refine tt_is_ok rfl ec (own _) (xf.kit k 1 h0 h3 (by decide) (by decide)) ?_
  refine tt_is_ok rfl ec (own _) (xf.kit k 2 h0 h3 (by decide) (by decide)) ?_
  refine ⟨(show 3 ≤ sizeLine by decide), fun p hp => ?_⟩
  refine ⟨.ref p, rfl, ?_⟩
  refine tt_is_ok rfl ec (own _) (xf.kit k 3 h0 h3 (by decide) (by decide)) ?_
  refine tt_is_ok rfl ec (own2 _) (xf.ve k h0 h3) ?_
  refine ⟨(show 2 ≤ sizeLine by decide), fun q hq => ?_⟩
  have hqp : p ≠ q := fun z => by rw [← z, upd_same] at hq; cases hq
  exact ⟨p, q, [.bl (decide (k = 0)), .bl (decide (k = 1)), .bl (decide (k = 2))], [.bl (decide (k = 3)), .bl true], rfl, rfl, .inl (.inl (by rw [upd_ne hqp]; exact upd_same)), .inl (.inl upd_same), (Nat.le_trans (m := 1000000) (by simp) (by decide)), fun r hr => kk p q r hp hq hr⟩
theorem xo_told (xf : XF K) {k : Int} (h0 : 0 ≤ k) (h3 : k ≤ 3) {B : Bs} {D : Ends} (kk : RtN K B D (tolL k)) {a b c : Sl} :
    XOk K B (wAs K (.ref (He.ga K "PostError")) 3 (tt_suite K) (fun _ _ _ _ => False) D) [a, b, c, .no, .no] (He.ga K (kCls k)) := fun σ H ⟨G, F, g⟩ => by
  refine ⟨true, xf.pe k h0 h3, fun _ x hx => ?_, fun z => nomatch z⟩
  have hl : σ.length = 5 := g.len
  have kk2 := fun p q r hp hq hr => rt_bools (p := p) (q := q) (r := r) g kk (tol_dp k) hp hq hr
  clear g
  obtain ⟨s0, s1, s2, s3, s4, rfl⟩ : ∃ s0 s1 s2 s3 s4, σ = [s0, s1, s2, s3, s4] := by
    match σ, hl with
    | [s0, s1, s2, s3, s4], _ => exact ⟨s0, s1, s2, s3, s4, rfl⟩
  exact suite_ok xf h0 h3 kk2
theorem kCls_0 : kCls 0 = "BadRoad" := if_pos rfl
theorem run_told_body {k w m : Int} (h0 : 0 ≤ k) (h3 : k ≤ 3) (hw : 0 ≤ w) (hm : 0 ≤ m) (hm2 : m < 1000) {B : Bs} (W : WX) (D : Ends) (x : XOk K B W [.d (.int k), .d (.int w), .d (.int m), .no, .no] (He.ga K (kCls k))) :
    RunS K B (tt_body K W) D [.d (.int k), .d (.int w), .d (.int m), .no, .no] := by
  refine r_if (evt_test (evd_eqI (evd_at rfl) evd_int)) (fun h => ?_) (fun h => ?_)
  · have h := of_decide_eq_true h
    subst h
    rw [kCls_0] at x
    exact r_dropX (evx_call (ea_cons (evd_at rfl) (ea_cons (evd_at rfl) ea_nil)) ⟨w, m, rfl, hw, hm, hm2, rfl⟩) x
  · have h := of_decide_eq_false h
    exact r_dropX (evx_call (c := kCls k) (ea_cons (evd_at rfl) (ea_cons (evd_at rfl) (ea_cons (evd_at rfl) ea_nil))) ⟨k, w, m, rfl, by omega, h3, hw, hm, hm2, rfl⟩) x
theorem tSeq_eq (t u : TS) (D : Ends) (σ : L2.St) (H : Hp) : tSeq t u D σ H = t { D with nx := u D } σ H := rfl
theorem tw1 {B : Bs} {D : Ends} {ds : List PyData} (kk : RtN K B D ds) : RtN K B { D with nx := tNever D } ds := fun p vs G' H' n h1 h2 h3 h4 => kk p vs G' H' n h1 h2 h3 h4
theorem tw2 {B : Bs} {D : Ends} {δ : List Sl} (y : RunS K B (tt_body K (wAs K (.ref (He.ga K "PostError")) 3 (tt_suite K) (fun _ _ _ _ => False) { D with nx := tNever D })) { D with nx := tNever D } δ) : RunS K B (t_law_told K) D δ := fun σ H g => by
  unfold t_law_told
  rw [tSeq_eq]
  exact y σ H g
theorem tw3 (xf : XF K) {k w m : Int} (h0 : 0 ≤ k) (h3 : k ≤ 3) (hw : 0 ≤ w) (hm : 0 ≤ m) (hm2 : m < 1000) {B : Bs} {D : Ends} (kk : RtN K B D (tolL k)) : RunS K B (t_law_told K) D [.d (.int k), .d (.int w), .d (.int m), .no, .no] :=
  tw2 (run_told_body h0 h3 hw hm hm2 _ _ (xo_told xf h0 h3 (tw1 kk)))
theorem run_law_told (xf : XF K) : ∀ ds d, R_law_told ds d → ∀ B D, RtN K B D d → RunS K B (t_law_told K) D (ds.map Sl.d ++ List.replicate (5 - ds.length) Sl.no) := by
  intro ds d hR B D kk
  obtain ⟨k, w, m, e1, h0, h3, hw, hm, hm2, e2⟩ := hR
  rw [e1]
  rw [e2] at kk
  exact tw3 xf h0 h3 hw hm hm2 kk
theorem shp_tol {n : Nat} (k : Int) : Shp (n + 1) (.list (tolL k)) := shp_list fun d hd => by
  unfold tolL at hd
  simp only [List.mem_cons, List.not_mem_nil, or_false] at hd
  rcases hd with rfl | rfl | rfl | rfl | rfl <;> exact shp_bool _
theorem ev_law_told {δ : List Sl} {ta tb tc : TE} {k w m : Int} (ha : EvD K ta δ (.int k)) (hb : EvD K tb δ (.int w)) (hc : EvD K tc δ (.int m)) (h0 : 0 ≤ k) (h3 : k ≤ 3) (hw : 0 ≤ w) (hm : 0 ≤ m) (hm2 : m < 1000) : EvN K (tCall (sp_law_told K) [] E0 (tCons ta (tCons tb (tCons tc tNil)))) δ (tolL k) :=
  evn_call (ea_cons ha (ea_cons hb (ea_cons hc ea_nil))) ⟨k, w, m, rfl, h0, h3, hw, hm, hm2, rfl⟩
def great : List (Int × Int) := [(-(10 ^ 40), 10 ^ 40), (10 ^ 40, 1)]
theorem great_ok : RoadOk great where
  rise := by
    intro i hi
    match i, hi with
    | 0, _ => show (-(10 ^ 40) : Int) < 10 ^ 40; decide +kernel
    | n + 1, h => exact absurd h (by show ¬ n + 1 + 1 < 2; omega)
  let0 := by decide +kernel
  len := by decide
  big := by decide +kernel
def one0 : List (Int × Int) := [(0, 0)]
theorem one0_ok : RoadOk one0 := ⟨fun i hi => absurd hi (by show ¬ i + 1 < 1; omega), by decide, by decide, by decide +kernel⟩
theorem great_way : wayL great [0] = 2 * 10 ^ 40 := by decide +kernel
theorem great_best : nats (pb great 2 2) = [0, 1] := by decide +kernel
theorem one0_ways : waysL one0 5 = [0] := by decide +kernel
theorem run_law_k07 (co : COk K (He.ga K "Best")) : ∀ ds d, R_law ds d → ∀ B D, RtD K B D d → (d = .none → ∀ δ, Nx K B D δ) → RunS K B (t_law_k07 K) D (ds.map Sl.d ++ List.replicate (5 - ds.length) Sl.no) := by
  rintro _ _ ⟨s, rfl, hs, rfl⟩ B D k _
  show RunS K B (t_law_k07 K) D [.d (eInts s), .no, .no, .no, .no]
  refine r_forE (evi_listm (xs := s) (en := PyData.int) (evd_at rfl)) (fun _ => [.d (eInts s), .no, .no, .no, .no]) (WkL.refl _) (fun Gb hb i hi => ⟨_, tg_name, ?_⟩) ?_
  · generalize s.getD i default = c
    dsimp only [List.set_cons_zero, List.set_cons_succ]
    refine r_set (d := .int (c % 4)) (evd_mod (evd_at rfl) evd_int (by decide)) ?_
    dsimp only [List.set_cons_zero, List.set_cons_succ]
    refine r_setN (ds := tolL (c % 4)) (evn_lst (ea_cons (evd_eqI (evd_at rfl) evd_int) (ea_cons (evd_eqI (evd_at rfl) evd_int) (ea_cons (evd_eqI (evd_at rfl) evd_int) (ea_cons (evd_eqI (evd_at rfl) evd_int) (ea_cons evd_bl ea_nil))))) (by show 5 ≤ 1000000; omega)) fun p => ?_
    dsimp only [List.set_cons_zero, List.set_cons_succ]
    refine r_skip (evt_test (evd_neSame (d := .list (tolL (c % 4))) (evr_n (ev_law_told (evd_at rfl) (evd_mod (evd_div (evd_at rfl) evd_int ⟨by decide, by decide⟩) evd_int (by decide)) (evd_mod (evd_div (evd_at rfl) evd_int ⟨by decide, by decide⟩) evd_int (by decide)) (by omega) (by omega) (by omega) (by omega) (by omega))) (evr_l (evl_at rfl)) (shp_tol (n := 0) _) (by decide))) ?_
    exact r_next (nx_env (.same (.drop (.drop (.drop (.same .nil))))))
  · have c40 : CPow 10 40 := ⟨by decide, by decide, by decide⟩
    have p40 : ∀ {δ : List Sl}, EvD K (tOp oPow (tC (.int 10)) (tC (.int 40))) δ (.int (10 ^ 40)) := evd_pow evd_int evd_int c40
    refine r_set (d := eRoad great) (evd_n (evn_lst (ea_cons (evd_tup (ea_cons (evd_neg p40) (ea_cons p40 ea_nil)) (by show 2 ≤ 1000000; omega)) (ea_cons (evd_tup (ea_cons p40 (ea_cons evd_int ea_nil)) (by show 2 ≤ 1000000; omega)) ea_nil)) (by show 2 ≤ 1000000; omega))) ?_
    dsimp only [List.set_cons_zero, List.set_cons_succ]
    refine r_ret (evd_is (evd_and (a := true) (b := true) (evd_is (evd_eqI (i := wayL great [0]) (j := 2 * 10 ^ 40) (ev_way (evd_at rfl) (evd_n (evn_lst (ea_cons evd_int ea_nil) (by decide))) great_ok (by decide) (by decide)) (evd_mul evd_int p40 (.inl (by decide)))) ?_) fun _ => evd_and (a := true) (b := true) ?_ fun _ => ?_) rfl) k
    · rw [great_way, decide_eq_true rfl]
    · refine evd_eqSame (d := eInts [0, 1]) (evr_l (evl_is (evl_posts co (evb_n (ev_best (r := great) (m := 2) (evd_at rfl) evd_int (by decide) (by decide) great_ok))) ?_)) (evr_n (evn_lst (ea_cons evd_int (ea_cons evd_int ea_nil)) (by decide))) (shp_ints _) (by decide)
      show (nats (pb great 2 2)).map PyData.int = _
      rw [great_best]
    · refine evd_eqSame (d := eInts [0]) (evr_n (evn_is (ev_ways (r := one0) (m := 5) (evd_n (evn_lst (ea_cons (evd_tup (ea_cons evd_int (ea_cons evd_int ea_nil)) (by decide)) ea_nil) (by decide))) evd_int one0_ok) ?_)) (evr_n (evn_lst (ea_cons evd_int ea_nil) (by decide))) (shp_ints _) (by decide)
      rw [one0_ways]
end
end Ph

set_option Elab.async false
set_option linter.all false
set_option maxRecDepth 100000
set_option maxHeartbeats 2000000
namespace Ph
open PySem PySem.Spec L2
/-! ### facts of the head about the classes of errors -/
inductive Xe where
  | exc (x : Str)
  | kit (x y : Str) (b : Bool)
  | ve (x : Str)
def Xe.ok (K : PySem.W.Frag) : Xe → Bool
  | .exc x => He.eqO (PySem.W.findIn K (.ref (He.ga K x)) "__getattribute__") (some (some (.builtin "BaseException.__getattribute__"))) && (He.eqO (PySem.W.findIn K (.ref (He.ga K x)) "__getattr__") (some none) &&
      (decide (PySem.W.subIn K (.ref (He.ga K x)) (.type "BaseException") = some true) && (PySem.W.hasDictIn K (He.ga K x) && (He.eqO (PySem.W.findIn K (.ref (He.ga K x)) "__class__") (some (some (.builtin "object.__class__"))) &&
      (He.eqO (PySem.W.specialIn K (.builtin "object.__class__") "__get__") (some (some (.builtin "getset_descriptor.__get__"))) && (decide (PySem.W.takesIn K (.builtin "object.__class__") = some true) && decide (PySem.W.mroIn K (He.ga K x) (.type "object") = some true)))))))
  | .kit x y b => decide (PySem.W.kitOne K (.ref (He.ga K x)) (.ref (He.ga K y)) = some b)
  | .ve x => decide (PySem.W.kitOne K (.ref (He.ga K x)) (.type "ValueError") = some true)
theorem xe_exc {K : PySem.W.Frag} {x : Str} (h : (Xe.exc x).ok K = true) : ExcC K (He.ga K x) := by
  obtain ⟨h1, h⟩ := He.ba h
  obtain ⟨h2, h⟩ := He.ba h
  obtain ⟨h3, h⟩ := He.ba h
  obtain ⟨h4, h⟩ := He.ba h
  obtain ⟨h5, h⟩ := He.ba h
  obtain ⟨h6, h⟩ := He.ba h
  obtain ⟨h7, h8⟩ := He.ba h
  exact ⟨He.eqO_ok h1, He.eqO_ok h2, of_decide_eq_true h3, h4, He.eqO_ok h5, He.eqO_ok h6, of_decide_eq_true h7, of_decide_eq_true h8⟩
theorem xe_kit {K : PySem.W.Frag} {x y : Str} {b : Bool} (h : (Xe.kit x y b).ok K = true) : PySem.W.kitOne K (.ref (He.ga K x)) (.ref (He.ga K y)) = some b := of_decide_eq_true h
theorem xe_ve {K : PySem.W.Frag} {x : Str} (h : (Xe.ve x).ok K = true) : PySem.W.kitOne K (.ref (He.ga K x)) (.type "ValueError") = some true := of_decide_eq_true h
def obsE (xs : List Xe) (fa : List He.Fa) (fn : List He.DefD) (K : PySem.W.Frag) : AlX := (xs.all fun f => f.ok K, He.obsD fa fn K)
def obsEG (n : Nat) (xs : List Xe) (fa : List He.Fa) (fn : List He.DefD) (g : Addr → Option Obj) : AlX := obsE xs fa fn (He.frG g (He.asD g n))
def hookE (n : Nat) (xs : List Xe) (fa : List He.Fa) (fn : List He.DefD) : PySem.W.Hook where
  α := AlX
  obs := fun s => obsEG n xs fa fn s.heap.get?
  val := fun _ => (true, He.valD fn)
  says := fun _ h => ∃ K : PySem.W.Frag, K.In h ∧ He.SaysD fa fn K ∧ (xs.all fun f => f.ok K) = true
  of := fun _ _ e => ⟨_, He.frG_in, congrArg (fun z : AlX => z.2) e, congrArg (fun z : AlX => z.1) e⟩
  keeps := fun _ _ _ ⟨K, hK, c⟩ k => ⟨K, PySem.W.Frag.In.keeps hK k, c⟩
theorem obsEG_eq {n : Nat} {xs : List Xe} {fa : List He.Fa} {fn : List He.DefD} {g : Addr → Option Obj} {s : Shared} (h : ∀ a, g a = s.heap.get? a) : obsEG n xs fa fn g = (hookE n xs fa fn).obs s := by
  have e : g = s.heap.get? := funext h
  rw [e] <;> rfl
theorem xe_at {xs : List Xe} {K : PySem.W.Frag} (c : (xs.all fun f => f.ok K) = true) (i : Nat) {f : Xe} (h : xs[i]? = some f := by rfl) : f.ok K = true := List.all_eq_true.mp c f (List.mem_of_getElem? h)
theorem xc_of {K : PySem.W.Frag} {mg : Str → Option Value} {x : Str} (g : mg x = some (.ref (He.ga K x))) (c : (He.Fa.exc x).ok K = true) : XC K mg x := by
  obtain ⟨h1, h2, h3, h4⟩ := He.exc_ok c
  exact ⟨g, h1, h2, h3, h4⟩
end Ph

set_option Elab.async false
set_option linter.all false
set_option maxRecDepth 100000
set_option maxHeartbeats 4000000
namespace Ph_k07
open PySem PySem.Spec L2 Ph
def topS (i : Nat) : Stmt := PySem.Challenge.pw_posthouses_k07_refused.main.body.getD i (.Pass ⟨0, 0, 0, 0⟩)
section
variable {P : Program} {w : World} {K : PySem.W.Frag} {mg : Str → Option Value} {base : Heap}
abbrev s_is_number : Stmt := topS 8
abbrev N_is_number : List Str := ["thing"]
theorem sc_is_number : FnScope N_is_number ["thing"] (defScope s_is_number) := ⟨rfl, rfl, rfl, by decide +kernel, rfl, by decide +kernel, by decide +kernel⟩
theorem d_is_number (bl : Blt mg)  {f : Addr} {cdv : Value} {A : Around} {outer : List Env} {s : Shared} {H : Hp} {E : XK} (hr : Room 0 (A.deeper (PyProof.Rows.envOfC "is_number" (defScope s_is_number) s.heap.objs.size f cdv))) :
    PSs (cxOf CX0 P w K mg base N_is_number "is_number" (defScope s_is_number) f cdv A outer s H E).nox (defBody s_is_number) (t_is_number K) :=
  (pss_cons (ps_ret (pe_and (pe_callB (q_isi) (by rfl) bl.isinstance (by decide +kernel) (pa_cons (pv 0) (pa_cons (pe_bltn (v := .ty "int") (by rfl) bl.int (by decide +kernel) rfl) pa_nil))) (pe_one (pe_not (pe_callB (q_isi) (by rfl) bl.isinstance (by decide +kernel) (pa_cons (pv 0) (pa_cons (pe_bltn (v := .ty "bool") (by rfl) bl.bool (by decide +kernel) rfl) pa_nil)))))))
  pss_nil)
abbrev s_is_house : Stmt := topS 9
abbrev N_is_house : List Str := ["thing"]
theorem sc_is_house : FnScope N_is_house ["thing"] (defScope s_is_house) := ⟨rfl, rfl, rfl, by decide +kernel, rfl, by decide +kernel, by decide +kernel⟩
theorem d_is_house (bl : Blt mg) (c_is_number : Cl P w K mg base 1 "is_number" (sp_is_number K)) {f : Addr} {cdv : Value} {A : Around} {outer : List Env} {s : Shared} {H : Hp} {E : XK} (hr : Room 1 (A.deeper (PyProof.Rows.envOfC "is_house" (defScope s_is_house) s.heap.objs.size f cdv))) :
    PSs (cxOf CX0 P w K mg base N_is_house "is_house" (defScope s_is_house) f cdv A outer s H E).nox (defBody s_is_house) (t_is_house K) :=
  (pss_cons (ps_if (PW.pt (pw_or (pt_not (pt_val (pe_callB (q_isi) (by rfl) bl.isinstance (by decide +kernel) (pa_cons (pv 0) (pa_cons (pe_bltn (v := .ty "tuple") (by rfl) bl.tuple (by decide +kernel) rfl) pa_nil))))) (pw_or (pt_cmpR p_neI (pe_callB (q_len) (by rfl) bl.len (by decide +kernel) (pa_cons (pv 0) pa_nil)) pe_int (nomark _)) (pw_or1 (pt_not (pt_val (pc c_is_number hr (by decide) (by rfl) (pa_cons (pe_ix p_ixT (pv 0) pe_int (fun _ _ => rfl)) pa_nil))))))))
   (pss_cons (ps_ret pe_bl)
  pss_nil) pss_nil)
  (pss_cons (ps_ret (pe_and (pc c_is_number hr (by decide) (by rfl) (pa_cons (pe_ix p_ixT (pv 0) pe_int (fun _ _ => rfl)) pa_nil)) (pe_one (pe_cmpR p_ge (pe_ix p_ixT (pv 0) pe_int (fun _ _ => rfl)) pe_int (nomark _)))))
  pss_nil))
abbrev s_asked_road : Stmt := topS 10
abbrev N_asked_road : List Str := ["road", "house", "at"]
theorem sc_asked_road : FnScope N_asked_road ["road"] (defScope s_asked_road) := ⟨rfl, rfl, rfl, by decide +kernel, rfl, by decide +kernel, by decide +kernel⟩
theorem d_asked_road (bl : Blt mg) (c_is_house : Cl P w K mg base 2 "is_house" (sp_is_house K)) {f : Addr} {cdv : Value} {A : Around} {outer : List Env} {s : Shared} {H : Hp} {E : XK} (hr : Room 2 (A.deeper (PyProof.Rows.envOfC "asked_road" (defScope s_asked_road) s.heap.objs.size f cdv))) :
    PSs (cxOf CX0 P w K mg base N_asked_road "asked_road" (defScope s_asked_road) f cdv A outer s H E).nox (defBody s_asked_road) (t_asked_road K) :=
  (pss_cons (ps_if (PW.pt (pw_or (pt_not (pt_val (pe_callB (q_isi) (by rfl) bl.isinstance (by decide +kernel) (pa_cons (pv 0) (pa_cons (pe_bltn (v := .ty "list") (by rfl) bl.list (by decide +kernel) rfl) pa_nil))))) (pw_or1 (pt_not (pt_val (pe_callB (q_all rfl) (by rfl) bl.all (by decide +kernel) (pa_cons (pe_lc (own := [("house", 1)]) (g := (gName 1)) (tt := tYes) (te := (tCall (sp_is_house K) [] E0 (tCons (tVar 1) tNil))) rfl sc_asked_road.nd (pi_list (pv 0)) (blkOk_by (N := N_asked_road) (sc := defScope s_asked_road) (by decide +kernel)) (fun _ _ _ _ _ => (pg_name (i := 1) sc_asked_road.nd rfl (.inl rfl))) (fun _ _ _ _ _ => pts_nil) (fun _ _ _ _ _ => (pc c_is_house hr (by decide) (by rfl) (pa_cons (pv 1) pa_nil)))) pa_nil)))))))
   (pss_cons ps_never
  pss_nil) pss_nil)
  (pss_cons (ps_if (pt_not (pt_val (pe_callB (q_all rfl) (by rfl) bl.all (by decide +kernel) (pa_cons (pe_lc (own := [("at", 2)]) (g := (gName 2)) (tt := tYes) (te := (tOp oLt (tOp (oIxT K) (tOp (oIx K) (tVar 0) (tVar 2)) (tC (.int 0))) (tOp (oIxT K) (tOp (oIx K) (tVar 0) (tOp oAdd (tVar 2) (tC (.int 1)))) (tC (.int 0))))) rfl sc_asked_road.nd (pi_range1 (by rfl) bl.range (pa_cons (pe_op p_sub (pe_callB (q_len) (by rfl) bl.len (by decide +kernel) (pa_cons (pv 0) pa_nil)) pe_int) pa_nil)) (blkOk_by (N := N_asked_road) (sc := defScope s_asked_road) (by decide +kernel)) (fun _ _ _ _ _ => (pg_name (i := 2) sc_asked_road.nd rfl (.inl rfl))) (fun _ _ _ _ _ => pts_nil) (fun _ _ _ _ _ => (pe_cmpR p_lt (pe_ix p_ixT (pe_ix p_ix (pv 0) (pv 2) (fun _ _ => rfl)) pe_int (fun _ _ => rfl)) (pe_ix p_ixT (pe_ix p_ix (pv 0) (pe_op p_add (pv 2) pe_int) (fun _ _ => rfl)) pe_int (fun _ _ => rfl)) (nomark _)))) pa_nil))))
   (pss_cons ps_never
  pss_nil) pss_nil)
  pss_nil))
abbrev s_are_posts : Stmt := topS 11
abbrev N_are_posts : List Str := ["road", "posts", "last", "post"]
theorem sc_are_posts : FnScope N_are_posts ["road", "posts"] (defScope s_are_posts) := ⟨rfl, rfl, rfl, by decide +kernel, rfl, by decide +kernel, by decide +kernel⟩
theorem d_are_posts (bl : Blt mg)  {f : Addr} {cdv : Value} {A : Around} {outer : List Env} {s : Shared} {H : Hp} {E : XK} (hr : Room 0 (A.deeper (PyProof.Rows.envOfC "are_posts" (defScope s_are_posts) s.heap.objs.size f cdv))) :
    PSs (cxOf CX0 P w K mg base N_are_posts "are_posts" (defScope s_are_posts) f cdv A outer s H E).nox (defBody s_are_posts) (t_are_posts K) :=
  (pss_cons (ps_set (i := 2) sc_are_posts.nd rfl (.inl rfl) (pe_un p_neg pe_int))
  (pss_cons (ps_for PassesOwn.never rfl (pi_list (pv 1)) (pg_name (i := 3) sc_are_posts.nd rfl (.inl rfl))
   (pss_cons (ps_if (pt_not (pt_chain p_lt p_lt (pv 2) (pv 3) (pe_callB (q_len) (by rfl) bl.len (by decide +kernel) (pa_cons (pv 0) pa_nil))))
   (pss_cons (ps_ret pe_bl)
  pss_nil) pss_nil)
  (pss_cons (ps_set (i := 2) sc_are_posts.nd rfl (.inl rfl) (pv 3))
  pss_nil)))
  (pss_cons (ps_ret (pe_or (pe_cmpR (p_neD hr.units) (pv 1) (pe_lst pa_nil) (nomark _)) (pe_one (pe_cmpR (p_eqD hr.units) (pv 0) (pe_lst pa_nil) (nomark _)))))
  pss_nil)))
abbrev s_asked_posts : Stmt := topS 12
abbrev N_asked_posts : List Str := ["road", "posts", "post"]
theorem sc_asked_posts : FnScope N_asked_posts ["road", "posts"] (defScope s_asked_posts) := ⟨rfl, rfl, rfl, by decide +kernel, rfl, by decide +kernel, by decide +kernel⟩
theorem d_asked_posts (bl : Blt mg) (c_are_posts : Cl P w K mg base 1 "are_posts" (sp_are_posts K)) (c_is_number : Cl P w K mg base 1 "is_number" (sp_is_number K)) {f : Addr} {cdv : Value} {A : Around} {outer : List Env} {s : Shared} {H : Hp} {E : XK} (hr : Room 1 (A.deeper (PyProof.Rows.envOfC "asked_posts" (defScope s_asked_posts) s.heap.objs.size f cdv))) :
    PSs (cxOf CX0 P w K mg base N_asked_posts "asked_posts" (defScope s_asked_posts) f cdv A outer s H E).nox (defBody s_asked_posts) (t_asked_posts K) :=
  (pss_cons (ps_if (PW.pt (pw_or (pt_not (pt_val (pe_callB (q_isi) (by rfl) bl.isinstance (by decide +kernel) (pa_cons (pv 1) (pa_cons (pe_bltn (v := .ty "list") (by rfl) bl.list (by decide +kernel) rfl) pa_nil))))) (pw_or (pt_not (pt_val (pe_callB (q_all rfl) (by rfl) bl.all (by decide +kernel) (pa_cons (pe_lc (own := [("post", 2)]) (g := (gName 2)) (tt := tYes) (te := (tCall (sp_is_number K) [] E0 (tCons (tVar 2) tNil))) rfl sc_asked_posts.nd (pi_list (pv 1)) (blkOk_by (N := N_asked_posts) (sc := defScope s_asked_posts) (by decide +kernel)) (fun _ _ _ _ _ => (pg_name (i := 2) sc_asked_posts.nd rfl (.inl rfl))) (fun _ _ _ _ _ => pts_nil) (fun _ _ _ _ _ => (pc c_is_number hr (by decide) (by rfl) (pa_cons (pv 2) pa_nil)))) pa_nil)))) (pw_or1 (pt_not (pt_val (pc c_are_posts hr (by decide) (by rfl) (pa_cons (pv 0) (pa_cons (pv 1) pa_nil)))))))))
   (pss_cons ps_never
  pss_nil) pss_nil)
  pss_nil)
abbrev s_nearest_of : Stmt := topS 14
abbrev N_nearest_of : List Str := ["road", "posts", "found", "at", "place", "letters"]
theorem sc_nearest_of : FnScope N_nearest_of ["road", "posts"] (defScope s_nearest_of) := ⟨rfl, rfl, rfl, by decide +kernel, rfl, by decide +kernel, by decide +kernel⟩
theorem d_nearest_of (bl : Blt mg)  {f : Addr} {cdv : Value} {A : Around} {outer : List Env} {s : Shared} {H : Hp} {E : XK} (hr : Room 0 (A.deeper (PyProof.Rows.envOfC "nearest_of" (defScope s_nearest_of) s.heap.objs.size f cdv))) :
    PSs (cxOf CX0 P w K mg base N_nearest_of "nearest_of" (defScope s_nearest_of) f cdv A outer s H E).nox (defBody s_nearest_of) (t_nearest_of K) :=
  (pss_cons (ps_set (i := 2) sc_nearest_of.nd rfl (.inl rfl) (pe_lst pa_nil))
  (pss_cons (ps_set (i := 3) sc_nearest_of.nd rfl (.inl rfl) pe_int)
  (pss_cons (ps_for PassesOwn.never rfl (pi_list (pv 0)) (pg_tup rfl (pgs_cons (pg_name (i := 4) sc_nearest_of.nd rfl (.inl rfl)) (pgs_cons (pg_name (i := 5) sc_nearest_of.nd rfl (.inl rfl)) pgs_nil)))
   (pss_cons (ps_while PassesOwn.never (PW.pt (pw_and (pt_cmpR p_lt (pe_op p_add (pv 3) pe_int) (pe_callB (q_len) (by rfl) bl.len (by decide +kernel) (pa_cons (pv 1) pa_nil)) (nomark _)) (pw_and1 (pt_cmpR p_lt (pe_callB (q_abs) (by rfl) bl.abs (by decide +kernel) (pa_cons (pe_op p_sub (pe_ix p_ixT (pe_ix p_ix (pv 0) (pe_ix p_ix (pv 1) (pe_op p_add (pv 3) pe_int) (fun _ _ => rfl)) (fun _ _ => rfl)) pe_int (fun _ _ => rfl)) (pv 4)) pa_nil)) (pe_callB (q_abs) (by rfl) bl.abs (by decide +kernel) (pa_cons (pe_op p_sub (pe_ix p_ixT (pe_ix p_ix (pv 0) (pe_ix p_ix (pv 1) (pv 3) (fun _ _ => rfl)) (fun _ _ => rfl)) pe_int (fun _ _ => rfl)) (pv 4)) pa_nil)) (nomark _)))))
   (pss_cons (ps_set (i := 3) sc_nearest_of.nd rfl (.inl rfl) (pe_op p_add (pv 3) pe_int))
  pss_nil))
  (pss_cons (ps_expr (pe_bm PySem.F.plainAttrs_list PySem.F.slot_list_append PySem.F.type_list_append mt_append (pv 2) (pa_cons (pe_ix p_ix (pv 1) (pv 3) (fun _ _ => rfl)) pa_nil)))
  pss_nil)))
  (pss_cons (ps_ret (pv 2))
  pss_nil))))
abbrev s_way_of : Stmt := topS 15
abbrev N_way_of : List Str := ["road", "posts", "total", "house", "post"]
theorem sc_way_of : FnScope N_way_of ["road", "posts"] (defScope s_way_of) := ⟨rfl, rfl, rfl, by decide +kernel, rfl, by decide +kernel, by decide +kernel⟩
theorem d_way_of (bl : Blt mg) (c_nearest_of : Cl P w K mg base 1 "nearest_of" (sp_nearest_of K)) {f : Addr} {cdv : Value} {A : Around} {outer : List Env} {s : Shared} {H : Hp} {E : XK} (hr : Room 1 (A.deeper (PyProof.Rows.envOfC "way_of" (defScope s_way_of) s.heap.objs.size f cdv))) :
    PSs (cxOf CX0 P w K mg base N_way_of "way_of" (defScope s_way_of) f cdv A outer s H E).nox (defBody s_way_of) (t_way_of K) :=
  (pss_cons (ps_set (i := 2) sc_way_of.nd rfl (.inl rfl) pe_int)
  (pss_cons (ps_for PassesOwn.never rfl (pi_zip (by rfl) bl.zip (pa_cons (pv 0) (pa_cons (pc c_nearest_of hr (by decide) (by rfl) (pa_cons (pv 0) (pa_cons (pv 1) pa_nil))) pa_nil))) (pg_tup rfl (pgs_cons (pg_name (i := 3) sc_way_of.nd rfl (.inl rfl)) (pgs_cons (pg_name (i := 4) sc_way_of.nd rfl (.inl rfl)) pgs_nil)))
   (pss_cons (ps_set (i := 2) sc_way_of.nd rfl (.inl rfl) (pe_op p_add (pv 2) (pe_op p_mulW (pe_ix p_ixT (pv 3) pe_int (fun _ _ => rfl)) (pe_callB (q_abs) (by rfl) bl.abs (by decide +kernel) (pa_cons (pe_op p_sub (pe_ix p_ixT (pv 3) pe_int (fun _ _ => rfl)) (pe_ix p_ixT (pe_ix p_ix (pv 0) (pv 4) (fun _ _ => rfl)) pe_int (fun _ _ => rfl))) pa_nil)))))
  pss_nil))
  (pss_cons (ps_ret (pv 2))
  pss_nil)))
abbrev s_way : Stmt := topS 17
abbrev N_way : List Str := ["road", "posts"]
theorem sc_way : FnScope N_way ["road", "posts"] (defScope s_way) := ⟨rfl, rfl, rfl, by decide +kernel, rfl, by decide +kernel, by decide +kernel⟩
theorem d_way (bl : Blt mg) (c_asked_posts : Cl P w K mg base 2 "asked_posts" (sp_asked_posts K)) (c_asked_road : Cl P w K mg base 3 "asked_road" (sp_asked_road K)) (c_way_of : Cl P w K mg base 2 "way_of" (sp_way_of K)) {f : Addr} {cdv : Value} {A : Around} {outer : List Env} {s : Shared} {H : Hp} {E : XK} (hr : Room 3 (A.deeper (PyProof.Rows.envOfC "way" (defScope s_way) s.heap.objs.size f cdv))) :
    PSs (cxOf CX0 P w K mg base N_way "way" (defScope s_way) f cdv A outer s H E).nox (defBody s_way) (t_way K) :=
  (pss_cons (ps_expr (pc c_asked_road hr (by decide) (by rfl) (pa_cons (pv 0) pa_nil)))
  (pss_cons (ps_expr (pc c_asked_posts hr (by decide) (by rfl) (pa_cons (pv 0) (pa_cons (pv 1) pa_nil))))
  (pss_cons (ps_ret (pc c_way_of hr (by decide) (by rfl) (pa_cons (pv 0) (pa_cons (pv 1) pa_nil))))
  pss_nil)))
abbrev s_sums : Stmt := topS 18
abbrev N_sums : List Str := ["road", "many", "far", "place", "letters"]
theorem sc_sums : FnScope N_sums ["road"] (defScope s_sums) := ⟨rfl, rfl, rfl, by decide +kernel, rfl, by decide +kernel, by decide +kernel⟩
theorem d_sums (bl : Blt mg)  {f : Addr} {cdv : Value} {A : Around} {outer : List Env} {s : Shared} {H : Hp} {E : XK} (hr : Room 0 (A.deeper (PyProof.Rows.envOfC "sums" (defScope s_sums) s.heap.objs.size f cdv))) :
    PSs (cxOf CX0 P w K mg base N_sums "sums" (defScope s_sums) f cdv A outer s H E).nox (defBody s_sums) (t_sums K) :=
  (pss_cons (ps_set (i := 1) sc_sums.nd rfl (.inl rfl) (pe_lst (pa_cons pe_int pa_nil)))
  (pss_cons (ps_set (i := 2) sc_sums.nd rfl (.inl rfl) (pe_lst (pa_cons pe_int pa_nil)))
  (pss_cons (ps_for PassesOwn.never rfl (pi_list (pv 0)) (pg_tup rfl (pgs_cons (pg_name (i := 3) sc_sums.nd rfl (.inl rfl)) (pgs_cons (pg_name (i := 4) sc_sums.nd rfl (.inl rfl)) pgs_nil)))
   (pss_cons (ps_expr (pe_bm PySem.F.plainAttrs_list PySem.F.slot_list_append PySem.F.type_list_append mt_append (pv 1) (pa_cons (pe_op p_add (pe_ix p_ix (pv 1) (pe_un p_neg pe_int) (fun _ _ => rfl)) (pv 4)) pa_nil)))
  (pss_cons (ps_expr (pe_bm PySem.F.plainAttrs_list PySem.F.slot_list_append PySem.F.type_list_append mt_append (pv 2) (pa_cons (pe_op p_add (pe_ix p_ix (pv 2) (pe_un p_neg pe_int) (fun _ _ => rfl)) (pe_op p_mulW (pv 4) (pv 3))) pa_nil)))
  pss_nil)))
  (pss_cons (ps_ret (pe_tup (pa_cons (pv 1) (pa_cons (pv 2) pa_nil))))
  pss_nil))))
abbrev s_carried : Stmt := topS 19
abbrev N_carried : List Str := ["road", "told", "first", "end", "post", "many", "far", "place", "ahead"]
theorem sc_carried : FnScope N_carried ["road", "told", "first", "end", "post"] (defScope s_carried) := ⟨rfl, rfl, rfl, by decide +kernel, rfl, by decide +kernel, by decide +kernel⟩
theorem d_carried (bl : Blt mg)  {f : Addr} {cdv : Value} {A : Around} {outer : List Env} {s : Shared} {H : Hp} {E : XK} (hr : Room 0 (A.deeper (PyProof.Rows.envOfC "carried" (defScope s_carried) s.heap.objs.size f cdv))) :
    PSs (cxOf CX0 P w K mg base N_carried "carried" (defScope s_carried) f cdv A outer s H E).nox (defBody s_carried) (t_carried K) :=
  (pss_cons (ps_asg (pv 1) (pg_tup rfl (pgs_cons (pg_name (i := 5) sc_carried.nd rfl (.inl rfl)) (pgs_cons (pg_name (i := 6) sc_carried.nd rfl (.inl rfl)) pgs_nil))))
  (pss_cons (ps_set (i := 7) sc_carried.nd rfl (.inl rfl) (pe_ix p_ixT (pe_ix p_ix (pv 0) (pv 4) (fun _ _ => rfl)) pe_int (fun _ _ => rfl)))
  (pss_cons (ps_set (i := 8) sc_carried.nd rfl (.inl rfl) (pe_op p_sub (pe_op p_mulW (pv 7) (pe_op p_sub (pe_ix p_ix (pv 5) (pv 4) (fun _ _ => rfl)) (pe_ix p_ix (pv 5) (pv 2) (fun _ _ => rfl)))) (pe_op p_sub (pe_ix p_ix (pv 6) (pv 4) (fun _ _ => rfl)) (pe_ix p_ix (pv 6) (pv 2) (fun _ _ => rfl)))))
  (pss_cons (ps_ret (pe_op p_sub (pe_op p_add (pv 8) (pe_op p_sub (pe_ix p_ix (pv 6) (pv 3) (fun _ _ => rfl)) (pe_ix p_ix (pv 6) (pv 4) (fun _ _ => rfl)))) (pe_op p_mulW (pv 7) (pe_op p_sub (pe_ix p_ix (pv 5) (pv 3) (fun _ _ => rfl)) (pe_ix p_ix (pv 5) (pv 4) (fun _ _ => rfl))))))
  pss_nil))))
abbrev s_middles : Stmt := topS 20
abbrev N_middles : List Str := ["road", "told", "many", "found", "first", "row", "post", "end"]
theorem sc_middles : FnScope N_middles ["road"] (defScope s_middles) := ⟨rfl, rfl, rfl, by decide +kernel, rfl, by decide +kernel, by decide +kernel⟩
theorem d_middles (bl : Blt mg) (c_carried : Cl P w K mg base 1 "carried" (sp_carried K)) (c_sums : Cl P w K mg base 1 "sums" (sp_sums K)) {f : Addr} {cdv : Value} {A : Around} {outer : List Env} {s : Shared} {H : Hp} {E : XK} (hr : Room 1 (A.deeper (PyProof.Rows.envOfC "middles" (defScope s_middles) s.heap.objs.size f cdv))) :
    PSs (cxOf CX0 P w K mg base N_middles "middles" (defScope s_middles) f cdv A outer s H E).nox (defBody s_middles) (t_middles K) :=
  (pss_cons (ps_set (i := 1) sc_middles.nd rfl (.inl rfl) (pc c_sums hr (by decide) (by rfl) (pa_cons (pv 0) pa_nil)))
  (pss_cons (ps_set (i := 2) sc_middles.nd rfl (.inl rfl) (pe_ix p_ixT (pv 1) pe_int (fun _ _ => rfl)))
  (pss_cons (ps_set (i := 3) sc_middles.nd rfl (.inl rfl) (pe_lst pa_nil))
  (pss_cons (ps_for PassesOwn.never rfl (pi_range1 (by rfl) bl.range (pa_cons (pe_callB (q_len) (by rfl) bl.len (by decide +kernel) (pa_cons (pv 0) pa_nil)) pa_nil)) (pg_name (i := 4) sc_middles.nd rfl (.inl rfl))
   (pss_cons (ps_set (i := 5) sc_middles.nd rfl (.inl rfl) (pe_lst pa_nil))
  (pss_cons (ps_set (i := 6) sc_middles.nd rfl (.inl rfl) (pv 4))
  (pss_cons (ps_for PassesOwn.never rfl (pi_range2 (by rfl) bl.range (pa_cons (pe_op p_add (pv 4) pe_int) (pa_cons (pe_op p_add (pe_callB (q_len) (by rfl) bl.len (by decide +kernel) (pa_cons (pv 0) pa_nil)) pe_int) pa_nil))) (pg_name (i := 7) sc_middles.nd rfl (.inl rfl))
   (pss_cons (ps_while PassesOwn.never (pt_cmpR p_lt (pe_op p_mul pe_int (pe_op p_sub (pe_ix p_ix (pv 2) (pe_op p_add (pv 6) pe_int) (fun _ _ => rfl)) (pe_ix p_ix (pv 2) (pv 4) (fun _ _ => rfl)))) (pe_op p_sub (pe_ix p_ix (pv 2) (pv 7) (fun _ _ => rfl)) (pe_ix p_ix (pv 2) (pv 4) (fun _ _ => rfl))) (nomark _))
   (pss_cons (ps_set (i := 6) sc_middles.nd rfl (.inl rfl) (pe_op p_add (pv 6) pe_int))
  pss_nil))
  (pss_cons (ps_expr (pe_bm PySem.F.plainAttrs_list PySem.F.slot_list_append PySem.F.type_list_append mt_append (pv 5) (pa_cons (pe_tup (pa_cons (pv 6) (pa_cons (pc c_carried hr (by decide) (by rfl) (pa_cons (pv 0) (pa_cons (pv 1) (pa_cons (pv 4) (pa_cons (pv 7) (pa_cons (pv 6) pa_nil)))))) pa_nil))) pa_nil)))
  pss_nil)))
  (pss_cons (ps_expr (pe_bm PySem.F.plainAttrs_list PySem.F.slot_list_append PySem.F.type_list_append mt_append (pv 3) (pa_cons (pv 5) pa_nil)))
  pss_nil)))))
  (pss_cons (ps_ret (pv 3))
  pss_nil)))))
abbrev s_Best_init : Stmt := inClass (topS 25) 0
abbrev N_Best_init : List Str := ["self", "posts", "bounds", "fee"]
theorem sc_Best_init : FnScope N_Best_init ["self", "posts", "bounds", "fee"] (defScope s_Best_init) := ⟨rfl, rfl, rfl, by decide +kernel, rfl, by decide +kernel, by decide +kernel⟩
theorem d_Best_init (bl : Blt mg)  {f : Addr} {cdv : Value} {A : Around} {outer : List Env} {s : Shared} {H : Hp} {E : XK} (hr : Room 0 (A.deeper (PyProof.Rows.envOfC "Best.__init__" (defScope s_Best_init) s.heap.objs.size f cdv))) :
    PSs (cxOf CX0 P w K mg base N_Best_init "Best.__init__" (defScope s_Best_init) f cdv A outer s H E).nox (defBody s_Best_init) (t_init3 K) :=
  (pss_cons (ps_fld (pv 0) (pe_callTy q_list (by rfl) bl.list (by decide +kernel) (pa_cons (pv 1) pa_nil)) rfl)
  (pss_cons (ps_fld (pv 0) (pe_callTy q_list (by rfl) bl.list (by decide +kernel) (pa_cons (pv 2) pa_nil)) rfl)
  (pss_cons (ps_fld (pv 0) (pv 3) rfl)
  pss_nil)))
abbrev s_layers : Stmt := topS 28
abbrev N_layers : List Str := ["road", "table", "many", "size", "found", "end", "turn", "last", "now", "told", "first"]
theorem sc_layers : FnScope N_layers ["road", "table", "many"] (defScope s_layers) := ⟨rfl, rfl, rfl, by decide +kernel, rfl, by decide +kernel, by decide +kernel⟩
theorem d_layers (bl : Blt mg)  {f : Addr} {cdv : Value} {A : Around} {outer : List Env} {s : Shared} {H : Hp} {E : XK} (hr : Room 0 (A.deeper (PyProof.Rows.envOfC "layers" (defScope s_layers) s.heap.objs.size f cdv))) :
    PSs (cxOf CX0 P w K mg base N_layers "layers" (defScope s_layers) f cdv A outer s H E).nox (defBody s_layers) (t_layers K) :=
  (pss_cons (ps_set (i := 3) sc_layers.nd rfl (.inl rfl) (pe_callB (q_len) (by rfl) bl.len (by decide +kernel) (pa_cons (pv 0) pa_nil)))
  (pss_cons (ps_set (i := 4) sc_layers.nd rfl (.inl rfl) (pe_lst (pa_cons (pe_lc (own := [("end", 5)]) (g := (gName 5)) (tt := tYes) (te := (tTup (tCons (tOp (oIxT K) (tOp (oIx K) (tOp (oIx K) (tVar 1) (tC (.int 0))) (tOp oSub (tVar 5) (tC (.int 1)))) (tC (.int 1))) (tCons (tC (.int 0)) tNil)))) rfl sc_layers.nd (pi_range2 (by rfl) bl.range (pa_cons pe_int (pa_cons (pe_op p_add (pv 3) pe_int) pa_nil))) (blkOk_by (N := N_layers) (sc := defScope s_layers) (by decide +kernel)) (fun _ _ _ _ _ => (pg_name (i := 5) sc_layers.nd rfl (.inl rfl))) (fun _ _ _ _ _ => pts_nil) (fun _ _ _ _ _ => (pe_tup (pa_cons (pe_ix p_ixT (pe_ix p_ix (pe_ix p_ix (pv 1) pe_int (fun _ _ => rfl)) (pe_op p_sub (pv 5) pe_int) (fun _ _ => rfl)) pe_int (fun _ _ => rfl)) (pa_cons pe_int pa_nil))))) pa_nil)))
  (pss_cons (ps_for PassesOwn.never rfl (pi_range2 (by rfl) bl.range (pa_cons pe_int (pa_cons (pv 2) pa_nil))) (pg_name (i := 6) sc_layers.nd rfl (.inl rfl))
   (pss_cons (ps_set (i := 7) sc_layers.nd rfl (.inr rfl) (pe_ix p_ix (pv 4) (pe_un p_neg pe_int) (fun _ _ => rfl)))
  (pss_cons (ps_set (i := 8) sc_layers.nd rfl (.inl rfl) (pe_lst pa_nil))
  (pss_cons (ps_for PassesOwn.never rfl (pi_range2 (by rfl) bl.range (pa_cons pe_int (pa_cons (pe_op p_add (pv 3) pe_int) pa_nil))) (pg_name (i := 5) sc_layers.nd rfl (.inr rfl))
   (pss_cons (ps_setLc (i := 9) (own := [("first", 10)]) (g := (gName 10)) (tt := tYes) (te := (tTup (tCons (tOp oAdd (tOp (oIxT K) (tOp (oIx K) (tVar 7) (tOp oSub (tVar 10) (tC (.int 1)))) (tC (.int 0))) (tOp (oIxT K) (tOp (oIx K) (tOp (oIx K) (tVar 1) (tVar 10)) (tOp oSub (tOp oSub (tVar 5) (tVar 10)) (tC (.int 1)))) (tC (.int 1)))) (tCons (tVar 10) tNil)))) rfl sc_layers.nd rfl rfl (sw_true rfl rfl rfl (by decide +kernel)) (pi_range2 (by rfl) bl.range (pa_cons (pv 6) (pa_cons (pv 5) pa_nil))) (blkOk_by (N := N_layers) (sc := defScope s_layers) (by decide +kernel)) (fun _ _ _ _ _ => (pg_name (i := 10) sc_layers.nd rfl (.inl rfl))) (fun _ _ _ _ _ => pts_nil) (fun _ _ _ _ _ => (pe_tup (pa_cons (pe_op p_add (pe_ix p_ixT (pe_ix p_ix (pv 7) (pe_op p_sub (pv 10) pe_int) (fun _ _ => rfl)) pe_int (fun _ _ => rfl)) (pe_ix p_ixT (pe_ix p_ix (pe_ix p_ix (pv 1) (pv 10) (fun _ _ => rfl)) (pe_op p_sub (pe_op p_sub (pv 5) (pv 10)) pe_int) (fun _ _ => rfl)) pe_int (fun _ _ => rfl))) (pa_cons (pv 10) pa_nil)))))
  (pss_cons (ps_expr (pe_bm PySem.F.plainAttrs_list PySem.F.slot_list_append PySem.F.type_list_append mt_append (pv 8) (pa_cons (pe_callBK (ks := ["default"]) (q_minTD hr.units rfl) (by rfl) bl.min (by decide +kernel) (pa_cons (pv 9) pa_nil) (pk_cons (pe_tup (pa_cons pe_int (pa_cons pe_int pa_nil))) pk_nil)) pa_nil)))
  pss_nil)))
  (pss_cons (ps_expr (pe_bm PySem.F.plainAttrs_list PySem.F.slot_list_append PySem.F.type_list_append mt_append (pv 4) (pa_cons (pv 8) pa_nil)))
  pss_nil)))))
  (pss_cons (ps_ret (pv 4))
  pss_nil))))
abbrev s_posts_by : Stmt := topS 29
abbrev N_posts_by : List Str := ["road", "table", "told", "many", "found", "end", "turn", "first"]
theorem sc_posts_by : FnScope N_posts_by ["road", "table", "told", "many"] (defScope s_posts_by) := ⟨rfl, rfl, rfl, by decide +kernel, rfl, by decide +kernel, by decide +kernel⟩
theorem d_posts_by (bl : Blt mg)  {f : Addr} {cdv : Value} {A : Around} {outer : List Env} {s : Shared} {H : Hp} {E : XK} (hr : Room 0 (A.deeper (PyProof.Rows.envOfC "posts_by" (defScope s_posts_by) s.heap.objs.size f cdv))) :
    PSs (cxOf CX0 P w K mg base N_posts_by "posts_by" (defScope s_posts_by) f cdv A outer s H E).nox (defBody s_posts_by) (t_posts_by K) :=
  (pss_cons (ps_set (i := 4) sc_posts_by.nd rfl (.inl rfl) (pe_lst pa_nil))
  (pss_cons (ps_set (i := 5) sc_posts_by.nd rfl (.inl rfl) (pe_callB (q_len) (by rfl) bl.len (by decide +kernel) (pa_cons (pv 0) pa_nil)))
  (pss_cons (ps_for PassesOwn.never rfl (pi_revR (by rfl) bl.reversed (prg_1 (by rfl) bl.range (pv 3))) (pg_name (i := 6) sc_posts_by.nd rfl (.inl rfl))
   (pss_cons (ps_set (i := 7) sc_posts_by.nd rfl (.inl rfl) (pe_ix p_ixT (pe_ix p_ix (pe_ix p_ix (pv 2) (pv 6) (fun _ _ => rfl)) (pe_op p_sub (pv 5) pe_int) (fun _ _ => rfl)) pe_int (fun _ _ => rfl)))
  (pss_cons (ps_expr (pe_bm PySem.F.plainAttrs_list PySem.F.slot_list_append PySem.F.type_list_append mt_append (pv 4) (pa_cons (pe_ix p_ixT (pe_ix p_ix (pe_ix p_ix (pv 1) (pv 7) (fun _ _ => rfl)) (pe_op p_sub (pe_op p_sub (pv 5) (pv 7)) pe_int) (fun _ _ => rfl)) pe_int (fun _ _ => rfl)) pa_nil)))
  (pss_cons (ps_set (i := 5) sc_posts_by.nd rfl (.inl rfl) (pv 7))
  pss_nil))))
  (pss_cons (ps_ret (pe_revL (pv 4)))
  pss_nil))))
abbrev s_led : Stmt := topS 30
abbrev N_led : List Str := ["road", "table", "fee", "found", "end", "told", "far", "first"]
theorem sc_led : FnScope N_led ["road", "table", "fee"] (defScope s_led) := ⟨rfl, rfl, rfl, by decide +kernel, rfl, by decide +kernel, by decide +kernel⟩
theorem d_led (bl : Blt mg)  {f : Addr} {cdv : Value} {A : Around} {outer : List Env} {s : Shared} {H : Hp} {E : XK} (hr : Room 0 (A.deeper (PyProof.Rows.envOfC "led" (defScope s_led) s.heap.objs.size f cdv))) :
    PSs (cxOf CX0 P w K mg base N_led "led" (defScope s_led) f cdv A outer s H E).nox (defBody s_led) (t_led K) :=
  (pss_cons (ps_set (i := 3) sc_led.nd rfl (.inr rfl) (pe_lst (pa_cons (pe_tup (pa_cons pe_int (pa_cons pe_int pa_nil))) pa_nil)))
  (pss_cons (ps_for PassesOwn.never rfl (pi_range2 (by rfl) bl.range (pa_cons pe_int (pa_cons (pe_op p_add (pe_callB (q_len) (by rfl) bl.len (by decide +kernel) (pa_cons (pv 0) pa_nil)) pe_int) pa_nil))) (pg_name (i := 4) sc_led.nd rfl (.inr rfl))
   (pss_cons (ps_setLc (i := 5) (own := [("first", 7)]) (g := (gName 7)) (tt := tYes) (te := (tTup (tCons (tOp oAdd (tOp (oIxT K) (tOp (oIx K) (tVar 3) (tVar 7)) (tC (.int 0))) (tOp (oIxT K) (tOp (oIx K) (tOp (oIx K) (tVar 1) (tVar 7)) (tOp oSub (tOp oSub (tVar 4) (tVar 7)) (tC (.int 1)))) (tC (.int 1)))) (tCons (tVar 7) tNil)))) rfl sc_led.nd rfl rfl (sw_true rfl rfl rfl (by decide +kernel)) (pi_range1 (by rfl) bl.range (pa_cons (pv 4) pa_nil)) (blkOk_by (N := N_led) (sc := defScope s_led) (by decide +kernel)) (fun _ _ _ _ _ => (pg_name (i := 7) sc_led.nd rfl (.inl rfl))) (fun _ _ _ _ _ => pts_nil) (fun _ _ _ _ _ => (pe_tup (pa_cons (pe_op p_add (pe_ix p_ixT (pe_ix p_ix (pv 3) (pv 7) (fun _ _ => rfl)) pe_int (fun _ _ => rfl)) (pe_ix p_ixT (pe_ix p_ix (pe_ix p_ix (pv 1) (pv 7) (fun _ _ => rfl)) (pe_op p_sub (pe_op p_sub (pv 4) (pv 7)) pe_int) (fun _ _ => rfl)) pe_int (fun _ _ => rfl))) (pa_cons (pv 7) pa_nil)))))
  (pss_cons (ps_asg (pe_callB (q_minT hr.units rfl) (by rfl) bl.min (by decide +kernel) (pa_cons (pv 5) pa_nil)) (pg_tup rfl (pgs_cons (pg_name (i := 6) sc_led.nd rfl (.inl rfl)) (pgs_cons (pg_name (i := 7) sc_led.nd rfl (.inl rfl)) pgs_nil))))
  (pss_cons (ps_expr (pe_bm PySem.F.plainAttrs_list PySem.F.slot_list_append PySem.F.type_list_append mt_append (pv 3) (pa_cons (pe_tup (pa_cons (pe_op p_add (pv 6) (pv 2)) (pa_cons (pv 7) pa_nil))) pa_nil)))
  pss_nil))))
  (pss_cons (ps_ret (pv 3))
  pss_nil)))
abbrev s_asked_many : Stmt := topS 31
abbrev N_asked_many : List Str := ["road", "many"]
theorem sc_asked_many : FnScope N_asked_many ["road", "many"] (defScope s_asked_many) := ⟨rfl, rfl, rfl, by decide +kernel, rfl, by decide +kernel, by decide +kernel⟩
theorem d_asked_many (bl : Blt mg) (c_is_number : Cl P w K mg base 1 "is_number" (sp_is_number K)) {f : Addr} {cdv : Value} {A : Around} {outer : List Env} {s : Shared} {H : Hp} {E : XK} (hr : Room 1 (A.deeper (PyProof.Rows.envOfC "asked_many" (defScope s_asked_many) s.heap.objs.size f cdv))) :
    PSs (cxOf CX0 P w K mg base N_asked_many "asked_many" (defScope s_asked_many) f cdv A outer s H E).nox (defBody s_asked_many) (t_asked_many K) :=
  (pss_cons (ps_if (PW.pt (pw_or (pt_not (pt_val (pc c_is_number hr (by decide) (by rfl) (pa_cons (pv 1) pa_nil)))) (pw_or1 (pt_not (pt_chain p_le p_le pe_int (pv 1) (pe_callB (q_len) (by rfl) bl.len (by decide +kernel) (pa_cons (pv 0) pa_nil)))))))
   (pss_cons ps_never
  pss_nil) pss_nil)
  pss_nil)
abbrev s_asked_number : Stmt := topS 32
abbrev N_asked_number : List Str := ["number"]
theorem sc_asked_number : FnScope N_asked_number ["number"] (defScope s_asked_number) := ⟨rfl, rfl, rfl, by decide +kernel, rfl, by decide +kernel, by decide +kernel⟩
theorem d_asked_number (bl : Blt mg) (c_is_number : Cl P w K mg base 1 "is_number" (sp_is_number K)) {f : Addr} {cdv : Value} {A : Around} {outer : List Env} {s : Shared} {H : Hp} {E : XK} (hr : Room 1 (A.deeper (PyProof.Rows.envOfC "asked_number" (defScope s_asked_number) s.heap.objs.size f cdv))) :
    PSs (cxOf CX0 P w K mg base N_asked_number "asked_number" (defScope s_asked_number) f cdv A outer s H E).nox (defBody s_asked_number) (t_asked_number K) :=
  (pss_cons (ps_if (PW.pt (pw_or (pt_not (pt_val (pc c_is_number hr (by decide) (by rfl) (pa_cons (pv 0) pa_nil)))) (pw_or1 (pt_cmpR p_lt (pv 0) pe_int (nomark _)))))
   (pss_cons ps_never
  pss_nil) pss_nil)
  pss_nil)
abbrev s_best : Stmt := topS 33
abbrev N_best : List Str := ["road", "many", "table", "told", "fee", "bounds", "one"]
theorem sc_best : FnScope N_best ["road", "many"] (defScope s_best) := ⟨rfl, rfl, rfl, by decide +kernel, rfl, by decide +kernel, by decide +kernel⟩
theorem d_best (bl : Blt mg) (m_Best : ClM P w K mg base 1 "Best" (He.ga K "Best") (PrI3 K (He.ga K "Best"))) (c_asked_many : Cl P w K mg base 2 "asked_many" (sp_asked_many K)) (c_asked_road : Cl P w K mg base 3 "asked_road" (sp_asked_road K)) (c_layers : Cl P w K mg base 1 "layers" (sp_layers K)) (c_led : Cl P w K mg base 1 "led" (sp_led K)) (c_middles : Cl P w K mg base 2 "middles" (sp_middles K)) (c_posts_by : Cl P w K mg base 1 "posts_by" (sp_posts_by K)) {f : Addr} {cdv : Value} {A : Around} {outer : List Env} {s : Shared} {H : Hp} {E : XK} (hr : Room 3 (A.deeper (PyProof.Rows.envOfC "best" (defScope s_best) s.heap.objs.size f cdv))) :
    PSs (cxOf CX0 P w K mg base N_best "best" (defScope s_best) f cdv A outer s H E).nox (defBody s_best) (t_best K) :=
  (pss_cons (ps_expr (pc c_asked_road hr (by decide) (by rfl) (pa_cons (pv 0) pa_nil)))
  (pss_cons (ps_expr (pc c_asked_many hr (by decide) (by rfl) (pa_cons (pv 0) (pa_cons (pv 1) pa_nil))))
  (pss_cons (ps_set (i := 2) sc_best.nd rfl (.inl rfl) (pc c_middles hr (by decide) (by rfl) (pa_cons (pv 0) pa_nil)))
  (pss_cons (ps_set (i := 3) sc_best.nd rfl (.inl rfl) (pc c_layers hr (by decide) (by rfl) (pa_cons (pv 0) (pa_cons (pv 2) (pa_cons (pe_callB (q_min2 rfl) (by rfl) bl.min (by decide +kernel) (pa_cons (pe_op p_add (pv 1) pe_int) (pa_cons (pe_callB (q_len) (by rfl) bl.len (by decide +kernel) (pa_cons (pv 0) pa_nil)) pa_nil))) pa_nil)))))
  (pss_cons (ps_set (i := 4) sc_best.nd rfl (.inl rfl) (pe_ifExp (pt_cmpR p_lt (pv 1) (pe_callB (q_len) (by rfl) bl.len (by decide +kernel) (pa_cons (pv 0) pa_nil)) (nomark _)) (pe_op p_sub (pe_ix p_ixT (pe_ix p_ix (pe_ix p_ix (pv 3) (pe_op p_sub (pv 1) pe_int) (fun _ _ => rfl)) (pe_un p_neg pe_int) (fun _ _ => rfl)) pe_int (fun _ _ => rfl)) (pe_ix p_ixT (pe_ix p_ix (pe_ix p_ix (pv 3) (pv 1) (fun _ _ => rfl)) (pe_un p_neg pe_int) (fun _ _ => rfl)) pe_int (fun _ _ => rfl))) pe_int))
  (pss_cons (ps_setLc (i := 5) (own := [("one", 6)]) (g := (gName 6)) (tt := tYes) (te := (tOp (oIxT K) (tVar 6) (tC (.int 0)))) rfl sc_best.nd rfl rfl (sw_true rfl rfl rfl (by decide +kernel)) (pi_list (pc c_led hr (by decide) (by rfl) (pa_cons (pv 0) (pa_cons (pv 2) (pa_cons (pv 4) pa_nil))))) (blkOk_by (N := N_best) (sc := defScope s_best) (by decide +kernel)) (fun _ _ _ _ _ => (pg_name (i := 6) sc_best.nd rfl (.inl rfl))) (fun _ _ _ _ _ => pts_nil) (fun _ _ _ _ _ => (pe_ix p_ixT (pv 6) pe_int (fun _ _ => rfl))))
  (pss_cons (ps_ret (pmk m_Best hr (by decide) (by rfl) (pa_cons (pc c_posts_by hr (by decide) (by rfl) (pa_cons (pv 0) (pa_cons (pv 2) (pa_cons (pv 3) (pa_cons (pv 1) pa_nil))))) (pa_cons (pv 5) (pa_cons (pv 4) pa_nil)))))
  pss_nil)))))))
abbrev s_ways : Stmt := topS 34
abbrev N_ways : List Str := ["road", "most", "told", "layer"]
theorem sc_ways : FnScope N_ways ["road", "most"] (defScope s_ways) := ⟨rfl, rfl, rfl, by decide +kernel, rfl, by decide +kernel, by decide +kernel⟩
theorem d_ways (bl : Blt mg) (c_asked_number : Cl P w K mg base 2 "asked_number" (sp_asked_number K)) (c_asked_road : Cl P w K mg base 3 "asked_road" (sp_asked_road K)) (c_layers : Cl P w K mg base 1 "layers" (sp_layers K)) (c_middles : Cl P w K mg base 2 "middles" (sp_middles K)) {f : Addr} {cdv : Value} {A : Around} {outer : List Env} {s : Shared} {H : Hp} {E : XK} (hr : Room 3 (A.deeper (PyProof.Rows.envOfC "ways" (defScope s_ways) s.heap.objs.size f cdv))) :
    PSs (cxOf CX0 P w K mg base N_ways "ways" (defScope s_ways) f cdv A outer s H E).nox (defBody s_ways) (t_ways K) :=
  (pss_cons (ps_expr (pc c_asked_road hr (by decide) (by rfl) (pa_cons (pv 0) pa_nil)))
  (pss_cons (ps_expr (pc c_asked_number hr (by decide) (by rfl) (pa_cons (pv 1) pa_nil)))
  (pss_cons (ps_if (PW.pt (pw_or (pt_cmpR (p_eqD hr.units) (pv 0) (pe_lst pa_nil) (nomark _)) (pw_or1 (pt_cmpR p_eqI (pv 1) pe_int (nomark _)))))
   (pss_cons (ps_ret (pe_lst pa_nil))
  pss_nil) pss_nil)
  (pss_cons (ps_set (i := 2) sc_ways.nd rfl (.inl rfl) (pc c_layers hr (by decide) (by rfl) (pa_cons (pv 0) (pa_cons (pc c_middles hr (by decide) (by rfl) (pa_cons (pv 0) pa_nil)) (pa_cons (pe_callB (q_min2 rfl) (by rfl) bl.min (by decide +kernel) (pa_cons (pv 1) (pa_cons (pe_callB (q_len) (by rfl) bl.len (by decide +kernel) (pa_cons (pv 0) pa_nil)) pa_nil))) pa_nil)))))
  (pss_cons (ps_ret (pe_lc (own := [("layer", 3)]) (g := (gName 3)) (tt := tYes) (te := (tOp (oIxT K) (tOp (oIx K) (tVar 3) (tUn oNeg (tC (.int 1)))) (tC (.int 0)))) rfl sc_ways.nd (pi_list (pv 2)) (blkOk_by (N := N_ways) (sc := defScope s_ways) (by decide +kernel)) (fun _ _ _ _ _ => (pg_name (i := 3) sc_ways.nd rfl (.inl rfl))) (fun _ _ _ _ _ => pts_nil) (fun _ _ _ _ _ => (pe_ix p_ixT (pe_ix p_ix (pv 3) (pe_un p_neg pe_int) (fun _ _ => rfl)) pe_int (fun _ _ => rfl)))))
  pss_nil)))))
theorem dx_asked_road (bl : Blt mg) (c_is_house : Cl P w K mg base 2 "is_house" (sp_is_house K)) (xc_BadRoad : XC K mg "BadRoad") {f : Addr} {cdv : Value} {A : Around} {outer : List Env} {s : Shared} {H : Hp} {E : XK} (hr : Room 2 (A.deeper (PyProof.Rows.envOfC "asked_road" (defScope s_asked_road) s.heap.objs.size f cdv))) :
    PSs (cxOf (L2.CX P w) P w K mg base N_asked_road "asked_road" (defScope s_asked_road) f cdv A outer s H E) (defBody s_asked_road) (tx_asked_road K (WD E)) := by
  have tk : Takes (cxOf (L2.CX P w) P w K mg base N_asked_road "asked_road" (defScope s_asked_road) f cdv A outer s H E) (WD E) := takes_of rfl rfl rfl rfl
  exact (pss_cons (ps_if (PW.pt (pw_or (pt_not (pt_val (pe_callB (q_isi) (by rfl) bl.isinstance (by decide +kernel) (pa_cons (pv 0) (pa_cons (pe_bltn (v := .ty "list") (by rfl) bl.list (by decide +kernel) rfl) pa_nil))))) (pw_or1 (pt_not (pt_val (pe_callB (q_all rfl) (by rfl) bl.all (by decide +kernel) (pa_cons (pe_lc (own := [("house", 1)]) (g := (gName 1)) (tt := tYes) (te := (tCall (sp_is_house K) [] E0 (tCons (tVar 1) tNil))) rfl sc_asked_road.nd (pi_list (pv 0)) (blkOk_by (N := N_asked_road) (sc := defScope s_asked_road) (by decide +kernel)) (fun _ _ _ _ _ => (pg_name (i := 1) sc_asked_road.nd rfl (.inl rfl))) (fun _ _ _ _ _ => pts_nil) (fun _ _ _ _ _ => (pc c_is_house hr (by decide) (by rfl) (pa_cons (pv 1) pa_nil)))) pa_nil)))))))
   (pss_cons (ps_raiseX xc_BadRoad rfl tk (by rfl))
  pss_nil) pss_nil)
  (pss_cons (ps_if (pt_not (pt_val (pe_callB (q_all rfl) (by rfl) bl.all (by decide +kernel) (pa_cons (pe_lc (own := [("at", 2)]) (g := (gName 2)) (tt := tYes) (te := (tOp oLt (tOp (oIxT K) (tOp (oIx K) (tVar 0) (tVar 2)) (tC (.int 0))) (tOp (oIxT K) (tOp (oIx K) (tVar 0) (tOp oAdd (tVar 2) (tC (.int 1)))) (tC (.int 0))))) rfl sc_asked_road.nd (pi_range1 (by rfl) bl.range (pa_cons (pe_op p_sub (pe_callB (q_len) (by rfl) bl.len (by decide +kernel) (pa_cons (pv 0) pa_nil)) pe_int) pa_nil)) (blkOk_by (N := N_asked_road) (sc := defScope s_asked_road) (by decide +kernel)) (fun _ _ _ _ _ => (pg_name (i := 2) sc_asked_road.nd rfl (.inl rfl))) (fun _ _ _ _ _ => pts_nil) (fun _ _ _ _ _ => (pe_cmpR p_lt (pe_ix p_ixT (pe_ix p_ix (pv 0) (pv 2) (fun _ _ => rfl)) pe_int (fun _ _ => rfl)) (pe_ix p_ixT (pe_ix p_ix (pv 0) (pe_op p_add (pv 2) pe_int) (fun _ _ => rfl)) pe_int (fun _ _ => rfl)) (nomark _)))) pa_nil))))
   (pss_cons (ps_raiseX xc_BadRoad rfl tk (by rfl))
  pss_nil) pss_nil)
  pss_nil))
theorem dx_asked_posts (bl : Blt mg) (c_are_posts : Cl P w K mg base 1 "are_posts" (sp_are_posts K)) (c_is_number : Cl P w K mg base 1 "is_number" (sp_is_number K)) (xc_BadPosts : XC K mg "BadPosts") {f : Addr} {cdv : Value} {A : Around} {outer : List Env} {s : Shared} {H : Hp} {E : XK} (hr : Room 1 (A.deeper (PyProof.Rows.envOfC "asked_posts" (defScope s_asked_posts) s.heap.objs.size f cdv))) :
    PSs (cxOf (L2.CX P w) P w K mg base N_asked_posts "asked_posts" (defScope s_asked_posts) f cdv A outer s H E) (defBody s_asked_posts) (tx_asked_posts K (WD E)) := by
  have tk : Takes (cxOf (L2.CX P w) P w K mg base N_asked_posts "asked_posts" (defScope s_asked_posts) f cdv A outer s H E) (WD E) := takes_of rfl rfl rfl rfl
  exact (pss_cons (ps_if (PW.pt (pw_or (pt_not (pt_val (pe_callB (q_isi) (by rfl) bl.isinstance (by decide +kernel) (pa_cons (pv 1) (pa_cons (pe_bltn (v := .ty "list") (by rfl) bl.list (by decide +kernel) rfl) pa_nil))))) (pw_or (pt_not (pt_val (pe_callB (q_all rfl) (by rfl) bl.all (by decide +kernel) (pa_cons (pe_lc (own := [("post", 2)]) (g := (gName 2)) (tt := tYes) (te := (tCall (sp_is_number K) [] E0 (tCons (tVar 2) tNil))) rfl sc_asked_posts.nd (pi_list (pv 1)) (blkOk_by (N := N_asked_posts) (sc := defScope s_asked_posts) (by decide +kernel)) (fun _ _ _ _ _ => (pg_name (i := 2) sc_asked_posts.nd rfl (.inl rfl))) (fun _ _ _ _ _ => pts_nil) (fun _ _ _ _ _ => (pc c_is_number hr (by decide) (by rfl) (pa_cons (pv 2) pa_nil)))) pa_nil)))) (pw_or1 (pt_not (pt_val (pc c_are_posts hr (by decide) (by rfl) (pa_cons (pv 0) (pa_cons (pv 1) pa_nil)))))))))
   (pss_cons (ps_raiseX xc_BadPosts rfl tk (by rfl))
  pss_nil) pss_nil)
  pss_nil)
abbrev s_asked_stretch : Stmt := topS 13
abbrev N_asked_stretch : List Str := ["road", "first", "end"]
theorem sc_asked_stretch : FnScope N_asked_stretch ["road", "first", "end"] (defScope s_asked_stretch) := ⟨rfl, rfl, rfl, by decide +kernel, rfl, by decide +kernel, by decide +kernel⟩
theorem dx_asked_stretch (bl : Blt mg) (c_is_number : Cl P w K mg base 1 "is_number" (sp_is_number K)) (xc_BadStretch : XC K mg "BadStretch") {f : Addr} {cdv : Value} {A : Around} {outer : List Env} {s : Shared} {H : Hp} {E : XK} (hr : Room 1 (A.deeper (PyProof.Rows.envOfC "asked_stretch" (defScope s_asked_stretch) s.heap.objs.size f cdv))) :
    PSs (cxOf (L2.CX P w) P w K mg base N_asked_stretch "asked_stretch" (defScope s_asked_stretch) f cdv A outer s H E) (defBody s_asked_stretch) (tx_asked_stretch K (WD E)) := by
  have tk : Takes (cxOf (L2.CX P w) P w K mg base N_asked_stretch "asked_stretch" (defScope s_asked_stretch) f cdv A outer s H E) (WD E) := takes_of rfl rfl rfl rfl
  exact (pss_cons (ps_if (PW.pt (pw_or (pt_not (pt_val (pc c_is_number hr (by decide) (by rfl) (pa_cons (pv 1) pa_nil)))) (pw_or (pt_not (pt_val (pc c_is_number hr (by decide) (by rfl) (pa_cons (pv 2) pa_nil)))) (pw_or1 (pt_not (pt_chain3 p_le p_lt p_le pe_int (pv 1) (pv 2) (pe_callB (q_len) (by rfl) bl.len (by decide +kernel) (pa_cons (pv 0) pa_nil))))))))
   (pss_cons (ps_raiseX xc_BadStretch rfl tk (by rfl))
  pss_nil) pss_nil)
  pss_nil)
theorem dx_asked_many (bl : Blt mg) (c_is_number : Cl P w K mg base 1 "is_number" (sp_is_number K)) (xc_BadMany : XC K mg "BadMany") {f : Addr} {cdv : Value} {A : Around} {outer : List Env} {s : Shared} {H : Hp} {E : XK} (hr : Room 1 (A.deeper (PyProof.Rows.envOfC "asked_many" (defScope s_asked_many) s.heap.objs.size f cdv))) :
    PSs (cxOf (L2.CX P w) P w K mg base N_asked_many "asked_many" (defScope s_asked_many) f cdv A outer s H E) (defBody s_asked_many) (tx_asked_many K (WD E)) := by
  have tk : Takes (cxOf (L2.CX P w) P w K mg base N_asked_many "asked_many" (defScope s_asked_many) f cdv A outer s H E) (WD E) := takes_of rfl rfl rfl rfl
  exact (pss_cons (ps_if (PW.pt (pw_or (pt_not (pt_val (pc c_is_number hr (by decide) (by rfl) (pa_cons (pv 1) pa_nil)))) (pw_or1 (pt_not (pt_chain p_le p_le pe_int (pv 1) (pe_callB (q_len) (by rfl) bl.len (by decide +kernel) (pa_cons (pv 0) pa_nil)))))))
   (pss_cons (ps_raiseX xc_BadMany rfl tk (by rfl))
  pss_nil) pss_nil)
  pss_nil)
theorem dx_asked_number (bl : Blt mg) (c_is_number : Cl P w K mg base 1 "is_number" (sp_is_number K)) (xc_BadMany : XC K mg "BadMany") {f : Addr} {cdv : Value} {A : Around} {outer : List Env} {s : Shared} {H : Hp} {E : XK} (hr : Room 1 (A.deeper (PyProof.Rows.envOfC "asked_number" (defScope s_asked_number) s.heap.objs.size f cdv))) :
    PSs (cxOf (L2.CX P w) P w K mg base N_asked_number "asked_number" (defScope s_asked_number) f cdv A outer s H E) (defBody s_asked_number) (tx_asked_number K (WD E)) := by
  have tk : Takes (cxOf (L2.CX P w) P w K mg base N_asked_number "asked_number" (defScope s_asked_number) f cdv A outer s H E) (WD E) := takes_of rfl rfl rfl rfl
  exact (pss_cons (ps_if (PW.pt (pw_or (pt_not (pt_val (pc c_is_number hr (by decide) (by rfl) (pa_cons (pv 0) pa_nil)))) (pw_or1 (pt_cmpR p_lt (pv 0) pe_int (nomark _)))))
   (pss_cons (ps_raiseX xc_BadMany rfl tk (by rfl))
  pss_nil) pss_nil)
  pss_nil)
abbrev s_law_road_asked : Stmt := topS 37
abbrev N_law_road_asked : List Str := ["_law_which", "_law_more", "_law_house", "_law_roads", "_law_at", "_law_bad", "_law_door"]
theorem sc_law_road_asked : FnScope N_law_road_asked ["_law_which", "_law_more"] (defScope s_law_road_asked) := ⟨rfl, rfl, rfl, by decide +kernel, rfl, by decide +kernel, by decide +kernel⟩
theorem dx_law_road_asked (bl : Blt mg) (cx_best : ClX P w K mg base 4 "best" (sx_best K)) (cx_middle : ClX P w K mg base 4 "middle" (sx_middle K)) (cx_nearest : ClX P w K mg base 4 "nearest" (sx_nearest K)) (cx_one_way : ClX P w K mg base 4 "one_way" (sx_one_way K)) (cx_paying : ClX P w K mg base 4 "paying" (sx_paying K)) (cx_way : ClX P w K mg base 4 "way" (sx_way K)) (cx_ways : ClX P w K mg base 4 "ways" (sx_ways K)) (h_np : ∀ f ∈ [He.ga K "nearest", He.ga K "way"], ∃ (fd : FuncData) (ps : List Str), FnOk P w K mg base (L2.CX P w) 4 f fd ps (sx_np K) ∧ PySem.W.keepIn K (.ref f) = true ∧ Binds K fd ps []) (h_ms : ∀ f ∈ [He.ga K "middle", He.ga K "one_way"], ∃ (fd : FuncData) (ps : List Str), FnOk P w K mg base (L2.CX P w) 4 f fd ps (sx_ms K) ∧ PySem.W.keepIn K (.ref f) = true ∧ Binds K fd ps []) (h_bwp : ∀ f ∈ [He.ga K "best", He.ga K "ways", He.ga K "paying"], ∃ (fd : FuncData) (ps : List Str), FnOk P w K mg base (L2.CX P w) 4 f fd ps (sx_bwp K) ∧ PySem.W.keepIn K (.ref f) = true ∧ Binds K fd ps []) {f : Addr} {cdv : Value} {A : Around} {outer : List Env} {s : Shared} {H : Hp} {E : XK} (hr : Room 4 (A.deeper (PyProof.Rows.envOfC "_law_road_asked" (defScope s_law_road_asked) s.heap.objs.size f cdv))) :
    PSs (cxOf (L2.CX P w) P w K mg base N_law_road_asked "_law_road_asked" (defScope s_law_road_asked) f cdv A outer s H E) (defBody s_law_road_asked) (tx_law_road_asked K (WD E)) := by
  have tk : Takes (cxOf (L2.CX P w) P w K mg base N_law_road_asked "_law_road_asked" (defScope s_law_road_asked) f cdv A outer s H E) (WD E) := takes_of rfl rfl rfl rfl
  exact (pss_cons (ps_set (i := 2) sc_law_road_asked.nd rfl (.inl rfl) (pe_ix p_ix (pe_lst (pa_cons (pe_tup (pa_cons pe_int (pa_cons (pe_op p_sub (pe_un p_neg pe_int) (pv 1)) pa_nil))) (pa_cons (pe_tup (pa_cons pe_bl (pa_cons pe_int pa_nil))) (pa_cons (pe_tup (pa_cons pe_int (pa_cons pe_bl pa_nil))) (pa_cons (pe_tup (pa_cons pe_str (pa_cons pe_int pa_nil))) (pa_cons (pe_tup (pa_cons pe_int (pa_cons pe_non pa_nil))) (pa_cons (pe_lst (pa_cons pe_int (pa_cons pe_int pa_nil))) (pa_cons (pe_tup (pa_cons pe_int pa_nil)) (pa_cons (pe_tup (pa_cons pe_int (pa_cons pe_int (pa_cons pe_int pa_nil)))) (pa_cons pe_non (pa_cons pe_int pa_nil))))))))))) (pe_op p_mod (pv 0) pe_int) (fun _ _ => rfl)))
  (pss_cons (ps_set (i := 3) sc_law_road_asked.nd rfl (.inl rfl) (pe_lst (pa_cons (pe_op p_catL (pe_lc (own := [("_law_at", 4)]) (g := (gName 4)) (tt := tYes) (te := (tTup (tCons (tVar 4) (tCons (tC (.int 1)) tNil)))) rfl sc_law_road_asked.nd (pi_range1 (by rfl) bl.range (pa_cons (pe_op p_mod (pv 1) pe_int) pa_nil)) (blkOk_by (N := N_law_road_asked) (sc := defScope s_law_road_asked) (by decide +kernel)) (fun _ _ _ _ _ => (pg_name (i := 4) sc_law_road_asked.nd rfl (.inl rfl))) (fun _ _ _ _ _ => pts_nil) (fun _ _ _ _ _ => (pe_tup (pa_cons (pv 4) (pa_cons pe_int pa_nil))))) (pe_lst (pa_cons (pv 2) pa_nil))) (pa_cons (pe_lst (pa_cons (pe_tup (pa_cons pe_int (pa_cons pe_int pa_nil))) (pa_cons (pe_tup (pa_cons pe_int (pa_cons pe_int pa_nil))) pa_nil))) (pa_cons (pe_lst (pa_cons (pe_tup (pa_cons pe_int (pa_cons pe_int pa_nil))) (pa_cons (pe_tup (pa_cons (pe_op p_sub pe_int (pv 1)) (pa_cons pe_int pa_nil))) pa_nil))) pa_nil)))))
  (pss_cons (ps_set (i := 3) sc_law_road_asked.nd rfl (.inl rfl) (pe_op p_catL (pv 3) (pe_lst (pa_cons pe_non (pa_cons (pe_tup (pa_cons (pe_tup (pa_cons pe_int (pa_cons pe_int pa_nil))) pa_nil)) pa_nil)))))
  (pss_cons (ps_set (i := 5) sc_law_road_asked.nd rfl (.inl rfl) (pe_ix p_ix (pe_op p_catL (pv 3) (pe_lst (pa_cons (pe_op p_catL (pe_lst (pa_cons (pv 2) pa_nil)) (pe_lst (pa_cons (pe_tup (pa_cons pe_int (pa_cons pe_int pa_nil))) pa_nil))) (pa_cons (pe_lst (pa_cons (pe_tup (pa_cons pe_int (pa_cons pe_int pa_nil))) (pa_cons (pv 2) (pa_cons (pe_tup (pa_cons pe_int (pa_cons pe_int pa_nil))) pa_nil)))) (pa_cons pe_str (pa_cons pe_dnewK pa_nil)))))) (pe_op p_mod (pe_op p_div (pv 0) pe_int) pe_int) (fun _ _ => rfl)))
  (pss_cons (ps_set (i := 6) sc_law_road_asked.nd rfl (.inl rfl) (pe_op p_mod (pe_op p_div (pv 0) pe_int) pe_int))
  (pss_cons (ps_if (pt_cmpR p_lt (pv 6) pe_int (nomark _))
   (pss_cons (ps_ret (pe_callV (fs := [He.ga K "nearest", He.ga K "way"]) h_np tk hr (by decide) (pe_ix p_ix (pe_lst (pa_cons (pe_glob (by rfl) cx_nearest.g rfl) (pa_cons (pe_glob (by rfl) cx_way.g rfl) pa_nil))) (pv 6) (fun _ _ => rfl)) (pa_cons (pv 5) (pa_cons pe_non pa_nil))))
  pss_nil) pss_nil)
  (pss_cons (ps_if (pt_cmpR p_lt (pv 6) pe_int (nomark _))
   (pss_cons (ps_ret (pe_callV (fs := [He.ga K "middle", He.ga K "one_way"]) h_ms tk hr (by decide) (pe_ix p_ix (pe_lst (pa_cons (pe_glob (by rfl) cx_middle.g rfl) (pa_cons (pe_glob (by rfl) cx_one_way.g rfl) pa_nil))) (pe_op p_sub (pv 6) pe_int) (fun _ _ => rfl)) (pa_cons (pv 5) (pa_cons pe_non (pa_cons pe_non pa_nil)))))
  pss_nil) pss_nil)
  (pss_cons (ps_ret (pe_callV (fs := [He.ga K "best", He.ga K "ways", He.ga K "paying"]) h_bwp tk hr (by decide) (pe_ix p_ix (pe_lst (pa_cons (pe_glob (by rfl) cx_best.g rfl) (pa_cons (pe_glob (by rfl) cx_ways.g rfl) (pa_cons (pe_glob (by rfl) cx_paying.g rfl) pa_nil)))) (pe_op p_sub (pv 6) pe_int) (fun _ _ => rfl)) (pa_cons (pv 5) (pa_cons pe_non pa_nil))))
  pss_nil))))))))
abbrev s_law_others_asked : Stmt := topS 38
abbrev N_law_others_asked : List Str := ["_law_kind", "_law_which", "_law_more", "_law_road", "_law_bad", "_law_first", "_law_end", "_law_door"]
theorem sc_law_others_asked : FnScope N_law_others_asked ["_law_kind", "_law_which", "_law_more"] (defScope s_law_others_asked) := ⟨rfl, rfl, rfl, by decide +kernel, rfl, by decide +kernel, by decide +kernel⟩
theorem dx_law_others_asked (bl : Blt mg) (cx_best : ClX P w K mg base 4 "best" (sx_best K)) (cx_middle : ClX P w K mg base 4 "middle" (sx_middle K)) (cx_nearest : ClX P w K mg base 4 "nearest" (sx_nearest K)) (cx_one_way : ClX P w K mg base 4 "one_way" (sx_one_way K)) (cx_paying : ClX P w K mg base 4 "paying" (sx_paying K)) (cx_way : ClX P w K mg base 4 "way" (sx_way K)) (cx_ways : ClX P w K mg base 4 "ways" (sx_ways K)) (h_np : ∀ f ∈ [He.ga K "nearest", He.ga K "way"], ∃ (fd : FuncData) (ps : List Str), FnOk P w K mg base (L2.CX P w) 4 f fd ps (sx_np K) ∧ PySem.W.keepIn K (.ref f) = true ∧ Binds K fd ps []) (h_ms : ∀ f ∈ [He.ga K "middle", He.ga K "one_way"], ∃ (fd : FuncData) (ps : List Str), FnOk P w K mg base (L2.CX P w) 4 f fd ps (sx_ms K) ∧ PySem.W.keepIn K (.ref f) = true ∧ Binds K fd ps []) (h_bwp : ∀ f ∈ [He.ga K "best", He.ga K "ways", He.ga K "paying"], ∃ (fd : FuncData) (ps : List Str), FnOk P w K mg base (L2.CX P w) 4 f fd ps (sx_bwp K) ∧ PySem.W.keepIn K (.ref f) = true ∧ Binds K fd ps []) {f : Addr} {cdv : Value} {A : Around} {outer : List Env} {s : Shared} {H : Hp} {E : XK} (hr : Room 4 (A.deeper (PyProof.Rows.envOfC "_law_others_asked" (defScope s_law_others_asked) s.heap.objs.size f cdv))) :
    PSs (cxOf (L2.CX P w) P w K mg base N_law_others_asked "_law_others_asked" (defScope s_law_others_asked) f cdv A outer s H E) (defBody s_law_others_asked) (tx_law_others_asked K (WD E)) := by
  have tk : Takes (cxOf (L2.CX P w) P w K mg base N_law_others_asked "_law_others_asked" (defScope s_law_others_asked) f cdv A outer s H E) (WD E) := takes_of rfl rfl rfl rfl
  exact (pss_cons (ps_set (i := 3) sc_law_others_asked.nd rfl (.inl rfl) (pe_lst (pa_cons (pe_tup (pa_cons pe_int (pa_cons pe_int pa_nil))) (pa_cons (pe_tup (pa_cons pe_int (pa_cons pe_int pa_nil))) (pa_cons (pe_tup (pa_cons pe_int (pa_cons pe_int pa_nil))) pa_nil)))))
  (pss_cons (ps_if (pt_cmpR p_eqI (pe_op p_mod (pv 2) pe_int) pe_int (nomark _))
   (pss_cons (ps_if (pt_cmpR p_eqI (pv 0) pe_int (nomark _))
   (pss_cons (ps_ret (pe_ifExp (pt_cmpR p_eqI (pe_op p_mod (pv 1) pe_int) pe_int (nomark _)) (pcX cx_nearest tk hr (by decide) (by rfl) (pa_cons (pe_lst pa_nil) (pa_cons (pe_lst (pa_cons pe_int pa_nil)) pa_nil))) (pcX cx_way tk hr (by decide) (by rfl) (pa_cons (pe_lst pa_nil) (pa_cons (pe_lst (pa_cons pe_int pa_nil)) pa_nil)))))
  pss_nil) pss_nil)
  (pss_cons (ps_if (pt_cmpR p_eqI (pv 0) pe_int (nomark _))
   (pss_cons (ps_ret (pe_ifExp (pt_cmpR p_eqI (pe_op p_mod (pv 1) pe_int) pe_int (nomark _)) (pcX cx_middle tk hr (by decide) (by rfl) (pa_cons (pe_lst pa_nil) (pa_cons pe_int (pa_cons pe_int pa_nil)))) (pcX cx_one_way tk hr (by decide) (by rfl) (pa_cons (pe_lst pa_nil) (pa_cons pe_int (pa_cons pe_int pa_nil))))))
  pss_nil) pss_nil)
  (pss_cons (ps_ret (pcX cx_best tk hr (by decide) (by rfl) (pa_cons (pe_lst pa_nil) (pa_cons (pe_op p_add pe_int (pe_op p_mod (pv 1) pe_int)) pa_nil))))
  pss_nil))) pss_nil)
  (pss_cons (ps_if (pt_cmpR p_eqI (pv 0) pe_int (nomark _))
   (pss_cons (ps_set (i := 4) sc_law_others_asked.nd rfl (.inl rfl) (pe_lst (pa_cons pe_non (pa_cons (pe_tup (pa_cons pe_int pa_nil)) (pa_cons pe_str (pa_cons pe_int (pa_cons (pe_lst pa_nil) (pa_cons (pe_lst (pa_cons (pe_op p_add pe_int (pv 2)) pa_nil)) (pa_cons (pe_lst (pa_cons (pe_op p_sub (pe_un p_neg pe_int) (pv 2)) pa_nil)) (pa_cons (pe_lst (pa_cons pe_bl pa_nil)) (pa_cons (pe_lst (pa_cons pe_str pa_nil)) (pa_cons (pe_lst (pa_cons pe_non pa_nil)) (pa_cons (pe_lst (pa_cons pe_int (pa_cons pe_int pa_nil))) (pa_cons (pe_lst (pa_cons pe_int (pa_cons pe_int pa_nil))) pa_nil))))))))))))))
  (pss_cons (ps_ret (pe_callV (fs := [He.ga K "nearest", He.ga K "way"]) h_np tk hr (by decide) (pe_ix p_ix (pe_lst (pa_cons (pe_glob (by rfl) cx_nearest.g rfl) (pa_cons (pe_glob (by rfl) cx_way.g rfl) pa_nil))) (pe_op p_mod (pe_op p_div (pv 1) pe_int) pe_int) (fun _ _ => rfl)) (pa_cons (pv 3) (pa_cons (pe_ix p_ix (pe_op p_catL (pv 4) (pe_lst (pa_cons (pe_lst (pa_cons pe_int (pa_cons pe_int (pa_cons pe_int (pa_cons pe_int pa_nil))))) pa_nil))) (pe_op p_mod (pv 1) pe_int) (fun _ _ => rfl)) pa_nil))))
  pss_nil)) pss_nil)
  (pss_cons (ps_if (pt_cmpR p_eqI (pv 0) pe_int (nomark _))
   (pss_cons (ps_set (i := 4) sc_law_others_asked.nd rfl (.inl rfl) (pe_lst (pa_cons (pe_tup (pa_cons pe_non (pa_cons pe_int pa_nil))) (pa_cons (pe_tup (pa_cons pe_int (pa_cons pe_non pa_nil))) (pa_cons (pe_tup (pa_cons pe_int (pa_cons pe_int pa_nil))) (pa_cons (pe_tup (pa_cons pe_int (pa_cons pe_int pa_nil))) (pa_cons (pe_tup (pa_cons (pe_op p_sub (pe_un p_neg pe_int) (pv 2)) (pa_cons pe_int pa_nil))) (pa_cons (pe_tup (pa_cons pe_int (pa_cons (pe_op p_add pe_int (pv 2)) pa_nil))) (pa_cons (pe_tup (pa_cons pe_bl (pa_cons pe_int pa_nil))) (pa_cons (pe_tup (pa_cons pe_int (pa_cons pe_bl pa_nil))) pa_nil))))))))))
  (pss_cons (ps_asg (pe_ix p_ix (pv 4) (pe_op p_mod (pv 1) pe_int) (fun _ _ => rfl)) (pg_tup rfl (pgs_cons (pg_name (i := 5) sc_law_others_asked.nd rfl (.inl rfl)) (pgs_cons (pg_name (i := 6) sc_law_others_asked.nd rfl (.inl rfl)) pgs_nil))))
  (pss_cons (ps_ret (pe_callV (fs := [He.ga K "middle", He.ga K "one_way"]) h_ms tk hr (by decide) (pe_ix p_ix (pe_lst (pa_cons (pe_glob (by rfl) cx_middle.g rfl) (pa_cons (pe_glob (by rfl) cx_one_way.g rfl) pa_nil))) (pe_op p_mod (pe_op p_div (pv 1) pe_int) pe_int) (fun _ _ => rfl)) (pa_cons (pv 3) (pa_cons (pv 5) (pa_cons (pv 6) pa_nil)))))
  pss_nil))) pss_nil)
  (pss_cons (ps_set (i := 4) sc_law_others_asked.nd rfl (.inl rfl) (pe_ix p_ix (pe_lst (pa_cons pe_non (pa_cons pe_str (pa_cons pe_bl (pa_cons (pe_lst (pa_cons pe_int pa_nil)) (pa_cons (pe_op p_sub (pe_un p_neg pe_int) (pv 2)) (pa_cons (pe_tup (pa_cons pe_int pa_nil)) (pa_cons pe_dnewK pa_nil)))))))) (pe_op p_mod (pv 1) pe_int) (fun _ _ => rfl)))
  (pss_cons (ps_set (i := 7) sc_law_others_asked.nd rfl (.inl rfl) (pe_op p_mod (pe_op p_div (pv 1) pe_int) pe_int))
  (pss_cons (ps_if (pt_cmpR p_eqI (pv 7) pe_int (nomark _))
   (pss_cons (ps_ret (pcX cx_best tk hr (by decide) (by rfl) (pa_cons (pv 3) (pa_cons (pe_ix p_ix (pe_lst (pa_cons pe_int (pa_cons (pe_op p_add pe_int (pv 2)) pa_nil))) (pe_op p_mod (pe_op p_div (pv 1) pe_int) pe_int) (fun _ _ => rfl)) pa_nil))))
  pss_nil) pss_nil)
  (pss_cons (ps_ret (pe_callV (fs := [He.ga K "best", He.ga K "ways", He.ga K "paying"]) h_bwp tk hr (by decide) (pe_ix p_ix (pe_lst (pa_cons (pe_glob (by rfl) cx_best.g rfl) (pa_cons (pe_glob (by rfl) cx_ways.g rfl) (pa_cons (pe_glob (by rfl) cx_paying.g rfl) pa_nil)))) (pv 7) (fun _ _ => rfl)) (pa_cons (pv 3) (pa_cons (pv 4) pa_nil))))
  pss_nil))))))))
abbrev s_nearest : Stmt := topS 16
abbrev N_nearest : List Str := ["road", "posts"]
theorem sc_nearest : FnScope N_nearest ["road", "posts"] (defScope s_nearest) := ⟨rfl, rfl, rfl, by decide +kernel, rfl, by decide +kernel, by decide +kernel⟩
theorem dxA_nearest (bl : Blt mg) (cx_asked_road : ClX P w K mg base 3 "asked_road" (sx_asked_road K)) {f : Addr} {cdv : Value} {A : Around} {outer : List Env} {s : Shared} {H : Hp} {E : XK} (hr : Room 3 (A.deeper (PyProof.Rows.envOfC "nearest" (defScope s_nearest) s.heap.objs.size f cdv))) :
    PSs (cxOf (L2.CX P w) P w K mg base N_nearest "nearest" (defScope s_nearest) f cdv A outer s H E) (defBody s_nearest) (txA K (WD E)) := by
  have tk : Takes (cxOf (L2.CX P w) P w K mg base N_nearest "nearest" (defScope s_nearest) f cdv A outer s H E) (WD E) := takes_of rfl rfl rfl rfl
  exact (pss_cons (ps_expr (pcX cx_asked_road tk hr (by decide) (by rfl) (pa_cons (pv 0) pa_nil))) pss_never)
theorem dxB_nearest (bl : Blt mg) (c_asked_road : Cl P w K mg base 3 "asked_road" (sp_asked_road K)) (cx_asked_posts : ClX P w K mg base 2 "asked_posts" (sx_asked_posts K)) {f : Addr} {cdv : Value} {A : Around} {outer : List Env} {s : Shared} {H : Hp} {E : XK} (hr : Room 3 (A.deeper (PyProof.Rows.envOfC "nearest" (defScope s_nearest) s.heap.objs.size f cdv))) :
    PSs (cxOf (L2.CX P w) P w K mg base N_nearest "nearest" (defScope s_nearest) f cdv A outer s H E) (defBody s_nearest) (txB_posts K (WD E)) := by
  have tk : Takes (cxOf (L2.CX P w) P w K mg base N_nearest "nearest" (defScope s_nearest) f cdv A outer s H E) (WD E) := takes_of rfl rfl rfl rfl
  exact (pss_cons (ps_expr (pc c_asked_road hr (by decide) (by rfl) (pa_cons (pv 0) pa_nil))) (pss_cons (ps_expr (pcX cx_asked_posts tk hr (by decide) (by rfl) (pa_cons (pv 0) (pa_cons (pv 1) pa_nil)))) pss_never))
theorem dxA_way (bl : Blt mg) (cx_asked_road : ClX P w K mg base 3 "asked_road" (sx_asked_road K)) {f : Addr} {cdv : Value} {A : Around} {outer : List Env} {s : Shared} {H : Hp} {E : XK} (hr : Room 3 (A.deeper (PyProof.Rows.envOfC "way" (defScope s_way) s.heap.objs.size f cdv))) :
    PSs (cxOf (L2.CX P w) P w K mg base N_way "way" (defScope s_way) f cdv A outer s H E) (defBody s_way) (txA K (WD E)) := by
  have tk : Takes (cxOf (L2.CX P w) P w K mg base N_way "way" (defScope s_way) f cdv A outer s H E) (WD E) := takes_of rfl rfl rfl rfl
  exact (pss_cons (ps_expr (pcX cx_asked_road tk hr (by decide) (by rfl) (pa_cons (pv 0) pa_nil))) pss_never)
theorem dxB_way (bl : Blt mg) (c_asked_road : Cl P w K mg base 3 "asked_road" (sp_asked_road K)) (cx_asked_posts : ClX P w K mg base 2 "asked_posts" (sx_asked_posts K)) {f : Addr} {cdv : Value} {A : Around} {outer : List Env} {s : Shared} {H : Hp} {E : XK} (hr : Room 3 (A.deeper (PyProof.Rows.envOfC "way" (defScope s_way) s.heap.objs.size f cdv))) :
    PSs (cxOf (L2.CX P w) P w K mg base N_way "way" (defScope s_way) f cdv A outer s H E) (defBody s_way) (txB_posts K (WD E)) := by
  have tk : Takes (cxOf (L2.CX P w) P w K mg base N_way "way" (defScope s_way) f cdv A outer s H E) (WD E) := takes_of rfl rfl rfl rfl
  exact (pss_cons (ps_expr (pc c_asked_road hr (by decide) (by rfl) (pa_cons (pv 0) pa_nil))) (pss_cons (ps_expr (pcX cx_asked_posts tk hr (by decide) (by rfl) (pa_cons (pv 0) (pa_cons (pv 1) pa_nil)))) pss_never))
abbrev s_middle : Stmt := topS 21
abbrev N_middle : List Str := ["road", "first", "end", "told", "ways", "post", "least", "at", "far"]
theorem sc_middle : FnScope N_middle ["road", "first", "end"] (defScope s_middle) := ⟨rfl, rfl, rfl, by decide +kernel, rfl, by decide +kernel, by decide +kernel⟩
theorem dxA_middle (bl : Blt mg) (cx_asked_road : ClX P w K mg base 3 "asked_road" (sx_asked_road K)) {f : Addr} {cdv : Value} {A : Around} {outer : List Env} {s : Shared} {H : Hp} {E : XK} (hr : Room 3 (A.deeper (PyProof.Rows.envOfC "middle" (defScope s_middle) s.heap.objs.size f cdv))) :
    PSs (cxOf (L2.CX P w) P w K mg base N_middle "middle" (defScope s_middle) f cdv A outer s H E) (defBody s_middle) (txA K (WD E)) := by
  have tk : Takes (cxOf (L2.CX P w) P w K mg base N_middle "middle" (defScope s_middle) f cdv A outer s H E) (WD E) := takes_of rfl rfl rfl rfl
  exact (pss_cons (ps_expr (pcX cx_asked_road tk hr (by decide) (by rfl) (pa_cons (pv 0) pa_nil))) pss_never)
theorem dxB_middle (bl : Blt mg) (c_asked_road : Cl P w K mg base 3 "asked_road" (sp_asked_road K)) (cx_asked_stretch : ClX P w K mg base 2 "asked_stretch" (sx_asked_stretch K)) {f : Addr} {cdv : Value} {A : Around} {outer : List Env} {s : Shared} {H : Hp} {E : XK} (hr : Room 3 (A.deeper (PyProof.Rows.envOfC "middle" (defScope s_middle) s.heap.objs.size f cdv))) :
    PSs (cxOf (L2.CX P w) P w K mg base N_middle "middle" (defScope s_middle) f cdv A outer s H E) (defBody s_middle) (txB_stretch K (WD E)) := by
  have tk : Takes (cxOf (L2.CX P w) P w K mg base N_middle "middle" (defScope s_middle) f cdv A outer s H E) (WD E) := takes_of rfl rfl rfl rfl
  exact (pss_cons (ps_expr (pc c_asked_road hr (by decide) (by rfl) (pa_cons (pv 0) pa_nil))) (pss_cons (ps_expr (pcX cx_asked_stretch tk hr (by decide) (by rfl) (pa_cons (pv 0) (pa_cons (pv 1) (pa_cons (pv 2) pa_nil))))) pss_never))
abbrev s_one_way : Stmt := topS 22
abbrev N_one_way : List Str := ["road", "first", "end", "told", "post"]
theorem sc_one_way : FnScope N_one_way ["road", "first", "end"] (defScope s_one_way) := ⟨rfl, rfl, rfl, by decide +kernel, rfl, by decide +kernel, by decide +kernel⟩
theorem dxA_one_way (bl : Blt mg) (cx_asked_road : ClX P w K mg base 3 "asked_road" (sx_asked_road K)) {f : Addr} {cdv : Value} {A : Around} {outer : List Env} {s : Shared} {H : Hp} {E : XK} (hr : Room 3 (A.deeper (PyProof.Rows.envOfC "one_way" (defScope s_one_way) s.heap.objs.size f cdv))) :
    PSs (cxOf (L2.CX P w) P w K mg base N_one_way "one_way" (defScope s_one_way) f cdv A outer s H E) (defBody s_one_way) (txA K (WD E)) := by
  have tk : Takes (cxOf (L2.CX P w) P w K mg base N_one_way "one_way" (defScope s_one_way) f cdv A outer s H E) (WD E) := takes_of rfl rfl rfl rfl
  exact (pss_cons (ps_expr (pcX cx_asked_road tk hr (by decide) (by rfl) (pa_cons (pv 0) pa_nil))) pss_never)
theorem dxB_one_way (bl : Blt mg) (c_asked_road : Cl P w K mg base 3 "asked_road" (sp_asked_road K)) (cx_asked_stretch : ClX P w K mg base 2 "asked_stretch" (sx_asked_stretch K)) {f : Addr} {cdv : Value} {A : Around} {outer : List Env} {s : Shared} {H : Hp} {E : XK} (hr : Room 3 (A.deeper (PyProof.Rows.envOfC "one_way" (defScope s_one_way) s.heap.objs.size f cdv))) :
    PSs (cxOf (L2.CX P w) P w K mg base N_one_way "one_way" (defScope s_one_way) f cdv A outer s H E) (defBody s_one_way) (txB_stretch K (WD E)) := by
  have tk : Takes (cxOf (L2.CX P w) P w K mg base N_one_way "one_way" (defScope s_one_way) f cdv A outer s H E) (WD E) := takes_of rfl rfl rfl rfl
  exact (pss_cons (ps_expr (pc c_asked_road hr (by decide) (by rfl) (pa_cons (pv 0) pa_nil))) (pss_cons (ps_expr (pcX cx_asked_stretch tk hr (by decide) (by rfl) (pa_cons (pv 0) (pa_cons (pv 1) (pa_cons (pv 2) pa_nil))))) pss_never))
theorem dxA_best (bl : Blt mg) (cx_asked_road : ClX P w K mg base 3 "asked_road" (sx_asked_road K)) {f : Addr} {cdv : Value} {A : Around} {outer : List Env} {s : Shared} {H : Hp} {E : XK} (hr : Room 3 (A.deeper (PyProof.Rows.envOfC "best" (defScope s_best) s.heap.objs.size f cdv))) :
    PSs (cxOf (L2.CX P w) P w K mg base N_best "best" (defScope s_best) f cdv A outer s H E) (defBody s_best) (txA K (WD E)) := by
  have tk : Takes (cxOf (L2.CX P w) P w K mg base N_best "best" (defScope s_best) f cdv A outer s H E) (WD E) := takes_of rfl rfl rfl rfl
  exact (pss_cons (ps_expr (pcX cx_asked_road tk hr (by decide) (by rfl) (pa_cons (pv 0) pa_nil))) pss_never)
theorem dxB_best (bl : Blt mg) (c_asked_road : Cl P w K mg base 3 "asked_road" (sp_asked_road K)) (cx_asked_many : ClX P w K mg base 2 "asked_many" (sx_asked_many K)) {f : Addr} {cdv : Value} {A : Around} {outer : List Env} {s : Shared} {H : Hp} {E : XK} (hr : Room 3 (A.deeper (PyProof.Rows.envOfC "best" (defScope s_best) s.heap.objs.size f cdv))) :
    PSs (cxOf (L2.CX P w) P w K mg base N_best "best" (defScope s_best) f cdv A outer s H E) (defBody s_best) (txB_many K (WD E)) := by
  have tk : Takes (cxOf (L2.CX P w) P w K mg base N_best "best" (defScope s_best) f cdv A outer s H E) (WD E) := takes_of rfl rfl rfl rfl
  exact (pss_cons (ps_expr (pc c_asked_road hr (by decide) (by rfl) (pa_cons (pv 0) pa_nil))) (pss_cons (ps_expr (pcX cx_asked_many tk hr (by decide) (by rfl) (pa_cons (pv 0) (pa_cons (pv 1) pa_nil)))) pss_never))
theorem dxA_ways (bl : Blt mg) (cx_asked_road : ClX P w K mg base 3 "asked_road" (sx_asked_road K)) {f : Addr} {cdv : Value} {A : Around} {outer : List Env} {s : Shared} {H : Hp} {E : XK} (hr : Room 3 (A.deeper (PyProof.Rows.envOfC "ways" (defScope s_ways) s.heap.objs.size f cdv))) :
    PSs (cxOf (L2.CX P w) P w K mg base N_ways "ways" (defScope s_ways) f cdv A outer s H E) (defBody s_ways) (txA K (WD E)) := by
  have tk : Takes (cxOf (L2.CX P w) P w K mg base N_ways "ways" (defScope s_ways) f cdv A outer s H E) (WD E) := takes_of rfl rfl rfl rfl
  exact (pss_cons (ps_expr (pcX cx_asked_road tk hr (by decide) (by rfl) (pa_cons (pv 0) pa_nil))) pss_never)
theorem dxB_ways (bl : Blt mg) (c_asked_road : Cl P w K mg base 3 "asked_road" (sp_asked_road K)) (cx_asked_number : ClX P w K mg base 2 "asked_number" (sx_asked_number K)) {f : Addr} {cdv : Value} {A : Around} {outer : List Env} {s : Shared} {H : Hp} {E : XK} (hr : Room 3 (A.deeper (PyProof.Rows.envOfC "ways" (defScope s_ways) s.heap.objs.size f cdv))) :
    PSs (cxOf (L2.CX P w) P w K mg base N_ways "ways" (defScope s_ways) f cdv A outer s H E) (defBody s_ways) (txB_number K (WD E)) := by
  have tk : Takes (cxOf (L2.CX P w) P w K mg base N_ways "ways" (defScope s_ways) f cdv A outer s H E) (WD E) := takes_of rfl rfl rfl rfl
  exact (pss_cons (ps_expr (pc c_asked_road hr (by decide) (by rfl) (pa_cons (pv 0) pa_nil))) (pss_cons (ps_expr (pcX cx_asked_number tk hr (by decide) (by rfl) (pa_cons (pv 1) pa_nil))) pss_never))
abbrev s_paying : Stmt := topS 35
abbrev N_paying : List Str := ["road", "fee", "table", "told", "found", "end", "first", "one"]
theorem sc_paying : FnScope N_paying ["road", "fee"] (defScope s_paying) := ⟨rfl, rfl, rfl, by decide +kernel, rfl, by decide +kernel, by decide +kernel⟩
theorem dxA_paying (bl : Blt mg) (cx_asked_road : ClX P w K mg base 3 "asked_road" (sx_asked_road K)) {f : Addr} {cdv : Value} {A : Around} {outer : List Env} {s : Shared} {H : Hp} {E : XK} (hr : Room 3 (A.deeper (PyProof.Rows.envOfC "paying" (defScope s_paying) s.heap.objs.size f cdv))) :
    PSs (cxOf (L2.CX P w) P w K mg base N_paying "paying" (defScope s_paying) f cdv A outer s H E) (defBody s_paying) (txA K (WD E)) := by
  have tk : Takes (cxOf (L2.CX P w) P w K mg base N_paying "paying" (defScope s_paying) f cdv A outer s H E) (WD E) := takes_of rfl rfl rfl rfl
  exact (pss_cons (ps_expr (pcX cx_asked_road tk hr (by decide) (by rfl) (pa_cons (pv 0) pa_nil))) pss_never)
theorem dxB_paying (bl : Blt mg) (c_asked_road : Cl P w K mg base 3 "asked_road" (sp_asked_road K)) (cx_asked_number : ClX P w K mg base 2 "asked_number" (sx_asked_number K)) {f : Addr} {cdv : Value} {A : Around} {outer : List Env} {s : Shared} {H : Hp} {E : XK} (hr : Room 3 (A.deeper (PyProof.Rows.envOfC "paying" (defScope s_paying) s.heap.objs.size f cdv))) :
    PSs (cxOf (L2.CX P w) P w K mg base N_paying "paying" (defScope s_paying) f cdv A outer s H E) (defBody s_paying) (txB_number K (WD E)) := by
  have tk : Takes (cxOf (L2.CX P w) P w K mg base N_paying "paying" (defScope s_paying) f cdv A outer s H E) (WD E) := takes_of rfl rfl rfl rfl
  exact (pss_cons (ps_expr (pc c_asked_road hr (by decide) (by rfl) (pa_cons (pv 0) pa_nil))) (pss_cons (ps_expr (pcX cx_asked_number tk hr (by decide) (by rfl) (pa_cons (pv 1) pa_nil))) pss_never))
abbrev s_law_told : Stmt := topS 39
abbrev N_law_told : List Str := ["_law_kind", "_law_which", "_law_more", "error", "_law_found"]
theorem sc_law_told : FnScope N_law_told ["_law_kind", "_law_which", "_law_more"] (defScope s_law_told) := ⟨rfl, rfl, rfl, by decide +kernel, rfl, by decide +kernel, by decide +kernel⟩
theorem d_law_told (bl : Blt mg) (vE : mg "ValueError" = none) (cx_law_road_asked : ClX P w K mg base 5 "_law_road_asked" (sx_law_road_asked K)) (cx_law_others_asked : ClX P w K mg base 5 "_law_others_asked" (sx_law_others_asked K)) (g_PostError : mg "PostError" = some (.ref (He.ga K "PostError"))) (xc_BadRoad : XC K mg "BadRoad") (xc_BadPosts : XC K mg "BadPosts") (xc_BadStretch : XC K mg "BadStretch") (xc_BadMany : XC K mg "BadMany") {f : Addr} {cdv : Value} {A : Around} {outer : List Env} {s : Shared} {H : Hp} {E : XK} (hr : Room 5 (A.deeper (PyProof.Rows.envOfC "_law_told" (defScope s_law_told) s.heap.objs.size f cdv))) :
    PSs (cxOf CX0 P w K mg base N_law_told "_law_told" (defScope s_law_told) f cdv A outer s H E).nox (defBody s_law_told) (t_law_told K) :=
  (pss_cons (ps_try_as (i := 3) (tb := tt_body K) (ts := tt_suite K) (Wout := fun _ _ _ _ => False) rfl rfl sc_law_told.nd rfl rfl ⟨rfl, by decide, .inl g_PostError⟩ takes0
    (fun W pn xe tk _ => (pss_cons (ps_if (pt_cmpR p_eqI (pv 0) pe_int (nomark _))
      (pss_cons (ps_expr (pcX cx_law_road_asked tk hr (by decide) (by rfl) (pa_cons (pv 1) (pa_cons (pv 2) pa_nil)))) pss_nil)
      (pss_cons (ps_expr (pcX cx_law_others_asked tk hr (by decide) (by rfl) (pa_cons (pv 0) (pa_cons (pv 1) (pa_cons (pv 2) pa_nil))))) pss_nil)) pss_nil))
    (fun a oe cls d pn hz hf => (pss_cons (ps_set (i := 4) sc_law_told.nd rfl (.inl rfl) (pe_lst (pa_cons (pe_callB (call_isX hz hf) (by rfl) bl.isinstance (by decide +kernel) (pa_cons (pv 3) (pa_cons (pe_glob (by rfl) xc_BadRoad.g rfl) pa_nil))) (pa_cons (pe_callB (call_isX hz hf) (by rfl) bl.isinstance (by decide +kernel) (pa_cons (pv 3) (pa_cons (pe_glob (by rfl) xc_BadPosts.g rfl) pa_nil))) (pa_cons (pe_callB (call_isX hz hf) (by rfl) bl.isinstance (by decide +kernel) (pa_cons (pv 3) (pa_cons (pe_glob (by rfl) xc_BadStretch.g rfl) pa_nil))) pa_nil)))))
      (pss_cons (ps_ret (pe_op p_catL (pv 4) (pe_lst (pa_cons (pe_callB (call_isX hz hf) (by rfl) bl.isinstance (by decide +kernel) (pa_cons (pv 3) (pa_cons (pe_glob (by rfl) xc_BadMany.g rfl) pa_nil))) (pa_cons (pe_callB (call_isX hz hf) (by rfl) bl.isinstance (by decide +kernel) (pa_cons (pv 3) (pa_cons (pe_bltn (v := .ty "ValueError") (by rfl) vE (by decide +kernel) rfl) pa_nil))) pa_nil))))) pss_nil))))
  pss_never)
abbrev s_law : Stmt := topS 40
abbrev N_law : List Str := ["_law_script", "_law_cell", "_law_kind", "_law_due", "_law_great"]
theorem sc_law : FnScope N_law ["_law_script"] (defScope s_law) := ⟨rfl, rfl, rfl, by decide +kernel, rfl, by decide +kernel, by decide +kernel⟩
theorem d_law (bl : Blt mg) (c_law_told : Cl P w K mg base 6 "_law_told" (sp_law_told K)) (c_best : Cl P w K mg base 4 "best" (sp_best K)) (c_way : Cl P w K mg base 4 "way" (sp_way K)) (c_ways : Cl P w K mg base 4 "ways" (sp_ways K)) {f : Addr} {cdv : Value} {A : Around} {outer : List Env} {s : Shared} {H : Hp} {E : XK} (hr : Room 6 (A.deeper (PyProof.Rows.envOfC "law" (defScope s_law) s.heap.objs.size f cdv))) :
    PSs (cxOf CX0 P w K mg base N_law "law" (defScope s_law) f cdv A outer s H E).nox (defBody s_law) (t_law_k07 K) :=
  (pss_cons (ps_for PassesOwn.never rfl (pi_list (pv 0)) (pg_name (i := 1) sc_law.nd rfl (.inl rfl))
   (pss_cons (ps_set (i := 2) sc_law.nd rfl (.inl rfl) (pe_op p_mod (pv 1) pe_int))
  (pss_cons (ps_set (i := 3) sc_law.nd rfl (.inl rfl) (pe_lst (pa_cons (pe_cmpR p_eqI (pv 2) pe_int (nomark _)) (pa_cons (pe_cmpR p_eqI (pv 2) pe_int (nomark _)) (pa_cons (pe_cmpR p_eqI (pv 2) pe_int (nomark _)) (pa_cons (pe_cmpR p_eqI (pv 2) pe_int (nomark _)) (pa_cons pe_bl pa_nil)))))))
  (pss_cons (ps_if (pt_cmpR (p_neD hr.units) (pc c_law_told hr (by decide) (by rfl) (pa_cons (pv 2) (pa_cons (pe_op p_mod (pe_op p_div (pv 1) pe_int) pe_int) (pa_cons (pe_op p_mod (pe_op p_div (pv 1) pe_int) pe_int) pa_nil)))) (pv 3) (nomark _))
   (pss_cons (ps_ret pe_bl)
  pss_nil) pss_nil)
  pss_nil))))
  (pss_cons (ps_set (i := 4) sc_law.nd rfl (.inl rfl) (pe_lst (pa_cons (pe_tup (pa_cons (pe_un p_neg (pe_op p_pow pe_int pe_int)) (pa_cons (pe_op p_pow pe_int pe_int) pa_nil))) (pa_cons (pe_tup (pa_cons (pe_op p_pow pe_int pe_int) (pa_cons pe_int pa_nil))) pa_nil))))
  (pss_cons (ps_ret (pe_and (pe_cmpR p_eqI (pc c_way hr (by decide) (by rfl) (pa_cons (pv 4) (pa_cons (pe_lst (pa_cons pe_int pa_nil)) pa_nil))) (pe_op p_mul pe_int (pe_op p_pow pe_int pe_int)) (nomark _)) (pe_and (pe_cmpR (p_eqD hr.units) (pe_fld (pc c_best hr (by decide) (by rfl) (pa_cons (pv 4) (pa_cons pe_int pa_nil))) rfl) (pe_lst (pa_cons pe_int (pa_cons pe_int pa_nil))) (nomark _)) (pe_one (pe_cmpR (p_eqD hr.units) (pc c_ways hr (by decide) (by rfl) (pa_cons (pe_lst (pa_cons (pe_tup (pa_cons pe_int (pa_cons pe_int pa_nil))) pa_nil)) (pa_cons pe_int pa_nil))) (pe_lst (pa_cons pe_int pa_nil)) (nomark _))))))
  pss_nil)))
end
end Ph_k07

set_option Elab.async false
set_option linter.all false
set_option maxRecDepth 100000
set_option maxHeartbeats 0
namespace Ph_k07
open PySem PySem.Spec L2 Ph
def h_is_number : He.DefD := ⟨("is_number", none), "is_number", "is_number", defArgs s_is_number, defBody s_is_number, defScope s_is_number, [], []⟩
def h_are_posts : He.DefD := ⟨("are_posts", none), "are_posts", "are_posts", defArgs s_are_posts, defBody s_are_posts, defScope s_are_posts, [], []⟩
def h_nearest_of : He.DefD := ⟨("nearest_of", none), "nearest_of", "nearest_of", defArgs s_nearest_of, defBody s_nearest_of, defScope s_nearest_of, [], []⟩
def h_sums : He.DefD := ⟨("sums", none), "sums", "sums", defArgs s_sums, defBody s_sums, defScope s_sums, [], []⟩
def h_carried : He.DefD := ⟨("carried", none), "carried", "carried", defArgs s_carried, defBody s_carried, defScope s_carried, [], []⟩
def h_Best_init : He.DefD := ⟨("Best", some "__init__"), "__init__", "Best.__init__", defArgs s_Best_init, defBody s_Best_init, defScope s_Best_init, [], []⟩
def h_layers : He.DefD := ⟨("layers", none), "layers", "layers", defArgs s_layers, defBody s_layers, defScope s_layers, [], []⟩
def h_posts_by : He.DefD := ⟨("posts_by", none), "posts_by", "posts_by", defArgs s_posts_by, defBody s_posts_by, defScope s_posts_by, [], []⟩
def h_led : He.DefD := ⟨("led", none), "led", "led", defArgs s_led, defBody s_led, defScope s_led, [], []⟩
def h_is_house : He.DefD := ⟨("is_house", none), "is_house", "is_house", defArgs s_is_house, defBody s_is_house, defScope s_is_house, [], []⟩
def h_asked_posts : He.DefD := ⟨("asked_posts", none), "asked_posts", "asked_posts", defArgs s_asked_posts, defBody s_asked_posts, defScope s_asked_posts, [], []⟩
def h_asked_stretch : He.DefD := ⟨("asked_stretch", none), "asked_stretch", "asked_stretch", defArgs s_asked_stretch, defBody s_asked_stretch, defScope s_asked_stretch, [], []⟩
def h_way_of : He.DefD := ⟨("way_of", none), "way_of", "way_of", defArgs s_way_of, defBody s_way_of, defScope s_way_of, [], []⟩
def h_middles : He.DefD := ⟨("middles", none), "middles", "middles", defArgs s_middles, defBody s_middles, defScope s_middles, [], []⟩
def h_asked_many : He.DefD := ⟨("asked_many", none), "asked_many", "asked_many", defArgs s_asked_many, defBody s_asked_many, defScope s_asked_many, [], []⟩
def h_asked_number : He.DefD := ⟨("asked_number", none), "asked_number", "asked_number", defArgs s_asked_number, defBody s_asked_number, defScope s_asked_number, [], []⟩
def h_asked_road : He.DefD := ⟨("asked_road", none), "asked_road", "asked_road", defArgs s_asked_road, defBody s_asked_road, defScope s_asked_road, [], []⟩
def h_nearest : He.DefD := ⟨("nearest", none), "nearest", "nearest", defArgs s_nearest, defBody s_nearest, defScope s_nearest, [], []⟩
def h_way : He.DefD := ⟨("way", none), "way", "way", defArgs s_way, defBody s_way, defScope s_way, [], []⟩
def h_middle : He.DefD := ⟨("middle", none), "middle", "middle", defArgs s_middle, defBody s_middle, defScope s_middle, [], []⟩
def h_one_way : He.DefD := ⟨("one_way", none), "one_way", "one_way", defArgs s_one_way, defBody s_one_way, defScope s_one_way, [], []⟩
def h_best : He.DefD := ⟨("best", none), "best", "best", defArgs s_best, defBody s_best, defScope s_best, [], []⟩
def h_ways : He.DefD := ⟨("ways", none), "ways", "ways", defArgs s_ways, defBody s_ways, defScope s_ways, [], []⟩
def h_paying : He.DefD := ⟨("paying", none), "paying", "paying", defArgs s_paying, defBody s_paying, defScope s_paying, [], []⟩
def h_law_road_asked : He.DefD := ⟨("_law_road_asked", none), "_law_road_asked", "_law_road_asked", defArgs s_law_road_asked, defBody s_law_road_asked, defScope s_law_road_asked, [], []⟩
def h_law_others_asked : He.DefD := ⟨("_law_others_asked", none), "_law_others_asked", "_law_others_asked", defArgs s_law_others_asked, defBody s_law_others_asked, defScope s_law_others_asked, [], []⟩
def h_law_told : He.DefD := ⟨("_law_told", none), "_law_told", "_law_told", defArgs s_law_told, defBody s_law_told, defScope s_law_told, [], []⟩
def h_law : He.DefD := ⟨("law", none), "law", "law", defArgs s_law, defBody s_law, defScope s_law, [], []⟩
def fn : List He.DefD := [h_is_number, h_are_posts, h_nearest_of, h_sums, h_carried, h_Best_init, h_layers, h_posts_by, h_led, h_is_house, h_asked_posts, h_asked_stretch, h_way_of, h_middles, h_asked_many, h_asked_number, h_asked_road, h_nearest, h_way, h_middle, h_one_way, h_best, h_ways, h_paying, h_law_road_asked, h_law_others_asked, h_law_told, h_law]
def fa : List He.Fa := [.glo "is_number", .glo "are_posts", .glo "nearest_of", .glo "sums", .glo "carried", .glo "layers", .glo "posts_by", .glo "led", .glo "is_house", .glo "asked_posts", .glo "asked_stretch", .glo "way_of", .glo "middles", .glo "asked_many", .glo "asked_number", .glo "asked_road", .glo "nearest", .glo "way", .glo "middle", .glo "one_way", .glo "best", .glo "ways", .glo "paying", .glo "_law_road_asked", .glo "_law_others_asked", .glo "_law_told", .glo "law", .free "len", .free "range", .free "zip", .free "enumerate", .free "reversed", .free "isinstance", .free "abs", .free "min", .free "max", .free "sum", .free "any", .free "all", .free "list", .free "sorted", .free "set", .free "int", .free "bool", .free "tuple", .free "ValueError", .glo "Best", .cls "Best", .noat "Best" "posts", .noat "Best" "bounds", .noat "Best" "fee", .mkr "Best", .glo "PostError", .glo "BadRoad", .glo "BadPosts", .glo "BadStretch", .glo "BadMany", .exc "BadRoad", .exm "BadRoad" "PostError" true, .exc "BadPosts", .exm "BadPosts" "PostError" true, .exc "BadStretch", .exm "BadStretch" "PostError" true, .exc "BadMany", .exm "BadMany" "PostError" true]
def xe : List Xe := [.exc "BadRoad", .exc "BadPosts", .exc "BadStretch", .exc "BadMany", .ve "BadRoad", .ve "BadPosts", .ve "BadStretch", .ve "BadMany", .kit "BadRoad" "BadRoad" true, .kit "BadRoad" "BadPosts" false, .kit "BadRoad" "BadStretch" false, .kit "BadRoad" "BadMany" false, .kit "BadPosts" "BadRoad" false, .kit "BadPosts" "BadPosts" true, .kit "BadPosts" "BadStretch" false, .kit "BadPosts" "BadMany" false, .kit "BadStretch" "BadRoad" false, .kit "BadStretch" "BadPosts" false, .kit "BadStretch" "BadStretch" true, .kit "BadStretch" "BadMany" false, .kit "BadMany" "BadRoad" false, .kit "BadMany" "BadPosts" false, .kit "BadMany" "BadStretch" false, .kit "BadMany" "BadMany" true]
abbrev R : PySem.W.OpenRow := PySem.W.OpenLaw.row PySem.Challenge.rw_posthouses_k07_refused
abbrev hk : PySem.W.Hook := hookE 6 xe fa fn
def ob (s : PySem.W.SharedT) : AlX := obsEG 6 xe fa fn (HandSHeadRun.getT s)
theorem ob_eq (s : PySem.W.SharedT) : ob s = hk.obs s.abs := obsEG_eq (HandSHeadRun.getT_eq s)
def loose : List PySem.Str := [("PostError" : PySem.Str), ("BadRoad" : PySem.Str), ("BadPosts" : PySem.Str), ("BadStretch" : PySem.Str), ("BadMany" : PySem.Str), ("Answer" : PySem.Str), ("Best" : PySem.Str), ("Paid" : PySem.Str), ("_wall" : PySem.Str), ("is_number" : PySem.Str), ("is_house" : PySem.Str), ("asked_road" : PySem.Str), ("are_posts" : PySem.Str), ("asked_posts" : PySem.Str), ("asked_stretch" : PySem.Str), ("nearest_of" : PySem.Str), ("way_of" : PySem.Str), ("nearest" : PySem.Str), ("way" : PySem.Str), ("sums" : PySem.Str), ("carried" : PySem.Str), ("middles" : PySem.Str), ("middle" : PySem.Str), ("one_way" : PySem.Str), ("layers" : PySem.Str), ("posts_by" : PySem.Str), ("led" : PySem.Str), ("asked_many" : PySem.Str), ("asked_number" : PySem.Str), ("best" : PySem.Str), ("ways" : PySem.Str), ("paying" : PySem.Str), ("_law_road_asked" : PySem.Str), ("_law_others_asked" : PySem.Str), ("_law_told" : PySem.Str)]
theorem run (w : World) : HandSHeadRun.RunEq R (PySem.W.view R.prog [40]) hk ob 4000 loose w := by
  intro os
  kernel_rfl
theorem four {P : Int → Prop} (h0 : P 0) (h1 : P 1) (h2 : P 2) (h3 : P 3) : ∀ k : Int, 0 ≤ k → k ≤ 3 → P k := fun k a b => by
  rcases (by omega : k = 0 ∨ k = 1 ∨ k = 2 ∨ k = 3) with e | e | e | e
  · rw [e]; exact h0
  · rw [e]; exact h1
  · rw [e]; exact h2
  · rw [e]; exact h3
theorem kC1 : kCls 1 = "BadPosts" := rfl
theorem kC2 : kCls 2 = "BadStretch" := rfl
theorem kC3 : kCls 3 = "BadMany" := rfl
theorem xf_all {K : PySem.W.Frag} (c : He.SaysD fa fn K) (cx : (xe.all fun f => f.ok K) = true) : XF K where
  exc := four (P := fun k => ExcC K (He.ga K (kCls k))) (by show ExcC K (He.ga K (kCls 0)); rw [kCls_0]; exact xe_exc (xe_at cx 0 (f := .exc "BadRoad") rfl)) (by show ExcC K (He.ga K (kCls 1)); rw [kC1]; exact xe_exc (xe_at cx 1 (f := .exc "BadPosts") rfl)) (by show ExcC K (He.ga K (kCls 2)); rw [kC2]; exact xe_exc (xe_at cx 2 (f := .exc "BadStretch") rfl)) (by show ExcC K (He.ga K (kCls 3)); rw [kC3]; exact xe_exc (xe_at cx 3 (f := .exc "BadMany") rfl))
  pe := four (P := fun k => PySem.W.exmOne K (.ref (He.ga K (kCls k))) (.ref (He.ga K "PostError")) = some true) (by show PySem.W.exmOne K (.ref (He.ga K (kCls 0))) _ = _; rw [kCls_0]; exact He.exm_ok (c.fact 58 (f := .exm "BadRoad" "PostError" true) rfl)) (by show PySem.W.exmOne K (.ref (He.ga K (kCls 1))) _ = _; rw [kC1]; exact He.exm_ok (c.fact 60 (f := .exm "BadPosts" "PostError" true) rfl)) (by show PySem.W.exmOne K (.ref (He.ga K (kCls 2))) _ = _; rw [kC2]; exact He.exm_ok (c.fact 62 (f := .exm "BadStretch" "PostError" true) rfl)) (by show PySem.W.exmOne K (.ref (He.ga K (kCls 3))) _ = _; rw [kC3]; exact He.exm_ok (c.fact 64 (f := .exm "BadMany" "PostError" true) rfl))
  ve := four (P := fun k => PySem.W.kitOne K (.ref (He.ga K (kCls k))) (.type "ValueError") = some true) (by show PySem.W.kitOne K (.ref (He.ga K (kCls 0))) _ = _; rw [kCls_0]; exact xe_ve (xe_at cx 4 (f := .ve "BadRoad") rfl)) (by show PySem.W.kitOne K (.ref (He.ga K (kCls 1))) _ = _; rw [kC1]; exact xe_ve (xe_at cx 5 (f := .ve "BadPosts") rfl)) (by show PySem.W.kitOne K (.ref (He.ga K (kCls 2))) _ = _; rw [kC2]; exact xe_ve (xe_at cx 6 (f := .ve "BadStretch") rfl)) (by show PySem.W.kitOne K (.ref (He.ga K (kCls 3))) _ = _; rw [kC3]; exact xe_ve (xe_at cx 7 (f := .ve "BadMany") rfl))
  kit := fun k j a b c d => four (P := fun k => ∀ j : Int, 0 ≤ j → j ≤ 3 → PySem.W.kitOne K (.ref (He.ga K (kCls k))) (.ref (He.ga K (kCls j))) = some (decide (k = j))) (four (P := fun j => PySem.W.kitOne K (.ref (He.ga K (kCls 0))) (.ref (He.ga K (kCls j))) = some (decide ((0 : Int) = j))) (by show PySem.W.kitOne K (.ref (He.ga K (kCls 0))) (.ref (He.ga K (kCls 0))) = some (decide ((0 : Int) = 0)); rw [kCls_0]; exact xe_kit (xe_at cx 8 (f := .kit "BadRoad" "BadRoad" true) rfl)) (by show PySem.W.kitOne K (.ref (He.ga K (kCls 0))) (.ref (He.ga K (kCls 1))) = some (decide ((0 : Int) = 1)); rw [kCls_0, kC1]; exact xe_kit (xe_at cx 9 (f := .kit "BadRoad" "BadPosts" false) rfl)) (by show PySem.W.kitOne K (.ref (He.ga K (kCls 0))) (.ref (He.ga K (kCls 2))) = some (decide ((0 : Int) = 2)); rw [kCls_0, kC2]; exact xe_kit (xe_at cx 10 (f := .kit "BadRoad" "BadStretch" false) rfl)) (by show PySem.W.kitOne K (.ref (He.ga K (kCls 0))) (.ref (He.ga K (kCls 3))) = some (decide ((0 : Int) = 3)); rw [kCls_0, kC3]; exact xe_kit (xe_at cx 11 (f := .kit "BadRoad" "BadMany" false) rfl))) (four (P := fun j => PySem.W.kitOne K (.ref (He.ga K (kCls 1))) (.ref (He.ga K (kCls j))) = some (decide ((1 : Int) = j))) (by show PySem.W.kitOne K (.ref (He.ga K (kCls 1))) (.ref (He.ga K (kCls 0))) = some (decide ((1 : Int) = 0)); rw [kC1, kCls_0]; exact xe_kit (xe_at cx 12 (f := .kit "BadPosts" "BadRoad" false) rfl)) (by show PySem.W.kitOne K (.ref (He.ga K (kCls 1))) (.ref (He.ga K (kCls 1))) = some (decide ((1 : Int) = 1)); rw [kC1]; exact xe_kit (xe_at cx 13 (f := .kit "BadPosts" "BadPosts" true) rfl)) (by show PySem.W.kitOne K (.ref (He.ga K (kCls 1))) (.ref (He.ga K (kCls 2))) = some (decide ((1 : Int) = 2)); rw [kC1, kC2]; exact xe_kit (xe_at cx 14 (f := .kit "BadPosts" "BadStretch" false) rfl)) (by show PySem.W.kitOne K (.ref (He.ga K (kCls 1))) (.ref (He.ga K (kCls 3))) = some (decide ((1 : Int) = 3)); rw [kC1, kC3]; exact xe_kit (xe_at cx 15 (f := .kit "BadPosts" "BadMany" false) rfl))) (four (P := fun j => PySem.W.kitOne K (.ref (He.ga K (kCls 2))) (.ref (He.ga K (kCls j))) = some (decide ((2 : Int) = j))) (by show PySem.W.kitOne K (.ref (He.ga K (kCls 2))) (.ref (He.ga K (kCls 0))) = some (decide ((2 : Int) = 0)); rw [kC2, kCls_0]; exact xe_kit (xe_at cx 16 (f := .kit "BadStretch" "BadRoad" false) rfl)) (by show PySem.W.kitOne K (.ref (He.ga K (kCls 2))) (.ref (He.ga K (kCls 1))) = some (decide ((2 : Int) = 1)); rw [kC2, kC1]; exact xe_kit (xe_at cx 17 (f := .kit "BadStretch" "BadPosts" false) rfl)) (by show PySem.W.kitOne K (.ref (He.ga K (kCls 2))) (.ref (He.ga K (kCls 2))) = some (decide ((2 : Int) = 2)); rw [kC2]; exact xe_kit (xe_at cx 18 (f := .kit "BadStretch" "BadStretch" true) rfl)) (by show PySem.W.kitOne K (.ref (He.ga K (kCls 2))) (.ref (He.ga K (kCls 3))) = some (decide ((2 : Int) = 3)); rw [kC2, kC3]; exact xe_kit (xe_at cx 19 (f := .kit "BadStretch" "BadMany" false) rfl))) (four (P := fun j => PySem.W.kitOne K (.ref (He.ga K (kCls 3))) (.ref (He.ga K (kCls j))) = some (decide ((3 : Int) = j))) (by show PySem.W.kitOne K (.ref (He.ga K (kCls 3))) (.ref (He.ga K (kCls 0))) = some (decide ((3 : Int) = 0)); rw [kC3, kCls_0]; exact xe_kit (xe_at cx 20 (f := .kit "BadMany" "BadRoad" false) rfl)) (by show PySem.W.kitOne K (.ref (He.ga K (kCls 3))) (.ref (He.ga K (kCls 1))) = some (decide ((3 : Int) = 1)); rw [kC3, kC1]; exact xe_kit (xe_at cx 21 (f := .kit "BadMany" "BadPosts" false) rfl)) (by show PySem.W.kitOne K (.ref (He.ga K (kCls 3))) (.ref (He.ga K (kCls 2))) = some (decide ((3 : Int) = 2)); rw [kC3, kC2]; exact xe_kit (xe_at cx 22 (f := .kit "BadMany" "BadStretch" false) rfl)) (by show PySem.W.kitOne K (.ref (He.ga K (kCls 3))) (.ref (He.ga K (kCls 3))) = some (decide ((3 : Int) = 3)); rw [kC3]; exact xe_kit (xe_at cx 23 (f := .kit "BadMany" "BadMany" true) rfl))) k a b j c d
theorem facts {P : Program} {w : World} {K : PySem.W.Frag} {h : Heap} {mg : Str → Option Value} {f : Addr} (X : K.In h) (G : h.Ns mainGlobals mg) (hfa : mg ("law" : Str) = some (.ref f)) (c : He.SaysD fa fn K) (cx : (xe.all fun f => f.ok K) = true) :
    ∃ fd : FuncData, (∀ (s : Shared) (v : Value), BindsTo s fd ⟨[v], []⟩ [("_law_script", v)]) ∧ ∀ base : Heap, K.In base → base.Ns mainGlobals mg → FnOk P w K mg base CX0 7 f fd ["_law_script"] (sp_law K) := by
  have bl : Blt mg := ⟨He.free_ok X G (c.fact 27 (f := .free "len") rfl), He.free_ok X G (c.fact 28 (f := .free "range") rfl), He.free_ok X G (c.fact 29 (f := .free "zip") rfl), He.free_ok X G (c.fact 30 (f := .free "enumerate") rfl), He.free_ok X G (c.fact 31 (f := .free "reversed") rfl), He.free_ok X G (c.fact 32 (f := .free "isinstance") rfl), He.free_ok X G (c.fact 33 (f := .free "abs") rfl), He.free_ok X G (c.fact 34 (f := .free "min") rfl), He.free_ok X G (c.fact 35 (f := .free "max") rfl), He.free_ok X G (c.fact 36 (f := .free "sum") rfl), He.free_ok X G (c.fact 37 (f := .free "any") rfl), He.free_ok X G (c.fact 38 (f := .free "all") rfl), He.free_ok X G (c.fact 39 (f := .free "list") rfl), He.free_ok X G (c.fact 40 (f := .free "sorted") rfl), He.free_ok X G (c.fact 41 (f := .free "set") rfl), He.free_ok X G (c.fact 42 (f := .free "int") rfl), He.free_ok X G (c.fact 43 (f := .free "bool") rfl), He.free_ok X G (c.fact 44 (f := .free "tuple") rfl)⟩
  obtain ⟨fd_is_number, F_is_number⟩ := c.def_ 0 (d := h_is_number) rfl
  obtain ⟨fd_are_posts, F_are_posts⟩ := c.def_ 1 (d := h_are_posts) rfl
  obtain ⟨fd_nearest_of, F_nearest_of⟩ := c.def_ 2 (d := h_nearest_of) rfl
  obtain ⟨fd_sums, F_sums⟩ := c.def_ 3 (d := h_sums) rfl
  obtain ⟨fd_carried, F_carried⟩ := c.def_ 4 (d := h_carried) rfl
  obtain ⟨fd_Best_init, F_Best_init⟩ := c.def_ 5 (d := h_Best_init) rfl
  obtain ⟨fd_layers, F_layers⟩ := c.def_ 6 (d := h_layers) rfl
  obtain ⟨fd_posts_by, F_posts_by⟩ := c.def_ 7 (d := h_posts_by) rfl
  obtain ⟨fd_led, F_led⟩ := c.def_ 8 (d := h_led) rfl
  obtain ⟨fd_is_house, F_is_house⟩ := c.def_ 9 (d := h_is_house) rfl
  obtain ⟨fd_asked_posts, F_asked_posts⟩ := c.def_ 10 (d := h_asked_posts) rfl
  obtain ⟨fd_asked_stretch, F_asked_stretch⟩ := c.def_ 11 (d := h_asked_stretch) rfl
  obtain ⟨fd_way_of, F_way_of⟩ := c.def_ 12 (d := h_way_of) rfl
  obtain ⟨fd_middles, F_middles⟩ := c.def_ 13 (d := h_middles) rfl
  obtain ⟨fd_asked_many, F_asked_many⟩ := c.def_ 14 (d := h_asked_many) rfl
  obtain ⟨fd_asked_number, F_asked_number⟩ := c.def_ 15 (d := h_asked_number) rfl
  obtain ⟨fd_asked_road, F_asked_road⟩ := c.def_ 16 (d := h_asked_road) rfl
  obtain ⟨fd_nearest, F_nearest⟩ := c.def_ 17 (d := h_nearest) rfl
  obtain ⟨fd_way, F_way⟩ := c.def_ 18 (d := h_way) rfl
  obtain ⟨fd_middle, F_middle⟩ := c.def_ 19 (d := h_middle) rfl
  obtain ⟨fd_one_way, F_one_way⟩ := c.def_ 20 (d := h_one_way) rfl
  obtain ⟨fd_best, F_best⟩ := c.def_ 21 (d := h_best) rfl
  obtain ⟨fd_ways, F_ways⟩ := c.def_ 22 (d := h_ways) rfl
  obtain ⟨fd_paying, F_paying⟩ := c.def_ 23 (d := h_paying) rfl
  obtain ⟨fd_law_road_asked, F_law_road_asked⟩ := c.def_ 24 (d := h_law_road_asked) rfl
  obtain ⟨fd_law_others_asked, F_law_others_asked⟩ := c.def_ 25 (d := h_law_others_asked) rfl
  obtain ⟨fd_law_told, F_law_told⟩ := c.def_ 26 (d := h_law_told) rfl
  obtain ⟨fd_law, F_law⟩ := c.def_ 27 (d := h_law) rfl
  have e := hfa.symm.trans (He.glo_ok X G (c.fact 26 (f := .glo "law") rfl))
  cases e
  have b := FunD.bindsA (ps := ["_law_script"]) F_law fun _ _ _ _ _ _ us hl => match us, hl with | [_], _ => rfl
  refine ⟨fd_law, fun s v => b s [v] rfl, fun base _ _ => ?_⟩
  have co_Best : COk K (He.ga K "Best") := ⟨He.cls_ok (c.fact 47 (f := .cls "Best") rfl), He.noat_ok (c.fact 48 (f := .noat "Best" "posts") rfl), He.noat_ok (c.fact 49 (f := .noat "Best" "bounds") rfl), He.noat_ok (c.fact 50 (f := .noat "Best" "fee") rfl)⟩
  have g_PostError := He.glo_ok X G (c.fact 52 (f := .glo "PostError") rfl)
  have xc_BadRoad : XC K mg "BadRoad" := xc_of (He.glo_ok X G (c.fact 53 (f := .glo "BadRoad") rfl)) (c.fact 57 (f := .exc "BadRoad") rfl)
  have xc_BadPosts : XC K mg "BadPosts" := xc_of (He.glo_ok X G (c.fact 54 (f := .glo "BadPosts") rfl)) (c.fact 59 (f := .exc "BadPosts") rfl)
  have xc_BadStretch : XC K mg "BadStretch" := xc_of (He.glo_ok X G (c.fact 55 (f := .glo "BadStretch") rfl)) (c.fact 61 (f := .exc "BadStretch") rfl)
  have xc_BadMany : XC K mg "BadMany" := xc_of (He.glo_ok X G (c.fact 56 (f := .glo "BadMany") rfl)) (c.fact 63 (f := .exc "BadMany") rfl)
  have xfK : XF K := xf_all c cx
  have c_is_number : Cl P w K mg base 1 "is_number" (sp_is_number K) := cl_of (ok_pr (k := 0) (fun_of F_is_number) sc_is_number len_is_number (fun cdv A outer s H E hr => d_is_number bl  hr) run_is_number) (He.glo_ok X G (c.fact 0 (f := .glo "is_number") rfl)) F_is_number.kp (F_is_number.bindsN fun _ _ _ _ _ _ us hl => match us, hl with | [_], _ => rfl)
  have c_are_posts : Cl P w K mg base 1 "are_posts" (sp_are_posts K) := cl_of (ok_pr (k := 0) (fun_of F_are_posts) sc_are_posts len_are_posts (fun cdv A outer s H E hr => d_are_posts bl  hr) run_are_posts) (He.glo_ok X G (c.fact 1 (f := .glo "are_posts") rfl)) F_are_posts.kp (F_are_posts.bindsN fun _ _ _ _ _ _ us hl => match us, hl with | [_, _], _ => rfl)
  have c_nearest_of : Cl P w K mg base 1 "nearest_of" (sp_nearest_of K) := cl_of (ok_prN (k := 0) (fun_of F_nearest_of) sc_nearest_of len_nearest_of (fun cdv A outer s H E hr => d_nearest_of bl  hr) run_nearest_of) (He.glo_ok X G (c.fact 2 (f := .glo "nearest_of") rfl)) F_nearest_of.kp (F_nearest_of.bindsN fun _ _ _ _ _ _ us hl => match us, hl with | [_, _], _ => rfl)
  have c_sums : Cl P w K mg base 1 "sums" (sp_sums K) := cl_of (ok_pr (k := 0) (fun_of F_sums) sc_sums len_sums (fun cdv A outer s H E hr => d_sums bl  hr) run_sums) (He.glo_ok X G (c.fact 3 (f := .glo "sums") rfl)) F_sums.kp (F_sums.bindsN fun _ _ _ _ _ _ us hl => match us, hl with | [_], _ => rfl)
  have c_carried : Cl P w K mg base 1 "carried" (sp_carried K) := cl_of (ok_pr (k := 0) (fun_of F_carried) sc_carried len_carried (fun cdv A outer s H E hr => d_carried bl  hr) run_carried) (He.glo_ok X G (c.fact 4 (f := .glo "carried") rfl)) F_carried.kp (F_carried.bindsN fun _ _ _ _ _ _ us hl => match us, hl with | [_, _, _, _, _], _ => rfl)
  have m_Best : ClM P w K mg base 1 "Best" (He.ga K "Best") (PrI3 K (He.ga K "Best")) := ⟨_, fd_Best_init, ["self", "posts", "bounds", "fee"], He.mkr_ok (c.fact 51 (f := .mkr "Best") rfl), (fun_of F_Best_init).ok (k := 0) sc_Best_init (fun vs H Q E h => h.1) (fun cdv A outer s H vs Q E hr h => ⟨_, d_Best_init bl  hr, init_ok3 co_Best h _⟩), He.glo_ok X G (c.fact 46 (f := .glo "Best") rfl), F_Best_init.bindsN fun _ _ _ _ _ _ us hl => match us, hl with | [_, _, _, _], _ => rfl⟩
  have c_layers : Cl P w K mg base 1 "layers" (sp_layers K) := cl_of (ok_prN (k := 0) (fun_of F_layers) sc_layers len_layers (fun cdv A outer s H E hr => d_layers bl  hr) run_layers) (He.glo_ok X G (c.fact 5 (f := .glo "layers") rfl)) F_layers.kp (F_layers.bindsN fun _ _ _ _ _ _ us hl => match us, hl with | [_, _, _], _ => rfl)
  have c_posts_by : Cl P w K mg base 1 "posts_by" (sp_posts_by K) := cl_of (ok_prN (k := 0) (fun_of F_posts_by) sc_posts_by len_posts_by (fun cdv A outer s H E hr => d_posts_by bl  hr) run_posts_by) (He.glo_ok X G (c.fact 6 (f := .glo "posts_by") rfl)) F_posts_by.kp (F_posts_by.bindsN fun _ _ _ _ _ _ us hl => match us, hl with | [_, _, _, _], _ => rfl)
  have c_led : Cl P w K mg base 1 "led" (sp_led K) := cl_of (ok_prN (k := 0) (fun_of F_led) sc_led len_led (fun cdv A outer s H E hr => d_led bl  hr) run_led) (He.glo_ok X G (c.fact 7 (f := .glo "led") rfl)) F_led.kp (F_led.bindsN fun _ _ _ _ _ _ us hl => match us, hl with | [_, _, _], _ => rfl)
  have c_is_house : Cl P w K mg base 2 "is_house" (sp_is_house K) := cl_of (ok_pr (k := 1) (fun_of F_is_house) sc_is_house len_is_house (fun cdv A outer s H E hr => d_is_house bl c_is_number hr) run_is_house) (He.glo_ok X G (c.fact 8 (f := .glo "is_house") rfl)) F_is_house.kp (F_is_house.bindsN fun _ _ _ _ _ _ us hl => match us, hl with | [_], _ => rfl)
  have c_asked_posts : Cl P w K mg base 2 "asked_posts" (sp_asked_posts K) := cl_of (ok_pr (k := 1) (fun_of F_asked_posts) sc_asked_posts len_asked_posts (fun cdv A outer s H E hr => d_asked_posts bl c_are_posts c_is_number hr) run_asked_posts) (He.glo_ok X G (c.fact 9 (f := .glo "asked_posts") rfl)) F_asked_posts.kp (F_asked_posts.bindsN fun _ _ _ _ _ _ us hl => match us, hl with | [_, _], _ => rfl)
  have c_way_of : Cl P w K mg base 2 "way_of" (sp_way_of K) := cl_of (ok_pr (k := 1) (fun_of F_way_of) sc_way_of len_way_of (fun cdv A outer s H E hr => d_way_of bl c_nearest_of hr) run_way_of) (He.glo_ok X G (c.fact 11 (f := .glo "way_of") rfl)) F_way_of.kp (F_way_of.bindsN fun _ _ _ _ _ _ us hl => match us, hl with | [_, _], _ => rfl)
  have c_middles : Cl P w K mg base 2 "middles" (sp_middles K) := cl_of (ok_prN (k := 1) (fun_of F_middles) sc_middles len_middles (fun cdv A outer s H E hr => d_middles bl c_carried c_sums hr) run_middles) (He.glo_ok X G (c.fact 12 (f := .glo "middles") rfl)) F_middles.kp (F_middles.bindsN fun _ _ _ _ _ _ us hl => match us, hl with | [_], _ => rfl)
  have c_asked_many : Cl P w K mg base 2 "asked_many" (sp_asked_many K) := cl_of (ok_pr (k := 1) (fun_of F_asked_many) sc_asked_many len_asked_many (fun cdv A outer s H E hr => d_asked_many bl c_is_number hr) run_asked_many) (He.glo_ok X G (c.fact 13 (f := .glo "asked_many") rfl)) F_asked_many.kp (F_asked_many.bindsN fun _ _ _ _ _ _ us hl => match us, hl with | [_, _], _ => rfl)
  have c_asked_number : Cl P w K mg base 2 "asked_number" (sp_asked_number K) := cl_of (ok_pr (k := 1) (fun_of F_asked_number) sc_asked_number len_asked_number (fun cdv A outer s H E hr => d_asked_number bl c_is_number hr) run_asked_number) (He.glo_ok X G (c.fact 14 (f := .glo "asked_number") rfl)) F_asked_number.kp (F_asked_number.bindsN fun _ _ _ _ _ _ us hl => match us, hl with | [_], _ => rfl)
  have c_asked_road : Cl P w K mg base 3 "asked_road" (sp_asked_road K) := cl_of (ok_pr (k := 2) (fun_of F_asked_road) sc_asked_road len_asked_road (fun cdv A outer s H E hr => d_asked_road bl c_is_house hr) run_asked_road) (He.glo_ok X G (c.fact 15 (f := .glo "asked_road") rfl)) F_asked_road.kp (F_asked_road.bindsN fun _ _ _ _ _ _ us hl => match us, hl with | [_], _ => rfl)
  have c_way : Cl P w K mg base 4 "way" (sp_way K) := cl_of (ok_pr (k := 3) (fun_of F_way) sc_way len_way (fun cdv A outer s H E hr => d_way bl c_asked_posts c_asked_road c_way_of hr) run_way) (He.glo_ok X G (c.fact 17 (f := .glo "way") rfl)) F_way.kp (F_way.bindsN fun _ _ _ _ _ _ us hl => match us, hl with | [_, _], _ => rfl)
  have c_best : Cl P w K mg base 4 "best" (sp_best K) := cl_of (ok_prO (k := 3) (fun_of F_best) sc_best len_best (fun cdv A outer s H E hr => d_best bl m_Best c_asked_many c_asked_road c_layers c_led c_middles c_posts_by hr) run_best) (He.glo_ok X G (c.fact 20 (f := .glo "best") rfl)) F_best.kp (F_best.bindsN fun _ _ _ _ _ _ us hl => match us, hl with | [_, _], _ => rfl)
  have c_ways : Cl P w K mg base 4 "ways" (sp_ways K) := cl_of (ok_prN (k := 3) (fun_of F_ways) sc_ways len_ways (fun cdv A outer s H E hr => d_ways bl c_asked_number c_asked_road c_layers c_middles hr) run_ways) (He.glo_ok X G (c.fact 21 (f := .glo "ways") rfl)) F_ways.kp (F_ways.bindsN fun _ _ _ _ _ _ us hl => match us, hl with | [_, _], _ => rfl)
  have cx_asked_road : ClX P w K mg base 3 "asked_road" (sx_asked_road K) := ⟨⟨_, _, (ok_prX (k := 2) (fun_of F_asked_road) sc_asked_road lx_asked_road (fun cdv A outer s H E hr => dx_asked_road bl c_is_house xc_BadRoad hr) (fun ds c r B W D k => run_x_asked_road ds c r B W D k)), F_asked_road.kp, F_asked_road.bindsN fun _ _ _ _ _ _ us hl => match us, hl with | [_], _ => rfl⟩, He.glo_ok X G (c.fact 15 (f := .glo "asked_road") rfl)⟩
  have cx_asked_posts : ClX P w K mg base 2 "asked_posts" (sx_asked_posts K) := ⟨⟨_, _, (ok_prX (k := 1) (fun_of F_asked_posts) sc_asked_posts lx_asked_posts (fun cdv A outer s H E hr => dx_asked_posts bl c_are_posts c_is_number xc_BadPosts hr) (fun ds c r B W D k => run_x_asked_posts ds c r B W D k)), F_asked_posts.kp, F_asked_posts.bindsN fun _ _ _ _ _ _ us hl => match us, hl with | [_, _], _ => rfl⟩, He.glo_ok X G (c.fact 9 (f := .glo "asked_posts") rfl)⟩
  have cx_asked_stretch : ClX P w K mg base 2 "asked_stretch" (sx_asked_stretch K) := ⟨⟨_, _, (ok_prX (k := 1) (fun_of F_asked_stretch) sc_asked_stretch lx_asked_stretch (fun cdv A outer s H E hr => dx_asked_stretch bl c_is_number xc_BadStretch hr) (fun ds c r B W D k => run_x_asked_stretch ds c r B W D k)), F_asked_stretch.kp, F_asked_stretch.bindsN fun _ _ _ _ _ _ us hl => match us, hl with | [_, _, _], _ => rfl⟩, He.glo_ok X G (c.fact 10 (f := .glo "asked_stretch") rfl)⟩
  have cx_asked_many : ClX P w K mg base 2 "asked_many" (sx_asked_many K) := ⟨⟨_, _, (ok_prX (k := 1) (fun_of F_asked_many) sc_asked_many lx_asked_many (fun cdv A outer s H E hr => dx_asked_many bl c_is_number xc_BadMany hr) (fun ds c r B W D k => run_x_asked_many ds c r B W D k)), F_asked_many.kp, F_asked_many.bindsN fun _ _ _ _ _ _ us hl => match us, hl with | [_, _], _ => rfl⟩, He.glo_ok X G (c.fact 13 (f := .glo "asked_many") rfl)⟩
  have cx_asked_number : ClX P w K mg base 2 "asked_number" (sx_asked_number K) := ⟨⟨_, _, (ok_prX (k := 1) (fun_of F_asked_number) sc_asked_number lx_asked_number (fun cdv A outer s H E hr => dx_asked_number bl c_is_number xc_BadMany hr) (fun ds c r B W D k => run_x_asked_number ds c r B W D k)), F_asked_number.kp, F_asked_number.bindsN fun _ _ _ _ _ _ us hl => match us, hl with | [_], _ => rfl⟩, He.glo_ok X G (c.fact 14 (f := .glo "asked_number") rfl)⟩
  have fx_nearest : FnOk P w K mg base (L2.CX P w) 4 (He.ga K "nearest") fd_nearest ["road", "posts"] (sx_nearest K) := okX_or (ok_prX (k := 3) (fun_of F_nearest) sc_nearest lxA2 (fun cdv A outer s H E hr => dxA_nearest bl cx_asked_road hr) (fun ds c r B W D k => run_xA2 ds c r B W D k)) (ok_prX (k := 3) (fun_of F_nearest) sc_nearest lxB_posts (fun cdv A outer s H E hr => dxB_nearest bl c_asked_road cx_asked_posts hr) (fun ds c r B W D k => run_xB_posts ds c r B W D k)) (fun _ _ h => h)
  have cx_nearest : ClX P w K mg base 4 "nearest" (sx_nearest K) := ⟨⟨_, _, fx_nearest, F_nearest.kp, F_nearest.bindsN fun _ _ _ _ _ _ us hl => match us, hl with | [_, _], _ => rfl⟩, He.glo_ok X G (c.fact 16 (f := .glo "nearest") rfl)⟩
  have fx_way : FnOk P w K mg base (L2.CX P w) 4 (He.ga K "way") fd_way ["road", "posts"] (sx_way K) := okX_or (ok_prX (k := 3) (fun_of F_way) sc_way lxA2 (fun cdv A outer s H E hr => dxA_way bl cx_asked_road hr) (fun ds c r B W D k => run_xA2 ds c r B W D k)) (ok_prX (k := 3) (fun_of F_way) sc_way lxB_posts (fun cdv A outer s H E hr => dxB_way bl c_asked_road cx_asked_posts hr) (fun ds c r B W D k => run_xB_posts ds c r B W D k)) (fun _ _ h => h)
  have cx_way : ClX P w K mg base 4 "way" (sx_way K) := ⟨⟨_, _, fx_way, F_way.kp, F_way.bindsN fun _ _ _ _ _ _ us hl => match us, hl with | [_, _], _ => rfl⟩, He.glo_ok X G (c.fact 17 (f := .glo "way") rfl)⟩
  have fx_middle : FnOk P w K mg base (L2.CX P w) 4 (He.ga K "middle") fd_middle ["road", "first", "end"] (sx_middle K) := okX_or (ok_prX (k := 3) (fun_of F_middle) sc_middle lxA3 (fun cdv A outer s H E hr => dxA_middle bl cx_asked_road hr) (fun ds c r B W D k => run_xA3 ds c r B W D k)) (ok_prX (k := 3) (fun_of F_middle) sc_middle lxB_stretch (fun cdv A outer s H E hr => dxB_middle bl c_asked_road cx_asked_stretch hr) (fun ds c r B W D k => run_xB_stretch ds c r B W D k)) (fun _ _ h => h)
  have cx_middle : ClX P w K mg base 4 "middle" (sx_middle K) := ⟨⟨_, _, fx_middle, F_middle.kp, F_middle.bindsN fun _ _ _ _ _ _ us hl => match us, hl with | [_, _, _], _ => rfl⟩, He.glo_ok X G (c.fact 18 (f := .glo "middle") rfl)⟩
  have fx_one_way : FnOk P w K mg base (L2.CX P w) 4 (He.ga K "one_way") fd_one_way ["road", "first", "end"] (sx_one_way K) := okX_or (ok_prX (k := 3) (fun_of F_one_way) sc_one_way lxA3 (fun cdv A outer s H E hr => dxA_one_way bl cx_asked_road hr) (fun ds c r B W D k => run_xA3 ds c r B W D k)) (ok_prX (k := 3) (fun_of F_one_way) sc_one_way lxB_stretch (fun cdv A outer s H E hr => dxB_one_way bl c_asked_road cx_asked_stretch hr) (fun ds c r B W D k => run_xB_stretch ds c r B W D k)) (fun _ _ h => h)
  have cx_one_way : ClX P w K mg base 4 "one_way" (sx_one_way K) := ⟨⟨_, _, fx_one_way, F_one_way.kp, F_one_way.bindsN fun _ _ _ _ _ _ us hl => match us, hl with | [_, _, _], _ => rfl⟩, He.glo_ok X G (c.fact 19 (f := .glo "one_way") rfl)⟩
  have fx_best : FnOk P w K mg base (L2.CX P w) 4 (He.ga K "best") fd_best ["road", "many"] (sx_best K) := okX_or (ok_prX (k := 3) (fun_of F_best) sc_best lxA2 (fun cdv A outer s H E hr => dxA_best bl cx_asked_road hr) (fun ds c r B W D k => run_xA2 ds c r B W D k)) (ok_prX (k := 3) (fun_of F_best) sc_best lxB_many (fun cdv A outer s H E hr => dxB_best bl c_asked_road cx_asked_many hr) (fun ds c r B W D k => run_xB_many ds c r B W D k)) (fun _ _ h => h)
  have cx_best : ClX P w K mg base 4 "best" (sx_best K) := ⟨⟨_, _, fx_best, F_best.kp, F_best.bindsN fun _ _ _ _ _ _ us hl => match us, hl with | [_, _], _ => rfl⟩, He.glo_ok X G (c.fact 20 (f := .glo "best") rfl)⟩
  have fx_ways : FnOk P w K mg base (L2.CX P w) 4 (He.ga K "ways") fd_ways ["road", "most"] (sx_ways K) := okX_or (ok_prX (k := 3) (fun_of F_ways) sc_ways lxA2 (fun cdv A outer s H E hr => dxA_ways bl cx_asked_road hr) (fun ds c r B W D k => run_xA2 ds c r B W D k)) (ok_prX (k := 3) (fun_of F_ways) sc_ways lxB_number (fun cdv A outer s H E hr => dxB_ways bl c_asked_road cx_asked_number hr) (fun ds c r B W D k => run_xB_number ds c r B W D k)) (fun _ _ h => h)
  have cx_ways : ClX P w K mg base 4 "ways" (sx_ways K) := ⟨⟨_, _, fx_ways, F_ways.kp, F_ways.bindsN fun _ _ _ _ _ _ us hl => match us, hl with | [_, _], _ => rfl⟩, He.glo_ok X G (c.fact 21 (f := .glo "ways") rfl)⟩
  have fx_paying : FnOk P w K mg base (L2.CX P w) 4 (He.ga K "paying") fd_paying ["road", "fee"] (sx_paying K) := okX_or (ok_prX (k := 3) (fun_of F_paying) sc_paying lxA2 (fun cdv A outer s H E hr => dxA_paying bl cx_asked_road hr) (fun ds c r B W D k => run_xA2 ds c r B W D k)) (ok_prX (k := 3) (fun_of F_paying) sc_paying lxB_number (fun cdv A outer s H E hr => dxB_paying bl c_asked_road cx_asked_number hr) (fun ds c r B W D k => run_xB_number ds c r B W D k)) (fun _ _ h => h)
  have cx_paying : ClX P w K mg base 4 "paying" (sx_paying K) := ⟨⟨_, _, fx_paying, F_paying.kp, F_paying.bindsN fun _ _ _ _ _ _ us hl => match us, hl with | [_, _], _ => rfl⟩, He.glo_ok X G (c.fact 22 (f := .glo "paying") rfl)⟩
  have h_np : ∀ f ∈ [He.ga K "nearest", He.ga K "way"], ∃ (fd : FuncData) (ps : List Str), FnOk P w K mg base (L2.CX P w) 4 f fd ps (sx_np K) ∧ PySem.W.keepIn K (.ref f) = true ∧ Binds K fd ps [] := by
    intro f hf
    simp only [List.mem_cons, List.not_mem_nil, or_false] at hf
    rcases hf with rfl | rfl
    · exact ⟨fd_nearest, _, fx_nearest, F_nearest.kp, F_nearest.bindsN fun _ _ _ _ _ _ us hl => match us, hl with | [_, _], _ => rfl⟩
    · exact ⟨fd_way, _, fx_way, F_way.kp, F_way.bindsN fun _ _ _ _ _ _ us hl => match us, hl with | [_, _], _ => rfl⟩
  have h_ms : ∀ f ∈ [He.ga K "middle", He.ga K "one_way"], ∃ (fd : FuncData) (ps : List Str), FnOk P w K mg base (L2.CX P w) 4 f fd ps (sx_ms K) ∧ PySem.W.keepIn K (.ref f) = true ∧ Binds K fd ps [] := by
    intro f hf
    simp only [List.mem_cons, List.not_mem_nil, or_false] at hf
    rcases hf with rfl | rfl
    · exact ⟨fd_middle, _, fx_middle, F_middle.kp, F_middle.bindsN fun _ _ _ _ _ _ us hl => match us, hl with | [_, _, _], _ => rfl⟩
    · exact ⟨fd_one_way, _, fx_one_way, F_one_way.kp, F_one_way.bindsN fun _ _ _ _ _ _ us hl => match us, hl with | [_, _, _], _ => rfl⟩
  have h_bwp : ∀ f ∈ [He.ga K "best", He.ga K "ways", He.ga K "paying"], ∃ (fd : FuncData) (ps : List Str), FnOk P w K mg base (L2.CX P w) 4 f fd ps (sx_bwp K) ∧ PySem.W.keepIn K (.ref f) = true ∧ Binds K fd ps [] := by
    intro f hf
    simp only [List.mem_cons, List.not_mem_nil, or_false] at hf
    rcases hf with rfl | rfl | rfl
    · exact ⟨fd_best, _, okX_imp fx_best RX_number.many, F_best.kp, F_best.bindsN fun _ _ _ _ _ _ us hl => match us, hl with | [_, _], _ => rfl⟩
    · exact ⟨fd_ways, _, fx_ways, F_ways.kp, F_ways.bindsN fun _ _ _ _ _ _ us hl => match us, hl with | [_, _], _ => rfl⟩
    · exact ⟨fd_paying, _, fx_paying, F_paying.kp, F_paying.bindsN fun _ _ _ _ _ _ us hl => match us, hl with | [_, _], _ => rfl⟩
  have cx_law_road_asked : ClX P w K mg base 5 "_law_road_asked" (sx_law_road_asked K) := ⟨⟨_, _, (ok_prX (k := 4) (fun_of F_law_road_asked) sc_law_road_asked lx_law_road_asked (fun cdv A outer s H E hr => dx_law_road_asked bl cx_best cx_middle cx_nearest cx_one_way cx_paying cx_way cx_ways h_np h_ms h_bwp hr) (fun ds c r B W D k => run_x_law_road_asked ds c r B W D k)), F_law_road_asked.kp, F_law_road_asked.bindsN fun _ _ _ _ _ _ us hl => match us, hl with | [_, _], _ => rfl⟩, He.glo_ok X G (c.fact 23 (f := .glo "_law_road_asked") rfl)⟩
  have cx_law_others_asked : ClX P w K mg base 5 "_law_others_asked" (sx_law_others_asked K) := ⟨⟨_, _, (ok_prX (k := 4) (fun_of F_law_others_asked) sc_law_others_asked lx_law_others_asked (fun cdv A outer s H E hr => dx_law_others_asked bl cx_best cx_middle cx_nearest cx_one_way cx_paying cx_way cx_ways h_np h_ms h_bwp hr) (fun ds c r B W D k => run_x_law_others_asked ds c r B W D k)), F_law_others_asked.kp, F_law_others_asked.bindsN fun _ _ _ _ _ _ us hl => match us, hl with | [_, _, _], _ => rfl⟩, He.glo_ok X G (c.fact 24 (f := .glo "_law_others_asked") rfl)⟩
  have c_law_told : Cl P w K mg base 6 "_law_told" (sp_law_told K) := cl_of (ok_prN (k := 5) (fun_of F_law_told) sc_law_told len_law_told (fun cdv A outer s H E hr => d_law_told bl (He.free_ok X G (c.fact 45 (f := .free "ValueError") rfl)) cx_law_road_asked cx_law_others_asked g_PostError xc_BadRoad xc_BadPosts xc_BadStretch xc_BadMany hr) (run_law_told xfK)) (He.glo_ok X G (c.fact 25 (f := .glo "_law_told") rfl)) F_law_told.kp (F_law_told.bindsN fun _ _ _ _ _ _ us hl => match us, hl with | [_, _, _], _ => rfl)
  exact ok_pr (k := 6) (fun_of F_law) sc_law len_law (fun cdv A outer s H E hr => d_law bl c_law_told c_best c_way c_ways hr) (run_law_k07 co_Best)
end Ph_k07
open PySem PySem.W PySem.Calls PyProof.Rows
theorem PySem.Challenge.cw_posthouses_k07_refused_holds : PySem.Challenge.rw_posthouses_k07_refused.Holds := by
  w_on; o_law
  refine HandSHeadRun.head_any (r := OpenLaw.row PySem.Challenge.rw_posthouses_k07_refused) (q := view (OpenLaw.row PySem.Challenge.rw_posthouses_k07_refused).prog [40]) (H := Ph_k07.hk) (ob := Ph_k07.ob) (M := 4000) (loose := Ph_k07.loose) (d := HandSHeadRun.topDef (OpenLaw.row PySem.Challenge.rw_posthouses_k07_refused).prog 40) (kwd := []) Ph_k07.ob_eq
    (by kernel_rfl) (fun s => by kernel_rfl) Ph_k07.run (by kernel_rfl) (by kernel_rfl) (by kernel_rfl) (by rfl) (by first | assumption | decide +kernel) (by decide +kernel) ⟨rfl, rfl, rfl, rfl, rfl, by decide +kernel⟩ ?hw ?hc
  case hw => w_witness2
  case hc =>
    refine L2.walk_ofE (l := PySem.Challenge.rw_posthouses_k07_refused) (n := 63) (k := 7) (x := "_law_script") (CX := L2.CX0) rfl (by decide) (by kernel_rfl) ⟨rfl, by decide, by decide⟩ ?F (fun _ _ _ _ z => z)
    intro w mg fa h Y G hmg0
    obtain ⟨K, KX, c, cx⟩ := Y
    have hmg : mg ("law" : PySem.Str) = some (.ref fa) := by
      have e : (HandSHeadRun.topDef (OpenLaw.row PySem.Challenge.rw_posthouses_k07_refused).prog 40).name = ("law" : PySem.Str) := by kernel_rfl
      rw [← e]
      exact hmg0
    obtain ⟨fd, hb, hF⟩ := Ph_k07.facts (P := (PySem.Challenge.rw_posthouses_k07_refused).prog) (w := w) KX G hmg c cx
    exact ⟨K, fd, Ph.sp_law K, KX, hb, fun H a ns hl _ hS => Ph.law_start hl hS, hF⟩
#print axioms PySem.Challenge.cw_posthouses_k07_refused_holds
