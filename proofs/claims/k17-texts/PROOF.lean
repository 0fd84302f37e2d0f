import PyProof.Rows.All
import Wide.All
import OpenK.AllK
import Wide.FinOn
import HandS.ForMost
import HandS.ForExc
import HandS.CallSlots
import HandS.Flow
import KE.KDictKeyed
import HandS.IsInst
import HandS.TupAny
import HandS.Style
import HandS.TupLe
import HandS.Deep
import KE.SortData
import PyProof.Rows.InDataRows
import HandS.Zip
import PySem.Challenge.RW_gaplogs_k17_texts
set_option Elab.async false
set_option linter.all false
set_option maxRecDepth 100000
/-! # The data layer, part a: data, slots, growing heaps, judgements -/
namespace GL
open PySem PySem.Spec PyProof.Rows L2

/-- what a piece of code comes to: a value, an error of a class by its name, nothing known -/
inductive Res (α : Type) where
  | ok (a : α)
  | ex (x : Str)
  | no
namespace Res
variable {α β : Type}
def bind : Res α → (α → Res β) → Res β
  | .ok a, f => f a
  | .ex x, _ => .ex x
  | .no, _ => .no
def map (f : α → β) (r : Res α) : Res β := r.bind fun a => .ok (f a)
def sat (r : Res α) (P : α → Prop) (E : Str → Prop) : Prop := match r with
  | .ok a => P a
  | .ex x => E x
  | .no => False
@[simp] theorem bind_ok (a : α) (f : α → Res β) : (Res.ok a).bind f = f a := rfl
@[simp] theorem bind_ex (x : Str) (f : α → Res β) : (Res.ex x : Res α).bind f = .ex x := rfl
@[simp] theorem bind_no (f : α → Res β) : (Res.no : Res α).bind f = .no := rfl
@[simp] theorem map_ok (a : α) (f : α → β) : (Res.ok a).map f = .ok (f a) := rfl
@[simp] theorem map_ex (x : Str) (f : α → β) : (Res.ex x : Res α).map f = .ex x := rfl
@[simp] theorem map_no (f : α → β) : (Res.no : Res α).map f = .no := rfl
theorem sat_bind {r : Res α} {f : α → Res β} {P : β → Prop} {E : Str → Prop} : (r.bind f).sat P E ↔ r.sat (fun a => (f a).sat P E) E := by
  cases r <;> exact Iff.rfl
theorem sat_map {r : Res α} {f : α → β} {P : β → Prop} {E : Str → Prop} : (r.map f).sat P E ↔ r.sat (fun a => P (f a)) E := by
  cases r <;> exact Iff.rfl
theorem sat.imp {r : Res α} {P P' : α → Prop} {E E' : Str → Prop} (h : r.sat P E) (hp : ∀ a, r = .ok a → P a → P' a) (he : ∀ x, E x → E' x) : r.sat P' E' := by
  cases r with
  | ok a => exact hp a rfl h
  | ex x => exact he x h
  | no => exact h
end Res

/-- what a slot is known to hold: data that stand still, a list of one's own, a dict of one's own -/
inductive SV where
  | dat (d : PyData)
  | own (ds : List PyData)
  | dct (kvs : List (NestedKey × PyData))
def SV.mu : SV → Bool
  | .dat _ => false
  | _ => true
abbrev En := List (Option SV)

/-! ### data in a heap, and what stays -/
theorem same_t {K : PySem.W.Frag} {G G' : Hp} {a : Addr} {xs : List V} (e : Same G G') (h : SqT K G a xs) : SqT K G' a xs := by
  rcases h with (h | ⟨o, h⟩) | h
  · exact .inl (.inl (e _ _ h))
  · exact .inl (.inr ⟨o, e _ _ h⟩)
  · exact .inr h
mutual
theorem dp_mono {K : PySem.W.Frag} {G G' : Hp} (e : Same G G') : ∀ (d : PyData) (v : V), Dp K G v d → Dp K G' v d
  | .none, _, h => by cases h; exact .non
  | .bool _, _, h => by cases h; exact .bl _
  | .int _, _, h => by cases h; exact .int _
  | .str _, _, h => by cases h; exact .str _
  | .list ds, _, h => by
    cases h with
    | lst hs ha => exact .lst (e.seq hs) (dpAll_mono e ds _ ha)
  | .tuple ds, _, h => by
    cases h with
    | tup hs ha => exact .tup (same_t e hs) (dpAll_mono e ds _ ha)
  | .dict _, _, h => by cases h
theorem dpAll_mono {K : PySem.W.Frag} {G G' : Hp} (e : Same G G') : ∀ (ds : List PyData) (vs : List V), DpAll K G vs ds → DpAll K G' vs ds
  | [], _, h => by cases h; exact .nil
  | d :: ds, _, h => by
    cases h with
    | cons h1 h2 => exact .cons (dp_mono e d _ h1) (dpAll_mono e ds _ h2)
end

theorem dpAll_length {K : PySem.W.Frag} {G : Hp} : ∀ {vs : List V} {ds : List PyData}, DpAll K G vs ds → vs.length = ds.length
  | _, _, .nil => rfl
  | _, _, .cons _ t => by rw [List.length_cons, List.length_cons, dpAll_length t]
theorem dpAll_get {K : PySem.W.Frag} {G : Hp} : ∀ {vs : List V} {ds : List PyData} {i : Nat} {d : PyData}, DpAll K G vs ds → ds[i]? = some d → ∃ v, vs[i]? = some v ∧ Dp K G v d
  | _, _, _, _, .nil, e => by simp at e
  | _, _, 0, _, .cons r _, e => by simp at e; subst e; exact ⟨_, rfl, r⟩
  | _, _, i + 1, d, .cons _ t, e => by
    obtain ⟨v, h1, h2⟩ := dpAll_get (i := i) (d := d) t (by simpa using e)
    exact ⟨v, by simpa using h1, h2⟩
theorem dpAll_app {K : PySem.W.Frag} {G : Hp} : ∀ {vs us : List V} {ds es : List PyData}, DpAll K G vs ds → DpAll K G us es → DpAll K G (vs ++ us) (ds ++ es)
  | _, _, _, _, .nil, s => s
  | _, _, _, _, .cons r t, s => .cons r (dpAll_app t s)
theorem dpAll_one {K : PySem.W.Frag} {G : Hp} {v : V} {d : PyData} (h : Dp K G v d) : DpAll K G [v] [d] := .cons h .nil
theorem dpAll_take {K : PySem.W.Frag} {G : Hp} : ∀ {vs : List V} {ds : List PyData} (n : Nat), DpAll K G vs ds → DpAll K G (vs.take n) (ds.take n)
  | _, _, 0, _ => by rw [List.take_zero, List.take_zero]; exact .nil
  | _, _, _ + 1, .nil => .nil
  | _, _, n + 1, .cons r t => .cons r (dpAll_take n t)
theorem dpAll_drop {K : PySem.W.Frag} {G : Hp} : ∀ {vs : List V} {ds : List PyData} (n : Nat), DpAll K G vs ds → DpAll K G (vs.drop n) (ds.drop n)
  | _, _, 0, r => r
  | _, _, _ + 1, .nil => .nil
  | _, _, n + 1, .cons _ t => dpAll_drop n t
theorem dpAll_erase {K : PySem.W.Frag} {G : Hp} : ∀ {vs : List V} {ds : List PyData} (n : Nat), DpAll K G vs ds → DpAll K G (vs.eraseIdx n) (ds.eraseIdx n)
  | _, _, _, .nil => .nil
  | _, _, 0, .cons _ t => t
  | _, _, n + 1, .cons r t => .cons r (dpAll_erase n t)
theorem dpAll_rev {K : PySem.W.Frag} {G : Hp} : ∀ {vs : List V} {ds : List PyData}, DpAll K G vs ds → DpAll K G vs.reverse ds.reverse
  | _, _, .nil => .nil
  | _, _, .cons r t => by
    rw [List.reverse_cons, List.reverse_cons]
    exact dpAll_app (dpAll_rev t) (dpAll_one r)
theorem dpAll_rep {K : PySem.W.Frag} {G : Hp} {vs : List V} {ds : List PyData} (h : DpAll K G vs ds) : ∀ n : Nat, DpAll K G (List.replicate n vs).flatten (List.replicate n ds).flatten
  | 0 => .nil
  | n + 1 => by
    rw [List.replicate_succ, List.replicate_succ, List.flatten_cons, List.flatten_cons]
    exact dpAll_app h (dpAll_rep h n)

/-- (G, H) has grown to (G', H'): G is the part that stands still for ever; what H knew is kept, and nothing of it was stilled -/
structure Grow (G H G' H' : Hp) : Prop where
  h : Same H H'
  g : Same G G'
  gh : Same G' H'
  old : ∀ a, H a ≠ none → G' a = G a
theorem Grow.refl {G H : Hp} (e : Same G H) : Grow G H G H := ⟨Same.refl H, Same.refl G, e, fun _ _ => rfl⟩
theorem Grow.trans {G H G1 H1 G2 H2 : Hp} (a : Grow G H G1 H1) (b : Grow G1 H1 G2 H2) : Grow G H G2 H2 where
  h := a.h.trans b.h
  g := a.g.trans b.g
  gh := b.gh
  old := fun x hx => by
    rw [← a.old x hx]
    refine b.old x fun z => hx ?_
    exact a.h.free z
/-- a new object that is stilled at once -/
theorem Grow.still {G H : Hp} {p : Addr} {o : HO} (e : Same G H) (hp : H p = none) : Grow G H (upd G p o) (upd H p o) where
  h := fun a u ha => by rw [upd_ne (ne_of_none ha hp)]; exact ha
  g := fun a u ha => by rw [upd_ne (ne_of_none (e a u ha) hp)]; exact ha
  gh := fun a u ha => by
    by_cases q : a = p
    · subst q; rw [upd_same] at ha ⊢; exact ha
    · rw [upd_ne q] at ha ⊢; exact e a u ha
  old := fun a ha => upd_ne fun q => ha (q ▸ hp)
/-- a new object that is not stilled -/
theorem Grow.fresh {G H : Hp} {p : Addr} {o : HO} (e : Same G H) (hp : H p = none) : Grow G H G (upd H p o) where
  h := fun a u ha => by rw [upd_ne (ne_of_none ha hp)]; exact ha
  g := Same.refl G
  gh := fun a u ha => by rw [upd_ne (ne_of_none (e a u ha) hp)]; exact e a u ha
  old := fun _ _ => rfl
/-- .. stilled later -/
theorem Grow.freeze {G H G' H' : Hp} {p : Addr} {o : HO} (g : Grow G H G' H') (hp : H p = none) (hg : G' p = none) (ho : H' p = some o) : Grow G H (upd G' p o) H' where
  h := g.h
  g := fun a u ha => by rw [upd_ne (ne_of_none (g.g a u ha) hg)]; exact g.g a u ha
  gh := fun a u ha => by
    by_cases q : a = p
    · subst q; rw [upd_same] at ha; rw [ho]; exact ha
    · rw [upd_ne q] at ha; exact g.gh a u ha
  old := fun a ha => by rw [upd_ne (show a ≠ p from fun q => ha (q ▸ hp))]; exact g.old a ha
theorem same_new {H : Hp} {p : Addr} {o : HO} (h : H p = none) : Same H (upd H p o) := fun b x e => by
  rw [upd_ne (ne_of_none e h)]
  exact e
theorem some_ne_none {H : Hp} {a : Addr} {o : HO} (h : H a = some o) : H a ≠ none := fun z => by rw [h] at z; cases z

/-! ### what the slots hold -/
/-- the object of a dict whose keys are nested tuples, told by its entries -/
def RawD (P : Program) (w : World) (h : Heap) (p : Addr) (xs : List (NestedKey × Addr × V)) : Prop :=
  ∃ ys : List (NestedKey × Addr × Value), Paired (fun (x : NestedKey × Addr × V) (y : NestedKey × Addr × Value) => x.1 = y.1 ∧ x.2.1 = y.2.1 ∧ RelV x.2.2 y.2.2) xs ys ∧
    ∃ o es ep, h.get? p = some o ∧ o.ExactDict ∧ o.data = .dict es ep ∧ es.toList = ys.map (entryOfKey (nestedKind P w)) ∧ (ys.map (·.1)).Nodup
def DctO (P : Program) (w : World) (p : Addr) (xs : List (NestedKey × Addr × V)) : HO := .ext fun h => RawD P w h p xs
/-- a dict of one's own at p -/
def DctAt (P : Program) (w : World) (K : PySem.W.Frag) (G H : Hp) (p : Addr) (kvs : List (NestedKey × PyData)) : Prop :=
  ∃ xs : List (NestedKey × Addr × V), H p = some (DctO P w p xs) ∧ (p == sysModules) = false ∧
    Paired (fun (x : NestedKey × Addr × V) (y : NestedKey × PyData) => x.1 = y.1 ∧ x.1.depth ≤ 8 ∧ Dp K G (.ref x.2.1) x.1.data ∧ Dp K G x.2.2 y.2) xs kvs
def SlOk (P : Program) (w : World) (K : PySem.W.Frag) (H0 G H : Hp) (v : V) : SV → Prop
  | .dat d => Dp K G v d
  | .own ds => ∃ p vs, v = .ref p ∧ H0 p = none ∧ G p = none ∧ H p = some (.lst vs) ∧ DpAll K G vs ds
  | .dct kvs => ∃ p, v = .ref p ∧ H0 p = none ∧ G p = none ∧ DctAt P w K G H p kvs
theorem DctAt.grow {P : Program} {w : World} {K : PySem.W.Frag} {G H G' H' : Hp} {p : Addr} {kvs : List (NestedKey × PyData)} (g : Same G G') (h : ∀ o, H p = some o → H' p = some o) (x : DctAt P w K G H p kvs) : DctAt P w K G' H' p kvs := by
  obtain ⟨xs, h1, h2, h3⟩ := x
  exact ⟨xs, h _ h1, h2, Paired.mapP h3 fun a b ⟨e1, e2, e3, e4⟩ => ⟨e1, e2, dp_mono g _ _ e3, dp_mono g _ _ e4⟩⟩
/-- a slot stays known while its own object stays and nothing of one's own is stilled -/
theorem SlOk.grow {P : Program} {w : World} {K : PySem.W.Frag} {H0 G H G' H' : Hp} {v : V} {s : SV} (x : SlOk P w K H0 G H v s) (g : Same G G') (h : s.mu = true → ∀ p o, v = .ref p → H p = some o → H' p = some o ∧ G' p = G p) : SlOk P w K H0 G' H' v s := by
  cases s with
  | dat d => exact dp_mono g _ _ x
  | own ds =>
    obtain ⟨p, vs, e, h0, hg, hh, hd⟩ := x
    obtain ⟨h1, h2⟩ := h rfl p _ e hh
    exact ⟨p, vs, e, h0, h2.trans hg, h1, dpAll_mono g _ _ hd⟩
  | dct kvs =>
    obtain ⟨p, e, h0, hg, hd⟩ := x
    obtain ⟨xs, h1, _⟩ := id hd
    obtain ⟨h3, h2⟩ := h rfl p _ e h1
    exact ⟨p, e, h0, h2.trans hg, hd.grow g fun o q => (h rfl p o e q).1⟩

structure OkG (P : Program) (w : World) (K : PySem.W.Frag) (G0 H0 G : Hp) (env : En) (σ : L2.St) (H : Hp) : Prop where
  gr : Grow G0 H0 G H
  len : env.length = σ.length
  sl : ∀ (i : Nat) s, env[i]? = some (some s) → ∃ v, σ[i]? = some (some v) ∧ SlOk P w K H0 G H v s
  ap : ∀ (i j : Nat) s t u, env[i]? = some (some s) → env[j]? = some (some t) → s.mu = true → t.mu = true → σ[i]? = some (some u) → σ[j]? = some (some u) → i = j
section
variable {P : Program} {w : World} {K : PySem.W.Frag} {G0 H0 G H G' H' : Hp} {env : En} {σ : L2.St}
theorem OkG.gh (x : OkG P w K G0 H0 G env σ H) : Same G H := x.gr.gh
theorem OkG.grow (x : OkG P w K G0 H0 G env σ H) (g : Grow G H G' H') : OkG P w K G0 H0 G' env σ H' where
  gr := x.gr.trans g
  len := x.len
  sl := fun i s e => by
    obtain ⟨v, h1, h2⟩ := x.sl i s e
    exact ⟨v, h1, h2.grow g.g fun _ p o _ q => ⟨g.h _ _ q, g.old p (some_ne_none q)⟩⟩
  ap := x.ap
/-- a slot's value is of one's own: where it stands -/
theorem SlOk.own_ref {H0 G H : Hp} {v : V} {s : SV} (x : SlOk P w K H0 G H v s) (m : s.mu = true) : ∃ p o, v = .ref p ∧ H0 p = none ∧ G p = none ∧ H p = some o := by
  cases s with
  | dat d => cases m
  | own ds => obtain ⟨p, vs, e, h0, hg, hh, _⟩ := x; exact ⟨p, _, e, h0, hg, hh⟩
  | dct kvs => obtain ⟨p, e, h0, hg, xs, hh, _⟩ := x; exact ⟨p, _, e, h0, hg, hh⟩
/-- data put into a slot -/
theorem OkG.dat (x : OkG P w K G0 H0 G env σ H) {i : Nat} {v : V} {d : PyData} (h : Dp K G v d) : OkG P w K G0 H0 G (env.set i (some (.dat d))) (σ.set i (some v)) H where
  gr := x.gr
  len := by rw [List.length_set, List.length_set]; exact x.len
  sl := fun j s e => by
    by_cases hj : i = j
    · subst hj
      by_cases hi : i < env.length
      · rw [List.getElem?_set_self hi] at e
        cases e
        exact ⟨v, List.getElem?_set_self (by rw [← x.len]; exact hi), h⟩
      · rw [List.getElem?_eq_none (by rw [List.length_set]; omega)] at e; cases e
    · rw [List.getElem?_set_ne hj] at e ⊢
      exact x.sl j s e
  ap := fun j k s t u h1 h2 m1 m2 e1 e2 => by
    have nj : i ≠ j := fun q => by
      subst q
      by_cases hi : i < env.length
      · rw [List.getElem?_set_self hi] at h1; cases h1; cases m1
      · rw [List.getElem?_eq_none (by rw [List.length_set]; omega)] at h1; cases h1
    have nk : i ≠ k := fun q => by
      subst q
      by_cases hi : i < env.length
      · rw [List.getElem?_set_self hi] at h2; cases h2; cases m2
      · rw [List.getElem?_eq_none (by rw [List.length_set]; omega)] at h2; cases h2
    rw [List.getElem?_set_ne nj] at h1 e1
    rw [List.getElem?_set_ne nk] at h2 e2
    exact x.ap j k s t u h1 h2 m1 m2 e1 e2
/-- a thing of one's own put into a slot: no other slot of one's own has its address -/
theorem OkG.put (x : OkG P w K G0 H0 G env σ H) {i : Nat} {p : Addr} {s : SV} (h : SlOk P w K H0 G H (.ref p) s) (hn : ∀ (j : Nat) t, j ≠ i → env[j]? = some (some t) → t.mu = true → σ[j]? ≠ some (some (.ref p))) :
    OkG P w K G0 H0 G (env.set i (some s)) (σ.set i (some (.ref p))) H where
  gr := x.gr
  len := by rw [List.length_set, List.length_set]; exact x.len
  sl := fun j t e => by
    by_cases hj : i = j
    · subst hj
      by_cases hi : i < env.length
      · rw [List.getElem?_set_self hi] at e
        cases e
        exact ⟨_, List.getElem?_set_self (by rw [← x.len]; exact hi), h⟩
      · rw [List.getElem?_eq_none (by rw [List.length_set]; omega)] at e; cases e
    · rw [List.getElem?_set_ne hj] at e ⊢
      exact x.sl j t e
  ap := fun j k s' t u h1 h2 m1 m2 e1 e2 => by
    have lt : ∀ {a : Nat} {r : SV}, (env.set i (some s))[a]? = some (some r) → a < env.length := fun {a r} q => by
      have := (List.getElem?_eq_some_iff.mp q).1
      rw [List.length_set] at this; exact this
    by_cases hj : i = j
    · by_cases hk : i = k
      · rw [← hj, ← hk]
      · subst hj
        rw [List.getElem?_set_self (by rw [← x.len]; exact lt h1)] at e1
        cases e1
        rw [List.getElem?_set_ne hk] at h2 e2
        exact absurd e2 (hn k t (Ne.symm hk) h2 m2)
    · rw [List.getElem?_set_ne hj] at h1 e1
      by_cases hk : i = k
      · subst hk
        rw [List.getElem?_set_self (by rw [← x.len]; exact lt h2)] at e2
        cases e2
        exact absurd e1 (hn j s' (Ne.symm hj) h1 m1)
      · rw [List.getElem?_set_ne hk] at h2 e2
        exact x.ap j k s' t u h1 h2 m1 m2 e1 e2
/-- an object of one's own changes: the slot i and its object -/
theorem OkG.mut (x : OkG P w K G0 H0 G env σ H) {i : Nat} {p : Addr} {s s' : SV} {o' : HO} (hi : env[i]? = some (some s)) (hs : s.mu = true) (hv : σ[i]? = some (some (.ref p))) (h0 : H0 p = none) (hg : G p = none)
    (h : SlOk P w K H0 G (upd H p o') (.ref p) s') : OkG P w K G0 H0 G (env.set i (some s')) σ (upd H p o') where
  gr := ⟨fun a o e => by rw [upd_ne (ne_of_none e h0)]; exact x.gr.h a o e, x.gr.g, fun a o e => by rw [upd_ne (ne_of_none e hg)]; exact x.gr.gh a o e, x.gr.old⟩
  len := by rw [List.length_set]; exact x.len
  sl := fun j t e => by
    by_cases hj : i = j
    · subst hj
      rw [List.getElem?_set_self (List.getElem?_eq_some_iff.mp hi).1] at e
      cases e
      exact ⟨_, hv, h⟩
    · rw [List.getElem?_set_ne hj] at e
      obtain ⟨v, h1, h2⟩ := x.sl j t e
      refine ⟨v, h1, h2.grow (Same.refl G) fun m q o eq hq => ⟨?_, rfl⟩⟩
      rw [upd_ne]
      · exact hq
      · rintro rfl
        rw [eq] at h1
        exact hj (x.ap i j s t _ hi e hs m hv h1)
  ap := fun j k s1 t u h1 h2 m1 m2 e1 e2 => by
    have pick : ∀ {a : Nat} {r : SV}, (env.set i (some s'))[a]? = some (some r) → r.mu = true → ∃ r', env[a]? = some (some r') ∧ r'.mu = true := fun {a r} q m => by
      by_cases ha : i = a
      · subst ha; exact ⟨s, hi, hs⟩
      · rw [List.getElem?_set_ne ha] at q; exact ⟨r, q, m⟩
    obtain ⟨r1, q1, n1⟩ := pick h1 m1
    obtain ⟨r2, q2, n2⟩ := pick h2 m2
    exact x.ap j k r1 r2 u q1 q2 n1 n2 e1 e2
/-- forgetting slots -/
theorem OkG.less (x : OkG P w K G0 H0 G env σ H) {env' : En} {σ' : L2.St} (hl : env'.length = σ'.length) (h : ∀ (i : Nat) s, env'[i]? = some (some s) → env[i]? = some (some s) ∧ σ'[i]? = σ[i]?) : OkG P w K G0 H0 G env' σ' H where
  gr := x.gr
  len := hl
  sl := fun i s e => by
    obtain ⟨e1, e2⟩ := h i s e
    rw [e2]; exact x.sl i s e1
  ap := fun i j s t u h1 h2 m1 m2 e1 e2 => by
    obtain ⟨q1, z1⟩ := h i s h1
    obtain ⟨q2, z2⟩ := h j t h2
    rw [z1] at e1; rw [z2] at e2
    exact x.ap i j s t u q1 q2 m1 m2 e1 e2
/-- a list of one's own is stilled -/
def frz (i : Nat) (env : En) : En := match env[i]? with
  | some (some (.own ds)) => env.set i (some (.dat (.list ds)))
  | _ => env
theorem OkG.frz (x : OkG P w K G0 H0 G env σ H) (i : Nat) : ∃ G', Same G G' ∧ OkG P w K G0 H0 G' (frz i env) σ H := by
  unfold GL.frz
  split
  · rename_i ds hi
    obtain ⟨v, hv, p, vs, rfl, h0, hg, hh, hd⟩ := x.sl i _ hi
    refine ⟨upd G p (.lst vs), same_new hg, ?_⟩
    have g1 : Same G (upd G p (.lst vs)) := same_new hg
    refine ⟨x.gr.freeze h0 hg hh, by rw [List.length_set]; exact x.len, fun j s e => ?_, fun j k s t u h1 h2 m1 m2 e1 e2 => ?_⟩
    · by_cases hj : i = j
      · subst hj
        rw [List.getElem?_set_self (List.getElem?_eq_some_iff.mp hi).1] at e
        cases e
        exact ⟨_, hv, Dp.lst (.inl (.inl upd_same)) (dpAll_mono g1 _ _ hd)⟩
      · rw [List.getElem?_set_ne hj] at e
        obtain ⟨v', h1, h2⟩ := x.sl j s e
        refine ⟨v', h1, h2.grow g1 fun m q o eq hq => ⟨hq, upd_ne ?_⟩⟩
        rintro rfl
        rw [eq] at h1
        exact hj (x.ap i j _ s _ hi e rfl m hv h1)
    · have nj : ∀ {a : Nat} {r : SV}, (env.set i (some (.dat (.list ds))))[a]? = some (some r) → r.mu = true → env[a]? = some (some r) := fun {a r} q m => by
        by_cases ha : i = a
        · subst ha
          rw [List.getElem?_set_self (List.getElem?_eq_some_iff.mp hi).1] at q
          cases q; cases m
        · rw [List.getElem?_set_ne ha] at q; exact q
      exact x.ap j k s t u (nj h1 m1) (nj h2 m2) m1 m2 e1 e2
  · exact ⟨G, Same.refl G, x⟩
end
end GL

/-! # The data layer, part b: judgements, expressions -/
namespace GL
open PySem PySem.Spec PyProof.Rows L2

theorem pe_imp {X : Cx} {e : Expr} {t t' : TE} (h : PE X e t) (i : ∀ σ H Q, t' σ H Q → t σ H Q) : PE X e t' := ⟨fun pins s σ H Q I q => h.run pins s σ H Q I (i σ H Q q)⟩
theorem pt_imp {X : Cx} {e : Expr} {t t' : TT} (h : PT X e t) (i : ∀ σ H Q, t' σ H Q → t σ H Q) : PT X e t' := ⟨fun pins s σ H Q I q => h.run pins s σ H Q I (i σ H Q q)⟩
theorem pw_imp {X : Cx} {e : Expr} {t t' : TT} (h : PW X e t) (i : ∀ σ H Q, t' σ H Q → t σ H Q) : PW X e t' := ⟨fun wh pins s σ H Q I q => h.run wh pins s σ H Q I (i σ H Q q)⟩
theorem pa_imp {X : Cx} {es : List Expr} {t t' : TA} (h : PA X es t) (i : ∀ σ H Q, t' σ H Q → t σ H Q) : PA X es t' := ⟨fun pos pins s σ H Q I q => h.run pos pins s σ H Q I (i σ H Q q)⟩

section
variable (P : Program) (w : World) (K : PySem.W.Frag) (W : WX) (cm : Str → Addr)
/-- what is wanted if an error of the class x is raised -/
def exP (σ : L2.St) (G H : Hp) : Str → Prop := fun x => ∀ G' H', Grow G H G' H' → W (.ref (cm x)) none σ H'
def tD (f : En → Res PyData) : TE := fun σ H Q => ∃ G0 H0 G env, OkG P w K G0 H0 G env σ H ∧ (f env).sat (fun d => ∀ v G' H', Grow G H G' H' → Dp K G' v d → Q v H') (exP W cm σ G H)
def tL (f : En → Res (List PyData)) : TE := fun σ H Q => ∃ G0 H0 G env, OkG P w K G0 H0 G env σ H ∧ (f env).sat (fun ds => ∀ p vs G' H', Grow G H G' H' → H p = none → G' p = none → H' p = some (.lst vs) → DpAll K G' vs ds → Q (.ref p) H') (exP W cm σ G H)
def SqB (K : PySem.W.Frag) (b : Bool) (G H : Hp) (a : Addr) (vs : List V) : Prop := if b = true then SqT K G a vs else SqL K H a vs
def tQ (f : En → Res (Bool × List PyData)) : TE := fun σ H Q => ∃ G0 H0 G env, OkG P w K G0 H0 G env σ H ∧ (f env).sat (fun q => ∀ a vs G' H', Grow G H G' H' → SqB K q.1 G' H' a vs → DpAll K G' vs q.2 → Q (.ref a) H') (exP W cm σ G H)
def tA (f : En → Res (List PyData)) : TA := fun σ H Q => ∃ G0 H0 G env, OkG P w K G0 H0 G env σ H ∧ (f env).sat (fun ds => ∀ vs G' H', Grow G H G' H' → DpAll K G' vs ds → Q vs H') (exP W cm σ G H)
def tT (f : En → Res Bool) : TT := fun σ H Q => ∃ G0 H0 G env, OkG P w K G0 H0 G env σ H ∧ (f env).sat (fun b => ∀ G' H', Grow G H G' H' → Q b H') (exP W cm σ G H)
end
abbrev DE (X : Cx) (W : WX) (cm : Str → Addr) (e : Expr) (f : En → Res PyData) : Prop := PE X e (tD X.prog X.w X.K W cm f)
abbrev DL (X : Cx) (W : WX) (cm : Str → Addr) (e : Expr) (f : En → Res (List PyData)) : Prop := PE X e (tL X.prog X.w X.K W cm f)
abbrev DQ (X : Cx) (W : WX) (cm : Str → Addr) (e : Expr) (f : En → Res (Bool × List PyData)) : Prop := PE X e (tQ X.prog X.w X.K W cm f)
abbrev DA (X : Cx) (W : WX) (cm : Str → Addr) (es : List Expr) (f : En → Res (List PyData)) : Prop := PA X es (tA X.prog X.w X.K W cm f)
abbrev DT (X : Cx) (W : WX) (cm : Str → Addr) (e : Expr) (f : En → Res Bool) : Prop := PT X e (tT X.prog X.w X.K W cm f)
abbrev DW (X : Cx) (W : WX) (cm : Str → Addr) (e : Expr) (f : En → Res Bool) : Prop := PW X e (tT X.prog X.w X.K W cm f)

section
variable {P : Program} {w : World} {K : PySem.W.Frag} {W : WX} {cm : Str → Addr} {G0 H0 G H G1 H1 : Hp} {env : En} {σ : L2.St} {α : Type}
theorem exP.grow {x : Str} (g : Grow G H G1 H1) (h : exP W cm σ G H x) : exP W cm σ G1 H1 x := fun G' H' g' => h G' H' (g.trans g')
theorem tD.go {f : En → Res PyData} {Q : VK} (ok : OkG P w K G0 H0 G env σ H) (h : (f env).sat (fun d => ∀ v G' H', Grow G H G' H' → OkG P w K G0 H0 G' env σ H' → Dp K G' v d → Q v H') (exP W cm σ G H)) : tD P w K W cm f σ H Q :=
  ⟨G0, H0, G, env, ok, h.imp (fun _ _ q v G' H' g dp => q v G' H' g (ok.grow g) dp) fun _ q => q⟩
theorem tL.go {f : En → Res (List PyData)} {Q : VK} (ok : OkG P w K G0 H0 G env σ H) (h : (f env).sat (fun ds => ∀ p vs G' H', Grow G H G' H' → OkG P w K G0 H0 G' env σ H' → H p = none → G' p = none → H' p = some (.lst vs) → DpAll K G' vs ds → Q (.ref p) H') (exP W cm σ G H)) : tL P w K W cm f σ H Q :=
  ⟨G0, H0, G, env, ok, h.imp (fun _ _ q v vs G' H' g h1 h2 h3 dp => q v vs G' H' g (ok.grow g) h1 h2 h3 dp) fun _ q => q⟩
theorem tQ.go {f : En → Res (Bool × List PyData)} {Q : VK} (ok : OkG P w K G0 H0 G env σ H) (h : (f env).sat (fun q => ∀ a vs G' H', Grow G H G' H' → OkG P w K G0 H0 G' env σ H' → SqB K q.1 G' H' a vs → DpAll K G' vs q.2 → Q (.ref a) H') (exP W cm σ G H)) : tQ P w K W cm f σ H Q :=
  ⟨G0, H0, G, env, ok, h.imp (fun _ _ q v vs G' H' g s dp => q v vs G' H' g (ok.grow g) s dp) fun _ q => q⟩
theorem tA.go {f : En → Res (List PyData)} {Q : List V → Hp → Prop} (ok : OkG P w K G0 H0 G env σ H) (h : (f env).sat (fun ds => ∀ vs G' H', Grow G H G' H' → OkG P w K G0 H0 G' env σ H' → DpAll K G' vs ds → Q vs H') (exP W cm σ G H)) : tA P w K W cm f σ H Q :=
  ⟨G0, H0, G, env, ok, h.imp (fun _ _ q v G' H' g dp => q v G' H' g (ok.grow g) dp) fun _ q => q⟩
theorem tT.go {f : En → Res Bool} {Q : Bool → Hp → Prop} (ok : OkG P w K G0 H0 G env σ H) (h : (f env).sat (fun b => ∀ G' H', Grow G H G' H' → OkG P w K G0 H0 G' env σ H' → Q b H') (exP W cm σ G H)) : tT P w K W cm f σ H Q :=
  ⟨G0, H0, G, env, ok, h.imp (fun _ _ q G' H' g => q G' H' g (ok.grow g)) fun _ q => q⟩
end

/-! ### names, constants -/
def fVar (i : Nat) : En → Res PyData := fun env => match env[i]? with
  | some (some (.dat d)) => .ok d
  | _ => .no
def fC (d : PyData) : En → Res PyData := fun _ => .ok d
section
variable {X : Cx} {W : WX} {cm : Str → Addr}
theorem de_v (i : Nat) {x : Str} {pos : Pos} (hN : X.N[i]? = some x := by rfl) (hv : Vis X.env.scope x := by first | exact Or.inl rfl | exact Or.inr (Or.inl rfl) | exact Or.inr (Or.inr rfl)) (hd : (x == ("__debug__" : Str)) = false := by decide)
    (hcd : (x == ("__classdict__" : Str)) = false := by decide) : DE X W cm (.Name x pos) (fVar i) :=
  pe_imp (pe_var hN hv hd hcd) fun σ H Q h => by
    obtain ⟨G0, H0, G, env, ok, h⟩ := h
    unfold fVar at h
    split at h
    · rename_i d hi
      obtain ⟨v, hv, dp⟩ := ok.sl i _ hi
      exact ⟨v, hv, h v G H (Grow.refl ok.gh) dp⟩
    · exact h.elim
theorem de_c {e : Expr} {d : PyData} {v : V} (h : PE X e (tC v)) (dp : ∀ G, Dp X.K G v d) : DE X W cm e (fC d) :=
  pe_imp h fun σ H Q q => by
    obtain ⟨G0, H0, G, env, ok, q⟩ := q
    exact q v G H (Grow.refl ok.gh) (dp G)
theorem de_int {i j pos} : DE X W cm (.Constant (.int i) j pos) (fC (.int i)) := de_c pe_int fun _ => .int i
theorem de_bl {b j pos} : DE X W cm (.Constant (.bool b) j pos) (fC (.bool b)) := de_c pe_bl fun _ => .bl b
theorem de_non {j pos} : DE X W cm (.Constant .none j pos) (fC .none) := de_c pe_non fun _ => .non
theorem de_str {x j pos} : DE X W cm (.Constant (.str x) j pos) (fC (.str x)) := de_c pe_str fun _ => .str x
/-- a module's constant: a text, an int -/
theorem de_globS {x y : Str} {t : Tok} {pos : Pos} (hg : Gl X x) (hm : X.mg x = some (.str y t)) (hd : (x == ("__debug__" : Str)) = false := by decide) : DE X W cm (.Name x pos) (fC (.str y)) := de_c (pe_glob (v := .str y) hg hm ⟨_, rfl⟩ hd) fun _ => .str y
theorem de_globI {x : Str} {i : Int} {t : Tok} {pos : Pos} (hg : Gl X x) (hm : X.mg x = some (.int i t)) (hd : (x == ("__debug__" : Str)) = false := by decide) : DE X W cm (.Name x pos) (fC (.int i)) := de_c (pe_glob (v := .int i) hg hm ⟨_, rfl⟩ hd) fun _ => .int i
/-- a fresh list as data -/
def fLst (f : En → Res (List PyData)) : En → Res PyData := fun env => (f env).map .list
theorem de_l {e : Expr} {f : En → Res (List PyData)} (h : DL X W cm e f) : DE X W cm e (fLst f) :=
  pe_imp h fun σ H Q q => by
    obtain ⟨G0, H0, G, env, ok, q⟩ := q
    refine tL.go ok ((Res.sat_map.mp q).imp (fun ds _ k p vs G' H' g _ h1 h2 h3 da => ?_) fun _ z => z)
    exact k _ _ _ (g.freeze h1 h2 h3) (.lst (.inl (.inl upd_same)) (dpAll_mono (same_new h2) _ _ da))
/-- a sequence to be read: a name, or data -/
def fQV (i : Nat) : En → Res (Bool × List PyData) := fun env => match env[i]? with
  | some (some (.own ds)) => .ok (false, ds)
  | some (some (.dat (.list ds))) => .ok (false, ds)
  | some (some (.dat (.tuple ds))) => .ok (true, ds)
  | _ => .no
def asQ : PyData → Res (Bool × List PyData)
  | .list ds => .ok (false, ds)
  | .tuple ds => .ok (true, ds)
  | _ => .no
def fQ (f : En → Res PyData) : En → Res (Bool × List PyData) := fun env => (f env).bind asQ
theorem sqb_l {K : PySem.W.Frag} {G H : Hp} {a : Addr} {vs : List V} (h : SqL K H a vs) : SqB K false G H a vs := by
  unfold SqB; rw [if_neg Bool.false_ne_true]; exact h
theorem sqb_t {K : PySem.W.Frag} {G H : Hp} {a : Addr} {vs : List V} (h : SqT K G a vs) : SqB K true G H a vs := by
  unfold SqB; rw [if_pos rfl]; exact h
theorem SqB.l {K : PySem.W.Frag} {G H : Hp} {a : Addr} {vs : List V} (h : SqB K false G H a vs) : SqL K H a vs := by
  unfold SqB at h; rw [if_neg Bool.false_ne_true] at h; exact h
theorem SqB.t {K : PySem.W.Frag} {G H : Hp} {a : Addr} {vs : List V} (h : SqB K true G H a vs) : SqT K G a vs := by
  unfold SqB at h; rw [if_pos rfl] at h; exact h
theorem SqB.or {K : PySem.W.Frag} {G H : Hp} {a : Addr} {vs : List V} {b : Bool} (gh : Same G H) (h : SqB K b G H a vs) : SqL K H a vs ∨ SqT K H a vs := by
  cases b with
  | true => exact .inr (same_t gh h.t)
  | false => exact .inl h.l
theorem SqB.same {K : PySem.W.Frag} {G H G' H' : Hp} {a : Addr} {vs : List V} {b : Bool} (g : Same G G') (e : Same H H') (h : SqB K b G H a vs) : SqB K b G' H' a vs := by
  cases b with
  | true => exact sqb_t (same_t g h.t)
  | false => exact sqb_l (e.seq h.l)
theorem dp_sq {K : PySem.W.Frag} {G : Hp} {v : V} {d : PyData} {q : Bool × List PyData} (h : Dp K G v d) (e : asQ d = .ok q) : ∃ a vs, v = .ref a ∧ SqB K q.1 G G a vs ∧ DpAll K G vs q.2 := by
  cases d with
  | list ds =>
    cases h with
    | lst hs ha => cases e; exact ⟨_, _, rfl, sqb_l hs, ha⟩
  | tuple ds =>
    cases h with
    | tup hs ha => cases e; exact ⟨_, _, rfl, sqb_t hs, ha⟩
  | _ => cases e
theorem dq_v (i : Nat) {x : Str} {pos : Pos} (hN : X.N[i]? = some x := by rfl) (hv : Vis X.env.scope x := by first | exact Or.inl rfl | exact Or.inr (Or.inl rfl) | exact Or.inr (Or.inr rfl)) (hd : (x == ("__debug__" : Str)) = false := by decide)
    (hcd : (x == ("__classdict__" : Str)) = false := by decide) : DQ X W cm (.Name x pos) (fQV i) :=
  pe_imp (pe_var hN hv hd hcd) fun σ H Q h => by
    obtain ⟨G0, H0, G, env, ok, h⟩ := h
    unfold fQV at h
    split at h
    · rename_i ds hi
      obtain ⟨v, hv, p, vs, rfl, _, _, hh, da⟩ := ok.sl i _ hi
      exact ⟨_, hv, h p vs G H (Grow.refl ok.gh) (sqb_l (.inl (.inl hh))) da⟩
    · rename_i ds hi
      obtain ⟨v, hv, dp⟩ := ok.sl i _ hi
      cases dp with
      | lst hs ha => exact ⟨_, hv, h _ _ G H (Grow.refl ok.gh) (sqb_l (ok.gh.seq hs)) ha⟩
    · rename_i ds hi
      obtain ⟨v, hv, dp⟩ := ok.sl i _ hi
      cases dp with
      | tup hs ha => exact ⟨_, hv, h _ _ G H (Grow.refl ok.gh) (sqb_t hs) ha⟩
    · exact h.elim
theorem dq_e {e : Expr} {f : En → Res PyData} (h : DE X W cm e f) : DQ X W cm e (fQ f) :=
  pe_imp h fun σ H Q q => by
    obtain ⟨G0, H0, G, env, ok, q⟩ := q
    refine tD.go ok ((Res.sat_bind.mp q).imp (fun d _ k v G' H' g ok' dp => ?_) fun _ z => z)
    cases e : asQ d with
    | ok r =>
      rw [e] at k
      obtain ⟨a, vs, rfl, hs, da⟩ := dp_sq dp e
      exact k a vs G' H' g (hs.same (Same.refl G') g.gh) da
    | ex x => cases d <;> cases e
    | no => rw [e] at k; exact k.elim
def fQL (f : En → Res (List PyData)) : En → Res (Bool × List PyData) := fun env => (f env).map fun ds => (false, ds)
theorem dq_l {e : Expr} {f : En → Res (List PyData)} (h : DL X W cm e f) : DQ X W cm e (fQL f) :=
  pe_imp h fun σ H Q q => by
    obtain ⟨G0, H0, G, env, ok, q⟩ := q
    refine tL.go ok ((Res.sat_map.mp q).imp (fun ds _ k p vs G' H' g _ h1 h2 h3 da => ?_) fun _ z => z)
    exact k _ _ _ _ g (sqb_l (.inl (.inl h3))) da
end

/-! ### argument lists, displays -/
def fNil : En → Res (List PyData) := fun _ => .ok []
def fCons (f : En → Res PyData) (g : En → Res (List PyData)) : En → Res (List PyData) := fun env => (f env).bind fun d => (g env).map fun ds => d :: ds
def fTup (f : En → Res (List PyData)) : En → Res PyData := fun env => (f env).bind fun ds => if ds.length ≤ 1000 then .ok (.tuple ds) else .no
def fDsp (f : En → Res (List PyData)) : En → Res (List PyData) := fun env => (f env).bind fun ds => if ds.length ≤ 1000 then .ok ds else .no
theorem le1000 {n : Nat} (h : n ≤ 1000) : n ≤ sizeLine := Nat.le_trans h (by decide)
section
variable {X : Cx} {W : WX} {cm : Str → Addr}
theorem da_nil : DA X W cm [] fNil := pa_imp pa_nil fun σ H Q q => by
  obtain ⟨G0, H0, G, env, ok, q⟩ := q
  exact q [] G H (Grow.refl ok.gh) .nil
theorem da_cons {e : Expr} {es : List Expr} {f : En → Res PyData} {g : En → Res (List PyData)} (ha : DE X W cm e f) (hr : DA X W cm es g) (hs : starEach (e :: es) X.env = (false, eval e X.env) :: starEach es X.env := by rfl) : DA X W cm (e :: es) (fCons f g) :=
  pa_imp (pa_cons ha hr hs) fun σ H Q q => by
    obtain ⟨G0, H0, G, env, ok, q⟩ := q
    refine tD.go ok ((Res.sat_bind.mp q).imp (fun d _ k v G1 H1 g1 ok1 dp => ?_) fun _ z => z)
    refine tA.go ok1 ((Res.sat_map.mp k).imp (fun ds _ k2 vs G2 H2 g2 ok2 da => ?_) fun _ z => z.grow g1)
    exact k2 (v :: vs) G2 H2 (g1.trans g2) (.cons (dp_mono g2.g _ _ dp) da)
theorem de_tup {es : List Expr} {f : En → Res (List PyData)} {x1} {pos : Pos} (h : DA X W cm es f) : DE X W cm (.Tuple es x1 pos) (fTup f) :=
  pe_imp (pe_tup h) fun σ H Q q => by
    obtain ⟨G0, H0, G, env, ok, q⟩ := q
    refine tA.go ok ((Res.sat_bind.mp q).imp (fun ds _ k vs G1 H1 g1 ok1 da => ?_) fun _ z => z)
    split at k
    · rename_i hl
      refine ⟨by rw [dpAll_length da]; exact le1000 hl, fun p hp => k _ _ _ (g1.trans (Grow.still ok1.gh hp)) (.tup (.inl (.inl upd_same)) (dpAll_mono (same_new (ok1.gh.free hp)) _ _ da))⟩
    · exact k.elim
theorem dl_lst {es : List Expr} {f : En → Res (List PyData)} {pos : Pos} (h : DA X W cm es f) : DL X W cm (.List es pos) (fDsp f) :=
  pe_imp (pe_lst h) fun σ H Q q => by
    obtain ⟨G0, H0, G, env, ok, q⟩ := q
    refine tA.go ok ((Res.sat_bind.mp q).imp (fun ds _ k vs G1 H1 g1 ok1 da => ?_) fun _ z => z)
    split at k
    · rename_i hl
      refine ⟨by rw [dpAll_length da]; exact le1000 hl, fun p hp => k _ vs G1 _ (g1.trans (Grow.fresh ok1.gh hp)) (g1.h.free hp) (ok1.gh.free hp) upd_same da⟩
    · exact k.elim

/-! ### operators -/
def f1 (o : PyData → Res PyData) (f : En → Res PyData) : En → Res PyData := fun env => (f env).bind o
def f2 (o : PyData → PyData → Res PyData) (f g : En → Res PyData) : En → Res PyData := fun env => (f env).bind fun d => (g env).bind fun e => o d e
/-- an operation on values that is one on data -/
def rDat (K : PySem.W.Frag) (o : PyData → PyData → Res PyData) : R2 := fun x y H Q => ∃ G d e r, Same G H ∧ Dp K G x d ∧ Dp K G y e ∧ o d e = .ok r ∧ ∀ v G' H', Grow G H G' H' → Dp K G' v r → Q v H'
def Never {α : Type} (r : Res α) : Prop := ∀ x, r ≠ .ex x
theorem sat_ok {α : Type} {r : Res α} {P : α → Prop} {E : Str → Prop} (n : Never r) (h : r.sat P E) : ∃ a, r = .ok a ∧ P a := by
  cases r with
  | ok a => exact ⟨a, rfl, h⟩
  | ex x => exact absurd rfl (n x)
  | no => exact h.elim
theorem t_op {P : Program} {w : World} {o : PyData → PyData → Res PyData} {K : PySem.W.Frag} {f g : En → Res PyData} (n : ∀ d e, Never (o d e)) {σ : L2.St} {H : Hp} {Q : VK} (q : tD P w K W cm (f2 o f g) σ H Q) :
    tOp (rDat K o) (tD P w K W cm f) (tD P w K W cm g) σ H Q := by
  obtain ⟨G0, H0, G, env, ok, q⟩ := q
  refine tD.go ok ((Res.sat_bind.mp q).imp (fun d _ k v G1 H1 g1 ok1 dp => ?_) fun _ z => z)
  refine tD.go ok1 ((Res.sat_bind.mp k).imp (fun e _ k2 u G2 H2 g2 ok2 dq => ?_) fun _ z => z.grow g1)
  obtain ⟨r, er, k3⟩ := sat_ok (n d e) k2
  exact ⟨G2, d, e, r, ok2.gh, dp_mono g2.g _ _ dp, dq, er, fun z G' H' g' dr => k3 z G' H' ((g1.trans g2).trans g') dr⟩
variable {a b c : Expr} {f g h : En → Res PyData} {pos : Pos}
theorem de_op {op : Operator} {o : PyData → PyData → Res PyData} (ho : OpR X (binaryOp op) (rDat X.K o)) (ha : DE X W cm a f) (hb : DE X W cm b g) (n : ∀ d e, Never (o d e)) : DE X W cm (.BinOp a op b pos) (f2 o f g) :=
  pe_imp (pe_op ho ha hb) fun σ H Q q => t_op n q
theorem de_cmpR {op : CmpOp} {o : PyData → PyData → Res PyData} (ho : OpR X (compareOp op) (rDat X.K o)) (ha : DE X W cm a f) (hb : DE X W cm b g) (hm : behindInMarks op b = false) (n : ∀ d e, Never (o d e)) : DE X W cm (.Compare a [op] [b] pos) (f2 o f g) :=
  pe_imp (pe_cmpR ho ha hb hm) fun σ H Q q => t_op n q
def isB : PyData → Res Bool
  | .bool b => .ok b
  | _ => .no
def fB (f : En → Res PyData) : En → Res Bool := fun env => (f env).bind isB
theorem t_test {P : Program} {w : World} {K : PySem.W.Frag} {f : En → Res PyData} {σ : L2.St} {H : Hp} {Q : Bool → Hp → Prop} (q : tT P w K W cm (fB f) σ H Q) : tD P w K W cm f σ H fun x H' => ∃ k, x = .bl k ∧ Q k H' := by
  obtain ⟨G0, H0, G, env, ok, q⟩ := q
  refine tD.go ok ((Res.sat_bind.mp q).imp (fun d _ k v G1 H1 g1 ok1 dp => ?_) fun _ z => z)
  cases d with
  | bool b =>
    cases dp
    exact ⟨b, rfl, k G1 H1 g1⟩
  | _ => exact k.elim
theorem t_opT {P : Program} {w : World} {o : PyData → PyData → Res PyData} {K : PySem.W.Frag} {f g : En → Res PyData} (n : ∀ d e, Never (o d e)) {σ : L2.St} {H : Hp} {Q : Bool → Hp → Prop} (q : tT P w K W cm (fB (f2 o f g)) σ H Q) :
    tTest (tOp (rDat K o) (tD P w K W cm f) (tD P w K W cm g)) σ H Q := t_op n (t_test q)
theorem dt_cmpR {op : CmpOp} {o : PyData → PyData → Res PyData} (ho : OpR X (compareOp op) (rDat X.K o)) (ha : DE X W cm a f) (hb : DE X W cm b g) (hm : behindInMarks op b = false) (n : ∀ d e, Never (o d e)) : DT X W cm (.Compare a [op] [b] pos) (fB (f2 o f g)) :=
  pt_imp (pt_cmpR ho ha hb hm) fun σ H Q q => t_opT n q
/-- an expression as a test, by its truth -/
def truD : PyData → Res Bool
  | .none => .ok false
  | .bool b => .ok b
  | .int i => .ok (i != 0)
  | .str y => if y.length ≤ sizeLine then .ok ((y.length : Int) != 0) else .no
  | .list ds => .ok (!ds.isEmpty)
  | .tuple ds => .ok (!ds.isEmpty)
  | .dict _ => .no
def fTru (f : En → Res PyData) : En → Res Bool := fun env => (f env).bind truD
theorem dpAll_isEmpty {K : PySem.W.Frag} {G : Hp} {vs : List V} {ds : List PyData} (h : DpAll K G vs ds) : (!ds.isEmpty) = !vs.isEmpty := by
  cases h <;> rfl
theorem truV_of {K : PySem.W.Frag} {G H : Hp} {v : V} {d : PyData} {k : Bool} (gh : Same G H) (h : Dp K G v d) (e : truD d = .ok k) : TruV K v H k := by
  cases d with
  | none => cases h; cases e; rfl
  | bool b => cases h; cases e; rfl
  | int i => cases h; cases e; rfl
  | str y =>
    cases h
    have e : (if y.length ≤ sizeLine then Res.ok ((y.length : Int) != 0) else Res.no) = Res.ok k := e
    split at e
    · rename_i hl; cases e; exact ⟨hl, rfl⟩
    · cases e
  | list ds =>
    cases h with
    | lst hs ha => cases e; exact .inl ⟨_, gh.seq hs, dpAll_isEmpty ha⟩
  | tuple ds =>
    cases h with
    | tup hs ha => cases e; exact .inr (.inl ⟨_, same_t gh hs, dpAll_isEmpty ha⟩)
  | dict _ => cases h
theorem truD_never (d : PyData) : Never (truD d) := fun x e => by
  cases d with
  | str y =>
    have e : (if y.length ≤ sizeLine then Res.ok ((y.length : Int) != 0) else Res.no) = Res.ex x := e
    split at e <;> cases e
  | _ => cases e
theorem dt_e (ha : DE X W cm a f) (he : ∀ whole, isTrue a X.env whole = (do let v ← whole; standAt a.pos; holding [v] (truthy v)) := by intro _; rfl) : DT X W cm a (fTru f) :=
  pt_imp (pt_truth ha he) fun σ H Q q => by
    obtain ⟨G0, H0, G, env, ok, q⟩ := q
    refine tD.go ok ((Res.sat_bind.mp q).imp (fun d _ k v G1 H1 g1 ok1 dp => ?_) fun _ z => z)
    obtain ⟨b, eb, k⟩ := sat_ok (truD_never d) k
    exact ⟨b, truV_of ok1.gh dp eb, k G1 H1 g1⟩
def fTruQ (f : En → Res (Bool × List PyData)) : En → Res Bool := fun env => (f env).map fun q => !q.2.isEmpty
theorem dt_q {f : En → Res (Bool × List PyData)} (ha : DQ X W cm a f) (he : ∀ whole, isTrue a X.env whole = (do let v ← whole; standAt a.pos; holding [v] (truthy v)) := by intro _; rfl) : DT X W cm a (fTruQ f) :=
  pt_imp (pt_truth ha he) fun σ H Q q => by
    obtain ⟨G0, H0, G, env, ok, q⟩ := q
    refine tQ.go ok ((Res.sat_map.mp q).imp (fun d _ k a vs G1 H1 g1 ok1 hs da => ?_) fun _ z => z)
    refine ⟨_, ?_, k G1 H1 g1⟩
    rcases hs.or ok1.gh with hs | hs
    · exact .inl ⟨vs, hs, dpAll_isEmpty da⟩
    · exact .inr (.inl ⟨vs, hs, dpAll_isEmpty da⟩)

/-! ### and, or, not -/
def fAndT (f g : En → Res Bool) : En → Res Bool := fun env => (f env).bind fun b => if b then g env else .ok false
def fOrT (f g : En → Res Bool) : En → Res Bool := fun env => (f env).bind fun b => if b then .ok true else g env
def fNotT (f : En → Res Bool) : En → Res Bool := fun env => (f env).map fun b => !b
variable {rest : List Expr} {p q : En → Res Bool}
theorem dw_and1 (ha : DT X W cm a p) : DW X W cm (.BoolOp .And [a] pos) p := pw_and1 ha
theorem dw_or1 (ha : DT X W cm a p) : DW X W cm (.BoolOp .Or [a] pos) p := pw_or1 ha
theorem dw_and (ha : DT X W cm a p) (hb : DW X W cm (.BoolOp .And (b :: rest) pos) q) : DW X W cm (.BoolOp .And (a :: b :: rest) pos) (fAndT p q) :=
  pw_imp (pw_and ha hb) fun σ H Q h => by
    obtain ⟨G0, H0, G, env, ok, h⟩ := h
    refine tT.go ok ((Res.sat_bind.mp h).imp (fun d _ k G1 H1 g1 ok1 => ?_) fun _ z => z)
    cases d with
    | true =>
      rw [if_pos rfl] at k ⊢
      exact tT.go ok1 (k.imp (fun e _ k2 G2 H2 g2 _ => k2 G2 H2 (g1.trans g2)) fun _ z => z.grow g1)
    | false =>
      rw [if_neg Bool.false_ne_true] at k ⊢
      exact k G1 H1 g1
theorem dw_or (ha : DT X W cm a p) (hb : DW X W cm (.BoolOp .Or (b :: rest) pos) q) : DW X W cm (.BoolOp .Or (a :: b :: rest) pos) (fOrT p q) :=
  pw_imp (pw_or ha hb) fun σ H Q h => by
    obtain ⟨G0, H0, G, env, ok, h⟩ := h
    refine tT.go ok ((Res.sat_bind.mp h).imp (fun d _ k G1 H1 g1 ok1 => ?_) fun _ z => z)
    cases d with
    | true =>
      rw [if_pos rfl] at k ⊢
      exact k G1 H1 g1
    | false =>
      rw [if_neg Bool.false_ne_true] at k ⊢
      exact tT.go ok1 (k.imp (fun e _ k2 G2 H2 g2 _ => k2 G2 H2 (g1.trans g2)) fun _ z => z.grow g1)
theorem dt_w (h : DW X W cm a p) : DT X W cm a p := PW.pt h
theorem dt_not (ha : DT X W cm a p) : DT X W cm (.UnaryOp .Not a pos) (fNotT p) :=
  pt_imp (pt_not ha) fun σ H Q h => by
    obtain ⟨G0, H0, G, env, ok, h⟩ := h
    exact tT.go ok ((Res.sat_map.mp h).imp (fun d _ k G1 H1 g1 ok1 => k G1 H1 g1) fun _ z => z)
/-- as values -/
def fAnd (f g : En → Res PyData) : En → Res PyData := fun env => (f env).bind fun d => (truD d).bind fun b => if b then g env else .ok d
def fOr (f g : En → Res PyData) : En → Res PyData := fun env => (f env).bind fun d => (truD d).bind fun b => if b then .ok d else g env
def fNot (f : En → Res PyData) : En → Res PyData := fun env => (f env).bind fun d => (truD d).map fun b => .bool (!b)
theorem de_one {op} (h : DE X W cm a f) : DE X W cm (.BoolOp op [a] pos) f := pe_one h
theorem de_and (ha : DE X W cm a f) (hb : DE X W cm (.BoolOp .And (b :: rest) pos) g) : DE X W cm (.BoolOp .And (a :: b :: rest) pos) (fAnd f g) :=
  pe_imp (pe_andT ha hb) fun σ H Q h => by
    obtain ⟨G0, H0, G, env, ok, h⟩ := h
    refine tD.go ok ((Res.sat_bind.mp h).imp (fun d _ k v G1 H1 g1 ok1 dp => ?_) fun _ z => z)
    obtain ⟨c, ec, k⟩ := sat_ok (truD_never d) ((Res.sat_bind.mp k).imp (fun _ _ z => z) fun x z => z)
    refine ⟨c, truV_of ok1.gh dp ec, ?_⟩
    cases c with
    | true =>
      rw [if_pos rfl] at k ⊢
      exact tD.go ok1 (k.imp (fun e _ k2 v2 G2 H2 g2 _ dp2 => k2 v2 G2 H2 (g1.trans g2) dp2) fun _ z => z.grow g1)
    | false =>
      rw [if_neg Bool.false_ne_true] at k ⊢
      exact k v G1 H1 g1 dp
theorem de_or (ha : DE X W cm a f) (hb : DE X W cm (.BoolOp .Or (b :: rest) pos) g) : DE X W cm (.BoolOp .Or (a :: b :: rest) pos) (fOr f g) :=
  pe_imp (pe_orT ha hb) fun σ H Q h => by
    obtain ⟨G0, H0, G, env, ok, h⟩ := h
    refine tD.go ok ((Res.sat_bind.mp h).imp (fun d _ k v G1 H1 g1 ok1 dp => ?_) fun _ z => z)
    obtain ⟨c, ec, k⟩ := sat_ok (truD_never d) ((Res.sat_bind.mp k).imp (fun _ _ z => z) fun x z => z)
    refine ⟨c, truV_of ok1.gh dp ec, ?_⟩
    cases c with
    | true =>
      rw [if_pos rfl] at k ⊢
      exact k v G1 H1 g1 dp
    | false =>
      rw [if_neg Bool.false_ne_true] at k ⊢
      exact tD.go ok1 (k.imp (fun e _ k2 v2 G2 H2 g2 _ dp2 => k2 v2 G2 H2 (g1.trans g2) dp2) fun _ z => z.grow g1)
theorem de_not (ha : DE X W cm a f) : DE X W cm (.UnaryOp .Not a pos) (fNot f) :=
  pe_imp (pe_notT ha) fun σ H Q h => by
    obtain ⟨G0, H0, G, env, ok, h⟩ := h
    refine tD.go ok ((Res.sat_bind.mp h).imp (fun d _ k v G1 H1 g1 ok1 dp => ?_) fun _ z => z)
    obtain ⟨c, ec, k⟩ := sat_ok (truD_never d) ((Res.sat_map.mp k).imp (fun _ _ z => z) fun x z => z)
    exact ⟨c, truV_of ok1.gh dp ec, k _ G1 H1 g1 (.bl _)⟩
/-- a if t else b -/
def fIf (p : En → Res Bool) (f g : En → Res PyData) : En → Res PyData := fun env => (p env).bind fun b => if b then f env else g env
theorem de_if (hc : DT X W cm c p) (ha : DE X W cm a f) (hb : DE X W cm b g) : DE X W cm (.IfExp c a b pos) (fIf p f g) :=
  pe_imp (pe_ifExp hc ha hb) fun σ H Q h => by
    obtain ⟨G0, H0, G, env, ok, h⟩ := h
    refine tT.go ok ((Res.sat_bind.mp h).imp (fun d _ k G1 H1 g1 ok1 => ?_) fun _ z => z)
    cases d with
    | true =>
      rw [if_pos rfl] at k ⊢
      exact tD.go ok1 (k.imp (fun e _ k2 v2 G2 H2 g2 _ dp2 => k2 v2 G2 H2 (g1.trans g2) dp2) fun _ z => z.grow g1)
    | false =>
      rw [if_neg Bool.false_ne_true] at k ⊢
      exact tD.go ok1 (k.imp (fun e _ k2 v2 G2 H2 g2 _ dp2 => k2 v2 G2 H2 (g1.trans g2) dp2) fun _ z => z.grow g1)
/-- a op1 b op2 c -/
def fChain (o o' : PyData → PyData → Res PyData) (f g h : En → Res PyData) : En → Res PyData := fun env => (f env).bind fun d => (g env).bind fun e => (o d e).bind fun r => (isB r).bind fun k => if k then (h env).bind fun z => o' e z else .ok (.bool false)
theorem isB_never (d : PyData) : Never (isB d) := fun x e => by cases d <;> cases e
theorem de_chain {op op' : CmpOp} {o o' : PyData → PyData → Res PyData} (ho : OpR X (compareOp op) (rDat X.K o)) (ho' : OpR X (compareOp op') (rDat X.K o')) (ha : DE X W cm a f) (hb : DE X W cm b g) (hc : DE X W cm c h)
    (n : ∀ d e, Never (o d e)) (n' : ∀ d e, Never (o' d e)) (hm : lastMarks [op, op'] [b, c] = false := by with_unfolding_all rfl) : DE X W cm (.Compare a [op, op'] [b, c] pos) (fChain o o' f g h) :=
  pe_imp (pe_chain ho ho' ha hb hc hm) fun σ H Q q => by
    obtain ⟨G0, H0, G, env, ok, q⟩ := q
    refine tD.go ok ((Res.sat_bind.mp q).imp (fun d _ k v G1 H1 g1 ok1 dp => ?_) fun _ z => z)
    refine tD.go ok1 ((Res.sat_bind.mp k).imp (fun e _ k2 u G2 H2 g2 ok2 dq => ?_) fun _ z => z.grow g1)
    obtain ⟨r, er, k3⟩ := sat_ok (n d e) (Res.sat_bind.mp k2)
    obtain ⟨kb, eb, k4⟩ := sat_ok (isB_never r) (Res.sat_bind.mp k3)
    refine ⟨G2, d, e, r, ok2.gh, dp_mono g2.g _ _ dp, dq, er, fun z G3 H3 g3 dr => ?_⟩
    have ok3 := ok2.grow g3
    have g13 := (g1.trans g2).trans g3
    cases r with
    | bool b0 =>
      cases dr
      have e0 : b0 = kb := by cases eb; rfl
      subst e0
      refine ⟨b0, rfl, ?_⟩
      cases b0 with
      | true =>
        rw [if_pos rfl] at k4 ⊢
        refine tD.go ok3 ((Res.sat_bind.mp k4).imp (fun y _ k5 v4 G4 H4 g4 ok4 dz => ?_) fun _ z => z.grow g13)
        obtain ⟨r', er', k6⟩ := sat_ok (n' e y) k5
        exact ⟨G4, e, y, r', ok4.gh, dp_mono (g3.trans g4).g _ _ dq, dz, er', fun z5 G5 H5 g5 d5 => k6 z5 G5 H5 ((g13.trans g4).trans g5) d5⟩
      | false =>
        rw [if_neg Bool.false_ne_true] at k4 ⊢
        exact k4 _ G3 H3 g13 (.bl false)
    | _ => cases eb
end
end GL

/-! # The data layer, part c: operators, subscripts, built-ins on data -/
namespace GL
open PySem PySem.Spec PyProof.Rows L2

def mulOk (i j : Int) : Bool := decide (-(2 ^ 64) < i ∧ i < 2 ^ 64) || decide (-(2 ^ 64) < j ∧ j < 2 ^ 64)
def addD : PyData → PyData → Res PyData
  | .int i, .int j => .ok (.int (i + j))
  | .str x, .str y => if x.length + y.length ≤ sizeLine then .ok (.str (x ++ y)) else .no
  | .tuple xs, .tuple ys => if xs.length + ys.length ≤ sizeLine then .ok (.tuple (xs ++ ys)) else .no
  | _, _ => .no
def subD : PyData → PyData → Res PyData
  | .int i, .int j => .ok (.int (i - j))
  | _, _ => .no
def mulD : PyData → PyData → Res PyData
  | .int i, .int j => if mulOk i j = true then .ok (.int (i * j)) else .no
  | _, _ => .no
def modD : PyData → PyData → Res PyData
  | .int i, .int j => if 0 < j then .ok (.int (i % j)) else .no
  | _, _ => .no
def eqD (d e : PyData) : Res PyData := if (SeqAt.shaped d && SeqAt.shaped e) = true then .ok (.bool (PyData.eqv d e)) else .no
def neD (d e : PyData) : Res PyData := if (SeqAt.shaped d && SeqAt.shaped e) = true then .ok (.bool (!PyData.eqv d e)) else .no
def ltD (d e : PyData) : Res PyData := if (PySem.W.alike d e && decide (d.depth ≤ 64)) = true then (match d with
  | .int _ | .str _ | .tuple _ => .ok (.bool (PySem.W.dataLt d e))
  | _ => .no) else .no
def leD : PyData → PyData → Res PyData
  | .int i, .int j => .ok (.bool (decide (i ≤ j)))
  | _, _ => .no
def gtD : PyData → PyData → Res PyData
  | .int i, .int j => .ok (.bool (decide (j < i)))
  | _, _ => .no
def geD : PyData → PyData → Res PyData
  | .int i, .int j => .ok (.bool (decide (j ≤ i)))
  | _, _ => .no
def inStr (x y : Str) : Bool := !(Builtin.Str.occurrences y x 0 y.length 1).isEmpty
def inD : PyData → PyData → Res PyData
  | d, .list ds => if (SeqAt.shaped d && SeqAt.shaped (.list ds)) = true then .ok (.bool (ds.any fun z => PyData.eqv z d)) else .no
  | d, .tuple ds => if (SeqAt.shaped d && SeqAt.shaped (.tuple ds)) = true then .ok (.bool (ds.any fun z => PyData.eqv z d)) else .no
  | .str x, .str y => .ok (.bool (inStr x y))
  | _, _ => .no
def notB : PyData → Res PyData
  | .bool b => .ok (.bool (!b))
  | _ => .no
def ninD (d e : PyData) : Res PyData := (inD d e).bind notB
def isD : PyData → PyData → Res PyData
  | .none, .none => .ok (.bool true)
  | _, .none => .ok (.bool false)
  | .bool a, .bool b => .ok (.bool (decide (a = b)))
  | _, _ => .no
def isnD (d e : PyData) : Res PyData := (isD d e).bind notB
def ixD : PyData → PyData → Res PyData
  | .list ds, .int i => match atI ds i with
    | some d => .ok d
    | none => .no
  | .tuple ds, .int i => match atI ds i with
    | some d => .ok d
    | none => .no
  | .str z, .int i => if z.length ≤ sizeLine then (match atI z.cps.toList i with
    | some c => .ok (.str ⟨#[c]⟩)
    | none => .no) else .no
  | _, _ => .no
theorem never_ite {α : Type} {c : Prop} [Decidable c] {a b : Res α} (h1 : Never a) (h2 : Never b) : Never (if c then a else b) := by
  split <;> assumption
theorem never_ok {α : Type} (a : α) : Never (Res.ok a) := fun x e => by cases e
theorem never_no {α : Type} : Never (Res.no : Res α) := fun x e => by cases e
theorem addD_never (d e : PyData) : Never (addD d e) := by
  unfold addD
  split <;> first | exact never_ok _ | exact never_no | exact never_ite (never_ok _) never_no
theorem subD_never (d e : PyData) : Never (subD d e) := by unfold subD; split <;> first | exact never_ok _ | exact never_no
theorem mulD_never (d e : PyData) : Never (mulD d e) := by unfold mulD; split <;> first | exact never_no | exact never_ite (never_ok _) never_no
theorem modD_never (d e : PyData) : Never (modD d e) := by unfold modD; split <;> first | exact never_no | exact never_ite (never_ok _) never_no
theorem eqD_never (d e : PyData) : Never (eqD d e) := never_ite (never_ok _) never_no
theorem neD_never (d e : PyData) : Never (neD d e) := never_ite (never_ok _) never_no
theorem ltD_never (d e : PyData) : Never (ltD d e) := never_ite (by split <;> first | exact never_ok _ | exact never_no) never_no
theorem leD_never (d e : PyData) : Never (leD d e) := by unfold leD; split <;> first | exact never_ok _ | exact never_no
theorem gtD_never (d e : PyData) : Never (gtD d e) := by unfold gtD; split <;> first | exact never_ok _ | exact never_no
theorem geD_never (d e : PyData) : Never (geD d e) := by unfold geD; split <;> first | exact never_ok _ | exact never_no
theorem inD_never (d e : PyData) : Never (inD d e) := by unfold inD; split <;> first | exact never_ok _ | exact never_no | exact never_ite (never_ok _) never_no
theorem never_bind {α β : Type} {r : Res α} {f : α → Res β} (h1 : Never r) (h2 : ∀ a, Never (f a)) : Never (r.bind f) := by
  cases r with
  | ok a => exact h2 a
  | ex x => exact absurd rfl (h1 x)
  | no => exact never_no
theorem notB_never (d : PyData) : Never (notB d) := by unfold notB; split <;> first | exact never_ok _ | exact never_no
theorem ninD_never (d e : PyData) : Never (ninD d e) := never_bind (inD_never d e) notB_never
theorem isD_never (d e : PyData) : Never (isD d e) := by unfold isD; split <;> first | exact never_ok _ | exact never_no
theorem isnD_never (d e : PyData) : Never (isnD d e) := never_bind (isD_never d e) notB_never
theorem ixD_never (d e : PyData) : Never (ixD d e) := by
  unfold ixD
  split
  · split <;> first | exact never_ok _ | exact never_no
  · split <;> first | exact never_ok _ | exact never_no
  · exact never_ite (by split <;> first | exact never_ok _ | exact never_no) never_no
  · exact never_no
theorem ok_of_ite {α : Type} {c : Prop} [Decidable c] {a r : α} (h : (if c then Res.ok a else Res.no) = Res.ok r) : c ∧ a = r := by
  split at h
  · rename_i hc; cases h; exact ⟨hc, rfl⟩
  · cases h

section
variable {X : Cx}
theorem op_addD : OpR X (binaryOp .Add) (rDat X.K addD) := by
  intro pins s σ H x y v u Q I rx ry h
  obtain ⟨G, d, e, r, gh, dx, dy, er, q⟩ := h
  unfold addD at er
  split at er
  · cases dx; cases dy; cases er
    exact op_add pins s σ H _ _ v u Q I rx ry ⟨_, _, rfl, rfl, q _ G H (Grow.refl gh) (.int _)⟩
  · cases dx; cases dy
    obtain ⟨hl, rfl⟩ := ok_of_ite er
    exact op_add_str pins s σ H _ _ v u Q I rx ry ⟨_, _, rfl, rfl, hl, q _ G H (Grow.refl gh) (.str _)⟩
  · obtain ⟨hl, rfl⟩ := ok_of_ite er
    cases dx with
    | tup hs ha =>
      cases dy with
      | tup hs' ha' =>
        have l1 := dpAll_length ha
        have l2 := dpAll_length ha'
        refine op_catA pins s σ H _ _ v u Q I rx ry ⟨_, _, _, _, rfl, rfl, same_t gh hs, same_t gh hs', by rw [l1, l2]; exact hl, fun z => ?_, fun _ z => ?_, fun _ _ p hp => ?_⟩
        · subst z; cases ha
          exact q _ G H (Grow.refl gh) (.tup hs' ha')
        · subst z; cases ha'
          rw [List.append_nil] at q
          exact q _ G H (Grow.refl gh) (.tup hs ha)
        · exact q _ _ _ (Grow.still gh hp) (.tup (.inl (.inl upd_same)) (dpAll_app (dpAll_mono (same_new (gh.free hp)) _ _ ha) (dpAll_mono (same_new (gh.free hp)) _ _ ha')))
  · cases er
theorem op_subD : OpR X (binaryOp .Sub) (rDat X.K subD) := by
  intro pins s σ H x y v u Q I rx ry h
  obtain ⟨G, d, e, r, gh, dx, dy, er, q⟩ := h
  unfold subD at er
  split at er
  · cases dx; cases dy; cases er
    exact op_sub pins s σ H _ _ v u Q I rx ry ⟨_, _, rfl, rfl, q _ G H (Grow.refl gh) (.int _)⟩
  · cases er
theorem op_mulD : OpR X (binaryOp .Mult) (rDat X.K mulD) := by
  intro pins s σ H x y v u Q I rx ry h
  obtain ⟨G, d, e, r, gh, dx, dy, er, q⟩ := h
  unfold mulD at er
  split at er
  · cases dx; cases dy
    obtain ⟨hl, rfl⟩ := ok_of_ite er
    unfold mulOk at hl
    rw [Bool.or_eq_true, decide_eq_true_eq, decide_eq_true_eq] at hl
    exact op_mul pins s σ H _ _ v u Q I rx ry ⟨_, _, rfl, rfl, hl, q _ G H (Grow.refl gh) (.int _)⟩
  · cases er
theorem op_modD : OpR X (binaryOp .Mod) (rDat X.K modD) := by
  intro pins s σ H x y v u Q I rx ry h
  obtain ⟨G, d, e, r, gh, dx, dy, er, q⟩ := h
  unfold modD at er
  split at er
  · cases dx; cases dy
    obtain ⟨hl, rfl⟩ := ok_of_ite er
    exact op_mod pins s σ H _ _ v u Q I rx ry ⟨_, _, rfl, rfl, hl, q _ G H (Grow.refl gh) (.int _)⟩
  · cases er
theorem op_eqDat {k : Nat} (hr : Room k X.A) : OpR X (compareOp .Eq) (rDat X.K eqD) := by
  intro pins s σ H x y v u Q I rx ry h
  obtain ⟨G, d, e, r, gh, dx, dy, er, q⟩ := h
  obtain ⟨hl, rfl⟩ := ok_of_ite er
  rw [Bool.and_eq_true] at hl
  exact op_eqD hr.units pins s σ H x y v u Q I rx ry ⟨d, e, dp_mono gh _ _ dx, dp_mono gh _ _ dy, hl.1, hl.2, q _ G H (Grow.refl gh) (.bl _)⟩
theorem op_neDat {k : Nat} (hr : Room k X.A) : OpR X (compareOp .NotEq) (rDat X.K neD) := by
  intro pins s σ H x y v u Q I rx ry h
  obtain ⟨G, d, e, r, gh, dx, dy, er, q⟩ := h
  obtain ⟨hl, rfl⟩ := ok_of_ite er
  rw [Bool.and_eq_true] at hl
  exact op_neD hr.units pins s σ H x y v u Q I rx ry ⟨d, e, dp_mono gh _ _ dx, dp_mono gh _ _ dy, hl.1, hl.2, q _ G H (Grow.refl gh) (.bl _)⟩
theorem op_ltDat {k : Nat} (hr : Room k X.A) : OpR X (compareOp .Lt) (rDat X.K ltD) := by
  intro pins s σ H x y v u Q I rx ry h
  obtain ⟨G, d, e, r, gh, dx, dy, er, q⟩ := h
  have hu := hr.units
  unfold ltD at er
  split at er
  · rename_i hl
    rw [Bool.and_eq_true, decide_eq_true_eq] at hl
    have hm : min d.depth e.depth ≤ d.depth := Nat.min_le_left _ _
    obtain ⟨as, r1⟩ := Dp.reads I d x v (dp_mono gh _ _ dx) rx
    obtain ⟨bs, r2⟩ := Dp.reads I e y u (dp_mono gh _ _ dy) ry
    have fin : d ≠ .none → r = .bool (PySem.W.dataLt d e) → wpAny (model X.prog X.w) X.A (compareOp .Lt v u) (EP X pins σ Q) X.xe s := fun hn e0 => by
      subst e0
      exact PySem.W.rcLt_alike d e X.A s v u as bs r1 r2 hl.1 hn (by omega) X.prog X.w X.xe _ ⟨.bl _, H, I, rfl, q _ G H (Grow.refl gh) (.bl _)⟩
    split at er
    · cases er; exact fin (fun z => by cases z) rfl
    · cases er; exact fin (fun z => by cases z) rfl
    · cases er; exact fin (fun z => by cases z) rfl
    · cases er
  · cases er
theorem op_leDat : OpR X (compareOp .LtE) (rDat X.K leD) := by
  intro pins s σ H x y v u Q I rx ry h
  obtain ⟨G, d, e, r, gh, dx, dy, er, q⟩ := h
  unfold leD at er
  split at er
  · cases dx; cases dy; cases er
    exact op_le pins s σ H _ _ v u Q I rx ry ⟨_, _, rfl, rfl, q _ G H (Grow.refl gh) (.bl _)⟩
  · cases er
theorem op_gtDat : OpR X (compareOp .Gt) (rDat X.K gtD) := by
  intro pins s σ H x y v u Q I rx ry h
  obtain ⟨G, d, e, r, gh, dx, dy, er, q⟩ := h
  unfold gtD at er
  split at er
  · cases dx; cases dy; cases er
    exact op_gt pins s σ H _ _ v u Q I rx ry ⟨_, _, rfl, rfl, q _ G H (Grow.refl gh) (.bl _)⟩
  · cases er
theorem op_geDat : OpR X (compareOp .GtE) (rDat X.K geD) := by
  intro pins s σ H x y v u Q I rx ry h
  obtain ⟨G, d, e, r, gh, dx, dy, er, q⟩ := h
  unfold geD at er
  split at er
  · cases dx; cases dy; cases er
    exact op_ge pins s σ H _ _ v u Q I rx ry ⟨_, _, rfl, rfl, q _ G H (Grow.refl gh) (.bl _)⟩
  · cases er
theorem in65 {k : Nat} (hr : Room k X.A) : X.A.units + 65 < cLine := by have := hr.un; omega
theorem op_inDat {k : Nat} (hr : Room k X.A) : OpR X (compareOp .In) (rDat X.K inD) := by
  intro pins s σ H x y v u Q I rx ry h
  obtain ⟨G, d, e, r, gh, dx, dy, er, q⟩ := h
  have hu := in65 hr
  unfold inD at er
  split at er
  · obtain ⟨hl, rfl⟩ := ok_of_ite er
    rw [Bool.and_eq_true] at hl
    obtain ⟨as, r1⟩ := Dp.reads I _ x v (dp_mono gh _ _ dx) rx
    obtain ⟨bs, r2⟩ := Dp.reads I _ y u (dp_mono gh _ _ dy) ry
    exact SeqAt.in_list_reads r2 r1 (SeqAt.canLay_of_shaped hl.2) (SeqAt.canLay_of_shaped hl.1) (room_in_shaped hl.1 hu) ⟨.bl _, H, I, rfl, q _ G H (Grow.refl gh) (.bl _)⟩
  · obtain ⟨hl, rfl⟩ := ok_of_ite er
    rw [Bool.and_eq_true] at hl
    obtain ⟨as, r1⟩ := Dp.reads I _ x v (dp_mono gh _ _ dx) rx
    obtain ⟨bs, r2⟩ := Dp.reads I _ y u (dp_mono gh _ _ dy) ry
    exact SeqAt.in_tuple_reads r2 r1 (SeqAt.canLay_of_shaped hl.2) (SeqAt.canLay_of_shaped hl.1) (room_in_shaped hl.1 hu) ⟨.bl _, H, I, rfl, q _ G H (Grow.refl gh) (.bl _)⟩
  · cases dx; cases dy; cases er
    exact op_in_str pins s σ H _ _ v u Q I rx ry ⟨_, _, rfl, rfl, q _ G H (Grow.refl gh) (.bl _)⟩
  · cases er
theorem ninD_ok {d e r : PyData} (h : ninD d e = .ok r) : ∃ b, inD d e = .ok (.bool b) ∧ r = .bool (!b) := by
  unfold ninD at h
  cases z : inD d e with
  | ok a =>
    rw [z] at h
    cases a with
    | bool b => exact ⟨b, rfl, by cases h; rfl⟩
    | _ => cases h
  | ex x => rw [z] at h; cases h
  | no => rw [z] at h; cases h
theorem op_ninDat {k : Nat} (hr : Room k X.A) : OpR X (compareOp .NotIn) (rDat X.K ninD) := by
  intro pins s σ H x y v u Q I rx ry h
  obtain ⟨G, d, e, r, gh, dx, dy, er, q⟩ := h
  have hu := in65 hr
  obtain ⟨b, er2, rfl⟩ := ninD_ok er
  clear er
  unfold inD at er2
  have er := er2
  split at er
  · obtain ⟨hl, e0⟩ := ok_of_ite er
    cases e0
    rw [Bool.and_eq_true] at hl
    obtain ⟨as, r1⟩ := Dp.reads I _ x v (dp_mono gh _ _ dx) rx
    obtain ⟨bs, r2⟩ := Dp.reads I _ y u (dp_mono gh _ _ dy) ry
    exact SeqAt.notIn_list_reads r2 r1 (SeqAt.canLay_of_shaped hl.2) (SeqAt.canLay_of_shaped hl.1) (room_in_shaped hl.1 hu) ⟨.bl _, H, I, rfl, q _ G H (Grow.refl gh) (.bl _)⟩
  · obtain ⟨hl, e0⟩ := ok_of_ite er
    cases e0
    rw [Bool.and_eq_true] at hl
    obtain ⟨as, r1⟩ := Dp.reads I _ x v (dp_mono gh _ _ dx) rx
    obtain ⟨bs, r2⟩ := Dp.reads I _ y u (dp_mono gh _ _ dy) ry
    exact SeqAt.notIn_tuple_reads r2 r1 (SeqAt.canLay_of_shaped hl.2) (SeqAt.canLay_of_shaped hl.1) (room_in_shaped hl.1 hu) ⟨.bl _, H, I, rfl, q _ G H (Grow.refl gh) (.bl _)⟩
  · cases dx; cases dy; cases er
    exact op_notin_str pins s σ H _ _ v u Q I rx ry ⟨_, _, rfl, rfl, q _ G H (Grow.refl gh) (.bl _)⟩
  · cases er
theorem dp_isN {K : PySem.W.Frag} {G : Hp} {v : V} {d : PyData} (h : Dp K G v d) : v = .non ↔ d = .none := by
  cases h <;> simp
theorem op_isDat : OpR X (compareOp .Is) (rDat X.K isD) := by
  intro pins s σ H x y v u Q I rx ry h
  obtain ⟨G, d, e, r, gh, dx, dy, er, q⟩ := h
  unfold isD at er
  split at er
  · cases dx; cases dy; cases er
    exact op_isN pins s σ H _ _ v u Q I rx ry ⟨rfl, q _ G H (Grow.refl gh) (.bl _)⟩
  · rename_i hn
    cases dy; cases er
    have e0 : decide (x = V.non) = false := decide_eq_false fun z => hn ((dp_isN dx).mp z)
    refine op_isN pins s σ H _ _ v u Q I rx ry ⟨rfl, ?_⟩
    rw [e0]
    exact q _ G H (Grow.refl gh) (.bl _)
  · cases dx; cases dy; cases er
    exact op_isBl pins s σ H _ _ v u Q I rx ry ⟨_, _, rfl, rfl, q _ G H (Grow.refl gh) (.bl _)⟩
  · cases er
theorem op_isnDat : OpR X (compareOp .IsNot) (rDat X.K isnD) := by
  intro pins s σ H x y v u Q I rx ry h
  obtain ⟨G, d, e, r, gh, dx, dy, er, q⟩ := h
  have e1 : ∃ b, isD d e = .ok (.bool b) ∧ r = .bool (!b) := by
    unfold isnD at er
    cases z : isD d e with
    | ok a =>
      rw [z] at er
      cases a with
      | bool b => exact ⟨b, rfl, by cases er; rfl⟩
      | _ => cases er
    | ex x => rw [z] at er; cases er
    | no => rw [z] at er; cases er
  obtain ⟨b, er2, rfl⟩ := e1
  clear er
  unfold isD at er2
  have er := er2
  split at er
  · cases dx; cases dy; cases er
    exact op_notN pins s σ H _ _ v u Q I rx ry ⟨rfl, q _ G H (Grow.refl gh) (.bl _)⟩
  · rename_i hn
    cases dy; cases er
    have e0 : decide (x = V.non) = false := decide_eq_false fun z => hn ((dp_isN dx).mp z)
    refine op_notN pins s σ H _ _ v u Q I rx ry ⟨rfl, ?_⟩
    rw [e0]
    exact q _ G H (Grow.refl gh) (.bl _)
  · cases dx; cases dy; cases er
    exact op_notBl pins s σ H _ _ v u Q I rx ry ⟨_, _, rfl, rfl, q _ G H (Grow.refl gh) (.bl _)⟩
  · cases er
theorem dpAll_atI {K : PySem.W.Frag} {G : Hp} {vs : List V} {ds : List PyData} {i : Int} {d : PyData} (h : DpAll K G vs ds) (e : atI ds i = some d) : ∃ v, atI vs i = some v ∧ Dp K G v d := by
  unfold atI at e ⊢
  rw [dpAll_length h]
  cases q : ixN ds.length i with
  | none => rw [q] at e; cases e
  | some j =>
    rw [q] at e
    exact dpAll_get h e
theorem ixR_imp {r r' : R2} (h : IxR X r) (i : ∀ x y H Q, r' x y H Q → r x y H Q) : IxR X r' := fun value slice pins s σ H x y v u Q I rx ry q hs => h value slice pins s σ H x y v u Q I rx ry (i _ _ _ _ q) hs
theorem ix_dat : IxR X (rDat X.K ixD) := ixR_imp ix_seq fun x y H Q h => by
  obtain ⟨G, d, e, r, gh, dx, dy, er, q⟩ := h
  unfold ixD at er
  split at er
  · split at er
    · rename_i hd
      cases er
      cases dy
      cases dx with
      | lst hs ha =>
        obtain ⟨z, hz, dz⟩ := dpAll_atI ha hd
        exact .inl ⟨_, _, _, z, rfl, rfl, gh.seq hs, hz, q _ G H (Grow.refl gh) dz⟩
    · cases er
  · split at er
    · rename_i hd
      cases er
      cases dy
      cases dx with
      | tup hs ha =>
        obtain ⟨z, hz, dz⟩ := dpAll_atI ha hd
        exact .inr (.inl ⟨_, _, _, z, rfl, rfl, same_t gh hs, hz, q _ G H (Grow.refl gh) dz⟩)
    · cases er
  · split at er
    · rename_i hl
      split at er
      · rename_i hc
        cases er; cases dy; cases dx
        exact .inr (.inr ⟨_, _, _, rfl, rfl, hl, hc, q _ G H (Grow.refl gh) (.str _)⟩)
      · cases er
    · cases er
  · cases er
end

/-! ### the derivations in short -/
section
variable {X : Cx} {W : WX} {cm : Str → Addr} {a b c : Expr} {f g h : En → Res PyData} {pos : Pos} {k : Nat}
abbrev fAdd := f2 addD
abbrev fSub := f2 subD
abbrev fMul := f2 mulD
abbrev fMod := f2 modD
abbrev fEq := f2 eqD
abbrev fNe := f2 neD
abbrev fLt := f2 ltD
abbrev fLe := f2 leD
abbrev fGt := f2 gtD
abbrev fGe := f2 geD
abbrev fIn := f2 inD
abbrev fNin := f2 ninD
abbrev fIs := f2 isD
abbrev fIsn := f2 isnD
abbrev fIx := f2 ixD
theorem de_add (ha : DE X W cm a f) (hb : DE X W cm b g) : DE X W cm (.BinOp a .Add b pos) (fAdd f g) := de_op op_addD ha hb addD_never
theorem de_sub (ha : DE X W cm a f) (hb : DE X W cm b g) : DE X W cm (.BinOp a .Sub b pos) (fSub f g) := de_op op_subD ha hb subD_never
theorem de_mul (ha : DE X W cm a f) (hb : DE X W cm b g) : DE X W cm (.BinOp a .Mult b pos) (fMul f g) := de_op op_mulD ha hb mulD_never
theorem de_mod (ha : DE X W cm a f) (hb : DE X W cm b g) : DE X W cm (.BinOp a .Mod b pos) (fMod f g) := de_op op_modD ha hb modD_never
theorem de_eq (hr : Room k X.A) (ha : DE X W cm a f) (hb : DE X W cm b g) : DE X W cm (.Compare a [.Eq] [b] pos) (fEq f g) := de_cmpR (op_eqDat hr) ha hb (nomark _) eqD_never
theorem de_ne (hr : Room k X.A) (ha : DE X W cm a f) (hb : DE X W cm b g) : DE X W cm (.Compare a [.NotEq] [b] pos) (fNe f g) := de_cmpR (op_neDat hr) ha hb (nomark _) neD_never
theorem de_lt (hr : Room k X.A) (ha : DE X W cm a f) (hb : DE X W cm b g) : DE X W cm (.Compare a [.Lt] [b] pos) (fLt f g) := de_cmpR (op_ltDat hr) ha hb (nomark _) ltD_never
theorem de_le (ha : DE X W cm a f) (hb : DE X W cm b g) : DE X W cm (.Compare a [.LtE] [b] pos) (fLe f g) := de_cmpR op_leDat ha hb (nomark _) leD_never
theorem de_gt (ha : DE X W cm a f) (hb : DE X W cm b g) : DE X W cm (.Compare a [.Gt] [b] pos) (fGt f g) := de_cmpR op_gtDat ha hb (nomark _) gtD_never
theorem de_ge (ha : DE X W cm a f) (hb : DE X W cm b g) : DE X W cm (.Compare a [.GtE] [b] pos) (fGe f g) := de_cmpR op_geDat ha hb (nomark _) geD_never
theorem de_is (ha : DE X W cm a f) (hb : DE X W cm b g) : DE X W cm (.Compare a [.Is] [b] pos) (fIs f g) := de_cmpR op_isDat ha hb (nomark _) isD_never
theorem de_isn (ha : DE X W cm a f) (hb : DE X W cm b g) : DE X W cm (.Compare a [.IsNot] [b] pos) (fIsn f g) := de_cmpR op_isnDat ha hb (nomark _) isnD_never
theorem de_in (hr : Room k X.A) (ha : DE X W cm a f) (hb : DE X W cm b g) (hm : behindInMarks .In b = false := by with_unfolding_all rfl) : DE X W cm (.Compare a [.In] [b] pos) (fIn f g) := de_cmpR (op_inDat hr) ha hb hm inD_never
theorem de_nin (hr : Room k X.A) (ha : DE X W cm a f) (hb : DE X W cm b g) (hm : behindInMarks .NotIn b = false := by with_unfolding_all rfl) : DE X W cm (.Compare a [.NotIn] [b] pos) (fNin f g) := de_cmpR (op_ninDat hr) ha hb hm ninD_never
theorem dt_eq (hr : Room k X.A) (ha : DE X W cm a f) (hb : DE X W cm b g) : DT X W cm (.Compare a [.Eq] [b] pos) (fB (fEq f g)) := dt_cmpR (op_eqDat hr) ha hb (nomark _) eqD_never
theorem dt_ne (hr : Room k X.A) (ha : DE X W cm a f) (hb : DE X W cm b g) : DT X W cm (.Compare a [.NotEq] [b] pos) (fB (fNe f g)) := dt_cmpR (op_neDat hr) ha hb (nomark _) neD_never
theorem dt_lt (hr : Room k X.A) (ha : DE X W cm a f) (hb : DE X W cm b g) : DT X W cm (.Compare a [.Lt] [b] pos) (fB (fLt f g)) := dt_cmpR (op_ltDat hr) ha hb (nomark _) ltD_never
theorem dt_le (ha : DE X W cm a f) (hb : DE X W cm b g) : DT X W cm (.Compare a [.LtE] [b] pos) (fB (fLe f g)) := dt_cmpR op_leDat ha hb (nomark _) leD_never
theorem dt_gt (ha : DE X W cm a f) (hb : DE X W cm b g) : DT X W cm (.Compare a [.Gt] [b] pos) (fB (fGt f g)) := dt_cmpR op_gtDat ha hb (nomark _) gtD_never
theorem dt_ge (ha : DE X W cm a f) (hb : DE X W cm b g) : DT X W cm (.Compare a [.GtE] [b] pos) (fB (fGe f g)) := dt_cmpR op_geDat ha hb (nomark _) geD_never
theorem dt_is (ha : DE X W cm a f) (hb : DE X W cm b g) : DT X W cm (.Compare a [.Is] [b] pos) (fB (fIs f g)) := dt_cmpR op_isDat ha hb (nomark _) isD_never
theorem dt_isn (ha : DE X W cm a f) (hb : DE X W cm b g) : DT X W cm (.Compare a [.IsNot] [b] pos) (fB (fIsn f g)) := dt_cmpR op_isnDat ha hb (nomark _) isnD_never
theorem dt_in (hr : Room k X.A) (ha : DE X W cm a f) (hb : DE X W cm b g) (hm : behindInMarks .In b = false := by with_unfolding_all rfl) : DT X W cm (.Compare a [.In] [b] pos) (fB (fIn f g)) := dt_cmpR (op_inDat hr) ha hb hm inD_never
theorem dt_nin (hr : Room k X.A) (ha : DE X W cm a f) (hb : DE X W cm b g) (hm : behindInMarks .NotIn b = false := by with_unfolding_all rfl) : DT X W cm (.Compare a [.NotIn] [b] pos) (fB (fNin f g)) := dt_cmpR (op_ninDat hr) ha hb hm ninD_never
theorem de_ix (ha : DE X W cm a f) (hb : DE X W cm b g) (hs : PlainIx b := by exact fun _ _ => rfl) : DE X W cm (.Subscript a b pos) (fIx f g) :=
  pe_imp (pe_ix ix_dat ha hb hs) fun σ H Q q => t_op ixD_never q
theorem de_neg {i : Int} {j p1} : DE X W cm (.UnaryOp .USub (.Constant (.int i) j p1) pos) (fC (.int (-i))) :=
  pe_imp (pe_un un_neg pe_int) fun σ H Q q => by
    obtain ⟨G0, H0, G, env, ok, q⟩ := q
    exact ⟨i, rfl, q _ G H (Grow.refl ok.gh) (.int _)⟩
/-- x in q, x not in q, q[i], of a sequence that may be of one's own -/
def fInQ (f : En → Res PyData) (g : En → Res (Bool × List PyData)) : En → Res PyData := fun env => (f env).bind fun d => (g env).bind fun q => inD d (if q.1 then .tuple q.2 else .list q.2)
def fNinQ (f : En → Res PyData) (g : En → Res (Bool × List PyData)) : En → Res PyData := fun env => (f env).bind fun d => (g env).bind fun q => ninD d (if q.1 then .tuple q.2 else .list q.2)
def fIxQ (f : En → Res (Bool × List PyData)) (g : En → Res PyData) : En → Res PyData := fun env => (f env).bind fun q => (g env).bind fun d => ixD (.list q.2) d
theorem dp_q {K : PySem.W.Frag} {G H : Hp} {q : Bool × List PyData} {a : Addr} {vs : List V} (gh : Same G H) (hs : SqB K q.1 G H a vs) (da : DpAll K G vs q.2) : Dp K H (.ref a) (if q.1 then .tuple q.2 else .list q.2) := by
  obtain ⟨b, ds⟩ := q
  cases b with
  | true => exact .tup (same_t gh hs.t) (dpAll_mono gh _ _ da)
  | false => exact .lst hs.l (dpAll_mono gh _ _ da)
theorem inD_bool {d e r : PyData} (h : inD d e = .ok r) : ∃ b, r = .bool b := by
  unfold inD at h
  split at h
  · exact ⟨_, (ok_of_ite h).2.symm⟩
  · exact ⟨_, (ok_of_ite h).2.symm⟩
  · cases h; exact ⟨_, rfl⟩
  · cases h
theorem t_inQ {P : Program} {w : World} {K : PySem.W.Frag} {o : PyData → PyData → Res PyData} {f : En → Res PyData} {g : En → Res (Bool × List PyData)} (n : ∀ d e, Never (o d e)) (hb : ∀ {d e r}, o d e = .ok r → ∃ b, r = .bool b) {σ : L2.St} {H : Hp} {Q : VK}
    (q : tD P w K W cm (fun env => (f env).bind fun d => (g env).bind fun q => o d (if q.1 then .tuple q.2 else .list q.2)) σ H Q) :
    tOp (rDat K o) (tD P w K W cm f) (tQ P w K W cm g) σ H Q := by
  obtain ⟨G0, H0, G, env, ok, q⟩ := q
  refine tD.go ok ((Res.sat_bind.mp q).imp (fun d _ k v G1 H1 g1 ok1 dp => ?_) fun _ z => z)
  refine tQ.go ok1 ((Res.sat_bind.mp k).imp (fun e _ k2 a vs G2 H2 g2 ok2 hs da => ?_) fun _ z => z.grow g1)
  obtain ⟨r, er, k3⟩ := sat_ok (n d _) k2
  obtain ⟨b0, rfl⟩ := hb er
  refine ⟨H2, d, _, _, Same.refl H2, dp_mono (g2.g.trans ok2.gh) _ _ dp, dp_q ok2.gh hs da, er, fun z G' H' g' dr => ?_⟩
  cases dr
  exact k3 _ G2 H' ((g1.trans g2).trans ⟨g'.h, Same.refl G2, ok2.gh.trans g'.h, fun _ _ => rfl⟩) (.bl b0)
theorem ninD_bool {d e r : PyData} (h : ninD d e = .ok r) : ∃ b, r = .bool b := by
  obtain ⟨b, _, rfl⟩ := ninD_ok h
  exact ⟨_, rfl⟩
variable {gq : En → Res (Bool × List PyData)}
theorem de_inQ (hr : Room k X.A) (ha : DE X W cm a f) (hb : DQ X W cm b gq) (hm : behindInMarks .In b = false := by with_unfolding_all rfl) : DE X W cm (.Compare a [.In] [b] pos) (fInQ f gq) := pe_imp (pe_cmpR (op_inDat hr) ha hb hm) fun σ H Q q => t_inQ inD_never inD_bool q
theorem de_ninQ (hr : Room k X.A) (ha : DE X W cm a f) (hb : DQ X W cm b gq) (hm : behindInMarks .NotIn b = false := by with_unfolding_all rfl) : DE X W cm (.Compare a [.NotIn] [b] pos) (fNinQ f gq) := pe_imp (pe_cmpR (op_ninDat hr) ha hb hm) fun σ H Q q => t_inQ ninD_never ninD_bool q
theorem dt_inQ (hr : Room k X.A) (ha : DE X W cm a f) (hb : DQ X W cm b gq) (hm : behindInMarks .In b = false := by with_unfolding_all rfl) : DT X W cm (.Compare a [.In] [b] pos) (fB (fInQ f gq)) := pt_imp (pt_cmpR (op_inDat hr) ha hb hm) fun σ H Q q => t_inQ inD_never inD_bool (t_test q)
theorem dt_ninQ (hr : Room k X.A) (ha : DE X W cm a f) (hb : DQ X W cm b gq) (hm : behindInMarks .NotIn b = false := by with_unfolding_all rfl) : DT X W cm (.Compare a [.NotIn] [b] pos) (fB (fNinQ f gq)) := pt_imp (pt_cmpR (op_ninDat hr) ha hb hm) fun σ H Q q => t_inQ ninD_never ninD_bool (t_test q)
theorem ixD_list {ds : List PyData} {d r : PyData} (h : ixD (.list ds) d = .ok r) : ∃ i, d = .int i ∧ atI ds i = some r := by
  cases d with
  | int i =>
    have h : (match atI ds i with | some d => Res.ok d | none => Res.no) = Res.ok r := h
    split at h
    · cases h; exact ⟨i, rfl, by assumption⟩
    · cases h
  | _ => cases h
theorem de_ixQ (ha : DQ X W cm a gq) (hb : DE X W cm b g) (hs : PlainIx b := by exact fun _ _ => rfl) : DE X W cm (.Subscript a b pos) (fIxQ gq g) :=
  pe_imp (pe_ix ix_seq ha hb hs) fun σ H Q q => by
    obtain ⟨G0, H0, G, env, ok, q⟩ := q
    refine tQ.go ok ((Res.sat_bind.mp q).imp (fun e _ k a vs G1 H1 g1 ok1 hs da => ?_) fun _ z => z)
    refine tD.go ok1 ((Res.sat_bind.mp k).imp (fun d _ k2 v G2 H2 g2 ok2 dp => ?_) fun _ z => z.grow g1)
    obtain ⟨r, er, k3⟩ := sat_ok (ixD_never _ d) k2
    obtain ⟨i, rfl, hi⟩ := ixD_list er
    obtain ⟨z, hz, dz⟩ := dpAll_atI da hi
    cases dp
    have fin := k3 z G2 H2 (g1.trans g2) (dp_mono g2.g _ _ dz)
    rcases (hs.same g2.g g2.h).or ok2.gh with h1 | h1
    · exact .inl ⟨_, _, _, z, rfl, rfl, h1, hz, fin⟩
    · exact .inr (.inl ⟨_, _, _, z, rfl, rfl, h1, hz, fin⟩)
end
end GL

/-! # The data layer, part d: calls of built-ins, methods of texts, slices, isinstance, calls of defs -/
namespace GL
open PySem PySem.Spec PyProof.Rows L2

def fCall (o : List PyData → Res PyData) (f : En → Res (List PyData)) : En → Res PyData := fun env => (f env).bind o
def rCall (K : PySem.W.Frag) (o : List PyData → Res PyData) : List V → Hp → VK → Prop := fun vs H Q => ∃ G ds r, Same G H ∧ DpAll K G vs ds ∧ o ds = .ok r ∧ ∀ v G' H', Grow G H G' H' → Dp K G' v r → Q v H'
def fCQ (o : Bool × List PyData → Res PyData) (f : En → Res (Bool × List PyData)) : En → Res PyData := fun env => (f env).bind o
def fCQL (o : Bool × List PyData → Res (List PyData)) (f : En → Res (Bool × List PyData)) : En → Res (List PyData) := fun env => (f env).bind o
def rCallQ (K : PySem.W.Frag) (o : Bool × List PyData → Res PyData) : List V → Hp → VK → Prop := fun vs H Q => ∃ G a ws q r, vs = [.ref a] ∧ Same G H ∧ SqB K q.1 G H a ws ∧ DpAll K G ws q.2 ∧ o q = .ok r ∧ ∀ v G' H', Grow G H G' H' → Dp K G' v r → Q v H'
def rCallQL (K : PySem.W.Frag) (o : Bool × List PyData → Res (List PyData)) : List V → Hp → VK → Prop := fun vs H Q => ∃ G a ws q r, vs = [.ref a] ∧ Same G H ∧ SqB K q.1 G H a ws ∧ DpAll K G ws q.2 ∧ o q = .ok r ∧
  ∀ p us G' H', Grow G H G' H' → H p = none → G' p = none → H' p = some (.lst us) → DpAll K G' us r → Q (.ref p) H'
section
variable {X : Cx} {W : WX} {cm : Str → Addr} {x : Str} {p pos : Pos} {e : Expr} {es : List Expr} {id T : String}
theorem t_call {P : Program} {w : World} {K : PySem.W.Frag} {o : List PyData → Res PyData} {f : En → Res (List PyData)} (n : ∀ ds, Never (o ds)) {σ : L2.St} {H : Hp} {Q : VK} (q : tD P w K W cm (fCall o f) σ H Q) : tCB (rCall K o) (tA P w K W cm f) σ H Q := by
  obtain ⟨G0, H0, G, env, ok, q⟩ := q
  refine tA.go ok ((Res.sat_bind.mp q).imp (fun ds _ k vs G1 H1 g1 ok1 da => ?_) fun _ z => z)
  obtain ⟨r, er, k3⟩ := sat_ok (n ds) k
  exact ⟨G1, ds, r, ok1.gh, da, er, fun v G' H' g' dr => k3 v G' H' (g1.trans g') dr⟩
theorem de_callB {o : List PyData → Res PyData} {f : En → Res (List PyData)} (hc : CallR X (.builtin id) (rCall X.K o)) (n : ∀ ds, Never (o ds)) (hg : Gl X x) (hm : X.mg x = none) (hv : bootBuiltins x = some (.builtin id)) (ha : DA X W cm (e :: es) f) (hn : x ≠ "__name__" := by decide) (hdb : (x == ("__debug__" : Str)) = false := by decide)
    (he : starEach (e :: es) X.env = (false, eval e X.env) :: starEach es X.env := by rfl) (hpl : (backTo pos (starEach es X.env)).any (·.1) = false := by rfl) : DE X W cm (.Call (.Name x p) (e :: es) [] pos) (fCall o f) :=
  pe_imp (pe_callB hc hg hm hv ha hn hdb he hpl) fun σ H Q q => t_call n q
theorem de_callTy {o : List PyData → Res PyData} {f : En → Res (List PyData)} (hc : CallR X (.type T) (rCall X.K o)) (n : ∀ ds, Never (o ds)) (hg : Gl X x) (hm : X.mg x = none) (hv : bootBuiltins x = some (.type T)) (ha : DA X W cm (e :: es) f) (hn : x ≠ "__name__" := by decide) (hdb : (x == ("__debug__" : Str)) = false := by decide)
    (he : starEach (e :: es) X.env = (false, eval e X.env) :: starEach es X.env := by rfl) (hpl : (backTo pos (starEach es X.env)).any (·.1) = false := by rfl) : DE X W cm (.Call (.Name x p) (e :: es) [] pos) (fCall o f) :=
  pe_imp (pe_callTy hc hg hm hv ha hn hdb he hpl) fun σ H Q q => t_call n q
theorem t_callQ {P : Program} {w : World} {K : PySem.W.Frag} {o : Bool × List PyData → Res PyData} {f : En → Res (Bool × List PyData)} (n : ∀ ds, Never (o ds)) {σ : L2.St} {H : Hp} {Q : VK} (q : tD P w K W cm (fCQ o f) σ H Q) : tCB (rCallQ K o) (tCons (tQ P w K W cm f) tNil) σ H Q := by
  obtain ⟨G0, H0, G, env, ok, q⟩ := q
  show tQ P w K W cm f σ H fun x H1 => rCallQ K o [x] H1 Q
  refine tQ.go ok ((Res.sat_bind.mp q).imp (fun ds _ k a vs G1 H1 g1 ok1 hs da => ?_) fun _ z => z)
  obtain ⟨r, er, k3⟩ := sat_ok (n ds) k
  exact ⟨G1, a, vs, ds, r, rfl, ok1.gh, hs, da, er, fun v G' H' g' dr => k3 v G' H' (g1.trans g') dr⟩
theorem t_callQL {P : Program} {w : World} {K : PySem.W.Frag} {o : Bool × List PyData → Res (List PyData)} {f : En → Res (Bool × List PyData)} (n : ∀ ds, Never (o ds)) {σ : L2.St} {H : Hp} {Q : VK} (q : tL P w K W cm (fCQL o f) σ H Q) : tCB (rCallQL K o) (tCons (tQ P w K W cm f) tNil) σ H Q := by
  obtain ⟨G0, H0, G, env, ok, q⟩ := q
  show tQ P w K W cm f σ H fun x H1 => rCallQL K o [x] H1 Q
  refine tQ.go ok ((Res.sat_bind.mp q).imp (fun ds _ k a vs G1 H1 g1 ok1 hs da => ?_) fun _ z => z)
  obtain ⟨r, er, k3⟩ := sat_ok (n ds) k
  exact ⟨G1, a, vs, ds, r, rfl, ok1.gh, hs, da, er, fun p us G' H' g' h1 h2 h3 dr => k3 p us G' H' (g1.trans g') (g1.h.free h1) h2 h3 dr⟩
variable {f : En → Res (Bool × List PyData)}
theorem de_callBQ {o : Bool × List PyData → Res PyData} (hc : CallR X (.builtin id) (rCallQ X.K o)) (n : ∀ ds, Never (o ds)) (hg : Gl X x) (hm : X.mg x = none) (hv : bootBuiltins x = some (.builtin id)) (ha : DQ X W cm e f) (hn : x ≠ "__name__" := by decide) (hdb : (x == ("__debug__" : Str)) = false := by decide)
    (he : starEach [e] X.env = [(false, eval e X.env)] := by rfl) : DE X W cm (.Call (.Name x p) [e] [] pos) (fCQ o f) :=
  pe_imp (pe_callB hc hg hm hv (pa_cons ha pa_nil he) hn hdb he rfl) fun σ H Q q => t_callQ n q
theorem de_callTyQ {o : Bool × List PyData → Res PyData} (hc : CallR X (.type T) (rCallQ X.K o)) (n : ∀ ds, Never (o ds)) (hg : Gl X x) (hm : X.mg x = none) (hv : bootBuiltins x = some (.type T)) (ha : DQ X W cm e f) (hn : x ≠ "__name__" := by decide) (hdb : (x == ("__debug__" : Str)) = false := by decide)
    (he : starEach [e] X.env = [(false, eval e X.env)] := by rfl) : DE X W cm (.Call (.Name x p) [e] [] pos) (fCQ o f) :=
  pe_imp (pe_callTy hc hg hm hv (pa_cons ha pa_nil he) hn hdb he rfl) fun σ H Q q => t_callQ n q
theorem dl_callBQ {o : Bool × List PyData → Res (List PyData)} (hc : CallR X (.builtin id) (rCallQL X.K o)) (n : ∀ ds, Never (o ds)) (hg : Gl X x) (hm : X.mg x = none) (hv : bootBuiltins x = some (.builtin id)) (ha : DQ X W cm e f) (hn : x ≠ "__name__" := by decide) (hdb : (x == ("__debug__" : Str)) = false := by decide)
    (he : starEach [e] X.env = [(false, eval e X.env)] := by rfl) : DL X W cm (.Call (.Name x p) [e] [] pos) (fCQL o f) :=
  pe_imp (pe_callB hc hg hm hv (pa_cons ha pa_nil he) hn hdb he rfl) fun σ H Q q => t_callQL n q
theorem dl_callTyQ {o : Bool × List PyData → Res (List PyData)} (hc : CallR X (.type T) (rCallQL X.K o)) (n : ∀ ds, Never (o ds)) (hg : Gl X x) (hm : X.mg x = none) (hv : bootBuiltins x = some (.type T)) (ha : DQ X W cm e f) (hn : x ≠ "__name__" := by decide) (hdb : (x == ("__debug__" : Str)) = false := by decide)
    (he : starEach [e] X.env = [(false, eval e X.env)] := by rfl) : DL X W cm (.Call (.Name x p) [e] [] pos) (fCQL o f) :=
  pe_imp (pe_callTy hc hg hm hv (pa_cons ha pa_nil he) hn hdb he rfl) fun σ H Q q => t_callQL n q
end

/-! ### the built-ins themselves -/
/-- none of the built-in names is bound by the program -/
structure Blt (mg : Str → Option Value) : Prop where
  len : mg "len" = none
  range : mg "range" = none
  tuple : mg "tuple" = none
  list : mg "list" = none
  str : mg "str" = none
  int : mg "int" = none
  bool : mg "bool" = none
  sorted : mg "sorted" = none
  set : mg "set" = none
  all : mg "all" = none
  any : mg "any" = none
  isinstance : mg "isinstance" = none
  zip : mg "zip" = none
  enumerate : mg "enumerate" = none
  sum : mg "sum" = none
  min : mg "min" = none
  dict : mg "dict" = none
  valueError : mg "ValueError" = none

def lenD : List PyData → Res PyData
  | [.str y] => if y.length ≤ sizeLine then .ok (.int y.length) else .no
  | [.list ds] => .ok (.int ds.length)
  | [.tuple ds] => .ok (.int ds.length)
  | _ => .no
def lenQ : Bool × List PyData → Res PyData := fun q => .ok (.int q.2.length)
def strD : List PyData → Res PyData
  | [.int i] => if i.natAbs.log2 < 1920 then .ok (.str (toString i)) else .no
  | _ => .no
def intD : List PyData → Res PyData
  | [.int i] => .ok (.int i)
  | [.bool b] => .ok (.int (if b then 1 else 0))
  | [.str a] => match PySem.intText? a with
    | some n => if a.length ≤ 640 then .ok (.int n) else .no
    | none => .no
  | _ => .no
def tupleQ : Bool × List PyData → Res PyData := fun q => .ok (.tuple q.2)
def listQ : Bool × List PyData → Res (List PyData) := fun q => .ok q.2
def boolsOf : List PyData → Option (List Bool)
  | [] => some []
  | .bool b :: r => (boolsOf r).map fun bs => b :: bs
  | _ => none
def intsOf : List PyData → Option (List Int)
  | [] => some []
  | .int i :: r => (intsOf r).map fun bs => i :: bs
  | _ => none
def strsOf : List PyData → Option (List Str)
  | [] => some []
  | .str x :: r => (strsOf r).map fun bs => x :: bs
  | _ => none
def allQ : Bool × List PyData → Res PyData
  | (false, ds) => match boolsOf ds with
    | some bs => .ok (.bool (bs.all id))
    | none => .no
  | _ => .no
def anyQ : Bool × List PyData → Res PyData
  | (false, ds) => match boolsOf ds with
    | some bs => .ok (.bool (bs.any id))
    | none => .no
  | _ => .no
def sumQ : Bool × List PyData → Res PyData
  | (false, ds) => match intsOf ds with
    | some ns => .ok (.int ns.sum)
    | none => .no
  | _ => .no
/-- the order of data by Python's <, where they are alike -/
def allAlike : List PyData → Bool
  | [] => true
  | d :: ds => (d :: ds).all fun x => (d :: ds).all fun y => PySem.W.alike x y
def sortable (ds : List PyData) : Bool := (ds.all fun d => match d with
  | .tuple (_ :: _) => true
  | _ => false) || ds.all fun d => match d with
  | .none => false
  | .tuple _ => false
  | _ => true
def sortD (ds : List PyData) : List PyData := ds.mergeSort (PySem.W.dataLe false id)
def sortedQ : Bool × List PyData → Res (List PyData)
  | (false, ds) => if (allAlike ds && sortable ds && ds.all fun d => decide (d.depth ≤ 8)) = true then .ok (sortD ds) else .no
  | _ => .no
theorem lenD_never (ds : List PyData) : Never (lenD ds) := by unfold lenD; split <;> first | exact never_ok _ | exact never_no | exact never_ite (never_ok _) never_no
theorem strD_never (ds : List PyData) : Never (strD ds) := by unfold strD; split <;> first | exact never_ok _ | exact never_no | exact never_ite (never_ok _) never_no
theorem intD_never (ds : List PyData) : Never (intD ds) := by
  unfold intD
  split
  · exact never_ok _
  · exact never_ok _
  · split <;> first | exact never_no | exact never_ite (never_ok _) never_no
  · exact never_no
theorem allQ_never (q : Bool × List PyData) : Never (allQ q) := by
  unfold allQ
  split
  · split <;> first | exact never_ok _ | exact never_no
  · exact never_no
theorem anyQ_never (q : Bool × List PyData) : Never (anyQ q) := by
  unfold anyQ
  split
  · split <;> first | exact never_ok _ | exact never_no
  · exact never_no
theorem sumQ_never (q : Bool × List PyData) : Never (sumQ q) := by
  unfold sumQ
  split
  · split <;> first | exact never_ok _ | exact never_no
  · exact never_no
theorem sortedQ_never (q : Bool × List PyData) : Never (sortedQ q) := by
  unfold sortedQ
  split
  · exact never_ite (never_ok _) never_no
  · exact never_no
theorem dp_bools {K : PySem.W.Frag} {G : Hp} : ∀ {ds : List PyData} {vs : List V} {bs : List Bool}, DpAll K G vs ds → boolsOf ds = some bs → vs = bs.map V.bl
  | [], _, _, h, e => by cases h; cases e; rfl
  | .bool b :: r, _, bs, h, e => by
    cases h with
    | cons h1 h2 =>
      cases h1
      unfold boolsOf at e
      cases q : boolsOf r with
      | none => rw [q] at e; cases e
      | some bs' => rw [q] at e; cases e; rw [dp_bools h2 q]; rfl
  | .none :: _, _, _, _, e => by cases e
  | .int _ :: _, _, _, _, e => by cases e
  | .str _ :: _, _, _, _, e => by cases e
  | .list _ :: _, _, _, _, e => by cases e
  | .tuple _ :: _, _, _, _, e => by cases e
  | .dict _ :: _, _, _, _, e => by cases e
theorem dp_ints {K : PySem.W.Frag} {G : Hp} : ∀ {ds : List PyData} {vs : List V} {bs : List Int}, DpAll K G vs ds → intsOf ds = some bs → vs = bs.map V.int
  | [], _, _, h, e => by cases h; cases e; rfl
  | .int b :: r, _, bs, h, e => by
    cases h with
    | cons h1 h2 =>
      cases h1
      unfold intsOf at e
      cases q : intsOf r with
      | none => rw [q] at e; cases e
      | some bs' => rw [q] at e; cases e; rw [dp_ints h2 q]; rfl
  | .none :: _, _, _, _, e => by cases e
  | .bool _ :: _, _, _, _, e => by cases e
  | .str _ :: _, _, _, _, e => by cases e
  | .list _ :: _, _, _, _, e => by cases e
  | .tuple _ :: _, _, _, _, e => by cases e
  | .dict _ :: _, _, _, _, e => by cases e
theorem dp_strs {K : PySem.W.Frag} {G : Hp} : ∀ {ds : List PyData} {vs : List V} {bs : List Str}, DpAll K G vs ds → strsOf ds = some bs → vs = bs.map V.str
  | [], _, _, h, e => by cases h; cases e; rfl
  | .str b :: r, _, bs, h, e => by
    cases h with
    | cons h1 h2 =>
      cases h1
      unfold strsOf at e
      cases q : strsOf r with
      | none => rw [q] at e; cases e
      | some bs' => rw [q] at e; cases e; rw [dp_strs h2 q]; rfl
  | .none :: _, _, _, _, e => by cases e
  | .bool _ :: _, _, _, _, e => by cases e
  | .int _ :: _, _, _, _, e => by cases e
  | .list _ :: _, _, _, _, e => by cases e
  | .tuple _ :: _, _, _, _, e => by cases e
  | .dict _ :: _, _, _, _, e => by cases e
section
variable {X : Cx}
theorem callR_imp {f : Value} {r r' : List V → Hp → VK → Prop} (h : CallR X f r) (i : ∀ xs H Q, r' xs H Q → r xs H Q) : CallR X f r' := fun pins s σ H xs us Q I rv q => h pins s σ H xs us Q I rv (i _ _ _ q)
theorem call_lenD : CallR X (.builtin "len") (rCall X.K lenD) := callR_imp call_len fun xs H Q h => by
  obtain ⟨G, ds, r, gh, da, er, q⟩ := h
  unfold lenD at er
  split at er
  · obtain ⟨hl, rfl⟩ := ok_of_ite er
    cases da with
    | cons d1 d2 => cases d2; cases d1; exact ⟨_, _, rfl, ⟨hl, rfl⟩, q _ G H (Grow.refl gh) (.int _)⟩
  · cases er
    cases da with
    | cons d1 d2 =>
      cases d2
      cases d1 with
      | lst hs ha => exact ⟨_, _, rfl, .inl ⟨_, gh.seq hs, (dpAll_length ha).symm⟩, q _ G H (Grow.refl gh) (.int _)⟩
  · cases er
    cases da with
    | cons d1 d2 =>
      cases d2
      cases d1 with
      | tup hs ha => exact ⟨_, _, rfl, .inr ⟨_, same_t gh hs, (dpAll_length ha).symm⟩, q _ G H (Grow.refl gh) (.int _)⟩
  · cases er
theorem call_lenQ : CallR X (.builtin "len") (rCallQ X.K lenQ) := callR_imp call_len fun xs H Q h => by
  obtain ⟨G, a, ws, qq, r, rfl, gh, hs, da, er, q⟩ := h
  cases er
  refine ⟨_, qq.2.length, rfl, ?_, q _ G H (Grow.refl gh) (.int _)⟩
  rcases hs.or gh with h | h
  · exact .inl ⟨_, h, (dpAll_length da).symm⟩
  · exact .inr ⟨_, h, (dpAll_length da).symm⟩
theorem call_strD : CallR X (.type "str") (rCall X.K strD) := callR_imp call_str_int fun xs H Q h => by
  obtain ⟨G, ds, r, gh, da, er, q⟩ := h
  unfold strD at er
  split at er
  · obtain ⟨hl, rfl⟩ := ok_of_ite er
    cases da with
    | cons d1 d2 => cases d2; cases d1; exact ⟨_, rfl, hl, q _ G H (Grow.refl gh) (.str _)⟩
  · cases er
theorem call_intD : CallR X (.type "int") (rCall X.K intD) := callR_imp (call_int1.or call_int_str) fun xs H Q h => by
  obtain ⟨G, ds, r, gh, da, er, q⟩ := h
  unfold intD at er
  split at er
  · cases er
    cases da with
    | cons d1 d2 => cases d2; cases d1; exact .inl (.inl ⟨_, rfl, q _ G H (Grow.refl gh) (.int _)⟩)
  · cases er
    cases da with
    | cons d1 d2 => cases d2; cases d1; exact .inl (.inr ⟨_, rfl, q _ G H (Grow.refl gh) (.int _)⟩)
  · split at er
    · rename_i hn
      obtain ⟨hl, rfl⟩ := ok_of_ite er
      cases da with
      | cons d1 d2 => cases d2; cases d1; exact .inr ⟨_, _, rfl, hn, hl, q _ G H (Grow.refl gh) (.int _)⟩
    · cases er
  · cases er
theorem call_tupleQ : CallR X (.type "tuple") (rCallQ X.K tupleQ) := callR_imp call_tuple_of fun xs H Q h => by
  obtain ⟨G, a, ws, qq, r, rfl, gh, hs, da, er, q⟩ := h
  cases er
  refine ⟨a, ws, rfl, ?_⟩
  obtain ⟨b, ds⟩ := qq
  cases b with
  | false => exact .inl ⟨hs.l, fun l hl => q _ _ _ (Grow.still gh hl) (.tup (.inl (.inl upd_same)) (dpAll_mono (same_new (gh.free hl)) _ _ da))⟩
  | true =>
    exact .inr ⟨same_t gh hs.t, q _ G H (Grow.refl gh) (.tup hs.t da)⟩
end
end GL

/-! # The data layer, part e: more built-ins, isinstance, slices, methods of texts, calls of defs -/
namespace GL
open PySem PySem.Spec PyProof.Rows L2
section
variable {X : Cx}
theorem call_listQ : CallR X (.type "list") (rCallQL X.K listQ) := callR_imp call_list_of fun xs H Q h => by
  obtain ⟨G, a, ws, qq, r, rfl, gh, hs, da, er, q⟩ := h
  cases er
  exact ⟨a, ws, rfl, hs.or gh, fun l hl => q l ws G _ (Grow.fresh gh hl) hl (gh.free hl) upd_same da⟩
theorem call_allQ (hc : X.calm = true) : CallR X (.builtin "all") (rCallQ X.K allQ) := callR_imp (cr_all hc) fun xs H Q h => by
  obtain ⟨G, a, ws, qq, r, rfl, gh, hs, da, er, q⟩ := h
  unfold allQ at er
  split at er
  · split at er
    · rename_i bs hb
      cases er
      have e := dp_bools da hb
      subst e
      exact ⟨a, bs, rfl, hs.l, q _ G H (Grow.refl gh) (.bl _)⟩
    · cases er
  · cases er
theorem call_anyQ (hc : X.calm = true) : CallR X (.builtin "any") (rCallQ X.K anyQ) := callR_imp (cr_any hc) fun xs H Q h => by
  obtain ⟨G, a, ws, qq, r, rfl, gh, hs, da, er, q⟩ := h
  unfold anyQ at er
  split at er
  · split at er
    · rename_i bs hb
      cases er
      have e := dp_bools da hb
      subst e
      exact ⟨a, bs, rfl, hs.l, q _ G H (Grow.refl gh) (.bl _)⟩
    · cases er
  · cases er
theorem call_sumQ (hc : X.calm = true) : CallR X (.builtin "sum") (rCallQ X.K sumQ) := callR_imp (cr_sum hc) fun xs H Q h => by
  obtain ⟨G, a, ws, qq, r, rfl, gh, hs, da, er, q⟩ := h
  unfold sumQ at er
  split at er
  · split at er
    · rename_i bs hb
      cases er
      have e := dp_ints da hb
      subst e
      exact ⟨a, bs, rfl, hs.l, q _ G H (Grow.refl gh) (.int _)⟩
    · cases er
  · cases er
/-- values that stand for data -/
def Stands (K : PySem.W.Frag) (G : Hp) (u : Value) (d : PyData) : Prop := ∃ x : V, RelV x u ∧ Dp K G x d
theorem stands_each {K : PySem.W.Frag} {G : Hp} : ∀ {vs : List V} {ds : List PyData} {us : List Value}, DpAll K G vs ds → Vals vs us → PySem.W.EachIs (Stands K G) us ds
  | _, _, _, .nil, .nil => .nil
  | _, _, _, .cons d1 d2, .cons r1 r2 => .cons ⟨_, r1, d1⟩ (stands_each d2 r2)
theorem each_stands {K : PySem.W.Frag} {G : Hp} : ∀ {us : List Value} {ds : List PyData}, PySem.W.EachIs (Stands K G) us ds → ∃ vs, Vals vs us ∧ DpAll K G vs ds
  | _, _, .nil => ⟨[], .nil, .nil⟩
  | _, _, .cons ⟨x, r, d⟩ t => by
    obtain ⟨vs, h1, h2⟩ := each_stands t
    exact ⟨x :: vs, .cons r h1, .cons d h2⟩
theorem each_reads {pins : List (Addr × Obj)} {σ : L2.St} {H G : Hp} {s : Shared} (I : L2.Inv X pins σ H s) (gh : Same G H) : ∀ {vs : List V} {ds : List PyData} {us : List Value}, DpAll X.K G vs ds → Vals vs us → PySem.W.EachIs (fun v b => ∃ as, Reads s.heap v (id b) as) us ds
  | _, _, _, .nil, .nil => .nil
  | _, _, _, .cons d1 d2, .cons r1 r2 => .cons (Dp.reads I _ _ _ (dp_mono gh _ _ d1) r1) (each_reads I gh d2 r2)
theorem allAlike_ok {ds : List PyData} (h : allAlike ds = true) : PySem.W.AllAlike (ds.map id) := by
  rw [List.map_id]
  cases ds with
  | nil => exact fun d hd => by cases hd
  | cons d0 r =>
    have h : ((d0 :: r).all fun x => (d0 :: r).all fun y => PySem.W.alike x y) = true := h
    rw [List.all_eq_true] at h
    intro d hd d' hd'
    have h1 := h d hd
    rw [List.all_eq_true] at h1
    exact h1 d' hd'
theorem sortable_ok {ds : List PyData} (h : sortable ds = true) : PySem.W.Sortable (ds.map id) := by
  rw [List.map_id]
  unfold sortable at h
  rw [Bool.or_eq_true, List.all_eq_true, List.all_eq_true] at h
  rcases h with h | h
  · refine .inl fun d hd => ?_
    have q := h d hd
    split at q
    · exact ⟨_, _, rfl⟩
    · cases q
  · refine .inr fun d hd => ?_
    have q := h d hd
    split at q
    · cases q
    · cases q
    · rename_i n1 n2
      exact ⟨n1, fun xs e => n2 xs e⟩
theorem call_sortedQ {k : Nat} (hr : Room k X.A) : CallR X (.builtin "sorted") (rCallQL X.K sortedQ) := by
  intro pins s σ H xs us Q I rv h
  obtain ⟨G, a, ws, qq, r, rfl, gh, hs, da, er, q⟩ := h
  unfold sortedQ at er
  split at er
  · obtain ⟨hl, rfl⟩ := ok_of_ite er
    rw [Bool.and_eq_true, Bool.and_eq_true, List.all_eq_true] at hl
    obtain ⟨⟨h1, h2⟩, h3⟩ := hl
    obtain ⟨its, rw', pl, hz⟩ := I.list hs.l
    rw [Vals.ref1 rv]
    have hun := hr.un
    refine PySem.W.sorted_data (enc := id) pl.isList (stands_each da rw') (each_reads I gh da rw') (allAlike_ok h1) (sortable_ok h2) (by rw [← dpAll_length da]; exact hz) (fun b hb => ?_) fun out hlen ho => ?_
    · have := of_decide_eq_true (h3 b hb)
      show X.A.units + 2 + b.depth < cLine
      omega
    · obtain ⟨vs, hv, dv⟩ := each_stands ho
      obtain ⟨ep, he'⟩ := PyProof.Rows.sortedAll_at s.heap its out.toArray
      have fr := I.hok.fresh (a := s.heap.objs.size + 1) (Nat.le_succ _)
      refine ⟨.ref _, upd H (s.heap.objs.size + 1) (.lst vs), I.laid (t' := s.toks) (fun _ _ => PyProof.Rows.sortedAll_old) (Nat.le_succ _) ⟨?_, out, ep, hv, he'⟩, rfl, ?_⟩
      · rw [hv.length, hlen, ← dpAll_length da]; exact hz
      · exact q _ vs G _ (Grow.fresh gh fr) fr (gh.free fr) upd_same dv
  · cases er
end
section
variable {X : Cx} {W : WX} {cm : Str → Addr} {e : Expr} {p pos : Pos} {f : En → Res PyData} {fq : En → Res (Bool × List PyData)} {k : Nat}
theorem de_len (T : Blt X.mg) (ha : DE X W cm e f) (hg : Gl X "len" := by rfl) (he : starEach [e] X.env = [(false, eval e X.env)] := by rfl) : DE X W cm (.Call (.Name "len" p) [e] [] pos) (fCall lenD (fCons f fNil)) := de_callB call_lenD lenD_never hg T.len PySem.boot_len (da_cons ha da_nil he) (by decide) (by decide) he rfl
theorem de_lenQ (T : Blt X.mg) (ha : DQ X W cm e fq) (hg : Gl X "len" := by rfl) (he : starEach [e] X.env = [(false, eval e X.env)] := by rfl) : DE X W cm (.Call (.Name "len" p) [e] [] pos) (fCQ lenQ fq) := de_callBQ call_lenQ (fun _ => never_ok _) hg T.len PySem.boot_len ha (by decide) (by decide) he
theorem de_strC (T : Blt X.mg) (ha : DE X W cm e f) (hg : Gl X "str" := by rfl) (he : starEach [e] X.env = [(false, eval e X.env)] := by rfl) : DE X W cm (.Call (.Name "str" p) [e] [] pos) (fCall strD (fCons f fNil)) := de_callTy call_strD strD_never hg T.str PyProof.Rows.boot_str (da_cons ha da_nil he) (by decide) (by decide) he rfl
theorem de_intC (T : Blt X.mg) (ha : DE X W cm e f) (hg : Gl X "int" := by rfl) (he : starEach [e] X.env = [(false, eval e X.env)] := by rfl) : DE X W cm (.Call (.Name "int" p) [e] [] pos) (fCall intD (fCons f fNil)) := de_callTy call_intD intD_never hg T.int PyProof.Rows.boot_int (da_cons ha da_nil he) (by decide) (by decide) he rfl
theorem de_tupQ (T : Blt X.mg) (ha : DQ X W cm e fq) (hg : Gl X "tuple" := by rfl) (he : starEach [e] X.env = [(false, eval e X.env)] := by rfl) : DE X W cm (.Call (.Name "tuple" p) [e] [] pos) (fCQ tupleQ fq) := de_callTyQ call_tupleQ (fun _ => never_ok _) hg T.tuple PyProof.Rows.boot_tuple ha (by decide) (by decide) he
theorem dl_listQ (T : Blt X.mg) (ha : DQ X W cm e fq) (hg : Gl X "list" := by rfl) (he : starEach [e] X.env = [(false, eval e X.env)] := by rfl) : DL X W cm (.Call (.Name "list" p) [e] [] pos) (fCQL listQ fq) := dl_callTyQ call_listQ (fun _ => never_ok _) hg T.list PyProof.Rows.boot_list ha (by decide) (by decide) he
theorem de_allQ (T : Blt X.mg) (hc : X.calm = true) (ha : DQ X W cm e fq) (hg : Gl X "all" := by rfl) (he : starEach [e] X.env = [(false, eval e X.env)] := by rfl) : DE X W cm (.Call (.Name "all" p) [e] [] pos) (fCQ allQ fq) := de_callBQ (call_allQ hc) allQ_never hg T.all PyProof.Rows.boot_all ha (by decide) (by decide) he
theorem de_anyQ (T : Blt X.mg) (hc : X.calm = true) (ha : DQ X W cm e fq) (hg : Gl X "any" := by rfl) (he : starEach [e] X.env = [(false, eval e X.env)] := by rfl) : DE X W cm (.Call (.Name "any" p) [e] [] pos) (fCQ anyQ fq) := de_callBQ (call_anyQ hc) anyQ_never hg T.any PyProof.Rows.boot_any ha (by decide) (by decide) he
theorem de_sumQ (T : Blt X.mg) (hc : X.calm = true) (ha : DQ X W cm e fq) (hg : Gl X "sum" := by rfl) (he : starEach [e] X.env = [(false, eval e X.env)] := by rfl) : DE X W cm (.Call (.Name "sum" p) [e] [] pos) (fCQ sumQ fq) := de_callBQ (call_sumQ hc) sumQ_never hg T.sum PyProof.Rows.boot_sum ha (by decide) (by decide) he
theorem dl_sortedQ (T : Blt X.mg) (hr : Room k X.A) (ha : DQ X W cm e fq) (hg : Gl X "sorted" := by rfl) (he : starEach [e] X.env = [(false, eval e X.env)] := by rfl) : DL X W cm (.Call (.Name "sorted" p) [e] [] pos) (fCQL sortedQ fq) := dl_callBQ (call_sortedQ hr) sortedQ_never hg T.sorted PyProof.Rows.boot_sorted ha (by decide) (by decide) he

/-! ### isinstance -/
def tyName : PyData → String
  | .none => "NoneType"
  | .bool _ => "bool"
  | .int _ => "int"
  | .str _ => "str"
  | .list _ => "list"
  | .tuple _ => "tuple"
  | .dict _ => "dict"
/-- the built-in classes that are asked for -/
inductive Ty where
  | int | bool | str | tuple | list
def Ty.name : Ty → String
  | .int => "int"
  | .bool => "bool"
  | .str => "str"
  | .tuple => "tuple"
  | .list => "list"
def isTy : Ty → PyData → Bool
  | .int, .int _ => true
  | .int, .bool _ => true
  | .bool, .bool _ => true
  | .str, .str _ => true
  | .tuple, .tuple _ => true
  | .list, .list _ => true
  | _, _ => false
theorem kit_tab : (["NoneType", "bool", "int", "str", "list", "tuple"].map fun a => [Ty.int, .bool, .str, .tuple, .list].map fun b => kitB a b.name) =
    [[some false, some false, some false, some false, some false], [some true, some true, some false, some false, some false], [some true, some false, some false, some false, some false],
     [some false, some false, some true, some false, some false], [some false, some false, some false, some false, some true], [some false, some false, some false, some true, some false]] := by decide +kernel
theorem kit_isTy {T : Ty} {K : PySem.W.Frag} {G : Hp} {v : V} {d : PyData} (h : Dp K G v d) : kitB (tyName d) T.name = some (isTy T d) := by
  have t := kit_tab
  simp only [List.map_cons, List.map_nil, List.cons.injEq, and_true] at t
  obtain ⟨⟨a1, a2, a3, a4, a5⟩, ⟨b1, b2, b3, b4, b5⟩, ⟨c1, c2, c3, c4, c5⟩, ⟨d1, d2, d3, d4, d5⟩, ⟨e1, e2, e3, e4, e5⟩, f1, f2, f3, f4, f5⟩ := t
  cases h <;> cases T <;> assumption
theorem tyX_of {K : PySem.W.Frag} {G H : Hp} {v : V} {d : PyData} (gh : Same G H) (h : Dp K G v d) : TyX K H v (.type (tyName d)) := by
  cases h with
  | non => exact .base .non
  | bl b => exact .base (.bl b)
  | int i => exact .base (.int i)
  | str x => exact .base (.str x)
  | lst hs _ =>
    rcases gh.seq hs with (h | ⟨o, h⟩) | ⟨o, its, n, h1, h2, _⟩
    · exact .base (.lst h)
    · exact .base (.frz h)
    · exact .kList h1 h2
  | tup hs _ =>
    rcases same_t gh hs with (h | ⟨o, h⟩) | ⟨o, its, n, h1, h2, _⟩
    · exact .base (.tup h)
    · exact .fTuple h
    · exact .kTuple h1 h2
def fIsi (T : Ty) (f : En → Res PyData) : En → Res PyData := fun env => (f env).map fun d => .bool (isTy T d)
theorem de_isi (B : Blt X.mg) (T : Ty) {y : Str} {p2 : Pos} (ha : DE X W cm e f) (hy : PE X (.Name y p2) (tC (.ty T.name))) (hg : Gl X "isinstance" := by rfl)
    (he : starEach [e, .Name y p2] X.env = (false, eval e X.env) :: starEach [.Name y p2] X.env := by rfl) (he2 : starEach [.Name y p2] X.env = [(false, eval (.Name y p2) X.env)] := by rfl) (hpl : (backTo pos (starEach [.Name y p2] X.env)).any (·.1) = false := by rfl) :
    DE X W cm (.Call (.Name "isinstance" p) [e, .Name y p2] [] pos) (fIsi T f) :=
  pe_imp (pe_callB call_isi hg B.isinstance PyProof.Rows.boot_isinstance (pa_cons ha (pa_cons hy pa_nil he2) he) (by decide) (by decide) he hpl) fun σ H Q q => by
    obtain ⟨G0, H0, G, env, ok, q⟩ := q
    show tD X.prog X.w X.K W cm f σ H fun x H1 => rIsi X.K [x, .ty T.name] H1 Q
    refine tD.go ok ((Res.sat_map.mp q).imp (fun d _ k v G1 H1 g1 ok1 dp => ?_) fun _ z => z)
    exact ⟨v, .ty T.name, _, _, _, rfl, .ty _, tyX_of ok1.gh dp, kit_ty (kit_isTy dp), k _ G1 H1 g1 (.bl _)⟩
theorem pe_tyName {y : Str} {T : Ty} {p2 : Pos} (hg : Gl X y) (hm : X.mg y = none) (hv : bootBuiltins y = some (.type T.name)) (hn : y ≠ "__name__" := by decide) (hd : (y == ("__debug__" : Str)) = false := by decide) : PE X (.Name y p2) (tC (.ty T.name)) := pe_bltn (v := .ty T.name) hg hm hv rfl hn hd
theorem ty_int (B : Blt X.mg) {p2 : Pos} (hg : Gl X "int" := by rfl) : PE X (.Name "int" p2) (tC (.ty Ty.int.name)) := pe_tyName (T := .int) hg B.int PyProof.Rows.boot_int
theorem ty_bool (B : Blt X.mg) {p2 : Pos} (hg : Gl X "bool" := by rfl) : PE X (.Name "bool" p2) (tC (.ty Ty.bool.name)) := pe_tyName (T := .bool) hg B.bool PyProof.Rows.boot_bool
theorem ty_str (B : Blt X.mg) {p2 : Pos} (hg : Gl X "str" := by rfl) : PE X (.Name "str" p2) (tC (.ty Ty.str.name)) := pe_tyName (T := .str) hg B.str PyProof.Rows.boot_str
theorem ty_tuple (B : Blt X.mg) {p2 : Pos} (hg : Gl X "tuple" := by rfl) : PE X (.Name "tuple" p2) (tC (.ty Ty.tuple.name)) := pe_tyName (T := .tuple) hg B.tuple PyProof.Rows.boot_tuple
theorem ty_list (B : Blt X.mg) {p2 : Pos} (hg : Gl X "list" := by rfl) : PE X (.Name "list" p2) (tC (.ty Ty.list.name)) := pe_tyName (T := .list) hg B.list PyProof.Rows.boot_list
/-- isinstance(x, (T, U)) -/
def fIsi2 (T U : Ty) (f : En → Res PyData) : En → Res PyData := fun env => (f env).map fun d => .bool (isTy T d || isTy U d)
theorem de_isi2 (B : Blt X.mg) (T U : Ty) {y z : Str} {p2 p3 p4 : Pos} {kk} (ha : DE X W cm e f) (hy : PE X (.Name y p2) (tC (.ty T.name))) (hz : PE X (.Name z p3) (tC (.ty U.name))) (hg : Gl X "isinstance" := by rfl)
    (he : starEach [e, .Tuple [.Name y p2, .Name z p3] kk p4] X.env = (false, eval e X.env) :: starEach [.Tuple [.Name y p2, .Name z p3] kk p4] X.env := by rfl)
    (he2 : starEach [.Tuple [.Name y p2, .Name z p3] kk p4] X.env = [(false, eval (.Tuple [.Name y p2, .Name z p3] kk p4) X.env)] := by rfl) (hpl : (backTo pos (starEach [.Tuple [.Name y p2, .Name z p3] kk p4] X.env)).any (·.1) = false := by rfl)
    (he3 : starEach [.Name y p2, .Name z p3] X.env = (false, eval (.Name y p2) X.env) :: starEach [.Name z p3] X.env := by rfl) (he4 : starEach [.Name z p3] X.env = [(false, eval (.Name z p3) X.env)] := by rfl) :
    DE X W cm (.Call (.Name "isinstance" p) [e, .Tuple [.Name y p2, .Name z p3] kk p4] [] pos) (fIsi2 T U f) :=
  pe_imp (pe_callB call_isiT hg B.isinstance PyProof.Rows.boot_isinstance (pa_cons ha (pa_cons (pe_tup (pa_cons hy (pa_cons hz pa_nil he4) he3)) pa_nil he2) he) (by decide) (by decide) he hpl) fun σ H Q q => by
    obtain ⟨G0, H0, G, env, ok, q⟩ := q
    show tD X.prog X.w X.K W cm f σ H fun x H1 => (2 ≤ sizeLine ∧ ∀ tp, H1 tp = none → rIsiT X.K [x, .ref tp] (upd H1 tp (.tup [.ty T.name, .ty U.name])) Q)
    refine tD.go ok ((Res.sat_map.mp q).imp (fun d _ k v G1 H1 g1 ok1 dp => ?_) fun _ z => z)
    refine ⟨by decide, fun tp hp => ?_⟩
    have gf := Grow.fresh (o := .tup [.ty T.name, .ty U.name]) ok1.gh hp
    refine ⟨v, tp, _, .type (tyName d), [.type T.name, .type U.name], isTy T d || isTy U d, rfl, upd_same, .cons (.ty _) (.cons (.ty _) .nil), tyX_of gf.gh dp, ?_, k _ G1 _ (g1.trans gf) (.bl _)⟩
    have k1 : PySem.W.kitOne X.K (.type (tyName d)) (.type T.name) = some (isTy T d) := kit_ty (kit_isTy dp)
    have k2 : PySem.W.kitOne X.K (.type (tyName d)) (.type U.name) = some (isTy U d) := kit_ty (kit_isTy dp)
    refine kitAny_cons k1 (fun h1 => ?_) (fun h1 => by rw [h1]; rfl)
    rw [h1, Bool.false_or]
    exact kitAny_cons k2 (fun h2 => by rw [h2]; exact kitAny_nil) (fun h2 => h2)

/-! ### slices -/
def tO (P : Program) (w : World) (K : PySem.W.Frag) (W : WX) (cm : Str → Addr) (f : En → Res (Option Int)) : TO := fun σ H Q => ∃ G0 H0 G env, OkG P w K G0 H0 G env σ H ∧ (f env).sat (fun o => ∀ G' H', Grow G H G' H' → Q o H') (exP W cm σ G H)
abbrev DO (X : Cx) (W : WX) (cm : Str → Addr) (e : Option Expr) (f : En → Res (Option Int)) : Prop := PO X e (tO X.prog X.w X.K W cm f)
theorem po_imp {e : Option Expr} {t t' : TO} (h : PO X e t) (i : ∀ σ H Q, t' σ H Q → t σ H Q) : PO X e t' := ⟨fun pins s σ H Q I q => h.run pins s σ H Q I (i σ H Q q)⟩
def asI : PyData → Res (Option Int)
  | .int i => .ok (some i)
  | _ => .no
def fON : En → Res (Option Int) := fun _ => .ok none
def fOS (f : En → Res PyData) : En → Res (Option Int) := fun env => (f env).bind asI
theorem do_n : DO X W cm none fON := po_imp po_none fun σ H Q q => by
  obtain ⟨G0, H0, G, env, ok, q⟩ := q
  exact q G H (Grow.refl ok.gh)
theorem do_s (h : DE X W cm e f) : DO X W cm (some e) (fOS f) := po_imp (po_some h) fun σ H Q q => by
  obtain ⟨G0, H0, G, env, ok, q⟩ := q
  refine tD.go ok ((Res.sat_bind.mp q).imp (fun d _ k v G1 H1 g1 ok1 dp => ?_) fun _ z => z)
  cases d with
  | int i => cases dp; exact ⟨i, rfl, k G1 H1 g1⟩
  | _ => exact k.elim
theorem tO.go {P : Program} {w : World} {K : PySem.W.Frag} {G0 H0 G H : Hp} {env : En} {σ : L2.St} {f : En → Res (Option Int)} {Q : Option Int → Hp → Prop} (ok : OkG P w K G0 H0 G env σ H) (h : (f env).sat (fun b => ∀ G' H', Grow G H G' H' → OkG P w K G0 H0 G' env σ H' → Q b H') (exP W cm σ G H)) : tO P w K W cm f σ H Q :=
  ⟨G0, H0, G, env, ok, h.imp (fun _ _ q G' H' g => q G' H' g (ok.grow g)) fun _ q => q⟩
def cutD (ds : List PyData) (lo hi : Option Int) : List PyData := (ds.drop (HT.sIx ds.length 0 lo)).take (HT.sIx ds.length ds.length hi - HT.sIx ds.length 0 lo)
def slD (d : PyData) (lo hi : Option Int) : Res PyData := match d with
  | .str z => if z.length ≤ sizeLine then .ok (.str (cutS z lo hi)) else .no
  | .tuple ds => .ok (.tuple (cutD ds lo hi))
  | .list ds => .ok (.list (cutD ds lo hi))
  | _ => .no
def fSl (f : En → Res PyData) (lo hi : En → Res (Option Int)) : En → Res PyData := fun env => (f env).bind fun d => (lo env).bind fun l => (hi env).bind fun h => slD d l h
theorem dpAll_cut {K : PySem.W.Frag} {G : Hp} {vs : List V} {ds : List PyData} {lo hi : Option Int} (h : DpAll K G vs ds) : DpAll K G (cutV vs lo hi) (cutD ds lo hi) := by
  unfold cutV cutD
  rw [dpAll_length h]
  exact dpAll_take _ (dpAll_drop _ h)
theorem cutD_whole {ds : List PyData} {lo hi : Option Int} (h : HT.sIx ds.length 0 lo = 0 ∧ HT.sIx ds.length ds.length hi = ds.length) : cutD ds lo hi = ds := by
  unfold cutD
  rw [h.1, h.2, List.drop_zero, Nat.sub_zero, List.take_length]
def rSlDat (K : PySem.W.Frag) : V → Option Int → Option Int → Hp → VK → Prop := fun x lo hi H Q => rSlS x lo hi H Q ∨ rSlA K x lo hi H Q ∨ rSlL K x lo hi H Q
theorem de_sl {lo hi : Option Expr} {fl fh : En → Res (Option Int)} {p2 : Pos} (ha : DE X W cm e f) (hl : DO X W cm lo fl) (hh : DO X W cm hi fh) : DE X W cm (.Subscript e (.Slice lo hi none p2) pos) (fSl f fl fh) :=
  pe_imp (pe_slice (sl_str.or (sl_tupA.or sl_list)) ha hl hh) fun σ H Q q => by
    obtain ⟨G0, H0, G, env, ok, q⟩ := q
    show tD X.prog X.w X.K W cm f σ H fun x H1 => tO X.prog X.w X.K W cm fl σ H1 fun l H2 => tO X.prog X.w X.K W cm fh σ H2 fun u H3 => rSlDat X.K x l u H3 Q
    refine tD.go ok ((Res.sat_bind.mp q).imp (fun d _ k v G1 H1 g1 ok1 dp => ?_) fun _ z => z)
    refine tO.go ok1 ((Res.sat_bind.mp k).imp (fun l _ k G2 H2 g2 ok2 => ?_) fun _ z => z.grow g1)
    refine tO.go ok2 ((Res.sat_bind.mp k).imp (fun u _ k G3 H3 g3 ok3 => ?_) fun _ z => z.grow (g1.trans g2))
    have g := (g1.trans g2).trans g3
    have dp3 := dp_mono (g2.trans g3).g _ _ dp
    cases d with
    | str z =>
      have k : (if z.length ≤ sizeLine then Res.ok (PyData.str (cutS z l u)) else Res.no).sat _ _ := k
      split at k
      · rename_i hl; cases dp; exact .inl ⟨z, rfl, hl, k _ G3 H3 g (.str _)⟩
      · exact k.elim
    | tuple ds =>
      cases dp3 with
      | tup hs ha =>
        refine .inr (.inl ⟨_, _, rfl, same_t ok3.gh hs, fun hw => ?_, fun _ p hp => ?_⟩)
        · rw [dpAll_length ha] at hw
          have k : ∀ (v : V) (G' H' : Hp), Grow G H G' H' → Dp X.K G' v (.tuple (cutD ds l u)) → Q v H' := k
          rw [cutD_whole hw] at k
          exact k _ G3 H3 g (.tup hs ha)
        · exact k _ _ _ (g.trans (Grow.still ok3.gh hp)) (.tup (.inl (.inl upd_same)) (dpAll_mono (same_new (ok3.gh.free hp)) _ _ (dpAll_cut ha)))
    | list ds =>
      cases dp3 with
      | lst hs ha =>
        refine .inr (.inr ⟨_, _, rfl, ok3.gh.seq hs, fun p hp => ?_⟩)
        exact k _ _ _ (g.trans (Grow.still ok3.gh hp)) (.lst (.inl (.inl upd_same)) (dpAll_mono (same_new (ok3.gh.free hp)) _ _ (dpAll_cut ha)))
    | _ => exact k.elim

/-! ### methods of texts -/
def isS : PyData → Res Str
  | .str a => .ok a
  | _ => .no
theorem isS_never (d : PyData) : Never (isS d) := fun x e => by cases d <;> cases e
theorem isS_ok {K : PySem.W.Frag} {G : Hp} {v : V} {d : PyData} {a : Str} (h : Dp K G v d) (e : isS d = .ok a) : v = .str a := by
  cases d with
  | str b => cases e; cases h; rfl
  | _ => cases e
def joinD (a : Str) (q : Bool × List PyData) : Res PyData := match strsOf q.2 with
  | some ys => if (ys.map (·.length)).sum + ys.length * a.length ≤ 16777216 then .ok (.str (Txt.join a ys)) else .no
  | none => .no
def fJoin (f : En → Res PyData) (g : En → Res (Bool × List PyData)) : En → Res PyData := fun env => ((f env).bind isS).bind fun a => (g env).bind fun q => joinD a q
variable {o : Expr} {g : En → Res PyData}
theorem de_join {apos : Pos} (ho : DE X W cm o f) (ha : DQ X W cm e fq) (hs : starEach [e] X.env = [(false, eval e X.env)] := by rfl) (hbase : attributeBase o "join" X.env (eval o X.env) = eval o X.env := by rfl) (hline : (apos.endLine == pos.line) = true := by rfl) :
    DE X W cm (.Call (.Attribute o "join" apos) [e] [] pos) (fJoin f fq) :=
  pe_imp (pe_join ho ha hs hbase hline) fun σ H Q q => by
    obtain ⟨G0, H0, G, env, ok, q⟩ := q
    refine tD.go ok ((Res.sat_bind.mp (Res.sat_bind.mp q)).imp (fun d _ k v G1 H1 g1 ok1 dp => ?_) fun _ z => z)
    obtain ⟨a, ea, k⟩ := sat_ok (isS_never d) k
    have ev := isS_ok dp ea
    subst ev
    refine ⟨⟨a, rfl⟩, ?_⟩
    refine tQ.go ok1 ((Res.sat_bind.mp k).imp (fun qq _ k p vs G2 H2 g2 ok2 hs da => ?_) fun _ z => z.grow g1)
    unfold joinD at k
    split at k
    · rename_i ys hy
      split at k
      · rename_i hl
        have e0 := dp_strs da hy
        subst e0
        exact ⟨a, p, ys, rfl, rfl, hs.or ok2.gh, hl, k _ G2 H2 (g1.trans g2) (.str _)⟩
      · exact k.elim
    · exact k.elim
/-- a method of a text with one text -/
def fSS {α : Type} (o : Str → Str → Res α) (f g : En → Res PyData) : En → Res α := fun env => ((f env).bind isS).bind fun a => ((g env).bind isS).bind fun b => o a b
theorem t_m1 {P : Program} {w : World} {K : PySem.W.Frag} {r : V → List V → Hp → VK → Prop} {f g : En → Res PyData} {σ : L2.St} {H : Hp} {Q : VK} {G0 H0 G : Hp} {env : En} (ok : OkG P w K G0 H0 G env σ H)
    (q : ((f env).bind isS).sat (fun a => ((g env).bind isS).sat (fun b => ∀ G' H', Grow G H G' H' → OkG P w K G0 H0 G' env σ H' → r (.str a) [.str b] H' Q) (exP W cm σ G H)) (exP W cm σ G H)) :
    tM1 r (tD P w K W cm f) (tD P w K W cm g) σ H Q := by
  refine tD.go ok ((Res.sat_bind.mp q).imp (fun d _ k v G1 H1 g1 ok1 dp => ?_) fun _ z => z)
  obtain ⟨a, ea, k⟩ := sat_ok (isS_never d) k
  have ev := isS_ok dp ea
  subst ev
  refine ⟨⟨a, rfl⟩, ?_⟩
  refine tD.go ok1 ((Res.sat_bind.mp k).imp (fun d2 _ k v2 G2 H2 g2 ok2 dp2 => ?_) fun _ z => z.grow g1)
  obtain ⟨b, eb, k⟩ := sat_ok (isS_never d2) k
  have ev := isS_ok dp2 eb
  subst ev
  exact k G2 H2 (g1.trans g2) ok2
def splitS (a b : Str) : Res (List PyData) := if (b.length == 0) = false ∧ a.length + 2 ≤ sizeLine then .ok ((Txt.split a b).map .str) else .no
theorem dpAll_strs {K : PySem.W.Frag} {G : Hp} : ∀ ys : List Str, DpAll K G (ys.map V.str) (ys.map PyData.str)
  | [] => .nil
  | y :: ys => .cons (.str y) (dpAll_strs ys)
theorem dl_split {apos : Pos} (ho : DE X W cm o f) (ha : DE X W cm e g) (hs : starEach [e] X.env = [(false, eval e X.env)] := by rfl) (hbase : attributeBase o "split" X.env (eval o X.env) = eval o X.env := by rfl) (hline : (apos.endLine == pos.line) = true := by rfl) :
    DL X W cm (.Call (.Attribute o "split" apos) [e] [] pos) (fSS splitS f g) :=
  pe_imp (pe_split ho ha hs hbase hline) fun σ H Q q => by
    obtain ⟨G0, H0, G, env, ok, q⟩ := q
    refine t_m1 ok ((Res.sat_bind.mp q).imp (fun a _ k => (Res.sat_bind.mp k).imp (fun b _ k G1 H1 g1 ok1 => ?_) fun _ z => z) fun _ z => z)
    unfold splitS at k
    split at k
    · rename_i hl
      exact ⟨a, b, rfl, rfl, hl.1, hl.2, fun p hp => k p _ G1 _ (g1.trans (Grow.fresh ok1.gh hp)) (g1.h.free hp) (ok1.gh.free hp) upd_same (dpAll_strs _)⟩
    · exact k.elim
def partS (a b : Str) : Res PyData := if (b.length == 0) = false ∧ a.length ≤ sizeLine then .ok (.tuple [.str (Txt.partition a b).1, .str (Txt.partition a b).2.1, .str (Txt.partition a b).2.2]) else .no
theorem de_partition {apos : Pos} (ho : DE X W cm o f) (ha : DE X W cm e g) (hs : starEach [e] X.env = [(false, eval e X.env)] := by rfl) (hbase : attributeBase o "partition" X.env (eval o X.env) = eval o X.env := by rfl) (hline : (apos.endLine == pos.line) = true := by rfl) :
    DE X W cm (.Call (.Attribute o "partition" apos) [e] [] pos) (fSS partS f g) :=
  pe_imp (pe_partition ho ha hs hbase hline) fun σ H Q q => by
    obtain ⟨G0, H0, G, env, ok, q⟩ := q
    refine t_m1 ok ((Res.sat_bind.mp q).imp (fun a _ k => (Res.sat_bind.mp k).imp (fun b _ k G1 H1 g1 ok1 => ?_) fun _ z => z) fun _ z => z)
    unfold partS at k
    split at k
    · rename_i hl
      exact ⟨a, b, rfl, rfl, hl.1, hl.2, fun p hp => k _ _ _ (g1.trans (Grow.still ok1.gh hp)) (.tup (.inl (.inl upd_same)) (.cons (.str _) (.cons (.str _) (.cons (.str _) .nil))))⟩
    · exact k.elim
def countS (a b : Str) : Res PyData := .ok (.int (Txt.count a b))
theorem de_countS {apos : Pos} (ho : DE X W cm o f) (ha : DE X W cm e g) (hs : starEach [e] X.env = [(false, eval e X.env)] := by rfl) (hbase : attributeBase o "count" X.env (eval o X.env) = eval o X.env := by rfl) (hline : (apos.endLine == pos.line) = true := by rfl) :
    DE X W cm (.Call (.Attribute o "count" apos) [e] [] pos) (fSS countS f g) :=
  pe_imp (pe_m1 F.slot_str_count F.type_str_count mt_count ho ha hs hbase hline) fun σ H Q q => by
    obtain ⟨G0, H0, G, env, ok, q⟩ := q
    refine t_m1 ok ((Res.sat_bind.mp q).imp (fun a _ k => (Res.sat_bind.mp k).imp (fun b _ k G1 H1 g1 ok1 => ?_) fun _ z => z) fun _ z => z)
    exact ⟨a, b, rfl, rfl, k _ G1 H1 g1 (.int _)⟩
def upperS (a : Str) : Res PyData := if a.length ≤ 5592405 then .ok (.str (Txt.upper a)) else .no
def fS1 {α : Type} (o : Str → Res α) (f : En → Res PyData) : En → Res α := fun env => ((f env).bind isS).bind o
theorem de_upper {apos : Pos} (ho : DE X W cm o f) (hbase : attributeBase o "upper" X.env (eval o X.env) = eval o X.env := by rfl) (hline : (apos.endLine == pos.line) = true := by rfl) :
    DE X W cm (.Call (.Attribute o "upper" apos) [] [] pos) (fS1 upperS f) :=
  pe_imp (pe_upper ho hbase hline) fun σ H Q q => by
    obtain ⟨G0, H0, G, env, ok, q⟩ := q
    refine tD.go ok ((Res.sat_bind.mp (Res.sat_bind.mp q)).imp (fun d _ k v G1 H1 g1 ok1 dp => ?_) fun _ z => z)
    obtain ⟨a, ea, k⟩ := sat_ok (isS_never d) k
    have ev := isS_ok dp ea
    subst ev
    unfold upperS at k
    split at k
    · rename_i hl
      exact ⟨⟨a, rfl⟩, a, rfl, rfl, hl, k _ G1 H1 g1 (.str _)⟩
    · exact k.elim
end

/-! ### calls of defs -/
/-- a def's promise on data: F tells what comes of the arguments -/
def spD (K : PySem.W.Frag) (cm : Str → Addr) (n : Nat) (F : List PyData → Res PyData) : Sp := fun vs H Q E => vs.length = n ∧ ∃ G ds, Same G H ∧ DpAll K G vs ds ∧
  (F ds).sat (fun d => ∀ v G' H', Grow G H G' H' → Dp K G' v d → Q v H') (fun x => ∀ G' H', Grow G H G' H' → E (.ref (cm x)) none H')
/-- .. a def that hands back a list of its own -/
def spL (K : PySem.W.Frag) (cm : Str → Addr) (n : Nat) (F : List PyData → Res (List PyData)) : Sp := fun vs H Q E => vs.length = n ∧ ∃ G ds, Same G H ∧ DpAll K G vs ds ∧
  (F ds).sat (fun r => ∀ p us G' H', Grow G H G' H' → H p = none → G' p = none → H' p = some (.lst us) → DpAll K G' us r → Q (.ref p) H') (fun x => ∀ G' H', Grow G H G' H' → E (.ref (cm x)) none H')
/-- an argument list of n -/
def Len (n : Nat) (g : En → Res (List PyData)) : Prop := ∀ env ds, g env = .ok ds → ds.length = n
theorem ln_nil : Len 0 fNil := fun env ds h => by cases h; rfl
theorem ln_cons {n : Nat} {f : En → Res PyData} {g : En → Res (List PyData)} (h : Len n g) : Len (n + 1) (fCons f g) := fun env ds q => by
  unfold fCons at q
  cases e1 : f env with
  | ok d =>
    rw [e1] at q
    cases e2 : g env with
    | ok r => rw [e2] at q; cases q; rw [List.length_cons, h env r e2]
    | ex x => rw [e2] at q; cases q
    | no => rw [e2] at q; cases q
  | ex x => rw [e1] at q; cases q
  | no => rw [e1] at q; cases q
section
variable {X : Cx} {W : WX} {cm : Str → Addr} {k : Nat} {f : Addr} {fd : FuncData} {ps : List Str} {x : Str} {p pos : Pos} {e : Expr} {es : List Expr} {n : Nat}
theorem de_call {F : List PyData → Res PyData} {g : En → Res (List PyData)} (Fn : FnOk X.prog X.w X.K X.mg X.base (L2.CX X.prog X.w) k f fd ps (spD X.K cm n F)) (hr : Room k X.A) (hg : Gl X x) (hm : X.mg x = some (.ref f)) (hk : PySem.W.keepIn X.K (.ref f) = true) (hb : Binds X.K fd ps [])
    (tk : Takes X W) (ha : DA X W cm (e :: es) g) (hlen : Len n g) (hdb : (x == ("__debug__" : Str)) = false := by decide) (he : starEach (e :: es) X.env = (false, eval e X.env) :: starEach es X.env := by rfl) (hpl : (backTo pos (starEach es X.env)).any (·.1) = false := by rfl) :
    DE X W cm (.Call (.Name x p) (e :: es) [] pos) (fCall F g) :=
  pe_imp (pe_callS Fn hr hg hm hk hb (fun σ => passAt tk σ) ha hdb he hpl) fun σ H Q q => by
    obtain ⟨G0, H0, G, env, ok, q⟩ := q
    refine tA.go ok ((Res.sat_bind.mp q).imp (fun ds ed k vs G1 H1 g1 ok1 da => ?_) fun _ z => z)
    exact ⟨(dpAll_length da).trans (hlen env ds ed), G1, ds, ok1.gh, da, k.imp (fun d _ k v G' H' g' dp => k v G' H' (g1.trans g') dp) fun y z G' H' g' => z G' H' (g1.trans g')⟩
def fCallL (F : List PyData → Res (List PyData)) (g : En → Res (List PyData)) : En → Res (List PyData) := fun env => (g env).bind F
theorem dl_call {F : List PyData → Res (List PyData)} {g : En → Res (List PyData)} (Fn : FnOk X.prog X.w X.K X.mg X.base (L2.CX X.prog X.w) k f fd ps (spL X.K cm n F)) (hr : Room k X.A) (hg : Gl X x) (hm : X.mg x = some (.ref f)) (hk : PySem.W.keepIn X.K (.ref f) = true) (hb : Binds X.K fd ps [])
    (tk : Takes X W) (ha : DA X W cm (e :: es) g) (hlen : Len n g) (hdb : (x == ("__debug__" : Str)) = false := by decide) (he : starEach (e :: es) X.env = (false, eval e X.env) :: starEach es X.env := by rfl) (hpl : (backTo pos (starEach es X.env)).any (·.1) = false := by rfl) :
    DL X W cm (.Call (.Name x p) (e :: es) [] pos) (fCallL F g) :=
  pe_imp (pe_callS Fn hr hg hm hk hb (fun σ => passAt tk σ) ha hdb he hpl) fun σ H Q q => by
    obtain ⟨G0, H0, G, env, ok, q⟩ := q
    refine tA.go ok ((Res.sat_bind.mp q).imp (fun ds ed k vs G1 H1 g1 ok1 da => ?_) fun _ z => z)
    exact ⟨(dpAll_length da).trans (hlen env ds ed), G1, ds, ok1.gh, da, k.imp (fun d _ k p us G' H' g' h1 h2 h3 dp => k p us G' H' (g1.trans g') (g1.h.free h1) h2 h3 dp) fun y z G' H' g' => z G' H' (g1.trans g')⟩
end
end GL

/-! # The data layer, part f: what is walked, targets, comprehensions -/
namespace GL
open PySem PySem.Spec PyProof.Rows L2

/-! ### what is walked -/
/-- J yields the data ds one by one, while B stands -/
def ItD (K : PySem.W.Frag) (J : It) (B G1 : Hp) (ds : List PyData) : Prop := ∀ (i : Nat) (G H : Hp), Same G1 G → Same B H → Same G H →
  (∀ d, ds[i]? = some d → J.go i H ∧ ∀ x H', J.yld i H x H' → ∃ G', Grow G H G' H' ∧ Dp K G' x d) ∧ (ds.length ≤ i → J.stop i H)
theorem ItD.weak {K : PySem.W.Frag} {J : It} {G1 H1 : Hp} {ds : List PyData} (h : ItD K J G1 G1 ds) : ItD K J H1 G1 ds := fun i G H g _ gh => h i G H g (g.trans gh) gh
section
variable (P : Program) (w : World) (K : PySem.W.Frag) (W : WX) (cm : Str → Addr)
def tI (f : En → Res (List PyData)) : TI := fun σ H R => ∃ G0 H0 G env, OkG P w K G0 H0 G env σ H ∧ (f env).sat (fun ds => ∀ J G' H', Grow G H G' H' → ItD K J H' G' ds → ds.length ≤ sizeLine → R J H') (exP W cm σ G H)
def tF (f : En → Res (List PyData)) : TI := fun σ H R => ∃ G0 H0 G env, OkG P w K G0 H0 G env σ H ∧ (f env).sat (fun ds => ∀ J G' H', Grow G H G' H' → ItD K J G' G' ds → ds.length ≤ sizeLine → R J H') (exP W cm σ G H)
end
abbrev DI (X : Cx) (W : WX) (cm : Str → Addr) (tg e : Expr) (f : En → Res (List PyData)) : Prop := PI X tg e (tI X.prog X.w X.K W cm f)
abbrev DF (X : Cx) (W : WX) (cm : Str → Addr) (tg e : Expr) (f : En → Res (List PyData)) : Prop := PI X tg e (tF X.prog X.w X.K W cm f)
section
variable {X : Cx} {W : WX} {cm : Str → Addr} {tg e : Expr}
theorem pi_imp {t t' : TI} (h : PI X tg e t) (i : ∀ σ H R, t' σ H R → t σ H R) : PI X tg e t' := ⟨fun pins s σ H R I q => h.run pins s σ H R I (i σ H R q)⟩
theorem di_f {f : En → Res (List PyData)} (h : DF X W cm tg e f) : DI X W cm tg e f := pi_imp h fun σ H R q => by
  obtain ⟨G0, H0, G, env, ok, q⟩ := q
  exact ⟨G0, H0, G, env, ok, q.imp (fun ds _ k J G' H' g it hl => k J G' H' g it.weak hl) fun _ z => z⟩
/-- a sequence at hand: the length that the model's own objects have is known -/
theorem pi_seq {t : TE} (h : PE X e t) : PI X tg e (fun σ H R => t σ H fun x H1 => ∃ a xs, x = .ref a ∧ ((SqL X.K H1 a xs ∧ (xs.length ≤ sizeLine → R (Itl X.K a) H1)) ∨ (SqT X.K H1 a xs ∧ (xs.length ≤ sizeLine → R (Itt X.K a) H1)))) := by
  refine ⟨fun pins s σ H R I q => ?_⟩
  refine thn (h.run pins s σ H _ I q) fun v s1 hq => ?_
  obtain ⟨x, H1, I1, r1, a, xs, ex, q1⟩ := hq
  subst ex
  have ev : v = .ref a := r1
  subst ev
  rcases q1 with ⟨hl, q1⟩ | ⟨ht, q1⟩
  · obtain ⟨its, rv, pl, hz⟩ := I1.list hl
    exact wpAny_pyIter_list pl.isList (pi_one (tk := s1.toks) I1 _ (turn_list a _) ⟨_, Heap.get?_push_size _ rfl, rfl, rfl⟩ (q1 hz))
  · obtain ⟨its, rv, pl, hz⟩ := I1.tuple ht
    exact wpAny_pyIter_tuple (show s1.heap.IsTuple a its.toArray from pl) (pi_one (tk := s1.toks) I1 _ (turn_tuple a _) ⟨_, Heap.get?_push_size _ rfl, rfl, rfl⟩ (q1 hz))
theorem itD_seqL {K : PySem.W.Frag} {B G1 : Hp} {a : Addr} {vs : List V} {ds : List PyData} (hB : SqL K B a vs) (da : DpAll K G1 vs ds) : ItD K (Itl K a) B G1 ds := fun i G H g b gh => by
  have hs := b.seq hB
  refine ⟨fun d hd => ?_, fun hl => ⟨vs, hs, by rw [dpAll_length da]; exact hl⟩⟩
  obtain ⟨v, hv, dp⟩ := dpAll_get da hd
  refine ⟨⟨vs, v, hs, hv⟩, fun x H' y => ?_⟩
  obtain ⟨e1, y⟩ := y
  subst e1
  have e2 : x = v := Option.some.inj ((y vs hs).symm.trans hv)
  subst e2
  exact ⟨G, Grow.refl gh, dp_mono g _ _ dp⟩
theorem itD_seqT {K : PySem.W.Frag} {B G1 : Hp} {a : Addr} {vs : List V} {ds : List PyData} (hB : SqT K B a vs) (da : DpAll K G1 vs ds) : ItD K (Itt K a) B G1 ds := fun i G H g b gh => by
  have hs := same_t b hB
  refine ⟨fun d hd => ?_, fun hl => ⟨vs, hs, by rw [dpAll_length da]; exact hl⟩⟩
  obtain ⟨v, hv, dp⟩ := dpAll_get da hd
  refine ⟨⟨vs, v, hs, hv⟩, fun x H' y => ?_⟩
  obtain ⟨e1, y⟩ := y
  subst e1
  have e2 : x = v := Option.some.inj ((y vs hs).symm.trans hv)
  subst e2
  exact ⟨G, Grow.refl gh, dp_mono g _ _ dp⟩
def fSnd (f : En → Res (Bool × List PyData)) : En → Res (List PyData) := fun env => (f env).map Prod.snd
/-- over a sequence that may be of one's own (a comprehension) -/
theorem di_q {f : En → Res (Bool × List PyData)} (h : DQ X W cm e f) : DI X W cm tg e (fSnd f) := pi_imp (pi_seq h) fun σ H R q => by
  obtain ⟨G0, H0, G, env, ok, q⟩ := q
  refine tQ.go ok ((Res.sat_map.mp q).imp (fun qq _ k a vs G1 H1 g1 ok1 hs da => ?_) fun _ z => z)
  refine ⟨a, vs, rfl, ?_⟩
  rcases hs.or ok1.gh with hs | hs
  · exact .inl ⟨hs, fun hl => k _ G1 H1 g1 (itD_seqL hs da) (by rw [← dpAll_length da]; exact hl)⟩
  · exact .inr ⟨hs, fun hl => k _ G1 H1 g1 (itD_seqT hs da) (by rw [← dpAll_length da]; exact hl)⟩
/-- over data: a list, a tuple, a text's signs -/
def signsD (z : Str) : List PyData := z.cps.toList.map fun c => .str ⟨#[c]⟩
def itemsD : PyData → Res (List PyData)
  | .list ds => .ok ds
  | .tuple ds => .ok ds
  | .str z => if z.length ≤ sizeLine then .ok (signsD z) else .no
  | _ => .no
def fItems (f : En → Res PyData) : En → Res (List PyData) := fun env => (f env).bind itemsD
theorem itD_str {K : PySem.W.Frag} {B G1 : Hp} (z : Str) : ItD K (Its z) B G1 (signsD z) := fun i G H g b gh => by
  unfold signsD
  refine ⟨fun d hd => ?_, fun hl => by rw [List.length_map, Array.length_toList] at hl; exact hl⟩
  rw [List.getElem?_map, Array.getElem?_toList] at hd
  cases hc : z.cps[i]? with
  | none => rw [hc] at hd; cases hd
  | some c =>
    rw [hc] at hd
    cases hd
    refine ⟨(Array.getElem?_eq_some_iff.mp hc).1, fun x H' y => ?_⟩
    obtain ⟨e1, c', hc', e2⟩ := y
    subst e1
    rw [hc] at hc'
    cases hc'
    subst e2
    exact ⟨G, Grow.refl gh, .str _⟩
/-- what the three walks of one expression ask, told at once -/
theorem pi_dat {t : TE} (h : PE X e t) : PI X tg e (fun σ H R => t σ H fun x H1 => (∃ a xs, x = .ref a ∧ ((SqL X.K H1 a xs ∧ (xs.length ≤ sizeLine → R (Itl X.K a) H1)) ∨ (SqT X.K H1 a xs ∧ (xs.length ≤ sizeLine → R (Itt X.K a) H1)))) ∨ ∃ z, x = .str z ∧ R (Its z) H1) := by
  refine ⟨fun pins s σ H R I q => ?_⟩
  refine thn (h.run pins s σ H _ I q) fun v s1 hq => ?_
  obtain ⟨x, H1, I1, r1, q1⟩ := hq
  rcases q1 with ⟨a, xs, ex, q1⟩ | ⟨z, ex, q1⟩
  · subst ex
    have ev : v = .ref a := r1
    subst ev
    rcases q1 with ⟨hl, q1⟩ | ⟨ht, q1⟩
    · obtain ⟨its, rv, pl, hz⟩ := I1.list hl
      exact wpAny_pyIter_list pl.isList (pi_one (tk := s1.toks) I1 _ (turn_list a _) ⟨_, Heap.get?_push_size _ rfl, rfl, rfl⟩ (q1 hz))
    · obtain ⟨its, rv, pl, hz⟩ := I1.tuple ht
      exact wpAny_pyIter_tuple (show s1.heap.IsTuple a its.toArray from pl) (pi_one (tk := s1.toks) I1 _ (turn_tuple a _) ⟨_, Heap.get?_push_size _ rfl, rfl, rfl⟩ (q1 hz))
  · subst ex
    obtain ⟨tk, rfl⟩ := r1
    cases hw : z.cps.all (· < 128) with
    | false => exact wpAny_pyIter_wide hw (pi_one (tk := s1.toks) I1 _ (turn_str _ z tk "str_iterator" (.inr rfl)) ⟨_, Heap.get?_push_size _ rfl, rfl, rfl⟩ q1)
    | true => exact wpAny_pyIter_ascii hw (pi_one (tk := s1.toks) I1 _ (turn_str _ z tk "str_ascii_iterator" (.inl rfl)) ⟨_, Heap.get?_push_size _ rfl, rfl, rfl⟩ q1)
theorem df_e {f : En → Res PyData} (h : DE X W cm e f) : DF X W cm tg e (fItems f) := pi_imp (pi_dat h) fun σ H R q => by
  obtain ⟨G0, H0, G, env, ok, q⟩ := q
  refine tD.go ok ((Res.sat_bind.mp q).imp (fun d _ k v G1 H1 g1 ok1 dp => ?_) fun _ z => z)
  cases d with
  | list ds =>
    cases dp with
    | lst hs ha => exact .inl ⟨_, _, rfl, .inl ⟨ok1.gh.seq hs, fun hl => k _ G1 H1 g1 (itD_seqL hs ha) (by rw [← dpAll_length ha]; exact hl)⟩⟩
  | tuple ds =>
    cases dp with
    | tup hs ha => exact .inl ⟨_, _, rfl, .inr ⟨same_t ok1.gh hs, fun hl => k _ G1 H1 g1 (itD_seqT hs ha) (by rw [← dpAll_length ha]; exact hl)⟩⟩
  | str z =>
    cases dp
    have k : (if z.length ≤ sizeLine then Res.ok (signsD z) else Res.no).sat _ _ := k
    split at k
    · rename_i hl
      exact .inr ⟨z, rfl, k _ G1 H1 g1 (itD_str z) (by unfold signsD; rw [List.length_map, Array.length_toList]; exact hl)⟩
    · exact k.elim
  | _ => exact k.elim
/-! ### ranges, zip -/
def upTo (lo : Int) (n : Nat) : List PyData := (List.range n).map fun (i : Nat) => .int (lo + (i : Int))
theorem itD_range {K : PySem.W.Frag} {B G1 : Hp} (lo : Int) (n : Nat) : ItD K (Itr lo n) B G1 (upTo lo n) := fun i G H g b gh => by
  unfold upTo
  refine ⟨fun d hd => ?_, fun hl => by rw [List.length_map, List.length_range] at hl; exact hl⟩
  rw [List.getElem?_map] at hd
  by_cases hi : i < n
  · rw [List.getElem?_range hi] at hd
    cases hd
    refine ⟨hi, fun x H' y => ?_⟩
    obtain ⟨e1, e2⟩ := y
    subst e1; subst e2
    exact ⟨G, Grow.refl gh, .int _⟩
  · rw [List.getElem?_eq_none (by rw [List.length_range]; omega)] at hd; cases hd
def rangeD : List PyData → Res (List PyData)
  | [.int j] => if -(2 ^ 62) ≤ j ∧ j ≤ 16777216 then .ok (upTo 0 j.toNat) else .no
  | [.int i, .int j] => if (-(2 ^ 62) ≤ i ∧ i < 2 ^ 62) ∧ -(2 ^ 62) ≤ j ∧ j < 2 ^ 62 ∧ (j - i).toNat ≤ 16777216 then .ok (upTo i (j - i).toNat) else .no
  | _ => .no
theorem rangeD_never (ds : List PyData) : Never (rangeD ds) := by unfold rangeD; split <;> first | exact never_no | exact never_ite (never_ok _) never_no
def fRange (f : En → Res (List PyData)) : En → Res (List PyData) := fun env => (f env).bind rangeD
theorem upTo_length (lo : Int) (n : Nat) : (upTo lo n).length = n := by unfold upTo; rw [List.length_map, List.length_range]
theorem size24 : (16777216 : Nat) ≤ sizeLine := by decide
theorem df_range1 (T : Blt X.mg) {f : En → Res PyData} {p pos : Pos} (ha : DE X W cm e f) (hg : Gl X "range" := by rfl) (hs : starEach [e] X.env = [(false, eval e X.env)] := by rfl) : DF X W cm tg (.Call (.Name "range" p) [e] [] pos) (fRange (fCons f fNil)) :=
  pi_imp (pi_range1 hg T.range (da_cons ha da_nil hs) hs) fun σ H R q => by
    obtain ⟨G0, H0, G, env, ok, q⟩ := q
    refine tA.go ok ((Res.sat_bind.mp q).imp (fun ds _ k vs G1 H1 g1 ok1 da => ?_) fun _ z => z)
    obtain ⟨r, er, k⟩ := sat_ok (rangeD_never ds) k
    have hlen := ln_cons (f := f) ln_nil env ds (by assumption)
    match ds, hlen, da, er with
    | [d], _, .cons d1 .nil, er =>
      cases d with
      | int j =>
        cases d1
        have er : (if -(2 ^ 62) ≤ j ∧ j ≤ 16777216 then Res.ok (upTo 0 j.toNat) else Res.no) = Res.ok r := er
        obtain ⟨hb, rfl⟩ := ok_of_ite er
        refine ⟨j, rfl, hb.1, by omega, k _ G1 H1 g1 (itD_range 0 _) ?_⟩
        rw [upTo_length]
        exact Nat.le_trans (by omega) size24
      | _ => cases er
theorem df_range2 (T : Blt X.mg) {e2 : Expr} {f g : En → Res PyData} {p pos : Pos} (ha : DE X W cm e f) (hb : DE X W cm e2 g) (hg : Gl X "range" := by rfl) (hs : starEach [e, e2] X.env = [(false, eval e X.env), (false, eval e2 X.env)] := by rfl) (hs2 : starEach [e2] X.env = [(false, eval e2 X.env)] := by rfl)
    (hs3 : starEach [e, e2] X.env = (false, eval e X.env) :: starEach [e2] X.env := by rfl) : DF X W cm tg (.Call (.Name "range" p) [e, e2] [] pos) (fRange (fCons f (fCons g fNil))) :=
  pi_imp (pi_range2 hg T.range (da_cons ha (da_cons hb da_nil hs2) hs3) hs hs2) fun σ H R q => by
    obtain ⟨G0, H0, G, env, ok, q⟩ := q
    refine tA.go ok ((Res.sat_bind.mp q).imp (fun ds _ k vs G1 H1 g1 ok1 da => ?_) fun _ z => z)
    obtain ⟨r, er, k⟩ := sat_ok (rangeD_never ds) k
    have hlen := ln_cons (f := f) (ln_cons (f := g) ln_nil) env ds (by assumption)
    match ds, hlen, da, er with
    | [d, d'], _, .cons d1 (.cons d2 .nil), er =>
      cases d with
      | int i =>
        cases d' with
        | int j =>
          cases d1; cases d2
          have er : (if (-(2 ^ 62) ≤ i ∧ i < 2 ^ 62) ∧ -(2 ^ 62) ≤ j ∧ j < 2 ^ 62 ∧ (j - i).toNat ≤ 16777216 then Res.ok (upTo i (j - i).toNat) else Res.no) = Res.ok r := er
          obtain ⟨hb, rfl⟩ := ok_of_ite er
          refine ⟨i, j, rfl, ⟨hb.1.1, hb.1.2, hb.2.1, hb.2.2.1⟩, k _ G1 H1 g1 (itD_range i _) ?_⟩
          rw [upTo_length]
          exact Nat.le_trans hb.2.2.2 size24
        | _ => cases er
      | _ => cases er
def zipL : List PyData → List PyData → List PyData
  | d :: ds, e :: es => .tuple [d, e] :: zipL ds es
  | _, _ => []
theorem zipL_get : ∀ (ds es : List PyData) (i : Nat), (zipL ds es)[i]? = (match ds[i]?, es[i]? with
    | some d, some e => some (.tuple [d, e])
    | _, _ => none)
  | [], es, i => by simp [zipL]
  | d :: ds, [], i => by simp [zipL]
  | d :: ds, e :: es, 0 => rfl
  | d :: ds, e :: es, i + 1 => by
    show (zipL ds es)[i]? = _
    rw [zipL_get ds es i]
    rfl
theorem zipL_length : ∀ (ds es : List PyData), (zipL ds es).length = min ds.length es.length
  | [], es => by simp [zipL]
  | d :: ds, [] => by simp [zipL]
  | d :: ds, e :: es => by
    show (zipL ds es).length + 1 = _
    rw [zipL_length ds es, List.length_cons, List.length_cons]
    omega
def zipD : List PyData → Res (List PyData)
  | [.list ds, .list es] => if ds.length ≤ sizeLine then .ok (zipL ds es) else .no
  | [.tuple ds, .tuple es] => if ds.length ≤ sizeLine then .ok (zipL ds es) else .no
  | _ => .no
theorem zipD_never (ds : List PyData) : Never (zipD ds) := by unfold zipD; split <;> first | exact never_no | exact never_ite (never_ok _) never_no
def fZip (f : En → Res (List PyData)) : En → Res (List PyData) := fun env => (f env).bind zipD
theorem pair_new {K : PySem.W.Frag} {G G1 H : Hp} {T : Addr} {x y : V} {d e : PyData} (g : Same G1 G) (gh : Same G H) (hT : H T = none) (dx : Dp K G1 x d) (dy : Dp K G1 y e) : ∃ G', Grow G H G' (upd H T (.tup [x, y])) ∧ Dp K G' (.ref T) (.tuple [d, e]) :=
  ⟨_, Grow.still gh hT, .tup (.inl (.inl upd_same)) (.cons (dp_mono (g.trans (same_new (gh.free hT))) _ _ dx) (.cons (dp_mono (g.trans (same_new (gh.free hT))) _ _ dy) .nil))⟩
theorem itD_zipL {K : PySem.W.Frag} {G1 : Hp} {a b : Addr} {vs us : List V} {ds es : List PyData} (ha : SqL K G1 a vs) (hb : SqL K G1 b us) (da : DpAll K G1 vs ds) (db : DpAll K G1 us es) : ItD K (Itz K a b) G1 G1 (zipL ds es) := fun i G H g b' gh => by
  have h1 := b'.seq ha
  have h2 := b'.seq hb
  refine ⟨fun d hd => ?_, fun hl => ⟨vs, us, h1, h2, ?_⟩⟩
  · rw [zipL_get] at hd
    cases e1 : ds[i]? with
    | none => rw [e1] at hd; cases hd
    | some d1 =>
      cases e2 : es[i]? with
      | none => rw [e1, e2] at hd; cases hd
      | some d2 =>
        rw [e1, e2] at hd; cases hd
        obtain ⟨x, hx, dx⟩ := dpAll_get da e1
        obtain ⟨y, hy, dy⟩ := dpAll_get db e2
        refine ⟨⟨vs, us, x, y, h1, h2, hx, hy⟩, fun v H' z => ?_⟩
        obtain ⟨T, x', y', rfl, hT, rfl, q1, q2⟩ := z
        have ex : x' = x := Option.some.inj ((q1 vs h1).symm.trans hx)
        have ey : y' = y := Option.some.inj ((q2 us h2).symm.trans hy)
        subst ex; subst ey
        exact pair_new g gh hT dx dy
  · rw [zipL_length] at hl
    rw [dpAll_length da, dpAll_length db]
    omega
theorem itD_zipT {K : PySem.W.Frag} {G1 : Hp} {a b : Addr} {vs us : List V} {ds es : List PyData} (ha : SqT K G1 a vs) (hb : SqT K G1 b us) (da : DpAll K G1 vs ds) (db : DpAll K G1 us es) : ItD K (RZ.ItzT K a b) G1 G1 (zipL ds es) := fun i G H g b' gh => by
  have h1 := same_t b' ha
  have h2 := same_t b' hb
  refine ⟨fun d hd => ?_, fun hl => ⟨vs, us, h1, h2, ?_⟩⟩
  · rw [zipL_get] at hd
    cases e1 : ds[i]? with
    | none => rw [e1] at hd; cases hd
    | some d1 =>
      cases e2 : es[i]? with
      | none => rw [e1, e2] at hd; cases hd
      | some d2 =>
        rw [e1, e2] at hd; cases hd
        obtain ⟨x, hx, dx⟩ := dpAll_get da e1
        obtain ⟨y, hy, dy⟩ := dpAll_get db e2
        refine ⟨⟨vs, us, x, y, h1, h2, hx, hy⟩, fun v H' z => ?_⟩
        obtain ⟨T, x', y', rfl, hT, rfl, q1, q2⟩ := z
        have ex : x' = x := Option.some.inj ((q1 vs h1).symm.trans hx)
        have ey : y' = y := Option.some.inj ((q2 us h2).symm.trans hy)
        subst ex; subst ey
        exact pair_new g gh hT dx dy
  · rw [zipL_length] at hl
    rw [dpAll_length da, dpAll_length db]
    omega
theorem df_zip (T : Blt X.mg) {e2 : Expr} {f : En → Res (List PyData)} {p pos tpos : Pos} {elts : List Expr} {kk : Nat} (ha : DA X W cm [e, e2] f) (hg : Gl X "zip" := by rfl) (hs : starEach [e, e2] X.env = (false, eval e X.env) :: starEach [e2] X.env := by rfl) (hpl : (backTo pos (starEach [e2] X.env)).any (·.1) = false := by rfl) :
    DF X W cm (.Tuple elts kk tpos) (.Call (.Name "zip" p) [e, e2] [] pos) (fZip f) :=
  pi_imp (RZ.pi_zipA hg T.zip ha hs hpl) fun σ H R q => by
    obtain ⟨G0, H0, G, env, ok, q⟩ := q
    refine tA.go ok ((Res.sat_bind.mp q).imp (fun ds _ k vs G1 H1 g1 ok1 da => ?_) fun _ z => z)
    unfold zipD at k
    split at k
    · split at k
      · rename_i hl
        match da with
        | .cons (.lst h1 a1) (.cons (.lst h2 a2) .nil) =>
          refine ⟨_, _, _, _, rfl, .inl ⟨ok1.gh.seq h1, ok1.gh.seq h2, k _ G1 H1 g1 (itD_zipL h1 h2 a1 a2) ?_⟩⟩
          rw [zipL_length]
          omega
      · exact k.elim
    · split at k
      · rename_i hl
        match da with
        | .cons (.tup h1 a1) (.cons (.tup h2 a2) .nil) =>
          refine ⟨_, _, _, _, rfl, .inr ⟨same_t ok1.gh h1, same_t ok1.gh h2, k _ G1 H1 g1 (itD_zipT h1 h2 a1 a2) ?_⟩⟩
          rw [zipL_length]
          omega
      · exact k.elim
    · exact k.elim
end
end GL

/-! # The data layer, part g: targets, comprehensions -/
namespace GL
open PySem PySem.Spec PyProof.Rows L2

theorem bind_inv {α β : Type} {r : Res α} {f : α → Res β} {b : β} (h : r.bind f = .ok b) : ∃ a, r = .ok a ∧ f a = .ok b := by
  cases r with
  | ok a => exact ⟨a, rfl, h⟩
  | ex x => cases h
  | no => cases h
theorem map_inv {α β : Type} {r : Res α} {f : α → β} {b : β} (h : r.map f = .ok b) : ∃ a, r = .ok a ∧ f a = b := by
  obtain ⟨a, h1, h2⟩ := bind_inv h
  cases h2
  exact ⟨a, h1, rfl⟩
inductive Tgt where
  | one (i : Nat)
  | many (is : List Nat)
def Tgt.slots : Tgt → List Nat
  | .one i => [i]
  | .many is => is
def setAll : List Nat → List PyData → En → En
  | i :: is, d :: ds, env => setAll is ds (env.set i (some (.dat d)))
  | _, _, env => env
def bindT : Tgt → PyData → En → Res En
  | .one i, d, env => .ok (env.set i (some (.dat d)))
  | .many is, .tuple ds, env => if ds.length = is.length then .ok (setAll is ds env) else .no
  | _, _, _ => .no
def tG (P : Program) (w : World) (K : PySem.W.Frag) (t : Tgt) : TG := fun v σ H Q => ∃ G0 H0 G env d env', OkG P w K G0 H0 G env σ H ∧ Dp K G v d ∧ bindT t d env = .ok env' ∧
  ∀ σ', OkG P w K G0 H0 G env' σ' H → (∀ j, j ∉ t.slots → σ'[j]? = σ[j]?) → σ'.length = σ.length → Q σ' H
abbrev DG (X : Cx) (tg : Expr) (t : Tgt) : Prop := PG X tg (tG X.prog X.w X.K t)
theorem pg_imp {X : Cx} {tg : Expr} {t t' : TG} (h : PG X tg t) (i : ∀ v σ H Q, t' v σ H Q → t v σ H Q) : PG X tg t' := ⟨fun pins s σ H v u Q I r q => h.run pins s σ H v u Q I r (i v σ H Q q)⟩
def gAll : List Nat → TGs
  | [] => gNil
  | i :: r => gCons (gName i) (gAll r)
theorem setAll_ok {P : Program} {w : World} {K : PySem.W.Frag} {G0 H0 G H : Hp} : ∀ {is : List Nat} {vs : List V} {ds : List PyData} {env : En} {σ : L2.St}, OkG P w K G0 H0 G env σ H → DpAll K G vs ds → ds.length = is.length →
    ∀ Q : L2.St → Hp → Prop, (∀ σ', OkG P w K G0 H0 G (setAll is ds env) σ' H → (∀ j, j ∉ is → σ'[j]? = σ[j]?) → σ'.length = σ.length → Q σ' H) → gAll is vs σ H Q
  | [], _, _, env, σ, ok, .nil, _, Q, q => ⟨rfl, q σ ok (fun _ _ => rfl) rfl⟩
  | i :: is, v :: vs, d :: ds, env, σ, ok, .cons h1 h2, hl, Q, q => by
    refine ⟨v, vs, rfl, ?_⟩
    refine setAll_ok (ok.dat (i := i) h1) h2 (by simpa using hl) Q fun σ' ok' h3 h4 => q σ' ok' (fun j hj => ?_) (by rw [h4, List.length_set])
    rw [List.mem_cons, not_or] at hj
    rw [h3 j hj.2, List.getElem?_set_ne (Ne.symm hj.1)]
  | [], _, _ :: _, _, _, _, _, hl, _, _ => by simp at hl
  | _ :: _, _, [], _, _, _, _, hl, _, _ => by simp at hl
section
variable {X : Cx} {pos : Pos}
theorem dg_one (i : Nat) {x : Str} (hN : X.N.Nodup) (hi : X.N[i]? = some x := by rfl) (hx : Loc X.env.scope x := by first | exact Or.inl rfl | exact Or.inr rfl) (hf : X.fn x = true ∨ X.env.scope.names.lookup x = some .local := by first | exact .inl rfl | exact .inr rfl | assumption) : DG X (.Name x pos) (.one i) :=
  pg_imp (pg_name hN hi hx hf) fun v σ H Q q => by
    obtain ⟨G0, H0, G, env, d, env', ok, dp, eb, q⟩ := q
    cases eb
    refine q _ (ok.dat dp) (fun j hj => ?_) (List.length_set ..)
    rw [List.getElem?_set_ne]
    exact fun z => hj (by rw [z]; exact List.mem_cons_self)
theorem dg_many {es : List Expr} {k : Nat} {is : List Nat} (hc : X.calm = true) (h : PGs X es (gAll is)) (hn : (assignEach es X.env).length = is.length := by rfl) (hst : (assignEach es X.env).findIdx? (·.1) = none := by rfl) : DG X (.Tuple es k pos) (.many is) :=
  pg_imp (pg_tup hc h hn hst) fun v σ H Q q => by
    obtain ⟨G0, H0, G, env, d, env', ok, dp, eb, q⟩ := q
    cases d with
    | tuple ds =>
      have eb : (if ds.length = is.length then Res.ok (setAll is ds env) else Res.no) = Res.ok env' := eb
      obtain ⟨hl, rfl⟩ := ok_of_ite eb
      cases dp with
      | tup hs ha => exact ⟨_, _, rfl, same_t ok.gh hs, by rw [dpAll_length ha]; exact hl, setAll_ok ok ha hl Q q⟩
    | _ => cases eb
end

/-! ### comprehensions -/
def wipeE (env : En) : List Nat → En
  | [] => env
  | v :: vs => (wipeE env vs).set v none
theorem wipeE_length (env : En) : ∀ vs : List Nat, (wipeE env vs).length = env.length
  | [] => rfl
  | v :: vs => by unfold wipeE; rw [List.length_set, wipeE_length env vs]
theorem wipeE_some {env : En} {i : Nat} {x : SV} : ∀ {vs : List Nat}, (wipeE env vs)[i]? = some (some x) → env[i]? = some (some x) ∧ i ∉ vs
  | [], h => ⟨h, by simp⟩
  | v :: vs, h => by
    unfold wipeE at h
    by_cases hi : v = i
    · subst hi
      by_cases hv : v < (wipeE env vs).length
      · rw [List.getElem?_set_self hv] at h; cases h
      · rw [List.getElem?_eq_none (by simpa using hv)] at h; cases h
    · rw [List.getElem?_set_ne hi] at h
      obtain ⟨h1, h2⟩ := wipeE_some h
      exact ⟨h1, by simp only [List.mem_cons, not_or]; exact ⟨fun e => hi e.symm, h2⟩⟩
theorem wipe_get {σ : L2.St} {i : Nat} : ∀ {vs : List Nat}, i ∉ vs → (wipe σ vs)[i]? = σ[i]?
  | [], _ => rfl
  | v :: vs, h => by
    rw [List.mem_cons, not_or] at h
    unfold wipe
    rw [List.getElem?_set_ne (Ne.symm h.1)]
    exact wipe_get h.2
theorem OkG.wipe {P : Program} {w : World} {K : PySem.W.Frag} {G0 H0 G H : Hp} {env : En} {σ : L2.St} (ok : OkG P w K G0 H0 G env σ H) (vs : List Nat) : OkG P w K G0 H0 G (wipeE env vs) (L2.wipe σ vs) H :=
  ok.less (by rw [wipeE_length, wipe_length]; exact ok.len) fun i s h => by
    obtain ⟨h1, h2⟩ := wipeE_some h
    exact ⟨h1, wipe_get h2⟩
theorem wipe_eq {σ σ' : L2.St} {vs : List Nat} (hl : σ'.length = σ.length) (h : ∀ j, j ∉ vs → σ'[j]? = σ[j]?) : L2.wipe σ' vs = L2.wipe σ vs := by
  refine List.ext_getElem? fun j => ?_
  by_cases hj : j ∈ vs
  · have no : ∀ τ : L2.St, (L2.wipe τ vs)[j]? = if j < τ.length then some none else none := fun τ => by
      by_cases hlt : j < τ.length
      · rw [if_pos hlt]
        cases q : (L2.wipe τ vs)[j]? with
        | none => rw [List.getElem?_eq_none_iff, wipe_length] at q; omega
        | some o =>
          cases o with
          | none => rfl
          | some v => exact absurd hj (wipe_some q).2
      · rw [if_neg hlt, List.getElem?_eq_none (by rw [wipe_length]; omega)]
    rw [no, no, hl]
  · rw [wipe_get hj, wipe_get hj]
    exact h j hj
def noEx {α : Type} : Res α → Res α
  | .ok a => .ok a
  | _ => .no
theorem noEx_ok {α : Type} {r : Res α} {a : α} (h : noEx r = .ok a) : r = .ok a := by
  cases r with
  | ok b => exact h
  | ex x => cases h
  | no => cases h
@[simp] theorem noEx_okk {α : Type} (a : α) : noEx (Res.ok a) = .ok a := rfl
def compF (t : Tgt) (p : En → Res Bool) (f : En → Res PyData) (env : En) : List PyData → Res (List PyData)
  | [] => .ok []
  | d :: ds => (bindT t d env).bind fun e1 => (noEx (p e1)).bind fun b => if b then (noEx (f e1)).bind fun y => (compF t p f env ds).map fun r => y :: r else compF t p f env ds
def fComp (own : List Nat) (t : Tgt) (fi : En → Res (List PyData)) (p : En → Res Bool) (f : En → Res PyData) : En → Res (List PyData) := fun env => (fi env).bind fun ds => compF t p f (wipeE env own) ds
theorem bindT_never (t : Tgt) (d : PyData) (env : En) : Never (bindT t d env) := by
  unfold bindT
  split
  · exact never_ok _
  · exact never_ite (never_ok _) never_no
  · exact never_no
theorem noEx_never {α : Type} (r : Res α) : Never (noEx r) := by cases r <;> first | exact never_ok _ | exact never_no
theorem compF_never (t : Tgt) (p : En → Res Bool) (f : En → Res PyData) (env : En) : ∀ ds, Never (compF t p f env ds)
  | [] => never_ok _
  | d :: ds => by
    unfold compF
    refine never_bind (bindT_never _ _ _) fun e1 => never_bind (noEx_never _) fun b => ?_
    split
    · exact never_bind (noEx_never _) fun y => never_bind (compF_never t p f env ds) fun _ => never_ok _
    · exact compF_never t p f env ds
abbrev W0 : WX := fun _ _ _ _ => False
theorem exP0 {cm : Str → Addr} {σ : L2.St} {G H : Hp} {x : Str} (gh : Same G H) (h : exP W0 cm σ G H x) : False := h G H (Grow.refl gh)

section
variable {X : Cx} {W : WX} {cm : Str → Addr}
/-- the reading of a comprehension by data -/
theorem t_comp {P : Program} {w : World} {K : PySem.W.Frag} {own : List Nat} {t : Tgt} {fi : En → Res (List PyData)} {p : En → Res Bool} {f : En → Res PyData} (hsub : ∀ j ∈ t.slots, j ∈ own) {σ : L2.St} {H : Hp} {Q : VK} (q : tL P w K W cm (fComp own t fi p f) σ H Q) :
    tLc (tI P w K W cm fi) (tG P w K t) (tT P w K W0 cm p) (tD P w K W0 cm f) own σ H Q := by
  obtain ⟨G0, H0, G, env, ok, q⟩ := q
  refine ⟨G0, H0, G, env, ok, (Res.sat_bind.mp q).imp (fun ds _ k J G1 H1 g1 it hsz => ?_) fun _ z => z⟩
  intro D hD
  obtain ⟨r, er, k⟩ := sat_ok (compF_never t p f _ ds) k
  have ok1 := ok.grow g1
  -- behind i turns: the list at D holds what came of them, the rest is still to come
  refine ⟨fun i m H2 => m = ds.length - i ∧ i ≤ ds.length ∧ ∃ G2 vs rd rest, Grow G1 H1 G2 H2 ∧ G2 D = none ∧ H2 D = some (.lst vs) ∧ DpAll K G2 vs rd ∧ rd.length ≤ i ∧ compF t p f (wipeE env own) (ds.drop i) = .ok rest ∧ r = rd ++ rest, ⟨ds.length, by simp, Nat.zero_le _, G1, [], [], r, Grow.fresh ok1.gh hD, ok1.gh.free hD, upd_same, .nil, Nat.zero_le _, er, rfl⟩, ?_⟩
  rintro i m H2 ⟨rfl, hi, G2, vs, rd, rest, g2, gD, hD2, da, hlen, ec, rfl⟩
  have ok2 := ok1.grow g2
  obtain ⟨itg, its⟩ := it i G2 H2 g2.g g2.h ok2.gh
  by_cases hlt : i < ds.length
  · have hdr : ds.drop i = ds[i] :: ds.drop (i + 1) := List.drop_eq_getElem_cons hlt
    obtain ⟨go, yl⟩ := itg ds[i] (List.getElem?_eq_getElem hlt)
    rw [hdr] at ec
    refine .inr ⟨go, fun H3 => ∃ G3 vs' rd' rest', Grow G1 H1 G3 H3 ∧ G3 D = none ∧ H3 D = some (.lst vs') ∧ DpAll K G3 vs' rd' ∧ rd'.length ≤ i + 1 ∧ compF t p f (wipeE env own) (ds.drop (i + 1)) = .ok rest' ∧ rd ++ rest = rd' ++ rest', fun H3 h3 => ?_, fun x H3 hy => ?_⟩
    · obtain ⟨G3, vs', rd', rest', a1, a2, a3, a4, a5, a6, a7⟩ := h3
      exact ⟨ds.length - (i + 1), by omega, rfl, hlt, G3, vs', rd', rest', a1, a2, a3, a4, a5, a6, a7⟩
    · obtain ⟨G3, g3, dp⟩ := yl x H3 hy
      have ok3 := (ok2.grow g3).wipe own
      have hDne : H2 D ≠ none := some_ne_none hD2
      unfold compF at ec
      obtain ⟨e1, eb, ec⟩ := bind_inv ec
      obtain ⟨b, eq, ec⟩ := bind_inv ec
      refine ⟨G0, H0, G3, _, _, e1, ok3, dp, eb, fun σ4 ok4 hs4 hl4 => ⟨?_, ?_⟩⟩
      · have q1 : L2.wipe σ4 own = L2.wipe (L2.wipe σ own) own := wipe_eq hl4 fun j hj => hs4 j fun z => hj (hsub j z)
        rw [q1]
        exact wipe_eq (wipe_length _ _) fun j hj => wipe_get hj
      · have ep := noEx_ok eq
        refine tT.go ok4 ?_
        rw [ep]
        intro G5 H5 g5 ok5
        have g15 := (g2.trans g3).trans g5
        have d5 : H5 D = some (.lst vs) := g5.h _ _ (g3.h _ _ hD2)
        have gd5 : G5 D = none := by rw [g5.old D (some_ne_none (g3.h _ _ hD2)), g3.old D hDne, gD]
        cases b with
        | false =>
          rw [if_neg Bool.false_ne_true] at ec ⊢
          exact ⟨G5, vs, rd, rest, g15, gd5, d5, dpAll_mono (g3.trans g5).g _ _ da, by omega, ec, rfl⟩
        | true =>
          rw [if_pos rfl] at ec ⊢
          obtain ⟨y, ef, ec⟩ := bind_inv ec
          obtain ⟨rest', e7, rfl⟩ := map_inv ec
          refine tD.go ok5 ?_
          rw [noEx_ok ef]
          intro v6 G6 H6 g6 ok6 dp6
          have d6 : H6 D = some (.lst vs) := g6.h _ _ d5
          have gd6 : G6 D = none := by rw [g6.old D (some_ne_none d5), gd5]
          have lv : vs.length ≤ i := by rw [dpAll_length da]; exact hlen
          refine ⟨vs, d6, by omega, G6, vs ++ [v6], rd ++ [y], rest', ?_, gd6, upd_same, dpAll_app (dpAll_mono ((g3.trans g5).trans g6).g _ _ da) (dpAll_one dp6), by rw [List.length_append]; simp; omega, e7, by simp⟩
          have gg := g15.trans g6
          exact ⟨fun a o z => by rw [upd_ne (show a ≠ D from fun e => by rw [e, hD] at z; cases z)]; exact gg.h a o z, gg.g, fun a o z => by rw [upd_ne (show a ≠ D from fun e => by rw [e, gd6] at z; cases z)]; exact gg.gh a o z, gg.old⟩
  · have e0 : i = ds.length := by omega
    subst e0
    refine .inl ⟨its (Nat.le_refl _), ?_⟩
    rw [List.drop_length] at ec
    cases ec
    rw [List.append_nil] at k
    exact k D vs G2 H2 (g1.trans g2) (g1.h.free hD) gD hD2 da
end
end GL

/-! # The data layer, part h: statements, loops, defs -/
namespace GL
open PySem PySem.Spec PyProof.Rows L2

section
variable {X : Cx} {W : WX} {cm : Str → Addr}
def pYes : En → Res Bool := fun _ => .ok true
theorem pts_imp {ifs : List Expr} {t t' : TT} (h : PTs X ifs t) (i : ∀ σ H Q, t' σ H Q → t σ H Q) : PTs X ifs t' := ⟨fun pins s σ H Q I q => h.run pins s σ H Q I (i σ H Q q)⟩
abbrev DTs (X : Cx) (W : WX) (cm : Str → Addr) (ifs : List Expr) (p : En → Res Bool) : Prop := PTs X ifs (tT X.prog X.w X.K W cm p)
theorem dts_nil : DTs X W cm [] pYes := pts_imp pts_nil fun σ H Q q => by
  obtain ⟨G0, H0, G, env, ok, q⟩ := q
  exact q G H (Grow.refl ok.gh)
theorem dts_one {c : Expr} {p : En → Res Bool} (h : DT X W cm c p) : DTs X W cm [c] p := pts_one h
variable {elt tg iter : Expr} {ifs : List Expr} {scope : Scope} {own : List (Str × Nat)} {pos : Pos} {fi : En → Res (List PyData)} {t : Tgt} {p : En → Res Bool} {f : En → Res PyData}
theorem dl_lc (hc : X.calm = true) (hN : X.N.Nodup) (hi : DI X W cm tg iter fi) (ok : BlkOk X.N X.env.scope scope own) (hsub : ∀ j ∈ t.slots, j ∈ own.map (·.2))
    (hg : ∀ (s : Shared) (H : Hp) (C : Addr) (cl : List (Str × Addr)) (fp : List Addr), DG (X.blk s H scope (compEnvC scope cl C X.env) fp) tg t) (ht : ∀ (s : Shared) (H : Hp) (C : Addr) (cl : List (Str × Addr)) (fp : List Addr), DTs (X.blk s H scope (compEnvC scope cl C X.env) fp) W0 cm ifs p)
    (he : ∀ (s : Shared) (H : Hp) (C : Addr) (cl : List (Str × Addr)) (fp : List Addr), DE (X.blk s H scope (compEnvC scope cl C X.env) fp) W0 cm elt f) (hs : ∀ x, foldedSetIterable iter X.env x = pure x := by intro _; rfl) :
    DL X W cm (.ListComp elt [⟨tg, iter, ifs, 0⟩] scope pos) (fComp (own.map (·.2)) t fi p f) :=
  pe_imp (pe_lc hc hN hi ok hg ht he hs) fun σ H Q q => t_comp hsub q
end

/-! ### statements -/
inductive Out where
  | nx (env : En)
  | rt (d : PyData)
  | rl (ds : List PyData)
  | ex (x : Str) (env : En)
  | no
def Out.ofR {α : Type} (r : Res α) (env : En) (k : α → Out) : Out := match r with
  | .ok a => k a
  | .ex x => .ex x env
  | .no => .no
@[simp] theorem ofR_ok {α : Type} (a : α) (env : En) (k : α → Out) : Out.ofR (Res.ok a) env k = k a := rfl
@[simp] theorem ofR_ex {α : Type} (x : Str) (env : En) (k : α → Out) : Out.ofR (Res.ex x : Res α) env k = .ex x env := rfl
@[simp] theorem ofR_no {α : Type} (env : En) (k : α → Out) : Out.ofR (Res.no : Res α) env k = .no := rfl
section
variable (P : Program) (w : World) (K : PySem.W.Frag) (W : WX) (cm : Str → Addr)
def OutP (G0 H0 G : Hp) (D : Ends) : Out → Prop
  | .nx env' => ∀ G' σ' H', Same G G' → OkG P w K G0 H0 G' env' σ' H' → D.nx σ' H'
  | .rt d => ∀ v G' H', Grow G0 H0 G' H' → Dp K G' v d → D.rt v H'
  | .rl ds => ∀ p vs G' H', Grow G0 H0 G' H' → H0 p = none → G' p = none → H' p = some (.lst vs) → DpAll K G' vs ds → D.rt (.ref p) H'
  | .ex x env' => ∀ G' σ' H', Same G G' → OkG P w K G0 H0 G' env' σ' H' → W (.ref (cm x)) none σ' H'
  | .no => False
def tS (g : En → Out) : TS := fun D σ H => ∃ G0 H0 G env, OkG P w K G0 H0 G env σ H ∧ OutP P w K W cm G0 H0 G D (g env)
end
abbrev DS (X : Cx) (W : WX) (cm : Str → Addr) (st : Stmt) (g : En → Out) : Prop := PS X st (tS X.prog X.w X.K W cm g)
abbrev DSs (X : Cx) (W : WX) (cm : Str → Addr) (st : List Stmt) (g : En → Out) : Prop := PSs X st (tS X.prog X.w X.K W cm g)
theorem ps_imp {X : Cx} {st : Stmt} {t t' : TS} (h : PS X st t) (i : ∀ D σ H, t' D σ H → t D σ H) : PS X st t' := ⟨fun pins s σ H D I q => h.run pins s σ H D I (i D σ H q)⟩
theorem pss_imp {X : Cx} {st : List Stmt} {t t' : TS} (h : PSs X st t) (i : ∀ D σ H, t' D σ H → t D σ H) : PSs X st t' := ⟨fun pins s σ H D I q => h.run pins s σ H D I (i D σ H q)⟩
section
variable {P : Program} {w : World} {K : PySem.W.Frag} {W : WX} {cm : Str → Addr} {G0 H0 G H G1 H1 : Hp} {env : En} {σ : L2.St} {D D' : Ends} {o : Out}
theorem OutP.mono (h : OutP P w K W cm G0 H0 G D o) (g : Same G G1) : OutP P w K W cm G0 H0 G1 D o := by
  cases o with
  | nx env' => exact fun G' σ' H' s ok => h G' σ' H' (g.trans s) ok
  | rt d => exact h
  | rl ds => exact h
  | ex x env' => exact fun G' σ' H' s ok => h G' σ' H' (g.trans s) ok
  | no => exact h
theorem OutP.ends (h : OutP P w K W cm G0 H0 G D o) (hn : ∀ σ' H', D.nx σ' H' → D'.nx σ' H') (hr : ∀ v H', D.rt v H' → D'.rt v H') : OutP P w K W cm G0 H0 G D' o := by
  cases o with
  | nx env' => exact fun G' σ' H' s ok => hn _ _ (h G' σ' H' s ok)
  | rt d => exact fun v G' H' g dp => hr _ _ (h v G' H' g dp)
  | rl ds => exact fun p vs G' H' g h1 h2 h3 da => hr _ _ (h p vs G' H' g h1 h2 h3 da)
  | ex x env' => exact h
  | no => exact h
/-- an expression's outcome within a statement -/
theorem OutP.ofR {α : Type} {r : Res α} {k : α → Out} {P1 : α → Prop} (ok : OkG P w K G0 H0 G env σ H) (h : OutP P w K W cm G0 H0 G D (Out.ofR r env k)) (hk : ∀ a, r = .ok a → OutP P w K W cm G0 H0 G D (k a) → P1 a) : r.sat P1 (exP W cm σ G H) := by
  cases r with
  | ok a => exact hk a rfl h
  | ex x => exact fun G' H' g => h G' σ H' g.g (ok.grow g)
  | no => exact h
end
def sSeq (g h : En → Out) : En → Out := fun env => match g env with
  | .nx e => h e
  | o => o
def sNext : En → Out := .nx
def sIf (p : En → Res Bool) (g h : En → Out) : En → Out := fun env => .ofR (p env) env fun b => if b then g env else h env
def sRet (f : En → Res PyData) : En → Out := fun env => .ofR (f env) env .rt
def sRetL (f : En → Res (List PyData)) : En → Out := fun env => .ofR (f env) env .rl
def sAsg (t : Tgt) (f : En → Res PyData) : En → Out := fun env => .ofR (f env) env fun d => .ofR (bindT t d env) env .nx
def sOwn (i : Nat) (f : En → Res (List PyData)) : En → Out := fun env => .ofR (f env) env fun ds => .nx (env.set i (some (.own ds)))
def sDrop (f : En → Res PyData) : En → Out := fun env => .ofR (f env) env fun _ => .nx env
def sFrz (i : Nat) (g : En → Out) : En → Out := fun env => g (frz i env)
def forL (t : Tgt) (g : En → Out) : List PyData → En → Out
  | [], env => .nx env
  | d :: ds, env => match bindT t d env with
    | .ok e1 => (match g e1 with
      | .nx e2 => forL t g ds e2
      | o => o)
    | _ => .no
def sFor (t : Tgt) (fi : En → Res (List PyData)) (g : En → Out) : En → Out := fun env => .ofR (fi env) env fun ds => forL t g ds env
def whileN (p : En → Res Bool) (g : En → Out) : Nat → En → Out
  | 0, _ => .no
  | n + 1, env => .ofR (p env) env fun b => if b then (match g env with
    | .nx e2 => whileN p g n e2
    | o => o) else .nx env
section
variable {X : Cx} {W : WX} {cm : Str → Addr} {st : Stmt} {rest : List Stmt} {g h : En → Out} {e : Expr} {f : En → Res PyData} {pos : Pos}
theorem ds_nil : DSs X W cm [] sNext := pss_imp pss_nil fun D σ H q => by
  obtain ⟨G0, H0, G, env, ok, q⟩ := q
  exact q G σ H (Same.refl G) ok
theorem t_seq {P : Program} {w : World} {K : PySem.W.Frag} {D : Ends} {σ : L2.St} {H : Hp} (q : tS P w K W cm (sSeq g h) D σ H) : tSeq (tS P w K W cm g) (tS P w K W cm h) D σ H := by
  obtain ⟨G0, H0, G, env, ok, q⟩ := q
  refine ⟨G0, H0, G, env, ok, ?_⟩
  unfold sSeq at q
  split at q
  · rename_i e he
    rw [he]
    exact fun G' σ' H' s ok' => ⟨G0, H0, G', e, ok', q.mono s⟩
  · rename_i o ho
    cases hg : g env with
    | nx e => exact absurd hg (ho e)
    | rt d => rw [hg] at q; exact q
    | rl ds => rw [hg] at q; exact q
    | ex x e => rw [hg] at q; exact q
    | no => rw [hg] at q; exact q
theorem ds_cons (h1 : DS X W cm st g) (h2 : DSs X W cm rest h) : DSs X W cm (st :: rest) (sSeq g h) := pss_imp (pss_cons h1 h2) fun D σ H q => t_seq q
theorem ds_last (h1 : DS X W cm st g) : DSs X W cm [st] g := pss_one h1
/-- a list of one's own is stilled ahead of a block -/
theorem ds_frz (i : Nat) (h1 : DSs X W cm (st :: rest) g) : DSs X W cm (st :: rest) (sFrz i g) := pss_imp h1 fun D σ H q => by
  obtain ⟨G0, H0, G, env, ok, q⟩ := q
  obtain ⟨G', s, ok'⟩ := ok.frz i
  exact ⟨G0, H0, G', _, ok', OutP.mono q s⟩
theorem ds_if {c : Expr} {a b : List Stmt} {p : En → Res Bool} (hc : DT X W cm c p) (ha : DSs X W cm a g) (hb : DSs X W cm b h) : DS X W cm (.If c a b pos) (sIf p g h) := ps_imp (ps_if hc ha hb) fun D σ H q => by
  obtain ⟨G0, H0, G, env, ok, q⟩ := q
  refine tT.go ok (OutP.ofR ok q fun b _ k G1 H1 g1 ok1 => ?_)
  cases b with
  | true =>
    rw [if_pos rfl] at k ⊢
    exact ⟨G0, H0, G1, env, ok1, k.mono g1.g⟩
  | false =>
    rw [if_neg Bool.false_ne_true] at k ⊢
    exact ⟨G0, H0, G1, env, ok1, k.mono g1.g⟩
theorem ds_ret (he : DE X W cm e f) : DS X W cm (.Return (some e) pos) (sRet f) := ps_imp (ps_ret he) fun D σ H q => by
  obtain ⟨G0, H0, G, env, ok, q⟩ := q
  exact tD.go ok (OutP.ofR ok q fun d _ k v G1 H1 g1 ok1 dp => k v G1 H1 ok1.gr dp)
theorem ds_retL {f : En → Res (List PyData)} (he : DL X W cm e f) : DS X W cm (.Return (some e) pos) (sRetL f) := ps_imp (ps_ret he) fun D σ H q => by
  obtain ⟨G0, H0, G, env, ok, q⟩ := q
  exact tL.go ok (OutP.ofR ok q fun d _ k v vs G1 H1 g1 ok1 h1 h2 h3 da => k v vs G1 H1 ok1.gr (ok.gr.h.free h1) h2 h3 da)
/-- return x, a list of one's own -/
def sRetO (i : Nat) : En → Out := fun env => match env[i]? with
  | some (some (.own ds)) => .rl ds
  | _ => .no
theorem ds_retO (i : Nat) {x : Str} {p : Pos} (hN : X.N[i]? = some x := by rfl) (hv : Vis X.env.scope x := by first | exact Or.inl rfl | exact Or.inr (Or.inl rfl) | exact Or.inr (Or.inr rfl)) (hd : (x == ("__debug__" : Str)) = false := by decide) (hcd : (x == ("__classdict__" : Str)) = false := by decide) :
    DS X W cm (.Return (some (.Name x p)) pos) (sRetO i) := ps_imp (ps_ret (pe_var hN hv hd hcd)) fun D σ H q => by
  obtain ⟨G0, H0, G, env, ok, q⟩ := q
  unfold sRetO at q
  split at q
  · rename_i ds hi
    obtain ⟨v, hv, p, vs, rfl, h0, hg, hh, da⟩ := ok.sl i _ hi
    exact ⟨_, hv, q p vs G H ok.gr h0 hg hh da⟩
  · exact q.elim
theorem t_asg {P : Program} {w : World} {K : PySem.W.Frag} {t : Tgt} {D : Ends} {σ : L2.St} {H : Hp} (q : tS P w K W cm (sAsg t f) D σ H) : tAsg (tD P w K W cm f) (tG P w K t) D σ H := by
  obtain ⟨G0, H0, G, env, ok, q⟩ := q
  refine tD.go ok (OutP.ofR ok q fun d _ k v G1 H1 g1 ok1 dp => ?_)
  cases eb : bindT t d env with
  | ok e1 =>
    rw [eb] at k
    exact ⟨G0, H0, G1, env, d, e1, ok1, dp, eb, fun σ' ok' _ _ => k G1 σ' H1 g1.g ok'⟩
  | ex x => exact absurd eb (bindT_never t d env x)
  | no => rw [eb] at k; exact k.elim
theorem ds_asg {tg : Expr} {t : Tgt} (he : DE X W cm e f) (hg : DG X tg t) (hs : swapsWithSole [tg] e pos.line X.env = pure false := by rfl) (hw : swappedStores [tg] e X.env = pure none := by rfl)
    (h1 : (assignEach [tg] X.env).map (·.2) = [assign tg X.env] := by rfl) : DS X W cm (.Assign [tg] e pos) (sAsg t f) := ps_imp (ps_asg he hg hs hw h1) fun D σ H q => t_asg q
theorem ds_set (i : Nat) {x : Str} {pos' : Pos} (hN : X.N.Nodup) (he : DE X W cm e f) (hi : X.N[i]? = some x := by rfl) (hx : Loc X.env.scope x := by first | exact Or.inl rfl | exact Or.inr rfl) (hs : swapsWith e (some (.Name x pos')) pos.line X.env = pure false := by rfl) (hf : X.fn x = true ∨ X.env.scope.names.lookup x = some .local := by first | exact .inl rfl | exact .inr rfl | assumption) :
    DS X W cm (.Assign [.Name x pos'] e pos) (sAsg (.one i) f) := ps_imp (ps_set hN hi hx he hs hf) fun D σ H q => by
  obtain ⟨G0, H0, G, env, ok, q⟩ := q
  exact tD.go ok (OutP.ofR ok q fun d _ k v G1 H1 g1 ok1 dp => k G1 _ H1 g1.g (ok1.dat dp))
theorem t_own {P : Program} {w : World} {K : PySem.W.Frag} {i : Nat} {f : En → Res (List PyData)} {D : Ends} {σ : L2.St} {H : Hp} (q : tS P w K W cm (sOwn i f) D σ H) : tAsg (tL P w K W cm f) (gName i) D σ H := by
  obtain ⟨G0, H0, G, env, ok, q⟩ := q
  refine tL.go ok (OutP.ofR ok q fun ds _ k p vs G1 H1 g1 ok1 h1 h2 h3 da => k G1 _ H1 g1.g (ok1.put ⟨p, vs, rfl, ok.gr.h.free h1, h2, h3, da⟩ fun j t _ ht hm z => ?_))
  obtain ⟨v, hv, sl⟩ := ok.sl j t ht
  obtain ⟨p', o, rfl, _, _, hp'⟩ := sl.own_ref hm
  rw [hv] at z
  cases z
  rw [h1] at hp'; cases hp'
theorem ds_own (i : Nat) {f : En → Res (List PyData)} {x : Str} {pos' : Pos} (hN : X.N.Nodup) (he : DL X W cm e f) (hi : X.N[i]? = some x := by rfl) (hx : Loc X.env.scope x := by first | exact Or.inl rfl | exact Or.inr rfl) (hs : swapsWith e (some (.Name x pos')) pos.line X.env = pure false := by rfl) (hf : X.fn x = true ∨ X.env.scope.names.lookup x = some .local := by first | exact .inl rfl | exact .inr rfl | assumption) :
    DS X W cm (.Assign [.Name x pos'] e pos) (sOwn i f) := ps_imp (ps_set hN hi hx he hs hf) fun D σ H q => t_own q
theorem ds_drop (he : DE X W cm e f) (hs : swapsWith e none pos.line X.env = pure false := by rfl) : DS X W cm (.Expr e pos) (sDrop f) := ps_imp (ps_expr he hs) fun D σ H q => by
  obtain ⟨G0, H0, G, env, ok, q⟩ := q
  exact tD.go ok (OutP.ofR ok q fun d _ k v G1 H1 g1 ok1 dp => k G1 σ H1 g1.g ok1)
theorem ds_pass : DS X W cm (.Pass pos) sNext := ps_imp ps_pass fun D σ H q => by
  obtain ⟨G0, H0, G, env, ok, q⟩ := q
  exact q G σ H (Same.refl G) ok

/-! ### loops -/
theorem t_for {P : Program} {w : World} {K : PySem.W.Frag} {t : Tgt} {fi : En → Res (List PyData)} {D : Ends} {σ : L2.St} {H : Hp} (q : tS P w K W cm (sFor t fi g) D σ H) : tFor (tF P w K W cm fi) (tG P w K t) (tS P w K W cm g) D σ H := by
  obtain ⟨G0, H0, G, env, ok, q⟩ := q
  refine ⟨G0, H0, G, env, ok, OutP.ofR ok q fun ds _ k J G1 H1 g1 it hsz => ?_⟩
  have ok1 := ok.grow g1
  refine ⟨fun i m σ2 H2 => m = ds.length - i ∧ i ≤ ds.length ∧ ∃ G2 e2, Same G1 G2 ∧ OkG P w K G0 H0 G2 e2 σ2 H2 ∧ OutP P w K W cm G0 H0 G2 D (forL t g (ds.drop i) e2), ⟨ds.length, by simp, Nat.zero_le _, G1, env, Same.refl G1, ok1, k.mono g1.g⟩, ?_⟩
  rintro i m σ2 H2 ⟨rfl, hi, G2, e2, s2, ok2, k2⟩
  obtain ⟨itg, its⟩ := it i G2 H2 s2 (s2.trans ok2.gh) ok2.gh
  by_cases hlt : i < ds.length
  · obtain ⟨go, yl⟩ := itg ds[i] (List.getElem?_eq_getElem hlt)
    rw [List.drop_eq_getElem_cons hlt] at k2
    refine .inr ⟨go, fun σ3 H3 => ∃ G3 e3, Same G1 G3 ∧ OkG P w K G0 H0 G3 e3 σ3 H3 ∧ OutP P w K W cm G0 H0 G3 D (forL t g (ds.drop (i + 1)) e3), fun σ3 H3 h3 => ⟨ds.length - (i + 1), by omega, rfl, hlt, h3⟩, fun x H3 hy => ?_⟩
    obtain ⟨G3, g3, dp⟩ := yl x H3 hy
    have ok3 := ok2.grow g3
    unfold forL at k2
    cases eb : bindT t ds[i] e2 with
    | ok e3 =>
      rw [eb] at k2
      refine ⟨G0, H0, G3, e2, _, e3, ok3, dp, eb, fun σ4 ok4 _ _ => ⟨G0, H0, G3, e3, ok4, ?_⟩⟩
      have k3 := OutP.mono k2 g3.g
      cases eg : g e3 with
      | nx e4 =>
        have k4 : OutP P w K W cm G0 H0 G3 D (forL t g (ds.drop (i + 1)) e4) := by
          have : (match Res.ok e3 with | .ok e1 => (match g e1 with | .nx e2 => forL t g (ds.drop (i + 1)) e2 | o => o) | _ => Out.no) = forL t g (ds.drop (i + 1)) e4 := by
            show (match g e3 with | .nx e2 => forL t g (ds.drop (i + 1)) e2 | o => o) = _
            rw [eg]
          rw [this] at k3
          exact k3
        exact fun G5 σ5 H5 s5 ok5 => ⟨G5, e4, (s2.trans g3.g).trans s5, ok5, k4.mono s5⟩
      | rt d => simp only [eg] at k3; exact k3
      | rl d => simp only [eg] at k3; exact k3
      | ex x e5 => simp only [eg] at k3; exact k3
      | no => simp only [eg] at k3; exact k3
    | ex x => rw [eb] at k2; exact k2.elim
    | no => rw [eb] at k2; exact k2.elim
  · have e0 : i = ds.length := by omega
    subst e0
    refine .inl ⟨its (Nat.le_refl _), ?_⟩
    rw [List.drop_length] at k2
    exact k2 G2 σ2 H2 (Same.refl G2) ok2
theorem ds_for {tg iter : Expr} {body : List Stmt} {t : Tgt} {fi : En → Res (List PyData)} (hp : PassesOwn (model X.prog X.w) X.A X.env X.xe) (hc : X.calm = true) (hi : DF X W cm tg iter fi) (hg : DG X tg t) (hb : DSs X W cm body g) (hs : ∀ x, foldedSetIterable iter X.env x = pure x := by intro _; rfl) :
    DS X W cm (.For tg iter body [] pos) (sFor t fi g) := ps_imp (ps_for hp hc hi hg hb hs) fun D σ H q => t_for q
theorem ds_while (n : Nat) {c : Expr} {body : List Stmt} {p : En → Res Bool} (hp : PassesOwn (model X.prog X.w) X.A X.env X.xe) (hc : DT X W cm c p) (hb : DSs X W cm body g) : DS X W cm (.While c body [] pos) (whileN p g n) := ps_imp (ps_while hp hc hb) fun D σ H q => by
  obtain ⟨G0, H0, G, env, ok, q⟩ := q
  refine ⟨fun m σ2 H2 => ∃ G2 e2, Same G G2 ∧ OkG X.prog X.w X.K G0 H0 G2 e2 σ2 H2 ∧ OutP X.prog X.w X.K W cm G0 H0 G2 D (whileN p g m e2), ⟨n, G, env, Same.refl G, ok, q⟩, ?_⟩
  rintro m σ2 H2 ⟨G2, e2, s2, ok2, k2⟩
  cases m with
  | zero => exact k2.elim
  | succ m =>
    refine tT.go ok2 (OutP.ofR ok2 k2 fun b _ k G3 H3 g3 ok3 => ?_)
    cases b with
    | true =>
      rw [if_pos rfl] at k ⊢
      refine ⟨fun σ4 H4 => ∃ G4 e4, Same G G4 ∧ OkG X.prog X.w X.K G0 H0 G4 e4 σ4 H4 ∧ OutP X.prog X.w X.K W cm G0 H0 G4 D (whileN p g m e4), fun σ4 H4 h4 => ⟨m, by omega, h4⟩, G0, H0, G3, e2, ok3, ?_⟩
      have k3 := OutP.mono k g3.g
      cases eg : g e2 with
      | nx e4 =>
        rw [eg] at k3
        exact fun G5 σ5 H5 s5 ok5 => ⟨G5, e4, (s2.trans g3.g).trans s5, ok5, k3.mono s5⟩
      | rt d => rw [eg] at k3; exact k3
      | rl d => rw [eg] at k3; exact k3
      | ex x e5 => rw [eg] at k3; exact k3
      | no => rw [eg] at k3; exact k3
    | false =>
      rw [if_neg Bool.false_ne_true] at k ⊢
      exact k G3 σ2 H3 g3.g ok3
end
end GL

/-! # The data layer, part i: lists of one's own, raise, try, defs -/
namespace GL
open PySem PySem.Spec PyProof.Rows L2

def sApp (i : Nat) (f : En → Res PyData) : En → Out := fun env => match env[i]? with
  | some (some (.own ds)) => .ofR (f env) env fun d => if ds.length < sizeLine then .nx (env.set i (some (.own (ds ++ [d])))) else .no
  | _ => .no
def sExt (i : Nat) (f : En → Res (List PyData)) : En → Out := fun env => match env[i]? with
  | some (some (.own ds)) => .ofR (f env) env fun es => if ds.length + es.length ≤ sizeLine then .nx (env.set i (some (.own (ds ++ es)))) else .no
  | _ => .no
def sPop (i : Nat) (t : Tgt) : En → Out := fun env => match env[i]? with
  | some (some (.own ds)) => (match ds[ds.length - 1]? with
    | some d => .ofR (bindT t d (env.set i (some (.own ds.dropLast)))) env .nx
    | none => .no)
  | _ => .no
/-- x.pop(0) -/
def sPop0 (i : Nat) (t : Tgt) : En → Out := fun env => match env[i]? with
  | some (some (.own (d :: ds))) => .ofR (bindT t d (env.set i (some (.own ds)))) env .nx
  | _ => .no
theorem dpAll_dropLast {K : PySem.W.Frag} {G : Hp} {vs : List V} {ds : List PyData} (h : DpAll K G vs ds) : DpAll K G vs.dropLast ds.dropLast := by
  rw [List.dropLast_eq_take, List.dropLast_eq_take, dpAll_length h]
  exact dpAll_take _ h
section
variable {X : Cx} {W : WX} {cm : Str → Addr} {e : Expr} {f : En → Res PyData} {pos apos p : Pos} {x : Str}
theorem tyL {K : PySem.W.Frag} {H : Hp} {a : Addr} {vs : List V} (h : H a = some (.lst vs)) : tyV K "list" (.ref a) H := Or.inl ⟨rfl, _, SqL.of h⟩
theorem tyL2 {K : PySem.W.Frag} {H : Hp} {a : Addr} {vs : List V} (h : H a = some (.lst vs)) : tyV K "list" (.ref a) H := tyL h
theorem ds_app {i : Nat} (h : PE X e (tBM X.K "list" rAppend (tVar i) (tCons (tD X.prog X.w X.K W cm f) tNil))) (hs : swapsWith e none pos.line X.env = pure false := by rfl) : DS X W cm (.Expr e pos) (sApp i f) := ps_imp (ps_expr h hs) fun D σ H q => by
  obtain ⟨G0, H0, G, env, ok, q⟩ := q
  unfold sApp at q
  split at q
  · rename_i ds hi
    obtain ⟨v, hv, p, vs, rfl, h0, hg, hh, da⟩ := ok.sl i _ hi
    refine ⟨_, hv, tyL hh, ?_⟩
    refine tD.go ok (OutP.ofR ok q fun d _ k u G1 H1 g1 ok1 dp => ?_)
    have h1 := g1.h _ _ hh
    split at k
    · rename_i hl
      have hg1 : G1 p = none := by rw [g1.old p (some_ne_none hh)]; exact hg
      have da1 := dpAll_app (dpAll_mono g1.g _ _ da) (dpAll_one dp)
      exact ⟨p, vs, u, rfl, rfl, h1, by rw [dpAll_length da]; exact hl, k G1 σ _ g1.g (ok1.mut hi rfl hv h0 hg1 ⟨p, _, rfl, h0, hg1, upd_same, da1⟩)⟩
    · exact k.elim
  · exact q.elim
theorem ds_ext {i : Nat} {f : En → Res (List PyData)} (h : PE X e (tBM X.K "list" rExtend (tVar i) (tCons (tL X.prog X.w X.K W cm f) tNil))) (hs : swapsWith e none pos.line X.env = pure false := by rfl) : DS X W cm (.Expr e pos) (sExt i f) := ps_imp (ps_expr h hs) fun D σ H q => by
  obtain ⟨G0, H0, G, env, ok, q⟩ := q
  unfold sExt at q
  split at q
  · rename_i ds hi
    obtain ⟨v, hv, p, vs, rfl, h0, hg, hh, da⟩ := ok.sl i _ hi
    refine ⟨_, hv, tyL hh, ?_⟩
    refine tL.go ok (OutP.ofR ok q fun d _ k b us G1 H1 g1 ok1 n1 n2 n3 dp => ?_)
    have h1 := g1.h _ _ hh
    split at k
    · rename_i hl
      have hg1 : G1 p = none := by rw [g1.old p (some_ne_none hh)]; exact hg
      have da1 := dpAll_app (dpAll_mono g1.g _ _ da) dp
      exact ⟨p, b, vs, us, rfl, rfl, h1, n3, by rw [dpAll_length da, dpAll_length dp]; exact hl, k G1 σ _ g1.g (ok1.mut hi rfl hv h0 hg1 ⟨p, _, rfl, h0, hg1, upd_same, da1⟩)⟩
    · exact k.elim
  · exact q.elim
/-- t = x.pop() -/
theorem t_pop {P : Program} {w : World} {K : PySem.W.Frag} {t : Tgt} {d : PyData} {ds ds' : List PyData} {vs' : List V} {G0 H0 G : Hp} {env : En} {σ : L2.St} {H : Hp} {D : Ends} {i : Nat} {p : Addr} {y : V} (ok : OkG P w K G0 H0 G env σ H) (hi : env[i]? = some (some (.own ds))) (hv : σ[i]? = some (some (.ref p))) (h0 : H0 p = none) (hg : G p = none)
    (da : DpAll K G vs' ds') (dy : Dp K G y d) (q : OutP P w K W cm G0 H0 G D (Out.ofR (bindT t d (env.set i (some (.own ds')))) env .nx)) : tG P w K t y σ (upd H p (.lst vs')) D.nx := by
  have ok2 := ok.mut (s' := .own ds') (o' := .lst vs') hi rfl hv h0 hg ⟨p, _, rfl, h0, hg, upd_same, da⟩
  cases eb : bindT t d (env.set i (some (.own ds'))) with
  | ok e1 =>
    rw [eb] at q
    exact ⟨G0, H0, G, _, d, e1, ok2, dy, eb, fun σ' ok' _ _ => q G σ' _ (Same.refl G) ok'⟩
  | ex x => exact absurd eb (bindT_never _ _ _ x)
  | no => rw [eb] at q; exact q.elim
theorem ds_pop {i : Nat} {tg : Expr} {t : Tgt} (h : PE X e (tBM0 X.K "list" rPop (tVar i))) (hg : DG X tg t) (hs : swapsWithSole [tg] e pos.line X.env = pure false := by rfl) (hw : swappedStores [tg] e X.env = pure none := by rfl)
    (h1 : (assignEach [tg] X.env).map (·.2) = [assign tg X.env] := by rfl) : DS X W cm (.Assign [tg] e pos) (sPop i t) := ps_imp (ps_asg h hg hs hw h1) fun D σ H q => by
  obtain ⟨G0, H0, G, env, ok, q⟩ := q
  unfold sPop at q
  split at q
  · rename_i ds hi
    obtain ⟨v, hv, p, vs, rfl, h0, hg, hh, da⟩ := ok.sl i _ hi
    refine ⟨_, hv, tyL hh, ?_⟩
    split at q
    · rename_i d hd
      obtain ⟨y, hy, dy⟩ := dpAll_get da hd
      rw [← dpAll_length da] at hy
      exact ⟨p, vs, y, rfl, rfl, hh, hy, t_pop ok hi hv h0 hg (dpAll_dropLast da) dy q⟩
    · exact q.elim
  · exact q.elim
theorem ds_pop0 {i : Nat} {tg : Expr} {t : Tgt} (h : PE X e (tBM X.K "list" rPopAt (tVar i) (tCons (tC (.int 0)) tNil))) (hg : DG X tg t) (hs : swapsWithSole [tg] e pos.line X.env = pure false := by rfl) (hw : swappedStores [tg] e X.env = pure none := by rfl)
    (h1 : (assignEach [tg] X.env).map (·.2) = [assign tg X.env] := by rfl) : DS X W cm (.Assign [tg] e pos) (sPop0 i t) := ps_imp (ps_asg h hg hs hw h1) fun D σ H q => by
  obtain ⟨G0, H0, G, env, ok, q⟩ := q
  unfold sPop0 at q
  split at q
  · rename_i d ds hi
    obtain ⟨v, hv, p, vs, rfl, h0, hg, hh, da⟩ := ok.sl i _ hi
    refine ⟨_, hv, tyL hh, ?_⟩
    cases da with
    | cons dy da => exact ⟨p, _, 0, 0, _, rfl, rfl, hh, by decide, by decide, by simp [seqIndex?], rfl, t_pop ok hi hv h0 hg (da) dy q⟩
  · exact q.elim
/-- x = y, a list of one's own handed over: y is forgotten -/
def sMove (i j : Nat) : En → Out := fun env => match env[j]? with
  | some (some (.own ds)) => if i ≠ j then .nx ((env.set j none).set i (some (.own ds))) else .no
  | some (some (.dct kvs)) => if i ≠ j then .nx ((env.set j none).set i (some (.dct kvs))) else .no
  | _ => .no
theorem OkG.forget {P : Program} {w : World} {K : PySem.W.Frag} {G0 H0 G H : Hp} {env : En} {σ : L2.St} (ok : OkG P w K G0 H0 G env σ H) (j : Nat) : OkG P w K G0 H0 G (env.set j none) σ H :=
  ok.less (by rw [List.length_set]; exact ok.len) fun i s h => by
    by_cases hj : j = i
    · subst hj
      by_cases hl : j < env.length
      · rw [List.getElem?_set_self hl] at h; cases h
      · rw [List.getElem?_eq_none (by rw [List.length_set]; omega)] at h; cases h
    · rw [List.getElem?_set_ne hj] at h; exact ⟨h, rfl⟩
theorem t_move {P : Program} {w : World} {K : PySem.W.Frag} {i j : Nat} {s : SV} {G0 H0 G : Hp} {env : En} {σ : L2.St} {H : Hp} {D : Ends} (ok : OkG P w K G0 H0 G env σ H) (hj : env[j]? = some (some s)) (hm : s.mu = true) (q : OutP P w K W cm G0 H0 G D (if i ≠ j then .nx ((env.set j none).set i (some s)) else .no)) :
    tAsg (tVar j) (gName i) D σ H := by
  obtain ⟨v, hv, sl⟩ := ok.sl j s hj
  refine ⟨v, hv, ?_⟩
  split at q
  · rename_i hij
    obtain ⟨p, o, rfl, h0, hg, hh⟩ := sl.own_ref hm
    refine q G _ H (Same.refl G) ((ok.forget j).put sl fun k t hk ht mt z => ?_)
    have kj : j ≠ k := fun e => by
      subst e
      rw [List.getElem?_set_self (List.getElem?_eq_some_iff.mp hj).1] at ht; cases ht
    rw [List.getElem?_set_ne kj] at ht
    exact kj (ok.ap j k s t _ hj ht hm mt hv z)
  · exact q.elim
theorem ds_move (i j : Nat) {y : Str} {pos' p' : Pos} (hN : X.N.Nodup) (hi : X.N[i]? = some x := by rfl) (hx : Loc X.env.scope x := by first | exact Or.inl rfl | exact Or.inr rfl) (hy : X.N[j]? = some y := by rfl) (hvy : Vis X.env.scope y := by first | exact Or.inl rfl | exact Or.inr (Or.inl rfl) | exact Or.inr (Or.inr rfl))
    (hd : (y == ("__debug__" : Str)) = false := by decide) (hcd : (y == ("__classdict__" : Str)) = false := by decide) (hs : swapsWith (.Name y p') (some (.Name x pos')) pos.line X.env = pure false := by rfl) (hf : X.fn x = true ∨ X.env.scope.names.lookup x = some .local := by first | exact .inl rfl | exact .inr rfl | assumption) :
    DS X W cm (.Assign [.Name x pos'] (.Name y p') pos) (sMove i j) := ps_imp (ps_set hN hi hx (pe_var hy hvy hd hcd) hs hf) fun D σ H q => by
  obtain ⟨G0, H0, G, env, ok, q⟩ := q
  unfold sMove at q
  split at q
  · rename_i ds hj
    exact t_move ok hj rfl q
  · rename_i ds hj
    exact t_move ok hj rfl q
  · exact q.elim

/-! ### y = [..] -/
variable {elt tg iter : Expr} {ifs : List Expr} {scope : Scope} {own : List (Str × Nat)} {fi : En → Res (List PyData)} {t : Tgt} {pt : En → Res Bool}
theorem ds_setLc (i : Nat) {y : Str} {py spos : Pos} (hc : X.calm = true) (hN : X.N.Nodup) (hsw : swapsWith (.ListComp elt [⟨tg, iter, ifs, 0⟩] scope pos) (some (.Name y py)) spos.line X.env = pure true) (hi : DI X W cm tg iter fi) (ok : BlkOk X.N X.env.scope scope own) (hsub : ∀ j ∈ t.slots, j ∈ own.map (·.2))
    (hg : ∀ (s : Shared) (H : Hp) (C : Addr) (cl : List (Str × Addr)) (fp : List Addr), DG (X.blk s H scope (compEnvC scope cl C X.env) fp) tg t) (ht : ∀ (s : Shared) (H : Hp) (C : Addr) (cl : List (Str × Addr)) (fp : List Addr), DTs (X.blk s H scope (compEnvC scope cl C X.env) fp) W0 cm ifs pt)
    (he : ∀ (s : Shared) (H : Hp) (C : Addr) (cl : List (Str × Addr)) (fp : List Addr), DE (X.blk s H scope (compEnvC scope cl C X.env) fp) W0 cm elt f) (hy : X.N[i]? = some y := by rfl) (hyl : X.env.scope.names.lookup y = some .local := by rfl) (hs : ∀ x, foldedSetIterable iter X.env x = pure x := by intro _; rfl) :
    DS X W cm (.Assign [.Name y py] (.ListComp elt [⟨tg, iter, ifs, 0⟩] scope pos) spos) (sAsg (.one i) (fLst (fComp (own.map (·.2)) t fi pt f))) :=
  ps_imp (ps_setLc hc hN hy hyl hsw hi ok hg ht he hs) fun D σ H q => by
    obtain ⟨G0, H0, G, env, ok, q⟩ := q
    refine t_comp (f := f) (p := pt) (fi := fi) (cm := cm) (W := W) hsub ⟨G0, H0, G, env, ok, ?_⟩
    have q2 : ((fLst (fComp (own.map (·.2)) t fi pt f)) env).sat (fun d => OutP X.prog X.w X.K W cm G0 H0 G D (.nx (env.set i (some (.dat d))))) (exP W cm σ G H) := OutP.ofR ok q fun d _ k => k
    refine (Res.sat_map.mp q2).imp (fun ds _ k p vs G1 H1 g1 h1 h2 h3 da => ?_) fun _ z => z
    have g2 := g1.freeze h1 h2 h3
    exact k _ _ H1 g2.g ((ok.grow g2).dat (.lst (.inl (.inl upd_same)) (dpAll_mono (same_new h2) _ _ da)))
theorem ds_ownLc (i : Nat) {y : Str} {py spos : Pos} (hc : X.calm = true) (hN : X.N.Nodup) (hsw : swapsWith (.ListComp elt [⟨tg, iter, ifs, 0⟩] scope pos) (some (.Name y py)) spos.line X.env = pure true) (hi : DI X W cm tg iter fi) (ok : BlkOk X.N X.env.scope scope own) (hsub : ∀ j ∈ t.slots, j ∈ own.map (·.2))
    (hg : ∀ (s : Shared) (H : Hp) (C : Addr) (cl : List (Str × Addr)) (fp : List Addr), DG (X.blk s H scope (compEnvC scope cl C X.env) fp) tg t) (ht : ∀ (s : Shared) (H : Hp) (C : Addr) (cl : List (Str × Addr)) (fp : List Addr), DTs (X.blk s H scope (compEnvC scope cl C X.env) fp) W0 cm ifs pt)
    (he : ∀ (s : Shared) (H : Hp) (C : Addr) (cl : List (Str × Addr)) (fp : List Addr), DE (X.blk s H scope (compEnvC scope cl C X.env) fp) W0 cm elt f) (hy : X.N[i]? = some y := by rfl) (hyl : X.env.scope.names.lookup y = some .local := by rfl) (hs : ∀ x, foldedSetIterable iter X.env x = pure x := by intro _; rfl) :
    DS X W cm (.Assign [.Name y py] (.ListComp elt [⟨tg, iter, ifs, 0⟩] scope pos) spos) (sOwn i (fComp (own.map (·.2)) t fi pt f)) :=
  ps_imp (ps_setLc hc hN hy hyl hsw hi ok hg ht he hs) fun D σ H q => by
    have q2 : tAsg (tL X.prog X.w X.K W cm (fComp (own.map (·.2)) t fi pt f)) (gName i) D σ H := t_own q
    exact t_comp hsub q2

/-! ### a, b = e1, e2 -/
def sPar (i j : Nat) (f g : En → Res PyData) : En → Out := fun env => .ofR (f env) env fun d => .ofR (g env) env fun e => .nx ((env.set i (some (.dat d))).set j (some (.dat e)))
theorem ds_par (i j : Nat) {y : Str} {a b : Expr} {g : En → Res PyData} {px py pt : Pos} {kt k2 pt2} (hc : X.calm = true) (hN : X.N.Nodup) (ha : DE X W cm a f) (hb : DE X W cm b g)
    (hw : swappedStores [.Tuple [.Name x px, .Name y py] kt pt] (.Tuple [a, b] k2 pt2) X.env = pure (some [x, y]) := by rfl) (hi : X.N[i]? = some x := by rfl) (hj : X.N[j]? = some y := by rfl) (hij : i ≠ j := by decide) (hx : X.env.scope.names.lookup x = some .local := by rfl) (hy : X.env.scope.names.lookup y = some .local := by rfl)
    (hs : swapsWithSole [.Tuple [.Name x px, .Name y py] kt pt] (.Tuple [a, b] k2 pt2) pos.line X.env = pure false := by rfl)
    (he : starEach [a, b] X.env = (false, eval a X.env) :: starEach [b] X.env := by rfl) (he2 : starEach [b] X.env = [(false, eval b X.env)] := by rfl) :
    DS X W cm (.Assign [.Tuple [.Name x px, .Name y py] kt pt] (.Tuple [a, b] k2 pt2) pos) (sPar i j f g) :=
  ps_imp (ps_par hc hN hi hj hij hx hy (pa_cons ha (pa_cons hb pa_nil he2) he) hw hs) fun D σ H q => by
    obtain ⟨G0, H0, G, env, ok, q⟩ := q
    show tD X.prog X.w X.K W cm f σ H fun v H1 => tD X.prog X.w X.K W cm g σ H1 fun u H2 => ∃ v' w', [v, u] = [v', w'] ∧ D.nx ((σ.set i (some v')).set j (some w')) H2
    refine tD.go ok (OutP.ofR ok q fun d _ k v G1 H1 g1 ok1 dp => ?_)
    refine tD.go ok1 (OutP.ofR ok1 (k.mono g1.g) fun e _ k u G2 H2 g2 ok2 dq => ?_)
    exact ⟨v, u, rfl, k G2 _ H2 g2.g ((ok2.dat (dp_mono g2.g _ _ dp)).dat dq)⟩
end

/-! ### raise, try -/
/-- what the program's top says of an own class of errors over ValueError -/
structure ExcOk (K : PySem.W.Frag) (mg : Str → Option Value) (x : Str) (C : Addr) : Prop where
  g : mg x = some (.ref C)
  x : PySem.W.excIn K C [.type "ValueError", .type "Exception", .type "BaseException", .type "object"] "ValueError.__new__" = true
  k : PySem.W.keepIn K (.ref C) = true
  b : PySem.W.subIn K (.ref C) (.type "BaseException") = some true
  t : PySem.W.typeIn K (.ref C) = some (.type "type")
def sRaise (x : Str) : En → Out := fun env => .ex x env
def sNoEx (g : En → Out) : En → Out := fun env => match g env with
  | .ex _ _ => .no
  | o => o
section
variable {X : Cx} {W : WX} {cm : Str → Addr} {pos : Pos}
theorem ds_raise {x m : Str} {j : Nat} {p p2 pos2 : Pos} (hc : X.calm = true) (tk : Takes X W) (E : ExcOk X.K X.mg x (cm x)) (hg : Gl X x := by rfl) (hdb : (x == ("__debug__" : Str)) = false := by decide) :
    DS X W cm (.Raise (some (.Call (.Name x p) [.Constant (.str m) j p2] [] pos)) none pos2) (sRaise x) :=
  ps_imp (ps_raise hc tk (pmk_own PySem.F.excBase_ValueError E.x E.g E.k (raises_own E.b E.t) hg hdb)) fun D σ H q => by
    obtain ⟨G0, H0, G, env, ok, q⟩ := q
    exact q G σ H (Same.refl G) ok
theorem outP_noEx {P : Program} {w : World} {K : PySem.W.Frag} {G0 H0 G : Hp} {D : Ends} {o : Out} (h : OutP P w K W cm G0 H0 G D (match o with | .ex _ _ => Out.no | o => o)) : OutP P w K W0 cm G0 H0 G D o := by
  cases o with
  | nx e => exact h
  | rt d => exact h
  | rl d => exact h
  | ex x e => exact h.elim
  | no => exact h
/-- try: body / except ..: the body raises nothing -/
theorem ds_thru {body : List Stmt} {h₀ : ExceptHandler} {hs : List ExceptHandler} {g : En → Out} (hb : DSs X.nox W0 cm body g) : DS X W cm (.Try body (h₀ :: hs) [] [] pos) (sNoEx g) := ps_imp (ps_try_thru0 hb) fun D σ H q => by
  obtain ⟨G0, H0, G, env, ok, q⟩ := q
  exact ⟨G0, H0, G, env, ok, outP_noEx q⟩
end

/-! ### defs -/
def initE (n : Nat) (ds : List PyData) : En := ds.map (fun d => some (.dat d)) ++ List.replicate (n - ds.length) none
def runD (g : En → Out) (n : Nat) : List PyData → Res PyData := fun ds => match g (initE n ds) with
  | .nx _ => .ok .none
  | .rt d => .ok d
  | .rl ds => .ok (.list ds)
  | .ex x _ => .ex x
  | .no => .no
def runL (g : En → Out) (n : Nat) : List PyData → Res (List PyData) := fun ds => match g (initE n ds) with
  | .rl ds => .ok ds
  | .ex x _ => .ex x
  | _ => .no
theorem initE_get {n : Nat} {ds : List PyData} {i : Nat} {s : SV} (h : (initE n ds)[i]? = some (some s)) : ∃ d, ds[i]? = some d ∧ s = .dat d := by
  unfold initE at h
  by_cases hi : i < ds.length
  · rw [List.getElem?_append_left (by rw [List.length_map]; exact hi), List.getElem?_map] at h
    cases q : ds[i]? with
    | none => rw [q] at h; cases h
    | some d => rw [q] at h; cases h; exact ⟨d, rfl, rfl⟩
  · rw [List.getElem?_append_right (by rw [List.length_map]; omega), List.getElem?_replicate] at h
    split at h <;> cases h
theorem start_get {N : List Str} {vs : List V} {i : Nat} {v : V} (h : vs[i]? = some v) : (L2.start N vs)[i]? = some (some v) := by
  unfold L2.start
  rw [List.getElem?_append_left (by rw [List.length_map]; exact (List.getElem?_eq_some_iff.mp h).1), List.getElem?_map, h]
  rfl
theorem ok_start {P : Program} {w : World} {K : PySem.W.Frag} {G H : Hp} {N : List Str} {vs : List V} {ds : List PyData} (gh : Same G H) (da : DpAll K G vs ds) : OkG P w K G H G (initE N.length ds) (L2.start N vs) H where
  gr := Grow.refl gh
  len := by
    unfold initE L2.start
    rw [List.length_append, List.length_append, List.length_map, List.length_map, List.length_replicate, List.length_replicate, dpAll_length da]
  sl := fun i s h => by
    obtain ⟨d, hd, rfl⟩ := initE_get h
    obtain ⟨v, hv, dp⟩ := dpAll_get da hd
    exact ⟨v, start_get hv, dp⟩
  ap := fun i j s t u h1 _ m1 _ _ _ => by
    obtain ⟨d, _, rfl⟩ := initE_get h1
    cases m1
section
variable {P : Program} {w : World} {K : PySem.W.Frag} {mg : Str → Option Value} {base : Heap} {cm : Str → Addr}
abbrev WD (E : XK) : WX := fun cls d _ H => E cls d H
theorem fnD {x qual : Str} {st : Stmt} {f : Addr} {fd : FuncData} {N ps : List Str} {k : Nat} {g : En → Out} (F : Fun K x qual st f fd) (S : FnScope N ps (defScope st))
    (hbody : ∀ (cdv : Value) (A : Around) (outer : List Env) (s : Shared) (H : Hp) (E : XK), Room k (A.deeper (envOfC qual (defScope st) s.heap.objs.size f cdv)) →
      PSs (cxOf (L2.CX P w) P w K mg base N qual (defScope st) f cdv A outer s H E) (defBody st) (tS P w K (WD E) cm g)) : FnOk P w K mg base (L2.CX P w) (k + 1) f fd ps (spD K cm ps.length (runD g N.length)) := by
  refine F.okX S (fun vs H Q E h => h.1) (fun cdv A outer s H vs Q E hr h => ⟨_, hbody cdv A outer s H E hr, ?_⟩)
  obtain ⟨hl, G, ds, gh, da, h⟩ := h
  refine ⟨G, H, G, _, ok_start gh da, ?_⟩
  unfold runD at h
  cases eg : g (initE N.length ds) with
  | nx e => rw [eg] at h; exact fun G' σ' H' s ok' => h _ G' H' ok'.gr .non
  | rt d => rw [eg] at h; exact fun v G' H' gr dp => h v G' H' gr dp
  | rl ds => rw [eg] at h; exact fun p vs G' H' gr h1 h2 h3 da => h _ _ _ (gr.freeze h1 h2 h3) (.lst (.inl (.inl upd_same)) (dpAll_mono (same_new h2) _ _ da))
  | ex x e => rw [eg] at h; exact fun G' σ' H' s ok' => h G' H' ok'.gr
  | no => rw [eg] at h; exact h.elim
theorem fnL {x qual : Str} {st : Stmt} {f : Addr} {fd : FuncData} {N ps : List Str} {k : Nat} {g : En → Out} (F : Fun K x qual st f fd) (S : FnScope N ps (defScope st))
    (hbody : ∀ (cdv : Value) (A : Around) (outer : List Env) (s : Shared) (H : Hp) (E : XK), Room k (A.deeper (envOfC qual (defScope st) s.heap.objs.size f cdv)) →
      PSs (cxOf (L2.CX P w) P w K mg base N qual (defScope st) f cdv A outer s H E) (defBody st) (tS P w K (WD E) cm g)) : FnOk P w K mg base (L2.CX P w) (k + 1) f fd ps (spL K cm ps.length (runL g N.length)) := by
  refine F.okX S (fun vs H Q E h => h.1) (fun cdv A outer s H vs Q E hr h => ⟨_, hbody cdv A outer s H E hr, ?_⟩)
  obtain ⟨hl, G, ds, gh, da, h⟩ := h
  refine ⟨G, H, G, _, ok_start gh da, ?_⟩
  unfold runL at h
  cases eg : g (initE N.length ds) with
  | nx e => rw [eg] at h; exact h.elim
  | rt d => rw [eg] at h; exact h.elim
  | rl ds => rw [eg] at h; exact fun p vs G' H' gr h1 h2 h3 da => h p vs G' H' gr h1 h2 h3 da
  | ex x e => rw [eg] at h; exact fun G' σ' H' s ok' => h G' H' ok'.gr
  | no => rw [eg] at h; exact h.elim
end
end GL

/-! # The data layer, part j: defs of the text and their callers -/
namespace GL
open PySem PySem.Spec PyProof.Rows L2

/-- the def st stands at the module's name x -/
def DefAt (K : PySem.W.Frag) (mg : Str → Option Value) (x : Str) (st : Stmt) : Prop := ∃ f fd, Fun K x x st f fd ∧ mg x = some (.ref f)
/-- what a caller wants of a def -/
def Callee (P : Program) (w : World) (K : PySem.W.Frag) (mg : Str → Option Value) (base : Heap) (k : Nat) (x : Str) (ps : List Str) (sp : Sp) : Prop :=
  ∃ f fd, PySem.W.keepIn K (.ref f) = true ∧ Binds K fd ps [] ∧ mg x = some (.ref f) ∧ FnOk P w K mg base (L2.CX P w) k f fd ps sp
section
variable {P : Program} {w : World} {K : PySem.W.Frag} {mg : Str → Option Value} {base : Heap} {cm : Str → Addr}
theorem callee_D {x : Str} {st : Stmt} {N ps : List Str} {k : Nat} {g : En → Out} (D : DefAt K mg x st) (S : FnScope N ps (defScope st))
    (hb : ∀ (kV doc pm : Value) (an : Option Addr) (cdv ct : Value) (us : List Value), us.length = ps.length → bindArgs (PySem.W.fnOf x x (defArgs st) (defBody st) (defScope st) .none kV doc pm an cdv ct) ⟨us, []⟩ = pure (ps.zip us))
    (hbody : ∀ {f : Addr} (cdv : Value) (A : Around) (outer : List Env) (s : Shared) (H : Hp) (E : XK), Room k (A.deeper (envOfC x (defScope st) s.heap.objs.size f cdv)) →
      Takes (cxOf (L2.CX P w) P w K mg base N x (defScope st) f cdv A outer s H E) (WD E) → PassesOwn (model P w) (A.deeper (envOfC x (defScope st) s.heap.objs.size f cdv)) (envOfC x (defScope st) s.heap.objs.size f cdv) (cxOf (L2.CX P w) P w K mg base N x (defScope st) f cdv A outer s H E).xe →
      PSs (cxOf (L2.CX P w) P w K mg base N x (defScope st) f cdv A outer s H E) (defBody st) (tS P w K (WD E) cm g)) : Callee P w K mg base (k + 1) x ps (spD K cm ps.length (runD g N.length)) := by
  obtain ⟨f, fd, F, hm⟩ := D
  exact ⟨f, fd, F.kp, F.binds hb, hm, fnD F S fun cdv A outer s H E hr => hbody cdv A outer s H E hr (takes_of rfl rfl rfl rfl) (passes_of rfl)⟩
theorem callee_L {x : Str} {st : Stmt} {N ps : List Str} {k : Nat} {g : En → Out} (D : DefAt K mg x st) (S : FnScope N ps (defScope st))
    (hb : ∀ (kV doc pm : Value) (an : Option Addr) (cdv ct : Value) (us : List Value), us.length = ps.length → bindArgs (PySem.W.fnOf x x (defArgs st) (defBody st) (defScope st) .none kV doc pm an cdv ct) ⟨us, []⟩ = pure (ps.zip us))
    (hbody : ∀ {f : Addr} (cdv : Value) (A : Around) (outer : List Env) (s : Shared) (H : Hp) (E : XK), Room k (A.deeper (envOfC x (defScope st) s.heap.objs.size f cdv)) →
      Takes (cxOf (L2.CX P w) P w K mg base N x (defScope st) f cdv A outer s H E) (WD E) → PassesOwn (model P w) (A.deeper (envOfC x (defScope st) s.heap.objs.size f cdv)) (envOfC x (defScope st) s.heap.objs.size f cdv) (cxOf (L2.CX P w) P w K mg base N x (defScope st) f cdv A outer s H E).xe →
      PSs (cxOf (L2.CX P w) P w K mg base N x (defScope st) f cdv A outer s H E) (defBody st) (tS P w K (WD E) cm g)) : Callee P w K mg base (k + 1) x ps (spL K cm ps.length (runL g N.length)) := by
  obtain ⟨f, fd, F, hm⟩ := D
  exact ⟨f, fd, F.kp, F.binds hb, hm, fnL F S fun cdv A outer s H E hr => hbody cdv A outer s H E hr (takes_of rfl rfl rfl rfl) (passes_of rfl)⟩
/-- a promise that says nothing -/
theorem callee_never {x : Str} {st : Stmt} {ps : List Str} {k : Nat} (D : DefAt K mg x st)
    (hb : ∀ (kV doc pm : Value) (an : Option Addr) (cdv ct : Value) (us : List Value), us.length = ps.length → bindArgs (PySem.W.fnOf x x (defArgs st) (defBody st) (defScope st) .none kV doc pm an cdv ct) ⟨us, []⟩ = pure (ps.zip us)) :
    Callee P w K mg base k x ps (spD K cm ps.length fun _ => .no) := by
  obtain ⟨f, fd, F, hm⟩ := D
  refine ⟨f, fd, F.kp, F.binds hb, hm, fun vs H Q E h => h.1, fun A outer s H args us vs Q E hr e0 hbb hv h => ?_⟩
  obtain ⟨_, G, ds, _, _, h⟩ := h
  exact h.elim
theorem Callee.mono {k k' : Nat} {x : Str} {ps : List Str} {sp : Sp} (C : Callee P w K mg base k x ps sp) (h : k ≤ k') : Callee P w K mg base k' x ps sp := by
  obtain ⟨f, fd, h1, h2, h3, h4⟩ := C
  exact ⟨f, fd, h1, h2, h3, h4.mono h⟩
end
section
variable {X : Cx} {W : WX} {cm : Str → Addr} {k k' : Nat} {ps : List Str} {x : Str} {p pos : Pos} {e : Expr} {es : List Expr} {n : Nat}
theorem de_cl {F : List PyData → Res PyData} {g : En → Res (List PyData)} (C : Callee X.prog X.w X.K X.mg X.base k x ps (spD X.K cm n F)) (hr : Room k' X.A) (hle : k ≤ k') (tk : Takes X W) (ha : DA X W cm (e :: es) g) (hlen : Len n g) (hg : Gl X x := by rfl)
    (hdb : (x == ("__debug__" : Str)) = false := by decide) (he : starEach (e :: es) X.env = (false, eval e X.env) :: starEach es X.env := by rfl) (hpl : (backTo pos (starEach es X.env)).any (·.1) = false := by rfl) :
    DE X W cm (.Call (.Name x p) (e :: es) [] pos) (fCall F g) := by
  obtain ⟨f, fd, h1, h2, h3, h4⟩ := C
  exact de_call h4 (hr.mono hle) hg h3 h1 h2 tk ha hlen hdb he hpl
theorem dl_cl {F : List PyData → Res (List PyData)} {g : En → Res (List PyData)} (C : Callee X.prog X.w X.K X.mg X.base k x ps (spL X.K cm n F)) (hr : Room k' X.A) (hle : k ≤ k') (tk : Takes X W) (ha : DA X W cm (e :: es) g) (hlen : Len n g) (hg : Gl X x := by rfl)
    (hdb : (x == ("__debug__" : Str)) = false := by decide) (he : starEach (e :: es) X.env = (false, eval e X.env) :: starEach es X.env := by rfl) (hpl : (backTo pos (starEach es X.env)).any (·.1) = false := by rfl) :
    DL X W cm (.Call (.Name x p) (e :: es) [] pos) (fCallL F g) := by
  obtain ⟨f, fd, h1, h2, h3, h4⟩ := C
  exact dl_call h4 (hr.mono hle) hg h3 h1 h2 tk ha hlen hdb he hpl
end
end GL

/-! # The data layer, part k: how the functions evaluate -/
namespace GL
open PySem PySem.Spec PyProof.Rows L2
/-- what a slot gives -/
def gD : Option (Option SV) → Res PyData := fun o => match o with
  | some (some (.dat d)) => .ok d
  | _ => .no
@[simp] theorem gD_dat (d : PyData) : gD (some (some (.dat d))) = .ok d := (rfl)
def gQ : Option (Option SV) → Res (Bool × List PyData) := fun o => match o with
  | some (some (.own ds)) => .ok (false, ds)
  | some (some (.dat (.list ds))) => .ok (false, ds)
  | some (some (.dat (.tuple ds))) => .ok (true, ds)
  | _ => .no
@[simp] theorem gQ_own (ds : List PyData) : gQ (some (some (.own ds))) = .ok (false, ds) := (rfl)
@[simp] theorem gQ_list (ds : List PyData) : gQ (some (some (.dat (.list ds)))) = .ok (false, ds) := (rfl)
@[simp] theorem gQ_tup (ds : List PyData) : gQ (some (some (.dat (.tuple ds)))) = .ok (true, ds) := (rfl)
def gO (o : Option (Option SV)) (k : List PyData → Out) : Out := match o with
  | some (some (.own ds)) => k ds
  | _ => .no
@[simp] theorem gO_own (ds : List PyData) (k : List PyData → Out) : gO (some (some (.own ds))) k = k ds := (rfl)
def opR {α : Type} : Option α → Res α
  | some d => .ok d
  | none => .no
@[simp] theorem opR_some {α : Type} (d : α) : opR (some d) = .ok d := (rfl)
def thenO (o : Out) (s : En → Out) : Out := match o with
  | .nx e => s e
  | o => o
@[simp] theorem thenO_nx (e : En) (s : En → Out) : thenO (.nx e) s = s e := (rfl)
@[simp] theorem thenO_rt (d : PyData) (s : En → Out) : thenO (.rt d) s = .rt d := (rfl)
@[simp] theorem thenO_rl (d : List PyData) (s : En → Out) : thenO (.rl d) s = .rl d := (rfl)
@[simp] theorem thenO_ex (x : Str) (e : En) (s : En → Out) : thenO (.ex x e) s = .ex x e := (rfl)
def noX (o : Out) : Out := match o with
  | .ex _ _ => .no
  | o => o
@[simp] theorem noX_nx (e : En) : noX (.nx e) = .nx e := (rfl)
@[simp] theorem noX_rt (d : PyData) : noX (.rt d) = .rt d := (rfl)
@[simp] theorem noX_rl (d : List PyData) : noX (.rl d) = .rl d := (rfl)
def frzO (env : En) (i : Nat) (o : Option (Option SV)) : En := match o with
  | some (some (.own ds)) => env.set i (some (.dat (.list ds)))
  | _ => env
@[simp] theorem frzO_own (env : En) (i : Nat) (ds : List PyData) : frzO env i (some (some (.own ds))) = env.set i (some (.dat (.list ds))) := (rfl)
@[simp] theorem frzO_dat (env : En) (i : Nat) (d : PyData) : frzO env i (some (some (.dat d))) = env := (rfl)
section
variable (env : En) (f g h : En → Res PyData) (p q : En → Res Bool)
@[simp] theorem fVar_e (i : Nat) : fVar i env = gD env[i]? := (rfl)
@[simp] theorem fQV_e (i : Nat) : fQV i env = gQ env[i]? := (rfl)
@[simp] theorem fC_e (d : PyData) : fC d env = .ok d := (rfl)
@[simp] theorem f1_e (o : PyData → Res PyData) : f1 o f env = (f env).bind o := (rfl)
@[simp] theorem f2_e (o : PyData → PyData → Res PyData) : f2 o f g env = (f env).bind fun d => (g env).bind fun e => o d e := (rfl)
@[simp] theorem fLst_e (f : En → Res (List PyData)) : fLst f env = (f env).map .list := (rfl)
@[simp] theorem fQ_e : fQ f env = (f env).bind asQ := (rfl)
@[simp] theorem fQL_e (f : En → Res (List PyData)) : fQL f env = (f env).map fun ds => (false, ds) := (rfl)
@[simp] theorem fNil_e : fNil env = .ok [] := (rfl)
@[simp] theorem fCons_e (g : En → Res (List PyData)) : fCons f g env = (f env).bind fun d => (g env).map fun ds => d :: ds := (rfl)
@[simp] theorem fTup_e (f : En → Res (List PyData)) : fTup f env = (f env).bind fun ds => if ds.length ≤ 1000 then .ok (.tuple ds) else .no := (rfl)
@[simp] theorem fDsp_e (f : En → Res (List PyData)) : fDsp f env = (f env).bind fun ds => if ds.length ≤ 1000 then .ok ds else .no := (rfl)
@[simp] theorem fB_e : fB f env = (f env).bind isB := (rfl)
@[simp] theorem fTru_e : fTru f env = (f env).bind truD := (rfl)
@[simp] theorem fTruQ_e (f : En → Res (Bool × List PyData)) : fTruQ f env = (f env).map fun q => !q.2.isEmpty := (rfl)
@[simp] theorem fAndT_e : fAndT p q env = (p env).bind fun b => if b then q env else .ok false := (rfl)
@[simp] theorem fOrT_e : fOrT p q env = (p env).bind fun b => if b then .ok true else q env := (rfl)
@[simp] theorem fNotT_e : fNotT p env = (p env).map fun b => !b := (rfl)
@[simp] theorem fAnd_e : fAnd f g env = (f env).bind fun d => (truD d).bind fun b => if b then g env else .ok d := (rfl)
@[simp] theorem fOr_e : fOr f g env = (f env).bind fun d => (truD d).bind fun b => if b then .ok d else g env := (rfl)
@[simp] theorem fNot_e : fNot f env = (f env).bind fun d => (truD d).map fun b => .bool (!b) := (rfl)
@[simp] theorem fIf_e : fIf p f g env = (p env).bind fun b => if b then f env else g env := (rfl)
@[simp] theorem fChain_e (o o' : PyData → PyData → Res PyData) : fChain o o' f g h env = (f env).bind fun d => (g env).bind fun e => (o d e).bind fun r => (isB r).bind fun k => if k then (h env).bind fun z => o' e z else .ok (.bool false) := (rfl)
@[simp] theorem fInQ_e (g : En → Res (Bool × List PyData)) : fInQ f g env = (f env).bind fun d => (g env).bind fun q => inD d (if q.1 then .tuple q.2 else .list q.2) := (rfl)
@[simp] theorem fNinQ_e (g : En → Res (Bool × List PyData)) : fNinQ f g env = (f env).bind fun d => (g env).bind fun q => ninD d (if q.1 then .tuple q.2 else .list q.2) := (rfl)
@[simp] theorem fIxQ_e (f : En → Res (Bool × List PyData)) : fIxQ f g env = (f env).bind fun q => (g env).bind fun d => ixD (.list q.2) d := (rfl)
@[simp] theorem fCall_e (o : List PyData → Res PyData) (f : En → Res (List PyData)) : fCall o f env = (f env).bind o := (rfl)
@[simp] theorem fCallL_e (o : List PyData → Res (List PyData)) (f : En → Res (List PyData)) : fCallL o f env = (f env).bind o := (rfl)
@[simp] theorem fCQ_e (o : Bool × List PyData → Res PyData) (f : En → Res (Bool × List PyData)) : fCQ o f env = (f env).bind o := (rfl)
@[simp] theorem fCQL_e (o : Bool × List PyData → Res (List PyData)) (f : En → Res (Bool × List PyData)) : fCQL o f env = (f env).bind o := (rfl)
@[simp] theorem fIsi_e (T : Ty) : fIsi T f env = (f env).map fun d => .bool (isTy T d) := (rfl)
@[simp] theorem fIsi2_e (T U : Ty) : fIsi2 T U f env = (f env).map fun d => .bool (isTy T d || isTy U d) := (rfl)
@[simp] theorem fON_e : fON env = .ok none := (rfl)
@[simp] theorem fOS_e : fOS f env = (f env).bind asI := (rfl)
@[simp] theorem fSl_e (lo hi : En → Res (Option Int)) : fSl f lo hi env = (f env).bind fun d => (lo env).bind fun l => (hi env).bind fun h => slD d l h := (rfl)
@[simp] theorem fJoin_e (g : En → Res (Bool × List PyData)) : fJoin f g env = ((f env).bind isS).bind fun a => (g env).bind fun q => joinD a q := (rfl)
@[simp] theorem fSS_e {α : Type} (o : Str → Str → Res α) : fSS o f g env = ((f env).bind isS).bind fun a => ((g env).bind isS).bind fun b => o a b := (rfl)
@[simp] theorem fS1_e {α : Type} (o : Str → Res α) : fS1 o f env = ((f env).bind isS).bind o := (rfl)
@[simp] theorem fSnd_e (f : En → Res (Bool × List PyData)) : fSnd f env = (f env).map Prod.snd := (rfl)
@[simp] theorem fItems_e : fItems f env = (f env).bind itemsD := (rfl)
@[simp] theorem fRange_e (f : En → Res (List PyData)) : fRange f env = (f env).bind rangeD := (rfl)
@[simp] theorem fZip_e (f : En → Res (List PyData)) : fZip f env = (f env).bind zipD := (rfl)
@[simp] theorem fComp_e (own : List Nat) (t : Tgt) (fi : En → Res (List PyData)) : fComp own t fi p f env = (fi env).bind fun ds => compF t p f (wipeE env own) ds := (rfl)
@[simp] theorem pYes_e : pYes env = .ok true := (rfl)
variable (s1 s2 : En → Out)
@[simp] theorem sSeq_e : sSeq s1 s2 env = thenO (s1 env) s2 := (rfl)
@[simp] theorem sNext_e : sNext env = .nx env := (rfl)
@[simp] theorem sIf_e : sIf p s1 s2 env = .ofR (p env) env fun b => if b then s1 env else s2 env := (rfl)
@[simp] theorem sRet_e : sRet f env = .ofR (f env) env .rt := (rfl)
@[simp] theorem sRetL_e (f : En → Res (List PyData)) : sRetL f env = .ofR (f env) env .rl := (rfl)
@[simp] theorem sRetO_e (i : Nat) : sRetO i env = gO env[i]? .rl := (rfl)
@[simp] theorem sAsg_e (t : Tgt) : sAsg t f env = .ofR (f env) env fun d => .ofR (bindT t d env) env .nx := (rfl)
@[simp] theorem sOwn_e (i : Nat) (f : En → Res (List PyData)) : sOwn i f env = .ofR (f env) env fun ds => .nx (env.set i (some (.own ds))) := (rfl)
@[simp] theorem sDrop_e : sDrop f env = .ofR (f env) env fun _ => .nx env := (rfl)
@[simp] theorem sFrz_e (i : Nat) : sFrz i s1 env = s1 (frz i env) := (rfl)
@[simp] theorem sFor_e (t : Tgt) (fi : En → Res (List PyData)) : sFor t fi s1 env = .ofR (fi env) env fun ds => forL t s1 ds env := (rfl)
@[simp] theorem sApp_e (i : Nat) : sApp i f env = gO env[i]? fun ds => .ofR (f env) env fun d => if ds.length < sizeLine then .nx (env.set i (some (.own (ds ++ [d])))) else .no := (rfl)
@[simp] theorem sExt_e (i : Nat) (f : En → Res (List PyData)) : sExt i f env = gO env[i]? fun ds => .ofR (f env) env fun es => if ds.length + es.length ≤ sizeLine then .nx (env.set i (some (.own (ds ++ es)))) else .no := (rfl)
@[simp] theorem sPar_e (i j : Nat) : sPar i j f g env = .ofR (f env) env fun d => .ofR (g env) env fun e => .nx ((env.set i (some (.dat d))).set j (some (.dat e))) := (rfl)
@[simp] theorem sRaise_e (x : Str) : sRaise x env = .ex x env := (rfl)
@[simp] theorem sNoEx_e : sNoEx s1 env = noX (s1 env) := (rfl)
@[simp] theorem bindT_one (i : Nat) (d : PyData) : bindT (.one i) d env = .ok (env.set i (some (.dat d))) := (rfl)
@[simp] theorem bindT_many (is : List Nat) (ds : List PyData) : bindT (.many is) (.tuple ds) env = if ds.length = is.length then .ok (setAll is ds env) else .no := (rfl)
@[simp] theorem setAll_nil (ds : List PyData) : setAll [] ds env = env := (rfl)
@[simp] theorem setAll_cons (i : Nat) (is : List Nat) (d : PyData) (ds : List PyData) : setAll (i :: is) (d :: ds) env = setAll is ds (env.set i (some (.dat d))) := (rfl)
@[simp] theorem wipeE_nil : wipeE env [] = env := (rfl)
@[simp] theorem wipeE_cons (v : Nat) (vs : List Nat) : wipeE env (v :: vs) = (wipeE env vs).set v none := (rfl)
@[simp] theorem addD_int (i j : Int) : addD (.int i) (.int j) = .ok (.int (i + j)) := (rfl)
theorem addD_str (x y : Str) : addD (.str x) (.str y) = if x.length + y.length ≤ sizeLine then .ok (.str (x ++ y)) else .no := rfl
@[simp] theorem addD_tup (x y : List PyData) : addD (.tuple x) (.tuple y) = if x.length + y.length ≤ sizeLine then .ok (.tuple (x ++ y)) else .no := (rfl)
@[simp] theorem subD_int (i j : Int) : subD (.int i) (.int j) = .ok (.int (i - j)) := (rfl)
@[simp] theorem mulD_int (i j : Int) : mulD (.int i) (.int j) = if mulOk i j = true then .ok (.int (i * j)) else .no := (rfl)
@[simp] theorem modD_int (i j : Int) : modD (.int i) (.int j) = if 0 < j then .ok (.int (i % j)) else .no := (rfl)
@[simp] theorem leD_int (i j : Int) : leD (.int i) (.int j) = .ok (.bool (decide (i ≤ j))) := (rfl)
@[simp] theorem gtD_int (i j : Int) : gtD (.int i) (.int j) = .ok (.bool (decide (j < i))) := (rfl)
@[simp] theorem geD_int (i j : Int) : geD (.int i) (.int j) = .ok (.bool (decide (j ≤ i))) := (rfl)
@[simp] theorem ltD_int (i j : Int) : ltD (.int i) (.int j) = .ok (.bool (decide (i < j))) := by
  unfold ltD
  rw [PySem.W.dataLt_int]
  simp [PySem.W.alike, PyData.depth]
theorem shaped_int (i : Int) : SeqAt.shaped (.int i) = true := by simp [SeqAt.shaped, PyData.canLay0, PyData.depth]
@[simp] theorem eqD_int (i j : Int) : eqD (.int i) (.int j) = .ok (.bool (decide (i = j))) := by
  unfold eqD
  rw [shaped_int, shaped_int]
  show Res.ok (PyData.bool (i == j)) = _
  have : (i == j) = decide (i = j) := by
    by_cases h : i = j
    · subst h; simp
    · rw [decide_eq_false h, beq_eq_false_iff_ne]; exact h
  rw [this]
@[simp] theorem neD_int (i j : Int) : neD (.int i) (.int j) = .ok (.bool (!decide (i = j))) := by
  unfold neD
  rw [shaped_int, shaped_int]
  show Res.ok (PyData.bool (!(i == j))) = _
  have : (i == j) = decide (i = j) := by
    by_cases h : i = j
    · subst h; simp
    · rw [decide_eq_false h, beq_eq_false_iff_ne]; exact h
  rw [this]
@[simp] theorem isB_bool (b : Bool) : isB (.bool b) = .ok b := (rfl)
@[simp] theorem truD_bool (b : Bool) : truD (.bool b) = .ok b := (rfl)
@[simp] theorem truD_none : truD .none = .ok false := (rfl)
@[simp] theorem truD_int (i : Int) : truD (.int i) = .ok (i != 0) := (rfl)
@[simp] theorem truD_list (ds : List PyData) : truD (.list ds) = .ok (!ds.isEmpty) := (rfl)
@[simp] theorem truD_tup (ds : List PyData) : truD (.tuple ds) = .ok (!ds.isEmpty) := (rfl)
@[simp] theorem asQ_list (ds : List PyData) : asQ (.list ds) = .ok (false, ds) := (rfl)
@[simp] theorem asQ_tup (ds : List PyData) : asQ (.tuple ds) = .ok (true, ds) := (rfl)
@[simp] theorem itemsD_list (ds : List PyData) : itemsD (.list ds) = .ok ds := (rfl)
@[simp] theorem itemsD_tup (ds : List PyData) : itemsD (.tuple ds) = .ok ds := (rfl)
@[simp] theorem itemsD_str (z : Str) : itemsD (.str z) = if z.length ≤ sizeLine then .ok (signsD z) else .no := (rfl)
@[simp] theorem lenD_list (ds : List PyData) : lenD [.list ds] = .ok (.int ds.length) := (rfl)
@[simp] theorem lenD_tup (ds : List PyData) : lenD [.tuple ds] = .ok (.int ds.length) := (rfl)
@[simp] theorem lenD_str (y : Str) : lenD [.str y] = if y.length ≤ sizeLine then .ok (.int y.length) else .no := (rfl)
@[simp] theorem lenQ_e (q : Bool × List PyData) : lenQ q = .ok (.int q.2.length) := (rfl)
@[simp] theorem tupleQ_e (q : Bool × List PyData) : tupleQ q = .ok (.tuple q.2) := (rfl)
@[simp] theorem listQ_e (q : Bool × List PyData) : listQ q = .ok q.2 := (rfl)
@[simp] theorem ixD_list_e (ds : List PyData) (i : Int) : ixD (.list ds) (.int i) = opR (atI ds i) := by
  show (match atI ds i with
    | some d => Res.ok d
    | none => .no) = _
  cases atI ds i <;> rfl
@[simp] theorem ixD_tup_e (ds : List PyData) (i : Int) : ixD (.tuple ds) (.int i) = opR (atI ds i) := by
  show (match atI ds i with
    | some d => Res.ok d
    | none => .no) = _
  cases atI ds i <;> rfl
@[simp] theorem isS_e (a : Str) : isS (.str a) = .ok a := (rfl)
@[simp] theorem asI_e (i : Int) : asI (.int i) = .ok (some i) := (rfl)
@[simp] theorem isD_nn : isD .none .none = .ok (.bool true) := (rfl)
@[simp] theorem isD_bb (a b : Bool) : isD (.bool a) (.bool b) = .ok (.bool (decide (a = b))) := (rfl)
@[simp] theorem isD_in (i : Int) : isD (.int i) .none = .ok (.bool false) := (rfl)
@[simp] theorem isD_sn (i : Str) : isD (.str i) .none = .ok (.bool false) := (rfl)
@[simp] theorem isD_bn (i : Bool) : isD (.bool i) .none = .ok (.bool false) := (rfl)
@[simp] theorem isD_tn (i : List PyData) : isD (.tuple i) .none = .ok (.bool false) := (rfl)
@[simp] theorem isD_ln (i : List PyData) : isD (.list i) .none = .ok (.bool false) := (rfl)
@[simp] theorem notB_e (b : Bool) : notB (.bool b) = .ok (.bool (!b)) := (rfl)
@[simp] theorem isnD_e (d e : PyData) : isnD d e = (isD d e).bind notB := (rfl)
@[simp] theorem ninD_e (d e : PyData) : ninD d e = (inD d e).bind notB := (rfl)
theorem rangeD_1 (j : Int) : rangeD [.int j] = if -(2 ^ 62) ≤ j ∧ j ≤ 16777216 then .ok (upTo 0 j.toNat) else .no := rfl
theorem rangeD_2 (i j : Int) : rangeD [.int i, .int j] = if (-(2 ^ 62) ≤ i ∧ i < 2 ^ 62) ∧ -(2 ^ 62) ≤ j ∧ j < 2 ^ 62 ∧ (j - i).toNat ≤ 16777216 then .ok (upTo i (j - i).toNat) else .no := rfl
@[simp] theorem frz_e (i : Nat) : frz i env = frzO env i env[i]? := (rfl)
end
theorem rangeD_n {n : Nat} (h : n ≤ 16777216) : rangeD [.int (n : Int)] = .ok ((List.range n).map fun (i : Nat) => .int (i : Int)) := by
  rw [rangeD_1, if_pos (by omega)]
  unfold upTo
  simp
theorem rangeD_1n {n : Nat} (h : n ≤ 16777216) : rangeD [.int 1, .int (n : Int)] = .ok ((List.range (n - 1)).map fun (i : Nat) => .int (1 + (i : Int))) := by
  rw [rangeD_2, if_pos (by omega)]
  unfold upTo
  rw [show ((n : Int) - 1).toNat = n - 1 by omega]
theorem runD_e (g : En → Out) (n : Nat) (ds : List PyData) : runD g n ds = (match g (initE n ds) with
  | .nx _ => .ok .none
  | .rt d => .ok d
  | .rl ds => .ok (.list ds)
  | .ex x _ => .ex x
  | .no => .no) := rfl
theorem runL_e (g : En → Out) (n : Nat) (ds : List PyData) : runL g n ds = (match g (initE n ds) with
  | .rl ds => .ok ds
  | .ex x _ => .ex x
  | _ => .no) := rfl

theorem runD_rt {g : En → Out} {n : Nat} {ds : List PyData} {d : PyData} (h : g (initE n ds) = .rt d) : runD g n ds = .ok d := by rw [runD_e, h]
theorem runD_rl {g : En → Out} {n : Nat} {ds : List PyData} {d : List PyData} (h : g (initE n ds) = .rl d) : runD g n ds = .ok (.list d) := by rw [runD_e, h]
theorem runD_nx {g : En → Out} {n : Nat} {ds : List PyData} {e : En} (h : g (initE n ds) = .nx e) : runD g n ds = .ok .none := by rw [runD_e, h]
theorem runD_ex {g : En → Out} {n : Nat} {ds : List PyData} {x : Str} {e : En} (h : g (initE n ds) = .ex x e) : runD g n ds = .ex x := by rw [runD_e, h]
theorem runL_rl {g : En → Out} {n : Nat} {ds : List PyData} {d : List PyData} (h : g (initE n ds) = .rl d) : runL g n ds = .ok d := by rw [runL_e, h]
theorem runL_ex {g : En → Out} {n : Nat} {ds : List PyData} {x : Str} {e : En} (h : g (initE n ds) = .ex x e) : runL g n ds = .ex x := by rw [runL_e, h]
theorem sSeq_nx {s1 s2 : En → Out} {env e : En} (h : s1 env = .nx e) : sSeq s1 s2 env = s2 e := by rw [sSeq_e, h]; rfl
/-! ### loops by typed lists -/
theorem compF_map {α : Type} (enc : α → PyData) {t : Tgt} {p : En → Res Bool} {f : En → Res PyData} {env : En} (e : α → En) (q : α → Bool) (y : α → PyData) : ∀ (xs : List α),
    (∀ x ∈ xs, bindT t (enc x) env = .ok (e x) ∧ p (e x) = .ok (q x) ∧ (q x = true → f (e x) = .ok (y x))) → compF t p f env (xs.map enc) = .ok ((xs.filter q).map y)
  | [], _ => rfl
  | x :: xs, h => by
    obtain ⟨h1, h2, h3⟩ := h x List.mem_cons_self
    have ih := compF_map enc e q y xs fun z hz => h z (List.mem_cons_of_mem _ hz)
    show (bindT t (enc x) env).bind _ = _
    rw [h1, Res.bind_ok, h2, noEx_okk, Res.bind_ok]
    cases hq : q x with
    | true =>
      rw [if_pos rfl, h3 hq, noEx_okk, Res.bind_ok, ih, Res.map_ok, List.filter_cons, if_pos hq]
      rfl
    | false =>
      rw [if_neg Bool.false_ne_true, ih, List.filter_cons, if_neg (by rw [hq]; exact Bool.false_ne_true)]
/-- .. without a test -/
theorem compF_all {α : Type} (enc : α → PyData) {t : Tgt} {f : En → Res PyData} {env : En} (e : α → En) (y : α → PyData) (xs : List α)
    (h : ∀ x ∈ xs, bindT t (enc x) env = .ok (e x) ∧ f (e x) = .ok (y x)) : compF t pYes f env (xs.map enc) = .ok (xs.map y) := by
  rw [compF_map enc e (fun _ => true) y xs fun x hx => ⟨(h x hx).1, rfl, fun _ => (h x hx).2⟩]
  rw [List.filter_eq_self.mpr fun _ _ => rfl]
theorem forL_inv {α S : Type} (enc : α → PyData) {t : Tgt} {g : En → Out} (Inv : S → En → Prop) (step : S → α → S) : ∀ (xs : List α) (s : S) (env : En),
    (∀ x ∈ xs, ∀ s env, Inv s env → ∃ e1 e2, bindT t (enc x) env = .ok e1 ∧ g e1 = .nx e2 ∧ Inv (step s x) e2) → Inv s env → ∃ e', forL t g (xs.map enc) env = .nx e' ∧ Inv (xs.foldl step s) e'
  | [], s, env, _, hi => ⟨env, rfl, hi⟩
  | x :: xs, s, env, h, hi => by
    obtain ⟨e1, e2, h1, h2, h3⟩ := h x List.mem_cons_self s env hi
    obtain ⟨e', h4, h5⟩ := forL_inv enc Inv step xs (step s x) e2 (fun z hz => h z (List.mem_cons_of_mem _ hz)) h3
    refine ⟨e', ?_, h5⟩
    show (match bindT t (enc x) env with
      | .ok e1 => (match g e1 with
        | .nx e2 => forL t g (xs.map enc) e2
        | o => o)
      | _ => .no) = _
    rw [h1]
    show (match g e1 with
        | .nx e2 => forL t g (xs.map enc) e2
        | o => o) = _
    rw [h2]
    exact h4
/-- .. counted -/
theorem forL_at {α : Type} (enc : α → PyData) {t : Tgt} {g : En → Out} (Inv : Nat → En → Prop) : ∀ (xs : List α) (k : Nat) (env : En),
    (∀ j x, xs[j]? = some x → ∀ env, Inv (k + j) env → ∃ e1 e2, bindT t (enc x) env = .ok e1 ∧ g e1 = .nx e2 ∧ Inv (k + j + 1) e2) → Inv k env → ∃ e', forL t g (xs.map enc) env = .nx e' ∧ Inv (k + xs.length) e'
  | [], k, env, _, hi => ⟨env, rfl, hi⟩
  | x :: xs, k, env, h, hi => by
    obtain ⟨e1, e2, h1, h2, h3⟩ := h 0 x rfl env hi
    obtain ⟨e', h4, h5⟩ := forL_at enc Inv xs (k + 1) e2 (fun j z hz env hv => by
      have := h (j + 1) z hz env (by rw [show k + (j + 1) = k + 1 + j by omega]; exact hv)
      rw [show k + 1 + j + 1 = k + (j + 1) + 1 by omega]
      exact this) h3
    refine ⟨e', ?_, by rw [List.length_cons, show k + (xs.length + 1) = k + 1 + xs.length by omega]; exact h5⟩
    show (match bindT t (enc x) env with
      | .ok e1 => (match g e1 with
        | .nx e2 => forL t g (xs.map enc) e2
        | o => o)
      | _ => .no) = _
    rw [h1]
    show (match g e1 with
        | .nx e2 => forL t g (xs.map enc) e2
        | o => o) = _
    rw [h2]
    exact h4
theorem forL_range {t : Tgt} {g : En → Out} (Inv : Nat → En → Prop) (n : Nat) (env : En) (h : ∀ i, i < n → ∀ env, Inv i env → ∃ e1 e2, bindT t (.int (i : Int)) env = .ok e1 ∧ g e1 = .nx e2 ∧ Inv (i + 1) e2) (h0 : Inv 0 env) :
    ∃ e', forL t g ((List.range n).map fun (i : Nat) => .int (i : Int)) env = .nx e' ∧ Inv n e' := by
  have := forL_at (fun (i : Nat) => PyData.int i) (t := t) (g := g) Inv (List.range n) 0 env (fun j x hx env hv => by
    have hj : j < n := by
      have := (List.getElem?_eq_some_iff.mp hx).1
      simpa using this
    have ex : x = j := by
      rw [List.getElem?_range hj] at hx
      exact (Option.some.inj hx).symm
    subst ex
    rw [Nat.zero_add] at hv ⊢
    exact h x hj env hv) h0
  rw [Nat.zero_add, List.length_range] at this
  exact this
end GL

/-! # The data layer, part l: the ends -/
namespace GL
open PySem PySem.Spec PyProof.Rows L2
section
variable {P : Program} {w : World} {K : PySem.W.Frag} {mg : Str → Option Value} {base : Heap} {cm : Str → Addr}
/-- the written part holds the def st at the name x -/
def DefIn (K : PySem.W.Frag) (x : Str) (st : Stmt) : Prop :=
  ∃ (f : Addr) (od an : Option Addr) (sl : Array (Option Value)) (oc kV dc pm cd ct : Value), PySem.W.nsIn K mainGlobals x = some (some (.ref f)) ∧
    K.lookup f = some ⟨oc, od, .func (PySem.W.fnOf x x (defArgs st) (defBody st) (defScope st) .none kV dc pm an cd ct), sl⟩ ∧ PySem.W.codeIn K cd x = true ∧ PySem.W.keepIn K (.ref f) = true
theorem defIn_mk {x : Str} {st : Stmt} {f : Addr} {od an : Option Addr} {sl : Array (Option Value)} {oc kV dc pm cd ct : Value} (a : PySem.W.nsIn K mainGlobals x = some (some (.ref f)))
    (l : K.lookup f = some ⟨oc, od, .func (PySem.W.fnOf x x (defArgs st) (defBody st) (defScope st) .none kV dc pm an cd ct), sl⟩) (c : PySem.W.codeIn K cd x = true) (k : PySem.W.keepIn K (.ref f) = true) : DefIn K x st :=
  ⟨f, od, an, sl, oc, kV, dc, pm, cd, ct, a, l, c, k⟩
theorem DefIn.at {h : Heap} {x : Str} {st : Stmt} (D : DefIn K x st) (X : K.In h) (G : h.Ns mainGlobals mg) : DefAt K mg x st := by
  obtain ⟨f, od, an, sl, oc, kV, dc, pm, cd, ct, a, l, c, k⟩ := D
  exact ⟨f, _, fun_mk (st := st) l c k, PySem.W.mg_of X G a⟩
structure BltIn (K : PySem.W.Frag) : Prop where
  len : PySem.W.nsIn K mainGlobals "len" = some none
  range : PySem.W.nsIn K mainGlobals "range" = some none
  tuple : PySem.W.nsIn K mainGlobals "tuple" = some none
  list : PySem.W.nsIn K mainGlobals "list" = some none
  str : PySem.W.nsIn K mainGlobals "str" = some none
  int : PySem.W.nsIn K mainGlobals "int" = some none
  bool : PySem.W.nsIn K mainGlobals "bool" = some none
  sorted : PySem.W.nsIn K mainGlobals "sorted" = some none
  set : PySem.W.nsIn K mainGlobals "set" = some none
  all : PySem.W.nsIn K mainGlobals "all" = some none
  any : PySem.W.nsIn K mainGlobals "any" = some none
  isinstance : PySem.W.nsIn K mainGlobals "isinstance" = some none
  zip : PySem.W.nsIn K mainGlobals "zip" = some none
  enumerate : PySem.W.nsIn K mainGlobals "enumerate" = some none
  sum : PySem.W.nsIn K mainGlobals "sum" = some none
  min : PySem.W.nsIn K mainGlobals "min" = some none
  dict : PySem.W.nsIn K mainGlobals "dict" = some none
  valueError : PySem.W.nsIn K mainGlobals "ValueError" = some none
theorem BltIn.at {h : Heap} (B : BltIn K) (X : K.In h) (G : h.Ns mainGlobals mg) : Blt mg :=
  ⟨PySem.W.mg_none_of X G B.len, PySem.W.mg_none_of X G B.range, PySem.W.mg_none_of X G B.tuple, PySem.W.mg_none_of X G B.list, PySem.W.mg_none_of X G B.str, PySem.W.mg_none_of X G B.int, PySem.W.mg_none_of X G B.bool, PySem.W.mg_none_of X G B.sorted, PySem.W.mg_none_of X G B.set, PySem.W.mg_none_of X G B.all, PySem.W.mg_none_of X G B.any, PySem.W.mg_none_of X G B.isinstance, PySem.W.mg_none_of X G B.zip, PySem.W.mg_none_of X G B.enumerate, PySem.W.mg_none_of X G B.sum, PySem.W.mg_none_of X G B.min, PySem.W.mg_none_of X G B.dict, PySem.W.mg_none_of X G B.valueError⟩
structure ExcHere (K : PySem.W.Frag) (x : Str) (C : Addr) : Prop where
  g : PySem.W.nsIn K mainGlobals x = some (some (.ref C))
  x : PySem.W.excIn K C [.type "ValueError", .type "Exception", .type "BaseException", .type "object"] "ValueError.__new__" = true
  k : PySem.W.keepIn K (.ref C) = true
  b : PySem.W.subIn K (.ref C) (.type "BaseException") = some true
  t : PySem.W.typeIn K (.ref C) = some (.type "type")
theorem ExcHere.at {h : Heap} {x : Str} {C : Addr} (E : ExcHere K x C) (X : K.In h) (G : h.Ns mainGlobals mg) : ExcOk K mg x C := ⟨PySem.W.mg_of X G E.g, E.x, E.k, E.b, E.t⟩
/-- the entry -/
theorem entry_D {x : Str} {st : Stmt} {N ps : List Str} {k : Nat} {g : En → Out} {f : Addr} {fd : FuncData} (F : Fun K x x st f fd) (S : FnScope N ps (defScope st))
    (hbody : ∀ {f : Addr} (cdv : Value) (A : Around) (outer : List Env) (s : Shared) (H : Hp) (E : XK), Room k (A.deeper (envOfC x (defScope st) s.heap.objs.size f cdv)) →
      Takes (cxOf (L2.CX P w) P w K mg base N x (defScope st) f cdv A outer s H E) (WD E) → PassesOwn (model P w) (A.deeper (envOfC x (defScope st) s.heap.objs.size f cdv)) (envOfC x (defScope st) s.heap.objs.size f cdv) (cxOf (L2.CX P w) P w K mg base N x (defScope st) f cdv A outer s H E).xe →
      PSs (cxOf (L2.CX P w) P w K mg base N x (defScope st) f cdv A outer s H E) (defBody st) (tS P w K (WD E) cm g)) : FnOk P w K mg base (L2.CX P w) (k + 1) f fd ps (spD K cm ps.length (runD g N.length)) :=
  fnD F S fun cdv A outer s H E hr => hbody cdv A outer s H E hr (takes_of rfl rfl rfl rfl) (passes_of rfl)
/-- the law's promise -/
def spTrue (n : Nat) (K : PySem.W.Frag) : Sp := fun vs H Q _ => ∃ (a : Addr) (ns : List Int), vs = [.ref a] ∧ ns.length ≤ n ∧ SqL K H a (ns.map V.int) ∧ ∀ H', Q (.bl true) H'
theorem dpAll_ints {G : Hp} : ∀ ns : List Int, DpAll K G (ns.map V.int) (ns.map PyData.int)
  | [] => .nil
  | n :: ns => .cons (.int n) (dpAll_ints ns)
theorem true_D {n : Nat} {F : List PyData → Res PyData} (hF : ∀ ns : List Int, ns.length ≤ n → F [.list (ns.map .int)] = .ok (.bool true)) {k : Nat} {f : Addr} {fd : FuncData} {ps : List Str} (Fn : FnOk P w K mg base (L2.CX P w) k f fd ps (spD K cm 1 F)) : FnOk P w K mg base (L2.CX P w) k f fd ps (spTrue n K) :=
  Fn.imp fun vs H Q E h => by
    obtain ⟨a, ns, rfl, hl, hS, q⟩ := h
    refine ⟨rfl, H, [.list (ns.map .int)], fun _ _ e => e, .cons (.lst hS (dpAll_ints ns)) .nil, ?_⟩
    rw [hF ns hl]
    intro v G' H' _ dp
    cases dp
    exact q H'
end
theorem cx_never {P : Program} {w : World} {H : Hp} {s : Shared} {e : Value} {s' : Shared} (h : L2.CX P w [] H s (fun _ _ _ => False) e s') : False := by
  obtain ⟨_, _, _, _, _, _, _, _, _, _, _, _, h⟩ := h
  exact h
end GL

/-! # Plain laws, part a: signs, digits, moves, machines -/
namespace GL
open PySem PySem.Spec PyProof.Rows L2 TL
/-- a text of one sign -/
def sg (c : Nat) : Str := ⟨#[c]⟩
def mkS (l : List Nat) : Str := ⟨l.toArray⟩
@[simp] theorem tl_sg (c : Nat) : tl (sg c) = [c] := rfl
@[simp] theorem tl_mkS (l : List Nat) : tl (mkS l) = l := rfl
@[simp] theorem mkS_len (l : List Nat) : (mkS l).length = l.length := by rw [len_tl, tl_mkS]
@[simp] theorem sg_len (c : Nat) : (sg c).length = 1 := rfl
theorem sg_eq (c : Nat) : sg c = mkS [c] := rfl
theorem mkS_app (a b : List Nat) : mkS a ++ mkS b = mkS (a ++ b) := ext_tl (by rw [tl_append]; rfl)
theorem signsD_mk (l : List Nat) : signsD (mkS l) = l.map fun c => .str (sg c) := rfl
theorem sgs_eq (l : List Nat) : (l.map fun c => PyData.str (sg c)) = l.map fun c => .str (sg c) := rfl
theorem beq_str (x y : Str) : (x == y) = decide (x = y) := by
  by_cases h : x = y
  · subst h; simp
  · rw [decide_eq_false h, beq_eq_false_iff_ne]; exact h
theorem beq_int (x y : Int) : (x == y) = decide (x = y) := by
  by_cases h : x = y
  · subst h; simp
  · rw [decide_eq_false h, beq_eq_false_iff_ne]; exact h
theorem sg_inj {a b : Nat} : sg a = sg b ↔ a = b := ⟨fun h => by have := congrArg tl h; simpa using this, fun h => h ▸ rfl⟩
theorem mkS_inj {a b : List Nat} : mkS a = mkS b ↔ a = b := ⟨fun h => by have := congrArg tl h; simpa using this, fun h => h ▸ rfl⟩
theorem inStr_sg (c : Nat) (z : Str) : inStr (sg c) z = decide (c ∈ tl z) := by
  unfold inStr
  exact PySem.StrLaws.found_one z c
@[simp] theorem inD_sg (c : Nat) (z : Str) : inD (.str (sg c)) (.str z) = .ok (.bool (decide (c ∈ tl z))) := by
  show Res.ok (PyData.bool (inStr (sg c) z)) = _
  rw [inStr_sg]
/-- a digit -/
theorem str_dig {n : Nat} (h : n < 10) : Str.ofString (toString (n : Int)) = sg (48 + n) := ext_tl (by rw [tl_num, numL_lt h]; rfl)
theorem strD_dig {n : Nat} (h : n < 10) : strD [.int (n : Int)] = .ok (.str (sg (48 + n))) := by
  have e : strD [.int (n : Int)] = if (n : Int).natAbs.log2 < 1920 then .ok (.str (Str.ofString (toString (n : Int)))) else .no := rfl
  rw [e, str_dig h, if_pos]
  show n.log2 < 1920
  have : n.log2 ≤ n := Nat.log2_le_self n
  omega
theorem intD_dig {n : Nat} (h : n < 10) : intD [.str (sg (48 + n))] = .ok (.int (n : Int)) := by
  have e : intText? (sg (48 + n)) = some (n : Int) := by
    rw [← str_dig h]
    exact int_num (by rw [numL_lt h]; exact Nat.le_trans (Nat.le_refl 1) (by decide))
  show (match PySem.intText? (sg (48 + n)) with
    | some m => if (sg (48 + n)).length ≤ 640 then Res.ok (PyData.int m) else .no
    | none => .no) = _
  rw [e]
  rfl
theorem strOk_sg {c : Nat} (h : c < 128) : PyData.strOk (sg c) = true := by
  simp [PyData.strOk, sg]
  omega
@[simp] theorem boolsOf_map {α : Type} (f : α → Bool) : ∀ xs : List α, boolsOf (xs.map fun x => .bool (f x)) = some (xs.map f)
  | [] => rfl
  | x :: xs => by show (boolsOf (xs.map fun x => .bool (f x))).map _ = _; rw [boolsOf_map f xs]; rfl
@[simp] theorem strsOf_map {α : Type} (f : α → Str) : ∀ xs : List α, strsOf (xs.map fun x => .str (f x)) = some (xs.map f)
  | [] => rfl
  | x :: xs => by show (strsOf (xs.map fun x => .str (f x))).map _ = _; rw [strsOf_map f xs]; rfl
@[simp] theorem intsOf_map {α : Type} (f : α → Int) : ∀ xs : List α, intsOf (xs.map fun x => .int (f x)) = some (xs.map f)
  | [] => rfl
  | x :: xs => by show (intsOf (xs.map fun x => .int (f x))).map _ = _; rw [intsOf_map f xs]; rfl
theorem allQ_map {α : Type} (f : α → Bool) (xs : List α) : allQ (false, xs.map fun x => .bool (f x)) = .ok (.bool (xs.all f)) := by
  show (match boolsOf (xs.map fun x => PyData.bool (f x)) with
    | some bs => Res.ok (PyData.bool (bs.all id))
    | none => .no) = _
  rw [boolsOf_map]
  show Res.ok (PyData.bool ((xs.map f).all id)) = _
  rw [List.all_map]
  rfl
theorem anyQ_map {α : Type} (f : α → Bool) (xs : List α) : anyQ (false, xs.map fun x => .bool (f x)) = .ok (.bool (xs.any f)) := by
  show (match boolsOf (xs.map fun x => PyData.bool (f x)) with
    | some bs => Res.ok (PyData.bool (bs.any id))
    | none => .no) = _
  rw [boolsOf_map]
  show Res.ok (PyData.bool ((xs.map f).any id)) = _
  rw [List.any_map]
  rfl
/-- texts joined without a sign between -/
theorem join_empty : ∀ ls : List (List Nat), tl (Txt.join "" (ls.map mkS)) = ls.flatten := fun ls => by
  rw [join_eq, tl_join, List.map_map]
  have e : (ls.map (tl ∘ mkS)) = ls := by rw [show (tl ∘ mkS) = id from funext fun l => rfl, List.map_id]
  rw [e]
  have : ∀ ls : List (List Nat), joinL (tl ("" : Str)) ls = ls.flatten := fun ls => by
    induction ls with
    | nil => rfl
    | cons a r ih => cases r with
      | nil => show a = _; simp
      | cons b r => show a ++ (tl ("" : Str) ++ joinL (tl ("" : Str)) (b :: r)) = _; rw [ih]; simp [tl_ofString]
  exact this ls
theorem joinD_empty {α : Type} (q : Bool) (f : α → List Nat) (xs : List α) (h : (xs.map fun x => (f x).length).sum ≤ 16777216) : joinD "" (q, xs.map fun x => .str (mkS (f x))) = .ok (.str (mkS (xs.map f).flatten)) := by
  unfold joinD
  rw [strsOf_map (fun x => mkS (f x))]
  have e0 : ("" : Str).length = 0 := rfl
  rw [e0]
  simp only [List.map_map]
  rw [if_pos (by
    have : (((fun x => Str.length x) ∘ fun x => mkS (f x)) : α → Nat) = fun x => (f x).length := funext fun x => mkS_len _
    rw [this]; simpa using h)]
  refine congrArg (fun z => Res.ok (PyData.str z)) (ext_tl ?_)
  have : (xs.map fun x => mkS (f x)) = (xs.map f).map mkS := by rw [List.map_map]; rfl
  rw [this, join_empty]
  rfl

/-! ### moves -/
structure Mv where
  s : Nat
  c : Nat
  t : Nat
  deriving DecidableEq
def Mv.D (m : Mv) : PyData := .tuple [.int m.s, .str (sg m.c), .int m.t]
def Mv.lt (a b : Mv) : Prop := a.s < b.s ∨ a.s = b.s ∧ (a.c < b.c ∨ a.c = b.c ∧ a.t < b.t)
instance (a b : Mv) : Decidable (Mv.lt a b) := by unfold Mv.lt; exact inferInstance
def Mv.le (a b : Mv) : Bool := !decide (Mv.lt b a)
theorem Mv.eqv (a b : Mv) : PyData.eqv a.D b.D = decide (a = b) := by
  unfold Mv.D
  simp only [PyData.eqv, PyData.eqvAll, beq_str, beq_int, sg_inj, Bool.and_true]
  rw [Bool.eq_iff_iff]
  cases a; cases b
  simp [Mv.mk.injEq]
  omega
theorem Mv.alike (a b : Mv) : PySem.W.alike a.D b.D = true := by simp [Mv.D, PySem.W.alike, PySem.W.alikeAll]
theorem lt_sg (a b : Nat) : PySem.W.dataLt (.str (sg a)) (.str (sg b)) = decide (a < b) := by
  rw [PySem.W.dataLt_str]
  show decide ([a] < [b]) = _
  rw [Bool.eq_iff_iff]
  simp [List.cons_lt_cons_iff]
theorem Mv.dlt (a b : Mv) : PySem.W.dataLt a.D b.D = decide (Mv.lt a b) := by
  unfold Mv.D
  rw [PySem.W.dataLt_tuple, PySem.W.dataLt_cons (by simp [PySem.W.alike]), PySem.W.dataLt_cons (by simp [PySem.W.alike]), PySem.W.dataLt_cons (by simp [PySem.W.alike]), PySem.W.dataLt_int, PySem.W.dataLt_int, lt_sg]
  have e : PyProof.Rows.lexLt itemOrd (PySem.W.keyToksAll []) (PySem.W.keyToksAll []) = false := lex_irrefl _
  rw [e]
  simp only [PyData.eqv, beq_str, beq_int, sg_inj]
  unfold Mv.lt
  by_cases h1 : a.s = b.s <;> by_cases h2 : a.c = b.c <;> by_cases h3 : a.t = b.t <;> simp [h1, h2, h3] <;> omega
theorem Mv.lt_irrefl (a : Mv) : ¬ Mv.lt a a := by unfold Mv.lt; omega
theorem Mv.lt_trans {a b c : Mv} (h : Mv.lt a b) (h' : Mv.lt b c) : Mv.lt a c := by unfold Mv.lt at *; omega
theorem Mv.tri (a b : Mv) : Mv.lt a b ∨ a = b ∨ Mv.lt b a := by
  cases a; cases b
  simp [Mv.lt, Mv.mk.injEq]
  omega
theorem Mv.depth (a : Mv) : a.D.depth = 1 := by simp [Mv.D, PyData.depth, PyData.depthAll]
theorem Mv.canLay {a : Mv} (h : a.c < 128) : PyData.canLay0 a.D = true := by simp [Mv.D, PyData.canLay0, PyData.canLayAll0, strOk_sg h]
theorem canLayAll_map {α : Type} (f : α → PyData) : ∀ xs : List α, (∀ x ∈ xs, PyData.canLay0 (f x) = true) → PyData.canLayAll0 (xs.map f) = true
  | [], _ => rfl
  | x :: xs, h => by
    show PyData.canLayAll0 (f x :: xs.map f) = true
    rw [PyData.canLayAll0, h x List.mem_cons_self, canLayAll_map f xs fun y hy => h y (List.mem_cons_of_mem _ hy)]
    rfl
theorem depthAll_map {α : Type} (f : α → PyData) {k : Nat} : ∀ xs : List α, (∀ x ∈ xs, (f x).depth ≤ k) → PyData.depthAll (xs.map f) ≤ k
  | [], _ => Nat.zero_le _
  | x :: xs, h => by
    show PyData.depthAll (f x :: xs.map f) ≤ k
    rw [PyData.depthAll]
    have := h x List.mem_cons_self
    have := depthAll_map f xs fun y hy => h y (List.mem_cons_of_mem _ hy)
    omega
theorem shaped_list {α : Type} (f : α → PyData) (k : Nat) (hk : k < 64) (xs : List α) (h : ∀ x ∈ xs, PyData.canLay0 (f x) = true ∧ (f x).depth ≤ k) : SeqAt.shaped (.list (xs.map f)) = true := by
  unfold SeqAt.shaped
  rw [PyData.canLay0, canLayAll_map f xs fun x hx => (h x hx).1, Bool.true_and, PyData.depth]
  have := depthAll_map f xs fun x hx => (h x hx).2
  exact decide_eq_true (by omega)
theorem shaped_tup {α : Type} (f : α → PyData) (k : Nat) (hk : k < 64) (xs : List α) (h : ∀ x ∈ xs, PyData.canLay0 (f x) = true ∧ (f x).depth ≤ k) : SeqAt.shaped (.tuple (xs.map f)) = true := by
  unfold SeqAt.shaped
  rw [PyData.canLay0, canLayAll_map f xs fun x hx => (h x hx).1, Bool.true_and, PyData.depth]
  have := depthAll_map f xs fun x hx => (h x hx).2
  exact decide_eq_true (by omega)
theorem Mv.shaped {a : Mv} (h : a.c < 128) : SeqAt.shaped a.D = true := by
  unfold SeqAt.shaped
  rw [Mv.canLay h, Mv.depth]
  rfl
theorem Mv.inD (a : Mv) (ms : List Mv) (h : a.c < 128) (hm : ∀ m ∈ ms, m.c < 128) : inD a.D (.list (ms.map Mv.D)) = .ok (.bool (decide (a ∈ ms))) := by
  show (if (SeqAt.shaped a.D && SeqAt.shaped (.list (ms.map Mv.D))) = true then Res.ok (PyData.bool ((ms.map Mv.D).any fun z => PyData.eqv z a.D)) else .no) = _
  rw [Mv.shaped h, shaped_list Mv.D 1 (by decide) ms fun m hx => ⟨Mv.canLay (hm m hx), Nat.le_of_eq (Mv.depth m)⟩, if_pos (by decide), List.any_map]
  refine congrArg (fun z => Res.ok (PyData.bool z)) ?_
  rw [Bool.eq_iff_iff]
  simp [Mv.eqv]
theorem Mv.sort (ms : List Mv) : sortedQ (false, ms.map Mv.D) = .ok ((ms.mergeSort Mv.le).map Mv.D) := by
  have h1 : allAlike (ms.map Mv.D) = true := by
    cases ms with
    | nil => rfl
    | cons a r =>
      show (((a :: r).map Mv.D).all fun x => ((a :: r).map Mv.D).all fun y => PySem.W.alike x y) = true
      simp [Mv.alike]
  have h2 : sortable (ms.map Mv.D) = true := by
    unfold sortable
    rw [Bool.or_eq_true]
    left
    simp [Mv.D]
  have h3 : ((ms.map Mv.D).all fun d => decide (d.depth ≤ 8)) = true := by simp [Mv.depth]
  show (if (allAlike (ms.map Mv.D) && sortable (ms.map Mv.D) && (ms.map Mv.D).all fun d => decide (d.depth ≤ 8)) = true then Res.ok (sortD (ms.map Mv.D)) else .no) = _
  rw [h1, h2, h3, if_pos (by decide)]
  refine congrArg Res.ok ?_
  unfold sortD
  refine (List.map_mergeSort fun a _ b _ => ?_).symm
  show Mv.le a b = !PySem.W.dataLt b.D a.D
  rw [Mv.dlt]
  rfl
theorem Mv.sorted {ms : List Mv} (h : ms.Nodup) : (ms.mergeSort Mv.le).Pairwise Mv.lt := by
  have hp := List.mergeSort_perm ms Mv.le
  have hn : (ms.mergeSort Mv.le).Nodup := hp.nodup_iff.mpr h
  have hs : (ms.mergeSort Mv.le).Pairwise fun a b => Mv.le a b = true := List.pairwise_mergeSort (fun a b c h h' => by
    unfold Mv.le at *
    simp at *
    intro x
    rcases Mv.tri a b with k | k | k
    · exact h' (Mv.lt_trans x k)
    · subst k; exact h' x
    · exact h k) (fun a b => by
    unfold Mv.le
    simp
    rcases Mv.tri a b with k | k | k
    · exact .inl fun x => Mv.lt_irrefl _ (Mv.lt_trans k x)
    · subst k; exact .inl (Mv.lt_irrefl _)
    · exact .inr fun x => Mv.lt_irrefl _ (Mv.lt_trans k x)) ms
  refine (hs.and hn).imp fun {a b} hh => ?_
  have h1 : ¬ Mv.lt b a := by simpa [Mv.le] using hh.1
  rcases Mv.tri a b with k | k | k
  · exact k
  · exact absurd k hh.2
  · exact absurd k h1
end GL

namespace GL
open PySem PySem.Spec PyProof.Rows L2
def g_written : En → Out :=
  sSeq (sAsg (.many [1, 2, 3]) (fVar 0)) <|
  sSeq (sOwn 4 (fDsp (fCons (fAdd (fAdd (fCall strD (fCons (fVar 1) fNil)) (fC (.str " "))) (fJoin (fC (.str "")) (fQL (fComp [5] (.one 5) (fItems (fVar 2)) (pYes) (fCall strD (fCons (fVar 5) fNil)))))) (fNil)))) <|
  sSeq (sExt 4 (fComp [6, 7, 8] (.many [6, 7, 8]) (fItems (fVar 3)) (pYes) (fAdd (fAdd (fCall strD (fCons (fVar 6) fNil)) (fVar 7)) (fCall strD (fCons (fVar 8) fNil))))) <|
  sRet (fJoin (fC (.str "")) (fQL (fComp [9] (.one 9) (fSnd (fQV 4)) (pYes) (fAdd (fVar 9) (fC (.str "\n"))))))
def F_written : List PyData → Res PyData := runD g_written 10
def g_is_whole : En → Out :=
  sRet (fAnd (fIsi .int (fVar 0)) (fAnd (fNot (fIsi .bool (fVar 0))) (fChain leD leD (fVar 1) (fVar 0) (fVar 2))))
def F_is_whole : List PyData → Res PyData := runD g_is_whole 3
def g_is_rising : En → Out :=
  sRet (fCQ allQ (fQL (fComp [1] (.one 1) (fRange (fCons (fC (.int 1)) (fCons (fCall lenD (fCons (fVar 0) fNil)) (fNil)))) (pYes) (fLt (fIx (fVar 0) (fSub (fVar 1) (fC (.int 1)))) (fIx (fVar 0) (fVar 1))))))
def F_is_rising : List PyData → Res PyData := runD g_is_rising 2
def g_are_states : En → Out :=
  sRet (fAnd (fIsi .tuple (fVar 0)) (fAnd (fCQ allQ (fQL (fComp [2] (.one 2) (fItems (fVar 0)) (pYes) (fCall F_is_whole (fCons (fVar 2) (fCons (fC (.int 0)) (fCons (fSub (fVar 1) (fC (.int 1))) (fNil)))))))) (fCall F_is_rising (fCons (fVar 0) (fNil)))))
def F_are_states : List PyData → Res PyData := runD g_are_states 3
def g_is_move : En → Out :=
  sSeq (sIf (fOrT (fNotT (fTru (fIsi .tuple (fVar 0)))) (fOrT (fB (fNe (fCall lenD (fCons (fVar 0) fNil)) (fC (.int 3)))) (fNotT (fTru (fIsi .str (fIx (fVar 0) (fC (.int 1)))))))) (sRet (fC (.bool false))) (sNext)) <|
  sSeq (sIf (fOrT (fB (fNe (fCall lenD (fCons (fIx (fVar 0) (fC (.int 1))) fNil)) (fC (.int 1)))) (fB (fNin (fIx (fVar 0) (fC (.int 1))) (fC (.str "abc"))))) (sRet (fC (.bool false))) (sNext)) <|
  sRet (fAnd (fCall F_is_whole (fCons (fIx (fVar 0) (fC (.int 0))) (fCons (fC (.int 0)) (fCons (fSub (fVar 1) (fC (.int 1))) (fNil))))) (fCall F_is_whole (fCons (fIx (fVar 0) (fC (.int 2))) (fCons (fC (.int 0)) (fCons (fSub (fVar 1) (fC (.int 1))) (fNil))))))
def F_is_move : List PyData → Res PyData := runD g_is_move 2
def g_is_machine : En → Out :=
  sSeq (sIf (fOrT (fNotT (fTru (fIsi .tuple (fVar 0)))) (fOrT (fB (fNe (fCall lenD (fCons (fVar 0) fNil)) (fC (.int 3)))) (fNotT (fTru (fCall F_is_whole (fCons (fIx (fVar 0) (fC (.int 0))) (fCons (fC (.int 1)) (fCons (fC (.int 4)) (fNil))))))))) (sRet (fC (.bool false))) (sNext)) <|
  sSeq (sAsg (.many [1, 2, 3]) (fVar 0)) <|
  sSeq (sIf (fOrT (fNotT (fTru (fCall F_are_states (fCons (fVar 2) (fCons (fVar 1) (fNil)))))) (fOrT (fNotT (fTru (fIsi .tuple (fVar 3)))) (fB (fGt (fCall lenD (fCons (fVar 3) fNil)) (fC (.int 12)))))) (sRet (fC (.bool false))) (sNext)) <|
  sRet (fAnd (fCQ allQ (fQL (fComp [4] (.one 4) (fItems (fVar 3)) (pYes) (fCall F_is_move (fCons (fVar 4) (fCons (fVar 1) (fNil))))))) (fCall F_is_rising (fCons (fVar 3) (fNil))))
def F_is_machine : List PyData → Res PyData := runD g_is_machine 5
def g_must : En → Out :=
  sIf (fNotT (fTru (fVar 0))) (sRaise "NoText") (sNext)
def F_must : List PyData → Res PyData := runD g_must 1
def g_move_of : En → Out :=
  sSeq (sDrop (fCall F_must (fCons (fAnd (fEq (fCall lenD (fCons (fVar 0) fNil)) (fC (.int 3))) (fAnd (fIn (fIx (fVar 0) (fC (.int 0))) (fC (.str "01234"))) (fIn (fIx (fVar 0) (fC (.int 2))) (fC (.str "01234"))))) (fNil)))) <|
  sRet (fTup (fCons (fCall intD (fCons (fIx (fVar 0) (fC (.int 0))) fNil)) (fCons (fIx (fVar 0) (fC (.int 1))) (fCons (fCall intD (fCons (fIx (fVar 0) (fC (.int 2))) fNil)) (fNil)))))
def F_move_of : List PyData → Res PyData := runD g_move_of 1
def g_read : En → Out :=
  sSeq (sAsg (.one 1) (fLst (fSS splitS (fVar 0) (fC (.str "\n"))))) <|
  sSeq (sDrop (fCall F_must (fCons (fAnd (fGt (fCall lenD (fCons (fVar 1) fNil)) (fC (.int 1))) (fEq (fIx (fVar 1) (fC (.int (-1)))) (fC (.str "")))) (fNil)))) <|
  sSeq (sAsg (.many [2, 3, 4]) (fSS partS (fIx (fVar 1) (fC (.int 0))) (fC (.str " ")))) <|
  sSeq (sDrop (fCall F_must (fCons (fAnd (fEq (fCall lenD (fCons (fVar 2) fNil)) (fC (.int 1))) (fAnd (fIn (fVar 2) (fC (.str "01234"))) (fCQ allQ (fQL (fComp [6] (.one 6) (fItems (fVar 4)) (pYes) (fIn (fVar 6) (fC (.str "01234")))))))) (fNil)))) <|
  sSeq (sAsg (.one 5) (fTup (fCons (fCall intD (fCons (fVar 2) fNil)) (fCons (fCQ tupleQ (fQL (fComp [6] (.one 6) (fItems (fVar 4)) (pYes) (fCall intD (fCons (fVar 6) fNil))))) (fCons (fCQ tupleQ (fQL (fComp [7] (.one 7) (fItems (fSl (fVar 1) (fOS (fC (.int 1))) (fOS (fC (.int (-1)))))) (pYes) (fCall F_move_of (fCons (fVar 7) (fNil)))))) (fNil)))))) <|
  sSeq (sDrop (fCall F_must (fCons (fAnd (fCall F_is_machine (fCons (fVar 5) (fNil))) (fEq (fCall F_written (fCons (fVar 5) (fNil))) (fVar 0))) (fNil)))) <|
  sRet (fVar 5)
def F_read : List PyData → Res PyData := runD g_read 8
def g_L_cell : En → Out :=
  sSeq (sIf (fB (fLt (fVar 1) (fCall lenD (fCons (fVar 0) fNil)))) (sRet (fIx (fVar 0) (fVar 1))) (sNext)) <|
  sRet (fC (.int 0))
def F_L_cell : List PyData → Res PyData := runD g_L_cell 2
def g_L_mix : En → Out :=
  sSeq (sAsg (.one 3) (fMod (fMul (fVar 0) (fC (.int 48271))) (fVar 1))) <|
  sRet (fMod (fMod (fMul (fVar 3) (fAdd (fVar 3) (fC (.int 7)))) (fVar 1)) (fVar 2))
def F_L_mix : List PyData → Res PyData := runD g_L_mix 4
def g_L_same (rec : List PyData → Res PyData) : En → Out :=
  sSeq (sIf (fTru (fIsi .tuple (fVar 1))) (sSeq (sIf (fOrT (fNotT (fTru (fIsi .tuple (fVar 0)))) (fB (fNe (fCall lenD (fCons (fVar 0) fNil)) (fCall lenD (fCons (fVar 1) fNil))))) (sRet (fC (.bool false))) (sNext)) <|
  sRet (fCQ allQ (fQL (fComp [2, 3] (.many [2, 3]) (fZip (fCons (fVar 0) (fCons (fVar 1) (fNil)))) (pYes) (fCall rec (fCons (fVar 2) (fCons (fVar 3) (fNil)))))))) (sNext)) <|
  sSeq (sIf (fB (fIs (fVar 1) (fC .none))) (sRet (fIs (fVar 0) (fC .none))) (sNext)) <|
  sSeq (sIf (fOrT (fTru (fIsi .bool (fVar 1))) (fTru (fIsi .bool (fVar 0)))) (sRet (fAnd (fIsi .bool (fVar 1)) (fAnd (fIsi .bool (fVar 0)) (fEq (fVar 0) (fVar 1))))) (sNext)) <|
  sRet (fAnd (fIsi2 .int .str (fVar 0)) (fEq (fVar 0) (fVar 1)))
def F_L_same : Nat → List PyData → Res PyData
  | 0 => fun _ => .no
  | n + 1 => runD (g_L_same (F_L_same n)) 4
def b1_L_machine : En → Out :=
  sSeq (sAsg (.one 5) (fAdd (fVar 0) (fMul (fC (.int 17)) (fVar 4)))) <|
  sSeq (sAsg (.one 6) (fTup (fCons (fCall F_L_mix (fCons (fVar 5) (fCons (fC (.int 9941)) (fCons (fVar 1) (fNil))))) (fCons (fIx (fC (.str "abc")) (fCall F_L_mix (fCons (fVar 5) (fCons (fC (.int 9931)) (fCons (fC (.int 3)) (fNil)))))) (fNil))))) <|
  sSeq (sAsg (.one 6) (fAdd (fVar 6) (fTup (fCons (fCall F_L_mix (fCons (fVar 5) (fCons (fC (.int 9929)) (fCons (fVar 1) (fNil))))) (fNil))))) <|
  sIf (fB (fNinQ (fVar 6) (fQV 3))) (sApp 3 (fVar 6)) (sNext)
def g_L_machine : En → Out :=
  sSeq (sAsg (.one 1) (fAdd (fC (.int 1)) (fCall F_L_mix (fCons (fVar 0) (fCons (fC (.int 9973)) (fCons (fC (.int 4)) (fNil))))))) <|
  sSeq (sAsg (.one 2) (fCQ tupleQ (fQL (fComp [7] (.one 7) (fRange (fCons (fVar 1) (fNil))) (fB (fEq (fCall F_L_mix (fCons (fAdd (fVar 0) (fMul (fC (.int 7)) (fVar 7))) (fCons (fC (.int 9967)) (fCons (fC (.int 3)) (fNil))))) (fC (.int 0)))) (fVar 7))))) <|
  sSeq (sOwn 3 (fDsp (fNil))) <|
  sSeq (sFor (.one 4) (fRange (fCons (fCall F_L_mix (fCons (fVar 0) (fCons (fC (.int 9949)) (fCons (fC (.int 13)) (fNil))))) (fNil))) b1_L_machine) <|
  sRet (fTup (fCons (fVar 1) (fCons (fVar 2) (fCons (fCQ tupleQ (fQL (fCQL sortedQ (fQV 3)))) (fNil)))))
def F_L_machine : List PyData → Res PyData := runD g_L_machine 8
def b1_L_written : En → Out :=
  sAsg (.one 1) (fAdd (fAdd (fAdd (fAdd (fVar 1) (fCall strD (fCons (fVar 2) fNil))) (fVar 3)) (fCall strD (fCons (fVar 4) fNil))) (fC (.str "\n")))
def g_L_written : En → Out :=
  sSeq (sAsg (.one 1) (fAdd (fAdd (fAdd (fCall strD (fCons (fIx (fVar 0) (fC (.int 0))) fNil)) (fC (.str " "))) (fJoin (fC (.str "")) (fQL (fComp [5] (.one 5) (fItems (fIx (fVar 0) (fC (.int 1)))) (pYes) (fCall strD (fCons (fVar 5) fNil)))))) (fC (.str "\n")))) <|
  sSeq (sFor (.many [2, 3, 4]) (fItems (fIx (fVar 0) (fC (.int 2)))) b1_L_written) <|
  sRet (fVar 1)
def F_L_written : List PyData → Res PyData := runD g_L_written 6
def g_L_read : En → Out :=
  sNoEx (sRet (fCall F_read (fCons (fVar 0) (fNil))))
def F_L_read : List PyData → Res PyData := runD g_L_read 1
def b1_law : En → Out :=
  sSeq (sAsg (.one 2) (fCall F_L_machine (fCons (fAdd (fCall F_L_cell (fCons (fVar 0) (fCons (fMod (fVar 1) (fC (.int 9))) (fNil)))) (fMul (fC (.int 31)) (fVar 1))) (fNil)))) <|
  sSeq (sAsg (.one 3) (fCall F_L_written (fCons (fVar 2) (fNil)))) <|
  sIf (fNotT (fTru (fCall (F_L_same 6) (fCons (fTup (fCons (fCall F_written (fCons (fVar 2) (fNil))) (fCons (fCall F_L_read (fCons (fVar 3) (fNil))) (fNil)))) (fCons (fTup (fCons (fVar 3) (fCons (fVar 2) (fNil)))) (fNil)))))) (sRet (fC (.bool false))) (sNext)
def g_law : En → Out :=
  sSeq (sFor (.one 1) (fRange (fCons (fC (.int 16)) (fNil))) b1_law) <|
  sRet (fAnd (fEq (fCall F_written (fCons (fTup (fCons (fC (.int 2)) (fCons (fTup (fCons (fC (.int 0)) (fCons (fC (.int 1)) (fNil)))) (fCons (fTup (fCons (fTup (fCons (fC (.int 0)) (fCons (fC (.str "a")) (fCons (fC (.int 1)) (fNil))))) (fNil))) (fNil))))) (fNil))) (fC (.str "2 01\n0a1\n"))) (fEq (fCall F_L_read (fCons (fC (.str "1 \n")) (fNil))) (fTup (fCons (fC (.int 1)) (fCons (fTup (fNil)) (fCons (fTup (fNil)) (fNil)))))))
def F_law : List PyData → Res PyData := runD g_law 4
end GL

namespace GL
open PySem PySem.Spec PyProof.Rows L2 TL
def mixN (a p m : Int) : Nat := ((a * 48271 % p) * (a * 48271 % p + 7) % p % m).toNat
theorem mix_lt {a p m : Int} {k : Nat} (hm : m = k) (hk : 0 < k) : mixN a p m < k := by
  unfold mixN
  have h1 := Int.emod_nonneg ((a * 48271 % p) * (a * 48271 % p + 7) % p) (b := m) (by omega)
  have h2 := Int.emod_lt_of_pos ((a * 48271 % p) * (a * 48271 % p + 7) % p) (b := m) (by omega)
  omega
theorem mix_F {a p m : Int} (hp : 0 < p) (hp' : p < 2 ^ 60) (hm : 0 < m) : F_L_mix [.int a, .int p, .int m] = .ok (.int (mixN a p m)) := by
  have h1 := Int.emod_nonneg (a * 48271) (b := p) (by omega)
  have h2 := Int.emod_lt_of_pos (a * 48271) (b := p) hp
  have h3 := Int.emod_nonneg ((a * 48271 % p) * (a * 48271 % p + 7) % p) (b := m) (by omega)
  have e1 : mulOk a 48271 = true := by simp [mulOk]
  have e2 : mulOk (a * 48271 % p) (a * 48271 % p + 7) = true := by
    unfold mulOk
    rw [Bool.or_eq_true]
    left
    refine decide_eq_true ⟨?_, ?_⟩ <;> omega
  refine runD_rt ?_; simp [g_L_mix, initE, e1, hp, hm, e2]
  unfold mixN
  omega
theorem atI_nat {α : Type} (xs : List α) (i : Nat) : atI xs (i : Int) = xs[i]? := by
  unfold atI ixN
  rw [if_pos (by omega)]
  by_cases h : i < xs.length
  · rw [if_pos (by omega)]; simp
  · rw [if_neg (by omega)]
    simp
    omega
theorem atI_last {α : Type} (xs : List α) (x : α) : atI (xs ++ [x]) (-1) = some x := by
  unfold atI ixN
  rw [if_neg (by omega), List.length_append, List.length_singleton, if_pos (by omega), Option.bind_some]
  have e : (-1 + ((xs.length + 1 : Nat) : Int)).toNat = xs.length := by omega
  rw [e]
  simp
theorem ixD_str_sg {l : List Nat} {i c : Nat} (h : l[i]? = some c) (hl : l.length ≤ sizeLine) : ixD (.str (mkS l)) (.int (i : Int)) = .ok (.str (sg c)) := by
  show (if (mkS l).length ≤ sizeLine then (match atI l (i : Int) with
    | some c => Res.ok (PyData.str ⟨#[c]⟩)
    | none => .no) else .no) = _
  rw [if_pos (by rw [mkS_len]; exact hl), atI_nat, h]
  rfl
theorem upTo0 (k : Nat) : upTo 0 k = (List.range k).map fun (i : Nat) => .int (i : Int) := by
  unfold upTo
  simp
def cellN (ns : List Int) (i : Nat) : Int := ns.getD i 0
theorem cell_F (ns : List Int) (i : Nat) : F_L_cell [.list (ns.map .int), .int (i : Int)] = .ok (.int (cellN ns i)) := by
  by_cases h : i < ns.length
  · refine runD_rt ?_; simp [g_L_cell, initE, h, atI_nat, cellN]
  · refine runD_rt ?_; simp [g_L_cell, initE, h, atI_nat, cellN]

/-! ### the machine drawn from a seed -/
structure Mac where
  n : Nat
  ends : List Nat
  mv : List Mv
def Mac.D (M : Mac) : PyData := .tuple [.int M.n, .tuple (M.ends.map fun (e : Nat) => .int (e : Int)), .tuple (M.mv.map Mv.D)]
def MvOk (n : Nat) (m : Mv) : Prop := m.s < n ∧ (97 ≤ m.c ∧ m.c ≤ 99) ∧ m.t < n
structure Mac.Good (M : Mac) : Prop where
  n1 : 1 ≤ M.n
  n4 : M.n ≤ 4
  ends_lt : ∀ e ∈ M.ends, e < M.n
  ends_up : M.ends.Pairwise (· < ·)
  ends_len : M.ends.length ≤ 4
  mv_ok : ∀ m ∈ M.mv, MvOk M.n m
  mv_up : M.mv.Pairwise Mv.lt
  mv_len : M.mv.length ≤ 12
def mvAt (x : Int) (n : Nat) (i : Nat) : Mv := ⟨mixN (x + 17 * i) 9941 n, 97 + mixN (x + 17 * i) 9931 3, mixN (x + 17 * i) 9929 n⟩
def stepMv (x : Int) (n : Nat) (s : List Mv) (i : Nat) : List Mv := if mvAt x n i ∈ s then s else s ++ [mvAt x n i]
def macN (x : Int) : Nat := 1 + mixN x 9973 4
def macE (x : Int) : List Nat := (List.range (macN x)).filter fun i => mixN (x + 7 * i) 9967 3 = 0
def macL (x : Int) : List Mv := (List.range (mixN x 9949 13)).foldl (stepMv x (macN x)) []
def mac (x : Int) : Mac := ⟨macN x, macE x, (macL x).mergeSort Mv.le⟩
theorem macN_1 (x : Int) : 1 ≤ macN x := by unfold macN; omega
theorem macN_4 (x : Int) : macN x ≤ 4 := by
  have := mix_lt (a := x) (p := 9973) (m := 4) (k := 4) rfl (by decide)
  unfold macN; omega
theorem mvAt_ok (x : Int) {n : Nat} (h : 1 ≤ n) (i : Nat) : MvOk n (mvAt x n i) := by
  have h1 := mix_lt (a := x + 17 * i) (p := 9941) (m := n) (k := n) rfl h
  have h2 := mix_lt (a := x + 17 * i) (p := 9931) (m := 3) (k := 3) rfl (by decide)
  have h3 := mix_lt (a := x + 17 * i) (p := 9929) (m := n) (k := n) rfl h
  unfold MvOk mvAt
  refine ⟨h1, ⟨?_, ?_⟩, h3⟩ <;> simp only <;> omega
theorem fold_ok (x : Int) {n : Nat} (hn : 1 ≤ n) : ∀ (is : List Nat) (s : List Mv), s.Nodup → (∀ m ∈ s, MvOk n m) → (is.foldl (stepMv x n) s).Nodup ∧ (∀ m ∈ is.foldl (stepMv x n) s, MvOk n m) ∧ (is.foldl (stepMv x n) s).length ≤ s.length + is.length
  | [], s, h, h' => ⟨h, h', Nat.le_refl _⟩
  | i :: is, s, h, h' => by
    have k1 : (stepMv x n s i).Nodup := by
      unfold stepMv
      split
      · exact h
      · rename_i hm
        refine List.nodup_append.mpr ⟨h, by simp, fun a ha b hb => ?_⟩
        simp at hb
        subst hb
        intro e
        subst e
        exact hm ha
    have k2 : ∀ m ∈ stepMv x n s i, MvOk n m := by
      unfold stepMv
      split
      · exact h'
      · intro m hm
        rcases List.mem_append.mp hm with hm | hm
        · exact h' m hm
        · simp at hm
          subst hm
          exact mvAt_ok x hn i
    have k3 : (stepMv x n s i).length ≤ s.length + 1 := by
      unfold stepMv
      split <;> simp
    obtain ⟨a, b, c⟩ := fold_ok x hn is (stepMv x n s i) k1 k2
    refine ⟨a, b, Nat.le_trans c ?_⟩
    simp
    omega
theorem mac_good (x : Int) : (mac x).Good := by
  obtain ⟨h1, h2, h3⟩ := fold_ok x (macN_1 x) (List.range (mixN x 9949 13)) [] List.nodup_nil (by simp)
  have hp := List.mergeSort_perm (macL x) Mv.le
  refine ⟨macN_1 x, macN_4 x, fun e he => ?_, ?_, ?_, fun m hm => h2 m (hp.mem_iff.mp hm), Mv.sorted h1, ?_⟩
  · have he : e ∈ macE x := he
    simp [macE] at he
    exact he.1
  · exact List.Pairwise.filter _ List.pairwise_lt_range
  · have h : (macE x).length ≤ (List.range (macN x)).length := List.length_filter_le _ _
    have := macN_4 x
    rw [List.length_range] at h
    exact Nat.le_trans h this
  · have := mix_lt (a := x) (p := 9949) (m := 13) (k := 13) rfl (by decide)
    have e : ((macL x).mergeSort Mv.le).length = (macL x).length := hp.length_eq
    show ((macL x).mergeSort Mv.le).length ≤ 12
    rw [e]
    simp at h3
    unfold macL
    omega
theorem str_abc : ("abc" : Str) = mkS [97, 98, 99] := ext_tl (by rw [tl_ofString]; rfl)
theorem abc_at {i : Nat} (h : i < 3) : ixD (.str "abc") (.int (i : Int)) = .ok (.str (sg (97 + i))) := by
  rw [str_abc]
  refine ixD_str_sg ?_ (by decide)
  have : i = 0 ∨ i = 1 ∨ i = 2 := by omega
  rcases this with rfl | rfl | rfl <;> rfl
theorem mix_F' {a p m : Int} {k : Nat} (hk : m = k) (hp : 0 < p) (hp' : p < 2 ^ 60) (hm : 0 < k) : F_L_mix [.int a, .int p, .int m] = .ok (.int (mixN a p m)) := mix_F hp hp' (by omega)

theorem mv_body (x : Int) (n : Nat) (hn : 1 ≤ n) (ends : PyData) (ms : List Mv) (hm : ∀ m ∈ ms, MvOk n m) (hl : ms.length < 100) (i : Nat) (e5 e6 e7 : Option SV) :
    b1_L_machine [some (.dat (.int x)), some (.dat (.int n)), some (.dat ends), some (.own (ms.map Mv.D)), some (.dat (.int (i : Int))), e5, e6, e7] =
      .nx [some (.dat (.int x)), some (.dat (.int n)), some (.dat ends), some (.own ((stepMv x n ms i).map Mv.D)), some (.dat (.int (i : Int))), some (.dat (.int (x + 17 * i))), some (.dat (mvAt x n i).D), e7] := by
  have hi := Mv.inD (mvAt x n i) ms (by have := (mvAt_ok x hn i).2.1; omega) (fun m h => by have := (hm m h).2.1; omega)
  have e0 : mulOk 17 (i : Int) = true := by unfold mulOk; simp
  have e2 := mix_lt (a := x + 17 * i) (p := 9931) (m := 3) (k := 3) rfl (by decide)
  have ed : PyData.tuple [.int (mixN (x + 17 * i) 9941 n : Nat), .str (sg (97 + mixN (x + 17 * i) 9931 3)), .int (mixN (x + 17 * i) 9929 n : Nat)] = (mvAt x n i).D := rfl
  have hn' : 0 < n := by omega
  simp [b1_L_machine, e0, mix_F, hn', abc_at e2, ed]
  rw [if_pos (by decide)]
  simp [hi, ed]
  by_cases h : mvAt x n i ∈ ms
  · simp [h, stepMv]
  · simp [h, stepMv]
    have : ms.length < sizeLine := Nat.lt_trans hl (by decide)
    simp [this]
theorem mac_F (x : Int) : F_L_machine [.int x] = .ok (mac x).D := by
  have hN := macN_1 x
  have hN4 := macN_4 x
  have e1 : (1 : Int) + (mixN x 9973 4 : Nat) = ((macN x : Nat) : Int) := by unfold macN; omega
  have e13 := mix_lt (a := x) (p := 9949) (m := 13) (k := 13) rfl (by decide)
  have e2 := rangeD_n (show macN x ≤ 16777216 by omega)
  have e3 := rangeD_n (show mixN x 9949 13 ≤ 16777216 by omega)
  refine runD_rt ?_
  rw [g_L_machine]
  simp [initE, mix_F, e1, e2, upTo0]
  rw [compF_map (fun (i : Nat) => PyData.int i) (fun i => [some (SV.dat (PyData.int x)), some (SV.dat (PyData.int ↑(macN x))), none, none, none, none, none, some (.dat (.int (i : Int)))]) (fun i => decide (mixN (x + 7 * i) 9967 3 = 0)) (fun i => .int i) _ (fun i _ => ⟨rfl, by
    have e0 : mulOk 7 (i : Int) = true := by unfold mulOk; simp
    simp [mix_F, e0], fun _ => rfl⟩)]
  simp [mix_F, e3, upTo0]
  obtain ⟨e', h1, e5, e6, e7, e8, h2⟩ := forL_range (t := .one 4) (g := b1_L_machine) (fun k env => ∃ e4 e5 e6 e7 : Option SV, env = [some (.dat (.int x)), some (.dat (.int (macN x))), some (.dat (.tuple ((macE x).map fun (e : Nat) => .int (e : Int)))), some (.own (((List.range k).foldl (stepMv x (macN x)) []).map Mv.D)), e4, e5, e6, e7])
    (mixN x 9949 13) _ (fun i hi env hs => by
      obtain ⟨e4, e5, e6, e7, rfl⟩ := hs
      obtain ⟨k1, k2, k3⟩ := fold_ok x (macN_1 x) (List.range i) [] List.nodup_nil (by simp)
      have es : (List.range (i + 1)).foldl (stepMv x (macN x)) [] = stepMv x (macN x) ((List.range i).foldl (stepMv x (macN x)) []) i := by
        rw [List.range_succ, List.foldl_append]
        rfl
      rw [es]
      exact ⟨_, _, rfl, mv_body x (macN x) hN _ _ k2 (by simp at k3; omega) i _ _ _, _, _, _, _, rfl⟩) ⟨none, none, none, none, rfl⟩
  have e9 : List.map (fun i => PyData.int ((i : Nat) : Int)) (List.filter (fun i => decide (mixN (x + 7 * ↑i) 9967 3 = 0)) (List.range (macN x))) = (macE x).map fun (e : Nat) => .int (e : Int) := rfl
  simp only [List.range_zero, List.foldl_nil, List.map_nil] at h1
  rw [e9, h1]
  subst h2
  simp [Mv.sort]
  rfl
end GL

namespace GL
open PySem PySem.Spec PyProof.Rows L2 TL
theorem str_nil : (Str.ofString "") = mkS [] := ext_tl (by rw [tl_ofString]; rfl)
theorem str_sp : (Str.ofString " ") = mkS [32] := ext_tl (by rw [tl_ofString]; rfl)
theorem str_nl : (Str.ofString "\n") = mkS [10] := ext_tl (by rw [tl_ofString]; rfl)
theorem str_dg : (Str.ofString "01234") = mkS [48, 49, 50, 51, 52] := ext_tl (by rw [tl_ofString]; rfl)
theorem addS {a b : List Nat} (h : a.length + b.length ≤ 10000) : addD (.str (mkS a)) (.str (mkS b)) = .ok (.str (mkS (a ++ b))) := by
  rw [addD_str, if_pos (by rw [mkS_len, mkS_len]; exact Nat.le_trans h (by decide)), mkS_app]
def Mv.line (m : Mv) : List Nat := [48 + m.s, m.c, 48 + m.t]
def Mac.head (M : Mac) : List Nat := [48 + M.n, 32] ++ M.ends.map (48 + ·)
def Mac.lines (M : Mac) : List (List Nat) := M.head :: M.mv.map Mv.line
def Mac.wr (M : Mac) : List Nat := (M.lines.map (· ++ [10])).flatten
theorem joinD_mk {α : Type} (q : Bool) (f : α → List Nat) (xs : List α) (h : (xs.map fun x => (f x).length).sum ≤ 16777216) : joinD (mkS []) (q, xs.map fun x => .str (mkS (f x))) = .ok (.str (mkS (xs.map f).flatten)) := by
  have := joinD_empty q f xs h
  rw [show ("" : Str) = mkS [] from str_nil] at this
  exact this
theorem flat1 (xs : List Nat) : (xs.map fun x => [48 + x]).flatten = xs.map (48 + ·) := by
  induction xs with
  | nil => rfl
  | cons a r ih => rw [List.map_cons, List.flatten_cons, ih]; rfl
theorem sum1 {α : Type} (f : α → List Nat) (k : Nat) : ∀ (xs : List α), (∀ x ∈ xs, (f x).length ≤ k) → (xs.map fun x => (f x).length).sum ≤ xs.length * k
  | [], _ => by simp
  | x :: xs, h => by
    have h1 := h x List.mem_cons_self
    have h2 := sum1 f k xs fun y hy => h y (List.mem_cons_of_mem _ hy)
    simp only [List.map_cons, List.sum_cons, List.length_cons, Nat.add_mul, Nat.one_mul]
    omega
theorem lines_len {M : Mac} (g : M.Good) : ∀ l ∈ M.lines, l.length ≤ 6 := fun l hl => by
  have := g.ends_len
  rcases List.mem_cons.mp hl with rfl | hl
  · simp [Mac.head]; omega
  · obtain ⟨m, _, rfl⟩ := List.mem_map.mp hl
    simp [Mv.line]
theorem wr_F {M : Mac} (g : M.Good) : F_written [M.D] = .ok (.str (mkS M.wr)) := by
  have hn : strD [.int (M.n : Int)] = .ok (.str (mkS [48 + M.n])) := strD_dig (by have := g.n4; omega)
  have h4 := g.ends_len
  have h12 := g.mv_len
  refine runD_rt ?_
  rw [g_written]
  simp only [sSeq_e, sAsg_e, fVar_e, initE, Mac.D]
  simp [str_nil, str_sp, str_nl, hn, addS]
  rw [compF_all (fun (e : Nat) => PyData.int e) (fun i => [some (SV.dat M.D), some (SV.dat (PyData.int M.n)), some (SV.dat (.tuple (M.ends.map fun (e : Nat) => .int (e : Int)))), some (SV.dat (.tuple (M.mv.map Mv.D))), none, some (.dat (.int (i : Int))), none, none, none, none]) (fun i => .str (mkS [48 + i])) _ (fun i hi => ⟨rfl, by
    have := g.ends_lt i hi
    have := g.n4
    simp
    exact strD_dig (by omega)⟩)]
  simp
  rw [joinD_mk false (fun x => [48 + x]) M.ends (by
    have := sum1 (fun x => [48 + x]) 1 M.ends (by simp)
    omega), flat1]
  simp
  rw [addS (by simp; omega)]
  simp
  rw [compF_all Mv.D (fun m => [some (SV.dat M.D), some (SV.dat (PyData.int M.n)), some (SV.dat (.tuple (M.ends.map fun (e : Nat) => .int (e : Int)))), some (SV.dat (.tuple (M.mv.map Mv.D))), some (.own [.str (mkS M.head)]), none, some (.dat (.int m.s)), some (.dat (.str (sg m.c))), some (.dat (.int m.t)), none]) (fun m => .str (mkS m.line)) _ (fun m hm => ⟨rfl, by
    have h := g.mv_ok m hm
    have := g.n4
    simp [strD_dig (show m.s < 10 by have := h.1; omega), strD_dig (show m.t < 10 by have := h.2.2; omega), sg_eq, addS]
    rfl⟩)]
  simp
  rw [if_pos (Nat.le_trans (show 1 + M.mv.length ≤ 13 by omega) (by decide))]
  have e0 : (PyData.str (mkS ((48 + M.n) :: 32 :: List.map (fun x => 48 + x) M.ends)) :: List.map (fun m => PyData.str (mkS m.line)) M.mv) = M.lines.map fun l => .str (mkS l) := by
    simp [Mac.lines, Mac.head]
  rw [e0]
  simp
  have hl : ∀ l ∈ M.lines, l.length ≤ 6 := lines_len g
  have hll : M.lines.length ≤ 13 := by simp [Mac.lines]; omega
  rw [compF_all (fun l => PyData.str (mkS l)) (fun l => [some (SV.dat M.D), some (SV.dat (PyData.int M.n)), some (SV.dat (.tuple (M.ends.map fun (e : Nat) => .int (e : Int)))), some (SV.dat (.tuple (M.mv.map Mv.D))), some (.own (M.lines.map fun l => .str (mkS l))), none, none, none, none, some (.dat (.str (mkS l)))]) (fun l => .str (mkS (l ++ [10]))) _ (fun l hl' => ⟨rfl, by
    simp
    rw [addS (by have := hl l hl'; simp; omega)]⟩)]
  simp
  rw [joinD_mk false (fun l => l ++ [10]) M.lines (by
    have := sum1 (fun l => l ++ [10]) 7 M.lines (fun l h => by have := hl l h; simp; omega)
    omega)]
  rfl
/-! ### the law's own writer -/
def Mac.acc (M : Mac) (k : Nat) : List Nat := (M.head ++ [10]) ++ ((M.mv.take k).map fun m => m.line ++ [10]).flatten
theorem Mac.acc_0 (M : Mac) : M.acc 0 = M.head ++ [10] := by simp [Mac.acc]
theorem Mac.acc_succ (M : Mac) {k : Nat} {m : Mv} (h : M.mv[k]? = some m) : M.acc (k + 1) = M.acc k ++ m.line ++ [10] := by
  unfold Mac.acc
  rw [List.take_add_one, h]
  simp
theorem Mac.acc_all (M : Mac) : M.acc M.mv.length = M.wr := by
  unfold Mac.acc Mac.wr Mac.lines
  rw [List.take_length]
  simp
  rfl
theorem Mac.acc_len {M : Mac} (g : M.Good) (k : Nat) : (M.acc k).length ≤ 100 := by
  have h1 := g.ends_len
  have h2 := g.mv_len
  unfold Mac.acc
  have h := sum1 (fun m : Mv => m.line ++ [10]) 4 (M.mv.take k) (fun m _ => by simp [Mv.line])
  have h3 : (M.mv.take k).length ≤ M.mv.length := by rw [List.length_take]; omega
  rw [List.length_append, List.length_append, List.length_flatten, List.map_map]
  simp [Mac.head] at *
  have e : ((List.length ∘ fun m : Mv => m.line ++ [10]) : Mv → Nat) = fun m => m.line.length + 1 := by funext m; simp
  rw [e]
  omega
theorem lw_F {M : Mac} (g : M.Good) : F_L_written [M.D] = .ok (.str (mkS M.wr)) := by
  have hn : strD [.int (M.n : Int)] = .ok (.str (mkS [48 + M.n])) := strD_dig (by have := g.n4; omega)
  have h4 := g.ends_len
  have h12 := g.mv_len
  refine runD_rt ?_
  rw [g_L_written]
  simp only [sSeq_e, sAsg_e, fVar_e, initE, Mac.D]
  have a0 : ∀ (ds : List PyData) (d : PyData), atI (d :: ds) 0 = some d := fun ds d => atI_nat (d :: ds) 0
  have a1 : ∀ (ds : List PyData) (c d : PyData), atI (c :: d :: ds) 1 = some d := fun ds c d => atI_nat (c :: d :: ds) 1
  have a2 : ∀ (ds : List PyData) (b c d : PyData), atI (b :: c :: d :: ds) 2 = some d := fun ds b c d => atI_nat (b :: c :: d :: ds) 2
  simp [str_nil, str_sp, str_nl, a0, a1, a2, hn, addS]
  rw [compF_all (fun (e : Nat) => PyData.int e) (fun i => [some (SV.dat M.D), none, none, none, none, some (.dat (.int (i : Int)))]) (fun i => .str (mkS [48 + i])) _ (fun i hi => ⟨rfl, by
    have := g.ends_lt i hi
    have := g.n4
    simp
    exact strD_dig (by omega)⟩)]
  simp
  rw [joinD_mk false (fun x => [48 + x]) M.ends (by
    have := sum1 (fun x => [48 + x]) 1 M.ends (by simp)
    omega), flat1]
  simp
  rw [addS (by simp; omega)]
  simp
  rw [addS (by simp; omega)]
  simp [a2]
  obtain ⟨e', h1, e2, e3, e4, e5, h2⟩ := forL_at Mv.D (t := .many [2, 3, 4]) (g := b1_L_written) (fun k env => ∃ e2 e3 e4 e5 : Option SV, env = [some (.dat M.D), some (.dat (.str (mkS (M.acc k)))), e2, e3, e4, e5]) M.mv 0 [some (.dat M.D), some (.dat (.str (mkS (M.acc 0)))), none, none, none, none] (fun k m hk env hs => by
    obtain ⟨e2, e3, e4, e5, rfl⟩ := hs
    have hm : m ∈ M.mv := List.mem_of_getElem? hk
    have h := g.mv_ok m hm
    have := g.n4
    have hl := M.acc_len g k
    rw [Nat.zero_add, M.acc_succ hk]
    refine ⟨_, [some (.dat M.D), some (.dat (.str (mkS (M.acc k ++ m.line ++ [10])))), some (.dat (.int m.s)), some (.dat (.str (sg m.c))), some (.dat (.int m.t)), e5], rfl, ?_, _, _, _, _, rfl⟩
    simp [b1_L_written, strD_dig (show m.s < 10 by have := h.1; omega), strD_dig (show m.t < 10 by have := h.2.2; omega), sg_eq, str_nl]
    rw [addS (by simp; omega)]
    simp
    rw [addS (by simp; omega)]
    simp
    rw [addS (by simp; omega)]
    simp
    rw [addS (by simp; omega)]
    simp
    rfl) ⟨none, none, none, none, rfl⟩
  rw [Nat.zero_add, M.acc_all] at h2
  rw [M.acc_0] at h1
  have e9 : (48 + M.n) :: 32 :: (List.map (fun x => 48 + x) M.ends ++ [10]) = M.head ++ [10] := by simp [Mac.head]
  rw [e9]
  have h1 : forL (Tgt.many [2, 3, 4]) b1_L_written (M.mv.map Mv.D) [some (.dat (.tuple [.int M.n, .tuple (M.ends.map fun (e : Nat) => .int (e : Int)), .tuple (M.mv.map Mv.D)])), some (.dat (.str (mkS (M.head ++ [10])))), none, none, none, none] = .nx e' := h1
  rw [h1]
  subst h2
  simp
end GL

namespace GL
open PySem PySem.Spec PyProof.Rows L2 TL
theorem boolsOf_rep (b : Bool) : ∀ n : Nat, boolsOf (List.replicate n (.bool b)) = some (List.replicate n b)
  | 0 => rfl
  | n + 1 => by
    rw [List.replicate_succ, List.replicate_succ]
    show (boolsOf (List.replicate n (.bool b))).map _ = _
    rw [boolsOf_rep b n]
    rfl
@[simp] theorem allQ_rep (n : Nat) : allQ (false, List.replicate n (.bool true)) = .ok (.bool true) := by
  show (match boolsOf (List.replicate n (PyData.bool true)) with
    | some bs => Res.ok (PyData.bool (bs.all id))
    | none => .no) = _
  rw [boolsOf_rep]
  simp
@[simp] theorem allQ_true {α : Type} (xs : List α) : allQ (false, xs.map fun _ => .bool true) = .ok (.bool true) := by
  rw [allQ_map (fun _ => true)]
  simp
theorem dig_in {k : Nat} (h : k ≤ 4) : inD (.str (sg (48 + k))) (.str "01234") = .ok (.bool true) := by
  rw [inD_sg, str_dg, tl_mkS, decide_eq_true]
  simp
  omega
theorem whole_F (i lo hi : Int) : F_is_whole [.int i, .int lo, .int hi] = .ok (.bool (decide (lo ≤ i ∧ i ≤ hi))) := by
  by_cases h : lo ≤ i
  · refine runD_rt ?_; simp (implicitDefEqProofs := false) [g_is_whole, initE, isTy, h]
  · refine runD_rt ?_; simp (implicitDefEqProofs := false) [g_is_whole, initE, isTy, h]
theorem upTo1 (k : Nat) : upTo 1 k = (List.range k).map fun (i : Nat) => .int (1 + (i : Int)) := rfl
theorem rising_F {α : Type} (enc : α → PyData) (xs : List α) (hl : xs.length ≤ 1000) (h : ∀ i a b, xs[i]? = some a → xs[i + 1]? = some b → ltD (enc a) (enc b) = .ok (.bool true)) : F_is_rising [.tuple (xs.map enc)] = .ok (.bool true) := by
  refine runD_rt ?_
  rw [g_is_rising]
  simp (implicitDefEqProofs := false) [initE, rangeD_1n (show xs.length ≤ 16777216 by omega)]
  rw [compF_all (fun (i : Nat) => PyData.int (1 + (i : Int))) (fun i => [some (SV.dat (.tuple (xs.map enc))), some (.dat (.int (1 + (i : Int))))]) (fun i => .bool true) _ (fun i hi => ⟨rfl, by
    have hi : i < xs.length - 1 := by
      have := List.mem_range.mp hi
      omega
    have e1 : (1 : Int) + (i : Int) - 1 = (i : Int) := by omega
    have e2 : (1 : Int) + (i : Int) = ((i + 1 : Nat) : Int) := by omega
    simp (implicitDefEqProofs := false) only [gD_dat, f2_e, fVar_e, fC_e, List.getElem?_cons_zero, List.getElem?_cons_succ, Res.bind_ok, subD_int, e1, ixD_tup_e, atI_nat]
    rw [e2, atI_nat]
    have h1 : i < xs.length := by omega
    have h2 : i + 1 < xs.length := by omega
    simp [h1, h2]
    exact h i _ _ (List.getElem?_eq_getElem h1) (List.getElem?_eq_getElem h2)⟩)]
  simp (implicitDefEqProofs := false)
theorem lt_get {xs : List Nat} (h : xs.Pairwise (· < ·)) {i a b : Nat} (ha : xs[i]? = some a) (hb : xs[i + 1]? = some b) : a < b := by
  obtain ⟨h1, rfl⟩ := List.getElem?_eq_some_iff.mp ha
  obtain ⟨h2, rfl⟩ := List.getElem?_eq_some_iff.mp hb
  exact List.pairwise_iff_getElem.mp h _ _ h1 h2 (by omega)
theorem lt_get_mv {xs : List Mv} (h : xs.Pairwise Mv.lt) {i : Nat} {a b : Mv} (ha : xs[i]? = some a) (hb : xs[i + 1]? = some b) : Mv.lt a b := by
  obtain ⟨h1, rfl⟩ := List.getElem?_eq_some_iff.mp ha
  obtain ⟨h2, rfl⟩ := List.getElem?_eq_some_iff.mp hb
  exact List.pairwise_iff_getElem.mp h _ _ h1 h2 (by omega)
theorem rising_ends {xs : List Nat} (h : xs.Pairwise (· < ·)) (hl : xs.length ≤ 1000) : F_is_rising [.tuple (xs.map fun (e : Nat) => .int (e : Int))] = .ok (.bool true) :=
  rising_F (fun (e : Nat) => PyData.int e) xs hl fun i a b ha hb => by
    have := lt_get h ha hb
    simp [this]
theorem ltD_mv (a b : Mv) : ltD a.D b.D = .ok (.bool (decide (Mv.lt a b))) := by
  unfold ltD
  rw [Mv.alike, Mv.depth, Mv.dlt]
  rfl
theorem rising_mv {xs : List Mv} (h : xs.Pairwise Mv.lt) (hl : xs.length ≤ 1000) : F_is_rising [.tuple (xs.map Mv.D)] = .ok (.bool true) :=
  rising_F Mv.D xs hl fun i a b ha hb => by rw [ltD_mv, decide_eq_true (lt_get_mv h ha hb)]
theorem states_F {n : Nat} {xs : List Nat} (h : xs.Pairwise (· < ·)) (hn : ∀ e ∈ xs, e < n) (hl : xs.length ≤ 1000) : F_are_states [.tuple (xs.map fun (e : Nat) => .int (e : Int)), .int n] = .ok (.bool true) := by
  refine runD_rt ?_
  rw [g_are_states]
  simp (implicitDefEqProofs := false) [initE, isTy]
  rw [compF_all (fun (e : Nat) => PyData.int e) (fun i => [some (SV.dat (.tuple (xs.map fun (e : Nat) => .int (e : Int)))), some (.dat (.int n)), some (.dat (.int (i : Int)))]) (fun i => .bool true) _ (fun i hi => ⟨rfl, by
    have := hn i hi
    simp (implicitDefEqProofs := false) [whole_F]
    omega⟩)]
  simp (implicitDefEqProofs := false)
  simp [rising_ends h hl]
theorem a0 (ds : List PyData) (d : PyData) : atI (d :: ds) 0 = some d := atI_nat (d :: ds) 0
theorem a1 (ds : List PyData) (c d : PyData) : atI (c :: d :: ds) 1 = some d := atI_nat (c :: d :: ds) 1
theorem a2 (ds : List PyData) (b c d : PyData) : atI (b :: c :: d :: ds) 2 = some d := atI_nat (b :: c :: d :: ds) 2
theorem one_size : 1 ≤ sizeLine := by decide
theorem move_F {n : Nat} {m : Mv} (h : MvOk n m) : F_is_move [m.D, .int n] = .ok (.bool true) := by
  obtain ⟨h1, h2, h3⟩ := h
  have e1 : F_is_whole [.int m.s, .int 0, .int ((n : Int) - 1)] = .ok (.bool true) := by rw [whole_F, decide_eq_true (by omega)]
  have e2 : F_is_whole [.int m.t, .int 0, .int ((n : Int) - 1)] = .ok (.bool true) := by rw [whole_F, decide_eq_true (by omega)]
  have e3 : m.c = 97 ∨ m.c = 98 ∨ m.c = 99 := by omega
  refine runD_rt ?_; simp (implicitDefEqProofs := false) [g_is_move, initE, Mv.D, isTy, a0, a1, a2, one_size, e1, e2, str_abc, e3]
theorem machine_F {M : Mac} (g : M.Good) : F_is_machine [M.D] = .ok (.bool true) := by
  have h1 : F_is_whole [.int M.n, .int 1, .int 4] = .ok (.bool true) := by
    have := g.n1
    have := g.n4
    rw [whole_F, decide_eq_true (by omega)]
  have h2 := states_F g.ends_up g.ends_lt (Nat.le_trans g.ends_len (by decide))
  have h3 := rising_mv g.mv_up (Nat.le_trans g.mv_len (by decide))
  have h4 := g.mv_len
  refine runD_rt ?_
  rw [g_is_machine]
  simp (implicitDefEqProofs := false) [initE, isTy, Mac.D, a0, h1, h2, h3]
  rw [if_neg (by omega)]
  simp (implicitDefEqProofs := false)
  rw [compF_all Mv.D (fun m => [some (SV.dat M.D), some (.dat (.int M.n)), some (SV.dat (.tuple (M.ends.map fun (e : Nat) => .int (e : Int)))), some (.dat (.tuple (M.mv.map Mv.D))), some (.dat m.D)]) (fun i => .bool true) _ (fun m hm => ⟨rfl, by
    simp (implicitDefEqProofs := false) [move_F (g.mv_ok m hm)]⟩)]
  simp (implicitDefEqProofs := false)
  simp (implicitDefEqProofs := false) [h3]
theorem must_F : F_must [.bool true] = .ok .none := by
  refine runD_nx (e := [some (.dat (.bool true))]) ?_; simp (implicitDefEqProofs := false) [g_must, initE]
theorem line_at0 (m : Mv) : ixD (.str (mkS m.line)) (.int 0) = .ok (.str (sg (48 + m.s))) := ixD_str_sg (i := 0) rfl (Nat.le_trans (show 3 ≤ 4 by decide) (by decide))
theorem line_at1 (m : Mv) : ixD (.str (mkS m.line)) (.int 1) = .ok (.str (sg m.c)) := ixD_str_sg (i := 1) rfl (Nat.le_trans (show 3 ≤ 4 by decide) (by decide))
theorem line_at2 (m : Mv) : ixD (.str (mkS m.line)) (.int 2) = .ok (.str (sg (48 + m.t))) := ixD_str_sg (i := 2) rfl (Nat.le_trans (show 3 ≤ 4 by decide) (by decide))
theorem move_of_F {n : Nat} {m : Mv} (h : MvOk n m) (hn : n ≤ 4) : F_move_of [.str (mkS m.line)] = .ok m.D := by
  obtain ⟨h1, h2, h3⟩ := h
  have e1 : lenD [.str (mkS m.line)] = .ok (.int 3) := by rw [lenD_str, mkS_len]; rfl
  have e2 := dig_in (show m.s ≤ 4 by omega)
  have e3 := dig_in (show m.t ≤ 4 by omega)
  have i1 : intD [.str (sg (48 + m.s))] = .ok (.int m.s) := intD_dig (by omega)
  have i2 : intD [.str (sg (48 + m.t))] = .ok (.int m.t) := intD_dig (by omega)
  refine runD_rt ?_
  rw [g_move_of]
  simp (implicitDefEqProofs := false) only [gD_dat, thenO_nx, ofR_ok, sSeq_e, sDrop_e, sRet_e, fCall_e, fCons_e, fNil_e, fAnd_e, f2_e, fVar_e, fC_e, initE, Res.bind_ok, Res.map_ok, List.map_cons, List.map_nil, List.cons_append, List.getElem?_cons_zero, e1, eqD_int, truD_bool, line_at0, line_at1, line_at2, e2, e3, i1, i2, fTup_e]
  simp (implicitDefEqProofs := false) [must_F, line_at0, line_at1, line_at2, i1, i2]
  rfl
end GL

namespace GL
open PySem PySem.Spec PyProof.Rows L2 TL
/-! ### the reader -/
theorem joinL_end : ∀ ls : List (List Nat), joinL [10] (ls ++ [[]]) = (ls.map (· ++ [10])).flatten
  | [] => rfl
  | [a] => by simp [joinL]
  | a :: b :: r => by
    have ih := joinL_end (b :: r)
    show a ++ ([10] ++ joinL [10] ((b :: r) ++ [[]])) = _
    rw [ih]
    simp
theorem lines_free {M : Mac} (g : M.Good) : ∀ l ∈ M.lines, 10 ∉ l := fun l hl => by
  rcases List.mem_cons.mp hl with rfl | hl
  · intro h
    simp [Mac.head] at h
    omega
  · obtain ⟨m, hm, rfl⟩ := List.mem_map.mp hl
    have := g.mv_ok m hm
    unfold MvOk at this
    intro h
    simp [Mv.line] at h
    omega
theorem split_wr {M : Mac} (g : M.Good) : Txt.split (mkS M.wr) (mkS [10]) = (M.lines ++ [[]]).map mkS := by
  have e : mkS M.wr = Txt.join (mkS [10]) ((M.lines ++ [[]]).map mkS) := ext_tl (by
    rw [join_eq, tl_join, List.map_map]
    show M.wr = joinL [10] ((M.lines ++ [[]]).map (tl ∘ mkS))
    rw [show (tl ∘ mkS) = id from funext fun l => rfl, List.map_id, joinL_end]
    rfl)
  rw [e]
  refine split_join (s := 10) (S := []) rfl (by unfold mkS; rw [List.all_toArray]; decide) (by simp) fun p hp => ?_
  obtain ⟨l, hl, rfl⟩ := List.mem_map.mp hp
  rcases List.mem_append.mp hl with hl | hl
  · exact lines_free g l hl
  · simp at hl
    subst hl
    simp
theorem part_head (M : Mac) : Txt.partition (mkS M.head) (mkS [32]) = (mkS [48 + M.n], mkS [32], mkS (M.ends.map (48 + ·))) := by
  have e : mkS M.head = mkS [48 + M.n] ++ mkS [32] ++ mkS (M.ends.map (48 + ·)) := by
    rw [mkS_app, mkS_app]
    rfl
  rw [e]
  refine partition_app (s := 32) (S := []) rfl ?_
  simp
  omega
theorem wr_len {M : Mac} (g : M.Good) : M.wr.length ≤ 100 := by
  rw [← M.acc_all]
  exact M.acc_len g _
theorem cut_mid (a z : PyData) (xs : List PyData) : cutD (a :: (xs ++ [z])) (some 1) (some (-1)) = xs := by
  unfold cutD
  have e1 : HT.sIx (a :: (xs ++ [z])).length 0 (some 1) = 1 := by
    rw [show ((1 : Int)) = ((1 : Nat) : Int) from rfl, HT.sIx_nat]
    simp
  have e2 : HT.sIx (a :: (xs ++ [z])).length (a :: (xs ++ [z])).length (some (-1)) = xs.length + 1 := by
    have e : HT.sIx (a :: (xs ++ [z])).length (a :: (xs ++ [z])).length (some (-1)) = ((-1) + (((a :: (xs ++ [z])).length : Nat) : Int)).toNat := rfl
    rw [e]
    simp
    omega
  rw [e1, e2]
  simp
theorem eqD_str (x y : Str) (hx : PyData.strOk x = true) (hy : PyData.strOk y = true) : eqD (.str x) (.str y) = .ok (.bool (decide (x = y))) := by
  have h : ∀ z, PyData.strOk z = true → SeqAt.shaped (.str z) = true := fun z h => by simp [SeqAt.shaped, PyData.canLay0, PyData.depth, h]
  unfold eqD
  rw [h x hx, h y hy, if_pos (by decide), PyData.eqv, beq_str]
theorem strOk_mk {l : List Nat} (h : ∀ c ∈ l, c < 128) : PyData.strOk (mkS l) = true := by
  unfold PyData.strOk mkS
  rw [List.all_toArray, List.all_eq_true]
  intro c hc
  have := h c hc
  simp
  omega
theorem wr_ok {M : Mac} (g : M.Good) : PyData.strOk (mkS M.wr) = true := strOk_mk fun c hc => by
  unfold Mac.wr at hc
  obtain ⟨l, hl, hc⟩ := List.mem_flatten.mp hc
  obtain ⟨l, hl1, rfl⟩ := List.mem_map.mp hl
  clear hl
  have hl := hl1
  rcases List.mem_append.mp hc with hc | hc
  · have h4 := g.n4
    rcases List.mem_cons.mp hl with rfl | hl
    · simp [Mac.head] at hc
      rcases hc with rfl | rfl | ⟨e, he, rfl⟩
      · omega
      · omega
      · have := g.ends_lt e he
        omega
    · obtain ⟨m, hm, rfl⟩ := List.mem_map.mp hl
      have := g.mv_ok m hm
      unfold MvOk at this
      simp [Mv.line] at hc
      omega
  · simp at hc
    omega
theorem read_F {M : Mac} (g : M.Good) : F_read [.str (mkS M.wr)] = .ok M.D := by
  have h4 := g.n4
  have hs : splitS (mkS M.wr) (mkS [10]) = .ok ((M.lines ++ [[]]).map fun l => .str (mkS l)) := by
    unfold splitS
    rw [if_pos ⟨by simp, by
      have := wr_len g
      rw [mkS_len]
      exact Nat.le_trans (show M.wr.length + 2 ≤ 102 by omega) (by decide)⟩, split_wr g, List.map_map]
    rfl
  have hp : partS (mkS M.head) (mkS [32]) = .ok (.tuple [.str (mkS [48 + M.n]), .str (mkS [32]), .str (mkS (M.ends.map (48 + ·)))]) := by
    unfold partS
    rw [if_pos ⟨by simp, by
      have := lines_len g M.head List.mem_cons_self
      rw [mkS_len]
      exact Nat.le_trans this (by decide)⟩, part_head]
  have hl : (M.lines ++ [[]]).map (fun l => PyData.str (mkS l)) = .str (mkS M.head) :: (M.mv.map (fun m => .str (mkS m.line)) ++ [.str (mkS [])]) := by
    simp [Mac.lines]
  have hn : intD [.str (mkS [48 + M.n])] = .ok (.int M.n) := intD_dig (n := M.n) (by omega)
  have hi : inD (.str (mkS [48 + M.n])) (.str "01234") = .ok (.bool true) := dig_in (k := M.n) h4
  have hix0 : atI (PyData.str (mkS M.head) :: (M.mv.map (fun m => .str (mkS m.line)) ++ [.str (mkS [])])) 0 = some (.str (mkS M.head)) := a0 _ _
  have hixl : atI (PyData.str (mkS M.head) :: (M.mv.map (fun m => .str (mkS m.line)) ++ [.str (mkS [])])) (-1) = some (.str (mkS [])) := atI_last (PyData.str (mkS M.head) :: M.mv.map (fun (m : Mv) => .str (mkS m.line))) _
  have he : eqD (.str (mkS [])) (.str (mkS [])) = .ok (.bool true) := by rw [eqD_str _ _ (strOk_mk (by simp)) (strOk_mk (by simp))]; simp
  have hw : eqD (.str (mkS M.wr)) (.str (mkS M.wr)) = .ok (.bool true) := by rw [eqD_str _ _ (wr_ok g) (wr_ok g)]; simp
  have hel : (mkS (M.ends.map (48 + ·))).length ≤ sizeLine := by
    have := g.ends_len
    rw [mkS_len, List.length_map]
    exact Nat.le_trans this (by decide)
  have hit : itemsD (.str (mkS (M.ends.map (48 + ·)))) = .ok (M.ends.map fun e => .str (sg (48 + e))) := by
    rw [itemsD_str, if_pos hel, signsD_mk, List.map_map]
    rfl
  have hl1 : lenD [.str (mkS [48 + M.n])] = .ok (.int 1) := by
    rw [lenD_str, mkS_len]
    rfl
  refine runD_rt ?_
  rw [g_read]
  simp (implicitDefEqProofs := false) only [str_nl, str_sp, str_nil]
  have hlen : (1 : Int) < (M.mv.length : Int) + 1 + 1 := by omega
  have hsl : slD (.list (PyData.str (mkS M.head) :: (M.mv.map (fun m => .str (mkS m.line)) ++ [.str (mkS [])]))) (some 1) (some (-1)) = .ok (.list (M.mv.map (fun m => .str (mkS m.line)))) := by
    show Res.ok (PyData.list (cutD (PyData.str (mkS M.head) :: (M.mv.map (fun m => .str (mkS m.line)) ++ [.str (mkS [])])) (some 1) (some (-1)))) = _
    rw [cut_mid]
  simp (implicitDefEqProofs := false) [initE, hs, hl, he, hix0, hixl, hp, must_F, hn, hi, hit, hl1, hlen, hsl, -lenD_str, -inD_sg, -itemsD_str]
  rw [compF_all (fun (e : Nat) => PyData.str (sg (48 + e))) (fun e => [some (.dat (.str (mkS M.wr))), some (.dat (.list (PyData.str (mkS M.head) :: (M.mv.map (fun m => .str (mkS m.line)) ++ [.str (mkS [])])))), some (.dat (.str (mkS [48 + M.n]))), some (.dat (.str (mkS [32]))), some (.dat (.str (mkS (M.ends.map (48 + ·))))), none, some (.dat (.str (sg (48 + e)))), none]) (fun _ => .bool true) M.ends (fun e hm => ⟨rfl, by
    have := g.ends_lt e hm
    simp (implicitDefEqProofs := false) [dig_in (show e ≤ 4 by omega), -inD_sg]⟩)]
  simp (implicitDefEqProofs := false) [must_F, hn, hit, hsl, -itemsD_str]
  rw [compF_all (fun (e : Nat) => PyData.str (sg (48 + e))) (fun e => [some (.dat (.str (mkS M.wr))), some (.dat (.list (PyData.str (mkS M.head) :: (M.mv.map (fun m => .str (mkS m.line)) ++ [.str (mkS [])])))), some (.dat (.str (mkS [48 + M.n]))), some (.dat (.str (mkS [32]))), some (.dat (.str (mkS (M.ends.map (48 + ·))))), none, some (.dat (.str (sg (48 + e)))), none]) (fun e => .int (e : Int)) M.ends (fun e hm => ⟨rfl, by
    have := g.ends_lt e hm
    simp (implicitDefEqProofs := false) [intD_dig (show e < 10 by omega)]⟩)]
  rw [compF_all (fun (m : Mv) => PyData.str (mkS m.line)) (fun m => [some (.dat (.str (mkS M.wr))), some (.dat (.list (PyData.str (mkS M.head) :: (M.mv.map (fun m => .str (mkS m.line)) ++ [.str (mkS [])])))), some (.dat (.str (mkS [48 + M.n]))), some (.dat (.str (mkS [32]))), some (.dat (.str (mkS (M.ends.map (48 + ·))))), none, none, some (.dat (.str (mkS m.line)))]) Mv.D M.mv (fun m hm => ⟨rfl, by
    simp (implicitDefEqProofs := false) [move_of_F (g.mv_ok m hm) h4]⟩)]
  have eD : PyData.tuple [.int M.n, .tuple (M.ends.map fun (e : Nat) => .int (e : Int)), .tuple (M.mv.map Mv.D)] = M.D := rfl
  simp (implicitDefEqProofs := false) [eD, machine_F g, wr_F g, hw, must_F]
/-! ### the comparison of the law -/
def plainD : Nat → PyData → Bool
  | 0, _ => false
  | n + 1, .tuple ds => decide (ds.length ≤ 1000) && ds.all (plainD n)
  | _ + 1, .int _ => true
  | _ + 1, .none => true
  | _ + 1, .bool _ => true
  | _ + 1, .str x => PyData.strOk x
  | _ + 1, _ => false
theorem zipL_self : ∀ ds : List PyData, zipL ds ds = ds.map fun d => .tuple [d, d]
  | [] => rfl
  | d :: ds => by show PyData.tuple [d, d] :: zipL ds ds = _; rw [zipL_self ds]; rfl
theorem same_F : ∀ (n : Nat) (d : PyData), plainD n d = true → F_L_same n [d, d] = .ok (.bool true)
  | 0, d, h => by simp [plainD] at h
  | n + 1, d, h => by
    refine runD_rt ?_
    rw [g_L_same]
    cases d with
    | tuple ds =>
      have h : (decide (ds.length ≤ 1000) && ds.all (plainD n)) = true := h
      rw [Bool.and_eq_true] at h
      have hl : ds.length ≤ 1000 := of_decide_eq_true h.1
      have ha : ∀ d ∈ ds, plainD n d = true := List.all_eq_true.mp h.2
      have hz : zipD [.tuple ds, .tuple ds] = .ok (ds.map fun d => .tuple [d, d]) := by
        show (if ds.length ≤ sizeLine then Res.ok (zipL ds ds) else .no) = _
        rw [if_pos (Nat.le_trans hl (by decide)), zipL_self]
      simp (implicitDefEqProofs := false) [initE, isTy, hz]
      rw [compF_all (fun d => PyData.tuple [d, d]) (fun d => [some (.dat (.tuple ds)), some (.dat (.tuple ds)), some (.dat d), some (.dat d)]) (fun _ => .bool true) ds (fun d hd => ⟨rfl, by
        simp (implicitDefEqProofs := false) [same_F n d (ha d hd)]⟩)]
      simp (implicitDefEqProofs := false)
    | int i => simp (implicitDefEqProofs := false) [initE, isTy]
    | none => simp (implicitDefEqProofs := false) [initE, isTy]
    | bool b =>
      have e : eqD (.bool b) (.bool b) = .ok (.bool true) := by cases b <;> rfl
      simp (implicitDefEqProofs := false) [initE, isTy, e]
    | str x =>
      have e : eqD (.str x) (.str x) = .ok (.bool true) := by rw [eqD_str x x h h]; simp
      simp (implicitDefEqProofs := false) [initE, isTy, e]
    | list ds => simp [plainD] at h
    | dict ds => simp [plainD] at h
end GL

namespace GL
open PySem PySem.Spec PyProof.Rows L2 TL
theorem lread_F {M : Mac} (g : M.Good) : F_L_read [.str (mkS M.wr)] = .ok M.D := by
  refine runD_rt ?_
  rw [g_L_read]
  simp (implicitDefEqProofs := false) [initE, read_F g]
theorem plain_mv {n : Nat} {m : Mv} (h : MvOk n m) (k : Nat) : plainD (k + 2) m.D = true := by
  unfold MvOk at h
  have := strOk_sg (show m.c < 128 by omega)
  simp [Mv.D, plainD, this]
theorem plain_mac {M : Mac} (g : M.Good) (k : Nat) : plainD (k + 4) M.D = true := by
  have h1 := g.ends_len
  have h2 := g.mv_len
  have h3 : ∀ m ∈ M.mv, plainD (k + 2) m.D = true := fun m hm => plain_mv (g.mv_ok m hm) k
  simp [Mac.D, plainD]
  exact ⟨by omega, by omega, h3⟩
theorem law_body (ns : List Int) (i : Nat) (e2 e3 : Option SV) : ∃ k2 k3 : Option SV, b1_law [some (.dat (.list (ns.map .int))), some (.dat (.int (i : Int))), e2, e3] = .nx [some (.dat (.list (ns.map .int))), some (.dat (.int (i : Int))), k2, k3] := by
  have hc : F_L_cell [.list (ns.map .int), .int ((i : Int) % 9)] = .ok (.int (cellN ns (i % 9))) := by
    have e1 : (i : Int) % 9 = ((i % 9 : Nat) : Int) := by omega
    rw [e1]
    exact cell_F ns (i % 9)
  have e0 : mulOk 31 (i : Int) = true := by unfold mulOk; simp
  obtain ⟨x, hx⟩ : ∃ x : Int, cellN ns (i % 9) + 31 * i = x := ⟨_, rfl⟩
  have g := mac_good x
  have hs : F_L_same 6 [.tuple [.str (mkS (mac x).wr), (mac x).D], .tuple [.str (mkS (mac x).wr), (mac x).D]] = .ok (.bool true) := by
    refine same_F 6 _ ?_
    have h1 := plain_mac g 1
    have h2 := wr_ok g
    simp [plainD, h2]
    exact h1
  refine ⟨some (.dat (mac x).D), some (.dat (.str (mkS (mac x).wr))), ?_⟩
  rw [b1_law]
  simp (implicitDefEqProofs := false) [hc, e0, hx, mac_F, lw_F g, wr_F g, lread_F g, hs]
def M0 : Mac := ⟨2, [0, 1], [⟨0, 97, 1⟩]⟩
def M1 : Mac := ⟨1, [], []⟩
theorem M0_good : M0.Good := ⟨by decide, by decide, by decide, by decide, by decide, by simp [M0, MvOk], by simp [M0], by decide⟩
theorem M1_good : M1.Good := ⟨by decide, by decide, by decide, by decide, by decide, by simp [M1], by simp [M1], by decide⟩
theorem law_F (ns : List Int) : F_law [.list (ns.map .int)] = .ok (.bool true) := by
  have hr : rangeD [.int 16] = .ok ((List.range 16).map fun (i : Nat) => .int (i : Int)) := rangeD_n (n := 16) (by decide)
  have e0 : PyData.tuple [.int 2, .tuple [.int 0, .int 1], .tuple [.tuple [.int 0, .str "a", .int 1]]] = M0.D := by
    have : ("a" : Str) = sg 97 := ext_tl (by rw [tl_ofString]; rfl)
    rw [this]
    rfl
  have e1 : PyData.tuple [.int 1, .tuple [], .tuple []] = M1.D := rfl
  have w0 : (Str.ofString "2 01\n0a1\n") = mkS M0.wr := ext_tl (by rw [tl_ofString]; rfl)
  have w1 : (Str.ofString "1 \n") = mkS M1.wr := ext_tl (by rw [tl_ofString]; rfl)
  have q0 : eqD (.str (mkS M0.wr)) (.str (mkS M0.wr)) = .ok (.bool true) := by rw [eqD_str _ _ (wr_ok M0_good) (wr_ok M0_good)]; simp
  have q1 : eqD M1.D M1.D = .ok (.bool true) := by simp [eqD, M1, Mac.D, SeqAt.shaped, PyData.canLay0, PyData.canLayAll0, PyData.depth, PyData.depthAll, PyData.eqv, PyData.eqvAll]
  obtain ⟨e', h1, e1', e2', e3', h2⟩ := forL_range (t := .one 1) (g := b1_law) (fun k env => ∃ e1 e2 e3 : Option SV, env = [some (.dat (.list (ns.map .int))), e1, e2, e3]) 16 [some (.dat (.list (ns.map .int))), none, none, none] (fun i hi env hs => by
    obtain ⟨e1, e2, e3, rfl⟩ := hs
    obtain ⟨k2, k3, h⟩ := law_body ns i e2 e3
    exact ⟨_, _, rfl, h, _, _, _, rfl⟩) ⟨none, none, none, rfl⟩
  subst h2
  refine runD_rt ?_
  rw [g_law]
  simp (implicitDefEqProofs := false) [initE, hr, h1, e0, e1, w0, w1, wr_F M0_good, lread_F M1_good, q0, q1]
end GL

namespace GL
open PySem PySem.Spec PyProof.Rows L2
def topS (i : Nat) : Stmt := PySem.Challenge.pw_gaplogs_k17_texts.main.body.getD i (.Pass ⟨0, 0, 0, 0⟩)
section
variable {P : Program} {w : World} {K : PySem.W.Frag} {mg : Str → Option Value} {base : Heap} {cm : Str → Addr}
abbrev s_written : Stmt := topS 1
abbrev N_written : List Str := ["machine", "many", "ends", "moves", "rows", "one", "begin", "letter", "goal", "row"]
theorem sc_written : FnScope N_written ["machine"] (defScope s_written) := ⟨rfl, rfl, rfl, by decide +kernel, rfl, by decide +kernel, by decide +kernel⟩
set_option maxHeartbeats 4000000 in
theorem c_written (T : Blt mg) (D : DefAt K mg "written" s_written) : Callee P w K mg base 1 "written" ["machine"] (spD K cm 1 F_written) :=
  have S := sc_written
  callee_D D S (fun _ _ _ _ _ _ us hl => match us, hl with | [_], _ => rfl) fun cdv A outer s H E hr tk po =>
  (ds_cons (ds_asg (de_v 0) (dg_many (is := [1, 2, 3]) rfl (pgs_cons (pg_name (i := 1) S.nd rfl (by first | exact Or.inl rfl | exact Or.inr rfl)) (pgs_cons (pg_name (i := 2) S.nd rfl (by first | exact Or.inl rfl | exact Or.inr rfl)) (pgs_cons (pg_name (i := 3) S.nd rfl (by first | exact Or.inl rfl | exact Or.inr rfl)) pgs_nil)))))
  (ds_cons (ds_own 4 S.nd (dl_lst (da_cons (de_add (de_add (de_strC T (de_v 1)) de_str) (de_join de_str (dq_l (dl_lc (own := [("one", 5)]) (t := (.one 5)) rfl S.nd (di_f (df_e (de_v 2))) (blkOk_by (N := N_written) (sc := defScope s_written) (own := [("one", 5)]) (by decide +kernel)) (by decide) (fun _ _ _ _ _ => (dg_one 5 S.nd)) (fun _ _ _ _ _ => dts_nil) (fun _ _ _ _ _ => (de_strC T (de_v 5))))))) da_nil)))
  (ds_cons (ds_ext (pe_bm PySem.F.plainAttrs_list PySem.F.slot_list_extend PySem.F.type_list_extend mt_extend (pv 4) (pa_cons (dl_lc (own := [("begin", 6), ("letter", 7), ("goal", 8)]) (t := (.many [6, 7, 8])) rfl S.nd (di_f (df_e (de_v 3))) (blkOk_by (N := N_written) (sc := defScope s_written) (own := [("begin", 6), ("letter", 7), ("goal", 8)]) (by decide +kernel)) (by decide) (fun _ _ _ _ _ => (dg_many (is := [6, 7, 8]) rfl (pgs_cons (pg_name (i := 6) S.nd rfl (by first | exact Or.inl rfl | exact Or.inr rfl)) (pgs_cons (pg_name (i := 7) S.nd rfl (by first | exact Or.inl rfl | exact Or.inr rfl)) (pgs_cons (pg_name (i := 8) S.nd rfl (by first | exact Or.inl rfl | exact Or.inr rfl)) pgs_nil))))) (fun _ _ _ _ _ => dts_nil) (fun _ _ _ _ _ => (de_add (de_add (de_strC T (de_v 6)) (de_v 7)) (de_strC T (de_v 8))))) pa_nil)))
  (ds_last (ds_ret (de_join de_str (dq_l (dl_lc (own := [("row", 9)]) (t := (.one 9)) rfl S.nd (di_q (dq_v 4)) (blkOk_by (N := N_written) (sc := defScope s_written) (own := [("row", 9)]) (by decide +kernel)) (by decide) (fun _ _ _ _ _ => (dg_one 9 S.nd)) (fun _ _ _ _ _ => dts_nil) (fun _ _ _ _ _ => (de_add (de_v 9) de_str))))))))))
abbrev s_is_whole : Stmt := topS 9
abbrev N_is_whole : List Str := ["thing", "low", "high"]
theorem sc_is_whole : FnScope N_is_whole ["thing", "low", "high"] (defScope s_is_whole) := ⟨rfl, rfl, rfl, by decide +kernel, rfl, by decide +kernel, by decide +kernel⟩
set_option maxHeartbeats 4000000 in
theorem c_is_whole (T : Blt mg) (D : DefAt K mg "is_whole" s_is_whole) : Callee P w K mg base 1 "is_whole" ["thing", "low", "high"] (spD K cm 3 F_is_whole) :=
  have S := sc_is_whole
  callee_D D S (fun _ _ _ _ _ _ us hl => match us, hl with | [_, _, _], _ => rfl) fun cdv A outer s H E hr tk po =>
  (ds_last (ds_ret (de_and (de_isi T .int (de_v 0) (ty_int T)) (de_and (de_not (de_isi T .bool (de_v 0) (ty_bool T))) (de_one (de_chain op_leDat op_leDat (de_v 1) (de_v 0) (de_v 2) leD_never leD_never))))))
abbrev s_is_rising : Stmt := topS 10
abbrev N_is_rising : List Str := ["some", "k"]
theorem sc_is_rising : FnScope N_is_rising ["some"] (defScope s_is_rising) := ⟨rfl, rfl, rfl, by decide +kernel, rfl, by decide +kernel, by decide +kernel⟩
set_option maxHeartbeats 4000000 in
theorem c_is_rising (T : Blt mg) (D : DefAt K mg "is_rising" s_is_rising) : Callee P w K mg base 1 "is_rising" ["some"] (spD K cm 1 F_is_rising) :=
  have S := sc_is_rising
  callee_D D S (fun _ _ _ _ _ _ us hl => match us, hl with | [_], _ => rfl) fun cdv A outer s H E hr tk po =>
  (ds_last (ds_ret (de_allQ T rfl (dq_l (dl_lc (own := [("k", 1)]) (t := (.one 1)) rfl S.nd (di_f (df_range2 T de_int (de_len T (de_v 0)))) (blkOk_by (N := N_is_rising) (sc := defScope s_is_rising) (own := [("k", 1)]) (by decide +kernel)) (by decide) (fun _ _ _ _ _ => (dg_one 1 S.nd)) (fun _ _ _ _ _ => dts_nil) (fun _ _ _ _ _ => (de_lt hr (de_ix (de_v 0) (de_sub (de_v 1) de_int)) (de_ix (de_v 0) (de_v 1)))))))))
abbrev s_are_states : Stmt := topS 11
abbrev N_are_states : List Str := ["thing", "many", "one"]
theorem sc_are_states : FnScope N_are_states ["thing", "many"] (defScope s_are_states) := ⟨rfl, rfl, rfl, by decide +kernel, rfl, by decide +kernel, by decide +kernel⟩
set_option maxHeartbeats 4000000 in
theorem c_are_states (T : Blt mg) (D : DefAt K mg "are_states" s_are_states) (c_is_rising : Callee P w K mg base 1 "is_rising" ["some"] (spD K cm 1 F_is_rising)) (c_is_whole : Callee P w K mg base 1 "is_whole" ["thing", "low", "high"] (spD K cm 3 F_is_whole)) : Callee P w K mg base 2 "are_states" ["thing", "many"] (spD K cm 2 F_are_states) :=
  have S := sc_are_states
  callee_D D S (fun _ _ _ _ _ _ us hl => match us, hl with | [_, _], _ => rfl) fun cdv A outer s H E hr tk po =>
  (ds_last (ds_ret (de_and (de_isi T .tuple (de_v 0) (ty_tuple T)) (de_and (de_allQ T rfl (dq_l (dl_lc (own := [("one", 2)]) (t := (.one 2)) rfl S.nd (di_f (df_e (de_v 0))) (blkOk_by (N := N_are_states) (sc := defScope s_are_states) (own := [("one", 2)]) (by decide +kernel)) (by decide) (fun _ _ _ _ _ => (dg_one 2 S.nd)) (fun _ _ _ _ _ => dts_nil) (fun _ _ _ _ _ => (de_cl c_is_whole hr (by decide) takes0 (da_cons (de_v 2) (da_cons de_int (da_cons (de_sub (de_v 1) de_int) da_nil))) (ln_cons (ln_cons (ln_cons ln_nil)))))))) (de_one (de_cl c_is_rising hr (by decide) tk (da_cons (de_v 0) da_nil) (ln_cons ln_nil)))))))
abbrev s_is_move : Stmt := topS 12
abbrev N_is_move : List Str := ["thing", "many"]
theorem sc_is_move : FnScope N_is_move ["thing", "many"] (defScope s_is_move) := ⟨rfl, rfl, rfl, by decide +kernel, rfl, by decide +kernel, by decide +kernel⟩
set_option maxHeartbeats 4000000 in
theorem c_is_move (T : Blt mg) (D : DefAt K mg "is_move" s_is_move) {t_LETTERS : Tok} (k_LETTERS : mg "LETTERS" = some (.str "abc" t_LETTERS)) (c_is_whole : Callee P w K mg base 1 "is_whole" ["thing", "low", "high"] (spD K cm 3 F_is_whole)) : Callee P w K mg base 2 "is_move" ["thing", "many"] (spD K cm 2 F_is_move) :=
  have S := sc_is_move
  callee_D D S (fun _ _ _ _ _ _ us hl => match us, hl with | [_, _], _ => rfl) fun cdv A outer s H E hr tk po =>
  (ds_cons (ds_if (dt_w (dw_or (dt_not (dt_e (de_isi T .tuple (de_v 0) (ty_tuple T)))) (dw_or (dt_ne hr (de_len T (de_v 0)) de_int) (dw_or1 (dt_not (dt_e (de_isi T .str (de_ix (de_v 0) de_int) (ty_str T)))))))) (ds_last (ds_ret de_bl)) ds_nil)
  (ds_cons (ds_if (dt_w (dw_or (dt_ne hr (de_len T (de_ix (de_v 0) de_int)) de_int) (dw_or1 (dt_nin hr (de_ix (de_v 0) de_int) (de_globS rfl k_LETTERS))))) (ds_last (ds_ret de_bl)) ds_nil)
  (ds_last (ds_ret (de_and (de_cl c_is_whole hr (by decide) tk (da_cons (de_ix (de_v 0) de_int) (da_cons de_int (da_cons (de_sub (de_v 1) de_int) da_nil))) (ln_cons (ln_cons (ln_cons ln_nil)))) (de_one (de_cl c_is_whole hr (by decide) tk (da_cons (de_ix (de_v 0) de_int) (da_cons de_int (da_cons (de_sub (de_v 1) de_int) da_nil))) (ln_cons (ln_cons (ln_cons ln_nil))))))))))
abbrev s_is_machine : Stmt := topS 13
abbrev N_is_machine : List Str := ["thing", "many", "ends", "moves", "one"]
theorem sc_is_machine : FnScope N_is_machine ["thing"] (defScope s_is_machine) := ⟨rfl, rfl, rfl, by decide +kernel, rfl, by decide +kernel, by decide +kernel⟩
set_option maxHeartbeats 4000000 in
theorem c_is_machine (T : Blt mg) (D : DefAt K mg "is_machine" s_is_machine) {t_MOST_MOVES : Tok} (k_MOST_MOVES : mg "MOST_MOVES" = some (.int 12 t_MOST_MOVES)) {t_MOST_STATES : Tok} (k_MOST_STATES : mg "MOST_STATES" = some (.int 4 t_MOST_STATES)) (c_is_rising : Callee P w K mg base 1 "is_rising" ["some"] (spD K cm 1 F_is_rising)) (c_is_whole : Callee P w K mg base 1 "is_whole" ["thing", "low", "high"] (spD K cm 3 F_is_whole)) (c_are_states : Callee P w K mg base 2 "are_states" ["thing", "many"] (spD K cm 2 F_are_states)) (c_is_move : Callee P w K mg base 2 "is_move" ["thing", "many"] (spD K cm 2 F_is_move)) : Callee P w K mg base 3 "is_machine" ["thing"] (spD K cm 1 F_is_machine) :=
  have S := sc_is_machine
  callee_D D S (fun _ _ _ _ _ _ us hl => match us, hl with | [_], _ => rfl) fun cdv A outer s H E hr tk po =>
  (ds_cons (ds_if (dt_w (dw_or (dt_not (dt_e (de_isi T .tuple (de_v 0) (ty_tuple T)))) (dw_or (dt_ne hr (de_len T (de_v 0)) de_int) (dw_or1 (dt_not (dt_e (de_cl c_is_whole hr (by decide) tk (da_cons (de_ix (de_v 0) de_int) (da_cons de_int (da_cons (de_globI rfl k_MOST_STATES) da_nil))) (ln_cons (ln_cons (ln_cons ln_nil)))))))))) (ds_last (ds_ret de_bl)) ds_nil)
  (ds_cons (ds_asg (de_v 0) (dg_many (is := [1, 2, 3]) rfl (pgs_cons (pg_name (i := 1) S.nd rfl (by first | exact Or.inl rfl | exact Or.inr rfl)) (pgs_cons (pg_name (i := 2) S.nd rfl (by first | exact Or.inl rfl | exact Or.inr rfl)) (pgs_cons (pg_name (i := 3) S.nd rfl (by first | exact Or.inl rfl | exact Or.inr rfl)) pgs_nil)))))
  (ds_cons (ds_if (dt_w (dw_or (dt_not (dt_e (de_cl c_are_states hr (by decide) tk (da_cons (de_v 2) (da_cons (de_v 1) da_nil)) (ln_cons (ln_cons ln_nil))))) (dw_or (dt_not (dt_e (de_isi T .tuple (de_v 3) (ty_tuple T)))) (dw_or1 (dt_gt (de_len T (de_v 3)) (de_globI rfl k_MOST_MOVES)))))) (ds_last (ds_ret de_bl)) ds_nil)
  (ds_last (ds_ret (de_and (de_allQ T rfl (dq_l (dl_lc (own := [("one", 4)]) (t := (.one 4)) rfl S.nd (di_f (df_e (de_v 3))) (blkOk_by (N := N_is_machine) (sc := defScope s_is_machine) (own := [("one", 4)]) (by decide +kernel)) (by decide) (fun _ _ _ _ _ => (dg_one 4 S.nd)) (fun _ _ _ _ _ => dts_nil) (fun _ _ _ _ _ => (de_cl c_is_move hr (by decide) takes0 (da_cons (de_v 4) (da_cons (de_v 1) da_nil)) (ln_cons (ln_cons ln_nil))))))) (de_one (de_cl c_is_rising hr (by decide) tk (da_cons (de_v 3) da_nil) (ln_cons ln_nil)))))))))
abbrev s_must : Stmt := topS 16
abbrev N_must : List Str := ["truth"]
theorem sc_must : FnScope N_must ["truth"] (defScope s_must) := ⟨rfl, rfl, rfl, by decide +kernel, rfl, by decide +kernel, by decide +kernel⟩
set_option maxHeartbeats 4000000 in
theorem c_must (T : Blt mg) (D : DefAt K mg "must" s_must) (e_NoText : ExcOk K mg "NoText" (cm "NoText")) : Callee P w K mg base 1 "must" ["truth"] (spD K cm 1 F_must) :=
  have S := sc_must
  callee_D D S (fun _ _ _ _ _ _ us hl => match us, hl with | [_], _ => rfl) fun cdv A outer s H E hr tk po =>
  (ds_last (ds_if (dt_not (dt_e (de_v 0))) (ds_last (ds_raise rfl tk e_NoText)) ds_nil))
abbrev s_move_of : Stmt := topS 17
abbrev N_move_of : List Str := ["row"]
theorem sc_move_of : FnScope N_move_of ["row"] (defScope s_move_of) := ⟨rfl, rfl, rfl, by decide +kernel, rfl, by decide +kernel, by decide +kernel⟩
set_option maxHeartbeats 4000000 in
theorem c_move_of (T : Blt mg) (D : DefAt K mg "move_of" s_move_of) {t_FIGURES : Tok} (k_FIGURES : mg "FIGURES" = some (.str "01234" t_FIGURES)) (c_must : Callee P w K mg base 1 "must" ["truth"] (spD K cm 1 F_must)) : Callee P w K mg base 2 "move_of" ["row"] (spD K cm 1 F_move_of) :=
  have S := sc_move_of
  callee_D D S (fun _ _ _ _ _ _ us hl => match us, hl with | [_], _ => rfl) fun cdv A outer s H E hr tk po =>
  (ds_cons (ds_drop (de_cl c_must hr (by decide) tk (da_cons (de_and (de_eq hr (de_len T (de_v 0)) de_int) (de_and (de_in hr (de_ix (de_v 0) de_int) (de_globS rfl k_FIGURES)) (de_one (de_in hr (de_ix (de_v 0) de_int) (de_globS rfl k_FIGURES))))) da_nil) (ln_cons ln_nil)))
  (ds_last (ds_ret (de_tup (da_cons (de_intC T (de_ix (de_v 0) de_int)) (da_cons (de_ix (de_v 0) de_int) (da_cons (de_intC T (de_ix (de_v 0) de_int)) da_nil)))))))
abbrev s_read : Stmt := topS 18
abbrev N_read : List Str := ["text", "rows", "many", "blank", "ends", "found", "sign", "row"]
theorem sc_read : FnScope N_read ["text"] (defScope s_read) := ⟨rfl, rfl, rfl, by decide +kernel, rfl, by decide +kernel, by decide +kernel⟩
set_option maxHeartbeats 4000000 in
theorem c_read (T : Blt mg) (D : DefAt K mg "read" s_read) {t_FIGURES : Tok} (k_FIGURES : mg "FIGURES" = some (.str "01234" t_FIGURES)) (c_must : Callee P w K mg base 1 "must" ["truth"] (spD K cm 1 F_must)) (c_is_machine : Callee P w K mg base 3 "is_machine" ["thing"] (spD K cm 1 F_is_machine)) (c_move_of : Callee P w K mg base 2 "move_of" ["row"] (spD K cm 1 F_move_of)) (c_written : Callee P w K mg base 1 "written" ["machine"] (spD K cm 1 F_written)) : Callee P w K mg base 4 "read" ["text"] (spD K cm 1 F_read) :=
  have S := sc_read
  callee_D D S (fun _ _ _ _ _ _ us hl => match us, hl with | [_], _ => rfl) fun cdv A outer s H E hr tk po =>
  (ds_cons (ds_set 1 S.nd (de_l (dl_split (de_v 0) de_str)))
  (ds_cons (ds_drop (de_cl c_must hr (by decide) tk (da_cons (de_and (de_gt (de_len T (de_v 1)) de_int) (de_one (de_eq hr (de_ix (de_v 1) de_neg) de_str))) da_nil) (ln_cons ln_nil)))
  (ds_cons (ds_asg (de_partition (de_ix (de_v 1) de_int) de_str) (dg_many (is := [2, 3, 4]) rfl (pgs_cons (pg_name (i := 2) S.nd rfl (by first | exact Or.inl rfl | exact Or.inr rfl)) (pgs_cons (pg_name (i := 3) S.nd rfl (by first | exact Or.inl rfl | exact Or.inr rfl)) (pgs_cons (pg_name (i := 4) S.nd rfl (by first | exact Or.inl rfl | exact Or.inr rfl)) pgs_nil)))))
  (ds_cons (ds_drop (de_cl c_must hr (by decide) tk (da_cons (de_and (de_eq hr (de_len T (de_v 2)) de_int) (de_and (de_in hr (de_v 2) (de_globS rfl k_FIGURES)) (de_one (de_allQ T rfl (dq_l (dl_lc (own := [("sign", 6)]) (t := (.one 6)) rfl S.nd (di_f (df_e (de_v 4))) (blkOk_by (N := N_read) (sc := defScope s_read) (own := [("sign", 6)]) (by decide +kernel)) (by decide) (fun _ _ _ _ _ => (dg_one 6 S.nd)) (fun _ _ _ _ _ => dts_nil) (fun _ _ _ _ _ => (de_in hr (de_v 6) (de_globS rfl k_FIGURES))))))))) da_nil) (ln_cons ln_nil)))
  (ds_cons (ds_set 5 S.nd (de_tup (da_cons (de_intC T (de_v 2)) (da_cons (de_tupQ T (dq_l (dl_lc (own := [("sign", 6)]) (t := (.one 6)) rfl S.nd (di_f (df_e (de_v 4))) (blkOk_by (N := N_read) (sc := defScope s_read) (own := [("sign", 6)]) (by decide +kernel)) (by decide) (fun _ _ _ _ _ => (dg_one 6 S.nd)) (fun _ _ _ _ _ => dts_nil) (fun _ _ _ _ _ => (de_intC T (de_v 6)))))) (da_cons (de_tupQ T (dq_l (dl_lc (own := [("row", 7)]) (t := (.one 7)) rfl S.nd (di_f (df_e (de_sl (de_v 1) (do_s de_int) (do_s de_neg)))) (blkOk_by (N := N_read) (sc := defScope s_read) (own := [("row", 7)]) (by decide +kernel)) (by decide) (fun _ _ _ _ _ => (dg_one 7 S.nd)) (fun _ _ _ _ _ => dts_nil) (fun _ _ _ _ _ => (de_cl c_move_of hr (by decide) takes0 (da_cons (de_v 7) da_nil) (ln_cons ln_nil)))))) da_nil)))))
  (ds_cons (ds_drop (de_cl c_must hr (by decide) tk (da_cons (de_and (de_cl c_is_machine hr (by decide) tk (da_cons (de_v 5) da_nil) (ln_cons ln_nil)) (de_one (de_eq hr (de_cl c_written hr (by decide) tk (da_cons (de_v 5) da_nil) (ln_cons ln_nil)) (de_v 0)))) da_nil) (ln_cons ln_nil)))
  (ds_last (ds_ret (de_v 5)))))))))
abbrev s_L_cell : Stmt := topS 20
abbrev N_L_cell : List Str := ["script", "k"]
theorem sc_L_cell : FnScope N_L_cell ["script", "k"] (defScope s_L_cell) := ⟨rfl, rfl, rfl, by decide +kernel, rfl, by decide +kernel, by decide +kernel⟩
set_option maxHeartbeats 4000000 in
theorem c_L_cell (T : Blt mg) (D : DefAt K mg "_law_cell" s_L_cell) : Callee P w K mg base 1 "_law_cell" ["script", "k"] (spD K cm 2 F_L_cell) :=
  have S := sc_L_cell
  callee_D D S (fun _ _ _ _ _ _ us hl => match us, hl with | [_, _], _ => rfl) fun cdv A outer s H E hr tk po =>
  (ds_cons (ds_if (dt_lt hr (de_v 1) (de_len T (de_v 0))) (ds_last (ds_ret (de_ix (de_v 0) (de_v 1)))) ds_nil)
  (ds_last (ds_ret de_int)))
abbrev s_L_mix : Stmt := topS 21
abbrev N_L_mix : List Str := ["cell", "prime", "many", "blend"]
theorem sc_L_mix : FnScope N_L_mix ["cell", "prime", "many"] (defScope s_L_mix) := ⟨rfl, rfl, rfl, by decide +kernel, rfl, by decide +kernel, by decide +kernel⟩
set_option maxHeartbeats 4000000 in
theorem c_L_mix (T : Blt mg) (D : DefAt K mg "_law_mix" s_L_mix) : Callee P w K mg base 1 "_law_mix" ["cell", "prime", "many"] (spD K cm 3 F_L_mix) :=
  have S := sc_L_mix
  callee_D D S (fun _ _ _ _ _ _ us hl => match us, hl with | [_, _, _], _ => rfl) fun cdv A outer s H E hr tk po =>
  (ds_cons (ds_set 3 S.nd (de_mod (de_mul (de_v 0) de_int) (de_v 1)))
  (ds_last (ds_ret (de_mod (de_mod (de_mul (de_v 3) (de_add (de_v 3) de_int)) (de_v 1)) (de_v 2)))))
abbrev s_L_same : Stmt := topS 22
abbrev N_L_same : List Str := ["found", "due", "one", "other"]
theorem sc_L_same : FnScope N_L_same ["found", "due"] (defScope s_L_same) := ⟨rfl, rfl, rfl, by decide +kernel, rfl, by decide +kernel, by decide +kernel⟩
set_option maxHeartbeats 4000000 in
theorem cr_L_same (T : Blt mg) (D : DefAt K mg "_law_same" s_L_same) : ∀ n : Nat, Callee P w K mg base (1 + n) "_law_same" ["found", "due"] (spD K cm 2 (F_L_same n))
  | 0 => callee_never D (fun _ _ _ _ _ _ us hl => match us, hl with | [_, _], _ => rfl)
  | n + 1 =>
  have c_rec := cr_L_same T D n
  have S := sc_L_same
  callee_D D S (fun _ _ _ _ _ _ us hl => match us, hl with | [_, _], _ => rfl) fun cdv A outer s H E hr tk po =>
  (ds_cons (ds_if (dt_e (de_isi T .tuple (de_v 1) (ty_tuple T))) (ds_cons (ds_if (dt_w (dw_or (dt_not (dt_e (de_isi T .tuple (de_v 0) (ty_tuple T)))) (dw_or1 (dt_ne hr (de_len T (de_v 0)) (de_len T (de_v 1)))))) (ds_last (ds_ret de_bl)) ds_nil)
  (ds_last (ds_ret (de_allQ T rfl (dq_l (dl_lc (own := [("one", 2), ("other", 3)]) (t := (.many [2, 3])) rfl S.nd (di_f (df_zip T (da_cons (de_v 0) (da_cons (de_v 1) da_nil)))) (blkOk_by (N := N_L_same) (sc := defScope s_L_same) (own := [("one", 2), ("other", 3)]) (by decide +kernel)) (by decide) (fun _ _ _ _ _ => (dg_many (is := [2, 3]) rfl (pgs_cons (pg_name (i := 2) S.nd rfl (by first | exact Or.inl rfl | exact Or.inr rfl)) (pgs_cons (pg_name (i := 3) S.nd rfl (by first | exact Or.inl rfl | exact Or.inr rfl)) pgs_nil)))) (fun _ _ _ _ _ => dts_nil) (fun _ _ _ _ _ => (de_cl c_rec hr (Nat.le_refl _) takes0 (da_cons (de_v 2) (da_cons (de_v 3) da_nil)) (ln_cons (ln_cons ln_nil)))))))))) ds_nil)
  (ds_cons (ds_if (dt_is (de_v 1) de_non) (ds_last (ds_ret (de_is (de_v 0) de_non))) ds_nil)
  (ds_cons (ds_if (dt_w (dw_or (dt_e (de_isi T .bool (de_v 1) (ty_bool T))) (dw_or1 (dt_e (de_isi T .bool (de_v 0) (ty_bool T)))))) (ds_last (ds_ret (de_and (de_isi T .bool (de_v 1) (ty_bool T)) (de_and (de_isi T .bool (de_v 0) (ty_bool T)) (de_one (de_eq hr (de_v 0) (de_v 1))))))) ds_nil)
  (ds_last (ds_ret (de_and (de_isi2 T .int .str (de_v 0) (ty_int T) (ty_str T)) (de_one (de_eq hr (de_v 0) (de_v 1)))))))))
theorem c_L_same (T : Blt mg) (D : DefAt K mg "_law_same" s_L_same) : Callee P w K mg base 7 "_law_same" ["found", "due"] (spD K cm 2 (F_L_same 6)) := cr_L_same T D 6
abbrev s_L_machine : Stmt := topS 23
abbrev N_L_machine : List Str := ["cell", "many", "ends", "found", "k", "seed", "move", "state"]
theorem sc_L_machine : FnScope N_L_machine ["cell"] (defScope s_L_machine) := ⟨rfl, rfl, rfl, by decide +kernel, rfl, by decide +kernel, by decide +kernel⟩
set_option maxHeartbeats 4000000 in
theorem c_L_machine (T : Blt mg) (D : DefAt K mg "_law_machine" s_L_machine) (c_L_mix : Callee P w K mg base 1 "_law_mix" ["cell", "prime", "many"] (spD K cm 3 F_L_mix)) : Callee P w K mg base 2 "_law_machine" ["cell"] (spD K cm 1 F_L_machine) :=
  have S := sc_L_machine
  callee_D D S (fun _ _ _ _ _ _ us hl => match us, hl with | [_], _ => rfl) fun cdv A outer s H E hr tk po =>
  (ds_cons (ds_set 1 S.nd (de_add de_int (de_cl c_L_mix hr (by decide) tk (da_cons (de_v 0) (da_cons de_int (da_cons de_int da_nil))) (ln_cons (ln_cons (ln_cons ln_nil))))))
  (ds_cons (ds_set 2 S.nd (de_tupQ T (dq_l (dl_lc (own := [("state", 7)]) (t := (.one 7)) rfl S.nd (di_f (df_range1 T (de_v 1))) (blkOk_by (N := N_L_machine) (sc := defScope s_L_machine) (own := [("state", 7)]) (by decide +kernel)) (by decide) (fun _ _ _ _ _ => (dg_one 7 S.nd)) (fun _ _ _ _ _ => (dts_one (dt_eq hr (de_cl c_L_mix hr (by decide) takes0 (da_cons (de_add (de_v 0) (de_mul de_int (de_v 7))) (da_cons de_int (da_cons de_int da_nil))) (ln_cons (ln_cons (ln_cons ln_nil)))) de_int))) (fun _ _ _ _ _ => (de_v 7))))))
  (ds_cons (ds_own 3 S.nd (dl_lst da_nil))
  (ds_cons (ds_for po rfl (df_range1 T (de_cl c_L_mix hr (by decide) tk (da_cons (de_v 0) (da_cons de_int (da_cons de_int da_nil))) (ln_cons (ln_cons (ln_cons ln_nil))))) (dg_one 4 S.nd) (ds_cons (ds_set 5 S.nd (de_add (de_v 0) (de_mul de_int (de_v 4))))
  (ds_cons (ds_set 6 S.nd (de_tup (da_cons (de_cl c_L_mix hr (by decide) tk (da_cons (de_v 5) (da_cons de_int (da_cons (de_v 1) da_nil))) (ln_cons (ln_cons (ln_cons ln_nil)))) (da_cons (de_ix de_str (de_cl c_L_mix hr (by decide) tk (da_cons (de_v 5) (da_cons de_int (da_cons de_int da_nil))) (ln_cons (ln_cons (ln_cons ln_nil))))) da_nil))))
  (ds_cons (ds_set 6 S.nd (de_add (de_v 6) (de_tup (da_cons (de_cl c_L_mix hr (by decide) tk (da_cons (de_v 5) (da_cons de_int (da_cons (de_v 1) da_nil))) (ln_cons (ln_cons (ln_cons ln_nil)))) da_nil))))
  (ds_last (ds_if (dt_ninQ hr (de_v 6) (dq_v 3)) (ds_last (ds_app (pe_bm PySem.F.plainAttrs_list PySem.F.slot_list_append PySem.F.type_list_append mt_append (pv 3) (pa_cons (de_v 6) pa_nil)))) ds_nil))))))
  (ds_last (ds_ret (de_tup (da_cons (de_v 1) (da_cons (de_v 2) (da_cons (de_tupQ T (dq_l (dl_sortedQ T hr (dq_v 3)))) da_nil))))))))))
abbrev s_L_written : Stmt := topS 24
abbrev N_L_written : List Str := ["machine", "found", "begin", "letter", "goal", "state"]
theorem sc_L_written : FnScope N_L_written ["machine"] (defScope s_L_written) := ⟨rfl, rfl, rfl, by decide +kernel, rfl, by decide +kernel, by decide +kernel⟩
set_option maxHeartbeats 4000000 in
theorem c_L_written (T : Blt mg) (D : DefAt K mg "_law_written" s_L_written) : Callee P w K mg base 1 "_law_written" ["machine"] (spD K cm 1 F_L_written) :=
  have S := sc_L_written
  callee_D D S (fun _ _ _ _ _ _ us hl => match us, hl with | [_], _ => rfl) fun cdv A outer s H E hr tk po =>
  (ds_cons (ds_set 1 S.nd (de_add (de_add (de_add (de_strC T (de_ix (de_v 0) de_int)) de_str) (de_join de_str (dq_l (dl_lc (own := [("state", 5)]) (t := (.one 5)) rfl S.nd (di_f (df_e (de_ix (de_v 0) de_int))) (blkOk_by (N := N_L_written) (sc := defScope s_L_written) (own := [("state", 5)]) (by decide +kernel)) (by decide) (fun _ _ _ _ _ => (dg_one 5 S.nd)) (fun _ _ _ _ _ => dts_nil) (fun _ _ _ _ _ => (de_strC T (de_v 5))))))) de_str))
  (ds_cons (ds_for po rfl (df_e (de_ix (de_v 0) de_int)) (dg_many (is := [2, 3, 4]) rfl (pgs_cons (pg_name (i := 2) S.nd rfl (by first | exact Or.inl rfl | exact Or.inr rfl)) (pgs_cons (pg_name (i := 3) S.nd rfl (by first | exact Or.inl rfl | exact Or.inr rfl)) (pgs_cons (pg_name (i := 4) S.nd rfl (by first | exact Or.inl rfl | exact Or.inr rfl)) pgs_nil)))) (ds_last (ds_set 1 S.nd (de_add (de_add (de_add (de_add (de_v 1) (de_strC T (de_v 2))) (de_v 3)) (de_strC T (de_v 4))) de_str))))
  (ds_last (ds_ret (de_v 1)))))
abbrev s_L_read : Stmt := topS 25
abbrev N_L_read : List Str := ["text"]
theorem sc_L_read : FnScope N_L_read ["text"] (defScope s_L_read) := ⟨rfl, rfl, rfl, by decide +kernel, rfl, by decide +kernel, by decide +kernel⟩
set_option maxHeartbeats 4000000 in
theorem c_L_read (T : Blt mg) (D : DefAt K mg "_law_read" s_L_read) (c_read : Callee P w K mg base 4 "read" ["text"] (spD K cm 1 F_read)) : Callee P w K mg base 5 "_law_read" ["text"] (spD K cm 1 F_L_read) :=
  have S := sc_L_read
  callee_D D S (fun _ _ _ _ _ _ us hl => match us, hl with | [_], _ => rfl) fun cdv A outer s H E hr tk po =>
  (ds_last (ds_thru (ds_last (ds_ret (de_cl c_read hr (by decide) takes0 (da_cons (de_v 0) da_nil) (ln_cons ln_nil))))))
abbrev s_law : Stmt := topS 26
abbrev N_law : List Str := ["script", "k", "machine", "text"]
theorem sc_law : FnScope N_law ["script"] (defScope s_law) := ⟨rfl, rfl, rfl, by decide +kernel, rfl, by decide +kernel, by decide +kernel⟩
set_option maxHeartbeats 4000000 in
theorem ok_law {f : Addr} {fd : FuncData} (F : Fun K "law" "law" s_law f fd) (T : Blt mg) (c_L_machine : Callee P w K mg base 2 "_law_machine" ["cell"] (spD K cm 1 F_L_machine)) (c_L_written : Callee P w K mg base 1 "_law_written" ["machine"] (spD K cm 1 F_L_written)) (c_L_same : Callee P w K mg base 7 "_law_same" ["found", "due"] (spD K cm 2 (F_L_same 6))) (c_written : Callee P w K mg base 1 "written" ["machine"] (spD K cm 1 F_written)) (c_L_read : Callee P w K mg base 5 "_law_read" ["text"] (spD K cm 1 F_L_read)) (c_L_cell : Callee P w K mg base 1 "_law_cell" ["script", "k"] (spD K cm 2 F_L_cell)) : FnOk P w K mg base (L2.CX P w) 8 f fd ["script"] (spD K cm 1 F_law) :=
  have S := sc_law
  entry_D F S fun cdv A outer s H E hr tk po =>
  (ds_cons (ds_for po rfl (df_range1 T de_int) (dg_one 1 S.nd) (ds_cons (ds_set 2 S.nd (de_cl c_L_machine hr (by decide) tk (da_cons (de_add (de_cl c_L_cell hr (by decide) tk (da_cons (de_v 0) (da_cons (de_mod (de_v 1) de_int) da_nil)) (ln_cons (ln_cons ln_nil))) (de_mul de_int (de_v 1))) da_nil) (ln_cons ln_nil)))
  (ds_cons (ds_set 3 S.nd (de_cl c_L_written hr (by decide) tk (da_cons (de_v 2) da_nil) (ln_cons ln_nil)))
  (ds_last (ds_if (dt_not (dt_e (de_cl c_L_same hr (by decide) tk (da_cons (de_tup (da_cons (de_cl c_written hr (by decide) tk (da_cons (de_v 2) da_nil) (ln_cons ln_nil)) (da_cons (de_cl c_L_read hr (by decide) tk (da_cons (de_v 3) da_nil) (ln_cons ln_nil)) da_nil))) (da_cons (de_tup (da_cons (de_v 3) (da_cons (de_v 2) da_nil))) da_nil)) (ln_cons (ln_cons ln_nil))))) (ds_last (ds_ret de_bl)) ds_nil)))))
  (ds_last (ds_ret (de_and (de_eq hr (de_cl c_written hr (by decide) tk (da_cons (de_tup (da_cons de_int (da_cons (de_tup (da_cons de_int (da_cons de_int da_nil))) (da_cons (de_tup (da_cons (de_tup (da_cons de_int (da_cons de_str (da_cons de_int da_nil)))) da_nil)) da_nil)))) da_nil) (ln_cons ln_nil)) de_str) (de_one (de_eq hr (de_cl c_L_read hr (by decide) tk (da_cons de_str da_nil) (ln_cons ln_nil)) (de_tup (da_cons de_int (da_cons (de_tup da_nil) (da_cons (de_tup da_nil) da_nil))))))))))
end
theorem glue {P : Program} {w : World} {K : PySem.W.Frag} {mg : Str → Option Value} {h : Heap} {fa : Addr} (X : K.In h) (G : h.Ns mainGlobals mg) (hfa : mg "law" = some (.ref fa)) (bl : BltIn K)
    (d_written : DefIn K "written" s_written)
    (d_is_whole : DefIn K "is_whole" s_is_whole)
    (d_is_rising : DefIn K "is_rising" s_is_rising)
    (d_are_states : DefIn K "are_states" s_are_states)
    (d_is_move : DefIn K "is_move" s_is_move)
    (d_is_machine : DefIn K "is_machine" s_is_machine)
    (d_must : DefIn K "must" s_must)
    (d_move_of : DefIn K "move_of" s_move_of)
    (d_read : DefIn K "read" s_read)
    (d_L_cell : DefIn K "_law_cell" s_L_cell)
    (d_L_mix : DefIn K "_law_mix" s_L_mix)
    (d_L_same : DefIn K "_law_same" s_L_same)
    (d_L_machine : DefIn K "_law_machine" s_L_machine)
    (d_L_written : DefIn K "_law_written" s_L_written)
    (d_L_read : DefIn K "_law_read" s_L_read)
    (d_law : DefIn K "law" s_law)
    {t_LETTERS : Tok} (n_LETTERS : PySem.W.nsIn K mainGlobals "LETTERS" = some (some (.str "abc" t_LETTERS)))
    {t_MOST_MOVES : Tok} (n_MOST_MOVES : PySem.W.nsIn K mainGlobals "MOST_MOVES" = some (some (.int 12 t_MOST_MOVES)))
    {t_MOST_STATES : Tok} (n_MOST_STATES : PySem.W.nsIn K mainGlobals "MOST_STATES" = some (some (.int 4 t_MOST_STATES)))
    {t_FIGURES : Tok} (n_FIGURES : PySem.W.nsIn K mainGlobals "FIGURES" = some (some (.str "01234" t_FIGURES)))
    {C_NoText : Addr} (x_NoText : ExcHere K "NoText" C_NoText)
    : ∃ fd : FuncData, (∀ (s : Shared) (v : Value), BindsTo s fd ⟨[v], []⟩ [("script", v)]) ∧ ∀ base : Heap, K.In base → base.Ns mainGlobals mg → FnOk P w K mg base (L2.CX P w) 8 fa fd ["script"] (spTrue 63 K) := by
  have T := bl.at X G
  have D_written := d_written.at X G
  have D_is_whole := d_is_whole.at X G
  have D_is_rising := d_is_rising.at X G
  have D_are_states := d_are_states.at X G
  have D_is_move := d_is_move.at X G
  have D_is_machine := d_is_machine.at X G
  have D_must := d_must.at X G
  have D_move_of := d_move_of.at X G
  have D_read := d_read.at X G
  have D_L_cell := d_L_cell.at X G
  have D_L_mix := d_L_mix.at X G
  have D_L_same := d_L_same.at X G
  have D_L_machine := d_L_machine.at X G
  have D_L_written := d_L_written.at X G
  have D_L_read := d_L_read.at X G
  have k_LETTERS := PySem.W.mg_of X G n_LETTERS
  have k_MOST_MOVES := PySem.W.mg_of X G n_MOST_MOVES
  have k_MOST_STATES := PySem.W.mg_of X G n_MOST_STATES
  have k_FIGURES := PySem.W.mg_of X G n_FIGURES
  obtain ⟨cm, hcm⟩ : ∃ cm : Str → Addr, cm = fun (x : Str) => if x = "NoText" then C_NoText else 0 := ⟨_, rfl⟩
  have q_NoText : cm "NoText" = C_NoText := by rw [hcm]; simp
  have e_NoText : ExcOk K mg "NoText" (cm "NoText") := by rw [q_NoText]; exact x_NoText.at X G
  obtain ⟨f, od, an, sl, oc, kV, dc, pm, cd, ct, a, l, c, k⟩ := d_law
  have e := hfa.symm.trans (PySem.W.mg_of X G a)
  cases e
  refine ⟨PySem.W.fnOf "law" "law" (defArgs s_law) (defBody s_law) (defScope s_law) .none kV dc pm an cd ct, fun s v => .of_eq rfl, fun base _ _ => true_D (n := 63) (cm := cm) (fun ns _ => law_F ns) ?_⟩
  have hc_written := c_written (P := P) (w := w) (base := base) (cm := cm) T D_written
  have hc_is_whole := c_is_whole (P := P) (w := w) (base := base) (cm := cm) T D_is_whole
  have hc_is_rising := c_is_rising (P := P) (w := w) (base := base) (cm := cm) T D_is_rising
  have hc_are_states := c_are_states (P := P) (w := w) (base := base) (cm := cm) T D_are_states hc_is_rising hc_is_whole
  have hc_is_move := c_is_move (P := P) (w := w) (base := base) (cm := cm) T D_is_move k_LETTERS hc_is_whole
  have hc_is_machine := c_is_machine (P := P) (w := w) (base := base) (cm := cm) T D_is_machine k_MOST_MOVES k_MOST_STATES hc_is_rising hc_is_whole hc_are_states hc_is_move
  have hc_must := c_must (P := P) (w := w) (base := base) (cm := cm) T D_must e_NoText
  have hc_move_of := c_move_of (P := P) (w := w) (base := base) (cm := cm) T D_move_of k_FIGURES hc_must
  have hc_read := c_read (P := P) (w := w) (base := base) (cm := cm) T D_read k_FIGURES hc_must hc_is_machine hc_move_of hc_written
  have hc_L_cell := c_L_cell (P := P) (w := w) (base := base) (cm := cm) T D_L_cell
  have hc_L_mix := c_L_mix (P := P) (w := w) (base := base) (cm := cm) T D_L_mix
  have hc_L_same := c_L_same (P := P) (w := w) (base := base) (cm := cm) T D_L_same
  have hc_L_machine := c_L_machine (P := P) (w := w) (base := base) (cm := cm) T D_L_machine hc_L_mix
  have hc_L_written := c_L_written (P := P) (w := w) (base := base) (cm := cm) T D_L_written
  have hc_L_read := c_L_read (P := P) (w := w) (base := base) (cm := cm) T D_L_read hc_read
  exact ok_law (fun_mk (st := s_law) l c k) T hc_L_machine hc_L_written hc_L_same hc_written hc_L_read hc_L_cell
end GL
open PySem PySem.W PyProof.Rows
set_option maxHeartbeats 0 in
theorem PySem.Challenge.cw_gaplogs_k17_texts_holds : PySem.Challenge.rw_gaplogs_k17_texts.Holds := by
  w_on; o_law; k_head; (case hw => w_witness2)
  k_fill
  refine L2.walk_of (l := PySem.Challenge.rw_gaplogs_k17_texts) (n := 63) (k := 8) (x := "script") (CX := fun w => L2.CX PySem.Challenge.rw_gaplogs_k17_texts.prog w) (sp := fun w => GL.spTrue 63 _) rfl (by decide) rfl ⟨rfl, by decide, by decide⟩ (fun w h Y => PySem.W.kIn_of Y) ?F (fun _ _ a ns hl _ hS => ⟨a, ns, rfl, hl, hS, fun _ => rfl⟩) (fun _ _ _ _ _ h => GL.cx_never h)
  case F =>
    intro w mg fa h KX G hmg
    refine' GL.glue KX G hmg ?bl ?d_written ?d_is_whole ?d_is_rising ?d_are_states ?d_is_move ?d_is_machine ?d_must ?d_move_of ?d_read ?d_L_cell ?d_L_mix ?d_L_same ?d_L_machine ?d_L_written ?d_L_read ?d_law ?n_LETTERS ?n_MOST_MOVES ?n_MOST_STATES ?n_FIGURES ?x_NoText
    (case bl => refine' ⟨?_, ?_, ?_, ?_, ?_, ?_, ?_, ?_, ?_, ?_, ?_, ?_, ?_, ?_, ?_, ?_, ?_, ?_⟩ <;> k_is)
    (case d_written => refine' GL.defIn_mk ?a ?l ?c ?k; (case a => k_is); (case l => k_is); (case c => k_is); (case k => k_is))
    (case d_is_whole => refine' GL.defIn_mk ?a ?l ?c ?k; (case a => k_is); (case l => k_is); (case c => k_is); (case k => k_is))
    (case d_is_rising => refine' GL.defIn_mk ?a ?l ?c ?k; (case a => k_is); (case l => k_is); (case c => k_is); (case k => k_is))
    (case d_are_states => refine' GL.defIn_mk ?a ?l ?c ?k; (case a => k_is); (case l => k_is); (case c => k_is); (case k => k_is))
    (case d_is_move => refine' GL.defIn_mk ?a ?l ?c ?k; (case a => k_is); (case l => k_is); (case c => k_is); (case k => k_is))
    (case d_is_machine => refine' GL.defIn_mk ?a ?l ?c ?k; (case a => k_is); (case l => k_is); (case c => k_is); (case k => k_is))
    (case d_must => refine' GL.defIn_mk ?a ?l ?c ?k; (case a => k_is); (case l => k_is); (case c => k_is); (case k => k_is))
    (case d_move_of => refine' GL.defIn_mk ?a ?l ?c ?k; (case a => k_is); (case l => k_is); (case c => k_is); (case k => k_is))
    (case d_read => refine' GL.defIn_mk ?a ?l ?c ?k; (case a => k_is); (case l => k_is); (case c => k_is); (case k => k_is))
    (case d_L_cell => refine' GL.defIn_mk ?a ?l ?c ?k; (case a => k_is); (case l => k_is); (case c => k_is); (case k => k_is))
    (case d_L_mix => refine' GL.defIn_mk ?a ?l ?c ?k; (case a => k_is); (case l => k_is); (case c => k_is); (case k => k_is))
    (case d_L_same => refine' GL.defIn_mk ?a ?l ?c ?k; (case a => k_is); (case l => k_is); (case c => k_is); (case k => k_is))
    (case d_L_machine => refine' GL.defIn_mk ?a ?l ?c ?k; (case a => k_is); (case l => k_is); (case c => k_is); (case k => k_is))
    (case d_L_written => refine' GL.defIn_mk ?a ?l ?c ?k; (case a => k_is); (case l => k_is); (case c => k_is); (case k => k_is))
    (case d_L_read => refine' GL.defIn_mk ?a ?l ?c ?k; (case a => k_is); (case l => k_is); (case c => k_is); (case k => k_is))
    (case d_law => refine' GL.defIn_mk ?a ?l ?c ?k; (case a => k_is); (case l => k_is); (case c => k_is); (case k => k_is))
    (case n_LETTERS => k_is)
    (case n_MOST_MOVES => k_is)
    (case n_MOST_STATES => k_is)
    (case n_FIGURES => k_is)
    (case x_NoText => refine' ⟨?g, ?x, ?k, ?b, ?t⟩; (case g => k_is); (case x => k_exc); (case k => k_is); (case b => k_is); (case t => k_is))

