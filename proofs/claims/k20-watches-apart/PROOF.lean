import PyProof.Rows.All
import Wide.All
import OpenK.AllK
import Wide.FinOn
import HandS.ForMost
import HandS.ForExc
import HandS.CallSlots
import HandS.Flow
import KE.KDictKeyed
import HandS.IsInst
import HandS.TupAny
import HandS.Style
import HandS.TupLe
import HandS.Deep
import KE.SortData
import PyProof.Rows.InDataRows
import HandS.Zip
import HandS.TupSets
import HandS.Strs
import HandS.ReplaceLit
import KE.KDictSum
import KE.KDictCopyH
import KE.DataMinMax
import PyProof.Rows.RowBridgeK
import HandS.HotCalls
import HandS.ExcIs
import KE.DataFind
import HandS.ExcBuiltin
import KE.KDictDisplayH
import KE.GoesMore
import KE.GoesEnum
import HandS.Iter
import KE.KRevSl
import HandS.TupMul
import PyProof.Rows.SeqMore
import HandS.Conv
import KE.KStrOpen
import HandS.ReplaceList
import PySem.Challenge.RW_gaplogs_k20_watches_apart
set_option Elab.async false
set_option linter.all false
set_option maxRecDepth 100000
/-! # The data layer, part a: data, slots, growing heaps, judgements -/
namespace GL
open PySem PySem.Spec PyProof.Rows L2

/-- what a piece of code comes to: a value, an error of a class by its name, nothing known -/
inductive Res (α : Type) where
  | ok (a : α)
  | ex (x : Str)
  | no
namespace Res
variable {α β : Type}
def bind : Res α → (α → Res β) → Res β
  | .ok a, f => f a
  | .ex x, _ => .ex x
  | .no, _ => .no
def map (f : α → β) (r : Res α) : Res β := r.bind fun a => .ok (f a)
def sat (r : Res α) (P : α → Prop) (E : Str → Prop) : Prop := match r with
  | .ok a => P a
  | .ex x => E x
  | .no => False
@[simp] theorem bind_ok (a : α) (f : α → Res β) : (Res.ok a).bind f = f a := rfl
@[simp] theorem bind_ex (x : Str) (f : α → Res β) : (Res.ex x : Res α).bind f = .ex x := rfl
@[simp] theorem bind_no (f : α → Res β) : (Res.no : Res α).bind f = .no := rfl
@[simp] theorem map_ok (a : α) (f : α → β) : (Res.ok a).map f = .ok (f a) := rfl
@[simp] theorem map_ex (x : Str) (f : α → β) : (Res.ex x : Res α).map f = .ex x := rfl
@[simp] theorem map_no (f : α → β) : (Res.no : Res α).map f = .no := rfl
theorem sat_bind {r : Res α} {f : α → Res β} {P : β → Prop} {E : Str → Prop} : (r.bind f).sat P E ↔ r.sat (fun a => (f a).sat P E) E := by
  cases r <;> exact Iff.rfl
theorem sat_map {r : Res α} {f : α → β} {P : β → Prop} {E : Str → Prop} : (r.map f).sat P E ↔ r.sat (fun a => P (f a)) E := by
  cases r <;> exact Iff.rfl
theorem sat.imp {r : Res α} {P P' : α → Prop} {E E' : Str → Prop} (h : r.sat P E) (hp : ∀ a, r = .ok a → P a → P' a) (he : ∀ x, E x → E' x) : r.sat P' E' := by
  cases r with
  | ok a => exact hp a rfl h
  | ex x => exact he x h
  | no => exact h
end Res

/-- what a slot is known to hold: data that stand still, a list of one's own, a dict of one's own (keys nested tuples; keys ints), a watch (its machine, its text, its rows) -/
inductive SV where
  | dat (d : PyData)
  | own (ds : List PyData)
  | dct (kvs : List (NestedKey × PyData))
  | raw (u : V)
  | dki (kvs : List (Int × PyData))
  | dcz (kvs : List (NestedKey × PyData))
  | wat (l : Option (Addr × Addr × Addr)) (m : PyData) (t : Str) (rows : List PyData)
  | waz (m : PyData) (t : Str) (rows : List PyData)
def SV.mu : SV → Bool
  | .dat _ => false
  | .raw _ => false
  | .dcz _ => false
  | .waz _ _ _ => false
  | _ => true
abbrev En := List (Option SV)

/-! ### data in a heap, and what stays -/
theorem same_t {K : PySem.W.Frag} {G G' : Hp} {a : Addr} {xs : List V} (e : Same G G') (h : SqT K G a xs) : SqT K G' a xs := by
  rcases h with (h | ⟨o, h⟩) | h
  · exact .inl (.inl (e _ _ h))
  · exact .inl (.inr ⟨o, e _ _ h⟩)
  · exact .inr h
mutual
theorem dp_mono {K : PySem.W.Frag} {G G' : Hp} (e : Same G G') : ∀ (d : PyData) (v : V), Dp K G v d → Dp K G' v d
  | .none, _, h => by cases h; exact .non
  | .bool _, _, h => by cases h; exact .bl _
  | .int _, _, h => by cases h; exact .int _
  | .str _, _, h => by cases h; exact .str _
  | .list ds, _, h => by
    cases h with
    | lst hs ha => exact .lst (e.seq hs) (dpAll_mono e ds _ ha)
  | .tuple ds, _, h => by
    cases h with
    | tup hs ha => exact .tup (same_t e hs) (dpAll_mono e ds _ ha)
  | .dict _, _, h => by cases h
theorem dpAll_mono {K : PySem.W.Frag} {G G' : Hp} (e : Same G G') : ∀ (ds : List PyData) (vs : List V), DpAll K G vs ds → DpAll K G' vs ds
  | [], _, h => by cases h; exact .nil
  | d :: ds, _, h => by
    cases h with
    | cons h1 h2 => exact .cons (dp_mono e d _ h1) (dpAll_mono e ds _ h2)
end

theorem dpAll_length {K : PySem.W.Frag} {G : Hp} : ∀ {vs : List V} {ds : List PyData}, DpAll K G vs ds → vs.length = ds.length
  | _, _, .nil => rfl
  | _, _, .cons _ t => by rw [List.length_cons, List.length_cons, dpAll_length t]
theorem dpAll_get {K : PySem.W.Frag} {G : Hp} : ∀ {vs : List V} {ds : List PyData} {i : Nat} {d : PyData}, DpAll K G vs ds → ds[i]? = some d → ∃ v, vs[i]? = some v ∧ Dp K G v d
  | _, _, _, _, .nil, e => by simp at e
  | _, _, 0, _, .cons r _, e => by simp at e; subst e; exact ⟨_, rfl, r⟩
  | _, _, i + 1, d, .cons _ t, e => by
    obtain ⟨v, h1, h2⟩ := dpAll_get (i := i) (d := d) t (by simpa using e)
    exact ⟨v, by simpa using h1, h2⟩
theorem dpAll_app {K : PySem.W.Frag} {G : Hp} : ∀ {vs us : List V} {ds es : List PyData}, DpAll K G vs ds → DpAll K G us es → DpAll K G (vs ++ us) (ds ++ es)
  | _, _, _, _, .nil, s => s
  | _, _, _, _, .cons r t, s => .cons r (dpAll_app t s)
theorem dpAll_one {K : PySem.W.Frag} {G : Hp} {v : V} {d : PyData} (h : Dp K G v d) : DpAll K G [v] [d] := .cons h .nil
theorem dpAll_take {K : PySem.W.Frag} {G : Hp} : ∀ {vs : List V} {ds : List PyData} (n : Nat), DpAll K G vs ds → DpAll K G (vs.take n) (ds.take n)
  | _, _, 0, _ => by rw [List.take_zero, List.take_zero]; exact .nil
  | _, _, _ + 1, .nil => .nil
  | _, _, n + 1, .cons r t => .cons r (dpAll_take n t)
theorem dpAll_drop {K : PySem.W.Frag} {G : Hp} : ∀ {vs : List V} {ds : List PyData} (n : Nat), DpAll K G vs ds → DpAll K G (vs.drop n) (ds.drop n)
  | _, _, 0, r => r
  | _, _, _ + 1, .nil => .nil
  | _, _, n + 1, .cons _ t => dpAll_drop n t
theorem dpAll_erase {K : PySem.W.Frag} {G : Hp} : ∀ {vs : List V} {ds : List PyData} (n : Nat), DpAll K G vs ds → DpAll K G (vs.eraseIdx n) (ds.eraseIdx n)
  | _, _, _, .nil => .nil
  | _, _, 0, .cons _ t => t
  | _, _, n + 1, .cons r t => .cons r (dpAll_erase n t)
theorem dpAll_rev {K : PySem.W.Frag} {G : Hp} : ∀ {vs : List V} {ds : List PyData}, DpAll K G vs ds → DpAll K G vs.reverse ds.reverse
  | _, _, .nil => .nil
  | _, _, .cons r t => by
    rw [List.reverse_cons, List.reverse_cons]
    exact dpAll_app (dpAll_rev t) (dpAll_one r)
theorem dpAll_rep {K : PySem.W.Frag} {G : Hp} {vs : List V} {ds : List PyData} (h : DpAll K G vs ds) : ∀ n : Nat, DpAll K G (List.replicate n vs).flatten (List.replicate n ds).flatten
  | 0 => .nil
  | n + 1 => by
    rw [List.replicate_succ, List.replicate_succ, List.flatten_cons, List.flatten_cons]
    exact dpAll_app h (dpAll_rep h n)

/-- (G, H) has grown to (G', H'): G is the part that stands still for ever; what H knew is kept, and nothing of it was stilled -/
structure Grow (G H G' H' : Hp) : Prop where
  h : Same H H'
  g : Same G G'
  gh : Same G' H'
  old : ∀ a, H a ≠ none → G' a = G a
theorem Grow.refl {G H : Hp} (e : Same G H) : Grow G H G H := ⟨Same.refl H, Same.refl G, e, fun _ _ => rfl⟩
theorem Grow.trans {G H G1 H1 G2 H2 : Hp} (a : Grow G H G1 H1) (b : Grow G1 H1 G2 H2) : Grow G H G2 H2 where
  h := a.h.trans b.h
  g := a.g.trans b.g
  gh := b.gh
  old := fun x hx => by
    rw [← a.old x hx]
    refine b.old x fun z => hx ?_
    exact a.h.free z
/-- a new object that is stilled at once -/
theorem Grow.still {G H : Hp} {p : Addr} {o : HO} (e : Same G H) (hp : H p = none) : Grow G H (upd G p o) (upd H p o) where
  h := fun a u ha => by rw [upd_ne (ne_of_none ha hp)]; exact ha
  g := fun a u ha => by rw [upd_ne (ne_of_none (e a u ha) hp)]; exact ha
  gh := fun a u ha => by
    by_cases q : a = p
    · subst q; rw [upd_same] at ha ⊢; exact ha
    · rw [upd_ne q] at ha ⊢; exact e a u ha
  old := fun a ha => upd_ne fun q => ha (q ▸ hp)
/-- a new object that is not stilled -/
theorem Grow.fresh {G H : Hp} {p : Addr} {o : HO} (e : Same G H) (hp : H p = none) : Grow G H G (upd H p o) where
  h := fun a u ha => by rw [upd_ne (ne_of_none ha hp)]; exact ha
  g := Same.refl G
  gh := fun a u ha => by rw [upd_ne (ne_of_none (e a u ha) hp)]; exact e a u ha
  old := fun _ _ => rfl
/-- .. stilled later -/
theorem Grow.freeze {G H G' H' : Hp} {p : Addr} {o : HO} (g : Grow G H G' H') (hp : H p = none) (hg : G' p = none) (ho : H' p = some o) : Grow G H (upd G' p o) H' where
  h := g.h
  g := fun a u ha => by rw [upd_ne (ne_of_none (g.g a u ha) hg)]; exact g.g a u ha
  gh := fun a u ha => by
    by_cases q : a = p
    · subst q; rw [upd_same] at ha; rw [ho]; exact ha
    · rw [upd_ne q] at ha; exact g.gh a u ha
  old := fun a ha => by rw [upd_ne (show a ≠ p from fun q => ha (q ▸ hp))]; exact g.old a ha
theorem same_new {H : Hp} {p : Addr} {o : HO} (h : H p = none) : Same H (upd H p o) := fun b x e => by
  rw [upd_ne (ne_of_none e h)]
  exact e
theorem some_ne_none {H : Hp} {a : Addr} {o : HO} (h : H a = some o) : H a ≠ none := fun z => by rw [h] at z; cases z

/-! ### what the slots hold -/
/-- the object of a dict whose keys are nested tuples, told by its entries -/
def RawD (P : Program) (w : World) (h : Heap) (p : Addr) (xs : List (NestedKey × Addr × V)) : Prop :=
  ∃ ys : List (NestedKey × Addr × Value), Paired (fun (x : NestedKey × Addr × V) (y : NestedKey × Addr × Value) => x.1 = y.1 ∧ x.2.1 = y.2.1 ∧ RelV x.2.2 y.2.2) xs ys ∧
    ∃ o es ep, h.get? p = some o ∧ o.ExactDict ∧ o.data = .dict es ep ∧ es.toList = ys.map (entryOfKey (nestedKind P w)) ∧ (ys.map (·.1)).Nodup
def DctO (P : Program) (w : World) (p : Addr) (xs : List (NestedKey × Addr × V)) : HO := .ext fun h => RawD P w h p xs
/-- a dict of one's own at p -/
def DctAt (P : Program) (w : World) (K : PySem.W.Frag) (G H : Hp) (p : Addr) (kvs : List (NestedKey × PyData)) : Prop :=
  ∃ xs : List (NestedKey × Addr × V), H p = some (DctO P w p xs) ∧ (p == sysModules) = false ∧
    Paired (fun (x : NestedKey × Addr × V) (y : NestedKey × PyData) => x.1 = y.1 ∧ x.1.depth ≤ 8 ∧ Dp K G (.ref x.2.1) x.1.data ∧ Dp K G x.2.2 y.2) xs kvs
/-- a dict that is stilled -/
def DczAt (P : Program) (w : World) (K : PySem.W.Frag) (G : Hp) (p : Addr) (kvs : List (NestedKey × PyData)) : Prop :=
  ∃ (od : Obj) (xs : List (NestedKey × Addr × V)), G p = some (.frz od (DctO P w p xs)) ∧ (p == sysModules) = false ∧
    Paired (fun (x : NestedKey × Addr × V) (y : NestedKey × PyData) => x.1 = y.1 ∧ x.1.depth ≤ 8 ∧ Dp K G (.ref x.2.1) x.1.data ∧ Dp K G x.2.2 y.2) xs kvs
/-- a dict with ints for keys at p -/
def DkiAt (K : PySem.W.Frag) (G H : Hp) (p : Addr) (kvs : List (Int × PyData)) : Prop :=
  ∃ xs : List (Key × V), H p = some (.dK xs) ∧ Paired (fun (x : Key × V) (y : Int × PyData) => x.1 = .inl y.1 ∧ Dp K G x.2 y.2) xs kvs
/-- a watch at x: its dict dx, its list of rows r -/
structure WatAt (K : PySem.W.Frag) (G H : Hp) (x C dx r : Addr) (m : PyData) (t : Str) (rows : List PyData) : Prop where
  cls : PySem.W.nsIn K mainGlobals "Watch" = some (some (.ref C))
  ins : ∃ vm, H x = some (.ins C dx [("machine", vm), ("text", .str t), ("rows", .ref r)]) ∧ Dp K G vm m
  own : H dx = some (.own x)
  rws : ∃ vs, H r = some (.lst vs) ∧ DpAll K G vs rows
def SlOk (P : Program) (w : World) (K : PySem.W.Frag) (H0 G H : Hp) (v : V) : SV → Prop
  | .dat d => Dp K G v d
  | .own ds => ∃ p vs, v = .ref p ∧ H0 p = none ∧ G p = none ∧ H p = some (.lst vs) ∧ DpAll K G vs ds
  | .dct kvs => ∃ p, v = .ref p ∧ H0 p = none ∧ G p = none ∧ DctAt P w K G H p kvs
  | .raw u => v = u
  | .dki kvs => ∃ p, v = .ref p ∧ H0 p = none ∧ G p = none ∧ DkiAt K G H p kvs
  | .dcz kvs => ∃ p, v = .ref p ∧ DczAt P w K G p kvs
  | .waz m t rows => ∃ x C dx r, v = .ref x ∧ WatAt K G H0 x C dx r m t rows
  | .wat l m t rows => ∃ x C dx r, v = .ref x ∧ WatAt K G H x C dx r m t rows ∧ (∀ y, l = some y → y = (x, dx, r)) ∧ (H0 x = none ∧ G x = none) ∧ (H0 dx = none ∧ G dx = none) ∧ (H0 r = none ∧ G r = none)
/-- the addresses that hang on a value of one's own -/
def Fp (H : Hp) (v : V) (a : Addr) : Prop := v = .ref a ∨ ∃ x C dx fs, v = .ref x ∧ H x = some (.ins C dx fs) ∧ (a = dx ∨ fs.lookup ("rows" : Str) = some (.ref a))
theorem fp_self {H : Hp} {p : Addr} : Fp H (.ref p) p := .inl rfl
theorem fp_one {H : Hp} {p a : Addr} {o : HO} (h : H p = some o) (n : ∀ C dx fs, o ≠ .ins C dx fs) (f : Fp H (.ref p) a) : a = p := by
  rcases f with f | ⟨x, C, dx, fs, e, hx, _⟩
  · cases f; rfl
  · cases e
    rw [h] at hx
    cases hx
    exact absurd rfl (n _ _ _)
theorem fp_lst {H : Hp} {p a : Addr} {vs : List V} (h : H p = some (.lst vs)) (f : Fp H (.ref p) a) : a = p := fp_one h (fun _ _ _ z => by cases z) f
theorem fp_dct {P : Program} {w : World} {H : Hp} {p q a : Addr} {xs : List (NestedKey × Addr × V)} (h : H p = some (DctO P w q xs)) (f : Fp H (.ref p) a) : a = p := fp_one h (fun _ _ _ z => by cases z) f
theorem fp_dK {H : Hp} {p a : Addr} {xs : List (Key × V)} (h : H p = some (.dK xs)) (f : Fp H (.ref p) a) : a = p := fp_one h (fun _ _ _ z => by cases z) f
theorem lookup_rows (vm : V) (t : Str) (r : Addr) : ([("machine", vm), ("text", .str t), ("rows", .ref r)] : List (Str × V)).lookup ("rows" : Str) = some (.ref r) := by
  rw [List.lookup, show (("rows" : Str) == "machine") = false by decide]
  show List.lookup ("rows" : Str) [("text", V.str t), ("rows", V.ref r)] = _
  rw [List.lookup, show (("rows" : Str) == "text") = false by decide]
  show List.lookup ("rows" : Str) [("rows", V.ref r)] = _
  rw [List.lookup, show (("rows" : Str) == "rows") = true by decide]
theorem WatAt.fp {K : PySem.W.Frag} {G H : Hp} {x C dx r a : Addr} {m : PyData} {t : Str} {rows : List PyData} (h : WatAt K G H x C dx r m t rows) (f : Fp H (.ref x) a) : a = x ∨ a = dx ∨ a = r := by
  obtain ⟨vm, hi, _⟩ := h.ins
  rcases f with f | ⟨y, C', dx', fs, e, hx, z⟩
  · cases f; exact .inl rfl
  · cases e
    rw [hi] at hx
    cases hx
    rcases z with z | z
    · exact .inr (.inl z)
    · rw [lookup_rows] at z
      cases z
      exact .inr (.inr rfl)
theorem WatAt.fpd {K : PySem.W.Frag} {G H : Hp} {x C dx r : Addr} {m : PyData} {t : Str} {rows : List PyData} (h : WatAt K G H x C dx r m t rows) : Fp H (.ref x) dx := by
  obtain ⟨vm, hi, _⟩ := h.ins
  exact .inr ⟨x, C, dx, _, rfl, hi, .inl rfl⟩
theorem WatAt.fpr {K : PySem.W.Frag} {G H : Hp} {x C dx r : Addr} {m : PyData} {t : Str} {rows : List PyData} (h : WatAt K G H x C dx r m t rows) : Fp H (.ref x) r := by
  obtain ⟨vm, hi, _⟩ := h.ins
  exact .inr ⟨x, C, dx, _, rfl, hi, .inr (lookup_rows _ _ _)⟩
theorem DkiAt.grow {K : PySem.W.Frag} {G H G' H' : Hp} {p : Addr} {kvs : List (Int × PyData)} (g : Same G G') (h : ∀ o, H p = some o → H' p = some o) (x : DkiAt K G H p kvs) : DkiAt K G' H' p kvs := by
  obtain ⟨xs, h1, h3⟩ := x
  exact ⟨xs, h _ h1, Paired.mapP h3 fun a b ⟨e1, e2⟩ => ⟨e1, dp_mono g _ _ e2⟩⟩
theorem WatAt.grow {K : PySem.W.Frag} {G H G' H' : Hp} {x C dx r : Addr} {m : PyData} {t : Str} {rows : List PyData} (g : Same G G') (h : ∀ a o, a = x ∨ a = dx ∨ a = r → H a = some o → H' a = some o) (k : WatAt K G H x C dx r m t rows) : WatAt K G' H' x C dx r m t rows := by
  obtain ⟨h1, ⟨vm, h2, h3⟩, h4, ⟨vs, h5, h6⟩⟩ := k
  exact ⟨h1, ⟨vm, h _ _ (.inl rfl) h2, dp_mono g _ _ h3⟩, h _ _ (.inr (.inl rfl)) h4, ⟨vs, h _ _ (.inr (.inr rfl)) h5, dpAll_mono g _ _ h6⟩⟩
theorem DctAt.grow {P : Program} {w : World} {K : PySem.W.Frag} {G H G' H' : Hp} {p : Addr} {kvs : List (NestedKey × PyData)} (g : Same G G') (h : ∀ o, H p = some o → H' p = some o) (x : DctAt P w K G H p kvs) : DctAt P w K G' H' p kvs := by
  obtain ⟨xs, h1, h2, h3⟩ := x
  exact ⟨xs, h _ h1, h2, Paired.mapP h3 fun a b ⟨e1, e2, e3, e4⟩ => ⟨e1, e2, dp_mono g _ _ e3, dp_mono g _ _ e4⟩⟩
theorem DczAt.grow {P : Program} {w : World} {K : PySem.W.Frag} {G G' : Hp} {p : Addr} {kvs : List (NestedKey × PyData)} (g : Same G G') (x : DczAt P w K G p kvs) : DczAt P w K G' p kvs := by
  obtain ⟨od, xs, h1, h2, h3⟩ := x
  exact ⟨od, xs, g _ _ h1, h2, Paired.mapP h3 fun a b ⟨e1, e2, e3, e4⟩ => ⟨e1, e2, dp_mono g _ _ e3, dp_mono g _ _ e4⟩⟩
/-- a slot stays known while its own objects stay and nothing of one's own is stilled -/
theorem SlOk.grow {P : Program} {w : World} {K : PySem.W.Frag} {H0 G H G' H' : Hp} {v : V} {s : SV} (x : SlOk P w K H0 G H v s) (g : Same G G') (h : s.mu = true → ∀ p o, Fp H v p → H p = some o → H' p = some o ∧ G' p = G p) : SlOk P w K H0 G' H' v s := by
  cases s with
  | dat d => exact dp_mono g _ _ x
  | own ds =>
    obtain ⟨p, vs, e, h0, hg, hh, hd⟩ := x
    obtain ⟨h1, h2⟩ := h rfl p _ (.inl e) hh
    exact ⟨p, vs, e, h0, h2.trans hg, h1, dpAll_mono g _ _ hd⟩
  | dct kvs =>
    obtain ⟨p, e, h0, hg, hd⟩ := x
    obtain ⟨xs, h1, _⟩ := id hd
    obtain ⟨h3, h2⟩ := h rfl p _ (.inl e) h1
    exact ⟨p, e, h0, h2.trans hg, hd.grow g fun o q => (h rfl p o (.inl e) q).1⟩
  | raw u => exact x
  | dcz kvs =>
    obtain ⟨p, e, hd⟩ := x
    exact ⟨p, e, hd.grow g⟩
  | waz m t rows =>
    obtain ⟨x, C, dx, r, e, hw⟩ := x
    exact ⟨x, C, dx, r, e, hw.grow g fun _ _ _ q => q⟩
  | dki kvs =>
    obtain ⟨p, e, h0, hg, hd⟩ := x
    obtain ⟨xs, h1, _⟩ := id hd
    obtain ⟨h3, h2⟩ := h rfl p _ (.inl e) h1
    exact ⟨p, e, h0, h2.trans hg, hd.grow g fun o q => (h rfl p o (.inl e) q).1⟩
  | wat l m t rows =>
    obtain ⟨x, C, dx, r, e, hw, hlab, ⟨a1, a2⟩, ⟨b1, b2⟩, ⟨c1, c2⟩⟩ := x
    subst e
    obtain ⟨vm, hi, _⟩ := hw.ins
    obtain ⟨vs, hr, _⟩ := hw.rws
    have f1 := h rfl x _ fp_self hi
    have f2 := h rfl dx _ hw.fpd hw.own
    have f3 := h rfl r _ hw.fpr hr
    refine ⟨x, C, dx, r, rfl, hw.grow g fun a o ha q => ?_, hlab, ⟨a1, f1.2.trans a2⟩, ⟨b1, f2.2.trans b2⟩, ⟨c1, f3.2.trans c2⟩⟩
    rcases ha with rfl | rfl | rfl
    · exact (h rfl _ o fp_self q).1
    · exact (h rfl _ o hw.fpd q).1
    · exact (h rfl _ o hw.fpr q).1
/-- what hangs on a slot of one's own is new and known -/
theorem SlOk.fp {P : Program} {w : World} {K : PySem.W.Frag} {H0 G H : Hp} {v : V} {s : SV} {a : Addr} (x : SlOk P w K H0 G H v s) (m : s.mu = true) (f : Fp H v a) : H0 a = none ∧ G a = none ∧ ∃ o, H a = some o := by
  cases s with
  | dat d => cases m
  | raw u => cases m
  | dcz kvs => cases m
  | waz m1 t1 r1 => cases m
  | own ds =>
    obtain ⟨p, vs, e, h0, hg, hh, hd⟩ := x
    subst e
    cases fp_lst hh f
    exact ⟨h0, hg, _, hh⟩
  | dct kvs =>
    obtain ⟨p, e, h0, hg, xs, hh, _⟩ := x
    subst e
    cases fp_dct hh f
    exact ⟨h0, hg, _, hh⟩
  | dki kvs =>
    obtain ⟨p, e, h0, hg, xs, hh, _⟩ := x
    subst e
    cases fp_dK hh f
    exact ⟨h0, hg, _, hh⟩
  | wat l mm t rows =>
    obtain ⟨x, C, dx, r, e, hw, hlab, ⟨a1, a2⟩, ⟨b1, b2⟩, ⟨c1, c2⟩⟩ := x
    subst e
    obtain ⟨vm, hi, _⟩ := hw.ins
    obtain ⟨vs, hr, _⟩ := hw.rws
    rcases hw.fp f with rfl | rfl | rfl
    · exact ⟨a1, a2, _, hi⟩
    · exact ⟨b1, b2, _, hw.own⟩
    · exact ⟨c1, c2, _, hr⟩
/-- the footprint of a slot that stays -/
theorem SlOk.fpm {P : Program} {w : World} {K : PySem.W.Frag} {H0 G H H' : Hp} {v : V} {s : SV} {a : Addr} (x : SlOk P w K H0 G H v s) (m : s.mu = true) (h : ∀ p o, v = .ref p → H p = some o → H' p = some o) (f : Fp H' v a) : Fp H v a := by
  rcases f with f | ⟨y, C, dx, fs, e, hx, z⟩
  · exact .inl f
  · subst e
    obtain ⟨_, _, o, ho⟩ := x.fp m fp_self
    have := h y o rfl ho
    rw [this] at hx
    cases hx
    exact .inr ⟨y, C, dx, fs, rfl, ho, z⟩

structure OkG (P : Program) (w : World) (K : PySem.W.Frag) (G0 H0 G : Hp) (env : En) (σ : L2.St) (H : Hp) : Prop where
  gr : Grow G0 H0 G H
  len : env.length = σ.length
  sl : ∀ (i : Nat) s, env[i]? = some (some s) → ∃ v, σ[i]? = some (some v) ∧ SlOk P w K H0 G H v s
  ap : ∀ (i j : Nat) s t u v a, env[i]? = some (some s) → env[j]? = some (some t) → s.mu = true → t.mu = true → σ[i]? = some (some u) → σ[j]? = some (some v) → Fp H u a → Fp H v a → i = j
section
variable {P : Program} {w : World} {K : PySem.W.Frag} {G0 H0 G H G' H' : Hp} {env : En} {σ : L2.St}
theorem OkG.gh (x : OkG P w K G0 H0 G env σ H) : Same G H := x.gr.gh
theorem OkG.grow (x : OkG P w K G0 H0 G env σ H) (g : Grow G H G' H') : OkG P w K G0 H0 G' env σ H' where
  gr := x.gr.trans g
  len := x.len
  sl := fun i s e => by
    obtain ⟨v, h1, h2⟩ := x.sl i s e
    exact ⟨v, h1, h2.grow g.g fun _ p o _ q => ⟨g.h _ _ q, g.old p (some_ne_none q)⟩⟩
  ap := fun i j s t u v a h1 h2 m1 m2 e1 e2 f1 f2 => by
    obtain ⟨u', k1, k2⟩ := x.sl i s h1
    obtain ⟨v', k3, k4⟩ := x.sl j t h2
    rw [k1] at e1; cases e1
    rw [k3] at e2; cases e2
    exact x.ap i j s t u v a h1 h2 m1 m2 k1 k3 (k2.fpm m1 (fun _ _ _ q => g.h _ _ q) f1) (k4.fpm m2 (fun _ _ _ q => g.h _ _ q) f2)
/-- a slot's value is of one's own: where it stands -/
theorem SlOk.own_ref {H0 G H : Hp} {v : V} {s : SV} (x : SlOk P w K H0 G H v s) (m : s.mu = true) : ∃ p o, v = .ref p ∧ H0 p = none ∧ G p = none ∧ H p = some o := by
  cases s with
  | dat d => cases m
  | own ds => obtain ⟨p, vs, e, h0, hg, hh, _⟩ := x; exact ⟨p, _, e, h0, hg, hh⟩
  | dct kvs => obtain ⟨p, e, h0, hg, xs, hh, _⟩ := x; exact ⟨p, _, e, h0, hg, hh⟩
  | raw u => cases m
  | dcz kvs => cases m
  | waz m1 t1 r1 => cases m
  | dki kvs => obtain ⟨p, e, h0, hg, xs, hh, _⟩ := x; exact ⟨p, _, e, h0, hg, hh⟩
  | wat l mm t rows =>
    obtain ⟨x, C, dx, r, e, hw, hlab, ⟨a1, a2⟩, _⟩ := x
    obtain ⟨vm, hi, _⟩ := hw.ins
    exact ⟨x, _, e, a1, a2, hi⟩
/-- an address that is new hangs on no slot -/
theorem OkG.new (x : OkG P w K G0 H0 G env σ H) {H1 : Hp} {p : Addr} (hs : Same H H1) (hp : H p = none) {j : Nat} {t : SV} {v : V} (ht : env[j]? = some (some t)) (hm : t.mu = true) (hv : σ[j]? = some (some v)) : ¬ Fp H1 v p := fun f => by
  obtain ⟨v', k1, k2⟩ := x.sl j t ht
  rw [hv] at k1
  cases k1
  obtain ⟨_, _, o, ho⟩ := k2.fp hm (k2.fpm hm (fun _ _ _ q => hs _ _ q) f)
  rw [hp] at ho
  cases ho
/-- data put into a slot -/
theorem OkG.dat (x : OkG P w K G0 H0 G env σ H) {i : Nat} {v : V} {d : PyData} (h : Dp K G v d) : OkG P w K G0 H0 G (env.set i (some (.dat d))) (σ.set i (some v)) H where
  gr := x.gr
  len := by rw [List.length_set, List.length_set]; exact x.len
  sl := fun j s e => by
    by_cases hj : i = j
    · subst hj
      by_cases hi : i < env.length
      · rw [List.getElem?_set_self hi] at e
        cases e
        exact ⟨v, List.getElem?_set_self (by rw [← x.len]; exact hi), h⟩
      · rw [List.getElem?_eq_none (by rw [List.length_set]; omega)] at e; cases e
    · rw [List.getElem?_set_ne hj] at e ⊢
      exact x.sl j s e
  ap := fun j k s t u v' a h1 h2 m1 m2 e1 e2 f1 f2 => by
    have nj : i ≠ j := fun q => by
      subst q
      by_cases hi : i < env.length
      · rw [List.getElem?_set_self hi] at h1; cases h1; cases m1
      · rw [List.getElem?_eq_none (by rw [List.length_set]; omega)] at h1; cases h1
    have nk : i ≠ k := fun q => by
      subst q
      by_cases hi : i < env.length
      · rw [List.getElem?_set_self hi] at h2; cases h2; cases m2
      · rw [List.getElem?_eq_none (by rw [List.length_set]; omega)] at h2; cases h2
    rw [List.getElem?_set_ne nj] at h1 e1
    rw [List.getElem?_set_ne nk] at h2 e2
    exact x.ap j k s t u v' a h1 h2 m1 m2 e1 e2 f1 f2
/-- a thing of one's own put into a slot: no other slot of one's own has its address -/
theorem OkG.put (x : OkG P w K G0 H0 G env σ H) {i : Nat} {p : Addr} {s : SV} (h : SlOk P w K H0 G H (.ref p) s) (hn : ∀ (j : Nat) t v a, j ≠ i → env[j]? = some (some t) → t.mu = true → σ[j]? = some (some v) → Fp H (.ref p) a → ¬ Fp H v a) :
    OkG P w K G0 H0 G (env.set i (some s)) (σ.set i (some (.ref p))) H where
  gr := x.gr
  len := by rw [List.length_set, List.length_set]; exact x.len
  sl := fun j t e => by
    by_cases hj : i = j
    · subst hj
      by_cases hi : i < env.length
      · rw [List.getElem?_set_self hi] at e
        cases e
        exact ⟨_, List.getElem?_set_self (by rw [← x.len]; exact hi), h⟩
      · rw [List.getElem?_eq_none (by rw [List.length_set]; omega)] at e; cases e
    · rw [List.getElem?_set_ne hj] at e ⊢
      exact x.sl j t e
  ap := fun j k s' t u v' a h1 h2 m1 m2 e1 e2 f1 f2 => by
    have lt : ∀ {a : Nat} {r : SV}, (env.set i (some s))[a]? = some (some r) → a < env.length := fun {a r} q => by
      have := (List.getElem?_eq_some_iff.mp q).1
      rw [List.length_set] at this; exact this
    by_cases hj : i = j
    · by_cases hk : i = k
      · rw [← hj, ← hk]
      · subst hj
        rw [List.getElem?_set_self (by rw [← x.len]; exact lt h1)] at e1
        cases e1
        rw [List.getElem?_set_ne hk] at h2 e2
        exact absurd f2 (hn k t _ a (Ne.symm hk) h2 m2 e2 f1)
    · rw [List.getElem?_set_ne hj] at h1 e1
      by_cases hk : i = k
      · subst hk
        rw [List.getElem?_set_self (by rw [← x.len]; exact lt h2)] at e2
        cases e2
        exact absurd f1 (hn j s' _ a (Ne.symm hj) h1 m1 e1 f2)
      · rw [List.getElem?_set_ne hk] at h2 e2
        exact x.ap j k s' t u v' a h1 h2 m1 m2 e1 e2 f1 f2
/-- what hangs on slot i changes -/
theorem OkG.mutF (x : OkG P w K G0 H0 G env σ H) {i : Nat} {p : Addr} {s s' : SV} {H' : Hp} (hi : env[i]? = some (some s)) (hs : s.mu = true) (hv : σ[i]? = some (some (.ref p)))
    (hk : ∀ a o, ¬ Fp H (.ref p) a → H a = some o → H' a = some o) (hF : ∀ a, Fp H' (.ref p) a → Fp H (.ref p) a)
    (h : SlOk P w K H0 G H' (.ref p) s') : OkG P w K G0 H0 G (env.set i (some s')) σ H' := by
  obtain ⟨v0, k1, k2⟩ := x.sl i s hi
  rw [hv] at k1
  cases k1
  have other : ∀ {j : Nat} {t : SV} {v : V}, i ≠ j → env[j]? = some (some t) → t.mu = true → σ[j]? = some (some v) → ∀ q o, Fp H v q → H q = some o → H' q = some o := fun {j t v} hj ht hm hv2 q o f e =>
    hk q o (fun z => hj (x.ap i j s t _ v q hi ht hs hm hv hv2 z f)) e
  refine ⟨⟨fun a o e => hk a o (fun z => ?_) (x.gr.h a o e), x.gr.g, fun a o e => hk a o (fun z => ?_) (x.gr.gh a o e), x.gr.old⟩, by rw [List.length_set]; exact x.len, fun j t e => ?_, fun j k s1 t u v a h1 h2 m1 m2 e1 e2 f1 f2 => ?_⟩
  · have := (k2.fp hs z).1
    rw [this] at e; cases e
  · have := (k2.fp hs z).2.1
    rw [this] at e; cases e
  · by_cases hj : i = j
    · subst hj
      rw [List.getElem?_set_self (List.getElem?_eq_some_iff.mp hi).1] at e
      cases e
      exact ⟨_, hv, h⟩
    · rw [List.getElem?_set_ne hj] at e
      obtain ⟨v, h1, h2⟩ := x.sl j t e
      exact ⟨v, h1, h2.grow (Same.refl G) fun m q o f hq => ⟨other hj e m h1 q o f hq, rfl⟩⟩
  · have pick : ∀ {b : Nat} {r : SV} {y : V}, (env.set i (some s'))[b]? = some (some r) → r.mu = true → σ[b]? = some (some y) → Fp H' y a → ∃ r', env[b]? = some (some r') ∧ r'.mu = true ∧ Fp H y a := fun {b r y} q m ey fy => by
      by_cases hb : i = b
      · subst hb
        rw [hv] at ey
        cases ey
        exact ⟨s, hi, hs, hF a fy⟩
      · rw [List.getElem?_set_ne hb] at q
        obtain ⟨y', g1, g2⟩ := x.sl b r q
        rw [ey] at g1
        cases g1
        exact ⟨r, q, m, g2.fpm m (fun q o eq hq => other hb ‹_› m ey q o (.inl eq) hq) fy⟩
    obtain ⟨r1, q1, n1, z1⟩ := pick h1 m1 e1 f1
    obtain ⟨r2, q2, n2, z2⟩ := pick h2 m2 e2 f2
    exact x.ap j k r1 r2 u v a q1 q2 n1 n2 e1 e2 z1 z2
/-- an object of one's own changes: the slot i and its object -/
theorem OkG.mut (x : OkG P w K G0 H0 G env σ H) {i : Nat} {p : Addr} {s s' : SV} {o' : HO} (hi : env[i]? = some (some s)) (hs : s.mu = true) (hv : σ[i]? = some (some (.ref p))) (h0 : H0 p = none) (hg : G p = none)
    (h : SlOk P w K H0 G (upd H p o') (.ref p) s') (hno : ∀ C dx fs, o' ≠ .ins C dx fs := by intro _ _ _ z; cases z) : OkG P w K G0 H0 G (env.set i (some s')) σ (upd H p o') :=
  x.mutF hi hs hv (fun a o n e => by rw [upd_ne (fun q => n (.inl (by rw [q])))]; exact e) (fun a f => by
    rw [fp_one (upd_same : upd H p o' p = some o') hno f]
    exact fp_self) h
/-- forgetting slots -/
theorem OkG.less (x : OkG P w K G0 H0 G env σ H) {env' : En} {σ' : L2.St} (hl : env'.length = σ'.length) (h : ∀ (i : Nat) s, env'[i]? = some (some s) → env[i]? = some (some s) ∧ σ'[i]? = σ[i]?) : OkG P w K G0 H0 G env' σ' H where
  gr := x.gr
  len := hl
  sl := fun i s e => by
    obtain ⟨e1, e2⟩ := h i s e
    rw [e2]; exact x.sl i s e1
  ap := fun i j s t u v a h1 h2 m1 m2 e1 e2 f1 f2 => by
    obtain ⟨q1, z1⟩ := h i s h1
    obtain ⟨q2, z2⟩ := h j t h2
    rw [z1] at e1; rw [z2] at e2
    exact x.ap i j s t u v a q1 q2 m1 m2 e1 e2 f1 f2
/-- a list of one's own is stilled -/
def frz (i : Nat) (env : En) : En := match env[i]? with
  | some (some (.own ds)) => env.set i (some (.dat (.list ds)))
  | _ => env
theorem OkG.frz (x : OkG P w K G0 H0 G env σ H) (i : Nat) : ∃ G', Same G G' ∧ OkG P w K G0 H0 G' (frz i env) σ H := by
  unfold GL.frz
  split
  · rename_i ds hi
    obtain ⟨v, hv, p, vs, rfl, h0, hg, hh, hd⟩ := x.sl i _ hi
    refine ⟨upd G p (.lst vs), same_new hg, ?_⟩
    have g1 : Same G (upd G p (.lst vs)) := same_new hg
    refine ⟨x.gr.freeze h0 hg hh, by rw [List.length_set]; exact x.len, fun j s e => ?_, fun j k s t u v a h1 h2 m1 m2 e1 e2 f1 f2 => ?_⟩
    · by_cases hj : i = j
      · subst hj
        rw [List.getElem?_set_self (List.getElem?_eq_some_iff.mp hi).1] at e
        cases e
        exact ⟨_, hv, Dp.lst (.inl (.inl upd_same)) (dpAll_mono g1 _ _ hd)⟩
      · rw [List.getElem?_set_ne hj] at e
        obtain ⟨v', h1, h2⟩ := x.sl j s e
        refine ⟨v', h1, h2.grow g1 fun m q o f hq => ⟨hq, upd_ne ?_⟩⟩
        rintro rfl
        exact hj (x.ap i j _ s _ _ _ hi e rfl m hv h1 fp_self f)
    · have nj : ∀ {a : Nat} {r : SV}, (env.set i (some (.dat (.list ds))))[a]? = some (some r) → r.mu = true → env[a]? = some (some r) := fun {a r} q m => by
        by_cases ha : i = a
        · subst ha
          rw [List.getElem?_set_self (List.getElem?_eq_some_iff.mp hi).1] at q
          cases q; cases m
        · rw [List.getElem?_set_ne ha] at q; exact q
      exact x.ap j k s t u v a (nj h1 m1) (nj h2 m2) m1 m2 e1 e2 f1 f2
  · exact ⟨G, Same.refl G, x⟩
/-- a dict of one's own is stilled -/
theorem OkG.stillD (x : OkG P w K G0 H0 G env σ H) {i : Nat} {kvs : List (NestedKey × PyData)} (hi : env[i]? = some (some (.dct kvs))) : ∃ p xs, H p = some (DctO P w p xs) ∧
    ∀ od, ∃ G', Same G G' ∧ OkG P w K G0 H0 G' (env.set i (some (.dcz kvs))) σ (upd H p (.frz od (DctO P w p xs))) := by
  obtain ⟨v, hv, p, rfl, h0, hg, xs, hh, hsm, hd⟩ := x.sl i _ hi
  refine ⟨p, xs, hh, fun od => ⟨upd G p (.frz od (DctO P w p xs)), same_new hg, ?_⟩⟩
  have g1 : Same G (upd G p (.frz od (DctO P w p xs))) := same_new hg
  have gr1 : Grow G0 H0 G (upd H p (.frz od (DctO P w p xs))) := ⟨fun a u ha => by rw [upd_ne (ne_of_none ha h0)]; exact x.gr.h a u ha, x.gr.g, fun a u ha => by rw [upd_ne (ne_of_none ha hg)]; exact x.gr.gh a u ha, x.gr.old⟩
  have away : ∀ {j : Nat} {s : SV} {v : V} {q : Addr}, env[j]? = some (some s) → s.mu = true → σ[j]? = some (some v) → i ≠ j → Fp H v q → q ≠ p := fun {j s v q} e m h1 hj f z => by
    subst z
    exact hj (x.ap i j _ s _ _ _ hi e rfl m hv h1 fp_self f)
  refine ⟨gr1.freeze h0 hg upd_same, by rw [List.length_set]; exact x.len, fun j s e => ?_, fun j k s t u v a h1 h2 m1 m2 e1 e2 f1 f2 => ?_⟩
  · by_cases hj : i = j
    · subst hj
      rw [List.getElem?_set_self (List.getElem?_eq_some_iff.mp hi).1] at e
      cases e
      exact ⟨_, hv, p, rfl, od, xs, upd_same, hsm, Paired.mapP hd fun a b ⟨e1, e2, e3, e4⟩ => ⟨e1, e2, dp_mono g1 _ _ e3, dp_mono g1 _ _ e4⟩⟩
    · rw [List.getElem?_set_ne hj] at e
      obtain ⟨v', h1, h2⟩ := x.sl j s e
      refine ⟨v', h1, h2.grow g1 fun m q o f hq => ?_⟩
      have := away e m h1 hj f
      exact ⟨by rw [upd_ne this]; exact hq, upd_ne this⟩
  · have nj : ∀ {a : Nat} {r : SV}, (env.set i (some (.dcz kvs)))[a]? = some (some r) → r.mu = true → i ≠ a ∧ env[a]? = some (some r) := fun {a r} q m => by
      by_cases ha : i = a
      · subst ha
        rw [List.getElem?_set_self (List.getElem?_eq_some_iff.mp hi).1] at q
        cases q; cases m
      · rw [List.getElem?_set_ne ha] at q; exact ⟨ha, q⟩
    obtain ⟨n1, h1⟩ := nj h1 m1
    obtain ⟨n2, h2⟩ := nj h2 m2
    obtain ⟨u', k1, k2⟩ := x.sl j s h1
    obtain ⟨v', k3, k4⟩ := x.sl k t h2
    rw [k1] at e1; cases e1
    rw [k3] at e2; cases e2
    refine x.ap j k s t u v a h1 h2 m1 m2 k1 k3 (k2.fpm m1 (fun q o z hq => ?_) f1) (k4.fpm m2 (fun q o z hq => ?_) f2)
    · subst z
      rw [upd_ne (away h1 m1 k1 n1 fp_self)]; exact hq
    · subst z
      rw [upd_ne (away h2 m2 k3 n2 fp_self)]; exact hq
end
end GL

/-! # The data layer, part b: judgements, expressions -/
namespace GL
open PySem PySem.Spec PyProof.Rows L2

theorem pe_imp {X : Cx} {e : Expr} {t t' : TE} (h : PE X e t) (i : ∀ σ H Q, t' σ H Q → t σ H Q) : PE X e t' := ⟨fun pins s σ H Q I q => h.run pins s σ H Q I (i σ H Q q)⟩
theorem pt_imp {X : Cx} {e : Expr} {t t' : TT} (h : PT X e t) (i : ∀ σ H Q, t' σ H Q → t σ H Q) : PT X e t' := ⟨fun pins s σ H Q I q => h.run pins s σ H Q I (i σ H Q q)⟩
theorem pw_imp {X : Cx} {e : Expr} {t t' : TT} (h : PW X e t) (i : ∀ σ H Q, t' σ H Q → t σ H Q) : PW X e t' := ⟨fun wh pins s σ H Q I q => h.run wh pins s σ H Q I (i σ H Q q)⟩
theorem pa_imp {X : Cx} {es : List Expr} {t t' : TA} (h : PA X es t) (i : ∀ σ H Q, t' σ H Q → t σ H Q) : PA X es t' := ⟨fun pos pins s σ H Q I q => h.run pos pins s σ H Q I (i σ H Q q)⟩

section
variable (P : Program) (w : World) (K : PySem.W.Frag) (W : WX) (cm : Str → Addr)
/-- what is wanted if an error of the class x is raised -/
def exP (σ : L2.St) (G H : Hp) : Str → Prop := fun x => ∀ G' H', Grow G H G' H' → W (.ref (cm x)) none σ H'
def tD (f : En → Res PyData) : TE := fun σ H Q => ∃ G0 H0 G env, OkG P w K G0 H0 G env σ H ∧ (f env).sat (fun d => ∀ v G' H', Grow G H G' H' → Dp K G' v d → Q v H') (exP W cm σ G H)
def tL (f : En → Res (List PyData)) : TE := fun σ H Q => ∃ G0 H0 G env, OkG P w K G0 H0 G env σ H ∧ (f env).sat (fun ds => ∀ p vs G' H', Grow G H G' H' → H p = none → G' p = none → H' p = some (.lst vs) → DpAll K G' vs ds → Q (.ref p) H') (exP W cm σ G H)
def SqB (K : PySem.W.Frag) (b : Bool) (G H : Hp) (a : Addr) (vs : List V) : Prop := if b = true then SqT K G a vs else SqL K H a vs
def tQ (f : En → Res (Bool × List PyData)) : TE := fun σ H Q => ∃ G0 H0 G env, OkG P w K G0 H0 G env σ H ∧ (f env).sat (fun q => ∀ a vs G' H', Grow G H G' H' → SqB K q.1 G' H' a vs → DpAll K G' vs q.2 → Q (.ref a) H') (exP W cm σ G H)
def tA (f : En → Res (List PyData)) : TA := fun σ H Q => ∃ G0 H0 G env, OkG P w K G0 H0 G env σ H ∧ (f env).sat (fun ds => ∀ vs G' H', Grow G H G' H' → DpAll K G' vs ds → Q vs H') (exP W cm σ G H)
def tT (f : En → Res Bool) : TT := fun σ H Q => ∃ G0 H0 G env, OkG P w K G0 H0 G env σ H ∧ (f env).sat (fun b => ∀ G' H', Grow G H G' H' → Q b H') (exP W cm σ G H)
end
abbrev DE (X : Cx) (W : WX) (cm : Str → Addr) (e : Expr) (f : En → Res PyData) : Prop := PE X e (tD X.prog X.w X.K W cm f)
abbrev DL (X : Cx) (W : WX) (cm : Str → Addr) (e : Expr) (f : En → Res (List PyData)) : Prop := PE X e (tL X.prog X.w X.K W cm f)
abbrev DQ (X : Cx) (W : WX) (cm : Str → Addr) (e : Expr) (f : En → Res (Bool × List PyData)) : Prop := PE X e (tQ X.prog X.w X.K W cm f)
abbrev DA (X : Cx) (W : WX) (cm : Str → Addr) (es : List Expr) (f : En → Res (List PyData)) : Prop := PA X es (tA X.prog X.w X.K W cm f)
abbrev DT (X : Cx) (W : WX) (cm : Str → Addr) (e : Expr) (f : En → Res Bool) : Prop := PT X e (tT X.prog X.w X.K W cm f)
abbrev DW (X : Cx) (W : WX) (cm : Str → Addr) (e : Expr) (f : En → Res Bool) : Prop := PW X e (tT X.prog X.w X.K W cm f)

section
variable {P : Program} {w : World} {K : PySem.W.Frag} {W : WX} {cm : Str → Addr} {G0 H0 G H G1 H1 : Hp} {env : En} {σ : L2.St} {α : Type}
theorem exP.grow {x : Str} (g : Grow G H G1 H1) (h : exP W cm σ G H x) : exP W cm σ G1 H1 x := fun G' H' g' => h G' H' (g.trans g')
theorem tD.go {f : En → Res PyData} {Q : VK} (ok : OkG P w K G0 H0 G env σ H) (h : (f env).sat (fun d => ∀ v G' H', Grow G H G' H' → OkG P w K G0 H0 G' env σ H' → Dp K G' v d → Q v H') (exP W cm σ G H)) : tD P w K W cm f σ H Q :=
  ⟨G0, H0, G, env, ok, h.imp (fun _ _ q v G' H' g dp => q v G' H' g (ok.grow g) dp) fun _ q => q⟩
theorem tL.go {f : En → Res (List PyData)} {Q : VK} (ok : OkG P w K G0 H0 G env σ H) (h : (f env).sat (fun ds => ∀ p vs G' H', Grow G H G' H' → OkG P w K G0 H0 G' env σ H' → H p = none → G' p = none → H' p = some (.lst vs) → DpAll K G' vs ds → Q (.ref p) H') (exP W cm σ G H)) : tL P w K W cm f σ H Q :=
  ⟨G0, H0, G, env, ok, h.imp (fun _ _ q v vs G' H' g h1 h2 h3 dp => q v vs G' H' g (ok.grow g) h1 h2 h3 dp) fun _ q => q⟩
theorem tQ.go {f : En → Res (Bool × List PyData)} {Q : VK} (ok : OkG P w K G0 H0 G env σ H) (h : (f env).sat (fun q => ∀ a vs G' H', Grow G H G' H' → OkG P w K G0 H0 G' env σ H' → SqB K q.1 G' H' a vs → DpAll K G' vs q.2 → Q (.ref a) H') (exP W cm σ G H)) : tQ P w K W cm f σ H Q :=
  ⟨G0, H0, G, env, ok, h.imp (fun _ _ q v vs G' H' g s dp => q v vs G' H' g (ok.grow g) s dp) fun _ q => q⟩
theorem tA.go {f : En → Res (List PyData)} {Q : List V → Hp → Prop} (ok : OkG P w K G0 H0 G env σ H) (h : (f env).sat (fun ds => ∀ vs G' H', Grow G H G' H' → OkG P w K G0 H0 G' env σ H' → DpAll K G' vs ds → Q vs H') (exP W cm σ G H)) : tA P w K W cm f σ H Q :=
  ⟨G0, H0, G, env, ok, h.imp (fun _ _ q v G' H' g dp => q v G' H' g (ok.grow g) dp) fun _ q => q⟩
theorem tT.go {f : En → Res Bool} {Q : Bool → Hp → Prop} (ok : OkG P w K G0 H0 G env σ H) (h : (f env).sat (fun b => ∀ G' H', Grow G H G' H' → OkG P w K G0 H0 G' env σ H' → Q b H') (exP W cm σ G H)) : tT P w K W cm f σ H Q :=
  ⟨G0, H0, G, env, ok, h.imp (fun _ _ q G' H' g => q G' H' g (ok.grow g)) fun _ q => q⟩
end

/-! ### names, constants -/
def fVar (i : Nat) : En → Res PyData := fun env => match env[i]? with
  | some (some (.dat d)) => .ok d
  | _ => .no
def fC (d : PyData) : En → Res PyData := fun _ => .ok d
section
variable {X : Cx} {W : WX} {cm : Str → Addr}
theorem de_v (i : Nat) {x : Str} {pos : Pos} (hN : X.N[i]? = some x := by rfl) (hv : Vis X.env.scope x := by first | exact Or.inl rfl | exact Or.inr (Or.inl rfl) | exact Or.inr (Or.inr rfl)) (hd : (x == ("__debug__" : Str)) = false := by decide)
    (hcd : (x == ("__classdict__" : Str)) = false := by decide) : DE X W cm (.Name x pos) (fVar i) :=
  pe_imp (pe_var hN hv hd hcd) fun σ H Q h => by
    obtain ⟨G0, H0, G, env, ok, h⟩ := h
    unfold fVar at h
    split at h
    · rename_i d hi
      obtain ⟨v, hv, dp⟩ := ok.sl i _ hi
      exact ⟨v, hv, h v G H (Grow.refl ok.gh) dp⟩
    · exact h.elim
theorem de_c {e : Expr} {d : PyData} {v : V} (h : PE X e (tC v)) (dp : ∀ G, Dp X.K G v d) : DE X W cm e (fC d) :=
  pe_imp h fun σ H Q q => by
    obtain ⟨G0, H0, G, env, ok, q⟩ := q
    exact q v G H (Grow.refl ok.gh) (dp G)
theorem de_int {i j pos} : DE X W cm (.Constant (.int i) j pos) (fC (.int i)) := de_c pe_int fun _ => .int i
theorem de_bl {b j pos} : DE X W cm (.Constant (.bool b) j pos) (fC (.bool b)) := de_c pe_bl fun _ => .bl b
theorem de_non {j pos} : DE X W cm (.Constant .none j pos) (fC .none) := de_c pe_non fun _ => .non
theorem de_str {x j pos} : DE X W cm (.Constant (.str x) j pos) (fC (.str x)) := de_c pe_str fun _ => .str x
/-- a module's constant: a text, an int -/
theorem de_globS {x y : Str} {t : Tok} {pos : Pos} (hg : Gl X x) (hm : X.mg x = some (.str y t)) (hd : (x == ("__debug__" : Str)) = false := by decide) : DE X W cm (.Name x pos) (fC (.str y)) := de_c (pe_glob (v := .str y) hg hm ⟨_, rfl⟩ hd) fun _ => .str y
theorem de_globI {x : Str} {i : Int} {t : Tok} {pos : Pos} (hg : Gl X x) (hm : X.mg x = some (.int i t)) (hd : (x == ("__debug__" : Str)) = false := by decide) : DE X W cm (.Name x pos) (fC (.int i)) := de_c (pe_glob (v := .int i) hg hm ⟨_, rfl⟩ hd) fun _ => .int i
/-- a fresh list as data -/
def fLst (f : En → Res (List PyData)) : En → Res PyData := fun env => (f env).map .list
theorem de_l {e : Expr} {f : En → Res (List PyData)} (h : DL X W cm e f) : DE X W cm e (fLst f) :=
  pe_imp h fun σ H Q q => by
    obtain ⟨G0, H0, G, env, ok, q⟩ := q
    refine tL.go ok ((Res.sat_map.mp q).imp (fun ds _ k p vs G' H' g _ h1 h2 h3 da => ?_) fun _ z => z)
    exact k _ _ _ (g.freeze h1 h2 h3) (.lst (.inl (.inl upd_same)) (dpAll_mono (same_new h2) _ _ da))
/-- a sequence to be read: a name, or data -/
def fQV (i : Nat) : En → Res (Bool × List PyData) := fun env => match env[i]? with
  | some (some (.own ds)) => .ok (false, ds)
  | some (some (.dat (.list ds))) => .ok (false, ds)
  | some (some (.dat (.tuple ds))) => .ok (true, ds)
  | _ => .no
def asQ : PyData → Res (Bool × List PyData)
  | .list ds => .ok (false, ds)
  | .tuple ds => .ok (true, ds)
  | _ => .no
def fQ (f : En → Res PyData) : En → Res (Bool × List PyData) := fun env => (f env).bind asQ
theorem sqb_l {K : PySem.W.Frag} {G H : Hp} {a : Addr} {vs : List V} (h : SqL K H a vs) : SqB K false G H a vs := by
  unfold SqB; rw [if_neg Bool.false_ne_true]; exact h
theorem sqb_t {K : PySem.W.Frag} {G H : Hp} {a : Addr} {vs : List V} (h : SqT K G a vs) : SqB K true G H a vs := by
  unfold SqB; rw [if_pos rfl]; exact h
theorem SqB.l {K : PySem.W.Frag} {G H : Hp} {a : Addr} {vs : List V} (h : SqB K false G H a vs) : SqL K H a vs := by
  unfold SqB at h; rw [if_neg Bool.false_ne_true] at h; exact h
theorem SqB.t {K : PySem.W.Frag} {G H : Hp} {a : Addr} {vs : List V} (h : SqB K true G H a vs) : SqT K G a vs := by
  unfold SqB at h; rw [if_pos rfl] at h; exact h
theorem SqB.or {K : PySem.W.Frag} {G H : Hp} {a : Addr} {vs : List V} {b : Bool} (gh : Same G H) (h : SqB K b G H a vs) : SqL K H a vs ∨ SqT K H a vs := by
  cases b with
  | true => exact .inr (same_t gh h.t)
  | false => exact .inl h.l
theorem SqB.same {K : PySem.W.Frag} {G H G' H' : Hp} {a : Addr} {vs : List V} {b : Bool} (g : Same G G') (e : Same H H') (h : SqB K b G H a vs) : SqB K b G' H' a vs := by
  cases b with
  | true => exact sqb_t (same_t g h.t)
  | false => exact sqb_l (e.seq h.l)
theorem dp_sq {K : PySem.W.Frag} {G : Hp} {v : V} {d : PyData} {q : Bool × List PyData} (h : Dp K G v d) (e : asQ d = .ok q) : ∃ a vs, v = .ref a ∧ SqB K q.1 G G a vs ∧ DpAll K G vs q.2 := by
  cases d with
  | list ds =>
    cases h with
    | lst hs ha => cases e; exact ⟨_, _, rfl, sqb_l hs, ha⟩
  | tuple ds =>
    cases h with
    | tup hs ha => cases e; exact ⟨_, _, rfl, sqb_t hs, ha⟩
  | _ => cases e
theorem dq_v (i : Nat) {x : Str} {pos : Pos} (hN : X.N[i]? = some x := by rfl) (hv : Vis X.env.scope x := by first | exact Or.inl rfl | exact Or.inr (Or.inl rfl) | exact Or.inr (Or.inr rfl)) (hd : (x == ("__debug__" : Str)) = false := by decide)
    (hcd : (x == ("__classdict__" : Str)) = false := by decide) : DQ X W cm (.Name x pos) (fQV i) :=
  pe_imp (pe_var hN hv hd hcd) fun σ H Q h => by
    obtain ⟨G0, H0, G, env, ok, h⟩ := h
    unfold fQV at h
    split at h
    · rename_i ds hi
      obtain ⟨v, hv, p, vs, rfl, _, _, hh, da⟩ := ok.sl i _ hi
      exact ⟨_, hv, h p vs G H (Grow.refl ok.gh) (sqb_l (.inl (.inl hh))) da⟩
    · rename_i ds hi
      obtain ⟨v, hv, dp⟩ := ok.sl i _ hi
      cases dp with
      | lst hs ha => exact ⟨_, hv, h _ _ G H (Grow.refl ok.gh) (sqb_l (ok.gh.seq hs)) ha⟩
    · rename_i ds hi
      obtain ⟨v, hv, dp⟩ := ok.sl i _ hi
      cases dp with
      | tup hs ha => exact ⟨_, hv, h _ _ G H (Grow.refl ok.gh) (sqb_t hs) ha⟩
    · exact h.elim
theorem dq_e {e : Expr} {f : En → Res PyData} (h : DE X W cm e f) : DQ X W cm e (fQ f) :=
  pe_imp h fun σ H Q q => by
    obtain ⟨G0, H0, G, env, ok, q⟩ := q
    refine tD.go ok ((Res.sat_bind.mp q).imp (fun d _ k v G' H' g ok' dp => ?_) fun _ z => z)
    cases e : asQ d with
    | ok r =>
      rw [e] at k
      obtain ⟨a, vs, rfl, hs, da⟩ := dp_sq dp e
      exact k a vs G' H' g (hs.same (Same.refl G') g.gh) da
    | ex x => cases d <;> cases e
    | no => rw [e] at k; exact k.elim
def fQL (f : En → Res (List PyData)) : En → Res (Bool × List PyData) := fun env => (f env).map fun ds => (false, ds)
theorem dq_l {e : Expr} {f : En → Res (List PyData)} (h : DL X W cm e f) : DQ X W cm e (fQL f) :=
  pe_imp h fun σ H Q q => by
    obtain ⟨G0, H0, G, env, ok, q⟩ := q
    refine tL.go ok ((Res.sat_map.mp q).imp (fun ds _ k p vs G' H' g _ h1 h2 h3 da => ?_) fun _ z => z)
    exact k _ _ _ _ g (sqb_l (.inl (.inl h3))) da
end

/-! ### argument lists, displays -/
def fNil : En → Res (List PyData) := fun _ => .ok []
def fCons (f : En → Res PyData) (g : En → Res (List PyData)) : En → Res (List PyData) := fun env => (f env).bind fun d => (g env).map fun ds => d :: ds
def fTup (f : En → Res (List PyData)) : En → Res PyData := fun env => (f env).bind fun ds => if ds.length ≤ 1000 then .ok (.tuple ds) else .no
def fDsp (f : En → Res (List PyData)) : En → Res (List PyData) := fun env => (f env).bind fun ds => if ds.length ≤ 1000 then .ok ds else .no
theorem le1000 {n : Nat} (h : n ≤ 1000) : n ≤ sizeLine := Nat.le_trans h (by decide)
section
variable {X : Cx} {W : WX} {cm : Str → Addr}
theorem da_nil : DA X W cm [] fNil := pa_imp pa_nil fun σ H Q q => by
  obtain ⟨G0, H0, G, env, ok, q⟩ := q
  exact q [] G H (Grow.refl ok.gh) .nil
theorem da_cons {e : Expr} {es : List Expr} {f : En → Res PyData} {g : En → Res (List PyData)} (ha : DE X W cm e f) (hr : DA X W cm es g) (hs : starEach (e :: es) X.env = (false, eval e X.env) :: starEach es X.env := by rfl) : DA X W cm (e :: es) (fCons f g) :=
  pa_imp (pa_cons ha hr hs) fun σ H Q q => by
    obtain ⟨G0, H0, G, env, ok, q⟩ := q
    refine tD.go ok ((Res.sat_bind.mp q).imp (fun d _ k v G1 H1 g1 ok1 dp => ?_) fun _ z => z)
    refine tA.go ok1 ((Res.sat_map.mp k).imp (fun ds _ k2 vs G2 H2 g2 ok2 da => ?_) fun _ z => z.grow g1)
    exact k2 (v :: vs) G2 H2 (g1.trans g2) (.cons (dp_mono g2.g _ _ dp) da)
theorem de_tup {es : List Expr} {f : En → Res (List PyData)} {x1} {pos : Pos} (h : DA X W cm es f) : DE X W cm (.Tuple es x1 pos) (fTup f) :=
  pe_imp (pe_tup h) fun σ H Q q => by
    obtain ⟨G0, H0, G, env, ok, q⟩ := q
    refine tA.go ok ((Res.sat_bind.mp q).imp (fun ds _ k vs G1 H1 g1 ok1 da => ?_) fun _ z => z)
    split at k
    · rename_i hl
      refine ⟨by rw [dpAll_length da]; exact le1000 hl, fun p hp => k _ _ _ (g1.trans (Grow.still ok1.gh hp)) (.tup (.inl (.inl upd_same)) (dpAll_mono (same_new (ok1.gh.free hp)) _ _ da))⟩
    · exact k.elim
theorem dl_lst {es : List Expr} {f : En → Res (List PyData)} {pos : Pos} (h : DA X W cm es f) : DL X W cm (.List es pos) (fDsp f) :=
  pe_imp (pe_lst h) fun σ H Q q => by
    obtain ⟨G0, H0, G, env, ok, q⟩ := q
    refine tA.go ok ((Res.sat_bind.mp q).imp (fun ds _ k vs G1 H1 g1 ok1 da => ?_) fun _ z => z)
    split at k
    · rename_i hl
      refine ⟨by rw [dpAll_length da]; exact le1000 hl, fun p hp => k _ vs G1 _ (g1.trans (Grow.fresh ok1.gh hp)) (g1.h.free hp) (ok1.gh.free hp) upd_same da⟩
    · exact k.elim

/-! ### operators -/
def f1 (o : PyData → Res PyData) (f : En → Res PyData) : En → Res PyData := fun env => (f env).bind o
def f2 (o : PyData → PyData → Res PyData) (f g : En → Res PyData) : En → Res PyData := fun env => (f env).bind fun d => (g env).bind fun e => o d e
/-- an operation on values that is one on data -/
def rDat (K : PySem.W.Frag) (o : PyData → PyData → Res PyData) : R2 := fun x y H Q => ∃ G d e r, Same G H ∧ Dp K G x d ∧ Dp K G y e ∧ o d e = .ok r ∧ ∀ v G' H', Grow G H G' H' → Dp K G' v r → Q v H'
def Never {α : Type} (r : Res α) : Prop := ∀ x, r ≠ .ex x
theorem sat_ok {α : Type} {r : Res α} {P : α → Prop} {E : Str → Prop} (n : Never r) (h : r.sat P E) : ∃ a, r = .ok a ∧ P a := by
  cases r with
  | ok a => exact ⟨a, rfl, h⟩
  | ex x => exact absurd rfl (n x)
  | no => exact h.elim
theorem t_op {P : Program} {w : World} {o : PyData → PyData → Res PyData} {K : PySem.W.Frag} {f g : En → Res PyData} (n : ∀ d e, Never (o d e)) {σ : L2.St} {H : Hp} {Q : VK} (q : tD P w K W cm (f2 o f g) σ H Q) :
    tOp (rDat K o) (tD P w K W cm f) (tD P w K W cm g) σ H Q := by
  obtain ⟨G0, H0, G, env, ok, q⟩ := q
  refine tD.go ok ((Res.sat_bind.mp q).imp (fun d _ k v G1 H1 g1 ok1 dp => ?_) fun _ z => z)
  refine tD.go ok1 ((Res.sat_bind.mp k).imp (fun e _ k2 u G2 H2 g2 ok2 dq => ?_) fun _ z => z.grow g1)
  obtain ⟨r, er, k3⟩ := sat_ok (n d e) k2
  exact ⟨G2, d, e, r, ok2.gh, dp_mono g2.g _ _ dp, dq, er, fun z G' H' g' dr => k3 z G' H' ((g1.trans g2).trans g') dr⟩
variable {a b c : Expr} {f g h : En → Res PyData} {pos : Pos}
theorem de_op {op : Operator} {o : PyData → PyData → Res PyData} (ho : OpR X (binaryOp op) (rDat X.K o)) (ha : DE X W cm a f) (hb : DE X W cm b g) (n : ∀ d e, Never (o d e)) : DE X W cm (.BinOp a op b pos) (f2 o f g) :=
  pe_imp (pe_op ho ha hb) fun σ H Q q => t_op n q
theorem de_cmpR {op : CmpOp} {o : PyData → PyData → Res PyData} (ho : OpR X (compareOp op) (rDat X.K o)) (ha : DE X W cm a f) (hb : DE X W cm b g) (hm : behindInMarks op b = false) (n : ∀ d e, Never (o d e)) : DE X W cm (.Compare a [op] [b] pos) (f2 o f g) :=
  pe_imp (pe_cmpR ho ha hb hm) fun σ H Q q => t_op n q
def isB : PyData → Res Bool
  | .bool b => .ok b
  | _ => .no
def fB (f : En → Res PyData) : En → Res Bool := fun env => (f env).bind isB
theorem t_test {P : Program} {w : World} {K : PySem.W.Frag} {f : En → Res PyData} {σ : L2.St} {H : Hp} {Q : Bool → Hp → Prop} (q : tT P w K W cm (fB f) σ H Q) : tD P w K W cm f σ H fun x H' => ∃ k, x = .bl k ∧ Q k H' := by
  obtain ⟨G0, H0, G, env, ok, q⟩ := q
  refine tD.go ok ((Res.sat_bind.mp q).imp (fun d _ k v G1 H1 g1 ok1 dp => ?_) fun _ z => z)
  cases d with
  | bool b =>
    cases dp
    exact ⟨b, rfl, k G1 H1 g1⟩
  | _ => exact k.elim
theorem t_opT {P : Program} {w : World} {o : PyData → PyData → Res PyData} {K : PySem.W.Frag} {f g : En → Res PyData} (n : ∀ d e, Never (o d e)) {σ : L2.St} {H : Hp} {Q : Bool → Hp → Prop} (q : tT P w K W cm (fB (f2 o f g)) σ H Q) :
    tTest (tOp (rDat K o) (tD P w K W cm f) (tD P w K W cm g)) σ H Q := t_op n (t_test q)
theorem dt_cmpR {op : CmpOp} {o : PyData → PyData → Res PyData} (ho : OpR X (compareOp op) (rDat X.K o)) (ha : DE X W cm a f) (hb : DE X W cm b g) (hm : behindInMarks op b = false) (n : ∀ d e, Never (o d e)) : DT X W cm (.Compare a [op] [b] pos) (fB (f2 o f g)) :=
  pt_imp (pt_cmpR ho ha hb hm) fun σ H Q q => t_opT n q
/-- an expression as a test, by its truth -/
def truD : PyData → Res Bool
  | .none => .ok false
  | .bool b => .ok b
  | .int i => .ok (i != 0)
  | .str y => if y.length ≤ sizeLine then .ok ((y.length : Int) != 0) else .no
  | .list ds => .ok (!ds.isEmpty)
  | .tuple ds => .ok (!ds.isEmpty)
  | .dict _ => .no
def fTru (f : En → Res PyData) : En → Res Bool := fun env => (f env).bind truD
theorem dpAll_isEmpty {K : PySem.W.Frag} {G : Hp} {vs : List V} {ds : List PyData} (h : DpAll K G vs ds) : (!ds.isEmpty) = !vs.isEmpty := by
  cases h <;> rfl
theorem truV_of {K : PySem.W.Frag} {G H : Hp} {v : V} {d : PyData} {k : Bool} (gh : Same G H) (h : Dp K G v d) (e : truD d = .ok k) : TruV K v H k := by
  cases d with
  | none => cases h; cases e; rfl
  | bool b => cases h; cases e; rfl
  | int i => cases h; cases e; rfl
  | str y =>
    cases h
    have e : (if y.length ≤ sizeLine then Res.ok ((y.length : Int) != 0) else Res.no) = Res.ok k := e
    split at e
    · rename_i hl; cases e; exact ⟨hl, rfl⟩
    · cases e
  | list ds =>
    cases h with
    | lst hs ha => cases e; exact .inl ⟨_, gh.seq hs, dpAll_isEmpty ha⟩
  | tuple ds =>
    cases h with
    | tup hs ha => cases e; exact .inr (.inl ⟨_, same_t gh hs, dpAll_isEmpty ha⟩)
  | dict _ => cases h
theorem truD_never (d : PyData) : Never (truD d) := fun x e => by
  cases d with
  | str y =>
    have e : (if y.length ≤ sizeLine then Res.ok ((y.length : Int) != 0) else Res.no) = Res.ex x := e
    split at e <;> cases e
  | _ => cases e
theorem dt_e (ha : DE X W cm a f) (he : ∀ whole, isTrue a X.env whole = (do let v ← whole; standAt a.pos; holding [v] (truthy v)) := by intro _; rfl) : DT X W cm a (fTru f) :=
  pt_imp (pt_truth ha he) fun σ H Q q => by
    obtain ⟨G0, H0, G, env, ok, q⟩ := q
    refine tD.go ok ((Res.sat_bind.mp q).imp (fun d _ k v G1 H1 g1 ok1 dp => ?_) fun _ z => z)
    obtain ⟨b, eb, k⟩ := sat_ok (truD_never d) k
    exact ⟨b, truV_of ok1.gh dp eb, k G1 H1 g1⟩
def fTruQ (f : En → Res (Bool × List PyData)) : En → Res Bool := fun env => (f env).map fun q => !q.2.isEmpty
theorem dt_q {f : En → Res (Bool × List PyData)} (ha : DQ X W cm a f) (he : ∀ whole, isTrue a X.env whole = (do let v ← whole; standAt a.pos; holding [v] (truthy v)) := by intro _; rfl) : DT X W cm a (fTruQ f) :=
  pt_imp (pt_truth ha he) fun σ H Q q => by
    obtain ⟨G0, H0, G, env, ok, q⟩ := q
    refine tQ.go ok ((Res.sat_map.mp q).imp (fun d _ k a vs G1 H1 g1 ok1 hs da => ?_) fun _ z => z)
    refine ⟨_, ?_, k G1 H1 g1⟩
    rcases hs.or ok1.gh with hs | hs
    · exact .inl ⟨vs, hs, dpAll_isEmpty da⟩
    · exact .inr (.inl ⟨vs, hs, dpAll_isEmpty da⟩)

/-! ### and, or, not -/
def fAndT (f g : En → Res Bool) : En → Res Bool := fun env => (f env).bind fun b => if b then g env else .ok false
def fOrT (f g : En → Res Bool) : En → Res Bool := fun env => (f env).bind fun b => if b then .ok true else g env
def fNotT (f : En → Res Bool) : En → Res Bool := fun env => (f env).map fun b => !b
variable {rest : List Expr} {p q : En → Res Bool}
theorem dw_and1 (ha : DT X W cm a p) : DW X W cm (.BoolOp .And [a] pos) p := pw_and1 ha
theorem dw_or1 (ha : DT X W cm a p) : DW X W cm (.BoolOp .Or [a] pos) p := pw_or1 ha
theorem dw_and (ha : DT X W cm a p) (hb : DW X W cm (.BoolOp .And (b :: rest) pos) q) : DW X W cm (.BoolOp .And (a :: b :: rest) pos) (fAndT p q) :=
  pw_imp (pw_and ha hb) fun σ H Q h => by
    obtain ⟨G0, H0, G, env, ok, h⟩ := h
    refine tT.go ok ((Res.sat_bind.mp h).imp (fun d _ k G1 H1 g1 ok1 => ?_) fun _ z => z)
    cases d with
    | true =>
      rw [if_pos rfl] at k ⊢
      exact tT.go ok1 (k.imp (fun e _ k2 G2 H2 g2 _ => k2 G2 H2 (g1.trans g2)) fun _ z => z.grow g1)
    | false =>
      rw [if_neg Bool.false_ne_true] at k ⊢
      exact k G1 H1 g1
theorem dw_or (ha : DT X W cm a p) (hb : DW X W cm (.BoolOp .Or (b :: rest) pos) q) : DW X W cm (.BoolOp .Or (a :: b :: rest) pos) (fOrT p q) :=
  pw_imp (pw_or ha hb) fun σ H Q h => by
    obtain ⟨G0, H0, G, env, ok, h⟩ := h
    refine tT.go ok ((Res.sat_bind.mp h).imp (fun d _ k G1 H1 g1 ok1 => ?_) fun _ z => z)
    cases d with
    | true =>
      rw [if_pos rfl] at k ⊢
      exact k G1 H1 g1
    | false =>
      rw [if_neg Bool.false_ne_true] at k ⊢
      exact tT.go ok1 (k.imp (fun e _ k2 G2 H2 g2 _ => k2 G2 H2 (g1.trans g2)) fun _ z => z.grow g1)
theorem dt_w (h : DW X W cm a p) : DT X W cm a p := PW.pt h
theorem dt_not (ha : DT X W cm a p) : DT X W cm (.UnaryOp .Not a pos) (fNotT p) :=
  pt_imp (pt_not ha) fun σ H Q h => by
    obtain ⟨G0, H0, G, env, ok, h⟩ := h
    exact tT.go ok ((Res.sat_map.mp h).imp (fun d _ k G1 H1 g1 ok1 => k G1 H1 g1) fun _ z => z)
/-- as values -/
def fAnd (f g : En → Res PyData) : En → Res PyData := fun env => (f env).bind fun d => (truD d).bind fun b => if b then g env else .ok d
def fOr (f g : En → Res PyData) : En → Res PyData := fun env => (f env).bind fun d => (truD d).bind fun b => if b then .ok d else g env
def fNot (f : En → Res PyData) : En → Res PyData := fun env => (f env).bind fun d => (truD d).map fun b => .bool (!b)
theorem de_one {op} (h : DE X W cm a f) : DE X W cm (.BoolOp op [a] pos) f := pe_one h
theorem de_and (ha : DE X W cm a f) (hb : DE X W cm (.BoolOp .And (b :: rest) pos) g) : DE X W cm (.BoolOp .And (a :: b :: rest) pos) (fAnd f g) :=
  pe_imp (pe_andT ha hb) fun σ H Q h => by
    obtain ⟨G0, H0, G, env, ok, h⟩ := h
    refine tD.go ok ((Res.sat_bind.mp h).imp (fun d _ k v G1 H1 g1 ok1 dp => ?_) fun _ z => z)
    obtain ⟨c, ec, k⟩ := sat_ok (truD_never d) ((Res.sat_bind.mp k).imp (fun _ _ z => z) fun x z => z)
    refine ⟨c, truV_of ok1.gh dp ec, ?_⟩
    cases c with
    | true =>
      rw [if_pos rfl] at k ⊢
      exact tD.go ok1 (k.imp (fun e _ k2 v2 G2 H2 g2 _ dp2 => k2 v2 G2 H2 (g1.trans g2) dp2) fun _ z => z.grow g1)
    | false =>
      rw [if_neg Bool.false_ne_true] at k ⊢
      exact k v G1 H1 g1 dp
theorem de_or (ha : DE X W cm a f) (hb : DE X W cm (.BoolOp .Or (b :: rest) pos) g) : DE X W cm (.BoolOp .Or (a :: b :: rest) pos) (fOr f g) :=
  pe_imp (pe_orT ha hb) fun σ H Q h => by
    obtain ⟨G0, H0, G, env, ok, h⟩ := h
    refine tD.go ok ((Res.sat_bind.mp h).imp (fun d _ k v G1 H1 g1 ok1 dp => ?_) fun _ z => z)
    obtain ⟨c, ec, k⟩ := sat_ok (truD_never d) ((Res.sat_bind.mp k).imp (fun _ _ z => z) fun x z => z)
    refine ⟨c, truV_of ok1.gh dp ec, ?_⟩
    cases c with
    | true =>
      rw [if_pos rfl] at k ⊢
      exact k v G1 H1 g1 dp
    | false =>
      rw [if_neg Bool.false_ne_true] at k ⊢
      exact tD.go ok1 (k.imp (fun e _ k2 v2 G2 H2 g2 _ dp2 => k2 v2 G2 H2 (g1.trans g2) dp2) fun _ z => z.grow g1)
theorem de_not (ha : DE X W cm a f) : DE X W cm (.UnaryOp .Not a pos) (fNot f) :=
  pe_imp (pe_notT ha) fun σ H Q h => by
    obtain ⟨G0, H0, G, env, ok, h⟩ := h
    refine tD.go ok ((Res.sat_bind.mp h).imp (fun d _ k v G1 H1 g1 ok1 dp => ?_) fun _ z => z)
    obtain ⟨c, ec, k⟩ := sat_ok (truD_never d) ((Res.sat_map.mp k).imp (fun _ _ z => z) fun x z => z)
    exact ⟨c, truV_of ok1.gh dp ec, k _ G1 H1 g1 (.bl _)⟩
/-- a if t else b -/
def fIf (p : En → Res Bool) (f g : En → Res PyData) : En → Res PyData := fun env => (p env).bind fun b => if b then f env else g env
theorem de_if (hc : DT X W cm c p) (ha : DE X W cm a f) (hb : DE X W cm b g) : DE X W cm (.IfExp c a b pos) (fIf p f g) :=
  pe_imp (pe_ifExp hc ha hb) fun σ H Q h => by
    obtain ⟨G0, H0, G, env, ok, h⟩ := h
    refine tT.go ok ((Res.sat_bind.mp h).imp (fun d _ k G1 H1 g1 ok1 => ?_) fun _ z => z)
    cases d with
    | true =>
      rw [if_pos rfl] at k ⊢
      exact tD.go ok1 (k.imp (fun e _ k2 v2 G2 H2 g2 _ dp2 => k2 v2 G2 H2 (g1.trans g2) dp2) fun _ z => z.grow g1)
    | false =>
      rw [if_neg Bool.false_ne_true] at k ⊢
      exact tD.go ok1 (k.imp (fun e _ k2 v2 G2 H2 g2 _ dp2 => k2 v2 G2 H2 (g1.trans g2) dp2) fun _ z => z.grow g1)
/-- a op1 b op2 c -/
def fChain (o o' : PyData → PyData → Res PyData) (f g h : En → Res PyData) : En → Res PyData := fun env => (f env).bind fun d => (g env).bind fun e => (o d e).bind fun r => (isB r).bind fun k => if k then (h env).bind fun z => o' e z else .ok (.bool false)
theorem isB_never (d : PyData) : Never (isB d) := fun x e => by cases d <;> cases e
theorem de_chain {op op' : CmpOp} {o o' : PyData → PyData → Res PyData} (ho : OpR X (compareOp op) (rDat X.K o)) (ho' : OpR X (compareOp op') (rDat X.K o')) (ha : DE X W cm a f) (hb : DE X W cm b g) (hc : DE X W cm c h)
    (n : ∀ d e, Never (o d e)) (n' : ∀ d e, Never (o' d e)) (hm : lastMarks [op, op'] [b, c] = false := by with_unfolding_all rfl) : DE X W cm (.Compare a [op, op'] [b, c] pos) (fChain o o' f g h) :=
  pe_imp (pe_chain ho ho' ha hb hc hm) fun σ H Q q => by
    obtain ⟨G0, H0, G, env, ok, q⟩ := q
    refine tD.go ok ((Res.sat_bind.mp q).imp (fun d _ k v G1 H1 g1 ok1 dp => ?_) fun _ z => z)
    refine tD.go ok1 ((Res.sat_bind.mp k).imp (fun e _ k2 u G2 H2 g2 ok2 dq => ?_) fun _ z => z.grow g1)
    obtain ⟨r, er, k3⟩ := sat_ok (n d e) (Res.sat_bind.mp k2)
    obtain ⟨kb, eb, k4⟩ := sat_ok (isB_never r) (Res.sat_bind.mp k3)
    refine ⟨G2, d, e, r, ok2.gh, dp_mono g2.g _ _ dp, dq, er, fun z G3 H3 g3 dr => ?_⟩
    have ok3 := ok2.grow g3
    have g13 := (g1.trans g2).trans g3
    cases r with
    | bool b0 =>
      cases dr
      have e0 : b0 = kb := by cases eb; rfl
      subst e0
      refine ⟨b0, rfl, ?_⟩
      cases b0 with
      | true =>
        rw [if_pos rfl] at k4 ⊢
        refine tD.go ok3 ((Res.sat_bind.mp k4).imp (fun y _ k5 v4 G4 H4 g4 ok4 dz => ?_) fun _ z => z.grow g13)
        obtain ⟨r', er', k6⟩ := sat_ok (n' e y) k5
        exact ⟨G4, e, y, r', ok4.gh, dp_mono (g3.trans g4).g _ _ dq, dz, er', fun z5 G5 H5 g5 d5 => k6 z5 G5 H5 ((g13.trans g4).trans g5) d5⟩
      | false =>
        rw [if_neg Bool.false_ne_true] at k4 ⊢
        exact k4 _ G3 H3 g13 (.bl false)
    | _ => cases eb
end
end GL

/-! # The data layer, part c: operators, subscripts, built-ins on data -/
namespace GL
open PySem PySem.Spec PyProof.Rows L2

def mulOk (i j : Int) : Bool := decide (-(2 ^ 64) < i ∧ i < 2 ^ 64) || decide (-(2 ^ 64) < j ∧ j < 2 ^ 64)
def addD : PyData → PyData → Res PyData
  | .int i, .int j => .ok (.int (i + j))
  | .str x, .str y => if x.length + y.length ≤ sizeLine then .ok (.str (x ++ y)) else .no
  | .tuple xs, .tuple ys => if xs.length + ys.length ≤ sizeLine then .ok (.tuple (xs ++ ys)) else .no
  | _, _ => .no
def subD : PyData → PyData → Res PyData
  | .int i, .int j => .ok (.int (i - j))
  | _, _ => .no
def mulD : PyData → PyData → Res PyData
  | .int i, .int j => if mulOk i j = true then .ok (.int (i * j)) else .no
  | _, _ => .no
def modD : PyData → PyData → Res PyData
  | .int i, .int j => if 0 < j then .ok (.int (i % j)) else .no
  | _, _ => .no
def eqD (d e : PyData) : Res PyData := if (SeqAt.shaped d && SeqAt.shaped e) = true then .ok (.bool (PyData.eqv d e)) else .no
def neD (d e : PyData) : Res PyData := if (SeqAt.shaped d && SeqAt.shaped e) = true then .ok (.bool (!PyData.eqv d e)) else .no
def ltD (d e : PyData) : Res PyData := if (PySem.W.alike d e && decide (d.depth ≤ 64)) = true then (match d with
  | .int _ | .str _ | .tuple _ => .ok (.bool (PySem.W.dataLt d e))
  | _ => .no) else .no
def leD : PyData → PyData → Res PyData
  | .int i, .int j => .ok (.bool (decide (i ≤ j)))
  | _, _ => .no
def gtD : PyData → PyData → Res PyData
  | .int i, .int j => .ok (.bool (decide (j < i)))
  | _, _ => .no
def geD : PyData → PyData → Res PyData
  | .int i, .int j => .ok (.bool (decide (j ≤ i)))
  | _, _ => .no
def inStr (x y : Str) : Bool := !(Builtin.Str.occurrences y x 0 y.length 1).isEmpty
def inD : PyData → PyData → Res PyData
  | d, .list ds => if (SeqAt.shaped d && SeqAt.shaped (.list ds)) = true then .ok (.bool (ds.any fun z => PyData.eqv z d)) else .no
  | d, .tuple ds => if (SeqAt.shaped d && SeqAt.shaped (.tuple ds)) = true then .ok (.bool (ds.any fun z => PyData.eqv z d)) else .no
  | .str x, .str y => .ok (.bool (inStr x y))
  | _, _ => .no
def notB : PyData → Res PyData
  | .bool b => .ok (.bool (!b))
  | _ => .no
def ninD (d e : PyData) : Res PyData := (inD d e).bind notB
def isD : PyData → PyData → Res PyData
  | .none, .none => .ok (.bool true)
  | _, .none => .ok (.bool false)
  | .bool a, .bool b => .ok (.bool (decide (a = b)))
  | _, _ => .no
def isnD (d e : PyData) : Res PyData := (isD d e).bind notB
def ixD : PyData → PyData → Res PyData
  | .list ds, .int i => match atI ds i with
    | some d => .ok d
    | none => .no
  | .tuple ds, .int i => match atI ds i with
    | some d => .ok d
    | none => .no
  | .str z, .int i => if z.length ≤ sizeLine then (match atI z.cps.toList i with
    | some c => .ok (.str ⟨#[c]⟩)
    | none => .no) else .no
  | _, _ => .no
theorem never_ite {α : Type} {c : Prop} [Decidable c] {a b : Res α} (h1 : Never a) (h2 : Never b) : Never (if c then a else b) := by
  split <;> assumption
theorem never_ok {α : Type} (a : α) : Never (Res.ok a) := fun x e => by cases e
theorem never_no {α : Type} : Never (Res.no : Res α) := fun x e => by cases e
theorem addD_never (d e : PyData) : Never (addD d e) := by
  unfold addD
  split <;> first | exact never_ok _ | exact never_no | exact never_ite (never_ok _) never_no
theorem subD_never (d e : PyData) : Never (subD d e) := by unfold subD; split <;> first | exact never_ok _ | exact never_no
theorem mulD_never (d e : PyData) : Never (mulD d e) := by unfold mulD; split <;> first | exact never_no | exact never_ite (never_ok _) never_no
theorem modD_never (d e : PyData) : Never (modD d e) := by unfold modD; split <;> first | exact never_no | exact never_ite (never_ok _) never_no
theorem eqD_never (d e : PyData) : Never (eqD d e) := never_ite (never_ok _) never_no
theorem neD_never (d e : PyData) : Never (neD d e) := never_ite (never_ok _) never_no
theorem ltD_never (d e : PyData) : Never (ltD d e) := never_ite (by split <;> first | exact never_ok _ | exact never_no) never_no
theorem leD_never (d e : PyData) : Never (leD d e) := by unfold leD; split <;> first | exact never_ok _ | exact never_no
theorem gtD_never (d e : PyData) : Never (gtD d e) := by unfold gtD; split <;> first | exact never_ok _ | exact never_no
theorem geD_never (d e : PyData) : Never (geD d e) := by unfold geD; split <;> first | exact never_ok _ | exact never_no
theorem inD_never (d e : PyData) : Never (inD d e) := by unfold inD; split <;> first | exact never_ok _ | exact never_no | exact never_ite (never_ok _) never_no
theorem never_bind {α β : Type} {r : Res α} {f : α → Res β} (h1 : Never r) (h2 : ∀ a, Never (f a)) : Never (r.bind f) := by
  cases r with
  | ok a => exact h2 a
  | ex x => exact absurd rfl (h1 x)
  | no => exact never_no
theorem notB_never (d : PyData) : Never (notB d) := by unfold notB; split <;> first | exact never_ok _ | exact never_no
theorem ninD_never (d e : PyData) : Never (ninD d e) := never_bind (inD_never d e) notB_never
theorem isD_never (d e : PyData) : Never (isD d e) := by unfold isD; split <;> first | exact never_ok _ | exact never_no
theorem isnD_never (d e : PyData) : Never (isnD d e) := never_bind (isD_never d e) notB_never
theorem ixD_never (d e : PyData) : Never (ixD d e) := by
  unfold ixD
  split
  · split <;> first | exact never_ok _ | exact never_no
  · split <;> first | exact never_ok _ | exact never_no
  · exact never_ite (by split <;> first | exact never_ok _ | exact never_no) never_no
  · exact never_no
theorem ok_of_ite {α : Type} {c : Prop} [Decidable c] {a r : α} (h : (if c then Res.ok a else Res.no) = Res.ok r) : c ∧ a = r := by
  split at h
  · rename_i hc; cases h; exact ⟨hc, rfl⟩
  · cases h

section
variable {X : Cx}
theorem op_addD : OpR X (binaryOp .Add) (rDat X.K addD) := by
  intro pins s σ H x y v u Q I rx ry h
  obtain ⟨G, d, e, r, gh, dx, dy, er, q⟩ := h
  unfold addD at er
  split at er
  · cases dx; cases dy; cases er
    exact op_add pins s σ H _ _ v u Q I rx ry ⟨_, _, rfl, rfl, q _ G H (Grow.refl gh) (.int _)⟩
  · cases dx; cases dy
    obtain ⟨hl, rfl⟩ := ok_of_ite er
    exact op_add_str pins s σ H _ _ v u Q I rx ry ⟨_, _, rfl, rfl, hl, q _ G H (Grow.refl gh) (.str _)⟩
  · obtain ⟨hl, rfl⟩ := ok_of_ite er
    cases dx with
    | tup hs ha =>
      cases dy with
      | tup hs' ha' =>
        have l1 := dpAll_length ha
        have l2 := dpAll_length ha'
        refine op_catA pins s σ H _ _ v u Q I rx ry ⟨_, _, _, _, rfl, rfl, same_t gh hs, same_t gh hs', by rw [l1, l2]; exact hl, fun z => ?_, fun _ z => ?_, fun _ _ p hp => ?_⟩
        · subst z; cases ha
          exact q _ G H (Grow.refl gh) (.tup hs' ha')
        · subst z; cases ha'
          rw [List.append_nil] at q
          exact q _ G H (Grow.refl gh) (.tup hs ha)
        · exact q _ _ _ (Grow.still gh hp) (.tup (.inl (.inl upd_same)) (dpAll_app (dpAll_mono (same_new (gh.free hp)) _ _ ha) (dpAll_mono (same_new (gh.free hp)) _ _ ha')))
  · cases er
theorem op_subD : OpR X (binaryOp .Sub) (rDat X.K subD) := by
  intro pins s σ H x y v u Q I rx ry h
  obtain ⟨G, d, e, r, gh, dx, dy, er, q⟩ := h
  unfold subD at er
  split at er
  · cases dx; cases dy; cases er
    exact op_sub pins s σ H _ _ v u Q I rx ry ⟨_, _, rfl, rfl, q _ G H (Grow.refl gh) (.int _)⟩
  · cases er
theorem op_mulD : OpR X (binaryOp .Mult) (rDat X.K mulD) := by
  intro pins s σ H x y v u Q I rx ry h
  obtain ⟨G, d, e, r, gh, dx, dy, er, q⟩ := h
  unfold mulD at er
  split at er
  · cases dx; cases dy
    obtain ⟨hl, rfl⟩ := ok_of_ite er
    unfold mulOk at hl
    rw [Bool.or_eq_true, decide_eq_true_eq, decide_eq_true_eq] at hl
    exact op_mul pins s σ H _ _ v u Q I rx ry ⟨_, _, rfl, rfl, hl, q _ G H (Grow.refl gh) (.int _)⟩
  · cases er
theorem op_modD : OpR X (binaryOp .Mod) (rDat X.K modD) := by
  intro pins s σ H x y v u Q I rx ry h
  obtain ⟨G, d, e, r, gh, dx, dy, er, q⟩ := h
  unfold modD at er
  split at er
  · cases dx; cases dy
    obtain ⟨hl, rfl⟩ := ok_of_ite er
    exact op_mod pins s σ H _ _ v u Q I rx ry ⟨_, _, rfl, rfl, hl, q _ G H (Grow.refl gh) (.int _)⟩
  · cases er
theorem op_eqDat {k : Nat} (hr : Room k X.A) : OpR X (compareOp .Eq) (rDat X.K eqD) := by
  intro pins s σ H x y v u Q I rx ry h
  obtain ⟨G, d, e, r, gh, dx, dy, er, q⟩ := h
  obtain ⟨hl, rfl⟩ := ok_of_ite er
  rw [Bool.and_eq_true] at hl
  exact op_eqD hr.units pins s σ H x y v u Q I rx ry ⟨d, e, dp_mono gh _ _ dx, dp_mono gh _ _ dy, hl.1, hl.2, q _ G H (Grow.refl gh) (.bl _)⟩
theorem op_neDat {k : Nat} (hr : Room k X.A) : OpR X (compareOp .NotEq) (rDat X.K neD) := by
  intro pins s σ H x y v u Q I rx ry h
  obtain ⟨G, d, e, r, gh, dx, dy, er, q⟩ := h
  obtain ⟨hl, rfl⟩ := ok_of_ite er
  rw [Bool.and_eq_true] at hl
  exact op_neD hr.units pins s σ H x y v u Q I rx ry ⟨d, e, dp_mono gh _ _ dx, dp_mono gh _ _ dy, hl.1, hl.2, q _ G H (Grow.refl gh) (.bl _)⟩
theorem op_ltDat {k : Nat} (hr : Room k X.A) : OpR X (compareOp .Lt) (rDat X.K ltD) := by
  intro pins s σ H x y v u Q I rx ry h
  obtain ⟨G, d, e, r, gh, dx, dy, er, q⟩ := h
  have hu := hr.units
  unfold ltD at er
  split at er
  · rename_i hl
    rw [Bool.and_eq_true, decide_eq_true_eq] at hl
    have hm : min d.depth e.depth ≤ d.depth := Nat.min_le_left _ _
    obtain ⟨as, r1⟩ := Dp.reads I d x v (dp_mono gh _ _ dx) rx
    obtain ⟨bs, r2⟩ := Dp.reads I e y u (dp_mono gh _ _ dy) ry
    have fin : d ≠ .none → r = .bool (PySem.W.dataLt d e) → wpAny (model X.prog X.w) X.A (compareOp .Lt v u) (EP X pins σ Q) X.xe s := fun hn e0 => by
      subst e0
      exact PySem.W.rcLt_alike d e X.A s v u as bs r1 r2 hl.1 hn (by omega) X.prog X.w X.xe _ ⟨.bl _, H, I, rfl, q _ G H (Grow.refl gh) (.bl _)⟩
    split at er
    · cases er; exact fin (fun z => by cases z) rfl
    · cases er; exact fin (fun z => by cases z) rfl
    · cases er; exact fin (fun z => by cases z) rfl
    · cases er
  · cases er
theorem op_leDat : OpR X (compareOp .LtE) (rDat X.K leD) := by
  intro pins s σ H x y v u Q I rx ry h
  obtain ⟨G, d, e, r, gh, dx, dy, er, q⟩ := h
  unfold leD at er
  split at er
  · cases dx; cases dy; cases er
    exact op_le pins s σ H _ _ v u Q I rx ry ⟨_, _, rfl, rfl, q _ G H (Grow.refl gh) (.bl _)⟩
  · cases er
theorem op_gtDat : OpR X (compareOp .Gt) (rDat X.K gtD) := by
  intro pins s σ H x y v u Q I rx ry h
  obtain ⟨G, d, e, r, gh, dx, dy, er, q⟩ := h
  unfold gtD at er
  split at er
  · cases dx; cases dy; cases er
    exact op_gt pins s σ H _ _ v u Q I rx ry ⟨_, _, rfl, rfl, q _ G H (Grow.refl gh) (.bl _)⟩
  · cases er
theorem op_geDat : OpR X (compareOp .GtE) (rDat X.K geD) := by
  intro pins s σ H x y v u Q I rx ry h
  obtain ⟨G, d, e, r, gh, dx, dy, er, q⟩ := h
  unfold geD at er
  split at er
  · cases dx; cases dy; cases er
    exact op_ge pins s σ H _ _ v u Q I rx ry ⟨_, _, rfl, rfl, q _ G H (Grow.refl gh) (.bl _)⟩
  · cases er
theorem in65 {k : Nat} (hr : Room k X.A) : X.A.units + 65 < cLine := by have := hr.un; omega
theorem op_inDat {k : Nat} (hr : Room k X.A) : OpR X (compareOp .In) (rDat X.K inD) := by
  intro pins s σ H x y v u Q I rx ry h
  obtain ⟨G, d, e, r, gh, dx, dy, er, q⟩ := h
  have hu := in65 hr
  unfold inD at er
  split at er
  · obtain ⟨hl, rfl⟩ := ok_of_ite er
    rw [Bool.and_eq_true] at hl
    obtain ⟨as, r1⟩ := Dp.reads I _ x v (dp_mono gh _ _ dx) rx
    obtain ⟨bs, r2⟩ := Dp.reads I _ y u (dp_mono gh _ _ dy) ry
    exact SeqAt.in_list_reads r2 r1 (SeqAt.canLay_of_shaped hl.2) (SeqAt.canLay_of_shaped hl.1) (room_in_shaped hl.1 hu) ⟨.bl _, H, I, rfl, q _ G H (Grow.refl gh) (.bl _)⟩
  · obtain ⟨hl, rfl⟩ := ok_of_ite er
    rw [Bool.and_eq_true] at hl
    obtain ⟨as, r1⟩ := Dp.reads I _ x v (dp_mono gh _ _ dx) rx
    obtain ⟨bs, r2⟩ := Dp.reads I _ y u (dp_mono gh _ _ dy) ry
    exact SeqAt.in_tuple_reads r2 r1 (SeqAt.canLay_of_shaped hl.2) (SeqAt.canLay_of_shaped hl.1) (room_in_shaped hl.1 hu) ⟨.bl _, H, I, rfl, q _ G H (Grow.refl gh) (.bl _)⟩
  · cases dx; cases dy; cases er
    exact op_in_str pins s σ H _ _ v u Q I rx ry ⟨_, _, rfl, rfl, q _ G H (Grow.refl gh) (.bl _)⟩
  · cases er
theorem ninD_ok {d e r : PyData} (h : ninD d e = .ok r) : ∃ b, inD d e = .ok (.bool b) ∧ r = .bool (!b) := by
  unfold ninD at h
  cases z : inD d e with
  | ok a =>
    rw [z] at h
    cases a with
    | bool b => exact ⟨b, rfl, by cases h; rfl⟩
    | _ => cases h
  | ex x => rw [z] at h; cases h
  | no => rw [z] at h; cases h
theorem op_ninDat {k : Nat} (hr : Room k X.A) : OpR X (compareOp .NotIn) (rDat X.K ninD) := by
  intro pins s σ H x y v u Q I rx ry h
  obtain ⟨G, d, e, r, gh, dx, dy, er, q⟩ := h
  have hu := in65 hr
  obtain ⟨b, er2, rfl⟩ := ninD_ok er
  clear er
  unfold inD at er2
  have er := er2
  split at er
  · obtain ⟨hl, e0⟩ := ok_of_ite er
    cases e0
    rw [Bool.and_eq_true] at hl
    obtain ⟨as, r1⟩ := Dp.reads I _ x v (dp_mono gh _ _ dx) rx
    obtain ⟨bs, r2⟩ := Dp.reads I _ y u (dp_mono gh _ _ dy) ry
    exact SeqAt.notIn_list_reads r2 r1 (SeqAt.canLay_of_shaped hl.2) (SeqAt.canLay_of_shaped hl.1) (room_in_shaped hl.1 hu) ⟨.bl _, H, I, rfl, q _ G H (Grow.refl gh) (.bl _)⟩
  · obtain ⟨hl, e0⟩ := ok_of_ite er
    cases e0
    rw [Bool.and_eq_true] at hl
    obtain ⟨as, r1⟩ := Dp.reads I _ x v (dp_mono gh _ _ dx) rx
    obtain ⟨bs, r2⟩ := Dp.reads I _ y u (dp_mono gh _ _ dy) ry
    exact SeqAt.notIn_tuple_reads r2 r1 (SeqAt.canLay_of_shaped hl.2) (SeqAt.canLay_of_shaped hl.1) (room_in_shaped hl.1 hu) ⟨.bl _, H, I, rfl, q _ G H (Grow.refl gh) (.bl _)⟩
  · cases dx; cases dy; cases er
    exact op_notin_str pins s σ H _ _ v u Q I rx ry ⟨_, _, rfl, rfl, q _ G H (Grow.refl gh) (.bl _)⟩
  · cases er
theorem dp_isN {K : PySem.W.Frag} {G : Hp} {v : V} {d : PyData} (h : Dp K G v d) : v = .non ↔ d = .none := by
  cases h <;> simp
theorem op_isDat : OpR X (compareOp .Is) (rDat X.K isD) := by
  intro pins s σ H x y v u Q I rx ry h
  obtain ⟨G, d, e, r, gh, dx, dy, er, q⟩ := h
  unfold isD at er
  split at er
  · cases dx; cases dy; cases er
    exact op_isN pins s σ H _ _ v u Q I rx ry ⟨rfl, q _ G H (Grow.refl gh) (.bl _)⟩
  · rename_i hn
    cases dy; cases er
    have e0 : decide (x = V.non) = false := decide_eq_false fun z => hn ((dp_isN dx).mp z)
    refine op_isN pins s σ H _ _ v u Q I rx ry ⟨rfl, ?_⟩
    rw [e0]
    exact q _ G H (Grow.refl gh) (.bl _)
  · cases dx; cases dy; cases er
    exact op_isBl pins s σ H _ _ v u Q I rx ry ⟨_, _, rfl, rfl, q _ G H (Grow.refl gh) (.bl _)⟩
  · cases er
theorem op_isnDat : OpR X (compareOp .IsNot) (rDat X.K isnD) := by
  intro pins s σ H x y v u Q I rx ry h
  obtain ⟨G, d, e, r, gh, dx, dy, er, q⟩ := h
  have e1 : ∃ b, isD d e = .ok (.bool b) ∧ r = .bool (!b) := by
    unfold isnD at er
    cases z : isD d e with
    | ok a =>
      rw [z] at er
      cases a with
      | bool b => exact ⟨b, rfl, by cases er; rfl⟩
      | _ => cases er
    | ex x => rw [z] at er; cases er
    | no => rw [z] at er; cases er
  obtain ⟨b, er2, rfl⟩ := e1
  clear er
  unfold isD at er2
  have er := er2
  split at er
  · cases dx; cases dy; cases er
    exact op_notN pins s σ H _ _ v u Q I rx ry ⟨rfl, q _ G H (Grow.refl gh) (.bl _)⟩
  · rename_i hn
    cases dy; cases er
    have e0 : decide (x = V.non) = false := decide_eq_false fun z => hn ((dp_isN dx).mp z)
    refine op_notN pins s σ H _ _ v u Q I rx ry ⟨rfl, ?_⟩
    rw [e0]
    exact q _ G H (Grow.refl gh) (.bl _)
  · cases dx; cases dy; cases er
    exact op_notBl pins s σ H _ _ v u Q I rx ry ⟨_, _, rfl, rfl, q _ G H (Grow.refl gh) (.bl _)⟩
  · cases er
theorem dpAll_atI {K : PySem.W.Frag} {G : Hp} {vs : List V} {ds : List PyData} {i : Int} {d : PyData} (h : DpAll K G vs ds) (e : atI ds i = some d) : ∃ v, atI vs i = some v ∧ Dp K G v d := by
  unfold atI at e ⊢
  rw [dpAll_length h]
  cases q : ixN ds.length i with
  | none => rw [q] at e; cases e
  | some j =>
    rw [q] at e
    exact dpAll_get h e
theorem ixR_imp {r r' : R2} (h : IxR X r) (i : ∀ x y H Q, r' x y H Q → r x y H Q) : IxR X r' := fun value slice pins s σ H x y v u Q I rx ry q hs => h value slice pins s σ H x y v u Q I rx ry (i _ _ _ _ q) hs
theorem ix_dat : IxR X (rDat X.K ixD) := ixR_imp ix_seq fun x y H Q h => by
  obtain ⟨G, d, e, r, gh, dx, dy, er, q⟩ := h
  unfold ixD at er
  split at er
  · split at er
    · rename_i hd
      cases er
      cases dy
      cases dx with
      | lst hs ha =>
        obtain ⟨z, hz, dz⟩ := dpAll_atI ha hd
        exact .inl ⟨_, _, _, z, rfl, rfl, gh.seq hs, hz, q _ G H (Grow.refl gh) dz⟩
    · cases er
  · split at er
    · rename_i hd
      cases er
      cases dy
      cases dx with
      | tup hs ha =>
        obtain ⟨z, hz, dz⟩ := dpAll_atI ha hd
        exact .inr (.inl ⟨_, _, _, z, rfl, rfl, same_t gh hs, hz, q _ G H (Grow.refl gh) dz⟩)
    · cases er
  · split at er
    · rename_i hl
      split at er
      · rename_i hc
        cases er; cases dy; cases dx
        exact .inr (.inr ⟨_, _, _, rfl, rfl, hl, hc, q _ G H (Grow.refl gh) (.str _)⟩)
      · cases er
    · cases er
  · cases er
end

/-! ### the derivations in short -/
section
variable {X : Cx} {W : WX} {cm : Str → Addr} {a b c : Expr} {f g h : En → Res PyData} {pos : Pos} {k : Nat}
abbrev fAdd := f2 addD
abbrev fSub := f2 subD
abbrev fMul := f2 mulD
abbrev fMod := f2 modD
abbrev fEq := f2 eqD
abbrev fNe := f2 neD
abbrev fLt := f2 ltD
abbrev fLe := f2 leD
abbrev fGt := f2 gtD
abbrev fGe := f2 geD
abbrev fIn := f2 inD
abbrev fNin := f2 ninD
abbrev fIs := f2 isD
abbrev fIsn := f2 isnD
abbrev fIx := f2 ixD
theorem de_add (ha : DE X W cm a f) (hb : DE X W cm b g) : DE X W cm (.BinOp a .Add b pos) (fAdd f g) := de_op op_addD ha hb addD_never
theorem de_sub (ha : DE X W cm a f) (hb : DE X W cm b g) : DE X W cm (.BinOp a .Sub b pos) (fSub f g) := de_op op_subD ha hb subD_never
theorem de_mul (ha : DE X W cm a f) (hb : DE X W cm b g) : DE X W cm (.BinOp a .Mult b pos) (fMul f g) := de_op op_mulD ha hb mulD_never
theorem de_mod (ha : DE X W cm a f) (hb : DE X W cm b g) : DE X W cm (.BinOp a .Mod b pos) (fMod f g) := de_op op_modD ha hb modD_never
theorem de_eq (hr : Room k X.A) (ha : DE X W cm a f) (hb : DE X W cm b g) : DE X W cm (.Compare a [.Eq] [b] pos) (fEq f g) := de_cmpR (op_eqDat hr) ha hb (nomark _) eqD_never
theorem de_ne (hr : Room k X.A) (ha : DE X W cm a f) (hb : DE X W cm b g) : DE X W cm (.Compare a [.NotEq] [b] pos) (fNe f g) := de_cmpR (op_neDat hr) ha hb (nomark _) neD_never
theorem de_lt (hr : Room k X.A) (ha : DE X W cm a f) (hb : DE X W cm b g) : DE X W cm (.Compare a [.Lt] [b] pos) (fLt f g) := de_cmpR (op_ltDat hr) ha hb (nomark _) ltD_never
theorem de_le (ha : DE X W cm a f) (hb : DE X W cm b g) : DE X W cm (.Compare a [.LtE] [b] pos) (fLe f g) := de_cmpR op_leDat ha hb (nomark _) leD_never
theorem de_gt (ha : DE X W cm a f) (hb : DE X W cm b g) : DE X W cm (.Compare a [.Gt] [b] pos) (fGt f g) := de_cmpR op_gtDat ha hb (nomark _) gtD_never
theorem de_ge (ha : DE X W cm a f) (hb : DE X W cm b g) : DE X W cm (.Compare a [.GtE] [b] pos) (fGe f g) := de_cmpR op_geDat ha hb (nomark _) geD_never
theorem de_is (ha : DE X W cm a f) (hb : DE X W cm b g) : DE X W cm (.Compare a [.Is] [b] pos) (fIs f g) := de_cmpR op_isDat ha hb (nomark _) isD_never
theorem de_isn (ha : DE X W cm a f) (hb : DE X W cm b g) : DE X W cm (.Compare a [.IsNot] [b] pos) (fIsn f g) := de_cmpR op_isnDat ha hb (nomark _) isnD_never
theorem de_in (hr : Room k X.A) (ha : DE X W cm a f) (hb : DE X W cm b g) (hm : behindInMarks .In b = false := by with_unfolding_all rfl) : DE X W cm (.Compare a [.In] [b] pos) (fIn f g) := de_cmpR (op_inDat hr) ha hb hm inD_never
theorem de_nin (hr : Room k X.A) (ha : DE X W cm a f) (hb : DE X W cm b g) (hm : behindInMarks .NotIn b = false := by with_unfolding_all rfl) : DE X W cm (.Compare a [.NotIn] [b] pos) (fNin f g) := de_cmpR (op_ninDat hr) ha hb hm ninD_never
theorem dt_eq (hr : Room k X.A) (ha : DE X W cm a f) (hb : DE X W cm b g) : DT X W cm (.Compare a [.Eq] [b] pos) (fB (fEq f g)) := dt_cmpR (op_eqDat hr) ha hb (nomark _) eqD_never
theorem dt_ne (hr : Room k X.A) (ha : DE X W cm a f) (hb : DE X W cm b g) : DT X W cm (.Compare a [.NotEq] [b] pos) (fB (fNe f g)) := dt_cmpR (op_neDat hr) ha hb (nomark _) neD_never
theorem dt_lt (hr : Room k X.A) (ha : DE X W cm a f) (hb : DE X W cm b g) : DT X W cm (.Compare a [.Lt] [b] pos) (fB (fLt f g)) := dt_cmpR (op_ltDat hr) ha hb (nomark _) ltD_never
theorem dt_le (ha : DE X W cm a f) (hb : DE X W cm b g) : DT X W cm (.Compare a [.LtE] [b] pos) (fB (fLe f g)) := dt_cmpR op_leDat ha hb (nomark _) leD_never
theorem dt_gt (ha : DE X W cm a f) (hb : DE X W cm b g) : DT X W cm (.Compare a [.Gt] [b] pos) (fB (fGt f g)) := dt_cmpR op_gtDat ha hb (nomark _) gtD_never
theorem dt_ge (ha : DE X W cm a f) (hb : DE X W cm b g) : DT X W cm (.Compare a [.GtE] [b] pos) (fB (fGe f g)) := dt_cmpR op_geDat ha hb (nomark _) geD_never
theorem dt_is (ha : DE X W cm a f) (hb : DE X W cm b g) : DT X W cm (.Compare a [.Is] [b] pos) (fB (fIs f g)) := dt_cmpR op_isDat ha hb (nomark _) isD_never
theorem dt_isn (ha : DE X W cm a f) (hb : DE X W cm b g) : DT X W cm (.Compare a [.IsNot] [b] pos) (fB (fIsn f g)) := dt_cmpR op_isnDat ha hb (nomark _) isnD_never
theorem dt_in (hr : Room k X.A) (ha : DE X W cm a f) (hb : DE X W cm b g) (hm : behindInMarks .In b = false := by with_unfolding_all rfl) : DT X W cm (.Compare a [.In] [b] pos) (fB (fIn f g)) := dt_cmpR (op_inDat hr) ha hb hm inD_never
theorem dt_nin (hr : Room k X.A) (ha : DE X W cm a f) (hb : DE X W cm b g) (hm : behindInMarks .NotIn b = false := by with_unfolding_all rfl) : DT X W cm (.Compare a [.NotIn] [b] pos) (fB (fNin f g)) := dt_cmpR (op_ninDat hr) ha hb hm ninD_never
theorem de_ix (ha : DE X W cm a f) (hb : DE X W cm b g) (hs : PlainIx b := by exact fun _ _ => rfl) : DE X W cm (.Subscript a b pos) (fIx f g) :=
  pe_imp (pe_ix ix_dat ha hb hs) fun σ H Q q => t_op ixD_never q
theorem de_neg {i : Int} {j p1} : DE X W cm (.UnaryOp .USub (.Constant (.int i) j p1) pos) (fC (.int (-i))) :=
  pe_imp (pe_un un_neg pe_int) fun σ H Q q => by
    obtain ⟨G0, H0, G, env, ok, q⟩ := q
    exact ⟨i, rfl, q _ G H (Grow.refl ok.gh) (.int _)⟩
/-- x in q, x not in q, q[i], of a sequence that may be of one's own -/
def fInQ (f : En → Res PyData) (g : En → Res (Bool × List PyData)) : En → Res PyData := fun env => (f env).bind fun d => (g env).bind fun q => inD d (if q.1 then .tuple q.2 else .list q.2)
def fNinQ (f : En → Res PyData) (g : En → Res (Bool × List PyData)) : En → Res PyData := fun env => (f env).bind fun d => (g env).bind fun q => ninD d (if q.1 then .tuple q.2 else .list q.2)
def fIxQ (f : En → Res (Bool × List PyData)) (g : En → Res PyData) : En → Res PyData := fun env => (f env).bind fun q => (g env).bind fun d => ixD (.list q.2) d
theorem dp_q {K : PySem.W.Frag} {G H : Hp} {q : Bool × List PyData} {a : Addr} {vs : List V} (gh : Same G H) (hs : SqB K q.1 G H a vs) (da : DpAll K G vs q.2) : Dp K H (.ref a) (if q.1 then .tuple q.2 else .list q.2) := by
  obtain ⟨b, ds⟩ := q
  cases b with
  | true => exact .tup (same_t gh hs.t) (dpAll_mono gh _ _ da)
  | false => exact .lst hs.l (dpAll_mono gh _ _ da)
theorem inD_bool {d e r : PyData} (h : inD d e = .ok r) : ∃ b, r = .bool b := by
  unfold inD at h
  split at h
  · exact ⟨_, (ok_of_ite h).2.symm⟩
  · exact ⟨_, (ok_of_ite h).2.symm⟩
  · cases h; exact ⟨_, rfl⟩
  · cases h
theorem t_inQ {P : Program} {w : World} {K : PySem.W.Frag} {o : PyData → PyData → Res PyData} {f : En → Res PyData} {g : En → Res (Bool × List PyData)} (n : ∀ d e, Never (o d e)) (hb : ∀ {d e r}, o d e = .ok r → ∃ b, r = .bool b) {σ : L2.St} {H : Hp} {Q : VK}
    (q : tD P w K W cm (fun env => (f env).bind fun d => (g env).bind fun q => o d (if q.1 then .tuple q.2 else .list q.2)) σ H Q) :
    tOp (rDat K o) (tD P w K W cm f) (tQ P w K W cm g) σ H Q := by
  obtain ⟨G0, H0, G, env, ok, q⟩ := q
  refine tD.go ok ((Res.sat_bind.mp q).imp (fun d _ k v G1 H1 g1 ok1 dp => ?_) fun _ z => z)
  refine tQ.go ok1 ((Res.sat_bind.mp k).imp (fun e _ k2 a vs G2 H2 g2 ok2 hs da => ?_) fun _ z => z.grow g1)
  obtain ⟨r, er, k3⟩ := sat_ok (n d _) k2
  obtain ⟨b0, rfl⟩ := hb er
  refine ⟨H2, d, _, _, Same.refl H2, dp_mono (g2.g.trans ok2.gh) _ _ dp, dp_q ok2.gh hs da, er, fun z G' H' g' dr => ?_⟩
  cases dr
  exact k3 _ G2 H' ((g1.trans g2).trans ⟨g'.h, Same.refl G2, ok2.gh.trans g'.h, fun _ _ => rfl⟩) (.bl b0)
theorem ninD_bool {d e r : PyData} (h : ninD d e = .ok r) : ∃ b, r = .bool b := by
  obtain ⟨b, _, rfl⟩ := ninD_ok h
  exact ⟨_, rfl⟩
variable {gq : En → Res (Bool × List PyData)}
theorem de_inQ (hr : Room k X.A) (ha : DE X W cm a f) (hb : DQ X W cm b gq) (hm : behindInMarks .In b = false := by with_unfolding_all rfl) : DE X W cm (.Compare a [.In] [b] pos) (fInQ f gq) := pe_imp (pe_cmpR (op_inDat hr) ha hb hm) fun σ H Q q => t_inQ inD_never inD_bool q
theorem de_ninQ (hr : Room k X.A) (ha : DE X W cm a f) (hb : DQ X W cm b gq) (hm : behindInMarks .NotIn b = false := by with_unfolding_all rfl) : DE X W cm (.Compare a [.NotIn] [b] pos) (fNinQ f gq) := pe_imp (pe_cmpR (op_ninDat hr) ha hb hm) fun σ H Q q => t_inQ ninD_never ninD_bool q
theorem dt_inQ (hr : Room k X.A) (ha : DE X W cm a f) (hb : DQ X W cm b gq) (hm : behindInMarks .In b = false := by with_unfolding_all rfl) : DT X W cm (.Compare a [.In] [b] pos) (fB (fInQ f gq)) := pt_imp (pt_cmpR (op_inDat hr) ha hb hm) fun σ H Q q => t_inQ inD_never inD_bool (t_test q)
theorem dt_ninQ (hr : Room k X.A) (ha : DE X W cm a f) (hb : DQ X W cm b gq) (hm : behindInMarks .NotIn b = false := by with_unfolding_all rfl) : DT X W cm (.Compare a [.NotIn] [b] pos) (fB (fNinQ f gq)) := pt_imp (pt_cmpR (op_ninDat hr) ha hb hm) fun σ H Q q => t_inQ ninD_never ninD_bool (t_test q)
theorem ixD_list {ds : List PyData} {d r : PyData} (h : ixD (.list ds) d = .ok r) : ∃ i, d = .int i ∧ atI ds i = some r := by
  cases d with
  | int i =>
    have h : (match atI ds i with | some d => Res.ok d | none => Res.no) = Res.ok r := h
    split at h
    · cases h; exact ⟨i, rfl, by assumption⟩
    · cases h
  | _ => cases h
theorem de_ixQ (ha : DQ X W cm a gq) (hb : DE X W cm b g) (hs : PlainIx b := by exact fun _ _ => rfl) : DE X W cm (.Subscript a b pos) (fIxQ gq g) :=
  pe_imp (pe_ix ix_seq ha hb hs) fun σ H Q q => by
    obtain ⟨G0, H0, G, env, ok, q⟩ := q
    refine tQ.go ok ((Res.sat_bind.mp q).imp (fun e _ k a vs G1 H1 g1 ok1 hs da => ?_) fun _ z => z)
    refine tD.go ok1 ((Res.sat_bind.mp k).imp (fun d _ k2 v G2 H2 g2 ok2 dp => ?_) fun _ z => z.grow g1)
    obtain ⟨r, er, k3⟩ := sat_ok (ixD_never _ d) k2
    obtain ⟨i, rfl, hi⟩ := ixD_list er
    obtain ⟨z, hz, dz⟩ := dpAll_atI da hi
    cases dp
    have fin := k3 z G2 H2 (g1.trans g2) (dp_mono g2.g _ _ dz)
    rcases (hs.same g2.g g2.h).or ok2.gh with h1 | h1
    · exact .inl ⟨_, _, _, z, rfl, rfl, h1, hz, fin⟩
    · exact .inr (.inl ⟨_, _, _, z, rfl, rfl, h1, hz, fin⟩)
end
end GL

/-! # The data layer, part d: calls of built-ins, methods of texts, slices, isinstance, calls of defs -/
namespace GL
open PySem PySem.Spec PyProof.Rows L2

def fCall (o : List PyData → Res PyData) (f : En → Res (List PyData)) : En → Res PyData := fun env => (f env).bind o
def rCall (K : PySem.W.Frag) (o : List PyData → Res PyData) : List V → Hp → VK → Prop := fun vs H Q => ∃ G ds r, Same G H ∧ DpAll K G vs ds ∧ o ds = .ok r ∧ ∀ v G' H', Grow G H G' H' → Dp K G' v r → Q v H'
def fCQ (o : Bool × List PyData → Res PyData) (f : En → Res (Bool × List PyData)) : En → Res PyData := fun env => (f env).bind o
def fCQL (o : Bool × List PyData → Res (List PyData)) (f : En → Res (Bool × List PyData)) : En → Res (List PyData) := fun env => (f env).bind o
def rCallQ (K : PySem.W.Frag) (o : Bool × List PyData → Res PyData) : List V → Hp → VK → Prop := fun vs H Q => ∃ G a ws q r, vs = [.ref a] ∧ Same G H ∧ SqB K q.1 G H a ws ∧ DpAll K G ws q.2 ∧ o q = .ok r ∧ ∀ v G' H', Grow G H G' H' → Dp K G' v r → Q v H'
def rCallQL (K : PySem.W.Frag) (o : Bool × List PyData → Res (List PyData)) : List V → Hp → VK → Prop := fun vs H Q => ∃ G a ws q r, vs = [.ref a] ∧ Same G H ∧ SqB K q.1 G H a ws ∧ DpAll K G ws q.2 ∧ o q = .ok r ∧
  ∀ p us G' H', Grow G H G' H' → H p = none → G' p = none → H' p = some (.lst us) → DpAll K G' us r → Q (.ref p) H'
section
variable {X : Cx} {W : WX} {cm : Str → Addr} {x : Str} {p pos : Pos} {e : Expr} {es : List Expr} {id T : String}
theorem t_call {P : Program} {w : World} {K : PySem.W.Frag} {o : List PyData → Res PyData} {f : En → Res (List PyData)} (n : ∀ ds, Never (o ds)) {σ : L2.St} {H : Hp} {Q : VK} (q : tD P w K W cm (fCall o f) σ H Q) : tCB (rCall K o) (tA P w K W cm f) σ H Q := by
  obtain ⟨G0, H0, G, env, ok, q⟩ := q
  refine tA.go ok ((Res.sat_bind.mp q).imp (fun ds _ k vs G1 H1 g1 ok1 da => ?_) fun _ z => z)
  obtain ⟨r, er, k3⟩ := sat_ok (n ds) k
  exact ⟨G1, ds, r, ok1.gh, da, er, fun v G' H' g' dr => k3 v G' H' (g1.trans g') dr⟩
theorem de_callB {o : List PyData → Res PyData} {f : En → Res (List PyData)} (hc : CallR X (.builtin id) (rCall X.K o)) (n : ∀ ds, Never (o ds)) (hg : Gl X x) (hm : X.mg x = none) (hv : bootBuiltins x = some (.builtin id)) (ha : DA X W cm (e :: es) f) (hn : x ≠ "__name__" := by decide) (hdb : (x == ("__debug__" : Str)) = false := by decide)
    (he : starEach (e :: es) X.env = (false, eval e X.env) :: starEach es X.env := by rfl) (hpl : (backTo pos (starEach es X.env)).any (·.1) = false := by rfl) : DE X W cm (.Call (.Name x p) (e :: es) [] pos) (fCall o f) :=
  pe_imp (pe_callB hc hg hm hv ha hn hdb he hpl) fun σ H Q q => t_call n q
theorem de_callTy {o : List PyData → Res PyData} {f : En → Res (List PyData)} (hc : CallR X (.type T) (rCall X.K o)) (n : ∀ ds, Never (o ds)) (hg : Gl X x) (hm : X.mg x = none) (hv : bootBuiltins x = some (.type T)) (ha : DA X W cm (e :: es) f) (hn : x ≠ "__name__" := by decide) (hdb : (x == ("__debug__" : Str)) = false := by decide)
    (he : starEach (e :: es) X.env = (false, eval e X.env) :: starEach es X.env := by rfl) (hpl : (backTo pos (starEach es X.env)).any (·.1) = false := by rfl) : DE X W cm (.Call (.Name x p) (e :: es) [] pos) (fCall o f) :=
  pe_imp (pe_callTy hc hg hm hv ha hn hdb he hpl) fun σ H Q q => t_call n q
theorem t_callQ {P : Program} {w : World} {K : PySem.W.Frag} {o : Bool × List PyData → Res PyData} {f : En → Res (Bool × List PyData)} (n : ∀ ds, Never (o ds)) {σ : L2.St} {H : Hp} {Q : VK} (q : tD P w K W cm (fCQ o f) σ H Q) : tCB (rCallQ K o) (tCons (tQ P w K W cm f) tNil) σ H Q := by
  obtain ⟨G0, H0, G, env, ok, q⟩ := q
  show tQ P w K W cm f σ H fun x H1 => rCallQ K o [x] H1 Q
  refine tQ.go ok ((Res.sat_bind.mp q).imp (fun ds _ k a vs G1 H1 g1 ok1 hs da => ?_) fun _ z => z)
  obtain ⟨r, er, k3⟩ := sat_ok (n ds) k
  exact ⟨G1, a, vs, ds, r, rfl, ok1.gh, hs, da, er, fun v G' H' g' dr => k3 v G' H' (g1.trans g') dr⟩
theorem t_callQL {P : Program} {w : World} {K : PySem.W.Frag} {o : Bool × List PyData → Res (List PyData)} {f : En → Res (Bool × List PyData)} (n : ∀ ds, Never (o ds)) {σ : L2.St} {H : Hp} {Q : VK} (q : tL P w K W cm (fCQL o f) σ H Q) : tCB (rCallQL K o) (tCons (tQ P w K W cm f) tNil) σ H Q := by
  obtain ⟨G0, H0, G, env, ok, q⟩ := q
  show tQ P w K W cm f σ H fun x H1 => rCallQL K o [x] H1 Q
  refine tQ.go ok ((Res.sat_bind.mp q).imp (fun ds _ k a vs G1 H1 g1 ok1 hs da => ?_) fun _ z => z)
  obtain ⟨r, er, k3⟩ := sat_ok (n ds) k
  exact ⟨G1, a, vs, ds, r, rfl, ok1.gh, hs, da, er, fun p us G' H' g' h1 h2 h3 dr => k3 p us G' H' (g1.trans g') (g1.h.free h1) h2 h3 dr⟩
variable {f : En → Res (Bool × List PyData)}
theorem de_callBQ {o : Bool × List PyData → Res PyData} (hc : CallR X (.builtin id) (rCallQ X.K o)) (n : ∀ ds, Never (o ds)) (hg : Gl X x) (hm : X.mg x = none) (hv : bootBuiltins x = some (.builtin id)) (ha : DQ X W cm e f) (hn : x ≠ "__name__" := by decide) (hdb : (x == ("__debug__" : Str)) = false := by decide)
    (he : starEach [e] X.env = [(false, eval e X.env)] := by rfl) : DE X W cm (.Call (.Name x p) [e] [] pos) (fCQ o f) :=
  pe_imp (pe_callB hc hg hm hv (pa_cons ha pa_nil he) hn hdb he rfl) fun σ H Q q => t_callQ n q
theorem de_callTyQ {o : Bool × List PyData → Res PyData} (hc : CallR X (.type T) (rCallQ X.K o)) (n : ∀ ds, Never (o ds)) (hg : Gl X x) (hm : X.mg x = none) (hv : bootBuiltins x = some (.type T)) (ha : DQ X W cm e f) (hn : x ≠ "__name__" := by decide) (hdb : (x == ("__debug__" : Str)) = false := by decide)
    (he : starEach [e] X.env = [(false, eval e X.env)] := by rfl) : DE X W cm (.Call (.Name x p) [e] [] pos) (fCQ o f) :=
  pe_imp (pe_callTy hc hg hm hv (pa_cons ha pa_nil he) hn hdb he rfl) fun σ H Q q => t_callQ n q
theorem dl_callBQ {o : Bool × List PyData → Res (List PyData)} (hc : CallR X (.builtin id) (rCallQL X.K o)) (n : ∀ ds, Never (o ds)) (hg : Gl X x) (hm : X.mg x = none) (hv : bootBuiltins x = some (.builtin id)) (ha : DQ X W cm e f) (hn : x ≠ "__name__" := by decide) (hdb : (x == ("__debug__" : Str)) = false := by decide)
    (he : starEach [e] X.env = [(false, eval e X.env)] := by rfl) : DL X W cm (.Call (.Name x p) [e] [] pos) (fCQL o f) :=
  pe_imp (pe_callB hc hg hm hv (pa_cons ha pa_nil he) hn hdb he rfl) fun σ H Q q => t_callQL n q
theorem dl_callTyQ {o : Bool × List PyData → Res (List PyData)} (hc : CallR X (.type T) (rCallQL X.K o)) (n : ∀ ds, Never (o ds)) (hg : Gl X x) (hm : X.mg x = none) (hv : bootBuiltins x = some (.type T)) (ha : DQ X W cm e f) (hn : x ≠ "__name__" := by decide) (hdb : (x == ("__debug__" : Str)) = false := by decide)
    (he : starEach [e] X.env = [(false, eval e X.env)] := by rfl) : DL X W cm (.Call (.Name x p) [e] [] pos) (fCQL o f) :=
  pe_imp (pe_callTy hc hg hm hv (pa_cons ha pa_nil he) hn hdb he rfl) fun σ H Q q => t_callQL n q
end

/-! ### the built-ins themselves -/
/-- none of the built-in names is bound by the program -/
structure Blt (mg : Str → Option Value) : Prop where
  len : mg "len" = none
  range : mg "range" = none
  tuple : mg "tuple" = none
  list : mg "list" = none
  str : mg "str" = none
  int : mg "int" = none
  bool : mg "bool" = none
  sorted : mg "sorted" = none
  set : mg "set" = none
  all : mg "all" = none
  any : mg "any" = none
  isinstance : mg "isinstance" = none
  zip : mg "zip" = none
  enumerate : mg "enumerate" = none
  sum : mg "sum" = none
  min : mg "min" = none
  dict : mg "dict" = none
  valueError : mg "ValueError" = none

def lenD : List PyData → Res PyData
  | [.str y] => if y.length ≤ sizeLine then .ok (.int y.length) else .no
  | [.list ds] => .ok (.int ds.length)
  | [.tuple ds] => .ok (.int ds.length)
  | _ => .no
def lenQ : Bool × List PyData → Res PyData := fun q => .ok (.int q.2.length)
def strD : List PyData → Res PyData
  | [.int i] => if i.natAbs.log2 < 1920 then .ok (.str (toString i)) else .no
  | _ => .no
def intD : List PyData → Res PyData
  | [.int i] => .ok (.int i)
  | [.bool b] => .ok (.int (if b then 1 else 0))
  | [.str a] => match PySem.intText? a with
    | some n => if a.length ≤ 640 then .ok (.int n) else .no
    | none => .no
  | _ => .no
def tupleQ : Bool × List PyData → Res PyData := fun q => .ok (.tuple q.2)
def listQ : Bool × List PyData → Res (List PyData) := fun q => .ok q.2
def boolsOf : List PyData → Option (List Bool)
  | [] => some []
  | .bool b :: r => (boolsOf r).map fun bs => b :: bs
  | _ => none
def intsOf : List PyData → Option (List Int)
  | [] => some []
  | .int i :: r => (intsOf r).map fun bs => i :: bs
  | _ => none
def strsOf : List PyData → Option (List Str)
  | [] => some []
  | .str x :: r => (strsOf r).map fun bs => x :: bs
  | _ => none
def allQ : Bool × List PyData → Res PyData
  | (false, ds) => match boolsOf ds with
    | some bs => .ok (.bool (bs.all id))
    | none => .no
  | _ => .no
def anyQ : Bool × List PyData → Res PyData
  | (false, ds) => match boolsOf ds with
    | some bs => .ok (.bool (bs.any id))
    | none => .no
  | _ => .no
def sumQ : Bool × List PyData → Res PyData
  | (false, ds) => match intsOf ds with
    | some ns => .ok (.int ns.sum)
    | none => .no
  | _ => .no
/-- the order of data by Python's <, where they are alike -/
def allAlike : List PyData → Bool
  | [] => true
  | d :: ds => (d :: ds).all fun x => (d :: ds).all fun y => PySem.W.alike x y
def sortable (ds : List PyData) : Bool := (ds.all fun d => match d with
  | .tuple (_ :: _) => true
  | _ => false) || ds.all fun d => match d with
  | .none => false
  | .tuple _ => false
  | _ => true
def sortD (ds : List PyData) : List PyData := ds.mergeSort (PySem.W.dataLe false id)
def sortedQ : Bool × List PyData → Res (List PyData)
  | (false, ds) => if (allAlike ds && sortable ds && ds.all fun d => decide (d.depth ≤ 8)) = true then .ok (sortD ds) else .no
  | _ => .no
theorem lenD_never (ds : List PyData) : Never (lenD ds) := by unfold lenD; split <;> first | exact never_ok _ | exact never_no | exact never_ite (never_ok _) never_no
theorem strD_never (ds : List PyData) : Never (strD ds) := by unfold strD; split <;> first | exact never_ok _ | exact never_no | exact never_ite (never_ok _) never_no
theorem intD_never (ds : List PyData) : Never (intD ds) := by
  unfold intD
  split
  · exact never_ok _
  · exact never_ok _
  · split <;> first | exact never_no | exact never_ite (never_ok _) never_no
  · exact never_no
theorem allQ_never (q : Bool × List PyData) : Never (allQ q) := by
  unfold allQ
  split
  · split <;> first | exact never_ok _ | exact never_no
  · exact never_no
theorem anyQ_never (q : Bool × List PyData) : Never (anyQ q) := by
  unfold anyQ
  split
  · split <;> first | exact never_ok _ | exact never_no
  · exact never_no
theorem sumQ_never (q : Bool × List PyData) : Never (sumQ q) := by
  unfold sumQ
  split
  · split <;> first | exact never_ok _ | exact never_no
  · exact never_no
theorem sortedQ_never (q : Bool × List PyData) : Never (sortedQ q) := by
  unfold sortedQ
  split
  · exact never_ite (never_ok _) never_no
  · exact never_no
theorem dp_bools {K : PySem.W.Frag} {G : Hp} : ∀ {ds : List PyData} {vs : List V} {bs : List Bool}, DpAll K G vs ds → boolsOf ds = some bs → vs = bs.map V.bl
  | [], _, _, h, e => by cases h; cases e; rfl
  | .bool b :: r, _, bs, h, e => by
    cases h with
    | cons h1 h2 =>
      cases h1
      unfold boolsOf at e
      cases q : boolsOf r with
      | none => rw [q] at e; cases e
      | some bs' => rw [q] at e; cases e; rw [dp_bools h2 q]; rfl
  | .none :: _, _, _, _, e => by cases e
  | .int _ :: _, _, _, _, e => by cases e
  | .str _ :: _, _, _, _, e => by cases e
  | .list _ :: _, _, _, _, e => by cases e
  | .tuple _ :: _, _, _, _, e => by cases e
  | .dict _ :: _, _, _, _, e => by cases e
theorem dp_ints {K : PySem.W.Frag} {G : Hp} : ∀ {ds : List PyData} {vs : List V} {bs : List Int}, DpAll K G vs ds → intsOf ds = some bs → vs = bs.map V.int
  | [], _, _, h, e => by cases h; cases e; rfl
  | .int b :: r, _, bs, h, e => by
    cases h with
    | cons h1 h2 =>
      cases h1
      unfold intsOf at e
      cases q : intsOf r with
      | none => rw [q] at e; cases e
      | some bs' => rw [q] at e; cases e; rw [dp_ints h2 q]; rfl
  | .none :: _, _, _, _, e => by cases e
  | .bool _ :: _, _, _, _, e => by cases e
  | .str _ :: _, _, _, _, e => by cases e
  | .list _ :: _, _, _, _, e => by cases e
  | .tuple _ :: _, _, _, _, e => by cases e
  | .dict _ :: _, _, _, _, e => by cases e
theorem dp_strs {K : PySem.W.Frag} {G : Hp} : ∀ {ds : List PyData} {vs : List V} {bs : List Str}, DpAll K G vs ds → strsOf ds = some bs → vs = bs.map V.str
  | [], _, _, h, e => by cases h; cases e; rfl
  | .str b :: r, _, bs, h, e => by
    cases h with
    | cons h1 h2 =>
      cases h1
      unfold strsOf at e
      cases q : strsOf r with
      | none => rw [q] at e; cases e
      | some bs' => rw [q] at e; cases e; rw [dp_strs h2 q]; rfl
  | .none :: _, _, _, _, e => by cases e
  | .bool _ :: _, _, _, _, e => by cases e
  | .int _ :: _, _, _, _, e => by cases e
  | .list _ :: _, _, _, _, e => by cases e
  | .tuple _ :: _, _, _, _, e => by cases e
  | .dict _ :: _, _, _, _, e => by cases e
section
variable {X : Cx}
theorem callR_imp {f : Value} {r r' : List V → Hp → VK → Prop} (h : CallR X f r) (i : ∀ xs H Q, r' xs H Q → r xs H Q) : CallR X f r' := fun pins s σ H xs us Q I rv q => h pins s σ H xs us Q I rv (i _ _ _ q)
theorem call_lenD : CallR X (.builtin "len") (rCall X.K lenD) := callR_imp call_len fun xs H Q h => by
  obtain ⟨G, ds, r, gh, da, er, q⟩ := h
  unfold lenD at er
  split at er
  · obtain ⟨hl, rfl⟩ := ok_of_ite er
    cases da with
    | cons d1 d2 => cases d2; cases d1; exact ⟨_, _, rfl, ⟨hl, rfl⟩, q _ G H (Grow.refl gh) (.int _)⟩
  · cases er
    cases da with
    | cons d1 d2 =>
      cases d2
      cases d1 with
      | lst hs ha => exact ⟨_, _, rfl, .inl ⟨_, gh.seq hs, (dpAll_length ha).symm⟩, q _ G H (Grow.refl gh) (.int _)⟩
  · cases er
    cases da with
    | cons d1 d2 =>
      cases d2
      cases d1 with
      | tup hs ha => exact ⟨_, _, rfl, .inr ⟨_, same_t gh hs, (dpAll_length ha).symm⟩, q _ G H (Grow.refl gh) (.int _)⟩
  · cases er
theorem call_lenQ : CallR X (.builtin "len") (rCallQ X.K lenQ) := callR_imp call_len fun xs H Q h => by
  obtain ⟨G, a, ws, qq, r, rfl, gh, hs, da, er, q⟩ := h
  cases er
  refine ⟨_, qq.2.length, rfl, ?_, q _ G H (Grow.refl gh) (.int _)⟩
  rcases hs.or gh with h | h
  · exact .inl ⟨_, h, (dpAll_length da).symm⟩
  · exact .inr ⟨_, h, (dpAll_length da).symm⟩
theorem call_strD : CallR X (.type "str") (rCall X.K strD) := callR_imp call_str_int fun xs H Q h => by
  obtain ⟨G, ds, r, gh, da, er, q⟩ := h
  unfold strD at er
  split at er
  · obtain ⟨hl, rfl⟩ := ok_of_ite er
    cases da with
    | cons d1 d2 => cases d2; cases d1; exact ⟨_, rfl, hl, q _ G H (Grow.refl gh) (.str _)⟩
  · cases er
theorem call_intD : CallR X (.type "int") (rCall X.K intD) := callR_imp (call_int1.or call_int_str) fun xs H Q h => by
  obtain ⟨G, ds, r, gh, da, er, q⟩ := h
  unfold intD at er
  split at er
  · cases er
    cases da with
    | cons d1 d2 => cases d2; cases d1; exact .inl (.inl ⟨_, rfl, q _ G H (Grow.refl gh) (.int _)⟩)
  · cases er
    cases da with
    | cons d1 d2 => cases d2; cases d1; exact .inl (.inr ⟨_, rfl, q _ G H (Grow.refl gh) (.int _)⟩)
  · split at er
    · rename_i hn
      obtain ⟨hl, rfl⟩ := ok_of_ite er
      cases da with
      | cons d1 d2 => cases d2; cases d1; exact .inr ⟨_, _, rfl, hn, hl, q _ G H (Grow.refl gh) (.int _)⟩
    · cases er
  · cases er
theorem call_tupleQ : CallR X (.type "tuple") (rCallQ X.K tupleQ) := callR_imp call_tuple_of fun xs H Q h => by
  obtain ⟨G, a, ws, qq, r, rfl, gh, hs, da, er, q⟩ := h
  cases er
  refine ⟨a, ws, rfl, ?_⟩
  obtain ⟨b, ds⟩ := qq
  cases b with
  | false => exact .inl ⟨hs.l, fun l hl => q _ _ _ (Grow.still gh hl) (.tup (.inl (.inl upd_same)) (dpAll_mono (same_new (gh.free hl)) _ _ da))⟩
  | true =>
    exact .inr ⟨same_t gh hs.t, q _ G H (Grow.refl gh) (.tup hs.t da)⟩
end
end GL

/-! # The data layer, part e: more built-ins, isinstance, slices, methods of texts, calls of defs -/
namespace GL
open PySem PySem.Spec PyProof.Rows L2
section
variable {X : Cx}
theorem call_listQ : CallR X (.type "list") (rCallQL X.K listQ) := callR_imp call_list_of fun xs H Q h => by
  obtain ⟨G, a, ws, qq, r, rfl, gh, hs, da, er, q⟩ := h
  cases er
  exact ⟨a, ws, rfl, hs.or gh, fun l hl => q l ws G _ (Grow.fresh gh hl) hl (gh.free hl) upd_same da⟩
theorem call_allQ (hc : X.calm = true) : CallR X (.builtin "all") (rCallQ X.K allQ) := callR_imp (cr_all hc) fun xs H Q h => by
  obtain ⟨G, a, ws, qq, r, rfl, gh, hs, da, er, q⟩ := h
  unfold allQ at er
  split at er
  · split at er
    · rename_i bs hb
      cases er
      have e := dp_bools da hb
      subst e
      exact ⟨a, bs, rfl, hs.l, q _ G H (Grow.refl gh) (.bl _)⟩
    · cases er
  · cases er
theorem call_anyQ (hc : X.calm = true) : CallR X (.builtin "any") (rCallQ X.K anyQ) := callR_imp (cr_any hc) fun xs H Q h => by
  obtain ⟨G, a, ws, qq, r, rfl, gh, hs, da, er, q⟩ := h
  unfold anyQ at er
  split at er
  · split at er
    · rename_i bs hb
      cases er
      have e := dp_bools da hb
      subst e
      exact ⟨a, bs, rfl, hs.l, q _ G H (Grow.refl gh) (.bl _)⟩
    · cases er
  · cases er
theorem call_sumQ (hc : X.calm = true) : CallR X (.builtin "sum") (rCallQ X.K sumQ) := callR_imp (cr_sum hc) fun xs H Q h => by
  obtain ⟨G, a, ws, qq, r, rfl, gh, hs, da, er, q⟩ := h
  unfold sumQ at er
  split at er
  · split at er
    · rename_i bs hb
      cases er
      have e := dp_ints da hb
      subst e
      exact ⟨a, bs, rfl, hs.l, q _ G H (Grow.refl gh) (.int _)⟩
    · cases er
  · cases er
/-- values that stand for data -/
def Stands (K : PySem.W.Frag) (G : Hp) (u : Value) (d : PyData) : Prop := ∃ x : V, RelV x u ∧ Dp K G x d
theorem stands_each {K : PySem.W.Frag} {G : Hp} : ∀ {vs : List V} {ds : List PyData} {us : List Value}, DpAll K G vs ds → Vals vs us → PySem.W.EachIs (Stands K G) us ds
  | _, _, _, .nil, .nil => .nil
  | _, _, _, .cons d1 d2, .cons r1 r2 => .cons ⟨_, r1, d1⟩ (stands_each d2 r2)
theorem each_stands {K : PySem.W.Frag} {G : Hp} : ∀ {us : List Value} {ds : List PyData}, PySem.W.EachIs (Stands K G) us ds → ∃ vs, Vals vs us ∧ DpAll K G vs ds
  | _, _, .nil => ⟨[], .nil, .nil⟩
  | _, _, .cons ⟨x, r, d⟩ t => by
    obtain ⟨vs, h1, h2⟩ := each_stands t
    exact ⟨x :: vs, .cons r h1, .cons d h2⟩
theorem each_reads {pins : List (Addr × Obj)} {σ : L2.St} {H G : Hp} {s : Shared} (I : L2.Inv X pins σ H s) (gh : Same G H) : ∀ {vs : List V} {ds : List PyData} {us : List Value}, DpAll X.K G vs ds → Vals vs us → PySem.W.EachIs (fun v b => ∃ as, Reads s.heap v (id b) as) us ds
  | _, _, _, .nil, .nil => .nil
  | _, _, _, .cons d1 d2, .cons r1 r2 => .cons (Dp.reads I _ _ _ (dp_mono gh _ _ d1) r1) (each_reads I gh d2 r2)
theorem allAlike_ok {ds : List PyData} (h : allAlike ds = true) : PySem.W.AllAlike (ds.map id) := by
  rw [List.map_id]
  cases ds with
  | nil => exact fun d hd => by cases hd
  | cons d0 r =>
    have h : ((d0 :: r).all fun x => (d0 :: r).all fun y => PySem.W.alike x y) = true := h
    rw [List.all_eq_true] at h
    intro d hd d' hd'
    have h1 := h d hd
    rw [List.all_eq_true] at h1
    exact h1 d' hd'
theorem sortable_ok {ds : List PyData} (h : sortable ds = true) : PySem.W.Sortable (ds.map id) := by
  rw [List.map_id]
  unfold sortable at h
  rw [Bool.or_eq_true, List.all_eq_true, List.all_eq_true] at h
  rcases h with h | h
  · refine .inl fun d hd => ?_
    have q := h d hd
    split at q
    · exact ⟨_, _, rfl⟩
    · cases q
  · refine .inr fun d hd => ?_
    have q := h d hd
    split at q
    · cases q
    · cases q
    · rename_i n1 n2
      exact ⟨n1, fun xs e => n2 xs e⟩
theorem call_sortedQ {k : Nat} (hr : Room k X.A) : CallR X (.builtin "sorted") (rCallQL X.K sortedQ) := by
  intro pins s σ H xs us Q I rv h
  obtain ⟨G, a, ws, qq, r, rfl, gh, hs, da, er, q⟩ := h
  unfold sortedQ at er
  split at er
  · obtain ⟨hl, rfl⟩ := ok_of_ite er
    rw [Bool.and_eq_true, Bool.and_eq_true, List.all_eq_true] at hl
    obtain ⟨⟨h1, h2⟩, h3⟩ := hl
    obtain ⟨its, rw', pl, hz⟩ := I.list hs.l
    rw [Vals.ref1 rv]
    have hun := hr.un
    refine PySem.W.sorted_data (enc := id) pl.isList (stands_each da rw') (each_reads I gh da rw') (allAlike_ok h1) (sortable_ok h2) (by rw [← dpAll_length da]; exact hz) (fun b hb => ?_) fun out hlen ho => ?_
    · have := of_decide_eq_true (h3 b hb)
      show X.A.units + 2 + b.depth < cLine
      omega
    · obtain ⟨vs, hv, dv⟩ := each_stands ho
      obtain ⟨ep, he'⟩ := PyProof.Rows.sortedAll_at s.heap its out.toArray
      have fr := I.hok.fresh (a := s.heap.objs.size + 1) (Nat.le_succ _)
      refine ⟨.ref _, upd H (s.heap.objs.size + 1) (.lst vs), I.laid (t' := s.toks) (fun _ _ => PyProof.Rows.sortedAll_old) (Nat.le_succ _) ⟨?_, out, ep, hv, he'⟩, rfl, ?_⟩
      · rw [hv.length, hlen, ← dpAll_length da]; exact hz
      · exact q _ vs G _ (Grow.fresh gh fr) fr (gh.free fr) upd_same dv
  · cases er
end
section
variable {X : Cx} {W : WX} {cm : Str → Addr} {e : Expr} {p pos : Pos} {f : En → Res PyData} {fq : En → Res (Bool × List PyData)} {k : Nat}
theorem de_len (T : Blt X.mg) (ha : DE X W cm e f) (hg : Gl X "len" := by rfl) (he : starEach [e] X.env = [(false, eval e X.env)] := by rfl) : DE X W cm (.Call (.Name "len" p) [e] [] pos) (fCall lenD (fCons f fNil)) := de_callB call_lenD lenD_never hg T.len PySem.boot_len (da_cons ha da_nil he) (by decide) (by decide) he rfl
theorem de_lenQ (T : Blt X.mg) (ha : DQ X W cm e fq) (hg : Gl X "len" := by rfl) (he : starEach [e] X.env = [(false, eval e X.env)] := by rfl) : DE X W cm (.Call (.Name "len" p) [e] [] pos) (fCQ lenQ fq) := de_callBQ call_lenQ (fun _ => never_ok _) hg T.len PySem.boot_len ha (by decide) (by decide) he
theorem de_strC (T : Blt X.mg) (ha : DE X W cm e f) (hg : Gl X "str" := by rfl) (he : starEach [e] X.env = [(false, eval e X.env)] := by rfl) : DE X W cm (.Call (.Name "str" p) [e] [] pos) (fCall strD (fCons f fNil)) := de_callTy call_strD strD_never hg T.str PyProof.Rows.boot_str (da_cons ha da_nil he) (by decide) (by decide) he rfl
theorem de_intC (T : Blt X.mg) (ha : DE X W cm e f) (hg : Gl X "int" := by rfl) (he : starEach [e] X.env = [(false, eval e X.env)] := by rfl) : DE X W cm (.Call (.Name "int" p) [e] [] pos) (fCall intD (fCons f fNil)) := de_callTy call_intD intD_never hg T.int PyProof.Rows.boot_int (da_cons ha da_nil he) (by decide) (by decide) he rfl
theorem de_tupQ (T : Blt X.mg) (ha : DQ X W cm e fq) (hg : Gl X "tuple" := by rfl) (he : starEach [e] X.env = [(false, eval e X.env)] := by rfl) : DE X W cm (.Call (.Name "tuple" p) [e] [] pos) (fCQ tupleQ fq) := de_callTyQ call_tupleQ (fun _ => never_ok _) hg T.tuple PyProof.Rows.boot_tuple ha (by decide) (by decide) he
theorem dl_listQ (T : Blt X.mg) (ha : DQ X W cm e fq) (hg : Gl X "list" := by rfl) (he : starEach [e] X.env = [(false, eval e X.env)] := by rfl) : DL X W cm (.Call (.Name "list" p) [e] [] pos) (fCQL listQ fq) := dl_callTyQ call_listQ (fun _ => never_ok _) hg T.list PyProof.Rows.boot_list ha (by decide) (by decide) he
theorem de_allQ (T : Blt X.mg) (hc : X.calm = true) (ha : DQ X W cm e fq) (hg : Gl X "all" := by rfl) (he : starEach [e] X.env = [(false, eval e X.env)] := by rfl) : DE X W cm (.Call (.Name "all" p) [e] [] pos) (fCQ allQ fq) := de_callBQ (call_allQ hc) allQ_never hg T.all PyProof.Rows.boot_all ha (by decide) (by decide) he
theorem de_anyQ (T : Blt X.mg) (hc : X.calm = true) (ha : DQ X W cm e fq) (hg : Gl X "any" := by rfl) (he : starEach [e] X.env = [(false, eval e X.env)] := by rfl) : DE X W cm (.Call (.Name "any" p) [e] [] pos) (fCQ anyQ fq) := de_callBQ (call_anyQ hc) anyQ_never hg T.any PyProof.Rows.boot_any ha (by decide) (by decide) he
theorem de_sumQ (T : Blt X.mg) (hc : X.calm = true) (ha : DQ X W cm e fq) (hg : Gl X "sum" := by rfl) (he : starEach [e] X.env = [(false, eval e X.env)] := by rfl) : DE X W cm (.Call (.Name "sum" p) [e] [] pos) (fCQ sumQ fq) := de_callBQ (call_sumQ hc) sumQ_never hg T.sum PyProof.Rows.boot_sum ha (by decide) (by decide) he
theorem dl_sortedQ (T : Blt X.mg) (hr : Room k X.A) (ha : DQ X W cm e fq) (hg : Gl X "sorted" := by rfl) (he : starEach [e] X.env = [(false, eval e X.env)] := by rfl) : DL X W cm (.Call (.Name "sorted" p) [e] [] pos) (fCQL sortedQ fq) := dl_callBQ (call_sortedQ hr) sortedQ_never hg T.sorted PyProof.Rows.boot_sorted ha (by decide) (by decide) he

/-! ### isinstance -/
def tyName : PyData → String
  | .none => "NoneType"
  | .bool _ => "bool"
  | .int _ => "int"
  | .str _ => "str"
  | .list _ => "list"
  | .tuple _ => "tuple"
  | .dict _ => "dict"
/-- the built-in classes that are asked for -/
inductive Ty where
  | int | bool | str | tuple | list
def Ty.name : Ty → String
  | .int => "int"
  | .bool => "bool"
  | .str => "str"
  | .tuple => "tuple"
  | .list => "list"
def isTy : Ty → PyData → Bool
  | .int, .int _ => true
  | .int, .bool _ => true
  | .bool, .bool _ => true
  | .str, .str _ => true
  | .tuple, .tuple _ => true
  | .list, .list _ => true
  | _, _ => false
theorem kit_tab : (["NoneType", "bool", "int", "str", "list", "tuple"].map fun a => [Ty.int, .bool, .str, .tuple, .list].map fun b => kitB a b.name) =
    [[some false, some false, some false, some false, some false], [some true, some true, some false, some false, some false], [some true, some false, some false, some false, some false],
     [some false, some false, some true, some false, some false], [some false, some false, some false, some false, some true], [some false, some false, some false, some true, some false]] := by decide +kernel
theorem kit_isTy {T : Ty} {K : PySem.W.Frag} {G : Hp} {v : V} {d : PyData} (h : Dp K G v d) : kitB (tyName d) T.name = some (isTy T d) := by
  have t := kit_tab
  simp only [List.map_cons, List.map_nil, List.cons.injEq, and_true] at t
  obtain ⟨⟨a1, a2, a3, a4, a5⟩, ⟨b1, b2, b3, b4, b5⟩, ⟨c1, c2, c3, c4, c5⟩, ⟨d1, d2, d3, d4, d5⟩, ⟨e1, e2, e3, e4, e5⟩, f1, f2, f3, f4, f5⟩ := t
  cases h <;> cases T <;> assumption
theorem tyX_of {K : PySem.W.Frag} {G H : Hp} {v : V} {d : PyData} (gh : Same G H) (h : Dp K G v d) : TyX K H v (.type (tyName d)) := by
  cases h with
  | non => exact .base .non
  | bl b => exact .base (.bl b)
  | int i => exact .base (.int i)
  | str x => exact .base (.str x)
  | lst hs _ =>
    rcases gh.seq hs with (h | ⟨o, h⟩) | ⟨o, its, n, h1, h2, _⟩
    · exact .base (.lst h)
    · exact .base (.frz h)
    · exact .kList h1 h2
  | tup hs _ =>
    rcases same_t gh hs with (h | ⟨o, h⟩) | ⟨o, its, n, h1, h2, _⟩
    · exact .base (.tup h)
    · exact .fTuple h
    · exact .kTuple h1 h2
def fIsi (T : Ty) (f : En → Res PyData) : En → Res PyData := fun env => (f env).map fun d => .bool (isTy T d)
theorem de_isi (B : Blt X.mg) (T : Ty) {y : Str} {p2 : Pos} (ha : DE X W cm e f) (hy : PE X (.Name y p2) (tC (.ty T.name))) (hg : Gl X "isinstance" := by rfl)
    (he : starEach [e, .Name y p2] X.env = (false, eval e X.env) :: starEach [.Name y p2] X.env := by rfl) (he2 : starEach [.Name y p2] X.env = [(false, eval (.Name y p2) X.env)] := by rfl) (hpl : (backTo pos (starEach [.Name y p2] X.env)).any (·.1) = false := by rfl) :
    DE X W cm (.Call (.Name "isinstance" p) [e, .Name y p2] [] pos) (fIsi T f) :=
  pe_imp (pe_callB call_isi hg B.isinstance PyProof.Rows.boot_isinstance (pa_cons ha (pa_cons hy pa_nil he2) he) (by decide) (by decide) he hpl) fun σ H Q q => by
    obtain ⟨G0, H0, G, env, ok, q⟩ := q
    show tD X.prog X.w X.K W cm f σ H fun x H1 => rIsi X.K [x, .ty T.name] H1 Q
    refine tD.go ok ((Res.sat_map.mp q).imp (fun d _ k v G1 H1 g1 ok1 dp => ?_) fun _ z => z)
    exact ⟨v, .ty T.name, _, _, _, rfl, .ty _, tyX_of ok1.gh dp, kit_ty (kit_isTy dp), k _ G1 H1 g1 (.bl _)⟩
theorem pe_tyName {y : Str} {T : Ty} {p2 : Pos} (hg : Gl X y) (hm : X.mg y = none) (hv : bootBuiltins y = some (.type T.name)) (hn : y ≠ "__name__" := by decide) (hd : (y == ("__debug__" : Str)) = false := by decide) : PE X (.Name y p2) (tC (.ty T.name)) := pe_bltn (v := .ty T.name) hg hm hv rfl hn hd
theorem ty_int (B : Blt X.mg) {p2 : Pos} (hg : Gl X "int" := by rfl) : PE X (.Name "int" p2) (tC (.ty Ty.int.name)) := pe_tyName (T := .int) hg B.int PyProof.Rows.boot_int
theorem ty_bool (B : Blt X.mg) {p2 : Pos} (hg : Gl X "bool" := by rfl) : PE X (.Name "bool" p2) (tC (.ty Ty.bool.name)) := pe_tyName (T := .bool) hg B.bool PyProof.Rows.boot_bool
theorem ty_str (B : Blt X.mg) {p2 : Pos} (hg : Gl X "str" := by rfl) : PE X (.Name "str" p2) (tC (.ty Ty.str.name)) := pe_tyName (T := .str) hg B.str PyProof.Rows.boot_str
theorem ty_tuple (B : Blt X.mg) {p2 : Pos} (hg : Gl X "tuple" := by rfl) : PE X (.Name "tuple" p2) (tC (.ty Ty.tuple.name)) := pe_tyName (T := .tuple) hg B.tuple PyProof.Rows.boot_tuple
theorem ty_list (B : Blt X.mg) {p2 : Pos} (hg : Gl X "list" := by rfl) : PE X (.Name "list" p2) (tC (.ty Ty.list.name)) := pe_tyName (T := .list) hg B.list PyProof.Rows.boot_list
/-- isinstance(x, (T, U)) -/
def fIsi2 (T U : Ty) (f : En → Res PyData) : En → Res PyData := fun env => (f env).map fun d => .bool (isTy T d || isTy U d)
theorem de_isi2 (B : Blt X.mg) (T U : Ty) {y z : Str} {p2 p3 p4 : Pos} {kk} (ha : DE X W cm e f) (hy : PE X (.Name y p2) (tC (.ty T.name))) (hz : PE X (.Name z p3) (tC (.ty U.name))) (hg : Gl X "isinstance" := by rfl)
    (he : starEach [e, .Tuple [.Name y p2, .Name z p3] kk p4] X.env = (false, eval e X.env) :: starEach [.Tuple [.Name y p2, .Name z p3] kk p4] X.env := by rfl)
    (he2 : starEach [.Tuple [.Name y p2, .Name z p3] kk p4] X.env = [(false, eval (.Tuple [.Name y p2, .Name z p3] kk p4) X.env)] := by rfl) (hpl : (backTo pos (starEach [.Tuple [.Name y p2, .Name z p3] kk p4] X.env)).any (·.1) = false := by rfl)
    (he3 : starEach [.Name y p2, .Name z p3] X.env = (false, eval (.Name y p2) X.env) :: starEach [.Name z p3] X.env := by rfl) (he4 : starEach [.Name z p3] X.env = [(false, eval (.Name z p3) X.env)] := by rfl) :
    DE X W cm (.Call (.Name "isinstance" p) [e, .Tuple [.Name y p2, .Name z p3] kk p4] [] pos) (fIsi2 T U f) :=
  pe_imp (pe_callB call_isiT hg B.isinstance PyProof.Rows.boot_isinstance (pa_cons ha (pa_cons (pe_tup (pa_cons hy (pa_cons hz pa_nil he4) he3)) pa_nil he2) he) (by decide) (by decide) he hpl) fun σ H Q q => by
    obtain ⟨G0, H0, G, env, ok, q⟩ := q
    show tD X.prog X.w X.K W cm f σ H fun x H1 => (2 ≤ sizeLine ∧ ∀ tp, H1 tp = none → rIsiT X.K [x, .ref tp] (upd H1 tp (.tup [.ty T.name, .ty U.name])) Q)
    refine tD.go ok ((Res.sat_map.mp q).imp (fun d _ k v G1 H1 g1 ok1 dp => ?_) fun _ z => z)
    refine ⟨by decide, fun tp hp => ?_⟩
    have gf := Grow.fresh (o := .tup [.ty T.name, .ty U.name]) ok1.gh hp
    refine ⟨v, tp, _, .type (tyName d), [.type T.name, .type U.name], isTy T d || isTy U d, rfl, upd_same, .cons (.ty _) (.cons (.ty _) .nil), tyX_of gf.gh dp, ?_, k _ G1 _ (g1.trans gf) (.bl _)⟩
    have k1 : PySem.W.kitOne X.K (.type (tyName d)) (.type T.name) = some (isTy T d) := kit_ty (kit_isTy dp)
    have k2 : PySem.W.kitOne X.K (.type (tyName d)) (.type U.name) = some (isTy U d) := kit_ty (kit_isTy dp)
    refine kitAny_cons k1 (fun h1 => ?_) (fun h1 => by rw [h1]; rfl)
    rw [h1, Bool.false_or]
    exact kitAny_cons k2 (fun h2 => by rw [h2]; exact kitAny_nil) (fun h2 => h2)

/-! ### slices -/
def tO (P : Program) (w : World) (K : PySem.W.Frag) (W : WX) (cm : Str → Addr) (f : En → Res (Option Int)) : TO := fun σ H Q => ∃ G0 H0 G env, OkG P w K G0 H0 G env σ H ∧ (f env).sat (fun o => ∀ G' H', Grow G H G' H' → Q o H') (exP W cm σ G H)
abbrev DO (X : Cx) (W : WX) (cm : Str → Addr) (e : Option Expr) (f : En → Res (Option Int)) : Prop := PO X e (tO X.prog X.w X.K W cm f)
theorem po_imp {e : Option Expr} {t t' : TO} (h : PO X e t) (i : ∀ σ H Q, t' σ H Q → t σ H Q) : PO X e t' := ⟨fun pins s σ H Q I q => h.run pins s σ H Q I (i σ H Q q)⟩
def asI : PyData → Res (Option Int)
  | .int i => .ok (some i)
  | _ => .no
def fON : En → Res (Option Int) := fun _ => .ok none
def fOS (f : En → Res PyData) : En → Res (Option Int) := fun env => (f env).bind asI
theorem do_n : DO X W cm none fON := po_imp po_none fun σ H Q q => by
  obtain ⟨G0, H0, G, env, ok, q⟩ := q
  exact q G H (Grow.refl ok.gh)
theorem do_s (h : DE X W cm e f) : DO X W cm (some e) (fOS f) := po_imp (po_some h) fun σ H Q q => by
  obtain ⟨G0, H0, G, env, ok, q⟩ := q
  refine tD.go ok ((Res.sat_bind.mp q).imp (fun d _ k v G1 H1 g1 ok1 dp => ?_) fun _ z => z)
  cases d with
  | int i => cases dp; exact ⟨i, rfl, k G1 H1 g1⟩
  | _ => exact k.elim
theorem tO.go {P : Program} {w : World} {K : PySem.W.Frag} {G0 H0 G H : Hp} {env : En} {σ : L2.St} {f : En → Res (Option Int)} {Q : Option Int → Hp → Prop} (ok : OkG P w K G0 H0 G env σ H) (h : (f env).sat (fun b => ∀ G' H', Grow G H G' H' → OkG P w K G0 H0 G' env σ H' → Q b H') (exP W cm σ G H)) : tO P w K W cm f σ H Q :=
  ⟨G0, H0, G, env, ok, h.imp (fun _ _ q G' H' g => q G' H' g (ok.grow g)) fun _ q => q⟩
def cutD (ds : List PyData) (lo hi : Option Int) : List PyData := (ds.drop (HT.sIx ds.length 0 lo)).take (HT.sIx ds.length ds.length hi - HT.sIx ds.length 0 lo)
def slD (d : PyData) (lo hi : Option Int) : Res PyData := match d with
  | .str z => if z.length ≤ sizeLine then .ok (.str (cutS z lo hi)) else .no
  | .tuple ds => .ok (.tuple (cutD ds lo hi))
  | .list ds => .ok (.list (cutD ds lo hi))
  | _ => .no
def fSl (f : En → Res PyData) (lo hi : En → Res (Option Int)) : En → Res PyData := fun env => (f env).bind fun d => (lo env).bind fun l => (hi env).bind fun h => slD d l h
theorem dpAll_cut {K : PySem.W.Frag} {G : Hp} {vs : List V} {ds : List PyData} {lo hi : Option Int} (h : DpAll K G vs ds) : DpAll K G (cutV vs lo hi) (cutD ds lo hi) := by
  unfold cutV cutD
  rw [dpAll_length h]
  exact dpAll_take _ (dpAll_drop _ h)
theorem cutD_whole {ds : List PyData} {lo hi : Option Int} (h : HT.sIx ds.length 0 lo = 0 ∧ HT.sIx ds.length ds.length hi = ds.length) : cutD ds lo hi = ds := by
  unfold cutD
  rw [h.1, h.2, List.drop_zero, Nat.sub_zero, List.take_length]
def rSlDat (K : PySem.W.Frag) : V → Option Int → Option Int → Hp → VK → Prop := fun x lo hi H Q => rSlS x lo hi H Q ∨ rSlA K x lo hi H Q ∨ rSlL K x lo hi H Q
theorem de_sl {lo hi : Option Expr} {fl fh : En → Res (Option Int)} {p2 : Pos} (ha : DE X W cm e f) (hl : DO X W cm lo fl) (hh : DO X W cm hi fh) : DE X W cm (.Subscript e (.Slice lo hi none p2) pos) (fSl f fl fh) :=
  pe_imp (pe_slice (sl_str.or (sl_tupA.or sl_list)) ha hl hh) fun σ H Q q => by
    obtain ⟨G0, H0, G, env, ok, q⟩ := q
    show tD X.prog X.w X.K W cm f σ H fun x H1 => tO X.prog X.w X.K W cm fl σ H1 fun l H2 => tO X.prog X.w X.K W cm fh σ H2 fun u H3 => rSlDat X.K x l u H3 Q
    refine tD.go ok ((Res.sat_bind.mp q).imp (fun d _ k v G1 H1 g1 ok1 dp => ?_) fun _ z => z)
    refine tO.go ok1 ((Res.sat_bind.mp k).imp (fun l _ k G2 H2 g2 ok2 => ?_) fun _ z => z.grow g1)
    refine tO.go ok2 ((Res.sat_bind.mp k).imp (fun u _ k G3 H3 g3 ok3 => ?_) fun _ z => z.grow (g1.trans g2))
    have g := (g1.trans g2).trans g3
    have dp3 := dp_mono (g2.trans g3).g _ _ dp
    cases d with
    | str z =>
      have k : (if z.length ≤ sizeLine then Res.ok (PyData.str (cutS z l u)) else Res.no).sat _ _ := k
      split at k
      · rename_i hl; cases dp; exact .inl ⟨z, rfl, hl, k _ G3 H3 g (.str _)⟩
      · exact k.elim
    | tuple ds =>
      cases dp3 with
      | tup hs ha =>
        refine .inr (.inl ⟨_, _, rfl, same_t ok3.gh hs, fun hw => ?_, fun _ p hp => ?_⟩)
        · rw [dpAll_length ha] at hw
          have k : ∀ (v : V) (G' H' : Hp), Grow G H G' H' → Dp X.K G' v (.tuple (cutD ds l u)) → Q v H' := k
          rw [cutD_whole hw] at k
          exact k _ G3 H3 g (.tup hs ha)
        · exact k _ _ _ (g.trans (Grow.still ok3.gh hp)) (.tup (.inl (.inl upd_same)) (dpAll_mono (same_new (ok3.gh.free hp)) _ _ (dpAll_cut ha)))
    | list ds =>
      cases dp3 with
      | lst hs ha =>
        refine .inr (.inr ⟨_, _, rfl, ok3.gh.seq hs, fun p hp => ?_⟩)
        exact k _ _ _ (g.trans (Grow.still ok3.gh hp)) (.lst (.inl (.inl upd_same)) (dpAll_mono (same_new (ok3.gh.free hp)) _ _ (dpAll_cut ha)))
    | _ => exact k.elim

/-! ### methods of texts -/
def isS : PyData → Res Str
  | .str a => .ok a
  | _ => .no
theorem isS_never (d : PyData) : Never (isS d) := fun x e => by cases d <;> cases e
theorem isS_ok {K : PySem.W.Frag} {G : Hp} {v : V} {d : PyData} {a : Str} (h : Dp K G v d) (e : isS d = .ok a) : v = .str a := by
  cases d with
  | str b => cases e; cases h; rfl
  | _ => cases e
def joinD (a : Str) (q : Bool × List PyData) : Res PyData := match strsOf q.2 with
  | some ys => if (ys.map (·.length)).sum + ys.length * a.length ≤ 16777216 then .ok (.str (Txt.join a ys)) else .no
  | none => .no
def fJoin (f : En → Res PyData) (g : En → Res (Bool × List PyData)) : En → Res PyData := fun env => ((f env).bind isS).bind fun a => (g env).bind fun q => joinD a q
variable {o : Expr} {g : En → Res PyData}
theorem de_join {apos : Pos} (ho : DE X W cm o f) (ha : DQ X W cm e fq) (hs : starEach [e] X.env = [(false, eval e X.env)] := by rfl) (hbase : attributeBase o "join" X.env (eval o X.env) = eval o X.env := by rfl) (hline : (apos.endLine == pos.line) = true := by rfl) :
    DE X W cm (.Call (.Attribute o "join" apos) [e] [] pos) (fJoin f fq) :=
  pe_imp (pe_join ho ha hs hbase hline) fun σ H Q q => by
    obtain ⟨G0, H0, G, env, ok, q⟩ := q
    refine tD.go ok ((Res.sat_bind.mp (Res.sat_bind.mp q)).imp (fun d _ k v G1 H1 g1 ok1 dp => ?_) fun _ z => z)
    obtain ⟨a, ea, k⟩ := sat_ok (isS_never d) k
    have ev := isS_ok dp ea
    subst ev
    refine ⟨⟨a, rfl⟩, ?_⟩
    refine tQ.go ok1 ((Res.sat_bind.mp k).imp (fun qq _ k p vs G2 H2 g2 ok2 hs da => ?_) fun _ z => z.grow g1)
    unfold joinD at k
    split at k
    · rename_i ys hy
      split at k
      · rename_i hl
        have e0 := dp_strs da hy
        subst e0
        exact ⟨a, p, ys, rfl, rfl, hs.or ok2.gh, hl, k _ G2 H2 (g1.trans g2) (.str _)⟩
      · exact k.elim
    · exact k.elim
/-- a method of a text with one text -/
def fSS {α : Type} (o : Str → Str → Res α) (f g : En → Res PyData) : En → Res α := fun env => ((f env).bind isS).bind fun a => ((g env).bind isS).bind fun b => o a b
theorem t_m1 {P : Program} {w : World} {K : PySem.W.Frag} {r : V → List V → Hp → VK → Prop} {f g : En → Res PyData} {σ : L2.St} {H : Hp} {Q : VK} {G0 H0 G : Hp} {env : En} (ok : OkG P w K G0 H0 G env σ H)
    (q : ((f env).bind isS).sat (fun a => ((g env).bind isS).sat (fun b => ∀ G' H', Grow G H G' H' → OkG P w K G0 H0 G' env σ H' → r (.str a) [.str b] H' Q) (exP W cm σ G H)) (exP W cm σ G H)) :
    tM1 r (tD P w K W cm f) (tD P w K W cm g) σ H Q := by
  refine tD.go ok ((Res.sat_bind.mp q).imp (fun d _ k v G1 H1 g1 ok1 dp => ?_) fun _ z => z)
  obtain ⟨a, ea, k⟩ := sat_ok (isS_never d) k
  have ev := isS_ok dp ea
  subst ev
  refine ⟨⟨a, rfl⟩, ?_⟩
  refine tD.go ok1 ((Res.sat_bind.mp k).imp (fun d2 _ k v2 G2 H2 g2 ok2 dp2 => ?_) fun _ z => z.grow g1)
  obtain ⟨b, eb, k⟩ := sat_ok (isS_never d2) k
  have ev := isS_ok dp2 eb
  subst ev
  exact k G2 H2 (g1.trans g2) ok2
def splitS (a b : Str) : Res (List PyData) := if (b.length == 0) = false ∧ a.length + 2 ≤ sizeLine then .ok ((Txt.split a b).map .str) else .no
theorem dpAll_strs {K : PySem.W.Frag} {G : Hp} : ∀ ys : List Str, DpAll K G (ys.map V.str) (ys.map PyData.str)
  | [] => .nil
  | y :: ys => .cons (.str y) (dpAll_strs ys)
theorem dl_split {apos : Pos} (ho : DE X W cm o f) (ha : DE X W cm e g) (hs : starEach [e] X.env = [(false, eval e X.env)] := by rfl) (hbase : attributeBase o "split" X.env (eval o X.env) = eval o X.env := by rfl) (hline : (apos.endLine == pos.line) = true := by rfl) :
    DL X W cm (.Call (.Attribute o "split" apos) [e] [] pos) (fSS splitS f g) :=
  pe_imp (pe_split ho ha hs hbase hline) fun σ H Q q => by
    obtain ⟨G0, H0, G, env, ok, q⟩ := q
    refine t_m1 ok ((Res.sat_bind.mp q).imp (fun a _ k => (Res.sat_bind.mp k).imp (fun b _ k G1 H1 g1 ok1 => ?_) fun _ z => z) fun _ z => z)
    unfold splitS at k
    split at k
    · rename_i hl
      exact ⟨a, b, rfl, rfl, hl.1, hl.2, fun p hp => k p _ G1 _ (g1.trans (Grow.fresh ok1.gh hp)) (g1.h.free hp) (ok1.gh.free hp) upd_same (dpAll_strs _)⟩
    · exact k.elim
def partS (a b : Str) : Res PyData := if (b.length == 0) = false ∧ a.length ≤ sizeLine then .ok (.tuple [.str (Txt.partition a b).1, .str (Txt.partition a b).2.1, .str (Txt.partition a b).2.2]) else .no
theorem de_partition {apos : Pos} (ho : DE X W cm o f) (ha : DE X W cm e g) (hs : starEach [e] X.env = [(false, eval e X.env)] := by rfl) (hbase : attributeBase o "partition" X.env (eval o X.env) = eval o X.env := by rfl) (hline : (apos.endLine == pos.line) = true := by rfl) :
    DE X W cm (.Call (.Attribute o "partition" apos) [e] [] pos) (fSS partS f g) :=
  pe_imp (pe_partition ho ha hs hbase hline) fun σ H Q q => by
    obtain ⟨G0, H0, G, env, ok, q⟩ := q
    refine t_m1 ok ((Res.sat_bind.mp q).imp (fun a _ k => (Res.sat_bind.mp k).imp (fun b _ k G1 H1 g1 ok1 => ?_) fun _ z => z) fun _ z => z)
    unfold partS at k
    split at k
    · rename_i hl
      exact ⟨a, b, rfl, rfl, hl.1, hl.2, fun p hp => k _ _ _ (g1.trans (Grow.still ok1.gh hp)) (.tup (.inl (.inl upd_same)) (.cons (.str _) (.cons (.str _) (.cons (.str _) .nil))))⟩
    · exact k.elim
def countS (a b : Str) : Res PyData := .ok (.int (Txt.count a b))
theorem de_countS {apos : Pos} (ho : DE X W cm o f) (ha : DE X W cm e g) (hs : starEach [e] X.env = [(false, eval e X.env)] := by rfl) (hbase : attributeBase o "count" X.env (eval o X.env) = eval o X.env := by rfl) (hline : (apos.endLine == pos.line) = true := by rfl) :
    DE X W cm (.Call (.Attribute o "count" apos) [e] [] pos) (fSS countS f g) :=
  pe_imp (pe_m1 F.slot_str_count F.type_str_count mt_count ho ha hs hbase hline) fun σ H Q q => by
    obtain ⟨G0, H0, G, env, ok, q⟩ := q
    refine t_m1 ok ((Res.sat_bind.mp q).imp (fun a _ k => (Res.sat_bind.mp k).imp (fun b _ k G1 H1 g1 ok1 => ?_) fun _ z => z) fun _ z => z)
    exact ⟨a, b, rfl, rfl, k _ G1 H1 g1 (.int _)⟩
def upperS (a : Str) : Res PyData := if a.length ≤ 5592405 then .ok (.str (Txt.upper a)) else .no
def fS1 {α : Type} (o : Str → Res α) (f : En → Res PyData) : En → Res α := fun env => ((f env).bind isS).bind o
theorem de_upper {apos : Pos} (ho : DE X W cm o f) (hbase : attributeBase o "upper" X.env (eval o X.env) = eval o X.env := by rfl) (hline : (apos.endLine == pos.line) = true := by rfl) :
    DE X W cm (.Call (.Attribute o "upper" apos) [] [] pos) (fS1 upperS f) :=
  pe_imp (pe_upper ho hbase hline) fun σ H Q q => by
    obtain ⟨G0, H0, G, env, ok, q⟩ := q
    refine tD.go ok ((Res.sat_bind.mp (Res.sat_bind.mp q)).imp (fun d _ k v G1 H1 g1 ok1 dp => ?_) fun _ z => z)
    obtain ⟨a, ea, k⟩ := sat_ok (isS_never d) k
    have ev := isS_ok dp ea
    subst ev
    unfold upperS at k
    split at k
    · rename_i hl
      exact ⟨⟨a, rfl⟩, a, rfl, rfl, hl, k _ G1 H1 g1 (.str _)⟩
    · exact k.elim
end

/-! ### calls of defs -/
/-- a def's promise on data: F tells what comes of the arguments -/
def spD (K : PySem.W.Frag) (cm : Str → Addr) (n : Nat) (F : List PyData → Res PyData) : Sp := fun vs H Q E => vs.length = n ∧ ∃ G ds, Same G H ∧ DpAll K G vs ds ∧
  (F ds).sat (fun d => ∀ v G' H', Grow G H G' H' → Dp K G' v d → Q v H') (fun x => ∀ G' H', Grow G H G' H' → E (.ref (cm x)) none H')
/-- .. a def that hands back a list of its own -/
def spL (K : PySem.W.Frag) (cm : Str → Addr) (n : Nat) (F : List PyData → Res (List PyData)) : Sp := fun vs H Q E => vs.length = n ∧ ∃ G ds, Same G H ∧ DpAll K G vs ds ∧
  (F ds).sat (fun r => ∀ p us G' H', Grow G H G' H' → H p = none → G' p = none → H' p = some (.lst us) → DpAll K G' us r → Q (.ref p) H') (fun x => ∀ G' H', Grow G H G' H' → E (.ref (cm x)) none H')
/-- an argument list of n -/
def Len (n : Nat) (g : En → Res (List PyData)) : Prop := ∀ env ds, g env = .ok ds → ds.length = n
theorem ln_nil : Len 0 fNil := fun env ds h => by cases h; rfl
theorem ln_cons {n : Nat} {f : En → Res PyData} {g : En → Res (List PyData)} (h : Len n g) : Len (n + 1) (fCons f g) := fun env ds q => by
  unfold fCons at q
  cases e1 : f env with
  | ok d =>
    rw [e1] at q
    cases e2 : g env with
    | ok r => rw [e2] at q; cases q; rw [List.length_cons, h env r e2]
    | ex x => rw [e2] at q; cases q
    | no => rw [e2] at q; cases q
  | ex x => rw [e1] at q; cases q
  | no => rw [e1] at q; cases q
section
variable {X : Cx} {W : WX} {cm : Str → Addr} {k : Nat} {f : Addr} {fd : FuncData} {ps : List Str} {x : Str} {p pos : Pos} {e : Expr} {es : List Expr} {n : Nat}
theorem de_call {F : List PyData → Res PyData} {g : En → Res (List PyData)} (Fn : FnOk X.prog X.w X.K X.mg X.base (L2.CX X.prog X.w) k f fd ps (spD X.K cm n F)) (hr : Room k X.A) (hg : Gl X x) (hm : X.mg x = some (.ref f)) (hk : PySem.W.keepIn X.K (.ref f) = true) (hb : Binds X.K fd ps [])
    (tk : Takes X W) (ha : DA X W cm (e :: es) g) (hlen : Len n g) (hdb : (x == ("__debug__" : Str)) = false := by decide) (he : starEach (e :: es) X.env = (false, eval e X.env) :: starEach es X.env := by rfl) (hpl : (backTo pos (starEach es X.env)).any (·.1) = false := by rfl) :
    DE X W cm (.Call (.Name x p) (e :: es) [] pos) (fCall F g) :=
  pe_imp (pe_callS Fn hr hg hm hk hb (fun σ => passAt tk σ) ha hdb he hpl) fun σ H Q q => by
    obtain ⟨G0, H0, G, env, ok, q⟩ := q
    refine tA.go ok ((Res.sat_bind.mp q).imp (fun ds ed k vs G1 H1 g1 ok1 da => ?_) fun _ z => z)
    exact ⟨(dpAll_length da).trans (hlen env ds ed), G1, ds, ok1.gh, da, k.imp (fun d _ k v G' H' g' dp => k v G' H' (g1.trans g') dp) fun y z G' H' g' => z G' H' (g1.trans g')⟩
def fCallL (F : List PyData → Res (List PyData)) (g : En → Res (List PyData)) : En → Res (List PyData) := fun env => (g env).bind F
theorem dl_call {F : List PyData → Res (List PyData)} {g : En → Res (List PyData)} (Fn : FnOk X.prog X.w X.K X.mg X.base (L2.CX X.prog X.w) k f fd ps (spL X.K cm n F)) (hr : Room k X.A) (hg : Gl X x) (hm : X.mg x = some (.ref f)) (hk : PySem.W.keepIn X.K (.ref f) = true) (hb : Binds X.K fd ps [])
    (tk : Takes X W) (ha : DA X W cm (e :: es) g) (hlen : Len n g) (hdb : (x == ("__debug__" : Str)) = false := by decide) (he : starEach (e :: es) X.env = (false, eval e X.env) :: starEach es X.env := by rfl) (hpl : (backTo pos (starEach es X.env)).any (·.1) = false := by rfl) :
    DL X W cm (.Call (.Name x p) (e :: es) [] pos) (fCallL F g) :=
  pe_imp (pe_callS Fn hr hg hm hk hb (fun σ => passAt tk σ) ha hdb he hpl) fun σ H Q q => by
    obtain ⟨G0, H0, G, env, ok, q⟩ := q
    refine tA.go ok ((Res.sat_bind.mp q).imp (fun ds ed k vs G1 H1 g1 ok1 da => ?_) fun _ z => z)
    exact ⟨(dpAll_length da).trans (hlen env ds ed), G1, ds, ok1.gh, da, k.imp (fun d _ k p us G' H' g' h1 h2 h3 dp => k p us G' H' (g1.trans g') (g1.h.free h1) h2 h3 dp) fun y z G' H' g' => z G' H' (g1.trans g')⟩
end
end GL

/-! # The data layer, part f: what is walked, targets, comprehensions -/
namespace GL
open PySem PySem.Spec PyProof.Rows L2

/-! ### what is walked -/
/-- J yields the data ds one by one, while B stands -/
def ItD (K : PySem.W.Frag) (J : It) (B G1 : Hp) (ds : List PyData) : Prop := ∀ (i : Nat) (G H : Hp), Same G1 G → Same B H → Same G H →
  (∀ d, ds[i]? = some d → J.go i H ∧ ∀ x H', J.yld i H x H' → ∃ G', Grow G H G' H' ∧ Dp K G' x d) ∧ (ds.length ≤ i → J.stop i H)
theorem ItD.weak {K : PySem.W.Frag} {J : It} {G1 H1 : Hp} {ds : List PyData} (h : ItD K J G1 G1 ds) : ItD K J H1 G1 ds := fun i G H g _ gh => h i G H g (g.trans gh) gh
section
variable (P : Program) (w : World) (K : PySem.W.Frag) (W : WX) (cm : Str → Addr)
def tI (f : En → Res (List PyData)) : TI := fun σ H R => ∃ G0 H0 G env, OkG P w K G0 H0 G env σ H ∧ (f env).sat (fun ds => ∀ J G' H', Grow G H G' H' → ItD K J H' G' ds → ds.length ≤ sizeLine → R J H') (exP W cm σ G H)
def tF (f : En → Res (List PyData)) : TI := fun σ H R => ∃ G0 H0 G env, OkG P w K G0 H0 G env σ H ∧ (f env).sat (fun ds => ∀ J G' H', Grow G H G' H' → ItD K J G' G' ds → ds.length ≤ sizeLine → R J H') (exP W cm σ G H)
end
abbrev DI (X : Cx) (W : WX) (cm : Str → Addr) (tg e : Expr) (f : En → Res (List PyData)) : Prop := PI X tg e (tI X.prog X.w X.K W cm f)
abbrev DF (X : Cx) (W : WX) (cm : Str → Addr) (tg e : Expr) (f : En → Res (List PyData)) : Prop := PI X tg e (tF X.prog X.w X.K W cm f)
section
variable {X : Cx} {W : WX} {cm : Str → Addr} {tg e : Expr}
theorem pi_imp {t t' : TI} (h : PI X tg e t) (i : ∀ σ H R, t' σ H R → t σ H R) : PI X tg e t' := ⟨fun pins s σ H R I q => h.run pins s σ H R I (i σ H R q)⟩
theorem di_f {f : En → Res (List PyData)} (h : DF X W cm tg e f) : DI X W cm tg e f := pi_imp h fun σ H R q => by
  obtain ⟨G0, H0, G, env, ok, q⟩ := q
  exact ⟨G0, H0, G, env, ok, q.imp (fun ds _ k J G' H' g it hl => k J G' H' g it.weak hl) fun _ z => z⟩
/-- a sequence at hand: the length that the model's own objects have is known -/
theorem pi_seq {t : TE} (h : PE X e t) : PI X tg e (fun σ H R => t σ H fun x H1 => ∃ a xs, x = .ref a ∧ ((SqL X.K H1 a xs ∧ (xs.length ≤ sizeLine → R (Itl X.K a) H1)) ∨ (SqT X.K H1 a xs ∧ (xs.length ≤ sizeLine → R (Itt X.K a) H1)))) := by
  refine ⟨fun pins s σ H R I q => ?_⟩
  refine thn (h.run pins s σ H _ I q) fun v s1 hq => ?_
  obtain ⟨x, H1, I1, r1, a, xs, ex, q1⟩ := hq
  subst ex
  have ev : v = .ref a := r1
  subst ev
  rcases q1 with ⟨hl, q1⟩ | ⟨ht, q1⟩
  · obtain ⟨its, rv, pl, hz⟩ := I1.list hl
    exact wpAny_pyIter_list pl.isList (pi_one (tk := s1.toks) I1 _ (turn_list a _) ⟨_, Heap.get?_push_size _ rfl, rfl, rfl⟩ (q1 hz))
  · obtain ⟨its, rv, pl, hz⟩ := I1.tuple ht
    exact wpAny_pyIter_tuple (show s1.heap.IsTuple a its.toArray from pl) (pi_one (tk := s1.toks) I1 _ (turn_tuple a _) ⟨_, Heap.get?_push_size _ rfl, rfl, rfl⟩ (q1 hz))
theorem itD_seqL {K : PySem.W.Frag} {B G1 : Hp} {a : Addr} {vs : List V} {ds : List PyData} (hB : SqL K B a vs) (da : DpAll K G1 vs ds) : ItD K (Itl K a) B G1 ds := fun i G H g b gh => by
  have hs := b.seq hB
  refine ⟨fun d hd => ?_, fun hl => ⟨vs, hs, by rw [dpAll_length da]; exact hl⟩⟩
  obtain ⟨v, hv, dp⟩ := dpAll_get da hd
  refine ⟨⟨vs, v, hs, hv⟩, fun x H' y => ?_⟩
  obtain ⟨e1, y⟩ := y
  subst e1
  have e2 : x = v := Option.some.inj ((y vs hs).symm.trans hv)
  subst e2
  exact ⟨G, Grow.refl gh, dp_mono g _ _ dp⟩
theorem itD_seqT {K : PySem.W.Frag} {B G1 : Hp} {a : Addr} {vs : List V} {ds : List PyData} (hB : SqT K B a vs) (da : DpAll K G1 vs ds) : ItD K (Itt K a) B G1 ds := fun i G H g b gh => by
  have hs := same_t b hB
  refine ⟨fun d hd => ?_, fun hl => ⟨vs, hs, by rw [dpAll_length da]; exact hl⟩⟩
  obtain ⟨v, hv, dp⟩ := dpAll_get da hd
  refine ⟨⟨vs, v, hs, hv⟩, fun x H' y => ?_⟩
  obtain ⟨e1, y⟩ := y
  subst e1
  have e2 : x = v := Option.some.inj ((y vs hs).symm.trans hv)
  subst e2
  exact ⟨G, Grow.refl gh, dp_mono g _ _ dp⟩
def fSnd (f : En → Res (Bool × List PyData)) : En → Res (List PyData) := fun env => (f env).map Prod.snd
/-- over a sequence that may be of one's own (a comprehension) -/
theorem di_q {f : En → Res (Bool × List PyData)} (h : DQ X W cm e f) : DI X W cm tg e (fSnd f) := pi_imp (pi_seq h) fun σ H R q => by
  obtain ⟨G0, H0, G, env, ok, q⟩ := q
  refine tQ.go ok ((Res.sat_map.mp q).imp (fun qq _ k a vs G1 H1 g1 ok1 hs da => ?_) fun _ z => z)
  refine ⟨a, vs, rfl, ?_⟩
  rcases hs.or ok1.gh with hs | hs
  · exact .inl ⟨hs, fun hl => k _ G1 H1 g1 (itD_seqL hs da) (by rw [← dpAll_length da]; exact hl)⟩
  · exact .inr ⟨hs, fun hl => k _ G1 H1 g1 (itD_seqT hs da) (by rw [← dpAll_length da]; exact hl)⟩
/-- over data: a list, a tuple, a text's signs -/
def signsD (z : Str) : List PyData := z.cps.toList.map fun c => .str ⟨#[c]⟩
def itemsD : PyData → Res (List PyData)
  | .list ds => .ok ds
  | .tuple ds => .ok ds
  | .str z => if z.length ≤ sizeLine then .ok (signsD z) else .no
  | _ => .no
def fItems (f : En → Res PyData) : En → Res (List PyData) := fun env => (f env).bind itemsD
theorem itD_str {K : PySem.W.Frag} {B G1 : Hp} (z : Str) : ItD K (Its z) B G1 (signsD z) := fun i G H g b gh => by
  unfold signsD
  refine ⟨fun d hd => ?_, fun hl => by rw [List.length_map, Array.length_toList] at hl; exact hl⟩
  rw [List.getElem?_map, Array.getElem?_toList] at hd
  cases hc : z.cps[i]? with
  | none => rw [hc] at hd; cases hd
  | some c =>
    rw [hc] at hd
    cases hd
    refine ⟨(Array.getElem?_eq_some_iff.mp hc).1, fun x H' y => ?_⟩
    obtain ⟨e1, c', hc', e2⟩ := y
    subst e1
    rw [hc] at hc'
    cases hc'
    subst e2
    exact ⟨G, Grow.refl gh, .str _⟩
/-- what the three walks of one expression ask, told at once -/
theorem pi_dat {t : TE} (h : PE X e t) : PI X tg e (fun σ H R => t σ H fun x H1 => (∃ a xs, x = .ref a ∧ ((SqL X.K H1 a xs ∧ (xs.length ≤ sizeLine → R (Itl X.K a) H1)) ∨ (SqT X.K H1 a xs ∧ (xs.length ≤ sizeLine → R (Itt X.K a) H1)))) ∨ ∃ z, x = .str z ∧ R (Its z) H1) := by
  refine ⟨fun pins s σ H R I q => ?_⟩
  refine thn (h.run pins s σ H _ I q) fun v s1 hq => ?_
  obtain ⟨x, H1, I1, r1, q1⟩ := hq
  rcases q1 with ⟨a, xs, ex, q1⟩ | ⟨z, ex, q1⟩
  · subst ex
    have ev : v = .ref a := r1
    subst ev
    rcases q1 with ⟨hl, q1⟩ | ⟨ht, q1⟩
    · obtain ⟨its, rv, pl, hz⟩ := I1.list hl
      exact wpAny_pyIter_list pl.isList (pi_one (tk := s1.toks) I1 _ (turn_list a _) ⟨_, Heap.get?_push_size _ rfl, rfl, rfl⟩ (q1 hz))
    · obtain ⟨its, rv, pl, hz⟩ := I1.tuple ht
      exact wpAny_pyIter_tuple (show s1.heap.IsTuple a its.toArray from pl) (pi_one (tk := s1.toks) I1 _ (turn_tuple a _) ⟨_, Heap.get?_push_size _ rfl, rfl, rfl⟩ (q1 hz))
  · subst ex
    obtain ⟨tk, rfl⟩ := r1
    cases hw : z.cps.all (· < 128) with
    | false => exact wpAny_pyIter_wide hw (pi_one (tk := s1.toks) I1 _ (turn_str _ z tk "str_iterator" (.inr rfl)) ⟨_, Heap.get?_push_size _ rfl, rfl, rfl⟩ q1)
    | true => exact wpAny_pyIter_ascii hw (pi_one (tk := s1.toks) I1 _ (turn_str _ z tk "str_ascii_iterator" (.inl rfl)) ⟨_, Heap.get?_push_size _ rfl, rfl, rfl⟩ q1)
theorem df_e {f : En → Res PyData} (h : DE X W cm e f) : DF X W cm tg e (fItems f) := pi_imp (pi_dat h) fun σ H R q => by
  obtain ⟨G0, H0, G, env, ok, q⟩ := q
  refine tD.go ok ((Res.sat_bind.mp q).imp (fun d _ k v G1 H1 g1 ok1 dp => ?_) fun _ z => z)
  cases d with
  | list ds =>
    cases dp with
    | lst hs ha => exact .inl ⟨_, _, rfl, .inl ⟨ok1.gh.seq hs, fun hl => k _ G1 H1 g1 (itD_seqL hs ha) (by rw [← dpAll_length ha]; exact hl)⟩⟩
  | tuple ds =>
    cases dp with
    | tup hs ha => exact .inl ⟨_, _, rfl, .inr ⟨same_t ok1.gh hs, fun hl => k _ G1 H1 g1 (itD_seqT hs ha) (by rw [← dpAll_length ha]; exact hl)⟩⟩
  | str z =>
    cases dp
    have k : (if z.length ≤ sizeLine then Res.ok (signsD z) else Res.no).sat _ _ := k
    split at k
    · rename_i hl
      exact .inr ⟨z, rfl, k _ G1 H1 g1 (itD_str z) (by unfold signsD; rw [List.length_map, Array.length_toList]; exact hl)⟩
    · exact k.elim
  | _ => exact k.elim
/-! ### ranges, zip -/
def upTo (lo : Int) (n : Nat) : List PyData := (List.range n).map fun (i : Nat) => .int (lo + (i : Int))
theorem itD_range {K : PySem.W.Frag} {B G1 : Hp} (lo : Int) (n : Nat) : ItD K (Itr lo n) B G1 (upTo lo n) := fun i G H g b gh => by
  unfold upTo
  refine ⟨fun d hd => ?_, fun hl => by rw [List.length_map, List.length_range] at hl; exact hl⟩
  rw [List.getElem?_map] at hd
  by_cases hi : i < n
  · rw [List.getElem?_range hi] at hd
    cases hd
    refine ⟨hi, fun x H' y => ?_⟩
    obtain ⟨e1, e2⟩ := y
    subst e1; subst e2
    exact ⟨G, Grow.refl gh, .int _⟩
  · rw [List.getElem?_eq_none (by rw [List.length_range]; omega)] at hd; cases hd
def rangeD : List PyData → Res (List PyData)
  | [.int j] => if -(2 ^ 62) ≤ j ∧ j ≤ 16777216 then .ok (upTo 0 j.toNat) else .no
  | [.int i, .int j] => if (-(2 ^ 62) ≤ i ∧ i < 2 ^ 62) ∧ -(2 ^ 62) ≤ j ∧ j < 2 ^ 62 ∧ (j - i).toNat ≤ 16777216 then .ok (upTo i (j - i).toNat) else .no
  | _ => .no
theorem rangeD_never (ds : List PyData) : Never (rangeD ds) := by unfold rangeD; split <;> first | exact never_no | exact never_ite (never_ok _) never_no
def fRange (f : En → Res (List PyData)) : En → Res (List PyData) := fun env => (f env).bind rangeD
theorem upTo_length (lo : Int) (n : Nat) : (upTo lo n).length = n := by unfold upTo; rw [List.length_map, List.length_range]
theorem size24 : (16777216 : Nat) ≤ sizeLine := by decide
theorem df_range1 (T : Blt X.mg) {f : En → Res PyData} {p pos : Pos} (ha : DE X W cm e f) (hg : Gl X "range" := by rfl) (hs : starEach [e] X.env = [(false, eval e X.env)] := by rfl) : DF X W cm tg (.Call (.Name "range" p) [e] [] pos) (fRange (fCons f fNil)) :=
  pi_imp (pi_range1 hg T.range (da_cons ha da_nil hs) hs) fun σ H R q => by
    obtain ⟨G0, H0, G, env, ok, q⟩ := q
    refine tA.go ok ((Res.sat_bind.mp q).imp (fun ds _ k vs G1 H1 g1 ok1 da => ?_) fun _ z => z)
    obtain ⟨r, er, k⟩ := sat_ok (rangeD_never ds) k
    have hlen := ln_cons (f := f) ln_nil env ds (by assumption)
    match ds, hlen, da, er with
    | [d], _, .cons d1 .nil, er =>
      cases d with
      | int j =>
        cases d1
        have er : (if -(2 ^ 62) ≤ j ∧ j ≤ 16777216 then Res.ok (upTo 0 j.toNat) else Res.no) = Res.ok r := er
        obtain ⟨hb, rfl⟩ := ok_of_ite er
        refine ⟨j, rfl, hb.1, by omega, k _ G1 H1 g1 (itD_range 0 _) ?_⟩
        rw [upTo_length]
        exact Nat.le_trans (by omega) size24
      | _ => cases er
theorem df_range2 (T : Blt X.mg) {e2 : Expr} {f g : En → Res PyData} {p pos : Pos} (ha : DE X W cm e f) (hb : DE X W cm e2 g) (hg : Gl X "range" := by rfl) (hs : starEach [e, e2] X.env = [(false, eval e X.env), (false, eval e2 X.env)] := by rfl) (hs2 : starEach [e2] X.env = [(false, eval e2 X.env)] := by rfl)
    (hs3 : starEach [e, e2] X.env = (false, eval e X.env) :: starEach [e2] X.env := by rfl) : DF X W cm tg (.Call (.Name "range" p) [e, e2] [] pos) (fRange (fCons f (fCons g fNil))) :=
  pi_imp (pi_range2 hg T.range (da_cons ha (da_cons hb da_nil hs2) hs3) hs hs2) fun σ H R q => by
    obtain ⟨G0, H0, G, env, ok, q⟩ := q
    refine tA.go ok ((Res.sat_bind.mp q).imp (fun ds _ k vs G1 H1 g1 ok1 da => ?_) fun _ z => z)
    obtain ⟨r, er, k⟩ := sat_ok (rangeD_never ds) k
    have hlen := ln_cons (f := f) (ln_cons (f := g) ln_nil) env ds (by assumption)
    match ds, hlen, da, er with
    | [d, d'], _, .cons d1 (.cons d2 .nil), er =>
      cases d with
      | int i =>
        cases d' with
        | int j =>
          cases d1; cases d2
          have er : (if (-(2 ^ 62) ≤ i ∧ i < 2 ^ 62) ∧ -(2 ^ 62) ≤ j ∧ j < 2 ^ 62 ∧ (j - i).toNat ≤ 16777216 then Res.ok (upTo i (j - i).toNat) else Res.no) = Res.ok r := er
          obtain ⟨hb, rfl⟩ := ok_of_ite er
          refine ⟨i, j, rfl, ⟨hb.1.1, hb.1.2, hb.2.1, hb.2.2.1⟩, k _ G1 H1 g1 (itD_range i _) ?_⟩
          rw [upTo_length]
          exact Nat.le_trans hb.2.2.2 size24
        | _ => cases er
      | _ => cases er
def zipL : List PyData → List PyData → List PyData
  | d :: ds, e :: es => .tuple [d, e] :: zipL ds es
  | _, _ => []
theorem zipL_get : ∀ (ds es : List PyData) (i : Nat), (zipL ds es)[i]? = (match ds[i]?, es[i]? with
    | some d, some e => some (.tuple [d, e])
    | _, _ => none)
  | [], es, i => by simp [zipL]
  | d :: ds, [], i => by simp [zipL]
  | d :: ds, e :: es, 0 => rfl
  | d :: ds, e :: es, i + 1 => by
    show (zipL ds es)[i]? = _
    rw [zipL_get ds es i]
    rfl
theorem zipL_length : ∀ (ds es : List PyData), (zipL ds es).length = min ds.length es.length
  | [], es => by simp [zipL]
  | d :: ds, [] => by simp [zipL]
  | d :: ds, e :: es => by
    show (zipL ds es).length + 1 = _
    rw [zipL_length ds es, List.length_cons, List.length_cons]
    omega
def zipD : List PyData → Res (List PyData)
  | [.list ds, .list es] => if ds.length ≤ sizeLine then .ok (zipL ds es) else .no
  | [.tuple ds, .tuple es] => if ds.length ≤ sizeLine then .ok (zipL ds es) else .no
  | _ => .no
theorem zipD_never (ds : List PyData) : Never (zipD ds) := by unfold zipD; split <;> first | exact never_no | exact never_ite (never_ok _) never_no
def fZip (f : En → Res (List PyData)) : En → Res (List PyData) := fun env => (f env).bind zipD
theorem pair_new {K : PySem.W.Frag} {G G1 H : Hp} {T : Addr} {x y : V} {d e : PyData} (g : Same G1 G) (gh : Same G H) (hT : H T = none) (dx : Dp K G1 x d) (dy : Dp K G1 y e) : ∃ G', Grow G H G' (upd H T (.tup [x, y])) ∧ Dp K G' (.ref T) (.tuple [d, e]) :=
  ⟨_, Grow.still gh hT, .tup (.inl (.inl upd_same)) (.cons (dp_mono (g.trans (same_new (gh.free hT))) _ _ dx) (.cons (dp_mono (g.trans (same_new (gh.free hT))) _ _ dy) .nil))⟩
theorem itD_zipL {K : PySem.W.Frag} {G1 : Hp} {a b : Addr} {vs us : List V} {ds es : List PyData} (ha : SqL K G1 a vs) (hb : SqL K G1 b us) (da : DpAll K G1 vs ds) (db : DpAll K G1 us es) : ItD K (Itz K a b) G1 G1 (zipL ds es) := fun i G H g b' gh => by
  have h1 := b'.seq ha
  have h2 := b'.seq hb
  refine ⟨fun d hd => ?_, fun hl => ⟨vs, us, h1, h2, ?_⟩⟩
  · rw [zipL_get] at hd
    cases e1 : ds[i]? with
    | none => rw [e1] at hd; cases hd
    | some d1 =>
      cases e2 : es[i]? with
      | none => rw [e1, e2] at hd; cases hd
      | some d2 =>
        rw [e1, e2] at hd; cases hd
        obtain ⟨x, hx, dx⟩ := dpAll_get da e1
        obtain ⟨y, hy, dy⟩ := dpAll_get db e2
        refine ⟨⟨vs, us, x, y, h1, h2, hx, hy⟩, fun v H' z => ?_⟩
        obtain ⟨T, x', y', rfl, hT, rfl, q1, q2⟩ := z
        have ex : x' = x := Option.some.inj ((q1 vs h1).symm.trans hx)
        have ey : y' = y := Option.some.inj ((q2 us h2).symm.trans hy)
        subst ex; subst ey
        exact pair_new g gh hT dx dy
  · rw [zipL_length] at hl
    rw [dpAll_length da, dpAll_length db]
    omega
theorem itD_zipT {K : PySem.W.Frag} {G1 : Hp} {a b : Addr} {vs us : List V} {ds es : List PyData} (ha : SqT K G1 a vs) (hb : SqT K G1 b us) (da : DpAll K G1 vs ds) (db : DpAll K G1 us es) : ItD K (RZ.ItzT K a b) G1 G1 (zipL ds es) := fun i G H g b' gh => by
  have h1 := same_t b' ha
  have h2 := same_t b' hb
  refine ⟨fun d hd => ?_, fun hl => ⟨vs, us, h1, h2, ?_⟩⟩
  · rw [zipL_get] at hd
    cases e1 : ds[i]? with
    | none => rw [e1] at hd; cases hd
    | some d1 =>
      cases e2 : es[i]? with
      | none => rw [e1, e2] at hd; cases hd
      | some d2 =>
        rw [e1, e2] at hd; cases hd
        obtain ⟨x, hx, dx⟩ := dpAll_get da e1
        obtain ⟨y, hy, dy⟩ := dpAll_get db e2
        refine ⟨⟨vs, us, x, y, h1, h2, hx, hy⟩, fun v H' z => ?_⟩
        obtain ⟨T, x', y', rfl, hT, rfl, q1, q2⟩ := z
        have ex : x' = x := Option.some.inj ((q1 vs h1).symm.trans hx)
        have ey : y' = y := Option.some.inj ((q2 us h2).symm.trans hy)
        subst ex; subst ey
        exact pair_new g gh hT dx dy
  · rw [zipL_length] at hl
    rw [dpAll_length da, dpAll_length db]
    omega
theorem df_zip (T : Blt X.mg) {e2 : Expr} {f : En → Res (List PyData)} {p pos tpos : Pos} {elts : List Expr} {kk : Nat} (ha : DA X W cm [e, e2] f) (hg : Gl X "zip" := by rfl) (hs : starEach [e, e2] X.env = (false, eval e X.env) :: starEach [e2] X.env := by rfl) (hpl : (backTo pos (starEach [e2] X.env)).any (·.1) = false := by rfl) :
    DF X W cm (.Tuple elts kk tpos) (.Call (.Name "zip" p) [e, e2] [] pos) (fZip f) :=
  pi_imp (RZ.pi_zipA hg T.zip ha hs hpl) fun σ H R q => by
    obtain ⟨G0, H0, G, env, ok, q⟩ := q
    refine tA.go ok ((Res.sat_bind.mp q).imp (fun ds _ k vs G1 H1 g1 ok1 da => ?_) fun _ z => z)
    unfold zipD at k
    split at k
    · split at k
      · rename_i hl
        match da with
        | .cons (.lst h1 a1) (.cons (.lst h2 a2) .nil) =>
          refine ⟨_, _, _, _, rfl, .inl ⟨ok1.gh.seq h1, ok1.gh.seq h2, k _ G1 H1 g1 (itD_zipL h1 h2 a1 a2) ?_⟩⟩
          rw [zipL_length]
          omega
      · exact k.elim
    · split at k
      · rename_i hl
        match da with
        | .cons (.tup h1 a1) (.cons (.tup h2 a2) .nil) =>
          refine ⟨_, _, _, _, rfl, .inr ⟨same_t ok1.gh h1, same_t ok1.gh h2, k _ G1 H1 g1 (itD_zipT h1 h2 a1 a2) ?_⟩⟩
          rw [zipL_length]
          omega
      · exact k.elim
    · exact k.elim
end
end GL

/-! # The data layer, part g: targets, comprehensions -/
namespace GL
open PySem PySem.Spec PyProof.Rows L2

theorem bind_inv {α β : Type} {r : Res α} {f : α → Res β} {b : β} (h : r.bind f = .ok b) : ∃ a, r = .ok a ∧ f a = .ok b := by
  cases r with
  | ok a => exact ⟨a, rfl, h⟩
  | ex x => cases h
  | no => cases h
theorem map_inv {α β : Type} {r : Res α} {f : α → β} {b : β} (h : r.map f = .ok b) : ∃ a, r = .ok a ∧ f a = b := by
  obtain ⟨a, h1, h2⟩ := bind_inv h
  cases h2
  exact ⟨a, h1, rfl⟩
inductive Tgt where
  | one (i : Nat)
  | many (is : List Nat)
def Tgt.slots : Tgt → List Nat
  | .one i => [i]
  | .many is => is
def setAll : List Nat → List PyData → En → En
  | i :: is, d :: ds, env => setAll is ds (env.set i (some (.dat d)))
  | _, _, env => env
def bindT : Tgt → PyData → En → Res En
  | .one i, d, env => .ok (env.set i (some (.dat d)))
  | .many is, .tuple ds, env => if ds.length = is.length then .ok (setAll is ds env) else .no
  | _, _, _ => .no
def tG (P : Program) (w : World) (K : PySem.W.Frag) (t : Tgt) : TG := fun v σ H Q => ∃ G0 H0 G env d env', OkG P w K G0 H0 G env σ H ∧ Dp K G v d ∧ bindT t d env = .ok env' ∧
  ∀ σ', OkG P w K G0 H0 G env' σ' H → (∀ j, j ∉ t.slots → σ'[j]? = σ[j]?) → σ'.length = σ.length → Q σ' H
abbrev DG (X : Cx) (tg : Expr) (t : Tgt) : Prop := PG X tg (tG X.prog X.w X.K t)
theorem pg_imp {X : Cx} {tg : Expr} {t t' : TG} (h : PG X tg t) (i : ∀ v σ H Q, t' v σ H Q → t v σ H Q) : PG X tg t' := ⟨fun pins s σ H v u Q I r q => h.run pins s σ H v u Q I r (i v σ H Q q)⟩
def gAll : List Nat → TGs
  | [] => gNil
  | i :: r => gCons (gName i) (gAll r)
theorem setAll_ok {P : Program} {w : World} {K : PySem.W.Frag} {G0 H0 G H : Hp} : ∀ {is : List Nat} {vs : List V} {ds : List PyData} {env : En} {σ : L2.St}, OkG P w K G0 H0 G env σ H → DpAll K G vs ds → ds.length = is.length →
    ∀ Q : L2.St → Hp → Prop, (∀ σ', OkG P w K G0 H0 G (setAll is ds env) σ' H → (∀ j, j ∉ is → σ'[j]? = σ[j]?) → σ'.length = σ.length → Q σ' H) → gAll is vs σ H Q
  | [], _, _, env, σ, ok, .nil, _, Q, q => ⟨rfl, q σ ok (fun _ _ => rfl) rfl⟩
  | i :: is, v :: vs, d :: ds, env, σ, ok, .cons h1 h2, hl, Q, q => by
    refine ⟨v, vs, rfl, ?_⟩
    refine setAll_ok (ok.dat (i := i) h1) h2 (by simpa using hl) Q fun σ' ok' h3 h4 => q σ' ok' (fun j hj => ?_) (by rw [h4, List.length_set])
    rw [List.mem_cons, not_or] at hj
    rw [h3 j hj.2, List.getElem?_set_ne (Ne.symm hj.1)]
  | [], _, _ :: _, _, _, _, _, hl, _, _ => by simp at hl
  | _ :: _, _, [], _, _, _, _, hl, _, _ => by simp at hl
section
variable {X : Cx} {pos : Pos}
theorem dg_one (i : Nat) {x : Str} (hN : X.N.Nodup) (hi : X.N[i]? = some x := by rfl) (hx : Loc X.env.scope x := by first | exact Or.inl rfl | exact Or.inr rfl) (hf : X.fn x = true ∨ X.env.scope.names.lookup x = some .local := by first | exact .inl rfl | exact .inr rfl | assumption) : DG X (.Name x pos) (.one i) :=
  pg_imp (pg_name hN hi hx hf) fun v σ H Q q => by
    obtain ⟨G0, H0, G, env, d, env', ok, dp, eb, q⟩ := q
    cases eb
    refine q _ (ok.dat dp) (fun j hj => ?_) (List.length_set ..)
    rw [List.getElem?_set_ne]
    exact fun z => hj (by rw [z]; exact List.mem_cons_self)
theorem dg_many {es : List Expr} {k : Nat} {is : List Nat} (hc : X.calm = true) (h : PGs X es (gAll is)) (hn : (assignEach es X.env).length = is.length := by rfl) (hst : (assignEach es X.env).findIdx? (·.1) = none := by rfl) : DG X (.Tuple es k pos) (.many is) :=
  pg_imp (pg_tup hc h hn hst) fun v σ H Q q => by
    obtain ⟨G0, H0, G, env, d, env', ok, dp, eb, q⟩ := q
    cases d with
    | tuple ds =>
      have eb : (if ds.length = is.length then Res.ok (setAll is ds env) else Res.no) = Res.ok env' := eb
      obtain ⟨hl, rfl⟩ := ok_of_ite eb
      cases dp with
      | tup hs ha => exact ⟨_, _, rfl, same_t ok.gh hs, by rw [dpAll_length ha]; exact hl, setAll_ok ok ha hl Q q⟩
    | _ => cases eb
end

/-! ### comprehensions -/
def wipeE (env : En) : List Nat → En
  | [] => env
  | v :: vs => (wipeE env vs).set v none
theorem wipeE_length (env : En) : ∀ vs : List Nat, (wipeE env vs).length = env.length
  | [] => rfl
  | v :: vs => by unfold wipeE; rw [List.length_set, wipeE_length env vs]
theorem wipeE_some {env : En} {i : Nat} {x : SV} : ∀ {vs : List Nat}, (wipeE env vs)[i]? = some (some x) → env[i]? = some (some x) ∧ i ∉ vs
  | [], h => ⟨h, by simp⟩
  | v :: vs, h => by
    unfold wipeE at h
    by_cases hi : v = i
    · subst hi
      by_cases hv : v < (wipeE env vs).length
      · rw [List.getElem?_set_self hv] at h; cases h
      · rw [List.getElem?_eq_none (by simpa using hv)] at h; cases h
    · rw [List.getElem?_set_ne hi] at h
      obtain ⟨h1, h2⟩ := wipeE_some h
      exact ⟨h1, by simp only [List.mem_cons, not_or]; exact ⟨fun e => hi e.symm, h2⟩⟩
theorem wipe_get {σ : L2.St} {i : Nat} : ∀ {vs : List Nat}, i ∉ vs → (wipe σ vs)[i]? = σ[i]?
  | [], _ => rfl
  | v :: vs, h => by
    rw [List.mem_cons, not_or] at h
    unfold wipe
    rw [List.getElem?_set_ne (Ne.symm h.1)]
    exact wipe_get h.2
theorem OkG.wipe {P : Program} {w : World} {K : PySem.W.Frag} {G0 H0 G H : Hp} {env : En} {σ : L2.St} (ok : OkG P w K G0 H0 G env σ H) (vs : List Nat) : OkG P w K G0 H0 G (wipeE env vs) (L2.wipe σ vs) H :=
  ok.less (by rw [wipeE_length, wipe_length]; exact ok.len) fun i s h => by
    obtain ⟨h1, h2⟩ := wipeE_some h
    exact ⟨h1, wipe_get h2⟩
theorem wipe_eq {σ σ' : L2.St} {vs : List Nat} (hl : σ'.length = σ.length) (h : ∀ j, j ∉ vs → σ'[j]? = σ[j]?) : L2.wipe σ' vs = L2.wipe σ vs := by
  refine List.ext_getElem? fun j => ?_
  by_cases hj : j ∈ vs
  · have no : ∀ τ : L2.St, (L2.wipe τ vs)[j]? = if j < τ.length then some none else none := fun τ => by
      by_cases hlt : j < τ.length
      · rw [if_pos hlt]
        cases q : (L2.wipe τ vs)[j]? with
        | none => rw [List.getElem?_eq_none_iff, wipe_length] at q; omega
        | some o =>
          cases o with
          | none => rfl
          | some v => exact absurd hj (wipe_some q).2
      · rw [if_neg hlt, List.getElem?_eq_none (by rw [wipe_length]; omega)]
    rw [no, no, hl]
  · rw [wipe_get hj, wipe_get hj]
    exact h j hj
def noEx {α : Type} : Res α → Res α
  | .ok a => .ok a
  | _ => .no
theorem noEx_ok {α : Type} {r : Res α} {a : α} (h : noEx r = .ok a) : r = .ok a := by
  cases r with
  | ok b => exact h
  | ex x => cases h
  | no => cases h
@[simp] theorem noEx_okk {α : Type} (a : α) : noEx (Res.ok a) = .ok a := rfl
def compF (t : Tgt) (p : En → Res Bool) (f : En → Res PyData) (env : En) : List PyData → Res (List PyData)
  | [] => .ok []
  | d :: ds => (bindT t d env).bind fun e1 => (noEx (p e1)).bind fun b => if b then (noEx (f e1)).bind fun y => (compF t p f env ds).map fun r => y :: r else compF t p f env ds
def fComp (own : List Nat) (t : Tgt) (fi : En → Res (List PyData)) (p : En → Res Bool) (f : En → Res PyData) : En → Res (List PyData) := fun env => (fi env).bind fun ds => compF t p f (wipeE env own) ds
theorem bindT_never (t : Tgt) (d : PyData) (env : En) : Never (bindT t d env) := by
  unfold bindT
  split
  · exact never_ok _
  · exact never_ite (never_ok _) never_no
  · exact never_no
theorem noEx_never {α : Type} (r : Res α) : Never (noEx r) := by cases r <;> first | exact never_ok _ | exact never_no
theorem compF_never (t : Tgt) (p : En → Res Bool) (f : En → Res PyData) (env : En) : ∀ ds, Never (compF t p f env ds)
  | [] => never_ok _
  | d :: ds => by
    unfold compF
    refine never_bind (bindT_never _ _ _) fun e1 => never_bind (noEx_never _) fun b => ?_
    split
    · exact never_bind (noEx_never _) fun y => never_bind (compF_never t p f env ds) fun _ => never_ok _
    · exact compF_never t p f env ds
abbrev W0 : WX := fun _ _ _ _ => False
theorem exP0 {cm : Str → Addr} {σ : L2.St} {G H : Hp} {x : Str} (gh : Same G H) (h : exP W0 cm σ G H x) : False := h G H (Grow.refl gh)

section
variable {X : Cx} {W : WX} {cm : Str → Addr}
/-- the reading of a comprehension by data -/
theorem t_comp {P : Program} {w : World} {K : PySem.W.Frag} {own : List Nat} {t : Tgt} {fi : En → Res (List PyData)} {p : En → Res Bool} {f : En → Res PyData} (hsub : ∀ j ∈ t.slots, j ∈ own) {σ : L2.St} {H : Hp} {Q : VK} (q : tL P w K W cm (fComp own t fi p f) σ H Q) :
    tLc (tI P w K W cm fi) (tG P w K t) (tT P w K W0 cm p) (tD P w K W0 cm f) own σ H Q := by
  obtain ⟨G0, H0, G, env, ok, q⟩ := q
  refine ⟨G0, H0, G, env, ok, (Res.sat_bind.mp q).imp (fun ds _ k J G1 H1 g1 it hsz => ?_) fun _ z => z⟩
  intro D hD
  obtain ⟨r, er, k⟩ := sat_ok (compF_never t p f _ ds) k
  have ok1 := ok.grow g1
  -- behind i turns: the list at D holds what came of them, the rest is still to come
  refine ⟨fun i m H2 => m = ds.length - i ∧ i ≤ ds.length ∧ ∃ G2 vs rd rest, Grow G1 H1 G2 H2 ∧ G2 D = none ∧ H2 D = some (.lst vs) ∧ DpAll K G2 vs rd ∧ rd.length ≤ i ∧ compF t p f (wipeE env own) (ds.drop i) = .ok rest ∧ r = rd ++ rest, ⟨ds.length, by simp, Nat.zero_le _, G1, [], [], r, Grow.fresh ok1.gh hD, ok1.gh.free hD, upd_same, .nil, Nat.zero_le _, er, rfl⟩, ?_⟩
  rintro i m H2 ⟨rfl, hi, G2, vs, rd, rest, g2, gD, hD2, da, hlen, ec, rfl⟩
  have ok2 := ok1.grow g2
  obtain ⟨itg, its⟩ := it i G2 H2 g2.g g2.h ok2.gh
  by_cases hlt : i < ds.length
  · have hdr : ds.drop i = ds[i] :: ds.drop (i + 1) := List.drop_eq_getElem_cons hlt
    obtain ⟨go, yl⟩ := itg ds[i] (List.getElem?_eq_getElem hlt)
    rw [hdr] at ec
    refine .inr ⟨go, fun H3 => ∃ G3 vs' rd' rest', Grow G1 H1 G3 H3 ∧ G3 D = none ∧ H3 D = some (.lst vs') ∧ DpAll K G3 vs' rd' ∧ rd'.length ≤ i + 1 ∧ compF t p f (wipeE env own) (ds.drop (i + 1)) = .ok rest' ∧ rd ++ rest = rd' ++ rest', fun H3 h3 => ?_, fun x H3 hy => ?_⟩
    · obtain ⟨G3, vs', rd', rest', a1, a2, a3, a4, a5, a6, a7⟩ := h3
      exact ⟨ds.length - (i + 1), by omega, rfl, hlt, G3, vs', rd', rest', a1, a2, a3, a4, a5, a6, a7⟩
    · obtain ⟨G3, g3, dp⟩ := yl x H3 hy
      have ok3 := (ok2.grow g3).wipe own
      have hDne : H2 D ≠ none := some_ne_none hD2
      unfold compF at ec
      obtain ⟨e1, eb, ec⟩ := bind_inv ec
      obtain ⟨b, eq, ec⟩ := bind_inv ec
      refine ⟨G0, H0, G3, _, _, e1, ok3, dp, eb, fun σ4 ok4 hs4 hl4 => ⟨?_, ?_⟩⟩
      · have q1 : L2.wipe σ4 own = L2.wipe (L2.wipe σ own) own := wipe_eq hl4 fun j hj => hs4 j fun z => hj (hsub j z)
        rw [q1]
        exact wipe_eq (wipe_length _ _) fun j hj => wipe_get hj
      · have ep := noEx_ok eq
        refine tT.go ok4 ?_
        rw [ep]
        intro G5 H5 g5 ok5
        have g15 := (g2.trans g3).trans g5
        have d5 : H5 D = some (.lst vs) := g5.h _ _ (g3.h _ _ hD2)
        have gd5 : G5 D = none := by rw [g5.old D (some_ne_none (g3.h _ _ hD2)), g3.old D hDne, gD]
        cases b with
        | false =>
          rw [if_neg Bool.false_ne_true] at ec ⊢
          exact ⟨G5, vs, rd, rest, g15, gd5, d5, dpAll_mono (g3.trans g5).g _ _ da, by omega, ec, rfl⟩
        | true =>
          rw [if_pos rfl] at ec ⊢
          obtain ⟨y, ef, ec⟩ := bind_inv ec
          obtain ⟨rest', e7, rfl⟩ := map_inv ec
          refine tD.go ok5 ?_
          rw [noEx_ok ef]
          intro v6 G6 H6 g6 ok6 dp6
          have d6 : H6 D = some (.lst vs) := g6.h _ _ d5
          have gd6 : G6 D = none := by rw [g6.old D (some_ne_none d5), gd5]
          have lv : vs.length ≤ i := by rw [dpAll_length da]; exact hlen
          refine ⟨vs, d6, by omega, G6, vs ++ [v6], rd ++ [y], rest', ?_, gd6, upd_same, dpAll_app (dpAll_mono ((g3.trans g5).trans g6).g _ _ da) (dpAll_one dp6), by rw [List.length_append]; simp; omega, e7, by simp⟩
          have gg := g15.trans g6
          exact ⟨fun a o z => by rw [upd_ne (show a ≠ D from fun e => by rw [e, hD] at z; cases z)]; exact gg.h a o z, gg.g, fun a o z => by rw [upd_ne (show a ≠ D from fun e => by rw [e, gd6] at z; cases z)]; exact gg.gh a o z, gg.old⟩
  · have e0 : i = ds.length := by omega
    subst e0
    refine .inl ⟨its (Nat.le_refl _), ?_⟩
    rw [List.drop_length] at ec
    cases ec
    rw [List.append_nil] at k
    exact k D vs G2 H2 (g1.trans g2) (g1.h.free hD) gD hD2 da
end
end GL

/-! # The data layer, part h: statements, loops, defs -/
namespace GL
open PySem PySem.Spec PyProof.Rows L2

section
variable {X : Cx} {W : WX} {cm : Str → Addr}
def pYes : En → Res Bool := fun _ => .ok true
theorem pts_imp {ifs : List Expr} {t t' : TT} (h : PTs X ifs t) (i : ∀ σ H Q, t' σ H Q → t σ H Q) : PTs X ifs t' := ⟨fun pins s σ H Q I q => h.run pins s σ H Q I (i σ H Q q)⟩
abbrev DTs (X : Cx) (W : WX) (cm : Str → Addr) (ifs : List Expr) (p : En → Res Bool) : Prop := PTs X ifs (tT X.prog X.w X.K W cm p)
theorem dts_nil : DTs X W cm [] pYes := pts_imp pts_nil fun σ H Q q => by
  obtain ⟨G0, H0, G, env, ok, q⟩ := q
  exact q G H (Grow.refl ok.gh)
theorem dts_one {c : Expr} {p : En → Res Bool} (h : DT X W cm c p) : DTs X W cm [c] p := pts_one h
variable {elt tg iter : Expr} {ifs : List Expr} {scope : Scope} {own : List (Str × Nat)} {pos : Pos} {fi : En → Res (List PyData)} {t : Tgt} {p : En → Res Bool} {f : En → Res PyData}
theorem dl_lc (hc : X.calm = true) (hN : X.N.Nodup) (hi : DI X W cm tg iter fi) (ok : BlkOk X.N X.env.scope scope own) (hsub : ∀ j ∈ t.slots, j ∈ own.map (·.2))
    (hg : ∀ (s : Shared) (H : Hp) (C : Addr) (cl : List (Str × Addr)) (fp : List Addr), DG (X.blk s H scope (compEnvC scope cl C X.env) fp) tg t) (ht : ∀ (s : Shared) (H : Hp) (C : Addr) (cl : List (Str × Addr)) (fp : List Addr), DTs (X.blk s H scope (compEnvC scope cl C X.env) fp) W0 cm ifs p)
    (he : ∀ (s : Shared) (H : Hp) (C : Addr) (cl : List (Str × Addr)) (fp : List Addr), DE (X.blk s H scope (compEnvC scope cl C X.env) fp) W0 cm elt f) (hs : ∀ x, foldedSetIterable iter X.env x = pure x := by intro _; rfl) :
    DL X W cm (.ListComp elt [⟨tg, iter, ifs, 0⟩] scope pos) (fComp (own.map (·.2)) t fi p f) :=
  pe_imp (pe_lc hc hN hi ok hg ht he hs) fun σ H Q q => t_comp hsub q
end

/-! ### statements -/
inductive Out where
  | nx (env : En)
  | rt (d : PyData)
  | rl (ds : List PyData)
  | rw (d : PyData) (env : En)
  | ex (x : Str) (env : En)
  | no
def Out.ofR {α : Type} (r : Res α) (env : En) (k : α → Out) : Out := match r with
  | .ok a => k a
  | .ex x => .ex x env
  | .no => .no
@[simp] theorem ofR_ok {α : Type} (a : α) (env : En) (k : α → Out) : Out.ofR (Res.ok a) env k = k a := rfl
@[simp] theorem ofR_ex {α : Type} (x : Str) (env : En) (k : α → Out) : Out.ofR (Res.ex x : Res α) env k = .ex x env := rfl
@[simp] theorem ofR_no {α : Type} (env : En) (k : α → Out) : Out.ofR (Res.no : Res α) env k = .no := rfl
section
variable (P : Program) (w : World) (K : PySem.W.Frag) (W : WX) (cm : Str → Addr)
def OutP (G0 H0 G : Hp) (D : Ends) : Out → Prop
  | .nx env' => ∀ G' σ' H', Same G G' → OkG P w K G0 H0 G' env' σ' H' → D.nx σ' H'
  | .rt d => ∀ v G' H', Grow G0 H0 G' H' → Dp K G' v d → D.rt v H'
  | .rw d env' => ∀ v G' σ' H', Same G G' → OkG P w K G0 H0 G' env' σ' H' → Dp K G' v d → D.rt v H'
  | .rl ds => ∀ p vs G' H', Grow G0 H0 G' H' → H0 p = none → G' p = none → H' p = some (.lst vs) → DpAll K G' vs ds → D.rt (.ref p) H'
  | .ex x env' => ∀ G' σ' H', Same G G' → OkG P w K G0 H0 G' env' σ' H' → W (.ref (cm x)) none σ' H'
  | .no => False
def tS (g : En → Out) : TS := fun D σ H => ∃ G0 H0 G env, OkG P w K G0 H0 G env σ H ∧ OutP P w K W cm G0 H0 G D (g env)
end
abbrev DS (X : Cx) (W : WX) (cm : Str → Addr) (st : Stmt) (g : En → Out) : Prop := PS X st (tS X.prog X.w X.K W cm g)
abbrev DSs (X : Cx) (W : WX) (cm : Str → Addr) (st : List Stmt) (g : En → Out) : Prop := PSs X st (tS X.prog X.w X.K W cm g)
theorem ps_imp {X : Cx} {st : Stmt} {t t' : TS} (h : PS X st t) (i : ∀ D σ H, t' D σ H → t D σ H) : PS X st t' := ⟨fun pins s σ H D I q => h.run pins s σ H D I (i D σ H q)⟩
theorem pss_imp {X : Cx} {st : List Stmt} {t t' : TS} (h : PSs X st t) (i : ∀ D σ H, t' D σ H → t D σ H) : PSs X st t' := ⟨fun pins s σ H D I q => h.run pins s σ H D I (i D σ H q)⟩
section
variable {P : Program} {w : World} {K : PySem.W.Frag} {W : WX} {cm : Str → Addr} {G0 H0 G H G1 H1 : Hp} {env : En} {σ : L2.St} {D D' : Ends} {o : Out}
theorem OutP.mono (h : OutP P w K W cm G0 H0 G D o) (g : Same G G1) : OutP P w K W cm G0 H0 G1 D o := by
  cases o with
  | nx env' => exact fun G' σ' H' s ok => h G' σ' H' (g.trans s) ok
  | rt d => exact h
  | rl ds => exact h
  | rw d env' => exact fun v G' σ' H' s ok dp => h v G' σ' H' (g.trans s) ok dp
  | ex x env' => exact fun G' σ' H' s ok => h G' σ' H' (g.trans s) ok
  | no => exact h
theorem OutP.ends (h : OutP P w K W cm G0 H0 G D o) (hn : ∀ σ' H', D.nx σ' H' → D'.nx σ' H') (hr : ∀ v H', D.rt v H' → D'.rt v H') : OutP P w K W cm G0 H0 G D' o := by
  cases o with
  | nx env' => exact fun G' σ' H' s ok => hn _ _ (h G' σ' H' s ok)
  | rt d => exact fun v G' H' g dp => hr _ _ (h v G' H' g dp)
  | rl ds => exact fun p vs G' H' g h1 h2 h3 da => hr _ _ (h p vs G' H' g h1 h2 h3 da)
  | rw d env' => exact fun v G' σ' H' s ok dp => hr _ _ (h v G' σ' H' s ok dp)
  | ex x env' => exact h
  | no => exact h
/-- an expression's outcome within a statement -/
theorem OutP.ofR {α : Type} {r : Res α} {k : α → Out} {P1 : α → Prop} (ok : OkG P w K G0 H0 G env σ H) (h : OutP P w K W cm G0 H0 G D (Out.ofR r env k)) (hk : ∀ a, r = .ok a → OutP P w K W cm G0 H0 G D (k a) → P1 a) : r.sat P1 (exP W cm σ G H) := by
  cases r with
  | ok a => exact hk a rfl h
  | ex x => exact fun G' H' g => h G' σ H' g.g (ok.grow g)
  | no => exact h
end
def sSeq (g h : En → Out) : En → Out := fun env => match g env with
  | .nx e => h e
  | o => o
def sNext : En → Out := .nx
def sIf (p : En → Res Bool) (g h : En → Out) : En → Out := fun env => .ofR (p env) env fun b => if b then g env else h env
def sRet (f : En → Res PyData) : En → Out := fun env => .ofR (f env) env .rt
def sRetL (f : En → Res (List PyData)) : En → Out := fun env => .ofR (f env) env .rl
def sAsg (t : Tgt) (f : En → Res PyData) : En → Out := fun env => .ofR (f env) env fun d => .ofR (bindT t d env) env .nx
def sOwn (i : Nat) (f : En → Res (List PyData)) : En → Out := fun env => .ofR (f env) env fun ds => .nx (env.set i (some (.own ds)))
def sDrop (f : En → Res PyData) : En → Out := fun env => .ofR (f env) env fun _ => .nx env
def sFrz (i : Nat) (g : En → Out) : En → Out := fun env => g (frz i env)
def forL (t : Tgt) (g : En → Out) : List PyData → En → Out
  | [], env => .nx env
  | d :: ds, env => match bindT t d env with
    | .ok e1 => (match g e1 with
      | .nx e2 => forL t g ds e2
      | o => o)
    | _ => .no
def sFor (t : Tgt) (fi : En → Res (List PyData)) (g : En → Out) : En → Out := fun env => .ofR (fi env) env fun ds => forL t g ds env
def whileN (p : En → Res Bool) (g : En → Out) : Nat → En → Out
  | 0, _ => .no
  | n + 1, env => .ofR (p env) env fun b => if b then (match g env with
    | .nx e2 => whileN p g n e2
    | o => o) else .nx env
section
variable {X : Cx} {W : WX} {cm : Str → Addr} {st : Stmt} {rest : List Stmt} {g h : En → Out} {e : Expr} {f : En → Res PyData} {pos : Pos}
theorem ds_nil : DSs X W cm [] sNext := pss_imp pss_nil fun D σ H q => by
  obtain ⟨G0, H0, G, env, ok, q⟩ := q
  exact q G σ H (Same.refl G) ok
theorem t_seq {P : Program} {w : World} {K : PySem.W.Frag} {D : Ends} {σ : L2.St} {H : Hp} (q : tS P w K W cm (sSeq g h) D σ H) : tSeq (tS P w K W cm g) (tS P w K W cm h) D σ H := by
  obtain ⟨G0, H0, G, env, ok, q⟩ := q
  refine ⟨G0, H0, G, env, ok, ?_⟩
  unfold sSeq at q
  split at q
  · rename_i e he
    rw [he]
    exact fun G' σ' H' s ok' => ⟨G0, H0, G', e, ok', q.mono s⟩
  · rename_i o ho
    cases hg : g env with
    | nx e => exact absurd hg (ho e)
    | rt d => rw [hg] at q; exact q
    | rl ds => rw [hg] at q; exact q
    | rw d e => rw [hg] at q; exact q
    | ex x e => rw [hg] at q; exact q
    | no => rw [hg] at q; exact q
theorem ds_cons (h1 : DS X W cm st g) (h2 : DSs X W cm rest h) : DSs X W cm (st :: rest) (sSeq g h) := pss_imp (pss_cons h1 h2) fun D σ H q => t_seq q
theorem ds_last (h1 : DS X W cm st g) : DSs X W cm [st] g := pss_one h1
/-- a list of one's own is stilled ahead of a block -/
theorem ds_frz (i : Nat) (h1 : DSs X W cm (st :: rest) g) : DSs X W cm (st :: rest) (sFrz i g) := pss_imp h1 fun D σ H q => by
  obtain ⟨G0, H0, G, env, ok, q⟩ := q
  obtain ⟨G', s, ok'⟩ := ok.frz i
  exact ⟨G0, H0, G', _, ok', OutP.mono q s⟩
theorem ds_if {c : Expr} {a b : List Stmt} {p : En → Res Bool} (hc : DT X W cm c p) (ha : DSs X W cm a g) (hb : DSs X W cm b h) : DS X W cm (.If c a b pos) (sIf p g h) := ps_imp (ps_if hc ha hb) fun D σ H q => by
  obtain ⟨G0, H0, G, env, ok, q⟩ := q
  refine tT.go ok (OutP.ofR ok q fun b _ k G1 H1 g1 ok1 => ?_)
  cases b with
  | true =>
    rw [if_pos rfl] at k ⊢
    exact ⟨G0, H0, G1, env, ok1, k.mono g1.g⟩
  | false =>
    rw [if_neg Bool.false_ne_true] at k ⊢
    exact ⟨G0, H0, G1, env, ok1, k.mono g1.g⟩
theorem ds_ret (he : DE X W cm e f) : DS X W cm (.Return (some e) pos) (sRet f) := ps_imp (ps_ret he) fun D σ H q => by
  obtain ⟨G0, H0, G, env, ok, q⟩ := q
  exact tD.go ok (OutP.ofR ok q fun d _ k v G1 H1 g1 ok1 dp => k v G1 H1 ok1.gr dp)
theorem ds_retL {f : En → Res (List PyData)} (he : DL X W cm e f) : DS X W cm (.Return (some e) pos) (sRetL f) := ps_imp (ps_ret he) fun D σ H q => by
  obtain ⟨G0, H0, G, env, ok, q⟩ := q
  exact tL.go ok (OutP.ofR ok q fun d _ k v vs G1 H1 g1 ok1 h1 h2 h3 da => k v vs G1 H1 ok1.gr (ok.gr.h.free h1) h2 h3 da)
/-- return x, a list of one's own -/
def sRetO (i : Nat) : En → Out := fun env => match env[i]? with
  | some (some (.own ds)) => .rl ds
  | _ => .no
theorem ds_retO (i : Nat) {x : Str} {p : Pos} (hN : X.N[i]? = some x := by rfl) (hv : Vis X.env.scope x := by first | exact Or.inl rfl | exact Or.inr (Or.inl rfl) | exact Or.inr (Or.inr rfl)) (hd : (x == ("__debug__" : Str)) = false := by decide) (hcd : (x == ("__classdict__" : Str)) = false := by decide) :
    DS X W cm (.Return (some (.Name x p)) pos) (sRetO i) := ps_imp (ps_ret (pe_var hN hv hd hcd)) fun D σ H q => by
  obtain ⟨G0, H0, G, env, ok, q⟩ := q
  unfold sRetO at q
  split at q
  · rename_i ds hi
    obtain ⟨v, hv, p, vs, rfl, h0, hg, hh, da⟩ := ok.sl i _ hi
    exact ⟨_, hv, q p vs G H ok.gr h0 hg hh da⟩
  · exact q.elim
theorem t_asg {P : Program} {w : World} {K : PySem.W.Frag} {t : Tgt} {D : Ends} {σ : L2.St} {H : Hp} (q : tS P w K W cm (sAsg t f) D σ H) : tAsg (tD P w K W cm f) (tG P w K t) D σ H := by
  obtain ⟨G0, H0, G, env, ok, q⟩ := q
  refine tD.go ok (OutP.ofR ok q fun d _ k v G1 H1 g1 ok1 dp => ?_)
  cases eb : bindT t d env with
  | ok e1 =>
    rw [eb] at k
    exact ⟨G0, H0, G1, env, d, e1, ok1, dp, eb, fun σ' ok' _ _ => k G1 σ' H1 g1.g ok'⟩
  | ex x => exact absurd eb (bindT_never t d env x)
  | no => rw [eb] at k; exact k.elim
theorem ds_asg {tg : Expr} {t : Tgt} (he : DE X W cm e f) (hg : DG X tg t) (hs : swapsWithSole [tg] e pos.line X.env = pure false := by rfl) (hw : swappedStores [tg] e X.env = pure none := by rfl)
    (h1 : (assignEach [tg] X.env).map (·.2) = [assign tg X.env] := by rfl) : DS X W cm (.Assign [tg] e pos) (sAsg t f) := ps_imp (ps_asg he hg hs hw h1) fun D σ H q => t_asg q
theorem ds_set (i : Nat) {x : Str} {pos' : Pos} (hN : X.N.Nodup) (he : DE X W cm e f) (hi : X.N[i]? = some x := by rfl) (hx : Loc X.env.scope x := by first | exact Or.inl rfl | exact Or.inr rfl) (hs : swapsWith e (some (.Name x pos')) pos.line X.env = pure false := by rfl) (hf : X.fn x = true ∨ X.env.scope.names.lookup x = some .local := by first | exact .inl rfl | exact .inr rfl | assumption) :
    DS X W cm (.Assign [.Name x pos'] e pos) (sAsg (.one i) f) := ps_imp (ps_set hN hi hx he hs hf) fun D σ H q => by
  obtain ⟨G0, H0, G, env, ok, q⟩ := q
  exact tD.go ok (OutP.ofR ok q fun d _ k v G1 H1 g1 ok1 dp => k G1 _ H1 g1.g (ok1.dat dp))
theorem t_own {P : Program} {w : World} {K : PySem.W.Frag} {i : Nat} {f : En → Res (List PyData)} {D : Ends} {σ : L2.St} {H : Hp} (q : tS P w K W cm (sOwn i f) D σ H) : tAsg (tL P w K W cm f) (gName i) D σ H := by
  obtain ⟨G0, H0, G, env, ok, q⟩ := q
  refine tL.go ok (OutP.ofR ok q fun ds _ k p vs G1 H1 g1 ok1 h1 h2 h3 da => k G1 _ H1 g1.g (ok1.put ⟨p, vs, rfl, ok.gr.h.free h1, h2, h3, da⟩ fun j t v a _ ht hm hv f1 f2 => ok.new g1.h h1 ht hm hv (fp_lst h3 f1 ▸ f2)))
theorem ds_own (i : Nat) {f : En → Res (List PyData)} {x : Str} {pos' : Pos} (hN : X.N.Nodup) (he : DL X W cm e f) (hi : X.N[i]? = some x := by rfl) (hx : Loc X.env.scope x := by first | exact Or.inl rfl | exact Or.inr rfl) (hs : swapsWith e (some (.Name x pos')) pos.line X.env = pure false := by rfl) (hf : X.fn x = true ∨ X.env.scope.names.lookup x = some .local := by first | exact .inl rfl | exact .inr rfl | assumption) :
    DS X W cm (.Assign [.Name x pos'] e pos) (sOwn i f) := ps_imp (ps_set hN hi hx he hs hf) fun D σ H q => t_own q
theorem ds_drop (he : DE X W cm e f) (hs : swapsWith e none pos.line X.env = pure false := by rfl) : DS X W cm (.Expr e pos) (sDrop f) := ps_imp (ps_expr he hs) fun D σ H q => by
  obtain ⟨G0, H0, G, env, ok, q⟩ := q
  exact tD.go ok (OutP.ofR ok q fun d _ k v G1 H1 g1 ok1 dp => k G1 σ H1 g1.g ok1)
theorem ds_pass : DS X W cm (.Pass pos) sNext := ps_imp ps_pass fun D σ H q => by
  obtain ⟨G0, H0, G, env, ok, q⟩ := q
  exact q G σ H (Same.refl G) ok

/-! ### loops -/
theorem t_for {P : Program} {w : World} {K : PySem.W.Frag} {t : Tgt} {fi : En → Res (List PyData)} {D : Ends} {σ : L2.St} {H : Hp} (q : tS P w K W cm (sFor t fi g) D σ H) : tFor (tF P w K W cm fi) (tG P w K t) (tS P w K W cm g) D σ H := by
  obtain ⟨G0, H0, G, env, ok, q⟩ := q
  refine ⟨G0, H0, G, env, ok, OutP.ofR ok q fun ds _ k J G1 H1 g1 it hsz => ?_⟩
  have ok1 := ok.grow g1
  refine ⟨fun i m σ2 H2 => m = ds.length - i ∧ i ≤ ds.length ∧ ∃ G2 e2, Same G1 G2 ∧ OkG P w K G0 H0 G2 e2 σ2 H2 ∧ OutP P w K W cm G0 H0 G2 D (forL t g (ds.drop i) e2), ⟨ds.length, by simp, Nat.zero_le _, G1, env, Same.refl G1, ok1, k.mono g1.g⟩, ?_⟩
  rintro i m σ2 H2 ⟨rfl, hi, G2, e2, s2, ok2, k2⟩
  obtain ⟨itg, its⟩ := it i G2 H2 s2 (s2.trans ok2.gh) ok2.gh
  by_cases hlt : i < ds.length
  · obtain ⟨go, yl⟩ := itg ds[i] (List.getElem?_eq_getElem hlt)
    rw [List.drop_eq_getElem_cons hlt] at k2
    refine .inr ⟨go, fun σ3 H3 => ∃ G3 e3, Same G1 G3 ∧ OkG P w K G0 H0 G3 e3 σ3 H3 ∧ OutP P w K W cm G0 H0 G3 D (forL t g (ds.drop (i + 1)) e3), fun σ3 H3 h3 => ⟨ds.length - (i + 1), by omega, rfl, hlt, h3⟩, fun x H3 hy => ?_⟩
    obtain ⟨G3, g3, dp⟩ := yl x H3 hy
    have ok3 := ok2.grow g3
    unfold forL at k2
    cases eb : bindT t ds[i] e2 with
    | ok e3 =>
      rw [eb] at k2
      refine ⟨G0, H0, G3, e2, _, e3, ok3, dp, eb, fun σ4 ok4 _ _ => ⟨G0, H0, G3, e3, ok4, ?_⟩⟩
      have k3 := OutP.mono k2 g3.g
      cases eg : g e3 with
      | nx e4 =>
        have k4 : OutP P w K W cm G0 H0 G3 D (forL t g (ds.drop (i + 1)) e4) := by
          have : (match Res.ok e3 with | .ok e1 => (match g e1 with | .nx e2 => forL t g (ds.drop (i + 1)) e2 | o => o) | _ => Out.no) = forL t g (ds.drop (i + 1)) e4 := by
            show (match g e3 with | .nx e2 => forL t g (ds.drop (i + 1)) e2 | o => o) = _
            rw [eg]
          rw [this] at k3
          exact k3
        exact fun G5 σ5 H5 s5 ok5 => ⟨G5, e4, (s2.trans g3.g).trans s5, ok5, k4.mono s5⟩
      | rt d => simp only [eg] at k3; exact k3
      | rl d => simp only [eg] at k3; exact k3
      | rw d e5 => simp only [eg] at k3; exact k3
      | ex x e5 => simp only [eg] at k3; exact k3
      | no => simp only [eg] at k3; exact k3
    | ex x => rw [eb] at k2; exact k2.elim
    | no => rw [eb] at k2; exact k2.elim
  · have e0 : i = ds.length := by omega
    subst e0
    refine .inl ⟨its (Nat.le_refl _), ?_⟩
    rw [List.drop_length] at k2
    exact k2 G2 σ2 H2 (Same.refl G2) ok2
theorem ds_for {tg iter : Expr} {body : List Stmt} {t : Tgt} {fi : En → Res (List PyData)} (hp : PassesOwn (model X.prog X.w) X.A X.env X.xe) (hc : X.calm = true) (hi : DF X W cm tg iter fi) (hg : DG X tg t) (hb : DSs X W cm body g) (hs : ∀ x, foldedSetIterable iter X.env x = pure x := by intro _; rfl) :
    DS X W cm (.For tg iter body [] pos) (sFor t fi g) := ps_imp (ps_for hp hc hi hg hb hs) fun D σ H q => t_for q
theorem ds_while (n : Nat) {c : Expr} {body : List Stmt} {p : En → Res Bool} (hp : PassesOwn (model X.prog X.w) X.A X.env X.xe) (hc : DT X W cm c p) (hb : DSs X W cm body g) : DS X W cm (.While c body [] pos) (whileN p g n) := ps_imp (ps_while hp hc hb) fun D σ H q => by
  obtain ⟨G0, H0, G, env, ok, q⟩ := q
  refine ⟨fun m σ2 H2 => ∃ G2 e2, Same G G2 ∧ OkG X.prog X.w X.K G0 H0 G2 e2 σ2 H2 ∧ OutP X.prog X.w X.K W cm G0 H0 G2 D (whileN p g m e2), ⟨n, G, env, Same.refl G, ok, q⟩, ?_⟩
  rintro m σ2 H2 ⟨G2, e2, s2, ok2, k2⟩
  cases m with
  | zero => exact k2.elim
  | succ m =>
    refine tT.go ok2 (OutP.ofR ok2 k2 fun b _ k G3 H3 g3 ok3 => ?_)
    cases b with
    | true =>
      rw [if_pos rfl] at k ⊢
      refine ⟨fun σ4 H4 => ∃ G4 e4, Same G G4 ∧ OkG X.prog X.w X.K G0 H0 G4 e4 σ4 H4 ∧ OutP X.prog X.w X.K W cm G0 H0 G4 D (whileN p g m e4), fun σ4 H4 h4 => ⟨m, by omega, h4⟩, G0, H0, G3, e2, ok3, ?_⟩
      have k3 := OutP.mono k g3.g
      cases eg : g e2 with
      | nx e4 =>
        rw [eg] at k3
        exact fun G5 σ5 H5 s5 ok5 => ⟨G5, e4, (s2.trans g3.g).trans s5, ok5, k3.mono s5⟩
      | rt d => rw [eg] at k3; exact k3
      | rl d => rw [eg] at k3; exact k3
      | rw d e5 => rw [eg] at k3; exact k3
      | ex x e5 => rw [eg] at k3; exact k3
      | no => rw [eg] at k3; exact k3
    | false =>
      rw [if_neg Bool.false_ne_true] at k ⊢
      exact k G3 σ2 H3 g3.g ok3
end
end GL

/-! # The data layer, part i: lists of one's own, raise, try, defs -/
namespace GL
open PySem PySem.Spec PyProof.Rows L2

def sApp (i : Nat) (f : En → Res PyData) : En → Out := fun env => match env[i]? with
  | some (some (.own ds)) => .ofR (f env) env fun d => if ds.length < sizeLine then .nx (env.set i (some (.own (ds ++ [d])))) else .no
  | _ => .no
def sExt (i : Nat) (f : En → Res (List PyData)) : En → Out := fun env => match env[i]? with
  | some (some (.own ds)) => .ofR (f env) env fun es => if ds.length + es.length ≤ sizeLine then .nx (env.set i (some (.own (ds ++ es)))) else .no
  | _ => .no
def sPop (i : Nat) (t : Tgt) : En → Out := fun env => match env[i]? with
  | some (some (.own ds)) => (match ds[ds.length - 1]? with
    | some d => .ofR (bindT t d (env.set i (some (.own ds.dropLast)))) env .nx
    | none => .no)
  | _ => .no
/-- x.pop(0) -/
def sPop0 (i : Nat) (t : Tgt) : En → Out := fun env => match env[i]? with
  | some (some (.own (d :: ds))) => .ofR (bindT t d (env.set i (some (.own ds)))) env .nx
  | _ => .no
theorem dpAll_dropLast {K : PySem.W.Frag} {G : Hp} {vs : List V} {ds : List PyData} (h : DpAll K G vs ds) : DpAll K G vs.dropLast ds.dropLast := by
  rw [List.dropLast_eq_take, List.dropLast_eq_take, dpAll_length h]
  exact dpAll_take _ h
section
variable {X : Cx} {W : WX} {cm : Str → Addr} {e : Expr} {f : En → Res PyData} {pos apos p : Pos} {x : Str}
theorem tyL {K : PySem.W.Frag} {H : Hp} {a : Addr} {vs : List V} (h : H a = some (.lst vs)) : tyV K "list" (.ref a) H := Or.inl ⟨rfl, _, SqL.of h⟩
theorem tyL2 {K : PySem.W.Frag} {H : Hp} {a : Addr} {vs : List V} (h : H a = some (.lst vs)) : tyV K "list" (.ref a) H := tyL h
theorem ds_app {i : Nat} (h : PE X e (tBM X.K "list" rAppend (tVar i) (tCons (tD X.prog X.w X.K W cm f) tNil))) (hs : swapsWith e none pos.line X.env = pure false := by rfl) : DS X W cm (.Expr e pos) (sApp i f) := ps_imp (ps_expr h hs) fun D σ H q => by
  obtain ⟨G0, H0, G, env, ok, q⟩ := q
  unfold sApp at q
  split at q
  · rename_i ds hi
    obtain ⟨v, hv, p, vs, rfl, h0, hg, hh, da⟩ := ok.sl i _ hi
    refine ⟨_, hv, tyL hh, ?_⟩
    refine tD.go ok (OutP.ofR ok q fun d _ k u G1 H1 g1 ok1 dp => ?_)
    have h1 := g1.h _ _ hh
    split at k
    · rename_i hl
      have hg1 : G1 p = none := by rw [g1.old p (some_ne_none hh)]; exact hg
      have da1 := dpAll_app (dpAll_mono g1.g _ _ da) (dpAll_one dp)
      exact ⟨p, vs, u, rfl, rfl, h1, by rw [dpAll_length da]; exact hl, k G1 σ _ g1.g (ok1.mut hi rfl hv h0 hg1 ⟨p, _, rfl, h0, hg1, upd_same, da1⟩)⟩
    · exact k.elim
  · exact q.elim
theorem ds_ext {i : Nat} {f : En → Res (List PyData)} (h : PE X e (tBM X.K "list" rExtend (tVar i) (tCons (tL X.prog X.w X.K W cm f) tNil))) (hs : swapsWith e none pos.line X.env = pure false := by rfl) : DS X W cm (.Expr e pos) (sExt i f) := ps_imp (ps_expr h hs) fun D σ H q => by
  obtain ⟨G0, H0, G, env, ok, q⟩ := q
  unfold sExt at q
  split at q
  · rename_i ds hi
    obtain ⟨v, hv, p, vs, rfl, h0, hg, hh, da⟩ := ok.sl i _ hi
    refine ⟨_, hv, tyL hh, ?_⟩
    refine tL.go ok (OutP.ofR ok q fun d _ k b us G1 H1 g1 ok1 n1 n2 n3 dp => ?_)
    have h1 := g1.h _ _ hh
    split at k
    · rename_i hl
      have hg1 : G1 p = none := by rw [g1.old p (some_ne_none hh)]; exact hg
      have da1 := dpAll_app (dpAll_mono g1.g _ _ da) dp
      exact ⟨p, b, vs, us, rfl, rfl, h1, n3, by rw [dpAll_length da, dpAll_length dp]; exact hl, k G1 σ _ g1.g (ok1.mut hi rfl hv h0 hg1 ⟨p, _, rfl, h0, hg1, upd_same, da1⟩)⟩
    · exact k.elim
  · exact q.elim
/-- t = x.pop() -/
theorem t_pop {P : Program} {w : World} {K : PySem.W.Frag} {t : Tgt} {d : PyData} {ds ds' : List PyData} {vs' : List V} {G0 H0 G : Hp} {env : En} {σ : L2.St} {H : Hp} {D : Ends} {i : Nat} {p : Addr} {y : V} (ok : OkG P w K G0 H0 G env σ H) (hi : env[i]? = some (some (.own ds))) (hv : σ[i]? = some (some (.ref p))) (h0 : H0 p = none) (hg : G p = none)
    (da : DpAll K G vs' ds') (dy : Dp K G y d) (q : OutP P w K W cm G0 H0 G D (Out.ofR (bindT t d (env.set i (some (.own ds')))) env .nx)) : tG P w K t y σ (upd H p (.lst vs')) D.nx := by
  have ok2 := ok.mut (s' := .own ds') (o' := .lst vs') hi rfl hv h0 hg ⟨p, _, rfl, h0, hg, upd_same, da⟩
  cases eb : bindT t d (env.set i (some (.own ds'))) with
  | ok e1 =>
    rw [eb] at q
    exact ⟨G0, H0, G, _, d, e1, ok2, dy, eb, fun σ' ok' _ _ => q G σ' _ (Same.refl G) ok'⟩
  | ex x => exact absurd eb (bindT_never _ _ _ x)
  | no => rw [eb] at q; exact q.elim
theorem ds_pop {i : Nat} {tg : Expr} {t : Tgt} (h : PE X e (tBM0 X.K "list" rPop (tVar i))) (hg : DG X tg t) (hs : swapsWithSole [tg] e pos.line X.env = pure false := by rfl) (hw : swappedStores [tg] e X.env = pure none := by rfl)
    (h1 : (assignEach [tg] X.env).map (·.2) = [assign tg X.env] := by rfl) : DS X W cm (.Assign [tg] e pos) (sPop i t) := ps_imp (ps_asg h hg hs hw h1) fun D σ H q => by
  obtain ⟨G0, H0, G, env, ok, q⟩ := q
  unfold sPop at q
  split at q
  · rename_i ds hi
    obtain ⟨v, hv, p, vs, rfl, h0, hg, hh, da⟩ := ok.sl i _ hi
    refine ⟨_, hv, tyL hh, ?_⟩
    split at q
    · rename_i d hd
      obtain ⟨y, hy, dy⟩ := dpAll_get da hd
      rw [← dpAll_length da] at hy
      exact ⟨p, vs, y, rfl, rfl, hh, hy, t_pop ok hi hv h0 hg (dpAll_dropLast da) dy q⟩
    · exact q.elim
  · exact q.elim
theorem ds_pop0 {i : Nat} {tg : Expr} {t : Tgt} (h : PE X e (tBM X.K "list" rPopAt (tVar i) (tCons (tC (.int 0)) tNil))) (hg : DG X tg t) (hs : swapsWithSole [tg] e pos.line X.env = pure false := by rfl) (hw : swappedStores [tg] e X.env = pure none := by rfl)
    (h1 : (assignEach [tg] X.env).map (·.2) = [assign tg X.env] := by rfl) : DS X W cm (.Assign [tg] e pos) (sPop0 i t) := ps_imp (ps_asg h hg hs hw h1) fun D σ H q => by
  obtain ⟨G0, H0, G, env, ok, q⟩ := q
  unfold sPop0 at q
  split at q
  · rename_i d ds hi
    obtain ⟨v, hv, p, vs, rfl, h0, hg, hh, da⟩ := ok.sl i _ hi
    refine ⟨_, hv, tyL hh, ?_⟩
    cases da with
    | cons dy da => exact ⟨p, _, 0, 0, _, rfl, rfl, hh, by decide, by decide, by simp [seqIndex?], rfl, t_pop ok hi hv h0 hg (da) dy q⟩
  · exact q.elim
/-- x = y, a list of one's own handed over: y is forgotten -/
def sMove (i j : Nat) : En → Out := fun env => match env[j]? with
  | some (some (.own ds)) => if i ≠ j then .nx ((env.set j none).set i (some (.own ds))) else .no
  | some (some (.dct kvs)) => if i ≠ j then .nx ((env.set j none).set i (some (.dct kvs))) else .no
  | _ => .no
theorem OkG.forget {P : Program} {w : World} {K : PySem.W.Frag} {G0 H0 G H : Hp} {env : En} {σ : L2.St} (ok : OkG P w K G0 H0 G env σ H) (j : Nat) : OkG P w K G0 H0 G (env.set j none) σ H :=
  ok.less (by rw [List.length_set]; exact ok.len) fun i s h => by
    by_cases hj : j = i
    · subst hj
      by_cases hl : j < env.length
      · rw [List.getElem?_set_self hl] at h; cases h
      · rw [List.getElem?_eq_none (by rw [List.length_set]; omega)] at h; cases h
    · rw [List.getElem?_set_ne hj] at h; exact ⟨h, rfl⟩
theorem t_move {P : Program} {w : World} {K : PySem.W.Frag} {i j : Nat} {s : SV} {G0 H0 G : Hp} {env : En} {σ : L2.St} {H : Hp} {D : Ends} (ok : OkG P w K G0 H0 G env σ H) (hj : env[j]? = some (some s)) (hm : s.mu = true) (q : OutP P w K W cm G0 H0 G D (if i ≠ j then .nx ((env.set j none).set i (some s)) else .no)) :
    tAsg (tVar j) (gName i) D σ H := by
  obtain ⟨v, hv, sl⟩ := ok.sl j s hj
  refine ⟨v, hv, ?_⟩
  split at q
  · rename_i hij
    obtain ⟨p, o, rfl, h0, hg, hh⟩ := sl.own_ref hm
    refine q G _ H (Same.refl G) ((ok.forget j).put sl fun k t v a hk ht mt hv2 f1 f2 => ?_)
    have kj : j ≠ k := fun e => by
      subst e
      rw [List.getElem?_set_self (List.getElem?_eq_some_iff.mp hj).1] at ht; cases ht
    rw [List.getElem?_set_ne kj] at ht
    exact kj (ok.ap j k s t _ v a hj ht hm mt hv hv2 f1 f2)
  · exact q.elim
theorem ds_move (i j : Nat) {y : Str} {pos' p' : Pos} (hN : X.N.Nodup) (hi : X.N[i]? = some x := by rfl) (hx : Loc X.env.scope x := by first | exact Or.inl rfl | exact Or.inr rfl) (hy : X.N[j]? = some y := by rfl) (hvy : Vis X.env.scope y := by first | exact Or.inl rfl | exact Or.inr (Or.inl rfl) | exact Or.inr (Or.inr rfl))
    (hd : (y == ("__debug__" : Str)) = false := by decide) (hcd : (y == ("__classdict__" : Str)) = false := by decide) (hs : swapsWith (.Name y p') (some (.Name x pos')) pos.line X.env = pure false := by rfl) (hf : X.fn x = true ∨ X.env.scope.names.lookup x = some .local := by first | exact .inl rfl | exact .inr rfl | assumption) :
    DS X W cm (.Assign [.Name x pos'] (.Name y p') pos) (sMove i j) := ps_imp (ps_set hN hi hx (pe_var hy hvy hd hcd) hs hf) fun D σ H q => by
  obtain ⟨G0, H0, G, env, ok, q⟩ := q
  unfold sMove at q
  split at q
  · rename_i ds hj
    exact t_move ok hj rfl q
  · rename_i ds hj
    exact t_move ok hj rfl q
  · exact q.elim

/-! ### y = [..] -/
variable {elt tg iter : Expr} {ifs : List Expr} {scope : Scope} {own : List (Str × Nat)} {fi : En → Res (List PyData)} {t : Tgt} {pt : En → Res Bool}
theorem ds_setLc (i : Nat) {y : Str} {py spos : Pos} (hc : X.calm = true) (hN : X.N.Nodup) (hsw : swapsWith (.ListComp elt [⟨tg, iter, ifs, 0⟩] scope pos) (some (.Name y py)) spos.line X.env = pure true) (hi : DI X W cm tg iter fi) (ok : BlkOk X.N X.env.scope scope own) (hsub : ∀ j ∈ t.slots, j ∈ own.map (·.2))
    (hg : ∀ (s : Shared) (H : Hp) (C : Addr) (cl : List (Str × Addr)) (fp : List Addr), DG (X.blk s H scope (compEnvC scope cl C X.env) fp) tg t) (ht : ∀ (s : Shared) (H : Hp) (C : Addr) (cl : List (Str × Addr)) (fp : List Addr), DTs (X.blk s H scope (compEnvC scope cl C X.env) fp) W0 cm ifs pt)
    (he : ∀ (s : Shared) (H : Hp) (C : Addr) (cl : List (Str × Addr)) (fp : List Addr), DE (X.blk s H scope (compEnvC scope cl C X.env) fp) W0 cm elt f) (hy : X.N[i]? = some y := by rfl) (hyl : X.env.scope.names.lookup y = some .local := by rfl) (hs : ∀ x, foldedSetIterable iter X.env x = pure x := by intro _; rfl) :
    DS X W cm (.Assign [.Name y py] (.ListComp elt [⟨tg, iter, ifs, 0⟩] scope pos) spos) (sAsg (.one i) (fLst (fComp (own.map (·.2)) t fi pt f))) :=
  ps_imp (ps_setLc hc hN hy hyl hsw hi ok hg ht he hs) fun D σ H q => by
    obtain ⟨G0, H0, G, env, ok, q⟩ := q
    refine t_comp (f := f) (p := pt) (fi := fi) (cm := cm) (W := W) hsub ⟨G0, H0, G, env, ok, ?_⟩
    have q2 : ((fLst (fComp (own.map (·.2)) t fi pt f)) env).sat (fun d => OutP X.prog X.w X.K W cm G0 H0 G D (.nx (env.set i (some (.dat d))))) (exP W cm σ G H) := OutP.ofR ok q fun d _ k => k
    refine (Res.sat_map.mp q2).imp (fun ds _ k p vs G1 H1 g1 h1 h2 h3 da => ?_) fun _ z => z
    have g2 := g1.freeze h1 h2 h3
    exact k _ _ H1 g2.g ((ok.grow g2).dat (.lst (.inl (.inl upd_same)) (dpAll_mono (same_new h2) _ _ da)))
theorem ds_ownLc (i : Nat) {y : Str} {py spos : Pos} (hc : X.calm = true) (hN : X.N.Nodup) (hsw : swapsWith (.ListComp elt [⟨tg, iter, ifs, 0⟩] scope pos) (some (.Name y py)) spos.line X.env = pure true) (hi : DI X W cm tg iter fi) (ok : BlkOk X.N X.env.scope scope own) (hsub : ∀ j ∈ t.slots, j ∈ own.map (·.2))
    (hg : ∀ (s : Shared) (H : Hp) (C : Addr) (cl : List (Str × Addr)) (fp : List Addr), DG (X.blk s H scope (compEnvC scope cl C X.env) fp) tg t) (ht : ∀ (s : Shared) (H : Hp) (C : Addr) (cl : List (Str × Addr)) (fp : List Addr), DTs (X.blk s H scope (compEnvC scope cl C X.env) fp) W0 cm ifs pt)
    (he : ∀ (s : Shared) (H : Hp) (C : Addr) (cl : List (Str × Addr)) (fp : List Addr), DE (X.blk s H scope (compEnvC scope cl C X.env) fp) W0 cm elt f) (hy : X.N[i]? = some y := by rfl) (hyl : X.env.scope.names.lookup y = some .local := by rfl) (hs : ∀ x, foldedSetIterable iter X.env x = pure x := by intro _; rfl) :
    DS X W cm (.Assign [.Name y py] (.ListComp elt [⟨tg, iter, ifs, 0⟩] scope pos) spos) (sOwn i (fComp (own.map (·.2)) t fi pt f)) :=
  ps_imp (ps_setLc hc hN hy hyl hsw hi ok hg ht he hs) fun D σ H q => by
    have q2 : tAsg (tL X.prog X.w X.K W cm (fComp (own.map (·.2)) t fi pt f)) (gName i) D σ H := t_own q
    exact t_comp hsub q2

/-! ### a, b = e1, e2 -/
def sPar (i j : Nat) (f g : En → Res PyData) : En → Out := fun env => .ofR (f env) env fun d => .ofR (g env) env fun e => .nx ((env.set i (some (.dat d))).set j (some (.dat e)))
theorem ds_par (i j : Nat) {y : Str} {a b : Expr} {g : En → Res PyData} {px py pt : Pos} {kt k2 pt2} (hc : X.calm = true) (hN : X.N.Nodup) (ha : DE X W cm a f) (hb : DE X W cm b g)
    (hw : swappedStores [.Tuple [.Name x px, .Name y py] kt pt] (.Tuple [a, b] k2 pt2) X.env = pure (some [x, y]) := by rfl) (hi : X.N[i]? = some x := by rfl) (hj : X.N[j]? = some y := by rfl) (hij : i ≠ j := by decide) (hx : X.env.scope.names.lookup x = some .local := by rfl) (hy : X.env.scope.names.lookup y = some .local := by rfl)
    (hs : swapsWithSole [.Tuple [.Name x px, .Name y py] kt pt] (.Tuple [a, b] k2 pt2) pos.line X.env = pure false := by rfl)
    (he : starEach [a, b] X.env = (false, eval a X.env) :: starEach [b] X.env := by rfl) (he2 : starEach [b] X.env = [(false, eval b X.env)] := by rfl) :
    DS X W cm (.Assign [.Tuple [.Name x px, .Name y py] kt pt] (.Tuple [a, b] k2 pt2) pos) (sPar i j f g) :=
  ps_imp (ps_par hc hN hi hj hij hx hy (pa_cons ha (pa_cons hb pa_nil he2) he) hw hs) fun D σ H q => by
    obtain ⟨G0, H0, G, env, ok, q⟩ := q
    show tD X.prog X.w X.K W cm f σ H fun v H1 => tD X.prog X.w X.K W cm g σ H1 fun u H2 => ∃ v' w', [v, u] = [v', w'] ∧ D.nx ((σ.set i (some v')).set j (some w')) H2
    refine tD.go ok (OutP.ofR ok q fun d _ k v G1 H1 g1 ok1 dp => ?_)
    refine tD.go ok1 (OutP.ofR ok1 (k.mono g1.g) fun e _ k u G2 H2 g2 ok2 dq => ?_)
    exact ⟨v, u, rfl, k G2 _ H2 g2.g ((ok2.dat (dp_mono g2.g _ _ dp)).dat dq)⟩
end

/-! ### raise, try -/
/-- what the program's top says of an own class of errors over ValueError -/
structure ExcOk (K : PySem.W.Frag) (mg : Str → Option Value) (x : Str) (C : Addr) : Prop where
  g : mg x = some (.ref C)
  x : PySem.W.excIn K C [.type "ValueError", .type "Exception", .type "BaseException", .type "object"] "ValueError.__new__" = true
  k : PySem.W.keepIn K (.ref C) = true
  b : PySem.W.subIn K (.ref C) (.type "BaseException") = some true
  t : PySem.W.typeIn K (.ref C) = some (.type "type")
def sRaise (x : Str) : En → Out := fun env => .ex x env
def sNoEx (g : En → Out) : En → Out := fun env => match g env with
  | .ex _ _ => .no
  | o => o
section
variable {X : Cx} {W : WX} {cm : Str → Addr} {pos : Pos}
theorem ds_raise {x m : Str} {j : Nat} {p p2 pos2 : Pos} (hc : X.calm = true) (tk : Takes X W) (E : ExcOk X.K X.mg x (cm x)) (hg : Gl X x := by rfl) (hdb : (x == ("__debug__" : Str)) = false := by decide) :
    DS X W cm (.Raise (some (.Call (.Name x p) [.Constant (.str m) j p2] [] pos)) none pos2) (sRaise x) :=
  ps_imp (ps_raise hc tk (pmk_own PySem.F.excBase_ValueError E.x E.g E.k (raises_own E.b E.t) hg hdb)) fun D σ H q => by
    obtain ⟨G0, H0, G, env, ok, q⟩ := q
    exact q G σ H (Same.refl G) ok
theorem outP_noEx {P : Program} {w : World} {K : PySem.W.Frag} {G0 H0 G : Hp} {D : Ends} {o : Out} (h : OutP P w K W cm G0 H0 G D (match o with | .ex _ _ => Out.no | o => o)) : OutP P w K W0 cm G0 H0 G D o := by
  cases o with
  | nx e => exact h
  | rt d => exact h
  | rl d => exact h
  | rw d e => exact h
  | ex x e => exact h.elim
  | no => exact h
/-- try: body / except ..: the body raises nothing -/
theorem ds_thru {body : List Stmt} {h₀ : ExceptHandler} {hs : List ExceptHandler} {g : En → Out} (hb : DSs X.nox W0 cm body g) : DS X W cm (.Try body (h₀ :: hs) [] [] pos) (sNoEx g) := ps_imp (ps_try_thru0 hb) fun D σ H q => by
  obtain ⟨G0, H0, G, env, ok, q⟩ := q
  exact ⟨G0, H0, G, env, ok, outP_noEx q⟩
end

/-! ### defs -/
def initE (n : Nat) (ds : List PyData) : En := ds.map (fun d => some (.dat d)) ++ List.replicate (n - ds.length) none
def runD (g : En → Out) (n : Nat) : List PyData → Res PyData := fun ds => match g (initE n ds) with
  | .nx _ => .ok .none
  | .rt d => .ok d
  | .rl ds => .ok (.list ds)
  | .rw d _ => .ok d
  | .ex x _ => .ex x
  | .no => .no
def runL (g : En → Out) (n : Nat) : List PyData → Res (List PyData) := fun ds => match g (initE n ds) with
  | .rl ds => .ok ds
  | .ex x _ => .ex x
  | _ => .no
theorem initE_get {n : Nat} {ds : List PyData} {i : Nat} {s : SV} (h : (initE n ds)[i]? = some (some s)) : ∃ d, ds[i]? = some d ∧ s = .dat d := by
  unfold initE at h
  by_cases hi : i < ds.length
  · rw [List.getElem?_append_left (by rw [List.length_map]; exact hi), List.getElem?_map] at h
    cases q : ds[i]? with
    | none => rw [q] at h; cases h
    | some d => rw [q] at h; cases h; exact ⟨d, rfl, rfl⟩
  · rw [List.getElem?_append_right (by rw [List.length_map]; omega), List.getElem?_replicate] at h
    split at h <;> cases h
theorem start_get {N : List Str} {vs : List V} {i : Nat} {v : V} (h : vs[i]? = some v) : (L2.start N vs)[i]? = some (some v) := by
  unfold L2.start
  rw [List.getElem?_append_left (by rw [List.length_map]; exact (List.getElem?_eq_some_iff.mp h).1), List.getElem?_map, h]
  rfl
theorem ok_start {P : Program} {w : World} {K : PySem.W.Frag} {G H : Hp} {N : List Str} {vs : List V} {ds : List PyData} (gh : Same G H) (da : DpAll K G vs ds) : OkG P w K G H G (initE N.length ds) (L2.start N vs) H where
  gr := Grow.refl gh
  len := by
    unfold initE L2.start
    rw [List.length_append, List.length_append, List.length_map, List.length_map, List.length_replicate, List.length_replicate, dpAll_length da]
  sl := fun i s h => by
    obtain ⟨d, hd, rfl⟩ := initE_get h
    obtain ⟨v, hv, dp⟩ := dpAll_get da hd
    exact ⟨v, start_get hv, dp⟩
  ap := fun i j s t u v a h1 _ m1 _ _ _ _ _ => by
    obtain ⟨d, _, rfl⟩ := initE_get h1
    cases m1
section
variable {P : Program} {w : World} {K : PySem.W.Frag} {mg : Str → Option Value} {base : Heap} {cm : Str → Addr}
abbrev WD (E : XK) : WX := fun cls d _ H => E cls d H
theorem fnD {x qual : Str} {st : Stmt} {f : Addr} {fd : FuncData} {N ps : List Str} {k : Nat} {g : En → Out} (F : Fun K x qual st f fd) (S : FnScope N ps (defScope st))
    (hbody : ∀ (cdv : Value) (A : Around) (outer : List Env) (s : Shared) (H : Hp) (E : XK), Room k (A.deeper (envOfC qual (defScope st) s.heap.objs.size f cdv)) →
      PSs (cxOf (L2.CX P w) P w K mg base N qual (defScope st) f cdv A outer s H E) (defBody st) (tS P w K (WD E) cm g)) : FnOk P w K mg base (L2.CX P w) (k + 1) f fd ps (spD K cm ps.length (runD g N.length)) := by
  refine F.okX S (fun vs H Q E h => h.1) (fun cdv A outer s H vs Q E hr h => ⟨_, hbody cdv A outer s H E hr, ?_⟩)
  obtain ⟨hl, G, ds, gh, da, h⟩ := h
  refine ⟨G, H, G, _, ok_start gh da, ?_⟩
  unfold runD at h
  cases eg : g (initE N.length ds) with
  | nx e => rw [eg] at h; exact fun G' σ' H' s ok' => h _ G' H' ok'.gr .non
  | rt d => rw [eg] at h; exact fun v G' H' gr dp => h v G' H' gr dp
  | rw d e => rw [eg] at h; exact fun v G' σ' H' s ok' dp => h v G' H' ok'.gr dp
  | rl ds => rw [eg] at h; exact fun p vs G' H' gr h1 h2 h3 da => h _ _ _ (gr.freeze h1 h2 h3) (.lst (.inl (.inl upd_same)) (dpAll_mono (same_new h2) _ _ da))
  | ex x e => rw [eg] at h; exact fun G' σ' H' s ok' => h G' H' ok'.gr
  | no => rw [eg] at h; exact h.elim
theorem fnL {x qual : Str} {st : Stmt} {f : Addr} {fd : FuncData} {N ps : List Str} {k : Nat} {g : En → Out} (F : Fun K x qual st f fd) (S : FnScope N ps (defScope st))
    (hbody : ∀ (cdv : Value) (A : Around) (outer : List Env) (s : Shared) (H : Hp) (E : XK), Room k (A.deeper (envOfC qual (defScope st) s.heap.objs.size f cdv)) →
      PSs (cxOf (L2.CX P w) P w K mg base N qual (defScope st) f cdv A outer s H E) (defBody st) (tS P w K (WD E) cm g)) : FnOk P w K mg base (L2.CX P w) (k + 1) f fd ps (spL K cm ps.length (runL g N.length)) := by
  refine F.okX S (fun vs H Q E h => h.1) (fun cdv A outer s H vs Q E hr h => ⟨_, hbody cdv A outer s H E hr, ?_⟩)
  obtain ⟨hl, G, ds, gh, da, h⟩ := h
  refine ⟨G, H, G, _, ok_start gh da, ?_⟩
  unfold runL at h
  cases eg : g (initE N.length ds) with
  | nx e => rw [eg] at h; exact h.elim
  | rt d => rw [eg] at h; exact h.elim
  | rw d e => rw [eg] at h; exact h.elim
  | rl ds => rw [eg] at h; exact fun p vs G' H' gr h1 h2 h3 da => h p vs G' H' gr h1 h2 h3 da
  | ex x e => rw [eg] at h; exact fun G' σ' H' s ok' => h G' H' ok'.gr
  | no => rw [eg] at h; exact h.elim
end
end GL

/-! # The data layer, part j: defs of the text and their callers -/
namespace GL
open PySem PySem.Spec PyProof.Rows L2

/-- the def st stands at the module's name x -/
def DefAt (K : PySem.W.Frag) (mg : Str → Option Value) (x : Str) (st : Stmt) : Prop := ∃ f fd, Fun K x x st f fd ∧ mg x = some (.ref f)
/-- what a caller wants of a def -/
def Callee (P : Program) (w : World) (K : PySem.W.Frag) (mg : Str → Option Value) (base : Heap) (k : Nat) (x : Str) (ps : List Str) (sp : Sp) : Prop :=
  ∃ f fd, PySem.W.keepIn K (.ref f) = true ∧ Binds K fd ps [] ∧ mg x = some (.ref f) ∧ FnOk P w K mg base (L2.CX P w) k f fd ps sp
section
variable {P : Program} {w : World} {K : PySem.W.Frag} {mg : Str → Option Value} {base : Heap} {cm : Str → Addr}
theorem callee_D {x : Str} {st : Stmt} {N ps : List Str} {k : Nat} {g : En → Out} (D : DefAt K mg x st) (S : FnScope N ps (defScope st))
    (hb : ∀ (kV doc pm : Value) (an : Option Addr) (cdv ct : Value) (us : List Value), us.length = ps.length → bindArgs (PySem.W.fnOf x x (defArgs st) (defBody st) (defScope st) .none kV doc pm an cdv ct) ⟨us, []⟩ = pure (ps.zip us))
    (hbody : ∀ {f : Addr} (cdv : Value) (A : Around) (outer : List Env) (s : Shared) (H : Hp) (E : XK), Room k (A.deeper (envOfC x (defScope st) s.heap.objs.size f cdv)) →
      Takes (cxOf (L2.CX P w) P w K mg base N x (defScope st) f cdv A outer s H E) (WD E) → PassesOwn (model P w) (A.deeper (envOfC x (defScope st) s.heap.objs.size f cdv)) (envOfC x (defScope st) s.heap.objs.size f cdv) (cxOf (L2.CX P w) P w K mg base N x (defScope st) f cdv A outer s H E).xe →
      PSs (cxOf (L2.CX P w) P w K mg base N x (defScope st) f cdv A outer s H E) (defBody st) (tS P w K (WD E) cm g)) : Callee P w K mg base (k + 1) x ps (spD K cm ps.length (runD g N.length)) := by
  obtain ⟨f, fd, F, hm⟩ := D
  exact ⟨f, fd, F.kp, F.binds hb, hm, fnD F S fun cdv A outer s H E hr => hbody cdv A outer s H E hr (takes_of rfl rfl rfl rfl) (passes_of rfl)⟩
theorem callee_L {x : Str} {st : Stmt} {N ps : List Str} {k : Nat} {g : En → Out} (D : DefAt K mg x st) (S : FnScope N ps (defScope st))
    (hb : ∀ (kV doc pm : Value) (an : Option Addr) (cdv ct : Value) (us : List Value), us.length = ps.length → bindArgs (PySem.W.fnOf x x (defArgs st) (defBody st) (defScope st) .none kV doc pm an cdv ct) ⟨us, []⟩ = pure (ps.zip us))
    (hbody : ∀ {f : Addr} (cdv : Value) (A : Around) (outer : List Env) (s : Shared) (H : Hp) (E : XK), Room k (A.deeper (envOfC x (defScope st) s.heap.objs.size f cdv)) →
      Takes (cxOf (L2.CX P w) P w K mg base N x (defScope st) f cdv A outer s H E) (WD E) → PassesOwn (model P w) (A.deeper (envOfC x (defScope st) s.heap.objs.size f cdv)) (envOfC x (defScope st) s.heap.objs.size f cdv) (cxOf (L2.CX P w) P w K mg base N x (defScope st) f cdv A outer s H E).xe →
      PSs (cxOf (L2.CX P w) P w K mg base N x (defScope st) f cdv A outer s H E) (defBody st) (tS P w K (WD E) cm g)) : Callee P w K mg base (k + 1) x ps (spL K cm ps.length (runL g N.length)) := by
  obtain ⟨f, fd, F, hm⟩ := D
  exact ⟨f, fd, F.kp, F.binds hb, hm, fnL F S fun cdv A outer s H E hr => hbody cdv A outer s H E hr (takes_of rfl rfl rfl rfl) (passes_of rfl)⟩
/-- a promise that says nothing -/
theorem callee_never {x : Str} {st : Stmt} {ps : List Str} {k : Nat} (D : DefAt K mg x st)
    (hb : ∀ (kV doc pm : Value) (an : Option Addr) (cdv ct : Value) (us : List Value), us.length = ps.length → bindArgs (PySem.W.fnOf x x (defArgs st) (defBody st) (defScope st) .none kV doc pm an cdv ct) ⟨us, []⟩ = pure (ps.zip us)) :
    Callee P w K mg base k x ps (spD K cm ps.length fun _ => .no) := by
  obtain ⟨f, fd, F, hm⟩ := D
  refine ⟨f, fd, F.kp, F.binds hb, hm, fun vs H Q E h => h.1, fun A outer s H args us vs Q E hr e0 hbb hv h => ?_⟩
  obtain ⟨_, G, ds, _, _, h⟩ := h
  exact h.elim
theorem Callee.mono {k k' : Nat} {x : Str} {ps : List Str} {sp : Sp} (C : Callee P w K mg base k x ps sp) (h : k ≤ k') : Callee P w K mg base k' x ps sp := by
  obtain ⟨f, fd, h1, h2, h3, h4⟩ := C
  exact ⟨f, fd, h1, h2, h3, h4.mono h⟩
end
section
variable {X : Cx} {W : WX} {cm : Str → Addr} {k k' : Nat} {ps : List Str} {x : Str} {p pos : Pos} {e : Expr} {es : List Expr} {n : Nat}
theorem de_cl {F : List PyData → Res PyData} {g : En → Res (List PyData)} (C : Callee X.prog X.w X.K X.mg X.base k x ps (spD X.K cm n F)) (hr : Room k' X.A) (hle : k ≤ k') (tk : Takes X W) (ha : DA X W cm (e :: es) g) (hlen : Len n g) (hg : Gl X x := by rfl)
    (hdb : (x == ("__debug__" : Str)) = false := by decide) (he : starEach (e :: es) X.env = (false, eval e X.env) :: starEach es X.env := by rfl) (hpl : (backTo pos (starEach es X.env)).any (·.1) = false := by rfl) :
    DE X W cm (.Call (.Name x p) (e :: es) [] pos) (fCall F g) := by
  obtain ⟨f, fd, h1, h2, h3, h4⟩ := C
  exact de_call h4 (hr.mono hle) hg h3 h1 h2 tk ha hlen hdb he hpl
theorem dl_cl {F : List PyData → Res (List PyData)} {g : En → Res (List PyData)} (C : Callee X.prog X.w X.K X.mg X.base k x ps (spL X.K cm n F)) (hr : Room k' X.A) (hle : k ≤ k') (tk : Takes X W) (ha : DA X W cm (e :: es) g) (hlen : Len n g) (hg : Gl X x := by rfl)
    (hdb : (x == ("__debug__" : Str)) = false := by decide) (he : starEach (e :: es) X.env = (false, eval e X.env) :: starEach es X.env := by rfl) (hpl : (backTo pos (starEach es X.env)).any (·.1) = false := by rfl) :
    DL X W cm (.Call (.Name x p) (e :: es) [] pos) (fCallL F g) := by
  obtain ⟨f, fd, h1, h2, h3, h4⟩ := C
  exact dl_call h4 (hr.mono hle) hg h3 h1 h2 tk ha hlen hdb he hpl
end
end GL

/-! # The data layer, part k: how the functions evaluate -/
namespace GL
open PySem PySem.Spec PyProof.Rows L2
/-- what a slot gives -/
def gD : Option (Option SV) → Res PyData := fun o => match o with
  | some (some (.dat d)) => .ok d
  | _ => .no
@[simp] theorem gD_dat (d : PyData) : gD (some (some (.dat d))) = .ok d := (rfl)
def gQ : Option (Option SV) → Res (Bool × List PyData) := fun o => match o with
  | some (some (.own ds)) => .ok (false, ds)
  | some (some (.dat (.list ds))) => .ok (false, ds)
  | some (some (.dat (.tuple ds))) => .ok (true, ds)
  | _ => .no
@[simp] theorem gQ_own (ds : List PyData) : gQ (some (some (.own ds))) = .ok (false, ds) := (rfl)
@[simp] theorem gQ_list (ds : List PyData) : gQ (some (some (.dat (.list ds)))) = .ok (false, ds) := (rfl)
@[simp] theorem gQ_tup (ds : List PyData) : gQ (some (some (.dat (.tuple ds)))) = .ok (true, ds) := (rfl)
def gO (o : Option (Option SV)) (k : List PyData → Out) : Out := match o with
  | some (some (.own ds)) => k ds
  | _ => .no
@[simp] theorem gO_own (ds : List PyData) (k : List PyData → Out) : gO (some (some (.own ds))) k = k ds := (rfl)
def opR {α : Type} : Option α → Res α
  | some d => .ok d
  | none => .no
@[simp] theorem opR_some {α : Type} (d : α) : opR (some d) = .ok d := (rfl)
def thenO (o : Out) (s : En → Out) : Out := match o with
  | .nx e => s e
  | o => o
@[simp] theorem thenO_nx (e : En) (s : En → Out) : thenO (.nx e) s = s e := (rfl)
@[simp] theorem thenO_rt (d : PyData) (s : En → Out) : thenO (.rt d) s = .rt d := (rfl)
@[simp] theorem thenO_rw (d : PyData) (e : En) (s : En → Out) : thenO (.rw d e) s = .rw d e := (rfl)
@[simp] theorem thenO_rl (d : List PyData) (s : En → Out) : thenO (.rl d) s = .rl d := (rfl)
@[simp] theorem thenO_ex (x : Str) (e : En) (s : En → Out) : thenO (.ex x e) s = .ex x e := (rfl)
def noX (o : Out) : Out := match o with
  | .ex _ _ => .no
  | o => o
@[simp] theorem noX_nx (e : En) : noX (.nx e) = .nx e := (rfl)
@[simp] theorem noX_rt (d : PyData) : noX (.rt d) = .rt d := (rfl)
@[simp] theorem noX_rl (d : List PyData) : noX (.rl d) = .rl d := (rfl)
def frzO (env : En) (i : Nat) (o : Option (Option SV)) : En := match o with
  | some (some (.own ds)) => env.set i (some (.dat (.list ds)))
  | _ => env
@[simp] theorem frzO_own (env : En) (i : Nat) (ds : List PyData) : frzO env i (some (some (.own ds))) = env.set i (some (.dat (.list ds))) := (rfl)
@[simp] theorem frzO_dat (env : En) (i : Nat) (d : PyData) : frzO env i (some (some (.dat d))) = env := (rfl)
section
variable (env : En) (f g h : En → Res PyData) (p q : En → Res Bool)
@[simp] theorem fVar_e (i : Nat) : fVar i env = gD env[i]? := (rfl)
@[simp] theorem fQV_e (i : Nat) : fQV i env = gQ env[i]? := (rfl)
@[simp] theorem fC_e (d : PyData) : fC d env = .ok d := (rfl)
@[simp] theorem f1_e (o : PyData → Res PyData) : f1 o f env = (f env).bind o := (rfl)
@[simp] theorem f2_e (o : PyData → PyData → Res PyData) : f2 o f g env = (f env).bind fun d => (g env).bind fun e => o d e := (rfl)
@[simp] theorem fLst_e (f : En → Res (List PyData)) : fLst f env = (f env).map .list := (rfl)
@[simp] theorem fQ_e : fQ f env = (f env).bind asQ := (rfl)
@[simp] theorem fQL_e (f : En → Res (List PyData)) : fQL f env = (f env).map fun ds => (false, ds) := (rfl)
@[simp] theorem fNil_e : fNil env = .ok [] := (rfl)
@[simp] theorem fCons_e (g : En → Res (List PyData)) : fCons f g env = (f env).bind fun d => (g env).map fun ds => d :: ds := (rfl)
@[simp] theorem fTup_e (f : En → Res (List PyData)) : fTup f env = (f env).bind fun ds => if ds.length ≤ 1000 then .ok (.tuple ds) else .no := (rfl)
@[simp] theorem fDsp_e (f : En → Res (List PyData)) : fDsp f env = (f env).bind fun ds => if ds.length ≤ 1000 then .ok ds else .no := (rfl)
@[simp] theorem fB_e : fB f env = (f env).bind isB := (rfl)
@[simp] theorem fTru_e : fTru f env = (f env).bind truD := (rfl)
@[simp] theorem fTruQ_e (f : En → Res (Bool × List PyData)) : fTruQ f env = (f env).map fun q => !q.2.isEmpty := (rfl)
@[simp] theorem fAndT_e : fAndT p q env = (p env).bind fun b => if b then q env else .ok false := (rfl)
@[simp] theorem fOrT_e : fOrT p q env = (p env).bind fun b => if b then .ok true else q env := (rfl)
@[simp] theorem fNotT_e : fNotT p env = (p env).map fun b => !b := (rfl)
@[simp] theorem fAnd_e : fAnd f g env = (f env).bind fun d => (truD d).bind fun b => if b then g env else .ok d := (rfl)
@[simp] theorem fOr_e : fOr f g env = (f env).bind fun d => (truD d).bind fun b => if b then .ok d else g env := (rfl)
@[simp] theorem fNot_e : fNot f env = (f env).bind fun d => (truD d).map fun b => .bool (!b) := (rfl)
@[simp] theorem fIf_e : fIf p f g env = (p env).bind fun b => if b then f env else g env := (rfl)
@[simp] theorem fChain_e (o o' : PyData → PyData → Res PyData) : fChain o o' f g h env = (f env).bind fun d => (g env).bind fun e => (o d e).bind fun r => (isB r).bind fun k => if k then (h env).bind fun z => o' e z else .ok (.bool false) := (rfl)
@[simp] theorem fInQ_e (g : En → Res (Bool × List PyData)) : fInQ f g env = (f env).bind fun d => (g env).bind fun q => inD d (if q.1 then .tuple q.2 else .list q.2) := (rfl)
@[simp] theorem fNinQ_e (g : En → Res (Bool × List PyData)) : fNinQ f g env = (f env).bind fun d => (g env).bind fun q => ninD d (if q.1 then .tuple q.2 else .list q.2) := (rfl)
@[simp] theorem fIxQ_e (f : En → Res (Bool × List PyData)) : fIxQ f g env = (f env).bind fun q => (g env).bind fun d => ixD (.list q.2) d := (rfl)
@[simp] theorem fCall_e (o : List PyData → Res PyData) (f : En → Res (List PyData)) : fCall o f env = (f env).bind o := (rfl)
@[simp] theorem fCallL_e (o : List PyData → Res (List PyData)) (f : En → Res (List PyData)) : fCallL o f env = (f env).bind o := (rfl)
@[simp] theorem fCQ_e (o : Bool × List PyData → Res PyData) (f : En → Res (Bool × List PyData)) : fCQ o f env = (f env).bind o := (rfl)
@[simp] theorem fCQL_e (o : Bool × List PyData → Res (List PyData)) (f : En → Res (Bool × List PyData)) : fCQL o f env = (f env).bind o := (rfl)
@[simp] theorem fIsi_e (T : Ty) : fIsi T f env = (f env).map fun d => .bool (isTy T d) := (rfl)
@[simp] theorem fIsi2_e (T U : Ty) : fIsi2 T U f env = (f env).map fun d => .bool (isTy T d || isTy U d) := (rfl)
@[simp] theorem fON_e : fON env = .ok none := (rfl)
@[simp] theorem fOS_e : fOS f env = (f env).bind asI := (rfl)
@[simp] theorem fSl_e (lo hi : En → Res (Option Int)) : fSl f lo hi env = (f env).bind fun d => (lo env).bind fun l => (hi env).bind fun h => slD d l h := (rfl)
@[simp] theorem fJoin_e (g : En → Res (Bool × List PyData)) : fJoin f g env = ((f env).bind isS).bind fun a => (g env).bind fun q => joinD a q := (rfl)
@[simp] theorem fSS_e {α : Type} (o : Str → Str → Res α) : fSS o f g env = ((f env).bind isS).bind fun a => ((g env).bind isS).bind fun b => o a b := (rfl)
@[simp] theorem fS1_e {α : Type} (o : Str → Res α) : fS1 o f env = ((f env).bind isS).bind o := (rfl)
@[simp] theorem fSnd_e (f : En → Res (Bool × List PyData)) : fSnd f env = (f env).map Prod.snd := (rfl)
@[simp] theorem fItems_e : fItems f env = (f env).bind itemsD := (rfl)
@[simp] theorem fRange_e (f : En → Res (List PyData)) : fRange f env = (f env).bind rangeD := (rfl)
@[simp] theorem fZip_e (f : En → Res (List PyData)) : fZip f env = (f env).bind zipD := (rfl)
@[simp] theorem fComp_e (own : List Nat) (t : Tgt) (fi : En → Res (List PyData)) : fComp own t fi p f env = (fi env).bind fun ds => compF t p f (wipeE env own) ds := (rfl)
@[simp] theorem pYes_e : pYes env = .ok true := (rfl)
variable (s1 s2 : En → Out)
@[simp] theorem sSeq_e : sSeq s1 s2 env = thenO (s1 env) s2 := (rfl)
@[simp] theorem sNext_e : sNext env = .nx env := (rfl)
@[simp] theorem sIf_e : sIf p s1 s2 env = .ofR (p env) env fun b => if b then s1 env else s2 env := (rfl)
@[simp] theorem sRet_e : sRet f env = .ofR (f env) env .rt := (rfl)
@[simp] theorem sRetL_e (f : En → Res (List PyData)) : sRetL f env = .ofR (f env) env .rl := (rfl)
@[simp] theorem sRetO_e (i : Nat) : sRetO i env = gO env[i]? .rl := (rfl)
@[simp] theorem sAsg_e (t : Tgt) : sAsg t f env = .ofR (f env) env fun d => .ofR (bindT t d env) env .nx := (rfl)
@[simp] theorem sOwn_e (i : Nat) (f : En → Res (List PyData)) : sOwn i f env = .ofR (f env) env fun ds => .nx (env.set i (some (.own ds))) := (rfl)
@[simp] theorem sDrop_e : sDrop f env = .ofR (f env) env fun _ => .nx env := (rfl)
@[simp] theorem sFrz_e (i : Nat) : sFrz i s1 env = s1 (frz i env) := (rfl)
@[simp] theorem sFor_e (t : Tgt) (fi : En → Res (List PyData)) : sFor t fi s1 env = .ofR (fi env) env fun ds => forL t s1 ds env := (rfl)
@[simp] theorem sApp_e (i : Nat) : sApp i f env = gO env[i]? fun ds => .ofR (f env) env fun d => if ds.length < sizeLine then .nx (env.set i (some (.own (ds ++ [d])))) else .no := (rfl)
@[simp] theorem sExt_e (i : Nat) (f : En → Res (List PyData)) : sExt i f env = gO env[i]? fun ds => .ofR (f env) env fun es => if ds.length + es.length ≤ sizeLine then .nx (env.set i (some (.own (ds ++ es)))) else .no := (rfl)
@[simp] theorem sPar_e (i j : Nat) : sPar i j f g env = .ofR (f env) env fun d => .ofR (g env) env fun e => .nx ((env.set i (some (.dat d))).set j (some (.dat e))) := (rfl)
@[simp] theorem sRaise_e (x : Str) : sRaise x env = .ex x env := (rfl)
@[simp] theorem sNoEx_e : sNoEx s1 env = noX (s1 env) := (rfl)
@[simp] theorem bindT_one (i : Nat) (d : PyData) : bindT (.one i) d env = .ok (env.set i (some (.dat d))) := (rfl)
@[simp] theorem bindT_many (is : List Nat) (ds : List PyData) : bindT (.many is) (.tuple ds) env = if ds.length = is.length then .ok (setAll is ds env) else .no := (rfl)
@[simp] theorem setAll_nil (ds : List PyData) : setAll [] ds env = env := (rfl)
@[simp] theorem setAll_cons (i : Nat) (is : List Nat) (d : PyData) (ds : List PyData) : setAll (i :: is) (d :: ds) env = setAll is ds (env.set i (some (.dat d))) := (rfl)
@[simp] theorem wipeE_nil : wipeE env [] = env := (rfl)
@[simp] theorem wipeE_cons (v : Nat) (vs : List Nat) : wipeE env (v :: vs) = (wipeE env vs).set v none := (rfl)
@[simp] theorem addD_int (i j : Int) : addD (.int i) (.int j) = .ok (.int (i + j)) := (rfl)
theorem addD_str (x y : Str) : addD (.str x) (.str y) = if x.length + y.length ≤ sizeLine then .ok (.str (x ++ y)) else .no := rfl
@[simp] theorem addD_tup (x y : List PyData) : addD (.tuple x) (.tuple y) = if x.length + y.length ≤ sizeLine then .ok (.tuple (x ++ y)) else .no := (rfl)
@[simp] theorem subD_int (i j : Int) : subD (.int i) (.int j) = .ok (.int (i - j)) := (rfl)
@[simp] theorem mulD_int (i j : Int) : mulD (.int i) (.int j) = if mulOk i j = true then .ok (.int (i * j)) else .no := (rfl)
@[simp] theorem modD_int (i j : Int) : modD (.int i) (.int j) = if 0 < j then .ok (.int (i % j)) else .no := (rfl)
@[simp] theorem leD_int (i j : Int) : leD (.int i) (.int j) = .ok (.bool (decide (i ≤ j))) := (rfl)
@[simp] theorem gtD_int (i j : Int) : gtD (.int i) (.int j) = .ok (.bool (decide (j < i))) := (rfl)
@[simp] theorem geD_int (i j : Int) : geD (.int i) (.int j) = .ok (.bool (decide (j ≤ i))) := (rfl)
@[simp] theorem ltD_int (i j : Int) : ltD (.int i) (.int j) = .ok (.bool (decide (i < j))) := by
  unfold ltD
  rw [PySem.W.dataLt_int]
  simp [PySem.W.alike, PyData.depth]
theorem shaped_int (i : Int) : SeqAt.shaped (.int i) = true := by simp [SeqAt.shaped, PyData.canLay0, PyData.depth]
@[simp] theorem eqD_int (i j : Int) : eqD (.int i) (.int j) = .ok (.bool (decide (i = j))) := by
  unfold eqD
  rw [shaped_int, shaped_int]
  show Res.ok (PyData.bool (i == j)) = _
  have : (i == j) = decide (i = j) := by
    by_cases h : i = j
    · subst h; simp
    · rw [decide_eq_false h, beq_eq_false_iff_ne]; exact h
  rw [this]
@[simp] theorem neD_int (i j : Int) : neD (.int i) (.int j) = .ok (.bool (!decide (i = j))) := by
  unfold neD
  rw [shaped_int, shaped_int]
  show Res.ok (PyData.bool (!(i == j))) = _
  have : (i == j) = decide (i = j) := by
    by_cases h : i = j
    · subst h; simp
    · rw [decide_eq_false h, beq_eq_false_iff_ne]; exact h
  rw [this]
@[simp] theorem isB_bool (b : Bool) : isB (.bool b) = .ok b := (rfl)
@[simp] theorem truD_bool (b : Bool) : truD (.bool b) = .ok b := (rfl)
@[simp] theorem truD_none : truD .none = .ok false := (rfl)
@[simp] theorem truD_int (i : Int) : truD (.int i) = .ok (i != 0) := (rfl)
@[simp] theorem truD_list (ds : List PyData) : truD (.list ds) = .ok (!ds.isEmpty) := (rfl)
@[simp] theorem truD_tup (ds : List PyData) : truD (.tuple ds) = .ok (!ds.isEmpty) := (rfl)
@[simp] theorem asQ_list (ds : List PyData) : asQ (.list ds) = .ok (false, ds) := (rfl)
@[simp] theorem asQ_tup (ds : List PyData) : asQ (.tuple ds) = .ok (true, ds) := (rfl)
@[simp] theorem itemsD_list (ds : List PyData) : itemsD (.list ds) = .ok ds := (rfl)
@[simp] theorem itemsD_tup (ds : List PyData) : itemsD (.tuple ds) = .ok ds := (rfl)
theorem itemsD_str (z : Str) : itemsD (.str z) = if z.length ≤ sizeLine then .ok (signsD z) else .no := (rfl)
@[simp] theorem lenD_list (ds : List PyData) : lenD [.list ds] = .ok (.int ds.length) := (rfl)
@[simp] theorem lenD_tup (ds : List PyData) : lenD [.tuple ds] = .ok (.int ds.length) := (rfl)
theorem lenD_str (y : Str) : lenD [.str y] = if y.length ≤ sizeLine then .ok (.int y.length) else .no := (rfl)
@[simp] theorem lenQ_e (q : Bool × List PyData) : lenQ q = .ok (.int q.2.length) := (rfl)
@[simp] theorem tupleQ_e (q : Bool × List PyData) : tupleQ q = .ok (.tuple q.2) := (rfl)
@[simp] theorem listQ_e (q : Bool × List PyData) : listQ q = .ok q.2 := (rfl)
@[simp] theorem ixD_list_e (ds : List PyData) (i : Int) : ixD (.list ds) (.int i) = opR (atI ds i) := by
  show (match atI ds i with
    | some d => Res.ok d
    | none => .no) = _
  cases atI ds i <;> rfl
@[simp] theorem ixD_tup_e (ds : List PyData) (i : Int) : ixD (.tuple ds) (.int i) = opR (atI ds i) := by
  show (match atI ds i with
    | some d => Res.ok d
    | none => .no) = _
  cases atI ds i <;> rfl
@[simp] theorem isS_e (a : Str) : isS (.str a) = .ok a := (rfl)
@[simp] theorem asI_e (i : Int) : asI (.int i) = .ok (some i) := (rfl)
@[simp] theorem isD_nn : isD .none .none = .ok (.bool true) := (rfl)
@[simp] theorem isD_bb (a b : Bool) : isD (.bool a) (.bool b) = .ok (.bool (decide (a = b))) := (rfl)
@[simp] theorem isD_in (i : Int) : isD (.int i) .none = .ok (.bool false) := (rfl)
@[simp] theorem isD_sn (i : Str) : isD (.str i) .none = .ok (.bool false) := (rfl)
@[simp] theorem isD_bn (i : Bool) : isD (.bool i) .none = .ok (.bool false) := (rfl)
@[simp] theorem isD_tn (i : List PyData) : isD (.tuple i) .none = .ok (.bool false) := (rfl)
@[simp] theorem isD_ln (i : List PyData) : isD (.list i) .none = .ok (.bool false) := (rfl)
@[simp] theorem notB_e (b : Bool) : notB (.bool b) = .ok (.bool (!b)) := (rfl)
@[simp] theorem isnD_e (d e : PyData) : isnD d e = (isD d e).bind notB := (rfl)
@[simp] theorem ninD_e (d e : PyData) : ninD d e = (inD d e).bind notB := (rfl)
theorem rangeD_1 (j : Int) : rangeD [.int j] = if -(2 ^ 62) ≤ j ∧ j ≤ 16777216 then .ok (upTo 0 j.toNat) else .no := rfl
theorem rangeD_2 (i j : Int) : rangeD [.int i, .int j] = if (-(2 ^ 62) ≤ i ∧ i < 2 ^ 62) ∧ -(2 ^ 62) ≤ j ∧ j < 2 ^ 62 ∧ (j - i).toNat ≤ 16777216 then .ok (upTo i (j - i).toNat) else .no := rfl
@[simp] theorem frz_e (i : Nat) : frz i env = frzO env i env[i]? := (rfl)
end
theorem rangeD_n {n : Nat} (h : n ≤ 16777216) : rangeD [.int (n : Int)] = .ok ((List.range n).map fun (i : Nat) => .int (i : Int)) := by
  rw [rangeD_1, if_pos (by omega)]
  unfold upTo
  simp
theorem rangeD_1n {n : Nat} (h : n ≤ 16777216) : rangeD [.int 1, .int (n : Int)] = .ok ((List.range (n - 1)).map fun (i : Nat) => .int (1 + (i : Int))) := by
  rw [rangeD_2, if_pos (by omega)]
  unfold upTo
  rw [show ((n : Int) - 1).toNat = n - 1 by omega]
theorem runD_e (g : En → Out) (n : Nat) (ds : List PyData) : runD g n ds = (match g (initE n ds) with
  | .nx _ => .ok .none
  | .rt d => .ok d
  | .rl ds => .ok (.list ds)
  | .rw d _ => .ok d
  | .ex x _ => .ex x
  | .no => .no) := rfl
theorem runL_e (g : En → Out) (n : Nat) (ds : List PyData) : runL g n ds = (match g (initE n ds) with
  | .rl ds => .ok ds
  | .ex x _ => .ex x
  | _ => .no) := rfl

theorem runD_rt {g : En → Out} {n : Nat} {ds : List PyData} {d : PyData} (h : g (initE n ds) = .rt d) : runD g n ds = .ok d := by rw [runD_e, h]
theorem runD_rl {g : En → Out} {n : Nat} {ds : List PyData} {d : List PyData} (h : g (initE n ds) = .rl d) : runD g n ds = .ok (.list d) := by rw [runD_e, h]
theorem runD_nx {g : En → Out} {n : Nat} {ds : List PyData} {e : En} (h : g (initE n ds) = .nx e) : runD g n ds = .ok .none := by rw [runD_e, h]
theorem runD_ex {g : En → Out} {n : Nat} {ds : List PyData} {x : Str} {e : En} (h : g (initE n ds) = .ex x e) : runD g n ds = .ex x := by rw [runD_e, h]
theorem runL_rl {g : En → Out} {n : Nat} {ds : List PyData} {d : List PyData} (h : g (initE n ds) = .rl d) : runL g n ds = .ok d := by rw [runL_e, h]
theorem runL_ex {g : En → Out} {n : Nat} {ds : List PyData} {x : Str} {e : En} (h : g (initE n ds) = .ex x e) : runL g n ds = .ex x := by rw [runL_e, h]
theorem sSeq_nx {s1 s2 : En → Out} {env e : En} (h : s1 env = .nx e) : sSeq s1 s2 env = s2 e := by rw [sSeq_e, h]; rfl
/-! ### loops by typed lists -/
theorem compF_map {α : Type} (enc : α → PyData) {t : Tgt} {p : En → Res Bool} {f : En → Res PyData} {env : En} (e : α → En) (q : α → Bool) (y : α → PyData) : ∀ (xs : List α),
    (∀ x ∈ xs, bindT t (enc x) env = .ok (e x) ∧ p (e x) = .ok (q x) ∧ (q x = true → f (e x) = .ok (y x))) → compF t p f env (xs.map enc) = .ok ((xs.filter q).map y)
  | [], _ => rfl
  | x :: xs, h => by
    obtain ⟨h1, h2, h3⟩ := h x List.mem_cons_self
    have ih := compF_map enc e q y xs fun z hz => h z (List.mem_cons_of_mem _ hz)
    show (bindT t (enc x) env).bind _ = _
    rw [h1, Res.bind_ok, h2, noEx_okk, Res.bind_ok]
    cases hq : q x with
    | true =>
      rw [if_pos rfl, h3 hq, noEx_okk, Res.bind_ok, ih, Res.map_ok, List.filter_cons, if_pos hq]
      rfl
    | false =>
      rw [if_neg Bool.false_ne_true, ih, List.filter_cons, if_neg (by rw [hq]; exact Bool.false_ne_true)]
/-- .. without a test -/
theorem compF_all {α : Type} (enc : α → PyData) {t : Tgt} {f : En → Res PyData} {env : En} (e : α → En) (y : α → PyData) (xs : List α)
    (h : ∀ x ∈ xs, bindT t (enc x) env = .ok (e x) ∧ f (e x) = .ok (y x)) : compF t pYes f env (xs.map enc) = .ok (xs.map y) := by
  rw [compF_map enc e (fun _ => true) y xs fun x hx => ⟨(h x hx).1, rfl, fun _ => (h x hx).2⟩]
  rw [List.filter_eq_self.mpr fun _ _ => rfl]
theorem forL_inv {α S : Type} (enc : α → PyData) {t : Tgt} {g : En → Out} (Inv : S → En → Prop) (step : S → α → S) : ∀ (xs : List α) (s : S) (env : En),
    (∀ x ∈ xs, ∀ s env, Inv s env → ∃ e1 e2, bindT t (enc x) env = .ok e1 ∧ g e1 = .nx e2 ∧ Inv (step s x) e2) → Inv s env → ∃ e', forL t g (xs.map enc) env = .nx e' ∧ Inv (xs.foldl step s) e'
  | [], s, env, _, hi => ⟨env, rfl, hi⟩
  | x :: xs, s, env, h, hi => by
    obtain ⟨e1, e2, h1, h2, h3⟩ := h x List.mem_cons_self s env hi
    obtain ⟨e', h4, h5⟩ := forL_inv enc Inv step xs (step s x) e2 (fun z hz => h z (List.mem_cons_of_mem _ hz)) h3
    refine ⟨e', ?_, h5⟩
    show (match bindT t (enc x) env with
      | .ok e1 => (match g e1 with
        | .nx e2 => forL t g (xs.map enc) e2
        | o => o)
      | _ => .no) = _
    rw [h1]
    show (match g e1 with
        | .nx e2 => forL t g (xs.map enc) e2
        | o => o) = _
    rw [h2]
    exact h4
/-- .. counted -/
theorem forL_at {α : Type} (enc : α → PyData) {t : Tgt} {g : En → Out} (Inv : Nat → En → Prop) : ∀ (xs : List α) (k : Nat) (env : En),
    (∀ j x, xs[j]? = some x → ∀ env, Inv (k + j) env → ∃ e1 e2, bindT t (enc x) env = .ok e1 ∧ g e1 = .nx e2 ∧ Inv (k + j + 1) e2) → Inv k env → ∃ e', forL t g (xs.map enc) env = .nx e' ∧ Inv (k + xs.length) e'
  | [], k, env, _, hi => ⟨env, rfl, hi⟩
  | x :: xs, k, env, h, hi => by
    obtain ⟨e1, e2, h1, h2, h3⟩ := h 0 x rfl env hi
    obtain ⟨e', h4, h5⟩ := forL_at enc Inv xs (k + 1) e2 (fun j z hz env hv => by
      have := h (j + 1) z hz env (by rw [show k + (j + 1) = k + 1 + j by omega]; exact hv)
      rw [show k + 1 + j + 1 = k + (j + 1) + 1 by omega]
      exact this) h3
    refine ⟨e', ?_, by rw [List.length_cons, show k + (xs.length + 1) = k + 1 + xs.length by omega]; exact h5⟩
    show (match bindT t (enc x) env with
      | .ok e1 => (match g e1 with
        | .nx e2 => forL t g (xs.map enc) e2
        | o => o)
      | _ => .no) = _
    rw [h1]
    show (match g e1 with
        | .nx e2 => forL t g (xs.map enc) e2
        | o => o) = _
    rw [h2]
    exact h4
theorem forL_range {t : Tgt} {g : En → Out} (Inv : Nat → En → Prop) (n : Nat) (env : En) (h : ∀ i, i < n → ∀ env, Inv i env → ∃ e1 e2, bindT t (.int (i : Int)) env = .ok e1 ∧ g e1 = .nx e2 ∧ Inv (i + 1) e2) (h0 : Inv 0 env) :
    ∃ e', forL t g ((List.range n).map fun (i : Nat) => .int (i : Int)) env = .nx e' ∧ Inv n e' := by
  have := forL_at (fun (i : Nat) => PyData.int i) (t := t) (g := g) Inv (List.range n) 0 env (fun j x hx env hv => by
    have hj : j < n := by
      have := (List.getElem?_eq_some_iff.mp hx).1
      simpa using this
    have ex : x = j := by
      rw [List.getElem?_range hj] at hx
      exact (Option.some.inj hx).symm
    subst ex
    rw [Nat.zero_add] at hv ⊢
    exact h x hj env hv) h0
  rw [Nat.zero_add, List.length_range] at this
  exact this
end GL

/-! # Plain laws, part a: signs, digits, moves, machines -/
namespace GL
open PySem PySem.Spec PyProof.Rows L2 TL
/-- a text of one sign -/
def sg (c : Nat) : Str := ⟨#[c]⟩
def mkS (l : List Nat) : Str := ⟨l.toArray⟩
@[simp] theorem tl_sg (c : Nat) : tl (sg c) = [c] := rfl
@[simp] theorem tl_mkS (l : List Nat) : tl (mkS l) = l := rfl
@[simp] theorem mkS_len (l : List Nat) : (mkS l).length = l.length := by rw [len_tl, tl_mkS]
@[simp] theorem sg_len (c : Nat) : (sg c).length = 1 := rfl
theorem sg_eq (c : Nat) : sg c = mkS [c] := rfl
theorem mkS_app (a b : List Nat) : mkS a ++ mkS b = mkS (a ++ b) := ext_tl (by rw [tl_append]; rfl)
theorem signsD_mk (l : List Nat) : signsD (mkS l) = l.map fun c => .str (sg c) := rfl
theorem sgs_eq (l : List Nat) : (l.map fun c => PyData.str (sg c)) = l.map fun c => .str (sg c) := rfl
theorem beq_str (x y : Str) : (x == y) = decide (x = y) := by
  by_cases h : x = y
  · subst h; simp
  · rw [decide_eq_false h, beq_eq_false_iff_ne]; exact h
theorem beq_int (x y : Int) : (x == y) = decide (x = y) := by
  by_cases h : x = y
  · subst h; simp
  · rw [decide_eq_false h, beq_eq_false_iff_ne]; exact h
theorem sg_inj {a b : Nat} : sg a = sg b ↔ a = b := ⟨fun h => by have := congrArg tl h; simpa using this, fun h => h ▸ rfl⟩
theorem mkS_inj {a b : List Nat} : mkS a = mkS b ↔ a = b := ⟨fun h => by have := congrArg tl h; simpa using this, fun h => h ▸ rfl⟩
theorem inStr_sg (c : Nat) (z : Str) : inStr (sg c) z = decide (c ∈ tl z) := by
  unfold inStr
  exact PySem.StrLaws.found_one z c
@[simp] theorem inD_sg (c : Nat) (z : Str) : inD (.str (sg c)) (.str z) = .ok (.bool (decide (c ∈ tl z))) := by
  show Res.ok (PyData.bool (inStr (sg c) z)) = _
  rw [inStr_sg]
/-- a digit -/
theorem str_dig {n : Nat} (h : n < 10) : Str.ofString (toString (n : Int)) = sg (48 + n) := ext_tl (by rw [tl_num, numL_lt h]; rfl)
theorem strD_dig {n : Nat} (h : n < 10) : strD [.int (n : Int)] = .ok (.str (sg (48 + n))) := by
  have e : strD [.int (n : Int)] = if (n : Int).natAbs.log2 < 1920 then .ok (.str (Str.ofString (toString (n : Int)))) else .no := rfl
  rw [e, str_dig h, if_pos]
  show n.log2 < 1920
  have : n.log2 ≤ n := Nat.log2_le_self n
  omega
theorem intD_dig {n : Nat} (h : n < 10) : intD [.str (sg (48 + n))] = .ok (.int (n : Int)) := by
  have e : intText? (sg (48 + n)) = some (n : Int) := by
    rw [← str_dig h]
    exact int_num (by rw [numL_lt h]; exact Nat.le_trans (Nat.le_refl 1) (by decide))
  show (match PySem.intText? (sg (48 + n)) with
    | some m => if (sg (48 + n)).length ≤ 640 then Res.ok (PyData.int m) else .no
    | none => .no) = _
  rw [e]
  rfl
theorem strOk_sg {c : Nat} (h : c < 128) : PyData.strOk (sg c) = true := by
  simp [PyData.strOk, sg]
  omega
@[simp] theorem boolsOf_map {α : Type} (f : α → Bool) : ∀ xs : List α, boolsOf (xs.map fun x => .bool (f x)) = some (xs.map f)
  | [] => rfl
  | x :: xs => by show (boolsOf (xs.map fun x => .bool (f x))).map _ = _; rw [boolsOf_map f xs]; rfl
@[simp] theorem strsOf_map {α : Type} (f : α → Str) : ∀ xs : List α, strsOf (xs.map fun x => .str (f x)) = some (xs.map f)
  | [] => rfl
  | x :: xs => by show (strsOf (xs.map fun x => .str (f x))).map _ = _; rw [strsOf_map f xs]; rfl
@[simp] theorem intsOf_map {α : Type} (f : α → Int) : ∀ xs : List α, intsOf (xs.map fun x => .int (f x)) = some (xs.map f)
  | [] => rfl
  | x :: xs => by show (intsOf (xs.map fun x => .int (f x))).map _ = _; rw [intsOf_map f xs]; rfl
theorem allQ_map {α : Type} (f : α → Bool) (xs : List α) : allQ (false, xs.map fun x => .bool (f x)) = .ok (.bool (xs.all f)) := by
  show (match boolsOf (xs.map fun x => PyData.bool (f x)) with
    | some bs => Res.ok (PyData.bool (bs.all id))
    | none => .no) = _
  rw [boolsOf_map]
  show Res.ok (PyData.bool ((xs.map f).all id)) = _
  rw [List.all_map]
  rfl
theorem anyQ_map {α : Type} (f : α → Bool) (xs : List α) : anyQ (false, xs.map fun x => .bool (f x)) = .ok (.bool (xs.any f)) := by
  show (match boolsOf (xs.map fun x => PyData.bool (f x)) with
    | some bs => Res.ok (PyData.bool (bs.any id))
    | none => .no) = _
  rw [boolsOf_map]
  show Res.ok (PyData.bool ((xs.map f).any id)) = _
  rw [List.any_map]
  rfl
/-- texts joined without a sign between -/
theorem join_empty : ∀ ls : List (List Nat), tl (Txt.join "" (ls.map mkS)) = ls.flatten := fun ls => by
  rw [join_eq, tl_join, List.map_map]
  have e : (ls.map (tl ∘ mkS)) = ls := by rw [show (tl ∘ mkS) = id from funext fun l => rfl, List.map_id]
  rw [e]
  have : ∀ ls : List (List Nat), joinL (tl ("" : Str)) ls = ls.flatten := fun ls => by
    induction ls with
    | nil => rfl
    | cons a r ih => cases r with
      | nil => show a = _; simp
      | cons b r => show a ++ (tl ("" : Str) ++ joinL (tl ("" : Str)) (b :: r)) = _; rw [ih]; simp [tl_ofString]
  exact this ls
theorem joinD_empty {α : Type} (q : Bool) (f : α → List Nat) (xs : List α) (h : (xs.map fun x => (f x).length).sum ≤ 16777216) : joinD "" (q, xs.map fun x => .str (mkS (f x))) = .ok (.str (mkS (xs.map f).flatten)) := by
  unfold joinD
  rw [strsOf_map (fun x => mkS (f x))]
  have e0 : ("" : Str).length = 0 := rfl
  rw [e0]
  simp only [List.map_map]
  rw [if_pos (by
    have : (((fun x => Str.length x) ∘ fun x => mkS (f x)) : α → Nat) = fun x => (f x).length := funext fun x => mkS_len _
    rw [this]; simpa using h)]
  refine congrArg (fun z => Res.ok (PyData.str z)) (ext_tl ?_)
  have : (xs.map fun x => mkS (f x)) = (xs.map f).map mkS := by rw [List.map_map]; rfl
  rw [this, join_empty]
  rfl

/-! ### moves -/
structure Mv where
  s : Nat
  c : Nat
  t : Nat
  deriving DecidableEq
def Mv.D (m : Mv) : PyData := .tuple [.int m.s, .str (sg m.c), .int m.t]
def Mv.lt (a b : Mv) : Prop := a.s < b.s ∨ a.s = b.s ∧ (a.c < b.c ∨ a.c = b.c ∧ a.t < b.t)
instance (a b : Mv) : Decidable (Mv.lt a b) := by unfold Mv.lt; exact inferInstance
def Mv.le (a b : Mv) : Bool := !decide (Mv.lt b a)
theorem Mv.eqv (a b : Mv) : PyData.eqv a.D b.D = decide (a = b) := by
  unfold Mv.D
  simp only [PyData.eqv, PyData.eqvAll, beq_str, beq_int, sg_inj, Bool.and_true]
  rw [Bool.eq_iff_iff]
  cases a; cases b
  simp [Mv.mk.injEq]
  omega
theorem Mv.alike (a b : Mv) : PySem.W.alike a.D b.D = true := by simp [Mv.D, PySem.W.alike, PySem.W.alikeAll]
theorem lt_sg (a b : Nat) : PySem.W.dataLt (.str (sg a)) (.str (sg b)) = decide (a < b) := by
  rw [PySem.W.dataLt_str]
  show decide ([a] < [b]) = _
  rw [Bool.eq_iff_iff]
  simp [List.cons_lt_cons_iff]
theorem Mv.dlt (a b : Mv) : PySem.W.dataLt a.D b.D = decide (Mv.lt a b) := by
  unfold Mv.D
  rw [PySem.W.dataLt_tuple, PySem.W.dataLt_cons (by simp [PySem.W.alike]), PySem.W.dataLt_cons (by simp [PySem.W.alike]), PySem.W.dataLt_cons (by simp [PySem.W.alike]), PySem.W.dataLt_int, PySem.W.dataLt_int, lt_sg]
  have e : PyProof.Rows.lexLt itemOrd (PySem.W.keyToksAll []) (PySem.W.keyToksAll []) = false := lex_irrefl _
  rw [e]
  simp only [PyData.eqv, beq_str, beq_int, sg_inj]
  unfold Mv.lt
  by_cases h1 : a.s = b.s <;> by_cases h2 : a.c = b.c <;> by_cases h3 : a.t = b.t <;> simp [h1, h2, h3] <;> omega
theorem Mv.lt_irrefl (a : Mv) : ¬ Mv.lt a a := by unfold Mv.lt; omega
theorem Mv.lt_trans {a b c : Mv} (h : Mv.lt a b) (h' : Mv.lt b c) : Mv.lt a c := by unfold Mv.lt at *; omega
theorem Mv.tri (a b : Mv) : Mv.lt a b ∨ a = b ∨ Mv.lt b a := by
  cases a; cases b
  simp [Mv.lt, Mv.mk.injEq]
  omega
theorem Mv.depth (a : Mv) : a.D.depth = 1 := by simp [Mv.D, PyData.depth, PyData.depthAll]
theorem Mv.canLay {a : Mv} (h : a.c < 128) : PyData.canLay0 a.D = true := by simp [Mv.D, PyData.canLay0, PyData.canLayAll0, strOk_sg h]
theorem canLayAll_map {α : Type} (f : α → PyData) : ∀ xs : List α, (∀ x ∈ xs, PyData.canLay0 (f x) = true) → PyData.canLayAll0 (xs.map f) = true
  | [], _ => rfl
  | x :: xs, h => by
    show PyData.canLayAll0 (f x :: xs.map f) = true
    rw [PyData.canLayAll0, h x List.mem_cons_self, canLayAll_map f xs fun y hy => h y (List.mem_cons_of_mem _ hy)]
    rfl
theorem depthAll_map {α : Type} (f : α → PyData) {k : Nat} : ∀ xs : List α, (∀ x ∈ xs, (f x).depth ≤ k) → PyData.depthAll (xs.map f) ≤ k
  | [], _ => Nat.zero_le _
  | x :: xs, h => by
    show PyData.depthAll (f x :: xs.map f) ≤ k
    rw [PyData.depthAll]
    have := h x List.mem_cons_self
    have := depthAll_map f xs fun y hy => h y (List.mem_cons_of_mem _ hy)
    omega
theorem shaped_list {α : Type} (f : α → PyData) (k : Nat) (hk : k < 64) (xs : List α) (h : ∀ x ∈ xs, PyData.canLay0 (f x) = true ∧ (f x).depth ≤ k) : SeqAt.shaped (.list (xs.map f)) = true := by
  unfold SeqAt.shaped
  rw [PyData.canLay0, canLayAll_map f xs fun x hx => (h x hx).1, Bool.true_and, PyData.depth]
  have := depthAll_map f xs fun x hx => (h x hx).2
  exact decide_eq_true (by omega)
theorem shaped_tup {α : Type} (f : α → PyData) (k : Nat) (hk : k < 64) (xs : List α) (h : ∀ x ∈ xs, PyData.canLay0 (f x) = true ∧ (f x).depth ≤ k) : SeqAt.shaped (.tuple (xs.map f)) = true := by
  unfold SeqAt.shaped
  rw [PyData.canLay0, canLayAll_map f xs fun x hx => (h x hx).1, Bool.true_and, PyData.depth]
  have := depthAll_map f xs fun x hx => (h x hx).2
  exact decide_eq_true (by omega)
theorem Mv.shaped {a : Mv} (h : a.c < 128) : SeqAt.shaped a.D = true := by
  unfold SeqAt.shaped
  rw [Mv.canLay h, Mv.depth]
  rfl
theorem Mv.inD (a : Mv) (ms : List Mv) (h : a.c < 128) (hm : ∀ m ∈ ms, m.c < 128) : inD a.D (.list (ms.map Mv.D)) = .ok (.bool (decide (a ∈ ms))) := by
  show (if (SeqAt.shaped a.D && SeqAt.shaped (.list (ms.map Mv.D))) = true then Res.ok (PyData.bool ((ms.map Mv.D).any fun z => PyData.eqv z a.D)) else .no) = _
  rw [Mv.shaped h, shaped_list Mv.D 1 (by decide) ms fun m hx => ⟨Mv.canLay (hm m hx), Nat.le_of_eq (Mv.depth m)⟩, if_pos (by decide), List.any_map]
  refine congrArg (fun z => Res.ok (PyData.bool z)) ?_
  rw [Bool.eq_iff_iff]
  simp [Mv.eqv]
theorem Mv.sort (ms : List Mv) : sortedQ (false, ms.map Mv.D) = .ok ((ms.mergeSort Mv.le).map Mv.D) := by
  have h1 : allAlike (ms.map Mv.D) = true := by
    cases ms with
    | nil => rfl
    | cons a r =>
      show (((a :: r).map Mv.D).all fun x => ((a :: r).map Mv.D).all fun y => PySem.W.alike x y) = true
      simp [Mv.alike]
  have h2 : sortable (ms.map Mv.D) = true := by
    unfold sortable
    rw [Bool.or_eq_true]
    left
    simp [Mv.D]
  have h3 : ((ms.map Mv.D).all fun d => decide (d.depth ≤ 8)) = true := by simp [Mv.depth]
  show (if (allAlike (ms.map Mv.D) && sortable (ms.map Mv.D) && (ms.map Mv.D).all fun d => decide (d.depth ≤ 8)) = true then Res.ok (sortD (ms.map Mv.D)) else .no) = _
  rw [h1, h2, h3, if_pos (by decide)]
  refine congrArg Res.ok ?_
  unfold sortD
  refine (List.map_mergeSort fun a _ b _ => ?_).symm
  show Mv.le a b = !PySem.W.dataLt b.D a.D
  rw [Mv.dlt]
  rfl
theorem Mv.sorted {ms : List Mv} (h : ms.Nodup) : (ms.mergeSort Mv.le).Pairwise Mv.lt := by
  have hp := List.mergeSort_perm ms Mv.le
  have hn : (ms.mergeSort Mv.le).Nodup := hp.nodup_iff.mpr h
  have hs : (ms.mergeSort Mv.le).Pairwise fun a b => Mv.le a b = true := List.pairwise_mergeSort (fun a b c h h' => by
    unfold Mv.le at *
    simp at *
    intro x
    rcases Mv.tri a b with k | k | k
    · exact h' (Mv.lt_trans x k)
    · subst k; exact h' x
    · exact h k) (fun a b => by
    unfold Mv.le
    simp
    rcases Mv.tri a b with k | k | k
    · exact .inl fun x => Mv.lt_irrefl _ (Mv.lt_trans k x)
    · subst k; exact .inl (Mv.lt_irrefl _)
    · exact .inr fun x => Mv.lt_irrefl _ (Mv.lt_trans k x)) ms
  refine (hs.and hn).imp fun {a b} hh => ?_
  have h1 : ¬ Mv.lt b a := by simpa [Mv.le] using hh.1
  rcases Mv.tri a b with k | k | k
  · exact k
  · exact absurd k hh.2
  · exact absurd k h1
end GL

/-! # The data layer, part l: the ends -/
namespace GL
open PySem PySem.Spec PyProof.Rows L2
section
variable {P : Program} {w : World} {K : PySem.W.Frag} {mg : Str → Option Value} {base : Heap} {cm : Str → Addr}
/-- the written part holds the def st at the name x -/
def DefIn (K : PySem.W.Frag) (x : Str) (st : Stmt) : Prop :=
  ∃ (f : Addr) (od an : Option Addr) (sl : Array (Option Value)) (oc kV dc pm cd ct : Value), PySem.W.nsIn K mainGlobals x = some (some (.ref f)) ∧
    K.lookup f = some ⟨oc, od, .func (PySem.W.fnOf x x (defArgs st) (defBody st) (defScope st) .none kV dc pm an cd ct), sl⟩ ∧ PySem.W.codeIn K cd x = true ∧ PySem.W.keepIn K (.ref f) = true
theorem defIn_mk {x : Str} {st : Stmt} {f : Addr} {od an : Option Addr} {sl : Array (Option Value)} {oc kV dc pm cd ct : Value} (a : PySem.W.nsIn K mainGlobals x = some (some (.ref f)))
    (l : K.lookup f = some ⟨oc, od, .func (PySem.W.fnOf x x (defArgs st) (defBody st) (defScope st) .none kV dc pm an cd ct), sl⟩) (c : PySem.W.codeIn K cd x = true) (k : PySem.W.keepIn K (.ref f) = true) : DefIn K x st :=
  ⟨f, od, an, sl, oc, kV, dc, pm, cd, ct, a, l, c, k⟩
theorem DefIn.at {h : Heap} {x : Str} {st : Stmt} (D : DefIn K x st) (X : K.In h) (G : h.Ns mainGlobals mg) : DefAt K mg x st := by
  obtain ⟨f, od, an, sl, oc, kV, dc, pm, cd, ct, a, l, c, k⟩ := D
  exact ⟨f, _, fun_mk (st := st) l c k, PySem.W.mg_of X G a⟩
structure BltIn (K : PySem.W.Frag) : Prop where
  len : PySem.W.nsIn K mainGlobals "len" = some none
  range : PySem.W.nsIn K mainGlobals "range" = some none
  tuple : PySem.W.nsIn K mainGlobals "tuple" = some none
  list : PySem.W.nsIn K mainGlobals "list" = some none
  str : PySem.W.nsIn K mainGlobals "str" = some none
  int : PySem.W.nsIn K mainGlobals "int" = some none
  bool : PySem.W.nsIn K mainGlobals "bool" = some none
  sorted : PySem.W.nsIn K mainGlobals "sorted" = some none
  set : PySem.W.nsIn K mainGlobals "set" = some none
  all : PySem.W.nsIn K mainGlobals "all" = some none
  any : PySem.W.nsIn K mainGlobals "any" = some none
  isinstance : PySem.W.nsIn K mainGlobals "isinstance" = some none
  zip : PySem.W.nsIn K mainGlobals "zip" = some none
  enumerate : PySem.W.nsIn K mainGlobals "enumerate" = some none
  sum : PySem.W.nsIn K mainGlobals "sum" = some none
  min : PySem.W.nsIn K mainGlobals "min" = some none
  dict : PySem.W.nsIn K mainGlobals "dict" = some none
  valueError : PySem.W.nsIn K mainGlobals "ValueError" = some none
theorem BltIn.at {h : Heap} (B : BltIn K) (X : K.In h) (G : h.Ns mainGlobals mg) : Blt mg :=
  ⟨PySem.W.mg_none_of X G B.len, PySem.W.mg_none_of X G B.range, PySem.W.mg_none_of X G B.tuple, PySem.W.mg_none_of X G B.list, PySem.W.mg_none_of X G B.str, PySem.W.mg_none_of X G B.int, PySem.W.mg_none_of X G B.bool, PySem.W.mg_none_of X G B.sorted, PySem.W.mg_none_of X G B.set, PySem.W.mg_none_of X G B.all, PySem.W.mg_none_of X G B.any, PySem.W.mg_none_of X G B.isinstance, PySem.W.mg_none_of X G B.zip, PySem.W.mg_none_of X G B.enumerate, PySem.W.mg_none_of X G B.sum, PySem.W.mg_none_of X G B.min, PySem.W.mg_none_of X G B.dict, PySem.W.mg_none_of X G B.valueError⟩
structure ExcHere (K : PySem.W.Frag) (x : Str) (C : Addr) : Prop where
  g : PySem.W.nsIn K mainGlobals x = some (some (.ref C))
  x : PySem.W.excIn K C [.type "ValueError", .type "Exception", .type "BaseException", .type "object"] "ValueError.__new__" = true
  k : PySem.W.keepIn K (.ref C) = true
  b : PySem.W.subIn K (.ref C) (.type "BaseException") = some true
  t : PySem.W.typeIn K (.ref C) = some (.type "type")
theorem ExcHere.at {h : Heap} {x : Str} {C : Addr} (E : ExcHere K x C) (X : K.In h) (G : h.Ns mainGlobals mg) : ExcOk K mg x C := ⟨PySem.W.mg_of X G E.g, E.x, E.k, E.b, E.t⟩
/-- the entry -/
theorem entry_D {x : Str} {st : Stmt} {N ps : List Str} {k : Nat} {g : En → Out} {f : Addr} {fd : FuncData} (F : Fun K x x st f fd) (S : FnScope N ps (defScope st))
    (hbody : ∀ {f : Addr} (cdv : Value) (A : Around) (outer : List Env) (s : Shared) (H : Hp) (E : XK), Room k (A.deeper (envOfC x (defScope st) s.heap.objs.size f cdv)) →
      Takes (cxOf (L2.CX P w) P w K mg base N x (defScope st) f cdv A outer s H E) (WD E) → PassesOwn (model P w) (A.deeper (envOfC x (defScope st) s.heap.objs.size f cdv)) (envOfC x (defScope st) s.heap.objs.size f cdv) (cxOf (L2.CX P w) P w K mg base N x (defScope st) f cdv A outer s H E).xe →
      PSs (cxOf (L2.CX P w) P w K mg base N x (defScope st) f cdv A outer s H E) (defBody st) (tS P w K (WD E) cm g)) : FnOk P w K mg base (L2.CX P w) (k + 1) f fd ps (spD K cm ps.length (runD g N.length)) :=
  fnD F S fun cdv A outer s H E hr => hbody cdv A outer s H E hr (takes_of rfl rfl rfl rfl) (passes_of rfl)
/-- the law's promise -/
def spTrue (n : Nat) (K : PySem.W.Frag) : Sp := fun vs H Q _ => ∃ (a : Addr) (ns : List Int), vs = [.ref a] ∧ ns.length ≤ n ∧ SqL K H a (ns.map V.int) ∧ ∀ H', Q (.bl true) H'
theorem dpAll_ints {G : Hp} : ∀ ns : List Int, DpAll K G (ns.map V.int) (ns.map PyData.int)
  | [] => .nil
  | n :: ns => .cons (.int n) (dpAll_ints ns)
theorem true_D {n : Nat} {F : List PyData → Res PyData} (hF : ∀ ns : List Int, ns.length ≤ n → F [.list (ns.map .int)] = .ok (.bool true)) {k : Nat} {f : Addr} {fd : FuncData} {ps : List Str} (Fn : FnOk P w K mg base (L2.CX P w) k f fd ps (spD K cm 1 F)) : FnOk P w K mg base (L2.CX P w) k f fd ps (spTrue n K) :=
  Fn.imp fun vs H Q E h => by
    obtain ⟨a, ns, rfl, hl, hS, q⟩ := h
    refine ⟨rfl, H, [.list (ns.map .int)], fun _ _ e => e, .cons (.lst hS (dpAll_ints ns)) .nil, ?_⟩
    rw [hF ns hl]
    intro v G' H' _ dp
    cases dp
    exact q H'
end
theorem cx_never {P : Program} {w : World} {H : Hp} {s : Shared} {e : Value} {s' : Shared} (h : L2.CX P w [] H s (fun _ _ _ => False) e s') : False := by
  obtain ⟨_, _, _, _, _, _, _, _, _, _, _, _, h⟩ := h
  exact h
end GL

/-! # The data layer, part m: sorted(set(xs)), ints -/
namespace GL
open PySem PySem.Spec PyProof.Rows L2
/-- a set just made -/
abbrev set0 (w : World) : Obj := { cls := .type "set", dict := none, data := .set #[] 0 (.fresh 0 0 (!w.params.followText "set-order")) }
section
variable {P : Program} {w : World} {A : Around} {E : Value → Shared → Prop} {s : Shared}

set_option maxHeartbeats 3200000 in
theorem call_set_by {l : Addr} {xs : Array Value} {T : Heap → Prop} {Q : Value → Shared → Prop} (hl : s.heap.IsList l xs)
    (loop : ∀ R : Result → Shared → Prop, (∀ h' tk, T h' → R (.ok (.ret .none)) { s with heap := h', toks := tk }) →
      codeAny (model P w) A.in1.in1 (.builtin "set.update.loop" ⟨[.ref s.heap.objs.size, .ref (s.heap.push (set0 w)).objs.size], []⟩) R { s with heap := (s.heap.push (set0 w)).push { cls := .type "list_iterator", data := .fields #[.ref l, .int 0 0] } })
    (h : ∀ h' tk, T h' → Q (.ref s.heap.objs.size) { s with heap := h', toks := tk }) : wpAny (model P w) A (call (.type "set") [.ref l]) Q E s := by
  have m1 := F.called_set.mro; obtain ⟨c, r0, m1⟩ := m1
  have m2 := F.called_set.made; have m3 := F.called_set.sub
  refine wpAny_call (codeAny_of_tree (show wpAny _ _ (callAny (.type "set") _) _ _ _ from ?_))
  refine wpAny_pure ⟨Code.quiet_builtin _ (by decide +kernel), codeAny_builtin F.entry_type_call (?_ : wpAny _ _ _ _ _ _)⟩
  rw [Around.under_plain (weight_type_call_type "set" [.ref l] []) (by rfl)]
  have m4 := F.called_set.notType; have m5 := F.called_set.canCreate; have m6 := F.typeCall_set_1 (.ref l)
  repeat (any_goals (first | (assumption) | wp_step))
  refine codeAny_mono (code_set_led1 (.ref l) (E := E) (Q₁ := fun v s₁ => v = .ref s.heap.objs.size ∧ s₁ = { s with heap := s.heap.push (set0 w) }) ⟨rfl, rfl⟩) fun r s₁ hr => ?_
  cases r with
  | error e => exact hr
  | ok fl =>
    cases fl with
    | ret v =>
      obtain ⟨rfl, rfl⟩ := hr
      have g0 : (s.heap.push (set0 w)).get? s.heap.objs.size = some (set0 w) := Heap.get?_push_size _ rfl
      have t0 : Shared.TypeIs { s with heap := s.heap.push (set0 w) } (.ref s.heap.objs.size) "set" := ⟨_, g0, rfl⟩
      have m7 := F.called_set.init.lookup; have m8 := F.called_set.init.bind (.ref s.heap.objs.size)
      repeat (any_goals (first | (assumption) | wp_step))
      refine codeAny_mono (codeAny_call_builtin (R := wants (fun r s₂ => r = .none ∧ ∃ h' tk, s₂ = { s with heap := h', toks := tk } ∧ T h') E) F.called_set.init.plain F.entry_set_init (check_set_init_1 t0 ?_)) fun r2 s2 hr2 => ?_
      · obtain ⟨ob, ho, hc, n0, hd⟩ := hl
        obtain ⟨oc, od, odat, osl⟩ := ob
        simp only at hc hd
        subst hc hd
        have ho1 : (s.heap.push (set0 w)).get? l = some { cls := .type "list", dict := od, data := .seq xs n0, slots := osl } := Heap.get?_push_of_some _ ho
        have q1 := F.sub_list_set; have q2 := F.sub_list_frozenset
        have q3 : (Value.type "list" == Value.type "dict") = false := (by decide)
        have hl1 : (s.heap.push (set0 w)).IsList l xs := ⟨_, ho1, rfl, n0, rfl⟩
        unfold Builtin.«set.__init__» noKeywords Builtin.Frozenset.updateFrom
        generalize hI : pyIter = PI
        wp_walk
        subst hI
        refine wpAny_pyIter_list hl1 (wpAny_bind (wpAny_runValue ?_))
        refine loop _ fun h' tk hT => ?_
        exact wpAny_pure (wpAny_pure ⟨rfl, h', tk, rfl, hT⟩)
      · cases r2 with
        | error e => exact hr2
        | ok f2 =>
          cases f2 with
          | ret v2 =>
            obtain ⟨rfl, h', tk, rfl, hT⟩ := hr2
            repeat (any_goals (first | (assumption) | wp_step))
            exact h h' tk hT
          | _ => exact hr2.elim
    | _ => exact hr.elim
set_option maxHeartbeats 3200000 in
theorem call_set_byT {l : Addr} {xs : Array Value} {T : Heap → Prop} {Q : Value → Shared → Prop} (hl : s.heap.IsTuple l xs)
    (loop : ∀ R : Result → Shared → Prop, (∀ h' tk, T h' → R (.ok (.ret .none)) { s with heap := h', toks := tk }) →
      codeAny (model P w) A.in1.in1 (.builtin "set.update.loop" ⟨[.ref s.heap.objs.size, .ref (s.heap.push (set0 w)).objs.size], []⟩) R { s with heap := (s.heap.push (set0 w)).push { cls := .type "tuple_iterator", data := .fields #[.ref l, .int 0 0] } })
    (h : ∀ h' tk, T h' → Q (.ref s.heap.objs.size) { s with heap := h', toks := tk }) : wpAny (model P w) A (call (.type "set") [.ref l]) Q E s := by
  have m1 := F.called_set.mro; obtain ⟨c, r0, m1⟩ := m1
  have m2 := F.called_set.made; have m3 := F.called_set.sub
  refine wpAny_call (codeAny_of_tree (show wpAny _ _ (callAny (.type "set") _) _ _ _ from ?_))
  refine wpAny_pure ⟨Code.quiet_builtin _ (by decide +kernel), codeAny_builtin F.entry_type_call (?_ : wpAny _ _ _ _ _ _)⟩
  rw [Around.under_plain (weight_type_call_type "set" [.ref l] []) (by rfl)]
  have m4 := F.called_set.notType; have m5 := F.called_set.canCreate; have m6 := F.typeCall_set_1 (.ref l)
  repeat (any_goals (first | (assumption) | wp_step))
  refine codeAny_mono (code_set_led1 (.ref l) (E := E) (Q₁ := fun v s₁ => v = .ref s.heap.objs.size ∧ s₁ = { s with heap := s.heap.push (set0 w) }) ⟨rfl, rfl⟩) fun r s₁ hr => ?_
  cases r with
  | error e => exact hr
  | ok fl =>
    cases fl with
    | ret v =>
      obtain ⟨rfl, rfl⟩ := hr
      have g0 : (s.heap.push (set0 w)).get? s.heap.objs.size = some (set0 w) := Heap.get?_push_size _ rfl
      have t0 : Shared.TypeIs { s with heap := s.heap.push (set0 w) } (.ref s.heap.objs.size) "set" := ⟨_, g0, rfl⟩
      have m7 := F.called_set.init.lookup; have m8 := F.called_set.init.bind (.ref s.heap.objs.size)
      repeat (any_goals (first | (assumption) | wp_step))
      refine codeAny_mono (codeAny_call_builtin (R := wants (fun r s₂ => r = .none ∧ ∃ h' tk, s₂ = { s with heap := h', toks := tk } ∧ T h') E) F.called_set.init.plain F.entry_set_init (check_set_init_1 t0 ?_)) fun r2 s2 hr2 => ?_
      · obtain ⟨ob, ho, hc, n0, hd⟩ := hl
        obtain ⟨oc, od, odat, osl⟩ := ob
        simp only at hc hd
        subst hc hd
        have ho1 : (s.heap.push (set0 w)).get? l = some { cls := .type "tuple", dict := od, data := .seq xs n0, slots := osl } := Heap.get?_push_of_some _ ho
        have q1 := F.sub_tuple_set; have q2 := F.sub_tuple_frozenset
        have q3 : (Value.type "tuple" == Value.type "dict") = false := (by decide)
        have hl1 : (s.heap.push (set0 w)).IsTuple l xs := ⟨_, ho1, rfl, n0, rfl⟩
        unfold Builtin.«set.__init__» noKeywords Builtin.Frozenset.updateFrom
        generalize hI : pyIter = PI
        wp_walk
        subst hI
        refine wpAny_pyIter_tuple hl1 (wpAny_bind (wpAny_runValue ?_))
        refine loop _ fun h' tk hT => ?_
        exact wpAny_pure (wpAny_pure ⟨rfl, h', tk, rfl, hT⟩)
      · cases r2 with
        | error e => exact hr2
        | ok f2 =>
          cases f2 with
          | ret v2 =>
            obtain ⟨rfl, h', tk, rfl, hT⟩ := hr2
            repeat (any_goals (first | (assumption) | wp_step))
            exact h h' tk hT
          | _ => exact hr2.elim
    | _ => exact hr.elim
end
end GL

/-! # The data layer, part n: sorted(set(xs)) of ints and of pairs -/
namespace GL
open PySem PySem.Spec PyProof.Rows L2
/-! ### sorted lists without repeats -/
section
variable {α : Type}
def insB (lt : α → α → Bool) (x : α) : List α → List α
  | [] => [x]
  | y :: r => if lt x y then x :: y :: r else if lt y x then y :: insB lt x r else y :: r
def sortB (lt : α → α → Bool) : List α → List α
  | [] => []
  | x :: xs => insB lt x (sortB lt xs)
structure Lin (lt : α → α → Bool) : Prop where
  irr : ∀ x, lt x x = false
  tr : ∀ {x y z}, lt x y = true → lt y z = true → lt x z = true
  tri : ∀ {x y}, lt x y = false → lt y x = false → x = y
variable {lt : α → α → Bool}
theorem mem_insB (o : Lin lt) (x z : α) : ∀ l : List α, z ∈ insB lt x l ↔ z = x ∨ z ∈ l
  | [] => by simp [insB]
  | y :: r => by
    unfold insB
    split
    · simp
    · rename_i h1
      split
      · rw [List.mem_cons, mem_insB o x z r, List.mem_cons]
        constructor
        · rintro (h | h | h)
          · exact .inr (.inl h)
          · exact .inl h
          · exact .inr (.inr h)
        · rintro (h | h | h)
          · exact .inr (.inl h)
          · exact .inl h
          · exact .inr (.inr h)
      · rename_i h2
        have e : x = y := o.tri (by simpa using h1) (by simpa using h2)
        subst e
        simp
theorem up_insB (o : Lin lt) (x : α) : ∀ l : List α, l.Pairwise (fun a b => lt a b = true) → (insB lt x l).Pairwise (fun a b => lt a b = true)
  | [], _ => by simp [insB]
  | y :: r, h => by
    obtain ⟨h1, h2⟩ := List.pairwise_cons.mp h
    unfold insB
    split
    · rename_i k
      refine List.pairwise_cons.mpr ⟨fun z hz => ?_, h⟩
      rcases List.mem_cons.mp hz with e | hz
      · rw [e]; exact k
      · exact o.tr k (h1 z hz)
    · split
      · rename_i k
        refine List.pairwise_cons.mpr ⟨fun z hz => ?_, up_insB o x r h2⟩
        rcases (mem_insB o x z r).mp hz with e | hz
        · rw [e]; exact k
        · exact h1 z hz
      · exact h
theorem mem_sortB (o : Lin lt) (z : α) : ∀ l : List α, z ∈ sortB lt l ↔ z ∈ l
  | [] => by simp [sortB]
  | x :: xs => by
    show z ∈ insB lt x (sortB lt xs) ↔ _
    rw [mem_insB o, mem_sortB o z xs, List.mem_cons]
theorem up_sortB (o : Lin lt) : ∀ l : List α, (sortB lt l).Pairwise (fun a b => lt a b = true)
  | [] => .nil
  | x :: xs => up_insB o x _ (up_sortB o xs)
theorem up_nodup (o : Lin lt) {l : List α} (h : l.Pairwise (fun a b => lt a b = true)) : l.Nodup := h.imp fun {a b} k e => by
  subst e
  rw [o.irr] at k
  cases k
theorem up_eq (o : Lin lt) : ∀ {l m : List α}, l.Pairwise (fun a b => lt a b = true) → m.Pairwise (fun a b => lt a b = true) → (∀ z, z ∈ l ↔ z ∈ m) → l = m
  | [], [], _, _, _ => rfl
  | [], y :: r, _, _, h => by
    have := (h y).mpr List.mem_cons_self
    cases this
  | x :: r, [], _, _, h => by
    have := (h x).mp List.mem_cons_self
    cases this
  | x :: r, y :: t, h1, h2, h => by
    obtain ⟨a1, a2⟩ := List.pairwise_cons.mp h1
    obtain ⟨b1, b2⟩ := List.pairwise_cons.mp h2
    have e : x = y := by
      rcases List.mem_cons.mp ((h x).mp List.mem_cons_self) with e | k1
      · exact e
      · rcases List.mem_cons.mp ((h y).mpr List.mem_cons_self) with e | k2
        · exact e.symm
        · have := o.tr (b1 x k1) (a1 y k2)
          rw [o.irr] at this
          cases this
    subst e
    rw [up_eq o a2 b2 fun z => ?_]
    constructor
    · intro hz
      rcases List.mem_cons.mp ((h z).mp (List.mem_cons_of_mem _ hz)) with e | k
      · have := a1 z hz
        rw [e, o.irr] at this
        cases this
      · exact k
    · intro hz
      rcases List.mem_cons.mp ((h z).mpr (List.mem_cons_of_mem _ hz)) with e | k
      · have := b1 z hz
        rw [e, o.irr] at this
        cases this
      · exact k
theorem nd_le [DecidableEq α] : ∀ {l m : List α}, l.Nodup → (∀ z ∈ l, z ∈ m) → l.length ≤ m.length
  | [], m, _, _ => Nat.zero_le _
  | x :: r, m, h, k => by
    obtain ⟨h1, h2⟩ := List.nodup_cons.mp h
    have hx : x ∈ m := k x List.mem_cons_self
    have := nd_le (m := m.erase x) h2 fun z hz => by
      refine (List.mem_erase_of_ne fun e => ?_).mpr (k z (List.mem_cons_of_mem _ hz))
      subst e
      exact h1 hz
    rw [List.length_erase_of_mem hx] at this
    have : 0 < m.length := List.length_pos_of_mem hx
    rw [List.length_cons]
    omega
theorem same_len [DecidableEq α] {l m : List α} (h1 : l.Nodup) (h2 : m.Nodup) (h : ∀ z, z ∈ l ↔ z ∈ m) : l.length = m.length :=
  Nat.le_antisymm (nd_le h1 fun z hz => (h z).mp hz) (nd_le h2 fun z hz => (h z).mpr hz)
end
def ltI (a b : Int) : Bool := decide (a < b)
theorem linI : Lin ltI where
  irr := fun x => by simp [ltI]
  tr := fun h k => by simp [ltI] at *; omega
  tri := fun h k => by simp [ltI] at *; omega
def ltP (a b : Int × Int) : Bool := decide (a.1 < b.1 ∨ (a.1 = b.1 ∧ a.2 < b.2))
theorem linP : Lin ltP where
  irr := fun x => by simp [ltP]
  tr := fun {x y z} h k => by simp [ltP] at *; omega
  tri := fun {x y} h k => by
    simp [ltP] at *
    refine Prod.ext ?_ ?_ <;> omega
/-! ### set(xs) of ints -/
section
variable {P : Program} {w : World} {A : Around} {E : Value → Shared → Prop} {s : Shared}
theorem set_ints_list {l : Addr} {xs : Array Value} (ns : List Int) {Q : Value → Shared → Prop} (hh : A.handled = none) (hl : s.heap.IsList l xs) (hit : IntsAre xs.toList ns) (hb : ns.length + 1 < scanBound)
    (h : ∀ (h' : Heap) (tk c : Nat), SetR w h' s.heap.objs.size (fun j => decide (j ∈ ns)) c → (∀ b o, s.heap.get? b = some o → h'.get? b = some o) → Q (.ref s.heap.objs.size) { s with heap := h', toks := tk }) :
    wpAny (model P w) A (call (.type "set") [.ref l]) Q E s := by
  refine call_set_by (T := fun h' => (∃ c, SetR w h' s.heap.objs.size (fun j => decide (j ∈ ns)) c) ∧ ∀ b o, s.heap.get? b = some o → h'.get? b = some o) hl (fun R hR => ?_) fun h' tk hT => ?_
  · have hn : xs.size = ns.length := by
      have q := hit.length
      rw [Array.length_toList] at q
      exact q
    have hlS : l < s.heap.objs.size := by
      obtain ⟨o, ho, _⟩ := hl
      exact Heap.lt_size ho
    have hne : l ≠ (s.heap.push (set0 w)).objs.size := by rw [Heap.size_push]; exact Nat.ne_of_lt (Nat.lt_succ_of_lt hlS)
    have hSf : s.heap.objs.size ∉ [(s.heap.push (set0 w)).objs.size, l] := fun hm => by
      rw [Heap.size_push] at hm
      rcases List.mem_cons.mp hm with e | e
      · exact absurd e (Nat.ne_of_lt (Nat.lt_succ_self _))
      · exact absurd (List.mem_singleton.mp e) (Nat.ne_of_gt hlS)
    have hh3 : A.in1.in1.in1.handled = none := by rw [show A.in1.in1.in1.handled = A.handled from rfl]; exact hh
    have hl1 : (s.heap.push (set0 w)).IsList l xs := hl.push _
    have g0 : (s.heap.push (set0 w)).get? s.heap.objs.size = some (set0 w) := Heap.get?_push_size _ rfl
    have old : ∀ b o, s.heap.get? b = some o → ((s.heap.push (set0 w)).push { cls := .type "list_iterator", data := .fields #[.ref l, .int 0 0] }).get? b = some o := fun b o e => Heap.get?_push_of_some _ (Heap.get?_push_of_some _ e)
    refine set_update_ints ((Walks.list hh3 _ l hne xs).toS) s.heap.objs.size hSf ns hn hb (fun i v hv => ?_) (xs.size - 0) 0 _ rfl (Nat.zero_le _) ⟨⟨_, Heap.get?_push_size _ rfl, rfl, rfl⟩, hl1.push _⟩ ⟨0, Nat.le_refl 0, setR_new_at (Heap.get?_push_of_some _ g0)⟩ fun s' c hm hc hS => ?_
    · have hi : i < ns.length := by rw [← hn]; exact (Array.getElem?_eq_some_iff.mp hv).1
      obtain ⟨t, e⟩ := PyProof.Rows.IntsAre.int_at hit i v (by rw [Array.getElem?_toList]; exact hv)
      exact ⟨ns[i], t, List.getElem?_eq_getElem hi, by rw [e, List.getD_eq_getElem?_getD, List.getElem?_eq_getElem hi]; rfl⟩
    · obtain ⟨h', g', d', t', o'⟩ := s'
      have e1 : g' = s.gens := hm.gens
      have e2 : d' = s.drawn := hm.drawn
      have e3 : o' = s.os := hm.os
      subst e1 e2 e3
      refine hR h' t' ⟨⟨c, hS⟩, fun b o e => hm.heap b o (fun hb => ?_) (old b o e)⟩
      have lt := Heap.lt_size e
      rw [Heap.size_push] at hb
      rcases List.mem_cons.mp hb with z | z
      · exact absurd (z ▸ lt) (Nat.lt_irrefl _)
      · exact absurd (Nat.lt_trans (Nat.lt_succ_self _) (List.mem_singleton.mp z ▸ lt)) (Nat.lt_irrefl _)
  · obtain ⟨⟨c, hS⟩, k⟩ := hT
    exact h h' tk c hS k
end
theorem setR_len {w : World} {h : Heap} {a : Addr} {S : Int → Bool} {n : Nat} (R : SetR w h a S n) {ns : List Int} (e : ∀ k, S k = decide (k ∈ ns)) : n = (sortB ltI ns).length := by
  obtain ⟨o, es, ep, t, _, _, _, _, nd, hm, _, _, hn, _⟩ := R
  have := same_len nd (up_nodup linI (up_sortB linI ns)) fun z => by
    rw [← hm z, e z, mem_sortB linI]
    simp
  rw [List.length_map, Array.length_toList] at this
  omega
section
variable {X : Cx}
/-- set(xs), xs a list or a tuple of ints -/
def rSetI (K : PySem.W.Frag) (w : World) : List V → Hp → VK → Prop := fun xs H Q => ∃ (l : Addr) (ns : List Int), xs = [V.ref l] ∧ (SqL K H l (ns.map V.int) ∨ SqT K H l (ns.map V.int)) ∧ ns.length < 4000 ∧
  ∀ a, H a = none → Q (.ref a) (upd H a (SetO w a (fun j => decide (j ∈ ns)) (sortB ltI ns).length))
theorem cr_setI (hc : X.calm = true) : CallR X (.type "set") (rSetI X.K X.w) := by
  intro pins s σ H xs us Q I r h
  obtain ⟨l, ns, rfl, hl, hb, q⟩ := h
  rw [Vals.ref1 r]
  have hn : H s.heap.objs.size = none := I.hok.fresh (Nat.le_refl _)
  have hb' : ns.length + 1 < scanBound := by unfold scanBound; omega
  have fin : ∀ (h' : Heap) (tk c : Nat), SetR X.w h' s.heap.objs.size (fun j => decide (j ∈ ns)) c → (∀ b o, s.heap.get? b = some o → h'.get? b = some o) → ∃ v H1, Inv X pins σ H1 { s with heap := h', toks := tk } ∧ RelV v (.ref s.heap.objs.size) ∧ Q v H1 := fun h' tk c R k => by
    rw [setR_len R fun _ => rfl] at R
    exact ⟨.ref s.heap.objs.size, _, I.laid (t' := tk) k (Nat.le_refl _) (setO_new R), rfl, q _ hn⟩
  rcases hl with hl | hl
  · obtain ⟨its, rv, pl, hz⟩ := I.list hl
    exact set_ints_list ns (I.ok.hd hc) pl.isList (by simpa using rv.ints) hb' fun h' tk c R k => fin h' tk c R k
  · obtain ⟨its, rv, pl, hz⟩ := I.tuple hl
    exact call_set_tupI ns (I.ok.hd hc) pl (by simpa using rv.ints) hb' fun h' tk c R _ k => fin h' tk c R k
end
end GL

/-! # The data layer, part o: sets of tuples of ints; sorted(set(xs)) as a function of data -/
namespace GL
open PySem PySem.Spec PyProof.Rows L2
section
variable {P : Program} {w : World} {A : Around} {E : Value → Shared → Prop} {s : Shared}
/-- the tuples stay where they were -/
abbrev Kp (h0 h : Heap) : Prop := ∀ b o, h0.get? b = some o → h.get? b = some o
theorem loop_tups {I : Addr} {fp wr : List Addr} {G : Array GenState → Array GenState → Prop} {n : Nat} {Pv : Nat → Value → Prop} {St : Nat → Shared → Prop} {R : Result → Shared → Prop} (W : WalksS P w A.in1 I fp wr G n Pv St) (S : Addr) (hSf : S ∉ fp)
    (ks : List (Addr × List Int)) (hn : n = ks.length) (few : ∀ L : List (Addr × List Int), (∀ p ∈ L, p ∈ ks) → (L.map (·.2)).Nodup → L.length + 1 < 64) (hval : ∀ i v, Pv i v → ∃ p, ks[i]? = some p ∧ v = .ref p.1)
    (h0 : Heap) (hk : ∀ p ∈ ks, IsT P w h0 p.2 p.1) (hS0 : h0.get? S = none) (hw0 : ∀ b ∈ wr, h0.get? b = none) (hu : A.in1.units < cLine) : ∀ (m i : Nat) (s : Shared), n - i = m → i ≤ n → St i s → Kp h0 s.heap → (∃ L es ep t, SetTR P w s.heap S L es ep t ∧ Got ks i L) →
      (∀ s' L es ep t, Moved (S :: wr) G s s' → SetTR P w s'.heap S L es ep t → Got ks n L → R (.ok (.ret .none)) s') → codeAny (model P w) A (.builtin "set.update.loop" ⟨[.ref S, .ref I], []⟩) R s := by
  have nw : S ∉ wr := fun z => hSf (W.sub _ z)
  have up : ∀ b ∈ wr, b ∈ S :: wr := fun b z => List.mem_cons_of_mem _ z
  have kp : ∀ {a b : Shared}, Moved wr G a b → Kp h0 a.heap → Kp h0 b.heap := fun m k b o e => m.heap b o (fun z => by rw [hw0 b z] at e; cases e) (k b o e)
  intro m
  induction m with
  | zero =>
    intro i s em hi st k ⟨L, es, ep, t, T, g⟩ hR
    obtain rfl : i = n := by omega
    refine codeAny_builtin F.entry_set_update_loop ?_; rw [Around.under_plainId F.plain_set_update_loop _]; show wpAny _ A.in1 (pyNext (.ref I) >>= _) _ _ s
    refine wpAny_bind (W.done s _ _ st fun s' mv => (?_ : wpAny _ A.in1 (ret Value.none) _ _ s'))
    exact wpAny_pure (hR s' L es ep t (mv.mono up) (T.keep (fun o e => mv.heap S o nw e) fun p hp => isT_keep (hk p (List.mem_of_mem_take (g.sub p hp))) (kp mv k)) g)
  | succ m ih =>
    intro i s em hi st k ⟨L, es, ep, t, T, g⟩ hR
    have lt : i < n := by omega
    refine codeAny_builtin F.entry_set_update_loop ?_; rw [Around.under_plainId F.plain_set_update_loop _]; show wpAny _ A.in1 (pyNext (.ref I) >>= _) _ _ s
    refine wpAny_bind (W.item i s _ _ lt st fun v s' hP st' mv => ?_)
    obtain ⟨p, hp, rfl⟩ := hval i v hP
    have k' := kp mv k
    have sub : ∀ q ∈ L, q ∈ ks := fun q z => List.mem_of_mem_take (g.sub q z)
    have T' : SetTR P w s'.heap S L es ep t := T.keep (fun o e => mv.heap S o nw e) fun q z => isT_keep (hk q (sub q z)) k'
    have hx : IsT P w s'.heap p.2 p.1 := isT_keep (hk p (List.mem_of_getElem? hp)) k'
    refine (show wpAny _ A.in1 (holding [Value.ref p.1] (setAdd S (.ref p.1)) >>= _) _ _ s' from wpAny_bind (wpAny_holding ?_))
    unfold setAdd
    refine wpAny_holding (wpAny_bind (wpAny_pyHash_tuple hu hx ?_))
    refine add_at (s := { s' with toks := s'.toks + (p.2.length + 1) }) T' hx hu (few L sub T.nd) fun b h' L' es' ep' t' same T2 c1 c2 => ?_
    have g' : Got ks (i + 1) L' := by
      by_cases c : p.2 ∈ L.map (·.2)
      · exact (c1 c).symm ▸ g.same hp c
      · exact g.more hp (c2 c)
    have k2 : Kp h0 h' := fun b o e => (same.2 b (fun z => by rw [z, hS0] at e; cases e)).trans (k' b o e)
    refine wpAny_pure ⟨plainId_quiet F.plain_set_update_loop _, ih (i + 1) _ (by omega) lt (W.frame _ s' _ _ st' (Nat.le_add_right _ _) fun b z o e => ?_) k2 ⟨L', es', ep', t', T2, g'⟩ fun s2 L2 es2 ep2 t2 mv2 T3 g3 => ?_⟩
    · exact (same.2 b fun y => hSf (y ▸ z)).trans e
    · refine hR s2 L2 es2 ep2 t2 (Moved.trans W.gtrans ((mv.mono up).then_heap (Nat.le_add_right _ _) fun b o z e => ?_) mv2) T3 g3
      exact (same.2 b fun y => z (y ▸ List.mem_cons_self)).trans e
theorem set_tups_list {l : Addr} {xs : Array Value} (ks : List (Addr × List Int)) {Q : Value → Shared → Prop} (hh : A.handled = none) (hl : s.heap.IsList l xs) (hit : xs.toList = ks.map fun p => Value.ref p.1) (hk : ∀ p ∈ ks, IsT P w s.heap p.2 p.1)
    (few : ∀ L : List (Addr × List Int), (∀ p ∈ L, p ∈ ks) → (L.map (·.2)).Nodup → L.length + 1 < 64) (hu : A.units + 3 < cLine)
    (h : ∀ (h' : Heap) (tk : Nat) L es ep t, SetTR P w h' s.heap.objs.size L es ep t → Got ks ks.length L → Kp s.heap h' → Q (.ref s.heap.objs.size) { s with heap := h', toks := tk }) : wpAny (model P w) A (call (.type "set") [.ref l]) Q E s := by
  refine call_set_by (T := fun h' => (∃ L es ep t, SetTR P w h' s.heap.objs.size L es ep t ∧ Got ks ks.length L) ∧ Kp s.heap h') hl (fun R hR => ?_) fun h' tk ⟨⟨L, es, ep, t, T, g⟩, k⟩ => h h' tk L es ep t T g k
  have hn : xs.size = ks.length := by
    have q := congrArg List.length hit
    simpa using q
  have hlS : l < s.heap.objs.size := by
    obtain ⟨o, ho, _⟩ := hl
    exact Heap.lt_size ho
  have hne : l ≠ (s.heap.push (set0 w)).objs.size := by rw [Heap.size_push]; exact Nat.ne_of_lt (Nat.lt_succ_of_lt hlS)
  have hSf : s.heap.objs.size ∉ [(s.heap.push (set0 w)).objs.size, l] := fun hm => by
    rw [Heap.size_push] at hm
    rcases List.mem_cons.mp hm with e | e
    · exact absurd e (Nat.ne_of_lt (Nat.lt_succ_self _))
    · exact absurd (List.mem_singleton.mp e) (Nat.ne_of_gt hlS)
  have hh3 : A.in1.in1.in1.handled = none := by rw [show A.in1.in1.in1.handled = A.handled from rfl]; exact hh
  have hl1 : (s.heap.push (set0 w)).IsList l xs := hl.push _
  have g0 : (s.heap.push (set0 w)).get? s.heap.objs.size = some (set0 w) := Heap.get?_push_size _ rfl
  have old : Kp s.heap ((s.heap.push (set0 w)).push { cls := .type "list_iterator", data := .fields #[.ref l, .int 0 0] }) := fun b o e => Heap.get?_push_of_some _ (Heap.get?_push_of_some _ e)
  have off : ∀ b, s.heap.objs.size ≤ b → s.heap.get? b = none := fun b hb => by
    cases q : s.heap.get? b with
    | none => rfl
    | some o => exact absurd (Nat.lt_of_lt_of_le (Heap.lt_size q) hb) (Nat.lt_irrefl _)
  refine loop_tups ((Walks.list hh3 _ l hne xs).toS) s.heap.objs.size hSf ks hn few (fun i v hv => ?_) s.heap hk (off _ (Nat.le_refl _)) (fun b hb => off b (by rw [List.mem_singleton.mp hb, Heap.size_push]; exact Nat.le_succ _)) hu (xs.size - 0) 0 _ rfl (Nat.zero_le _)
    ⟨⟨_, Heap.get?_push_size _ rfl, rfl, rfl⟩, hl1.push _⟩ old ⟨[], #[], 0, _, setTR_fresh (Heap.get?_push_of_some _ g0), Got.zero ks⟩ fun s' L es ep t mv T g => ?_
  · have q : xs.toList[i]? = some v := by rw [Array.getElem?_toList]; exact hv
    rw [hit, List.getElem?_map] at q
    cases e : ks[i]? with
    | none => rw [e] at q; cases q
    | some p => rw [e] at q; exact ⟨p, rfl, (Option.some.inj q).symm⟩
  · obtain ⟨h', g', d', t', o'⟩ := s'
    have e1 : g' = s.gens := mv.gens
    have e2 : d' = s.drawn := mv.drawn
    have e3 : o' = s.os := mv.os
    subst e1 e2 e3
    rw [hn] at g
    refine hR h' t' ⟨⟨L, es, ep, t, T, g⟩, fun b o e => mv.heap b o (fun hb => ?_) (old b o e)⟩
    have lt := Heap.lt_size e
    rw [Heap.size_push] at hb
    rcases List.mem_cons.mp hb with z | z
    · exact absurd (z ▸ lt) (Nat.lt_irrefl _)
    · exact absurd (Nat.lt_trans (Nat.lt_succ_self _) (List.mem_singleton.mp z ▸ lt)) (Nat.lt_irrefl _)
theorem set_tups_tuple {l : Addr} {xs : Array Value} (ks : List (Addr × List Int)) {Q : Value → Shared → Prop} (hh : A.handled = none) (hl : s.heap.IsTuple l xs) (hit : xs.toList = ks.map fun p => Value.ref p.1) (hk : ∀ p ∈ ks, IsT P w s.heap p.2 p.1)
    (few : ∀ L : List (Addr × List Int), (∀ p ∈ L, p ∈ ks) → (L.map (·.2)).Nodup → L.length + 1 < 64) (hu : A.units + 3 < cLine)
    (h : ∀ (h' : Heap) (tk : Nat) L es ep t, SetTR P w h' s.heap.objs.size L es ep t → Got ks ks.length L → Kp s.heap h' → Q (.ref s.heap.objs.size) { s with heap := h', toks := tk }) : wpAny (model P w) A (call (.type "set") [.ref l]) Q E s := by
  refine call_set_byT (T := fun h' => (∃ L es ep t, SetTR P w h' s.heap.objs.size L es ep t ∧ Got ks ks.length L) ∧ Kp s.heap h') hl (fun R hR => ?_) fun h' tk ⟨⟨L, es, ep, t, T, g⟩, k⟩ => h h' tk L es ep t T g k
  have hn : xs.size = ks.length := by
    have q := congrArg List.length hit
    simpa using q
  have hlS : l < s.heap.objs.size := by
    obtain ⟨o, ho, _⟩ := hl
    exact Heap.lt_size ho
  have hne : l ≠ (s.heap.push (set0 w)).objs.size := by rw [Heap.size_push]; exact Nat.ne_of_lt (Nat.lt_succ_of_lt hlS)
  have hSf : s.heap.objs.size ∉ [(s.heap.push (set0 w)).objs.size, l] := fun hm => by
    rw [Heap.size_push] at hm
    rcases List.mem_cons.mp hm with e | e
    · exact absurd e (Nat.ne_of_lt (Nat.lt_succ_self _))
    · exact absurd (List.mem_singleton.mp e) (Nat.ne_of_gt hlS)
  have hh3 : A.in1.in1.in1.handled = none := by rw [show A.in1.in1.in1.handled = A.handled from rfl]; exact hh
  have hl1 : (s.heap.push (set0 w)).IsTuple l xs := hl.push _
  have g0 : (s.heap.push (set0 w)).get? s.heap.objs.size = some (set0 w) := Heap.get?_push_size _ rfl
  have old : Kp s.heap ((s.heap.push (set0 w)).push { cls := .type "tuple_iterator", data := .fields #[.ref l, .int 0 0] }) := fun b o e => Heap.get?_push_of_some _ (Heap.get?_push_of_some _ e)
  have off : ∀ b, s.heap.objs.size ≤ b → s.heap.get? b = none := fun b hb => by
    cases q : s.heap.get? b with
    | none => rfl
    | some o => exact absurd (Nat.lt_of_lt_of_le (Heap.lt_size q) hb) (Nat.lt_irrefl _)
  refine loop_tups ((Walks.tuple hh3 _ l hne xs).toS) s.heap.objs.size hSf ks hn few (fun i v hv => ?_) s.heap hk (off _ (Nat.le_refl _)) (fun b hb => off b (by rw [List.mem_singleton.mp hb, Heap.size_push]; exact Nat.le_succ _)) hu (xs.size - 0) 0 _ rfl (Nat.zero_le _)
    ⟨⟨_, Heap.get?_push_size _ rfl, rfl, rfl⟩, hl1.push _⟩ old ⟨[], #[], 0, _, setTR_fresh (Heap.get?_push_of_some _ g0), Got.zero ks⟩ fun s' L es ep t mv T g => ?_
  · have q : xs.toList[i]? = some v := by rw [Array.getElem?_toList]; exact hv
    rw [hit, List.getElem?_map] at q
    cases e : ks[i]? with
    | none => rw [e] at q; cases q
    | some p => rw [e] at q; exact ⟨p, rfl, (Option.some.inj q).symm⟩
  · obtain ⟨h', g', d', t', o'⟩ := s'
    have e1 : g' = s.gens := mv.gens
    have e2 : d' = s.drawn := mv.drawn
    have e3 : o' = s.os := mv.os
    subst e1 e2 e3
    rw [hn] at g
    refine hR h' t' ⟨⟨L, es, ep, t, T, g⟩, fun b o e => mv.heap b o (fun hb => ?_) (old b o e)⟩
    have lt := Heap.lt_size e
    rw [Heap.size_push] at hb
    rcases List.mem_cons.mp hb with z | z
    · exact absurd (z ▸ lt) (Nat.lt_irrefl _)
    · exact absurd (Nat.lt_trans (Nat.lt_succ_self _) (List.mem_singleton.mp z ▸ lt)) (Nat.lt_irrefl _)
end

/-! ### as functions of data -/
def pairD (p : Int × Int) : PyData := .tuple [.int p.1, .int p.2]
def pairsOf : List PyData → Option (List (Int × Int))
  | [] => some []
  | .tuple [.int x, .int y] :: r => (pairsOf r).map fun ps => (x, y) :: ps
  | _ => none
theorem intsOf_is : ∀ {ds : List PyData} {ns : List Int}, intsOf ds = some ns → ds = ns.map .int
  | [], ns, h => by cases h; rfl
  | .int i :: r, ns, h => by
    have h : (intsOf r).map (fun bs => i :: bs) = some ns := h
    cases e : intsOf r with
    | none => rw [e] at h; cases h
    | some m => rw [e] at h; cases h; rw [intsOf_is e]; rfl
  | .none :: _, _, h => by cases h
  | .bool _ :: _, _, h => by cases h
  | .str _ :: _, _, h => by cases h
  | .list _ :: _, _, h => by cases h
  | .tuple _ :: _, _, h => by cases h
  | .dict _ :: _, _, h => by cases h
theorem pairsOf_is : ∀ {ds : List PyData} {ps : List (Int × Int)}, pairsOf ds = some ps → ds = ps.map pairD
  | [], ps, h => by cases h; rfl
  | d :: r, ps, h => by
    unfold pairsOf at h
    split at h
    · rename_i e
      cases e
    · rename_i x y t e
      injection e with e1 e2
      subst e1 e2
      cases e : pairsOf r with
      | none => rw [e] at h; cases h
      | some m => rw [e] at h; cases h; rw [pairsOf_is e]; rfl
    · cases h
theorem pairsOf_map : ∀ ps : List (Int × Int), pairsOf (ps.map pairD) = some ps
  | [] => rfl
  | (x, y) :: ps => by
    show (pairsOf (ps.map pairD)).map _ = _
    rw [pairsOf_map ps]
    rfl
theorem intsOf_pairs (p : Int × Int) (ps : List (Int × Int)) : intsOf ((p :: ps).map pairD) = none := rfl
def smallP (p : Int × Int) : Bool := decide ((0 ≤ p.1 ∧ p.1 < 64) ∧ 0 ≤ p.2 ∧ p.2 < 64)
/-- sorted(set(xs)) -/
def sortSetQ (q : Bool × List PyData) : Res (List PyData) := match intsOf q.2 with
  | some ns => if (sortB ltI ns).length < 64 ∧ ns.length < 4000 then .ok ((sortB ltI ns).map .int) else .no
  | none => match pairsOf q.2 with
    | some ps => if (sortB ltP ps).length < 63 ∧ ps.all smallP = true then .ok ((sortB ltP ps).map pairD) else .no
    | none => .no
theorem sortSetQ_never (q : Bool × List PyData) : Never (sortSetQ q) := by
  unfold sortSetQ
  split
  · exact never_ite (never_ok _) never_no
  · split
    · exact never_ite (never_ok _) never_no
    · exact never_no
theorem dp_is {K : PySem.W.Frag} {G : Hp} : ∀ {ws : List V} {ns : List Int}, DpAll K G ws (ns.map .int) → ws = ns.map V.int
  | _, [], .nil => rfl
  | _, n :: ns, .cons (.int _) h => by rw [dp_is h]; rfl
theorem dp_pairs {K : PySem.W.Frag} {G : Hp} : ∀ {ws : List V} {ps : List (Int × Int)}, DpAll K G ws (ps.map pairD) → ∃ ks : List (Addr × List Int), ws = ks.map (fun p => V.ref p.1) ∧ (∀ p ∈ ks, SqT K G p.1 (p.2.map V.int)) ∧ ks.map (·.2) = ps.map fun p => [p.1, p.2]
  | _, [], .nil => ⟨[], rfl, by simp, rfl⟩
  | _, (x, y) :: ps, .cons h r => by
    obtain ⟨ks, e, h1, h2⟩ := dp_pairs r
    cases h with
    | @tup a vs _ hs ha =>
      have ev : vs = [V.int x, V.int y] := dp_is (ns := [x, y]) ha
      subst ev
      refine ⟨(a, [x, y]) :: ks, by rw [e]; rfl, fun p hp => ?_, by rw [List.map_cons, h2]; rfl⟩
      rcases List.mem_cons.mp hp with rfl | hp
      · exact hs
      · exact h1 p hp
theorem dp_of_ks {K : PySem.W.Frag} {G : Hp} : ∀ {L : List (Addr × List Int)} {ps : List (Int × Int)}, (∀ p ∈ L, SqT K G p.1 (p.2.map V.int)) → L.map (·.2) = ps.map (fun p => [p.1, p.2]) → DpAll K G (L.map fun p => V.ref p.1) (ps.map pairD)
  | [], [], _, _ => .nil
  | [], _ :: _, _, e => by cases e
  | _ :: _, [], _, e => by cases e
  | (a, ns) :: L, (x, y) :: ps, h, e => by
    rw [List.map_cons, List.map_cons] at e
    injection e with e1 e2
    have e1 : ns = [x, y] := e1
    subst e1
    exact .cons (.tup (h _ List.mem_cons_self) (dpAll_ints [x, y])) (dp_of_ks (fun p hp => h p (List.mem_cons_of_mem _ hp)) e2)
section
variable {X : Cx}
def rSetP (K : PySem.W.Frag) (P : Program) (w : World) : List V → Hp → VK → Prop := fun xs H Q => ∃ (l : Addr) (ks : List (Addr × List Int)), xs = [V.ref l] ∧ (SqL K H l (ks.map fun p => V.ref p.1) ∨ SqT K H l (ks.map fun p => V.ref p.1)) ∧ (∀ p ∈ ks, SqT K H p.1 (p.2.map V.int)) ∧
  (∀ L : List (Addr × List Int), (∀ p ∈ L, p ∈ ks) → (L.map (·.2)).Nodup → L.length + 1 < 64) ∧ ∀ a L, H a = none → (∀ p ∈ L, p ∈ ks) → (∀ p ∈ ks, p.2 ∈ L.map (·.2)) → Q (.ref a) (upd H a (SetTO P w a L))
theorem cr_setP (hc : X.calm = true) (hu : X.A.units + 64 < cLine) : CallR X (.type "set") (rSetP X.K X.prog X.w) := by
  intro pins s σ H xs us Q I r h
  obtain ⟨l, ks, rfl, hl, hk, few, q⟩ := h
  rw [Vals.ref1 r]
  rcases hl with hl | hl
  · obtain ⟨its, rv, pl, hz⟩ := I.list hl
    refine set_tups_list (P := X.prog) (w := X.w) ks (I.ok.hd hc) pl.isList (by simpa using refs_of_vals rv) (fun p hp => I.isT (hk p hp)) few (by omega) fun h' tk L es ep t R g k => ?_
    exact ⟨.ref s.heap.objs.size, _, I.laid (t' := tk) k (Nat.le_refl _) (setTO_new R.t0), rfl, q _ L (I.hok.fresh (Nat.le_refl _)) (fun p hp => List.mem_of_mem_take (g.sub p hp)) fun p hp => g.all p (by rw [List.take_length]; exact hp)⟩
  · obtain ⟨its, rv, pl, hz⟩ := I.tuple hl
    refine set_tups_tuple (P := X.prog) (w := X.w) ks (I.ok.hd hc) (show s.heap.IsTuple l its.toArray from pl) (by simpa using refs_of_vals rv) (fun p hp => I.isT (hk p hp)) few (by omega) fun h' tk L es ep t R g k => ?_
    exact ⟨.ref s.heap.objs.size, _, I.laid (t' := tk) k (Nat.le_refl _) (setTO_new R.t0), rfl, q _ L (I.hok.fresh (Nat.le_refl _)) (fun p hp => List.mem_of_mem_take (g.sub p hp)) fun p hp => g.all p (by rw [List.take_length]; exact hp)⟩
theorem pairs_up {ps : List (Int × Int)} (hs : ∀ p ∈ ps, smallP p = true) : ∀ {L : List (Addr × List Int)}, L.Pairwise (fun q r => TS.code 64 q.2 ≤ TS.code 64 r.2) → (L.map (·.2)).Nodup → (∀ p ∈ L, p.2 ∈ ps.map fun p => [p.1, p.2]) →
    ∃ qs : List (Int × Int), L.map (·.2) = qs.map (fun p => [p.1, p.2]) ∧ qs.Pairwise (fun a b => ltP a b = true)
  | [], _, _, _ => ⟨[], rfl, .nil⟩
  | (a, ns) :: L, h1, h2, h3 => by
    obtain ⟨a1, a2⟩ := List.pairwise_cons.mp h1
    obtain ⟨b1, b2⟩ := List.nodup_cons.mp h2
    obtain ⟨qs, e, u⟩ := pairs_up hs a2 b2 fun p hp => h3 p (List.mem_cons_of_mem _ hp)
    obtain ⟨⟨x, y⟩, hp, ex⟩ := List.mem_map.mp (h3 _ List.mem_cons_self)
    have ex : [x, y] = ns := ex
    subst ex
    refine ⟨(x, y) :: qs, by rw [List.map_cons, e]; rfl, List.pairwise_cons.mpr ⟨fun z hz => ?_, u⟩⟩
    have hz2 : [z.1, z.2] ∈ L.map (·.2) := by rw [e]; exact List.mem_map.mpr ⟨z, hz, rfl⟩
    obtain ⟨r, hr, er⟩ := List.mem_map.mp hz2
    obtain ⟨z', hz', ez'⟩ := List.mem_map.mp (h3 r (List.mem_cons_of_mem _ hr))
    have ezz : [z'.1, z'.2] = [z.1, z.2] := ez'.trans er
    injection ezz with k1 k2
    injection k2 with k2 _
    have s1 := of_decide_eq_true (hs _ hp)
    have s2 := of_decide_eq_true (hs _ hz')
    rw [k1, k2] at s2
    have c := a1 r hr
    rw [er] at c
    have ne : ([x, y] : List Int) ≠ [z.1, z.2] := fun e' => b1 (by rw [e']; exact hz2)
    have := pair_lt c ne s1.1 s1.2 s2.1 s2.2
    exact decide_eq_true this
theorem setsort {K : PySem.W.Frag} {P : Program} {w : World} {x : V} {H : Hp} {Q : VK} (h : rCallQL K sortSetQ [x] H Q) :
    rSetI K w [x] H (fun v H2 => rSortedSet w [v] H2 Q ∨ rSortedT K P w [v] H2 Q) ∨ rSetP K P w [x] H (fun v H2 => rSortedSet w [v] H2 Q ∨ rSortedT K P w [v] H2 Q) := by
  obtain ⟨G, a, ws, ⟨b, ds⟩, r, hx, gh, hs, da, er, q⟩ := h
  unfold sortSetQ at er
  split at er
  · rename_i ns en
    obtain ⟨hl, rfl⟩ := ok_of_ite er
    have ed : ds = ns.map .int := intsOf_is en
    subst ed
    have ew : ws = ns.map V.int := dp_is da
    subst ew
    refine .inl ⟨a, ns, hx, ?_, hl.2, fun c hc => .inl ⟨c, _, _, rfl, upd_same, hl.1, fun ms p hm hmem hlen hp => ?_⟩⟩
    · cases b with
      | false => exact .inl hs.l
      | true => exact .inr (same_t gh hs.t)
    · have em : ms = sortB ltI ns := up_eq linI (hm.imp fun k => decide_eq_true k) (up_sortB linI ns) fun z => by
        rw [hmem z, mem_sortB linI]
        simp
      subst em
      have np : H p = none := by
        by_cases e : p = c
        · rw [e, upd_same] at hp; cases hp
        · rwa [upd_ne e] at hp
      refine q p _ G _ ((Grow.fresh gh hc).trans (Grow.fresh (Grow.fresh gh hc).gh hp)) np (gh.free np) upd_same (dpAll_ints _)
  · split at er
    · rename_i ps ep
      obtain ⟨hl, rfl⟩ := ok_of_ite er
      have ed : ds = ps.map pairD := pairsOf_is ep
      subst ed
      obtain ⟨ks, ew, hk, ek⟩ := dp_pairs da
      subst ew
      have hsm : ∀ p ∈ ps, smallP p = true := List.all_eq_true.mp hl.2
      have mk : ∀ L : List (Addr × List Int), (∀ p ∈ L, p ∈ ks) → ∀ p ∈ L, p.2 ∈ ps.map fun p => [p.1, p.2] := fun L hL p hp => by
        rw [← ek]
        exact List.mem_map.mpr ⟨p, hL p hp, rfl⟩
      refine .inr ⟨a, ks, hx, (by cases b with | false => exact .inl hs.l | true => exact .inr (same_t gh hs.t)), fun p hp => same_t gh (hk p hp), fun L hL nd => ?_, fun c L hc h1 h2 => .inr ⟨c, L, 2, 64, rfl, upd_same, fun p hp => ?_, by decide, fun p hp => ?_, fun L' p pm nd _ pw hp => ?_⟩⟩
      · have k : (L.map (·.2)).length ≤ ((sortB ltP ps).map fun p => [p.1, p.2]).length := nd_le nd fun z hz => by
          obtain ⟨p, hp, rfl⟩ := List.mem_map.mp hz
          obtain ⟨t, ht, et⟩ := List.mem_map.mp (mk L hL p hp)
          exact List.mem_map.mpr ⟨t, (mem_sortB linP t ps).mpr ht, et⟩
        rw [List.length_map, List.length_map] at k
        omega
      · have := hk p (h1 p hp)
        exact same_t ((Grow.fresh gh hc).gh) this
      · obtain ⟨t, ht, et⟩ := List.mem_map.mp (mk L h1 p hp)
        have sm := of_decide_eq_true (hsm t ht)
        rw [← et]
        refine ⟨rfl, fun m hm => ?_⟩
        rcases List.mem_cons.mp hm with rfl | hm
        · exact sm.1
        · rw [List.mem_singleton.mp hm]; exact sm.2
      · have hL' : ∀ p ∈ L', p ∈ ks := fun p hp => h1 p (pm.mem_iff.mp hp)
        obtain ⟨qs, eq, u⟩ := pairs_up hsm pw nd (mk L' hL')
        have inj : ∀ {u v : Int × Int}, [u.1, u.2] = [v.1, v.2] → u = v := fun e => by
          injection e with k1 k2
          injection k2 with k2 _
          exact Prod.ext k1 k2
        have em : qs = sortB ltP ps := up_eq linP u (up_sortB linP ps) fun z => by
          rw [mem_sortB linP]
          constructor
          · intro hz
            have : [z.1, z.2] ∈ L'.map (·.2) := by rw [eq]; exact List.mem_map.mpr ⟨z, hz, rfl⟩
            obtain ⟨t, ht, et⟩ := List.mem_map.mp this
            obtain ⟨v, hv, ev⟩ := List.mem_map.mp (mk L' hL' t ht)
            rw [← inj (ev.trans et)]
            exact hv
          · intro hz
            have : [z.1, z.2] ∈ ks.map (·.2) := by rw [ek]; exact List.mem_map.mpr ⟨z, hz, rfl⟩
            obtain ⟨t, ht, et⟩ := List.mem_map.mp this
            have k3 := h2 t ht
            rw [et] at k3
            have k4 : [z.1, z.2] ∈ L'.map (·.2) := ((pm.map (·.2)).mem_iff).mpr k3
            rw [eq] at k4
            obtain ⟨v, hv, ev⟩ := List.mem_map.mp k4
            rw [← inj ev]
            exact hv
        subst em
        have np : H p = none := by
          by_cases e : p = c
          · rw [e, upd_same] at hp; cases hp
          · rwa [upd_ne e] at hp
        exact q p _ G _ ((Grow.fresh gh hc).trans (Grow.fresh (Grow.fresh gh hc).gh hp)) np (gh.free np) upd_same (dp_of_ks (fun p hp => hk p (hL' p hp)) eq)
    · cases er
variable {W : WX} {cm : Str → Addr} {e : Expr} {p p2 pos pos2 : Pos} {fq : En → Res (Bool × List PyData)} {k : Nat}
theorem dl_sortSet (T : Blt X.mg) (hr : Room k X.A) (hc : X.calm = true) (ha : DQ X W cm e fq) (hg : Gl X "sorted" := by rfl) (hg2 : Gl X "set" := by rfl) (he : starEach [e] X.env = [(false, eval e X.env)] := by rfl)
    (he2 : starEach [.Call (.Name "set" p2) [e] [] pos2] X.env = [(false, eval (.Call (.Name "set" p2) [e] [] pos2) X.env)] := by rfl) : DL X W cm (.Call (.Name "sorted" p) [.Call (.Name "set" p2) [e] [] pos2] [] pos) (fCQL sortSetQ fq) :=
  pe_imp (pe_callB ((cr_sortedSet hc).or (cr_sortedT hc)) hg T.sorted PyProof.Rows.boot_sorted (pa_cons (pe_callTy ((cr_setI hc).or (cr_setP hc hr.units)) hg2 T.set PyProof.Rows.boot_set (pa_cons ha pa_nil he) (by decide) (by decide) he rfl) pa_nil he2) (by decide) (by decide) he2 rfl) fun σ H Q q => by
    have q := t_callQL sortSetQ_never q
    obtain ⟨G0, H0, G, env, ok, q⟩ := q
    exact ⟨G0, H0, G, env, ok, q.imp (fun d _ k a vs G' H' g hs da => setsort (k a vs G' H' g hs da)) fun _ z => z⟩
end
end GL

/-! # The data layer, part p: str.replace, which wants a token out -/
namespace GL
open PySem PySem.Spec PyProof.Rows L2
def replS (y z : Str) (a : Str) : Res PyData := if a.length + (a.length + 1) * z.length ≤ 16777216 then .ok (.str (Txt.replace a y z)) else .no
def fRepl (y z : Str) (f : En → Res PyData) : En → Res PyData := fS1 (replS y z) f
abbrev DETk (X : Cx) (W : WX) (cm : Str → Addr) (e : Expr) (f : En → Res PyData) : Prop := PET X e (tD X.prog X.w X.K W cm f)
abbrev DSTk (X : Cx) (W : WX) (cm : Str → Addr) (st : Stmt) (g : En → Out) : Prop := PST X st (tS X.prog X.w X.K W cm g)
abbrev DSsTk (X : Cx) (W : WX) (cm : Str → Addr) (sts : List Stmt) (g : En → Out) : Prop := PSsT X sts (tS X.prog X.w X.K W cm g)
section
variable {X : Cx} {W : WX} {cm : Str → Addr} {e : Expr} {f : En → Res PyData} {g h : En → Out} {st : Stmt} {rest : List Stmt}
theorem det_repl {y z : Str} {j k : Nat} {c0 c1 apos pos : Pos} (ho : DE X W cm e f) (hyz : (y == z) = false := by decide)
    (hst : starEach [.Constant (.str y) j c0, .Constant (.str z) k c1] X.env = [(false, eval (.Constant (.str y) j c0) X.env), (false, eval (.Constant (.str z) k c1) X.env)] := by rfl)
    (hb : attributeBase e "replace" X.env (eval e X.env) = eval e X.env := by rfl) (hline : (apos.endLine == pos.line) = true := by rfl) :
    DETk X W cm (.Call (.Attribute e "replace" apos) [.Constant (.str y) j c0, .Constant (.str z) k c1] [] pos) (fRepl y z f) := fun pins s σ H Q h0 I q => by
  refine CwR.pet_replC ho hyz hst hb hline pins s σ H Q h0 I ?_
  obtain ⟨G0, H0, G, env, ok, q⟩ := q
  refine tD.go ok ((Res.sat_bind.mp (Res.sat_bind.mp q)).imp (fun d _ k v G1 H1 g1 ok1 dp => ?_) fun _ z => z)
  obtain ⟨a, ea, k⟩ := sat_ok (isS_never d) k
  have ev := isS_ok dp ea
  subst ev
  unfold replS at k
  split at k
  · rename_i hl
    exact ⟨a, rfl, hl, k _ G1 H1 g1 (.str _)⟩
  · exact k.elim
theorem dst_cons (h1 : DSTk X W cm st g) (h2 : DSsTk X W cm rest h) : DSsTk X W cm (st :: rest) (sSeq g h) := fun pins s σ H D h0 I q => psst_cons h1 h2 pins s σ H D h0 I (t_seq q)
theorem dst_of (h1 : DS X W cm st g) : DSTk X W cm st g := PST.of h1
theorem dsst_of (h1 : DSs X W cm rest g) : DSsTk X W cm rest g := PSsT.of h1
/-- e[lo:hi], e wants a token -/
abbrev slc (a b : Value) : Obj := { cls := .type "slice", data := .fields #[a, b, .none] }
theorem pet_sl {te : TE} {lo hi : Option Expr} {tl th : TO} {p2 pos : Pos} {r : V → Option Int → Option Int → Hp → VK → Prop} (hr : SlR X r) (he : PET X e te) (hl : PO X lo tl) (hu : PO X hi th) : PET X (.Subscript e (.Slice lo hi none p2) pos) (tSl r te tl th) := by
  intro pins s σ H Q h0 I q
  refine Subscript_ (thn (he pins s σ H _ h0 I q) fun v a1 ⟨x, H1, I1, r1, q1⟩ => wpAny_Slice (thn (hl.run pins a1 σ H1 _ I1 q1) fun vl a2 ⟨l, H2, I2, pl, q2⟩ => thn (hu.run pins a2 σ H2 _ I2 q2) fun vu a3 ⟨u, H3, I3, pu, q3⟩ => ?_))
  rw [evalPart_none]; refine wpAny_pure (?_ : wpAny _ _ _ _ _ _)
  have J : Inv X pins σ H3 { a3 with heap := a3.heap.push (slc vl vu) } := I3.kept (t' := a3.toks) fun b ob z => Heap.get?_push_of_some _ z
  obtain ⟨T, id, hT, ht, hg⟩ := hr pins { a3 with heap := a3.heap.push (slc vl vu) } σ H3 x v vl vu l u a3.heap.objs.size Q J r1 (Heap.IsSliceOf.new ..) pl pu q3
  show wpAny (model X.prog X.w) X.A (subscriptTail e (.Slice lo hi none p2) v (.ref a3.heap.objs.size)) (EP X pins σ Q) X.xe { a3 with heap := a3.heap.push (slc vl vu) }
  exact tail_any (ops := [.ref a3.heap.objs.size, v]) ht hT hg (by with_unfolding_all (rfl))
theorem t_sl {P : Program} {w : World} {K : PySem.W.Frag} {fl fh : En → Res (Option Int)} {σ : L2.St} {H : Hp} {Q : VK} (q : tD P w K W cm (fSl f fl fh) σ H Q) : tSl (rSlDat K) (tD P w K W cm f) (tO P w K W cm fl) (tO P w K W cm fh) σ H Q := by
  obtain ⟨G0, H0, G, env, ok, q⟩ := q
  show tD P w K W cm f σ H fun x H1 => tO P w K W cm fl σ H1 fun l H2 => tO P w K W cm fh σ H2 fun u H3 => rSlDat K x l u H3 Q
  refine tD.go ok ((Res.sat_bind.mp q).imp (fun d _ k v G1 H1 g1 ok1 dp => ?_) fun _ z => z)
  refine tO.go ok1 ((Res.sat_bind.mp k).imp (fun l _ k G2 H2 g2 ok2 => ?_) fun _ z => z.grow g1)
  refine tO.go ok2 ((Res.sat_bind.mp k).imp (fun u _ k G3 H3 g3 ok3 => ?_) fun _ z => z.grow (g1.trans g2))
  have g := (g1.trans g2).trans g3
  have dp3 := dp_mono (g2.trans g3).g _ _ dp
  cases d with
  | str z =>
    have k : (if z.length ≤ sizeLine then Res.ok (PyData.str (cutS z l u)) else Res.no).sat _ _ := k
    split at k
    · rename_i hl; cases dp; exact .inl ⟨z, rfl, hl, k _ G3 H3 g (.str _)⟩
    · exact k.elim
  | tuple ds =>
    cases dp3 with
    | tup hs ha =>
      refine .inr (.inl ⟨_, _, rfl, same_t ok3.gh hs, fun hw => ?_, fun _ p hp => ?_⟩)
      · rw [dpAll_length ha] at hw
        have k : ∀ (v : V) (G' H' : Hp), Grow G H G' H' → Dp K G' v (.tuple (cutD ds l u)) → Q v H' := k
        rw [cutD_whole hw] at k
        exact k _ G3 H3 g (.tup hs ha)
      · exact k _ _ _ (g.trans (Grow.still ok3.gh hp)) (.tup (.inl (.inl upd_same)) (dpAll_mono (same_new (ok3.gh.free hp)) _ _ (dpAll_cut ha)))
  | list ds =>
    cases dp3 with
    | lst hs ha =>
      refine .inr (.inr ⟨_, _, rfl, ok3.gh.seq hs, fun p hp => ?_⟩)
      exact k _ _ _ (g.trans (Grow.still ok3.gh hp)) (.lst (.inl (.inl upd_same)) (dpAll_mono (same_new (ok3.gh.free hp)) _ _ (dpAll_cut ha)))
  | _ => exact k.elim
theorem det_sl {lo hi : Option Expr} {fl fh : En → Res (Option Int)} {p2 pos : Pos} (he : DETk X W cm e f) (hl : DO X W cm lo fl) (hh : DO X W cm hi fh) : DETk X W cm (.Subscript e (.Slice lo hi none p2) pos) (fSl f fl fh) :=
  fun pins s σ H Q h0 I q => pet_sl (sl_str.or (sl_tupA.or sl_list)) he hl hh pins s σ H Q h0 I (t_sl q)
/-- name = e, e wants a token -/
theorem dst_asg {tg : Expr} {t : Tgt} {pos : Pos} (he : DETk X W cm e f) (hg : DG X tg t) (hs : swapsWithSole [tg] e pos.line X.env = pure false := by rfl) (hw : swappedStores [tg] e X.env = pure none := by rfl)
    (h1 : (assignEach [tg] X.env).map (·.2) = [assign tg X.env] := by rfl) : DSTk X W cm (.Assign [tg] e pos) (sAsg t f) := fun pins s σ H D h0 I q => by
  refine wpAny_Assign_stores (thn (he pins s σ H _ h0 I (t_asg q)) fun v a1 ⟨x, H1, I1, r1, q1⟩ => ?_) hs hw
  rw [h1]; exact thn (hg.run pins a1 σ H1 x v _ I1 r1 q1) fun _ a2 q => (q)
/-- (number, text) = ..: behind it a token is out -/
theorem dss_bump {tg : Expr} {t : Tgt} {n : Int} {x : Str} {j1 j2 k1 : Nat} {c1 c2 tp pos : Pos} (hg : DG X tg t) (h2 : DSsTk X W cm rest h)
    (hs : swapsWithSole [tg] (.Tuple [.Constant (.int n) j1 c1, .Constant (.str x) j2 c2] k1 tp) pos.line X.env = pure false := by rfl) (hw : swappedStores [tg] (.Tuple [.Constant (.int n) j1 c1, .Constant (.str x) j2 c2] k1 tp) X.env = pure none := by rfl)
    (h1 : (assignEach [tg] X.env).map (·.2) = [assign tg X.env] := by rfl)
    (hst : starEach [.Constant (.int n) j1 c1, .Constant (.str x) j2 c2] X.env = (false, eval (.Constant (.int n) j1 c1) X.env) :: starEach [.Constant (.str x) j2 c2] X.env := by rfl)
    (hst2 : starEach [.Constant (.str x) j2 c2] X.env = (false, eval (.Constant (.str x) j2 c2) X.env) :: starEach [] X.env := by rfl) :
    DSs X W cm (.Assign [tg] (.Tuple [.Constant (.int n) j1 c1, .Constant (.str x) j2 c2] k1 tp) pos :: rest) (sSeq (sAsg t (fTup (fCons (fC (.int n)) (fCons (fC (.str x)) fNil)))) h) := by
  refine ⟨fun pins s σ H D I q => ?_⟩
  have q := t_asg (t_seq q)
  refine wpAny_execs_cons (wpAny_Assign_stores (wpAny_Tuple_spliced (PyProof.Rows.args_cons (wpAny_Constant_int (PyProof.Rows.args_cons (Calls.Constant_str (PyProof.Rows.args_nil ⟨show 2 ≤ sizeLine by decide, ?_⟩)) hst2)) hst)) hs hw)
  rw [h1]
  obtain ⟨G0, H0, G, env, ok, q⟩ := q
  have I1 : Inv X pins σ H { s with toks := s.toks + 1 + 1 } := I.tok _
  have nf : H s.heap.objs.size = none := I.hok.fresh (Nat.le_refl _)
  have I2 : Inv X pins σ (upd H s.heap.objs.size (.tup [V.int n, V.str x])) { s with heap := s.heap.push { cls := .type "tuple", data := .seq [Value.int n s.toks, Value.str x (s.toks + 1)].toArray }, toks := s.toks + 1 + 1 } :=
    I.laid (t' := s.toks + 1 + 1) (fun b u e => Heap.get?_push_of_some _ e) (Nat.le_refl _) ⟨show 2 ≤ sizeLine by decide, _, .cons ⟨_, rfl⟩ (.cons ⟨_, rfl⟩ .nil), ⟨_, Heap.get?_push_size _ rfl, rfl, _, rfl⟩⟩
  have q : ∀ (v : V) (G' H' : Hp), Grow G H G' H' → Dp X.K G' v (.tuple [.int n, .str x]) → tG X.prog X.w X.K t v σ H' { D with nx := tS X.prog X.w X.K W cm h D }.nx := q
  have q := q (.ref s.heap.objs.size) _ _ (Grow.still ok.gh nf) (.tup (.inl (.inl upd_same)) (.cons (.int n) (.cons (.str x) .nil)))
  refine wpAny_mono (PySem.wpAny_toks (hg.run pins _ σ _ (.ref s.heap.objs.size) (.ref s.heap.objs.size) _ I2 rfl q)) (fun _ a2 z => ?_) fun _ _ z => z.2
  obtain ⟨hk, σ', H', I', q'⟩ := z
  have hk : s.toks + 1 + 1 ≤ a2.toks := hk
  exact h2 pins a2 σ' H' D (by omega) I' q'
end
end GL

/-! # The data layer, part q: dicts whose keys are tuples -/
namespace GL
open PySem PySem.Spec PyProof.Rows L2
mutual
def keyD : PyData → Option NestedKey
  | .none => some .none
  | .int i => some (.num i)
  | .str x => some (.text x)
  | .tuple ds => (keysD ds).map .tup
  | _ => none
def keysD : List PyData → Option (List NestedKey)
  | [] => some []
  | d :: ds => (keyD d).bind fun k => (keysD ds).map fun ks => k :: ks
end
mutual
theorem keyD_data : ∀ (d : PyData) (k : NestedKey), keyD d = some k → k.data = d
  | .none, k, h => by simp [keyD] at h; subst h; rfl
  | .int i, k, h => by simp [keyD] at h; subst h; rfl
  | .str x, k, h => by simp [keyD] at h; subst h; rfl
  | .bool b, k, h => by simp [keyD] at h
  | .list ds, k, h => by simp [keyD] at h
  | .dict ds, k, h => by simp [keyD] at h
  | .tuple ds, k, h => by
    simp only [keyD] at h
    obtain ⟨ks, e, rfl⟩ := Option.map_eq_some_iff.mp h
    rw [NestedKey.data, keysD_data ds ks e]
theorem keysD_data : ∀ (ds : List PyData) (ks : List NestedKey), keysD ds = some ks → NestedKey.datas ks = ds
  | [], ks, h => by simp [keysD] at h; subst h; rfl
  | d :: ds, ks, h => by
    simp only [keysD] at h
    obtain ⟨k, e1, h⟩ := Option.bind_eq_some_iff.mp h
    obtain ⟨ks', e2, rfl⟩ := Option.map_eq_some_iff.mp h
    rw [NestedKey.datas, keyD_data d k e1, keysD_data ds ks' e2]
end
section
variable {X : Cx} {pins : List (Addr × Obj)} {σ : L2.St} {H : Hp} {s : Shared}
mutual
theorem nested_is (I : Inv X pins σ H s) : ∀ (k : NestedKey) (v : V) (u : Value), Dp X.K H v k.data → RelV v u → NestedIs s.heap k u
  | .none, v, u, h, r => by
    rw [NestedKey.data] at h
    cases h
    cases r
    exact .none
  | .num i, v, u, h, r => by
    rw [NestedKey.data] at h
    cases h
    obtain ⟨t, rfl⟩ := r
    exact .int i t
  | .text x, v, u, h, r => by
    rw [NestedKey.data] at h
    cases h
    obtain ⟨t, rfl⟩ := r
    exact .text x t
  | .tup ks, v, u, h, r => by
    rw [NestedKey.data] at h
    cases h with
    | tup hs ha =>
      cases r
      obtain ⟨its, rv, ⟨o, ho, hc, n, hd⟩, _⟩ := I.tuple hs
      exact .tup ho hc hd (nested_all I ks _ _ ha (by simpa using rv))
theorem nested_all (I : Inv X pins σ H s) : ∀ (ks : List NestedKey) (vs : List V) (us : List Value), DpAll X.K H vs (NestedKey.datas ks) → Vals vs us → NestedAll s.heap ks us
  | [], vs, us, h, r => by
    rw [NestedKey.datas] at h
    cases h
    cases r
    exact .nil
  | k :: ks, vs, us, h, r => by
    rw [NestedKey.datas] at h
    cases h with
    | cons h1 h2 =>
      cases r with
      | cons r1 r2 => exact .cons (nested_is I k _ _ h1 r1) (nested_all I ks _ _ h2 r2)
end
end

/-! ### entries -/
def getK (kvs : List (NestedKey × PyData)) (k : NestedKey) : Option PyData := (kvs.find? fun x => decide (x.1 = k)).map (·.2)
def putD (kvs : List (NestedKey × PyData)) (k : NestedKey) (d : PyData) : List (NestedKey × PyData) := if (getK kvs k).isSome = true then kvs.map fun x => if x.1 = k then (x.1, d) else x else kvs ++ [(k, d)]
def keyQ (d : PyData) : Res NestedKey := match d with
  | .tuple ds => match keyD (.tuple ds) with
    | some k => if k.depth ≤ 8 then .ok k else .no
    | none => .no
  | _ => .no
theorem keyQ_ok {d : PyData} {k : NestedKey} (h : keyQ d = .ok k) : k.data = d ∧ k.depth ≤ 8 ∧ ∃ ds, d = .tuple ds := by
  unfold keyQ at h
  split at h
  · rename_i ds
    split at h
    · rename_i k' e
      obtain ⟨hl, rfl⟩ := ok_of_ite h
      exact ⟨keyD_data _ _ e, hl, ds, rfl⟩
    · cases h
  · cases h
theorem keyQ_never (d : PyData) : Never (keyQ d) := by
  unfold keyQ
  split
  · split
    · exact never_ite (never_ok _) never_no
    · exact never_no
  · exact never_no
theorem find_isSome {α β : Type} [DecidableEq α] (xs : List (α × β)) (k : α) : (xs.find? fun x => decide (x.1 = k)).isSome = decide (k ∈ xs.map (·.1)) := by
  rw [Bool.eq_iff_iff, List.find?_isSome, decide_eq_true_iff, List.mem_map]
  constructor
  · rintro ⟨x, hx, e⟩
    exact ⟨x, hx, of_decide_eq_true e⟩
  · rintro ⟨x, hx, e⟩
    exact ⟨x, hx, decide_eq_true e⟩
theorem getK_isSome (kvs : List (NestedKey × PyData)) (k : NestedKey) : (getK kvs k).isSome = decide (k ∈ kvs.map (·.1)) := by
  unfold getK
  rw [Option.isSome_map, find_isSome]
theorem atKey_isSome (ys : List (NestedKey × Addr × Value)) (k : NestedKey) : (atKey ys k).isSome = decide (k ∈ ys.map (·.1)) := by
  unfold atKey
  rw [Option.isSome_map, find_isSome]
theorem paired_fst {α β γ : Type} {F : γ × α → γ × β → Prop} (hF : ∀ x y, F x y → x.1 = y.1) : ∀ {xs : List (γ × α)} {ys : List (γ × β)}, Paired F xs ys → xs.map (·.1) = ys.map (·.1)
  | _, _, .nil => rfl
  | _, _, .cons h r => by rw [List.map_cons, List.map_cons, hF _ _ h, paired_fst hF r]
theorem paired_mem {α β : Type} {F : α → β → Prop} : ∀ {xs : List α} {ys : List β}, Paired F xs ys → ∀ y ∈ ys, ∃ x ∈ xs, F x y
  | _, _, .nil, y, h => by cases h
  | _, _, .cons h r, y, hy => by
    rcases List.mem_cons.mp hy with rfl | hy
    · exact ⟨_, List.mem_cons_self, h⟩
    · obtain ⟨x, hx, e⟩ := paired_mem r y hy
      exact ⟨x, List.mem_cons_of_mem _ hx, e⟩
theorem paired_memL {α β : Type} {F : α → β → Prop} : ∀ {xs : List α} {ys : List β}, Paired F xs ys → ∀ x ∈ xs, ∃ y ∈ ys, F x y
  | _, _, .nil, y, h => by cases h
  | _, _, .cons h r, y, hy => by
    rcases List.mem_cons.mp hy with rfl | hy
    · exact ⟨_, List.mem_cons_self, h⟩
    · obtain ⟨x, hx, e⟩ := paired_memL r y hy
      exact ⟨x, List.mem_cons_of_mem _ hx, e⟩
section
variable {X : Cx} {pins : List (Addr × Obj)} {σ : L2.St} {H G : Hp} {s : Shared} {p : Addr} {kvs : List (NestedKey × PyData)}
/-- the dict itself, under the invariant -/
theorem dct_raw (I : Inv X pins σ H s) (gh : Same G H) (D : DctAt X.prog X.w X.K G H p kvs) : ∃ (xs : List (NestedKey × Addr × V)) (ys : List (NestedKey × Addr × Value)), H p = some (DctO X.prog X.w p xs) ∧ (p == sysModules) = false ∧
    Paired (fun (x : NestedKey × Addr × V) (y : NestedKey × PyData) => x.1 = y.1 ∧ x.1.depth ≤ 8 ∧ Dp X.K G (.ref x.2.1) x.1.data ∧ Dp X.K G x.2.2 y.2) xs kvs ∧
    Paired (fun (x : NestedKey × Addr × V) (y : NestedKey × Addr × Value) => x.1 = y.1 ∧ x.2.1 = y.2.1 ∧ RelV x.2.2 y.2.2) xs ys ∧ s.heap.DictOfH (nestedKind X.prog X.w) p ys ∧ ys.map (·.1) = kvs.map (·.1) := by
  obtain ⟨xs, hH, hs, pr⟩ := D
  obtain ⟨ys, pq, o, es, ep, ho, hx, hd, he, nd⟩ : RawD X.prog X.w s.heap p xs := (I.hok p _ hH).1
  refine ⟨xs, ys, hH, hs, pr, pq, ⟨o, es, ep, ho, hx, hd, he, fun y hy => ?_, nd⟩, ?_⟩
  · obtain ⟨x, hxm, e1, e2, _⟩ := paired_mem pq y hy
    obtain ⟨z, _, e3, dp, d1, _⟩ := paired_memL pr x hxm
    have := nested_is I x.1 (.ref x.2.1) (.ref x.2.1) (dp_mono gh _ _ d1) rfl
    rw [e1, e2] at this
    exact ⟨this, by rw [← e1]; exact dp⟩
  · rw [← paired_fst (fun x y h => h.1) pq, paired_fst (fun x y h => h.1) pr]
def rInK (K : PySem.W.Frag) (P : Program) (w : World) (neg : Bool) : R2 := fun x y H Q => ∃ G k a p kvs, x = .ref a ∧ y = .ref p ∧ Same G H ∧ Dp K G (.ref a) (NestedKey.data k) ∧ k.depth ≤ 8 ∧ DctAt P w K G H p kvs ∧ Q (.bl (neg != (getK kvs k).isSome)) H
theorem op_inK {k : Nat} (hr : Room k X.A) : OpR X (compareOp .In) (rInK X.K X.prog X.w false) := by
  intro pins s σ H x y v u Q I rx ry h
  obtain ⟨G, k, a, p, kvs, rfl, rfl, gh, dk, hd, D, q⟩ := h
  cases rx
  cases ry
  obtain ⟨xs, ys, hH, hs, pr, pq, dd, ek⟩ := dct_raw I gh D
  have hu := hr.units
  refine in_keyed (knd := nestedKind X.prog X.w) (kvs := pairsH ys) (show X.A.in1.units + 8 < cLine by show X.A.units + 1 + 8 < cLine; omega) ⟨nested_is I k _ _ (dp_mono gh _ _ dk) rfl, hd⟩ hs ⟨ys, dd, rfl⟩ ⟨.bl _, H, I.tok _, ?_, q⟩
  rw [valueAt_pairsH, Option.isSome_map, atKey_isSome, ek, ← getK_isSome]
  show Value.bool _ = Value.bool _
  simp
theorem op_ninK {k : Nat} (hr : Room k X.A) : OpR X (compareOp .NotIn) (rInK X.K X.prog X.w true) := by
  intro pins s σ H x y v u Q I rx ry h
  obtain ⟨G, k, a, p, kvs, rfl, rfl, gh, dk, hd, D, q⟩ := h
  cases rx
  cases ry
  obtain ⟨xs, ys, hH, hs, pr, pq, dd, ek⟩ := dct_raw I gh D
  have hu := hr.units
  refine notIn_keyed (knd := nestedKind X.prog X.w) (kvs := pairsH ys) (show X.A.in1.units + 8 < cLine by show X.A.units + 1 + 8 < cLine; omega) ⟨nested_is I k _ _ (dp_mono gh _ _ dk) rfl, hd⟩ hs ⟨ys, dd, rfl⟩ ⟨.bl _, H, I.tok _, ?_, q⟩
  rw [valueAt_pairsH, Option.isSome_map, atKey_isSome, ek, ← getK_isSome]
  show Value.bool _ = Value.bool _
  simp

/-! ### d[k] = v -/
def storedX (xs : List (NestedKey × Addr × V)) (k : NestedKey) (a : Addr) (v : V) : List (NestedKey × Addr × V) := if k ∈ xs.map (·.1) then xs.map fun x => if x.1 = k then (x.1, x.2.1, v) else x else xs ++ [(k, a, v)]
theorem paired_map {α β : Type} {F F' : α → β → Prop} {f : α → α} {g : β → β} (h : ∀ x y, F x y → F' (f x) (g y)) : ∀ {xs : List α} {ys : List β}, Paired F xs ys → Paired F' (xs.map f) (ys.map g)
  | _, _, .nil => .nil
  | _, _, .cons e r => .cons (h _ _ e) (paired_map h r)
theorem paired_stored {xs : List (NestedKey × Addr × V)} {ys : List (NestedKey × Addr × Value)} {k : NestedKey} {a : Addr} {v : V} {r : Value} (h : Paired (fun (x : NestedKey × Addr × V) (y : NestedKey × Addr × Value) => x.1 = y.1 ∧ x.2.1 = y.2.1 ∧ RelV x.2.2 y.2.2) xs ys) (hv : RelV v r) :
    Paired (fun (x : NestedKey × Addr × V) (y : NestedKey × Addr × Value) => x.1 = y.1 ∧ x.2.1 = y.2.1 ∧ RelV x.2.2 y.2.2) (storedX xs k a v) (storedH ys k a r) := by
  unfold storedX storedH
  rw [atKey_isSome, ← paired_fst (fun x y h => h.1) h]
  by_cases hk : k ∈ xs.map (·.1)
  · rw [if_pos hk, if_pos (decide_eq_true hk)]
    refine paired_map (fun x y e => ?_) h
    unfold putAt
    by_cases e1 : x.1 = k
    · rw [if_pos e1, if_pos (e.1 ▸ e1)]; exact ⟨e.1, e.2.1, hv⟩
    · rw [if_neg e1, if_neg (e.1 ▸ e1)]; exact e
  · rw [if_neg hk, if_neg (by rw [decide_eq_false hk]; exact Bool.false_ne_true)]
    exact h.snoc ⟨rfl, rfl, hv⟩
theorem paired_put {K : PySem.W.Frag} {G : Hp} {xs : List (NestedKey × Addr × V)} {kvs : List (NestedKey × PyData)} {k : NestedKey} {a : Addr} {v : V} {d : PyData} (h : Paired (fun (x : NestedKey × Addr × V) (y : NestedKey × PyData) => x.1 = y.1 ∧ x.1.depth ≤ 8 ∧ Dp K G (.ref x.2.1) x.1.data ∧ Dp K G x.2.2 y.2) xs kvs)
    (hk : k.depth ≤ 8) (hd : Dp K G (.ref a) k.data) (hv : Dp K G v d) : Paired (fun (x : NestedKey × Addr × V) (y : NestedKey × PyData) => x.1 = y.1 ∧ x.1.depth ≤ 8 ∧ Dp K G (.ref x.2.1) x.1.data ∧ Dp K G x.2.2 y.2) (storedX xs k a v) (putD kvs k d) := by
  unfold storedX putD
  rw [getK_isSome, ← paired_fst (fun x y h => h.1) h]
  by_cases e : k ∈ xs.map (·.1)
  · rw [if_pos e, if_pos (decide_eq_true e)]
    refine paired_map (fun x y q => ?_) h
    by_cases e1 : x.1 = k
    · rw [if_pos e1, if_pos (q.1 ▸ e1)]; exact ⟨q.1, q.2.1, q.2.2.1, hv⟩
    · rw [if_neg e1, if_neg (q.1 ▸ e1)]; exact q
  · rw [if_neg e, if_neg (by rw [decide_eq_false e]; exact Bool.false_ne_true)]
    exact h.snoc ⟨rfl, hk, hd, hv⟩
theorem dctO_new {P : Program} {w : World} {H : Hp} {h : Heap} {p : Addr} {xs : List (NestedKey × Addr × V)} (R : RawD P w h p xs) : ObjOk P w H h p (DctO P w p xs) := by
  obtain ⟨ys, pq, o, es, ep, ho, r⟩ := id R
  exact ⟨R, ⟨o, ho⟩, fun h1 h2 ⟨ys, pq, o, es, ep, ho, r⟩ k => ⟨ys, pq, o, es, ep, k o ho, r⟩⟩
def tDputK (K : PySem.W.Frag) (P : Program) (w : World) (td ty tv : TE) : TS := fun D σ H => tv σ H fun v H1 => td σ H1 fun x H2 => ty σ H2 fun y H3 => ∃ G k a p kvs d, x = .ref p ∧ y = .ref a ∧ Same G H3 ∧ Dp K G (.ref a) (NestedKey.data k) ∧ k.depth ≤ 8 ∧ DctAt P w K G H3 p kvs ∧ Dp K G v d ∧ kvs.length < sizeLine ∧
  ∀ xs, Paired (fun (x : NestedKey × Addr × V) (y : NestedKey × PyData) => x.1 = y.1 ∧ x.1.depth ≤ 8 ∧ Dp K G (.ref x.2.1) x.1.data ∧ Dp K G x.2.2 y.2) xs (putD kvs k d) → (p == sysModules) = false → D.nx σ (upd H3 p (DctO P w p xs))
theorem ps_dputK {k : Nat} {o i value : Expr} {td ty tv : TE} {pos pos' : Pos} (hr : Room k X.A) (ho : PE X o td) (hi : PE X i ty) (hv : PE X value tv) (hs : swapsWith value (some (.Subscript o i pos')) pos.line X.env = pure false := by rfl) :
    PS X (.Assign [.Subscript o i pos'] value pos) (tDputK X.K X.prog X.w td ty tv) := by
  refine ⟨fun pins s σ H D I h => ?_⟩
  refine wpAny_Assign_Subscript (thn (hv.run pins s σ H _ I h) fun r a1 ⟨v, H1, I1, rv, q1⟩ => thn (ho.run pins a1 σ H1 _ I1 q1) fun u a2 ⟨x, H2, I2, rx, q2⟩ => thn (hi.run pins a2 σ H2 _ I2 q2) fun iv a3 ⟨y, H3, I3, ry, G, k, a, p, kvs, d, ex, ey, gh, dk, hd, D0, dv, hl, q3⟩ => ?_) hs
  subst ex ey
  cases rx
  cases ry
  obtain ⟨xs, ys, hH, hsm, pr, pq, dd, ek⟩ := dct_raw I3 gh D0
  have hu := hr.units
  have hlen : ys.length ≤ sizeLine := by
    have := congrArg List.length ek
    rw [List.length_map, List.length_map] at this
    omega
  refine wpAny_setItem_heap (hsz := hlen) (show X.A.in1.units + 8 < cLine by show X.A.units + 1 + 8 < cLine; omega) (⟨nested_is I3 k _ _ (dp_mono gh _ _ dk) rfl, hd⟩ : (nestedKind X.prog X.w).is _ k a) dd fun h' dd' same => ?_
  obtain ⟨o', es', ep', ho', hx', hd', he', _, nd'⟩ := dd'
  have R : RawD X.prog X.w h' p (storedX xs k a v) := ⟨_, paired_stored pq rv, o', es', ep', ho', hx', hd', he', nd'⟩
  exact ⟨σ, _, I3.write (t' := _) (by rw [hH]; exact True.intro) (.inl rfl) (fun b u ne e => (same.2 b ne).trans e) ⟨o', ho'⟩ (dctO_new R), q3 _ (paired_put pr hd dk dv) hsm⟩
end
end GL

/-! # The data layer, part r: dicts of one's own, in short -/
namespace GL
open PySem PySem.Spec PyProof.Rows L2
def gK : Option (Option SV) → Res (List (NestedKey × PyData)) := fun o => match o with
  | some (some (.dct kvs)) => .ok kvs
  | _ => .no
@[simp] theorem gK_dct (kvs : List (NestedKey × PyData)) : gK (some (some (.dct kvs))) = .ok kvs := (rfl)
theorem gK_ok {o : Option (Option SV)} {kvs : List (NestedKey × PyData)} (h : gK o = .ok kvs) : o = some (some (.dct kvs)) := by
  unfold gK at h
  split at h
  · cases h; rfl
  · cases h
theorem gK_never (o : Option (Option SV)) : Never (gK o) := by
  unfold gK
  split
  · exact never_ok _
  · exact never_no
def fInK (i : Nat) (f : En → Res PyData) : En → Res PyData := fun env => (f env).bind fun d => (keyQ d).bind fun k => (gK env[i]?).bind fun kvs => .ok (.bool (false != (getK kvs k).isSome))
def fNinK (i : Nat) (f : En → Res PyData) : En → Res PyData := fun env => (f env).bind fun d => (keyQ d).bind fun k => (gK env[i]?).bind fun kvs => .ok (.bool (true != (getK kvs k).isSome))
/-- the value is evaluated first, then the dict, then the key -/
def sDput (i : Nat) (f g : En → Res PyData) : En → Out := fun env => .ofR (g env) env fun v => .ofR (gK env[i]?) env fun kvs => .ofR (f env) env fun d => .ofR (keyQ d) env fun k =>
  if kvs.length < sizeLine then .nx (env.set i (some (.dct (putD kvs k v)))) else .no
def sDnew (i : Nat) : En → Out := fun env => .nx (env.set i (some (.dct [])))
section
variable {X : Cx} {W : WX} {cm : Str → Addr} {a e e2 : Expr} {f g : En → Res PyData} {pos pos' p' : Pos} {k : Nat} {x : Str}
theorem t_inK {P : Program} {w : World} {K : PySem.W.Frag} {neg : Bool} {i : Nat} {σ : L2.St} {H : Hp} {Q : VK} (q : tD P w K W cm (fun env => (f env).bind fun d => (keyQ d).bind fun k => (gK env[i]?).bind fun kvs => .ok (.bool (neg != (getK kvs k).isSome))) σ H Q) :
    tOp (rInK K P w neg) (tD P w K W cm f) (tVar i) σ H Q := by
  obtain ⟨G0, H0, G, env, ok, q⟩ := q
  refine tD.go ok ((Res.sat_bind.mp q).imp (fun d _ k v G1 H1 g1 ok1 dp => ?_) fun _ z => z)
  obtain ⟨kk, ek, k2⟩ := sat_ok (keyQ_never d) (Res.sat_bind.mp k)
  obtain ⟨kvs, ev, k3⟩ := sat_ok (gK_never _) (Res.sat_bind.mp k2)
  obtain ⟨u, hu, p, rfl, _, _, D⟩ := ok1.sl i _ (gK_ok ev)
  obtain ⟨e1, e2, ds, e3⟩ := keyQ_ok ek
  have dp' : Dp K G1 v kk.data := by rw [e1]; exact dp
  rw [e3] at dp
  obtain ⟨b, rfl⟩ : ∃ b, v = .ref b := by
    cases dp
    exact ⟨_, rfl⟩
  exact ⟨.ref p, hu, G1, kk, b, p, kvs, rfl, rfl, ok1.gh, dp', e2, D, k3 _ G1 H1 g1 (.bl _)⟩
theorem de_inK (i : Nat) (hr : Room k X.A) (ha : DE X W cm a f) (hN : X.N[i]? = some x := by rfl) (hv : Vis X.env.scope x := by first | exact Or.inl rfl | exact Or.inr (Or.inl rfl) | exact Or.inr (Or.inr rfl)) (hd : (x == ("__debug__" : Str)) = false := by decide) (hcd : (x == ("__classdict__" : Str)) = false := by decide)
    (hm : behindInMarks .In (.Name x p') = false := by with_unfolding_all rfl) : DE X W cm (.Compare a [.In] [.Name x p'] pos) (fInK i f) := pe_imp (pe_cmpR (op_inK hr) ha (pe_var hN hv hd hcd) hm) fun σ H Q q => t_inK q
theorem de_ninK (i : Nat) (hr : Room k X.A) (ha : DE X W cm a f) (hN : X.N[i]? = some x := by rfl) (hv : Vis X.env.scope x := by first | exact Or.inl rfl | exact Or.inr (Or.inl rfl) | exact Or.inr (Or.inr rfl)) (hd : (x == ("__debug__" : Str)) = false := by decide) (hcd : (x == ("__classdict__" : Str)) = false := by decide)
    (hm : behindInMarks .NotIn (.Name x p') = false := by with_unfolding_all rfl) : DE X W cm (.Compare a [.NotIn] [.Name x p'] pos) (fNinK i f) := pe_imp (pe_cmpR (op_ninK hr) ha (pe_var hN hv hd hcd) hm) fun σ H Q q => t_inK q
theorem dt_inK (i : Nat) (hr : Room k X.A) (ha : DE X W cm a f) (hN : X.N[i]? = some x := by rfl) (hv : Vis X.env.scope x := by first | exact Or.inl rfl | exact Or.inr (Or.inl rfl) | exact Or.inr (Or.inr rfl)) (hd : (x == ("__debug__" : Str)) = false := by decide) (hcd : (x == ("__classdict__" : Str)) = false := by decide)
    (hm : behindInMarks .In (.Name x p') = false := by with_unfolding_all rfl) : DT X W cm (.Compare a [.In] [.Name x p'] pos) (fB (fInK i f)) := pt_imp (pt_cmpR (op_inK hr) ha (pe_var hN hv hd hcd) hm) fun σ H Q q => t_inK (t_test q)
theorem dt_ninK (i : Nat) (hr : Room k X.A) (ha : DE X W cm a f) (hN : X.N[i]? = some x := by rfl) (hv : Vis X.env.scope x := by first | exact Or.inl rfl | exact Or.inr (Or.inl rfl) | exact Or.inr (Or.inr rfl)) (hd : (x == ("__debug__" : Str)) = false := by decide) (hcd : (x == ("__classdict__" : Str)) = false := by decide)
    (hm : behindInMarks .NotIn (.Name x p') = false := by with_unfolding_all rfl) : DT X W cm (.Compare a [.NotIn] [.Name x p'] pos) (fB (fNinK i f)) := pt_imp (pt_cmpR (op_ninK hr) ha (pe_var hN hv hd hcd) hm) fun σ H Q q => t_inK (t_test q)
theorem ds_dput (i : Nat) (hr : Room k X.A) (hk : DE X W cm e f) (hv : DE X W cm e2 g) (hN : X.N[i]? = some x := by rfl) (hvi : Vis X.env.scope x := by first | exact Or.inl rfl | exact Or.inr (Or.inl rfl) | exact Or.inr (Or.inr rfl)) (hd : (x == ("__debug__" : Str)) = false := by decide)
    (hcd : (x == ("__classdict__" : Str)) = false := by decide) (hs : swapsWith e2 (some (.Subscript (.Name x p') e pos')) pos.line X.env = pure false := by rfl) : DS X W cm (.Assign [.Subscript (.Name x p') e pos'] e2 pos) (sDput i f g) :=
  ps_imp (ps_dputK hr (pe_var hN hvi hd hcd) hk hv hs) fun D σ H q => by
    obtain ⟨G0, H0, G, env, ok, q⟩ := q
    show tD X.prog X.w X.K W cm g σ H fun v H1 => tVar i σ H1 fun y H2 => tD X.prog X.w X.K W cm f σ H2 fun z H3 => _
    refine tD.go ok (OutP.ofR ok q fun v _ q1 u G1 H1 g1 ok1 du => ?_)
    cases ev : gK env[i]? with
    | no => rw [ev] at q1; exact q1.elim
    | ex y => exact absurd ev (gK_never _ y)
    | ok kvs =>
      rw [ev, ofR_ok] at q1
      have hi := gK_ok ev
      obtain ⟨w1, hw, p, rfl, h0, hg, D1⟩ := ok1.sl i _ hi
      refine ⟨.ref p, hw, ?_⟩
      refine tD.go ok1 (OutP.ofR ok1 (q1.mono g1.g) fun d _ q2 z G2 H2 g2 ok2 dz => ?_)
      cases ek : keyQ d with
      | no => rw [ek] at q2; exact q2.elim
      | ex y => exact absurd ek (keyQ_never _ y)
      | ok kk =>
        rw [ek, ofR_ok] at q2
        split at q2
        · rename_i hl
          obtain ⟨e1, e2', ds, e3⟩ := keyQ_ok ek
          have dz' : Dp X.K G2 z kk.data := by rw [e1]; exact dz
          rw [e3] at dz
          obtain ⟨b, rfl⟩ : ∃ b, z = .ref b := by
            cases dz
            exact ⟨_, rfl⟩
          obtain ⟨w2, hw2, p2, rfl, h02, hg2, D2⟩ := ok2.sl i _ hi
          have ep : p2 = p := by rw [hw] at hw2; cases hw2; rfl
          subst ep
          refine ⟨G2, kk, b, p2, kvs, v, rfl, rfl, ok2.gh, dz', e2', D2, dp_mono g2.g _ _ du, hl, fun xs pr sm => ?_⟩
          exact q2 G2 σ _ g2.g (ok2.mut hi rfl hw2 h02 hg2 ⟨p2, rfl, h02, hg2, xs, upd_same, sm, pr⟩)
        · exact q2.elim

/-- {} -/
theorem pe_dnewN : PE X (.Dict [] [] pos) (fun _ H Q => ∀ p, H p = none → (p == sysModules) = false → Q (.ref p) (upd H p (DctO X.prog X.w p []))) := ⟨fun pins s σ H Q I h =>
  wpAny_Dict_empty ⟨.ref s.heap.objs.size, _, I.laid (a := s.heap.objs.size) (o := DctO X.prog X.w s.heap.objs.size []) (t' := s.toks) (fun _ _ z => Heap.get?_push_of_some _ z) (Nat.le_refl _)
    (dctO_new ⟨[], .nil, _, #[], 0, Heap.get?_push_size _ rfl, ⟨rfl, rfl, rfl⟩, rfl, rfl, List.nodup_nil⟩), rfl, h _ (I.hok.fresh (Nat.le_refl _)) (beq_eq_false_iff_ne.mpr (Ne.symm (Nat.ne_of_lt I.big)))⟩⟩
theorem ds_dnew (i : Nat) (hN : X.N.Nodup) (hi : X.N[i]? = some x := by rfl) (hx : Loc X.env.scope x := by first | exact Or.inl rfl | exact Or.inr rfl) (hs : swapsWith (.Dict [] [] p') (some (.Name x pos')) pos.line X.env = pure false := by rfl) (hf : X.fn x = true ∨ X.env.scope.names.lookup x = some .local := by first | exact .inl rfl | exact .inr rfl | assumption) :
    DS X W cm (.Assign [.Name x pos'] (.Dict [] [] p') pos) (sDnew i) := ps_imp (ps_set hN hi hx pe_dnewN hs hf) fun D σ H q => by
  obtain ⟨G0, H0, G, env, ok, q⟩ := q
  intro p hp sm
  have ok1 := ok.grow (Grow.fresh (o := DctO X.prog X.w p []) ok.gh hp)
  refine q G _ _ (Same.refl G) (ok1.put ⟨p, rfl, ok.gr.h.free hp, ok.gh.free hp, [], upd_same, sm, .nil⟩ fun j t v a _ ht hm hv f1 f2 => ok.new (same_new hp) hp ht hm hv (fp_dct (upd_same : upd H p (DctO X.prog X.w p []) p = _) f1 ▸ f2))
end
end GL

/-! # The data layer, part t: the heap does not shrink -/
namespace GL
open PySem PySem.Spec PyProof.Rows L2
theorem runs_size {M : Model} {Γ : PySem.Ctx} {p : Pos} {t : Sem Fin} {fs : List Frame} {s s' : Shared} {e : End} (h : Runs M Γ p t fs s e s') : s.heap.objs.size ≤ s'.heap.objs.size := by
  induction h <;> (try simp only [Shared.setGen, Heap.size_push, Heap.size_update] at *) <;> omega
theorem returns_size {M : Model} {Γ : PySem.Ctx} {p : Pos} {s s' : Shared} {r : Result} (h : Returns M Γ p s r s') : s.heap.objs.size ≤ s'.heap.objs.size := runs_size h
theorem wakes_size {M : Model} {Γ : PySem.Ctx} {p : Pos} {g : Nat} {r : Resume} {s s' : Shared} {res : GenResult} (h : Wakes M Γ p g r s res s') : s.heap.objs.size ≤ s'.heap.objs.size := by
  unfold Wakes at h
  split at h
  · exact h.elim
  · split at h
    · obtain ⟨a, b, hr, _, _, rfl⟩ := h; exact (runs_size hr : (s.setGen g .running).heap.objs.size ≤ b.heap.objs.size)
    · rw [h.2]; exact (Nat.le_refl _)
    · rw [h.2]; exact (Nat.le_refl _)
  · obtain ⟨a, b, hr, _, _, rfl⟩ := h; exact (runs_size hr : (s.setGen g .running).heap.objs.size ≤ b.heap.objs.size)
  · rw [h.2]; exact (Nat.le_refl _)
  · rw [h.2]; exact (Nat.le_refl _)
theorem wp_size {α : Type} (M : Model) (Γ : PySem.Ctx) (n : Nat) (t : Sem α) : ∀ (Q : α → Pos → Shared → Prop) (E : Value → Pos → Shared → Prop) (p : Pos) (s : Shared), n ≤ s.heap.objs.size → Sem.wp M Γ t Q E p s →
    Sem.wp M Γ t (fun a p' s' => n ≤ s'.heap.objs.size ∧ Q a p' s') (fun e p' s' => n ≤ s'.heap.objs.size ∧ E e p' s') p s := by
  induction t with
  | pure a => intro Q E p s hn h; exact (⟨hn, h⟩)
  | raise e => intro Q E p s hn h; exact (⟨hn, h⟩)
  | unsupported _ => intro Q E p s _ h; exact (h)
  | finish _ => intro Q E p s _ h; exact (h)
  | rule _ k ih => intro Q E p s hn h; exact (ih () Q E p s hn h)
  | «at» q k ih => intro Q E p s hn h; exact (ih () Q E q s hn h)
  | load a _ k ih => intro Q E p s hn ⟨o, ho, h⟩; exact ⟨o, ho, ih o Q E p s hn h⟩
  | update a _ f k ih => intro Q E p s hn h; exact ⟨h.1, ih () Q E p _ (by rw [Heap.size_update]; exact hn) h.2⟩
  | loadIfAlive a k ih => intro Q E p s hn h; exact (ih _ Q E p s hn h)
  | point _ k ih => intro Q E p s hn h; exact (ih () Q E p s hn h)
  | register _ _ => intro Q E p s _ h; exact (h)
  | alloc o k ih => intro Q E p s hn h; exact ih _ Q E p _ (by rw [Heap.size_push]; omega) h
  | fresh k ih => intro Q E p s hn h; exact (ih _ Q E p _ hn h)
  | ask k ih => intro Q E p s hn h; exact (ih _ Q E p s hn h)
  | choose src m k ih => intro Q E p s hn h; exact (⟨h.1, ih _ Q E p _ hn h.2⟩)
  | os q _ k ih => intro Q E p s hn h; exact (ih _ Q E p _ hn h)
  | call c hd _ _ k ih => intro Q E p s hn ⟨r, a, hr, h⟩; exact ⟨r, a, hr, ih r Q E p a (Nat.le_trans hn (returns_size hr)) h⟩
  | handled own k ih => intro Q E p s hn h; exact (ih _ Q E p s hn h)
  | genState g k ih => intro Q E p s hn ⟨st, hs, h⟩; exact ⟨st, hs, ih _ Q E p s hn h⟩
  | newGen c k ih => intro Q E p s hn h; exact (ih _ Q E p _ hn h)
  | resume g r _ k ih => intro Q E p s hn ⟨res, a, hw, h⟩; exact ⟨res, a, hw, ih res Q E p a (Nat.le_trans hn (wakes_size hw)) h⟩
  | yield _ _ _ _ => intro Q E p s _ h; exact (h)
  | stack k ih => intro Q E p s hn h; exact (ih _ Q E p s hn h)
  | fork _ _ => intro Q E p s _ h; exact (h)
  | thread k ih => intro Q E p s hn h; exact (ih _ Q E p s hn h)
  | await _ _ _ _ _ => intro Q E p s _ h; exact (h)
theorem wpAny_size {α : Type} {M : Model} {A : Around} {s : Shared} {t : Sem α} {Q : α → Shared → Prop} {E : Value → Shared → Prop} (h : wpAny M A t Q E s) :
    wpAny M A t (fun a s' => s.heap.objs.size ≤ s'.heap.objs.size ∧ Q a s') (fun e s' => s.heap.objs.size ≤ s'.heap.objs.size ∧ E e s') s := fun Γ p hΓ => wp_size M Γ s.heap.objs.size t _ _ p s (Nat.le_refl _) (h Γ p hΓ)
theorem wpAny_sized {α : Type} {M : Model} {A : Around} {s : Shared} {t : Sem α} {Q : α → Shared → Prop} {E : Value → Shared → Prop} (h : wpAny M A t (fun a s' => s.heap.objs.size ≤ s'.heap.objs.size → Q a s') E s) : wpAny M A t Q E s :=
  wpAny_mono (wpAny_size h) (fun a s z => z.2 z.1) fun e s z => z.2
end GL

/-! # The data layer, part s: sorted(d) -/
namespace GL
open PySem PySem.Spec PyProof.Rows L2
section
variable {X : Cx} {pins : List (Addr × Obj)} {σ : L2.St} {H : Hp} {s : Shared}
mutual
theorem reads_key (I : Inv X pins σ H s) : ∀ (k : NestedKey) (v : V) (u : Value), Dp X.K H v k.data → RelV v u → Reads s.heap u k.data []
  | .none, v, u, h, r => by
    rw [NestedKey.data] at h ⊢
    cases h
    cases r
    exact .none
  | .num i, v, u, h, r => by
    rw [NestedKey.data] at h ⊢
    cases h
    obtain ⟨t, rfl⟩ := r
    exact .int i t
  | .text x, v, u, h, r => by
    rw [NestedKey.data] at h ⊢
    cases h
    obtain ⟨t, rfl⟩ := r
    exact .str x t
  | .tup ks, v, u, h, r => by
    rw [NestedKey.data] at h ⊢
    cases h with
    | tup hs ha =>
      cases r
      obtain ⟨its, rv, ⟨o, ho, hc, n, hd⟩, _⟩ := I.tuple hs
      exact .tuple ho hc hd (reads_keys I ks _ _ ha (by simpa using rv))
theorem reads_keys (I : Inv X pins σ H s) : ∀ (ks : List NestedKey) (vs : List V) (us : List Value), DpAll X.K H vs (NestedKey.datas ks) → Vals vs us → ReadsAll s.heap us (NestedKey.datas ks) []
  | [], vs, us, h, r => by
    rw [NestedKey.datas] at h ⊢
    cases h
    cases r
    exact .nil
  | k :: ks, vs, us, h, r => by
    rw [NestedKey.datas] at h ⊢
    cases h with
    | cons h1 h2 =>
      cases r with
      | cons r1 r2 => exact .cons (as := []) (bs := []) (reads_key I k _ _ h1 r1) (reads_keys I ks _ _ h2 r2)
end
end

def fSortK (i : Nat) : En → Res (List PyData) := fun env => (gK env[i]?).bind fun kvs => if kvs.length ≤ sizeLine then sortedQ (false, kvs.map fun x => x.1.data) else .no
section
variable {X : Cx} {W : WX} {cm : Str → Addr} {p pos p' : Pos} {k : Nat} {x : Str}
def rSortK (K : PySem.W.Frag) (P : Program) (w : World) : List V → Hp → VK → Prop := fun vs H Q => ∃ G p kvs r, vs = [.ref p] ∧ Same G H ∧ DctAt P w K G H p kvs ∧ kvs.length ≤ sizeLine ∧ sortedQ (false, kvs.map fun x => x.1.data) = .ok r ∧
  ∀ q us, H q = none → DpAll K G us r → Q (.ref q) (upd H q (.lst us))
theorem key_vals {K : PySem.W.Frag} {G : Hp} : ∀ {xs : List (NestedKey × Addr × V)} {kvs : List (NestedKey × PyData)}, Paired (fun (x : NestedKey × Addr × V) (y : NestedKey × PyData) => x.1 = y.1 ∧ x.1.depth ≤ 8 ∧ Dp K G (.ref x.2.1) x.1.data ∧ Dp K G x.2.2 y.2) xs kvs →
    DpAll K G (xs.map fun x => V.ref x.2.1) (kvs.map fun x => x.1.data)
  | _, _, .nil => .nil
  | x :: _, y :: _, .cons h r => .cons (show Dp K G (.ref x.2.1) y.1.data by rw [← h.1]; exact h.2.2.1) (key_vals r)
theorem key_rel : ∀ {xs : List (NestedKey × Addr × V)} {ys : List (NestedKey × Addr × Value)}, Paired (fun (x : NestedKey × Addr × V) (y : NestedKey × Addr × Value) => x.1 = y.1 ∧ x.2.1 = y.2.1 ∧ RelV x.2.2 y.2.2) xs ys → Vals (xs.map fun x => V.ref x.2.1) (ys.map fun y => Value.ref y.2.1)
  | _, _, .nil => .nil
  | x :: _, y :: _, .cons h r => .cons (show RelV (V.ref x.2.1) (Value.ref y.2.1) by rw [h.2.1]; rfl) (key_rel r)
theorem key_reads {pins : List (Addr × Obj)} {σ : L2.St} {H G : Hp} {s : Shared} {h' : Heap} {b : Addr} (I : Inv X pins σ H s) (gh : Same G H) (kp : ∀ c o, s.heap.get? c = some o → h'.get? c = some o) : ∀ {kvs : List (NestedKey × PyData)} {vs : List V} {us : List Value}, DpAll X.K G vs (kvs.map fun x => x.1.data) → Vals vs us →
    PySem.W.EachIs (fun v d => ∃ as, Reads h' v (id d) as ∧ b ∉ as) us (kvs.map fun x => x.1.data)
  | [], _, _, .nil, .nil => .nil
  | y :: kvs, _, _, .cons d1 d2, .cons r1 r2 => .cons ⟨[], PyProof.Rows.Reads.keeps kp (reads_key I y.1 _ _ (dp_mono gh _ _ d1) r1), fun z => nomatch z⟩ (key_reads I gh kp d2 r2)
theorem call_sortK (hr : Room k X.A) (hc : X.calm = true) : CallR X (.builtin "sorted") (rSortK X.K X.prog X.w) := by
  intro pins s σ H xs us Q I rv h
  obtain ⟨G, p, kvs, r, rfl, gh, D, hz, er, q⟩ := h
  rw [Vals.ref1 rv]
  obtain ⟨xs, ys, hH, hs, pr, pq, dd, ek⟩ := dct_raw I gh D
  obtain ⟨o, es, ep, ho, hx, hd, he, _, nd⟩ := dd
  have er : (if (allAlike (kvs.map fun x => x.1.data) && sortable (kvs.map fun x => x.1.data) && (kvs.map fun x => x.1.data).all fun d => decide (d.depth ≤ 8)) = true then Res.ok (sortD (kvs.map fun x => x.1.data)) else .no) = .ok r := er
  obtain ⟨hl, rfl⟩ := ok_of_ite er
  rw [Bool.and_eq_true, Bool.and_eq_true, List.all_eq_true] at hl
  obtain ⟨⟨h1, h2⟩, h3⟩ := hl
  have ly : es.size = kvs.length := by
    have e1 := congrArg List.length he
    have e2 := congrArg List.length ek
    simp only [List.length_map, Array.length_toList] at e1 e2
    omega
  have hun := hr.un
  refine Calls.call_function_entry kind_sorted plain_sorted entry_sorted (args_sorted1 _) ((?_ : wpAny _ _ (Builtin.«sorted» _) _ _ _))
  unfold Builtin.«sorted»
  refine wpAny_bind (m := checkCount "sorted" 1 1 _) (wpAny_pure ((?_ : wpAny _ _ _ _ _ _)))
  refine wpAny_bind (wpAny_sized (PySem.W.kdu_collect (A := X.A.in1) (PySem.KdlSrc.rawDict (es := es) (ep := ep) hs) (I.ok.hd hc) ⟨o, ho, hx, hd⟩ (by rw [ly]; exact hz) fun h' tk acc kp it (le : s.heap.objs.size ≤ h'.objs.size) => ?_))
  have ea : acc.toList = ys.map fun y => Value.ref y.2.1 := by
    refine List.ext_getElem? fun j => ?_
    have hes : es.toList[j]? = (ys[j]?).map (entryOfKey (nestedKind X.prog X.w)) := by rw [he, List.getElem?_map]
    rw [List.getElem?_map]
    cases e1 : acc.toList[j]? with
    | none =>
      have : acc.size ≤ j := by
        have := List.getElem?_eq_none_iff.mp e1
        simpa using this
      rw [it.1] at this
      have : es.toList[j]? = none := List.getElem?_eq_none_iff.mpr (by simpa using this)
      rw [this] at hes
      cases e2 : ys[j]? with
      | none => rfl
      | some y => rw [e2] at hes; cases hes
    | some v =>
      obtain ⟨hj, ev⟩ := it.2 j v (by rw [← Array.getElem?_toList]; exact e1)
      have e3 : es.toList[j]? = some es[j] := by rw [Array.getElem?_toList, Array.getElem?_eq_getElem hj]
      rw [e3] at hes
      cases e2 : ys[j]? with
      | none => rw [e2] at hes; cases hes
      | some y =>
        rw [e2] at hes
        have := Option.some.inj hes
        rw [ev, this]
        rfl
  have lv : acc.toList.length = kvs.length := by rw [Array.length_toList, it.1, ly]
  refine wpAny_bind (wpAny_newList ?_ (by rw [lv]; exact hz))
  have hoL : (h'.push (seqObj "list" acc.toList.toArray 0)).get? h'.objs.size = some (seqObj "list" acc.toList.toArray 0) := Heap.get?_push_size _ rfl
  have da := key_vals pr
  have rl := key_rel pq
  rw [← ea] at rl
  have kp2 : ∀ c o, s.heap.get? c = some o → (h'.push (seqObj "list" acc.toList.toArray 0)).get? c = some o := fun c o e => Heap.get?_push_of_some _ (kp c o e)
  refine wpAny_bind (wpAny_holding (PySem.W.list_sort_data (enc := id) (s := { s with heap := h'.push (seqObj "list" acc.toList.toArray 0), toks := tk }) hoL (stands_each da rl) (key_reads I gh kp2 da rl) (allAlike_ok h1) (sortable_ok h2) (by rw [List.length_map]; exact hz) (fun b hb => ?_) fun out lo eo => ?_))
  · have := of_decide_eq_true (h3 b hb)
    show X.A.units + 1 + 1 + b.depth < cLine
    omega
  · obtain ⟨vs, hv, dv⟩ := each_stands eo
    obtain ⟨c, hc'⟩ := sortedHeap_at (vs := acc.toList) (out := out.toArray) hoL
    have fr := I.hok.fresh (a := h'.objs.size) le
    refine wpAny_pure ⟨_, rfl, .ref h'.objs.size, upd H h'.objs.size (.lst vs), I.laid (t' := tk) (fun b u e => ?_) le ⟨?_, out, c, hv, by simpa using hc'⟩, rfl, q _ vs fr dv⟩
    · have lt := Heap.lt_size (kp b u e)
      rw [sortedHeap_old (Nat.ne_of_lt lt) (by rw [Heap.size_push]; exact Nat.lt_succ_of_lt lt)]
      exact kp2 b u e
    · rw [hv.length, lo, List.length_map]
      exact hz

theorem dl_sortK (i : Nat) (T : Blt X.mg) (hr : Room k X.A) (hc : X.calm = true) (hN : X.N[i]? = some x := by rfl) (hv : Vis X.env.scope x := by first | exact Or.inl rfl | exact Or.inr (Or.inl rfl) | exact Or.inr (Or.inr rfl)) (hd : (x == ("__debug__" : Str)) = false := by decide) (hcd : (x == ("__classdict__" : Str)) = false := by decide)
    (hg : Gl X "sorted" := by rfl) (he : starEach [.Name x p'] X.env = [(false, eval (.Name x p') X.env)] := by rfl) : DL X W cm (.Call (.Name "sorted" p) [.Name x p'] [] pos) (fSortK i) :=
  pe_imp (pe_callB (call_sortK hr hc) hg T.sorted PyProof.Rows.boot_sorted (pa_cons (pe_var hN hv hd hcd) pa_nil he) (by decide) (by decide) he rfl) fun σ H Q q => by
    obtain ⟨G0, H0, G, env, ok, q⟩ := q
    show tVar i σ H fun v H1 => rSortK X.K X.prog X.w [v] H1 Q
    obtain ⟨kvs, ev, q⟩ := sat_ok (gK_never _) (Res.sat_bind.mp q)
    obtain ⟨u, hu, p, rfl, _, hgp, D⟩ := ok.sl i _ (gK_ok ev)
    refine ⟨.ref p, hu, ?_⟩
    split at q
    · rename_i hl
      obtain ⟨r, er, q⟩ := sat_ok (sortedQ_never _) q
      exact ⟨G, p, kvs, r, rfl, ok.gh, D, hl, er, fun b us hb du => q b us G _ (Grow.fresh ok.gh hb) hb (ok.gh.free hb) upd_same du⟩
    · exact q.elim
end
end GL

/-! # The data layer, part u: min of a list, a text times 0 or 1 -/
namespace GL
open PySem PySem.Spec PyProof.Rows L2
def mulS : PyData → PyData → Res PyData
  | .str x, .int n => if -(2 ^ 62) < n ∧ n ≤ 1 then .ok (.str (if n < 1 then Str.empty else x)) else .no
  | _, _ => .no
theorem mulS_never (d e : PyData) : Never (mulS d e) := by
  unfold mulS
  split <;> first | exact never_no | exact never_ite (never_ok _) never_no
section
variable {X : Cx} {W : WX} {cm : Str → Addr} {a b e : Expr} {f g : En → Res PyData} {pos p : Pos} {fq : En → Res (Bool × List PyData)} {k : Nat}
theorem op_mulS : OpR X (binaryOp .Mult) (rDat X.K mulS) := by
  intro pins s σ H x y v u Q I rx ry h
  obtain ⟨G, d, e, r, gh, dx, dy, er, q⟩ := h
  unfold mulS at er
  split at er
  · rename_i z n
    obtain ⟨hl, rfl⟩ := ok_of_ite er
    cases dx
    cases dy
    obtain ⟨t, rfl⟩ := rx
    obtain ⟨t', rfl⟩ := ry
    refine PySem.SB.mul ⟨?_, fun h1 h2 => ?_, fun h1 h2 => ?_⟩ fun t2 k2 => ⟨.str (Txt.mul z n), H, I.tok k2, ⟨t2, rfl⟩, ?_⟩
    · rw [Bool.or_eq_false_iff]
      exact ⟨decide_eq_false (by omega), decide_eq_false (by omega)⟩
    · have : n = 1 := by omega
      subst this
      simp at h2
    · have : n = 1 := by omega
      subst this
      simp at h2
    · have e : Txt.mul z n = if n < 1 then Str.empty else z := by
        unfold Txt.mul
        by_cases h1 : n < 1
        · rw [if_pos h1, if_pos h1]
        · have : n = 1 := by omega
          subst this
          rfl
      rw [e]
      exact q _ G H (Grow.refl gh) (.str _)
  · cases er
abbrev fMulS := f2 mulS
theorem de_mulS (ha : DE X W cm a f) (hb : DE X W cm b g) : DE X W cm (.BinOp a .Mult b pos) (fMulS f g) := de_op op_mulS ha hb mulS_never

/-- min(xs) of a list that is not empty -/
def minQ : Bool × List PyData → Res PyData
  | (false, x :: xs) => if (allAlike (x :: xs) && (x :: xs).all fun d => decide (d.depth ≤ 8) && (match d with | .none => false | _ => true)) = true then .ok (PySem.W.minD x xs) else .no
  | _ => .no
theorem minQ_never (q : Bool × List PyData) : Never (minQ q) := by
  unfold minQ
  split <;> first | exact never_no | exact never_ite (never_ok _) never_no
theorem reads_list {pins : List (Addr × Obj)} {σ : L2.St} {H G : Hp} {s : Shared} (I : L2.Inv X pins σ H s) (gh : Same G H) : ∀ {vs : List V} {ds : List PyData} {us : List Value}, DpAll X.K G vs ds → Vals vs us → ∃ as, ReadsAll s.heap us ds as
  | _, _, _, .nil, .nil => ⟨_, .nil⟩
  | _, _, _, .cons d1 d2, .cons r1 r2 => by
    obtain ⟨as, h1⟩ := Dp.reads I _ _ _ (dp_mono gh _ _ d1) r1
    obtain ⟨bs, h2⟩ := reads_list I gh d2 r2
    exact ⟨_, .cons h1 h2⟩
theorem depthAll_le {k : Nat} : ∀ {ds : List PyData}, (∀ d ∈ ds, d.depth ≤ k) → PyData.depthAll ds ≤ k
  | [], _ => Nat.zero_le _
  | d :: ds, h => by
    rw [PyData.depthAll]
    have := h d List.mem_cons_self
    have := depthAll_le fun e he => h e (List.mem_cons_of_mem _ he)
    omega
theorem call_minQ (hr : Room k X.A) (hc : X.calm = true) : CallR X (.builtin "min") (rCallQ X.K minQ) := by
  intro pins s σ H xs us Q I rv h
  obtain ⟨G, a, ws, qq, r, rfl, gh, hs, da, er, q⟩ := h
  unfold minQ at er
  split at er
  · rename_i x xs
    obtain ⟨hl, rfl⟩ := ok_of_ite er
    rw [Bool.and_eq_true, List.all_eq_true] at hl
    obtain ⟨h1, h2⟩ := hl
    obtain ⟨its, rw', pl, hz⟩ := I.list hs.l
    rw [Vals.ref1 rv]
    obtain ⟨as, ra⟩ := reads_list I gh da rw'
    have hun := hr.un
    have dl : PyData.depthAll (x :: xs) ≤ 8 := depthAll_le fun d hd => by
      have := h2 d hd
      rw [Bool.and_eq_true] at this
      exact of_decide_eq_true this.1
    have al := allAlike_ok h1
    rw [List.map_id] at al
    refine PySem.W.min_list_data (I.ok.hd hc) pl.isList (by simpa using ra) ⟨fun x hx y hy => al x hx y hy, fun d hd e => ?_⟩ (by omega) fun i v h' tk bs hv rd kp => ?_
    · have := h2 d hd
      rw [e, Bool.and_eq_true] at this
      exact absurd this.2 Bool.false_ne_true
    · have hv : its[i]? = some v := by simpa using hv
      have hi : i < its.length := (List.getElem?_eq_some_iff.mp hv).1
      have hw : i < ws.length := by rw [rw'.length]; exact hi
      have hd : i < (x :: xs).length := by rw [← dpAll_length da]; exact hw
      obtain ⟨u, hu, du⟩ := dpAll_get da (List.getElem?_eq_getElem hd)
      obtain ⟨v', hv', ru⟩ := rw'.get hu
      have ev : v' = v := Option.some.inj (hv'.symm.trans hv)
      subst ev
      obtain ⟨as', rr⟩ := Dp.reads I _ _ _ (dp_mono gh _ _ du) ru
      have em := (PyProof.Rows.reads_det (fun b o e _ => kp b o e) rr rd).1
      rw [em] at q
      exact ⟨u, H, I.kept (t' := tk) kp, ru, q u G H (Grow.refl gh) du⟩
  · cases er
theorem de_minQ (T : Blt X.mg) (hr : Room k X.A) (hc : X.calm = true) (ha : DQ X W cm e fq) (hg : Gl X "min" := by rfl) (he : starEach [e] X.env = [(false, eval e X.env)] := by rfl) : DE X W cm (.Call (.Name "min" p) [e] [] pos) (fCQ minQ fq) := de_callBQ (call_minQ hr hc) minQ_never hg T.min PyProof.Rows.boot_min ha (by decide) (by decide) he
end
end GL

namespace GL
open PySem PySem.Spec PyProof.Rows L2
def g_L_cell : En → Out :=
  sSeq (sIf (fB (fLt (fVar 1) (fCall lenD (fCons (fVar 0) fNil)))) (sRet (fIx (fVar 0) (fVar 1))) (sNext)) <|
  sRet (fC (.int 0))
def F_L_cell : List PyData → Res PyData := runD g_L_cell 2
def g_L_mix : En → Out :=
  sSeq (sAsg (.one 3) (fMod (fMul (fVar 0) (fC (.int 48271))) (fVar 1))) <|
  sRet (fMod (fMod (fMul (fVar 3) (fAdd (fVar 3) (fC (.int 7)))) (fVar 1)) (fVar 2))
def F_L_mix : List PyData → Res PyData := runD g_L_mix 4
def g_L_same (rec : List PyData → Res PyData) : En → Out :=
  sSeq (sIf (fTru (fIsi .tuple (fVar 1))) (sSeq (sIf (fOrT (fNotT (fTru (fIsi .tuple (fVar 0)))) (fB (fNe (fCall lenD (fCons (fVar 0) fNil)) (fCall lenD (fCons (fVar 1) fNil))))) (sRet (fC (.bool false))) (sNext)) <|
  sRet (fCQ allQ (fQL (fComp [2, 3] (.many [2, 3]) (fZip (fCons (fVar 0) (fCons (fVar 1) (fNil)))) (pYes) (fCall rec (fCons (fVar 2) (fCons (fVar 3) (fNil)))))))) (sNext)) <|
  sSeq (sIf (fB (fIs (fVar 1) (fC .none))) (sRet (fIs (fVar 0) (fC .none))) (sNext)) <|
  sSeq (sIf (fOrT (fTru (fIsi .bool (fVar 1))) (fTru (fIsi .bool (fVar 0)))) (sRet (fAnd (fIsi .bool (fVar 1)) (fAnd (fIsi .bool (fVar 0)) (fEq (fVar 0) (fVar 1))))) (sNext)) <|
  sRet (fAnd (fIsi2 .int .str (fVar 0)) (fEq (fVar 0) (fVar 1)))
def F_L_same : Nat → List PyData → Res PyData
  | 0 => fun _ => .no
  | n + 1 => runD (g_L_same (F_L_same n)) 4
def b1_L_machine : En → Out :=
  sSeq (sAsg (.one 5) (fAdd (fVar 0) (fMul (fC (.int 17)) (fVar 4)))) <|
  sSeq (sAsg (.one 6) (fTup (fCons (fCall F_L_mix (fCons (fVar 5) (fCons (fC (.int 9941)) (fCons (fVar 1) (fNil))))) (fCons (fIx (fC (.str "abc")) (fCall F_L_mix (fCons (fVar 5) (fCons (fC (.int 9931)) (fCons (fC (.int 3)) (fNil)))))) (fNil))))) <|
  sSeq (sAsg (.one 6) (fAdd (fVar 6) (fTup (fCons (fCall F_L_mix (fCons (fVar 5) (fCons (fC (.int 9929)) (fCons (fVar 1) (fNil))))) (fNil))))) <|
  sIf (fB (fNinQ (fVar 6) (fQV 3))) (sApp 3 (fVar 6)) (sNext)
def g_L_machine : En → Out :=
  sSeq (sAsg (.one 1) (fAdd (fC (.int 1)) (fCall F_L_mix (fCons (fVar 0) (fCons (fC (.int 9973)) (fCons (fC (.int 4)) (fNil))))))) <|
  sSeq (sAsg (.one 2) (fCQ tupleQ (fQL (fComp [7] (.one 7) (fRange (fCons (fVar 1) (fNil))) (fB (fEq (fCall F_L_mix (fCons (fAdd (fVar 0) (fMul (fC (.int 7)) (fVar 7))) (fCons (fC (.int 9967)) (fCons (fC (.int 3)) (fNil))))) (fC (.int 0)))) (fVar 7))))) <|
  sSeq (sOwn 3 (fDsp (fNil))) <|
  sSeq (sFor (.one 4) (fRange (fCons (fCall F_L_mix (fCons (fVar 0) (fCons (fC (.int 9949)) (fCons (fC (.int 13)) (fNil))))) (fNil))) b1_L_machine) <|
  sRet (fTup (fCons (fVar 1) (fCons (fVar 2) (fCons (fCQ tupleQ (fQL (fCQL sortedQ (fQV 3)))) (fNil)))))
def F_L_machine : List PyData → Res PyData := runD g_L_machine 8
def g_L_log : En → Out :=
  sSeq (sAsg (.one 1) (fC (.str "abc?*abc?a"))) <|
  sRet (fJoin (fC (.str "")) (fQL (fComp [2] (.one 2) (fRange (fCons (fCall F_L_mix (fCons (fVar 0) (fCons (fC (.int 9907)) (fCons (fC (.int 7)) (fNil))))) (fNil))) (pYes) (fIx (fVar 1) (fCall F_L_mix (fCons (fAdd (fVar 0) (fMul (fC (.int 11)) (fVar 2))) (fCons (fC (.int 9923)) (fCons (fC (.int 10)) (fNil)))))))))
def F_L_log : List PyData → Res PyData := runD g_L_log 3
def b1_L_near_log : En → Out :=
  sSeq (sAsg (.one 5) (fLst (fComp [6] (.one 6) (fItems (fIx (fVar 1) (fC (.int 2)))) (fB (fEq (fIx (fVar 6) (fC (.int 0))) (fVar 2))) (fVar 6)))) <|
  sIf (fTru (fVar 5)) (sSeq (sAsg (.one 6) (fIx (fVar 5) (fCall F_L_mix (fCons (fAdd (fVar 0) (fMul (fC (.int 13)) (fVar 4))) (fCons (fC (.int 9887)) (fCons (fCall lenD (fCons (fVar 5) fNil)) (fNil))))))) <|
  sSeq (sAsg (.one 7) (fIx (fVar 6) (fC (.int 1)))) <|
  sSeq (sAsg (.one 3) (fAdd (fVar 3) (fIx (fTup (fCons (fVar 7) (fCons (fVar 7) (fCons (fC (.str "?")) (fCons (fC (.str "*")) (fCons (fVar 7) (fNil))))))) (fCall F_L_mix (fCons (fAdd (fVar 0) (fMul (fC (.int 19)) (fVar 4))) (fCons (fC (.int 9883)) (fCons (fC (.int 5)) (fNil)))))))) <|
  sAsg (.one 2) (fIx (fVar 6) (fC (.int 2)))) (sNext)
def g_L_near_log : En → Out :=
  sSeq (sAsg (.many [2, 3]) (fTup (fCons (fC (.int 0)) (fCons (fC (.str "")) (fNil))))) <|
  sSeq (sFor (.one 4) (fRange (fCons (fCall F_L_mix (fCons (fVar 0) (fCons (fC (.int 9901)) (fCons (fC (.int 9)) (fNil))))) (fNil))) b1_L_near_log) <|
  sSeq (sAsg (.one 3) (fSl (fRepl "**" "*" (fVar 3)) (fON) (fOS (fC (.int 6))))) <|
  sSeq (sIf (fAndT (fB (fNe (fVar 3) (fC (.str "")))) (fB (fEq (fCall F_L_mix (fCons (fVar 0) (fCons (fC (.int 9871)) (fCons (fC (.int 4)) (fNil))))) (fC (.int 0))))) (sSeq (sAsg (.one 8) (fCall F_L_mix (fCons (fVar 0) (fCons (fC (.int 9859)) (fCons (fCall lenD (fCons (fVar 3) fNil)) (fNil)))))) <|
  sAsg (.one 3) (fAdd (fAdd (fSl (fVar 3) (fON) (fOS (fVar 8))) (fIx (fC (.str "abc")) (fCall F_L_mix (fCons (fVar 0) (fCons (fC (.int 9857)) (fCons (fC (.int 3)) (fNil))))))) (fSl (fVar 3) (fOS (fAdd (fVar 8) (fC (.int 1)))) (fON)))) (sNext)) <|
  sRet (fVar 3)
def F_L_near_log : List PyData → Res PyData := runD g_L_near_log 9
def g_L_any_log : En → Out :=
  sRet (fIf (fB (fEq (fCall F_L_mix (fCons (fVar 0) (fCons (fC (.int 9851)) (fCons (fC (.int 3)) (fNil))))) (fC (.int 0)))) (fCall F_L_log (fCons (fVar 0) (fNil))) (fCall F_L_near_log (fCons (fAdd (fVar 0) (fC (.int 1))) (fCons (fVar 1) (fNil)))))
def F_L_any_log : List PyData → Res PyData := runD g_L_any_log 2
end GL

/-! # Plain laws: sets of small numbers as rising lists -/
namespace GL
open PySem PySem.Spec PyProof.Rows L2 TL
theorem insB_map {α β : Type} {lt : α → α → Bool} {lt' : β → β → Bool} {f : α → β} (hf : ∀ a b, lt' (f a) (f b) = lt a b) (x : α) : ∀ l : List α, insB lt' (f x) (l.map f) = (insB lt x l).map f
  | [] => rfl
  | y :: r => by
    rw [List.map_cons]
    unfold insB
    rw [hf, hf, insB_map hf x r]
    split
    · rfl
    · split <;> rfl
theorem sortB_map {α β : Type} {lt : α → α → Bool} {lt' : β → β → Bool} {f : α → β} (hf : ∀ a b, lt' (f a) (f b) = lt a b) : ∀ l : List α, sortB lt' (l.map f) = (sortB lt l).map f
  | [] => rfl
  | x :: l => by
    show insB lt' (f x) (sortB lt' (l.map f)) = (insB lt x (sortB lt l)).map f
    rw [sortB_map hf l, insB_map hf]
def ltN (a b : Nat) : Bool := decide (a < b)
theorem linN : Lin ltN where
  irr := fun x => by simp [ltN]
  tr := fun h k => by simp [ltN] at *; omega
  tri := fun h k => by simp [ltN] at *; omega
/-- the rising list of the members -/
def ups (xs : List Nat) : List Nat := sortB ltN xs
theorem mem_ups {x : Nat} {xs : List Nat} : x ∈ ups xs ↔ x ∈ xs := mem_sortB linN x xs
def Up (xs : List Nat) : Prop := xs.Pairwise (fun a b => ltN a b = true)
theorem up_ups (xs : List Nat) : Up (ups xs) := up_sortB linN xs
theorem Up.ext {xs ys : List Nat} (h1 : Up xs) (h2 : Up ys) (h : ∀ z, z ∈ xs ↔ z ∈ ys) : xs = ys := up_eq linN h1 h2 h
theorem Up.nodup {xs : List Nat} (h : Up xs) : xs.Nodup := up_nodup linN h
theorem Up.len {xs : List Nat} (h : Up xs) {b : Nat} (hb : ∀ x ∈ xs, x < b) : xs.length ≤ b := by
  have := nd_le (m := List.range b) h.nodup fun z hz => List.mem_range.mpr (hb z hz)
  rwa [List.length_range] at this
abbrev intN (n : Nat) : PyData := .int (n : Int)
def tupN (xs : List Nat) : PyData := .tuple (xs.map intN)
theorem ups_int (xs : List Nat) : sortB ltI (xs.map fun (n : Nat) => (n : Int)) = (ups xs).map fun (n : Nat) => (n : Int) := sortB_map (fun a b => by simp [ltI, ltN]) xs
theorem intsOf_nat (xs : List Nat) : intsOf (xs.map intN) = some (xs.map fun (n : Nat) => (n : Int)) := intsOf_map (fun (n : Nat) => (n : Int)) xs
theorem setQ_nat (b : Bool) {xs : List Nat} (hb : ∀ x ∈ xs, x < 60) (hl : xs.length < 4000) : sortSetQ (b, xs.map intN) = .ok ((ups xs).map intN) := by
  unfold sortSetQ
  rw [show intsOf (b, xs.map intN).2 = _ from intsOf_nat xs]
  have h1 : (ups xs).length ≤ 60 := (up_ups xs).len fun x hx => hb x (mem_ups.mp hx)
  simp only [ups_int]
  rw [if_pos ⟨by rw [List.length_map]; omega, by rw [List.length_map]; exact hl⟩, List.map_map]
  rfl
theorem shaped_tupN (xs : List Nat) : SeqAt.shaped (tupN xs) = true := shaped_tup intN 0 (by decide) xs fun x _ => ⟨by simp [intN, PyData.canLay0], by simp [intN, PyData.depth]⟩
theorem inD_tupN (a : Nat) (xs : List Nat) : inD (intN a) (tupN xs) = .ok (.bool (decide (a ∈ xs))) := by
  show (if (SeqAt.shaped (intN a) && SeqAt.shaped (.tuple (xs.map intN))) = true then Res.ok (PyData.bool ((xs.map intN).any fun z => PyData.eqv z (intN a))) else .no) = _
  rw [show SeqAt.shaped (intN a) = true from shaped_int _, show SeqAt.shaped (.tuple (xs.map intN)) = true from shaped_tupN xs, if_pos (by decide), List.any_map]
  refine congrArg (fun z => Res.ok (PyData.bool z)) ?_
  rw [Bool.eq_iff_iff]
  simp [intN, PyData.eqv]
  constructor
  · rintro ⟨x, hx, e⟩
    have : x = a := by omega
    exact this ▸ hx
  · intro h
    exact ⟨a, h, rfl⟩
end GL

namespace GL
open PySem PySem.Spec PyProof.Rows L2 TL
def mixN (a p m : Int) : Nat := ((a * 48271 % p) * (a * 48271 % p + 7) % p % m).toNat
theorem mix_lt {a p m : Int} {k : Nat} (hm : m = k) (hk : 0 < k) : mixN a p m < k := by
  unfold mixN
  have h1 := Int.emod_nonneg ((a * 48271 % p) * (a * 48271 % p + 7) % p) (b := m) (by omega)
  have h2 := Int.emod_lt_of_pos ((a * 48271 % p) * (a * 48271 % p + 7) % p) (b := m) (by omega)
  omega
theorem mix_F {a p m : Int} (hp : 0 < p) (hp' : p < 2 ^ 60) (hm : 0 < m) : F_L_mix [.int a, .int p, .int m] = .ok (.int (mixN a p m)) := by
  have h1 := Int.emod_nonneg (a * 48271) (b := p) (by omega)
  have h2 := Int.emod_lt_of_pos (a * 48271) (b := p) hp
  have h3 := Int.emod_nonneg ((a * 48271 % p) * (a * 48271 % p + 7) % p) (b := m) (by omega)
  have e1 : mulOk a 48271 = true := by simp [mulOk]
  have e2 : mulOk (a * 48271 % p) (a * 48271 % p + 7) = true := by
    unfold mulOk
    rw [Bool.or_eq_true]
    left
    refine decide_eq_true ⟨?_, ?_⟩ <;> omega
  refine runD_rt ?_; simp [g_L_mix, initE, e1, hp, hm, e2]
  unfold mixN
  omega
theorem atI_nat {α : Type} (xs : List α) (i : Nat) : atI xs (i : Int) = xs[i]? := by
  unfold atI ixN
  rw [if_pos (by omega)]
  by_cases h : i < xs.length
  · rw [if_pos (by omega)]; simp
  · rw [if_neg (by omega)]
    simp
    omega
theorem atI_last {α : Type} (xs : List α) (x : α) : atI (xs ++ [x]) (-1) = some x := by
  unfold atI ixN
  rw [if_neg (by omega), List.length_append, List.length_singleton, if_pos (by omega), Option.bind_some]
  have e : (-1 + ((xs.length + 1 : Nat) : Int)).toNat = xs.length := by omega
  rw [e]
  simp
theorem ixD_str_sg {l : List Nat} {i c : Nat} (h : l[i]? = some c) (hl : l.length ≤ sizeLine) : ixD (.str (mkS l)) (.int (i : Int)) = .ok (.str (sg c)) := by
  show (if (mkS l).length ≤ sizeLine then (match atI l (i : Int) with
    | some c => Res.ok (PyData.str ⟨#[c]⟩)
    | none => .no) else .no) = _
  rw [if_pos (by rw [mkS_len]; exact hl), atI_nat, h]
  rfl
theorem upTo0 (k : Nat) : upTo 0 k = (List.range k).map fun (i : Nat) => .int (i : Int) := by
  unfold upTo
  simp
def cellN (ns : List Int) (i : Nat) : Int := ns.getD i 0
theorem cell_F (ns : List Int) (i : Nat) : F_L_cell [.list (ns.map .int), .int (i : Int)] = .ok (.int (cellN ns i)) := by
  by_cases h : i < ns.length
  · refine runD_rt ?_; simp [g_L_cell, initE, h, atI_nat, cellN]
  · refine runD_rt ?_; simp [g_L_cell, initE, h, atI_nat, cellN]

/-! ### the machine drawn from a seed -/
structure Mac where
  n : Nat
  ends : List Nat
  mv : List Mv
def Mac.D (M : Mac) : PyData := .tuple [.int M.n, .tuple (M.ends.map fun (e : Nat) => .int (e : Int)), .tuple (M.mv.map Mv.D)]
def MvOk (n : Nat) (m : Mv) : Prop := m.s < n ∧ (97 ≤ m.c ∧ m.c ≤ 99) ∧ m.t < n
structure Mac.Good (M : Mac) : Prop where
  n1 : 1 ≤ M.n
  n4 : M.n ≤ 4
  ends_lt : ∀ e ∈ M.ends, e < M.n
  ends_len : M.ends.length ≤ 4
  mv_ok : ∀ m ∈ M.mv, MvOk M.n m
  mv_len : M.mv.length ≤ 12
/-- .. written in order -/
structure Mac.Srt (M : Mac) : Prop where
  ends_up : M.ends.Pairwise (· < ·)
  mv_up : M.mv.Pairwise Mv.lt
def mvAt (x : Int) (n : Nat) (i : Nat) : Mv := ⟨mixN (x + 17 * i) 9941 n, 97 + mixN (x + 17 * i) 9931 3, mixN (x + 17 * i) 9929 n⟩
def stepMv (x : Int) (n : Nat) (s : List Mv) (i : Nat) : List Mv := if mvAt x n i ∈ s then s else s ++ [mvAt x n i]
def macN (x : Int) : Nat := 1 + mixN x 9973 4
def macE (x : Int) : List Nat := (List.range (macN x)).filter fun i => mixN (x + 7 * i) 9967 3 = 0
def macL (x : Int) : List Mv := (List.range (mixN x 9949 13)).foldl (stepMv x (macN x)) []
def mac (x : Int) : Mac := ⟨macN x, macE x, (macL x).mergeSort Mv.le⟩
theorem macN_1 (x : Int) : 1 ≤ macN x := by unfold macN; omega
theorem macN_4 (x : Int) : macN x ≤ 4 := by
  have := mix_lt (a := x) (p := 9973) (m := 4) (k := 4) rfl (by decide)
  unfold macN; omega
theorem mvAt_ok (x : Int) {n : Nat} (h : 1 ≤ n) (i : Nat) : MvOk n (mvAt x n i) := by
  have h1 := mix_lt (a := x + 17 * i) (p := 9941) (m := n) (k := n) rfl h
  have h2 := mix_lt (a := x + 17 * i) (p := 9931) (m := 3) (k := 3) rfl (by decide)
  have h3 := mix_lt (a := x + 17 * i) (p := 9929) (m := n) (k := n) rfl h
  unfold MvOk mvAt
  refine ⟨h1, ⟨?_, ?_⟩, h3⟩ <;> simp only <;> omega
theorem fold_ok (x : Int) {n : Nat} (hn : 1 ≤ n) : ∀ (is : List Nat) (s : List Mv), s.Nodup → (∀ m ∈ s, MvOk n m) → (is.foldl (stepMv x n) s).Nodup ∧ (∀ m ∈ is.foldl (stepMv x n) s, MvOk n m) ∧ (is.foldl (stepMv x n) s).length ≤ s.length + is.length
  | [], s, h, h' => ⟨h, h', Nat.le_refl _⟩
  | i :: is, s, h, h' => by
    have k1 : (stepMv x n s i).Nodup := by
      unfold stepMv
      split
      · exact h
      · rename_i hm
        refine List.nodup_append.mpr ⟨h, by simp, fun a ha b hb => ?_⟩
        simp at hb
        subst hb
        intro e
        subst e
        exact hm ha
    have k2 : ∀ m ∈ stepMv x n s i, MvOk n m := by
      unfold stepMv
      split
      · exact h'
      · intro m hm
        rcases List.mem_append.mp hm with hm | hm
        · exact h' m hm
        · simp at hm
          subst hm
          exact mvAt_ok x hn i
    have k3 : (stepMv x n s i).length ≤ s.length + 1 := by
      unfold stepMv
      split <;> simp
    obtain ⟨a, b, c⟩ := fold_ok x hn is (stepMv x n s i) k1 k2
    refine ⟨a, b, Nat.le_trans c ?_⟩
    simp
    omega
theorem mac_good (x : Int) : (mac x).Good := by
  obtain ⟨h1, h2, h3⟩ := fold_ok x (macN_1 x) (List.range (mixN x 9949 13)) [] List.nodup_nil (by simp)
  have hp := List.mergeSort_perm (macL x) Mv.le
  refine ⟨macN_1 x, macN_4 x, fun e he => ?_, ?_, fun m hm => h2 m (hp.mem_iff.mp hm), ?_⟩
  · have he : e ∈ macE x := he
    simp [macE] at he
    exact he.1
  · have h : (macE x).length ≤ (List.range (macN x)).length := List.length_filter_le _ _
    have := macN_4 x
    rw [List.length_range] at h
    exact Nat.le_trans h this
  · have := mix_lt (a := x) (p := 9949) (m := 13) (k := 13) rfl (by decide)
    have e : ((macL x).mergeSort Mv.le).length = (macL x).length := hp.length_eq
    show ((macL x).mergeSort Mv.le).length ≤ 12
    rw [e]
    simp at h3
    unfold macL
    omega
theorem mac_srt (x : Int) : (mac x).Srt := by
  obtain ⟨h1, h2, h3⟩ := fold_ok x (macN_1 x) (List.range (mixN x 9949 13)) [] List.nodup_nil (by simp)
  exact ⟨List.Pairwise.filter _ List.pairwise_lt_range, Mv.sorted h1⟩
theorem str_abc : ("abc" : Str) = mkS [97, 98, 99] := ext_tl (by rw [tl_ofString]; rfl)
theorem abc_at {i : Nat} (h : i < 3) : ixD (.str "abc") (.int (i : Int)) = .ok (.str (sg (97 + i))) := by
  rw [str_abc]
  refine ixD_str_sg ?_ (by decide)
  have : i = 0 ∨ i = 1 ∨ i = 2 := by omega
  rcases this with rfl | rfl | rfl <;> rfl
theorem mix_F' {a p m : Int} {k : Nat} (hk : m = k) (hp : 0 < p) (hp' : p < 2 ^ 60) (hm : 0 < k) : F_L_mix [.int a, .int p, .int m] = .ok (.int (mixN a p m)) := mix_F hp hp' (by omega)

theorem mv_body (x : Int) (n : Nat) (hn : 1 ≤ n) (ends : PyData) (ms : List Mv) (hm : ∀ m ∈ ms, MvOk n m) (hl : ms.length < 100) (i : Nat) (e5 e6 e7 : Option SV) :
    b1_L_machine [some (.dat (.int x)), some (.dat (.int n)), some (.dat ends), some (.own (ms.map Mv.D)), some (.dat (.int (i : Int))), e5, e6, e7] =
      .nx [some (.dat (.int x)), some (.dat (.int n)), some (.dat ends), some (.own ((stepMv x n ms i).map Mv.D)), some (.dat (.int (i : Int))), some (.dat (.int (x + 17 * i))), some (.dat (mvAt x n i).D), e7] := by
  have hi := Mv.inD (mvAt x n i) ms (by have := (mvAt_ok x hn i).2.1; omega) (fun m h => by have := (hm m h).2.1; omega)
  have e0 : mulOk 17 (i : Int) = true := by unfold mulOk; simp
  have e2 := mix_lt (a := x + 17 * i) (p := 9931) (m := 3) (k := 3) rfl (by decide)
  have ed : PyData.tuple [.int (mixN (x + 17 * i) 9941 n : Nat), .str (sg (97 + mixN (x + 17 * i) 9931 3)), .int (mixN (x + 17 * i) 9929 n : Nat)] = (mvAt x n i).D := rfl
  have hn' : 0 < n := by omega
  simp [b1_L_machine, e0, mix_F, hn', abc_at e2, ed]
  rw [if_pos (by decide)]
  simp [hi, ed]
  by_cases h : mvAt x n i ∈ ms
  · simp [h, stepMv]
  · simp [h, stepMv]
    have : ms.length < sizeLine := Nat.lt_trans hl (by decide)
    simp [this]
theorem mac_F (x : Int) : F_L_machine [.int x] = .ok (mac x).D := by
  have hN := macN_1 x
  have hN4 := macN_4 x
  have e1 : (1 : Int) + (mixN x 9973 4 : Nat) = ((macN x : Nat) : Int) := by unfold macN; omega
  have e13 := mix_lt (a := x) (p := 9949) (m := 13) (k := 13) rfl (by decide)
  have e2 := rangeD_n (show macN x ≤ 16777216 by omega)
  have e3 := rangeD_n (show mixN x 9949 13 ≤ 16777216 by omega)
  refine runD_rt ?_
  rw [g_L_machine]
  simp [initE, mix_F, e1, e2, upTo0]
  rw [compF_map (fun (i : Nat) => PyData.int i) (fun i => [some (SV.dat (PyData.int x)), some (SV.dat (PyData.int ↑(macN x))), none, none, none, none, none, some (.dat (.int (i : Int)))]) (fun i => decide (mixN (x + 7 * i) 9967 3 = 0)) (fun i => .int i) _ (fun i _ => ⟨rfl, by
    have e0 : mulOk 7 (i : Int) = true := by unfold mulOk; simp
    simp [mix_F, e0], fun _ => rfl⟩)]
  simp [mix_F, e3, upTo0]
  obtain ⟨e', h1, e5, e6, e7, e8, h2⟩ := forL_range (t := .one 4) (g := b1_L_machine) (fun k env => ∃ e4 e5 e6 e7 : Option SV, env = [some (.dat (.int x)), some (.dat (.int (macN x))), some (.dat (.tuple ((macE x).map fun (e : Nat) => .int (e : Int)))), some (.own (((List.range k).foldl (stepMv x (macN x)) []).map Mv.D)), e4, e5, e6, e7])
    (mixN x 9949 13) _ (fun i hi env hs => by
      obtain ⟨e4, e5, e6, e7, rfl⟩ := hs
      obtain ⟨k1, k2, k3⟩ := fold_ok x (macN_1 x) (List.range i) [] List.nodup_nil (by simp)
      have es : (List.range (i + 1)).foldl (stepMv x (macN x)) [] = stepMv x (macN x) ((List.range i).foldl (stepMv x (macN x)) []) i := by
        rw [List.range_succ, List.foldl_append]
        rfl
      rw [es]
      exact ⟨_, _, rfl, mv_body x (macN x) hN _ _ k2 (by simp at k3; omega) i _ _ _, _, _, _, _, rfl⟩) ⟨none, none, none, none, rfl⟩
  have e9 : List.map (fun i => PyData.int ((i : Nat) : Int)) (List.filter (fun i => decide (mixN (x + 7 * ↑i) 9967 3 = 0)) (List.range (macN x))) = (macE x).map fun (e : Nat) => .int (e : Int) := rfl
  simp only [List.range_zero, List.foldl_nil, List.map_nil] at h1
  rw [e9, h1]
  subst h2
  simp [Mv.sort]
  rfl
end GL

namespace GL
open PySem PySem.Spec PyProof.Rows L2
def g_by_letters : En → Out :=
  sRet (fCQ tupleQ (fQL (fCQL sortSetQ (fQL (fComp [3, 4, 5] (.many [3, 4, 5]) (fItems (fIx (fVar 0) (fC (.int 2)))) (fAndT (fB (fIn (fVar 3) (fVar 1))) (fB (fIn (fVar 4) (fVar 2)))) (fVar 5))))))
def F_by_letters : List PyData → Res PyData := runD g_by_letters 6
def b1_reached : En → Out :=
  sSeq (sAsg (.one 2) (fVar 3)) <|
  sAsg (.one 3) (fCQ tupleQ (fQL (fCQL sortSetQ (fQ (fAdd (fVar 2) (fCall F_by_letters (fCons (fVar 0) (fCons (fVar 2) (fCons (fC (.str "abc")) (fNil))))))))))
def g_reached : En → Out :=
  sSeq (sAsg (.one 2) (fTup (fNil))) <|
  sSeq (sAsg (.one 3) (fCQ tupleQ (fQL (fCQL sortSetQ (fQ (fVar 1)))))) <|
  sSeq (whileN (fB (fNe (fVar 3) (fVar 2))) b1_reached 100) <|
  sRet (fVar 2)
def F_reached : List PyData → Res PyData := runD g_reached 4
def g_by_sign : En → Out :=
  sSeq (sIf (fB (fEq (fVar 2) (fC (.str "*")))) (sRet (fCall F_reached (fCons (fVar 0) (fCons (fVar 1) (fNil))))) (sNext)) <|
  sSeq (sIf (fB (fEq (fVar 2) (fC (.str "?")))) (sRet (fCall F_by_letters (fCons (fVar 0) (fCons (fVar 1) (fCons (fC (.str "abc")) (fNil)))))) (sNext)) <|
  sRet (fCall F_by_letters (fCons (fVar 0) (fCons (fVar 1) (fCons (fVar 2) (fNil)))))
def F_by_sign : List PyData → Res PyData := runD g_by_sign 3
def g_has_end : En → Out :=
  sRet (fCQ anyQ (fQL (fComp [2] (.one 2) (fItems (fVar 1)) (pYes) (fIn (fVar 2) (fIx (fVar 0) (fC (.int 1)))))))
def F_has_end : List PyData → Res PyData := runD g_has_end 3
def b1_could : En → Out :=
  sAsg (.one 2) (fCall F_by_sign (fCons (fVar 0) (fCons (fVar 2) (fCons (fVar 3) (fNil)))))
def g_could : En → Out :=
  sSeq (sAsg (.one 2) (fTup (fCons (fC (.int 0)) (fNil)))) <|
  sSeq (sFor (.one 3) (fItems (fVar 1)) b1_could) <|
  sRet (fCall F_has_end (fCons (fVar 0) (fCons (fVar 2) (fNil))))
def F_could : List PyData → Res PyData := runD g_could 4
def b1_behind : En → Out :=
  sAsg (.one 2) (fCall F_by_letters (fCons (fVar 0) (fCons (fVar 2) (fCons (fVar 3) (fNil)))))
def g_behind : En → Out :=
  sSeq (sAsg (.one 2) (fTup (fCons (fC (.int 0)) (fNil)))) <|
  sSeq (sFor (.one 3) (fItems (fVar 1)) b1_behind) <|
  sRet (fVar 2)
def F_behind : List PyData → Res PyData := runD g_behind 4
def g_is_accepted : En → Out :=
  sRet (fCall F_has_end (fCons (fVar 0) (fCons (fCall F_behind (fCons (fVar 0) (fCons (fVar 1) (fNil)))) (fNil))))
def F_is_accepted : List PyData → Res PyData := runD g_is_accepted 2
end GL

/-! # Plain laws: steps of state sets -/
namespace GL
open PySem PySem.Spec PyProof.Rows L2 TL
theorem at2 (ds : List PyData) (b c d : PyData) : atI (b :: c :: d :: ds) 2 = some d := atI_nat (b :: c :: d :: ds) 2
theorem at1 (ds : List PyData) (c d : PyData) : atI (c :: d :: ds) 1 = some d := atI_nat (c :: d :: ds) 1
theorem at0 (ds : List PyData) (d : PyData) : atI (d :: ds) 0 = some d := atI_nat (d :: ds) 0
def stp (M : Mac) (S ls : List Nat) : List Nat := ups ((M.mv.filter fun m => decide (m.s ∈ S) && decide (m.c ∈ ls)).map (·.t))
theorem mem_stp {M : Mac} {S ls : List Nat} {t : Nat} : t ∈ stp M S ls ↔ ∃ m ∈ M.mv, m.s ∈ S ∧ m.c ∈ ls ∧ m.t = t := by
  unfold stp
  rw [mem_ups]
  simp [and_assoc]
theorem stp_lt {M : Mac} (g : M.Good) {S ls : List Nat} {t : Nat} (h : t ∈ stp M S ls) : t < M.n := by
  obtain ⟨m, hm, _, _, rfl⟩ := mem_stp.mp h
  exact (g.mv_ok m hm).2.2
theorem letters_F {M : Mac} (g : M.Good) (S ls : List Nat) : F_by_letters [M.D, tupN S, .str (mkS ls)] = .ok (tupN (stp M S ls)) := by
  refine runD_rt ?_
  rw [g_by_letters]
  simp (implicitDefEqProofs := false) [initE, Mac.D, at2]
  rw [compF_map Mv.D (fun m => [some (SV.dat M.D), some (.dat (tupN S)), some (.dat (.str (mkS ls))), some (.dat (.int m.s)), some (.dat (.str (sg m.c))), some (.dat (.int m.t))]) (fun m => decide (m.s ∈ S) && decide (m.c ∈ ls)) (fun m => intN m.t) M.mv (fun m hm => ⟨rfl, by
    have h := inD_tupN m.s S
    unfold intN at h
    simp (implicitDefEqProofs := false) [h]
    by_cases h1 : m.s ∈ S <;> simp (implicitDefEqProofs := false) [h1], fun _ => rfl⟩)]
  have e : ((M.mv.filter fun m => decide (m.s ∈ S) && decide (m.c ∈ ls)).map fun m => intN m.t) = ((M.mv.filter fun m => decide (m.s ∈ S) && decide (m.c ∈ ls)).map (·.t)).map intN := by rw [List.map_map]; rfl
  have h4 := g.n4
  have hl : (M.mv.filter fun m => decide (m.s ∈ S) && decide (m.c ∈ ls)).length ≤ M.mv.length := List.length_filter_le _ _
  have h12 := g.mv_len
  rw [e]
  simp (implicitDefEqProofs := false) [-List.map_map]
  rw [setQ_nat false (fun x hx => by
    obtain ⟨m, hm, rfl⟩ := List.mem_map.mp hx
    have := (g.mv_ok m (List.mem_filter.mp hm).1).2.2
    omega) (by rw [List.length_map]; omega)]
  rfl
end GL

/-! # Plain laws: closures of state sets -/
namespace GL
open PySem PySem.Spec PyProof.Rows L2 TL
theorem eqv_ints : ∀ (xs ys : List Nat), PyData.eqvAll (xs.map intN) (ys.map intN) = decide (xs = ys)
  | [], [] => by simp [PyData.eqvAll]
  | [], y :: ys => by simp [PyData.eqvAll]
  | x :: xs, [] => by simp [PyData.eqvAll]
  | x :: xs, y :: ys => by
    rw [List.map_cons, List.map_cons, PyData.eqvAll, eqv_ints xs ys]
    show (((x : Int) == (y : Int)) && decide (xs = ys)) = _
    rw [beq_int, Bool.eq_iff_iff]
    simp
    omega
theorem eqD_tupN (xs ys : List Nat) : eqD (tupN xs) (tupN ys) = .ok (.bool (decide (xs = ys))) := by
  unfold eqD
  rw [shaped_tupN, shaped_tupN, if_pos (by decide)]
  show Res.ok (PyData.bool (PyData.eqv (.tuple (xs.map intN)) (.tuple (ys.map intN)))) = _
  rw [PyData.eqv, eqv_ints]
theorem neD_tupN (xs ys : List Nat) : neD (tupN xs) (tupN ys) = .ok (.bool (!decide (xs = ys))) := by
  unfold neD
  rw [shaped_tupN, shaped_tupN, if_pos (by decide)]
  show Res.ok (PyData.bool (!PyData.eqv (.tuple (xs.map intN)) (.tuple (ys.map intN)))) = _
  rw [PyData.eqv, eqv_ints]
theorem whileN_inv {p : En → Res Bool} {g : En → Out} (Inv : En → Prop) (μ : En → Nat) (step : ∀ env, Inv env → ∃ b, p env = .ok b ∧ (b = true → ∃ e2, g env = .nx e2 ∧ Inv e2 ∧ μ e2 < μ env)) :
    ∀ (n : Nat) (env : En), Inv env → μ env < n → ∃ e', whileN p g n env = .nx e' ∧ Inv e' ∧ p e' = .ok false
  | 0, env, _, h => absurd h (Nat.not_lt_zero _)
  | n + 1, env, hi, h => by
    obtain ⟨b, hb, hs⟩ := step env hi
    cases b with
    | false =>
      refine ⟨env, ?_, hi, hb⟩
      show Out.ofR (p env) env _ = _
      rw [hb, ofR_ok]
      rfl
    | true =>
      obtain ⟨e2, hg, hi2, hm⟩ := hs rfl
      obtain ⟨e', h1, h2⟩ := whileN_inv Inv μ step n e2 hi2 (by omega)
      refine ⟨e', ?_, h2⟩
      show Out.ofR (p env) env _ = _
      rw [hb, ofR_ok, if_pos rfl, hg]
      exact h1
def abc : List Nat := [97, 98, 99]
def nxt (M : Mac) (F : List Nat) : List Nat := ups (F ++ stp M F abc)
/-- q can be reached from s -/
inductive Rch (M : Mac) (s : Nat) : Nat → Prop
  | refl : Rch M s s
  | step {m : Mv} : m ∈ M.mv → Rch M s m.s → Rch M s m.t
structure RI (M : Mac) (S F N : List Nat) : Prop where
  uF : Up F
  uN : Up N
  lt : ∀ q ∈ N, q < M.n
  sub : ∀ q ∈ F, q ∈ N
  beg : ∀ q ∈ S, q ∈ N
  rch : ∀ q ∈ N, ∃ s ∈ S, Rch M s q
  cl : ∀ m ∈ M.mv, m.s ∈ F → m.t ∈ N
theorem mem_nxt {M : Mac} (g : M.Good) {F : List Nat} {q : Nat} : q ∈ nxt M F ↔ q ∈ F ∨ ∃ m ∈ M.mv, m.s ∈ F ∧ m.t = q := by
  unfold nxt
  rw [mem_ups, List.mem_append, mem_stp]
  constructor
  · rintro (h | ⟨m, hm, h1, _, h2⟩)
    · exact .inl h
    · exact .inr ⟨m, hm, h1, h2⟩
  · rintro (h | ⟨m, hm, h1, h2⟩)
    · exact .inl h
    · refine .inr ⟨m, hm, h1, ?_, h2⟩
      have := (g.mv_ok m hm).2.1
      unfold abc
      simp
      omega
theorem RI.next {M : Mac} (g : M.Good) {S F N : List Nat} (h : RI M S F N) : RI M S N (nxt M N) where
  uF := h.uN
  uN := up_ups _
  lt := fun q hq => by
    rcases (mem_nxt g).mp hq with hq | ⟨m, hm, _, rfl⟩
    · exact h.lt q hq
    · exact (g.mv_ok m hm).2.2
  sub := fun q hq => (mem_nxt g).mpr (.inl hq)
  beg := fun q hq => (mem_nxt g).mpr (.inl (h.beg q hq))
  rch := fun q hq => by
    rcases (mem_nxt g).mp hq with hq | ⟨m, hm, h1, rfl⟩
    · exact h.rch q hq
    · obtain ⟨s, hs, r⟩ := h.rch m.s h1
      exact ⟨s, hs, .step hm r⟩
  cl := fun m hm h1 => (mem_nxt g).mpr (.inr ⟨m, hm, h1, rfl⟩)
theorem RI.grow {M : Mac} {S F N : List Nat} (h : RI M S F N) (ne : N ≠ F) : F.length < N.length := by
  rcases Nat.lt_or_ge F.length N.length with k | k
  · exact k
  · refine absurd (Up.ext h.uN h.uF fun z => ⟨fun hz => ?_, h.sub z⟩) ne
    rcases Classical.em (z ∈ F) with hf | hf
    · exact hf
    · have := nd_le (l := z :: F) (m := N) (List.nodup_cons.mpr ⟨hf, h.uF.nodup⟩) fun w hw => by
        rcases List.mem_cons.mp hw with rfl | hw
        · exact hz
        · exact h.sub w hw
      rw [List.length_cons] at this
      omega
theorem RI.done {M : Mac} {S F : List Nat} (h : RI M S F F) {q : Nat} : q ∈ F ↔ ∃ s ∈ S, Rch M s q := by
  constructor
  · exact h.rch q
  · rintro ⟨s, hs, r⟩
    induction r with
    | refl => exact h.beg s hs
    | step hm _ ih => exact h.cl _ hm ih
end GL

namespace GL
open PySem PySem.Spec PyProof.Rows L2 TL
theorem str_abc5 : (Str.ofString "abc") = mkS abc := str_abc
theorem addD_tupN (xs ys : List Nat) (h : xs.length + ys.length ≤ 1000) : addD (tupN xs) (tupN ys) = .ok (tupN (xs ++ ys)) := by
  unfold tupN
  rw [addD_tup, if_pos (by rw [List.length_map, List.length_map]; exact Nat.le_trans h (by decide)), List.map_append]
theorem asQ_tupN (xs : List Nat) : asQ (tupN xs) = .ok (true, xs.map intN) := rfl
theorem reached_body {M : Mac} (g : M.Good) (S F N : List Nat) (h : RI M S F N) : b1_reached [some (.dat M.D), some (.dat (tupN S)), some (.dat (tupN F)), some (.dat (tupN N))] = .nx [some (.dat M.D), some (.dat (tupN S)), some (.dat (tupN N)), some (.dat (tupN (nxt M N)))] := by
  have h4 := g.n4
  have l1 : N.length ≤ 4 := Nat.le_trans (h.uN.len h.lt) h4
  have l2 : (stp M N abc).length ≤ 4 := Nat.le_trans ((up_ups _).len fun x hx => stp_lt g hx) h4
  have e1 : addD (tupN N) (tupN (stp M N abc)) = .ok (tupN (N ++ stp M N abc)) := addD_tupN _ _ (by omega)
  have e2 : sortSetQ (true, (N ++ stp M N abc).map intN) = .ok ((nxt M N).map intN) := setQ_nat true (fun x hx => by
    rcases List.mem_append.mp hx with hx | hx
    · have := h.lt x hx; omega
    · have := stp_lt g hx; omega) (by rw [List.length_append]; omega)
  rw [b1_reached]
  simp (implicitDefEqProofs := false) [str_abc5, letters_F g, e1, asQ_tupN, -List.map_append]
  rw [e2]
  rfl
end GL

/-! # Plain laws: ways, words that fit, could -/
namespace GL
open PySem PySem.Spec PyProof.Rows L2 TL
/-- a way of M from q by w to r -/
inductive Way (M : Mac) : Nat → List Nat → Nat → Prop
  | nil (q : Nat) : Way M q [] q
  | cons {m : Mv} {w : List Nat} {r : Nat} : m ∈ M.mv → Way M m.t w r → Way M m.s (m.c :: w) r
theorem Way.nil_iff {M : Mac} {q r : Nat} : Way M q [] r ↔ r = q := ⟨fun h => by cases h; rfl, fun h => by subst h; exact .nil _⟩
theorem Way.cons_iff {M : Mac} {q r c : Nat} {w : List Nat} : Way M q (c :: w) r ↔ ∃ m ∈ M.mv, m.s = q ∧ m.c = c ∧ Way M m.t w r := by
  constructor
  · intro h
    cases h with
    | cons hm hw => exact ⟨_, hm, rfl, rfl, hw⟩
  · rintro ⟨m, hm, rfl, rfl, hw⟩
    exact .cons hm hw
theorem Way.app_iff {M : Mac} {r : Nat} {v : List Nat} : ∀ {u : List Nat} {q : Nat}, Way M q (u ++ v) r ↔ ∃ p, Way M q u p ∧ Way M p v r
  | [], q => by
    rw [List.nil_append]
    constructor
    · intro h; exact ⟨q, .nil q, h⟩
    · rintro ⟨p, h1, h2⟩; rw [Way.nil_iff.mp h1] at h2; exact h2
  | c :: u, q => by
    rw [List.cons_append, Way.cons_iff]
    constructor
    · rintro ⟨m, hm, e1, e2, h⟩
      obtain ⟨p, h1, h2⟩ := Way.app_iff.mp h
      exact ⟨p, Way.cons_iff.mpr ⟨m, hm, e1, e2, h1⟩, h2⟩
    · rintro ⟨p, h1, h2⟩
      obtain ⟨m, hm, e1, e2, h⟩ := Way.cons_iff.mp h1
      exact ⟨m, hm, e1, e2, Way.app_iff.mpr ⟨p, h, h2⟩⟩
theorem Way.lt {M : Mac} (g : M.Good) {q r : Nat} {w : List Nat} (h : Way M q w r) (hq : q < M.n) : r < M.n := by
  induction h with
  | nil => exact hq
  | cons hm _ ih => exact ih (g.mv_ok _ hm).2.2
theorem Way.abc {M : Mac} (g : M.Good) {q r : Nat} {w : List Nat} (h : Way M q w r) : ∀ c ∈ w, c ∈ abc := by
  induction h with
  | nil => simp
  | cons hm _ ih =>
    intro c hc
    rcases List.mem_cons.mp hc with rfl | hc
    · have := (g.mv_ok _ hm).2.1
      unfold GL.abc
      simp
      omega
    · exact ih c hc
theorem rch_way {M : Mac} {s r : Nat} : Rch M s r ↔ ∃ w, Way M s w r := by
  constructor
  · intro h
    induction h with
    | refl => exact ⟨[], .nil _⟩
    | @step m hm _ ih =>
      obtain ⟨w, hw⟩ := ih
      exact ⟨w ++ [m.c], Way.app_iff.mpr ⟨_, hw, .cons hm (.nil _)⟩⟩
  · rintro ⟨w, hw⟩
    have : ∀ {q : Nat} {w : List Nat} {r : Nat}, Way M q w r → Rch M s q → Rch M s r := by
      intro q w r h
      induction h with
      | nil => exact fun h => h
      | cons hm _ ih => exact fun h => ih (Rch.step hm h)
    exact this hw Rch.refl
/-- one sign stands for the word -/
def Fit1 (x : Nat) (w : List Nat) : Prop := x = 42 ∨ ∃ c, w = [c] ∧ (x = 63 ∨ x = c)
/-- the word fits the log -/
def Fits : List Nat → List Nat → Prop
  | [], w => w = []
  | x :: l, w => ∃ u v, w = u ++ v ∧ Fit1 x u ∧ Fits l v
theorem fits_cons {x : Nat} {l w : List Nat} : Fits (x :: l) w ↔ ∃ u v, w = u ++ v ∧ Fit1 x u ∧ Fits l v := Iff.rfl
theorem fits_one {x : Nat} {w : List Nat} : Fits [x] w ↔ Fit1 x w := by
  rw [fits_cons]
  constructor
  · rintro ⟨u, v, rfl, h, f⟩
    have : v = [] := f
    rw [this, List.append_nil]
    exact h
  · intro h; exact ⟨w, [], (List.append_nil w).symm, h, rfl⟩
theorem fits_app {k : List Nat} : ∀ {l w : List Nat}, Fits (l ++ k) w ↔ ∃ u v, w = u ++ v ∧ Fits l u ∧ Fits k v
  | [], w => by
    rw [List.nil_append]
    constructor
    · intro h; exact ⟨[], w, rfl, rfl, h⟩
    · rintro ⟨u, v, rfl, h1, h2⟩
      have : u = [] := h1
      rw [this]
      exact h2
  | x :: l, w => by
    rw [List.cons_append, fits_cons]
    constructor
    · rintro ⟨a, b, rfl, h1, h2⟩
      obtain ⟨c, d, rfl, h3, h4⟩ := fits_app.mp h2
      exact ⟨a ++ c, d, (List.append_assoc ..).symm, fits_cons.mpr ⟨a, c, rfl, h1, h3⟩, h4⟩
    · rintro ⟨u, v, rfl, h1, h2⟩
      obtain ⟨a, c, rfl, h3, h4⟩ := fits_cons.mp h1
      exact ⟨a, c ++ v, List.append_assoc .., h3, fits_app.mpr ⟨c, v, rfl, h4, h2⟩⟩
/-- from q by some word that fits l to r -/
def Aft (M : Mac) (q : Nat) (l : List Nat) (r : Nat) : Prop := ∃ w, Fits l w ∧ Way M q w r
def Could (M : Mac) (l : List Nat) : Prop := ∃ r, Aft M 0 l r ∧ r ∈ M.ends
theorem aft_nil {M : Mac} {q r : Nat} : Aft M q [] r ↔ r = q := by
  unfold Aft Fits
  constructor
  · rintro ⟨w, rfl, h⟩; exact Way.nil_iff.mp h
  · rintro rfl; exact ⟨[], rfl, .nil _⟩
theorem aft_app {M : Mac} {q r : Nat} {l k : List Nat} : Aft M q (l ++ k) r ↔ ∃ p, Aft M q l p ∧ Aft M p k r := by
  unfold Aft
  constructor
  · rintro ⟨w, f, h⟩
    obtain ⟨u, v, rfl, f1, f2⟩ := fits_app.mp f
    obtain ⟨p, h1, h2⟩ := Way.app_iff.mp h
    exact ⟨p, ⟨u, f1, h1⟩, v, f2, h2⟩
  · rintro ⟨p, ⟨u, f1, h1⟩, v, f2, h2⟩
    exact ⟨u ++ v, fits_app.mpr ⟨u, v, rfl, f1, f2⟩, Way.app_iff.mpr ⟨p, h1, h2⟩⟩
theorem aft_cons {M : Mac} {q r x : Nat} {l : List Nat} : Aft M q (x :: l) r ↔ ∃ p, Aft M q [x] p ∧ Aft M p l r := aft_app (l := [x])
theorem aft_star {M : Mac} {q r : Nat} : Aft M q [42] r ↔ Rch M q r := by
  unfold Aft
  rw [rch_way]
  constructor
  · rintro ⟨w, _, h⟩; exact ⟨w, h⟩
  · rintro ⟨w, h⟩; exact ⟨w, fits_one.mpr (.inl rfl), h⟩
theorem way_one {M : Mac} {q r c : Nat} : Way M q [c] r ↔ ∃ m ∈ M.mv, m.s = q ∧ m.c = c ∧ m.t = r := by
  rw [Way.cons_iff]
  constructor
  · rintro ⟨m, hm, e1, e2, h⟩; exact ⟨m, hm, e1, e2, (Way.nil_iff.mp h).symm⟩
  · rintro ⟨m, hm, e1, e2, rfl⟩; exact ⟨m, hm, e1, e2, .nil _⟩
theorem aft_any {M : Mac} {q r : Nat} : Aft M q [63] r ↔ ∃ m ∈ M.mv, m.s = q ∧ m.t = r := by
  unfold Aft
  constructor
  · rintro ⟨w, f, h⟩
    rcases fits_one.mp f with f | ⟨c, rfl, _⟩
    · omega
    · obtain ⟨m, hm, e1, _, e3⟩ := way_one.mp h
      exact ⟨m, hm, e1, e3⟩
  · rintro ⟨m, hm, e1, e3⟩
    exact ⟨[m.c], fits_one.mpr (.inr ⟨m.c, rfl, .inl rfl⟩), way_one.mpr ⟨m, hm, e1, rfl, e3⟩⟩
theorem aft_letter {M : Mac} {q r x : Nat} (h1 : x ≠ 42) (h2 : x ≠ 63) : Aft M q [x] r ↔ ∃ m ∈ M.mv, m.s = q ∧ m.c = x ∧ m.t = r := by
  unfold Aft
  constructor
  · rintro ⟨w, f, h⟩
    rcases fits_one.mp f with f | ⟨c, rfl, k⟩
    · exact absurd f h1
    · obtain ⟨m, hm, e1, e2, e3⟩ := way_one.mp h
      exact ⟨m, hm, e1, by omega, e3⟩
  · rintro ⟨m, hm, e1, e2, e3⟩
    exact ⟨[m.c], fits_one.mpr (.inr ⟨m.c, rfl, .inr e2.symm⟩), way_one.mpr ⟨m, hm, e1, rfl, e3⟩⟩
end GL

/-! # The data layer, part v: how the functions of dicts evaluate -/
namespace GL
open PySem PySem.Spec PyProof.Rows L2
section
variable (env : En) (f g : En → Res PyData) (i j : Nat)
def hasK (kvs : List (NestedKey × PyData)) (k : NestedKey) : Bool := (getK kvs k).isSome
theorem t_bne (b : Bool) : (true != b) = !b := by cases b <;> rfl
theorem f_bne (b : Bool) : (false != b) = b := by cases b <;> rfl
@[simp] theorem fInK_e : fInK i f env = (f env).bind fun d => (keyQ d).bind fun k => (gK env[i]?).bind fun kvs => .ok (.bool (hasK kvs k)) := by
  unfold fInK hasK
  simp only [f_bne]
@[simp] theorem fNinK_e : fNinK i f env = (f env).bind fun d => (keyQ d).bind fun k => (gK env[i]?).bind fun kvs => .ok (.bool (!hasK kvs k)) := by
  unfold fNinK hasK
  simp only [t_bne]
@[simp] theorem sDput_e : sDput i f g env = .ofR (g env) env fun v => .ofR (gK env[i]?) env fun kvs => .ofR (f env) env fun d => .ofR (keyQ d) env fun k => if kvs.length < sizeLine then .nx (env.set i (some (.dct (putD kvs k v)))) else .no := (rfl)
@[simp] theorem sDnew_e : sDnew i env = .nx (env.set i (some (.dct []))) := (rfl)
@[simp] theorem fSortK_e : fSortK i env = (gK env[i]?).bind fun kvs => if kvs.length ≤ sizeLine then sortedQ (false, kvs.map fun x => x.1.data) else .no := (rfl)
def mvO (o : Option (Option SV)) : Out := match o with
  | some (some (.own ds)) => if i ≠ j then .nx ((env.set j none).set i (some (.own ds))) else .no
  | some (some (.dct kvs)) => if i ≠ j then .nx ((env.set j none).set i (some (.dct kvs))) else .no
  | _ => .no
@[simp] theorem mvO_own (ds : List PyData) : mvO env i j (some (some (.own ds))) = if i ≠ j then .nx ((env.set j none).set i (some (.own ds))) else .no := (rfl)
@[simp] theorem mvO_dct (kvs : List (NestedKey × PyData)) : mvO env i j (some (some (.dct kvs))) = if i ≠ j then .nx ((env.set j none).set i (some (.dct kvs))) else .no := (rfl)
@[simp] theorem sMove_e : sMove i j env = mvO env i j env[j]? := (rfl)
def popO (t : Tgt) (o : Option (Option SV)) : Out := match o with
  | some (some (.own (d :: ds))) => .ofR (bindT t d (env.set i (some (.own ds)))) env .nx
  | _ => .no
@[simp] theorem popO_cons (t : Tgt) (d : PyData) (ds : List PyData) : popO env i t (some (some (.own (d :: ds)))) = .ofR (bindT t d (env.set i (some (.own ds)))) env .nx := (rfl)
@[simp] theorem sPop0_e (t : Tgt) : sPop0 i t env = popO env i t env[i]? := (rfl)
end
end GL

/-! # The data layer, part w: an error that was caught is asked for its class by a def -/
namespace GL
open PySem PySem.Spec PyProof.Rows L2
/-- isinstance(e, c) for the error that is pinned -/
theorem call_isP {X : Cx} {a D : Addr} {oe : Obj} (C : ExcC X.K D) (hz : Zc (.ref D) none oe) (hf : ∃ vs, oe.data = .fields vs) (hp : (a, oe) ∈ X.pn) : CallR X (.builtin "isinstance") (rIsE X.K D a) := by
  intro pins s σ H xs us Q I r h
  obtain ⟨c, cv, b, rfl, hcv, e, q⟩ := h
  match us, r with
  | [_, u2], .cons rx (.cons rt .nil) =>
    cases rx
    have ec := hcv u2 rt
    subst ec
    have hg : s.heap.get? a = some oe := (I.pin (a, oe) (List.mem_append_left _ hp)).1
    have J : PySem.W.InstAt s.heap a oe D none := by
      obtain ⟨vs, hv⟩ := hf
      rcases oe with ⟨k1, k2, k3, k4⟩
      rcases hz with ⟨z1, z2⟩
      simp only at z1 z2 hv
      subst z1
      subst z2
      subst hv
      exact ⟨hg, rfl, rfl, trivial⟩
    refine PySem.W.kia_one (PySem.W.handS_kitx_exc C.hg C.hk C.hs C.hd C.ha C.hn C.ht C.hm) I.kIn J e (fun z => nomatch z) fun tk => ?_
    exact ⟨.bl b, H, I.kept (t' := tk) fun _ _ z => z, rfl, q⟩
def fIsE (i : Nat) (a : Addr) (b : Bool) : En → Res PyData := fun env => match env[i]? with
  | some (some (.raw (.ref a'))) => if a' = a then .ok (.bool b) else .no
  | _ => .no
section
variable {X : Cx} {W : WX} {cm : Str → Addr} {pos p p2 p3 : Pos} {x y : Str}
theorem pe_isP (i : Nat) {a D : Addr} {oe : Obj} {c : V} {cv : Value} {b : Bool} (B : Blt X.mg) (C : ExcC X.K D) (hz : Zc (.ref D) none oe) (hf : ∃ vs, oe.data = .fields vs) (hp : (a, oe) ∈ X.pn) (hy : PE X (.Name y p2) (tC c)) (hcv : ∀ u, RelV c u → u = cv) (hk : PySem.W.kitOne X.K (.ref D) cv = some b)
    (hN : X.N[i]? = some x := by rfl) (hv : Vis X.env.scope x := by first | exact Or.inl rfl | exact Or.inr (Or.inl rfl) | exact Or.inr (Or.inr rfl)) (hd : (x == ("__debug__" : Str)) = false := by decide) (hcd : (x == ("__classdict__" : Str)) = false := by decide) (hg : Gl X "isinstance" := by rfl)
    (he : starEach [.Name x p3, .Name y p2] X.env = (false, eval (.Name x p3) X.env) :: starEach [.Name y p2] X.env := by rfl) (he2 : starEach [.Name y p2] X.env = [(false, eval (.Name y p2) X.env)] := by rfl) (hpl : (backTo pos (starEach [.Name y p2] X.env)).any (·.1) = false := by rfl) :
    DE X W cm (.Call (.Name "isinstance" p) [.Name x p3, .Name y p2] [] pos) (fIsE i a b) :=
  pe_imp (pe_callB (call_isP C hz hf hp) hg B.isinstance PyProof.Rows.boot_isinstance (pa_cons (pe_var (i := i) hN hv hd hcd) (pa_cons hy pa_nil he2) he) (by decide) (by decide) he hpl) fun σ H Q q => by
    obtain ⟨G0, H0, G, env, ok, q⟩ := q
    unfold fIsE at q
    split at q
    · rename_i a' hi
      obtain ⟨v, hv', hs⟩ := ok.sl i _ hi
      have hs : v = .ref a' := hs
      subst hs
      split at q
      · rename_i ea
        subst ea
        exact ⟨.ref a', hv', c, cv, b, rfl, hcv, hk, q _ G H (Grow.refl ok.gh) (.bl b)⟩
      · exact q.elim
    · exact q.elim
end
/-! ### count, index -/
def cntD : PyData → PyData → Res PyData
  | .list ds, d => if (PyData.plainAll ds && d.plain && decide (PyData.depthAll ds ≤ 8)) = true then .ok (.int ((ds.countP fun y => PyData.eqv y d : Nat) : Int)) else .no
  | _, _ => .no
def idxD : PyData → PyData → Res PyData
  | .list ds, d => if (SeqAt.shaped (.list ds) && SeqAt.shaped d) = true then (match ds.findIdx? fun y => PyData.eqv y d with
    | some j => .ok (.int (j : Nat))
    | none => .no) else .no
  | _, _ => .no
theorem cntD_never (d e : PyData) : Never (cntD d e) := by
  unfold cntD
  split <;> first | exact never_no | exact never_ite (never_ok _) never_no
theorem idxD_never (d e : PyData) : Never (idxD d e) := by
  unfold idxD
  split
  · refine never_ite ?_ never_no
    split <;> first | exact never_ok _ | exact never_no
  · exact never_no
def rM1 (K : PySem.W.Frag) (o : PyData → PyData → Res PyData) : V → List V → Hp → VK → Prop := fun x xs H Q => ∃ G d e r y, xs = [y] ∧ Same G H ∧ Dp K G x d ∧ Dp K G y e ∧ o d e = .ok r ∧ ∀ v G' H', Grow G H G' H' → Dp K G' v r → Q v H'
theorem mtR_imp {X : Cx} {id : String} {r r' : V → List V → Hp → VK → Prop} (h : MtR X id r) (i : ∀ x xs H Q, r' x xs H Q → r x xs H Q) : MtR X id r' := fun pins s σ H x xs v us Q I rx rxs q => h pins s σ H x xs v us Q I rx rxs (i _ _ _ _ q)
section
variable {X : Cx} {W : WX} {cm : Str → Addr} {o e : Expr} {f g : En → Res PyData} {apos pos : Pos}
theorem mt_cnt (hu : X.A.units + 65 < cLine) : MtR X "list.count" (rM1 X.K cntD) := by
  intro pins s σ H x xs v us Q I rx rxs h
  obtain ⟨G, d, e, r, y, rfl, gh, dx, dy, er, q⟩ := h
  match us, rxs with
  | [u], .cons ry .nil =>
    unfold cntD at er
    split at er
    · obtain ⟨hl, rfl⟩ := ok_of_ite er
      rw [Bool.and_eq_true, Bool.and_eq_true] at hl
      obtain ⟨⟨h1, h2⟩, h3⟩ := hl
      have h3 := of_decide_eq_true h3
      cases dx with
      | lst hs ha =>
        cases rx
        obtain ⟨its, rv, pl, hz⟩ := I.list (gh.seq hs)
        obtain ⟨as, r1⟩ := Dp.readsAll I _ _ its (dpAll_mono gh _ _ ha) rv
        obtain ⟨bs, r2⟩ := Dp.reads I _ _ _ (dp_mono gh _ _ dy) ry
        refine SeqAt.count_list_data pl.isList (by simpa using r1) r2 h1 h2 (by omega) ?_
        exact ⟨.int _, H, I.tok _, ⟨_, rfl⟩, q _ G H (Grow.refl gh) (.int _)⟩
    · cases er
theorem mt_idx (hu : X.A.units + 65 < cLine) : MtR X "list.index" (rM1 X.K idxD) := mtR_imp (mt_indexD hu) fun x xs H Q h => by
  obtain ⟨G, d, e, r, y, rfl, gh, dx, dy, er, q⟩ := h
  unfold idxD at er
  split at er
  · rename_i ds
    split at er
    · rename_i hs
      rw [Bool.and_eq_true] at hs
      split at er
      · rename_i j hj
        cases er
        cases dx with
        | lst h1 ha =>
          obtain ⟨hlt, hz, hno⟩ := List.findIdx?_eq_some_iff_getElem.mp hj
          refine ⟨_, y, e, ds, j, ds[j], rfl, rfl, dp_mono gh _ _ (.lst h1 ha), dp_mono gh _ _ dy, hs.1, hs.2, List.getElem?_eq_getElem hlt, hz, fun m z' hm hz' => ?_, q _ G H (Grow.refl gh) (.int _)⟩
          have hml : m < ds.length := by omega
          have := hno m hm
          rw [List.getElem?_eq_getElem hml] at hz'
          cases hz'
          simpa using this
      · cases er
    · cases er
  · cases er
theorem tyV_list {K : PySem.W.Frag} {G H : Hp} {x : V} {ds : List PyData} (gh : Same G H) (h : Dp K G x (.list ds)) : tyV K "list" x H := by
  cases h with
  | lst hs ha => exact Or.inl ⟨rfl, _, gh.seq hs⟩
theorem t_bm1 {P : Program} {w : World} {K : PySem.W.Frag} {op : PyData → PyData → Res PyData} (n : ∀ d e, Never (op d e)) (hl : ∀ {d e r}, op d e = .ok r → ∃ ds, d = .list ds) {σ : L2.St} {H : Hp} {Q : VK} (q : tD P w K W cm (f2 op f g) σ H Q) (hg : ∀ env, Never (g env)) (hgo : ∀ env d, f env = .ok d → (∃ ds, d = .list ds) ∨ ∀ e, g env = .ok e → op d e = .no) :
    tBM K "list" (rM1 K op) (tD P w K W cm f) (tCons (tD P w K W cm g) tNil) σ H Q := by
  obtain ⟨G0, H0, G, env, ok, q⟩ := q
  refine tD.go ok ((Res.sat_bind.mp q).imp (fun d ed k v G1 H1 g1 ok1 dp => ?_) fun _ z => z)
  have k' := Res.sat_bind.mp k
  obtain ⟨e0, ee0, _⟩ := sat_ok (hg env) k'
  have hd : ∃ ds, d = .list ds := by
    rcases hgo env d ed with h | h
    · exact h
    · rw [ee0] at k'
      have k' : (op d e0).sat _ _ := k'
      rw [h e0 ee0] at k'
      exact k'.elim
  obtain ⟨ds, rfl⟩ := hd
  refine ⟨tyV_list ok1.gh dp, ?_⟩
  show tD P w K W cm g σ H1 fun y H2 => rM1 K op v [y] H2 Q
  refine tD.go ok1 (k'.imp (fun e _ k2 u G2 H2 g2 ok2 dq => ?_) fun _ z => z.grow g1)
  obtain ⟨r, er, k3⟩ := sat_ok (n _ e) k2
  exact ⟨G2, _, e, r, u, rfl, ok2.gh, dp_mono g2.g _ _ dp, dq, er, fun z G' H' g' dr => k3 z G' H' ((g1.trans g2).trans g') dr⟩
theorem cntD_list {d e r : PyData} (h : cntD d e = .ok r) : ∃ ds, d = .list ds := by
  unfold cntD at h
  split at h
  · exact ⟨_, rfl⟩
  · cases h
theorem idxD_list {d e r : PyData} (h : idxD d e = .ok r) : ∃ ds, d = .list ds := by
  unfold idxD at h
  split at h
  · exact ⟨_, rfl⟩
  · cases h
theorem cntD_or (d : PyData) : (∃ ds, d = .list ds) ∨ ∀ e, cntD d e = .no := by
  cases d <;> first | exact .inl ⟨_, rfl⟩ | exact .inr fun _ => rfl
theorem idxD_or (d : PyData) : (∃ ds, d = .list ds) ∨ ∀ e, idxD d e = .no := by
  cases d <;> first | exact .inl ⟨_, rfl⟩ | exact .inr fun _ => rfl
abbrev fCountL := f2 cntD
abbrev fIndexL := f2 idxD
theorem de_countL {b : Bool} {j : Nat} {p2 : Pos} (hu : X.A.units + 65 < cLine) (ho : DE X W cm o f) (hs : starEach [.Constant (.bool b) j p2] X.env = [(false, eval (.Constant (.bool b) j p2) X.env)] := by rfl) (hbase : attributeBase o "count" X.env (eval o X.env) = eval o X.env := by rfl) (hline : (apos.endLine == pos.line) = true := by rfl) :
    DE X W cm (.Call (.Attribute o "count" apos) [.Constant (.bool b) j p2] [] pos) (fCountL f (fC (.bool b))) :=
  pe_imp (pe_bm PySem.F.plainAttrs_list PySem.F.slot_list_count PySem.F.type_list_count (mt_cnt hu) ho (pa_cons de_bl pa_nil hs) (hbase := hbase) (hline := hline)) fun σ H Q q => t_bm1 cntD_never cntD_list q (fun _ => never_ok _) fun env d _ => (cntD_or d).imp id fun h e _ => h e
theorem de_indexL {b : Bool} {j : Nat} {p2 : Pos} (hu : X.A.units + 65 < cLine) (ho : DE X W cm o f) (hs : starEach [.Constant (.bool b) j p2] X.env = [(false, eval (.Constant (.bool b) j p2) X.env)] := by rfl) (hbase : attributeBase o "index" X.env (eval o X.env) = eval o X.env := by rfl) (hline : (apos.endLine == pos.line) = true := by rfl) :
    DE X W cm (.Call (.Attribute o "index" apos) [.Constant (.bool b) j p2] [] pos) (fIndexL f (fC (.bool b))) :=
  pe_imp (pe_bm PySem.F.plainAttrs_list PySem.F.slot_list_index PySem.F.type_list_index (mt_idx hu) ho (pa_cons de_bl pa_nil hs) (hbase := hbase) (hline := hline)) fun σ H Q q => t_bm1 idxD_never idxD_list q (fun _ => never_ok _) fun env d _ => (idxD_or d).imp id fun h e _ => h e
end
end GL

/-! # The data layer, part x: a def that is called with a caught error; try .. except -/
namespace GL
open PySem PySem.Spec PyProof.Rows L2
/-- called with the error that is handled, of the class at D, the def at f gives the text z -/
def FnE (P : Program) (w : World) (K : PySem.W.Frag) (mg : Str → Option Value) (base : Heap) (k : Nat) (f D : Addr) (z : Str) : Prop :=
  ∀ (A : Around) (outer : List Env) (s : Shared) (G H : Hp) (p : Addr × Obj) (Q : VK), L2H.RoomH k A → L2H.PinOk outer H s p → Zc (.ref D) none p.2 → (∃ vs, p.2.data = .fields vs) → Env0 P w K mg base A outer s H → Same G H →
    (∀ v G' H', Grow G H G' H' → Dp K G' v (.str z) → Q v H') → codeAny (model P w) A (.call (.ref f) ⟨[.ref p.1], []⟩) (CR (L2.CX P w) outer P w H s Q fun _ _ _ => False) s
abbrev E0 : XK := fun _ _ _ => False
theorem ok_raw {P : Program} {w : World} {K : PySem.W.Frag} {G H : Hp} {N : List Str} {a : Addr} (gh : Same G H) (hN : 1 ≤ N.length) : OkG P w K G H G (some (.raw (.ref a)) :: List.replicate (N.length - 1) none) (L2.start N [.ref a]) H where
  gr := Grow.refl gh
  len := by
    unfold L2.start
    simp
  sl := fun i s h => by
    match i with
    | 0 =>
      simp at h
      subst h
      exact ⟨.ref a, start_get (i := 0) rfl, rfl⟩
    | i + 1 =>
      rw [List.getElem?_cons_succ, List.getElem?_replicate] at h
      split at h <;> cases h
  ap := fun i j s t u v a h1 _ m1 _ _ _ _ _ => by
    match i with
    | 0 =>
      simp at h1
      subst h1
      cases m1
    | i + 1 =>
      rw [List.getElem?_cons_succ, List.getElem?_replicate] at h1
      split at h1 <;> cases h1
section
variable {P : Program} {w : World} {K : PySem.W.Frag} {mg : Str → Option Value} {base : Heap} {cm : Str → Addr}
theorem fnE {x : Str} {st : Stmt} {y : Str} {N : List Str} {f D : Addr} {fd : FuncData} {k : Nat} {g : Addr → En → Out} {z : Str} (F : Fun K x x st f fd) (S : FnScope N [y] (defScope st)) (B : Binds K fd [y] [])
    (hb : ∀ (cdv : Value) (A : Around) (outer : List Env) (s : Shared) (H : Hp) (p : Addr × Obj), Zc (.ref D) none p.2 → (∃ vs, p.2.data = .fields vs) → L2H.RoomH k (A.deeper (envOfC x (defScope st) s.heap.objs.size f cdv)) →
      PSs (L2H.cxH (L2.CX P w) P w K mg base N x (defScope st) f cdv A outer s H E0 p) (defBody st) (tS P w K W0 cm (g p.1)))
    (hg : ∀ a, g a (some (.raw (.ref a)) :: List.replicate (N.length - 1) none) = .rt (.str z)) : FnE P w K mg base (k + 1) f D z := by
  intro A outer s G H p Q hr hpin hz hd e0 gh hQ
  obtain ⟨oc, od, kV, doc, pm, an, cdv, ct, osl, rfl, lk, hcd⟩ := F.ex
  have KX : K.In s.heap := e0.mod.kin.keeps fun b o e => (e0.bs b o e).1
  have lim := e0.mod.nolimit.keeps fun b o e => (e0.bs b o e).1
  have bb := B s [.ref p.1] KX rfl
  have hkind : ∀ v ∈ [y].zip [Value.ref p.1], (defScope st).names.lookup v.1 = some .local ∨ ((defScope st).names.lookup v.1 = some .cell ∧ ((cellsFrom (s.heap.objs.size + 1) (defScope st).names []).lookup v.1).isSome = true) := fun v hv => by
    have hv1 : v.1 = y := by simp at hv; rw [hv]
    rcases S.par y List.mem_cons_self with q | q
    · exact .inl (by rw [hv1]; exact q)
    · exact .inr ⟨by rw [hv1]; exact q, by rw [hv1]; exact PySem.W.cellsFrom_some _ _ _ (.inl q)⟩
  have hN : 1 ≤ N.length := by
    have := congrArg List.length S.pre
    rw [List.length_take] at this
    simp at this
    omega
  refine codeAny_call_function hr.depth (KX _ _ lk) rfl S.co S.gen rfl (PySem.W.codeRec_of KX hcd) (bb _ _ _ _ ?_)
  refine wpAny_newFunctionEnv_cells S.kind hkind fun env he s1 x1 => ?_
  subst he
  refine ⟨lim.keeps x1.toInCall.keep, codeAny_func ?_⟩
  have I := L2H.inv_startH (CX := L2.CX P w) (E := E0) (vs := [.ref p.1]) S hpin e0 rfl (.cons rfl .nil) x1
  have q : tS P w K W0 cm (g p.1) { nx := fun _ H' => Q .non H', rt := Q } (L2.start N [.ref p.1]) H := by
    refine ⟨G, H, G, _, ok_raw gh hN, ?_⟩
    rw [hg p.1]
    exact hQ
  refine wpAny_mono ((hb cdv A outer s H p hz hd (hr.deeper _)).run [] s1 _ H _ I q) (fun fl s' hs => ?_) fun e s' hs => hs
  cases fl with
  | ret u =>
    obtain ⟨v, σ', H', J, rv, q⟩ := hs
    exact ⟨v, H', J.os, J.bare, J.base, J.hok, rv, q⟩
  | next =>
    obtain ⟨σ', H', J, q⟩ := hs
    exact ⟨.non, H', J.os, J.bare, J.base, J.hok, rfl, q⟩
  | brk => obtain ⟨_, _, _, q⟩ := hs; exact q.elim
  | cont => obtain ⟨_, _, _, q⟩ := hs; exact q.elim
/-- the call in the except suite -/
theorem pe_callE {X : Cx} {k : Nat} {f D a : Addr} {oe : Obj} {z x n : Str} {i : Nat} {q q2 pos : Pos} (F : FnE X.prog X.w X.K X.mg X.base k f D z) (hr : L2H.RoomH k X.A) (hz : Zc (.ref D) none oe) (hf : ∃ vs, oe.data = .fields vs) (hp : (a, oe) ∈ X.pn) (hg : Gl X x) (hm : X.mg x = some (.ref f)) (hk : PySem.W.keepIn X.K (.ref f) = true)
    (hN : X.N[i]? = some n := by rfl) (hv : Vis X.env.scope n := by first | exact Or.inl rfl | exact Or.inr (Or.inl rfl) | exact Or.inr (Or.inr rfl)) (hd : (n == ("__debug__" : Str)) = false := by decide) (hcd : (n == ("__classdict__" : Str)) = false := by decide) (hdb : (x == ("__debug__" : Str)) = false := by decide)
    (he : starEach [.Name n q2] X.env = [(false, eval (.Name n q2) X.env)] := by rfl) (hpl : (backTo pos (starEach [] X.env)).any (·.1) = false := by rfl) :
    PE X (.Call (.Name x q) [.Name n q2] [] pos) (fun σ H Q => ∃ G, Same G H ∧ σ[i]? = some (some (.ref a)) ∧ ∀ v G' H', Grow G H G' H' → Dp X.K G' v (.str z) → Q v H') := by
  refine ⟨fun pins s σ H Q I h => ?_⟩
  obtain ⟨G, gh, hs, hQ⟩ := h
  have ha : PA X [.Name n q2] (tCons (tVar i) tNil) := pa_cons (pe_var hN hv hd hcd) pa_nil he
  refine wpAny_Call_Name_kw (ld_glob I hg hm ?_ hdb)
  refine PySem.W.callWith_K (h₀ := X.base) I.ok.mod.kin hk (thn (ha.run pos pins s σ H (fun vs H1 => vs = [V.ref a] ∧ H = H1) I ⟨.ref a, hs, rfl, rfl⟩) fun us s1 hh => ?_) he hpl
  obtain ⟨vs, H1, I1, r1, ev, eH⟩ := hh
  subst ev
  subst eH
  refine ⟨I1.kIn, ?_⟩
  match us, r1 with
  | [u], .cons ru .nil =>
    cases ru
    have P1 := I1.pin (a, oe) (List.mem_append_left _ hp)
    have hpin : L2H.PinOk X.stack H s1 (a, oe) := ⟨P1.1, P1.2.1, fun hm => (List.mem_cons.mp (I1.stkSub a hm)).elim P1.2.2.1 P1.2.2.2.1, P1.2.2.2.2⟩
    refine wpAny_call (codeAny_mono (F X.A X.stack s1 G H (a, oe) Q hr hpin hz hf I1.env0 gh hQ) fun r s' hq => ?_)
    cases r with
    | error e =>
      obtain ⟨_, _, _, _, _, _, _, _, _, _, _, _, h⟩ := hq
      exact h.elim
    | ok fl =>
      cases fl with
      | ret u => exact I1.after hq
      | next => exact hq.elim
      | brk => exact hq.elim
      | cont => exact hq.elim
end
end GL

/-! # The data layer, part y: try: .. except X as e: return f(e) -/
namespace GL
open PySem PySem.Spec PyProof.Rows L2
def sTryW (i : Nat) (wd : Str → Option Str) (g : En → Out) : En → Out := fun env => match g env with
  | .ex x e => (match wd x with
    | some z => if i < e.length then .rt (.str z) else .no
    | none => .no)
  | o => o
def tsW (K : PySem.W.Frag) (cm : Str → Addr) (wd : Str → Option Str) (i : Nat) (a : Addr) (cls : Value) (d : Option Addr) : TS := fun D σ H => ∃ y z G, cls = .ref (cm y) ∧ d = none ∧ wd y = some z ∧ Same G H ∧ σ[i]? = some (some (.ref a)) ∧ ∀ v G' H', Grow G H G' H' → Dp K G' v (.str z) → D.rt v H'
section
variable {X : Cx} {W : WX} {cm : Str → Addr} {x fx n : Str} {c : Value} {i k : Nat} {body : List Stmt} {np q q2 pos pos' pos1 pos2 : Pos} {g : En → Out} {wd : Str → Option Str}
theorem ds_tryW {f : Addr} (hs : X.stack = X.env :: X.outer) (hf : X.env.frame = some X.env.locals) (hN : X.N.Nodup) (hi : X.N[i]? = some n) (hln : X.env.kindOf n = some .local) (hc : Names X x c) (tk : Takes X W) (hr : Room k X.A)
    (hw : ∀ y z, wd y = some z → FnE X.prog X.w X.K X.mg X.base k f (cm y) z ∧ PySem.W.exmOne X.K (.ref (cm y)) c = some true) (hg : Gl X fx) (hm : X.mg fx = some (.ref f)) (hk : PySem.W.keepIn X.K (.ref f) = true)
    (hb : ∀ (W : WX) (pn : List (Addr × Obj)) (xe : Value → Shared → Prop), Takes (X.tr pn xe) W → PassesOwn (model X.prog X.w) X.A X.env xe → DSs (X.tr pn xe) W cm body g)
    (hv : Vis X.env.scope n := by first | exact Or.inl rfl | exact Or.inr (Or.inl rfl) | exact Or.inr (Or.inr rfl)) (hd : (n == ("__debug__" : Str)) = false := by decide) (hcd : (n == ("__classdict__" : Str)) = false := by decide) (hdb : (fx == ("__debug__" : Str)) = false := by decide)
    (he : starEach [.Name n q2] X.env = [(false, eval (.Name n q2) X.env)] := by rfl) (hpl : (backTo pos1 (starEach [] X.env)).any (·.1) = false := by rfl) :
    DS X W cm (.Try body [.ExceptHandler (some (.Name x np)) (some n) [.Return (some (.Call (.Name fx q) [.Name n q2] [] pos1)) pos2] pos'] [] [] pos) (sTryW i wd g) := by
  refine ps_imp (ps_try_as (i := i) (ts := tsW X.K cm wd i) (tb := fun W => tS X.prog X.w X.K W cm g) hs hf hN hi hln hc tk hb fun a oe cls d pn hz hfd => ?_) fun D σ H h => ?_
  · refine ⟨fun pins s σ H D I h => ?_⟩
    obtain ⟨y, z, G, rfl, rfl, hyz, gh, hsl, hQ⟩ := h
    obtain ⟨F, _⟩ := hw y z hyz
    have hrh : L2H.RoomH k (X.suite a ((a, oe) :: pn)).A := ⟨hr.dp, hr.un⟩
    have pe := pe_callE (X := X.suite a ((a, oe) :: pn)) (i := i) (q := q) (q2 := q2) (pos := pos1) F hrh hz hfd List.mem_cons_self hg hm hk hi hv hd hcd hdb he hpl
    exact (pss_one (ps_ret (pos := pos2) pe)).run pins s σ H D I ⟨G, gh, hsl, hQ⟩
  · obtain ⟨G0, H0, G, env, ok, h⟩ := h
    refine ⟨G0, H0, G, env, ok, ?_⟩
    unfold sTryW at h
    cases eg : g env with
    | nx e => rw [eg] at h; exact h
    | rt d => rw [eg] at h; exact h
    | rl d => rw [eg] at h; exact h
    | rw d e => rw [eg] at h; exact h
    | no => rw [eg] at h; exact h
    | ex y e =>
      rw [eg] at h
      cases ew : wd y with
      | none => simp only [ew] at h; exact h.elim
      | some z =>
        simp only [ew] at h
        split at h
        · rename_i hlt
          intro G' σ' H' s' ok'
          obtain ⟨_, hx⟩ := hw y z ew
          refine ⟨true, hx, fun _ a ha => ?_, fun hf => (Bool.noConfusion hf)⟩
          refine ⟨y, z, G', rfl, rfl, ew, ok'.gh, List.getElem?_set_self (by rw [← ok'.len]; exact hlt), fun v G2 H2 g2 dv => ?_⟩
          exact h v G2 H2 (ok'.gr.trans g2) dv
        · exact h.elim
end
section
variable (env : En) (i : Nat) (wd : Str → Option Str) (g : En → Out)
def tryO (i : Nat) (wd : Str → Option Str) (o : Out) : Out := match o with
  | .ex x e => (match wd x with
    | some z => if i < e.length then .rt (.str z) else .no
    | none => .no)
  | o => o
@[simp] theorem tryO_nx (e : En) : tryO i wd (.nx e) = .nx e := (rfl)
@[simp] theorem tryO_rt (d : PyData) : tryO i wd (.rt d) = .rt d := (rfl)
@[simp] theorem tryO_rl (d : List PyData) : tryO i wd (.rl d) = .rl d := (rfl)
theorem tryO_ex {x z : Str} {e : En} (h : wd x = some z) (hl : i < e.length) : tryO i wd (.ex x e) = .rt (.str z) := by
  unfold tryO
  simp only [h]
  rw [if_pos hl]
@[simp] theorem sTryW_e : sTryW i wd g env = tryO i wd (g env) := (rfl)
end
end GL

/-! # The data layer, part z: the def that tells an error's kind -/
namespace GL
open PySem PySem.Spec PyProof.Rows L2
theorem op_neU {X : Cx} (hu : X.A.units + 65 < cLine) : OpR X (compareOp .NotEq) (rDat X.K neD) := by
  intro pins s σ H x y v u Q I rx ry h
  obtain ⟨G, d, e, r, gh, dx, dy, er, q⟩ := h
  obtain ⟨hl, rfl⟩ := ok_of_ite er
  rw [Bool.and_eq_true] at hl
  exact op_neD (by omega) pins s σ H x y v u Q I rx ry ⟨d, e, dp_mono gh _ _ dx, dp_mono gh _ _ dy, hl.1, hl.2, q _ G H (Grow.refl gh) (.bl _)⟩
theorem dt_neU {X : Cx} {W : WX} {cm : Str → Addr} {a b : Expr} {f g : En → Res PyData} {pos : Pos} (hu : X.A.units + 65 < cLine) (ha : DE X W cm a f) (hb : DE X W cm b g) : DT X W cm (.Compare a [.NotEq] [b] pos) (fB (fNe f g)) := dt_cmpR (op_neU hu) ha hb (nomark _) neD_never
def wd3 (y : Str) : Option Str := if y = "NoRun" then some "no run" else if y = "NoSign" then some "no sign" else if y = "NoText" then some "no text" else none
/-- what the program's top says of its errors -/
structure WordOk (K : PySem.W.Frag) (mg : Str → Option Value) (cm : Str → Addr) (L : Addr) : Prop where
  cR : ExcC K (cm "NoRun")
  cS : ExcC K (cm "NoSign")
  cT : ExcC K (cm "NoText")
  gR : mg "NoRun" = some (.ref (cm "NoRun"))
  gS : mg "NoSign" = some (.ref (cm "NoSign"))
  gT : mg "NoText" = some (.ref (cm "NoText"))
  gL : mg "LogError" = some (.ref L)
  RR : PySem.W.kitOne K (.ref (cm "NoRun")) (.ref (cm "NoRun")) = some true
  RS : PySem.W.kitOne K (.ref (cm "NoRun")) (.ref (cm "NoSign")) = some false
  RT : PySem.W.kitOne K (.ref (cm "NoRun")) (.ref (cm "NoText")) = some false
  SR : PySem.W.kitOne K (.ref (cm "NoSign")) (.ref (cm "NoRun")) = some false
  SS : PySem.W.kitOne K (.ref (cm "NoSign")) (.ref (cm "NoSign")) = some true
  ST : PySem.W.kitOne K (.ref (cm "NoSign")) (.ref (cm "NoText")) = some false
  TR : PySem.W.kitOne K (.ref (cm "NoText")) (.ref (cm "NoRun")) = some false
  TS : PySem.W.kitOne K (.ref (cm "NoText")) (.ref (cm "NoSign")) = some false
  TT : PySem.W.kitOne K (.ref (cm "NoText")) (.ref (cm "NoText")) = some true
  vR : PySem.W.kitOne K (.ref (cm "NoRun")) (.type "ValueError") = some true
  vS : PySem.W.kitOne K (.ref (cm "NoSign")) (.type "ValueError") = some true
  vT : PySem.W.kitOne K (.ref (cm "NoText")) (.type "ValueError") = some true
  xR : PySem.W.exmOne K (.ref (cm "NoRun")) (.ref L) = some true
  xS : PySem.W.exmOne K (.ref (cm "NoSign")) (.ref L) = some true
  xT : PySem.W.exmOne K (.ref (cm "NoText")) (.ref L) = some true
theorem WordOk.exm {K : PySem.W.Frag} {mg : Str → Option Value} {cm : Str → Addr} {L : Addr} (X : WordOk K mg cm L) {y z : Str} (h : wd3 y = some z) : PySem.W.exmOne K (.ref (cm y)) (.ref L) = some true := by
  unfold wd3 at h
  split at h
  · rename_i e; subst e; exact X.xR
  · split at h
    · rename_i e; subst e; exact X.xS
    · split at h
      · rename_i e; subst e; exact X.xT
      · cases h
/-- the body of the def -/
def g_word (a : Addr) (b1 b2 b3 : Bool) : En → Out :=
  sSeq (sAsg (.one 1) (fLst (fDsp (fCons (fIsE 0 a b1) (fCons (fIsE 0 a b2) (fCons (fIsE 0 a b3) fNil)))))) <|
  sSeq (sIf (fOrT (fB (fNe (fCountL (fVar 1) (fC (.bool true))) (fC (.int 1)))) (fNotT (fTru (fIsE 0 a true)))) (sRet (fC (.str "wrong"))) (sNext)) <|
  sRet (fIx (fTup (fCons (fC (.str "no run")) (fCons (fC (.str "no sign")) (fCons (fC (.str "no text")) (fNil))))) (fIndexL (fVar 1) (fC (.bool true))))
theorem fIsE_at (a : Addr) (b : Bool) (r : En) : fIsE 0 a b (some (.raw (.ref a)) :: r) = .ok (.bool b) := by
  show (if a = a then Res.ok (PyData.bool b) else .no) = _
  rw [if_pos rfl]
theorem g_word_e (a : Addr) (b1 b2 b3 : Bool) (j : Nat) (z : Str) (hj : [PyData.bool b1, .bool b2, .bool b3].findIdx? (fun y => PyData.eqv y (.bool true)) = some j) (hc : [PyData.bool b1, .bool b2, .bool b3].countP (fun y => PyData.eqv y (.bool true)) = 1)
    (hz : [PyData.str "no run", .str "no sign", .str "no text"][j]? = some (.str z)) : g_word a b1 b2 b3 [some (.raw (.ref a)), none] = .rt (.str z) := by
  have h1 : cntD (.list [.bool b1, .bool b2, .bool b3]) (.bool true) = .ok (.int 1) := by
    show (if (PyData.plainAll [.bool b1, .bool b2, .bool b3] && (PyData.bool true).plain && decide (PyData.depthAll [.bool b1, .bool b2, .bool b3] ≤ 8)) = true then Res.ok (PyData.int (([PyData.bool b1, .bool b2, .bool b3].countP fun y => PyData.eqv y (.bool true) : Nat) : Int)) else .no) = _
    rw [hc]
    rfl
  have h2 : idxD (.list [.bool b1, .bool b2, .bool b3]) (.bool true) = .ok (.int (j : Nat)) := by
    show (if (SeqAt.shaped (.list [.bool b1, .bool b2, .bool b3]) && SeqAt.shaped (.bool true)) = true then (match [PyData.bool b1, .bool b2, .bool b3].findIdx? fun y => PyData.eqv y (.bool true) with
      | some j => Res.ok (PyData.int (j : Nat))
      | none => .no) else .no) = _
    rw [hj]
    rfl
  have h3 : atI [PyData.str "no run", .str "no sign", .str "no text"] (j : Int) = some (.str z) := by
    unfold atI ixN
    have hlt := (List.getElem?_eq_some_iff.mp hz).1
    rw [if_pos (by omega), if_pos (by omega)]
    simpa using hz
  rw [g_word]
  simp (implicitDefEqProofs := false) [fIsE_at, h1, h2, h3]
section
variable {P : Program} {w : World} {K : PySem.W.Frag} {mg : Str → Option Value} {base : Heap} {cm : Str → Addr} {L : Addr}
/-- the three kinds at once -/
theorem word_all {st : Stmt} {N : List Str} {f : Addr} {fd : FuncData} (hN : N.length = 2) (Wo : WordOk K mg cm L)
    (F : ∀ (D : Addr) (b1 b2 b3 : Bool) (z : Str), ExcC K D → PySem.W.kitOne K (.ref D) (.ref (cm "NoRun")) = some b1 → PySem.W.kitOne K (.ref D) (.ref (cm "NoSign")) = some b2 → PySem.W.kitOne K (.ref D) (.ref (cm "NoText")) = some b3 → PySem.W.kitOne K (.ref D) (.type "ValueError") = some true →
      (∀ a, g_word a b1 b2 b3 (some (.raw (.ref a)) :: List.replicate (N.length - 1) none) = .rt (.str z)) → FnE P w K mg base 1 f D z) : ∀ y z, wd3 y = some z → FnE P w K mg base 1 f (cm y) z := by
  intro y z h
  unfold wd3 at h
  split at h
  · rename_i e
    subst e
    cases h
    exact F _ true false false _ Wo.cR Wo.RR Wo.RS Wo.RT Wo.vR fun a => by rw [hN]; exact g_word_e a true false false 0 _ rfl rfl rfl
  · split at h
    · rename_i e
      subst e
      cases h
      exact F _ false true false _ Wo.cS Wo.SR Wo.SS Wo.ST Wo.vS fun a => by rw [hN]; exact g_word_e a false true false 1 _ rfl rfl rfl
    · split at h
      · rename_i e
        subst e
        cases h
        exact F _ false false true _ Wo.cT Wo.TR Wo.TS Wo.TT Wo.vT fun a => by rw [hN]; exact g_word_e a false false true 2 _ rfl rfl rfl
      · cases h
end
/-- the def that tells an error's kind stands at f -/
structure WordFn (P : Program) (w : World) (K : PySem.W.Frag) (mg : Str → Option Value) (base : Heap) (cm : Str → Addr) (L f : Addr) : Prop where
  ok : WordOk K mg cm L
  m : mg "_law_word" = some (.ref f)
  kp : PySem.W.keepIn K (.ref f) = true
  e : ∀ y z, wd3 y = some z → FnE P w K mg base 1 f (cm y) z
theorem WordFn.both {P : Program} {w : World} {K : PySem.W.Frag} {mg : Str → Option Value} {base : Heap} {cm : Str → Addr} {L f : Addr} (X : WordFn P w K mg base cm L f) : ∀ y z, wd3 y = some z → FnE P w K mg base 1 f (cm y) z ∧ PySem.W.exmOne K (.ref (cm y)) (.ref L) = some true := fun y z h => ⟨X.e y z h, X.ok.exm h⟩
/-! ### what the top must say -/
structure Err1 (K : PySem.W.Frag) (x : Str) (D : Addr) : Prop where
  g : PySem.W.nsIn K mainGlobals x = some (some (.ref D))
  a : PySem.W.findIn K (.ref D) "__getattribute__" = some (some (.builtin "BaseException.__getattribute__"))
  b : PySem.W.findIn K (.ref D) "__getattr__" = some none
  s : PySem.W.subIn K (.ref D) (.type "BaseException") = some true
  d : PySem.W.hasDictIn K D = true
  c : PySem.W.findIn K (.ref D) "__class__" = some (some (.builtin "object.__class__"))
  m : PySem.W.mroIn K D (.type "object") = some true
  t : PySem.W.typeIn K (.ref D) = some (.type "type")
  v : PySem.W.subIn K (.ref D) (.type "ValueError") = some true
structure ErrIn (K : PySem.W.Frag) (R S T L : Addr) : Prop where
  r : Err1 K "NoRun" R
  s : Err1 K "NoSign" S
  t : Err1 K "NoText" T
  l : Err1 K "LogError" L
  n : PySem.W.specialIn K (.builtin "object.__class__") "__get__" = some (some (.builtin "getset_descriptor.__get__"))
  k : PySem.W.takesIn K (.builtin "object.__class__") = some true
  RS : PySem.W.subIn K (.ref R) (.ref S) = some false
  RT : PySem.W.subIn K (.ref R) (.ref T) = some false
  SR : PySem.W.subIn K (.ref S) (.ref R) = some false
  ST : PySem.W.subIn K (.ref S) (.ref T) = some false
  TR : PySem.W.subIn K (.ref T) (.ref R) = some false
  TS : PySem.W.subIn K (.ref T) (.ref S) = some false
  RL : PySem.W.subIn K (.ref R) (.ref L) = some true
  SL : PySem.W.subIn K (.ref S) (.ref L) = some true
  TL : PySem.W.subIn K (.ref T) (.ref L) = some true
  nRS : (R == S) = false
  nRT : (R == T) = false
  nST : (S == T) = false
theorem kit_self (K : PySem.W.Frag) (D : Addr) : PySem.W.kitOne K (.ref D) (.ref D) = some true := by
  unfold PySem.W.kitOne
  rw [if_pos (by simp)]
theorem kit_other {K : PySem.W.Frag} {x : Str} {D C : Addr} (n : D ≠ C) (h : Err1 K x C) (hs : PySem.W.subIn K (.ref D) (.ref C) = some false) : PySem.W.kitOne K (.ref D) (.ref C) = some false := by
  obtain ⟨cd, hc, _⟩ := PySem.W.any_some h.d
  have e2 : ((PySem.W.clsIn K C).isSome && PySem.W.typeIn K (.ref C) == some (.type "type")) = true := by rw [hc, h.t] <;> rfl
  have e1 : ¬ ((Value.ref D == Value.ref C) = true) := fun z => n (Value.ref.inj (beq_iff_eq.mp z))
  unfold PySem.W.kitOne
  rw [if_neg e1]
  show (if ((PySem.W.clsIn K C).isSome && PySem.W.typeIn K (.ref C) == some (.type "type")) = true then PySem.W.subIn K (.ref D) (.ref C) else none) = _
  rw [if_pos e2]
  exact hs
theorem kit_val {K : PySem.W.Frag} {D : Addr} (hs : PySem.W.subIn K (.ref D) (.type "ValueError") = some true) : PySem.W.kitOne K (.ref D) (.type "ValueError") = some true := by
  unfold PySem.W.kitOne
  rw [if_neg (by simp)]
  show (if PySem.W.kitMeta "ValueError" = true then PySem.W.subIn K (.ref D) (.type "ValueError") else none) = _
  rw [if_pos (by decide +kernel)]
  exact hs
theorem Err1.c1 {K : PySem.W.Frag} {x : Str} {D R S T L : Addr} (h : Err1 K x D) (E : ErrIn K R S T L) : ExcC K D := ⟨h.a, h.b, h.s, h.d, h.c, E.n, E.k, h.m⟩
theorem ErrIn.word {K : PySem.W.Frag} {mg : Str → Option Value} {h : Heap} {cm : Str → Addr} {R S T L : Addr} (E : ErrIn K R S T L) (X : K.In h) (G : h.Ns mainGlobals mg) (eR : cm "NoRun" = R) (eS : cm "NoSign" = S) (eT : cm "NoText" = T) : WordOk K mg cm L := by
  subst eR eS eT
  have n1 : cm "NoRun" ≠ cm "NoSign" := by simpa using E.nRS
  have n2 : cm "NoRun" ≠ cm "NoText" := by simpa using E.nRT
  have n3 : cm "NoSign" ≠ cm "NoText" := by simpa using E.nST
  exact { cR := E.r.c1 E, cS := E.s.c1 E, cT := E.t.c1 E, gR := PySem.W.mg_of X G E.r.g, gS := PySem.W.mg_of X G E.s.g, gT := PySem.W.mg_of X G E.t.g, gL := PySem.W.mg_of X G E.l.g,
          RR := kit_self K _, RS := kit_other n1 E.s E.RS, RT := kit_other n2 E.t E.RT, SR := kit_other n1.symm E.r E.SR, SS := kit_self K _, ST := kit_other n3 E.t E.ST, TR := kit_other n2.symm E.r E.TR, TS := kit_other n3.symm E.s E.TS, TT := kit_self K _,
          vR := kit_val E.r.v, vS := kit_val E.s.v, vT := kit_val E.t.v,
          xR := PySem.W.exm_ref E.l.s E.l.d E.l.t E.RL, xS := PySem.W.exm_ref E.l.s E.l.d E.l.t E.SL, xT := PySem.W.exm_ref E.l.s E.l.d E.l.t E.TL }
end GL

/-! # The data layer: {k: v} -/
namespace GL
open PySem PySem.Spec PyProof.Rows L2
section
variable {X : Cx} {W : WX} {cm : Str → Addr} {ke ve : Expr} {f g : En → Res PyData} {pos pos' p' : Pos} {k i : Nat} {x : Str}
def tDnew1 (K : PySem.W.Frag) (P : Program) (w : World) (tk tv : TE) : TE := fun σ H Q => ∀ p, H p = none → (p == sysModules) = false → tk σ (upd H p (DctO P w p [])) fun y H2 => tv σ H2 fun v H3 => ∃ G kk a d, y = .ref a ∧ Same G H3 ∧ Dp K G (.ref a) (NestedKey.data kk) ∧ kk.depth ≤ 8 ∧ DctAt P w K G H3 p [] ∧ Dp K G v d ∧
  ∀ xs, Paired (fun (x : NestedKey × Addr × V) (y : NestedKey × PyData) => x.1 = y.1 ∧ x.1.depth ≤ 8 ∧ Dp K G (.ref x.2.1) x.1.data ∧ Dp K G x.2.2 y.2) xs (putD [] kk d) → Q (.ref p) (upd H3 p (DctO P w p xs))
theorem pe_dnew1 {tk tv : TE} (hr : Room k X.A) (hk : PE X ke tk) (hv : PE X ve tv) (hsh : (evalEachOpt [some ke] X.env).zip ((evalEach [ve] X.env).map fun v => do let x ← v; standAt pos; pure x) = [(some (eval ke X.env), (do let x ← eval ve X.env; standAt pos; pure x))] := by rfl) :
    PE X (.Dict [some ke] [ve] pos) (tDnew1 X.K X.prog X.w tk tv) := by
  refine ⟨fun pins s σ H Q I h => ?_⟩
  rw [arm_eval_Dict, hsh]
  have e := dictDisplay_pairs [(eval ke X.env, (do let x ← eval ve X.env; standAt pos; pure x))] (by simp) (by simp)
  simp only [List.map_cons, List.map_nil] at e
  rw [e]
  have hu := hr.units
  have hsm : (s.heap.objs.size == sysModules) = false := beq_eq_false_iff_ne.mpr (Ne.symm (Nat.ne_of_lt I.big))
  have hfree : H s.heap.objs.size = none := I.hok.fresh (Nat.le_refl _)
  refine wpAny_bind (wpAny_standAt (wpAny_bind (wpAny_subDictH (knd := nestedKind X.prog X.w) (show X.A.units + 8 < cLine by omega) (by simp) ?_)))
  have I1 := I.laid (a := s.heap.objs.size) (o := DctO X.prog X.w s.heap.objs.size []) (t' := s.toks) (h' := s.heap.push { cls := .type "dict", data := .dict #[] }) (fun _ _ z => Heap.get?_push_of_some _ z) (Nat.le_refl _)
    (dctO_new ⟨[], .nil, _, #[], 0, Heap.get?_push_size _ rfl, ⟨rfl, rfl, rfl⟩, rfl, rfl, List.nodup_nil⟩)
  refine evalPairs_cons (thn (hk.run pins _ σ _ _ I1 (h _ hfree hsm)) fun kv s1 ⟨y, H2, I2, ry, q2⟩ => ?_)
  refine wpAny_bind (thn (hv.run pins s1 σ H2 _ I2 q2) fun vv s2 ⟨v, H3, I3, rv, G, kk, a, d, ey, gh, dk, hd, D0, dv, q3⟩ => wpAny_bind (wpAny_standAt (wpAny_pure (evalPairs_nil ?_))))
  subst ey
  cases ry
  obtain ⟨xs, ys, hH, hsm', pr, pq, dd, ek⟩ := dct_raw I3 gh D0
  have exs : xs = [] := by cases pr; rfl
  subst exs
  have eys : ys = [] := by cases pq; rfl
  subst eys
  refine ⟨[(kk, a, vv)], ⟨rfl, rfl, (⟨nested_is I3 kk _ _ (dp_mono gh _ _ dk) rfl, hd⟩ : (nestedKind X.prog X.w).is _ kk a), trivial⟩, dd, fun h' tk dd' same => ?_⟩
  obtain ⟨o', es', ep', ho', hx', hd', he', _, nd'⟩ := dd'
  have R : RawD X.prog X.w h' s.heap.objs.size (storedX [] kk a v) := ⟨_, paired_stored .nil rv, o', es', ep', ho', hx', hd', he', nd'⟩
  refine wpAny_pure ⟨.ref _, _, I3.write (t' := _) (by rw [hH]; exact True.intro) (.inl rfl) (fun b u ne e => (same.2 b ne).trans e) ⟨o', ho'⟩ (dctO_new R), rfl, ?_⟩
  exact q3 _ (paired_put .nil hd dk dv)
/-- the key is evaluated first, then the value -/
def sDnew1 (i : Nat) (f g : En → Res PyData) : En → Out := fun env => .ofR (f env) env fun d => .ofR (keyQ d) env fun k => .ofR (g env) env fun v => .nx (env.set i (some (.dct (putD [] k v))))
theorem ds_dnew1 (i : Nat) (hN : X.N.Nodup) (hr : Room k X.A) (hk : DE X W cm ke f) (hv : DE X W cm ve g) (hi : X.N[i]? = some x := by rfl) (hx : Loc X.env.scope x := by first | exact Or.inl rfl | exact Or.inr rfl) (hs : swapsWith (.Dict [some ke] [ve] p') (some (.Name x pos')) pos.line X.env = pure false := by rfl)
    (hf : X.fn x = true ∨ X.env.scope.names.lookup x = some .local := by first | exact .inl rfl | exact .inr rfl | assumption)
    (hsh : (evalEachOpt [some ke] X.env).zip ((evalEach [ve] X.env).map fun v => do let x ← v; standAt p'; pure x) = [(some (eval ke X.env), (do let x ← eval ve X.env; standAt p'; pure x))] := by rfl) :
    DS X W cm (.Assign [.Name x pos'] (.Dict [some ke] [ve] p') pos) (sDnew1 i f g) := ps_imp (ps_set hN hi hx (pe_dnew1 hr hk hv hsh) hs hf) fun D σ H q => by
  obtain ⟨G0, H0, G, env, ok, q⟩ := q
  intro p hp sm
  have g0 := Grow.fresh (o := DctO X.prog X.w p []) ok.gh hp
  have ok1 := ok.grow g0
  refine tD.go ok1 (OutP.ofR ok1 (q.mono g0.g) fun d _ q1 y G1 H1 g1 ok2 dy => ?_)
  cases ek : keyQ d with
  | no => rw [ek] at q1; exact q1.elim
  | ex z => exact absurd ek (keyQ_never _ z)
  | ok kk =>
    rw [ek, ofR_ok] at q1
    refine tD.go ok2 (OutP.ofR ok2 (q1.mono g1.g) fun v _ q2 u G2 H2 g2 ok3 du => ?_)
    obtain ⟨e1, e2', ds, e3⟩ := keyQ_ok ek
    have dy' : Dp X.K G1 y kk.data := by rw [e1]; exact dy
    rw [e3] at dy
    obtain ⟨b, rfl⟩ : ∃ b, y = .ref b := by
      cases dy
      exact ⟨_, rfl⟩
    have hp2 : H2 p = some (DctO X.prog X.w p []) := g2.h _ _ (g1.h _ _ upd_same)
    have hg2 : G2 p = none := by
      rw [g2.old p (some_ne_none (g1.h _ _ (upd_same : upd H p (DctO X.prog X.w p []) p = _))), g1.old p (some_ne_none (upd_same : upd H p (DctO X.prog X.w p []) p = _))]
      exact ok.gh.free hp
    have h0 : H0 p = none := ok.gr.h.free hp
    refine ⟨G2, kk, b, v, rfl, ok3.gh, dp_mono g2.g _ _ dy', e2', ⟨[], hp2, sm, .nil⟩, du, fun xs pr => ?_⟩
    have gr : Grow G0 H0 G2 (upd H2 p (DctO X.prog X.w p xs)) := by
      have gg := ok3.gr
      exact ⟨fun a o z => by rw [upd_ne (show a ≠ p from fun e => by rw [e, h0] at z; cases z)]; exact gg.h a o z, gg.g, fun a o z => by rw [upd_ne (show a ≠ p from fun e => by rw [e, hg2] at z; cases z)]; exact gg.gh a o z, gg.old⟩
    have nof : ∀ {j : Nat} {t : SV} {v : V}, env[j]? = some (some t) → t.mu = true → σ[j]? = some (some v) → ¬ Fp H2 v p := fun h m e => ok.new ((same_new hp).trans (g1.h.trans g2.h)) hp h m e
    have ok4 : OkG X.prog X.w X.K G0 H0 G2 env σ (upd H2 p (DctO X.prog X.w p xs)) := by
      refine ⟨gr, ok3.len, fun j t ht => ?_, fun i j s t u v a h1 h2 m1 m2 e1 e2 f1 f2 => ?_⟩
      · obtain ⟨w1, hw, sl⟩ := ok3.sl j t ht
        refine ⟨w1, hw, sl.grow (Same.refl _) fun m q o f hq => ⟨?_, rfl⟩⟩
        rw [upd_ne (show q ≠ p from fun e => nof ht m hw (by rw [← e]; exact f))]
        exact hq
      · have back : ∀ {j : Nat} {t : SV} {v : V}, env[j]? = some (some t) → t.mu = true → σ[j]? = some (some v) → Fp (upd H2 p (DctO X.prog X.w p xs)) v a → Fp H2 v a := fun {j t v} h m e f => by
          obtain ⟨v', k1, k2⟩ := ok3.sl j t h
          rw [e] at k1
          cases k1
          exact k2.fpm m (fun q o eq hq => by
            rw [upd_ne (fun z => nof h m e (.inl (by rw [eq, z])))]
            exact hq) f
        exact ok3.ap i j s t u v a h1 h2 m1 m2 e1 e2 (back h1 m1 e1 f1) (back h2 m2 e2 f2)
    refine q2 G2 _ _ g2.g (ok4.put ⟨p, rfl, h0, hg2, xs, upd_same, sm, pr⟩ fun j t v a _ ht hm hv f1 f2 => ?_)
    have ea := fp_dct (upd_same : upd H2 p (DctO X.prog X.w p xs) p = _) f1
    subst ea
    obtain ⟨v', k1, k2⟩ := ok3.sl j t ht
    rw [hv] at k1
    cases k1
    exact nof ht hm hv (k2.fpm hm (fun q o eq hq => by
      rw [upd_ne (fun z => nof ht hm hv (.inl (by rw [eq, z])))]
      exact hq) f2)
@[simp] theorem sDnew1_e (env : En) : sDnew1 i f g env = .ofR (f env) env fun d => .ofR (keyQ d) env fun k => .ofR (g env) env fun v => .nx (env.set i (some (.dct (putD [] k v)))) := (rfl)
end
end GL

/-! # The data layer: enumerate over a text, a tuple -/
namespace GL
open PySem PySem.Spec PyProof.Rows L2
open AutoSeq1 (wpAny_loadPart')
/-- pairs of a number and an item, new ones at each turn -/
def ItE (go : Nat → Hp → Prop) (val : Nat → Hp → V → Prop) (stop : Nat → Hp → Prop) : It := ⟨go, fun i H v H' => ∃ T x, v = .ref T ∧ H T = none ∧ H' = upd H T (.tup [.int (i : Nat), x]) ∧ val i H x, stop⟩
section
variable {X : Cx} {pins : List (Addr × Obj)} {σ : L2.St} {H : Hp} {s : Shared} {E : Value → Shared → Prop} {elts : List Expr} {kk : Nat} {tpos : Pos} {e it : Addr} {fp : List Addr} {n i : Nat} {Pv : Nat → Value → Prop} {St : Nat → Heap → Prop} {old : Value}
theorem enum_item (I : Inv X pins σ H s) (D : Draws X.prog X.w X.A.in1 it fp n Pv St) (he : IsEnum s.heap e it ((i : Nat) : Int) old) (hst : St i s.heap) (hlt : i < n) (hne : e ≠ it) (hef : e ∉ fp) (hil : it < s.heap.objs.size) (f1 : FpOk X pins H e) (f2 : FpOk X pins H it) (val : V → Prop) (hv : ∀ u, Pv i u → ∃ x, RelV x u ∧ val x) :
    wpAny (model X.prog X.w) X.A (pyNext (.ref e)) (fun r s1 => ∃ u, r = some u ∧ wpAny (model X.prog X.w) X.A (letOwnedTupleGo (.Tuple elts kk tpos) (.ref e) u)
      (fun _ s2 => ∃ x H', Inv X pins σ H' s2 ∧ RelV x u ∧ (∃ T y, x = .ref T ∧ H T = none ∧ H' = upd H T (.tup [.int (i : Nat), y]) ∧ val y) ∧ (∃ old', IsEnum s2.heap e it (((i + 1 : Nat) : Nat) : Int) old') ∧ St (i + 1) s2.heap ∧ H' e = none ∧ H' it = none) E s1) E s := by
  have hel : e < s.heap.objs.size := Heap.lt_size he
  refine wpAny_pyNext_enum_itemD D he hst hlt hne hef fun u h1 tk pu ho st1 hT hsz hk => ⟨_, rfl, ?_⟩
  refine wpAny_letOwnedTupleGo_enum (s := { s with heap := h1, toks := tk + 1 }) ho fun h2 he2 sb => ?_
  obtain ⟨y, ry, vy⟩ := hv u pu
  have ne1 : s.heap.objs.size ≠ e := Nat.ne_of_gt hel
  have hT2 := (sb.2 _ ne1).trans hT
  have new : ObjOk X.prog X.w (upd H s.heap.objs.size (.tup [.int (i : Nat), y])) h2 s.heap.objs.size (.tup [.int (i : Nat), y]) := by
    refine ⟨?_, [.int i tk, u], .cons ⟨_, rfl⟩ (.cons ry .nil), _, hT2, rfl, _, rfl⟩
    show 2 ≤ sizeLine
    decide
  have kp : ∀ b o, b ∉ [e, it] → s.heap.get? b = some o → h2.get? b = some o := fun b o hb q => by
    have b1 : b ≠ e := fun z => hb (by simp [z])
    have b2 : b ≠ it := fun z => hb (by simp [z])
    exact (sb.2 b b1).trans (hk b o b1 b2 q)
  have J : Inv X pins σ (upd H s.heap.objs.size (.tup [.int (i : Nat), y])) { s with heap := h2, toks := tk + 1 } := I.turnedNew kp (fun b hb => by
    rcases List.mem_cons.mp hb with z | z
    · rw [z]; exact f1
    · rw [List.mem_singleton.mp z]; exact f2) (Nat.le_refl _) new
  have fr : H s.heap.objs.size = none := I.hok.fresh (Nat.le_refl _)
  refine ⟨.ref s.heap.objs.size, _, J, rfl, ⟨_, y, rfl, fr, rfl, vy⟩, ⟨u, ?_⟩, ?_, ?_, ?_⟩
  · rw [show (((i + 1 : Nat) : Nat) : Int) = (i : Int) + 1 by omega]
    exact he2
  · exact D.frame _ _ _ st1 fun b hb o q => (sb.2 b fun z => hef (z ▸ hb)).trans q
  · rw [upd_ne (Nat.ne_of_lt hel)]; exact f1.1
  · rw [upd_ne (Nat.ne_of_lt hil)]; exact f2.1
theorem enum_done (I : Inv X pins σ H s) (D : Draws X.prog X.w X.A.in1 it fp i Pv St) (he : IsEnum s.heap e it ((i : Nat) : Int) old) (hst : St i s.heap) (f2 : FpOk X pins H it) :
    wpAny (model X.prog X.w) X.A (pyNext (.ref e)) (fun r s1 => r = none ∧ Inv X pins σ H s1) E s := by
  obtain ⟨q0, q1, q2, q3, q4, q5⟩ := f2
  exact wpAny_pyNext_enum_endD D he hst fun h' eb => ⟨rfl, I.turned (t' := s.toks) (fun b o hb q => eb b o hb q) q0 q1 q3 q4 q5⟩
end
/-! ### a text -/
def ItES (z : Str) : It := ItE (fun i _ => i < z.cps.size) (fun i _ x => ∃ c, z.cps[i]? = some c ∧ x = .str ⟨#[c]⟩) (fun i _ => z.cps.size ≤ i)
theorem two_mem {b e it : Addr} (h : b ∈ [e, it]) : b = e ∨ b = it := by simpa using h
theorem turnES {P : Program} {w : World} {K : PySem.W.Frag} {elts : List Expr} {kk : Nat} {tpos : Pos} (z : Str) (t : Tok) (e it : Addr) :
    Turn P w K (.Tuple elts kk tpos) (ItES z) [e, it] e (fun i h => (∃ old, IsEnum h e it ((i : Nat) : Int) old) ∧ h.IsStrIter it (strIterType z) z t i ∧ e ≠ it ∧ i ≤ z.cps.size) where
  mem := List.mem_cons_self
  obj := fun i h st b hb => by
    obtain ⟨⟨old, he⟩, ⟨o, ho, hc, hd⟩, _⟩ := st
    rcases two_mem hb with rfl | rfl
    · exact ⟨_, he, fun v q => nomatch q⟩
    · exact ⟨o, ho, fun v q => by rw [hd] at q; cases q⟩
  keep := fun i h h' st k => by
    obtain ⟨⟨old, he⟩, ⟨o, ho, hc, hd⟩, hne, hi⟩ := st
    exact ⟨⟨old, k e (by simp) _ he⟩, ⟨o, k it (by simp) _ ho, hc, hd⟩, hne, hi⟩
  item := by
    intro X hP hw hK hc i pins s σ H E I hf st hg
    subst hP hw hK
    obtain ⟨⟨old, he⟩, hit, hne, hi⟩ := st
    have hil : it < s.heap.objs.size := by obtain ⟨_, q, _⟩ := hit; exact Heap.lt_size q
    have D := Draws.text (prog := X.prog) (w := X.w) (A := X.A.in1) (I.ok.hd hc) it z t
    refine thn (enum_item (E := E) I D he hit hg hne (by simpa using hne) hil (hf e (by simp)) (hf it (by simp)) (fun x => ∃ c, z.cps[i]? = some c ∧ x = .str ⟨#[c]⟩) fun u ⟨c, tk, h1, h2⟩ => ⟨.str ⟨#[c]⟩, ⟨tk, h2⟩, c, h1, rfl⟩) fun r s1 ⟨u, hr, h⟩ => ⟨u, hr, thn h fun _ s2 hh => ?_⟩
    obtain ⟨x, H', J, rx, q, en, st, n1, n2⟩ := hh
    refine ⟨x, H', J, rx, q, ⟨en, st, hne, hg⟩, fun b hb => ?_⟩
    rcases two_mem hb with rfl | rfl
    · exact n1
    · exact n2
  done := by
    intro X hP hw hK hc i pins s σ H E I hf st hg
    subst hP hw hK
    obtain ⟨⟨old, he⟩, hit, hne, hi⟩ := st
    have D := Draws.text (prog := X.prog) (w := X.w) (A := X.A.in1) (I.ok.hd hc) it z t
    have ei : z.cps.size = i := Nat.le_antisymm hg hi
    rw [ei] at D
    exact enum_done I D he hit (hf it (by simp))
  self := fun A i s Q E st h => wpAny_pyIter_enum st.1.choose_spec h
/-! ### a tuple -/
def ItET (K : PySem.W.Frag) (a : Addr) : It := ItE (fun i H => ∃ (xs : List V) (x : V), SqT K H a xs ∧ xs[i]? = some x) (fun i H x => ∀ xs, SqT K H a xs → xs[i]? = some x) (fun i H => ∃ xs : List V, SqT K H a xs ∧ xs.length ≤ i)
theorem meets_enumT (l : Addr) (items : Array Value) (n : Nat) (dct : Option Addr) (sl : Array (Option Value)) :
    Meets (Builtin.«enumerate.__new__» ⟨[.type "enumerate", .ref l], []⟩) (fun _ R s => s.heap.get? l = some { cls := .type "tuple", dict := dct, data := .seq items n, slots := sl } ∧
      R (.ok (.ret (.ref (s.heap.push { cls := .type "tuple_iterator", data := .fields #[.ref l, .int 0 0] }).objs.size)))
        { s with heap := (s.heap.push { cls := .type "tuple_iterator", data := .fields #[.ref l, .int 0 0] }).push { cls := .type "enumerate", data := .fields #[.none, .bool false, .ref s.heap.objs.size, rawInt 0, .none, .none] } }) :=
  .of_wp fun prog w A R s h => by
    rcases s with ⟨hp, g, d, tk, os⟩
    rcases h with ⟨hl, h⟩
    have hsub := sub_enumerate
    have hL : Heap.IsTuple (Shared.heap ⟨hp, g, d, tk, os⟩) l items := ⟨_, hl, rfl, n, rfl⟩
    wp_walk using wpAny_loadPart' hl
    refine wpAny_stack_any fun st => wpAny_pure ?_
    split
    · rename_i c _ _ _ _ _
      cases (c == Value.type "enumerate") <;> (wp_walk using wpAny_loadPart' hl, wpAny_pyIter_tuple hL; exact ⟨_, rfl, h⟩)
    · wp_walk using wpAny_loadPart' hl, wpAny_pyIter_tuple hL
      exact ⟨_, rfl, h⟩
section
variable {prog : Program} {w : World} {A : Around} {E : Value → Shared → Prop} {s : Shared}
theorem call_enumT {l : Addr} {items : Array Value} {Q : Value → Shared → Prop} (hL : s.heap.IsTuple l items)
    (h : ∀ h', IsEnum h' (s.heap.objs.size + 1) s.heap.objs.size 0 .none → h'.IsTupleIter s.heap.objs.size l 0 → (∀ b o, s.heap.get? b = some o → h'.get? b = some o) → Q (.ref (s.heap.objs.size + 1)) { s with heap := h' }) :
    wpAny (model prog w) A (call (.type "enumerate") [.ref l]) Q E s := by
  obtain ⟨⟨k1, k2, k3, k4⟩, hl, hc, n, hd⟩ := hL
  simp only at hc hd
  subst hc
  subst hd
  have hz := Heap.size_push s.heap { cls := .type "tuple_iterator", data := .fields #[.ref l, .int 0 0] }
  refine callType_new F.called_enumerate (by decide) (F.typeCall_enumerate_1 _) (F.newCall_enumerate_1 _) (fun obj => F.args_object_init_2 obj _) F.entry_enumerate_new (meets_enumT l items n k2 k4) ⟨hl, ?_⟩
  show _ ∧ _
  rw [hz]
  have he := Heap.get?_push_size (s.heap.push { cls := .type "tuple_iterator", data := .fields #[.ref l, .int 0 0] }) (o := { cls := .type "enumerate", data := .fields #[.none, .bool false, .ref s.heap.objs.size, rawInt 0, .none, .none] }) rfl
  rw [hz] at he
  exact ⟨⟨_, he, rfl⟩, h _ he ⟨_, Heap.get?_push_of_some _ (Heap.get?_push_size _ rfl), rfl, rfl⟩ fun b o q => Heap.get?_push_of_some _ (Heap.get?_push_of_some _ q)⟩
end
theorem turnET {P : Program} {w : World} {K : PySem.W.Frag} {elts : List Expr} {kk : Nat} {tpos : Pos} (a e it : Addr) :
    Turn P w K (.Tuple elts kk tpos) (ItET K a) [e, it] e (fun i h => (∃ old, IsEnum h e it ((i : Nat) : Int) old) ∧ h.IsTupleIter it a i ∧ e ≠ it) where
  mem := List.mem_cons_self
  obj := fun i h st b hb => by
    obtain ⟨⟨old, he⟩, ⟨o, ho, hc, hd⟩, _⟩ := st
    rcases two_mem hb with rfl | rfl
    · exact ⟨_, he, fun v q => nomatch q⟩
    · exact ⟨o, ho, fun v q => by rw [hd] at q; cases q⟩
  keep := fun i h h' st k => by
    obtain ⟨⟨old, he⟩, ⟨o, ho, hc, hd⟩, hne⟩ := st
    exact ⟨⟨old, k e (by simp) _ he⟩, ⟨o, k it (by simp) _ ho, hc, hd⟩, hne⟩
  item := by
    intro X hP hw hK hc i pins s σ H E I hf st hg
    subst hP hw hK
    obtain ⟨⟨old, he⟩, hit, hne⟩ := st
    obtain ⟨xs, x, hq, hx⟩ := hg
    obtain ⟨its, rv, pl, hz⟩ := I.tuple hq
    obtain ⟨u, hu, ru⟩ := rv.get hx
    have hil : it < s.heap.objs.size := by obtain ⟨_, q, _⟩ := hit; exact Heap.lt_size q
    obtain ⟨ot, hot, hct, nt, hdt⟩ := id pl
    have ne1 : a ≠ it := fun z => by
      obtain ⟨o, ho, hc', _⟩ := hit
      rw [z, ho] at hot
      cases hot
      rw [hct] at hc'
      exact absurd (Value.type.inj hc') (by decide)
    have ne2 : e ≠ a := fun z => by
      have he' : s.heap.get? e = _ := he
      rw [z, hot] at he'
      cases he'
      exact absurd (Value.type.inj hct) (by decide)
    have D := Draws.tuple (prog := X.prog) (w := X.w) (A := X.A.in1) (I.ok.hd hc) it a ne1 its.toArray
    have hlt : i < its.toArray.size := by simpa using (List.getElem?_eq_some_iff.mp hu).1
    refine thn (enum_item (E := E) I D he ⟨hit, pl⟩ hlt hne (by simp [hne, ne2]) hil (hf e (by simp)) (hf it (by simp)) (fun y => ∀ xs, SqT X.K H a xs → xs[i]? = some y) fun u' hu' => ?_) fun r s1 ⟨u, hr, h⟩ => ⟨u, hr, thn h fun _ s2 hh => ?_⟩
    · have eu : u' = u := by
        have hu' : its.toArray[i]? = some u' := hu'
        rw [List.getElem?_toArray, hu] at hu'
        exact (Option.some.inj hu').symm
      subst eu
      refine ⟨x, ru, fun ys hy => ?_⟩
      rw [I.tuple_inj hy hq]
      exact hx
    · obtain ⟨x, H', J, rx, q, en, st, n1, n2⟩ := hh
      refine ⟨x, H', J, rx, q, ⟨en, st.1, hne⟩, fun b hb => ?_⟩
      rcases two_mem hb with rfl | rfl
      · exact n1
      · exact n2
  done := by
    intro X hP hw hK hc i pins s σ H E I hf st hg
    subst hP hw hK
    obtain ⟨⟨old, he⟩, hit, hne⟩ := st
    obtain ⟨xs, hq, hx⟩ := hg
    obtain ⟨its, rv, pl, hz⟩ := I.tuple hq
    have hl := rv.length
    have hnone : its.toArray[i]? = none := by
      rw [List.getElem?_toArray]
      exact List.getElem?_eq_none (by omega)
    have D : Draws X.prog X.w X.A.in1 it [it, a] i (fun _ _ => True) (fun j h => j = i ∧ h.IsTupleIter it a i ∧ h.IsTuple a its.toArray) :=
      ⟨fun _ _ st => by obtain ⟨o, ho, _⟩ := st.2.1; exact ⟨o, ho⟩, fun _ _ _ st hk => ⟨st.1, st.2.1.at fun o q => hk it (by simp) o q, st.2.2.at fun o q => hk a (by simp) o q⟩, fun j s Q E hj st _ => absurd st.1 (Nat.ne_of_lt hj), fun s Q E st hE => wpAny_nextOf_tuple_end (I.ok.hd hc) st.2.1 st.2.2 hnone hE⟩
    exact enum_done I D he ⟨rfl, hit, pl⟩ (hf it (by simp))
  self := fun A i s Q E st h => wpAny_pyIter_enum st.1.choose_spec h
/-! ### enumerate(d) -/
def enumL : Nat → List PyData → List PyData
  | _, [] => []
  | i, d :: ds => .tuple [.int (i : Int), d] :: enumL (i + 1) ds
theorem enumL_length : ∀ (i : Nat) (ds : List PyData), (enumL i ds).length = ds.length
  | _, [] => rfl
  | i, d :: ds => by show (enumL (i + 1) ds).length + 1 = ds.length + 1; rw [enumL_length]
theorem enumL_get : ∀ (ds : List PyData) (k i : Nat), (enumL k ds)[i]? = (ds[i]?).map fun d => .tuple [.int ((k + i : Nat) : Int), d]
  | [], k, i => by simp [enumL]
  | d :: ds, k, 0 => rfl
  | d :: ds, k, i + 1 => by
    show (enumL (k + 1) ds)[i]? = _
    rw [enumL_get ds (k + 1) i, show k + 1 + i = k + (i + 1) by omega]
    rfl
def enumD : PyData → Res (List PyData)
  | .str z => if z.length ≤ sizeLine then .ok (enumL 0 (signsD z)) else .no
  | .tuple ds => if ds.length ≤ sizeLine then .ok (enumL 0 ds) else .no
  | _ => .no
theorem enumD_never (d : PyData) : Never (enumD d) := by
  unfold enumD
  split <;> first | exact never_no | exact never_ite (never_ok _) never_no
def fEnum (f : En → Res PyData) : En → Res (List PyData) := fun env => (f env).bind enumD
theorem itD_enum {K : PySem.W.Frag} {G1 B : Hp} {ds : List PyData} {go : Nat → Hp → Prop} {val : Nat → Hp → V → Prop} {stop : Nat → Hp → Prop}
    (hg : ∀ i G H, Same G1 G → Same B H → Same G H → ∀ d, ds[i]? = some d → go i H ∧ ∀ y, val i H y → Dp K G y d) (hs : ∀ i G H, Same G1 G → Same B H → Same G H → ds.length ≤ i → stop i H) : ItD K (ItE go val stop) B G1 (enumL 0 ds) := fun i G H g b gh => by
  refine ⟨fun d hd => ?_, fun hl => hs i G H g b gh (by rw [enumL_length] at hl; exact hl)⟩
  rw [enumL_get] at hd
  obtain ⟨d0, h0, rfl⟩ := Option.map_eq_some_iff.mp hd
  obtain ⟨h1, h2⟩ := hg i G H g b gh d0 h0
  refine ⟨h1, fun x H' y => ?_⟩
  obtain ⟨T, v, rfl, hT, rfl, hv⟩ := y
  refine ⟨upd G T (.tup [.int (i : Nat), v]), Grow.still gh hT, .tup (.inl (.inl upd_same)) (.cons ?_ (.cons (dp_mono (same_new (gh.free hT)) _ _ (h2 v hv)) .nil))⟩
  rw [Nat.zero_add]
  exact .int _
section
variable {X : Cx} {W : WX} {cm : Str → Addr} {e : Expr} {p pos tpos : Pos} {elts : List Expr} {kk : Nat}
theorem pi_enumA {ta : TA} (hg : Gl X "enumerate") (hm : X.mg "enumerate" = none) (ha : PA X [e] ta) (hs : starEach [e] X.env = [(false, eval e X.env)] := by rfl) :
    PI X (.Tuple elts kk tpos) (.Call (.Name "enumerate" p) [e] [] pos) (fun σ H R => ta σ H fun vs H1 => (∃ z, vs = [.str z] ∧ R (ItES z) H1) ∨ ∃ a xs, vs = [.ref a] ∧ SqT X.K H1 a xs ∧ R (ItET X.K a) H1) := by
  refine ⟨fun pins s σ H R I h => ?_⟩
  refine Call_ (ld_blt I hg hm boot_enumerate (PyProof.Rows.callWith_type1 (thn (ha.run pos pins s σ H _ I h) fun us s1 ⟨vs, H1, I1, r1, q1⟩ => ?_) hs rfl))
  have fpk : ∀ b ∈ [s1.heap.objs.size + 1, s1.heap.objs.size], FpOk X pins H1 b := fun b hb => by
    have hle : s1.heap.objs.size ≤ b := by
      rcases two_mem hb with z | z <;> rw [z] <;> omega
    exact I1.fpOk hle (I1.hok.fresh hle)
  rcases q1 with ⟨z, rfl, q⟩ | ⟨a, xs, rfl, hq, q⟩
  · cases r1 with
    | cons r rr =>
      cases rr
      obtain ⟨t, ht⟩ := r
      subst ht
      refine call_enumerate_str fun h' he hit hsz hk => wpAny_pyIter_enum he ?_
      exact ⟨s1.heap.objs.size + 1, _, _, _, H1, rfl, I1.kept (t' := s1.toks) hk, turnES z t (s1.heap.objs.size + 1) s1.heap.objs.size, ⟨⟨.none, he⟩, hit, Nat.succ_ne_self _, Nat.zero_le _⟩, fpk, q⟩
  · cases r1 with
    | cons r rr =>
      cases rr
      cases r
      obtain ⟨its, rv, pl, hz⟩ := I1.tuple hq
      refine call_enumT pl fun h' he hit hk => wpAny_pyIter_enum he ?_
      exact ⟨s1.heap.objs.size + 1, _, _, _, H1, rfl, I1.kept (t' := s1.toks) hk, turnET a (s1.heap.objs.size + 1) s1.heap.objs.size, ⟨⟨.none, he⟩, hit, Nat.succ_ne_self _⟩, fpk, q⟩
theorem df_enum (T : Blt X.mg) {f : En → Res PyData} (ha : DE X W cm e f) (hg : Gl X "enumerate" := by rfl) (hs : starEach [e] X.env = [(false, eval e X.env)] := by rfl) : DF X W cm (.Tuple elts kk tpos) (.Call (.Name "enumerate" p) [e] [] pos) (fEnum f) :=
  pi_imp (pi_enumA hg T.enumerate (da_cons ha da_nil hs) hs) fun σ H R q => by
    obtain ⟨G0, H0, G, env, ok, q⟩ := q
    have q1 : (fCons f fNil env).sat (fun ds => ∀ vs G' H', Grow G H G' H' → OkG X.prog X.w X.K G0 H0 G' env σ H' → DpAll X.K G' vs ds → (∃ z, vs = [.str z] ∧ R (ItES z) H') ∨ ∃ a xs, vs = [.ref a] ∧ SqT X.K H' a xs ∧ R (ItET X.K a) H') (exP W cm σ G H) := by
      unfold fCons fNil
      refine Res.sat_bind.mpr ((Res.sat_bind.mp q).imp (fun d _ k => ?_) fun _ z => z)
      intro vs G' H' g ok' da
      match vs, da with
      | [v], .cons d1 .nil =>
        obtain ⟨r, er, k⟩ := sat_ok (enumD_never d) k
        cases d with
        | str z =>
          cases d1
          obtain ⟨hl, rfl⟩ := ok_of_ite (show (if z.length ≤ sizeLine then Res.ok (enumL 0 (signsD z)) else Res.no) = Res.ok r from er)
          refine .inl ⟨z, rfl, k _ G' H' g (itD_enum (fun i G2 H2 _ _ _ d hd => ?_) fun i _ _ _ _ _ hle => ?_) ?_⟩
          · unfold signsD at hd
            rw [List.getElem?_map, Array.getElem?_toList] at hd
            cases hc : z.cps[i]? with
            | none => rw [hc] at hd; cases hd
            | some c =>
              rw [hc] at hd
              cases hd
              refine ⟨(Array.getElem?_eq_some_iff.mp hc).1, fun y hy => ?_⟩
              obtain ⟨c', hc', rfl⟩ := hy
              cases hc'
              exact .str _
          · unfold signsD at hle
            rw [List.length_map, Array.length_toList] at hle
            exact hle
          · rw [enumL_length]
            unfold signsD
            rw [List.length_map, Array.length_toList]
            exact hl
        | tuple ds =>
          obtain ⟨hl, rfl⟩ := ok_of_ite (show (if ds.length ≤ sizeLine then Res.ok (enumL 0 ds) else Res.no) = Res.ok r from er)
          cases d1 with
          | tup hs' ha' =>
            refine .inr ⟨_, _, rfl, same_t ok'.gh hs', k _ G' H' g (itD_enum (fun i G2 H2 g2 b2 gh2 d hd => ?_) fun i _ H2 _ b2 _ hle => ⟨_, same_t b2 hs', by rw [dpAll_length ha']; exact hle⟩) (by rw [enumL_length]; exact hl)⟩
            obtain ⟨v, hv, dv⟩ := dpAll_get ha' hd
            exact ⟨⟨_, v, same_t b2 hs', hv⟩, fun y hy => by
              have := hy _ (same_t b2 hs')
              rw [hv] at this
              cases this
              exact dp_mono g2 _ _ dv⟩
        | _ => cases er
    exact tA.go ok (q1.imp (fun ds _ k vs G' H' g ok' da => k vs G' H' g ok' da) fun _ z => z)
end
@[simp] theorem fEnum_e (f : En → Res PyData) (env : En) : fEnum f env = (f env).bind enumD := (rfl)
@[simp] theorem enumD_tup (ds : List PyData) : enumD (.tuple ds) = if ds.length ≤ sizeLine then .ok (enumL 0 ds) else .no := (rfl)
end GL

/-! # The data layer: list + list, list * int, [::-1] -/
namespace GL
open PySem PySem.Spec PyProof.Rows L2
/-- a list that stands in the heap by itself: a name of one's own, a new one -/
def tR (P : Program) (w : World) (K : PySem.W.Frag) (W : WX) (cm : Str → Addr) (f : En → Res (List PyData)) : TE := fun σ H Q => ∃ G0 H0 G env, OkG P w K G0 H0 G env σ H ∧ (f env).sat (fun ds => ∀ p vs G' H', Grow G H G' H' → H' p = some (.lst vs) → DpAll K G' vs ds → Q (.ref p) H') (exP W cm σ G H)
abbrev DR (X : Cx) (W : WX) (cm : Str → Addr) (e : Expr) (f : En → Res (List PyData)) : Prop := PE X e (tR X.prog X.w X.K W cm f)
def fRV (i : Nat) : En → Res (List PyData) := fun env => match env[i]? with
  | some (some (.own ds)) => .ok ds
  | _ => .no
def catD (ds es : List PyData) : Res (List PyData) := if ds.length + es.length ≤ sizeLine then .ok (ds ++ es) else .no
def cat2 (q r : Bool × List PyData) : Res (List PyData) := if (q.1 || r.1) = true then .no else catD q.2 r.2
def fCat (f g : En → Res (Bool × List PyData)) : En → Res (List PyData) := fun env => (f env).bind fun q => (g env).bind fun r => cat2 q r
def repD (ds : List PyData) (d : PyData) : Res (List PyData) := match d with
  | .int k => if -(2 ^ 62) ≤ k ∧ k < 2 ^ 62 ∧ ds.length * k.toNat ≤ sizeLine then .ok (List.replicate k.toNat ds).flatten else .no
  | _ => .no
def fRepL (f : En → Res (List PyData)) (g : En → Res PyData) : En → Res (List PyData) := fun env => (f env).bind fun ds => (g env).bind fun d => repD ds d
theorem repD_never (ds : List PyData) (d : PyData) : Never (repD ds d) := by
  unfold repD
  split <;> first | exact never_no | exact never_ite (never_ok _) never_no
section
variable {X : Cx} {W : WX} {cm : Str → Addr} {a b e : Expr} {f g : En → Res (List PyData)} {fd : En → Res PyData} {pos : Pos}
theorem tR.go {P : Program} {w : World} {K : PySem.W.Frag} {G0 H0 G H : Hp} {env : En} {σ : L2.St} {f : En → Res (List PyData)} {Q : VK} (ok : OkG P w K G0 H0 G env σ H) (h : (f env).sat (fun ds => ∀ p vs G' H', Grow G H G' H' → OkG P w K G0 H0 G' env σ H' → H' p = some (.lst vs) → DpAll K G' vs ds → Q (.ref p) H') (exP W cm σ G H)) : tR P w K W cm f σ H Q :=
  ⟨G0, H0, G, env, ok, h.imp (fun _ _ q p vs G' H' g s dp => q p vs G' H' g (ok.grow g) s dp) fun _ q => q⟩
theorem dr_v (i : Nat) {x : Str} {pos : Pos} (hN : X.N[i]? = some x := by rfl) (hv : Vis X.env.scope x := by first | exact Or.inl rfl | exact Or.inr (Or.inl rfl) | exact Or.inr (Or.inr rfl)) (hd : (x == ("__debug__" : Str)) = false := by decide) (hcd : (x == ("__classdict__" : Str)) = false := by decide) : DR X W cm (.Name x pos) (fRV i) :=
  pe_imp (pe_var hN hv hd hcd) fun σ H Q h => by
    obtain ⟨G0, H0, G, env, ok, h⟩ := h
    unfold fRV at h
    split at h
    · rename_i ds hi
      obtain ⟨v, hv, p, vs, rfl, _, _, hh, da⟩ := ok.sl i _ hi
      exact ⟨_, hv, h p vs G H (Grow.refl ok.gh) hh da⟩
    · exact h.elim
theorem dr_l (h : DL X W cm e f) : DR X W cm e f := pe_imp h fun σ H Q q => by
  obtain ⟨G0, H0, G, env, ok, q⟩ := q
  exact tL.go ok (q.imp (fun ds _ k p vs G' H' g _ _ _ h3 da => k p vs G' H' g h3 da) fun _ z => z)
theorem op_catQ : OpR X (binaryOp .Add) (fun x y H Q => ∃ l m xs zs, x = .ref l ∧ y = .ref m ∧ SqL X.K H l xs ∧ SqL X.K H m zs ∧ xs.length + zs.length ≤ sizeLine ∧ ∀ p, H p = none → Q (.ref p) (upd H p (.lst (xs ++ zs)))) := by
  intro pins s σ H x y v u Q I rx ry h
  obtain ⟨l, m, xs, zs, rfl, rfl, h1, h2, hz, q⟩ := h
  cases rx
  cases ry
  obtain ⟨its, r1, p1, z1⟩ := I.list h1
  obtain ⟨jts, r2, p2, z2⟩ := I.list h2
  obtain ⟨⟨c1, d1, t1, s1⟩, o1, e1, n1, f1⟩ := p1.isList
  obtain ⟨⟨c2, d2, t2, s2⟩, o2, e2, n2, f2⟩ := p2.isList
  simp only at e1 f1 e2 f2
  subst e1
  subst f1
  subst e2
  subst f2
  have hl1 := r1.length
  have hl2 := r2.length
  have ea : its.toArray ++ jts.toArray = (its ++ jts).toArray := by simp
  refine concat_meets ⟨_, o1, rfl⟩ ⟨_, o2, rfl⟩ noFill_list_add seq_list_add PySem.F.slot_list_add PySem.F.entry_list_add (PySem.F.args_list_add_2 _ _) (list_addW l m its.toArray jts.toArray n1 n2 d1 d2 s1 s2 (by rw [List.size_toArray, List.size_toArray]; omega)) ⟨o1, o2, ?_⟩
  rw [ea]
  exact ⟨.ref _, _, I.lnew (t' := s.toks) (r1.append r2) (by rw [List.length_append]; omega), rfl, q _ I.fresh⟩
theorem dl_cat {fa fb : En → Res (Bool × List PyData)} (ha : DQ X W cm a fa) (hb : DQ X W cm b fb) : DL X W cm (.BinOp a .Add b pos) (fCat fa fb) := pe_imp (pe_op op_catQ ha hb) fun σ H Q q => by
  obtain ⟨G0, H0, G, env, ok, q⟩ := q
  refine tQ.go ok ((Res.sat_bind.mp q).imp (fun q1 _ k p vs G1 H1 g1 ok1 h1 da => ?_) fun _ z => z)
  refine tQ.go ok1 ((Res.sat_bind.mp k).imp (fun q2 _ k2 p2 ws G2 H2 g2 ok2 h2 db => ?_) fun _ z => z.grow g1)
  obtain ⟨b1, ds⟩ := q1
  obtain ⟨b2, es⟩ := q2
  unfold cat2 catD at k2
  cases b1 with
  | true => exact k2.elim
  | false =>
    cases b2 with
    | true => exact k2.elim
    | false =>
      simp only [Bool.or_false, if_neg Bool.false_ne_true] at k2
      split at k2
      · rename_i hl
        refine ⟨p, p2, vs, ws, rfl, rfl, g2.h.seq h1.l, h2.l, by rw [dpAll_length da, dpAll_length db]; exact hl, fun p3 hp => ?_⟩
        exact k2 p3 _ G2 _ ((g1.trans g2).trans (Grow.fresh ok2.gh hp)) ((g1.trans g2).h.free hp) (ok2.gh.free hp) upd_same (dpAll_app (dpAll_mono g2.g _ _ da) db)
      · exact k2.elim
theorem dl_repL (ha : DR X W cm a f) (hb : DE X W cm b fd) : DL X W cm (.BinOp a .Mult b pos) (fRepL f fd) := pe_imp (pe_op op_rep ha hb) fun σ H Q q => by
  obtain ⟨G0, H0, G, env, ok, q⟩ := q
  refine tR.go ok ((Res.sat_bind.mp q).imp (fun ds _ k p vs G1 H1 g1 ok1 h1 da => ?_) fun _ z => z)
  refine tD.go ok1 ((Res.sat_bind.mp k).imp (fun d _ k2 v G2 H2 g2 ok2 dv => ?_) fun _ z => z.grow g1)
  obtain ⟨r, er, k3⟩ := sat_ok (repD_never ds d) k2
  cases d with
  | int i =>
    cases dv
    obtain ⟨hl, rfl⟩ := ok_of_ite (show (if -(2 ^ 62) ≤ i ∧ i < 2 ^ 62 ∧ ds.length * i.toNat ≤ sizeLine then Res.ok (List.replicate i.toNat ds).flatten else Res.no) = Res.ok r from er)
    refine ⟨p, i, vs, rfl, rfl, g2.h _ _ h1, by omega, by omega, by rw [dpAll_length da]; exact hl.2.2, fun p3 hp => ?_⟩
    exact k3 p3 _ G2 _ ((g1.trans g2).trans (Grow.fresh ok2.gh hp)) ((g1.trans g2).h.free hp) (ok2.gh.free hp) upd_same (dpAll_rep (dpAll_mono g2.g _ _ da) _)
  | _ => cases er
/-! ### [::-1] -/
def fRevL (f : En → Res (Bool × List PyData)) : En → Res (List PyData) := fun env => (f env).bind fun q => if q.1 then .no else .ok q.2.reverse
theorem dl_revL {fq : En → Res (Bool × List PyData)} {k : Nat} {p1 p2 p3 : Pos} (h : DQ X W cm e fq) : DL X W cm (.Subscript e (.Slice none none (some (.UnaryOp .USub (.Constant (.int 1) k p1) p2)) p3) pos) (fRevL fq) := pe_imp (pe_revL h) fun σ H Q q => by
  obtain ⟨G0, H0, G, env, ok, q⟩ := q
  refine tQ.go ok ((Res.sat_bind.mp q).imp (fun qq _ k a vs G1 H1 g1 ok1 hs da => ?_) fun _ z => z)
  obtain ⟨b, ds⟩ := qq
  cases b with
  | true => exact k.elim
  | false => exact ⟨a, vs, rfl, hs.l, fun p hp => k p _ G1 _ (g1.trans (Grow.fresh ok1.gh hp)) (g1.h.free hp) (ok1.gh.free hp) upd_same (dpAll_rev da)⟩
def revS (z : Str) : Str := ⟨z.cps.toList.reverse.toArray⟩
theorem picked_rev (z : Str) (t : Tok) : slicePicked z none none (some (-1, t)) = (List.range z.cps.size).map fun k => z.cps.size - 1 - k := by
  show Builtin.Str.strSliceIndices none none (-1) z.length = _
  exact PySem.W.krv_sliceRange z.cps.size
theorem made_rev (z : Str) (t u : Tok) : sliceMade z t none none (some (-1, u)) = .str (revS z) := by
  unfold sliceMade
  rw [if_neg (by simp), picked_rev]
  refine congrArg Made.str (congrArg Str.mk (congrArg List.toArray ?_))
  rw [PySem.W.krv_range, List.filterMap_reverse, PySem.W.krv_all]
theorem pe_revS {te : TE} {k : Nat} {p1 p2 p3 : Pos} (he : PE X e te) : PE X (.Subscript e (.Slice none none (some (.UnaryOp .USub (.Constant (.int 1) k p1) p2)) p3) pos) (fun σ H Q => te σ H fun x H1 => ∃ z, x = .str z ∧ z.length ≤ sizeLine ∧ Q (.str (revS z)) H1) := by
  refine ⟨fun pins s σ H Q I h => ?_⟩
  refine Subscript_ (thn (he.run pins s σ H _ I h) fun v s1 ⟨x, H1, I1, r1, z, ex, hz, q⟩ => ?_)
  subst ex
  obtain ⟨t, rfl⟩ := r1
  have un : PE X (.UnaryOp .USub (.Constant (.int 1) k p1) p2) (tUn (rU fun i => .int (-i)) (tC (.int 1))) := pe_un un_neg pe_int
  have part := po_some un
  refine wpAny_Slice (thn (po_none.run pins s1 σ H1 (fun o H2 => o = none ∧ H2 = H1) I1 ⟨rfl, rfl⟩) fun vl s2 ⟨l, H2, I2, pl, el, e2⟩ => ?_)
  subst el
  subst e2
  refine thn (po_none.run pins s2 σ _ (fun o H3 => o = none ∧ H3 = _) I2 ⟨rfl, rfl⟩) fun vu s3 ⟨u, H3, I3, pu, eu, e3⟩ => ?_
  subst eu
  subst e3
  refine thn (part.run pins s3 σ _ (fun o H4 => o = some (-1) ∧ H4 = _) I3 ⟨1, rfl, -1, rfl, rfl, rfl⟩) fun vs s4 ⟨o, H4, I4, ps, eo, e4⟩ => ?_
  subst eo
  subst e4
  obtain ⟨l', hl', el'⟩ := IsPart.raw pl
  obtain ⟨u', hu', eu'⟩ := IsPart.raw pu
  obtain ⟨st', hs', es'⟩ := IsPart.raw ps
  have l0 : l' = none := by cases l' <;> first | rfl | cases el'
  have u0 : u' = none := by cases u' <;> first | rfl | cases eu'
  subst l0
  subst u0
  obtain ⟨tk, rfl⟩ : ∃ tk, st' = some (-1, tk) := by
    cases st' with
    | none => cases es'
    | some q =>
      obtain ⟨j, tk⟩ := q
      have : j = -1 := by simpa using es'
      exact ⟨tk, by rw [this]⟩
  subst hl'
  subst hu'
  subst hs'
  have J := I4.kept (t' := s4.toks) (h' := s4.heap.push { cls := .type "slice", data := .fields #[partValue none, partValue none, partValue (some (-1, tk))] }) fun b ob q => Heap.get?_push_of_some _ q
  show wpAny (model X.prog X.w) X.A (subscriptTail e (.Slice none none (some (.UnaryOp .USub (.Constant (.int 1) k p1) p2)) p3) (.str z t) (.ref s4.heap.objs.size)) (EP X pins σ Q) X.xe { s4 with heap := s4.heap.push { cls := .type "slice", data := .fields #[partValue none, partValue none, partValue (some (-1, tk))] } }
  refine tail_any (ops := [.ref s4.heap.objs.size, .str z t]) (typeIs_str _ _ _) F.slot_str_getitem.lookup ?_ (by with_unfolding_all rfl)
  refine wpAny_getItem_str_slice (l := none) (u := none) (st := some (-1, tk)) ⟨_, Heap.get?_push_size _ rfl, rfl, rfl⟩ rfl ?_
  rw [made_rev]
  have hl : (revS z).length ≤ sizeLine := by
    show z.cps.toList.reverse.toArray.size ≤ sizeLine
    rw [List.size_toArray, List.length_reverse, Array.length_toList]
    exact hz
  exact ⟨hl, .str _, _, J.tok _, ⟨_, rfl⟩, q⟩
def revD : PyData → Res PyData
  | .str z => if z.length ≤ sizeLine then .ok (.str (revS z)) else .no
  | _ => .no
theorem revD_never (d : PyData) : Never (revD d) := by
  unfold revD
  split <;> first | exact never_no | exact never_ite (never_ok _) never_no
def fRevS (f : En → Res PyData) : En → Res PyData := fun env => (f env).bind revD
theorem de_revS {k : Nat} {p1 p2 p3 : Pos} (h : DE X W cm e fd) : DE X W cm (.Subscript e (.Slice none none (some (.UnaryOp .USub (.Constant (.int 1) k p1) p2)) p3) pos) (fRevS fd) := pe_imp (pe_revS h) fun σ H Q q => by
  obtain ⟨G0, H0, G, env, ok, q⟩ := q
  refine tD.go ok ((Res.sat_bind.mp q).imp (fun d _ k v G1 H1 g1 ok1 dv => ?_) fun _ z => z)
  obtain ⟨r, er, k3⟩ := sat_ok (revD_never d) k
  cases d with
  | str z =>
    cases dv
    obtain ⟨hl, rfl⟩ := ok_of_ite (show (if z.length ≤ sizeLine then Res.ok (PyData.str (revS z)) else Res.no) = Res.ok r from er)
    exact ⟨z, rfl, hl, k3 _ G1 H1 g1 (.str _)⟩
  | _ => cases er
end
section
variable (env : En) (f g : En → Res (List PyData)) (h : En → Res PyData) (fq : En → Res (Bool × List PyData))
@[simp] theorem fRV_e (i : Nat) : fRV i env = (match env[i]? with
  | some (some (.own ds)) => .ok ds
  | _ => .no) := (rfl)
@[simp] theorem fCat_e (fp : En → Res (Bool × List PyData)) : fCat fp fq env = (fp env).bind fun q => (fq env).bind fun r => cat2 q r := (rfl)
@[simp] theorem cat2_e (ds es : List PyData) : cat2 (false, ds) (false, es) = catD ds es := (rfl)
@[simp] theorem fRepL_e : fRepL f h env = (f env).bind fun ds => (h env).bind fun d => repD ds d := (rfl)
@[simp] theorem fRevL_e : fRevL fq env = (fq env).bind fun q => if q.1 then .no else .ok q.2.reverse := (rfl)
@[simp] theorem fRevS_e : fRevS h env = (h env).bind revD := (rfl)
@[simp] theorem catD_e (ds es : List PyData) : catD ds es = if ds.length + es.length ≤ sizeLine then .ok (ds ++ es) else .no := (rfl)
end
end GL

set_option maxHeartbeats 4000000
/-! # The data layer: tuple(range(n)), a tuple times a number -/
namespace GL
open PySem PySem.Spec PyProof.Rows L2
theorem tuple_mul1 (l : Addr) (items : Array Value) (n : Nat) (dd : Option Addr) (sl : Array (Option Value)) (u : Tok) :
    Meets (Builtin.«tuple.__mul__» ⟨[.ref l, .int 1 u], []⟩) (fun _ R s => s.heap.get? l = some { cls := .type "tuple", dict := dd, data := .seq items n, slots := sl } ∧ R (.ok (.ret (Value.ref l))) s) :=
  .of_wp fun prog w A R s h => by
    obtain ⟨hp, g, d, tk, os⟩ := s
    obtain ⟨hl, h⟩ := h
    have f1 := AutoSeq1.idx_int
    have c1 : (items.isEmpty || (1 : Int) == 1) = true := by simp
    wp_walk using wpAny_loadPart' hl
    exact ⟨_, rfl, h⟩
section
variable {X : Cx} {W : WX} {cm : Str → Addr} {a b e : Expr} {f g : En → Res PyData} {pos p p2 : Pos}
theorem op_repT1 : OpR X (binaryOp .Mult) (fun x y H Q => ∃ l xs, x = .ref l ∧ y = .int 1 ∧ SqT X.K H l xs ∧ Q (.ref l) H) := by
  intro pins s σ H x y v u Q I rx ry h
  obtain ⟨l, xs, rfl, rfl, hT, q⟩ := h
  cases rx
  obtain ⟨t, rfl⟩ := ry
  obtain ⟨its, r, ⟨⟨cls, dd, data, sl⟩, ho, hc, n, hd⟩, hs⟩ := I.tuple hT
  simp only at hc hd
  subst hc hd
  exact wpAny_binaryOp_repeat_ref (T := "tuple") (U := "int") (by decide) ⟨_, ho, rfl⟩ (fun s' => typeIs_int s' 1 t) noFill_tuple_mul F.fills_int_mul F.slot_int_rmul repeat_tuple F.slot_int_index.lookup
    (call_meets F.slot_int_rmul (typeIs_int s 1 t) F.entry_int_rmul (F.args_int_rmul_2 _ _) (int_rmul_tuple 1 t l its.toArray n dd sl)
      ⟨ho, rfl, ⟨_, ho, rfl⟩, call_meets F.slot_tuple_mul ⟨_, ho, rfl⟩ F.entry_tuple_mul (F.args_tuple_mul_2 _ _) (tuple_mul1 l its.toArray n dd sl t) ⟨ho, .ref l, H, I, rfl, q⟩⟩)
/-- a tuple that is not empty, once or more -/
def mulT : PyData → PyData → Res PyData
  | .tuple ds, .int k => if ds ≠ [] ∧ 1 ≤ k ∧ k ≤ 1000 ∧ ds.length ≤ 1000 then .ok (.tuple (List.replicate k.toNat ds).flatten) else .no
  | _, _ => .no
theorem mulT_never (d e : PyData) : Never (mulT d e) := by
  unfold mulT
  split <;> first | exact never_no | exact never_ite (never_ok _) never_no
theorem op_mulT : OpR X (binaryOp .Mult) (rDat X.K mulT) := by
  intro pins s σ H x y v u Q I rx ry h
  obtain ⟨G, d, e, r, gh, dx, dy, er, q⟩ := h
  unfold mulT at er
  split at er
  · rename_i ds k
    obtain ⟨⟨h0, h1, h2, h3⟩, rfl⟩ := ok_of_ite er
    cases dy
    cases dx with
    | tup hs ha =>
      have l1 := dpAll_length ha
      by_cases hk : k = 1
      · subst hk
        refine op_repT1 pins s σ H _ _ v u Q I rx ry ⟨_, _, rfl, rfl, same_t gh hs, q _ G H (Grow.refl gh) ?_⟩
        have e : (List.replicate (1 : Int).toNat ds).flatten = ds := by simp
        rw [e]
        exact .tup hs ha
      · refine op_repT pins s σ H _ _ v u Q I rx ry ⟨_, _, _, rfl, rfl, same_t gh hs, fun z => ?_, by omega, h2, by omega, fun p hp => ?_⟩
        · subst z
          cases ha
          exact h0 rfl
        · exact q _ _ _ (Grow.still gh hp) (.tup (.inl (.inl upd_same)) (dpAll_rep (dpAll_mono (same_new (gh.free hp)) _ _ ha) _))
  · cases er
abbrev fMulT := f2 mulT
theorem de_mulT (ha : DE X W cm a f) (hb : DE X W cm b g) : DE X W cm (.BinOp a .Mult b pos) (fMulT f g) := de_op op_mulT ha hb mulT_never
/-! ### tuple(range(n)) -/
def tupR : PyData → Res PyData
  | .int j => if 0 ≤ j ∧ j ≤ 16777216 then .ok (.tuple (upTo 0 j.toNat)) else .no
  | _ => .no
theorem tupR_never (d : PyData) : Never (tupR d) := by
  unfold tupR
  split <;> first | exact never_no | exact never_ite (never_ok _) never_no
def fTupR (f : En → Res PyData) : En → Res PyData := fun env => (f env).bind tupR
@[simp] theorem fTupR_e (env : En) (f : En → Res PyData) : fTupR f env = (f env).bind tupR := (rfl)
theorem dpAll_rg {K : PySem.W.Frag} {G : Hp} (n : Int) : DpAll K G (rgV 0 n) (upTo 0 n.toNat) := by
  unfold rgV upTo
  rw [Int.sub_zero]
  generalize List.range n.toNat = r
  induction r with
  | nil => exact .nil
  | cons x xs ih => exact .cons (.int _) ih
theorem de_tupR (T : Blt X.mg) (hc : X.calm = true) (ha : DE X W cm e f) (hg : Gl X "tuple" := by rfl) (hg2 : Gl X "range" := by rfl)
    (na : starEach [e] X.env = (false, eval e X.env) :: starEach [] X.env := by rfl) (nb : starEach [.Call (.Name "range" p2) [e] [] pos] X.env = (false, eval (.Call (.Name "range" p2) [e] [] pos) X.env) :: starEach [] X.env := by rfl) {pos2 : Pos} :
    DE X W cm (.Call (.Name "tuple" p) [.Call (.Name "range" p2) [e] [] pos] [] pos2) (fTupR f) :=
  pe_imp (pe_tupRg hc hg T.tuple (prg_1 hg2 T.range ha na) nb) fun σ H Q q => by
    obtain ⟨G0, H0, G, env, ok, q⟩ := q
    refine tD.go ok ((Res.sat_bind.mp q).imp (fun d _ k v G1 H1 g1 ok1 dv => ?_) fun _ z => z)
    obtain ⟨r, er, k⟩ := sat_ok (tupR_never d) k
    cases d with
    | int j =>
      cases dv
      obtain ⟨hb, rfl⟩ := ok_of_ite (show (if 0 ≤ j ∧ j ≤ 16777216 then Res.ok (PyData.tuple (upTo 0 j.toNat)) else Res.no) = Res.ok r from er)
      exact ⟨j, rfl, RgOk.of_le (by omega) hb.2 (by omega) hb.1, fun p hp => k _ _ _ (g1.trans (Grow.still ok1.gh hp)) (.tup (.inl (.inl upd_same)) (dpAll_rg j))⟩
    | _ => cases er
/-! ### a, b, c = e1, e2, e3 -/
def sPar3 (i j l : Nat) (f g h : En → Res PyData) : En → Out := fun env => .ofR (f env) env fun d => .ofR (g env) env fun e => .ofR (h env) env fun r => .nx (((env.set i (some (.dat d))).set j (some (.dat e))).set l (some (.dat r)))
theorem ds_par3 (i j l : Nat) {x y z : Str} {c : Expr} {h : En → Res PyData} {px py pz pt : Pos} {kt k2 pt2} (hc : X.calm = true) (hN : X.N.Nodup) (ha : DE X W cm a f) (hb : DE X W cm b g) (hd : DE X W cm c h)
    (hw : swappedStores [.Tuple [.Name x px, .Name y py, .Name z pz] kt pt] (.Tuple [a, b, c] k2 pt2) X.env = pure (some [x, y, z]) := by rfl) (hi : X.N[i]? = some x := by rfl) (hj : X.N[j]? = some y := by rfl) (hl : X.N[l]? = some z := by rfl) (hij : i ≠ j := by decide) (hil : i ≠ l := by decide) (hjl : j ≠ l := by decide)
    (hx : X.env.scope.names.lookup x = some .local := by rfl) (hy : X.env.scope.names.lookup y = some .local := by rfl) (hz : X.env.scope.names.lookup z = some .local := by rfl)
    (hs : swapsWithSole [.Tuple [.Name x px, .Name y py, .Name z pz] kt pt] (.Tuple [a, b, c] k2 pt2) pos.line X.env = pure false := by rfl)
    (he : starEach [a, b, c] X.env = (false, eval a X.env) :: starEach [b, c] X.env := by rfl) (he2 : starEach [b, c] X.env = (false, eval b X.env) :: starEach [c] X.env := by rfl) (he3 : starEach [c] X.env = [(false, eval c X.env)] := by rfl) :
    DS X W cm (.Assign [.Tuple [.Name x px, .Name y py, .Name z pz] kt pt] (.Tuple [a, b, c] k2 pt2) pos) (sPar3 i j l f g h) :=
  ps_imp (ps_par3 hc hN hi hj hl hij hil hjl hx hy hz (pa_cons ha (pa_cons hb (pa_cons hd pa_nil he3) he2) he) hw hs) fun D σ H q => by
    obtain ⟨G0, H0, G, env, ok, q⟩ := q
    show tD X.prog X.w X.K W cm f σ H fun v H1 => tD X.prog X.w X.K W cm g σ H1 fun u H2 => tD X.prog X.w X.K W cm h σ H2 fun r H3 => ∃ u' v' w', [v, u, r] = [u', v', w'] ∧ D.nx (((σ.set i (some u')).set j (some v')).set l (some w')) H3
    refine tD.go ok (OutP.ofR ok q fun d _ k v G1 H1 g1 ok1 dp => ?_)
    refine tD.go ok1 (OutP.ofR ok1 (k.mono g1.g) fun e _ k u G2 H2 g2 ok2 dq => ?_)
    refine tD.go ok2 (OutP.ofR ok2 (k.mono g2.g) fun r _ k r' G3 H3 g3 ok3 dr => ?_)
    exact ⟨v, u, r', rfl, k G3 _ H3 g3.g (((ok3.dat (dp_mono (g2.trans g3).g _ _ dp)).dat (dp_mono g3.g _ _ dq)).dat dr)⟩
end
@[simp] theorem sPar3_e (env : En) (i j l : Nat) (f g h : En → Res PyData) : sPar3 i j l f g h env = .ofR (f env) env fun d => .ofR (g env) env fun e => .ofR (h env) env fun r => .nx (((env.set i (some (.dat d))).set j (some (.dat e))).set l (some (.dat r))) := (rfl)
end GL

/-! # The data layer: for over a written tuple that holds a replace -/
namespace GL
open PySem PySem.Spec PyProof.Rows L2
section
variable {X : Cx} {W : WX} {cm : Str → Addr} {tg e : Expr} {f : En → Res PyData} {g h : En → Out} {pos : Pos} {rest : List Stmt}
abbrev DATk (X : Cx) (W : WX) (cm : Str → Addr) (es : List Expr) (f : En → Res (List PyData)) : Prop := PAT X es (tA X.prog X.w X.K W cm f)
theorem det_of (h : DE X W cm e f) : DETk X W cm e f := fun pins s σ H Q _ I q => h.run pins s σ H Q I q
theorem dat_nil : DATk X W cm [] fNil := fun pos pins s σ H Q h0 I q => da_nil.run pos pins s σ H Q I q
theorem dat_cons {es : List Expr} {fs : En → Res (List PyData)} (ha : DETk X W cm e f) (hr : DATk X W cm es fs) (hs : starEach (e :: es) X.env = (false, eval e X.env) :: starEach es X.env := by rfl) : DATk X W cm (e :: es) (fCons f fs) := fun pos pins s σ H Q h0 I q => by
  refine pat_cons ha hr hs pos pins s σ H Q h0 I ?_
  obtain ⟨G0, H0, G, env, ok, q⟩ := q
  refine tD.go ok ((Res.sat_bind.mp q).imp (fun d _ k v G1 H1 g1 ok1 dp => ?_) fun _ z => z)
  refine tA.go ok1 ((Res.sat_map.mp k).imp (fun ds _ k2 vs G2 H2 g2 ok2 da => ?_) fun _ z => z.grow g1)
  exact k2 (v :: vs) G2 H2 (g1.trans g2) (.cons (dp_mono g2.g _ _ dp) da)
theorem det_tup {es : List Expr} {fs : En → Res (List PyData)} {x1} (ha : DATk X W cm es fs) : DETk X W cm (.Tuple es x1 pos) (fTup fs) := fun pins s σ H Q h0 I q => by
  obtain ⟨G0, H0, G, env, ok, q⟩ := q
  have q2 : tA X.prog X.w X.K W cm fs σ H fun vs H1 => vs.length ≤ sizeLine ∧ ∀ p, H1 p = none → Q (.ref p) (upd H1 p (.tup vs)) := by
    refine tA.go ok ((Res.sat_bind.mp q).imp (fun ds _ k vs G1 H1 g1 ok1 da => ?_) fun _ z => z)
    split at k
    · rename_i hl
      exact ⟨by rw [dpAll_length da]; exact le1000 hl, fun p hp => k _ _ _ (g1.trans (Grow.still ok1.gh hp)) (.tup (.inl (.inl upd_same)) (dpAll_mono (same_new (ok1.gh.free hp)) _ _ da))⟩
    · exact k.elim
  refine Tuple_ (thn (ha pos pins s σ H _ h0 I q2) fun us s1 ⟨xs, H1, I1, r, z, q⟩ => ?_)
  have hlen : us.length ≤ sizeLine := by rw [← r.length]; exact z
  refine wpAny_newObj_type ?_ (show us.toArray.size ≤ sizeLine by rw [List.size_toArray]; exact hlen)
  have hf : H1 s1.heap.objs.size = none := I1.hok.fresh (Nat.le_refl _)
  exact ⟨.ref s1.heap.objs.size, upd H1 s1.heap.objs.size (.tup xs), I1.laid (t' := s1.toks) (fun b u e => Heap.get?_push_of_some _ e) (Nat.le_refl _) ⟨z, us, r, IsTup.new _ _⟩, rfl, q _ hf⟩
theorem dft_e (ha : DETk X W cm e f) : PIT X tg e (tF X.prog X.w X.K W cm (fItems f)) := fun pins s σ H R h0 I q => by
  have q2 : tD X.prog X.w X.K W cm f σ H fun x H1 => (∃ a xs, x = .ref a ∧ ((SqL X.K H1 a xs ∧ (xs.length ≤ sizeLine → R (Itl X.K a) H1)) ∨ (SqT X.K H1 a xs ∧ (xs.length ≤ sizeLine → R (Itt X.K a) H1)))) ∨ ∃ z, x = .str z ∧ R (Its z) H1 := by
    obtain ⟨G0, H0, G, env, ok, q⟩ := q
    refine tD.go ok ((Res.sat_bind.mp q).imp (fun d _ k v G1 H1 g1 ok1 dp => ?_) fun _ z => z)
    cases d with
    | list ds =>
      cases dp with
      | lst hs ha => exact .inl ⟨_, _, rfl, .inl ⟨ok1.gh.seq hs, fun hl => k _ G1 H1 g1 (itD_seqL hs ha) (by rw [← dpAll_length ha]; exact hl)⟩⟩
    | tuple ds =>
      cases dp with
      | tup hs ha => exact .inl ⟨_, _, rfl, .inr ⟨same_t ok1.gh hs, fun hl => k _ G1 H1 g1 (itD_seqT hs ha) (by rw [← dpAll_length ha]; exact hl)⟩⟩
    | str z =>
      cases dp
      have k : (if z.length ≤ sizeLine then Res.ok (signsD z) else Res.no).sat _ _ := k
      split at k
      · rename_i hl
        exact .inr ⟨z, rfl, k _ G1 H1 g1 (itD_str z) (by unfold signsD; rw [List.length_map, Array.length_toList]; exact hl)⟩
      · exact k.elim
    | _ => exact k.elim
  refine thn (ha pins s σ H _ h0 I q2) fun v s1 hq => ?_
  obtain ⟨x, H1, I1, r1, q1⟩ := hq
  rcases q1 with ⟨a, xs, ex, q1⟩ | ⟨z, ex, q1⟩
  · subst ex
    have ev : v = .ref a := r1
    subst ev
    rcases q1 with ⟨hl, q1⟩ | ⟨ht, q1⟩
    · obtain ⟨its, rv, pl, hz⟩ := I1.list hl
      exact wpAny_pyIter_list pl.isList (pi_one (tk := s1.toks) I1 _ (turn_list a _) ⟨_, Heap.get?_push_size _ rfl, rfl, rfl⟩ (q1 hz))
    · obtain ⟨its, rv, pl, hz⟩ := I1.tuple ht
      exact wpAny_pyIter_tuple (show s1.heap.IsTuple a its.toArray from pl) (pi_one (tk := s1.toks) I1 _ (turn_tuple a _) ⟨_, Heap.get?_push_size _ rfl, rfl, rfl⟩ (q1 hz))
  · subst ex
    obtain ⟨tk, rfl⟩ := r1
    cases hw : z.cps.all (· < 128) with
    | false => exact wpAny_pyIter_wide hw (pi_one (tk := s1.toks) I1 _ (turn_str _ z tk "str_iterator" (.inr rfl)) ⟨_, Heap.get?_push_size _ rfl, rfl, rfl⟩ q1)
    | true => exact wpAny_pyIter_ascii hw (pi_one (tk := s1.toks) I1 _ (turn_str _ z tk "str_ascii_iterator" (.inl rfl)) ⟨_, Heap.get?_push_size _ rfl, rfl, rfl⟩ q1)
theorem dst_for {iter : Expr} {body : List Stmt} {t : Tgt} {fi : En → Res (List PyData)} (hp : PassesOwn (model X.prog X.w) X.A X.env X.xe) (hc : X.calm = true) (hi : PIT X tg iter (tF X.prog X.w X.K W cm fi)) (hg : DG X tg t) (hb : DSs X W cm body g) (hs : ∀ x, foldedSetIterable iter X.env x = pure x := by intro _; rfl) :
    DSTk X W cm (.For tg iter body [] pos) (sFor t fi g) := fun pins s σ H D h0 I q => pst_for hp hc hi hg hb hs pins s σ H D h0 I (t_for q)
theorem dst_last {st : Stmt} (h1 : DSTk X W cm st g) : DSsTk X W cm [st] g := fun pins s σ H D h0 I q => psst_cons h1 (PSsT.of pss_nil) pins s σ H D h0 I q
/-- x = (number,): behind it a token is out -/
theorem dss_bump1 (i : Nat) {x : Str} {n : Int} {j1 k1 : Nat} {c1 tp pos' : Pos} (hN : X.N.Nodup) (h2 : DSsTk X W cm rest h) (hi : X.N[i]? = some x := by rfl) (hx : Loc X.env.scope x := by first | exact Or.inl rfl | exact Or.inr rfl)
    (hs : swapsWith (.Tuple [.Constant (.int n) j1 c1] k1 tp) (some (.Name x pos')) pos.line X.env = pure false := by rfl) (hf : X.fn x = true ∨ X.env.scope.names.lookup x = some .local := by first | exact .inl rfl | exact .inr rfl | assumption)
    (hst : starEach [.Constant (.int n) j1 c1] X.env = (false, eval (.Constant (.int n) j1 c1) X.env) :: starEach [] X.env := by rfl) :
    DSs X W cm (.Assign [.Name x pos'] (.Tuple [.Constant (.int n) j1 c1] k1 tp) pos :: rest) (sSeq (sAsg (.one i) (fTup (fCons (fC (.int n)) fNil))) h) := by
  refine ⟨fun pins s σ H D I q => ?_⟩
  have q := t_seq q
  refine wpAny_execs_cons (wpAny_Assign_Name (wpAny_Tuple_spliced (PyProof.Rows.args_cons (wpAny_Constant_int (PyProof.Rows.args_nil ⟨show 1 ≤ sizeLine by decide, ?_⟩)) hst)) hs)
  obtain ⟨G0, H0, G, env, ok, q⟩ := q
  have nf : H s.heap.objs.size = none := I.hok.fresh (Nat.le_refl _)
  have I2 : Inv X pins σ (upd H s.heap.objs.size (.tup [V.int n])) { s with heap := s.heap.push { cls := .type "tuple", data := .seq [Value.int n s.toks].toArray }, toks := s.toks + 1 } :=
    I.laid (t' := s.toks + 1) (fun b u e => Heap.get?_push_of_some _ e) (Nat.le_refl _) ⟨show 1 ≤ sizeLine by decide, _, .cons ⟨_, rfl⟩ .nil, ⟨_, Heap.get?_push_size _ rfl, rfl, _, rfl⟩⟩
  have q0 : OutP X.prog X.w X.K W cm G0 H0 G { D with nx := tS X.prog X.w X.K W cm h D } (.nx (env.set i (some (.dat (.tuple [.int n]))))) := q
  have q : ∀ (v : V) (G' H' : Hp), Grow G H G' H' → Dp X.K G' v (.tuple [.int n]) → tS X.prog X.w X.K W cm h D (σ.set i (some v)) H' := fun v G' H' gr dp => q0 G' _ H' gr.g ((ok.grow gr).dat dp)
  have q := q (.ref s.heap.objs.size) _ _ (Grow.still ok.gh nf) (.tup (.inl (.inl upd_same)) (.cons (.int n) .nil))
  refine wpAny_mono (PySem.wpAny_toks (store_ok (Q := fun _ s' => Inv X pins (σ.set i (some (.ref s.heap.objs.size))) (upd H s.heap.objs.size (.tup [V.int n])) s') (E := X.xe) I2 hN hi hx (show RelV (.ref s.heap.objs.size) (.ref s.heap.objs.size) from rfl) (fun s' I' => I') hf)) (fun _ a2 z => ?_) fun _ _ z => z.2
  obtain ⟨hk, I'⟩ := z
  have hk : s.toks + 1 ≤ a2.toks := hk
  exact h2 pins a2 _ _ D (by omega) I' q
end
end GL

set_option maxHeartbeats 4000000
/-! # The data layer: things times a number, tuples turned round -/
namespace GL
open PySem PySem.Spec PyProof.Rows L2 HT
/-! ### a tuple [::-1] -/
section
variable {prog : Program} {w : World} {A : Around} {E : Value → Shared → Prop} {s : Shared}
theorem places_rev (n : Nat) : Builtin.Slice.slicePlaces ((n : Int) - 1) (-1) (-1) = n := by
  unfold Builtin.Slice.slicePlaces
  rw [if_neg (by decide)]
  by_cases h : n = 0
  · subst h; rfl
  · rw [if_pos (by omega)]
    show (((n : Int) - 1 - -1 - 1) / 1 + 1).toNat = n
    omega
theorem sliceApplied_rev {sl : Addr} {vl vu vs : Value} {n : Nat} {Q : Int × Int × Nat → Shared → Prop} (hs : s.heap.IsSliceOf sl vl vu vs) (pl : IsPart vl none) (pu : IsPart vu none) (ps : IsPart vs (some (-1)))
    (h : Q ((n : Int) - 1, -1, n) s) : wpAny (model prog w) A (Builtin.Slice.sliceApplied (.ref sl) (pure (n : Int))) Q E s := by
  obtain ⟨os, hos, hcs, hds⟩ := id hs
  unfold Builtin.Slice.sliceApplied Builtin.Slice.sliceFields
  refine wpAny_bind (wpAny_bind (wpAny_field hos hds (x := vl) rfl (wpAny_bind (wpAny_field hos hds (x := vu) rfl (wpAny_bind (wpAny_field hos hds (x := vs) rfl (wpAny_pure ?_)))))))
  refine wpAny_bind (slicePart_ ps ?_)
  show wpAny _ _ (if ((-1 : Int) == 0) = true then _ else _) _ _ s
  rw [if_neg (by decide)]
  refine wpAny_bind (slicePart_ pl (wpAny_bind (slicePart_ pu (wpAny_bind (wpAny_pure ?_)))))
  show wpAny _ _ (pure ((n : Int) - 1, (-1 : Int), Builtin.Slice.slicePlaces ((n : Int) - 1) (-1) (-1))) _ _ s
  rw [places_rev]
  exact wpAny_pure h
theorem fm_congr {α β : Type} {f g : α → Option β} : ∀ (l : List α), (∀ x ∈ l, f x = g x) → l.filterMap f = l.filterMap g
  | [], _ => rfl
  | x :: l, h => by rw [List.filterMap_cons, List.filterMap_cons, h x List.mem_cons_self, fm_congr l fun y hy => h y (List.mem_cons_of_mem _ hy)]
theorem pick_rev (xs : Array Value) : ((List.range xs.size).filterMap fun (m : Nat) => xs[(((xs.size : Int) - 1) + (m : Int) * (-1)).toNat]?).toArray = xs.toList.reverse.toArray := by
  have e : (List.range xs.size).filterMap (fun (m : Nat) => xs[(((xs.size : Int) - 1) + (m : Int) * (-1)).toNat]?) = ((List.range xs.size).map fun k => xs.size - 1 - k).filterMap (xs[·]?) := by
    rw [List.filterMap_map]
    refine fm_congr _ fun m hm => ?_
    have := List.mem_range.mp hm
    show xs[(((xs.size : Int) - 1) + (m : Int) * (-1)).toNat]? = xs[xs.size - 1 - m]?
    congr 1
    omega
  rw [e, PySem.W.krv_range, List.filterMap_reverse, PySem.W.krv_all]
theorem getItem_tuple_rev {t sl : Addr} {items : Array Value} {vl vu vs : Value} {Q : Value → Shared → Prop} (ht : IsTup s.heap t items) (hs : s.heap.IsSliceOf sl vl vu vs) (pl : IsPart vl none) (pu : IsPart vu none) (ps : IsPart vs (some (-1)))
    (h : Q (.ref s.heap.objs.size) { s with heap := s.heap.push { cls := .type "tuple", data := .seq items.toList.reverse.toArray } })
    (hsz : items.size ≤ sizeLine) : wpAny (model prog w) A (getItem (.ref t) (.ref sl)) Q E s := by
  have htake : sizeOk (.seq items.toList.reverse.toArray) := by
    show items.toList.reverse.toArray.size ≤ sizeLine
    rw [List.size_toArray, List.length_reverse, Array.length_toList]
    exact hsz
  obtain ⟨os, hos, hcs, hds⟩ := id hs
  have hTs : s.TypeIs (.ref sl) "slice" := ⟨os, hos, hcs⟩
  unfold getItem
  try with_reducible refine wpAny_holding ?_
  first | refine wpAny_bind (wpAny_pure ?_) | skip
  refine wpAny_bind (wpAny_sequenceKey ht.typeIs (by decide) ?_)
  refine wpAny_bind (wpAny_callSpecial?_slot (name := Str.ofString "__getitem__") ht.typeIs PyProof.Rows.slot_tuple_getitem
    (wpAny_call_entry PyProof.Rows.slot_tuple_getitem ht.typeIs entry_tuple_getitem ?_ (args_tuple_getitem _ _)))
  show wpAny _ _ (Builtin.Tuple.tupleItemsOf (.ref t) >>= _) _ _ s
  refine wpAny_bind (tupleItemsOf_ ht ?_)
  refine wpAny_bind (wpAny_typeOf hTs ?_)
  rw [if_pos (by decide)]
  refine wpAny_bind (sliceApplied_rev hs pl pu ps ?_)
  have hno : ¬ ((((items.size : Int) - 1) == 0 && (-1 : Int) == 1 && items.size == items.size) = true) := by
    intro q
    rw [Bool.and_eq_true, Bool.and_eq_true] at q
    exact absurd q.1.2 (by decide)
  show wpAny _ _ (if (((items.size : Int) - 1) == 0 && (-1 : Int) == 1 && items.size == items.size) = true then _ else _) _ _ s
  rw [if_neg hno, pick_rev]
  first
    | exact wpAny_bind (m := Builtin.Tuple.tupleExact _) (wpAny_newObj_type (wpAny_pure ⟨_, rfl, wpAny_pure h⟩) htake)
    | exact wpAny_bind (m := Builtin.Tuple.tupleExact _) (wpAny_newObj_type (wpAny_bind (wpAny_pure (wpAny_pure ⟨_, rfl, wpAny_pure h⟩))) htake)
    | exact wpAny_bind (wpAny_bind (m := Builtin.Tuple.tupleExact _) (wpAny_newObj_type (wpAny_pure (wpAny_pure ⟨_, rfl, wpAny_pure h⟩)) htake))
    | exact wpAny_bind (wpAny_bind (m := Builtin.Tuple.tupleExact _) (wpAny_newObj_type (wpAny_pure ⟨_, rfl, wpAny_pure h⟩) htake))
end
section
variable {X : Cx} {W : WX} {cm : Str → Addr} {a b e : Expr} {f g : En → Res PyData} {pos p p2 : Pos}
theorem pe_revT {te : TE} {k : Nat} {p1 p2 p3 pos : Pos} (he : PE X e te) : PE X (.Subscript e (.Slice none none (some (.UnaryOp .USub (.Constant (.int 1) k p1) p2)) p3) pos)
    (fun σ H Q => te σ H fun x H1 => ∃ a xs, x = .ref a ∧ SqT X.K H1 a xs ∧ ∀ p, H1 p = none → Q (.ref p) (upd H1 p (.tup xs.reverse))) := by
  refine ⟨fun pins s σ H Q I h => ?_⟩
  refine Subscript_ (thn (he.run pins s σ H _ I h) fun v s1 ⟨x, H1, I1, r1, q1⟩ => ?_)
  obtain ⟨a, xs, ex, hx, q⟩ := q1
  subst ex
  cases r1
  have hst : PO X (some (.UnaryOp .USub (.Constant (.int 1) k p1) p2)) (tPart (tUn (rU fun i => .int (-i)) (tC (.int 1)))) := po_some (pe_un un_neg pe_int)
  refine wpAny_Slice (thn (po_none.run pins s1 σ H1 (fun o H2 => o = none ∧ H2 = H1) I1 ⟨rfl, rfl⟩) fun vl s2 ⟨l, H2, I2, pl, el, e2⟩ => ?_)
  subst el e2
  refine thn (po_none.run pins s2 σ H2 (fun o H3 => o = none ∧ H3 = H2) I2 ⟨rfl, rfl⟩) fun vu s3 ⟨u, H3, I3, pu, eu, e3⟩ => ?_
  subst eu e3
  refine thn (hst.run pins s3 σ H3 (fun o H4 => o = some (-1) ∧ H4 = H3) I3 ⟨1, rfl, -1, rfl, rfl, rfl⟩) fun vs s4 ⟨o, H4, I4, ps, eo, e4⟩ => ?_
  subst eo e4
  have I5 : Inv X pins σ H4 { s4 with heap := s4.heap.push { cls := .type "slice", data := .fields #[vl, vu, vs] } } := I4.kept (t' := s4.toks) fun b ob q => Heap.get?_push_of_some _ q
  obtain ⟨its, r, ht, hz⟩ := I5.tuple hx
  have hlen := r.length
  show wpAny (model X.prog X.w) X.A (subscriptTail e (.Slice none none (some (.UnaryOp .USub (.Constant (.int 1) k p1) p2)) p3) (.ref a) (.ref s4.heap.objs.size)) (EP X pins σ Q) X.xe { s4 with heap := s4.heap.push { cls := .type "slice", data := .fields #[vl, vu, vs] } }
  refine tail_any (ops := [.ref a, .ref s4.heap.objs.size]) ht.typeIs (PyProof.Rows.slot_tuple_getitem.lookup) ?_ (by with_unfolding_all rfl)
  refine getItem_tuple_rev ht (Heap.IsSliceOf.new _ vl vu vs) pl pu ps ?_ (by rw [List.size_toArray]; omega)
  refine ⟨.ref _, _, I5.laid (t' := s4.toks) (o := .tup xs.reverse) (fun b ob q => Heap.get?_push_of_some _ q) (Nat.le_refl _) ?_, rfl, q _ (I5.hok.fresh (Nat.le_refl _))⟩
  exact ⟨by rw [List.length_reverse]; omega, _, r.reverse, IsTup.new _ _⟩
def revT : PyData → Res PyData
  | .tuple ds => .ok (.tuple ds.reverse)
  | _ => .no
theorem revT_never (d : PyData) : Never (revT d) := by
  unfold revT
  split <;> first | exact never_no | exact never_ok _
def fRevT (f : En → Res PyData) : En → Res PyData := fun env => (f env).bind revT
@[simp] theorem fRevT_e (env : En) : fRevT f env = (f env).bind revT := (rfl)
theorem de_revT {k : Nat} {p1 p2 p3 : Pos} (h : DE X W cm e f) : DE X W cm (.Subscript e (.Slice none none (some (.UnaryOp .USub (.Constant (.int 1) k p1) p2)) p3) pos) (fRevT f) := pe_imp (pe_revT h) fun σ H Q q => by
  obtain ⟨G0, H0, G, env, ok, q⟩ := q
  refine tD.go ok ((Res.sat_bind.mp q).imp (fun d _ k v G1 H1 g1 ok1 dv => ?_) fun _ z => z)
  obtain ⟨r, er, k3⟩ := sat_ok (revT_never d) k
  cases d with
  | tuple ds =>
    cases dv with
    | tup hs ha =>
      cases er
      exact ⟨_, _, rfl, same_t ok1.gh hs, fun p hp => k3 _ _ _ (g1.trans (Grow.still ok1.gh hp)) (.tup (.inl (.inl upd_same)) (dpAll_mono (same_new (ok1.gh.free hp)) _ _ (dpAll_rev ha)))⟩
  | _ => cases er
/-! ### times a number -/
theorem tuple_mulE (l : Addr) (items : Array Value) (n : Nat) (dd : Option Addr) (sl : Array (Option Value)) (x : Int) (u : Tok) (c0 : (decide (x < -(2 ^ 63)) || decide (x ≥ 2 ^ 63)) = false) (c1 : (items.isEmpty || x == 1) = true) :
    Meets (Builtin.«tuple.__mul__» ⟨[.ref l, .int x u], []⟩) (fun _ R s => s.heap.get? l = some { cls := .type "tuple", dict := dd, data := .seq items n, slots := sl } ∧ R (.ok (.ret (Value.ref l))) s) :=
  .of_wp fun prog w A R s h => by
    obtain ⟨hp, g, d, tk, os⟩ := s
    obtain ⟨hl, h⟩ := h
    have f1 := AutoSeq1.idx_int
    wp_walk using wpAny_loadPart' hl
    refine wpAny_ite_false (decide_eq_false (by rw [c0]; exact Bool.false_ne_true)) ?_
    wp_walk using wpAny_loadPart' hl
    exact ⟨_, rfl, h⟩
theorem tuple_mul0 (l : Addr) (items : Array Value) (n : Nat) (dd : Option Addr) (sl : Array (Option Value)) (u : Tok) (c1 : (items.isEmpty || (0 : Int) == 1) = false) :
    Meets (Builtin.«tuple.__mul__» ⟨[.ref l, .int 0 u], []⟩) (fun _ R s => s.heap.get? l = some { cls := .type "tuple", dict := dd, data := .seq items n, slots := sl } ∧
      R (.ok (.ret (Value.ref s.heap.objs.size))) { s with heap := s.heap.push { cls := Value.type "tuple", data := Data.seq #[] }, toks := s.toks }) :=
  .of_wp fun prog w A R s h => by
    obtain ⟨hp, g, d, tk, os⟩ := s
    obtain ⟨hl, h⟩ := h
    have f1 := AutoSeq1.idx_int
    wp_walk using wpAny_loadPart' hl
    repeat (first
      | (refine wpAny_ite_false (decide_eq_false (by rw [c1]; exact Bool.false_ne_true)) ?_; wp_walk using wpAny_loadPart' hl)
      | (refine wpAny_ite_true (by decide) ?_; wp_walk using wpAny_loadPart' hl))
    exact ⟨_, rfl, h⟩
theorem op_mulX0 : OpR X (binaryOp .Mult) (fun x y H Q => ∃ l k xs, x = .ref l ∧ y = .int k ∧ SqT X.K H l xs ∧ 0 ≤ k ∧ k ≤ 1000 ∧ xs.length ≤ 1000 ∧ (k = 0 ∨ xs = []) ∧ (xs = [] → Q (.ref l) H) ∧ (xs ≠ [] → ∀ p, H p = none → Q (.ref p) (upd H p (.tup [])))) := by
  intro pins s σ H x y v u Q I rx ry h
  obtain ⟨l, k, xs, rfl, rfl, hT, h1, h2, hz, hor, q1, q2⟩ := h
  cases rx
  obtain ⟨t, rfl⟩ := ry
  obtain ⟨its, r, ⟨⟨cls, dd, data, sl⟩, ho, hc, n, hd⟩, hs⟩ := I.tuple hT
  simp only at hc hd
  subst hc hd
  have hle : its.length = xs.length := r.length.symm
  have c0 : (decide (k < -(2 ^ 63)) || decide (k ≥ 2 ^ 63)) = false := by
    rw [decide_eq_false (by omega), decide_eq_false (by omega)] <;> rfl
  by_cases hx : xs = []
  · subst hx
    have : its = [] := List.eq_nil_of_length_eq_zero hle
    subst this
    refine wpAny_binaryOp_repeat_ref (T := "tuple") (U := "int") (by decide) ⟨_, ho, rfl⟩ (fun s' => typeIs_int s' k t) noFill_tuple_mul F.fills_int_mul F.slot_int_rmul repeat_tuple F.slot_int_index.lookup
      (call_meets F.slot_int_rmul (typeIs_int s k t) F.entry_int_rmul (F.args_int_rmul_2 _ _) (int_rmul_tuple k t l _ n dd sl)
        ⟨ho, rfl, ⟨_, ho, rfl⟩, call_meets F.slot_tuple_mul ⟨_, ho, rfl⟩ F.entry_tuple_mul (F.args_tuple_mul_2 _ _) (tuple_mulE l _ n dd sl k t c0 (by simp)) ⟨ho, .ref l, H, I, rfl, q1 rfl⟩⟩)
  · have hk : k = 0 := by
      rcases hor with h | h
      · exact h
      · exact absurd h hx
    subst hk
    have hn : its ≠ [] := fun e => hx (by
      rw [e] at hle
      exact List.eq_nil_of_length_eq_zero hle.symm)
    have hi : (its.toArray.isEmpty || (0 : Int) == 1) = false := by
      cases its with
      | nil => exact absurd rfl hn
      | cons a b => rfl
    refine wpAny_binaryOp_repeat_ref (T := "tuple") (U := "int") (by decide) ⟨_, ho, rfl⟩ (fun s' => typeIs_int s' 0 t) noFill_tuple_mul F.fills_int_mul F.slot_int_rmul repeat_tuple F.slot_int_index.lookup
      (call_meets F.slot_int_rmul (typeIs_int s 0 t) F.entry_int_rmul (F.args_int_rmul_2 _ _) (int_rmul_tuple 0 t l its.toArray n dd sl)
        ⟨ho, rfl, ⟨_, ho, rfl⟩, call_meets F.slot_tuple_mul ⟨_, ho, rfl⟩ F.entry_tuple_mul (F.args_tuple_mul_2 _ _) (tuple_mul0 l its.toArray n dd sl t hi) ⟨ho, ?_⟩⟩)
    refine ⟨.ref s.heap.objs.size, _, I.laid (t' := s.toks) (o := .tup []) (fun b ob q => Heap.get?_push_of_some _ q) (Nat.le_refl _) ?_, rfl, q2 hx _ (I.hok.fresh (Nat.le_refl _))⟩
    exact ⟨Nat.zero_le _, [], .nil, IsTup.new _ _⟩
/-- a number, a text or a tuple times a number -/
def mulX : PyData → PyData → Res PyData
  | .int i, .int j => if mulOk i j = true then .ok (.int (i * j)) else .no
  | .str x, .int k => if 0 ≤ k ∧ k ≤ 1000 ∧ x.length ≤ 10000 then .ok (.str (Txt.mul x k)) else .no
  | .tuple ds, .int k => if 0 ≤ k ∧ k ≤ 1000 ∧ ds.length ≤ 1000 then .ok (.tuple (List.replicate k.toNat ds).flatten) else .no
  | _, _ => .no
theorem mulX_never (d e : PyData) : Never (mulX d e) := by
  unfold mulX
  split <;> first | exact never_no | exact never_ite (never_ok _) never_no
theorem op_mulX : OpR X (binaryOp .Mult) (rDat X.K mulX) := by
  intro pins s σ H x y v u Q I rx ry h
  obtain ⟨G, d, e, r, gh, dx, dy, er, q⟩ := h
  unfold mulX at er
  split at er
  · rename_i i j
    exact op_mulD pins s σ H x y v u Q I rx ry ⟨G, .int i, .int j, r, gh, dx, dy, er, q⟩
  · rename_i z n
    obtain ⟨⟨h0, h1, h2⟩, rfl⟩ := ok_of_ite er
    cases dx
    cases dy
    obtain ⟨t, rfl⟩ := rx
    obtain ⟨t', rfl⟩ := ry
    refine PySem.SB.mul ⟨?_, fun h3 h4 => ?_, fun h3 h4 => ?_⟩ fun t2 k2 => ⟨.str (Txt.mul z n), H, I.tok k2, ⟨t2, rfl⟩, q _ G H (Grow.refl gh) (.str _)⟩
    · rw [Bool.or_eq_false_iff]
      exact ⟨decide_eq_false (by omega), decide_eq_false (by omega)⟩
    · have : (9223372036854775807 : Int) / 1000 ≤ (2 ^ 63 - 1) / n := by
        show (9223372036854775807 : Int) / 1000 ≤ 9223372036854775807 / n
        refine (Int.le_ediv_iff_mul_le (by omega)).mpr ?_
        have : (9223372036854775807 : Int) / 1000 * n ≤ 9223372036854775807 / 1000 * 1000 := Int.mul_le_mul_of_nonneg_left h1 (by decide)
        omega
      omega
    · unfold Builtin.Str.tooLong
      have : z.length * n.toNat ≤ 10000 * 1000 := Nat.mul_le_mul h2 (by omega)
      exact decide_eq_false (by rw [sizeLine_eq]; omega)
  · rename_i ds k
    obtain ⟨⟨h0, h1, h2⟩, rfl⟩ := ok_of_ite er
    by_cases hT : ds ≠ [] ∧ 1 ≤ k
    · exact op_mulT pins s σ H x y v u Q I rx ry ⟨G, .tuple ds, .int k, _, gh, dx, dy, by unfold mulT; exact if_pos ⟨hT.1, hT.2, h1, h2⟩, q⟩
    · cases dy
      cases dx with
      | tup hs ha =>
        have l1 := dpAll_length ha
        have hor : k = 0 ∨ ds = [] := by
          by_cases e : ds = []
          · exact .inr e
          · left
            have : ¬ 1 ≤ k := fun z => hT ⟨e, z⟩
            omega
        have e : (List.replicate k.toNat ds).flatten = [] := by
          rcases hor with e | e
          · subst e; rfl
          · subst e; simp
        rw [e] at q
        refine op_mulX0 pins s σ H _ _ v u Q I rx ry ⟨_, _, _, rfl, rfl, same_t gh hs, h0, h1, by omega, ?_, fun z => ?_, fun _ p hp => ?_⟩
        · rcases hor with e | e
          · exact .inl e
          · subst e; cases ha; exact .inr rfl
        · subst z; cases ha
          exact q _ G H (Grow.refl gh) (.tup hs .nil)
        · exact q _ _ _ (Grow.still gh hp) (.tup (.inl (.inl upd_same)) .nil)
  · cases er
abbrev fMulX := f2 mulX
theorem de_mulX (ha : DE X W cm a f) (hb : DE X W cm b g) : DE X W cm (.BinOp a .Mult b pos) (fMulX f g) := de_op op_mulX ha hb mulX_never
end
/-! ### a < b < c as a test -/
section
variable {X : Cx} {W : WX} {cm : Str → Addr} {a b c : Expr} {f g h : En → Res PyData} {pos : Pos}
theorem t_chain {P : Program} {w : World} {K : PySem.W.Frag} {o o' : PyData → PyData → Res PyData} (n : ∀ d e, Never (o d e)) (n' : ∀ d e, Never (o' d e)) {σ : L2.St} {H : Hp} {Q : VK} (q : tD P w K W cm (fChain o o' f g h) σ H Q) :
    tChain (rDat K o) (rDat K o') (tD P w K W cm f) (tD P w K W cm g) (tD P w K W cm h) σ H Q := by
  obtain ⟨G0, H0, G, env, ok, q⟩ := q
  refine tD.go ok ((Res.sat_bind.mp q).imp (fun d _ k v G1 H1 g1 ok1 dp => ?_) fun _ z => z)
  refine tD.go ok1 ((Res.sat_bind.mp k).imp (fun e _ k2 u G2 H2 g2 ok2 dq => ?_) fun _ z => z.grow g1)
  obtain ⟨r, er, k3⟩ := sat_ok (n d e) (Res.sat_bind.mp k2)
  obtain ⟨kb, eb, k4⟩ := sat_ok (isB_never r) (Res.sat_bind.mp k3)
  refine ⟨G2, d, e, r, ok2.gh, dp_mono g2.g _ _ dp, dq, er, fun z G3 H3 g3 dr => ?_⟩
  have ok3 := ok2.grow g3
  have g13 := (g1.trans g2).trans g3
  cases r with
  | bool b0 =>
    cases dr
    have e0 : b0 = kb := by cases eb; rfl
    subst e0
    refine ⟨b0, rfl, ?_⟩
    cases b0 with
    | true =>
      rw [if_pos rfl] at k4 ⊢
      refine tD.go ok3 ((Res.sat_bind.mp k4).imp (fun y _ k5 v4 G4 H4 g4 ok4 dz => ?_) fun _ z => z.grow g13)
      obtain ⟨r', er', k6⟩ := sat_ok (n' e y) k5
      exact ⟨G4, e, y, r', ok4.gh, dp_mono (g3.trans g4).g _ _ dq, dz, er', fun z5 G5 H5 g5 d5 => k6 z5 G5 H5 ((g13.trans g4).trans g5) d5⟩
    | false =>
      rw [if_neg Bool.false_ne_true] at k4 ⊢
      exact k4 _ G3 H3 g13 (.bl false)
  | _ => cases eb
theorem dt_chain {op op' : CmpOp} {o o' : PyData → PyData → Res PyData} (ho : OpR X (compareOp op) (rDat X.K o)) (ho' : OpR X (compareOp op') (rDat X.K o')) (ha : DE X W cm a f) (hb : DE X W cm b g) (hc : DE X W cm c h)
    (n : ∀ d e, Never (o d e)) (n' : ∀ d e, Never (o' d e)) (hm : lastMarks [op, op'] [b, c] = false := by with_unfolding_all rfl) : DT X W cm (.Compare a [op, op'] [b, c] pos) (fB (fChain o o' f g h)) :=
  pt_imp (pt_chain ho ho' ha hb hc hm) fun σ H Q q => t_chain n n' (t_test q)
end
end GL

/-! # The data layer: watches -/
namespace GL
open PySem PySem.Spec PyProof.Rows L2
/-- what is known of the class -/
structure WCls (K : PySem.W.Frag) (mg : Str → Option Value) (C : Addr) : Prop where
  ns : PySem.W.nsIn K mainGlobals "Watch" = some (some (.ref C))
  cl : Cls K C
  nM : NoAttr K C "machine"
  nT : NoAttr K C "text"
  nR : NoAttr K C "rows"
  mgC : mg "Watch" = some (.ref C)
abbrev flds (vm : V) (t : Str) (r : Addr) : List (Str × V) := [("machine", vm), ("text", .str t), ("rows", .ref r)]
theorem k_mt : ¬ (("machine" : Str) = "text") := by decide +kernel
theorem k_mr : ¬ (("machine" : Str) = "rows") := by decide +kernel
theorem k_tr : ¬ (("text" : Str) = "rows") := by decide +kernel
theorem flds_put (vm : V) (t t' : Str) (r : Addr) : putF "text" (.str t') (flds vm t r) = flds vm t' r := by
  show (if ("machine" : Str) = "text" then _ else (("machine" : Str), vm) :: (if ("text" : Str) = "text" then (("text" : Str), V.str t') :: _ else _)) = _
  rw [if_neg k_mt, if_pos rfl]
theorem flds_all (vm : V) (t : Str) (r : Addr) : putF "rows" (.ref r) (putF "text" (.str t) (putF "machine" vm [])) = flds vm t r := by
  have e1 : putF "text" (.str t) (putF "machine" vm []) = ([("machine", vm), ("text", V.str t)] : List (Str × V)) := by
    show (if ("machine" : Str) = "text" then _ else (("machine" : Str), vm) :: putF "text" (V.str t) []) = _
    rw [if_neg k_mt]
    rfl
  rw [e1]
  show (if ("machine" : Str) = "rows" then _ else (("machine" : Str), vm) :: (if ("text" : Str) = "rows" then _ else (("text" : Str), V.str t) :: putF "rows" (V.ref r) [])) = _
  rw [if_neg k_mr, if_neg k_tr]
  rfl
theorem look (vm : V) (t : Str) (r : Addr) (m : Str) : (flds vm t r).lookup m = if m = "rows" then some (.ref r) else if m = "text" then some (.str t) else if m = "machine" then some vm else none := by
  rw [← flds_all, lookup_putF, lookup_putF, lookup_putF]
  rfl
theorem look_m (vm : V) (t : Str) (r : Addr) : (flds vm t r).lookup ("machine" : Str) = some vm := by
  rw [look, if_neg k_mr, if_neg k_mt, if_pos rfl]
theorem look_t (vm : V) (t : Str) (r : Addr) : (flds vm t r).lookup ("text" : Str) = some (.str t) := by
  rw [look, if_neg k_tr, if_pos rfl]
theorem look_r (vm : V) (t : Str) (r : Addr) : (flds vm t r).lookup ("rows" : Str) = some (.ref r) := by
  rw [look, if_pos rfl]
/-- a watch in slot i, still or not -/
def wat? : Option (Option SV) → Option (PyData × Str × List PyData)
  | some (some (.wat _ m t rows)) => some (m, t, rows)
  | some (some (.waz m t rows)) => some (m, t, rows)
  | _ => none
section
variable {P : Program} {w : World} {K : PySem.W.Frag} {G0 H0 G H : Hp} {env : En} {σ : L2.St}
theorem OkG.watch (ok : OkG P w K G0 H0 G env σ H) {i : Nat} {m : PyData} {t : Str} {rows : List PyData} (h : wat? env[i]? = some (m, t, rows)) : ∃ x C dx r, σ[i]? = some (some (.ref x)) ∧ WatAt K G H x C dx r m t rows := by
  unfold wat? at h
  split at h
  · rename_i l m' t' rows' hi
    cases h
    obtain ⟨v, hv, x, C, dx, r, rfl, hw, _⟩ := ok.sl i _ hi
    exact ⟨x, C, dx, r, hv, hw⟩
  · rename_i m' t' rows' hi
    cases h
    obtain ⟨v, hv, x, C, dx, r, rfl, hw⟩ := ok.sl i _ hi
    exact ⟨x, C, dx, r, hv, hw.grow (Same.refl G) fun a o _ q => ok.gr.h _ _ q⟩
  · cases h
end
def fWm (i : Nat) : En → Res PyData := fun env => match wat? env[i]? with
  | some (m, _, _) => .ok m
  | none => .no
def fWt (i : Nat) : En → Res PyData := fun env => match wat? env[i]? with
  | some (_, t, _) => .ok (.str t)
  | none => .no
def fWr (i : Nat) : En → Res (Bool × List PyData) := fun env => match wat? env[i]? with
  | some (_, _, rows) => .ok (false, rows)
  | none => .no
theorem cls_eq {K : PySem.W.Frag} {mg : Str → Option Value} {C C' : Addr} (T : WCls K mg C) (h : PySem.W.nsIn K mainGlobals "Watch" = some (some (.ref C'))) : C' = C := by
  rw [T.ns] at h
  cases h
  rfl
section
variable {X : Cx} {W : WX} {cm : Str → Addr} {x : Str} {pos p p' apos pos' : Pos} {f : En → Res PyData} {C : Addr} {e : Expr}
theorem de_wM (i : Nat) (T : WCls X.K X.mg C) (hN : X.N[i]? = some x := by rfl) (hv : Vis X.env.scope x := by first | exact Or.inl rfl | exact Or.inr (Or.inl rfl) | exact Or.inr (Or.inr rfl)) (hd : (x == ("__debug__" : Str)) = false := by decide)
    (hcd : (x == ("__classdict__" : Str)) = false := by decide) (hb : attributeBase (.Name x p) "machine" X.env (eval (.Name x p) X.env) = eval (.Name x p) X.env := by rfl) : DE X W cm (.Attribute (.Name x p) "machine" pos) (fWm i) :=
  pe_imp (pe_fld (pe_var hN hv hd hcd) hb) fun σ H Q h => by
    obtain ⟨G0, H0, G, env, ok, h⟩ := h
    unfold fWm at h
    split at h
    · rename_i m t rows hi
      obtain ⟨y, C', dx, r, hs, hw⟩ := ok.watch hi
      have ec := cls_eq T hw.cls
      subst ec
      obtain ⟨vm, hx, dm⟩ := hw.ins
      exact ⟨.ref y, hs, y, C', dx, _, vm, rfl, hx, T.cl, T.nM, look_m _ _ _, h vm G H (Grow.refl ok.gh) dm⟩
    · exact h.elim
theorem de_wT (i : Nat) (T : WCls X.K X.mg C) (hN : X.N[i]? = some x := by rfl) (hv : Vis X.env.scope x := by first | exact Or.inl rfl | exact Or.inr (Or.inl rfl) | exact Or.inr (Or.inr rfl)) (hd : (x == ("__debug__" : Str)) = false := by decide)
    (hcd : (x == ("__classdict__" : Str)) = false := by decide) (hb : attributeBase (.Name x p) "text" X.env (eval (.Name x p) X.env) = eval (.Name x p) X.env := by rfl) : DE X W cm (.Attribute (.Name x p) "text" pos) (fWt i) :=
  pe_imp (pe_fld (pe_var hN hv hd hcd) hb) fun σ H Q h => by
    obtain ⟨G0, H0, G, env, ok, h⟩ := h
    unfold fWt at h
    split at h
    · rename_i m t rows hi
      obtain ⟨y, C', dx, r, hs, hw⟩ := ok.watch hi
      have ec := cls_eq T hw.cls
      subst ec
      obtain ⟨vm, hx, dm⟩ := hw.ins
      exact ⟨.ref y, hs, y, C', dx, _, _, rfl, hx, T.cl, T.nT, look_t _ _ _, h _ G H (Grow.refl ok.gh) (.str t)⟩
    · exact h.elim
theorem dq_wR (i : Nat) (T : WCls X.K X.mg C) (hN : X.N[i]? = some x := by rfl) (hv : Vis X.env.scope x := by first | exact Or.inl rfl | exact Or.inr (Or.inl rfl) | exact Or.inr (Or.inr rfl)) (hd : (x == ("__debug__" : Str)) = false := by decide)
    (hcd : (x == ("__classdict__" : Str)) = false := by decide) (hb : attributeBase (.Name x p) "rows" X.env (eval (.Name x p) X.env) = eval (.Name x p) X.env := by rfl) : DQ X W cm (.Attribute (.Name x p) "rows" pos) (fWr i) :=
  pe_imp (pe_fld (pe_var hN hv hd hcd) hb) fun σ H Q h => by
    obtain ⟨G0, H0, G, env, ok, h⟩ := h
    unfold fWr at h
    split at h
    · rename_i m t rows hi
      obtain ⟨y, C', dx, r, hs, hw⟩ := ok.watch hi
      have ec := cls_eq T hw.cls
      subst ec
      obtain ⟨vm, hx, dm⟩ := hw.ins
      obtain ⟨vs, hr, da⟩ := hw.rws
      exact ⟨.ref y, hs, y, C', dx, _, _, rfl, hx, T.cl, T.nR, look_r _ _ _, h r vs G H (Grow.refl ok.gh) (sqb_l (.inl (.inl hr))) da⟩
    · exact h.elim
/-! ### changes -/
theorem WatAt.ne {K : PySem.W.Frag} {G H : Hp} {x C dx r : Addr} {m : PyData} {t : Str} {rows : List PyData} (h : WatAt K G H x C dx r m t rows) : r ≠ x ∧ dx ≠ x ∧ dx ≠ r := by
  obtain ⟨vm, hx, _⟩ := h.ins
  obtain ⟨vs, hr, _⟩ := h.rws
  have ho := h.own
  refine ⟨fun e => ?_, fun e => ?_, fun e => ?_⟩
  · rw [e, hx] at hr; cases hr
  · rw [e, hx] at ho; cases ho
  · rw [e, hr] at ho; cases ho
/-- the text of a watch is set -/
theorem OkG.watT {P : Program} {w : World} {K : PySem.W.Frag} {G0 H0 G H : Hp} {env : En} {σ : L2.St} (ok : OkG P w K G0 H0 G env σ H) {i : Nat} {l : Option (Addr × Addr × Addr)} {m : PyData} {t : Str} {rows : List PyData} (hi : env[i]? = some (some (.wat l m t rows))) (t' : Str) :
    ∃ y C dx r vm, σ[i]? = some (some (.ref y)) ∧ H y = some (.ins C dx (flds vm t r)) ∧ PySem.W.nsIn K mainGlobals "Watch" = some (some (.ref C)) ∧ OkG P w K G0 H0 G (env.set i (some (.wat l m t' rows))) σ (upd H y (.ins C dx (flds vm t' r))) := by
  obtain ⟨v, hv, y, C, dx, r, rfl, hw, hl, h1, h2, h3⟩ := ok.sl i _ hi
  obtain ⟨vm, hx, dm⟩ := hw.ins
  obtain ⟨vs, hr, da⟩ := hw.rws
  obtain ⟨n1, n2, n3⟩ := hw.ne
  have hw' : WatAt K G (upd H y (.ins C dx (flds vm t' r))) y C dx r m t' rows := ⟨hw.cls, ⟨vm, upd_same, dm⟩, by rw [upd_ne n2]; exact hw.own, ⟨vs, by rw [upd_ne n1]; exact hr, da⟩⟩
  refine ⟨y, C, dx, r, vm, hv, hx, hw.cls, ok.mutF hi rfl hv (fun a o n e => by rw [upd_ne (fun q => n (.inl (by rw [q])))]; exact e) (fun a f => ?_) ⟨y, C, dx, r, rfl, hw', hl, h1, h2, h3⟩⟩
  rcases hw'.fp f with rfl | rfl | rfl
  · exact fp_self
  · exact hw.fpd
  · exact hw.fpr
theorem OkG.watR {P : Program} {w : World} {K : PySem.W.Frag} {G0 H0 G H : Hp} {env : En} {σ : L2.St} (ok : OkG P w K G0 H0 G env σ H) {i : Nat} {l : Option (Addr × Addr × Addr)} {m : PyData} {t : Str} {rows : List PyData} (hi : env[i]? = some (some (.wat l m t rows))) :
    ∃ y C dx r vm vs, σ[i]? = some (some (.ref y)) ∧ H y = some (.ins C dx (flds vm t r)) ∧ PySem.W.nsIn K mainGlobals "Watch" = some (some (.ref C)) ∧ H r = some (.lst vs) ∧ DpAll K G vs rows ∧
      ∀ vs' rows', DpAll K G vs' rows' → OkG P w K G0 H0 G (env.set i (some (.wat l m t rows'))) σ (upd H r (.lst vs')) := by
  obtain ⟨v, hv, y, C, dx, r, rfl, hw, hl, h1, h2, h3⟩ := ok.sl i _ hi
  obtain ⟨vm, hx, dm⟩ := hw.ins
  obtain ⟨vs, hr, da⟩ := hw.rws
  obtain ⟨n1, n2, n3⟩ := hw.ne
  refine ⟨y, C, dx, r, vm, vs, hv, hx, hw.cls, hr, da, fun vs' rows' da' => ?_⟩
  have hw' : WatAt K G (upd H r (.lst vs')) y C dx r m t rows' := ⟨hw.cls, ⟨vm, by rw [upd_ne (Ne.symm n1)]; exact hx, dm⟩, by rw [upd_ne n3]; exact hw.own, ⟨vs', upd_same, da'⟩⟩
  refine ok.mutF hi rfl hv (fun a o n e => by rw [upd_ne (fun q => n (by rw [q]; exact hw.fpr))]; exact e) (fun a f => ?_) ⟨y, C, dx, r, rfl, hw', hl, h1, h2, h3⟩
  rcases hw'.fp f with rfl | rfl | rfl
  · exact fp_self
  · exact hw.fpd
  · exact hw.fpr
def wSetO (i : Nat) (env : En) : Option (Option SV) → PyData → Out
  | some (some (.wat l m _ rows)), .str t' => .nx (env.set i (some (.wat l m t' rows)))
  | _, _ => .no
def sWset (i : Nat) (f : En → Res PyData) : En → Out := fun env => .ofR (f env) env fun d => wSetO i env env[i]? d
theorem ds_wSet (i : Nat) (T : WCls X.K X.mg C) (he : DE X W cm e f) (hN : X.N[i]? = some x := by rfl) (hv : Vis X.env.scope x := by first | exact Or.inl rfl | exact Or.inr (Or.inl rfl) | exact Or.inr (Or.inr rfl)) (hd : (x == ("__debug__" : Str)) = false := by decide)
    (hcd : (x == ("__classdict__" : Str)) = false := by decide) (hs : swapsWith e (some (.Attribute (.Name x p) "text" pos')) pos.line X.env = pure false := by rfl) : DS X W cm (.Assign [.Attribute (.Name x p) "text" pos'] e pos) (sWset i f) :=
  ps_imp (ps_fld (pe_var hN hv hd hcd) he hs) fun D σ H q => by
    obtain ⟨G0, H0, G, env, ok, q⟩ := q
    show tD X.prog X.w X.K W cm f σ H fun y H1 => tVar i σ H1 fun z H2 => _
    refine tD.go ok (OutP.ofR ok q fun d _ k v G1 H1 g1 ok1 dp => ?_)
    generalize hi : env[i]? = o at k
    unfold wSetO at k
    split at k
    · rename_i t' _
      cases dp
      obtain ⟨y, C', dx, r, vm, hs, hx, hc, ok2⟩ := ok1.watT hi t'
      have ec := cls_eq T hc
      subst ec
      refine ⟨.ref y, hs, y, C', dx, _, rfl, hx, T.cl, T.nT, by show 3 < 1000; decide, ?_⟩
      rw [flds_put]
      exact k G1 σ _ g1.g ok2
    · exact k.elim
def wAppO (i : Nat) (env : En) (d : PyData) : Option (Option SV) → Out
  | some (some (.wat l m t rows)) => if rows.length < sizeLine then .nx (env.set i (some (.wat l m t (rows ++ [d])))) else .no
  | _ => .no
def isWat : Option (Option SV) → Bool
  | some (some (.wat _ _ _ _)) => true
  | _ => false
def sWapp (i : Nat) (f : En → Res PyData) : En → Out := fun env => if isWat env[i]? then .ofR (f env) env fun d => wAppO i env d env[i]? else .no
theorem ds_wApp (i : Nat) (T : WCls X.K X.mg C) {e : Expr} (h : PE X e (tBM X.K "list" rAppend (tFld X.K (tVar i) "rows") (tCons (tD X.prog X.w X.K W cm f) tNil))) (hs : swapsWith e none pos.line X.env = pure false := by rfl) : DS X W cm (.Expr e pos) (sWapp i f) := ps_imp (ps_expr h hs) fun D σ H q => by
  obtain ⟨G0, H0, G, env, ok, q⟩ := q
  unfold sWapp at q
  split at q
  · rename_i hb
    obtain ⟨l, m, t, rows, hi⟩ : ∃ l m t rows, env[i]? = some (some (.wat l m t rows)) := by
      generalize env[i]? = o at hb ⊢
      unfold isWat at hb
      split at hb
      · exact ⟨_, _, _, _, rfl⟩
      · cases hb
    obtain ⟨y, C', dx, r, vm, vs, hs, hx, hc, hr, da, _⟩ := ok.watR hi
    have ec := cls_eq T hc
    subst ec
    refine ⟨.ref y, hs, y, C', dx, _, _, rfl, hx, T.cl, T.nR, look_r _ _ _, tyL hr, ?_⟩
    refine tD.go ok (OutP.ofR ok q fun d _ k u G1 H1 g1 ok1 dp => ?_)
    rw [hi] at k
    have k : OutP X.prog X.w X.K W cm G0 H0 G D (if rows.length < sizeLine then .nx (env.set i (some (.wat l m t (rows ++ [d])))) else .no) := k
    · split at k
      · rename_i hlt
        obtain ⟨y2, C2, dx2, r2, vm2, vs2, hs2, hx2, hc2, hr2, da2, mk⟩ := ok1.watR hi
        rw [hs] at hs2
        cases hs2
        have hx1 := g1.h _ _ hx
        rw [hx1] at hx2
        have er : r2 = r := by
          have := congrArg (fun o : Option HO => match o with | some (.ins _ _ fs) => fs.lookup ("rows" : Str) | _ => none) hx2
          simp only [look_r] at this
          cases this
          rfl
        subst er
        have hr1 := g1.h _ _ hr
        rw [hr1] at hr2
        cases hr2
        exact ⟨_, vs, u, rfl, rfl, hr1, by rw [dpAll_length da]; exact hlt, k G1 σ _ g1.g (mk _ _ (dpAll_app da2 (dpAll_one dp)))⟩
      · exact k.elim
  · exact q.elim
def wPopO (i : Nat) (env : En) : Option (Option SV) → Out
  | some (some (.wat l m t rows)) => if rows = [] then .no else .nx (env.set i (some (.wat l m t rows.dropLast)))
  | _ => .no
def sWpop (i : Nat) : En → Out := fun env => wPopO i env env[i]?
theorem ds_wPop (i : Nat) (T : WCls X.K X.mg C) {e : Expr} (h : PE X e (tBM0 X.K "list" rPop (tFld X.K (tVar i) "rows"))) (hs : swapsWith e none pos.line X.env = pure false := by rfl) : DS X W cm (.Expr e pos) (sWpop i) := ps_imp (ps_expr h hs) fun D σ H q => by
  obtain ⟨G0, H0, G, env, ok, q⟩ := q
  unfold sWpop at q
  generalize hi : env[i]? = o at q
  unfold wPopO at q
  split at q
  · rename_i l m t rows
    split at q
    · exact q.elim
    · rename_i hne
      obtain ⟨y, C', dx, r, vm, vs, hs, hx, hc, hr, da, mk⟩ := ok.watR hi
      have ec := cls_eq T hc
      subst ec
      have hl := dpAll_length da
      have hpos : 0 < rows.length := List.length_pos_iff.mpr hne
      refine ⟨.ref y, hs, y, C', dx, _, _, rfl, hx, T.cl, T.nR, look_r _ _ _, tyL hr, r, vs, vs[vs.length - 1]'(by omega), rfl, rfl, hr, List.getElem?_eq_getElem (by omega), ?_⟩
      exact q G σ _ (Same.refl G) (mk _ _ (dpAll_dropLast da))
  · exact q.elim
end
section
variable (env : En) (i : Nat) (f : En → Res PyData)
@[simp] theorem wat?_w (l : Option (Addr × Addr × Addr)) (m : PyData) (t : Str) (rows : List PyData) : wat? (some (some (.wat l m t rows))) = some (m, t, rows) := (rfl)
@[simp] theorem wat?_z (m : PyData) (t : Str) (rows : List PyData) : wat? (some (some (.waz m t rows))) = some (m, t, rows) := (rfl)
@[simp] theorem fWm_e : fWm i env = (match wat? env[i]? with
  | some (m, _, _) => .ok m
  | none => .no) := (rfl)
@[simp] theorem fWt_e : fWt i env = (match wat? env[i]? with
  | some (_, t, _) => .ok (.str t)
  | none => .no) := (rfl)
@[simp] theorem fWr_e : fWr i env = (match wat? env[i]? with
  | some (_, _, rows) => .ok (false, rows)
  | none => .no) := (rfl)
@[simp] theorem sWset_e : sWset i f env = .ofR (f env) env fun d => wSetO i env env[i]? d := (rfl)
@[simp] theorem wSetO_e (l : Option (Addr × Addr × Addr)) (m : PyData) (t t' : Str) (rows : List PyData) : wSetO i env (some (some (.wat l m t rows))) (.str t') = .nx (env.set i (some (.wat l m t' rows))) := (rfl)
@[simp] theorem sWapp_e : sWapp i f env = if isWat env[i]? then .ofR (f env) env fun d => wAppO i env d env[i]? else .no := (rfl)
@[simp] theorem isWat_e (l : Option (Addr × Addr × Addr)) (m : PyData) (t : Str) (rows : List PyData) : isWat (some (some (.wat l m t rows))) = true := (rfl)
@[simp] theorem wAppO_e (l : Option (Addr × Addr × Addr)) (m : PyData) (t : Str) (rows : List PyData) (d : PyData) : wAppO i env d (some (some (.wat l m t rows))) = if rows.length < sizeLine then .nx (env.set i (some (.wat l m t (rows ++ [d])))) else .no := (rfl)
@[simp] theorem sWpop_e : sWpop i env = wPopO i env env[i]? := (rfl)
@[simp] theorem wPopO_e (l : Option (Addr × Addr × Addr)) (m : PyData) (t : Str) (rows : List PyData) : wPopO i env (some (some (.wat l m t rows))) = if rows = [] then .no else .nx (env.set i (some (.wat l m t rows.dropLast))) := (rfl)
end
end GL

/-! # The data layer: defs that are handed a watch -/
namespace GL
open PySem PySem.Spec PyProof.Rows L2
/-- what such a def comes to: a value and what the watch is then -/
inductive WRes where
  | ok (d m : PyData) (t : Str) (rows : List PyData)
  | ex (x : Str) (m : PyData) (t : Str) (rows : List PyData)
  | no
/-- all but the watch at x stays -/
structure GrowW (x dx r : Addr) (G H G' H' : Hp) : Prop where
  g : Same G G'
  gh : Same G' H'
  h : ∀ a o, a ≠ x → a ≠ dx → a ≠ r → H a = some o → H' a = some o
  old : ∀ a, H a ≠ none → G' a = G a
/-- a watch of one's own -/
structure WOwn (K : PySem.W.Frag) (G H : Hp) (x C dx r : Addr) (m : PyData) (t : Str) (rows : List PyData) : Prop where
  at_ : WatAt K G H x C dx r m t rows
  gx : G x = none
  gd : G dx = none
  gr : G r = none
def WRes.sat (q : WRes) (K : PySem.W.Frag) (cm : Str → Addr) (x C dx r : Addr) (G H : Hp) (Q : VK) (E : XK) : Prop := match q with
  | .ok d m t rows => ∀ v G' H', GrowW x dx r G H G' H' → WOwn K G' H' x C dx r m t rows → Dp K G' v d → Q v H'
  | .ex y m t rows => ∀ G' H', GrowW x dx r G H G' H' → WOwn K G' H' x C dx r m t rows → E (.ref (cm y)) none H'
  | .no => False
def spW (K : PySem.W.Frag) (cm : Str → Addr) (C : Addr) (n : Nat) (F : PyData → Str → List PyData → List PyData → WRes) : Sp := fun vs H Q E => vs.length = n + 1 ∧ ∃ (G : Hp) (x dx r : Addr) (m : PyData) (t : Str) (rows : List PyData) (ws : List V) (ds : List PyData), vs = .ref x :: ws ∧ Same G H ∧ WOwn K G H x C dx r m t rows ∧ DpAll K G ws ds ∧ (F m t rows ds).sat K cm x C dx r G H Q E
/-- one that only looks at it -/
def spR (K : PySem.W.Frag) (cm : Str → Addr) (C : Addr) (n : Nat) (F : PyData → Str → List PyData → List PyData → Res PyData) : Sp := fun vs H Q E => vs.length = n + 1 ∧ ∃ (G : Hp) (x dx r : Addr) (m : PyData) (t : Str) (rows : List PyData) (ws : List V) (ds : List PyData), vs = .ref x :: ws ∧ Same G H ∧ WatAt K G H x C dx r m t rows ∧ DpAll K G ws ds ∧
  (F m t rows ds).sat (fun d => ∀ v G' H', Grow G H G' H' → Dp K G' v d → Q v H') fun y => ∀ G' H', Grow G H G' H' → E (.ref (cm y)) none H'
/-- the body g comes to F -/
def RunsW (g : En → Out) (N n : Nat) (F : PyData → Str → List PyData → List PyData → WRes) : Prop := ∀ (l : Addr × Addr × Addr) (m : PyData) (t : Str) (rows ds : List PyData), ds.length = n → match F m t rows ds with
  | .ok d m' t' rows' => (∃ e, g (some (.wat (some l) m t rows) :: initE (N - 1) ds) = .rw d (some (.wat (some l) m' t' rows') :: e)) ∨ (d = .none ∧ ∃ e, g (some (.wat (some l) m t rows) :: initE (N - 1) ds) = .nx (some (.wat (some l) m' t' rows') :: e))
  | .ex y m' t' rows' => ∃ e, g (some (.wat (some l) m t rows) :: initE (N - 1) ds) = .ex y (some (.wat (some l) m' t' rows') :: e)
  | .no => True
def runR (g : En → Out) (N : Nat) : PyData → Str → List PyData → List PyData → Res PyData := fun m t rows ds => match g (some (.waz m t rows) :: initE (N - 1) ds) with
  | .nx _ => .ok .none
  | .rt d => .ok d
  | .rw d _ => .ok d
  | .ex x _ => .ex x
  | _ => .no
section
variable {P : Program} {w : World} {K : PySem.W.Frag}
theorem start_cons {N : List Str} {v : V} {ws : List V} (hN : 1 ≤ N.length) : L2.start N (v :: ws) = some v :: ((ws.map some) ++ List.replicate (N.length - 1 - ws.length) none) := by
  unfold L2.start
  rw [List.map_cons, List.cons_append, List.length_cons]
  have e : N.length - (ws.length + 1) = N.length - 1 - ws.length := by omega
  rw [e]
/-- the start of a def whose first argument is a watch -/
theorem ok_startW {G H : Hp} {N : List Str} {ws : List V} {ds : List PyData} {x C dx r : Addr} {m : PyData} {t : Str} {rows : List PyData} (hN : 1 ≤ N.length) (gh : Same G H) (hw : WOwn K G H x C dx r m t rows) (da : DpAll K G ws ds) :
    ∃ H0, Grow G H0 G H ∧ (∀ a o, a ≠ x → a ≠ dx → a ≠ r → H a = some o → H0 a = some o) ∧ (∀ a, H0 a ≠ none → a ≠ x ∧ a ≠ dx ∧ a ≠ r ∧ H0 a = H a) ∧ OkG P w K G H0 G (some (.wat (some (x, dx, r)) m t rows) :: initE (N.length - 1) ds) (L2.start N (.ref x :: ws)) H := by
  classical
  obtain ⟨H0, e0⟩ : ∃ H0 : Hp, H0 = fun a => if a = x ∨ a = dx ∨ a = r then none else H a := ⟨_, rfl⟩
  have k1 : ∀ a o, a ≠ x → a ≠ dx → a ≠ r → H a = some o → H0 a = some o := fun a o h1 h2 h3 e => by
    rw [e0]
    show (if a = x ∨ a = dx ∨ a = r then none else H a) = some o
    rw [if_neg (by rintro (z | z | z) <;> contradiction)]
    exact e
  have k2 : ∀ a, H0 a ≠ none → a ≠ x ∧ a ≠ dx ∧ a ≠ r ∧ H0 a = H a := fun a h => by
    rw [e0] at h ⊢
    by_cases z : a = x ∨ a = dx ∨ a = r
    · exact absurd (if_pos z) h
    · exact ⟨fun q => z (.inl q), fun q => z (.inr (.inl q)), fun q => z (.inr (.inr q)), if_neg z⟩
  have kn : ∀ a, a = x ∨ a = dx ∨ a = r → H0 a = none := fun a z => by
    rw [e0]
    exact if_pos z
  have gr : Grow G H0 G H := ⟨fun a o e => by
    obtain ⟨_, _, _, q⟩ := k2 a (some_ne_none e)
    rw [← q]
    exact e, Same.refl G, gh, fun _ _ => rfl⟩
  refine ⟨H0, gr, k1, k2, gr, ?_, fun i s h => ?_, fun i j s t' u v a h1 h2 m1 m2 e1 e2 f1 f2 => ?_⟩
  · rw [start_cons hN]
    unfold initE
    simp [dpAll_length da]
  · match i with
    | 0 =>
      cases h
      refine ⟨.ref x, by rw [start_cons hN]; rfl, x, C, dx, r, rfl, hw.at_, fun y hy => by cases hy; rfl, ⟨kn _ (.inl rfl), hw.gx⟩, ⟨kn _ (.inr (.inl rfl)), hw.gd⟩, ⟨kn _ (.inr (.inr rfl)), hw.gr⟩⟩
    | i + 1 =>
      rw [List.getElem?_cons_succ] at h
      obtain ⟨d, hd, rfl⟩ := initE_get h
      obtain ⟨v, hv, dp⟩ := dpAll_get da hd
      exact ⟨v, start_get (i := i + 1) (by simpa using hv), dp⟩
  · have z : ∀ {i : Nat} {s : SV}, (some (SV.wat (some (x, dx, r)) m t rows) :: initE (N.length - 1) ds)[i]? = some (some s) → s.mu = true → i = 0 := fun {i s} h hm => by
      match i with
      | 0 => rfl
      | i + 1 =>
        rw [List.getElem?_cons_succ] at h
        obtain ⟨d, _, rfl⟩ := initE_get h
        cases hm
    rw [z h1 m1, z h2 m2]
theorem ok_endW {G H H0 : Hp} {e : En} {σ : L2.St} {G' H' : Hp} {x dx r C : Addr} {m : PyData} {t : Str} {rows : List PyData} (k1 : ∀ a o, a ≠ x → a ≠ dx → a ≠ r → H a = some o → H0 a = some o) (gxo : G x = none ∧ G dx = none ∧ G r = none) (hc : PySem.W.nsIn K mainGlobals "Watch" = some (some (.ref C)))
    (ok : OkG P w K G H0 G' (some (.wat (some (x, dx, r)) m t rows) :: e) σ H') : GrowW x dx r G H G' H' ∧ WOwn K G' H' x C dx r m t rows := by
  obtain ⟨v, hv, x', C', dx', r', rfl, hw, hl, ⟨a1, a2⟩, ⟨b1, b2⟩, ⟨c1, c2⟩⟩ := ok.sl 0 _ rfl
  have e0 := hl _ rfl
  cases e0
  have ec : C' = C := by
    have := hw.cls
    rw [hc] at this
    cases this
    rfl
  subst ec
  refine ⟨⟨ok.gr.g, ok.gr.gh, fun a o h1 h2 h3 z => ok.gr.h _ _ (k1 a o h1 h2 h3 z), fun a ha => ?_⟩, ⟨hw, a2, b2, c2⟩⟩
  by_cases h1 : a = x
  · subst h1; rw [a2, gxo.1]
  · by_cases h2 : a = dx
    · subst h2; rw [b2, gxo.2.1]
    · by_cases h3 : a = r
      · subst h3; rw [c2, gxo.2.2]
      · cases hH : H a with
        | none => exact absurd hH ha
        | some o => exact ok.gr.old a (some_ne_none (k1 a o h1 h2 h3 hH))
end
section
variable {P : Program} {w : World} {K : PySem.W.Frag} {mg : Str → Option Value} {base : Heap} {cm : Str → Addr}
theorem fnW {x qual : Str} {st : Stmt} {f C : Addr} {fd : FuncData} {N ps : List Str} {k n : Nat} {g : En → Out} {Fn : PyData → Str → List PyData → List PyData → WRes} (T : WCls K mg C) (F : Fun K x qual st f fd) (S : FnScope N ps (defScope st)) (hR : RunsW g N.length n Fn) (hps : ps.length = n + 1) (hN : 1 ≤ N.length)
    (hbody : ∀ (cdv : Value) (A : Around) (outer : List Env) (s : Shared) (H : Hp) (E : XK), Room k (A.deeper (envOfC qual (defScope st) s.heap.objs.size f cdv)) →
      Takes (cxOf (L2.CX P w) P w K mg base N qual (defScope st) f cdv A outer s H E) (WD E) → PassesOwn (model P w) (A.deeper (envOfC qual (defScope st) s.heap.objs.size f cdv)) (envOfC qual (defScope st) s.heap.objs.size f cdv) (cxOf (L2.CX P w) P w K mg base N qual (defScope st) f cdv A outer s H E).xe →
      PSs (cxOf (L2.CX P w) P w K mg base N qual (defScope st) f cdv A outer s H E) (defBody st) (tS P w K (WD E) cm g)) : FnOk P w K mg base (L2.CX P w) (k + 1) f fd ps (spW K cm C n Fn) := by
  refine F.okX S (fun vs H Q E h => by rw [hps]; exact h.1) (fun cdv A outer s H vs Q E hr h => ⟨_, hbody cdv A outer s H E hr (takes_of rfl rfl rfl rfl) (passes_of rfl), ?_⟩)
  obtain ⟨hl, G, x, dx, r, m, t, rows, ws, ds, rfl, gh, hw, da, h⟩ := h
  obtain ⟨H0, gr, k1, k2, ok⟩ := ok_startW (P := P) (w := w) (N := N) hN gh hw da
  have gxo := (⟨hw.gx, hw.gd, hw.gr⟩ : G x = none ∧ G dx = none ∧ G r = none)
  have hlen : ds.length = n := by rw [← dpAll_length da]; simpa using hl
  refine ⟨G, H0, G, _, ok, ?_⟩
  have hg := hR (x, dx, r) m t rows ds hlen
  cases hF : Fn m t rows ds with
  | no => rw [hF] at h; exact h.elim
  | ok d m' t' rows' =>
    rw [hF] at h hg
    rcases hg with ⟨e, eg⟩ | ⟨rfl, e, eg⟩
    · rw [eg]
      intro v G' σ' H' s ok' dp
      obtain ⟨h1, h2⟩ := ok_endW k1 gxo T.ns ok'
      exact h v G' H' h1 h2 dp
    · rw [eg]
      intro G' σ' H' s ok'
      obtain ⟨h1, h2⟩ := ok_endW k1 gxo T.ns ok'
      exact h _ G' H' h1 h2 .non
  | ex y m' t' rows' =>
    rw [hF] at h hg
    obtain ⟨e, eg⟩ := hg
    rw [eg]
    intro G' σ' H' s ok'
    obtain ⟨h1, h2⟩ := ok_endW k1 gxo T.ns ok'
    exact h G' H' h1 h2
theorem fnR {x qual : Str} {st : Stmt} {f C : Addr} {fd : FuncData} {N ps : List Str} {k n : Nat} {g : En → Out} (T : WCls K mg C) (F : Fun K x qual st f fd) (S : FnScope N ps (defScope st)) (hps : ps.length = n + 1) (hN : 1 ≤ N.length)
    (hbody : ∀ (cdv : Value) (A : Around) (outer : List Env) (s : Shared) (H : Hp) (E : XK), Room k (A.deeper (envOfC qual (defScope st) s.heap.objs.size f cdv)) →
      Takes (cxOf (L2.CX P w) P w K mg base N qual (defScope st) f cdv A outer s H E) (WD E) → PassesOwn (model P w) (A.deeper (envOfC qual (defScope st) s.heap.objs.size f cdv)) (envOfC qual (defScope st) s.heap.objs.size f cdv) (cxOf (L2.CX P w) P w K mg base N qual (defScope st) f cdv A outer s H E).xe →
      PSs (cxOf (L2.CX P w) P w K mg base N qual (defScope st) f cdv A outer s H E) (defBody st) (tS P w K (WD E) cm g)) : FnOk P w K mg base (L2.CX P w) (k + 1) f fd ps (spR K cm C n (runR g N.length)) := by
  refine F.okX S (fun vs H Q E h => by rw [hps]; exact h.1) (fun cdv A outer s H vs Q E hr h => ⟨_, hbody cdv A outer s H E hr (takes_of rfl rfl rfl rfl) (passes_of rfl), ?_⟩)
  obtain ⟨hl, G, x, dx, r, m, t, rows, ws, ds, rfl, gh, hw, da, h⟩ := h
  have ok : OkG P w K G H G (some (.waz m t rows) :: initE (N.length - 1) ds) (L2.start N (.ref x :: ws)) H := by
    refine ⟨Grow.refl gh, ?_, fun i s h => ?_, fun i j s t' u v a h1 h2 m1 m2 e1 e2 f1 f2 => ?_⟩
    · rw [start_cons hN]
      unfold initE
      simp [dpAll_length da]
    · match i with
      | 0 =>
        cases h
        exact ⟨.ref x, by rw [start_cons hN]; rfl, x, C, dx, r, rfl, hw⟩
      | i + 1 =>
        rw [List.getElem?_cons_succ] at h
        obtain ⟨d, hd, rfl⟩ := initE_get h
        obtain ⟨v, hv, dp⟩ := dpAll_get da hd
        exact ⟨v, start_get (i := i + 1) (by simpa using hv), dp⟩
    · match i with
      | 0 => cases h1; cases m1
      | i + 1 =>
        rw [List.getElem?_cons_succ] at h1
        obtain ⟨d, _, rfl⟩ := initE_get h1
        cases m1
  refine ⟨G, H, G, _, ok, ?_⟩
  unfold runR at h
  cases eg : g (some (.waz m t rows) :: initE (N.length - 1) ds) with
  | nx e => rw [eg] at h; exact fun G' σ' H' s ok' => h _ G' H' ok'.gr .non
  | rt d => rw [eg] at h; exact fun v G' H' gr dp => h v G' H' gr dp
  | rw d e => rw [eg] at h; exact fun v G' σ' H' s ok' dp => h v G' H' ok'.gr dp
  | rl ds => rw [eg] at h; exact h.elim
  | ex x e => rw [eg] at h; exact fun G' σ' H' s ok' => h G' H' ok'.gr
  | no => rw [eg] at h; exact h.elim
end
end GL

/-! # The data layer: calls that are handed a watch -/
namespace GL
open PySem PySem.Spec PyProof.Rows L2
section
variable {P : Program} {w : World} {K : PySem.W.Frag} {G0 H0 G H : Hp} {env : En} {σ : L2.St}
/-- a watch in slot i was changed by others -/
theorem OkG.mutW (ok : OkG P w K G0 H0 G env σ H) {i : Nat} {l : Option (Addr × Addr × Addr)} {m : PyData} {t : Str} {rows : List PyData} (hi : env[i]? = some (some (.wat l m t rows))) {x C dx r : Addr} (hv : σ[i]? = some (some (.ref x))) (hw : WatAt K G H x C dx r m t rows) (hl : ∀ y, l = some y → y = (x, dx, r))
    (h0 : H0 x = none ∧ H0 dx = none ∧ H0 r = none) {G' H' : Hp} (gw : GrowW x dx r G H G' H') {m' : PyData} {t' : Str} {rows' : List PyData} (ho : WOwn K G' H' x C dx r m' t' rows') : OkG P w K G0 H0 G' (env.set i (some (.wat l m' t' rows'))) σ H' := by
  have fpn : ∀ {j : Nat} {s : SV} {v : V} {p : Addr}, i ≠ j → env[j]? = some (some s) → s.mu = true → σ[j]? = some (some v) → Fp H v p → p ≠ x ∧ p ≠ dx ∧ p ≠ r := fun {j s v p} hj hs hm hsv f => by
    refine ⟨fun e => ?_, fun e => ?_, fun e => ?_⟩
    · subst e; exact hj (ok.ap i j _ s _ v _ hi hs rfl hm hv hsv fp_self f)
    · subst e; exact hj (ok.ap i j _ s _ v _ hi hs rfl hm hv hsv hw.fpd f)
    · subst e; exact hj (ok.ap i j _ s _ v _ hi hs rfl hm hv hsv hw.fpr f)
  have other : ∀ {j : Nat} {s : SV} {v : V}, i ≠ j → env[j]? = some (some s) → s.mu = true → σ[j]? = some (some v) → ∀ p o, Fp H v p → H p = some o → H' p = some o := fun hj hs hm hsv p o f e => by
    obtain ⟨a, b, c⟩ := fpn hj hs hm hsv f
    exact gw.h p o a b c e
  refine ⟨⟨fun a o e => ?_, ok.gr.g.trans gw.g, gw.gh, fun a ha => ?_⟩, by rw [List.length_set]; exact ok.len, fun j s e => ?_, fun j k s1 s2 u v a h1 h2 m1 m2 e1 e2 f1 f2 => ?_⟩
  · have hne : a ≠ x ∧ a ≠ dx ∧ a ≠ r := by
      refine ⟨fun q => ?_, fun q => ?_, fun q => ?_⟩
      · rw [q, h0.1] at e; cases e
      · rw [q, h0.2.1] at e; cases e
      · rw [q, h0.2.2] at e; cases e
    exact gw.h a o hne.1 hne.2.1 hne.2.2 (ok.gr.h a o e)
  · cases hH : H0 a with
    | none => exact absurd hH ha
    | some o => rw [gw.old a (some_ne_none (ok.gr.h _ _ hH)), ok.gr.old a ha]
  · by_cases hj : i = j
    · subst hj
      rw [List.getElem?_set_self (List.getElem?_eq_some_iff.mp hi).1] at e
      cases e
      exact ⟨_, hv, x, C, dx, r, rfl, ho.at_, hl, ⟨h0.1, ho.gx⟩, ⟨h0.2.1, ho.gd⟩, ⟨h0.2.2, ho.gr⟩⟩
    · rw [List.getElem?_set_ne hj] at e
      obtain ⟨v, g1, g2⟩ := ok.sl j s e
      exact ⟨v, g1, g2.grow gw.g fun hm p o f q => ⟨other hj e hm g1 p o f q, gw.old p (some_ne_none q)⟩⟩
  · have pick : ∀ {b : Nat} {s : SV} {y : V}, (env.set i (some (.wat l m' t' rows')))[b]? = some (some s) → s.mu = true → σ[b]? = some (some y) → Fp H' y a → ∃ s', env[b]? = some (some s') ∧ s'.mu = true ∧ Fp H y a := fun {b s y} q hm ey fy => by
      by_cases hb : i = b
      · subst hb
        rw [hv] at ey
        cases ey
        refine ⟨_, hi, rfl, ?_⟩
        rcases ho.at_.fp fy with rfl | rfl | rfl
        · exact fp_self
        · exact hw.fpd
        · exact hw.fpr
      · rw [List.getElem?_set_ne hb] at q
        obtain ⟨y', g1, g2⟩ := ok.sl b s q
        rw [ey] at g1
        cases g1
        exact ⟨s, q, hm, g2.fpm hm (fun p o eq hq => other hb q hm ey p o (.inl eq) hq) fy⟩
    obtain ⟨r1, q1, n1, z1⟩ := pick h1 m1 e1 f1
    obtain ⟨r2, q2, n2, z2⟩ := pick h2 m2 e2 f2
    exact ok.ap j k r1 r2 u v a q1 q2 n1 n2 e1 e2 z1 z2
end
/-- an expression that changes watches in the slots -/
inductive XO where
  | ok (d : PyData) (env : En)
  | ex (x : Str) (env : En)
  | no
def wOut (i : Nat) (env : En) (F : PyData → Str → List PyData → List PyData → WRes) (ds : List PyData) : Option (Option SV) → XO
  | some (some (.wat l m t rows)) => match F m t rows ds with
    | .ok d m' t' rows' => .ok d (env.set i (some (.wat l m' t' rows')))
    | .ex y m' t' rows' => .ex y (env.set i (some (.wat l m' t' rows')))
    | .no => .no
  | _ => .no
def xW (i : Nat) (F : PyData → Str → List PyData → List PyData → WRes) (f : En → Res (List PyData)) : En → XO := fun env => match f env with
  | .ok ds => wOut i env F ds env[i]?
  | .ex y => .ex y env
  | .no => .no
def xM (i : Nat) (F : PyData → Str → List PyData → List PyData → WRes) (f : En → Res (List PyData)) : En → XO := fun env => if isWat env[i]? then xW i F f env else .no
section
variable (P : Program) (w : World) (K : PySem.W.Frag) (W : WX) (cm : Str → Addr)
def XO.sat (G0 H0 G : Hp) (σ : L2.St) (Q : VK) : XO → Prop
  | .ok d env' => ∀ v G' H', Same G G' → OkG P w K G0 H0 G' env' σ H' → Dp K G' v d → Q v H'
  | .ex y env' => ∀ G' H', Same G G' → OkG P w K G0 H0 G' env' σ H' → W (.ref (cm y)) none σ H'
  | .no => False
def tX (φ : En → XO) : TE := fun σ H Q => ∃ G0 H0 G env, OkG P w K G0 H0 G env σ H ∧ XO.sat P w K W cm G0 H0 G σ Q (φ env)
end
abbrev DX (X : Cx) (W : WX) (cm : Str → Addr) (e : Expr) (φ : En → XO) : Prop := PE X e (tX X.prog X.w X.K W cm φ)
/-- a method, what it promises -/
def WMet (P : Program) (w : World) (K : PySem.W.Frag) (mg : Str → Option Value) (base : Heap) (k : Nat) (C : Addr) (m : Str) (ps : List Str) (sp : Sp) : Prop :=
  ∃ f fd, Meth K C m f ∧ Binds K fd ps [] ∧ FnOk P w K mg base (L2.CX P w) k f fd ps sp
section
variable {X : Cx} {W : WX} {cm : Str → Addr} {x : Str} {pos p p' apos pos' : Pos} {C : Addr} {e : Expr} {es : List Expr} {k k' n : Nat} {F : PyData → Str → List PyData → List PyData → WRes}
theorem call_W {G0 H0 G H : Hp} {env : En} {σ : L2.St} {i : Nat} {f : En → Res (List PyData)} (T : WCls X.K X.mg C) (ok : OkG X.prog X.w X.K G0 H0 G env σ H) {y : Addr} (hy : σ[i]? = some (some (.ref y))) {ws : List V} {ds : List PyData} (da : DpAll X.K G ws ds) (hlen : ds.length = n) {Q : VK}
    (h : XO.sat X.prog X.w X.K W cm G0 H0 G σ Q (wOut i env F ds env[i]?)) : spW X.K cm C n F (.ref y :: ws) H Q (WE W σ) := by
  generalize hi : env[i]? = o at h
  unfold wOut at h
  split at h
  · rename_i l m t rows
    obtain ⟨v, hv, y', C', dx, r, rfl, hw, hl, ⟨a1, a2⟩, ⟨b1, b2⟩, ⟨c1, c2⟩⟩ := ok.sl i _ hi
    rw [hy] at hv
    cases hv
    have ec := cls_eq T hw.cls
    subst ec
    refine ⟨by rw [List.length_cons, dpAll_length da, hlen], G, y, dx, r, m, t, rows, ws, ds, rfl, ok.gh, ⟨hw, a2, b2, c2⟩, da, ?_⟩
    cases hF : F m t rows ds with
    | ok d m' t' rows' =>
      rw [hF] at h
      exact fun v G' H' gw ho dv => h v G' H' gw.g (ok.mutW hi hy hw hl ⟨a1, b1, c1⟩ gw ho) dv
    | ex z m' t' rows' =>
      rw [hF] at h
      exact fun G' H' gw ho => h G' H' gw.g (ok.mutW hi hy hw hl ⟨a1, b1, c1⟩ gw ho)
    | no => rw [hF] at h; exact h.elim
  · exact h.elim
theorem wOut_at {i : Nat} {env : En} {ds : List PyData} {P : Program} {w : World} {K : PySem.W.Frag} {G0 H0 G H : Hp} {σ : L2.St} {Q : VK} (ok : OkG P w K G0 H0 G env σ H) (h : XO.sat P w K W cm G0 H0 G σ Q (wOut i env F ds env[i]?)) : ∃ y C dx fs, σ[i]? = some (some (.ref y)) ∧ H y = some (.ins C dx fs) ∧ PySem.W.nsIn K mainGlobals "Watch" = some (some (.ref C)) ∧ ∀ m : Str, m ≠ "rows" → m ≠ "text" → m ≠ "machine" → fs.lookup m = none := by
  generalize hi : env[i]? = o at h
  unfold wOut at h
  split at h
  · rename_i l m t rows
    obtain ⟨v, hv, y, C, dx, r, rfl, hw, _⟩ := ok.sl i _ hi
    obtain ⟨vm, hx, _⟩ := hw.ins
    exact ⟨y, C, dx, _, hv, hx, hw.cls, fun m h1 h2 h3 => by rw [look, if_neg h1, if_neg h2, if_neg h3]⟩
  · exact h.elim
/-- o.m() of a watch -/
theorem pe_mW0 {o : Expr} {ta : TE} {m : Str} {f : Addr} {fd : FuncData} {ps : List Str} {sp : Sp} {E : L2.St → XK} {pl : Sem Bool} (he : PE X o ta) (c : Cls X.K C) (hm : Meth X.K C m f) (F : FnOk X.prog X.w X.K X.mg X.base (L2.CX X.prog X.w) k f fd ps sp) (hr : Room k X.A) (hb : Binds X.K fd ps []) (hx : ∀ σ, PassesAt (L2.CX X.prog X.w) X σ (E σ))
    (ht : eval (.Call (.Attribute o m apos) [] [] pos) X.env = (do let ov ← eval o X.env; standAt apos.atName; let (f, first) ← holding [ov] (getMethod ov m pl); callWith pos f first (backTo pos (starEach [] X.env)) (backToKw pos (keywordEach [] X.env))) := by rfl) :
    PE X (.Call (.Attribute o m apos) [] [] pos) (fun σ H Q => ta σ H fun x H1 => ∃ a dx fs, x = .ref a ∧ H1 a = some (.ins C dx fs) ∧ fs.lookup m = none ∧ sp [.ref a] H1 Q (E σ)) := by
  refine ⟨fun pins s σ H Q I h => PySem.W.methodCall_KW (pl := pl) (thn (he.run pins s σ H _ I h) fun u s1 hq => ?_) ht⟩
  obtain ⟨x, H1, I1, rx, a, dx, fs, ex, ea, l, q⟩ := hq
  subst ex
  obtain rfl : u = Value.ref a := rx
  exact getmeth_ok I1 ea c hm l (PySem.W.callWith_K0 (first := [.ref a]) I1.kIn hm.kp (run_fnS (us := [.ref a]) (vs := [.ref a]) F hr hb (hx σ) I1 (.cons rfl .nil) q))
/-- o.m(e, ..) -/
theorem pe_mW1 {o : Expr} {ta : TE} {t : TA} {m : Str} {f : Addr} {fd : FuncData} {ps : List Str} {sp : Sp} {E : L2.St → XK} {pl : Sem Bool} (he : PE X o ta) (c : Cls X.K C) (hm : Meth X.K C m f) (F : FnOk X.prog X.w X.K X.mg X.base (L2.CX X.prog X.w) k f fd ps sp) (hr : Room k X.A) (hb : Binds X.K fd ps []) (hx : ∀ σ, PassesAt (L2.CX X.prog X.w) X σ (E σ)) (ha : PA X (e :: es) t)
    (hst : starEach (e :: es) X.env = (false, eval e X.env) :: starEach es X.env := by rfl) (hpl : (backTo pos (starEach es X.env)).any (·.1) = false := by rfl)
    (ht : eval (.Call (.Attribute o m apos) (e :: es) [] pos) X.env = (do let ov ← eval o X.env; standAt apos.atName; let (f, first) ← holding [ov] (getMethod ov m pl); callWith pos f first (backTo pos (starEach (e :: es) X.env)) (backToKw pos (keywordEach [] X.env))) := by rfl) :
    PE X (.Call (.Attribute o m apos) (e :: es) [] pos) (fun σ H Q => ta σ H fun x H1 => ∃ a dx fs, x = .ref a ∧ H1 a = some (.ins C dx fs) ∧ fs.lookup m = none ∧ t σ H1 fun vs H2 => sp (.ref a :: vs) H2 Q (E σ)) := by
  refine ⟨fun pins s σ H Q I h => PySem.W.methodCall_KW (pl := pl) (thn (he.run pins s σ H _ I h) fun u s1 hq => ?_) ht⟩
  obtain ⟨x, H1, I1, rx, a, dx, fs, ex, ea, l, q⟩ := hq
  subst ex
  obtain rfl : u = Value.ref a := rx
  refine getmeth_ok I1 ea c hm l (PySem.W.callWith_K (first := [.ref a]) (h₀ := X.base) I.ok.mod.kin hm.kp (thn (ha.run pos pins s1 σ H1 _ I1 q) fun us s2 hq2 => ?_) hst hpl)
  obtain ⟨vs, H2, I2, r, q2⟩ := hq2
  exact ⟨I2.kIn, run_fnS (us := .ref a :: us) (vs := .ref a :: vs) F hr hb (hx σ) I2 (.cons rfl r) q2⟩
abbrev NoFld (m : Str) : Prop := m ≠ "rows" ∧ m ≠ "text" ∧ m ≠ "machine"
/-- w.m() that changes the watch -/
theorem dx_m0 (i : Nat) {m : Str} {ps : List Str} (T : WCls X.K X.mg C) (M : WMet X.prog X.w X.K X.mg X.base k C m ps (spW X.K cm C 0 F)) (hr : Room k' X.A) (hle : k ≤ k') (tk : Takes X W) (hN : X.N[i]? = some x := by rfl) (hv : Vis X.env.scope x := by first | exact Or.inl rfl | exact Or.inr (Or.inl rfl) | exact Or.inr (Or.inr rfl)) (hd : (x == ("__debug__" : Str)) = false := by decide)
    (hcd : (x == ("__classdict__" : Str)) = false := by decide) (hm : NoFld m := by decide +kernel) {pl : Sem Bool}
    (ht : eval (.Call (.Attribute (.Name x p) m apos) [] [] pos) X.env = (do let ov ← eval (.Name x p) X.env; standAt apos.atName; let (f, first) ← holding [ov] (getMethod ov m pl); callWith pos f first (backTo pos (starEach [] X.env)) (backToKw pos (keywordEach [] X.env))) := by rfl) :
    DX X W cm (.Call (.Attribute (.Name x p) m apos) [] [] pos) (xW i F fNil) := by
  obtain ⟨f, fd, hme, hb, Fn⟩ := M
  refine pe_imp (pe_mW0 (pl := pl) (pe_var hN hv hd hcd) T.cl hme Fn (hr.mono hle) hb (fun σ => passAt tk σ) ht) fun σ H Q q => ?_
  obtain ⟨G0, H0, G, env, ok, q⟩ := q
  have q : XO.sat X.prog X.w X.K W cm G0 H0 G σ Q (wOut i env F [] env[i]?) := q
  obtain ⟨y, C', dx, fs, hy, hx, hc, nf⟩ := wOut_at ok q
  have ec := cls_eq T hc
  subst ec
  exact ⟨.ref y, hy, y, dx, fs, rfl, hx, nf m hm.1 hm.2.1 hm.2.2, call_W (f := fNil) T ok hy .nil rfl q⟩
/-- w.m(e, ..) -/
theorem dx_m1 (i : Nat) {m : Str} {ps : List Str} {f : En → Res (List PyData)} (T : WCls X.K X.mg C) (M : WMet X.prog X.w X.K X.mg X.base k C m ps (spW X.K cm C n F)) (hr : Room k' X.A) (hle : k ≤ k') (tk : Takes X W) (ha : DA X W cm (e :: es) f) (hln : Len n f) (hN : X.N[i]? = some x := by rfl) (hv : Vis X.env.scope x := by first | exact Or.inl rfl | exact Or.inr (Or.inl rfl) | exact Or.inr (Or.inr rfl)) (hd : (x == ("__debug__" : Str)) = false := by decide)
    (hcd : (x == ("__classdict__" : Str)) = false := by decide) (hm : NoFld m := by decide +kernel) {pl : Sem Bool} (hst : starEach (e :: es) X.env = (false, eval e X.env) :: starEach es X.env := by rfl) (hpl : (backTo pos (starEach es X.env)).any (·.1) = false := by rfl)
    (ht : eval (.Call (.Attribute (.Name x p) m apos) (e :: es) [] pos) X.env = (do let ov ← eval (.Name x p) X.env; standAt apos.atName; let (f, first) ← holding [ov] (getMethod ov m pl); callWith pos f first (backTo pos (starEach (e :: es) X.env)) (backToKw pos (keywordEach [] X.env))) := by rfl) :
    DX X W cm (.Call (.Attribute (.Name x p) m apos) (e :: es) [] pos) (xM i F f) := by
  obtain ⟨g, fd, hme, hb, Fn⟩ := M
  refine pe_imp (pe_mW1 (pl := pl) (pe_var hN hv hd hcd) T.cl hme Fn (hr.mono hle) hb (fun σ => passAt tk σ) ha hst hpl ht) fun σ H Q q => ?_
  obtain ⟨G0, H0, G, env, ok, q⟩ := q
  have q : XO.sat X.prog X.w X.K W cm G0 H0 G σ Q (if isWat env[i]? then xW i F f env else .no) := q
  split at q
  · rename_i hbw
    obtain ⟨l, m0, t, rows, hi⟩ : ∃ l m t rows, env[i]? = some (some (.wat l m t rows)) := by
      generalize env[i]? = o at hbw ⊢
      unfold isWat at hbw
      split at hbw
      · exact ⟨_, _, _, _, rfl⟩
      · cases hbw
    obtain ⟨v, hv0, y, C', dx, r, rfl, hw, _⟩ := ok.sl i _ hi
    obtain ⟨vm, hx, _⟩ := hw.ins
    have ec := cls_eq T hw.cls
    subst ec
    refine ⟨.ref y, hv0, y, dx, _, rfl, hx, by rw [look, if_neg hm.1, if_neg hm.2.1, if_neg hm.2.2], ?_⟩
    unfold xW at q
    refine tA.go ok ?_
    cases ef : f env with
    | ok ds =>
      rw [ef] at q
      intro vs G1 H1 g1 ok1 da
      refine call_W (f := f) T ok1 hv0 da (hln env ds ef) ?_
      have q : XO.sat X.prog X.w X.K W cm G0 H0 G σ Q (wOut i env F ds env[i]?) := q
      generalize wOut i env F ds env[i]? = z at q
      cases z with
      | ok d env' => exact fun v G' H' s ok' dv => q v G' H' (g1.g.trans s) ok' dv
      | ex y env' => exact fun G' H' s ok' => q G' H' (g1.g.trans s) ok'
      | no => exact q.elim
    | ex z =>
      rw [ef] at q
      exact fun G' H' g' => q G' H' g'.g (ok.grow g')
    | no => rw [ef] at q; exact q.elim
  · exact q.elim
/-- g(w, e, ..): a def that is handed a watch -/
theorem dx_c (i : Nat) {y : Str} {ps : List Str} {f : En → Res (List PyData)} {p2 : Pos} (T : WCls X.K X.mg C) (M : Callee X.prog X.w X.K X.mg X.base k y ps (spW X.K cm C n F)) (hr : Room k' X.A) (hle : k ≤ k') (tk : Takes X W) (ha : DA X W cm es f) (hln : Len n f) (hN : X.N[i]? = some x := by rfl) (hv : Vis X.env.scope x := by first | exact Or.inl rfl | exact Or.inr (Or.inl rfl) | exact Or.inr (Or.inr rfl)) (hd : (x == ("__debug__" : Str)) = false := by decide)
    (hcd : (x == ("__classdict__" : Str)) = false := by decide) (hg : Gl X y := by rfl) (hdb : (y == ("__debug__" : Str)) = false := by decide) (he : starEach (.Name x p :: es) X.env = (false, eval (.Name x p) X.env) :: starEach es X.env := by rfl) (hpl : (backTo pos (starEach es X.env)).any (·.1) = false := by rfl) :
    DX X W cm (.Call (.Name y p2) (.Name x p :: es) [] pos) (xM i F f) := by
  obtain ⟨g, fd, hk, hb, hmg, Fn⟩ := M
  refine pe_imp (pe_callS Fn (hr.mono hle) hg hmg hk hb (fun σ => passAt tk σ) (pa_cons (pe_var hN hv hd hcd) ha he) hdb he hpl) fun σ H Q q => ?_
  obtain ⟨G0, H0, G, env, ok, q⟩ := q
  have q : XO.sat X.prog X.w X.K W cm G0 H0 G σ Q (if isWat env[i]? then xW i F f env else .no) := q
  split at q
  · rename_i hbw
    obtain ⟨l, m0, t, rows, hi⟩ : ∃ l m t rows, env[i]? = some (some (.wat l m t rows)) := by
      generalize env[i]? = o at hbw ⊢
      unfold isWat at hbw
      split at hbw
      · exact ⟨_, _, _, _, rfl⟩
      · cases hbw
    obtain ⟨v, hv0, y, C', dx, r, rfl, hw, _⟩ := ok.sl i _ hi
    show tVar i σ H fun v H1 => tA X.prog X.w X.K W cm f σ H1 fun vs H2 => spW X.K cm C n F (v :: vs) H2 Q (WE W σ)
    refine ⟨.ref y, hv0, ?_⟩
    unfold xW at q
    refine tA.go ok ?_
    cases ef : f env with
    | ok ds =>
      rw [ef] at q
      intro vs G1 H1 g1 ok1 da
      refine call_W (f := f) T ok1 hv0 da (hln env ds ef) ?_
      have q : XO.sat X.prog X.w X.K W cm G0 H0 G σ Q (wOut i env F ds env[i]?) := q
      generalize wOut i env F ds env[i]? = z at q
      cases z with
      | ok d env' => exact fun v G' H' s ok' dv => q v G' H' (g1.g.trans s) ok' dv
      | ex y env' => exact fun G' H' s ok' => q G' H' (g1.g.trans s) ok'
      | no => exact q.elim
    | ex z =>
      rw [ef] at q
      exact fun G' H' g' => q G' H' g'.g (ok.grow g')
    | no => rw [ef] at q; exact q.elim
  · exact q.elim
/-! ### statements -/
def XO.then (o : XO) (k : PyData → En → Out) : Out := match o with
  | .ok d env => k d env
  | .ex y env => .ex y env
  | .no => .no
theorem XO.go {P : Program} {w : World} {K : PySem.W.Frag} {G0 H0 G H : Hp} {env : En} {σ : L2.St} {D : Ends} {φ : En → XO} {k : PyData → En → Out} {Q : VK} (ok : OkG P w K G0 H0 G env σ H) (q : OutP P w K W cm G0 H0 G D ((φ env).then k))
    (h : ∀ d env' v G' H', φ env = .ok d env' → Same G G' → OkG P w K G0 H0 G' env' σ H' → Dp K G' v d → OutP P w K W cm G0 H0 G' D (k d env') → Q v H') : tX P w K W cm φ σ H Q := by
  refine ⟨G0, H0, G, env, ok, ?_⟩
  cases e : φ env with
  | ok d env' =>
    rw [e] at q
    exact fun v G' H' s ok' dv => h d env' v G' H' e s ok' dv (OutP.mono q s)
  | ex y env' =>
    rw [e] at q
    exact fun G' H' s ok' => q G' σ H' s ok'
  | no => rw [e] at q; exact q.elim
def sXdrop (φ : En → XO) : En → Out := fun env => (φ env).then fun _ e => .nx e
theorem ds_xExpr {φ : En → XO} (h : DX X W cm e φ) (hs : swapsWith e none pos.line X.env = pure false := by rfl) : DS X W cm (.Expr e pos) (sXdrop φ) := ps_imp (ps_expr h hs) fun D σ H q => by
  obtain ⟨G0, H0, G, env, ok, q⟩ := q
  exact XO.go ok q fun d env' v G' H' _ s ok' dv k => k G' σ H' (Same.refl _) ok'
def sXset (j : Nat) (φ : En → XO) : En → Out := fun env => (φ env).then fun d e => .nx (e.set j (some (.dat d)))
theorem ds_xSet (j : Nat) {φ : En → XO} {z : Str} (hN : X.N.Nodup) (h : DX X W cm e φ) (hj : X.N[j]? = some z := by rfl) (hz : Loc X.env.scope z := by first | exact Or.inl rfl | exact Or.inr rfl) (hs : swapsWith e (some (.Name z pos')) pos.line X.env = pure false := by rfl) (hf : X.fn z = true ∨ X.env.scope.names.lookup z = some .local := by first | exact .inl rfl | exact .inr rfl | assumption) :
    DS X W cm (.Assign [.Name z pos'] e pos) (sXset j φ) := ps_imp (ps_set hN hj hz h hs hf) fun D σ H q => by
  obtain ⟨G0, H0, G, env, ok, q⟩ := q
  exact XO.go ok q fun d env' v G' H' _ s ok' dv k => k G' _ H' (Same.refl _) (ok'.dat dv)
def sXret (φ : En → XO) : En → Out := fun env => (φ env).then fun d e => .rw d e
theorem ds_xRet {φ : En → XO} (h : DX X W cm e φ) : DS X W cm (.Return (some e) pos) (sXret φ) := ps_imp (ps_ret h) fun D σ H q => by
  obtain ⟨G0, H0, G, env, ok, q⟩ := q
  exact XO.go ok q fun d env' v G' H' _ s ok' dv k => k v G' σ H' (Same.refl _) ok' dv
/-- return e, the slots kept -/
def sRetW (f : En → Res PyData) : En → Out := fun env => .ofR (f env) env fun d => .rw d env
theorem ds_retW {f : En → Res PyData} (h : DE X W cm e f) : DS X W cm (.Return (some e) pos) (sRetW f) := ps_imp (ps_ret h) fun D σ H q => by
  obtain ⟨G0, H0, G, env, ok, q⟩ := q
  exact tD.go ok (OutP.ofR ok q fun d _ k v G1 H1 g1 ok1 dp => k v G1 σ H1 g1.g ok1 dp)
def sXif (o : PyData → PyData → Res PyData) (φ : En → XO) (f : En → Res PyData) (g h : En → Out) : En → Out := fun env => (φ env).then fun d e => .ofR (f e) e fun d2 => .ofR (o d d2) e fun r => .ofR (isB r) e fun b => if b then g e else h e
/-- if w.m(..) op e: .. -/
theorem ds_xIf {op : CmpOp} {o : PyData → PyData → Res PyData} {φ : En → XO} {f : En → Res PyData} {e2 : Expr} {ba bb : List Stmt} {g h : En → Out} (ho : OpR X (compareOp op) (rDat X.K o)) (hn : ∀ d e, Never (o d e)) (hx : DX X W cm e φ) (hf : DE X W cm e2 f) (ha : DSs X W cm ba g) (hb : DSs X W cm bb h) (hm : behindInMarks op e2 = false := by with_unfolding_all rfl) :
    DS X W cm (.If (.Compare e [op] [e2] p) ba bb pos) (sXif o φ f g h) := ps_imp (ps_if (pt_cmpR ho hx hf hm) ha hb) fun D σ H q => by
  obtain ⟨G0, H0, G, env, ok, q⟩ := q
  refine XO.go ok q fun d env' v G1 H1 _ s ok1 dv k => ?_
  refine tD.go ok1 (OutP.ofR ok1 k fun d2 _ k u G2 H2 g2 ok2 du => ?_)
  have k := OutP.mono k g2.g
  cases eo : o d d2 with
  | no => rw [eo] at k; exact k.elim
  | ex z => exact absurd eo (hn d d2 z)
  | ok r =>
    rw [eo, ofR_ok] at k
    cases r with
    | bool b =>
      refine ⟨G2, d, d2, _, ok2.gh, dp_mono g2.g _ _ dv, du, eo, fun z G3 H3 g3 dz => ?_⟩
      cases dz
      refine ⟨b, rfl, ?_⟩
      have k : OutP X.prog X.w X.K W cm G0 H0 G2 D (if b then g env' else h env') := k
      have k := OutP.mono k g3.g
      cases b with
      | true =>
        rw [if_pos rfl] at k
        show (if true = true then tS X.prog X.w X.K W cm g D σ H3 else _)
        rw [if_pos rfl]
        exact ⟨G0, H0, G3, env', ok2.grow g3, k⟩
      | false =>
        rw [if_neg Bool.false_ne_true] at k
        show (if false = true then _ else tS X.prog X.w X.K W cm h D σ H3)
        rw [if_neg Bool.false_ne_true]
        exact ⟨G0, H0, G3, env', ok2.grow g3, k⟩
    | _ => exact k.elim
/-! ### looking at a watch -/
def fWread (i : Nat) (F : PyData → Str → List PyData → List PyData → Res PyData) : En → Res PyData := fun env => match wat? env[i]? with
  | some (m, t, rows) => F m t rows []
  | none => .no
theorem de_wRead (i : Nat) {m : Str} {ps : List Str} {F : PyData → Str → List PyData → List PyData → Res PyData} (T : WCls X.K X.mg C) (M : WMet X.prog X.w X.K X.mg X.base k C m ps (spR X.K cm C 0 F)) (hr : Room k' X.A) (hle : k ≤ k') (tk : Takes X W) (hN : X.N[i]? = some x := by rfl) (hv : Vis X.env.scope x := by first | exact Or.inl rfl | exact Or.inr (Or.inl rfl) | exact Or.inr (Or.inr rfl)) (hd : (x == ("__debug__" : Str)) = false := by decide)
    (hcd : (x == ("__classdict__" : Str)) = false := by decide) (hm : NoFld m := by decide +kernel) {pl : Sem Bool}
    (ht : eval (.Call (.Attribute (.Name x p) m apos) [] [] pos) X.env = (do let ov ← eval (.Name x p) X.env; standAt apos.atName; let (f, first) ← holding [ov] (getMethod ov m pl); callWith pos f first (backTo pos (starEach [] X.env)) (backToKw pos (keywordEach [] X.env))) := by rfl) :
    DE X W cm (.Call (.Attribute (.Name x p) m apos) [] [] pos) (fWread i F) := by
  obtain ⟨f, fd, hme, hb, Fn⟩ := M
  refine pe_imp (pe_mW0 (pl := pl) (pe_var hN hv hd hcd) T.cl hme Fn (hr.mono hle) hb (fun σ => passAt tk σ) ht) fun σ H Q q => ?_
  obtain ⟨G0, H0, G, env, ok, q⟩ := q
  unfold fWread at q
  split at q
  · rename_i m0 t rows hi
    obtain ⟨y, C', dx, r, hy, hw⟩ := ok.watch hi
    have ec := cls_eq T hw.cls
    subst ec
    obtain ⟨vm, hx, _⟩ := hw.ins
    refine ⟨.ref y, hy, y, dx, _, rfl, hx, by rw [look, if_neg hm.1, if_neg hm.2.1, if_neg hm.2.2], rfl, G, y, dx, r, m0, t, rows, [], [], rfl, ok.gh, hw, .nil, ?_⟩
    exact q.imp (fun d _ k v G' H' g dp => k v G' H' g dp) fun y z G' H' g => z G' H' g
  · exact q.elim
end
end GL

/-! # The data layer: watches made; try around a watch -/
namespace GL
open PySem PySem.Spec PyProof.Rows L2
def sTryX (i : Nat) (wd : Str → Option Str) (g : En → Out) : En → Out := fun env => match g env with
  | .ex x e => (match wd x with
    | some z => if i < e.length then .rw (.str z) e else .no
    | none => .no)
  | o => o
section
variable {X : Cx} {W : WX} {cm : Str → Addr} {x fx n : Str} {c : Value} {i k : Nat} {body : List Stmt} {np q q2 pos pos' pos1 pos2 : Pos} {g : En → Out} {wd : Str → Option Str}
theorem ds_tryX {f : Addr} (hs : X.stack = X.env :: X.outer) (hf : X.env.frame = some X.env.locals) (hN : X.N.Nodup) (hi : X.N[i]? = some n) (hln : X.env.kindOf n = some .local) (hc : Names X x c) (tk : Takes X W) (hr : Room k X.A)
    (hw : ∀ y z, wd y = some z → FnE X.prog X.w X.K X.mg X.base k f (cm y) z ∧ PySem.W.exmOne X.K (.ref (cm y)) c = some true) (hg : Gl X fx) (hm : X.mg fx = some (.ref f)) (hk : PySem.W.keepIn X.K (.ref f) = true)
    (hb : ∀ (W : WX) (pn : List (Addr × Obj)) (xe : Value → Shared → Prop), Takes (X.tr pn xe) W → PassesOwn (model X.prog X.w) X.A X.env xe → DSs (X.tr pn xe) W cm body g)
    (hv : Vis X.env.scope n := by first | exact Or.inl rfl | exact Or.inr (Or.inl rfl) | exact Or.inr (Or.inr rfl)) (hd : (n == ("__debug__" : Str)) = false := by decide) (hcd : (n == ("__classdict__" : Str)) = false := by decide) (hdb : (fx == ("__debug__" : Str)) = false := by decide)
    (he : starEach [.Name n q2] X.env = [(false, eval (.Name n q2) X.env)] := by rfl) (hpl : (backTo pos1 (starEach [] X.env)).any (·.1) = false := by rfl) :
    DS X W cm (.Try body [.ExceptHandler (some (.Name x np)) (some n) [.Return (some (.Call (.Name fx q) [.Name n q2] [] pos1)) pos2] pos'] [] [] pos) (sTryX i wd g) := by
  refine ps_imp (ps_try_as (i := i) (ts := tsW X.K cm wd i) (tb := fun W => tS X.prog X.w X.K W cm g) hs hf hN hi hln hc tk hb fun a oe cls d pn hz hfd => ?_) fun D σ H h => ?_
  · refine ⟨fun pins s σ H D I h => ?_⟩
    obtain ⟨y, z, G, rfl, rfl, hyz, gh, hsl, hQ⟩ := h
    obtain ⟨F, _⟩ := hw y z hyz
    have hrh : L2H.RoomH k (X.suite a ((a, oe) :: pn)).A := ⟨hr.dp, hr.un⟩
    have pe := pe_callE (X := X.suite a ((a, oe) :: pn)) (i := i) (q := q) (q2 := q2) (pos := pos1) F hrh hz hfd List.mem_cons_self hg hm hk hi hv hd hcd hdb he hpl
    exact (pss_one (ps_ret (pos := pos2) pe)).run pins s σ H D I ⟨G, gh, hsl, hQ⟩
  · obtain ⟨G0, H0, G, env, ok, h⟩ := h
    refine ⟨G0, H0, G, env, ok, ?_⟩
    unfold sTryX at h
    cases eg : g env with
    | nx e => rw [eg] at h; exact h
    | rt d => rw [eg] at h; exact h
    | rl d => rw [eg] at h; exact h
    | rw d e => rw [eg] at h; exact h
    | no => rw [eg] at h; exact h
    | ex y e =>
      rw [eg] at h
      cases ew : wd y with
      | none => simp only [ew] at h; exact h.elim
      | some z =>
        simp only [ew] at h
        split at h
        · rename_i hlt
          intro G' σ' H' s' ok'
          obtain ⟨_, hx⟩ := hw y z ew
          refine ⟨true, hx, fun _ a ha => ?_, fun hf => (Bool.noConfusion hf)⟩
          refine ⟨y, z, G', rfl, rfl, ew, ok'.gh, List.getElem?_set_self (by rw [← ok'.len]; exact hlt), fun v G2 H2 g2 dv => ?_⟩
          exact h v G2 σ' H2 (s'.trans g2.g) (ok'.grow g2) dv
        · exact h.elim
end
/-! ### Watch(m) -/
def spNew (K : PySem.W.Frag) (C : Addr) : Sp := fun vs H Q _ => vs.length = 2 ∧ ∃ (G H1 : Hp) (x dx : Addr) (vm : V) (m : PyData), vs = [.ref x, vm] ∧ Same G H1 ∧ H1 x = none ∧ H1 dx = none ∧ dx ≠ x ∧ H = upd (upd H1 dx (.own x)) x (.ins C dx []) ∧ Dp K G vm m ∧
  ∀ G' H' r, Grow G H1 G' H' → H1 r = none → WOwn K G' H' x C dx r m "" [.tuple [.int 0]] → Q .non H'
section
variable {P : Program} {w : World} {K : PySem.W.Frag} {mg : Str → Option Value} {base : Heap} {cm : Str → Addr}
theorem fn_new {st : Stmt} {f C : Addr} {fd : FuncData} {N : List Str} {k : Nat} (T : WCls K mg C) (F : Fun K "__init__" "Watch.__init__" st f fd) (S : FnScope N ["self", "machine"] (defScope st)) (hN : 2 ≤ N.length)
    (hbody : ∀ (cdv : Value) (A : Around) (outer : List Env) (s : Shared) (H : Hp) (E : XK), Room k (A.deeper (envOfC "Watch.__init__" (defScope st) s.heap.objs.size f cdv)) →
      PSs (cxOf (L2.CX P w) P w K mg base N "Watch.__init__" (defScope st) f cdv A outer s H E) (defBody st) (tSeq (sFld K (tVar 0) (tVar 1) "machine") (tSeq (sFld K (tVar 0) (tC (.str "")) "text") (sFld K (tVar 0) (tLst (tCons (tTup (tCons (tC (.int 0)) tNil)) tNil)) "rows")))) : FnOk P w K mg base (L2.CX P w) (k + 1) f fd ["self", "machine"] (spNew K C) := by
  refine F.okX S (fun vs H Q E h => h.1) (fun cdv A outer s H vs Q E hr h => ⟨_, hbody cdv A outer s H E hr, ?_⟩)
  obtain ⟨_, G, H1, x, dx, vm, m, rfl, gh, nx, nd, ne, rfl, dm, h⟩ := h
  have s0 : (L2.start N [.ref x, vm])[0]? = some (some (.ref x)) := start_get rfl
  have s1 : (L2.start N [.ref x, vm])[1]? = some (some vm) := start_get rfl
  refine ⟨vm, s1, .ref x, s0, x, C, dx, [], rfl, upd_same, T.cl, T.nM, by decide, ?_⟩
  refine ⟨.ref x, s0, x, C, dx, _, rfl, upd_same, T.cl, T.nT, by show 1 < 1000; decide, ?_⟩
  refine ⟨by decide, fun p hp => ⟨by show 1 ≤ sizeLine; decide, fun r hr => ?_⟩⟩
  have pne : p ≠ x := fun e => by rw [e, upd_same] at hp; cases hp
  have rnp : r ≠ p := fun e => by rw [e, upd_same] at hr; cases hr
  have rne : r ≠ x := fun e => by rw [e, upd_ne (Ne.symm pne), upd_same] at hr; cases hr
  have hp1 : H1 p = none ∧ p ≠ dx := by
    rw [upd_ne pne, upd_ne pne, upd_ne pne] at hp
    have : p ≠ dx := fun e => by rw [e, upd_same] at hp; cases hp
    rw [upd_ne this] at hp
    exact ⟨hp, this⟩
  have hr1 : H1 r = none ∧ r ≠ dx := by
    rw [upd_ne rnp, upd_ne rne, upd_ne rne, upd_ne rne] at hr
    have : r ≠ dx := fun e => by rw [e, upd_same] at hr; cases hr
    rw [upd_ne this] at hr
    exact ⟨hr, this⟩
  refine ⟨.ref x, s0, x, C, dx, _, rfl, by rw [upd_ne (Ne.symm rne), upd_ne (Ne.symm pne), upd_same], T.cl, T.nR, by show 2 < 1000; decide, ?_⟩
  have efl : putF "rows" (V.ref r) (putF "text" (V.str "") (putF "machine" vm [])) = flds vm "" r := flds_all vm "" r
  show Q .non (upd _ x (.ins C dx (putF "rows" (V.ref r) (putF "text" (V.str "") (putF "machine" vm [])))))
  rw [efl]
  obtain ⟨H', eH⟩ : ∃ H' : Hp, H' = upd (upd (upd (upd (upd (upd (upd H1 dx (.own x)) x (.ins C dx [])) x (.ins C dx (putF "machine" vm []))) x (.ins C dx (putF "text" (V.str "") (putF "machine" vm [])))) p (.tup [.int 0])) r (.lst [.ref p])) x (.ins C dx (flds vm "" r)) := ⟨_, rfl⟩
  have q1 : H' x = some (.ins C dx (flds vm "" r)) := by rw [eH]; exact upd_same
  have q2 : H' r = some (.lst [.ref p]) := by rw [eH, upd_ne rne]; exact upd_same
  have q3 : H' p = some (.tup [.int 0]) := by rw [eH, upd_ne pne, upd_ne (Ne.symm rnp)]; exact upd_same
  have q4 : H' dx = some (.own x) := by rw [eH, upd_ne ne, upd_ne (Ne.symm hr1.2), upd_ne (Ne.symm hp1.2), upd_ne ne, upd_ne ne, upd_ne ne]; exact upd_same
  have q5 : Same H1 H' := fun a o e => by
    have n1 : a ≠ x := ne_of_none e nx
    have n2 : a ≠ dx := ne_of_none e nd
    have n3 : a ≠ p := ne_of_none e hp1.1
    have n4 : a ≠ r := ne_of_none e hr1.1
    rw [eH, upd_ne n1, upd_ne n4, upd_ne n3, upd_ne n1, upd_ne n1, upd_ne n1, upd_ne n2]
    exact e
  have gp : G p = none := gh.free hp1.1
  have gr : Grow G H1 (upd G p (.tup [.int 0])) H' := ⟨q5, same_new gp, fun a o e => by
    by_cases z : a = p
    · subst z; rw [upd_same] at e; rw [q3]; exact e
    · rw [upd_ne z] at e; exact q5 _ _ (gh _ _ e), fun a ha => upd_ne fun z => ha (z ▸ hp1.1)⟩
  have hQ := h _ H' r gr hr1.1 ⟨⟨T.ns, ⟨vm, q1, dp_mono gr.g _ _ dm⟩, q4, ⟨[.ref p], q2, .cons (.tup (.inl (.inl upd_same)) (.cons (.int 0) .nil)) .nil⟩⟩, by rw [upd_ne (Ne.symm pne)]; exact gh.free nx, by rw [upd_ne (Ne.symm hp1.2)]; exact gh.free nd, by rw [upd_ne rnp]; exact gh.free hr1.1⟩
  rw [eH] at hQ
  exact hQ
end
/-- the class can be made -/
def WMake (P : Program) (w : World) (K : PySem.W.Frag) (mg : Str → Option Value) (base : Heap) (k : Nat) (C : Addr) : Prop :=
  ∃ f fd, Mk K C f ∧ Binds K fd ["self", "machine"] [] ∧ FnOk P w K mg base (L2.CX P w) k f fd ["self", "machine"] (spNew K C)
abbrev wat0 (m : PyData) : SV := .wat none m "" [.tuple [.int 0]]
section
variable {X : Cx} {W : WX} {cm : Str → Addr} {x : Str} {pos p p' apos pos' : Pos} {C : Addr} {e : Expr} {k k' : Nat} {f g : En → Res PyData}
theorem pass_never : Passes (L2.CX X.prog X.w) X (fun _ _ _ => False) := fun pins σ H s e s' I h => by
  obtain ⟨_, _, _, _, _, _, _, _, _, _, _, _, z⟩ := h
  exact z.elim
/-- what the making of a watch gives -/
def tNew (P : Program) (w : World) (K : PySem.W.Frag) (W : WX) (cm : Str → Addr) (f : En → Res PyData) : TE := fun σ H Q => ∃ G0 H0 G env, OkG P w K G0 H0 G env σ H ∧ (f env).sat (fun m => ∀ y C dx r G' H', Grow G H G' H' → H y = none → H dx = none → H r = none → WOwn K G' H' y C dx r m "" [.tuple [.int 0]] → Q (.ref y) H') (exP W cm σ G H)
theorem pe_new (T : WCls X.K X.mg C) (M : WMake X.prog X.w X.K X.mg X.base k C) (hr : Room k' X.A) (hle : k + 1 ≤ k') (he : DE X W cm e f) (hg : Gl X "Watch" := by rfl) (hs : starEach [e] X.env = (false, eval e X.env) :: starEach [] X.env := by rfl) (hpl : (backTo pos (starEach [] X.env)).any (·.1) = false := by rfl) : PE X (.Call (.Name "Watch" p) [e] [] pos) (tNew X.prog X.w X.K W cm f) := by
  obtain ⟨g, fd, mk, hb, Fn⟩ := M
  refine pe_imp (pe_make mk Fn (hr.mono hle) hg T.mgC hb .nil pass_never (pa_cons he pa_nil hs) (by decide) hs hpl) fun σ H Q q => ?_
  obtain ⟨G0, H0, G, env, ok, q⟩ := q
  show tD X.prog X.w X.K W cm f σ H fun v H1 => ∀ y dx, H1 y = none → H1 dx = none → dx ≠ y → spNew X.K C (.ref y :: ([v] ++ [])) (upd (upd H1 dx (.own y)) y (.ins C dx [])) (fun v H2 => v = .non ∧ Q (.ref y) H2) fun _ _ _ => False
  refine tD.go ok (q.imp (fun m _ k v G1 H1 g1 ok1 dv y dx ny nd ne => ?_) fun _ z => z)
  refine ⟨rfl, G1, H1, y, dx, v, m, rfl, ok1.gh, ny, nd, ne, rfl, dv, fun G' H' r gr nr ho => ⟨rfl, ?_⟩⟩
  exact k y C dx r G' H' (g1.trans gr) (g1.h.free ny) (g1.h.free nd) (g1.h.free nr) ho
/-- a new watch is put into slot j -/
theorem OkG.putN {P : Program} {w : World} {K : PySem.W.Frag} {G0 H0 G H G' H' : Hp} {env : En} {σ : L2.St} (ok : OkG P w K G0 H0 G env σ H) (g : Grow G H G' H') {y C dx r : Addr} (ny : H y = none) (nd : H dx = none) (nr : H r = none) {m : PyData} (ho : WOwn K G' H' y C dx r m "" [.tuple [.int 0]]) (j : Nat) :
    OkG P w K G0 H0 G' (env.set j (some (wat0 m))) (σ.set j (some (.ref y))) H' :=
  (ok.grow g).put ⟨y, C, dx, r, rfl, ho.at_, (fun _ z => by cases z), ⟨ok.gr.h.free ny, ho.gx⟩, ⟨ok.gr.h.free nd, ho.gd⟩, ⟨ok.gr.h.free nr, ho.gr⟩⟩ fun i t v a _ ht hm hv f1 f2 => by
    rcases ho.at_.fp f1 with rfl | rfl | rfl
    · exact ok.new g.h ny ht hm hv f2
    · exact ok.new g.h nd ht hm hv f2
    · exact ok.new g.h nr ht hm hv f2
def sWnew (j : Nat) (f : En → Res PyData) : En → Out := fun env => .ofR (f env) env fun m => .nx (env.set j (some (wat0 m)))
theorem ds_new (j : Nat) {z : Str} {v : Expr} (hN : X.N.Nodup) (h : PE X v (tNew X.prog X.w X.K W cm f)) (hj : X.N[j]? = some z := by rfl) (hz : Loc X.env.scope z := by first | exact Or.inl rfl | exact Or.inr rfl) (hs : swapsWith v (some (.Name z pos')) pos.line X.env = pure false := by rfl) (hf : X.fn z = true ∨ X.env.scope.names.lookup z = some .local := by first | exact .inl rfl | exact .inr rfl | assumption) :
    DS X W cm (.Assign [.Name z pos'] v pos) (sWnew j f) := ps_imp (ps_set hN hj hz h hs hf) fun D σ H q => by
  obtain ⟨G0, H0, G, env, ok, q⟩ := q
  exact ⟨G0, H0, G, env, ok, OutP.ofR ok q fun m _ k y C dx r G' H' g ny nd nr ho => k G' _ H' g.g (ok.putN g ny nd nr ho j)⟩
/-- x, y = Watch(m), e -/
def sWnewP (i j : Nat) (f g : En → Res PyData) : En → Out := fun env => .ofR (f env) env fun m => .ofR (g env) env fun d => .nx ((env.set i (some (wat0 m))).set j (some (.dat d)))
theorem ds_newP (i j : Nat) {y z : Str} {a b : Expr} {px py pt : Pos} {kt k2 pt2} (hc : X.calm = true) (hN : X.N.Nodup) (ha : PE X a (tNew X.prog X.w X.K W cm f)) (hb : DE X W cm b g)
    (hw : swappedStores [.Tuple [.Name y px, .Name z py] kt pt] (.Tuple [a, b] k2 pt2) X.env = pure (some [y, z]) := by rfl) (hi : X.N[i]? = some y := by rfl) (hj : X.N[j]? = some z := by rfl) (hij : i ≠ j := by decide) (hx : X.env.scope.names.lookup y = some .local := by rfl) (hy : X.env.scope.names.lookup z = some .local := by rfl)
    (hs : swapsWithSole [.Tuple [.Name y px, .Name z py] kt pt] (.Tuple [a, b] k2 pt2) pos.line X.env = pure false := by rfl)
    (he : starEach [a, b] X.env = (false, eval a X.env) :: starEach [b] X.env := by rfl) (he2 : starEach [b] X.env = [(false, eval b X.env)] := by rfl) :
    DS X W cm (.Assign [.Tuple [.Name y px, .Name z py] kt pt] (.Tuple [a, b] k2 pt2) pos) (sWnewP i j f g) :=
  ps_imp (ps_par hc hN hi hj hij hx hy (pa_cons ha (pa_cons hb pa_nil he2) he) hw hs) fun D σ H q => by
    obtain ⟨G0, H0, G, env, ok, q⟩ := q
    show tNew X.prog X.w X.K W cm f σ H fun v H1 => tD X.prog X.w X.K W cm g σ H1 fun u H2 => ∃ v' w', [v, u] = [v', w'] ∧ D.nx ((σ.set i (some v')).set j (some w')) H2
    refine ⟨G0, H0, G, env, ok, OutP.ofR ok q fun m _ k y C dx r G1 H1 g1 ny nd nr ho => ?_⟩
    have ok1 := ok.grow g1
    refine tD.go ok1 (OutP.ofR ok1 (OutP.mono k g1.g) fun d _ k u G2 H2 g2 ok2 du => ?_)
    have ho2 : WOwn X.K G2 H2 y C dx r m "" [.tuple [.int 0]] := by
      obtain ⟨vm, hx, _⟩ := ho.at_.ins
      obtain ⟨vs, hr, _⟩ := ho.at_.rws
      refine ⟨ho.at_.grow g2.g fun a o _ e => g2.h _ _ e, ?_, ?_, ?_⟩
      · rw [g2.old y (some_ne_none hx)]; exact ho.gx
      · rw [g2.old dx (some_ne_none ho.at_.own)]; exact ho.gd
      · rw [g2.old r (some_ne_none hr)]; exact ho.gr
    exact ⟨.ref y, u, rfl, k G2 _ H2 g2.g ((ok.putN (g1.trans g2) ny nd nr ho2 i).dat du)⟩
/-- x, y = Watch(m), Watch(m') -/
def sWnew2 (i j : Nat) (f g : En → Res PyData) : En → Out := fun env => .ofR (f env) env fun m => .ofR (g env) env fun d => .nx ((env.set i (some (wat0 m))).set j (some (wat0 d)))
theorem ds_new2 (i j : Nat) {y z : Str} {a b : Expr} {px py pt : Pos} {kt k2 pt2} (hc : X.calm = true) (hN : X.N.Nodup) (ha : PE X a (tNew X.prog X.w X.K W cm f)) (hb : PE X b (tNew X.prog X.w X.K W cm g))
    (hw : swappedStores [.Tuple [.Name y px, .Name z py] kt pt] (.Tuple [a, b] k2 pt2) X.env = pure (some [y, z]) := by rfl) (hi : X.N[i]? = some y := by rfl) (hj : X.N[j]? = some z := by rfl) (hij : i ≠ j := by decide) (hx : X.env.scope.names.lookup y = some .local := by rfl) (hy : X.env.scope.names.lookup z = some .local := by rfl)
    (hs : swapsWithSole [.Tuple [.Name y px, .Name z py] kt pt] (.Tuple [a, b] k2 pt2) pos.line X.env = pure false := by rfl)
    (he : starEach [a, b] X.env = (false, eval a X.env) :: starEach [b] X.env := by rfl) (he2 : starEach [b] X.env = [(false, eval b X.env)] := by rfl) :
    DS X W cm (.Assign [.Tuple [.Name y px, .Name z py] kt pt] (.Tuple [a, b] k2 pt2) pos) (sWnew2 i j f g) :=
  ps_imp (ps_par hc hN hi hj hij hx hy (pa_cons ha (pa_cons hb pa_nil he2) he) hw hs) fun D σ H q => by
    obtain ⟨G0, H0, G, env, ok, q⟩ := q
    show tNew X.prog X.w X.K W cm f σ H fun v H1 => tNew X.prog X.w X.K W cm g σ H1 fun u H2 => ∃ v' w', [v, u] = [v', w'] ∧ D.nx ((σ.set i (some v')).set j (some w')) H2
    refine ⟨G0, H0, G, env, ok, OutP.ofR ok q fun m _ k y C dx r G1 H1 g1 ny nd nr ho => ?_⟩
    have ok1 := ok.grow g1
    refine ⟨G0, H0, G1, env, ok1, OutP.ofR ok1 (OutP.mono k g1.g) fun d _ k y2 C2 dx2 r2 G2 H2 g2 ny2 nd2 nr2 ho2 => ?_⟩
    have ok3 := ok.putN g1 ny nd nr ho i
    obtain ⟨σ2, e2⟩ : ∃ σ2, σ2 = σ.set i (some (.ref y)) := ⟨_, rfl⟩
    rw [← e2] at ok3
    refine ⟨.ref y, .ref y2, rfl, ?_⟩
    rw [← e2]
    exact k G2 _ H2 g2.g (ok3.putN g2 ny2 nd2 nr2 ho2 j)
end
section
variable (env : En) (i j : Nat) (f g : En → Res PyData)
@[simp] theorem sWnew_e : sWnew j f env = .ofR (f env) env fun m => .nx (env.set j (some (wat0 m))) := (rfl)
@[simp] theorem sWnewP_e : sWnewP i j f g env = .ofR (f env) env fun m => .ofR (g env) env fun d => .nx ((env.set i (some (wat0 m))).set j (some (.dat d))) := (rfl)
@[simp] theorem sWnew2_e : sWnew2 i j f g env = .ofR (f env) env fun m => .ofR (g env) env fun d => .nx ((env.set i (some (wat0 m))).set j (some (wat0 d))) := (rfl)
@[simp] theorem sRetW_e : sRetW f env = .ofR (f env) env fun d => .rw d env := (rfl)
@[simp] theorem sXdrop_e (φ : En → XO) : sXdrop φ env = (φ env).then fun _ e => .nx e := (rfl)
@[simp] theorem sXset_e (φ : En → XO) : sXset j φ env = (φ env).then fun d e => .nx (e.set j (some (.dat d))) := (rfl)
@[simp] theorem sXret_e (φ : En → XO) : sXret φ env = (φ env).then fun d e => .rw d e := (rfl)
@[simp] theorem sXif_e (o : PyData → PyData → Res PyData) (φ : En → XO) (a b : En → Out) : sXif o φ f a b env = (φ env).then fun d e => .ofR (f e) e fun d2 => .ofR (o d d2) e fun r => .ofR (isB r) e fun c => if c then a e else b e := (rfl)
@[simp] theorem then_ok (d : PyData) (e : En) (k : PyData → En → Out) : (XO.ok d e).then k = k d e := (rfl)
@[simp] theorem then_ex (y : Str) (e : En) (k : PyData → En → Out) : (XO.ex y e).then k = .ex y e := (rfl)
@[simp] theorem xM_e (F : PyData → Str → List PyData → List PyData → WRes) (fa : En → Res (List PyData)) : xM i F fa env = if isWat env[i]? then xW i F fa env else .no := (rfl)
@[simp] theorem xW_e (F : PyData → Str → List PyData → List PyData → WRes) (fa : En → Res (List PyData)) : xW i F fa env = (match fa env with
  | .ok ds => wOut i env F ds env[i]?
  | .ex y => .ex y env
  | .no => .no) := (rfl)
@[simp] theorem wOut_e (F : PyData → Str → List PyData → List PyData → WRes) (ds : List PyData) (l : Option (Addr × Addr × Addr)) (m : PyData) (t : Str) (rows : List PyData) : wOut i env F ds (some (some (.wat l m t rows))) = (match F m t rows ds with
    | .ok d m' t' rows' => .ok d (env.set i (some (.wat l m' t' rows')))
    | .ex y m' t' rows' => .ex y (env.set i (some (.wat l m' t' rows')))
    | .no => .no) := (rfl)
@[simp] theorem fWread_e (F : PyData → Str → List PyData → List PyData → Res PyData) : fWread i F env = (match wat? env[i]? with
  | some (m, t, rows) => F m t rows []
  | none => .no) := (rfl)
end
def tryX (i : Nat) (wd : Str → Option Str) (o : Out) : Out := match o with
  | .ex x e => (match wd x with
    | some z => if i < e.length then .rw (.str z) e else .no
    | none => .no)
  | o => o
@[simp] theorem sTryX_e (i : Nat) (wd : Str → Option Str) (g : En → Out) (env : En) : sTryX i wd g env = tryX i wd (g env) := (rfl)
@[simp] theorem tryX_rw (i : Nat) (wd : Str → Option Str) (d : PyData) (e : En) : tryX i wd (.rw d e) = .rw d e := (rfl)
theorem tryX_ex {i : Nat} {wd : Str → Option Str} {x z : Str} {e : En} (h : wd x = some z) (hl : i < e.length) : tryX i wd (.ex x e) = .rw (.str z) e := by
  unfold tryX
  simp only [h]
  rw [if_pos hl]
/-- what the program's top says of a method -/
def MetIn (K : PySem.W.Frag) (C : Addr) (m q : Str) (st : Stmt) : Prop := ∃ (f : Addr) (od an : Option Addr) (sl : Array (Option Value)) (oc kV dc pm cd ct : Value), PySem.W.findIn K (.ref C) m = some (some (.ref f)) ∧ PySem.W.isFn K (.ref f) = true ∧
  K.lookup f = some ⟨oc, od, .func (PySem.W.fnOf m q (defArgs st) (defBody st) (defScope st) .none kV dc pm an cd ct), sl⟩ ∧ PySem.W.codeIn K cd q = true ∧ PySem.W.keepIn K (.ref f) = true
theorem metIn_mk {K : PySem.W.Frag} {C : Addr} {m q : Str} {st : Stmt} {f : Addr} {od an : Option Addr} {sl : Array (Option Value)} {oc kV dc pm cd ct : Value} (a : PySem.W.findIn K (.ref C) m = some (some (.ref f))) (i : PySem.W.isFn K (.ref f) = true)
    (l : K.lookup f = some ⟨oc, od, .func (PySem.W.fnOf m q (defArgs st) (defBody st) (defScope st) .none kV dc pm an cd ct), sl⟩) (c : PySem.W.codeIn K cd q = true) (k : PySem.W.keepIn K (.ref f) = true) : MetIn K C m q st := ⟨f, od, an, sl, oc, kV, dc, pm, cd, ct, a, i, l, c, k⟩
theorem MetIn.at {K : PySem.W.Frag} {C : Addr} {m q : Str} {st : Stmt} (h : MetIn K C m q st) : ∃ f fd, Fun K m q st f fd ∧ Meth K C m f := by
  obtain ⟨f, od, an, sl, oc, kV, dc, pm, cd, ct, a, i, l, c, k⟩ := h
  exact ⟨f, _, fun_mk (st := st) l c k, ⟨a, i, k⟩⟩
end GL

/-! # Slots beside the slots: what hangs on no name of the def alone -/
namespace GL
open PySem PySem.Spec PyProof.Rows L2
def NoWaz (env : En) : Prop := ∀ (i : Nat) (m : PyData) (t : Str) (r : List PyData), env[i]? ≠ some (some (.waz m t r))
section
variable {P : Program} {w : World} {K : PySem.W.Frag} {G0 H0 G H G' H' : Hp} {e1 e2 env : En} {s1 s2 σ : L2.St}
theorem SlOk.h0 {H0' : Hp} {v : V} {s : SV} (x : SlOk P w K H0 G H v s) (hw : ∀ m t r, s ≠ .waz m t r) (h : ∀ a, s.mu = true → Fp H v a → H0' a = none) : SlOk P w K H0' G H v s := by
  cases s with
  | dat d => exact x
  | own ds =>
    obtain ⟨p, vs, e, h0, hg, hh, hd⟩ := x
    exact ⟨p, vs, e, h p rfl (.inl e), hg, hh, hd⟩
  | dct kvs =>
    obtain ⟨p, e, h0, hg, hd⟩ := x
    exact ⟨p, e, h p rfl (.inl e), hg, hd⟩
  | raw u => exact x
  | dcz kvs => exact x
  | waz m t rows => exact absurd rfl (hw m t rows)
  | dki kvs =>
    obtain ⟨p, e, h0, hg, hd⟩ := x
    exact ⟨p, e, h p rfl (.inl e), hg, hd⟩
  | wat l m t rows =>
    obtain ⟨x, C, dx, r, e, hw', hlab, ⟨a1, a2⟩, ⟨b1, b2⟩, ⟨c1, c2⟩⟩ := x
    subst e
    exact ⟨x, C, dx, r, rfl, hw', hlab, ⟨h _ rfl fp_self, a2⟩, ⟨h _ rfl hw'.fpd, b2⟩, ⟨h _ rfl hw'.fpr, c2⟩⟩
theorem app_cases {α : Type} {a b : List α} {i : Nat} {x : α} (h : (a ++ b)[i]? = some x) : (i < a.length ∧ a[i]? = some x) ∨ (a.length ≤ i ∧ b[i - a.length]? = some x) := by
  by_cases hi : i < a.length
  · rw [List.getElem?_append_left hi] at h; exact .inl ⟨hi, h⟩
  · rw [List.getElem?_append_right (by omega)] at h; exact .inr ⟨by omega, h⟩
/-- one after the other: the second knows the first's heap -/
theorem OkG.join (a : OkG P w K G0 H0 G e1 s1 H) (b : OkG P w K G H G' e2 s2 H') (hw : NoWaz e2) : OkG P w K G0 H0 G' (e1 ++ e2) (s1 ++ s2) H' := by
  have sl1 : ∀ {i : Nat} {s : SV}, e1[i]? = some (some s) → ∃ v, s1[i]? = some (some v) ∧ SlOk P w K H0 G H v s ∧ SlOk P w K H0 G' H' v s := fun {i s} h => by
    obtain ⟨v, h1, h2⟩ := a.sl i s h
    exact ⟨v, h1, h2, h2.grow b.gr.g fun m p o _ q => ⟨b.gr.h _ _ q, b.gr.old p (some_ne_none q)⟩⟩
  have g1 : ∀ {i : Nat} {o : Option SV}, i < e1.length → (s1 ++ s2)[i]? = s1[i]? := fun {i o} h => List.getElem?_append_left (by rw [← a.len]; exact h)
  have g2 : ∀ {i : Nat}, e1.length ≤ i → (s1 ++ s2)[i]? = s2[i - e1.length]? := fun {i} h => by rw [List.getElem?_append_right (by rw [← a.len]; exact h), a.len]
  refine ⟨a.gr.trans b.gr, by rw [List.length_append, List.length_append, a.len, b.len], fun i s h => ?_, fun i j s t u v x h1 h2 m1 m2 k1 k2 f1 f2 => ?_⟩
  · rcases app_cases h with ⟨hi, h⟩ | ⟨hi, h⟩
    · obtain ⟨v, q1, _, q2⟩ := sl1 h
      exact ⟨v, by rw [g1 (o := none) hi]; exact q1, q2⟩
    · obtain ⟨v, q1, q2⟩ := b.sl _ s h
      exact ⟨v, by rw [g2 hi]; exact q1, q2.h0 (fun m t r e => hw _ m t r (e ▸ h)) fun p m f => a.gr.h.free (q2.fp m f).1⟩
  · have cross : ∀ {i j : Nat} {s t : SV} {u v : V}, e1[i]? = some (some s) → e2[j]? = some (some t) → s.mu = true → t.mu = true → s1[i]? = some (some u) → s2[j]? = some (some v) → Fp H' u x → Fp H' v x → False := fun {i j s t u v} h1 h2 m1 m2 k1 k2 f1 f2 => by
      obtain ⟨u', q1, q2, _⟩ := sl1 h1
      rw [k1] at q1; cases q1
      obtain ⟨v', r1, r2⟩ := b.sl _ t h2
      rw [k2] at r1; cases r1
      obtain ⟨_, _, o, ho⟩ := q2.fp m1 (q2.fpm m1 (fun p o _ q => b.gr.h _ _ q) f1)
      rw [(r2.fp m2 f2).1] at ho
      cases ho
    rcases app_cases h1 with ⟨hi, h1⟩ | ⟨hi, h1⟩
    · rw [g1 (o := none) hi] at k1
      rcases app_cases h2 with ⟨hj, h2⟩ | ⟨hj, h2⟩
      · rw [g1 (o := none) hj] at k2
        obtain ⟨u', q1, q2, _⟩ := sl1 h1
        rw [k1] at q1; cases q1
        obtain ⟨v', r1, r2, _⟩ := sl1 h2
        rw [k2] at r1; cases r1
        exact a.ap i j s t u v x h1 h2 m1 m2 k1 k2 (q2.fpm m1 (fun p o _ q => b.gr.h _ _ q) f1) (r2.fpm m2 (fun p o _ q => b.gr.h _ _ q) f2)
      · rw [g2 hj] at k2
        exact (cross h1 h2 m1 m2 k1 k2 f1 f2).elim
    · rw [g2 hi] at k1
      rcases app_cases h2 with ⟨hj, h2⟩ | ⟨hj, h2⟩
      · rw [g1 (o := none) hj] at k2
        exact (cross h2 h1 m2 m1 k2 k1 f2 f1).elim
      · rw [g2 hj] at k2
        have := b.ap _ _ s t u v x h1 h2 m1 m2 k1 k2 f1 f2
        omega
theorem OkG.swap (x : OkG P w K G0 H0 G (e1 ++ e2) (s1 ++ s2) H) (h1 : e1.length = s1.length) (h2 : e2.length = s2.length) : OkG P w K G0 H0 G (e2 ++ e1) (s2 ++ s1) H := by
  have key : ∀ {i : Nat} {s : SV}, (e2 ++ e1)[i]? = some (some s) → ∃ j, (e1 ++ e2)[j]? = some (some s) ∧ (s1 ++ s2)[j]? = (s2 ++ s1)[i]? ∧ (j = if i < e2.length then e1.length + i else i - e2.length) := fun {i s} h => by
    rcases app_cases h with ⟨hi, h⟩ | ⟨hi, h⟩
    · refine ⟨e1.length + i, ?_, ?_, by rw [if_pos hi]⟩
      · rw [List.getElem?_append_right (by omega), Nat.add_sub_cancel_left]; exact h
      · rw [List.getElem?_append_right (by omega), h1, Nat.add_sub_cancel_left, List.getElem?_append_left (by omega)]
    · have hlt := (List.getElem?_eq_some_iff.mp h).1
      refine ⟨i - e2.length, ?_, ?_, by rw [if_neg (by omega)]⟩
      · rw [List.getElem?_append_left hlt]; exact h
      · rw [List.getElem?_append_left (by omega), List.getElem?_append_right (by omega), h2]
  refine ⟨x.gr, by rw [List.length_append, List.length_append]; omega, fun i s h => ?_, fun i j s t u v a k1 k2 m1 m2 q1 q2 f1 f2 => ?_⟩
  · obtain ⟨j, a1, a2, _⟩ := key h
    rw [← a2]
    exact x.sl j s a1
  · obtain ⟨i', a1, a2, a3⟩ := key k1
    obtain ⟨j', b1, b2, b3⟩ := key k2
    have l1 := (List.getElem?_eq_some_iff.mp k1).1
    have l2 := (List.getElem?_eq_some_iff.mp k2).1
    rw [List.length_append] at l1 l2
    have := x.ap i' j' s t u v a a1 b1 m1 m2 (by rw [a2]; exact q1) (by rw [b2]; exact q2) f1 f2
    rw [a3, b3] at this
    split at this <;> split at this <;> omega
/-- the second part apart: the first over a heap in which the second is not -/
theorem OkG.split (x : OkG P w K G0 H0 G (e1 ++ e2) (s1 ++ s2) H) (h1 : e1.length = s1.length) (hw : NoWaz e1) : ∃ Hb, OkG P w K G0 H0 G e2 s2 Hb ∧ OkG P w K G Hb G e1 s1 H ∧ ∀ a o, G a = some o → Hb a = some o := by
  classical
  have g1 : ∀ {i : Nat} {s : SV}, e1[i]? = some (some s) → (e1 ++ e2)[i]? = some (some s) ∧ (s1 ++ s2)[i]? = s1[i]? := fun {i s} h => by
    have hi := (List.getElem?_eq_some_iff.mp h).1
    exact ⟨by rw [List.getElem?_append_left hi]; exact h, List.getElem?_append_left (by omega)⟩
  have g2 : ∀ {i : Nat} {s : SV}, e2[i]? = some (some s) → (e1 ++ e2)[e1.length + i]? = some (some s) ∧ (s1 ++ s2)[e1.length + i]? = s2[i]? := fun {i s} h => by
    exact ⟨by rw [List.getElem?_append_right (by omega), Nat.add_sub_cancel_left]; exact h, by rw [List.getElem?_append_right (by omega), h1, Nat.add_sub_cancel_left]⟩
  have hl2 : e2.length = s2.length := by
    have := x.len
    rw [List.length_append, List.length_append] at this
    omega
  let In := fun a => ∃ (i : Nat) (s : SV) (v : V), e1[i]? = some (some s) ∧ s.mu = true ∧ s1[i]? = some (some v) ∧ Fp H v a
  obtain ⟨Hb, eb⟩ : ∃ Hb : Hp, Hb = fun a => if In a then none else H a := ⟨_, rfl⟩
  have bin : ∀ {a}, In a → Hb a = none := fun {a} h => by rw [eb]; exact if_pos h
  have bout : ∀ {a}, ¬ In a → Hb a = H a := fun {a} h => by rw [eb]; exact if_neg h
  have inN : ∀ {a}, In a → H0 a = none ∧ G a = none ∧ ∃ o, H a = some o := fun {a} ⟨i, s, v, a1, a2, a3, a4⟩ => by
    obtain ⟨k1, k2⟩ := g1 a1
    obtain ⟨v', q1, q2⟩ := x.sl i s k1
    rw [k2, a3] at q1; cases q1
    exact q2.fp a2 a4
  have sub : Same Hb H := fun a o h => by
    by_cases z : In a
    · rw [bin z] at h; cases h
    · rw [bout z] at h; exact h
  have gb : Same G Hb := fun a o h => by
    by_cases z : In a
    · rw [(inN z).2.1] at h; cases h
    · rw [bout z]; exact x.gr.gh _ _ h
  have h0b : Same H0 Hb := fun a o h => by
    by_cases z : In a
    · rw [(inN z).1] at h; cases h
    · rw [bout z]; exact x.gr.h _ _ h
  have out2 : ∀ {i : Nat} {s : SV} {v : V} {a : Addr}, e2[i]? = some (some s) → s.mu = true → s2[i]? = some (some v) → Fp H v a → ¬ In a := fun {i s v a} h m k f ⟨j, t, u, a1, a2, a3, a4⟩ => by
    obtain ⟨k1, k2⟩ := g1 a1
    obtain ⟨k3, k4⟩ := g2 h
    have := x.ap j (e1.length + i) t s u v a k1 k3 a2 m (by rw [k2]; exact a3) (by rw [k4]; exact k) a4 f
    have := (List.getElem?_eq_some_iff.mp a1).1
    omega
  have sl2 : ∀ {i : Nat} {s : SV}, e2[i]? = some (some s) → ∃ v, s2[i]? = some (some v) ∧ SlOk P w K H0 G H v s ∧ SlOk P w K H0 G Hb v s := fun {i s} h => by
    obtain ⟨k3, k4⟩ := g2 h
    obtain ⟨v, q1, q2⟩ := x.sl _ s k3
    rw [k4] at q1
    exact ⟨v, q1, q2, q2.grow (Same.refl G) fun m p o f q => ⟨by rw [bout (out2 h m q1 f)]; exact q, rfl⟩⟩
  refine ⟨Hb, ⟨⟨h0b, x.gr.g, gb, x.gr.old⟩, hl2, fun i s h => ?_, fun i j s t u v a k1 k2 m1 m2 q1 q2 f1 f2 => ?_⟩, ⟨⟨sub, Same.refl G, x.gr.gh, fun _ _ => rfl⟩, h1, fun i s h => ?_, fun i j s t u v a k1 k2 m1 m2 q1 q2 f1 f2 => ?_⟩, gb⟩
  · obtain ⟨v, q1, _, q3⟩ := sl2 h
    exact ⟨v, q1, q3⟩
  · obtain ⟨u', r1, r2, r3⟩ := sl2 k1
    rw [q1] at r1; cases r1
    obtain ⟨v', r4, r5, r6⟩ := sl2 k2
    rw [q2] at r4; cases r4
    obtain ⟨k3, k4⟩ := g2 k1
    obtain ⟨k5, k6⟩ := g2 k2
    have fm : ∀ {y : V}, Fp Hb y a → Fp H y a := fun {y} f => by
      rcases f with f | ⟨z, C, dx, fs, e, hz, k⟩
      · exact .inl f
      · exact .inr ⟨z, C, dx, fs, e, sub _ _ hz, k⟩
    have := x.ap _ _ s t u v a k3 k5 m1 m2 (by rw [k4]; exact q1) (by rw [k6]; exact q2) (fm f1) (fm f2)
    omega
  · obtain ⟨k1, k2⟩ := g1 h
    obtain ⟨v, q1, q2⟩ := x.sl i s k1
    rw [k2] at q1
    exact ⟨v, q1, q2.h0 (fun m t r e => hw i m t r (e ▸ h)) fun a m f => bin ⟨i, s, v, h, m, q1, f⟩⟩
  · obtain ⟨k3, k4⟩ := g1 k1
    obtain ⟨k5, k6⟩ := g1 k2
    exact x.ap i j s t u v a k3 k5 m1 m2 (by rw [k4]; exact q1) (by rw [k6]; exact q2) f1 f2
/-- one slot more at the end -/
theorem OkG.snoc (x : OkG P w K G0 H0 G env σ H) {p : Addr} {s : SV} (h : SlOk P w K H0 G H (.ref p) s) (hn : ∀ (j : Nat) t v a, env[j]? = some (some t) → t.mu = true → σ[j]? = some (some v) → Fp H (.ref p) a → ¬ Fp H v a) : OkG P w K G0 H0 G (env ++ [some s]) (σ ++ [some (.ref p)]) H := by
  have y : OkG P w K G0 H0 G (env ++ [none]) (σ ++ [none]) H := x.less (by rw [List.length_append, List.length_append, x.len]; rfl) fun i s h => by
    rcases app_cases h with ⟨hi, h⟩ | ⟨hi, h⟩
    · exact ⟨h, by rw [List.getElem?_append_left (by rw [← x.len]; exact hi)]⟩
    · have := (List.getElem?_eq_some_iff.mp h).1
      have e : i - env.length = 0 := by simp at this; omega
      rw [e] at h; cases h
  have z := y.put (i := env.length) h fun j t v a hj h1 m h2 f => by
    rcases app_cases h1 with ⟨hi, h1⟩ | ⟨hi, h1⟩
    · rw [List.getElem?_append_left (by rw [← x.len]; exact hi)] at h2
      exact hn j t v a h1 m h2 f
    · have := (List.getElem?_eq_some_iff.mp h1).1
      have e : j - env.length = 0 := by simp at this; omega
      rw [e] at h1; cases h1
  rw [List.set_append_right _ _ (Nat.le_refl _), Nat.sub_self] at z
  rw [x.len, List.set_append_right _ _ (Nat.le_refl _), Nat.sub_self] at z
  exact z
/-- a new list of one's own -/
theorem OkG.newL (x : OkG P w K G0 H0 G env σ H) {p : Addr} (hp : H p = none) : OkG P w K G0 H0 G (env ++ [some (.own [])]) (σ ++ [some (.ref p)]) (upd H p (.lst [])) := by
  have g := Grow.fresh (o := .lst []) x.gh hp
  refine (x.grow g).snoc ⟨p, [], rfl, x.gr.h.free hp, x.gh.free hp, upd_same, .nil⟩ fun j t v a h1 m h2 f1 f2 => ?_
  cases fp_lst upd_same f1
  exact x.new g.h hp h1 m h2 f2
/-- the names' slots alone -/
theorem OkG.front (x : OkG P w K G0 H0 G (e1 ++ e2) (s1 ++ s2) H) (h1 : e1.length = s1.length) : OkG P w K G0 H0 G e1 s1 H :=
  x.less h1 fun i s h => by
    have hi := (List.getElem?_eq_some_iff.mp h).1
    exact ⟨by rw [List.getElem?_append_left hi]; exact h, by rw [List.getElem?_append_left (by omega)]⟩
end
end GL

/-! # Statements over slots beside the slots -/
namespace GL
open PySem PySem.Spec PyProof.Rows L2
def tHo (a b : L2.St → Hp → Prop) : TS := fun D σ H => a σ H ∧ ∀ σ' H', b σ' H' → D.nx σ' H'
/-- the slots env by names, the slots xe beside them at the values xs; Pin is known of what stands still -/
def FR (P : Program) (w : World) (K : PySem.W.Frag) (G0 H0 : Hp) (Pin : Hp → Prop) (xs : L2.St) (Gs : Hp) (env xe : En) : L2.St → Hp → Prop := fun σ H => ∃ G, Same Gs G ∧ Pin G ∧ env.length = σ.length ∧ OkG P w K G0 H0 G (env ++ xe) (σ ++ xs) H
def PinM (Pin : Hp → Prop) : Prop := ∀ G G', Same G G' → Pin G → Pin G'
section
variable {X : Cx} {W : WX} {cm : Str → Addr} {st : Stmt} {rest body : List Stmt} {a b c : L2.St → Hp → Prop} {G0 H0 Gs : Hp} {Pin : Hp → Prop} {xs : L2.St}
theorem ho_cons (h1 : PS X st (tHo a b)) (h2 : PSs X rest (tHo b c)) : PSs X (st :: rest) (tHo a c) := pss_imp (pss_cons h1 h2) fun D σ H h => ⟨h.1, fun σ' H' hb => ⟨hb, h.2⟩⟩
theorem ho_last (h1 : PS X st (tHo a b)) : PSs X [st] (tHo a b) := pss_one h1
theorem ho_w {a' b' : L2.St → Hp → Prop} (h : PSs X rest (tHo a b)) (ha : ∀ σ H, a' σ H → a σ H) (hb : ∀ σ H, b σ H → b' σ H) : PSs X rest (tHo a' b') := pss_imp h fun D σ H q => ⟨ha σ H q.1, fun σ' H' k => q.2 σ' H' (hb σ' H' k)⟩
theorem ho_w1 {a' b' : L2.St → Hp → Prop} (h : PS X st (tHo a b)) (ha : ∀ σ H, a' σ H → a σ H) (hb : ∀ σ H, b σ H → b' σ H) : PS X st (tHo a' b') := ps_imp h fun D σ H q => ⟨ha σ H q.1, fun σ' H' k => q.2 σ' H' (hb σ' H' k)⟩
theorem swap_back {P : Program} {w : World} {K : PySem.W.Frag} {G0 H0 G Hb G' H' : Hp} {env' xe : En} {σ' xs : L2.St} (okx : OkG P w K G0 H0 G xe xs Hb) (ok' : OkG P w K G Hb G' env' σ' H') (hw : NoWaz env') : OkG P w K G0 H0 G' (env' ++ xe) (σ' ++ xs) H' := (okx.join ok' hw).swap okx.len ok'.len
/-- a statement that looks at the names' slots alone -/
theorem ho_frame {g : En → Out} {env env' xe : En} (h : DS X W cm st g) (e : g env = .nx env') (hw : NoWaz env) (hw' : NoWaz env') (hm : PinM Pin) : PS X st (tHo (FR X.prog X.w X.K G0 H0 Pin xs Gs env xe) (FR X.prog X.w X.K G0 H0 Pin xs Gs env' xe)) := ps_imp h fun D σ H q => by
  obtain ⟨⟨G, s, p, l, ok⟩, k⟩ := q
  obtain ⟨Hb, okx, oke, _⟩ := ok.split l hw
  refine ⟨G, Hb, G, env, oke, ?_⟩
  rw [e]
  exact fun G' σ' H' s' ok' => k σ' H' ⟨G', s.trans s', hm _ _ s' p, ok'.len, swap_back okx ok' hw'⟩
/-- for x in ..: over data -/
theorem ho_for {tg iter : Expr} {pos : Pos} {fi : En → Res (List PyData)} {j : Nat} {ds : List PyData} {Ψ : Nat → En → En → Prop} (hp : PassesOwn (model X.prog X.w) X.A X.env X.xe) (hc : X.calm = true) (hi : DF X W cm tg iter fi) (hg : DG X tg (.one j)) (hm : PinM Pin)
    (hfi : ∀ env xe, Ψ 0 env xe → fi env = .ok ds) (hz : ∀ i env xe, Ψ i env xe → NoWaz env)
    (hb : ∀ (Gs : Hp) (i : Nat) (d : PyData) (env xe : En), Ψ i env xe → ds[i]? = some d → PSs X body (tHo (FR X.prog X.w X.K G0 H0 Pin xs Gs (env.set j (some (.dat d))) xe) (fun σ H => ∃ env' xe', Ψ (i + 1) env' xe' ∧ FR X.prog X.w X.K G0 H0 Pin xs Gs env' xe' σ H)))
    (hs : ∀ x, foldedSetIterable iter X.env x = pure x := by intro _; rfl) :
    PS X (.For tg iter body [] pos) (tHo (fun σ H => ∃ env xe, Ψ 0 env xe ∧ FR X.prog X.w X.K G0 H0 Pin xs Gs env xe σ H) (fun σ H => ∃ env xe, Ψ ds.length env xe ∧ FR X.prog X.w X.K G0 H0 Pin xs Gs env xe σ H)) := by
  have hbody : PSs X body (fun D σ H => ∃ (Gs : Hp) (i : Nat) (d : PyData) (env xe : En), Ψ i env xe ∧ ds[i]? = some d ∧ tHo (FR X.prog X.w X.K G0 H0 Pin xs Gs (env.set j (some (.dat d))) xe) (fun σ H => ∃ env' xe', Ψ (i + 1) env' xe' ∧ FR X.prog X.w X.K G0 H0 Pin xs Gs env' xe' σ H) D σ H) :=
    ⟨fun pins s σ H D I ⟨Gs, i, d, env, xe, h1, h2, h3⟩ => (hb Gs i d env xe h1 h2).run pins s σ H D I h3⟩
  refine ps_imp (ps_for hp hc hi hg hbody hs) fun D σ H q => ?_
  obtain ⟨⟨env, xe, hΨ, G, sG, pin, hl, ok⟩, k⟩ := q
  refine ⟨G0, H0, G, env, ok.front hl, ?_⟩
  rw [hfi env xe hΨ]
  intro J G1 H1 g1 it hsz
  have ok1 := ok.grow g1
  refine ⟨fun i m σ2 H2 => m = ds.length - i ∧ i ≤ ds.length ∧ ∃ env2 xe2, Ψ i env2 xe2 ∧ FR X.prog X.w X.K G0 H0 Pin xs G1 env2 xe2 σ2 H2, ⟨ds.length, by simp, Nat.zero_le _, env, xe, hΨ, G1, Same.refl G1, hm _ _ g1.g pin, hl, ok1⟩, ?_⟩
  rintro i m σ2 H2 ⟨rfl, hi, env2, xe2, hΨ2, G2, s2, p2, l2, ok2⟩
  obtain ⟨itg, its⟩ := it i G2 H2 s2 (s2.trans ok2.gh) ok2.gh
  by_cases hlt : i < ds.length
  · obtain ⟨go, yl⟩ := itg ds[i] (List.getElem?_eq_getElem hlt)
    refine .inr ⟨go, fun σ3 H3 => ∃ env3 xe3, Ψ (i + 1) env3 xe3 ∧ FR X.prog X.w X.K G0 H0 Pin xs G1 env3 xe3 σ3 H3, fun σ3 H3 h3 => ⟨ds.length - (i + 1), by omega, rfl, hlt, h3⟩, fun x H3 hy => ?_⟩
    obtain ⟨G3, g3, dp⟩ := yl x H3 hy
    have ok3 := ok2.grow g3
    have nw := hz i env2 xe2 hΨ2
    obtain ⟨Hb, okx, oke, _⟩ := ok3.split l2 nw
    refine ⟨G3, Hb, G3, env2, ds[i], _, oke, dp, rfl, fun σ4 ok4 hs4 hl4 => ?_⟩
    have nw' : NoWaz (env2.set j (some (.dat ds[i]))) := fun q m t r e => by
      by_cases hq : j = q
      · subst hq
        by_cases hlq : j < env2.length
        · rw [List.getElem?_set_self hlq] at e; cases e
        · rw [List.getElem?_eq_none (by rw [List.length_set]; omega)] at e; cases e
      · rw [List.getElem?_set_ne hq] at e
        exact nw q m t r e
    exact ⟨G1, i, ds[i], env2, xe2, hΨ2, List.getElem?_eq_getElem hlt, ⟨G3, s2.trans g3.g, hm _ _ g3.g p2, ok4.len, swap_back okx ok4 nw'⟩, fun σ' H' h' => h'⟩
  · have e0 : i = ds.length := by omega
    subst e0
    exact .inl ⟨its (Nat.le_refl _), k σ2 H2 ⟨env2, xe2, hΨ2, G2, sG.trans (g1.g.trans s2), p2, l2, ok2⟩⟩
end
/-! ### x[n] -/
section
variable {X : Cx} {W : WX} {cm : Str → Addr} {G0 H0 Gs G H : Hp} {Pin : Hp → Prop} {xs σ : L2.St} {env xe : En}
theorem virt {P : Program} {w : World} {K : PySem.W.Frag} (ok : OkG P w K G0 H0 G (env ++ xe) (σ ++ xs) H) (hl : env.length = σ.length) {j : Nat} {s : SV} {v : V} (h : xe[j]? = some (some s)) (hx : xs[j]? = some (some v)) : (env ++ xe)[env.length + j]? = some (some s) ∧ (σ ++ xs)[env.length + j]? = some (some v) ∧ SlOk P w K H0 G H v s := by
  have h1 : (env ++ xe)[env.length + j]? = some (some s) := by rw [List.getElem?_append_right (by omega), Nat.add_sub_cancel_left]; exact h
  have h2 : (σ ++ xs)[env.length + j]? = some (some v) := by rw [List.getElem?_append_right (by omega), hl, Nat.add_sub_cancel_left]; exact hx
  obtain ⟨v', q1, q2⟩ := ok.sl _ s h1
  rw [h2] at q1
  cases q1
  exact ⟨h1, h2, q2⟩
theorem set_virt {α : Type} {e x : List α} {j : Nat} {a : α} : (e ++ x).set (e.length + j) a = e ++ x.set j a := by rw [List.set_append_right _ _ (by omega), Nat.add_sub_cancel_left]
/-- a place of a list of things that stands still -/
theorem t_at {P : Program} {w : World} {K : PySem.W.Frag} (ok : OkG P w K G0 H0 G (env ++ xe) (σ ++ xs) H) (hl : env.length = σ.length) {a b n : Nat} {p r : Addr} {us : List V} (ha : env[a]? = some (some (.raw (.ref p)))) (hb : env[b]? = some (some (.dat (.int (n : Int))))) (hp : G p = some (.lst us)) (hu : us[n]? = some (.ref r)) {Q : VK} (h : Q (.ref r) H) :
    tOp (rIxL K) (tVar a) (tVar b) σ H Q := by
  have okf := ok.front hl
  obtain ⟨v, h1, h2⟩ := okf.sl a _ ha
  have h2 : v = .ref p := h2
  subst h2
  obtain ⟨v', h3, h4⟩ := okf.sl b _ hb
  cases h4
  exact ⟨_, h1, _, h3, p, us, (n : Int), .ref r, rfl, rfl, .inl (.inl (ok.gh _ _ hp)), by rw [atI_nat]; exact hu, h⟩
/-- x[n].append(e) -/
theorem ho_app {e : Expr} {pos : Pos} {f : En → Res PyData} {a b n jn : Nat} {p r : Addr} {us : List V} {ds : List PyData} {d : PyData} (h : PE X e (tBM X.K "list" rAppend (tOp (rIxL X.K) (tVar a) (tVar b)) (tCons (tD X.prog X.w X.K W cm f) tNil)))
    (ha : env[a]? = some (some (.raw (.ref p)))) (hb : env[b]? = some (some (.dat (.int (n : Int))))) (hp : ∀ G, Pin G → G p = some (.lst us)) (hu : us[n]? = some (.ref r)) (hx : xs[jn]? = some (some (.ref r))) (hd : xe[jn]? = some (some (.own ds))) (hn : ds.length < 1000) (hf : f env = .ok d) (hm : PinM Pin)
    (hs : swapsWith e none pos.line X.env = pure false := by rfl) : PS X (.Expr e pos) (tHo (FR X.prog X.w X.K G0 H0 Pin xs Gs env xe) (FR X.prog X.w X.K G0 H0 Pin xs Gs env (xe.set jn (some (.own (ds ++ [d])))))) := ps_imp (ps_expr h hs) fun D σ H q => by
  obtain ⟨⟨G, s, pin, l, ok⟩, k⟩ := q
  refine t_at ok l ha hb (hp G pin) hu ?_
  obtain ⟨_, _, p', vs, e', h0, hg, hh, da⟩ := virt ok l hd hx
  cases e'
  refine ⟨tyL hh, ?_⟩
  refine ⟨G0, H0, G, env, ok.front l, ?_⟩
  rw [hf]
  intro v G1 H1 g1 dp
  have ok1 := ok.grow g1
  obtain ⟨q1, q2, p', vs, e', h0, hg, hh, da⟩ := virt ok1 l hd hx
  cases e'
  refine ⟨r, vs, v, rfl, rfl, hh, by rw [dpAll_length da]; exact Nat.lt_trans hn (by decide), k σ _ ⟨G1, s.trans g1.g, hm _ _ g1.g pin, l, ?_⟩⟩
  have := ok1.mut (s' := .own (ds ++ [d])) (o' := .lst (vs ++ [v])) q1 rfl q2 h0 hg ⟨r, _, rfl, h0, hg, upd_same, dpAll_app da (dpAll_one dp)⟩
  rw [set_virt] at this
  exact this
end
end GL

/-! # Statements over watches in a list -/
namespace GL
open PySem PySem.Spec PyProof.Rows L2
section
variable {X : Cx} {W : WX} {cm : Str → Addr} {G0 H0 Gs G H : Hp} {Pin : Hp → Prop} {xs σ : L2.St} {env xe : En} {C : Addr}
theorem pe_clW {k k' n : Nat} {ps : List Str} {x : Str} {p pos : Pos} {e : Expr} {es : List Expr} {t : TA} {F : PyData → Str → List PyData → List PyData → WRes} (M : Callee X.prog X.w X.K X.mg X.base k x ps (spW X.K cm C n F)) (hr : Room k' X.A) (hle : k ≤ k') (tk : Takes X W) (ha : PA X (e :: es) t) (hg : Gl X x := by rfl)
    (hdb : (x == ("__debug__" : Str)) = false := by decide) (he : starEach (e :: es) X.env = (false, eval e X.env) :: starEach es X.env := by rfl) (hpl : (backTo pos (starEach es X.env)).any (·.1) = false := by rfl) :
    PE X (.Call (.Name x p) (e :: es) [] pos) (tCallS (spW X.K cm C n F) (fun σ => WE W σ) t) := by
  obtain ⟨f, fd, h1, h2, h3, h4⟩ := M
  exact pe_callS h4 (hr.mono hle) hg h3 h1 h2 (fun σ => passAt tk σ) ha hdb he hpl
/-- a call that is handed a watch beside the slots -/
theorem t_callW {jx : Nat} {x : Addr} {c : PyData} {F : PyData → Str → List PyData → List PyData → WRes} {E : XK} {m m' : PyData} {t t' : Str} {r r' : List PyData} {d : PyData} {v : V} (T : WCls X.K X.mg C) (ok : OkG X.prog X.w X.K G0 H0 G (env ++ xe) (σ ++ xs) H) (hl : env.length = σ.length)
    (hx : xs[jx]? = some (some (.ref x))) (hd : xe[jx]? = some (some (.wat none m t r))) (dv : Dp X.K G v c) (hF : F m t r [c] = .ok d m' t' r') {Q : VK}
    (k : ∀ v G' H', Same G G' → OkG X.prog X.w X.K G0 H0 G' (env ++ xe.set jx (some (.wat none m' t' r'))) (σ ++ xs) H' → Dp X.K G' v d → Q v H') : spW X.K cm C 1 F (.ref x :: [v]) H Q E := by
  obtain ⟨q1, q2, y, C', dx, rr, e, hw, hlab, ⟨a1, a2⟩, ⟨b1, b2⟩, ⟨c1, c2⟩⟩ := virt ok hl hd hx
  cases e
  have ec := cls_eq T hw.cls
  subst ec
  refine ⟨rfl, G, x, dx, rr, m, t, r, [v], [c], rfl, ok.gh, ⟨hw, a2, b2, c2⟩, .cons dv .nil, ?_⟩
  rw [hF]
  intro v' G' H' gw ho dv'
  refine k v' G' H' gw.g ?_ dv'
  have := ok.mutW q1 q2 hw hlab ⟨a1, b1, c1⟩ gw ho
  rw [set_virt] at this
  exact this
/-- x[n].append(f(w[n], e)) -/
theorem ho_appW {e : Expr} {pos : Pos} {f : En → Res PyData} {a a2 b n jn jx : Nat} {p p2 r x : Addr} {us us2 : List V} {ds : List PyData} {c d m m' : PyData} {t t' : Str} {w w' : List PyData} {F : PyData → Str → List PyData → List PyData → WRes} {E : L2.St → XK} (T : WCls X.K X.mg C)
    (h : PE X e (tBM X.K "list" rAppend (tOp (rIxL X.K) (tVar a) (tVar b)) (tCons (tCallS (spW X.K cm C 1 F) E (tCons (tOp (rIxL X.K) (tVar a2) (tVar b)) (tCons (tD X.prog X.w X.K W cm f) tNil))) tNil)))
    (ha : env[a]? = some (some (.raw (.ref p)))) (ha2 : env[a2]? = some (some (.raw (.ref p2)))) (hb : env[b]? = some (some (.dat (.int (n : Int))))) (hp : ∀ G, Pin G → G p = some (.lst us)) (hp2 : ∀ G, Pin G → G p2 = some (.lst us2)) (hu : us[n]? = some (.ref r)) (hu2 : us2[n]? = some (.ref x))
    (hx : xs[jn]? = some (some (.ref r))) (hd : xe[jn]? = some (some (.own ds))) (hx2 : xs[jx]? = some (some (.ref x))) (hd2 : xe[jx]? = some (some (.wat none m t w))) (hj : jx ≠ jn) (hn : ds.length < 1000) (hf : f env = .ok c) (hF : F m t w [c] = .ok d m' t' w') (hm : PinM Pin)
    (hs : swapsWith e none pos.line X.env = pure false := by rfl) : PS X (.Expr e pos) (tHo (FR X.prog X.w X.K G0 H0 Pin xs Gs env xe) (FR X.prog X.w X.K G0 H0 Pin xs Gs env ((xe.set jx (some (.wat none m' t' w'))).set jn (some (.own (ds ++ [d])))))) := ps_imp (ps_expr h hs) fun D σ H q => by
  obtain ⟨⟨G, s, pin, l, ok⟩, k⟩ := q
  refine t_at ok l ha hb (hp G pin) hu ?_
  obtain ⟨_, _, p', vs, e', h0, hg, hh, da⟩ := virt ok l hd hx
  cases e'
  refine ⟨tyL hh, ?_⟩
  refine t_at ok l ha2 hb (hp2 G pin) hu2 ?_
  refine ⟨G0, H0, G, env, ok.front l, ?_⟩
  rw [hf]
  intro v G1 H1 g1 dp
  have ok1 := ok.grow g1
  show spW X.K cm C 1 F (.ref x :: [v]) H1 (fun y H2 => rAppend (.ref r) [y] H2 fun _ H3 => D.nx σ H3) (E σ)
  refine t_callW T ok1 l hx2 hd2 dp hF fun v' G2 H2 g2 ok2 dv => ?_
  have hd' : (xe.set jx (some (.wat none m' t' w')))[jn]? = some (some (.own ds)) := by rw [List.getElem?_set_ne hj]; exact hd
  obtain ⟨q1, q2, p', vs, e', h0, hg, hh, da⟩ := virt ok2 l hd' hx
  cases e'
  refine ⟨r, vs, v', rfl, rfl, hh, by rw [dpAll_length da]; exact Nat.lt_trans hn (by decide), k σ _ ⟨G2, s.trans (g1.g.trans g2), hm _ _ (g1.g.trans g2) pin, l, ?_⟩⟩
  have := ok2.mut (s' := .own (ds ++ [d])) (o' := .lst (vs ++ [v'])) q1 rfl q2 h0 hg ⟨r, _, rfl, h0, hg, upd_same, dpAll_app da (dpAll_one dv)⟩
  rw [set_virt] at this
  exact this
/-! ### new lists, new watches -/
/-- a name put to a thing that stands still -/
theorem OkG.raw (x : OkG X.prog X.w X.K G0 H0 G env σ H) {i : Nat} {v : V} : OkG X.prog X.w X.K G0 H0 G (env.set i (some (.raw v))) (σ.set i (some v)) H where
  gr := x.gr
  len := by rw [List.length_set, List.length_set]; exact x.len
  sl := fun j s e => by
    by_cases hj : i = j
    · subst hj
      by_cases hi : i < env.length
      · rw [List.getElem?_set_self hi] at e
        cases e
        exact ⟨v, List.getElem?_set_self (by rw [← x.len]; exact hi), rfl⟩
      · rw [List.getElem?_eq_none (by rw [List.length_set]; omega)] at e; cases e
    · rw [List.getElem?_set_ne hj] at e ⊢
      exact x.sl j s e
  ap := fun j k s t u v' a h1 h2 m1 m2 e1 e2 f1 f2 => by
    have nj : ∀ {j : Nat} {s : SV}, (env.set i (some (.raw v)))[j]? = some (some s) → s.mu = true → i ≠ j := fun {j s} h m q => by
      subst q
      by_cases hi : i < env.length
      · rw [List.getElem?_set_self hi] at h; cases h; cases m
      · rw [List.getElem?_eq_none (by rw [List.length_set]; omega)] at h; cases h
    have n1 := nj h1 m1
    have n2 := nj h2 m2
    rw [List.getElem?_set_ne n1] at h1 e1
    rw [List.getElem?_set_ne n2] at h2 e2
    exact x.ap j k s t u v' a h1 h2 m1 m2 e1 e2 f1 f2
theorem OkG.rawF (x : OkG X.prog X.w X.K G0 H0 G (env ++ xe) (σ ++ xs) H) (hl : env.length = σ.length) {i : Nat} {v : V} (hi : i < env.length) : OkG X.prog X.w X.K G0 H0 G (env.set i (some (.raw v)) ++ xe) (σ.set i (some v) ++ xs) H := by
  have := x.raw (i := i) (v := v)
  rw [List.set_append_left _ _ hi, List.set_append_left _ _ (by omega)] at this
  exact this
/-- an object of no slot changes, or is stilled -/
theorem OkG.off (x : OkG X.prog X.w X.K G0 H0 G env σ H) {p : Addr} {o : HO} (h0 : H0 p = none) (hg : G p = none) (hn : ∀ (j : Nat) s v a, env[j]? = some (some s) → s.mu = true → σ[j]? = some (some v) → Fp H v a → a ≠ p) : OkG X.prog X.w X.K G0 H0 G env σ (upd H p o) := by
  have fm : ∀ {j : Nat} {s : SV} {v : V} {a : Addr}, env[j]? = some (some s) → s.mu = true → σ[j]? = some (some v) → Fp (upd H p o) v a → Fp H v a := fun {j s v a} h m k f => by
    obtain ⟨v', q1, q2⟩ := x.sl j s h
    rw [k] at q1; cases q1
    exact q2.fpm m (fun q u e hq => by rw [upd_ne (hn j s v q h m k (.inl e))]; exact hq) f
  refine ⟨⟨fun a u z => by rw [upd_ne (ne_of_none z h0)]; exact x.gr.h _ _ z, x.gr.g, fun a u z => by rw [upd_ne (ne_of_none z hg)]; exact x.gr.gh _ _ z, x.gr.old⟩, x.len, fun j s h => ?_, fun i j s t u v a k1 k2 m1 m2 e1 e2 f1 f2 => x.ap i j s t u v a k1 k2 m1 m2 e1 e2 (fm k1 m1 e1 f1) (fm k2 m2 e2 f2)⟩
  obtain ⟨v, q1, q2⟩ := x.sl j s h
  exact ⟨v, q1, q2.grow (Same.refl G) fun m q u f e => ⟨by rw [upd_ne (hn j s v q h m q1 f)]; exact e, rfl⟩⟩
theorem OkG.fzAt (x : OkG X.prog X.w X.K G0 H0 G env σ H) {p : Addr} {o : HO} (h0 : H0 p = none) (hg : G p = none) (hp : H p = some o) (hn : ∀ (j : Nat) s v a, env[j]? = some (some s) → s.mu = true → σ[j]? = some (some v) → Fp H v a → a ≠ p) : OkG X.prog X.w X.K G0 H0 (upd G p o) env σ H := by
  refine ⟨x.gr.freeze h0 hg hp, x.len, fun j s h => ?_, x.ap⟩
  obtain ⟨v, q1, q2⟩ := x.sl j s h
  exact ⟨v, q1, q2.grow (same_new hg) fun m q u f e => ⟨e, upd_ne (hn j s v q h m q1 f)⟩⟩
abbrev tL0 : TE := tLst tNil
abbrev tL3 : TE := tLst (tCons tL0 (tCons tL0 (tCons tL0 tNil)))
abbrev own0 : List (Option SV) := [some (.own []), some (.own []), some (.own [])]
theorem t_L3 (ok : OkG X.prog X.w X.K G0 H0 G (env ++ xe) (σ ++ xs) H) {Q : VK} (k : ∀ p r0 r1 r2 G' H', Same G G' → G' p = some (.lst [.ref r0, .ref r1, .ref r2]) → OkG X.prog X.w X.K G0 H0 G' (env ++ (xe ++ own0)) (σ ++ (xs ++ [some (.ref r0), some (.ref r1), some (.ref r2)])) H' → Q (.ref p) H') : tL3 σ H Q := by
  refine ⟨Nat.zero_le _, fun r0 h0 => ⟨Nat.zero_le _, fun r1 h1 => ⟨Nat.zero_le _, fun r2 h2 => ⟨by show 3 ≤ sizeLine; decide, fun p hp => ?_⟩⟩⟩⟩
  have ok1 := ok.newL h0
  have ok2 := ok1.newL h1
  have ok3 := ok2.newL h2
  have g4 := Grow.still (o := .lst [.ref r0, .ref r1, .ref r2]) ok3.gh hp
  have ok4 := ok3.grow g4
  exact k p r0 r1 r2 _ _ g4.g upd_same (by simpa [List.append_assoc] using ok4)
theorem ho_rows {st : Stmt} {i j : Nat} (h : PS X st (tPar i j (tCons tL3 (tCons tL3 tNil)))) (hi : i < env.length) (hj : j < env.length) (hm : PinM Pin) : PS X st (tHo (FR X.prog X.w X.K G0 H0 Pin xs Gs env xe) (fun σ H => ∃ pr pc r0 r1 r2 c0 c1 c2 : Addr,
    FR X.prog X.w X.K G0 H0 (fun G => Pin G ∧ G pr = some (.lst [.ref r0, .ref r1, .ref r2]) ∧ G pc = some (.lst [.ref c0, .ref c1, .ref c2])) (xs ++ [some (.ref r0), some (.ref r1), some (.ref r2), some (.ref c0), some (.ref c1), some (.ref c2)]) Gs ((env.set i (some (.raw (.ref pr)))).set j (some (.raw (.ref pc)))) (xe ++ (own0 ++ own0)) σ H)) := ps_imp h fun D σ H q => by
  obtain ⟨⟨G, s, pin, l, ok⟩, k⟩ := q
  show tL3 σ H fun x H1 => tL3 σ H1 fun y H2 => ∃ v w, [x, y] = [v, w] ∧ D.nx ((σ.set i (some v)).set j (some w)) H2
  refine t_L3 ok fun pr r0 r1 r2 G1 H1 g1 hp ok1 => ?_
  refine t_L3 ok1 fun pc c0 c1 c2 G2 H2 g2 hq ok2 => ?_
  refine ⟨_, _, rfl, k _ _ ⟨pr, pc, r0, r1, r2, c0, c1, c2, G2, s.trans (g1.trans g2), ⟨hm _ _ (g1.trans g2) pin, g2 _ _ hp, hq⟩, by simp [l], ?_⟩⟩
  have o1 := ok2.rawF l (i := i) (v := .ref pr) hi
  have o2 := o1.rawF (by rw [List.length_set, List.length_set]; exact l) (i := j) (v := .ref pc) (by rw [List.length_set]; exact hj)
  simpa [List.append_assoc] using o2
/-- x = [Watch(e) for n in ..] -/
theorem ho_things {st : Stmt} {i j : Nat} {fi : En → Res (List PyData)} {f : En → Res PyData} {ds ms : List PyData} (h : PS X st (tAsg (tLc (tI X.prog X.w X.K W cm fi) (tG X.prog X.w X.K (.one j)) (tT X.prog X.w X.K W0 cm pYes) (tNew X.prog X.w X.K W0 cm f) [j]) (gName i)))
    (hfi : fi env = .ok ds) (hl : ms.length = ds.length) (hf : ∀ (n : Nat) (d : PyData), ds[n]? = some d → ∃ m, ms[n]? = some m ∧ f ((wipeE env [j]).set j (some (.dat d))) = .ok m) (hm : PinM Pin) (hi : i < env.length) :
    PS X st (tHo (FR X.prog X.w X.K G0 H0 Pin [] Gs env []) (fun σ H => ∃ (p : Addr) (ys : List Addr), ys.length = ms.length ∧ FR X.prog X.w X.K G0 H0 (fun G => Pin G ∧ G p = some (.lst (ys.map V.ref))) (ys.map fun y => some (.ref y)) Gs (env.set i (some (.raw (.ref p)))) (ms.map fun m => some (wat0 m)) σ H)) := ps_imp h fun D σ H q => by
  obtain ⟨⟨G, s, pin, l, ok⟩, k⟩ := q
  rw [List.append_nil, List.append_nil] at ok
  refine ⟨G0, H0, G, env, ok, ?_⟩
  rw [hfi]
  intro J G1 H1 g1 it hsz L hL
  have ok1 := ok.grow g1
  refine ⟨fun i m H2 => m = ds.length - i ∧ i ≤ ds.length ∧ ∃ (G2 : Hp) (ys : List Addr), ys.length = i ∧ OkG X.prog X.w X.K G1 H1 G2 ((ms.take i).map fun m => some (wat0 m)) (ys.map fun y => some (.ref y)) H2 ∧ H2 L = some (.lst (ys.map V.ref)) ∧ G2 L = none ∧
    (∀ (j : Nat) s v a, ((ms.take i).map fun m => some (wat0 m))[j]? = some (some s) → s.mu = true → (ys.map fun y => some (V.ref y))[j]? = some (some v) → Fp H2 v a → a ≠ L), ⟨ds.length, by simp, Nat.zero_le _, G1, [], rfl, ⟨Grow.fresh ok1.gh hL, rfl, by simp, by simp⟩, upd_same, ok1.gh.free hL, by simp⟩, ?_⟩
  rintro i' m H2 ⟨rfl, hi', G2, ys, hys, okw, hL2, gL, nd⟩
  obtain ⟨itg, its⟩ := it i' G2 H2 okw.gr.g okw.gr.h okw.gh
  by_cases hlt : i' < ds.length
  · obtain ⟨go, yl⟩ := itg ds[i'] (List.getElem?_eq_getElem hlt)
    refine .inr ⟨go, fun H3 => ∃ (G3 : Hp) (ys' : List Addr), ys'.length = i' + 1 ∧ OkG X.prog X.w X.K G1 H1 G3 ((ms.take (i' + 1)).map fun m => some (wat0 m)) (ys'.map fun y => some (.ref y)) H3 ∧ H3 L = some (.lst (ys'.map V.ref)) ∧ G3 L = none ∧
      (∀ (j : Nat) s v a, ((ms.take (i' + 1)).map fun m => some (wat0 m))[j]? = some (some s) → s.mu = true → (ys'.map fun y => some (V.ref y))[j]? = some (some v) → Fp H3 v a → a ≠ L), fun H3 ⟨G3, ys', a1, a2, a3, a4, a5⟩ => ⟨ds.length - (i' + 1), by omega, rfl, hlt, G3, ys', a1, a2, a3, a4, a5⟩, fun x H3 hy => ?_⟩
    obtain ⟨G3, g3, dp⟩ := yl x H3 hy
    have okE := (ok1.grow (okw.gr.trans g3)).wipe [j]
    refine ⟨G0, H0, G3, _, ds[i'], _, okE, dp, rfl, fun σ4 ok4 hs4 hl4 => ⟨?_, ?_⟩⟩
    · have q1 : L2.wipe σ4 [j] = L2.wipe (L2.wipe σ [j]) [j] := wipe_eq hl4 fun q hq => hs4 q hq
      rw [q1]
      exact wipe_eq (wipe_length _ _) fun q hq => wipe_get hq
    · refine ⟨G0, H0, G3, _, ok4, fun G5 H5 g5 => ?_⟩
      show (if true = true then tNew X.prog X.w X.K W0 cm f σ4 H5 _ else _)
      rw [if_pos rfl]
      obtain ⟨m, hm1, hm2⟩ := hf i' ds[i'] (List.getElem?_eq_getElem hlt)
      refine ⟨G0, H0, G5, _, ok4.grow g5, ?_⟩
      rw [hm2]
      intro y C dx r G6 H6 g6 ny nd' nr ho
      have gg := (g3.trans g5).trans g6
      have h5 : H5 L = some (.lst (ys.map V.ref)) := g5.h _ _ (g3.h _ _ hL2)
      have h6 : H6 L = some (.lst (ys.map V.ref)) := g6.h _ _ h5
      have gL6 : G6 L = none := by rw [gg.old L (some_ne_none hL2)]; exact gL
      have ok6 := okw.grow gg
      have f1 : ∀ a, H5 a = none → H1 a = none := fun a h => okw.gr.h.free (g3.h.free (g5.h.free h))
      have et : (ms.take (i' + 1)).map (fun m => some (wat0 m)) = ((ms.take i').map fun m => some (wat0 m)) ++ [some (wat0 m)] := by
        rw [List.take_add_one, hm1, List.map_append]
        rfl
      have ok7 := ok6.snoc (p := y) (s := wat0 m) ⟨y, C, dx, r, rfl, ho.at_, (fun _ z => by cases z), ⟨f1 _ ny, ho.gx⟩, ⟨f1 _ nd', ho.gd⟩, ⟨f1 _ nr, ho.gr⟩⟩ fun q t v a h1 m' h2 f1 f2 => by
        have old : H5 a ≠ none := fun z => by
          obtain ⟨v', q1, q2⟩ := okw.sl q t h1
          rw [h2] at q1; cases q1
          obtain ⟨_, _, o, ho'⟩ := q2.fp m' (q2.fpm m' (fun p o _ e => gg.h _ _ e) f2)
          rw [g5.h _ _ (g3.h _ _ ho')] at z
          cases z
        rcases ho.at_.fp f1 with rfl | rfl | rfl
        · exact old ny
        · exact old nd'
        · exact old nr
      have es : (ys.map fun y => some (V.ref y)) ++ [some (.ref y)] = (ys ++ [y]).map fun y => some (V.ref y) := by rw [List.map_append]; rfl
      rw [es] at ok7
      have nd2 : ∀ (j : Nat) s v a, (((ms.take i').map fun m => some (wat0 m)) ++ [some (wat0 m)])[j]? = some (some s) → s.mu = true → ((ys ++ [y]).map fun y => some (V.ref y))[j]? = some (some v) → Fp H6 v a → a ≠ L := fun q t v a h1 m' h2 f2 => by
        rcases app_cases h1 with ⟨hq, h1⟩ | ⟨hq, h1⟩
        · have hq' : q < ys.length := by rw [List.length_map, List.length_take] at hq; omega
          rw [← es, List.getElem?_append_left (by rw [List.length_map]; exact hq')] at h2
          obtain ⟨v', q1, q2⟩ := okw.sl q t h1
          rw [h2] at q1; cases q1
          exact nd q t v a h1 m' h2 (q2.fpm m' (fun p o _ e => gg.h _ _ e) f2)
        · have hl0 : ((ms.take i').map fun m => some (wat0 m)).length = i' := by rw [List.length_map, List.length_take]; omega
          have hlt1 := (List.getElem?_eq_some_iff.mp h1).1
          have hq0 : q = i' := by rw [hl0] at hlt1 hq; simp at hlt1; omega
          subst hq0
          rw [← es, List.getElem?_append_right (by rw [List.length_map, hys]; exact Nat.le_refl _), List.length_map, hys, Nat.sub_self] at h2
          cases h2
          intro z
          subst z
          rcases ho.at_.fp f2 with e | e | e
          · rw [e, ny] at h5; cases h5
          · rw [e, nd'] at h5; cases h5
          · rw [e, nr] at h5; cases h5
      refine ⟨ys.map V.ref, h6, by rw [List.length_map, hys]; exact Nat.lt_of_lt_of_le hlt hsz, G6, ys ++ [y], by rw [List.length_append, hys]; rfl, ?_, by rw [upd_same, List.map_append]; rfl, gL6, ?_⟩
      · rw [et]
        exact ok7.off hL gL6 nd2
      · rw [et]
        intro q t v a h1 m' h2 f2
        obtain ⟨v', q1, q2⟩ := ok7.sl q t h1
        rw [h2] at q1; cases q1
        exact nd2 q t v a h1 m' h2 (q2.fpm m' (fun p o e hp => by rw [upd_ne (nd2 q t v p h1 m' h2 (.inl e))]; exact hp) f2)
  · have e0 : i' = ds.length := by omega
    subst e0
    refine .inl ⟨its (Nat.le_refl _), ?_⟩
    rw [List.take_of_length_le (by omega)] at okw nd
    have nw : NoWaz (ms.map fun m => some (wat0 m)) := fun q m t r e => by
      rw [List.getElem?_map] at e
      cases hq : ms[q]? with
      | none => rw [hq] at e; cases e
      | some z => rw [hq] at e; cases e
    have okj := ok1.join okw nw
    have okz := okj.fzAt (o := .lst (ys.map V.ref)) (g1.h.free hL |> ok.gr.h.free) gL hL2 fun q t v a h1 m' h2 f2 => by
      rcases app_cases h1 with ⟨hq, h1⟩ | ⟨hq, h1⟩
      · rw [List.getElem?_append_left (by rw [← ok1.len]; exact hq)] at h2
        obtain ⟨v', q1, q2⟩ := ok1.sl q t h1
        rw [h2] at q1; cases q1
        obtain ⟨_, _, o, ho'⟩ := q2.fp m' (q2.fpm m' (fun p o _ e => okw.gr.h _ _ e) f2)
        intro z
        rw [z, hL] at ho'
        cases ho'
      · rw [List.getElem?_append_right (by rw [← ok1.len]; exact hq), ← ok1.len] at h2
        exact nd _ t v a h1 m' h2 f2
    refine k _ _ ⟨L, ys, by rw [hys, hl], upd G2 L (.lst (ys.map V.ref)), s.trans (g1.g.trans (okw.gr.g.trans (same_new gL))), ⟨hm _ _ (g1.g.trans (okw.gr.g.trans (same_new gL))) pin, upd_same⟩, by simp [l], ?_⟩
    exact okz.rawF l hi
end
end GL

/-! # Plain laws: texts -/
namespace GL
open PySem PySem.Spec PyProof.Rows L2 TL
@[simp] theorem st_abc : (Str.ofString "abc") = mkS [97, 98, 99] := str_abc
@[simp] theorem st_star : (Str.ofString "*") = sg 42 := ext_tl (by rw [tl_ofString]; rfl)
@[simp] theorem st_any : (Str.ofString "?") = sg 63 := ext_tl (by rw [tl_ofString]; rfl)
@[simp] theorem st_nil : (Str.ofString "") = mkS [] := ext_tl (by rw [tl_ofString]; rfl)
@[simp] theorem st_a : (Str.ofString "a") = sg 97 := ext_tl (by rw [tl_ofString]; rfl)
@[simp] theorem st_b : (Str.ofString "b") = sg 98 := ext_tl (by rw [tl_ofString]; rfl)
@[simp] theorem st_c : (Str.ofString "c") = sg 99 := ext_tl (by rw [tl_ofString]; rfl)
theorem strOk_mk {l : List Nat} (h : ∀ c ∈ l, c < 128) : PyData.strOk (mkS l) = true := by
  unfold PyData.strOk mkS
  rw [List.all_toArray, List.all_eq_true]
  intro c hc
  have := h c hc
  simp
  omega
theorem shaped_str {x : Str} (h : PyData.strOk x = true) : SeqAt.shaped (.str x) = true := by simp [SeqAt.shaped, PyData.canLay0, PyData.depth, h]
theorem eqD_str (x y : Str) (hx : PyData.strOk x = true) (hy : PyData.strOk y = true) : eqD (.str x) (.str y) = .ok (.bool (decide (x = y))) := by
  unfold eqD
  rw [shaped_str hx, shaped_str hy, if_pos (by decide), PyData.eqv, beq_str]
theorem neD_str (x y : Str) (hx : PyData.strOk x = true) (hy : PyData.strOk y = true) : neD (.str x) (.str y) = .ok (.bool (!decide (x = y))) := by
  unfold neD
  rw [shaped_str hx, shaped_str hy, if_pos (by decide), PyData.eqv, beq_str]
theorem eqD_sg {a b : Nat} (ha : a < 128) (hb : b < 128) : eqD (.str (sg a)) (.str (sg b)) = .ok (.bool (decide (a = b))) := by
  rw [eqD_str _ _ (strOk_sg ha) (strOk_sg hb)]
  simp [sg_inj]
theorem neD_sg {a b : Nat} (ha : a < 128) (hb : b < 128) : neD (.str (sg a)) (.str (sg b)) = .ok (.bool (!decide (a = b))) := by
  rw [neD_str _ _ (strOk_sg ha) (strOk_sg hb)]
  simp [sg_inj]
theorem eqD_mk {a b : List Nat} (ha : ∀ c ∈ a, c < 128) (hb : ∀ c ∈ b, c < 128) : eqD (.str (mkS a)) (.str (mkS b)) = .ok (.bool (decide (a = b))) := by
  rw [eqD_str _ _ (strOk_mk ha) (strOk_mk hb)]
  simp [mkS_inj]
theorem neD_mk {a b : List Nat} (ha : ∀ c ∈ a, c < 128) (hb : ∀ c ∈ b, c < 128) : neD (.str (mkS a)) (.str (mkS b)) = .ok (.bool (!decide (a = b))) := by
  rw [neD_str _ _ (strOk_mk ha) (strOk_mk hb)]
  simp [mkS_inj]
theorem items_mk {l : List Nat} (h : l.length ≤ 1000000) : itemsD (.str (mkS l)) = .ok (l.map fun c => .str (sg c)) := by
  rw [itemsD_str, if_pos (by rw [mkS_len]; exact Nat.le_trans h (by decide)), signsD_mk]
theorem lenD_mk {l : List Nat} (h : l.length ≤ 1000000) : lenD [.str (mkS l)] = .ok (.int l.length) := by
  rw [lenD_str, if_pos (by rw [mkS_len]; exact Nat.le_trans h (by decide)), mkS_len]
theorem addD_mk {a b : List Nat} (h : a.length + b.length ≤ 1000000) : addD (.str (mkS a)) (.str (mkS b)) = .ok (.str (mkS (a ++ b))) := by
  rw [addD_str, if_pos (by rw [mkS_len, mkS_len]; exact Nat.le_trans h (by decide)), mkS_app]
theorem addD_mg {a : List Nat} {b : Nat} (h : a.length + 1 ≤ 1000000) : addD (.str (mkS a)) (.str (sg b)) = .ok (.str (mkS (a ++ [b]))) := addD_mk (b := [b]) h
theorem addD_gm {a : Nat} {b : List Nat} (h : 1 + b.length ≤ 1000000) : addD (.str (sg a)) (.str (mkS b)) = .ok (.str (mkS (a :: b))) := addD_mk (a := [a]) h
theorem truD_mk {l : List Nat} (h : l.length ≤ 1000000) : truD (.str (mkS l)) = .ok (!l.isEmpty) := by
  show (if (mkS l).length ≤ sizeLine then Res.ok (((mkS l).length : Int) != 0) else .no) = _
  rw [if_pos (by rw [mkS_len]; exact Nat.le_trans h (by decide)), mkS_len]
  cases l <;> simp
  omega
/-- comprehensions, the slots not named -/
theorem compF_get {α : Type} (enc : α → PyData) {t : Tgt} {p : En → Res Bool} {f : En → Res PyData} {env : En} (q : α → Bool) (y : α → PyData) : ∀ (xs : List α),
    (∀ x ∈ xs, ∃ e, bindT t (enc x) env = .ok e ∧ p e = .ok (q x) ∧ (q x = true → f e = .ok (y x))) → compF t p f env (xs.map enc) = .ok ((xs.filter q).map y)
  | [], _ => rfl
  | x :: xs, h => by
    obtain ⟨e, h1, h2, h3⟩ := h x List.mem_cons_self
    have ih := compF_get enc q y xs fun z hz => h z (List.mem_cons_of_mem _ hz)
    show (bindT t (enc x) env).bind _ = _
    rw [h1, Res.bind_ok, h2, noEx_okk, Res.bind_ok]
    cases hq : q x with
    | true =>
      rw [if_pos rfl, h3 hq, noEx_okk, Res.bind_ok, ih, Res.map_ok, List.filter_cons, if_pos hq]
      rfl
    | false =>
      rw [if_neg Bool.false_ne_true, ih, List.filter_cons, if_neg (by rw [hq]; exact Bool.false_ne_true)]
theorem compF_each {α : Type} (enc : α → PyData) {t : Tgt} {f : En → Res PyData} {env : En} (y : α → PyData) (xs : List α)
    (h : ∀ x ∈ xs, ∃ e, bindT t (enc x) env = .ok e ∧ f e = .ok (y x)) : compF t pYes f env (xs.map enc) = .ok (xs.map y) := by
  rw [compF_get enc (fun _ => true) y xs fun x hx => by
    obtain ⟨e, h1, h2⟩ := h x hx
    exact ⟨e, h1, rfl, fun _ => h2⟩]
  rw [List.filter_eq_self.mpr fun _ _ => rfl]
/-- loops: each turn goes on -/
theorem forL_fold {α S : Type} (enc : α → PyData) {t : Tgt} {g : En → Out} (Inv : S → En → Prop) (step : S → α → S) (xs : List α) (s : S) (env : En)
    (h : ∀ x ∈ xs, ∀ s env, Inv s env → ∃ e1 e2, bindT t (enc x) env = .ok e1 ∧ g e1 = .nx e2 ∧ Inv (step s x) e2) (h0 : Inv s env) : ∃ e', forL t g (xs.map enc) env = .nx e' ∧ Inv (xs.foldl step s) e' := forL_inv enc Inv step xs s env h h0
/-- loops that may end by a return: the first that returns -/
theorem forL_find {α S : Type} (enc : α → PyData) {t : Tgt} {g : En → Out} (Inv : En → Prop) (r : α → Option PyData) : ∀ (xs : List α) (env : En),
    (∀ x ∈ xs, ∀ env, Inv env → ∃ e1, bindT t (enc x) env = .ok e1 ∧ match r x with
      | some d => g e1 = .rt d
      | none => ∃ e2, g e1 = .nx e2 ∧ Inv e2) → Inv env → match xs.findSome? r with
      | some d => forL t g (xs.map enc) env = .rt d
      | none => ∃ e', forL t g (xs.map enc) env = .nx e' ∧ Inv e'
  | [], env, _, hi => ⟨env, rfl, hi⟩
  | x :: xs, env, h, hi => by
    obtain ⟨e1, h1, h2⟩ := h x List.mem_cons_self env hi
    rw [List.findSome?_cons]
    cases hr : r x with
    | some d =>
      rw [hr] at h2
      show (match bindT t (enc x) env with
        | .ok e1 => (match g e1 with
          | .nx e2 => forL t g (xs.map enc) e2
          | o => o)
        | _ => .no) = _
      rw [h1]
      show (match g e1 with
          | .nx e2 => forL t g (xs.map enc) e2
          | o => o) = _
      rw [h2]
    | none =>
      rw [hr] at h2
      obtain ⟨e2, h3, h4⟩ := h2
      have ih := forL_find (S := S) enc Inv r xs e2 (fun z hz => h z (List.mem_cons_of_mem _ hz)) h4
      have e : forL t g ((x :: xs).map enc) env = forL t g (xs.map enc) e2 := by
        show (match bindT t (enc x) env with
          | .ok e1 => (match g e1 with
            | .nx e2 => forL t g (xs.map enc) e2
            | o => o)
          | _ => .no) = _
        rw [h1]
        show (match g e1 with
            | .nx e2 => forL t g (xs.map enc) e2
            | o => o) = _
        rw [h3]
      show match xs.findSome? r with
        | some d => forL t g ((x :: xs).map enc) env = .rt d
        | none => ∃ e', forL t g ((x :: xs).map enc) env = .nx e' ∧ Inv e'
      rw [e]
      exact ih
end GL

/-! # The class Watch: its methods -/
namespace GL
open PySem PySem.Spec PyProof.Rows L2
def g_W_add : En → Out :=
  sSeq (sWset 0 (fAdd (fWt 0) (fVar 1))) <|
  sWapp 0 (fCall F_by_sign (fCons (fWm 0) (fCons (fIxQ (fWr 0) (fC (.int (-1)))) (fCons (fVar 1) fNil))))
def g_R_log : En → Out := sRet (fWt 0)
def g_R_now : En → Out := sRet (fIxQ (fWr 0) (fC (.int (-1))))
def g_R_end : En → Out := sRet (fCall F_has_end (fCons (fWm 0) (fCons (fIxQ (fWr 0) (fC (.int (-1)))) fNil)))
def g_W_back : En → Out :=
  sSeq (sIf (fB (fEq (fWt 0) (fC (.str "")))) (sRaise "NoSign") sNext) <|
  sSeq (sWset 0 (fSl (fWt 0) fON (fOS (fC (.int (-1)))))) <|
  sWpop 0
def R_log : PyData → Str → List PyData → List PyData → Res PyData := runR g_R_log 1
def R_now : PyData → Str → List PyData → List PyData → Res PyData := runR g_R_now 1
def R_end : PyData → Str → List PyData → List PyData → Res PyData := runR g_R_end 1
def W_add : PyData → Str → List PyData → List PyData → WRes := fun m t rows ds => match ds with
  | [.str y] => if t.length + y.length ≤ 1000000 ∧ rows.length ≤ 1000000 then (match rows.getLast? with
    | some last => (match F_by_sign [m, last, .str y] with
      | .ok d => .ok .none m (t ++ y) (rows ++ [d])
      | _ => .no)
    | none => .no) else .no
  | _ => .no
def W_back : PyData → Str → List PyData → List PyData → WRes := fun m t rows ds => if PyData.strOk t = true ∧ t.length ≤ 1000000 then (if t = "" then .ex "NoSign" m t rows else if rows = [] then .no else .ok .none m (cutS t none (some (-1))) rows.dropLast) else .no
theorem atI_neg1' {α : Type} (xs : List α) : atI xs (-1) = xs.getLast? := by
  rcases List.eq_nil_or_concat xs with rfl | ⟨ys, y, rfl⟩
  · rfl
  · rw [List.concat_eq_append, atI_last]
    simp
theorem run_W_add : RunsW g_W_add 2 1 W_add := by
  intro l m t rows ds hl
  match ds, hl with
  | [y], _ =>
    cases y with
    | str y =>
      unfold W_add
      simp only
      split
      · rename_i h
        by_cases hc : t.length + y.length ≤ 1000000 ∧ rows.length ≤ 1000000
        · rw [if_pos hc] at h
          split at h
          · rename_i last hlast
            split at h
            · rename_i d' hd
              cases h
              right
              refine ⟨rfl, [some (.dat (.str y))], ?_⟩
              have h1 : t.length + y.length ≤ sizeLine := Nat.le_trans hc.1 (by decide)
              have h2 : rows.length < sizeLine := Nat.lt_of_le_of_lt hc.2 (by decide)
              have h3 : atI rows (-1) = some last := by rw [atI_neg1', hlast]
              have ha : addD (.str t) (.str y) = .ok (.str (t ++ y)) := if_pos h1
              rw [g_W_add]
              simp (implicitDefEqProofs := false) [initE, ha, h2, h3, hd]
            · cases h
          · cases h
        · rw [if_neg hc] at h; cases h
      · rename_i h
        split at h
        · split at h
          · split at h <;> cases h
          · cases h
        · cases h
      · trivial
    | _ => trivial
theorem run_W_back : RunsW g_W_back 1 0 W_back := by
  intro l m t rows ds hl
  match ds, hl with
  | [], _ =>
    unfold W_back
    by_cases hc : PyData.strOk t = true ∧ t.length ≤ 1000000
    · rw [if_pos hc]
      have he : eqD (.str t) (.str (mkS [])) = .ok (.bool (decide (t = mkS []))) := eqD_str _ _ hc.1 (strOk_mk (l := []) (by simp))
      by_cases ht : t = ""
      · rw [if_pos ht]
        have ht' : t = mkS [] := by rw [← st_nil]; exact ht
        rw [decide_eq_true ht'] at he
        refine ⟨[], ?_⟩
        rw [g_W_back]
        simp (implicitDefEqProofs := false) [initE, he]
      · rw [if_neg ht]
        by_cases hr : rows = []
        · rw [if_pos hr]; trivial
        · rw [if_neg hr]
          right
          refine ⟨rfl, [], ?_⟩
          have ht' : t ≠ mkS [] := fun e => ht (e.trans st_nil.symm)
          rw [decide_eq_false ht'] at he
          have hs : slD (.str t) none (some (-1)) = .ok (.str (cutS t none (some (-1)))) := if_pos (Nat.le_trans hc.2 (by decide))
          rw [g_W_back]
          simp (implicitDefEqProofs := false) [initE, he, hs, hr]
    · rw [if_neg hc]; trivial
/-! ### what they tell -/
theorem R_log_e (m : PyData) (t : Str) (rows : List PyData) : R_log m t rows [] = .ok (.str t) := by
  unfold R_log runR
  rw [g_R_log]
  simp (implicitDefEqProofs := false)
theorem R_now_e (m : PyData) (t : Str) {rows : List PyData} {d : PyData} (h : rows.getLast? = some d) : R_now m t rows [] = .ok d := by
  have h3 : atI rows (-1) = some d := by rw [atI_neg1', h]
  unfold R_now runR
  rw [g_R_now]
  simp (implicitDefEqProofs := false) [h3]
theorem R_end_e (m : PyData) (t : Str) {rows : List PyData} {d r : PyData} (h : rows.getLast? = some d) (hf : F_has_end [m, d] = .ok r) : R_end m t rows [] = .ok r := by
  have h3 : atI rows (-1) = some d := by rw [atI_neg1', h]
  unfold R_end runR
  rw [g_R_end]
  simp (implicitDefEqProofs := false) [h3, hf]
end GL

namespace GL
open PySem PySem.Spec PyProof.Rows L2
def g_L_back : En → Out :=
  sTryX 1 wd3 (sXret (xW 0 W_back fNil))
end GL

/-! # Plain laws: the comparison of the laws -/
namespace GL
open PySem PySem.Spec PyProof.Rows L2 TL
def plainD : Nat → PyData → Bool
  | 0, _ => false
  | n + 1, .tuple ds => decide (ds.length ≤ 1000) && ds.all (plainD n)
  | _ + 1, .int _ => true
  | _ + 1, .none => true
  | _ + 1, .bool _ => true
  | _ + 1, .str x => PyData.strOk x
  | _ + 1, _ => false
theorem zipL_self : ∀ ds : List PyData, zipL ds ds = ds.map fun d => .tuple [d, d]
  | [] => rfl
  | d :: ds => by show PyData.tuple [d, d] :: zipL ds ds = _; rw [zipL_self ds]; rfl
theorem same_F : ∀ (n : Nat) (d : PyData), plainD n d = true → F_L_same n [d, d] = .ok (.bool true)
  | 0, d, h => by simp [plainD] at h
  | n + 1, d, h => by
    refine runD_rt ?_
    rw [g_L_same]
    cases d with
    | tuple ds =>
      have h : (decide (ds.length ≤ 1000) && ds.all (plainD n)) = true := h
      rw [Bool.and_eq_true] at h
      have hl : ds.length ≤ 1000 := of_decide_eq_true h.1
      have ha : ∀ d ∈ ds, plainD n d = true := List.all_eq_true.mp h.2
      have hz : zipD [.tuple ds, .tuple ds] = .ok (ds.map fun d => .tuple [d, d]) := by
        show (if ds.length ≤ sizeLine then Res.ok (zipL ds ds) else .no) = _
        rw [if_pos (Nat.le_trans hl (by decide)), zipL_self]
      simp (implicitDefEqProofs := false) [initE, isTy, hz]
      rw [compF_all (fun d => PyData.tuple [d, d]) (fun d => [some (.dat (.tuple ds)), some (.dat (.tuple ds)), some (.dat d), some (.dat d)]) (fun _ => .bool true) ds (fun d hd => ⟨rfl, by
        simp (implicitDefEqProofs := false) [same_F n d (ha d hd)]⟩)]
      have := allQ_map (fun _ => true) ds
      simp (implicitDefEqProofs := false) [this]
    | int i => simp (implicitDefEqProofs := false) [initE, isTy]
    | none => simp (implicitDefEqProofs := false) [initE, isTy]
    | bool b =>
      have e : eqD (.bool b) (.bool b) = .ok (.bool true) := by cases b <;> rfl
      simp (implicitDefEqProofs := false) [initE, isTy, e]
    | str x =>
      have e : eqD (.str x) (.str x) = .ok (.bool true) := by rw [eqD_str x x h h]; simp
      simp (implicitDefEqProofs := false) [initE, isTy, e]
    | list ds => simp [plainD] at h
    | dict ds => simp [plainD] at h
end GL

/-! # Plain laws: by_sign, has_end, could, behind -/
namespace GL
open PySem PySem.Spec PyProof.Rows L2 TL
def rchGo (M : Mac) : Nat → List Nat → List Nat → List Nat
  | 0, F, _ => F
  | k + 1, F, N => if N = F then F else rchGo M k N (nxt M N)
/-- the states reached from S -/
def rchL (M : Mac) (S : List Nat) : List Nat := rchGo M 6 [] (ups S)
theorem RI.start {M : Mac} {S : List Nat} (hS : ∀ q ∈ S, q < M.n) : RI M S [] (ups S) := ⟨List.Pairwise.nil, up_ups S, fun q hq => hS q (mem_ups.mp hq), by simp, fun q hq => mem_ups.mpr hq, fun q hq => ⟨q, mem_ups.mp hq, .refl⟩, by simp⟩
theorem rchGo_ok {M : Mac} (g : M.Good) {S : List Nat} : ∀ (k : Nat) (F N : List Nat), RI M S F N → 5 - F.length < k → RI M S (rchGo M k F N) (rchGo M k F N)
  | 0, F, N, h, hk => absurd hk (Nat.not_lt_zero _)
  | k + 1, F, N, h, hk => by
    unfold rchGo
    by_cases e : N = F
    · rw [if_pos e]
      subst e
      exact h
    · rw [if_neg e]
      refine rchGo_ok g k N _ (h.next g) ?_
      have h1 := h.grow e
      have h2 := h.uN.len h.lt
      have h4 := g.n4
      omega
theorem rchL_ok {M : Mac} (g : M.Good) {S : List Nat} (hS : ∀ q ∈ S, q < M.n) : RI M S (rchL M S) (rchL M S) := rchGo_ok g 6 _ _ (RI.start hS) (by simp)
theorem mem_rchL {M : Mac} (g : M.Good) {S : List Nat} (hS : ∀ q ∈ S, q < M.n) {q : Nat} : q ∈ rchL M S ↔ ∃ s ∈ S, Rch M s q := (rchL_ok g hS).done
theorem reached_F {M : Mac} (g : M.Good) {S : List Nat} (hS : ∀ q ∈ S, q < M.n) (hl : S.length < 100) : F_reached [M.D, tupN S] = .ok (tupN (rchL M S)) := by
  have h4 := g.n4
  have e2 : sortSetQ (true, S.map intN) = .ok ((ups S).map intN) := setQ_nat true (fun x hx => by have := hS x hx; omega) (by omega)
  obtain ⟨e', h1, ⟨F, N, rfl, hi⟩, h2⟩ := whileN_inv (p := fB (fNe (fVar 3) (fVar 2))) (g := b1_reached) (fun env => ∃ F N, env = [some (.dat M.D), some (.dat (tupN S)), some (.dat (tupN F)), some (.dat (tupN N))] ∧ RI M S F N)
    (fun env => match env with
      | [_, _, some (.dat (.tuple fs)), _] => 5 - fs.length
      | _ => 0) (fun env ⟨F, N, e, hi⟩ => by
      subst e
      refine ⟨!decide (N = F), by simp (implicitDefEqProofs := false) [neD_tupN], fun hb => ?_⟩
      have hne : N ≠ F := by simpa using hb
      refine ⟨_, reached_body g S F N hi, ⟨_, _, rfl, hi.next g⟩, ?_⟩
      have hg := hi.grow hne
      have : N.length ≤ M.n := hi.uN.len hi.lt
      simp only [tupN, List.length_map]
      omega) 100 [some (.dat M.D), some (.dat (tupN S)), some (.dat (tupN [])), some (.dat (tupN (ups S)))] ⟨[], ups S, rfl, RI.start hS⟩ (by simp [tupN])
  have e0 : F = N := by
    simp (implicitDefEqProofs := false) [neD_tupN] at h2
    exact h2.symm
  subst e0
  have eR : rchL M S = F := Up.ext (rchL_ok g hS).uF hi.uF fun z => by rw [mem_rchL g hS, hi.done]
  rw [eR]
  refine runD_rt ?_
  rw [g_reached]
  simp (implicitDefEqProofs := false) [initE, asQ_tupN, e2]
  have e3 : [some (SV.dat M.D), some (SV.dat (tupN S)), some (SV.dat (PyData.tuple [])), some (SV.dat (PyData.tuple ((ups S).map intN)))] = [some (.dat M.D), some (.dat (tupN S)), some (.dat (tupN [])), some (.dat (tupN (ups S)))] := rfl
  simp only [e3, h1]
  simp (implicitDefEqProofs := false)
/-- the states behind one sign -/
def bsL (M : Mac) (S : List Nat) (x : Nat) : List Nat := if x = 42 then rchL M S else if x = 63 then stp M S abc else stp M S [x]
def Sgn (l : List Nat) : Prop := ∀ x ∈ l, x ∈ [97, 98, 99, 63, 42]
theorem sgn_lt {x : Nat} (h : x ∈ [97, 98, 99, 63, 42]) : x < 128 := by simp at h; omega
theorem Sgn.lt {l : List Nat} (h : Sgn l) : ∀ x ∈ l, x < 128 := fun x hx => sgn_lt (h x hx)
theorem bsL_up {M : Mac} (g : M.Good) {S : List Nat} (hS : ∀ q ∈ S, q < M.n) (x : Nat) : Up (bsL M S x) := by
  unfold bsL
  split
  · exact (rchL_ok g hS).uF
  · split <;> exact up_ups _
theorem bsL_lt {M : Mac} (g : M.Good) {S : List Nat} (hS : ∀ q ∈ S, q < M.n) {x : Nat} : ∀ q ∈ bsL M S x, q < M.n := by
  unfold bsL
  split
  · exact (rchL_ok g hS).lt
  · split <;> exact fun q hq => stp_lt g hq
theorem mem_bsL {M : Mac} (g : M.Good) {S : List Nat} (hS : ∀ q ∈ S, q < M.n) {x r : Nat} : r ∈ bsL M S x ↔ ∃ s ∈ S, Aft M s [x] r := by
  unfold bsL
  by_cases h1 : x = 42
  · rw [if_pos h1]
    subst h1
    rw [mem_rchL g hS]
    simp only [aft_star]
  · rw [if_neg h1]
    by_cases h2 : x = 63
    · rw [if_pos h2]
      subst h2
      rw [mem_stp]
      simp only [aft_any]
      constructor
      · rintro ⟨m, hm, h1, _, h3⟩; exact ⟨m.s, h1, m, hm, rfl, h3⟩
      · rintro ⟨s, hs, m, hm, rfl, h3⟩
        refine ⟨m, hm, hs, ?_, h3⟩
        have := (g.mv_ok m hm).2.1
        unfold abc
        simp
        omega
    · rw [if_neg h2, mem_stp]
      simp only [aft_letter h1 h2]
      constructor
      · rintro ⟨m, hm, h1, h2, h3⟩; exact ⟨m.s, h1, m, hm, rfl, by simpa using h2, h3⟩
      · rintro ⟨s, hs, m, hm, rfl, h2, h3⟩; exact ⟨m, hm, hs, by simpa using h2, h3⟩
theorem by_sign_F {M : Mac} (g : M.Good) {S : List Nat} (hS : ∀ q ∈ S, q < M.n) (hl : S.length < 100) {x : Nat} (hx : x < 128) : F_by_sign [M.D, tupN S, .str (sg x)] = .ok (tupN (bsL M S x)) := by
  refine runD_rt ?_
  rw [g_by_sign]
  have e3 := letters_F g S abc
  have e4 := letters_F g S [x]
  rw [show mkS [x] = sg x from rfl] at e4
  rw [show mkS abc = mkS [97, 98, 99] from rfl] at e3
  unfold bsL
  by_cases h1 : x = 42
  · subst h1
    simp (implicitDefEqProofs := false) [initE, eqD_sg, reached_F g hS hl]
  · by_cases h2 : x = 63
    · subst h2
      simp (implicitDefEqProofs := false) [initE, eqD_sg, e3]
    · simp (implicitDefEqProofs := false) [initE, eqD_sg, hx, h1, h2, e4]
/-- the states behind a log -/
def bsA (M : Mac) (S l : List Nat) : List Nat := l.foldl (bsL M) S
theorem bsA_ok {M : Mac} (g : M.Good) : ∀ {l S : List Nat}, (∀ q ∈ S, q < M.n) → Up S → (∀ q ∈ bsA M S l, q < M.n) ∧ Up (bsA M S l)
  | [], S, h, u => ⟨h, u⟩
  | x :: l, S, h, u => bsA_ok g (l := l) (bsL_lt g h) (bsL_up g h x)
theorem mem_bsA {M : Mac} (g : M.Good) : ∀ {l S : List Nat}, (∀ q ∈ S, q < M.n) → ∀ {r : Nat}, r ∈ bsA M S l ↔ ∃ s ∈ S, Aft M s l r
  | [], S, h, r => by
    show r ∈ S ↔ _
    simp only [aft_nil]
    constructor
    · intro hr; exact ⟨r, hr, rfl⟩
    · rintro ⟨s, hs, rfl⟩; exact hs
  | x :: l, S, h, r => by
    show r ∈ bsA M (bsL M S x) l ↔ _
    rw [mem_bsA g (bsL_lt g h)]
    constructor
    · rintro ⟨p, hp, ha⟩
      obtain ⟨s, hs, h1⟩ := (mem_bsL g h).mp hp
      exact ⟨s, hs, aft_cons.mpr ⟨p, h1, ha⟩⟩
    · rintro ⟨s, hs, ha⟩
      obtain ⟨p, h1, h2⟩ := aft_cons.mp ha
      exact ⟨p, (mem_bsL g h).mpr ⟨s, hs, h1⟩, h2⟩
def endB (M : Mac) (S : List Nat) : Bool := S.any fun q => decide (q ∈ M.ends)
def couldB (M : Mac) (l : List Nat) : Bool := endB M (bsA M [0] l)
theorem has_end_F {M : Mac} {S : List Nat} : F_has_end [M.D, tupN S] = .ok (.bool (endB M S)) := by
  refine runD_rt ?_
  rw [g_has_end]
  simp (implicitDefEqProofs := false) [initE, tupN]
  rw [compF_each intN (fun q => .bool (decide (q ∈ M.ends))) S (fun q _ => ⟨_, rfl, by
    have h := inD_tupN q M.ends
    unfold tupN at h
    simp (implicitDefEqProofs := false) [Mac.D, at1]
    exact h⟩)]
  simp (implicitDefEqProofs := false) [anyQ_map]
  rfl
theorem zero_lt {M : Mac} (g : M.Good) : ∀ q ∈ [0], q < M.n := fun q hq => by
  have := g.n1
  simp at hq
  omega
theorem up_one (q : Nat) : Up [q] := by simp [Up]
theorem up_len {M : Mac} (g : M.Good) {S : List Nat} (hS : ∀ q ∈ S, q < M.n) (u : Up S) : S.length ≤ 4 := by
  have := u.len hS
  have := g.n4
  omega
theorem could_F {M : Mac} (g : M.Good) {l : List Nat} (hl : ∀ x ∈ l, x < 128) (hn : l.length ≤ 1000000) : F_could [M.D, .str (mkS l)] = .ok (.bool (couldB M l)) := by
  refine runD_rt ?_
  rw [g_could]
  obtain ⟨e', h1, S, e3, h2, h3, rfl⟩ := forL_fold (fun c => PyData.str (sg c)) (t := .one 3) (g := b1_could) (fun (S : List Nat) env => ∃ e3, (∀ q ∈ S, q < M.n) ∧ Up S ∧ env = [some (.dat M.D), some (.dat (.str (mkS l))), some (.dat (tupN S)), e3]) (bsL M) l [0] [some (.dat M.D), some (.dat (.str (mkS l))), some (.dat (tupN [0])), none] (fun x hx S env ⟨e3, h2, h3, e⟩ => by
    subst e
    refine ⟨_, _, rfl, ?_, some (.dat (.str (sg x))), bsL_lt g h2, bsL_up g h2 x, rfl⟩
    rw [b1_could]
    have := up_len g h2 h3
    simp (implicitDefEqProofs := false) [by_sign_F g h2 (by omega) (hl x hx)]) ⟨none, zero_lt g, up_one 0, rfl⟩
  simp (implicitDefEqProofs := false) [initE, items_mk hn]
  have e0 : [some (SV.dat M.D), some (SV.dat (PyData.str (mkS l))), some (SV.dat (PyData.tuple [PyData.int 0])), none] = [some (.dat M.D), some (.dat (.str (mkS l))), some (.dat (tupN [0])), none] := rfl
  simp only [e0, h1]
  simp (implicitDefEqProofs := false) [has_end_F]
  rfl
theorem couldB_iff {M : Mac} (g : M.Good) {l : List Nat} : couldB M l = true ↔ Could M l := by
  unfold couldB endB Could
  rw [List.any_eq_true]
  constructor
  · rintro ⟨r, hr, he⟩
    obtain ⟨s, hs, ha⟩ := (mem_bsA g (zero_lt g)).mp hr
    simp at hs
    subst hs
    exact ⟨r, ha, of_decide_eq_true he⟩
  · rintro ⟨r, ha, he⟩
    exact ⟨r, (mem_bsA g (zero_lt g)).mpr ⟨0, by simp, ha⟩, decide_eq_true he⟩
end GL

/-! # Plain laws: the search by breadth, for any automaton -/
namespace GL
/-- words: shorter first, then by the letters -/
def wLt (u v : List Nat) : Prop := u.length < v.length ∨ u.length = v.length ∧ u < v
def wLe (u v : List Nat) : Prop := wLt u v ∨ u = v
theorem lex_snoc {c d : Nat} : ∀ {u v : List Nat}, u.length = v.length → u < v → u ++ [c] < v ++ [d]
  | [], [], _, h => by simp at h
  | [], _ :: _, h, _ => by simp at h
  | _ :: _, [], h, _ => by simp at h
  | a :: u, b :: v, hl, h => by
    rw [List.cons_append, List.cons_append, List.cons_lt_cons_iff] at *
    rcases h with h | ⟨h1, h2⟩
    · exact .inl h
    · exact .inr ⟨h1, lex_snoc (by simpa using hl) h2⟩
theorem lex_app {z : List Nat} : ∀ {u v : List Nat}, u.length = v.length → u < v → u ++ z < v ++ z
  | [], [], _, h => by simp at h
  | [], _ :: _, h, _ => by simp at h
  | _ :: _, [], h, _ => by simp at h
  | a :: u, b :: v, hl, h => by
    rw [List.cons_append, List.cons_append, List.cons_lt_cons_iff] at *
    rcases h with h | ⟨h1, h2⟩
    · exact .inl h
    · exact .inr ⟨h1, lex_app (by simpa using hl) h2⟩
theorem lex_last {c d : Nat} (h : c < d) : ∀ {u : List Nat}, u ++ [c] < u ++ [d]
  | [] => by
    rw [List.nil_append, List.nil_append, List.cons_lt_cons_iff]
    exact .inl h
  | a :: u => by
    rw [List.cons_append, List.cons_append, List.cons_lt_cons_iff]
    exact .inr ⟨rfl, lex_last h⟩
theorem wLt_irrefl (u : List Nat) : ¬ wLt u u := by
  unfold wLt
  rintro (h | ⟨_, h⟩)
  · omega
  · exact List.lt_irrefl u h
theorem wLt_trans {a b c : List Nat} (h : wLt a b) (k : wLt b c) : wLt a c := by
  unfold wLt at *
  rcases h with h | ⟨h1, h2⟩ <;> rcases k with k | ⟨k1, k2⟩
  · exact .inl (by omega)
  · exact .inl (by omega)
  · exact .inl (by omega)
  · exact .inr ⟨by omega, List.lt_trans h2 k2⟩
theorem wLe_refl (a : List Nat) : wLe a a := .inr rfl
theorem wLe_trans {a b c : List Nat} (h : wLe a b) (k : wLe b c) : wLe a c := by
  rcases h with h | rfl
  · rcases k with k | rfl
    · exact .inl (wLt_trans h k)
    · exact .inl h
  · exact k
theorem wLe_antisymm {a b : List Nat} (h : wLe a b) (k : wLe b a) : a = b := by
  rcases h with h | rfl
  · rcases k with k | rfl
    · exact absurd (wLt_trans h k) (wLt_irrefl a)
    · rfl
  · rfl
theorem wLe_app {u v : List Nat} (z : List Nat) (h : wLe u v) : wLe (u ++ z) (v ++ z) := by
  rcases h with h | rfl
  · left
    unfold wLt at *
    rcases h with h | ⟨h1, h2⟩
    · exact .inl (by simp; omega)
    · exact .inr ⟨by simp; omega, lex_app h1 h2⟩
  · exact wLe_refl _
theorem wLe_more (u z : List Nat) : wLe u (u ++ z) := by
  cases z with
  | nil => rw [List.append_nil]; exact wLe_refl u
  | cons c z => exact .inl (.inl (by simp))
theorem wLt_snoc {u v : List Nat} (h : wLt u v) (c d : Nat) : wLt (u ++ [c]) (v ++ [d]) := by
  unfold wLt at *
  rcases h with h | ⟨h1, h2⟩
  · exact .inl (by simp; omega)
  · exact .inr ⟨by simp; omega, lex_snoc h1 h2⟩
section
variable {T : Type} (δ : T → Nat → T) (good : T → Bool) (t0 : T)
def runT (t : T) (w : List Nat) : T := w.foldl δ t
/-- r is the least good word, or there is none -/
def Least (G : List Nat → Prop) : Option (List Nat) → Prop
  | some w => G w ∧ ∀ v, G v → wLe w v
  | none => ∀ v, ¬ G v
theorem least_unique {G : List Nat → Prop} {a b : Option (List Nat)} (ha : Least G a) (hb : Least G b) : a = b := by
  cases a with
  | none =>
    cases b with
    | none => rfl
    | some w => exact absurd hb.1 (ha w)
  | some v =>
    cases b with
    | none => exact absurd ha.1 (hb v)
    | some w => rw [wLe_antisymm (ha.2 w hb.1) (hb.2 v ha.1)]
theorem least_iff {G G' : List Nat → Prop} (h : ∀ w, G w ↔ G' w) {a : Option (List Nat)} (ha : Least G a) : Least G' a := by
  cases a with
  | none => exact fun v hv => ha v ((h v).mpr hv)
  | some w => exact ⟨(h w).mp ha.1, fun v hv => ha.2 v ((h v).mpr hv)⟩
def Good (w : List Nat) : Prop := (∀ c ∈ w, c ∈ abc) ∧ good (runT δ t0 w) = true
/-- how far the search has come: ex was looked at, qu waits -/
structure Bfs (ex qu : List (List Nat × T)) (seen : List T) : Prop where
  at_ : ∀ i ∈ ex ++ qu, i.2 = runT δ t0 i.1 ∧ ∀ c ∈ i.1, c ∈ abc
  beg : ([], t0) ∈ ex ++ qu
  up : (ex ++ qu).Pairwise fun i j => wLe i.1 j.1
  par : ∀ i ∈ qu, i.1 = [] ∧ ex = [] ∨ ∃ j ∈ ex, ∃ c ∈ abc, i.1 = j.1 ++ [c]
  bad : ∀ i ∈ ex, good i.2 = false
  kid : ∀ i ∈ ex, ∀ c ∈ abc, ∃ j ∈ ex ++ qu, j.2 = δ i.2 c ∧ wLe j.1 (i.1 ++ [c])
  sn : ∀ t ∈ seen, ∃ i ∈ ex ++ qu, i.2 = t
  strict : ∀ i ∈ ex, ∀ j ∈ qu, wLt i.1 j.1
  strictQ : qu.Pairwise fun i j => wLt i.1 j.1
variable {δ good t0}
theorem runT_app (t : T) (u v : List Nat) : runT δ t (u ++ v) = runT δ (runT δ t u) v := List.foldl_append
/-- what is still to be found hangs below something that waits -/
theorem Bfs.hang {ex qu : List (List Nat × T)} {seen : List T} (B : Bfs δ good t0 ex qu seen) : ∀ (z : List Nat) (i : List Nat × T), i ∈ ex ++ qu → (∀ c ∈ z, c ∈ abc) → good (runT δ i.2 z) = true → ∃ j ∈ qu, ∃ y, wLe (j.1 ++ y) (i.1 ++ z)
  | z, i, hi, hz, hg => by
    rcases List.mem_append.mp hi with he | hq
    · cases z with
      | nil =>
        have := B.bad i he
        have hg : good i.2 = true := hg
        rw [this] at hg
        cases hg
      | cons c z =>
        obtain ⟨j, hj, e, hle⟩ := B.kid i he c (hz c List.mem_cons_self)
        have hg : good (runT δ (δ i.2 c) z) = true := hg
        rw [← e] at hg
        obtain ⟨k, hk, y, h⟩ := Bfs.hang B z j hj (fun d hd => hz d (List.mem_cons_of_mem _ hd)) hg
        refine ⟨k, hk, y, wLe_trans h ?_⟩
        have := wLe_app z hle
        rw [List.append_assoc] at this
        exact this
    · exact ⟨i, hq, z, wLe_refl _⟩
theorem Bfs.done {ex : List (List Nat × T)} {seen : List T} (B : Bfs δ good t0 ex [] seen) : Least (Good δ good t0) none := fun v ⟨hv, hg⟩ => by
  obtain ⟨j, hj, _⟩ := B.hang v ([], t0) B.beg hv hg
  cases hj
theorem Bfs.found {ex qu : List (List Nat × T)} {seen : List T} {i : List Nat × T} (B : Bfs δ good t0 ex (i :: qu) seen) (hg : good i.2 = true) : Least (Good δ good t0) (some i.1) := by
  obtain ⟨e, ha⟩ := B.at_ i (List.mem_append_right _ List.mem_cons_self)
  refine ⟨⟨ha, by rw [← e]; exact hg⟩, fun v ⟨hv, hgv⟩ => ?_⟩
  obtain ⟨j, hj, y, h⟩ := B.hang v ([], t0) B.beg hv hgv
  have h1 : wLe i.1 j.1 := by
    rcases List.mem_cons.mp hj with rfl | hj
    · exact wLe_refl _
    · have := List.pairwise_cons.mp (List.pairwise_append.mp B.up).2.1
      exact this.1 j hj
  exact wLe_trans h1 (wLe_trans (wLe_more j.1 y) h)
theorem bfs_start (seen : List T) (h : ∀ t ∈ seen, t = t0) : Bfs δ good t0 [] [([], t0)] seen where
  at_ := fun i hi => by
    simp at hi
    subst hi
    exact ⟨rfl, by simp⟩
  beg := by simp
  up := by simp
  par := fun i hi => by
    simp at hi
    subst hi
    exact .inl ⟨rfl, rfl⟩
  bad := by simp
  kid := by simp
  sn := fun t ht => ⟨([], t0), by simp, (h t ht).symm⟩
  strict := by simp
  strictQ := by simp
/-- .. with the letters cs of the head done -/
structure Bfs1 (δ : T → Nat → T) (good : T → Bool) (t0 : T) (ex : List (List Nat × T)) (i : List Nat × T) (qu : List (List Nat × T)) (seen : List T) (cs : List Nat) : Prop where
  at_ : ∀ j ∈ ex ++ i :: qu, j.2 = runT δ t0 j.1 ∧ ∀ c ∈ j.1, c ∈ abc
  beg : ([], t0) ∈ ex ++ i :: qu
  up : (ex ++ i :: qu).Pairwise fun i j => wLe i.1 j.1
  par : ∀ j ∈ qu, ∃ k ∈ ex ++ [i], ∃ c ∈ abc, j.1 = k.1 ++ [c]
  bad : ∀ j ∈ ex ++ [i], good j.2 = false
  kid : ∀ j ∈ ex, ∀ c ∈ abc, ∃ k ∈ ex ++ i :: qu, k.2 = δ j.2 c ∧ wLe k.1 (j.1 ++ [c])
  kidi : ∀ c ∈ cs, ∃ k ∈ ex ++ i :: qu, k.2 = δ i.2 c ∧ wLe k.1 (i.1 ++ [c])
  sn : ∀ t ∈ seen, ∃ j ∈ ex ++ i :: qu, j.2 = t
  strict : ∀ j ∈ ex ++ [i], ∀ k ∈ qu, wLt j.1 k.1
  strictQ : qu.Pairwise fun i j => wLt i.1 j.1
  low : ∀ j ∈ ex ++ i :: qu, ∀ c ∈ abc, c ∉ cs → wLt j.1 (i.1 ++ [c])
theorem Bfs.open_ {ex qu : List (List Nat × T)} {seen : List T} {i : List Nat × T} (B : Bfs δ good t0 ex (i :: qu) seen) (hg : good i.2 = false) : Bfs1 δ good t0 ex i qu seen [] where
  at_ := B.at_
  beg := B.beg
  up := B.up
  par := fun j hj => by
    rcases B.par j (List.mem_cons_of_mem _ hj) with ⟨h1, _⟩ | ⟨k, hk, c, hc, e⟩
    · have := (List.pairwise_cons.mp B.strictQ).1 j hj
      rw [h1] at this
      rcases this with h | ⟨_, h⟩
      · simp at h
      · simp at h
    · exact ⟨k, List.mem_append_left _ hk, c, hc, e⟩
  bad := fun j hj => by
    rcases List.mem_append.mp hj with h | h
    · exact B.bad j h
    · simp at h; subst h; exact hg
  kid := B.kid
  kidi := by simp
  sn := B.sn
  strict := fun j hj k hk => by
    rcases List.mem_append.mp hj with h | h
    · exact B.strict j h k (List.mem_cons_of_mem _ hk)
    · simp at h; subst h; exact (List.pairwise_cons.mp B.strictQ).1 k hk
  strictQ := (List.pairwise_cons.mp B.strictQ).2
  low := fun j hj c hc _ => by
    have hi : wLt i.1 (i.1 ++ [c]) := .inl (by simp)
    rcases List.mem_append.mp hj with h | h
    · exact wLt_trans (B.strict j h i List.mem_cons_self) hi
    · rcases List.mem_cons.mp h with rfl | h
      · exact hi
      · rcases B.par j (List.mem_cons_of_mem _ h) with ⟨h1, _⟩ | ⟨k, hk, d, hd, e⟩
        · rw [h1]; exact .inl (by simp)
        · rw [e]
          exact wLt_snoc (B.strict k hk i List.mem_cons_self) d c
theorem Bfs1.skip {ex qu : List (List Nat × T)} {seen : List T} {i : List Nat × T} {cs : List Nat} (B : Bfs1 δ good t0 ex i qu seen cs) {c : Nat} (hc : c ∈ abc) (hn : c ∉ cs) (h : δ i.2 c ∈ seen) : Bfs1 δ good t0 ex i qu seen (cs ++ [c]) where
  at_ := B.at_
  beg := B.beg
  up := B.up
  par := B.par
  bad := B.bad
  kid := B.kid
  kidi := fun d hd => by
    rcases List.mem_append.mp hd with hd | hd
    · exact B.kidi d hd
    · simp at hd
      subst hd
      obtain ⟨j, hj, e⟩ := B.sn _ h
      exact ⟨j, hj, e, .inl (B.low j hj d hc hn)⟩
  sn := B.sn
  strict := B.strict
  strictQ := B.strictQ
  low := fun j hj d hd hdn => B.low j hj d hd fun z => hdn (List.mem_append_left _ z)
theorem Bfs1.more {ex qu : List (List Nat × T)} {seen : List T} {i : List Nat × T} {cs : List Nat} (B : Bfs1 δ good t0 ex i qu seen cs) {c : Nat} (hc : c ∈ abc) (hn : c ∉ cs) (ho : ∀ d ∈ abc, d ∉ cs ++ [c] → c < d) :
    Bfs1 δ good t0 ex i (qu ++ [(i.1 ++ [c], δ i.2 c)]) (seen ++ [δ i.2 c]) (cs ++ [c]) := by
  have ea : ex ++ i :: (qu ++ [(i.1 ++ [c], δ i.2 c)]) = (ex ++ i :: qu) ++ [(i.1 ++ [c], δ i.2 c)] := by simp
  have hii : i ∈ ex ++ i :: qu := by simp
  refine ⟨?_, ?_, ?_, ?_, B.bad, ?_, ?_, ?_, ?_, ?_, ?_⟩
  · rw [ea]
    intro j hj
    rcases List.mem_append.mp hj with hj | hj
    · exact B.at_ j hj
    · simp at hj
      subst hj
      obtain ⟨e1, e2⟩ := B.at_ i hii
      refine ⟨by rw [runT_app, ← e1]; rfl, fun d hd => ?_⟩
      rcases List.mem_append.mp hd with hd | hd
      · exact e2 d hd
      · simp at hd; subst hd; exact hc
  · rw [ea]; exact List.mem_append_left _ B.beg
  · rw [ea]
    refine List.pairwise_append.mpr ⟨B.up, by simp, fun j hj k hk => ?_⟩
    simp at hk
    subst hk
    exact .inl (B.low j hj c hc hn)
  · intro j hj
    rcases List.mem_append.mp hj with hj | hj
    · exact B.par j hj
    · simp at hj
      subst hj
      exact ⟨i, by simp, c, hc, rfl⟩
  · rw [ea]
    intro j hj d hd
    obtain ⟨k, hk, h⟩ := B.kid j hj d hd
    exact ⟨k, List.mem_append_left _ hk, h⟩
  · rw [ea]
    intro d hd
    rcases List.mem_append.mp hd with hd | hd
    · obtain ⟨k, hk, h⟩ := B.kidi d hd
      exact ⟨k, List.mem_append_left _ hk, h⟩
    · simp at hd
      subst hd
      exact ⟨(i.1 ++ [d], δ i.2 d), by simp, rfl, wLe_refl _⟩
  · rw [ea]
    intro t ht
    rcases List.mem_append.mp ht with ht | ht
    · obtain ⟨j, hj, e⟩ := B.sn t ht
      exact ⟨j, List.mem_append_left _ hj, e⟩
    · simp at ht
      subst ht
      exact ⟨(i.1 ++ [c], δ i.2 c), by simp, rfl⟩
  · intro j hj k hk
    rcases List.mem_append.mp hk with hk | hk
    · exact B.strict j hj k hk
    · simp at hk
      subst hk
      refine B.low j ?_ c hc hn
      rcases List.mem_append.mp hj with hj | hj
      · exact List.mem_append_left _ hj
      · simp at hj; subst hj; exact hii
  · refine List.pairwise_append.mpr ⟨B.strictQ, by simp, fun j hj k hk => ?_⟩
    simp at hk
    subst hk
    exact B.low j (List.mem_append_right _ (List.mem_cons_of_mem _ hj)) c hc hn
  · rw [ea]
    intro j hj d hd hdn
    rcases List.mem_append.mp hj with hj | hj
    · exact B.low j hj d hd fun z => hdn (List.mem_append_left _ z)
    · simp at hj
      subst hj
      exact .inr ⟨by simp, lex_last (ho d hd hdn)⟩
theorem Bfs1.close {ex qu : List (List Nat × T)} {seen : List T} {i : List Nat × T} (B : Bfs1 δ good t0 ex i qu seen abc) : Bfs δ good t0 (ex ++ [i]) qu seen := by
  have ea : (ex ++ [i]) ++ qu = ex ++ i :: qu := by simp
  refine ⟨by rw [ea]; exact B.at_, by rw [ea]; exact B.beg, by rw [ea]; exact B.up, fun j hj => .inr (B.par j hj), B.bad, ?_, by rw [ea]; exact B.sn, B.strict, B.strictQ⟩
  rw [ea]
  intro j hj c hc
  rcases List.mem_append.mp hj with hj | hj
  · exact B.kid j hj c hc
  · simp at hj
    subst hj
    exact B.kidi c hc
/-- all letters of the head -/
def kidF [DecidableEq T] (δ : T → Nat → T) (i : List Nat × T) (s : List (List Nat × T) × List T) (c : Nat) : List (List Nat × T) × List T := if δ i.2 c ∈ s.2 then s else (s.1 ++ [(i.1 ++ [c], δ i.2 c)], s.2 ++ [δ i.2 c])
theorem Bfs1.step [DecidableEq T] {ex qu : List (List Nat × T)} {seen : List T} {i : List Nat × T} {cs : List Nat} (B : Bfs1 δ good t0 ex i qu seen cs) {c : Nat} (hc : c ∈ abc) (hn : c ∉ cs) (ho : ∀ d ∈ abc, d ∉ cs ++ [c] → c < d) :
    Bfs1 δ good t0 ex i (kidF δ i (qu, seen) c).1 (kidF δ i (qu, seen) c).2 (cs ++ [c]) := by
  unfold kidF
  by_cases h : δ i.2 c ∈ seen
  · rw [if_pos h]; exact B.skip hc hn h
  · rw [if_neg h]; exact B.more hc hn ho
theorem Bfs.next [DecidableEq T] {ex qu : List (List Nat × T)} {seen : List T} {i : List Nat × T} (B : Bfs δ good t0 ex (i :: qu) seen) (hg : good i.2 = false) :
    Bfs δ good t0 (ex ++ [i]) (abc.foldl (kidF δ i) (qu, seen)).1 (abc.foldl (kidF δ i) (qu, seen)).2 := by
  have b0 := B.open_ hg
  have b1 := b0.step (c := 97) (by decide) (by decide) (by decide)
  have b2 := b1.step (c := 98) (by decide) (by decide) (by decide)
  have b3 := b2.step (c := 99) (by decide) (by decide) (by decide)
  exact b3.close
/-- the sizes: what is seen is new each time -/
theorem kidF_nodup [DecidableEq T] {i : List Nat × T} {s : List (List Nat × T) × List T} {c : Nat} (h : s.2.Nodup) : (kidF δ i s c).2.Nodup := by
  unfold kidF
  split
  · exact h
  · rename_i hm
    refine List.nodup_append.mpr ⟨h, by simp, fun a ha b hb => ?_⟩
    simp at hb
    subst hb
    intro e
    subst e
    exact hm ha
theorem kidF_len [DecidableEq T] {i : List Nat × T} {s : List (List Nat × T) × List T} {c : Nat} : (kidF δ i s c).1.length + s.2.length = s.1.length + (kidF δ i s c).2.length ∧ s.2.length ≤ (kidF δ i s c).2.length := by
  unfold kidF
  split
  · exact ⟨rfl, Nat.le_refl _⟩
  · simp
    omega
end
end GL

/-! # Plain laws: places of a log behind a word -/
namespace GL
/-- from p by stars alone to q -/
def SR (l : List Nat) (p q : Nat) : Prop := p ≤ q ∧ ∀ i, p ≤ i → i < q → l[i]? = some 42
theorem SR.refl (l : List Nat) (p : Nat) : SR l p p := ⟨Nat.le_refl _, fun i h1 h2 => by omega⟩
theorem SR.snoc {l : List Nat} {p q : Nat} (h : SR l p q) (e : l[q]? = some 42) : SR l p (q + 1) := ⟨by have := h.1; omega, fun i h1 h2 => by
  rcases Nat.lt_or_ge i q with k | k
  · exact h.2 i h1 k
  · have : i = q := by omega
    rw [this]; exact e⟩
/-- the place p is come to behind w -/
def Pl (l w : List Nat) (p : Nat) : Prop := p ≤ l.length ∧ (l[p]? ≠ some 42 ∧ Fits (l.take p) w ∨ l[p]? = some 42 ∧ Fits (l.take (p + 1)) w)
def Tr (l : List Nat) (c p p' : Nat) : Prop := l[p]? = some 42 ∧ p' = p ∨ l[p]? ≠ some 42 ∧ (l[p]? = some 63 ∨ l[p]? = some c) ∧ p' = p + 1
theorem take_snoc {l : List Nat} {p x : Nat} (h : l[p]? = some x) : l.take (p + 1) = l.take p ++ [x] := by
  rw [List.take_add_one, h]; rfl
theorem fits_snoc {l w : List Nat} {x : Nat} : Fits (l ++ [x]) w ↔ ∃ u v, w = u ++ v ∧ Fits l u ∧ Fit1 x v := by
  rw [fits_app]
  simp only [fits_one]
theorem fits_star {l w : List Nat} (h : Fits l w) (v : List Nat) : Fits (l ++ [42]) (w ++ v) := fits_snoc.mpr ⟨w, v, rfl, h, .inl rfl⟩
theorem fits_star' {l w : List Nat} (h : Fits (l ++ [42]) w) (v : List Nat) : Fits (l ++ [42]) (w ++ v) := by
  obtain ⟨a, b, rfl, h1, _⟩ := fits_snoc.mp h
  rw [List.append_assoc]
  exact fits_star h1 _
theorem Pl.of {l w : List Nat} {p : Nat} (hp : p ≤ l.length) (h : Fits (l.take p) w) : Pl l w p := by
  refine ⟨hp, ?_⟩
  rcases Classical.em (l[p]? = some 42) with e | e
  · right
    refine ⟨e, ?_⟩
    rw [take_snoc e]
    have := fits_star h []
    rwa [List.append_nil] at this
  · exact .inl ⟨e, h⟩
theorem Pl.star {l w : List Nat} {p : Nat} (h : Pl l w p) (e : l[p]? = some 42) : Pl l w (p + 1) := by
  have hp : p < l.length := (List.getElem?_eq_some_iff.mp e).1
  rcases h.2 with ⟨h1, _⟩ | ⟨_, h2⟩
  · exact absurd e h1
  · exact Pl.of hp h2
theorem Pl.sr {l w : List Nat} {p q : Nat} (h : Pl l w p) (s : SR l p q) : Pl l w q := by
  obtain ⟨h1, h2⟩ := s
  obtain ⟨k, rfl⟩ := Nat.exists_eq_add_of_le h1
  induction k with
  | zero => exact h
  | succ k ih => exact (ih (by omega) fun i a b => h2 i a (by omega)).star (h2 (p + k) (by omega) (by omega))
theorem fits_nil {l : List Nat} : Fits l [] ↔ ∀ x ∈ l, x = 42 := by
  induction l with
  | nil => simp [Fits]
  | cons x l ih =>
    rw [fits_cons]
    constructor
    · rintro ⟨u, v, e, f, h⟩
      have e := List.append_eq_nil_iff.mp e.symm
      rw [e.2] at h
      rw [e.1] at f
      rcases f with f | ⟨c, e, _⟩
      · intro y hy
        rcases List.mem_cons.mp hy with rfl | hy
        · exact f
        · exact ih.mp h y hy
      · cases e
    · intro h
      exact ⟨[], [], rfl, .inl (h x List.mem_cons_self), ih.mpr fun y hy => h y (List.mem_cons_of_mem _ hy)⟩
theorem pl_nil {l : List Nat} {q : Nat} (hq : q ≤ l.length) : Pl l [] q ↔ SR l 0 q := by
  have key : ∀ k, k ≤ l.length → (Fits (l.take k) [] ↔ ∀ i, i < k → l[i]? = some 42) := fun k hk => by
    rw [fits_nil]
    constructor
    · intro h i hi
      have hi' : i < l.length := by omega
      rw [List.getElem?_eq_getElem hi']
      refine congrArg some (h _ ?_)
      exact List.mem_take_iff_getElem.mpr ⟨i, by omega, rfl⟩
    · intro h x hx
      obtain ⟨i, hi, rfl⟩ := List.mem_take_iff_getElem.mp hx
      have := h i (by omega)
      rw [List.getElem?_eq_getElem (by omega)] at this
      exact Option.some.inj this
  constructor
  · rintro ⟨_, ⟨_, h⟩ | ⟨e, h⟩⟩
    · exact ⟨Nat.zero_le _, fun i _ hi => (key q hq).mp h i hi⟩
    · have hp : q < l.length := (List.getElem?_eq_some_iff.mp e).1
      exact ⟨Nat.zero_le _, fun i _ hi => (key (q + 1) hp).mp h i (by omega)⟩
  · intro h
    exact Pl.of hq ((key q hq).mpr fun i hi => h.2 i (Nat.zero_le _) hi)
theorem pl_back {l w : List Nat} {c : Nat} : ∀ k, k ≤ l.length → Fits (l.take k) (w ++ [c]) → ∃ p p', Pl l w p ∧ Tr l c p p' ∧ SR l p' k
  | 0, _, h => by
    have : w ++ [c] = [] := h
    simp at this
  | k + 1, hk, h => by
    have hk' : k < l.length := hk
    have e : l[k]? = some l[k] := List.getElem?_eq_getElem hk'
    rw [take_snoc e] at h
    obtain ⟨u, v, ew, f, g⟩ := fits_snoc.mp h
    by_cases hx : l[k] = 42
    · rw [hx] at e
      rcases List.eq_nil_or_concat v with rfl | ⟨v', d, rfl⟩
      · rw [List.append_nil] at ew
        rw [← ew] at f
        obtain ⟨p, p', h1, h2, h3⟩ := pl_back k (by omega) f
        exact ⟨p, p', h1, h2, h3.snoc e⟩
      · rw [List.concat_eq_append, ← List.append_assoc] at ew
        obtain ⟨e1, e2⟩ := List.append_inj' ew rfl
        refine ⟨k, k, ⟨by omega, .inr ⟨e, ?_⟩⟩, .inl ⟨e, rfl⟩, (SR.refl l k).snoc e⟩
        rw [take_snoc e, e1]
        exact fits_star f v'
    · rcases g with g | ⟨d, rfl, g⟩
      · exact absurd g hx
      · obtain ⟨e1, e2⟩ := List.append_inj' ew rfl
        have e2 : c = d := by simpa using e2
        subst e1 e2
        have ne : l[k]? ≠ some 42 := fun z => by rw [e] at z; exact hx (Option.some.inj z)
        refine ⟨k, k + 1, ⟨by omega, .inl ⟨ne, f⟩⟩, .inr ⟨ne, ?_, rfl⟩, SR.refl l _⟩
        rw [e]
        rcases g with g | g
        · exact .inl (by rw [g])
        · exact .inr (by rw [g])
theorem pl_snoc {l w : List Nat} {c q : Nat} : Pl l (w ++ [c]) q ↔ ∃ p p', Pl l w p ∧ Tr l c p p' ∧ SR l p' q := by
  constructor
  · rintro ⟨hq, ⟨ne, h⟩ | ⟨e, h⟩⟩
    · exact pl_back q hq h
    · rw [take_snoc e] at h
      obtain ⟨u, v, ew, f, _⟩ := fits_snoc.mp h
      rcases List.eq_nil_or_concat v with rfl | ⟨v', d, rfl⟩
      · rw [List.append_nil] at ew
        rw [← ew] at f
        exact pl_back q hq f
      · rw [List.concat_eq_append, ← List.append_assoc] at ew
        obtain ⟨e1, e2⟩ := List.append_inj' ew rfl
        refine ⟨q, q, ⟨hq, .inr ⟨e, ?_⟩⟩, .inl ⟨e, rfl⟩, SR.refl l q⟩
        rw [take_snoc e, e1]
        exact fits_star f v'
  · rintro ⟨p, p', h1, h2, h3⟩
    refine Pl.sr ?_ h3
    obtain ⟨hp, h1⟩ := h1
    rcases h2 with ⟨e, rfl⟩ | ⟨ne, k, rfl⟩
    · rcases h1 with ⟨h1, _⟩ | ⟨_, h1⟩
      · exact absurd e h1
      · refine ⟨hp, .inr ⟨e, ?_⟩⟩
        rw [take_snoc e] at h1 ⊢
        exact fits_star' h1 [c]
    · rcases h1 with ⟨_, h1⟩ | ⟨e, _⟩
      · obtain ⟨x, ex⟩ : ∃ x, l[p]? = some x := by rcases k with k | k <;> exact ⟨_, k⟩
        have hp' : p < l.length := (List.getElem?_eq_some_iff.mp ex).1
        refine Pl.of hp' ?_
        rw [take_snoc ex]
        refine fits_snoc.mpr ⟨w, [c], rfl, h1, .inr ⟨c, rfl, ?_⟩⟩
        rw [ex] at k
        rcases k with k | k
        · exact .inl (Option.some.inj k)
        · exact .inr (Option.some.inj k)
      · exact absurd e ne
theorem pl_end {l w : List Nat} : Pl l w l.length ↔ Fits l w := by
  unfold Pl
  rw [List.getElem?_eq_none (Nat.le_refl _), List.take_length]
  constructor
  · rintro ⟨_, ⟨_, h⟩ | ⟨h, _⟩⟩
    · exact h
    · cases h
  · intro h; exact ⟨Nat.le_refl _, .inl ⟨by simp, h⟩⟩
end GL

namespace GL
open PySem PySem.Spec PyProof.Rows L2
def b1_L_open : En → Out :=
  sSeq (sAsg (.one 3) (fAdd (fVar 3) (fC (.int 1)))) <|
  sDput 2 (fTup (fCons (fVar 3) (fCons (fVar 4) (fNil)))) (fC (.bool true))
def b2_L_open : En → Out :=
  sSeq (sDput 2 (fTup (fCons (fVar 3) (fCons (fVar 4) (fNil)))) (fC (.bool true))) <|
  whileN (fAndT (fB (fLt (fVar 3) (fCall lenD (fCons (fVar 0) fNil)))) (fB (fEq (fIx (fVar 0) (fVar 3)) (fC (.str "*"))))) b1_L_open 100
def g_L_open : En → Out :=
  sSeq (sDnew 2) <|
  sSeq (sFor (.many [3, 4]) (fItems (fVar 1)) b2_L_open) <|
  sRet (fCQ tupleQ (fQL (fSortK 2)))
def F_L_open : List PyData → Res PyData := runD g_L_open 5
def b1_L_next : En → Out :=
  sIf (fAndT (fB (fLt (fVar 5) (fCall lenD (fCons (fVar 1) fNil)))) (fB (fIn (fIx (fVar 1) (fVar 5)) (fTup (fCons (fC (.str "?")) (fCons (fC (.str "*")) (fCons (fVar 3) (fNil)))))))) (sSeq (sAsg (.one 7) (fAdd (fVar 5) (fCall intD (fCons (fNe (fIx (fVar 1) (fVar 5)) (fC (.str "*"))) fNil)))) <|
  sExt 4 (fComp [8] (.one 8) (fItems (fIx (fVar 0) (fC (.int 2)))) (fAndT (fB (fEq (fIx (fVar 8) (fC (.int 0))) (fVar 6))) (fB (fEq (fIx (fVar 8) (fC (.int 1))) (fVar 3)))) (fTup (fCons (fVar 7) (fCons (fIx (fVar 8) (fC (.int 2))) (fNil)))))) (sNext)
def g_L_next : En → Out :=
  sSeq (sOwn 4 (fDsp (fNil))) <|
  sSeq (sFor (.many [5, 6]) (fItems (fVar 2)) b1_L_next) <|
  sFrz 4 <|
  sRet (fCall F_L_open (fCons (fVar 1) (fCons (fVar 4) (fNil))))
def F_L_next : List PyData → Res PyData := runD g_L_next 9
def g_L_is_good : En → Out :=
  sRet (fNe (fLst (fComp [3] (.one 3) (fItems (fVar 2)) (fAndT (fB (fEq (fIx (fVar 3) (fC (.int 0))) (fCall lenD (fCons (fVar 1) fNil)))) (fB (fIn (fIx (fVar 3) (fC (.int 1))) (fIx (fVar 0) (fC (.int 1)))))) (fVar 3))) (fLst (fDsp (fNil))))
def F_L_is_good : List PyData → Res PyData := runD g_L_is_good 4
def b1_L_least : En → Out :=
  sSeq (sAsg (.one 8) (fCall F_L_next (fCons (fVar 0) (fCons (fVar 1) (fCons (fVar 6) (fCons (fVar 7) (fNil))))))) <|
  sIf (fB (fNinK 2 (fVar 8))) (sSeq (sDput 2 (fVar 8) (fC (.bool true))) <|
  sApp 4 (fTup (fCons (fAdd (fVar 5) (fVar 7)) (fCons (fVar 8) (fNil))))) (sNext)
def b2_L_least : En → Out :=
  sSeq (sIf (fTru (fCall F_L_is_good (fCons (fVar 0) (fCons (fVar 1) (fCons (fVar 6) (fNil)))))) (sRet (fVar 5)) (sNext)) <|
  sFor (.one 7) (fItems (fC (.str "abc"))) b1_L_least
def b3_L_least : En → Out :=
  sSeq (sOwn 4 (fDsp (fNil))) <|
  sFrz 3 <|
  sSeq (sFor (.many [5, 6]) (fItems (fVar 3)) b2_L_least) <|
  sMove 3 4
def g_L_least : En → Out :=
  sSeq (sDnew 2) <|
  sSeq (sOwn 3 (fDsp (fCons (fTup (fCons (fC (.str "")) (fCons (fCall F_L_open (fCons (fVar 1) (fCons (fLst (fDsp (fCons (fTup (fCons (fC (.int 0)) (fCons (fC (.int 0)) (fNil)))) (fNil)))) (fNil)))) (fNil)))) (fNil)))) <|
  sSeq (whileN (fTruQ (fQV 3)) b3_L_least 20000) <|
  sRet (fC .none)
def F_L_least : List PyData → Res PyData := runD g_L_least 9
end GL

/-! # Plain laws: sets of pairs of a place and a state -/
namespace GL
open PySem PySem.Spec PyProof.Rows L2 TL
def ltQ (a b : Nat × Nat) : Bool := decide (a.1 < b.1 ∨ (a.1 = b.1 ∧ a.2 < b.2))
theorem linQ : Lin ltQ where
  irr := fun x => by simp [ltQ]
  tr := fun h k => by simp [ltQ] at *; omega
  tri := fun h k => by
    rename_i a b
    simp [ltQ] at *
    rcases a with ⟨a1, a2⟩
    rcases b with ⟨b1, b2⟩
    simp at *
    omega
def upP (xs : List (Nat × Nat)) : List (Nat × Nat) := sortB ltQ xs
theorem mem_upP {x : Nat × Nat} {xs : List (Nat × Nat)} : x ∈ upP xs ↔ x ∈ xs := mem_sortB linQ x xs
def UpP (xs : List (Nat × Nat)) : Prop := xs.Pairwise (fun a b => ltQ a b = true)
theorem up_upP (xs : List (Nat × Nat)) : UpP (upP xs) := up_sortB linQ xs
theorem UpP.ext {xs ys : List (Nat × Nat)} (h1 : UpP xs) (h2 : UpP ys) (h : ∀ z, z ∈ xs ↔ z ∈ ys) : xs = ys := up_eq linQ h1 h2 h
def stF (l : List Nat) : Nat → Nat → List Nat
  | 0, p => [p]
  | k + 1, p => if l[p]? = some 42 then p :: stF l k (p + 1) else [p]
theorem mem_stF {l : List Nat} {q : Nat} : ∀ (k p : Nat), l.length ≤ p + k → (q ∈ stF l k p ↔ SR l p q)
  | 0, p, h => by
    show q ∈ [p] ↔ _
    rw [List.mem_singleton]
    constructor
    · rintro rfl; exact SR.refl l q
    · intro s
      rcases Nat.lt_or_ge p q with k | k
      · have := s.2 p (Nat.le_refl _) k
        rw [List.getElem?_eq_none (by omega)] at this
        cases this
      · have := s.1; omega
  | k + 1, p, h => by
    unfold stF
    by_cases e : l[p]? = some 42
    · rw [if_pos e, List.mem_cons, mem_stF k (p + 1) (by omega)]
      constructor
      · rintro (rfl | s)
        · exact SR.refl l q
        · refine ⟨by have := s.1; omega, fun i h1 h2 => ?_⟩
          rcases Nat.lt_or_ge p i with k | k
          · exact s.2 i k h2
          · have : i = p := by omega
            rw [this]; exact e
      · intro s
        rcases Nat.lt_or_ge p q with k | k
        · exact .inr ⟨k, fun i h1 h2 => s.2 i (by omega) h2⟩
        · exact .inl (by have := s.1; omega)
    · rw [if_neg e, List.mem_singleton]
      constructor
      · rintro rfl; exact SR.refl l q
      · intro s
        rcases Nat.lt_or_ge p q with k | k
        · exact absurd (s.2 p (Nat.le_refl _) k) e
        · have := s.1; omega
theorem stF_head (l : List Nat) (k p : Nat) : ∃ r, stF l k p = p :: r := by
  cases k with
  | zero => exact ⟨[], rfl⟩
  | succ k =>
    unfold stF
    split
    · exact ⟨_, rfl⟩
    · exact ⟨[], rfl⟩
def openP (l : List Nat) (ps : List (Nat × Nat)) : List (Nat × Nat) := upP (ps.flatMap fun x => (stF l l.length x.1).map fun p => (p, x.2))
theorem mem_openP {l : List Nat} {ps : List (Nat × Nat)} {q t : Nat} : (q, t) ∈ openP l ps ↔ ∃ p, (p, t) ∈ ps ∧ SR l p q := by
  unfold openP
  rw [mem_upP, List.mem_flatMap]
  constructor
  · rintro ⟨⟨p, s⟩, hx, h⟩
    obtain ⟨q', hq, e⟩ := List.mem_map.mp h
    cases e
    exact ⟨p, hx, (mem_stF l.length p (by omega)).mp hq⟩
  · rintro ⟨p, hp, s⟩
    exact ⟨(p, t), hp, List.mem_map.mpr ⟨q, (mem_stF l.length p (by omega)).mpr s, rfl⟩⟩
def stepP (M : Mac) (l : List Nat) (c : Nat) (x : Nat × Nat) : List (Nat × Nat) := match l[x.1]? with
  | some y => if y = 63 ∨ y = 42 ∨ y = c then (M.mv.filter fun m => decide (m.s = x.2) && decide (m.c = c)).map fun m => (x.1 + (if y = 42 then 0 else 1), m.t) else []
  | none => []
def nextP (M : Mac) (l : List Nat) (ps : List (Nat × Nat)) (c : Nat) : List (Nat × Nat) := openP l (ps.flatMap (stepP M l c))
theorem mem_stepP {M : Mac} {l : List Nat} {c : Nat} {x : Nat × Nat} {p t : Nat} : (p, t) ∈ stepP M l c x ↔ (l[x.1]? = some 63 ∨ l[x.1]? = some 42 ∨ l[x.1]? = some c) ∧ (p = x.1 + if l[x.1]? = some 42 then 0 else 1) ∧ ∃ m ∈ M.mv, m.s = x.2 ∧ m.c = c ∧ m.t = t := by
  unfold stepP
  split
  · rename_i y hy
    rw [hy]
    simp only [Option.some.injEq]
    by_cases h : y = 63 ∨ y = 42 ∨ y = c
    · rw [if_pos h]
      simp only [List.mem_map, List.mem_filter, Bool.and_eq_true, decide_eq_true_eq, Prod.mk.injEq]
      constructor
      · rintro ⟨m, ⟨hm, h1, h2⟩, h3, h4⟩; exact ⟨h, h3.symm, m, hm, h1, h2, h4⟩
      · rintro ⟨_, h3, m, hm, h1, h2, h4⟩; exact ⟨m, ⟨hm, h1, h2⟩, h3.symm, h4⟩
    · rw [if_neg h]
      simp [h]
  · rename_i hy
    rw [hy]
    simp
theorem mem_nextP {M : Mac} {l : List Nat} {ps : List (Nat × Nat)} {c q t : Nat} (hc : c ≠ 42) : (q, t) ∈ nextP M l ps c ↔ ∃ p s p', (p, s) ∈ ps ∧ Tr l c p p' ∧ SR l p' q ∧ ∃ m ∈ M.mv, m.s = s ∧ m.c = c ∧ m.t = t := by
  unfold nextP
  rw [mem_openP]
  constructor
  · rintro ⟨p', h, s⟩
    obtain ⟨⟨p, s0⟩, hx, h⟩ := List.mem_flatMap.mp h
    obtain ⟨h1, h2, h3⟩ := mem_stepP.mp h
    refine ⟨p, s0, p', hx, ?_, s, h3⟩
    by_cases e : l[p]? = some 42
    · left
      simp [e] at h2
      exact ⟨e, h2⟩
    · right
      simp [e] at h2 h1
      exact ⟨e, h1, h2⟩
  · rintro ⟨p, s0, p', hx, tr, s, h3⟩
    refine ⟨p', List.mem_flatMap.mpr ⟨(p, s0), hx, mem_stepP.mpr ⟨?_, ?_, h3⟩⟩, s⟩
    · rcases tr with ⟨e, _⟩ | ⟨_, e, _⟩
      · exact .inr (.inl e)
      · rcases e with e | e
        · exact .inl e
        · exact .inr (.inr e)
    · rcases tr with ⟨e, k⟩ | ⟨e, _, k⟩
      · simp only [e, if_true]; exact k
      · simp only [e, if_false]; exact k
/-- the pairs behind a word -/
def prs (M : Mac) (l w : List Nat) : List (Nat × Nat) := runT (nextP M l) (openP l [(0, 0)]) w
theorem prs_up (M : Mac) (l w : List Nat) : UpP (prs M l w) := by
  unfold prs
  rcases List.eq_nil_or_concat w with rfl | ⟨w, c, rfl⟩
  · exact up_upP _
  · rw [List.concat_eq_append, runT_app]
    exact up_upP _
theorem way_snoc {M : Mac} {w : List Nat} {q c t : Nat} : Way M q (w ++ [c]) t ↔ ∃ s, Way M q w s ∧ ∃ m ∈ M.mv, m.s = s ∧ m.c = c ∧ m.t = t := by
  rw [Way.app_iff]
  simp only [way_one]
theorem mem_prs {M : Mac} {l : List Nat} : ∀ (n : Nat) (w : List Nat), w.length = n → (∀ c ∈ w, c ∈ abc) → ∀ {q t : Nat}, (q, t) ∈ prs M l w ↔ Pl l w q ∧ Way M 0 w t
  | 0, w, hn, _, q, t => by
    have : w = [] := by simpa using hn
    subst this
    show (q, t) ∈ openP l [(0, 0)] ↔ _
    rw [mem_openP, Way.nil_iff]
    simp only [List.mem_singleton, Prod.mk.injEq]
    constructor
    · rintro ⟨p, ⟨rfl, rfl⟩, s⟩
      refine ⟨(pl_nil ?_).mpr s, rfl⟩
      rcases Nat.lt_or_ge l.length q with k | k
      · have := s.2 l.length (Nat.zero_le _) k
        rw [List.getElem?_eq_none (Nat.le_refl _)] at this
        cases this
      · exact k
    · rintro ⟨h, rfl⟩
      exact ⟨0, ⟨rfl, rfl⟩, (pl_nil h.1).mp h⟩
  | n + 1, w, hn, hw, q, t => by
    rcases List.eq_nil_or_concat w with rfl | ⟨w, c, rfl⟩
    · simp at hn
    · rw [List.concat_eq_append] at hn hw ⊢
      have hc : c ∈ abc := hw c (by simp)
      have hc' : c ≠ 42 := by
        unfold abc at hc
        simp at hc
        omega
      have ih : ∀ {q t : Nat}, (q, t) ∈ prs M l w ↔ Pl l w q ∧ Way M 0 w t := fun {q t} => mem_prs n w (by simpa using hn) fun d hd => hw d (by simp [hd])
      show (q, t) ∈ runT (nextP M l) (openP l [(0, 0)]) (w ++ [c]) ↔ _
      rw [runT_app]
      show (q, t) ∈ nextP M l (prs M l w) c ↔ _
      rw [mem_nextP hc', pl_snoc, way_snoc]
      constructor
      · rintro ⟨p, s, p', h1, h2, h3, h4⟩
        obtain ⟨h5, h6⟩ := ih.mp h1
        exact ⟨⟨p, p', h5, h2, h3⟩, s, h6, h4⟩
      · rintro ⟨⟨p, p', h5, h2, h3⟩, s, h6, h4⟩
        exact ⟨p, s, p', ih.mpr ⟨h5, h6⟩, h2, h3, h4⟩
def goodP (M : Mac) (l : List Nat) (ps : List (Nat × Nat)) : Bool := ps.any fun x => decide (x.1 = l.length) && decide (x.2 ∈ M.ends)
/-- a word that could stand behind the log -/
def Wd (M : Mac) (l w : List Nat) : Prop := Fits l w ∧ ∃ t, Way M 0 w t ∧ t ∈ M.ends
theorem goodP_iff {M : Mac} {l w : List Nat} (hw : ∀ c ∈ w, c ∈ abc) : goodP M l (prs M l w) = true ↔ Wd M l w := by
  unfold goodP Wd
  rw [List.any_eq_true]
  constructor
  · rintro ⟨⟨p, t⟩, hx, h⟩
    simp at h
    obtain ⟨h1, h2⟩ := (mem_prs _ w rfl hw).mp hx
    rw [h.1, pl_end] at h1
    exact ⟨h1, t, h2, h.2⟩
  · rintro ⟨h1, t, h2, h3⟩
    exact ⟨(l.length, t), (mem_prs _ w rfl hw).mpr ⟨pl_end.mpr h1, h2⟩, by simp [h3]⟩
theorem wd_good {M : Mac} (g : M.Good) {l : List Nat} (w : List Nat) : Good (nextP M l) (goodP M l) (openP l [(0, 0)]) w ↔ Wd M l w := by
  constructor
  · rintro ⟨h1, h2⟩
    exact (goodP_iff h1).mp h2
  · intro h
    have hw : ∀ c ∈ w, c ∈ abc := by
      obtain ⟨_, t, h2, _⟩ := h
      exact h2.abc g
    exact ⟨hw, (goodP_iff hw).mpr h⟩
theorem could_wd {M : Mac} {l : List Nat} : Could M l ↔ ∃ w, Wd M l w := by
  unfold Could Aft Wd
  constructor
  · rintro ⟨r, ⟨w, f, h⟩, e⟩; exact ⟨w, f, r, h, e⟩
  · rintro ⟨w, f, r, h, e⟩; exact ⟨r, ⟨w, f, h⟩, e⟩
/-! ### how many there are -/
def subs {α : Type} : List α → List (List α)
  | [] => [[]]
  | x :: xs => subs xs ++ (subs xs).map (x :: ·)
theorem subs_len {α : Type} : ∀ xs : List α, (subs xs).length = 2 ^ xs.length
  | [] => rfl
  | x :: xs => by
    show (subs xs ++ (subs xs).map (x :: ·)).length = _
    rw [List.length_append, List.length_map, subs_len xs, List.length_cons, Nat.pow_succ]
    omega
theorem filter_subs {α : Type} (p : α → Bool) : ∀ xs : List α, xs.filter p ∈ subs xs
  | [] => by simp [subs]
  | x :: xs => by
    have ih := filter_subs p xs
    show _ ∈ subs xs ++ (subs xs).map (x :: ·)
    rw [List.filter_cons, List.mem_append]
    split
    · exact .inr (List.mem_map.mpr ⟨_, ih, rfl⟩)
    · exact .inl ih
def prodP (P Q : List Nat) : List (Nat × Nat) := upP (P.flatMap fun p => Q.map fun q => (p, q))
def allP (a n : Nat) : List (List (Nat × Nat)) := (subs (List.range (a + 1))).flatMap fun P => (subs (List.range n)).map fun Q => prodP P Q
theorem len_flat {α β : Type} {f : α → List β} {k : Nat} : ∀ xs : List α, (∀ x ∈ xs, (f x).length = k) → (xs.flatMap f).length = xs.length * k
  | [], _ => by simp
  | x :: xs, h => by
    rw [List.flatMap_cons, List.length_append, h x List.mem_cons_self, len_flat xs fun y hy => h y (List.mem_cons_of_mem _ hy), List.length_cons, Nat.succ_mul]
    omega
theorem allP_len (a n : Nat) : (allP a n).length = 2 ^ (a + 1) * 2 ^ n := by
  unfold allP
  rw [len_flat (k := 2 ^ n) _ fun P _ => by rw [List.length_map, subs_len, List.length_range], subs_len, List.length_range]
theorem prs_all {M : Mac} (g : M.Good) {l w : List Nat} (hw : ∀ c ∈ w, c ∈ abc) : prs M l w ∈ allP l.length M.n := by
  classical
  refine List.mem_flatMap.mpr ⟨(List.range (l.length + 1)).filter fun p => decide (Pl l w p), filter_subs _ _, List.mem_map.mpr ⟨(List.range M.n).filter fun t => decide (Way M 0 w t), filter_subs _ _, ?_⟩⟩
  refine UpP.ext (up_upP _) (prs_up M l w) fun ⟨q, t⟩ => ?_
  unfold prodP
  rw [mem_upP, mem_prs _ w rfl hw]
  simp only [List.mem_flatMap, List.mem_map, List.mem_filter, List.mem_range, decide_eq_true_eq, Prod.mk.injEq]
  constructor
  · rintro ⟨p, ⟨_, h1⟩, s, ⟨_, h2⟩, rfl, rfl⟩
    exact ⟨h1, h2⟩
  · rintro ⟨h1, h2⟩
    exact ⟨q, ⟨by have := h1.1; omega, h1⟩, t, ⟨h2.lt g (by have := g.n1; omega), h2⟩, rfl, rfl⟩
end GL

/-! # Plain laws: keys, sorted keys, the plain walk's sets of pairs -/
namespace GL
open PySem PySem.Spec PyProof.Rows L2 TL
abbrev pairQ (x : Nat × Nat) : PyData := .tuple [intN x.1, intN x.2]
def tupP (ps : List (Nat × Nat)) : PyData := .tuple (ps.map pairQ)
def keyN (x : Nat × Nat) : NestedKey := .tup [.num x.1, .num x.2]
def keyT (ps : List (Nat × Nat)) : NestedKey := .tup (ps.map keyN)
theorem keyN_inj {a b : Nat × Nat} (h : keyN a = keyN b) : a = b := by
  unfold keyN at h
  injection h with h
  injection h with h1 h2
  injection h2 with h2 _
  injection h1 with h1
  injection h2 with h2
  rcases a with ⟨a1, a2⟩
  rcases b with ⟨b1, b2⟩
  simp only at h1 h2
  have e1 : a1 = b1 := by omega
  have e2 : a2 = b2 := by omega
  rw [e1, e2]
theorem map_inj' {α β : Type} {f : α → β} (hf : ∀ a b, f a = f b → a = b) : ∀ {xs ys : List α}, xs.map f = ys.map f → xs = ys
  | [], [], _ => rfl
  | [], _ :: _, h => by simp at h
  | _ :: _, [], h => by simp at h
  | x :: xs, y :: ys, h => by
    simp at h
    rw [hf _ _ h.1, map_inj' hf h.2]
theorem keyT_inj {a b : List (Nat × Nat)} (h : keyT a = keyT b) : a = b := by
  unfold keyT at h
  injection h with h
  exact map_inj' (fun _ _ => keyN_inj) h
theorem keyD_int (i : Int) : keyD (.int i) = some (.num i) := by simp [keyD]
theorem keyD_pair (x : Nat × Nat) : keyD (pairQ x) = some (keyN x) := by simp [keyD, keysD, keyN]
theorem keysD_pairs : ∀ ps : List (Nat × Nat), keysD (ps.map pairQ) = some (ps.map keyN)
  | [] => rfl
  | x :: ps => by
    rw [List.map_cons, keysD, keyD_pair, keysD_pairs ps]
    rfl
theorem depth_keyN (x : Nat × Nat) : (keyN x).depth = 1 := by simp [keyN, NestedKey.depth, NestedKey.depthAll]
theorem depth_keys : ∀ ps : List (Nat × Nat), NestedKey.depthAll (ps.map keyN) ≤ 1
  | [] => by simp [NestedKey.depthAll]
  | x :: ps => by
    rw [List.map_cons, NestedKey.depthAll, depth_keyN]
    have := depth_keys ps
    omega
theorem keyQ_pair (x : Nat × Nat) : keyQ (pairQ x) = .ok (keyN x) := by
  unfold keyQ
  show (match keyD (pairQ x) with
    | some k => if k.depth ≤ 8 then Res.ok k else .no
    | none => .no) = _
  rw [keyD_pair]
  show (if (keyN x).depth ≤ 8 then Res.ok (keyN x) else .no) = _
  rw [depth_keyN, if_pos (by decide)]
theorem keyQ_tupP (ps : List (Nat × Nat)) : keyQ (tupP ps) = .ok (keyT ps) := by
  unfold keyQ tupP
  show (match keyD (.tuple (ps.map pairQ)) with
    | some k => if k.depth ≤ 8 then Res.ok k else .no
    | none => .no) = _
  rw [keyD, keysD_pairs]
  show (if (keyT ps).depth ≤ 8 then Res.ok (keyT ps) else .no) = _
  have h := depth_keys ps
  have e : (keyT ps).depth = NestedKey.depthAll (ps.map keyN) + 1 := by unfold keyT; rw [NestedKey.depth]
  rw [if_pos (by omega)]
theorem data_keyN (x : Nat × Nat) : (keyN x).data = pairQ x := keyD_data _ _ (keyD_pair x)
/-! ### dicts that say True -/
def truK {α : Type} (key : α → NestedKey) (xs : List α) : List (NestedKey × PyData) := xs.map fun x => (key x, .bool true)
theorem truK_get {α : Type} [DecidableEq α] {key : α → NestedKey} (hk : ∀ a b, key a = key b → a = b) (xs : List α) (x : α) : (getK (truK key xs) (key x)).isSome = decide (x ∈ xs) := by
  rw [getK_isSome, Bool.eq_iff_iff, decide_eq_true_eq, decide_eq_true_eq]
  unfold truK
  rw [List.map_map, List.mem_map]
  constructor
  · rintro ⟨y, hy, e⟩
    rw [← hk _ _ e]
    exact hy
  · intro h
    exact ⟨x, h, rfl⟩
def insK {α : Type} [DecidableEq α] (xs : List α) (x : α) : List α := if x ∈ xs then xs else xs ++ [x]
theorem truK_put {α : Type} [DecidableEq α] {key : α → NestedKey} (hk : ∀ a b, key a = key b → a = b) (xs : List α) (x : α) : putD (truK key xs) (key x) (.bool true) = truK key (insK xs x) := by
  unfold putD insK
  rw [truK_get hk]
  by_cases h : x ∈ xs
  · rw [if_pos (decide_eq_true h), if_pos h]
    unfold truK
    rw [List.map_map]
    refine List.map_congr_left fun y _ => ?_
    show (if key y = key x then (key y, PyData.bool true) else (key y, PyData.bool true)) = _
    split <;> rfl
  · rw [if_neg (by rw [decide_eq_false h]; exact Bool.false_ne_true), if_neg h]
    simp [truK]
theorem mem_insK {α : Type} [DecidableEq α] {xs : List α} {x y : α} : y ∈ insK xs x ↔ y ∈ xs ∨ y = x := by
  unfold insK
  split
  · constructor
    · exact .inl
    · rintro (h | rfl) <;> assumption
  · simp
theorem mem_insAll {α : Type} [DecidableEq α] {y : α} : ∀ {ys xs : List α}, y ∈ ys.foldl insK xs ↔ y ∈ xs ∨ y ∈ ys
  | [], xs => by simp
  | x :: ys, xs => by
    rw [List.foldl_cons, mem_insAll, mem_insK, List.mem_cons, or_assoc]
theorem nd_insK {α : Type} [DecidableEq α] {xs : List α} {x : α} (h : xs.Nodup) : (insK xs x).Nodup := by
  unfold insK
  split
  · exact h
  · rename_i hm
    refine List.nodup_append.mpr ⟨h, by simp, fun a ha b hb => ?_⟩
    simp at hb
    subst hb
    intro e
    subst e
    exact hm ha
theorem nd_insAll {α : Type} [DecidableEq α] : ∀ {ys xs : List α}, xs.Nodup → (ys.foldl insK xs).Nodup
  | [], xs, h => h
  | x :: ys, xs, h => nd_insAll (ys := ys) (nd_insK h)
/-! ### sorted -/
theorem merge_sortB {α : Type} {lt : α → α → Bool} (o : Lin lt) {xs : List α} (h : xs.Nodup) : xs.mergeSort (fun a b => !lt b a) = sortB lt xs := by
  have hp := List.mergeSort_perm xs fun a b => !lt b a
  have hn : (xs.mergeSort fun a b => !lt b a).Nodup := hp.nodup_iff.mpr h
  have tri : ∀ a b, lt a b = true ∨ a = b ∨ lt b a = true := fun a b => by
    cases h1 : lt a b with
    | true => exact .inl rfl
    | false =>
      cases h2 : lt b a with
      | true => exact .inr (.inr rfl)
      | false => exact .inr (.inl (o.tri h1 h2))
  have hs : (xs.mergeSort fun a b => !lt b a).Pairwise fun a b => (!lt b a) = true := List.pairwise_mergeSort (fun a b c h h' => by
    simp at *
    cases hc : lt c a with
    | false => rfl
    | true =>
      rcases tri a b with k | k | k
      · rw [o.tr hc k] at h'; cases h'
      · subst k; rw [hc] at h'; cases h'
      · rw [k] at h; cases h) (fun a b => by
    simp
    rcases tri a b with k | k | k
    · left
      cases hb : lt b a with
      | false => rfl
      | true => have := o.tr k hb; rw [o.irr] at this; cases this
    · subst k; left; exact o.irr a
    · right
      cases hb : lt a b with
      | false => rfl
      | true => have := o.tr k hb; rw [o.irr] at this; cases this) xs
  refine up_eq o ?_ (up_sortB o xs) fun z => by rw [hp.mem_iff, mem_sortB o]
  refine (hs.and hn).imp fun {a b} hh => ?_
  rcases tri a b with k | k | k
  · exact k
  · exact absurd k hh.2
  · have := hh.1
    rw [k] at this
    cases this
theorem dlt_pair (a b : Nat × Nat) : PySem.W.dataLt (pairQ a) (pairQ b) = ltQ a b := by
  unfold pairQ intN
  rw [PySem.W.dataLt_tuple, PySem.W.dataLt_cons (by simp [PySem.W.alike]), PySem.W.dataLt_cons (by simp [PySem.W.alike]), PySem.W.dataLt_int, PySem.W.dataLt_int]
  have e : PyProof.Rows.lexLt itemOrd (PySem.W.keyToksAll []) (PySem.W.keyToksAll []) = false := lex_irrefl _
  rw [e]
  simp only [PyData.eqv, beq_int]
  unfold ltQ
  by_cases h1 : a.1 = b.1 <;> by_cases h2 : a.2 = b.2 <;> simp [h1, h2] <;> omega
theorem sorted_pairs {xs : List (Nat × Nat)} (h : xs.Nodup) : sortedQ (false, xs.map pairQ) = .ok ((upP xs).map pairQ) := by
  have h1 : allAlike (xs.map pairQ) = true := by
    cases xs with
    | nil => rfl
    | cons a r =>
      show (((a :: r).map pairQ).all fun x => ((a :: r).map pairQ).all fun y => PySem.W.alike x y) = true
      simp [PySem.W.alike, PySem.W.alikeAll]
  have h2 : sortable (xs.map pairQ) = true := by
    unfold sortable
    rw [Bool.or_eq_true]
    left
    simp
  have h3 : ((xs.map pairQ).all fun d => decide (d.depth ≤ 8)) = true := by simp [PyData.depth, PyData.depthAll]
  show (if (allAlike (xs.map pairQ) && sortable (xs.map pairQ) && (xs.map pairQ).all fun d => decide (d.depth ≤ 8)) = true then Res.ok (sortD (xs.map pairQ)) else .no) = _
  rw [h1, h2, h3, if_pos (by decide)]
  refine congrArg Res.ok ?_
  unfold sortD upP
  rw [← merge_sortB linQ h]
  refine (List.map_mergeSort fun a _ b _ => ?_).symm
  show (!ltQ b a) = !PySem.W.dataLt (pairQ b) (pairQ a)
  rw [dlt_pair]
end GL

/-! # Plain laws: the plain walk's functions -/
namespace GL
open PySem PySem.Spec PyProof.Rows L2 TL
theorem stF_succ (l : List Nat) (k p : Nat) : stF l (k + 1) p = if l[p]? = some 42 then p :: stF l k (p + 1) else [p] := rfl
/-- the test of a star at a place -/
theorem star_at {l : List Nat} (hl : ∀ x ∈ l, x < 128) (hn : l.length ≤ 1000000) {p : Nat} (h : p < l.length) : ∃ x, l[p]? = some x ∧ x < 128 ∧ ixD (.str (mkS l)) (.int (p : Int)) = .ok (.str (sg x)) := by
  have e : l[p]? = some l[p] := List.getElem?_eq_getElem h
  exact ⟨l[p], e, hl _ (List.getElem_mem h), ixD_str_sg e (Nat.le_trans hn (by decide))⟩
theorem open_test {l : List Nat} (hl : ∀ x ∈ l, x < 128) (hn : l.length ≤ 1000000) (d : PyData) (ks : List (NestedKey × PyData)) (p s : Nat) :
    fAndT (fB (fLt (fVar 3) (fCall lenD (fCons (fVar 0) fNil)))) (fB (fEq (fIx (fVar 0) (fVar 3)) (fC (.str "*")))) [some (.dat (.str (mkS l))), some (.dat d), some (.dct ks), some (.dat (.int (p : Int))), some (.dat (.int (s : Int)))] = .ok (decide (l[p]? = some 42)) := by
  by_cases h : p < l.length
  · obtain ⟨x, e, hx, ei⟩ := star_at hl hn h
    have e2 : l[p] = x := (List.getElem?_eq_some_iff.mp e).2
    simp (implicitDefEqProofs := false) [lenD_mk hn, h, ei, eqD_sg hx, e2]
  · simp (implicitDefEqProofs := false) [lenD_mk hn, h]
theorem open_while {l : List Nat} (hl : ∀ x ∈ l, x < 128) (hn : l.length ≤ 1000000) (d : PyData) (s : Nat) : ∀ (k p n : Nat) (ks : List (Nat × Nat)), l.length ≤ p + k → k < n → ks.length + k < 10000 → ∃ p' : Nat,
    whileN (fAndT (fB (fLt (fVar 3) (fCall lenD (fCons (fVar 0) fNil)))) (fB (fEq (fIx (fVar 0) (fVar 3)) (fC (.str "*"))))) b1_L_open n [some (.dat (.str (mkS l))), some (.dat d), some (.dct (truK keyN ks)), some (.dat (.int (p : Int))), some (.dat (.int (s : Int)))] =
      .nx [some (.dat (.str (mkS l))), some (.dat d), some (.dct (truK keyN (((stF l k p).tail.map fun q => (q, s)).foldl insK ks))), some (.dat (.int (p' : Int))), some (.dat (.int (s : Int)))]
  | k, p, 0, ks, _, h, _ => absurd h (Nat.not_lt_zero _)
  | 0, p, n + 1, ks, h, _, _ => by
    have e : l[p]? = none := List.getElem?_eq_none (by omega)
    refine ⟨p, ?_⟩
    show Out.ofR (fAndT _ _ _) _ _ = _
    rw [open_test hl hn, e]
    rfl
  | k + 1, p, n + 1, ks, h, hk, hs => by
    by_cases e : l[p]? = some 42
    · obtain ⟨p', ih⟩ := open_while hl hn d s k (p + 1) n (insK ks (p + 1, s)) (by omega) (by omega) (by
        have : (insK ks (p + 1, s)).length ≤ ks.length + 1 := by unfold insK; split <;> simp
        omega)
      refine ⟨p', ?_⟩
      show Out.ofR (fAndT _ _ _) _ _ = _
      rw [open_test hl hn, ofR_ok, e]
      have hb : b1_L_open [some (.dat (.str (mkS l))), some (.dat d), some (.dct (truK keyN ks)), some (.dat (.int (p : Int))), some (.dat (.int (s : Int)))] = .nx [some (.dat (.str (mkS l))), some (.dat d), some (.dct (truK keyN (insK ks (p + 1, s)))), some (.dat (.int ((p + 1 : Nat) : Int))), some (.dat (.int (s : Int)))] := by
        have ek : keyQ (.tuple [.int ((p : Int) + 1), .int (s : Int)]) = .ok (keyN (p + 1, s)) := keyQ_pair (p + 1, s)
        have el : (truK keyN ks).length < sizeLine := by
          unfold truK
          rw [List.length_map]
          exact Nat.lt_of_lt_of_le (show ks.length < 10000 by omega) (by decide)
        rw [b1_L_open]
        simp (implicitDefEqProofs := false) [sDput, ek, el, truK_put (fun _ _ => keyN_inj)]
      rw [if_pos (by decide), hb]
      show whileN _ _ n _ = _
      rw [ih, stF_succ, if_pos e]
      obtain ⟨r, hr⟩ := stF_head l k (p + 1)
      rw [hr]
      rfl
    · refine ⟨p, ?_⟩
      show Out.ofR (fAndT _ _ _) _ _ = _
      rw [open_test hl hn, ofR_ok, decide_eq_false e, if_neg Bool.false_ne_true]
      rw [stF_succ, if_neg e]
      rfl
theorem open_body {l : List Nat} (hl : ∀ x ∈ l, x < 128) (hn : l.length ≤ 90) (d : PyData) (x : Nat × Nat) (ks : List (Nat × Nat)) (hk : ks.length < 9000) : ∃ p' : Nat,
    b2_L_open [some (.dat (.str (mkS l))), some (.dat d), some (.dct (truK keyN ks)), some (.dat (.int (x.1 : Int))), some (.dat (.int (x.2 : Int)))] =
      .nx [some (.dat (.str (mkS l))), some (.dat d), some (.dct (truK keyN (((stF l l.length x.1).map fun q => (q, x.2)).foldl insK ks))), some (.dat (.int (p' : Int))), some (.dat (.int (x.2 : Int)))] := by
  have ek : keyQ (.tuple [.int (x.1 : Int), .int (x.2 : Int)]) = .ok (keyN x) := keyQ_pair x
  have el : (truK keyN ks).length < sizeLine := by
    unfold truK
    rw [List.length_map]
    exact Nat.lt_of_lt_of_le (show ks.length < 10000 by omega) (by decide)
  obtain ⟨p', h⟩ := open_while hl (by omega) d x.2 l.length x.1 100 (insK ks x) (by omega) (by omega) (by
    have : (insK ks x).length ≤ ks.length + 1 := by unfold insK; split <;> simp
    omega)
  refine ⟨p', ?_⟩
  rw [b2_L_open]
  simp (implicitDefEqProofs := false) only [sSeq_e, sDput, fTup_e, fCons_e, fNil_e, fVar_e, fC_e]
  simp (implicitDefEqProofs := false) [ek, el, truK_put (fun _ _ => keyN_inj)]
  rw [← st_star, h]
  obtain ⟨r, hr⟩ := stF_head l l.length x.1
  rw [hr]
  rfl
end GL

namespace GL
open PySem PySem.Spec PyProof.Rows L2 TL
theorem sr_le {l : List Nat} {p q : Nat} (h : SR l p q) (hp : p ≤ l.length) : q ≤ l.length := by
  rcases Nat.lt_or_ge l.length q with k | k
  · have := h.2 l.length hp k
    rw [List.getElem?_eq_none (Nat.le_refl _)] at this
    cases this
  · exact k
/-- pairs within bounds -/
def InB (l : List Nat) (ps : List (Nat × Nat)) : Prop := ∀ x ∈ ps, x.1 ≤ l.length ∧ x.2 < 8
theorem inB_len {l : List Nat} {ps : List (Nat × Nat)} (h : InB l ps) (n : ps.Nodup) : ps.length ≤ (l.length + 1) * 8 := by
  have := nd_le (m := (List.range (l.length + 1)).flatMap fun p => (List.range 8).map fun q => (p, q)) n fun ⟨p, q⟩ hz => by
    obtain ⟨h1, h2⟩ := h _ hz
    simp only [List.mem_flatMap, List.mem_map, List.mem_range, Prod.mk.injEq]
    exact ⟨p, by simp at h1; omega, q, h2, rfl, rfl⟩
  rw [len_flat (k := 8) _ fun P _ => by simp, List.length_range] at this
  exact this
def opn (l : List Nat) (ks : List (Nat × Nat)) (x : Nat × Nat) : List (Nat × Nat) := ((stF l l.length x.1).map fun q => (q, x.2)).foldl insK ks
theorem mem_opn {l : List Nat} {y : Nat × Nat} : ∀ {ps ks : List (Nat × Nat)}, y ∈ ps.foldl (opn l) ks ↔ y ∈ ks ∨ ∃ p, (p, y.2) ∈ ps ∧ SR l p y.1
  | [], ks => by simp
  | x :: ps, ks => by
    rw [List.foldl_cons, mem_opn]
    unfold opn
    rw [mem_insAll]
    constructor
    · rintro ((h | h) | ⟨p, hp, s⟩)
      · exact .inl h
      · obtain ⟨q, hq, e⟩ := List.mem_map.mp h
        subst e
        exact .inr ⟨x.1, by simp, (mem_stF l.length x.1 (by omega)).mp hq⟩
      · exact .inr ⟨p, List.mem_cons_of_mem _ hp, s⟩
    · rintro (h | ⟨p, hp, s⟩)
      · exact .inl (.inl h)
      · rcases List.mem_cons.mp hp with e | hp
        · refine .inl (.inr (List.mem_map.mpr ⟨y.1, ?_, ?_⟩))
          · rw [← e]; exact (mem_stF l.length p (by omega)).mpr s
          · rw [← e]
        · exact .inr ⟨p, hp, s⟩
theorem opn_ok {l : List Nat} {ks : List (Nat × Nat)} {x : Nat × Nat} (h : InB l ks) (n : ks.Nodup) (hx : x.1 ≤ l.length ∧ x.2 < 8) : InB l (opn l ks x) ∧ (opn l ks x).Nodup := by
  refine ⟨fun y hy => ?_, nd_insAll n⟩
  rcases mem_insAll.mp hy with hy | hy
  · exact h y hy
  · obtain ⟨q, hq, e⟩ := List.mem_map.mp hy
    subst e
    exact ⟨sr_le ((mem_stF l.length x.1 (by omega)).mp hq) hx.1, hx.2⟩
theorem truK_data (ks : List (Nat × Nat)) : (truK keyN ks).map (fun x => x.1.data) = ks.map pairQ := by
  unfold truK
  rw [List.map_map]
  exact List.map_congr_left fun x _ => data_keyN x
theorem open_F {l : List Nat} (hl : ∀ x ∈ l, x < 128) (hn : l.length ≤ 90) {d : PyData} {ps : List (Nat × Nat)} (hd : itemsD d = .ok (ps.map pairQ)) (hb : InB l ps) : F_L_open [.str (mkS l), d] = .ok (tupP (openP l ps)) := by
  obtain ⟨e', h1, e3, e4, h2, h3, rfl⟩ := forL_fold pairQ (t := .many [3, 4]) (g := b2_L_open) (fun (ks : List (Nat × Nat)) env => ∃ e3 e4, InB l ks ∧ ks.Nodup ∧ env = [some (.dat (.str (mkS l))), some (.dat d), some (.dct (truK keyN ks)), e3, e4]) (opn l) ps [] [some (.dat (.str (mkS l))), some (.dat d), some (.dct (truK keyN [])), none, none] (fun x hx ks env ⟨e3, e4, k1, k2, e⟩ => by
    subst e
    obtain ⟨p', h⟩ := open_body hl hn d x ks (by have := inB_len k1 k2; omega)
    obtain ⟨k3, k4⟩ := opn_ok k1 k2 (hb x hx)
    exact ⟨_, _, rfl, h, _, _, k3, k4, rfl⟩) ⟨none, none, by simp [InB], by simp, rfl⟩
  have hlen : (truK keyN (ps.foldl (opn l) [])).length ≤ sizeLine := by
    have := inB_len h2 h3
    unfold truK
    rw [List.length_map]
    exact Nat.le_trans (show _ ≤ 1000 by omega) (by decide)
  have eq : upP (ps.foldl (opn l) []) = openP l ps := UpP.ext (up_upP _) (up_upP _) fun ⟨q, t⟩ => by rw [mem_upP, mem_opn, mem_openP]; simp
  refine runD_rt ?_
  rw [g_L_open]
  simp (implicitDefEqProofs := false) only [sSeq_e, sDnew, thenO_nx, sFor_e, fItems_e, fVar_e, initE]
  simp (implicitDefEqProofs := false) [hd]
  rw [show ([] : List (NestedKey × PyData)) = truK keyN [] from rfl, h1]
  simp (implicitDefEqProofs := false) [fSortK, hlen, truK_data, sorted_pairs h3, eq, -List.map_map]
  rfl
theorem shaped_sgs {xs : List Nat} (h : ∀ x ∈ xs, x < 128) : SeqAt.shaped (.tuple (xs.map fun c => .str (sg c))) = true := shaped_tup (fun c => PyData.str (sg c)) 0 (by decide) xs fun x hx => ⟨by simp [PyData.canLay0, strOk_sg (h x hx)], by simp [PyData.depth]⟩
theorem inD_sgs {a : Nat} {xs : List Nat} (ha : a < 128) (h : ∀ x ∈ xs, x < 128) : inD (.str (sg a)) (.tuple (xs.map fun c => .str (sg c))) = .ok (.bool (decide (a ∈ xs))) := by
  show (if (SeqAt.shaped (.str (sg a)) && SeqAt.shaped (.tuple (xs.map fun c => .str (sg c)))) = true then Res.ok (PyData.bool ((xs.map fun c => PyData.str (sg c)).any fun z => PyData.eqv z (.str (sg a)))) else .no) = _
  rw [shaped_str (strOk_sg ha), shaped_sgs h, if_pos (by decide), List.any_map]
  refine congrArg (fun z => Res.ok (PyData.bool z)) ?_
  rw [Bool.eq_iff_iff]
  simp [PyData.eqv, beq_str, sg_inj]
theorem mac_0 (M : Mac) : ixD M.D (.int 0) = .ok (.int M.n) := by simp [Mac.D, at0]
theorem mac_1 (M : Mac) : ixD M.D (.int 1) = .ok (tupN M.ends) := by simp [Mac.D, at1]; rfl
theorem mac_2 (M : Mac) : ixD M.D (.int 2) = .ok (.tuple (M.mv.map Mv.D)) := by simp [Mac.D, at2]
theorem mv_0 (m : Mv) : ixD m.D (.int 0) = .ok (.int m.s) := by simp [Mv.D, at0]
theorem mv_1 (m : Mv) : ixD m.D (.int 1) = .ok (.str (sg m.c)) := by simp [Mv.D, at1]
theorem mv_2 (m : Mv) : ixD m.D (.int 2) = .ok (.int m.t) := by simp [Mv.D, at2]
theorem pair_0 (x : Nat × Nat) : ixD (pairQ x) (.int 0) = .ok (.int x.1) := by simp [at0]
theorem pair_1 (x : Nat × Nat) : ixD (pairQ x) (.int 1) = .ok (.int x.2) := by simp [at1]
theorem mv_c {M : Mac} (g : M.Good) {m : Mv} (h : m ∈ M.mv) : m.c < 128 := by have := (g.mv_ok m h).2.1; omega
theorem mvD_eq (m : Mv) : m.D = .tuple [.int m.s, .str (sg m.c), .int m.t] := rfl
theorem next_body {M : Mac} (g : M.Good) {l : List Nat} (hl : ∀ x ∈ l, x < 128) (hn : l.length ≤ 90) (d : PyData) {c : Nat} (hc : c < 128) (x : Nat × Nat) (fs : List (Nat × Nat)) (hf : fs.length < 100000) (e7 e8 : Option SV) : ∃ k7 k8,
    b1_L_next [some (.dat M.D), some (.dat (.str (mkS l))), some (.dat d), some (.dat (.str (sg c))), some (.own (fs.map pairQ)), some (.dat (.int (x.1 : Int))), some (.dat (.int (x.2 : Int))), e7, e8] =
      .nx [some (.dat M.D), some (.dat (.str (mkS l))), some (.dat d), some (.dat (.str (sg c))), some (.own ((fs ++ stepP M l c x).map pairQ)), some (.dat (.int (x.1 : Int))), some (.dat (.int (x.2 : Int))), k7, k8] := by
  by_cases h : x.1 < l.length
  · obtain ⟨y, e, hy, ei⟩ := star_at hl (by omega) h
    have e2 : l[x.1] = y := (List.getElem?_eq_some_iff.mp e).2
    have hin : inD (.str (sg y)) (.tuple [.str (sg 63), .str (sg 42), .str (sg c)]) = .ok (.bool (decide (y ∈ [63, 42, c]))) := inD_sgs (xs := [63, 42, c]) hy (by simp; omega)
    have es : stepP M l c x = if y = 63 ∨ y = 42 ∨ y = c then (M.mv.filter fun m => decide (m.s = x.2) && decide (m.c = c)).map fun m => (x.1 + (if y = 42 then 0 else 1), m.t) else [] := by
      unfold stepP
      rw [e]
    by_cases hq : y = 63 ∨ y = 42 ∨ y = c
    · refine ⟨some (.dat (.int ((x.1 + (if y = 42 then 0 else 1) : Nat) : Int))), e8, ?_⟩
      have hi : intD [.bool (!decide (y = 42))] = .ok (.int (if y = 42 then 0 else 1 : Nat)) := by
        by_cases h42 : y = 42 <;> simp [intD, h42]
      have e3 : (x.1 : Int) + ((if y = 42 then 0 else 1 : Nat) : Int) = ((x.1 + (if y = 42 then 0 else 1) : Nat) : Int) := by omega
      rw [b1_L_next]
      simp (implicitDefEqProofs := false) only [sIf_e, fAndT_e, fB_e, f2_e, fVar_e, fCall_e, fCons_e, fNil_e, fC_e, fTup_e, st_star, st_any, sSeq_e, sAsg_e, sExt_e, fComp_e, fItems_e]
      simp (implicitDefEqProofs := false) [lenD_mk (show l.length ≤ 1000000 by omega), h, ei, hin, hq, neD_sg hy, hi, mac_2, -List.mem_cons]
      simp only [e3]
      rw [compF_get Mv.D (fun m => decide (m.s = x.2) && decide (m.c = c)) (fun m => pairQ (x.1 + (if y = 42 then 0 else 1), m.t)) M.mv (fun m hm => ⟨_, rfl, by
        simp (implicitDefEqProofs := false) [mv_0, mv_1, eqD_sg (mv_c g hm) hc]
        by_cases h1 : m.s = x.2
        · simp [h1]
        · have h1' : ¬ (m.s : Int) = (x.2 : Int) := by omega
          simp [h1, h1'], fun _ => by
        simp (implicitDefEqProofs := false) [mv_2]⟩)]
      have hle : fs.length + ((M.mv.filter fun m => decide (m.s = x.2) && decide (m.c = c)).map fun m => pairQ (x.1 + (if y = 42 then 0 else 1), m.t)).length ≤ sizeLine := by
        rw [List.length_map]
        have h1 := List.length_filter_le (fun m => decide (m.s = x.2) && decide (m.c = c)) M.mv
        have h2 := g.mv_len
        exact Nat.le_trans (show _ ≤ 1000000 by omega) (by decide)
      rw [ofR_ok, if_pos hle, es, if_pos hq, List.map_map]
      rfl
    · refine ⟨e7, e8, ?_⟩
      rw [es, if_neg hq, List.append_nil, b1_L_next]
      simp (implicitDefEqProofs := false) [lenD_mk (show l.length ≤ 1000000 by omega), h, ei, hin, hq, -List.mem_cons]
  · refine ⟨e7, e8, ?_⟩
    have es : stepP M l c x = [] := by
      unfold stepP
      rw [List.getElem?_eq_none (by omega)]
    rw [es, List.append_nil, b1_L_next]
    simp (implicitDefEqProofs := false) [lenD_mk (show l.length ≤ 1000000 by omega), h]
end GL

namespace GL
open PySem PySem.Spec PyProof.Rows L2 TL
theorem stepP_in {M : Mac} (g : M.Good) {l : List Nat} {c : Nat} {x : Nat × Nat} : InB l (stepP M l c x) := fun ⟨p, t⟩ h => by
  obtain ⟨h1, h2, m, hm, _, _, h3⟩ := mem_stepP.mp h
  have hx : x.1 < l.length := by rcases h1 with e | e | e <;> exact (List.getElem?_eq_some_iff.mp e).1
  have := (g.mv_ok m hm).2.2
  have := g.n4
  constructor
  · show p ≤ l.length
    rw [h2]
    split <;> omega
  · show t < 8
    omega
theorem stepP_len {M : Mac} (g : M.Good) {l : List Nat} {c : Nat} (x : Nat × Nat) : (stepP M l c x).length ≤ 12 := by
  unfold stepP
  split
  · split
    · rw [List.length_map]
      exact Nat.le_trans (List.length_filter_le _ _) g.mv_len
    · simp
  · simp
theorem flat_len {α β : Type} {f : α → List β} {k : Nat} : ∀ xs : List α, (∀ x ∈ xs, (f x).length ≤ k) → (xs.flatMap f).length ≤ xs.length * k
  | [], _ => by simp
  | x :: xs, h => by
    have h1 := h x List.mem_cons_self
    have h2 := flat_len xs fun y hy => h y (List.mem_cons_of_mem _ hy)
    rw [List.flatMap_cons, List.length_append, List.length_cons, Nat.succ_mul]
    omega
theorem next_F {M : Mac} (g : M.Good) {l : List Nat} (hl : ∀ x ∈ l, x < 128) (hn : l.length ≤ 90) {c : Nat} (hc : c < 128) {ps : List (Nat × Nat)} (hp : ps.length ≤ 1000) : F_L_next [M.D, .str (mkS l), tupP ps, .str (sg c)] = .ok (tupP (nextP M l ps c)) := by
  obtain ⟨e', h1, e5, e6, e7, e8, rfl⟩ := forL_at pairQ (t := .many [5, 6]) (g := b1_L_next) (fun (k : Nat) env => ∃ e5 e6 e7 e8, env = [some (.dat M.D), some (.dat (.str (mkS l))), some (.dat (tupP ps)), some (.dat (.str (sg c))), some (.own (((ps.take k).flatMap (stepP M l c)).map pairQ)), e5, e6, e7, e8]) ps 0 [some (.dat M.D), some (.dat (.str (mkS l))), some (.dat (tupP ps)), some (.dat (.str (sg c))), some (.own []), none, none, none, none] (fun j x hx env ⟨e5, e6, e7, e8, e⟩ => by
    subst e
    have hf : ((ps.take (0 + j)).flatMap (stepP M l c)).length < 100000 := by
      have h1 := flat_len (f := stepP M l c) (k := 12) (ps.take (0 + j)) fun x _ => stepP_len g x
      have h2 : (ps.take (0 + j)).length ≤ ps.length := by rw [List.length_take]; omega
      omega
    obtain ⟨k7, k8, h⟩ := next_body g hl hn (tupP ps) hc x _ hf e7 e8
    have et : (ps.take (0 + j + 1)).flatMap (stepP M l c) = (ps.take (0 + j)).flatMap (stepP M l c) ++ stepP M l c x := by
      rw [List.take_add_one, show 0 + j = j by omega, hx]
      simp only [Option.toList, List.flatMap_append, List.flatMap_cons, List.flatMap_nil, List.append_nil]
    exact ⟨_, _, rfl, h, some (.dat (.int x.1)), some (.dat (.int x.2)), k7, k8, by rw [et]⟩) ⟨none, none, none, none, by simp⟩
  rw [Nat.zero_add, List.take_length] at h1
  have hb : InB l (ps.flatMap (stepP M l c)) := fun x hx => by
    obtain ⟨y, _, h⟩ := List.mem_flatMap.mp hx
    exact stepP_in g x h
  have ho := open_F hl hn (d := .list ((ps.flatMap (stepP M l c)).map pairQ)) rfl hb
  refine runD_rt ?_
  rw [g_L_next]
  simp (implicitDefEqProofs := false) only [sSeq_e, sOwn_e, fDsp_e, fNil_e, initE]
  simp (implicitDefEqProofs := false) [tupP]
  rw [show PyData.tuple (List.map pairQ ps) = tupP ps from rfl, h1]
  simp (implicitDefEqProofs := false) [ho, -List.map_flatMap]
  rfl
theorem neD_nil (xs : List (Nat × Nat)) : neD (.list (xs.map pairQ)) (.list []) = .ok (.bool (!xs.isEmpty)) := by
  unfold neD
  rw [shaped_list pairQ 1 (by decide) xs fun x _ => ⟨by simp [PyData.canLay0, PyData.canLayAll0], by simp [PyData.depth, PyData.depthAll]⟩, show SeqAt.shaped (.list []) = true from rfl, if_pos (by decide)]
  cases xs with
  | nil => rfl
  | cons x xs => simp [PyData.eqv, PyData.eqvAll]
theorem filter_any {α : Type} (p : α → Bool) : ∀ xs : List α, (!(xs.filter p).isEmpty) = xs.any p
  | [] => rfl
  | x :: xs => by
    rw [List.filter_cons, List.any_cons]
    cases h : p x with
    | true => simp
    | false => simpa using filter_any p xs
theorem inD_end (M : Mac) (q : Nat) : inD (.int (q : Int)) (tupN M.ends) = .ok (.bool (decide (q ∈ M.ends))) := inD_tupN q M.ends
theorem is_good_F {M : Mac} {l : List Nat} (hn : l.length ≤ 1000000) (ps : List (Nat × Nat)) : F_L_is_good [M.D, .str (mkS l), tupP ps] = .ok (.bool (goodP M l ps)) := by
  refine runD_rt ?_
  rw [g_L_is_good]
  simp (implicitDefEqProofs := false) [initE, tupP]
  rw [compF_get pairQ (fun x => decide (x.1 = l.length) && decide (x.2 ∈ M.ends)) pairQ ps (fun x hx => ⟨_, rfl, by
    simp (implicitDefEqProofs := false) [at0, at1, lenD_mk hn, mac_1, inD_end]
    by_cases h1 : x.1 = l.length
    · simp (implicitDefEqProofs := false) [h1]
    · have h1' : ¬ (x.1 : Int) = (l.length : Int) := by omega
      simp (implicitDefEqProofs := false) [h1, h1'], fun _ => rfl⟩)]
  simp (implicitDefEqProofs := false) [neD_nil, filter_any]
  rfl
end GL

namespace GL
open PySem PySem.Spec PyProof.Rows L2 TL
theorem forL_cons {t : Tgt} {g : En → Out} {d : PyData} {ds : List PyData} {env e1 e2 : En} (h1 : bindT t d env = .ok e1) (h2 : g e1 = .nx e2) : forL t g (d :: ds) env = forL t g ds e2 := by
  show (match bindT t d env with
    | .ok e1 => (match g e1 with
      | .nx e2 => forL t g ds e2
      | o => o)
    | _ => .no) = _
  rw [h1]
  show (match g e1 with
      | .nx e2 => forL t g ds e2
      | o => o) = _
  rw [h2]
theorem forL_ret {t : Tgt} {g : En → Out} {d r : PyData} {ds : List PyData} {env e1 : En} (h1 : bindT t d env = .ok e1) (h2 : g e1 = .rt r) : forL t g (d :: ds) env = .rt r := by
  show (match bindT t d env with
    | .ok e1 => (match g e1 with
      | .nx e2 => forL t g ds e2
      | o => o)
    | _ => .no) = _
  rw [h1]
  show (match g e1 with
      | .nx e2 => forL t g ds e2
      | o => o) = _
  rw [h2]
theorem forL_nil (t : Tgt) (g : En → Out) (env : En) : forL t g [] env = .nx env := rfl
theorem whileN_nx {p : En → Res Bool} {g : En → Out} {n : Nat} {env e2 : En} (h1 : p env = .ok true) (h2 : g env = .nx e2) : whileN p g (n + 1) env = whileN p g n e2 := by
  show Out.ofR (p env) env _ = _
  rw [h1, ofR_ok, if_pos rfl, h2]
theorem whileN_rt {p : En → Res Bool} {g : En → Out} {n : Nat} {env : En} {d : PyData} (h1 : p env = .ok true) (h2 : g env = .rt d) : whileN p g (n + 1) env = .rt d := by
  show Out.ofR (p env) env _ = _
  rw [h1, ofR_ok, if_pos rfl, h2]
theorem whileN_end {p : En → Res Bool} {g : En → Out} {n : Nat} {env : En} (h1 : p env = .ok false) : whileN p g (n + 1) env = .nx env := by
  show Out.ofR (p env) env _ = _
  rw [h1, ofR_ok, if_neg Bool.false_ne_true]
abbrev rowD (i : List Nat × List (Nat × Nat)) : PyData := .tuple [.str (mkS i.1), tupP i.2]
theorem truK_len {α : Type} (key : α → NestedKey) (xs : List α) : (truK key xs).length = xs.length := by unfold truK; rw [List.length_map]
theorem big {n : Nat} (h : n ≤ 1000000) : n ≤ sizeLine := Nat.le_trans h (by decide)
theorem big' {n : Nat} (h : n < 1000000) : n < sizeLine := Nat.lt_of_lt_of_le h (by decide)
theorem truK_has {α : Type} [DecidableEq α] {key : α → NestedKey} (hk : ∀ a b, key a = key b → a = b) (xs : List α) (x : α) : hasK (truK key xs) (key x) = decide (x ∈ xs) := truK_get hk xs x
theorem least_kid {M : Mac} (g : M.Good) {l : List Nat} (hl : ∀ x ∈ l, x < 128) (hn : l.length ≤ 90) (rd : PyData) (i : List Nat × List (Nat × Nat)) (hi1 : i.1.length < 100000) (hi2 : i.2.length ≤ 1000) (lg : List (List Nat × List (Nat × Nat))) (sn : List (List (Nat × Nat)))
    (h1 : lg.length < 100000) (h2 : sn.length < 100000) {c : Nat} (hc : c ∈ abc) (e8 : Option SV) :
    b1_L_least [some (.dat M.D), some (.dat (.str (mkS l))), some (.dct (truK keyT sn)), some (.dat rd), some (.own (lg.map rowD)), some (.dat (.str (mkS i.1))), some (.dat (tupP i.2)), some (.dat (.str (sg c))), e8] =
      .nx [some (.dat M.D), some (.dat (.str (mkS l))), some (.dct (truK keyT (kidF (nextP M l) i (lg, sn) c).2)), some (.dat rd), some (.own ((kidF (nextP M l) i (lg, sn) c).1.map rowD)), some (.dat (.str (mkS i.1))), some (.dat (tupP i.2)), some (.dat (.str (sg c))), some (.dat (tupP (nextP M l i.2 c)))] := by
  have hc' : c < 128 := by unfold abc at hc; simp at hc; omega
  rw [b1_L_least]
  simp (implicitDefEqProofs := false) [next_F g hl hn hc' hi2, keyQ_tupP, truK_has (fun _ _ => keyT_inj)]
  unfold kidF
  by_cases h : nextP M l i.2 c ∈ sn
  · simp (implicitDefEqProofs := false) [h]
  · have el : (truK keyT sn).length < sizeLine := by rw [truK_len]; exact big' (by omega)
    have el2 : lg.length < sizeLine := big' (by omega)
    simp (implicitDefEqProofs := false) [h, keyQ_tupP, el, truK_put (fun _ _ => keyT_inj), addD_mg (show i.1.length + 1 ≤ 1000000 by omega), el2]
    unfold insK
    rw [if_neg h]
theorem kidF_app {T : Type} [DecidableEq T] (δ : T → Nat → T) (i : List Nat × T) (a b : List (List Nat × T)) (sn : List T) (c : Nat) : kidF δ i (a ++ b, sn) c = (a ++ (kidF δ i (b, sn) c).1, (kidF δ i (b, sn) c).2) := by
  by_cases h : δ i.2 c ∈ sn <;> simp [kidF, h]
/-- how far the plain search has come -/
structure LI (M : Mac) (l : List Nat) (k0 : Nat) (ex qu : List (List Nat × List (Nat × Nat))) (sn : List (List (Nat × Nat))) : Prop where
  b : Bfs (nextP M l) (goodP M l) (openP l [(0, 0)]) ex qu sn
  nd : sn.Nodup
  al : ∀ t ∈ sn, t ∈ allP l.length M.n
  len : ex.length + qu.length = sn.length + k0
  wl : ∀ i ∈ ex ++ qu, i.1.length ≤ sn.length
theorem LI.size {M : Mac} (g : M.Good) {l : List Nat} (hl : l.length ≤ 8) {k0 : Nat} {ex qu : List (List Nat × List (Nat × Nat))} {sn : List (List (Nat × Nat))} (h : LI M l k0 ex qu sn) : sn.length ≤ 8192 := by
  have h1 := nd_le h.nd h.al
  rw [allP_len] at h1
  have h2 : 2 ^ (l.length + 1) ≤ 2 ^ 9 := Nat.pow_le_pow_right (by decide) (by omega)
  have h3 : 2 ^ M.n ≤ 2 ^ 4 := Nat.pow_le_pow_right (by decide) g.n4
  exact Nat.le_trans h1 (Nat.mul_le_mul h2 h3)
theorem prs_in {M : Mac} (g : M.Good) {l w : List Nat} (hw : ∀ c ∈ w, c ∈ abc) : InB l (prs M l w) := fun ⟨q, t⟩ h => by
  obtain ⟨h1, h2⟩ := (mem_prs _ w rfl hw).mp h
  have := h2.lt g (by have := g.n1; omega)
  have := g.n4
  exact ⟨h1.1, by show t < 8; omega⟩
theorem LI.row {M : Mac} (g : M.Good) {l : List Nat} (hl : l.length ≤ 8) {k0 : Nat} {ex qu : List (List Nat × List (Nat × Nat))} {sn : List (List (Nat × Nat))} (h : LI M l k0 ex qu sn) {i : List Nat × List (Nat × Nat)} (hi : i ∈ ex ++ qu) : i.1.length ≤ 8192 ∧ i.2.length ≤ 72 := by
  obtain ⟨e, ha⟩ := h.b.at_ i hi
  refine ⟨Nat.le_trans (h.wl i hi) (h.size g hl), ?_⟩
  have e' : i.2 = prs M l i.1 := e
  rw [e']
  have := inB_len (prs_in g ha) (up_nodup linQ (prs_up M l i.1))
  omega
theorem kid_ok {M : Mac} (g : M.Good) {l : List Nat} {i : List Nat × List (Nat × Nat)} (hi : i.2 = prs M l i.1) (ha : ∀ c ∈ i.1, c ∈ abc) {k0 n : Nat} {qu : List (List Nat × List (Nat × Nat))} {sn : List (List (Nat × Nat))} {c : Nat} (hc : c ∈ abc)
    (nd : sn.Nodup) (al : ∀ t ∈ sn, t ∈ allP l.length M.n) (len : n + qu.length = sn.length + k0) (wl : ∀ j ∈ qu, j.1.length ≤ sn.length) (wi : i.1.length ≤ sn.length) :
    (kidF (nextP M l) i (qu, sn) c).2.Nodup ∧ (∀ t ∈ (kidF (nextP M l) i (qu, sn) c).2, t ∈ allP l.length M.n) ∧ n + (kidF (nextP M l) i (qu, sn) c).1.length = (kidF (nextP M l) i (qu, sn) c).2.length + k0 ∧ (∀ j ∈ (kidF (nextP M l) i (qu, sn) c).1, j.1.length ≤ (kidF (nextP M l) i (qu, sn) c).2.length) ∧ sn.length ≤ (kidF (nextP M l) i (qu, sn) c).2.length := by
  refine ⟨kidF_nodup nd, ?_⟩
  have h : nextP M l i.2 c = prs M l (i.1 ++ [c]) := by
    rw [hi]
    unfold prs
    rw [runT_app]
    rfl
  have hm : nextP M l i.2 c ∈ allP l.length M.n := by
    rw [h]
    refine prs_all g fun d hd => ?_
    rcases List.mem_append.mp hd with hd | hd
    · exact ha d hd
    · simp at hd; subst hd; exact hc
  unfold kidF
  by_cases hs : nextP M l i.2 c ∈ sn
  · rw [if_pos hs]
    exact ⟨al, len, wl, Nat.le_refl _⟩
  · rw [if_neg hs]
    refine ⟨fun t ht => ?_, by simp; omega, fun j hj => ?_, by simp⟩
    · rcases List.mem_append.mp ht with ht | ht
      · exact al t ht
      · simp at ht; subst ht; exact hm
    · rcases List.mem_append.mp hj with hj | hj
      · have := wl j hj; simp; omega
      · simp at hj; subst hj; simp; omega
theorem LI.next {M : Mac} (g : M.Good) {l : List Nat} {k0 : Nat} {ex qu : List (List Nat × List (Nat × Nat))} {sn : List (List (Nat × Nat))} {i : List Nat × List (Nat × Nat)} (h : LI M l k0 ex (i :: qu) sn) (hg : goodP M l i.2 = false) :
    LI M l k0 (ex ++ [i]) (abc.foldl (kidF (nextP M l) i) (qu, sn)).1 (abc.foldl (kidF (nextP M l) i) (qu, sn)).2 := by
  have hii : i ∈ ex ++ i :: qu := by simp
  obtain ⟨hi, ha⟩ := h.b.at_ i hii
  have wi := h.wl i hii
  have b := h.b.next hg
  obtain ⟨a1, a2, a3, a4, a5⟩ := kid_ok g (qu := qu) (sn := sn) (k0 := k0) (n := ex.length + 1) hi ha (c := 97) (by decide) h.nd h.al (by have := h.len; simp at this; omega) (fun j hj => h.wl j (by simp [hj])) wi
  obtain ⟨b1, b2, b3, b4, b5⟩ := kid_ok g hi ha (c := 98) (by decide) a1 a2 a3 a4 (by omega)
  obtain ⟨c1, c2, c3, c4, c5⟩ := kid_ok g hi ha (c := 99) (by decide) b1 b2 b3 b4 (by omega)
  refine ⟨b, c1, c2, by rw [List.length_append]; exact c3, fun j hj => ?_⟩
  rcases List.mem_append.mp hj with hj | hj
  · have : j.1.length ≤ sn.length := by
      rcases List.mem_append.mp hj with hj | hj
      · exact h.wl j (by simp [hj])
      · simp at hj; subst hj; exact wi
    exact Nat.le_trans this (Nat.le_trans a5 (Nat.le_trans b5 c5))
  · exact c4 j hj
theorem kids_app {T : Type} [DecidableEq T] (δ : T → Nat → T) (i : List Nat × T) (a b : List (List Nat × T)) (sn : List T) : abc.foldl (kidF δ i) (a ++ b, sn) = (a ++ (abc.foldl (kidF δ i) (b, sn)).1, (abc.foldl (kidF δ i) (b, sn)).2) := by
  show kidF δ i (kidF δ i (kidF δ i (a ++ b, sn) 97) 98) 99 = _
  rw [kidF_app, kidF_app, kidF_app]
  rfl
end GL

namespace GL
open PySem PySem.Spec PyProof.Rows L2 TL
theorem items_abc : itemsD (.str (mkS [97, 98, 99])) = .ok [.str (sg 97), .str (sg 98), .str (sg 99)] := items_mk (l := [97, 98, 99]) (by decide)
theorem kidF_l {T : Type} [DecidableEq T] {δ : T → Nat → T} {i : List Nat × T} {s : List (List Nat × T) × List T} {c : Nat} : (kidF δ i s c).1.length ≤ s.1.length + 1 ∧ (kidF δ i s c).2.length ≤ s.2.length + 1 := by
  unfold kidF
  split <;> simp
theorem least_kids {M : Mac} (g : M.Good) {l : List Nat} (hl : ∀ x ∈ l, x < 128) (hn : l.length ≤ 90) (rd : PyData) (i : List Nat × List (Nat × Nat)) (hi1 : i.1.length < 100000) (hi2 : i.2.length ≤ 1000) (lg : List (List Nat × List (Nat × Nat))) (sn : List (List (Nat × Nat)))
    (h1 : lg.length < 90000) (h2 : sn.length < 90000) (hg : goodP M l i.2 = false) (e7 e8 : Option SV) : ∃ f7 f8,
    b2_L_least [some (.dat M.D), some (.dat (.str (mkS l))), some (.dct (truK keyT sn)), some (.dat rd), some (.own (lg.map rowD)), some (.dat (.str (mkS i.1))), some (.dat (tupP i.2)), e7, e8] =
      .nx [some (.dat M.D), some (.dat (.str (mkS l))), some (.dct (truK keyT (abc.foldl (kidF (nextP M l) i) (lg, sn)).2)), some (.dat rd), some (.own ((abc.foldl (kidF (nextP M l) i) (lg, sn)).1.map rowD)), some (.dat (.str (mkS i.1))), some (.dat (tupP i.2)), f7, f8] := by
  refine ⟨some (.dat (.str (sg 99))), some (.dat (tupP (nextP M l i.2 99))), ?_⟩
  rw [b2_L_least]
  simp (implicitDefEqProofs := false) [is_good_F (show l.length ≤ 1000000 by omega), hg, items_abc]
  have k1 := kidF_l (δ := nextP M l) (i := i) (s := (lg, sn)) (c := 97)
  have k2 := kidF_l (δ := nextP M l) (i := i) (s := ((kidF (nextP M l) i (lg, sn) 97).1, (kidF (nextP M l) i (lg, sn) 97).2)) (c := 98)
  simp only at k1 k2
  rw [forL_cons rfl (least_kid g hl hn rd i hi1 hi2 lg sn (by omega) (by omega) (c := 97) (by decide) e8), forL_cons rfl (least_kid g hl hn rd i hi1 hi2 _ _ (by omega) (by omega) (c := 98) (by decide) _), forL_cons rfl (least_kid g hl hn rd i hi1 hi2 _ _ (by omega) (by omega) (c := 99) (by decide) _), forL_nil]
  rfl
theorem least_hit {M : Mac} {l : List Nat} (hn : l.length ≤ 90) (d2 d3 d4 : Option SV) (i : List Nat × List (Nat × Nat)) (hg : goodP M l i.2 = true) (e7 e8 : Option SV) :
    b2_L_least [some (.dat M.D), some (.dat (.str (mkS l))), d2, d3, d4, some (.dat (.str (mkS i.1))), some (.dat (tupP i.2)), e7, e8] = .rt (.str (mkS i.1)) := by
  rw [b2_L_least]
  simp (implicitDefEqProofs := false) [is_good_F (show l.length ≤ 1000000 by omega), hg]
theorem least_level {M : Mac} (g : M.Good) {l : List Nat} (hl : ∀ x ∈ l, x < 128) (hn : l.length ≤ 8) (rd : PyData) {k0 : Nat} (hk0 : k0 ≤ 1) : ∀ (rest lg ex : List (List Nat × List (Nat × Nat))) (sn : List (List (Nat × Nat))), LI M l k0 ex (rest ++ lg) sn → ∀ e5 e6 e7 e8 : Option SV,
    (∃ w, forL (.many [5, 6]) b2_L_least (rest.map rowD) [some (.dat M.D), some (.dat (.str (mkS l))), some (.dct (truK keyT sn)), some (.dat rd), some (.own (lg.map rowD)), e5, e6, e7, e8] = .rt (.str (mkS w)) ∧ Least (Wd M l) (some w)) ∨
    (∃ lg' ex' sn' f5 f6 f7 f8, forL (.many [5, 6]) b2_L_least (rest.map rowD) [some (.dat M.D), some (.dat (.str (mkS l))), some (.dct (truK keyT sn)), some (.dat rd), some (.own (lg.map rowD)), e5, e6, e7, e8] =
      .nx [some (.dat M.D), some (.dat (.str (mkS l))), some (.dct (truK keyT sn')), some (.dat rd), some (.own (lg'.map rowD)), f5, f6, f7, f8] ∧ LI M l k0 ex' lg' sn' ∧ ex'.length = ex.length + rest.length)
  | [], lg, ex, sn, h, e5, e6, e7, e8 => .inr ⟨lg, ex, sn, e5, e6, e7, e8, rfl, h, rfl⟩
  | i :: rest, lg, ex, sn, h, e5, e6, e7, e8 => by
    have h : LI M l k0 ex (i :: (rest ++ lg)) sn := h
    obtain ⟨r1, r2⟩ := h.row g hn (i := i) (by simp)
    have hs := h.size g hn
    have hlen := h.len
    simp at hlen
    cases hg : goodP M l i.2 with
    | true => exact .inl ⟨i.1, forL_ret rfl (least_hit (by omega) _ _ _ i hg e7 e8), least_iff (wd_good g) (h.b.found hg)⟩
    | false =>
      obtain ⟨f7, f8, hb⟩ := least_kids g hl (by omega) rd i (by omega) (by omega) lg sn (by omega) (by omega) hg e7 e8
      have h2 := h.next g hg
      rw [kids_app] at h2
      rcases least_level g hl hn rd hk0 rest _ (ex ++ [i]) _ h2 (some (.dat (.str (mkS i.1)))) (some (.dat (tupP i.2))) f7 f8 with ⟨w, k1, k2⟩ | ⟨lg', ex', sn', a5, a6, a7, a8, k1, k2, k3⟩
      · exact .inl ⟨w, (forL_cons rfl hb).trans k1, k2⟩
      · exact .inr ⟨lg', ex', sn', a5, a6, a7, a8, (forL_cons rfl hb).trans k1, k2, by rw [k3]; simp; omega⟩
theorem least_while {M : Mac} (g : M.Good) {l : List Nat} (hl : ∀ x ∈ l, x < 128) (hn : l.length ≤ 8) {k0 : Nat} (hk0 : k0 ≤ 1) : ∀ (n : Nat) (rows ex : List (List Nat × List (Nat × Nat))) (sn : List (List (Nat × Nat))), LI M l k0 ex rows sn → 8200 < n + ex.length → ∀ e4 e5 e6 e7 e8 : Option SV,
    (∃ w, whileN (fTruQ (fQV 3)) b3_L_least n [some (.dat M.D), some (.dat (.str (mkS l))), some (.dct (truK keyT sn)), some (.own (rows.map rowD)), e4, e5, e6, e7, e8] = .rt (.str (mkS w)) ∧ Least (Wd M l) (some w)) ∨
    (∃ e, whileN (fTruQ (fQV 3)) b3_L_least n [some (.dat M.D), some (.dat (.str (mkS l))), some (.dct (truK keyT sn)), some (.own (rows.map rowD)), e4, e5, e6, e7, e8] = .nx e ∧ Least (Wd M l) none)
  | 0, rows, ex, sn, h, hm, e4, e5, e6, e7, e8 => by
    have := h.len
    have := h.size g hn
    omega
  | n + 1, [], ex, sn, h, hm, e4, e5, e6, e7, e8 => .inr ⟨_, whileN_end (by simp), least_iff (wd_good g) h.b.done⟩
  | n + 1, i :: rows, ex, sn, h, hm, e4, e5, e6, e7, e8 => by
    have hp : (fTruQ (fQV 3)) [some (.dat M.D), some (.dat (.str (mkS l))), some (.dct (truK keyT sn)), some (.own ((i :: rows).map rowD)), e4, e5, e6, e7, e8] = .ok true := by simp
    have hl0 : LI M l k0 ex ((i :: rows) ++ []) sn := by rw [List.append_nil]; exact h
    rcases least_level g hl hn (.list ((i :: rows).map rowD)) hk0 (i :: rows) [] ex sn hl0 e5 e6 e7 e8 with ⟨w, k1, k2⟩ | ⟨lg', ex', sn', a5, a6, a7, a8, k1, k2, k3⟩
    · refine .inl ⟨w, whileN_rt hp ?_, k2⟩
      rw [b3_L_least]
      simp (implicitDefEqProofs := false) only [sSeq_e, sOwn_e, fDsp_e, fNil_e, sFrz_e, frz_e]
      simp (implicitDefEqProofs := false) [-List.map_cons]
      rw [show ([] : List PyData) = ([] : List (List Nat × List (Nat × Nat))).map rowD from rfl, k1]
      rfl
    · have hb : b3_L_least [some (.dat M.D), some (.dat (.str (mkS l))), some (.dct (truK keyT sn)), some (.own ((i :: rows).map rowD)), e4, e5, e6, e7, e8] = .nx [some (.dat M.D), some (.dat (.str (mkS l))), some (.dct (truK keyT sn')), some (.own (lg'.map rowD)), none, a5, a6, a7, a8] := by
        rw [b3_L_least]
        simp (implicitDefEqProofs := false) only [sSeq_e, sOwn_e, fDsp_e, fNil_e, sFrz_e, frz_e]
        simp (implicitDefEqProofs := false) [-List.map_cons]
        rw [show ([] : List PyData) = ([] : List (List Nat × List (Nat × Nat))).map rowD from rfl, k1]
        simp (implicitDefEqProofs := false)
      rw [whileN_nx hp hb]
      exact least_while g hl hn hk0 n lg' ex' sn' k2 (by rw [k3, List.length_cons]; omega) none a5 a6 a7 a8
def optW : Option (List Nat) → PyData
  | some w => .str (mkS w)
  | none => .none
theorem LI.start (M : Mac) (l : List Nat) : LI M l 1 [] [([], openP l [(0, 0)])] [] := ⟨bfs_start [] (by simp), by simp, by simp, by simp, by simp⟩
theorem least_F {M : Mac} (g : M.Good) {l : List Nat} (hl : ∀ x ∈ l, x < 128) (hn : l.length ≤ 8) : ∃ r, F_L_least [M.D, .str (mkS l)] = .ok (optW r) ∧ Least (Wd M l) r := by
  have ho := open_F hl (by omega) (d := .list [.tuple [.int 0, .int 0]]) (ps := [(0, 0)]) rfl (by simp [InB])
  have es : ∀ e4 e5 e6 e7 e8 : Option SV, [some (SV.dat M.D), some (SV.dat (PyData.str (mkS l))), some (SV.dct []), some (SV.own [PyData.tuple [PyData.str (mkS []), tupP (openP l [(0, 0)])]]), e4, e5, e6, e7, e8] = [some (.dat M.D), some (.dat (.str (mkS l))), some (.dct (truK keyT [])), some (.own ([([], openP l [(0, 0)])].map rowD)), e4, e5, e6, e7, e8] := fun _ _ _ _ _ => rfl
  rcases least_while g hl hn (Nat.le_refl 1) 20000 _ _ _ (LI.start M l) (by simp) none none none none none with ⟨w, h1, h2⟩ | ⟨e, h1, h2⟩
  · refine ⟨some w, runD_rt ?_, h2⟩
    rw [g_L_least]
    simp (implicitDefEqProofs := false) [initE, ho]
    rw [es, h1]
    rfl
  · refine ⟨none, runD_rt ?_, h2⟩
    rw [g_L_least]
    simp (implicitDefEqProofs := false) [initE, ho]
    rw [es, h1]
    simp (implicitDefEqProofs := false)
    rfl
end GL

/-! # Plain laws: the logs that are drawn -/
namespace GL
open PySem PySem.Spec PyProof.Rows L2 TL
theorem cutS_mk (l : List Nat) (lo hi : Option Int) : cutS (mkS l) lo hi = mkS ((l.drop (HT.sIx l.length 0 lo)).take (HT.sIx l.length l.length hi - HT.sIx l.length 0 lo)) := by
  unfold cutS
  rw [mkS_len]
  rfl
theorem slD_mk {l : List Nat} (h : l.length ≤ 1000000) (lo hi : Option Int) : slD (.str (mkS l)) lo hi = .ok (.str (mkS ((l.drop (HT.sIx l.length 0 lo)).take (HT.sIx l.length l.length hi - HT.sIx l.length 0 lo)))) := by
  show (if (mkS l).length ≤ sizeLine then Res.ok (PyData.str (cutS (mkS l) lo hi)) else .no) = _
  rw [if_pos (by rw [mkS_len]; exact big h), cutS_mk]
theorem sIx_n (n d k : Nat) : HT.sIx n d (some (k : Int)) = min k n := HT.sIx_nat n d k
theorem sl_to {l : List Nat} (h : l.length ≤ 1000000) (k : Nat) : slD (.str (mkS l)) none (some (k : Int)) = .ok (.str (mkS (l.take k))) := by
  rw [slD_mk h, HT.sIx_none, sIx_n]
  simp only [List.drop_zero, Nat.sub_zero]
  congr 3
  rw [List.take_eq_take_iff]
  omega
theorem sl_from {l : List Nat} (h : l.length ≤ 1000000) (k : Nat) : slD (.str (mkS l)) (some (k : Int)) none = .ok (.str (mkS (l.drop k))) := by
  rw [slD_mk h, HT.sIx_none, sIx_n]
  congr 3
  rcases Nat.lt_or_ge k l.length with hk | hk
  · rw [show min k l.length = k by omega, List.take_of_length_le (by rw [List.length_drop]; omega)]
  · rw [show min k l.length = l.length by omega, List.drop_length, List.drop_eq_nil_of_le hk]; simp
theorem sl_mid {l : List Nat} (h : l.length ≤ 1000000) (a b : Nat) : slD (.str (mkS l)) (some (a : Int)) (some (b : Int)) = .ok (.str (mkS ((l.drop a).take (b - a)))) := by
  rw [slD_mk h, sIx_n, sIx_n]
  congr 3
  rcases Nat.lt_or_ge a l.length with hk | hk
  · rw [show min a l.length = a by omega, List.take_eq_take_iff, List.length_drop]
    omega
  · rw [show min a l.length = l.length by omega, List.drop_length, List.drop_eq_nil_of_le hk]; simp
/-! ### replace -/
theorem repl_eq (l y z : List Nat) (hy : 1 ≤ y.length) : Txt.replace (mkS l) (mkS y) (mkS z) = mkS (StrLaws.replL y z l) := ext_tl (by
  have := StrLaws.replace_list (x := mkS l) (y := mkS y) (z := mkS z) (by rw [mkS_len]; exact hy)
  exact this)
theorem mem_repl {y z : List Nat} (hy : y ≠ []) {x : Nat} : ∀ (n : Nat) (l : List Nat), l.length ≤ n → x ∈ StrLaws.replL y z l → x ∈ l ∨ x ∈ z
  | _, [], _, h => by rw [StrLaws.replL_nil] at h; cases h
  | 0, _ :: _, hn, _ => by simp at hn
  | n + 1, c :: r, hn, h => by
    by_cases e : (c :: r).take y.length = y
    · rw [StrLaws.replL_hit hy e] at h
      rcases List.mem_append.mp h with h | h
      · exact .inr h
      · have hl : 1 ≤ y.length := by cases y with
          | nil => exact absurd rfl hy
          | cons => simp
        rcases mem_repl hy n _ (by rw [List.length_drop]; simp at hn; simp; omega) h with h | h
        · exact .inl (List.mem_of_mem_drop h)
        · exact .inr h
    · rw [StrLaws.replL_miss e] at h
      rcases List.mem_cons.mp h with rfl | h
      · exact .inl List.mem_cons_self
      · rcases mem_repl hy n r (by simpa using hn) h with h | h
        · exact .inl (List.mem_cons_of_mem _ h)
        · exact .inr h
theorem repl_len {y z : List Nat} (hy : z.length ≤ y.length) (hy' : y ≠ []) : ∀ (n : Nat) (l : List Nat), l.length ≤ n → (StrLaws.replL y z l).length ≤ l.length
  | _, [], _ => by rw [StrLaws.replL_nil]; simp
  | 0, _ :: _, hn => by simp at hn
  | n + 1, c :: r, hn => by
    have hl : 1 ≤ y.length := by cases y with
      | nil => exact absurd rfl hy'
      | cons => simp
    by_cases e : (c :: r).take y.length = y
    · rw [StrLaws.replL_hit hy' e]
      have ih := repl_len hy hy' n ((c :: r).drop y.length) (by rw [List.length_drop]; simp at hn; simp; omega)
      have : y.length ≤ (c :: r).length := by have := congrArg List.length e; rw [List.length_take] at this; omega
      rw [List.length_drop] at ih
      rw [List.length_append]
      omega
    · rw [StrLaws.replL_miss e]
      have := repl_len hy hy' n r (by simpa using hn)
      simp
      exact this
theorem replD {l y z : List Nat} (hy : 1 ≤ y.length) (h : l.length + (l.length + 1) * z.length ≤ 16777216) : replS (mkS y) (mkS z) (mkS l) = .ok (.str (mkS (StrLaws.replL y z l))) := by
  unfold replS
  rw [if_pos (by rw [mkS_len, mkS_len]; exact h), repl_eq l y z hy]
@[simp] theorem fRepl_e (y z : Str) (f : En → Res PyData) (env : En) : fRepl y z f env = ((f env).bind isS).bind (replS y z) := (rfl)
theorem st_2star : (Str.ofString "**") = mkS [42, 42] := ext_tl (by rw [tl_ofString]; rfl)
theorem st_signs : (Str.ofString "abc?*abc?a") = mkS [97, 98, 99, 63, 42, 97, 98, 99, 63, 97] := ext_tl (by rw [tl_ofString]; rfl)
/-! ### a log drawn by itself -/
def sgn10 : List Nat := [97, 98, 99, 63, 42, 97, 98, 99, 63, 97]
def logAt (x : Int) (k : Nat) : Nat := sgn10.getD (mixN (x + 11 * (k : Int)) 9923 10) 0
theorem logAt_ok (x : Int) (k : Nat) : sgn10[mixN (x + 11 * (k : Int)) 9923 10]? = some (logAt x k) ∧ logAt x k ∈ [97, 98, 99, 63, 42] := by
  have hs : ∀ i, i < 10 → ∃ c, sgn10[i]? = some c ∧ c ∈ [97, 98, 99, 63, 42] := by decide
  obtain ⟨c, hc, hm⟩ := hs _ (mix_lt (a := x + 11 * (k : Int)) (p := 9923) (m := 10) (k := 10) rfl (by decide))
  have e : logAt x k = c := by unfold logAt; rw [List.getD_eq_getElem?_getD, hc]; rfl
  rw [e]
  exact ⟨hc, hm⟩
theorem flat_one {α : Type} (f : α → Nat) (xs : List α) : (xs.map fun x => [f x]).flatten = xs.map f := by
  induction xs with
  | nil => rfl
  | cons a r ih => simp [ih]
theorem sum_one {α : Type} (xs : List α) : (xs.map fun _ => 1).sum = xs.length := by
  induction xs with
  | nil => rfl
  | cons a r ih => simp [ih]; omega
/-- texts of one sign each, joined -/
theorem join_sgs {α : Type} (f : α → Nat) (xs : List α) (h : xs.length ≤ 1000000) : joinD (mkS []) (false, xs.map fun x => .str (sg (f x))) = .ok (.str (mkS (xs.map f))) := by
  have hj := joinD_empty false (fun x => [f x]) xs (by
    rw [show (fun x : α => ([f x] : List Nat).length) = fun _ => 1 from rfl, sum_one]
    omega)
  rw [st_nil, flat_one] at hj
  exact hj
theorem log_F (x : Int) : ∃ l, F_L_log [.int x] = .ok (.str (mkS l)) ∧ Sgn l ∧ l.length ≤ 6 := by
  have h7 := mix_lt (a := x) (p := 9907) (m := 7) (k := 7) rfl (by decide)
  have hr := rangeD_n (n := mixN x 9907 7) (by omega)
  refine ⟨(List.range (mixN x 9907 7)).map (logAt x), runD_rt ?_, fun y hy => ?_, by rw [List.length_map, List.length_range]; omega⟩
  · rw [g_L_log]
    simp (implicitDefEqProofs := false) [initE, mix_F, hr, st_signs]
    rw [compF_each (fun (i : Nat) => PyData.int (i : Int)) (fun k => .str (sg (logAt x k))) _ (fun k _ => ⟨_, rfl, by
      have e0 : mulOk 11 (k : Int) = true := by unfold mulOk; simp
      have := ixD_str_sg (l := sgn10) (logAt_ok x k).1 (by decide)
      unfold sgn10 at this
      simp (implicitDefEqProofs := false) [e0, mix_F, this]⟩)]
    simp (implicitDefEqProofs := false) [join_sgs (logAt x) (List.range (mixN x 9907 7)) (by rw [List.length_range]; omega)]
  · obtain ⟨k, _, rfl⟩ := List.mem_map.mp hy
    exact (logAt_ok x k).2
end GL

/-! # Plain laws: the logs near ways -/
namespace GL
open PySem PySem.Spec PyProof.Rows L2 TL
theorem Sgn.app {a b : List Nat} (h : Sgn a) (k : Sgn b) : Sgn (a ++ b) := fun x hx => by
  rcases List.mem_append.mp hx with hx | hx
  · exact h x hx
  · exact k x hx
theorem Sgn.take {a : List Nat} (h : Sgn a) (n : Nat) : Sgn (a.take n) := fun x hx => h x (List.mem_of_mem_take hx)
theorem Sgn.drop {a : List Nat} (h : Sgn a) (n : Nat) : Sgn (a.drop n) := fun x hx => h x (List.mem_of_mem_drop hx)
theorem sgn_one {x : Nat} (h : x ∈ [97, 98, 99, 63, 42]) : Sgn [x] := fun y hy => by simp at hy; subst hy; exact h
theorem mv_sgn {M : Mac} (g : M.Good) {m : Mv} (h : m ∈ M.mv) : m.c ∈ [97, 98, 99, 63, 42] := by
  have := (g.mv_ok m h).2.1
  simp
  omega
theorem near_body {M : Mac} (g : M.Good) (x : Int) (q k : Nat) {f : List Nat} (hf : Sgn f) (hl : f.length ≤ 1000) (e5 e6 e7 e8 : Option SV) : ∃ (q' : Nat) (f' : List Nat) (k5 k6 k7 : Option SV),
    b1_L_near_log [some (.dat (.int x)), some (.dat M.D), some (.dat (.int (q : Int))), some (.dat (.str (mkS f))), some (.dat (.int (k : Int))), e5, e6, e7, e8] =
      .nx [some (.dat (.int x)), some (.dat M.D), some (.dat (.int (q' : Int))), some (.dat (.str (mkS f'))), some (.dat (.int (k : Int))), k5, k6, k7, e8] ∧ Sgn f' ∧ f'.length ≤ f.length + 1 := by
  have hc : ∀ e : Option SV, compF (Tgt.one 6) (fB (fEq (fIx (fVar 6) (fC (PyData.int 0))) (fVar 2))) (fVar 6) [some (.dat (.int x)), some (.dat M.D), some (.dat (.int (q : Int))), some (.dat (.str (mkS f))), some (.dat (.int (k : Int))), e5, none, e, e8] (M.mv.map Mv.D) = .ok ((M.mv.filter fun m => decide (m.s = q)).map Mv.D) := fun e => by
    rw [compF_get Mv.D (fun m => decide (m.s = q)) Mv.D M.mv (fun m hm => ⟨_, rfl, by
      simp (implicitDefEqProofs := false) [mv_0]
      by_cases h : m.s = q
      · simp [h]
      · have h' : ¬ (m.s : Int) = (q : Int) := by omega
        simp [h, h'], fun _ => rfl⟩)]
  have e13 : mulOk 13 (k : Int) = true := by unfold mulOk; simp
  have e19 : mulOk 19 (k : Int) = true := by unfold mulOk; simp
  obtain ⟨ms, hs⟩ : ∃ ms, M.mv.filter (fun m => decide (m.s = q)) = ms := ⟨_, rfl⟩
  by_cases hz : ms = []
  · subst hz
    refine ⟨q, f, some (.dat (.list [])), e6, e7, ?_, hf, by omega⟩
    rw [b1_L_near_log]
    simp (implicitDefEqProofs := false) [mac_2, hc, hs]
  · have hpos : 0 < ms.length := by
      cases ms with
      | nil => exact absurd rfl hz
      | cons => simp
    have hE : ms.isEmpty = false := by
      cases ms with
      | nil => exact absurd rfl hz
      | cons => rfl
    have hlt : mixN (x + 13 * (k : Int)) 9887 (ms.length : Nat) < ms.length := mix_lt rfl hpos
    obtain ⟨m, hm⟩ : ∃ m, ms[mixN (x + 13 * (k : Int)) 9887 (ms.length : Nat)]? = some m := ⟨_, List.getElem?_eq_getElem hlt⟩
    have hmem : m ∈ M.mv := by
      have := List.mem_of_getElem? hm
      rw [← hs] at this
      exact (List.mem_filter.mp this).1
    have h5 : mixN (x + 19 * (k : Int)) 9883 5 < 5 := mix_lt rfl (by decide)
    obtain ⟨y, hy, hys⟩ : ∃ y, [m.c, m.c, 63, 42, m.c][mixN (x + 19 * (k : Int)) 9883 5]? = some y ∧ y ∈ [97, 98, 99, 63, 42] := by
      have := mv_sgn g hmem
      have h : mixN (x + 19 * (k : Int)) 9883 5 = 0 ∨ mixN (x + 19 * (k : Int)) 9883 5 = 1 ∨ mixN (x + 19 * (k : Int)) 9883 5 = 2 ∨ mixN (x + 19 * (k : Int)) 9883 5 = 3 ∨ mixN (x + 19 * (k : Int)) 9883 5 = 4 := by omega
      rcases h with h | h | h | h | h <;> rw [h]
      · exact ⟨_, rfl, this⟩
      · exact ⟨_, rfl, this⟩
      · exact ⟨_, rfl, by simp⟩
      · exact ⟨_, rfl, by simp⟩
      · exact ⟨_, rfl, this⟩
    have hix : atI (ms.map Mv.D) (mixN (x + 13 * (k : Int)) 9887 (ms.length : Nat) : Nat) = some m.D := by rw [atI_nat, List.getElem?_map, hm]; rfl
    have hiy : atI [PyData.str (sg m.c), .str (sg m.c), .str (sg 63), .str (sg 42), .str (sg m.c)] (mixN (x + 19 * (k : Int)) 9883 5 : Nat) = some (.str (sg y)) := by
      rw [atI_nat]
      have := congrArg (Option.map fun c => PyData.str (sg c)) hy
      rw [← List.getElem?_map] at this
      exact this
    refine ⟨m.t, f ++ [y], some (.dat (.list (ms.map Mv.D))), some (.dat m.D), some (.dat (.str (sg m.c))), ?_, hf.app (sgn_one hys), by simp⟩
    rw [b1_L_near_log]
    have hmix : F_L_mix [.int (x + 13 * (k : Int)), .int 9887, .int (ms.length : Nat)] = .ok (.int (mixN (x + 13 * (k : Int)) 9887 (ms.length : Nat) : Nat)) := mix_F' (k := ms.length) rfl (by decide) (by decide) hpos
    simp (implicitDefEqProofs := false) [mac_2, hc, hs, hE, e13, e19, hmix, hix, mv_1, mv_2, mix_F, hiy, addD_mg (show f.length + 1 ≤ 1000000 by omega)]
theorem near_F {M : Mac} (g : M.Good) (x : Int) : ∃ l, F_L_near_log [.int x, M.D] = .ok (.str (mkS l)) ∧ Sgn l ∧ l.length ≤ 6 := by
  have h9 := mix_lt (a := x) (p := 9901) (m := 9) (k := 9) rfl (by decide)
  have hr := rangeD_n (n := mixN x 9901 9) (by omega)
  obtain ⟨e', h1, q, f, e4, e5, e6, e7, h2, h3, rfl⟩ := forL_range (t := .one 4) (g := b1_L_near_log) (fun k env => ∃ (q : Nat) (f : List Nat) (e4 e5 e6 e7 : Option SV), Sgn f ∧ f.length ≤ k ∧ env = [some (.dat (.int x)), some (.dat M.D), some (.dat (.int (q : Int))), some (.dat (.str (mkS f))), e4, e5, e6, e7, none]) (mixN x 9901 9)
    [some (.dat (.int x)), some (.dat M.D), some (.dat (.int ((0 : Nat) : Int))), some (.dat (.str (mkS []))), none, none, none, none, none] (fun k hk env ⟨q, f, e4, e5, e6, e7, h2, h3, e⟩ => by
      subst e
      obtain ⟨q', f', k5, k6, k7, hb, h4, h5⟩ := near_body g x q k h2 (by omega) e5 e6 e7 none
      exact ⟨_, _, rfl, hb, q', f', _, k5, k6, k7, h4, by omega, rfl⟩) ⟨0, [], none, none, none, none, by simp [Sgn], by simp, rfl⟩
  obtain ⟨f2, hf2, hs2, hl2⟩ : ∃ f2, (StrLaws.replL [42, 42] [42] f).take 6 = f2 ∧ Sgn f2 ∧ f2.length ≤ 6 := by
    refine ⟨_, rfl, Sgn.take (fun y hy => ?_) 6, by rw [List.length_take]; omega⟩
    rcases mem_repl (by simp) f.length f (Nat.le_refl _) hy with hy | hy
    · exact h2 y hy
    · simp at hy; subst hy; simp
  have hrl : (StrLaws.replL [42, 42] [42] f).length ≤ f.length := repl_len (by decide) (by simp) f.length f (Nat.le_refl _)
  have hre : replS (mkS [42, 42]) (sg 42) (mkS f) = .ok (.str (mkS (StrLaws.replL [42, 42] [42] f))) := replD (z := [42]) (by decide) (by simp; omega)
  have hsl : slD (.str (mkS (StrLaws.replL [42, 42] [42] f))) none (some 6) = .ok (.str (mkS f2)) := by
    have := sl_to (l := StrLaws.replL [42, 42] [42] f) (by omega) 6
    rw [hf2] at this
    exact this
  have hne : neD (.str (mkS f2)) (.str (mkS [])) = .ok (.bool (!decide (f2 = []))) := neD_mk hs2.lt (by simp)
  have hw : ∃ o, g_L_near_log (initE 9 [.int x, M.D]) = o ∧ ∃ l, o = .rt (.str (mkS l)) ∧ Sgn l ∧ l.length ≤ 6 := by
    refine ⟨_, rfl, ?_⟩
    rw [g_L_near_log]
    simp (implicitDefEqProofs := false) [initE, mix_F, hr]
    rw [show (0 : Int) = ((0 : Nat) : Int) from rfl, h1]
    simp (implicitDefEqProofs := false) [st_2star, hre, hsl, hne, mix_F]
    by_cases hz : f2 = []
    · simp (implicitDefEqProofs := false) [hz]
      exact ⟨[], rfl, by simp [Sgn], by simp⟩
    · by_cases hm : mixN x 9871 4 = 0
      · have hpos : 0 < f2.length := by
          cases f2 with
          | nil => exact absurd rfl hz
          | cons => simp
        have hmx : F_L_mix [.int x, .int 9859, .int (f2.length : Nat)] = .ok (.int (mixN x 9859 (f2.length : Nat) : Nat)) := mix_F' (k := f2.length) rfl (by decide) (by decide) hpos
        have h3 : mixN x 9857 3 < 3 := mix_lt rfl (by decide)
        have hab := abc_at h3
        rw [st_abc] at hab
        have hlt : mixN x 9859 (f2.length : Nat) < f2.length := mix_lt rfl hpos
        have s1 := sl_to (l := f2) (by omega) (mixN x 9859 (f2.length : Nat))
        have s2 := sl_from (l := f2) (by omega) (mixN x 9859 (f2.length : Nat) + 1)
        simp only [Int.natCast_add, Int.cast_ofNat_Int] at s2
        simp (implicitDefEqProofs := false) [hz, hm, lenD_mk (show f2.length ≤ 1000000 by omega), hmx, mix_F, hab, s1, s2]
        rw [addD_mg (by rw [List.length_take]; omega), Res.bind_ok, addD_mk (by simp; omega)]
        refine ⟨_, rfl, Sgn.app (Sgn.app (hs2.take _) (sgn_one ?_)) (hs2.drop _), ?_⟩
        · simp; omega
        · simp; omega
      · simp (implicitDefEqProofs := false) [hz, hm]
        exact ⟨f2, rfl, hs2, hl2⟩
  obtain ⟨o, ho, l, rfl, h3, h4⟩ := hw
  exact ⟨l, runD_rt ho, h3, h4⟩
theorem any_F {M : Mac} (g : M.Good) (x : Int) : ∃ l, F_L_any_log [.int x, M.D] = .ok (.str (mkS l)) ∧ Sgn l ∧ l.length ≤ 6 := by
  obtain ⟨l1, h1, a1, b1⟩ := log_F x
  obtain ⟨l2, h2, a2, b2⟩ := near_F g (x + 1)
  by_cases h : mixN x 9851 3 = 0
  · refine ⟨l1, runD_rt ?_, a1, b1⟩
    rw [g_L_any_log]
    simp (implicitDefEqProofs := false) [initE, mix_F, h, h1]
  · refine ⟨l2, runD_rt ?_, a2, b2⟩
    rw [g_L_any_log]
    simp (implicitDefEqProofs := false) [initE, mix_F, h, h2]
end GL

namespace GL
open PySem PySem.Spec PyProof.Rows L2
def b1_with_stars : En → Out :=
  sSeq (sAsg (.one 4) (fAdd (fVar 4) (fC (.int 1)))) <|
  sApp 2 (fVar 4)
def b2_with_stars : En → Out :=
  sSeq (sAsg (.one 4) (fVar 3)) <|
  sSeq (sApp 2 (fVar 4)) <|
  whileN (fAndT (fB (fLt (fVar 4) (fCall lenD (fCons (fVar 0) fNil)))) (fB (fEq (fIx (fVar 0) (fVar 4)) (fC (.str "*"))))) b1_with_stars 100
def g_with_stars : En → Out :=
  sSeq (sOwn 2 (fDsp (fNil))) <|
  sSeq (sFor (.one 3) (fItems (fLst (fCQL sortSetQ (fQ (fVar 1))))) b2_with_stars) <|
  sRet (fCQ tupleQ (fQL (fCQL sortSetQ (fQV 2))))
def F_with_stars : List PyData → Res PyData := runD g_with_stars 5
def b1_next_places : En → Out :=
  sIf (fAndT (fB (fLt (fVar 4) (fCall lenD (fCons (fVar 0) fNil)))) (fB (fEq (fIx (fVar 0) (fVar 4)) (fC (.str "*"))))) (sApp 3 (fVar 4)) (sIf (fAndT (fB (fLt (fVar 4) (fCall lenD (fCons (fVar 0) fNil)))) (fB (fIn (fIx (fVar 0) (fVar 4)) (fTup (fCons (fC (.str "?")) (fCons (fVar 2) (fNil))))))) (sApp 3 (fAdd (fVar 4) (fC (.int 1)))) (sNext))
def g_next_places : En → Out :=
  sSeq (sOwn 3 (fDsp (fNil))) <|
  sSeq (sFor (.one 4) (fItems (fVar 1)) b1_next_places) <|
  sFrz 3 <|
  sRet (fCall F_with_stars (fCons (fVar 0) (fCons (fVar 3) (fNil))))
def F_next_places : List PyData → Res PyData := runD g_next_places 5
def b1_is_fitting : En → Out :=
  sAsg (.one 2) (fCall F_next_places (fCons (fVar 0) (fCons (fVar 2) (fCons (fVar 3) (fNil)))))
def g_is_fitting : En → Out :=
  sSeq (sAsg (.one 2) (fCall F_with_stars (fCons (fVar 0) (fCons (fLst (fDsp (fCons (fC (.int 0)) (fNil)))) (fNil))))) <|
  sSeq (sFor (.one 3) (fItems (fVar 1)) b1_is_fitting) <|
  sRet (fIn (fCall lenD (fCons (fVar 0) fNil)) (fVar 2))
def F_is_fitting : List PyData → Res PyData := runD g_is_fitting 4
def g_L_fits (rec : List PyData → Res PyData) : En → Out :=
  sSeq (sIf (fB (fEq (fVar 0) (fC (.str "")))) (sRet (fEq (fVar 1) (fC (.str "")))) (sNext)) <|
  sSeq (sIf (fB (fEq (fIx (fVar 0) (fC (.int 0))) (fC (.str "*")))) (sRet (fOr (fCall rec (fCons (fSl (fVar 0) (fOS (fC (.int 1))) (fON)) (fCons (fVar 1) (fNil)))) (fAnd (fNe (fVar 1) (fC (.str ""))) (fCall rec (fCons (fVar 0) (fCons (fSl (fVar 1) (fOS (fC (.int 1))) (fON)) (fNil))))))) (sNext)) <|
  sRet (fAnd (fNe (fVar 1) (fC (.str ""))) (fAnd (fIn (fIx (fVar 0) (fC (.int 0))) (fTup (fCons (fC (.str "?")) (fCons (fIx (fVar 1) (fC (.int 0))) (fNil))))) (fCall rec (fCons (fSl (fVar 0) (fOS (fC (.int 1))) (fON)) (fCons (fSl (fVar 1) (fOS (fC (.int 1))) (fON)) (fNil))))))
def F_L_fits : Nat → List PyData → Res PyData
  | 0 => fun _ => .no
  | n + 1 => runD (g_L_fits (F_L_fits n)) 2
def g_L_behind : En → Out :=
  sRet (fCQ tupleQ (fQL (fCQL sortSetQ (fQL (fComp [3] (.one 3) (fItems (fIx (fVar 0) (fC (.int 2)))) (fAndT (fB (fIn (fIx (fVar 3) (fC (.int 0))) (fVar 1))) (fB (fEq (fIx (fVar 3) (fC (.int 1))) (fVar 2)))) (fIx (fVar 3) (fC (.int 2))))))))
def F_L_behind : List PyData → Res PyData := runD g_L_behind 4
def b1_L_accepts : En → Out :=
  sAsg (.one 2) (fCall F_L_behind (fCons (fVar 0) (fCons (fVar 2) (fCons (fVar 3) (fNil)))))
def g_L_accepts : En → Out :=
  sSeq (sAsg (.one 2) (fTup (fCons (fC (.int 0)) (fNil)))) <|
  sSeq (sFor (.one 3) (fItems (fVar 1)) b1_L_accepts) <|
  sRet (fNe (fLst (fComp [4] (.one 4) (fItems (fVar 2)) (fB (fIn (fVar 4) (fIx (fVar 0) (fC (.int 1))))) (fVar 4))) (fLst (fDsp (fNil))))
def F_L_accepts : List PyData → Res PyData := runD g_L_accepts 5
end GL

namespace GL
open PySem PySem.Spec PyProof.Rows L2
def g_first_pairs : En → Out :=
  sRet (fCQ tupleQ (fQL (fComp [1] (.one 1) (fItems (fCall F_with_stars (fCons (fVar 0) (fCons (fLst (fDsp (fCons (fC (.int 0)) (fNil)))) (fNil))))) (pYes) (fTup (fCons (fVar 1) (fCons (fC (.int 0)) (fNil)))))))
def F_first_pairs : List PyData → Res PyData := runD g_first_pairs 2
def b1_next_pairs : En → Out :=
  sExt 4 (fComp [9] (.one 9) (fItems (fVar 7)) (pYes) (fTup (fCons (fVar 8) (fCons (fVar 9) (fNil)))))
def b2_next_pairs : En → Out :=
  sSeq (sAsg (.one 7) (fCall F_by_letters (fCons (fVar 0) (fCons (fTup (fCons (fVar 6) (fNil))) (fCons (fVar 3) (fNil)))))) <|
  sFor (.one 8) (fItems (fCall F_next_places (fCons (fVar 1) (fCons (fTup (fCons (fVar 5) (fNil))) (fCons (fVar 3) (fNil)))))) b1_next_pairs
def g_next_pairs : En → Out :=
  sSeq (sOwn 4 (fDsp (fNil))) <|
  sSeq (sFor (.many [5, 6]) (fItems (fVar 2)) b2_next_pairs) <|
  sRet (fCQ tupleQ (fQL (fCQL sortSetQ (fQV 4))))
def F_next_pairs : List PyData → Res PyData := runD g_next_pairs 10
def g_is_good : En → Out :=
  sRet (fCQ anyQ (fQL (fComp [3, 4] (.many [3, 4]) (fItems (fVar 2)) (pYes) (fAnd (fEq (fVar 3) (fCall lenD (fCons (fVar 1) fNil))) (fIn (fVar 4) (fIx (fVar 0) (fC (.int 1))))))))
def F_is_good : List PyData → Res PyData := runD g_is_good 5
def b1_word_or_none : En → Out :=
  sSeq (sAsg (.one 7) (fCall F_next_pairs (fCons (fVar 0) (fCons (fVar 1) (fCons (fVar 5) (fCons (fVar 6) (fNil))))))) <|
  sIf (fB (fNinK 3 (fVar 7))) (sSeq (sDput 3 (fVar 7) (fC (.bool true))) <|
  sApp 2 (fTup (fCons (fAdd (fVar 4) (fVar 6)) (fCons (fVar 7) (fNil))))) (sNext)
def b2_word_or_none : En → Out :=
  sSeq (sPop0 2 (.many [4, 5])) <|
  sSeq (sIf (fTru (fCall F_is_good (fCons (fVar 0) (fCons (fVar 1) (fCons (fVar 5) (fNil)))))) (sRet (fVar 4)) (sNext)) <|
  sFor (.one 6) (fItems (fC (.str "abc"))) b1_word_or_none
def g_word_or_none : En → Out :=
  sSeq (sOwn 2 (fDsp (fCons (fTup (fCons (fC (.str "")) (fCons (fCall F_first_pairs (fCons (fVar 1) (fNil))) (fNil)))) (fNil)))) <|
  sSeq (sDnew1 3 (fIx (fIxQ (fQV 2) (fC (.int 0))) (fC (.int 1))) (fC (.bool true))) <|
  sSeq (whileN (fTruQ (fQV 2)) b2_word_or_none 20000) <|
  sRet (fC .none)
def F_word_or_none : List PyData → Res PyData := runD g_word_or_none 8
def g_least_word : En → Out :=
  sSeq (sAsg (.one 2) (fCall F_word_or_none (fCons (fVar 0) (fCons (fVar 1) (fNil))))) <|
  sSeq (sIf (fB (fIs (fVar 2) (fC .none))) (sRaise "NoRun") (sNext)) <|
  sRet (fVar 2)
def F_least_word : List PyData → Res PyData := runD g_least_word 3

end GL

/-! # Plain laws: the program's places and pairs -/
namespace GL
open PySem PySem.Spec PyProof.Rows L2 TL
def wsL (l ps : List Nat) : List Nat := ups ((ups ps).flatMap (stF l l.length))
theorem mem_wsL {l ps : List Nat} {q : Nat} : q ∈ wsL l ps ↔ ∃ p ∈ ps, SR l p q := by
  unfold wsL
  rw [mem_ups, List.mem_flatMap]
  constructor
  · rintro ⟨p, hp, h⟩; exact ⟨p, mem_ups.mp hp, (mem_stF l.length p (by omega)).mp h⟩
  · rintro ⟨p, hp, h⟩; exact ⟨p, mem_ups.mpr hp, (mem_stF l.length p (by omega)).mpr h⟩
def np1 (l : List Nat) (c p : Nat) : List Nat := match l[p]? with
  | some y => if y = 42 then [p] else if y = 63 ∨ y = c then [p + 1] else []
  | none => []
def npL (l ps : List Nat) (c : Nat) : List Nat := wsL l (ps.flatMap (np1 l c))
theorem mem_np1 {l : List Nat} {c p p' : Nat} : p' ∈ np1 l c p ↔ Tr l c p p' := by
  unfold np1 Tr
  cases h : l[p]? with
  | none => simp
  | some y =>
    by_cases e : y = 42
    · simp [e]
    · by_cases e2 : y = 63 ∨ y = c
      · simp [e, e2]
      · simp [e, e2]
theorem mem_npL {l ps : List Nat} {c q : Nat} : q ∈ npL l ps c ↔ ∃ p ∈ ps, ∃ p', Tr l c p p' ∧ SR l p' q := by
  unfold npL
  rw [mem_wsL]
  simp only [List.mem_flatMap, mem_np1]
  constructor
  · rintro ⟨p', ⟨p, hp, h1⟩, h2⟩; exact ⟨p, hp, p', h1, h2⟩
  · rintro ⟨p, hp, p', h1, h2⟩; exact ⟨p', ⟨p, hp, h1⟩, h2⟩
theorem wsL_le {l ps : List Nat} (h : ∀ p ∈ ps, p ≤ l.length) : ∀ q ∈ wsL l ps, q ≤ l.length := fun q hq => by
  obtain ⟨p, hp, s⟩ := mem_wsL.mp hq
  exact sr_le s (h p hp)
theorem np1_le {l : List Nat} {c p p' : Nat} (h : p' ∈ np1 l c p) : p' ≤ l.length := by
  rcases mem_np1.mp h with ⟨e, rfl⟩ | ⟨_, e, rfl⟩
  · exact Nat.le_of_lt (List.getElem?_eq_some_iff.mp e).1
  · rcases e with e | e <;> exact (List.getElem?_eq_some_iff.mp e).1
theorem npL_le {l ps : List Nat} {c : Nat} : ∀ q ∈ npL l ps c, q ≤ l.length := wsL_le fun p hp => by
  obtain ⟨x, _, h⟩ := List.mem_flatMap.mp hp
  exact np1_le h
theorem stF_len (l : List Nat) : ∀ k p, (stF l k p).length ≤ k + 1
  | 0, p => by simp [stF]
  | k + 1, p => by
    rw [stF_succ]
    split
    · have := stF_len l k (p + 1)
      simp
      exact this
    · simp
/-- the inner loop -/
theorem ws_test {l : List Nat} (hl : ∀ x ∈ l, x < 128) (hn : l.length ≤ 1000000) (d : Option SV) (fs : Option SV) (e3 : Option SV) (p : Nat) :
    fAndT (fB (fLt (fVar 4) (fCall lenD (fCons (fVar 0) fNil)))) (fB (fEq (fIx (fVar 0) (fVar 4)) (fC (.str "*")))) [some (.dat (.str (mkS l))), d, fs, e3, some (.dat (.int (p : Int)))] = .ok (decide (l[p]? = some 42)) := by
  by_cases h : p < l.length
  · obtain ⟨x, e, hx, ei⟩ := star_at hl hn h
    have e2 : l[p] = x := (List.getElem?_eq_some_iff.mp e).2
    simp (implicitDefEqProofs := false) [lenD_mk hn, h, ei, eqD_sg hx, e2]
  · simp (implicitDefEqProofs := false) [lenD_mk hn, h]
theorem ws_while {l : List Nat} (hl : ∀ x ∈ l, x < 128) (hn : l.length ≤ 1000000) (d e3 : Option SV) : ∀ (k p n : Nat) (fs : List Nat), l.length ≤ p + k → k < n → fs.length + k < 10000 → ∃ p' : Nat,
    whileN (fAndT (fB (fLt (fVar 4) (fCall lenD (fCons (fVar 0) fNil)))) (fB (fEq (fIx (fVar 0) (fVar 4)) (fC (.str "*"))))) b1_with_stars n [some (.dat (.str (mkS l))), d, some (.own (fs.map intN)), e3, some (.dat (.int (p : Int)))] =
      .nx [some (.dat (.str (mkS l))), d, some (.own ((fs ++ (stF l k p).tail).map intN)), e3, some (.dat (.int (p' : Int)))]
  | k, p, 0, fs, _, h, _ => absurd h (Nat.not_lt_zero _)
  | 0, p, n + 1, fs, h, _, _ => by
    have e : l[p]? = none := List.getElem?_eq_none (by omega)
    refine ⟨p, ?_⟩
    rw [whileN_end (by rw [ws_test hl hn, e]; rfl)]
    simp [stF]
  | k + 1, p, n + 1, fs, h, hk, hs => by
    by_cases e : l[p]? = some 42
    · obtain ⟨p', ih⟩ := ws_while hl hn d e3 k (p + 1) n (fs ++ [p + 1]) (by omega) (by omega) (by simp; omega)
      refine ⟨p', ?_⟩
      have hb : b1_with_stars [some (.dat (.str (mkS l))), d, some (.own (fs.map intN)), e3, some (.dat (.int (p : Int)))] = .nx [some (.dat (.str (mkS l))), d, some (.own ((fs ++ [p + 1]).map intN)), e3, some (.dat (.int ((p + 1 : Nat) : Int)))] := by
        have hsz : fs.length < sizeLine := big' (by omega)
        rw [b1_with_stars]
        simp (implicitDefEqProofs := false) [hsz]
      rw [whileN_nx (by rw [ws_test hl hn, decide_eq_true e]) hb, ih, stF_succ, if_pos e]
      obtain ⟨r, hr⟩ := stF_head l k (p + 1)
      rw [hr]
      simp
    · refine ⟨p, ?_⟩
      rw [whileN_end (by rw [ws_test hl hn, decide_eq_false e]), stF_succ, if_neg e]
      simp
theorem ws_body {l : List Nat} (hl : ∀ x ∈ l, x < 128) (hn : l.length ≤ 90) (d e4 : Option SV) (p : Nat) (fs : List Nat) (hk : fs.length < 9000) : ∃ p' : Nat,
    b2_with_stars [some (.dat (.str (mkS l))), d, some (.own (fs.map intN)), some (.dat (.int (p : Int))), e4] =
      .nx [some (.dat (.str (mkS l))), d, some (.own ((fs ++ stF l l.length p).map intN)), some (.dat (.int (p : Int))), some (.dat (.int (p' : Int)))] := by
  obtain ⟨p', h⟩ := ws_while hl (by omega) d (some (.dat (.int (p : Int)))) l.length p 100 (fs ++ [p]) (by omega) (by omega) (by simp; omega)
  refine ⟨p', ?_⟩
  have hsz : fs.length < sizeLine := big' (by omega)
  rw [b2_with_stars]
  simp (implicitDefEqProofs := false) [hsz]
  rw [← st_star]
  rw [show fs.map intN ++ [PyData.int (p : Int)] = (fs ++ [p]).map intN by simp, h]
  obtain ⟨r, hr⟩ := stF_head l l.length p
  rw [hr]
  simp
theorem ws_F {l : List Nat} (hl : ∀ x ∈ l, x < 128) (hn : l.length ≤ 40) {d : PyData} {b : Bool} {ps : List Nat} (hd : asQ d = .ok (b, ps.map intN)) (hb : ∀ p ∈ ps, p ≤ l.length) (hp : ps.length < 4000) : F_with_stars [.str (mkS l), d] = .ok (tupN (wsL l ps)) := by
  have hu : ∀ p ∈ ups ps, p ≤ l.length := fun p h => hb p (mem_ups.mp h)
  have hul : (ups ps).length ≤ l.length + 1 := (up_ups ps).len fun x hx => by have := hu x hx; omega
  have hs1 := setQ_nat b (xs := ps) (fun x hx => by have := hb x hx; omega) hp
  have hlen : ∀ n, ((((ups ps).take n).flatMap (stF l l.length))).length ≤ n * (l.length + 1) := fun n => by
    have h1 := flat_len (f := stF l l.length) (k := l.length + 1) ((ups ps).take n) fun x _ => stF_len l _ x
    have h2 : ((ups ps).take n).length ≤ n := by rw [List.length_take]; omega
    exact Nat.le_trans h1 (Nat.mul_le_mul_right _ h2)
  obtain ⟨e', h1, e3, e4, rfl⟩ := forL_at intN (t := .one 3) (g := b2_with_stars) (fun n env => ∃ e3 e4 : Option SV, env = [some (.dat (.str (mkS l))), some (.dat d), some (.own ((((ups ps).take n).flatMap (stF l l.length)).map intN)), e3, e4]) (ups ps) 0 [some (.dat (.str (mkS l))), some (.dat d), some (.own []), none, none] (fun j x hx env ⟨e3, e4, e⟩ => by
    subst e
    have hj : j < (ups ps).length := (List.getElem?_eq_some_iff.mp hx).1
    have := hlen (0 + j)
    have hm : (0 + j) * (l.length + 1) ≤ 41 * 41 := Nat.mul_le_mul (by omega) (by omega)
    obtain ⟨p', h⟩ := ws_body hl (by omega) (some (.dat d)) e4 x _ (show (((ups ps).take (0 + j)).flatMap (stF l l.length)).length < 9000 by omega)
    have et : ((ups ps).take (0 + j)).flatMap (stF l l.length) ++ stF l l.length x = ((ups ps).take (0 + j + 1)).flatMap (stF l l.length) := by
      rw [List.take_add_one, show 0 + j = j by omega, hx]
      simp only [Option.toList, List.flatMap_append, List.flatMap_cons, List.flatMap_nil, List.append_nil]
    rw [et] at h
    exact ⟨_, _, rfl, h, _, _, rfl⟩) ⟨none, none, by simp⟩
  rw [Nat.zero_add, List.take_length] at h1
  have hfl : ((ups ps).flatMap (stF l l.length)).length < 4000 := by
    have h2 := flat_len (f := stF l l.length) (k := l.length + 1) (ups ps) fun x _ => stF_len l _ x
    have : (ups ps).length * (l.length + 1) ≤ 41 * 41 := Nat.mul_le_mul (by omega) (by omega)
    omega
  have hs2 := setQ_nat false (xs := (ups ps).flatMap (stF l l.length)) (fun x hx => by
    obtain ⟨p, hp, h⟩ := List.mem_flatMap.mp hx
    have := sr_le ((mem_stF l.length p (by omega)).mp h) (hu p hp)
    omega) hfl
  refine runD_rt ?_
  rw [g_with_stars]
  simp (implicitDefEqProofs := false) [initE, hd, hs1]
  rw [h1]
  simp (implicitDefEqProofs := false) [hs2, -List.map_flatMap]
  rfl
end GL

namespace GL
open PySem PySem.Spec PyProof.Rows L2 TL
theorem np1_len (l : List Nat) (c p : Nat) : (np1 l c p).length ≤ 1 := by
  unfold np1
  split
  · split
    · simp
    · split <;> simp
  · simp
theorem np_body {l : List Nat} (hl : ∀ x ∈ l, x < 128) (hn : l.length ≤ 40) (d : Option SV) {c : Nat} (hc : c < 128) (p : Nat) (fs : List Nat) (hk : fs.length < 9000) :
    b1_next_places [some (.dat (.str (mkS l))), d, some (.dat (.str (sg c))), some (.own (fs.map intN)), some (.dat (.int (p : Int)))] =
      .nx [some (.dat (.str (mkS l))), d, some (.dat (.str (sg c))), some (.own ((fs ++ np1 l c p).map intN)), some (.dat (.int (p : Int)))] := by
  have hL := lenD_mk (show l.length ≤ 1000000 by omega)
  have hsz : fs.length < sizeLine := big' (by omega)
  rw [b1_next_places]
  by_cases h : p < l.length
  · obtain ⟨y, e, hy, ei⟩ := star_at hl (by omega) h
    have hin : inD (.str (sg y)) (.tuple [.str (sg 63), .str (sg c)]) = .ok (.bool (decide (y ∈ [63, c]))) := inD_sgs (xs := [63, c]) hy (by simp; omega)
    unfold np1
    rw [e]
    by_cases h1 : y = 42
    · subst h1
      simp (implicitDefEqProofs := false) [hL, h, ei, eqD_sg, hsz]
    · by_cases h2 : y = 63 ∨ y = c
      · simp (implicitDefEqProofs := false) [hL, h, ei, eqD_sg hy, h1, hin, h2, hsz]
      · simp (implicitDefEqProofs := false) [hL, h, ei, eqD_sg hy, h1, hin, h2, hsz]
  · have e : np1 l c p = [] := by unfold np1; rw [List.getElem?_eq_none (by omega)]
    rw [e]
    simp (implicitDefEqProofs := false) [hL, h]
theorem np_F {l : List Nat} (hl : ∀ x ∈ l, x < 128) (hn : l.length ≤ 40) {c : Nat} (hc : c < 128) (ps : List Nat) (hp : ps.length < 1000) : F_next_places [.str (mkS l), tupN ps, .str (sg c)] = .ok (tupN (npL l ps c)) := by
  have hlen : ∀ n, ((ps.take n).flatMap (np1 l c)).length ≤ n := fun n => by
    have h1 := flat_len (f := np1 l c) (k := 1) (ps.take n) fun x _ => np1_len l c x
    have h2 : (ps.take n).length ≤ n := by rw [List.length_take]; omega
    omega
  obtain ⟨e', h1, e4, rfl⟩ := forL_at intN (t := .one 4) (g := b1_next_places) (fun n env => ∃ e4 : Option SV, env = [some (.dat (.str (mkS l))), some (.dat (tupN ps)), some (.dat (.str (sg c))), some (.own (((ps.take n).flatMap (np1 l c)).map intN)), e4]) ps 0 [some (.dat (.str (mkS l))), some (.dat (tupN ps)), some (.dat (.str (sg c))), some (.own []), none] (fun j x hx env ⟨e4, e⟩ => by
    subst e
    have hj : j < ps.length := (List.getElem?_eq_some_iff.mp hx).1
    have := hlen (0 + j)
    have h := np_body hl hn (some (.dat (tupN ps))) hc x ((ps.take (0 + j)).flatMap (np1 l c)) (by omega)
    have et : (ps.take (0 + j)).flatMap (np1 l c) ++ np1 l c x = (ps.take (0 + j + 1)).flatMap (np1 l c) := by
      rw [List.take_add_one, show 0 + j = j by omega, hx]
      simp only [Option.toList, List.flatMap_append, List.flatMap_cons, List.flatMap_nil, List.append_nil]
    rw [et] at h
    exact ⟨_, _, rfl, h, _, rfl⟩) ⟨none, by simp⟩
  rw [Nat.zero_add, List.take_length] at h1
  have hw := ws_F hl hn (d := .list ((ps.flatMap (np1 l c)).map intN)) (b := false) (ps := ps.flatMap (np1 l c)) rfl (fun p hp => by
    obtain ⟨x, _, h⟩ := List.mem_flatMap.mp hp
    exact np1_le h) (by have := flat_len (f := np1 l c) (k := 1) ps fun x _ => np1_len l c x; omega)
  refine runD_rt ?_
  rw [g_next_places]
  simp (implicitDefEqProofs := false) [initE, tupN]
  rw [show PyData.tuple (List.map intN ps) = tupN ps from rfl, h1]
  simp (implicitDefEqProofs := false) [hw, -List.map_flatMap]
  rfl
theorem first_F {l : List Nat} (hl : ∀ x ∈ l, x < 128) (hn : l.length ≤ 40) : F_first_pairs [.str (mkS l)] = .ok (tupP (openP l [(0, 0)])) := by
  have hw := ws_F hl hn (d := .list [.int 0]) (b := false) (ps := [0]) rfl (by simp) (by simp)
  have e : (wsL l [0]).map (fun p => (p, 0)) = openP l [(0, 0)] := by
    refine UpP.ext ?_ (up_upP _) fun ⟨q, t⟩ => ?_
    · have := up_ups ((ups [0]).flatMap (stF l l.length))
      refine List.pairwise_map.mpr (this.imp fun {a b} h => ?_)
      simp [ltQ, ltN] at h ⊢
      exact h
    · rw [mem_openP]
      simp only [List.mem_map, mem_wsL, Prod.mk.injEq, List.mem_singleton]
      constructor
      · rintro ⟨p, ⟨p0, rfl, s⟩, rfl, rfl⟩; exact ⟨0, ⟨rfl, rfl⟩, s⟩
      · rintro ⟨p, ⟨rfl, rfl⟩, s⟩; exact ⟨q, ⟨0, rfl, s⟩, rfl, rfl⟩
  refine runD_rt ?_
  rw [g_first_pairs]
  simp (implicitDefEqProofs := false) [initE, hw]
  unfold tupN
  simp (implicitDefEqProofs := false)
  rw [compF_each intN (fun p => pairQ (p, 0)) (wsL l [0]) (fun p _ => ⟨_, rfl, by simp⟩)]
  simp (implicitDefEqProofs := false)
  rw [← e]
  unfold tupP
  rw [List.map_map]
  rfl
theorem setQ_pairsB (b : Bool) {xs : List (Nat × Nat)} {l : List Nat} (hn : l.length ≤ 8) (hb : ∀ x ∈ xs, x.1 ≤ l.length ∧ x.2 < 4) : sortSetQ (b, xs.map pairQ) = .ok ((upP xs).map pairQ) := by
  cases xs with
  | nil => rfl
  | cons x0 r =>
    have e1 : (x0 :: r).map pairQ = ((x0 :: r).map fun x => ((x.1 : Int), (x.2 : Int))).map pairD := by rw [List.map_map]; rfl
    have e2 : sortB ltP ((x0 :: r).map fun x => ((x.1 : Int), (x.2 : Int))) = (upP (x0 :: r)).map fun x => ((x.1 : Int), (x.2 : Int)) := sortB_map (lt := ltQ) (lt' := ltP) (f := fun x : Nat × Nat => ((x.1 : Int), (x.2 : Int))) (fun a b => by
      show decide _ = decide _
      rw [decide_eq_decide]
      simp only
      omega) (x0 :: r)
    have hl : (upP (x0 :: r)).length ≤ (l.length + 1) * 4 := by
      have := nd_le (m := (List.range (l.length + 1)).flatMap fun p => (List.range 4).map fun q => (p, q)) (up_nodup linQ (up_upP (x0 :: r))) fun ⟨p, q⟩ hz => by
        obtain ⟨h1, h2⟩ := hb _ (mem_upP.mp hz)
        simp only [List.mem_flatMap, List.mem_map, List.mem_range, Prod.mk.injEq]
        exact ⟨p, by simp at h1; omega, q, h2, rfl, rfl⟩
      rw [len_flat (k := 4) _ fun P _ => by simp, List.length_range] at this
      exact this
    unfold sortSetQ
    rw [show (b, (x0 :: r).map pairQ).2 = (x0 :: r).map pairQ from rfl, e1]
    have e3 : intsOf (((x0 :: r).map fun x => ((x.1 : Int), (x.2 : Int))).map pairD) = none := rfl
    rw [e3]
    simp only [pairsOf_map, e2]
    rw [if_pos ⟨by rw [List.length_map]; omega, by
      rw [List.all_eq_true]
      intro z hz
      obtain ⟨x, hx, rfl⟩ := List.mem_map.mp hz
      obtain ⟨h1, h2⟩ := hb x hx
      unfold smallP
      simp
      omega⟩, List.map_map]
    rfl
theorem setQ_pairs {xs : List (Nat × Nat)} {l : List Nat} (hn : l.length ≤ 8) (hb : ∀ x ∈ xs, x.1 ≤ l.length ∧ x.2 < 4) : sortSetQ (false, xs.map pairQ) = .ok ((upP xs).map pairQ) := setQ_pairsB false hn hb
def pb1 (M : Mac) (l : List Nat) (c : Nat) (x : Nat × Nat) : List (Nat × Nat) := (npL l [x.1] c).flatMap fun p => (stp M [x.2] [c]).map fun t => (p, t)
theorem pb_inner {M : Mac} (d0 d1 d2 d3 e5 e6 e9 : Option SV) (gs : List Nat) (hg : gs.length ≤ 4) (ns : List Nat) : ∀ (fs : List (Nat × Nat)) (e8 e9 : Option SV), fs.length + ns.length * 4 < 100000 → ∃ k8 k9,
    forL (.one 8) b1_next_pairs (ns.map intN) [d0, d1, d2, d3, some (.own (fs.map pairQ)), e5, e6, some (.dat (tupN gs)), e8, e9] =
      .nx [d0, d1, d2, d3, some (.own ((fs ++ ns.flatMap fun p => gs.map fun t => (p, t)).map pairQ)), e5, e6, some (.dat (tupN gs)), k8, k9] := by
  induction ns with
  | nil => intro fs e8 e9 _; exact ⟨e8, e9, by simp [forL_nil]⟩
  | cons p ns ih =>
    intro fs e8 e9 hf
    have hb : b1_next_pairs [d0, d1, d2, d3, some (.own (fs.map pairQ)), e5, e6, some (.dat (tupN gs)), some (.dat (.int (p : Int))), e9] = .nx [d0, d1, d2, d3, some (.own ((fs ++ gs.map fun t => (p, t)).map pairQ)), e5, e6, some (.dat (tupN gs)), some (.dat (.int (p : Int))), e9] := by
      rw [b1_next_pairs]
      simp (implicitDefEqProofs := false) only [sExt_e, fComp_e, fItems_e, fVar_e]
      unfold tupN
      simp (implicitDefEqProofs := false)
      rw [compF_each intN (fun t => pairQ (p, t)) gs (fun t _ => ⟨_, rfl, by simp⟩)]
      have hle : fs.length + gs.length ≤ sizeLine := big (by simp at hf; omega)
      simp (implicitDefEqProofs := false) [hle]
    obtain ⟨k8, k9, h⟩ := ih (fs ++ gs.map fun t => (p, t)) (some (.dat (.int (p : Int)))) e9 (by simp at hf ⊢; omega)
    refine ⟨k8, k9, ?_⟩
    rw [List.map_cons, forL_cons rfl hb, h]
    simp
theorem stp_len {M : Mac} (g : M.Good) (S ls : List Nat) : (stp M S ls).length ≤ 4 := Nat.le_trans ((up_ups _).len fun x hx => stp_lt g hx) g.n4
theorem npL_len (l ps : List Nat) (c : Nat) : (npL l ps c).length ≤ l.length + 1 := (up_ups _).len fun x hx => by have := npL_le (l := l) (ps := ps) (c := c) x hx; omega
theorem pb1_len {M : Mac} (g : M.Good) (l : List Nat) (c : Nat) (x : Nat × Nat) : (pb1 M l c x).length ≤ (l.length + 1) * 4 := by
  unfold pb1
  have h1 := flat_len (f := fun p => (stp M [x.2] [c]).map fun t => (p, t)) (k := 4) (npL l [x.1] c) fun p _ => by rw [List.length_map]; exact stp_len g _ _
  exact Nat.le_trans h1 (Nat.mul_le_mul_right _ (npL_len l [x.1] c))
theorem pb_outer {M : Mac} (g : M.Good) {l : List Nat} (hl : ∀ x ∈ l, x < 128) (hn : l.length ≤ 8) {c : Nat} (hc : c < 128) (d2 : Option SV) (x : Nat × Nat) (fs : List (Nat × Nat)) (hf : fs.length < 90000) (e7 e8 e9 : Option SV) : ∃ k7 k8 k9,
    b2_next_pairs [some (.dat M.D), some (.dat (.str (mkS l))), d2, some (.dat (.str (sg c))), some (.own (fs.map pairQ)), some (.dat (.int (x.1 : Int))), some (.dat (.int (x.2 : Int))), e7, e8, e9] =
      .nx [some (.dat M.D), some (.dat (.str (mkS l))), d2, some (.dat (.str (sg c))), some (.own ((fs ++ pb1 M l c x).map pairQ)), some (.dat (.int (x.1 : Int))), some (.dat (.int (x.2 : Int))), k7, k8, k9] := by
  have h1 : F_by_letters [M.D, .tuple [.int (x.2 : Int)], .str (sg c)] = .ok (tupN (stp M [x.2] [c])) := letters_F g [x.2] [c]
  have h2 : F_next_places [.str (mkS l), .tuple [.int (x.1 : Int)], .str (sg c)] = .ok (tupN (npL l [x.1] c)) := np_F hl (by omega) hc [x.1] (by simp)
  have hlen := npL_len l [x.1] c
  obtain ⟨k8, k9, h⟩ := pb_inner (M := M) (some (.dat M.D)) (some (.dat (.str (mkS l)))) d2 (some (.dat (.str (sg c)))) (some (.dat (.int (x.1 : Int)))) (some (.dat (.int (x.2 : Int)))) none (stp M [x.2] [c]) (stp_len g _ _) (npL l [x.1] c) fs e8 e9 (by omega)
  refine ⟨some (.dat (tupN (stp M [x.2] [c]))), k8, k9, ?_⟩
  rw [b2_next_pairs]
  simp (implicitDefEqProofs := false) [h1, h2]
  unfold tupN at h ⊢
  simp (implicitDefEqProofs := false)
  rw [h]
  unfold pb1
  simp
theorem pairs_F {M : Mac} (g : M.Good) {l : List Nat} (hl : ∀ x ∈ l, x < 128) (hn : l.length ≤ 8) {c : Nat} (hc : c ∈ abc) {ps : List (Nat × Nat)} (hp : ps.length ≤ 1000) : F_next_pairs [M.D, .str (mkS l), tupP ps, .str (sg c)] = .ok (tupP (nextP M l ps c)) := by
  have hc' : c < 128 ∧ c ≠ 42 := by unfold abc at hc; simp at hc; omega
  have hlen : ∀ n, ((ps.take n).flatMap (pb1 M l c)).length ≤ n * 36 := fun n => by
    have h1 := flat_len (f := pb1 M l c) (k := 36) (ps.take n) fun x _ => by
      have := pb1_len g l c x
      omega
    have h2 : (ps.take n).length ≤ n := by rw [List.length_take]; omega
    exact Nat.le_trans h1 (Nat.mul_le_mul_right _ h2)
  obtain ⟨e', h1, e5, e6, e7, e8, e9, rfl⟩ := forL_at pairQ (t := .many [5, 6]) (g := b2_next_pairs) (fun n env => ∃ e5 e6 e7 e8 e9 : Option SV, env = [some (.dat M.D), some (.dat (.str (mkS l))), some (.dat (tupP ps)), some (.dat (.str (sg c))), some (.own (((ps.take n).flatMap (pb1 M l c)).map pairQ)), e5, e6, e7, e8, e9]) ps 0 [some (.dat M.D), some (.dat (.str (mkS l))), some (.dat (tupP ps)), some (.dat (.str (sg c))), some (.own []), none, none, none, none, none] (fun j x hx env ⟨e5, e6, e7, e8, e9, e⟩ => by
    subst e
    have hj : j < ps.length := (List.getElem?_eq_some_iff.mp hx).1
    have := hlen (0 + j)
    obtain ⟨k7, k8, k9, h⟩ := pb_outer g hl hn hc'.1 (some (.dat (tupP ps))) x ((ps.take (0 + j)).flatMap (pb1 M l c)) (by omega) e7 e8 e9
    have et : (ps.take (0 + j)).flatMap (pb1 M l c) ++ pb1 M l c x = (ps.take (0 + j + 1)).flatMap (pb1 M l c) := by
      rw [List.take_add_one, show 0 + j = j by omega, hx]
      simp only [Option.toList, List.flatMap_append, List.flatMap_cons, List.flatMap_nil, List.append_nil]
    rw [et] at h
    exact ⟨_, _, rfl, h, _, _, _, _, _, rfl⟩) ⟨none, none, none, none, none, by simp⟩
  rw [Nat.zero_add, List.take_length] at h1
  have hs := setQ_pairs (xs := ps.flatMap (pb1 M l c)) hn fun ⟨q, t⟩ hx => by
    obtain ⟨x, _, h⟩ := List.mem_flatMap.mp hx
    obtain ⟨p, hp, h⟩ := List.mem_flatMap.mp h
    obtain ⟨t', ht, e⟩ := List.mem_map.mp h
    cases e
    have := stp_lt g ht
    have := g.n4
    exact ⟨npL_le q hp, by show t < 4; omega⟩
  have e : upP (ps.flatMap (pb1 M l c)) = nextP M l ps c := UpP.ext (up_upP _) (up_upP _) fun ⟨q, t⟩ => by
    rw [mem_upP, mem_nextP hc'.2]
    unfold pb1
    simp only [List.mem_flatMap, List.mem_map, mem_npL, mem_stp, List.mem_singleton, Prod.mk.injEq]
    constructor
    · rintro ⟨⟨p, s⟩, hx, q', ⟨p0, e0, p', h1, h2⟩, t', ⟨m, hm, h3, h4, h5⟩, rfl, rfl⟩
      have e0 : p0 = p := e0
      rw [e0] at h1
      exact ⟨p, s, p', hx, h1, h2, m, hm, h3, h4, h5⟩
    · rintro ⟨p, s, p', hx, h1, h2, m, hm, h3, h4, h5⟩
      exact ⟨(p, s), hx, q, ⟨p, rfl, p', h1, h2⟩, t, ⟨m, hm, h3, h4, h5⟩, rfl, rfl⟩
  refine runD_rt ?_
  rw [g_next_pairs]
  simp (implicitDefEqProofs := false) [initE, tupP]
  rw [show PyData.tuple (List.map pairQ ps) = tupP ps from rfl, h1]
  simp (implicitDefEqProofs := false) [hs, e]
theorem good_F {M : Mac} {l : List Nat} (hn : l.length ≤ 1000000) (ps : List (Nat × Nat)) : F_is_good [M.D, .str (mkS l), tupP ps] = .ok (.bool (goodP M l ps)) := by
  refine runD_rt ?_
  rw [g_is_good]
  simp (implicitDefEqProofs := false) [initE, tupP]
  rw [compF_each pairQ (fun x => .bool (decide (x.1 = l.length) && decide (x.2 ∈ M.ends))) ps (fun x _ => ⟨_, rfl, by
    simp (implicitDefEqProofs := false) [lenD_mk hn, mac_1, inD_end]
    by_cases h1 : x.1 = l.length
    · simp (implicitDefEqProofs := false) [h1]
    · have h1' : ¬ (x.1 : Int) = (l.length : Int) := by omega
      simp (implicitDefEqProofs := false) [h1, h1']⟩)]
  simp (implicitDefEqProofs := false) [anyQ_map]
  rfl
end GL

namespace GL
open PySem PySem.Spec PyProof.Rows L2 TL
theorem won_kid {M : Mac} (g : M.Good) {l : List Nat} (hl : ∀ x ∈ l, x < 128) (hn : l.length ≤ 8) (i : List Nat × List (Nat × Nat)) (hi1 : i.1.length < 100000) (hi2 : i.2.length ≤ 1000) (lg : List (List Nat × List (Nat × Nat))) (sn : List (List (Nat × Nat)))
    (h1 : lg.length < 100000) (h2 : sn.length < 100000) {c : Nat} (hc : c ∈ abc) (e7 : Option SV) :
    b1_word_or_none [some (.dat M.D), some (.dat (.str (mkS l))), some (.own (lg.map rowD)), some (.dct (truK keyT sn)), some (.dat (.str (mkS i.1))), some (.dat (tupP i.2)), some (.dat (.str (sg c))), e7] =
      .nx [some (.dat M.D), some (.dat (.str (mkS l))), some (.own ((kidF (nextP M l) i (lg, sn) c).1.map rowD)), some (.dct (truK keyT (kidF (nextP M l) i (lg, sn) c).2)), some (.dat (.str (mkS i.1))), some (.dat (tupP i.2)), some (.dat (.str (sg c))), some (.dat (tupP (nextP M l i.2 c)))] := by
  rw [b1_word_or_none]
  simp (implicitDefEqProofs := false) [pairs_F g hl hn hc hi2, keyQ_tupP, truK_has (fun _ _ => keyT_inj)]
  unfold kidF
  by_cases h : nextP M l i.2 c ∈ sn
  · simp (implicitDefEqProofs := false) [h]
  · have el : (truK keyT sn).length < sizeLine := by rw [truK_len]; exact big' (by omega)
    have el2 : lg.length < sizeLine := big' (by omega)
    simp (implicitDefEqProofs := false) [h, keyQ_tupP, el, truK_put (fun _ _ => keyT_inj), addD_mg (show i.1.length + 1 ≤ 1000000 by omega), el2]
    unfold insK
    rw [if_neg h]
theorem won_kids {M : Mac} (g : M.Good) {l : List Nat} (hl : ∀ x ∈ l, x < 128) (hn : l.length ≤ 8) (i : List Nat × List (Nat × Nat)) (hi1 : i.1.length < 100000) (hi2 : i.2.length ≤ 1000) (lg : List (List Nat × List (Nat × Nat))) (sn : List (List (Nat × Nat)))
    (h1 : lg.length < 90000) (h2 : sn.length < 90000) (hg : goodP M l i.2 = false) (e4 e5 e6 e7 : Option SV) : ∃ f6 f7,
    b2_word_or_none [some (.dat M.D), some (.dat (.str (mkS l))), some (.own ((i :: lg).map rowD)), some (.dct (truK keyT sn)), e4, e5, e6, e7] =
      .nx [some (.dat M.D), some (.dat (.str (mkS l))), some (.own ((abc.foldl (kidF (nextP M l) i) (lg, sn)).1.map rowD)), some (.dct (truK keyT (abc.foldl (kidF (nextP M l) i) (lg, sn)).2)), some (.dat (.str (mkS i.1))), some (.dat (tupP i.2)), f6, f7] := by
  refine ⟨some (.dat (.str (sg 99))), some (.dat (tupP (nextP M l i.2 99))), ?_⟩
  rw [b2_word_or_none]
  simp (implicitDefEqProofs := false) [good_F (show l.length ≤ 1000000 by omega), hg, items_abc]
  have k1 := kidF_l (δ := nextP M l) (i := i) (s := (lg, sn)) (c := 97)
  have k2 := kidF_l (δ := nextP M l) (i := i) (s := ((kidF (nextP M l) i (lg, sn) 97).1, (kidF (nextP M l) i (lg, sn) 97).2)) (c := 98)
  simp only at k1 k2
  rw [forL_cons rfl (won_kid g hl hn i hi1 hi2 lg sn (by omega) (by omega) (c := 97) (by decide) e7), forL_cons rfl (won_kid g hl hn i hi1 hi2 _ _ (by omega) (by omega) (c := 98) (by decide) _), forL_cons rfl (won_kid g hl hn i hi1 hi2 _ _ (by omega) (by omega) (c := 99) (by decide) _), forL_nil]
  rfl
theorem won_hit {M : Mac} {l : List Nat} (hn : l.length ≤ 8) (d3 : Option SV) (i : List Nat × List (Nat × Nat)) (lg : List (List Nat × List (Nat × Nat))) (hg : goodP M l i.2 = true) (e4 e5 e6 e7 : Option SV) :
    b2_word_or_none [some (.dat M.D), some (.dat (.str (mkS l))), some (.own ((i :: lg).map rowD)), d3, e4, e5, e6, e7] = .rt (.str (mkS i.1)) := by
  rw [b2_word_or_none]
  simp (implicitDefEqProofs := false) [good_F (show l.length ≤ 1000000 by omega), hg]
theorem won_while {M : Mac} (g : M.Good) {l : List Nat} (hl : ∀ x ∈ l, x < 128) (hn : l.length ≤ 8) : ∀ (n : Nat) (qu ex : List (List Nat × List (Nat × Nat))) (sn : List (List (Nat × Nat))), LI M l 0 ex qu sn → 8200 < n + ex.length → ∀ e4 e5 e6 e7 : Option SV,
    (∃ w, whileN (fTruQ (fQV 2)) b2_word_or_none n [some (.dat M.D), some (.dat (.str (mkS l))), some (.own (qu.map rowD)), some (.dct (truK keyT sn)), e4, e5, e6, e7] = .rt (.str (mkS w)) ∧ Least (Wd M l) (some w)) ∨
    (∃ e, whileN (fTruQ (fQV 2)) b2_word_or_none n [some (.dat M.D), some (.dat (.str (mkS l))), some (.own (qu.map rowD)), some (.dct (truK keyT sn)), e4, e5, e6, e7] = .nx e ∧ Least (Wd M l) none)
  | 0, qu, ex, sn, h, hm, e4, e5, e6, e7 => by
    have := h.len
    have := h.size g hn
    omega
  | n + 1, [], ex, sn, h, hm, e4, e5, e6, e7 => .inr ⟨_, whileN_end (by simp), least_iff (wd_good g) h.b.done⟩
  | n + 1, i :: qu, ex, sn, h, hm, e4, e5, e6, e7 => by
    have hp : (fTruQ (fQV 2)) [some (.dat M.D), some (.dat (.str (mkS l))), some (.own ((i :: qu).map rowD)), some (.dct (truK keyT sn)), e4, e5, e6, e7] = .ok true := by simp
    obtain ⟨r1, r2⟩ := h.row g hn (i := i) (by simp)
    have hs := h.size g hn
    have hlen := h.len
    simp at hlen
    cases hg : goodP M l i.2 with
    | true => exact .inl ⟨i.1, whileN_rt hp (won_hit hn _ i qu hg e4 e5 e6 e7), least_iff (wd_good g) (h.b.found hg)⟩
    | false =>
      obtain ⟨f6, f7, hb⟩ := won_kids g hl hn i (by omega) (by omega) qu sn (by omega) (by omega) hg e4 e5 e6 e7
      rw [whileN_nx hp hb]
      exact won_while g hl hn n _ _ _ (h.next g hg) (by simp; omega) _ _ f6 f7
theorem LI.start0 {M : Mac} (g : M.Good) (l : List Nat) : LI M l 0 [] [([], openP l [(0, 0)])] [openP l [(0, 0)]] := by
  refine ⟨bfs_start [openP l [(0, 0)]] (by simp), by simp, fun t ht => ?_, by simp, by simp⟩
  simp at ht
  subst ht
  exact prs_all (w := []) g (by simp)
theorem won_F {M : Mac} (g : M.Good) {l : List Nat} (hl : ∀ x ∈ l, x < 128) (hn : l.length ≤ 8) : ∃ r, F_word_or_none [M.D, .str (mkS l)] = .ok (optW r) ∧ Least (Wd M l) r := by
  have ho := first_F hl (by omega)
  have es : ∀ e4 e5 e6 e7 : Option SV, [some (SV.dat M.D), some (SV.dat (PyData.str (mkS l))), some (SV.own [PyData.tuple [PyData.str (mkS []), tupP (openP l [(0, 0)])]]), some (SV.dct (putD [] (keyT (openP l [(0, 0)])) (.bool true))), e4, e5, e6, e7] = [some (.dat M.D), some (.dat (.str (mkS l))), some (.own ([([], openP l [(0, 0)])].map rowD)), some (.dct (truK keyT [openP l [(0, 0)]])), e4, e5, e6, e7] := fun _ _ _ _ => rfl
  rcases won_while g hl hn 20000 _ _ _ (LI.start0 g l) (by simp) none none none none with ⟨w, h1, h2⟩ | ⟨e, h1, h2⟩
  · refine ⟨some w, runD_rt ?_, h2⟩
    rw [g_word_or_none]
    simp (implicitDefEqProofs := false) [initE, ho, at0, at1, keyQ_tupP]
    rw [es, h1]
    rfl
  · refine ⟨none, runD_rt ?_, h2⟩
    rw [g_word_or_none]
    simp (implicitDefEqProofs := false) [initE, ho, at0, at1, keyQ_tupP]
    rw [es, h1]
    simp (implicitDefEqProofs := false)
    rfl
theorem isNone_optW (r : Option (List Nat)) : isD (optW r) .none = .ok (.bool r.isNone) := by cases r <;> rfl
/-- least_word -/
theorem lw_F {M : Mac} (g : M.Good) {l : List Nat} (hl : ∀ x ∈ l, x < 128) (hn : l.length ≤ 8) : ∃ r, Least (Wd M l) r ∧ F_least_word [M.D, .str (mkS l)] = (match r with
    | some w => .ok (.str (mkS w))
    | none => .ex "NoRun") := by
  obtain ⟨r, h1, h2⟩ := won_F g hl hn
  refine ⟨r, h2, ?_⟩
  cases r with
  | some w =>
    refine runD_rt ?_
    rw [g_least_word]
    simp (implicitDefEqProofs := false) [initE, h1, isNone_optW]
    rfl
  | none =>
    refine runD_ex (e := [some (.dat M.D), some (.dat (.str (mkS l))), some (.dat .none)]) ?_
    rw [g_least_word]
    simp (implicitDefEqProofs := false) [initE, h1, isNone_optW]
    rfl
/-! ### the least word as a function -/
def wonGo (M : Mac) (l : List Nat) : Nat → List (List Nat × List (Nat × Nat)) → List (List (Nat × Nat)) → Option (List Nat)
  | 0, _, _ => none
  | _ + 1, [], _ => none
  | n + 1, i :: qu, sn => if goodP M l i.2 then some i.1 else wonGo M l n (abc.foldl (kidF (nextP M l) i) (qu, sn)).1 (abc.foldl (kidF (nextP M l) i) (qu, sn)).2
def wonL (M : Mac) (l : List Nat) : Option (List Nat) := wonGo M l 20000 [([], openP l [(0, 0)])] [openP l [(0, 0)]]
theorem wonGo_ok {M : Mac} (g : M.Good) {l : List Nat} (hn : l.length ≤ 8) : ∀ (n : Nat) (qu ex : List (List Nat × List (Nat × Nat))) (sn : List (List (Nat × Nat))), LI M l 0 ex qu sn → 8200 < n + ex.length → Least (Wd M l) (wonGo M l n qu sn)
  | 0, qu, ex, sn, h, hm => by
    have := h.len
    have := h.size g hn
    omega
  | n + 1, [], ex, sn, h, hm => least_iff (wd_good g) h.b.done
  | n + 1, i :: qu, ex, sn, h, hm => by
    unfold wonGo
    cases hg : goodP M l i.2 with
    | true =>
      rw [if_pos rfl]
      exact least_iff (wd_good g) (h.b.found hg)
    | false =>
      rw [if_neg Bool.false_ne_true]
      exact wonGo_ok g hn n _ _ _ (h.next g hg) (by simp; omega)
theorem wonL_ok {M : Mac} (g : M.Good) {l : List Nat} (hn : l.length ≤ 8) : Least (Wd M l) (wonL M l) := wonGo_ok g hn 20000 _ [] _ (LI.start0 g l) (by simp)
theorem won_E {M : Mac} (g : M.Good) {l : List Nat} (hl : ∀ x ∈ l, x < 128) (hn : l.length ≤ 8) : F_word_or_none [M.D, .str (mkS l)] = .ok (optW (wonL M l)) := by
  obtain ⟨r, h1, h2⟩ := won_F g hl hn
  rw [h1, least_unique h2 (wonL_ok g hn)]
theorem least_E {M : Mac} (g : M.Good) {l : List Nat} (hl : ∀ x ∈ l, x < 128) (hn : l.length ≤ 8) : F_L_least [M.D, .str (mkS l)] = .ok (optW (wonL M l)) := by
  obtain ⟨r, h1, h2⟩ := least_F g hl hn
  rw [h1, least_unique h2 (wonL_ok g hn)]
theorem lw_E {M : Mac} (g : M.Good) {l : List Nat} (hl : ∀ x ∈ l, x < 128) (hn : l.length ≤ 8) : F_least_word [M.D, .str (mkS l)] = (match wonL M l with
    | some w => .ok (.str (mkS w))
    | none => .ex "NoRun") := by
  obtain ⟨r, h1, h2⟩ := lw_F g hl hn
  rw [h2, least_unique h1 (wonL_ok g hn)]
theorem wd_abc {M : Mac} (g : M.Good) {l w : List Nat} (h : Wd M l w) : ∀ c ∈ w, c ∈ abc := by
  obtain ⟨_, t, h2, _⟩ := h
  exact h2.abc g
theorem wonL_abc {M : Mac} (g : M.Good) {l w : List Nat} (hn : l.length ≤ 8) (h : wonL M l = some w) : ∀ c ∈ w, c ∈ abc := by
  have := wonL_ok g hn
  rw [h] at this
  exact wd_abc g this.1
theorem wonL_none {M : Mac} (g : M.Good) {l : List Nat} (hn : l.length ≤ 8) : (wonL M l).isNone = !couldB M l := by
  have h := wonL_ok g hn
  cases hc : couldB M l with
  | true =>
    cases hw : wonL M l with
    | none =>
      rw [hw] at h
      obtain ⟨w, hw'⟩ := could_wd.mp ((couldB_iff g).mp hc)
      exact absurd hw' (h w)
    | some w => rfl
  | false =>
    cases hw : wonL M l with
    | none => rfl
    | some w =>
      rw [hw] at h
      have : Could M l := could_wd.mpr ⟨w, h.1⟩
      rw [(couldB_iff g).mpr this] at hc
      cases hc
/-- how long the least word is at most -/
theorem wonGo_len {M : Mac} (g : M.Good) {l : List Nat} (hn : l.length ≤ 8) : ∀ (n : Nat) (qu ex : List (List Nat × List (Nat × Nat))) (sn : List (List (Nat × Nat))), LI M l 0 ex qu sn → ∀ w, wonGo M l n qu sn = some w → w.length ≤ 8192
  | 0, qu, ex, sn, h, w, e => by cases e
  | n + 1, [], ex, sn, h, w, e => by cases e
  | n + 1, i :: qu, ex, sn, h, w, e => by
    unfold wonGo at e
    cases hg : goodP M l i.2 with
    | true =>
      rw [hg, if_pos rfl] at e
      cases e
      exact (h.row g hn (i := i) (by simp)).1
    | false =>
      rw [hg, if_neg Bool.false_ne_true] at e
      exact wonGo_len g hn n _ _ _ (h.next g hg) w e
theorem wonL_len {M : Mac} (g : M.Good) {l w : List Nat} (hn : l.length ≤ 8) (h : wonL M l = some w) : w.length ≤ 8192 := wonGo_len g hn 20000 _ [] _ (LI.start0 g l) w h
end GL

/-! # Plain laws: small things that several laws want -/
namespace GL
open PySem PySem.Spec PyProof.Rows L2 TL
theorem st_norun : (Str.ofString "no run") = mkS [110, 111, 32, 114, 117, 110] := ext_tl (by rw [tl_ofString]; rfl)
theorem wd3_norun : wd3 "NoRun" = some "no run" := by simp [wd3]
theorem abc_lt {w : List Nat} (h : ∀ c ∈ w, c ∈ abc) : ∀ c ∈ w, c < 128 := fun c hc => by
  have := h c hc
  unfold abc at this
  simp at this
  omega
theorem mulOk_nat (c : Int) (k : Nat) (hc : -(2 ^ 64) < c ∧ c < 2 ^ 64) : mulOk c (k : Int) = true := by
  unfold mulOk
  rw [Bool.or_eq_true]
  left
  exact decide_eq_true hc
theorem ne_bool (a b : Bool) : neD (.bool a) (.bool b) = .ok (.bool (a != b)) := by cases a <;> cases b <;> rfl
theorem eq_bool (a b : Bool) : eqD (.bool a) (.bool b) = .ok (.bool (a == b)) := by cases a <;> cases b <;> rfl
theorem cell_mod (ns : List Int) (k : Nat) : F_L_cell [.list (ns.map .int), .int ((k : Int) % 9)] = .ok (.int (cellN ns (k % 9))) := by
  rw [show (k : Int) % 9 = ((k % 9 : Nat) : Int) by omega]
  exact cell_F ns (k % 9)
theorem plain_norun : plainD 6 (.str (mkS [110, 111, 32, 114, 117, 110])) = true := strOk_mk (by decide)
end GL

/-! # A watch goes back -/
namespace GL
open PySem PySem.Spec PyProof.Rows L2 TL
theorem wd3_nosign : wd3 "NoSign" = some "no sign" := by decide +kernel
def W_L_back : PyData → Str → List PyData → List PyData → WRes := fun m t rows ds => if PyData.strOk t = true ∧ t.length ≤ 1000000 then (if t = "" then .ok (.str "no sign") m t rows else if rows = [] then .no else .ok .none m (cutS t none (some (-1))) rows.dropLast) else .no
theorem run_W_L_back : RunsW g_L_back 2 0 W_L_back := by
  intro l m t rows ds hl
  match ds, hl with
  | [], _ =>
    unfold W_L_back
    by_cases hc : PyData.strOk t = true ∧ t.length ≤ 1000000
    · rw [if_pos hc]
      by_cases ht : t = ""
      · rw [if_pos ht]
        left
        have hb : W_back m t rows [] = .ex "NoSign" m t rows := by
          unfold W_back
          rw [if_pos hc, if_pos ht]
        refine ⟨[none], ?_⟩
        rw [g_L_back, sTryX_e]
        have : sXret (xW 0 W_back fNil) (some (SV.wat (some l) m t rows) :: initE (2 - 1) []) = .ex "NoSign" [some (.wat (some l) m t rows), none] := by
          simp (implicitDefEqProofs := false) [initE, hb]
        rw [this]
        exact tryX_ex wd3_nosign (by show 1 < 2; decide)
      · rw [if_neg ht]
        by_cases hr : rows = []
        · rw [if_pos hr]; trivial
        · rw [if_neg hr]
          left
          have hb : W_back m t rows [] = .ok .none m (cutS t none (some (-1))) rows.dropLast := by
            unfold W_back
            rw [if_pos hc, if_neg ht, if_neg hr]
          refine ⟨[none], ?_⟩
          rw [g_L_back]
          simp (implicitDefEqProofs := false) [initE, hb]
    · rw [if_neg hc]; trivial
end GL

namespace GL
open PySem PySem.Spec PyProof.Rows L2
def g_L_lives : En → Out :=
  sSeq (sAsg (.one 2) (fC .none)) <|
  sSeq (sIf (fB (fEq (fCall F_L_mix (fCons (fVar 1) (fCons (fC (.int 9769)) (fCons (fC (.int 4)) (fNil))))) (fC (.int 0)))) (sXset 2 (xM 0 W_L_back (fNil))) (sXdrop (xM 0 W_add (fCons (fIx (fC (.str "abc?*")) (fCall F_L_mix (fCons (fVar 1) (fCons (fC (.int 9767)) (fCons (fC (.int 5)) (fNil)))))) (fNil))))) <|
  sRetW (fTup (fCons (fVar 2) (fCons (fWread 0 R_log) (fCons (fWread 0 R_now) (fCons (fWread 0 R_end) (fNil))))))
end GL

namespace GL
open PySem PySem.Spec PyProof.Rows L2
def g_turned : En → Out :=
  sRet (fTup (fCons (fIx (fVar 0) (fC (.int 0))) (fCons (fIx (fVar 0) (fC (.int 1))) (fCons (fCQ tupleQ (fQL (fComp [1, 2, 3] (.many [1, 2, 3]) (fItems (fIx (fVar 0) (fC (.int 2)))) (pYes) (fTup (fCons (fVar 3) (fCons (fVar 2) (fCons (fVar 1) (fNil)))))))) (fNil)))))
def F_turned : List PyData → Res PyData := runD g_turned 4
def b1_rows_along : En → Out :=
  sApp 3 (fCall F_by_sign (fCons (fVar 0) (fCons (fIxQ (fQV 3) (fC (.int (-1)))) (fCons (fVar 4) (fNil)))))
def g_rows_along : En → Out :=
  sSeq (sOwn 3 (fDsp (fCons (fVar 1) (fNil)))) <|
  sSeq (sFor (.one 4) (fItems (fVar 2)) b1_rows_along) <|
  sRetO 3
def F_rows_along : List PyData → Res (List PyData) := runL g_rows_along 5
def g_both_ways : En → Out :=
  sSeq (sIf (fNotT (fTru (fCall F_could (fCons (fVar 0) (fCons (fVar 1) (fNil)))))) (sRaise "NoRun") (sNext)) <|
  sSeq (sAsg (.one 2) (fLst (fCallL F_rows_along (fCons (fVar 0) (fCons (fTup (fCons (fC (.int 0)) (fNil))) (fCons (fVar 1) (fNil))))))) <|
  sSeq (sAsg (.one 3) (fLst (fRevL (fQL (fCallL F_rows_along (fCons (fCall F_turned (fCons (fVar 0) (fNil))) (fCons (fIx (fVar 0) (fC (.int 1))) (fCons (fRevS (fVar 1)) (fNil))))))))) <|
  sRet (fTup (fCons (fVar 2) (fCons (fVar 3) (fNil))))
def F_both_ways : List PyData → Res PyData := runD g_both_ways 4
def g_is_sure : En → Out :=
  sSeq (sDrop (fCall F_both_ways (fCons (fVar 0) (fCons (fVar 1) (fNil))))) <|
  sSeq (sAsg (.one 3) (fTup (fCons (fIx (fVar 0) (fC (.int 0))) (fCons (fIx (fVar 0) (fC (.int 1))) (fCons (fCQ tupleQ (fQL (fComp [4] (.one 4) (fItems (fIx (fVar 0) (fC (.int 2)))) (fB (fNe (fIx (fVar 4) (fC (.int 1))) (fVar 2))) (fVar 4)))) (fNil)))))) <|
  sRet (fNot (fCall F_could (fCons (fVar 3) (fCons (fVar 1) (fNil)))))
def F_is_sure : List PyData → Res PyData := runD g_is_sure 5
end GL

/-! # Plain laws: rows of states from both sides -/
namespace GL
open PySem PySem.Spec PyProof.Rows L2 TL
def Mv.turn (m : Mv) : Mv := ⟨m.t, m.c, m.s⟩
def turnM (M : Mac) : Mac := ⟨M.n, M.ends, M.mv.map Mv.turn⟩
theorem turn_good {M : Mac} (g : M.Good) : (turnM M).Good := by
  refine ⟨g.n1, g.n4, g.ends_lt, g.ends_len, fun m hm => ?_, by show (M.mv.map Mv.turn).length ≤ 12; rw [List.length_map]; exact g.mv_len⟩
  obtain ⟨m', hm', rfl⟩ := List.mem_map.mp hm
  have := g.mv_ok m' hm'
  exact ⟨this.2.2, this.2.1, this.1⟩
theorem mac_D (M : Mac) : M.D = .tuple [.int M.n, tupN M.ends, .tuple (M.mv.map Mv.D)] := rfl
theorem turned_F (M : Mac) : F_turned [M.D] = .ok (turnM M).D := by
  refine runD_rt ?_
  rw [g_turned]
  simp (implicitDefEqProofs := false) [initE, mac_0, mac_1, mac_2]
  rw [compF_each Mv.D (fun m => (Mv.turn m).D) M.mv (fun m _ => ⟨_, rfl, by simp; rfl⟩)]
  simp (implicitDefEqProofs := false)
  rw [mac_D]
  simp [turnM]
def rowsL (M : Mac) (S l : List Nat) : List (List Nat) := (List.range (l.length + 1)).map fun k => bsA M S (l.take k)
theorem rows_len (M : Mac) (S l : List Nat) : (rowsL M S l).length = l.length + 1 := by unfold rowsL; rw [List.length_map, List.length_range]
theorem bsA_snoc (M : Mac) (S l : List Nat) (x : Nat) : bsA M S (l ++ [x]) = bsL M (bsA M S l) x := by unfold bsA; rw [List.foldl_append]; rfl
theorem bsA_lt {M : Mac} (g : M.Good) : ∀ {l S : List Nat}, (∀ q ∈ S, q < M.n) → ∀ q ∈ bsA M S l, q < M.n
  | [], S, h => h
  | x :: l, S, h => bsA_lt g (l := l) (bsL_lt g h)
theorem bsA_len {M : Mac} (g : M.Good) {l S : List Nat} (h : ∀ q ∈ S, q < M.n) (hS : S.length < 100) : (bsA M S l).length < 100 := by
  rcases List.eq_nil_or_concat l with rfl | ⟨l', x, rfl⟩
  · exact hS
  · rw [List.concat_eq_append, bsA_snoc]
    have h1 := bsA_lt g (l := l') h
    have := up_len g (bsL_lt g h1) (bsL_up g h1 x)
    omega
theorem range_last (n : Nat) {α : Type} (f : Nat → α) : (List.range (n + 1)).map f = (List.range n).map f ++ [f n] := by rw [List.range_succ, List.map_append]; rfl
theorem rows_F {M : Mac} (g : M.Good) {S l : List Nat} (hS : ∀ q ∈ S, q < M.n) (hSl : S.length < 100) (hl : ∀ x ∈ l, x < 128) (hn : l.length ≤ 1000) : F_rows_along [M.D, tupN S, .str (mkS l)] = .ok ((rowsL M S l).map tupN) := by
  obtain ⟨e', h1, e4, rfl⟩ := forL_at (fun c => PyData.str (sg c)) (t := .one 4) (g := b1_rows_along) (fun n env => ∃ e4 : Option SV, env = [some (.dat M.D), some (.dat (tupN S)), some (.dat (.str (mkS l))), some (.own (((List.range (n + 1)).map fun k => bsA M S (l.take k)).map tupN)), e4]) l 0 [some (.dat M.D), some (.dat (tupN S)), some (.dat (.str (mkS l))), some (.own [tupN S]), none] (fun j x hx env ⟨e4, e⟩ => by
    subst e
    have hj : j < l.length := (List.getElem?_eq_some_iff.mp hx).1
    have hxl : x < 128 := hl x (List.mem_of_getElem? hx)
    have h2 := bsA_lt g (l := l.take (0 + j)) hS
    have h3 := bsA_len g (l := l.take (0 + j)) hS hSl
    have hb := by_sign_F g h2 h3 hxl
    have et : bsL M (bsA M S (l.take (0 + j))) x = bsA M S (l.take (0 + j + 1)) := by
      rw [List.take_add_one, show 0 + j = j by omega, hx]
      exact (bsA_snoc M S (l.take j) x).symm
    rw [et] at hb
    have hsz : ((List.range (0 + j + 1)).map fun k => bsA M S (l.take k)).length < sizeLine := big' (by rw [List.length_map, List.length_range]; omega)
    have hlast : atI (((List.range (0 + j + 1)).map fun k => bsA M S (l.take k)).map tupN) (-1) = some (tupN (bsA M S (l.take (0 + j)))) := by
      rw [range_last, List.map_append]
      exact atI_last _ _
    refine ⟨_, _, rfl, ?_, some (.dat (.str (sg x))), rfl⟩
    rw [range_last (0 + j + 1), b1_rows_along]
    generalize ((List.range (0 + j + 1)).map fun k => bsA M S (l.take k)) = fs at hsz hlast ⊢
    generalize bsA M S (l.take (0 + j + 1)) = B at hb ⊢
    generalize bsA M S (l.take (0 + j)) = A at hb hlast
    simp (implicitDefEqProofs := false) [hlast, hb, hsz]) ⟨none, by simp [bsA]⟩
  rw [Nat.zero_add] at h1
  refine runL_rl ?_
  rw [g_rows_along]
  simp (implicitDefEqProofs := false) [initE, items_mk (show l.length ≤ 1000000 by omega)]
  rw [h1]
  simp (implicitDefEqProofs := false) [-List.map_map]
  rfl
theorem revS_mk (l : List Nat) : revS (mkS l) = mkS l.reverse := rfl
theorem revD_mk {l : List Nat} (h : l.length ≤ 1000000) : revD (.str (mkS l)) = .ok (.str (mkS l.reverse)) := by
  show (if (mkS l).length ≤ sizeLine then Res.ok (PyData.str (revS (mkS l))) else .no) = _
  rw [if_pos (by rw [mkS_len]; exact big h), revS_mk]
def backL (M : Mac) (l : List Nat) : List (List Nat) := (rowsL (turnM M) M.ends l.reverse).reverse
theorem ends_len {M : Mac} (g : M.Good) : M.ends.length < 100 := by have := g.ends_len; omega
theorem both_F {M : Mac} (g : M.Good) {l : List Nat} (hl : ∀ x ∈ l, x < 128) (hn : l.length ≤ 1000) : F_both_ways [M.D, .str (mkS l)] = if couldB M l then .ok (.tuple [.list ((rowsL M [0] l).map tupN), .list ((backL M l).map tupN)]) else .ex "NoRun" := by
  have hc := could_F g hl (show l.length ≤ 1000000 by omega)
  have h1 := rows_F g (zero_lt g) (by simp) hl hn
  have h2 := rows_F (turn_good g) (S := M.ends) (l := l.reverse) g.ends_lt (ends_len g) (fun x hx => hl x (List.mem_reverse.mp hx)) (by rw [List.length_reverse]; exact hn)
  have h1' : F_rows_along [M.D, .tuple [.int 0], .str (mkS l)] = .ok ((rowsL M [0] l).map tupN) := h1
  cases hcb : couldB M l with
  | true =>
    rw [if_pos rfl]
    refine runD_rt ?_
    rw [g_both_ways]
    simp (implicitDefEqProofs := false) [initE, hc, hcb, h1', turned_F, mac_1, revD_mk (show l.length ≤ 1000000 by omega), h2, backL]
  | false =>
    rw [if_neg Bool.false_ne_true]
    refine runD_ex (e := [some (.dat M.D), some (.dat (.str (mkS l))), none, none]) ?_
    rw [g_both_ways]
    simp (implicitDefEqProofs := false) [initE, hc, hcb]
def lessM (M : Mac) (c : Nat) : Mac := ⟨M.n, M.ends, M.mv.filter fun m => !decide (m.c = c)⟩
theorem less_good {M : Mac} (g : M.Good) (c : Nat) : (lessM M c).Good :=
  ⟨g.n1, g.n4, g.ends_lt, g.ends_len, fun m hm => g.mv_ok m (List.mem_filter.mp hm).1, Nat.le_trans (List.length_filter_le _ _) g.mv_len⟩
theorem sure_F {M : Mac} (g : M.Good) {l : List Nat} (hl : ∀ x ∈ l, x < 128) (hn : l.length ≤ 1000) {c : Nat} (hc : c < 128) : F_is_sure [M.D, .str (mkS l), .str (sg c)] = if couldB M l then .ok (.bool (!couldB (lessM M c) l)) else .ex "NoRun" := by
  have hb := both_F g hl hn
  have h2 := could_F (less_good g c) hl (show l.length ≤ 1000000 by omega)
  have eD : PyData.tuple [.int M.n, tupN M.ends, .tuple ((M.mv.filter fun m => !decide (m.c = c)).map Mv.D)] = (lessM M c).D := rfl
  cases hcb : couldB M l with
  | true =>
    rw [hcb, if_pos rfl] at hb
    rw [if_pos rfl]
    refine runD_rt ?_
    rw [g_is_sure]
    simp (implicitDefEqProofs := false) [initE, hb, mac_0, mac_1, mac_2]
    rw [compF_get Mv.D (fun m => !decide (m.c = c)) Mv.D M.mv (fun m hm => ⟨_, rfl, by simp (implicitDefEqProofs := false) [mv_1, neD_sg (mv_c g hm) hc], fun _ => rfl⟩)]
    simp (implicitDefEqProofs := false) [eD, h2]
  | false =>
    rw [hcb, if_neg Bool.false_ne_true] at hb
    rw [if_neg Bool.false_ne_true]
    refine runD_ex (e := [some (.dat M.D), some (.dat (.str (mkS l))), some (.dat (.str (sg c))), none, none]) ?_
    rw [g_is_sure]
    simp (implicitDefEqProofs := false) [initE, hb]
end GL

namespace GL
open PySem PySem.Spec PyProof.Rows L2
def g_L_odd (rec : List PyData → Res PyData) : En → Out :=
  sSeq (sIf (fAndT (fTru (fIsi .tuple (fVar 0))) (fAndT (fB (fNe (fVar 0) (fTup (fNil)))) (fB (fGt (fCall F_L_mix (fCons (fVar 1) (fCons (fC (.int 9781)) (fCons (fC (.int 5)) (fNil))))) (fC (.int 0)))))) (sSeq (sAsg (.one 2) (fCall F_L_mix (fCons (fVar 1) (fCons (fC (.int 9769)) (fCons (fCall lenD (fCons (fVar 0) fNil)) (fNil)))))) <|
  sRet (fAdd (fAdd (fSl (fVar 0) (fON) (fOS (fVar 2))) (fTup (fCons (fCall rec (fCons (fIx (fVar 0) (fVar 2)) (fCons (fAdd (fAdd (fVar 1) (fMul (fC (.int 31)) (fVar 2))) (fC (.int 7))) (fNil)))) (fNil)))) (fSl (fVar 0) (fOS (fAdd (fVar 2) (fC (.int 1)))) (fON)))) (sNext)) <|
  sSeq (sAsg (.one 3) (fLst (fDsp (fCons (fC .none) (fCons (fC (.bool true)) (fCons (fC (.bool false)) (fCons (fC (.int 0)) (fCons (fC (.int 1)) (fCons (fC (.int (-1))) (fCons (fC (.int 2)) (fCons (fC (.int 7)) (fCons (fC (.int 10)) (fCons (fC (.int 1000)) (fCons (fC (.str "")) (fCons (fC (.str "a")) (fCons (fC (.str "A")) (fCons (fTup (fNil)) (fCons (fTup (fCons (fC (.str "a")) (fNil))) (fCons (fLst (fDsp (fCons (fC (.int 1)) (fNil)))) (fNil)))))))))))))))))))) <|
  sSeq (sIf (fTru (fIsi .tuple (fVar 0))) (sAsg (.one 3) (fLst (fCat (fQ (fVar 3)) (fQL (fRepL (fDsp (fCons (fLst (fCQL listQ (fQ (fVar 0)))) (fCons (fAdd (fVar 0) (fSl (fVar 0) (fOS (fC (.int (-1)))) (fON))) (fCons (fSl (fVar 0) (fON) (fOS (fC (.int (-1))))) (fCons (fRevT (fVar 0)) (fCons (fSl (fVar 0) (fOS (fC (.int 1))) (fON)) (fCons (fTup (fCons (fVar 0) (fNil))) (fNil)))))))) (fC (.int 2))))))) (sIf (fTru (fIsi .str (fVar 0))) (sAsg (.one 3) (fLst (fCat (fQ (fVar 3)) (fQL (fRepL (fDsp (fCons (fAdd (fVar 0) (fC (.str "a"))) (fCons (fSl (fVar 0) (fON) (fOS (fC (.int (-1))))) (fCons (fS1 upperS (fVar 0)) (fCons (fAdd (fVar 0) (fC (.str " "))) (fCons (fMulX (fVar 0) (fC (.int 2))) (fCons (fLst (fDsp (fCons (fVar 0) (fNil)))) (fCons (fAdd (fVar 0) (fSl (fVar 0) (fON) (fOS (fC (.int 1))))) (fNil))))))))) (fC (.int 2))))))) (sIf (fTru (fIsi .int (fVar 0))) (sAsg (.one 3) (fLst (fCat (fQ (fVar 3)) (fQL (fRepL (fDsp (fCons (fAdd (fVar 0) (fC (.int 1))) (fCons (fSub (fVar 0) (fC (.int 1))) (fCons (fSub (fC (.int 0)) (fVar 0)) (fCons (fTup (fCons (fVar 0) (fNil))) (fCons (fAdd (fVar 0) (fC (.int 2))) (fCons (fMulX (fVar 0) (fC (.int 2))) (fNil)))))))) (fC (.int 2))))))) (sNext)))) <|
  sRet (fIx (fVar 3) (fCall F_L_mix (fCons (fVar 1) (fCons (fC (.int 9749)) (fCons (fCall lenD (fCons (fVar 3) fNil)) (fNil))))))
def F_L_odd : Nat → List PyData → Res PyData
  | 0 => fun _ => .no
  | n + 1 => runD (g_L_odd (F_L_odd n)) 4
end GL

/-! # Plain laws: odd things -/
namespace GL
open PySem PySem.Spec PyProof.Rows L2 TL
/-- things that are drawn: numbers, texts, tuples of such -/
inductive Bse (B : Nat) : Nat → PyData → Prop
  | int {n : Nat} (i : Int) : Bse B (n + 1) (.int i)
  | str {n : Nat} {l : List Nat} (h : ∀ c ∈ l, c < 128) (hl : l.length ≤ B) : Bse B (n + 1) (.str (mkS l))
  | tup {n : Nat} {ds : List PyData} (hl : ds.length ≤ B) (h : ∀ d ∈ ds, Bse B n d) : Bse B (n + 1) (.tuple ds)
theorem Bse.up {B : Nat} : ∀ {n : Nat} {d : PyData}, Bse B n d → Bse B (n + 1) d
  | _, _, .int i => .int i
  | _, _, .str h hl => .str h hl
  | _, _, .tup hl h => .tup hl fun d hd => (h d hd).up
theorem Bse.le {B n : Nat} {d : PyData} (h : Bse B n d) : ∀ k, Bse B (n + k) d
  | 0 => h
  | k + 1 => (h.le k).up
/-- things of bounded size -/
def wel (b : Nat) : Nat → PyData → Bool
  | 0, _ => false
  | n + 1, .tuple ds => decide (ds.length ≤ b) && ds.all (wel b n)
  | n + 1, .list ds => decide (ds.length ≤ b) && ds.all (wel b n)
  | _ + 1, .str x => PyData.strOk x && decide (x.length ≤ b)
  | _ + 1, .dict _ => false
  | _ + 1, .int _ => true
  | _ + 1, .bool _ => true
  | _ + 1, .none => true
mutual
theorem wel_up {b : Nat} : ∀ {n : Nat} {d : PyData}, wel b n d = true → wel b (n + 1) d = true
  | 0, _, h => by cases h
  | n + 1, .tuple ds, h => by
    rw [wel, Bool.and_eq_true] at h ⊢
    exact ⟨h.1, wel_ups h.2⟩
  | n + 1, .list ds, h => by
    rw [wel, Bool.and_eq_true] at h ⊢
    exact ⟨h.1, wel_ups h.2⟩
  | n + 1, .str x, h => h
  | n + 1, .dict _, h => h
  | n + 1, .int _, h => h
  | n + 1, .bool _, h => h
  | n + 1, .none, h => h
theorem wel_ups {b : Nat} : ∀ {n : Nat} {ds : List PyData}, ds.all (wel b n) = true → ds.all (wel b (n + 1)) = true
  | n, [], _ => rfl
  | n, d :: ds, h => by
    rw [List.all_cons, Bool.and_eq_true] at h ⊢
    exact ⟨wel_up h.1, wel_ups h.2⟩
end
mutual
theorem wel_lay {b : Nat} : ∀ {n : Nat} {d : PyData}, wel b n d = true → PyData.canLay0 d = true ∧ d.depth ≤ n
  | 0, _, h => by cases h
  | n + 1, .tuple ds, h => by
    rw [wel, Bool.and_eq_true] at h
    obtain ⟨h1, h2⟩ := wel_lays h.2
    rw [PyData.canLay0, PyData.depth]
    exact ⟨h1, by omega⟩
  | n + 1, .list ds, h => by
    rw [wel, Bool.and_eq_true] at h
    obtain ⟨h1, h2⟩ := wel_lays h.2
    rw [PyData.canLay0, PyData.depth]
    exact ⟨h1, by omega⟩
  | n + 1, .str x, h => by
    rw [wel, Bool.and_eq_true] at h
    rw [PyData.canLay0, PyData.depth]
    exact ⟨h.1, Nat.zero_le _⟩
  | n + 1, .dict _, h => by cases h
  | n + 1, .int _, h => ⟨by rw [PyData.canLay0], by rw [PyData.depth]; omega⟩
  | n + 1, .bool _, h => ⟨by rw [PyData.canLay0], by rw [PyData.depth]; omega⟩
  | n + 1, .none, h => ⟨by rw [PyData.canLay0], by rw [PyData.depth]; omega⟩
theorem wel_lays {b : Nat} : ∀ {n : Nat} {ds : List PyData}, ds.all (wel b n) = true → PyData.canLayAll0 ds = true ∧ PyData.depthAll ds ≤ n
  | n, [], _ => ⟨by rw [PyData.canLayAll0], by rw [PyData.depthAll]; omega⟩
  | n, d :: ds, h => by
    rw [List.all_cons, Bool.and_eq_true] at h
    obtain ⟨h1, h2⟩ := wel_lay h.1
    obtain ⟨h3, h4⟩ := wel_lays h.2
    rw [PyData.canLayAll0, PyData.depthAll, h1, h3]
    exact ⟨rfl, by omega⟩
end
theorem wel_shaped {b n : Nat} {d : PyData} (h : wel b n d = true) (hn : n ≤ 60) : SeqAt.shaped d = true := by
  obtain ⟨h1, h2⟩ := wel_lay h
  unfold SeqAt.shaped
  rw [h1, Bool.true_and]
  exact decide_eq_true (by omega)
theorem bse_wel {B b : Nat} (hb : B ≤ b) : ∀ {n : Nat} {d : PyData}, Bse B n d → wel b n d = true
  | _, _, .int i => rfl
  | _, _, .str h hl => by
    rw [wel, Bool.and_eq_true]
    exact ⟨strOk_mk h, decide_eq_true (by rw [mkS_len]; omega)⟩
  | _, _, .tup hl h => by
    rw [wel, Bool.and_eq_true]
    exact ⟨decide_eq_true (by omega), List.all_eq_true.mpr fun d hd => bse_wel hb (h d hd)⟩
theorem wel_mem {b n : Nat} {ds : List PyData} (h : ds.all (wel b n) = true) {d : PyData} (hd : d ∈ ds) : wel b n d = true := List.all_eq_true.mp h d hd
theorem wel_tup {b n : Nat} {ds : List PyData} (hl : ds.length ≤ b) (h : ∀ d ∈ ds, wel b n d = true) : wel b (n + 1) (.tuple ds) = true := by
  rw [wel, Bool.and_eq_true]
  exact ⟨decide_eq_true hl, List.all_eq_true.mpr h⟩
theorem wel_lst {b n : Nat} {ds : List PyData} (hl : ds.length ≤ b) (h : ∀ d ∈ ds, wel b n d = true) : wel b (n + 1) (.list ds) = true := by
  rw [wel, Bool.and_eq_true]
  exact ⟨decide_eq_true hl, List.all_eq_true.mpr h⟩
theorem wel_str {b n : Nat} {l : List Nat} (h : ∀ c ∈ l, c < 128) (hl : l.length ≤ b) : wel b (n + 1) (.str (mkS l)) = true := by
  rw [wel, Bool.and_eq_true]
  exact ⟨strOk_mk h, decide_eq_true (by rw [mkS_len]; omega)⟩
/-! ### texts -/
theorem upper_mk : ∀ l : List Nat, (∀ c ∈ l, c < 128) → Txt.upper (mkS l) = mkS (l.map fun c => if 97 ≤ c ∧ c ≤ 122 then c - 32 else c)
  | [], _ => by rfl
  | c :: l, h => by
    have e : mkS (c :: l) = (⟨#[c]⟩ : Str) ++ mkS l := ext_tl (by rw [tl_append]; rfl)
    rw [e, PySem.W.KOpn.upper_app, PySem.W.KOpn.upper_one (h c List.mem_cons_self), upper_mk l fun d hd => h d (List.mem_cons_of_mem _ hd)]
    exact ext_tl (by rw [tl_append]; rfl)
theorem fold_rep (l : List Nat) : ∀ (k : Nat) (acc : List Nat), List.foldl (fun x1 x2 => x1 ++ x2) acc.toArray (List.replicate k l.toArray) = (acc ++ (List.replicate k l).flatten).toArray
  | 0, acc => by simp
  | k + 1, acc => by
    have e : acc.toArray ++ l.toArray = (acc ++ l).toArray := by simp
    rw [List.replicate_succ, List.foldl_cons, e, fold_rep l k (acc ++ l), List.replicate_succ, List.flatten_cons, List.append_assoc]
theorem mul_mk (l : List Nat) (k : Nat) : Txt.mul (mkS l) (k : Int) = mkS (List.replicate k l).flatten := by
  unfold Txt.mul
  by_cases h1 : k < 1
  · have : k = 0 := by omega
    subst this
    rw [if_pos (by decide)]
    rfl
  · rw [if_neg (by omega)]
    split
    · rename_i h
      rw [Bool.or_eq_true] at h
      rcases h with h | h
      · have : k = 1 := by have := eq_of_beq h; omega
        subst this
        simp
      · have : l = [] := by
          have := eq_of_beq h
          rw [mkS_len] at this
          exact List.eq_nil_of_length_eq_zero this
        subst this
        simp
    · refine ext_tl ?_
      show ((List.replicate (k : Int).toNat l.toArray).foldl (· ++ ·) #[]).toList = (List.replicate k l).flatten
      have : (k : Int).toNat = k := by omega
      rw [this]
      have := fold_rep l k []
      rw [List.nil_append] at this
      rw [show (#[] : Array Nat) = ([] : List Nat).toArray from rfl, this]
/-! ### the odd thing -/
theorem pickD {xs : List PyData} {i : Nat} (h : i < xs.length) : ∃ d, d ∈ xs ∧ ixD (.list xs) (.int (i : Int)) = .ok d :=
  ⟨xs[i], List.getElem_mem h, by
    show (match atI xs (i : Int) with | some d => Res.ok d | none => _) = _
    rw [atI_nat, List.getElem?_eq_getElem h]⟩
abbrev oddEnd : En → Out := sRet (fIx (fVar 3) (fCall F_L_mix (fCons (fVar 1) (fCons (fC (.int 9749)) (fCons (fCall lenD (fCons (fVar 3) fNil)) (fNil))))))
theorem odd_last (a : PyData) (c : Int) (e2 : Option SV) {xs : List PyData} (h : 0 < xs.length) : ∃ d, d ∈ xs ∧ oddEnd [some (.dat a), some (.dat (.int c)), e2, some (.dat (.list xs))] = .rt d := by
  have hm := mix_lt (a := c) (p := 9749) (m := xs.length) (k := xs.length) rfl h
  obtain ⟨d, hd, hi⟩ := pickD hm
  refine ⟨d, hd, ?_⟩
  have hl : lenD [.list xs] = .ok (.int xs.length) := rfl
  have hf := mix_F' (a := c) (p := 9749) (m := (xs.length : Int)) (k := xs.length) rfl (by decide) (by decide) h
  simp (implicitDefEqProofs := false) [oddEnd, hl, hf, hi]
def odd16 : List PyData := [.none, .bool true, .bool false, .int 0, .int 1, .int (-1), .int 2, .int 7, .int 10, .int 1000, .str (mkS []), .str (sg 97), .str (sg 65), .tuple [], .tuple [.str (sg 97)], .list [.int 1]]
theorem st_A : (Str.ofString "A") = sg 65 := ext_tl (by rw [tl_ofString]; rfl)
theorem st_blank : (Str.ofString " ") = sg 32 := ext_tl (by rw [tl_ofString]; rfl)
theorem odd16_wel {b n : Nat} (hb : 1 ≤ b) : ∀ d ∈ odd16, wel b (n + 2) d = true := by
  intro d hd
  have h1 : wel b (n + 1) (.str (sg 97)) = true := wel_str (l := [97]) (by decide) hb
  have h2 : wel b (n + 2) (.str (sg 97)) = true := wel_up h1
  have h3 : wel b (n + 2) (.str (sg 65)) = true := wel_str (l := [65]) (by decide) hb
  have h4 : wel b (n + 2) (.str (mkS [])) = true := wel_str (l := []) (by decide) (Nat.zero_le _)
  simp only [odd16, List.mem_cons, List.not_mem_nil, or_false] at hd
  rcases hd with rfl | rfl | rfl | rfl | rfl | rfl | rfl | rfl | rfl | rfl | rfl | rfl | rfl | rfl | rfl | rfl
  · rfl
  · rfl
  · rfl
  · rfl
  · rfl
  · rfl
  · rfl
  · rfl
  · rfl
  · rfl
  · exact h4
  · exact h2
  · exact h3
  · exact wel_tup (Nat.zero_le _) (fun d hd => by cases hd)
  · exact wel_tup (by simpa using hb) (fun d hd => by rw [List.mem_singleton] at hd; subst hd; exact h1)
  · exact wel_lst (by simpa using hb) (fun d hd => by rw [List.mem_singleton] at hd; subst hd; rfl)
abbrev twice (xs : List PyData) : List PyData := (List.replicate (2 : Int).toNat xs).flatten
theorem mem_twice {xs : List PyData} {d : PyData} (h : d ∈ odd16 ++ twice xs) : d ∈ odd16 ∨ d ∈ xs := by
  rcases List.mem_append.mp h with h | h
  · exact .inl h
  · simp [twice] at h
    exact .inr h
theorem odd_len (xs : List PyData) : 0 < (odd16 ++ twice xs).length := by simp [odd16]
theorem odd_fin {m : Nat} {a : PyData} {c : Int} {b n : Nat} (hb : 1 ≤ b) {xs : List PyData} {e2 : Option SV} (hx : ∀ d ∈ xs, wel b (n + 2) d = true)
    (he : g_L_odd (F_L_odd m) [some (.dat a), some (.dat (.int c)), none, none] = oddEnd [some (.dat a), some (.dat (.int c)), e2, some (.dat (.list (odd16 ++ twice xs)))]) : ∃ d', F_L_odd (m + 1) [a, .int c] = .ok d' ∧ wel b (n + 2) d' = true := by
  obtain ⟨d, hd, hr⟩ := odd_last a c e2 (odd_len xs)
  refine ⟨d, ?_, ?_⟩
  · show runD (g_L_odd (F_L_odd m)) 4 [a, .int c] = .ok d
    exact runD_rt (he.trans hr)
  · rcases mem_twice hd with h | h
    · exact odd16_wel hb d h
    · exact hx d h
def oddI (i : Int) : List PyData := [.int (i + 1), .int (i - 1), .int (0 - i), .tuple [.int i], .int (i + 2), .int (i * 2)]
theorem odd_int (m : Nat) (i c : Int) {b n : Nat} (hb : 1 ≤ b) : ∃ d', F_L_odd (m + 1) [.int i, .int c] = .ok d' ∧ wel b (n + 2) d' = true := by
  refine odd_fin (e2 := none) hb (xs := oddI i) (fun d hd => ?_) ?_
  · simp only [oddI, List.mem_cons, List.not_mem_nil, or_false] at hd
    rcases hd with rfl | rfl | rfl | rfl | rfl | rfl
    all_goals first | rfl | exact wel_tup (by simpa using hb) (fun d hd => by simp at hd; subst hd; rfl)
  · have e0 : mulX (.int i) (.int 2) = .ok (.int (i * 2)) := by simp [mulX, mulOk]
    rw [g_L_odd]
    simp (implicitDefEqProofs := false) [-sRet_e, isTy, e0, repD, odd16, twice, oddI, st_A, sizeLine_eq]
def upC (c : Nat) : Nat := if 97 ≤ c ∧ c ≤ 122 then c - 32 else c
def oddS (l : List Nat) : List PyData := [.str (mkS (l ++ [97])), .str (mkS (l.take (l.length - 1))), .str (mkS (l.map upC)), .str (mkS (l ++ [32])), .str (mkS (l ++ l)), .list [.str (mkS l)], .str (mkS (l ++ l.take 1))]
theorem slD_init {l : List Nat} (h : l.length ≤ 1000000) : slD (.str (mkS l)) none (some (-1)) = .ok (.str (mkS (l.take (l.length - 1)))) := by
  rw [slD_mk h]
  have e : HT.sIx l.length l.length (some (-1)) = l.length - 1 := by
    unfold HT.sIx
    simp
    omega
  have e0 : HT.sIx l.length 0 none = 0 := rfl
  rw [e, e0, List.drop_zero, Nat.sub_zero]
theorem odd_str (m : Nat) {l : List Nat} (hl : ∀ c ∈ l, c < 128) {B : Nat} (hB : l.length ≤ B) (hB2 : B ≤ 4000) (c : Int) {b n : Nat} (hb : 2 * B + 1 ≤ b) : ∃ d', F_L_odd (m + 1) [.str (mkS l), .int c] = .ok d' ∧ wel b (n + 2) d' = true := by
  refine odd_fin (e2 := none) (by omega) (xs := oddS l) (fun d hd => ?_) ?_
  · simp only [oddS, List.mem_cons, List.not_mem_nil, or_false] at hd
    have t1 : ∀ k, ∀ c ∈ l.take k, c < 128 := fun k c hc => hl c (List.mem_of_mem_take hc)
    have ap : ∀ {a b : List Nat}, (∀ c ∈ a, c < 128) → (∀ c ∈ b, c < 128) → ∀ c ∈ a ++ b, c < 128 := fun ha hb c hc => by
      rcases List.mem_append.mp hc with h | h
      · exact ha c h
      · exact hb c h
    rcases hd with rfl | rfl | rfl | rfl | rfl | rfl | rfl
    · exact wel_str (ap hl (by decide)) (by simp; omega)
    · exact wel_str (t1 _) (by simp; omega)
    · refine wel_str (fun c hc => ?_) (by simp; omega)
      obtain ⟨x, hx, rfl⟩ := List.mem_map.mp hc
      have := hl x hx
      unfold upC
      split <;> omega
    · exact wel_str (ap hl (by decide)) (by simp; omega)
    · exact wel_str (ap hl hl) (by simp; omega)
    · exact wel_lst (by simp; omega) (fun d hd => by simp at hd; subst hd; exact wel_str hl (by omega))
    · exact wel_str (ap hl (t1 _)) (by simp; omega)
  · have e0 : mulX (.str (mkS l)) (.int 2) = .ok (.str (mkS (l ++ l))) := by
      show (if 0 ≤ (2 : Int) ∧ (2 : Int) ≤ 1000 ∧ (mkS l).length ≤ 10000 then Res.ok (PyData.str (Txt.mul (mkS l) 2)) else .no) = _
      rw [if_pos ⟨by decide, by decide, by rw [mkS_len]; omega⟩]
      have := mul_mk l 2
      rw [show ((2 : Nat) : Int) = 2 from rfl] at this
      rw [this]
      simp
    have e1 : addD (.str (mkS l)) (.str (sg 97)) = .ok (.str (mkS (l ++ [97]))) := addD_mg (by omega)
    have e2 : addD (.str (mkS l)) (.str (sg 32)) = .ok (.str (mkS (l ++ [32]))) := addD_mg (by omega)
    have e3 := slD_init (l := l) (by omega)
    have e4 : slD (.str (mkS l)) none (some 1) = .ok (.str (mkS (l.take 1))) := sl_to (by omega) 1
    have e5 : addD (.str (mkS l)) (.str (mkS (l.take 1))) = .ok (.str (mkS (l ++ l.take 1))) := addD_mk (by simp; omega)
    have e6 : upperS (mkS l) = .ok (.str (mkS (l.map upC))) := by
      unfold upperS
      rw [if_pos (by rw [mkS_len]; omega), upper_mk l hl]
      rfl
    rw [g_L_odd]
    simp (implicitDefEqProofs := false) [-sRet_e, isTy, isS, e0, e1, e2, e3, e4, e5, e6, repD, odd16, twice, oddS, st_A, st_blank, sizeLine_eq]
/-! ### tuples -/
theorem sIx_last (k d : Nat) : HT.sIx k d (some (-1)) = k - 1 := by
  unfold HT.sIx
  simp
  omega
theorem cutD_mid (ds : List PyData) (lo hi : Option Int) : cutD ds lo hi = (ds.drop (HT.sIx ds.length 0 lo)).take (HT.sIx ds.length ds.length hi - HT.sIx ds.length 0 lo) := rfl
theorem slT_to (ds : List PyData) (k : Nat) : slD (.tuple ds) none (some (k : Int)) = .ok (.tuple (ds.take k)) := by
  show Res.ok (PyData.tuple (cutD ds none (some (k : Int)))) = _
  rw [cutD_mid, sIx_n]
  have : HT.sIx ds.length 0 none = 0 := rfl
  rw [this, List.drop_zero, Nat.sub_zero]
  by_cases h : k ≤ ds.length
  · rw [Nat.min_eq_left h]
  · rw [Nat.min_eq_right (by omega), List.take_of_length_le (Nat.le_refl _), List.take_of_length_le (show ds.length ≤ k by omega)]
theorem slT_from (ds : List PyData) (k : Nat) : slD (.tuple ds) (some (k : Int)) none = .ok (.tuple (ds.drop k)) := by
  show Res.ok (PyData.tuple (cutD ds (some (k : Int)) none)) = _
  rw [cutD_mid, sIx_n]
  have : HT.sIx ds.length ds.length none = ds.length := rfl
  rw [this, List.take_of_length_le (by rw [List.length_drop]; exact Nat.le_refl _)]
  by_cases h : k ≤ ds.length
  · rw [Nat.min_eq_left h]
  · rw [Nat.min_eq_right (by omega), List.drop_eq_nil_of_le (Nat.le_refl _), List.drop_eq_nil_of_le (by omega)]
theorem slT_init (ds : List PyData) : slD (.tuple ds) none (some (-1)) = .ok (.tuple (ds.take (ds.length - 1))) := by
  show Res.ok (PyData.tuple (cutD ds none (some (-1)))) = _
  rw [cutD_mid, sIx_last]
  have : HT.sIx ds.length 0 none = 0 := rfl
  rw [this, List.drop_zero, Nat.sub_zero]
theorem slT_last (ds : List PyData) : slD (.tuple ds) (some (-1)) none = .ok (.tuple (ds.drop (ds.length - 1))) := by
  show Res.ok (PyData.tuple (cutD ds (some (-1)) none)) = _
  rw [cutD_mid, sIx_last]
  have : HT.sIx ds.length ds.length none = ds.length := rfl
  rw [this, List.take_of_length_le (by rw [List.length_drop]; exact Nat.le_refl _)]
def oddT (ds : List PyData) : List PyData := [.list ds, .tuple (ds ++ ds.drop (ds.length - 1)), .tuple (ds.take (ds.length - 1)), .tuple ds.reverse, .tuple (ds.drop 1), .tuple [.tuple ds]]
theorem addD_tups {xs ys : List PyData} (h : xs.length + ys.length ≤ 1000000) : addD (.tuple xs) (.tuple ys) = .ok (.tuple (xs ++ ys)) := if_pos (Nat.le_trans h (by decide))
theorem odd_tupE (m : Nat) {ds : List PyData} {B n : Nat} (hB : ds.length ≤ B) (hB2 : B ≤ 4000) (c : Int) {b : Nat} (hb : 2 * B + 2 ≤ b) (hn : n ≤ 50) (hw : ∀ d ∈ ds, wel b n d = true) (ht : ds = [] ∨ mixN c 9781 5 = 0) : ∃ d', F_L_odd (m + 1) [.tuple ds, .int c] = .ok d' ∧ wel b (n + 1 + 2) d' = true := by
  have sub : ∀ {es : List PyData}, (∀ d ∈ es, d ∈ ds) → es.length ≤ 2 * B + 1 → wel b (n + 1) (.tuple es) = true := fun {es} h hl => wel_tup (by omega) fun d hd => hw d (h d hd)
  refine odd_fin (e2 := none) (by omega) (xs := oddT ds) (fun d hd => ?_) ?_
  · simp only [oddT, List.mem_cons, List.not_mem_nil, or_false] at hd
    rcases hd with rfl | rfl | rfl | rfl | rfl | rfl
    · exact wel_up (wel_up (wel_lst (by omega) hw))
    · exact wel_up (wel_up (sub (fun d hd => by
        rcases List.mem_append.mp hd with h | h
        · exact h
        · exact List.mem_of_mem_drop h) (by simp; omega)))
    · exact wel_up (wel_up (sub (fun d hd => List.mem_of_mem_take hd) (by simp; omega)))
    · exact wel_up (wel_up (sub (fun d hd => List.mem_reverse.mp hd) (by simp; omega)))
    · exact wel_up (wel_up (sub (fun d hd => List.mem_of_mem_drop hd) (by simp; omega)))
    · exact wel_tup (by simp; omega) (fun d hd => by rw [List.mem_singleton] at hd; subst hd; exact wel_up (sub (fun d hd => hd) (by omega)))
  · have hs : SeqAt.shaped (.tuple ds) = true := wel_shaped (n := n + 1) (sub (fun d hd => hd) (by omega)) (by omega)
    have hne : neD (.tuple ds) (.tuple []) = .ok (.bool (!ds.isEmpty)) := by
      unfold neD
      rw [hs, if_pos (by decide)]
      cases ds <;> rfl
    have e1 := slT_init ds
    have e2 := slT_last ds
    have e3 := slT_from ds 1
    have e3 : slD (.tuple ds) (some 1) none = .ok (.tuple (ds.drop 1)) := e3
    have e4 : addD (.tuple ds) (.tuple (ds.drop (ds.length - 1))) = .ok (.tuple (ds ++ ds.drop (ds.length - 1))) := addD_tups (by simp; omega)
    have e5 : revT (.tuple ds) = .ok (.tuple ds.reverse) := rfl
    have e6 : isTy .tuple (.tuple ds) = true := rfl
    have e7 : asQ (.tuple ds) = .ok (true, ds) := rfl
    have e8 := mix_F' (a := c) (p := 9781) (m := 5) (k := 5) rfl (by decide) (by decide) (by decide)
    rw [g_L_odd]
    rcases ht with rfl | ht
    · simp (implicitDefEqProofs := false) [-sRet_e, hne, e1, e2, e3, e4, e5, e6, e7, listQ, repD, odd16, twice, oddT, st_A, st_blank, sizeLine_eq]
    · generalize hE : (!ds.isEmpty) = E at hne
      cases E <;> simp (implicitDefEqProofs := false) [-sRet_e, hne, e1, e2, e3, e4, e5, e6, e7, e8, ht, listQ, repD, odd16, twice, oddT, st_A, st_blank, sizeLine_eq]
theorem odd_F {B : Nat} (hB2 : B ≤ 4000) {b : Nat} (hb : 2 * B + 2 ≤ b) : ∀ (n m : Nat) (d : PyData) (c : Int), n ≤ 50 → n ≤ m → Bse B n d → ∃ d', F_L_odd m [d, .int c] = .ok d' ∧ wel b (n + 2) d' = true
  | 0, _, _, _, _, _, h => by cases h
  | n + 1, 0, _, _, _, hm, _ => by omega
  | n + 1, m + 1, _, c, _, _, .int i => odd_int m i c (by omega)
  | n + 1, m + 1, _, c, _, _, .str hl h => odd_str m hl h hB2 c (by omega)
  | n + 1, m + 1, .tuple ds, c, hn, hm, .tup hl h => by
    have hw : ∀ d ∈ ds, wel b n d = true := fun d hd => bse_wel (by omega) (h d hd)
    by_cases ht : ds = [] ∨ mixN c 9781 5 = 0
    · exact odd_tupE m hl hB2 c hb (by omega) hw ht
    · have h0 : ds ≠ [] := fun z => ht (.inl z)
      have h1 : mixN c 9781 5 ≠ 0 := fun z => ht (.inr z)
      have hlen : 0 < ds.length := List.length_pos_iff.mpr h0
      have hat := mix_lt (a := c) (p := 9769) (m := ds.length) (k := ds.length) rfl hlen
      generalize hA : mixN c 9769 ds.length = A at hat
      obtain ⟨d', hd', hw'⟩ := odd_F hB2 hb n m ds[A] (c + 31 * (A : Int) + 7) (by omega) (by omega) (h _ (List.getElem_mem hat))
      refine ⟨.tuple (ds.take A ++ [d'] ++ ds.drop (A + 1)), ?_, ?_⟩
      · have hs : SeqAt.shaped (.tuple ds) = true := wel_shaped (n := n + 1) (wel_tup (by omega) hw) (by omega)
        have hne : neD (.tuple ds) (.tuple []) = .ok (.bool true) := by
          unfold neD
          rw [hs, if_pos (by decide)]
          cases ds with
          | nil => exact absurd rfl h0
          | cons x xs => rfl
        have e6 : isTy .tuple (.tuple ds) = true := rfl
        have e8 := mix_F' (a := c) (p := 9781) (m := 5) (k := 5) rfl (by decide) (by decide) (by decide)
        have e9 := mix_F' (a := c) (p := 9769) (m := (ds.length : Int)) (k := ds.length) rfl (by decide) (by decide) hlen
        rw [hA] at e9
        have el : lenD [.tuple ds] = .ok (.int ds.length) := rfl
        have e1 := slT_to ds A
        have e2 := slT_from ds (A + 1)
        have ec : ((A + 1 : Nat) : Int) = (A : Int) + 1 := by omega
        rw [ec] at e2
        have e3 : ixD (.tuple ds) (.int (A : Int)) = .ok ds[A] := by
          show (match atI ds (A : Int) with | some d => Res.ok d | none => _) = _
          rw [atI_nat, List.getElem?_eq_getElem hat]
        have e4 : mulOk 31 (A : Int) = true := mulOk_nat 31 A (by decide)
        have e5 : addD (.tuple (ds.take A)) (.tuple [d']) = .ok (.tuple (ds.take A ++ [d'])) := addD_tups (by simp; omega)
        have e7 : addD (.tuple (ds.take A ++ [d'])) (.tuple (ds.drop (A + 1))) = .ok (.tuple (ds.take A ++ [d'] ++ ds.drop (A + 1))) := addD_tups (by simp; omega)
        have hpos : 0 < mixN c 9781 5 := by omega
        show runD (g_L_odd (F_L_odd m)) 4 [.tuple ds, .int c] = _
        refine runD_rt ?_
        rw [g_L_odd]
        generalize ds[A] = dA at e3 hd'
        simp (implicitDefEqProofs := false) only [initE, List.length_cons, List.length_nil, List.map_cons, List.map_nil, List.replicate, List.cons_append, List.nil_append]
        simp (implicitDefEqProofs := false) [-List.append_assoc, hne, e1, e2, e3, e4, e5, e6, e7, e8, e9, el, hpos, hd']
      · refine wel_tup (by simp; omega) fun d hd => ?_
        rcases List.mem_append.mp hd with hd | hd
        · rcases List.mem_append.mp hd with hd | hd
          · exact wel_up (wel_up (hw d (List.mem_of_mem_take hd)))
          · rw [List.mem_singleton] at hd; subst hd; exact hw'
        · exact wel_up (wel_up (hw d (List.mem_of_mem_drop hd)))
end GL

/-! # Watches along a log -/
namespace GL
open PySem PySem.Spec PyProof.Rows L2 TL
theorem rows_last (M : Mac) (S l : List Nat) : (rowsL M S l).getLast? = some (bsA M S l) := by
  unfold rowsL
  rw [range_last, List.getLast?_append]
  simp
theorem rows_snoc (M : Mac) (S l : List Nat) (x : Nat) : rowsL M S (l ++ [x]) = rowsL M S l ++ [bsA M S (l ++ [x])] := by
  unfold rowsL
  rw [List.length_append, List.length_singleton, range_last (l.length + 1)]
  congr 1
  · refine List.map_congr_left fun k hk => ?_
    have := List.mem_range.mp hk
    rw [List.take_append_of_le_length (by omega)]
  · rw [List.take_of_length_le (by simp)]
theorem rows_drop (M : Mac) (S : List Nat) {l : List Nat} (h : l ≠ []) : (rowsL M S l).dropLast = rowsL M S (l.take (l.length - 1)) := by
  obtain ⟨k, x, rfl⟩ : ∃ k x, l = k ++ [x] := by
    rcases List.eq_nil_or_concat l with rfl | ⟨k, x, rfl⟩
    · exact absurd rfl h
    · exact ⟨k, x, by rw [List.concat_eq_append]⟩
  rw [rows_snoc, List.dropLast_concat]
  congr 1
  simp
abbrev rowsT (M : Mac) (l : List Nat) : List PyData := (rowsL M [0] l).map tupN
theorem rowsT_last (M : Mac) (l : List Nat) : (rowsT M l).getLast? = some (tupN (bsA M [0] l)) := by
  rw [List.getLast?_map, rows_last]
  rfl
theorem rowsT_nil (M : Mac) : rowsT M [] = [.tuple [.int 0]] := rfl
theorem W_add_F {M : Mac} (g : M.Good) {l : List Nat} (hn : l.length ≤ 900000) {x : Nat} (hx : x < 128) : W_add M.D (mkS l) (rowsT M l) [.str (sg x)] = .ok .none M.D (mkS (l ++ [x])) (rowsT M (l ++ [x])) := by
  have hb := by_sign_F g (bsA_lt g (l := l) (zero_lt g)) (bsA_len g (l := l) (zero_lt g) (by decide)) hx
  have h1 : (mkS l).length + (sg x).length ≤ 1000000 ∧ (rowsT M l).length ≤ 1000000 := ⟨by rw [mkS_len, sg_len]; omega, by rw [List.length_map, rows_len]; omega⟩
  have e : rowsT M (l ++ [x]) = rowsT M l ++ [tupN (bsL M (bsA M [0] l) x)] := by
    show (rowsL M [0] (l ++ [x])).map tupN = _
    rw [rows_snoc, List.map_append, bsA_snoc]
    rfl
  have e2 : mkS l ++ sg x = mkS (l ++ [x]) := mkS_app l [x]
  unfold W_add
  show (if (mkS l).length + (sg x).length ≤ 1000000 ∧ (rowsT M l).length ≤ 1000000 then (match (rowsT M l).getLast? with
    | some last => (match F_by_sign [M.D, last, .str (sg x)] with
      | .ok d => WRes.ok .none M.D (mkS l ++ sg x) (rowsT M l ++ [d])
      | _ => .no)
    | none => .no) else .no) = _
  rw [if_pos h1, rowsT_last]
  simp only [hb]
  rw [e, e2]
theorem cut_last {l : List Nat} : cutS (mkS l) none (some (-1)) = mkS (l.take (l.length - 1)) := by
  rw [cutS_mk, sIx_last]
  have : HT.sIx l.length 0 none = 0 := rfl
  rw [this, List.drop_zero, Nat.sub_zero]
theorem mkS_ne {l : List Nat} (h : l ≠ []) : mkS l ≠ "" := fun e => h (mkS_inj.mp (e.trans st_nil))
theorem rowsT_ne (M : Mac) (l : List Nat) : rowsT M l ≠ [] := fun e => by
  have := congrArg List.length e
  rw [List.length_map, rows_len] at this
  simp at this
theorem W_back_F (M : Mac) {l : List Nat} (hl : ∀ x ∈ l, x < 128) (hn : l.length ≤ 900000) (h : l ≠ []) : W_back M.D (mkS l) (rowsT M l) [] = .ok .none M.D (mkS (l.take (l.length - 1))) (rowsT M (l.take (l.length - 1))) := by
  unfold W_back
  rw [if_pos ⟨strOk_mk hl, by rw [mkS_len]; omega⟩, if_neg (mkS_ne h), if_neg (rowsT_ne M l), cut_last, ← List.map_dropLast, rows_drop M [0] h]
theorem W_lback_F (M : Mac) {l : List Nat} (hl : ∀ x ∈ l, x < 128) (hn : l.length ≤ 900000) (h : l ≠ []) : W_L_back M.D (mkS l) (rowsT M l) [] = .ok .none M.D (mkS (l.take (l.length - 1))) (rowsT M (l.take (l.length - 1))) := by
  unfold W_L_back
  rw [if_pos ⟨strOk_mk hl, by rw [mkS_len]; omega⟩, if_neg (mkS_ne h), if_neg (rowsT_ne M l), cut_last, ← List.map_dropLast, rows_drop M [0] h]
theorem W_lback_0 (M : Mac) : W_L_back M.D (mkS []) (rowsT M []) [] = .ok (.str "no sign") M.D (mkS []) (rowsT M []) := by
  unfold W_L_back
  rw [if_pos ⟨strOk_mk (l := []) (by simp), by rw [mkS_len]; decide⟩, if_pos st_nil.symm]
theorem R_log_F (M : Mac) (l : List Nat) : R_log M.D (mkS l) (rowsT M l) [] = .ok (.str (mkS l)) := R_log_e _ _ _
theorem R_now_F (M : Mac) (l : List Nat) : R_now M.D (mkS l) (rowsT M l) [] = .ok (tupN (bsA M [0] l)) := R_now_e _ _ (rowsT_last M l)
theorem R_end_F (M : Mac) (l : List Nat) : R_end M.D (mkS l) (rowsT M l) [] = .ok (.bool (couldB M l)) := R_end_e _ _ (rowsT_last M l) has_end_F
def sgn5 : List Nat := [97, 98, 99, 63, 42]
theorem st_sgn5 : (Str.ofString "abc?*") = mkS sgn5 := ext_tl (by rw [tl_ofString]; rfl)
theorem sgn5_at {i : Nat} (h : i < 5) : ∃ x, x ∈ [97, 98, 99, 63, 42] ∧ ixD (.str (mkS sgn5)) (.int (i : Int)) = .ok (.str (sg x)) := by
  refine ⟨sgn5[i]'h, List.getElem_mem _, ixD_str_sg (List.getElem?_eq_getElem h) (by decide)⟩
theorem st_nosign : (Str.ofString "no sign") = mkS [110, 111, 32, 115, 105, 103, 110] := ext_tl (by rw [tl_ofString]; rfl)
end GL

/-! # A deed of a watch, and what it tells -/
namespace GL
open PySem PySem.Spec PyProof.Rows L2 TL
def sgC (c : Int) : Nat := sgn5.getD (mixN c 9767 5) 97
theorem sgC_at (c : Int) : ixD (.str (mkS sgn5)) (.int (mixN c 9767 5 : Nat)) = .ok (.str (sg (sgC c))) := by
  have h := mix_lt (a := c) (p := 9767) (m := 5) (k := 5) rfl (by decide)
  unfold sgC
  generalize mixN c 9767 5 = i at h
  refine ixD_str_sg ?_ (by decide)
  rw [List.getD_eq_getElem?_getD, List.getElem?_eq_getElem (show i < sgn5.length from h)]
  rfl
theorem sgC_lt (c : Int) : sgC c < 128 ∧ sgC c ∈ sgn5 := by
  have h := mix_lt (a := c) (p := 9767) (m := 5) (k := 5) rfl (by decide)
  unfold sgC
  generalize mixN c 9767 5 = i at h
  rw [List.getD_eq_getElem?_getD, List.getElem?_eq_getElem (show i < sgn5.length from h)]
  have hm : sgn5[i]'h ∈ sgn5 := List.getElem_mem _
  refine ⟨?_, hm⟩
  show sgn5[i]'h < 128
  generalize sgn5[i]'h = y at hm
  unfold sgn5 at hm
  simp at hm
  omega
def W_deed (c : Int) (m : PyData) (t : Str) (rows : List PyData) : WRes := if mixN c 9769 4 = 0 then W_L_back m t rows [] else W_add m t rows [.str (sg (sgC c))]
def told3 (m : PyData) (t : Str) (rows : List PyData) : Option (PyData × PyData × PyData) := match R_log m t rows [] with
  | .ok a => (match R_now m t rows [] with
    | .ok b => (match R_end m t rows [] with
      | .ok e => some (a, b, e)
      | _ => none)
    | _ => none)
  | _ => none
def W_L_lives : PyData → Str → List PyData → List PyData → WRes := fun m t rows ds => match ds with
  | [.int c] => (match W_deed c m t rows with
    | .ok d m' t' rows' => (match told3 m' t' rows' with
      | some (a, b, e) => .ok (.tuple [if mixN c 9769 4 = 0 then d else .none, a, b, e]) m' t' rows'
      | none => .no)
    | _ => .no)
  | _ => .no
theorem told3_ok {m : PyData} {t : Str} {rows : List PyData} {a b e : PyData} (h : told3 m t rows = some (a, b, e)) : R_log m t rows [] = .ok a ∧ R_now m t rows [] = .ok b ∧ R_end m t rows [] = .ok e := by
  unfold told3 at h
  split at h
  · rename_i a' h1
    split at h
    · rename_i b' h2
      split at h
      · rename_i e' h3
        cases h
        exact ⟨h1, h2, h3⟩
      · cases h
    · cases h
  · cases h
theorem run_W_L_lives : RunsW g_L_lives 3 1 W_L_lives := by
  intro l m t rows ds hl
  match ds, hl with
  | [d], _ =>
    cases d with
    | int c =>
      have h0 := mix_F (a := c) (p := 9769) (m := 4) (by decide) (by decide) (by decide)
      have h5 := mix_F (a := c) (p := 9767) (m := 5) (by decide) (by decide) (by decide)
      have hs := sgC_at c
      show (match (match W_deed c m t rows with
    | .ok d m' t' rows' => (match told3 m' t' rows' with
      | some (a, b, e) => WRes.ok (.tuple [if mixN c 9769 4 = 0 then d else .none, a, b, e]) m' t' rows'
      | none => .no)
    | _ => .no) with
        | .ok d m' t' rows' => _
        | .ex y m' t' rows' => _
        | .no => True)
      cases hd : W_deed c m t rows with
      | no => trivial
      | ex y m' t' r' => trivial
      | ok d m' t' r' =>
        simp only
        cases h3 : told3 m' t' r' with
        | none => trivial
        | some q =>
          obtain ⟨a, b, e⟩ := q
          obtain ⟨k1, k2, k3⟩ := told3_ok h3
          simp only
          left
          unfold W_deed at hd
          by_cases hm : mixN c 9769 4 = 0
          · rw [if_pos hm] at hd ⊢
            have hm' : ((mixN c 9769 4 : Nat) : Int) = 0 := by omega
            refine ⟨[some (.dat (.int c)), some (.dat d)], ?_⟩
            rw [g_L_lives]
            simp (implicitDefEqProofs := false) [initE, h0, hm, hm', hd, k1, k2, k3]
          · rw [if_neg hm] at hd ⊢
            have hm' : ¬ ((mixN c 9769 4 : Nat) : Int) = 0 := by omega
            refine ⟨[some (.dat (.int c)), some (.dat .none)], ?_⟩
            rw [g_L_lives]
            simp (implicitDefEqProofs := false) [initE, h0, h5, hm, hm', hd, k1, k2, k3, st_sgn5, hs]
    | _ => trivial
/-! ### along many deeds -/
def deedL (c : Int) (l : List Nat) : List Nat := if mixN c 9769 4 = 0 then l.take (l.length - 1) else l ++ [sgC c]
def toldM (M : Mac) (c : Int) (l : List Nat) : PyData := .tuple [if mixN c 9769 4 = 0 then (if l = [] then .str (mkS [110, 111, 32, 115, 105, 103, 110]) else .none) else .none, .str (mkS (deedL c l)), tupN (bsA M [0] (deedL c l)), .bool (couldB M (deedL c l))]
theorem lives_F {M : Mac} (g : M.Good) {l : List Nat} (hl : ∀ x ∈ l, x < 128) (hn : l.length ≤ 1000) (c : Int) : W_L_lives M.D (mkS l) (rowsT M l) [.int c] = .ok (toldM M c l) M.D (mkS (deedL c l)) (rowsT M (deedL c l)) := by
  have h3 : ∀ l', told3 M.D (mkS l') (rowsT M l') = some (.str (mkS l'), tupN (bsA M [0] l'), .bool (couldB M l')) := fun l' => by
    unfold told3
    rw [R_log_F, R_now_F, R_end_F]
  have hd : W_deed c M.D (mkS l) (rowsT M l) = .ok (if mixN c 9769 4 = 0 then (if l = [] then .str (mkS [110, 111, 32, 115, 105, 103, 110]) else .none) else .none) M.D (mkS (deedL c l)) (rowsT M (deedL c l)) := by
    unfold W_deed deedL
    by_cases hm : mixN c 9769 4 = 0
    · rw [if_pos hm, if_pos hm, if_pos hm]
      by_cases h0 : l = []
      · subst h0
        rw [if_pos rfl, W_lback_0, st_nosign]
        rfl
      · rw [if_neg h0, W_lback_F M hl (by omega) h0]
    · rw [if_neg hm, if_neg hm, if_neg hm, W_add_F g (by omega) (sgC_lt c).1]
  show (match W_deed c M.D (mkS l) (rowsT M l) with
    | .ok d m' t' rows' => (match told3 m' t' rows' with
      | some (a, b, e) => WRes.ok (.tuple [if mixN c 9769 4 = 0 then d else .none, a, b, e]) m' t' rows'
      | none => .no)
    | _ => .no) = _
  rw [hd]
  simp only [h3]
  unfold toldM
  by_cases hm : mixN c 9769 4 = 0 <;> simp [hm]
abbrev WSt := PyData × Str × List PyData
def runLv : WSt → List Int → Option (List PyData × WSt)
  | s, [] => some ([], s)
  | s, c :: cs => match W_L_lives s.1 s.2.1 s.2.2 [.int c] with
    | .ok d m t r => (runLv (m, t, r) cs).map fun x => (d :: x.1, x.2)
    | _ => none
abbrev st0 (m : PyData) : WSt := (m, "", [.tuple [.int 0]])
theorem runLv_snoc : ∀ (cs : List Int) (s : WSt) (c : Int) (ds : List PyData) (s1 : WSt), runLv s cs = some (ds, s1) → runLv s (cs ++ [c]) = (match W_L_lives s1.1 s1.2.1 s1.2.2 [.int c] with
    | .ok d m t r => some (ds ++ [d], (m, t, r))
    | _ => none)
  | [], s, c, ds, s1, h => by
    cases h
    rw [List.nil_append]
    unfold runLv
    cases W_L_lives s.1 s.2.1 s.2.2 [.int c] with
    | ok d m t r => rfl
    | ex y m t r => rfl
    | no => rfl
  | x :: cs, s, c, ds, s1, h => by
    rw [List.cons_append]
    unfold runLv at h ⊢
    cases hx : W_L_lives s.1 s.2.1 s.2.2 [.int x] with
    | ok d m t r =>
      rw [hx] at h
      simp only at h ⊢
      cases hr : runLv (m, t, r) cs with
      | none => rw [hr] at h; cases h
      | some q =>
        obtain ⟨ds', s'⟩ := q
        rw [hr] at h
        cases h
        rw [runLv_snoc cs (m, t, r) c ds' s' hr]
        cases W_L_lives s'.1 s'.2.1 s'.2.2 [.int c] <;> rfl
    | ex y m t r => rw [hx] at h; cases h
    | no => rw [hx] at h; cases h
def LvOk (m : PyData) : Prop := ∀ cs : List Int, cs.length ≤ 18 → ∃ ds s, runLv (st0 m) cs = some (ds, s) ∧ ds.length = cs.length ∧ F_L_same 6 [.tuple ds, .tuple ds] = .ok (.bool true)
theorem deed_ok (c : Int) {l : List Nat} (h : ∀ x ∈ l, x < 128) : (∀ x ∈ deedL c l, x < 128) ∧ (deedL c l).length ≤ l.length + 1 := by
  unfold deedL
  split
  · exact ⟨fun x hx => h x (List.mem_of_mem_take hx), by rw [List.length_take]; omega⟩
  · refine ⟨fun x hx => ?_, by simp⟩
    rcases List.mem_append.mp hx with hx | hx
    · exact h x hx
    · simp only [List.mem_singleton] at hx
      subst hx
      exact (sgC_lt c).1
theorem plain_told {M : Mac} (g : M.Good) (c : Int) {l : List Nat} (hl : ∀ x ∈ l, x < 128) : plainD 5 (toldM M c l) = true := by
  obtain ⟨h1, h2⟩ := deed_ok c hl
  have hs : PyData.strOk (mkS (deedL c l)) = true := strOk_mk h1
  have hn : PyData.strOk (mkS [110, 111, 32, 115, 105, 103, 110]) = true := strOk_mk (by decide)
  have hb : (bsA M [0] (deedL c l)).length ≤ 1000 := by
    have := bsA_len g (l := deedL c l) (zero_lt g) (by decide)
    omega
  unfold toldM
  generalize deedL c l = l2 at *
  by_cases h0 : mixN c 9769 4 = 0 <;> by_cases h3 : l = [] <;> simp [plainD, h0, h3, hs, hn, hb, tupN]
theorem lv_run {M : Mac} (g : M.Good) : ∀ (cs : List Int) (l : List Nat), (∀ x ∈ l, x < 128) → l.length + cs.length ≤ 1000 → ∃ ds s, runLv (M.D, mkS l, rowsT M l) cs = some (ds, s) ∧ ds.length = cs.length ∧ ∀ d ∈ ds, plainD 5 d = true
  | [], l, hl, hn => ⟨[], _, rfl, rfl, by simp⟩
  | c :: cs, l, hl, hn => by
    rw [List.length_cons] at hn
    obtain ⟨h1, h2⟩ := deed_ok c hl
    obtain ⟨ds, s, k1, k2, k3⟩ := lv_run g cs (deedL c l) h1 (by omega)
    refine ⟨toldM M c l :: ds, s, ?_, by rw [List.length_cons, List.length_cons, k2], fun d hd => ?_⟩
    · unfold runLv
      rw [lives_F g hl (by omega) c]
      simp only
      rw [k1]
      rfl
    · rcases List.mem_cons.mp hd with rfl | hd
      · exact plain_told g c hl
      · exact k3 d hd
theorem lvOk {M : Mac} (g : M.Good) : LvOk M.D := fun cs hn => by
  obtain ⟨ds, s, k1, k2, k3⟩ := lv_run g cs [] (by simp) (by simp; omega)
  refine ⟨ds, s, ?_, k2, same_F 6 _ ?_⟩
  · rw [← k1, ← st_nil]
    rfl
  · have : ds.length ≤ 1000 := by omega
    simp only [plainD, this, decide_true, Bool.true_and]
    rw [List.all_eq_true]
    exact fun d hd => k3 d hd
end GL

/-! # A watch told its deeds in a comprehension -/
namespace GL
open PySem PySem.Spec PyProof.Rows L2
theorem runLv_take : ∀ (cs : List Int) (s : WSt) (q : List PyData × WSt), runLv s cs = some q → ∀ (i : Nat) (c : Int) (rd : List PyData) (st : WSt), cs[i]? = some c → runLv s (cs.take i) = some (rd, st) → ∃ d m t r, W_L_lives st.1 st.2.1 st.2.2 [.int c] = .ok d m t r ∧ runLv s (cs.take (i + 1)) = some (rd ++ [d], (m, t, r))
  | [], s, q, h, i, c, rd, st, hc, hr => by simp at hc
  | x :: cs, s, q, h, 0, c, rd, st, hc, hr => by
    simp at hc
    subst hc
    rw [List.take_zero] at hr
    cases hr
    unfold runLv at h
    cases hx : W_L_lives s.1 s.2.1 s.2.2 [.int x] with
    | ok d m t r =>
      refine ⟨d, m, t, r, rfl, ?_⟩
      show runLv s [x] = _
      unfold runLv
      rw [hx]
      rfl
    | ex y m t r => rw [hx] at h; cases h
    | no => rw [hx] at h; cases h
  | x :: cs, s, q, h, i + 1, c, rd, st, hc, hr => by
    rw [List.getElem?_cons_succ] at hc
    rw [List.take_succ_cons] at hr ⊢
    unfold runLv at h hr ⊢
    cases hx : W_L_lives s.1 s.2.1 s.2.2 [.int x] with
    | ok d m t r =>
      rw [hx] at h hr
      simp only at h hr ⊢
      cases h1 : runLv (m, t, r) cs with
      | none => rw [h1] at h; cases h
      | some q1 =>
        cases h2 : runLv (m, t, r) (cs.take i) with
        | none => rw [h2] at hr; cases hr
        | some q2 =>
          obtain ⟨rd2, st2⟩ := q2
          rw [h2] at hr
          cases hr
          obtain ⟨d', m', t', r', k1, k2⟩ := runLv_take cs (m, t, r) q1 h1 i c rd2 st2 hc h2
          refine ⟨d', m', t', r', k1, ?_⟩
          rw [k2]
          rfl
    | ex y m t r => rw [hx] at h; cases h
    | no => rw [hx] at h; cases h
theorem dp_intL {K : PySem.W.Frag} {G : Hp} : ∀ {cs : List Int} {vs : List V}, DpAll K G vs (cs.map .int) → vs = cs.map V.int
  | [], _, h => by cases h; rfl
  | c :: cs, _, h => by
    cases h with
    | cons h1 h2 =>
      cases h1
      rw [dp_intL h2]
      rfl
section
variable {X : Cx} {W : WX} {cm : Str → Addr} {G0 H0 Gs G H : Hp} {Pin : Hp → Prop} {xs σ : L2.St} {env xe : En}
theorem OkG.wipeF {P : Program} {w : World} {K : PySem.W.Frag} (x : OkG P w K G0 H0 G (env ++ xe) (σ ++ xs) H) (hl : env.length = σ.length) (vs : List Nat) : OkG P w K G0 H0 G (wipeE env vs ++ xe) (L2.wipe σ vs ++ xs) H := by
  have hx := x.len
  rw [List.length_append, List.length_append] at hx
  refine x.less (by rw [List.length_append, List.length_append, wipeE_length, wipe_length]; omega) fun i s h => ?_
  rcases app_cases h with ⟨hi, h⟩ | ⟨hi, h⟩
  · rw [wipeE_length] at hi
    obtain ⟨h1, h2⟩ := wipeE_some h
    exact ⟨by rw [List.getElem?_append_left hi]; exact h1, by rw [List.getElem?_append_left (by rw [wipe_length]; omega), List.getElem?_append_left (by omega)]; exact wipe_get h2⟩
  · rw [wipeE_length] at hi h
    exact ⟨by rw [List.getElem?_append_right hi]; exact h, by rw [List.getElem?_append_right (by rw [wipe_length]; omega), List.getElem?_append_right (by omega), wipe_length]⟩
theorem nw_set {e : En} {i : Nat} {o : Option SV} (h : NoWaz e) (ho : ∀ m t r, o ≠ some (.waz m t r)) : NoWaz (e.set i o) := fun q m t r z => by
  by_cases hq : i = q
  · subst hq
    by_cases hl : i < e.length
    · rw [List.getElem?_set_self hl] at z; exact ho m t r (Option.some.inj z)
    · rw [List.getElem?_eq_none (by rw [List.length_set]; omega)] at z; cases z
  · rw [List.getElem?_set_ne hq] at z
    exact h q m t r z
abbrev tIter (K : PySem.W.Frag) (te : TE) : TI := fun σ H R => te σ H fun x H1 => ∃ a xs, x = .ref a ∧ ((SqL K H1 a xs ∧ (xs.length ≤ sizeLine → R (Itl K a) H1)) ∨ (SqT K H1 a xs ∧ (xs.length ≤ sizeLine → R (Itt K a) H1)))
theorem t_compV {φ : En → XO} {j lw jc n a2 b : Nat} {p rc : Addr} {us : List V} {l : Option (Addr × Addr × Addr)} {m : PyData} {t : Str} {r : List PyData} {cs : List Int} {ds : List PyData} {s1 : WSt} (ok : OkG X.prog X.w X.K G0 H0 G (env ++ xe) (σ ++ xs) H) (hl : env.length = σ.length) (hw : NoWaz env) (hj : j < env.length) (hlw : lw < env.length) (hjl : j ≠ lw)
    (h9 : env[lw]? = some (some (.wat l m t r))) (ha : env[a2]? = some (some (.raw (.ref p)))) (hb : env[b]? = some (some (.dat (.int (n : Int))))) (hp : G p = some (.lst us)) (hu : us[n]? = some (.ref rc)) (hx : xs[jc]? = some (some (.ref rc))) (hd : xe[jc]? = some (some (.own (cs.map .int)))) (hn : cs.length ≤ 1000)
    (hφ : ∀ (e : En) (c : Int) (m : PyData) (t : Str) (r : List PyData) (d m' : PyData) (t' : Str) (r' : List PyData), e[j]? = some (some (.dat (.int c))) → e[lw]? = some (some (.wat l m t r)) → W_L_lives m t r [.int c] = .ok d m' t' r' → φ e = .ok d (e.set lw (some (.wat l m' t' r'))))
    (run : runLv (m, t, r) cs = some (ds, s1)) {Q : VK}
    (k : ∀ D G' H', Same G G' → OkG X.prog X.w X.K G0 H0 G' ((env.set j none).set lw (some (.wat l s1.1 s1.2.1 s1.2.2)) ++ (xe ++ [some (.own ds)])) (σ ++ (xs ++ [some (.ref D)])) H' → Q (.ref D) H') :
    tLc (tIter X.K (tOp (rIxL X.K) (tVar a2) (tVar b))) (tG X.prog X.w X.K (.one j)) (tT X.prog X.w X.K W0 cm pYes) (tX X.prog X.w X.K W0 cm φ) [j] σ H Q := by
  have hxl : xe.length = xs.length := by
    have := ok.len
    rw [List.length_append, List.length_append] at this
    omega
  have lstOf : ∀ {G' H' : Hp} {e : En} {τ : L2.St} {o : Option SV} {q : Option V}, OkG X.prog X.w X.K G0 H0 G' (e ++ (xe ++ [o])) (τ ++ (xs ++ [q])) H' → e.length = τ.length → H' rc = some (.lst (cs.map V.int)) ∧ DpAll X.K G' (cs.map V.int) (cs.map .int) := fun {G' H' e τ o q} ok' hl' => by
    have hjc := (List.getElem?_eq_some_iff.mp hd).1
    obtain ⟨_, _, p', vs, e', _, _, hh, da⟩ := virt ok' hl' (j := jc) (s := .own (cs.map .int)) (v := .ref rc) (by rw [List.getElem?_append_left hjc]; exact hd) (by rw [List.getElem?_append_left (by omega)]; exact hx)
    cases e'
    have := dp_intL da
    subst this
    exact ⟨hh, da⟩
  refine t_at ok hl ha hb hp hu ?_
  obtain ⟨_, _, p', vs0, e', h00, hg0, hh0, da0⟩ := virt ok hl hd hx
  cases e'
  have ev := dp_intL da0
  subst ev
  refine ⟨rc, _, rfl, .inl ⟨.inl (.inl hh0), fun _ => ?_⟩⟩
  intro D hD
  obtain ⟨B, hB⟩ : ∃ B : Hp, B = fun a => if a = rc then some (.lst (cs.map V.int)) else none := ⟨_, rfl⟩
  have hBr : B rc = some (.lst (cs.map V.int)) := by rw [hB]; exact if_pos rfl
  have sB : ∀ {H' : Hp}, H' rc = some (.lst (cs.map V.int)) → Same B H' := fun {H'} h a o e => by
    rw [hB] at e
    by_cases z : a = rc
    · have e : (if a = rc then some (HO.lst (cs.map V.int)) else none) = some o := e
      rw [if_pos z] at e
      rw [z, h, e]
    · have e : (if a = rc then some (HO.lst (cs.map V.int)) else none) = some o := e
      rw [if_neg z] at e; cases e
  have it := itD_seqL (K := X.K) (B := B) (a := rc) (vs := cs.map V.int) (ds := cs.map .int) (.inl (.inl hBr)) da0
  have hds : (cs.map PyData.int).length = cs.length := List.length_map _
  have e0 : env.set lw (some (.wat l m t r)) = env := by
    refine List.ext_getElem? fun q => ?_
    by_cases hq : lw = q
    · subst hq; rw [List.getElem?_set_self hlw, h9]
    · rw [List.getElem?_set_ne hq]
  refine ⟨fun i mm H2 => mm = cs.length - i ∧ i ≤ cs.length ∧ ∃ (G2 : Hp) (rd : List PyData) (st : WSt), Same G G2 ∧ runLv (m, t, r) (cs.take i) = some (rd, st) ∧ rd.length = i ∧
    OkG X.prog X.w X.K G0 H0 G2 (wipeE (env.set lw (some (.wat l st.1 st.2.1 st.2.2))) [j] ++ (xe ++ [some (.own rd)])) (L2.wipe σ [j] ++ (xs ++ [some (.ref D)])) H2, ⟨cs.length, by simp, Nat.zero_le _, G, [], (m, t, r), Same.refl G, by simp [runLv], rfl, ?_⟩, ?_⟩
  · have o1 := ok.newL hD
    rw [List.append_assoc, List.append_assoc] at o1
    show OkG X.prog X.w X.K G0 H0 G (wipeE (env.set lw (some (.wat l m t r))) [j] ++ _) _ _
    rw [e0]
    exact o1.wipeF hl [j]
  rintro i mm H2 ⟨rfl, hi, G2, rd, st, s2, hrun, hrl, ok2⟩
  have hlw2 : (wipeE (env.set lw (some (.wat l st.1 st.2.1 st.2.2))) [j]).length = (L2.wipe σ [j]).length := by rw [wipeE_length, wipe_length, List.length_set]; exact hl
  obtain ⟨hH2, _⟩ := lstOf ok2 hlw2
  obtain ⟨itg, its⟩ := it i G2 H2 s2 (sB hH2) ok2.gh
  by_cases hlt : i < cs.length
  · have hci : cs[i]? = some cs[i] := List.getElem?_eq_getElem hlt
    obtain ⟨go, yl⟩ := itg (.int cs[i]) (by rw [List.getElem?_map, hci]; rfl)
    obtain ⟨d, m', t', r', hW, hrun'⟩ := runLv_take cs (m, t, r) _ run i cs[i] rd st hci hrun
    refine .inr ⟨go, fun H3 => ∃ (G3 : Hp) (rd : List PyData) (st : WSt), Same G G3 ∧ runLv (m, t, r) (cs.take (i + 1)) = some (rd, st) ∧ rd.length = i + 1 ∧
      OkG X.prog X.w X.K G0 H0 G3 (wipeE (env.set lw (some (.wat l st.1 st.2.1 st.2.2))) [j] ++ (xe ++ [some (.own rd)])) (L2.wipe σ [j] ++ (xs ++ [some (.ref D)])) H3, fun H3 h3 => ⟨cs.length - (i + 1), by omega, rfl, hlt, h3⟩, fun x H3 hy => ?_⟩
    obtain ⟨G3, g3, dp⟩ := yl x H3 hy
    have nwE : NoWaz (wipeE (env.set lw (some (.wat l st.1 st.2.1 st.2.2))) [j]) := nw_set (nw_set hw fun _ _ _ z => by cases z) fun _ _ _ z => by cases z
    obtain ⟨Hb, okx, oke, _⟩ := (ok2.grow g3).split hlw2 nwE
    refine ⟨G3, Hb, G3, _, .int cs[i], _, oke, dp, rfl, fun σ4 ok4 hs4 hl4 => ⟨?_, ?_⟩⟩
    · have q1 : L2.wipe σ4 [j] = L2.wipe (L2.wipe σ [j]) [j] := wipe_eq hl4 fun q hq => hs4 q hq
      rw [q1]
      exact wipe_eq (wipe_length _ _) fun q hq => wipe_get hq
    · refine ⟨G3, Hb, G3, _, ok4, fun G5 H5 g5 => ?_⟩
      show (if true = true then tX X.prog X.w X.K W0 cm φ σ4 H5 _ else _)
      rw [if_pos rfl]
      refine ⟨G3, Hb, G5, _, ok4.grow g5, ?_⟩
      have el : (wipeE (env.set lw (some (.wat l st.1 st.2.1 st.2.2))) [j]).length = env.length := by rw [wipeE_length, List.length_set]
      have ej : ((wipeE (env.set lw (some (.wat l st.1 st.2.1 st.2.2))) [j]).set j (some (.dat (.int cs[i]))))[j]? = some (some (.dat (.int cs[i]))) := List.getElem?_set_self (by rw [el]; exact hj)
      have ew : ((wipeE (env.set lw (some (.wat l st.1 st.2.1 st.2.2))) [j]).set j (some (.dat (.int cs[i]))))[lw]? = some (some (.wat l st.1 st.2.1 st.2.2)) := by
        rw [List.getElem?_set_ne hjl]
        show ((env.set lw (some (.wat l st.1 st.2.1 st.2.2))).set j none)[lw]? = _
        rw [List.getElem?_set_ne hjl, List.getElem?_set_self hlw]
      rw [hφ _ cs[i] st.1 st.2.1 st.2.2 d m' t' r' ej ew hW]
      intro v G6 H6 s6 ok6 dv
      have nw6 : NoWaz (((wipeE (env.set lw (some (.wat l st.1 st.2.1 st.2.2))) [j]).set j (some (.dat (.int cs[i])))).set lw (some (.wat l m' t' r'))) := nw_set (nw_set nwE fun _ _ _ z => by cases z) fun _ _ _ z => by cases z
      have big := swap_back okx ok6 nw6
      have hl6 := ok6.len
      obtain ⟨q1, q2, p', vs6, e', h06, hg6, hh6, da6⟩ := virt big hl6 (j := xe.length) (s := .own rd) (v := .ref D) (by rw [List.getElem?_append_right (Nat.le_refl _), Nat.sub_self]; rfl) (by rw [hxl, List.getElem?_append_right (Nat.le_refl _), Nat.sub_self]; rfl)
      cases e'
      refine ⟨vs6, hh6, by rw [dpAll_length da6, hrl]; exact Nat.lt_of_lt_of_le hlt (Nat.le_trans hn (by decide)), G6, rd ++ [d], (m', t', r'), s2.trans (g3.g.trans (g5.g.trans s6)), hrun', by rw [List.length_append, hrl]; rfl, ?_⟩
      have o7 := big.mut (s' := .own (rd ++ [d])) (o' := .lst (vs6 ++ [v])) q1 rfl q2 h06 hg6 ⟨D, _, rfl, h06, hg6, upd_same, dpAll_app da6 (dpAll_one dv)⟩
      rw [set_virt, List.set_append_right _ _ (Nat.le_refl _), Nat.sub_self] at o7
      have o8 := OkG.wipeF o7 hl6 [j]
      have eE : wipeE (((wipeE (env.set lw (some (.wat l st.1 st.2.1 st.2.2))) [j]).set j (some (.dat (.int cs[i])))).set lw (some (.wat l m' t' r'))) [j] = wipeE (env.set lw (some (.wat l m' t' r'))) [j] := by
        show ((((env.set lw (some (.wat l st.1 st.2.1 st.2.2))).set j none).set j (some (.dat (.int cs[i])))).set lw (some (.wat l m' t' r'))).set j none = (env.set lw (some (.wat l m' t' r'))).set j none
        refine List.ext_getElem? fun q => ?_
        by_cases h1 : j = q
        · subst h1
          rw [List.getElem?_set_self (by simp; exact hj), List.getElem?_set_self (by simp; exact hj)]
        · rw [List.getElem?_set_ne h1, List.getElem?_set_ne h1]
          by_cases h2 : lw = q
          · subst h2
            rw [List.getElem?_set_self (by simp; exact hlw), List.getElem?_set_self hlw]
          · rw [List.getElem?_set_ne h2, List.getElem?_set_ne h1, List.getElem?_set_ne h1, List.getElem?_set_ne h2, List.getElem?_set_ne h2]
      have eS : L2.wipe σ4 [j] = L2.wipe σ [j] := by
        have q1 : L2.wipe σ4 [j] = L2.wipe (L2.wipe σ [j]) [j] := wipe_eq hl4 fun q hq => hs4 q hq
        rw [q1]
        exact wipe_eq (wipe_length _ _) fun q hq => wipe_get hq
      rw [eE, eS] at o8
      exact o8
  · have e1 : i = cs.length := by omega
    subst e1
    refine .inl ⟨its (by rw [hds]; exact Nat.le_refl _), ?_⟩
    rw [List.take_length, run] at hrun
    cases hrun
    refine k D G2 H2 s2 (ok2.less ?_ fun q s h => ?_)
    · have := ok2.len
      simp only [List.length_append, wipeE_length, wipe_length, List.length_set] at this ⊢
      exact this
    · rcases app_cases h with ⟨hq, h⟩ | ⟨hq, h⟩
      · rw [List.length_set, List.length_set] at hq
        have hjq : j ≠ q := fun z => by
          subst z
          rw [List.getElem?_set_ne (Ne.symm hjl), List.getElem?_set_self hj] at h
          cases h
        refine ⟨?_, ?_⟩
        · rw [List.getElem?_append_left (by rw [wipeE_length, List.length_set]; exact hq)]
          show ((env.set lw _).set j none)[q]? = _
          rw [List.getElem?_set_ne hjq]
          by_cases h2 : lw = q
          · subst h2
            rw [List.getElem?_set_self (by rw [List.length_set]; exact hlw)] at h
            rw [List.getElem?_set_self hlw]
            exact h
          · rw [List.getElem?_set_ne h2, List.getElem?_set_ne hjq] at h
            rw [List.getElem?_set_ne h2]
            exact h
        · rw [List.getElem?_append_left (by omega), List.getElem?_append_left (by rw [wipe_length]; omega)]
          exact (wipe_get (by simp; exact fun z => hjq z.symm)).symm
      · rw [List.length_set, List.length_set] at hq h
        refine ⟨?_, ?_⟩
        · rw [List.getElem?_append_right (by rw [wipeE_length, List.length_set]; exact hq), wipeE_length, List.length_set]
          exact h
        · have a1 : (σ ++ (xs ++ [some (V.ref D)]))[q]? = (xs ++ [some (V.ref D)])[q - σ.length]? := List.getElem?_append_right (by omega)
          have a2 : (L2.wipe σ [j] ++ (xs ++ [some (V.ref D)]))[q]? = (xs ++ [some (V.ref D)])[q - (L2.wipe σ [j]).length]? := List.getElem?_append_right (by rw [wipe_length]; omega)
          rw [a1, a2, wipe_length]
/-- if not f(tuple(rows[n]), tuple([g(w, c) for c in cells[n]])): .. -/
theorem ho_same {call : Expr} {sa : List Stmt} {ta : TS} {pos p2 : Pos} {E : L2.St → XK} {F : List PyData → Res PyData} {φ : En → XO} {j lw jc jr n a1 a2 b : Nat} {p pr rc rr : Addr} {us ur : List V} {m : PyData} {t : Str} {r : List PyData} {cs : List Int} {ds : List PyData} {s1 : WSt}
    (h : PE X call (tCallS (spD X.K cm 2 F) E (tCons (tCB (rCallQ X.K tupleQ) (tCons (tOp (rIxL X.K) (tVar a1) (tVar b)) tNil)) (tCons (tCB (rCallQ X.K tupleQ) (tCons (tLc (tIter X.K (tOp (rIxL X.K) (tVar a2) (tVar b))) (tG X.prog X.w X.K (.one j)) (tT X.prog X.w X.K W0 cm pYes) (tX X.prog X.w X.K W0 cm φ) [j]) tNil)) tNil))))
    (hsa : PSs X sa ta) (he : ∀ whole, isTrue call X.env whole = (do let v ← whole; standAt call.pos; holding [v] (truthy v))) (hw : NoWaz env) (hj : j < env.length) (hlw : lw < env.length) (hjl : j ≠ lw)
    (h9 : env[lw]? = some (some (.wat none m t r))) (hr1 : env[a1]? = some (some (.raw (.ref pr)))) (ha : env[a2]? = some (some (.raw (.ref p)))) (hb : env[b]? = some (some (.dat (.int (n : Int))))) (hp : ∀ G, Pin G → G p = some (.lst us)) (hpr : ∀ G, Pin G → G pr = some (.lst ur)) (hu : us[n]? = some (.ref rc)) (hur : ur[n]? = some (.ref rr)) (hx : xs[jc]? = some (some (.ref rc))) (hd : xe[jc]? = some (some (.own (cs.map .int)))) (hxr : xs[jr]? = some (some (.ref rr))) (hdr : xe[jr]? = some (some (.own ds))) (hn : cs.length ≤ 1000)
    (hφ : ∀ (e : En) (c : Int) (m : PyData) (t : Str) (r : List PyData) (d m' : PyData) (t' : Str) (r' : List PyData), e[j]? = some (some (.dat (.int c))) → e[lw]? = some (some (.wat none m t r)) → W_L_lives m t r [.int c] = .ok d m' t' r' → φ e = .ok d (e.set lw (some (.wat none m' t' r'))))
    (run : runLv (m, t, r) cs = some (ds, s1)) (hF : F [.tuple ds, .tuple ds] = .ok (.bool true)) (hm : PinM Pin) :
    PS X (.If (.UnaryOp .Not call p2) sa [] pos) (tHo (FR X.prog X.w X.K G0 H0 Pin xs Gs env xe) (FR X.prog X.w X.K G0 H0 Pin xs Gs ((env.set j none).set lw none) xe)) := ps_imp (ps_if (pt_not (pt_truth h he)) hsa pss_nil) fun D σ H q => by
  obtain ⟨⟨G, s, pin, l, ok⟩, k⟩ := q
  show tOp (rIxL X.K) (tVar a1) (tVar b) σ H fun x H1 => rCallQ X.K tupleQ [x] H1 fun v1 H2 => tLc (tIter X.K (tOp (rIxL X.K) (tVar a2) (tVar b))) (tG X.prog X.w X.K (.one j)) (tT X.prog X.w X.K W0 cm pYes) (tX X.prog X.w X.K W0 cm φ) [j] σ H2 fun y H3 => rCallQ X.K tupleQ [y] H3 fun v2 H4 => spD X.K cm 2 F [v1, v2] H4 (fun z H5 => ∃ kk, TruV X.K z H5 kk ∧ (if (!kk) = true then ta D σ H5 else D.nx σ H5)) (E σ)
  refine t_at ok l hr1 hb (hpr G pin) hur ?_
  obtain ⟨_, _, p', vs, e', _, _, hh, da⟩ := virt ok l hdr hxr
  cases e'
  refine ⟨G, rr, vs, (false, ds), _, rfl, ok.gh, sqb_l (.inl (.inl hh)), da, rfl, fun v1 G1 H1 g1 dv1 => ?_⟩
  have ok1 := ok.grow g1
  refine t_compV ok1 l hw hj hlw hjl h9 ha hb (hp _ (hm _ _ g1.g pin)) hu hx hd hn hφ run fun L G2 H2 g2 ok2 => ?_
  have hxl : xe.length = xs.length := by
    have := ok.len
    rw [List.length_append, List.length_append] at this
    omega
  have hl2 : ((env.set j none).set lw (some (.wat none s1.1 s1.2.1 s1.2.2)) : En).length = σ.length := by rw [List.length_set, List.length_set]; exact l
  obtain ⟨_, _, p', vs2, e', _, _, hh2, da2⟩ := virt ok2 hl2 (j := xe.length) (s := .own ds) (v := .ref L) (by rw [List.getElem?_append_right (Nat.le_refl _), Nat.sub_self]; rfl) (by rw [hxl, List.getElem?_append_right (Nat.le_refl _), Nat.sub_self]; rfl)
  cases e'
  refine ⟨G2, L, vs2, (false, ds), _, rfl, ok2.gh, sqb_l (.inl (.inl hh2)), da2, rfl, fun v2 G3 H3 g3 dv2 => ?_⟩
  have ok3 := ok2.grow g3
  refine ⟨rfl, G3, [.tuple ds, .tuple ds], ok3.gh, .cons (dp_mono (g2.trans g3.g) _ _ dv1) (.cons dv2 .nil), ?_⟩
  rw [hF]
  intro z G4 H4 g4 dz
  cases dz
  refine ⟨true, rfl, ?_⟩
  rw [if_neg (by decide)]
  have ok4 := ok3.grow g4
  have gg := g1.g.trans (g2.trans (g3.g.trans g4.g))
  refine k σ H4 ⟨G4, s.trans gg, hm _ _ gg pin, by rw [List.length_set, List.length_set]; exact l, ok4.less (by simp; omega) fun q sv hq => ?_⟩
  rcases app_cases hq with ⟨hlq, hq⟩ | ⟨hlq, hq⟩
  · rw [List.length_set, List.length_set] at hlq
    have hq2 : lw ≠ q := fun z => by
      subst z
      rw [List.getElem?_set_self (by rw [List.length_set]; exact hlw)] at hq
      cases hq
    rw [List.getElem?_set_ne hq2] at hq
    refine ⟨?_, ?_⟩
    · rw [List.getElem?_append_left (by rw [List.length_set, List.length_set]; exact hlq), List.getElem?_set_ne hq2]
      exact hq
    · rw [List.getElem?_append_left (by omega), List.getElem?_append_left (by omega)]
  · rw [List.length_set, List.length_set] at hlq hq
    have hlt := (List.getElem?_eq_some_iff.mp hq).1
    refine ⟨?_, ?_⟩
    · rw [List.getElem?_append_right (by rw [List.length_set, List.length_set]; exact hlq), List.length_set, List.length_set, List.getElem?_append_left hlt]
      exact hq
    · have b1 : (σ ++ xs)[q]? = xs[q - σ.length]? := List.getElem?_append_right (by omega)
      have b2 : (σ ++ (xs ++ [some (V.ref L)]))[q]? = (xs ++ [some (V.ref L)])[q - σ.length]? := List.getElem?_append_right (by omega)
      rw [b1, b2, List.getElem?_append_left (by omega)]
end
end GL

/-! # Three watches told their deeds by turns -/
namespace GL
open PySem PySem.Spec PyProof.Rows L2
def BOK (f7 f8 : En → Res PyData) (sc kk : PyData) (ms : List PyData) : Prop := ∃ (cell : Nat → Int) (nn : Nat → Nat), ms.length = 3 ∧ (∀ m ∈ ms, LvOk m) ∧ ∀ t : Nat, t < 18 → nn t < 3 ∧
  (∀ e2 e3 e4 e5 e7 e8 e9 : Option SV, f7 [some (.dat sc), some (.dat kk), e2, e3, e4, e5, some (.dat (.int (t : Int))), e7, e8, e9] = .ok (.int (cell t))) ∧
  (∀ e0 e1 e2 e3 e4 e5 e6 e8 e9 : Option SV, f8 [e0, e1, e2, e3, e4, e5, e6, some (.dat (.int (cell t))), e8, e9] = .ok (.int (nn t : Int)))
abbrev env0 (sc kk : PyData) (ms : List PyData) : En := [some (.dat sc), some (.dat kk), some (.own ms), none, none, none, none, none, none, none]
open Classical in
noncomputable def gB (f7 f8 : En → Res PyData) : En → Out := fun env => match env with
  | [some (.dat sc), some (.dat kk), some (.own ms), _, _, _, _, _, _, _] => if BOK f7 f8 sc kk ms then .nx (env0 sc kk ms) else .no
  | _ => .no
theorem gB_e {f7 f8 : En → Res PyData} {sc kk : PyData} {ms : List PyData} (h : BOK f7 f8 sc kk ms) (e3 e4 e5 e6 e7 e8 e9 : Option SV) : gB f7 f8 [some (.dat sc), some (.dat kk), some (.own ms), e3, e4, e5, e6, e7, e8, e9] = .nx (env0 sc kk ms) := by
  unfold gB
  exact if_pos h
/-- the cells of the watch n till turn i -/
def cellsC (cell : Nat → Int) (nn : Nat → Nat) (n i : Nat) : List Int := ((List.range i).filter fun t => decide (nn t = n)).map cell
theorem cellsC_succ (cell : Nat → Int) (nn : Nat → Nat) (n i : Nat) : cellsC cell nn n (i + 1) = if nn i = n then cellsC cell nn n i ++ [cell i] else cellsC cell nn n i := by
  unfold cellsC
  rw [List.range_succ, List.filter_append, List.map_append]
  by_cases h : nn i = n <;> simp [h]
theorem cellsC_len (cell : Nat → Int) (nn : Nat → Nat) (n i : Nat) : (cellsC cell nn n i).length ≤ i := by
  unfold cellsC
  rw [List.length_map]
  exact Nat.le_trans (List.length_filter_le _ _) (by rw [List.length_range]; exact Nat.le_refl _)
def lvOf (m : PyData) (cs : List Int) : List PyData × WSt := (runLv (st0 m) cs).getD ([], st0 m)
theorem lvOf_run {m : PyData} (h : LvOk m) {cs : List Int} (hn : cs.length ≤ 18) : runLv (st0 m) cs = some (lvOf m cs) ∧ (lvOf m cs).1.length = cs.length ∧ F_L_same 6 [.tuple (lvOf m cs).1, .tuple (lvOf m cs).1] = .ok (.bool true) := by
  obtain ⟨ds, s, h1, h2, h3⟩ := h cs hn
  unfold lvOf
  rw [h1]
  exact ⟨rfl, h2, h3⟩
abbrev watS (s : WSt) : Option SV := some (.wat none s.1 s.2.1 s.2.2)
abbrev ownI (cs : List Int) : Option SV := some (.own (cs.map .int))
def VS (cell : Nat → Int) (nn : Nat → Nat) (m0 m1 m2 : PyData) (i : Nat) : En :=
  [watS (lvOf m0 (cellsC cell nn 0 i)).2, watS (lvOf m1 (cellsC cell nn 1 i)).2, watS (lvOf m2 (cellsC cell nn 2 i)).2,
   some (.own (lvOf m0 (cellsC cell nn 0 i)).1), some (.own (lvOf m1 (cellsC cell nn 1 i)).1), some (.own (lvOf m2 (cellsC cell nn 2 i)).1),
   ownI (cellsC cell nn 0 i), ownI (cellsC cell nn 1 i), ownI (cellsC cell nn 2 i)]
theorem lvOf_snoc {m : PyData} (h : LvOk m) {cs : List Int} {c : Int} (hn : cs.length + 1 ≤ 18) : ∃ d, W_L_lives (lvOf m cs).2.1 (lvOf m cs).2.2.1 (lvOf m cs).2.2.2 [.int c] = .ok d (lvOf m (cs ++ [c])).2.1 (lvOf m (cs ++ [c])).2.2.1 (lvOf m (cs ++ [c])).2.2.2 ∧ (lvOf m (cs ++ [c])).1 = (lvOf m cs).1 ++ [d] := by
  obtain ⟨h1, _, _⟩ := lvOf_run h (cs := cs) (by omega)
  obtain ⟨h2, _, _⟩ := lvOf_run h (cs := cs ++ [c]) (by simp; omega)
  have e : runLv (st0 m) cs = some ((lvOf m cs).1, (lvOf m cs).2) := h1
  have k := runLv_snoc cs (st0 m) c _ _ e
  rw [h2] at k
  cases hW : W_L_lives (lvOf m cs).2.1 (lvOf m cs).2.2.1 (lvOf m cs).2.2.2 [.int c] with
  | ok d m' t' r' =>
    rw [hW] at k
    simp only [Option.some.injEq] at k
    exact ⟨d, by rw [k], by rw [k]⟩
  | ex y m' t' r' => rw [hW] at k; cases k
  | no => rw [hW] at k; cases k
def NW1 (o : Option SV) : Prop := ∀ m t r, o ≠ some (.waz m t r)
theorem nw_cons {o : Option SV} {e : En} (h : NW1 o) (k : NoWaz e) : NoWaz (o :: e) := fun i m t r z => by
  cases i with
  | zero => exact h m t r (Option.some.inj z)
  | succ i => exact k i m t r z
theorem nw_nil : NoWaz [] := fun i m t r z => by simp at z
theorem nw_none : NW1 none := fun _ _ _ z => by cases z
theorem nw_dat (d : PyData) : NW1 (some (.dat d)) := fun _ _ _ z => by cases z
theorem nw_raw (v : V) : NW1 (some (.raw v)) := fun _ _ _ z => by cases z
theorem nw_own (ds : List PyData) : NW1 (some (.own ds)) := fun _ _ _ z => by cases z
theorem nw_wat (m : PyData) (t : Str) (r : List PyData) : NW1 (some (.wat none m t r)) := fun _ _ _ z => by cases z
section
variable {X : Cx} {W : WX} {cm : Str → Addr} {a c : L2.St → Hp → Prop} {rest : List Stmt}
theorem pss_exl {ι : Sort _} {a : ι → L2.St → Hp → Prop} (h : ∀ x, PSs X rest (tHo (a x) c)) : PSs X rest (tHo (fun σ H => ∃ x, a x σ H) c) := ⟨fun pins s σ H D I q => by
  obtain ⟨⟨x, hx⟩, k⟩ := q
  exact (h x).run pins s σ H D I ⟨hx, k⟩⟩
theorem pss_pure {φ : Prop} (h : φ → PSs X rest (tHo a c)) : PSs X rest (tHo (fun σ H => φ ∧ a σ H) c) := ⟨fun pins s σ H D I q => by
  obtain ⟨⟨x, hx⟩, k⟩ := q
  exact (h x).run pins s σ H D I ⟨hx, k⟩⟩
abbrev E10 (sc kk : PyData) (ms : List PyData) (p pr pc : Addr) (e6 e7 e8 e9 : Option SV) : En := [some (.dat sc), some (.dat kk), some (.own ms), some (.raw (.ref p)), some (.raw (.ref pr)), some (.raw (.ref pc)), e6, e7, e8, e9]
theorem nw10 {sc kk : PyData} {ms : List PyData} {p pr pc : Addr} {e6 e7 e8 e9 : Option SV} (h6 : NW1 e6) (h7 : NW1 e7) (h8 : NW1 e8) (h9 : NW1 e9) : NoWaz (E10 sc kk ms p pr pc e6 e7 e8 e9) :=
  nw_cons (nw_dat _) (nw_cons (nw_dat _) (nw_cons (nw_own _) (nw_cons (nw_raw _) (nw_cons (nw_raw _) (nw_cons (nw_raw _) (nw_cons h6 (nw_cons h7 (nw_cons h8 (nw_cons h9 nw_nil)))))))))
abbrev Pin9 (p pr pc x0 x1 x2 r0 r1 r2 c0 c1 c2 : Addr) : Hp → Prop := fun G => (True ∧ G p = some (.lst [.ref x0, .ref x1, .ref x2])) ∧ G pr = some (.lst [.ref r0, .ref r1, .ref r2]) ∧ G pc = some (.lst [.ref c0, .ref c1, .ref c2])
theorem pin9 (p pr pc x0 x1 x2 r0 r1 r2 c0 c1 c2 : Addr) : PinM (Pin9 p pr pc x0 x1 x2 r0 r1 r2 c0 c1 c2) := fun G G' s ⟨⟨_, h1⟩, h2, h3⟩ => ⟨⟨trivial, s _ _ h1⟩, s _ _ h2, s _ _ h3⟩
abbrev xs9 (x0 x1 x2 r0 r1 r2 c0 c1 c2 : Addr) : L2.St := [some (.ref x0), some (.ref x1), some (.ref x2), some (.ref r0), some (.ref r1), some (.ref r2), some (.ref c0), some (.ref c1), some (.ref c2)]
/-- one turn -/
theorem turn_b {sb1 sb2 : Stmt} {eb3 eb4 : Expr} {p3 p4 : Pos} {f7 f8 : En → Res PyData} {C : Addr} {E4 : L2.St → XK} {G0 H0 Gs : Hp} {sc kk m0 m1 m2 : PyData} {p pr pc x0 x1 x2 r0 r1 r2 c0 c1 c2 : Addr} {cell : Nat → Int} {nn : Nat → Nat} {i : Nat} {e7 e8 : Option SV} (T : WCls X.K X.mg C)
    (B1 : DS X W cm sb1 (sAsg (.one 7) f7)) (B2 : DS X W cm sb2 (sAsg (.one 8) f8))
    (B3 : PE X eb3 (tBM X.K "list" rAppend (tOp (rIxL X.K) (tVar 5) (tVar 8)) (tCons (tD X.prog X.w X.K W cm (fVar 7)) tNil))) (S3 : swapsWith eb3 none p3.line X.env = pure false)
    (B4 : PE X eb4 (tBM X.K "list" rAppend (tOp (rIxL X.K) (tVar 4) (tVar 8)) (tCons (tCallS (spW X.K cm C 1 W_L_lives) E4 (tCons (tOp (rIxL X.K) (tVar 3) (tVar 8)) (tCons (tD X.prog X.w X.K W cm (fVar 7)) tNil))) tNil))) (S4 : swapsWith eb4 none p4.line X.env = pure false)
    (hlv : LvOk m0 ∧ LvOk m1 ∧ LvOk m2) (hi : i < 18) (hn : nn i < 3)
    (h7 : ∀ e2 e3 e4 e5 e7 e8 e9 : Option SV, f7 [some (.dat sc), some (.dat kk), e2, e3, e4, e5, some (.dat (.int (i : Int))), e7, e8, e9] = .ok (.int (cell i)))
    (h8 : ∀ e0 e1 e2 e3 e4 e5 e6 e8 e9 : Option SV, f8 [e0, e1, e2, e3, e4, e5, e6, some (.dat (.int (cell i))), e8, e9] = .ok (.int (nn i : Int)))
    (n7 : NW1 e7) (n8 : NW1 e8) :
    PSs X [sb1, sb2, .Expr eb3 p3, .Expr eb4 p4] (tHo (FR X.prog X.w X.K G0 H0 (Pin9 p pr pc x0 x1 x2 r0 r1 r2 c0 c1 c2) (xs9 x0 x1 x2 r0 r1 r2 c0 c1 c2) Gs (E10 sc kk [m0, m1, m2] p pr pc (some (.dat (.int (i : Int)))) e7 e8 none) (VS cell nn m0 m1 m2 i))
      (FR X.prog X.w X.K G0 H0 (Pin9 p pr pc x0 x1 x2 r0 r1 r2 c0 c1 c2) (xs9 x0 x1 x2 r0 r1 r2 c0 c1 c2) Gs (E10 sc kk [m0, m1, m2] p pr pc (some (.dat (.int (i : Int)))) (some (.dat (.int (cell i)))) (some (.dat (.int (nn i : Int)))) none) (VS cell nn m0 m1 m2 (i + 1)))) := by
  have pm := pin9 p pr pc x0 x1 x2 r0 r1 r2 c0 c1 c2
  have l0 := cellsC_len cell nn 0 i
  have l1 := cellsC_len cell nn 1 i
  have l2 := cellsC_len cell nn 2 i
  have s0 := cellsC_succ cell nn 0 i
  have s1 := cellsC_succ cell nn 1 i
  have s2 := cellsC_succ cell nn 2 i
  refine ho_cons (ho_frame (env' := E10 sc kk [m0, m1, m2] p pr pc (some (.dat (.int (i : Int)))) (some (.dat (.int (cell i)))) e8 none) B1 ?_ (nw10 (nw_dat _) n7 n8 nw_none) (nw10 (nw_dat _) (nw_dat _) n8 nw_none) pm) ?_
  · show Out.ofR (f7 _) _ _ = _
    rw [h7]
    rfl
  refine ho_cons (ho_frame (env' := E10 sc kk [m0, m1, m2] p pr pc (some (.dat (.int (i : Int)))) (some (.dat (.int (cell i)))) (some (.dat (.int (nn i : Int)))) none) B2 ?_ (nw10 (nw_dat _) (nw_dat _) n8 nw_none) (nw10 (nw_dat _) (nw_dat _) (nw_dat _) nw_none) pm) ?_
  · show Out.ofR (f8 _) _ _ = _
    rw [h8]
    rfl
  generalize nn i = n at hn s0 s1 s2 ⊢
  generalize hc0 : cellsC cell nn 0 i = C0 at l0 s0
  generalize hc1 : cellsC cell nn 1 i = C1 at l1 s1
  generalize hc2 : cellsC cell nn 2 i = C2 at l2 s2
  have eV : VS cell nn m0 m1 m2 i = [watS (lvOf m0 C0).2, watS (lvOf m1 C1).2, watS (lvOf m2 C2).2, some (.own (lvOf m0 C0).1), some (.own (lvOf m1 C1).1), some (.own (lvOf m2 C2).1), ownI C0, ownI C1, ownI C2] := by
    unfold VS
    rw [hc0, hc1, hc2]
  obtain ⟨v0, v1, v2⟩ := hlv
  have n3 : n = 0 ∨ n = 1 ∨ n = 2 := by omega
  rcases n3 with rfl | rfl | rfl
  · rw [if_pos rfl] at s0
    rw [if_neg (by decide)] at s1 s2
    obtain ⟨d, hd1, hd2⟩ := lvOf_snoc v0 (cs := C0) (c := cell i) (by omega)
    have eV' : VS cell nn m0 m1 m2 (i + 1) = [watS (lvOf m0 (C0 ++ [cell i])).2, watS (lvOf m1 C1).2, watS (lvOf m2 C2).2, some (.own (lvOf m0 (C0 ++ [cell i])).1), some (.own (lvOf m1 C1).1), some (.own (lvOf m2 C2).1), ownI (C0 ++ [cell i]), ownI C1, ownI C2] := by
      unfold VS
      rw [s0, s1, s2]
    rw [eV, eV', hd2]
    have hl := (lvOf_run v0 (cs := C0) (by omega)).2.1
    refine ho_cons (ho_app (a := 5) (b := 8) (n := 0) (jn := 6) (p := pc) (r := c0) (ds := C0.map .int) (d := .int (cell i)) B3 rfl rfl (fun G h => h.2.2) rfl rfl rfl (by rw [List.length_map]; omega) rfl pm S3) ?_
    refine ho_last (ho_w1 (ho_appW (a := 4) (a2 := 3) (b := 8) (n := 0) (jn := 3) (jx := 0) (p := pr) (p2 := p) (r := r0) (x := x0) (c := .int (cell i)) T B4 rfl rfl rfl (fun G h => h.2.1) (fun G h => h.1.2) rfl rfl rfl rfl rfl rfl (by decide) (by rw [hl]; omega) rfl hd1 pm S4) (fun _ _ h => h) fun _ _ h => ?_)
    have e : (C0 ++ [cell i]).map PyData.int = C0.map .int ++ [.int (cell i)] := by rw [List.map_append]; rfl
    unfold ownI
    rw [e]
    exact h
  · rw [if_pos rfl] at s1
    rw [if_neg (by decide)] at s0 s2
    obtain ⟨d, hd1, hd2⟩ := lvOf_snoc v1 (cs := C1) (c := cell i) (by omega)
    have eV' : VS cell nn m0 m1 m2 (i + 1) = [watS (lvOf m0 C0).2, watS (lvOf m1 (C1 ++ [cell i])).2, watS (lvOf m2 C2).2, some (.own (lvOf m0 C0).1), some (.own (lvOf m1 (C1 ++ [cell i])).1), some (.own (lvOf m2 C2).1), ownI C0, ownI (C1 ++ [cell i]), ownI C2] := by
      unfold VS
      rw [s0, s1, s2]
    rw [eV, eV', hd2]
    have hl := (lvOf_run v1 (cs := C1) (by omega)).2.1
    refine ho_cons (ho_app (a := 5) (b := 8) (n := 1) (jn := 7) (p := pc) (r := c1) (ds := C1.map .int) (d := .int (cell i)) B3 rfl rfl (fun G h => h.2.2) rfl rfl rfl (by rw [List.length_map]; omega) rfl pm S3) ?_
    refine ho_last (ho_w1 (ho_appW (a := 4) (a2 := 3) (b := 8) (n := 1) (jn := 4) (jx := 1) (p := pr) (p2 := p) (r := r1) (x := x1) (c := .int (cell i)) T B4 rfl rfl rfl (fun G h => h.2.1) (fun G h => h.1.2) rfl rfl rfl rfl rfl rfl (by decide) (by rw [hl]; omega) rfl hd1 pm S4) (fun _ _ h => h) fun _ _ h => ?_)
    have e : (C1 ++ [cell i]).map PyData.int = C1.map .int ++ [.int (cell i)] := by rw [List.map_append]; rfl
    unfold ownI
    rw [e]
    exact h
  · rw [if_pos rfl] at s2
    rw [if_neg (by decide)] at s0 s1
    obtain ⟨d, hd1, hd2⟩ := lvOf_snoc v2 (cs := C2) (c := cell i) (by omega)
    have eV' : VS cell nn m0 m1 m2 (i + 1) = [watS (lvOf m0 C0).2, watS (lvOf m1 C1).2, watS (lvOf m2 (C2 ++ [cell i])).2, some (.own (lvOf m0 C0).1), some (.own (lvOf m1 C1).1), some (.own (lvOf m2 (C2 ++ [cell i])).1), ownI C0, ownI C1, ownI (C2 ++ [cell i])] := by
      unfold VS
      rw [s0, s1, s2]
    rw [eV, eV', hd2]
    have hl := (lvOf_run v2 (cs := C2) (by omega)).2.1
    refine ho_cons (ho_app (a := 5) (b := 8) (n := 2) (jn := 8) (p := pc) (r := c2) (ds := C2.map .int) (d := .int (cell i)) B3 rfl rfl (fun G h => h.2.2) rfl rfl rfl (by rw [List.length_map]; omega) rfl pm S3) ?_
    refine ho_last (ho_w1 (ho_appW (a := 4) (a2 := 3) (b := 8) (n := 2) (jn := 5) (jx := 2) (p := pr) (p2 := p) (r := r2) (x := x2) (c := .int (cell i)) T B4 rfl rfl rfl (fun G h => h.2.1) (fun G h => h.1.2) rfl rfl rfl rfl rfl rfl (by decide) (by rw [hl]; omega) rfl hd1 pm S4) (fun _ _ h => h) fun _ _ h => ?_)
    have e : (C2 ++ [cell i]).map PyData.int = C2.map .int ++ [.int (cell i)] := by rw [List.map_append]; rfl
    unfold ownI
    rw [e]
    exact h
end
end GL

/-! # The block of the law: three watches, their rows, the lone ones -/
namespace GL
open PySem PySem.Spec PyProof.Rows L2
abbrev φL : En → XO := xM 9 W_L_lives (fCons (fVar 7) fNil)
theorem φL_e (e : En) (c : Int) (m : PyData) (t : Str) (r : List PyData) (d m' : PyData) (t' : Str) (r' : List PyData) (h7 : e[7]? = some (some (.dat (.int c)))) (h9 : e[9]? = some (some (.wat none m t r))) (hW : W_L_lives m t r [.int c] = .ok d m' t' r') : φL e = .ok d (e.set 9 (some (.wat none m' t' r'))) := by
  have f7 : fCons (fVar 7) fNil e = .ok [.int c] := by simp (implicitDefEqProofs := false) [h7]
  show (if isWat e[9]? then xW 9 W_L_lives (fCons (fVar 7) fNil) e else .no) = _
  rw [h9, isWat_e, if_pos rfl]
  show (match fCons (fVar 7) fNil e with
    | .ok ds => wOut 9 e W_L_lives ds e[9]?
    | .ex y => .ex y e
    | .no => .no) = _
  rw [f7, h9]
  show (match W_L_lives m t r [.int c] with
    | .ok d m' t' rows' => XO.ok d (e.set 9 (some (.wat none m' t' rows')))
    | .ex y m' t' rows' => .ex y (e.set 9 (some (.wat none m' t' rows')))
    | .no => .no) = _
  rw [hW]
section
variable {X : Cx} {W : WX} {cm : Str → Addr}
theorem env0_less {P : Program} {w : World} {K : PySem.W.Frag} {G0 H0 G H : Hp} {σ : L2.St} {sc kk : PyData} {ms : List PyData} {e3 e4 e5 e6 e7 e8 e9 : Option SV} (ok : OkG P w K G0 H0 G [some (.dat sc), some (.dat kk), some (.own ms), e3, e4, e5, e6, e7, e8, e9] σ H) : OkG P w K G0 H0 G (env0 sc kk ms) σ H :=
  ok.less (by have := ok.len; simp at this ⊢; omega) fun i s h => by
    match i with
    | 0 => exact ⟨h, rfl⟩
    | 1 => exact ⟨h, rfl⟩
    | 2 => exact ⟨h, rfl⟩
    | 3 => cases h
    | 4 => cases h
    | 5 => cases h
    | 6 => cases h
    | 7 => cases h
    | 8 => cases h
    | 9 => cases h
    | n + 10 => simp at h
/-- one lone watch -/
theorem lone_b {sc1 : Stmt} {call : Expr} {sa : List Stmt} {ta : TS} {pn pi : Pos} {f4 : En → Res PyData} {E7 : L2.St → XK} {G0 H0 Gs : Hp} {sc kk m0 m1 m2 m : PyData} {p pr pc x0 x1 x2 r0 r1 r2 c0 c1 c2 : Addr} {cell : Nat → Int} {nn : Nat → Nat} {n : Nat} {e6 e7 e9 : Option SV} {jc jr : Nat} {rc rr : Addr}
    (C1 : DS X W cm sc1 (sWnew 9 f4))
    (C2 : PE X call (tCallS (spD X.K cm 2 (F_L_same 6)) E7 (tCons (tCB (rCallQ X.K tupleQ) (tCons (tOp (rIxL X.K) (tVar 4) (tVar 8)) tNil)) (tCons (tCB (rCallQ X.K tupleQ) (tCons (tLc (tIter X.K (tOp (rIxL X.K) (tVar 5) (tVar 8))) (tG X.prog X.w X.K (.one 7)) (tT X.prog X.w X.K W0 cm pYes) (tX X.prog X.w X.K W0 cm φL) [7]) tNil)) tNil))))
    (hsa : PSs X sa ta) (he : ∀ whole, isTrue call X.env whole = (do let v ← whole; standAt call.pos; holding [v] (truthy v)))
    (hf4 : ∀ (env : En) (ms : List PyData) (n : Nat) (m : PyData), env[2]? = some (some (.own ms)) → env[8]? = some (some (.dat (.int (n : Int)))) → ms[n]? = some m → f4 env = .ok m)
    (hm : [m0, m1, m2][n]? = some m) (hlv : LvOk m) (hu : [V.ref c0, .ref c1, .ref c2][n]? = some (.ref rc)) (hur : [V.ref r0, .ref r1, .ref r2][n]? = some (.ref rr)) (hx : (xs9 x0 x1 x2 r0 r1 r2 c0 c1 c2)[jc]? = some (some (.ref rc))) (hxr : (xs9 x0 x1 x2 r0 r1 r2 c0 c1 c2)[jr]? = some (some (.ref rr)))
    (hd : (VS cell nn m0 m1 m2 18)[jc]? = some (ownI (cellsC cell nn n 18))) (hdr : (VS cell nn m0 m1 m2 18)[jr]? = some (some (.own (lvOf m (cellsC cell nn n 18)).1))) (n6 : NW1 e6) (n7 : NW1 e7) (n9 : NW1 e9) :
    PSs X [sc1, .If (.UnaryOp .Not call pn) sa [] pi] (tHo (FR X.prog X.w X.K G0 H0 (Pin9 p pr pc x0 x1 x2 r0 r1 r2 c0 c1 c2) (xs9 x0 x1 x2 r0 r1 r2 c0 c1 c2) Gs (E10 sc kk [m0, m1, m2] p pr pc e6 e7 (some (.dat (.int (n : Int)))) e9) (VS cell nn m0 m1 m2 18))
      (FR X.prog X.w X.K G0 H0 (Pin9 p pr pc x0 x1 x2 r0 r1 r2 c0 c1 c2) (xs9 x0 x1 x2 r0 r1 r2 c0 c1 c2) Gs (E10 sc kk [m0, m1, m2] p pr pc e6 none (some (.dat (.int (n : Int)))) none) (VS cell nn m0 m1 m2 18))) := by
  have pm := pin9 p pr pc x0 x1 x2 r0 r1 r2 c0 c1 c2
  obtain ⟨k1, k2, k3⟩ := lvOf_run hlv (cs := cellsC cell nn n 18) (cellsC_len cell nn n 18)
  refine ho_cons (ho_frame (env' := E10 sc kk [m0, m1, m2] p pr pc e6 e7 (some (.dat (.int (n : Int)))) (some (wat0 m))) C1 ?_ (nw10 n6 n7 (nw_dat _) n9) (nw10 n6 n7 (nw_dat _) (nw_wat _ _ _)) pm) ?_
  · show Out.ofR (f4 _) _ _ = _
    rw [hf4 _ [m0, m1, m2] n m rfl rfl hm]
    rfl
  exact ho_last (ho_same (j := 7) (lw := 9) (jc := jc) (jr := jr) (n := n) (a1 := 4) (a2 := 5) (b := 8) (p := pc) (pr := pr) (rc := rc) (rr := rr) (m := m) (t := "") (r := [.tuple [.int 0]]) (cs := cellsC cell nn n 18) (ds := (lvOf m (cellsC cell nn n 18)).1) (s1 := (lvOf m (cellsC cell nn n 18)).2) C2 hsa he
    (nw10 n6 n7 (nw_dat _) (nw_wat _ _ _)) (by show 7 < 10; decide) (by show 9 < 10; decide) (by decide) rfl rfl rfl rfl (fun G h => h.2.2) (fun G h => h.2.1) hu hur hx hd hxr hdr (Nat.le_trans (cellsC_len cell nn n 18) (by decide)) φL_e k1 k3 pm)
theorem pss_block {st4 st5 sb1 sb2 sc1 : Stmt} {tg6 it6 tg7 it7 eb3 eb4 call : Expr} {sa : List Stmt} {ta : TS} {p3 p4 p6 p7 pn pi : Pos} {f4 f7 f8 : En → Res PyData} {fi4 fi6 fi7 : En → Res (List PyData)} {C : Addr} {E4 E7 : L2.St → XK} (T : WCls X.K X.mg C) (hp : PassesOwn (model X.prog X.w) X.A X.env X.xe) (hc : X.calm = true)
    (T4 : PS X st4 (tAsg (tLc (tI X.prog X.w X.K W cm fi4) (tG X.prog X.w X.K (.one 8)) (tT X.prog X.w X.K W0 cm pYes) (tNew X.prog X.w X.K W0 cm f4) [8]) (gName 3)))
    (T5 : PS X st5 (tPar 4 5 (tCons tL3 (tCons tL3 tNil))))
    (hi6 : DF X W cm tg6 it6 fi6) (hg6 : DG X tg6 (.one 6)) (hs6 : ∀ x, foldedSetIterable it6 X.env x = pure x)
    (B1 : DS X W cm sb1 (sAsg (.one 7) f7)) (B2 : DS X W cm sb2 (sAsg (.one 8) f8))
    (B3 : PE X eb3 (tBM X.K "list" rAppend (tOp (rIxL X.K) (tVar 5) (tVar 8)) (tCons (tD X.prog X.w X.K W cm (fVar 7)) tNil))) (S3 : swapsWith eb3 none p3.line X.env = pure false)
    (B4 : PE X eb4 (tBM X.K "list" rAppend (tOp (rIxL X.K) (tVar 4) (tVar 8)) (tCons (tCallS (spW X.K cm C 1 W_L_lives) E4 (tCons (tOp (rIxL X.K) (tVar 3) (tVar 8)) (tCons (tD X.prog X.w X.K W cm (fVar 7)) tNil))) tNil))) (S4 : swapsWith eb4 none p4.line X.env = pure false)
    (hi7 : DF X W cm tg7 it7 fi7) (hg7 : DG X tg7 (.one 8)) (hs7 : ∀ x, foldedSetIterable it7 X.env x = pure x)
    (C1 : DS X W cm sc1 (sWnew 9 f4))
    (C2 : PE X call (tCallS (spD X.K cm 2 (F_L_same 6)) E7 (tCons (tCB (rCallQ X.K tupleQ) (tCons (tOp (rIxL X.K) (tVar 4) (tVar 8)) tNil)) (tCons (tCB (rCallQ X.K tupleQ) (tCons (tLc (tIter X.K (tOp (rIxL X.K) (tVar 5) (tVar 8))) (tG X.prog X.w X.K (.one 7)) (tT X.prog X.w X.K W0 cm pYes) (tX X.prog X.w X.K W0 cm φL) [7]) tNil)) tNil))))
    (hsa : PSs X sa ta) (he : ∀ whole, isTrue call X.env whole = (do let v ← whole; standAt call.pos; holding [v] (truthy v)))
    (hfi4 : ∀ env, fi4 env = .ok [.int (0 : Nat), .int (1 : Nat), .int (2 : Nat)]) (hfi6 : ∀ env, fi6 env = .ok ((List.range 18).map fun (i : Nat) => .int (i : Int))) (hfi7 : ∀ env, fi7 env = .ok [.int (2 : Nat), .int (0 : Nat), .int (1 : Nat)])
    (hf4 : ∀ (env : En) (ms : List PyData) (n : Nat) (m : PyData), env[2]? = some (some (.own ms)) → env[8]? = some (some (.dat (.int (n : Int)))) → ms[n]? = some m → f4 env = .ok m) :
    DSs X W cm [st4, st5, .For tg6 it6 [sb1, sb2, .Expr eb3 p3, .Expr eb4 p4] [] p6, .For tg7 it7 [sc1, .If (.UnaryOp .Not call pn) sa [] pi] [] p7] (gB f7 f8) := by
  have main : ∀ (G0 H0 Gs : Hp) (sc kk : PyData) (ms : List PyData), BOK f7 f8 sc kk ms → PSs X [st4, st5, .For tg6 it6 [sb1, sb2, .Expr eb3 p3, .Expr eb4 p4] [] p6, .For tg7 it7 [sc1, .If (.UnaryOp .Not call pn) sa [] pi] [] p7]
      (tHo (FR X.prog X.w X.K G0 H0 (fun _ => True) [] Gs (env0 sc kk ms) []) (fun σ H => ∃ G, Same Gs G ∧ OkG X.prog X.w X.K G0 H0 G (env0 sc kk ms) σ H)) := by
    intro G0 H0 Gs sc kk ms hB
    obtain ⟨cell, nn, hl, hlv, hcell⟩ := hB
    match ms, hl with
    | [m0, m1, m2], _ =>
      have v0 := hlv m0 (by simp)
      have v1 := hlv m1 (by simp)
      have v2 := hlv m2 (by simp)
      refine ho_cons (ho_things (ms := [m0, m1, m2]) T4 (hfi4 _) rfl (fun n d hd => ?_) (fun _ _ _ _ => trivial) (by show 3 < 10; decide)) ?_
      · match n with
        | 0 => cases hd; exact ⟨m0, rfl, hf4 _ [m0, m1, m2] 0 m0 rfl rfl rfl⟩
        | 1 => cases hd; exact ⟨m1, rfl, hf4 _ [m0, m1, m2] 1 m1 rfl rfl rfl⟩
        | 2 => cases hd; exact ⟨m2, rfl, hf4 _ [m0, m1, m2] 2 m2 rfl rfl rfl⟩
        | n + 3 => simp at hd
      refine pss_exl fun p => pss_exl fun ys => pss_pure fun hy => ?_
      match ys, hy with
      | [x0, x1, x2], _ =>
        refine ho_cons (ho_rows T5 (by show 4 < 10; decide) (by show 5 < 10; decide) (fun G G' s h => ⟨trivial, s _ _ h.2⟩)) ?_
        refine pss_exl fun pr => pss_exl fun pc => pss_exl fun r0 => pss_exl fun r1 => pss_exl fun r2 => pss_exl fun c0 => pss_exl fun c1 => pss_exl fun c2 => ?_
        have pm := pin9 p pr pc x0 x1 x2 r0 r1 r2 c0 c1 c2
        refine ho_cons (ho_w1 (ho_for (Pin := Pin9 p pr pc x0 x1 x2 r0 r1 r2 c0 c1 c2) (xs := xs9 x0 x1 x2 r0 r1 r2 c0 c1 c2) (ds := (List.range 18).map fun (i : Nat) => .int (i : Int)) (Ψ := fun i env xe => ∃ e6 e7 e8, NW1 e6 ∧ NW1 e7 ∧ NW1 e8 ∧ env = E10 sc kk [m0, m1, m2] p pr pc e6 e7 e8 none ∧ xe = VS cell nn m0 m1 m2 i)
          hp hc hi6 hg6 pm (fun env xe _ => hfi6 env) (fun i env xe ⟨e6, e7, e8, n6, n7, n8, e, _⟩ => e ▸ nw10 n6 n7 n8 nw_none) (fun Gs i d env xe ⟨e6, e7, e8, n6, n7, n8, e, ex⟩ hd => ?_) hs6) (a' := FR X.prog X.w X.K G0 H0 (Pin9 p pr pc x0 x1 x2 r0 r1 r2 c0 c1 c2) (xs9 x0 x1 x2 r0 r1 r2 c0 c1 c2) Gs (E10 sc kk [m0, m1, m2] p pr pc none none none none) (VS cell nn m0 m1 m2 0))
          (b' := fun σ H => ∃ e6 e7 e8, NW1 e6 ∧ NW1 e7 ∧ NW1 e8 ∧ FR X.prog X.w X.K G0 H0 (Pin9 p pr pc x0 x1 x2 r0 r1 r2 c0 c1 c2) (xs9 x0 x1 x2 r0 r1 r2 c0 c1 c2) Gs (E10 sc kk [m0, m1, m2] p pr pc e6 e7 e8 none) (VS cell nn m0 m1 m2 18) σ H) (fun σ H h => ⟨_, _, ⟨none, none, none, nw_none, nw_none, nw_none, rfl, rfl⟩, h⟩) fun σ H ⟨env, xe, ⟨e6, e7, e8, n6, n7, n8, e, ex⟩, h⟩ => ⟨e6, e7, e8, n6, n7, n8, by
            rw [List.length_map, List.length_range] at ex
            rw [← e, ← ex]
            exact h⟩) ?_
        · subst e ex
          have hi : i < 18 := by
            have := (List.getElem?_eq_some_iff.mp hd).1
            rwa [List.length_map, List.length_range] at this
          have ed : d = .int (i : Int) := by
            rw [List.getElem?_map, List.getElem?_range hi] at hd
            exact (Option.some.inj hd).symm
          subst ed
          obtain ⟨hn, h7, h8⟩ := hcell i hi
          exact ho_w (turn_b T B1 B2 B3 S3 B4 S4 ⟨v0, v1, v2⟩ hi hn h7 h8 n7 n8) (fun _ _ h => h) fun _ _ h => ⟨_, _, ⟨_, _, _, nw_dat _, nw_dat _, nw_dat _, rfl, rfl⟩, h⟩
        refine pss_exl fun e6 => pss_exl fun e7 => pss_exl fun e8 => pss_pure fun n6 => pss_pure fun n7 => pss_pure fun n8 => ?_
        refine ho_last (ho_w1 (ho_for (Pin := Pin9 p pr pc x0 x1 x2 r0 r1 r2 c0 c1 c2) (xs := xs9 x0 x1 x2 r0 r1 r2 c0 c1 c2) (ds := [.int (2 : Nat), .int (0 : Nat), .int (1 : Nat)]) (Ψ := fun i env xe => ∃ e6 e7 e8 e9, NW1 e6 ∧ NW1 e7 ∧ NW1 e8 ∧ NW1 e9 ∧ env = E10 sc kk [m0, m1, m2] p pr pc e6 e7 e8 e9 ∧ xe = VS cell nn m0 m1 m2 18)
          hp hc hi7 hg7 pm (fun env xe _ => hfi7 env) (fun i env xe ⟨e6, e7, e8, e9, n6, n7, n8, n9, e, _⟩ => e ▸ nw10 n6 n7 n8 n9) (fun Gs i d env xe ⟨e6, e7, e8, e9, n6, n7, n8, n9, e, ex⟩ hd => ?_) hs7) (fun σ H h => ⟨_, _, ⟨e6, e7, e8, none, n6, n7, n8, nw_none, rfl, rfl⟩, h⟩) fun σ H ⟨env, xe, ⟨e6, e7, e8, e9, n6, n7, n8, n9, e, ex⟩, h⟩ => ?_)
        · subst e ex
          match i with
          | 0 =>
            cases hd
            exact ho_w (lone_b (n := 2) (jc := 8) (jr := 5) C1 C2 hsa he hf4 rfl v2 rfl rfl rfl rfl rfl rfl n6 n7 n9) (fun _ _ h => h) fun _ _ h => ⟨_, _, ⟨_, _, _, _, n6, nw_none, nw_dat _, nw_none, rfl, rfl⟩, h⟩
          | 1 =>
            cases hd
            exact ho_w (lone_b (n := 0) (jc := 6) (jr := 3) C1 C2 hsa he hf4 rfl v0 rfl rfl rfl rfl rfl rfl n6 n7 n9) (fun _ _ h => h) fun _ _ h => ⟨_, _, ⟨_, _, _, _, n6, nw_none, nw_dat _, nw_none, rfl, rfl⟩, h⟩
          | 2 =>
            cases hd
            exact ho_w (lone_b (n := 1) (jc := 7) (jr := 4) C1 C2 hsa he hf4 rfl v1 rfl rfl rfl rfl rfl rfl n6 n7 n9) (fun _ _ h => h) fun _ _ h => ⟨_, _, ⟨_, _, _, _, n6, nw_none, nw_dat _, nw_none, rfl, rfl⟩, h⟩
          | i + 3 => simp at hd
        · obtain ⟨G, s, _, hlen, ok⟩ := h
          subst e
          exact ⟨G, s, env0_less (ok.front hlen)⟩
  have fam : PSs X [st4, st5, .For tg6 it6 [sb1, sb2, .Expr eb3 p3, .Expr eb4 p4] [] p6, .For tg7 it7 [sc1, .If (.UnaryOp .Not call pn) sa [] pi] [] p7]
      (fun D σ H => ∃ (G0 H0 Gs : Hp) (sc kk : PyData) (ms : List PyData), BOK f7 f8 sc kk ms ∧ tHo (FR X.prog X.w X.K G0 H0 (fun _ => True) [] Gs (env0 sc kk ms) []) (fun σ H => ∃ G, Same Gs G ∧ OkG X.prog X.w X.K G0 H0 G (env0 sc kk ms) σ H) D σ H) :=
    ⟨fun pins s σ H D I ⟨G0, H0, Gs, sc, kk, ms, hB, q⟩ => (main G0 H0 Gs sc kk ms hB).run pins s σ H D I q⟩
  refine pss_imp fam fun D σ H q => ?_
  obtain ⟨G0, H0, G, env, ok, q⟩ := q
  unfold gB at q
  split at q
  · rename_i sc kk ms e3 e4 e5 e6 e7 e8 e9
    split at q
    · rename_i hB
      have ok0 := env0_less ok
      refine ⟨G0, H0, G, sc, kk, ms, hB, ⟨G, Same.refl G, trivial, ok0.len, by rw [List.append_nil, List.append_nil]; exact ok0⟩, fun σ' H' ⟨G', s', ok'⟩ => q G' σ' H' s' ok'⟩
    · exact q.elim
  · exact q.elim
end
end GL

/-! # The law's own expressions -/
namespace GL
open PySem PySem.Spec PyProof.Rows L2
section
variable {X : Cx} {W : WX} {cm : Str → Addr}
theorem pe_clA {k k' : Nat} {ps : List Str} {x : Str} {p pos : Pos} {e : Expr} {es : List Expr} {t : TA} {sp : Sp} (M : Callee X.prog X.w X.K X.mg X.base k x ps sp) (hr : Room k' X.A) (hle : k ≤ k') (tk : Takes X W) (ha : PA X (e :: es) t) (hg : Gl X x := by rfl)
    (hdb : (x == ("__debug__" : Str)) = false := by decide) (he : starEach (e :: es) X.env = (false, eval e X.env) :: starEach es X.env := by rfl) (hpl : (backTo pos (starEach es X.env)).any (·.1) = false := by rfl) :
    PE X (.Call (.Name x p) (e :: es) [] pos) (tCallS sp (fun σ => WE W σ) t) := by
  obtain ⟨f, fd, h1, h2, h3, h4⟩ := M
  exact pe_callS h4 (hr.mono hle) hg h3 h1 h2 (fun σ => passAt tk σ) ha hdb he hpl
end
theorem f4_e (env : En) (ms : List PyData) (n : Nat) (m : PyData) (h2 : env[2]? = some (some (.own ms))) (h8 : env[8]? = some (some (.dat (.int (n : Int))))) (hm : ms[n]? = some m) : (fIxQ (fQV 2) (fVar 8)) env = .ok m := by
  have h : atI ms (n : Int) = some m := by rw [atI_nat]; exact hm
  simp (implicitDefEqProofs := false) [h2, h8, h]
theorem fi4_e (env : En) : (fRange (fCons (fC (.int 3)) (fNil))) env = .ok [.int (0 : Nat), .int (1 : Nat), .int (2 : Nat)] := by
  have hr : rangeD [.int 3] = .ok ((List.range 3).map fun (i : Nat) => .int (i : Int)) := rangeD_n (n := 3) (by decide)
  simp (implicitDefEqProofs := false) only [fRange_e, fCons_e, fC_e, fNil_e, Res.bind_ok, Res.map_ok, hr]
  rfl
theorem fi6_e (env : En) : (fRange (fCons (fC (.int 18)) (fNil))) env = .ok ((List.range 18).map fun (i : Nat) => .int (i : Int)) := by
  have hr : rangeD [.int 18] = .ok ((List.range 18).map fun (i : Nat) => .int (i : Int)) := rangeD_n (n := 18) (by decide)
  simp (implicitDefEqProofs := false) only [fRange_e, fCons_e, fC_e, fNil_e, Res.bind_ok, Res.map_ok, hr]
theorem fi7_e (env : En) : (fItems (fTup (fCons (fC (.int 2)) (fCons (fC (.int 0)) (fCons (fC (.int 1)) (fNil)))))) env = .ok [.int (2 : Nat), .int (0 : Nat), .int (1 : Nat)] := by
  simp (implicitDefEqProofs := false)
end GL

namespace GL
open PySem PySem.Spec PyProof.Rows L2
noncomputable def b1_law : En → Out :=
  sSeq (sOwn 2 (fDsp (fCons (fCall F_L_machine (fCons (fAdd (fCall F_L_cell (fCons (fVar 0) (fCons (fVar 1) (fNil)))) (fMul (fC (.int 3)) (fVar 1))) (fNil))) (fNil)))) <|
  sSeq (sOwn 2 (fCat (fQV 2) (fQL (fDsp (fCons (fCall F_L_machine (fCons (fAdd (fCall F_L_cell (fCons (fVar 0) (fCons (fC (.int 9)) (fNil)))) (fVar 1)) (fNil))) (fNil)))))) <|
  sSeq (sApp 2 (fIxQ (fQV 2) (fC (.int 0)))) <|
  gB (fAdd (fAdd (fCall F_L_cell (fCons (fVar 0) (fCons (fAdd (fC (.int 3)) (fMod (fVar 6) (fC (.int 7)))) (fNil)))) (fMul (fC (.int 41)) (fVar 6))) (fVar 1)) (fCall F_L_mix (fCons (fVar 7) (fCons (fC (.int 9319)) (fCons (fC (.int 3)) (fNil)))))
noncomputable def g_law : En → Out :=
  sSeq (sFor (.one 1) (fRange (fCons (fC (.int 3)) (fNil))) b1_law) <|
  sRet (fC (.bool true))
noncomputable def F_law : List PyData → Res PyData := runD g_law 10
end GL

namespace GL
open PySem PySem.Spec PyProof.Rows L2 TL
theorem law_bok (ns : List Int) (k : Nat) {A B : Mac} (gA : A.Good) (gB : B.Good) : BOK (fAdd (fAdd (fCall F_L_cell (fCons (fVar 0) (fCons (fAdd (fC (.int 3)) (fMod (fVar 6) (fC (.int 7)))) (fNil)))) (fMul (fC (.int 41)) (fVar 6))) (fVar 1)) (fCall F_L_mix (fCons (fVar 7) (fCons (fC (.int 9319)) (fCons (fC (.int 3)) (fNil)))))
    (.list (ns.map .int)) (.int (k : Int)) [A.D, B.D, A.D] := by
  refine ⟨fun t => cellN ns (3 + t % 7) + 41 * (t : Int) + (k : Int), fun t => mixN (cellN ns (3 + t % 7) + 41 * (t : Int) + (k : Int)) 9319 3, rfl, fun m hm => ?_, fun t ht => ⟨mix_lt rfl (by decide), fun e2 e3 e4 e5 e7 e8 e9 => ?_, fun e0 e1 e2 e3 e4 e5 e6 e8 e9 => ?_⟩⟩
  · simp at hm
    rcases hm with rfl | rfl | rfl
    · exact lvOk gA
    · exact lvOk gB
    · exact lvOk gA
  · have hc : F_L_cell [.list (ns.map .int), .int (3 + (t : Int) % 7)] = .ok (.int (cellN ns (3 + t % 7))) := by
      rw [show (3 : Int) + (t : Int) % 7 = ((3 + t % 7 : Nat) : Int) by omega]
      exact cell_F ns (3 + t % 7)
    have hm : mulOk 41 (t : Int) = true := by unfold mulOk; simp
    simp (implicitDefEqProofs := false) [hc, hm]
  · have hm := mix_F (a := cellN ns (3 + t % 7) + 41 * (t : Int) + (k : Int)) (p := 9319) (m := 3) (by decide) (by decide) (by decide)
    simp (implicitDefEqProofs := false) [hm]
theorem law_b1 (ns : List Int) (k : Nat) (e2 e3 e4 e5 e6 e7 e8 e9 : Option SV) : ∃ f2 f3 f4 f5 f6 f7 f8 f9,
    b1_law [some (.dat (.list (ns.map .int))), some (.dat (.int (k : Int))), e2, e3, e4, e5, e6, e7, e8, e9] = .nx [some (.dat (.list (ns.map .int))), some (.dat (.int (k : Int))), f2, f3, f4, f5, f6, f7, f8, f9] := by
  have hc := cell_F ns k
  have hc9 : F_L_cell [.list (ns.map .int), .int 9] = .ok (.int (cellN ns 9)) := cell_F ns 9
  have m3 : mulOk 3 (k : Int) = true := by unfold mulOk; simp
  obtain ⟨x1, hx1⟩ : ∃ x : Int, cellN ns k + 3 * (k : Int) = x := ⟨_, rfl⟩
  obtain ⟨x2, hx2⟩ : ∃ x : Int, cellN ns 9 + (k : Int) = x := ⟨_, rfl⟩
  have gA := mac_good x1
  have hA := mac_F x1
  generalize mac x1 = A at gA hA
  have gB := mac_good x2
  have hB := mac_F x2
  generalize mac x2 = B at gB hB
  have h3 : (2 : Nat) < sizeLine := by decide
  have h2 : (2 : Nat) ≤ sizeLine := by decide
  have ha : atI [A.D, B.D] 0 = some A.D := rfl
  have hb := law_bok ns k gA gB
  refine ⟨some (.own [A.D, B.D, A.D]), none, none, none, none, none, none, none, ?_⟩
  rw [b1_law]
  refine (sSeq_nx (e := [some (.dat (.list (ns.map .int))), some (.dat (.int (k : Int))), some (.own [A.D]), e3, e4, e5, e6, e7, e8, e9]) (by
    simp (implicitDefEqProofs := false) [hc, m3, hx1, hA])).trans ?_
  refine (sSeq_nx (e := [some (.dat (.list (ns.map .int))), some (.dat (.int (k : Int))), some (.own [A.D, B.D]), e3, e4, e5, e6, e7, e8, e9]) (by
    simp (implicitDefEqProofs := false) [hc9, hx2, hB, h2])).trans ?_
  refine (sSeq_nx (e := [some (.dat (.list (ns.map .int))), some (.dat (.int (k : Int))), some (.own [A.D, B.D, A.D]), e3, e4, e5, e6, e7, e8, e9]) (by
    simp (implicitDefEqProofs := false) [ha, h3])).trans ?_
  exact gB_e hb e3 e4 e5 e6 e7 e8 e9
theorem law_F (ns : List Int) : F_law [.list (ns.map .int)] = .ok (.bool true) := by
  have hr : rangeD [.int 3] = .ok ((List.range 3).map fun (i : Nat) => .int (i : Int)) := rangeD_n (n := 3) (by decide)
  obtain ⟨e', h1, k1, k2, k3, k4, k5, k6, k7, k8, k9, rfl⟩ := forL_range (t := .one 1) (g := b1_law) (fun n env => ∃ k1 k2 k3 k4 k5 k6 k7 k8 k9 : Option SV, env = [some (.dat (.list (ns.map .int))), k1, k2, k3, k4, k5, k6, k7, k8, k9]) 3 [some (.dat (.list (ns.map .int))), none, none, none, none, none, none, none, none, none] (fun k hk env ⟨k1, k2, k3, k4, k5, k6, k7, k8, k9, e⟩ => by
    subst e
    obtain ⟨f2, f3, f4, f5, f6, f7, f8, f9, h⟩ := law_b1 ns k k2 k3 k4 k5 k6 k7 k8 k9
    exact ⟨_, _, rfl, h, _, f2, f3, f4, f5, f6, f7, f8, f9, rfl⟩) ⟨none, none, none, none, none, none, none, none, none, rfl⟩
  refine runD_rt ?_
  rw [g_law]
  simp (implicitDefEqProofs := false) [initE, hr, h1]
end GL

namespace GL
open PySem PySem.Spec PyProof.Rows L2
def topS (i : Nat) : Stmt := PySem.Challenge.pw_gaplogs_k20_watches_apart.main.body.getD i (.Pass ⟨0, 0, 0, 0⟩)
section
variable {P : Program} {w : World} {K : PySem.W.Frag} {mg : Str → Option Value} {base : Heap} {cm : Str → Addr}
abbrev s_W_back : Stmt := inClass (topS 12) 5
theorem sc_W_back : FnScope ["self"] ["self"] (defScope s_W_back) := ⟨rfl, rfl, rfl, by decide +kernel, rfl, by decide +kernel, by decide +kernel⟩
set_option maxHeartbeats 4000000 in
theorem m_W_back {C_W f : Addr} {fd : FuncData} (Tw : WCls K mg C_W) (F : Fun K "back" "Watch.back" s_W_back f fd) (M : Meth K C_W "back" f) (e_NoSign : ExcOk K mg "NoSign" (cm "NoSign")) : WMet P w K mg base 1 C_W "back" ["self"] (spW K cm C_W 0 W_back) :=
  have S := sc_W_back
  ⟨f, fd, M, F.binds (fun _ _ _ _ _ _ us hl => match us, hl with | [_], _ => rfl), fnW Tw F sc_W_back run_W_back rfl (by decide) fun cdv A outer s H E hr tk po =>
  (ds_cons (ds_if (dt_eq hr (de_wT 0 Tw) de_str) (ds_last (ds_raise rfl tk e_NoSign)) ds_nil)
  (ds_cons (ds_wSet 0 Tw (de_sl (de_wT 0 Tw) do_n (do_s de_neg)))
  (ds_last (ds_wPop 0 Tw (pe_bm0 PySem.F.plainAttrs_list PySem.F.slot_list_pop PySem.F.type_list_pop mt_pop (pe_fld (pv 0) rfl))))))⟩
abbrev s_W_add : Stmt := inClass (topS 12) 1
theorem sc_W_add : FnScope ["self", "sign"] ["self", "sign"] (defScope s_W_add) := ⟨rfl, rfl, rfl, by decide +kernel, rfl, by decide +kernel, by decide +kernel⟩
set_option maxHeartbeats 4000000 in
theorem m_W_add {C_W f : Addr} {fd : FuncData} (Tw : WCls K mg C_W) (F : Fun K "add" "Watch.add" s_W_add f fd) (M : Meth K C_W "add" f) (c_by_sign : Callee P w K mg base 3 "by_sign" ["machine", "some", "sign"] (spD K cm 3 F_by_sign)) : WMet P w K mg base 4 C_W "add" ["self", "sign"] (spW K cm C_W 1 W_add) :=
  have S := sc_W_add
  ⟨f, fd, M, F.binds (fun _ _ _ _ _ _ us hl => match us, hl with | [_, _], _ => rfl), fnW Tw F sc_W_add run_W_add rfl (by decide) fun cdv A outer s H E hr tk po =>
  (ds_cons (ds_wSet 0 Tw (de_add (de_wT 0 Tw) (de_v 1)))
  (ds_last (ds_wApp 0 Tw (pe_bm PySem.F.plainAttrs_list PySem.F.slot_list_append PySem.F.type_list_append mt_append (pe_fld (pv 0) rfl) (pa_cons (de_cl c_by_sign hr (by decide) tk (da_cons (de_wM 0 Tw) (da_cons (de_ixQ (dq_wR 0 Tw) de_neg) (da_cons (de_v 1) da_nil))) (ln_cons (ln_cons (ln_cons ln_nil)))) pa_nil)))))⟩
abbrev s_W_log : Stmt := inClass (topS 12) 2
theorem sc_W_log : FnScope ["self"] ["self"] (defScope s_W_log) := ⟨rfl, rfl, rfl, by decide +kernel, rfl, by decide +kernel, by decide +kernel⟩
set_option maxHeartbeats 4000000 in
theorem m_W_log {C_W f : Addr} {fd : FuncData} (Tw : WCls K mg C_W) (F : Fun K "log" "Watch.log" s_W_log f fd) (M : Meth K C_W "log" f) : WMet P w K mg base 1 C_W "log" ["self"] (spR K cm C_W 0 R_log) :=
  have S := sc_W_log
  ⟨f, fd, M, F.binds (fun _ _ _ _ _ _ us hl => match us, hl with | [_], _ => rfl), fnR (g := g_R_log) Tw F sc_W_log rfl (by decide) fun cdv A outer s H E hr tk po =>
  (ds_last (ds_ret (de_wT 0 Tw)))⟩
abbrev s_W_now : Stmt := inClass (topS 12) 3
theorem sc_W_now : FnScope ["self"] ["self"] (defScope s_W_now) := ⟨rfl, rfl, rfl, by decide +kernel, rfl, by decide +kernel, by decide +kernel⟩
set_option maxHeartbeats 4000000 in
theorem m_W_now {C_W f : Addr} {fd : FuncData} (Tw : WCls K mg C_W) (F : Fun K "now" "Watch.now" s_W_now f fd) (M : Meth K C_W "now" f) : WMet P w K mg base 1 C_W "now" ["self"] (spR K cm C_W 0 R_now) :=
  have S := sc_W_now
  ⟨f, fd, M, F.binds (fun _ _ _ _ _ _ us hl => match us, hl with | [_], _ => rfl), fnR (g := g_R_now) Tw F sc_W_now rfl (by decide) fun cdv A outer s H E hr tk po =>
  (ds_last (ds_ret (de_ixQ (dq_wR 0 Tw) de_neg)))⟩
abbrev s_W_could_end : Stmt := inClass (topS 12) 4
theorem sc_W_could_end : FnScope ["self"] ["self"] (defScope s_W_could_end) := ⟨rfl, rfl, rfl, by decide +kernel, rfl, by decide +kernel, by decide +kernel⟩
set_option maxHeartbeats 4000000 in
theorem m_W_could_end {C_W f : Addr} {fd : FuncData} (Tw : WCls K mg C_W) (F : Fun K "could_end" "Watch.could_end" s_W_could_end f fd) (M : Meth K C_W "could_end" f) (c_has_end : Callee P w K mg base 1 "has_end" ["machine", "some"] (spD K cm 2 F_has_end)) : WMet P w K mg base 2 C_W "could_end" ["self"] (spR K cm C_W 0 R_end) :=
  have S := sc_W_could_end
  ⟨f, fd, M, F.binds (fun _ _ _ _ _ _ us hl => match us, hl with | [_], _ => rfl), fnR (g := g_R_end) Tw F sc_W_could_end rfl (by decide) fun cdv A outer s H E hr tk po =>
  (ds_last (ds_ret (de_cl c_has_end hr (by decide) tk (da_cons (de_wM 0 Tw) (da_cons (de_ixQ (dq_wR 0 Tw) de_neg) da_nil)) (ln_cons (ln_cons ln_nil)))))⟩
abbrev s_W_new : Stmt := inClass (topS 12) 0
theorem sc_W_new : FnScope ["self", "machine"] ["self", "machine"] (defScope s_W_new) := ⟨rfl, rfl, rfl, by decide +kernel, rfl, by decide +kernel, by decide +kernel⟩
set_option maxHeartbeats 4000000 in
theorem m_W_new {C_W f : Addr} {fd : FuncData} (Tw : WCls K mg C_W) (F : Fun K "__init__" "Watch.__init__" s_W_new f fd) (M : Mk K C_W f) : WMake P w K mg base 1 C_W :=
  ⟨f, fd, M, F.binds (fun _ _ _ _ _ _ us hl => match us, hl with | [_, _], _ => rfl), fn_new Tw F sc_W_new (by decide) fun cdv A outer s H E hr => pss_cons (ps_fld (pv 0) (pv 1) rfl) (pss_cons (ps_fld (pv 0) pe_str rfl) (pss_one (ps_fld (pv 0) (pe_lst (pa_cons (pe_tup (pa_cons pe_int pa_nil)) pa_nil)) rfl)))⟩
abbrev s_by_letters : Stmt := topS 7
abbrev N_by_letters : List Str := ["machine", "some", "letters", "begin", "letter", "goal"]
theorem sc_by_letters : FnScope N_by_letters ["machine", "some", "letters"] (defScope s_by_letters) := ⟨rfl, rfl, rfl, by decide +kernel, rfl, by decide +kernel, by decide +kernel⟩
set_option maxHeartbeats 4000000 in
theorem c_by_letters (T : Blt mg) (D : DefAt K mg "by_letters" s_by_letters) : Callee P w K mg base 1 "by_letters" ["machine", "some", "letters"] (spD K cm 3 F_by_letters) :=
  have S := sc_by_letters
  callee_D D S (fun _ _ _ _ _ _ us hl => match us, hl with | [_, _, _], _ => rfl) fun cdv A outer s H E hr tk po =>
  (ds_last (ds_ret (de_tupQ T (dq_l (dl_sortSet T hr rfl (dq_l (dl_lc (own := [("begin", 3), ("letter", 4), ("goal", 5)]) (t := (.many [3, 4, 5])) rfl S.nd (di_f (df_e (de_ix (de_v 0) de_int))) (blkOk_by (N := N_by_letters) (sc := defScope s_by_letters) (own := [("begin", 3), ("letter", 4), ("goal", 5)]) (by decide +kernel)) (by decide) (fun _ _ _ _ _ => (dg_many (is := [3, 4, 5]) rfl (pgs_cons (pg_name (i := 3) S.nd rfl (by first | exact Or.inl rfl | exact Or.inr rfl)) (pgs_cons (pg_name (i := 4) S.nd rfl (by first | exact Or.inl rfl | exact Or.inr rfl)) (pgs_cons (pg_name (i := 5) S.nd rfl (by first | exact Or.inl rfl | exact Or.inr rfl)) pgs_nil))))) (fun _ _ _ _ _ => (dts_one (dt_w (dw_and (dt_in hr (de_v 3) (de_v 1)) (dw_and1 (dt_in hr (de_v 4) (de_v 2))))))) (fun _ _ _ _ _ => (de_v 5)))))))))
abbrev s_reached : Stmt := topS 8
abbrev N_reached : List Str := ["machine", "some", "found", "new"]
theorem sc_reached : FnScope N_reached ["machine", "some"] (defScope s_reached) := ⟨rfl, rfl, rfl, by decide +kernel, rfl, by decide +kernel, by decide +kernel⟩
set_option maxHeartbeats 4000000 in
theorem c_reached (T : Blt mg) (D : DefAt K mg "reached" s_reached) {t_LETTERS : Tok} (k_LETTERS : mg "LETTERS" = some (.str "abc" t_LETTERS)) (c_by_letters : Callee P w K mg base 1 "by_letters" ["machine", "some", "letters"] (spD K cm 3 F_by_letters)) : Callee P w K mg base 2 "reached" ["machine", "some"] (spD K cm 2 F_reached) :=
  have S := sc_reached
  callee_D D S (fun _ _ _ _ _ _ us hl => match us, hl with | [_, _], _ => rfl) fun cdv A outer s H E hr tk po =>
  (ds_cons (ds_set 2 S.nd (de_tup da_nil))
  (ds_cons (ds_set 3 S.nd (de_tupQ T (dq_l (dl_sortSet T hr rfl (dq_e (de_v 1))))))
  (ds_cons (ds_while 100 po (dt_ne hr (de_v 3) (de_v 2)) (ds_cons (ds_set 2 S.nd (de_v 3))
  (ds_last (ds_set 3 S.nd (de_tupQ T (dq_l (dl_sortSet T hr rfl (dq_e (de_add (de_v 2) (de_cl c_by_letters hr (by decide) tk (da_cons (de_v 0) (da_cons (de_v 2) (da_cons (de_globS rfl k_LETTERS) da_nil))) (ln_cons (ln_cons (ln_cons ln_nil)))))))))))))
  (ds_last (ds_ret (de_v 2))))))
abbrev s_by_sign : Stmt := topS 9
abbrev N_by_sign : List Str := ["machine", "some", "sign"]
theorem sc_by_sign : FnScope N_by_sign ["machine", "some", "sign"] (defScope s_by_sign) := ⟨rfl, rfl, rfl, by decide +kernel, rfl, by decide +kernel, by decide +kernel⟩
set_option maxHeartbeats 4000000 in
theorem c_by_sign (T : Blt mg) (D : DefAt K mg "by_sign" s_by_sign) {t_LETTERS : Tok} (k_LETTERS : mg "LETTERS" = some (.str "abc" t_LETTERS)) (c_by_letters : Callee P w K mg base 1 "by_letters" ["machine", "some", "letters"] (spD K cm 3 F_by_letters)) (c_reached : Callee P w K mg base 2 "reached" ["machine", "some"] (spD K cm 2 F_reached)) : Callee P w K mg base 3 "by_sign" ["machine", "some", "sign"] (spD K cm 3 F_by_sign) :=
  have S := sc_by_sign
  callee_D D S (fun _ _ _ _ _ _ us hl => match us, hl with | [_, _, _], _ => rfl) fun cdv A outer s H E hr tk po =>
  (ds_cons (ds_if (dt_eq hr (de_v 2) de_str) (ds_last (ds_ret (de_cl c_reached hr (by decide) tk (da_cons (de_v 0) (da_cons (de_v 1) da_nil)) (ln_cons (ln_cons ln_nil))))) ds_nil)
  (ds_cons (ds_if (dt_eq hr (de_v 2) de_str) (ds_last (ds_ret (de_cl c_by_letters hr (by decide) tk (da_cons (de_v 0) (da_cons (de_v 1) (da_cons (de_globS rfl k_LETTERS) da_nil))) (ln_cons (ln_cons (ln_cons ln_nil)))))) ds_nil)
  (ds_last (ds_ret (de_cl c_by_letters hr (by decide) tk (da_cons (de_v 0) (da_cons (de_v 1) (da_cons (de_v 2) da_nil))) (ln_cons (ln_cons (ln_cons ln_nil))))))))
abbrev s_has_end : Stmt := topS 10
abbrev N_has_end : List Str := ["machine", "some", "one"]
theorem sc_has_end : FnScope N_has_end ["machine", "some"] (defScope s_has_end) := ⟨rfl, rfl, rfl, by decide +kernel, rfl, by decide +kernel, by decide +kernel⟩
set_option maxHeartbeats 4000000 in
theorem c_has_end (T : Blt mg) (D : DefAt K mg "has_end" s_has_end) : Callee P w K mg base 1 "has_end" ["machine", "some"] (spD K cm 2 F_has_end) :=
  have S := sc_has_end
  callee_D D S (fun _ _ _ _ _ _ us hl => match us, hl with | [_, _], _ => rfl) fun cdv A outer s H E hr tk po =>
  (ds_last (ds_ret (de_anyQ T rfl (dq_l (dl_lc (own := [("one", 2)]) (t := (.one 2)) rfl S.nd (di_f (df_e (de_v 1))) (blkOk_by (N := N_has_end) (sc := defScope s_has_end) (own := [("one", 2)]) (by decide +kernel)) (by decide) (fun _ _ _ _ _ => (dg_one 2 S.nd)) (fun _ _ _ _ _ => dts_nil) (fun _ _ _ _ _ => (de_in hr (de_v 2) (de_ix (de_v 0) de_int))))))))
abbrev s_L_cell : Stmt := topS 14
abbrev N_L_cell : List Str := ["script", "k"]
theorem sc_L_cell : FnScope N_L_cell ["script", "k"] (defScope s_L_cell) := ⟨rfl, rfl, rfl, by decide +kernel, rfl, by decide +kernel, by decide +kernel⟩
set_option maxHeartbeats 4000000 in
theorem c_L_cell (T : Blt mg) (D : DefAt K mg "_law_cell" s_L_cell) : Callee P w K mg base 1 "_law_cell" ["script", "k"] (spD K cm 2 F_L_cell) :=
  have S := sc_L_cell
  callee_D D S (fun _ _ _ _ _ _ us hl => match us, hl with | [_, _], _ => rfl) fun cdv A outer s H E hr tk po =>
  (ds_cons (ds_if (dt_lt hr (de_v 1) (de_len T (de_v 0))) (ds_last (ds_ret (de_ix (de_v 0) (de_v 1)))) ds_nil)
  (ds_last (ds_ret de_int)))
abbrev s_L_mix : Stmt := topS 15
abbrev N_L_mix : List Str := ["cell", "prime", "many", "blend"]
theorem sc_L_mix : FnScope N_L_mix ["cell", "prime", "many"] (defScope s_L_mix) := ⟨rfl, rfl, rfl, by decide +kernel, rfl, by decide +kernel, by decide +kernel⟩
set_option maxHeartbeats 4000000 in
theorem c_L_mix (T : Blt mg) (D : DefAt K mg "_law_mix" s_L_mix) : Callee P w K mg base 1 "_law_mix" ["cell", "prime", "many"] (spD K cm 3 F_L_mix) :=
  have S := sc_L_mix
  callee_D D S (fun _ _ _ _ _ _ us hl => match us, hl with | [_, _, _], _ => rfl) fun cdv A outer s H E hr tk po =>
  (ds_cons (ds_set 3 S.nd (de_mod (de_mul (de_v 0) de_int) (de_v 1)))
  (ds_last (ds_ret (de_mod (de_mod (de_mul (de_v 3) (de_add (de_v 3) de_int)) (de_v 1)) (de_v 2)))))
abbrev s_L_same : Stmt := topS 16
abbrev N_L_same : List Str := ["found", "due", "one", "other"]
theorem sc_L_same : FnScope N_L_same ["found", "due"] (defScope s_L_same) := ⟨rfl, rfl, rfl, by decide +kernel, rfl, by decide +kernel, by decide +kernel⟩
set_option maxHeartbeats 4000000 in
theorem cr_L_same (T : Blt mg) (D : DefAt K mg "_law_same" s_L_same) : ∀ n : Nat, Callee P w K mg base (1 + n) "_law_same" ["found", "due"] (spD K cm 2 (F_L_same n))
  | 0 => callee_never D (fun _ _ _ _ _ _ us hl => match us, hl with | [_, _], _ => rfl)
  | n + 1 =>
  have c_rec := cr_L_same T D n
  have S := sc_L_same
  callee_D D S (fun _ _ _ _ _ _ us hl => match us, hl with | [_, _], _ => rfl) fun cdv A outer s H E hr tk po =>
  (ds_cons (ds_if (dt_e (de_isi T .tuple (de_v 1) (ty_tuple T))) (ds_cons (ds_if (dt_w (dw_or (dt_not (dt_e (de_isi T .tuple (de_v 0) (ty_tuple T)))) (dw_or1 (dt_ne hr (de_len T (de_v 0)) (de_len T (de_v 1)))))) (ds_last (ds_ret de_bl)) ds_nil)
  (ds_last (ds_ret (de_allQ T rfl (dq_l (dl_lc (own := [("one", 2), ("other", 3)]) (t := (.many [2, 3])) rfl S.nd (di_f (df_zip T (da_cons (de_v 0) (da_cons (de_v 1) da_nil)))) (blkOk_by (N := N_L_same) (sc := defScope s_L_same) (own := [("one", 2), ("other", 3)]) (by decide +kernel)) (by decide) (fun _ _ _ _ _ => (dg_many (is := [2, 3]) rfl (pgs_cons (pg_name (i := 2) S.nd rfl (by first | exact Or.inl rfl | exact Or.inr rfl)) (pgs_cons (pg_name (i := 3) S.nd rfl (by first | exact Or.inl rfl | exact Or.inr rfl)) pgs_nil)))) (fun _ _ _ _ _ => dts_nil) (fun _ _ _ _ _ => (de_cl c_rec hr (Nat.le_refl _) takes0 (da_cons (de_v 2) (da_cons (de_v 3) da_nil)) (ln_cons (ln_cons ln_nil)))))))))) ds_nil)
  (ds_cons (ds_if (dt_is (de_v 1) de_non) (ds_last (ds_ret (de_is (de_v 0) de_non))) ds_nil)
  (ds_cons (ds_if (dt_w (dw_or (dt_e (de_isi T .bool (de_v 1) (ty_bool T))) (dw_or1 (dt_e (de_isi T .bool (de_v 0) (ty_bool T)))))) (ds_last (ds_ret (de_and (de_isi T .bool (de_v 1) (ty_bool T)) (de_and (de_isi T .bool (de_v 0) (ty_bool T)) (de_one (de_eq hr (de_v 0) (de_v 1))))))) ds_nil)
  (ds_last (ds_ret (de_and (de_isi2 T .int .str (de_v 0) (ty_int T) (ty_str T)) (de_one (de_eq hr (de_v 0) (de_v 1)))))))))
theorem c_L_same (T : Blt mg) (D : DefAt K mg "_law_same" s_L_same) : Callee P w K mg base 7 "_law_same" ["found", "due"] (spD K cm 2 (F_L_same 6)) := cr_L_same T D 6
abbrev s_L_machine : Stmt := topS 17
abbrev N_L_machine : List Str := ["cell", "many", "ends", "found", "k", "seed", "move", "state"]
theorem sc_L_machine : FnScope N_L_machine ["cell"] (defScope s_L_machine) := ⟨rfl, rfl, rfl, by decide +kernel, rfl, by decide +kernel, by decide +kernel⟩
set_option maxHeartbeats 4000000 in
theorem c_L_machine (T : Blt mg) (D : DefAt K mg "_law_machine" s_L_machine) (c_L_mix : Callee P w K mg base 1 "_law_mix" ["cell", "prime", "many"] (spD K cm 3 F_L_mix)) : Callee P w K mg base 2 "_law_machine" ["cell"] (spD K cm 1 F_L_machine) :=
  have S := sc_L_machine
  callee_D D S (fun _ _ _ _ _ _ us hl => match us, hl with | [_], _ => rfl) fun cdv A outer s H E hr tk po =>
  (ds_cons (ds_set 1 S.nd (de_add de_int (de_cl c_L_mix hr (by decide) tk (da_cons (de_v 0) (da_cons de_int (da_cons de_int da_nil))) (ln_cons (ln_cons (ln_cons ln_nil))))))
  (ds_cons (ds_set 2 S.nd (de_tupQ T (dq_l (dl_lc (own := [("state", 7)]) (t := (.one 7)) rfl S.nd (di_f (df_range1 T (de_v 1))) (blkOk_by (N := N_L_machine) (sc := defScope s_L_machine) (own := [("state", 7)]) (by decide +kernel)) (by decide) (fun _ _ _ _ _ => (dg_one 7 S.nd)) (fun _ _ _ _ _ => (dts_one (dt_eq hr (de_cl c_L_mix hr (by decide) takes0 (da_cons (de_add (de_v 0) (de_mul de_int (de_v 7))) (da_cons de_int (da_cons de_int da_nil))) (ln_cons (ln_cons (ln_cons ln_nil)))) de_int))) (fun _ _ _ _ _ => (de_v 7))))))
  (ds_cons (ds_own 3 S.nd (dl_lst da_nil))
  (ds_cons (ds_for po rfl (df_range1 T (de_cl c_L_mix hr (by decide) tk (da_cons (de_v 0) (da_cons de_int (da_cons de_int da_nil))) (ln_cons (ln_cons (ln_cons ln_nil))))) (dg_one 4 S.nd) (ds_cons (ds_set 5 S.nd (de_add (de_v 0) (de_mul de_int (de_v 4))))
  (ds_cons (ds_set 6 S.nd (de_tup (da_cons (de_cl c_L_mix hr (by decide) tk (da_cons (de_v 5) (da_cons de_int (da_cons (de_v 1) da_nil))) (ln_cons (ln_cons (ln_cons ln_nil)))) (da_cons (de_ix de_str (de_cl c_L_mix hr (by decide) tk (da_cons (de_v 5) (da_cons de_int (da_cons de_int da_nil))) (ln_cons (ln_cons (ln_cons ln_nil))))) da_nil))))
  (ds_cons (ds_set 6 S.nd (de_add (de_v 6) (de_tup (da_cons (de_cl c_L_mix hr (by decide) tk (da_cons (de_v 5) (da_cons de_int (da_cons (de_v 1) da_nil))) (ln_cons (ln_cons (ln_cons ln_nil)))) da_nil))))
  (ds_last (ds_if (dt_ninQ hr (de_v 6) (dq_v 3)) (ds_last (ds_app (pe_bm PySem.F.plainAttrs_list PySem.F.slot_list_append PySem.F.type_list_append mt_append (pv 3) (pa_cons (de_v 6) pa_nil)))) ds_nil))))))
  (ds_last (ds_ret (de_tup (da_cons (de_v 1) (da_cons (de_v 2) (da_cons (de_tupQ T (dq_l (dl_sortedQ T hr (dq_v 3)))) da_nil))))))))))
abbrev s_L_word : Stmt := topS 18
abbrev N_L_word : List Str := ["kept", "kinds"]
theorem sc_L_word : FnScope N_L_word ["kept"] (defScope s_L_word) := ⟨rfl, rfl, rfl, by decide +kernel, rfl, by decide +kernel, by decide +kernel⟩
set_option maxHeartbeats 4000000 in
theorem c_L_word (T : Blt mg) (D : DefAt K mg "_law_word" s_L_word) {L : Addr} (Wo : WordOk K mg cm L) : ∃ f, WordFn P w K mg base cm L f := by
  obtain ⟨f, fd, F, hm⟩ := D
  have S := sc_L_word
  refine ⟨f, Wo, hm, F.kp, word_all (st := s_L_word) (N := N_L_word) (f := f) (fd := fd) rfl Wo fun D b1 b2 b3 z C k1 k2 k3 k4 hg => ?_⟩
  refine fnE (k := 0) (cm := cm) F S (F.binds fun _ _ _ _ _ _ us hl => match us, hl with | [_], _ => rfl) (fun cdv A outer s H p hz hd hr => ?_) hg
  have hu : (A.deeper (envOfC "_law_word" (defScope s_L_word) s.heap.objs.size f cdv)).units + 65 < cLine := by have := hr.un; omega
  exact (ds_cons (ds_set 1 S.nd (de_l (dl_lst (da_cons (pe_isP 0 T C hz hd List.mem_cons_self (pe_glob (v := .ref (cm "NoRun")) rfl Wo.gR rfl) (fun u h => h) k1) (da_cons (pe_isP 0 T C hz hd List.mem_cons_self (pe_glob (v := .ref (cm "NoSign")) rfl Wo.gS rfl) (fun u h => h) k2) (da_cons (pe_isP 0 T C hz hd List.mem_cons_self (pe_glob (v := .ref (cm "NoText")) rfl Wo.gT rfl) (fun u h => h) k3) da_nil))))))
    (ds_cons (ds_if (dt_w (dw_or (dt_neU hu (de_countL hu (de_v 1)) de_int) (dw_or1 (dt_not (dt_e (pe_isP 0 T C hz hd List.mem_cons_self (pe_bltn (v := .ty "ValueError") rfl T.valueError boot_ValueError rfl) (fun u h => h) k4)))))) (ds_last (ds_ret de_str)) ds_nil)
    (ds_last (ds_ret (de_ix (de_tup (da_cons de_str (da_cons de_str (da_cons de_str da_nil)))) (de_indexL hu (de_v 1)))))))
abbrev s_L_back : Stmt := topS 19
abbrev N_L_back : List Str := ["watch", "e"]
theorem sc_L_back : FnScope N_L_back ["watch"] (defScope s_L_back) := ⟨rfl, rfl, rfl, by decide +kernel, rfl, by decide +kernel, by decide +kernel⟩
set_option maxHeartbeats 4000000 in
theorem c_L_back (T : Blt mg) (D : DefAt K mg "_law_back" s_L_back) {L f_word : Addr} (Wf : WordFn P w K mg base cm L f_word) {C_W : Addr} (Tw : WCls K mg C_W) (w_back : WMet P w K mg base 1 C_W "back" ["self"] (spW K cm C_W 0 W_back)) : Callee P w K mg base 2 "_law_back" ["watch"] (spW K cm C_W 0 W_L_back) := by
  obtain ⟨f, fd, F, hm⟩ := D
  have S := sc_L_back
  exact ⟨f, fd, F.kp, F.binds (fun _ _ _ _ _ _ us hl => match us, hl with | [_], _ => rfl), hm, fnW Tw F S run_W_L_back rfl (by decide) fun cdv A outer s H E hr tk po =>
  (ds_last (ds_tryX (f := f_word) rfl rfl S.nd (i := 1) rfl rfl ⟨rfl, by decide, .inl Wf.ok.gL⟩ tk (hr.mono (by decide : 1 ≤ _)) Wf.both rfl Wf.m Wf.kp (fun W pn xe tk po => (ds_last (ds_xRet (dx_m0 0 Tw w_back hr (by decide) tk))))))⟩
abbrev s_L_lives : Stmt := topS 20
abbrev N_L_lives : List Str := ["watch", "cell", "told"]
theorem sc_L_lives : FnScope N_L_lives ["watch", "cell"] (defScope s_L_lives) := ⟨rfl, rfl, rfl, by decide +kernel, rfl, by decide +kernel, by decide +kernel⟩
set_option maxHeartbeats 4000000 in
theorem c_L_lives (T : Blt mg) (D : DefAt K mg "_law_lives" s_L_lives) {C_W : Addr} (Tw : WCls K mg C_W) (w_add : WMet P w K mg base 4 C_W "add" ["self", "sign"] (spW K cm C_W 1 W_add)) (w_log : WMet P w K mg base 1 C_W "log" ["self"] (spR K cm C_W 0 R_log)) (w_now : WMet P w K mg base 1 C_W "now" ["self"] (spR K cm C_W 0 R_now)) (w_could_end : WMet P w K mg base 2 C_W "could_end" ["self"] (spR K cm C_W 0 R_end)) (c_L_mix : Callee P w K mg base 1 "_law_mix" ["cell", "prime", "many"] (spD K cm 3 F_L_mix)) (c_L_back : Callee P w K mg base 2 "_law_back" ["watch"] (spW K cm C_W 0 W_L_back)) : Callee P w K mg base 5 "_law_lives" ["watch", "cell"] (spW K cm C_W 1 W_L_lives) := by
  obtain ⟨f, fd, F, hm⟩ := D
  have S := sc_L_lives
  exact ⟨f, fd, F.kp, F.binds (fun _ _ _ _ _ _ us hl => match us, hl with | [_, _], _ => rfl), hm, fnW Tw F S run_W_L_lives rfl (by decide) fun cdv A outer s H E hr tk po =>
  (ds_cons (ds_set 2 S.nd de_non)
  (ds_cons (ds_if (dt_eq hr (de_cl c_L_mix hr (by decide) tk (da_cons (de_v 1) (da_cons de_int (da_cons de_int da_nil))) (ln_cons (ln_cons (ln_cons ln_nil)))) de_int) (ds_last (ds_xSet 2 S.nd (dx_c 0 Tw c_L_back hr (by decide) tk da_nil ln_nil))) (ds_last (ds_xExpr (dx_m1 0 Tw w_add hr (by decide) tk (da_cons (de_ix de_str (de_cl c_L_mix hr (by decide) tk (da_cons (de_v 1) (da_cons de_int (da_cons de_int da_nil))) (ln_cons (ln_cons (ln_cons ln_nil))))) da_nil) (ln_cons ln_nil)))))
  (ds_last (ds_retW (de_tup (da_cons (de_v 2) (da_cons (de_wRead 0 Tw w_log hr (by decide) tk) (da_cons (de_wRead 0 Tw w_now hr (by decide) tk) (da_cons (de_wRead 0 Tw w_could_end hr (by decide) tk) da_nil)))))))))⟩
abbrev s_law : Stmt := topS 21
abbrev N_law : List Str := ["script", "k", "machines", "things", "rows", "cells", "turn", "cell", "n", "lone"]
theorem sc_law : FnScope N_law ["script"] (defScope s_law) := ⟨rfl, rfl, rfl, by decide +kernel, rfl, by decide +kernel, by decide +kernel⟩
set_option maxHeartbeats 4000000 in
theorem ok_law {f : Addr} {fd : FuncData} (F : Fun K "law" "law" s_law f fd) (T : Blt mg) {C_W : Addr} (Tw : WCls K mg C_W) (w_new : WMake P w K mg base 1 C_W) (c_L_machine : Callee P w K mg base 2 "_law_machine" ["cell"] (spD K cm 1 F_L_machine)) (c_L_mix : Callee P w K mg base 1 "_law_mix" ["cell", "prime", "many"] (spD K cm 3 F_L_mix)) (c_L_lives : Callee P w K mg base 5 "_law_lives" ["watch", "cell"] (spW K cm C_W 1 W_L_lives)) (c_L_same : Callee P w K mg base 7 "_law_same" ["found", "due"] (spD K cm 2 (F_L_same 6))) (c_L_cell : Callee P w K mg base 1 "_law_cell" ["script", "k"] (spD K cm 2 F_L_cell)) : FnOk P w K mg base (L2.CX P w) 8 f fd ["script"] (spD K cm 1 F_law) :=
  have S := sc_law
  entry_D F S fun cdv A outer s H E hr tk po =>
  (ds_cons (ds_for po rfl (df_range1 T de_int) (dg_one 1 S.nd)
  (ds_cons (ds_own 2 S.nd (dl_lst (da_cons (de_cl c_L_machine hr (by decide) tk (da_cons (de_add (de_cl c_L_cell hr (by decide) tk (da_cons (de_v 0) (da_cons (de_v 1) da_nil)) (ln_cons (ln_cons ln_nil))) (de_mul de_int (de_v 1))) da_nil) (ln_cons ln_nil)) da_nil)))
  (ds_cons (ds_own 2 S.nd (dl_cat (dq_v 2) (dq_l (dl_lst (da_cons (de_cl c_L_machine hr (by decide) tk (da_cons (de_add (de_cl c_L_cell hr (by decide) tk (da_cons (de_v 0) (da_cons de_int da_nil)) (ln_cons (ln_cons ln_nil))) (de_v 1)) da_nil) (ln_cons ln_nil)) da_nil)))))
  (ds_cons (ds_app (pe_bm PySem.F.plainAttrs_list PySem.F.slot_list_append PySem.F.type_list_append mt_append (pv 2) (pa_cons (de_ixQ (dq_v 2) de_int) pa_nil)))
  (pss_block Tw po rfl (ps_setLc (i := 3) (own := [("n", 8)]) rfl S.nd rfl rfl (sw_true rfl rfl rfl (by decide +kernel)) (di_f (df_range1 T de_int)) (blkOk_by (N := N_law) (sc := defScope s_law) (own := [("n", 8)]) (by decide +kernel)) (fun _ _ _ _ _ => (dg_one 8 S.nd)) (fun _ _ _ _ _ => dts_nil) (fun _ _ _ _ _ => (pe_new Tw w_new hr (by decide) (de_ixQ (dq_v 2) (de_v 8)))))
    (ps_par (i := 4) (j := 5) rfl S.nd rfl rfl (by decide) rfl rfl (pa_cons (pe_lst (pa_cons (pe_lst pa_nil) (pa_cons (pe_lst pa_nil) (pa_cons (pe_lst pa_nil) pa_nil)))) (pa_cons (pe_lst (pa_cons (pe_lst pa_nil) (pa_cons (pe_lst pa_nil) (pa_cons (pe_lst pa_nil) pa_nil)))) pa_nil)) rfl rfl)
    (df_range1 T de_int) (dg_one 6 S.nd) (by intro _; rfl)
    (ds_set 7 S.nd (de_add (de_add (de_cl c_L_cell hr (by decide) tk (da_cons (de_v 0) (da_cons (de_add de_int (de_mod (de_v 6) de_int)) da_nil)) (ln_cons (ln_cons ln_nil))) (de_mul de_int (de_v 6))) (de_v 1)))
    (ds_set 8 S.nd (de_cl c_L_mix hr (by decide) tk (da_cons (de_v 7) (da_cons de_int (da_cons de_int da_nil))) (ln_cons (ln_cons (ln_cons ln_nil)))))
    (pe_bm PySem.F.plainAttrs_list PySem.F.slot_list_append PySem.F.type_list_append mt_append (pe_ix ix_list (pv 5) (pv 8) (fun _ _ => rfl)) (pa_cons (de_v 7) pa_nil)) rfl
    (pe_bm PySem.F.plainAttrs_list PySem.F.slot_list_append PySem.F.type_list_append mt_append (pe_ix ix_list (pv 4) (pv 8) (fun _ _ => rfl)) (pa_cons (pe_clW c_L_lives hr (by decide) tk (pa_cons (pe_ix ix_list (pv 3) (pv 8) (fun _ _ => rfl)) (pa_cons (de_v 7) pa_nil))) pa_nil)) rfl
    (df_e (de_tup (da_cons de_int (da_cons de_int (da_cons de_int da_nil))))) (dg_one 8 S.nd) (by intro _; rfl)
    (ds_new 9 S.nd (pe_new Tw w_new hr (by decide) (de_ixQ (dq_v 2) (de_v 8))))
    (pe_clA c_L_same hr (by decide) tk (pa_cons (pe_callTy call_tupleQ rfl T.tuple PyProof.Rows.boot_tuple (pa_cons (pe_ix ix_list (pv 4) (pv 8) (fun _ _ => rfl)) pa_nil)) (pa_cons (pe_callTy call_tupleQ rfl T.tuple PyProof.Rows.boot_tuple (pa_cons (pe_lc (own := [("cell", 7)]) rfl S.nd (pi_seq (pe_ix ix_list (pv 5) (pv 8) (fun _ _ => rfl))) (blkOk_by (N := N_law) (sc := defScope s_law) (own := [("cell", 7)]) (by decide +kernel)) (fun _ _ _ _ _ => (dg_one 7 S.nd)) (fun _ _ _ _ _ => dts_nil) (fun _ _ _ _ _ => (dx_c 9 Tw c_L_lives hr (by decide) takes0 (da_cons (de_v 7) da_nil) (ln_cons ln_nil)))) pa_nil)) pa_nil)))
    (ds_last (ds_ret (W := WD E) (cm := cm) de_bl)) (by intro _; rfl) fi4_e fi6_e fi7_e f4_e)))))
  (ds_last (ds_ret de_bl)))
end
theorem glue {P : Program} {w : World} {K : PySem.W.Frag} {mg : Str → Option Value} {h : Heap} {fa : Addr} (X : K.In h) (G : h.Ns mainGlobals mg) (hfa : mg "law" = some (.ref fa)) (bl : BltIn K)
    (d_by_letters : DefIn K "by_letters" s_by_letters)
    (d_reached : DefIn K "reached" s_reached)
    (d_by_sign : DefIn K "by_sign" s_by_sign)
    (d_has_end : DefIn K "has_end" s_has_end)
    (d_L_cell : DefIn K "_law_cell" s_L_cell)
    (d_L_mix : DefIn K "_law_mix" s_L_mix)
    (d_L_same : DefIn K "_law_same" s_L_same)
    (d_L_machine : DefIn K "_law_machine" s_L_machine)
    (d_L_word : DefIn K "_law_word" s_L_word)
    (d_L_back : DefIn K "_law_back" s_L_back)
    (d_L_lives : DefIn K "_law_lives" s_L_lives)
    (d_law : DefIn K "law" s_law)
    {t_LETTERS : Tok} (n_LETTERS : PySem.W.nsIn K mainGlobals "LETTERS" = some (some (.str "abc" t_LETTERS)))
    {C_NoSign : Addr} (x_NoSign : ExcHere K "NoSign" C_NoSign)
    {C_NoRun : Addr} (x_NoRun : ExcHere K "NoRun" C_NoRun)
    {C_NoText : Addr} (x_NoText : ExcHere K "NoText" C_NoText)
    {C_L : Addr} (wE : ErrIn K C_NoRun C_NoSign C_NoText C_L)
    {C_W : Addr} (wC : PySem.W.nsIn K mainGlobals "Watch" = some (some (.ref C_W))) (wpg : PySem.W.plainGet K C_W Str.empty = true) (whd : PySem.W.hasDictIn K C_W = true) (wpo : PySem.W.plainOver K C_W = true) (wsa : PySem.W.findIn K (.ref C_W) "__setattr__" = some (some (.builtin "object.__setattr__"))) (wmk : PySem.W.makesIn K C_W = true) (wkc : PySem.W.keepIn K (.ref C_W) = true) (wnM : PySem.W.findIn K (.ref C_W) "machine" = some none) (wnT : PySem.W.findIn K (.ref C_W) "text" = some none) (wnR : PySem.W.findIn K (.ref C_W) "rows" = some none)
    (mi_back : MetIn K C_W "back" "Watch.back" s_W_back)
    (mi_add : MetIn K C_W "add" "Watch.add" s_W_add)
    (mi_log : MetIn K C_W "log" "Watch.log" s_W_log)
    (mi_now : MetIn K C_W "now" "Watch.now" s_W_now)
    (mi_could_end : MetIn K C_W "could_end" "Watch.could_end" s_W_could_end)
    (mi_new : MetIn K C_W "__init__" "Watch.__init__" s_W_new)
    : ∃ fd : FuncData, (∀ (s : Shared) (v : Value), BindsTo s fd ⟨[v], []⟩ [("script", v)]) ∧ ∀ base : Heap, K.In base → base.Ns mainGlobals mg → FnOk P w K mg base (L2.CX P w) 8 fa fd ["script"] (spTrue 63 K) := by
  have T := bl.at X G
  have D_by_letters := d_by_letters.at X G
  have D_reached := d_reached.at X G
  have D_by_sign := d_by_sign.at X G
  have D_has_end := d_has_end.at X G
  have D_L_cell := d_L_cell.at X G
  have D_L_mix := d_L_mix.at X G
  have D_L_same := d_L_same.at X G
  have D_L_machine := d_L_machine.at X G
  have D_L_word := d_L_word.at X G
  have D_L_back := d_L_back.at X G
  have D_L_lives := d_L_lives.at X G
  have k_LETTERS := PySem.W.mg_of X G n_LETTERS
  obtain ⟨cm, hcm⟩ : ∃ cm : Str → Addr, cm = fun (x : Str) => if x = "NoSign" then C_NoSign else if x = "NoRun" then C_NoRun else if x = "NoText" then C_NoText else 0 := ⟨_, rfl⟩
  have q_NoSign : cm "NoSign" = C_NoSign := by rw [hcm]; exact if_pos rfl
  have e_NoSign : ExcOk K mg "NoSign" (cm "NoSign") := by rw [q_NoSign]; exact x_NoSign.at X G
  have q_NoRun : cm "NoRun" = C_NoRun := by rw [hcm]; exact (if_neg (by decide)).trans (if_pos rfl)
  have e_NoRun : ExcOk K mg "NoRun" (cm "NoRun") := by rw [q_NoRun]; exact x_NoRun.at X G
  have q_NoText : cm "NoText" = C_NoText := by rw [hcm]; exact (if_neg (by decide)).trans ((if_neg (by decide)).trans (if_pos rfl))
  have e_NoText : ExcOk K mg "NoText" (cm "NoText") := by rw [q_NoText]; exact x_NoText.at X G
  obtain ⟨f, od, an, sl, oc, kV, dc, pm, cd, ct, a, l, c, k⟩ := d_law
  have e := hfa.symm.trans (PySem.W.mg_of X G a)
  cases e
  refine ⟨PySem.W.fnOf "law" "law" (defArgs s_law) (defBody s_law) (defScope s_law) .none kV dc pm an cd ct, fun s v => .of_eq rfl, fun base _ _ => true_D (n := 63) (cm := cm) (fun ns _ => law_F ns) ?_⟩
  have Tw : WCls K mg C_W := ⟨wC, ⟨wpg, whd, wpo, wsa⟩, wnM, wnT, wnR, PySem.W.mg_of X G wC⟩
  obtain ⟨f_back, fd_back, F_back, M_back⟩ := mi_back.at
  obtain ⟨f_add, fd_add, F_add, M_add⟩ := mi_add.at
  obtain ⟨f_log, fd_log, F_log, M_log⟩ := mi_log.at
  obtain ⟨f_now, fd_now, F_now, M_now⟩ := mi_now.at
  obtain ⟨f_could_end, fd_could_end, F_could_end, M_could_end⟩ := mi_could_end.at
  obtain ⟨f_new, fd_new, F_new, M_new⟩ := mi_new.at
  have w_back := m_W_back (P := P) (w := w) (base := base) (cm := cm) Tw F_back M_back e_NoSign
  have w_log := m_W_log (P := P) (w := w) (base := base) (cm := cm) Tw F_log M_log
  have w_now := m_W_now (P := P) (w := w) (base := base) (cm := cm) Tw F_now M_now
  have w_new := m_W_new (P := P) (w := w) (base := base) Tw F_new ⟨wmk, M_new.at_, M_new.fn, wkc⟩
  have hc_by_letters := c_by_letters (P := P) (w := w) (base := base) (cm := cm) T D_by_letters
  have hc_reached := c_reached (P := P) (w := w) (base := base) (cm := cm) T D_reached k_LETTERS hc_by_letters
  have hc_by_sign := c_by_sign (P := P) (w := w) (base := base) (cm := cm) T D_by_sign k_LETTERS hc_by_letters hc_reached
  have w_add := m_W_add (P := P) (w := w) (base := base) (cm := cm) Tw F_add M_add hc_by_sign
  have hc_has_end := c_has_end (P := P) (w := w) (base := base) (cm := cm) T D_has_end
  have w_could_end := m_W_could_end (P := P) (w := w) (base := base) (cm := cm) Tw F_could_end M_could_end hc_has_end
  have hc_L_cell := c_L_cell (P := P) (w := w) (base := base) (cm := cm) T D_L_cell
  have hc_L_mix := c_L_mix (P := P) (w := w) (base := base) (cm := cm) T D_L_mix
  have hc_L_same := c_L_same (P := P) (w := w) (base := base) (cm := cm) T D_L_same
  have hc_L_machine := c_L_machine (P := P) (w := w) (base := base) (cm := cm) T D_L_machine hc_L_mix
  have Wo := wE.word (cm := cm) X G q_NoRun q_NoSign q_NoText
  obtain ⟨f_word, Wf⟩ := c_L_word (P := P) (w := w) (base := base) (cm := cm) T D_L_word Wo
  have hc_L_back := c_L_back (P := P) (w := w) (base := base) (cm := cm) T D_L_back Wf Tw w_back
  have hc_L_lives := c_L_lives (P := P) (w := w) (base := base) (cm := cm) T D_L_lives Tw w_add w_log w_now w_could_end hc_L_mix hc_L_back
  exact ok_law (fun_mk (st := s_law) l c k) T Tw w_new hc_L_machine hc_L_mix hc_L_lives hc_L_same hc_L_cell
end GL
open PySem PySem.W PyProof.Rows
set_option maxHeartbeats 0 in
theorem PySem.Challenge.cw_gaplogs_k20_watches_apart_holds : PySem.Challenge.rw_gaplogs_k20_watches_apart.Holds := by
  w_on; o_law; k_head; (case hw => w_witness2)
  k_fill
  refine L2.walk_of (l := PySem.Challenge.rw_gaplogs_k20_watches_apart) (n := 63) (k := 8) (x := "script") (CX := fun w => L2.CX PySem.Challenge.rw_gaplogs_k20_watches_apart.prog w) (sp := fun w => GL.spTrue 63 _) rfl (by decide) rfl ⟨rfl, by decide, by decide⟩ (fun w h Y => PySem.W.kIn_of Y) ?F (fun _ _ a ns hl _ hS => ⟨a, ns, rfl, hl, hS, fun _ => rfl⟩) (fun _ _ _ _ _ h => GL.cx_never h)
  case F =>
    intro w mg fa h KX G hmg
    refine' GL.glue KX G hmg ?bl ?d_by_letters ?d_reached ?d_by_sign ?d_has_end ?d_L_cell ?d_L_mix ?d_L_same ?d_L_machine ?d_L_word ?d_L_back ?d_L_lives ?d_law ?n_LETTERS ?x_NoSign ?x_NoRun ?x_NoText ?wE ?wC ?wpg ?whd ?wpo ?wsa ?wmk ?wkc ?wnM ?wnT ?wnR ?mi_back ?mi_add ?mi_log ?mi_now ?mi_could_end ?mi_new
    (case bl => refine' ⟨?_, ?_, ?_, ?_, ?_, ?_, ?_, ?_, ?_, ?_, ?_, ?_, ?_, ?_, ?_, ?_, ?_, ?_⟩ <;> k_is)
    (case d_by_letters => refine' GL.defIn_mk ?a ?l ?c ?k; (case a => k_is); (case l => k_is); (case c => k_is); (case k => k_is))
    (case d_reached => refine' GL.defIn_mk ?a ?l ?c ?k; (case a => k_is); (case l => k_is); (case c => k_is); (case k => k_is))
    (case d_by_sign => refine' GL.defIn_mk ?a ?l ?c ?k; (case a => k_is); (case l => k_is); (case c => k_is); (case k => k_is))
    (case d_has_end => refine' GL.defIn_mk ?a ?l ?c ?k; (case a => k_is); (case l => k_is); (case c => k_is); (case k => k_is))
    (case d_L_cell => refine' GL.defIn_mk ?a ?l ?c ?k; (case a => k_is); (case l => k_is); (case c => k_is); (case k => k_is))
    (case d_L_mix => refine' GL.defIn_mk ?a ?l ?c ?k; (case a => k_is); (case l => k_is); (case c => k_is); (case k => k_is))
    (case d_L_same => refine' GL.defIn_mk ?a ?l ?c ?k; (case a => k_is); (case l => k_is); (case c => k_is); (case k => k_is))
    (case d_L_machine => refine' GL.defIn_mk ?a ?l ?c ?k; (case a => k_is); (case l => k_is); (case c => k_is); (case k => k_is))
    (case d_L_word => refine' GL.defIn_mk ?a ?l ?c ?k; (case a => k_is); (case l => k_is); (case c => k_is); (case k => k_is))
    (case d_L_back => refine' GL.defIn_mk ?a ?l ?c ?k; (case a => k_is); (case l => k_is); (case c => k_is); (case k => k_is))
    (case d_L_lives => refine' GL.defIn_mk ?a ?l ?c ?k; (case a => k_is); (case l => k_is); (case c => k_is); (case k => k_is))
    (case d_law => refine' GL.defIn_mk ?a ?l ?c ?k; (case a => k_is); (case l => k_is); (case c => k_is); (case k => k_is))
    (case n_LETTERS => k_is)
    (case x_NoSign => refine' ⟨?g, ?x, ?k, ?b, ?t⟩; (case g => k_is); (case x => k_exc); (case k => k_is); (case b => k_is); (case t => k_is))
    (case x_NoRun => refine' ⟨?g, ?x, ?k, ?b, ?t⟩; (case g => k_is); (case x => k_exc); (case k => k_is); (case b => k_is); (case t => k_is))
    (case x_NoText => refine' ⟨?g, ?x, ?k, ?b, ?t⟩; (case g => k_is); (case x => k_exc); (case k => k_is); (case b => k_is); (case t => k_is))
    (case wE =>
      refine' ⟨?r, ?s, ?t, ?l, ?n, ?k, ?RS, ?RT, ?SR, ?ST, ?TR, ?TS, ?RL, ?SL, ?TL, ?nRS, ?nRT, ?nST⟩
      (case r => (refine' ⟨?x1, ?x2, ?x3, ?x4, ?x5, ?x6, ?x7, ?x8, ?x9⟩; (case x1 => k_is); (case x2 => k_is); (case x3 => k_is); (case x4 => k_is); (case x5 => k_is); (case x6 => k_is); (case x7 => k_is); (case x8 => k_is); (case x9 => k_is)))
      (case s => (refine' ⟨?x1, ?x2, ?x3, ?x4, ?x5, ?x6, ?x7, ?x8, ?x9⟩; (case x1 => k_is); (case x2 => k_is); (case x3 => k_is); (case x4 => k_is); (case x5 => k_is); (case x6 => k_is); (case x7 => k_is); (case x8 => k_is); (case x9 => k_is)))
      (case t => (refine' ⟨?x1, ?x2, ?x3, ?x4, ?x5, ?x6, ?x7, ?x8, ?x9⟩; (case x1 => k_is); (case x2 => k_is); (case x3 => k_is); (case x4 => k_is); (case x5 => k_is); (case x6 => k_is); (case x7 => k_is); (case x8 => k_is); (case x9 => k_is)))
      (case l => (refine' ⟨?x1, ?x2, ?x3, ?x4, ?x5, ?x6, ?x7, ?x8, ?x9⟩; (case x1 => k_is); (case x2 => k_is); (case x3 => k_is); (case x4 => k_is); (case x5 => k_is); (case x6 => k_is); (case x7 => k_is); (case x8 => k_is); (case x9 => k_is)))
      (case n => k_is)
      (case k => k_is)
      (case RS => k_is)
      (case RT => k_is)
      (case SR => k_is)
      (case ST => k_is)
      (case TR => k_is)
      (case TS => k_is)
      (case RL => k_is)
      (case SL => k_is)
      (case TL => k_is)
      (case nRS => decide)
      (case nRT => decide)
      (case nST => decide))
    (case wC => k_is)
    (case wpg => k_is)
    (case whd => k_is)
    (case wpo => k_is)
    (case wsa => k_is)
    (case wmk => k_is)
    (case wkc => k_is)
    (case wnM => k_is)
    (case wnT => k_is)
    (case wnR => k_is)
    (case mi_back => refine' GL.metIn_mk ?a ?i ?l ?c ?k; (case a => k_is); (case i => k_is); (case l => k_is); (case c => k_is); (case k => k_is))
    (case mi_add => refine' GL.metIn_mk ?a ?i ?l ?c ?k; (case a => k_is); (case i => k_is); (case l => k_is); (case c => k_is); (case k => k_is))
    (case mi_log => refine' GL.metIn_mk ?a ?i ?l ?c ?k; (case a => k_is); (case i => k_is); (case l => k_is); (case c => k_is); (case k => k_is))
    (case mi_now => refine' GL.metIn_mk ?a ?i ?l ?c ?k; (case a => k_is); (case i => k_is); (case l => k_is); (case c => k_is); (case k => k_is))
    (case mi_could_end => refine' GL.metIn_mk ?a ?i ?l ?c ?k; (case a => k_is); (case i => k_is); (case l => k_is); (case c => k_is); (case k => k_is))
    (case mi_new => refine' GL.metIn_mk ?a ?i ?l ?c ?k; (case a => k_is); (case i => k_is); (case l => k_is); (case c => k_is); (case k => k_is))

