import PyProof.Rows.All
import Wide.All
import OpenK.AllK
import Wide.FinOn
import HandS.ForMost
import HandS.Wide
import HandS.Deep
import HandS.TupAny
import HandS.TupMul
import HandS.Zip
import HandS.Flow
import HandS.Style
import KE.SortData
import HandS.IsInst
import HandS.RaiseMore
import HandS.SetFor
import KE.GoesMore
import KE.GoesEnum
import PyProof.EqAt
import HandS.Strs
import KE.KDictCopyH
import KE.KUnpackStar
import HandS.Conv
import PySem.Challenge.RW_trytwins_k04_rows_and_answers
set_option Elab.async false
set_option linter.all false
/-! Z1 -/
set_option maxRecDepth 100000
/-! the data layer: values as data (PyData), what stands still, what may change -/
namespace L2
open PySem PySem.Spec PyProof.Rows
/-- a key as data -/
def kD : Key → PyData
  | .inl i => .int i
  | .inr x => .str x
mutual
/-- a value is such data: lists and dicts are tracked -/
inductive Dq (K : PySem.W.Frag) (H : Hp) : V → PyData → Prop
  | non : Dq K H .non .none
  | bl (b : Bool) : Dq K H (.bl b) (.bool b)
  | int (i : Int) : Dq K H (.int i) (.int i)
  | str (x : Str) : Dq K H (.str x) (.str x)
  | lst {a : Addr} {xs : List V} {ds : List PyData} : H a = some (.lst xs) → DqAll K H xs ds → Dq K H (.ref a) (.list ds)
  | tup {a : Addr} {xs : List V} {ds : List PyData} : SqT K H a xs → DqAll K H xs ds → Dq K H (.ref a) (.tuple ds)
  | dic {a : Addr} {kvs : List (Key × V)} {ds : List (PyData × PyData)} : H a = some (.dK kvs) → DqKV K H kvs ds → Dq K H (.ref a) (.dict ds)
inductive DqAll (K : PySem.W.Frag) (H : Hp) : List V → List PyData → Prop
  | nil : DqAll K H [] []
  | cons {v : V} {vs : List V} {d : PyData} {ds : List PyData} : Dq K H v d → DqAll K H vs ds → DqAll K H (v :: vs) (d :: ds)
inductive DqKV (K : PySem.W.Frag) (H : Hp) : List (Key × V) → List (PyData × PyData) → Prop
  | nil : DqKV K H [] []
  | cons {k : Key} {v : V} {vs : List (Key × V)} {d : PyData} {ds : List (PyData × PyData)} : Dq K H v d → DqKV K H vs ds → DqKV K H ((k, v) :: vs) ((kD k, d) :: ds)
end
theorem rd_mono {G G' : Hp} (e : ∀ a o, G a = some o → G' a = some o) {a : Addr} {u : HO} (h : Rd G a u) : Rd G' a u := by
  rcases h with h | ⟨o, h⟩
  · exact .inl (e _ _ h)
  · exact .inr ⟨o, e _ _ h⟩
theorem sqt_mono {K : PySem.W.Frag} {G G' : Hp} (e : ∀ a o, G a = some o → G' a = some o) {a : Addr} {xs : List V} (h : SqT K G a xs) : SqT K G' a xs := by
  rcases h with h | h
  · exact .inl (rd_mono e h)
  · exact .inr h
theorem sql_mono {K : PySem.W.Frag} {G G' : Hp} (e : ∀ a o, G a = some o → G' a = some o) {a : Addr} {xs : List V} (h : SqL K G a xs) : SqL K G' a xs := by
  rcases h with h | h
  · exact .inl (rd_mono e h)
  · exact .inr h
mutual
theorem dp_mono {K : PySem.W.Frag} {G G' : Hp} (e : ∀ a o, G a = some o → G' a = some o) : ∀ (d : PyData) (v : V), Dq K G v d → Dq K G' v d
  | .none, _, h => by cases h; exact .non
  | .bool b, _, h => by cases h; exact .bl b
  | .int i, _, h => by cases h; exact .int i
  | .str x, _, h => by cases h; exact .str x
  | .list ds, _, h => by
    cases h with
    | lst hs ha => exact .lst (e _ _ hs) (dpa_mono e ds _ ha)
  | .tuple ds, _, h => by
    cases h with
    | tup hs ha => exact .tup (sqt_mono e hs) (dpa_mono e ds _ ha)
  | .dict ds, _, h => by
    cases h with
    | dic hs ha => exact .dic (e _ _ hs) (dpk_mono e ds _ ha)
theorem dpa_mono {K : PySem.W.Frag} {G G' : Hp} (e : ∀ a o, G a = some o → G' a = some o) : ∀ (ds : List PyData) (vs : List V), DqAll K G vs ds → DqAll K G' vs ds
  | [], _, h => by cases h; exact .nil
  | d :: ds, _, h => by
    cases h with
    | cons h1 h2 => exact .cons (dp_mono e d _ h1) (dpa_mono e ds _ h2)
theorem dpk_mono {K : PySem.W.Frag} {G G' : Hp} (e : ∀ a o, G a = some o → G' a = some o) : ∀ (ds : List (PyData × PyData)) (vs : List (Key × V)), DqKV K G vs ds → DqKV K G' vs ds
  | [], _, h => by cases h; exact .nil
  | (k, d) :: ds, _, h => by
    cases h with
    | cons h1 h2 => exact .cons (dp_mono e d _ h1) (dpk_mono e ds _ h2)
end
mutual
/-- as the layer's own data -/
theorem Dq.dp {K : PySem.W.Frag} {G : Hp} : ∀ (d : PyData) (v : V), d.canLay0 = true → Dq K G v d → Dp K G v d
  | .none, _, _, h => by cases h; exact .non
  | .bool b, _, _, h => by cases h; exact .bl b
  | .int i, _, _, h => by cases h; exact .int i
  | .str x, _, _, h => by cases h; exact .str x
  | .list ds, _, z, h => by
    cases h with
    | lst hs ha => exact .lst (.inl (.inl hs)) (DqAll.dp ds _ (by simpa [PyData.canLay0] using z) ha)
  | .tuple ds, _, z, h => by
    cases h with
    | tup hs ha => exact .tup hs (DqAll.dp ds _ (by simpa [PyData.canLay0] using z) ha)
  | .dict ds, _, z, h => by simp [PyData.canLay0] at z
theorem DqAll.dp {K : PySem.W.Frag} {G : Hp} : ∀ (ds : List PyData) (vs : List V), PyData.canLayAll0 ds = true → DqAll K G vs ds → DpAll K G vs ds
  | [], _, _, h => by cases h; exact .nil
  | d :: ds, _, z, h => by
    simp only [PyData.canLayAll0, Bool.and_eq_true] at z
    cases h with
    | cons h1 h2 => exact .cons (Dq.dp d _ z.1 h1) (DqAll.dp ds _ z.2 h2)
end
theorem DqAll.length {K : PySem.W.Frag} {G : Hp} : ∀ {ds : List PyData} {vs : List V}, DqAll K G vs ds → vs.length = ds.length
  | [], _, h => by cases h; rfl
  | _ :: _, _, h => by
    cases h with
    | cons h1 h2 => simp [DqAll.length h2]
theorem DqAll.get {K : PySem.W.Frag} {G : Hp} : ∀ {ds : List PyData} {vs : List V} {i : Nat} {v : V}, DqAll K G vs ds → vs[i]? = some v → ∃ d, ds[i]? = some d ∧ Dq K G v d
  | [], _, _, _, h, e => by cases h; simp at e
  | _ :: _, _, 0, _, h, e => by
    cases h with
    | cons h1 h2 => simp at e; subst e; exact ⟨_, rfl, h1⟩
  | _ :: _, _, i + 1, _, h, e => by
    cases h with
    | cons h1 h2 =>
      obtain ⟨d, e1, h3⟩ := DqAll.get (i := i) h2 (by simpa using e)
      exact ⟨d, by simpa using e1, h3⟩
theorem DqAll.get' {K : PySem.W.Frag} {G : Hp} : ∀ {ds : List PyData} {vs : List V} {i : Nat} {d : PyData}, DqAll K G vs ds → ds[i]? = some d → ∃ v, vs[i]? = some v ∧ Dq K G v d
  | [], _, _, _, _, e => by simp at e
  | _ :: _, _, 0, _, h, e => by
    cases h with
    | cons h1 h2 => simp at e; subst e; exact ⟨_, rfl, h1⟩
  | _ :: _, _, i + 1, _, h, e => by
    cases h with
    | cons h1 h2 =>
      obtain ⟨d, e1, h3⟩ := DqAll.get' (i := i) h2 (by simpa using e)
      exact ⟨d, by simpa using e1, h3⟩
theorem DqAll.append {K : PySem.W.Frag} {G : Hp} : ∀ {ds es : List PyData} {vs ws : List V}, DqAll K G vs ds → DqAll K G ws es → DqAll K G (vs ++ ws) (ds ++ es)
  | [], _, _, _, h, h' => by cases h; exact h'
  | _ :: _, _, _, _, h, h' => by
    cases h with
    | cons h1 h2 => exact .cons h1 (DqAll.append h2 h')
theorem DqAll.take {K : PySem.W.Frag} {G : Hp} : ∀ {ds : List PyData} {vs : List V} (n : Nat), DqAll K G vs ds → DqAll K G (vs.take n) (ds.take n)
  | _, _, 0, _ => .nil
  | [], _, _ + 1, h => by cases h; exact .nil
  | _ :: _, _, n + 1, h => by
    cases h with
    | cons h1 h2 => exact .cons h1 (DqAll.take n h2)
theorem DqAll.drop {K : PySem.W.Frag} {G : Hp} : ∀ {ds : List PyData} {vs : List V} (n : Nat), DqAll K G vs ds → DqAll K G (vs.drop n) (ds.drop n)
  | _, _, 0, h => h
  | [], _, _ + 1, h => by cases h; exact .nil
  | _ :: _, _, n + 1, h => by
    cases h with
    | cons h1 h2 => exact DqAll.drop n h2
theorem DqAll.ints {K : PySem.W.Frag} {G : Hp} : ∀ {ns : List Int} {vs : List V}, DqAll K G vs (ns.map PyData.int) → vs = ns.map V.int
  | [], _, h => by cases h; rfl
  | _ :: _, _, h => by
    cases h with
    | cons h1 h2 => cases h1; rw [DqAll.ints h2]; rfl
theorem DqAll.bools {K : PySem.W.Frag} {G : Hp} : ∀ {ns : List Bool} {vs : List V}, DqAll K G vs (ns.map PyData.bool) → vs = ns.map V.bl
  | [], _, h => by cases h; rfl
  | _ :: _, _, h => by
    cases h with
    | cons h1 h2 => cases h1; rw [DqAll.bools h2]; rfl
theorem DqAll.of_ints {K : PySem.W.Frag} {G : Hp} : ∀ (ns : List Int), DqAll K G (ns.map V.int) (ns.map PyData.int)
  | [] => .nil
  | n :: ns => .cons (.int n) (DqAll.of_ints ns)
end L2
namespace Z
open PySem PySem.Spec PyProof.Rows L2
inductive Zv where
  | d (x : PyData)
  | pot
  | own (xs : List PyData)
  | scr (ns : List Int)
/-- the pots' numbers -/
def Pb (c : Nat) (g s t : Int) : Prop := 0 ≤ g ∧ g.natAbs < 2 ^ 4000 ∧ 0 ≤ s ∧ s < 2 ^ 64 ∧ 0 ≤ t ∧ t ≤ c
/-- one state beside another, later one: P the pots, G what stands still, H all -/
structure Stp (P : Addr → Prop) (G H : Hp) (P' : Addr → Prop) (G' H' : Hp) : Prop where
  pp : ∀ a, P a → P' a
  gg : ∀ a o, G a = some o → G' a = some o
  fr : ∀ a o, H a = some o → ¬ P a → H' a = some o
  th : ∀ a, H a ≠ none → H' a ≠ none
  nw : ∀ a, G a = none → H a ≠ none → G' a = none
  np : ∀ a, P' a → P a ∨ H a = none
/-- a list's, a tuple's size is within the line -/
def Szd : HO → Prop
  | .lst xs => xs.length ≤ sizeLine
  | .tup xs => xs.length ≤ sizeLine
  | .frz _ (.lst xs) => xs.length ≤ sizeLine
  | .frz _ (.tup xs) => xs.length ≤ sizeLine
  | _ => True
structure Wd (P : Addr → Prop) (G H : Hp) (c : Nat) : Prop where
  sz : ∀ a o, H a = some o → Szd o
  gh : ∀ a o, G a = some o → H a = some o
  pg : ∀ a, P a → G a = none
  pot : ∀ a, P a → ∃ g s t : Int, H a = some (.lst [.int g, .int s, .int t]) ∧ Pb c g s t
section
variable {P P1 P2 : Addr → Prop} {G H G1 H1 G2 H2 : Hp} {c c1 : Nat} {K : PySem.W.Frag}
theorem Stp.refl : Stp P G H P G H := ⟨fun _ h => h, fun _ _ h => h, fun _ _ h _ => h, fun _ h => h, fun _ h _ => h, fun _ h => .inl h⟩
theorem Stp.trans (a : Stp P G H P1 G1 H1) (b : Stp P1 G1 H1 P2 G2 H2) : Stp P G H P2 G2 H2 where
  pp := fun x h => b.pp x (a.pp x h)
  gg := fun x o h => b.gg x o (a.gg x o h)
  fr := fun x o h n => b.fr x o (a.fr x o h n) fun z => by
    rcases a.np x z with z | z
    · exact n z
    · rw [z] at h; cases h
  th := fun x h => b.th x (a.th x h)
  nw := fun x h h' => b.nw x (a.nw x h h') (a.th x h')
  np := fun x h => by
    rcases b.np x h with z | z
    · exact a.np x z
    · right
      cases q : H x with
      | none => rfl
      | some o => exact absurd z (a.th x (by rw [q]; simp))
/-- a new object that stands still -/
theorem Stp.new {p : Addr} {o : HO} (w : Wd P G H c) (hp : H p = none) : Stp P G H P (upd G p o) (upd H p o) where
  pp := fun _ h => h
  gg := fun x u h => by rw [upd_ne (ne_of_none (w.gh _ _ h) hp)]; exact h
  fr := fun x u h _ => by rw [upd_ne (ne_of_none h hp)]; exact h
  th := fun x h => by
    by_cases e : x = p
    · subst e; exact absurd hp h
    · rw [upd_ne e]; exact h
  nw := fun x h h' => by
    by_cases e : x = p
    · subst e; exact absurd hp h'
    · rw [upd_ne e]; exact h
  np := fun _ h => .inl h
theorem Wd.sz_upd {p : Addr} {o : HO} (w : Wd P G H c) (z : Szd o) : ∀ a u, upd H p o a = some u → Szd u := fun a u h => by
  by_cases e : a = p
  · subst e; rw [upd_same] at h; cases h; exact z
  · rw [upd_ne e] at h; exact w.sz _ _ h
theorem Wd.new {p : Addr} {o : HO} (w : Wd P G H c) (hp : H p = none) (z : Szd o) : Wd P (upd G p o) (upd H p o) c where
  sz := w.sz_upd z
  gh := fun x u h => by
    by_cases e : x = p
    · subst e; rw [upd_same] at h ⊢; exact h
    · rw [upd_ne e] at h ⊢; exact w.gh _ _ h
  pg := fun x h => by
    obtain ⟨g, s, t, e1, _⟩ := w.pot x h
    rw [upd_ne (ne_of_none e1 hp)]
    exact w.pg x h
  pot := fun x h => by
    obtain ⟨g, s, t, e1, b⟩ := w.pot x h
    exact ⟨g, s, t, by rw [upd_ne (ne_of_none e1 hp)]; exact e1, b⟩
theorem Pb.mono {g s t : Int} (h : c ≤ c1) (b : Pb c g s t) : Pb c1 g s t := by
  obtain ⟨h1, h2, h3, h4, h5, h6⟩ := b
  exact ⟨h1, h2, h3, h4, h5, by omega⟩
theorem Wd.mono (h : c ≤ c1) (w : Wd P G H c) : Wd P G H c1 :=
  ⟨w.sz, w.gh, w.pg, fun a p => let ⟨g, s, t, e, b⟩ := w.pot a p; ⟨g, s, t, e, b.mono h⟩⟩
/-- an object that only H knows: free of G and of the pots -/
structure Ob (P : Addr → Prop) (G H : Hp) (a : Addr) (o : HO) : Prop where
  g : G a = none
  p : ¬ P a
  h : H a = some o
theorem Ob.step {a : Addr} {o : HO} (x : Ob P G H a o) (s : Stp P G H P1 G1 H1) : Ob P1 G1 H1 a o :=
  ⟨s.nw a x.g (by rw [x.h]; simp), fun z => (s.np a z).elim x.p (fun q => by rw [x.h] at q; cases q), s.fr a o x.h x.p⟩
/-- a new object of H alone -/
theorem Stp.newH {p : Addr} {o : HO} (w : Wd P G H c) (hp : H p = none) : Stp P G H P G (upd H p o) :=
  ⟨fun _ h => h, fun _ _ h => h, fun x u h _ => by rw [upd_ne (ne_of_none h hp)]; exact h, fun x h => by
    by_cases e : x = p
    · subst e; exact absurd hp h
    · rw [upd_ne e]; exact h, fun _ h _ => h, fun _ h => .inl h⟩
theorem Wd.newH {p : Addr} {o : HO} (w : Wd P G H c) (hp : H p = none) (z : Szd o) : Wd P G (upd H p o) c where
  sz := w.sz_upd z
  gh := fun x u h => by rw [upd_ne (ne_of_none (w.gh _ _ h) hp)]; exact w.gh _ _ h
  pg := w.pg
  pot := fun x h => by
    obtain ⟨g, s, t, e1, b⟩ := w.pot x h
    exact ⟨g, s, t, by rw [upd_ne (ne_of_none e1 hp)]; exact e1, b⟩
theorem Ob.new {p : Addr} {o : HO} (w : Wd P G H c) (hp : H p = none) : Ob P G (upd H p o) p o := by
  refine ⟨?_, fun z => ?_, upd_same⟩
  · cases q : G p with
    | none => rfl
    | some u => rw [w.gh _ _ q] at hp; cases hp
  · obtain ⟨g, s, t, e1, _⟩ := w.pot p z
    rw [e1] at hp; cases hp
/-- such an object changes -/
theorem Wd.chg {a : Addr} {o o' : HO} (w : Wd P G H c) (x : Ob P G H a o) (z : Szd o') : Wd P G (upd H a o') c where
  sz := w.sz_upd z
  gh := fun b u h => by
    have e : b ≠ a := fun z => by subst z; rw [x.g] at h; cases h
    rw [upd_ne e]; exact w.gh _ _ h
  pg := w.pg
  pot := fun b h => by
    obtain ⟨g, s, t, e1, q⟩ := w.pot b h
    have e : b ≠ a := fun z => x.p (z ▸ h)
    exact ⟨g, s, t, by rw [upd_ne e]; exact e1, q⟩
theorem Ob.chg {a : Addr} {o o' : HO} (x : Ob P G H a o) : Ob P G (upd H a o') a o' := ⟨x.g, x.p, upd_same⟩
/-- .. seen from a state that didn't have it -/
theorem Stp.chg {a : Addr} {o o' : HO} (s : Stp P G H P1 G1 H1) (n : H a = none) (x : Ob P1 G1 H1 a o) : Stp P G H P1 G1 (upd H1 a o') where
  pp := s.pp
  gg := s.gg
  fr := fun b u h hn => by rw [upd_ne (ne_of_none h n)]; exact s.fr b u h hn
  th := fun b h => by
    by_cases e : b = a
    · subst e; exact absurd n h
    · rw [upd_ne e]; exact s.th b h
  nw := s.nw
  np := s.np
/-- it stands still from now on -/
theorem Wd.still {a : Addr} {o : HO} (w : Wd P G H c) (x : Ob P G H a o) : Wd P (upd G a o) H c where
  sz := w.sz
  gh := fun b u h => by
    by_cases e : b = a
    · subst e; rw [upd_same] at h; cases h; exact x.h
    · rw [upd_ne e] at h; exact w.gh _ _ h
  pg := fun b h => by
    have e : b ≠ a := fun z => x.p (z ▸ h)
    rw [upd_ne e]; exact w.pg b h
  pot := w.pot
theorem Stp.still {a : Addr} {o : HO} (s : Stp P G H P1 G1 H1) (n : H a = none) (x : Ob P1 G1 H1 a o) : Stp P G H P1 (upd G1 a o) H1 where
  pp := s.pp
  gg := fun b u h => by
    have e : b ≠ a := fun z => by subst z; have := s.gg _ _ h; rw [x.g] at this; cases this
    rw [upd_ne e]; exact s.gg _ _ h
  fr := s.fr
  th := s.th
  nw := fun b h h' => by
    have e : b ≠ a := fun z => by subst z; exact h' n
    rw [upd_ne e]; exact s.nw b h h'
  np := s.np
end
/-- a value is such data -/
def ZR (K : PySem.W.Frag) (P : Addr → Prop) (G H H0 : Hp) : Zv → V → Prop
  | .d x, v => Dq K G v x
  | .pot, v => ∃ a, v = .ref a ∧ P a
  | .own xs, v => ∃ a vs, v = .ref a ∧ H0 a = none ∧ Ob P G H a (.lst vs) ∧ DqAll K G vs xs
  | .scr ns, v => ∃ a, v = .ref a ∧ SqL K G a (ns.map V.int)
inductive ZRs (K : PySem.W.Frag) (P : Addr → Prop) (G H H0 : Hp) : List Zv → List V → Prop
  | nil : ZRs K P G H H0 [] []
  | cons {z : Zv} {v : V} {zs : List Zv} {vs : List V} : ZR K P G H H0 z v → ZRs K P G H H0 zs vs → ZRs K P G H H0 (z :: zs) (v :: vs)
section
variable {P P1 : Addr → Prop} {G H G1 H1 H0 : Hp} {c c1 : Nat} {K : PySem.W.Frag}
theorem ZR.mono (s : Stp P G H P1 G1 H1) : ∀ {z : Zv} {v : V}, ZR K P G H H0 z v → ZR K P1 G1 H1 H0 z v
  | .d x, _, h => dp_mono s.gg x _ h
  | .pot, _, ⟨a, e, h⟩ => ⟨a, e, s.pp a h⟩
  | .own _, _, ⟨a, vs, e, n, o, h⟩ => ⟨a, vs, e, n, o.step s, dpa_mono s.gg _ _ h⟩
  | .scr _, _, ⟨a, e, h⟩ => ⟨a, e, sql_mono s.gg h⟩
theorem ZRs.mono (s : Stp P G H P1 G1 H1) : ∀ {zs : List Zv} {vs : List V}, ZRs K P G H H0 zs vs → ZRs K P1 G1 H1 H0 zs vs
  | _, _, .nil => .nil
  | _, _, .cons h t => .cons (h.mono s) (ZRs.mono s t)
/-- as data to be looked at -/
def dv? : Zv → Option PyData
  | .d x => some x
  | .own xs => some (.list xs)
  | .scr ns => some (.list (ns.map .int))
  | .pot => none
theorem Wd.lsz {K : PySem.W.Frag} {a : Addr} {vs : List V} (w : Wd P G H c) (h : SqL K H a vs) : vs.length ≤ sizeLine := by
  rcases h with (h | ⟨o, h⟩) | ⟨o, its, n, _, _, _, _, hz, r⟩
  · exact w.sz _ _ h
  · exact w.sz _ _ h
  · have e := r.length
    simp only [Array.length_toList] at e
    omega
theorem Wd.tsz {K : PySem.W.Frag} {a : Addr} {vs : List V} (w : Wd P G H c) (h : SqT K H a vs) : vs.length ≤ sizeLine := by
  rcases h with (h | ⟨o, h⟩) | ⟨o, its, n, _, _, _, hz, r⟩
  · exact w.sz _ _ h
  · exact w.sz _ _ h
  · have e := r.length
    simp only [Array.length_toList] at e
    omega
/-- a list, a tuple -/
theorem ZR.lst (w : Wd P G H c) : ∀ {z : Zv} {v : V} {xs : List PyData}, ZR K P G H H0 z v → dv? z = some (.list xs) → ∃ a vs, v = .ref a ∧ SqL K H a vs ∧ DqAll K G vs xs
  | .d x, _, _, h, e => by
    cases e
    cases h with
    | lst hs ha => exact ⟨_, _, rfl, SqL.of (w.gh _ _ hs), ha⟩
  | .own xs, _, _, ⟨a, vs, e1, _, o, h⟩, e => by
    cases e; subst e1
    exact ⟨a, vs, rfl, SqL.of o.h, h⟩
  | .scr ns, _, _, ⟨a, e1, h⟩, e => by
    cases e; subst e1
    exact ⟨a, _, rfl, sql_mono w.gh h, DqAll.of_ints ns⟩
  | .pot, _, _, _, e => by cases e
theorem ZR.look (w : Wd P G H c) : ∀ {z : Zv} {v : V} {x : PyData}, ZR K P G H H0 z v → dv? z = some x → (∀ xs, x ≠ .list xs) → Dq K H v x
  | .d x, _, _, h, e, _ => by cases e; exact dp_mono w.gh _ _ h
  | .own xs, _, _, _, e, n => by cases e; exact absurd rfl (n _)
  | .scr xs, _, _, _, e, n => by cases e; exact absurd rfl (n _)
  | .pot, _, _, _, e, _ => by cases e
/-- as the layer's own data -/
theorem ZR.dp (w : Wd P G H c) {z : Zv} {v : V} {x : PyData} (r : ZR K P G H H0 z v) (e : dv? z = some x) (l : x.canLay0 = true) : Dp K H v x := by
  by_cases q : ∃ xs, x = .list xs
  · obtain ⟨xs, rfl⟩ := q
    obtain ⟨a, vs, rfl, hs, ha⟩ := r.lst w e
    exact .lst hs (DqAll.dp _ _ (by simpa [PyData.canLay0] using l) (dpa_mono w.gh _ _ ha))
  · exact (r.look w e fun xs e2 => q ⟨xs, e2⟩).dp _ _ l
theorem ZR.tup (w : Wd P G H c) : ∀ {z : Zv} {v : V} {xs : List PyData}, ZR K P G H H0 z v → dv? z = some (.tuple xs) → ∃ a vs, v = .ref a ∧ SqT K H a vs ∧ SqT K G a vs ∧ DqAll K G vs xs
  | .d x, _, _, h, e => by
    cases e
    cases h with
    | tup hs ha => exact ⟨_, _, rfl, sqt_mono w.gh hs, hs, ha⟩
  | .own xs, _, _, _, e => by cases e
  | .scr xs, _, _, _, e => by cases e
  | .pot, _, _, _, e => by cases e
end
/-! ### slots -/
abbrev Ga := List (Option Zv)
def get : Ga → Nat → Option Zv
  | [], _ => none
  | z :: _, 0 => z
  | _ :: r, i + 1 => get r i
def put : Ga → Nat → Option Zv → Ga
  | [], _, _ => []
  | _ :: r, 0, z => z :: r
  | y :: r, i + 1, z => y :: put r i z
theorem get_put : ∀ (Γ : Ga) (i j : Nat) (z : Option Zv), get (put Γ i z) j = if i = j ∧ i < Γ.length then z else get Γ j
  | [], i, j, z => by simp [put, get]
  | y :: r, 0, 0, z => by simp [put, get]
  | y :: r, 0, j + 1, z => by simp [put, get]
  | y :: r, i + 1, 0, z => by simp [put, get]
  | y :: r, i + 1, j + 1, z => by simp [put, get, get_put r i j z]
theorem put_len : ∀ (Γ : Ga) (i : Nat) (z : Option Zv), (put Γ i z).length = Γ.length
  | [], _, _ => rfl
  | _ :: _, 0, _ => rfl
  | _ :: r, i + 1, z => by simp [put, put_len r i z]
structure Bs where
  P : Addr → Prop
  G : Hp
  H : Hp
structure As (K : PySem.W.Frag) (B : Bs) (P : Addr → Prop) (G H : Hp) (c : Nat) (Γ : Ga) (σ : L2.St) : Prop where
  st : Stp B.P B.G B.H P G H
  wd : Wd P G H c
  sl : ∀ i z, get Γ i = some z → ∃ v, σ[i]? = some (some v) ∧ ZR K P G H B.H z v
  ln : Γ.length ≤ σ.length
  dj : ∀ i j xs ys, i ≠ j → get Γ i = some (.own xs) → get Γ j = some (.own ys) → σ[i]? ≠ σ[j]?
section
variable {P P1 : Addr → Prop} {G H G1 H1 : Hp} {c c1 : Nat} {K : PySem.W.Frag} {B : Bs} {Γ : Ga} {σ : L2.St}
theorem As.step (x : As K B P G H c Γ σ) (s : Stp P G H P1 G1 H1) (w : Wd P1 G1 H1 c1) : As K B P1 G1 H1 c1 Γ σ :=
  ⟨x.st.trans s, w, fun i z h => let ⟨v, e, r⟩ := x.sl i z h; ⟨v, e, r.mono s⟩, x.ln, x.dj⟩
end
end Z
/-! Z2 -/
set_option maxRecDepth 100000
/-! the program's text in short form, and what it means upon data -/
namespace Z
open PySem PySem.Spec PyProof.Rows L2
inductive Bf where
  | len | abs | max | min | sum | all | any | sorted | tuple | list | int | str | repr | bool | range | zip | enum | rev | set
inductive Mf where
  | index | get | join
/-- some more: joined forms -/
inductive Xk where
  | lenset | srtset
  | dsp (ks : List Key)
  | rev | upper | repl | lrng
  | gix (j : Nat) | gget (j : Nat) | gkeys (j : Nat)
/-- targets -/
inductive Tg where
  | n (i : Nat)
  | t (ts : List Tg)
  | s (ts : List Tg) (i : Nat)      -- a, b, *rest
inductive IE where
  | var (i : Nat)
  | int (n : Int) | bl (b : Bool) | non | str (s : Str)
  | glb (k : Nat)
  | tup (es : List IE) | lst (es : List IE)
  | bin (op : Operator) (a b : IE)
  | neg (a : IE) | not (a : IE) | and (a b : IE) | or (a b : IE)
  | cmp (op : CmpOp) (a b : IE) | chn (op op' : CmpOp) (a b c : IE)
  | ite (t a b : IE)
  | ix (a i : IE)
  | sl (a : IE) (lo hi : Option IE)
  | call (f : Nat) (es : List IE)
  | blt (b : Bf) (es : List IE)
  | isi (e : IE) (T : String)
  | mth (m : Mf) (o : IE) (es : List IE)
  | ext (k : Xk) (es : List IE)
  | lc (ow : List Nat) (tg : Tg) (it : IE) (cond : Option IE) (elt : IE)
  | lc2 (ow : List Nat) (tg : Tg) (it : IE) (cond : Option IE) (ow2 : List Nat) (tg2 : Tg) (it2 : IE) (cond2 : Option IE) (elt : IE)
inductive IS where
  | asg (t : Tg) (e : IE)
  | par (is : List Nat) (es : List IE)
  | aug (i : Nat) (op : Operator) (e : IE)
  | app (i : Nat) (e : IE)
  | ext (i : Nat) (e : IE)
  | frz (i : Nat)
  | new (i : Nat) (e : IE)
  | ret (e : IE) | retN
  | pst (i : Nat) (j : Int) (e : IE)
  | retP (es : List IE)
  | ite (t : IE) (a b : List IS)
  | loop (t : Tg) (it : IE) (body : List IS)
  | pass | brk | cont
/-! ### operations upon data -/
abbrev KD := PyData → Prop
/-- a dict's key, a dict's item -/
def keyD : PyData → Option Key
  | .int i => some (.inl i)
  | .str x => some (.inr x)
  | _ => none
def dLk : List (PyData × PyData) → Key → Option PyData
  | [], _ => none
  | (x, d) :: r, k => if keyD x = some k then some d else dLk r k
def ints? : List PyData → Option (List Int)
  | [] => some []
  | .int i :: r => (ints? r).map (i :: ·)
  | _ :: _ => none
def bools? : List PyData → Option (List Bool)
  | [] => some []
  | .bool i :: r => (bools? r).map (i :: ·)
  | _ :: _ => none
/-- two factors that are not both very wide -/
def CMulZ (i j : Int) : Prop := CMulW i j ∨ CMul i j
def wBin (op : Operator) (x y : PyData) (Q : KD) : Prop :=
  match op, x, y with
  | .Add, .int i, .int j => Q (.int (i + j))
  | .Sub, .int i, .int j => Q (.int (i - j))
  | .Mult, .int i, .int j => CMulZ i j ∧ Q (.int (i * j))
  | .Mult, .tuple xs, .int k => (xs ≠ [] ∧ 2 ≤ k ∧ k ≤ 1000 ∧ xs.length ≤ 1000) ∧ Q (.tuple (List.replicate k.toNat xs).flatten)
  | .Mod, .int i, .int j => 0 < j ∧ Q (.int (i % j))
  | .FloorDiv, .int i, .int j => CDivW i j ∧ Q (.int (i / j))
  | .Pow, .int i, .int j => (0 ≤ j ∧ j ≤ 10000 ∧ i.natAbs < 2 ^ 10000) ∧ Q (.int (i ^ j.toNat))
  | .Add, .tuple xs, .tuple ys => xs.length + ys.length ≤ sizeLine ∧ Q (.tuple (xs ++ ys))
  | .Add, .list xs, .list ys => xs.length + ys.length ≤ sizeLine ∧ Q (.list (xs ++ ys))
  | .Add, .str x, .str y => x.length + y.length ≤ sizeLine ∧ Q (.str (x ++ y))
  | .BitAnd, .int i, .int j => Q (.int (Builtin.bitAnd i j))
  | .BitOr, .int i, .int j => Q (.int (Builtin.bitOr i j))
  | .RShift, .int i, .int j => 0 ≤ j ∧ Q (.int (i / 2 ^ j.toNat))
  | .LShift, .int i, .int j => CPow i j ∧ Q (.int (i * 2 ^ j.toNat))
  | _, _, _ => False
def lexLtD (xs ys : List PyData) : Option Bool := match ints? xs, ints? ys with
  | some a, some b => some (HT.lexLt a b)
  | _, _ => none
def isNoneD : PyData → Bool
  | .none => true
  | _ => false
def eqOk (x y : PyData) : Prop := match x, y with
  | .str _, .str _ => True
  | .tuple _, .tuple [] => True
  | _, _ => SeqAt.shaped x = true ∧ SeqAt.shaped y = true
def neOk (x y : PyData) : Prop := match x, y with
  | .str _, .str _ => True
  | _, _ => SeqAt.shaped x = true ∧ SeqAt.shaped y = true
def wCmp (op : CmpOp) (x y : PyData) (Q : Bool → Prop) : Prop :=
  match op with
  | .Eq => eqOk x y ∧ Q (PyData.eqv x y)
  | .NotEq => neOk x y ∧ Q (!PyData.eqv x y)
  | .Lt => match x, y with
    | .int i, .int j => Q (decide (i < j))
    | .tuple xs, .tuple ys => ∃ b, lexLtD xs ys = some b ∧ Q b
    | _, _ => False
  | .LtE => match x, y with
    | .int i, .int j => Q (decide (i ≤ j))
    | _, _ => False
  | .Gt => match x, y with
    | .int i, .int j => Q (decide (j < i))
    | _, _ => False
  | .GtE => match x, y with
    | .int i, .int j => Q (decide (j ≤ i))
    | _, _ => False
  | .In => match y with
    | .list ds => SeqAt.shaped x = true ∧ SeqAt.shaped (.list ds) = true ∧ Q (ds.any fun z => PyData.eqv z x)
    | .tuple ds => SeqAt.shaped x = true ∧ SeqAt.shaped (.tuple ds) = true ∧ Q (ds.any fun z => PyData.eqv z x)
    | .dict kvs => ∃ k, keyD x = some k ∧ Q (dLk kvs k).isSome
    | _ => False
  | .NotIn => match y with
    | .list ds => SeqAt.shaped x = true ∧ SeqAt.shaped (.list ds) = true ∧ Q (!ds.any fun z => PyData.eqv z x)
    | .tuple ds => SeqAt.shaped x = true ∧ SeqAt.shaped (.tuple ds) = true ∧ Q (!ds.any fun z => PyData.eqv z x)
    | .dict kvs => ∃ k, keyD x = some k ∧ Q (!(dLk kvs k).isSome)
    | _ => False
  | .Is => match y with
    | .none => Q (isNoneD x)
    | .bool b => match x with | .bool c => Q (c == b) | _ => False
    | _ => False
  | .IsNot => match y with
    | .none => Q (!isNoneD x)
    | .bool b => match x with | .bool c => Q (!(c == b)) | _ => False
    | _ => False
/-- a value's truth -/
def truD : PyData → Option Bool
  | .none => some false
  | .bool b => some b
  | .int i => some (i != 0)
  | .list xs => some (!xs.isEmpty)
  | .tuple xs => some (!xs.isEmpty)
  | _ => none
def wIx (x y : PyData) (Q : KD) : Prop :=
  match x, y with
  | .list xs, .int i => ∃ v, atI xs i = some v ∧ Q v
  | .tuple xs, .int i => ∃ v, atI xs i = some v ∧ Q v
  | .str z, .int i => z.length ≤ sizeLine ∧ ∃ c, atI z.cps.toList i = some c ∧ Q (.str ⟨#[c]⟩)
  | .dict kvs, y => ∃ k v, keyD y = some k ∧ dLk kvs k = some v ∧ Q v
  | _, _ => False
def cutD (xs : List PyData) (lo hi : Option Int) : List PyData := (xs.drop (HT.sIx xs.length 0 lo)).take (HT.sIx xs.length xs.length hi - HT.sIx xs.length 0 lo)
def wSl (x : PyData) (lo hi : Option Int) (Q : KD) : Prop :=
  match x with
  | .list xs => Q (.list (cutD xs lo hi))
  | .tuple xs => Q (.tuple (cutD xs lo hi))
  | .str z => z.length ≤ sizeLine ∧ Q (.str (cutS z lo hi))
  | _ => False
def isiD (d : PyData) (T : String) : Bool :=
  match d with
  | .none => false
  | .bool _ => T == "bool" || T == "int"
  | .int _ => T == "int"
  | .str _ => T == "str"
  | .list _ => T == "list"
  | .tuple _ => T == "tuple"
  | .dict _ => T == "dict"
def maxD : List Int → Int
  | [] => 0
  | [x] => x
  | x :: r => if maxD r < x then x else maxD r
def minD : List Int → Int
  | [] => 0
  | [x] => x
  | x :: r => if x < minD r then x else minD r
def insI (x : Int) : List Int → List Int
  | [] => [x]
  | y :: r => if x ≤ y then x :: y :: r else y :: insI x r
def sortI : List Int → List Int
  | [] => []
  | x :: r => insI x (sortI r)
def seqD : PyData → Option (List PyData)
  | .list xs => some xs
  | .tuple xs => some xs
  | _ => none
/-- of this its repr may be asked -/
def reprOk : PyData → Bool
  | .str _ => false
  | d => d.canLay0
/-- the order of sorted(..) -/
def srtLe (a b : PyData) : Bool := PySem.W.dataLe false (fun d : PyData => d) a b
def srtOk (xs : List PyData) : Prop := PyData.canLayAll0 xs = true ∧ PySem.W.AllAlike xs ∧ PySem.W.Sortable xs ∧ ∀ d ∈ xs, d.depth ≤ 60
def wBlt (b : Bf) (as : List PyData) (Q : KD) : Prop :=
  match b, as with
  | .len, [.list xs] => Q (.int xs.length)
  | .len, [.tuple xs] => Q (.int xs.length)
  | .len, [.str z] => z.length ≤ sizeLine ∧ Q (.int z.length)
  | .abs, [.int i] => Q (.int i.natAbs)
  | .max, [.int i, .int j] => Q (.int (max i j))
  | .min, [.int i, .int j] => Q (.int (min i j))
  | .max, [.list xs] => ∃ ns, ints? xs = some ns ∧ ns ≠ [] ∧ Q (.int (maxD ns))
  | .min, [.list xs] => ∃ ns, ints? xs = some ns ∧ ns ≠ [] ∧ Q (.int (minD ns))
  | .sum, [.list xs] => ∃ ns, ints? xs = some ns ∧ Q (.int ns.sum)
  | .all, [.list xs] => ∃ bs, bools? xs = some bs ∧ Q (.bool (bs.all id))
  | .any, [.list xs] => ∃ bs, bools? xs = some bs ∧ Q (.bool (bs.any id))
  | .tuple, [.list xs] => Q (.tuple xs)
  | .tuple, [.tuple xs] => Q (.tuple xs)
  | .list, [.list xs] => Q (.list xs)
  | .list, [.tuple xs] => Q (.list xs)
  | .int, [.int i] => Q (.int i)
  | .int, [.bool b] => Q (.int (if b then 1 else 0))
  | .repr, [d] => reprOk d = true ∧ d.showable = true ∧ d.hasDict = false ∧ d.depth ≤ 60 ∧ d.shown.length ≤ sizeLine ∧ Q (.str d.shown)
  | .sorted, [.list xs] => (∃ ns, ints? xs = some ns ∧ ns.length < 64 ∧ Q (.list ((sortI ns).map .int))) ∨ (srtOk xs ∧ ∀ r, r.Perm xs → r.Pairwise (fun a b => srtLe a b = true) → Q (.list r))
  | _, _ => False
def wMth (m : Mf) (o : PyData) (as : List PyData) (Q : KD) : Prop :=
  match m, o, as with
  | .index, .list ds, [d] => SeqAt.shaped (.list ds) = true ∧ SeqAt.shaped d = true ∧ ∃ j z, ds[j]? = some z ∧ PyData.eqv z d = true ∧ (∀ (m : Nat) (z' : PyData), m < j → ds[m]? = some z' → PyData.eqv z' d = false) ∧ Q (.int (j : Nat))
  | .get, .dict kvs, [x] => ∃ k, keyD x = some k ∧ Q ((dLk kvs k).getD .none)
  | .get, .dict kvs, [x, d] => ∃ k, keyD x = some k ∧ Q ((dLk kvs k).getD d)
  | _, _, _ => False
/-- each once -/
def dedI : List Int → List Int
  | [] => []
  | x :: r => if x ∈ dedI r then dedI r else x :: dedI r
def xLen (as : List PyData) (Q : KD) : Prop := match as with
  | [.list xs] => ∃ ns, ints? xs = some ns ∧ ns.length ≤ 4000 ∧ Q (.int (dedI ns).length)
  | [.tuple xs] => ∃ ns, ints? xs = some ns ∧ ns.length ≤ 4000 ∧ Q (.int (dedI ns).length)
  | _ => False
def xSrt (as : List PyData) (Q : KD) : Prop := match as with
  | [.tuple xs] => ∃ ns, ints? xs = some ns ∧ ns.length ≤ 4000 ∧ (dedI ns).length < 64 ∧ Q (.list ((sortI (dedI ns)).map .int))
  | _ => False
def xRev (as : List PyData) (Q : KD) : Prop := match as with
  | [.list xs] => xs.length ≤ sizeLine ∧ Q (.list xs.reverse)
  | [.tuple xs] => xs.length ≤ sizeLine ∧ Q (.tuple xs.reverse)
  | _ => False
def xRepl (as : List PyData) (Q : KD) : Prop := match as with
  | [.list xs, .int k] => (-(2 ^ 63) ≤ k ∧ k < 2 ^ 63 ∧ xs.length * k.toNat ≤ sizeLine) ∧ Q (.list (List.replicate k.toNat xs).flatten)
  | _ => False
def xUp (as : List PyData) (Q : KD) : Prop := match as with
  | [.str z] => z.length ≤ 5592405 ∧ Q (.str (Txt.upper z))
  | _ => False
def xGix (d : PyData) (as : List PyData) (Q : KD) : Prop := match d, as with
  | .dict kvs, [x] => ∃ k v, keyD x = some k ∧ dLk kvs k = some v ∧ Q v
  | _, _ => False
def xGget (d : PyData) (as : List PyData) (Q : KD) : Prop := match d, as with
  | .dict kvs, [x, e] => ∃ k : Str, keyD x = some (.inr k) ∧ Q ((dLk kvs (.inr k)).getD e)
  | _, _ => False
def xGkeys (d : PyData) (as : List PyData) (Q : KD) : Prop := match d, as with
  | .dict kvs, [] => Q (.list (kvs.map (·.1)))
  | _, _ => False
def rangeD (a b : Int) : List PyData := (List.range (b - a).toNat).map fun i => PyData.int (a + (i : Nat))
def xLrng (as : List PyData) (Q : KD) : Prop := match as with
  | [.int j] => (-(2 ^ 62) ≤ j ∧ j ≤ 16777216) ∧ Q (.list (rangeD 0 j))
  | _ => False
def wX (Gd : Nat → PyData) (k : Xk) (as : List PyData) (Q : KD) : Prop :=
  match k with
  | .lenset => xLen as Q
  | .srtset => xSrt as Q
  | .dsp ks => ks.length = as.length ∧ ks.Nodup ∧ Q (.dict ((ks.map kD).zip as))
  | .rev => xRev as Q
  | .repl => xRepl as Q
  | .upper => xUp as Q
  | .lrng => xLrng as Q
  | .gix j => xGix (Gd (1000 + j)) as Q
  | .gget j => xGget (Gd (1000 + j)) as Q
  | .gkeys j => xGkeys (Gd (1000 + j)) as Q
/-- what has the method -/
def mRc (m : Mf) (d : PyData) : Prop := match m, d with
  | .index, .list _ => True
  | .get, .dict _ => True
  | _, _ => False
/-! ### what the text means -/
abbrev KZ := Zv → Nat → Prop
abbrev Ct := List Zv → Nat → KZ → Prop
def dz (z : Zv) (Q : KD) : Prop := match z with | .d x => Q x | _ => False
/-- .. to be looked at -/
def dv (z : Zv) (Q : KD) : Prop := match z with | .d x => Q x | .own xs => Q (.list xs) | .scr ns => Q (.list (ns.map .int)) | .pot => False
/-- the data of some values -/
def dzs : List Zv → (List PyData → Prop) → Prop
  | [], Q => Q []
  | .d x :: r, Q => dzs r fun xs => Q (x :: xs)
  | _ :: _, _ => False
def dvs : List Zv → (List PyData → Prop) → Prop
  | [], Q => Q []
  | .d x :: r, Q => dvs r fun xs => Q (x :: xs)
  | .own ys :: r, Q => dvs r fun xs => Q (.list ys :: xs)
  | .scr ns :: r, Q => dvs r fun xs => Q (.list (ns.map .int) :: xs)
  | .pot :: _, _ => False
/-- none of them owned -/
def cln : List Zv → (List Zv → Prop) → Prop
  | [], Q => Q []
  | .d x :: r, Q => cln r fun zs => Q (.d x :: zs)
  | .pot :: r, Q => cln r fun zs => Q (.pot :: zs)
  | .scr ns :: r, Q => cln r fun zs => Q (.scr ns :: zs)
  | .own _ :: _, _ => False
def tru (d : PyData) (Q : Bool → Prop) : Prop := match truD d with | some b => Q b | none => False
mutual
def wTg : Tg → PyData → Ga → (Ga → Prop) → Prop
  | .n i, x, Γ, Q => Q (put Γ i (some (.d x)))
  | .t ts, x, Γ, Q => match x with
    | .tuple xs => xs.length = ts.length ∧ wTgs ts xs Γ Q
    | _ => False
  | .s ts i, x, Γ, Q => match x with
    | .tuple xs => ts.length ≤ xs.length ∧ wTgs ts (xs.take ts.length) Γ fun Γ' => Q (put Γ' i (some (.d (.list (xs.drop ts.length)))))
    | _ => False
def wTgs : List Tg → List PyData → Ga → (Ga → Prop) → Prop
  | [], _, Γ, Q => Q Γ
  | t :: ts, xs, Γ, Q => match xs with
    | x :: r => wTg t x Γ fun Γ' => wTgs ts r Γ' Q
    | [] => False
end
def wipeG (Γ : Ga) : List Nat → Ga
  | [] => Γ
  | v :: vs => put (wipeG Γ vs) v none
/-- a comprehension: f tells the items of one turn -/
def lcW (f : PyData → Nat → (List PyData → Nat → Prop) → Prop) : List PyData → Nat → (List PyData → Nat → Prop) → Prop
  | [], c, Q => Q [] c
  | d :: ds, c, Q => f d c fun r c1 => lcW f ds c1 fun rs c2 => Q (r ++ rs) c2
def enumD : Nat → List PyData → List PyData
  | _, [] => []
  | n, d :: ds => .tuple [.int n, d] :: enumD (n + 1) ds
def zipD : List PyData → List PyData → List PyData
  | d :: ds, e :: es => .tuple [d, e] :: zipD ds es
  | _, _ => []
def wIt (b : Option Bf) (zs : List PyData) (Q : List PyData → Prop) : Prop :=
  match b, zs with
  | none, [.list xs] => Q xs
  | none, [.tuple xs] => Q xs
  | some .range, [.int j] => j ≤ 16777216 ∧ -(2 ^ 62) ≤ j ∧ Q (rangeD 0 j)
  | some .range, [.int i, .int j] => (j - i ≤ 16777216 ∧ -(2 ^ 62) ≤ i ∧ i < 2 ^ 62 ∧ -(2 ^ 62) ≤ j ∧ j < 2 ^ 62) ∧ Q (rangeD i j)
  | some .zip, [.list xs, .list ys] => Q (zipD xs ys)
  | some .zip, [.tuple xs, .tuple ys] => Q (zipD xs ys)
  | some .zip, [.list xs, .tuple ys] => Q (zipD xs ys)
  | some .enum, [.list xs] => Q (enumD 0 xs)
  | _, _ => False
/-- .. the list so far handed on -/
def lcA (f : PyData → List PyData → Nat → (List PyData → Nat → Prop) → Prop) : List PyData → List PyData → Nat → (List PyData → Nat → Prop) → Prop
  | [], acc, c, Q => Q acc c
  | d :: ds, acc, c, Q => f d acc c fun acc1 c1 => lcA f ds acc1 c1 Q
/-- no owned lists -/
def clnG : Ga → Ga
  | [] => []
  | some (.own _) :: r => none :: clnG r
  | z :: r => z :: clnG r
abbrev WE := Ga → Nat → KZ → Prop
abbrev WA := Ga → Nat → (List Zv → Nat → Prop) → Prop
abbrev WT := Ga → Nat → (Bool → Nat → Prop) → Prop
abbrev WI := Ga → Nat → (List PyData → Nat → Prop) → Prop
abbrev WO := Ga → Nat → (Option Int → Nat → Prop) → Prop
/-- a piece of text as a value, as a test, as what is walked -/
structure W3 where
  e : WE
  t : WT
  i : WI
def tOf (e : WE) : WT := fun Γ c Q => e Γ c fun x c1 => dv x fun dx => tru dx fun b => Q b c1
def iOf (e : WE) : WI := fun Γ c Q => e Γ c fun z c1 => dz z fun d => wIt none [d] fun r => Q r c1
def mk3 (e : WE) : W3 := ⟨e, tOf e, iOf e⟩
def wVar (i : Nat) : WE := fun Γ c Q => match get Γ i with
  | some z => Q z c
  | none => False
def wTup (a : WA) : WE := fun Γ c Q => a Γ c fun zs c1 => dzs zs fun ds => ds.length ≤ sizeLine ∧ Q (.d (.tuple ds)) c1
def wLst (a : WA) : WE := fun Γ c Q => a Γ c fun zs c1 => dzs zs fun ds => ds.length ≤ sizeLine ∧ Q (.d (.list ds)) c1
def wBi (op : Operator) (a b : WE) : WE := fun Γ c Q => a Γ c fun x c1 => b Γ c1 fun y c2 => dv x fun dx => dv y fun dy => wBin op dx dy fun r => Q (.d r) c2
def wNeg (a : WE) : WE := fun Γ c Q => a Γ c fun x c1 => dv x fun dx => match dx with
  | .int i => Q (.d (.int (-i))) c1
  | _ => False
def wNot (a : WE) : WE := fun Γ c Q => a Γ c fun x c1 => dv x fun dx => tru dx fun b => Q (.d (.bool (!b))) c1
def wAnd (a b : WE) : WE := fun Γ c Q => a Γ c fun x c1 => dz x fun dx => tru dx fun t => match t with
  | true => b Γ c1 Q
  | false => Q (.d dx) c1
def wOr (a b : WE) : WE := fun Γ c Q => a Γ c fun x c1 => dz x fun dx => tru dx fun t => match t with
  | false => b Γ c1 Q
  | true => Q (.d dx) c1
def wTAnd (a b : WT) : WT := fun Γ c Q => a Γ c fun x c1 => match x with
  | true => b Γ c1 Q
  | false => Q false c1
def wTOr (a b : WT) : WT := fun Γ c Q => a Γ c fun x c1 => match x with
  | true => Q true c1
  | false => b Γ c1 Q
def wTNot (a : WT) : WT := fun Γ c Q => a Γ c fun x c1 => Q (!x) c1
def wCm (op : CmpOp) (a b : WE) : WE := fun Γ c Q => a Γ c fun x c1 => b Γ c1 fun y c2 => dv x fun dx => dv y fun dy => wCmp op dx dy fun r => Q (.d (.bool r)) c2
def wTCm (op : CmpOp) (a b : WE) : WT := fun Γ c Q => a Γ c fun x c1 => b Γ c1 fun y c2 => dv x fun dx => dv y fun dy => wCmp op dx dy fun r => Q r c2
def wChn (op op' : CmpOp) (a b e : WE) : WE := fun Γ c Q => a Γ c fun x c1 => b Γ c1 fun y c2 => dv x fun dx => dv y fun dy => wCmp op dx dy fun r => match r with
  | true => e Γ c2 fun z c3 => dv z fun dw => wCmp op' dy dw fun r' => Q (.d (.bool r')) c3
  | false => Q (.d (.bool false)) c2
def wTChn (op op' : CmpOp) (a b e : WE) : WT := fun Γ c Q => a Γ c fun x c1 => b Γ c1 fun y c2 => dv x fun dx => dv y fun dy => wCmp op dx dy fun r => match r with
  | true => e Γ c2 fun z c3 => dv z fun dw => wCmp op' dy dw fun r' => Q r' c3
  | false => Q false c2
def wIte (t : WT) (a b : WE) : WE := fun Γ c Q => t Γ c fun r c1 => match r with
  | true => a Γ c1 Q
  | false => b Γ c1 Q
/-- a pot's cells are any numbers within its bounds -/
def wPotR (c : Nat) (j : Int) (Q : KD) : Prop := ∀ g s t : Int, Pb c g s t → ∃ v, atI [PyData.int g, .int s, .int t] j = some v ∧ Q v
def wIxz (x y : Zv) (c : Nat) (Q : KZ) : Prop := match x with
  | .pot => dv y fun dy => match dy with
    | .int j => wPotR c j fun r => Q (.d r) c
    | _ => False
  | x => dv x fun dx => dv y fun dy => wIx dx dy fun r => Q (.d r) c
def wIxx (a i : WE) : WE := fun Γ c Q => a Γ c fun x c1 => i Γ c1 fun y c2 => wIxz x y c2 Q
def wSlc (a : WE) (lo hi : WO) : WE := fun Γ c Q => a Γ c fun x c1 => lo Γ c1 fun l c2 => hi Γ c2 fun h c3 => dv x fun dx => wSl dx l h fun r => Q (.d r) c3
def wCall (f : Ct) (a : WA) : WE := fun Γ c Q => a Γ c fun zs c1 => cln zs fun zs => f zs c1 Q
def wBl (b : Bf) (a : WA) : WE := fun Γ c Q => a Γ c fun zs c1 => dvs zs fun ds => wBlt b ds fun r => Q (.d r) c1
def wIw (b : Bf) (a : WA) : WI := fun Γ c Q => a Γ c fun zs c1 => dzs zs fun ds => wIt (some b) ds fun r => Q r c1
def wIsi (e : WE) (T : String) : WE := fun Γ c Q => e Γ c fun x c1 => dv x fun dx => Q (.d (.bool (isiD dx T))) c1
def mSel (m : Mf) : List Zv → (List PyData → Prop) → Prop := match m with
  | .get => dzs
  | _ => dvs
def xSel (k : Xk) : List Zv → (List PyData → Prop) → Prop := match k with
  | .gget _ => dzs
  | .gix _ => dzs
  | .dsp _ => dzs
  | _ => dvs
def wMt (m : Mf) (o : WE) (a : WA) : WE := fun Γ c Q => o Γ c fun x c1 => dv x fun dx => mRc m dx ∧ a Γ c1 fun zs c2 => mSel m zs fun ds => wMth m dx ds fun r => Q (.d r) c2
def wExt (Gd : Nat → PyData) (k : Xk) (a : WA) : WE := fun Γ c Q => a Γ c fun zs c1 => xSel k zs fun ds => wX Gd k ds fun r => Q (.d r) c1
def wLc (ow : List Nat) (tg : Tg) (it : WI) (cond : WT) (elt : WE) : WE := fun Γ c Q => it Γ c fun ds c1 => lcW (fun d c Q => wTg tg d (wipeG Γ ow) fun Γ1 => cond Γ1 c fun b c2 => match b with
  | true => elt Γ1 c2 fun z c3 => dz z fun x => Q [x] c3
  | false => Q [] c2) ds c1 fun rs c2 => Q (.d (.list rs)) c2
def wLc2 (ow : List Nat) (tg : Tg) (it : WI) (cond : WT) (ow2 : List Nat) (tg2 : Tg) (it2 : WI) (cond2 : WT) (elt : WE) : WE := fun Γ c Q => it Γ c fun ds c1 => lcA (fun d acc c Q => wTg tg d (clnG (wipeG Γ ow)) fun Γ1 => cond Γ1 c fun b c2 => match b with
  | true => it2 Γ1 c2 fun es c3 => lcA (fun e acc c Q => wTg tg2 e (wipeG Γ1 ow2) fun Γ2 => cond2 Γ2 c fun b c2 => match b with
    | true => elt Γ2 c2 fun z c3 => dz z fun x => acc.length < sizeLine ∧ Q (acc ++ [x]) c3
    | false => Q acc c2) es acc c3 Q
  | false => Q acc c2) ds [] c1 fun rs c2 => Q (.d (.list rs)) c2
def woNone : WO := fun _ c Q => Q none c
def woSome (e : WE) : WO := fun Γ c Q => e Γ c fun x c1 => dv x fun dx => match dx with
  | .int i => Q (some i) c1
  | _ => False
def wYes : WT := fun _ c Q => Q true c
def wNil : WA := fun _ c Q => Q [] c
def wCons (e : WE) (a : WA) : WA := fun Γ c Q => e Γ c fun z c1 => a Γ c1 fun zs c2 => Q (z :: zs) c2
def wCon (x : PyData) : WE := fun _ c Q => Q (.d x) c
def bltI : Bf → WE → WA → W3
  | .range, e, a => ⟨e, tOf e, wIw .range a⟩
  | .zip, e, a => ⟨e, tOf e, wIw .zip a⟩
  | .enum, e, a => ⟨e, tOf e, wIw .enum a⟩
  | .rev, e, a => ⟨e, tOf e, wIw .rev a⟩
  | _, e, _ => mk3 e
/-- a pot's cell is written -/
def potW (c : Nat) (j v : Int) (Q : Nat → Prop) : Prop := if j = 0 then 0 ≤ v ∧ v.natAbs < 2 ^ 4000 ∧ Q c else if j = 2 then 0 ≤ v ∧ v ≤ c + 1 ∧ Q (c + 1) else False
section
variable (F : Nat → Ct) (Gd : Nat → PyData)
mutual
def w3 : IE → W3
  | .var i => mk3 (wVar i)
  | .int n => mk3 (wCon (.int n))
  | .bl b => mk3 (wCon (.bool b))
  | .non => mk3 (wCon .none)
  | .str s => mk3 (wCon (.str s))
  | .glb k => mk3 (wCon (Gd k))
  | .tup es => mk3 (wTup (w3s es))
  | .lst es => mk3 (wLst (w3s es))
  | .bin op a b => mk3 (wBi op (w3 a).e (w3 b).e)
  | .neg a => mk3 (wNeg (w3 a).e)
  | .not a => ⟨wNot (w3 a).e, wTNot (w3 a).t, iOf (wNot (w3 a).e)⟩
  | .and a b => ⟨wAnd (w3 a).e (w3 b).e, wTAnd (w3 a).t (w3 b).t, iOf (wAnd (w3 a).e (w3 b).e)⟩
  | .or a b => ⟨wOr (w3 a).e (w3 b).e, wTOr (w3 a).t (w3 b).t, iOf (wOr (w3 a).e (w3 b).e)⟩
  | .cmp op a b => ⟨wCm op (w3 a).e (w3 b).e, wTCm op (w3 a).e (w3 b).e, iOf (wCm op (w3 a).e (w3 b).e)⟩
  | .chn op op' a b e => ⟨wChn op op' (w3 a).e (w3 b).e (w3 e).e, wTChn op op' (w3 a).e (w3 b).e (w3 e).e, iOf (wChn op op' (w3 a).e (w3 b).e (w3 e).e)⟩
  | .ite t a b => mk3 (wIte (w3 t).t (w3 a).e (w3 b).e)
  | .ix a i => mk3 (wIxx (w3 a).e (w3 i).e)
  | .sl a lo hi => mk3 (wSlc (w3 a).e (w3o lo) (w3o hi))
  | .call f es => mk3 (wCall (F f) (w3s es))
  | .blt b es => bltI b (wBl b (w3s es)) (w3s es)
  | .isi e T => mk3 (wIsi (w3 e).e T)
  | .mth m o es => mk3 (wMt m (w3 o).e (w3s es))
  | .ext k es => mk3 (wExt Gd k (w3s es))
  | .lc ow tg it cond elt => mk3 (wLc ow tg (w3 it).i (w3c cond) (w3 elt).e)
  | .lc2 ow tg it cond ow2 tg2 it2 cond2 elt => mk3 (wLc2 ow tg (w3 it).i (w3c cond) ow2 tg2 (w3 it2).i (w3c cond2) (w3 elt).e)
def w3s : List IE → WA
  | [] => wNil
  | e :: es => wCons (w3 e).e (w3s es)
def w3o : Option IE → WO
  | none => woNone
  | some e => woSome (w3 e).e
def w3c : Option IE → WT
  | none => wYes
  | some e => (w3 e).t
end
abbrev wE (e : IE) : WE := (w3 F Gd e).e
abbrev wT (e : IE) : WT := (w3 F Gd e).t
abbrev wI (e : IE) : WI := (w3 F Gd e).i
abbrev wEs (es : List IE) : WA := w3s F Gd es
/-! ### statements -/
structure Rt where
  nx : Ga → Nat → Prop
  rt : KZ
  bk : Ga → Nat → Prop
  ct : Ga → Nat → Prop
/-- a loop: f is a turn -/
def forW (f : PyData → Ga → Nat → Rt → Prop) : List PyData → Ga → Nat → Rt → Prop
  | [], Γ, c, R => R.nx Γ c
  | d :: ds, Γ, c, R => f d Γ c { nx := fun Γ1 c1 => forW f ds Γ1 c1 R, rt := R.rt, bk := R.nx, ct := fun Γ1 c1 => forW f ds Γ1 c1 R }
def putZ (Γ : Ga) (i : Nat) (z : Zv) : Ga := put Γ i (some z)
def putZs : Ga → List Nat → List Zv → Ga
  | Γ, i :: is, z :: zs => putZs (putZ Γ i z) is zs
  | Γ, _, _ => Γ
/-- an owned list given away stands still -/
def stl : Zv → Zv
  | .own xs => .d (.list xs)
  | z => z
def tgN : Tg → Option Nat
  | .n i => some i
  | _ => none
mutual
def wS : IS → Ga → Nat → Rt → Prop
  | .asg t e, Γ, c, R => wE F Gd e Γ c fun z c1 => match tgN t with
    | some i => cln [z] fun _ => R.nx (putZ Γ i z) c1
    | none => dz z fun x => wTg t x Γ fun Γ1 => R.nx Γ1 c1
  | .par is es, Γ, c, R => wEs F Gd es Γ c fun zs c1 => cln zs fun zs => R.nx (putZs Γ is zs) c1
  | .aug i op e, Γ, c, R => match get Γ i with
    | some (.d (.int a)) => wE F Gd e Γ c fun z c1 => dv z fun y => match op, y with
      | .Add, .int b => R.nx (putZ Γ i (.d (.int (a + b)))) c1
      | .Sub, .int b => R.nx (putZ Γ i (.d (.int (a - b)))) c1
      | _, _ => False
    | _ => False
  | .new i e, Γ, c, R => wE F Gd e Γ c fun z c1 => dz z fun x => match x with
    | .list xs => R.nx (putZ Γ i (.own xs)) c1
    | _ => False
  | .app i e, Γ, c, R => match get Γ i with
    | some (.own xs) => wE F Gd e Γ c fun z c1 => dz z fun y => xs.length < sizeLine ∧ R.nx (putZ Γ i (.own (xs ++ [y]))) c1
    | _ => False
  | .ext i e, Γ, c, R => match get Γ i with
    | some (.own xs) => wE F Gd e Γ c fun z c1 => dz z fun y => match y with
      | .list ys => xs.length + ys.length ≤ sizeLine ∧ R.nx (putZ Γ i (.own (xs ++ ys))) c1
      | _ => False
    | _ => False
  | .frz i, Γ, c, R => match get Γ i with
    | some (.own xs) => R.nx (putZ Γ i (.d (.list xs))) c
    | _ => R.nx Γ c
  | .ret e, Γ, c, R => wE F Gd e Γ c fun z c1 => R.rt (stl z) c1
  | .retN, _, c, R => R.rt (.d .none) c
  | .pst i j e, Γ, c, R => match get Γ i with
    | some .pot => wE F Gd e Γ c fun z c1 => dv z fun y => match y with
      | .int v => potW c1 j v fun c2 => R.nx Γ c2
      | _ => False
    | _ => False
  | .retP es, Γ, c, R => wEs F Gd es Γ c fun zs c1 => dzs zs fun ds => match ds with
    | [.int g, .int s, .int t] => Pb c1 g s t ∧ R.rt .pot c1
    | _ => False
  | .ite t a b, Γ, c, R => wT F Gd t Γ c fun x c1 => match x with
    | true => wSs a Γ c1 R
    | false => wSs b Γ c1 R
  | .loop t it body, Γ, c, R => wI F Gd it Γ c fun ds c1 => forW (fun d Γ c R => wTg t d Γ fun Γ1 => wSs body Γ1 c R) ds Γ c1 R
  | .pass, Γ, c, R => R.nx Γ c
  | .brk, Γ, c, R => R.bk Γ c
  | .cont, Γ, c, R => R.ct Γ c
def wSs : List IS → Ga → Nat → Rt → Prop
  | [], Γ, c, R => R.nx Γ c
  | s :: ss, Γ, c, R => wS s Γ c { R with nx := fun Γ1 c1 => wSs ss Γ1 c1 R }
end
end
end Z
/-! Z3 -/
set_option maxRecDepth 100000
/-! expressions: the data's meaning leads to the rule's reading -/
namespace Z
open PySem PySem.Spec PyProof.Rows L2
/-- a rule's reading follows of the meaning -/
def Imp (K : PySem.W.Frag) (w : WE) (t : TE) : Prop :=
  ∀ (B : Bs) (σ : L2.St) (P : Addr → Prop) (G H : Hp) (Γ : Ga) (c : Nat) (Q : KZ) (R : VK), As K B P G H c Γ σ → w Γ c Q →
    (∀ v P' G' H' c' z, Stp P G H P' G' H' → Wd P' G' H' c' → ZR K P' G' H' B.H z v → Q z c' → R v H') → t σ H R
def ImpA (K : PySem.W.Frag) (w : WA) (t : TA) : Prop :=
  ∀ (B : Bs) (σ : L2.St) (P : Addr → Prop) (G H : Hp) (Γ : Ga) (c : Nat) (Q : List Zv → Nat → Prop) (R : List V → Hp → Prop), As K B P G H c Γ σ → w Γ c Q →
    (∀ vs P' G' H' c' zs, Stp P G H P' G' H' → Wd P' G' H' c' → ZRs K P' G' H' B.H zs vs → Q zs c' → R vs H') → t σ H R
def ImpT (K : PySem.W.Frag) (w : WT) (t : TT) : Prop :=
  ∀ (B : Bs) (σ : L2.St) (P : Addr → Prop) (G H : Hp) (Γ : Ga) (c : Nat) (Q : Bool → Nat → Prop) (R : Bool → Hp → Prop), As K B P G H c Γ σ → w Γ c Q →
    (∀ b P' G' H' c', Stp P G H P' G' H' → Wd P' G' H' c' → Q b c' → R b H') → t σ H R
def ImpO (K : PySem.W.Frag) (w : Ga → Nat → (Option Int → Nat → Prop) → Prop) (t : TO) : Prop :=
  ∀ (B : Bs) (σ : L2.St) (P : Addr → Prop) (G H : Hp) (Γ : Ga) (c : Nat) (Q : Option Int → Nat → Prop) (R : Option Int → Hp → Prop), As K B P G H c Γ σ → w Γ c Q →
    (∀ b P' G' H' c', Stp P G H P' G' H' → Wd P' G' H' c' → Q b c' → R b H') → t σ H R
section
variable {K : PySem.W.Frag} {wa wb wc : WE} {ta tb tc : TE} {w1 w2 : WT} {t1 t2 : TT}
theorem dv_of {z : Zv} {Q : KD} (h : dv z Q) : ∃ x, dv? z = some x ∧ Q x := by
  cases z with
  | d x => exact ⟨x, rfl, h⟩
  | pot => exact h.elim
  | own xs => exact ⟨_, rfl, h⟩
  | scr xs => exact ⟨_, rfl, h⟩
theorem dz_of {z : Zv} {Q : KD} (h : dz z Q) : ∃ x, z = .d x ∧ Q x := by
  cases z with
  | d x => exact ⟨x, rfl, h⟩
  | pot => exact h.elim
  | own xs => exact h.elim
  | scr xs => exact h.elim
/-- a scalar result -/
theorem imp_c {v : V} {x : PyData} (h : ∀ G : Hp, Dq K G v x) : Imp K (fun _ c Q => Q (.d x) c) (tC v) :=
  fun B σ P G H Γ c Q R a w k => k v P G H c (.d x) .refl a.wd (h G) w
theorem imp_var {i : Nat} : Imp K (fun Γ c Q => match get Γ i with | some z => Q z c | none => False) (tVar i) := fun B σ P G H Γ c Q R a w k => by
  have w : (match get Γ i with | some z => Q z c | none => False) := w
  cases e : get Γ i with
  | none => rw [e] at w; exact w.elim
  | some z =>
    rw [e] at w
    obtain ⟨v, e1, r⟩ := a.sl i z e
    exact ⟨v, e1, k v P G H c z .refl a.wd r w⟩
/-- an operation upon two values: by what is told of them -/
theorem imp_op {r : R2} {f : PyData → PyData → KD → Prop} (ha : Imp K wa ta) (hb : Imp K wb tb)
    (hr : ∀ (B : Bs) (P : Addr → Prop) (G H : Hp) (c : Nat) (zx zy : Zv) (x y : V) (dx dy : PyData) (Q : KD) (R : VK), Wd P G H c → ZR K P G H B.H zx x → ZR K P G H B.H zy y → dv? zx = some dx → dv? zy = some dy → f dx dy Q →
      (∀ v P' G' H' d, Stp P G H P' G' H' → Wd P' G' H' c → Dq K G' v d → Q d → R v H') → r x y H R) :
    Imp K (fun Γ c Q => wa Γ c fun x c1 => wb Γ c1 fun y c2 => dv x fun dx => dv y fun dy => f dx dy fun d => Q (.d d) c2) (tOp r ta tb) := fun B σ P G H Γ c Q R a w k => by
  refine ha B σ P G H Γ c _ _ a w fun x P1 G1 H1 c1 zx s1 w1 r1 q1 => ?_
  refine hb B σ P1 G1 H1 Γ c1 _ _ (a.step s1 w1) q1 fun y P2 G2 H2 c2 zy s2 w2 r2 q2 => ?_
  obtain ⟨dx, ex, q2⟩ := dv_of q2
  obtain ⟨dy, ey, q2⟩ := dv_of q2
  refine hr B P2 G2 H2 c2 zx zy x y dx dy _ R w2 (r1.mono s2) r2 ex ey q2 fun v P' G' H' d s3 w3 r3 q3 => ?_
  exact k v P' G' H' c2 (.d d) ((s1.trans s2).trans s3) w3 r3 q3
theorem imp_a0 : ImpA K (fun _ c Q => Q [] c) tNil := fun B σ P G H Γ c Q R a w k => k [] P G H c [] .refl a.wd .nil w
theorem imp_a1 {w : WA} {t : TA} (ha : Imp K wa ta) (hb : ImpA K w t) : ImpA K (fun Γ c Q => wa Γ c fun z c1 => w Γ c1 fun zs c2 => Q (z :: zs) c2) (tCons ta t) := fun B σ P G H Γ c Q R a w k => by
  refine ha B σ P G H Γ c _ _ a w fun x P1 G1 H1 c1 zx s1 w1 r1 q1 => ?_
  refine hb B σ P1 G1 H1 Γ c1 _ _ (a.step s1 w1) q1 fun xs P2 G2 H2 c2 zs s2 w2 r2 q2 => ?_
  exact k (x :: xs) P2 G2 H2 c2 (zx :: zs) (s1.trans s2) w2 (.cons (r1.mono s2) r2) q2
theorem dzs_of : ∀ {zs : List Zv} {Q : List PyData → Prop} {P : Addr → Prop} {G H H0 : Hp} {vs : List V}, ZRs K P G H H0 zs vs → dzs zs Q → ∃ ds, zs = ds.map .d ∧ DqAll K G vs ds ∧ Q ds
  | _, _, _, _, _, _, _, .nil, h => ⟨[], rfl, .nil, h⟩
  | .d x :: r, Q, _, _, _, _, _, .cons h1 h2, h => by
    obtain ⟨ds, e, h3, q⟩ := dzs_of (Q := fun xs => Q (x :: xs)) h2 h
    exact ⟨x :: ds, by rw [e]; rfl, .cons h1 h3, q⟩
  | .pot :: r, Q, _, _, _, _, _, _, h => h.elim
  | .own _ :: r, Q, _, _, _, _, _, _, h => h.elim
  | .scr _ :: r, Q, _, _, _, _, _, _, h => h.elim
theorem dpa_len {G : Hp} {vs : List V} {ds : List PyData} (h : DqAll K G vs ds) : vs.length = ds.length := h.length
theorem imp_tup {w : WA} {t : TA} (ha : ImpA K w t) : Imp K (fun Γ c Q => w Γ c fun zs c1 => dzs zs fun ds => ds.length ≤ sizeLine ∧ Q (.d (.tuple ds)) c1) (tTup t) := fun B σ P G H Γ c Q R a w k => by
  refine ha B σ P G H Γ c _ _ a w fun xs P1 G1 H1 c1 zs s1 w1 r1 q1 => ?_
  obtain ⟨ds, rfl, hd, hz, q⟩ := dzs_of r1 q1
  refine ⟨by rw [hd.length]; exact hz, fun p hp => ?_⟩
  have z : Szd (.tup xs) := by show xs.length ≤ _; rw [hd.length]; exact hz
  have s2 := Stp.new (o := .tup xs) w1 hp
  exact k (.ref p) P1 _ _ c1 (.d (.tuple ds)) (s1.trans s2) (w1.new hp z) (show Dq K _ _ _ from Dq.tup (SqT.of upd_same) (dpa_mono s2.gg _ _ hd)) q
theorem imp_lst {w : WA} {t : TA} (ha : ImpA K w t) : Imp K (fun Γ c Q => w Γ c fun zs c1 => dzs zs fun ds => ds.length ≤ sizeLine ∧ Q (.d (.list ds)) c1) (tLst t) := fun B σ P G H Γ c Q R a w k => by
  refine ha B σ P G H Γ c _ _ a w fun xs P1 G1 H1 c1 zs s1 w1 r1 q1 => ?_
  obtain ⟨ds, rfl, hd, hz, q⟩ := dzs_of r1 q1
  refine ⟨by rw [hd.length]; exact hz, fun p hp => ?_⟩
  have z : Szd (.lst xs) := by show xs.length ≤ _; rw [hd.length]; exact hz
  have s2 := Stp.new (o := .lst xs) w1 hp
  exact k (.ref p) P1 _ _ c1 (.d (.list ds)) (s1.trans s2) (w1.new hp z) (show Dq K _ _ _ from Dq.lst upd_same (dpa_mono s2.gg _ _ hd)) q
/-- tests -/
theorem impt_and (h1 : ImpT K w1 t1) (h2 : ImpT K w2 t2) : ImpT K (fun Γ c Q => w1 Γ c fun x c1 => match x with | true => w2 Γ c1 Q | false => Q false c1) (tAnd t1 t2) := fun B σ P G H Γ c Q R a w k => by
  refine h1 B σ P G H Γ c _ _ a w fun b P1 G1 H1 c1 s1 w1 q1 => ?_
  cases b with
  | true => exact iteT (h2 B σ P1 G1 H1 Γ c1 _ _ (a.step s1 w1) q1 fun b P2 G2 H2 c2 s2 w2 q2 => k b P2 G2 H2 c2 (s1.trans s2) w2 q2)
  | false => exact iteF (k false P1 G1 H1 c1 s1 w1 q1)
theorem impt_or (h1 : ImpT K w1 t1) (h2 : ImpT K w2 t2) : ImpT K (fun Γ c Q => w1 Γ c fun x c1 => match x with | true => Q true c1 | false => w2 Γ c1 Q) (tOr t1 t2) := fun B σ P G H Γ c Q R a w k => by
  refine h1 B σ P G H Γ c _ _ a w fun b P1 G1 H1 c1 s1 w1 q1 => ?_
  cases b with
  | false => exact iteF (h2 B σ P1 G1 H1 Γ c1 _ _ (a.step s1 w1) q1 fun b P2 G2 H2 c2 s2 w2 q2 => k b P2 G2 H2 c2 (s1.trans s2) w2 q2)
  | true => exact iteT (k true P1 G1 H1 c1 s1 w1 q1)
theorem impt_not (h1 : ImpT K w1 t1) : ImpT K (fun Γ c Q => w1 Γ c fun x c1 => Q (!x) c1) (tNot t1) := fun B σ P G H Γ c Q R a w k =>
  h1 B σ P G H Γ c _ _ a w fun b P1 G1 H1 c1 s1 w1 q1 => k (!b) P1 G1 H1 c1 s1 w1 q1
/-- a comparison's answer as a test -/
theorem impt_tst {w : WE} (h : Imp K w ta) : ImpT K (fun Γ c Q => w Γ c fun z c1 => match z with | .d (.bool b) => Q b c1 | _ => False) (tTest ta) := fun B σ P G H Γ c Q R a w k => by
  refine h B σ P G H Γ c _ _ a w fun x P1 G1 H1 c1 zx s1 w1 r1 q1 => ?_
  cases zx with
  | d x =>
    cases x with
    | bool b => cases r1; exact ⟨b, rfl, k b P1 G1 H1 c1 s1 w1 q1⟩
    | _ => exact q1.elim
  | _ => exact q1.elim
end
end Z
/-! Z4 -/
set_option maxRecDepth 100000
/-! operators and comparisons upon data -/
namespace Z
open PySem PySem.Spec PyProof.Rows L2
/-- what an operator's reading needs, from what it means upon data -/
abbrev OpI (K : PySem.W.Frag) (f : PyData → PyData → KD → Prop) (r : R2) : Prop :=
  ∀ (B : Bs) (P : Addr → Prop) (G H : Hp) (c : Nat) (zx zy : Zv) (x y : V) (dx dy : PyData) (Q : KD) (R : VK), Wd P G H c → ZR K P G H B.H zx x → ZR K P G H B.H zy y → dv? zx = some dx → dv? zy = some dy → f dx dy Q →
    (∀ v P' G' H' d, Stp P G H P' G' H' → Wd P' G' H' c → Dq K G' v d → Q d → R v H') → r x y H R
section
variable {X : Cx}
/-- list + list, whatever lists -/
def rCatR (K : PySem.W.Frag) : R2 := fun x y H Q => ∃ l b xs zs, x = .ref l ∧ y = .ref b ∧ SqL K H l xs ∧ SqL K H b zs ∧ xs.length + zs.length ≤ sizeLine ∧ ∀ p, H p = none → Q (.ref p) (upd H p (.lst (xs ++ zs)))
theorem op_catR : OpR X (binaryOp .Add) (rCatR X.K) := fun pins s σ H x y v u Q I rx ry h => by
  obtain ⟨l, b, xs, zs, rfl, rfl, h1, h2, hz, q⟩ := h
  cases rx
  cases ry
  obtain ⟨its, r, ⟨⟨cl, dd, da, sl⟩, n, e, cl1, dd1, da1⟩, _⟩ := I.list h1
  obtain ⟨jts, r2, ⟨⟨cl2, dd2, da2, sl2⟩, n2, e2, cl3, dd3, da3⟩, _⟩ := I.list h2
  simp only at cl1 dd1 da1 cl3 dd3 da3
  subst cl1 dd1 da1 cl3 dd3 da3
  have l1 := r.length
  have l2 := r2.length
  have hsz : its.toArray.size + jts.toArray.size ≤ sizeLine := by simp only [List.size_toArray]; omega
  refine concat_meets ⟨_, e, rfl⟩ ⟨_, e2, rfl⟩ noFill_list_add seq_list_add PySem.F.slot_list_add PySem.F.entry_list_add (PySem.F.args_list_add_2 _ _) (list_addW l b its.toArray jts.toArray n n2 none none sl sl2 hsz) ⟨e, e2, ?_⟩
  rw [show its.toArray ++ jts.toArray = (its ++ jts).toArray by simp]
  exact ⟨.ref _, _, I.lnew (t' := s.toks) (r.append r2) (by rw [List.length_append]; exact hz), rfl, q _ I.fresh⟩
def CPowW (i j : Int) : Prop := 0 ≤ j ∧ j ≤ 10000 ∧ i.natAbs < 2 ^ 10000
theorem op_powW : OpR X (binaryOp .Pow) (rI CPowW fun i j => .int (i ^ j.toNat)) := opI fun i j _ _ _ _ _ hc q => by
  obtain ⟨h0, h1, h2⟩ := hc
  refine PyProof.Rows.pow_int h0 ?_ q
  have hb : Builtin.Int.intBits i ≤ 10000 := by
    unfold Builtin.Int.intBits
    split
    · omega
    · have := PySem.Flt.log2_lt_of (k := 10000) (by omega) h2
      omega
  have : ((Builtin.Int.intBits i : Nat) : Int) * j ≤ 10000 * 10000 := Int.mul_le_mul (by omega) h1 h0 (by omega)
  omega
/-- the operator's reading as one -/
def rBin (K : PySem.W.Frag) : Operator → R2
  | .Add => fun x y H Q => rI0 (fun i j => .int (i + j)) x y H Q ∨ rCatA K x y H Q ∨ rCatR K x y H Q ∨ ∃ i j, x = .str i ∧ y = .str j ∧ i.length + j.length ≤ sizeLine ∧ Q (.str (i ++ j)) H
  | .Sub => rI0 fun i j => .int (i - j)
  | .Mult => fun x y H Q => rI CMulZ (fun i j => .int (i * j)) x y H Q ∨ rRepT K x y H Q
  | .Mod => rI (fun _ j => 0 < j) fun i j => .int (i % j)
  | .FloorDiv => rI CDivW fun i j => .int (i / j)
  | .Pow => rI CPowW fun i j => .int (i ^ j.toNat)
  | .BitAnd => rI0 fun i j => .int (Builtin.bitAnd i j)
  | .BitOr => rI0 fun i j => .int (Builtin.bitOr i j)
  | .RShift => rI (fun _ j => 0 ≤ j) fun i j => .int (i / 2 ^ j.toNat)
  | .LShift => rI CPow fun i j => .int (i * 2 ^ j.toNat)
  | _ => fun _ _ _ _ => False
theorem opr_no {f : Value → Value → Sem Value} : OpR X f (fun _ _ _ _ => False) := fun _ _ _ _ _ _ _ _ _ _ _ _ h => h.elim
theorem op_mulZ : OpR X (binaryOp .Mult) (rI CMulZ fun i j => .int (i * j)) := opI fun _ _ _ _ _ _ _ hc q => mul_int q (hc.elim (fun h => h.ok) fun h => h.ok)
theorem op_bin : ∀ op, OpR X (binaryOp op) (rBin X.K op)
  | .Add => op_add.or (op_catA.or (op_catR.or op_add_str))
  | .Sub => op_sub
  | .Mult => op_mulZ.or op_repT
  | .Mod => op_mod
  | .FloorDiv => op_fdivW
  | .Pow => op_powW
  | .BitAnd => op_and
  | .BitOr => op_or
  | .RShift => op_shr
  | .LShift => op_shl
  | .MatMult => opr_no
  | .Div => opr_no
  | .BitXor => opr_no
end
section
variable {K : PySem.W.Frag}
theorem dq_int {G : Hp} {v : V} {i : Int} (h : Dq K G v (.int i)) : v = .int i := by cases h; rfl
theorem dq_str {G : Hp} {v : V} {i : Str} (h : Dq K G v (.str i)) : v = .str i := by cases h; rfl
theorem dq_bool {G : Hp} {v : V} {i : Bool} (h : Dq K G v (.bool i)) : v = .bl i := by cases h; rfl
theorem dq_none {G : Hp} {v : V} (h : Dq K G v .none) : v = .non := by cases h; rfl
theorem zr_int {P : Addr → Prop} {G H H0 : Hp} {c : Nat} {z : Zv} {v : V} {i : Int} (w : Wd P G H c) (h : ZR K P G H H0 z v) (e : dv? z = some (.int i)) : v = .int i := dq_int (h.look w e fun _ e => by cases e)
theorem zr_str {P : Addr → Prop} {G H H0 : Hp} {c : Nat} {z : Zv} {v : V} {i : Str} (w : Wd P G H c) (h : ZR K P G H H0 z v) (e : dv? z = some (.str i)) : v = .str i := dq_str (h.look w e fun _ e => by cases e)
/-- two ints -/
theorem opi_int {C : Int → Int → Prop} {g : Int → Int → Int} {f : PyData → PyData → KD → Prop} (h : ∀ x y Q, f x y Q → ∃ i j, x = .int i ∧ y = .int j ∧ C i j ∧ Q (.int (g i j))) : OpI K f (rI C fun i j => .int (g i j)) :=
  fun B P G H c zx zy x y dx dy Q R w hx hy ex ey hf k => by
  obtain ⟨i, j, rfl, rfl, hc, q⟩ := h _ _ _ hf
  exact ⟨i, j, zr_int w hx ex, zr_int w hy ey, hc, k _ P G H _ .refl w (.int _) q⟩
theorem opi_int0 {g : Int → Int → Int} {f : PyData → PyData → KD → Prop} (h : ∀ x y Q, f x y Q → ∃ i j, x = .int i ∧ y = .int j ∧ Q (.int (g i j))) : OpI K f (rI0 fun i j => .int (g i j)) :=
  fun B P G H c zx zy x y dx dy Q R w hx hy ex ey hf k => by
  obtain ⟨i, j, rfl, rfl, q⟩ := h _ _ _ hf
  exact ⟨i, j, zr_int w hx ex, zr_int w hy ey, k _ P G H _ .refl w (.int _) q⟩
theorem opi_add : OpI K (wBin .Add) (rBin K .Add) := fun B P G H c zx zy x y dx dy Q R w hx hy ex ey hf k => by
  unfold wBin at hf
  split at hf <;> first | exact hf.elim | skip
  all_goals first | contradiction | skip
  · exact .inl ⟨_, _, zr_int w hx ex, zr_int w hy ey, k _ P G H _ .refl w (.int _) hf⟩
  · rename_i xs ys _
    obtain ⟨hz, q⟩ := hf
    obtain ⟨a, vs, rfl, ha, ga, da⟩ := hx.tup w ex
    obtain ⟨b, us, rfl, hb, gb, db⟩ := hy.tup w ey
    have l1 := da.length
    have l2 := db.length
    refine .inr (.inl ⟨a, b, vs, us, rfl, rfl, ha, hb, by omega, fun e => ?_, fun n e => ?_, fun n n2 p hp => ?_⟩)
    · subst e
      cases da
      exact k _ P G H _ .refl w (.tup gb db) q
    · subst e
      cases db
      rw [List.append_nil] at q
      exact k _ P G H _ .refl w (.tup ga da) q
    · have s2 := Stp.new (o := .tup (vs ++ us)) w hp
      refine k _ P _ _ _ s2 (w.new hp (by show (vs ++ us).length ≤ _; rw [List.length_append]; omega)) (.tup (SqT.of upd_same) ?_) q
      exact (dpa_mono s2.gg _ _ da).append (dpa_mono s2.gg _ _ db)
  · rename_i xs ys _
    obtain ⟨hz, q⟩ := hf
    obtain ⟨a, vs, rfl, ha, da⟩ := hx.lst w ex
    obtain ⟨b, us, rfl, hb, db⟩ := hy.lst w ey
    have l1 := da.length
    have l2 := db.length
    refine .inr (.inr (.inl ⟨a, b, vs, us, rfl, rfl, ha, hb, by omega, fun p hp => ?_⟩))
    have s2 := Stp.new (o := .lst (vs ++ us)) w hp
    refine k _ P _ _ _ s2 (w.new hp (by show (vs ++ us).length ≤ _; rw [List.length_append]; omega)) (.lst upd_same ?_) q
    exact (dpa_mono s2.gg _ _ da).append (dpa_mono s2.gg _ _ db)
  · exact .inr (.inr (.inr ⟨_, _, zr_str w hx ex, zr_str w hy ey, hf.1, k _ P G H _ .refl w (.str _) hf.2⟩))
theorem DqAll.rep {G : Hp} {vs : List V} {ds : List PyData} (h : DqAll K G vs ds) : ∀ n : Nat, DqAll K G (List.replicate n vs).flatten (List.replicate n ds).flatten
  | 0 => .nil
  | n + 1 => by
    rw [List.replicate_succ, List.replicate_succ, List.flatten_cons, List.flatten_cons]
    exact h.append (DqAll.rep h n)
theorem rep_len {α : Type} (xs : List α) (n : Nat) : (List.replicate n xs).flatten.length = n * xs.length := by simp [List.length_flatten]
theorem opi_mul : OpI K (wBin .Mult) (rBin K .Mult) := fun B P G H c zx zy x y dx dy Q R w hx hy ex ey hf k => by
  unfold wBin at hf
  split at hf <;> first | exact hf.elim | skip
  all_goals first | contradiction | skip
  · exact .inl ⟨_, _, zr_int w hx ex, zr_int w hy ey, hf.1, k _ P G H _ .refl w (.int _) hf.2⟩
  · obtain ⟨⟨h0, h1, h2, h3⟩, q⟩ := hf
    obtain ⟨a, vs, rfl, ha, ga, da⟩ := hx.tup w ex
    have l1 := da.length
    refine .inr ⟨a, _, vs, rfl, zr_int w hy ey, ha, fun e => h0 ?_, h1, h2, by omega, fun p hp => ?_⟩
    · subst e
      exact List.eq_nil_of_length_eq_zero l1.symm
    · rename_i xs kk _
      have hk : kk.toNat * vs.length ≤ 1000 * 1000 := Nat.mul_le_mul (by omega) (by omega)
      have s2 := Stp.new (o := .tup (List.replicate kk.toNat vs).flatten) w hp
      refine k _ P _ _ _ s2 (w.new hp (by show (List.replicate kk.toNat vs).flatten.length ≤ _; rw [rep_len, sizeLine_eq]; omega)) (.tup (SqT.of upd_same) ?_) q
      exact DqAll.rep (dpa_mono s2.gg _ _ da) _
theorem opi_bin : ∀ op, OpI K (wBin op) (rBin K op)
  | .Add => opi_add
  | .Sub => opi_int0 fun x y Q h => by unfold wBin at h; split at h <;> first | exact ⟨_, _, rfl, rfl, h⟩ | exact h.elim | contradiction
  | .Mult => opi_mul
  | .Mod => opi_int fun x y Q h => by unfold wBin at h; split at h <;> first | exact ⟨_, _, rfl, rfl, h⟩ | exact h.elim | contradiction
  | .FloorDiv => opi_int fun x y Q h => by unfold wBin at h; split at h <;> first | exact ⟨_, _, rfl, rfl, h⟩ | exact h.elim | contradiction
  | .Pow => opi_int fun x y Q h => by unfold wBin at h; split at h <;> first | exact ⟨_, _, rfl, rfl, h⟩ | exact h.elim | contradiction
  | .BitAnd => opi_int0 fun x y Q h => by unfold wBin at h; split at h <;> first | exact ⟨_, _, rfl, rfl, h⟩ | exact h.elim | contradiction
  | .BitOr => opi_int0 fun x y Q h => by unfold wBin at h; split at h <;> first | exact ⟨_, _, rfl, rfl, h⟩ | exact h.elim | contradiction
  | .RShift => opi_int fun x y Q h => by unfold wBin at h; split at h <;> first | exact ⟨_, _, rfl, rfl, h⟩ | exact h.elim | contradiction
  | .LShift => opi_int fun x y Q h => by unfold wBin at h; split at h <;> first | exact ⟨_, _, rfl, rfl, h⟩ | exact h.elim | contradiction
  | .MatMult => fun B P G H c zx zy x y dx dy Q R w hx hy ex ey hf k => by unfold wBin at hf; split at hf <;> first | exact hf.elim | contradiction
  | .Div => fun B P G H c zx zy x y dx dy Q R w hx hy ex ey hf k => by unfold wBin at hf; split at hf <;> first | exact hf.elim | contradiction
  | .BitXor => fun B P G H c zx zy x y dx dy Q R w hx hy ex ey hf k => by unfold wBin at hf; split at hf <;> first | exact hf.elim | contradiction
end
end Z
/-! Z5 -/
set_option maxRecDepth 100000
/-! comparisons, subscripts, slices -/
namespace Z
open PySem PySem.Spec PyProof.Rows L2
section
variable {X : Cx}
def rInTD (K : PySem.W.Frag) (neg : Bool) : R2 := fun x y H Q => ∃ d ds, Dp K H x d ∧ Dp K H y (.tuple ds) ∧ SeqAt.shaped d = true ∧ SeqAt.shaped (.tuple ds) = true ∧ Q (.bl (if neg then !ds.any fun z => PyData.eqv z d else ds.any fun z => PyData.eqv z d)) H
theorem op_inTD (hu : X.A.units + 65 < cLine) : OpR X (compareOp .In) (rInTD X.K false) := fun pins s σ H x y v u Q I rx ry h => by
  obtain ⟨d, ds, hd, he, sd, se, q⟩ := h
  obtain ⟨as, r1⟩ := hd.reads I _ _ _ rx
  obtain ⟨bs, r2⟩ := he.reads I _ _ _ ry
  exact SeqAt.in_tuple_reads r2 r1 (SeqAt.canLay_of_shaped se) (SeqAt.canLay_of_shaped sd) (room_in_shaped sd hu) ⟨.bl _, H, I, rfl, q⟩
theorem op_notInTD (hu : X.A.units + 65 < cLine) : OpR X (compareOp .NotIn) (rInTD X.K true) := fun pins s σ H x y v u Q I rx ry h => by
  obtain ⟨d, ds, hd, he, sd, se, q⟩ := h
  obtain ⟨as, r1⟩ := hd.reads I _ _ _ rx
  obtain ⟨bs, r2⟩ := he.reads I _ _ _ ry
  exact SeqAt.notIn_tuple_reads r2 r1 (SeqAt.canLay_of_shaped se) (SeqAt.canLay_of_shaped sd) (room_in_shaped sd hu) ⟨.bl _, H, I, rfl, q⟩
/-- a tuple and the empty one -/
def rEq0 (K : PySem.W.Frag) : R2 := fun x y H Q => ∃ (a b : Addr) (xs : List V), x = .ref a ∧ y = .ref b ∧ SqT K H a xs ∧ SqT K H b [] ∧ Q (.bl xs.isEmpty) H
theorem op_eq0 (hu : X.A.units < cLine) : OpR X (compareOp .Eq) (rEq0 X.K) := fun pins s σ H x y v u Q I rx ry h => by
  obtain ⟨a, b, xs, rfl, rfl, ha, hb, q⟩ := h
  cases rx
  cases ry
  obtain ⟨its, r, pt, _⟩ := I.tuple ha
  obtain ⟨its2, r2, pt2, _⟩ := I.tuple hb
  have e2 : its2 = [] := List.eq_nil_of_length_eq_zero r2.length.symm
  subst e2
  refine SeqAt.eq_tupleAt (e := fun _ => true) (show s.heap.IsTuple a its.toArray from pt) (show s.heap.IsTuple b ([] : List Value).toArray from pt2) hu (fun j h1 h2 => by simp at h2) ?_
  refine ⟨.bl xs.isEmpty, H, I, ?_, q⟩
  show Value.bool _ = Value.bool _
  have hl := r.length
  cases xs with
  | nil => cases its with
    | nil => rfl
    | cons _ _ => simp at hl
  | cons _ _ => cases its with
    | nil => simp at hl
    | cons _ _ => rfl
/-- a key in a dict -/
def rInK (neg : Bool) : R2 := fun x y H Q => ∃ (a : Addr) (kvs : List (Key × V)) (k : Key), y = .ref a ∧ H a = some (.dK kvs) ∧ x = kV k ∧ Q (.bl (if neg then !(valV kvs k).isSome else (valV kvs k).isSome)) H
theorem op_inK (hu : X.A.units + 1 < cLine) : OpR X (compareOp .In) (rInK false) := fun pins s σ H x y v u Q I rx ry h => by
  obtain ⟨a, kvs, k, rfl, hd, rfl, q⟩ := h
  cases ry
  exact d_in hu I (DGet.k hd) rx fun s3 I3 => ⟨.bl _, H, I3, rfl, q⟩
theorem op_notInK (hu : X.A.units + 1 < cLine) : OpR X (compareOp .NotIn) (rInK true) := fun pins s σ H x y v u Q I rx ry h => by
  obtain ⟨a, kvs, k, rfl, hd, rfl, q⟩ := h
  cases ry
  exact d_notIn hu I (DGet.k hd) rx fun s3 I3 => ⟨.bl _, H, I3, rfl, q⟩
/-- d[k] -/
def rIxK : R2 := fun x y H Q => ∃ (a : Addr) (kvs : List (Key × V)) (k : Key) (v : V), x = .ref a ∧ H a = some (.dK kvs) ∧ y = kV k ∧ valV kvs k = some v ∧ Q v H
theorem ix_dictK (hu : X.A.units + 1 < cLine) : IxR X rIxK := by
  intro value slice pins s σ H x y v u Q I rx ry h hs
  obtain ⟨a, kvs, k, w, rfl, hd, rfl, e, q⟩ := h
  obtain rfl : v = Value.ref a := rx
  have g : DGet H a (kV k) (some w) := by rw [← e]; exact DGet.k hd
  exact tail_any (dict_typeIs I g) PySem.F.slot_dict_getitem.lookup (d_getItem hu I g ry fun w' s3 I3 rw' => ⟨w, H, I3, rw', q⟩) hs
def rIxZ (K : PySem.W.Frag) : R2 := fun x y H Q => rIx K x y H Q ∨ rIxK x y H Q
theorem ix_all (hu : X.A.units + 1 < cLine) : IxR X (rIxZ X.K) := IxR.or ix_seq (ix_dictK hu)
/-- a comparison's reading as one -/
def rCmp (K : PySem.W.Frag) : CmpOp → R2
  | .Eq => fun x y H Q => rEq x y H Q ∨ rEqD K x y H Q ∨ rEq0 K x y H Q
  | .NotEq => fun x y H Q => rNe x y H Q ∨ rNeD K x y H Q
  | .Lt => fun x y H Q => rI0 (fun i j => .bl (decide (i < j))) x y H Q ∨ rLtT K x y H Q
  | .LtE => rI0 fun i j => .bl (decide (i ≤ j))
  | .Gt => rI0 fun i j => .bl (decide (j < i))
  | .GtE => rI0 fun i j => .bl (decide (j ≤ i))
  | .In => fun x y H Q => rInD K x y H Q ∨ rInTD K false x y H Q ∨ rInK false x y H Q
  | .NotIn => fun x y H Q => rNotInD K x y H Q ∨ rInTD K true x y H Q ∨ rInK true x y H Q
  | .Is => fun x y H Q => (y = .non ∧ Q (.bl (decide (x = .non))) H) ∨ rIsB x y H Q
  | .IsNot => fun x y H Q => (y = .non ∧ Q (.bl (!decide (x = .non))) H) ∨ rNotB x y H Q
theorem op_cmp (hu : X.A.units + 65 < cLine) : ∀ op, OpR X (compareOp op) (rCmp X.K op)
  | .Eq => op_eq.or ((op_eqD (by omega)).or (op_eq0 (by omega)))
  | .NotEq => op_ne.or (op_neD (by omega))
  | .Lt => op_lt.or (op_ltT (by omega))
  | .LtE => op_le
  | .Gt => op_gt
  | .GtE => op_ge
  | .In => (op_inD hu).or ((op_inTD hu).or (op_inK (by omega)))
  | .NotIn => (op_notInD hu).or ((op_notInTD hu).or (op_notInK (by omega)))
  | .Is => op_isN.or op_isBl
  | .IsNot => op_notN.or op_notBl
end
section
variable {K : PySem.W.Frag}
theorem ints?_eq : ∀ {xs : List PyData} {ns : List Int}, ints? xs = some ns → xs = ns.map .int
  | [], ns, h => by cases h; rfl
  | .int i :: r, ns, h => by
    simp only [ints?, Option.map_eq_some_iff] at h
    obtain ⟨ms, h1, rfl⟩ := h
    rw [ints?_eq h1]; rfl
  | .none :: _, _, h => by cases h
  | .bool _ :: _, _, h => by cases h
  | .str _ :: _, _, h => by cases h
  | .list _ :: _, _, h => by cases h
  | .tuple _ :: _, _, h => by cases h
  | .dict _ :: _, _, h => by cases h
theorem bools?_eq : ∀ {xs : List PyData} {ns : List Bool}, bools? xs = some ns → xs = ns.map .bool
  | [], ns, h => by cases h; rfl
  | .bool i :: r, ns, h => by
    simp only [bools?, Option.map_eq_some_iff] at h
    obtain ⟨ms, h1, rfl⟩ := h
    rw [bools?_eq h1]; rfl
  | .none :: _, _, h => by cases h
  | .int _ :: _, _, h => by cases h
  | .str _ :: _, _, h => by cases h
  | .list _ :: _, _, h => by cases h
  | .tuple _ :: _, _, h => by cases h
  | .dict _ :: _, _, h => by cases h
theorem shp {d : PyData} (h : SeqAt.shaped d = true) : d.canLay0 = true := SeqAt.canLay_of_shaped h
theorem dq_non {G : Hp} {x : PyData} {v : V} (h : Dq K G v x) : decide (v = .non) = isNoneD x := by cases h <;> simp [isNoneD]
theorem zr_non {P : Addr → Prop} {G H H0 : Hp} {c : Nat} {z : Zv} {v : V} {x : PyData} (w : Wd P G H c) (h : ZR K P G H H0 z v) (e : dv? z = some x) : decide (v = .non) = isNoneD x := by
  by_cases q : ∃ xs, x = .list xs
  · obtain ⟨xs, rfl⟩ := q
    obtain ⟨a, vs, rfl, hs, ha⟩ := h.lst w e
    rfl
  · exact dq_non (h.look w e fun xs e2 => q ⟨xs, e2⟩)
theorem eqv_str' (a b : Str) : PyData.eqv (.str a) (.str b) = decide (a = b) := by simp [PyData.eqv]; rfl
theorem eqOk_or {x y : PyData} (h : eqOk x y) : (∃ a b, x = .str a ∧ y = .str b) ∨ (SeqAt.shaped x = true ∧ SeqAt.shaped y = true) ∨ ∃ xs, x = .tuple xs ∧ y = .tuple [] := by
  unfold eqOk at h
  split at h
  · exact .inl ⟨_, _, rfl, rfl⟩
  · exact .inr (.inr ⟨_, rfl, rfl⟩)
  · exact .inr (.inl h)
theorem neOk_or {x y : PyData} (h : neOk x y) : (∃ a b, x = .str a ∧ y = .str b) ∨ (SeqAt.shaped x = true ∧ SeqAt.shaped y = true) := by
  unfold neOk at h
  split at h
  · exact .inl ⟨_, _, rfl, rfl⟩
  · exact .inr h
theorem eqv_nil (xs : List PyData) : PyData.eqv (.tuple xs) (.tuple []) = xs.isEmpty := by
  cases xs <;> simp [PyData.eqv, PyData.eqvAll]
theorem keyD_kD (k : Key) : keyD (kD k) = some k := by cases k <;> rfl
theorem kD_of {x : PyData} {k : Key} (h : keyD x = some k) : x = kD k := by
  cases x <;> first | (cases h; done) | (cases h; rfl)
theorem dkv_look {G : Hp} {k : Key} : ∀ {kvs : List (Key × V)} {ds : List (PyData × PyData)}, DqKV K G kvs ds → (valV kvs k = none ∧ dLk ds k = none) ∨ ∃ v d, valV kvs k = some v ∧ dLk ds k = some d ∧ Dq K G v d
  | _, _, .nil => .inl ⟨rfl, rfl⟩
  | _, _, .cons (k := j) h t => by
    unfold dLk
    rw [keyD_kD]
    by_cases e : j = k
    · subst e
      exact .inr ⟨_, _, valV_pos rfl, by simp, h⟩
    · rw [valV_neg (show ¬ (j, _).1 = k from e), if_neg (fun z => e (Option.some.inj z))]
      exact dkv_look t
theorem dkv_has {G : Hp} {kvs : List (Key × V)} {ds : List (PyData × PyData)} (h : DqKV K G kvs ds) (k : Key) : (valV kvs k).isSome = (dLk ds k).isSome := by
  rcases dkv_look (k := k) h with ⟨e1, e2⟩ | ⟨v, d, e1, e2, _⟩
  · rw [e1, e2]; rfl
  · rw [e1, e2]; rfl
theorem key_of {P : Addr → Prop} {G H H0 : Hp} {c : Nat} {z : Zv} {v : V} {x : PyData} {k : Key} (w : Wd P G H c) (h : ZR K P G H H0 z v) (e : dv? z = some x) (hk : keyD x = some k) : v = kV k ∧ x = kD k := by
  have e2 := kD_of hk
  subst e2
  cases k with
  | inl i => exact ⟨zr_int w h e, rfl⟩
  | inr i => exact ⟨zr_str w h e, rfl⟩
/-- a comparison: what it means upon data -/
theorem opi_cmp : ∀ op, OpI K (fun x y Q => wCmp op x y fun b => Q (.bool b)) (rCmp K op)
  | .Eq => fun B P G H c zx zy x y dx dy Q R w hx hy ex ey hf k => by
    obtain ⟨h0, q⟩ := hf
    rcases eqOk_or h0 with ⟨a, b, rfl, rfl⟩ | ⟨h1, h2⟩ | ⟨xs, rfl, rfl⟩
    · have e1 := zr_str w hx ex
      have e2 := zr_str w hy ey
      subst e1
      subst e2
      refine .inl ⟨rfl, ?_⟩
      rw [show decide (V.str a = V.str b) = PyData.eqv (.str a) (.str b) by rw [eqv_str']; by_cases z : a = b <;> simp [z]]
      exact k _ P G H _ .refl w (.bl _) q
    · exact .inr (.inl ⟨dx, dy, hx.dp w ex (shp h1), hy.dp w ey (shp h2), h1, h2, k _ P G H _ .refl w (.bl _) q⟩)
    · obtain ⟨a, vs, rfl, ha, ga, da⟩ := hx.tup w ex
      obtain ⟨b, us, rfl, hb, gb, db⟩ := hy.tup w ey
      cases db
      rw [eqv_nil] at q
      refine .inr (.inr ⟨a, b, vs, rfl, rfl, ha, hb, ?_⟩)
      have e : vs.isEmpty = xs.isEmpty := by cases da <;> rfl
      rw [e]
      exact k _ P G H _ .refl w (.bl _) q
  | .NotEq => fun B P G H c zx zy x y dx dy Q R w hx hy ex ey hf k => by
    obtain ⟨h0, q⟩ := hf
    rcases neOk_or h0 with ⟨a, b, rfl, rfl⟩ | ⟨h1, h2⟩
    · have e1 := zr_str w hx ex
      have e2 := zr_str w hy ey
      subst e1
      subst e2
      refine .inl ⟨rfl, ?_⟩
      rw [show decide (V.str a = V.str b) = PyData.eqv (.str a) (.str b) by rw [eqv_str']; by_cases z : a = b <;> simp [z]]
      exact k _ P G H _ .refl w (.bl _) q
    · exact .inr ⟨dx, dy, hx.dp w ex (shp h1), hy.dp w ey (shp h2), h1, h2, k _ P G H _ .refl w (.bl _) q⟩
  | .Lt => fun B P G H c zx zy x y dx dy Q R w hx hy ex ey hf k => by
    unfold wCmp at hf
    split at hf <;> first | contradiction | skip
    rename_i e
    clear e
    split at hf
    · exact .inl ⟨_, _, zr_int w hx ex, zr_int w hy ey, k _ P G H _ .refl w (.bl _) hf⟩
    · obtain ⟨b, e, q⟩ := hf
      unfold lexLtD at e
      split at e
      · rename_i a1 b1 e1 e2
        have e := Option.some.inj e
        subst e
        have f1 := ints?_eq e1
        have f2 := ints?_eq e2
        subst f1
        subst f2
        obtain ⟨a, vs, rfl, ha, ga, da⟩ := hx.tup w ex
        obtain ⟨b, us, rfl, hb, gb, db⟩ := hy.tup w ey
        rw [da.ints] at ha
        rw [db.ints] at hb
        exact .inr ⟨a, b, a1, b1, rfl, rfl, ha, hb, k _ P G H _ .refl w (.bl _) q⟩
      · cases e
    · exact hf.elim
  | .LtE => fun B P G H c zx zy x y dx dy Q R w hx hy ex ey hf k => by
    cases dx <;> cases dy <;> first | exact (show False from hf).elim | exact ⟨_, _, zr_int w hx ex, zr_int w hy ey, k _ P G H _ .refl w (.bl _) hf⟩
  | .Gt => fun B P G H c zx zy x y dx dy Q R w hx hy ex ey hf k => by
    cases dx <;> cases dy <;> first | exact (show False from hf).elim | exact ⟨_, _, zr_int w hx ex, zr_int w hy ey, k _ P G H _ .refl w (.bl _) hf⟩
  | .GtE => fun B P G H c zx zy x y dx dy Q R w hx hy ex ey hf k => by
    cases dx <;> cases dy <;> first | exact (show False from hf).elim | exact ⟨_, _, zr_int w hx ex, zr_int w hy ey, k _ P G H _ .refl w (.bl _) hf⟩
  | .In => fun B P G H c zx zy x y dx dy Q R w hx hy ex ey hf k => by
    cases dy with
    | list ds => obtain ⟨h1, h2, q⟩ := hf; exact .inl ⟨dx, ds, hx.dp w ex (shp h1), hy.dp w ey (shp h2), h1, h2, k _ P G H _ .refl w (.bl _) q⟩
    | tuple ds => obtain ⟨h1, h2, q⟩ := hf; exact .inr (.inl ⟨dx, ds, hx.dp w ex (shp h1), hy.dp w ey (shp h2), h1, h2, k _ P G H _ .refl w (.bl _) q⟩)
    | dict kvs =>
      obtain ⟨kk, ek, q⟩ := hf
      cases hy.look w ey (fun _ e => by cases e) with
      | dic hs ha =>
        obtain ⟨ex', _⟩ := key_of w hx ex ek
        refine .inr (.inr ⟨_, _, kk, rfl, hs, ex', ?_⟩)
        have hh := dkv_has ha kk
        simp only [Bool.false_eq_true, if_false, if_true]
        rw [hh]
        exact k _ P G H _ .refl w (.bl _) q
    | _ => exact (show False from hf).elim
  | .NotIn => fun B P G H c zx zy x y dx dy Q R w hx hy ex ey hf k => by
    cases dy with
    | list ds => obtain ⟨h1, h2, q⟩ := hf; exact .inl ⟨dx, ds, hx.dp w ex (shp h1), hy.dp w ey (shp h2), h1, h2, k _ P G H _ .refl w (.bl _) q⟩
    | tuple ds => obtain ⟨h1, h2, q⟩ := hf; exact .inr (.inl ⟨dx, ds, hx.dp w ex (shp h1), hy.dp w ey (shp h2), h1, h2, k _ P G H _ .refl w (.bl _) q⟩)
    | dict kvs =>
      obtain ⟨kk, ek, q⟩ := hf
      cases hy.look w ey (fun _ e => by cases e) with
      | dic hs ha =>
        obtain ⟨ex', _⟩ := key_of w hx ex ek
        refine .inr (.inr ⟨_, _, kk, rfl, hs, ex', ?_⟩)
        have hh := dkv_has ha kk
        simp only [Bool.false_eq_true, if_false, if_true]
        rw [hh]
        exact k _ P G H _ .refl w (.bl _) q
    | _ => exact (show False from hf).elim
  | .Is => fun B P G H c zx zy x y dx dy Q R w hx hy ex ey hf k => by
    cases dy with
    | none =>
      refine .inl ⟨dq_none (hy.look w ey fun _ e => by cases e), ?_⟩
      rw [zr_non w hx ex]
      exact k _ P G H _ .refl w (.bl _) hf
    | bool b =>
      cases dx with
      | bool a =>
        refine .inr ⟨a, b, dq_bool (hx.look w ex fun _ e => by cases e), dq_bool (hy.look w ey fun _ e => by cases e), ?_⟩
        rw [show decide (a = b) = (a == b) by cases a <;> cases b <;> rfl]
        exact k _ P G H _ .refl w (.bl _) hf
      | _ => exact (show False from hf).elim
    | _ => exact (show False from hf).elim
  | .IsNot => fun B P G H c zx zy x y dx dy Q R w hx hy ex ey hf k => by
    cases dy with
    | none =>
      refine .inl ⟨dq_none (hy.look w ey fun _ e => by cases e), ?_⟩
      rw [zr_non w hx ex]
      exact k _ P G H _ .refl w (.bl _) hf
    | bool b =>
      cases dx with
      | bool a =>
        refine .inr ⟨a, b, dq_bool (hx.look w ex fun _ e => by cases e), dq_bool (hy.look w ey fun _ e => by cases e), ?_⟩
        rw [show decide (a = b) = (a == b) by cases a <;> cases b <;> rfl]
        exact k _ P G H _ .refl w (.bl _) hf
      | _ => exact (show False from hf).elim
    | _ => exact (show False from hf).elim
/-- x[i] -/
theorem atI_all {G : Hp} {vs : List V} {ds : List PyData} {i : Int} {d : PyData} (h : DqAll K G vs ds) (e : atI ds i = some d) : ∃ v, atI vs i = some v ∧ Dq K G v d := by
  unfold atI at e ⊢
  rw [h.length]
  cases q : ixN ds.length i with
  | none => rw [q] at e; cases e
  | some j =>
    rw [q] at e
    exact h.get' e
theorem dv_dict {P : Addr → Prop} {G H H0 : Hp} {c : Nat} {z : Zv} {v : V} {kvs : List (PyData × PyData)} (w : Wd P G H c) (h : ZR K P G H H0 z v) (e : dv? z = some (.dict kvs)) : Dq K G v (.dict kvs) := by
  cases z with
  | d x => cases e; exact h
  | own _ => cases e
  | scr _ => cases e
  | pot => cases e
theorem opi_ix : OpI K wIx (rIxZ K) := fun B P G H c zx zy x y dx dy Q R w hx hy ex ey hf k => by
  unfold wIx at hf
  split at hf
  · obtain ⟨d, e, q⟩ := hf
    obtain ⟨a, vs, rfl, ha, da⟩ := hx.lst w ex
    obtain ⟨v, ev, hv⟩ := atI_all da e
    exact .inl (.inl ⟨a, vs, _, v, rfl, zr_int w hy ey, ha, ev, k _ P G H _ .refl w hv q⟩)
  · obtain ⟨d, e, q⟩ := hf
    obtain ⟨a, vs, rfl, ha, ga, da⟩ := hx.tup w ex
    obtain ⟨v, ev, hv⟩ := atI_all da e
    exact .inl (.inr (.inl ⟨a, vs, _, v, rfl, zr_int w hy ey, ha, ev, k _ P G H _ .refl w hv q⟩))
  · obtain ⟨hz, cc, e, q⟩ := hf
    exact .inl (.inr (.inr ⟨_, _, cc, zr_str w hx ex, zr_int w hy ey, hz, e, k _ P G H _ .refl w (.str _) q⟩))
  · obtain ⟨kk, d, ek, el, q⟩ := hf
    cases dv_dict w hx ex with
    | dic hs ha =>
      rcases dkv_look (k := kk) ha with ⟨_, e2⟩ | ⟨v, d', e1, e2, hv⟩
      · rw [el] at e2; cases e2
      · rw [el] at e2
        cases e2
        exact .inr ⟨_, _, kk, v, rfl, w.gh _ _ hs, (key_of w hy ey ek).1, e1, k _ P G H _ .refl w hv q⟩
  · exact hf.elim
/-- x[lo:hi] -/
def rSlcL (K : PySem.W.Frag) : V → Option Int → Option Int → Hp → VK → Prop := fun x lo hi H Q => rSlL K x lo hi H Q ∨ rSlA K x lo hi H Q ∨ ∃ z, x = .str z ∧ z.length ≤ sizeLine ∧ Q (.str (cutS z lo hi)) H
end
end Z
/-! Z6 -/
set_option maxRecDepth 100000
/-! slices, built-in calls, methods -/
namespace Z
open PySem PySem.Spec PyProof.Rows L2
section
variable {X : Cx} {K : PySem.W.Frag}
/-- a slice of a list in any state of rest -/
def rSlR : V → Option Int → Option Int → Hp → VK → Prop := fun x lo hi H Q => ∃ a xs, x = .ref a ∧ Rd H a (.lst xs) ∧ ∀ p, H p = none → Q (.ref p) (upd H p (.lst (cutV xs lo hi)))
def rSlc (K : PySem.W.Frag) : V → Option Int → Option Int → Hp → VK → Prop := fun x lo hi H Q => rSlL K x lo hi H Q ∨ rSlA K x lo hi H Q ∨ rSlS x lo hi H Q
theorem sl_all : SlR X (rSlc X.K) := sl_list.or (sl_tupA.or sl_str)
theorem cut_all {G : Hp} {vs : List V} {ds : List PyData} (h : DqAll K G vs ds) (lo hi : Option Int) : DqAll K G (cutV vs lo hi) (cutD ds lo hi) := by
  unfold cutV cutD
  rw [h.length]
  exact (h.drop _).take _
theorem cutD_whole {ds : List PyData} {lo hi : Option Int} (h : HT.sIx ds.length 0 lo = 0 ∧ HT.sIx ds.length ds.length hi = ds.length) : cutD ds lo hi = ds := by
  unfold cutD
  rw [h.1, h.2]
  simp
theorem imp_sl {wa : WE} {ta : TE} {wl wh : Ga → Nat → (Option Int → Nat → Prop) → Prop} {tl th : TO} (ha : Imp K wa ta) (hl : ImpO K wl tl) (hh : ImpO K wh th) :
    Imp K (fun Γ c Q => wa Γ c fun x c1 => wl Γ c1 fun l c2 => wh Γ c2 fun h c3 => dv x fun dx => wSl dx l h fun r => Q (.d r) c3) (tSl (rSlc K) ta tl th) := fun B σ P G H Γ c Q R a w k => by
  refine ha B σ P G H Γ c _ _ a w fun x P1 G1 H1 c1 zx s1 w1 r1 q1 => ?_
  refine hl B σ P1 G1 H1 Γ c1 _ _ (a.step s1 w1) q1 fun l P2 G2 H2 c2 s2 w2 q2 => ?_
  refine hh B σ P2 G2 H2 Γ c2 _ _ (a.step (s1.trans s2) w2) q2 fun h P3 G3 H3 c3 s3 w3 q3 => ?_
  obtain ⟨dx, ex, q⟩ := dv_of q3
  have r3 := (r1.mono s2).mono s3
  have s123 := (s1.trans s2).trans s3
  unfold wSl at q
  split at q
  · obtain ⟨a', vs, rfl, hv, da⟩ := r3.lst w3 ex
    refine .inl ⟨a', vs, rfl, hv, fun p hp => ?_⟩
    have s4 := Stp.new (o := .lst (cutV vs l h)) w3 hp
    have hz := w3.lsz (K := K) hv
    exact k _ P3 _ _ c3 (.d _) (s123.trans s4) (w3.new hp (Nat.le_trans (cutV_length vs l h) hz)) (show Dq K _ _ _ from .lst upd_same (dpa_mono s4.gg _ _ (cut_all da l h))) q
  · obtain ⟨a', vs, rfl, hv, gv, da⟩ := r3.tup w3 ex
    refine .inr (.inl ⟨a', vs, rfl, hv, fun e => ?_, fun e p hp => ?_⟩)
    · rw [da.length] at e
      rw [cutD_whole e] at q
      exact k _ P3 _ _ c3 (.d _) s123 w3 (show Dq K _ _ _ from .tup gv da) q
    · have s4 := Stp.new (o := .tup (cutV vs l h)) w3 hp
      have hz := w3.tsz (K := K) hv
      exact k _ P3 _ _ c3 (.d _) (s123.trans s4) (w3.new hp (Nat.le_trans (cutV_length vs l h) hz)) (show Dq K _ _ _ from .tup (SqT.of upd_same) (dpa_mono s4.gg _ _ (cut_all da l h))) q
  · exact .inr (.inr ⟨_, zr_str w3 r3 ex, q.1, k _ P3 _ _ c3 (.d _) s123 w3 (show Dq K _ _ _ from .str _) q.2⟩)
  · exact q.elim
theorem impo_none : ImpO K (fun _ c Q => Q none c) tNoPart := fun B σ P G H Γ c Q R a w k => k none P G H c .refl a.wd w
theorem impo_some {wa : WE} {ta : TE} (ha : Imp K wa ta) : ImpO K (fun Γ c Q => wa Γ c fun x c1 => dv x fun dx => match dx with | .int i => Q (some i) c1 | _ => False) (tPart ta) := fun B σ P G H Γ c Q R a w k => by
  refine ha B σ P G H Γ c _ _ a w fun x P1 G1 H1 c1 zx s1 w1 r1 q1 => ?_
  obtain ⟨dx, ex, q⟩ := dv_of q1
  cases dx with
  | int i => exact ⟨i, zr_int w1 r1 ex, k _ P1 G1 H1 c1 s1 w1 q⟩
  | _ => exact q.elim
/-! ### built-ins -/
theorem insI_perm (x : Int) : ∀ l : List Int, (insI x l).Perm (x :: l)
  | [] => .refl _
  | y :: r => by
    unfold insI
    split
    · exact .refl _
    · exact (List.Perm.cons y (insI_perm x r)).trans (List.Perm.swap x y r)
theorem sortI_perm : ∀ l : List Int, (sortI l).Perm l
  | [] => .refl _
  | x :: r => (insI_perm x (sortI r)).trans (List.Perm.cons x (sortI_perm r))
theorem insI_sorted (x : Int) : ∀ l : List Int, l.Pairwise (· ≤ ·) → (insI x l).Pairwise (· ≤ ·)
  | [], _ => by simp [insI]
  | y :: r, h => by
    unfold insI
    rw [List.pairwise_cons] at h
    split
    · rename_i hxy
      refine List.pairwise_cons.mpr ⟨fun z hz => ?_, List.pairwise_cons.mpr h⟩
      rcases List.mem_cons.mp hz with rfl | hz
      · exact hxy
      · exact Int.le_trans hxy (h.1 z hz)
    · rename_i hxy
      refine List.pairwise_cons.mpr ⟨fun z hz => ?_, insI_sorted x r h.2⟩
      rcases List.mem_cons.mp ((insI_perm x r).mem_iff.mp hz) with rfl | hz
      · omega
      · exact h.1 z hz
theorem sortI_sorted : ∀ l : List Int, (sortI l).Pairwise (· ≤ ·)
  | [] => .nil
  | x :: r => insI_sorted x _ (sortI_sorted r)
theorem sorted_one : ∀ {l m : List Int}, l.Perm m → l.Pairwise (· ≤ ·) → m.Pairwise (· ≤ ·) → l = m
  | [], m, p, _, _ => (List.nil_perm.mp p).symm
  | x :: r, [], p, _, _ => absurd p.length_eq (by simp)
  | x :: r, y :: t, p, h, h' => by
    rw [List.pairwise_cons] at h h'
    have e : x = y := by
      have h1 : x ∈ y :: t := p.mem_iff.mp List.mem_cons_self
      have h2 : y ∈ x :: r := p.mem_iff.mpr List.mem_cons_self
      rcases List.mem_cons.mp h1 with e | h1
      · exact e
      · rcases List.mem_cons.mp h2 with e | h2
        · exact e.symm
        · exact Int.le_antisymm (h.1 _ h2) (h'.1 _ h1)
    subst e
    rw [sorted_one (List.Perm.cons_inv p) h.2 h'.2]
theorem maxD_spec : ∀ {l : List Int}, l ≠ [] → maxD l ∈ l ∧ ∀ y ∈ l, y ≤ maxD l
  | [], h => absurd rfl h
  | [x], _ => by simp [maxD]
  | x :: y :: r, _ => by
    obtain ⟨h1, h2⟩ := maxD_spec (l := y :: r) (by simp)
    unfold maxD
    split
    · rename_i hlt
      refine ⟨List.mem_cons_self, fun z hz => ?_⟩
      rcases List.mem_cons.mp hz with rfl | hz
      · omega
      · have := h2 z hz; omega
    · rename_i hlt
      refine ⟨List.mem_cons_of_mem _ h1, fun z hz => ?_⟩
      rcases List.mem_cons.mp hz with rfl | hz
      · omega
      · exact h2 z hz
theorem minD_spec : ∀ {l : List Int}, l ≠ [] → minD l ∈ l ∧ ∀ y ∈ l, minD l ≤ y
  | [], h => absurd rfl h
  | [x], _ => by simp [minD]
  | x :: y :: r, _ => by
    obtain ⟨h1, h2⟩ := minD_spec (l := y :: r) (by simp)
    unfold minD
    split
    · rename_i hlt
      refine ⟨List.mem_cons_self, fun z hz => ?_⟩
      rcases List.mem_cons.mp hz with rfl | hz
      · omega
      · have := h2 z hz; omega
    · rename_i hlt
      refine ⟨List.mem_cons_of_mem _ h1, fun z hz => ?_⟩
      rcases List.mem_cons.mp hz with rfl | hz
      · omega
      · exact h2 z hz
/-- repr of what is no object -/
theorem call_repr_bl : CallR X (.builtin "repr") (fun xs H Q => ∃ b, xs = [.bl b] ∧ Q (.str (if b then "True" else "False")) H) := fun pins s σ H xs us Q I r h => by
  obtain ⟨b, rfl, q⟩ := h
  obtain ⟨u, rfl, ru⟩ := vals1 r
  cases (show u = Value.bool b from ru)
  exact PySem.P.repr_of_bool ⟨.str _, H, I.tok _, ⟨_, rfl⟩, q⟩
theorem call_repr_non : CallR X (.builtin "repr") (fun xs H Q => xs = [.non] ∧ Q (.str "None") H) := fun pins s σ H xs us Q I r h => by
  obtain ⟨rfl, q⟩ := h
  obtain ⟨u, rfl, ru⟩ := vals1 r
  cases (show u = Value.none from ru)
  exact PySem.P.repr_of_none ⟨.str _, H, I.tok _, ⟨_, rfl⟩, q⟩
end
end Z
/-! ZS -/
set_option maxRecDepth 100000
/-! sorted(..) of any data that can be put in order -/
namespace Z
open PySem PySem.Spec PyProof.Rows L2
section
variable {X : Cx}
def rSortedD (K : PySem.W.Frag) : List V → Hp → VK → Prop := fun vs H Q => ∃ (a : Addr) (xs : List V) (ds : List PyData), vs = [V.ref a] ∧ SqL K H a xs ∧ DpAll K H xs ds ∧ PySem.W.AllAlike ds ∧ PySem.W.Sortable ds ∧ (∀ d ∈ ds, d.depth ≤ 60) ∧
  ∀ (zs : List (V × PyData)) (p : Addr), zs.Perm (xs.zip ds) → zs.Pairwise (fun a b => srtLe a.2 b.2 = true) → H p = none → Q (.ref p) (upd H p (.lst (zs.map fun z => z.1)))
theorem zip_snd : ∀ {K : PySem.W.Frag} {H : Hp} {ds : List PyData} {xs : List V}, DpAll K H xs ds → (xs.zip ds).map (fun z => z.2) = ds
  | _, _, [], _, h => by cases h; rfl
  | _, _, d :: ds, _, h => by
    cases h with
    | cons h1 h2 =>
      rw [List.zip_cons_cons, List.map_cons, zip_snd h2]
theorem each_rel : ∀ {K : PySem.W.Frag} {H : Hp} {ds : List PyData} {xs : List V} {us : List Value}, DpAll K H xs ds → Vals xs us → PySem.W.EachIs (fun (u : Value) (b : V × PyData) => RelV b.1 u) us (xs.zip ds)
  | _, _, [], _, _, h, r => by
    cases h
    cases r
    exact .nil
  | _, _, d :: ds, _, _, h, r => by
    cases h with
    | cons h1 h2 =>
      cases r with
      | cons r1 r2 => exact .cons r1 (each_rel h2 r2)
theorem each_reads {pins : List (Addr × Obj)} {σ : L2.St} {H : Hp} {s : Shared} (I : Inv X pins σ H s) : ∀ {ds : List PyData} {xs : List V} {us : List Value}, DpAll X.K H xs ds → Vals xs us → PySem.W.EachIs (fun (u : Value) (b : V × PyData) => ∃ as, Reads s.heap u b.2 as) us (xs.zip ds)
  | [], _, _, h, r => by
    cases h
    cases r
    exact .nil
  | d :: ds, _, _, h, r => by
    cases h with
    | cons h1 h2 =>
      cases r with
      | cons r1 r2 => exact .cons (Dp.reads I d _ _ h1 r1) (each_reads I h2 r2)
theorem each_vals : ∀ {bs : List (V × PyData)} {us : List Value}, PySem.W.EachIs (fun (u : Value) (b : V × PyData) => RelV b.1 u) us bs → Vals (bs.map fun z => z.1) us
  | _, _, .nil => .nil
  | _, _, .cons h t => .cons h (each_vals t)
theorem cr_sortedD (hu : X.A.units + 100 < cLine) : CallR X (.builtin "sorted") (rSortedD X.K) := by
  intro pins s σ H vs us Q I r h
  obtain ⟨a, xs, ds, rfl, hs, hd, hal, hk, hdp, q⟩ := h
  obtain ⟨its, rv, hl, hz⟩ := I.list hs
  rw [Vals.ref1 r]
  have e2 : (xs.zip ds).map (fun z : V × PyData => z.2) = ds := zip_snd hd
  have len : (xs.zip ds).length = xs.length := by
    have q1 := congrArg List.length e2
    rw [List.length_map] at q1
    rw [q1]
    have q2 := (each_rel hd rv).length
    rw [q1] at q2
    rw [← q2]
    exact rv.length.symm
  refine PySem.W.sorted_data (bs := xs.zip ds) (enc := fun z : V × PyData => z.2) hl.isList (each_rel hd rv) (each_reads I hd rv) (by rw [e2]; exact hal) (by rw [e2]; exact hk) (by rw [len]; exact hz) (fun b hb => ?_) fun out ho he => ?_
  · have := hdp b.2 (by rw [← e2]; exact List.mem_map.mpr ⟨b, hb, rfl⟩)
    omega
  · have tot := PySem.W.sortLe_total (listOrd itemOrd) false (fun z : V × PyData => PySem.W.keyToks z.2)
    have pm : ((xs.zip ds).mergeSort (PySem.W.dataLe false fun z : V × PyData => z.2)).Perm (xs.zip ds) := List.mergeSort_perm _ _
    have pw := PySem.W.sort_pairwise tot (xs.zip ds)
    have vl := each_vals he
    obtain ⟨ep, he'⟩ := sortedAll_at s.heap its (List.toArray out)
    have hlen : (((xs.zip ds).mergeSort (PySem.W.dataLe false fun z : V × PyData => z.2)).map fun z => z.1).length ≤ sizeLine := by
      rw [List.length_map, pm.length_eq, len]
      exact hz
    exact ⟨.ref _, upd H (s.heap.objs.size + 1) (.lst (((xs.zip ds).mergeSort (PySem.W.dataLe false fun z : V × PyData => z.2)).map fun z => z.1)), I.laid (t' := s.toks) (fun _ _ => sortedAll_old) (Nat.le_succ _) ⟨hlen, out, ep, vl, he'⟩, rfl, q _ _ pm pw (I.hok.fresh (Nat.le_succ _))⟩
end
end Z
/-! Z7 -/
set_option maxRecDepth 100000
/-! built-in calls, isinstance, index -/
namespace Z
open PySem PySem.Spec PyProof.Rows L2
/-- what is around: no repr is running -/
def Gd0 (A : Around) : Prop := A.guards = some []
section
variable {X : Cx} {K : PySem.W.Frag}
theorem call_repr_D (hg : Gd0 X.A) (hu : X.A.units + 100 < cLine) : CallR X (.builtin "repr") (fun xs H Q => ∃ (a : Addr) (d : PyData), xs = [.ref a] ∧ Dp X.K H (.ref a) d ∧ d.showable = true ∧ d.hasDict = false ∧ d.depth ≤ 60 ∧ d.shown.length ≤ sizeLine ∧ Q (.str d.shown) H) := fun pins s σ H xs us Q I r h => by
  obtain ⟨a, d, rfl, hd, h1, h2, h3, h4, q⟩ := h
  obtain ⟨u, rfl, ru⟩ := vals1 r
  cases (show u = Value.ref a from ru)
  obtain ⟨as, rd⟩ := hd.reads I _ _ _ ru
  refine repr_of_reads' rd h1 (fun z => by rw [h2] at z; cases z) hg (by omega) (fun _ _ e => e) (fun h' u tk hk => ?_) h4
  exact ⟨.str _, H, I.kept hk, ⟨_, rfl⟩, q⟩
/-- a call's reading, from what it means upon data -/
abbrev CallI (K : PySem.W.Frag) (f : List PyData → KD → Prop) (r : List V → Hp → VK → Prop) : Prop :=
  ∀ (B : Bs) (P : Addr → Prop) (G H : Hp) (c : Nat) (zs : List Zv) (vs : List V) (Q : KD) (R : VK), Wd P G H c → ZRs K P G H B.H zs vs → dvs zs (fun ds => f ds Q) →
    (∀ v P' G' H' d, Stp P G H P' G' H' → Wd P' G' H' c → Dq K G' v d → Q d → R v H') → r vs H R
theorem dvs_of {B : Bs} {P : Addr → Prop} {G H : Hp} : ∀ {zs : List Zv} {vs : List V} {Q : List PyData → Prop}, ZRs K P G H B.H zs vs → dvs zs Q → ∃ ds, Q ds ∧ zs.map dv? = ds.map some
  | _, _, _, .nil, h => ⟨[], h, rfl⟩
  | .d x :: r, _, Q, .cons _ t, h => by
    obtain ⟨ds, q, e⟩ := dvs_of (Q := fun xs => Q (x :: xs)) t h
    exact ⟨x :: ds, q, by simp [dv?, e]⟩
  | .own ys :: r, _, Q, .cons _ t, h => by
    obtain ⟨ds, q, e⟩ := dvs_of (Q := fun xs => Q (.list ys :: xs)) t h
    exact ⟨.list ys :: ds, q, by simp [dv?, e]⟩
  | .scr ys :: r, _, Q, .cons _ t, h => by
    obtain ⟨ds, q, e⟩ := dvs_of (Q := fun xs => Q (.list (ys.map .int) :: xs)) t h
    exact ⟨.list (ys.map .int) :: ds, q, by simp [dv?, e]⟩
  | .pot :: _, _, _, _, h => h.elim
theorem imp_call {r : List V → Hp → VK → Prop} {f : List PyData → KD → Prop} {w : WA} {t : TA} (ha : ImpA K w t) (hr : CallI K f r) : Imp K (fun Γ c Q => w Γ c fun zs c1 => dvs zs fun ds => f ds fun d => Q (.d d) c1) (tCB r t) := fun B σ P G H Γ c Q R a w k => by
  refine ha B σ P G H Γ c _ _ a w fun vs P1 G1 H1 c1 zs s1 w1 r1 q1 => ?_
  exact hr B P1 G1 H1 c1 zs vs _ R w1 r1 q1 fun v P' G' H' d s2 w2 r2 q2 => k v P' G' H' c1 (.d d) (s1.trans s2) w2 r2 q2
/-- one value, two -/
theorem zrs1 {P : Addr → Prop} {G H H0 : Hp} {zs : List Zv} {vs : List V} {d : PyData} (r : ZRs K P G H H0 zs vs) (e : zs.map dv? = [some d]) : ∃ z v, zs = [z] ∧ vs = [v] ∧ ZR K P G H H0 z v ∧ dv? z = some d := by
  cases r with
  | nil => simp at e
  | cons h t =>
    cases t with
    | nil => exact ⟨_, _, rfl, rfl, h, by simpa using e⟩
    | cons h' t' => simp at e
theorem zrs2 {P : Addr → Prop} {G H H0 : Hp} {zs : List Zv} {vs : List V} {d d' : PyData} (r : ZRs K P G H H0 zs vs) (e : zs.map dv? = [some d, some d']) : ∃ z z' v v', zs = [z, z'] ∧ vs = [v, v'] ∧ ZR K P G H H0 z v ∧ ZR K P G H H0 z' v' ∧ dv? z = some d ∧ dv? z' = some d' := by
  cases r with
  | nil => simp at e
  | cons h t =>
    cases t with
    | nil => simp at e
    | cons h' t' =>
      cases t' with
      | nil =>
        simp only [List.map_cons, List.map_nil, List.cons.injEq, and_true] at e
        exact ⟨_, _, _, _, rfl, rfl, h, h', e.1, e.2⟩
      | cons h2 t2 => simp at e
def isFn : Bf → Option String
  | .len => some "len" | .abs => some "abs" | .max => some "max" | .min => some "min" | .sum => some "sum" | .all => some "all" | .any => some "any" | .sorted => some "sorted" | .repr => some "repr"
  | _ => none
def isTy : Bf → Option String
  | .tuple => some "tuple" | .list => some "list" | .int => some "int"
  | _ => none
def rBlt (K : PySem.W.Frag) : Bf → List V → Hp → VK → Prop
  | .len => fun xs H Q => (∃ p ys, xs = [.ref p] ∧ (SqL K H p ys ∨ SqT K H p ys) ∧ Q (.int ys.length) H) ∨ (∃ z, xs = [.str z] ∧ z.length ≤ sizeLine ∧ Q (.int z.length) H)
  | .abs => fun xs H Q => ∃ i, xs = [.int i] ∧ Q (.int (if i < 0 then -i else i)) H
  | .max => fun xs H Q => (∃ i j, xs = [.int i, .int j] ∧ Q (.int (if j > i then j else i)) H) ∨ rMax K xs H Q
  | .min => fun xs H Q => (∃ i j, xs = [.int i, .int j] ∧ Q (.int (if j < i then j else i)) H) ∨ rMin K xs H Q
  | .sum => rSum K
  | .all => rAll K
  | .any => rAny K
  | .sorted => fun xs H Q => rSorted K xs H Q ∨ rSortedD K xs H Q
  | .repr => fun xs H Q => (∃ b, xs = [.bl b] ∧ Q (.str (if b then "True" else "False")) H) ∨ (xs = [.non] ∧ Q (.str "None") H) ∨ (∃ i, xs = [.int i] ∧ i.natAbs.log2 < 1920 ∧ Q (.str (toString i)) H) ∨
      (∃ (a : Addr) (d : PyData), xs = [.ref a] ∧ Dp K H (.ref a) d ∧ d.showable = true ∧ d.hasDict = false ∧ d.depth ≤ 60 ∧ d.shown.length ≤ sizeLine ∧ Q (.str d.shown) H)
  | .tuple => fun xs H Q => ∃ p ys, xs = [.ref p] ∧ ((SqL K H p ys ∧ ∀ l, H l = none → Q (.ref l) (upd H l (.tup ys))) ∨ (SqT K H p ys ∧ Q (.ref p) H))
  | .list => fun xs H Q => ∃ p ys, xs = [.ref p] ∧ (SqL K H p ys ∨ SqT K H p ys) ∧ ∀ l, H l = none → Q (.ref l) (upd H l (.lst ys))
  | .int => fun xs H Q => (∃ i, xs = [.int i] ∧ Q (.int i) H) ∨ ∃ k, xs = [.bl k] ∧ Q (.int (if k then 1 else 0)) H
  | _ => fun _ _ _ => False
theorem cr_fn (hc : X.calm = true) (hg : Gd0 X.A) (hu : X.A.units + 100 < cLine) : ∀ {b : Bf} {n : String}, isFn b = some n → CallR X (.builtin n) (rBlt X.K b)
  | .len, _, e => by cases e; exact call_len_seq.or call_len_str
  | .abs, _, e => by cases e; exact call_abs
  | .max, _, e => by cases e; exact (call_max2 hc).or (cr_max hc)
  | .min, _, e => by cases e; exact (call_min2 hc).or (cr_min hc)
  | .sum, _, e => by cases e; exact cr_sum hc
  | .all, _, e => by cases e; exact cr_all hc
  | .any, _, e => by cases e; exact cr_any hc
  | .sorted, _, e => by cases e; exact cr_sorted.or (cr_sortedD hu)
  | .repr, _, e => by cases e; exact call_repr_bl.or (call_repr_non.or (SkE.call_repr_int.or (call_repr_D hg hu)))
theorem cr_ty : ∀ {b : Bf} {n : String}, isTy b = some n → CallR X (.type n) (rBlt X.K b)
  | .tuple, _, e => by cases e; exact call_tuple_of
  | .list, _, e => by cases e; exact call_list_of
  | .int, _, e => by cases e; exact call_int1
theorem boot_fn : ∀ {b : Bf} {n : String}, isFn b = some n → bootBuiltins (Str.ofString n) = some (.builtin n)
  | .len, _, e => by cases e; decide +kernel
  | .abs, _, e => by cases e; decide +kernel
  | .max, _, e => by cases e; decide +kernel
  | .min, _, e => by cases e; decide +kernel
  | .sum, _, e => by cases e; decide +kernel
  | .all, _, e => by cases e; decide +kernel
  | .any, _, e => by cases e; decide +kernel
  | .sorted, _, e => by cases e; decide +kernel
  | .repr, _, e => by cases e; decide +kernel
theorem boot_ty : ∀ {b : Bf} {n : String}, isTy b = some n → bootBuiltins (Str.ofString n) = some (.type n)
  | .tuple, _, e => by cases e; decide +kernel
  | .list, _, e => by cases e; decide +kernel
  | .int, _, e => by cases e; decide +kernel
theorem shown_bool (b : Bool) : PyData.shown (.bool b) = (if b then "True" else "False" : Str) := by cases b <;> rfl
theorem dqa_zip {K : PySem.W.Frag} {G : Hp} : ∀ {ds : List PyData} {xs : List V} {z : V × PyData}, DqAll K G xs ds → z ∈ xs.zip ds → Dq K G z.1 z.2
  | [], _, z, h, m => by cases h; cases m
  | d :: ds, _, z, h, m => by
    cases h with
    | cons h1 h2 =>
      rw [List.zip_cons_cons, List.mem_cons] at m
      rcases m with rfl | m
      · exact h1
      · exact dqa_zip h2 m
theorem dqa_of {K : PySem.W.Frag} {G : Hp} : ∀ {zs : List (V × PyData)}, (∀ z ∈ zs, Dq K G z.1 z.2) → DqAll K G (zs.map fun z => z.1) (zs.map fun z => z.2)
  | [], _ => .nil
  | z :: zs, h => .cons (h z (by simp)) (dqa_of fun y hy => h y (by simp [hy]))
theorem blti : ∀ (b : Bf), CallI K (wBlt b) (rBlt K b) := fun b B P G H c zs vs Q R w hz hF k => by
  obtain ⟨ds, hf, e⟩ := dvs_of (B := B) hz hF
  clear hF
  unfold wBlt at hf
  split at hf
  · obtain ⟨z, v, rfl, rfl, r, ex⟩ := zrs1 hz e
    obtain ⟨a, us, rfl, ha, da⟩ := r.lst w ex
    refine .inl ⟨a, us, rfl, .inl ha, ?_⟩
    rw [da.length]
    exact k _ P G H _ .refl w (.int _) hf
  · obtain ⟨z, v, rfl, rfl, r, ex⟩ := zrs1 hz e
    obtain ⟨a, us, rfl, ha, ga, da⟩ := r.tup w ex
    refine .inl ⟨a, us, rfl, .inr ha, ?_⟩
    rw [da.length]
    exact k _ P G H _ .refl w (.int _) hf
  · obtain ⟨z, v, rfl, rfl, r, ex⟩ := zrs1 hz e
    rw [zr_str w r ex]
    exact .inr ⟨_, rfl, hf.1, k _ P G H _ .refl w (.int _) hf.2⟩
  · obtain ⟨z, v, rfl, rfl, r, ex⟩ := zrs1 hz e
    rename_i i
    rw [zr_int w r ex]
    refine ⟨i, rfl, ?_⟩
    rw [show (if i < 0 then -i else i) = ((i.natAbs : Nat) : Int) by split <;> omega]
    exact k _ P G H _ .refl w (.int _) hf
  · obtain ⟨z, z', v, v', rfl, rfl, r, r', ex, ex'⟩ := zrs2 hz e
    rename_i i j
    rw [zr_int w r ex, zr_int w r' ex']
    refine .inl ⟨i, j, rfl, ?_⟩
    rw [show (if j > i then j else i) = max i j by split <;> omega]
    exact k _ P G H _ .refl w (.int _) hf
  · obtain ⟨z, z', v, v', rfl, rfl, r, r', ex, ex'⟩ := zrs2 hz e
    rename_i i j
    rw [zr_int w r ex, zr_int w r' ex']
    refine .inl ⟨i, j, rfl, ?_⟩
    rw [show (if j < i then j else i) = min i j by split <;> omega]
    exact k _ P G H _ .refl w (.int _) hf
  · obtain ⟨z, v, rfl, rfl, r, ex⟩ := zrs1 hz e
    obtain ⟨ns, en, hne, q⟩ := hf
    obtain ⟨a, us, rfl, ha, da⟩ := r.lst w ex
    rw [ints?_eq en] at da
    refine .inr ⟨a, ns, rfl, (by rw [← da.ints]; exact ha), by cases ns with | nil => exact absurd rfl hne | cons _ _ => simp, fun m hm hle => ?_⟩
    obtain ⟨h1, h2⟩ := maxD_spec hne
    rw [Int.le_antisymm (h2 m hm) (hle _ h1)]
    exact k _ P G H _ .refl w (.int _) q
  · obtain ⟨z, v, rfl, rfl, r, ex⟩ := zrs1 hz e
    obtain ⟨ns, en, hne, q⟩ := hf
    obtain ⟨a, us, rfl, ha, da⟩ := r.lst w ex
    rw [ints?_eq en] at da
    refine .inr ⟨a, ns, rfl, (by rw [← da.ints]; exact ha), by cases ns with | nil => exact absurd rfl hne | cons _ _ => simp, fun m hm hle => ?_⟩
    obtain ⟨h1, h2⟩ := minD_spec hne
    rw [Int.le_antisymm (hle _ h1) (h2 m hm)]
    exact k _ P G H _ .refl w (.int _) q
  · obtain ⟨z, v, rfl, rfl, r, ex⟩ := zrs1 hz e
    obtain ⟨ns, en, q⟩ := hf
    obtain ⟨a, us, rfl, ha, da⟩ := r.lst w ex
    rw [ints?_eq en] at da
    exact ⟨a, ns, rfl, (by rw [← da.ints]; exact ha), k _ P G H _ .refl w (.int _) q⟩
  · obtain ⟨z, v, rfl, rfl, r, ex⟩ := zrs1 hz e
    obtain ⟨ns, en, q⟩ := hf
    obtain ⟨a, us, rfl, ha, da⟩ := r.lst w ex
    rw [bools?_eq en] at da
    exact ⟨a, ns, rfl, (by rw [← da.bools]; exact ha), k _ P G H _ .refl w (.bl _) q⟩
  · obtain ⟨z, v, rfl, rfl, r, ex⟩ := zrs1 hz e
    obtain ⟨ns, en, q⟩ := hf
    obtain ⟨a, us, rfl, ha, da⟩ := r.lst w ex
    rw [bools?_eq en] at da
    exact ⟨a, ns, rfl, (by rw [← da.bools]; exact ha), k _ P G H _ .refl w (.bl _) q⟩
  · obtain ⟨z, v, rfl, rfl, r, ex⟩ := zrs1 hz e
    obtain ⟨a, us, rfl, ha, da⟩ := r.lst w ex
    refine ⟨a, us, rfl, .inl ⟨ha, fun p hp => ?_⟩⟩
    have s2 := Stp.new (o := .tup us) w hp
    exact k _ P _ _ _ s2 (w.new hp (w.lsz (K := K) ha)) (.tup (SqT.of upd_same) (dpa_mono s2.gg _ _ da)) hf
  · obtain ⟨z, v, rfl, rfl, r, ex⟩ := zrs1 hz e
    obtain ⟨a, us, rfl, ha, ga, da⟩ := r.tup w ex
    exact ⟨a, us, rfl, .inr ⟨ha, k _ P G H _ .refl w (.tup ga da) hf⟩⟩
  · obtain ⟨z, v, rfl, rfl, r, ex⟩ := zrs1 hz e
    obtain ⟨a, us, rfl, ha, da⟩ := r.lst w ex
    refine ⟨a, us, rfl, .inl ha, fun p hp => ?_⟩
    have s2 := Stp.new (o := .lst us) w hp
    exact k _ P _ _ _ s2 (w.new hp (w.lsz (K := K) ha)) (.lst upd_same (dpa_mono s2.gg _ _ da)) hf
  · obtain ⟨z, v, rfl, rfl, r, ex⟩ := zrs1 hz e
    obtain ⟨a, us, rfl, ha, ga, da⟩ := r.tup w ex
    refine ⟨a, us, rfl, .inr ha, fun p hp => ?_⟩
    have s2 := Stp.new (o := .lst us) w hp
    exact k _ P _ _ _ s2 (w.new hp (w.tsz (K := K) ha)) (.lst upd_same (dpa_mono s2.gg _ _ da)) hf
  · obtain ⟨z, v, rfl, rfl, r, ex⟩ := zrs1 hz e
    rw [zr_int w r ex]
    exact .inl ⟨_, rfl, k _ P G H _ .refl w (.int _) hf⟩
  · obtain ⟨z, v, rfl, rfl, r, ex⟩ := zrs1 hz e
    rw [dq_bool (r.look w ex fun _ e => by cases e)]
    exact .inr ⟨_, rfl, k _ P G H _ .refl w (.int _) hf⟩
  · obtain ⟨z, v, rfl, rfl, r, ex⟩ := zrs1 hz e
    obtain ⟨h1, h2, h3, h4, h5, q⟩ := hf
    rename_i d
    have lk := r.look w ex
    cases d with
    | none => rw [dq_none (lk fun _ e => by cases e)]; exact .inr (.inl ⟨rfl, k _ P G H _ .refl w (.str _) q⟩)
    | bool b => rw [dq_bool (lk fun _ e => by cases e)]; refine .inl ⟨b, rfl, ?_⟩; rw [← shown_bool]; exact k _ P G H _ .refl w (.str _) q
    | int i => rw [zr_int w r ex]; exact .inr (.inr (.inl ⟨i, rfl, by simpa [PyData.showable] using h2, k _ P G H _ .refl w (.str _) q⟩))
    | str z => exact (show False from by simp [reprOk] at h1).elim
    | list xs =>
      obtain ⟨a, us, rfl, _⟩ := r.lst w ex
      exact .inr (.inr (.inr ⟨a, _, rfl, r.dp w ex h1, h2, h3, h4, h5, k _ P G H _ .refl w (.str _) q⟩))
    | tuple xs =>
      obtain ⟨a, us, rfl, _⟩ := r.tup w ex
      exact .inr (.inr (.inr ⟨a, _, rfl, r.dp w ex h1, h2, h3, h4, h5, k _ P G H _ .refl w (.str _) q⟩))
    | dict _ => simp [reprOk, PyData.canLay0] at h1
  · obtain ⟨z, v, rfl, rfl, r, ex⟩ := zrs1 hz e
    rcases hf with ⟨ns, en, hl, q⟩ | ⟨⟨lay, al, so, dp⟩, q⟩
    · obtain ⟨a, us, rfl, ha, da⟩ := r.lst w ex
      rw [ints?_eq en] at da
      refine .inl ⟨a, ns, rfl, (by rw [← da.ints]; exact ha), hl, fun ns' p hpm hso hp => ?_⟩
      rw [sorted_one (hpm.trans (sortI_perm ns).symm) hso (sortI_sorted ns)]
      have s2 := Stp.new (o := .lst ((sortI ns).map V.int)) w hp
      refine k _ P _ _ _ s2 (w.new hp ?_) (.lst upd_same (DqAll.of_ints _)) q
      show ((sortI ns).map V.int).length ≤ _
      rw [List.length_map, (sortI_perm ns).length_eq]
      exact small64 hl
    · obtain ⟨a, us, rfl, ha, da⟩ := r.lst w ex
      have dh : DpAll K H us _ := DqAll.dp _ _ lay (dpa_mono w.gh _ _ da)
      refine .inr ⟨a, us, _, rfl, ha, dh, al, so, dp, fun zs p hpm hso hp => ?_⟩
      have s2 := Stp.new (o := .lst (zs.map fun z => z.1)) w hp
      have dz : ∀ z ∈ zs, Dq K G z.1 z.2 := fun z hz => dqa_zip da (hpm.mem_iff.mp hz)
      refine k _ P _ _ _ s2 (w.new hp ?_) (.lst (xs := zs.map fun z => z.1) (ds := zs.map fun z => z.2) upd_same (dqa_of fun z hz => dp_mono s2.gg _ _ (dz z hz))) (q _ ?_ ?_)
      · show (zs.map fun z => z.1).length ≤ _
        rw [List.length_map, hpm.length_eq]
        exact Nat.le_trans (by rw [List.length_zip]; exact Nat.min_le_left _ _) (w.lsz ha)
      · have := hpm.map (fun z : V × PyData => z.2)
        rw [zip_snd dh] at this
        exact this
      · rw [List.pairwise_map]
        exact hso
  · exact hf.elim
end
end Z
/-! ZK -/
set_option maxRecDepth 100000
/-! zip of a list and a tuple -/
namespace Z
open PySem PySem.Spec PyProof.Rows L2
def ItM (K : PySem.W.Frag) (a b : Addr) : It where
  go := fun i H => ∃ (xs ys : List V) (x y : V), SqL K H a xs ∧ SqT K H b ys ∧ xs[i]? = some x ∧ ys[i]? = some y
  yld := fun i H v H' => ∃ T x y, v = .ref T ∧ H T = none ∧ H' = upd H T (.tup [x, y]) ∧ (∀ xs, SqL K H a xs → xs[i]? = some x) ∧ ∀ ys, SqT K H b ys → ys[i]? = some y
  stop := fun i H => ∃ xs ys : List V, SqL K H a xs ∧ SqT K H b ys ∧ i = min xs.length ys.length
/-- the zip's own objects -/
def tnM (z TI TO i1 i2 a b : Addr) (i : Nat) (h : Heap) : Prop :=
  IsZip h z TI TO .none ∧ IsTupOf2 h TI (.ref i1) (.ref i2) ∧ (∃ u v, IsTupOf2 h TO u v) ∧ h.IsListIter i1 a i ∧ h.IsTupleIter i2 b i
theorem five {α : Type} {c z t o i j : α} (h : c ∈ [z, t, o, i, j]) : c = z ∨ c = t ∨ c = o ∨ c = i ∨ c = j := by simpa using h
theorem list_inj {X : Cx} {pins : List (Addr × Obj)} {σ : L2.St} {H : Hp} {s : Shared} {a : Addr} {xs ys : List V} (I : Inv X pins σ H s) (h : SqL X.K H a xs) (h' : SqL X.K H a ys) : xs = ys := I.list_inj h h'
theorem turnM {P : Program} {w : World} {K : PySem.W.Frag} {elts : List Expr} {kk : Nat} {tpos : Pos} {a b z TI TO i1 i2 : Addr} (S : ZipSep2 z TI TO i1 i2 [i1, a] [i2, b]) (ha : a ≠ i1) (hb : b ≠ i2) :
    Turn P w K (.Tuple elts kk tpos) (ItM K a b) [z, TI, TO, i1, i2] z (tnM z TI TO i1 i2 a b) where
  mem := by simp
  obj := fun i h ⟨hz, hI, ⟨u, v, hO⟩, ⟨p, ep, _, dp⟩, ⟨q, eq, _, dq⟩⟩ c hc => by
    rcases five hc with e | e | e | e | e <;> subst e
    · exact ⟨_, hz, fun v x => nomatch x⟩
    · exact ⟨_, hI, fun v x => nomatch x⟩
    · exact ⟨_, hO, fun v x => nomatch x⟩
    · exact ⟨p, ep, fun v x => by rw [dp] at x; cases x⟩
    · exact ⟨q, eq, fun v x => by rw [dq] at x; cases x⟩
  keep := fun i h h' ⟨hz, hI, ⟨u, v, hO⟩, h1, h2⟩ k => ⟨k z (by simp) _ hz, k TI (by simp) _ hI, ⟨u, v, k TO (by simp) _ hO⟩, h1.at fun o q => k i1 (by simp) o q, h2.at fun o q => k i2 (by simp) o q⟩
  item := by
    intro X hP hw hK hc i pins s σ H E I hf ⟨hz, hI, ⟨u0, v0, hO⟩, h1, h2⟩ ⟨xs, ys, x, y, qx, qy, gx, gy⟩
    subst hP hw hK
    obtain ⟨its, rv, pl, _⟩ := I.list qx
    obtain ⟨its2, rv2, pt, _⟩ := I.tuple qy
    obtain ⟨u, hu, ru⟩ := rv.get gx
    obtain ⟨u2, hu2, ru2⟩ := rv2.get gy
    have zl : z < s.heap.objs.size := Heap.lt_size hz
    have l1 : i < its.toArray.size := by rw [List.size_toArray]; exact (List.getElem?_eq_some_iff.mp hu).1
    have l2 : i < its2.toArray.size := by rw [List.size_toArray]; exact (List.getElem?_eq_some_iff.mp hu2).1
    refine wpAny_pyNext_zipD2_item S (Draws.list (A := X.A.in1) (show X.A.in1.handled = none from I.ok.hd hc) i1 a ha its.toArray) (Draws.tuple (A := X.A.in1) (show X.A.in1.handled = none from I.ok.hd hc) i2 b hb its2.toArray) hz hI hO ⟨h1, pl.isList⟩ ⟨h2, pt⟩ l1 l2 fun x1 x2 h' tk e1 e2 z' O' st1 st2 hT hs k' => ?_
    have e1 : its.toArray[i]? = some x1 := e1
    have e2 : its2.toArray[i]? = some x2 := e2
    rw [show its.toArray[i]? = some u by simpa using hu] at e1
    rw [show its2.toArray[i]? = some u2 by simpa using hu2] at e2
    cases e1
    cases e2
    refine ⟨_, rfl, wpAny_letOwnedTupleGo_zip (s := { s with heap := h', toks := tk }) z' fun h2' z2 sb => ?_⟩
    have hT2 : h2'.get? s.heap.objs.size = some { cls := .type "tuple", data := .seq #[u, u2] } := (sb.2 _ (Nat.ne_of_gt zl)).trans hT
    have ok : ObjOk X.prog X.w (upd H s.heap.objs.size (.tup [x, y])) h2' s.heap.objs.size (.tup [x, y]) := ⟨by show 2 ≤ sizeLine; decide, [u, u2], .cons ru (.cons ru2 .nil), ⟨_, hT2, rfl, _, rfl⟩⟩
    have off : ∀ c, c ∉ [z, TI, TO, i1, i2] → c ≠ z ∧ c ≠ TO ∧ c ≠ i1 ∧ c ≠ i2 := fun c n => ⟨fun e => n (by simp [e]), fun e => n (by simp [e]), fun e => n (by simp [e]), fun e => n (by simp [e])⟩
    have J : Inv X pins σ (upd H s.heap.objs.size (.tup [x, y])) { s with heap := h2', toks := tk } :=
      I.turnedNew (t' := tk) (ch := [z, TI, TO, i1, i2]) (fun c o n e => (sb.2 c (off c n).1).trans (k' c o (off c n).1 (off c n).2.1 (off c n).2.2.1 (off c n).2.2.2 e)) hf (Nat.le_refl _) ok
    refine ⟨.ref s.heap.objs.size, _, J, rfl, ⟨_, x, y, rfl, I.hok.fresh (Nat.le_refl _), rfl, fun l hl => by rw [list_inj I hl qx]; exact gx, fun l hl => by rw [I.tuple_inj hl qy]; exact gy⟩, ⟨z2, ?_, ⟨u, u2, ?_⟩, ?_, ?_⟩, fun c hcm => ?_⟩
    · exact (sb.2 _ S.TIz).trans (k' _ _ S.TIz S.TITO S.TIi1 S.TIi2 hI)
    · exact (sb.2 _ S.TOz).trans O'
    · exact st1.1.at fun o q => (sb.2 _ (fun e => S.zi1 e.symm)).trans q
    · exact st2.1.at fun o q => (sb.2 _ (fun e => S.zi2 e.symm)).trans q
    · have lt : c < s.heap.objs.size := by
        rcases five hcm with e | e | e | e | e <;> subst e
        · exact zl
        · exact Heap.lt_size hI
        · exact Heap.lt_size hO
        · obtain ⟨_, q, _⟩ := h1; exact Heap.lt_size q
        · obtain ⟨_, q, _⟩ := h2; exact Heap.lt_size q
      rw [upd_ne (Nat.ne_of_lt lt)]
      exact (hf c hcm).1
  done := by
    intro X hP hw hK hc i pins s σ H E I hf ⟨hz, hI, ⟨u0, v0, hO⟩, h1, h2⟩ ⟨xs, ys, qx, qy, hend⟩
    subst hP hw hK
    obtain ⟨its, rv, pl, _⟩ := I.list qx
    obtain ⟨its2, rv2, pt, _⟩ := I.tuple qy
    have l1 := rv.length
    have l2 := rv2.length
    refine wpAny_pyNext_zipD2_end (i := i) S (Draws.list (A := X.A.in1) (show X.A.in1.handled = none from I.ok.hd hc) i1 a ha its.toArray) (Draws.tuple (A := X.A.in1) (show X.A.in1.handled = none from I.ok.hd hc) i2 b hb its2.toArray) hz hI hO ⟨h1, pl.isList⟩ ⟨h2, pt⟩
      (by rw [List.size_toArray]; omega) (by rw [List.size_toArray]; omega) (by rw [List.size_toArray, List.size_toArray]; omega) fun h' tk hk => ⟨rfl, ?_⟩
    exact I.turnedL (t' := tk) (ch := [z, TI, TO, i1, i2]) (fun c o n e => hk c o (fun e => n (by simp [e])) (fun e => n (by simp [e])) (fun e => n (by simp [e])) (fun e => n (by simp [e])) e) hf
  self := fun A i s Q E st h => wpAny_pyIter_zip st.1 h
/-- what zip(xs, ys) hands to a walk -/
def iZipM (K : PySem.W.Frag) (ta : TA) : TI := fun σ H R => ta σ H fun vs H1 => ∃ a b xs ys, vs = [.ref a, .ref b] ∧ ((SqL K H1 a xs ∧ SqL K H1 b ys ∧ R (Itz K a b) H1) ∨ (SqT K H1 a xs ∧ SqT K H1 b ys ∧ R (RZ.ItzT K a b) H1) ∨ (SqL K H1 a xs ∧ SqT K H1 b ys ∧ R (ItM K a b) H1))
theorem pi_zipM {X : Cx} {e e2 : Expr} {ta : TA} {p pos tpos : Pos} {elts : List Expr} {kk : Nat} (hg : Gl X "zip") (hm : X.mg "zip" = none) (ha : PA X [e, e2] ta)
    (hs : starEach [e, e2] X.env = (false, eval e X.env) :: starEach [e2] X.env) (hpl : (backTo pos (starEach [e2] X.env)).any (·.1) = false) : PI X (.Tuple elts kk tpos) (.Call (.Name "zip" p) [e, e2] [] pos) (iZipM X.K ta) := by
  refine ⟨fun pins s σ H R I h => ?_⟩
  refine Call_ (ld_blt I hg hm PyProof.Rows.boot_zip (PyProof.Rows.callWith_type1 (thn (ha.run pos pins s σ H _ I h) fun us s1 ⟨vs, H1, I1, r1, a, b, xs, ys, ex, q⟩ => ?_) hs hpl))
  subst ex
  obtain ⟨w1, w2, rfl, ra, rb⟩ : ∃ w1 w2, us = [w1, w2] ∧ RelV (.ref a) w1 ∧ RelV (.ref b) w2 := by
    cases r1 with
    | cons p1 p2 =>
      cases p2 with
      | cons p3 p4 =>
        cases p4
        exact ⟨_, _, rfl, p1, p3⟩
  obtain rfl : w1 = Value.ref a := ra
  obtain rfl : w2 = Value.ref b := rb
  have fresh : ∀ c, c ∈ [s1.heap.objs.size + 4, s1.heap.objs.size + 2, s1.heap.objs.size + 3, s1.heap.objs.size, s1.heap.objs.size + 1] → FpOk X pins H1 c := fun c hc => by
    have le : s1.heap.objs.size ≤ c := by
      rcases five hc with e | e | e | e | e <;> rw [e]
      · exact Nat.le_add_right _ _
      · exact Nat.le_add_right _ _
      · exact Nat.le_add_right _ _
      · exact Nat.le_refl _
      · exact Nat.le_add_right _ _
    exact I1.fpOk le (I1.hok.fresh le)
  rcases q with ⟨qx, qy, q⟩ | ⟨qx, qy, q⟩ | ⟨qx, qy, q⟩
  · obtain ⟨its, _, p1, _⟩ := I1.list qx
    obtain ⟨its2, _, p2, _⟩ := I1.list qy
    refine call_zip_2 p1.isList p2.isList fun h' hz hI hO h1 h2 hs hk => wpAny_pyIter_zip hz ⟨_, _, _, _, H1, rfl, I1.kept (t' := s1.toks) hk, turn_zip (PySem.W.ktu_apart s1.heap.objs.size a b p1.lt p2.lt), ⟨hz, hI, ⟨_, _, hO⟩, h1, h2⟩, fresh, q⟩
  · obtain ⟨its, _, p1, _⟩ := I1.tuple qx
    obtain ⟨its2, _, p2, _⟩ := I1.tuple qy
    obtain ⟨o1, ho1, _⟩ := id p1
    obtain ⟨o2, ho2, _⟩ := id p2
    refine RZ.call_zipT (show s1.heap.IsTuple a its.toArray from p1) (show s1.heap.IsTuple b its2.toArray from p2) fun h' hz hI hO h1 h2 hs hk => wpAny_pyIter_zip hz ⟨_, _, _, _, H1, rfl, I1.kept (t' := s1.toks) hk, RZ.turn_zipT (PySem.W.ktu_apart s1.heap.objs.size a b (Heap.lt_size ho1) (Heap.lt_size ho2)), ⟨hz, hI, ⟨_, _, hO⟩, h1, h2⟩, fresh, q⟩
  · obtain ⟨its, _, p1, _⟩ := I1.list qx
    obtain ⟨its2, _, p2, _⟩ := I1.tuple qy
    obtain ⟨o2, ho2, _⟩ := id p2
    have la : a < s1.heap.objs.size := p1.lt
    have lb : b < s1.heap.objs.size := Heap.lt_size ho2
    refine zip_begins2 (begins_list a its.toArray) (begins_tuple b its2.toArray) p1.isList p2 fun h' hz hI hO h1 h2 hs hk => wpAny_pyIter_zip hz ⟨_, _, _, _, H1, rfl, I1.kept (t' := s1.toks) hk, turnM (zip_sep2 (N := s1.heap.objs.size) (fp1 := [a]) (fp2 := [b]) (fun c hc => by simp at hc; subst hc; exact la) (fun c hc => by simp at hc; subst hc; exact lb)) (Nat.ne_of_lt la) (Nat.ne_of_lt (Nat.lt_succ_of_lt lb)), ⟨hz, hI, ⟨_, _, hO⟩, ⟨_, h1, rfl, rfl⟩, ⟨_, h2, rfl, rfl⟩⟩, fresh, q⟩
end Z
/-! Z8 -/
set_option maxRecDepth 100000
/-! isinstance, list.index, what is walked, comprehensions -/
namespace Z
open PySem PySem.Spec PyProof.Rows L2
section
variable {X : Cx} {K : PySem.W.Frag}
def tyN : PyData → String
  | .none => "NoneType" | .bool _ => "bool" | .int _ => "int" | .str _ => "str" | .list _ => "list" | .tuple _ => "tuple" | .dict _ => "dict"
def isTn (T : String) : Bool := T == "int" || T == "bool" || T == "str" || T == "tuple" || T == "list"
theorem tyx_of {H : Hp} {v : V} {d : PyData} (h : Dq K H v d) : TyX K H v (.type (tyN d)) := by
  cases h with
  | non => exact .base .non
  | bl b => exact .base (.bl b)
  | int b => exact .base (.int b)
  | str b => exact .base (.str b)
  | lst hs _ => exact .base (.lst hs)
  | tup hs _ =>
    rcases hs with (h | ⟨o, h⟩) | ⟨o, its, n, h, hc, _⟩
    · exact .base (.tup h)
    · exact .fTuple h
    · exact .kTuple h hc
  | dic hs _ => exact .base (.dK hs)
theorem tyx_zr {P : Addr → Prop} {G H H0 : Hp} {c : Nat} {z : Zv} {v : V} {x : PyData} (w : Wd P G H c) (r : ZR K P G H H0 z v) (e : dv? z = some x) : TyX K H v (.type (tyN x)) := by
  by_cases q : ∃ xs, x = .list xs
  · obtain ⟨xs, rfl⟩ := q
    obtain ⟨a, vs, rfl, hs, ha⟩ := r.lst w e
    rcases hs with (h | ⟨o, h⟩) | ⟨o, its, n, h, hc, _⟩
    · exact .base (.lst h)
    · exact .base (.frz h)
    · exact .kList h hc
  · exact tyx_of (r.look w e fun xs e2 => q ⟨xs, e2⟩)
theorem kitB_of {T : String} (h : isTn T = true) : ∀ d : PyData, kitB (tyN d) T = some (isiD d T) := by
  unfold isTn at h
  simp only [Bool.or_eq_true, beq_iff_eq] at h
  rcases h with ((((rfl | rfl) | rfl) | rfl) | rfl) <;> intro d <;> cases d <;> (simp only [tyN, isiD]; decide +kernel)
theorem imp_isi {wa : WE} {ta : TE} {T : String} (hT : isTn T = true) (ha : Imp K wa ta) : Imp K (fun Γ c Q => wa Γ c fun x c1 => dv x fun dx => Q (.d (.bool (isiD dx T))) c1) (tCB (rIsi K) (tCons ta (tCons (tC (.ty T)) tNil))) := fun B σ P G H Γ c Q R a w k => by
  refine ha B σ P G H Γ c _ _ a w fun x P1 G1 H1 c1 zx s1 w1 r1 q1 => ?_
  obtain ⟨dx, ex, q⟩ := dv_of q1
  exact ⟨x, .ty T, _, _, _, rfl, .ty T, tyx_zr w1 r1 ex, kit_ty (kitB_of hT dx), k _ P1 G1 H1 c1 (.d _) s1 w1 (show Dq K _ _ _ from .bl _) q⟩
/-- list.index -/
theorem imp_index {wa : WE} {ta : TE} {w : WA} {t : TA} (ha : Imp K wa ta) (hw : ImpA K w t) :
    Imp K (fun Γ c Q => wa Γ c fun x c1 => dv x fun dx => mRc .index dx ∧ w Γ c1 fun zs c2 => dvs zs fun ds => wMth .index dx ds fun r => Q (.d r) c2) (tBM K "list" (rIndexD K) ta t) := fun B σ P G H Γ c Q R a w' k => by
  refine ha B σ P G H Γ c _ _ a w' fun x P1 G1 H1 c1 zx s1 w1 r1 q1 => ?_
  obtain ⟨dx, ex, hm, q1⟩ := dv_of q1
  cases dx with
  | list us =>
    obtain ⟨p, vs, rfl, hv, da⟩ := r1.lst w1 ex
    refine ⟨.inl ⟨rfl, vs, hv⟩, ?_⟩
    refine hw B σ P1 G1 H1 Γ c1 _ _ (a.step s1 w1) q1 fun ys P2 G2 H2 c2 zs s2 w2 r2 q2 => ?_
    obtain ⟨ds, q, e⟩ := dvs_of (B := B) r2 q2
    unfold wMth at q
    split at q
    · rename_i eu em
      cases em
      obtain ⟨z, y, rfl, rfl, ry, ey⟩ := zrs1 r2 e
      obtain ⟨h1, h2, j, zz, hj, he, hno, q⟩ := q
      exact ⟨p, y, _, _, j, zz, rfl, rfl, (r1.mono s2).dp w2 ex (shp h1), ry.dp w2 ey (shp h2), h1, h2, hj, he, hno, k _ P2 G2 H2 c2 (.d _) (s1.trans s2) w2 (show Dq K _ _ _ from .int _) q⟩
    all_goals first | contradiction | exact (show False from q).elim
  | _ => exact hm.elim
end
/-! ### what is walked -/
/-- an iterator yields such data, one behind the other -/
structure Wk (K : PySem.W.Frag) (J : It) (G0 : Hp) (ds : List PyData) : Prop where
  sz : ds.length ≤ sizeLine
  go : ∀ i P G H c, (∀ a o, G0 a = some o → G a = some o) → Wd P G H c → i < ds.length → J.go i H
  stop : ∀ P G H c, (∀ a o, G0 a = some o → G a = some o) → Wd P G H c → J.stop ds.length H
  yld : ∀ i P G H c x H', (∀ a o, G0 a = some o → G a = some o) → Wd P G H c → i < ds.length → J.yld i H x H' → ∃ G' d, Stp P G H P G' H' ∧ Wd P G' H' c ∧ ds[i]? = some d ∧ Dq K G' x d
def ImpI (K : PySem.W.Frag) (w : WI) (t : TI) : Prop :=
  ∀ (B : Bs) (σ : L2.St) (P : Addr → Prop) (G H : Hp) (Γ : Ga) (c : Nat) (Q : List PyData → Nat → Prop) (R : It → Hp → Prop), As K B P G H c Γ σ → w Γ c Q →
    (∀ J P' G' H' c' ds, Stp P G H P' G' H' → Wd P' G' H' c' → Wk K J G' ds → Q ds c' → R J H') → t σ H R
section
variable {K : PySem.W.Frag} {G0 : Hp}
theorem wk_list {P : Addr → Prop} {H : Hp} {c : Nat} {a : Addr} {vs : List V} {ds : List PyData} (w : Wd P G0 H c) (h : Rd G0 a (.lst vs)) (d : DqAll K G0 vs ds) : Wk K (Itl K a) G0 ds where
  sz := by rw [← d.length]; exact w.lsz (K := K) (.inl (rd_mono w.gh h))
  go := fun i P G H c e w hi => by
    have hs : SqL K H a vs := .inl (rd_mono w.gh (rd_mono e h))
    have hi' : i < vs.length := by rw [d.length]; exact hi
    exact ⟨vs, vs[i], hs, List.getElem?_eq_getElem hi'⟩
  stop := fun P G H c e w => ⟨vs, .inl (rd_mono w.gh (rd_mono e h)), by rw [d.length]; exact Nat.le_refl _⟩
  yld := fun i P G H c x H' e w hi y => by
    obtain ⟨rfl, y⟩ := y
    have hx := y vs (.inl (rd_mono w.gh (rd_mono e h)))
    obtain ⟨dd, e2, hd⟩ := d.get hx
    exact ⟨G, dd, .refl, w, e2, dp_mono e _ _ hd⟩
theorem wk_tup {P : Addr → Prop} {H : Hp} {c : Nat} {a : Addr} {vs : List V} {ds : List PyData} (w : Wd P G0 H c) (h : SqT K G0 a vs) (d : DqAll K G0 vs ds) : Wk K (Itt K a) G0 ds where
  sz := by rw [← d.length]; exact w.tsz (K := K) (sqt_mono w.gh h)
  go := fun i P G H c e w hi => by
    have hs : SqT K H a vs := sqt_mono w.gh (sqt_mono e h)
    have hi' : i < vs.length := by rw [d.length]; exact hi
    exact ⟨vs, vs[i], hs, List.getElem?_eq_getElem hi'⟩
  stop := fun P G H c e w => ⟨vs, sqt_mono w.gh (sqt_mono e h), by rw [d.length]; exact Nat.le_refl _⟩
  yld := fun i P G H c x H' e w hi y => by
    obtain ⟨rfl, y⟩ := y
    have hx := y vs (sqt_mono w.gh (sqt_mono e h))
    obtain ⟨dd, e2, hd⟩ := d.get hx
    exact ⟨G, dd, .refl, w, e2, dp_mono e _ _ hd⟩
theorem rangeD_len (a b : Int) : (rangeD a b).length = (b - a).toNat := by simp [rangeD]
theorem wk_range (a b : Int) (hz : b - a ≤ 16777216) : Wk K (Itr a (b - a).toNat) G0 (rangeD a b) where
  sz := by rw [rangeD_len, sizeLine_eq]; omega
  go := fun i P G H c e w hi => by rw [rangeD_len] at hi; exact hi
  stop := fun P G H c e w => by rw [rangeD_len]; exact Nat.le_refl _
  yld := fun i P G H c x H' e w hi y => by
    obtain ⟨rfl, rfl⟩ := y
    rw [rangeD_len] at hi
    refine ⟨G, .int (a + i), .refl, w, ?_, .int _⟩
    unfold rangeD
    rw [List.getElem?_map, List.getElem?_range hi]
    rfl
theorem zipD_get : ∀ {xs ys : List PyData} {i : Nat} {x y : PyData}, xs[i]? = some x → ys[i]? = some y → (zipD xs ys)[i]? = some (.tuple [x, y])
  | [], _, _, _, _, h, _ => by simp at h
  | _ :: _, [], _, _, _, _, h => by simp at h
  | a :: xs, b :: ys, 0, x, y, h, h' => by
    simp at h h'; subst h; subst h'; rfl
  | a :: xs, b :: ys, i + 1, x, y, h, h' => by
    simp at h h'
    simp only [zipD, List.getElem?_cons_succ]
    exact zipD_get h h'
theorem zipD_len : ∀ (xs ys : List PyData), (zipD xs ys).length = min xs.length ys.length
  | [], _ => by simp [zipD]
  | _ :: _, [] => by simp [zipD]
  | a :: xs, b :: ys => by simp [zipD, zipD_len xs ys]
theorem enumD_get : ∀ {xs : List PyData} {n i : Nat} {x : PyData}, xs[i]? = some x → (enumD n xs)[i]? = some (.tuple [.int (n + i : Nat), x])
  | [], _, _, _, h => by simp at h
  | a :: xs, n, 0, x, h => by
    simp at h; subst h; rfl
  | a :: xs, n, i + 1, x, h => by
    simp at h
    simp only [enumD, List.getElem?_cons_succ]
    rw [enumD_get h]
    have e : n + 1 + i = n + (i + 1) := by omega
    rw [e]
theorem enumD_len : ∀ (n : Nat) (xs : List PyData), (enumD n xs).length = xs.length
  | _, [] => rfl
  | n, a :: xs => by simp [enumD, enumD_len (n + 1) xs]
/-- a new pair -/
theorem pair_new {P : Addr → Prop} {G H : Hp} {c : Nat} {T : Addr} {x y : V} {dx dy : PyData} (w : Wd P G H c) (hT : H T = none) (hx : Dq K G x dx) (hy : Dq K G y dy) :
    Stp P G H P (upd G T (.tup [x, y])) (upd H T (.tup [x, y])) ∧ Wd P (upd G T (.tup [x, y])) (upd H T (.tup [x, y])) c ∧ Dq K (upd G T (.tup [x, y])) (.ref T) (.tuple [dx, dy]) := by
  have s := Stp.new (o := .tup [x, y]) w hT
  exact ⟨s, w.new hT (by show 2 ≤ _; rw [sizeLine_eq]; omega), .tup (SqT.of upd_same) (.cons (dp_mono s.gg _ _ hx) (.cons (dp_mono s.gg _ _ hy) .nil))⟩
theorem wk_zipL {P : Addr → Prop} {H : Hp} {c : Nat} {a b : Addr} {vs us : List V} {ds es : List PyData} (w : Wd P G0 H c) (h : Rd G0 a (.lst vs)) (d : DqAll K G0 vs ds) (h' : Rd G0 b (.lst us)) (d' : DqAll K G0 us es) : Wk K (Itz K a b) G0 (zipD ds es) where
  sz := by rw [zipD_len, ← d.length]; exact Nat.le_trans (Nat.min_le_left _ _) (w.lsz (K := K) (.inl (rd_mono w.gh h)))
  go := fun i P G H c e w hi => by
    rw [zipD_len, ← d.length, ← d'.length] at hi
    exact ⟨vs, us, vs[i]'(by omega), us[i]'(by omega), .inl (rd_mono w.gh (rd_mono e h)), .inl (rd_mono w.gh (rd_mono e h')), List.getElem?_eq_getElem _, List.getElem?_eq_getElem _⟩
  stop := fun P G H c e w => ⟨vs, us, .inl (rd_mono w.gh (rd_mono e h)), .inl (rd_mono w.gh (rd_mono e h')), by rw [zipD_len, ← d.length, ← d'.length]; omega⟩
  yld := fun i P G H c x H' e w hi y => by
    obtain ⟨T, x1, x2, rfl, hT, rfl, y1, y2⟩ := y
    obtain ⟨d1, e1, q1⟩ := d.get (y1 vs (.inl (rd_mono w.gh (rd_mono e h))))
    obtain ⟨d2, e2, q2⟩ := d'.get (y2 us (.inl (rd_mono w.gh (rd_mono e h'))))
    obtain ⟨s, w', q⟩ := pair_new w hT (dp_mono e _ _ q1) (dp_mono e _ _ q2)
    exact ⟨_, _, s, w', zipD_get e1 e2, q⟩
theorem wk_zipT {P : Addr → Prop} {H : Hp} {c : Nat} {a b : Addr} {vs us : List V} {ds es : List PyData} (w : Wd P G0 H c) (h : SqT K G0 a vs) (d : DqAll K G0 vs ds) (h' : SqT K G0 b us) (d' : DqAll K G0 us es) : Wk K (RZ.ItzT K a b) G0 (zipD ds es) where
  sz := by rw [zipD_len, ← d.length]; exact Nat.le_trans (Nat.min_le_left _ _) (w.tsz (K := K) (sqt_mono w.gh h))
  go := fun i P G H c e w hi => by
    rw [zipD_len, ← d.length, ← d'.length] at hi
    exact ⟨vs, us, vs[i]'(by omega), us[i]'(by omega), sqt_mono w.gh (sqt_mono e h), sqt_mono w.gh (sqt_mono e h'), List.getElem?_eq_getElem _, List.getElem?_eq_getElem _⟩
  stop := fun P G H c e w => ⟨vs, us, sqt_mono w.gh (sqt_mono e h), sqt_mono w.gh (sqt_mono e h'), by rw [zipD_len, ← d.length, ← d'.length]; omega⟩
  yld := fun i P G H c x H' e w hi y => by
    obtain ⟨T, x1, x2, rfl, hT, rfl, y1, y2⟩ := y
    obtain ⟨d1, e1, q1⟩ := d.get (y1 vs (sqt_mono w.gh (sqt_mono e h)))
    obtain ⟨d2, e2, q2⟩ := d'.get (y2 us (sqt_mono w.gh (sqt_mono e h')))
    obtain ⟨s, w', q⟩ := pair_new w hT (dp_mono e _ _ q1) (dp_mono e _ _ q2)
    exact ⟨_, _, s, w', zipD_get e1 e2, q⟩
theorem wk_zipM {P : Addr → Prop} {H : Hp} {c : Nat} {a b : Addr} {vs us : List V} {ds es : List PyData} (w : Wd P G0 H c) (h : Rd G0 a (.lst vs)) (d : DqAll K G0 vs ds) (h' : SqT K G0 b us) (d' : DqAll K G0 us es) : Wk K (ItM K a b) G0 (zipD ds es) where
  sz := by rw [zipD_len, ← d.length]; exact Nat.le_trans (Nat.min_le_left _ _) (w.lsz (K := K) (.inl (rd_mono w.gh h)))
  go := fun i P G H c e w hi => by
    rw [zipD_len, ← d.length, ← d'.length] at hi
    exact ⟨vs, us, vs[i]'(by omega), us[i]'(by omega), .inl (rd_mono w.gh (rd_mono e h)), sqt_mono w.gh (sqt_mono e h'), List.getElem?_eq_getElem _, List.getElem?_eq_getElem _⟩
  stop := fun P G H c e w => ⟨vs, us, .inl (rd_mono w.gh (rd_mono e h)), sqt_mono w.gh (sqt_mono e h'), by rw [zipD_len, ← d.length, ← d'.length]⟩
  yld := fun i P G H c x H' e w hi y => by
    obtain ⟨T, x1, x2, rfl, hT, rfl, y1, y2⟩ := y
    obtain ⟨d1, e1, q1⟩ := d.get (y1 vs (.inl (rd_mono w.gh (rd_mono e h))))
    obtain ⟨d2, e2, q2⟩ := d'.get (y2 us (sqt_mono w.gh (sqt_mono e h')))
    obtain ⟨s, w', q⟩ := pair_new w hT (dp_mono e _ _ q1) (dp_mono e _ _ q2)
    exact ⟨_, _, s, w', zipD_get e1 e2, q⟩
theorem wk_enum {P : Addr → Prop} {H : Hp} {c : Nat} {a : Addr} {vs : List V} {ds : List PyData} (w : Wd P G0 H c) (h : Rd G0 a (.lst vs)) (d : DqAll K G0 vs ds) : Wk K (Ite K a) G0 (enumD 0 ds) where
  sz := by rw [enumD_len, ← d.length]; exact w.lsz (K := K) (.inl (rd_mono w.gh h))
  go := fun i P G H c e w hi => by
    rw [enumD_len, ← d.length] at hi
    exact ⟨vs, vs[i], .inl (rd_mono w.gh (rd_mono e h)), List.getElem?_eq_getElem _⟩
  stop := fun P G H c e w => ⟨vs, .inl (rd_mono w.gh (rd_mono e h)), by rw [enumD_len, ← d.length]; exact Nat.le_refl _⟩
  yld := fun i P G H c x H' e w hi y => by
    obtain ⟨T, x2, rfl, hT, rfl, y2⟩ := y
    obtain ⟨d2, e2, q2⟩ := d.get (y2 vs (.inl (rd_mono w.gh (rd_mono e h))))
    obtain ⟨s, w', q⟩ := pair_new w hT (.int ((i : Nat) : Int)) (dp_mono e _ _ q2)
    have e3 := enumD_get (n := 0) e2
    rw [Nat.zero_add] at e3
    exact ⟨_, _, s, w', e3, q⟩
/-- readings -/
theorem zr_list {P : Addr → Prop} {G H H0 : Hp} {z : Zv} {v : V} {xs : List PyData} (r : ZR K P G H H0 z v) (e : z = .d (.list xs)) : ∃ a vs, v = .ref a ∧ Rd G a (.lst vs) ∧ DqAll K G vs xs := by
  subst e
  cases (show Dq K G v (.list xs) from r) with
  | lst hs ha => exact ⟨_, _, rfl, .inl hs, ha⟩
theorem zr_tuple {P : Addr → Prop} {G H H0 : Hp} {z : Zv} {v : V} {xs : List PyData} (r : ZR K P G H H0 z v) (e : z = .d (.tuple xs)) : ∃ a vs, v = .ref a ∧ SqT K G a vs ∧ DqAll K G vs xs := by
  subst e
  cases (show Dq K G v (.tuple xs) from r) with
  | tup hs ha => exact ⟨_, _, rfl, hs, ha⟩
/-- a list or a tuple, by what stands there -/
def iSeq (K : PySem.W.Frag) (tl : TE) : TI := fun σ H R => tl σ H fun x H1 => ∃ a xs, x = .ref a ∧ ((SqL K H1 a xs ∧ R (Itl K a) H1) ∨ (SqT K H1 a xs ∧ R (Itt K a) H1))
theorem pi_seq {X : Cx} {tg l : Expr} {tl : TE} (hl : PE X l tl) : PI X tg l (iSeq X.K tl) := ⟨fun pins s σ H R I h => by
  refine thn (hl.run pins s σ H _ I h) fun v s1 hv => ?_
  obtain ⟨x, H1, I1, r1, a, xs, ex, q⟩ := hv
  subst ex
  cases r1
  have fresh : ∀ {o : Obj} (b : Addr), b ∈ [s1.heap.objs.size] → FpOk X pins H1 b := fun {o} b hb => by
    rw [List.mem_singleton.mp hb]
    exact I1.fpOk (Nat.le_refl _) (I1.hok.fresh (Nat.le_refl _))
  have kept : ∀ o : Obj, Inv X pins σ H1 { s1 with heap := s1.heap.push o } := fun o => I1.kept (t' := s1.toks) fun _ _ e => Heap.get?_push_of_some _ e
  rcases q with ⟨hq, q⟩ | ⟨hq, q⟩
  · obtain ⟨its, _, pl, _⟩ := I1.list hq
    refine wpAny_pyIter_list pl.isList ⟨s1.heap.objs.size, [s1.heap.objs.size], _, _, H1, rfl, kept _, turn_list a _, ⟨_, Heap.get?_push_size _ rfl, rfl, rfl⟩, fresh (o := default), q⟩
  · obtain ⟨its, _, pl, _⟩ := I1.tuple hq
    refine wpAny_pyIter_tuple (show s1.heap.IsTuple a its.toArray from pl) ⟨s1.heap.objs.size, [s1.heap.objs.size], _, _, H1, rfl, kept _, turn_tuple a _, ⟨_, Heap.get?_push_size _ rfl, rfl, rfl⟩, fresh (o := default), q⟩⟩
theorem impi_seq {wa : WE} {ta : TE} (ha : Imp K wa ta) : ImpI K (fun Γ c Q => wa Γ c fun z c1 => dz z fun d => wIt none [d] fun r => Q r c1) (iSeq K ta) := fun B σ P G H Γ c Q R a w k => by
  refine ha B σ P G H Γ c _ _ a w fun x P1 G1 H1 c1 z s1 w1 r1 q1 => ?_
  obtain ⟨d, rfl, q⟩ := dz_of q1
  unfold wIt at q
  split at q
  · rename_i e1 e2
    cases e2
    obtain ⟨p, vs, rfl, hv, da⟩ := zr_list r1 rfl
    exact ⟨p, vs, rfl, .inl ⟨.inl (rd_mono w1.gh hv), k _ P1 G1 H1 c1 _ s1 w1 (wk_list w1 hv da) q⟩⟩
  · rename_i e1 e2
    cases e2
    obtain ⟨p, vs, rfl, hv, da⟩ := zr_tuple r1 rfl
    exact ⟨p, vs, rfl, .inr ⟨sqt_mono w1.gh hv, k _ P1 G1 H1 c1 _ s1 w1 (wk_tup w1 hv da) q⟩⟩
  all_goals first | contradiction | exact q.elim
/-- range(b), range(a, b) -/
theorem impi_range1 {wa : WE} {ta : TE} (ha : Imp K wa ta) : ImpI K (fun Γ c Q => wa Γ c fun z c1 => dzs [z] fun ds => wIt (some .range) ds fun r => Q r c1) (iRng1 (tCons ta tNil)) := fun B σ P G H Γ c Q R a w' k => by
  refine ha B σ P G H Γ c _ _ a w' fun x P1 G1 H1 c1 z s1 w1 r1 q1 => ?_
  cases z with
  | d dd =>
    have q : wIt (some .range) [dd] fun r => Q r c1 := q1
    cases dd with
    | int j =>
      obtain ⟨h1, h2, q⟩ := q
      cases (show Dq K G1 x (.int j) from r1)
      refine ⟨j, rfl, h2, by omega, ?_⟩
      have := wk_range (K := K) (G0 := G1) 0 j (by omega)
      rw [Int.sub_zero] at this
      exact k _ P1 G1 H1 c1 _ s1 w1 this q
    | _ => exact q.elim
  | _ => exact q1.elim
theorem impi_range2 {wa wb : WE} {ta tb : TE} (ha : Imp K wa ta) (hb : Imp K wb tb) : ImpI K (fun Γ c Q => wa Γ c fun z c1 => wb Γ c1 fun z' c2 => dzs [z, z'] fun ds => wIt (some .range) ds fun r => Q r c2) (iRng2 (tCons ta (tCons tb tNil))) := fun B σ P G H Γ c Q R a w' k => by
  refine ha B σ P G H Γ c _ _ a w' fun x P1 G1 H1 c1 z s1 w1 r1 q1 => ?_
  refine hb B σ P1 G1 H1 Γ c1 _ _ (a.step s1 w1) q1 fun y P2 G2 H2 c2 z' s2 w2 r2 q2 => ?_
  cases z with
  | d dd =>
    cases z' with
    | d ee =>
      have q : wIt (some .range) [dd, ee] fun r => Q r c2 := q2
      cases dd with
      | int i =>
        cases ee with
        | int j =>
          obtain ⟨⟨h0, h1, h2, h3, h4⟩, q⟩ := q
          cases (show Dq K G1 x (.int i) from r1)
          cases (show Dq K G2 y (.int j) from r2)
          exact ⟨i, j, rfl, ⟨h1, h2, h3, h4⟩, k _ P2 G2 H2 c2 _ (s1.trans s2) w2 (wk_range i j h0) q⟩
        | _ => exact q.elim
      | _ => exact q.elim
    | _ => exact q2.elim
  | _ => exact q2.elim
theorem impi_zip {wa wb : WE} {ta tb : TE} (ha : Imp K wa ta) (hb : Imp K wb tb) : ImpI K (fun Γ c Q => wa Γ c fun z c1 => wb Γ c1 fun z' c2 => dzs [z, z'] fun ds => wIt (some .zip) ds fun r => Q r c2) (iZipM K (tCons ta (tCons tb tNil))) := fun B σ P G H Γ c Q R a w' k => by
  refine ha B σ P G H Γ c _ _ a w' fun x P1 G1 H1 c1 z s1 w1 r1 q1 => ?_
  refine hb B σ P1 G1 H1 Γ c1 _ _ (a.step s1 w1) q1 fun y P2 G2 H2 c2 z' s2 w2 r2 q2 => ?_
  cases z with
  | d dd =>
    cases z' with
    | d ee =>
      have q : wIt (some .zip) [dd, ee] fun r => Q r c2 := q2
      cases dd with
      | list xs =>
        cases ee with
        | list ys =>
          obtain ⟨p, vs, rfl, hv, da⟩ := zr_list (r1.mono s2) rfl
          obtain ⟨p', vs', rfl, hv', da'⟩ := zr_list r2 rfl
          exact ⟨p, p', vs, vs', rfl, .inl ⟨.inl (rd_mono w2.gh hv), .inl (rd_mono w2.gh hv'), k _ P2 G2 H2 c2 _ (s1.trans s2) w2 (wk_zipL w2 hv da hv' da') q⟩⟩
        | tuple ys =>
          obtain ⟨p, vs, rfl, hv, da⟩ := zr_list (r1.mono s2) rfl
          obtain ⟨p', vs', rfl, hv', da'⟩ := zr_tuple r2 rfl
          exact ⟨p, p', vs, vs', rfl, .inr (.inr ⟨.inl (rd_mono w2.gh hv), sqt_mono w2.gh hv', k _ P2 G2 H2 c2 _ (s1.trans s2) w2 (wk_zipM w2 hv da hv' da') q⟩)⟩
        | _ => exact q.elim
      | tuple xs =>
        cases ee with
        | tuple ys =>
          obtain ⟨p, vs, rfl, hv, da⟩ := zr_tuple (r1.mono s2) rfl
          obtain ⟨p', vs', rfl, hv', da'⟩ := zr_tuple r2 rfl
          exact ⟨p, p', vs, vs', rfl, .inr (.inl ⟨sqt_mono w2.gh hv, sqt_mono w2.gh hv', k _ P2 G2 H2 c2 _ (s1.trans s2) w2 (wk_zipT w2 hv da hv' da') q⟩)⟩
        | _ => exact q.elim
      | _ => exact q.elim
    | _ => exact q2.elim
  | _ => exact q2.elim
theorem impi_enum {wa : WE} {ta : TE} (ha : Imp K wa ta) : ImpI K (fun Γ c Q => wa Γ c fun z c1 => dzs [z] fun ds => wIt (some .enum) ds fun r => Q r c1) (iEnum K (tCons ta tNil)) := fun B σ P G H Γ c Q R a w' k => by
  refine ha B σ P G H Γ c _ _ a w' fun x P1 G1 H1 c1 z s1 w1 r1 q1 => ?_
  cases z with
  | d dd =>
    have q : wIt (some .enum) [dd] fun r => Q r c1 := q1
    cases dd with
    | list xs =>
      obtain ⟨p, vs, rfl, hv, da⟩ := zr_list r1 rfl
      exact ⟨p, vs, rfl, .inl (rd_mono w1.gh hv), k _ P1 G1 H1 c1 _ s1 w1 (wk_enum w1 hv da) q⟩
    | _ => exact q.elim
  | _ => exact q1.elim
end
end Z
/-! Z9 -/
set_option maxRecDepth 100000
/-! targets, comprehensions -/
namespace Z
open PySem PySem.Spec PyProof.Rows L2
/-- what changed among the slots -/
structure Chg (ts : List Nat) (σ σ' : L2.St) : Prop where
  ln : σ'.length = σ.length
  at_ : ∀ j, j ∉ ts → σ'[j]? = σ[j]?
theorem Chg.refl (ts : List Nat) (σ : L2.St) : Chg ts σ σ := ⟨rfl, fun _ _ => rfl⟩
theorem Chg.trans {ts us : List Nat} {σ σ1 σ2 : L2.St} (a : Chg ts σ σ1) (b : Chg us σ1 σ2) : Chg (ts ++ us) σ σ2 :=
  ⟨b.ln.trans a.ln, fun j h => (b.at_ j fun z => h (List.mem_append_right _ z)).trans (a.at_ j fun z => h (List.mem_append_left _ z))⟩
theorem Chg.mono {ts us : List Nat} {σ σ1 : L2.St} (a : Chg ts σ σ1) (h : ∀ i ∈ ts, i ∈ us) : Chg us σ σ1 := ⟨a.ln, fun j n => a.at_ j fun z => n (h j z)⟩
theorem wipe_get (σ : L2.St) : ∀ (vs : List Nat) (j : Nat), (wipe σ vs)[j]? = if j ∈ vs ∧ j < σ.length then some none else σ[j]?
  | [], j => by simp [wipe]
  | v :: vs, j => by
    unfold wipe
    have hl := wipe_length σ vs
    by_cases e : v = j
    · subst e
      by_cases h : v < σ.length
      · rw [List.getElem?_set_self (by omega)]
        simp [h]
      · rw [List.getElem?_eq_none (by rw [List.length_set]; omega)]
        simp only [h, and_false, if_false]
        rw [List.getElem?_eq_none (by omega)]
    · rw [List.getElem?_set_ne e, wipe_get σ vs j]
      have : (j ∈ v :: vs) ↔ j ∈ vs := by simp [Ne.symm e]
      simp only [this]
theorem Chg.wipe {ts vs : List Nat} {σ σ' : L2.St} (a : Chg ts (L2.wipe σ vs) σ') (h : ∀ i ∈ ts, i ∈ vs) : L2.wipe σ' vs = L2.wipe σ vs := by
  apply List.ext_getElem?
  intro j
  rw [wipe_get, a.ln, wipe_length]
  by_cases hj : j ∈ vs
  · rw [wipe_get σ vs j]
    by_cases hl : j < σ.length
    · simp [hj, hl]
    · simp only [hj, hl, and_false, if_false]
      rw [List.getElem?_eq_none (by rw [a.ln, wipe_length]; omega), List.getElem?_eq_none (by omega)]
  · simp only [hj, false_and, if_false]
    exact a.at_ j fun z => hj (h j z)
theorem get_lt : ∀ {Γ : Ga} {j : Nat} {z : Zv}, get Γ j = some z → j < Γ.length
  | [], _, _, h => by simp [get] at h
  | _ :: _, 0, _, _ => by simp
  | _ :: r, j + 1, z, h => by
    have := get_lt (Γ := r) (j := j) (z := z) h
    simp; omega
theorem wipeG_len (Γ : Ga) : ∀ vs : List Nat, (wipeG Γ vs).length = Γ.length
  | [] => rfl
  | v :: vs => by unfold wipeG; rw [put_len, wipeG_len Γ vs]
theorem wipeG_get (Γ : Ga) : ∀ (vs : List Nat) (j : Nat) (z : Zv), get (wipeG Γ vs) j = some z → j ∉ vs ∧ get Γ j = some z
  | [], j, z, h => ⟨by simp, h⟩
  | v :: vs, j, z, h => by
    unfold wipeG at h
    rw [get_put] at h
    split at h
    · cases h
    · rename_i hn
      obtain ⟨h1, h2⟩ := wipeG_get Γ vs j z h
      refine ⟨fun z => ?_, h2⟩
      rcases List.mem_cons.mp z with e | e
      · subst e
        refine hn ⟨rfl, ?_⟩
        rw [wipeG_len]
        exact get_lt h2
      · exact h1 e
section
variable {K : PySem.W.Frag} {B : Bs} {P : Addr → Prop} {G H : Hp} {c : Nat} {Γ : Ga} {σ : L2.St}
theorem As.wipe (a : As K B P G H c Γ σ) (vs : List Nat) : As K B P G H c (wipeG Γ vs) (L2.wipe σ vs) := by
  have at_ : ∀ j z, get (wipeG Γ vs) j = some z → (L2.wipe σ vs)[j]? = σ[j]? ∧ get Γ j = some z := fun j z h => by
    obtain ⟨h1, h2⟩ := wipeG_get Γ vs j z h
    rw [wipe_get]
    simp [h1, h2]
  refine ⟨a.st, a.wd, fun i z h => ?_, by rw [wipeG_len, wipe_length]; exact a.ln, fun i j xs ys hij h1 h2 => ?_⟩
  · obtain ⟨e, h2⟩ := at_ i z h
    rw [e]
    exact a.sl i z h2
  · obtain ⟨e1, g1⟩ := at_ i _ h1
    obtain ⟨e2, g2⟩ := at_ j _ h2
    rw [e1, e2]
    exact a.dj i j xs ys hij g1 g2
/-- a slot is set -/
theorem As.set {i : Nat} {z : Zv} {v : V} (a : As K B P G H c Γ σ) (r : ZR K P G H B.H z v) (h : ∀ xs, z = .own xs → ∀ j ys, j ≠ i → get Γ j = some (.own ys) → σ[j]? ≠ some (some v)) : As K B P G H c (put Γ i (some z)) (σ.set i (some v)) := by
  refine ⟨a.st, a.wd, fun j y hj => ?_, by rw [put_len, List.length_set]; exact a.ln, fun j k xs ys hjk h1 h2 => ?_⟩
  · rw [get_put] at hj
    split at hj
    · rename_i hc
      obtain ⟨rfl, hl⟩ := hc
      cases hj
      exact ⟨v, List.getElem?_set_self (Nat.lt_of_lt_of_le hl a.ln), r⟩
    · rename_i hc
      obtain ⟨v', e, r'⟩ := a.sl j y hj
      refine ⟨v', ?_, r'⟩
      rw [List.getElem?_set_ne (fun q => hc ⟨q, by rw [q]; exact get_lt hj⟩)]
      exact e
  · have ne : ∀ {j k : Nat} {xs ys : List PyData}, j ≠ k → get (put Γ i (some z)) j = some (.own xs) → get (put Γ i (some z)) k = some (.own ys) → j = i → k ≠ i → (σ.set i (some v))[j]? ≠ (σ.set i (some v))[k]? := by
      intro j k xs ys hjk h1 h2 ej nk
      subst ej
      rw [get_put] at h1 h2
      split at h1
      · rename_i hc
        cases h1
        rw [if_neg (fun q => nk q.1.symm)] at h2
        rw [List.getElem?_set_self (Nat.lt_of_lt_of_le hc.2 a.ln), List.getElem?_set_ne (Ne.symm nk)]
        exact Ne.symm (h xs rfl k ys nk h2)
      · rename_i hc
        exfalso
        have hl : ¬ j < Γ.length := fun q => hc ⟨rfl, q⟩
        exact hl (get_lt h1)
    by_cases ej : j = i
    · exact ne hjk h1 h2 ej fun ek => hjk (ej.trans ek.symm)
    · by_cases ek : k = i
      · exact Ne.symm (ne (Ne.symm hjk) h2 h1 ek ej)
      · rw [get_put, if_neg (fun q => ej q.1.symm)] at h1
        rw [get_put, if_neg (fun q => ek q.1.symm)] at h2
        rw [List.getElem?_set_ne (Ne.symm ej), List.getElem?_set_ne (Ne.symm ek)]
        exact a.dj j k xs ys hjk h1 h2
end
/-- no owned lists -/
def NoOwn (Γ : Ga) : Prop := ∀ i xs, get Γ i ≠ some (.own xs)
theorem noOwn_put {Γ : Ga} (h : NoOwn Γ) (i : Nat) (x : PyData) : NoOwn (put Γ i (some (.d x))) := fun j xs e => by
  rw [get_put] at e
  split at e
  · cases e
  · exact h j xs e
theorem clnG_len : ∀ Γ : Ga, (clnG Γ).length = Γ.length
  | [] => rfl
  | some (.own _) :: r => by simp [clnG, clnG_len r]
  | some (.d _) :: r => by simp [clnG, clnG_len r]
  | some .pot :: r => by simp [clnG, clnG_len r]
  | some (.scr _) :: r => by simp [clnG, clnG_len r]
  | none :: r => by simp [clnG, clnG_len r]
theorem clnG_get : ∀ (Γ : Ga) (j : Nat) (z : Zv), get (clnG Γ) j = some z → get Γ j = some z ∧ ∀ xs, z ≠ .own xs
  | [], j, z, h => by simp [clnG, get] at h
  | y :: r, j + 1, z, h => by
    have h : get (clnG r) j = some z := by
      cases y with
      | none => exact h
      | some y => cases y <;> exact h
    exact clnG_get r j z h
  | y :: r, 0, z, h => by
    cases y with
    | none => exact absurd h (by simp [clnG, get])
    | some y => cases y <;> simp [clnG, get] at h <;> subst h <;> exact ⟨rfl, fun _ e => by cases e⟩
theorem noOwn_cln (Γ : Ga) : NoOwn (clnG Γ) := fun j xs e => (clnG_get Γ j _ e).2 xs rfl
section
variable {K : PySem.W.Frag} {B : Bs} {P P1 : Addr → Prop} {G H G1 H1 : Hp} {c c1 : Nat} {Γ : Ga} {σ : L2.St}
theorem As.cln (a : As K B P G H c Γ σ) : As K B P G H c (clnG Γ) σ :=
  ⟨a.st, a.wd, fun i z h => a.sl i z (clnG_get Γ i z h).1, by rw [clnG_len]; exact a.ln, fun i j xs ys _ h _ => absurd rfl ((clnG_get Γ i _ h).2 xs)⟩
theorem As.wipeG (a : As K B P G H c Γ σ) (vs : List Nat) : As K B P G H c (wipeG Γ vs) σ :=
  ⟨a.st, a.wd, fun i z h => a.sl i z (wipeG_get Γ vs i z h).2, by rw [wipeG_len]; exact a.ln, fun i j xs ys hij h1 h2 => a.dj i j xs ys hij (wipeG_get Γ vs i _ h1).2 (wipeG_get Γ vs j _ h2).2⟩
/-- .. at another state, where no list is owned -/
theorem As.move (a : As K B P G H c Γ σ) (n : NoOwn Γ) (pp : ∀ x, P x → P1 x) (gg : ∀ x o, G x = some o → G1 x = some o) (s : Stp B.P B.G B.H P1 G1 H1) (w : Wd P1 G1 H1 c1) : As K B P1 G1 H1 c1 Γ σ := by
  refine ⟨s, w, fun i z h => ?_, a.ln, fun i j xs ys _ h _ => absurd h (n i xs)⟩
  obtain ⟨v, e, r⟩ := a.sl i z h
  refine ⟨v, e, ?_⟩
  match z, r, h with
  | .d x, r, _ => exact dp_mono gg _ _ r
  | .pot, ⟨b, e1, hb⟩, _ => exact ⟨b, e1, pp b hb⟩
  | .scr ns, ⟨b, e1, hb⟩, _ => exact ⟨b, e1, sql_mono gg hb⟩
  | .own xs, _, h => exact absurd h (n i xs)
end
/-! ### targets -/
mutual
def tgS : Tg → List Nat
  | .n i => [i]
  | .t ts => tgsS ts
  | .s ts i => tgsS ts ++ [i]
def tgsS : List Tg → List Nat
  | [] => []
  | t :: ts => tgS t ++ tgsS ts
end
def ImpG (K : PySem.W.Frag) (ss : List Nat) (w : PyData → Ga → (Ga → Prop) → Prop) (g : TG) : Prop :=
  ∀ (B : Bs) (σ : L2.St) (P : Addr → Prop) (G H : Hp) (Γ : Ga) (c : Nat) (v : V) (x : PyData) (Q : Ga → Prop) (R : L2.St → Hp → Prop), As K B P G H c Γ σ → Dq K G v x → w x Γ Q →
    (∀ σ' Γ' P' G' H', Stp P G H P' G' H' → As K B P' G' H' c Γ' σ' → Chg ss σ σ' → (NoOwn Γ → NoOwn Γ') → Q Γ' → R σ' H') → g v σ H R
def ImpGs (K : PySem.W.Frag) (n : Nat) (ss : List Nat) (w : List PyData → Ga → (Ga → Prop) → Prop) (g : TGs) : Prop :=
  ∀ (B : Bs) (σ : L2.St) (P : Addr → Prop) (G H : Hp) (Γ : Ga) (c : Nat) (vs : List V) (xs : List PyData) (Q : Ga → Prop) (R : L2.St → Hp → Prop), As K B P G H c Γ σ → DqAll K G vs xs → xs.length = n → w xs Γ Q →
    (∀ σ' Γ' P' G' H', Stp P G H P' G' H' → As K B P' G' H' c Γ' σ' → Chg ss σ σ' → (NoOwn Γ → NoOwn Γ') → Q Γ' → R σ' H') → g vs σ H R
section
variable {K : PySem.W.Frag}
theorem impg_n (i : Nat) : ImpG K (tgS (.n i)) (wTg (.n i)) (gName i) := fun B σ P G H Γ c v x Q R a r w k => by
  have w : Q (put Γ i (some (.d x))) := by simpa [wTg] using w
  refine k (σ.set i (some v)) _ P G H .refl (a.set (z := .d x) r fun xs e => by cases e) ⟨List.length_set, fun j h => ?_⟩ (fun n => noOwn_put n i x) w
  exact List.getElem?_set_ne (fun q => h (by simp [q, tgS]))
theorem impgs_nil : ImpGs K 0 (tgsS []) (wTgs []) gNil := fun B σ P G H Γ c vs xs Q R a r hl w k => by
  have w : Q Γ := by simpa [wTgs] using w
  cases xs with
  | cons _ _ => simp at hl
  | nil =>
    cases r
    exact ⟨rfl, k σ Γ P G H .refl a (.refl _ _) (fun n => n) w⟩
theorem impgs_cons {t : Tg} {ts : List Tg} {n : Nat} {g : TG} {gs : TGs} (h1 : ImpG K (tgS t) (wTg t) g) (h2 : ImpGs K n (tgsS ts) (wTgs ts) gs) : ImpGs K (n + 1) (tgsS (t :: ts)) (wTgs (t :: ts)) (gCons g gs) := fun B σ P G H Γ c vs xs Q R a r hl w k => by
  cases xs with
  | nil => simp at hl
  | cons x xs =>
    cases r with
    | cons r1 r2 =>
      have w : wTg t x Γ fun Γ' => wTgs ts xs Γ' Q := by simpa [wTgs] using w
      refine ⟨_, _, rfl, h1 B σ P G H Γ c _ x _ _ a r1 w fun σ1 Γ1 P1 G1 H1 s1 a1 c1 n1 q1 => ?_⟩
      refine h2 B σ1 P1 G1 H1 Γ1 c _ xs Q R a1 (dpa_mono s1.gg _ _ r2) (by simpa using hl) q1 fun σ2 Γ2 P2 G2 H2 s2 a2 c2 n2 q2 => ?_
      exact k σ2 Γ2 P2 G2 H2 (s1.trans s2) a2 (by unfold tgsS; exact c1.trans c2) (fun n => n2 (n1 n)) q2
theorem impg_t {ts : List Tg} {gs : TGs} (h : ImpGs K ts.length (tgsS ts) (wTgs ts) gs) : ImpG K (tgS (.t ts)) (wTg (.t ts)) (gTup K ts.length gs) := fun B σ P G H Γ c v x Q R a r w k => by
  unfold wTg at w
  split at w
  · rename_i xs
    cases r with
    | tup hs ha =>
      obtain ⟨hl, w⟩ := w
      refine ⟨_, _, rfl, sqt_mono a.wd.gh hs, by rw [ha.length]; exact hl, ?_⟩
      exact h B σ P G H Γ c _ xs Q R a ha hl w k
  · exact w.elim
/-! ### comprehensions -/
theorem impt_yes : ImpT K (fun _ c Q => Q true c) tYes := fun B σ P G H Γ c Q R a w k => k true P G H c .refl a.wd w
theorem lcW_mono {f : PyData → Nat → (List PyData → Nat → Prop) → Prop} (hf : ∀ d c Q Q', (∀ r c, Q r c → Q' r c) → f d c Q → f d c Q') : ∀ (ds : List PyData) (c : Nat) (Q Q' : List PyData → Nat → Prop), (∀ r c, Q r c → Q' r c) → lcW f ds c Q → lcW f ds c Q'
  | [], c, Q, Q', h, w => h _ _ w
  | d :: ds, c, Q, Q', h, w => hf d c _ _ (fun r c1 q => lcW_mono hf ds c1 _ _ (fun rs c2 q2 => h _ _ q2) q) w
theorem drop_cons {α : Type} {l : List α} {i : Nat} {d : α} (h : l[i]? = some d) : l.drop i = d :: l.drop (i + 1) := by
  obtain ⟨hi, e⟩ := List.getElem?_eq_some_iff.mp h
  rw [List.drop_eq_getElem_cons hi, e]
theorem imp_lc {wi : WI} {ti : TI} {tg : Tg} {g : TG} {wc : WT} {tt : TT} {we : WE} {te : TE} {ow : List Nat} (hi : ImpI K wi ti) (hg : ImpG K (tgS tg) (wTg tg) g) (hs : ∀ i ∈ tgS tg, i ∈ ow) (ht : ImpT K wc tt) (he : Imp K we te) :
    Imp K (fun Γ c Q => wi Γ c fun ds c1 => lcW (fun d c Q => wTg tg d (wipeG Γ ow) fun Γ1 => wc Γ1 c fun b c2 => match b with
      | true => we Γ1 c2 fun z c3 => dz z fun x => Q [x] c3
      | false => Q [] c2) ds c1 fun rs c2 => Q (.d (.list rs)) c2) (tLc ti g tt te ow) := fun B σ P G H Γ c Q R a w k => by
  refine hi B σ P G H Γ c _ _ a w fun J P1 G1 H1 c1 ds s1 w1 wk q1 => ?_
  intro D hD
  have a1 := a.step s1 w1
  have hz := wk.sz
  refine ⟨fun i m H => m = ds.length - i ∧ i ≤ ds.length ∧ ∃ P G c acc accD, Stp P1 G1 H1 P G H ∧ Wd P G H c ∧ Ob P G H D (.lst acc) ∧ DqAll K G acc accD ∧ acc.length ≤ i ∧
    lcW (fun d c Q => wTg tg d (wipeG Γ ow) fun Γ1 => wc Γ1 c fun b c2 => match b with
      | true => we Γ1 c2 fun z c3 => dz z fun x => Q [x] c3
      | false => Q [] c2) (ds.drop i) c fun rs c2 => Q (.d (.list (accD ++ rs))) c2, ⟨ds.length, by simp, Nat.zero_le _, P1, G1, c1, [], [], Stp.newH w1 hD, w1.newH hD (Nat.zero_le _), Ob.new w1 hD, .nil, Nat.le_refl _, q1⟩, ?_⟩
  rintro i m H2 ⟨rfl, hle, P2, G2, c2, acc, accD, s2, w2, ob, da, hl, q2⟩
  by_cases hlt : i < ds.length
  · refine .inr ⟨wk.go i P2 G2 H2 c2 s2.gg w2 hlt, fun H' => ∃ P G c acc accD, Stp P1 G1 H1 P G H' ∧ Wd P G H' c ∧ Ob P G H' D (.lst acc) ∧ DqAll K G acc accD ∧ acc.length ≤ i + 1 ∧
      lcW (fun d c Q => wTg tg d (wipeG Γ ow) fun Γ1 => wc Γ1 c fun b c2 => match b with
        | true => we Γ1 c2 fun z c3 => dz z fun x => Q [x] c3
        | false => Q [] c2) (ds.drop (i + 1)) c fun rs c2 => Q (.d (.list (accD ++ rs))) c2, fun H' h => ⟨ds.length - (i + 1), by omega, rfl, hlt, h⟩, fun x H3 hy => ?_⟩
    obtain ⟨G3, d, s3, w3, ed, hd⟩ := wk.yld i P2 G2 H2 c2 x H3 s2.gg w2 hlt hy
    rw [drop_cons ed] at q2
    have s13 := s2.trans s3
    have ob3 := ob.step s3
    have da3 := dpa_mono s3.gg _ _ da
    refine hg B (wipe σ ow) P2 G3 H3 (wipeG Γ ow) c2 x d _ _ ((a1.step s13 w3).wipe ow) hd q2 fun σ4 Γ4 P4 G4 H4 s4 a4 ch _ q4 => ⟨ch.wipe hs, ?_⟩
    refine ht B σ4 P4 G4 H4 Γ4 c2 _ _ a4 q4 fun b P5 G5 H5 c5 s5 w5 q5 => ?_
    have s15 := (s13.trans s4).trans s5
    have ob5 := (ob3.step s4).step s5
    have da5 := dpa_mono s5.gg _ _ (dpa_mono s4.gg _ _ da3)
    cases b with
    | false =>
      refine iteF ⟨P5, G5, c5, acc, accD, s15, w5, ob5, da5, by omega, ?_⟩
      exact q5
    | true =>
      refine iteT (he B σ4 P5 G5 H5 Γ4 c5 _ _ (a4.step s5 w5) q5 fun y P6 G6 H6 c6 z s6 w6 r6 q6 => ?_)
      obtain ⟨x6, rfl, q6⟩ := dz_of q6
      have ob6 := ob5.step s6
      have hsz : acc.length < sizeLine := by omega
      refine ⟨acc, ob6.h, hsz, P6, G6, c6, acc ++ [y], accD ++ [x6], (s15.trans s6).chg hD ob6, w6.chg ob6 (by show (acc ++ [y]).length ≤ _; rw [List.length_append]; exact hsz), ob6.chg, (dpa_mono s6.gg _ _ da5).append (.cons r6 .nil), by rw [List.length_append]; simp; omega, ?_⟩
      have e : (fun rs c2 => Q (.d (.list (accD ++ ([x6] ++ rs)))) c2) = (fun rs c2 => Q (.d (.list (accD ++ [x6] ++ rs))) c2) := by funext rs c2; rw [List.append_assoc]
      rw [← e]
      exact q6
  · have e : i = ds.length := by omega
    subst e
    refine .inl ⟨wk.stop P2 G2 H2 c2 s2.gg w2, ?_⟩
    rw [List.drop_length] at q2
    have q2 : Q (.d (.list (accD ++ []))) c2 := q2
    rw [List.append_nil] at q2
    have s3 := s2.still hD ob
    exact k (.ref D) P2 (upd G2 D (.lst acc)) H2 c2 (.d (.list accD)) (s1.trans s3) (w2.still ob) (show Dq K _ _ _ from .lst upd_same (dpa_mono (fun b u h => by
      have n : b ≠ D := fun z => by rw [z, ob.g] at h; cases h
      rw [upd_ne n]; exact h) _ _ da)) q2
end
end Z
/-! Z10 -/
set_option maxRecDepth 100000
/-! calls of the text's own defs; two clauses -/
namespace Z
open PySem PySem.Spec PyProof.Rows L2
/-! ### a def that keeps its promise where no repr runs -/
structure FnZ (P : Program) (w : World) (K : PySem.W.Frag) (mg : Str → Option Value) (base : Heap) (k : Nat) (f : Addr) (fd : FuncData) (ps : List Str) (sp : Sp) : Prop where
  ln : ∀ vs H Q E, sp vs H Q E → vs.length = ps.length
  go : ∀ (A : Around) (outer : List Env) (s : Shared) (H : Hp) (as : Args) (us : List Value) (vs : List V) (Q : VK) (E : XK), Room k A → Gd0 A → Env0 P w K mg base A outer s H → BindsTo s fd as (ps.zip us) → Vals vs us → sp vs H Q E →
    codeAny (model P w) A (.call (.ref f) as) (CR CX0 outer P w H s Q E) s
theorem FnZ.up {P : Program} {w : World} {K : PySem.W.Frag} {mg : Str → Option Value} {base : Heap} {j k : Nat} {f : Addr} {fd : FuncData} {ps : List Str} {sp : Sp} (F : FnZ P w K mg base j f fd ps sp) (h : j ≤ k) : FnZ P w K mg base k f fd ps sp :=
  ⟨F.ln, fun A outer s H as us vs Q E hr => F.go A outer s H as us vs Q E (hr.mono h)⟩
theorem FnZ.imp {P : Program} {w : World} {K : PySem.W.Frag} {mg : Str → Option Value} {base : Heap} {k : Nat} {f : Addr} {fd : FuncData} {ps : List Str} {sp sp' : Sp} (F : FnZ P w K mg base k f fd ps sp) (h : ∀ vs H Q E, sp' vs H Q E → sp vs H Q E) : FnZ P w K mg base k f fd ps sp' :=
  ⟨fun vs H Q E q => F.ln vs H Q E (h _ _ _ _ q), fun A outer s H as us vs Q E hr hg he hb hv hs => F.go A outer s H as us vs Q E hr hg he hb hv (h _ _ _ _ hs)⟩
section
variable {X : Cx} {k : Nat} {f : Addr} {fd : FuncData} {ps : List Str} {sp : Sp} {dvs : List V} {dls : List Value} {x : Str} {p pos : Pos} {e : Expr} {es : List Expr} {t : TA}
theorem go_fn {pins : List (Addr × Obj)} {σ : L2.St} {H : Hp} {s : Shared} {Q : VK} {us : List Value} {vs : List V} (F : FnZ X.prog X.w X.K X.mg X.base k f fd ps sp) (hr : Room k X.A) (hg : Gd0 X.A) (hb : Binds X.K fd ps dls) (hd : Vals dvs dls)
    (I : Inv X pins σ H s) (r : Vals vs us) (h : sp (vs ++ dvs) H Q E0) : wpAny (model X.prog X.w) X.A (call (.ref f) us) (EP X pins σ Q) X.xe s := by
  have rr := r.append hd
  have hl : (us ++ dls).length = ps.length := rr.length.symm.trans (F.ln _ _ _ _ h)
  have run := F.go X.A X.stack s H ⟨us, []⟩ (us ++ dls) (vs ++ dvs) Q E0 hr hg I.env0 (hb s us I.kIn hl) rr h
  refine wpAny_call (codeAny_mono run fun q s' hq => ?_)
  match q, hq with
  | .ok (.ret u), hq => exact I.after hq
  | .error e, hq => exact hq.elim
  | .ok .next, hq => exact hq.elim
  | .ok .brk, hq => exact hq.elim
  | .ok .cont, hq => exact hq.elim
theorem pe_callZ (F : FnZ X.prog X.w X.K X.mg X.base k f fd ps sp) (hr : Room k X.A) (hgd : Gd0 X.A) (hg : Gl X x) (hm : X.mg x = some (.ref f)) (hk : PySem.W.keepIn X.K (.ref f) = true) (hb : Binds X.K fd ps dls) (hd : Vals dvs dls)
    (ha : PA X (e :: es) t) (hdb : (x == ("__debug__" : Str)) = false) (he : starEach (e :: es) X.env = (false, eval e X.env) :: starEach es X.env) (hpl : (backTo pos (starEach es X.env)).any (·.1) = false) :
    PE X (.Call (.Name x p) (e :: es) [] pos) (tCall sp dvs E0 t) := ⟨fun pins s σ H Q I h =>
  wpAny_Call_Name_kw (ld_glob I hg hm (PySem.W.callWith_K (h₀ := X.base) I.ok.mod.kin hk (thn (ha.run pos pins s σ H _ I h) fun us s1 ⟨vs, H1, I1, r, q⟩ => ⟨I1.kIn, go_fn F hr hgd hb hd I1 r q⟩) he hpl) hdb)⟩
theorem pe_callZ0 (F : FnZ X.prog X.w X.K X.mg X.base k f fd ps sp) (hr : Room k X.A) (hgd : Gd0 X.A) (hg : Gl X x) (hm : X.mg x = some (.ref f)) (hk : PySem.W.keepIn X.K (.ref f) = true) (hb : Binds X.K fd ps dls) (hd : Vals dvs dls)
    (hdb : (x == ("__debug__" : Str)) = false) : PE X (.Call (.Name x p) [] [] pos) (tCall sp dvs E0 tNil) := ⟨fun pins s σ H Q I h =>
  wpAny_Call_Name_kw (ld_glob I hg hm (PySem.W.callWith_K0 I.kIn hk (go_fn (us := []) F hr hgd hb hd I .nil h)) hdb)⟩
end
/-! ### promises upon data -/
/-- values that are not owned -/
def ZV (K : PySem.W.Frag) (P : Addr → Prop) (G : Hp) : Zv → V → Prop
  | .d x, v => Dq K G v x
  | .pot, v => ∃ a, v = .ref a ∧ P a
  | .own _, _ => False
  | .scr ns, v => ∃ a, v = .ref a ∧ SqL K G a (ns.map V.int)
inductive ZVs (K : PySem.W.Frag) (P : Addr → Prop) (G : Hp) : List Zv → List V → Prop
  | nil : ZVs K P G [] []
  | cons {z : Zv} {v : V} {zs : List Zv} {vs : List V} : ZV K P G z v → ZVs K P G zs vs → ZVs K P G (z :: zs) (v :: vs)
section
variable {K : PySem.W.Frag} {P P1 : Addr → Prop} {G H G1 H1 H0 : Hp}
theorem ZV.zr : ∀ {z : Zv} {v : V}, ZV K P G z v → ZR K P G H H0 z v
  | .d _, _, h => h
  | .pot, _, h => h
  | .scr _, _, h => h
  | .own _, _, h => h.elim
theorem ZVs.length : ∀ {zs : List Zv} {vs : List V}, ZVs K P G zs vs → zs.length = vs.length
  | _, _, .nil => rfl
  | _, _, .cons _ t => by simp [ZVs.length t]
theorem ZVs.get : ∀ {zs : List Zv} {vs : List V} {i : Nat} {z : Zv}, ZVs K P G zs vs → zs[i]? = some z → ∃ v, vs[i]? = some v ∧ ZV K P G z v
  | _, _, _, _, .nil, e => by simp at e
  | _, _, 0, _, .cons h _, e => by simp at e; subst e; exact ⟨_, rfl, h⟩
  | _, _, i + 1, z, .cons _ t, e => by
    obtain ⟨v, e1, h⟩ := ZVs.get (i := i) (z := z) t (by simpa using e)
    exact ⟨v, by simpa using e1, h⟩
theorem ZV.mono (s : Stp P G H P1 G1 H1) : ∀ {z : Zv} {v : V}, ZV K P G z v → ZV K P1 G1 z v
  | .d x, _, h => dp_mono s.gg _ _ h
  | .pot, _, ⟨a, e, h⟩ => ⟨a, e, s.pp a h⟩
  | .scr _, _, ⟨a, e, h⟩ => ⟨a, e, sql_mono s.gg h⟩
  | .own _, _, h => h.elim
theorem cln_of : ∀ {zs : List Zv} {vs : List V} {Q : List Zv → Prop}, ZRs K P G H H0 zs vs → cln zs Q → Q zs ∧ ZVs K P G zs vs
  | _, _, _, .nil, h => ⟨h, .nil⟩
  | .d x :: r, _, Q, .cons h1 t, h => by
    obtain ⟨q, z⟩ := cln_of (Q := fun zs => Q (.d x :: zs)) t h
    exact ⟨q, .cons h1 z⟩
  | .pot :: r, _, Q, .cons h1 t, h => by
    obtain ⟨q, z⟩ := cln_of (Q := fun zs => Q (.pot :: zs)) t h
    exact ⟨q, .cons h1 z⟩
  | .scr ns :: r, _, Q, .cons h1 t, h => by
    obtain ⟨q, z⟩ := cln_of (Q := fun zs => Q (.scr ns :: zs)) t h
    exact ⟨q, .cons h1 z⟩
  | .own _ :: _, _, _, _, h => h.elim
end
/-- a def's promise, from what it does upon data -/
def spOf (K : PySem.W.Frag) (ct : Ct) : Sp := fun vs H Q _ => ∃ (P : Addr → Prop) (G : Hp) (c : Nat) (zs : List Zv) (Q0 : KZ), Wd P G H c ∧ ZVs K P G zs vs ∧ ct zs c Q0 ∧
  ∀ v P' G' H' c' z, Stp P G H P' G' H' → Wd P' G' H' c' → ZV K P' G' z v → Q0 z c' → Q v H'
theorem imp_fn {K : PySem.W.Frag} {ct : Ct} {w : WA} {t : TA} (ha : ImpA K w t) : Imp K (fun Γ c Q => w Γ c fun zs c1 => cln zs fun zs => ct zs c1 Q) (tCall (spOf K ct) [] E0 t) := fun B σ P G H Γ c Q R a w' k => by
  refine ha B σ P G H Γ c _ _ a w' fun vs P1 G1 H1 c1 zs s1 w1 r1 q1 => ?_
  obtain ⟨q, hz⟩ := cln_of r1 q1
  rw [List.append_nil]
  exact ⟨P1, G1, c1, zs, Q, w1, hz, q, fun v P' G' H' c' z s w2 h q2 => k v P' G' H' c' z (s1.trans s) w2 h.zr q2⟩
/-! ### two clauses -/
section
variable {K : PySem.W.Frag}
theorem imp_lc2 {wi wi2 : WI} {ti ti2 : TI} {tg tg2 : Tg} {g g2 : TG} {wc wc2 : WT} {tt tt2 : TT} {we : WE} {te : TE} {ow ow2 : List Nat} (hi : ImpI K wi ti) (hg : ImpG K (tgS tg) (wTg tg) g) (hs : ∀ i ∈ tgS tg, i ∈ ow) (ht : ImpT K wc tt)
    (hi2 : ImpI K wi2 ti2) (hg2 : ImpG K (tgS tg2) (wTg tg2) g2) (hs2 : ∀ i ∈ tgS tg2, i ∈ ow2) (ht2 : ImpT K wc2 tt2) (he : Imp K we te) :
    Imp K (fun Γ c Q => wi Γ c fun ds c1 => lcA (fun d acc c Q => wTg tg d (clnG (wipeG Γ ow)) fun Γ1 => wc Γ1 c fun b c2 => match b with
      | true => wi2 Γ1 c2 fun es c3 => lcA (fun e acc c Q => wTg tg2 e (wipeG Γ1 ow2) fun Γ2 => wc2 Γ2 c fun b c2 => match b with
        | true => we Γ2 c2 fun z c3 => dz z fun x => acc.length < sizeLine ∧ Q (acc ++ [x]) c3
        | false => Q acc c2) es acc c3 Q
      | false => Q acc c2) ds [] c1 fun rs c2 => Q (.d (.list rs)) c2) (tLc2 ti g tt ti2 g2 tt2 te ow ow2) := fun B σ P G H Γ c Q R a w k => by
  refine hi B σ P G H Γ c _ _ a w fun J P1 G1 H1 c1 ds s1 w1 wk q1 => ?_
  intro D hD
  have a1 := (a.step s1 w1)
  generalize hF1 : (fun (Γ1 : Ga) (e : PyData) (acc : List PyData) (c : Nat) (Q : List PyData → Nat → Prop) => wTg tg2 e (wipeG Γ1 ow2) fun Γ2 => wc2 Γ2 c fun b c2 => match b with
        | true => we Γ2 c2 fun z c3 => dz z fun x => acc.length < sizeLine ∧ Q (acc ++ [x]) c3
        | false => Q acc c2) = F1
  have eF1 : ∀ Γ1 e acc c Q, F1 Γ1 e acc c Q = (wTg tg2 e (wipeG Γ1 ow2) fun Γ2 => wc2 Γ2 c fun b c2 => match b with
        | true => we Γ2 c2 fun z c3 => dz z fun x => acc.length < sizeLine ∧ Q (acc ++ [x]) c3
        | false => Q acc c2) := fun Γ1 e acc c Q => by rw [← hF1]
  have q1 : lcA (fun d acc c Q => wTg tg d (clnG (wipeG Γ ow)) fun Γ1 => wc Γ1 c fun b c2 => match b with
      | true => wi2 Γ1 c2 fun es c3 => lcA (F1 Γ1) es acc c3 Q
      | false => Q acc c2) ds [] c1 fun rs c2 => Q (.d (.list rs)) c2 := by rw [← hF1]; exact q1
  generalize hF : (fun (d : PyData) (acc : List PyData) (c : Nat) (Q : List PyData → Nat → Prop) => wTg tg d (clnG (wipeG Γ ow)) fun Γ1 => wc Γ1 c fun b c2 => match b with
      | true => wi2 Γ1 c2 fun es c3 => lcA (F1 Γ1) es acc c3 Q
      | false => Q acc c2) = F at q1
  have eF : ∀ d acc c Q, F d acc c Q = (wTg tg d (clnG (wipeG Γ ow)) fun Γ1 => wc Γ1 c fun b c2 => match b with
      | true => wi2 Γ1 c2 fun es c3 => lcA (F1 Γ1) es acc c3 Q
      | false => Q acc c2) := fun d acc c Q => by rw [← hF]
  let St : List PyData → Hp → (List PyData → Nat → Prop) → Prop := fun _ _ _ => True
  refine ⟨fun i m H => m = ds.length - i ∧ i ≤ ds.length ∧ ∃ P G c acc accD, Stp P1 G1 H1 P G H ∧ Wd P G H c ∧ Ob P G H D (.lst acc) ∧ DqAll K G acc accD ∧ lcA F (ds.drop i) accD c fun rs c2 => Q (.d (.list rs)) c2,
    ⟨ds.length, by simp, Nat.zero_le _, P1, G1, c1, [], [], Stp.newH w1 hD, w1.newH hD (Nat.zero_le _), Ob.new w1 hD, .nil, q1⟩, ?_⟩
  rintro i m H2 ⟨rfl, hle, P2, G2, c2, acc, accD, s2, w2, ob, da, q2⟩
  by_cases hlt : i < ds.length
  · refine .inr ⟨wk.go i P2 G2 H2 c2 s2.gg w2 hlt, fun H' => ∃ P G c acc accD, Stp P1 G1 H1 P G H' ∧ Wd P G H' c ∧ Ob P G H' D (.lst acc) ∧ DqAll K G acc accD ∧ lcA F (ds.drop (i + 1)) accD c fun rs c2 => Q (.d (.list rs)) c2,
      fun H' h => ⟨ds.length - (i + 1), by omega, rfl, hlt, h⟩, fun x H3 hy => ?_⟩
    obtain ⟨G3, d, s3, w3, ed, hd⟩ := wk.yld i P2 G2 H2 c2 x H3 s2.gg w2 hlt hy
    rw [drop_cons ed] at q2
    have q2 : F d accD c2 fun acc1 c1 => lcA F (ds.drop (i + 1)) acc1 c1 fun rs c2 => Q (.d (.list rs)) c2 := q2
    rw [eF] at q2
    have s13 := s2.trans s3
    refine hg B (wipe σ ow) P2 G3 H3 (clnG (wipeG Γ ow)) c2 x d _ _ ((a1.step s13 w3).wipe ow).cln hd q2 fun σ4 Γ4 P4 G4 H4 s4 a4 ch nn q4 => ⟨ch.wipe hs, ?_⟩
    have no4 := nn (noOwn_cln _)
    refine ht B σ4 P4 G4 H4 Γ4 c2 _ _ a4 q4 fun b P5 G5 H5 c5 s5 w5 q5 => ?_
    have s15 := (s13.trans s4).trans s5
    have ob5 := ((ob.step s3).step s4).step s5
    have da5 := dpa_mono s5.gg _ _ (dpa_mono s4.gg _ _ (dpa_mono s3.gg _ _ da))
    have a5 := a4.step s5 w5
    cases b with
    | false => exact iteF ⟨P5, G5, c5, acc, accD, s15, w5, ob5, da5, q5⟩
    | true =>
      refine iteT (hi2 B σ4 P5 G5 H5 Γ4 c5 _ _ a5 q5 fun J1 P6 G6 H6 c6 es s6 w6 wk6 q6 => ?_)
      have a6 := a5.step s6 w6
      have s16 := s15.trans s6
      refine ⟨fun j l H => l = es.length - j ∧ j ≤ es.length ∧ ∃ P G c acc accD, Stp P1 G1 H1 P G H ∧ (∀ a o, G6 a = some o → G a = some o) ∧ (∀ a, P6 a → P a) ∧ Wd P G H c ∧ Ob P G H D (.lst acc) ∧ DqAll K G acc accD ∧
        lcA (F1 Γ4) (es.drop j) accD c fun acc1 c1 => lcA F (ds.drop (i + 1)) acc1 c1 fun rs c2 => Q (.d (.list rs)) c2,
        ⟨es.length, by simp, Nat.zero_le _, P6, G6, c6, acc, accD, s16, fun _ _ h => h, fun _ h => h, w6, ob5.step s6, dpa_mono s6.gg _ _ da5, q6⟩, ?_⟩
      rintro j l H7 ⟨rfl, hjl, P7, G7, c7, acc7, accD7, s17, g7, p7, w7, ob7, da7, q7⟩
      by_cases hj : j < es.length
      · refine .inr ⟨wk6.go j P7 G7 H7 c7 g7 w7 hj, fun H' => ∃ P G c acc accD, Stp P1 G1 H1 P G H' ∧ (∀ a o, G6 a = some o → G a = some o) ∧ (∀ a, P6 a → P a) ∧ Wd P G H' c ∧ Ob P G H' D (.lst acc) ∧ DqAll K G acc accD ∧
          lcA (F1 Γ4) (es.drop (j + 1)) accD c fun acc1 c1 => lcA F (ds.drop (i + 1)) acc1 c1 fun rs c2 => Q (.d (.list rs)) c2, fun H' h => ⟨es.length - (j + 1), by omega, rfl, hj, h⟩, fun y H8 hy => ?_⟩
        obtain ⟨G8, e, s8, w8, ee, he8⟩ := wk6.yld j P7 G7 H7 c7 y H8 g7 w7 hj hy
        rw [drop_cons ee] at q7
        have q7 : F1 Γ4 e accD7 c7 fun acc1 c1 => lcA (F1 Γ4) (es.drop (j + 1)) acc1 c1 fun acc1 c1 => lcA F (ds.drop (i + 1)) acc1 c1 fun rs c2 => Q (.d (.list rs)) c2 := q7
        rw [eF1] at q7
        have s18 := s17.trans s8
        have a8 : As K B P7 G8 H8 c7 Γ4 σ4 := a6.move no4 p7 (fun x o h => s8.gg x o (g7 x o h)) (a1.st.trans s18) w8
        refine hg2 B (wipe σ4 ow2) P7 G8 H8 (wipeG Γ4 ow2) c7 y e _ _ (a8.wipe ow2) he8 q7 fun σ9 Γ9 P9 G9 H9 s9 a9 ch9 nn9 q9 => ⟨ch9.wipe hs2, ?_⟩
        refine ht2 B σ9 P9 G9 H9 Γ9 c7 _ _ a9 q9 fun b P10 G10 H10 c10 s10 w10 q10 => ?_
        have s110 := (s18.trans s9).trans s10
        have ob10 := ((ob7.step s8).step s9).step s10
        have da10 := dpa_mono s10.gg _ _ (dpa_mono s9.gg _ _ (dpa_mono s8.gg _ _ da7))
        have gg10 : ∀ a o, G6 a = some o → G10 a = some o := fun x o h => s10.gg _ _ (s9.gg _ _ (s8.gg _ _ (g7 _ _ h)))
        have pp10 : ∀ a, P6 a → P10 a := fun x h => s10.pp _ (s9.pp _ (s8.pp _ (p7 _ h)))
        cases b with
        | false => exact iteF ⟨P10, G10, c10, acc7, accD7, s110, gg10, pp10, w10, ob10, da10, q10⟩
        | true =>
          refine iteT (he B σ9 P10 G10 H10 Γ9 c10 _ _ (a9.step s10 w10) q10 fun v P11 G11 H11 c11 z s11 w11 r11 q11 => ?_)
          obtain ⟨x11, rfl, hl, q11⟩ := dz_of q11
          have ob11 := ob10.step s11
          have da11 := dpa_mono s11.gg _ _ da10
          have hl' : acc7.length < sizeLine := by rw [da11.length]; exact hl
          exact ⟨acc7, ob11.h, hl', P11, G11, c11, acc7 ++ [v], accD7 ++ [x11], (s110.trans s11).chg hD ob11, fun x o h => s11.gg _ _ (gg10 _ _ h), fun x h => s11.pp _ (pp10 _ h),
            w11.chg ob11 (by show (acc7 ++ [v]).length ≤ _; rw [List.length_append]; exact hl'), ob11.chg, da11.append (.cons r11 .nil), q11⟩
      · have e : j = es.length := by omega
        subst e
        rw [List.drop_length] at q7
        exact .inl ⟨wk6.stop P7 G7 H7 c7 g7 w7, P7, G7, c7, acc7, accD7, s17, w7, ob7, da7, q7⟩
  · have e : i = ds.length := by omega
    subst e
    refine .inl ⟨wk.stop P2 G2 H2 c2 s2.gg w2, ?_⟩
    rw [List.drop_length] at q2
    have s3 := s2.still hD ob
    exact k (.ref D) P2 (upd G2 D (.lst acc)) H2 c2 (.d (.list accD)) (s1.trans s3) (w2.still ob) (show Dq K _ _ _ from .lst upd_same (dpa_mono (fun b u h => by
      have n : b ≠ D := fun z => by rw [z, ob.g] at h; cases h
      rw [upd_ne n]; exact h) _ _ da)) q2
end
end Z
/-! Z11 -/
set_option maxRecDepth 100000
/-! statements -/
namespace Z
open PySem PySem.Spec PyProof.Rows L2
abbrev WS := Ga → Nat → Rt → Prop
/-- what is wanted behind, by data and by the heap -/
structure En (K : PySem.W.Frag) (B : Bs) (P0 : Addr → Prop) (G0 : Hp) (R : Rt) (D : Ends) : Prop where
  nx : ∀ σ P G H c Γ, (∀ a o, G0 a = some o → G a = some o) → (∀ a, P0 a → P a) → As K B P G H c Γ σ → R.nx Γ c → D.nx σ H
  rt : ∀ v P G H c z, Stp B.P B.G B.H P G H → Wd P G H c → ZV K P G z v → R.rt z c → D.rt v H
  bk : ∀ σ P G H c Γ, (∀ a o, G0 a = some o → G a = some o) → (∀ a, P0 a → P a) → As K B P G H c Γ σ → R.bk Γ c → D.bk σ H
  ct : ∀ σ P G H c Γ, (∀ a o, G0 a = some o → G a = some o) → (∀ a, P0 a → P a) → As K B P G H c Γ σ → R.ct Γ c → D.ct σ H
def ImpS (K : PySem.W.Frag) (w : WS) (t : TS) : Prop :=
  ∀ (B : Bs) (σ : L2.St) (P : Addr → Prop) (G H : Hp) (Γ : Ga) (c : Nat) (R : Rt) (D : Ends), As K B P G H c Γ σ → w Γ c R → En K B P G R D → t D σ H
section
variable {K : PySem.W.Frag} {B : Bs} {P P1 : Addr → Prop} {G H G1 H1 : Hp} {c c1 : Nat} {Γ : Ga} {σ : L2.St} {R : Rt} {D : Ends}
theorem En.later (e : En K B P G R D) (gg : ∀ a o, G a = some o → G1 a = some o) (pp : ∀ a, P a → P1 a) : En K B P1 G1 R D :=
  ⟨fun σ P' G' H' c Γ g p => e.nx σ P' G' H' c Γ (fun a o h => g a o (gg a o h)) (fun a h => p a (pp a h)), e.rt,
   fun σ P' G' H' c Γ g p => e.bk σ P' G' H' c Γ (fun a o h => g a o (gg a o h)) (fun a h => p a (pp a h)),
   fun σ P' G' H' c Γ g p => e.ct σ P' G' H' c Γ (fun a o h => g a o (gg a o h)) (fun a h => p a (pp a h))⟩
theorem cln1 {z : Zv} {Q : List Zv → Prop} {H0 : Hp} {v : V} (r : ZR K P G H H0 z v) (h : cln [z] Q) : Q [z] ∧ ZV K P G z v := by
  cases z with
  | d x => exact ⟨h, r⟩
  | pot => exact ⟨h, r⟩
  | scr x => exact ⟨h, r⟩
  | own x => exact h.elim
theorem ZV.notOwn {z : Zv} {v : V} (h : ZV K P G z v) : ∀ xs, z ≠ .own xs := fun xs e => by subst e; exact h
/-- name = e -/
theorem impS_asgN {we : WE} {te : TE} (i : Nat) (he : Imp K we te) : ImpS K (fun Γ c R => we Γ c fun z c1 => cln [z] fun _ => R.nx (putZ Γ i z) c1) (tAsg te (gName i)) := fun B σ P G H Γ c R D a w k => by
  refine he B σ P G H Γ c _ _ a w fun v P1 G1 H1 c1 z s1 w1 r1 q1 => ?_
  obtain ⟨q, hv⟩ := cln1 r1 q1
  exact k.nx _ P1 G1 H1 c1 _ s1.gg s1.pp ((a.step s1 w1).set r1 fun xs e => absurd e (hv.notOwn xs)) q
theorem impS_asgT {we : WE} {te : TE} {tg : Tg} {g : TG} (he : Imp K we te) (hg : ImpG K (tgS tg) (wTg tg) g) : ImpS K (fun Γ c R => we Γ c fun z c1 => dz z fun x => wTg tg x Γ fun Γ1 => R.nx Γ1 c1) (tAsg te g) := fun B σ P G H Γ c R D a w k => by
  refine he B σ P G H Γ c _ _ a w fun v P1 G1 H1 c1 z s1 w1 r1 q1 => ?_
  obtain ⟨x, rfl, q⟩ := dz_of q1
  exact hg B σ P1 G1 H1 Γ c1 v x _ _ (a.step s1 w1) r1 q fun σ2 Γ2 P2 G2 H2 s2 a2 _ _ q2 => k.nx σ2 P2 G2 H2 c1 Γ2 (fun x o h => s2.gg _ _ (s1.gg _ _ h)) (fun x h => s2.pp _ (s1.pp _ h)) a2 q2
/-- a, b = e, f -/
theorem impS_par2 {i j : Nat} {w : WA} {t : TA} (ht : ImpA K w t) (h2 : ∀ Γ c Q, w Γ c Q → w Γ c fun zs c1 => zs.length = 2 ∧ Q zs c1) : ImpS K (fun Γ c R => w Γ c fun zs c1 => cln zs fun zs => R.nx (putZs Γ [i, j] zs) c1) (tPar i j t) := fun B σ P G H Γ c R D a w' k => by
  refine ht B σ P G H Γ c _ _ a (h2 _ _ _ w') fun vs P1 G1 H1 c1 zs s1 w1 r1 q1 => ?_
  obtain ⟨hl, q1⟩ := q1
  obtain ⟨q, hz⟩ := cln_of r1 q1
  match zs, hl, hz, q with
  | [z1, z2], _, .cons h1 (.cons h2 .nil), q =>
    have a1 := a.step s1 w1
    refine ⟨_, _, rfl, k.nx _ P1 G1 H1 c1 _ s1.gg s1.pp ((a1.set h1.zr fun xs e => absurd e (h1.notOwn xs)).set h2.zr fun xs e => absurd e (h2.notOwn xs)) q⟩
/-- name += e -/
theorem impS_aug {we : WE} {te : TE} (i : Nat) (op : Operator) (he : Imp K we te) (f : Int → Int → Int) (g : Int → Int → Rt → Ga → Nat → Prop) (hg : ∀ x y R Γ c, g x y R Γ c → R.nx (putZ Γ i (.d (.int (f x y)))) c) :
    ImpS K (fun Γ c R => match get Γ i with
      | some (.d (.int a)) => we Γ c fun z c1 => dv z fun y => match y with
        | .int b => g a b R Γ c1
        | _ => False
      | _ => False) (tAug i te (ipI f)) := fun B σ P G H Γ c R D a w k => by
  have w : (match get Γ i with
      | some (.d (.int a)) => we Γ c fun z c1 => dv z fun y => match y with
        | .int b => g a b R Γ c1
        | _ => False
      | _ => False) := w
  split at w
  · rename_i x e
    obtain ⟨v, e1, r⟩ := a.sl i _ e
    cases (show Dq K G v (.int x) from r)
    refine ⟨_, e1, he B σ P G H Γ c _ _ a w fun u P1 G1 H1 c1 z s1 w1 r1 q1 => ?_⟩
    obtain ⟨y, ey, q⟩ := dv_of q1
    cases y with
    | int j =>
      refine ⟨x, j, rfl, zr_int w1 r1 ey, k.nx _ P1 G1 H1 c1 _ s1.gg s1.pp ((a.step s1 w1).set (z := .d (.int (f x j))) (Dq.int _) fun xs e => by cases e) (hg _ _ _ _ _ q)⟩
    | _ => exact q.elim
  · exact w.elim
/-- return e -/
theorem still_ret {z : Zv} {v : V} (s : Stp B.P B.G B.H P G H) (w : Wd P G H c) (r : ZR K P G H B.H z v) : ∃ G1, Stp B.P B.G B.H P G1 H ∧ Wd P G1 H c ∧ ZV K P G1 (stl z) v := by
  cases z with
  | d x => exact ⟨G, s, w, r⟩
  | pot => exact ⟨G, s, w, r⟩
  | scr x => exact ⟨G, s, w, r⟩
  | own xs =>
    obtain ⟨a, vs, rfl, n, o, d⟩ := r
    refine ⟨upd G a (.lst vs), s.still n o, w.still o, (show Dq K _ _ _ from .lst upd_same (dpa_mono (fun b u h => ?_) _ _ d))⟩
    have ne : b ≠ a := fun z => by rw [z, o.g] at h; cases h
    rw [upd_ne ne]; exact h
theorem impS_ret {we : WE} {te : TE} (he : Imp K we te) : ImpS K (fun Γ c R => we Γ c fun z c1 => R.rt (stl z) c1) (tRet te) := fun B σ P G H Γ c R D a w k => by
  refine he B σ P G H Γ c _ _ a w fun v P1 G1 H1 c1 z s1 w1 r1 q1 => ?_
  obtain ⟨G2, s2, w2, r2⟩ := still_ret (a.st.trans s1) w1 r1
  exact k.rt v P1 G2 H1 c1 (stl z) s2 w2 r2 q1
theorem impS_retN : ImpS K (fun Γ c R => R.rt (.d .none) c) tRetN := fun B σ P G H Γ c R D a w k => k.rt .non P G H c (.d .none) a.st a.wd (show Dq K G .non .none from .non) w
theorem impS_pass : ImpS K (fun Γ c R => R.nx Γ c) tNext := fun B σ P G H Γ c R D a w k => k.nx σ P G H c Γ (fun _ _ h => h) (fun _ h => h) a w
theorem impS_brk : ImpS K (fun Γ c R => R.bk Γ c) tBreak := fun B σ P G H Γ c R D a w k => k.bk σ P G H c Γ (fun _ _ h => h) (fun _ h => h) a w
theorem impS_cont : ImpS K (fun Γ c R => R.ct Γ c) tCont := fun B σ P G H Γ c R D a w k => k.ct σ P G H c Γ (fun _ _ h => h) (fun _ h => h) a w
theorem impS_seq {w1 w2 : WS} {t1 t2 : TS} (h1 : ImpS K w1 t1) (h2 : ImpS K w2 t2) : ImpS K (fun Γ c R => w1 Γ c { R with nx := fun Γ1 c1 => w2 Γ1 c1 R }) (tSeq t1 t2) := fun B σ P G H Γ c R D a w k =>
  h1 B σ P G H Γ c _ _ a w ⟨fun σ1 P1 G1 H1 c1 Γ1 gg pp a1 q => h2 B σ1 P1 G1 H1 Γ1 c1 R D a1 q (k.later gg pp), k.rt, k.bk, k.ct⟩
theorem impS_ite {wt : WT} {tt : TT} {w1 w2 : WS} {t1 t2 : TS} (ht : ImpT K wt tt) (h1 : ImpS K w1 t1) (h2 : ImpS K w2 t2) :
    ImpS K (fun Γ c R => wt Γ c fun x c1 => match x with | true => w1 Γ c1 R | false => w2 Γ c1 R) (tIfS tt t1 t2) := fun B σ P G H Γ c R D a w k => by
  refine ht B σ P G H Γ c _ _ a w fun b P1 G1 H1 c1 s1 w1' q1 => ?_
  cases b with
  | true => exact iteT (h1 B σ P1 G1 H1 Γ c1 R D (a.step s1 w1') q1 (k.later s1.gg s1.pp))
  | false => exact iteF (h2 B σ P1 G1 H1 Γ c1 R D (a.step s1 w1') q1 (k.later s1.gg s1.pp))
/-- for -/
theorem impS_for {wi : WI} {ti : TI} {tg : Tg} {g : TG} {wb : WS} {tb : TS} (hi : ImpI K wi ti) (hg : ImpG K (tgS tg) (wTg tg) g) (hb : ImpS K wb tb) :
    ImpS K (fun Γ c R => wi Γ c fun ds c1 => forW (fun d Γ c R => wTg tg d Γ fun Γ1 => wb Γ1 c R) ds Γ c1 R) (tFor ti g tb) := fun B σ P G H Γ c R D a w k => by
  refine hi B σ P G H Γ c _ _ a w fun J P1 G1 H1 c1 ds s1 w1 wk q1 => ?_
  refine ⟨fun i m σ H => m = ds.length - i ∧ i ≤ ds.length ∧ ∃ P' G' c' Γ', (∀ a o, G1 a = some o → G' a = some o) ∧ (∀ a, P1 a → P' a) ∧ As K B P' G' H c' Γ' σ ∧ forW (fun d Γ c R => wTg tg d Γ fun Γ1 => wb Γ1 c R) (ds.drop i) Γ' c' R,
    ⟨ds.length, by simp, Nat.zero_le _, P1, G1, c1, Γ, fun _ _ h => h, fun _ h => h, a.step s1 w1, q1⟩, ?_⟩
  rintro i m σ2 H2 ⟨rfl, hle, P2, G2, c2, Γ2, g2, p2, a2, q2⟩
  by_cases hlt : i < ds.length
  · refine .inr ⟨wk.go i P2 G2 H2 c2 g2 a2.wd hlt, fun σ' H' => ∃ P' G' c' Γ', (∀ a o, G1 a = some o → G' a = some o) ∧ (∀ a, P1 a → P' a) ∧ As K B P' G' H' c' Γ' σ' ∧ forW (fun d Γ c R => wTg tg d Γ fun Γ1 => wb Γ1 c R) (ds.drop (i + 1)) Γ' c' R,
      fun σ' H' h => ⟨ds.length - (i + 1), by omega, rfl, hlt, h⟩, fun x H3 hy => ?_⟩
    obtain ⟨G3, d, s3, w3, ed, hd⟩ := wk.yld i P2 G2 H2 c2 x H3 g2 a2.wd hlt hy
    rw [drop_cons ed] at q2
    have a3 := a2.step s3 w3
    refine hg B σ2 P2 G3 H3 Γ2 c2 x d _ _ a3 hd q2 fun σ4 Γ4 P4 G4 H4 s4 a4 _ _ q4 => ?_
    have g4 : ∀ a o, G1 a = some o → G4 a = some o := fun x o h => s4.gg _ _ (s3.gg _ _ (g2 _ _ h))
    have p4 : ∀ a, P1 a → P4 a := fun x h => s4.pp _ (s3.pp _ (p2 _ h))
    refine hb B σ4 P4 G4 H4 Γ4 c2 _ _ a4 q4 ⟨fun σ5 P5 G5 H5 c5 Γ5 g5 p5 a5 q5 => ?_, k.rt, fun σ5 P5 G5 H5 c5 Γ5 g5 p5 a5 q5 => ?_, fun σ5 P5 G5 H5 c5 Γ5 g5 p5 a5 q5 => ?_⟩
    · exact ⟨P5, G5, c5, Γ5, fun x o h => g5 _ _ (g4 _ _ h), fun x h => p5 _ (p4 _ h), a5, q5⟩
    · exact k.nx σ5 P5 G5 H5 c5 Γ5 (fun x o h => g5 _ _ (g4 _ _ (s1.gg _ _ h))) (fun x h => p5 _ (p4 _ (s1.pp _ h))) a5 q5
    · exact ⟨P5, G5, c5, Γ5, fun x o h => g5 _ _ (g4 _ _ h), fun x h => p5 _ (p4 _ h), a5, q5⟩
  · have e : i = ds.length := by omega
    subst e
    rw [List.drop_length] at q2
    exact .inl ⟨wk.stop P2 G2 H2 c2 g2 a2.wd, k.nx σ2 P2 G2 H2 c2 Γ2 (fun x o h => g2 _ _ (s1.gg _ _ h)) (fun x h => p2 _ (s1.pp _ h)) a2 q2⟩
/-- an owned list is given free -/
theorem As.frz {i : Nat} {xs : List PyData} (a : As K B P G H c Γ σ) (e : get Γ i = some (.own xs)) : ∃ G1, (∀ a o, G a = some o → G1 a = some o) ∧ As K B P G1 H c (putZ Γ i (.d (.list xs))) σ := by
  obtain ⟨v, ev, b, vs, rfl, n, o, d⟩ := a.sl i _ e
  have gg : ∀ x u, G x = some u → upd G b (.lst vs) x = some u := fun x u h => by
    have ne : x ≠ b := fun z => by rw [z, o.g] at h; cases h
    rw [upd_ne ne]; exact h
  have hl := get_lt e
  refine ⟨upd G b (.lst vs), gg, a.st.still n o, a.wd.still o, fun j z hj => ?_, by unfold putZ; rw [put_len]; exact a.ln, fun j k ys zs hjk h1 h2 => ?_⟩
  · unfold putZ at hj
    rw [get_put] at hj
    split at hj
    · rename_i hc
      cases hj
      rw [← hc.1]
      exact ⟨_, ev, (show Dq K _ _ _ from .lst upd_same (dpa_mono gg _ _ d))⟩
    · rename_i hc
      have nij : i ≠ j := fun q => hc ⟨q, hl⟩
      obtain ⟨u, eu, r⟩ := a.sl j z hj
      refine ⟨u, eu, ?_⟩
      match z, r, hj with
      | .d x, r, _ => exact dp_mono gg _ _ r
      | .pot, r, _ => exact r
      | .scr ns, ⟨b', e1, hb⟩, _ => exact ⟨b', e1, sql_mono gg hb⟩
      | .own ys, ⟨b', us, e1, n', o', d'⟩, hj =>
        subst e1
        have ne : b' ≠ b := fun q => by
          have := a.dj i j xs ys nij e hj
          rw [ev, eu, q] at this
          exact this rfl
        exact ⟨b', us, rfl, n', ⟨by rw [upd_ne ne]; exact o'.g, o'.p, o'.h⟩, dpa_mono gg _ _ d'⟩
  · unfold putZ at h1 h2
    rw [get_put] at h1 h2
    split at h1 <;> first | cases h1 | skip
    split at h2 <;> first | cases h2 | skip
    exact a.dj j k ys zs hjk h1 h2
theorem impS_frz {w : WS} {t : TS} (i : Nat) (h : ImpS K w t) : ImpS K (fun Γ c R => match get Γ i with | some (.own xs) => w (putZ Γ i (.d (.list xs))) c R | _ => w Γ c R) t := fun B σ P G H Γ c R D a w' k => by
  have w' : (match get Γ i with | some (.own xs) => w (putZ Γ i (.d (.list xs))) c R | _ => w Γ c R) := w'
  split at w'
  · rename_i xs e
    obtain ⟨G1, gg, a1⟩ := a.frz e
    exact h B σ P G1 H _ c R D a1 w' (k.later gg fun _ h => h)
  · exact h B σ P G H Γ c R D a w' k
/-- an owned list changes -/
theorem As.own_chg {i : Nat} {b : Addr} {vs us : List V} {ys : List PyData} (a : As K B P G H c Γ σ) (hl : i < Γ.length) (ev : σ[i]? = some (some (.ref b))) (n : B.H b = none) (o : Ob P G H b (.lst vs)) (d : DqAll K G us ys) (z : us.length ≤ sizeLine)
    (hd : ∀ j xs, j ≠ i → get Γ j = some (.own xs) → σ[j]? ≠ some (some (.ref b))) : As K B P G (upd H b (.lst us)) c (putZ Γ i (.own ys)) σ := by
  refine ⟨a.st.chg n o, a.wd.chg o z, fun j w hj => ?_, by unfold putZ; rw [put_len]; exact a.ln, fun j k xs zs hjk h1 h2 => ?_⟩
  · unfold putZ at hj
    rw [get_put] at hj
    split at hj
    · rename_i hc
      cases hj
      rw [← hc.1]
      exact ⟨_, ev, b, us, rfl, n, o.chg, d⟩
    · rename_i hc
      have nij : j ≠ i := fun q => hc ⟨q.symm, hl⟩
      obtain ⟨u, eu, r⟩ := a.sl j w hj
      refine ⟨u, eu, ?_⟩
      match w, r, hj with
      | .d x, r, _ => exact r
      | .pot, r, _ => exact r
      | .scr ns, r, _ => exact r
      | .own xs, ⟨b', vs', e1, n', o', d'⟩, hj =>
        subst e1
        have ne : b' ≠ b := fun q => hd j xs nij hj (by rw [eu, q])
        exact ⟨b', vs', rfl, n', ⟨o'.g, o'.p, by rw [upd_ne ne]; exact o'.h⟩, d'⟩
  · unfold putZ at h1 h2
    rw [get_put] at h1 h2
    by_cases ej : i = j
    · subst ej
      by_cases ek : i = k
      · exact absurd ek hjk
      · rw [if_neg (fun q => ek q.1)] at h2
        rw [ev]
        exact Ne.symm (hd k zs (Ne.symm ek) h2)
    · rw [if_neg (fun q => ej q.1)] at h1
      by_cases ek : i = k
      · subst ek
        rw [ev]
        exact hd j xs (Ne.symm ej) h1
      · rw [if_neg (fun q => ek q.1)] at h2
        exact a.dj j k xs zs hjk h1 h2
/-- xs.append(e) -/
theorem impS_app {we : WE} {te : TE} (i : Nat) (he : Imp K we te) : ImpS K (fun Γ c R => match get Γ i with
    | some (.own xs) => we Γ c fun z c1 => dz z fun y => xs.length < sizeLine ∧ R.nx (putZ Γ i (.own (xs ++ [y]))) c1
    | _ => False) (tDrop (tBM K "list" rAppend (tVar i) (tCons te tNil))) := fun B σ P G H Γ c R D a w k => by
  have w : (match get Γ i with
    | some (.own xs) => we Γ c fun z c1 => dz z fun y => xs.length < sizeLine ∧ R.nx (putZ Γ i (.own (xs ++ [y]))) c1
    | _ => False) := w
  split at w
  · rename_i xs e
    obtain ⟨v, ev, b, vs, rfl, n, o, d⟩ := a.sl i _ e
    refine ⟨.ref b, ev, .inl ⟨rfl, vs, .inl (.inl o.h)⟩, ?_⟩
    refine he B σ P G H Γ c _ _ a w fun u P1 G1 H1 c1 z s1 w1 r1 q1 => ?_
    obtain ⟨y, rfl, hz, q⟩ := dz_of q1
    have o1 := o.step s1
    have a1 := a.step s1 w1
    have d1 := dpa_mono s1.gg _ _ d
    have hl : vs.length < sizeLine := by rw [d1.length]; exact hz
    refine ⟨b, vs, u, rfl, rfl, o1.h, hl, ?_⟩
    refine k.nx σ P1 G1 _ c1 _ s1.gg s1.pp (a1.own_chg (get_lt e) ev n o1 (d1.append (.cons r1 .nil)) (by rw [List.length_append]; exact hl) fun j ys nj hj => ?_) q
    rw [← ev]
    exact a.dj j i ys xs nj hj e
  · exact w.elim
/-- xs.extend(e) -/
theorem impS_ext {we : WE} {te : TE} (i : Nat) (he : Imp K we te) : ImpS K (fun Γ c R => match get Γ i with
    | some (.own xs) => we Γ c fun z c1 => dz z fun y => match y with
      | .list ys => xs.length + ys.length ≤ sizeLine ∧ R.nx (putZ Γ i (.own (xs ++ ys))) c1
      | _ => False
    | _ => False) (tDrop (tBM K "list" rExtend (tVar i) (tCons te tNil))) := fun B σ P G H Γ c R D a w k => by
  have w : (match get Γ i with
    | some (.own xs) => we Γ c fun z c1 => dz z fun y => match y with
      | .list ys => xs.length + ys.length ≤ sizeLine ∧ R.nx (putZ Γ i (.own (xs ++ ys))) c1
      | _ => False
    | _ => False) := w
  split at w
  · rename_i xs e
    obtain ⟨v, ev, b, vs, rfl, n, o, d⟩ := a.sl i _ e
    refine ⟨.ref b, ev, .inl ⟨rfl, vs, .inl (.inl o.h)⟩, ?_⟩
    refine he B σ P G H Γ c _ _ a w fun u P1 G1 H1 c1 z s1 w1 r1 q1 => ?_
    obtain ⟨y, rfl, q⟩ := dz_of q1
    cases y with
    | list ys =>
      obtain ⟨hz, q⟩ := q
      cases (show Dq K G1 u (.list ys) from r1) with
      | @lst p us _ hp du =>
        have o1 := o.step s1
        have a1 := a.step s1 w1
        have d1 := dpa_mono s1.gg _ _ d
        have l1 := d1.length
        have l2 := du.length
        refine ⟨b, p, vs, us, rfl, rfl, o1.h, w1.gh _ _ hp, by omega, ?_⟩
        refine k.nx σ P1 G1 _ c1 _ s1.gg s1.pp (a1.own_chg (get_lt e) ev n o1 (d1.append du) (by rw [List.length_append]; omega) fun j zs nj hj => ?_) q
        rw [← ev]
        exact a.dj j i zs xs nj hj e
    | _ => exact q.elim
  · exact w.elim
/-- xs = [..], a list of one's own -/
theorem impS_new {w : WA} {t : TA} (i : Nat) (ht : ImpA K w t) : ImpS K (fun Γ c R => w Γ c fun zs c1 => dzs zs fun ds => ds.length ≤ sizeLine ∧ R.nx (putZ Γ i (.own ds)) c1) (tAsg (tLst t) (gName i)) := fun B σ P G H Γ c R D a w' k => by
  refine ht B σ P G H Γ c _ _ a w' fun vs P1 G1 H1 c1 zs s1 w1 r1 q1 => ?_
  obtain ⟨ds, rfl, hd, hz, q⟩ := dzs_of r1 q1
  have hz' : vs.length ≤ sizeLine := by rw [hd.length]; exact hz
  refine ⟨hz', fun p hp => ?_⟩
  have s2 := Stp.newH (o := .lst vs) w1 hp
  have w2 := w1.newH (o := .lst vs) hp hz'
  have a2 := (a.step s1 w1).step s2 w2
  have nB : B.H p = none := by
    cases q : B.H p with
    | none => rfl
    | some o => exact absurd hp ((a.st.trans s1).th p (by rw [q]; simp))
  refine k.nx _ P1 G1 _ c1 _ s1.gg s1.pp (a2.set (z := .own ds) ⟨p, vs, rfl, nB, Ob.new w1 hp, hd⟩ fun xs e j ys nj hj => ?_) q
  intro es
  obtain ⟨v, ev, b, us, rfl, _, o, _⟩ := (a.step s1 w1).sl j _ hj
  rw [ev] at es
  have e2 : b = p := by injection es with e1; injection e1 with e3; injection e3
  rw [e2] at o
  rw [o.h] at hp
  cases hp
end
end Z
/-! Z12 -/
set_option maxRecDepth 100000
/-! the other expressions -/
namespace Z
open PySem PySem.Spec PyProof.Rows L2
section
variable {K : PySem.W.Frag} {wa wb wc : WE} {ta tb tc : TE} {w1 w2 : WT} {t1 t2 : TT}
theorem tru_of {d : PyData} {Q : Bool → Prop} (h : tru d Q) : ∃ b, truD d = some b ∧ Q b := by
  unfold tru at h
  split at h
  · rename_i b e
    exact ⟨b, e, h⟩
  · exact h.elim
theorem isEmpty_len {α β : Type} {xs : List α} {ys : List β} (h : xs.length = ys.length) : xs.isEmpty = ys.isEmpty := by
  cases xs <;> cases ys <;> simp at h ⊢
theorem truV_of {P : Addr → Prop} {G H H0 : Hp} {c : Nat} {z : Zv} {v : V} {x : PyData} {b : Bool} (w : Wd P G H c) (r : ZR K P G H H0 z v) (e : dv? z = some x) (t : truD x = some b) : TruV K v H b := by
  have lk := r.look w e
  cases x with
  | none => rw [dq_none (lk fun _ e => by cases e)]; cases t; rfl
  | bool k => rw [dq_bool (lk fun _ e => by cases e)]; cases t; rfl
  | int i => rw [zr_int w r e]; cases t; rfl
  | str s => cases t
  | list xs =>
    obtain ⟨a, vs, rfl, hv, d⟩ := r.lst w e
    cases t
    exact .inl ⟨vs, hv, by rw [isEmpty_len d.length]⟩
  | tuple xs =>
    obtain ⟨a, vs, rfl, hv, _, d⟩ := r.tup w e
    cases t
    exact .inr (.inl ⟨vs, hv, by rw [isEmpty_len d.length]⟩)
  | dict xs => cases t
theorem imp_neg (ha : Imp K wa ta) : Imp K (wNeg wa) (tUn (rU fun i => .int (-i)) ta) := fun B σ P G H Γ c Q R a w k => by
  refine ha B σ P G H Γ c _ _ a w fun x P1 G1 H1 c1 z s1 w1 r1 q1 => ?_
  obtain ⟨d, e, q⟩ := dv_of q1
  cases d with
  | int i => exact ⟨i, zr_int w1 r1 e, k _ P1 G1 H1 c1 (.d _) s1 w1 (show Dq K _ _ _ from .int _) q⟩
  | _ => exact q.elim
theorem imp_not (ha : Imp K wa ta) : Imp K (wNot wa) (tNotT K ta) := fun B σ P G H Γ c Q R a w k => by
  refine ha B σ P G H Γ c _ _ a w fun x P1 G1 H1 c1 z s1 w1 r1 q1 => ?_
  obtain ⟨d, e, q⟩ := dv_of q1
  obtain ⟨b, eb, q⟩ := tru_of q
  exact ⟨b, truV_of w1 r1 e eb, k _ P1 G1 H1 c1 (.d _) s1 w1 (show Dq K _ _ _ from .bl _) q⟩
theorem imp_and (ha : Imp K wa ta) (hb : Imp K wb tb) : Imp K (wAnd wa wb) (tAndT K ta tb) := fun B σ P G H Γ c Q R a w k => by
  refine ha B σ P G H Γ c _ _ a w fun x P1 G1 H1 c1 z s1 w1 r1 q1 => ?_
  obtain ⟨d, rfl, q⟩ := dz_of q1
  obtain ⟨b, eb, q⟩ := tru_of q
  refine ⟨b, truV_of w1 r1 rfl eb, ?_⟩
  cases b with
  | true => exact iteT (hb B σ P1 G1 H1 Γ c1 _ _ (a.step s1 w1) q fun v P2 G2 H2 c2 z s2 w2 r2 q2 => k v P2 G2 H2 c2 z (s1.trans s2) w2 r2 q2)
  | false => exact iteF (k _ P1 G1 H1 c1 (.d d) s1 w1 r1 q)
theorem imp_or (ha : Imp K wa ta) (hb : Imp K wb tb) : Imp K (wOr wa wb) (tOrT K ta tb) := fun B σ P G H Γ c Q R a w k => by
  refine ha B σ P G H Γ c _ _ a w fun x P1 G1 H1 c1 z s1 w1 r1 q1 => ?_
  obtain ⟨d, rfl, q⟩ := dz_of q1
  obtain ⟨b, eb, q⟩ := tru_of q
  refine ⟨b, truV_of w1 r1 rfl eb, ?_⟩
  cases b with
  | false => exact iteF (hb B σ P1 G1 H1 Γ c1 _ _ (a.step s1 w1) q fun v P2 G2 H2 c2 z s2 w2 r2 q2 => k v P2 G2 H2 c2 z (s1.trans s2) w2 r2 q2)
  | true => exact iteT (k _ P1 G1 H1 c1 (.d d) s1 w1 r1 q)
/-- a test by a value's truth -/
theorem impt_tru (ha : Imp K wa ta) : ImpT K (tOf wa) (fun σ H Q => ta σ H fun x H' => ∃ k, TruV K x H' k ∧ Q k H') := fun B σ P G H Γ c Q R a w k => by
  refine ha B σ P G H Γ c _ _ a w fun x P1 G1 H1 c1 z s1 w1 r1 q1 => ?_
  obtain ⟨d, e, q⟩ := dv_of q1
  obtain ⟨b, eb, q⟩ := tru_of q
  exact ⟨b, truV_of w1 r1 e eb, k b P1 G1 H1 c1 s1 w1 q⟩
theorem imp_ite (h1 : ImpT K w1 t1) (ha : Imp K wa ta) (hb : Imp K wb tb) : Imp K (wIte w1 wa wb) (tIf t1 ta tb) := fun B σ P G H Γ c Q R a w k => by
  refine h1 B σ P G H Γ c _ _ a w fun b P1 G1 H1 c1 s1 w1' q1 => ?_
  cases b with
  | true => exact iteT (ha B σ P1 G1 H1 Γ c1 _ _ (a.step s1 w1') q1 fun v P2 G2 H2 c2 z s2 w2 r2 q2 => k v P2 G2 H2 c2 z (s1.trans s2) w2 r2 q2)
  | false => exact iteF (hb B σ P1 G1 H1 Γ c1 _ _ (a.step s1 w1') q1 fun v P2 G2 H2 c2 z s2 w2 r2 q2 => k v P2 G2 H2 c2 z (s1.trans s2) w2 r2 q2)
theorem imp_cm (op : CmpOp) (ha : Imp K wa ta) (hb : Imp K wb tb) : Imp K (wCm op wa wb) (tOp (rCmp K op) ta tb) := imp_op ha hb (opi_cmp op)
theorem imp_bi (op : Operator) (ha : Imp K wa ta) (hb : Imp K wb tb) : Imp K (wBi op wa wb) (tOp (rBin K op) ta tb) := imp_op ha hb (opi_bin op)
theorem imp_ixx (ha : Imp K wa ta) (hb : Imp K wb tb) : Imp K (wIxx wa wb) (tOp (rIxZ K) ta tb) := fun B σ P G H Γ c Q R a w k => by
  refine ha B σ P G H Γ c _ _ a w fun x P1 G1 H1 c1 zx s1 w1 r1 q1 => ?_
  refine hb B σ P1 G1 H1 Γ c1 _ _ (a.step s1 w1) q1 fun y P2 G2 H2 c2 zy s2 w2 r2 q2 => ?_
  have data : ∀ {dx : PyData}, dv? zx = some dx → (dv zy fun dy => wIx dx dy fun r => Q (.d r) c2) → rIxZ K x y H2 R := fun {dx} ex q => by
    obtain ⟨dy, ey, q⟩ := dv_of q
    exact opi_ix B P2 G2 H2 c2 zx zy x y dx dy _ R w2 (r1.mono s2) r2 ex ey q fun v P' G' H' d s3 w3 r3 q3 => k v P' G' H' c2 (.d d) ((s1.trans s2).trans s3) w3 r3 q3
  cases zx with
  | pot =>
    obtain ⟨b, rfl, hb⟩ := r1.mono s2
    obtain ⟨g, s, t, e, pb⟩ := w2.pot b hb
    obtain ⟨dy, ey, q⟩ := dv_of q2
    cases dy with
    | int j =>
      obtain ⟨v, ev, q⟩ := q g s t pb
      obtain ⟨u, eu, hu⟩ := atI_all (G := G2) (K := K) (vs := [V.int g, .int s, .int t]) (.cons (.int g) (.cons (.int s) (.cons (.int t) .nil))) ev
      exact .inl (.inl ⟨b, _, _, u, rfl, zr_int w2 r2 ey, SqL.of e, eu, k u P2 G2 H2 c2 (.d v) (s1.trans s2) w2 hu q⟩)
    | _ => exact q.elim
  | d dx => exact data rfl q2
  | own xs => exact data rfl q2
  | scr ns => exact data rfl q2
theorem wCmp_mono {op : CmpOp} {x y : PyData} {Q Q' : Bool → Prop} (h : ∀ b, Q b → Q' b) (w : wCmp op x y Q) : wCmp op x y Q' := by
  unfold wCmp at w ⊢
  split at w
  · exact ⟨w.1, h _ w.2⟩
  · exact ⟨w.1, h _ w.2⟩
  · split at w
    · exact h _ w
    · exact let ⟨b, e, q⟩ := w; ⟨b, e, h _ q⟩
    · exact w.elim
  · split at w
    · exact h _ w
    · exact w.elim
  · split at w
    · exact h _ w
    · exact w.elim
  · split at w
    · exact h _ w
    · exact w.elim
  · split at w
    · exact ⟨w.1, w.2.1, h _ w.2.2⟩
    · exact ⟨w.1, w.2.1, h _ w.2.2⟩
    · exact let ⟨k, e, q⟩ := w; ⟨k, e, h _ q⟩
    · exact w.elim
  · split at w
    · exact ⟨w.1, w.2.1, h _ w.2.2⟩
    · exact ⟨w.1, w.2.1, h _ w.2.2⟩
    · exact let ⟨k, e, q⟩ := w; ⟨k, e, h _ q⟩
    · exact w.elim
  · split at w
    · exact h _ w
    · split at w
      · exact h _ w
      · exact w.elim
    · exact w.elim
  · split at w
    · exact h _ w
    · split at w
      · exact h _ w
      · exact w.elim
    · exact w.elim
/-- a op b op' e -/
theorem imp_chn (op op' : CmpOp) (ha : Imp K wa ta) (hb : Imp K wb tb) (hc : Imp K wc tc) : Imp K (wChn op op' wa wb wc) (tChain (rCmp K op) (rCmp K op') ta tb tc) := fun B σ P G H Γ c Q R a w k => by
  refine ha B σ P G H Γ c _ _ a w fun x P1 G1 H1 c1 zx s1 w1 r1 q1 => ?_
  refine hb B σ P1 G1 H1 Γ c1 _ _ (a.step s1 w1) q1 fun y P2 G2 H2 c2 zy s2 w2 r2 q2 => ?_
  obtain ⟨dx, ex, q2⟩ := dv_of q2
  obtain ⟨dy, ey, q2⟩ := dv_of q2
  refine opi_cmp op B P2 G2 H2 c2 zx zy x y dx dy (fun d => match d with
    | .bool true => wc Γ c2 fun z c3 => dv z fun dw => wCmp op' dy dw fun r' => Q (.d (.bool r')) c3
    | .bool false => Q (.d (.bool false)) c2
    | _ => False) _ w2 (r1.mono s2) r2 ex ey ?_ fun v P3 G3 H3 d s3 w3 r3 q3 => ?_
  · exact wCmp_mono (fun b q => by cases b <;> exact q) q2
  · cases d with
    | bool b =>
      cases r3
      refine ⟨b, rfl, ?_⟩
      have s13 := (s1.trans s2).trans s3
      cases b with
      | false => exact iteF (k _ P3 G3 H3 c2 (.d _) s13 w3 (show Dq K _ _ _ from .bl _) q3)
      | true =>
        refine iteT (hc B σ P3 G3 H3 Γ c2 _ _ (a.step s13 w3) q3 fun u P4 G4 H4 c4 zu s4 w4 r4 q4 => ?_)
        obtain ⟨dw, ew, q4⟩ := dv_of q4
        exact opi_cmp op' B P4 G4 H4 c4 zy zu y u dy dw (fun d => Q (.d d) c4) _ w4 ((r2.mono s3).mono s4) r4 ey ew q4 fun v P5 G5 H5 d s5 w5 r5 q5 => k v P5 G5 H5 c4 (.d d) ((s13.trans s4).trans s5) w5 r5 q5
    | _ => exact q3.elim
theorem impt_cm (op : CmpOp) (ha : Imp K wa ta) (hb : Imp K wb tb) : ImpT K (wTCm op wa wb) (tTest (tOp (rCmp K op) ta tb)) := fun B σ P G H Γ c Q R a w k => impt_tst (imp_cm op ha hb) B σ P G H Γ c Q R a w k
end
end Z
/-! ZB -/
set_option maxRecDepth 100000
/-! sets, as they are counted and sorted at once -/
namespace Z
open PySem PySem.Spec PyProof.Rows L2
theorem ded_mem {ns : List Int} {k : Int} : k ∈ dedI ns ↔ k ∈ ns := by
  induction ns with
  | nil => simp [dedI]
  | cons x r ih =>
    unfold dedI
    split
    · rename_i h
      rw [ih, List.mem_cons]
      constructor
      · exact .inr
      · rintro (rfl | h2)
        · exact ih.mp h
        · exact h2
    · rw [List.mem_cons, List.mem_cons, ih]
theorem ded_nodup : ∀ ns : List Int, (dedI ns).Nodup
  | [] => by simp [dedI]
  | x :: r => by
    unfold dedI
    split
    · exact ded_nodup r
    · rename_i h
      exact List.nodup_cons.mpr ⟨h, ded_nodup r⟩
theorem ded_len {ns l : List Int} (hn : l.Nodup) (hm : ∀ k, k ∈ l ↔ k ∈ ns) : l.length = (dedI ns).length :=
  ((List.perm_ext_iff_of_nodup hn (ded_nodup ns)).mpr fun k => (hm k).trans ded_mem.symm).length_eq
theorem sortI_mem {ns : List Int} {k : Int} : k ∈ sortI ns ↔ k ∈ ns := (sortI_perm ns).mem_iff
/-- a rising list with these members -/
theorem ded_sorted {ns l : List Int} (hp : l.Pairwise (· < ·)) (hm : ∀ k, k ∈ l ↔ k ∈ ns) : l = sortI (dedI ns) := by
  have nd : l.Nodup := hp.imp (fun h => Int.ne_of_lt h)
  have pm : l.Perm (sortI (dedI ns)) := ((List.perm_ext_iff_of_nodup nd (ded_nodup ns)).mpr fun k => (hm k).trans ded_mem.symm).trans (sortI_perm _).symm
  exact sorted_one pm (hp.imp fun h => Int.le_of_lt h) (sortI_sorted _)
theorem first_nodup (f : Nat → Int) : ∀ i, (firstMet f i).Nodup
  | 0 => by rw [firstMet_zero]; exact List.nodup_nil
  | i + 1 => by
    rw [firstMet_succ]
    unfold step_dedup
    split
    · exact first_nodup f i
    · rename_i h
      rw [List.nodup_append]
      refine ⟨first_nodup f i, by simp, fun a ha b hb e => h ?_⟩
      rw [List.mem_singleton] at hb
      subst hb
      subst e
      exact List.any_eq_true.mpr ⟨_, ha, by simp⟩
theorem first_mem (ns : List Int) (k : Int) : k ∈ firstMet (fun i => ns.getD i 0) ns.length ↔ k ∈ ns := by
  have h := firstMet_any (fun i => ns.getD i 0) ns.length k
  have e : (List.range ns.length).map (fun i => ns.getD i 0) = ns := by
    apply List.ext_getElem?
    intro i
    rw [List.getElem?_map]
    by_cases hi : i < ns.length
    · rw [List.getElem?_range hi, List.getElem?_eq_getElem hi]
      simp [List.getD_eq_getElem?_getD, List.getElem?_eq_getElem hi]
    · rw [List.getElem?_eq_none (by simpa using hi), List.getElem?_eq_none (by omega)]
      rfl
  rw [e] at h
  have m : ∀ l : List Int, l.any (· == k) = true ↔ k ∈ l := fun l => by
    rw [List.any_eq_true]
    exact ⟨fun ⟨x, hx, e⟩ => by rw [← eq_of_beq e]; exact hx, fun h => ⟨k, h, by simp⟩⟩
  rw [← m, ← m, h]
section
variable {X : Cx} {a : Expr} {ta : TE} {p p2 q pos : Pos}
def tLenS (K : PySem.W.Frag) (ta : TE) : TE := fun σ H Q => ta σ H fun x H1 => ∃ (l : Addr) (ns : List Int), x = .ref l ∧ (SqL K H1 l (ns.map V.int) ∨ SqT K H1 l (ns.map V.int)) ∧ ns.length ≤ 4000 ∧ Q (.int (dedI ns).length) H1
theorem ded_le (ns : List Int) : (dedI ns).length ≤ ns.length := (ded_nodup ns).length_le_of_subset fun k h => ded_mem.mp h
theorem pe_lenS (hc : X.calm = true) (hg : Gl X "len") (hm : X.mg "len" = none) (hg2 : Gl X "set") (hm2 : X.mg "set" = none) (ha : PE X a ta) (na : starEach [a] X.env = (false, eval a X.env) :: starEach [] X.env) :
    PE X (.Call (.Name "len" p) [.Call (.Name "set" p2) [a] [] q] [] pos) (tLenS X.K ta) := by
  refine ⟨fun pins s σ H Q I h => ?_⟩
  refine Call_ (ld_blt I hg hm boot_len ?_)
  refine callWith_builtin1 (args_cons ?_ rfl) rfl rfl
  refine Call_ (ld_blt I hg2 hm2 boot_set ?_)
  refine callWith_type1 (args_cons (thn (ha.run pins s σ H _ I h) fun v s1 ⟨x, H1, I1, r1, q1⟩ => args_nil ?_) na) na rfl
  obtain ⟨l, ns, rfl, hq, hl, q1⟩ := q1
  cases r1
  have le := ded_le ns
  rcases hq with hq | hq
  · obtain ⟨its, r, pl, hz⟩ := I1.list hq
    have hlen : its.toArray.size = ns.length := by rw [List.size_toArray, ← r.length, List.length_map]
    refine call_set_list (I1.ok.hd hc) pl.isList (by simpa using RZ.intsAre_vals r) (by rw [hlen]; unfold scanBound; omega) fun h' tk hS hk => ?_
    refine args_nil ?_
    rw [hlen] at hS
    obtain ⟨o, es, ep, t, ho, hex, hd, _, _, _, hf, hn⟩ := hS
    have en := ded_len (first_nodup _ ns.length) (first_mem ns)
    rw [en] at hn
    have J : Inv X pins σ H1 { s1 with heap := h', toks := tk } := I1.kept fun b o e => hk b o (Heap.lt_size e) e
    exact call_len_set ho hex hd hf (by rw [hn]; omega) ⟨.int (dedI ns).length, H1, J.tok _, ⟨_, by rw [hn]⟩, q1⟩
  · obtain ⟨its, r, pl, hz⟩ := I1.tuple hq
    refine call_set_tupI ns (I1.ok.hd hc) pl (by simpa using RZ.intsAre_vals r) (by unfold scanBound; omega) fun h' tk c hS hcl hk => ?_
    refine args_nil ?_
    obtain ⟨o, es, ep, t, ho, hex, hd, _, nd, hm, _, hf, hn, _⟩ := hS
    have en : es.size = (dedI ns).length := by
      rw [← ded_len nd fun k => by rw [← hm k]; simp]
      simp
    have J : Inv X pins σ H1 { s1 with heap := h', toks := tk } := I1.kept fun b o e => hk b o e
    exact call_len_set ho hex hd hf (by rw [en]; omega) ⟨.int (dedI ns).length, H1, J.tok _, ⟨_, by rw [en]⟩, q1⟩
def tSrtS (K : PySem.W.Frag) (ta : TE) : TE := fun σ H Q => ta σ H fun x H1 => ∃ (l : Addr) (ns : List Int), x = .ref l ∧ SqT K H1 l (ns.map V.int) ∧ ns.length ≤ 4000 ∧ (dedI ns).length < 64 ∧
  ∀ p, H1 p = none → Q (.ref p) (upd H1 p (.lst ((sortI (dedI ns)).map V.int)))
theorem pe_srtS (hc : X.calm = true) (hg : Gl X "sorted") (hm : X.mg "sorted" = none) (hg2 : Gl X "set") (hm2 : X.mg "set" = none) (ha : PE X a ta) (na : starEach [a] X.env = (false, eval a X.env) :: starEach [] X.env) :
    PE X (.Call (.Name "sorted" p) [.Call (.Name "set" p2) [a] [] q] [] pos) (tSrtS X.K ta) := by
  refine ⟨fun pins s σ H Q I h => ?_⟩
  refine Call_ (ld_blt I hg hm boot_sorted ?_)
  refine callWith_builtin1 (args_cons ?_ rfl) rfl rfl
  refine Call_ (ld_blt I hg2 hm2 boot_set ?_)
  refine callWith_type1 (args_cons (thn (ha.run pins s σ H _ I h) fun v s1 ⟨x, H1, I1, r1, q1⟩ => args_nil ?_) na) na rfl
  obtain ⟨l, ns, rfl, hq, hl, h64, q1⟩ := q1
  cases r1
  obtain ⟨its, r, pl, hz⟩ := I1.tuple hq
  refine call_set_tupI ns (I1.ok.hd hc) pl (by simpa using RZ.intsAre_vals r) (by unfold scanBound; omega) fun h' tk c hS hcl hk => ?_
  refine args_nil ?_
  have J : Inv X pins σ H1 { s1 with heap := h', toks := tk } := I1.kept fun b o e => hk b o e
  have hc2 : c = (dedI ns).length := by
    obtain ⟨o, es, ep, t, ho, hex, hd, _, nd, hm, _, hf, hn, _⟩ := hS
    rw [← hn, ← ded_len nd fun k => by rw [← hm k]; simp]
    simp
  subst hc2
  refine sorted_set hS (I1.ok.hd hc) h64 fun s' p out c ns' k g o hp hgt hi hs hm hl => ?_
  have e0 : ns' = sortI (dedI ns) := ded_sorted hs fun k => by rw [hm k]; simp
  subst e0
  have hlen : ((sortI (dedI ns)).map V.int).length ≤ sizeLine := by rw [List.length_map, hl, sizeLine_eq]; omega
  have fr : H1 p = none := J.hok.fresh hp
  have J2 : Inv X pins σ (upd H1 p (.lst ((sortI (dedI ns)).map V.int))) s' :=
    J.call' (ch := []) o (Un.laid k hp fr) (J.hok.laid k hp ⟨hlen, out.toList, c, vals_of_ints hi, hgt⟩) (by rw [g]; exact J.bare) (fun _ z => nomatch z)
  exact ⟨.ref p, _, J2, rfl, q1 p fr⟩
end
section
variable {K : PySem.W.Frag} {Gd : Nat → PyData}
theorem imp_lenS {wa : WE} {ta : TE} (ha : Imp K wa ta) : Imp K (wExt Gd .lenset (wCons wa wNil)) (tLenS K ta) := fun B σ P G H Γ c Q R a w k => by
  refine ha B σ P G H Γ c _ _ a w fun x P1 G1 H1 c1 zx s1 w1 r1 q1 => ?_
  obtain ⟨ds, q, e⟩ := dvs_of (B := B) (.cons r1 .nil) q1
  have q : xLen ds (fun r => Q (.d r) c1) := q
  unfold xLen at q
  split at q
  · obtain ⟨z, v, hz, hv, r, ex⟩ := zrs1 (.cons r1 .nil) e
    cases hz
    cases hv
    obtain ⟨ns, en, hl, q⟩ := q
    obtain ⟨l, us, rfl, hs, da⟩ := r.lst w1 ex
    rw [ints?_eq en] at da
    exact ⟨l, ns, rfl, .inl (by rw [← da.ints]; exact hs), hl, k _ P1 G1 H1 c1 (.d _) s1 w1 (show Dq K _ _ _ from .int _) q⟩
  · obtain ⟨z, v, hz, hv, r, ex⟩ := zrs1 (.cons r1 .nil) e
    cases hz
    cases hv
    obtain ⟨ns, en, hl, q⟩ := q
    obtain ⟨l, us, rfl, hs, gs, da⟩ := r.tup w1 ex
    rw [ints?_eq en] at da
    exact ⟨l, ns, rfl, .inr (by rw [← da.ints]; exact hs), hl, k _ P1 G1 H1 c1 (.d _) s1 w1 (show Dq K _ _ _ from .int _) q⟩
  · exact q.elim
theorem imp_srtS {wa : WE} {ta : TE} (ha : Imp K wa ta) : Imp K (wExt Gd .srtset (wCons wa wNil)) (tSrtS K ta) := fun B σ P G H Γ c Q R a w k => by
  refine ha B σ P G H Γ c _ _ a w fun x P1 G1 H1 c1 zx s1 w1 r1 q1 => ?_
  obtain ⟨ds, q, e⟩ := dvs_of (B := B) (.cons r1 .nil) q1
  have q : xSrt ds (fun r => Q (.d r) c1) := q
  unfold xSrt at q
  split at q
  · obtain ⟨z, v, hz, hv, r, ex⟩ := zrs1 (.cons r1 .nil) e
    cases hz
    cases hv
    obtain ⟨ns, en, hl, h64, q⟩ := q
    obtain ⟨l, us, rfl, hs, gs, da⟩ := r.tup w1 ex
    rw [ints?_eq en] at da
    refine ⟨l, ns, rfl, (by rw [← da.ints]; exact hs), hl, h64, fun p hp => ?_⟩
    have hlen : ((sortI (dedI ns)).map V.int).length ≤ sizeLine := by
      have q1 := (sortI_perm (dedI ns)).length_eq
      rw [List.length_map, q1, sizeLine_eq]
      omega
    have s2 := Stp.new (o := .lst ((sortI (dedI ns)).map V.int)) w1 hp
    exact k _ P1 _ _ c1 (.d _) (s1.trans s2) (w1.new hp hlen) (show Dq K _ _ _ from .lst upd_same (DqAll.of_ints _)) q
  · exact q.elim
end
end Z
namespace Z
open PySem PySem.Spec PyProof.Rows L2
/-! pots are written, made -/
section
variable {K : PySem.W.Frag} {B : Bs} {P : Addr → Prop} {G H : Hp} {c : Nat} {Γ : Ga} {σ : L2.St}
theorem Pb.le {c c1 : Nat} {g s t : Int} (h : c ≤ c1) (b : Pb c g s t) : Pb c1 g s t := b.mono h
/-- a pot's object changes -/
theorem Stp.potChg {a : Addr} {o : HO} (p : P a) (w : Wd P G H c) : Stp P G H P G (upd H a o) where
  pp := fun _ h => h
  gg := fun _ _ h => h
  fr := fun b u h n => by
    have e : b ≠ a := fun z => n (z ▸ p)
    rw [upd_ne e]; exact h
  th := fun b h => by
    by_cases e : b = a
    · subst e; rw [upd_same]; simp
    · rw [upd_ne e]; exact h
  nw := fun _ h _ => h
  np := fun _ h => .inl h
theorem Wd.potChg {a : Addr} {g s t : Int} {c1 : Nat} (p : P a) (w : Wd P G H c) (hc : c ≤ c1) (b : Pb c1 g s t) : Wd P G (upd H a (.lst [.int g, .int s, .int t])) c1 where
  sz := w.sz_upd (by show 3 ≤ sizeLine; rw [sizeLine_eq]; omega)
  gh := fun x u h => by
    have e : x ≠ a := fun z => by rw [z, w.pg a p] at h; cases h
    rw [upd_ne e]; exact w.gh _ _ h
  pg := w.pg
  pot := fun x h => by
    by_cases e : x = a
    · subst e; exact ⟨g, s, t, upd_same, b⟩
    · obtain ⟨g', s', t', e1, b'⟩ := w.pot x h
      exact ⟨g', s', t', by rw [upd_ne e]; exact e1, b'.mono hc⟩
/-- a new pot -/
theorem Stp.potNew {a : Addr} {o : HO} (w : Wd P G H c) (hp : H a = none) : Stp P G H (fun x => P x ∨ x = a) G (upd H a o) where
  pp := fun _ h => .inl h
  gg := fun _ _ h => h
  fr := fun b u h _ => by rw [upd_ne (ne_of_none h hp)]; exact h
  th := fun b h => by
    by_cases e : b = a
    · subst e; exact absurd hp h
    · rw [upd_ne e]; exact h
  nw := fun _ h _ => h
  np := fun x h => h.imp id fun e => by rw [e]; exact hp
theorem Wd.potNew {a : Addr} {g s t : Int} (w : Wd P G H c) (hp : H a = none) (b : Pb c g s t) : Wd (fun x => P x ∨ x = a) G (upd H a (.lst [.int g, .int s, .int t])) c where
  sz := w.sz_upd (by show 3 ≤ sizeLine; rw [sizeLine_eq]; omega)
  gh := fun x u h => by rw [upd_ne (ne_of_none (w.gh _ _ h) hp)]; exact w.gh _ _ h
  pg := fun x h => by
    rcases h with h | rfl
    · exact w.pg x h
    · cases q : G x with
      | none => rfl
      | some u => rw [w.gh _ _ q] at hp; cases hp
  pot := fun x h => by
    by_cases e : x = a
    · subst e; exact ⟨g, s, t, upd_same, b⟩
    · obtain ⟨g', s', t', e1, b'⟩ := w.pot x (h.resolve_right e)
      exact ⟨g', s', t', by rw [upd_ne e]; exact e1, b'⟩
/-- pot[j] = e -/
theorem impS_pst {we : WE} {te : TE} (i : Nat) (j : Int) (he : Imp K we te) : ImpS K (fun Γ c R => match get Γ i with
    | some .pot => we Γ c fun z c1 => dv z fun y => match y with
      | .int v => potW c1 j v fun c2 => R.nx Γ c2
      | _ => False
    | _ => False) (tAsg te (gSub (tVar i) (tC (.int j)) rSetL)) := fun B σ P G H Γ c R D a w k => by
  have w : (match get Γ i with
    | some .pot => we Γ c fun z c1 => dv z fun y => match y with
      | .int v => potW c1 j v fun c2 => R.nx Γ c2
      | _ => False
    | _ => False) := w
  split at w
  · rename_i eg
    refine he B σ P G H Γ c _ _ a w fun v P1 G1 H1 c1 z s1 w1 r1 q1 => ?_
    obtain ⟨dy, ey, q⟩ := dv_of q1
    cases dy with
    | int n =>
      have a1 := a.step s1 w1
      obtain ⟨u, eu, b, rfl, pb⟩ := a1.sl i _ eg
      obtain ⟨g, s, t, e, bd⟩ := w1.pot b pb
      have ev : v = .int n := zr_int w1 r1 ey
      subst ev
      refine ⟨.ref b, eu, ?_⟩
      have q : potW c1 j n (fun c2 => R.nx Γ c2) := q
      unfold potW at q
      split at q
      · rename_i ej
        subst ej
        obtain ⟨h0, h1, q⟩ := q
        obtain ⟨_, _, b3, b4, b5, b6⟩ := id bd
        have bd' : Pb c1 n s t := ⟨h0, h1, b3, b4, b5, b6⟩
        refine ⟨b, _, 0, 0, rfl, rfl, e, rfl, ?_⟩
        exact k.nx σ P1 G1 _ c1 Γ s1.gg s1.pp (a1.step (Stp.potChg pb w1) (w1.potChg pb (Nat.le_refl _) bd')) q
      · split at q
        · rename_i ej
          subst ej
          obtain ⟨h0, h1, q⟩ := q
          obtain ⟨b1, b2, b3, b4, _, _⟩ := id bd
          have bd' : Pb (c1 + 1) g s n := ⟨b1, b2, b3, b4, h0, by omega⟩
          refine ⟨b, _, 2, 2, rfl, rfl, e, rfl, ?_⟩
          exact k.nx σ P1 G1 _ (c1 + 1) Γ s1.gg s1.pp (a1.step (Stp.potChg pb w1) (w1.potChg pb (Nat.le_succ _) bd')) q
        · exact q.elim
    | _ => exact q.elim
  · exact w.elim
/-- return [g, s, t], a new pot -/
theorem impS_retP {w : WA} {t : TA} (ha : ImpA K w t) : ImpS K (fun Γ c R => w Γ c fun zs c1 => dzs zs fun ds => match ds with
    | [.int g, .int s, .int t] => Pb c1 g s t ∧ R.rt .pot c1
    | _ => False) (tRet (tLst t)) := fun B σ P G H Γ c R D a w' k => by
  refine ha B σ P G H Γ c _ _ a w' fun vs P1 G1 H1 c1 zs s1 w1 r1 q1 => ?_
  obtain ⟨ds, _, hd, q⟩ := dzs_of r1 q1
  split at q
  · rename_i g s t
    obtain ⟨pb, q⟩ := q
    cases hd with
    | cons h1 hd =>
      cases hd with
      | cons h2 hd =>
        cases hd with
        | cons h3 hd =>
          cases hd
          cases h1
          cases h2
          cases h3
          refine ⟨by show 3 ≤ sizeLine; rw [sizeLine_eq]; omega, fun p hp => ?_⟩
          exact k.rt (.ref p) _ G1 _ c1 .pot ((a.st.trans s1).trans (Stp.potNew w1 hp)) (w1.potNew hp pb) ⟨p, rfl, .inr rfl⟩ q
  · exact q.elim
end
end Z
/-! ZG -/
set_option maxRecDepth 100000
/-! dicts of the module; dicts' methods; displays -/
namespace Z
open PySem PySem.Spec PyProof.Rows L2
/-- the entries of a written dict, as data -/
inductive EntD (K : PySem.W.Frag) : List DictEntry → List (Str × PyData) → Prop
  | nil : EntD K [] []
  | cons {e : DictEntry} {x : Str} {t : Tok} {v : V} {d : PyData} {es : List DictEntry} {kvs : List (Str × PyData)} : e.key = .str x t → RelV v e.val → Dq K (fun _ => none) v d → EntD K es kvs → EntD K (e :: es) ((x, d) :: kvs)
def strD (kvs : List (Str × PyData)) : PyData := .dict (kvs.map fun p => (.str p.1, p.2))
structure GK (w : World) (K : PySem.W.Frag) (mg : Str → Option Value) (x : Str) (d : PyData) : Prop where
  ex : ∃ (a : Addr) (es : Array DictEntry) (n : Nat) (kvs : List (Str × PyData)), d = strD kvs ∧ mg x = some (.ref a) ∧ KDict K w a es n ∧ EntD K es.toList kvs ∧ es.size ≤ sizeLine
def sLk : List (Str × PyData) → Str → Option PyData
  | [], _ => none
  | (y, d) :: r, x => if y = x then some d else sLk r x
theorem dLk_str (k : Key) : ∀ kvs : List (Str × PyData), dLk (kvs.map fun p => (.str p.1, p.2)) k = match k with | .inr x => sLk kvs x | .inl _ => none
  | [] => by cases k <;> rfl
  | (y, d) :: r => by
    have ih := dLk_str k r
    rw [List.map_cons]
    unfold dLk
    rw [ih]
    cases k with
    | inl i =>
      rw [if_neg (by show ¬ some (Sum.inr y : Key) = some (Sum.inl i); intro h; cases h)]
    | inr x =>
      show (if some (Sum.inr y : Key) = some (Sum.inr x) then some d else sLk r x) = if y = x then some d else sLk r x
      by_cases e : y = x
      · subst e; rw [if_pos rfl, if_pos rfl]
      · rw [if_neg e, if_neg (fun h => e (Sum.inr.inj (Option.some.inj h)))]
section
variable {K : PySem.W.Frag}
theorem ent_look {x : Str} : ∀ {es : List DictEntry} {kvs : List (Str × PyData)}, EntD K es kvs → es.any (·.refKey) = false ∧ ((es.find? (·.key.isStr x) = none ∧ sLk kvs x = none) ∨ ∃ e v d, es.find? (·.key.isStr x) = some e ∧ sLk kvs x = some d ∧ RelV v e.val ∧ Dq K (fun _ => none) v d)
  | _, _, .nil => ⟨rfl, .inl ⟨rfl, rfl⟩⟩
  | e :: es, (y, d) :: kvs, .cons (t := t) hk hv hd hr => by
    obtain ⟨h1, h2⟩ := ent_look (x := x) hr
    have hr : e.refKey = false := by unfold DictEntry.refKey; rw [hk]
    refine ⟨by rw [List.any_cons, hr, h1]; rfl, ?_⟩
    have hs : e.key.isStr x = (y == x) := by rw [hk]; rfl
    rw [List.find?_cons, hs]
    unfold sLk
    by_cases q : y = x
    · subst q
      rw [beq_self_eq_true, if_pos rfl]
      exact .inr ⟨e, _, d, rfl, rfl, hv, hd⟩
    · rw [if_neg q, beq_eq_false_iff_ne.mpr q]
      exact h2
theorem gk_in {w : World} {a : Addr} {es : Array DictEntry} {n : Nat} {kvs : List (Str × PyData)} (D : KDict K w a es n) (h : EntD K es.toList kvs) (x : Str) :
    (PySem.W.nsIn K a x = some none ∧ sLk kvs x = none) ∨ ∃ u v d, PySem.W.nsIn K a x = some (some u) ∧ sLk kvs x = some d ∧ RelV v u ∧ Dq K (fun _ => none) v d := by
  obtain ⟨h1, h2⟩ := ent_look (x := x) h
  unfold PySem.W.nsIn
  rw [D.at_]
  rcases h2 with ⟨e1, e2⟩ | ⟨e, v, d, e1, e2, r, q⟩
  · left
    refine ⟨?_, e2⟩
    dsimp only
    rw [e1]
    dsimp only
    rw [h1]
    rfl
  · right
    refine ⟨e.val, v, d, ?_, e2, r, q⟩
    dsimp only
    rw [e1]
end
theorem dq_empty {K : PySem.W.Frag} {v : V} {d : PyData} (G : Hp) (h : Dq K (fun _ => none) v d) : Dq K G v d := dp_mono (fun _ _ e => by cases e) _ _ h
section
variable {X : Cx} {x : Str} {p : Pos} {i f : Expr} {apos cpos pos : Pos} {ty tx : TE} {a : Addr} {es : Array DictEntry} {n : Nat}
/-- D.get(k, d) -/
def tGget (K : PySem.W.Frag) (a : Addr) (ty tx : TE) : TE := fun σ H Q => ty σ H fun y H2 => tx σ H2 fun z H3 => ∃ (k : Str) (o : Option Value) (v : Option V), y = .str k ∧ PySem.W.nsIn K a k = some o ∧ RelO v o ∧ Q (v.getD z) H3
theorem pe_gget (D : KDict X.K X.w a es n) (ho : PE X (.Name x p) (tC (.ref a))) (he : PE X i ty) (hf : PE X f tx) (m : M2 X (.Name x p) "get" apos i f cpos) : PE X (.Call (.Attribute (.Name x p) "get" apos) [i, f] [] cpos) (tGget X.K a ty tx) := by
  refine ⟨fun pins s σ H Q I h => ?_⟩
  have h : tC (.ref a) σ H fun x1 H1 => x1 = .ref a ∧ tGget X.K a ty tx σ H1 Q := ⟨rfl, h⟩
  refine wpAny_Call_method m.base m.few m.line PySem.F.plainAttrs_dict PySem.F.slot_dict_get PySem.F.type_dict_get (thn (ho.run pins s σ H _ I h) fun u s1 ⟨x1, H1, I1, rx, ex, q1⟩ => ?_)
  subst ex
  obtain rfl : u = Value.ref a := rx
  have hm := PySem.W.mapOf_K (prog := X.prog) (w := X.w) I1.kIn D.at_ D.lit
  refine ⟨hm.typeIs, fun b q => ?_, ?_⟩
  · cases q
    exact ⟨_, I1.kIn _ _ D.at_, rfl⟩
  rw [m.trees]
  refine Calls.callWith_builtin rfl (Calls.evalArgs_plain (Calls.spliced_cons (thn (he.run pins s1 σ H1 _ I1 q1) fun iv s2 ⟨y, H2, I2, ry, q2⟩ =>
    Calls.spliced_cons (thn (hf.run pins s2 σ H2 _ I2 q2) fun fv s3 ⟨z, H3, I3, rz, k, o, v, ey, e, rv, q3⟩ => Calls.spliced_nil ?_))))
  subst ey
  obtain ⟨t, rfl⟩ := ry
  have hm := PySem.W.mapOf_K (prog := X.prog) (w := X.w) I3.kIn D.at_ D.lit
  refine call_meetsIn PySem.F.slot_dict_get hm.typeIs PySem.F.entry_dict_get (PySem.F.args_dict_get_3 _ _ _) (meets_dict_get_default (strKind X.prog X.w) a (strKind_is X.prog X.w k t) D.low fv) ⟨_, hm, ?_⟩
  rw [PySem.W.find_K D.at_ e]
  cases o with
  | none => cases v with
    | none => exact ⟨_, H3, I3.tok _, rz, q3⟩
    | some _ => exact rv.elim
  | some u => cases v with
    | none => exact rv.elim
    | some v => exact ⟨_, H3, I3.tok _, rv, q3⟩
/-- list(D) -/
def tGkeys (kvs : List (Str × PyData)) : TE := fun σ H Q => ∀ q, H q = none → Q (.ref q) (upd H q (.lst (kvs.map fun p => V.str p.1)))
theorem ent_keys {K : PySem.W.Frag} : ∀ {es : List DictEntry} {kvs : List (Str × PyData)}, EntD K es kvs → Vals (kvs.map fun p => V.str p.1) (es.map (·.key))
  | _, _, .nil => .nil
  | _, _, .cons hk _ _ hr => .cons ⟨_, hk⟩ (ent_keys hr)
theorem pe_gkeys {kvs : List (Str × PyData)} {fp : Pos} (hc : X.calm = true) (D : KDict X.K X.w a es n) (hE : EntD X.K es.toList kvs) (hz : es.size ≤ sizeLine) (hg : Gl X "list") (hm : X.mg "list" = none) (ho : PE X (.Name x p) (tC (.ref a)))
    (na : starEach [Expr.Name x p] X.env = (false, eval (.Name x p) X.env) :: starEach [] X.env) : PE X (.Call (.Name "list" fp) [.Name x p] [] pos) (tGkeys kvs) := by
  refine ⟨fun pins s σ H Q I h => ?_⟩
  have h : tC (.ref a) σ H fun x1 H1 => x1 = .ref a ∧ tGkeys kvs σ H1 Q := ⟨rfl, h⟩
  refine Call_ (ld_blt I hg hm boot_list ?_)
  refine callWith_type1 (args_cons (thn (ho.run pins s σ H _ I h) fun u s1 ⟨x1, H1, I1, rx, ex, q1⟩ => args_nil ?_) na) na rfl
  subst ex
  obtain rfl : u = Value.ref a := rx
  have raw : s1.heap.DictRaw a es n := ⟨_, I1.kIn _ _ D.at_, ⟨rfl, rfl, rfl⟩, rfl⟩
  refine PySem.W.kdl_call (PySem.KdlSrc.rawDict D.low) (I1.ok.hd hc) raw hz fun h' tk acc c' hk hD hacc => ?_
  have hv : acc.toList = es.toList.map (·.key) := by
    apply List.ext_getElem?
    intro j
    rw [List.getElem?_map, Array.getElem?_toList, Array.getElem?_toList]
    rcases Nat.lt_or_ge j acc.size with hj | hj
    · have e1 : acc[j]? = some acc[j] := Array.getElem?_eq_getElem hj
      obtain ⟨hi, e2⟩ := hacc.2 j _ e1
      rw [e1, e2, Array.getElem?_eq_getElem hi]
      rfl
    · rw [Array.getElem?_eq_none hj, Array.getElem?_eq_none (by rw [← hacc.1]; exact hj)]
      rfl
  have hlen : (kvs.map fun p => V.str p.1).length ≤ sizeLine := by
    have := (ent_keys hE).length
    simp only [List.length_map, Array.length_toList] at this ⊢
    omega
  refine ⟨.ref s1.heap.objs.size, upd H1 s1.heap.objs.size (.lst (kvs.map fun p => V.str p.1)), I1.laid (t' := tk) hk (Nat.le_refl _) (show ObjOk X.prog X.w _ _ _ (.lst (kvs.map fun p => V.str p.1)) from ⟨hlen, acc.toList, c', by rw [hv]; exact ent_keys hE, by rw [Array.toArray_toList]; exact hD⟩), rfl, q1 _ (I1.hok.fresh (Nat.le_refl _))⟩
end
end Z
namespace Z
open PySem PySem.Spec PyProof.Rows L2
section
variable {K : PySem.W.Frag} {Gd : Nat → PyData} {w0 : World} {a : Addr} {es : Array DictEntry} {n j : Nat} {kvs : List (Str × PyData)}
theorem dq_key {G : Hp} {v : V} {x : PyData} {k : Key} (h : Dq K G v x) (hk : keyD x = some k) : v = kV k := by
  have e := kD_of hk
  subst e
  cases k with
  | inl i => exact dq_int h
  | inr i => exact dq_str h
theorem imp_gix {wi : WE} {ti : TE} (hd : Gd (1000 + j) = strD kvs) (D : KDict K w0 a es n) (hE : EntD K es.toList kvs) (hi : Imp K wi ti) : Imp K (wExt Gd (.gix j) (wCons wi wNil)) (tOp (rIxD K w0) (tC (.ref a)) ti) := fun B σ P G H Γ c Q R a0 w k => by
  refine hi B σ P G H Γ c _ _ a0 w fun y P1 G1 H1 c1 zy s1 w1 r1 q1 => ?_
  obtain ⟨ds, e, da, q⟩ := dzs_of (.cons r1 .nil) q1
  cases da with
  | cons h1 h2 =>
    cases h2
    rename_i x0
    have q : xGix (Gd (1000 + j)) [x0] (fun r => Q (.d r) c1) := q
    rw [hd] at q
    have q : ∃ kk d, keyD x0 = some kk ∧ dLk (kvs.map fun p => (.str p.1, p.2)) kk = some d ∧ Q (.d d) c1 := q
    obtain ⟨kk, d, ek, el, q⟩ := q
    rw [dLk_str] at el
    have ey := dq_key h1 ek
    subst ey
    cases kk with
    | inl i => cases el
    | inr x =>
      rcases gk_in D hE x with ⟨_, e2⟩ | ⟨u, v, d', e1, e2, rv, dq⟩
      · rw [show sLk kvs x = some d from el] at e2; cases e2
      · rw [show sLk kvs x = some d from el] at e2
        cases e2
        exact ⟨a, x, v, rfl, rfl, ⟨es, n, u, D.at_, D.lit, e1, rv⟩, k v P1 G1 H1 c1 (.d d) s1 w1 (dq_empty _ dq) q⟩
theorem imp_gget {wi wx : WE} {ti tx : TE} (hd : Gd (1000 + j) = strD kvs) (D : KDict K w0 a es n) (hE : EntD K es.toList kvs) (hi : Imp K wi ti) (hx : Imp K wx tx) : Imp K (wExt Gd (.gget j) (wCons wi (wCons wx wNil))) (tGget K a ti tx) := fun B σ P G H Γ c Q R a0 w k => by
  refine hi B σ P G H Γ c _ _ a0 w fun y P1 G1 H1 c1 zy s1 w1 r1 q1 => ?_
  refine hx B σ P1 G1 H1 Γ c1 _ _ (a0.step s1 w1) q1 fun z P2 G2 H2 c2 zz s2 w2 r2 q2 => ?_
  obtain ⟨ds, e, da, q⟩ := dzs_of (.cons (r1.mono s2) (.cons r2 .nil)) q2
  cases da with
  | cons h1 h2 =>
    cases h2 with
    | cons h3 h4 =>
      cases h4
      rename_i x0 e0
      have q : xGget (Gd (1000 + j)) [x0, e0] (fun r => Q (.d r) c2) := q
      rw [hd] at q
      have q : ∃ kk : Str, keyD x0 = some (.inr kk) ∧ Q (.d ((dLk (kvs.map fun p => (.str p.1, p.2)) (.inr kk)).getD e0)) c2 := q
      obtain ⟨kk, ek, q⟩ := q
      have ey := dq_key h1 ek
      subst ey
      rw [dLk_str] at q
      have q : Q (.d ((sLk kvs kk).getD e0)) c2 := q
      rcases gk_in D hE kk with ⟨e1, e2⟩ | ⟨u, v, d', e1, e2, rv, dq⟩
      · refine ⟨kk, none, none, rfl, e1, trivial, ?_⟩
        rw [e2] at q
        exact k z P2 G2 H2 c2 (.d e0) (s1.trans s2) w2 h3 q
      · refine ⟨kk, some u, some v, rfl, e1, rv, ?_⟩
        rw [e2] at q
        exact k v P2 G2 H2 c2 (.d d') (s1.trans s2) w2 (dq_empty _ dq) q
theorem dq_strs {G : Hp} : ∀ kvs : List (Str × PyData), DqAll K G (kvs.map fun p => V.str p.1) (kvs.map fun p => PyData.str p.1)
  | [] => .nil
  | p :: r => .cons (.str p.1) (dq_strs r)
theorem imp_gkeys (hd : Gd (1000 + j) = strD kvs) (hz : kvs.length ≤ sizeLine) : Imp K (wExt Gd (.gkeys j) wNil) (tGkeys kvs) := fun B σ P G H Γ c Q R a0 w k => by
  have q : xGkeys (Gd (1000 + j)) [] (fun r => Q (.d r) c) := w
  rw [hd] at q
  unfold xGkeys strD at q
  intro p hp
  have s2 := Stp.new (o := .lst (kvs.map fun p => V.str p.1)) a0.wd hp
  refine k _ P _ _ c (.d _) s2 (a0.wd.new hp (by show (kvs.map fun p => V.str p.1).length ≤ _; rw [List.length_map]; exact hz)) (show Dq K _ _ _ from .lst upd_same (dq_strs kvs)) ?_
  have q : Q (.d (.list ((kvs.map fun p => (PyData.str p.1, p.2)).map (·.1)))) c := q
  rw [List.map_map] at q
  exact q
/-- dict.get -/
theorem imp_get1 {wa wi : WE} {ta ti : TE} (ha : Imp K wa ta) (hi : Imp K wi ti) : Imp K (wMt .get wa (wCons wi wNil)) (tDGet1 ta ti) := fun B σ P G H Γ c Q R a0 w k => by
  refine ha B σ P G H Γ c _ _ a0 w fun x P1 G1 H1 c1 zx s1 w1 r1 q1 => ?_
  obtain ⟨dx, ex, hm, q1⟩ := dv_of q1
  cases dx with
  | dict ds =>
    cases dv_dict w1 r1 ex with
    | dic hs hk =>
      refine ⟨_, rfl, .inl ⟨_, .inl (w1.gh _ _ hs)⟩, ?_⟩
      refine hi B σ P1 G1 H1 Γ c1 _ _ (a0.step s1 w1) q1 fun y P2 G2 H2 c2 zy s2 w2 r2 q2 => ?_
      obtain ⟨vs, e, da, q⟩ := dzs_of (.cons r2 .nil) q2
      cases da with
      | cons h1 h2 =>
        cases h2
        rename_i x0
        have q : ∃ kk, keyD x0 = some kk ∧ Q (.d ((dLk ds kk).getD .none)) c2 := q
        obtain ⟨kk, ek, q⟩ := q
        have ey := dq_key h1 ek
        subst ey
        refine ⟨_, DGet.k (w2.gh _ _ (s2.gg _ _ hs)), ?_⟩
        rcases dkv_look (k := kk) (dpk_mono s2.gg _ _ hk) with ⟨e1, e2⟩ | ⟨v, d, e1, e2, hv⟩
        · rw [e1]; rw [e2] at q
          exact k .non P2 G2 H2 c2 (.d .none) (s1.trans s2) w2 (show Dq K _ _ _ from .non) q
        · rw [e1]; rw [e2] at q
          exact k v P2 G2 H2 c2 (.d d) (s1.trans s2) w2 hv q
  | _ => exact hm.elim
theorem imp_get2 {wa wi wx : WE} {ta ti tx : TE} (ha : Imp K wa ta) (hi : Imp K wi ti) (hx : Imp K wx tx) : Imp K (wMt .get wa (wCons wi (wCons wx wNil))) (tDGet2 ta ti tx) := fun B σ P G H Γ c Q R a0 w k => by
  refine ha B σ P G H Γ c _ _ a0 w fun x P1 G1 H1 c1 zx s1 w1 r1 q1 => ?_
  obtain ⟨dx, ex, hm, q1⟩ := dv_of q1
  cases dx with
  | dict ds =>
    cases dv_dict w1 r1 ex with
    | dic hs hk =>
      refine ⟨_, rfl, .inl ⟨_, .inl (w1.gh _ _ hs)⟩, ?_⟩
      refine hi B σ P1 G1 H1 Γ c1 _ _ (a0.step s1 w1) q1 fun y P2 G2 H2 c2 zy s2 w2 r2 q2 => ?_
      refine hx B σ P2 G2 H2 Γ c2 _ _ (a0.step (s1.trans s2) w2) q2 fun z P3 G3 H3 c3 zz s3 w3 r3 q3 => ?_
      obtain ⟨vs, e, da, q⟩ := dzs_of (.cons (r2.mono s3) (.cons r3 .nil)) q3
      cases da with
      | cons h1 h2 =>
        cases h2 with
        | cons h3 h4 =>
          cases h4
          rename_i x0 e0
          have q : ∃ kk, keyD x0 = some kk ∧ Q (.d ((dLk ds kk).getD e0)) c3 := q
          obtain ⟨kk, ek, q⟩ := q
          have ey := dq_key h1 ek
          subst ey
          have s23 := s2.trans s3
          refine ⟨_, DGet.k (w3.gh _ _ (s23.gg _ _ hs)), ?_⟩
          rcases dkv_look (k := kk) (dpk_mono s23.gg _ _ hk) with ⟨e1, e2⟩ | ⟨v, d, e1, e2, hv⟩
          · rw [e1]; rw [e2] at q
            exact k z P3 G3 H3 c3 (.d e0) (s1.trans s23) w3 h3 q
          · rw [e1]; rw [e2] at q
            exact k v P3 G3 H3 c3 (.d d) (s1.trans s23) w3 hv q
  | _ => exact hm.elim
end
end Z
/-! ZH -/
set_option maxRecDepth 100000
/-! a, b, *rest = a tuple; a dict's display; [..] * n; upper -/
namespace Z
open PySem PySem.Spec PyProof.Rows L2
section
variable {prog : Program} {w : World} {A : Around} {E : Value → Shared → Prop} {s : Shared}
theorem star_items {l : Addr} {items : Array Value} {n : Nat} {Q : List Value → Shared → Prop} (hl : IsTup s.heap l items) (hh : A.handled = none) (hn : n ≤ items.size) (hz : items.size ≤ sizeLine)
    (h : ∀ (h' : Heap) (tk : Nat), (∀ b o, s.heap.get? b = some o → h'.get? b = some o) → Q (items.toList.take n ++ [.ref h'.objs.size]) { s with heap := h'.push { cls := .type "list", data := .seq (items.toList.drop n).toArray }, toks := tk }) :
    wpAny (model prog w) A (unpackItems (.ref l) (n + 1) (some n)) Q E s := by
  have hlt : l ≠ s.heap.objs.size := by obtain ⟨o, ho, _⟩ := hl; exact Nat.ne_of_lt (Heap.lt_size ho)
  unfold unpackItems
  refine wpAny_bind ?_
  unfold notIterableAtAll
  refine wpAny_bind (wpAny_specialOf hl.typeIs slot_tuple_iter.lookup ?_)
  refine wpAny_pure ?_
  simp only [Bool.false_eq_true, if_false]
  refine wpAny_bind (wpAny_holding (iter_tuple hl ?_))
  refine wpAny_bind (wpAny_holding (draw_tuple hlt n 0 _ _ ⟨_, Heap.get?_push_size _ rfl, rfl, rfl⟩ (hl.push _) (by omega) fun h1 hit1 hs1 => ?_))
  have hl1 : IsTup h1 l items := (hl.push _).extBut hs1.extBut hlt
  rw [Nat.zero_add] at hit1
  have hit1' := hit1
  obtain ⟨oi, hoi, _⟩ := hit1'
  have hl1' := hl1
  obtain ⟨ol, hol, _⟩ := hl1'
  rw [List.drop_zero]
  have hfl : (items.toList.take n).length = n := by rw [List.length_take, Array.length_toList]; omega
  rw [if_neg (show ¬ ((items.toList.take n).length < n) by rw [hfl]; omega)]
  refine wpAny_bind (wpAny_holding (PySem.W.kun_collect (s := { s with heap := h1 }) (T := "tuple_iterator") (.inr (.inr (.inr rfl))) (Walks.tuple (A := A.in1) hh s.heap.objs.size l hlt items) (fun j u st => st.1.typeIs) (k := n) hn ⟨hit1, hl1⟩ (Heap.lt_size hoi) (Heap.lt_size hol) (fun h2 tk hk => ?_) hz))
  show wpAny _ _ (if (items.toList.drop n).length < n + 1 - 1 - n then _ else _) _ _ _
  rw [if_neg (by omega)]
  show wpAny _ _ (newList ((items.toList.drop n).take ((items.toList.drop n).length - (n + 1 - 1 - n))) >>= fun d => pure (items.toList.take n ++ [d] ++ (items.toList.drop n).drop ((items.toList.drop n).length - (n + 1 - 1 - n)))) _ _ _
  have e0 : (items.toList.drop n).length - (n + 1 - 1 - n) = (items.toList.drop n).length := by omega
  rw [e0, List.take_length, List.drop_length]
  have he : ∀ b o, s.heap.get? b = some o → h2.get? b = some o := fun b o e => hk b o (Nat.ne_of_lt (Heap.lt_size e)) (hs1.extBut b o (Nat.ne_of_lt (Heap.lt_size e)) (Heap.get?_push_of_some _ e))
  exact wpAny_bind (wpAny_newList (wpAny_pure (by rw [List.append_nil]; exact h h2 tk he)) (by rw [List.length_drop, Array.length_toList]; omega))
end
section
variable {X : Cx} {pos : Pos}
def gStar (K : PySem.W.Frag) (n : Nat) (t : TGs) : TG := fun v σ H Q => ∃ a xs, v = .ref a ∧ SqT K H a xs ∧ n ≤ xs.length ∧ ∀ p, H p = none → t (xs.take n ++ [.ref p]) σ (upd H p (.lst (xs.drop n))) Q
theorem RelV_take {xs : List V} {us : List Value} (h : Vals xs us) : ∀ n : Nat, Vals (xs.take n) (us.take n) := fun n => by
  induction h generalizing n with
  | nil => cases n <;> exact .nil
  | cons r _ ih => cases n with
    | zero => exact .nil
    | succ n => exact .cons r (ih n)
theorem RelV_drop {xs : List V} {us : List Value} (h : Vals xs us) : ∀ n : Nat, Vals (xs.drop n) (us.drop n) := fun n => by
  induction h generalizing n with
  | nil => cases n <;> exact .nil
  | cons r q ih => cases n with
    | zero => exact .cons r q
    | succ n => exact ih n
theorem pg_star {es : List Expr} {k : Nat} {t : TGs} {n : Nat} (hc : X.calm = true) (h : PGs X es t) (hn : (assignEach es X.env).length = n + 1) (hst : (assignEach es X.env).findIdx? (·.1) = some n) : PG X (.Tuple es k pos) (gStar X.K n t) := by
  refine ⟨fun pins s σ H v u Q I r hw => ?_⟩
  obtain ⟨a, xs, e1, hq, hl, hw⟩ := hw
  subst e1
  cases r
  obtain ⟨its, rv, ht, hz⟩ := I.tuple hq
  rw [assign_Tuple]
  refine wpAny_bind (wpAny_standAt ?_)
  unfold unpack
  rw [hn, hst]
  have hlen := rv.length
  refine wpAny_bind (wpAny_holding (star_items ht (I.ok.hd hc) (by rw [List.size_toArray]; omega) (by rw [List.size_toArray]; omega) fun h' tk hk => ?_))
  have I1 : Inv X pins σ H { s with heap := h', toks := tk } := I.kept fun b o e => hk b o e
  have hf : H h'.objs.size = none := I1.hok.fresh (Nat.le_refl _)
  have I2 : Inv X pins σ (upd H h'.objs.size (.lst (xs.drop n))) { s with heap := h'.push { cls := .type "list", data := .seq (its.drop n).toArray }, toks := tk } :=
    I1.laid (t' := tk) (fun b u e => Heap.get?_push_of_some _ e) (Nat.le_refl _) ⟨by rw [List.length_drop]; omega, its.drop n, 0, RelV_drop rv n, Heap.get?_push_size _ rfl⟩
  exact h.run pins _ σ _ (xs.take n ++ [.ref h'.objs.size]) _ Q I2 ((RelV_take rv n).append (.cons (show RelV (V.ref h'.objs.size) (Value.ref h'.objs.size) from rfl) .nil)) (hw _ hf)
theorem pgs_starL {e : Expr} {p : Pos} {g : TG} (h : PG X e g) : PGs X [.Starred e p] (gCons g gNil) := by
  refine ⟨fun pins s σ H vs us Q I r hw => ?_⟩
  obtain ⟨v, vr, e1, hw⟩ := hw
  subst e1
  cases r with
  | cons r rr =>
    show wpAny _ _ (assignInOrder [assign e X.env] _) _ _ _
    refine assignInOrder_cons (thn (h.run pins s σ H _ _ _ I r hw) fun _ s1 ⟨σ1, H1, I1, q1⟩ => ?_)
    exact (pgs_nil (X := X)).run pins s1 σ1 H1 _ _ Q I1 rr q1
end
end Z
namespace Z
open PySem PySem.Spec PyProof.Rows L2
section
variable {K : PySem.W.Frag} {Gd : Nat → PyData}
theorem dqa_take {G : Hp} {vs : List V} {ds : List PyData} (h : DqAll K G vs ds) (n : Nat) : DqAll K G (vs.take n) (ds.take n) := L2.DqAll.take n h
/-- targets, then one for the rest -/
def ImpGsR (K : PySem.W.Frag) (ts : List Tg) (i : Nat) (g : TGs) : Prop :=
  ∀ (B : Bs) (σ : L2.St) (P : Addr → Prop) (G H : Hp) (Γ : Ga) (c : Nat) (vs : List V) (xs : List PyData) (v0 : V) (x0 : PyData) (Q : Ga → Prop) (R : L2.St → Hp → Prop), As K B P G H c Γ σ → DqAll K G vs xs → xs.length = ts.length → Dq K G v0 x0 →
    wTgs ts xs Γ (fun Γ' => Q (put Γ' i (some (.d x0)))) →
    (∀ σ' Γ' P' G' H', Stp P G H P' G' H' → As K B P' G' H' c Γ' σ' → Chg (tgsS ts ++ [i]) σ σ' → (NoOwn Γ → NoOwn Γ') → Q Γ' → R σ' H') → g (vs ++ [v0]) σ H R
theorem impgsr_nil (i : Nat) : ImpGsR K [] i (gCons (gName i) gNil) := fun B σ P G H Γ c vs xs v0 x0 Q R a r hl r0 w k => by
  cases xs with
  | cons _ _ => simp at hl
  | nil =>
    cases r
    refine ⟨_, _, rfl, ?_⟩
    refine impg_n i B σ P G H Γ c _ x0 Q _ a r0 (by unfold wTg; unfold wTgs at w; exact w) fun σ1 Γ1 P1 G1 H1 s1 a1 c1 n1 q1 => ?_
    exact ⟨rfl, k σ1 Γ1 P1 G1 H1 s1 a1 (by unfold tgS at c1; unfold tgsS; exact c1) n1 q1⟩
theorem impgsr_cons {t : Tg} {ts : List Tg} {i : Nat} {g : TG} {gs : TGs} (h1 : ImpG K (tgS t) (wTg t) g) (h2 : ImpGsR K ts i gs) : ImpGsR K (t :: ts) i (gCons g gs) := fun B σ P G H Γ c vs xs v0 x0 Q R a r hl r0 w k => by
  cases xs with
  | nil => simp at hl
  | cons x xs =>
    cases r with
    | cons r1 r2 =>
      have w : wTg t x Γ fun Γ' => wTgs ts xs Γ' fun Γ' => Q (put Γ' i (some (.d x0))) := by simpa [wTgs] using w
      refine ⟨_, _, rfl, h1 B σ P G H Γ c _ x _ _ a r1 w fun σ1 Γ1 P1 G1 H1 s1 a1 c1 n1 q1 => ?_⟩
      refine h2 B σ1 P1 G1 H1 Γ1 c _ xs v0 x0 Q R a1 (dpa_mono s1.gg _ _ r2) (by simpa using hl) (dp_mono s1.gg _ _ r0) q1 fun σ2 Γ2 P2 G2 H2 s2 a2 c2 n2 q2 => ?_
      exact k σ2 Γ2 P2 G2 H2 (s1.trans s2) a2 (by unfold tgsS; rw [List.append_assoc]; exact c1.trans c2) (fun n => n2 (n1 n)) q2
theorem impg_s {ts : List Tg} {i : Nat} {gs : TGs} (h : ImpGsR K ts i gs) : ImpG K (tgS (.s ts i)) (wTg (.s ts i)) (gStar K ts.length gs) := fun B σ P G H Γ c v x Q R a r w k => by
  unfold wTg at w
  split at w
  · rename_i xs
    cases r with
    | tup hs ha =>
      rename_i ad vs
      obtain ⟨hl, w⟩ := w
      have lv := ha.length
      have hsz := a.wd.tsz (sqt_mono a.wd.gh hs)
      refine ⟨_, _, rfl, sqt_mono a.wd.gh hs, by omega, fun p hp => ?_⟩
      have s1 := Stp.new (o := .lst (vs.drop ts.length)) a.wd hp
      have w1 : Wd P (upd G p (.lst (vs.drop ts.length))) (upd H p (.lst (vs.drop ts.length))) c := a.wd.new hp (by show (vs.drop ts.length).length ≤ _; rw [List.length_drop]; omega)
      have ha1 := dpa_mono s1.gg _ _ ha
      refine h B σ P _ _ Γ c _ (xs.take ts.length) (.ref p) (.list (xs.drop ts.length)) Q R (a.step s1 w1) (L2.DqAll.take _ ha1) (by rw [List.length_take]; omega) (.lst upd_same (L2.DqAll.drop _ ha1)) w fun σ' Γ' P' G' H' s2 a2 c2 n2 q2 => ?_
      exact k σ' Γ' P' G' H' (s1.trans s2) a2 (by unfold tgS; exact c2) n2 q2
  · exact w.elim
/-! ### displays of dicts -/
def tAll : List TE → TA
  | [] => tNil
  | t :: ts => tCons t (tAll ts)
def trsOf (ks : List Key) (ts : List TE) : List (TE × TE) := (ks.map fun k => tC (kV k)).zip ts
theorem tPairs_eq (σ : L2.St) : ∀ (ks : List Key) (ts : List TE), ks.length = ts.length → ∀ (H : Hp) (Q : List (V × V) → Hp → Prop), tPairs (trsOf ks ts) σ H Q = tAll ts σ H (fun vs H' => Q ((ks.map kV).zip vs) H')
  | [], [], _, H, Q => rfl
  | [], _ :: _, e, _, _ => by simp at e
  | _ :: _, [], e, _, _ => by simp at e
  | k :: ks, t :: ts, e, H, Q => by
    show (t σ H fun y H2 => tPairs (trsOf ks ts) σ H2 fun ps H3 => Q ((kV k, y) :: ps) H3) = t σ H fun y H2 => tAll ts σ H2 fun vs H' => Q ((kV k, y) :: (ks.map kV).zip vs) H'
    exact congrArg (t σ H) (funext fun y => funext fun H2 => tPairs_eq σ ks ts (by simpa using e) H2 _)
theorem putK_fresh {α : Type} {kvs : List (Key × α)} : True := trivial
theorem mergeK_nodup : ∀ (more acc : List (Key × V)), ((acc ++ more).map (·.1)).Nodup → mergeK acc more = acc ++ more
  | [], acc, _ => by rw [List.append_nil]; rfl
  | p :: more, acc, h => by
    have hn : valV acc p.1 = none := by
      cases e : valV acc p.1 with
      | none => rfl
      | some v =>
        have := valV_in e
        rw [List.map_append, List.nodup_append] at h
        exact absurd rfl (h.2.2 _ this _ (by simp))
    have e : mergeK acc (p :: more) = mergeK (putK acc p.1 p.2) more := rfl
    rw [e, putK_new _ hn, mergeK_nodup more (acc ++ [(p.1, p.2)]) (by rw [List.append_assoc]; exact h), List.append_assoc]
    rfl
theorem dkv_zip {G : Hp} : ∀ {ks : List Key} {vs : List V} {ds : List PyData}, ks.length = ds.length → DqAll K G vs ds → DqKV K G (ks.zip vs) ((ks.map kD).zip ds)
  | [], _, [], _, .nil => .nil
  | [], _, _ :: _, h, _ => by simp at h
  | _ :: _, _, [], h, _ => by simp at h
  | k :: ks, _, d :: ds, h, .cons h1 h2 => .cons h1 (dkv_zip (by simpa using h) h2)
theorem imp_dsp {ks : List Key} {ws : WA} {ts : List TE} (hl : ks.length = ts.length) (h15 : ks.length ≤ 15) (hA : ImpA K ws (tAll ts)) : Imp K (wExt Gd (.dsp ks) ws) (tDisp (trsOf ks ts)) := fun B σ P G H Γ c Q R a w k => by
  intro p hp
  rw [tPairs_eq σ ks ts hl]
  have s1 := Stp.newH (o := .dK []) a.wd hp
  have w1 := a.wd.newH (o := .dK []) hp trivial
  have o1 : Ob P G (upd H p (.dK [])) p (.dK []) := Ob.new a.wd hp
  refine hA B σ P G _ Γ c _ _ (a.step s1 w1) w fun vs P2 G2 H2 c2 zs s2 w2 r2 q2 => ?_
  obtain ⟨ds, e, da, q⟩ := dzs_of r2 q2
  have q : ks.length = ds.length ∧ ks.Nodup ∧ Q (.d (.dict ((ks.map kD).zip ds))) c2 := q
  obtain ⟨hd, nd, q⟩ := q
  have lv := da.length
  have o2 := o1.step s2
  have o3 : Ob P2 G2 (upd H2 p (.dK (ks.zip vs))) p (.dK (ks.zip vs)) := o2.chg
  have w3 : Wd P2 G2 (upd H2 p (.dK (ks.zip vs))) c2 := w2.chg o2 trivial
  have hk1 : (ks.zip vs).map (·.1) = ks := by
    rw [List.map_fst_zip]
    omega
  have em : mergeK [] (ks.zip vs) = ks.zip vs := by
    rw [mergeK_nodup _ [] (by rw [List.nil_append, hk1]; exact nd)]
    rfl
  refine ⟨o2.h, ks.zip vs, ?_, by rw [List.length_zip]; omega, ?_⟩
  · clear k q q2 r2 em hk1 w3 o3 o2 da hd nd w2 s2 o1 w1 s1
    have key : ∀ (ks : List Key) (vs : List V), (ks.map kV).zip vs = (ks.zip vs).map fun kv => (kV kv.1, kv.2) := fun ks => by
      induction ks with
      | nil => intro vs; rfl
      | cons k ks ih => intro vs; cases vs with
        | nil => rfl
        | cons v vs => exact congrArg ((kV k, v) :: ·) (ih vs)
    exact key ks vs
  · rw [em]
    have st := ((s1.trans s2).chg hp o2 (o' := .dK (ks.zip vs))).still hp o3
    have w4 := w3.still o3
    refine k (.ref p) P2 (upd G2 p (.dK (ks.zip vs))) _ c2 (.d _) st w4 (show Dq K _ _ _ from .dic upd_same ?_) q
    refine dkv_zip hd (dpa_mono (fun b o h => ?_) _ _ da)
    have e : b ≠ p := fun z => by subst z; rw [o2.g] at h; cases h
    rw [upd_ne e]
    exact h
theorem imp_dsp0 : Imp K (wExt Gd (.dsp []) wNil) tDNewK := fun B σ P G H Γ c Q R a w k => by
  intro p hp
  have q : ([] : List Key).length = ([] : List PyData).length ∧ ([] : List Key).Nodup ∧ Q (.d (.dict [])) c := w
  have s1 := Stp.new (o := .dK []) a.wd hp
  exact k (.ref p) P _ _ c (.d _) s1 (a.wd.new hp trivial) (show Dq K _ _ _ from .dic upd_same .nil) q.2.2
/-- [..] * n -/
theorem imp_repl {wa : WA} {ta : TA} {wb : WE} {tb : TE} (ha : ImpA K wa ta) (hb : Imp K wb tb) : Imp K (wExt Gd .repl (wCons (wLst wa) (wCons wb wNil))) (tOp rRep (tLst ta) tb) := fun B σ P G H Γ c Q R a w k => by
  have w : wa Γ c fun zs c1 => dzs zs fun ds => ds.length ≤ sizeLine ∧ wb Γ c1 fun y c2 => dvs [.d (.list ds), y] fun xs => xRepl xs fun r => Q (.d r) c2 := w
  refine ha B σ P G H Γ c _ _ a w fun vs P1 G1 H1 c1 zs s1 w1 r1 q1 => ?_
  obtain ⟨ds, e, da, hz, q⟩ := dzs_of r1 q1
  have lv := da.length
  refine ⟨by omega, fun p hp => ?_⟩
  have s2 := Stp.new (o := .lst vs) w1 hp
  have w2 : Wd P1 (upd G1 p (.lst vs)) (upd H1 p (.lst vs)) c1 := w1.new hp (by show vs.length ≤ _; omega)
  have s12 := s1.trans s2
  refine hb B σ P1 _ _ Γ c1 _ _ (a.step s12 w2) q fun y P3 G3 H3 c3 zy s3 w3 r3 q3 => ?_
  have dl : Dq K (upd G1 p (.lst vs)) (.ref p) (.list ds) := .lst upd_same (dpa_mono s2.gg _ _ da)
  have rl : ZR K P3 G3 H3 B.H (.d (.list ds)) (.ref p) := dp_mono s3.gg _ _ dl
  obtain ⟨xs, q, ex⟩ := dvs_of (B := B) (.cons rl (.cons r3 .nil)) q3
  unfold xRepl at q
  split at q
  · rename_i xs0 kk
    obtain ⟨z1, z2, v1, v2, hz1, hv1, r, r', e1, e2⟩ := zrs2 (.cons rl (.cons r3 .nil)) ex
    cases hz1
    cases hv1
    cases e1
    obtain ⟨⟨h1, h2, h3⟩, q⟩ := q
    have ey := zr_int w3 r' e2
    subst ey
    refine ⟨p, kk, vs, rfl, rfl, w3.gh _ _ (s3.gg _ _ upd_same), h1, h2, by rw [lv]; exact h3, fun p4 hp4 => ?_⟩
    have s4 := Stp.new (o := .lst (List.replicate kk.toNat vs).flatten) w3 hp4
    refine k (.ref p4) P3 _ _ c3 (.d _) ((s12.trans s3).trans s4) (w3.new hp4 (by show (List.replicate kk.toNat vs).flatten.length ≤ _; rw [rep_len, lv, Nat.mul_comm]; exact h3)) (show Dq K _ _ _ from .lst upd_same ?_) q
    have d3 : DqAll K G3 vs ds := dpa_mono s3.gg _ _ (dpa_mono s2.gg _ _ da)
    exact DqAll.rep (dpa_mono s4.gg _ _ d3) _
  · exact q.elim
/-- upper -/
def rUp : V → List V → Hp → VK → Prop := fun x xs H Q => ∃ a, x = .str a ∧ xs = [] ∧ a.length ≤ 5592405 ∧ Q (.str (Txt.upper a)) H
theorem imp_upper {wa : WE} {ta : TE} (ha : Imp K wa ta) : Imp K (wExt Gd .upper (wCons wa wNil)) (tBM0 K "str" rUp ta) := fun B σ P G H Γ c Q R a w k => by
  refine ha B σ P G H Γ c _ _ a w fun x P1 G1 H1 c1 zx s1 w1 r1 q1 => ?_
  obtain ⟨ds, q, e⟩ := dvs_of (B := B) (.cons r1 .nil) q1
  have q : xUp ds (fun r => Q (.d r) c1) := q
  unfold xUp at q
  split at q
  · obtain ⟨z, v, hz, hv, r, ez⟩ := zrs1 (.cons r1 .nil) e
    cases hz
    cases hv
    have ex := zr_str w1 r ez
    subst ex
    exact ⟨rfl, _, rfl, rfl, q.1, k _ P1 G1 H1 c1 (.d _) s1 w1 (show Dq K _ _ _ from .str _) q.2⟩
  · exact q.elim
/-- list(range(n)) -/
theorem dq_ints0 {K : PySem.W.Frag} {G : Hp} (a : Int) : ∀ l : List Nat, DqAll K G (l.map fun i => V.int (a + (i : Nat))) (l.map fun i => PyData.int (a + (i : Nat)))
  | [] => .nil
  | i :: r => .cons (.int _) (dq_ints0 a r)
theorem imp_lrng {wa : WE} {ta : TE} (ha : Imp K wa ta) : Imp K (wExt Gd .lrng (wCons wa wNil)) (tLstRg (tRg1 ta)) := fun B σ P G H Γ c Q R a w k => by
  refine ha B σ P G H Γ c _ _ a w fun x P1 G1 H1 c1 zx s1 w1 r1 q1 => ?_
  obtain ⟨ds, q, e⟩ := dvs_of (B := B) (.cons r1 .nil) q1
  have q : xLrng ds (fun r => Q (.d r) c1) := q
  unfold xLrng at q
  split at q
  · rename_i j q0
    obtain ⟨z, v, hz, hv, r, ez⟩ := zrs1 (.cons r1 .nil) e
    cases hz
    cases hv
    have ex := zr_int w1 r ez
    subst ex
    obtain ⟨⟨h1, h2⟩, q⟩ := q
    refine ⟨j, rfl, ⟨by omega, by omega, by omega, by omega, by omega⟩, fun p hp => ?_⟩
    have s2 := Stp.new (o := .lst (rgV 0 j)) w1 hp
    exact k _ P1 _ _ c1 (.d _) (s1.trans s2) (w1.new hp (by show (rgV 0 j).length ≤ _; rw [rgV_length, sizeLine_eq]; omega)) (show Dq K _ _ _ from .lst upd_same (dq_ints0 0 _)) q
  · exact q.elim
end
end Z
/-! Z13 -/
set_option maxRecDepth 100000
/-! from the text to its short form -/
namespace Z
open PySem PySem.Spec PyProof.Rows L2
/-- where a piece of text stands -/
structure CE where
  N : List Str
  sc : Scope
  fn : Str → Bool
  fs : List Str
  gs : List Str
  bs : List Str
  ks : List (Str × List Str)
  ds : List Str
def ixOf : List Str → Str → Option Nat
  | [], _ => none
  | y :: r, x => if y = x then some 0 else (ixOf r x).map (· + 1)
theorem ixOf_get : ∀ {l : List Str} {x : Str} {i : Nat}, ixOf l x = some i → l[i]? = some x
  | [], _, _, h => by cases h
  | y :: r, x, i, h => by
    unfold ixOf at h
    split at h
    · rename_i e
      cases h
      rw [e]; rfl
    · cases q : ixOf r x with
      | none => rw [q] at h; cases h
      | some j =>
        rw [q] at h
        cases h
        simpa using ixOf_get q
def visB (sc : Scope) (x : Str) : Bool := match sc.names.lookup x with
  | some .local => true
  | some .cell => true
  | some .free => true
  | _ => false
theorem visB_ok {sc : Scope} {x : Str} (h : visB sc x = true) : Vis sc x := by
  unfold visB at h
  split at h <;> first | (cases h; done) | skip
  · exact .inl (by assumption)
  · exact .inr (.inl (by assumption))
  · exact .inr (.inr (by assumption))
def glB (sc : Scope) (x : Str) : Bool := match sc.names.lookup x with
  | some .globalImplicit => true
  | _ => false
theorem glB_ok {sc : Scope} {x : Str} (h : glB sc x = true) : sc.names.lookup x = some .globalImplicit := by
  unfold glB at h
  split at h
  · assumption
  · cases h
/-- may be stored to: its slot -/
def locB (C : CE) (x : Str) : Bool := match C.sc.names.lookup x with
  | some .local => true
  | some .cell => C.fn x
  | _ => false
def dbg : Str := "__debug__"
def cdc : Str := "__classdict__"
def okN (x : Str) : Bool := !(x == dbg) && !(x == cdc)
/-- neither a star nor a set's display -/
def plainX : Expr → Bool
  | .Starred _ _ => false
  | .Set _ _ _ => false
  | .Slice _ _ _ _ => false
  | _ => true
/-- has methods of its own value -/
def recvX : Expr → Bool
  | .Name _ _ => true
  | .Call _ (_ :: _) _ _ => true
  | .Subscript _ _ _ => true
  | .List _ _ => true
  | _ => false
def isTupX : Expr → Bool
  | .Tuple _ _ _ => true
  | _ => false
def bfL : List (String × Bf) := [("len", .len), ("abs", .abs), ("max", .max), ("min", .min), ("sum", .sum), ("all", .all), ("any", .any), ("sorted", .sorted), ("tuple", .tuple), ("list", .list), ("int", .int), ("repr", .repr)]
def bfGo : List (String × Bf) → Str → Option Bf
  | [], _ => none
  | (n, b) :: r, f => if f = Str.ofString n then some b else bfGo r f
def bfOf (f : Str) : Option Bf := bfGo bfL f
def cName (C : CE) (x : Str) : Option IE :=
  if okN x then
    if visB C.sc x then (ixOf C.N x).map .var
    else if glB C.sc x then (ixOf C.gs x).map .glb else none
  else none
def cAll (rec : Expr → Option IE) : List Expr → Option (List IE)
  | [] => some []
  | e :: es => if plainX e then (match rec e, cAll rec es with
    | some a, some as => some (a :: as)
    | _, _ => none) else none
def cBool (rec : Expr → Option IE) (mk : IE → IE → IE) : List Expr → Option IE
  | [e] => rec e
  | e :: es => match rec e, cBool rec mk es with
    | some a, some b => some (mk a b)
    | _, _ => none
  | [] => none
def cO (rec : Expr → Option IE) : Option Expr → Option (Option IE)
  | none => some none
  | some e => (rec e).map some
def isiOf (C : CE) (e : Expr) : Option String := match e with
  | .Name x _ => if glB C.sc x && okN x && decide (x ∈ C.bs) then
      (if x = "int" then some "int" else if x = "bool" then some "bool" else if x = "str" then some "str" else if x = "tuple" then some "tuple" else if x = "list" then some "list" else none) else none
  | _ => none
def cCall (C : CE) (rec : Expr → Option IE) (f : Str) (args : List Expr) : Option IE :=
  if glB C.sc f && okN f then
    match ixOf C.fs f with
    | some k => (cAll rec args).map (.call k)
    | none =>
      if decide (f ∈ C.bs) then
        match args with
        | [] => none
        | e :: es => if f = "isinstance" then (match es with
            | [t] => (match isiOf C t with
              | some T => if plainX e then (rec e).map (fun a => .isi a T) else none
              | none => none)
            | _ => none) else
          match bfOf f with
          | some b => (cAll rec (e :: es)).map (.blt b)
          | none => none
      else none
  else none
def ownOf (N : List Str) : List (Str × NameKind) → List (Str × Nat)
  | [] => []
  | (y, k) :: r => match k, ixOf N y with
    | .local, some i => (y, i) :: ownOf N r
    | .cell, some i => (y, i) :: ownOf N r
    | _, _ => ownOf N r
/-- within a comprehension's block -/
def CE.blk (C : CE) (scope : Scope) : CE := { C with sc := relS scope C.sc, fn := fun x => scope.names.lookup x == some .cell }
mutual
def cTg (C : CE) : Nat → Expr → Option Tg
  | 0, _ => none
  | n + 1, .Name x _ => if locB C x then (ixOf C.N x).map .n else none
  | n + 1, .Tuple es _ _ => (cTgs C n es).map .t
  | _ + 1, _ => none
def cTgs (C : CE) : Nat → List Expr → Option (List Tg)
  | 0, _ => none
  | _ + 1, [] => some []
  | n + 1, e :: es => if plainX e then (match cTg C n e, cTgs C n es with
    | some a, some as => some (a :: as)
    | _, _ => none) else none
end
/-- a, b, *rest -/
def cStar (C : CE) (n : Nat) : List Expr → Option (List Tg × Nat)
  | [] => none
  | [.Starred (.Name x _) _] => if locB C x then (ixOf C.N x).map fun i => ([], i) else none
  | e :: es => if plainX e then (match cTg C n e, cStar C n es with
    | some a, some (as, i) => some (a :: as, i)
    | _, _ => none) else none
def plainI : IE → Bool
  | .blt .range _ => false
  | .blt .zip _ => false
  | .blt .enum _ => false
  | .blt .rev _ => false
  | _ => true
def plainT : IE → Bool
  | .and _ _ => false
  | .or _ _ => false
  | .not _ => false
  | .cmp _ _ _ => false
  | .chn _ _ _ _ _ => false
  | _ => true
def onlyT (o : Option IE) : Option IE := match o with
  | some ie => if plainT ie then some ie else none
  | none => none
def onlyI (o : Option IE) : Option IE := match o with
  | some ie => if plainI ie then some ie else none
  | none => none
def subS (a b : List Nat) : Bool := a.all fun i => decide (i ∈ b)
/-- what is walked -/
def cI (C : CE) (rec : Expr → Option IE) (tg : Expr) (it : Expr) : Option IE :=
  if plainX it then
    match it with
    | .Call (.Name f _) [a] [] _ =>
      if glB C.sc f && okN f && decide (f ∈ C.bs) && (ixOf C.fs f).isNone && decide (f = "range") then (if plainX a then (rec a).map fun a => .blt .range [a] else none)
      else if glB C.sc f && okN f && decide (f ∈ C.bs) && (ixOf C.fs f).isNone && decide (f = "enumerate") then (if plainX a && isTupX tg then (rec a).map fun a => .blt .enum [a] else none)
      else onlyI (rec it)
    | .Call (.Name f _) [a, b] [] _ =>
      if glB C.sc f && okN f && decide (f ∈ C.bs) && (ixOf C.fs f).isNone && decide (f = "range") then (if plainX a && plainX b then (match rec a, rec b with | some a, some b => some (.blt .range [a, b]) | _, _ => none) else none)
      else if glB C.sc f && okN f && decide (f ∈ C.bs) && (ixOf C.fs f).isNone && decide (f = "zip") then (if plainX a && plainX b && isTupX tg then (match rec a, rec b with | some a, some b => some (.blt .zip [a, b]) | _, _ => none) else none)
      else onlyI (rec it)
    | _ => onlyI (rec it)
  else none
/-- joined forms, calls by keywords -/
inductive Hk where
  | x (k : Xk)
  | k (j : Nat)
def mkH : Hk → List IE → IE
  | .x k, es => .ext k es
  | .k j, es => .call (100 + j) es
def kixOf : List (Str × List Str) → Str → List Str → Option Nat
  | [], _, _ => none
  | (y, ms) :: r, x, ns => if y = x ∧ ms = ns then some 0 else (kixOf r x ns).map (· + 1)
theorem kixOf_get : ∀ {l : List (Str × List Str)} {x : Str} {ns : List Str} {i : Nat}, kixOf l x ns = some i → l[i]? = some (x, ns)
  | [], _, _, _, h => by cases h
  | (y, ms) :: r, x, ns, i, h => by
    unfold kixOf at h
    split at h
    · rename_i e
      cases h
      rw [e.1, e.2]; rfl
    · cases q : kixOf r x ns with
      | none => rw [q] at h; cases h
      | some j =>
        rw [q] at h
        cases h
        simpa using kixOf_get q
def kwN : List Keyword → Option (List Str)
  | [] => some []
  | ⟨some x, _, _⟩ :: r => (kwN r).map (x :: ·)
  | ⟨none, _, _⟩ :: _ => none
def kwE : List Keyword → List Expr
  | [] => []
  | ⟨_, e, _⟩ :: r => e :: kwE r
/-- a name that stands for the built-in -/
def bltB (C : CE) (f : Str) : Bool := glB C.sc f && okN f && decide (f ∈ C.bs) && (ixOf C.fs f).isNone
def cHook (C : CE) : Expr → Option (Hk × List Expr)
  | .Call (.Name f _) [.Call (.Name g _) [a] [] _] [] _ => if bltB C f && bltB C g && decide (g = "set") && plainX a then (if f = "len" then some (.x .lenset, [a]) else if f = "sorted" then some (.x .srtset, [a]) else none) else none
  | .Call (.Name f _) [] (kw :: kws) _ => if glB C.sc f && okN f then (match kwN (kw :: kws) with
    | some ns => (match kixOf C.ks f ns with
      | some j => some (.k j, kwE (kw :: kws))
      | none => none)
    | none => none) else none
  | _ => none
def recvDX (o : Expr) : Bool := match o with
  | .Dict _ _ _ => true
  | o => recvX o
/-- a written key -/
def keyX : Option Expr → Option Key
  | some (.Constant (.int i) _ _) => some (.inl i)
  | some (.Constant (.str x) _ _) => some (.inr x)
  | _ => none
def keysX : List (Option Expr) → Option (List Key)
  | [] => some []
  | e :: r => match keyX e, keysX r with
    | some k, some ks => some (k :: ks)
    | _, _ => none
/-- a module's dict -/
def mdX (C : CE) (x : Str) : Option Nat := if glB C.sc x && okN x && !visB C.sc x then ixOf C.ds x else none
/-- further forms -/
def cHx (rec : Expr → Option IE) (C : CE) : Expr → Option IE
  | .Dict keys vals _ => (match keysX keys, cAll rec vals with
    | some ks, some vs => if decide (ks.length = vs.length) && decide (keys.length = vals.length) && decide (ks.length ≤ 15) then some (.ext (.dsp ks) vs) else none
    | _, _ => none)
  | .Subscript (.Name x _) i _ => (match mdX C x with
    | some j => if plainX i then (rec i).map fun a => .ext (.gix j) [a] else none
    | none => none)
  | .Call (.Attribute (.Name x _) m ap) [a, b] [] cp => (match mdX C x with
    | some j => if m = "get" && ap.endLine == cp.line && plainX a && plainX b then (match rec a, rec b with
      | some a, some b => some (.ext (.gget j) [a, b])
      | _, _ => none) else none
    | none => none)
  | .Call (.Attribute o m ap) [a] [] cp => if m = "get" && ap.endLine == cp.line && recvDX o && plainX a then (match rec o, rec a with
      | some o, some a => some (.mth .get o [a])
      | _, _ => none) else none
  | .Call (.Attribute o m ap) [] [] cp => if m = "upper" && ap.endLine == cp.line && recvX o then (rec o).map fun o => .ext .upper [o] else none
  | .Call (.Name f _) [.Name x _] [] _ => if bltB C f && decide (f = "list") then (match mdX C x with
    | some j => some (.ext (.gkeys j) [])
    | none => none) else none
  | .Call (.Name f _) [.Call (.Name g _) [a] [] _] [] _ => if bltB C f && decide (f = "list") && bltB C g && decide (g = "range") && plainX a then (rec a).map fun a => .ext .lrng [a] else none
  | .BinOp (.List es _) .Mult b _ => (match cAll rec es, rec b with
    | some es, some b => some (.ext .repl [.lst es, b])
    | _, _ => none)
  | _ => none
def cHx2 (rec : Expr → Option IE) : Expr → Option IE
  | .Call (.Attribute o m ap) [a, b] [] cp => if m = "get" && ap.endLine == cp.line && recvDX o && plainX a && plainX b then (match rec o, rec a, rec b with
      | some o, some a, some b => some (.mth .get o [a, b])
      | _, _, _ => none) else none
  | _ => none
def orE (a b : Option IE) : Option IE := match a with
  | some x => some x
  | none => b
mutual
def cE : Nat → CE → Expr → Option IE
  | 0, _, _ => none
  | n + 1, C, e => match cHook C e with
    | some (k, args) => (cAll (cE n C) args).map (mkH k)
    | none => match orE (cHx (cE n C) C e) (cHx2 (cE n C) e) with
    | some ie => some ie
    | none => match e with
    | .Constant (.int i) _ _ => some (.int i)
    | .Constant (.bool b) _ _ => some (.bl b)
    | .Constant .none _ _ => some .non
    | .Constant (.str s) _ _ => some (.str s)
    | .Name x _ => cName C x
    | .Tuple es _ _ => (cAll (cE n C) es).map .tup
    | .List es _ => (cAll (cE n C) es).map .lst
    | .BinOp a op b _ => (match cE n C a, cE n C b with
      | some a, some b => some (.bin op a b)
      | _, _ => none)
    | .UnaryOp .USub a _ => (cE n C a).map .neg
    | .UnaryOp .Not a _ => (cE n C a).map .not
    | .BoolOp .And es _ => cBool (cE n C) .and es
    | .BoolOp .Or es _ => cBool (cE n C) .or es
    | .Compare a [op] [b] _ => if plainX b then (match cE n C a, cE n C b with
      | some a, some b => some (.cmp op a b)
      | _, _ => none) else none
    | .Compare a [op, op'] [b, c] _ => if plainX b && plainX c then (match cE n C a, cE n C b, cE n C c with
      | some a, some b, some c => some (.chn op op' a b c)
      | _, _, _ => none) else none
    | .IfExp t a b _ => (match cT n C t, cE n C a, cE n C b with
      | some t, some a, some b => some (.ite t a b)
      | _, _, _ => none)
    | .Subscript a (.Slice lo hi none _) _ => (match cE n C a, cO (cE n C) lo, cO (cE n C) hi with
      | some a, some l, some h => some (.sl a l h)
      | _, _, _ => none)
    | .Subscript a i _ => if plainX i then (match cE n C a, cE n C i with
      | some a, some i => some (.ix a i)
      | _, _ => none) else none
    | .Call (.Name f _) args [] _ => cCall C (cE n C) f args
    | .Call (.Attribute o m ap) [a] [] cp => if m = "index" && ap.endLine == cp.line && recvX o && plainX a then (match cE n C o, cE n C a with
      | some o, some a => some (.mth .index o [a])
      | _, _ => none) else none
    | .ListComp elt [⟨tg, it, ifs, 0⟩] scope _ =>
      let ow := ownOf C.N scope.names
      if blkC C.N C.sc scope ow then (match cI C (cE n C) tg it, cTg (C.blk scope) n tg, cE n (C.blk scope) elt, cIfs n (C.blk scope) ifs with
        | some it, some tg, some elt, some cd => if subS (tgS tg) (ow.map (·.2)) then some (.lc (ow.map (·.2)) tg it cd elt) else none
        | _, _, _, _ => none) else none
    | .ListComp elt [⟨tg, it, ifs, 0⟩, ⟨tg2, it2, ifs2, 0⟩] scope _ =>
      let ow := ownOf C.N scope.names
      if blkC C.N C.sc scope ow then (match cI C (cE n C) tg it, cTg (C.blk scope) n tg, cIfs n (C.blk scope) ifs, cI (C.blk scope) (cE n (C.blk scope)) tg2 it2, cTg (C.blk scope) n tg2, cIfs n (C.blk scope) ifs2, cE n (C.blk scope) elt with
        | some it, some tg, some cd, some it2, some tg2, some cd2, some elt => if subS (tgS tg) (ow.map (·.2)) && subS (tgS tg2) (ow.map (·.2)) then some (.lc2 (ow.map (·.2)) tg it cd (tgS tg2) tg2 it2 cd2 elt) else none
        | _, _, _, _, _, _, _ => none) else none
    | _ => none
def cIfs : Nat → CE → List Expr → Option (Option IE)
  | 0, _, _ => none
  | n + 1, C, ifs => match ifs with
    | [] => some none
    | [c] => (cT n C c).map some
    | _ => none
def cT : Nat → CE → Expr → Option IE
  | 0, _, _ => none
  | n + 1, C, e => match e with
    | .UnaryOp .Not a _ => (cT n C a).map .not
    | .BoolOp .And es _ => cBool (cT n C) .and es
    | .BoolOp .Or es _ => cBool (cT n C) .or es
    | .Compare a [op] [b] _ => if plainX b then (match cE n C a, cE n C b with
      | some a, some b => some (.cmp op a b)
      | _, _ => none) else none
    | .Compare a [op, op'] [b, c] _ => if plainX b && plainX c then (match cE n C a, cE n C b, cE n C c with
      | some a, some b, some c => some (.chn op op' a b c)
      | _, _, _ => none) else none
    | .Name x p => onlyT (cE n C (.Name x p))
    | .Call f args kws p => onlyT (cE n C (.Call f args kws p))
    | .Subscript a i p => onlyT (cE n C (.Subscript a i p))
    | _ => none
end
end Z
/-! Z14 -/
set_option maxRecDepth 100000
/-! the short form's meaning leads to the machine: expressions -/
namespace Z
open PySem PySem.Spec PyProof.Rows L2
structure Mo where
  P : Program
  w : World
  K : PySem.W.Frag
  mg : Str → Option Value
  base : Heap
  lv : Nat
structure XOk (M : Mo) (C : CE) (X : Cx) : Prop where
  P : X.prog = M.P
  w : X.w = M.w
  K : X.K = M.K
  mg : X.mg = M.mg
  base : X.base = M.base
  N : X.N = C.N
  sc : X.env.scope = C.sc
  calm : X.calm = true
  nd : C.N.Nodup
  room : Room M.lv X.A
  gd : Gd0 X.A
  fn : ∀ x, C.fn x = true → X.fn x = true
/-- what is known of the module -/
def permL {α : Type} (perm : List Nat) (l : List α) : List α := perm.filterMap (l[·]?)
/-- a call by keywords alone -/
structure KwB (K : PySem.W.Frag) (fd : FuncData) (ps ns : List Str) (perm : List Nat) : Prop where
  to : ∀ (s : Shared) (us : List Value), K.In s.heap → us.length = ns.length → BindsTo s fd ⟨[], ns.zip us⟩ (ps.zip (permL perm us)) ∧ (permL perm us).length = ps.length
structure MOk (M : Mo) (fs gs bs : List Str) (ks : List (Str × List Str)) (dn : List Str) (F : Nat → Ct) (Gd : Nat → PyData) : Prop where
  fn : ∀ i x, fs[i]? = some x → ∃ f fd ps, M.mg x = some (.ref f) ∧ PySem.W.keepIn M.K (.ref f) = true ∧ Binds M.K fd ps [] ∧ FnZ M.P M.w M.K M.mg M.base M.lv f fd ps (spOf M.K (F i))
  gl : ∀ i x, gs[i]? = some x → ∃ v u, M.mg x = some u ∧ RelV v u ∧ Dq M.K (fun _ => none) v (Gd i)
  bl : ∀ x, x ∈ bs → M.mg x = none
  dk : ∀ j x, dn[j]? = some x → GK M.w M.K M.mg x (Gd (1000 + j))
  kw : ∀ j x ns, ks[j]? = some (x, ns) → ∃ f fd ps ct perm, M.mg x = some (.ref f) ∧ PySem.W.keepIn M.K (.ref f) = true ∧ KwB M.K fd ps ns perm ∧ FnZ M.P M.w M.K M.mg M.base M.lv f fd ps (spOf M.K ct) ∧
    ∀ zs c Q, F (100 + j) zs c Q → zs.length = ns.length ∧ ct (permL perm zs) c Q
def PZ (M : Mo) (C : CE) (e : Expr) (w : WE) : Prop := ∃ t, Imp M.K w t ∧ ∀ X, XOk M C X → PE X e t
def PZA (M : Mo) (C : CE) (es : List Expr) (w : WA) : Prop := ∃ t, ImpA M.K w t ∧ ∀ X, XOk M C X → PA X es t
def PZT (M : Mo) (C : CE) (e : Expr) (w : WT) : Prop := ∃ t, ImpT M.K w t ∧ ∀ X, XOk M C X → PT X e t
def PZW (M : Mo) (C : CE) (e : Expr) (w : WT) : Prop := ∃ t, ImpT M.K w t ∧ ∀ X, XOk M C X → PW X e t
def PZO (M : Mo) (C : CE) (e : Option Expr) (w : WO) : Prop := ∃ t, ImpO M.K w t ∧ ∀ X, XOk M C X → PO X e t
def PZI (M : Mo) (C : CE) (tg it : Expr) (w : WI) : Prop := ∃ t, ImpI M.K w t ∧ ∀ X, XOk M C X → PI X tg it t
def PZG (M : Mo) (C : CE) (tg : Expr) (t : Tg) : Prop := ∃ g, ImpG M.K (tgS t) (wTg t) g ∧ ∀ X, XOk M C X → PG X tg g
def PZGs (M : Mo) (C : CE) (tg : List Expr) (t : List Tg) : Prop := ∃ g, ImpGs M.K t.length (tgsS t) (wTgs t) g ∧ tg.length = t.length ∧ ∀ X, XOk M C X → PGs X tg g
section
variable {M : Mo} {C : CE} {F : Nat → Ct} {Gd : Nat → PyData}
theorem star_of {e : Expr} (h : plainX e = true) (es : List Expr) (env : Env) : starEach (e :: es) env = (false, eval e env) :: starEach es env := by
  cases e <;> first | rfl | cases h
theorem stars_of {es : List Expr} (h : es.all plainX = true) (env : Env) (pos : Pos) : (backTo pos (starEach es env)).any (·.1) = false := by
  induction es with
  | nil => rfl
  | cons e es ih =>
    rw [List.all_cons, Bool.and_eq_true] at h
    rw [star_of h.1]
    show (false || (backTo pos (starEach es env)).any (·.1)) = false
    rw [ih h.2]; rfl
theorem marks_of {op : CmpOp} {b : Expr} (h : plainX b = true) : behindInMarks op b = false := by
  cases b <;> first | rfl | cases h
theorem lmarks_of {op op' : CmpOp} {b c : Expr} (h : plainX c = true) : lastMarks [op, op'] [b, c] = false := by
  show behindInMarks op' c = false
  exact marks_of h
theorem fold_of {b : Expr} (h : plainX b = true) (env : Env) (x : Value) : foldedSetIterable b env x = pure x := by
  cases b <;> first | rfl | cases h
theorem ix_of {b : Expr} (h : plainX b = true) : PlainIx b := by
  intro o i
  cases b <;> first | rfl | cases h
theorem recv_of {o : Expr} (h : recvX o = true) (m : Str) (env : Env) : attributeBase o m env (eval o env) = eval o env := by
  cases o with
  | Call f as kw p =>
    cases as with
    | nil => cases h
    | cons _ _ => cases f <;> rfl
  | Name _ _ => rfl
  | Subscript _ _ _ => rfl
  | List _ _ => rfl
  | _ => cases h
theorem few_of {a : Expr} (h : plainX a = true) (env : Env) (cpos : Pos) : ((backTo cpos (starEach [a] env)).all (fun x => !x.1) && (backToKw cpos (keywordEach [] env)).all (fun x => x.1.isSome)
      && decide (([a] : List Expr).length + ([] : List Keyword).length + (if ([] : List Keyword).isEmpty then 0 else 1) < 30)) = true := by
  rw [star_of h]
  rfl
theorem okN_dbg {x : Str} (h : okN x = true) : (x == ("__debug__" : Str)) = false := by
  unfold okN dbg cdc at h
  rw [Bool.and_eq_true] at h
  simpa using h.1
theorem okN_cdc {x : Str} (h : okN x = true) : (x == ("__classdict__" : Str)) = false := by
  unfold okN dbg cdc at h
  rw [Bool.and_eq_true] at h
  simpa using h.2
theorem gl_of {X : Cx} (x : XOk M C X) {f : Str} (h : glB C.sc f = true) : Gl X f := by
  unfold Gl Env.kindOf
  rw [x.sc]
  exact glB_ok h
theorem okN_name {x : Str} (h : bootBuiltins x ≠ none) : True := trivial
theorem permL_zvs {K : PySem.W.Frag} {P : Addr → Prop} {G : Hp} {zs : List Zv} {vs : List V} (h : ZVs K P G zs vs) : ∀ perm : List Nat, ZVs K P G (permL perm zs) (permL perm vs)
  | [] => .nil
  | i :: perm => by
    have ih := permL_zvs h perm
    unfold permL at ih ⊢
    rw [List.filterMap_cons, List.filterMap_cons]
    cases e : zs[i]? with
    | none =>
      have : vs[i]? = none := by
        rw [List.getElem?_eq_none_iff] at e ⊢
        rw [← h.length]; exact e
      rw [this]
      exact ih
    | some z =>
      obtain ⟨v, e2, hz⟩ := h.get e
      rw [e2]
      exact .cons hz ih
theorem permL_vals {vs : List V} {us : List Value} (h : Vals vs us) : ∀ perm : List Nat, Vals (permL perm vs) (permL perm us)
  | [] => .nil
  | i :: perm => by
    have ih := permL_vals h perm
    unfold permL at ih ⊢
    rw [List.filterMap_cons, List.filterMap_cons]
    cases e : vs[i]? with
    | none =>
      have : us[i]? = none := by
        rw [List.getElem?_eq_none_iff] at e ⊢
        rw [← h.length]; exact e
      rw [this]
      exact ih
    | some v =>
      obtain ⟨u, e2, r⟩ := h.get e
      rw [e2]
      exact .cons r ih
def tCallP (sp : Sp) (n : Nat) (perm : List Nat) (tk : TA) : TE := fun σ H Q => tk σ H fun zs H1 => zs.length = n ∧ sp (permL perm zs) H1 Q E0
theorem kw_names : ∀ {kws : List Keyword} {ns : List Str}, kwN kws = some ns → ∀ (pos : Pos) (env : Env), (backToKw pos (keywordEach kws env)).all (·.1.isSome) = true ∧ (backToKw pos (keywordEach kws env)).filterMap (·.1) = ns ∧ (backToKw pos (keywordEach kws env)).any (·.1.isNone) = false
  | [], ns, h, pos, env => by cases h; exact ⟨rfl, rfl, rfl⟩
  | ⟨some x, e, p⟩ :: r, ns, h, pos, env => by
    unfold kwN at h
    cases q : kwN r with
    | none => rw [q] at h; cases h
    | some ms =>
      rw [q] at h
      cases h
      obtain ⟨h1, h2, h3⟩ := kw_names q pos env
      refine ⟨?_, ?_, ?_⟩
      · show (true && (backToKw pos (keywordEach r env)).all (·.1.isSome)) = true
        rw [h1]; rfl
      · show x :: (backToKw pos (keywordEach r env)).filterMap (·.1) = x :: ms
        rw [h2]
      · show (false || (backToKw pos (keywordEach r env)).any (·.1.isNone)) = false
        rw [h3]; rfl
  | ⟨none, e, p⟩ :: r, ns, h, pos, env => by cases h
theorem pe_callKZ {X : Cx} {k : Nat} {f : Addr} {fd : FuncData} {ps ns : List Str} {perm : List Nat} {sp : Sp} {x : Str} {p pos : Pos} {kws : List Keyword} {tk : TA} (Fz : FnZ X.prog X.w X.K X.mg X.base k f fd ps sp) (hr : Room k X.A) (hgd : Gd0 X.A) (hg : Gl X x) (hm : X.mg x = some (.ref f)) (hk : PySem.W.keepIn X.K (.ref f) = true)
    (hb : KwB X.K fd ps ns perm) (hn : kwN kws = some ns) (hkw : PK X kws tk) (hdb : (x == ("__debug__" : Str)) = false) : PE X (.Call (.Name x p) [] kws pos) (tCallP sp ns.length perm tk) := ⟨fun pins s σ H Q I h => by
  obtain ⟨h1, h2, h3⟩ := kw_names hn pos X.env
  refine wpAny_Call_Name_kw (ld_glob I hg hm ?_ hdb)
  refine PySem.W.callWith_KW0 (h₀ := X.base) I.ok.mod.kin hk h1 (thn (hkw.run pos pins s σ H _ I h) fun us s1 ⟨vs, H1, I1, r, hl, q⟩ => ⟨I1.kIn, ?_⟩) (by rw [h3]; rfl)
  rw [h2]
  have hl2 : us.length = ns.length := by rw [← r.length]; exact hl
  obtain ⟨b1, b2⟩ := hb.to s1 us I1.kIn hl2
  have run := Fz.go X.A X.stack s1 H1 ⟨[], ns.zip us⟩ (permL perm us) (permL perm vs) Q E0 hr hgd I1.env0 b1 (permL_vals r perm) q
  refine wpAny_call (codeAny_mono run fun q s' hq => ?_)
  match q, hq with
  | .ok (.ret u), hq => exact I1.after hq
  | .error e, hq => exact hq.elim
  | .ok .next, hq => exact hq.elim
  | .ok .brk, hq => exact hq.elim
  | .ok .cont, hq => exact hq.elim⟩
theorem imp_kw {K : PySem.W.Frag} {ct ct' : Ct} {n : Nat} {perm : List Nat} {w : WA} {t : TA} (ha : ImpA K w t) (hc : ∀ zs c Q, ct' zs c Q → zs.length = n ∧ ct (permL perm zs) c Q) : Imp K (wCall ct' w) (tCallP (spOf K ct) n perm t) := fun B σ P G H Γ c Q R a w' k => by
  refine ha B σ P G H Γ c _ _ a w' fun vs P1 G1 H1 c1 zs s1 w1 r1 q1 => ?_
  obtain ⟨q, hz⟩ := cln_of r1 q1
  obtain ⟨hl, q⟩ := hc _ _ _ q
  exact ⟨by rw [← hz.length]; exact hl, P1, G1, c1, permL perm zs, Q, w1, permL_zvs hz perm, q, fun v P' G' H' c' z s w2 h q2 => k v P' G' H' c' z (s1.trans s) w2 h.zr q2⟩
/-- the keywords' values -/
theorem pk_all {rec : Expr → Option IE} (hr : ∀ e ie, rec e = some ie → PZ M C e (wE F Gd ie)) : ∀ {kws : List Keyword} {ies : List IE}, cAll rec (kwE kws) = some ies → ∃ t, ImpA M.K (w3s F Gd ies) t ∧ ∀ X, XOk M C X → PK X kws t
  | [], ies, h => by cases h; exact ⟨tNil, imp_a0, fun X _ => pk_nil⟩
  | ⟨nm, e, p⟩ :: r, ies, h => by
    unfold kwE cAll at h
    split at h
    · split at h
      · rename_i a as e1 e2
        cases h
        obtain ⟨t, i, q⟩ := hr e a e1
        obtain ⟨ts, is, qs⟩ := pk_all hr e2
        exact ⟨tCons t ts, imp_a1 i is, fun X xo => pk_cons (q X xo) (qs X xo)⟩
      · cases h
    · cases h
/-- a name -/
theorem pz_name (MO : MOk M C.fs C.gs C.bs C.ks C.ds F Gd) {x : Str} {p : Pos} {ie : IE} (h : cName C x = some ie) : PZ M C (.Name x p) (wE F Gd ie) := by
  unfold cName at h
  split at h
  · rename_i ok
    split at h
    · rename_i vis
      cases q : ixOf C.N x with
      | none => rw [q] at h; cases h
      | some i =>
        rw [q] at h
        cases h
        exact ⟨tVar i, imp_var, fun X xo => pe_var (by rw [xo.N]; exact ixOf_get q) (by rw [xo.sc]; exact visB_ok vis) (okN_dbg ok) (okN_cdc ok)⟩
    · split at h
      · rename_i gl
        cases q : ixOf C.gs x with
        | none => rw [q] at h; cases h
        | some i =>
          rw [q] at h
          cases h
          obtain ⟨v, u, hm, r, d⟩ := MO.gl i x (ixOf_get q)
          exact ⟨tC v, imp_c fun G => dp_mono (fun _ _ e => by cases e) _ _ d, fun X xo => pe_glob (gl_of xo gl) (by rw [xo.mg]; exact hm) r (okN_dbg ok)⟩
      · cases h
  · cases h
/-- arguments -/
theorem pz_all {rec : Expr → Option IE} (hr : ∀ e ie, rec e = some ie → PZ M C e (wE F Gd ie)) : ∀ {es : List Expr} {ies : List IE}, cAll rec es = some ies → es.all plainX = true ∧ PZA M C es (w3s F Gd ies)
  | [], ies, h => by cases h; exact ⟨rfl, tNil, imp_a0, fun X _ => pa_nil⟩
  | e :: es, ies, h => by
    unfold cAll at h
    split at h
    · rename_i pl
      split at h
      · rename_i a as e1 e2
        cases h
        obtain ⟨t, i, p⟩ := hr e a e1
        obtain ⟨pls, ts, is, ps⟩ := pz_all hr e2
        refine ⟨by rw [List.all_cons, pl, pls]; rfl, tCons t ts, imp_a1 i is, fun X xo => pa_cons (p X xo) (ps X xo) (star_of pl es X.env)⟩
      · cases h
    · cases h
/-- and, or as values -/
theorem pz_and {rec : Expr → Option IE} (hr : ∀ e ie, rec e = some ie → PZ M C e (wE F Gd ie)) {pos : Pos} : ∀ {es : List Expr} {ie : IE}, cBool rec .and es = some ie → PZ M C (.BoolOp .And es pos) (wE F Gd ie)
  | [], ie, h => by cases h
  | [e], ie, h => by
    obtain ⟨t, i, p⟩ := hr e ie h
    exact ⟨t, i, fun X xo => pe_one (p X xo)⟩
  | e :: e' :: es, ie, h => by
    unfold cBool at h
    split at h
    · rename_i a b e1 e2
      cases h
      obtain ⟨t, i, p⟩ := hr e a e1
      obtain ⟨ts, is, ps⟩ := pz_and hr (es := e' :: es) e2
      exact ⟨tAndT M.K t ts, imp_and i is, fun X xo => by rw [← xo.K]; exact pe_andT (p X xo) (ps X xo)⟩
    · cases h
theorem pz_or {rec : Expr → Option IE} (hr : ∀ e ie, rec e = some ie → PZ M C e (wE F Gd ie)) {pos : Pos} : ∀ {es : List Expr} {ie : IE}, cBool rec .or es = some ie → PZ M C (.BoolOp .Or es pos) (wE F Gd ie)
  | [], ie, h => by cases h
  | [e], ie, h => by
    obtain ⟨t, i, p⟩ := hr e ie h
    exact ⟨t, i, fun X xo => pe_one (p X xo)⟩
  | e :: e' :: es, ie, h => by
    unfold cBool at h
    split at h
    · rename_i a b e1 e2
      cases h
      obtain ⟨t, i, p⟩ := hr e a e1
      obtain ⟨ts, is, ps⟩ := pz_or hr (es := e' :: es) e2
      exact ⟨tOrT M.K t ts, imp_or i is, fun X xo => by rw [← xo.K]; exact pe_orT (p X xo) (ps X xo)⟩
    · cases h
/-- .. as tests -/
theorem pzw_and {rec : Expr → Option IE} (hr : ∀ e ie, rec e = some ie → PZT M C e (wT F Gd ie)) {pos : Pos} : ∀ {es : List Expr} {ie : IE}, cBool rec .and es = some ie → PZW M C (.BoolOp .And es pos) (wT F Gd ie)
  | [], ie, h => by cases h
  | [e], ie, h => by
    obtain ⟨t, i, p⟩ := hr e ie h
    exact ⟨t, i, fun X xo => pw_and1 (p X xo)⟩
  | e :: e' :: es, ie, h => by
    unfold cBool at h
    split at h
    · rename_i a b e1 e2
      cases h
      obtain ⟨t, i, p⟩ := hr e a e1
      obtain ⟨ts, is, ps⟩ := pzw_and hr (es := e' :: es) e2
      exact ⟨tAnd t ts, impt_and i is, fun X xo => pw_and (p X xo) (ps X xo)⟩
    · cases h
theorem pzw_or {rec : Expr → Option IE} (hr : ∀ e ie, rec e = some ie → PZT M C e (wT F Gd ie)) {pos : Pos} : ∀ {es : List Expr} {ie : IE}, cBool rec .or es = some ie → PZW M C (.BoolOp .Or es pos) (wT F Gd ie)
  | [], ie, h => by cases h
  | [e], ie, h => by
    obtain ⟨t, i, p⟩ := hr e ie h
    exact ⟨t, i, fun X xo => pw_or1 (p X xo)⟩
  | e :: e' :: es, ie, h => by
    unfold cBool at h
    split at h
    · rename_i a b e1 e2
      cases h
      obtain ⟨t, i, p⟩ := hr e a e1
      obtain ⟨ts, is, ps⟩ := pzw_or hr (es := e' :: es) e2
      exact ⟨tOr t ts, impt_or i is, fun X xo => pw_or (p X xo) (ps X xo)⟩
    · cases h
theorem pz_o {rec : Expr → Option IE} (hr : ∀ e ie, rec e = some ie → PZ M C e (wE F Gd ie)) {o : Option Expr} {io : Option IE} (h : cO rec o = some io) : PZO M C o (w3o F Gd io) := by
  cases o with
  | none => cases h; exact ⟨tNoPart, impo_none, fun X _ => po_none⟩
  | some e =>
    have h : (rec e).map some = some io := h
    cases q : rec e with
    | none => rw [q] at h; cases h
    | some ie =>
      rw [q] at h
      cases h
      obtain ⟨t, i, p⟩ := hr e ie q
      exact ⟨tPart t, impo_some i, fun X xo => po_some (p X xo)⟩
theorem room_units {X : Cx} (xo : XOk M C X) : X.A.units + 100 < cLine := by
  have := xo.room.un
  omega
theorem bf_go : ∀ {l : List (String × Bf)} {f : Str} {b : Bf}, bfGo l f = some b → ∃ n, (n, b) ∈ l ∧ f = Str.ofString n
  | [], _, _, h => by cases h
  | (n, b') :: r, f, b, h => by
    unfold bfGo at h
    split at h
    · rename_i e
      cases h
      exact ⟨n, List.mem_cons_self, e⟩
    · obtain ⟨m, h1, h2⟩ := bf_go h
      exact ⟨m, List.mem_cons_of_mem _ h1, h2⟩
theorem bf_all : ∀ p ∈ bfL, (isFn p.2 = some p.1 ∨ isTy p.2 = some p.1) ∧ Str.ofString p.1 ≠ "__name__" := by
  intro p hp
  simp only [bfL, List.mem_cons, List.not_mem_nil, or_false] at hp
  rcases hp with rfl | rfl | rfl | rfl | rfl | rfl | rfl | rfl | rfl | rfl | rfl | rfl
  all_goals exact ⟨by first | exact .inl rfl | exact .inr rfl, by decide +kernel⟩
theorem bf_fn {f : Str} {b : Bf} (h : bfOf f = some b) : f ≠ "__name__" ∧ ((∃ n, isFn b = some n ∧ f = Str.ofString n) ∨ (∃ n, isTy b = some n ∧ f = Str.ofString n)) := by
  obtain ⟨n, h1, rfl⟩ := bf_go h
  obtain ⟨h2, h3⟩ := bf_all _ h1
  exact ⟨h3, h2.elim (fun e => .inl ⟨n, e, rfl⟩) fun e => .inr ⟨n, e, rfl⟩⟩
/-- isinstance's second argument -/
theorem isi_of (MO : MOk M C.fs C.gs C.bs C.ks C.ds F Gd) {e : Expr} {T : String} (h : isiOf C e = some T) : isTn T = true ∧ plainX e = true ∧ ∀ X, XOk M C X → PE X e (tC (.ty T)) := by
  unfold isiOf at h
  split at h
  · rename_i x p
    split at h
    · rename_i hc
      rw [Bool.and_eq_true, Bool.and_eq_true] at hc
      obtain ⟨⟨gl, ok⟩, mem⟩ := hc
      have mem := of_decide_eq_true mem
      have key : ∀ {n : String}, x = Str.ofString n → bootBuiltins (Str.ofString n) = some (.type n) → Str.ofString n ≠ "__name__" → ∀ X, XOk M C X → PE X (.Name x p) (tC (.ty n)) := fun {n} e hb hn X xo => by
        subst e
        exact pe_bltn (v := .ty n) (gl_of xo gl) (by rw [xo.mg]; exact MO.bl _ mem) hb rfl hn (okN_dbg ok)
      split at h
      · rename_i e; cases h; exact ⟨rfl, rfl, key (n := "int") e (by decide +kernel) (by decide +kernel)⟩
      · split at h
        · rename_i e; cases h; exact ⟨rfl, rfl, key (n := "bool") e (by decide +kernel) (by decide +kernel)⟩
        · split at h
          · rename_i e; cases h; exact ⟨rfl, rfl, key (n := "str") e (by decide +kernel) (by decide +kernel)⟩
          · split at h
            · rename_i e; cases h; exact ⟨rfl, rfl, key (n := "tuple") e (by decide +kernel) (by decide +kernel)⟩
            · split at h
              · rename_i e; cases h; exact ⟨rfl, rfl, key (n := "list") e (by decide +kernel) (by decide +kernel)⟩
              · cases h
    · cases h
  · cases h
/-- a call -/
theorem pz_call (MO : MOk M C.fs C.gs C.bs C.ks C.ds F Gd) {rec : Expr → Option IE} (hr : ∀ e ie, rec e = some ie → PZ M C e (wE F Gd ie)) {f : Str} {args : List Expr} {p pos : Pos} {ie : IE} (h : cCall C rec f args = some ie) :
    PZ M C (.Call (.Name f p) args [] pos) (wE F Gd ie) := by
  unfold cCall at h
  split at h
  · rename_i hg
    rw [Bool.and_eq_true] at hg
    obtain ⟨gl, ok⟩ := hg
    split at h
    · rename_i k ek
      cases q : cAll rec args with
      | none => rw [q] at h; cases h
      | some ies =>
        rw [q] at h
        cases h
        obtain ⟨pl, t, i, pa⟩ := pz_all hr q
        obtain ⟨fa, fd, ps, hm, kp, bd, fz⟩ := MO.fn k f (ixOf_get ek)
        have fz' : ∀ X, XOk M C X → FnZ X.prog X.w X.K X.mg X.base M.lv fa fd ps (spOf M.K (F k)) := fun X xo => by rw [xo.P, xo.w, xo.K, xo.mg, xo.base]; exact fz
        cases args with
        | nil =>
          cases q
          exact ⟨tCall (spOf M.K (F k)) [] E0 tNil, imp_fn imp_a0, fun X xo => pe_callZ0 (fz' X xo) xo.room xo.gd (gl_of xo gl) (by rw [xo.mg]; exact hm) (by rw [xo.K]; exact kp) (by rw [xo.K]; exact bd) .nil (okN_dbg ok)⟩
        | cons e es =>
          rw [List.all_cons, Bool.and_eq_true] at pl
          exact ⟨tCall (spOf M.K (F k)) [] E0 t, imp_fn i, fun X xo => pe_callZ (fz' X xo) xo.room xo.gd (gl_of xo gl) (by rw [xo.mg]; exact hm) (by rw [xo.K]; exact kp) (by rw [xo.K]; exact bd) .nil (pa X xo) (okN_dbg ok) (star_of pl.1 es X.env) (stars_of pl.2 X.env pos)⟩
    · split at h
      · rename_i mem
        have mem := of_decide_eq_true mem
        cases args with
        | nil => cases h
        | cons e es =>
          simp only at h
          split at h
          · rename_i ei
            split at h
            · rename_i t
              split at h
              · rename_i T eT
                split at h
                · rename_i pl
                  cases q : rec e with
                  | none => rw [q] at h; cases h
                  | some a =>
                    rw [q] at h
                    cases h
                    obtain ⟨t1, i1, p1⟩ := hr e a q
                    obtain ⟨hT, pt, p2⟩ := isi_of MO eT
                    refine ⟨tCB (rIsi M.K) (tCons t1 (tCons (tC (.ty T)) tNil)), imp_isi hT i1, fun X xo => ?_⟩
                    have hmg : X.mg f = none := by rw [xo.mg]; exact MO.bl f mem
                    rw [← xo.K]
                    exact pe_callB call_isi (gl_of xo gl) hmg (by rw [ei]; decide +kernel) (pa_cons (p1 X xo) (pa_cons (p2 X xo) pa_nil (star_of pt [] X.env)) (star_of pl [t] X.env)) (by rw [ei]; decide +kernel) (okN_dbg ok) (star_of pl [t] X.env) (stars_of (by rw [List.all_cons, pt]; rfl) X.env pos)
                · cases h
              · cases h
            · cases h
          · split at h
            · rename_i b eb
              cases q : cAll rec (e :: es) with
              | none => rw [q] at h; cases h
              | some ies =>
                rw [q] at h
                cases h
                obtain ⟨pl, t, i, pa⟩ := pz_all hr q
                rw [List.all_cons, Bool.and_eq_true] at pl
                have hE : wE F Gd (.blt b ies) = wBl b (w3s F Gd ies) := by cases b <;> rfl
                rw [hE]
                refine ⟨tCB (rBlt M.K b) t, imp_call i (blti b), fun X xo => ?_⟩
                have hmg : X.mg f = none := by rw [xo.mg]; exact MO.bl f mem
                rw [← xo.K]
                obtain ⟨nn, bb⟩ := bf_fn eb
                rcases bb with ⟨n, en, ef⟩ | ⟨n, en, ef⟩
                · exact pe_callB (cr_fn xo.calm xo.gd (room_units xo) en) (gl_of xo gl) hmg (by rw [ef]; exact boot_fn en) (pa X xo) nn (okN_dbg ok) (star_of pl.1 es X.env) (stars_of pl.2 X.env pos)
                · exact pe_callTy (cr_ty en) (gl_of xo gl) hmg (by rw [ef]; exact boot_ty en) (pa X xo) nn (okN_dbg ok) (star_of pl.1 es X.env) (stars_of pl.2 X.env pos)
            · cases h
      · cases h
  · cases h
/-! ### targets -/
theorem loc_of {C : CE} {X : Cx} (xo : XOk M C X) {x : Str} (h : locB C x = true) : Loc X.env.scope x ∧ (X.fn x = true ∨ X.env.scope.names.lookup x = some .local) := by
  unfold locB at h
  rw [xo.sc]
  split at h
  · exact ⟨.inl (by assumption), .inr (by assumption)⟩
  · exact ⟨.inr (by assumption), .inl (xo.fn x h)⟩
  · cases h
theorem assignEach_of {e : Expr} (h : plainX e = true) (es : List Expr) (env : Env) : assignEach (e :: es) env = (false, assign e env) :: assignEach es env := by
  cases e <;> first | rfl | cases h
mutual
theorem pz_tg {C : CE} : ∀ (n : Nat) (e : Expr) (t : Tg), cTg C n e = some t → PZG M C e t
  | 0, _, _, h => by simp [cTg] at h
  | n + 1, .Name x p, t, h => by
    have h : (if locB C x = true then (ixOf C.N x).map Tg.n else none) = some t := by simpa [cTg] using h
    split at h
    · rename_i lc
      cases q : ixOf C.N x with
      | none => rw [q] at h; cases h
      | some i =>
        rw [q] at h
        cases h
        exact ⟨gName i, impg_n i, fun X xo => pg_name (by rw [xo.N]; exact xo.nd) (by rw [xo.N]; exact ixOf_get q) (loc_of xo lc).1 (loc_of xo lc).2⟩
    · cases h
  | n + 1, .Tuple es k p, t, h => by
    have h : (cTgs C n es).map Tg.t = some t := by simpa [cTg] using h
    cases q : cTgs C n es with
    | none => rw [q] at h; cases h
    | some ts =>
      rw [q] at h
      cases h
      obtain ⟨gs, ig, hl, pg, hn, hst⟩ := pz_tgs n es ts q
      refine ⟨gTup M.K ts.length gs, impg_t ig, fun X xo => ?_⟩
      rw [← xo.K]
      exact pg_tup xo.calm (pg X xo) (hn X.env) (hst X.env)
  | n + 1, .BoolOp .., _, h => by simp [cTg] at h
  | n + 1, .NamedExpr .., _, h => by simp [cTg] at h
  | n + 1, .BinOp .., _, h => by simp [cTg] at h
  | n + 1, .UnaryOp .., _, h => by simp [cTg] at h
  | n + 1, .Lambda .., _, h => by simp [cTg] at h
  | n + 1, .IfExp .., _, h => by simp [cTg] at h
  | n + 1, .Dict .., _, h => by simp [cTg] at h
  | n + 1, .Set .., _, h => by simp [cTg] at h
  | n + 1, .ListComp .., _, h => by simp [cTg] at h
  | n + 1, .SetComp .., _, h => by simp [cTg] at h
  | n + 1, .DictComp .., _, h => by simp [cTg] at h
  | n + 1, .GeneratorExp .., _, h => by simp [cTg] at h
  | n + 1, .Await .., _, h => by simp [cTg] at h
  | n + 1, .Yield .., _, h => by simp [cTg] at h
  | n + 1, .YieldFrom .., _, h => by simp [cTg] at h
  | n + 1, .Compare .., _, h => by simp [cTg] at h
  | n + 1, .Call .., _, h => by simp [cTg] at h
  | n + 1, .FormattedValue .., _, h => by simp [cTg] at h
  | n + 1, .JoinedStr .., _, h => by simp [cTg] at h
  | n + 1, .Constant .., _, h => by simp [cTg] at h
  | n + 1, .Attribute .., _, h => by simp [cTg] at h
  | n + 1, .Subscript .., _, h => by simp [cTg] at h
  | n + 1, .Starred .., _, h => by simp [cTg] at h
  | n + 1, .List .., _, h => by simp [cTg] at h
  | n + 1, .Slice .., _, h => by simp [cTg] at h
theorem pz_tgs {C : CE} : ∀ (n : Nat) (es : List Expr) (ts : List Tg), cTgs C n es = some ts → ∃ g, ImpGs M.K ts.length (tgsS ts) (wTgs ts) g ∧ es.length = ts.length ∧ (∀ X, XOk M C X → PGs X es g) ∧ (∀ env, (assignEach es env).length = ts.length) ∧ (∀ env, (assignEach es env).findIdx? (·.1) = none)
  | 0, _, _, h => by simp [cTgs] at h
  | n + 1, [], ts, h => by
    have h : (some [] : Option (List Tg)) = some ts := by simpa [cTgs] using h
    cases h
    exact ⟨gNil, impgs_nil, rfl, fun X _ => pgs_nil, fun _ => rfl, fun _ => rfl⟩
  | n + 1, e :: es, ts, h => by
    unfold cTgs at h
    split at h
    · rename_i pl
      split at h
      · rename_i a as e1 e2
        cases h
        obtain ⟨g, ig, pg⟩ := pz_tg n e a e1
        obtain ⟨gs, igs, hl, pgs, hn, hst⟩ := pz_tgs n es as e2
        refine ⟨gCons g gs, impgs_cons ig igs, by simp [hl], fun X xo => pgs_cons (pg X xo) (pgs X xo) (by rw [assignEach_of pl]; rfl), fun env => by rw [assignEach_of pl]; simp [hn env], fun env => ?_⟩
        rw [assignEach_of pl, List.findIdx?_cons, hst env]
        rfl
      · cases h
    · cases h
end
end
end Z
/-! Z15 -/
set_option maxRecDepth 100000
/-! the short form's meaning leads to the machine: all expressions -/
namespace Z
open PySem PySem.Spec PyProof.Rows L2
section
variable {M : Mo} {F : Nat → Ct} {Gd : Nat → PyData}
theorem iOf_plain {ie : IE} (h : plainI ie = true) : wI F Gd ie = iOf (wE F Gd ie) := by
  cases ie with
  | blt b es => cases b <;> first | rfl | cases h
  | _ => rfl
theorem tOf_plain {ie : IE} (h : plainT ie = true) : wT F Gd ie = tOf (wE F Gd ie) := by
  cases ie with
  | blt b es => cases b <;> rfl
  | and _ _ => cases h
  | or _ _ => cases h
  | not _ => cases h
  | cmp _ _ _ => cases h
  | chn _ _ _ _ _ => cases h
  | _ => rfl
theorem onlyI_of {o : Option IE} {ie : IE} (h : onlyI o = some ie) : o = some ie ∧ plainI ie = true := by
  unfold onlyI at h
  split at h
  · split at h
    · cases h; exact ⟨rfl, by assumption⟩
    · cases h
  · cases h
theorem onlyT_of {o : Option IE} {ie : IE} (h : onlyT o = some ie) : o = some ie ∧ plainT ie = true := by
  unfold onlyT at h
  split at h
  · split at h
    · cases h; exact ⟨rfl, by assumption⟩
    · cases h
  · cases h
theorem pz_seq {C : CE} {tg it : Expr} {ie : IE} (hp : plainI ie = true) (h : PZ M C it (wE F Gd ie)) : PZI M C tg it (wI F Gd ie) := by
  obtain ⟨t, i, p⟩ := h
  rw [iOf_plain hp]
  exact ⟨iSeq M.K t, impi_seq i, fun X xo => by rw [← xo.K]; exact pi_seq (p X xo)⟩
theorem tup_of {tg : Expr} (h : isTupX tg = true) : ∃ es k p, tg = .Tuple es k p := by
  cases tg <;> first | exact ⟨_, _, _, rfl⟩ | cases h
theorem pz_i {C : CE} (MO : MOk M C.fs C.gs C.bs C.ks C.ds F Gd) {rec : Expr → Option IE} (hr : ∀ e ie, rec e = some ie → PZ M C e (wE F Gd ie)) {tg it : Expr} {ie : IE} (h : cI C rec tg it = some ie) : PZI M C tg it (wI F Gd ie) ∧ plainX it = true := by
  unfold cI at h
  split at h
  · rename_i pl
    refine ⟨?_, pl⟩
    split at h
    · rename_i f p a pos
      split at h
      · rename_i hc
        simp only [Bool.and_eq_true, decide_eq_true_eq] at hc
        obtain ⟨⟨⟨⟨gl, ok⟩, mem⟩, nf⟩, ef⟩ := hc
        split at h
        · rename_i pa
          cases q : rec a with
          | none => rw [q] at h; cases h
          | some ia =>
            rw [q] at h
            cases h
            obtain ⟨t, i, pe⟩ := hr a ia q
            subst ef
            exact ⟨iRng1 (tCons t tNil), impi_range1 i, fun X xo => pi_range1 (gl_of xo gl) (by rw [xo.mg]; exact MO.bl _ mem) (pa_cons (pe X xo) pa_nil (star_of pa [] X.env)) (star_of pa [] X.env)⟩
        · cases h
      · split at h
        · rename_i hc
          simp only [Bool.and_eq_true, decide_eq_true_eq] at hc
          obtain ⟨⟨⟨⟨gl, ok⟩, mem⟩, nf⟩, ef⟩ := hc
          split at h
          · rename_i pa
            rw [Bool.and_eq_true] at pa
            obtain ⟨pa, tt⟩ := pa
            obtain ⟨es, k, tp, rfl⟩ := tup_of tt
            cases q : rec a with
            | none => rw [q] at h; cases h
            | some ia =>
              rw [q] at h
              cases h
              obtain ⟨t, i, pe⟩ := hr a ia q
              subst ef
              exact ⟨iEnum M.K (tCons t tNil), impi_enum i, fun X xo => by
                rw [← xo.K]
                exact pi_enum (gl_of xo gl) (by rw [xo.mg]; exact MO.bl _ mem) (pa_cons (pe X xo) pa_nil (star_of pa [] X.env)) (star_of pa [] X.env)⟩
          · cases h
        · obtain ⟨h1, h2⟩ := onlyI_of h
          exact pz_seq h2 (hr _ _ h1)
    · rename_i f p a b pos
      split at h
      · rename_i hc
        simp only [Bool.and_eq_true, decide_eq_true_eq] at hc
        obtain ⟨⟨⟨⟨gl, ok⟩, mem⟩, nf⟩, ef⟩ := hc
        split at h
        · rename_i pab
          rw [Bool.and_eq_true] at pab
          obtain ⟨pa, pb⟩ := pab
          split at h
          · rename_i ia ib q1 q2
            cases h
            obtain ⟨t, i, pe⟩ := hr a ia q1
            obtain ⟨t2, i2, pe2⟩ := hr b ib q2
            subst ef
            exact ⟨iRng2 (tCons t (tCons t2 tNil)), impi_range2 i i2, fun X xo => pi_range2 (gl_of xo gl) (by rw [xo.mg]; exact MO.bl _ mem) (pa_cons (pe X xo) (pa_cons (pe2 X xo) pa_nil (star_of pb [] X.env)) (star_of pa [b] X.env))
              (by rw [star_of pa [b] X.env, star_of pb [] X.env]; rfl) (star_of pb [] X.env)⟩
          · cases h
        · cases h
      · split at h
        · rename_i hc
          simp only [Bool.and_eq_true, decide_eq_true_eq] at hc
          obtain ⟨⟨⟨⟨gl, ok⟩, mem⟩, nf⟩, ef⟩ := hc
          split at h
          · rename_i pab
            rw [Bool.and_eq_true, Bool.and_eq_true] at pab
            obtain ⟨⟨pa, pb⟩, tt⟩ := pab
            obtain ⟨es, k, tp, rfl⟩ := tup_of tt
            split at h
            · rename_i ia ib q1 q2
              cases h
              obtain ⟨t, i, pe⟩ := hr a ia q1
              obtain ⟨t2, i2, pe2⟩ := hr b ib q2
              subst ef
              exact ⟨iZipM M.K (tCons t (tCons t2 tNil)), impi_zip i i2, fun X xo => by
                rw [← xo.K]
                exact pi_zipM (gl_of xo gl) (by rw [xo.mg]; exact MO.bl _ mem) (pa_cons (pe X xo) (pa_cons (pe2 X xo) pa_nil (star_of pb [] X.env)) (star_of pa [b] X.env)) (star_of pa [b] X.env) (stars_of (by rw [List.all_cons, pb]; rfl) X.env pos)⟩
            · cases h
          · cases h
        · obtain ⟨h1, h2⟩ := onlyI_of h
          exact pz_seq h2 (hr _ _ h1)
    · obtain ⟨h1, h2⟩ := onlyI_of h
      exact pz_seq h2 (hr _ _ h1)
  · cases h
/-- within a block -/
theorem XOk.blk {C : CE} {X : Cx} (xo : XOk M C X) (s : Shared) (H : Hp) (scope : Scope) (cl : List (Str × Addr)) (Ca : Addr) (fp : List Addr) : XOk M (C.blk scope) (X.blk s H scope (compEnvC scope cl Ca X.env) fp) where
  P := xo.P
  w := xo.w
  K := xo.K
  mg := xo.mg
  base := xo.base
  N := xo.N
  sc := by
    show (compEnvC scope cl Ca X.env).scope = relS scope C.sc
    rw [← xo.sc]
    rfl
  calm := xo.calm
  nd := xo.nd
  room := xo.room
  gd := xo.gd
  fn := fun x h => h
theorem subS_ok {a b : List Nat} (h : subS a b = true) : ∀ i ∈ a, i ∈ b := by
  unfold subS at h
  rw [List.all_eq_true] at h
  exact fun i hi => of_decide_eq_true (h i hi)
theorem wTChn_of {op op' : CmpOp} {a b e : WE} {Γ : Ga} {c : Nat} {Q : Bool → Nat → Prop} (w : wTChn op op' a b e Γ c Q) : wChn op op' a b e Γ c (fun z c1 => match z with | .d (.bool b) => Q b c1 | _ => False) := w
theorem imp_lc' {K : PySem.W.Frag} {wi : WI} {ti : TI} {tg : Tg} {g : TG} {wc : WT} {tt : TT} {we : WE} {te : TE} (ow : List Nat) (hi : ImpI K wi ti) (hg : ImpG K (tgS tg) (wTg tg) g) (hs : ∀ i ∈ tgS tg, i ∈ ow) (ht : ImpT K wc tt) (he : Imp K we te) :
    Imp K (wLc ow tg wi wc we) (tLc ti g tt te ow) := imp_lc hi hg hs ht he
theorem imp_lc2' {K : PySem.W.Frag} {wi wi2 : WI} {ti ti2 : TI} {tg tg2 : Tg} {g g2 : TG} {wc wc2 : WT} {tt tt2 : TT} {we : WE} {te : TE} (ow ow2 : List Nat) (hi : ImpI K wi ti) (hg : ImpG K (tgS tg) (wTg tg) g) (hs : ∀ i ∈ tgS tg, i ∈ ow) (ht : ImpT K wc tt)
    (hi2 : ImpI K wi2 ti2) (hg2 : ImpG K (tgS tg2) (wTg tg2) g2) (hs2 : ∀ i ∈ tgS tg2, i ∈ ow2) (ht2 : ImpT K wc2 tt2) (he : Imp K we te) :
    Imp K (wLc2 ow tg wi wc ow2 tg2 wi2 wc2 we) (tLc2 ti g tt ti2 g2 tt2 te ow ow2) := imp_lc2 hi hg hs ht hi2 hg2 hs2 ht2 he
def PZC (M : Mo) (C : CE) (ifs : List Expr) (w : WT) : Prop := ∃ t, ImpT M.K w t ∧ ∀ X, XOk M C X → PTs X ifs t
theorem bltB_ok {C : CE} {f : Str} (h : bltB C f = true) : glB C.sc f = true ∧ okN f = true ∧ f ∈ C.bs := by
  unfold bltB at h
  simp only [Bool.and_eq_true, decide_eq_true_eq] at h
  exact ⟨h.1.1.1, h.1.1.2, h.1.2⟩
theorem one_of {C : CE} {rec : Expr → Option IE} {a : Expr} {ies : List IE} (h : cAll rec [a] = some ies) : ∃ ia, rec a = some ia ∧ ies = [ia] := by
  unfold cAll at h
  split at h
  · split at h
    · rename_i a0 as q1 q2
      cases h
      cases q2
      exact ⟨a0, q1, rfl⟩
    · cases h
  · cases h
/-- joined forms, calls by keywords -/
theorem pz_hook {C : CE} (MO : MOk M C.fs C.gs C.bs C.ks C.ds F Gd) {rec : Expr → Option IE} (hr : ∀ e ie, rec e = some ie → PZ M C e (wE F Gd ie)) {e : Expr} {k : Hk} {args : List Expr} {ies : List IE} (h : cHook C e = some (k, args)) (q : cAll rec args = some ies) : PZ M C e (wE F Gd (mkH k ies)) := by
  unfold cHook at h
  split at h
  · rename_i f p g p2 a q2 pos
    split at h
    · rename_i hc
      simp only [Bool.and_eq_true, decide_eq_true_eq] at hc
      obtain ⟨⟨⟨bf, bg⟩, eg⟩, pl⟩ := hc
      obtain ⟨gf, okf, mf⟩ := bltB_ok bf
      obtain ⟨gg, okg, mg⟩ := bltB_ok bg
      subst eg
      split at h
      · rename_i ef
        cases h
        subst ef
        obtain ⟨ia, e1, rfl⟩ := one_of (C := C) q
        obtain ⟨t, i, pe⟩ := hr a ia e1
        exact ⟨tLenS M.K t, imp_lenS i, fun X xo => by
          rw [← xo.K]
          exact pe_lenS xo.calm (gl_of xo gf) (by rw [xo.mg]; exact MO.bl _ mf) (gl_of xo gg) (by rw [xo.mg]; exact MO.bl _ mg) (pe X xo) (star_of pl [] X.env)⟩
      · split at h
        · rename_i ef
          cases h
          subst ef
          obtain ⟨ia, e1, rfl⟩ := one_of (C := C) q
          obtain ⟨t, i, pe⟩ := hr a ia e1
          exact ⟨tSrtS M.K t, imp_srtS i, fun X xo => by
            rw [← xo.K]
            exact pe_srtS xo.calm (gl_of xo gf) (by rw [xo.mg]; exact MO.bl _ mf) (gl_of xo gg) (by rw [xo.mg]; exact MO.bl _ mg) (pe X xo) (star_of pl [] X.env)⟩
        · cases h
    · cases h
  · rename_i f p kw kws pos
    split at h
    · rename_i hc
      rw [Bool.and_eq_true] at hc
      split at h
      · rename_i ns en
        split at h
        · rename_i j ej
          cases h
          obtain ⟨t, i, pk⟩ := pk_all (M := M) (C := C) hr q
          obtain ⟨fa, fd, ps, ct, perm, hm, kp, kb, fz, hct⟩ := MO.kw j f ns (kixOf_get ej)
          exact ⟨tCallP (spOf M.K ct) ns.length perm t, imp_kw i hct, fun X xo => pe_callKZ (by rw [xo.P, xo.w, xo.K, xo.mg, xo.base]; exact fz) xo.room xo.gd (gl_of xo hc.1) (by rw [xo.mg]; exact hm) (by rw [xo.K]; exact kp) (by rw [xo.K]; exact kb) en (pk X xo) (okN_dbg hc.2)⟩
        · cases h
      · cases h
    · cases h
  · cases h
/-- a module's dict, as the text names it -/
theorem pz_md {C : CE} (MO : MOk M C.fs C.gs C.bs C.ks C.ds F Gd) {x : Str} {j : Nat} (h : mdX C x = some j) : ∃ (a : Addr) (es : Array DictEntry) (n : Nat) (kvs : List (Str × PyData)), Gd (1000 + j) = strD kvs ∧ KDict M.K M.w a es n ∧ EntD M.K es.toList kvs ∧ es.size ≤ sizeLine ∧
    ∀ X, XOk M C X → ∀ p, PE X (.Name x p) (tC (.ref a)) := by
  unfold mdX at h
  split at h
  · rename_i hc
    simp only [Bool.and_eq_true] at hc
    obtain ⟨⟨gl, ok⟩, _⟩ := hc
    obtain ⟨a, es, n, kvs, e, hm, D, hE, hz⟩ := (MO.dk j x (ixOf_get h)).ex
    exact ⟨a, es, n, kvs, e, D, hE, hz, fun X xo p => pe_glob (gl_of xo gl) (by rw [xo.mg]; exact hm) (show RelV (V.ref a) (.ref a) from rfl) (okN_dbg ok)⟩
  · cases h
theorem trees1 {a : Expr} (h : plainX a = true) (env : Env) (cp : Pos) : backTo cp (starEach [a] env) = [(false, eval a env)] := by rw [star_of h]; rfl
theorem trees2 {a b : Expr} (ha : plainX a = true) (hb : plainX b = true) (env : Env) (cp : Pos) : backTo cp (starEach [a, b] env) = [(false, eval a env), (false, eval b env)] := by rw [star_of ha, star_of hb]; rfl
theorem few2_of {a b : Expr} (ha : plainX a = true) (hb : plainX b = true) (env : Env) (cpos : Pos) : ((backTo cpos (starEach [a, b] env)).all (fun x => !x.1) && (backToKw cpos (keywordEach [] env)).all (fun x => x.1.isSome)
      && decide (([a, b] : List Expr).length + ([] : List Keyword).length + (if ([] : List Keyword).isEmpty then 0 else 1) < 30)) = true := by
  rw [star_of ha, star_of hb]
  rfl
theorem recvd_of {o : Expr} (h : recvDX o = true) (m : Str) (env : Env) : attributeBase o m env (eval o env) = eval o env := by
  unfold recvDX at h
  split at h
  · rfl
  · exact recv_of h m env
theorem pz_each {C : CE} {rec : Expr → Option IE} (hr : ∀ e ie, rec e = some ie → PZ M C e (wE F Gd ie)) : ∀ {es : List Expr} {ies : List IE}, cAll rec es = some ies → ∃ ts : List TE, ts.length = es.length ∧ ImpA M.K (w3s F Gd ies) (tAll ts) ∧
    ∀ (pos : Pos) (keys : List (Option Expr)) (ks : List Key), keysX keys = some ks → keys.length = es.length → ∀ X, XOk M C X → PPs X pos keys es (trsOf ks ts)
  | [], ies, h => by
    cases h
    refine ⟨[], rfl, imp_a0, fun pos keys ks hk hl X xo => ?_⟩
    cases keys with
    | nil => cases hk; exact pps_nil
    | cons _ _ => simp at hl
  | e :: es, ies, h => by
    unfold cAll at h
    split at h
    · split at h
      · rename_i ia as q1 q2
        cases h
        obtain ⟨ts, hl, im, pp⟩ := pz_each hr q2
        obtain ⟨t, i, p⟩ := hr e ia q1
        refine ⟨t :: ts, by simp [hl], imp_a1 i im, fun pos keys ks hk hl2 X xo => ?_⟩
        cases keys with
        | nil => simp at hl2
        | cons ke kr =>
          unfold keysX at hk
          split at hk
          · rename_i k ks' e1 e2
            cases hk
            unfold keyX at e1
            split at e1
            · cases e1
              exact pps_cons (tk := tC (kV (.inl _))) pe_int (p X xo) (pp pos kr ks' e2 (by simpa using hl2) X xo)
            · cases e1
              exact pps_cons (tk := tC (kV (.inr _))) pe_str (p X xo) (pp pos kr ks' e2 (by simpa using hl2) X xo)
            · cases e1
          · cases hk
      · cases h
    · cases h
theorem keysX_len : ∀ {keys : List (Option Expr)} {ks : List Key}, keysX keys = some ks → ks.length = keys.length ∧ keys.all (·.isSome) = true
  | [], ks, h => by cases h; exact ⟨rfl, rfl⟩
  | e :: r, ks, h => by
    unfold keysX at h
    split at h
    · rename_i k ks' e1 e2
      cases h
      obtain ⟨h1, h2⟩ := keysX_len e2
      refine ⟨by simp [h1], ?_⟩
      rw [List.all_cons, h2]
      cases e with
      | none => cases e1
      | some _ => rfl
    · cases h
/-- further forms -/
theorem pz_hx {C : CE} (MO : MOk M C.fs C.gs C.bs C.ks C.ds F Gd) {rec : Expr → Option IE} (hr : ∀ e ie, rec e = some ie → PZ M C e (wE F Gd ie)) {e : Expr} {ie : IE} (h : cHx rec C e = some ie) : PZ M C e (wE F Gd ie) := by
  unfold cHx at h
  split at h
  · rename_i keys vals pos
    split at h
    · rename_i ks vs e1 e2
      split at h
      · rename_i hc
        simp only [Bool.and_eq_true, decide_eq_true_eq] at hc
        obtain ⟨⟨h1, h2⟩, h15⟩ := hc
        cases h
        obtain ⟨hk1, hk2⟩ := keysX_len e1
        obtain ⟨ts, hl, im, pp⟩ := pz_each hr e2
        by_cases h0 : keys = []
        · subst h0
          cases e1
          have : vals = [] := List.eq_nil_of_length_eq_zero (by simpa using h2.symm)
          subst this
          cases e2
          exact ⟨tDNewK, imp_dsp0 (Gd := Gd), fun X xo => pe_dnewK⟩
        · exact ⟨tDisp (trsOf ks ts), imp_dsp (by omega) h15 im, fun X xo => pe_disp (pp pos keys ks e1 h2 X xo) hk2 h2 h0 (by omega)⟩
      · cases h
    · cases h
  · rename_i x p i pos
    split at h
    · rename_i j ej
      split at h
      · rename_i pl
        cases q : rec i with
        | none => rw [q] at h; cases h
        | some ia =>
          rw [q] at h
          cases h
          obtain ⟨a, es, n, kvs, e, D, hE, hz, pn⟩ := pz_md MO ej
          obtain ⟨t, im, pe⟩ := hr i ia q
          exact ⟨tOp (rIxD M.K M.w) (tC (.ref a)) t, imp_gix e D hE im, fun X xo => by
            rw [← xo.K, ← xo.w]
            exact pe_ix ix_kdict (pn X xo p) (pe X xo) (ix_of pl)⟩
      · cases h
    · cases h
  · rename_i x p m ap a b cp
    split at h
    · rename_i j ej
      split at h
      · rename_i hc
        simp only [Bool.and_eq_true, beq_iff_eq, decide_eq_true_eq] at hc
        obtain ⟨⟨⟨em, el⟩, pa⟩, pb⟩ := hc
        split at h
        · rename_i ia ib q1 q2
          cases h
          obtain ⟨ad, es, n, kvs, e, D, hE, hz, pn⟩ := pz_md MO ej
          obtain ⟨t, im, pe⟩ := hr a ia q1
          obtain ⟨t2, im2, pe2⟩ := hr b ib q2
          subst em
          exact ⟨tGget M.K ad t t2, imp_gget e D hE im im2, fun X xo => by
            rw [← xo.K]
            exact pe_gget (by rw [xo.K, xo.w]; exact D) (pn X xo p) (pe X xo) (pe2 X xo) ⟨rfl, few2_of pa pb X.env cp, by simp [el], trees2 pa pb X.env cp⟩⟩
        · cases h
      · cases h
    · cases h
  · rename_i o m ap a cp
    split at h
    · rename_i hc
      simp only [Bool.and_eq_true, beq_iff_eq, decide_eq_true_eq] at hc
      obtain ⟨⟨⟨em, el⟩, ro⟩, pa⟩ := hc
      split at h
      · rename_i io ia q1 q2
        cases h
        obtain ⟨t, im, pe⟩ := hr o io q1
        obtain ⟨t2, im2, pe2⟩ := hr a ia q2
        subst em
        exact ⟨tDGet1 t t2, imp_get1 im im2, fun X xo => pe_dget1 (by have := room_units xo; omega) (pe X xo) (pe2 X xo) ⟨recvd_of ro "get" X.env, few_of pa X.env cp, by simp [el], trees1 pa X.env cp⟩⟩
      · cases h
    · cases h
  · rename_i o m ap cp
    split at h
    · rename_i hc
      simp only [Bool.and_eq_true, beq_iff_eq, decide_eq_true_eq] at hc
      obtain ⟨⟨em, el⟩, ro⟩ := hc
      cases q : rec o with
      | none => rw [q] at h; cases h
      | some io =>
        rw [q] at h
        cases h
        obtain ⟨t, im, pe⟩ := hr o io q
        subst em
        exact ⟨tBM0 M.K "str" rUp t, imp_upper im, fun X xo => by
          rw [← xo.K]
          exact pe_bm0 PySem.F.plainAttrs_str PySem.F.slot_str_upper PySem.F.type_str_upper mt_upper (pe X xo) (recv_of ro "upper" X.env) (by simp [el])⟩
    · cases h
  · rename_i f fp x p pos
    split at h
    · rename_i hc
      rw [Bool.and_eq_true, decide_eq_true_eq] at hc
      obtain ⟨bf, ef⟩ := hc
      split at h
      · rename_i j ej
        cases h
        obtain ⟨gf, okf, mf⟩ := bltB_ok bf
        obtain ⟨a, es, n, kvs, e, D, hE, hz, pn⟩ := pz_md MO ej
        subst ef
        have hlen : es.size = kvs.length := by
          have := (ent_keys hE).length
          simpa using this.symm
        exact ⟨tGkeys kvs, imp_gkeys e (by omega), fun X xo => pe_gkeys xo.calm (by rw [xo.K, xo.w]; exact D) (by rw [xo.K]; exact hE) hz (gl_of xo gf) (by rw [xo.mg]; exact MO.bl _ mf) (pn X xo p) rfl⟩
      · cases h
    · cases h
  · rename_i f fp g gp a gpos pos
    split at h
    · rename_i hc
      simp only [Bool.and_eq_true, decide_eq_true_eq] at hc
      obtain ⟨⟨⟨⟨bf, ef⟩, bg⟩, eg⟩, pa⟩ := hc
      cases q : rec a with
      | none => rw [q] at h; cases h
      | some ia =>
        rw [q] at h
        cases h
        obtain ⟨t, im, pe⟩ := hr a ia q
        obtain ⟨gf, okf, mf⟩ := bltB_ok bf
        obtain ⟨gg, okg, mg⟩ := bltB_ok bg
        subst ef eg
        exact ⟨tLstRg (tRg1 t), imp_lrng im, fun X xo => pe_listRg xo.calm (gl_of xo gf) (by rw [xo.mg]; exact MO.bl _ mf) (prg_1 (gl_of xo gg) (by rw [xo.mg]; exact MO.bl _ mg) (pe X xo) (star_of pa [] X.env)) rfl⟩
    · cases h
  · rename_i es lp b pos
    split at h
    · rename_i ies ib q1 q2
      cases h
      obtain ⟨_, t, im, pe⟩ := pz_all hr q1
      obtain ⟨t2, im2, pe2⟩ := hr b ib q2
      exact ⟨tOp rRep (tLst t) t2, imp_repl im im2, fun X xo => pe_op op_rep (pe_lst (pe X xo)) (pe2 X xo)⟩
    · cases h
  · cases h
theorem pz_hx2 {C : CE} (MO : MOk M C.fs C.gs C.bs C.ks C.ds F Gd) {rec : Expr → Option IE} (hr : ∀ e ie, rec e = some ie → PZ M C e (wE F Gd ie)) {e : Expr} {ie : IE} (h : cHx2 rec e = some ie) : PZ M C e (wE F Gd ie) := by
  unfold cHx2 at h
  split at h
  · rename_i o m ap a b cp
    split at h
    · rename_i hc
      simp only [Bool.and_eq_true, beq_iff_eq, decide_eq_true_eq] at hc
      obtain ⟨⟨⟨⟨em, el⟩, ro⟩, pa⟩, pb⟩ := hc
      split at h
      · rename_i io ia ib q1 q2 q3
        cases h
        obtain ⟨t, im, pe⟩ := hr o io q1
        obtain ⟨t2, im2, pe2⟩ := hr a ia q2
        obtain ⟨t3, im3, pe3⟩ := hr b ib q3
        subst em
        exact ⟨tDGet2 t t2 t3, imp_get2 im im2 im3, fun X xo => pe_dget2 (by have := room_units xo; omega) (pe X xo) (pe2 X xo) (pe3 X xo) ⟨recvd_of ro "get" X.env, few2_of pa pb X.env cp, by simp [el], trees2 pa pb X.env cp⟩⟩
      · cases h
    · cases h
  · cases h
theorem orE_some {a b : Option IE} {ie : IE} (h : orE a b = some ie) : a = some ie ∨ b = some ie := by
  unfold orE at h
  split at h
  · exact .inl h
  · exact .inr h
mutual
theorem cE_ok : ∀ (n : Nat) (C : CE) (e : Expr) (ie : IE), MOk M C.fs C.gs C.bs C.ks C.ds F Gd → cE n C e = some ie → PZ M C e (wE F Gd ie)
  | 0, _, _, _, _, h => by simp [cE] at h
  | n + 1, C, e, ie, MO, h => by
    have hr : ∀ e ie, cE n C e = some ie → PZ M C e (wE F Gd ie) := fun e ie h => cE_ok n C e ie MO h
    have hb : ∀ scope e ie, cE n (C.blk scope) e = some ie → PZ M (C.blk scope) e (wE F Gd ie) := fun scope e ie h => cE_ok n (C.blk scope) e ie MO h
    unfold cE at h
    split at h
    · rename_i hk args eh
      cases q : cAll (cE n C) args with
      | none => rw [q] at h; cases h
      | some ies =>
        rw [q] at h; cases h
        exact pz_hook MO hr eh q
    rename_i eh
    clear eh
    split at h
    · rename_i iy ey
      cases h
      exact (orE_some ey).elim (pz_hx MO hr) (pz_hx2 MO hr)
    rename_i ey
    clear ey
    split at h
    · cases h; exact ⟨tC (.int _), imp_c fun _ => .int _, fun X _ => pe_int⟩
    · cases h; exact ⟨tC (.bl _), imp_c fun _ => .bl _, fun X _ => pe_bl⟩
    · cases h; exact ⟨tC .non, imp_c fun _ => .non, fun X _ => pe_non⟩
    · cases h; exact ⟨tC (.str _), imp_c fun _ => .str _, fun X _ => pe_str⟩
    · exact pz_name MO h
    · rename_i es k pos
      cases q : cAll (cE n C) es with
      | none => rw [q] at h; cases h
      | some ies =>
        rw [q] at h; cases h
        obtain ⟨_, t, i, p⟩ := pz_all hr q
        exact ⟨tTup t, imp_tup i, fun X xo => pe_tup (p X xo)⟩
    · rename_i es pos
      cases q : cAll (cE n C) es with
      | none => rw [q] at h; cases h
      | some ies =>
        rw [q] at h; cases h
        obtain ⟨_, t, i, p⟩ := pz_all hr q
        exact ⟨tLst t, imp_lst i, fun X xo => pe_lst (p X xo)⟩
    · rename_i a op b pos
      split at h
      · rename_i ia ib q1 q2
        cases h
        obtain ⟨t, i, p⟩ := hr a ia q1
        obtain ⟨t2, i2, p2⟩ := hr b ib q2
        exact ⟨tOp (rBin M.K op) t t2, imp_bi op i i2, fun X xo => by rw [← xo.K]; exact pe_op (op_bin op) (p X xo) (p2 X xo)⟩
      · cases h
    · rename_i a pos
      cases q : cE n C a with
      | none => rw [q] at h; cases h
      | some ia =>
        rw [q] at h; cases h
        obtain ⟨t, i, p⟩ := hr a ia q
        exact ⟨tUn (rU fun i => .int (-i)) t, imp_neg i, fun X xo => pe_un un_neg (p X xo)⟩
    · rename_i a pos
      cases q : cE n C a with
      | none => rw [q] at h; cases h
      | some ia =>
        rw [q] at h; cases h
        obtain ⟨t, i, p⟩ := hr a ia q
        exact ⟨tNotT M.K t, imp_not i, fun X xo => by rw [← xo.K]; exact pe_notT (p X xo)⟩
    · exact pz_and hr h
    · exact pz_or hr h
    · rename_i a op b pos
      split at h
      · rename_i pl
        split at h
        · rename_i ia ib q1 q2
          cases h
          obtain ⟨t, i, p⟩ := hr a ia q1
          obtain ⟨t2, i2, p2⟩ := hr b ib q2
          exact ⟨tOp (rCmp M.K op) t t2, imp_cm op i i2, fun X xo => by rw [← xo.K]; exact pe_cmpR (op_cmp (by have := room_units xo; omega) op) (p X xo) (p2 X xo) (marks_of pl)⟩
        · cases h
      · cases h
    · rename_i a op op' b c pos
      split at h
      · rename_i pl
        rw [Bool.and_eq_true] at pl
        split at h
        · rename_i ia ib ic q1 q2 q3
          cases h
          obtain ⟨t, i, p⟩ := hr a ia q1
          obtain ⟨t2, i2, p2⟩ := hr b ib q2
          obtain ⟨t3, i3, p3⟩ := hr c ic q3
          exact ⟨tChain (rCmp M.K op) (rCmp M.K op') t t2 t3, imp_chn op op' i i2 i3, fun X xo => by
            rw [← xo.K]
            exact pe_chain (op_cmp (by have := room_units xo; omega) op) (op_cmp (by have := room_units xo; omega) op') (p X xo) (p2 X xo) (p3 X xo) (lmarks_of pl.2)⟩
        · cases h
      · cases h
    · rename_i t a b pos
      split at h
      · rename_i it ia ib q1 q2 q3
        cases h
        obtain ⟨t1, i1, p1⟩ := cT_ok n C t it MO q1
        obtain ⟨t2, i2, p2⟩ := hr a ia q2
        obtain ⟨t3, i3, p3⟩ := hr b ib q3
        exact ⟨tIf t1 t2 t3, imp_ite i1 i2 i3, fun X xo => pe_ifExp (p1 X xo) (p2 X xo) (p3 X xo)⟩
      · cases h
    · rename_i a lo hi p2 pos
      split at h
      · rename_i ia il ih q1 q2 q3
        cases h
        obtain ⟨t1, i1, p1⟩ := hr a ia q1
        obtain ⟨t2, i2, p2⟩ := pz_o hr q2
        obtain ⟨t3, i3, p3⟩ := pz_o hr q3
        exact ⟨tSl (rSlc M.K) t1 t2 t3, imp_sl i1 i2 i3, fun X xo => by rw [← xo.K]; exact pe_slice sl_all (p1 X xo) (p2 X xo) (p3 X xo)⟩
      · cases h
    · rename_i a i pos _
      split at h
      · rename_i pl
        split at h
        · rename_i ia ib q1 q2
          cases h
          obtain ⟨t, i1, p⟩ := hr a ia q1
          obtain ⟨t2, i2, p2⟩ := hr i ib q2
          exact ⟨tOp (rIxZ M.K) t t2, imp_ixx i1 i2, fun X xo => by rw [← xo.K]; exact pe_ix (ix_all (by have := room_units xo; omega)) (p X xo) (p2 X xo) (ix_of pl)⟩
        · cases h
      · cases h
    · exact pz_call MO hr h
    · rename_i o m ap a cp
      split at h
      · rename_i hc
        simp only [Bool.and_eq_true, decide_eq_true_eq] at hc
        obtain ⟨⟨⟨em, el⟩, po⟩, pl⟩ := hc
        split at h
        · rename_i io ia q1 q2
          cases h
          subst em
          obtain ⟨t, i1, p⟩ := hr o io q1
          obtain ⟨t2, i2, p2⟩ := hr a ia q2
          refine ⟨tBM M.K "list" (rIndexD M.K) t (tCons t2 tNil), imp_index i1 (imp_a1 i2 imp_a0), fun X xo => ?_⟩
          rw [← xo.K]
          exact pe_bm PySem.F.plainAttrs_list PySem.F.slot_list_index PySem.F.type_list_index (mt_indexD (by have := room_units xo; omega)) (p X xo) (pa_cons (p2 X xo) pa_nil (star_of pl [] X.env)) (recv_of po _ X.env) (few_of pl X.env cp) el (star_of pl [] X.env) rfl
        · cases h
      · cases h
    · rename_i elt tg it ifs scope pos
      simp only at h
      split at h
      · rename_i bk
        split at h
        · rename_i iit itg ielt icd q1 q2 q3 q4
          split at h
          · rename_i sub
            cases h
            obtain ⟨⟨t1, i1, p1⟩, pit⟩ := pz_i MO hr q1
            obtain ⟨g, ig, pg⟩ := pz_tg (M := M) n tg itg q2
            obtain ⟨t2, i2, p2⟩ := hb scope elt ielt q3
            obtain ⟨t3, i3, p3⟩ := cIfs_ok n (C.blk scope) ifs icd MO q4
            refine ⟨_, imp_lc' ((ownOf C.N scope.names).map fun x : Str × Nat => x.2) i1 ig (subS_ok sub) i3 i2, fun X xo => ?_⟩
            have ok : BlkOk X.N X.env.scope scope (ownOf C.N scope.names) := blkOk_by (by rw [xo.N, xo.sc]; exact bk)
            exact pe_lc xo.calm (by rw [xo.N]; exact xo.nd) (p1 X xo) ok (fun s H Ca cl fp => pg _ (xo.blk s H scope cl Ca fp)) (fun s H Ca cl fp => p3 _ (xo.blk s H scope cl Ca fp)) (fun s H Ca cl fp => p2 _ (xo.blk s H scope cl Ca fp)) (fold_of pit X.env)
          · cases h
        · cases h
      · cases h
    · rename_i elt tg it ifs tg2 it2 ifs2 scope pos
      simp only at h
      split at h
      · rename_i bk
        split at h
        · rename_i iit itg icd iit2 itg2 icd2 ielt q1 q2 q3 q4 q5 q6 q7
          split at h
          · rename_i sub
            rw [Bool.and_eq_true] at sub
            cases h
            obtain ⟨⟨t1, i1, p1⟩, pit⟩ := pz_i MO hr q1
            obtain ⟨g, ig, pg⟩ := pz_tg (M := M) n tg itg q2
            obtain ⟨t3, i3, p3⟩ := cIfs_ok n (C.blk scope) ifs icd MO q3
            obtain ⟨⟨t4, i4, p4⟩, pit2⟩ := pz_i (C := C.blk scope) MO (hb scope) q4
            obtain ⟨g2, ig2, pg2⟩ := pz_tg (M := M) n tg2 itg2 q5
            obtain ⟨t6, i6, p6⟩ := cIfs_ok n (C.blk scope) ifs2 icd2 MO q6
            obtain ⟨t2, i2, p2⟩ := hb scope elt ielt q7
            refine ⟨_, imp_lc2' ((ownOf C.N scope.names).map fun x : Str × Nat => x.2) (tgS itg2) i1 ig (subS_ok sub.1) i3 i4 ig2 (fun _ h => h) i6 i2, fun X xo => ?_⟩
            have ok : BlkOk X.N X.env.scope scope (ownOf C.N scope.names) := blkOk_by (by rw [xo.N, xo.sc]; exact bk)
            exact pe_lc2 xo.calm (by rw [xo.N]; exact xo.nd) (p1 X xo) ok (subS_ok sub.2) (fun s H Ca cl fp => pg _ (xo.blk s H scope cl Ca fp)) (fun s H Ca cl fp => p3 _ (xo.blk s H scope cl Ca fp)) (fun s H Ca cl fp => p4 _ (xo.blk s H scope cl Ca fp))
              (fun s H Ca cl fp => pg2 _ (xo.blk s H scope cl Ca fp)) (fun s H Ca cl fp => p6 _ (xo.blk s H scope cl Ca fp)) (fun s H Ca cl fp => p2 _ (xo.blk s H scope cl Ca fp)) (fold_of pit X.env) (fun env => fold_of pit2 env)
          · cases h
        · cases h
      · cases h
    · cases h
theorem cIfs_ok : ∀ (n : Nat) (C : CE) (ifs : List Expr) (ic : Option IE), MOk M C.fs C.gs C.bs C.ks C.ds F Gd → cIfs n C ifs = some ic → PZC M C ifs (w3c F Gd ic)
  | 0, _, _, _, _, h => by simp [cIfs] at h
  | n + 1, C, ifs, ic, MO, h => by
    unfold cIfs at h
    split at h
    · cases h; exact ⟨tYes, impt_yes, fun X _ => pts_nil⟩
    · rename_i c
      cases q : cT n C c with
      | none => rw [q] at h; cases h
      | some ie =>
        rw [q] at h; cases h
        obtain ⟨t, i, p⟩ := cT_ok n C c ie MO q
        exact ⟨t, i, fun X xo => pts_one (p X xo)⟩
    · cases h
theorem cT_ok : ∀ (n : Nat) (C : CE) (e : Expr) (ie : IE), MOk M C.fs C.gs C.bs C.ks C.ds F Gd → cT n C e = some ie → PZT M C e (wT F Gd ie)
  | 0, _, _, _, _, h => by simp [cT] at h
  | n + 1, C, e, ie, MO, h => by
    have hr : ∀ e ie, cE n C e = some ie → PZ M C e (wE F Gd ie) := fun e ie h => cE_ok n C e ie MO h
    have hT : ∀ e ie, cT n C e = some ie → PZT M C e (wT F Gd ie) := fun e ie h => cT_ok n C e ie MO h
    have val : ∀ e ie, (∀ env whole, isTrue e env whole = (do let v ← whole; standAt e.pos; holding [v] (truthy v))) → cE n C e = some ie → plainT ie = true → PZT M C e (wT F Gd ie) := fun e ie he h1 h2 => by
      obtain ⟨t, i, p⟩ := hr e ie h1
      rw [tOf_plain h2]
      exact ⟨_, impt_tru i, fun X xo => by rw [← xo.K]; exact pt_truth (p X xo) (he X.env)⟩
    unfold cT at h
    split at h
    · rename_i a pos
      cases q : cT n C a with
      | none => rw [q] at h; cases h
      | some ia =>
        rw [q] at h; cases h
        obtain ⟨t, i, p⟩ := hT a ia q
        exact ⟨tNot t, impt_not i, fun X xo => pt_not (p X xo)⟩
    · obtain ⟨t, i, p⟩ := pzw_and hT h
      exact ⟨t, i, fun X xo => (p X xo).pt⟩
    · obtain ⟨t, i, p⟩ := pzw_or hT h
      exact ⟨t, i, fun X xo => (p X xo).pt⟩
    · rename_i a op b pos
      split at h
      · rename_i pl
        split at h
        · rename_i ia ib q1 q2
          cases h
          obtain ⟨t, i, p⟩ := hr a ia q1
          obtain ⟨t2, i2, p2⟩ := hr b ib q2
          exact ⟨tTest (tOp (rCmp M.K op) t t2), impt_cm op i i2, fun X xo => by rw [← xo.K]; exact pt_cmpR (op_cmp (by have := room_units xo; omega) op) (p X xo) (p2 X xo) (marks_of pl)⟩
        · cases h
      · cases h
    · rename_i a op op' b c pos
      split at h
      · rename_i pl
        rw [Bool.and_eq_true] at pl
        split at h
        · rename_i ia ib ic q1 q2 q3
          cases h
          obtain ⟨t, i, p⟩ := hr a ia q1
          obtain ⟨t2, i2, p2⟩ := hr b ib q2
          obtain ⟨t3, i3, p3⟩ := hr c ic q3
          refine ⟨tTest (tChain (rCmp M.K op) (rCmp M.K op') t t2 t3), fun B σ P G H Γ c Q R a w k => impt_tst (imp_chn op op' i i2 i3) B σ P G H Γ c Q R a ?_ k, fun X xo => by
            rw [← xo.K]
            exact pt_chain (op_cmp (by have := room_units xo; omega) op) (op_cmp (by have := room_units xo; omega) op') (p X xo) (p2 X xo) (p3 X xo) (lmarks_of pl.2)⟩
          exact wTChn_of w
        · cases h
      · cases h
    · obtain ⟨h1, h2⟩ := onlyT_of h
      exact val _ _ (fun _ _ => rfl) h1 h2
    · obtain ⟨h1, h2⟩ := onlyT_of h
      exact val _ _ (fun _ _ => rfl) h1 h2
    · obtain ⟨h1, h2⟩ := onlyT_of h
      exact val _ _ (fun _ _ => rfl) h1 h2
    · cases h
end
end
end Z
/-! Z16 -/
set_option maxRecDepth 100000
/-! statements: from the text to the machine -/
namespace Z
open PySem PySem.Spec PyProof.Rows L2
def isLC : Expr → Bool
  | .ListComp _ _ _ _ => true
  | .SetComp _ _ _ _ => true
  | .DictComp _ _ _ _ _ => true
  | _ => false
/-- a display of a tuple -/
def notTupD : Expr → Bool
  | .Tuple _ _ _ => false
  | _ => true
def lcScope : Expr → Option Scope
  | .ListComp _ _ s _ => some s
  | _ => none
def locN (C : CE) (x : Str) : Bool := match C.sc.names.lookup x with
  | some .local => true
  | _ => false
/-- a, b = e, f by way of the stack -/
def swN (C : CE) (x y : Str) (px py : Pos) (a b : Expr) : Bool :=
  locN C x && locN C y && !(x == y) && px.line == py.line && plainX a && plainX b && !(foldedForSure 8 a && foldedForSure 8 b) && !(constantsAlone 8 a && constantsAlone 8 b)
/-- a name's list comprehension that the statement uses up -/
def usedLC (C : CE) (y : Str) (py : Pos) (e : Expr) : Bool := match e with
  | .ListComp _ _ scope pos => locN C y && py.line == pos.line && !(scope.names.any fun (n, k) => n == y && (k == .local || k == .cell))
  | _ => false
/-- .. that it does not -/
def unusedLC (C : CE) (y : Str) (e : Expr) : Bool := match e with
  | .ListComp _ _ _ _ => match C.sc.names.lookup y with
    | some .cell => true
    | _ => false
  | .SetComp _ _ _ _ => false
  | .DictComp _ _ _ _ _ => false
  | _ => true
/-- three at once -/
def swN3 (C : CE) (x y z : Str) (px py pz : Pos) (a b c : Expr) : Bool :=
  locN C x && locN C y && locN C z && !(x == y) && !(x == z) && !(y == z) && px.line == py.line && px.line == pz.line && plainX a && plainX b && plainX c && !(foldedForSure 8 a && foldedForSure 8 b && foldedForSure 8 c) && !(constantsAlone 8 a && constantsAlone 8 b && constantsAlone 8 c)
def cTgX (C : CE) (n : Nat) (ts : List Expr) (k : Nat) (pt : Pos) : Option Tg := match cStar C n ts with
  | some (as, i) => some (.s as i)
  | none => cTg C n (.Tuple ts k pt)
mutual
def cS : Nat → CE → List Nat → Stmt → Option (List IS)
  | 0, _, _, _ => none
  | n + 1, C, ow, s => match s with
    | .Assign [.Name y py] (.List es lp) pos => (match locB C y, ixOf C.N y, cAll (cE n C) es with
      | true, some i, some ies => if i ∈ ow then some [.new i (.lst ies)] else some [.asg (.n i) (.lst ies)]
      | _, _, _ => none)
    | .Assign [.Name y py] (.Name x xp) pos => (match locB C y, ixOf C.N y, cE n C (.Name x xp) with
      | true, some i, some ie => if i ∈ ow then none else (match ie with
        | .var j => if j ∈ ow then some [.frz j, .asg (.n i) (.var j)] else some [.asg (.n i) (.var j)]
        | ie => some [.asg (.n i) ie])
      | _, _, _ => none)
    | .Assign [.Name y py] e pos => (match locB C y, ixOf C.N y, cE n C e with
      | true, some i, some ie => if i ∈ ow then none else if usedLC C y py e || unusedLC C y e then some [.asg (.n i) ie] else none
      | _, _, _ => none)
    | .Assign [.Tuple [.Name x px, .Name y py] k pt] (.Tuple [a, b] k2 pt2) pos => if swN C x y px py a b then (match ixOf C.N x, ixOf C.N y, cE n C a, cE n C b with
      | some i, some j, some a, some b => if i ∈ ow ∨ j ∈ ow then none else some [.par [i, j] [a, b]]
      | _, _, _, _ => none) else none
    | .Assign [.Tuple [.Name x px, .Name y py, .Name z pz] k pt] (.Tuple [a, b, c] k2 pt2) pos => if swN3 C x y z px py pz a b c then (match ixOf C.N x, ixOf C.N y, ixOf C.N z, cE n C a, cE n C b, cE n C c with
      | some i, some j, some l, some a, some b, some c => if i ∈ ow ∨ j ∈ ow ∨ l ∈ ow then none else some [.par [i, j, l] [a, b, c]]
      | _, _, _, _, _, _ => none) else none
    | .Assign [.Subscript (.Name x px) (.Constant (.int j) jk jp) sp] e pos => if plainX e && visB C.sc x && okN x then (match ixOf C.N x, cE n C e with
      | some i, some ie => some [.pst i j ie]
      | _, _ => none) else none
    | .Assign [.Tuple ts k pt] e pos => if notTupD e && !isLC e then (match cTgX C n ts k pt, cE n C e with
      | some tg, some ie => if (tgS tg).all (fun i => !decide (i ∈ ow)) then some [.asg tg ie] else none
      | _, _ => none) else none
    | .AugAssign (.Name x px) op e pos => (match locB C x, ixOf C.N x, cE n C e with
      | true, some i, some ie => (match op with
        | .Add => some [.aug i .Add ie]
        | .Sub => some [.aug i .Sub ie]
        | _ => none)
      | _, _, _ => none)
    | .Expr (.Call (.Attribute (.Name x px) m ap) [a] [] cp) pos => if visB C.sc x && okN x && ap.endLine == cp.line && plainX a then (match ixOf C.N x, cE n C a with
      | some i, some ia => if m = "append" then some [.app i ia] else if m = "extend" then some [.ext i ia] else none
      | _, _ => none) else none
    | .Return (some (.List [e1, e2, e3] lp)) pos => (match cAll (cE n C) [e1, e2, e3] with
      | some ies => if 1000 ∈ ow then some [.retP ies] else some [.ret (.lst ies)]
      | none => none)
    | .Return (some e) pos => (cE n C e).map fun ie => [.ret ie]
    | .Return none pos => some [.retN]
    | .If t a b pos => (match cT n C t, cSs n C ow a, cSs n C ow b with
      | some it, some ia, some ib => some [.ite it ia ib]
      | _, _, _ => none)
    | .For tg it body [] pos => (match cI C (cE n C) tg it, cTg C n tg, cSs n C ow body with
      | some it, some tg, some ib => if (tgS tg).all (fun i => !decide (i ∈ ow)) then some [.loop tg it ib] else none
      | _, _, _ => none)
    | .Pass pos => some [.pass]
    | .Break pos => some [.brk]
    | .Continue pos => some [.cont]
    | _ => none
def cSs : Nat → CE → List Nat → List Stmt → Option (List IS)
  | 0, _, _, _ => none
  | _ + 1, _, _, [] => some []
  | n + 1, C, ow, s :: ss => match cS n C ow s, cSs n C ow ss with
    | some a, some as => some (a ++ as)
    | _, _ => none
end
def PZS (M : Mo) (C : CE) (s : Stmt) (w : WS) : Prop := ∃ t, ImpS M.K w t ∧ ∀ X, XOk M C X → X.xe = (fun _ _ => False) → PS X s t
def PZSs (M : Mo) (C : CE) (s : List Stmt) (w : WS) : Prop := ∃ t, ImpS M.K w t ∧ ∀ X, XOk M C X → X.xe = (fun _ _ => False) → PSs X s t
section
variable {M : Mo} {F : Nat → Ct} {Gd : Nat → PyData} {C : CE}
/-- one statement alone -/
theorem impS_one {s : IS} {t : TS} (h : ImpS M.K (wS F Gd s) t) : ImpS M.K (wSs F Gd [s]) t := fun B σ P G H Γ c R D a w k => h B σ P G H Γ c R D a w k
theorem pzs_one {s : Stmt} {i : IS} (h : PZS M C s (wS F Gd i)) : PZS M C s (wSs F Gd [i]) := by
  obtain ⟨t, i, p⟩ := h
  exact ⟨t, impS_one i, p⟩
/-- statements one behind the other -/
theorem wSs_app (a b : List IS) (Γ : Ga) (c : Nat) (R : Rt) : wSs F Gd (a ++ b) Γ c R = wSs F Gd a Γ c { R with nx := fun Γ1 c1 => wSs F Gd b Γ1 c1 R } := by
  induction a generalizing Γ c R with
  | nil => rfl
  | cons s a ih =>
    show wS F Gd s Γ c { R with nx := fun Γ1 c1 => wSs F Gd (a ++ b) Γ1 c1 R } = wS F Gd s Γ c { R with nx := fun Γ1 c1 => wSs F Gd a Γ1 c1 { R with nx := fun Γ1 c1 => wSs F Gd b Γ1 c1 R } }
    congr 2
    funext Γ1 c1
    exact ih Γ1 c1 R
theorem swaps_no {e : Expr} {tg : Option Expr} {l : Nat} {env : Env} (h : isLC e = false) : swapsWith e tg l env = pure false := by
  cases e <;> first | rfl | cases h
theorem locN_ok {x : Str} (h : locN C x = true) : C.sc.names.lookup x = some .local := by
  unfold locN at h
  split at h
  · assumption
  · cases h
theorem unused_ok {X : Cx} (xo : XOk M C X) {y : Str} {py : Pos} {e : Expr} {l : Nat} (h : unusedLC C y e = true) : swapsWith e (some (.Name y py)) l X.env = pure false := by
  cases e with
  | ListComp elt gs scope pos =>
    unfold unusedLC at h
    simp only at h
    split at h
    · rename_i k
      have hk : X.env.kindOf y = some .cell := by unfold Env.kindOf; rw [xo.sc]; exact k
      unfold swapsWith
      simp only [hk]
      have : (some NameKind.cell == some NameKind.local) = false := rfl
      simp only [this, Bool.and_false, Bool.false_and]
    · cases h
  | SetComp _ _ _ _ => cases h
  | DictComp _ _ _ _ _ => cases h
  | _ => rfl
theorem par_len {a b : WE} {Γ : Ga} {c : Nat} {Q : List Zv → Nat → Prop} (w : wCons a (wCons b wNil) Γ c Q) : wCons a (wCons b wNil) Γ c fun zs c1 => zs.length = 2 ∧ Q zs c1 := by
  show a Γ c fun z c1 => b Γ c1 fun y c2 => [z, y].length = 2 ∧ Q [z, y] c2
  have e : (fun z c1 => b Γ c1 fun y c2 => [z, y].length = 2 ∧ Q [z, y] c2) = fun z c1 => b Γ c1 fun y c2 => Q [z, y] c2 := by
    funext z c1
    congr 1
    funext y c2
    exact propext ⟨fun h => h.2, fun h => ⟨rfl, h⟩⟩
  rw [e]
  exact w
theorem swN_ok {X : Cx} (xo : XOk M C X) (hk : X.env.scope.kind = .function) {x y : Str} {px py pt pt2 : Pos} {k k2 : Nat} {a b : Expr} (h : swN C x y px py a b = true) :
    swappedStores [.Tuple [.Name x px, .Name y py] k pt] (.Tuple [a, b] k2 pt2) X.env = pure (some [x, y]) := by
  unfold swN at h
  simp only [Bool.and_eq_true, Bool.not_eq_true', beq_iff_eq] at h
  obtain ⟨⟨⟨⟨⟨⟨⟨lx, ly⟩, nxy⟩, ln⟩, pa⟩, pb⟩, nf⟩, nc⟩ := h
  have kx : X.env.kindOf x = some .local := by unfold Env.kindOf; rw [xo.sc]; exact locN_ok lx
  have ky : X.env.kindOf y = some .local := by unfold Env.kindOf; rw [xo.sc]; exact locN_ok ly
  have hb : X.env.blockKind = .function := by unfold Env.blockKind; rw [hk]; rfl
  have s0 : ∀ e : Expr, plainX e = true → (match e with | Expr.Starred _ _ => true | _ => false) = false := fun e h => by cases e <;> first | rfl | cases h
  have nyx : (y == x) = false := by
    cases q : y == x with
    | false => rfl
    | true =>
      have e := eq_of_beq q
      subst e
      simp at nxy
  have e1 : ([x, y] : List Str).eraseDups.length = 2 := by
    simp [List.eraseDups_cons, List.filter, nyx]
  unfold swappedStores
  simp only [List.length_cons, List.length_nil, List.any_cons, List.any_nil, s0 a pa, s0 b pb, List.filterMap_cons, List.filterMap_nil, kx, ky, hb, ln, List.head?_cons, Option.map_some, Option.getD_some, List.all_cons, List.all_nil, Bool.and_true, nf, nc]
  simp only [Expr.pos, ln]
  simp only [Nat.reduceAdd, Nat.zero_add, beq_self_eq_true, Bool.true_or, Bool.not_true, bne_self_eq_false, Bool.or_false, Bool.false_eq_true, if_false, Bool.and_self, if_true, List.length_cons, List.length_nil, e1]
  rw [if_neg (by
    rw [Bool.or_eq_true]
    rintro (h | h)
    · revert h
      cases a <;> first | (intro h; cases h; done) | cases pa
    · revert h
      cases b <;> first | (intro h; cases h; done) | cases pb)]
theorem swN3_ok {X : Cx} (xo : XOk M C X) (hk : X.env.scope.kind = .function) {x y z : Str} {px py pz pt pt2 : Pos} {k k2 : Nat} {a b c : Expr} (h : swN3 C x y z px py pz a b c = true) :
    swappedStores [.Tuple [.Name x px, .Name y py, .Name z pz] k pt] (.Tuple [a, b, c] k2 pt2) X.env = pure (some [x, y, z]) := by
  unfold swN3 at h
  simp only [Bool.and_eq_true, Bool.not_eq_true', beq_iff_eq] at h
  obtain ⟨⟨⟨⟨⟨⟨⟨⟨⟨⟨⟨⟨lx, ly⟩, lz⟩, nxy⟩, nxz⟩, nyz⟩, ln⟩, ln2⟩, pa⟩, pb⟩, pc⟩, nf⟩, nc⟩ := h
  have kx : X.env.kindOf x = some .local := by unfold Env.kindOf; rw [xo.sc]; exact locN_ok lx
  have ky : X.env.kindOf y = some .local := by unfold Env.kindOf; rw [xo.sc]; exact locN_ok ly
  have kz : X.env.kindOf z = some .local := by unfold Env.kindOf; rw [xo.sc]; exact locN_ok lz
  have hb : X.env.blockKind = .function := by unfold Env.blockKind; rw [hk]; rfl
  have s0 : ∀ e : Expr, plainX e = true → (match e with | Expr.Starred _ _ => true | _ => false) = false := fun e h => by cases e <;> first | rfl | cases h
  have flip : ∀ {u v : Str}, (u == v) = false → (v == u) = false := fun {u v} h => by
    cases q : v == u with
    | false => rfl
    | true =>
      have e := eq_of_beq q
      subst e
      simp at h
  have e1 : ([x, y, z] : List Str).eraseDups.length = 3 := by
    simp [List.eraseDups_cons, List.filter, flip nxy, flip nxz, flip nyz]
  have nf2 : (foldedForSure 8 a && (foldedForSure 8 b && foldedForSure 8 c)) = false := by rw [← Bool.and_assoc]; exact nf
  have nc2 : (constantsAlone 8 a && (constantsAlone 8 b && constantsAlone 8 c)) = false := by rw [← Bool.and_assoc]; exact nc
  unfold swappedStores
  simp only [List.length_cons, List.length_nil, List.any_cons, List.any_nil, s0 a pa, s0 b pb, s0 c pc, List.filterMap_cons, List.filterMap_nil, kx, ky, kz, hb, ← ln, ← ln2, List.head?_cons, Option.map_some, Option.getD_some, List.all_cons, List.all_nil, Bool.and_true, nf2, nc2]
  simp only [Expr.pos]
  simp only [Nat.reduceAdd, Nat.zero_add, beq_self_eq_true, Bool.or_true, Bool.not_true, bne_self_eq_false, Bool.or_false, Bool.false_eq_true, if_false, Bool.and_self, if_true, List.length_cons, List.length_nil, e1]
  rw [if_neg (by
    simp only [Bool.or_eq_true]
    intro h
    have no : ∀ e : Expr, plainX e = true → (match e with | Expr.Starred _ _ => true | _ => false) = true → False := fun e h => by cases e <;> first | (intro h2; cases h2; done) | cases h
    rcases h with h | h | h
    · exact no a pa h
    · exact no b pb h
    · exact no c pc h)]
theorem par_len3 {a b e : WE} {Γ : Ga} {c : Nat} {Q : List Zv → Nat → Prop} (w : wCons a (wCons b (wCons e wNil)) Γ c Q) : wCons a (wCons b (wCons e wNil)) Γ c fun zs c1 => zs.length = 3 ∧ Q zs c1 := by
  show a Γ c fun z c1 => b Γ c1 fun y c2 => e Γ c2 fun x c3 => [z, y, x].length = 3 ∧ Q [z, y, x] c3
  have q : (fun z c1 => b Γ c1 fun y c2 => e Γ c2 fun x c3 => [z, y, x].length = 3 ∧ Q [z, y, x] c3) = fun z c1 => b Γ c1 fun y c2 => e Γ c2 fun x c3 => Q [z, y, x] c3 := by
    funext z c1
    congr 1
    funext y c2
    congr 1
    funext x c3
    exact propext ⟨fun h => h.2, fun h => ⟨rfl, h⟩⟩
  rw [q]
  exact w
theorem impS_par3 {K : PySem.W.Frag} {i j l : Nat} {w : WA} {t : TA} (ht : ImpA K w t) (h2 : ∀ Γ c Q, w Γ c Q → w Γ c fun zs c1 => zs.length = 3 ∧ Q zs c1) : ImpS K (fun Γ c R => w Γ c fun zs c1 => cln zs fun zs => R.nx (putZs Γ [i, j, l] zs) c1) (tPar3 i j l t) := fun B σ P G H Γ c R D a w' k => by
  refine ht B σ P G H Γ c _ _ a (h2 _ _ _ w') fun vs P1 G1 H1 c1 zs s1 w1 r1 q1 => ?_
  obtain ⟨hl, q1⟩ := q1
  obtain ⟨q, hz⟩ := cln_of r1 q1
  match zs, hl, hz, q with
  | [z1, z2, z3], _, .cons h1 (.cons h2 (.cons h3 .nil)), q =>
    have a1 := a.step s1 w1
    refine ⟨_, _, _, rfl, k.nx _ P1 G1 H1 c1 _ s1.gg s1.pp (((a1.set h1.zr fun xs e => absurd e (h1.notOwn xs)).set h2.zr fun xs e => absurd e (h2.notOwn xs)).set h3.zr fun xs e => absurd e (h3.notOwn xs)) q⟩
/-- a, b, *rest -/
theorem pz_star : ∀ (n : Nat) (es : List Expr) (ts : List Tg) (i : Nat), cStar C n es = some (ts, i) → ∃ g, ImpGsR M.K ts i g ∧ (∀ X, XOk M C X → PGs X es g) ∧ (∀ env, (assignEach es env).length = ts.length + 1) ∧ (∀ env, (assignEach es env).findIdx? (·.1) = some ts.length)
  | n, [], ts, i, h => by cases h
  | n, e :: es, ts, i, h => by
    unfold cStar at h
    split at h
    · rename_i heq; cases heq
    · rename_i x px sp heq
      cases heq
      split at h
      · rename_i lc
        cases q : ixOf C.N x with
        | none => rw [q] at h; cases h
        | some j =>
          rw [q] at h
          cases h
          exact ⟨gCons (gName i) gNil, impgsr_nil i, fun X xo => pgs_starL (pg_name (by rw [xo.N]; exact xo.nd) (by rw [xo.N]; exact ixOf_get q) (loc_of xo lc).1 (loc_of xo lc).2), fun _ => rfl, fun _ => rfl⟩
      · cases h
    · rename_i e' es' _ heq
      cases heq
      split at h
      · rename_i pl
        split at h
        · rename_i a as j e1 e2
          cases h
          obtain ⟨g, ig, pg⟩ := pz_tg (M := M) n e a e1
          obtain ⟨gs, igs, pgs, hn, hst⟩ := pz_star n es as i e2
          refine ⟨gCons g gs, impgsr_cons ig igs, fun X xo => pgs_cons (pg X xo) (pgs X xo) (by rw [assignEach_of pl]; rfl), fun env => by rw [assignEach_of pl]; simp [hn env], fun env => ?_⟩
          rw [assignEach_of pl, List.findIdx?_cons, hst env]
          rfl
        · cases h
      · cases h
theorem pz_tgX {n : Nat} {ts : List Expr} {k : Nat} {pt : Pos} {tg : Tg} (h : cTgX C n ts k pt = some tg) : PZG M C (.Tuple ts k pt) tg ∧ tgN tg = none := by
  unfold cTgX at h
  split at h
  · rename_i as i q
    cases h
    obtain ⟨g, ig, pgs, hn, hst⟩ := pz_star (M := M) n ts as i q
    refine ⟨⟨gStar M.K as.length g, impg_s ig, fun X xo => ?_⟩, rfl⟩
    rw [← xo.K]
    exact pg_star xo.calm (pgs X xo) (hn X.env) (hst X.env)
  · refine ⟨pz_tg (M := M) n _ tg h, ?_⟩
    cases n with
    | zero => simp [cTg] at h
    | succ n =>
      have h : (cTgs C n ts).map Tg.t = some tg := by simpa [cTg] using h
      cases q : cTgs C n ts with
      | none => rw [q] at h; cases h
      | some us => rw [q] at h; cases h; rfl
theorem impS_asgX {e : IE} {t : TE} {tg : Tg} {g : TG} (hn : tgN tg = none) (i1 : Imp M.K (wE F Gd e) t) (ig : ImpG M.K (tgS tg) (wTg tg) g) : ImpS M.K (wS F Gd (.asg tg e)) (tAsg t g) := by
  have := impS_asgT i1 ig
  intro B σ P G H Γ c R D a w k
  refine this B σ P G H Γ c R D a ?_ k
  unfold wS at w
  rw [hn] at w
  exact w
theorem used_ok {X : Cx} (xo : XOk M C X) (hk : X.env.scope.kind = .function) {y : Str} {py : Pos} {elt : Expr} {gs : List Comprehension} {scope : Scope} {pos : Pos} {l : Nat} (h : usedLC C y py (.ListComp elt gs scope pos) = true) :
    X.env.scope.names.lookup y = some .local ∧ swapsWith (.ListComp elt gs scope pos) (some (.Name y py)) l X.env = pure true := by
  have h : (locN C y && py.line == pos.line && !(scope.names.any fun (n, k) => n == y && (k == .local || k == .cell))) = true := h
  simp only [Bool.and_eq_true, Bool.not_eq_true'] at h
  obtain ⟨⟨ly, ln⟩, nn⟩ := h
  have hy : X.env.scope.names.lookup y = some .local := by rw [xo.sc]; exact locN_ok ly
  exact ⟨hy, sw_true hk hy ln nn⟩
theorem idx_ne {l : List Str} {x y : Str} {i j : Nat} (h1 : ixOf l x = some i) (h2 : ixOf l y = some j) (n : (x == y) = false) : i ≠ j := fun e => by
  subst e
  have a := ixOf_get h1
  have b := ixOf_get h2
  rw [a] at b
  cases b
  simp at n
/-- an assignment to one name -/
theorem pzs_name (MO : MOk M C.fs C.gs C.bs C.ks C.ds F Gd) {n : Nat} {y : Str} {py pos : Pos} {e : Expr} {i : Nat} {ie : IE} (lc : locB C y = true) (hi : ixOf C.N y = some i) (he : cE n C e = some ie) (hu : (usedLC C y py e || unusedLC C y e) = true)
    (hkind : ∀ X, XOk M C X → X.env.scope.kind = .function) : PZS M C (.Assign [.Name y py] e pos) (wS F Gd (.asg (.n i) ie)) := by
  have hpe := cE_ok (F := F) (Gd := Gd) n C e ie MO he
  by_cases hun : unusedLC C y e = true
  · obtain ⟨t, im, p⟩ := hpe
    exact ⟨tAsg t (gName i), impS_asgN i im, fun X xo _ => ps_set (by rw [xo.N]; exact xo.nd) (by rw [xo.N]; exact ixOf_get hi) (loc_of xo lc).1 (p X xo) (unused_ok xo hun) (loc_of xo lc).2⟩
  · have hus : usedLC C y py e = true := by
      rw [Bool.or_eq_true] at hu
      exact hu.resolve_right hun
    cases n with
    | zero => simp [cE] at he
    | succ n =>
      have hb : ∀ scope e ie, cE n (C.blk scope) e = some ie → PZ M (C.blk scope) e (wE F Gd ie) := fun scope e ie h => cE_ok n (C.blk scope) e ie MO h
      have hr : ∀ e ie, cE n C e = some ie → PZ M C e (wE F Gd ie) := fun e ie h => cE_ok n C e ie MO h
      cases e with
      | ListComp elt gs scope lpos =>
        unfold cE at he
        rw [show cHook C (.ListComp elt gs scope lpos) = none from rfl] at he
        simp only at he
        rw [show orE (cHx (cE n C) C (.ListComp elt gs scope lpos)) (cHx2 (cE n C) (.ListComp elt gs scope lpos)) = none from rfl] at he
        simp only at he
        split at he
        all_goals first | (cases he; done) | (rename_i heq; cases heq; done) | skip
        · rename_i elt' tg it ifs scope' lpos' heq
          cases heq
          split at he
          · rename_i bk
            split at he
            · rename_i iit itg ielt icd q1 q2 q3 q4
              split at he
              · rename_i sub
                cases he
                obtain ⟨⟨t1, i1, p1⟩, pit⟩ := pz_i MO hr q1
                obtain ⟨g, ig, pg⟩ := pz_tg (M := M) n tg itg q2
                obtain ⟨t2, i2, p2⟩ := hb scope elt ielt q3
                obtain ⟨t3, i3, p3⟩ := cIfs_ok (F := F) (Gd := Gd) n (C.blk scope) ifs icd MO q4
                refine ⟨_, impS_asgN i (imp_lc' ((ownOf C.N scope.names).map fun x : Str × Nat => x.2) i1 ig (subS_ok sub) i3 i2), fun X xo _ => ?_⟩
                obtain ⟨hyl, hsw⟩ := used_ok xo (hkind X xo) (l := pos.line) hus
                have ok : BlkOk X.N X.env.scope scope (ownOf C.N scope.names) := blkOk_by (by rw [xo.N, xo.sc]; exact bk)
                exact ps_setLc xo.calm (by rw [xo.N]; exact xo.nd) (by rw [xo.N]; exact ixOf_get hi) hyl hsw (p1 X xo) ok (fun s H Ca cl fp => pg _ (xo.blk s H scope cl Ca fp)) (fun s H Ca cl fp => p3 _ (xo.blk s H scope cl Ca fp)) (fun s H Ca cl fp => p2 _ (xo.blk s H scope cl Ca fp)) (fold_of pit X.env)
              · cases he
            · cases he
          · cases he
        · rename_i elt' tg it ifs tg2 it2 ifs2 scope' lpos' heq
          cases heq
          split at he
          · rename_i bk
            split at he
            · rename_i iit itg icd iit2 itg2 icd2 ielt q1 q2 q3 q4 q5 q6 q7
              split at he
              · rename_i sub
                rw [Bool.and_eq_true] at sub
                cases he
                obtain ⟨⟨t1, i1, p1⟩, pit⟩ := pz_i MO hr q1
                obtain ⟨g, ig, pg⟩ := pz_tg (M := M) n tg itg q2
                obtain ⟨t3, i3, p3⟩ := cIfs_ok (F := F) (Gd := Gd) n (C.blk scope) ifs icd MO q3
                obtain ⟨⟨t4, i4, p4⟩, pit2⟩ := pz_i (C := C.blk scope) MO (hb scope) q4
                obtain ⟨g2, ig2, pg2⟩ := pz_tg (M := M) n tg2 itg2 q5
                obtain ⟨t6, i6, p6⟩ := cIfs_ok (F := F) (Gd := Gd) n (C.blk scope) ifs2 icd2 MO q6
                obtain ⟨t2, i2, p2⟩ := hb scope elt ielt q7
                refine ⟨_, impS_asgN i (imp_lc2' ((ownOf C.N scope.names).map fun x : Str × Nat => x.2) (tgS itg2) i1 ig (subS_ok sub.1) i3 i4 ig2 (fun _ h => h) i6 i2), fun X xo _ => ?_⟩
                obtain ⟨hyl, hsw⟩ := used_ok xo (hkind X xo) (l := pos.line) hus
                have ok : BlkOk X.N X.env.scope scope (ownOf C.N scope.names) := blkOk_by (by rw [xo.N, xo.sc]; exact bk)
                exact ps_setLc2 xo.calm (by rw [xo.N]; exact xo.nd) (by rw [xo.N]; exact ixOf_get hi) hyl hsw (p1 X xo) ok (subS_ok sub.2) (fun s H Ca cl fp => pg _ (xo.blk s H scope cl Ca fp)) (fun s H Ca cl fp => p3 _ (xo.blk s H scope cl Ca fp)) (fun s H Ca cl fp => p4 _ (xo.blk s H scope cl Ca fp))
                  (fun s H Ca cl fp => pg2 _ (xo.blk s H scope cl Ca fp)) (fun s H Ca cl fp => p6 _ (xo.blk s H scope cl Ca fp)) (fun s H Ca cl fp => p2 _ (xo.blk s H scope cl Ca fp)) (fold_of pit X.env) (fun env => fold_of pit2 env)
              · cases he
            · cases he
          · cases he
      | _ => cases hus
theorem pl_of {n : Nat} {e : Expr} {ie : IE} (h : cE n C e = some ie) : plainX e = true := by
  cases n with
  | zero => simp [cE] at h
  | succ n => cases e <;> first | rfl | simp [cE, cHook, cHx, cHx2, orE] at h
/-- name += e, name -= e -/
theorem aug_add {ie : IE} {t : TE} (i : Nat) (h : Imp M.K (wE F Gd ie) t) : ImpS M.K (wS F Gd (.aug i .Add ie)) (tAug i t (ipI fun i j => i + j)) := by
  have := impS_aug i .Add h (fun i j => i + j) (fun a b R Γ c => R.nx (putZ Γ i (.d (.int (a + b)))) c) (fun x y R Γ c h => h)
  intro B σ P G H Γ c R D a w k
  refine this B σ P G H Γ c R D a ?_ k
  unfold wS at w
  split at w
  · rename_i a0 e0
    try simp only [e0]
    refine cast (congrArg (wE F Gd ie Γ c) (funext fun z => funext fun c1 => congrArg (dv z) (funext fun y => ?_))) w
    cases y <;> rfl
  · exact w.elim
theorem aug_sub {ie : IE} {t : TE} (i : Nat) (h : Imp M.K (wE F Gd ie) t) : ImpS M.K (wS F Gd (.aug i .Sub ie)) (tAug i t (ipI fun i j => i - j)) := by
  have := impS_aug i .Sub h (fun i j => i - j) (fun a b R Γ c => R.nx (putZ Γ i (.d (.int (a - b)))) c) (fun x y R Γ c h => h)
  intro B σ P G H Γ c R D a w k
  refine this B σ P G H Γ c R D a ?_ k
  unfold wS at w
  split at w
  · rename_i a0 e0
    try simp only [e0]
    refine cast (congrArg (wE F Gd ie Γ c) (funext fun z => funext fun c1 => congrArg (dv z) (funext fun y => ?_))) w
    cases y <;> rfl
  · exact w.elim
mutual
theorem cS_ok (hkind : ∀ X, XOk M C X → X.env.scope.kind = .function) (MO : MOk M C.fs C.gs C.bs C.ks C.ds F Gd) : ∀ (n : Nat) (ow : List Nat) (s : Stmt) (is : List IS), cS n C ow s = some is → PZS M C s (wSs F Gd is)
  | 0, _, _, _, h => by simp [cS] at h
  | n + 1, ow, s, is, h => by
    have hr : ∀ e ie, cE n C e = some ie → PZ M C e (wE F Gd ie) := fun e ie h => cE_ok n C e ie MO h
    unfold cS at h
    split at h
    · rename_i y py es lp pos
      split at h
      · rename_i i ies e1 e2 e3
        obtain ⟨_, t, im, p⟩ := pz_all hr e3
        split at h
        · cases h
          exact pzs_one ⟨tAsg (tLst t) (gName i), impS_new i im, fun X xo _ => ps_set (by rw [xo.N]; exact xo.nd) (by rw [xo.N]; exact ixOf_get e2) (loc_of xo e1).1 (pe_lst (p X xo)) (swaps_no rfl) (loc_of xo e1).2⟩
        · cases h
          exact pzs_one ⟨tAsg (tLst t) (gName i), impS_asgN i (imp_lst im), fun X xo _ => ps_set (by rw [xo.N]; exact xo.nd) (by rw [xo.N]; exact ixOf_get e2) (loc_of xo e1).1 (pe_lst (p X xo)) (swaps_no rfl) (loc_of xo e1).2⟩
      · cases h
    · rename_i y py x xp pos
      split at h
      · rename_i i ie e1 e2 e3
        have one : ∀ ie, cE n C (.Name x xp) = some ie → PZS M C (.Assign [.Name y py] (.Name x xp) pos) (wS F Gd (.asg (.n i) ie)) := fun ie e3 => pzs_name MO e1 e2 e3 (by rw [Bool.or_eq_true]; exact .inr rfl) hkind
        split at h
        · cases h
        · split at h
          · rename_i j
            split at h
            · cases h
              obtain ⟨t, im, p⟩ := one _ e3
              exact ⟨t, impS_frz j im, p⟩
            · cases h
              exact pzs_one (one _ e3)
          · cases h
            exact pzs_one (one _ e3)
      · cases h
    · rename_i y py e pos _ _
      split at h
      · rename_i i ie e1 e2 e3
        split at h
        · cases h
        · split at h
          · rename_i hu
            cases h
            exact pzs_one (pzs_name MO e1 e2 e3 hu hkind)
          · cases h
      · cases h
    · rename_i x px y py k pt a b k2 pt2 pos
      split at h
      · rename_i sw
        split at h
        · rename_i i j ia ib q1 q2 q3 q4
          split at h
          · cases h
          · cases h
            obtain ⟨t1, i1, p1⟩ := hr a ia q3
            obtain ⟨t2, i2, p2⟩ := hr b ib q4
            have sw' := sw
            unfold swN at sw'
            simp only [Bool.and_eq_true, Bool.not_eq_true', beq_iff_eq] at sw'
            obtain ⟨⟨⟨⟨⟨⟨⟨lx, ly⟩, nxy⟩, ln⟩, pa⟩, pb⟩, nf⟩, nc⟩ := sw'
            refine pzs_one ⟨tPar i j (tCons t1 (tCons t2 tNil)), impS_par2 (imp_a1 i1 (imp_a1 i2 imp_a0)) (fun Γ c Q w => par_len w), fun X xo _ => ?_⟩
            exact ps_par xo.calm (by rw [xo.N]; exact xo.nd) (by rw [xo.N]; exact ixOf_get q1) (by rw [xo.N]; exact ixOf_get q2) (idx_ne q1 q2 nxy) (by rw [xo.sc]; exact locN_ok lx) (by rw [xo.sc]; exact locN_ok ly)
              (pa_cons (p1 X xo) (pa_cons (p2 X xo) pa_nil (star_of pb [] X.env)) (star_of pa [b] X.env)) (swN_ok xo (hkind X xo) sw)
        · cases h
      · cases h
    · rename_i x px y py z pz k pt a b c k2 pt2 pos
      split at h
      · rename_i sw
        split at h
        · rename_i i j l ia ib ic q1 q2 q3 q4 q5 q6
          split at h
          · cases h
          · cases h
            obtain ⟨t1, i1, p1⟩ := hr a ia q4
            obtain ⟨t2, i2, p2⟩ := hr b ib q5
            obtain ⟨t3, i3, p3⟩ := hr c ic q6
            have sw' := sw
            unfold swN3 at sw'
            simp only [Bool.and_eq_true, Bool.not_eq_true', beq_iff_eq] at sw'
            obtain ⟨⟨⟨⟨⟨⟨⟨⟨⟨⟨⟨⟨lx, ly⟩, lz⟩, nxy⟩, nxz⟩, nyz⟩, ln⟩, ln2⟩, pa⟩, pb⟩, pc⟩, nf⟩, nc⟩ := sw'
            refine pzs_one ⟨tPar3 i j l (tCons t1 (tCons t2 (tCons t3 tNil))), impS_par3 (imp_a1 i1 (imp_a1 i2 (imp_a1 i3 imp_a0))) (fun Γ c Q w => par_len3 w), fun X xo _ => ?_⟩
            exact ps_par3 xo.calm (by rw [xo.N]; exact xo.nd) (by rw [xo.N]; exact ixOf_get q1) (by rw [xo.N]; exact ixOf_get q2) (by rw [xo.N]; exact ixOf_get q3) (idx_ne q1 q2 nxy) (idx_ne q1 q3 nxz) (idx_ne q2 q3 nyz) (by rw [xo.sc]; exact locN_ok lx) (by rw [xo.sc]; exact locN_ok ly) (by rw [xo.sc]; exact locN_ok lz)
              (pa_cons (p1 X xo) (pa_cons (p2 X xo) (pa_cons (p3 X xo) pa_nil (star_of pc [] X.env)) (star_of pb [c] X.env)) (star_of pa [b, c] X.env)) (swN3_ok xo (hkind X xo) sw)
        · cases h
      · cases h
    · rename_i x px j jk jp sp e pos
      split at h
      · rename_i hc
        simp only [Bool.and_eq_true] at hc
        obtain ⟨⟨pl, vis⟩, ok⟩ := hc
        split at h
        · rename_i i ie e1 e2
          cases h
          obtain ⟨t, im, p⟩ := hr e ie e2
          exact pzs_one ⟨tAsg t (gSub (tVar i) (tC (.int j)) rSetL), impS_pst i j im, fun X xo _ => ps_asg (p X xo) (pg_sub (pe_var (by rw [xo.N]; exact ixOf_get e1) (by rw [xo.sc]; exact visB_ok vis) (okN_dbg ok) (okN_cdc ok)) pe_int set_list) (by
            unfold swapsWithSole
            cases e <;> rfl) (by cases e <;> first | rfl | cases pl)⟩
        · cases h
      · cases h
    · rename_i ts k pt e pos _ _
      split at h
      · rename_i nt
        rw [Bool.and_eq_true, Bool.not_eq_true'] at nt
        split at h
        · rename_i tg ie q1 q2
          split at h
          · cases h
            obtain ⟨⟨g, ig, pg⟩, htn⟩ := pz_tgX (M := M) q1
            obtain ⟨t, i1, p1⟩ := hr e ie q2
            have hs : swappedStores [.Tuple ts k pt] e = fun _ => pure none := by funext env; cases e <;> first | rfl | cases nt.1
            exact pzs_one ⟨tAsg t g, impS_asgX htn i1 ig, fun X xo _ => ps_asg (p1 X xo) (pg X xo) (by unfold swapsWithSole; first | exact swaps_no nt.2 | (split <;> first | exact swaps_no nt.2 | rfl)) (by rw [hs])⟩
          · cases h
        · cases h
      · cases h
    · rename_i x px op e pos
      split at h
      · rename_i i ie e1 e2 e3
        obtain ⟨t, i1, p1⟩ := hr e ie e3
        split at h
        · cases h
          exact pzs_one ⟨tAug i t (ipI fun i j => i + j), aug_add i i1, fun X xo _ => ps_aug (by rw [xo.N]; exact xo.nd) (by rw [xo.N]; exact ixOf_get e2) (loc_of xo e1).1 (p1 X xo) ip_add (loc_of xo e1).2⟩
        · cases h
          exact pzs_one ⟨tAug i t (ipI fun i j => i - j), aug_sub i i1, fun X xo _ => ps_aug (by rw [xo.N]; exact xo.nd) (by rw [xo.N]; exact ixOf_get e2) (loc_of xo e1).1 (p1 X xo) ip_sub (loc_of xo e1).2⟩
        · cases h
      · cases h
    · rename_i x px m ap a cp pos
      split at h
      · rename_i hc
        simp only [Bool.and_eq_true] at hc
        obtain ⟨⟨⟨vis, ok⟩, el⟩, pl⟩ := hc
        split at h
        · rename_i i ia q1 q2
          obtain ⟨t, i1, p1⟩ := hr a ia q2
          split at h
          · rename_i em
            cases h
            subst em
            refine pzs_one ⟨tDrop (tBM M.K "list" rAppend (tVar i) (tCons t tNil)), impS_app i i1, fun X xo _ => ?_⟩
            rw [← xo.K]
            exact ps_expr (pe_bm PySem.F.plainAttrs_list PySem.F.slot_list_append PySem.F.type_list_append mt_append (pe_var (by rw [xo.N]; exact ixOf_get q1) (by rw [xo.sc]; exact visB_ok vis) (okN_dbg ok) (okN_cdc ok)) (pa_cons (p1 X xo) pa_nil (star_of pl [] X.env))
              rfl (few_of pl X.env cp) el (star_of pl [] X.env) rfl) (swaps_no rfl)
          · split at h
            · rename_i em
              cases h
              subst em
              refine pzs_one ⟨tDrop (tBM M.K "list" rExtend (tVar i) (tCons t tNil)), impS_ext i i1, fun X xo _ => ?_⟩
              rw [← xo.K]
              exact ps_expr (pe_bm PySem.F.plainAttrs_list PySem.F.slot_list_extend PySem.F.type_list_extend mt_extend (pe_var (by rw [xo.N]; exact ixOf_get q1) (by rw [xo.sc]; exact visB_ok vis) (okN_dbg ok) (okN_cdc ok)) (pa_cons (p1 X xo) pa_nil (star_of pl [] X.env))
                rfl (few_of pl X.env cp) el (star_of pl [] X.env) rfl) (swaps_no rfl)
            · cases h
        · cases h
      · cases h
    · rename_i e1 e2 e3 lp pos
      split at h
      · rename_i ies q
        obtain ⟨_, t, im, p⟩ := pz_all hr q
        split at h
        · cases h
          exact pzs_one ⟨tRet (tLst t), impS_retP im, fun X xo _ => ps_ret (pe_lst (p X xo))⟩
        · cases h
          exact pzs_one ⟨tRet (tLst t), impS_ret (imp_lst im), fun X xo _ => ps_ret (pe_lst (p X xo))⟩
      · cases h
    · rename_i e pos _
      cases q : cE n C e with
      | none => rw [q] at h; cases h
      | some ie =>
        rw [q] at h; cases h
        obtain ⟨t, i1, p1⟩ := hr e ie q
        exact pzs_one ⟨tRet t, impS_ret i1, fun X xo _ => ps_ret (p1 X xo)⟩
    · cases h; exact pzs_one ⟨tRetN, impS_retN, fun X xo _ => ps_retN⟩
    · rename_i t a b pos
      split at h
      · rename_i it ia ib q1 q2 q3
        cases h
        obtain ⟨t1, i1, p1⟩ := cT_ok (F := F) (Gd := Gd) n C t it MO q1
        obtain ⟨t2, i2, p2⟩ := cSs_ok hkind MO n ow a ia q2
        obtain ⟨t3, i3, p3⟩ := cSs_ok hkind MO n ow b ib q3
        exact pzs_one ⟨tIfS t1 t2 t3, impS_ite i1 i2 i3, fun X xo xe => ps_if (p1 X xo) (p2 X xo xe) (p3 X xo xe)⟩
      · cases h
    · rename_i tg it body pos
      split at h
      · rename_i iit itg ib q1 q2 q3
        split at h
        · cases h
          obtain ⟨⟨t1, i1, p1⟩, pit⟩ := pz_i MO hr q1
          obtain ⟨g, ig, pg⟩ := pz_tg (M := M) n tg itg q2
          obtain ⟨t2, i2, p2⟩ := cSs_ok hkind MO n ow body ib q3
          exact pzs_one ⟨tFor t1 g t2, impS_for i1 ig i2, fun X xo xe => ps_for (by rw [xe]; exact PassesOwn.never) xo.calm (p1 X xo) (pg X xo) (p2 X xo xe) (fold_of pit X.env)⟩
        · cases h
      · cases h
    · cases h; exact pzs_one ⟨tNext, impS_pass, fun X xo _ => ps_pass⟩
    · cases h; exact pzs_one ⟨tBreak, impS_brk, fun X xo _ => ps_break⟩
    · cases h; exact pzs_one ⟨tCont, impS_cont, fun X xo _ => ps_continue⟩
    · cases h
theorem cSs_ok (hkind : ∀ X, XOk M C X → X.env.scope.kind = .function) (MO : MOk M C.fs C.gs C.bs C.ks C.ds F Gd) : ∀ (n : Nat) (ow : List Nat) (s : List Stmt) (is : List IS), cSs n C ow s = some is → PZSs M C s (wSs F Gd is)
  | 0, _, _, _, h => by simp [cSs] at h
  | n + 1, ow, [], is, h => by
    have h : (some [] : Option (List IS)) = some is := by simpa [cSs] using h
    cases h
    exact ⟨tNext, impS_pass, fun X xo _ => pss_nil⟩
  | n + 1, ow, s :: ss, is, h => by
    unfold cSs at h
    split at h
    · rename_i a as q1 q2
      cases h
      obtain ⟨t1, i1, p1⟩ := cS_ok hkind MO n ow s a q1
      obtain ⟨t2, i2, p2⟩ := cSs_ok hkind MO n ow ss as q2
      refine ⟨tSeq t1 t2, ?_, fun X xo xe => pss_cons (p1 X xo xe) (p2 X xo xe)⟩
      have := impS_seq i1 i2
      intro B σ P G H Γ c R D aa w k
      rw [wSs_app] at w
      exact this B σ P G H Γ c R D aa w k
    · cases h
end
end
end Z
/-! Z17 -/
set_option maxRecDepth 100000
/-! a def keeps its promise upon data; the law's head -/
namespace Z
open PySem PySem.Spec PyProof.Rows L2
def iniG (N : List Str) (zs : List Zv) : Ga := zs.map some ++ List.replicate (N.length - zs.length) none
def iniR (Q : KZ) : Rt := ⟨fun _ c => Q (.d .none) c, Q, fun _ _ => False, fun _ _ => False⟩
theorem iniG_get {N : List Str} : ∀ {zs : List Zv} {n i : Nat} {z : Zv}, get (zs.map some ++ List.replicate n none) i = some z → zs[i]? = some z
  | [], n, i, z, h => by
    exfalso
    have : ∀ n i, get (List.replicate n (none : Option Zv)) i ≠ some z := by
      intro n
      induction n with
      | zero => intro i h; simp [get] at h
      | succ n ih =>
        intro i h
        rw [List.replicate_succ] at h
        cases i with
        | zero => simp [get] at h
        | succ i => exact ih i h
    exact this n i (by simpa using h)
  | y :: zs, n, 0, z, h => by simpa [get] using h
  | y :: zs, n, i + 1, z, h => by
    have := iniG_get (N := N) (zs := zs) (n := n) (i := i) (z := z) (by simpa [get] using h)
    simpa using this
theorem As.ini {K : PySem.W.Frag} {P : Addr → Prop} {G H : Hp} {c : Nat} {N : List Str} {zs : List Zv} {vs : List V} (w : Wd P G H c) (r : ZVs K P G zs vs) : As K ⟨P, G, H⟩ P G H c (iniG N zs) (L2.start N vs) where
  st := .refl
  wd := w
  sl := fun i z h => by
    obtain ⟨v, e, q⟩ := r.get (iniG_get (N := N) h)
    refine ⟨v, ?_, q.zr⟩
    unfold L2.start
    rw [List.getElem?_append_left (by
      rw [List.length_map]
      exact (List.getElem?_eq_some_iff.mp e).1), List.getElem?_map, e]
    rfl
  ln := by
    unfold iniG L2.start
    simp only [List.length_append, List.length_map, List.length_replicate, r.length]
    exact Nat.le_refl _
  dj := fun i j xs ys _ h1 _ => by
    obtain ⟨v, e, q⟩ := r.get (iniG_get (N := N) h1)
    exact q.elim
section
variable {P : Program} {w : World} {K : PySem.W.Frag} {mg : Str → Option Value} {base : Heap}
/-- THE RULE for a def -/
theorem fnz_of {x qual : Str} {st : Stmt} {f : Addr} {fd : FuncData} {N ps : List Str} {k : Nat} {sp : Sp} (F : L2.Fun K x qual st f fd) (S : FnScope N ps (defScope st)) (len : ∀ vs H Q E, sp vs H Q E → vs.length = ps.length)
    (hbody : ∀ (cdv : Value) (A : Around) (outer : List Env) (s : Shared) (H : Hp) (vs : List V) (Q : VK) (E : XK), Gd0 A → Room k (A.deeper (envOfC qual (defScope st) s.heap.objs.size f cdv)) → sp vs H Q E →
      ∃ t, PSs (cxOf CX0 P w K mg base N qual (defScope st) f cdv A outer s H E).nox (defBody st) t ∧ t { nx := fun _ H' => Q .non H', rt := Q } (L2.start N vs) H) : FnZ P w K mg base (k + 1) f fd ps sp := by
  refine ⟨len, fun A outer s H args us vs Q E hr hgd e0 hb r hsp => ?_⟩
  obtain ⟨oc, od, kV, doc, pm, an, cdv, ct, osl, rfl, lk, hcd⟩ := F.ex
  have hl := len _ _ _ _ hsp
  have hin : K.In s.heap := e0.mod.kin.keeps fun a u q => (e0.bs a u q).1
  have nol : s.heap.NoLimit := e0.mod.nolimit.keeps fun a u q => (e0.bs a u q).1
  have hkind : ∀ y ∈ ps.zip us, (defScope st).names.lookup y.1 = some .local ∨ ((defScope st).names.lookup y.1 = some .cell ∧ ((cellsFrom (s.heap.objs.size + 1) (defScope st).names []).lookup y.1).isSome = true) := fun ⟨n, v⟩ hy => by
    rcases S.par n (List.of_mem_zip hy).1 with q | q
    · exact .inl q
    · exact .inr ⟨q, PySem.W.cellsFrom_some _ _ _ (.inl q)⟩
  refine codeAny_call_function hr.depth (hin _ _ lk) rfl S.co S.gen rfl (PySem.W.codeRec_of hin hcd) (hb _ _ _ _ ?_)
  refine wpAny_newFunctionEnv_cells S.kind hkind fun env he s1 x => ?_
  subst he
  refine ⟨nol.keeps x.toInCall.keep, codeAny_func ?_⟩
  obtain ⟨t, ht, hq⟩ := hbody cdv A outer s H vs Q E hgd (hr.deeper _) hsp
  have I : Inv (cxOf CX0 P w K mg base N qual (defScope st) f cdv A outer s H E) [] (L2.start N vs) H s1 := inv_start S hr.hd e0 hl r x
  refine wpAny_mono (ht.nox.run [] s1 (L2.start N vs) H _ I hq) (fun fl s' hs => ?_) fun e s' hs => hs
  have fin : ∀ {σ' : L2.St} {H' : Hp} {v : V} {u : Value}, Inv (cxOf CX0 P w K mg base N qual (defScope st) f cdv A outer s H E) [] σ' H' s' → RelV v u → Q v H' → L2.CE outer P w H s Q u s' :=
    fun {σ' H' v u} J rv q => ⟨v, H', J.os, J.bare, J.base, J.hok, rv, q⟩
  cases fl with
  | ret u =>
    obtain ⟨v, σ', H', J, rv, q⟩ := hs
    exact fin J rv q
  | next =>
    obtain ⟨σ', H', J, q⟩ := hs
    exact fin (v := V.non) (u := Value.none) J rfl q
  | brk =>
    obtain ⟨_, _, _, q⟩ := hs
    exact False.elim q
  | cont =>
    obtain ⟨_, _, _, q⟩ := hs
    exact False.elim q
/-- .. whose body has a short form -/
theorem fnz {x qual : Str} {st : Stmt} {f : Addr} {fd : FuncData} {N ps : List Str} {k n : Nat} {ct : Ct} {fs gs bs : List Str} {ks : List (Str × List Str)} {dn : List Str} {Fs : Nat → Ct} {Gd : Nat → PyData} {ow : List Nat} {ir : List IS} (F : L2.Fun K x qual st f fd) (S : FnScope N ps (defScope st))
    (MO : MOk ⟨P, w, K, mg, base, k⟩ fs gs bs ks dn Fs Gd) (hc : cSs n ⟨N, defScope st, fun _ => true, fs, gs, bs, ks, dn⟩ ow (defBody st) = some ir)
    (hct : ∀ zs c Q, ct zs c Q → zs.length = ps.length ∧ wSs Fs Gd ir (iniG N zs) c (iniR Q)) : FnZ P w K mg base (k + 1) f fd ps (spOf K ct) := by
  refine fnz_of (N := N) F S (fun vs H Q E h => ?_) fun cdv A outer s H vs Q E hgd hr h => ?_
  · obtain ⟨P, G, c, zs, Q0, _, hz, hc, _⟩ := h
    rw [← hz.length]
    exact (hct _ _ _ hc).1
  · obtain ⟨P0, G, c, zs, Q0, wd, hz, hc0, k0⟩ := h
    obtain ⟨_, hw⟩ := hct _ _ _ hc0
    obtain ⟨t, im, p⟩ := cSs_ok (M := ⟨P, w, K, mg, base, k⟩) (F := Fs) (Gd := Gd) (C := ⟨N, defScope st, fun _ => true, fs, gs, bs, ks, dn⟩) (fun X xo => by rw [xo.sc]; exact S.kind) MO n ow _ ir hc
    refine ⟨t, p _ ⟨rfl, rfl, rfl, rfl, rfl, rfl, rfl, rfl, S.nd, hr, hgd, fun _ _ => rfl⟩ rfl, ?_⟩
    refine im ⟨P0, G, H⟩ (L2.start N vs) P0 G H (iniG N zs) c (iniR Q0) _ (As.ini wd hz) hw ⟨fun σ P' G' H' c' Γ gg pp a q => ?_, fun v P' G' H' c' z s' w' r q => ?_, fun σ P' G' H' c' Γ gg pp a q => q.elim, fun σ P' G' H' c' Γ gg pp a q => q.elim⟩
    · exact k0 .non P' G' H' c' (.d .none) a.st a.wd (show Dq K G' .non .none from .non) q
    · exact k0 v P' G' H' c' z s' w' r q
end
theorem callerA_gd0 : Gd0 callerA := rfl
/-- the heap that tells of the script alone -/
def scrH (a : Addr) (o : Obj) (ns : List Int) : Hp := fun b => if b = a then some (.frz o (.lst (ns.map V.int))) else none
/-- the law's call, from its promise upon data -/
theorem law_z {P : Program} {w : World} {K : PySem.W.Frag} {mg mb : Str → Option Value} {k : Nat} {fa a : Addr} {fd : FuncData} {x : Str} {ct : Ct} {s₁ : Shared} {vs : List Value} {ns : List Int}
    (hin : K.In s₁.heap) (hns : s₁.heap.Ns mainGlobals mg) (hb : s₁.heap.Ns builtinsNs mb) (hbb : ∀ y : Str, y ≠ "__name__" → mb y = bootBuiltins y) (hnl : s₁.heap.NoLimit) (hg : s₁.gens = #[])
    (ha : s₁.heap.get? a = some { cls := .type "list", data := .seq vs.toArray }) (hi : IntsAre vs ns) (hl : ns.length ≤ sizeLine) (hr : Room k callerA)
    (F : ∀ base : Heap, K.In base → base.Ns mainGlobals mg → FnZ P w K mg base k fa fd [x] (spOf K ct)) (hbind : ∀ (s : Shared) (u : Value), BindsTo s fd ⟨[u], []⟩ [(x, u)])
    (hct : ct [.scr ns] 0 fun z _ => z = .d (.bool true)) :
    codeAny (model P w) callerA (.call (.ref fa) ⟨[.ref a], []⟩) (fun r s' => r = .ok (.ret (.bool true)) ∧ OldK s₁.heap s'.heap ∧ s'.os = s₁.os ∧ AllBare s'.gens) s₁ := by
  have rel := vals_ints hi
  have len := hi.length
  have main : ∀ H : Hp, (∀ b u, H b = some u → b = a ∧ u = .frz { cls := .type "list", data := .seq vs.toArray } (.lst (ns.map V.int))) → SqL K H a (ns.map V.int) → (H a ≠ none → K.lookup a = none) →
      codeAny (model P w) callerA (.call (.ref fa) ⟨[.ref a], []⟩) (fun r s' => r = .ok (.ret (.bool true)) ∧ OldK s₁.heap s'.heap ∧ s'.os = s₁.os ∧ AllBare s'.gens) s₁ := by
    intro H hH hS hKa
    have ok : HOk P w H s₁.heap := fun b u z => by
      obtain ⟨rfl, rfl⟩ := hH b u z
      exact ⟨ha, by rw [List.length_map]; exact hl, vs, _, rel, ha⟩
    have stays : ∀ {b : Addr} {o : Obj}, s₁.heap.get? b = some o → (b = a → o.data = .seq vs.toArray → K.lookup a = none → False) → (hidT s₁.heap H).get? b = some o := fun {b o} z hno => hidT_get z (by
      cases q : H b with
      | none => rfl
      | some u =>
        obtain ⟨rfl, _⟩ := hH b u q
        rw [ha] at z
        cases z
        exact (hno rfl rfl (hKa (by rw [q]; simp))).elim)
    have inB : K.In (hidT s₁.heap H) := fun b o z => stays (hin b o z) fun e _ n => by
      subst e
      rw [n] at z
      cases z
    have nsB : ∀ {b : Addr} {m : Str → Option Value}, s₁.heap.Ns b m → (hidT s₁.heap H).Ns b m := fun {b m} ⟨o, es, ep, z, d, r⟩ => ⟨o, es, ep, stays z (fun _ q _ => by rw [d] at q; cases q), d, r⟩
    have md : Mod K mg (hidT s₁.heap H) := ⟨inB, nsB hns, ⟨mb, nsB hb, hbb⟩, let ⟨m, z1, z2⟩ := hnl; ⟨m, nsB z1, z2⟩⟩
    have env : Env0 P w K mg (hidT s₁.heap H) callerA [] s₁ H := ⟨rfl, md, fun b o z => of_hidT z, Nat.le_of_eq (hidT_size _ _), trivial, fun b z => absurd (show b ∈ ([] : List Addr) from z) (by simp), ok, .of_eq hg⟩
    have sp0 : spOf K ct [.ref a] H (fun v _ => v = .bl true) fun _ _ _ => False := by
      refine ⟨fun _ => False, H, 0, [.scr ns], _, ⟨fun b u z => ?_, fun _ _ z => z, fun _ z => z.elim, fun _ z => z.elim⟩, .cons ⟨a, rfl, hS⟩ .nil, hct, fun v P' G' H' c' z _ _ r q => ?_⟩
      · obtain ⟨rfl, rfl⟩ := hH b u z
        show (ns.map V.int).length ≤ _
        rw [List.length_map]
        exact hl
      · subst q
        cases (show Dq K G' v (.bool true) from r)
        rfl
    refine codeAny_mono ((F _ inB (nsB hns)).go callerA [] s₁ H ⟨[.ref a], []⟩ [.ref a] [.ref a] _ _ hr callerA_gd0 env (hbind s₁ (.ref a)) (.cons rfl .nil) sp0) fun r s' h => ?_
    match r, h with
    | .error e, h => exact False.elim h
    | .ok .next, h => exact False.elim h
    | .ok .brk, h => exact False.elim h
    | .ok .cont, h => exact False.elim h
    | .ok (.ret u), h =>
      obtain ⟨v, H', os, bare, un, ok', r', q⟩ := h
      have q' : v = .bl true := q
      subst q'
      obtain rfl : u = Value.bool true := r'
      refine ⟨rfl, OldK.of_keep fun b o z => ?_, os, bare⟩
      cases q : H b with
      | none => exact un.keep b o z q (fun y => by cases y) (by simp)
      | some u =>
        obtain ⟨rfl, rfl⟩ := hH b u q
        obtain ⟨e2, _⟩ := ok' b _ (un.frzs b _ _ q)
        rw [ha] at z
        cases z
        exact e2
  cases hk : K.lookup a with
  | some o =>
    have e := hin a o hk
    rw [ha] at e
    cases e
    exact main (fun _ => none) (fun b u z => by cases z) (.inr ⟨_, vs.toArray, _, hk, rfl, rfl, rfl, by rw [List.size_toArray, len]; exact hl, by simpa using rel⟩) fun z => absurd rfl z
  | none =>
    refine main (scrH a { cls := .type "list", data := .seq vs.toArray } ns) (fun b u z => ?_) (.inl (.inr ⟨_, if_pos rfl⟩)) fun _ => hk
    unfold scrH at z
    split at z
    · rename_i e
      cases z
      exact ⟨e, rfl⟩
    · cases z
/-- what k_head leaves -/
theorem walk_z {l : PySem.W.OpenLaw} {n k : Nat} {q : Program} {loose : List Str} {XP : (Str → Option Value) → Heap → Prop} {YP : World → Heap → Prop} {d : DefRec} {K : Params → PySem.W.Frag} {ct : Ct} {x : Str}
    (hn : l.most = some n) (hn2 : n ≤ sizeLine) (hdf : d.params.defaults = []) (hr : Room k callerA) (hY : ∀ (w : World) (h : Heap), YP w h → (K w.params).In h)
    (F : ∀ (w : World) (mg : Str → Option Value) (fa : Addr) (h : Heap), (K w.params).In h → h.Ns mainGlobals mg → mg d.name = some (.ref fa) →
      ∃ fd : FuncData, (∀ (s : Shared) (u : Value), BindsTo s fd ⟨[u], []⟩ [(x, u)]) ∧ ∀ base : Heap, (K w.params).In base → base.Ns mainGlobals mg → FnZ l.prog w (K w.params) mg base k fa fd [x] (spOf (K w.params) ct))
    (hct : ∀ ns : List Int, ns.length ≤ n → ct [.scr ns] 0 fun z _ => z = .d (.bool true)) :
    PySem.W.WalkO q loose XP YP l.row.toRowW d [] (fun f vs => PySem.call f vs) := by
  refine Att.attach_call hn hdf fun w s₀ s₁ mg mb fa o pm cd doc a vs ns G Y ho hd hcd hmg hobj hints hlen hg => ?_
  have hin := hY w _ Y
  obtain ⟨fd, hb, hF⟩ := F w mg fa _ hin G.T.g hmg
  exact law_z hin G.T.g G.T.b G.T.builtins G.T.nolimit hg hobj hints (Nat.le_trans hlen hn2) hr hF hb (hct ns hlen)
end Z
/-! Z18 -/
set_option maxRecDepth 100000
/-! what a claim needs: defs that keep their promise, by name -/
namespace Z
open PySem PySem.Spec PyProof.Rows L2
inductive All2 {α β : Type} (R : α → β → Prop) : List α → List β → Prop
  | nil : All2 R [] []
  | cons {a : α} {b : β} {as : List α} {bs : List β} : R a b → All2 R as bs → All2 R (a :: as) (b :: bs)
theorem All2.get {α β : Type} {R : α → β → Prop} : ∀ {as : List α} {bs : List β} {i : Nat} {a : α}, All2 R as bs → as[i]? = some a → ∃ b, bs[i]? = some b ∧ R a b
  | _, _, i, _, .nil, h => by simp at h
  | _, _, 0, _, .cons h _, e => by simp at e; subst e; exact ⟨_, rfl, h⟩
  | _, _, i + 1, a, .cons _ t, e => by
    obtain ⟨b, e1, h⟩ := All2.get (i := i) (a := a) t (by simpa using e)
    exact ⟨b, by simpa using e1, h⟩
def noCt : Ct := fun _ _ _ => False
def lkC : List Ct → Nat → Ct
  | [], _ => noCt
  | c :: _, 0 => c
  | _ :: r, i + 1 => lkC r i
theorem lkC_get : ∀ {l : List Ct} {i : Nat} {c : Ct}, l[i]? = some c → lkC l i = c
  | [], _, _, h => by simp at h
  | _ :: _, 0, _, h => Option.some.inj h
  | _ :: r, i + 1, c, h => lkC_get (l := r) (i := i) (by simpa using h)
def lkD : List PyData → Nat → PyData
  | [], _ => .none
  | c :: _, 0 => c
  | _ :: r, i + 1 => lkD r i
theorem lkD_get : ∀ {l : List PyData} {i : Nat} {c : PyData}, l[i]? = some c → lkD l i = c
  | [], _, _, h => by simp at h
  | _ :: _, 0, _, h => Option.some.inj h
  | _ :: r, i + 1, c, h => lkD_get (l := r) (i := i) (by simpa using h)
/-- the module's data by number; its dicts from 1000 -/
def lkG (ds dds : List PyData) (i : Nat) : PyData := match Nat.ble 1000 i with
  | true => lkD dds (i - 1000)
  | false => lkD ds i
/-- the promises by number: positional calls from 0, calls by keywords from 100 -/
def ctF (cts kcts : List Ct) (i : Nat) : Ct := match Nat.ble 100 i with
  | true => lkC kcts (i - 100)
  | false => lkC cts i
def kwCt (n : Nat) (perm : List Nat) (ct : Ct) : Ct := fun zs c Q => zs.length = n ∧ ct (permL perm zs) c Q
/-- a def as it stands -/
structure Df (K : PySem.W.Frag) (mg : Str → Option Value) (x : Str) (st : Stmt) (f : Addr) (fd : FuncData) (ps : List Str) (kws : List (List Str × List Nat)) : Prop where
  fn : L2.Fun K x x st f fd
  m : mg x = some (.ref f)
  b : Binds K fd ps []
  k : ∀ p ∈ kws, KwB K fd ps p.1 p.2
/-- a def that keeps its promise -/
structure Fz (M : Mo) (x : Str) (kws : List (List Str × List Nat)) (ct : Ct) : Prop where
  ex : ∃ f fd ps, M.mg x = some (.ref f) ∧ PySem.W.keepIn M.K (.ref f) = true ∧ Binds M.K fd ps [] ∧ (∀ p ∈ kws, KwB M.K fd ps p.1 p.2) ∧ FnZ M.P M.w M.K M.mg M.base M.lv f fd ps (spOf M.K ct)
def Mo.at (M : Mo) (k : Nat) : Mo := { M with lv := k }
theorem Fz.up {M : Mo} {x : Str} {kws : List (List Str × List Nat)} {ct : Ct} {j k : Nat} (h : Fz (M.at j) x kws ct) (le : j ≤ k) : Fz (M.at k) x kws ct := by
  obtain ⟨f, fd, ps, h1, h2, h3, h4, h5⟩ := h.ex
  exact ⟨f, fd, ps, h1, h2, h3, h4, FnZ.up (j := j) (k := k) h5 le⟩
/-- a global of the module that is data -/
def Glb (M : Mo) (x : Str) (d : PyData) : Prop := ∃ v u, M.mg x = some u ∧ RelV v u ∧ Dq M.K (fun _ => none) v d
structure Kz (M : Mo) (p : Str × List Str) (ct : Ct) : Prop where
  ex : ∃ kws perm ct0, Fz M p.1 kws ct0 ∧ (p.2, perm) ∈ kws ∧ ct = kwCt p.2.length perm ct0
theorem mok {M : Mo} {fs gs bs : List Str} {ks : List (Str × List Str)} {cts kcts : List Ct} {dn : List Str} {ds dds : List PyData} (h1 : All2 (fun x ct => ∃ kws, Fz M x kws ct) fs cts) (h2 : All2 (Glb M) gs ds) (h3 : ∀ x ∈ bs, M.mg x = none) (h4 : All2 (Kz M) ks kcts) (h5 : All2 (fun x d => GK M.w M.K M.mg x d) dn dds)
    (hl : cts.length ≤ 100) (hg : ds.length ≤ 1000) : MOk M fs gs bs ks dn (ctF cts kcts) (lkG ds dds) where
  fn := fun i x h => by
    obtain ⟨ct, e, kws, hf⟩ := h1.get h
    obtain ⟨f, fd, ps, q1, q2, q3, _, q5⟩ := hf.ex
    have hi : i < cts.length := (List.getElem?_eq_some_iff.mp e).1
    have hb : Nat.ble 100 i = false := by
      rw [← Bool.not_eq_true, Nat.ble_eq]
      omega
    refine ⟨f, fd, ps, q1, q2, q3, ?_⟩
    unfold ctF
    rw [hb]
    show FnZ _ _ _ _ _ _ _ _ _ (spOf M.K (lkC cts i))
    rw [lkC_get e]
    exact q5
  gl := fun i x h => by
    obtain ⟨d, e, v, u, q1, q2, q3⟩ := (show ∃ d, ds[i]? = some d ∧ ∃ v u, M.mg x = some u ∧ RelV v u ∧ Dq M.K (fun _ => none) v d from h2.get h)
    have hi : i < ds.length := (List.getElem?_eq_some_iff.mp e).1
    unfold lkG
    rw [show Nat.ble 1000 i = false from by
      rw [← Bool.not_eq_true, Nat.ble_eq]
      omega]
    show ∃ v u, M.mg x = some u ∧ RelV v u ∧ Dq M.K (fun _ => none) v (lkD ds i)
    rw [lkD_get e]
    exact ⟨v, u, q1, q2, q3⟩
  dk := fun j x h => by
    obtain ⟨d, e, q⟩ := h5.get h
    unfold lkG
    rw [show Nat.ble 1000 (1000 + j) = true from by rw [Nat.ble_eq]; omega]
    show GK M.w M.K M.mg x (lkD dds (1000 + j - 1000))
    rw [show 1000 + j - 1000 = j by omega, lkD_get e]
    exact q
  bl := h3
  kw := fun j x ns h => by
    obtain ⟨ct, e, kws, perm, ct0, hf, hm, rfl⟩ := (show ∃ ct, kcts[j]? = some ct ∧ ∃ kws perm ct0, Fz M x kws ct0 ∧ (ns, perm) ∈ kws ∧ ct = kwCt ns.length perm ct0 from by
      obtain ⟨ct, e, q⟩ := h4.get h
      exact ⟨ct, e, q.ex⟩)
    obtain ⟨f, fd, ps, q1, q2, _, q4, q5⟩ := hf.ex
    refine ⟨f, fd, ps, ct0, perm, q1, q2, q4 _ hm, q5, fun zs c Q hq => ?_⟩
    unfold ctF at hq
    rw [show Nat.ble 100 (100 + j) = true from by rw [Nat.ble_eq]; omega] at hq
    have hq' : lkC kcts (100 + j - 100) zs c Q := hq
    rw [show 100 + j - 100 = j by omega, lkC_get e] at hq'
    exact hq'
section
variable {M : Mo}
/-- a def of the text, by its short form -/
theorem fz_mk {x : Str} {st : Stmt} {f : Addr} {fd : FuncData} {N ps : List Str} {kws : List (List Str × List Nat)} {k n : Nat} {ct : Ct} {fs gs bs : List Str} {ks : List (Str × List Str)} {cts kcts : List Ct} {dn : List Str} {ds dds : List PyData} {ow : List Nat} {ir : List IS} (D : Df M.K M.mg x st f fd ps kws) (S : FnScope N ps (defScope st))
    (MO : MOk (M.at k) fs gs bs ks dn (ctF cts kcts) (lkG ds dds)) (hc : cSs n ⟨N, defScope st, fun _ => true, fs, gs, bs, ks, dn⟩ ow (defBody st) = some ir)
    (hct : ∀ zs c Q, ct zs c Q → zs.length = ps.length ∧ wSs (ctF cts kcts) (lkG ds dds) ir (iniG N zs) c (iniR Q)) : Fz (M.at (k + 1)) x kws ct :=
  ⟨f, fd, ps, D.m, D.fn.kp, D.b, D.k, fnz D.fn S MO hc hct⟩
theorem fnz_mk {x : Str} {st : Stmt} {f : Addr} {fd : FuncData} {N ps : List Str} {kws : List (List Str × List Nat)} {k n : Nat} {ct : Ct} {fs gs bs : List Str} {ks : List (Str × List Str)} {cts kcts : List Ct} {dn : List Str} {ds dds : List PyData} {ow : List Nat} {ir : List IS} (D : Df M.K M.mg x st f fd ps kws) (S : FnScope N ps (defScope st))
    (MO : MOk (M.at k) fs gs bs ks dn (ctF cts kcts) (lkG ds dds)) (hc : cSs n ⟨N, defScope st, fun _ => true, fs, gs, bs, ks, dn⟩ ow (defBody st) = some ir)
    (hct : ∀ zs c Q, ct zs c Q → zs.length = ps.length ∧ wSs (ctF cts kcts) (lkG ds dds) ir (iniG N zs) c (iniR Q)) : FnZ M.P M.w M.K M.mg M.base (k + 1) f fd ps (spOf M.K ct) := fnz D.fn S MO hc hct
/-- a promise that is never asked -/
theorem fz_zero {x : Str} {st : Stmt} {f : Addr} {fd : FuncData} {ps : List Str} {kws : List (List Str × List Nat)} {k : Nat} {ct : Ct} (D : Df M.K M.mg x st f fd ps kws) (no : ∀ zs c Q, ct zs c Q → False) : Fz (M.at k) x kws ct :=
  ⟨f, fd, ps, D.m, D.fn.kp, D.b, D.k, ⟨fun vs H Q E h => by
    obtain ⟨P, G, c, zs, Q0, _, _, hc, _⟩ := h
    exact (no _ _ _ hc).elim, fun A outer s H args us vs Q E hr hgd e0 hb r hsp => by
    obtain ⟨P, G, c, zs, Q0, _, _, hc, _⟩ := hsp
    exact (no _ _ _ hc).elim⟩⟩
end
end Z
/-! Z19 -/
set_option maxRecDepth 100000
/-! short forms, step by step -/
namespace Z
open PySem PySem.Spec PyProof.Rows L2
section
variable {F : Nat → Ct} {Gd : Nat → PyData} {Γ : Ga} {c : Nat} {R : Rt} {Q : KZ} {KD' : KD} {KB : Bool → Prop} {x y : PyData} {i j : Int} {z : Zv} {xs ys : List PyData} {s t : Str} {b : Bool}
theorem q_wSs0 : wSs F Gd [] Γ c R = R.nx Γ c := rfl
theorem q_wSs1 {a : IS} {as : List IS} : wSs F Gd (a :: as) Γ c R = wS F Gd a Γ c { R with nx := fun Γ1 c1 => wSs F Gd as Γ1 c1 R } := rfl
theorem q_dv : dv (.d x) KD' = KD' x := rfl
theorem q_dvo : dv (.own xs) KD' = KD' (.list xs) := rfl
theorem q_dvs {ns : List Int} : dv (.scr ns) KD' = KD' (.list (ns.map .int)) := rfl
theorem q_dz : dz (.d x) KD' = KD' x := rfl
theorem q_dzs0 {A : List PyData → Prop} : dzs [] A = A [] := rfl
theorem q_dzs1 {A : List PyData → Prop} {zs : List Zv} : dzs (.d x :: zs) A = dzs zs fun xs => A (x :: xs) := rfl
theorem q_dvs0 {A : List PyData → Prop} : dvs [] A = A [] := rfl
theorem q_dvs1 {A : List PyData → Prop} {zs : List Zv} : dvs (.d x :: zs) A = dvs zs fun xs => A (x :: xs) := rfl
theorem q_dvs2 {A : List PyData → Prop} {zs : List Zv} : dvs (.own xs :: zs) A = dvs zs fun ys => A (.list xs :: ys) := rfl
theorem q_dvs3 {A : List PyData → Prop} {zs : List Zv} {ns : List Int} : dvs (.scr ns :: zs) A = dvs zs fun ys => A (.list (ns.map .int) :: ys) := rfl
theorem q_cln0 {A : List Zv → Prop} : cln [] A = A [] := rfl
theorem q_cln1 {A : List Zv → Prop} {zs : List Zv} : cln (.d x :: zs) A = cln zs fun xs => A (.d x :: xs) := rfl
theorem q_cln2 {A : List Zv → Prop} {zs : List Zv} : cln (.pot :: zs) A = cln zs fun xs => A (.pot :: xs) := rfl
theorem q_cln3 {A : List Zv → Prop} {zs : List Zv} {ns : List Int} : cln (.scr ns :: zs) A = cln zs fun xs => A (.scr ns :: xs) := rfl
theorem q_stl1 : stl (.d x) = .d x := rfl
theorem q_stl2 : stl .pot = .pot := rfl
theorem q_stl3 : stl (.own xs) = .d (.list xs) := rfl
theorem q_ixp {k : Int} : wIxz .pot (.d (.int k)) c Q = wPotR c k (fun r => Q (.d r) c) := rfl
theorem q_ixd {w : Zv} : wIxz (.d x) w c Q = dv w fun dy => wIx x dy fun r => Q (.d r) c := rfl
theorem q_ixo {w : Zv} : wIxz (.own xs) w c Q = dv w fun dy => wIx (.list xs) dy fun r => Q (.d r) c := rfl
theorem q_ixs {w : Zv} {ns : List Int} : wIxz (.scr ns) w c Q = dv w fun dy => wIx (.list (ns.map .int)) dy fun r => Q (.d r) c := rfl
theorem q_add : wBin .Add (.int i) (.int j) KD' = KD' (.int (i + j)) := rfl
theorem q_sub : wBin .Sub (.int i) (.int j) KD' = KD' (.int (i - j)) := rfl
theorem q_mul : wBin .Mult (.int i) (.int j) KD' = (CMulZ i j ∧ KD' (.int (i * j))) := rfl
theorem q_mod : wBin .Mod (.int i) (.int j) KD' = (0 < j ∧ KD' (.int (i % j))) := rfl
theorem q_div : wBin .FloorDiv (.int i) (.int j) KD' = (CDivW i j ∧ KD' (.int (i / j))) := rfl
theorem q_pow : wBin .Pow (.int i) (.int j) KD' = ((0 ≤ j ∧ j ≤ 10000 ∧ i.natAbs < 2 ^ 10000) ∧ KD' (.int (i ^ j.toNat))) := rfl
theorem q_addT : wBin .Add (.tuple xs) (.tuple ys) KD' = (xs.length + ys.length ≤ sizeLine ∧ KD' (.tuple (xs ++ ys))) := rfl
theorem q_addL : wBin .Add (.list xs) (.list ys) KD' = (xs.length + ys.length ≤ sizeLine ∧ KD' (.list (xs ++ ys))) := rfl
theorem q_addS : wBin .Add (.str s) (.str t) KD' = (s.length + t.length ≤ sizeLine ∧ KD' (.str (s ++ t))) := rfl
theorem q_eq : wCmp .Eq x y KB = (eqOk x y ∧ KB (PyData.eqv x y)) := rfl
theorem q_ne : wCmp .NotEq x y KB = (neOk x y ∧ KB (!PyData.eqv x y)) := rfl
theorem q_lt : wCmp .Lt (.int i) (.int j) KB = KB (decide (i < j)) := rfl
theorem q_le : wCmp .LtE (.int i) (.int j) KB = KB (decide (i ≤ j)) := rfl
theorem q_gt : wCmp .Gt (.int i) (.int j) KB = KB (decide (j < i)) := rfl
theorem q_ge : wCmp .GtE (.int i) (.int j) KB = KB (decide (j ≤ i)) := rfl
theorem q_inL : wCmp .In x (.list xs) KB = (SeqAt.shaped x = true ∧ SeqAt.shaped (.list xs) = true ∧ KB (xs.any fun z => PyData.eqv z x)) := rfl
theorem q_inT : wCmp .In x (.tuple xs) KB = (SeqAt.shaped x = true ∧ SeqAt.shaped (.tuple xs) = true ∧ KB (xs.any fun z => PyData.eqv z x)) := rfl
theorem q_niL : wCmp .NotIn x (.list xs) KB = (SeqAt.shaped x = true ∧ SeqAt.shaped (.list xs) = true ∧ KB (!xs.any fun z => PyData.eqv z x)) := rfl
theorem q_niT : wCmp .NotIn x (.tuple xs) KB = (SeqAt.shaped x = true ∧ SeqAt.shaped (.tuple xs) = true ∧ KB (!xs.any fun z => PyData.eqv z x)) := rfl
theorem q_is : wCmp .Is x .none KB = KB (isNoneD x) := rfl
theorem q_isn : wCmp .IsNot x .none KB = KB (!isNoneD x) := rfl
theorem q_trb : tru (.bool b) KB = KB b := rfl
theorem q_tri : tru (.int i) KB = KB (i != 0) := rfl
theorem q_trl : tru (.list xs) KB = KB (!xs.isEmpty) := rfl
theorem q_trt : tru (.tuple xs) KB = KB (!xs.isEmpty) := rfl
theorem q_trn : tru .none KB = KB false := rfl
theorem q_ixL : wIx (.list xs) (.int i) KD' = ∃ v, atI xs i = some v ∧ KD' v := rfl
theorem q_ixT : wIx (.tuple xs) (.int i) KD' = ∃ v, atI xs i = some v ∧ KD' v := rfl
theorem q_ixS : wIx (.str s) (.int i) KD' = (s.length ≤ sizeLine ∧ ∃ c, atI s.cps.toList i = some c ∧ KD' (.str ⟨#[c]⟩)) := rfl
theorem q_slL {lo hi : Option Int} : wSl (.list xs) lo hi KD' = KD' (.list (cutD xs lo hi)) := rfl
theorem q_slT {lo hi : Option Int} : wSl (.tuple xs) lo hi KD' = KD' (.tuple (cutD xs lo hi)) := rfl
theorem q_slS {lo hi : Option Int} : wSl (.str s) lo hi KD' = (s.length ≤ sizeLine ∧ KD' (.str (cutS s lo hi))) := rfl
theorem q_lenL : wBlt .len [.list xs] KD' = KD' (.int xs.length) := rfl
theorem q_lenT : wBlt .len [.tuple xs] KD' = KD' (.int xs.length) := rfl
theorem q_lenS : wBlt .len [.str s] KD' = (s.length ≤ sizeLine ∧ KD' (.int s.length)) := rfl
theorem q_abs : wBlt .abs [.int i] KD' = KD' (.int i.natAbs) := rfl
theorem q_max2 : wBlt .max [.int i, .int j] KD' = KD' (.int (max i j)) := rfl
theorem q_min2 : wBlt .min [.int i, .int j] KD' = KD' (.int (min i j)) := rfl
theorem q_all : wBlt .all [.list xs] KD' = ∃ bs, bools? xs = some bs ∧ KD' (.bool (bs.all id)) := rfl
theorem q_any : wBlt .any [.list xs] KD' = ∃ bs, bools? xs = some bs ∧ KD' (.bool (bs.any id)) := rfl
theorem q_sum : wBlt .sum [.list xs] KD' = ∃ ns, ints? xs = some ns ∧ KD' (.int ns.sum) := rfl
theorem q_tupL : wBlt .tuple [.list xs] KD' = KD' (.tuple xs) := rfl
theorem q_tupT : wBlt .tuple [.tuple xs] KD' = KD' (.tuple xs) := rfl
theorem q_lstL : wBlt .list [.list xs] KD' = KD' (.list xs) := rfl
theorem q_lstT : wBlt .list [.tuple xs] KD' = KD' (.list xs) := rfl
theorem q_intI : wBlt .int [.int i] KD' = KD' (.int i) := rfl
theorem q_intB : wBlt .int [.bool b] KD' = KD' (.int (if b then 1 else 0)) := rfl
theorem q_repr : wBlt .repr [x] KD' = (reprOk x = true ∧ x.showable = true ∧ x.hasDict = false ∧ x.depth ≤ 60 ∧ x.shown.length ≤ sizeLine ∧ KD' (.str x.shown)) := rfl
theorem q_srt : wBlt .sorted [.list xs] KD' = ((∃ ns, ints? xs = some ns ∧ ns.length < 64 ∧ KD' (.list ((sortI ns).map .int))) ∨ (srtOk xs ∧ ∀ r, r.Perm xs → r.Pairwise (fun a b => srtLe a b = true) → KD' (.list r))) := rfl
theorem q_itL {A : List PyData → Prop} : wIt none [.list xs] A = A xs := rfl
theorem q_itT {A : List PyData → Prop} : wIt none [.tuple xs] A = A xs := rfl
theorem q_rng1 {A : List PyData → Prop} : wIt (some .range) [.int j] A = (j ≤ 16777216 ∧ -(2 ^ 62) ≤ j ∧ A (rangeD 0 j)) := rfl
theorem q_rng2 {A : List PyData → Prop} : wIt (some .range) [.int i, .int j] A = ((j - i ≤ 16777216 ∧ -(2 ^ 62) ≤ i ∧ i < 2 ^ 62 ∧ -(2 ^ 62) ≤ j ∧ j < 2 ^ 62) ∧ A (rangeD i j)) := rfl
theorem q_zipL {A : List PyData → Prop} : wIt (some .zip) [.list xs, .list ys] A = A (zipD xs ys) := rfl
theorem q_zipT {A : List PyData → Prop} : wIt (some .zip) [.tuple xs, .tuple ys] A = A (zipD xs ys) := rfl
theorem q_enuL {A : List PyData → Prop} : wIt (some .enum) [.list xs] A = A (enumD 0 xs) := rfl
theorem q_tgn {k : Nat} {A : Ga → Prop} : wTg (.n k) x Γ A = A (put Γ k (some (.d x))) := rfl
theorem q_tgt {ts : List Tg} {A : Ga → Prop} : wTg (.t ts) (.tuple xs) Γ A = (xs.length = ts.length ∧ wTgs ts xs Γ A) := rfl
theorem q_tgs0 {A : Ga → Prop} : wTgs [] xs Γ A = A Γ := rfl
theorem q_tgs1 {tg : Tg} {ts : List Tg} {A : Ga → Prop} : wTgs (tg :: ts) (x :: xs) Γ A = wTg tg x Γ fun Γ' => wTgs ts xs Γ' A := rfl
theorem q_lenset1 : wX Gd .lenset [.list xs] KD' = ∃ ns, ints? xs = some ns ∧ ns.length ≤ 4000 ∧ KD' (.int (dedI ns).length) := rfl
theorem q_lenset2 : wX Gd .lenset [.tuple xs] KD' = ∃ ns, ints? xs = some ns ∧ ns.length ≤ 4000 ∧ KD' (.int (dedI ns).length) := rfl
theorem q_srtset : wX Gd .srtset [.tuple xs] KD' = ∃ ns, ints? xs = some ns ∧ ns.length ≤ 4000 ∧ (dedI ns).length < 64 ∧ KD' (.list ((sortI (dedI ns)).map .int)) := rfl
theorem q_xs1 : xSel .lenset = dvs := rfl
theorem q_xs2 : xSel .srtset = dvs := rfl
theorem q_xs3 {ks : List Key} : xSel (.dsp ks) = dzs := rfl
theorem q_xs4 {j : Nat} : xSel (.gix j) = dzs := rfl
theorem q_xs5 {j : Nat} : xSel (.gget j) = dzs := rfl
theorem q_xs6 {j : Nat} : xSel (.gkeys j) = dvs := rfl
theorem q_xs7 : xSel .rev = dvs := rfl
theorem q_xs8 : xSel .repl = dvs := rfl
theorem q_xs9 : xSel .upper = dvs := rfl
theorem q_ms1 : mSel .index = dvs := rfl
theorem q_ms2 : mSel .get = dzs := rfl
theorem q_mrg {kvs : List (PyData × PyData)} : mRc .get (.dict kvs) = True := rfl
theorem q_mri : mRc .index (.list xs) = True := rfl
theorem q_idx : wMth .index (.list xs) [x] KD' = (SeqAt.shaped (.list xs) = true ∧ SeqAt.shaped x = true ∧ ∃ j z, xs[j]? = some z ∧ PyData.eqv z x = true ∧ (∀ (m : Nat) (z' : PyData), m < j → xs[m]? = some z' → PyData.eqv z' x = false) ∧ KD' (.int (j : Nat))) := rfl
theorem q_forW0 {f : PyData → Ga → Nat → Rt → Prop} : forW f [] Γ c R = R.nx Γ c := rfl
theorem q_ite1 {t e : Prop} : (match true with | true => t | false => e) = t := rfl
theorem q_ite2 {t e : Prop} : (match false with | true => t | false => e) = e := rfl
end
end Z
local macro_rules | `(tactic| walk_at "z simp") => `(tactic| try simp only [Z.q_wSs0, Z.q_wSs1, Z.wS, Z.wE, Z.wT, Z.wI, Z.wEs, Z.w3, Z.w3s, Z.w3o, Z.w3c, Z.mk3, Z.bltI, Z.tOf, Z.iOf, Z.wVar, Z.wTup, Z.wLst, Z.wBi, Z.wNeg, Z.wNot, Z.wAnd, Z.wOr, Z.wTAnd, Z.wTOr, Z.wTNot, Z.wCm, Z.wTCm, Z.wChn, Z.wTChn, Z.wIte, Z.wIxx, Z.wSlc, Z.wCall, Z.wBl, Z.wIw, Z.wIsi, Z.wMt, Z.wExt, Z.wLc, Z.wLc2, Z.woNone, Z.woSome, Z.wYes, Z.wNil, Z.wCons, Z.wCon, Z.get, Z.put, Z.wipeG, Z.clnG, Z.putZ, Z.putZs, Z.tgN,
  Z.q_dv, Z.q_dvo, Z.q_dvs, Z.q_dz, Z.q_dzs0, Z.q_dzs1, Z.q_dvs0, Z.q_dvs1, Z.q_dvs2, Z.q_dvs3, Z.q_cln0, Z.q_cln1, Z.q_cln2, Z.q_cln3, Z.q_stl1, Z.q_stl2, Z.q_stl3, Z.q_ixp, Z.q_ixd, Z.q_ixo, Z.q_ixs, Z.q_add, Z.q_sub, Z.q_mul, Z.q_mod, Z.q_div, Z.q_pow, Z.q_addT, Z.q_addL, Z.q_addS, Z.q_eq, Z.q_ne, Z.q_lt, Z.q_le, Z.q_gt, Z.q_ge, Z.q_inL, Z.q_inT, Z.q_niL, Z.q_niT, Z.q_is, Z.q_isn, Z.q_trb, Z.q_tri, Z.q_trl, Z.q_trt, Z.q_trn,
  Z.q_ixL, Z.q_ixT, Z.q_ixS, Z.q_slL, Z.q_slT, Z.q_slS, Z.q_lenL, Z.q_lenT, Z.q_lenS, Z.q_abs, Z.q_max2, Z.q_min2, Z.q_all, Z.q_any, Z.q_sum, Z.q_tupL, Z.q_tupT, Z.q_lstL, Z.q_lstT, Z.q_intI, Z.q_intB, Z.q_repr, Z.q_srt, Z.q_itL, Z.q_itT, Z.q_rng1, Z.q_rng2, Z.q_zipL, Z.q_zipT, Z.q_enuL, Z.q_tgn, Z.q_tgt, Z.q_tgs0, Z.q_tgs1, Z.q_mri, Z.q_xs1, Z.q_xs2, Z.q_xs3, Z.q_xs4, Z.q_xs5, Z.q_xs6, Z.q_xs7, Z.q_xs8, Z.q_xs9, Z.q_ms1, Z.q_ms2, Z.q_mrg, Z.q_forW0, Z.q_ite1, Z.q_ite2, Z.iniR])
namespace Z
open PySem PySem.Spec PyProof.Rows L2
section
variable {F : Nat → Ct} {Gd : Nat → PyData}
def irTake1 : List IS := [.ite (.cmp .Gt (.ix (.var 0) (.int (0))) (.int (0))) [.asg (.n 3) (.bin .Mod (.ix (.var 0) (.int (0))) (.var 1)), .pst 0 (0) (.bin .FloorDiv (.ix (.var 0) (.int (0))) (.var 1)), .ret (.var 3)] [], .pst 0 (2) (.bin .Add (.ix (.var 0) (.int (2))) (.int (1))), .asg (.n 2) (.bin .Mod (.bin .Mult (.bin .Add (.bin .Add (.ix (.var 0) (.int (1))) (.bin .Mult (.bin .Mult (.int (86028157)) (.ix (.var 0) (.int (2)))) (.ix (.var 0) (.int (2))))) (.int (19))) (.int (39373))) (.int (2305843009213693921))), .asg (.n 2) (.bin .Mod (.bin .Mult (.var 2) (.bin .Add (.bin .Mod (.var 2) (.int (1000003))) (.bin .Mult (.int (15485917)) (.ix (.var 0) (.int (2)))))) (.int (2305843009213693907))), .ret (.bin .Mod (.bin .Add (.bin .FloorDiv (.var 2) (.int (101))) (.bin .FloorDiv (.var 2) (.int (1000037)))) (.var 1))]
/-- take: any number below n; it costs a draw at most -/
def ctTake : Ct := fun zs c Q => ∃ n : Int, zs = [.pot, .d (.int n)] ∧ 0 < n ∧ n < 2 ^ 60 ∧ c + 1 < 2 ^ 60 ∧ ∀ r c', 0 ≤ r → r < n → c ≤ c' → c' ≤ c + 1 → Q (.d (.int r)) c'
theorem pot0 {c : Nat} {Q : KD} (h : ∀ g : Int, 0 ≤ g → g.natAbs < 2 ^ 4000 → Q (.int g)) : wPotR c 0 Q := fun g s t b => ⟨_, rfl, h g b.1 b.2.1⟩
theorem pot1 {c : Nat} {Q : KD} (h : ∀ g : Int, 0 ≤ g → g < 2 ^ 64 → Q (.int g)) : wPotR c 1 Q := fun g s t b => ⟨_, rfl, h s b.2.2.1 b.2.2.2.1⟩
theorem pot2 {c : Nat} {Q : KD} (h : ∀ g : Int, 0 ≤ g → g ≤ c → Q (.int g)) : wPotR c 2 Q := fun g s t b => ⟨_, rfl, h t b.2.2.2.2.1 b.2.2.2.2.2⟩
theorem potW0 {c : Nat} {v : Int} {Q : Nat → Prop} (h0 : 0 ≤ v) (h1 : v.natAbs < 2 ^ 4000) (q : Q c) : potW c 0 v Q := by
  unfold potW
  rw [if_pos rfl]
  exact ⟨h0, h1, q⟩
theorem potW2 {c : Nat} {v : Int} {Q : Nat → Prop} (h0 : 0 ≤ v) (h1 : v ≤ c + 1) (q : Q (c + 1)) : potW c 2 v Q := by
  unfold potW
  rw [if_neg (by decide), if_pos rfl]
  exact ⟨h0, h1, q⟩
theorem cdiv_ok {i j : Int} (h0 : 0 < j) (h1 : j < 2 ^ 64) : CDivW i j := ⟨h0, by
  have : j.natAbs.log2 < 64 := by
    rw [Nat.log2_lt (by omega)]
    omega
  omega⟩
theorem cmul_l {i j : Int} (h0 : -(2 ^ 64) < i) (h1 : i < 2 ^ 64) : CMulZ i j := .inr (.inl ⟨h0, h1⟩)
theorem cmul_r {i j : Int} (h0 : -(2 ^ 64) < j) (h1 : j < 2 ^ 64) : CMulZ i j := .inr (.inr ⟨h0, h1⟩)
theorem cmul_w {i j : Int} (a b : Nat) (ha : i.natAbs < 2 ^ a) (hb : j.natAbs < 2 ^ b) (h0 : 0 < a) (h1 : 0 < b) (h : a + b ≤ 1000000) : CMulZ i j := .inl (wide_mul ha hb h0 h1 h)
theorem take1_ok {Q : KZ} {c : Nat} {n : Int} (h0 : 0 < n) (h1 : n < 2 ^ 60) (hc : c + 1 < 2 ^ 60) (q : ∀ r c', 0 ≤ r → r < n → c ≤ c' → c' ≤ c + 1 → Q (.d (.int r)) c') : wSs F Gd irTake1 [some .pot, some (.d (.int n)), none, none] c (iniR Q) := by
  unfold irTake1
  walk_at "z simp"
  refine pot0 fun g g0 g1 => ?_
  walk_at "z simp"
  by_cases hg : 0 < g
  · rw [decide_eq_true hg]
    refine pot0 fun g2 g20 g21 => ?_
    walk_at "z simp"
    refine ⟨h0, pot0 fun g3 g30 g31 => ?_⟩
    walk_at "z simp"
    refine ⟨cdiv_ok h0 (by omega), potW0 (Int.ediv_nonneg g30 (by omega)) ?_ ?_⟩
    · exact Nat.lt_of_le_of_lt (Int.natAbs_ediv_le_natAbs g3 n) g31
    · exact q _ _ (Int.emod_nonneg _ (by omega)) (Int.emod_lt_of_pos _ h0) (Nat.le_refl _) (by omega)
  · rw [decide_eq_false hg]
    refine pot2 fun t t0 t1 => ?_
    walk_at "z simp"
    refine potW2 (by omega) (by omega) (pot1 fun s s0 s1 => pot2 fun t2 t20 t21 => ?_)
    walk_at "z simp"
    refine ⟨cmul_l (by decide) (by decide), pot2 fun t3 t30 t31 => ?_⟩
    walk_at "z simp"
    refine ⟨cmul_r (by omega) (by omega), cmul_r (by decide) (by decide), by decide, by decide, pot2 fun t4 t40 t41 => ?_⟩
    walk_at "z simp"
    refine ⟨cmul_l (by decide) (by decide), cmul_l ?_ ?_, by decide, cdiv_ok (by decide) (by decide), cdiv_ok (by decide) (by decide), h0, ?_⟩
    · have := Int.emod_nonneg ((s + 86028157 * t2 * t3 + 19) * 39373) (b := 2305843009213693921) (by decide)
      omega
    · have := Int.emod_lt_of_pos ((s + 86028157 * t2 * t3 + 19) * 39373) (b := 2305843009213693921) (by decide)
      omega
    · exact q _ _ (Int.emod_nonneg _ (by omega)) (Int.emod_lt_of_pos _ h0) (by omega) (Nat.le_refl _)
/-! loops, comprehensions -/
theorem forW_inv {f : PyData → Ga → Nat → Rt → Prop} (I : List PyData → Ga → Nat → Prop) {R : Rt} (he : ∀ Γ c, I [] Γ c → R.nx Γ c)
    (hs : ∀ d r Γ c (k : Ga → Nat → Prop), I (d :: r) Γ c → (∀ Γ c, I r Γ c → k Γ c) → f d Γ c { nx := k, rt := R.rt, bk := R.nx, ct := k }) : ∀ {ds : List PyData} {Γ : Ga} {c : Nat}, I ds Γ c → forW f ds Γ c R
  | [], Γ, c, h => he Γ c h
  | d :: ds, Γ, c, h => hs d ds Γ c _ h fun Γ1 c1 h1 => forW_inv I he hs h1
theorem lcW_gen {f : PyData → Nat → (List PyData → Nat → Prop) → Prop} (g : PyData → List PyData) {c : Nat} : ∀ {ds : List PyData} {Q : List PyData → Nat → Prop}, (∀ d ∈ ds, ∀ Q : List PyData → Nat → Prop, Q (g d) c → f d c Q) → Q (ds.flatMap g) c → lcW f ds c Q
  | [], Q, _, q => q
  | d :: ds, Q, h, q => h d (by simp) _ (lcW_gen g (fun d hd => h d (by simp [hd])) (by rw [List.flatMap_cons] at q; exact q))
theorem flat_one (g : PyData → PyData) : ∀ ds : List PyData, ds.flatMap (fun d => [g d]) = ds.map g
  | [] => rfl
  | d :: r => by rw [List.flatMap_cons, List.map_cons, flat_one g r]; rfl
theorem lcW_map {f : PyData → Nat → (List PyData → Nat → Prop) → Prop} (g : PyData → PyData) {c : Nat} {ds : List PyData} {Q : List PyData → Nat → Prop} (h : ∀ d ∈ ds, ∀ Q : List PyData → Nat → Prop, Q [g d] c → f d c Q) (q : Q (ds.map g) c) : lcW f ds c Q :=
  lcW_gen (fun d => [g d]) h (by rw [flat_one]; exact q)
/-- each item is so, each costs k draws at most -/
theorem lcW_all {f : PyData → Nat → (List PyData → Nat → Prop) → Prop} (A : PyData → Prop) (k C : Nat) : ∀ {ds : List PyData} {c : Nat} {Q : List PyData → Nat → Prop}, c + k * ds.length ≤ C →
    (∀ d ∈ ds, ∀ c (Q : List PyData → Nat → Prop), c + k ≤ C → (∀ x c', A x → c ≤ c' → c' ≤ c + k → Q [x] c') → f d c Q) →
    (∀ xs c', xs.length = ds.length → (∀ x ∈ xs, A x) → c ≤ c' → c' ≤ c + k * ds.length → Q xs c') → lcW f ds c Q
  | [], c, Q, _, _, q => q [] c rfl (by simp) (Nat.le_refl _) (by simp)
  | d :: ds, c, Q, hC, h, q => by
    have hC' : c + (k * ds.length + k) ≤ C := by simpa [Nat.mul_succ] using hC
    refine h d (by simp) c _ (by omega) fun x c1 hx h1 h2 => ?_
    refine lcW_all A k C (by omega) (fun d hd => h d (by simp [hd])) fun xs c2 hl ha h3 h4 => ?_
    refine q ([x] ++ xs) c2 (by simp [hl]) (fun y hy => ?_) (by omega) (by
      rw [List.length_cons, Nat.mul_succ]
      omega)
    rcases List.mem_append.mp hy with hy | hy
    · rw [List.mem_singleton.mp hy]; exact hx
    · exact ha y hy
/-- a double comprehension that draws nothing -/
theorem lcA_fold {f : PyData → List PyData → Nat → (List PyData → Nat → Prop) → Prop} (g : PyData → List PyData) {c : Nat} (B : Nat) : ∀ {ds acc : List PyData} {Q : List PyData → Nat → Prop}, acc.length + (ds.flatMap g).length ≤ B →
    (∀ d ∈ ds, ∀ acc (Q : List PyData → Nat → Prop), acc.length + (g d).length ≤ B → Q (acc ++ g d) c → f d acc c Q) → Q (acc ++ ds.flatMap g) c → lcA f ds acc c Q
  | [], acc, Q, _, _, q => by
    rw [List.flatMap_nil, List.append_nil] at q
    exact q
  | d :: ds, acc, Q, hB, h, q => by
    rw [List.flatMap_cons, List.length_append] at hB
    refine h d (by simp) acc _ (by omega) (lcA_fold g B (by rw [List.length_append]; omega) (fun d hd => h d (by simp [hd])) ?_)
    rw [List.flatMap_cons] at q
    rw [List.append_assoc]
    exact q
/-! ints in a row -/
theorem ints_map (ns : List Int) : ints? (ns.map .int) = some ns := by
  induction ns with
  | nil => rfl
  | cons n ns ih =>
    show (ints? (ns.map .int)).map (n :: ·) = _
    rw [ih]; rfl
theorem bools_map (bs : List Bool) : bools? (bs.map .bool) = some bs := by
  induction bs with
  | nil => rfl
  | cons n ns ih =>
    show (bools? (ns.map .bool)).map (n :: ·) = _
    rw [ih]; rfl
/-! pots -/
def irPot1 : List IS := [.par [3, 4] [(.ite (.cmp .Lt (.var 1) (.blt .len [(.var 0)])) (.ix (.var 0) (.var 1)) (.int (0))), (.bin .Add (.bin .Mult (.int (15485867)) (.var 1)) (.int (71)))], .loop (.n 2) (.bin .Add (.lst [(.var 3)]) (.sl (.var 0) none (some (.int (60))))) [.asg (.n 4) (.bin .Mod (.bin .Add (.bin .Add (.bin .Mult (.var 4) (.int (424242424243))) (.bin .Mult (.int (2)) (.blt .abs [(.var 2)]))) (.blt .int [(.cmp .Lt (.var 2) (.int (0)))])) (.int (2305843009213693951)))], .retP [(.bin .Mult (.bin .Mod (.blt .abs [(.var 3)]) (.bin .Pow (.bin .Pow (.int (10)) (.int (60))) (.int (5)))) (.blt .int [(.cmp .GtE (.blt .abs [(.var 3)]) (.bin .Pow (.int (10)) (.int (18))))])), (.var 4), (.int (0))]]
def ctPot : Ct := fun zs c Q => ∃ (ns : List Int) (k : Int), zs = [.scr ns, .d (.int k)] ∧ ns.length ≤ 63 ∧ 0 ≤ k ∧ k < 2 ^ 20 ∧ Q .pot c
theorem atI_int {ns : List Int} {k : Int} (h0 : 0 ≤ k) (h1 : k < ns.length) : ∃ n, atI (ns.map PyData.int) k = some (.int n) := by
  obtain ⟨m, rfl⟩ := Int.eq_ofNat_of_zero_le h0
  have hm : m < ns.length := by omega
  refine ⟨ns[m], ?_⟩
  have := atI_nat (xs := ns.map PyData.int) (j := m) (v := .int ns[m]) (by rw [List.getElem?_map, List.getElem?_eq_getElem hm]; rfl)
  exact this
theorem two {b : Bool} {E : PyData → Prop} {P : PyData → Prop} (hP : ∀ m : Int, P (.int m)) (he : b = true → ∃ m : Int, E (.int m)) : (match (generalizing := false) b with | true => ∃ v, E v ∧ P v | false => P (.int 0)) := by
  cases b with
  | true =>
    obtain ⟨m, h⟩ := he rfl
    exact ⟨_, h, hP m⟩
  | false => exact hP 0
theorem pot1_ok {Q : KZ} {c : Nat} {ns : List Int} {k : Int} (hl : ns.length ≤ 63) (h0 : 0 ≤ k) (h1 : k < 2 ^ 20) (q : Q .pot c) : wSs F Gd irPot1 [some (.scr ns), some (.d (.int k)), none, none, none] c (iniR Q) := by
  unfold irPot1
  walk_at "z simp"
  refine two (fun m => ?_) ?_
  rotate_left
  · intro h
    exact atI_int h0 (by simpa using h)
  have cutL : (cutD (List.map PyData.int ns) none (some 60)).length ≤ 63 := by
    unfold cutD
    rw [List.length_take, List.length_drop, List.length_map]
    omega
  have big : (2 : Nat) ^ 1000 < 2 ^ 4000 := by decide +kernel
  refine ⟨cmul_l (by decide) (by decide), by show 1 ≤ sizeLine; rw [sizeLine_eq]; omega, by rw [sizeLine_eq, List.length_singleton]; omega, ?_⟩
  refine forW_inv (fun r Γ c' => ∃ z2 s, Γ = [some (.scr ns), some (.d (.int k)), z2, some (.d (.int m)), some (.d (.int s))] ∧ (r = [] → 0 ≤ s ∧ s < 2305843009213693951) ∧ c' = c ∧ ∀ d ∈ r, ∃ i : Int, d = .int i) ?_ ?_ ⟨none, _, rfl, fun e => absurd e (by simp), rfl, fun d hd => ?_⟩
  · rintro Γ c' ⟨z2, s, rfl, hs, rfl, _⟩
    obtain ⟨s0, s1⟩ := hs rfl
    walk_at "z simp"
    refine ⟨by decide +kernel, by decide +kernel, by decide +kernel, by decide +kernel, cmul_r ?_ ?_, ?_, q⟩
    · split <;> decide
    · split <;> decide
    · have b0 : (0 : Int) < (10 ^ Int.toNat 60) ^ Int.toNat 5 := by decide +kernel
      have b1 := Int.emod_nonneg (m.natAbs : Int) (b := (10 ^ Int.toNat 60) ^ Int.toNat 5) (by omega)
      have b2 := Int.emod_lt_of_pos (m.natAbs : Int) b0
      have b3 : ((10 : Int) ^ Int.toNat 60) ^ Int.toNat 5 < ((2 ^ 1000 : Nat) : Int) := by decide +kernel
      generalize ((m.natAbs : Int) % (10 ^ Int.toNat 60) ^ Int.toNat 5) = w at b1 b2 ⊢
      generalize ((10 : Int) ^ Int.toNat 60) ^ Int.toNat 5 = M at b2 b3
      have b4 : 0 ≤ w * (if decide ((10 : Int) ^ Int.toNat 18 ≤ (m.natAbs : Int)) = true then 1 else 0) ∧ w * (if decide ((10 : Int) ^ Int.toNat 18 ≤ (m.natAbs : Int)) = true then 1 else 0) ≤ w := by
        split
        · rw [Int.mul_one]; exact ⟨b1, Int.le_refl _⟩
        · rw [Int.mul_zero]; exact ⟨Int.le_refl _, b1⟩
      refine ⟨b4.1, ?_, s0, by omega, Int.le_refl _, by omega⟩
      refine Nat.lt_trans ?_ big
      have b5 := b4.2
      generalize w * (if decide ((10 : Int) ^ Int.toNat 18 ≤ (m.natAbs : Int)) = true then 1 else 0) = u at b4 b5 ⊢
      generalize (2 : Nat) ^ 1000 = T at b3 ⊢
      omega
  · rintro d r Γ c' kk ⟨z2, s, rfl, hs, rfl, hd⟩ hk
    obtain ⟨i, rfl⟩ := hd d (by simp)
    walk_at "z simp"
    refine ⟨cmul_r (by decide) (by decide), cmul_l (by decide) (by decide), by decide, hk _ _ ⟨_, _, rfl, fun _ => ⟨Int.emod_nonneg _ (by decide), Int.emod_lt_of_pos _ (by decide)⟩, rfl, fun d h => hd d (by simp [h])⟩⟩
  · rcases List.mem_append.mp hd with h | h
    · exact ⟨m, List.mem_singleton.mp h⟩
    · unfold cutD at h
      obtain ⟨i, _, e⟩ := List.mem_map.mp (List.mem_of_mem_drop (List.mem_of_mem_take h))
      exact ⟨i, e.symm⟩
end
end Z
/-! Z20 -/
set_option maxRecDepth 100000
/-! plain data: what may be shown, compared -/
namespace Z
open PySem PySem.Spec PyProof.Rows L2
mutual
def okD : PyData → Bool
  | .none => true
  | .bool _ => true
  | .int i => decide (i.natAbs < 10 ^ 12)
  | .list xs => okDs xs
  | .tuple xs => okDs xs
  | .str _ => false
  | .dict _ => false
def okDs : List PyData → Bool
  | [] => true
  | x :: xs => okD x && okDs xs
end
mutual
theorem okD_lay : ∀ d : PyData, okD d = true → d.canLay0 = true
  | .none, _ => rfl
  | .bool _, _ => rfl
  | .int _, _ => by simp [PyData.canLay0]
  | .list xs, h => by
    have h : okDs xs = true := by simpa [okD] using h
    simpa [PyData.canLay0] using okDs_lay xs h
  | .tuple xs, h => by
    have h : okDs xs = true := by simpa [okD] using h
    simpa [PyData.canLay0] using okDs_lay xs h
  | .str _, h => by simp [okD] at h
  | .dict _, h => by simp [okD] at h
theorem okDs_lay : ∀ ds : List PyData, okDs ds = true → PyData.canLayAll0 ds = true
  | [], _ => by simp [PyData.canLayAll0]
  | x :: xs, h => by
    have h : okD x = true ∧ okDs xs = true := by simpa [okDs] using h
    simp [PyData.canLayAll0, okD_lay x h.1, okDs_lay xs h.2]
end
mutual
theorem okD_show : ∀ d : PyData, okD d = true → d.showable = true ∧ d.hasDict = false ∧ d.leavesShort 13 = true
  | .none, _ => by simp [PyData.showable, PyData.hasDict, PyData.leavesShort]
  | .bool _, _ => by simp [PyData.showable, PyData.hasDict, PyData.leavesShort]
  | .int i, h => by
    have h : i.natAbs < 10 ^ 12 := by simpa [okD] using h
    refine ⟨?_, rfl, ?_⟩
    · have : i.natAbs.log2 < 1920 := by
        by_cases z : i.natAbs = 0
        · rw [z]; decide
        · rw [Nat.log2_lt z]
          exact Nat.lt_trans h (by decide +kernel)
      simpa [PyData.showable] using this
    · simpa [PyData.leavesShort] using PyData.shown_int_le h
  | .list xs, h => by
    have h : okDs xs = true := by simpa [okD] using h
    simpa [PyData.showable, PyData.hasDict, PyData.leavesShort] using okDs_show xs h
  | .tuple xs, h => by
    have h : okDs xs = true := by simpa [okD] using h
    simpa [PyData.showable, PyData.hasDict, PyData.leavesShort] using okDs_show xs h
  | .str _, h => by simp [okD] at h
  | .dict _, h => by simp [okD] at h
theorem okDs_show : ∀ ds : List PyData, okDs ds = true → PyData.showableAll ds = true ∧ PyData.hasDictAll ds = false ∧ PyData.leavesShortAll 13 ds = true
  | [], _ => by simp [PyData.showableAll, PyData.hasDictAll, PyData.leavesShortAll]
  | x :: xs, h => by
    have h : okD x = true ∧ okDs xs = true := by simpa [okDs] using h
    have h1 := okD_show x h.1
    have h2 := okDs_show xs h.2
    simp [PyData.showableAll, PyData.hasDictAll, PyData.leavesShortAll, h1, h2]
end
/-- its repr may be asked -/
theorem repr_ok {d : PyData} (h : okD d = true) (hd : d.depth ≤ 60) (hw : d.weight ≤ 2 ^ 20) : reprOk d = true ∧ d.showable = true ∧ d.hasDict = false ∧ d.depth ≤ 60 ∧ d.shown.length ≤ sizeLine := by
  have h2 := okD_show d h
  refine ⟨?_, h2.1, h2.2.1, hd, PyData.shown_fits (B := 13) (by decide) (by decide) h2.2.2 hw⟩
  have := okD_lay d h
  cases d <;> first | exact this | (simp [okD] at h; done)
theorem okDs_all {α : Type} {f : α → PyData} : ∀ {l : List α}, (∀ x ∈ l, okD (f x) = true) → okDs (l.map f) = true
  | [], _ => by simp [okDs]
  | x :: l, h => by
    rw [List.map_cons, okDs, h x (by simp), okDs_all fun y hy => h y (by simp [hy])]
    rfl
theorem depthAll_le {α : Type} {f : α → PyData} {n : Nat} : ∀ {l : List α}, (∀ x ∈ l, (f x).depth ≤ n) → PyData.depthAll (l.map f) ≤ n
  | [], _ => by simp [PyData.depthAll]
  | x :: l, h => by
    rw [List.map_cons, PyData.depthAll]
    exact Nat.max_le.mpr ⟨h x (by simp), depthAll_le fun y hy => h y (by simp [hy])⟩
theorem weightAll_le {α : Type} {f : α → PyData} {n : Nat} : ∀ {l : List α}, (∀ x ∈ l, (f x).weight ≤ n) → PyData.weightAll (l.map f) ≤ (n + 1) * l.length
  | [], _ => by simp [PyData.weightAll]
  | x :: l, h => by
    have h1 := h x (by simp)
    have h2 := weightAll_le (l := l) fun y hy => h y (by simp [hy])
    rw [List.map_cons, PyData.weightAll, List.length_cons, Nat.mul_succ]
    omega
theorem weight_int {i : Int} (h : i.natAbs < 10 ^ 12) : (PyData.int i).weight ≤ 40 := by
  unfold PyData.weight
  split
  · omega
  · rename_i hz
    have : i.natAbs.log2 < 40 := by
      rw [Nat.log2_lt (by simp at hz; omega)]
      exact Nat.lt_trans h (by decide)
    omega
/-- whole numbers in a row -/
abbrev TpI (ns : List Int) : PyData := .tuple (ns.map .int)
theorem depth_TpI (ns : List Int) : (TpI ns).depth ≤ 1 := by
  show PyData.depthAll (ns.map .int) + 1 ≤ 1
  have := depthAll_le (f := PyData.int) (n := 0) (l := ns) fun x _ => by simp [PyData.depth]
  omega
theorem okD_TpI {ns : List Int} (h : ∀ n ∈ ns, n.natAbs < 10 ^ 12) : okD (TpI ns) = true := by
  show okD (.tuple _) = true
  rw [okD]
  exact okDs_all fun x hx => by simpa [okD] using h x hx
theorem repr_TpI {ns : List Int} (h : ∀ n ∈ ns, n.natAbs < 10 ^ 12) (hl : ns.length ≤ 1000) : reprOk (TpI ns) = true ∧ (TpI ns).showable = true ∧ (TpI ns).hasDict = false ∧ (TpI ns).depth ≤ 60 ∧ (TpI ns).shown.length ≤ sizeLine := by
  refine repr_ok (okD_TpI h) (Nat.le_trans (depth_TpI ns) (by decide)) ?_
  show PyData.weightAll (ns.map .int) ≤ _
  have := weightAll_le (f := PyData.int) (n := 40) (l := ns) fun x hx => weight_int (h x hx)
  omega
theorem repr_rows {rows : List (List Int)} (h : ∀ r ∈ rows, r.length ≤ 10 ∧ ∀ n ∈ r, n.natAbs < 10 ^ 12) (hl : rows.length ≤ 1000) :
    reprOk (.tuple (rows.map TpI)) = true ∧ (PyData.tuple (rows.map TpI)).showable = true ∧ (PyData.tuple (rows.map TpI)).hasDict = false ∧ (PyData.tuple (rows.map TpI)).depth ≤ 60 ∧ (PyData.tuple (rows.map TpI)).shown.length ≤ sizeLine := by
  refine repr_ok ?_ ?_ ?_
  · rw [okD]
    exact okDs_all fun r hr => okD_TpI (h r hr).2
  · show PyData.depthAll (rows.map TpI) + 1 ≤ 60
    have := depthAll_le (f := TpI) (n := 1) (l := rows) fun x _ => depth_TpI x
    omega
  · show PyData.weightAll (rows.map TpI) ≤ _
    have := weightAll_le (f := TpI) (n := 410) (l := rows) fun r hr => by
      show PyData.weightAll (r.map .int) ≤ _
      have h1 := weightAll_le (f := PyData.int) (n := 40) (l := r) fun x hx => weight_int ((h r hr).2 x hx)
      have := (h r hr).1
      omega
    omega
/-! may be compared -/
theorem lay_ints : ∀ ns : List Int, PyData.canLayAll0 (ns.map .int) = true
  | [] => by simp [PyData.canLayAll0]
  | n :: ns => by
    rw [List.map_cons, PyData.canLayAll0, lay_ints ns]
    simp [PyData.canLay0]
theorem depth_ints0 (ns : List Int) : PyData.depthAll (ns.map .int) = 0 := Nat.le_zero.mp (depthAll_le fun x _ => by simp [PyData.depth])
theorem sh_int (i : Int) : SeqAt.shaped (.int i) = true := by simp [SeqAt.shaped, PyData.canLay0, PyData.depth]
theorem sh_str (s : Str) (h : (PyData.str s).canLay0 = true) : SeqAt.shaped (.str s) = true := by simp [SeqAt.shaped, h, PyData.depth]
theorem sh_lst (ns : List Int) : SeqAt.shaped (.list (ns.map .int)) = true := by simp [SeqAt.shaped, PyData.canLay0, PyData.depth, lay_ints, depth_ints0]
theorem sh_tup (ns : List Int) : SeqAt.shaped (TpI ns) = true := by simp [SeqAt.shaped, PyData.canLay0, PyData.depth, lay_ints, depth_ints0]
theorem eqv_int (i j : Int) : PyData.eqv (.int i) (.int j) = decide (i = j) := by simp [PyData.eqv]; rfl
theorem eqvAll_ints : ∀ a b : List Int, PyData.eqvAll (a.map .int) (b.map .int) = decide (a = b)
  | [], [] => by simp [PyData.eqvAll]
  | [], _ :: _ => by simp [PyData.eqvAll]
  | _ :: _, [] => by simp [PyData.eqvAll]
  | x :: a, y :: b => by
    rw [List.map_cons, List.map_cons, PyData.eqvAll, eqv_int, eqvAll_ints a b]
    by_cases h : x = y <;> by_cases h2 : a = b <;> simp [h, h2]
theorem eqv_TpI (a b : List Int) : PyData.eqv (TpI a) (TpI b) = decide (a = b) := by rw [PyData.eqv, eqvAll_ints]
theorem eqv_str (a b : Str) : PyData.eqv (.str a) (.str b) = decide (a = b) := by simp [PyData.eqv]; rfl
/-- the index of a whole number that is there -/
theorem idx_ok {l : List Int} {x : Int} {Q : KD} (h : x ∈ l) (q : Q (.int (l.idxOf x : Nat))) : wMth .index (.list (l.map .int)) [.int x] Q := by
  rw [q_idx]
  have hl := List.idxOf_lt_length_of_mem h
  refine ⟨sh_lst l, sh_int x, l.idxOf x, .int x, ?_, ?_, fun m z hm hz => ?_, q⟩
  · rw [List.getElem?_map, List.getElem?_eq_getElem hl, List.getElem_idxOf]
    rfl
  · rw [eqv_int]; simp
  · rw [List.getElem?_map] at hz
    have hm2 : m < l.length := Nat.lt_trans hm hl
    rw [List.getElem?_eq_getElem hm2] at hz
    cases hz
    rw [eqv_int]
    have := List.not_of_lt_findIdx (p := fun y => y == x) (xs := l) (i := m) hm
    simpa using this
end Z
namespace Z
open PySem PySem.Spec PyProof.Rows L2
section
variable {a b d e f g h i j k : Ct} {r ks : List Ct}
theorem q_ct0 : ctF (a :: r) ks 0 = a := rfl
theorem q_ct1 : ctF (a :: b :: r) ks 1 = b := rfl
theorem q_ct2 : ctF (a :: b :: d :: r) ks 2 = d := rfl
theorem q_ct3 : ctF (a :: b :: d :: e :: r) ks 3 = e := rfl
theorem q_ct4 : ctF (a :: b :: d :: e :: f :: r) ks 4 = f := rfl
theorem q_ct5 : ctF (a :: b :: d :: e :: f :: g :: r) ks 5 = g := rfl
theorem q_ct6 : ctF (a :: b :: d :: e :: f :: g :: h :: r) ks 6 = h := rfl
theorem q_ct7 : ctF (a :: b :: d :: e :: f :: g :: h :: i :: r) ks 7 = i := rfl
theorem q_ct8 : ctF (a :: b :: d :: e :: f :: g :: h :: i :: j :: r) ks 8 = j := rfl
theorem q_ct9 : ctF (a :: b :: d :: e :: f :: g :: h :: i :: j :: k :: r) ks 9 = k := rfl
theorem q_kt0 : ctF r (a :: ks) 100 = a := rfl
theorem q_kt1 : ctF r (a :: b :: ks) 101 = b := rfl
theorem q_kt2 : ctF r (a :: b :: d :: ks) 102 = d := rfl
end
end Z
local macro_rules | `(tactic| walk_at "z ct") => `(tactic| try simp only [Z.q_ct0, Z.q_ct1, Z.q_ct2, Z.q_ct3, Z.q_ct4, Z.q_ct5, Z.q_ct6, Z.q_ct7, Z.q_ct8, Z.q_ct9, Z.q_kt0, Z.q_kt1, Z.q_kt2])
namespace Z
open PySem PySem.Spec PyProof.Rows L2
/-- one of some -/
def ctOf : Ct := fun zs c Q => ∃ xs : List PyData, zs = [.pot, .d (.list xs)] ∧ xs ≠ [] ∧ xs.length < 2 ^ 50 ∧ c + 1 < 2 ^ 60 ∧ ∀ x c', x ∈ xs → c ≤ c' → c' ≤ c + 1 → Q (.d x) c'
def irOf : List IS := [.ret (.ix (.var 1) (.call 0 [(.var 0), (.blt .len [(.var 1)])]))]
theorem atI_mem {xs : List PyData} {r : Int} (h0 : 0 ≤ r) (h1 : r < xs.length) : ∃ v, atI xs r = some v ∧ v ∈ xs := by
  obtain ⟨m, rfl⟩ := Int.eq_ofNat_of_zero_le h0
  have hm : m < xs.length := by omega
  exact ⟨xs[m], atI_nat (List.getElem?_eq_getElem hm), List.getElem_mem hm⟩
theorem of_ok {ks : List Ct} {Gd : Nat → PyData} {r : List Ct} {Q : KZ} {c : Nat} {xs : List PyData} (h0 : xs ≠ []) (h1 : xs.length < 2 ^ 50) (hc : c + 1 < 2 ^ 60) (q : ∀ x c', x ∈ xs → c ≤ c' → c' ≤ c + 1 → Q (.d x) c') :
    wSs (ctF (ctTake :: r) ks) Gd irOf [some .pot, some (.d (.list xs))] c (iniR Q) := by
  unfold irOf
  walk_at "z simp"
  walk_at "z ct"
  have : 0 < xs.length := List.length_pos_iff.mpr h0
  refine ⟨xs.length, rfl, by omega, by omega, hc, fun r c' r0 r1 c0 c1 => ?_⟩
  walk_at "z simp"
  obtain ⟨v, e, hv⟩ := atI_mem r0 r1
  exact ⟨v, e, q v c' hv c0 c1⟩
end Z
namespace Z
open PySem PySem.Spec PyProof.Rows L2
end Z
local macro_rules | `(tactic| walk_at "z len") => `(tactic| ((try simp only [List.length_cons, List.length_nil, List.length_append, List.length_map]); rw [PySem.sizeLine_eq]; omega))
namespace Z
open PySem PySem.Spec PyProof.Rows L2
theorem zints_of {P : Int → Prop} : ∀ {xs : List PyData}, (∀ x ∈ xs, ∃ i, x = .int i ∧ P i) → ∃ ns : List Int, xs = ns.map .int ∧ ∀ i ∈ ns, P i
  | [], _ => ⟨[], rfl, fun i h => by cases h⟩
  | x :: xs, h => by
    obtain ⟨i, rfl, hi⟩ := h x (by simp)
    obtain ⟨ns, rfl, hn⟩ := zints_of (xs := xs) fun y hy => h y (List.mem_cons_of_mem _ hy)
    refine ⟨i :: ns, rfl, fun j hj => ?_⟩
    rcases List.mem_cons.mp hj with rfl | hj
    · exact hi
    · exact hn j hj
end Z
namespace Z
open PySem PySem.Spec PyProof.Rows L2
section
variable {f : PyData → Nat → (List PyData → Nat → Prop) → Prop} {c : Nat} {α : Type} {e : α → PyData}
theorem lcW_on (g : α → List PyData) : ∀ {l : List α} {Q : List PyData → Nat → Prop}, (∀ a ∈ l, ∀ Q : List PyData → Nat → Prop, Q (g a) c → f (e a) c Q) → Q (l.flatMap g) c → lcW f (l.map e) c Q
  | [], Q, _, q => q
  | a :: l, Q, h, q => h a (by simp) _ (lcW_on g (fun b hb => h b (by simp [hb])) (by rw [List.flatMap_cons] at q; exact q))
theorem flat_map1 (g : α → PyData) : ∀ l : List α, l.flatMap (fun a => [g a]) = l.map g
  | [] => rfl
  | a :: l => by rw [List.flatMap_cons, List.map_cons, flat_map1 g l]; rfl
theorem flat_filt (p : α → Bool) : ∀ l : List α, l.flatMap (fun a => if p a then [e a] else []) = (l.filter p).map e
  | [] => rfl
  | a :: l => by
    rw [List.flatMap_cons, flat_filt p l, List.filter_cons]
    cases p a <;> rfl
/-- a comprehension over items that are e's -/
theorem lcW_om (g : α → PyData) {l : List α} {Q : List PyData → Nat → Prop} (h : ∀ a ∈ l, ∀ Q : List PyData → Nat → Prop, Q [g a] c → f (e a) c Q) (q : Q (l.map g) c) : lcW f (l.map e) c Q :=
  lcW_on (fun a => [g a]) h (by rw [flat_map1]; exact q)
theorem lcW_of (p : α → Bool) {l : List α} {Q : List PyData → Nat → Prop} (h : ∀ a ∈ l, ∀ Q : List PyData → Nat → Prop, Q (if p a then [e a] else []) c → f (e a) c Q) (q : Q ((l.filter p).map e) c) : lcW f (l.map e) c Q :=
  lcW_on (fun a => if p a then [e a] else []) h (by rw [flat_filt]; exact q)
end
section
variable {f : PyData → List PyData → Nat → (List PyData → Nat → Prop) → Prop} {c : Nat} {α : Type} {e : α → PyData}
theorem lcA_on (g : α → List PyData) (B : Nat) : ∀ {l : List α} {acc : List PyData} {Q : List PyData → Nat → Prop}, acc.length + (l.flatMap g).length ≤ B →
    (∀ a ∈ l, ∀ acc (Q : List PyData → Nat → Prop), acc.length + (g a).length ≤ B → Q (acc ++ g a) c → f (e a) acc c Q) → Q (acc ++ l.flatMap g) c → lcA f (l.map e) acc c Q
  | [], acc, Q, _, _, q => by
    rw [List.flatMap_nil, List.append_nil] at q
    exact q
  | a :: l, acc, Q, hB, h, q => by
    rw [List.flatMap_cons, List.length_append] at hB
    refine h a (by simp) acc _ (by omega) (lcA_on g B (by rw [List.length_append]; omega) (fun b hb => h b (by simp [hb])) ?_)
    rw [List.flatMap_cons] at q
    rw [List.append_assoc]
    exact q
end
end Z
/-! Z21 -/
set_option maxRecDepth 100000
/-! short forms, quicker steps -/
namespace Z
open PySem PySem.Spec PyProof.Rows L2
section
variable {F : Nat → Ct} {Gd : Nat → PyData} {Γ : Ga} {c : Nat} {R : Rt} {Q : KZ} {KD' : KD} {KB : Bool → Prop} {x y u v0 v1 v2 v3 v4 v5 : PyData} {i j : Int} {z : Zv} {xs ys : List PyData} {s t : Str} {b : Bool} {kvs : List (PyData × PyData)}
theorem toNat_inj {a b : Char} (h : a.toNat = b.toNat) : a = b := Char.ext (UInt32.toNat_inj.mp h)
theorem map_inj {α β : Type} {f : α → β} (hf : ∀ x y, f x = f y → x = y) : ∀ {a b : List α}, a.map f = b.map f → a = b
  | [], [], _ => rfl
  | [], _ :: _, h => by simp at h
  | _ :: _, [], h => by simp at h
  | x :: a, y :: b, h => by
    rw [List.map_cons, List.map_cons] at h
    injection h with h1 h2
    rw [hf _ _ h1, map_inj hf h2]
theorem str_eq (a b : String) : (Str.ofString a = Str.ofString b) = (a = b) := propext ⟨fun h => by
  rw [Str.ofString_eq_toList, Str.ofString_eq_toList] at h
  injection h with h
  have h2 : a.toList.map Char.toNat = b.toList.map Char.toNat := by simpa using h
  exact String.toList_injective (map_inj (fun x y => toNat_inj) h2), fun h => by rw [h]⟩
theorem q_eqS : wCmp .Eq (.str s) (.str t) KB = KB (decide (s = t)) := propext ⟨fun h => by have := h.2; rwa [eqv_str] at this, fun h => ⟨trivial, by rwa [eqv_str]⟩⟩
theorem q_neS : wCmp .NotEq (.str s) (.str t) KB = KB (!decide (s = t)) := propext ⟨fun h => by have := h.2; rwa [eqv_str] at this, fun h => ⟨trivial, by rwa [eqv_str]⟩⟩
theorem q_eqI : wCmp .Eq (.int i) (.int j) KB = KB (decide (i = j)) := propext ⟨fun h => by have := h.2; rwa [eqv_int] at this, fun h => ⟨⟨sh_int i, sh_int j⟩, by rwa [eqv_int]⟩⟩
theorem q_neI : wCmp .NotEq (.int i) (.int j) KB = KB (!decide (i = j)) := propext ⟨fun h => by have := h.2; rwa [eqv_int] at this, fun h => ⟨⟨sh_int i, sh_int j⟩, by rwa [eqv_int]⟩⟩
theorem q_eq0 : wCmp .Eq (.tuple xs) (.tuple []) KB = KB xs.isEmpty := propext ⟨fun h => by have := h.2; rwa [eqv_nil] at this, fun h => ⟨trivial, by rwa [eqv_nil]⟩⟩
theorem atI_0 (h : 0 < xs.length) : True := trivial
theorem atI_cons {n : Nat} {v : PyData} (h : xs[n]? = some v) (k : Int) (hk : k = (n : Int)) : atI xs k = some v := by subst hk; exact atI_nat h
theorem ixL {n : Nat} {v : PyData} (h : xs[n]? = some v) (k : Int) (hk : k = (n : Int)) : wIx (.list xs) (.int k) KD' = KD' v := propext ⟨fun ⟨w, e, q⟩ => by rw [atI_cons h k hk] at e; cases e; exact q, fun q => ⟨_, atI_cons h k hk, q⟩⟩
theorem ixT {n : Nat} {v : PyData} (h : xs[n]? = some v) (k : Int) (hk : k = (n : Int)) : wIx (.tuple xs) (.int k) KD' = KD' v := propext ⟨fun ⟨w, e, q⟩ => by rw [atI_cons h k hk] at e; cases e; exact q, fun q => ⟨_, atI_cons h k hk, q⟩⟩
theorem q_l0 : wIx (.list (v0 :: xs)) (.int 0) KD' = KD' v0 := ixL (n := 0) rfl 0 rfl
theorem q_l1 : wIx (.list (v0 :: v1 :: xs)) (.int 1) KD' = KD' v1 := ixL (n := 1) rfl 1 rfl
theorem q_l2 : wIx (.list (v0 :: v1 :: v2 :: xs)) (.int 2) KD' = KD' v2 := ixL (n := 2) rfl 2 rfl
theorem q_l3 : wIx (.list (v0 :: v1 :: v2 :: v3 :: xs)) (.int 3) KD' = KD' v3 := ixL (n := 3) rfl 3 rfl
theorem q_l4 : wIx (.list (v0 :: v1 :: v2 :: v3 :: v4 :: xs)) (.int 4) KD' = KD' v4 := ixL (n := 4) rfl 4 rfl
theorem q_t0 : wIx (.tuple (v0 :: xs)) (.int 0) KD' = KD' v0 := ixT (n := 0) rfl 0 rfl
theorem q_t1 : wIx (.tuple (v0 :: v1 :: xs)) (.int 1) KD' = KD' v1 := ixT (n := 1) rfl 1 rfl
theorem q_t2 : wIx (.tuple (v0 :: v1 :: v2 :: xs)) (.int 2) KD' = KD' v2 := ixT (n := 2) rfl 2 rfl
theorem q_t3 : wIx (.tuple (v0 :: v1 :: v2 :: v3 :: xs)) (.int 3) KD' = KD' v3 := ixT (n := 3) rfl 3 rfl
theorem q_t4 : wIx (.tuple (v0 :: v1 :: v2 :: v3 :: v4 :: xs)) (.int 4) KD' = KD' v4 := ixT (n := 4) rfl 4 rfl
/-- any of some -/
theorem ix_any (h0 : 0 ≤ i) (h1 : i < xs.length) (h : ∀ x ∈ xs, KD' x) : wIx (.list xs) (.int i) KD' := by
  obtain ⟨v, e, hv⟩ := atI_mem h0 h1
  exact ⟨v, e, h v hv⟩
/-! dicts -/
theorem q_ixdd : wIx (.dict kvs) x KD' = ∃ k v, keyD x = some k ∧ dLk kvs k = some v ∧ KD' v := by cases x <;> rfl
theorem q_ixdS : wIx (.dict kvs) (.str s) KD' = ∃ v, dLk kvs (.inr s) = some v ∧ KD' v := propext ⟨fun ⟨k, v, e, h1, h2⟩ => by cases e; exact ⟨v, h1, h2⟩, fun ⟨v, h1, h2⟩ => ⟨_, v, rfl, h1, h2⟩⟩
theorem q_getS : wMth .get (.dict kvs) [.str s, x] KD' = KD' ((dLk kvs (.inr s)).getD x) := propext ⟨fun ⟨k, e, h⟩ => by cases e; exact h, fun h => ⟨_, rfl, h⟩⟩
theorem q_lk0 {k : Key} : dLk [] k = none := rfl
theorem q_lkS {d : PyData} {r : List (PyData × PyData)} : dLk ((.str s, d) :: r) (.inr t) = if s = t then some d else dLk r (.inr t) := by
  show (if (some (Sum.inr s) : Option Key) = some (Sum.inr t) then some d else dLk r (.inr t)) = _
  by_cases e : s = t
  · subst e; simp
  · rw [if_neg e, if_neg (fun h => e (Sum.inr.inj (Option.some.inj h)))]
theorem q_kD : kD (.inr s) = .str s := rfl
theorem q_kDi : kD (.inl i) = .int i := rfl
theorem q_dsp {ks : List Key} {as : List PyData} : wX Gd (.dsp ks) as KD' = (ks.length = as.length ∧ ks.Nodup ∧ KD' (.dict ((ks.map kD).zip as))) := rfl
theorem q_repl {k : Int} : wX Gd .repl [.list xs, .int k] KD' = ((-(2 ^ 63) ≤ k ∧ k < 2 ^ 63 ∧ xs.length * k.toNat ≤ sizeLine) ∧ KD' (.list (List.replicate k.toNat xs).flatten)) := rfl
theorem q_mulT {k : Int} : wBin .Mult (.tuple xs) (.int k) KD' = ((xs ≠ [] ∧ 2 ≤ k ∧ k ≤ 1000 ∧ xs.length ≤ 1000) ∧ KD' (.tuple (List.replicate k.toNat xs).flatten)) := rfl
theorem q_up : wX Gd .upper [.str s] KD' = (s.length ≤ 5592405 ∧ KD' (.str (Txt.upper s))) := rfl
theorem q_gix {n : Nat} : wX Gd (.gix n) [x] KD' = xGix (Gd (1000 + n)) [x] KD' := rfl
theorem q_gixS : xGix (.dict kvs) [.str s] KD' = ∃ v, dLk kvs (.inr s) = some v ∧ KD' v := propext ⟨fun ⟨k, v, e, h1, h2⟩ => by cases e; exact ⟨v, h1, h2⟩, fun ⟨v, h1, h2⟩ => ⟨_, v, rfl, h1, h2⟩⟩
theorem q_gget {n : Nat} : wX Gd (.gget n) [x, y] KD' = xGget (Gd (1000 + n)) [x, y] KD' := rfl
theorem q_ggetS : xGget (.dict kvs) [.str s, x] KD' = KD' ((dLk kvs (.inr s)).getD x) := propext ⟨fun ⟨k, e, h⟩ => by cases e; exact h, fun h => ⟨_, rfl, h⟩⟩
theorem q_gkeys {n : Nat} : wX Gd (.gkeys n) [] KD' = xGkeys (Gd (1000 + n)) [] KD' := rfl
theorem q_gkeysS : xGkeys (.dict kvs) [] KD' = KD' (.list (kvs.map (·.1))) := rfl
theorem q_g0 {a : PyData} {r dds : List PyData} : lkG (a :: r) dds 0 = a := rfl
theorem q_g1 {a b : PyData} {r dds : List PyData} : lkG (a :: b :: r) dds 1 = b := rfl
theorem q_gd0 {a : PyData} {ds r : List PyData} : lkG ds (a :: r) 1000 = a := rfl
theorem q_gd1 {a b : PyData} {ds r : List PyData} : lkG ds (a :: b :: r) 1001 = b := rfl
theorem q_inD : wCmp .In (.str s) (.dict kvs) KB = KB (dLk kvs (.inr s)).isSome := propext ⟨fun ⟨k, e, h⟩ => by cases e; exact h, fun h => ⟨_, rfl, h⟩⟩
theorem q_zipM {A : List PyData → Prop} : wIt (some .zip) [.list xs, .tuple ys] A = A (zipD xs ys) := rfl
/-! draws -/
theorem q_take : ctTake [.pot, .d (.int i)] c Q = (0 < i ∧ i < 2 ^ 60 ∧ c + 1 < 2 ^ 60 ∧ ∀ r c', 0 ≤ r → r < i → c ≤ c' → c' ≤ c + 1 → Q (.d (.int r)) c') := propext ⟨fun ⟨n, e, h⟩ => by cases e; exact h, fun h => ⟨i, rfl, h⟩⟩
theorem q_of : ctOf [.pot, .d (.list xs)] c Q = (xs ≠ [] ∧ xs.length < 2 ^ 50 ∧ c + 1 < 2 ^ 60 ∧ ∀ x c', x ∈ xs → c ≤ c' → c' ≤ c + 1 → Q (.d x) c') := propext ⟨fun ⟨n, e, h⟩ => by cases e; exact h, fun h => ⟨xs, rfl, h⟩⟩
theorem all_nil {P : PyData → Prop} : (∀ x ∈ ([] : List PyData), P x) = True := by simp
theorem forall_one {P : PyData → Prop} : (∀ z ∈ (x :: xs), P z) = (P x ∧ ∀ z ∈ xs, P z) := by simp
end
end Z
/-! Z22 -/
set_option maxRecDepth 100000
/-! head first -/
namespace Z
open PySem PySem.Spec PyProof.Rows L2
section
variable {F : Nat → Ct} {Gd : Nat → PyData} {Γ : Ga} {c : Nat} {Q : KZ} {K' : KD} {K : Bool → Prop} {x y : PyData} {i j : Int} {xs ys : List PyData} {s t : Str} {b : Bool} {kvs : List (PyData × PyData)}
theorem bI (h1 : i = j → K true) (h2 : i ≠ j → K false) : eqOk (.int i) (.int j) ∧ K (PyData.eqv (.int i) (.int j)) := ⟨⟨sh_int i, sh_int j⟩, by
  rw [eqv_int]
  by_cases e : i = j
  · rw [decide_eq_true e]; exact h1 e
  · rw [decide_eq_false e]; exact h2 e⟩
theorem nI (h1 : i = j → K false) (h2 : i ≠ j → K true) : neOk (.int i) (.int j) ∧ K (!PyData.eqv (.int i) (.int j)) := ⟨⟨sh_int i, sh_int j⟩, by
  rw [eqv_int]
  by_cases e : i = j
  · rw [decide_eq_true e]; exact h1 e
  · rw [decide_eq_false e]; exact h2 e⟩
theorem bS (h1 : s = t → K true) (h2 : s ≠ t → K false) : eqOk (.str s) (.str t) ∧ K (PyData.eqv (.str s) (.str t)) := ⟨trivial, by
  rw [eqv_str]
  by_cases e : s = t
  · rw [decide_eq_true e]; exact h1 e
  · rw [decide_eq_false e]; exact h2 e⟩
theorem bSt (h : K true) : eqOk (.str s) (.str s) ∧ K (PyData.eqv (.str s) (.str s)) := bS (fun _ => h) fun e => absurd rfl e
theorem bSf (e : s ≠ t) (h : K false) : eqOk (.str s) (.str t) ∧ K (PyData.eqv (.str s) (.str t)) := bS (fun z => absurd z e) fun _ => h
theorem nSs (h : K false) : neOk (.str s) (.str s) ∧ K (!PyData.eqv (.str s) (.str s)) := ⟨trivial, by rw [eqv_str]; simpa using h⟩
theorem b0 (h : K xs.isEmpty) : eqOk (.tuple xs) (.tuple []) ∧ K (PyData.eqv (.tuple xs) (.tuple [])) := ⟨trivial, by rw [eqv_nil]; exact h⟩
theorem at0 {x : PyData} {r : List PyData} : atI (x :: r) 0 = some x := atI_nat (j := 0) rfl
theorem at1 {x y : PyData} {r : List PyData} : atI (x :: y :: r) 1 = some y := atI_nat (j := 1) rfl
theorem at2 {x y z : PyData} {r : List PyData} : atI (x :: y :: z :: r) 2 = some z := atI_nat (j := 2) rfl
/-- a comparison's two ways -/
theorem dec2 {p : Prop} [Decidable p] (h1 : p → K true) (h2 : ¬ p → K false) : K (decide p) := by
  by_cases e : p
  · rw [decide_eq_true e]; exact h1 e
  · rw [decide_eq_false e]; exact h2 e
theorem bool2 {b : Bool} (h1 : b = true → K true) (h2 : b = false → K false) : K b := by
  cases b with
  | true => exact h1 rfl
  | false => exact h2 rfl
end
end Z
local macro_rules | `(tactic| walk_at "zI") => `(tactic| (refine ⟨⟨Z.sh_int _, Z.sh_int _⟩, ?_⟩; rw [Z.eqv_int]; (conv => whnf); split))
namespace Z
open PySem PySem.Spec PyProof.Rows L2
end Z
local macro_rules | `(tactic| walk_at "zS") => `(tactic| (refine ⟨True.intro, ?_⟩; rw [Z.eqv_str]; (conv => whnf); split))
namespace Z
open PySem PySem.Spec PyProof.Rows L2
end Z
local macro_rules | `(tactic| walk_at "zw") => `(tactic| conv => whnf)
namespace Z
open PySem PySem.Spec PyProof.Rows L2
end Z
/-! F04 -/
set_option maxRecDepth 100000
namespace K04
open PySem PySem.Spec PyProof.Rows L2 Z
abbrev topS (i : Nat) : Stmt := PySem.Challenge.pw_trytwins_k04_rows_and_answers.main.body.getD i (.Pass ⟨0, 0, 0, 0⟩)
/-! _law_pot -/
abbrev s_law_pot : Stmt := topS 10
abbrev c_law_pot : CE := ⟨["_law_script", "_law_k", "_law_one", "_law_cell", "_law_seed"], defScope s_law_pot, fun _ => true, [], [], ["int", "len", "abs"], [], []⟩
theorem sc_law_pot : FnScope ["_law_script", "_law_k", "_law_one", "_law_cell", "_law_seed"] ["_law_script", "_law_k"] (defScope s_law_pot) := ⟨rfl, rfl, rfl, by decide +kernel, rfl, by decide +kernel, by decide +kernel⟩
def ir_law_pot : List IS := [.par [3, 4] [(.ite (.cmp .Lt (.var 1) (.blt .len [(.var 0)])) (.ix (.var 0) (.var 1)) (.int (0))), (.bin .Add (.bin .Mult (.int (15485867)) (.var 1)) (.int (71)))], .loop (.n 2) (.bin .Add (.lst [(.var 3)]) (.sl (.var 0) none (some (.int (60))))) [.asg (.n 4) (.bin .Mod (.bin .Add (.bin .Add (.bin .Mult (.var 4) (.int (424242424243))) (.bin .Mult (.int (2)) (.blt .abs [(.var 2)]))) (.blt .int [(.cmp .Lt (.var 2) (.int (0)))])) (.int (2305843009213693951)))], .retP [(.bin .Mult (.bin .Mod (.blt .abs [(.var 3)]) (.bin .Pow (.bin .Pow (.int (10)) (.int (60))) (.int (5)))) (.blt .int [(.cmp .GtE (.blt .abs [(.var 3)]) (.bin .Pow (.int (10)) (.int (18))))])), (.var 4), (.int (0))]]
theorem e_law_pot : cSs 60 c_law_pot [1000] (defBody s_law_pot) = some ir_law_pot := by kernel_rfl
/-! _law_take -/
abbrev s_law_take : Stmt := topS 11
abbrev c_law_take : CE := ⟨["_law_pot_here", "_law_count", "_law_mixed", "_law_digit"], defScope s_law_take, fun _ => true, [], [], [], [], []⟩
theorem sc_law_take : FnScope ["_law_pot_here", "_law_count", "_law_mixed", "_law_digit"] ["_law_pot_here", "_law_count"] (defScope s_law_take) := ⟨rfl, rfl, rfl, by decide +kernel, rfl, by decide +kernel, by decide +kernel⟩
def ir_law_take : List IS := [.ite (.cmp .Gt (.ix (.var 0) (.int (0))) (.int (0))) [.asg (.n 3) (.bin .Mod (.ix (.var 0) (.int (0))) (.var 1)), .pst 0 (0) (.bin .FloorDiv (.ix (.var 0) (.int (0))) (.var 1)), .ret (.var 3)] [], .pst 0 (2) (.bin .Add (.ix (.var 0) (.int (2))) (.int (1))), .asg (.n 2) (.bin .Mod (.bin .Mult (.bin .Add (.bin .Add (.ix (.var 0) (.int (1))) (.bin .Mult (.bin .Mult (.int (86028157)) (.ix (.var 0) (.int (2)))) (.ix (.var 0) (.int (2))))) (.int (19))) (.int (39373))) (.int (2305843009213693921))), .asg (.n 2) (.bin .Mod (.bin .Mult (.var 2) (.bin .Add (.bin .Mod (.var 2) (.int (1000003))) (.bin .Mult (.int (15485917)) (.ix (.var 0) (.int (2)))))) (.int (2305843009213693907))), .ret (.bin .Mod (.bin .Add (.bin .FloorDiv (.var 2) (.int (101))) (.bin .FloorDiv (.var 2) (.int (1000037)))) (.var 1))]
theorem e_law_take : cSs 60 c_law_take [] (defBody s_law_take) = some ir_law_take := by kernel_rfl
/-! _law_of -/
abbrev s_law_of : Stmt := topS 12
abbrev c_law_of : CE := ⟨["_law_pot_here", "_law_some"], defScope s_law_of, fun _ => true, ["_law_take"], [], ["len"], [], []⟩
theorem sc_law_of : FnScope ["_law_pot_here", "_law_some"] ["_law_pot_here", "_law_some"] (defScope s_law_of) := ⟨rfl, rfl, rfl, by decide +kernel, rfl, by decide +kernel, by decide +kernel⟩
def ir_law_of : List IS := [.ret (.ix (.var 1) (.call 0 [(.var 0), (.blt .len [(.var 1)])]))]
theorem e_law_of : cSs 60 c_law_of [] (defBody s_law_of) = some ir_law_of := by kernel_rfl
/-! _law_plain -/
abbrev s_law_plain : Stmt := topS 14
abbrev c_law_plain : CE := ⟨["_law_pot_here", "_law_room", "_law_word", "_law_size_here"], defScope s_law_plain, fun _ => true, ["_law_of", "_law_take"], [], [], [], []⟩
theorem sc_law_plain : FnScope ["_law_pot_here", "_law_room", "_law_word", "_law_size_here"] ["_law_pot_here", "_law_room"] (defScope s_law_plain) := ⟨rfl, rfl, rfl, by decide +kernel, rfl, by decide +kernel, by decide +kernel⟩
def ir_law_plain : List IS := [.asg (.n 2) (.call 0 [(.var 0), (.lst [(.str "bearers"), (.str "leasts"), (.str "greatests"), (.str "levellers"), (.str "adders"), (.str "likers"), (.str "rankers")])]), .asg (.n 3) (.bin .Add (.int (1)) (.call 1 [(.var 0), (.mth .get (.ext (.dsp [(.inr "bearers"), (.inr "leasts"), (.inr "greatests"), (.inr "adders"), (.inr "rankers")]) [(.int (6)), (.int (5)), (.int (5)), (.int (3)), (.int (3))]) [(.var 2), (.int (4))])])), .ite (.cmp .Gt (.ix (.mth .get (.ext (.dsp [(.inr "likers"), (.inr "rankers")]) [(.tup [(.int (1)), (.int (2)), (.int (5)), (.int (15))]), (.tup [(.int (1)), (.int (3)), (.int (13))])]) [(.var 2), (.bin .Mult (.tup [(.int (1))]) (.int (6)))]) (.bin .Sub (.var 3) (.int (1)))) (.var 1)) [.asg (.n 2) (.str "bearers")] [], .ret (.ite (.cmp .Eq (.var 2) (.str "adders")) (.tup [(.var 2), (.var 3), (.bin .Add (.int (1)) (.call 1 [(.var 0), (.int (6))]))]) (.tup [(.var 2), (.var 3)]))]
theorem e_law_plain : cSs 60 c_law_plain [] (defBody s_law_plain) = some ir_law_plain := by kernel_rfl
/-! _law_house -/
abbrev s_law_house : Stmt := topS 15
abbrev c_law_house : CE := ⟨["_law_pot_here", "_law_deep", "_law_room", "_law_way", "_law_some", "_law_at", "_law_many"], defScope s_law_house, fun _ => true, ["_law_take", "_law_plain", "_law_house"], [], [], [], []⟩
theorem sc_law_house : FnScope ["_law_pot_here", "_law_deep", "_law_room", "_law_way", "_law_some", "_law_at", "_law_many"] ["_law_pot_here", "_law_deep", "_law_room"] (defScope s_law_house) := ⟨rfl, rfl, rfl, by decide +kernel, rfl, by decide +kernel, by decide +kernel⟩
def ir_law_house : List IS := [.asg (.n 3) (.ite (.and (.cmp .Gt (.var 1) (.int (1))) (.cmp .Gt (.var 2) (.int (1)))) (.call 0 [(.var 0), (.int (5))]) (.int (0))), .ite (.cmp .Lt (.var 3) (.int (2))) [.ret (.call 1 [(.var 0), (.var 2)])] [], .ite (.cmp .Eq (.var 3) (.int (2))) [.ret (.tup [(.str "both"), (.call 2 [(.var 0), (.bin .Sub (.var 1) (.int (1))), (.bin .FloorDiv (.var 2) (.int (2)))]), (.call 2 [(.var 0), (.bin .Sub (.var 1) (.int (1))), (.bin .FloorDiv (.var 2) (.int (2)))])])] [], .asg (.n 4) (.lst [(.tup [(.str "marks"), (.int (1)), (.int (2))]), (.tup [(.str "likes"), (.int (2))]), (.tup [(.str "ranks"), (.int (2))]), (.tup [(.str "marks"), (.int (2)), (.int (2))]), (.tup [(.str "likes"), (.int (3))]), (.tup [(.str "marks"), (.int (1)), (.int (4))])]), .par [4, 6] [(.bin .Add (.var 4) (.lst [(.tup [(.str "ranks"), (.int (3))])])), (.lst [(.int (2)), (.int (2)), (.int (3)), (.int (4)), (.int (5)), (.int (4)), (.int (13))])], .asg (.n 5) (.call 0 [(.var 0), (.int (7))]), .ite (.cmp .Gt (.ix (.var 6) (.var 5)) (.var 2)) [.ret (.call 1 [(.var 0), (.var 2)])] [], .ret (.tup [(.str "ruled"), (.ix (.var 4) (.var 5)), (.call 2 [(.var 0), (.bin .Sub (.var 1) (.int (1))), (.bin .FloorDiv (.var 2) (.ix (.var 6) (.var 5)))])])]
theorem e_law_house : cSs 60 c_law_house [] (defBody s_law_house) = some ir_law_house := by kernel_rfl
/-! _law_row -/
abbrev s_law_row : Stmt := topS 17
abbrev c_law_row : CE := ⟨["_law_pot_here", "_law_own", "_law_pool", "_law_some", "_law_k"], defScope s_law_row, fun _ => true, ["_law_of", "_law_row", "_law_take"], [], ["tuple", "list", "range"], [], []⟩
theorem sc_law_row : FnScope ["_law_pot_here", "_law_own", "_law_pool", "_law_some", "_law_k"] ["_law_pot_here", "_law_own"] (defScope s_law_row) := ⟨rfl, rfl, rfl, by decide +kernel, rfl, by decide +kernel, by decide +kernel⟩
def ir_law_row : List IS := [.ite (.cmp .Eq (.ix (.var 1) (.int (0))) (.str "both")) [.ret (.bin .Add (.call 1 [(.var 0), (.ix (.var 1) (.int (1)))]) (.call 1 [(.var 0), (.ix (.var 1) (.int (2)))]))] [], .ite (.cmp .Eq (.ix (.var 1) (.int (0))) (.str "ruled")) [.asg (.n 3) (.ite (.cmp .Eq (.ix (.ix (.var 1) (.int (1))) (.int (0))) (.str "marks")) (.ext .lrng [(.ix (.ix (.var 1) (.int (1))) (.int (2)))]) (.lst [(.int (3)), (.int (1)), (.neg (.int (4))), (.bin .Pow (.int (10)) (.int (39)))])), .ret (.bin .Add (.blt .tuple [(.lc [4] (.n 4) (.blt .range [(.ix (.ix (.var 1) (.int (1))) (.int (1)))]) none (.call 0 [(.var 0), (.var 3)]))]) (.call 1 [(.var 0), (.ix (.var 1) (.int (2)))]))] [], .asg (.n 2) (.lc [4] (.n 4) (.blt .range [(.bin .Add (.int (1)) (.call 2 [(.var 0), (.int (5))]))]) none (.call 0 [(.var 0), (.lst [(.int (0)), (.int (1)), (.int (2)), (.neg (.int (1))), (.int (5)), (.bin .Add (.bin .Pow (.int (10)) (.int (39))) (.int (7))), (.neg (.bin .Pow (.int (10)) (.int (38)))), (.int (40))])])), .ret (.blt .tuple [(.lc [4] (.n 4) (.blt .range [(.ix (.var 1) (.int (1)))]) none (.call 0 [(.var 0), (.var 2)]))])]
theorem e_law_row : cSs 60 c_law_row [] (defBody s_law_row) = some ir_law_row := by kernel_rfl
/-! _law_odd -/
abbrev s_law_odd : Stmt := topS 18
abbrev c_law_odd : CE := ⟨["_law_pot_here", "_law_some", "_law_part", "_law_turn"], defScope s_law_odd, fun _ => true, ["_law_take"], [], ["range"], [], []⟩
theorem sc_law_odd : FnScope ["_law_pot_here", "_law_some", "_law_part", "_law_turn"] ["_law_pot_here"] (defScope s_law_odd) := ⟨rfl, rfl, rfl, by decide +kernel, rfl, by decide +kernel, by decide +kernel⟩
def ir_law_odd : List IS := [.asg (.n 1) (.lst [.non, (.bl true), (.bl false), (.int (0)), (.int (1)), (.int (2)), (.int (3)), (.int (4)), (.neg (.int (1))), (.str ""), (.str "0"), (.tup []), (.lst []), (.ext (.dsp []) []), (.tup [(.int (0))]), (.tup [(.int (0)), (.int (1))]), (.lst [(.int (0)), (.int (1))]), (.bin .Pow (.int (10)) (.int (39)))]), .asg (.n 2) (.ix (.var 1) (.call 0 [(.var 0), (.int (18))])), .loop (.n 3) (.blt .range [(.ix (.lst [(.int (0)), (.int (0)), (.int (0)), (.int (1)), (.int (14))]) (.call 0 [(.var 0), (.int (5))]))]) [.asg (.n 2) (.ix (.lst [(.tup [(.var 2)]), (.lst [(.var 2)]), (.tup [(.var 2), (.int (0))])]) (.call 0 [(.var 0), (.int (3))]))], .ret (.var 2)]
theorem e_law_odd : cSs 60 c_law_odd [] (defBody s_law_odd) = some ir_law_odd := by kernel_rfl
/-! _law_bent -/
abbrev s_law_bent : Stmt := topS 19
abbrev c_law_bent : CE := ⟨["_law_pot_here", "_law_row_here", "_law_way", "_law_at", "_law_odd_here"], defScope s_law_bent, fun _ => true, ["_law_take", "_law_odd"], [], ["len", "list"], [], []⟩
theorem sc_law_bent : FnScope ["_law_pot_here", "_law_row_here", "_law_way", "_law_at", "_law_odd_here"] ["_law_pot_here", "_law_row_here"] (defScope s_law_bent) := ⟨rfl, rfl, rfl, by decide +kernel, rfl, by decide +kernel, by decide +kernel⟩
def ir_law_bent : List IS := [.par [2, 3, 4] [(.call 0 [(.var 0), (.int (6))]), (.call 0 [(.var 0), (.blt .len [(.var 1)])]), (.call 1 [(.var 0)])], .ite (.cmp .Eq (.var 2) (.int (0))) [.ret (.bin .Add (.sl (.var 1) none (some (.var 3))) (.sl (.var 1) (some (.bin .Add (.var 3) (.int (1)))) none))] [], .ite (.cmp .Eq (.var 2) (.int (1))) [.ret (.bin .Add (.bin .Add (.sl (.var 1) none (some (.var 3))) (.tup [(.ix (.var 1) (.var 3))])) (.sl (.var 1) (some (.var 3)) none))] [], .ite (.cmp .Eq (.var 2) (.int (2))) [.ret (.ite (.cmp .Eq (.var 3) (.int (0))) (.var 4) (.blt .list [(.var 1)]))] [], .ret (.bin .Add (.bin .Add (.sl (.var 1) none (some (.var 3))) (.tup [(.ix (.lst [(.var 4), (.var 4), (.neg (.int (1))), (.int (2)), (.int (3)), (.int (4))]) (.call 0 [(.var 0), (.int (6))]))])) (.sl (.var 1) (some (.bin .Add (.var 3) (.int (1)))) none))]
theorem e_law_bent : cSs 60 c_law_bent [] (defBody s_law_bent) = some ir_law_bent := by kernel_rfl
/-! _law_answer -/
abbrev s_law_answer : Stmt := topS 22
abbrev c_law_answer : CE := ⟨["_law_pot_here", "_law_own", "_law_way", "_law_pair"], defScope s_law_answer, fun _ => true, ["_law_take", "_law_odd", "_law_answer", "_law_of"], [], ["list"], [], []⟩
theorem sc_law_answer : FnScope ["_law_pot_here", "_law_own", "_law_way", "_law_pair"] ["_law_pot_here", "_law_own"] (defScope s_law_answer) := ⟨rfl, rfl, rfl, by decide +kernel, rfl, by decide +kernel, by decide +kernel⟩
def ir_law_answer : List IS := [.asg (.n 2) (.call 0 [(.var 0), (.int (9))]), .ite (.cmp .Eq (.var 2) (.int (0))) [.ret (.call 1 [(.var 0)])] [], .ite (.cmp .Eq (.ix (.var 1) (.int (0))) (.str "ruled")) [.ret (.call 2 [(.var 0), (.ix (.var 1) (.int (2)))])] [], .ite (.cmp .NotEq (.ix (.var 1) (.int (0))) (.str "both")) [.ret (.call 3 [(.var 0), (.lst [(.int (0)), (.int (3)), (.neg (.int (7))), (.bin .Pow (.int (10)) (.int (39)))])])] [], .asg (.n 3) (.tup [(.call 2 [(.var 0), (.ix (.var 1) (.int (1)))]), (.call 2 [(.var 0), (.ix (.var 1) (.int (2)))])]), .ret (.ite (.cmp .Lt (.var 2) (.int (4))) (.ix (.lst [(.bin .Add (.var 3) (.tup [(.int (0))])), (.sl (.var 3) none (some (.int (1)))), (.blt .list [(.var 3)])]) (.bin .Sub (.var 2) (.int (1)))) (.var 3))]
theorem e_law_answer : cSs 60 c_law_answer [] (defBody s_law_answer) = some ir_law_answer := by kernel_rfl
/-! row_size -/
abbrev s_row_size : Stmt := topS 4
abbrev c_row_size : CE := ⟨["house", "word", "first", "rest"], defScope s_row_size, fun _ => true, ["row_size"], [], [], [], []⟩
theorem sc_row_size : FnScope ["house", "word", "first", "rest"] ["house"] (defScope s_row_size) := ⟨rfl, rfl, rfl, by decide +kernel, rfl, by decide +kernel, by decide +kernel⟩
def ir_row_size : List IS := [.asg (.s [(.n 1), (.n 2)] 3) (.var 0), .ite (.cmp .Eq (.var 1) (.str "both")) [.ret (.bin .Add (.call 0 [(.var 2)]) (.call 0 [(.ix (.var 3) (.int (0)))]))] [], .ret (.ite (.cmp .Eq (.var 1) (.str "ruled")) (.bin .Add (.ix (.var 2) (.int (1))) (.call 0 [(.ix (.var 3) (.int (0)))])) (.var 2))]
theorem e_row_size : cSs 60 c_row_size [] (defBody s_row_size) = some ir_row_size := by kernel_rfl
/-! _law_size -/
abbrev s_law_size : Stmt := topS 16
abbrev c_law_size : CE := ⟨["_law_own"], defScope s_law_size, fun _ => true, ["_law_size"], [], [], [], []⟩
theorem sc_law_size : FnScope ["_law_own"] ["_law_own"] (defScope s_law_size) := ⟨rfl, rfl, rfl, by decide +kernel, rfl, by decide +kernel, by decide +kernel⟩
def ir_law_size : List IS := [.ite (.cmp .Eq (.ix (.var 0) (.int (0))) (.str "both")) [.ret (.bin .Add (.call 0 [(.ix (.var 0) (.int (1)))]) (.call 0 [(.ix (.var 0) (.int (2)))]))] [], .ret (.ite (.cmp .Eq (.ix (.var 0) (.int (0))) (.str "ruled")) (.bin .Add (.ix (.ix (.var 0) (.int (1))) (.int (1))) (.call 0 [(.ix (.var 0) (.int (2)))])) (.ix (.var 0) (.int (1))))]
theorem e_law_size : cSs 60 c_law_size [] (defBody s_law_size) = some ir_law_size := by kernel_rfl
/-! parted_row -/
abbrev s_parted_row : Stmt := topS 5
abbrev c_parted_row : CE := ⟨["house", "row", "at", "word", "first", "other"], defScope s_parted_row, fun _ => true, ["row_size"], [], [], [], []⟩
theorem sc_parted_row : FnScope ["house", "row", "at", "word", "first", "other"] ["house", "row"] (defScope s_parted_row) := ⟨rfl, rfl, rfl, by decide +kernel, rfl, by decide +kernel, by decide +kernel⟩
def ir_parted_row : List IS := [.asg (.t [(.n 3), (.n 4), (.n 5)]) (.var 0), .asg (.n 2) (.ite (.cmp .Eq (.var 3) (.str "both")) (.call 0 [(.var 4)]) (.ix (.var 4) (.int (1)))), .ret (.tup [(.sl (.var 1) none (some (.var 2))), (.sl (.var 1) (some (.var 2)) none)])]
theorem e_parted_row : cSs 60 c_parted_row [] (defBody s_parted_row) = some ir_parted_row := by kernel_rfl
/-! marks_fit -/
abbrev s_marks_fit : Stmt := topS 6
abbrev c_marks_fit : CE := ⟨["house", "row", "word", "fits", "here", "there", "ruler", "one", "mark"], defScope s_marks_fit, fun _ => true, ["parted_row", "marks_fit"], ["JOINED"], ["all"], [], []⟩
theorem sc_marks_fit : FnScope ["house", "row", "word", "fits", "here", "there", "ruler", "one", "mark"] ["house", "row"] (defScope s_marks_fit) := ⟨rfl, rfl, rfl, by decide +kernel, rfl, by decide +kernel, by decide +kernel⟩
def ir_marks_fit : List IS := [.asg (.n 2) (.ix (.var 0) (.int (0))), .ite (.cmp .NotIn (.var 2) (.glb 0)) [.ret (.bl true)] [], .asg (.t [(.n 4), (.n 5)]) (.call 0 [(.var 0), (.var 1)]), .ite (.cmp .Eq (.var 2) (.str "both")) [.ret (.and (.call 1 [(.ix (.var 0) (.int (1))), (.var 4)]) (.call 1 [(.ix (.var 0) (.int (2))), (.var 5)]))] [], .asg (.t [(.n 6), (.n 7)]) (.sl (.var 0) (some (.int (1))) none), .asg (.n 3) (.or (.cmp .NotEq (.ix (.var 6) (.int (0))) (.str "marks")) (.blt .all [(.lc [8] (.n 8) (.var 4) none (.chn .LtE .Lt (.int (0)) (.var 8) (.ix (.var 6) (.int (2)))))])), .ret (.and (.var 3) (.call 1 [(.var 7), (.var 5)]))]
theorem e_marks_fit : cSs 60 c_marks_fit [] (defBody s_marks_fit) = some ir_marks_fit := by kernel_rfl
/-! is_whole -/
abbrev s_is_whole : Stmt := topS 1
abbrev c_is_whole : CE := ⟨["thing"], defScope s_is_whole, fun _ => true, [], [], ["isinstance", "int", "bool"], [], []⟩
theorem sc_is_whole : FnScope ["thing"] ["thing"] (defScope s_is_whole) := ⟨rfl, rfl, rfl, by decide +kernel, rfl, by decide +kernel, by decide +kernel⟩
def ir_is_whole : List IS := [.ret (.and (.isi (.var 0) "int") (.not (.isi (.var 0) "bool")))]
theorem e_is_whole : cSs 60 c_is_whole [] (defBody s_is_whole) = some ir_is_whole := by kernel_rfl
/-! is_row -/
abbrev s_is_row : Stmt := topS 7
abbrev c_is_row : CE := ⟨["house", "thing", "one"], defScope s_is_row, fun _ => true, ["marks_fit", "row_size", "is_whole"], [], ["isinstance", "tuple", "len", "all"], [], []⟩
theorem sc_is_row : FnScope ["house", "thing", "one"] ["house", "thing"] (defScope s_is_row) := ⟨rfl, rfl, rfl, by decide +kernel, rfl, by decide +kernel, by decide +kernel⟩
def ir_is_row : List IS := [.ite (.or (.not (.isi (.var 1) "tuple")) (.or (.cmp .NotEq (.blt .len [(.var 1)]) (.call 1 [(.var 0)])) (.not (.blt .all [(.lc [2] (.n 2) (.var 1) none (.call 2 [(.var 2)]))])))) [.ret (.bl false)] [], .ret (.call 0 [(.var 0), (.var 1)])]
theorem e_is_row : cSs 60 c_is_row [] (defBody s_is_row) = some ir_is_row := by kernel_rfl
/-! _law_fits -/
abbrev s_law_fits : Stmt := topS 20
abbrev c_law_fits : CE := ⟨["_law_own", "_law_row_here", "_law_at", "_law_mark"], defScope s_law_fits, fun _ => true, ["_law_fits", "_law_size"], [], ["all"], [], []⟩
theorem sc_law_fits : FnScope ["_law_own", "_law_row_here", "_law_at", "_law_mark"] ["_law_own", "_law_row_here"] (defScope s_law_fits) := ⟨rfl, rfl, rfl, by decide +kernel, rfl, by decide +kernel, by decide +kernel⟩
def ir_law_fits : List IS := [.ite (.cmp .Eq (.ix (.var 0) (.int (0))) (.str "both")) [.asg (.n 2) (.call 1 [(.ix (.var 0) (.int (1)))]), .ret (.and (.call 0 [(.ix (.var 0) (.int (1))), (.sl (.var 1) none (some (.var 2)))]) (.call 0 [(.ix (.var 0) (.int (2))), (.sl (.var 1) (some (.var 2)) none)]))] [], .ite (.cmp .NotEq (.ix (.var 0) (.int (0))) (.str "ruled")) [.ret (.bl true)] [], .asg (.n 2) (.ix (.ix (.var 0) (.int (1))) (.int (1))), .ite (.and (.cmp .Eq (.ix (.ix (.var 0) (.int (1))) (.int (0))) (.str "marks")) (.not (.blt .all [(.lc [3] (.n 3) (.sl (.var 1) none (some (.var 2))) none (.chn .Lt .Lt (.neg (.int (1))) (.var 3) (.ix (.ix (.var 0) (.int (1))) (.int (2)))))]))) [.ret (.bl false)] [], .ret (.call 0 [(.ix (.var 0) (.int (2))), (.sl (.var 1) (some (.var 2)) none)])]
theorem e_law_fits : cSs 60 c_law_fits [] (defBody s_law_fits) = some ir_law_fits := by kernel_rfl
/-! _law_whole -/
abbrev s_law_whole : Stmt := topS 13
abbrev c_law_whole : CE := ⟨["_law_part"], defScope s_law_whole, fun _ => true, [], [], ["isinstance", "int", "bool"], [], []⟩
theorem sc_law_whole : FnScope ["_law_part"] ["_law_part"] (defScope s_law_whole) := ⟨rfl, rfl, rfl, by decide +kernel, rfl, by decide +kernel, by decide +kernel⟩
def ir_law_whole : List IS := [.ret (.and (.isi (.var 0) "int") (.not (.isi (.var 0) "bool")))]
theorem e_law_whole : cSs 60 c_law_whole [] (defBody s_law_whole) = some ir_law_whole := by kernel_rfl
/-! _law_row_due -/
abbrev s_law_row_due : Stmt := topS 21
abbrev c_law_row_due : CE := ⟨["_law_own", "_law_part", "_law_one"], defScope s_law_row_due, fun _ => true, ["_law_fits", "_law_size", "_law_whole"], [], ["all", "isinstance", "tuple", "len"], [], []⟩
theorem sc_law_row_due : FnScope ["_law_own", "_law_part", "_law_one"] ["_law_own", "_law_part"] (defScope s_law_row_due) := ⟨rfl, rfl, rfl, by decide +kernel, rfl, by decide +kernel, by decide +kernel⟩
def ir_law_row_due : List IS := [.ite (.or (.not (.isi (.var 1) "tuple")) (.cmp .NotEq (.blt .len [(.var 1)]) (.call 1 [(.var 0)]))) [.ret (.bl false)] [], .ret (.and (.blt .all [(.lc [2] (.n 2) (.var 1) none (.call 2 [(.var 2)]))]) (.call 0 [(.var 0), (.var 1)]))]
theorem e_law_row_due : cSs 60 c_law_row_due [] (defBody s_law_row_due) = some ir_law_row_due := by kernel_rfl
/-! _law_answer_due -/
abbrev s_law_answer_due : Stmt := topS 23
abbrev c_law_answer_due : CE := ⟨["_law_own", "_law_part"], defScope s_law_answer_due, fun _ => true, ["_law_answer_due", "_law_whole"], [], ["isinstance", "tuple", "len"], [], []⟩
theorem sc_law_answer_due : FnScope ["_law_own", "_law_part"] ["_law_own", "_law_part"] (defScope s_law_answer_due) := ⟨rfl, rfl, rfl, by decide +kernel, rfl, by decide +kernel, by decide +kernel⟩
def ir_law_answer_due : List IS := [.ite (.cmp .Eq (.ix (.var 0) (.int (0))) (.str "ruled")) [.ret (.call 0 [(.ix (.var 0) (.int (2))), (.var 1)])] [], .ite (.cmp .NotEq (.ix (.var 0) (.int (0))) (.str "both")) [.ret (.call 1 [(.var 1)])] [], .ite (.or (.not (.isi (.var 1) "tuple")) (.cmp .NotEq (.blt .len [(.var 1)]) (.int (2)))) [.ret (.bl false)] [], .ret (.and (.call 0 [(.ix (.var 0) (.int (1))), (.ix (.var 1) (.int (0)))]) (.call 0 [(.ix (.var 0) (.int (2))), (.ix (.var 1) (.int (1)))]))]
theorem e_law_answer_due : cSs 60 c_law_answer_due [] (defBody s_law_answer_due) = some ir_law_answer_due := by kernel_rfl
/-! is_answer -/
abbrev s_is_answer : Stmt := topS 8
abbrev c_is_answer : CE := ⟨["house", "thing", "word"], defScope s_is_answer, fun _ => true, ["is_answer", "is_whole"], [], ["isinstance", "tuple", "len"], [], []⟩
theorem sc_is_answer : FnScope ["house", "thing", "word"] ["house", "thing"] (defScope s_is_answer) := ⟨rfl, rfl, rfl, by decide +kernel, rfl, by decide +kernel, by decide +kernel⟩
def ir_is_answer : List IS := [.asg (.n 2) (.ix (.var 0) (.int (0))), .ite (.cmp .Eq (.var 2) (.str "ruled")) [.ret (.call 0 [(.ix (.var 0) (.int (2))), (.var 1)])] [], .ite (.cmp .NotEq (.var 2) (.str "both")) [.ret (.call 1 [(.var 1)])] [], .ite (.or (.not (.isi (.var 1) "tuple")) (.cmp .NotEq (.blt .len [(.var 1)]) (.int (2)))) [.ret (.bl false)] [], .ret (.and (.call 0 [(.ix (.var 0) (.int (1))), (.ix (.var 1) (.int (0)))]) (.call 0 [(.ix (.var 0) (.int (2))), (.ix (.var 1) (.int (1)))]))]
theorem e_is_answer : cSs 60 c_is_answer [] (defBody s_is_answer) = some ir_is_answer := by kernel_rfl
/-! law -/
abbrev s_law : Stmt := topS 24
abbrev c_law : CE := ⟨["_law_script", "_law_k", "_law_pot_here", "_law_turn", "_law_own", "_law_row_here", "_law_part", "_law_again"], defScope s_law, fun _ => true, ["_law_pot", "_law_house", "_law_row", "_law_bent", "_law_odd", "_law_answer", "_law_take", "row_size", "_law_size", "is_row", "_law_row_due", "_law_answer_due"], [], ["range", "len", "repr"], [("is_answer", ["thing", "house"])], []⟩
theorem sc_law : FnScope ["_law_script", "_law_k", "_law_pot_here", "_law_turn", "_law_own", "_law_row_here", "_law_part", "_law_again"] ["_law_script"] (defScope s_law) := ⟨rfl, rfl, rfl, by decide +kernel, rfl, by decide +kernel, by decide +kernel⟩
def ir_law : List IS := [.loop (.n 1) (.blt .range [(.bin .Add (.int (1)) (.blt .len [(.sl (.var 0) none (some (.int (3))))]))]) [.asg (.n 2) (.call 0 [(.var 0), (.var 1)]), .loop (.n 3) (.blt .range [(.int (8))]) [.asg (.n 4) (.call 1 [(.var 2), (.bin .Add (.int (1)) (.call 6 [(.var 2), (.int (4))])), (.int (200))]), .ite (.cmp .NotEq (.blt .repr [(.call 7 [(.var 4)])]) (.blt .repr [(.call 8 [(.var 4)])])) [.ret (.bl false)] [], .asg (.n 5) (.call 2 [(.var 2), (.var 4)]), .loop (.n 6) (.tup [(.var 5), (.call 3 [(.var 2), (.var 5)]), (.call 3 [(.var 2), (.var 5)]), (.call 4 [(.var 2)])]) [.ite (.cmp .NotEq (.blt .repr [(.call 9 [(.var 4), (.var 6)])]) (.blt .repr [(.call 10 [(.var 4), (.var 6)])])) [.ret (.bl false)] []], .loop (.n 7) (.blt .range [(.int (3))]) [.asg (.n 6) (.call 5 [(.var 2), (.var 4)]), .ite (.cmp .NotEq (.blt .repr [(.call 100 [(.var 6), (.var 4)])]) (.blt .repr [(.call 11 [(.var 4), (.var 6)])])) [.ret (.bl false)] []]]], .ret (.bl true)]
theorem e_law : cSs 60 c_law [] (defBody s_law) = some ir_law := by kernel_rfl
end K04
/-! C04a -/
set_option maxRecDepth 100000
/-! k04: rows and answers -/
namespace K04
open PySem PySem.Spec PyProof.Rows L2 Z
/-! houses -/
structure Rl where
  w : Str
  k : Nat
  r : List PyData
def Rl.d (r : Rl) : PyData := .tuple (.str r.w :: .int r.k :: r.r)
structure Rl.ok (r : Rl) : Prop where
  k0 : 1 ≤ r.k
  k1 : r.k ≤ 3
  w : (r.w = "marks" ∧ ∃ c : Nat, r.r = [.int c] ∧ 1 ≤ c ∧ c ≤ 9) ∨ r.w = "likes" ∨ r.w = "ranks"
def words : List Str := ["bearers", "leasts", "greatests", "levellers", "adders", "likers", "rankers"]
inductive Ho where
  | plain (w : Str) (k : Nat) (r : List PyData) | both (a b : Ho) | ruled (r : Rl) (b : Ho)
def Ho.d : Ho → PyData
  | .plain w k r => .tuple (.str w :: .int k :: r)
  | .both a b => .tuple [.str "both", a.d, b.d]
  | .ruled r b => .tuple [.str "ruled", r.d, b.d]
def Ho.ok : Ho → Prop
  | .plain w k r => w ∈ words ∧ 1 ≤ k ∧ k ≤ 6 ∧ r.length ≤ 1
  | .both a b => a.ok ∧ b.ok
  | .ruled r b => r.ok ∧ b.ok
def Ho.dep : Ho → Nat
  | .plain _ _ _ => 0
  | .both a b => max a.dep b.dep + 1
  | .ruled _ b => b.dep + 1
def Ho.sz : Ho → Nat
  | .plain _ k _ => k
  | .both a b => a.sz + b.sz
  | .ruled r b => r.k + b.sz
theorem w_ne : ∀ w ∈ words, w ≠ "both" ∧ w ≠ "ruled" ∧ (PyData.str w).canLay0 = true := by decide +kernel
theorem sz_le : ∀ {h : Ho}, h.ok → 1 ≤ h.sz ∧ h.sz ≤ 6 * 2 ^ h.dep
  | .plain w k r, ⟨_, h1, h2, _⟩ => ⟨h1, by show k ≤ 6 * 2 ^ 0; omega⟩
  | .both a b, ⟨ha, hb⟩ => by
    have h1 := sz_le ha
    have h2 := sz_le hb
    refine ⟨by show 1 ≤ a.sz + b.sz; omega, ?_⟩
    have e1 : 2 ^ a.dep ≤ 2 ^ max a.dep b.dep := Nat.pow_le_pow_right (by decide) (Nat.le_max_left ..)
    have e2 : 2 ^ b.dep ≤ 2 ^ max a.dep b.dep := Nat.pow_le_pow_right (by decide) (Nat.le_max_right ..)
    show a.sz + b.sz ≤ 6 * 2 ^ (max a.dep b.dep + 1)
    rw [Nat.pow_succ]
    omega
  | .ruled r b, ⟨hr, hb⟩ => by
    have h2 := sz_le hb
    have h1 := hr.k0
    have h3 := hr.k1
    refine ⟨by show 1 ≤ r.k + b.sz; omega, ?_⟩
    show r.k + b.sz ≤ 6 * 2 ^ (b.dep + 1)
    have := Nat.pow_pos (n := b.dep) (show 0 < 2 by decide)
    rw [Nat.pow_succ]
    omega
theorem sz_small {h : Ho} (ok : h.ok) (hd : h.dep < 4) : 1 ≤ h.sz ∧ h.sz ≤ 48 := by
  have h1 := sz_le ok
  have : 2 ^ h.dep ≤ 2 ^ 3 := Nat.pow_le_pow_right (by decide) (by omega)
  omega
theorem dep_pos {h : Ho} {n : Nat} (hd : h.dep < n) : ∃ m, n = m + 1 := ⟨n - 1, by omega⟩
abbrev Gn : Nat → PyData := lkG [] []
/-! how many places -/
def ctSize (n : Nat) : Ct := fun zs c Q => ∃ h : Ho, zs = [.d h.d] ∧ h.dep < n ∧ h.ok ∧ Q (.d (.int h.sz)) c
theorem eqW {w t : Str} (h : w ≠ t) : PyData.eqv (.str w) (.str t) = false := by rw [eqv_str, decide_eq_false h]
theorem w_row_size {Q : KZ} {c n : Nat} {h : Ho} (hd : h.dep < n + 1) (ok : h.ok) (q : Q (.d (.int h.sz)) c) : wSs (ctF [ctSize n] []) Gn ir_row_size [some (.d h.d), none, none, none] c (iniR Q) := by
  cases h with
  | plain w k r =>
    have hw := w_ne w ok.1
    walk_at "zw"
    refine ⟨by show 2 ≤ _; simp, ?_⟩
    walk_at "zw"
    refine ⟨trivial, ?_⟩
    rw [eqW hw.1]
    walk_at "zw"
    refine ⟨trivial, ?_⟩
    rw [eqW hw.2.1]
    exact q
  | both a b =>
    have hd : max a.dep b.dep + 1 < n + 1 := hd
    walk_at "zw"
    refine ⟨by show 2 ≤ 3; decide, ?_⟩
    walk_at "zw"
    refine ⟨trivial, ?_⟩
    walk_at "zw"
    refine ⟨a, rfl, by omega, ok.1, ?_⟩
    walk_at "zw"
    refine ⟨_, at0, ?_⟩
    walk_at "zw"
    refine ⟨b, rfl, by omega, ok.2, ?_⟩
    exact q
  | ruled r b =>
    have hd : b.dep + 1 < n + 1 := hd
    walk_at "zw"
    refine ⟨by show 2 ≤ 3; decide, ?_⟩
    walk_at "zw"
    refine ⟨trivial, ?_⟩
    walk_at "zw"
    refine ⟨trivial, ?_⟩
    walk_at "zw"
    refine ⟨_, at1, ?_⟩
    walk_at "zw"
    refine ⟨_, at0, ?_⟩
    walk_at "zw"
    exact ⟨b, rfl, by omega, ok.2, q⟩
theorem w_law_size {Q : KZ} {c n : Nat} {h : Ho} (hd : h.dep < n + 1) (ok : h.ok) (q : Q (.d (.int h.sz)) c) : wSs (ctF [ctSize n] []) Gn ir_law_size [some (.d h.d)] c (iniR Q) := by
  cases h with
  | plain w k r =>
    have hw := w_ne w ok.1
    walk_at "zw"
    refine ⟨_, at0, ?_⟩
    walk_at "zw"
    refine ⟨trivial, ?_⟩
    rw [eqW hw.1]
    walk_at "zw"
    refine ⟨_, at0, ?_⟩
    walk_at "zw"
    refine ⟨trivial, ?_⟩
    rw [eqW hw.2.1]
    walk_at "zw"
    exact ⟨_, at1, q⟩
  | both a b =>
    have hd : max a.dep b.dep + 1 < n + 1 := hd
    walk_at "zw"
    refine ⟨_, at0, ?_⟩
    walk_at "zw"
    refine ⟨trivial, ?_⟩
    walk_at "zw"
    refine ⟨_, at1, ?_⟩
    walk_at "zw"
    refine ⟨a, rfl, by omega, ok.1, ?_⟩
    walk_at "zw"
    refine ⟨_, at2, ?_⟩
    walk_at "zw"
    refine ⟨b, rfl, by omega, ok.2, ?_⟩
    exact q
  | ruled r b =>
    have hd : b.dep + 1 < n + 1 := hd
    walk_at "zw"
    refine ⟨_, at0, ?_⟩
    walk_at "zw"
    refine ⟨trivial, ?_⟩
    walk_at "zw"
    refine ⟨_, at0, ?_⟩
    walk_at "zw"
    refine ⟨trivial, ?_⟩
    walk_at "zw"
    refine ⟨_, at1, ?_⟩
    walk_at "zw"
    refine ⟨_, at1, ?_⟩
    walk_at "zw"
    refine ⟨_, at2, ?_⟩
    walk_at "zw"
    exact ⟨b, rfl, by omega, ok.2, q⟩
/-! parted -/
theorem cut_lo {xs : List PyData} {k : Nat} : Z.cutD xs none (some (k : Int)) = xs.take k := by
  unfold Z.cutD
  have e : HT.sIx xs.length xs.length (some (k : Int)) = min k xs.length := HT.sIx_nat ..
  have e0 : HT.sIx xs.length 0 none = 0 := rfl
  rw [e, e0, Nat.sub_zero, List.drop_zero]
  rcases Nat.le_total k xs.length with h | h
  · rw [Nat.min_eq_left h]
  · rw [Nat.min_eq_right h, List.take_of_length_le (Nat.le_refl _), List.take_of_length_le h]
theorem cut_hi {xs : List PyData} {k : Nat} : Z.cutD xs (some (k : Int)) none = xs.drop k := by
  unfold Z.cutD
  have e : HT.sIx xs.length 0 (some (k : Int)) = min k xs.length := HT.sIx_nat ..
  have e0 : HT.sIx xs.length xs.length none = xs.length := rfl
  rw [e, e0]
  rcases Nat.le_total k xs.length with h | h
  · rw [Nat.min_eq_left h, List.take_of_length_le (by rw [List.length_drop]; exact Nat.le_refl _)]
  · rw [Nat.min_eq_right h, List.drop_of_length_le h, List.drop_of_length_le (Nat.le_refl _), List.take_nil]
def Ho.cut : Ho → Nat
  | .plain _ _ _ => 0
  | .both a _ => a.sz
  | .ruled r _ => r.k
def Ho.jn : Ho → Prop
  | .plain _ _ _ => False
  | _ => True
def ctParted : Ct := fun zs c Q => ∃ (h : Ho) (ns : List Int), zs = [.d h.d, .d (.tuple (ns.map .int))] ∧ h.ok ∧ h.dep < 4 ∧ h.jn ∧ Q (.d (.tuple [.tuple ((ns.take h.cut).map .int), .tuple ((ns.drop h.cut).map .int)])) c
theorem w_parted {Q : KZ} {c : Nat} {h : Ho} {ns : List Int} (ok : h.ok) (hd : h.dep < 4) (j : h.jn) (q : Q (.d (.tuple [.tuple ((ns.take h.cut).map .int), .tuple ((ns.drop h.cut).map .int)])) c) :
    wSs (ctF [ctSize 4] []) Gn ir_parted_row [some (.d h.d), some (.d (.tuple (ns.map .int))), none, none, none, none] c (iniR Q) := by
  rw [List.map_take, List.map_drop] at q
  cases h with
  | plain w k r => exact j.elim
  | both a b =>
    have hd : max a.dep b.dep + 1 < 4 := hd
    walk_at "zw"
    refine ⟨rfl, ?_⟩
    walk_at "zw"
    refine ⟨trivial, ?_⟩
    walk_at "zw"
    refine ⟨a, rfl, by omega, ok.1, ?_⟩
    walk_at "zw"
    refine ⟨by rw [sizeLine_eq]; show 2 ≤ 16777216; decide, ?_⟩
    walk_at "zw"
    rw [cut_lo, cut_hi]
    exact q
  | ruled r b =>
    walk_at "zw"
    refine ⟨rfl, ?_⟩
    walk_at "zw"
    refine ⟨trivial, ?_⟩
    walk_at "zw"
    refine ⟨_, at1, ?_⟩
    walk_at "zw"
    refine ⟨by rw [sizeLine_eq]; show 2 ≤ 16777216; decide, ?_⟩
    walk_at "zw"
    rw [cut_lo, cut_hi]
    exact q
end K04
/-! C04b -/
set_option maxRecDepth 100000
namespace K04
open PySem PySem.Spec PyProof.Rows L2 Z
/-! marks -/
def mkB (c m : Int) : Bool := decide (0 ≤ m) && decide (m < c)
def Rl.fit (r : Rl) (ns : List Int) : Bool := if r.w = "marks" then match r.r with
  | [.int c] => (ns.take r.k).all (mkB c)
  | _ => true
  else true
def Ho.fits : Ho → List Int → Bool
  | .plain _ _ _, _ => true
  | .both a b, ns => a.fits (ns.take a.sz) && b.fits (ns.drop a.sz)
  | .ruled r b, ns => r.fit ns && b.fits (ns.drop r.k)
def ctFits (n : Nat) : Ct := fun zs c Q => ∃ (h : Ho) (ns : List Int), zs = [.d h.d, .d (.tuple (ns.map .int))] ∧ h.dep < n ∧ n ≤ 4 ∧ h.ok ∧ Q (.d (.bool (h.fits ns))) c
abbrev Gj : Nat → PyData := lkG [.tuple [.str "both", .str "ruled"]] []
theorem all_map (f : Int → Bool) (l : List Int) : (l.map f).all id = l.all f := by
  induction l with
  | nil => rfl
  | cons x l ih => rw [List.map_cons, List.all_cons, List.all_cons, ih]; rfl
theorem bools_of (f : Int → Bool) (l : List Int) : bools? (l.map fun m => PyData.bool (f m)) = some (l.map f) := by
  have := bools_map (l.map f)
  rwa [List.map_map] at this
theorem and2 {Q : KZ} {c : Nat} {a b : Bool} (q : Q (.d (.bool (a && b))) c) : (match a with | true => Q (.d (.bool b)) c | false => Q (.d (.bool false)) c) := by
  cases a <;> exact q
theorem fit_no {r : Rl} {ns : List Int} (h : r.w ≠ "marks") : r.fit ns = true := by
  unfold Rl.fit
  rw [if_neg h]
theorem w_marks_fit {Q : KZ} {c n : Nat} {h : Ho} {ns : List Int} (hd : h.dep < n + 1) (n4 : n + 1 ≤ 4) (ok : h.ok) (q : Q (.d (.bool (h.fits ns))) c) :
    wSs (ctF [ctParted, ctFits n] []) Gj ir_marks_fit [some (.d h.d), some (.d (.tuple (ns.map .int))), none, none, none, none, none, none, none] c (iniR Q) := by
  cases h with
  | plain w k r =>
    have hw := w_ne w ok.1
    walk_at "zw"
    refine ⟨_, at0, ?_⟩
    walk_at "zw"
    refine ⟨sh_str w hw.2.2, by decide +kernel, ?_⟩
    rw [List.any_cons, List.any_cons, List.any_nil, eqv_str, eqv_str, decide_eq_false (fun e => hw.1 e.symm), decide_eq_false (fun e => hw.2.1 e.symm)]
    exact q
  | both a b =>
    have hd' : max a.dep b.dep + 1 < n + 1 := hd
    walk_at "zw"
    refine ⟨_, at0, ?_⟩
    walk_at "zw"
    refine ⟨by decide +kernel, by decide +kernel, ?_⟩
    walk_at "zw"
    refine ⟨.both a b, ns, rfl, ok, by omega, trivial, ?_⟩
    walk_at "zw"
    refine ⟨rfl, ?_⟩
    walk_at "zw"
    refine ⟨trivial, ?_⟩
    walk_at "zw"
    refine ⟨_, at1, ?_⟩
    walk_at "zw"
    refine ⟨a, ns.take a.sz, rfl, by omega, by omega, ok.1, ?_⟩
    have e : (Ho.both a b).fits ns = (a.fits (ns.take a.sz) && b.fits (ns.drop a.sz)) := rfl
    rw [e] at q
    walk_at "zw"
    cases ha : a.fits (ns.take a.sz) with
    | false =>
      rw [ha] at q
      exact q
    | true =>
      rw [ha] at q
      walk_at "zw"
      refine ⟨_, at2, ?_⟩
      walk_at "zw"
      exact ⟨b, ns.drop a.sz, rfl, by omega, by omega, ok.2, q⟩
  | ruled r b =>
    have hd' : b.dep + 1 < n + 1 := hd
    have e : (Ho.ruled r b).fits ns = (r.fit ns && b.fits (ns.drop r.k)) := rfl
    rw [e] at q
    walk_at "zw"
    refine ⟨_, at0, ?_⟩
    walk_at "zw"
    refine ⟨by decide +kernel, by decide +kernel, ?_⟩
    walk_at "zw"
    refine ⟨.ruled r b, ns, rfl, ok, by omega, trivial, ?_⟩
    walk_at "zw"
    refine ⟨rfl, ?_⟩
    walk_at "zw"
    refine ⟨trivial, ?_⟩
    walk_at "zw"
    refine ⟨rfl, ?_⟩
    walk_at "zw"
    refine ⟨_, at0, ?_⟩
    walk_at "zw"
    refine ⟨trivial, ?_⟩
    rcases ok.1.w with ⟨hm, m, hr, m0, m1⟩ | hm
    · obtain ⟨w, k, rr⟩ := r
      obtain rfl : w = "marks" := hm
      obtain rfl : rr = [.int m] := hr
      have ef : Rl.fit ⟨"marks", k, [.int m]⟩ ns = (ns.take k).all (mkB m) := rfl
      rw [ef] at q
      walk_at "zw"
      refine lcW_om (e := PyData.int) (fun x => PyData.bool (mkB m x)) (l := ns.take k) (fun x hx Q1 q1 => ?_) ?_
      · walk_at "zw"
        have e : mkB m x = (decide (0 ≤ x) && decide (x < (m : Int))) := rfl
        rw [e] at q1
        split
        · rename_i h0
          rw [h0] at q1
          walk_at "zw"
          refine ⟨_, at2, ?_⟩
          exact q1
        · rename_i h0
          rw [h0] at q1
          exact q1
      · walk_at "zw"
        refine ⟨_, bools_of (mkB m) (ns.take k), ?_⟩
        rw [all_map]
        cases hf : (ns.take k).all (mkB m) with
        | false =>
          rw [hf] at q
          exact q
        | true =>
          rw [hf] at q
          walk_at "zw"
          exact ⟨b, ns.drop k, rfl, by omega, by omega, ok.2, q⟩
    · have hn : r.w ≠ "marks" := fun e => by rw [e] at hm; exact absurd hm (by decide +kernel)
      rw [fit_no hn] at q
      rw [eqW hn]
      walk_at "zw"
      exact ⟨b, ns.drop r.k, rfl, by omega, by omega, ok.2, q⟩
theorem w_law_fits {Q : KZ} {c n : Nat} {h : Ho} {ns : List Int} (hd : h.dep < n + 1) (n4 : n + 1 ≤ 4) (ok : h.ok) (q : Q (.d (.bool (h.fits ns))) c) :
    wSs (ctF [ctFits n, ctSize 4] []) Gn ir_law_fits [some (.d h.d), some (.d (.tuple (ns.map .int))), none, none] c (iniR Q) := by
  cases h with
  | plain w k r =>
    have hw := w_ne w ok.1
    walk_at "zw"
    refine ⟨_, at0, ?_⟩
    walk_at "zw"
    refine ⟨trivial, ?_⟩
    rw [eqW hw.1]
    walk_at "zw"
    refine ⟨_, at0, ?_⟩
    walk_at "zw"
    refine ⟨trivial, ?_⟩
    rw [eqW hw.2.1]
    exact q
  | both a b =>
    have hd' : max a.dep b.dep + 1 < n + 1 := hd
    walk_at "zw"
    refine ⟨_, at0, ?_⟩
    walk_at "zw"
    refine ⟨trivial, ?_⟩
    walk_at "zw"
    refine ⟨_, at1, ?_⟩
    walk_at "zw"
    refine ⟨a, rfl, by omega, ok.1, ?_⟩
    walk_at "zw"
    refine ⟨_, at1, ?_⟩
    walk_at "zw"
    rw [cut_lo, ← List.map_take]
    refine ⟨a, ns.take a.sz, rfl, by omega, by omega, ok.1, ?_⟩
    have e : (Ho.both a b).fits ns = (a.fits (ns.take a.sz) && b.fits (ns.drop a.sz)) := rfl
    rw [e] at q
    walk_at "zw"
    cases ha : a.fits (ns.take a.sz) with
    | false =>
      rw [ha] at q
      exact q
    | true =>
      rw [ha] at q
      walk_at "zw"
      refine ⟨_, at2, ?_⟩
      walk_at "zw"
      rw [cut_hi, ← List.map_drop]
      exact ⟨b, ns.drop a.sz, rfl, by omega, by omega, ok.2, q⟩
  | ruled r b =>
    have hd' : b.dep + 1 < n + 1 := hd
    have e : (Ho.ruled r b).fits ns = (r.fit ns && b.fits (ns.drop r.k)) := rfl
    rw [e] at q
    walk_at "zw"
    refine ⟨_, at0, ?_⟩
    walk_at "zw"
    refine ⟨trivial, ?_⟩
    walk_at "zw"
    refine ⟨_, at0, ?_⟩
    walk_at "zw"
    refine ⟨trivial, ?_⟩
    walk_at "zw"
    refine ⟨_, at1, ?_⟩
    walk_at "zw"
    refine ⟨_, at1, ?_⟩
    walk_at "zw"
    refine ⟨_, at1, ?_⟩
    walk_at "zw"
    refine ⟨_, at0, ?_⟩
    walk_at "zw"
    refine ⟨trivial, ?_⟩
    rcases ok.1.w with ⟨hm, m, hr, m0, m1⟩ | hm
    · obtain ⟨w, k, rr⟩ := r
      obtain rfl : w = "marks" := hm
      obtain rfl : rr = [.int m] := hr
      have ef : Rl.fit ⟨"marks", k, [.int m]⟩ ns = (ns.take k).all (mkB m) := rfl
      rw [ef] at q
      walk_at "zw"
      rw [cut_lo, ← List.map_take]
      refine lcW_om (e := PyData.int) (fun x => PyData.bool (mkB m x)) (l := ns.take k) (fun x hx Q1 q1 => ?_) ?_
      · walk_at "zw"
        have e : mkB m x = (decide (-1 < x) && decide (x < (m : Int))) := by
          unfold mkB
          rw [show decide (0 ≤ x) = decide (-1 < x) from decide_eq_decide.mpr (by omega)]
        rw [e] at q1
        split
        · rename_i h0
          have h0 : decide (-1 < x) = true := h0
          rw [h0] at q1
          walk_at "zw"
          refine ⟨_, at1, ?_⟩
          walk_at "zw"
          refine ⟨_, at2, ?_⟩
          exact q1
        · rename_i h0
          have h0 : decide (-1 < x) = false := h0
          rw [h0] at q1
          exact q1
      · walk_at "zw"
        refine ⟨_, bools_of (mkB m) (ns.take k), ?_⟩
        rw [all_map]
        cases hf : (ns.take k).all (mkB m) with
        | false =>
          rw [hf] at q
          exact q
        | true =>
          rw [hf] at q
          walk_at "zw"
          refine ⟨_, at2, ?_⟩
          walk_at "zw"
          rw [cut_hi, ← List.map_drop]
          exact ⟨b, ns.drop k, rfl, by omega, by omega, ok.2, q⟩
    · have hn : r.w ≠ "marks" := fun e => by rw [e] at hm; exact absurd hm (by decide +kernel)
      rw [fit_no hn] at q
      rw [eqW hn]
      walk_at "zw"
      refine ⟨_, at2, ?_⟩
      walk_at "zw"
      rw [cut_hi, ← List.map_drop]
      exact ⟨b, ns.drop r.k, rfl, by omega, by omega, ok.2, q⟩
end K04
/-! C04c -/
set_option maxRecDepth 100000
namespace K04
open PySem PySem.Spec PyProof.Rows L2 Z
/-! rows, answers -/
def whole : PyData → Bool
  | .int _ => true
  | _ => false
def ctWhole : Ct := fun zs c Q => ∃ d, zs = [.d d] ∧ Q (.d (.bool (whole d))) c
theorem w_whole {Q : KZ} {c : Nat} {d : PyData} (q : Q (.d (.bool (whole d))) c) : wSs (ctF [] []) Gn ir_is_whole [some (.d d)] c (iniR Q) := by
  cases d <;> exact q
theorem w_law_whole {Q : KZ} {c : Nat} {d : PyData} (q : Q (.d (.bool (whole d))) c) : wSs (ctF [] []) Gn ir_law_whole [some (.d d)] c (iniR Q) := by
  cases d <;> exact q
def toI : PyData → Int
  | .int i => i
  | _ => 0
def rowDue (h : Ho) : PyData → Bool
  | .tuple xs => decide (xs.length = h.sz) && (xs.all whole && h.fits (xs.map toI))
  | _ => false
theorem whole_all : ∀ {xs : List PyData}, xs.all whole = true → xs = (xs.map toI).map .int
  | [], _ => rfl
  | x :: xs, h => by
    rw [List.all_cons, Bool.and_eq_true] at h
    rw [List.map_cons, List.map_cons, ← whole_all h.2]
    cases x <;> first | rfl | (cases h.1)
def ctRow : Ct := fun zs c Q => ∃ (h : Ho) (d : PyData), zs = [.d h.d, .d d] ∧ h.dep < 4 ∧ h.ok ∧ Q (.d (.bool (rowDue h d))) c
theorem bools_w (xs : List PyData) : bools? (xs.map fun x => PyData.bool (whole x)) = some (xs.map whole) := by
  have := bools_map (xs.map whole)
  rwa [List.map_map] at this
theorem all_w (xs : List PyData) : (xs.map whole).all id = xs.all whole := by
  induction xs with
  | nil => rfl
  | cons x l ih => rw [List.map_cons, List.all_cons, List.all_cons, ih]; rfl
theorem w_is_row {Q : KZ} {c : Nat} {h : Ho} {d : PyData} (hd : h.dep < 4) (ok : h.ok) (q : Q (.d (.bool (rowDue h d))) c) :
    wSs (ctF [ctFits 4, ctSize 4, ctWhole] []) Gn ir_is_row [some (.d h.d), some (.d d), none] c (iniR Q) := by
  cases d with
  | tuple xs =>
    walk_at "zw"
    refine ⟨h, rfl, hd, ok, ?_⟩
    walk_at "zw"
    refine ⟨⟨sh_int _, sh_int _⟩, ?_⟩
    rw [eqv_int]
    by_cases hl : xs.length = h.sz
    · have e : decide ((xs.length : Int) = (h.sz : Int)) = true := decide_eq_true (by omega)
      rw [e]
      have er : rowDue h (.tuple xs) = (xs.all whole && h.fits (xs.map toI)) := by
        show (decide (xs.length = h.sz) && (xs.all whole && h.fits (xs.map toI))) = _
        rw [decide_eq_true hl, Bool.true_and]
      rw [er] at q
      walk_at "zw"
      refine lcW_map (fun d => .bool (whole d)) (fun d hd Q1 q1 => ?_) ?_
      · walk_at "zw"
        exact ⟨d, rfl, q1⟩
      · walk_at "zw"
        refine ⟨_, bools_w xs, ?_⟩
        rw [all_w]
        cases ha : xs.all whole with
        | false =>
          rw [ha] at q
          exact q
        | true =>
          rw [ha] at q
          walk_at "zw"
          exact ⟨h, xs.map toI, by rw [← whole_all ha], hd, by decide, ok, q⟩
    · have e : decide ((xs.length : Int) = (h.sz : Int)) = false := decide_eq_false (by omega)
      rw [e]
      have er : rowDue h (.tuple xs) = false := by
        show (decide (xs.length = h.sz) && (xs.all whole && h.fits (xs.map toI))) = _
        rw [decide_eq_false hl, Bool.false_and]
      rw [er] at q
      exact q
  | _ => exact q
theorem w_law_row_due {Q : KZ} {c : Nat} {h : Ho} {d : PyData} (hd : h.dep < 4) (ok : h.ok) (q : Q (.d (.bool (rowDue h d))) c) :
    wSs (ctF [ctFits 4, ctSize 4, ctWhole] []) Gn ir_law_row_due [some (.d h.d), some (.d d), none] c (iniR Q) := by
  cases d with
  | tuple xs =>
    walk_at "zw"
    refine ⟨h, rfl, hd, ok, ?_⟩
    walk_at "zw"
    refine ⟨⟨sh_int _, sh_int _⟩, ?_⟩
    rw [eqv_int]
    by_cases hl : xs.length = h.sz
    · have e : decide ((xs.length : Int) = (h.sz : Int)) = true := decide_eq_true (by omega)
      rw [e]
      have er : rowDue h (.tuple xs) = (xs.all whole && h.fits (xs.map toI)) := by
        show (decide (xs.length = h.sz) && (xs.all whole && h.fits (xs.map toI))) = _
        rw [decide_eq_true hl, Bool.true_and]
      rw [er] at q
      walk_at "zw"
      refine lcW_map (fun d => .bool (whole d)) (fun d hd Q1 q1 => ?_) ?_
      · walk_at "zw"
        exact ⟨d, rfl, q1⟩
      · walk_at "zw"
        refine ⟨_, bools_w xs, ?_⟩
        rw [all_w]
        cases ha : xs.all whole with
        | false =>
          rw [ha] at q
          exact q
        | true =>
          rw [ha] at q
          walk_at "zw"
          exact ⟨h, xs.map toI, by rw [← whole_all ha], hd, by decide, ok, q⟩
    · have e : decide ((xs.length : Int) = (h.sz : Int)) = false := decide_eq_false (by omega)
      rw [e]
      have er : rowDue h (.tuple xs) = false := by
        show (decide (xs.length = h.sz) && (xs.all whole && h.fits (xs.map toI))) = _
        rw [decide_eq_false hl, Bool.false_and]
      rw [er] at q
      exact q
  | _ => exact q
def ansDue : Ho → PyData → Bool
  | .plain _ _ _, d => whole d
  | .ruled _ b, d => ansDue b d
  | .both a b, .tuple [x, y] => ansDue a x && ansDue b y
  | .both _ _, _ => false
def ctAns (n : Nat) : Ct := fun zs c Q => ∃ (h : Ho) (d : PyData), zs = [.d h.d, .d d] ∧ h.dep < n ∧ h.ok ∧ Q (.d (.bool (ansDue h d))) c
theorem ans_both {a b : Ho} {d : PyData} (h : ∀ x y, d ≠ .tuple [x, y]) : ansDue (.both a b) d = false := by
  cases d with
  | tuple xs =>
    match xs, h with
    | [], _ => rfl
    | [x], _ => rfl
    | [x, y], h => exact absurd rfl (h x y)
    | _ :: _ :: _ :: _, _ => rfl
  | _ => rfl
theorem w_is_answer {Q : KZ} {c n : Nat} {h : Ho} {d : PyData} (hd : h.dep < n + 1) (ok : h.ok) (q : Q (.d (.bool (ansDue h d))) c) :
    wSs (ctF [ctAns n, ctWhole] []) Gn ir_is_answer [some (.d h.d), some (.d d), none] c (iniR Q) := by
  cases h with
  | plain w k r =>
    have hw := w_ne w ok.1
    walk_at "zw"
    refine ⟨_, at0, ?_⟩
    walk_at "zw"
    refine ⟨trivial, ?_⟩
    rw [eqW hw.2.1]
    walk_at "zw"
    refine ⟨trivial, ?_⟩
    rw [eqW hw.1]
    walk_at "zw"
    exact ⟨d, rfl, q⟩
  | ruled r b =>
    have hd' : b.dep + 1 < n + 1 := hd
    walk_at "zw"
    refine ⟨_, at0, ?_⟩
    walk_at "zw"
    refine ⟨trivial, ?_⟩
    walk_at "zw"
    refine ⟨_, at2, ?_⟩
    walk_at "zw"
    exact ⟨b, d, rfl, by omega, ok.2, q⟩
  | both a b =>
    have hd' : max a.dep b.dep + 1 < n + 1 := hd
    walk_at "zw"
    refine ⟨_, at0, ?_⟩
    walk_at "zw"
    refine ⟨trivial, ?_⟩
    walk_at "zw"
    refine ⟨trivial, ?_⟩
    match d, q with
    | .tuple [], q =>
      walk_at "zw"
      refine ⟨⟨sh_int _, sh_int _⟩, ?_⟩
      rw [eqv_int]
      exact q
    | .tuple [x], q =>
      walk_at "zw"
      refine ⟨⟨sh_int _, sh_int _⟩, ?_⟩
      rw [eqv_int]
      exact q
    | .tuple [x, y], q =>
      have e : ansDue (.both a b) (.tuple [x, y]) = (ansDue a x && ansDue b y) := rfl
      rw [e] at q
      walk_at "zw"
      refine ⟨⟨sh_int _, sh_int _⟩, ?_⟩
      rw [eqv_int]
      walk_at "zw"
      refine ⟨_, at1, ?_⟩
      walk_at "zw"
      refine ⟨_, at0, ?_⟩
      walk_at "zw"
      refine ⟨a, x, rfl, by omega, ok.1, ?_⟩
      walk_at "zw"
      cases ha : ansDue a x with
      | false =>
        rw [ha] at q
        exact q
      | true =>
        rw [ha] at q
        walk_at "zw"
        refine ⟨_, at2, ?_⟩
        walk_at "zw"
        refine ⟨_, at1, ?_⟩
        walk_at "zw"
        exact ⟨b, y, rfl, by omega, ok.2, q⟩
    | .tuple (x :: y :: z :: r), q =>
      rw [ans_both (fun _ _ e => by cases e)] at q
      walk_at "zw"
      refine ⟨⟨sh_int _, sh_int _⟩, ?_⟩
      rw [eqv_int, decide_eq_false (by simp only [List.length_cons]; omega)]
      exact q
    | .none, q => exact q
    | .bool _, q => exact q
    | .int _, q => exact q
    | .str _, q => exact q
    | .list _, q => exact q
    | .dict _, q => exact q
theorem w_law_answer_due {Q : KZ} {c n : Nat} {h : Ho} {d : PyData} (hd : h.dep < n + 1) (ok : h.ok) (q : Q (.d (.bool (ansDue h d))) c) :
    wSs (ctF [ctAns n, ctWhole] []) Gn ir_law_answer_due [some (.d h.d), some (.d d)] c (iniR Q) := by
  cases h with
  | plain w k r =>
    have hw := w_ne w ok.1
    walk_at "zw"
    refine ⟨_, at0, ?_⟩
    walk_at "zw"
    refine ⟨trivial, ?_⟩
    rw [eqW hw.2.1]
    walk_at "zw"
    refine ⟨_, at0, ?_⟩
    walk_at "zw"
    refine ⟨trivial, ?_⟩
    rw [eqW hw.1]
    walk_at "zw"
    exact ⟨d, rfl, q⟩
  | ruled r b =>
    have hd' : b.dep + 1 < n + 1 := hd
    walk_at "zw"
    refine ⟨_, at0, ?_⟩
    walk_at "zw"
    refine ⟨trivial, ?_⟩
    walk_at "zw"
    refine ⟨_, at2, ?_⟩
    walk_at "zw"
    exact ⟨b, d, rfl, by omega, ok.2, q⟩
  | both a b =>
    have hd' : max a.dep b.dep + 1 < n + 1 := hd
    walk_at "zw"
    refine ⟨_, at0, ?_⟩
    walk_at "zw"
    refine ⟨trivial, ?_⟩
    walk_at "zw"
    refine ⟨_, at0, ?_⟩
    walk_at "zw"
    refine ⟨trivial, ?_⟩
    match d, q with
    | .tuple [], q =>
      walk_at "zw"
      refine ⟨⟨sh_int _, sh_int _⟩, ?_⟩
      rw [eqv_int]
      exact q
    | .tuple [x], q =>
      walk_at "zw"
      refine ⟨⟨sh_int _, sh_int _⟩, ?_⟩
      rw [eqv_int]
      exact q
    | .tuple [x, y], q =>
      have e : ansDue (.both a b) (.tuple [x, y]) = (ansDue a x && ansDue b y) := rfl
      rw [e] at q
      walk_at "zw"
      refine ⟨⟨sh_int _, sh_int _⟩, ?_⟩
      rw [eqv_int]
      walk_at "zw"
      refine ⟨_, at1, ?_⟩
      walk_at "zw"
      refine ⟨_, at0, ?_⟩
      walk_at "zw"
      refine ⟨a, x, rfl, by omega, ok.1, ?_⟩
      walk_at "zw"
      cases ha : ansDue a x with
      | false =>
        rw [ha] at q
        exact q
      | true =>
        rw [ha] at q
        walk_at "zw"
        refine ⟨_, at2, ?_⟩
        walk_at "zw"
        refine ⟨_, at1, ?_⟩
        walk_at "zw"
        exact ⟨b, y, rfl, by omega, ok.2, q⟩
    | .tuple (x :: y :: z :: r), q =>
      rw [ans_both (fun _ _ e => by cases e)] at q
      walk_at "zw"
      refine ⟨⟨sh_int _, sh_int _⟩, ?_⟩
      rw [eqv_int, decide_eq_false (by simp only [List.length_cons]; omega)]
      exact q
    | .none, q => exact q
    | .bool _, q => exact q
    | .int _, q => exact q
    | .str _, q => exact q
    | .list _, q => exact q
    | .dict _, q => exact q
end K04
/-! C04d -/
set_option maxRecDepth 100000
namespace K04
open PySem PySem.Spec PyProof.Rows L2 Z
/-! draws -/
def ctPlain : Ct := fun zs c Q => ∃ room : Int, zs = [.pot, .d (.int room)] ∧ c + 3 < 2 ^ 60 ∧ ∀ (h : Ho) c', h.ok → h.dep = 0 → c ≤ c' → c' ≤ c + 3 → Q (.d h.d) c'
theorem whole_int {x : PyData} (h : whole x = true) : ∃ i : Int, x = .int i := by
  cases x <;> first | exact ⟨_, rfl⟩ | cases h
theorem ex_int {T : List PyData} {i : Int} {P : PyData → Prop} (hT : T.all whole = true) (h0 : 0 ≤ i) (h1 : i < (T.length : Nat)) (h : ∀ j : Int, P (.int j)) : ∃ v, atI T i = some v ∧ P v := by
  obtain ⟨v, ev, hv⟩ := atI_mem h0 h1
  obtain ⟨j, rfl⟩ := whole_int (List.all_eq_true.mp hT v hv)
  exact ⟨_, ev, h j⟩
theorem w_plain {Q : KZ} {c : Nat} {room : Int} (hc : c + 3 < 2 ^ 60) (q : ∀ (h : Ho) c', h.ok → h.dep = 0 → c ≤ c' → c' ≤ c + 3 → Q (.d h.d) c') :
    wSs (ctF [ctOf, ctTake] []) Gn ir_law_plain [some .pot, some (.d (.int room)), none, none] c (iniR Q) := by
  have q2 : ∀ w ∈ words, ∀ (k : Nat) c', k < 6 → c ≤ c' → c' ≤ c + 3 → Q (.d (.tuple [.str w, .int (1 + (k : Int))])) c' := fun w hw k c' hk h1 h2 => by
    have := q (.plain w (1 + k) []) c' ⟨hw, by omega, by omega, by decide⟩ rfl h1 h2
    have e : Ho.d (.plain w (1 + k) []) = .tuple [.str w, .int (1 + (k : Int))] := by
      show PyData.tuple [.str w, .int ((1 + k : Nat) : Int)] = _
      rw [Int.natCast_add]
      rfl
    rw [e] at this
    exact this
  have q3 : ∀ (i : Int) (k : Nat) c', k < 6 → c ≤ c' → c' ≤ c + 3 → Q (.d (.tuple [.str "adders", .int (1 + (k : Int)), .int i])) c' := fun i k c' hk h1 h2 => by
    have := q (.plain "adders" (1 + k) [.int i]) c' ⟨by decide +kernel, by omega, by omega, by show 1 ≤ 1; decide⟩ rfl h1 h2
    have e : Ho.d (.plain "adders" (1 + k) [.int i]) = .tuple [.str "adders", .int (1 + (k : Int)), .int i] := by
      show PyData.tuple [.str "adders", .int ((1 + k : Nat) : Int), .int i] = _
      rw [Int.natCast_add]
      rfl
    rw [e] at this
    exact this
  have qb := q2 "bearers" (by decide +kernel)
  walk_at "zw"
  refine ⟨by rw [sizeLine_eq]; decide, ?_⟩
  walk_at "zw"
  refine ⟨_, rfl, by decide, by decide, by omega, fun x c1 hx c10 c11 => ?_⟩
  simp only [List.mem_cons, List.not_mem_nil, or_false] at hx
  rcases hx with rfl | rfl | rfl | rfl | rfl | rfl | rfl
  all_goals
    walk_at "zw"
    refine ⟨rfl, by decide +kernel, ?_⟩
    walk_at "zw"
    refine ⟨trivial, ?_⟩
    walk_at "zw"
    refine ⟨_, rfl, ?_⟩
    walk_at "zw"
    refine ⟨_, rfl, by decide, by decide, by omega, fun k c2 k0 k1 c20 c21 => ?_⟩
    obtain ⟨k, rfl⟩ := Int.eq_ofNat_of_zero_le k0
    have k6 : k < 6 := by omega
    walk_at "zw"
    refine ⟨by rw [sizeLine_eq]; decide, ?_⟩
    walk_at "zw"
    refine ⟨by rw [sizeLine_eq]; decide, ?_⟩
    walk_at "zw"
    refine ⟨rfl, by decide +kernel, ?_⟩
    walk_at "zw"
    refine ⟨trivial, ?_⟩
    walk_at "zw"
    refine ⟨by rw [sizeLine_eq]; decide, ?_⟩
    walk_at "zw"
    refine ⟨⟨by simp, by decide, by decide, by decide⟩, ?_⟩
    walk_at "zw"
    refine ⟨_, rfl, ?_⟩
    walk_at "zw"
    refine ex_int rfl (by omega) (by first | (simp only [List.length_cons, List.length_nil]; omega) | (show _ < ((6 : Nat) : Int); omega)) fun j => ?_
    walk_at "zw"
    split
    · walk_at "zw"
      refine ⟨trivial, ?_⟩
      walk_at "zw"
      refine ⟨by rw [sizeLine_eq]; show 2 ≤ 16777216; decide, ?_⟩
      walk_at "zw"
      exact qb k c2 k6 (by omega) (by omega)
    · walk_at "zw"
      refine ⟨trivial, ?_⟩
      walk_at "zw"
      first
      | refine ⟨by rw [sizeLine_eq]; show 2 ≤ 16777216; decide, ?_⟩
        walk_at "zw"
        exact q2 _ (by decide +kernel) k c2 k6 (by omega) (by omega)
      | refine ⟨6, rfl, by decide, by decide, by omega, fun i c3 i0 i1 c30 c31 => ?_⟩
        walk_at "zw"
        refine ⟨by rw [sizeLine_eq]; show 3 ≤ 16777216; decide, ?_⟩
        walk_at "zw"
        exact q3 _ k c3 k6 (by omega) (by omega)
end K04
/-! C04e -/
set_option maxRecDepth 100000
namespace K04
open PySem PySem.Spec PyProof.Rows L2 Z
def hc : Nat → Nat
  | 0 => 0
  | n + 1 => 2 * hc n + 8
def ctHouse (n : Nat) : Ct := fun zs c Q => ∃ (deep room : Int), zs = [.pot, .d (.int deep), .d (.int room)] ∧ 1 ≤ deep ∧ deep ≤ n ∧ n ≤ 4 ∧ c + hc n < 2 ^ 60 ∧ ∀ (h : Ho) c', h.ok → (h.dep : Int) < deep → c ≤ c' → c' ≤ c + hc n → Q (.d h.d) c'
def rulers : List (Rl × Int) := [(⟨"marks", 1, [.int 2]⟩, 2), (⟨"likes", 2, []⟩, 2), (⟨"ranks", 2, []⟩, 3), (⟨"marks", 2, [.int 2]⟩, 4), (⟨"likes", 3, []⟩, 5), (⟨"marks", 1, [.int 4]⟩, 4), (⟨"ranks", 3, []⟩, 13)]
theorem rulers_ok : ∀ p ∈ rulers, p.1.ok ∧ 0 < p.2 ∧ p.2 < 2 ^ 60 := fun p h => by
  simp only [rulers, List.mem_cons, List.not_mem_nil, or_false] at h
  rcases h with rfl | rfl | rfl | rfl | rfl | rfl | rfl
  · exact ⟨⟨by decide, by decide, .inl ⟨rfl, 2, rfl, by decide, by decide⟩⟩, by decide, by decide⟩
  · exact ⟨⟨by decide, by decide, .inr (.inl rfl)⟩, by decide, by decide⟩
  · exact ⟨⟨by decide, by decide, .inr (.inr rfl)⟩, by decide, by decide⟩
  · exact ⟨⟨by decide, by decide, .inl ⟨rfl, 2, rfl, by decide, by decide⟩⟩, by decide, by decide⟩
  · exact ⟨⟨by decide, by decide, .inr (.inl rfl)⟩, by decide, by decide⟩
  · exact ⟨⟨by decide, by decide, .inl ⟨rfl, 4, rfl, by decide, by decide⟩⟩, by decide, by decide⟩
  · exact ⟨⟨by decide, by decide, .inr (.inr rfl)⟩, by decide, by decide⟩
theorem rulers_at {i : Int} (h0 : 0 ≤ i) (h1 : i < 7) : ∃ p ∈ rulers, atI (rulers.map fun p => p.1.d) i = some p.1.d ∧ atI (rulers.map fun p => PyData.int p.2) i = some (.int p.2) := by
  obtain ⟨m, rfl⟩ := Int.eq_ofNat_of_zero_le h0
  have hm : m < rulers.length := by show m < 7; omega
  exact ⟨rulers[m], List.getElem_mem hm, atI_nat (j := m) (by rw [List.getElem?_map, List.getElem?_eq_getElem hm]; rfl), atI_nat (j := m) (by rw [List.getElem?_map, List.getElem?_eq_getElem hm]; rfl)⟩
theorem w_house {Q : KZ} {c n : Nat} {deep room : Int} (d0 : 1 ≤ deep) (d1 : deep ≤ (n + 1 : Nat)) (n4 : n + 1 ≤ 4) (hc' : c + hc (n + 1) < 2 ^ 60) (q : ∀ (h : Ho) c', h.ok → (h.dep : Int) < deep → c ≤ c' → c' ≤ c + hc (n + 1) → Q (.d h.d) c') :
    wSs (ctF [ctTake, ctPlain, ctHouse n] []) Gn ir_law_house [some .pot, some (.d (.int deep)), some (.d (.int room)), none, none, none, none] c (iniR Q) := by
  have e : hc (n + 1) = 2 * hc n + 8 := rfl
  rw [e] at hc' q
  have qp : ∀ c1, c ≤ c1 → c1 ≤ c + 3 → ∀ (h : Ho) c', h.ok → h.dep = 0 → c1 ≤ c' → c' ≤ c1 + 3 → Q (.d h.d) c' := fun c1 h1 h2 h c' ok hd h3 h4 => q h c' ok (by rw [hd]; show (0 : Int) < deep; omega) (by omega) (by omega)
  walk_at "zw"
  split
  · rename_i hd
    have hd := of_decide_eq_true hd
    walk_at "zw"
    split
    · walk_at "zw"
      refine ⟨5, rfl, by decide, by decide, by omega, fun way c1 w0 w1 c10 c11 => ?_⟩
      walk_at "zw"
      split
      · walk_at "zw"
        exact ⟨room, rfl, by omega, qp c1 (by omega) (by omega)⟩
      · walk_at "zw"
        walk_at "zI"
        · walk_at "zw"
          refine ⟨cdiv_ok (by decide) (by decide), ?_⟩
          walk_at "zw"
          refine ⟨deep - 1, room / 2, rfl, by omega, by omega, by omega, by omega, fun a c2 oka da c20 c21 => ?_⟩
          walk_at "zw"
          refine ⟨cdiv_ok (by decide) (by decide), ?_⟩
          walk_at "zw"
          refine ⟨deep - 1, room / 2, rfl, by omega, by omega, by omega, by omega, fun b c3 okb db c30 c31 => ?_⟩
          walk_at "zw"
          refine ⟨by rw [sizeLine_eq]; show 3 ≤ 16777216; decide, ?_⟩
          walk_at "zw"
          exact q (.both a b) c3 ⟨oka, okb⟩ (by show ((max a.dep b.dep + 1 : Nat) : Int) < deep; omega) (by omega) (by omega)
        · walk_at "zw"
          refine ⟨by rw [sizeLine_eq]; decide, ?_⟩
          walk_at "zw"
          refine ⟨by rw [sizeLine_eq]; decide, ?_⟩
          walk_at "zw"
          refine ⟨by rw [sizeLine_eq]; decide, ?_⟩
          walk_at "zw"
          refine ⟨by rw [sizeLine_eq]; decide, ?_⟩
          walk_at "zw"
          refine ⟨by rw [sizeLine_eq]; decide, ?_⟩
          walk_at "zw"
          refine ⟨by rw [sizeLine_eq]; decide, ?_⟩
          walk_at "zw"
          refine ⟨by rw [sizeLine_eq]; decide, ?_⟩
          walk_at "zw"
          refine ⟨by rw [sizeLine_eq]; decide, ?_⟩
          walk_at "zw"
          refine ⟨by rw [sizeLine_eq]; decide, ?_⟩
          walk_at "zw"
          refine ⟨by rw [sizeLine_eq]; decide, ?_⟩
          walk_at "zw"
          refine ⟨by rw [sizeLine_eq]; decide, ?_⟩
          walk_at "zw"
          refine ⟨7, rfl, by decide, by decide, by omega, fun i c2 i0 i1 c20 c21 => ?_⟩
          obtain ⟨⟨r, m⟩, hp, e1, e2⟩ := rulers_at i0 i1
          obtain ⟨rok, m0, m1⟩ := rulers_ok _ hp
          walk_at "zw"
          refine ⟨_, e2, ?_⟩
          walk_at "zw"
          split
          · walk_at "zw"
            exact ⟨room, rfl, by omega, qp c2 (by omega) (by omega)⟩
          · walk_at "zw"
            refine ⟨_, e1, ?_⟩
            walk_at "zw"
            refine ⟨_, e2, ?_⟩
            walk_at "zw"
            refine ⟨cdiv_ok m0 (by show m < 2 ^ 64; have : m < 2 ^ 60 := m1; omega), ?_⟩
            walk_at "zw"
            refine ⟨deep - 1, room / m, rfl, by omega, by omega, by omega, by omega, fun b c3 okb db c30 c31 => ?_⟩
            walk_at "zw"
            refine ⟨by rw [sizeLine_eq]; show 3 ≤ 16777216; decide, ?_⟩
            walk_at "zw"
            exact q (.ruled r b) c3 ⟨rok, okb⟩ (by show ((b.dep + 1 : Nat) : Int) < deep; omega) (by omega) (by omega)
    · walk_at "zw"
      exact ⟨room, rfl, by omega, qp c (by omega) (by omega)⟩
  · walk_at "zw"
    exact ⟨room, rfl, by omega, qp c (by omega) (by omega)⟩
end K04
/-! C04f -/
set_option maxRecDepth 100000
namespace K04
open PySem PySem.Spec PyProof.Rows L2 Z
def rc : Nat → Nat
  | 0 => 0
  | n + 1 => 2 * rc n + 16
def ctRowD (n : Nat) : Ct := fun zs c Q => ∃ h : Ho, zs = [.pot, .d h.d] ∧ h.dep < n ∧ n ≤ 4 ∧ h.ok ∧ c + rc n < 2 ^ 60 ∧ ∀ (ns : List Int) c', ns.length = h.sz → c ≤ c' → c' ≤ c + rc n → Q (.d (.tuple (ns.map .int))) c'
def IsI (x : PyData) : Prop := ∃ i : Int, x = .int i
theorem all_ints : ∀ {xs : List PyData}, (∀ x ∈ xs, IsI x) → ∃ ns : List Int, xs = ns.map .int ∧ ns.length = xs.length
  | [], _ => ⟨[], rfl, rfl⟩
  | x :: xs, h => by
    obtain ⟨i, rfl⟩ := h x (by simp)
    obtain ⟨ns, rfl, e⟩ := all_ints (xs := xs) fun y hy => h y (by simp [hy])
    exact ⟨i :: ns, rfl, by simp⟩
theorem rng_int {a b : Int} : ∀ x ∈ rangeD a b, IsI x := fun x h => by
  unfold rangeD at h
  obtain ⟨i, hi, rfl⟩ := List.mem_map.mp h
  exact ⟨_, rfl⟩
theorem pow10 (k : Int) (h0 : 0 ≤ k) (h1 : k ≤ 10000) : 0 ≤ k ∧ k ≤ 10000 ∧ Int.natAbs 10 < 2 ^ 10000 := ⟨h0, h1, Nat.lt_of_lt_of_le (show 10 < 2 ^ 10 by decide) (Nat.pow_le_pow_right (by decide) (by decide))⟩
theorem w_row {Q : KZ} {c n : Nat} {h : Ho} (hd : h.dep < n + 1) (n4 : n + 1 ≤ 4) (ok : h.ok) (hc' : c + rc (n + 1) < 2 ^ 60) (q : ∀ (ns : List Int) c', ns.length = h.sz → c ≤ c' → c' ≤ c + rc (n + 1) → Q (.d (.tuple (ns.map .int))) c') :
    wSs (ctF [ctOf, ctRowD n, ctTake] []) Gn ir_law_row [some .pot, some (.d h.d), none, none, none] c (iniR Q) := by
  have e : rc (n + 1) = 2 * rc n + 16 := rfl
  rw [e] at hc' q
  have sl : sizeLine = 16777216 := sizeLine_eq
  have sm := sz_small ok (by omega)
  cases h with
  | plain w k r =>
    have hw := w_ne w ok.1
    have k6 := ok.2.2.1
    have k1 := ok.2.1
    walk_at "zw"
    refine ⟨_, at0, ?_⟩
    walk_at "zw"
    refine ⟨trivial, ?_⟩
    rw [eqW hw.1]
    walk_at "zw"
    refine ⟨_, at0, ?_⟩
    walk_at "zw"
    refine ⟨trivial, ?_⟩
    rw [eqW hw.2.1]
    walk_at "zw"
    refine ⟨5, rfl, by decide, by decide, by omega, fun t c1 t0 t1 c10 c11 => ?_⟩
    walk_at "zw"
    refine ⟨by omega, by omega, ?_⟩
    refine lcW_all IsI 1 (c1 + 5) (by rw [rangeD_len]; omega) (fun d hd c2 Q1 hc2 q1 => ?_) (fun xs c2 hl ha h1 h2 => ?_)
    · walk_at "zw"
      refine ⟨pow10 39 (by decide) (by decide), ?_⟩
      walk_at "zw"
      refine ⟨pow10 38 (by decide) (by decide), ?_⟩
      walk_at "zw"
      refine ⟨by rw [sl]; show 8 ≤ 16777216; decide, ?_⟩
      walk_at "zw"
      refine ⟨_, rfl, by simp, by show 8 < 2 ^ 50; decide, by omega, fun x c3 hx c30 c31 => ?_⟩
      refine q1 x c3 ?_ (by omega) (by omega)
      simp only [List.mem_cons, List.not_mem_nil, or_false] at hx
      rcases hx with rfl | rfl | rfl | rfl | rfl | rfl | rfl | rfl <;> exact ⟨_, rfl⟩
    · rw [rangeD_len] at hl h2
      obtain ⟨ns, rfl, el⟩ := all_ints ha
      have n0 : ns.map PyData.int ≠ [] := fun e => by
        have : (ns.map PyData.int).length = 0 := by rw [e]; rfl
        rw [List.length_map] at this hl
        omega
      rw [List.length_map] at hl
      walk_at "zw"
      refine ⟨_, at1, ?_⟩
      walk_at "zw"
      refine ⟨by omega, by omega, ?_⟩
      refine lcW_all IsI 1 (c2 + 6) (by rw [rangeD_len]; omega) (fun d hd c3 Q1 hc3 q1 => ?_) (fun xs c3 hl2 ha2 h3 h4 => ?_)
      · walk_at "zw"
        refine ⟨_, rfl, n0, by rw [List.length_map]; omega, by omega, fun x c4 hx c40 c41 => ?_⟩
        exact q1 x c4 (ha x hx) (by omega) (by omega)
      · rw [rangeD_len] at hl2 h4
        obtain ⟨ms, rfl, em⟩ := all_ints ha2
        walk_at "zw"
        exact q ms c3 (by rw [em, hl2]; show _ = k; omega) (by omega) (by omega)
  | both a b =>
    have hd' : max a.dep b.dep + 1 < n + 1 := hd
    have sm' : 1 ≤ a.sz + b.sz ∧ a.sz + b.sz ≤ 48 := sm
    walk_at "zw"
    refine ⟨_, at0, ?_⟩
    walk_at "zw"
    refine ⟨trivial, ?_⟩
    walk_at "zw"
    refine ⟨_, at1, ?_⟩
    walk_at "zw"
    refine ⟨a, rfl, by omega, by omega, ok.1, by omega, fun xs c1 hx c10 c11 => ?_⟩
    walk_at "zw"
    refine ⟨_, at2, ?_⟩
    walk_at "zw"
    refine ⟨b, rfl, by omega, by omega, ok.2, by omega, fun ys c2 hy c20 c21 => ?_⟩
    walk_at "zw"
    rw [← List.map_append]
    exact ⟨by rw [List.length_map, List.length_map]; omega, q (xs ++ ys) c2 (by rw [List.length_append, hx, hy]; rfl) (by omega) (by omega)⟩
  | ruled r b =>
    have hd' : b.dep + 1 < n + 1 := hd
    have sm' : 1 ≤ r.k + b.sz ∧ r.k + b.sz ≤ 48 := sm
    have k3 := ok.1.k1
    walk_at "zw"
    refine ⟨_, at0, ?_⟩
    walk_at "zw"
    refine ⟨trivial, ?_⟩
    walk_at "zw"
    refine ⟨_, at0, ?_⟩
    walk_at "zw"
    refine ⟨trivial, ?_⟩
    walk_at "zw"
    refine ⟨_, at1, ?_⟩
    walk_at "zw"
    refine ⟨_, at0, ?_⟩
    walk_at "zw"
    refine ⟨trivial, ?_⟩
    have fin : ∀ L : List PyData, (∀ x ∈ L, IsI x) → L ≠ [] → L.length < 2 ^ 50 → wSs (ctF [ctOf, ctRowD n, ctTake] []) Gn [.ret (.bin .Add (.blt .tuple [(.lc [4] (.n 4) (.blt .range [(.ix (.ix (.var 1) (.int (1))) (.int (1)))]) none (.call 0 [(.var 0), (.var 3)]))]) (.call 1 [(.var 0), (.ix (.var 1) (.int (2)))]))] [some .pot, some (.d (Ho.ruled r b).d), none, some (.d (.list L)), none] c (iniR Q) := fun L hL hL0 hL1 => by
      walk_at "zw"
      refine ⟨_, at1, ?_⟩
      walk_at "zw"
      refine ⟨_, at1, ?_⟩
      walk_at "zw"
      refine ⟨by omega, by omega, ?_⟩
      refine lcW_all IsI 1 (c + 3) (by rw [rangeD_len]; omega) (fun d hd c3 Q1 hc3 q1 => ?_) (fun xs c3 hl2 ha2 h3 h4 => ?_)
      · walk_at "zw"
        refine ⟨_, rfl, hL0, hL1, by omega, fun x c4 hx c40 c41 => ?_⟩
        exact q1 x c4 (hL x hx) (by omega) (by omega)
      · rw [rangeD_len] at hl2 h4
        obtain ⟨ms, rfl, em⟩ := all_ints ha2
        rw [List.length_map] at hl2
        walk_at "zw"
        refine ⟨_, at2, ?_⟩
        walk_at "zw"
        refine ⟨b, rfl, by omega, by omega, ok.2, by omega, fun ys c4 hy c40 c41 => ?_⟩
        walk_at "zw"
        rw [← List.map_append]
        exact ⟨by rw [List.length_map, List.length_map]; omega, q (ms ++ ys) c4 (by rw [List.length_append, hy]; show _ = r.k + b.sz; omega) (by omega) (by omega)⟩
    rcases ok.1.w with ⟨hm, m, hr, m0, m1⟩ | hm
    · obtain ⟨w, k, rr⟩ := r
      obtain rfl : w = "marks" := hm
      obtain rfl : rr = [.int m] := hr
      walk_at "zw"
      refine ⟨_, at1, ?_⟩
      walk_at "zw"
      refine ⟨_, at2, ?_⟩
      walk_at "zw"
      refine ⟨⟨by omega, by omega⟩, ?_⟩
      exact fin (rangeD 0 m) rng_int (fun e => by
        have : (rangeD 0 (m : Int)).length = 0 := by rw [e]; rfl
        rw [rangeD_len] at this
        omega) (by rw [rangeD_len]; omega)
    · have hn : r.w ≠ "marks" := fun e => by rw [e] at hm; exact absurd hm (by decide +kernel)
      rw [eqW hn]
      walk_at "zw"
      refine ⟨pow10 39 (by decide) (by decide), ?_⟩
      walk_at "zw"
      refine ⟨by rw [sl]; show 4 ≤ 16777216; decide, ?_⟩
      refine fin [.int 3, .int 1, .int (-4), .int ((10 : Int) ^ (Int.toNat 39))] (fun x hx => ?_) (by simp) (by show 4 < 2 ^ 50; decide)
      rcases List.mem_cons.mp hx with rfl | hx
      · exact ⟨_, rfl⟩
      rcases List.mem_cons.mp hx with rfl | hx
      · exact ⟨_, rfl⟩
      rcases List.mem_cons.mp hx with rfl | hx
      · exact ⟨_, rfl⟩
      rcases List.mem_cons.mp hx with rfl | hx
      · exact ⟨_, rfl⟩
      cases hx
end K04
/-! C04g -/
set_option maxRecDepth 100000
namespace K04
open PySem PySem.Spec PyProof.Rows L2 Z
/-! odd things -/
def ctOdd : Ct := fun zs c Q => zs = [.pot] ∧ c + 16 < 2 ^ 60 ∧ ∀ d c', c ≤ c' → c' ≤ c + 16 → Q (.d d) c'
theorem ex_any {T : List PyData} {i : Int} {P : PyData → Prop} (h0 : 0 ≤ i) (h1 : i < (T.length : Nat)) (h : ∀ v ∈ T, P v) : ∃ v, atI T i = some v ∧ P v := by
  obtain ⟨v, ev, hv⟩ := atI_mem h0 h1
  exact ⟨_, ev, h v hv⟩
theorem w_odd {Q : KZ} {c : Nat} (hc : c + 16 < 2 ^ 60) (q : ∀ d c', c ≤ c' → c' ≤ c + 16 → Q (.d d) c') : wSs (ctF [ctTake] []) Gn ir_law_odd [some .pot, none, none, none] c (iniR Q) := by
  have sl : sizeLine = 16777216 := sizeLine_eq
  walk_at "zw"
  refine ⟨by rw [sl]; decide, ?_⟩
  walk_at "zw"
  refine ⟨by rw [sl]; decide, ?_⟩
  walk_at "zw"
  refine ⟨rfl, List.nodup_nil, ?_⟩
  walk_at "zw"
  refine ⟨by rw [sl]; decide, ?_⟩
  walk_at "zw"
  refine ⟨by rw [sl]; decide, ?_⟩
  walk_at "zw"
  refine ⟨by rw [sl]; decide, ?_⟩
  walk_at "zw"
  refine ⟨pow10 39 (by decide) (by decide), ?_⟩
  walk_at "zw"
  refine ⟨by rw [sl]; show 18 ≤ 16777216; decide, ?_⟩
  walk_at "zw"
  refine ⟨18, rfl, by decide, by decide, by omega, fun r c1 r0 r1 c10 c11 => ?_⟩
  walk_at "zw"
  refine ex_any r0 r1 fun d hd => ?_
  walk_at "zw"
  refine ⟨by rw [sl]; decide, ?_⟩
  walk_at "zw"
  refine ⟨5, rfl, by decide, by decide, by omega, fun m c2 m0 m1 c20 c21 => ?_⟩
  walk_at "zw"
  refine ex_any m0 m1 fun n hn => ?_
  have hn' : ∃ k : Nat, n = .int k ∧ k ≤ 14 := by
    simp only [List.mem_cons, List.not_mem_nil, or_false] at hn
    rcases hn with rfl | rfl | rfl | rfl | rfl
    · exact ⟨0, rfl, by decide⟩
    · exact ⟨0, rfl, by decide⟩
    · exact ⟨0, rfl, by decide⟩
    · exact ⟨1, rfl, by decide⟩
    · exact ⟨14, rfl, by decide⟩
  obtain ⟨k, rfl, hk⟩ := hn'
  walk_at "zw"
  refine ⟨by omega, by omega, ?_⟩
  refine forW_inv (fun r Γ c' => ∃ d z1 z3, r.length ≤ 14 ∧ c' + r.length ≤ c2 + 14 ∧ c2 ≤ c' ∧ Γ = [some .pot, z1, some (.d d), z3]) ?_ ?_ ⟨d, _, _, by rw [rangeD_len]; omega, by rw [rangeD_len]; omega, Nat.le_refl _, rfl⟩
  · rintro Γ c' ⟨d, z1, z3, _, hc', hcc, rfl⟩
    rw [List.length_nil] at hc'
    exact q d c' (by omega) (by omega)
  · rintro x r Γ c' kk ⟨d, z1, z3, h15, hc', hcc, rfl⟩ hk
    rw [List.length_cons] at h15 hc'
    walk_at "zw"
    refine ⟨by rw [sl]; show 1 ≤ 16777216; decide, ?_⟩
    walk_at "zw"
    refine ⟨by rw [sl]; show 1 ≤ 16777216; decide, ?_⟩
    walk_at "zw"
    refine ⟨by rw [sl]; show 2 ≤ 16777216; decide, ?_⟩
    walk_at "zw"
    refine ⟨by rw [sl]; show 3 ≤ 16777216; decide, ?_⟩
    walk_at "zw"
    refine ⟨3, rfl, by decide, by decide, by omega, fun t c3 t0 t1 c30 c31 => ?_⟩
    walk_at "zw"
    refine ex_any t0 t1 fun y hy => ?_
    exact hk _ _ ⟨y, _, _, by omega, by omega, by omega, rfl⟩
def ctBent : Ct := fun zs c Q => ∃ ns : List Int, zs = [.pot, .d (.tuple (ns.map .int))] ∧ 1 ≤ ns.length ∧ ns.length ≤ 48 ∧ c + 19 < 2 ^ 60 ∧ ∀ d c', c ≤ c' → c' ≤ c + 19 → Q (.d d) c'
theorem cutD_len (xs : List PyData) (lo hi : Option Int) : (Z.cutD xs lo hi).length ≤ xs.length := by
  unfold Z.cutD
  rw [List.length_take, List.length_drop]
  omega
theorem w_bent {Q : KZ} {c : Nat} {ns : List Int} (l0 : 1 ≤ ns.length) (l1 : ns.length ≤ 48) (hc : c + 19 < 2 ^ 60) (q : ∀ d c', c ≤ c' → c' ≤ c + 19 → Q (.d d) c') :
    wSs (ctF [ctTake, ctOdd] []) Gn ir_law_bent [some .pot, some (.d (.tuple (ns.map .int))), none, none, none] c (iniR Q) := by
  have sl : sizeLine = 16777216 := sizeLine_eq
  generalize hx : ns.map PyData.int = xs
  have lx : xs.length = ns.length := by rw [← hx, List.length_map]
  walk_at "zw"
  refine ⟨6, rfl, by decide, by decide, by omega, fun way c1 w0 w1 c10 c11 => ?_⟩
  walk_at "zw"
  refine ⟨_, rfl, by omega, by omega, by omega, fun at_ c2 a0 a1 c20 c21 => ?_⟩
  walk_at "zw"
  refine ⟨rfl, by omega, fun o c3 c30 c31 => ?_⟩
  have k1 := cutD_len xs none (some at_)
  have k2 := cutD_len xs (some (at_ + 1)) none
  have k3 := cutD_len xs (some at_) none
  have qq : ∀ d, Q (.d d) c3 := fun d => q d c3 (by omega) (by omega)
  walk_at "zw"
  walk_at "zI"
  · walk_at "zw"
    exact ⟨by omega, qq _⟩
  walk_at "zw"
  walk_at "zI"
  · walk_at "zw"
    refine ex_any a0 a1 fun v hv => ?_
    walk_at "zw"
    refine ⟨by rw [sl]; show 1 ≤ 16777216; decide, ?_⟩
    walk_at "zw"
    refine ⟨by simp only [List.length_cons, List.length_nil]; omega, ?_⟩
    walk_at "zw"
    exact ⟨by simp only [List.length_append, List.length_cons, List.length_nil]; omega, qq _⟩
  walk_at "zw"
  walk_at "zI"
  · walk_at "zw"
    walk_at "zI"
    · exact qq _
    · exact qq _
  walk_at "zw"
  refine ⟨by rw [sl]; show 6 ≤ 16777216; decide, ?_⟩
  walk_at "zw"
  refine ⟨6, rfl, by decide, by decide, by omega, fun m c4 m0 m1 c40 c41 => ?_⟩
  walk_at "zw"
  refine ex_any m0 m1 fun v hv => ?_
  walk_at "zw"
  refine ⟨by rw [sl]; show 1 ≤ 16777216; decide, ?_⟩
  walk_at "zw"
  refine ⟨by simp only [List.length_cons, List.length_nil]; omega, ?_⟩
  walk_at "zw"
  exact ⟨by simp only [List.length_append, List.length_cons, List.length_nil]; omega, q _ c4 (by omega) (by omega)⟩
/-! answers drawn -/
def ac : Nat → Nat
  | 0 => 0
  | n + 1 => 2 * ac n + 20
def ctAnsD (n : Nat) : Ct := fun zs c Q => ∃ h : Ho, zs = [.pot, .d h.d] ∧ h.dep < n ∧ n ≤ 4 ∧ h.ok ∧ c + ac n < 2 ^ 60 ∧ ∀ d c', c ≤ c' → c' ≤ c + ac n → Q (.d d) c'
theorem w_answer {Q : KZ} {c n : Nat} {h : Ho} (hd : h.dep < n + 1) (n4 : n + 1 ≤ 4) (ok : h.ok) (hc' : c + ac (n + 1) < 2 ^ 60) (q : ∀ d c', c ≤ c' → c' ≤ c + ac (n + 1) → Q (.d d) c') :
    wSs (ctF [ctTake, ctOdd, ctAnsD n, ctOf] []) Gn ir_law_answer [some .pot, some (.d h.d), none, none] c (iniR Q) := by
  have e : ac (n + 1) = 2 * ac n + 20 := rfl
  rw [e] at hc' q
  have sl : sizeLine = 16777216 := sizeLine_eq
  walk_at "zw"
  refine ⟨9, rfl, by decide, by decide, by omega, fun way c1 w0 w1 c10 c11 => ?_⟩
  walk_at "zw"
  walk_at "zI"
  · walk_at "zw"
    exact ⟨rfl, by omega, fun d c2 c20 c21 => q d c2 (by omega) (by omega)⟩
  rename_i hw0
  have hw0 := of_decide_eq_false hw0
  cases h with
  | plain w k r =>
    have hw := w_ne w ok.1
    walk_at "zw"
    refine ⟨_, at0, ?_⟩
    walk_at "zw"
    refine ⟨trivial, ?_⟩
    rw [eqW hw.2.1]
    walk_at "zw"
    refine ⟨_, at0, ?_⟩
    walk_at "zw"
    refine ⟨trivial, ?_⟩
    rw [eqW hw.1]
    walk_at "zw"
    refine ⟨pow10 39 (by decide) (by decide), ?_⟩
    walk_at "zw"
    refine ⟨by rw [sl]; show 4 ≤ 16777216; decide, ?_⟩
    walk_at "zw"
    exact ⟨_, rfl, by simp, by show 4 < 2 ^ 50; decide, by omega, fun x c2 hx c20 c21 => q x c2 (by omega) (by omega)⟩
  | ruled r b =>
    have hd' : b.dep + 1 < n + 1 := hd
    walk_at "zw"
    refine ⟨_, at0, ?_⟩
    walk_at "zw"
    refine ⟨trivial, ?_⟩
    walk_at "zw"
    refine ⟨_, at2, ?_⟩
    walk_at "zw"
    exact ⟨b, rfl, by omega, by omega, ok.2, by omega, fun x c2 c20 c21 => q x c2 (by omega) (by omega)⟩
  | both a b =>
    have hd' : max a.dep b.dep + 1 < n + 1 := hd
    walk_at "zw"
    refine ⟨_, at0, ?_⟩
    walk_at "zw"
    refine ⟨trivial, ?_⟩
    walk_at "zw"
    refine ⟨_, at0, ?_⟩
    walk_at "zw"
    refine ⟨trivial, ?_⟩
    walk_at "zw"
    refine ⟨_, at1, ?_⟩
    walk_at "zw"
    refine ⟨a, rfl, by omega, by omega, ok.1, by omega, fun x c2 c20 c21 => ?_⟩
    walk_at "zw"
    refine ⟨_, at2, ?_⟩
    walk_at "zw"
    refine ⟨b, rfl, by omega, by omega, ok.2, by omega, fun y c3 c30 c31 => ?_⟩
    walk_at "zw"
    refine ⟨by rw [sl]; show 2 ≤ 16777216; decide, ?_⟩
    walk_at "zw"
    split
    · rename_i h4
      have h4 := of_decide_eq_true h4
      walk_at "zw"
      refine ⟨by rw [sl]; show 1 ≤ 16777216; decide, ?_⟩
      walk_at "zw"
      refine ⟨by rw [sl]; show 3 ≤ 16777216; decide, ?_⟩
      walk_at "zw"
      refine ⟨by rw [sl]; show 3 ≤ 16777216; decide, ?_⟩
      walk_at "zw"
      refine ex_any (by omega) (by show _ < ((3 : Nat) : Int); omega) fun v hv => ?_
      exact q v c3 (by omega) (by omega)
    · exact q _ c3 (by omega) (by omega)
end K04
/-! C04h -/
set_option maxRecDepth 100000
namespace K04
open PySem PySem.Spec PyProof.Rows L2 Z
/-! the law -/
theorem repr_bool (b : Bool) : reprOk (.bool b) = true ∧ (PyData.bool b).showable = true ∧ (PyData.bool b).hasDict = false ∧ (PyData.bool b).depth ≤ 60 ∧ (PyData.bool b).shown.length ≤ sizeLine := by
  cases b
  · exact ⟨rfl, rfl, rfl, by decide, by rw [sizeLine_eq]; decide +kernel⟩
  · exact ⟨rfl, rfl, rfl, by decide, by rw [sizeLine_eq]; decide +kernel⟩
theorem shown_small : ∀ k ∈ List.range 49, (PyData.int (k : Nat)).showable = true ∧ (PyData.int (k : Nat)).shown.length ≤ 16777216 := by decide +kernel
theorem repr_int {k : Nat} (h : k ≤ 48) : reprOk (.int (k : Nat)) = true ∧ (PyData.int (k : Nat)).showable = true ∧ (PyData.int (k : Nat)).hasDict = false ∧ (PyData.int (k : Nat)).depth ≤ 60 ∧ (PyData.int (k : Nat)).shown.length ≤ sizeLine :=
  ⟨rfl, (shown_small k (List.mem_range.mpr (by omega))).1, rfl, by show 0 ≤ 60; decide, by rw [sizeLine_eq]; exact (shown_small k (List.mem_range.mpr (by omega))).2⟩
theorem nsame (s : Str) : (!PyData.eqv (.str s) (.str s)) = false := by rw [eqv_str]; simp
def ctLaw : Ct := fun zs c Q => ∃ ns, zs = [.scr ns] ∧ ns.length ≤ 63 ∧ c = 0 ∧ ∀ c', Q (.d (.bool true)) c'
theorem cut_le (ns : List Int) : (Z.cutD (ns.map PyData.int) none (some 3)).length ≤ 3 := by
  rw [show (some 3 : Option Int) = some ((3 : Nat) : Int) from rfl, cut_lo, List.length_take]
  omega
theorem w_law {Q : KZ} {c : Nat} {ns : List Int} (hl : ns.length ≤ 63) (h0 : c = 0) (q : ∀ c', Q (.d (.bool true)) c') :
    wSs (ctF [ctPot, ctHouse 4, ctRowD 4, ctBent, ctOdd, ctAnsD 4, ctTake, ctSize 4, ctSize 4, ctRow, ctRow, ctAns 4] [kwCt 2 [1, 0] (ctAns 4)]) Gn ir_law [some (.scr ns), none, none, none, none, none, none, none] c (iniR Q) := by
  have h4 : hc 4 = 120 := rfl
  have r4 : rc 4 = 240 := rfl
  have a4 : ac 4 = 300 := rfl
  have sl : sizeLine = 16777216 := sizeLine_eq
  unfold ir_law
  walk_at "z simp"
  have c3 := cut_le ns
  refine ⟨by omega, by omega, ?_⟩
  generalize hm : (Z.cutD (ns.map PyData.int) none (some 3)).length = m at c3
  refine forW_inv (fun r Γ c' => ∃ (z1 z2 z3 z4 z5 z6 z7 : Option Zv), (∀ d ∈ r, ∃ k : Int, d = .int k ∧ 0 ≤ k ∧ k < 2 ^ 20) ∧ r.length ≤ 4 ∧ c' + 20000 * r.length ≤ 80000 ∧ Γ = [some (.scr ns), z1, z2, z3, z4, z5, z6, z7]) ?_ ?_ ⟨none, none, none, none, none, none, none, fun d hd => ?_, by rw [rangeD_len]; omega, by rw [rangeD_len]; omega, rfl⟩
  · rintro Γ c' ⟨z1, z2, z3, z4, z5, z6, z7, _, _, _, rfl⟩
    exact q c'
  · rintro d r Γ c' k ⟨z1, z2, z3, z4, z5, z6, z7, hr, hr4, hc, rfl⟩ hk
    obtain ⟨kk, rfl, k0, k1⟩ := hr d (by simp)
    rw [List.length_cons] at hr4 hc
    walk_at "zw"
    refine ⟨ns, kk, rfl, hl, k0, k1, ?_⟩
    walk_at "zw"
    refine ⟨by decide, by decide, ?_⟩
    refine forW_inv (fun r2 Γ c1 => ∃ (z3 z4 z5 z6 z7 : Option Zv), r2.length ≤ 8 ∧ c1 + 1400 * r2.length ≤ c' + 11200 ∧ Γ = [some (.scr ns), some (.d (.int kk)), some .pot, z3, z4, z5, z6, z7]) ?_ ?_ ⟨_, _, _, _, _, by decide +kernel, by rw [show (rangeD 0 8).length = 8 by decide +kernel]; omega, rfl⟩
    · rintro Γ c1 ⟨z3, z4, z5, z6, z7, _, hc1, rfl⟩
      rw [List.length_nil] at hc1
      exact hk _ _ ⟨_, _, _, _, _, _, _, fun d hd => hr d (by simp [hd]), by omega, by omega, rfl⟩
    · rintro d2 r2 Γ c1 k2 ⟨z3, z4, z5, z6, z7, h8, hc1, rfl⟩ hk2
      rw [List.length_cons] at h8 hc1
      walk_at "zw"
      refine ⟨4, rfl, by decide, by decide, by omega, fun dp c2 dp0 dp1 c20 c21 => ?_⟩
      walk_at "zw"
      refine ⟨1 + dp, 200, rfl, by omega, by omega, by omega, by omega, fun h c3 ok hd c30 c31 => ?_⟩
      have hd : h.dep < 4 := by omega
      have sm := sz_small ok hd
      obtain ⟨b1, b2, b3, b4, b5⟩ := repr_int sm.2
      walk_at "zw"
      refine ⟨h, rfl, hd, ok, ?_⟩
      walk_at "zw"
      refine ⟨b1, b2, b3, b4, b5, ?_⟩
      walk_at "zw"
      refine ⟨h, rfl, hd, ok, ?_⟩
      walk_at "zw"
      refine ⟨b1, b2, b3, b4, b5, ?_⟩
      walk_at "zw"
      refine ⟨trivial, ?_⟩
      rw [nsame]
      walk_at "zw"
      refine ⟨h, rfl, hd, by omega, ok, by omega, fun row c4 hrow c40 c41 => ?_⟩
      walk_at "zw"
      refine ⟨row, rfl, by omega, by omega, by omega, fun p1 c5 c50 c51 => ?_⟩
      walk_at "zw"
      refine ⟨row, rfl, by omega, by omega, by omega, fun p2 c6 c60 c61 => ?_⟩
      walk_at "zw"
      refine ⟨rfl, by omega, fun p3 c7 c70 c71 => ?_⟩
      walk_at "zw"
      refine ⟨by rw [sl]; show 4 ≤ 16777216; decide, ?_⟩
      refine forW_inv (fun r3 Γ c8 => ∃ (z6 z7 : Option Zv), c8 = c7 ∧ Γ = [some (.scr ns), some (.d (.int kk)), some .pot, some (.d d2), some (.d h.d), some (.d (.tuple (row.map .int))), z6, z7]) ?_ ?_ ⟨_, _, rfl, rfl⟩
      · rintro Γ c8 ⟨z6, z7, rfl, rfl⟩
        walk_at "zw"
        refine ⟨by decide, by decide, ?_⟩
        refine forW_inv (fun r3 Γ c9 => ∃ (z6 z7 : Option Zv), r3.length ≤ 3 ∧ c9 + 300 * r3.length ≤ c8 + 900 ∧ Γ = [some (.scr ns), some (.d (.int kk)), some .pot, some (.d d2), some (.d h.d), some (.d (.tuple (row.map .int))), z6, z7]) ?_ ?_ ⟨_, _, by decide +kernel, by rw [show (rangeD 0 3).length = 3 by decide +kernel]; omega, rfl⟩
        · rintro Γ c9 ⟨z6, z7, _, hc9, rfl⟩
          rw [List.length_nil] at hc9
          exact hk2 _ _ ⟨_, _, _, _, _, by omega, by omega, rfl⟩
        · rintro d3 r3 Γ c9 k3 ⟨z6, z7, hr3, hc9, rfl⟩ hk3
          rw [List.length_cons] at hr3 hc9
          walk_at "zw"
          refine ⟨h, rfl, hd, by omega, ok, by omega, fun p c10 c100 c101 => ?_⟩
          obtain ⟨e1, e2, e3, e4, e5⟩ := repr_bool (ansDue h p)
          walk_at "zw"
          refine ⟨rfl, h, p, rfl, hd, ok, ?_⟩
          walk_at "zw"
          refine ⟨e1, e2, e3, e4, e5, ?_⟩
          walk_at "zw"
          refine ⟨h, p, rfl, hd, ok, ?_⟩
          walk_at "zw"
          refine ⟨e1, e2, e3, e4, e5, ?_⟩
          walk_at "zw"
          refine ⟨trivial, ?_⟩
          rw [nsame]
          exact hk3 _ _ ⟨_, _, by omega, by omega, rfl⟩
      · rintro p r3 Γ c8 k3 ⟨z6, z7, rfl, rfl⟩ hk3
        obtain ⟨e1, e2, e3, e4, e5⟩ := repr_bool (rowDue h p)
        walk_at "zw"
        refine ⟨h, p, rfl, hd, ok, ?_⟩
        walk_at "zw"
        refine ⟨e1, e2, e3, e4, e5, ?_⟩
        walk_at "zw"
        refine ⟨h, p, rfl, hd, ok, ?_⟩
        walk_at "zw"
        refine ⟨e1, e2, e3, e4, e5, ?_⟩
        walk_at "zw"
        refine ⟨trivial, ?_⟩
        rw [nsame]
        exact hk3 _ _ ⟨_, _, rfl, rfl⟩
  · unfold rangeD at hd
    obtain ⟨i, hi, rfl⟩ := List.mem_map.mp hd
    have := List.mem_range.mp hi
    exact ⟨_, rfl, by omega, by omega⟩
end K04
/-! E04 -/
set_option maxRecDepth 100000
namespace K04
open PySem PySem.Spec PyProof.Rows L2 Z
theorem h_law_pot : ∀ zs c Q, ctPot zs c Q → zs.length = 2 ∧ wSs (ctF [] []) Gn ir_law_pot (iniG c_law_pot.N zs) c (iniR Q) := fun zs c Q ⟨ns, k, e, hl, h0, h1, q⟩ => by subst e; exact ⟨rfl, pot1_ok hl h0 h1 q⟩
theorem h_law_take : ∀ zs c Q, ctTake zs c Q → zs.length = 2 ∧ wSs (ctF [] []) Gn ir_law_take (iniG c_law_take.N zs) c (iniR Q) := fun zs c Q ⟨n, e, h0, h1, hc, q⟩ => by subst e; exact ⟨rfl, take1_ok h0 h1 hc q⟩
theorem h_law_of : ∀ zs c Q, ctOf zs c Q → zs.length = 2 ∧ wSs (ctF [ctTake] []) Gn ir_law_of (iniG c_law_of.N zs) c (iniR Q) := fun zs c Q ⟨xs, e, h0, h1, hc, q⟩ => by subst e; exact ⟨rfl, of_ok h0 h1 hc q⟩
theorem h_law_plain : ∀ zs c Q, ctPlain zs c Q → zs.length = 2 ∧ wSs (ctF [ctOf, ctTake] []) Gn ir_law_plain (iniG c_law_plain.N zs) c (iniR Q) := fun zs c Q ⟨room, e, hc, q⟩ => by subst e; exact ⟨rfl, w_plain hc q⟩
theorem h_law_house_0 : ∀ zs c Q, ctHouse 0 zs c Q → False := fun zs c Q ⟨deep, room, e, hd, d1, n4, hc, q⟩ => by omega
theorem h_law_house (n : Nat) : ∀ zs c Q, ctHouse (n + 1) zs c Q → zs.length = 3 ∧ wSs (ctF [ctTake, ctPlain, ctHouse n] []) Gn ir_law_house (iniG c_law_house.N zs) c (iniR Q) := fun zs c Q ⟨deep, room, e, d0, d1, n4, hc, q⟩ => by subst e; exact ⟨rfl, w_house d0 d1 n4 hc q⟩
theorem h_law_row_0 : ∀ zs c Q, ctRowD 0 zs c Q → False := fun zs c Q ⟨h, e, hd, n4, ok, hc, q⟩ => by omega
theorem h_law_row (n : Nat) : ∀ zs c Q, ctRowD (n + 1) zs c Q → zs.length = 2 ∧ wSs (ctF [ctOf, ctRowD n, ctTake] []) Gn ir_law_row (iniG c_law_row.N zs) c (iniR Q) := fun zs c Q ⟨h, e, hd, n4, ok, hc, q⟩ => by subst e; exact ⟨rfl, w_row hd n4 ok hc q⟩
theorem h_law_odd : ∀ zs c Q, ctOdd zs c Q → zs.length = 1 ∧ wSs (ctF [ctTake] []) Gn ir_law_odd (iniG c_law_odd.N zs) c (iniR Q) := fun zs c Q ⟨e, hc, q⟩ => by subst e; exact ⟨rfl, w_odd hc q⟩
theorem h_law_bent : ∀ zs c Q, ctBent zs c Q → zs.length = 2 ∧ wSs (ctF [ctTake, ctOdd] []) Gn ir_law_bent (iniG c_law_bent.N zs) c (iniR Q) := fun zs c Q ⟨ns, e, l0, l1, hc, q⟩ => by subst e; exact ⟨rfl, w_bent l0 l1 hc q⟩
theorem h_law_answer_0 : ∀ zs c Q, ctAnsD 0 zs c Q → False := fun zs c Q ⟨h, e, hd, n4, ok, hc, q⟩ => by omega
theorem h_law_answer (n : Nat) : ∀ zs c Q, ctAnsD (n + 1) zs c Q → zs.length = 2 ∧ wSs (ctF [ctTake, ctOdd, ctAnsD n, ctOf] []) Gn ir_law_answer (iniG c_law_answer.N zs) c (iniR Q) := fun zs c Q ⟨h, e, hd, n4, ok, hc, q⟩ => by subst e; exact ⟨rfl, w_answer hd n4 ok hc q⟩
theorem h_row_size_0 : ∀ zs c Q, ctSize 0 zs c Q → False := fun zs c Q ⟨h, e, hd, ok, q⟩ => by omega
theorem h_row_size (n : Nat) : ∀ zs c Q, ctSize (n + 1) zs c Q → zs.length = 1 ∧ wSs (ctF [ctSize n] []) Gn ir_row_size (iniG c_row_size.N zs) c (iniR Q) := fun zs c Q ⟨h, e, hd, ok, q⟩ => by subst e; exact ⟨rfl, w_row_size hd ok q⟩
theorem h_law_size_0 : ∀ zs c Q, ctSize 0 zs c Q → False := fun zs c Q ⟨h, e, hd, ok, q⟩ => by omega
theorem h_law_size (n : Nat) : ∀ zs c Q, ctSize (n + 1) zs c Q → zs.length = 1 ∧ wSs (ctF [ctSize n] []) Gn ir_law_size (iniG c_law_size.N zs) c (iniR Q) := fun zs c Q ⟨h, e, hd, ok, q⟩ => by subst e; exact ⟨rfl, w_law_size hd ok q⟩
theorem h_parted_row : ∀ zs c Q, ctParted zs c Q → zs.length = 2 ∧ wSs (ctF [ctSize 4] []) Gn ir_parted_row (iniG c_parted_row.N zs) c (iniR Q) := fun zs c Q ⟨h, ns, e, ok, hd, j, q⟩ => by subst e; exact ⟨rfl, w_parted ok hd j q⟩
theorem h_marks_fit_0 : ∀ zs c Q, ctFits 0 zs c Q → False := fun zs c Q ⟨h, ns, e, hd, n4, ok, q⟩ => by omega
theorem h_marks_fit (n : Nat) : ∀ zs c Q, ctFits (n + 1) zs c Q → zs.length = 2 ∧ wSs (ctF [ctParted, ctFits n] []) Gj ir_marks_fit (iniG c_marks_fit.N zs) c (iniR Q) := fun zs c Q ⟨h, ns, e, hd, n4, ok, q⟩ => by subst e; exact ⟨rfl, w_marks_fit hd n4 ok q⟩
theorem h_is_whole : ∀ zs c Q, ctWhole zs c Q → zs.length = 1 ∧ wSs (ctF [] []) Gn ir_is_whole (iniG c_is_whole.N zs) c (iniR Q) := fun zs c Q ⟨d, e, q⟩ => by subst e; exact ⟨rfl, w_whole q⟩
theorem h_is_row : ∀ zs c Q, ctRow zs c Q → zs.length = 2 ∧ wSs (ctF [ctFits 4, ctSize 4, ctWhole] []) Gn ir_is_row (iniG c_is_row.N zs) c (iniR Q) := fun zs c Q ⟨h, d, e, hd, ok, q⟩ => by subst e; exact ⟨rfl, w_is_row hd ok q⟩
theorem h_law_fits_0 : ∀ zs c Q, ctFits 0 zs c Q → False := fun zs c Q ⟨h, ns, e, hd, n4, ok, q⟩ => by omega
theorem h_law_fits (n : Nat) : ∀ zs c Q, ctFits (n + 1) zs c Q → zs.length = 2 ∧ wSs (ctF [ctFits n, ctSize 4] []) Gn ir_law_fits (iniG c_law_fits.N zs) c (iniR Q) := fun zs c Q ⟨h, ns, e, hd, n4, ok, q⟩ => by subst e; exact ⟨rfl, w_law_fits hd n4 ok q⟩
theorem h_law_whole : ∀ zs c Q, ctWhole zs c Q → zs.length = 1 ∧ wSs (ctF [] []) Gn ir_law_whole (iniG c_law_whole.N zs) c (iniR Q) := fun zs c Q ⟨d, e, q⟩ => by subst e; exact ⟨rfl, w_law_whole q⟩
theorem h_law_row_due : ∀ zs c Q, ctRow zs c Q → zs.length = 2 ∧ wSs (ctF [ctFits 4, ctSize 4, ctWhole] []) Gn ir_law_row_due (iniG c_law_row_due.N zs) c (iniR Q) := fun zs c Q ⟨h, d, e, hd, ok, q⟩ => by subst e; exact ⟨rfl, w_law_row_due hd ok q⟩
theorem h_law_answer_due_0 : ∀ zs c Q, ctAns 0 zs c Q → False := fun zs c Q ⟨h, d, e, hd, ok, q⟩ => by omega
theorem h_law_answer_due (n : Nat) : ∀ zs c Q, ctAns (n + 1) zs c Q → zs.length = 2 ∧ wSs (ctF [ctAns n, ctWhole] []) Gn ir_law_answer_due (iniG c_law_answer_due.N zs) c (iniR Q) := fun zs c Q ⟨h, d, e, hd, ok, q⟩ => by subst e; exact ⟨rfl, w_law_answer_due hd ok q⟩
theorem h_is_answer_0 : ∀ zs c Q, ctAns 0 zs c Q → False := fun zs c Q ⟨h, d, e, hd, ok, q⟩ => by omega
theorem h_is_answer (n : Nat) : ∀ zs c Q, ctAns (n + 1) zs c Q → zs.length = 2 ∧ wSs (ctF [ctAns n, ctWhole] []) Gn ir_is_answer (iniG c_is_answer.N zs) c (iniR Q) := fun zs c Q ⟨h, d, e, hd, ok, q⟩ => by subst e; exact ⟨rfl, w_is_answer hd ok q⟩
theorem h_law : ∀ zs c Q, ctLaw zs c Q → zs.length = 1 ∧ wSs (ctF [ctPot, ctHouse 4, ctRowD 4, ctBent, ctOdd, ctAnsD 4, ctTake, ctSize 4, ctSize 4, ctRow, ctRow, ctAns 4] [kwCt 2 [1, 0] (ctAns 4)]) Gn ir_law (iniG c_law.N zs) c (iniR Q) := fun zs c Q ⟨ns, e, hl, h0, q⟩ => by subst e; exact ⟨rfl, w_law hl h0 q⟩
theorem law_ct {ns : List Int} (h : ns.length ≤ 63) : ctLaw [.scr ns] 0 fun z _ => z = .d (.bool true) := ⟨ns, rfl, h, rfl, fun _ => rfl⟩
section
variable {M : Mo}
def bltsAll : List Str := ["int", "len", "abs", "tuple", "list", "range", "all", "isinstance", "bool", "repr"]
structure Tp (M : Mo) : Prop where
  bl : ∀ x, x ∈ bltsAll → M.mg x = none
  g_JOINED : Glb M "JOINED" (.tuple [.str "both", .str "ruled"])
  d_law_pot : ∃ f fd, Df M.K M.mg "_law_pot" s_law_pot f fd ["_law_script", "_law_k"] []
  d_law_take : ∃ f fd, Df M.K M.mg "_law_take" s_law_take f fd ["_law_pot_here", "_law_count"] []
  d_law_of : ∃ f fd, Df M.K M.mg "_law_of" s_law_of f fd ["_law_pot_here", "_law_some"] []
  d_law_plain : ∃ f fd, Df M.K M.mg "_law_plain" s_law_plain f fd ["_law_pot_here", "_law_room"] []
  d_law_house : ∃ f fd, Df M.K M.mg "_law_house" s_law_house f fd ["_law_pot_here", "_law_deep", "_law_room"] []
  d_law_row : ∃ f fd, Df M.K M.mg "_law_row" s_law_row f fd ["_law_pot_here", "_law_own"] []
  d_law_odd : ∃ f fd, Df M.K M.mg "_law_odd" s_law_odd f fd ["_law_pot_here"] []
  d_law_bent : ∃ f fd, Df M.K M.mg "_law_bent" s_law_bent f fd ["_law_pot_here", "_law_row_here"] []
  d_law_answer : ∃ f fd, Df M.K M.mg "_law_answer" s_law_answer f fd ["_law_pot_here", "_law_own"] []
  d_row_size : ∃ f fd, Df M.K M.mg "row_size" s_row_size f fd ["house"] []
  d_law_size : ∃ f fd, Df M.K M.mg "_law_size" s_law_size f fd ["_law_own"] []
  d_parted_row : ∃ f fd, Df M.K M.mg "parted_row" s_parted_row f fd ["house", "row"] []
  d_marks_fit : ∃ f fd, Df M.K M.mg "marks_fit" s_marks_fit f fd ["house", "row"] []
  d_is_whole : ∃ f fd, Df M.K M.mg "is_whole" s_is_whole f fd ["thing"] []
  d_is_row : ∃ f fd, Df M.K M.mg "is_row" s_is_row f fd ["house", "thing"] []
  d_law_fits : ∃ f fd, Df M.K M.mg "_law_fits" s_law_fits f fd ["_law_own", "_law_row_here"] []
  d_law_whole : ∃ f fd, Df M.K M.mg "_law_whole" s_law_whole f fd ["_law_part"] []
  d_law_row_due : ∃ f fd, Df M.K M.mg "_law_row_due" s_law_row_due f fd ["_law_own", "_law_part"] []
  d_law_answer_due : ∃ f fd, Df M.K M.mg "_law_answer_due" s_law_answer_due f fd ["_law_own", "_law_part"] []
  d_is_answer : ∃ f fd, Df M.K M.mg "is_answer" s_is_answer f fd ["house", "thing"] [(["thing", "house"], [1, 0])]
  d_law : ∃ f fd, Df M.K M.mg "law" s_law f fd ["_law_script"] []
theorem fz_law_pot (T : Tp M) : Fz (M.at 1) "_law_pot" [] ctPot := by
  obtain ⟨f, fd, D⟩ := T.d_law_pot
  exact fz_mk D sc_law_pot (mok .nil .nil (fun x h => T.bl x ((by decide +kernel : ∀ x, x ∈ (["int", "len", "abs"] : List Str) → x ∈ bltsAll) x h)) .nil .nil (by decide) (by decide)) e_law_pot h_law_pot
theorem fz_law_take (T : Tp M) : Fz (M.at 1) "_law_take" [] ctTake := by
  obtain ⟨f, fd, D⟩ := T.d_law_take
  exact fz_mk D sc_law_take (mok .nil .nil (fun x h => T.bl x ((by decide +kernel : ∀ x, x ∈ ([] : List Str) → x ∈ bltsAll) x h)) .nil .nil (by decide) (by decide)) e_law_take h_law_take
theorem fz_law_of (T : Tp M) : Fz (M.at 2) "_law_of" [] ctOf := by
  obtain ⟨f, fd, D⟩ := T.d_law_of
  exact fz_mk D sc_law_of (mok (.cons ⟨_, (fz_law_take T).up (by decide)⟩ .nil) .nil (fun x h => T.bl x ((by decide +kernel : ∀ x, x ∈ (["len"] : List Str) → x ∈ bltsAll) x h)) .nil .nil (by decide) (by decide)) e_law_of h_law_of
theorem fz_law_plain (T : Tp M) : Fz (M.at 3) "_law_plain" [] ctPlain := by
  obtain ⟨f, fd, D⟩ := T.d_law_plain
  exact fz_mk D sc_law_plain (mok (.cons ⟨_, (fz_law_of T).up (by decide)⟩ (.cons ⟨_, (fz_law_take T).up (by decide)⟩ .nil)) .nil (fun x h => T.bl x ((by decide +kernel : ∀ x, x ∈ ([] : List Str) → x ∈ bltsAll) x h)) .nil .nil (by decide) (by decide)) e_law_plain h_law_plain
theorem fzi_law_house (T : Tp M) : ∀ n : Nat, Fz (M.at (3 + n)) "_law_house" [] (ctHouse n)
  | 0 => by
    obtain ⟨f_law_house, fd_law_house, D_law_house⟩ := T.d_law_house
    exact fz_zero D_law_house (fun zs c Q h => h_law_house_0 zs c Q h)
  | n + 1 => by
    have ih := fzi_law_house T n
    obtain ⟨f_law_house, fd_law_house, D_law_house⟩ := T.d_law_house
    exact fz_mk D_law_house sc_law_house (mok (.cons ⟨_, (fz_law_take T).up (Nat.le_trans (by decide : 1 ≤ 3) (Nat.le_add_right 3 n))⟩ (.cons ⟨_, (fz_law_plain T).up (Nat.le_trans (by decide : 3 ≤ 3) (Nat.le_add_right 3 n))⟩ (.cons ⟨_, ih⟩ .nil))) .nil (fun x h => T.bl x ((by decide +kernel : ∀ x, x ∈ ([] : List Str) → x ∈ bltsAll) x h)) .nil .nil (Nat.le_of_ble_eq_true rfl) (Nat.le_of_ble_eq_true rfl)) e_law_house (h_law_house n)
theorem fzr_law_house (T : Tp M) : Fz (M.at 7) "_law_house" [] (ctHouse 4) := (fzi_law_house T 4)
theorem fzi_law_row (T : Tp M) : ∀ n : Nat, Fz (M.at (2 + n)) "_law_row" [] (ctRowD n)
  | 0 => by
    obtain ⟨f_law_row, fd_law_row, D_law_row⟩ := T.d_law_row
    exact fz_zero D_law_row (fun zs c Q h => h_law_row_0 zs c Q h)
  | n + 1 => by
    have ih := fzi_law_row T n
    obtain ⟨f_law_row, fd_law_row, D_law_row⟩ := T.d_law_row
    exact fz_mk D_law_row sc_law_row (mok (.cons ⟨_, (fz_law_of T).up (Nat.le_trans (by decide : 2 ≤ 2) (Nat.le_add_right 2 n))⟩ (.cons ⟨_, ih⟩ (.cons ⟨_, (fz_law_take T).up (Nat.le_trans (by decide : 1 ≤ 2) (Nat.le_add_right 2 n))⟩ .nil))) .nil (fun x h => T.bl x ((by decide +kernel : ∀ x, x ∈ (["tuple", "list", "range"] : List Str) → x ∈ bltsAll) x h)) .nil .nil (Nat.le_of_ble_eq_true rfl) (Nat.le_of_ble_eq_true rfl)) e_law_row (h_law_row n)
theorem fzr_law_row (T : Tp M) : Fz (M.at 6) "_law_row" [] (ctRowD 4) := (fzi_law_row T 4)
theorem fz_law_odd (T : Tp M) : Fz (M.at 2) "_law_odd" [] ctOdd := by
  obtain ⟨f, fd, D⟩ := T.d_law_odd
  exact fz_mk D sc_law_odd (mok (.cons ⟨_, (fz_law_take T).up (by decide)⟩ .nil) .nil (fun x h => T.bl x ((by decide +kernel : ∀ x, x ∈ (["range"] : List Str) → x ∈ bltsAll) x h)) .nil .nil (by decide) (by decide)) e_law_odd h_law_odd
theorem fz_law_bent (T : Tp M) : Fz (M.at 3) "_law_bent" [] ctBent := by
  obtain ⟨f, fd, D⟩ := T.d_law_bent
  exact fz_mk D sc_law_bent (mok (.cons ⟨_, (fz_law_take T).up (by decide)⟩ (.cons ⟨_, (fz_law_odd T).up (by decide)⟩ .nil)) .nil (fun x h => T.bl x ((by decide +kernel : ∀ x, x ∈ (["len", "list"] : List Str) → x ∈ bltsAll) x h)) .nil .nil (by decide) (by decide)) e_law_bent h_law_bent
theorem fzi_law_answer (T : Tp M) : ∀ n : Nat, Fz (M.at (2 + n)) "_law_answer" [] (ctAnsD n)
  | 0 => by
    obtain ⟨f_law_answer, fd_law_answer, D_law_answer⟩ := T.d_law_answer
    exact fz_zero D_law_answer (fun zs c Q h => h_law_answer_0 zs c Q h)
  | n + 1 => by
    have ih := fzi_law_answer T n
    obtain ⟨f_law_answer, fd_law_answer, D_law_answer⟩ := T.d_law_answer
    exact fz_mk D_law_answer sc_law_answer (mok (.cons ⟨_, (fz_law_take T).up (Nat.le_trans (by decide : 1 ≤ 2) (Nat.le_add_right 2 n))⟩ (.cons ⟨_, (fz_law_odd T).up (Nat.le_trans (by decide : 2 ≤ 2) (Nat.le_add_right 2 n))⟩ (.cons ⟨_, ih⟩ (.cons ⟨_, (fz_law_of T).up (Nat.le_trans (by decide : 2 ≤ 2) (Nat.le_add_right 2 n))⟩ .nil)))) .nil (fun x h => T.bl x ((by decide +kernel : ∀ x, x ∈ (["list"] : List Str) → x ∈ bltsAll) x h)) .nil .nil (Nat.le_of_ble_eq_true rfl) (Nat.le_of_ble_eq_true rfl)) e_law_answer (h_law_answer n)
theorem fzr_law_answer (T : Tp M) : Fz (M.at 6) "_law_answer" [] (ctAnsD 4) := (fzi_law_answer T 4)
theorem fzi_row_size (T : Tp M) : ∀ n : Nat, Fz (M.at (0 + n)) "row_size" [] (ctSize n)
  | 0 => by
    obtain ⟨f_row_size, fd_row_size, D_row_size⟩ := T.d_row_size
    exact fz_zero D_row_size (fun zs c Q h => h_row_size_0 zs c Q h)
  | n + 1 => by
    have ih := fzi_row_size T n
    obtain ⟨f_row_size, fd_row_size, D_row_size⟩ := T.d_row_size
    exact fz_mk D_row_size sc_row_size (mok (.cons ⟨_, ih⟩ .nil) .nil (fun x h => T.bl x ((by decide +kernel : ∀ x, x ∈ ([] : List Str) → x ∈ bltsAll) x h)) .nil .nil (Nat.le_of_ble_eq_true rfl) (Nat.le_of_ble_eq_true rfl)) e_row_size (h_row_size n)
theorem fzr_row_size (T : Tp M) : Fz (M.at 4) "row_size" [] (ctSize 4) := (fzi_row_size T 4)
theorem fzi_law_size (T : Tp M) : ∀ n : Nat, Fz (M.at (0 + n)) "_law_size" [] (ctSize n)
  | 0 => by
    obtain ⟨f_law_size, fd_law_size, D_law_size⟩ := T.d_law_size
    exact fz_zero D_law_size (fun zs c Q h => h_law_size_0 zs c Q h)
  | n + 1 => by
    have ih := fzi_law_size T n
    obtain ⟨f_law_size, fd_law_size, D_law_size⟩ := T.d_law_size
    exact fz_mk D_law_size sc_law_size (mok (.cons ⟨_, ih⟩ .nil) .nil (fun x h => T.bl x ((by decide +kernel : ∀ x, x ∈ ([] : List Str) → x ∈ bltsAll) x h)) .nil .nil (Nat.le_of_ble_eq_true rfl) (Nat.le_of_ble_eq_true rfl)) e_law_size (h_law_size n)
theorem fzr_law_size (T : Tp M) : Fz (M.at 4) "_law_size" [] (ctSize 4) := (fzi_law_size T 4)
theorem fz_parted_row (T : Tp M) : Fz (M.at 5) "parted_row" [] ctParted := by
  obtain ⟨f, fd, D⟩ := T.d_parted_row
  exact fz_mk D sc_parted_row (mok (.cons ⟨_, (fzr_row_size T).up (by decide)⟩ .nil) .nil (fun x h => T.bl x ((by decide +kernel : ∀ x, x ∈ ([] : List Str) → x ∈ bltsAll) x h)) .nil .nil (by decide) (by decide)) e_parted_row h_parted_row
theorem fzi_marks_fit (T : Tp M) : ∀ n : Nat, Fz (M.at (5 + n)) "marks_fit" [] (ctFits n)
  | 0 => by
    obtain ⟨f_marks_fit, fd_marks_fit, D_marks_fit⟩ := T.d_marks_fit
    exact fz_zero D_marks_fit (fun zs c Q h => h_marks_fit_0 zs c Q h)
  | n + 1 => by
    have ih := fzi_marks_fit T n
    obtain ⟨f_marks_fit, fd_marks_fit, D_marks_fit⟩ := T.d_marks_fit
    exact fz_mk D_marks_fit sc_marks_fit (mok (.cons ⟨_, (fz_parted_row T).up (Nat.le_trans (by decide : 5 ≤ 5) (Nat.le_add_right 5 n))⟩ (.cons ⟨_, ih⟩ .nil)) (.cons T.g_JOINED .nil) (fun x h => T.bl x ((by decide +kernel : ∀ x, x ∈ (["all"] : List Str) → x ∈ bltsAll) x h)) .nil .nil (Nat.le_of_ble_eq_true rfl) (Nat.le_of_ble_eq_true rfl)) e_marks_fit (h_marks_fit n)
theorem fzr_marks_fit (T : Tp M) : Fz (M.at 9) "marks_fit" [] (ctFits 4) := (fzi_marks_fit T 4)
theorem fz_is_whole (T : Tp M) : Fz (M.at 1) "is_whole" [] ctWhole := by
  obtain ⟨f, fd, D⟩ := T.d_is_whole
  exact fz_mk D sc_is_whole (mok .nil .nil (fun x h => T.bl x ((by decide +kernel : ∀ x, x ∈ (["isinstance", "int", "bool"] : List Str) → x ∈ bltsAll) x h)) .nil .nil (by decide) (by decide)) e_is_whole h_is_whole
theorem fz_is_row (T : Tp M) : Fz (M.at 10) "is_row" [] ctRow := by
  obtain ⟨f, fd, D⟩ := T.d_is_row
  exact fz_mk D sc_is_row (mok (.cons ⟨_, (fzr_marks_fit T).up (by decide)⟩ (.cons ⟨_, (fzr_row_size T).up (by decide)⟩ (.cons ⟨_, (fz_is_whole T).up (by decide)⟩ .nil))) .nil (fun x h => T.bl x ((by decide +kernel : ∀ x, x ∈ (["isinstance", "tuple", "len", "all"] : List Str) → x ∈ bltsAll) x h)) .nil .nil (by decide) (by decide)) e_is_row h_is_row
theorem fzi_law_fits (T : Tp M) : ∀ n : Nat, Fz (M.at (4 + n)) "_law_fits" [] (ctFits n)
  | 0 => by
    obtain ⟨f_law_fits, fd_law_fits, D_law_fits⟩ := T.d_law_fits
    exact fz_zero D_law_fits (fun zs c Q h => h_law_fits_0 zs c Q h)
  | n + 1 => by
    have ih := fzi_law_fits T n
    obtain ⟨f_law_fits, fd_law_fits, D_law_fits⟩ := T.d_law_fits
    exact fz_mk D_law_fits sc_law_fits (mok (.cons ⟨_, ih⟩ (.cons ⟨_, (fzr_law_size T).up (Nat.le_trans (by decide : 4 ≤ 4) (Nat.le_add_right 4 n))⟩ .nil)) .nil (fun x h => T.bl x ((by decide +kernel : ∀ x, x ∈ (["all"] : List Str) → x ∈ bltsAll) x h)) .nil .nil (Nat.le_of_ble_eq_true rfl) (Nat.le_of_ble_eq_true rfl)) e_law_fits (h_law_fits n)
theorem fzr_law_fits (T : Tp M) : Fz (M.at 8) "_law_fits" [] (ctFits 4) := (fzi_law_fits T 4)
theorem fz_law_whole (T : Tp M) : Fz (M.at 1) "_law_whole" [] ctWhole := by
  obtain ⟨f, fd, D⟩ := T.d_law_whole
  exact fz_mk D sc_law_whole (mok .nil .nil (fun x h => T.bl x ((by decide +kernel : ∀ x, x ∈ (["isinstance", "int", "bool"] : List Str) → x ∈ bltsAll) x h)) .nil .nil (by decide) (by decide)) e_law_whole h_law_whole
theorem fz_law_row_due (T : Tp M) : Fz (M.at 9) "_law_row_due" [] ctRow := by
  obtain ⟨f, fd, D⟩ := T.d_law_row_due
  exact fz_mk D sc_law_row_due (mok (.cons ⟨_, (fzr_law_fits T).up (by decide)⟩ (.cons ⟨_, (fzr_law_size T).up (by decide)⟩ (.cons ⟨_, (fz_law_whole T).up (by decide)⟩ .nil))) .nil (fun x h => T.bl x ((by decide +kernel : ∀ x, x ∈ (["all", "isinstance", "tuple", "len"] : List Str) → x ∈ bltsAll) x h)) .nil .nil (by decide) (by decide)) e_law_row_due h_law_row_due
theorem fzi_law_answer_due (T : Tp M) : ∀ n : Nat, Fz (M.at (1 + n)) "_law_answer_due" [] (ctAns n)
  | 0 => by
    obtain ⟨f_law_answer_due, fd_law_answer_due, D_law_answer_due⟩ := T.d_law_answer_due
    exact fz_zero D_law_answer_due (fun zs c Q h => h_law_answer_due_0 zs c Q h)
  | n + 1 => by
    have ih := fzi_law_answer_due T n
    obtain ⟨f_law_answer_due, fd_law_answer_due, D_law_answer_due⟩ := T.d_law_answer_due
    exact fz_mk D_law_answer_due sc_law_answer_due (mok (.cons ⟨_, ih⟩ (.cons ⟨_, (fz_law_whole T).up (Nat.le_trans (by decide : 1 ≤ 1) (Nat.le_add_right 1 n))⟩ .nil)) .nil (fun x h => T.bl x ((by decide +kernel : ∀ x, x ∈ (["isinstance", "tuple", "len"] : List Str) → x ∈ bltsAll) x h)) .nil .nil (Nat.le_of_ble_eq_true rfl) (Nat.le_of_ble_eq_true rfl)) e_law_answer_due (h_law_answer_due n)
theorem fzr_law_answer_due (T : Tp M) : Fz (M.at 5) "_law_answer_due" [] (ctAns 4) := (fzi_law_answer_due T 4)
theorem fzi_is_answer (T : Tp M) : ∀ n : Nat, Fz (M.at (1 + n)) "is_answer" [(["thing", "house"], [1, 0])] (ctAns n)
  | 0 => by
    obtain ⟨f_is_answer, fd_is_answer, D_is_answer⟩ := T.d_is_answer
    exact fz_zero D_is_answer (fun zs c Q h => h_is_answer_0 zs c Q h)
  | n + 1 => by
    have ih := fzi_is_answer T n
    obtain ⟨f_is_answer, fd_is_answer, D_is_answer⟩ := T.d_is_answer
    exact fz_mk D_is_answer sc_is_answer (mok (.cons ⟨_, ih⟩ (.cons ⟨_, (fz_is_whole T).up (Nat.le_trans (by decide : 1 ≤ 1) (Nat.le_add_right 1 n))⟩ .nil)) .nil (fun x h => T.bl x ((by decide +kernel : ∀ x, x ∈ (["isinstance", "tuple", "len"] : List Str) → x ∈ bltsAll) x h)) .nil .nil (Nat.le_of_ble_eq_true rfl) (Nat.le_of_ble_eq_true rfl)) e_is_answer (h_is_answer n)
theorem fzr_is_answer (T : Tp M) : Fz (M.at 5) "is_answer" [(["thing", "house"], [1, 0])] (ctAns 4) := (fzi_is_answer T 4)
theorem fnz_law (T : Tp M) {f : Addr} {fd : FuncData} (D : Df M.K M.mg "law" s_law f fd ["_law_script"] []) : FnZ M.P M.w M.K M.mg M.base 11 f fd ["_law_script"] (spOf M.K ctLaw) :=
  fnz_mk D sc_law (mok (.cons ⟨_, (fz_law_pot T).up (by decide)⟩ (.cons ⟨_, (fzr_law_house T).up (by decide)⟩ (.cons ⟨_, (fzr_law_row T).up (by decide)⟩ (.cons ⟨_, (fz_law_bent T).up (by decide)⟩ (.cons ⟨_, (fz_law_odd T).up (by decide)⟩ (.cons ⟨_, (fzr_law_answer T).up (by decide)⟩ (.cons ⟨_, (fz_law_take T).up (by decide)⟩ (.cons ⟨_, (fzr_row_size T).up (by decide)⟩ (.cons ⟨_, (fzr_law_size T).up (by decide)⟩ (.cons ⟨_, (fz_is_row T).up (by decide)⟩ (.cons ⟨_, (fz_law_row_due T).up (by decide)⟩ (.cons ⟨_, (fzr_law_answer_due T).up (by decide)⟩ .nil)))))))))))) .nil (fun x h => T.bl x ((by decide +kernel : ∀ x, x ∈ (["range", "len", "repr"] : List Str) → x ∈ bltsAll) x h)) (.cons ⟨⟨_, [1, 0], _, (fzr_is_answer T).up (by decide), by decide +kernel, rfl⟩⟩ .nil) .nil (by decide) (by decide)) e_law h_law
end
theorem all_mk {l : PySem.W.OpenLaw} {w : World} {K : PySem.W.Frag} {h : Heap} {mg : Str → Option Value} {fa : Addr} (X : K.In h) (G : h.Ns mainGlobals mg) (hfa : mg "law" = some (.ref fa))
    {f0 : Addr} {od0 an0 : Option Addr} {sl0 : Array (Option Value)} {oc0 kV0 dc0 pm0 cd0 ct0 : Value}
    {f1 : Addr} {od1 an1 : Option Addr} {sl1 : Array (Option Value)} {oc1 kV1 dc1 pm1 cd1 ct1 : Value}
    {f2 : Addr} {od2 an2 : Option Addr} {sl2 : Array (Option Value)} {oc2 kV2 dc2 pm2 cd2 ct2 : Value}
    {f3 : Addr} {od3 an3 : Option Addr} {sl3 : Array (Option Value)} {oc3 kV3 dc3 pm3 cd3 ct3 : Value}
    {f4 : Addr} {od4 an4 : Option Addr} {sl4 : Array (Option Value)} {oc4 kV4 dc4 pm4 cd4 ct4 : Value}
    {f5 : Addr} {od5 an5 : Option Addr} {sl5 : Array (Option Value)} {oc5 kV5 dc5 pm5 cd5 ct5 : Value}
    {f6 : Addr} {od6 an6 : Option Addr} {sl6 : Array (Option Value)} {oc6 kV6 dc6 pm6 cd6 ct6 : Value}
    {f7 : Addr} {od7 an7 : Option Addr} {sl7 : Array (Option Value)} {oc7 kV7 dc7 pm7 cd7 ct7 : Value}
    {f8 : Addr} {od8 an8 : Option Addr} {sl8 : Array (Option Value)} {oc8 kV8 dc8 pm8 cd8 ct8 : Value}
    {f9 : Addr} {od9 an9 : Option Addr} {sl9 : Array (Option Value)} {oc9 kV9 dc9 pm9 cd9 ct9 : Value}
    {f10 : Addr} {od10 an10 : Option Addr} {sl10 : Array (Option Value)} {oc10 kV10 dc10 pm10 cd10 ct10 : Value}
    {f11 : Addr} {od11 an11 : Option Addr} {sl11 : Array (Option Value)} {oc11 kV11 dc11 pm11 cd11 ct11 : Value}
    {f12 : Addr} {od12 an12 : Option Addr} {sl12 : Array (Option Value)} {oc12 kV12 dc12 pm12 cd12 ct12 : Value}
    {f13 : Addr} {od13 an13 : Option Addr} {sl13 : Array (Option Value)} {oc13 kV13 dc13 pm13 cd13 ct13 : Value}
    {f14 : Addr} {od14 an14 : Option Addr} {sl14 : Array (Option Value)} {oc14 kV14 dc14 pm14 cd14 ct14 : Value}
    {f15 : Addr} {od15 an15 : Option Addr} {sl15 : Array (Option Value)} {oc15 kV15 dc15 pm15 cd15 ct15 : Value}
    {f16 : Addr} {od16 an16 : Option Addr} {sl16 : Array (Option Value)} {oc16 kV16 dc16 pm16 cd16 ct16 : Value}
    {f17 : Addr} {od17 an17 : Option Addr} {sl17 : Array (Option Value)} {oc17 kV17 dc17 pm17 cd17 ct17 : Value}
    {f18 : Addr} {od18 an18 : Option Addr} {sl18 : Array (Option Value)} {oc18 kV18 dc18 pm18 cd18 ct18 : Value}
    {f19 : Addr} {od19 an19 : Option Addr} {sl19 : Array (Option Value)} {oc19 kV19 dc19 pm19 cd19 ct19 : Value}
    {f20 : Addr} {od20 an20 : Option Addr} {sl20 : Array (Option Value)} {oc20 kV20 dc20 pm20 cd20 ct20 : Value}
    {y0_3t : Tok}
    {y0_4t : Tok}
    {y0_2p : Addr} {y0_2d : Option Addr} {y0_2n : Nat} {y0_2s : Array (Option Value)}
    (a0 : PySem.W.nsIn K mainGlobals "_law_pot" = some (some (.ref f0))) (l0 : K.lookup f0 = some ⟨oc0, od0, .func (PySem.W.fnOf "_law_pot" "_law_pot" (defArgs s_law_pot) (defBody s_law_pot) (defScope s_law_pot) .none kV0 dc0 pm0 an0 cd0 ct0), sl0⟩) (c0 : PySem.W.codeIn K cd0 "_law_pot" = true) (k0 : PySem.W.keepIn K (.ref f0) = true)
    (a1 : PySem.W.nsIn K mainGlobals "_law_take" = some (some (.ref f1))) (l1 : K.lookup f1 = some ⟨oc1, od1, .func (PySem.W.fnOf "_law_take" "_law_take" (defArgs s_law_take) (defBody s_law_take) (defScope s_law_take) .none kV1 dc1 pm1 an1 cd1 ct1), sl1⟩) (c1 : PySem.W.codeIn K cd1 "_law_take" = true) (k1 : PySem.W.keepIn K (.ref f1) = true)
    (a2 : PySem.W.nsIn K mainGlobals "_law_of" = some (some (.ref f2))) (l2 : K.lookup f2 = some ⟨oc2, od2, .func (PySem.W.fnOf "_law_of" "_law_of" (defArgs s_law_of) (defBody s_law_of) (defScope s_law_of) .none kV2 dc2 pm2 an2 cd2 ct2), sl2⟩) (c2 : PySem.W.codeIn K cd2 "_law_of" = true) (k2 : PySem.W.keepIn K (.ref f2) = true)
    (a3 : PySem.W.nsIn K mainGlobals "_law_plain" = some (some (.ref f3))) (l3 : K.lookup f3 = some ⟨oc3, od3, .func (PySem.W.fnOf "_law_plain" "_law_plain" (defArgs s_law_plain) (defBody s_law_plain) (defScope s_law_plain) .none kV3 dc3 pm3 an3 cd3 ct3), sl3⟩) (c3 : PySem.W.codeIn K cd3 "_law_plain" = true) (k3 : PySem.W.keepIn K (.ref f3) = true)
    (a4 : PySem.W.nsIn K mainGlobals "_law_house" = some (some (.ref f4))) (l4 : K.lookup f4 = some ⟨oc4, od4, .func (PySem.W.fnOf "_law_house" "_law_house" (defArgs s_law_house) (defBody s_law_house) (defScope s_law_house) .none kV4 dc4 pm4 an4 cd4 ct4), sl4⟩) (c4 : PySem.W.codeIn K cd4 "_law_house" = true) (k4 : PySem.W.keepIn K (.ref f4) = true)
    (a5 : PySem.W.nsIn K mainGlobals "_law_row" = some (some (.ref f5))) (l5 : K.lookup f5 = some ⟨oc5, od5, .func (PySem.W.fnOf "_law_row" "_law_row" (defArgs s_law_row) (defBody s_law_row) (defScope s_law_row) .none kV5 dc5 pm5 an5 cd5 ct5), sl5⟩) (c5 : PySem.W.codeIn K cd5 "_law_row" = true) (k5 : PySem.W.keepIn K (.ref f5) = true)
    (a6 : PySem.W.nsIn K mainGlobals "_law_odd" = some (some (.ref f6))) (l6 : K.lookup f6 = some ⟨oc6, od6, .func (PySem.W.fnOf "_law_odd" "_law_odd" (defArgs s_law_odd) (defBody s_law_odd) (defScope s_law_odd) .none kV6 dc6 pm6 an6 cd6 ct6), sl6⟩) (c6 : PySem.W.codeIn K cd6 "_law_odd" = true) (k6 : PySem.W.keepIn K (.ref f6) = true)
    (a7 : PySem.W.nsIn K mainGlobals "_law_bent" = some (some (.ref f7))) (l7 : K.lookup f7 = some ⟨oc7, od7, .func (PySem.W.fnOf "_law_bent" "_law_bent" (defArgs s_law_bent) (defBody s_law_bent) (defScope s_law_bent) .none kV7 dc7 pm7 an7 cd7 ct7), sl7⟩) (c7 : PySem.W.codeIn K cd7 "_law_bent" = true) (k7 : PySem.W.keepIn K (.ref f7) = true)
    (a8 : PySem.W.nsIn K mainGlobals "_law_answer" = some (some (.ref f8))) (l8 : K.lookup f8 = some ⟨oc8, od8, .func (PySem.W.fnOf "_law_answer" "_law_answer" (defArgs s_law_answer) (defBody s_law_answer) (defScope s_law_answer) .none kV8 dc8 pm8 an8 cd8 ct8), sl8⟩) (c8 : PySem.W.codeIn K cd8 "_law_answer" = true) (k8 : PySem.W.keepIn K (.ref f8) = true)
    (a9 : PySem.W.nsIn K mainGlobals "row_size" = some (some (.ref f9))) (l9 : K.lookup f9 = some ⟨oc9, od9, .func (PySem.W.fnOf "row_size" "row_size" (defArgs s_row_size) (defBody s_row_size) (defScope s_row_size) .none kV9 dc9 pm9 an9 cd9 ct9), sl9⟩) (c9 : PySem.W.codeIn K cd9 "row_size" = true) (k9 : PySem.W.keepIn K (.ref f9) = true)
    (a10 : PySem.W.nsIn K mainGlobals "_law_size" = some (some (.ref f10))) (l10 : K.lookup f10 = some ⟨oc10, od10, .func (PySem.W.fnOf "_law_size" "_law_size" (defArgs s_law_size) (defBody s_law_size) (defScope s_law_size) .none kV10 dc10 pm10 an10 cd10 ct10), sl10⟩) (c10 : PySem.W.codeIn K cd10 "_law_size" = true) (k10 : PySem.W.keepIn K (.ref f10) = true)
    (a11 : PySem.W.nsIn K mainGlobals "parted_row" = some (some (.ref f11))) (l11 : K.lookup f11 = some ⟨oc11, od11, .func (PySem.W.fnOf "parted_row" "parted_row" (defArgs s_parted_row) (defBody s_parted_row) (defScope s_parted_row) .none kV11 dc11 pm11 an11 cd11 ct11), sl11⟩) (c11 : PySem.W.codeIn K cd11 "parted_row" = true) (k11 : PySem.W.keepIn K (.ref f11) = true)
    (a12 : PySem.W.nsIn K mainGlobals "marks_fit" = some (some (.ref f12))) (l12 : K.lookup f12 = some ⟨oc12, od12, .func (PySem.W.fnOf "marks_fit" "marks_fit" (defArgs s_marks_fit) (defBody s_marks_fit) (defScope s_marks_fit) .none kV12 dc12 pm12 an12 cd12 ct12), sl12⟩) (c12 : PySem.W.codeIn K cd12 "marks_fit" = true) (k12 : PySem.W.keepIn K (.ref f12) = true)
    (a13 : PySem.W.nsIn K mainGlobals "is_whole" = some (some (.ref f13))) (l13 : K.lookup f13 = some ⟨oc13, od13, .func (PySem.W.fnOf "is_whole" "is_whole" (defArgs s_is_whole) (defBody s_is_whole) (defScope s_is_whole) .none kV13 dc13 pm13 an13 cd13 ct13), sl13⟩) (c13 : PySem.W.codeIn K cd13 "is_whole" = true) (k13 : PySem.W.keepIn K (.ref f13) = true)
    (a14 : PySem.W.nsIn K mainGlobals "is_row" = some (some (.ref f14))) (l14 : K.lookup f14 = some ⟨oc14, od14, .func (PySem.W.fnOf "is_row" "is_row" (defArgs s_is_row) (defBody s_is_row) (defScope s_is_row) .none kV14 dc14 pm14 an14 cd14 ct14), sl14⟩) (c14 : PySem.W.codeIn K cd14 "is_row" = true) (k14 : PySem.W.keepIn K (.ref f14) = true)
    (a15 : PySem.W.nsIn K mainGlobals "_law_fits" = some (some (.ref f15))) (l15 : K.lookup f15 = some ⟨oc15, od15, .func (PySem.W.fnOf "_law_fits" "_law_fits" (defArgs s_law_fits) (defBody s_law_fits) (defScope s_law_fits) .none kV15 dc15 pm15 an15 cd15 ct15), sl15⟩) (c15 : PySem.W.codeIn K cd15 "_law_fits" = true) (k15 : PySem.W.keepIn K (.ref f15) = true)
    (a16 : PySem.W.nsIn K mainGlobals "_law_whole" = some (some (.ref f16))) (l16 : K.lookup f16 = some ⟨oc16, od16, .func (PySem.W.fnOf "_law_whole" "_law_whole" (defArgs s_law_whole) (defBody s_law_whole) (defScope s_law_whole) .none kV16 dc16 pm16 an16 cd16 ct16), sl16⟩) (c16 : PySem.W.codeIn K cd16 "_law_whole" = true) (k16 : PySem.W.keepIn K (.ref f16) = true)
    (a17 : PySem.W.nsIn K mainGlobals "_law_row_due" = some (some (.ref f17))) (l17 : K.lookup f17 = some ⟨oc17, od17, .func (PySem.W.fnOf "_law_row_due" "_law_row_due" (defArgs s_law_row_due) (defBody s_law_row_due) (defScope s_law_row_due) .none kV17 dc17 pm17 an17 cd17 ct17), sl17⟩) (c17 : PySem.W.codeIn K cd17 "_law_row_due" = true) (k17 : PySem.W.keepIn K (.ref f17) = true)
    (a18 : PySem.W.nsIn K mainGlobals "_law_answer_due" = some (some (.ref f18))) (l18 : K.lookup f18 = some ⟨oc18, od18, .func (PySem.W.fnOf "_law_answer_due" "_law_answer_due" (defArgs s_law_answer_due) (defBody s_law_answer_due) (defScope s_law_answer_due) .none kV18 dc18 pm18 an18 cd18 ct18), sl18⟩) (c18 : PySem.W.codeIn K cd18 "_law_answer_due" = true) (k18 : PySem.W.keepIn K (.ref f18) = true)
    (a19 : PySem.W.nsIn K mainGlobals "is_answer" = some (some (.ref f19))) (l19 : K.lookup f19 = some ⟨oc19, od19, .func (PySem.W.fnOf "is_answer" "is_answer" (defArgs s_is_answer) (defBody s_is_answer) (defScope s_is_answer) .none kV19 dc19 pm19 an19 cd19 ct19), sl19⟩) (c19 : PySem.W.codeIn K cd19 "is_answer" = true) (k19 : PySem.W.keepIn K (.ref f19) = true)
    (a20 : PySem.W.nsIn K mainGlobals "law" = some (some (.ref f20))) (l20 : K.lookup f20 = some ⟨oc20, od20, .func (PySem.W.fnOf "law" "law" (defArgs s_law) (defBody s_law) (defScope s_law) .none kV20 dc20 pm20 an20 cd20 ct20), sl20⟩) (c20 : PySem.W.codeIn K cd20 "law" = true) (k20 : PySem.W.keepIn K (.ref f20) = true)
    (zb_int : PySem.W.nsIn K mainGlobals "int" = some none)
    (zb_len : PySem.W.nsIn K mainGlobals "len" = some none)
    (zb_abs : PySem.W.nsIn K mainGlobals "abs" = some none)
    (zb_tuple : PySem.W.nsIn K mainGlobals "tuple" = some none)
    (zb_list : PySem.W.nsIn K mainGlobals "list" = some none)
    (zb_range : PySem.W.nsIn K mainGlobals "range" = some none)
    (zb_all : PySem.W.nsIn K mainGlobals "all" = some none)
    (zb_isinstance : PySem.W.nsIn K mainGlobals "isinstance" = some none)
    (zb_bool : PySem.W.nsIn K mainGlobals "bool" = some none)
    (zb_repr : PySem.W.nsIn K mainGlobals "repr" = some none)
    (y0_2l : K.lookup y0_2p = some ⟨.type "tuple", y0_2d, .seq #[(.str "both" y0_3t), (.str "ruled" y0_4t)] y0_2n, y0_2s⟩)
    (y0_1a : PySem.W.nsIn K mainGlobals "JOINED" = some (some (.ref y0_2p)))
    : ∃ fd : FuncData, (∀ (s : Shared) (u : Value), BindsTo s fd ⟨[u], []⟩ [("_law_script", u)]) ∧ ∀ base : Heap, K.In base → base.Ns mainGlobals mg → FnZ l.prog w K mg base 11 fa fd ["_law_script"] (spOf K ctLaw) := by
  have e := hfa.symm.trans (PySem.W.mg_of X G a20)
  cases e
  have F0 := fun_mk (st := s_law_pot) l0 c0 k0
  have b0 := F0.binds (ps := ["_law_script", "_law_k"]) fun _ _ _ _ _ _ us hl => match us, hl with | [_, _], _ => rfl
  have F1 := fun_mk (st := s_law_take) l1 c1 k1
  have b1 := F1.binds (ps := ["_law_pot_here", "_law_count"]) fun _ _ _ _ _ _ us hl => match us, hl with | [_, _], _ => rfl
  have F2 := fun_mk (st := s_law_of) l2 c2 k2
  have b2 := F2.binds (ps := ["_law_pot_here", "_law_some"]) fun _ _ _ _ _ _ us hl => match us, hl with | [_, _], _ => rfl
  have F3 := fun_mk (st := s_law_plain) l3 c3 k3
  have b3 := F3.binds (ps := ["_law_pot_here", "_law_room"]) fun _ _ _ _ _ _ us hl => match us, hl with | [_, _], _ => rfl
  have F4 := fun_mk (st := s_law_house) l4 c4 k4
  have b4 := F4.binds (ps := ["_law_pot_here", "_law_deep", "_law_room"]) fun _ _ _ _ _ _ us hl => match us, hl with | [_, _, _], _ => rfl
  have F5 := fun_mk (st := s_law_row) l5 c5 k5
  have b5 := F5.binds (ps := ["_law_pot_here", "_law_own"]) fun _ _ _ _ _ _ us hl => match us, hl with | [_, _], _ => rfl
  have F6 := fun_mk (st := s_law_odd) l6 c6 k6
  have b6 := F6.binds (ps := ["_law_pot_here"]) fun _ _ _ _ _ _ us hl => match us, hl with | [_], _ => rfl
  have F7 := fun_mk (st := s_law_bent) l7 c7 k7
  have b7 := F7.binds (ps := ["_law_pot_here", "_law_row_here"]) fun _ _ _ _ _ _ us hl => match us, hl with | [_, _], _ => rfl
  have F8 := fun_mk (st := s_law_answer) l8 c8 k8
  have b8 := F8.binds (ps := ["_law_pot_here", "_law_own"]) fun _ _ _ _ _ _ us hl => match us, hl with | [_, _], _ => rfl
  have F9 := fun_mk (st := s_row_size) l9 c9 k9
  have b9 := F9.binds (ps := ["house"]) fun _ _ _ _ _ _ us hl => match us, hl with | [_], _ => rfl
  have F10 := fun_mk (st := s_law_size) l10 c10 k10
  have b10 := F10.binds (ps := ["_law_own"]) fun _ _ _ _ _ _ us hl => match us, hl with | [_], _ => rfl
  have F11 := fun_mk (st := s_parted_row) l11 c11 k11
  have b11 := F11.binds (ps := ["house", "row"]) fun _ _ _ _ _ _ us hl => match us, hl with | [_, _], _ => rfl
  have F12 := fun_mk (st := s_marks_fit) l12 c12 k12
  have b12 := F12.binds (ps := ["house", "row"]) fun _ _ _ _ _ _ us hl => match us, hl with | [_, _], _ => rfl
  have F13 := fun_mk (st := s_is_whole) l13 c13 k13
  have b13 := F13.binds (ps := ["thing"]) fun _ _ _ _ _ _ us hl => match us, hl with | [_], _ => rfl
  have F14 := fun_mk (st := s_is_row) l14 c14 k14
  have b14 := F14.binds (ps := ["house", "thing"]) fun _ _ _ _ _ _ us hl => match us, hl with | [_, _], _ => rfl
  have F15 := fun_mk (st := s_law_fits) l15 c15 k15
  have b15 := F15.binds (ps := ["_law_own", "_law_row_here"]) fun _ _ _ _ _ _ us hl => match us, hl with | [_, _], _ => rfl
  have F16 := fun_mk (st := s_law_whole) l16 c16 k16
  have b16 := F16.binds (ps := ["_law_part"]) fun _ _ _ _ _ _ us hl => match us, hl with | [_], _ => rfl
  have F17 := fun_mk (st := s_law_row_due) l17 c17 k17
  have b17 := F17.binds (ps := ["_law_own", "_law_part"]) fun _ _ _ _ _ _ us hl => match us, hl with | [_, _], _ => rfl
  have F18 := fun_mk (st := s_law_answer_due) l18 c18 k18
  have b18 := F18.binds (ps := ["_law_own", "_law_part"]) fun _ _ _ _ _ _ us hl => match us, hl with | [_, _], _ => rfl
  have F19 := fun_mk (st := s_is_answer) l19 c19 k19
  have b19 := F19.binds (ps := ["house", "thing"]) fun _ _ _ _ _ _ us hl => match us, hl with | [_, _], _ => rfl
  have F20 := fun_mk (st := s_law) l20 c20 k20
  have b20 := F20.binds (ps := ["_law_script"]) fun _ _ _ _ _ _ us hl => match us, hl with | [_], _ => rfl
  refine ⟨PySem.W.fnOf "law" "law" (defArgs s_law) (defBody s_law) (defScope s_law) .none kV20 dc20 pm20 an20 cd20 ct20, fun s v => .of_eq rfl, fun base _ _ => ?_⟩
  have B : ∀ x, x ∈ bltsAll → mg x = none := fun x hx => by
    unfold bltsAll at hx
    simp only [List.mem_cons, List.not_mem_nil, or_false] at hx
    rcases hx with rfl | rfl | rfl | rfl | rfl | rfl | rfl | rfl | rfl | rfl
    · exact PySem.W.mg_none_of X G zb_int
    · exact PySem.W.mg_none_of X G zb_len
    · exact PySem.W.mg_none_of X G zb_abs
    · exact PySem.W.mg_none_of X G zb_tuple
    · exact PySem.W.mg_none_of X G zb_list
    · exact PySem.W.mg_none_of X G zb_range
    · exact PySem.W.mg_none_of X G zb_all
    · exact PySem.W.mg_none_of X G zb_isinstance
    · exact PySem.W.mg_none_of X G zb_bool
    · exact PySem.W.mg_none_of X G zb_repr
  have T : Tp ⟨l.prog, w, K, mg, base, 0⟩ := ⟨B,
    ⟨_, _, PySem.W.mg_of X G y0_1a, (show RelV (.ref y0_2p) (.ref y0_2p) from rfl), (.tup (.inr ⟨_, _, _, y0_2l, rfl, rfl, (by rw [PySem.sizeLine_eq]; show 2 ≤ _; decide), (.cons (show RelV (.str "both") (.str "both" y0_3t) from ⟨_, rfl⟩) (.cons (show RelV (.str "ruled") (.str "ruled" y0_4t) from ⟨_, rfl⟩) .nil))⟩) (.cons (.str "both") (.cons (.str "ruled") .nil)))⟩,
    ⟨_, _, F0, PySem.W.mg_of X G a0, b0, fun p hp => nomatch hp⟩,
    ⟨_, _, F1, PySem.W.mg_of X G a1, b1, fun p hp => nomatch hp⟩,
    ⟨_, _, F2, PySem.W.mg_of X G a2, b2, fun p hp => nomatch hp⟩,
    ⟨_, _, F3, PySem.W.mg_of X G a3, b3, fun p hp => nomatch hp⟩,
    ⟨_, _, F4, PySem.W.mg_of X G a4, b4, fun p hp => nomatch hp⟩,
    ⟨_, _, F5, PySem.W.mg_of X G a5, b5, fun p hp => nomatch hp⟩,
    ⟨_, _, F6, PySem.W.mg_of X G a6, b6, fun p hp => nomatch hp⟩,
    ⟨_, _, F7, PySem.W.mg_of X G a7, b7, fun p hp => nomatch hp⟩,
    ⟨_, _, F8, PySem.W.mg_of X G a8, b8, fun p hp => nomatch hp⟩,
    ⟨_, _, F9, PySem.W.mg_of X G a9, b9, fun p hp => nomatch hp⟩,
    ⟨_, _, F10, PySem.W.mg_of X G a10, b10, fun p hp => nomatch hp⟩,
    ⟨_, _, F11, PySem.W.mg_of X G a11, b11, fun p hp => nomatch hp⟩,
    ⟨_, _, F12, PySem.W.mg_of X G a12, b12, fun p hp => nomatch hp⟩,
    ⟨_, _, F13, PySem.W.mg_of X G a13, b13, fun p hp => nomatch hp⟩,
    ⟨_, _, F14, PySem.W.mg_of X G a14, b14, fun p hp => nomatch hp⟩,
    ⟨_, _, F15, PySem.W.mg_of X G a15, b15, fun p hp => nomatch hp⟩,
    ⟨_, _, F16, PySem.W.mg_of X G a16, b16, fun p hp => nomatch hp⟩,
    ⟨_, _, F17, PySem.W.mg_of X G a17, b17, fun p hp => nomatch hp⟩,
    ⟨_, _, F18, PySem.W.mg_of X G a18, b18, fun p hp => nomatch hp⟩,
    ⟨_, _, F19, PySem.W.mg_of X G a19, b19, fun p hp => by
      simp only [List.mem_cons, List.not_mem_nil, or_false] at hp
      rcases hp with rfl
      all_goals exact ⟨fun s us hin hl => match us, hl with | [_, _], _ => ⟨.of_eq rfl, rfl⟩⟩⟩,
    ⟨_, _, F20, PySem.W.mg_of X G a20, b20, fun p hp => nomatch hp⟩⟩
  exact fnz_law T ⟨F20, PySem.W.mg_of X G a20, b20, fun p hp => nomatch hp⟩
end K04
/-! T04 -/
open PySem PySem.W PyProof.Rows
set_option maxRecDepth 100000 in
set_option maxHeartbeats 0 in
theorem PySem.Challenge.cw_trytwins_k04_rows_and_answers_holds : PySem.Challenge.rw_trytwins_k04_rows_and_answers.Holds := by
  w_on; o_law; k_head; (case hw => w_witness2)
  k_fill
  refine Z.walk_z (l := PySem.Challenge.rw_trytwins_k04_rows_and_answers) (k := 11) (n := 63) (x := "_law_script") (ct := K04.ctLaw) rfl (by decide) rfl ⟨rfl, by decide, by decide⟩ (fun w h Y => PySem.W.kIn_of Y) ?F ?hct
  case hct => exact fun ns hn => K04.law_ct hn
  case F =>
    intro w mg fa h KX G hmg
    refine' K04.all_mk KX G hmg (a0 := ?a0) (l0 := ?l0) (c0 := ?c0) (k0 := ?k0) (a1 := ?a1) (l1 := ?l1) (c1 := ?c1) (k1 := ?k1) (a2 := ?a2) (l2 := ?l2) (c2 := ?c2) (k2 := ?k2) (a3 := ?a3) (l3 := ?l3) (c3 := ?c3) (k3 := ?k3) (a4 := ?a4) (l4 := ?l4) (c4 := ?c4) (k4 := ?k4) (a5 := ?a5) (l5 := ?l5) (c5 := ?c5) (k5 := ?k5) (a6 := ?a6) (l6 := ?l6) (c6 := ?c6) (k6 := ?k6) (a7 := ?a7) (l7 := ?l7) (c7 := ?c7) (k7 := ?k7) (a8 := ?a8) (l8 := ?l8) (c8 := ?c8) (k8 := ?k8) (a9 := ?a9) (l9 := ?l9) (c9 := ?c9) (k9 := ?k9) (a10 := ?a10) (l10 := ?l10) (c10 := ?c10) (k10 := ?k10) (a11 := ?a11) (l11 := ?l11) (c11 := ?c11) (k11 := ?k11) (a12 := ?a12) (l12 := ?l12) (c12 := ?c12) (k12 := ?k12) (a13 := ?a13) (l13 := ?l13) (c13 := ?c13) (k13 := ?k13) (a14 := ?a14) (l14 := ?l14) (c14 := ?c14) (k14 := ?k14) (a15 := ?a15) (l15 := ?l15) (c15 := ?c15) (k15 := ?k15) (a16 := ?a16) (l16 := ?l16) (c16 := ?c16) (k16 := ?k16) (a17 := ?a17) (l17 := ?l17) (c17 := ?c17) (k17 := ?k17) (a18 := ?a18) (l18 := ?l18) (c18 := ?c18) (k18 := ?k18) (a19 := ?a19) (l19 := ?l19) (c19 := ?c19) (k19 := ?k19) (a20 := ?a20) (l20 := ?l20) (c20 := ?c20) (k20 := ?k20) (zb_int := ?zb_int) (zb_len := ?zb_len) (zb_abs := ?zb_abs) (zb_tuple := ?zb_tuple) (zb_list := ?zb_list) (zb_range := ?zb_range) (zb_all := ?zb_all) (zb_isinstance := ?zb_isinstance) (zb_bool := ?zb_bool) (zb_repr := ?zb_repr) (y0_1a := ?y0_1a) (y0_2l := ?y0_2l)
    (case a0 => k_is)
    (case l0 => k_is)
    (case c0 => k_is)
    (case k0 => k_is)
    (case a1 => k_is)
    (case l1 => k_is)
    (case c1 => k_is)
    (case k1 => k_is)
    (case a2 => k_is)
    (case l2 => k_is)
    (case c2 => k_is)
    (case k2 => k_is)
    (case a3 => k_is)
    (case l3 => k_is)
    (case c3 => k_is)
    (case k3 => k_is)
    (case a4 => k_is)
    (case l4 => k_is)
    (case c4 => k_is)
    (case k4 => k_is)
    (case a5 => k_is)
    (case l5 => k_is)
    (case c5 => k_is)
    (case k5 => k_is)
    (case a6 => k_is)
    (case l6 => k_is)
    (case c6 => k_is)
    (case k6 => k_is)
    (case a7 => k_is)
    (case l7 => k_is)
    (case c7 => k_is)
    (case k7 => k_is)
    (case a8 => k_is)
    (case l8 => k_is)
    (case c8 => k_is)
    (case k8 => k_is)
    (case a9 => k_is)
    (case l9 => k_is)
    (case c9 => k_is)
    (case k9 => k_is)
    (case a10 => k_is)
    (case l10 => k_is)
    (case c10 => k_is)
    (case k10 => k_is)
    (case a11 => k_is)
    (case l11 => k_is)
    (case c11 => k_is)
    (case k11 => k_is)
    (case a12 => k_is)
    (case l12 => k_is)
    (case c12 => k_is)
    (case k12 => k_is)
    (case a13 => k_is)
    (case l13 => k_is)
    (case c13 => k_is)
    (case k13 => k_is)
    (case a14 => k_is)
    (case l14 => k_is)
    (case c14 => k_is)
    (case k14 => k_is)
    (case a15 => k_is)
    (case l15 => k_is)
    (case c15 => k_is)
    (case k15 => k_is)
    (case a16 => k_is)
    (case l16 => k_is)
    (case c16 => k_is)
    (case k16 => k_is)
    (case a17 => k_is)
    (case l17 => k_is)
    (case c17 => k_is)
    (case k17 => k_is)
    (case a18 => k_is)
    (case l18 => k_is)
    (case c18 => k_is)
    (case k18 => k_is)
    (case a19 => k_is)
    (case l19 => k_is)
    (case c19 => k_is)
    (case k19 => k_is)
    (case a20 => k_is)
    (case l20 => k_is)
    (case c20 => k_is)
    (case k20 => k_is)
    (case zb_int => k_is)
    (case zb_len => k_is)
    (case zb_abs => k_is)
    (case zb_tuple => k_is)
    (case zb_list => k_is)
    (case zb_range => k_is)
    (case zb_all => k_is)
    (case zb_isinstance => k_is)
    (case zb_bool => k_is)
    (case zb_repr => k_is)
    (case y0_1a => k_is)
    (case y0_2l => k_is)
