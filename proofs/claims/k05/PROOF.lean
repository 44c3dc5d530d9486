import PyProof.Rows.All
import Wide.All
import OpenK.AllK
import Wide.FinOn
import HandS.ForMost
import HandS.Wide
import HandS.Deep
import HandS.TupAny
import HandS.TupMul
import HandS.Zip
import HandS.Flow
import HandS.Style
import KE.SortData
import HandS.IsInst
import HandS.RaiseMore
import KE.DatumOrd
import HandS.SetFor
import KE.GoesMore
import KE.GoesEnum
import PyProof.EqAt
import HandS.Strs
import KE.KDictCopyH
import KE.KUnpackStar
import HandS.Conv
import HandS.Small
import HandS.TupSets
import PyProof.SeqIndex
import KE.KIndexWalk
import PyProof.ReprBulk
import PySem.Challenge.RW_trytwins_k05_whole_joined_by_parts
set_option Elab.async false
set_option linter.all false
/-! Z1 -/
set_option maxRecDepth 100000
/-! the data layer: values as data (PyData), what stands still, what may change -/
namespace L2
open PySem PySem.Spec PyProof.Rows
/-- a key as data -/
def kD : Key → PyData
  | .inl i => .int i
  | .inr x => .str x
/-- a tuple whose object is known: it has no dict of its own -/
def SqN (K : PySem.W.Frag) (H : Hp) (a : Addr) (xs : List V) : Prop :=
  (∃ o, H a = some (.frz o (.tup xs)) ∧ o.dict = none) ∨ ∃ (o : Obj) (its : Array Value) (n : Nat), K.lookup a = some o ∧ o.cls = .type "tuple" ∧ o.dict = none ∧ o.data = .seq its n ∧ its.size ≤ sizeLine ∧ Vals xs its.toList
theorem SqN.t {K : PySem.W.Frag} {H : Hp} {a : Addr} {xs : List V} (h : SqN K H a xs) : SqT K H a xs := by
  rcases h with ⟨o, h, _⟩ | ⟨o, its, n, h1, h2, _, h3, h4, h5⟩
  · exact .inl (.inr ⟨o, h⟩)
  · exact .inr ⟨o, its, n, h1, h2, h3, h4, h5⟩
theorem SqN.of {K : PySem.W.Frag} {H : Hp} {p : Addr} {o : Obj} {xs : List V} (h : o.dict = none) : SqN K (upd H p (.frz o (.tup xs))) p xs := .inl ⟨o, upd_same, h⟩
theorem sqn_mono {K : PySem.W.Frag} {G G' : Hp} (e : ∀ a o, G a = some o → G' a = some o) {a : Addr} {xs : List V} (h : SqN K G a xs) : SqN K G' a xs := by
  rcases h with ⟨o, h, d⟩ | h
  · exact .inl ⟨o, e _ _ h, d⟩
  · exact .inr h
mutual
/-- a value is such data: lists and dicts are tracked -/
inductive Dq (K : PySem.W.Frag) (H : Hp) : V → PyData → Prop
  | non : Dq K H .non .none
  | bl (b : Bool) : Dq K H (.bl b) (.bool b)
  | int (i : Int) : Dq K H (.int i) (.int i)
  | str (x : Str) : Dq K H (.str x) (.str x)
  | lst {a : Addr} {xs : List V} {ds : List PyData} : H a = some (.lst xs) → DqAll K H xs ds → Dq K H (.ref a) (.list ds)
  | tup {a : Addr} {xs : List V} {ds : List PyData} : SqN K H a xs → DqAll K H xs ds → Dq K H (.ref a) (.tuple ds)
  | dic {a : Addr} {kvs : List (Key × V)} {ds : List (PyData × PyData)} : H a = some (.dK kvs) → DqKV K H kvs ds → Dq K H (.ref a) (.dict ds)
inductive DqAll (K : PySem.W.Frag) (H : Hp) : List V → List PyData → Prop
  | nil : DqAll K H [] []
  | cons {v : V} {vs : List V} {d : PyData} {ds : List PyData} : Dq K H v d → DqAll K H vs ds → DqAll K H (v :: vs) (d :: ds)
inductive DqKV (K : PySem.W.Frag) (H : Hp) : List (Key × V) → List (PyData × PyData) → Prop
  | nil : DqKV K H [] []
  | cons {k : Key} {v : V} {vs : List (Key × V)} {d : PyData} {ds : List (PyData × PyData)} : Dq K H v d → DqKV K H vs ds → DqKV K H ((k, v) :: vs) ((kD k, d) :: ds)
end
theorem rd_mono {G G' : Hp} (e : ∀ a o, G a = some o → G' a = some o) {a : Addr} {u : HO} (h : Rd G a u) : Rd G' a u := by
  rcases h with h | ⟨o, h⟩
  · exact .inl (e _ _ h)
  · exact .inr ⟨o, e _ _ h⟩
theorem sqt_mono {K : PySem.W.Frag} {G G' : Hp} (e : ∀ a o, G a = some o → G' a = some o) {a : Addr} {xs : List V} (h : SqT K G a xs) : SqT K G' a xs := by
  rcases h with h | h
  · exact .inl (rd_mono e h)
  · exact .inr h
theorem sql_mono {K : PySem.W.Frag} {G G' : Hp} (e : ∀ a o, G a = some o → G' a = some o) {a : Addr} {xs : List V} (h : SqL K G a xs) : SqL K G' a xs := by
  rcases h with h | h
  · exact .inl (rd_mono e h)
  · exact .inr h
mutual
theorem dp_mono {K : PySem.W.Frag} {G G' : Hp} (e : ∀ a o, G a = some o → G' a = some o) : ∀ (d : PyData) (v : V), Dq K G v d → Dq K G' v d
  | .none, _, h => by cases h; exact .non
  | .bool b, _, h => by cases h; exact .bl b
  | .int i, _, h => by cases h; exact .int i
  | .str x, _, h => by cases h; exact .str x
  | .list ds, _, h => by
    cases h with
    | lst hs ha => exact .lst (e _ _ hs) (dpa_mono e ds _ ha)
  | .tuple ds, _, h => by
    cases h with
    | tup hs ha => exact .tup (sqn_mono e hs) (dpa_mono e ds _ ha)
  | .dict ds, _, h => by
    cases h with
    | dic hs ha => exact .dic (e _ _ hs) (dpk_mono e ds _ ha)
theorem dpa_mono {K : PySem.W.Frag} {G G' : Hp} (e : ∀ a o, G a = some o → G' a = some o) : ∀ (ds : List PyData) (vs : List V), DqAll K G vs ds → DqAll K G' vs ds
  | [], _, h => by cases h; exact .nil
  | d :: ds, _, h => by
    cases h with
    | cons h1 h2 => exact .cons (dp_mono e d _ h1) (dpa_mono e ds _ h2)
theorem dpk_mono {K : PySem.W.Frag} {G G' : Hp} (e : ∀ a o, G a = some o → G' a = some o) : ∀ (ds : List (PyData × PyData)) (vs : List (Key × V)), DqKV K G vs ds → DqKV K G' vs ds
  | [], _, h => by cases h; exact .nil
  | (k, d) :: ds, _, h => by
    cases h with
    | cons h1 h2 => exact .cons (dp_mono e d _ h1) (dpk_mono e ds _ h2)
end
mutual
/-- as the layer's own data -/
theorem Dq.dp {K : PySem.W.Frag} {G : Hp} : ∀ (d : PyData) (v : V), d.canLay0 = true → Dq K G v d → Dp K G v d
  | .none, _, _, h => by cases h; exact .non
  | .bool b, _, _, h => by cases h; exact .bl b
  | .int i, _, _, h => by cases h; exact .int i
  | .str x, _, _, h => by cases h; exact .str x
  | .list ds, _, z, h => by
    cases h with
    | lst hs ha => exact .lst (.inl (.inl hs)) (DqAll.dp ds _ (by simpa [PyData.canLay0] using z) ha)
  | .tuple ds, _, z, h => by
    cases h with
    | tup hs ha => exact .tup hs.t (DqAll.dp ds _ (by simpa [PyData.canLay0] using z) ha)
  | .dict ds, _, z, h => by simp [PyData.canLay0] at z
theorem DqAll.dp {K : PySem.W.Frag} {G : Hp} : ∀ (ds : List PyData) (vs : List V), PyData.canLayAll0 ds = true → DqAll K G vs ds → DpAll K G vs ds
  | [], _, _, h => by cases h; exact .nil
  | d :: ds, _, z, h => by
    simp only [PyData.canLayAll0, Bool.and_eq_true] at z
    cases h with
    | cons h1 h2 => exact .cons (Dq.dp d _ z.1 h1) (DqAll.dp ds _ z.2 h2)
end
theorem DqAll.length {K : PySem.W.Frag} {G : Hp} : ∀ {ds : List PyData} {vs : List V}, DqAll K G vs ds → vs.length = ds.length
  | [], _, h => by cases h; rfl
  | _ :: _, _, h => by
    cases h with
    | cons h1 h2 => simp [DqAll.length h2]
theorem DqAll.get {K : PySem.W.Frag} {G : Hp} : ∀ {ds : List PyData} {vs : List V} {i : Nat} {v : V}, DqAll K G vs ds → vs[i]? = some v → ∃ d, ds[i]? = some d ∧ Dq K G v d
  | [], _, _, _, h, e => by cases h; simp at e
  | _ :: _, _, 0, _, h, e => by
    cases h with
    | cons h1 h2 => simp at e; subst e; exact ⟨_, rfl, h1⟩
  | _ :: _, _, i + 1, _, h, e => by
    cases h with
    | cons h1 h2 =>
      obtain ⟨d, e1, h3⟩ := DqAll.get (i := i) h2 (by simpa using e)
      exact ⟨d, by simpa using e1, h3⟩
theorem DqAll.get' {K : PySem.W.Frag} {G : Hp} : ∀ {ds : List PyData} {vs : List V} {i : Nat} {d : PyData}, DqAll K G vs ds → ds[i]? = some d → ∃ v, vs[i]? = some v ∧ Dq K G v d
  | [], _, _, _, _, e => by simp at e
  | _ :: _, _, 0, _, h, e => by
    cases h with
    | cons h1 h2 => simp at e; subst e; exact ⟨_, rfl, h1⟩
  | _ :: _, _, i + 1, _, h, e => by
    cases h with
    | cons h1 h2 =>
      obtain ⟨d, e1, h3⟩ := DqAll.get' (i := i) h2 (by simpa using e)
      exact ⟨d, by simpa using e1, h3⟩
theorem DqAll.append {K : PySem.W.Frag} {G : Hp} : ∀ {ds es : List PyData} {vs ws : List V}, DqAll K G vs ds → DqAll K G ws es → DqAll K G (vs ++ ws) (ds ++ es)
  | [], _, _, _, h, h' => by cases h; exact h'
  | _ :: _, _, _, _, h, h' => by
    cases h with
    | cons h1 h2 => exact .cons h1 (DqAll.append h2 h')
theorem DqAll.take {K : PySem.W.Frag} {G : Hp} : ∀ {ds : List PyData} {vs : List V} (n : Nat), DqAll K G vs ds → DqAll K G (vs.take n) (ds.take n)
  | _, _, 0, _ => .nil
  | [], _, _ + 1, h => by cases h; exact .nil
  | _ :: _, _, n + 1, h => by
    cases h with
    | cons h1 h2 => exact .cons h1 (DqAll.take n h2)
theorem DqAll.drop {K : PySem.W.Frag} {G : Hp} : ∀ {ds : List PyData} {vs : List V} (n : Nat), DqAll K G vs ds → DqAll K G (vs.drop n) (ds.drop n)
  | _, _, 0, h => h
  | [], _, _ + 1, h => by cases h; exact .nil
  | _ :: _, _, n + 1, h => by
    cases h with
    | cons h1 h2 => exact DqAll.drop n h2
theorem DqAll.ints {K : PySem.W.Frag} {G : Hp} : ∀ {ns : List Int} {vs : List V}, DqAll K G vs (ns.map PyData.int) → vs = ns.map V.int
  | [], _, h => by cases h; rfl
  | _ :: _, _, h => by
    cases h with
    | cons h1 h2 => cases h1; rw [DqAll.ints h2]; rfl
theorem DqAll.bools {K : PySem.W.Frag} {G : Hp} : ∀ {ns : List Bool} {vs : List V}, DqAll K G vs (ns.map PyData.bool) → vs = ns.map V.bl
  | [], _, h => by cases h; rfl
  | _ :: _, _, h => by
    cases h with
    | cons h1 h2 => cases h1; rw [DqAll.bools h2]; rfl
theorem DqAll.of_ints {K : PySem.W.Frag} {G : Hp} : ∀ (ns : List Int), DqAll K G (ns.map V.int) (ns.map PyData.int)
  | [] => .nil
  | n :: ns => .cons (.int n) (DqAll.of_ints ns)
end L2
namespace Z
open PySem PySem.Spec PyProof.Rows L2
inductive Zv where
  | d (x : PyData)
  | pot
  | own (xs : List PyData)
  | scr (ns : List Int)
  | od (kvs : List (PyData × PyData))
/-- owned: may change -/
def owZ : Zv → Bool
  | .own _ => true
  | .od _ => true
  | _ => false
/-- the pots' numbers -/
def Pb (c : Nat) (g s t : Int) : Prop := 0 ≤ g ∧ g.natAbs < 2 ^ 4000 ∧ 0 ≤ s ∧ s < 2 ^ 64 ∧ 0 ≤ t ∧ t ≤ c
/-- one state beside another, later one: P the pots, G what stands still, H all -/
structure Stp (P : Addr → Prop) (G H : Hp) (P' : Addr → Prop) (G' H' : Hp) : Prop where
  pp : ∀ a, P a → P' a
  gg : ∀ a o, G a = some o → G' a = some o
  fr : ∀ a o, H a = some o → ¬ P a → H' a = some o
  th : ∀ a, H a ≠ none → H' a ≠ none
  nw : ∀ a, G a = none → H a ≠ none → G' a = none
  np : ∀ a, P' a → P a ∨ H a = none
/-- a list's, a tuple's size is within the line -/
def Szd : HO → Prop
  | .lst xs => xs.length ≤ sizeLine
  | .tup xs => xs.length ≤ sizeLine
  | .frz _ (.lst xs) => xs.length ≤ sizeLine
  | .frz _ (.tup xs) => xs.length ≤ sizeLine
  | _ => True
structure Wd (P : Addr → Prop) (G H : Hp) (c : Nat) : Prop where
  sz : ∀ a o, H a = some o → Szd o
  gh : ∀ a o, G a = some o → H a = some o
  pg : ∀ a, P a → G a = none
  pot : ∀ a, P a → ∃ g s t : Int, H a = some (.lst [.int g, .int s, .int t]) ∧ Pb c g s t
section
variable {P P1 P2 : Addr → Prop} {G H G1 H1 G2 H2 : Hp} {c c1 : Nat} {K : PySem.W.Frag}
theorem Stp.refl : Stp P G H P G H := ⟨fun _ h => h, fun _ _ h => h, fun _ _ h _ => h, fun _ h => h, fun _ h _ => h, fun _ h => .inl h⟩
theorem Stp.trans (a : Stp P G H P1 G1 H1) (b : Stp P1 G1 H1 P2 G2 H2) : Stp P G H P2 G2 H2 where
  pp := fun x h => b.pp x (a.pp x h)
  gg := fun x o h => b.gg x o (a.gg x o h)
  fr := fun x o h n => b.fr x o (a.fr x o h n) fun z => by
    rcases a.np x z with z | z
    · exact n z
    · rw [z] at h; cases h
  th := fun x h => b.th x (a.th x h)
  nw := fun x h h' => b.nw x (a.nw x h h') (a.th x h')
  np := fun x h => by
    rcases b.np x h with z | z
    · exact a.np x z
    · right
      cases q : H x with
      | none => rfl
      | some o => exact absurd z (a.th x (by rw [q]; simp))
/-- a new object that stands still -/
theorem Stp.new {p : Addr} {o : HO} (w : Wd P G H c) (hp : H p = none) : Stp P G H P (upd G p o) (upd H p o) where
  pp := fun _ h => h
  gg := fun x u h => by rw [upd_ne (ne_of_none (w.gh _ _ h) hp)]; exact h
  fr := fun x u h _ => by rw [upd_ne (ne_of_none h hp)]; exact h
  th := fun x h => by
    by_cases e : x = p
    · subst e; exact absurd hp h
    · rw [upd_ne e]; exact h
  nw := fun x h h' => by
    by_cases e : x = p
    · subst e; exact absurd hp h'
    · rw [upd_ne e]; exact h
  np := fun _ h => .inl h
theorem Wd.sz_upd {p : Addr} {o : HO} (w : Wd P G H c) (z : Szd o) : ∀ a u, upd H p o a = some u → Szd u := fun a u h => by
  by_cases e : a = p
  · subst e; rw [upd_same] at h; cases h; exact z
  · rw [upd_ne e] at h; exact w.sz _ _ h
theorem Wd.new {p : Addr} {o : HO} (w : Wd P G H c) (hp : H p = none) (z : Szd o) : Wd P (upd G p o) (upd H p o) c where
  sz := w.sz_upd z
  gh := fun x u h => by
    by_cases e : x = p
    · subst e; rw [upd_same] at h ⊢; exact h
    · rw [upd_ne e] at h ⊢; exact w.gh _ _ h
  pg := fun x h => by
    obtain ⟨g, s, t, e1, _⟩ := w.pot x h
    rw [upd_ne (ne_of_none e1 hp)]
    exact w.pg x h
  pot := fun x h => by
    obtain ⟨g, s, t, e1, b⟩ := w.pot x h
    exact ⟨g, s, t, by rw [upd_ne (ne_of_none e1 hp)]; exact e1, b⟩
theorem Pb.mono {g s t : Int} (h : c ≤ c1) (b : Pb c g s t) : Pb c1 g s t := by
  obtain ⟨h1, h2, h3, h4, h5, h6⟩ := b
  exact ⟨h1, h2, h3, h4, h5, by omega⟩
theorem Wd.mono (h : c ≤ c1) (w : Wd P G H c) : Wd P G H c1 :=
  ⟨w.sz, w.gh, w.pg, fun a p => let ⟨g, s, t, e, b⟩ := w.pot a p; ⟨g, s, t, e, b.mono h⟩⟩
/-- an object that only H knows: free of G and of the pots -/
structure Ob (P : Addr → Prop) (G H : Hp) (a : Addr) (o : HO) : Prop where
  g : G a = none
  p : ¬ P a
  h : H a = some o
theorem Ob.step {a : Addr} {o : HO} (x : Ob P G H a o) (s : Stp P G H P1 G1 H1) : Ob P1 G1 H1 a o :=
  ⟨s.nw a x.g (by rw [x.h]; simp), fun z => (s.np a z).elim x.p (fun q => by rw [x.h] at q; cases q), s.fr a o x.h x.p⟩
/-- a new object of H alone -/
theorem Stp.newH {p : Addr} {o : HO} (w : Wd P G H c) (hp : H p = none) : Stp P G H P G (upd H p o) :=
  ⟨fun _ h => h, fun _ _ h => h, fun x u h _ => by rw [upd_ne (ne_of_none h hp)]; exact h, fun x h => by
    by_cases e : x = p
    · subst e; exact absurd hp h
    · rw [upd_ne e]; exact h, fun _ h _ => h, fun _ h => .inl h⟩
theorem Wd.newH {p : Addr} {o : HO} (w : Wd P G H c) (hp : H p = none) (z : Szd o) : Wd P G (upd H p o) c where
  sz := w.sz_upd z
  gh := fun x u h => by rw [upd_ne (ne_of_none (w.gh _ _ h) hp)]; exact w.gh _ _ h
  pg := w.pg
  pot := fun x h => by
    obtain ⟨g, s, t, e1, b⟩ := w.pot x h
    exact ⟨g, s, t, by rw [upd_ne (ne_of_none e1 hp)]; exact e1, b⟩
theorem Ob.new {p : Addr} {o : HO} (w : Wd P G H c) (hp : H p = none) : Ob P G (upd H p o) p o := by
  refine ⟨?_, fun z => ?_, upd_same⟩
  · cases q : G p with
    | none => rfl
    | some u => rw [w.gh _ _ q] at hp; cases hp
  · obtain ⟨g, s, t, e1, _⟩ := w.pot p z
    rw [e1] at hp; cases hp
/-- such an object changes -/
theorem Wd.chg {a : Addr} {o o' : HO} (w : Wd P G H c) (x : Ob P G H a o) (z : Szd o') : Wd P G (upd H a o') c where
  sz := w.sz_upd z
  gh := fun b u h => by
    have e : b ≠ a := fun z => by subst z; rw [x.g] at h; cases h
    rw [upd_ne e]; exact w.gh _ _ h
  pg := w.pg
  pot := fun b h => by
    obtain ⟨g, s, t, e1, q⟩ := w.pot b h
    have e : b ≠ a := fun z => x.p (z ▸ h)
    exact ⟨g, s, t, by rw [upd_ne e]; exact e1, q⟩
theorem Ob.chg {a : Addr} {o o' : HO} (x : Ob P G H a o) : Ob P G (upd H a o') a o' := ⟨x.g, x.p, upd_same⟩
/-- .. seen from a state that didn't have it -/
theorem Stp.chg {a : Addr} {o o' : HO} (s : Stp P G H P1 G1 H1) (n : H a = none) (x : Ob P1 G1 H1 a o) : Stp P G H P1 G1 (upd H1 a o') where
  pp := s.pp
  gg := s.gg
  fr := fun b u h hn => by rw [upd_ne (ne_of_none h n)]; exact s.fr b u h hn
  th := fun b h => by
    by_cases e : b = a
    · subst e; exact absurd n h
    · rw [upd_ne e]; exact s.th b h
  nw := s.nw
  np := s.np
/-- it stands still from now on -/
theorem Wd.still {a : Addr} {o : HO} (w : Wd P G H c) (x : Ob P G H a o) : Wd P (upd G a o) H c where
  sz := w.sz
  gh := fun b u h => by
    by_cases e : b = a
    · subst e; rw [upd_same] at h; cases h; exact x.h
    · rw [upd_ne e] at h; exact w.gh _ _ h
  pg := fun b h => by
    have e : b ≠ a := fun z => x.p (z ▸ h)
    rw [upd_ne e]; exact w.pg b h
  pot := w.pot
theorem Stp.still {a : Addr} {o : HO} (s : Stp P G H P1 G1 H1) (n : H a = none) (x : Ob P1 G1 H1 a o) : Stp P G H P1 (upd G1 a o) H1 where
  pp := s.pp
  gg := fun b u h => by
    have e : b ≠ a := fun z => by subst z; have := s.gg _ _ h; rw [x.g] at this; cases this
    rw [upd_ne e]; exact s.gg _ _ h
  fr := s.fr
  th := s.th
  nw := fun b h h' => by
    have e : b ≠ a := fun z => by subst z; exact h' n
    rw [upd_ne e]; exact s.nw b h h'
  np := s.np
end
/-- a value is such data -/
def ZR (K : PySem.W.Frag) (P : Addr → Prop) (G H H0 : Hp) : Zv → V → Prop
  | .d x, v => Dq K G v x
  | .pot, v => ∃ a, v = .ref a ∧ P a
  | .own xs, v => ∃ a vs, v = .ref a ∧ H0 a = none ∧ Ob P G H a (.lst vs) ∧ DqAll K G vs xs
  | .scr ns, v => ∃ a, v = .ref a ∧ SqL K G a (ns.map V.int)
  | .od kvs, v => ∃ a us, v = .ref a ∧ H0 a = none ∧ Ob P G H a (.dK us) ∧ DqKV K G us kvs
inductive ZRs (K : PySem.W.Frag) (P : Addr → Prop) (G H H0 : Hp) : List Zv → List V → Prop
  | nil : ZRs K P G H H0 [] []
  | cons {z : Zv} {v : V} {zs : List Zv} {vs : List V} : ZR K P G H H0 z v → ZRs K P G H H0 zs vs → ZRs K P G H H0 (z :: zs) (v :: vs)
section
variable {P P1 : Addr → Prop} {G H G1 H1 H0 : Hp} {c c1 : Nat} {K : PySem.W.Frag}
theorem ZR.mono (s : Stp P G H P1 G1 H1) : ∀ {z : Zv} {v : V}, ZR K P G H H0 z v → ZR K P1 G1 H1 H0 z v
  | .d x, _, h => dp_mono s.gg x _ h
  | .pot, _, ⟨a, e, h⟩ => ⟨a, e, s.pp a h⟩
  | .own _, _, ⟨a, vs, e, n, o, h⟩ => ⟨a, vs, e, n, o.step s, dpa_mono s.gg _ _ h⟩
  | .scr _, _, ⟨a, e, h⟩ => ⟨a, e, sql_mono s.gg h⟩
  | .od _, _, ⟨a, vs, e, n, o, h⟩ => ⟨a, vs, e, n, o.step s, dpk_mono s.gg _ _ h⟩
theorem ZRs.mono (s : Stp P G H P1 G1 H1) : ∀ {zs : List Zv} {vs : List V}, ZRs K P G H H0 zs vs → ZRs K P1 G1 H1 H0 zs vs
  | _, _, .nil => .nil
  | _, _, .cons h t => .cons (h.mono s) (ZRs.mono s t)
/-- as data to be looked at -/
def dv? : Zv → Option PyData
  | .d x => some x
  | .own xs => some (.list xs)
  | .scr ns => some (.list (ns.map .int))
  | .od kvs => some (.dict kvs)
  | .pot => none
theorem Wd.lsz {K : PySem.W.Frag} {a : Addr} {vs : List V} (w : Wd P G H c) (h : SqL K H a vs) : vs.length ≤ sizeLine := by
  rcases h with (h | ⟨o, h⟩) | ⟨o, its, n, _, _, _, _, hz, r⟩
  · exact w.sz _ _ h
  · exact w.sz _ _ h
  · have e := r.length
    simp only [Array.length_toList] at e
    omega
theorem Wd.tsz {K : PySem.W.Frag} {a : Addr} {vs : List V} (w : Wd P G H c) (h : SqT K H a vs) : vs.length ≤ sizeLine := by
  rcases h with (h | ⟨o, h⟩) | ⟨o, its, n, _, _, _, hz, r⟩
  · exact w.sz _ _ h
  · exact w.sz _ _ h
  · have e := r.length
    simp only [Array.length_toList] at e
    omega
/-- a list, a tuple -/
theorem ZR.lst (w : Wd P G H c) : ∀ {z : Zv} {v : V} {xs : List PyData}, ZR K P G H H0 z v → dv? z = some (.list xs) → ∃ a vs, v = .ref a ∧ SqL K H a vs ∧ DqAll K G vs xs
  | .d x, _, _, h, e => by
    cases e
    cases h with
    | lst hs ha => exact ⟨_, _, rfl, SqL.of (w.gh _ _ hs), ha⟩
  | .own xs, _, _, ⟨a, vs, e1, _, o, h⟩, e => by
    cases e; subst e1
    exact ⟨a, vs, rfl, SqL.of o.h, h⟩
  | .scr ns, _, _, ⟨a, e1, h⟩, e => by
    cases e; subst e1
    exact ⟨a, _, rfl, sql_mono w.gh h, DqAll.of_ints ns⟩
  | .od _, _, _, _, e => by cases e
  | .pot, _, _, _, e => by cases e
theorem ZR.look (w : Wd P G H c) : ∀ {z : Zv} {v : V} {x : PyData}, ZR K P G H H0 z v → dv? z = some x → (∀ xs, x ≠ .list xs) → Dq K H v x
  | .d x, _, _, h, e, _ => by cases e; exact dp_mono w.gh _ _ h
  | .own xs, _, _, _, e, n => by cases e; exact absurd rfl (n _)
  | .scr xs, _, _, _, e, n => by cases e; exact absurd rfl (n _)
  | .od kvs, _, _, ⟨a, us, e1, _, o, h⟩, e, _ => by cases e; subst e1; exact .dic o.h (dpk_mono w.gh _ _ h)
  | .pot, _, _, _, e, _ => by cases e
/-- as the layer's own data -/
theorem ZR.dp (w : Wd P G H c) {z : Zv} {v : V} {x : PyData} (r : ZR K P G H H0 z v) (e : dv? z = some x) (l : x.canLay0 = true) : Dp K H v x := by
  by_cases q : ∃ xs, x = .list xs
  · obtain ⟨xs, rfl⟩ := q
    obtain ⟨a, vs, rfl, hs, ha⟩ := r.lst w e
    exact .lst hs (DqAll.dp _ _ (by simpa [PyData.canLay0] using l) (dpa_mono w.gh _ _ ha))
  · exact (r.look w e fun xs e2 => q ⟨xs, e2⟩).dp _ _ l
theorem ZR.tup (w : Wd P G H c) : ∀ {z : Zv} {v : V} {xs : List PyData}, ZR K P G H H0 z v → dv? z = some (.tuple xs) → ∃ a vs, v = .ref a ∧ SqT K H a vs ∧ SqN K G a vs ∧ DqAll K G vs xs
  | .d x, _, _, h, e => by
    cases e
    cases h with
    | tup hs ha => exact ⟨_, _, rfl, sqt_mono w.gh hs.t, hs, ha⟩
  | .own xs, _, _, _, e => by cases e
  | .scr xs, _, _, _, e => by cases e
  | .od xs, _, _, _, e => by cases e
  | .pot, _, _, _, e => by cases e
end
/-! ### slots -/
abbrev Ga := List (Option Zv)
def get : Ga → Nat → Option Zv
  | [], _ => none
  | z :: _, 0 => z
  | _ :: r, i + 1 => get r i
def put : Ga → Nat → Option Zv → Ga
  | [], _, _ => []
  | _ :: r, 0, z => z :: r
  | y :: r, i + 1, z => y :: put r i z
theorem get_put : ∀ (Γ : Ga) (i j : Nat) (z : Option Zv), get (put Γ i z) j = if i = j ∧ i < Γ.length then z else get Γ j
  | [], i, j, z => by simp [put, get]
  | y :: r, 0, 0, z => by simp [put, get]
  | y :: r, 0, j + 1, z => by simp [put, get]
  | y :: r, i + 1, 0, z => by simp [put, get]
  | y :: r, i + 1, j + 1, z => by simp [put, get, get_put r i j z]
theorem put_len : ∀ (Γ : Ga) (i : Nat) (z : Option Zv), (put Γ i z).length = Γ.length
  | [], _, _ => rfl
  | _ :: _, 0, _ => rfl
  | _ :: r, i + 1, z => by simp [put, put_len r i z]
structure Bs where
  P : Addr → Prop
  G : Hp
  H : Hp
structure As (K : PySem.W.Frag) (B : Bs) (P : Addr → Prop) (G H : Hp) (c : Nat) (Γ : Ga) (σ : L2.St) : Prop where
  st : Stp B.P B.G B.H P G H
  wd : Wd P G H c
  sl : ∀ i z, get Γ i = some z → ∃ v, σ[i]? = some (some v) ∧ ZR K P G H B.H z v
  ln : Γ.length ≤ σ.length
  dj : ∀ i j x y, i ≠ j → get Γ i = some x → get Γ j = some y → owZ x = true → owZ y = true → σ[i]? ≠ σ[j]?
section
variable {P P1 : Addr → Prop} {G H G1 H1 : Hp} {c c1 : Nat} {K : PySem.W.Frag} {B : Bs} {Γ : Ga} {σ : L2.St}
theorem As.step (x : As K B P G H c Γ σ) (s : Stp P G H P1 G1 H1) (w : Wd P1 G1 H1 c1) : As K B P1 G1 H1 c1 Γ σ :=
  ⟨x.st.trans s, w, fun i z h => let ⟨v, e, r⟩ := x.sl i z h; ⟨v, e, r.mono s⟩, x.ln, x.dj⟩
end
end Z
/-! ZN -/
set_option maxRecDepth 100000
/-! tuples that are made: their objects are known -/
namespace Z
open PySem PySem.Spec PyProof.Rows L2
/-- a new tuple's object -/
abbrev tObj (its : List Value) : Obj := { cls := .type "tuple", data := .seq its.toArray }
section
variable {X : Cx} {pins : List (Addr × Obj)} {σ : L2.St} {H : Hp} {s : Shared}
theorem tup_laid {its : List Value} {xs : List V} (I : Inv X pins σ H s) (r : Vals xs its) (z : xs.length ≤ sizeLine) : Inv X pins σ (upd H s.heap.objs.size (.frz (tObj its) (.tup xs))) { s with heap := s.heap.push (tObj its) } :=
  I.laid (t' := s.toks) (fun _ _ e => Heap.get?_push_of_some _ e) (Nat.le_refl _) ⟨Heap.get?_push_size _ rfl, z, its, r, IsTup.new _ _⟩
theorem new_free (I : Inv X pins σ H s) : H s.heap.objs.size = none := I.hok.fresh (Nat.le_refl _)
end
def tTupN (t : TA) : TE := fun σ H Q => t σ H fun xs H1 => xs.length ≤ sizeLine ∧ ∀ p o, H1 p = none → o.dict = none → Q (.ref p) (upd H1 p (.frz o (.tup xs)))
section
variable {X : Cx}
theorem pe_tupN {es : List Expr} {t : TA} {pos : Pos} {k} (h : PA X es t) : PE X (.Tuple es k pos) (tTupN t) := by
  refine ⟨fun pins s σ H Q I hq => wpAny_Tuple_spliced (thn (h.run pos pins s σ H _ I hq) fun us s1 ⟨xs, H1, I1, r, z, q⟩ => ⟨Nat.le_trans (Nat.le_of_eq r.length.symm) z, ?_⟩)⟩
  exact ⟨.ref _, _, tup_laid I1 r z, rfl, q _ _ (new_free I1) rfl⟩
theorem call_tuple_N : CallR X (.type "tuple") (fun xs H Q => ∃ p ys, xs = [.ref p] ∧ ((SqL X.K H p ys ∧ ∀ l o, H l = none → o.dict = none → Q (.ref l) (upd H l (.frz o (.tup ys)))) ∨ (SqT X.K H p ys ∧ Q (.ref p) H))) := by
  rintro pins s σ H xs us Q I r ⟨p, ys, rfl, h⟩
  rw [Vals.ref1 r]
  rcases h with ⟨hq, q⟩ | ⟨hq, q⟩
  · obtain ⟨its, rv, pl, hz⟩ := I.list hq
    have hl := rv.length
    refine call_tuple_list pl.isList (fun h2 kp => ?_) (by rw [List.size_toArray]; omega)
    have J : Inv X pins σ H { s with heap := h2 } := I.kept (t' := s.toks) kp
    exact ⟨.ref _, _, tup_laid J rv hz, rfl, q _ _ (new_free J) rfl⟩
  · obtain ⟨its, rv, pl, hz⟩ := I.tuple hq
    exact call_tuple_same pl ⟨.ref _, H, I, rfl, q⟩
/-- t + u -/
def rCatN (K : PySem.W.Frag) : R2 := fun x y H Q => ∃ a b xs ys, x = .ref a ∧ y = .ref b ∧ SqT K H a xs ∧ SqT K H b ys ∧ xs.length + ys.length ≤ sizeLine ∧
  (xs = [] → Q (.ref b) H) ∧ (xs ≠ [] → ys = [] → Q (.ref a) H) ∧ (xs ≠ [] → ys ≠ [] → ∀ p o, H p = none → o.dict = none → Q (.ref p) (upd H p (.frz o (.tup (xs ++ ys)))))
theorem op_catN : OpR X (binaryOp .Add) (rCatN X.K) := by
  rintro pins s σ H x y v u Q I rx ry ⟨a, b, xs, ys, rfl, rfl, ha, hb, hz, q0, q1, q2⟩
  cases rx
  cases ry
  obtain ⟨is1, v1, p1, _⟩ := I.tuple ha
  obtain ⟨is2, v2, p2, _⟩ := I.tuple hb
  by_cases hx : xs = []
  · subst hx
    cases v1
    exact cat_tup0 p1 p2 ⟨.ref _, H, I, rfl, q0 rfl⟩
  · refine HT.cat_tup p1 p2 (fun e => hx (v1.nil_iff.mp e)) (fun e => ⟨.ref _, H, I, rfl, q1 hx (v2.nil_iff.mp e)⟩) (fun e => ?_) (by rw [← v1.length, ← v2.length]; exact hz)
    exact ⟨.ref _, _, tup_laid I (v1.append v2) (by rw [List.length_append]; exact hz), rfl, q2 hx (fun e2 => e (v2.nil_iff.mpr e2)) _ _ (new_free I) rfl⟩
/-- t[lo:hi] -/
def rSlN (K : PySem.W.Frag) : V → Option Int → Option Int → Hp → VK → Prop := fun x lo hi H Q => ∃ a xs, x = .ref a ∧ SqT K H a xs ∧
  (HT.sIx xs.length 0 lo = 0 ∧ HT.sIx xs.length xs.length hi = xs.length → Q (.ref a) H) ∧ (¬ (HT.sIx xs.length 0 lo = 0 ∧ HT.sIx xs.length xs.length hi = xs.length) → ∀ p o, H p = none → o.dict = none → Q (.ref p) (upd H p (.frz o (.tup (cutV xs lo hi)))))
theorem sl_tupN : SlR X (rSlN X.K) := by
  rintro pins s σ H x v vl vu lo hi sl Q I rx hs pl pu ⟨a, xs, rfl, hx, q1, q2⟩
  cases rx
  obtain ⟨its, rv, ht, hz⟩ := I.tuple hx
  have size : its.toArray.size = xs.length := by rw [List.size_toArray]; exact rv.length.symm
  refine ⟨"tuple", _, slot_tuple_getitem.lookup, ht.typeIs, ?_⟩
  by_cases hw : HT.sIx xs.length 0 lo = 0 ∧ HT.sIx xs.length xs.length hi = xs.length
  · exact getItem_tuple_whole ht hs pl pu (by rw [size]; exact hw) ⟨.ref _, H, I, rfl, q1 hw⟩
  · refine HT.getItem_tuple_cut ht hs pl pu (by rw [size]; exact hw) ?_ (by rw [size]; exact hz)
    rw [size]
    exact ⟨.ref _, _, tup_laid I ((rv.drop (HT.sIx xs.length 0 lo)).take (HT.sIx xs.length xs.length hi - HT.sIx xs.length 0 lo)) (Nat.le_trans (cutV_length xs lo hi) hz), rfl, q2 hw _ _ (new_free I) rfl⟩
/-- t * n -/
def rRepN (K : PySem.W.Frag) : R2 := fun x y H Q => ∃ l k xs, x = .ref l ∧ y = .int k ∧ SqT K H l xs ∧ xs ≠ [] ∧ 2 ≤ k ∧ k ≤ 1000 ∧ xs.length ≤ 1000 ∧ ∀ p o, H p = none → o.dict = none → Q (.ref p) (upd H p (.frz o (.tup (List.replicate k.toNat xs).flatten)))
theorem rep_small {k n : Nat} (h1 : k ≤ 1000) (h2 : n ≤ 1000) : k * n ≤ 1000000 := Nat.mul_le_mul h1 h2
theorem op_repN : OpR X (binaryOp .Mult) (rRepN X.K) := by
  rintro pins s σ H x y v u Q I rx ry ⟨l, k, xs, rfl, rfl, hT, hne, h1, h2, hz, q⟩
  cases rx
  obtain ⟨tk, rfl⟩ := ry
  obtain ⟨its, rv, ⟨⟨cls, dd, data, sl⟩, ho, hc, n, hd⟩, hs⟩ := I.tuple hT
  simp only at hc hd
  subst hc hd
  have le : its.length = xs.length := rv.length.symm
  have emp : its.toArray.isEmpty = false := by
    cases its with
    | nil => exact absurd (List.eq_nil_of_length_eq_zero le.symm) hne
    | cons a b => rfl
  have sz : its.toArray.size = xs.length := by rw [List.size_toArray, le]
  have prod := rep_small (k := k.toNat) (n := xs.length) (by omega) hz
  have sz3 : ((its.toArray.size : Nat) : Int) * k ≤ 1000000 := by
    have e : ((its.toArray.size : Nat) : Int) * k = ((xs.length * k.toNat : Nat) : Int) := by rw [sz, Int.natCast_mul, Int.toNat_of_nonneg (by omega)]
    rw [e, Nat.mul_comm]
    omega
  have flen : (List.replicate k.toNat its).flatten.length ≤ sizeLine := by
    rw [lm_len_rep_flat, le, sizeLine_eq]
    omega
  have d1 : (decide (k < -(2 ^ 63)) || decide (k ≥ 2 ^ 63)) = false := by
    rw [Bool.or_eq_false_iff, decide_eq_false_iff_not, decide_eq_false_iff_not]
    exact ⟨by omega, by omega⟩
  have d2 : (its.toArray.isEmpty || k == 1) = false := by rw [emp, Bool.false_or]; exact beq_eq_false_iff_ne.mpr (by omega)
  have d3 : (decide (k ≤ 0) || its.toArray.isEmpty) = false := by rw [emp, Bool.or_false]; exact decide_eq_false (by omega)
  have d4 : Builtin.Tuple.tupleTooMany (((its.toArray.size : Nat) : Int) * k) = false := by unfold Builtin.Tuple.tupleTooMany; rw [sizeLine_eq]; exact decide_eq_false (by omega)
  have d5 : ¬ ((its.toArray.size : Nat) : Int) * k > (2 ^ 63 - 1) / 8 := by omega
  have mul := tuple_mulW l its.toArray n dd sl k tk d1 d2 d3 d5 d4 (by rw [size_rep, List.size_toArray]; exact flen)
  have vl : Vals (List.replicate k.toNat xs).flatten (List.replicate k.toNat its).flatten := rv.rep k.toNat
  have ln : (List.replicate k.toNat xs).flatten.length ≤ sizeLine := by rw [vl.length]; exact flen
  refine wpAny_binaryOp_repeat_ref (T := "tuple") (U := "int") (by decide) ⟨_, ho, rfl⟩ (fun s2 => typeIs_int s2 k tk) noFill_tuple_mul F.fills_int_mul F.slot_int_rmul repeat_tuple F.slot_int_index.lookup
    (call_meets F.slot_int_rmul (typeIs_int s k tk) F.entry_int_rmul (F.args_int_rmul_2 _ _) (int_rmul_tuple k tk l its.toArray n dd sl) ⟨ho, rfl, ⟨_, ho, rfl⟩, ?_⟩)
  refine call_meets F.slot_tuple_mul ⟨_, ho, rfl⟩ F.entry_tuple_mul (F.args_tuple_mul_2 _ _) mul ⟨ho, ?_⟩
  rw [size_rep]
  exact ⟨.ref _, _, tup_laid I vl ln, rfl, q _ _ (new_free I) rfl⟩
end
end Z
/-! Z2 -/
set_option maxRecDepth 100000
/-! the program's text in short form, and what it means upon data -/
namespace Z
open PySem PySem.Spec PyProof.Rows L2
inductive Bf where
  | len | abs | max | min | sum | all | any | sorted | tuple | list | int | str | repr | bool | range | zip | enum | rev | set
inductive Mf where
  | index | get | join | lend
/-- some more: joined forms -/
inductive Xk where
  | lenset | srtset
  | dsp (ks : List Key)
  | rev | upper | repl | lrng
  | gix (j : Nat) | gget (j : Nat) | gkeys (j : Nat)
/-- targets -/
inductive Tg where
  | n (i : Nat)
  | t (ts : List Tg)
  | s (ts : List Tg) (i : Nat)      -- a, b, *rest
inductive IE where
  | var (i : Nat)
  | int (n : Int) | bl (b : Bool) | non | str (s : Str)
  | glb (k : Nat)
  | tup (es : List IE) | lst (es : List IE)
  | bin (op : Operator) (a b : IE)
  | neg (a : IE) | not (a : IE) | and (a b : IE) | or (a b : IE)
  | cmp (op : CmpOp) (a b : IE) | chn (op op' : CmpOp) (a b c : IE)
  | ite (t a b : IE)
  | ix (a i : IE)
  | sl (a : IE) (lo hi : Option IE)
  | call (f : Nat) (es : List IE)
  | blt (b : Bf) (es : List IE)
  | isi (e : IE) (T : String)
  | mth (m : Mf) (o : IE) (es : List IE)
  | ext (k : Xk) (es : List IE)
  | lc (ow : List Nat) (tg : Tg) (it : IE) (cond : Option IE) (elt : IE)
  | lc2 (ow : List Nat) (tg : Tg) (it : IE) (cond : Option IE) (ow2 : List Nat) (tg2 : Tg) (it2 : IE) (cond2 : Option IE) (elt : IE)
inductive IS where
  | asg (t : Tg) (e : IE)
  | par (is : List Nat) (es : List IE)
  | parN (i j : Nat) (e : IE)
  | aug (i : Nat) (op : Operator) (e : IE)
  | app (i : Nat) (e : IE)
  | ext (i : Nat) (e : IE)
  | frz (i : Nat)
  | new (i : Nat) (e : IE)
  | ret (e : IE) | retN
  | pst (i : Nat) (j : Int) (e : IE)
  | retP (es : List IE)
  | ite (t : IE) (a b : List IS)
  | loop (t : Tg) (it : IE) (body : List IS)
  | pass | brk | cont
  | newd (i : Nat) (ks : List Key) (es : List IE)
  | newr (i : Nat) (es : List IE) (e : IE)
  | newc (i : Nat) (a b : IE)
  | sti (i : Nat) (k e : IE)
  | updd (i : Nat) (e : IE)
  | nope
/-! ### operations upon data -/
abbrev KD := PyData → Prop
/-- a dict's key, a dict's item -/
def keyD : PyData → Option Key
  | .int i => some (.inl i)
  | .str x => some (.inr x)
  | _ => none
def dLk : List (PyData × PyData) → Key → Option PyData
  | [], _ => none
  | (x, d) :: r, k => if keyD x = some k then some d else dLk r k
def ints? : List PyData → Option (List Int)
  | [] => some []
  | .int i :: r => (ints? r).map (i :: ·)
  | _ :: _ => none
def bools? : List PyData → Option (List Bool)
  | [] => some []
  | .bool i :: r => (bools? r).map (i :: ·)
  | _ :: _ => none
/-- two factors that are not both very wide -/
def CMulZ (i j : Int) : Prop := CMulW i j ∨ CMul i j
def wBin (op : Operator) (x y : PyData) (Q : KD) : Prop :=
  match op, x, y with
  | .Add, .int i, .int j => Q (.int (i + j))
  | .Sub, .int i, .int j => Q (.int (i - j))
  | .Mult, .int i, .int j => CMulZ i j ∧ Q (.int (i * j))
  | .Mult, .tuple xs, .int k => (xs ≠ [] ∧ 2 ≤ k ∧ k ≤ 1000 ∧ xs.length ≤ 1000) ∧ Q (.tuple (List.replicate k.toNat xs).flatten)
  | .Mod, .int i, .int j => 0 < j ∧ Q (.int (i % j))
  | .FloorDiv, .int i, .int j => CDivW i j ∧ Q (.int (i / j))
  | .Pow, .int i, .int j => (0 ≤ j ∧ j ≤ 10000 ∧ i.natAbs < 2 ^ 10000) ∧ Q (.int (i ^ j.toNat))
  | .Add, .tuple xs, .tuple ys => xs.length + ys.length ≤ sizeLine ∧ Q (.tuple (xs ++ ys))
  | .Add, .list xs, .list ys => xs.length + ys.length ≤ sizeLine ∧ Q (.list (xs ++ ys))
  | .Add, .str x, .str y => x.length + y.length ≤ sizeLine ∧ Q (.str (x ++ y))
  | .BitAnd, .int i, .int j => Q (.int (Builtin.bitAnd i j))
  | .BitOr, .int i, .int j => Q (.int (Builtin.bitOr i j))
  | .RShift, .int i, .int j => 0 ≤ j ∧ Q (.int (i / 2 ^ j.toNat))
  | .LShift, .int i, .int j => CPow i j ∧ Q (.int (i * 2 ^ j.toNat))
  | _, _, _ => False
def lexLtD (xs ys : List PyData) : Option Bool := match ints? xs, ints? ys with
  | some a, some b => some (HT.lexLt a b)
  | _, _ => none
def isNoneD : PyData → Bool
  | .none => true
  | _ => false
def eqOk (x y : PyData) : Prop := match x, y with
  | .str _, .str _ => True
  | .tuple _, .tuple [] => True
  | _, _ => SeqAt.shaped x = true ∧ SeqAt.shaped y = true
def neOk (x y : PyData) : Prop := match x, y with
  | .str _, .str _ => True
  | _, _ => SeqAt.shaped x = true ∧ SeqAt.shaped y = true
def wCmp (op : CmpOp) (x y : PyData) (Q : Bool → Prop) : Prop :=
  match op with
  | .Eq => eqOk x y ∧ Q (PyData.eqv x y)
  | .NotEq => neOk x y ∧ Q (!PyData.eqv x y)
  | .Lt => match x, y with
    | .int i, .int j => Q (decide (i < j))
    | .tuple xs, .tuple ys => ∃ b, lexLtD xs ys = some b ∧ Q b
    | _, _ => False
  | .LtE => match x, y with
    | .int i, .int j => Q (decide (i ≤ j))
    | _, _ => False
  | .Gt => match x, y with
    | .int i, .int j => Q (decide (j < i))
    | _, _ => False
  | .GtE => match x, y with
    | .int i, .int j => Q (decide (j ≤ i))
    | _, _ => False
  | .In => match y with
    | .list ds => SeqAt.shaped x = true ∧ SeqAt.shaped (.list ds) = true ∧ Q (ds.any fun z => PyData.eqv z x)
    | .tuple ds => SeqAt.shaped x = true ∧ SeqAt.shaped (.tuple ds) = true ∧ Q (ds.any fun z => PyData.eqv z x)
    | .dict kvs => ∃ k, keyD x = some k ∧ Q (dLk kvs k).isSome
    | _ => False
  | .NotIn => match y with
    | .list ds => SeqAt.shaped x = true ∧ SeqAt.shaped (.list ds) = true ∧ Q (!ds.any fun z => PyData.eqv z x)
    | .tuple ds => SeqAt.shaped x = true ∧ SeqAt.shaped (.tuple ds) = true ∧ Q (!ds.any fun z => PyData.eqv z x)
    | .dict kvs => ∃ k, keyD x = some k ∧ Q (!(dLk kvs k).isSome)
    | _ => False
  | .Is => match y with
    | .none => Q (isNoneD x)
    | .bool b => match x with | .bool c => Q (c == b) | _ => False
    | _ => False
  | .IsNot => match y with
    | .none => Q (!isNoneD x)
    | .bool b => match x with | .bool c => Q (!(c == b)) | _ => False
    | _ => False
/-- a value's truth -/
def truD : PyData → Option Bool
  | .none => some false
  | .bool b => some b
  | .int i => some (i != 0)
  | .list xs => some (!xs.isEmpty)
  | .tuple xs => some (!xs.isEmpty)
  | _ => none
def wIx (x y : PyData) (Q : KD) : Prop :=
  match x, y with
  | .list xs, .int i => ∃ v, atI xs i = some v ∧ Q v
  | .tuple xs, .int i => ∃ v, atI xs i = some v ∧ Q v
  | .str z, .int i => z.length ≤ sizeLine ∧ ∃ c, atI z.cps.toList i = some c ∧ Q (.str ⟨#[c]⟩)
  | .dict kvs, y => ∃ k v, keyD y = some k ∧ dLk kvs k = some v ∧ Q v
  | _, _ => False
def cutD (xs : List PyData) (lo hi : Option Int) : List PyData := (xs.drop (HT.sIx xs.length 0 lo)).take (HT.sIx xs.length xs.length hi - HT.sIx xs.length 0 lo)
def wSl (x : PyData) (lo hi : Option Int) (Q : KD) : Prop :=
  match x with
  | .list xs => Q (.list (cutD xs lo hi))
  | .tuple xs => Q (.tuple (cutD xs lo hi))
  | .str z => z.length ≤ sizeLine ∧ Q (.str (cutS z lo hi))
  | _ => False
def isiD (d : PyData) (T : String) : Bool :=
  match d with
  | .none => false
  | .bool _ => T == "bool" || T == "int"
  | .int _ => T == "int"
  | .str _ => T == "str"
  | .list _ => T == "list"
  | .tuple _ => T == "tuple"
  | .dict _ => T == "dict"
def maxD : List Int → Int
  | [] => 0
  | [x] => x
  | x :: r => if maxD r < x then x else maxD r
def minD : List Int → Int
  | [] => 0
  | [x] => x
  | x :: r => if x < minD r then x else minD r
def insI (x : Int) : List Int → List Int
  | [] => [x]
  | y :: r => if x ≤ y then x :: y :: r else y :: insI x r
def sortI : List Int → List Int
  | [] => []
  | x :: r => insI x (sortI r)
def seqD : PyData → Option (List PyData)
  | .list xs => some xs
  | .tuple xs => some xs
  | _ => none
/-- of this its repr may be asked -/
def reprOk : PyData → Bool
  | .str _ => false
  | d => d.canLay0
/-- the order of sorted(..) -/
def srtLe (a b : PyData) : Bool := PySem.W.dataLe false (fun d : PyData => d) a b
def srtOk (xs : List PyData) : Prop := PyData.canLayAll0 xs = true ∧ PySem.W.AllAlike xs ∧ PySem.W.Sortable xs ∧ ∀ d ∈ xs, d.depth ≤ 60
def wBlt (b : Bf) (as : List PyData) (Q : KD) : Prop :=
  match b, as with
  | .len, [.list xs] => Q (.int xs.length)
  | .len, [.tuple xs] => Q (.int xs.length)
  | .len, [.str z] => z.length ≤ sizeLine ∧ Q (.int z.length)
  | .abs, [.int i] => Q (.int i.natAbs)
  | .max, [.int i, .int j] => Q (.int (max i j))
  | .min, [.int i, .int j] => Q (.int (min i j))
  | .max, [.list xs] => ∃ ns, ints? xs = some ns ∧ ns ≠ [] ∧ Q (.int (maxD ns))
  | .min, [.list xs] => ∃ ns, ints? xs = some ns ∧ ns ≠ [] ∧ Q (.int (minD ns))
  | .max, [.tuple xs] => ∃ ns, ints? xs = some ns ∧ ns ≠ [] ∧ Q (.int (maxD ns))
  | .min, [.tuple xs] => ∃ ns, ints? xs = some ns ∧ ns ≠ [] ∧ Q (.int (minD ns))
  | .sum, [.list xs] => ∃ ns, ints? xs = some ns ∧ Q (.int ns.sum)
  | .all, [.list xs] => ∃ bs, bools? xs = some bs ∧ Q (.bool (bs.all id))
  | .any, [.list xs] => ∃ bs, bools? xs = some bs ∧ Q (.bool (bs.any id))
  | .tuple, [.list xs] => Q (.tuple xs)
  | .tuple, [.tuple xs] => Q (.tuple xs)
  | .list, [.list xs] => Q (.list xs)
  | .list, [.tuple xs] => Q (.list xs)
  | .int, [.int i] => Q (.int i)
  | .int, [.bool b] => Q (.int (if b then 1 else 0))
  | .str, [.int i] => i.natAbs.log2 < 1920 ∧ Q (.str (Str.ofString (toString i)))
  | .str, [.bool b] => Q (.str (if b then "True" else "False"))
  | .bool, [.int i] => Q (.bool (i != 0))
  | .bool, [.bool b] => Q (.bool b)
  | .repr, [d] => reprOk d = true ∧ d.showable = true ∧ d.hasDict = false ∧ d.depth ≤ 60 ∧ d.shown.length ≤ sizeLine ∧ Q (.str d.shown)
  | .sorted, [.list xs] => (∃ ns, ints? xs = some ns ∧ ns.length < 64 ∧ Q (.list ((sortI ns).map .int))) ∨ (srtOk xs ∧ ∀ r, r.Perm xs → r.Pairwise (fun a b => srtLe a b = true) → Q (.list r))
  | _, _ => False
/-- each once -/
def dedI : List Int → List Int
  | [] => []
  | x :: r => if x ∈ dedI r then dedI r else x :: dedI r
def wMth (m : Mf) (o : PyData) (as : List PyData) (Q : KD) : Prop :=
  match m, o, as with
  | .index, .list ds, [d] => SeqAt.shaped (.list ds) = true ∧ SeqAt.shaped d = true ∧ ∃ j z, ds[j]? = some z ∧ PyData.eqv z d = true ∧ (∀ (m : Nat) (z' : PyData), m < j → ds[m]? = some z' → PyData.eqv z' d = false) ∧ Q (.int (j : Nat))
  | .index, .tuple ds, [d] => SeqAt.shaped (.tuple ds) = true ∧ SeqAt.shaped d = true ∧ ∃ j z, ds[j]? = some z ∧ PyData.eqv z d = true ∧ (∀ (m : Nat) (z' : PyData), m < j → ds[m]? = some z' → PyData.eqv z' d = false) ∧ Q (.int (j : Nat))
  | .lend, .tuple xs, [.tuple ys] => ∃ ns ms, ints? xs = some ns ∧ ints? ys = some ms ∧ ms.length ≤ 4000 ∧ (dedI ns).length / 4 ≤ (dedI ms).length ∧ Q (.int (dedI (ns.filter fun k => !decide (k ∈ ms))).length)
  | .get, .dict kvs, [x] => ∃ k, keyD x = some k ∧ Q ((dLk kvs k).getD .none)
  | .get, .dict kvs, [x, d] => ∃ k, keyD x = some k ∧ Q ((dLk kvs k).getD d)
  | _, _, _ => False
def xLen (as : List PyData) (Q : KD) : Prop := match as with
  | [.list xs] => ∃ ns, ints? xs = some ns ∧ ns.length ≤ 4000 ∧ Q (.int (dedI ns).length)
  | [.tuple xs] => ∃ ns, ints? xs = some ns ∧ ns.length ≤ 4000 ∧ Q (.int (dedI ns).length)
  | _ => False
/-- a tuple of ints -/
abbrev tpI (ns : List Int) : PyData := .tuple (ns.map .int)
def xSrt (as : List PyData) (Q : KD) : Prop := match as with
  | [.tuple xs] => ∃ ns, ints? xs = some ns ∧ ns.length ≤ 4000 ∧ (dedI ns).length < 64 ∧ Q (.list ((sortI (dedI ns)).map .int))
  | [.list xs] => ∃ ls : List (List Int), xs = ls.map tpI ∧ ls.length < 64 ∧ (∀ l ∈ ls, l ≠ []) ∧ ∀ r : List (List Int), r.Nodup → (∀ l, l ∈ r ↔ l ∈ ls) → r.Pairwise (fun a b => srtLe (tpI a) (tpI b) = true) → Q (.list (r.map tpI))
  | _ => False
def xRev (as : List PyData) (Q : KD) : Prop := match as with
  | [.list xs] => xs.length ≤ sizeLine ∧ Q (.list xs.reverse)
  | [.tuple xs] => xs.length ≤ sizeLine ∧ Q (.tuple xs.reverse)
  | _ => False
def xRepl (as : List PyData) (Q : KD) : Prop := match as with
  | [.list xs, .int k] => (-(2 ^ 63) ≤ k ∧ k < 2 ^ 63 ∧ xs.length * k.toNat ≤ sizeLine) ∧ Q (.list (List.replicate k.toNat xs).flatten)
  | _ => False
def xUp (as : List PyData) (Q : KD) : Prop := match as with
  | [.str z] => z.length ≤ 5592405 ∧ Q (.str (Txt.upper z))
  | _ => False
def xGix (d : PyData) (as : List PyData) (Q : KD) : Prop := match d, as with
  | .dict kvs, [x] => ∃ k v, keyD x = some k ∧ dLk kvs k = some v ∧ Q v
  | _, _ => False
def xGget (d : PyData) (as : List PyData) (Q : KD) : Prop := match d, as with
  | .dict kvs, [x, e] => ∃ k : Str, keyD x = some (.inr k) ∧ Q ((dLk kvs (.inr k)).getD e)
  | _, _ => False
def xGkeys (d : PyData) (as : List PyData) (Q : KD) : Prop := match d, as with
  | .dict kvs, [] => Q (.list (kvs.map (·.1)))
  | _, _ => False
def rangeD (a b : Int) : List PyData := (List.range (b - a).toNat).map fun i => PyData.int (a + (i : Nat))
def xLrng (as : List PyData) (Q : KD) : Prop := match as with
  | [.int j] => (-(2 ^ 62) ≤ j ∧ j ≤ 16777216) ∧ Q (.list (rangeD 0 j))
  | _ => False
def wX (Gd : Nat → PyData) (k : Xk) (as : List PyData) (Q : KD) : Prop :=
  match k with
  | .lenset => xLen as Q
  | .srtset => xSrt as Q
  | .dsp ks => ks.length = as.length ∧ ks.Nodup ∧ Q (.dict ((ks.map kD).zip as))
  | .rev => xRev as Q
  | .repl => xRepl as Q
  | .upper => xUp as Q
  | .lrng => xLrng as Q
  | .gix j => xGix (Gd (1000 + j)) as Q
  | .gget j => xGget (Gd (1000 + j)) as Q
  | .gkeys j => xGkeys (Gd (1000 + j)) as Q
/-- what has the method -/
def mRc (m : Mf) (d : PyData) : Prop := match m, d with
  | .index, .list _ => True
  | .index, .tuple _ => True
  | .lend, .tuple xs => (ints? xs).isSome = true ∧ xs.length ≤ 4000
  | .get, .dict _ => True
  | _, _ => False
/-! ### what the text means -/
abbrev KZ := Zv → Nat → Prop
abbrev Ct := List Zv → Nat → KZ → Prop
def dz (z : Zv) (Q : KD) : Prop := match z with | .d x => Q x | _ => False
/-- .. to be looked at -/
def dv (z : Zv) (Q : KD) : Prop := match z with | .d x => Q x | .own xs => Q (.list xs) | .scr ns => Q (.list (ns.map .int)) | .od kvs => Q (.dict kvs) | .pot => False
/-- the data of some values -/
def dzs : List Zv → (List PyData → Prop) → Prop
  | [], Q => Q []
  | .d x :: r, Q => dzs r fun xs => Q (x :: xs)
  | _ :: _, _ => False
def dvs : List Zv → (List PyData → Prop) → Prop
  | [], Q => Q []
  | .d x :: r, Q => dvs r fun xs => Q (x :: xs)
  | .own ys :: r, Q => dvs r fun xs => Q (.list ys :: xs)
  | .scr ns :: r, Q => dvs r fun xs => Q (.list (ns.map .int) :: xs)
  | .od kvs :: r, Q => dvs r fun xs => Q (.dict kvs :: xs)
  | .pot :: _, _ => False
/-- none of them owned -/
def cln : List Zv → (List Zv → Prop) → Prop
  | [], Q => Q []
  | .d x :: r, Q => cln r fun zs => Q (.d x :: zs)
  | .pot :: r, Q => cln r fun zs => Q (.pot :: zs)
  | .scr ns :: r, Q => cln r fun zs => Q (.scr ns :: zs)
  | .own _ :: _, _ => False
  | .od _ :: _, _ => False
def tru (d : PyData) (Q : Bool → Prop) : Prop := match truD d with | some b => Q b | none => False
mutual
def wTg : Tg → PyData → Ga → (Ga → Prop) → Prop
  | .n i, x, Γ, Q => Q (put Γ i (some (.d x)))
  | .t ts, x, Γ, Q => match x with
    | .tuple xs => xs.length = ts.length ∧ wTgs ts xs Γ Q
    | _ => False
  | .s ts i, x, Γ, Q => match x with
    | .tuple xs => ts.length ≤ xs.length ∧ wTgs ts (xs.take ts.length) Γ fun Γ' => Q (put Γ' i (some (.d (.list (xs.drop ts.length)))))
    | _ => False
def wTgs : List Tg → List PyData → Ga → (Ga → Prop) → Prop
  | [], _, Γ, Q => Q Γ
  | t :: ts, xs, Γ, Q => match xs with
    | x :: r => wTg t x Γ fun Γ' => wTgs ts r Γ' Q
    | [] => False
end
def wipeG (Γ : Ga) : List Nat → Ga
  | [] => Γ
  | v :: vs => put (wipeG Γ vs) v none
/-- a comprehension: f tells the items of one turn -/
def lcW (f : PyData → Nat → (List PyData → Nat → Prop) → Prop) : List PyData → Nat → (List PyData → Nat → Prop) → Prop
  | [], c, Q => Q [] c
  | d :: ds, c, Q => f d c fun r c1 => lcW f ds c1 fun rs c2 => Q (r ++ rs) c2
def enumD : Nat → List PyData → List PyData
  | _, [] => []
  | n, d :: ds => .tuple [.int n, d] :: enumD (n + 1) ds
def zipD : List PyData → List PyData → List PyData
  | d :: ds, e :: es => .tuple [d, e] :: zipD ds es
  | _, _ => []
def wIt (b : Option Bf) (zs : List PyData) (Q : List PyData → Prop) : Prop :=
  match b, zs with
  | none, [.list xs] => Q xs
  | none, [.tuple xs] => Q xs
  | some .range, [.int j] => j ≤ 16777216 ∧ -(2 ^ 62) ≤ j ∧ Q (rangeD 0 j)
  | some .range, [.int i, .int j] => (j - i ≤ 16777216 ∧ -(2 ^ 62) ≤ i ∧ i < 2 ^ 62 ∧ -(2 ^ 62) ≤ j ∧ j < 2 ^ 62) ∧ Q (rangeD i j)
  | some .zip, [.list xs, .list ys] => Q (zipD xs ys)
  | some .zip, [.tuple xs, .tuple ys] => Q (zipD xs ys)
  | some .zip, [.list xs, .tuple ys] => Q (zipD xs ys)
  | some .zip, [.tuple xs, .list ys] => Q (zipD xs ys)
  | some .enum, [.list xs] => Q (enumD 0 xs)
  | some .enum, [.tuple xs] => Q (enumD 0 xs)
  | _, _ => False
/-- .. the list so far handed on -/
def lcA (f : PyData → List PyData → Nat → (List PyData → Nat → Prop) → Prop) : List PyData → List PyData → Nat → (List PyData → Nat → Prop) → Prop
  | [], acc, c, Q => Q acc c
  | d :: ds, acc, c, Q => f d acc c fun acc1 c1 => lcA f ds acc1 c1 Q
/-- no owned lists -/
def clnG : Ga → Ga
  | [] => []
  | some (.own _) :: r => none :: clnG r
  | some (.od _) :: r => none :: clnG r
  | z :: r => z :: clnG r
abbrev WE := Ga → Nat → KZ → Prop
abbrev WA := Ga → Nat → (List Zv → Nat → Prop) → Prop
abbrev WT := Ga → Nat → (Bool → Nat → Prop) → Prop
abbrev WI := Ga → Nat → (List PyData → Nat → Prop) → Prop
abbrev WO := Ga → Nat → (Option Int → Nat → Prop) → Prop
/-- a piece of text as a value, as a test, as what is walked -/
structure W3 where
  e : WE
  t : WT
  i : WI
def tOf (e : WE) : WT := fun Γ c Q => e Γ c fun x c1 => dv x fun dx => tru dx fun b => Q b c1
def iOf (e : WE) : WI := fun Γ c Q => e Γ c fun z c1 => dz z fun d => wIt none [d] fun r => Q r c1
def mk3 (e : WE) : W3 := ⟨e, tOf e, iOf e⟩
def wVar (i : Nat) : WE := fun Γ c Q => match get Γ i with
  | some z => Q z c
  | none => False
def wTup (a : WA) : WE := fun Γ c Q => a Γ c fun zs c1 => dzs zs fun ds => ds.length ≤ sizeLine ∧ Q (.d (.tuple ds)) c1
def wLst (a : WA) : WE := fun Γ c Q => a Γ c fun zs c1 => dzs zs fun ds => ds.length ≤ sizeLine ∧ Q (.d (.list ds)) c1
def wBi (op : Operator) (a b : WE) : WE := fun Γ c Q => a Γ c fun x c1 => b Γ c1 fun y c2 => dv x fun dx => dv y fun dy => wBin op dx dy fun r => Q (.d r) c2
def wNeg (a : WE) : WE := fun Γ c Q => a Γ c fun x c1 => dv x fun dx => match dx with
  | .int i => Q (.d (.int (-i))) c1
  | _ => False
def wNot (a : WE) : WE := fun Γ c Q => a Γ c fun x c1 => dv x fun dx => tru dx fun b => Q (.d (.bool (!b))) c1
def wAnd (a b : WE) : WE := fun Γ c Q => a Γ c fun x c1 => dz x fun dx => tru dx fun t => match t with
  | true => b Γ c1 Q
  | false => Q (.d dx) c1
def wOr (a b : WE) : WE := fun Γ c Q => a Γ c fun x c1 => dz x fun dx => tru dx fun t => match t with
  | false => b Γ c1 Q
  | true => Q (.d dx) c1
def wTAnd (a b : WT) : WT := fun Γ c Q => a Γ c fun x c1 => match x with
  | true => b Γ c1 Q
  | false => Q false c1
def wTOr (a b : WT) : WT := fun Γ c Q => a Γ c fun x c1 => match x with
  | true => Q true c1
  | false => b Γ c1 Q
def wTNot (a : WT) : WT := fun Γ c Q => a Γ c fun x c1 => Q (!x) c1
def wCm (op : CmpOp) (a b : WE) : WE := fun Γ c Q => a Γ c fun x c1 => b Γ c1 fun y c2 => dv x fun dx => dv y fun dy => wCmp op dx dy fun r => Q (.d (.bool r)) c2
def wTCm (op : CmpOp) (a b : WE) : WT := fun Γ c Q => a Γ c fun x c1 => b Γ c1 fun y c2 => dv x fun dx => dv y fun dy => wCmp op dx dy fun r => Q r c2
def wChn (op op' : CmpOp) (a b e : WE) : WE := fun Γ c Q => a Γ c fun x c1 => b Γ c1 fun y c2 => dv x fun dx => dv y fun dy => wCmp op dx dy fun r => match r with
  | true => e Γ c2 fun z c3 => dv z fun dw => wCmp op' dy dw fun r' => Q (.d (.bool r')) c3
  | false => Q (.d (.bool false)) c2
def wTChn (op op' : CmpOp) (a b e : WE) : WT := fun Γ c Q => a Γ c fun x c1 => b Γ c1 fun y c2 => dv x fun dx => dv y fun dy => wCmp op dx dy fun r => match r with
  | true => e Γ c2 fun z c3 => dv z fun dw => wCmp op' dy dw fun r' => Q r' c3
  | false => Q false c2
def wIte (t : WT) (a b : WE) : WE := fun Γ c Q => t Γ c fun r c1 => match r with
  | true => a Γ c1 Q
  | false => b Γ c1 Q
/-- a pot's cells are any numbers within its bounds -/
def wPotR (c : Nat) (j : Int) (Q : KD) : Prop := ∀ g s t : Int, Pb c g s t → ∃ v, atI [PyData.int g, .int s, .int t] j = some v ∧ Q v
def wIxz (x y : Zv) (c : Nat) (Q : KZ) : Prop := match x with
  | .pot => dv y fun dy => match dy with
    | .int j => wPotR c j fun r => Q (.d r) c
    | _ => False
  | x => dv x fun dx => dv y fun dy => wIx dx dy fun r => Q (.d r) c
def wIxx (a i : WE) : WE := fun Γ c Q => a Γ c fun x c1 => i Γ c1 fun y c2 => wIxz x y c2 Q
def wSlc (a : WE) (lo hi : WO) : WE := fun Γ c Q => a Γ c fun x c1 => lo Γ c1 fun l c2 => hi Γ c2 fun h c3 => dv x fun dx => wSl dx l h fun r => Q (.d r) c3
def wCall (f : Ct) (a : WA) : WE := fun Γ c Q => a Γ c fun zs c1 => cln zs fun zs => f zs c1 Q
def wBl (b : Bf) (a : WA) : WE := fun Γ c Q => a Γ c fun zs c1 => dvs zs fun ds => wBlt b ds fun r => Q (.d r) c1
def wIw (b : Bf) (a : WA) : WI := fun Γ c Q => a Γ c fun zs c1 => dzs zs fun ds => wIt (some b) ds fun r => Q r c1
def wIsi (e : WE) (T : String) : WE := fun Γ c Q => e Γ c fun x c1 => dv x fun dx => Q (.d (.bool (isiD dx T))) c1
def mSel (m : Mf) : List Zv → (List PyData → Prop) → Prop := match m with
  | .get => dzs
  | _ => dvs
def xSel (k : Xk) : List Zv → (List PyData → Prop) → Prop := match k with
  | .gget _ => dzs
  | .gix _ => dzs
  | .dsp _ => dzs
  | _ => dvs
def wMt (m : Mf) (o : WE) (a : WA) : WE := fun Γ c Q => o Γ c fun x c1 => dv x fun dx => mRc m dx ∧ a Γ c1 fun zs c2 => mSel m zs fun ds => wMth m dx ds fun r => Q (.d r) c2
def wExt (Gd : Nat → PyData) (k : Xk) (a : WA) : WE := fun Γ c Q => a Γ c fun zs c1 => xSel k zs fun ds => wX Gd k ds fun r => Q (.d r) c1
def wLc (ow : List Nat) (tg : Tg) (it : WI) (cond : WT) (elt : WE) : WE := fun Γ c Q => it Γ c fun ds c1 => lcW (fun d c Q => wTg tg d (wipeG Γ ow) fun Γ1 => cond Γ1 c fun b c2 => match b with
  | true => elt Γ1 c2 fun z c3 => dz z fun x => Q [x] c3
  | false => Q [] c2) ds c1 fun rs c2 => Q (.d (.list rs)) c2
def wLc2 (ow : List Nat) (tg : Tg) (it : WI) (cond : WT) (ow2 : List Nat) (tg2 : Tg) (it2 : WI) (cond2 : WT) (elt : WE) : WE := fun Γ c Q => it Γ c fun ds c1 => lcA (fun d acc c Q => wTg tg d (clnG (wipeG Γ ow)) fun Γ1 => cond Γ1 c fun b c2 => match b with
  | true => it2 Γ1 c2 fun es c3 => lcA (fun e acc c Q => wTg tg2 e (wipeG Γ1 ow2) fun Γ2 => cond2 Γ2 c fun b c2 => match b with
    | true => elt Γ2 c2 fun z c3 => dz z fun x => acc.length < sizeLine ∧ Q (acc ++ [x]) c3
    | false => Q acc c2) es acc c3 Q
  | false => Q acc c2) ds [] c1 fun rs c2 => Q (.d (.list rs)) c2
def woNone : WO := fun _ c Q => Q none c
def woSome (e : WE) : WO := fun Γ c Q => e Γ c fun x c1 => dv x fun dx => match dx with
  | .int i => Q (some i) c1
  | _ => False
def wYes : WT := fun _ c Q => Q true c
def wNil : WA := fun _ c Q => Q [] c
def wCons (e : WE) (a : WA) : WA := fun Γ c Q => e Γ c fun z c1 => a Γ c1 fun zs c2 => Q (z :: zs) c2
def wCon (x : PyData) : WE := fun _ c Q => Q (.d x) c
def bltI : Bf → WE → WA → W3
  | .range, e, a => ⟨e, tOf e, wIw .range a⟩
  | .zip, e, a => ⟨e, tOf e, wIw .zip a⟩
  | .enum, e, a => ⟨e, tOf e, wIw .enum a⟩
  | .rev, e, a => ⟨e, tOf e, wIw .rev a⟩
  | _, e, _ => mk3 e
/-- a pot's cell is written -/
def potW (c : Nat) (j v : Int) (Q : Nat → Prop) : Prop := if j = 0 then 0 ≤ v ∧ v.natAbs < 2 ^ 4000 ∧ Q c else if j = 2 then 0 ≤ v ∧ v ≤ c + 1 ∧ Q (c + 1) else False
section
variable (F : Nat → Ct) (Gd : Nat → PyData)
mutual
def w3 : IE → W3
  | .var i => mk3 (wVar i)
  | .int n => mk3 (wCon (.int n))
  | .bl b => mk3 (wCon (.bool b))
  | .non => mk3 (wCon .none)
  | .str s => mk3 (wCon (.str s))
  | .glb k => mk3 (wCon (Gd k))
  | .tup es => mk3 (wTup (w3s es))
  | .lst es => mk3 (wLst (w3s es))
  | .bin op a b => mk3 (wBi op (w3 a).e (w3 b).e)
  | .neg a => mk3 (wNeg (w3 a).e)
  | .not a => ⟨wNot (w3 a).e, wTNot (w3 a).t, iOf (wNot (w3 a).e)⟩
  | .and a b => ⟨wAnd (w3 a).e (w3 b).e, wTAnd (w3 a).t (w3 b).t, iOf (wAnd (w3 a).e (w3 b).e)⟩
  | .or a b => ⟨wOr (w3 a).e (w3 b).e, wTOr (w3 a).t (w3 b).t, iOf (wOr (w3 a).e (w3 b).e)⟩
  | .cmp op a b => ⟨wCm op (w3 a).e (w3 b).e, wTCm op (w3 a).e (w3 b).e, iOf (wCm op (w3 a).e (w3 b).e)⟩
  | .chn op op' a b e => ⟨wChn op op' (w3 a).e (w3 b).e (w3 e).e, wTChn op op' (w3 a).e (w3 b).e (w3 e).e, iOf (wChn op op' (w3 a).e (w3 b).e (w3 e).e)⟩
  | .ite t a b => mk3 (wIte (w3 t).t (w3 a).e (w3 b).e)
  | .ix a i => mk3 (wIxx (w3 a).e (w3 i).e)
  | .sl a lo hi => mk3 (wSlc (w3 a).e (w3o lo) (w3o hi))
  | .call f es => mk3 (wCall (F f) (w3s es))
  | .blt b es => bltI b (wBl b (w3s es)) (w3s es)
  | .isi e T => mk3 (wIsi (w3 e).e T)
  | .mth m o es => mk3 (wMt m (w3 o).e (w3s es))
  | .ext k es => mk3 (wExt Gd k (w3s es))
  | .lc ow tg it cond elt => mk3 (wLc ow tg (w3 it).i (w3c cond) (w3 elt).e)
  | .lc2 ow tg it cond ow2 tg2 it2 cond2 elt => mk3 (wLc2 ow tg (w3 it).i (w3c cond) ow2 tg2 (w3 it2).i (w3c cond2) (w3 elt).e)
def w3s : List IE → WA
  | [] => wNil
  | e :: es => wCons (w3 e).e (w3s es)
def w3o : Option IE → WO
  | none => woNone
  | some e => woSome (w3 e).e
def w3c : Option IE → WT
  | none => wYes
  | some e => (w3 e).t
end
abbrev wE (e : IE) : WE := (w3 F Gd e).e
abbrev wT (e : IE) : WT := (w3 F Gd e).t
abbrev wI (e : IE) : WI := (w3 F Gd e).i
abbrev wEs (es : List IE) : WA := w3s F Gd es
/-! ### statements -/
structure Rt where
  nx : Ga → Nat → Prop
  rt : KZ
  bk : Ga → Nat → Prop
  ct : Ga → Nat → Prop
def dPut (kvs : List (PyData × PyData)) (k : Key) (v : PyData) : List (PyData × PyData) :=
  if (kvs.any fun kv => decide (keyD kv.1 = some k)) = true then kvs.map (fun kv => if keyD kv.1 = some k then (kv.1, v) else kv) else kvs ++ [(kD k, v)]
def dMrg (kvs : List (PyData × PyData)) : List (PyData × PyData) → Option (List (PyData × PyData))
  | [] => some kvs
  | (x, v) :: r => match keyD x with
    | some k => dMrg (dPut kvs k v) r
    | none => none
/-- a loop: f is a turn -/
def forW (f : PyData → Ga → Nat → Rt → Prop) : List PyData → Ga → Nat → Rt → Prop
  | [], Γ, c, R => R.nx Γ c
  | d :: ds, Γ, c, R => f d Γ c { nx := fun Γ1 c1 => forW f ds Γ1 c1 R, rt := R.rt, bk := R.nx, ct := fun Γ1 c1 => forW f ds Γ1 c1 R }
def putZ (Γ : Ga) (i : Nat) (z : Zv) : Ga := put Γ i (some z)
def putZs : Ga → List Nat → List Zv → Ga
  | Γ, i :: is, z :: zs => putZs (putZ Γ i z) is zs
  | Γ, _, _ => Γ
/-- an owned list given away stands still -/
def stl : Zv → Zv
  | .own xs => .d (.list xs)
  | .od kvs => .d (.dict kvs)
  | z => z
def tgN : Tg → Option Nat
  | .n i => some i
  | _ => none
mutual
def wS : IS → Ga → Nat → Rt → Prop
  | .asg t e, Γ, c, R => wE F Gd e Γ c fun z c1 => match tgN t with
    | some i => cln [z] fun _ => R.nx (putZ Γ i z) c1
    | none => dz z fun x => wTg t x Γ fun Γ1 => R.nx Γ1 c1
  | .par is es, Γ, c, R => wEs F Gd es Γ c fun zs c1 => cln zs fun zs => R.nx (putZs Γ is zs) c1
  | .parN i j e, Γ, c, R => wE F Gd e Γ c fun z c1 => cln [z] fun _ => R.nx (putZ (putZ Γ i z) j (.own [])) c1
  | .aug i op e, Γ, c, R => match get Γ i with
    | some (.d (.int a)) => wE F Gd e Γ c fun z c1 => dv z fun y => match op, y with
      | .Add, .int b => R.nx (putZ Γ i (.d (.int (a + b)))) c1
      | .Sub, .int b => R.nx (putZ Γ i (.d (.int (a - b)))) c1
      | _, _ => False
    | _ => False
  | .new i e, Γ, c, R => wE F Gd e Γ c fun z c1 => dz z fun x => match x with
    | .list xs => R.nx (putZ Γ i (.own xs)) c1
    | _ => False
  | .app i e, Γ, c, R => match get Γ i with
    | some (.own xs) => wE F Gd e Γ c fun z c1 => dz z fun y => xs.length < sizeLine ∧ R.nx (putZ Γ i (.own (xs ++ [y]))) c1
    | _ => False
  | .ext i e, Γ, c, R => match get Γ i with
    | some (.own xs) => wE F Gd e Γ c fun z c1 => dz z fun y => match y with
      | .list ys => xs.length + ys.length ≤ sizeLine ∧ R.nx (putZ Γ i (.own (xs ++ ys))) c1
      | _ => False
    | _ => False
  | .frz i, Γ, c, R => match get Γ i with
    | some (.own xs) => R.nx (putZ Γ i (.d (.list xs))) c
    | some (.od kvs) => R.nx (putZ Γ i (.d (.dict kvs))) c
    | _ => R.nx Γ c
  | .ret e, Γ, c, R => wE F Gd e Γ c fun z c1 => R.rt (stl z) c1
  | .retN, _, c, R => R.rt (.d .none) c
  | .pst i j e, Γ, c, R => match get Γ i with
    | some .pot => wE F Gd e Γ c fun z c1 => dv z fun y => match y with
      | .int v => potW c1 j v fun c2 => R.nx Γ c2
      | _ => False
    | _ => False
  | .retP es, Γ, c, R => wEs F Gd es Γ c fun zs c1 => dzs zs fun ds => match ds with
    | [.int g, .int s, .int t] => Pb c1 g s t ∧ R.rt .pot c1
    | _ => False
  | .ite t a b, Γ, c, R => wT F Gd t Γ c fun x c1 => match x with
    | true => wSs a Γ c1 R
    | false => wSs b Γ c1 R
  | .loop t it body, Γ, c, R => wI F Gd it Γ c fun ds c1 => forW (fun d Γ c R => wTg t d Γ fun Γ1 => wSs body Γ1 c R) ds Γ c1 R
  | .pass, Γ, c, R => R.nx Γ c
  | .brk, Γ, c, R => R.bk Γ c
  | .cont, Γ, c, R => R.ct Γ c
  | .newd i ks es, Γ, c, R => wEs F Gd es Γ c fun zs c1 => dzs zs fun ds => (ks.length = ds.length ∧ ks.Nodup) ∧ R.nx (putZ Γ i (.od ((ks.map kD).zip ds))) c1
  | .newr i es e, Γ, c, R => wEs F Gd es Γ c fun zs c1 => dzs zs fun ds => ds.length ≤ sizeLine ∧ wE F Gd e Γ c1 fun y c2 => dv y fun dy => match dy with
    | .int k => (-(2 ^ 63) ≤ k ∧ k < 2 ^ 63 ∧ ds.length * k.toNat ≤ sizeLine) ∧ R.nx (putZ Γ i (.own (List.replicate k.toNat ds).flatten)) c2
    | _ => False
  | .newc i a b, Γ, c, R => wE F Gd a Γ c fun x c1 => wE F Gd b Γ c1 fun y c2 => dv x fun dx => dv y fun dy => match dx, dy with
    | .list xs, .list ys => xs.length + ys.length ≤ sizeLine ∧ R.nx (putZ Γ i (.own (xs ++ ys))) c2
    | _, _ => False
  | .sti i k e, Γ, c, R => wE F Gd e Γ c fun z c1 => dz z fun v => match get Γ i with
    | some (.own xs) => wE F Gd k Γ c1 fun y c2 => dv y fun dk => match dk with
      | .int j => ∃ n, ixN xs.length j = some n ∧ R.nx (putZ Γ i (.own (xs.set n v))) c2
      | _ => False
    | some (.od kvs) => wE F Gd k Γ c1 fun y c2 => dv y fun dk => ∃ key, keyD dk = some key ∧ kvs.length < sizeLine ∧ R.nx (putZ Γ i (.od (dPut kvs key v))) c2
    | _ => False
  | .updd i e, Γ, c, R => match get Γ i with
    | some (.od kvs) => wE F Gd e Γ c fun z c1 => dz z fun y => match y with
      | .dict more => ∃ res, dMrg kvs more = some res ∧ kvs.length + more.length ≤ sizeLine ∧ R.nx (putZ Γ i (.od res)) c1
      | _ => False
    | _ => False
  | .nope, _, _, _ => False
def wSs : List IS → Ga → Nat → Rt → Prop
  | [], Γ, c, R => R.nx Γ c
  | s :: ss, Γ, c, R => wS s Γ c { R with nx := fun Γ1 c1 => wSs ss Γ1 c1 R }
end
end
end Z
/-! Z3 -/
set_option maxRecDepth 100000
/-! expressions: the data's meaning leads to the rule's reading -/
namespace Z
open PySem PySem.Spec PyProof.Rows L2
/-- a rule's reading follows of the meaning -/
def Imp (K : PySem.W.Frag) (w : WE) (t : TE) : Prop :=
  ∀ (B : Bs) (σ : L2.St) (P : Addr → Prop) (G H : Hp) (Γ : Ga) (c : Nat) (Q : KZ) (R : VK), As K B P G H c Γ σ → w Γ c Q →
    (∀ v P' G' H' c' z, Stp P G H P' G' H' → Wd P' G' H' c' → ZR K P' G' H' B.H z v → Q z c' → R v H') → t σ H R
def ImpA (K : PySem.W.Frag) (w : WA) (t : TA) : Prop :=
  ∀ (B : Bs) (σ : L2.St) (P : Addr → Prop) (G H : Hp) (Γ : Ga) (c : Nat) (Q : List Zv → Nat → Prop) (R : List V → Hp → Prop), As K B P G H c Γ σ → w Γ c Q →
    (∀ vs P' G' H' c' zs, Stp P G H P' G' H' → Wd P' G' H' c' → ZRs K P' G' H' B.H zs vs → Q zs c' → R vs H') → t σ H R
def ImpT (K : PySem.W.Frag) (w : WT) (t : TT) : Prop :=
  ∀ (B : Bs) (σ : L2.St) (P : Addr → Prop) (G H : Hp) (Γ : Ga) (c : Nat) (Q : Bool → Nat → Prop) (R : Bool → Hp → Prop), As K B P G H c Γ σ → w Γ c Q →
    (∀ b P' G' H' c', Stp P G H P' G' H' → Wd P' G' H' c' → Q b c' → R b H') → t σ H R
def ImpO (K : PySem.W.Frag) (w : Ga → Nat → (Option Int → Nat → Prop) → Prop) (t : TO) : Prop :=
  ∀ (B : Bs) (σ : L2.St) (P : Addr → Prop) (G H : Hp) (Γ : Ga) (c : Nat) (Q : Option Int → Nat → Prop) (R : Option Int → Hp → Prop), As K B P G H c Γ σ → w Γ c Q →
    (∀ b P' G' H' c', Stp P G H P' G' H' → Wd P' G' H' c' → Q b c' → R b H') → t σ H R
section
variable {K : PySem.W.Frag} {wa wb wc : WE} {ta tb tc : TE} {w1 w2 : WT} {t1 t2 : TT}
theorem dv_of {z : Zv} {Q : KD} (h : dv z Q) : ∃ x, dv? z = some x ∧ Q x := by
  cases z with
  | d x => exact ⟨x, rfl, h⟩
  | pot => exact h.elim
  | own xs => exact ⟨_, rfl, h⟩
  | scr xs => exact ⟨_, rfl, h⟩
  | od xs => exact ⟨_, rfl, h⟩
theorem dz_of {z : Zv} {Q : KD} (h : dz z Q) : ∃ x, z = .d x ∧ Q x := by
  cases z with
  | d x => exact ⟨x, rfl, h⟩
  | pot => exact h.elim
  | own xs => exact h.elim
  | scr xs => exact h.elim
  | od xs => exact h.elim
/-- a scalar result -/
theorem imp_c {v : V} {x : PyData} (h : ∀ G : Hp, Dq K G v x) : Imp K (fun _ c Q => Q (.d x) c) (tC v) :=
  fun B σ P G H Γ c Q R a w k => k v P G H c (.d x) .refl a.wd (h G) w
theorem imp_var {i : Nat} : Imp K (fun Γ c Q => match get Γ i with | some z => Q z c | none => False) (tVar i) := fun B σ P G H Γ c Q R a w k => by
  have w : (match get Γ i with | some z => Q z c | none => False) := w
  cases e : get Γ i with
  | none => rw [e] at w; exact w.elim
  | some z =>
    rw [e] at w
    obtain ⟨v, e1, r⟩ := a.sl i z e
    exact ⟨v, e1, k v P G H c z .refl a.wd r w⟩
/-- an operation upon two values: by what is told of them -/
theorem imp_op {r : R2} {f : PyData → PyData → KD → Prop} (ha : Imp K wa ta) (hb : Imp K wb tb)
    (hr : ∀ (B : Bs) (P : Addr → Prop) (G H : Hp) (c : Nat) (zx zy : Zv) (x y : V) (dx dy : PyData) (Q : KD) (R : VK), Wd P G H c → ZR K P G H B.H zx x → ZR K P G H B.H zy y → dv? zx = some dx → dv? zy = some dy → f dx dy Q →
      (∀ v P' G' H' d, Stp P G H P' G' H' → Wd P' G' H' c → Dq K G' v d → Q d → R v H') → r x y H R) :
    Imp K (fun Γ c Q => wa Γ c fun x c1 => wb Γ c1 fun y c2 => dv x fun dx => dv y fun dy => f dx dy fun d => Q (.d d) c2) (tOp r ta tb) := fun B σ P G H Γ c Q R a w k => by
  refine ha B σ P G H Γ c _ _ a w fun x P1 G1 H1 c1 zx s1 w1 r1 q1 => ?_
  refine hb B σ P1 G1 H1 Γ c1 _ _ (a.step s1 w1) q1 fun y P2 G2 H2 c2 zy s2 w2 r2 q2 => ?_
  obtain ⟨dx, ex, q2⟩ := dv_of q2
  obtain ⟨dy, ey, q2⟩ := dv_of q2
  refine hr B P2 G2 H2 c2 zx zy x y dx dy _ R w2 (r1.mono s2) r2 ex ey q2 fun v P' G' H' d s3 w3 r3 q3 => ?_
  exact k v P' G' H' c2 (.d d) ((s1.trans s2).trans s3) w3 r3 q3
theorem imp_a0 : ImpA K (fun _ c Q => Q [] c) tNil := fun B σ P G H Γ c Q R a w k => k [] P G H c [] .refl a.wd .nil w
theorem imp_a1 {w : WA} {t : TA} (ha : Imp K wa ta) (hb : ImpA K w t) : ImpA K (fun Γ c Q => wa Γ c fun z c1 => w Γ c1 fun zs c2 => Q (z :: zs) c2) (tCons ta t) := fun B σ P G H Γ c Q R a w k => by
  refine ha B σ P G H Γ c _ _ a w fun x P1 G1 H1 c1 zx s1 w1 r1 q1 => ?_
  refine hb B σ P1 G1 H1 Γ c1 _ _ (a.step s1 w1) q1 fun xs P2 G2 H2 c2 zs s2 w2 r2 q2 => ?_
  exact k (x :: xs) P2 G2 H2 c2 (zx :: zs) (s1.trans s2) w2 (.cons (r1.mono s2) r2) q2
theorem dzs_of : ∀ {zs : List Zv} {Q : List PyData → Prop} {P : Addr → Prop} {G H H0 : Hp} {vs : List V}, ZRs K P G H H0 zs vs → dzs zs Q → ∃ ds, zs = ds.map .d ∧ DqAll K G vs ds ∧ Q ds
  | _, _, _, _, _, _, _, .nil, h => ⟨[], rfl, .nil, h⟩
  | .d x :: r, Q, _, _, _, _, _, .cons h1 h2, h => by
    obtain ⟨ds, e, h3, q⟩ := dzs_of (Q := fun xs => Q (x :: xs)) h2 h
    exact ⟨x :: ds, by rw [e]; rfl, .cons h1 h3, q⟩
  | .pot :: r, Q, _, _, _, _, _, _, h => h.elim
  | .own _ :: r, Q, _, _, _, _, _, _, h => h.elim
  | .scr _ :: r, Q, _, _, _, _, _, _, h => h.elim
  | .od _ :: r, Q, _, _, _, _, _, _, h => h.elim
theorem dpa_len {G : Hp} {vs : List V} {ds : List PyData} (h : DqAll K G vs ds) : vs.length = ds.length := h.length
theorem imp_tup {w : WA} {t : TA} (ha : ImpA K w t) : Imp K (fun Γ c Q => w Γ c fun zs c1 => dzs zs fun ds => ds.length ≤ sizeLine ∧ Q (.d (.tuple ds)) c1) (tTupN t) := fun B σ P G H Γ c Q R a w k => by
  refine ha B σ P G H Γ c _ _ a w fun xs P1 G1 H1 c1 zs s1 w1 r1 q1 => ?_
  obtain ⟨ds, rfl, hd, hz, q⟩ := dzs_of r1 q1
  refine ⟨by rw [hd.length]; exact hz, fun p o hp ho => ?_⟩
  have z : Szd (.frz o (.tup xs)) := by show xs.length ≤ _; rw [hd.length]; exact hz
  have s2 := Stp.new (o := .frz o (.tup xs)) w1 hp
  exact k (.ref p) P1 _ _ c1 (.d (.tuple ds)) (s1.trans s2) (w1.new hp z) (show Dq K _ _ _ from Dq.tup (SqN.of ho) (dpa_mono s2.gg _ _ hd)) q
theorem imp_lst {w : WA} {t : TA} (ha : ImpA K w t) : Imp K (fun Γ c Q => w Γ c fun zs c1 => dzs zs fun ds => ds.length ≤ sizeLine ∧ Q (.d (.list ds)) c1) (tLst t) := fun B σ P G H Γ c Q R a w k => by
  refine ha B σ P G H Γ c _ _ a w fun xs P1 G1 H1 c1 zs s1 w1 r1 q1 => ?_
  obtain ⟨ds, rfl, hd, hz, q⟩ := dzs_of r1 q1
  refine ⟨by rw [hd.length]; exact hz, fun p hp => ?_⟩
  have z : Szd (.lst xs) := by show xs.length ≤ _; rw [hd.length]; exact hz
  have s2 := Stp.new (o := .lst xs) w1 hp
  exact k (.ref p) P1 _ _ c1 (.d (.list ds)) (s1.trans s2) (w1.new hp z) (show Dq K _ _ _ from Dq.lst upd_same (dpa_mono s2.gg _ _ hd)) q
/-- tests -/
theorem impt_and (h1 : ImpT K w1 t1) (h2 : ImpT K w2 t2) : ImpT K (fun Γ c Q => w1 Γ c fun x c1 => match x with | true => w2 Γ c1 Q | false => Q false c1) (tAnd t1 t2) := fun B σ P G H Γ c Q R a w k => by
  refine h1 B σ P G H Γ c _ _ a w fun b P1 G1 H1 c1 s1 w1 q1 => ?_
  cases b with
  | true => exact iteT (h2 B σ P1 G1 H1 Γ c1 _ _ (a.step s1 w1) q1 fun b P2 G2 H2 c2 s2 w2 q2 => k b P2 G2 H2 c2 (s1.trans s2) w2 q2)
  | false => exact iteF (k false P1 G1 H1 c1 s1 w1 q1)
theorem impt_or (h1 : ImpT K w1 t1) (h2 : ImpT K w2 t2) : ImpT K (fun Γ c Q => w1 Γ c fun x c1 => match x with | true => Q true c1 | false => w2 Γ c1 Q) (tOr t1 t2) := fun B σ P G H Γ c Q R a w k => by
  refine h1 B σ P G H Γ c _ _ a w fun b P1 G1 H1 c1 s1 w1 q1 => ?_
  cases b with
  | false => exact iteF (h2 B σ P1 G1 H1 Γ c1 _ _ (a.step s1 w1) q1 fun b P2 G2 H2 c2 s2 w2 q2 => k b P2 G2 H2 c2 (s1.trans s2) w2 q2)
  | true => exact iteT (k true P1 G1 H1 c1 s1 w1 q1)
theorem impt_not (h1 : ImpT K w1 t1) : ImpT K (fun Γ c Q => w1 Γ c fun x c1 => Q (!x) c1) (tNot t1) := fun B σ P G H Γ c Q R a w k =>
  h1 B σ P G H Γ c _ _ a w fun b P1 G1 H1 c1 s1 w1 q1 => k (!b) P1 G1 H1 c1 s1 w1 q1
/-- a comparison's answer as a test -/
theorem impt_tst {w : WE} (h : Imp K w ta) : ImpT K (fun Γ c Q => w Γ c fun z c1 => match z with | .d (.bool b) => Q b c1 | _ => False) (tTest ta) := fun B σ P G H Γ c Q R a w k => by
  refine h B σ P G H Γ c _ _ a w fun x P1 G1 H1 c1 zx s1 w1 r1 q1 => ?_
  cases zx with
  | d x =>
    cases x with
    | bool b => cases r1; exact ⟨b, rfl, k b P1 G1 H1 c1 s1 w1 q1⟩
    | _ => exact q1.elim
  | _ => exact q1.elim
end
end Z
/-! Z4 -/
set_option maxRecDepth 100000
/-! operators and comparisons upon data -/
namespace Z
open PySem PySem.Spec PyProof.Rows L2
/-- what an operator's reading needs, from what it means upon data -/
abbrev OpI (K : PySem.W.Frag) (f : PyData → PyData → KD → Prop) (r : R2) : Prop :=
  ∀ (B : Bs) (P : Addr → Prop) (G H : Hp) (c : Nat) (zx zy : Zv) (x y : V) (dx dy : PyData) (Q : KD) (R : VK), Wd P G H c → ZR K P G H B.H zx x → ZR K P G H B.H zy y → dv? zx = some dx → dv? zy = some dy → f dx dy Q →
    (∀ v P' G' H' d, Stp P G H P' G' H' → Wd P' G' H' c → Dq K G' v d → Q d → R v H') → r x y H R
section
variable {X : Cx}
/-- list + list, whatever lists -/
def rCatR (K : PySem.W.Frag) : R2 := fun x y H Q => ∃ l b xs zs, x = .ref l ∧ y = .ref b ∧ SqL K H l xs ∧ SqL K H b zs ∧ xs.length + zs.length ≤ sizeLine ∧ ∀ p, H p = none → Q (.ref p) (upd H p (.lst (xs ++ zs)))
theorem op_catR : OpR X (binaryOp .Add) (rCatR X.K) := fun pins s σ H x y v u Q I rx ry h => by
  obtain ⟨l, b, xs, zs, rfl, rfl, h1, h2, hz, q⟩ := h
  cases rx
  cases ry
  obtain ⟨its, r, ⟨⟨cl, dd, da, sl⟩, n, e, cl1, dd1, da1⟩, _⟩ := I.list h1
  obtain ⟨jts, r2, ⟨⟨cl2, dd2, da2, sl2⟩, n2, e2, cl3, dd3, da3⟩, _⟩ := I.list h2
  simp only at cl1 dd1 da1 cl3 dd3 da3
  subst cl1 dd1 da1 cl3 dd3 da3
  have l1 := r.length
  have l2 := r2.length
  have hsz : its.toArray.size + jts.toArray.size ≤ sizeLine := by simp only [List.size_toArray]; omega
  refine concat_meets ⟨_, e, rfl⟩ ⟨_, e2, rfl⟩ noFill_list_add seq_list_add PySem.F.slot_list_add PySem.F.entry_list_add (PySem.F.args_list_add_2 _ _) (list_addW l b its.toArray jts.toArray n n2 none none sl sl2 hsz) ⟨e, e2, ?_⟩
  rw [show its.toArray ++ jts.toArray = (its ++ jts).toArray by simp]
  exact ⟨.ref _, _, I.lnew (t' := s.toks) (r.append r2) (by rw [List.length_append]; exact hz), rfl, q _ I.fresh⟩
def CPowW (i j : Int) : Prop := 0 ≤ j ∧ j ≤ 10000 ∧ i.natAbs < 2 ^ 10000
theorem op_powW : OpR X (binaryOp .Pow) (rI CPowW fun i j => .int (i ^ j.toNat)) := opI fun i j _ _ _ _ _ hc q => by
  obtain ⟨h0, h1, h2⟩ := hc
  refine PyProof.Rows.pow_int h0 ?_ q
  have hb : Builtin.Int.intBits i ≤ 10000 := by
    unfold Builtin.Int.intBits
    split
    · omega
    · have := PySem.Flt.log2_lt_of (k := 10000) (by omega) h2
      omega
  have : ((Builtin.Int.intBits i : Nat) : Int) * j ≤ 10000 * 10000 := Int.mul_le_mul (by omega) h1 h0 (by omega)
  omega
/-- the operator's reading as one -/
def rBin (K : PySem.W.Frag) : Operator → R2
  | .Add => fun x y H Q => rI0 (fun i j => .int (i + j)) x y H Q ∨ rCatN K x y H Q ∨ rCatR K x y H Q ∨ ∃ i j, x = .str i ∧ y = .str j ∧ i.length + j.length ≤ sizeLine ∧ Q (.str (i ++ j)) H
  | .Sub => rI0 fun i j => .int (i - j)
  | .Mult => fun x y H Q => rI CMulZ (fun i j => .int (i * j)) x y H Q ∨ rRepN K x y H Q
  | .Mod => rI (fun _ j => 0 < j) fun i j => .int (i % j)
  | .FloorDiv => rI CDivW fun i j => .int (i / j)
  | .Pow => rI CPowW fun i j => .int (i ^ j.toNat)
  | .BitAnd => rI0 fun i j => .int (Builtin.bitAnd i j)
  | .BitOr => rI0 fun i j => .int (Builtin.bitOr i j)
  | .RShift => rI (fun _ j => 0 ≤ j) fun i j => .int (i / 2 ^ j.toNat)
  | .LShift => rI CPow fun i j => .int (i * 2 ^ j.toNat)
  | _ => fun _ _ _ _ => False
theorem opr_no {f : Value → Value → Sem Value} : OpR X f (fun _ _ _ _ => False) := fun _ _ _ _ _ _ _ _ _ _ _ _ h => h.elim
theorem op_mulZ : OpR X (binaryOp .Mult) (rI CMulZ fun i j => .int (i * j)) := opI fun _ _ _ _ _ _ _ hc q => mul_int q (hc.elim (fun h => h.ok) fun h => h.ok)
theorem op_bin : ∀ op, OpR X (binaryOp op) (rBin X.K op)
  | .Add => op_add.or (op_catN.or (op_catR.or op_add_str))
  | .Sub => op_sub
  | .Mult => op_mulZ.or op_repN
  | .Mod => op_mod
  | .FloorDiv => op_fdivW
  | .Pow => op_powW
  | .BitAnd => op_and
  | .BitOr => op_or
  | .RShift => op_shr
  | .LShift => op_shl
  | .MatMult => opr_no
  | .Div => opr_no
  | .BitXor => opr_no
end
section
variable {K : PySem.W.Frag}
theorem dq_int {G : Hp} {v : V} {i : Int} (h : Dq K G v (.int i)) : v = .int i := by cases h; rfl
theorem dq_str {G : Hp} {v : V} {i : Str} (h : Dq K G v (.str i)) : v = .str i := by cases h; rfl
theorem dq_bool {G : Hp} {v : V} {i : Bool} (h : Dq K G v (.bool i)) : v = .bl i := by cases h; rfl
theorem dq_none {G : Hp} {v : V} (h : Dq K G v .none) : v = .non := by cases h; rfl
theorem zr_int {P : Addr → Prop} {G H H0 : Hp} {c : Nat} {z : Zv} {v : V} {i : Int} (w : Wd P G H c) (h : ZR K P G H H0 z v) (e : dv? z = some (.int i)) : v = .int i := dq_int (h.look w e fun _ e => by cases e)
theorem zr_str {P : Addr → Prop} {G H H0 : Hp} {c : Nat} {z : Zv} {v : V} {i : Str} (w : Wd P G H c) (h : ZR K P G H H0 z v) (e : dv? z = some (.str i)) : v = .str i := dq_str (h.look w e fun _ e => by cases e)
/-- two ints -/
theorem opi_int {C : Int → Int → Prop} {g : Int → Int → Int} {f : PyData → PyData → KD → Prop} (h : ∀ x y Q, f x y Q → ∃ i j, x = .int i ∧ y = .int j ∧ C i j ∧ Q (.int (g i j))) : OpI K f (rI C fun i j => .int (g i j)) :=
  fun B P G H c zx zy x y dx dy Q R w hx hy ex ey hf k => by
  obtain ⟨i, j, rfl, rfl, hc, q⟩ := h _ _ _ hf
  exact ⟨i, j, zr_int w hx ex, zr_int w hy ey, hc, k _ P G H _ .refl w (.int _) q⟩
theorem opi_int0 {g : Int → Int → Int} {f : PyData → PyData → KD → Prop} (h : ∀ x y Q, f x y Q → ∃ i j, x = .int i ∧ y = .int j ∧ Q (.int (g i j))) : OpI K f (rI0 fun i j => .int (g i j)) :=
  fun B P G H c zx zy x y dx dy Q R w hx hy ex ey hf k => by
  obtain ⟨i, j, rfl, rfl, q⟩ := h _ _ _ hf
  exact ⟨i, j, zr_int w hx ex, zr_int w hy ey, k _ P G H _ .refl w (.int _) q⟩
theorem opi_add : OpI K (wBin .Add) (rBin K .Add) := fun B P G H c zx zy x y dx dy Q R w hx hy ex ey hf k => by
  unfold wBin at hf
  split at hf <;> first | exact hf.elim | skip
  all_goals first | contradiction | skip
  · exact .inl ⟨_, _, zr_int w hx ex, zr_int w hy ey, k _ P G H _ .refl w (.int _) hf⟩
  · rename_i xs ys _
    obtain ⟨hz, q⟩ := hf
    obtain ⟨a, vs, rfl, ha, ga, da⟩ := hx.tup w ex
    obtain ⟨b, us, rfl, hb, gb, db⟩ := hy.tup w ey
    have l1 := da.length
    have l2 := db.length
    refine .inr (.inl ⟨a, b, vs, us, rfl, rfl, ha, hb, by omega, fun e => ?_, fun n e => ?_, fun n n2 p o hp ho => ?_⟩)
    · subst e
      cases da
      exact k _ P G H _ .refl w (.tup gb db) q
    · subst e
      cases db
      rw [List.append_nil] at q
      exact k _ P G H _ .refl w (.tup ga da) q
    · have s2 := Stp.new (o := .frz o (.tup (vs ++ us))) w hp
      refine k _ P _ _ _ s2 (w.new hp (by show (vs ++ us).length ≤ _; rw [List.length_append]; omega)) (.tup (SqN.of ho) ?_) q
      exact (dpa_mono s2.gg _ _ da).append (dpa_mono s2.gg _ _ db)
  · rename_i xs ys _
    obtain ⟨hz, q⟩ := hf
    obtain ⟨a, vs, rfl, ha, da⟩ := hx.lst w ex
    obtain ⟨b, us, rfl, hb, db⟩ := hy.lst w ey
    have l1 := da.length
    have l2 := db.length
    refine .inr (.inr (.inl ⟨a, b, vs, us, rfl, rfl, ha, hb, by omega, fun p hp => ?_⟩))
    have s2 := Stp.new (o := .lst (vs ++ us)) w hp
    refine k _ P _ _ _ s2 (w.new hp (by show (vs ++ us).length ≤ _; rw [List.length_append]; omega)) (.lst upd_same ?_) q
    exact (dpa_mono s2.gg _ _ da).append (dpa_mono s2.gg _ _ db)
  · exact .inr (.inr (.inr ⟨_, _, zr_str w hx ex, zr_str w hy ey, hf.1, k _ P G H _ .refl w (.str _) hf.2⟩))
theorem DqAll.rep {G : Hp} {vs : List V} {ds : List PyData} (h : DqAll K G vs ds) : ∀ n : Nat, DqAll K G (List.replicate n vs).flatten (List.replicate n ds).flatten
  | 0 => .nil
  | n + 1 => by
    rw [List.replicate_succ, List.replicate_succ, List.flatten_cons, List.flatten_cons]
    exact h.append (DqAll.rep h n)
theorem rep_len {α : Type} (xs : List α) (n : Nat) : (List.replicate n xs).flatten.length = n * xs.length := by simp [List.length_flatten]
theorem opi_mul : OpI K (wBin .Mult) (rBin K .Mult) := fun B P G H c zx zy x y dx dy Q R w hx hy ex ey hf k => by
  unfold wBin at hf
  split at hf <;> first | exact hf.elim | skip
  all_goals first | contradiction | skip
  · exact .inl ⟨_, _, zr_int w hx ex, zr_int w hy ey, hf.1, k _ P G H _ .refl w (.int _) hf.2⟩
  · obtain ⟨⟨h0, h1, h2, h3⟩, q⟩ := hf
    obtain ⟨a, vs, rfl, ha, ga, da⟩ := hx.tup w ex
    have l1 := da.length
    refine .inr ⟨a, _, vs, rfl, zr_int w hy ey, ha, fun e => h0 ?_, h1, h2, by omega, fun p o hp ho => ?_⟩
    · subst e
      exact List.eq_nil_of_length_eq_zero l1.symm
    · rename_i xs kk _
      have hk : kk.toNat * vs.length ≤ 1000 * 1000 := Nat.mul_le_mul (by omega) (by omega)
      have s2 := Stp.new (o := .frz o (.tup (List.replicate kk.toNat vs).flatten)) w hp
      refine k _ P _ _ _ s2 (w.new hp (by show (List.replicate kk.toNat vs).flatten.length ≤ _; rw [rep_len, sizeLine_eq]; omega)) (.tup (SqN.of ho) ?_) q
      exact DqAll.rep (dpa_mono s2.gg _ _ da) _
theorem opi_bin : ∀ op, OpI K (wBin op) (rBin K op)
  | .Add => opi_add
  | .Sub => opi_int0 fun x y Q h => by unfold wBin at h; split at h <;> first | exact ⟨_, _, rfl, rfl, h⟩ | exact h.elim | contradiction
  | .Mult => opi_mul
  | .Mod => opi_int fun x y Q h => by unfold wBin at h; split at h <;> first | exact ⟨_, _, rfl, rfl, h⟩ | exact h.elim | contradiction
  | .FloorDiv => opi_int fun x y Q h => by unfold wBin at h; split at h <;> first | exact ⟨_, _, rfl, rfl, h⟩ | exact h.elim | contradiction
  | .Pow => opi_int fun x y Q h => by unfold wBin at h; split at h <;> first | exact ⟨_, _, rfl, rfl, h⟩ | exact h.elim | contradiction
  | .BitAnd => opi_int0 fun x y Q h => by unfold wBin at h; split at h <;> first | exact ⟨_, _, rfl, rfl, h⟩ | exact h.elim | contradiction
  | .BitOr => opi_int0 fun x y Q h => by unfold wBin at h; split at h <;> first | exact ⟨_, _, rfl, rfl, h⟩ | exact h.elim | contradiction
  | .RShift => opi_int fun x y Q h => by unfold wBin at h; split at h <;> first | exact ⟨_, _, rfl, rfl, h⟩ | exact h.elim | contradiction
  | .LShift => opi_int fun x y Q h => by unfold wBin at h; split at h <;> first | exact ⟨_, _, rfl, rfl, h⟩ | exact h.elim | contradiction
  | .MatMult => fun B P G H c zx zy x y dx dy Q R w hx hy ex ey hf k => by unfold wBin at hf; split at hf <;> first | exact hf.elim | contradiction
  | .Div => fun B P G H c zx zy x y dx dy Q R w hx hy ex ey hf k => by unfold wBin at hf; split at hf <;> first | exact hf.elim | contradiction
  | .BitXor => fun B P G H c zx zy x y dx dy Q R w hx hy ex ey hf k => by unfold wBin at hf; split at hf <;> first | exact hf.elim | contradiction
end
end Z
/-! Z5 -/
set_option maxRecDepth 100000
/-! comparisons, subscripts, slices -/
namespace Z
open PySem PySem.Spec PyProof.Rows L2
section
variable {X : Cx}
def rInTD (K : PySem.W.Frag) (neg : Bool) : R2 := fun x y H Q => ∃ d ds, Dp K H x d ∧ Dp K H y (.tuple ds) ∧ SeqAt.shaped d = true ∧ SeqAt.shaped (.tuple ds) = true ∧ Q (.bl (if neg then !ds.any fun z => PyData.eqv z d else ds.any fun z => PyData.eqv z d)) H
theorem op_inTD (hu : X.A.units + 65 < cLine) : OpR X (compareOp .In) (rInTD X.K false) := fun pins s σ H x y v u Q I rx ry h => by
  obtain ⟨d, ds, hd, he, sd, se, q⟩ := h
  obtain ⟨as, r1⟩ := hd.reads I _ _ _ rx
  obtain ⟨bs, r2⟩ := he.reads I _ _ _ ry
  exact SeqAt.in_tuple_reads r2 r1 (SeqAt.canLay_of_shaped se) (SeqAt.canLay_of_shaped sd) (room_in_shaped sd hu) ⟨.bl _, H, I, rfl, q⟩
theorem op_notInTD (hu : X.A.units + 65 < cLine) : OpR X (compareOp .NotIn) (rInTD X.K true) := fun pins s σ H x y v u Q I rx ry h => by
  obtain ⟨d, ds, hd, he, sd, se, q⟩ := h
  obtain ⟨as, r1⟩ := hd.reads I _ _ _ rx
  obtain ⟨bs, r2⟩ := he.reads I _ _ _ ry
  exact SeqAt.notIn_tuple_reads r2 r1 (SeqAt.canLay_of_shaped se) (SeqAt.canLay_of_shaped sd) (room_in_shaped sd hu) ⟨.bl _, H, I, rfl, q⟩
/-- a tuple and the empty one -/
def rEq0 (K : PySem.W.Frag) : R2 := fun x y H Q => ∃ (a b : Addr) (xs : List V), x = .ref a ∧ y = .ref b ∧ SqT K H a xs ∧ SqT K H b [] ∧ Q (.bl xs.isEmpty) H
theorem op_eq0 (hu : X.A.units < cLine) : OpR X (compareOp .Eq) (rEq0 X.K) := fun pins s σ H x y v u Q I rx ry h => by
  obtain ⟨a, b, xs, rfl, rfl, ha, hb, q⟩ := h
  cases rx
  cases ry
  obtain ⟨its, r, pt, _⟩ := I.tuple ha
  obtain ⟨its2, r2, pt2, _⟩ := I.tuple hb
  have e2 : its2 = [] := List.eq_nil_of_length_eq_zero r2.length.symm
  subst e2
  refine SeqAt.eq_tupleAt (e := fun _ => true) (show s.heap.IsTuple a its.toArray from pt) (show s.heap.IsTuple b ([] : List Value).toArray from pt2) hu (fun j h1 h2 => by simp at h2) ?_
  refine ⟨.bl xs.isEmpty, H, I, ?_, q⟩
  show Value.bool _ = Value.bool _
  have hl := r.length
  cases xs with
  | nil => cases its with
    | nil => rfl
    | cons _ _ => simp at hl
  | cons _ _ => cases its with
    | nil => simp at hl
    | cons _ _ => rfl
/-- a key in a dict -/
def rInK (neg : Bool) : R2 := fun x y H Q => ∃ (a : Addr) (kvs : List (Key × V)) (k : Key), y = .ref a ∧ H a = some (.dK kvs) ∧ x = kV k ∧ Q (.bl (if neg then !(valV kvs k).isSome else (valV kvs k).isSome)) H
theorem op_inK (hu : X.A.units + 1 < cLine) : OpR X (compareOp .In) (rInK false) := fun pins s σ H x y v u Q I rx ry h => by
  obtain ⟨a, kvs, k, rfl, hd, rfl, q⟩ := h
  cases ry
  exact d_in hu I (DGet.k hd) rx fun s3 I3 => ⟨.bl _, H, I3, rfl, q⟩
theorem op_notInK (hu : X.A.units + 1 < cLine) : OpR X (compareOp .NotIn) (rInK true) := fun pins s σ H x y v u Q I rx ry h => by
  obtain ⟨a, kvs, k, rfl, hd, rfl, q⟩ := h
  cases ry
  exact d_notIn hu I (DGet.k hd) rx fun s3 I3 => ⟨.bl _, H, I3, rfl, q⟩
/-- d[k] -/
def rIxK : R2 := fun x y H Q => ∃ (a : Addr) (kvs : List (Key × V)) (k : Key) (v : V), x = .ref a ∧ H a = some (.dK kvs) ∧ y = kV k ∧ valV kvs k = some v ∧ Q v H
theorem ix_dictK (hu : X.A.units + 1 < cLine) : IxR X rIxK := by
  intro value slice pins s σ H x y v u Q I rx ry h hs
  obtain ⟨a, kvs, k, w, rfl, hd, rfl, e, q⟩ := h
  obtain rfl : v = Value.ref a := rx
  have g : DGet H a (kV k) (some w) := by rw [← e]; exact DGet.k hd
  exact tail_any (dict_typeIs I g) PySem.F.slot_dict_getitem.lookup (d_getItem hu I g ry fun w' s3 I3 rw' => ⟨w, H, I3, rw', q⟩) hs
def rIxZ (K : PySem.W.Frag) : R2 := fun x y H Q => rIx K x y H Q ∨ rIxK x y H Q
theorem ix_all (hu : X.A.units + 1 < cLine) : IxR X (rIxZ X.K) := IxR.or ix_seq (ix_dictK hu)
/-- a comparison's reading as one -/
def rCmp (K : PySem.W.Frag) : CmpOp → R2
  | .Eq => fun x y H Q => rEq x y H Q ∨ rEqD K x y H Q ∨ rEq0 K x y H Q
  | .NotEq => fun x y H Q => rNe x y H Q ∨ rNeD K x y H Q
  | .Lt => fun x y H Q => rI0 (fun i j => .bl (decide (i < j))) x y H Q ∨ rLtT K x y H Q
  | .LtE => rI0 fun i j => .bl (decide (i ≤ j))
  | .Gt => rI0 fun i j => .bl (decide (j < i))
  | .GtE => rI0 fun i j => .bl (decide (j ≤ i))
  | .In => fun x y H Q => rInD K x y H Q ∨ rInTD K false x y H Q ∨ rInK false x y H Q
  | .NotIn => fun x y H Q => rNotInD K x y H Q ∨ rInTD K true x y H Q ∨ rInK true x y H Q
  | .Is => fun x y H Q => (y = .non ∧ Q (.bl (decide (x = .non))) H) ∨ rIsB x y H Q
  | .IsNot => fun x y H Q => (y = .non ∧ Q (.bl (!decide (x = .non))) H) ∨ rNotB x y H Q
theorem op_cmp (hu : X.A.units + 65 < cLine) : ∀ op, OpR X (compareOp op) (rCmp X.K op)
  | .Eq => op_eq.or ((op_eqD (by omega)).or (op_eq0 (by omega)))
  | .NotEq => op_ne.or (op_neD (by omega))
  | .Lt => op_lt.or (op_ltT (by omega))
  | .LtE => op_le
  | .Gt => op_gt
  | .GtE => op_ge
  | .In => (op_inD hu).or ((op_inTD hu).or (op_inK (by omega)))
  | .NotIn => (op_notInD hu).or ((op_notInTD hu).or (op_notInK (by omega)))
  | .Is => op_isN.or op_isBl
  | .IsNot => op_notN.or op_notBl
end
section
variable {K : PySem.W.Frag}
theorem ints?_eq : ∀ {xs : List PyData} {ns : List Int}, ints? xs = some ns → xs = ns.map .int
  | [], ns, h => by cases h; rfl
  | .int i :: r, ns, h => by
    simp only [ints?, Option.map_eq_some_iff] at h
    obtain ⟨ms, h1, rfl⟩ := h
    rw [ints?_eq h1]; rfl
  | .none :: _, _, h => by cases h
  | .bool _ :: _, _, h => by cases h
  | .str _ :: _, _, h => by cases h
  | .list _ :: _, _, h => by cases h
  | .tuple _ :: _, _, h => by cases h
  | .dict _ :: _, _, h => by cases h
theorem bools?_eq : ∀ {xs : List PyData} {ns : List Bool}, bools? xs = some ns → xs = ns.map .bool
  | [], ns, h => by cases h; rfl
  | .bool i :: r, ns, h => by
    simp only [bools?, Option.map_eq_some_iff] at h
    obtain ⟨ms, h1, rfl⟩ := h
    rw [bools?_eq h1]; rfl
  | .none :: _, _, h => by cases h
  | .int _ :: _, _, h => by cases h
  | .str _ :: _, _, h => by cases h
  | .list _ :: _, _, h => by cases h
  | .tuple _ :: _, _, h => by cases h
  | .dict _ :: _, _, h => by cases h
theorem shp {d : PyData} (h : SeqAt.shaped d = true) : d.canLay0 = true := SeqAt.canLay_of_shaped h
theorem dq_non {G : Hp} {x : PyData} {v : V} (h : Dq K G v x) : decide (v = .non) = isNoneD x := by cases h <;> simp [isNoneD]
theorem zr_non {P : Addr → Prop} {G H H0 : Hp} {c : Nat} {z : Zv} {v : V} {x : PyData} (w : Wd P G H c) (h : ZR K P G H H0 z v) (e : dv? z = some x) : decide (v = .non) = isNoneD x := by
  by_cases q : ∃ xs, x = .list xs
  · obtain ⟨xs, rfl⟩ := q
    obtain ⟨a, vs, rfl, hs, ha⟩ := h.lst w e
    rfl
  · exact dq_non (h.look w e fun xs e2 => q ⟨xs, e2⟩)
theorem eqv_str' (a b : Str) : PyData.eqv (.str a) (.str b) = decide (a = b) := by simp [PyData.eqv]; rfl
theorem eqOk_or {x y : PyData} (h : eqOk x y) : (∃ a b, x = .str a ∧ y = .str b) ∨ (SeqAt.shaped x = true ∧ SeqAt.shaped y = true) ∨ ∃ xs, x = .tuple xs ∧ y = .tuple [] := by
  unfold eqOk at h
  split at h
  · exact .inl ⟨_, _, rfl, rfl⟩
  · exact .inr (.inr ⟨_, rfl, rfl⟩)
  · exact .inr (.inl h)
theorem neOk_or {x y : PyData} (h : neOk x y) : (∃ a b, x = .str a ∧ y = .str b) ∨ (SeqAt.shaped x = true ∧ SeqAt.shaped y = true) := by
  unfold neOk at h
  split at h
  · exact .inl ⟨_, _, rfl, rfl⟩
  · exact .inr h
theorem eqv_nil (xs : List PyData) : PyData.eqv (.tuple xs) (.tuple []) = xs.isEmpty := by
  cases xs <;> simp [PyData.eqv, PyData.eqvAll]
theorem keyD_kD (k : Key) : keyD (kD k) = some k := by cases k <;> rfl
theorem kD_of {x : PyData} {k : Key} (h : keyD x = some k) : x = kD k := by
  cases x <;> first | (cases h; done) | (cases h; rfl)
theorem dkv_look {G : Hp} {k : Key} : ∀ {kvs : List (Key × V)} {ds : List (PyData × PyData)}, DqKV K G kvs ds → (valV kvs k = none ∧ dLk ds k = none) ∨ ∃ v d, valV kvs k = some v ∧ dLk ds k = some d ∧ Dq K G v d
  | _, _, .nil => .inl ⟨rfl, rfl⟩
  | _, _, .cons (k := j) h t => by
    unfold dLk
    rw [keyD_kD]
    by_cases e : j = k
    · subst e
      exact .inr ⟨_, _, valV_pos rfl, by simp, h⟩
    · rw [valV_neg (show ¬ (j, _).1 = k from e), if_neg (fun z => e (Option.some.inj z))]
      exact dkv_look t
theorem dkv_has {G : Hp} {kvs : List (Key × V)} {ds : List (PyData × PyData)} (h : DqKV K G kvs ds) (k : Key) : (valV kvs k).isSome = (dLk ds k).isSome := by
  rcases dkv_look (k := k) h with ⟨e1, e2⟩ | ⟨v, d, e1, e2, _⟩
  · rw [e1, e2]; rfl
  · rw [e1, e2]; rfl
theorem key_of {P : Addr → Prop} {G H H0 : Hp} {c : Nat} {z : Zv} {v : V} {x : PyData} {k : Key} (w : Wd P G H c) (h : ZR K P G H H0 z v) (e : dv? z = some x) (hk : keyD x = some k) : v = kV k ∧ x = kD k := by
  have e2 := kD_of hk
  subst e2
  cases k with
  | inl i => exact ⟨zr_int w h e, rfl⟩
  | inr i => exact ⟨zr_str w h e, rfl⟩
/-- a comparison: what it means upon data -/
theorem opi_cmp : ∀ op, OpI K (fun x y Q => wCmp op x y fun b => Q (.bool b)) (rCmp K op)
  | .Eq => fun B P G H c zx zy x y dx dy Q R w hx hy ex ey hf k => by
    obtain ⟨h0, q⟩ := hf
    rcases eqOk_or h0 with ⟨a, b, rfl, rfl⟩ | ⟨h1, h2⟩ | ⟨xs, rfl, rfl⟩
    · have e1 := zr_str w hx ex
      have e2 := zr_str w hy ey
      subst e1
      subst e2
      refine .inl ⟨rfl, ?_⟩
      rw [show decide (V.str a = V.str b) = PyData.eqv (.str a) (.str b) by rw [eqv_str']; by_cases z : a = b <;> simp [z]]
      exact k _ P G H _ .refl w (.bl _) q
    · exact .inr (.inl ⟨dx, dy, hx.dp w ex (shp h1), hy.dp w ey (shp h2), h1, h2, k _ P G H _ .refl w (.bl _) q⟩)
    · obtain ⟨a, vs, rfl, ha, ga, da⟩ := hx.tup w ex
      obtain ⟨b, us, rfl, hb, gb, db⟩ := hy.tup w ey
      cases db
      rw [eqv_nil] at q
      refine .inr (.inr ⟨a, b, vs, rfl, rfl, ha, hb, ?_⟩)
      have e : vs.isEmpty = xs.isEmpty := by cases da <;> rfl
      rw [e]
      exact k _ P G H _ .refl w (.bl _) q
  | .NotEq => fun B P G H c zx zy x y dx dy Q R w hx hy ex ey hf k => by
    obtain ⟨h0, q⟩ := hf
    rcases neOk_or h0 with ⟨a, b, rfl, rfl⟩ | ⟨h1, h2⟩
    · have e1 := zr_str w hx ex
      have e2 := zr_str w hy ey
      subst e1
      subst e2
      refine .inl ⟨rfl, ?_⟩
      rw [show decide (V.str a = V.str b) = PyData.eqv (.str a) (.str b) by rw [eqv_str']; by_cases z : a = b <;> simp [z]]
      exact k _ P G H _ .refl w (.bl _) q
    · exact .inr ⟨dx, dy, hx.dp w ex (shp h1), hy.dp w ey (shp h2), h1, h2, k _ P G H _ .refl w (.bl _) q⟩
  | .Lt => fun B P G H c zx zy x y dx dy Q R w hx hy ex ey hf k => by
    unfold wCmp at hf
    split at hf <;> first | contradiction | skip
    rename_i e
    clear e
    split at hf
    · exact .inl ⟨_, _, zr_int w hx ex, zr_int w hy ey, k _ P G H _ .refl w (.bl _) hf⟩
    · obtain ⟨b, e, q⟩ := hf
      unfold lexLtD at e
      split at e
      · rename_i a1 b1 e1 e2
        have e := Option.some.inj e
        subst e
        have f1 := ints?_eq e1
        have f2 := ints?_eq e2
        subst f1
        subst f2
        obtain ⟨a, vs, rfl, ha, ga, da⟩ := hx.tup w ex
        obtain ⟨b, us, rfl, hb, gb, db⟩ := hy.tup w ey
        rw [da.ints] at ha
        rw [db.ints] at hb
        exact .inr ⟨a, b, a1, b1, rfl, rfl, ha, hb, k _ P G H _ .refl w (.bl _) q⟩
      · cases e
    · exact hf.elim
  | .LtE => fun B P G H c zx zy x y dx dy Q R w hx hy ex ey hf k => by
    cases dx <;> cases dy <;> first | exact (show False from hf).elim | exact ⟨_, _, zr_int w hx ex, zr_int w hy ey, k _ P G H _ .refl w (.bl _) hf⟩
  | .Gt => fun B P G H c zx zy x y dx dy Q R w hx hy ex ey hf k => by
    cases dx <;> cases dy <;> first | exact (show False from hf).elim | exact ⟨_, _, zr_int w hx ex, zr_int w hy ey, k _ P G H _ .refl w (.bl _) hf⟩
  | .GtE => fun B P G H c zx zy x y dx dy Q R w hx hy ex ey hf k => by
    cases dx <;> cases dy <;> first | exact (show False from hf).elim | exact ⟨_, _, zr_int w hx ex, zr_int w hy ey, k _ P G H _ .refl w (.bl _) hf⟩
  | .In => fun B P G H c zx zy x y dx dy Q R w hx hy ex ey hf k => by
    cases dy with
    | list ds => obtain ⟨h1, h2, q⟩ := hf; exact .inl ⟨dx, ds, hx.dp w ex (shp h1), hy.dp w ey (shp h2), h1, h2, k _ P G H _ .refl w (.bl _) q⟩
    | tuple ds => obtain ⟨h1, h2, q⟩ := hf; exact .inr (.inl ⟨dx, ds, hx.dp w ex (shp h1), hy.dp w ey (shp h2), h1, h2, k _ P G H _ .refl w (.bl _) q⟩)
    | dict kvs =>
      obtain ⟨kk, ek, q⟩ := hf
      cases hy.look w ey (fun _ e => by cases e) with
      | dic hs ha =>
        obtain ⟨ex', _⟩ := key_of w hx ex ek
        refine .inr (.inr ⟨_, _, kk, rfl, hs, ex', ?_⟩)
        have hh := dkv_has ha kk
        simp only [Bool.false_eq_true, if_false, if_true]
        rw [hh]
        exact k _ P G H _ .refl w (.bl _) q
    | _ => exact (show False from hf).elim
  | .NotIn => fun B P G H c zx zy x y dx dy Q R w hx hy ex ey hf k => by
    cases dy with
    | list ds => obtain ⟨h1, h2, q⟩ := hf; exact .inl ⟨dx, ds, hx.dp w ex (shp h1), hy.dp w ey (shp h2), h1, h2, k _ P G H _ .refl w (.bl _) q⟩
    | tuple ds => obtain ⟨h1, h2, q⟩ := hf; exact .inr (.inl ⟨dx, ds, hx.dp w ex (shp h1), hy.dp w ey (shp h2), h1, h2, k _ P G H _ .refl w (.bl _) q⟩)
    | dict kvs =>
      obtain ⟨kk, ek, q⟩ := hf
      cases hy.look w ey (fun _ e => by cases e) with
      | dic hs ha =>
        obtain ⟨ex', _⟩ := key_of w hx ex ek
        refine .inr (.inr ⟨_, _, kk, rfl, hs, ex', ?_⟩)
        have hh := dkv_has ha kk
        simp only [Bool.false_eq_true, if_false, if_true]
        rw [hh]
        exact k _ P G H _ .refl w (.bl _) q
    | _ => exact (show False from hf).elim
  | .Is => fun B P G H c zx zy x y dx dy Q R w hx hy ex ey hf k => by
    cases dy with
    | none =>
      refine .inl ⟨dq_none (hy.look w ey fun _ e => by cases e), ?_⟩
      rw [zr_non w hx ex]
      exact k _ P G H _ .refl w (.bl _) hf
    | bool b =>
      cases dx with
      | bool a =>
        refine .inr ⟨a, b, dq_bool (hx.look w ex fun _ e => by cases e), dq_bool (hy.look w ey fun _ e => by cases e), ?_⟩
        rw [show decide (a = b) = (a == b) by cases a <;> cases b <;> rfl]
        exact k _ P G H _ .refl w (.bl _) hf
      | _ => exact (show False from hf).elim
    | _ => exact (show False from hf).elim
  | .IsNot => fun B P G H c zx zy x y dx dy Q R w hx hy ex ey hf k => by
    cases dy with
    | none =>
      refine .inl ⟨dq_none (hy.look w ey fun _ e => by cases e), ?_⟩
      rw [zr_non w hx ex]
      exact k _ P G H _ .refl w (.bl _) hf
    | bool b =>
      cases dx with
      | bool a =>
        refine .inr ⟨a, b, dq_bool (hx.look w ex fun _ e => by cases e), dq_bool (hy.look w ey fun _ e => by cases e), ?_⟩
        rw [show decide (a = b) = (a == b) by cases a <;> cases b <;> rfl]
        exact k _ P G H _ .refl w (.bl _) hf
      | _ => exact (show False from hf).elim
    | _ => exact (show False from hf).elim
/-- x[i] -/
theorem atI_all {G : Hp} {vs : List V} {ds : List PyData} {i : Int} {d : PyData} (h : DqAll K G vs ds) (e : atI ds i = some d) : ∃ v, atI vs i = some v ∧ Dq K G v d := by
  unfold atI at e ⊢
  rw [h.length]
  cases q : ixN ds.length i with
  | none => rw [q] at e; cases e
  | some j =>
    rw [q] at e
    exact h.get' e
theorem dv_dict {P : Addr → Prop} {G H H0 : Hp} {c : Nat} {z : Zv} {v : V} {kvs : List (PyData × PyData)} (w : Wd P G H c) (h : ZR K P G H H0 z v) (e : dv? z = some (.dict kvs)) :
    ∃ a us, v = .ref a ∧ DqKV K G us kvs ∧ H a = some (.dK us) ∧ ∀ P' G' H' c', Stp P G H P' G' H' → Wd P' G' H' c' → H' a = some (.dK us) := by
  cases z with
  | d x =>
    cases e
    cases h with
    | dic hs ha => exact ⟨_, _, rfl, ha, w.gh _ _ hs, fun P' G' H' c' s w' => w'.gh _ _ (s.gg _ _ hs)⟩
  | od x =>
    cases e
    obtain ⟨a, us, rfl, _, o, d⟩ := h
    exact ⟨a, us, rfl, d, o.h, fun P' G' H' c' s w' => (o.step s).h⟩
  | own _ => cases e
  | scr _ => cases e
  | pot => cases e
theorem opi_ix : OpI K wIx (rIxZ K) := fun B P G H c zx zy x y dx dy Q R w hx hy ex ey hf k => by
  unfold wIx at hf
  split at hf
  · obtain ⟨d, e, q⟩ := hf
    obtain ⟨a, vs, rfl, ha, da⟩ := hx.lst w ex
    obtain ⟨v, ev, hv⟩ := atI_all da e
    exact .inl (.inl ⟨a, vs, _, v, rfl, zr_int w hy ey, ha, ev, k _ P G H _ .refl w hv q⟩)
  · obtain ⟨d, e, q⟩ := hf
    obtain ⟨a, vs, rfl, ha, ga, da⟩ := hx.tup w ex
    obtain ⟨v, ev, hv⟩ := atI_all da e
    exact .inl (.inr (.inl ⟨a, vs, _, v, rfl, zr_int w hy ey, ha, ev, k _ P G H _ .refl w hv q⟩))
  · obtain ⟨hz, cc, e, q⟩ := hf
    exact .inl (.inr (.inr ⟨_, _, cc, zr_str w hx ex, zr_int w hy ey, hz, e, k _ P G H _ .refl w (.str _) q⟩))
  · obtain ⟨kk, d, ek, el, q⟩ := hf
    obtain ⟨a, us, rfl, ha, hs, _⟩ := dv_dict w hx ex
    rcases dkv_look (k := kk) ha with ⟨_, e2⟩ | ⟨v, d', e1, e2, hv⟩
    · rw [el] at e2; cases e2
    · rw [el] at e2
      cases e2
      exact .inr ⟨_, _, kk, v, rfl, hs, (key_of w hy ey ek).1, e1, k _ P G H _ .refl w hv q⟩
  · exact hf.elim
/-- x[lo:hi] -/
def rSlcL (K : PySem.W.Frag) : V → Option Int → Option Int → Hp → VK → Prop := fun x lo hi H Q => rSlL K x lo hi H Q ∨ rSlN K x lo hi H Q ∨ ∃ z, x = .str z ∧ z.length ≤ sizeLine ∧ Q (.str (cutS z lo hi)) H
end
end Z
/-! Z6 -/
set_option maxRecDepth 100000
/-! slices, built-in calls, methods -/
namespace Z
open PySem PySem.Spec PyProof.Rows L2
section
variable {X : Cx} {K : PySem.W.Frag}
/-- a slice of a list in any state of rest -/
def rSlR : V → Option Int → Option Int → Hp → VK → Prop := fun x lo hi H Q => ∃ a xs, x = .ref a ∧ Rd H a (.lst xs) ∧ ∀ p, H p = none → Q (.ref p) (upd H p (.lst (cutV xs lo hi)))
def rSlc (K : PySem.W.Frag) : V → Option Int → Option Int → Hp → VK → Prop := fun x lo hi H Q => rSlL K x lo hi H Q ∨ rSlN K x lo hi H Q ∨ rSlS x lo hi H Q
theorem sl_all : SlR X (rSlc X.K) := sl_list.or (sl_tupN.or sl_str)
theorem cut_all {G : Hp} {vs : List V} {ds : List PyData} (h : DqAll K G vs ds) (lo hi : Option Int) : DqAll K G (cutV vs lo hi) (cutD ds lo hi) := by
  unfold cutV cutD
  rw [h.length]
  exact (h.drop _).take _
theorem cutD_whole {ds : List PyData} {lo hi : Option Int} (h : HT.sIx ds.length 0 lo = 0 ∧ HT.sIx ds.length ds.length hi = ds.length) : cutD ds lo hi = ds := by
  unfold cutD
  rw [h.1, h.2]
  simp
theorem imp_sl {wa : WE} {ta : TE} {wl wh : Ga → Nat → (Option Int → Nat → Prop) → Prop} {tl th : TO} (ha : Imp K wa ta) (hl : ImpO K wl tl) (hh : ImpO K wh th) :
    Imp K (fun Γ c Q => wa Γ c fun x c1 => wl Γ c1 fun l c2 => wh Γ c2 fun h c3 => dv x fun dx => wSl dx l h fun r => Q (.d r) c3) (tSl (rSlc K) ta tl th) := fun B σ P G H Γ c Q R a w k => by
  refine ha B σ P G H Γ c _ _ a w fun x P1 G1 H1 c1 zx s1 w1 r1 q1 => ?_
  refine hl B σ P1 G1 H1 Γ c1 _ _ (a.step s1 w1) q1 fun l P2 G2 H2 c2 s2 w2 q2 => ?_
  refine hh B σ P2 G2 H2 Γ c2 _ _ (a.step (s1.trans s2) w2) q2 fun h P3 G3 H3 c3 s3 w3 q3 => ?_
  obtain ⟨dx, ex, q⟩ := dv_of q3
  have r3 := (r1.mono s2).mono s3
  have s123 := (s1.trans s2).trans s3
  unfold wSl at q
  split at q
  · obtain ⟨a', vs, rfl, hv, da⟩ := r3.lst w3 ex
    refine .inl ⟨a', vs, rfl, hv, fun p hp => ?_⟩
    have s4 := Stp.new (o := .lst (cutV vs l h)) w3 hp
    have hz := w3.lsz (K := K) hv
    exact k _ P3 _ _ c3 (.d _) (s123.trans s4) (w3.new hp (Nat.le_trans (cutV_length vs l h) hz)) (show Dq K _ _ _ from .lst upd_same (dpa_mono s4.gg _ _ (cut_all da l h))) q
  · obtain ⟨a', vs, rfl, hv, gv, da⟩ := r3.tup w3 ex
    refine .inr (.inl ⟨a', vs, rfl, hv, fun e => ?_, fun e p o hp ho => ?_⟩)
    · rw [da.length] at e
      rw [cutD_whole e] at q
      exact k _ P3 _ _ c3 (.d _) s123 w3 (show Dq K _ _ _ from .tup gv da) q
    · have s4 := Stp.new (o := .frz o (.tup (cutV vs l h))) w3 hp
      have hz := w3.tsz (K := K) hv
      exact k _ P3 _ _ c3 (.d _) (s123.trans s4) (w3.new hp (Nat.le_trans (cutV_length vs l h) hz)) (show Dq K _ _ _ from .tup (SqN.of ho) (dpa_mono s4.gg _ _ (cut_all da l h))) q
  · exact .inr (.inr ⟨_, zr_str w3 r3 ex, q.1, k _ P3 _ _ c3 (.d _) s123 w3 (show Dq K _ _ _ from .str _) q.2⟩)
  · exact q.elim
theorem impo_none : ImpO K (fun _ c Q => Q none c) tNoPart := fun B σ P G H Γ c Q R a w k => k none P G H c .refl a.wd w
theorem impo_some {wa : WE} {ta : TE} (ha : Imp K wa ta) : ImpO K (fun Γ c Q => wa Γ c fun x c1 => dv x fun dx => match dx with | .int i => Q (some i) c1 | _ => False) (tPart ta) := fun B σ P G H Γ c Q R a w k => by
  refine ha B σ P G H Γ c _ _ a w fun x P1 G1 H1 c1 zx s1 w1 r1 q1 => ?_
  obtain ⟨dx, ex, q⟩ := dv_of q1
  cases dx with
  | int i => exact ⟨i, zr_int w1 r1 ex, k _ P1 G1 H1 c1 s1 w1 q⟩
  | _ => exact q.elim
/-! ### built-ins -/
theorem insI_perm (x : Int) : ∀ l : List Int, (insI x l).Perm (x :: l)
  | [] => .refl _
  | y :: r => by
    unfold insI
    split
    · exact .refl _
    · exact (List.Perm.cons y (insI_perm x r)).trans (List.Perm.swap x y r)
theorem sortI_perm : ∀ l : List Int, (sortI l).Perm l
  | [] => .refl _
  | x :: r => (insI_perm x (sortI r)).trans (List.Perm.cons x (sortI_perm r))
theorem insI_sorted (x : Int) : ∀ l : List Int, l.Pairwise (· ≤ ·) → (insI x l).Pairwise (· ≤ ·)
  | [], _ => by simp [insI]
  | y :: r, h => by
    unfold insI
    rw [List.pairwise_cons] at h
    split
    · rename_i hxy
      refine List.pairwise_cons.mpr ⟨fun z hz => ?_, List.pairwise_cons.mpr h⟩
      rcases List.mem_cons.mp hz with rfl | hz
      · exact hxy
      · exact Int.le_trans hxy (h.1 z hz)
    · rename_i hxy
      refine List.pairwise_cons.mpr ⟨fun z hz => ?_, insI_sorted x r h.2⟩
      rcases List.mem_cons.mp ((insI_perm x r).mem_iff.mp hz) with rfl | hz
      · omega
      · exact h.1 z hz
theorem sortI_sorted : ∀ l : List Int, (sortI l).Pairwise (· ≤ ·)
  | [] => .nil
  | x :: r => insI_sorted x _ (sortI_sorted r)
theorem sorted_one : ∀ {l m : List Int}, l.Perm m → l.Pairwise (· ≤ ·) → m.Pairwise (· ≤ ·) → l = m
  | [], m, p, _, _ => (List.nil_perm.mp p).symm
  | x :: r, [], p, _, _ => absurd p.length_eq (by simp)
  | x :: r, y :: t, p, h, h' => by
    rw [List.pairwise_cons] at h h'
    have e : x = y := by
      have h1 : x ∈ y :: t := p.mem_iff.mp List.mem_cons_self
      have h2 : y ∈ x :: r := p.mem_iff.mpr List.mem_cons_self
      rcases List.mem_cons.mp h1 with e | h1
      · exact e
      · rcases List.mem_cons.mp h2 with e | h2
        · exact e.symm
        · exact Int.le_antisymm (h.1 _ h2) (h'.1 _ h1)
    subst e
    rw [sorted_one (List.Perm.cons_inv p) h.2 h'.2]
theorem maxD_spec : ∀ {l : List Int}, l ≠ [] → maxD l ∈ l ∧ ∀ y ∈ l, y ≤ maxD l
  | [], h => absurd rfl h
  | [x], _ => by simp [maxD]
  | x :: y :: r, _ => by
    obtain ⟨h1, h2⟩ := maxD_spec (l := y :: r) (by simp)
    unfold maxD
    split
    · rename_i hlt
      refine ⟨List.mem_cons_self, fun z hz => ?_⟩
      rcases List.mem_cons.mp hz with rfl | hz
      · omega
      · have := h2 z hz; omega
    · rename_i hlt
      refine ⟨List.mem_cons_of_mem _ h1, fun z hz => ?_⟩
      rcases List.mem_cons.mp hz with rfl | hz
      · omega
      · exact h2 z hz
theorem minD_spec : ∀ {l : List Int}, l ≠ [] → minD l ∈ l ∧ ∀ y ∈ l, minD l ≤ y
  | [], h => absurd rfl h
  | [x], _ => by simp [minD]
  | x :: y :: r, _ => by
    obtain ⟨h1, h2⟩ := minD_spec (l := y :: r) (by simp)
    unfold minD
    split
    · rename_i hlt
      refine ⟨List.mem_cons_self, fun z hz => ?_⟩
      rcases List.mem_cons.mp hz with rfl | hz
      · omega
      · have := h2 z hz; omega
    · rename_i hlt
      refine ⟨List.mem_cons_of_mem _ h1, fun z hz => ?_⟩
      rcases List.mem_cons.mp hz with rfl | hz
      · omega
      · exact h2 z hz
/-- repr of what is no object -/
theorem call_repr_bl : CallR X (.builtin "repr") (fun xs H Q => ∃ b, xs = [.bl b] ∧ Q (.str (if b then "True" else "False")) H) := fun pins s σ H xs us Q I r h => by
  obtain ⟨b, rfl, q⟩ := h
  obtain ⟨u, rfl, ru⟩ := vals1 r
  cases (show u = Value.bool b from ru)
  exact PySem.P.repr_of_bool ⟨.str _, H, I.tok _, ⟨_, rfl⟩, q⟩
theorem call_repr_non : CallR X (.builtin "repr") (fun xs H Q => xs = [.non] ∧ Q (.str "None") H) := fun pins s σ H xs us Q I r h => by
  obtain ⟨rfl, q⟩ := h
  obtain ⟨u, rfl, ru⟩ := vals1 r
  cases (show u = Value.none from ru)
  exact PySem.P.repr_of_none ⟨.str _, H, I.tok _, ⟨_, rfl⟩, q⟩
end
end Z
/-! ZS -/
set_option maxRecDepth 100000
/-! sorted(..) of any data that can be put in order -/
namespace Z
open PySem PySem.Spec PyProof.Rows L2
section
variable {X : Cx}
def rSortedD (K : PySem.W.Frag) : List V → Hp → VK → Prop := fun vs H Q => ∃ (a : Addr) (xs : List V) (ds : List PyData), vs = [V.ref a] ∧ SqL K H a xs ∧ DpAll K H xs ds ∧ PySem.W.AllAlike ds ∧ PySem.W.Sortable ds ∧ (∀ d ∈ ds, d.depth ≤ 60) ∧
  ∀ (zs : List (V × PyData)) (p : Addr), zs.Perm (xs.zip ds) → zs.Pairwise (fun a b => srtLe a.2 b.2 = true) → H p = none → Q (.ref p) (upd H p (.lst (zs.map fun z => z.1)))
theorem zip_snd : ∀ {K : PySem.W.Frag} {H : Hp} {ds : List PyData} {xs : List V}, DpAll K H xs ds → (xs.zip ds).map (fun z => z.2) = ds
  | _, _, [], _, h => by cases h; rfl
  | _, _, d :: ds, _, h => by
    cases h with
    | cons h1 h2 =>
      rw [List.zip_cons_cons, List.map_cons, zip_snd h2]
theorem each_rel : ∀ {K : PySem.W.Frag} {H : Hp} {ds : List PyData} {xs : List V} {us : List Value}, DpAll K H xs ds → Vals xs us → PySem.W.EachIs (fun (u : Value) (b : V × PyData) => RelV b.1 u) us (xs.zip ds)
  | _, _, [], _, _, h, r => by
    cases h
    cases r
    exact .nil
  | _, _, d :: ds, _, _, h, r => by
    cases h with
    | cons h1 h2 =>
      cases r with
      | cons r1 r2 => exact .cons r1 (each_rel h2 r2)
theorem each_reads {pins : List (Addr × Obj)} {σ : L2.St} {H : Hp} {s : Shared} (I : Inv X pins σ H s) : ∀ {ds : List PyData} {xs : List V} {us : List Value}, DpAll X.K H xs ds → Vals xs us → PySem.W.EachIs (fun (u : Value) (b : V × PyData) => ∃ as, Reads s.heap u b.2 as) us (xs.zip ds)
  | [], _, _, h, r => by
    cases h
    cases r
    exact .nil
  | d :: ds, _, _, h, r => by
    cases h with
    | cons h1 h2 =>
      cases r with
      | cons r1 r2 => exact .cons (Dp.reads I d _ _ h1 r1) (each_reads I h2 r2)
theorem each_vals : ∀ {bs : List (V × PyData)} {us : List Value}, PySem.W.EachIs (fun (u : Value) (b : V × PyData) => RelV b.1 u) us bs → Vals (bs.map fun z => z.1) us
  | _, _, .nil => .nil
  | _, _, .cons h t => .cons h (each_vals t)
theorem cr_sortedD (hu : X.A.units + 100 < cLine) : CallR X (.builtin "sorted") (rSortedD X.K) := by
  intro pins s σ H vs us Q I r h
  obtain ⟨a, xs, ds, rfl, hs, hd, hal, hk, hdp, q⟩ := h
  obtain ⟨its, rv, hl, hz⟩ := I.list hs
  rw [Vals.ref1 r]
  have e2 : (xs.zip ds).map (fun z : V × PyData => z.2) = ds := zip_snd hd
  have len : (xs.zip ds).length = xs.length := by
    have q1 := congrArg List.length e2
    rw [List.length_map] at q1
    rw [q1]
    have q2 := (each_rel hd rv).length
    rw [q1] at q2
    rw [← q2]
    exact rv.length.symm
  refine PySem.W.sorted_data (bs := xs.zip ds) (enc := fun z : V × PyData => z.2) hl.isList (each_rel hd rv) (each_reads I hd rv) (by rw [e2]; exact hal) (by rw [e2]; exact hk) (by rw [len]; exact hz) (fun b hb => ?_) fun out ho he => ?_
  · have := hdp b.2 (by rw [← e2]; exact List.mem_map.mpr ⟨b, hb, rfl⟩)
    omega
  · have tot := PySem.W.sortLe_total (listOrd itemOrd) false (fun z : V × PyData => PySem.W.keyToks z.2)
    have pm : ((xs.zip ds).mergeSort (PySem.W.dataLe false fun z : V × PyData => z.2)).Perm (xs.zip ds) := List.mergeSort_perm _ _
    have pw := PySem.W.sort_pairwise tot (xs.zip ds)
    have vl := each_vals he
    obtain ⟨ep, he'⟩ := sortedAll_at s.heap its (List.toArray out)
    have hlen : (((xs.zip ds).mergeSort (PySem.W.dataLe false fun z : V × PyData => z.2)).map fun z => z.1).length ≤ sizeLine := by
      rw [List.length_map, pm.length_eq, len]
      exact hz
    exact ⟨.ref _, upd H (s.heap.objs.size + 1) (.lst (((xs.zip ds).mergeSort (PySem.W.dataLe false fun z : V × PyData => z.2)).map fun z => z.1)), I.laid (t' := s.toks) (fun _ _ => sortedAll_old) (Nat.le_succ _) ⟨hlen, out, ep, vl, he'⟩, rfl, q _ _ pm pw (I.hok.fresh (Nat.le_succ _))⟩
end
end Z
/-! Z7 -/
set_option maxRecDepth 100000
/-! built-in calls, isinstance, index -/
namespace Z
open PySem PySem.Spec PyProof.Rows L2
/-- what is around: no repr is running -/
def Gd0 (A : Around) : Prop := A.guards = some []
section
variable {X : Cx} {K : PySem.W.Frag}
theorem call_repr_D (hg : Gd0 X.A) (hu : X.A.units + 100 < cLine) : CallR X (.builtin "repr") (fun xs H Q => ∃ (a : Addr) (d : PyData), xs = [.ref a] ∧ Dp X.K H (.ref a) d ∧ d.showable = true ∧ d.hasDict = false ∧ d.depth ≤ 60 ∧ d.shown.length ≤ sizeLine ∧ Q (.str d.shown) H) := fun pins s σ H xs us Q I r h => by
  obtain ⟨a, d, rfl, hd, h1, h2, h3, h4, q⟩ := h
  obtain ⟨u, rfl, ru⟩ := vals1 r
  cases (show u = Value.ref a from ru)
  obtain ⟨as, rd⟩ := hd.reads I _ _ _ ru
  refine repr_of_reads' rd h1 (fun z => by rw [h2] at z; cases z) hg (by omega) (fun _ _ e => e) (fun h' u tk hk => ?_) h4
  exact ⟨.str _, H, I.kept hk, ⟨_, rfl⟩, q⟩
/-- a call's reading, from what it means upon data -/
abbrev CallI (K : PySem.W.Frag) (f : List PyData → KD → Prop) (r : List V → Hp → VK → Prop) : Prop :=
  ∀ (B : Bs) (P : Addr → Prop) (G H : Hp) (c : Nat) (zs : List Zv) (vs : List V) (Q : KD) (R : VK), Wd P G H c → ZRs K P G H B.H zs vs → dvs zs (fun ds => f ds Q) →
    (∀ v P' G' H' d, Stp P G H P' G' H' → Wd P' G' H' c → Dq K G' v d → Q d → R v H') → r vs H R
theorem dvs_of {B : Bs} {P : Addr → Prop} {G H : Hp} : ∀ {zs : List Zv} {vs : List V} {Q : List PyData → Prop}, ZRs K P G H B.H zs vs → dvs zs Q → ∃ ds, Q ds ∧ zs.map dv? = ds.map some
  | _, _, _, .nil, h => ⟨[], h, rfl⟩
  | .d x :: r, _, Q, .cons _ t, h => by
    obtain ⟨ds, q, e⟩ := dvs_of (Q := fun xs => Q (x :: xs)) t h
    exact ⟨x :: ds, q, by simp [dv?, e]⟩
  | .own ys :: r, _, Q, .cons _ t, h => by
    obtain ⟨ds, q, e⟩ := dvs_of (Q := fun xs => Q (.list ys :: xs)) t h
    exact ⟨.list ys :: ds, q, by simp [dv?, e]⟩
  | .scr ys :: r, _, Q, .cons _ t, h => by
    obtain ⟨ds, q, e⟩ := dvs_of (Q := fun xs => Q (.list (ys.map .int) :: xs)) t h
    exact ⟨.list (ys.map .int) :: ds, q, by simp [dv?, e]⟩
  | .od ys :: r, _, Q, .cons _ t, h => by
    obtain ⟨ds, q, e⟩ := dvs_of (Q := fun xs => Q (.dict ys :: xs)) t h
    exact ⟨.dict ys :: ds, q, by simp [dv?, e]⟩
  | .pot :: _, _, _, _, h => h.elim
theorem imp_call {r : List V → Hp → VK → Prop} {f : List PyData → KD → Prop} {w : WA} {t : TA} (ha : ImpA K w t) (hr : CallI K f r) : Imp K (fun Γ c Q => w Γ c fun zs c1 => dvs zs fun ds => f ds fun d => Q (.d d) c1) (tCB r t) := fun B σ P G H Γ c Q R a w k => by
  refine ha B σ P G H Γ c _ _ a w fun vs P1 G1 H1 c1 zs s1 w1 r1 q1 => ?_
  exact hr B P1 G1 H1 c1 zs vs _ R w1 r1 q1 fun v P' G' H' d s2 w2 r2 q2 => k v P' G' H' c1 (.d d) (s1.trans s2) w2 r2 q2
/-- one value, two -/
theorem zrs1 {P : Addr → Prop} {G H H0 : Hp} {zs : List Zv} {vs : List V} {d : PyData} (r : ZRs K P G H H0 zs vs) (e : zs.map dv? = [some d]) : ∃ z v, zs = [z] ∧ vs = [v] ∧ ZR K P G H H0 z v ∧ dv? z = some d := by
  cases r with
  | nil => simp at e
  | cons h t =>
    cases t with
    | nil => exact ⟨_, _, rfl, rfl, h, by simpa using e⟩
    | cons h' t' => simp at e
theorem zrs2 {P : Addr → Prop} {G H H0 : Hp} {zs : List Zv} {vs : List V} {d d' : PyData} (r : ZRs K P G H H0 zs vs) (e : zs.map dv? = [some d, some d']) : ∃ z z' v v', zs = [z, z'] ∧ vs = [v, v'] ∧ ZR K P G H H0 z v ∧ ZR K P G H H0 z' v' ∧ dv? z = some d ∧ dv? z' = some d' := by
  cases r with
  | nil => simp at e
  | cons h t =>
    cases t with
    | nil => simp at e
    | cons h' t' =>
      cases t' with
      | nil =>
        simp only [List.map_cons, List.map_nil, List.cons.injEq, and_true] at e
        exact ⟨_, _, _, _, rfl, rfl, h, h', e.1, e.2⟩
      | cons h2 t2 => simp at e
/-- max, min of a tuple of whole numbers -/
theorem lt_int (a b : Int) : PySem.W.DatumOrd.lt a b = decide (a < b) := rfl
theorem maxOf_spec : ∀ (xs : List Int) (x : Int), PySem.W.maxOf x xs ∈ x :: xs ∧ ∀ y ∈ x :: xs, y ≤ PySem.W.maxOf x xs
  | [], x => ⟨by simp [PySem.W.maxOf], fun y h => by rw [List.mem_singleton.mp h]; exact Int.le_refl _⟩
  | z :: xs, x => by
    have e : PySem.W.maxOf x (z :: xs) = PySem.W.maxOf (if x < z then z else x) xs := by
      unfold PySem.W.maxOf
      rw [List.foldl_cons, lt_int]
      by_cases h : x < z
      · rw [if_pos h, if_pos (decide_eq_true h)]
      · rw [if_neg h, if_neg (by simp [h])]
    rw [e]
    obtain ⟨h1, h2⟩ := maxOf_spec xs (if x < z then z else x)
    have h3 := h2 _ (List.mem_cons_self ..)
    refine ⟨?_, fun y hy => ?_⟩
    · rcases List.mem_cons.mp h1 with h | h
      · rw [h]; split <;> simp
      · simp [h]
    · rcases List.mem_cons.mp hy with rfl | hy
      · refine Int.le_trans ?_ h3; split <;> omega
      · rcases List.mem_cons.mp hy with rfl | hy
        · refine Int.le_trans ?_ h3; split <;> omega
        · exact h2 y (List.mem_cons_of_mem _ hy)
theorem minOf_spec : ∀ (xs : List Int) (x : Int), PySem.W.minOf x xs ∈ x :: xs ∧ ∀ y ∈ x :: xs, PySem.W.minOf x xs ≤ y
  | [], x => ⟨by simp [PySem.W.minOf], fun y h => by rw [List.mem_singleton.mp h]; exact Int.le_refl _⟩
  | z :: xs, x => by
    have e : PySem.W.minOf x (z :: xs) = PySem.W.minOf (if z < x then z else x) xs := by
      unfold PySem.W.minOf
      rw [List.foldl_cons, lt_int]
      by_cases h : z < x
      · rw [if_pos h, if_pos (decide_eq_true h)]
      · rw [if_neg h, if_neg (by simp [h])]
    rw [e]
    obtain ⟨h1, h2⟩ := minOf_spec xs (if z < x then z else x)
    have h3 := h2 _ (List.mem_cons_self ..)
    refine ⟨?_, fun y hy => ?_⟩
    · rcases List.mem_cons.mp h1 with h | h
      · rw [h]; split <;> simp
      · simp [h]
    · rcases List.mem_cons.mp hy with rfl | hy
      · refine Int.le_trans h3 ?_; split <;> omega
      · rcases List.mem_cons.mp hy with rfl | hy
        · refine Int.le_trans h3 ?_; split <;> omega
        · exact h2 y (List.mem_cons_of_mem _ hy)
theorem holds_intV {h : Heap} {v : Value} {n : Int} (e : PySem.W.Holds h v n) : ∃ t, v = .int n t := by
  obtain ⟨as, r⟩ := e
  cases r
  exact ⟨_, rfl⟩
def rMaxT (K : PySem.W.Frag) : List V → Hp → VK → Prop := fun vs H Q => ∃ (a : Addr) (n : Int) (ns : List Int), vs = [V.ref a] ∧ SqT K H a ((n :: ns).map V.int) ∧ Q (.int (maxD (n :: ns))) H
def rMinT (K : PySem.W.Frag) : List V → Hp → VK → Prop := fun vs H Q => ∃ (a : Addr) (n : Int) (ns : List Int), vs = [V.ref a] ∧ SqT K H a ((n :: ns).map V.int) ∧ Q (.int (minD (n :: ns))) H
theorem cr_maxT (hc : X.calm = true) (hu : X.A.units + 100 < cLine) : CallR X (.builtin "max") (rMaxT X.K) := by
  intro pins s σ H vs us Q I r h
  obtain ⟨a, n, ns, rfl, hs, q⟩ := h
  obtain ⟨its, rv, hl, _⟩ := I.tuple hs
  rw [Vals.ref1 r]
  refine PySem.W.max_tuple_datum (α := Int) (x := n) (xs := ns) (I.ok.hd hc) (show s.heap.IsTuple a its.toArray from hl) (PySem.W.HoldAll.of_ints rv.ints) (by show X.A.units + 1 + 0 < _; omega) fun i v h' tk hi hv hk => ?_
  obtain ⟨t, rfl⟩ := holds_intV hv
  obtain ⟨h1, h2⟩ := maxOf_spec ns n
  obtain ⟨h3, h4⟩ := maxD_spec (l := n :: ns) (by simp)
  rw [Int.le_antisymm (h4 _ h1) (h2 _ h3)]
  exact ⟨.int _, H, I.kept hk, ⟨_, rfl⟩, q⟩
theorem cr_minT (hc : X.calm = true) (hu : X.A.units + 100 < cLine) : CallR X (.builtin "min") (rMinT X.K) := by
  intro pins s σ H vs us Q I r h
  obtain ⟨a, n, ns, rfl, hs, q⟩ := h
  obtain ⟨its, rv, hl, _⟩ := I.tuple hs
  rw [Vals.ref1 r]
  refine PySem.W.min_tuple_datum (α := Int) (x := n) (xs := ns) (I.ok.hd hc) (show s.heap.IsTuple a its.toArray from hl) (PySem.W.HoldAll.of_ints rv.ints) (by show X.A.units + 1 + 0 < _; omega) fun i v h' tk hi hv hk => ?_
  obtain ⟨t, rfl⟩ := holds_intV hv
  obtain ⟨h1, h2⟩ := minOf_spec ns n
  obtain ⟨h3, h4⟩ := minD_spec (l := n :: ns) (by simp)
  rw [Int.le_antisymm (h2 _ h3) (h4 _ h1)]
  exact ⟨.int _, H, I.kept hk, ⟨_, rfl⟩, q⟩
theorem call_str_bl : CallR X (.type "str") (fun xs H Q => ∃ b, xs = [.bl b] ∧ Q (.str (if b then "True" else "False")) H) := by
  intro pins s σ H xs us Q I r h
  obtain ⟨b, rfl, q⟩ := h
  obtain ⟨u, rfl, r1⟩ := vals1 r
  cases r1
  exact PySem.P.str_of_bool ⟨.str _, H, I.tok _, ⟨_, rfl⟩, q⟩
def isFn : Bf → Option String
  | .len => some "len" | .abs => some "abs" | .max => some "max" | .min => some "min" | .sum => some "sum" | .all => some "all" | .any => some "any" | .sorted => some "sorted" | .repr => some "repr"
  | _ => none
def isTy : Bf → Option String
  | .tuple => some "tuple" | .list => some "list" | .int => some "int" | .str => some "str" | .bool => some "bool"
  | _ => none
def rBlt (K : PySem.W.Frag) : Bf → List V → Hp → VK → Prop
  | .len => fun xs H Q => (∃ p ys, xs = [.ref p] ∧ (SqL K H p ys ∨ SqT K H p ys) ∧ Q (.int ys.length) H) ∨ (∃ z, xs = [.str z] ∧ z.length ≤ sizeLine ∧ Q (.int z.length) H)
  | .abs => fun xs H Q => ∃ i, xs = [.int i] ∧ Q (.int (if i < 0 then -i else i)) H
  | .max => fun xs H Q => (∃ i j, xs = [.int i, .int j] ∧ Q (.int (if j > i then j else i)) H) ∨ rMax K xs H Q ∨ rMaxT K xs H Q
  | .min => fun xs H Q => (∃ i j, xs = [.int i, .int j] ∧ Q (.int (if j < i then j else i)) H) ∨ rMin K xs H Q ∨ rMinT K xs H Q
  | .sum => rSum K
  | .all => rAll K
  | .any => rAny K
  | .sorted => fun xs H Q => rSorted K xs H Q ∨ rSortedD K xs H Q
  | .repr => fun xs H Q => (∃ b, xs = [.bl b] ∧ Q (.str (if b then "True" else "False")) H) ∨ (xs = [.non] ∧ Q (.str "None") H) ∨ (∃ i, xs = [.int i] ∧ i.natAbs.log2 < 1920 ∧ Q (.str (toString i)) H) ∨
      (∃ (a : Addr) (d : PyData), xs = [.ref a] ∧ Dp K H (.ref a) d ∧ d.showable = true ∧ d.hasDict = false ∧ d.depth ≤ 60 ∧ d.shown.length ≤ sizeLine ∧ Q (.str d.shown) H)
  | .tuple => fun xs H Q => ∃ p ys, xs = [.ref p] ∧ ((SqL K H p ys ∧ ∀ l o, H l = none → o.dict = none → Q (.ref l) (upd H l (.frz o (.tup ys)))) ∨ (SqT K H p ys ∧ Q (.ref p) H))
  | .list => fun xs H Q => ∃ p ys, xs = [.ref p] ∧ (SqL K H p ys ∨ SqT K H p ys) ∧ ∀ l, H l = none → Q (.ref l) (upd H l (.lst ys))
  | .int => fun xs H Q => (∃ i, xs = [.int i] ∧ Q (.int i) H) ∨ ∃ k, xs = [.bl k] ∧ Q (.int (if k then 1 else 0)) H
  | .str => fun xs H Q => (∃ i, xs = [.int i] ∧ i.natAbs.log2 < 1920 ∧ Q (.str (toString i)) H) ∨ ∃ b, xs = [.bl b] ∧ Q (.str (if b then "True" else "False")) H
  | .bool => fun xs H Q => (∃ i, xs = [.int i] ∧ Q (.bl (i != 0)) H) ∨ ∃ k, xs = [.bl k] ∧ Q (.bl k) H
  | _ => fun _ _ _ => False
theorem cr_fn (hc : X.calm = true) (hg : Gd0 X.A) (hu : X.A.units + 100 < cLine) : ∀ {b : Bf} {n : String}, isFn b = some n → CallR X (.builtin n) (rBlt X.K b)
  | .len, _, e => by cases e; exact call_len_seq.or call_len_str
  | .abs, _, e => by cases e; exact call_abs
  | .max, _, e => by cases e; exact (call_max2 hc).or ((cr_max hc).or (cr_maxT hc hu))
  | .min, _, e => by cases e; exact (call_min2 hc).or ((cr_min hc).or (cr_minT hc hu))
  | .sum, _, e => by cases e; exact cr_sum hc
  | .all, _, e => by cases e; exact cr_all hc
  | .any, _, e => by cases e; exact cr_any hc
  | .sorted, _, e => by cases e; exact cr_sorted.or (cr_sortedD hu)
  | .repr, _, e => by cases e; exact call_repr_bl.or (call_repr_non.or (SkE.call_repr_int.or (call_repr_D hg hu)))
theorem cr_ty : ∀ {b : Bf} {n : String}, isTy b = some n → CallR X (.type n) (rBlt X.K b)
  | .tuple, _, e => by cases e; exact call_tuple_N
  | .list, _, e => by cases e; exact call_list_of
  | .int, _, e => by cases e; exact call_int1
  | .str, _, e => by cases e; exact call_str_int.or call_str_bl
  | .bool, _, e => by cases e; exact call_bool1
theorem boot_fn : ∀ {b : Bf} {n : String}, isFn b = some n → bootBuiltins (Str.ofString n) = some (.builtin n)
  | .len, _, e => by cases e; decide +kernel
  | .abs, _, e => by cases e; decide +kernel
  | .max, _, e => by cases e; decide +kernel
  | .min, _, e => by cases e; decide +kernel
  | .sum, _, e => by cases e; decide +kernel
  | .all, _, e => by cases e; decide +kernel
  | .any, _, e => by cases e; decide +kernel
  | .sorted, _, e => by cases e; decide +kernel
  | .repr, _, e => by cases e; decide +kernel
theorem boot_ty : ∀ {b : Bf} {n : String}, isTy b = some n → bootBuiltins (Str.ofString n) = some (.type n)
  | .tuple, _, e => by cases e; decide +kernel
  | .list, _, e => by cases e; decide +kernel
  | .int, _, e => by cases e; decide +kernel
  | .str, _, e => by cases e; decide +kernel
  | .bool, _, e => by cases e; decide +kernel
theorem shown_bool (b : Bool) : PyData.shown (.bool b) = (if b then "True" else "False" : Str) := by cases b <;> rfl
theorem dqa_zip {K : PySem.W.Frag} {G : Hp} : ∀ {ds : List PyData} {xs : List V} {z : V × PyData}, DqAll K G xs ds → z ∈ xs.zip ds → Dq K G z.1 z.2
  | [], _, z, h, m => by cases h; cases m
  | d :: ds, _, z, h, m => by
    cases h with
    | cons h1 h2 =>
      rw [List.zip_cons_cons, List.mem_cons] at m
      rcases m with rfl | m
      · exact h1
      · exact dqa_zip h2 m
theorem dqa_of {K : PySem.W.Frag} {G : Hp} : ∀ {zs : List (V × PyData)}, (∀ z ∈ zs, Dq K G z.1 z.2) → DqAll K G (zs.map fun z => z.1) (zs.map fun z => z.2)
  | [], _ => .nil
  | z :: zs, h => .cons (h z (by simp)) (dqa_of fun y hy => h y (by simp [hy]))
theorem blti : ∀ (b : Bf), CallI K (wBlt b) (rBlt K b) := fun b B P G H c zs vs Q R w hz hF k => by
  obtain ⟨ds, hf, e⟩ := dvs_of (B := B) hz hF
  clear hF
  unfold wBlt at hf
  split at hf
  · obtain ⟨z, v, rfl, rfl, r, ex⟩ := zrs1 hz e
    obtain ⟨a, us, rfl, ha, da⟩ := r.lst w ex
    refine .inl ⟨a, us, rfl, .inl ha, ?_⟩
    rw [da.length]
    exact k _ P G H _ .refl w (.int _) hf
  · obtain ⟨z, v, rfl, rfl, r, ex⟩ := zrs1 hz e
    obtain ⟨a, us, rfl, ha, ga, da⟩ := r.tup w ex
    refine .inl ⟨a, us, rfl, .inr ha, ?_⟩
    rw [da.length]
    exact k _ P G H _ .refl w (.int _) hf
  · obtain ⟨z, v, rfl, rfl, r, ex⟩ := zrs1 hz e
    rw [zr_str w r ex]
    exact .inr ⟨_, rfl, hf.1, k _ P G H _ .refl w (.int _) hf.2⟩
  · obtain ⟨z, v, rfl, rfl, r, ex⟩ := zrs1 hz e
    rename_i i
    rw [zr_int w r ex]
    refine ⟨i, rfl, ?_⟩
    rw [show (if i < 0 then -i else i) = ((i.natAbs : Nat) : Int) by split <;> omega]
    exact k _ P G H _ .refl w (.int _) hf
  · obtain ⟨z, z', v, v', rfl, rfl, r, r', ex, ex'⟩ := zrs2 hz e
    rename_i i j
    rw [zr_int w r ex, zr_int w r' ex']
    refine .inl ⟨i, j, rfl, ?_⟩
    rw [show (if j > i then j else i) = max i j by split <;> omega]
    exact k _ P G H _ .refl w (.int _) hf
  · obtain ⟨z, z', v, v', rfl, rfl, r, r', ex, ex'⟩ := zrs2 hz e
    rename_i i j
    rw [zr_int w r ex, zr_int w r' ex']
    refine .inl ⟨i, j, rfl, ?_⟩
    rw [show (if j < i then j else i) = min i j by split <;> omega]
    exact k _ P G H _ .refl w (.int _) hf
  · obtain ⟨z, v, rfl, rfl, r, ex⟩ := zrs1 hz e
    obtain ⟨ns, en, hne, q⟩ := hf
    obtain ⟨a, us, rfl, ha, da⟩ := r.lst w ex
    rw [ints?_eq en] at da
    refine .inr (.inl ⟨a, ns, rfl, (by rw [← da.ints]; exact ha), by cases ns with | nil => exact absurd rfl hne | cons _ _ => simp, fun m hm hle => ?_⟩)
    obtain ⟨h1, h2⟩ := maxD_spec hne
    rw [Int.le_antisymm (h2 m hm) (hle _ h1)]
    exact k _ P G H _ .refl w (.int _) q
  · obtain ⟨z, v, rfl, rfl, r, ex⟩ := zrs1 hz e
    obtain ⟨ns, en, hne, q⟩ := hf
    obtain ⟨a, us, rfl, ha, da⟩ := r.lst w ex
    rw [ints?_eq en] at da
    refine .inr (.inl ⟨a, ns, rfl, (by rw [← da.ints]; exact ha), by cases ns with | nil => exact absurd rfl hne | cons _ _ => simp, fun m hm hle => ?_⟩)
    obtain ⟨h1, h2⟩ := minD_spec hne
    rw [Int.le_antisymm (hle _ h1) (h2 m hm)]
    exact k _ P G H _ .refl w (.int _) q
  · obtain ⟨z, v, rfl, rfl, r, ex⟩ := zrs1 hz e
    obtain ⟨ns, en, hne, q⟩ := hf
    obtain ⟨a, us, rfl, ha, ga, da⟩ := r.tup w ex
    rw [ints?_eq en] at da
    cases ns with
    | nil => exact absurd rfl hne
    | cons n ns => exact .inr (.inr ⟨a, n, ns, rfl, (by rw [← da.ints]; exact ha), k _ P G H _ .refl w (.int _) q⟩)
  · obtain ⟨z, v, rfl, rfl, r, ex⟩ := zrs1 hz e
    obtain ⟨ns, en, hne, q⟩ := hf
    obtain ⟨a, us, rfl, ha, ga, da⟩ := r.tup w ex
    rw [ints?_eq en] at da
    cases ns with
    | nil => exact absurd rfl hne
    | cons n ns => exact .inr (.inr ⟨a, n, ns, rfl, (by rw [← da.ints]; exact ha), k _ P G H _ .refl w (.int _) q⟩)
  · obtain ⟨z, v, rfl, rfl, r, ex⟩ := zrs1 hz e
    obtain ⟨ns, en, q⟩ := hf
    obtain ⟨a, us, rfl, ha, da⟩ := r.lst w ex
    rw [ints?_eq en] at da
    exact ⟨a, ns, rfl, (by rw [← da.ints]; exact ha), k _ P G H _ .refl w (.int _) q⟩
  · obtain ⟨z, v, rfl, rfl, r, ex⟩ := zrs1 hz e
    obtain ⟨ns, en, q⟩ := hf
    obtain ⟨a, us, rfl, ha, da⟩ := r.lst w ex
    rw [bools?_eq en] at da
    exact ⟨a, ns, rfl, (by rw [← da.bools]; exact ha), k _ P G H _ .refl w (.bl _) q⟩
  · obtain ⟨z, v, rfl, rfl, r, ex⟩ := zrs1 hz e
    obtain ⟨ns, en, q⟩ := hf
    obtain ⟨a, us, rfl, ha, da⟩ := r.lst w ex
    rw [bools?_eq en] at da
    exact ⟨a, ns, rfl, (by rw [← da.bools]; exact ha), k _ P G H _ .refl w (.bl _) q⟩
  · obtain ⟨z, v, rfl, rfl, r, ex⟩ := zrs1 hz e
    obtain ⟨a, us, rfl, ha, da⟩ := r.lst w ex
    refine ⟨a, us, rfl, .inl ⟨ha, fun p o hp ho => ?_⟩⟩
    have s2 := Stp.new (o := .frz o (.tup us)) w hp
    exact k _ P _ _ _ s2 (w.new hp (w.lsz (K := K) ha)) (.tup (SqN.of ho) (dpa_mono s2.gg _ _ da)) hf
  · obtain ⟨z, v, rfl, rfl, r, ex⟩ := zrs1 hz e
    obtain ⟨a, us, rfl, ha, ga, da⟩ := r.tup w ex
    exact ⟨a, us, rfl, .inr ⟨ha, k _ P G H _ .refl w (.tup ga da) hf⟩⟩
  · obtain ⟨z, v, rfl, rfl, r, ex⟩ := zrs1 hz e
    obtain ⟨a, us, rfl, ha, da⟩ := r.lst w ex
    refine ⟨a, us, rfl, .inl ha, fun p hp => ?_⟩
    have s2 := Stp.new (o := .lst us) w hp
    exact k _ P _ _ _ s2 (w.new hp (w.lsz (K := K) ha)) (.lst upd_same (dpa_mono s2.gg _ _ da)) hf
  · obtain ⟨z, v, rfl, rfl, r, ex⟩ := zrs1 hz e
    obtain ⟨a, us, rfl, ha, ga, da⟩ := r.tup w ex
    refine ⟨a, us, rfl, .inr ha, fun p hp => ?_⟩
    have s2 := Stp.new (o := .lst us) w hp
    exact k _ P _ _ _ s2 (w.new hp (w.tsz (K := K) ha)) (.lst upd_same (dpa_mono s2.gg _ _ da)) hf
  · obtain ⟨z, v, rfl, rfl, r, ex⟩ := zrs1 hz e
    rw [zr_int w r ex]
    exact .inl ⟨_, rfl, k _ P G H _ .refl w (.int _) hf⟩
  · obtain ⟨z, v, rfl, rfl, r, ex⟩ := zrs1 hz e
    rw [dq_bool (r.look w ex fun _ e => by cases e)]
    exact .inr ⟨_, rfl, k _ P G H _ .refl w (.int _) hf⟩
  · obtain ⟨z, v, rfl, rfl, r, ex⟩ := zrs1 hz e
    rw [zr_int w r ex]
    exact .inl ⟨_, rfl, hf.1, k _ P G H _ .refl w (.str _) hf.2⟩
  · obtain ⟨z, v, rfl, rfl, r, ex⟩ := zrs1 hz e
    rw [dq_bool (r.look w ex fun _ e => by cases e)]
    exact .inr ⟨_, rfl, k _ P G H _ .refl w (.str _) hf⟩
  · obtain ⟨z, v, rfl, rfl, r, ex⟩ := zrs1 hz e
    rw [zr_int w r ex]
    exact .inl ⟨_, rfl, k _ P G H _ .refl w (.bl _) hf⟩
  · obtain ⟨z, v, rfl, rfl, r, ex⟩ := zrs1 hz e
    rw [dq_bool (r.look w ex fun _ e => by cases e)]
    exact .inr ⟨_, rfl, k _ P G H _ .refl w (.bl _) hf⟩
  · obtain ⟨z, v, rfl, rfl, r, ex⟩ := zrs1 hz e
    obtain ⟨h1, h2, h3, h4, h5, q⟩ := hf
    rename_i d
    have lk := r.look w ex
    cases d with
    | none => rw [dq_none (lk fun _ e => by cases e)]; exact .inr (.inl ⟨rfl, k _ P G H _ .refl w (.str _) q⟩)
    | bool b => rw [dq_bool (lk fun _ e => by cases e)]; refine .inl ⟨b, rfl, ?_⟩; rw [← shown_bool]; exact k _ P G H _ .refl w (.str _) q
    | int i => rw [zr_int w r ex]; exact .inr (.inr (.inl ⟨i, rfl, by simpa [PyData.showable] using h2, k _ P G H _ .refl w (.str _) q⟩))
    | str z => exact (show False from by simp [reprOk] at h1).elim
    | list xs =>
      obtain ⟨a, us, rfl, _⟩ := r.lst w ex
      exact .inr (.inr (.inr ⟨a, _, rfl, r.dp w ex h1, h2, h3, h4, h5, k _ P G H _ .refl w (.str _) q⟩))
    | tuple xs =>
      obtain ⟨a, us, rfl, _⟩ := r.tup w ex
      exact .inr (.inr (.inr ⟨a, _, rfl, r.dp w ex h1, h2, h3, h4, h5, k _ P G H _ .refl w (.str _) q⟩))
    | dict _ => simp [reprOk, PyData.canLay0] at h1
  · obtain ⟨z, v, rfl, rfl, r, ex⟩ := zrs1 hz e
    rcases hf with ⟨ns, en, hl, q⟩ | ⟨⟨lay, al, so, dp⟩, q⟩
    · obtain ⟨a, us, rfl, ha, da⟩ := r.lst w ex
      rw [ints?_eq en] at da
      refine .inl ⟨a, ns, rfl, (by rw [← da.ints]; exact ha), hl, fun ns' p hpm hso hp => ?_⟩
      rw [sorted_one (hpm.trans (sortI_perm ns).symm) hso (sortI_sorted ns)]
      have s2 := Stp.new (o := .lst ((sortI ns).map V.int)) w hp
      refine k _ P _ _ _ s2 (w.new hp ?_) (.lst upd_same (DqAll.of_ints _)) q
      show ((sortI ns).map V.int).length ≤ _
      rw [List.length_map, (sortI_perm ns).length_eq]
      exact small64 hl
    · obtain ⟨a, us, rfl, ha, da⟩ := r.lst w ex
      have dh : DpAll K H us _ := DqAll.dp _ _ lay (dpa_mono w.gh _ _ da)
      refine .inr ⟨a, us, _, rfl, ha, dh, al, so, dp, fun zs p hpm hso hp => ?_⟩
      have s2 := Stp.new (o := .lst (zs.map fun z => z.1)) w hp
      have dz : ∀ z ∈ zs, Dq K G z.1 z.2 := fun z hz => dqa_zip da (hpm.mem_iff.mp hz)
      refine k _ P _ _ _ s2 (w.new hp ?_) (.lst (xs := zs.map fun z => z.1) (ds := zs.map fun z => z.2) upd_same (dqa_of fun z hz => dp_mono s2.gg _ _ (dz z hz))) (q _ ?_ ?_)
      · show (zs.map fun z => z.1).length ≤ _
        rw [List.length_map, hpm.length_eq]
        exact Nat.le_trans (by rw [List.length_zip]; exact Nat.min_le_left _ _) (w.lsz ha)
      · have := hpm.map (fun z : V × PyData => z.2)
        rw [zip_snd dh] at this
        exact this
      · rw [List.pairwise_map]
        exact hso
  · exact hf.elim
end
end Z
/-! ZK -/
set_option maxRecDepth 100000
/-! zip and enumerate of lists and tuples -/
namespace Z
open PySem PySem.Spec PyProof.Rows L2
abbrev Rdr := Hp → List V → Prop
def ItG (RA RB : Rdr) : It where
  go := fun i H => ∃ (xs ys : List V) (x y : V), RA H xs ∧ RB H ys ∧ xs[i]? = some x ∧ ys[i]? = some y
  yld := fun i H v H' => ∃ T o x y, v = .ref T ∧ H T = none ∧ o.dict = none ∧ H' = upd H T (.frz o (.tup [x, y])) ∧ (∀ xs, RA H xs → xs[i]? = some x) ∧ ∀ ys, RB H ys → ys[i]? = some y
  stop := fun i H => ∃ xs ys : List V, RA H xs ∧ RB H ys ∧ i = min xs.length ys.length
def ItE (RA : Rdr) : It where
  go := fun i H => ∃ (xs : List V) (x : V), RA H xs ∧ xs[i]? = some x
  yld := fun i H v H' => ∃ T o x, v = .ref T ∧ H T = none ∧ o.dict = none ∧ H' = upd H T (.frz o (.tup [.int (i : Nat), x])) ∧ ∀ xs, RA H xs → xs[i]? = some x
  stop := fun i H => ∃ xs : List V, RA H xs ∧ i = xs.length
abbrev rL (K : PySem.W.Frag) (a : Addr) : Rdr := fun H xs => SqL K H a xs
abbrev rT (K : PySem.W.Frag) (a : Addr) : Rdr := fun H xs => SqT K H a xs
theorem five {α : Type} {c z t o i j : α} (h : c ∈ [z, t, o, i, j]) : c = z ∨ c = t ∨ c = o ∨ c = i ∨ c = j := by simpa using h
theorem list_inj {X : Cx} {pins : List (Addr × Obj)} {σ : L2.St} {H : Hp} {s : Shared} {a : Addr} {xs ys : List V} (I : Inv X pins σ H s) (h : SqL X.K H a xs) (h' : SqL X.K H a ys) : xs = ys := I.list_inj h h'
/-- a new pair's object -/
theorem pair_ok {P : Program} {w : World} {H : Hp} {h : Heap} {T : Addr} {x y : V} {u v : Value} (e : h.get? T = some (tObj [u, v])) (ru : RelV x u) (rv : RelV y v) : ObjOk P w (upd H T (.frz (tObj [u, v]) (.tup [x, y]))) h T (.frz (tObj [u, v]) (.tup [x, y])) :=
  ⟨e, by show 2 ≤ sizeLine; decide, [u, v], .cons ru (.cons rv .nil), ⟨_, e, rfl, _, rfl⟩⟩
/-- the zip's own objects -/
def tnLL (z TI TO i1 i2 a b : Addr) (i : Nat) (h : Heap) : Prop :=
  IsZip h z TI TO .none ∧ IsTupOf2 h TI (.ref i1) (.ref i2) ∧ (∃ u v, IsTupOf2 h TO u v) ∧ h.IsListIter i1 a i ∧ h.IsListIter i2 b i
theorem turnLL {P : Program} {w : World} {K : PySem.W.Frag} {elts : List Expr} {kk : Nat} {tpos : Pos} {a b z TI TO i1 i2 : Addr} (S : ZipSep2 z TI TO i1 i2 [i1, a] [i2, b]) (ha : a ≠ i1) (hb : b ≠ i2) :
    Turn P w K (.Tuple elts kk tpos) (ItG (rL K a) (rL K b)) [z, TI, TO, i1, i2] z (tnLL z TI TO i1 i2 a b) where
  mem := by simp
  obj := fun i h ⟨hz, hI, ⟨u, v, hO⟩, ⟨p, ep, _, dp⟩, ⟨q, eq, _, dq⟩⟩ c hc => by
    rcases five hc with e | e | e | e | e <;> subst e
    · exact ⟨_, hz, fun v x => nomatch x⟩
    · exact ⟨_, hI, fun v x => nomatch x⟩
    · exact ⟨_, hO, fun v x => nomatch x⟩
    · exact ⟨p, ep, fun v x => by rw [dp] at x; cases x⟩
    · exact ⟨q, eq, fun v x => by rw [dq] at x; cases x⟩
  keep := fun i h h' ⟨hz, hI, ⟨u, v, hO⟩, h1, h2⟩ k => ⟨k z (by simp) _ hz, k TI (by simp) _ hI, ⟨u, v, k TO (by simp) _ hO⟩, h1.at fun o q => k i1 (by simp) o q, h2.at fun o q => k i2 (by simp) o q⟩
  item := by
    intro X hP hw hK hc i pins s σ H E I hf ⟨hz, hI, ⟨u0, v0, hO⟩, h1, h2⟩ ⟨xs, ys, x, y, qx, qy, gx, gy⟩
    subst hP hw hK
    obtain ⟨its, rv, p1, _⟩ := I.list qx
    obtain ⟨its2, rv2, p2, _⟩ := I.list qy
    obtain ⟨u, hu, ru⟩ := rv.get gx
    obtain ⟨u2, hu2, ru2⟩ := rv2.get gy
    have zl : z < s.heap.objs.size := Heap.lt_size hz
    have l1 : i < its.toArray.size := by rw [List.size_toArray]; exact (List.getElem?_eq_some_iff.mp hu).1
    have l2 : i < its2.toArray.size := by rw [List.size_toArray]; exact (List.getElem?_eq_some_iff.mp hu2).1
    refine wpAny_pyNext_zipD2_item S (Draws.list (A := X.A.in1) (show X.A.in1.handled = none from I.ok.hd hc) i1 a ha its.toArray) (Draws.list (A := X.A.in1) (show X.A.in1.handled = none from I.ok.hd hc) i2 b hb its2.toArray) hz hI hO ⟨h1, p1.isList⟩ ⟨h2, p2.isList⟩ l1 l2 fun x1 x2 h' tk e1 e2 z' O' st1 st2 hT hs k' => ?_
    have e1 : its.toArray[i]? = some x1 := e1
    have e2 : its2.toArray[i]? = some x2 := e2
    rw [show its.toArray[i]? = some u by simpa using hu] at e1
    rw [show its2.toArray[i]? = some u2 by simpa using hu2] at e2
    cases e1
    cases e2
    refine ⟨_, rfl, wpAny_letOwnedTupleGo_zip (s := { s with heap := h', toks := tk }) z' fun h2' z2 sb => ?_⟩
    have hT2 : h2'.get? s.heap.objs.size = some (tObj [u, u2]) := (sb.2 _ (Nat.ne_of_gt zl)).trans hT
    have off : ∀ c, c ∉ [z, TI, TO, i1, i2] → c ≠ z ∧ c ≠ TO ∧ c ≠ i1 ∧ c ≠ i2 := fun c n => ⟨fun e => n (by simp [e]), fun e => n (by simp [e]), fun e => n (by simp [e]), fun e => n (by simp [e])⟩
    have J : Inv X pins σ (upd H s.heap.objs.size (.frz (tObj [u, u2]) (.tup [x, y]))) { s with heap := h2', toks := tk } :=
      I.turnedNew (t' := tk) (ch := [z, TI, TO, i1, i2]) (fun c o n e => (sb.2 c (off c n).1).trans (k' c o (off c n).1 (off c n).2.1 (off c n).2.2.1 (off c n).2.2.2 e)) hf (Nat.le_refl _) (pair_ok hT2 ru ru2)
    refine ⟨.ref s.heap.objs.size, _, J, rfl, ⟨_, _, x, y, rfl, I.hok.fresh (Nat.le_refl _), rfl, rfl, fun l hl => by rw [list_inj I hl qx]; exact gx, fun l hl => by rw [list_inj I hl qy]; exact gy⟩, ⟨z2, ?_, ⟨u, u2, ?_⟩, ?_, ?_⟩, fun c hcm => ?_⟩
    · exact (sb.2 _ S.TIz).trans (k' _ _ S.TIz S.TITO S.TIi1 S.TIi2 hI)
    · exact (sb.2 _ S.TOz).trans O'
    · exact st1.1.at fun o q => (sb.2 _ (fun e => S.zi1 e.symm)).trans q
    · exact st2.1.at fun o q => (sb.2 _ (fun e => S.zi2 e.symm)).trans q
    · have lt : c < s.heap.objs.size := by
        rcases five hcm with e | e | e | e | e <;> subst e
        · exact zl
        · exact Heap.lt_size hI
        · exact Heap.lt_size hO
        · obtain ⟨_, q, _⟩ := h1; exact Heap.lt_size q
        · obtain ⟨_, q, _⟩ := h2; exact Heap.lt_size q
      rw [upd_ne (Nat.ne_of_lt lt)]
      exact (hf c hcm).1
  done := by
    intro X hP hw hK hc i pins s σ H E I hf ⟨hz, hI, ⟨u0, v0, hO⟩, h1, h2⟩ ⟨xs, ys, qx, qy, hend⟩
    subst hP hw hK
    obtain ⟨its, rv, p1, _⟩ := I.list qx
    obtain ⟨its2, rv2, p2, _⟩ := I.list qy
    have l1 := rv.length
    have l2 := rv2.length
    refine wpAny_pyNext_zipD2_end (i := i) S (Draws.list (A := X.A.in1) (show X.A.in1.handled = none from I.ok.hd hc) i1 a ha its.toArray) (Draws.list (A := X.A.in1) (show X.A.in1.handled = none from I.ok.hd hc) i2 b hb its2.toArray) hz hI hO ⟨h1, p1.isList⟩ ⟨h2, p2.isList⟩
      (by rw [List.size_toArray]; omega) (by rw [List.size_toArray]; omega) (by rw [List.size_toArray, List.size_toArray]; omega) fun h' tk hk => ⟨rfl, ?_⟩
    exact I.turnedL (t' := tk) (ch := [z, TI, TO, i1, i2]) (fun c o n e => hk c o (fun e => n (by simp [e])) (fun e => n (by simp [e])) (fun e => n (by simp [e])) (fun e => n (by simp [e])) e) hf
  self := fun A i s Q E st h => wpAny_pyIter_zip st.1 h
/-- the zip's own objects -/
def tnTT (z TI TO i1 i2 a b : Addr) (i : Nat) (h : Heap) : Prop :=
  IsZip h z TI TO .none ∧ IsTupOf2 h TI (.ref i1) (.ref i2) ∧ (∃ u v, IsTupOf2 h TO u v) ∧ h.IsTupleIter i1 a i ∧ h.IsTupleIter i2 b i
theorem turnTT {P : Program} {w : World} {K : PySem.W.Frag} {elts : List Expr} {kk : Nat} {tpos : Pos} {a b z TI TO i1 i2 : Addr} (S : ZipSep2 z TI TO i1 i2 [i1, a] [i2, b]) (ha : a ≠ i1) (hb : b ≠ i2) :
    Turn P w K (.Tuple elts kk tpos) (ItG (rT K a) (rT K b)) [z, TI, TO, i1, i2] z (tnTT z TI TO i1 i2 a b) where
  mem := by simp
  obj := fun i h ⟨hz, hI, ⟨u, v, hO⟩, ⟨p, ep, _, dp⟩, ⟨q, eq, _, dq⟩⟩ c hc => by
    rcases five hc with e | e | e | e | e <;> subst e
    · exact ⟨_, hz, fun v x => nomatch x⟩
    · exact ⟨_, hI, fun v x => nomatch x⟩
    · exact ⟨_, hO, fun v x => nomatch x⟩
    · exact ⟨p, ep, fun v x => by rw [dp] at x; cases x⟩
    · exact ⟨q, eq, fun v x => by rw [dq] at x; cases x⟩
  keep := fun i h h' ⟨hz, hI, ⟨u, v, hO⟩, h1, h2⟩ k => ⟨k z (by simp) _ hz, k TI (by simp) _ hI, ⟨u, v, k TO (by simp) _ hO⟩, h1.at fun o q => k i1 (by simp) o q, h2.at fun o q => k i2 (by simp) o q⟩
  item := by
    intro X hP hw hK hc i pins s σ H E I hf ⟨hz, hI, ⟨u0, v0, hO⟩, h1, h2⟩ ⟨xs, ys, x, y, qx, qy, gx, gy⟩
    subst hP hw hK
    obtain ⟨its, rv, p1, _⟩ := I.tuple qx
    obtain ⟨its2, rv2, p2, _⟩ := I.tuple qy
    obtain ⟨u, hu, ru⟩ := rv.get gx
    obtain ⟨u2, hu2, ru2⟩ := rv2.get gy
    have zl : z < s.heap.objs.size := Heap.lt_size hz
    have l1 : i < its.toArray.size := by rw [List.size_toArray]; exact (List.getElem?_eq_some_iff.mp hu).1
    have l2 : i < its2.toArray.size := by rw [List.size_toArray]; exact (List.getElem?_eq_some_iff.mp hu2).1
    refine wpAny_pyNext_zipD2_item S (Draws.tuple (A := X.A.in1) (show X.A.in1.handled = none from I.ok.hd hc) i1 a ha its.toArray) (Draws.tuple (A := X.A.in1) (show X.A.in1.handled = none from I.ok.hd hc) i2 b hb its2.toArray) hz hI hO ⟨h1, p1⟩ ⟨h2, p2⟩ l1 l2 fun x1 x2 h' tk e1 e2 z' O' st1 st2 hT hs k' => ?_
    have e1 : its.toArray[i]? = some x1 := e1
    have e2 : its2.toArray[i]? = some x2 := e2
    rw [show its.toArray[i]? = some u by simpa using hu] at e1
    rw [show its2.toArray[i]? = some u2 by simpa using hu2] at e2
    cases e1
    cases e2
    refine ⟨_, rfl, wpAny_letOwnedTupleGo_zip (s := { s with heap := h', toks := tk }) z' fun h2' z2 sb => ?_⟩
    have hT2 : h2'.get? s.heap.objs.size = some (tObj [u, u2]) := (sb.2 _ (Nat.ne_of_gt zl)).trans hT
    have off : ∀ c, c ∉ [z, TI, TO, i1, i2] → c ≠ z ∧ c ≠ TO ∧ c ≠ i1 ∧ c ≠ i2 := fun c n => ⟨fun e => n (by simp [e]), fun e => n (by simp [e]), fun e => n (by simp [e]), fun e => n (by simp [e])⟩
    have J : Inv X pins σ (upd H s.heap.objs.size (.frz (tObj [u, u2]) (.tup [x, y]))) { s with heap := h2', toks := tk } :=
      I.turnedNew (t' := tk) (ch := [z, TI, TO, i1, i2]) (fun c o n e => (sb.2 c (off c n).1).trans (k' c o (off c n).1 (off c n).2.1 (off c n).2.2.1 (off c n).2.2.2 e)) hf (Nat.le_refl _) (pair_ok hT2 ru ru2)
    refine ⟨.ref s.heap.objs.size, _, J, rfl, ⟨_, _, x, y, rfl, I.hok.fresh (Nat.le_refl _), rfl, rfl, fun l hl => by rw [I.tuple_inj hl qx]; exact gx, fun l hl => by rw [I.tuple_inj hl qy]; exact gy⟩, ⟨z2, ?_, ⟨u, u2, ?_⟩, ?_, ?_⟩, fun c hcm => ?_⟩
    · exact (sb.2 _ S.TIz).trans (k' _ _ S.TIz S.TITO S.TIi1 S.TIi2 hI)
    · exact (sb.2 _ S.TOz).trans O'
    · exact st1.1.at fun o q => (sb.2 _ (fun e => S.zi1 e.symm)).trans q
    · exact st2.1.at fun o q => (sb.2 _ (fun e => S.zi2 e.symm)).trans q
    · have lt : c < s.heap.objs.size := by
        rcases five hcm with e | e | e | e | e <;> subst e
        · exact zl
        · exact Heap.lt_size hI
        · exact Heap.lt_size hO
        · obtain ⟨_, q, _⟩ := h1; exact Heap.lt_size q
        · obtain ⟨_, q, _⟩ := h2; exact Heap.lt_size q
      rw [upd_ne (Nat.ne_of_lt lt)]
      exact (hf c hcm).1
  done := by
    intro X hP hw hK hc i pins s σ H E I hf ⟨hz, hI, ⟨u0, v0, hO⟩, h1, h2⟩ ⟨xs, ys, qx, qy, hend⟩
    subst hP hw hK
    obtain ⟨its, rv, p1, _⟩ := I.tuple qx
    obtain ⟨its2, rv2, p2, _⟩ := I.tuple qy
    have l1 := rv.length
    have l2 := rv2.length
    refine wpAny_pyNext_zipD2_end (i := i) S (Draws.tuple (A := X.A.in1) (show X.A.in1.handled = none from I.ok.hd hc) i1 a ha its.toArray) (Draws.tuple (A := X.A.in1) (show X.A.in1.handled = none from I.ok.hd hc) i2 b hb its2.toArray) hz hI hO ⟨h1, p1⟩ ⟨h2, p2⟩
      (by rw [List.size_toArray]; omega) (by rw [List.size_toArray]; omega) (by rw [List.size_toArray, List.size_toArray]; omega) fun h' tk hk => ⟨rfl, ?_⟩
    exact I.turnedL (t' := tk) (ch := [z, TI, TO, i1, i2]) (fun c o n e => hk c o (fun e => n (by simp [e])) (fun e => n (by simp [e])) (fun e => n (by simp [e])) (fun e => n (by simp [e])) e) hf
  self := fun A i s Q E st h => wpAny_pyIter_zip st.1 h
/-- the zip's own objects -/
def tnLT (z TI TO i1 i2 a b : Addr) (i : Nat) (h : Heap) : Prop :=
  IsZip h z TI TO .none ∧ IsTupOf2 h TI (.ref i1) (.ref i2) ∧ (∃ u v, IsTupOf2 h TO u v) ∧ h.IsListIter i1 a i ∧ h.IsTupleIter i2 b i
theorem turnLT {P : Program} {w : World} {K : PySem.W.Frag} {elts : List Expr} {kk : Nat} {tpos : Pos} {a b z TI TO i1 i2 : Addr} (S : ZipSep2 z TI TO i1 i2 [i1, a] [i2, b]) (ha : a ≠ i1) (hb : b ≠ i2) :
    Turn P w K (.Tuple elts kk tpos) (ItG (rL K a) (rT K b)) [z, TI, TO, i1, i2] z (tnLT z TI TO i1 i2 a b) where
  mem := by simp
  obj := fun i h ⟨hz, hI, ⟨u, v, hO⟩, ⟨p, ep, _, dp⟩, ⟨q, eq, _, dq⟩⟩ c hc => by
    rcases five hc with e | e | e | e | e <;> subst e
    · exact ⟨_, hz, fun v x => nomatch x⟩
    · exact ⟨_, hI, fun v x => nomatch x⟩
    · exact ⟨_, hO, fun v x => nomatch x⟩
    · exact ⟨p, ep, fun v x => by rw [dp] at x; cases x⟩
    · exact ⟨q, eq, fun v x => by rw [dq] at x; cases x⟩
  keep := fun i h h' ⟨hz, hI, ⟨u, v, hO⟩, h1, h2⟩ k => ⟨k z (by simp) _ hz, k TI (by simp) _ hI, ⟨u, v, k TO (by simp) _ hO⟩, h1.at fun o q => k i1 (by simp) o q, h2.at fun o q => k i2 (by simp) o q⟩
  item := by
    intro X hP hw hK hc i pins s σ H E I hf ⟨hz, hI, ⟨u0, v0, hO⟩, h1, h2⟩ ⟨xs, ys, x, y, qx, qy, gx, gy⟩
    subst hP hw hK
    obtain ⟨its, rv, p1, _⟩ := I.list qx
    obtain ⟨its2, rv2, p2, _⟩ := I.tuple qy
    obtain ⟨u, hu, ru⟩ := rv.get gx
    obtain ⟨u2, hu2, ru2⟩ := rv2.get gy
    have zl : z < s.heap.objs.size := Heap.lt_size hz
    have l1 : i < its.toArray.size := by rw [List.size_toArray]; exact (List.getElem?_eq_some_iff.mp hu).1
    have l2 : i < its2.toArray.size := by rw [List.size_toArray]; exact (List.getElem?_eq_some_iff.mp hu2).1
    refine wpAny_pyNext_zipD2_item S (Draws.list (A := X.A.in1) (show X.A.in1.handled = none from I.ok.hd hc) i1 a ha its.toArray) (Draws.tuple (A := X.A.in1) (show X.A.in1.handled = none from I.ok.hd hc) i2 b hb its2.toArray) hz hI hO ⟨h1, p1.isList⟩ ⟨h2, p2⟩ l1 l2 fun x1 x2 h' tk e1 e2 z' O' st1 st2 hT hs k' => ?_
    have e1 : its.toArray[i]? = some x1 := e1
    have e2 : its2.toArray[i]? = some x2 := e2
    rw [show its.toArray[i]? = some u by simpa using hu] at e1
    rw [show its2.toArray[i]? = some u2 by simpa using hu2] at e2
    cases e1
    cases e2
    refine ⟨_, rfl, wpAny_letOwnedTupleGo_zip (s := { s with heap := h', toks := tk }) z' fun h2' z2 sb => ?_⟩
    have hT2 : h2'.get? s.heap.objs.size = some (tObj [u, u2]) := (sb.2 _ (Nat.ne_of_gt zl)).trans hT
    have off : ∀ c, c ∉ [z, TI, TO, i1, i2] → c ≠ z ∧ c ≠ TO ∧ c ≠ i1 ∧ c ≠ i2 := fun c n => ⟨fun e => n (by simp [e]), fun e => n (by simp [e]), fun e => n (by simp [e]), fun e => n (by simp [e])⟩
    have J : Inv X pins σ (upd H s.heap.objs.size (.frz (tObj [u, u2]) (.tup [x, y]))) { s with heap := h2', toks := tk } :=
      I.turnedNew (t' := tk) (ch := [z, TI, TO, i1, i2]) (fun c o n e => (sb.2 c (off c n).1).trans (k' c o (off c n).1 (off c n).2.1 (off c n).2.2.1 (off c n).2.2.2 e)) hf (Nat.le_refl _) (pair_ok hT2 ru ru2)
    refine ⟨.ref s.heap.objs.size, _, J, rfl, ⟨_, _, x, y, rfl, I.hok.fresh (Nat.le_refl _), rfl, rfl, fun l hl => by rw [list_inj I hl qx]; exact gx, fun l hl => by rw [I.tuple_inj hl qy]; exact gy⟩, ⟨z2, ?_, ⟨u, u2, ?_⟩, ?_, ?_⟩, fun c hcm => ?_⟩
    · exact (sb.2 _ S.TIz).trans (k' _ _ S.TIz S.TITO S.TIi1 S.TIi2 hI)
    · exact (sb.2 _ S.TOz).trans O'
    · exact st1.1.at fun o q => (sb.2 _ (fun e => S.zi1 e.symm)).trans q
    · exact st2.1.at fun o q => (sb.2 _ (fun e => S.zi2 e.symm)).trans q
    · have lt : c < s.heap.objs.size := by
        rcases five hcm with e | e | e | e | e <;> subst e
        · exact zl
        · exact Heap.lt_size hI
        · exact Heap.lt_size hO
        · obtain ⟨_, q, _⟩ := h1; exact Heap.lt_size q
        · obtain ⟨_, q, _⟩ := h2; exact Heap.lt_size q
      rw [upd_ne (Nat.ne_of_lt lt)]
      exact (hf c hcm).1
  done := by
    intro X hP hw hK hc i pins s σ H E I hf ⟨hz, hI, ⟨u0, v0, hO⟩, h1, h2⟩ ⟨xs, ys, qx, qy, hend⟩
    subst hP hw hK
    obtain ⟨its, rv, p1, _⟩ := I.list qx
    obtain ⟨its2, rv2, p2, _⟩ := I.tuple qy
    have l1 := rv.length
    have l2 := rv2.length
    refine wpAny_pyNext_zipD2_end (i := i) S (Draws.list (A := X.A.in1) (show X.A.in1.handled = none from I.ok.hd hc) i1 a ha its.toArray) (Draws.tuple (A := X.A.in1) (show X.A.in1.handled = none from I.ok.hd hc) i2 b hb its2.toArray) hz hI hO ⟨h1, p1.isList⟩ ⟨h2, p2⟩
      (by rw [List.size_toArray]; omega) (by rw [List.size_toArray]; omega) (by rw [List.size_toArray, List.size_toArray]; omega) fun h' tk hk => ⟨rfl, ?_⟩
    exact I.turnedL (t' := tk) (ch := [z, TI, TO, i1, i2]) (fun c o n e => hk c o (fun e => n (by simp [e])) (fun e => n (by simp [e])) (fun e => n (by simp [e])) (fun e => n (by simp [e])) e) hf
  self := fun A i s Q E st h => wpAny_pyIter_zip st.1 h
/-- the zip's own objects -/
def tnTL (z TI TO i1 i2 a b : Addr) (i : Nat) (h : Heap) : Prop :=
  IsZip h z TI TO .none ∧ IsTupOf2 h TI (.ref i1) (.ref i2) ∧ (∃ u v, IsTupOf2 h TO u v) ∧ h.IsTupleIter i1 a i ∧ h.IsListIter i2 b i
theorem turnTL {P : Program} {w : World} {K : PySem.W.Frag} {elts : List Expr} {kk : Nat} {tpos : Pos} {a b z TI TO i1 i2 : Addr} (S : ZipSep2 z TI TO i1 i2 [i1, a] [i2, b]) (ha : a ≠ i1) (hb : b ≠ i2) :
    Turn P w K (.Tuple elts kk tpos) (ItG (rT K a) (rL K b)) [z, TI, TO, i1, i2] z (tnTL z TI TO i1 i2 a b) where
  mem := by simp
  obj := fun i h ⟨hz, hI, ⟨u, v, hO⟩, ⟨p, ep, _, dp⟩, ⟨q, eq, _, dq⟩⟩ c hc => by
    rcases five hc with e | e | e | e | e <;> subst e
    · exact ⟨_, hz, fun v x => nomatch x⟩
    · exact ⟨_, hI, fun v x => nomatch x⟩
    · exact ⟨_, hO, fun v x => nomatch x⟩
    · exact ⟨p, ep, fun v x => by rw [dp] at x; cases x⟩
    · exact ⟨q, eq, fun v x => by rw [dq] at x; cases x⟩
  keep := fun i h h' ⟨hz, hI, ⟨u, v, hO⟩, h1, h2⟩ k => ⟨k z (by simp) _ hz, k TI (by simp) _ hI, ⟨u, v, k TO (by simp) _ hO⟩, h1.at fun o q => k i1 (by simp) o q, h2.at fun o q => k i2 (by simp) o q⟩
  item := by
    intro X hP hw hK hc i pins s σ H E I hf ⟨hz, hI, ⟨u0, v0, hO⟩, h1, h2⟩ ⟨xs, ys, x, y, qx, qy, gx, gy⟩
    subst hP hw hK
    obtain ⟨its, rv, p1, _⟩ := I.tuple qx
    obtain ⟨its2, rv2, p2, _⟩ := I.list qy
    obtain ⟨u, hu, ru⟩ := rv.get gx
    obtain ⟨u2, hu2, ru2⟩ := rv2.get gy
    have zl : z < s.heap.objs.size := Heap.lt_size hz
    have l1 : i < its.toArray.size := by rw [List.size_toArray]; exact (List.getElem?_eq_some_iff.mp hu).1
    have l2 : i < its2.toArray.size := by rw [List.size_toArray]; exact (List.getElem?_eq_some_iff.mp hu2).1
    refine wpAny_pyNext_zipD2_item S (Draws.tuple (A := X.A.in1) (show X.A.in1.handled = none from I.ok.hd hc) i1 a ha its.toArray) (Draws.list (A := X.A.in1) (show X.A.in1.handled = none from I.ok.hd hc) i2 b hb its2.toArray) hz hI hO ⟨h1, p1⟩ ⟨h2, p2.isList⟩ l1 l2 fun x1 x2 h' tk e1 e2 z' O' st1 st2 hT hs k' => ?_
    have e1 : its.toArray[i]? = some x1 := e1
    have e2 : its2.toArray[i]? = some x2 := e2
    rw [show its.toArray[i]? = some u by simpa using hu] at e1
    rw [show its2.toArray[i]? = some u2 by simpa using hu2] at e2
    cases e1
    cases e2
    refine ⟨_, rfl, wpAny_letOwnedTupleGo_zip (s := { s with heap := h', toks := tk }) z' fun h2' z2 sb => ?_⟩
    have hT2 : h2'.get? s.heap.objs.size = some (tObj [u, u2]) := (sb.2 _ (Nat.ne_of_gt zl)).trans hT
    have off : ∀ c, c ∉ [z, TI, TO, i1, i2] → c ≠ z ∧ c ≠ TO ∧ c ≠ i1 ∧ c ≠ i2 := fun c n => ⟨fun e => n (by simp [e]), fun e => n (by simp [e]), fun e => n (by simp [e]), fun e => n (by simp [e])⟩
    have J : Inv X pins σ (upd H s.heap.objs.size (.frz (tObj [u, u2]) (.tup [x, y]))) { s with heap := h2', toks := tk } :=
      I.turnedNew (t' := tk) (ch := [z, TI, TO, i1, i2]) (fun c o n e => (sb.2 c (off c n).1).trans (k' c o (off c n).1 (off c n).2.1 (off c n).2.2.1 (off c n).2.2.2 e)) hf (Nat.le_refl _) (pair_ok hT2 ru ru2)
    refine ⟨.ref s.heap.objs.size, _, J, rfl, ⟨_, _, x, y, rfl, I.hok.fresh (Nat.le_refl _), rfl, rfl, fun l hl => by rw [I.tuple_inj hl qx]; exact gx, fun l hl => by rw [list_inj I hl qy]; exact gy⟩, ⟨z2, ?_, ⟨u, u2, ?_⟩, ?_, ?_⟩, fun c hcm => ?_⟩
    · exact (sb.2 _ S.TIz).trans (k' _ _ S.TIz S.TITO S.TIi1 S.TIi2 hI)
    · exact (sb.2 _ S.TOz).trans O'
    · exact st1.1.at fun o q => (sb.2 _ (fun e => S.zi1 e.symm)).trans q
    · exact st2.1.at fun o q => (sb.2 _ (fun e => S.zi2 e.symm)).trans q
    · have lt : c < s.heap.objs.size := by
        rcases five hcm with e | e | e | e | e <;> subst e
        · exact zl
        · exact Heap.lt_size hI
        · exact Heap.lt_size hO
        · obtain ⟨_, q, _⟩ := h1; exact Heap.lt_size q
        · obtain ⟨_, q, _⟩ := h2; exact Heap.lt_size q
      rw [upd_ne (Nat.ne_of_lt lt)]
      exact (hf c hcm).1
  done := by
    intro X hP hw hK hc i pins s σ H E I hf ⟨hz, hI, ⟨u0, v0, hO⟩, h1, h2⟩ ⟨xs, ys, qx, qy, hend⟩
    subst hP hw hK
    obtain ⟨its, rv, p1, _⟩ := I.tuple qx
    obtain ⟨its2, rv2, p2, _⟩ := I.list qy
    have l1 := rv.length
    have l2 := rv2.length
    refine wpAny_pyNext_zipD2_end (i := i) S (Draws.tuple (A := X.A.in1) (show X.A.in1.handled = none from I.ok.hd hc) i1 a ha its.toArray) (Draws.list (A := X.A.in1) (show X.A.in1.handled = none from I.ok.hd hc) i2 b hb its2.toArray) hz hI hO ⟨h1, p1⟩ ⟨h2, p2.isList⟩
      (by rw [List.size_toArray]; omega) (by rw [List.size_toArray]; omega) (by rw [List.size_toArray, List.size_toArray]; omega) fun h' tk hk => ⟨rfl, ?_⟩
    exact I.turnedL (t' := tk) (ch := [z, TI, TO, i1, i2]) (fun c o n e => hk c o (fun e => n (by simp [e])) (fun e => n (by simp [e])) (fun e => n (by simp [e])) (fun e => n (by simp [e])) e) hf
  self := fun A i s Q E st h => wpAny_pyIter_zip st.1 h
/-- what zip(xs, ys) hands to a walk -/
def iZipM (K : PySem.W.Frag) (ta : TA) : TI := fun σ H R => ta σ H fun vs H1 => ∃ a b xs ys, vs = [.ref a, .ref b] ∧ ((SqL K H1 a xs ∧ SqL K H1 b ys ∧ R (ItG (rL K a) (rL K b)) H1) ∨ (SqT K H1 a xs ∧ SqT K H1 b ys ∧ R (ItG (rT K a) (rT K b)) H1) ∨ (SqL K H1 a xs ∧ SqT K H1 b ys ∧ R (ItG (rL K a) (rT K b)) H1) ∨ (SqT K H1 a xs ∧ SqL K H1 b ys ∧ R (ItG (rT K a) (rL K b)) H1))
theorem pi_zipM {X : Cx} {e e2 : Expr} {ta : TA} {p pos tpos : Pos} {elts : List Expr} {kk : Nat} (hg : Gl X "zip") (hm : X.mg "zip" = none) (ha : PA X [e, e2] ta)
    (hs : starEach [e, e2] X.env = (false, eval e X.env) :: starEach [e2] X.env) (hpl : (backTo pos (starEach [e2] X.env)).any (·.1) = false) : PI X (.Tuple elts kk tpos) (.Call (.Name "zip" p) [e, e2] [] pos) (iZipM X.K ta) := by
  refine ⟨fun pins s σ H R I h => ?_⟩
  refine Call_ (ld_blt I hg hm PyProof.Rows.boot_zip (PyProof.Rows.callWith_type1 (thn (ha.run pos pins s σ H _ I h) fun us s1 ⟨vs, H1, I1, r1, a, b, xs, ys, ex, q⟩ => ?_) hs hpl))
  subst ex
  obtain ⟨w1, w2, rfl, ra, rb⟩ : ∃ w1 w2, us = [w1, w2] ∧ RelV (.ref a) w1 ∧ RelV (.ref b) w2 := by
    cases r1 with
    | cons p1 p2 =>
      cases p2 with
      | cons p3 p4 =>
        cases p4
        exact ⟨_, _, rfl, p1, p3⟩
  obtain rfl : w1 = Value.ref a := ra
  obtain rfl : w2 = Value.ref b := rb
  have fresh : ∀ c, c ∈ [s1.heap.objs.size + 4, s1.heap.objs.size + 2, s1.heap.objs.size + 3, s1.heap.objs.size, s1.heap.objs.size + 1] → FpOk X pins H1 c := fun c hc => by
    have le : s1.heap.objs.size ≤ c := by
      rcases five hc with e | e | e | e | e <;> rw [e]
      · exact Nat.le_add_right _ _
      · exact Nat.le_add_right _ _
      · exact Nat.le_add_right _ _
      · exact Nat.le_refl _
      · exact Nat.le_add_right _ _
    exact I1.fpOk le (I1.hok.fresh le)
  rcases q with ⟨qx, qy, q⟩ | ⟨qx, qy, q⟩ | ⟨qx, qy, q⟩ | ⟨qx, qy, q⟩
  · obtain ⟨its, _, p1, _⟩ := I1.list qx
    obtain ⟨its2, _, p2, _⟩ := I1.list qy
    have la : a < s1.heap.objs.size := p1.lt
    have lb : b < s1.heap.objs.size := p2.lt
    refine zip_begins2 (begins_list a its.toArray) (begins_list b its2.toArray) p1.isList p2.isList fun h' hz hI hO h1 h2 hs hk => wpAny_pyIter_zip hz ⟨_, _, _, _, H1, rfl, I1.kept (t' := s1.toks) hk, turnLL (zip_sep2 (N := s1.heap.objs.size) (fp1 := [a]) (fp2 := [b]) (fun c hc => by simp at hc; subst hc; exact la) (fun c hc => by simp at hc; subst hc; exact lb)) (Nat.ne_of_lt la) (Nat.ne_of_lt (Nat.lt_succ_of_lt lb)), ⟨hz, hI, ⟨_, _, hO⟩, ⟨_, h1, rfl, rfl⟩, ⟨_, h2, rfl, rfl⟩⟩, fresh, q⟩
  · obtain ⟨its, _, p1, _⟩ := I1.tuple qx
    obtain ⟨its2, _, p2, _⟩ := I1.tuple qy
    have la : a < s1.heap.objs.size := let ⟨_, ho, _⟩ := p1; Heap.lt_size ho
    have lb : b < s1.heap.objs.size := let ⟨_, ho, _⟩ := p2; Heap.lt_size ho
    refine zip_begins2 (begins_tuple a its.toArray) (begins_tuple b its2.toArray) p1 p2 fun h' hz hI hO h1 h2 hs hk => wpAny_pyIter_zip hz ⟨_, _, _, _, H1, rfl, I1.kept (t' := s1.toks) hk, turnTT (zip_sep2 (N := s1.heap.objs.size) (fp1 := [a]) (fp2 := [b]) (fun c hc => by simp at hc; subst hc; exact la) (fun c hc => by simp at hc; subst hc; exact lb)) (Nat.ne_of_lt la) (Nat.ne_of_lt (Nat.lt_succ_of_lt lb)), ⟨hz, hI, ⟨_, _, hO⟩, ⟨_, h1, rfl, rfl⟩, ⟨_, h2, rfl, rfl⟩⟩, fresh, q⟩
  · obtain ⟨its, _, p1, _⟩ := I1.list qx
    obtain ⟨its2, _, p2, _⟩ := I1.tuple qy
    have la : a < s1.heap.objs.size := p1.lt
    have lb : b < s1.heap.objs.size := let ⟨_, ho, _⟩ := p2; Heap.lt_size ho
    refine zip_begins2 (begins_list a its.toArray) (begins_tuple b its2.toArray) p1.isList p2 fun h' hz hI hO h1 h2 hs hk => wpAny_pyIter_zip hz ⟨_, _, _, _, H1, rfl, I1.kept (t' := s1.toks) hk, turnLT (zip_sep2 (N := s1.heap.objs.size) (fp1 := [a]) (fp2 := [b]) (fun c hc => by simp at hc; subst hc; exact la) (fun c hc => by simp at hc; subst hc; exact lb)) (Nat.ne_of_lt la) (Nat.ne_of_lt (Nat.lt_succ_of_lt lb)), ⟨hz, hI, ⟨_, _, hO⟩, ⟨_, h1, rfl, rfl⟩, ⟨_, h2, rfl, rfl⟩⟩, fresh, q⟩
  · obtain ⟨its, _, p1, _⟩ := I1.tuple qx
    obtain ⟨its2, _, p2, _⟩ := I1.list qy
    have la : a < s1.heap.objs.size := let ⟨_, ho, _⟩ := p1; Heap.lt_size ho
    have lb : b < s1.heap.objs.size := p2.lt
    refine zip_begins2 (begins_tuple a its.toArray) (begins_list b its2.toArray) p1 p2.isList fun h' hz hI hO h1 h2 hs hk => wpAny_pyIter_zip hz ⟨_, _, _, _, H1, rfl, I1.kept (t' := s1.toks) hk, turnTL (zip_sep2 (N := s1.heap.objs.size) (fp1 := [a]) (fp2 := [b]) (fun c hc => by simp at hc; subst hc; exact la) (fun c hc => by simp at hc; subst hc; exact lb)) (Nat.ne_of_lt la) (Nat.ne_of_lt (Nat.lt_succ_of_lt lb)), ⟨hz, hI, ⟨_, _, hO⟩, ⟨_, h1, rfl, rfl⟩, ⟨_, h2, rfl, rfl⟩⟩, fresh, q⟩
abbrev tiObj (l : Addr) : Obj := { cls := .type "tuple_iterator", data := .fields #[.ref l, .int 0 0] }
abbrev enObj (i : Addr) : Obj := { cls := .type "enumerate", data := .fields #[.none, .bool false, .ref i, rawInt 0, .none, .none] }
set_option maxHeartbeats 1000000 in
theorem meets_enum_new1 {v : Value} {o : Obj} {H : Heap → Prop} (B : Begins v o H) :
    Meets (Builtin.«enumerate.__new__» ⟨[.type "enumerate", v], []⟩) (fun _ R s => H s.heap ∧ R (.ok (.ret (.ref (s.heap.push o).objs.size))) { s with heap := (s.heap.push o).push (enObj s.heap.objs.size) }) :=
  .of_wp fun prog w A R s hh => by
    obtain ⟨hp, g, d, tk, os⟩ := s
    obtain ⟨h1, h⟩ := hh
    have hsub := sub_enumerate
    have it : ∀ {A2 : Around} {E Q : Value → Shared → Prop}, Q (.ref hp.objs.size) ⟨hp.push o, g, d, tk, os⟩ → wpAny (model prog w) A2 (pyIter v) Q E ⟨hp, g, d, tk, os⟩ := fun q => B.iter prog w _ _ ⟨hp, g, d, tk, os⟩ _ h1 q
    wp_walk using it
    refine wpAny_stack_any fun st => wpAny_pure ?_
    split
    · rename_i c _ _ _ _ _
      cases (c == Value.type "enumerate") <;> (wp_walk using it; exact ⟨_, rfl, h⟩)
    · wp_walk using it; exact ⟨_, rfl, h⟩
theorem call_enumerate_tup {l : Addr} {prog : Program} {w : World} {A : Around} {E : Value → Shared → Prop} {s : Shared} {items : Array Value} {Q : Value → Shared → Prop} (hT : s.heap.IsTuple l items)
    (h : ∀ h2, IsEnum h2 (s.heap.objs.size + 1) s.heap.objs.size 0 .none → h2.IsTupleIter s.heap.objs.size l 0 → h2.objs.size = s.heap.objs.size + 2 → (∀ b o, s.heap.get? b = some o → h2.get? b = some o) → Q (.ref (s.heap.objs.size + 1)) { s with heap := h2 }) :
    wpAny (model prog w) A (call (.type "enumerate") [.ref l]) Q E s := by
  have B := begins_tuple l items
  refine callType_new F.called_enumerate (by decide) (F.typeCall_enumerate_1 _) (F.newCall_enumerate_1 _) (fun obj => F.args_object_init_2 obj _) F.entry_enumerate_new (meets_enum_new1 B) ⟨hT, ?_⟩
  have n1 : (s.heap.push (tiObj l)).objs.size = s.heap.objs.size + 1 := Heap.size_push ..
  show _ ∧ _
  rw [n1]
  have he : IsEnum ((s.heap.push (tiObj l)).push (enObj s.heap.objs.size)) (s.heap.objs.size + 1) s.heap.objs.size 0 .none := by
    have q := Heap.get?_push_size (s.heap.push (tiObj l)) (o := enObj s.heap.objs.size) rfl
    rw [n1] at q
    exact q
  exact ⟨⟨_, he, rfl⟩, h _ he ⟨_, Heap.get?_push_of_some _ (Heap.get?_push_size _ rfl), rfl, rfl⟩ (by rw [Heap.size_push, n1]) fun b o x => Heap.get?_push_of_some _ (Heap.get?_push_of_some _ x)⟩
theorem turnEL {P : Program} {w : World} {K : PySem.W.Frag} {elts : List Expr} {kk : Nat} {tpos : Pos} {a e it : Addr} (ai : a ≠ it) (ae : a ≠ e) :
    Turn P w K (.Tuple elts kk tpos) (ItE (rL K a)) [e, it] e (fun i h => (∃ old, IsEnum h e it ((i : Nat) : Int) old) ∧ h.IsListIter it a i ∧ e ≠ it) where
  mem := by simp
  obj := fun i h ⟨⟨old, he⟩, ⟨o, ho, _, hd⟩, _⟩ b hb => by
    rcases (by simpa using hb : b = e ∨ b = it) with z | z <;> subst z
    · exact ⟨_, he, fun v q => nomatch q⟩
    · exact ⟨o, ho, fun v q => by rw [hd] at q; cases q⟩
  keep := fun i h h2 ⟨⟨old, he⟩, hi, hne⟩ k => ⟨⟨old, k e (by simp) _ he⟩, hi.at fun o q => k it (by simp) o q, hne⟩
  item := by
    rintro X hP hw hK hc i pins s σ H E I hf ⟨⟨old, he⟩, hit, hne⟩ ⟨xs, x, hq, hx⟩
    subst hP hw hK
    obtain ⟨its, rv, p1, _⟩ := I.list hq
    obtain ⟨u, hu, ru⟩ := rv.get hx
    have el : e < s.heap.objs.size := Heap.lt_size he
    have il : it < s.heap.objs.size := by obtain ⟨_, q, _⟩ := hit; exact Heap.lt_size q
    have l1 : i < its.toArray.size := by rw [List.size_toArray]; exact (List.getElem?_eq_some_iff.mp hu).1
    refine wpAny_pyNext_enum_itemD (Draws.list (A := X.A.in1) (show X.A.in1.handled = none from I.ok.hd hc) it a ai its.toArray) he ⟨hit, p1.isList⟩ l1 hne (by simp; exact ⟨hne, Ne.symm ae⟩) fun u1 h2 tk e1 ho st hT hs kp => ?_
    have e1 : its.toArray[i]? = some u1 := e1
    rw [show its.toArray[i]? = some u by simpa using hu] at e1
    cases e1
    refine ⟨_, rfl, wpAny_letOwnedTupleGo_enum (s := { s with heap := h2, toks := tk + 1 }) ho fun h3 he3 sb => ?_⟩
    have hT3 : h3.get? s.heap.objs.size = some (tObj [.int i tk, u]) := (sb.2 _ (Nat.ne_of_gt el)).trans hT
    have off : ∀ c, c ∉ [e, it] → c ≠ e ∧ c ≠ it := fun c n => ⟨fun z => n (by simp [z]), fun z => n (by simp [z])⟩
    have J : Inv X pins σ (upd H s.heap.objs.size (.frz (tObj [.int i tk, u]) (.tup [.int (i : Nat), x]))) { s with heap := h3, toks := tk + 1 } :=
      I.turnedNew (ch := [e, it]) (fun c o n q => (sb.2 c (off c n).1).trans (kp c o (off c n).1 (off c n).2 q)) hf (Nat.le_refl _) (pair_ok hT3 ⟨_, rfl⟩ ru)
    refine ⟨.ref s.heap.objs.size, _, J, rfl, ⟨_, _, x, rfl, I.hok.fresh (Nat.le_refl _), rfl, rfl, fun l hl => by rw [list_inj I hl hq]; exact hx⟩, ⟨⟨u, ?_⟩, st.1.at fun o q => (sb.2 it (Ne.symm hne)).trans q, hne⟩, fun b hb => ?_⟩
    · rw [show ((i + 1 : Nat) : Int) = (i : Int) + 1 by omega]
      exact he3
    · have lt : b < s.heap.objs.size := by
        rcases (by simpa using hb : b = e ∨ b = it) with z | z <;> subst z
        · exact el
        · exact il
      rw [upd_ne (Nat.ne_of_lt lt)]
      exact (hf b hb).1
  done := by
    rintro X hP hw hK hc i pins s σ H E I hf ⟨⟨old, he⟩, hit, hne⟩ ⟨xs, hq, hx⟩
    subst hP hw hK
    obtain ⟨its, rv, p1, _⟩ := I.list hq
    obtain ⟨f0, f1, f2, f3, f4, f5⟩ := hf it (by simp)
    have sz : i = its.toArray.size := by rw [List.size_toArray, ← rv.length]; exact hx
    subst sz
    exact wpAny_pyNext_enum_endD (Draws.list (A := X.A.in1) (show X.A.in1.handled = none from I.ok.hd hc) it a ai its.toArray) he ⟨hit, p1.isList⟩ fun h2 eb => ⟨rfl, I.turned (t' := s.toks) (fun b o hb q => eb b o hb q) f0 f1 f3 f4 f5⟩
  self := fun A i s Q E ⟨⟨_, he⟩, _⟩ h => wpAny_pyIter_enum he h
theorem turnET {P : Program} {w : World} {K : PySem.W.Frag} {elts : List Expr} {kk : Nat} {tpos : Pos} {a e it : Addr} (ai : a ≠ it) (ae : a ≠ e) :
    Turn P w K (.Tuple elts kk tpos) (ItE (rT K a)) [e, it] e (fun i h => (∃ old, IsEnum h e it ((i : Nat) : Int) old) ∧ h.IsTupleIter it a i ∧ e ≠ it) where
  mem := by simp
  obj := fun i h ⟨⟨old, he⟩, ⟨o, ho, _, hd⟩, _⟩ b hb => by
    rcases (by simpa using hb : b = e ∨ b = it) with z | z <;> subst z
    · exact ⟨_, he, fun v q => nomatch q⟩
    · exact ⟨o, ho, fun v q => by rw [hd] at q; cases q⟩
  keep := fun i h h2 ⟨⟨old, he⟩, hi, hne⟩ k => ⟨⟨old, k e (by simp) _ he⟩, hi.at fun o q => k it (by simp) o q, hne⟩
  item := by
    rintro X hP hw hK hc i pins s σ H E I hf ⟨⟨old, he⟩, hit, hne⟩ ⟨xs, x, hq, hx⟩
    subst hP hw hK
    obtain ⟨its, rv, p1, _⟩ := I.tuple hq
    obtain ⟨u, hu, ru⟩ := rv.get hx
    have el : e < s.heap.objs.size := Heap.lt_size he
    have il : it < s.heap.objs.size := by obtain ⟨_, q, _⟩ := hit; exact Heap.lt_size q
    have l1 : i < its.toArray.size := by rw [List.size_toArray]; exact (List.getElem?_eq_some_iff.mp hu).1
    refine wpAny_pyNext_enum_itemD (Draws.tuple (A := X.A.in1) (show X.A.in1.handled = none from I.ok.hd hc) it a ai its.toArray) he ⟨hit, p1⟩ l1 hne (by simp; exact ⟨hne, Ne.symm ae⟩) fun u1 h2 tk e1 ho st hT hs kp => ?_
    have e1 : its.toArray[i]? = some u1 := e1
    rw [show its.toArray[i]? = some u by simpa using hu] at e1
    cases e1
    refine ⟨_, rfl, wpAny_letOwnedTupleGo_enum (s := { s with heap := h2, toks := tk + 1 }) ho fun h3 he3 sb => ?_⟩
    have hT3 : h3.get? s.heap.objs.size = some (tObj [.int i tk, u]) := (sb.2 _ (Nat.ne_of_gt el)).trans hT
    have off : ∀ c, c ∉ [e, it] → c ≠ e ∧ c ≠ it := fun c n => ⟨fun z => n (by simp [z]), fun z => n (by simp [z])⟩
    have J : Inv X pins σ (upd H s.heap.objs.size (.frz (tObj [.int i tk, u]) (.tup [.int (i : Nat), x]))) { s with heap := h3, toks := tk + 1 } :=
      I.turnedNew (ch := [e, it]) (fun c o n q => (sb.2 c (off c n).1).trans (kp c o (off c n).1 (off c n).2 q)) hf (Nat.le_refl _) (pair_ok hT3 ⟨_, rfl⟩ ru)
    refine ⟨.ref s.heap.objs.size, _, J, rfl, ⟨_, _, x, rfl, I.hok.fresh (Nat.le_refl _), rfl, rfl, fun l hl => by rw [I.tuple_inj hl hq]; exact hx⟩, ⟨⟨u, ?_⟩, st.1.at fun o q => (sb.2 it (Ne.symm hne)).trans q, hne⟩, fun b hb => ?_⟩
    · rw [show ((i + 1 : Nat) : Int) = (i : Int) + 1 by omega]
      exact he3
    · have lt : b < s.heap.objs.size := by
        rcases (by simpa using hb : b = e ∨ b = it) with z | z <;> subst z
        · exact el
        · exact il
      rw [upd_ne (Nat.ne_of_lt lt)]
      exact (hf b hb).1
  done := by
    rintro X hP hw hK hc i pins s σ H E I hf ⟨⟨old, he⟩, hit, hne⟩ ⟨xs, hq, hx⟩
    subst hP hw hK
    obtain ⟨its, rv, p1, _⟩ := I.tuple hq
    obtain ⟨f0, f1, f2, f3, f4, f5⟩ := hf it (by simp)
    have sz : i = its.toArray.size := by rw [List.size_toArray, ← rv.length]; exact hx
    subst sz
    exact wpAny_pyNext_enum_endD (Draws.tuple (A := X.A.in1) (show X.A.in1.handled = none from I.ok.hd hc) it a ai its.toArray) he ⟨hit, p1⟩ fun h2 eb => ⟨rfl, I.turned (t' := s.toks) (fun b o hb q => eb b o hb q) f0 f1 f3 f4 f5⟩
  self := fun A i s Q E ⟨⟨_, he⟩, _⟩ h => wpAny_pyIter_enum he h
/-- what enumerate(xs) hands to a walk -/
def iEnumM (K : PySem.W.Frag) (ta : TA) : TI := fun σ H R => ta σ H fun vs H1 => ∃ a xs, vs = [.ref a] ∧ ((SqL K H1 a xs ∧ R (ItE (rL K a)) H1) ∨ (SqT K H1 a xs ∧ R (ItE (rT K a)) H1))
theorem pi_enumM {X : Cx} {e : Expr} {ta : TA} {p pos tpos : Pos} {elts : List Expr} {kk : Nat} (hg : Gl X "enumerate") (hm : X.mg "enumerate" = none) (ha : PA X [e] ta) (hs : starEach [e] X.env = [(false, eval e X.env)]) :
    PI X (.Tuple elts kk tpos) (.Call (.Name "enumerate" p) [e] [] pos) (iEnumM X.K ta) := by
  refine ⟨fun pins s σ H R I h => ?_⟩
  refine Call_ (ld_blt I hg hm boot_enumerate (PyProof.Rows.callWith_type1 (thn (ha.run pos pins s σ H _ I h) fun us s1 ⟨vs, H1, I1, r1, a, xs, ex, q⟩ => ?_) hs rfl))
  subst ex
  rw [Vals.ref1 r1]
  have free : ∀ b, b ∈ [s1.heap.objs.size + 1, s1.heap.objs.size] → FpOk X pins H1 b := fun b hb => by
    have le : s1.heap.objs.size ≤ b := by
      rcases (by simpa using hb : b = s1.heap.objs.size + 1 ∨ b = s1.heap.objs.size) with z | z <;> subst z
      · exact Nat.le_add_right _ _
      · exact Nat.le_refl _
    exact I1.fpOk le (I1.hok.fresh le)
  rcases q with ⟨hq, q⟩ | ⟨hq, q⟩
  · obtain ⟨its, rv, p1, _⟩ := I1.list hq
    have la : a < s1.heap.objs.size := p1.lt
    exact call_enumerate_list p1.isList fun h2 he hit hsz hk => wpAny_pyIter_enum he ⟨_, [s1.heap.objs.size + 1, s1.heap.objs.size], _, _, H1, rfl, I1.kept (t' := s1.toks) hk, turnEL (Nat.ne_of_lt la) (Nat.ne_of_lt (Nat.lt_succ_of_lt la)), ⟨⟨.none, he⟩, hit, Nat.succ_ne_self _⟩, free, q⟩
  · obtain ⟨its, rv, p1, _⟩ := I1.tuple hq
    have la : a < s1.heap.objs.size := let ⟨_, ho, _⟩ := p1; Heap.lt_size ho
    exact call_enumerate_tup p1 fun h2 he hit hsz hk => wpAny_pyIter_enum he ⟨_, [s1.heap.objs.size + 1, s1.heap.objs.size], _, _, H1, rfl, I1.kept (t' := s1.toks) hk, turnET (Nat.ne_of_lt la) (Nat.ne_of_lt (Nat.lt_succ_of_lt la)), ⟨⟨.none, he⟩, hit, Nat.succ_ne_self _⟩, free, q⟩
end Z
/-! Z8 -/
set_option maxRecDepth 100000
/-! isinstance, list.index, what is walked, comprehensions -/
namespace Z
open PySem PySem.Spec PyProof.Rows L2
section
variable {X : Cx} {K : PySem.W.Frag}
def tyN : PyData → String
  | .none => "NoneType" | .bool _ => "bool" | .int _ => "int" | .str _ => "str" | .list _ => "list" | .tuple _ => "tuple" | .dict _ => "dict"
def isTn (T : String) : Bool := T == "int" || T == "bool" || T == "str" || T == "tuple" || T == "list"
theorem tyx_of {H : Hp} {v : V} {d : PyData} (h : Dq K H v d) : TyX K H v (.type (tyN d)) := by
  cases h with
  | non => exact .base .non
  | bl b => exact .base (.bl b)
  | int b => exact .base (.int b)
  | str b => exact .base (.str b)
  | lst hs _ => exact .base (.lst hs)
  | tup hs _ =>
    rcases hs with ⟨o, h, _⟩ | ⟨o, its, n, h, hc, _⟩
    · exact .fTuple h
    · exact .kTuple h hc
  | dic hs _ => exact .base (.dK hs)
theorem tyx_zr {P : Addr → Prop} {G H H0 : Hp} {c : Nat} {z : Zv} {v : V} {x : PyData} (w : Wd P G H c) (r : ZR K P G H H0 z v) (e : dv? z = some x) : TyX K H v (.type (tyN x)) := by
  by_cases q : ∃ xs, x = .list xs
  · obtain ⟨xs, rfl⟩ := q
    obtain ⟨a, vs, rfl, hs, ha⟩ := r.lst w e
    rcases hs with (h | ⟨o, h⟩) | ⟨o, its, n, h, hc, _⟩
    · exact .base (.lst h)
    · exact .base (.frz h)
    · exact .kList h hc
  · exact tyx_of (r.look w e fun xs e2 => q ⟨xs, e2⟩)
theorem kitB_of {T : String} (h : isTn T = true) : ∀ d : PyData, kitB (tyN d) T = some (isiD d T) := by
  unfold isTn at h
  simp only [Bool.or_eq_true, beq_iff_eq] at h
  rcases h with ((((rfl | rfl) | rfl) | rfl) | rfl) <;> intro d <;> cases d <;> (simp only [tyN, isiD]; decide +kernel)
theorem imp_isi {wa : WE} {ta : TE} {T : String} (hT : isTn T = true) (ha : Imp K wa ta) : Imp K (fun Γ c Q => wa Γ c fun x c1 => dv x fun dx => Q (.d (.bool (isiD dx T))) c1) (tCB (rIsi K) (tCons ta (tCons (tC (.ty T)) tNil))) := fun B σ P G H Γ c Q R a w k => by
  refine ha B σ P G H Γ c _ _ a w fun x P1 G1 H1 c1 zx s1 w1 r1 q1 => ?_
  obtain ⟨dx, ex, q⟩ := dv_of q1
  exact ⟨x, .ty T, _, _, _, rfl, .ty T, tyx_zr w1 r1 ex, kit_ty (kitB_of hT dx), k _ P1 G1 H1 c1 (.d _) s1 w1 (show Dq K _ _ _ from .bl _) q⟩
/-- list.index, tuple.index -/
def rIxN (K : PySem.W.Frag) : V → List V → Hp → VK → Prop := fun x vs H Q => ∃ (a : Addr) (y : V) (d : PyData) (ds : List PyData) (j : Nat) (z : PyData), x = .ref a ∧ vs = [y] ∧ Dp K H (.ref a) (.tuple ds) ∧ Dp K H y d ∧ SeqAt.shaped (.tuple ds) = true ∧ SeqAt.shaped d = true ∧ ds[j]? = some z ∧ PyData.eqv z d = true ∧ (∀ (m : Nat) (z' : PyData), m < j → ds[m]? = some z' → PyData.eqv z' d = false) ∧ Q (.int (j : Nat)) H
def tIx2 (K : PySem.W.Frag) (to : TE) (t : TA) : TE := fun σ H Q => to σ H fun x H1 =>
  (tyV K "list" x H1 ∧ t σ H1 fun xs H2 => rIndexD K x xs H2 Q) ∨ ((∃ a ys, x = .ref a ∧ SqN K H1 a ys) ∧ t σ H1 fun xs H2 => rIxN K x xs H2 Q)
theorem imp_index {wa : WE} {ta : TE} {w : WA} {t : TA} (ha : Imp K wa ta) (hw : ImpA K w t) :
    Imp K (fun Γ c Q => wa Γ c fun x c1 => dv x fun dx => mRc .index dx ∧ w Γ c1 fun zs c2 => dvs zs fun ds => wMth .index dx ds fun r => Q (.d r) c2) (tIx2 K ta t) := fun B σ P G H Γ c Q R a w' k => by
  refine ha B σ P G H Γ c _ _ a w' fun x P1 G1 H1 c1 zx s1 w1 r1 q1 => ?_
  obtain ⟨dx, ex, hm, q1⟩ := dv_of q1
  cases dx with
  | list us =>
    obtain ⟨p, vs, rfl, hv, da⟩ := r1.lst w1 ex
    refine .inl ⟨.inl ⟨rfl, vs, hv⟩, ?_⟩
    refine hw B σ P1 G1 H1 Γ c1 _ _ (a.step s1 w1) q1 fun ys P2 G2 H2 c2 zs s2 w2 r2 q2 => ?_
    obtain ⟨ds, q, e⟩ := dvs_of (B := B) r2 q2
    unfold wMth at q
    split at q
    · rename_i eu em
      cases em
      obtain ⟨z, y, rfl, rfl, ry, ey⟩ := zrs1 r2 e
      obtain ⟨h1, h2, j, zz, hj, he, hno, q⟩ := q
      exact ⟨p, y, _, _, j, zz, rfl, rfl, (r1.mono s2).dp w2 ex (shp h1), ry.dp w2 ey (shp h2), h1, h2, hj, he, hno, k _ P2 G2 H2 c2 (.d _) (s1.trans s2) w2 (show Dq K _ _ _ from .int _) q⟩
    all_goals first | contradiction | exact (show False from q).elim
  | tuple us =>
    obtain ⟨p, vs, rfl, hv, gv, da⟩ := r1.tup w1 ex
    refine .inr ⟨⟨p, vs, rfl, sqn_mono w1.gh gv⟩, ?_⟩
    refine hw B σ P1 G1 H1 Γ c1 _ _ (a.step s1 w1) q1 fun ys P2 G2 H2 c2 zs s2 w2 r2 q2 => ?_
    obtain ⟨ds, q, e⟩ := dvs_of (B := B) r2 q2
    unfold wMth at q
    split at q
    · contradiction
    · rename_i eu em
      cases em
      obtain ⟨z, y, rfl, rfl, ry, ey⟩ := zrs1 r2 e
      obtain ⟨h1, h2, j, zz, hj, he, hno, q⟩ := q
      exact ⟨p, y, _, _, j, zz, rfl, rfl, (r1.mono s2).dp w2 ex (shp h1), ry.dp w2 ey (shp h2), h1, h2, hj, he, hno, k _ P2 G2 H2 c2 (.d _) (s1.trans s2) w2 (show Dq K _ _ _ from .int _) q⟩
    all_goals first | contradiction | exact (show False from q).elim
  | _ => exact hm.elim
end
/-! ### what is walked -/
/-- an iterator yields such data, one behind the other -/
structure Wk (K : PySem.W.Frag) (J : It) (G0 : Hp) (ds : List PyData) : Prop where
  sz : ds.length ≤ sizeLine
  go : ∀ i P G H c, (∀ a o, G0 a = some o → G a = some o) → Wd P G H c → i < ds.length → J.go i H
  stop : ∀ P G H c, (∀ a o, G0 a = some o → G a = some o) → Wd P G H c → J.stop ds.length H
  yld : ∀ i P G H c x H', (∀ a o, G0 a = some o → G a = some o) → Wd P G H c → i < ds.length → J.yld i H x H' → ∃ G' d, Stp P G H P G' H' ∧ Wd P G' H' c ∧ ds[i]? = some d ∧ Dq K G' x d
def ImpI (K : PySem.W.Frag) (w : WI) (t : TI) : Prop :=
  ∀ (B : Bs) (σ : L2.St) (P : Addr → Prop) (G H : Hp) (Γ : Ga) (c : Nat) (Q : List PyData → Nat → Prop) (R : It → Hp → Prop), As K B P G H c Γ σ → w Γ c Q →
    (∀ J P' G' H' c' ds, Stp P G H P' G' H' → Wd P' G' H' c' → Wk K J G' ds → Q ds c' → R J H') → t σ H R
section
variable {K : PySem.W.Frag} {G0 : Hp}
theorem wk_list {P : Addr → Prop} {H : Hp} {c : Nat} {a : Addr} {vs : List V} {ds : List PyData} (w : Wd P G0 H c) (h : Rd G0 a (.lst vs)) (d : DqAll K G0 vs ds) : Wk K (Itl K a) G0 ds where
  sz := by rw [← d.length]; exact w.lsz (K := K) (.inl (rd_mono w.gh h))
  go := fun i P G H c e w hi => by
    have hs : SqL K H a vs := .inl (rd_mono w.gh (rd_mono e h))
    have hi' : i < vs.length := by rw [d.length]; exact hi
    exact ⟨vs, vs[i], hs, List.getElem?_eq_getElem hi'⟩
  stop := fun P G H c e w => ⟨vs, .inl (rd_mono w.gh (rd_mono e h)), by rw [d.length]; exact Nat.le_refl _⟩
  yld := fun i P G H c x H' e w hi y => by
    obtain ⟨rfl, y⟩ := y
    have hx := y vs (.inl (rd_mono w.gh (rd_mono e h)))
    obtain ⟨dd, e2, hd⟩ := d.get hx
    exact ⟨G, dd, .refl, w, e2, dp_mono e _ _ hd⟩
theorem wk_tup {P : Addr → Prop} {H : Hp} {c : Nat} {a : Addr} {vs : List V} {ds : List PyData} (w : Wd P G0 H c) (h : SqT K G0 a vs) (d : DqAll K G0 vs ds) : Wk K (Itt K a) G0 ds where
  sz := by rw [← d.length]; exact w.tsz (K := K) (sqt_mono w.gh h)
  go := fun i P G H c e w hi => by
    have hs : SqT K H a vs := sqt_mono w.gh (sqt_mono e h)
    have hi' : i < vs.length := by rw [d.length]; exact hi
    exact ⟨vs, vs[i], hs, List.getElem?_eq_getElem hi'⟩
  stop := fun P G H c e w => ⟨vs, sqt_mono w.gh (sqt_mono e h), by rw [d.length]; exact Nat.le_refl _⟩
  yld := fun i P G H c x H' e w hi y => by
    obtain ⟨rfl, y⟩ := y
    have hx := y vs (sqt_mono w.gh (sqt_mono e h))
    obtain ⟨dd, e2, hd⟩ := d.get hx
    exact ⟨G, dd, .refl, w, e2, dp_mono e _ _ hd⟩
theorem rangeD_len (a b : Int) : (rangeD a b).length = (b - a).toNat := by simp [rangeD]
theorem wk_range (a b : Int) (hz : b - a ≤ 16777216) : Wk K (Itr a (b - a).toNat) G0 (rangeD a b) where
  sz := by rw [rangeD_len, sizeLine_eq]; omega
  go := fun i P G H c e w hi => by rw [rangeD_len] at hi; exact hi
  stop := fun P G H c e w => by rw [rangeD_len]; exact Nat.le_refl _
  yld := fun i P G H c x H' e w hi y => by
    obtain ⟨rfl, rfl⟩ := y
    rw [rangeD_len] at hi
    refine ⟨G, .int (a + i), .refl, w, ?_, .int _⟩
    unfold rangeD
    rw [List.getElem?_map, List.getElem?_range hi]
    rfl
theorem zipD_get : ∀ {xs ys : List PyData} {i : Nat} {x y : PyData}, xs[i]? = some x → ys[i]? = some y → (zipD xs ys)[i]? = some (.tuple [x, y])
  | [], _, _, _, _, h, _ => by simp at h
  | _ :: _, [], _, _, _, _, h => by simp at h
  | a :: xs, b :: ys, 0, x, y, h, h' => by
    simp at h h'; subst h; subst h'; rfl
  | a :: xs, b :: ys, i + 1, x, y, h, h' => by
    simp at h h'
    simp only [zipD, List.getElem?_cons_succ]
    exact zipD_get h h'
theorem zipD_len : ∀ (xs ys : List PyData), (zipD xs ys).length = min xs.length ys.length
  | [], _ => by simp [zipD]
  | _ :: _, [] => by simp [zipD]
  | a :: xs, b :: ys => by simp [zipD, zipD_len xs ys]
theorem enumD_get : ∀ {xs : List PyData} {n i : Nat} {x : PyData}, xs[i]? = some x → (enumD n xs)[i]? = some (.tuple [.int (n + i : Nat), x])
  | [], _, _, _, h => by simp at h
  | a :: xs, n, 0, x, h => by
    simp at h; subst h; rfl
  | a :: xs, n, i + 1, x, h => by
    simp at h
    simp only [enumD, List.getElem?_cons_succ]
    rw [enumD_get h]
    have e : n + 1 + i = n + (i + 1) := by omega
    rw [e]
theorem enumD_len : ∀ (n : Nat) (xs : List PyData), (enumD n xs).length = xs.length
  | _, [] => rfl
  | n, a :: xs => by simp [enumD, enumD_len (n + 1) xs]
/-- a new pair -/
theorem pair_new {P : Addr → Prop} {G H : Hp} {c : Nat} {T : Addr} {o : Obj} {x y : V} {dx dy : PyData} (w : Wd P G H c) (hT : H T = none) (ho : o.dict = none) (hx : Dq K G x dx) (hy : Dq K G y dy) :
    Stp P G H P (upd G T (.frz o (.tup [x, y]))) (upd H T (.frz o (.tup [x, y]))) ∧ Wd P (upd G T (.frz o (.tup [x, y]))) (upd H T (.frz o (.tup [x, y]))) c ∧ Dq K (upd G T (.frz o (.tup [x, y]))) (.ref T) (.tuple [dx, dy]) := by
  have s := Stp.new (o := .frz o (.tup [x, y])) w hT
  exact ⟨s, w.new hT (by show 2 ≤ _; rw [sizeLine_eq]; omega), .tup (SqN.of ho) (.cons (dp_mono s.gg _ _ hx) (.cons (dp_mono s.gg _ _ hy) .nil))⟩
theorem wk_zipG {P : Addr → Prop} {H : Hp} {c : Nat} {RA RB : Rdr} {vs us : List V} {ds es : List PyData} (hz : vs.length ≤ sizeLine) (hA : ∀ P G H c, (∀ a o, G0 a = some o → G a = some o) → Wd P G H c → RA H vs) (hB : ∀ P G H c, (∀ a o, G0 a = some o → G a = some o) → Wd P G H c → RB H us) (d : DqAll K G0 vs ds) (d' : DqAll K G0 us es) : Wk K (ItG RA RB) G0 (zipD ds es) where
  sz := by rw [zipD_len, ← d.length]; exact Nat.le_trans (Nat.min_le_left _ _) hz
  go := fun i P G H c e w hi => by
    rw [zipD_len, ← d.length, ← d'.length] at hi
    exact ⟨vs, us, vs[i]'(by omega), us[i]'(by omega), hA _ _ _ _ e w, hB _ _ _ _ e w, List.getElem?_eq_getElem _, List.getElem?_eq_getElem _⟩
  stop := fun P G H c e w => ⟨vs, us, hA _ _ _ _ e w, hB _ _ _ _ e w, by rw [zipD_len, ← d.length, ← d'.length]⟩
  yld := fun i P G H c x H' e w hi y => by
    obtain ⟨T, o, x1, x2, rfl, hT, ho, rfl, y1, y2⟩ := y
    obtain ⟨d1, e1, q1⟩ := d.get (y1 vs (hA _ _ _ _ e w))
    obtain ⟨d2, e2, q2⟩ := d'.get (y2 us (hB _ _ _ _ e w))
    obtain ⟨s, w', q⟩ := pair_new w hT ho (dp_mono e _ _ q1) (dp_mono e _ _ q2)
    exact ⟨_, _, s, w', zipD_get e1 e2, q⟩
theorem wk_enumG {P : Addr → Prop} {H : Hp} {c : Nat} {RA : Rdr} {vs : List V} {ds : List PyData} (hz : vs.length ≤ sizeLine) (hA : ∀ P G H c, (∀ a o, G0 a = some o → G a = some o) → Wd P G H c → RA H vs) (d : DqAll K G0 vs ds) : Wk K (ItE RA) G0 (enumD 0 ds) where
  sz := by rw [enumD_len, ← d.length]; exact hz
  go := fun i P G H c e w hi => by
    rw [enumD_len, ← d.length] at hi
    exact ⟨vs, vs[i], hA _ _ _ _ e w, List.getElem?_eq_getElem _⟩
  stop := fun P G H c e w => ⟨vs, hA _ _ _ _ e w, by rw [enumD_len, ← d.length]⟩
  yld := fun i P G H c x H' e w hi y => by
    obtain ⟨T, o, x2, rfl, hT, ho, rfl, y2⟩ := y
    obtain ⟨d2, e2, q2⟩ := d.get (y2 vs (hA _ _ _ _ e w))
    obtain ⟨s, w', q⟩ := pair_new w hT ho (.int ((i : Nat) : Int)) (dp_mono e _ _ q2)
    have e3 := enumD_get (n := 0) e2
    rw [Nat.zero_add] at e3
    exact ⟨_, _, s, w', e3, q⟩
theorem still_l {a : Addr} {vs : List V} (h : Rd G0 a (.lst vs)) : ∀ (P : Addr → Prop) (G H : Hp) (c : Nat), (∀ a o, G0 a = some o → G a = some o) → Wd P G H c → rL K a H vs := fun P G H c e w => .inl (rd_mono w.gh (rd_mono e h))
theorem still_t {a : Addr} {vs : List V} (h : SqT K G0 a vs) : ∀ (P : Addr → Prop) (G H : Hp) (c : Nat), (∀ a o, G0 a = some o → G a = some o) → Wd P G H c → rT K a H vs := fun P G H c e w => sqt_mono w.gh (sqt_mono e h)
/-- readings -/
theorem zr_list {P : Addr → Prop} {G H H0 : Hp} {z : Zv} {v : V} {xs : List PyData} (r : ZR K P G H H0 z v) (e : z = .d (.list xs)) : ∃ a vs, v = .ref a ∧ Rd G a (.lst vs) ∧ DqAll K G vs xs := by
  subst e
  cases (show Dq K G v (.list xs) from r) with
  | lst hs ha => exact ⟨_, _, rfl, .inl hs, ha⟩
theorem zr_tuple {P : Addr → Prop} {G H H0 : Hp} {z : Zv} {v : V} {xs : List PyData} (r : ZR K P G H H0 z v) (e : z = .d (.tuple xs)) : ∃ a vs, v = .ref a ∧ SqT K G a vs ∧ DqAll K G vs xs := by
  subst e
  cases (show Dq K G v (.tuple xs) from r) with
  | tup hs ha => exact ⟨_, _, rfl, hs.t, ha⟩
/-- a list or a tuple, by what stands there -/
def iSeq (K : PySem.W.Frag) (tl : TE) : TI := fun σ H R => tl σ H fun x H1 => ∃ a xs, x = .ref a ∧ ((SqL K H1 a xs ∧ R (Itl K a) H1) ∨ (SqT K H1 a xs ∧ R (Itt K a) H1))
theorem pi_seq {X : Cx} {tg l : Expr} {tl : TE} (hl : PE X l tl) : PI X tg l (iSeq X.K tl) := ⟨fun pins s σ H R I h => by
  refine thn (hl.run pins s σ H _ I h) fun v s1 hv => ?_
  obtain ⟨x, H1, I1, r1, a, xs, ex, q⟩ := hv
  subst ex
  cases r1
  have fresh : ∀ {o : Obj} (b : Addr), b ∈ [s1.heap.objs.size] → FpOk X pins H1 b := fun {o} b hb => by
    rw [List.mem_singleton.mp hb]
    exact I1.fpOk (Nat.le_refl _) (I1.hok.fresh (Nat.le_refl _))
  have kept : ∀ o : Obj, Inv X pins σ H1 { s1 with heap := s1.heap.push o } := fun o => I1.kept (t' := s1.toks) fun _ _ e => Heap.get?_push_of_some _ e
  rcases q with ⟨hq, q⟩ | ⟨hq, q⟩
  · obtain ⟨its, _, pl, _⟩ := I1.list hq
    refine wpAny_pyIter_list pl.isList ⟨s1.heap.objs.size, [s1.heap.objs.size], _, _, H1, rfl, kept _, turn_list a _, ⟨_, Heap.get?_push_size _ rfl, rfl, rfl⟩, fresh (o := default), q⟩
  · obtain ⟨its, _, pl, _⟩ := I1.tuple hq
    refine wpAny_pyIter_tuple (show s1.heap.IsTuple a its.toArray from pl) ⟨s1.heap.objs.size, [s1.heap.objs.size], _, _, H1, rfl, kept _, turn_tuple a _, ⟨_, Heap.get?_push_size _ rfl, rfl, rfl⟩, fresh (o := default), q⟩⟩
theorem impi_seq {wa : WE} {ta : TE} (ha : Imp K wa ta) : ImpI K (fun Γ c Q => wa Γ c fun z c1 => dz z fun d => wIt none [d] fun r => Q r c1) (iSeq K ta) := fun B σ P G H Γ c Q R a w k => by
  refine ha B σ P G H Γ c _ _ a w fun x P1 G1 H1 c1 z s1 w1 r1 q1 => ?_
  obtain ⟨d, rfl, q⟩ := dz_of q1
  unfold wIt at q
  split at q
  · rename_i e1 e2
    cases e2
    obtain ⟨p, vs, rfl, hv, da⟩ := zr_list r1 rfl
    exact ⟨p, vs, rfl, .inl ⟨.inl (rd_mono w1.gh hv), k _ P1 G1 H1 c1 _ s1 w1 (wk_list w1 hv da) q⟩⟩
  · rename_i e1 e2
    cases e2
    obtain ⟨p, vs, rfl, hv, da⟩ := zr_tuple r1 rfl
    exact ⟨p, vs, rfl, .inr ⟨sqt_mono w1.gh hv, k _ P1 G1 H1 c1 _ s1 w1 (wk_tup w1 hv da) q⟩⟩
  all_goals first | contradiction | exact q.elim
/-- range(b), range(a, b) -/
theorem impi_range1 {wa : WE} {ta : TE} (ha : Imp K wa ta) : ImpI K (fun Γ c Q => wa Γ c fun z c1 => dzs [z] fun ds => wIt (some .range) ds fun r => Q r c1) (iRng1 (tCons ta tNil)) := fun B σ P G H Γ c Q R a w' k => by
  refine ha B σ P G H Γ c _ _ a w' fun x P1 G1 H1 c1 z s1 w1 r1 q1 => ?_
  cases z with
  | d dd =>
    have q : wIt (some .range) [dd] fun r => Q r c1 := q1
    cases dd with
    | int j =>
      obtain ⟨h1, h2, q⟩ := q
      cases (show Dq K G1 x (.int j) from r1)
      refine ⟨j, rfl, h2, by omega, ?_⟩
      have := wk_range (K := K) (G0 := G1) 0 j (by omega)
      rw [Int.sub_zero] at this
      exact k _ P1 G1 H1 c1 _ s1 w1 this q
    | _ => exact q.elim
  | _ => exact q1.elim
theorem impi_range2 {wa wb : WE} {ta tb : TE} (ha : Imp K wa ta) (hb : Imp K wb tb) : ImpI K (fun Γ c Q => wa Γ c fun z c1 => wb Γ c1 fun z' c2 => dzs [z, z'] fun ds => wIt (some .range) ds fun r => Q r c2) (iRng2 (tCons ta (tCons tb tNil))) := fun B σ P G H Γ c Q R a w' k => by
  refine ha B σ P G H Γ c _ _ a w' fun x P1 G1 H1 c1 z s1 w1 r1 q1 => ?_
  refine hb B σ P1 G1 H1 Γ c1 _ _ (a.step s1 w1) q1 fun y P2 G2 H2 c2 z' s2 w2 r2 q2 => ?_
  cases z with
  | d dd =>
    cases z' with
    | d ee =>
      have q : wIt (some .range) [dd, ee] fun r => Q r c2 := q2
      cases dd with
      | int i =>
        cases ee with
        | int j =>
          obtain ⟨⟨h0, h1, h2, h3, h4⟩, q⟩ := q
          cases (show Dq K G1 x (.int i) from r1)
          cases (show Dq K G2 y (.int j) from r2)
          exact ⟨i, j, rfl, ⟨h1, h2, h3, h4⟩, k _ P2 G2 H2 c2 _ (s1.trans s2) w2 (wk_range i j h0) q⟩
        | _ => exact q.elim
      | _ => exact q.elim
    | _ => exact q2.elim
  | _ => exact q2.elim
theorem impi_zip {wa wb : WE} {ta tb : TE} (ha : Imp K wa ta) (hb : Imp K wb tb) : ImpI K (fun Γ c Q => wa Γ c fun z c1 => wb Γ c1 fun z' c2 => dzs [z, z'] fun ds => wIt (some .zip) ds fun r => Q r c2) (iZipM K (tCons ta (tCons tb tNil))) := fun B σ P G H Γ c Q R a w' k => by
  refine ha B σ P G H Γ c _ _ a w' fun x P1 G1 H1 c1 z s1 w1 r1 q1 => ?_
  refine hb B σ P1 G1 H1 Γ c1 _ _ (a.step s1 w1) q1 fun y P2 G2 H2 c2 z' s2 w2 r2 q2 => ?_
  cases z with
  | d dd =>
    cases z' with
    | d ee =>
      have q : wIt (some .zip) [dd, ee] fun r => Q r c2 := q2
      cases dd with
      | list xs =>
        obtain ⟨p, vs, rfl, hv, da⟩ := zr_list (r1.mono s2) rfl
        have z1 := w2.lsz (K := K) (.inl (rd_mono w2.gh hv))
        cases ee with
        | list ys =>
          obtain ⟨p', vs', rfl, hv', da'⟩ := zr_list r2 rfl
          exact ⟨p, p', vs, vs', rfl, .inl ⟨.inl (rd_mono w2.gh hv), .inl (rd_mono w2.gh hv'), k _ P2 G2 H2 c2 _ (s1.trans s2) w2 (wk_zipG (P := P2) (H := H2) (c := c2) z1 (still_l hv) (still_l hv') da da') q⟩⟩
        | tuple ys =>
          obtain ⟨p', vs', rfl, hv', da'⟩ := zr_tuple r2 rfl
          exact ⟨p, p', vs, vs', rfl, .inr (.inr (.inl ⟨.inl (rd_mono w2.gh hv), sqt_mono w2.gh hv', k _ P2 G2 H2 c2 _ (s1.trans s2) w2 (wk_zipG (P := P2) (H := H2) (c := c2) z1 (still_l hv) (still_t hv') da da') q⟩))⟩
        | _ => exact q.elim
      | tuple xs =>
        obtain ⟨p, vs, rfl, hv, da⟩ := zr_tuple (r1.mono s2) rfl
        have z1 := w2.tsz (K := K) (sqt_mono w2.gh hv)
        cases ee with
        | tuple ys =>
          obtain ⟨p', vs', rfl, hv', da'⟩ := zr_tuple r2 rfl
          exact ⟨p, p', vs, vs', rfl, .inr (.inl ⟨sqt_mono w2.gh hv, sqt_mono w2.gh hv', k _ P2 G2 H2 c2 _ (s1.trans s2) w2 (wk_zipG (P := P2) (H := H2) (c := c2) z1 (still_t hv) (still_t hv') da da') q⟩)⟩
        | list ys =>
          obtain ⟨p', vs', rfl, hv', da'⟩ := zr_list r2 rfl
          exact ⟨p, p', vs, vs', rfl, .inr (.inr (.inr ⟨sqt_mono w2.gh hv, .inl (rd_mono w2.gh hv'), k _ P2 G2 H2 c2 _ (s1.trans s2) w2 (wk_zipG (P := P2) (H := H2) (c := c2) z1 (still_t hv) (still_l hv') da da') q⟩))⟩
        | _ => exact q.elim
      | _ => exact q.elim
    | _ => exact q2.elim
  | _ => exact q2.elim
theorem impi_enum {wa : WE} {ta : TE} (ha : Imp K wa ta) : ImpI K (fun Γ c Q => wa Γ c fun z c1 => dzs [z] fun ds => wIt (some .enum) ds fun r => Q r c1) (iEnumM K (tCons ta tNil)) := fun B σ P G H Γ c Q R a w' k => by
  refine ha B σ P G H Γ c _ _ a w' fun x P1 G1 H1 c1 z s1 w1 r1 q1 => ?_
  cases z with
  | d dd =>
    have q : wIt (some .enum) [dd] fun r => Q r c1 := q1
    cases dd with
    | list xs =>
      obtain ⟨p, vs, rfl, hv, da⟩ := zr_list r1 rfl
      exact ⟨p, vs, rfl, .inl ⟨.inl (rd_mono w1.gh hv), k _ P1 G1 H1 c1 _ s1 w1 (wk_enumG (P := P1) (H := H1) (c := c1) (w1.lsz (K := K) (.inl (rd_mono w1.gh hv))) (still_l hv) da) q⟩⟩
    | tuple xs =>
      obtain ⟨p, vs, rfl, hv, da⟩ := zr_tuple r1 rfl
      exact ⟨p, vs, rfl, .inr ⟨sqt_mono w1.gh hv, k _ P1 G1 H1 c1 _ s1 w1 (wk_enumG (P := P1) (H := H1) (c := c1) (w1.tsz (K := K) (sqt_mono w1.gh hv)) (still_t hv) da) q⟩⟩
    | _ => exact q.elim
  | _ => exact q1.elim
end
end Z
/-! Z9 -/
set_option maxRecDepth 100000
/-! targets, comprehensions -/
namespace Z
open PySem PySem.Spec PyProof.Rows L2
/-- what changed among the slots -/
structure Chg (ts : List Nat) (σ σ' : L2.St) : Prop where
  ln : σ'.length = σ.length
  at_ : ∀ j, j ∉ ts → σ'[j]? = σ[j]?
theorem Chg.refl (ts : List Nat) (σ : L2.St) : Chg ts σ σ := ⟨rfl, fun _ _ => rfl⟩
theorem Chg.trans {ts us : List Nat} {σ σ1 σ2 : L2.St} (a : Chg ts σ σ1) (b : Chg us σ1 σ2) : Chg (ts ++ us) σ σ2 :=
  ⟨b.ln.trans a.ln, fun j h => (b.at_ j fun z => h (List.mem_append_right _ z)).trans (a.at_ j fun z => h (List.mem_append_left _ z))⟩
theorem Chg.mono {ts us : List Nat} {σ σ1 : L2.St} (a : Chg ts σ σ1) (h : ∀ i ∈ ts, i ∈ us) : Chg us σ σ1 := ⟨a.ln, fun j n => a.at_ j fun z => n (h j z)⟩
theorem wipe_get (σ : L2.St) : ∀ (vs : List Nat) (j : Nat), (wipe σ vs)[j]? = if j ∈ vs ∧ j < σ.length then some none else σ[j]?
  | [], j => by simp [wipe]
  | v :: vs, j => by
    unfold wipe
    have hl := wipe_length σ vs
    by_cases e : v = j
    · subst e
      by_cases h : v < σ.length
      · rw [List.getElem?_set_self (by omega)]
        simp [h]
      · rw [List.getElem?_eq_none (by rw [List.length_set]; omega)]
        simp only [h, and_false, if_false]
        rw [List.getElem?_eq_none (by omega)]
    · rw [List.getElem?_set_ne e, wipe_get σ vs j]
      have : (j ∈ v :: vs) ↔ j ∈ vs := by simp [Ne.symm e]
      simp only [this]
theorem Chg.wipe {ts vs : List Nat} {σ σ' : L2.St} (a : Chg ts (L2.wipe σ vs) σ') (h : ∀ i ∈ ts, i ∈ vs) : L2.wipe σ' vs = L2.wipe σ vs := by
  apply List.ext_getElem?
  intro j
  rw [wipe_get, a.ln, wipe_length]
  by_cases hj : j ∈ vs
  · rw [wipe_get σ vs j]
    by_cases hl : j < σ.length
    · simp [hj, hl]
    · simp only [hj, hl, and_false, if_false]
      rw [List.getElem?_eq_none (by rw [a.ln, wipe_length]; omega), List.getElem?_eq_none (by omega)]
  · simp only [hj, false_and, if_false]
    exact a.at_ j fun z => hj (h j z)
theorem get_lt : ∀ {Γ : Ga} {j : Nat} {z : Zv}, get Γ j = some z → j < Γ.length
  | [], _, _, h => by simp [get] at h
  | _ :: _, 0, _, _ => by simp
  | _ :: r, j + 1, z, h => by
    have := get_lt (Γ := r) (j := j) (z := z) h
    simp; omega
theorem wipeG_len (Γ : Ga) : ∀ vs : List Nat, (wipeG Γ vs).length = Γ.length
  | [] => rfl
  | v :: vs => by unfold wipeG; rw [put_len, wipeG_len Γ vs]
theorem wipeG_get (Γ : Ga) : ∀ (vs : List Nat) (j : Nat) (z : Zv), get (wipeG Γ vs) j = some z → j ∉ vs ∧ get Γ j = some z
  | [], j, z, h => ⟨by simp, h⟩
  | v :: vs, j, z, h => by
    unfold wipeG at h
    rw [get_put] at h
    split at h
    · cases h
    · rename_i hn
      obtain ⟨h1, h2⟩ := wipeG_get Γ vs j z h
      refine ⟨fun z => ?_, h2⟩
      rcases List.mem_cons.mp z with e | e
      · subst e
        refine hn ⟨rfl, ?_⟩
        rw [wipeG_len]
        exact get_lt h2
      · exact h1 e
section
variable {K : PySem.W.Frag} {B : Bs} {P : Addr → Prop} {G H : Hp} {c : Nat} {Γ : Ga} {σ : L2.St}
theorem As.wipe (a : As K B P G H c Γ σ) (vs : List Nat) : As K B P G H c (wipeG Γ vs) (L2.wipe σ vs) := by
  have at_ : ∀ j z, get (wipeG Γ vs) j = some z → (L2.wipe σ vs)[j]? = σ[j]? ∧ get Γ j = some z := fun j z h => by
    obtain ⟨h1, h2⟩ := wipeG_get Γ vs j z h
    rw [wipe_get]
    simp [h1, h2]
  refine ⟨a.st, a.wd, fun i z h => ?_, by rw [wipeG_len, wipe_length]; exact a.ln, fun i j xs ys hij h1 h2 o1 o2 => ?_⟩
  · obtain ⟨e, h2⟩ := at_ i z h
    rw [e]
    exact a.sl i z h2
  · obtain ⟨e1, g1⟩ := at_ i _ h1
    obtain ⟨e2, g2⟩ := at_ j _ h2
    rw [e1, e2]
    exact a.dj i j xs ys hij g1 g2 o1 o2
/-- a slot is set -/
theorem As.set {i : Nat} {z : Zv} {v : V} (a : As K B P G H c Γ σ) (r : ZR K P G H B.H z v) (h : owZ z = true → ∀ j y, j ≠ i → get Γ j = some y → owZ y = true → σ[j]? ≠ some (some v)) : As K B P G H c (put Γ i (some z)) (σ.set i (some v)) := by
  refine ⟨a.st, a.wd, fun j y hj => ?_, by rw [put_len, List.length_set]; exact a.ln, fun j k xs ys hjk h1 h2 o1 o2 => ?_⟩
  · rw [get_put] at hj
    split at hj
    · rename_i hc
      obtain ⟨rfl, hl⟩ := hc
      cases hj
      exact ⟨v, List.getElem?_set_self (Nat.lt_of_lt_of_le hl a.ln), r⟩
    · rename_i hc
      obtain ⟨v', e, r'⟩ := a.sl j y hj
      refine ⟨v', ?_, r'⟩
      rw [List.getElem?_set_ne (fun q => hc ⟨q, by rw [q]; exact get_lt hj⟩)]
      exact e
  · have ne : ∀ {j k : Nat} {xs ys : Zv}, j ≠ k → get (put Γ i (some z)) j = some xs → get (put Γ i (some z)) k = some ys → owZ xs = true → owZ ys = true → j = i → k ≠ i → (σ.set i (some v))[j]? ≠ (σ.set i (some v))[k]? := by
      intro j k xs ys hjk h1 h2 o1 o2 ej nk
      subst ej
      rw [get_put] at h1 h2
      split at h1
      · rename_i hc
        cases h1
        rw [if_neg (fun q => nk q.1.symm)] at h2
        rw [List.getElem?_set_self (Nat.lt_of_lt_of_le hc.2 a.ln), List.getElem?_set_ne (Ne.symm nk)]
        exact Ne.symm (h o1 k ys nk h2 o2)
      · rename_i hc
        exfalso
        have hl : ¬ j < Γ.length := fun q => hc ⟨rfl, q⟩
        exact hl (get_lt h1)
    by_cases ej : j = i
    · exact ne hjk h1 h2 o1 o2 ej fun ek => hjk (ej.trans ek.symm)
    · by_cases ek : k = i
      · exact Ne.symm (ne (Ne.symm hjk) h2 h1 o2 o1 ek ej)
      · rw [get_put, if_neg (fun q => ej q.1.symm)] at h1
        rw [get_put, if_neg (fun q => ek q.1.symm)] at h2
        rw [List.getElem?_set_ne (Ne.symm ej), List.getElem?_set_ne (Ne.symm ek)]
        exact a.dj j k xs ys hjk h1 h2 o1 o2
end
/-- no owned lists -/
def NoOwn (Γ : Ga) : Prop := ∀ i z, get Γ i = some z → owZ z = true → False
theorem noOwn_put {Γ : Ga} (h : NoOwn Γ) (i : Nat) (x : PyData) : NoOwn (put Γ i (some (.d x))) := fun j xs e o => by
  rw [get_put] at e
  split at e
  · cases e; cases o
  · exact h j xs e o
theorem clnG_len : ∀ Γ : Ga, (clnG Γ).length = Γ.length
  | [] => rfl
  | some (.own _) :: r => by simp [clnG, clnG_len r]
  | some (.od _) :: r => by simp [clnG, clnG_len r]
  | some (.d _) :: r => by simp [clnG, clnG_len r]
  | some .pot :: r => by simp [clnG, clnG_len r]
  | some (.scr _) :: r => by simp [clnG, clnG_len r]
  | none :: r => by simp [clnG, clnG_len r]
theorem clnG_get : ∀ (Γ : Ga) (j : Nat) (z : Zv), get (clnG Γ) j = some z → get Γ j = some z ∧ (owZ z = true → False)
  | [], j, z, h => by simp [clnG, get] at h
  | y :: r, j + 1, z, h => by
    have h : get (clnG r) j = some z := by
      cases y with
      | none => exact h
      | some y => cases y <;> exact h
    exact clnG_get r j z h
  | y :: r, 0, z, h => by
    cases y with
    | none => exact absurd h (by simp [clnG, get])
    | some y => cases y <;> simp [clnG, get] at h <;> subst h <;> exact ⟨rfl, fun e => by cases e⟩
theorem noOwn_cln (Γ : Ga) : NoOwn (clnG Γ) := fun j xs e o => (clnG_get Γ j _ e).2 o
section
variable {K : PySem.W.Frag} {B : Bs} {P P1 : Addr → Prop} {G H G1 H1 : Hp} {c c1 : Nat} {Γ : Ga} {σ : L2.St}
theorem As.cln (a : As K B P G H c Γ σ) : As K B P G H c (clnG Γ) σ :=
  ⟨a.st, a.wd, fun i z h => a.sl i z (clnG_get Γ i z h).1, by rw [clnG_len]; exact a.ln, fun i j xs ys _ h _ o _ => ((clnG_get Γ i _ h).2 o).elim⟩
theorem As.wipeG (a : As K B P G H c Γ σ) (vs : List Nat) : As K B P G H c (wipeG Γ vs) σ :=
  ⟨a.st, a.wd, fun i z h => a.sl i z (wipeG_get Γ vs i z h).2, by rw [wipeG_len]; exact a.ln, fun i j xs ys hij h1 h2 o1 o2 => a.dj i j xs ys hij (wipeG_get Γ vs i _ h1).2 (wipeG_get Γ vs j _ h2).2 o1 o2⟩
/-- .. at another state, where no list is owned -/
theorem As.move (a : As K B P G H c Γ σ) (n : NoOwn Γ) (pp : ∀ x, P x → P1 x) (gg : ∀ x o, G x = some o → G1 x = some o) (s : Stp B.P B.G B.H P1 G1 H1) (w : Wd P1 G1 H1 c1) : As K B P1 G1 H1 c1 Γ σ := by
  refine ⟨s, w, fun i z h => ?_, a.ln, fun i j xs ys _ h _ o _ => (n i xs h o).elim⟩
  obtain ⟨v, e, r⟩ := a.sl i z h
  refine ⟨v, e, ?_⟩
  match z, r, h with
  | .d x, r, _ => exact dp_mono gg _ _ r
  | .pot, ⟨b, e1, hb⟩, _ => exact ⟨b, e1, pp b hb⟩
  | .scr ns, ⟨b, e1, hb⟩, _ => exact ⟨b, e1, sql_mono gg hb⟩
  | .own xs, _, h => exact (n i _ h rfl).elim
  | .od xs, _, h => exact (n i _ h rfl).elim
end
/-! ### targets -/
mutual
def tgS : Tg → List Nat
  | .n i => [i]
  | .t ts => tgsS ts
  | .s ts i => tgsS ts ++ [i]
def tgsS : List Tg → List Nat
  | [] => []
  | t :: ts => tgS t ++ tgsS ts
end
def ImpG (K : PySem.W.Frag) (ss : List Nat) (w : PyData → Ga → (Ga → Prop) → Prop) (g : TG) : Prop :=
  ∀ (B : Bs) (σ : L2.St) (P : Addr → Prop) (G H : Hp) (Γ : Ga) (c : Nat) (v : V) (x : PyData) (Q : Ga → Prop) (R : L2.St → Hp → Prop), As K B P G H c Γ σ → Dq K G v x → w x Γ Q →
    (∀ σ' Γ' P' G' H', Stp P G H P' G' H' → As K B P' G' H' c Γ' σ' → Chg ss σ σ' → (NoOwn Γ → NoOwn Γ') → Q Γ' → R σ' H') → g v σ H R
def ImpGs (K : PySem.W.Frag) (n : Nat) (ss : List Nat) (w : List PyData → Ga → (Ga → Prop) → Prop) (g : TGs) : Prop :=
  ∀ (B : Bs) (σ : L2.St) (P : Addr → Prop) (G H : Hp) (Γ : Ga) (c : Nat) (vs : List V) (xs : List PyData) (Q : Ga → Prop) (R : L2.St → Hp → Prop), As K B P G H c Γ σ → DqAll K G vs xs → xs.length = n → w xs Γ Q →
    (∀ σ' Γ' P' G' H', Stp P G H P' G' H' → As K B P' G' H' c Γ' σ' → Chg ss σ σ' → (NoOwn Γ → NoOwn Γ') → Q Γ' → R σ' H') → g vs σ H R
section
variable {K : PySem.W.Frag}
theorem impg_n (i : Nat) : ImpG K (tgS (.n i)) (wTg (.n i)) (gName i) := fun B σ P G H Γ c v x Q R a r w k => by
  have w : Q (put Γ i (some (.d x))) := by simpa [wTg] using w
  refine k (σ.set i (some v)) _ P G H .refl (a.set (z := .d x) r fun e => by cases e) ⟨List.length_set, fun j h => ?_⟩ (fun n => noOwn_put n i x) w
  exact List.getElem?_set_ne (fun q => h (by simp [q, tgS]))
theorem impgs_nil : ImpGs K 0 (tgsS []) (wTgs []) gNil := fun B σ P G H Γ c vs xs Q R a r hl w k => by
  have w : Q Γ := by simpa [wTgs] using w
  cases xs with
  | cons _ _ => simp at hl
  | nil =>
    cases r
    exact ⟨rfl, k σ Γ P G H .refl a (.refl _ _) (fun n => n) w⟩
theorem impgs_cons {t : Tg} {ts : List Tg} {n : Nat} {g : TG} {gs : TGs} (h1 : ImpG K (tgS t) (wTg t) g) (h2 : ImpGs K n (tgsS ts) (wTgs ts) gs) : ImpGs K (n + 1) (tgsS (t :: ts)) (wTgs (t :: ts)) (gCons g gs) := fun B σ P G H Γ c vs xs Q R a r hl w k => by
  cases xs with
  | nil => simp at hl
  | cons x xs =>
    cases r with
    | cons r1 r2 =>
      have w : wTg t x Γ fun Γ' => wTgs ts xs Γ' Q := by simpa [wTgs] using w
      refine ⟨_, _, rfl, h1 B σ P G H Γ c _ x _ _ a r1 w fun σ1 Γ1 P1 G1 H1 s1 a1 c1 n1 q1 => ?_⟩
      refine h2 B σ1 P1 G1 H1 Γ1 c _ xs Q R a1 (dpa_mono s1.gg _ _ r2) (by simpa using hl) q1 fun σ2 Γ2 P2 G2 H2 s2 a2 c2 n2 q2 => ?_
      exact k σ2 Γ2 P2 G2 H2 (s1.trans s2) a2 (by unfold tgsS; exact c1.trans c2) (fun n => n2 (n1 n)) q2
theorem impg_t {ts : List Tg} {gs : TGs} (h : ImpGs K ts.length (tgsS ts) (wTgs ts) gs) : ImpG K (tgS (.t ts)) (wTg (.t ts)) (gTup K ts.length gs) := fun B σ P G H Γ c v x Q R a r w k => by
  unfold wTg at w
  split at w
  · rename_i xs
    cases r with
    | tup hs ha =>
      obtain ⟨hl, w⟩ := w
      refine ⟨_, _, rfl, sqt_mono a.wd.gh hs.t, by rw [ha.length]; exact hl, ?_⟩
      exact h B σ P G H Γ c _ xs Q R a ha hl w k
  · exact w.elim
/-! ### comprehensions -/
theorem impt_yes : ImpT K (fun _ c Q => Q true c) tYes := fun B σ P G H Γ c Q R a w k => k true P G H c .refl a.wd w
theorem lcW_mono {f : PyData → Nat → (List PyData → Nat → Prop) → Prop} (hf : ∀ d c Q Q', (∀ r c, Q r c → Q' r c) → f d c Q → f d c Q') : ∀ (ds : List PyData) (c : Nat) (Q Q' : List PyData → Nat → Prop), (∀ r c, Q r c → Q' r c) → lcW f ds c Q → lcW f ds c Q'
  | [], c, Q, Q', h, w => h _ _ w
  | d :: ds, c, Q, Q', h, w => hf d c _ _ (fun r c1 q => lcW_mono hf ds c1 _ _ (fun rs c2 q2 => h _ _ q2) q) w
theorem drop_cons {α : Type} {l : List α} {i : Nat} {d : α} (h : l[i]? = some d) : l.drop i = d :: l.drop (i + 1) := by
  obtain ⟨hi, e⟩ := List.getElem?_eq_some_iff.mp h
  rw [List.drop_eq_getElem_cons hi, e]
theorem imp_lc {wi : WI} {ti : TI} {tg : Tg} {g : TG} {wc : WT} {tt : TT} {we : WE} {te : TE} {ow : List Nat} (hi : ImpI K wi ti) (hg : ImpG K (tgS tg) (wTg tg) g) (hs : ∀ i ∈ tgS tg, i ∈ ow) (ht : ImpT K wc tt) (he : Imp K we te) :
    Imp K (fun Γ c Q => wi Γ c fun ds c1 => lcW (fun d c Q => wTg tg d (wipeG Γ ow) fun Γ1 => wc Γ1 c fun b c2 => match b with
      | true => we Γ1 c2 fun z c3 => dz z fun x => Q [x] c3
      | false => Q [] c2) ds c1 fun rs c2 => Q (.d (.list rs)) c2) (tLc ti g tt te ow) := fun B σ P G H Γ c Q R a w k => by
  refine hi B σ P G H Γ c _ _ a w fun J P1 G1 H1 c1 ds s1 w1 wk q1 => ?_
  intro D hD
  have a1 := a.step s1 w1
  have hz := wk.sz
  refine ⟨fun i m H => m = ds.length - i ∧ i ≤ ds.length ∧ ∃ P G c acc accD, Stp P1 G1 H1 P G H ∧ Wd P G H c ∧ Ob P G H D (.lst acc) ∧ DqAll K G acc accD ∧ acc.length ≤ i ∧
    lcW (fun d c Q => wTg tg d (wipeG Γ ow) fun Γ1 => wc Γ1 c fun b c2 => match b with
      | true => we Γ1 c2 fun z c3 => dz z fun x => Q [x] c3
      | false => Q [] c2) (ds.drop i) c fun rs c2 => Q (.d (.list (accD ++ rs))) c2, ⟨ds.length, by simp, Nat.zero_le _, P1, G1, c1, [], [], Stp.newH w1 hD, w1.newH hD (Nat.zero_le _), Ob.new w1 hD, .nil, Nat.le_refl _, q1⟩, ?_⟩
  rintro i m H2 ⟨rfl, hle, P2, G2, c2, acc, accD, s2, w2, ob, da, hl, q2⟩
  by_cases hlt : i < ds.length
  · refine .inr ⟨wk.go i P2 G2 H2 c2 s2.gg w2 hlt, fun H' => ∃ P G c acc accD, Stp P1 G1 H1 P G H' ∧ Wd P G H' c ∧ Ob P G H' D (.lst acc) ∧ DqAll K G acc accD ∧ acc.length ≤ i + 1 ∧
      lcW (fun d c Q => wTg tg d (wipeG Γ ow) fun Γ1 => wc Γ1 c fun b c2 => match b with
        | true => we Γ1 c2 fun z c3 => dz z fun x => Q [x] c3
        | false => Q [] c2) (ds.drop (i + 1)) c fun rs c2 => Q (.d (.list (accD ++ rs))) c2, fun H' h => ⟨ds.length - (i + 1), by omega, rfl, hlt, h⟩, fun x H3 hy => ?_⟩
    obtain ⟨G3, d, s3, w3, ed, hd⟩ := wk.yld i P2 G2 H2 c2 x H3 s2.gg w2 hlt hy
    rw [drop_cons ed] at q2
    have s13 := s2.trans s3
    have ob3 := ob.step s3
    have da3 := dpa_mono s3.gg _ _ da
    refine hg B (wipe σ ow) P2 G3 H3 (wipeG Γ ow) c2 x d _ _ ((a1.step s13 w3).wipe ow) hd q2 fun σ4 Γ4 P4 G4 H4 s4 a4 ch _ q4 => ⟨ch.wipe hs, ?_⟩
    refine ht B σ4 P4 G4 H4 Γ4 c2 _ _ a4 q4 fun b P5 G5 H5 c5 s5 w5 q5 => ?_
    have s15 := (s13.trans s4).trans s5
    have ob5 := (ob3.step s4).step s5
    have da5 := dpa_mono s5.gg _ _ (dpa_mono s4.gg _ _ da3)
    cases b with
    | false =>
      refine iteF ⟨P5, G5, c5, acc, accD, s15, w5, ob5, da5, by omega, ?_⟩
      exact q5
    | true =>
      refine iteT (he B σ4 P5 G5 H5 Γ4 c5 _ _ (a4.step s5 w5) q5 fun y P6 G6 H6 c6 z s6 w6 r6 q6 => ?_)
      obtain ⟨x6, rfl, q6⟩ := dz_of q6
      have ob6 := ob5.step s6
      have hsz : acc.length < sizeLine := by omega
      refine ⟨acc, ob6.h, hsz, P6, G6, c6, acc ++ [y], accD ++ [x6], (s15.trans s6).chg hD ob6, w6.chg ob6 (by show (acc ++ [y]).length ≤ _; rw [List.length_append]; exact hsz), ob6.chg, (dpa_mono s6.gg _ _ da5).append (.cons r6 .nil), by rw [List.length_append]; simp; omega, ?_⟩
      have e : (fun rs c2 => Q (.d (.list (accD ++ ([x6] ++ rs)))) c2) = (fun rs c2 => Q (.d (.list (accD ++ [x6] ++ rs))) c2) := by funext rs c2; rw [List.append_assoc]
      rw [← e]
      exact q6
  · have e : i = ds.length := by omega
    subst e
    refine .inl ⟨wk.stop P2 G2 H2 c2 s2.gg w2, ?_⟩
    rw [List.drop_length] at q2
    have q2 : Q (.d (.list (accD ++ []))) c2 := q2
    rw [List.append_nil] at q2
    have s3 := s2.still hD ob
    exact k (.ref D) P2 (upd G2 D (.lst acc)) H2 c2 (.d (.list accD)) (s1.trans s3) (w2.still ob) (show Dq K _ _ _ from .lst upd_same (dpa_mono (fun b u h => by
      have n : b ≠ D := fun z => by rw [z, ob.g] at h; cases h
      rw [upd_ne n]; exact h) _ _ da)) q2
end
end Z
/-! Z10 -/
set_option maxRecDepth 100000
/-! calls of the text's own defs; two clauses -/
namespace Z
open PySem PySem.Spec PyProof.Rows L2
/-! ### a def that keeps its promise where no repr runs -/
structure FnZ (P : Program) (w : World) (K : PySem.W.Frag) (mg : Str → Option Value) (base : Heap) (k : Nat) (f : Addr) (fd : FuncData) (ps : List Str) (sp : Sp) : Prop where
  ln : ∀ vs H Q E, sp vs H Q E → vs.length = ps.length
  go : ∀ (A : Around) (outer : List Env) (s : Shared) (H : Hp) (as : Args) (us : List Value) (vs : List V) (Q : VK) (E : XK), Room k A → Gd0 A → Env0 P w K mg base A outer s H → BindsTo s fd as (ps.zip us) → Vals vs us → sp vs H Q E →
    codeAny (model P w) A (.call (.ref f) as) (CR CX0 outer P w H s Q E) s
theorem FnZ.up {P : Program} {w : World} {K : PySem.W.Frag} {mg : Str → Option Value} {base : Heap} {j k : Nat} {f : Addr} {fd : FuncData} {ps : List Str} {sp : Sp} (F : FnZ P w K mg base j f fd ps sp) (h : j ≤ k) : FnZ P w K mg base k f fd ps sp :=
  ⟨F.ln, fun A outer s H as us vs Q E hr => F.go A outer s H as us vs Q E (hr.mono h)⟩
theorem FnZ.imp {P : Program} {w : World} {K : PySem.W.Frag} {mg : Str → Option Value} {base : Heap} {k : Nat} {f : Addr} {fd : FuncData} {ps : List Str} {sp sp' : Sp} (F : FnZ P w K mg base k f fd ps sp) (h : ∀ vs H Q E, sp' vs H Q E → sp vs H Q E) : FnZ P w K mg base k f fd ps sp' :=
  ⟨fun vs H Q E q => F.ln vs H Q E (h _ _ _ _ q), fun A outer s H as us vs Q E hr hg he hb hv hs => F.go A outer s H as us vs Q E hr hg he hb hv (h _ _ _ _ hs)⟩
section
variable {X : Cx} {k : Nat} {f : Addr} {fd : FuncData} {ps : List Str} {sp : Sp} {dvs : List V} {dls : List Value} {x : Str} {p pos : Pos} {e : Expr} {es : List Expr} {t : TA}
theorem go_fn {pins : List (Addr × Obj)} {σ : L2.St} {H : Hp} {s : Shared} {Q : VK} {us : List Value} {vs : List V} (F : FnZ X.prog X.w X.K X.mg X.base k f fd ps sp) (hr : Room k X.A) (hg : Gd0 X.A) (hb : Binds X.K fd ps dls) (hd : Vals dvs dls)
    (I : Inv X pins σ H s) (r : Vals vs us) (h : sp (vs ++ dvs) H Q E0) : wpAny (model X.prog X.w) X.A (call (.ref f) us) (EP X pins σ Q) X.xe s := by
  have rr := r.append hd
  have hl : (us ++ dls).length = ps.length := rr.length.symm.trans (F.ln _ _ _ _ h)
  have run := F.go X.A X.stack s H ⟨us, []⟩ (us ++ dls) (vs ++ dvs) Q E0 hr hg I.env0 (hb s us I.kIn hl) rr h
  refine wpAny_call (codeAny_mono run fun q s' hq => ?_)
  match q, hq with
  | .ok (.ret u), hq => exact I.after hq
  | .error e, hq => exact hq.elim
  | .ok .next, hq => exact hq.elim
  | .ok .brk, hq => exact hq.elim
  | .ok .cont, hq => exact hq.elim
theorem pe_callZ (F : FnZ X.prog X.w X.K X.mg X.base k f fd ps sp) (hr : Room k X.A) (hgd : Gd0 X.A) (hg : Gl X x) (hm : X.mg x = some (.ref f)) (hk : PySem.W.keepIn X.K (.ref f) = true) (hb : Binds X.K fd ps dls) (hd : Vals dvs dls)
    (ha : PA X (e :: es) t) (hdb : (x == ("__debug__" : Str)) = false) (he : starEach (e :: es) X.env = (false, eval e X.env) :: starEach es X.env) (hpl : (backTo pos (starEach es X.env)).any (·.1) = false) :
    PE X (.Call (.Name x p) (e :: es) [] pos) (tCall sp dvs E0 t) := ⟨fun pins s σ H Q I h =>
  wpAny_Call_Name_kw (ld_glob I hg hm (PySem.W.callWith_K (h₀ := X.base) I.ok.mod.kin hk (thn (ha.run pos pins s σ H _ I h) fun us s1 ⟨vs, H1, I1, r, q⟩ => ⟨I1.kIn, go_fn F hr hgd hb hd I1 r q⟩) he hpl) hdb)⟩
theorem pe_callZ0 (F : FnZ X.prog X.w X.K X.mg X.base k f fd ps sp) (hr : Room k X.A) (hgd : Gd0 X.A) (hg : Gl X x) (hm : X.mg x = some (.ref f)) (hk : PySem.W.keepIn X.K (.ref f) = true) (hb : Binds X.K fd ps dls) (hd : Vals dvs dls)
    (hdb : (x == ("__debug__" : Str)) = false) : PE X (.Call (.Name x p) [] [] pos) (tCall sp dvs E0 tNil) := ⟨fun pins s σ H Q I h =>
  wpAny_Call_Name_kw (ld_glob I hg hm (PySem.W.callWith_K0 I.kIn hk (go_fn (us := []) F hr hgd hb hd I .nil h)) hdb)⟩
end
/-! ### promises upon data -/
/-- values that are not owned -/
def ZV (K : PySem.W.Frag) (P : Addr → Prop) (G : Hp) : Zv → V → Prop
  | .d x, v => Dq K G v x
  | .pot, v => ∃ a, v = .ref a ∧ P a
  | .own _, _ => False
  | .scr ns, v => ∃ a, v = .ref a ∧ SqL K G a (ns.map V.int)
  | .od _, _ => False
inductive ZVs (K : PySem.W.Frag) (P : Addr → Prop) (G : Hp) : List Zv → List V → Prop
  | nil : ZVs K P G [] []
  | cons {z : Zv} {v : V} {zs : List Zv} {vs : List V} : ZV K P G z v → ZVs K P G zs vs → ZVs K P G (z :: zs) (v :: vs)
section
variable {K : PySem.W.Frag} {P P1 : Addr → Prop} {G H G1 H1 H0 : Hp}
theorem ZV.zr : ∀ {z : Zv} {v : V}, ZV K P G z v → ZR K P G H H0 z v
  | .d _, _, h => h
  | .pot, _, h => h
  | .scr _, _, h => h
  | .own _, _, h => h.elim
  | .od _, _, h => h.elim
theorem ZVs.length : ∀ {zs : List Zv} {vs : List V}, ZVs K P G zs vs → zs.length = vs.length
  | _, _, .nil => rfl
  | _, _, .cons _ t => by simp [ZVs.length t]
theorem ZVs.get : ∀ {zs : List Zv} {vs : List V} {i : Nat} {z : Zv}, ZVs K P G zs vs → zs[i]? = some z → ∃ v, vs[i]? = some v ∧ ZV K P G z v
  | _, _, _, _, .nil, e => by simp at e
  | _, _, 0, _, .cons h _, e => by simp at e; subst e; exact ⟨_, rfl, h⟩
  | _, _, i + 1, z, .cons _ t, e => by
    obtain ⟨v, e1, h⟩ := ZVs.get (i := i) (z := z) t (by simpa using e)
    exact ⟨v, by simpa using e1, h⟩
theorem ZV.mono (s : Stp P G H P1 G1 H1) : ∀ {z : Zv} {v : V}, ZV K P G z v → ZV K P1 G1 z v
  | .d x, _, h => dp_mono s.gg _ _ h
  | .pot, _, ⟨a, e, h⟩ => ⟨a, e, s.pp a h⟩
  | .scr _, _, ⟨a, e, h⟩ => ⟨a, e, sql_mono s.gg h⟩
  | .own _, _, h => h.elim
  | .od _, _, h => h.elim
theorem cln_of : ∀ {zs : List Zv} {vs : List V} {Q : List Zv → Prop}, ZRs K P G H H0 zs vs → cln zs Q → Q zs ∧ ZVs K P G zs vs
  | _, _, _, .nil, h => ⟨h, .nil⟩
  | .d x :: r, _, Q, .cons h1 t, h => by
    obtain ⟨q, z⟩ := cln_of (Q := fun zs => Q (.d x :: zs)) t h
    exact ⟨q, .cons h1 z⟩
  | .pot :: r, _, Q, .cons h1 t, h => by
    obtain ⟨q, z⟩ := cln_of (Q := fun zs => Q (.pot :: zs)) t h
    exact ⟨q, .cons h1 z⟩
  | .scr ns :: r, _, Q, .cons h1 t, h => by
    obtain ⟨q, z⟩ := cln_of (Q := fun zs => Q (.scr ns :: zs)) t h
    exact ⟨q, .cons h1 z⟩
  | .own _ :: _, _, _, _, h => h.elim
  | .od _ :: _, _, _, _, h => h.elim
end
/-- a def's promise, from what it does upon data -/
def spOf (K : PySem.W.Frag) (ct : Ct) : Sp := fun vs H Q _ => ∃ (P : Addr → Prop) (G : Hp) (c : Nat) (zs : List Zv) (Q0 : KZ), Wd P G H c ∧ ZVs K P G zs vs ∧ ct zs c Q0 ∧
  ∀ v P' G' H' c' z, Stp P G H P' G' H' → Wd P' G' H' c' → ZV K P' G' z v → Q0 z c' → Q v H'
theorem imp_fn {K : PySem.W.Frag} {ct : Ct} {w : WA} {t : TA} (ha : ImpA K w t) : Imp K (fun Γ c Q => w Γ c fun zs c1 => cln zs fun zs => ct zs c1 Q) (tCall (spOf K ct) [] E0 t) := fun B σ P G H Γ c Q R a w' k => by
  refine ha B σ P G H Γ c _ _ a w' fun vs P1 G1 H1 c1 zs s1 w1 r1 q1 => ?_
  obtain ⟨q, hz⟩ := cln_of r1 q1
  rw [List.append_nil]
  exact ⟨P1, G1, c1, zs, Q, w1, hz, q, fun v P' G' H' c' z s w2 h q2 => k v P' G' H' c' z (s1.trans s) w2 h.zr q2⟩
/-! ### two clauses -/
section
variable {K : PySem.W.Frag}
theorem imp_lc2 {wi wi2 : WI} {ti ti2 : TI} {tg tg2 : Tg} {g g2 : TG} {wc wc2 : WT} {tt tt2 : TT} {we : WE} {te : TE} {ow ow2 : List Nat} (hi : ImpI K wi ti) (hg : ImpG K (tgS tg) (wTg tg) g) (hs : ∀ i ∈ tgS tg, i ∈ ow) (ht : ImpT K wc tt)
    (hi2 : ImpI K wi2 ti2) (hg2 : ImpG K (tgS tg2) (wTg tg2) g2) (hs2 : ∀ i ∈ tgS tg2, i ∈ ow2) (ht2 : ImpT K wc2 tt2) (he : Imp K we te) :
    Imp K (fun Γ c Q => wi Γ c fun ds c1 => lcA (fun d acc c Q => wTg tg d (clnG (wipeG Γ ow)) fun Γ1 => wc Γ1 c fun b c2 => match b with
      | true => wi2 Γ1 c2 fun es c3 => lcA (fun e acc c Q => wTg tg2 e (wipeG Γ1 ow2) fun Γ2 => wc2 Γ2 c fun b c2 => match b with
        | true => we Γ2 c2 fun z c3 => dz z fun x => acc.length < sizeLine ∧ Q (acc ++ [x]) c3
        | false => Q acc c2) es acc c3 Q
      | false => Q acc c2) ds [] c1 fun rs c2 => Q (.d (.list rs)) c2) (tLc2 ti g tt ti2 g2 tt2 te ow ow2) := fun B σ P G H Γ c Q R a w k => by
  refine hi B σ P G H Γ c _ _ a w fun J P1 G1 H1 c1 ds s1 w1 wk q1 => ?_
  intro D hD
  have a1 := (a.step s1 w1)
  generalize hF1 : (fun (Γ1 : Ga) (e : PyData) (acc : List PyData) (c : Nat) (Q : List PyData → Nat → Prop) => wTg tg2 e (wipeG Γ1 ow2) fun Γ2 => wc2 Γ2 c fun b c2 => match b with
        | true => we Γ2 c2 fun z c3 => dz z fun x => acc.length < sizeLine ∧ Q (acc ++ [x]) c3
        | false => Q acc c2) = F1
  have eF1 : ∀ Γ1 e acc c Q, F1 Γ1 e acc c Q = (wTg tg2 e (wipeG Γ1 ow2) fun Γ2 => wc2 Γ2 c fun b c2 => match b with
        | true => we Γ2 c2 fun z c3 => dz z fun x => acc.length < sizeLine ∧ Q (acc ++ [x]) c3
        | false => Q acc c2) := fun Γ1 e acc c Q => by rw [← hF1]
  have q1 : lcA (fun d acc c Q => wTg tg d (clnG (wipeG Γ ow)) fun Γ1 => wc Γ1 c fun b c2 => match b with
      | true => wi2 Γ1 c2 fun es c3 => lcA (F1 Γ1) es acc c3 Q
      | false => Q acc c2) ds [] c1 fun rs c2 => Q (.d (.list rs)) c2 := by rw [← hF1]; exact q1
  generalize hF : (fun (d : PyData) (acc : List PyData) (c : Nat) (Q : List PyData → Nat → Prop) => wTg tg d (clnG (wipeG Γ ow)) fun Γ1 => wc Γ1 c fun b c2 => match b with
      | true => wi2 Γ1 c2 fun es c3 => lcA (F1 Γ1) es acc c3 Q
      | false => Q acc c2) = F at q1
  have eF : ∀ d acc c Q, F d acc c Q = (wTg tg d (clnG (wipeG Γ ow)) fun Γ1 => wc Γ1 c fun b c2 => match b with
      | true => wi2 Γ1 c2 fun es c3 => lcA (F1 Γ1) es acc c3 Q
      | false => Q acc c2) := fun d acc c Q => by rw [← hF]
  let St : List PyData → Hp → (List PyData → Nat → Prop) → Prop := fun _ _ _ => True
  refine ⟨fun i m H => m = ds.length - i ∧ i ≤ ds.length ∧ ∃ P G c acc accD, Stp P1 G1 H1 P G H ∧ Wd P G H c ∧ Ob P G H D (.lst acc) ∧ DqAll K G acc accD ∧ lcA F (ds.drop i) accD c fun rs c2 => Q (.d (.list rs)) c2,
    ⟨ds.length, by simp, Nat.zero_le _, P1, G1, c1, [], [], Stp.newH w1 hD, w1.newH hD (Nat.zero_le _), Ob.new w1 hD, .nil, q1⟩, ?_⟩
  rintro i m H2 ⟨rfl, hle, P2, G2, c2, acc, accD, s2, w2, ob, da, q2⟩
  by_cases hlt : i < ds.length
  · refine .inr ⟨wk.go i P2 G2 H2 c2 s2.gg w2 hlt, fun H' => ∃ P G c acc accD, Stp P1 G1 H1 P G H' ∧ Wd P G H' c ∧ Ob P G H' D (.lst acc) ∧ DqAll K G acc accD ∧ lcA F (ds.drop (i + 1)) accD c fun rs c2 => Q (.d (.list rs)) c2,
      fun H' h => ⟨ds.length - (i + 1), by omega, rfl, hlt, h⟩, fun x H3 hy => ?_⟩
    obtain ⟨G3, d, s3, w3, ed, hd⟩ := wk.yld i P2 G2 H2 c2 x H3 s2.gg w2 hlt hy
    rw [drop_cons ed] at q2
    have q2 : F d accD c2 fun acc1 c1 => lcA F (ds.drop (i + 1)) acc1 c1 fun rs c2 => Q (.d (.list rs)) c2 := q2
    rw [eF] at q2
    have s13 := s2.trans s3
    refine hg B (wipe σ ow) P2 G3 H3 (clnG (wipeG Γ ow)) c2 x d _ _ ((a1.step s13 w3).wipe ow).cln hd q2 fun σ4 Γ4 P4 G4 H4 s4 a4 ch nn q4 => ⟨ch.wipe hs, ?_⟩
    have no4 := nn (noOwn_cln _)
    refine ht B σ4 P4 G4 H4 Γ4 c2 _ _ a4 q4 fun b P5 G5 H5 c5 s5 w5 q5 => ?_
    have s15 := (s13.trans s4).trans s5
    have ob5 := ((ob.step s3).step s4).step s5
    have da5 := dpa_mono s5.gg _ _ (dpa_mono s4.gg _ _ (dpa_mono s3.gg _ _ da))
    have a5 := a4.step s5 w5
    cases b with
    | false => exact iteF ⟨P5, G5, c5, acc, accD, s15, w5, ob5, da5, q5⟩
    | true =>
      refine iteT (hi2 B σ4 P5 G5 H5 Γ4 c5 _ _ a5 q5 fun J1 P6 G6 H6 c6 es s6 w6 wk6 q6 => ?_)
      have a6 := a5.step s6 w6
      have s16 := s15.trans s6
      refine ⟨fun j l H => l = es.length - j ∧ j ≤ es.length ∧ ∃ P G c acc accD, Stp P1 G1 H1 P G H ∧ (∀ a o, G6 a = some o → G a = some o) ∧ (∀ a, P6 a → P a) ∧ Wd P G H c ∧ Ob P G H D (.lst acc) ∧ DqAll K G acc accD ∧
        lcA (F1 Γ4) (es.drop j) accD c fun acc1 c1 => lcA F (ds.drop (i + 1)) acc1 c1 fun rs c2 => Q (.d (.list rs)) c2,
        ⟨es.length, by simp, Nat.zero_le _, P6, G6, c6, acc, accD, s16, fun _ _ h => h, fun _ h => h, w6, ob5.step s6, dpa_mono s6.gg _ _ da5, q6⟩, ?_⟩
      rintro j l H7 ⟨rfl, hjl, P7, G7, c7, acc7, accD7, s17, g7, p7, w7, ob7, da7, q7⟩
      by_cases hj : j < es.length
      · refine .inr ⟨wk6.go j P7 G7 H7 c7 g7 w7 hj, fun H' => ∃ P G c acc accD, Stp P1 G1 H1 P G H' ∧ (∀ a o, G6 a = some o → G a = some o) ∧ (∀ a, P6 a → P a) ∧ Wd P G H' c ∧ Ob P G H' D (.lst acc) ∧ DqAll K G acc accD ∧
          lcA (F1 Γ4) (es.drop (j + 1)) accD c fun acc1 c1 => lcA F (ds.drop (i + 1)) acc1 c1 fun rs c2 => Q (.d (.list rs)) c2, fun H' h => ⟨es.length - (j + 1), by omega, rfl, hj, h⟩, fun y H8 hy => ?_⟩
        obtain ⟨G8, e, s8, w8, ee, he8⟩ := wk6.yld j P7 G7 H7 c7 y H8 g7 w7 hj hy
        rw [drop_cons ee] at q7
        have q7 : F1 Γ4 e accD7 c7 fun acc1 c1 => lcA (F1 Γ4) (es.drop (j + 1)) acc1 c1 fun acc1 c1 => lcA F (ds.drop (i + 1)) acc1 c1 fun rs c2 => Q (.d (.list rs)) c2 := q7
        rw [eF1] at q7
        have s18 := s17.trans s8
        have a8 : As K B P7 G8 H8 c7 Γ4 σ4 := a6.move no4 p7 (fun x o h => s8.gg x o (g7 x o h)) (a1.st.trans s18) w8
        refine hg2 B (wipe σ4 ow2) P7 G8 H8 (wipeG Γ4 ow2) c7 y e _ _ (a8.wipe ow2) he8 q7 fun σ9 Γ9 P9 G9 H9 s9 a9 ch9 nn9 q9 => ⟨ch9.wipe hs2, ?_⟩
        refine ht2 B σ9 P9 G9 H9 Γ9 c7 _ _ a9 q9 fun b P10 G10 H10 c10 s10 w10 q10 => ?_
        have s110 := (s18.trans s9).trans s10
        have ob10 := ((ob7.step s8).step s9).step s10
        have da10 := dpa_mono s10.gg _ _ (dpa_mono s9.gg _ _ (dpa_mono s8.gg _ _ da7))
        have gg10 : ∀ a o, G6 a = some o → G10 a = some o := fun x o h => s10.gg _ _ (s9.gg _ _ (s8.gg _ _ (g7 _ _ h)))
        have pp10 : ∀ a, P6 a → P10 a := fun x h => s10.pp _ (s9.pp _ (s8.pp _ (p7 _ h)))
        cases b with
        | false => exact iteF ⟨P10, G10, c10, acc7, accD7, s110, gg10, pp10, w10, ob10, da10, q10⟩
        | true =>
          refine iteT (he B σ9 P10 G10 H10 Γ9 c10 _ _ (a9.step s10 w10) q10 fun v P11 G11 H11 c11 z s11 w11 r11 q11 => ?_)
          obtain ⟨x11, rfl, hl, q11⟩ := dz_of q11
          have ob11 := ob10.step s11
          have da11 := dpa_mono s11.gg _ _ da10
          have hl' : acc7.length < sizeLine := by rw [da11.length]; exact hl
          exact ⟨acc7, ob11.h, hl', P11, G11, c11, acc7 ++ [v], accD7 ++ [x11], (s110.trans s11).chg hD ob11, fun x o h => s11.gg _ _ (gg10 _ _ h), fun x h => s11.pp _ (pp10 _ h),
            w11.chg ob11 (by show (acc7 ++ [v]).length ≤ _; rw [List.length_append]; exact hl'), ob11.chg, da11.append (.cons r11 .nil), q11⟩
      · have e : j = es.length := by omega
        subst e
        rw [List.drop_length] at q7
        exact .inl ⟨wk6.stop P7 G7 H7 c7 g7 w7, P7, G7, c7, acc7, accD7, s17, w7, ob7, da7, q7⟩
  · have e : i = ds.length := by omega
    subst e
    refine .inl ⟨wk.stop P2 G2 H2 c2 s2.gg w2, ?_⟩
    rw [List.drop_length] at q2
    have s3 := s2.still hD ob
    exact k (.ref D) P2 (upd G2 D (.lst acc)) H2 c2 (.d (.list accD)) (s1.trans s3) (w2.still ob) (show Dq K _ _ _ from .lst upd_same (dpa_mono (fun b u h => by
      have n : b ≠ D := fun z => by rw [z, ob.g] at h; cases h
      rw [upd_ne n]; exact h) _ _ da)) q2
end
end Z
/-! Z11 -/
set_option maxRecDepth 100000
/-! statements -/
namespace Z
open PySem PySem.Spec PyProof.Rows L2
abbrev WS := Ga → Nat → Rt → Prop
/-- what is wanted behind, by data and by the heap -/
structure En (K : PySem.W.Frag) (B : Bs) (P0 : Addr → Prop) (G0 : Hp) (R : Rt) (D : Ends) : Prop where
  nx : ∀ σ P G H c Γ, (∀ a o, G0 a = some o → G a = some o) → (∀ a, P0 a → P a) → As K B P G H c Γ σ → R.nx Γ c → D.nx σ H
  rt : ∀ v P G H c z, Stp B.P B.G B.H P G H → Wd P G H c → ZV K P G z v → R.rt z c → D.rt v H
  bk : ∀ σ P G H c Γ, (∀ a o, G0 a = some o → G a = some o) → (∀ a, P0 a → P a) → As K B P G H c Γ σ → R.bk Γ c → D.bk σ H
  ct : ∀ σ P G H c Γ, (∀ a o, G0 a = some o → G a = some o) → (∀ a, P0 a → P a) → As K B P G H c Γ σ → R.ct Γ c → D.ct σ H
def ImpS (K : PySem.W.Frag) (w : WS) (t : TS) : Prop :=
  ∀ (B : Bs) (σ : L2.St) (P : Addr → Prop) (G H : Hp) (Γ : Ga) (c : Nat) (R : Rt) (D : Ends), As K B P G H c Γ σ → w Γ c R → En K B P G R D → t D σ H
section
variable {K : PySem.W.Frag} {B : Bs} {P P1 : Addr → Prop} {G H G1 H1 : Hp} {c c1 : Nat} {Γ : Ga} {σ : L2.St} {R : Rt} {D : Ends}
theorem En.later (e : En K B P G R D) (gg : ∀ a o, G a = some o → G1 a = some o) (pp : ∀ a, P a → P1 a) : En K B P1 G1 R D :=
  ⟨fun σ P' G' H' c Γ g p => e.nx σ P' G' H' c Γ (fun a o h => g a o (gg a o h)) (fun a h => p a (pp a h)), e.rt,
   fun σ P' G' H' c Γ g p => e.bk σ P' G' H' c Γ (fun a o h => g a o (gg a o h)) (fun a h => p a (pp a h)),
   fun σ P' G' H' c Γ g p => e.ct σ P' G' H' c Γ (fun a o h => g a o (gg a o h)) (fun a h => p a (pp a h))⟩
theorem cln1 {z : Zv} {Q : List Zv → Prop} {H0 : Hp} {v : V} (r : ZR K P G H H0 z v) (h : cln [z] Q) : Q [z] ∧ ZV K P G z v := by
  cases z with
  | d x => exact ⟨h, r⟩
  | pot => exact ⟨h, r⟩
  | scr x => exact ⟨h, r⟩
  | own x => exact h.elim
  | od x => exact h.elim
theorem ZV.notOwn {z : Zv} {v : V} (h : ZV K P G z v) (e : owZ z = true) : False := by
  cases z with
  | own x => exact h
  | od x => exact h
  | _ => cases e
/-- name = e -/
theorem impS_asgN {we : WE} {te : TE} (i : Nat) (he : Imp K we te) : ImpS K (fun Γ c R => we Γ c fun z c1 => cln [z] fun _ => R.nx (putZ Γ i z) c1) (tAsg te (gName i)) := fun B σ P G H Γ c R D a w k => by
  refine he B σ P G H Γ c _ _ a w fun v P1 G1 H1 c1 z s1 w1 r1 q1 => ?_
  obtain ⟨q, hv⟩ := cln1 r1 q1
  exact k.nx _ P1 G1 H1 c1 _ s1.gg s1.pp ((a.step s1 w1).set r1 fun e => (hv.notOwn e).elim) q
theorem impS_asgT {we : WE} {te : TE} {tg : Tg} {g : TG} (he : Imp K we te) (hg : ImpG K (tgS tg) (wTg tg) g) : ImpS K (fun Γ c R => we Γ c fun z c1 => dz z fun x => wTg tg x Γ fun Γ1 => R.nx Γ1 c1) (tAsg te g) := fun B σ P G H Γ c R D a w k => by
  refine he B σ P G H Γ c _ _ a w fun v P1 G1 H1 c1 z s1 w1 r1 q1 => ?_
  obtain ⟨x, rfl, q⟩ := dz_of q1
  exact hg B σ P1 G1 H1 Γ c1 v x _ _ (a.step s1 w1) r1 q fun σ2 Γ2 P2 G2 H2 s2 a2 _ _ q2 => k.nx σ2 P2 G2 H2 c1 Γ2 (fun x o h => s2.gg _ _ (s1.gg _ _ h)) (fun x h => s2.pp _ (s1.pp _ h)) a2 q2
/-- a, b = e, f -/
theorem impS_par2 {i j : Nat} {w : WA} {t : TA} (ht : ImpA K w t) (h2 : ∀ Γ c Q, w Γ c Q → w Γ c fun zs c1 => zs.length = 2 ∧ Q zs c1) : ImpS K (fun Γ c R => w Γ c fun zs c1 => cln zs fun zs => R.nx (putZs Γ [i, j] zs) c1) (tPar i j t) := fun B σ P G H Γ c R D a w' k => by
  refine ht B σ P G H Γ c _ _ a (h2 _ _ _ w') fun vs P1 G1 H1 c1 zs s1 w1 r1 q1 => ?_
  obtain ⟨hl, q1⟩ := q1
  obtain ⟨q, hz⟩ := cln_of r1 q1
  match zs, hl, hz, q with
  | [z1, z2], _, .cons h1 (.cons h2 .nil), q =>
    have a1 := a.step s1 w1
    refine ⟨_, _, rfl, k.nx _ P1 G1 H1 c1 _ s1.gg s1.pp ((a1.set h1.zr fun e => (h1.notOwn e).elim).set h2.zr fun e => (h2.notOwn e).elim) q⟩
/-- name += e -/
theorem impS_aug {we : WE} {te : TE} (i : Nat) (op : Operator) (he : Imp K we te) (f : Int → Int → Int) (g : Int → Int → Rt → Ga → Nat → Prop) (hg : ∀ x y R Γ c, g x y R Γ c → R.nx (putZ Γ i (.d (.int (f x y)))) c) :
    ImpS K (fun Γ c R => match get Γ i with
      | some (.d (.int a)) => we Γ c fun z c1 => dv z fun y => match y with
        | .int b => g a b R Γ c1
        | _ => False
      | _ => False) (tAug i te (ipI f)) := fun B σ P G H Γ c R D a w k => by
  have w : (match get Γ i with
      | some (.d (.int a)) => we Γ c fun z c1 => dv z fun y => match y with
        | .int b => g a b R Γ c1
        | _ => False
      | _ => False) := w
  split at w
  · rename_i x e
    obtain ⟨v, e1, r⟩ := a.sl i _ e
    cases (show Dq K G v (.int x) from r)
    refine ⟨_, e1, he B σ P G H Γ c _ _ a w fun u P1 G1 H1 c1 z s1 w1 r1 q1 => ?_⟩
    obtain ⟨y, ey, q⟩ := dv_of q1
    cases y with
    | int j =>
      refine ⟨x, j, rfl, zr_int w1 r1 ey, k.nx _ P1 G1 H1 c1 _ s1.gg s1.pp ((a.step s1 w1).set (z := .d (.int (f x j))) (Dq.int _) fun e => by cases e) (hg _ _ _ _ _ q)⟩
    | _ => exact q.elim
  · exact w.elim
/-- return e -/
theorem still_ret {z : Zv} {v : V} (s : Stp B.P B.G B.H P G H) (w : Wd P G H c) (r : ZR K P G H B.H z v) : ∃ G1, Stp B.P B.G B.H P G1 H ∧ Wd P G1 H c ∧ ZV K P G1 (stl z) v := by
  cases z with
  | d x => exact ⟨G, s, w, r⟩
  | pot => exact ⟨G, s, w, r⟩
  | scr x => exact ⟨G, s, w, r⟩
  | own xs =>
    obtain ⟨a, vs, rfl, n, o, d⟩ := r
    refine ⟨upd G a (.lst vs), s.still n o, w.still o, (show Dq K _ _ _ from .lst upd_same (dpa_mono (fun b u h => ?_) _ _ d))⟩
    have ne : b ≠ a := fun z => by rw [z, o.g] at h; cases h
    rw [upd_ne ne]; exact h
  | od xs =>
    obtain ⟨a, vs, rfl, n, o, d⟩ := r
    refine ⟨upd G a (.dK vs), s.still n o, w.still o, (show Dq K _ _ _ from .dic upd_same (dpk_mono (fun b u h => ?_) _ _ d))⟩
    have ne : b ≠ a := fun z => by rw [z, o.g] at h; cases h
    rw [upd_ne ne]; exact h
theorem impS_ret {we : WE} {te : TE} (he : Imp K we te) : ImpS K (fun Γ c R => we Γ c fun z c1 => R.rt (stl z) c1) (tRet te) := fun B σ P G H Γ c R D a w k => by
  refine he B σ P G H Γ c _ _ a w fun v P1 G1 H1 c1 z s1 w1 r1 q1 => ?_
  obtain ⟨G2, s2, w2, r2⟩ := still_ret (a.st.trans s1) w1 r1
  exact k.rt v P1 G2 H1 c1 (stl z) s2 w2 r2 q1
theorem impS_retN : ImpS K (fun Γ c R => R.rt (.d .none) c) tRetN := fun B σ P G H Γ c R D a w k => k.rt .non P G H c (.d .none) a.st a.wd (show Dq K G .non .none from .non) w
theorem impS_pass : ImpS K (fun Γ c R => R.nx Γ c) tNext := fun B σ P G H Γ c R D a w k => k.nx σ P G H c Γ (fun _ _ h => h) (fun _ h => h) a w
theorem impS_brk : ImpS K (fun Γ c R => R.bk Γ c) tBreak := fun B σ P G H Γ c R D a w k => k.bk σ P G H c Γ (fun _ _ h => h) (fun _ h => h) a w
theorem impS_cont : ImpS K (fun Γ c R => R.ct Γ c) tCont := fun B σ P G H Γ c R D a w k => k.ct σ P G H c Γ (fun _ _ h => h) (fun _ h => h) a w
theorem impS_seq {w1 w2 : WS} {t1 t2 : TS} (h1 : ImpS K w1 t1) (h2 : ImpS K w2 t2) : ImpS K (fun Γ c R => w1 Γ c { R with nx := fun Γ1 c1 => w2 Γ1 c1 R }) (tSeq t1 t2) := fun B σ P G H Γ c R D a w k =>
  h1 B σ P G H Γ c _ _ a w ⟨fun σ1 P1 G1 H1 c1 Γ1 gg pp a1 q => h2 B σ1 P1 G1 H1 Γ1 c1 R D a1 q (k.later gg pp), k.rt, k.bk, k.ct⟩
theorem impS_ite {wt : WT} {tt : TT} {w1 w2 : WS} {t1 t2 : TS} (ht : ImpT K wt tt) (h1 : ImpS K w1 t1) (h2 : ImpS K w2 t2) :
    ImpS K (fun Γ c R => wt Γ c fun x c1 => match x with | true => w1 Γ c1 R | false => w2 Γ c1 R) (tIfS tt t1 t2) := fun B σ P G H Γ c R D a w k => by
  refine ht B σ P G H Γ c _ _ a w fun b P1 G1 H1 c1 s1 w1' q1 => ?_
  cases b with
  | true => exact iteT (h1 B σ P1 G1 H1 Γ c1 R D (a.step s1 w1') q1 (k.later s1.gg s1.pp))
  | false => exact iteF (h2 B σ P1 G1 H1 Γ c1 R D (a.step s1 w1') q1 (k.later s1.gg s1.pp))
/-- for -/
theorem impS_for {wi : WI} {ti : TI} {tg : Tg} {g : TG} {wb : WS} {tb : TS} (hi : ImpI K wi ti) (hg : ImpG K (tgS tg) (wTg tg) g) (hb : ImpS K wb tb) :
    ImpS K (fun Γ c R => wi Γ c fun ds c1 => forW (fun d Γ c R => wTg tg d Γ fun Γ1 => wb Γ1 c R) ds Γ c1 R) (tFor ti g tb) := fun B σ P G H Γ c R D a w k => by
  refine hi B σ P G H Γ c _ _ a w fun J P1 G1 H1 c1 ds s1 w1 wk q1 => ?_
  refine ⟨fun i m σ H => m = ds.length - i ∧ i ≤ ds.length ∧ ∃ P' G' c' Γ', (∀ a o, G1 a = some o → G' a = some o) ∧ (∀ a, P1 a → P' a) ∧ As K B P' G' H c' Γ' σ ∧ forW (fun d Γ c R => wTg tg d Γ fun Γ1 => wb Γ1 c R) (ds.drop i) Γ' c' R,
    ⟨ds.length, by simp, Nat.zero_le _, P1, G1, c1, Γ, fun _ _ h => h, fun _ h => h, a.step s1 w1, q1⟩, ?_⟩
  rintro i m σ2 H2 ⟨rfl, hle, P2, G2, c2, Γ2, g2, p2, a2, q2⟩
  by_cases hlt : i < ds.length
  · refine .inr ⟨wk.go i P2 G2 H2 c2 g2 a2.wd hlt, fun σ' H' => ∃ P' G' c' Γ', (∀ a o, G1 a = some o → G' a = some o) ∧ (∀ a, P1 a → P' a) ∧ As K B P' G' H' c' Γ' σ' ∧ forW (fun d Γ c R => wTg tg d Γ fun Γ1 => wb Γ1 c R) (ds.drop (i + 1)) Γ' c' R,
      fun σ' H' h => ⟨ds.length - (i + 1), by omega, rfl, hlt, h⟩, fun x H3 hy => ?_⟩
    obtain ⟨G3, d, s3, w3, ed, hd⟩ := wk.yld i P2 G2 H2 c2 x H3 g2 a2.wd hlt hy
    rw [drop_cons ed] at q2
    have a3 := a2.step s3 w3
    refine hg B σ2 P2 G3 H3 Γ2 c2 x d _ _ a3 hd q2 fun σ4 Γ4 P4 G4 H4 s4 a4 _ _ q4 => ?_
    have g4 : ∀ a o, G1 a = some o → G4 a = some o := fun x o h => s4.gg _ _ (s3.gg _ _ (g2 _ _ h))
    have p4 : ∀ a, P1 a → P4 a := fun x h => s4.pp _ (s3.pp _ (p2 _ h))
    refine hb B σ4 P4 G4 H4 Γ4 c2 _ _ a4 q4 ⟨fun σ5 P5 G5 H5 c5 Γ5 g5 p5 a5 q5 => ?_, k.rt, fun σ5 P5 G5 H5 c5 Γ5 g5 p5 a5 q5 => ?_, fun σ5 P5 G5 H5 c5 Γ5 g5 p5 a5 q5 => ?_⟩
    · exact ⟨P5, G5, c5, Γ5, fun x o h => g5 _ _ (g4 _ _ h), fun x h => p5 _ (p4 _ h), a5, q5⟩
    · exact k.nx σ5 P5 G5 H5 c5 Γ5 (fun x o h => g5 _ _ (g4 _ _ (s1.gg _ _ h))) (fun x h => p5 _ (p4 _ (s1.pp _ h))) a5 q5
    · exact ⟨P5, G5, c5, Γ5, fun x o h => g5 _ _ (g4 _ _ h), fun x h => p5 _ (p4 _ h), a5, q5⟩
  · have e : i = ds.length := by omega
    subst e
    rw [List.drop_length] at q2
    exact .inl ⟨wk.stop P2 G2 H2 c2 g2 a2.wd, k.nx σ2 P2 G2 H2 c2 Γ2 (fun x o h => g2 _ _ (s1.gg _ _ h)) (fun x h => p2 _ (s1.pp _ h)) a2 q2⟩
/-- an owned object is given free -/
theorem As.frzG {i : Nat} {z : Zv} {x : PyData} {b : Addr} {u : HO} (a : As K B P G H c Γ σ) (e : get Γ i = some z) (oz : owZ z = true) (ev : σ[i]? = some (some (.ref b))) (n : B.H b = none) (o : Ob P G H b u)
    (d : ∀ G1 : Hp, (∀ x u, G x = some u → G1 x = some u) → G1 b = some u → Dq K G1 (.ref b) x) : ∃ G1, (∀ a o, G a = some o → G1 a = some o) ∧ As K B P G1 H c (putZ Γ i (.d x)) σ := by
  have gg : ∀ x w, G x = some w → upd G b u x = some w := fun x w h => by
    have ne : x ≠ b := fun z => by rw [z, o.g] at h; cases h
    rw [upd_ne ne]; exact h
  have hl := get_lt e
  refine ⟨upd G b u, gg, a.st.still n o, a.wd.still o, fun j z' hj => ?_, by unfold putZ; rw [put_len]; exact a.ln, fun j k ys zs hjk h1 h2 o1 o2 => ?_⟩
  · unfold putZ at hj
    rw [get_put] at hj
    split at hj
    · rename_i hc
      cases hj
      rw [← hc.1]
      exact ⟨_, ev, d _ gg upd_same⟩
    · rename_i hc
      have nij : i ≠ j := fun q => hc ⟨q, hl⟩
      obtain ⟨w, eu, r⟩ := a.sl j z' hj
      refine ⟨w, eu, ?_⟩
      have far : ∀ b', w = .ref b' → owZ z' = true → b' ≠ b := fun b' e1 oz' q => by
        have := a.dj i j _ _ nij e hj oz oz'
        rw [ev, eu, e1, q] at this
        exact this rfl
      match z', r, hj, far with
      | .d x, r, _, _ => exact dp_mono gg _ _ r
      | .pot, r, _, _ => exact r
      | .scr ns, ⟨b', e1, hb⟩, _, _ => exact ⟨b', e1, sql_mono gg hb⟩
      | .own ys, ⟨b', us, e1, n', o', d'⟩, hj, far =>
        have ne := far b' e1 rfl
        exact ⟨b', us, e1, n', ⟨by rw [upd_ne ne]; exact o'.g, o'.p, o'.h⟩, dpa_mono gg _ _ d'⟩
      | .od ys, ⟨b', us, e1, n', o', d'⟩, hj, far =>
        have ne := far b' e1 rfl
        exact ⟨b', us, e1, n', ⟨by rw [upd_ne ne]; exact o'.g, o'.p, o'.h⟩, dpk_mono gg _ _ d'⟩
  · unfold putZ at h1 h2
    rw [get_put] at h1 h2
    split at h1
    · cases h1; cases o1
    · split at h2
      · cases h2; cases o2
      · exact a.dj j k ys zs hjk h1 h2 o1 o2
theorem As.frz {i : Nat} {xs : List PyData} (a : As K B P G H c Γ σ) (e : get Γ i = some (.own xs)) : ∃ G1, (∀ a o, G a = some o → G1 a = some o) ∧ As K B P G1 H c (putZ Γ i (.d (.list xs))) σ := by
  obtain ⟨v, ev, b, vs, rfl, n, o, d⟩ := a.sl i _ e
  exact a.frzG e rfl ev n o fun G1 gg h => .lst h (dpa_mono gg _ _ d)
theorem As.frzD {i : Nat} {xs : List (PyData × PyData)} (a : As K B P G H c Γ σ) (e : get Γ i = some (.od xs)) : ∃ G1, (∀ a o, G a = some o → G1 a = some o) ∧ As K B P G1 H c (putZ Γ i (.d (.dict xs))) σ := by
  obtain ⟨v, ev, b, vs, rfl, n, o, d⟩ := a.sl i _ e
  exact a.frzG e rfl ev n o fun G1 gg h => .dic h (dpk_mono gg _ _ d)
theorem impS_frz {w : WS} {t : TS} (i : Nat) (h : ImpS K w t) : ImpS K (fun Γ c R => match get Γ i with | some (.own xs) => w (putZ Γ i (.d (.list xs))) c R | some (.od kvs) => w (putZ Γ i (.d (.dict kvs))) c R | _ => w Γ c R) t := fun B σ P G H Γ c R D a w' k => by
  have w' : (match get Γ i with | some (.own xs) => w (putZ Γ i (.d (.list xs))) c R | some (.od kvs) => w (putZ Γ i (.d (.dict kvs))) c R | _ => w Γ c R) := w'
  split at w'
  · rename_i xs e
    obtain ⟨G1, gg, a1⟩ := a.frz e
    exact h B σ P G1 H _ c R D a1 w' (k.later gg fun _ h => h)
  · rename_i xs e
    obtain ⟨G1, gg, a1⟩ := a.frzD e
    exact h B σ P G1 H _ c R D a1 w' (k.later gg fun _ h => h)
  · exact h B σ P G H Γ c R D a w' k
/-- an owned object changes -/
theorem As.chgG {i : Nat} {b : Addr} {u u' : HO} {z' : Zv} (a : As K B P G H c Γ σ) (hl : i < Γ.length) (ev : σ[i]? = some (some (.ref b))) (n : B.H b = none) (o : Ob P G H b u) (oz : owZ z' = true)
    (r : ∀ H', Ob P G H' b u' → ZR K P G H' B.H z' (.ref b)) (z : Szd u')
    (hd : ∀ j y, j ≠ i → get Γ j = some y → owZ y = true → σ[j]? ≠ some (some (.ref b))) : As K B P G (upd H b u') c (putZ Γ i z') σ := by
  refine ⟨a.st.chg n o, a.wd.chg o z, fun j w hj => ?_, by unfold putZ; rw [put_len]; exact a.ln, fun j k xs zs hjk h1 h2 o1 o2 => ?_⟩
  · unfold putZ at hj
    rw [get_put] at hj
    split at hj
    · rename_i hc
      cases hj
      rw [← hc.1]
      exact ⟨_, ev, r _ o.chg⟩
    · rename_i hc
      have nij : j ≠ i := fun q => hc ⟨q.symm, hl⟩
      obtain ⟨v, eu, r⟩ := a.sl j w hj
      refine ⟨v, eu, ?_⟩
      have far : ∀ b', v = .ref b' → owZ w = true → b' ≠ b := fun b' e1 oz' q => hd j w nij hj oz' (by rw [eu, e1, q])
      match w, r, hj, far with
      | .d x, r, _, _ => exact r
      | .pot, r, _, _ => exact r
      | .scr ns, r, _, _ => exact r
      | .own xs, ⟨b', vs', e1, n', o', d'⟩, hj, far => exact ⟨b', vs', e1, n', ⟨o'.g, o'.p, by rw [upd_ne (far b' e1 rfl)]; exact o'.h⟩, d'⟩
      | .od xs, ⟨b', vs', e1, n', o', d'⟩, hj, far => exact ⟨b', vs', e1, n', ⟨o'.g, o'.p, by rw [upd_ne (far b' e1 rfl)]; exact o'.h⟩, d'⟩
  · unfold putZ at h1 h2
    rw [get_put] at h1 h2
    by_cases ej : i = j
    · subst ej
      by_cases ek : i = k
      · exact absurd ek hjk
      · rw [if_neg (fun q => ek q.1)] at h2
        rw [ev]
        exact Ne.symm (hd k zs (Ne.symm ek) h2 o2)
    · rw [if_neg (fun q => ej q.1)] at h1
      by_cases ek : i = k
      · subst ek
        rw [ev]
        exact hd j xs (Ne.symm ej) h1 o1
      · rw [if_neg (fun q => ek q.1)] at h2
        exact a.dj j k xs zs hjk h1 h2 o1 o2
theorem As.own_chg {i : Nat} {b : Addr} {vs us : List V} {ys : List PyData} (a : As K B P G H c Γ σ) (hl : i < Γ.length) (ev : σ[i]? = some (some (.ref b))) (n : B.H b = none) (o : Ob P G H b (.lst vs)) (d : DqAll K G us ys) (z : us.length ≤ sizeLine)
    (hd : ∀ j y, j ≠ i → get Γ j = some y → owZ y = true → σ[j]? ≠ some (some (.ref b))) : As K B P G (upd H b (.lst us)) c (putZ Γ i (.own ys)) σ :=
  a.chgG hl ev n o rfl (fun H' o' => ⟨b, us, rfl, n, o', d⟩) z hd
theorem As.od_chg {i : Nat} {b : Addr} {vs us : List (Key × V)} {ys : List (PyData × PyData)} (a : As K B P G H c Γ σ) (hl : i < Γ.length) (ev : σ[i]? = some (some (.ref b))) (n : B.H b = none) (o : Ob P G H b (.dK vs)) (d : DqKV K G us ys)
    (hd : ∀ j y, j ≠ i → get Γ j = some y → owZ y = true → σ[j]? ≠ some (some (.ref b))) : As K B P G (upd H b (.dK us)) c (putZ Γ i (.od ys)) σ :=
  a.chgG hl ev n o rfl (fun H' o' => ⟨b, us, rfl, n, o', d⟩) trivial hd
/-- a new owned object -/
theorem As.newG {i : Nat} {p : Addr} {u : HO} {z : Zv} (a : As K B P G H c Γ σ) (hp : H p = none) (oz : owZ z = true) (r : B.H p = none → Ob P G (upd H p u) p u → ZR K P G (upd H p u) B.H z (.ref p)) (sz : Szd u) : As K B P G (upd H p u) c (putZ Γ i z) (σ.set i (some (.ref p))) := by
  have w1 := a.wd
  have s2 := Stp.newH (o := u) w1 hp
  have w2 := w1.newH (o := u) hp sz
  have a2 := a.step s2 w2
  have nB : B.H p = none := by
    cases q : B.H p with
    | none => rfl
    | some o => exact absurd hp (a.st.th p (by rw [q]; simp))
  refine a2.set (r nB (Ob.new w1 hp)) fun _ j y nj hj oy es => ?_
  obtain ⟨v, ev, r'⟩ := a.sl j y hj
  rw [ev] at es
  have e2 : v = .ref p := by injection es with e1; injection e1
  cases y with
  | own xs => obtain ⟨b, us, e3, _, o, _⟩ := r'; rw [e3] at e2; cases e2; rw [o.h] at hp; cases hp
  | od xs => obtain ⟨b, us, e3, _, o, _⟩ := r'; rw [e3] at e2; cases e2; rw [o.h] at hp; cases hp
  | _ => cases oy
/-- xs.append(e) -/
theorem impS_app {we : WE} {te : TE} (i : Nat) (he : Imp K we te) : ImpS K (fun Γ c R => match get Γ i with
    | some (.own xs) => we Γ c fun z c1 => dz z fun y => xs.length < sizeLine ∧ R.nx (putZ Γ i (.own (xs ++ [y]))) c1
    | _ => False) (tDrop (tBM K "list" rAppend (tVar i) (tCons te tNil))) := fun B σ P G H Γ c R D a w k => by
  have w : (match get Γ i with
    | some (.own xs) => we Γ c fun z c1 => dz z fun y => xs.length < sizeLine ∧ R.nx (putZ Γ i (.own (xs ++ [y]))) c1
    | _ => False) := w
  split at w
  · rename_i xs e
    obtain ⟨v, ev, b, vs, rfl, n, o, d⟩ := a.sl i _ e
    refine ⟨.ref b, ev, .inl ⟨rfl, vs, .inl (.inl o.h)⟩, ?_⟩
    refine he B σ P G H Γ c _ _ a w fun u P1 G1 H1 c1 z s1 w1 r1 q1 => ?_
    obtain ⟨y, rfl, hz, q⟩ := dz_of q1
    have o1 := o.step s1
    have a1 := a.step s1 w1
    have d1 := dpa_mono s1.gg _ _ d
    have hl : vs.length < sizeLine := by rw [d1.length]; exact hz
    refine ⟨b, vs, u, rfl, rfl, o1.h, hl, ?_⟩
    refine k.nx σ P1 G1 _ c1 _ s1.gg s1.pp (a1.own_chg (get_lt e) ev n o1 (d1.append (.cons r1 .nil)) (by rw [List.length_append]; exact hl) fun j ys nj hj oy => ?_) q
    rw [← ev]
    exact a.dj j i _ _ nj hj e oy rfl
  · exact w.elim
/-- xs.extend(e) -/
theorem impS_ext {we : WE} {te : TE} (i : Nat) (he : Imp K we te) : ImpS K (fun Γ c R => match get Γ i with
    | some (.own xs) => we Γ c fun z c1 => dz z fun y => match y with
      | .list ys => xs.length + ys.length ≤ sizeLine ∧ R.nx (putZ Γ i (.own (xs ++ ys))) c1
      | _ => False
    | _ => False) (tDrop (tBM K "list" rExtend (tVar i) (tCons te tNil))) := fun B σ P G H Γ c R D a w k => by
  have w : (match get Γ i with
    | some (.own xs) => we Γ c fun z c1 => dz z fun y => match y with
      | .list ys => xs.length + ys.length ≤ sizeLine ∧ R.nx (putZ Γ i (.own (xs ++ ys))) c1
      | _ => False
    | _ => False) := w
  split at w
  · rename_i xs e
    obtain ⟨v, ev, b, vs, rfl, n, o, d⟩ := a.sl i _ e
    refine ⟨.ref b, ev, .inl ⟨rfl, vs, .inl (.inl o.h)⟩, ?_⟩
    refine he B σ P G H Γ c _ _ a w fun u P1 G1 H1 c1 z s1 w1 r1 q1 => ?_
    obtain ⟨y, rfl, q⟩ := dz_of q1
    cases y with
    | list ys =>
      obtain ⟨hz, q⟩ := q
      cases (show Dq K G1 u (.list ys) from r1) with
      | @lst p us _ hp du =>
        have o1 := o.step s1
        have a1 := a.step s1 w1
        have d1 := dpa_mono s1.gg _ _ d
        have l1 := d1.length
        have l2 := du.length
        refine ⟨b, p, vs, us, rfl, rfl, o1.h, w1.gh _ _ hp, by omega, ?_⟩
        refine k.nx σ P1 G1 _ c1 _ s1.gg s1.pp (a1.own_chg (get_lt e) ev n o1 (d1.append du) (by rw [List.length_append]; omega) fun j zs nj hj oz => ?_) q
        rw [← ev]
        exact a.dj j i _ _ nj hj e oz rfl
    | _ => exact q.elim
  · exact w.elim
/-- xs = [..], a list of one's own -/
theorem impS_new {w : WA} {t : TA} (i : Nat) (ht : ImpA K w t) : ImpS K (fun Γ c R => w Γ c fun zs c1 => dzs zs fun ds => ds.length ≤ sizeLine ∧ R.nx (putZ Γ i (.own ds)) c1) (tAsg (tLst t) (gName i)) := fun B σ P G H Γ c R D a w' k => by
  refine ht B σ P G H Γ c _ _ a w' fun vs P1 G1 H1 c1 zs s1 w1 r1 q1 => ?_
  obtain ⟨ds, rfl, hd, hz, q⟩ := dzs_of r1 q1
  have hz' : vs.length ≤ sizeLine := by rw [hd.length]; exact hz
  refine ⟨hz', fun p hp => ?_⟩
  exact k.nx _ P1 G1 _ c1 _ s1.gg s1.pp ((a.step s1 w1).newG (z := .own ds) hp rfl (fun nB o => ⟨p, vs, rfl, nB, o, hd⟩) hz') q
/-- a, b = e, [], b a list of one's own -/
theorem impS_parN {we : WE} {te : TE} (i j : Nat) (he : Imp K we te) : ImpS K (fun Γ c R => we Γ c fun z c1 => cln [z] fun _ => R.nx (putZ (putZ Γ i z) j (.own [])) c1) (tPar i j (tCons te (tCons (tLst tNil) tNil))) := fun B σ P G H Γ c R D a w k => by
  refine he B σ P G H Γ c _ _ a w fun v P1 G1 H1 c1 z s1 w1 r1 q1 => ?_
  obtain ⟨q, hv⟩ := cln1 r1 q1
  refine ⟨Nat.zero_le _, fun p hp => ?_⟩
  have a1 := (a.step s1 w1).set (i := i) r1 fun e => (hv.notOwn e).elim
  exact ⟨v, .ref p, rfl, k.nx _ P1 G1 _ c1 _ s1.gg s1.pp (a1.newG (z := .own []) hp rfl (fun nB o => ⟨p, [], rfl, nB, o, .nil⟩) (Nat.zero_le _)) q⟩
end
end Z
/-! Z12 -/
set_option maxRecDepth 100000
/-! the other expressions -/
namespace Z
open PySem PySem.Spec PyProof.Rows L2
section
variable {K : PySem.W.Frag} {wa wb wc : WE} {ta tb tc : TE} {w1 w2 : WT} {t1 t2 : TT}
theorem tru_of {d : PyData} {Q : Bool → Prop} (h : tru d Q) : ∃ b, truD d = some b ∧ Q b := by
  unfold tru at h
  split at h
  · rename_i b e
    exact ⟨b, e, h⟩
  · exact h.elim
theorem isEmpty_len {α β : Type} {xs : List α} {ys : List β} (h : xs.length = ys.length) : xs.isEmpty = ys.isEmpty := by
  cases xs <;> cases ys <;> simp at h ⊢
theorem truV_of {P : Addr → Prop} {G H H0 : Hp} {c : Nat} {z : Zv} {v : V} {x : PyData} {b : Bool} (w : Wd P G H c) (r : ZR K P G H H0 z v) (e : dv? z = some x) (t : truD x = some b) : TruV K v H b := by
  have lk := r.look w e
  cases x with
  | none => rw [dq_none (lk fun _ e => by cases e)]; cases t; rfl
  | bool k => rw [dq_bool (lk fun _ e => by cases e)]; cases t; rfl
  | int i => rw [zr_int w r e]; cases t; rfl
  | str s => cases t
  | list xs =>
    obtain ⟨a, vs, rfl, hv, d⟩ := r.lst w e
    cases t
    exact .inl ⟨vs, hv, by rw [isEmpty_len d.length]⟩
  | tuple xs =>
    obtain ⟨a, vs, rfl, hv, _, d⟩ := r.tup w e
    cases t
    exact .inr (.inl ⟨vs, hv, by rw [isEmpty_len d.length]⟩)
  | dict xs => cases t
theorem imp_neg (ha : Imp K wa ta) : Imp K (wNeg wa) (tUn (rU fun i => .int (-i)) ta) := fun B σ P G H Γ c Q R a w k => by
  refine ha B σ P G H Γ c _ _ a w fun x P1 G1 H1 c1 z s1 w1 r1 q1 => ?_
  obtain ⟨d, e, q⟩ := dv_of q1
  cases d with
  | int i => exact ⟨i, zr_int w1 r1 e, k _ P1 G1 H1 c1 (.d _) s1 w1 (show Dq K _ _ _ from .int _) q⟩
  | _ => exact q.elim
theorem imp_not (ha : Imp K wa ta) : Imp K (wNot wa) (tNotT K ta) := fun B σ P G H Γ c Q R a w k => by
  refine ha B σ P G H Γ c _ _ a w fun x P1 G1 H1 c1 z s1 w1 r1 q1 => ?_
  obtain ⟨d, e, q⟩ := dv_of q1
  obtain ⟨b, eb, q⟩ := tru_of q
  exact ⟨b, truV_of w1 r1 e eb, k _ P1 G1 H1 c1 (.d _) s1 w1 (show Dq K _ _ _ from .bl _) q⟩
theorem imp_and (ha : Imp K wa ta) (hb : Imp K wb tb) : Imp K (wAnd wa wb) (tAndT K ta tb) := fun B σ P G H Γ c Q R a w k => by
  refine ha B σ P G H Γ c _ _ a w fun x P1 G1 H1 c1 z s1 w1 r1 q1 => ?_
  obtain ⟨d, rfl, q⟩ := dz_of q1
  obtain ⟨b, eb, q⟩ := tru_of q
  refine ⟨b, truV_of w1 r1 rfl eb, ?_⟩
  cases b with
  | true => exact iteT (hb B σ P1 G1 H1 Γ c1 _ _ (a.step s1 w1) q fun v P2 G2 H2 c2 z s2 w2 r2 q2 => k v P2 G2 H2 c2 z (s1.trans s2) w2 r2 q2)
  | false => exact iteF (k _ P1 G1 H1 c1 (.d d) s1 w1 r1 q)
theorem imp_or (ha : Imp K wa ta) (hb : Imp K wb tb) : Imp K (wOr wa wb) (tOrT K ta tb) := fun B σ P G H Γ c Q R a w k => by
  refine ha B σ P G H Γ c _ _ a w fun x P1 G1 H1 c1 z s1 w1 r1 q1 => ?_
  obtain ⟨d, rfl, q⟩ := dz_of q1
  obtain ⟨b, eb, q⟩ := tru_of q
  refine ⟨b, truV_of w1 r1 rfl eb, ?_⟩
  cases b with
  | false => exact iteF (hb B σ P1 G1 H1 Γ c1 _ _ (a.step s1 w1) q fun v P2 G2 H2 c2 z s2 w2 r2 q2 => k v P2 G2 H2 c2 z (s1.trans s2) w2 r2 q2)
  | true => exact iteT (k _ P1 G1 H1 c1 (.d d) s1 w1 r1 q)
/-- a test by a value's truth -/
theorem impt_tru (ha : Imp K wa ta) : ImpT K (tOf wa) (fun σ H Q => ta σ H fun x H' => ∃ k, TruV K x H' k ∧ Q k H') := fun B σ P G H Γ c Q R a w k => by
  refine ha B σ P G H Γ c _ _ a w fun x P1 G1 H1 c1 z s1 w1 r1 q1 => ?_
  obtain ⟨d, e, q⟩ := dv_of q1
  obtain ⟨b, eb, q⟩ := tru_of q
  exact ⟨b, truV_of w1 r1 e eb, k b P1 G1 H1 c1 s1 w1 q⟩
theorem imp_ite (h1 : ImpT K w1 t1) (ha : Imp K wa ta) (hb : Imp K wb tb) : Imp K (wIte w1 wa wb) (tIf t1 ta tb) := fun B σ P G H Γ c Q R a w k => by
  refine h1 B σ P G H Γ c _ _ a w fun b P1 G1 H1 c1 s1 w1' q1 => ?_
  cases b with
  | true => exact iteT (ha B σ P1 G1 H1 Γ c1 _ _ (a.step s1 w1') q1 fun v P2 G2 H2 c2 z s2 w2 r2 q2 => k v P2 G2 H2 c2 z (s1.trans s2) w2 r2 q2)
  | false => exact iteF (hb B σ P1 G1 H1 Γ c1 _ _ (a.step s1 w1') q1 fun v P2 G2 H2 c2 z s2 w2 r2 q2 => k v P2 G2 H2 c2 z (s1.trans s2) w2 r2 q2)
theorem imp_cm (op : CmpOp) (ha : Imp K wa ta) (hb : Imp K wb tb) : Imp K (wCm op wa wb) (tOp (rCmp K op) ta tb) := imp_op ha hb (opi_cmp op)
theorem imp_bi (op : Operator) (ha : Imp K wa ta) (hb : Imp K wb tb) : Imp K (wBi op wa wb) (tOp (rBin K op) ta tb) := imp_op ha hb (opi_bin op)
theorem imp_ixx (ha : Imp K wa ta) (hb : Imp K wb tb) : Imp K (wIxx wa wb) (tOp (rIxZ K) ta tb) := fun B σ P G H Γ c Q R a w k => by
  refine ha B σ P G H Γ c _ _ a w fun x P1 G1 H1 c1 zx s1 w1 r1 q1 => ?_
  refine hb B σ P1 G1 H1 Γ c1 _ _ (a.step s1 w1) q1 fun y P2 G2 H2 c2 zy s2 w2 r2 q2 => ?_
  have data : ∀ {dx : PyData}, dv? zx = some dx → (dv zy fun dy => wIx dx dy fun r => Q (.d r) c2) → rIxZ K x y H2 R := fun {dx} ex q => by
    obtain ⟨dy, ey, q⟩ := dv_of q
    exact opi_ix B P2 G2 H2 c2 zx zy x y dx dy _ R w2 (r1.mono s2) r2 ex ey q fun v P' G' H' d s3 w3 r3 q3 => k v P' G' H' c2 (.d d) ((s1.trans s2).trans s3) w3 r3 q3
  cases zx with
  | pot =>
    obtain ⟨b, rfl, hb⟩ := r1.mono s2
    obtain ⟨g, s, t, e, pb⟩ := w2.pot b hb
    obtain ⟨dy, ey, q⟩ := dv_of q2
    cases dy with
    | int j =>
      obtain ⟨v, ev, q⟩ := q g s t pb
      obtain ⟨u, eu, hu⟩ := atI_all (G := G2) (K := K) (vs := [V.int g, .int s, .int t]) (.cons (.int g) (.cons (.int s) (.cons (.int t) .nil))) ev
      exact .inl (.inl ⟨b, _, _, u, rfl, zr_int w2 r2 ey, SqL.of e, eu, k u P2 G2 H2 c2 (.d v) (s1.trans s2) w2 hu q⟩)
    | _ => exact q.elim
  | d dx => exact data rfl q2
  | own xs => exact data rfl q2
  | scr ns => exact data rfl q2
  | od ns => exact data rfl q2
theorem wCmp_mono {op : CmpOp} {x y : PyData} {Q Q' : Bool → Prop} (h : ∀ b, Q b → Q' b) (w : wCmp op x y Q) : wCmp op x y Q' := by
  unfold wCmp at w ⊢
  split at w
  · exact ⟨w.1, h _ w.2⟩
  · exact ⟨w.1, h _ w.2⟩
  · split at w
    · exact h _ w
    · exact let ⟨b, e, q⟩ := w; ⟨b, e, h _ q⟩
    · exact w.elim
  · split at w
    · exact h _ w
    · exact w.elim
  · split at w
    · exact h _ w
    · exact w.elim
  · split at w
    · exact h _ w
    · exact w.elim
  · split at w
    · exact ⟨w.1, w.2.1, h _ w.2.2⟩
    · exact ⟨w.1, w.2.1, h _ w.2.2⟩
    · exact let ⟨k, e, q⟩ := w; ⟨k, e, h _ q⟩
    · exact w.elim
  · split at w
    · exact ⟨w.1, w.2.1, h _ w.2.2⟩
    · exact ⟨w.1, w.2.1, h _ w.2.2⟩
    · exact let ⟨k, e, q⟩ := w; ⟨k, e, h _ q⟩
    · exact w.elim
  · split at w
    · exact h _ w
    · split at w
      · exact h _ w
      · exact w.elim
    · exact w.elim
  · split at w
    · exact h _ w
    · split at w
      · exact h _ w
      · exact w.elim
    · exact w.elim
/-- a op b op' e -/
theorem imp_chn (op op' : CmpOp) (ha : Imp K wa ta) (hb : Imp K wb tb) (hc : Imp K wc tc) : Imp K (wChn op op' wa wb wc) (tChain (rCmp K op) (rCmp K op') ta tb tc) := fun B σ P G H Γ c Q R a w k => by
  refine ha B σ P G H Γ c _ _ a w fun x P1 G1 H1 c1 zx s1 w1 r1 q1 => ?_
  refine hb B σ P1 G1 H1 Γ c1 _ _ (a.step s1 w1) q1 fun y P2 G2 H2 c2 zy s2 w2 r2 q2 => ?_
  obtain ⟨dx, ex, q2⟩ := dv_of q2
  obtain ⟨dy, ey, q2⟩ := dv_of q2
  refine opi_cmp op B P2 G2 H2 c2 zx zy x y dx dy (fun d => match d with
    | .bool true => wc Γ c2 fun z c3 => dv z fun dw => wCmp op' dy dw fun r' => Q (.d (.bool r')) c3
    | .bool false => Q (.d (.bool false)) c2
    | _ => False) _ w2 (r1.mono s2) r2 ex ey ?_ fun v P3 G3 H3 d s3 w3 r3 q3 => ?_
  · exact wCmp_mono (fun b q => by cases b <;> exact q) q2
  · cases d with
    | bool b =>
      cases r3
      refine ⟨b, rfl, ?_⟩
      have s13 := (s1.trans s2).trans s3
      cases b with
      | false => exact iteF (k _ P3 G3 H3 c2 (.d _) s13 w3 (show Dq K _ _ _ from .bl _) q3)
      | true =>
        refine iteT (hc B σ P3 G3 H3 Γ c2 _ _ (a.step s13 w3) q3 fun u P4 G4 H4 c4 zu s4 w4 r4 q4 => ?_)
        obtain ⟨dw, ew, q4⟩ := dv_of q4
        exact opi_cmp op' B P4 G4 H4 c4 zy zu y u dy dw (fun d => Q (.d d) c4) _ w4 ((r2.mono s3).mono s4) r4 ey ew q4 fun v P5 G5 H5 d s5 w5 r5 q5 => k v P5 G5 H5 c4 (.d d) ((s13.trans s4).trans s5) w5 r5 q5
    | _ => exact q3.elim
theorem impt_cm (op : CmpOp) (ha : Imp K wa ta) (hb : Imp K wb tb) : ImpT K (wTCm op wa wb) (tTest (tOp (rCmp K op) ta tb)) := fun B σ P G H Γ c Q R a w k => impt_tst (imp_cm op ha hb) B σ P G H Γ c Q R a w k
end
end Z
/-! ZB -/
set_option maxRecDepth 100000
/-! sets, as they are counted and sorted at once -/
namespace Z
open PySem PySem.Spec PyProof.Rows L2
theorem ded_mem {ns : List Int} {k : Int} : k ∈ dedI ns ↔ k ∈ ns := by
  induction ns with
  | nil => simp [dedI]
  | cons x r ih =>
    unfold dedI
    split
    · rename_i h
      rw [ih, List.mem_cons]
      constructor
      · exact .inr
      · rintro (rfl | h2)
        · exact ih.mp h
        · exact h2
    · rw [List.mem_cons, List.mem_cons, ih]
theorem ded_nodup : ∀ ns : List Int, (dedI ns).Nodup
  | [] => by simp [dedI]
  | x :: r => by
    unfold dedI
    split
    · exact ded_nodup r
    · rename_i h
      exact List.nodup_cons.mpr ⟨h, ded_nodup r⟩
theorem ded_len {ns l : List Int} (hn : l.Nodup) (hm : ∀ k, k ∈ l ↔ k ∈ ns) : l.length = (dedI ns).length :=
  ((List.perm_ext_iff_of_nodup hn (ded_nodup ns)).mpr fun k => (hm k).trans ded_mem.symm).length_eq
theorem sortI_mem {ns : List Int} {k : Int} : k ∈ sortI ns ↔ k ∈ ns := (sortI_perm ns).mem_iff
/-- a rising list with these members -/
theorem ded_sorted {ns l : List Int} (hp : l.Pairwise (· < ·)) (hm : ∀ k, k ∈ l ↔ k ∈ ns) : l = sortI (dedI ns) := by
  have nd : l.Nodup := hp.imp (fun h => Int.ne_of_lt h)
  have pm : l.Perm (sortI (dedI ns)) := ((List.perm_ext_iff_of_nodup nd (ded_nodup ns)).mpr fun k => (hm k).trans ded_mem.symm).trans (sortI_perm _).symm
  exact sorted_one pm (hp.imp fun h => Int.le_of_lt h) (sortI_sorted _)
theorem first_nodup (f : Nat → Int) : ∀ i, (firstMet f i).Nodup
  | 0 => by rw [firstMet_zero]; exact List.nodup_nil
  | i + 1 => by
    rw [firstMet_succ]
    unfold step_dedup
    split
    · exact first_nodup f i
    · rename_i h
      rw [List.nodup_append]
      refine ⟨first_nodup f i, by simp, fun a ha b hb e => h ?_⟩
      rw [List.mem_singleton] at hb
      subst hb
      subst e
      exact List.any_eq_true.mpr ⟨_, ha, by simp⟩
theorem first_mem (ns : List Int) (k : Int) : k ∈ firstMet (fun i => ns.getD i 0) ns.length ↔ k ∈ ns := by
  have h := firstMet_any (fun i => ns.getD i 0) ns.length k
  have e : (List.range ns.length).map (fun i => ns.getD i 0) = ns := by
    apply List.ext_getElem?
    intro i
    rw [List.getElem?_map]
    by_cases hi : i < ns.length
    · rw [List.getElem?_range hi, List.getElem?_eq_getElem hi]
      simp [List.getD_eq_getElem?_getD, List.getElem?_eq_getElem hi]
    · rw [List.getElem?_eq_none (by simpa using hi), List.getElem?_eq_none (by omega)]
      rfl
  rw [e] at h
  have m : ∀ l : List Int, l.any (· == k) = true ↔ k ∈ l := fun l => by
    rw [List.any_eq_true]
    exact ⟨fun ⟨x, hx, e⟩ => by rw [← eq_of_beq e]; exact hx, fun h => ⟨k, h, by simp⟩⟩
  rw [← m, ← m, h]
section
variable {X : Cx} {a : Expr} {ta : TE} {p p2 q pos : Pos}
def tLenS (K : PySem.W.Frag) (ta : TE) : TE := fun σ H Q => ta σ H fun x H1 => ∃ (l : Addr) (ns : List Int), x = .ref l ∧ (SqL K H1 l (ns.map V.int) ∨ SqT K H1 l (ns.map V.int)) ∧ ns.length ≤ 4000 ∧ Q (.int (dedI ns).length) H1
theorem ded_le (ns : List Int) : (dedI ns).length ≤ ns.length := (ded_nodup ns).length_le_of_subset fun k h => ded_mem.mp h
theorem pe_lenS (hc : X.calm = true) (hg : Gl X "len") (hm : X.mg "len" = none) (hg2 : Gl X "set") (hm2 : X.mg "set" = none) (ha : PE X a ta) (na : starEach [a] X.env = (false, eval a X.env) :: starEach [] X.env) :
    PE X (.Call (.Name "len" p) [.Call (.Name "set" p2) [a] [] q] [] pos) (tLenS X.K ta) := by
  refine ⟨fun pins s σ H Q I h => ?_⟩
  refine Call_ (ld_blt I hg hm boot_len ?_)
  refine callWith_builtin1 (args_cons ?_ rfl) rfl rfl
  refine Call_ (ld_blt I hg2 hm2 boot_set ?_)
  refine callWith_type1 (args_cons (thn (ha.run pins s σ H _ I h) fun v s1 ⟨x, H1, I1, r1, q1⟩ => args_nil ?_) na) na rfl
  obtain ⟨l, ns, rfl, hq, hl, q1⟩ := q1
  cases r1
  have le := ded_le ns
  rcases hq with hq | hq
  · obtain ⟨its, r, pl, hz⟩ := I1.list hq
    have hlen : its.toArray.size = ns.length := by rw [List.size_toArray, ← r.length, List.length_map]
    refine call_set_list (I1.ok.hd hc) pl.isList (by simpa using RZ.intsAre_vals r) (by rw [hlen]; unfold scanBound; omega) fun h' tk hS hk => ?_
    refine args_nil ?_
    rw [hlen] at hS
    obtain ⟨o, es, ep, t, ho, hex, hd, _, _, _, hf, hn⟩ := hS
    have en := ded_len (first_nodup _ ns.length) (first_mem ns)
    rw [en] at hn
    have J : Inv X pins σ H1 { s1 with heap := h', toks := tk } := I1.kept fun b o e => hk b o (Heap.lt_size e) e
    exact call_len_set ho hex hd hf (by rw [hn]; omega) ⟨.int (dedI ns).length, H1, J.tok _, ⟨_, by rw [hn]⟩, q1⟩
  · obtain ⟨its, r, pl, hz⟩ := I1.tuple hq
    refine call_set_tupI ns (I1.ok.hd hc) pl (by simpa using RZ.intsAre_vals r) (by unfold scanBound; omega) fun h' tk c hS hcl hk => ?_
    refine args_nil ?_
    obtain ⟨o, es, ep, t, ho, hex, hd, _, nd, hm, _, hf, hn, _⟩ := hS
    have en : es.size = (dedI ns).length := by
      rw [← ded_len nd fun k => by rw [← hm k]; simp]
      simp
    have J : Inv X pins σ H1 { s1 with heap := h', toks := tk } := I1.kept fun b o e => hk b o e
    exact call_len_set ho hex hd hf (by rw [en]; omega) ⟨.int (dedI ns).length, H1, J.tok _, ⟨_, by rw [en]⟩, q1⟩
def tSrtS (K : PySem.W.Frag) (ta : TE) : TE := fun σ H Q => ta σ H fun x H1 => ∃ (l : Addr) (ns : List Int), x = .ref l ∧ SqT K H1 l (ns.map V.int) ∧ ns.length ≤ 4000 ∧ (dedI ns).length < 64 ∧
  ∀ p, H1 p = none → Q (.ref p) (upd H1 p (.lst ((sortI (dedI ns)).map V.int)))
theorem pe_srtS (hc : X.calm = true) (hg : Gl X "sorted") (hm : X.mg "sorted" = none) (hg2 : Gl X "set") (hm2 : X.mg "set" = none) (ha : PE X a ta) (na : starEach [a] X.env = (false, eval a X.env) :: starEach [] X.env) :
    PE X (.Call (.Name "sorted" p) [.Call (.Name "set" p2) [a] [] q] [] pos) (tSrtS X.K ta) := by
  refine ⟨fun pins s σ H Q I h => ?_⟩
  refine Call_ (ld_blt I hg hm boot_sorted ?_)
  refine callWith_builtin1 (args_cons ?_ rfl) rfl rfl
  refine Call_ (ld_blt I hg2 hm2 boot_set ?_)
  refine callWith_type1 (args_cons (thn (ha.run pins s σ H _ I h) fun v s1 ⟨x, H1, I1, r1, q1⟩ => args_nil ?_) na) na rfl
  obtain ⟨l, ns, rfl, hq, hl, h64, q1⟩ := q1
  cases r1
  obtain ⟨its, r, pl, hz⟩ := I1.tuple hq
  refine call_set_tupI ns (I1.ok.hd hc) pl (by simpa using RZ.intsAre_vals r) (by unfold scanBound; omega) fun h' tk c hS hcl hk => ?_
  refine args_nil ?_
  have J : Inv X pins σ H1 { s1 with heap := h', toks := tk } := I1.kept fun b o e => hk b o e
  have hc2 : c = (dedI ns).length := by
    obtain ⟨o, es, ep, t, ho, hex, hd, _, nd, hm, _, hf, hn, _⟩ := hS
    rw [← hn, ← ded_len nd fun k => by rw [← hm k]; simp]
    simp
  subst hc2
  refine sorted_set hS (I1.ok.hd hc) h64 fun s' p out c ns' k g o hp hgt hi hs hm hl => ?_
  have e0 : ns' = sortI (dedI ns) := ded_sorted hs fun k => by rw [hm k]; simp
  subst e0
  have hlen : ((sortI (dedI ns)).map V.int).length ≤ sizeLine := by rw [List.length_map, hl, sizeLine_eq]; omega
  have fr : H1 p = none := J.hok.fresh hp
  have J2 : Inv X pins σ (upd H1 p (.lst ((sortI (dedI ns)).map V.int))) s' :=
    J.call' (ch := []) o (Un.laid k hp fr) (J.hok.laid k hp ⟨hlen, out.toList, c, vals_of_ints hi, hgt⟩) (by rw [g]; exact J.bare) (fun _ z => nomatch z)
  exact ⟨.ref p, _, J2, rfl, q1 p fr⟩
end
section
variable {K : PySem.W.Frag} {Gd : Nat → PyData}
theorem imp_lenS {wa : WE} {ta : TE} (ha : Imp K wa ta) : Imp K (wExt Gd .lenset (wCons wa wNil)) (tLenS K ta) := fun B σ P G H Γ c Q R a w k => by
  refine ha B σ P G H Γ c _ _ a w fun x P1 G1 H1 c1 zx s1 w1 r1 q1 => ?_
  obtain ⟨ds, q, e⟩ := dvs_of (B := B) (.cons r1 .nil) q1
  have q : xLen ds (fun r => Q (.d r) c1) := q
  unfold xLen at q
  split at q
  · obtain ⟨z, v, hz, hv, r, ex⟩ := zrs1 (.cons r1 .nil) e
    cases hz
    cases hv
    obtain ⟨ns, en, hl, q⟩ := q
    obtain ⟨l, us, rfl, hs, da⟩ := r.lst w1 ex
    rw [ints?_eq en] at da
    exact ⟨l, ns, rfl, .inl (by rw [← da.ints]; exact hs), hl, k _ P1 G1 H1 c1 (.d _) s1 w1 (show Dq K _ _ _ from .int _) q⟩
  · obtain ⟨z, v, hz, hv, r, ex⟩ := zrs1 (.cons r1 .nil) e
    cases hz
    cases hv
    obtain ⟨ns, en, hl, q⟩ := q
    obtain ⟨l, us, rfl, hs, gs, da⟩ := r.tup w1 ex
    rw [ints?_eq en] at da
    exact ⟨l, ns, rfl, .inr (by rw [← da.ints]; exact hs), hl, k _ P1 G1 H1 c1 (.d _) s1 w1 (show Dq K _ _ _ from .int _) q⟩
  · exact q.elim
end
end Z
namespace Z
open PySem PySem.Spec PyProof.Rows L2
/-! pots are written, made -/
section
variable {K : PySem.W.Frag} {B : Bs} {P : Addr → Prop} {G H : Hp} {c : Nat} {Γ : Ga} {σ : L2.St}
theorem Pb.le {c c1 : Nat} {g s t : Int} (h : c ≤ c1) (b : Pb c g s t) : Pb c1 g s t := b.mono h
/-- a pot's object changes -/
theorem Stp.potChg {a : Addr} {o : HO} (p : P a) (w : Wd P G H c) : Stp P G H P G (upd H a o) where
  pp := fun _ h => h
  gg := fun _ _ h => h
  fr := fun b u h n => by
    have e : b ≠ a := fun z => n (z ▸ p)
    rw [upd_ne e]; exact h
  th := fun b h => by
    by_cases e : b = a
    · subst e; rw [upd_same]; simp
    · rw [upd_ne e]; exact h
  nw := fun _ h _ => h
  np := fun _ h => .inl h
theorem Wd.potChg {a : Addr} {g s t : Int} {c1 : Nat} (p : P a) (w : Wd P G H c) (hc : c ≤ c1) (b : Pb c1 g s t) : Wd P G (upd H a (.lst [.int g, .int s, .int t])) c1 where
  sz := w.sz_upd (by show 3 ≤ sizeLine; rw [sizeLine_eq]; omega)
  gh := fun x u h => by
    have e : x ≠ a := fun z => by rw [z, w.pg a p] at h; cases h
    rw [upd_ne e]; exact w.gh _ _ h
  pg := w.pg
  pot := fun x h => by
    by_cases e : x = a
    · subst e; exact ⟨g, s, t, upd_same, b⟩
    · obtain ⟨g', s', t', e1, b'⟩ := w.pot x h
      exact ⟨g', s', t', by rw [upd_ne e]; exact e1, b'.mono hc⟩
/-- a new pot -/
theorem Stp.potNew {a : Addr} {o : HO} (w : Wd P G H c) (hp : H a = none) : Stp P G H (fun x => P x ∨ x = a) G (upd H a o) where
  pp := fun _ h => .inl h
  gg := fun _ _ h => h
  fr := fun b u h _ => by rw [upd_ne (ne_of_none h hp)]; exact h
  th := fun b h => by
    by_cases e : b = a
    · subst e; exact absurd hp h
    · rw [upd_ne e]; exact h
  nw := fun _ h _ => h
  np := fun x h => h.imp id fun e => by rw [e]; exact hp
theorem Wd.potNew {a : Addr} {g s t : Int} (w : Wd P G H c) (hp : H a = none) (b : Pb c g s t) : Wd (fun x => P x ∨ x = a) G (upd H a (.lst [.int g, .int s, .int t])) c where
  sz := w.sz_upd (by show 3 ≤ sizeLine; rw [sizeLine_eq]; omega)
  gh := fun x u h => by rw [upd_ne (ne_of_none (w.gh _ _ h) hp)]; exact w.gh _ _ h
  pg := fun x h => by
    rcases h with h | rfl
    · exact w.pg x h
    · cases q : G x with
      | none => rfl
      | some u => rw [w.gh _ _ q] at hp; cases hp
  pot := fun x h => by
    by_cases e : x = a
    · subst e; exact ⟨g, s, t, upd_same, b⟩
    · obtain ⟨g', s', t', e1, b'⟩ := w.pot x (h.resolve_right e)
      exact ⟨g', s', t', by rw [upd_ne e]; exact e1, b'⟩
/-- pot[j] = e -/
theorem impS_pst {we : WE} {te : TE} (i : Nat) (j : Int) (he : Imp K we te) : ImpS K (fun Γ c R => match get Γ i with
    | some .pot => we Γ c fun z c1 => dv z fun y => match y with
      | .int v => potW c1 j v fun c2 => R.nx Γ c2
      | _ => False
    | _ => False) (tAsg te (gSub (tVar i) (tC (.int j)) rSetL)) := fun B σ P G H Γ c R D a w k => by
  have w : (match get Γ i with
    | some .pot => we Γ c fun z c1 => dv z fun y => match y with
      | .int v => potW c1 j v fun c2 => R.nx Γ c2
      | _ => False
    | _ => False) := w
  split at w
  · rename_i eg
    refine he B σ P G H Γ c _ _ a w fun v P1 G1 H1 c1 z s1 w1 r1 q1 => ?_
    obtain ⟨dy, ey, q⟩ := dv_of q1
    cases dy with
    | int n =>
      have a1 := a.step s1 w1
      obtain ⟨u, eu, b, rfl, pb⟩ := a1.sl i _ eg
      obtain ⟨g, s, t, e, bd⟩ := w1.pot b pb
      have ev : v = .int n := zr_int w1 r1 ey
      subst ev
      refine ⟨.ref b, eu, ?_⟩
      have q : potW c1 j n (fun c2 => R.nx Γ c2) := q
      unfold potW at q
      split at q
      · rename_i ej
        subst ej
        obtain ⟨h0, h1, q⟩ := q
        obtain ⟨_, _, b3, b4, b5, b6⟩ := id bd
        have bd' : Pb c1 n s t := ⟨h0, h1, b3, b4, b5, b6⟩
        refine ⟨b, _, 0, 0, rfl, rfl, e, rfl, ?_⟩
        exact k.nx σ P1 G1 _ c1 Γ s1.gg s1.pp (a1.step (Stp.potChg pb w1) (w1.potChg pb (Nat.le_refl _) bd')) q
      · split at q
        · rename_i ej
          subst ej
          obtain ⟨h0, h1, q⟩ := q
          obtain ⟨b1, b2, b3, b4, _, _⟩ := id bd
          have bd' : Pb (c1 + 1) g s n := ⟨b1, b2, b3, b4, h0, by omega⟩
          refine ⟨b, _, 2, 2, rfl, rfl, e, rfl, ?_⟩
          exact k.nx σ P1 G1 _ (c1 + 1) Γ s1.gg s1.pp (a1.step (Stp.potChg pb w1) (w1.potChg pb (Nat.le_succ _) bd')) q
        · exact q.elim
    | _ => exact q.elim
  · exact w.elim
/-- return [g, s, t], a new pot -/
theorem impS_retP {w : WA} {t : TA} (ha : ImpA K w t) : ImpS K (fun Γ c R => w Γ c fun zs c1 => dzs zs fun ds => match ds with
    | [.int g, .int s, .int t] => Pb c1 g s t ∧ R.rt .pot c1
    | _ => False) (tRet (tLst t)) := fun B σ P G H Γ c R D a w' k => by
  refine ha B σ P G H Γ c _ _ a w' fun vs P1 G1 H1 c1 zs s1 w1 r1 q1 => ?_
  obtain ⟨ds, _, hd, q⟩ := dzs_of r1 q1
  split at q
  · rename_i g s t
    obtain ⟨pb, q⟩ := q
    cases hd with
    | cons h1 hd =>
      cases hd with
      | cons h2 hd =>
        cases hd with
        | cons h3 hd =>
          cases hd
          cases h1
          cases h2
          cases h3
          refine ⟨by show 3 ≤ sizeLine; rw [sizeLine_eq]; omega, fun p hp => ?_⟩
          exact k.rt (.ref p) _ G1 _ c1 .pot ((a.st.trans s1).trans (Stp.potNew w1 hp)) (w1.potNew hp pb) ⟨p, rfl, .inr rfl⟩ q
  · exact q.elim
end
end Z
/-! ZG -/
set_option maxRecDepth 100000
/-! dicts of the module; dicts' methods; displays -/
namespace Z
open PySem PySem.Spec PyProof.Rows L2
/-- the entries of a written dict, as data -/
inductive EntD (K : PySem.W.Frag) : List DictEntry → List (Str × PyData) → Prop
  | nil : EntD K [] []
  | cons {e : DictEntry} {x : Str} {t : Tok} {v : V} {d : PyData} {es : List DictEntry} {kvs : List (Str × PyData)} : e.key = .str x t → RelV v e.val → Dq K (fun _ => none) v d → EntD K es kvs → EntD K (e :: es) ((x, d) :: kvs)
def strD (kvs : List (Str × PyData)) : PyData := .dict (kvs.map fun p => (.str p.1, p.2))
structure GK (w : World) (K : PySem.W.Frag) (mg : Str → Option Value) (x : Str) (d : PyData) : Prop where
  ex : ∃ (a : Addr) (es : Array DictEntry) (n : Nat) (kvs : List (Str × PyData)), d = strD kvs ∧ mg x = some (.ref a) ∧ KDict K w a es n ∧ EntD K es.toList kvs ∧ es.size ≤ sizeLine
def sLk : List (Str × PyData) → Str → Option PyData
  | [], _ => none
  | (y, d) :: r, x => if y = x then some d else sLk r x
theorem dLk_str (k : Key) : ∀ kvs : List (Str × PyData), dLk (kvs.map fun p => (.str p.1, p.2)) k = match k with | .inr x => sLk kvs x | .inl _ => none
  | [] => by cases k <;> rfl
  | (y, d) :: r => by
    have ih := dLk_str k r
    rw [List.map_cons]
    unfold dLk
    rw [ih]
    cases k with
    | inl i =>
      rw [if_neg (by show ¬ some (Sum.inr y : Key) = some (Sum.inl i); intro h; cases h)]
    | inr x =>
      show (if some (Sum.inr y : Key) = some (Sum.inr x) then some d else sLk r x) = if y = x then some d else sLk r x
      by_cases e : y = x
      · subst e; rw [if_pos rfl, if_pos rfl]
      · rw [if_neg e, if_neg (fun h => e (Sum.inr.inj (Option.some.inj h)))]
section
variable {K : PySem.W.Frag}
theorem ent_look {x : Str} : ∀ {es : List DictEntry} {kvs : List (Str × PyData)}, EntD K es kvs → es.any (·.refKey) = false ∧ ((es.find? (·.key.isStr x) = none ∧ sLk kvs x = none) ∨ ∃ e v d, es.find? (·.key.isStr x) = some e ∧ sLk kvs x = some d ∧ RelV v e.val ∧ Dq K (fun _ => none) v d)
  | _, _, .nil => ⟨rfl, .inl ⟨rfl, rfl⟩⟩
  | e :: es, (y, d) :: kvs, .cons (t := t) hk hv hd hr => by
    obtain ⟨h1, h2⟩ := ent_look (x := x) hr
    have hr : e.refKey = false := by unfold DictEntry.refKey; rw [hk]
    refine ⟨by rw [List.any_cons, hr, h1]; rfl, ?_⟩
    have hs : e.key.isStr x = (y == x) := by rw [hk]; rfl
    rw [List.find?_cons, hs]
    unfold sLk
    by_cases q : y = x
    · subst q
      rw [beq_self_eq_true, if_pos rfl]
      exact .inr ⟨e, _, d, rfl, rfl, hv, hd⟩
    · rw [if_neg q, beq_eq_false_iff_ne.mpr q]
      exact h2
theorem gk_in {w : World} {a : Addr} {es : Array DictEntry} {n : Nat} {kvs : List (Str × PyData)} (D : KDict K w a es n) (h : EntD K es.toList kvs) (x : Str) :
    (PySem.W.nsIn K a x = some none ∧ sLk kvs x = none) ∨ ∃ u v d, PySem.W.nsIn K a x = some (some u) ∧ sLk kvs x = some d ∧ RelV v u ∧ Dq K (fun _ => none) v d := by
  obtain ⟨h1, h2⟩ := ent_look (x := x) h
  unfold PySem.W.nsIn
  rw [D.at_]
  rcases h2 with ⟨e1, e2⟩ | ⟨e, v, d, e1, e2, r, q⟩
  · left
    refine ⟨?_, e2⟩
    dsimp only
    rw [e1]
    dsimp only
    rw [h1]
    rfl
  · right
    refine ⟨e.val, v, d, ?_, e2, r, q⟩
    dsimp only
    rw [e1]
end
theorem dq_empty {K : PySem.W.Frag} {v : V} {d : PyData} (G : Hp) (h : Dq K (fun _ => none) v d) : Dq K G v d := dp_mono (fun _ _ e => by cases e) _ _ h
section
variable {X : Cx} {x : Str} {p : Pos} {i f : Expr} {apos cpos pos : Pos} {ty tx : TE} {a : Addr} {es : Array DictEntry} {n : Nat}
/-- D.get(k, d) -/
def tGget (K : PySem.W.Frag) (a : Addr) (ty tx : TE) : TE := fun σ H Q => ty σ H fun y H2 => tx σ H2 fun z H3 => ∃ (k : Str) (o : Option Value) (v : Option V), y = .str k ∧ PySem.W.nsIn K a k = some o ∧ RelO v o ∧ Q (v.getD z) H3
theorem pe_gget (D : KDict X.K X.w a es n) (ho : PE X (.Name x p) (tC (.ref a))) (he : PE X i ty) (hf : PE X f tx) (m : M2 X (.Name x p) "get" apos i f cpos) : PE X (.Call (.Attribute (.Name x p) "get" apos) [i, f] [] cpos) (tGget X.K a ty tx) := by
  refine ⟨fun pins s σ H Q I h => ?_⟩
  have h : tC (.ref a) σ H fun x1 H1 => x1 = .ref a ∧ tGget X.K a ty tx σ H1 Q := ⟨rfl, h⟩
  refine wpAny_Call_method m.base m.few m.line PySem.F.plainAttrs_dict PySem.F.slot_dict_get PySem.F.type_dict_get (thn (ho.run pins s σ H _ I h) fun u s1 ⟨x1, H1, I1, rx, ex, q1⟩ => ?_)
  subst ex
  obtain rfl : u = Value.ref a := rx
  have hm := PySem.W.mapOf_K (prog := X.prog) (w := X.w) I1.kIn D.at_ D.lit
  refine ⟨hm.typeIs, fun b q => ?_, ?_⟩
  · cases q
    exact ⟨_, I1.kIn _ _ D.at_, rfl⟩
  rw [m.trees]
  refine Calls.callWith_builtin rfl (Calls.evalArgs_plain (Calls.spliced_cons (thn (he.run pins s1 σ H1 _ I1 q1) fun iv s2 ⟨y, H2, I2, ry, q2⟩ =>
    Calls.spliced_cons (thn (hf.run pins s2 σ H2 _ I2 q2) fun fv s3 ⟨z, H3, I3, rz, k, o, v, ey, e, rv, q3⟩ => Calls.spliced_nil ?_))))
  subst ey
  obtain ⟨t, rfl⟩ := ry
  have hm := PySem.W.mapOf_K (prog := X.prog) (w := X.w) I3.kIn D.at_ D.lit
  refine call_meetsIn PySem.F.slot_dict_get hm.typeIs PySem.F.entry_dict_get (PySem.F.args_dict_get_3 _ _ _) (meets_dict_get_default (strKind X.prog X.w) a (strKind_is X.prog X.w k t) D.low fv) ⟨_, hm, ?_⟩
  rw [PySem.W.find_K D.at_ e]
  cases o with
  | none => cases v with
    | none => exact ⟨_, H3, I3.tok _, rz, q3⟩
    | some _ => exact rv.elim
  | some u => cases v with
    | none => exact rv.elim
    | some v => exact ⟨_, H3, I3.tok _, rv, q3⟩
/-- list(D) -/
def tGkeys (kvs : List (Str × PyData)) : TE := fun σ H Q => ∀ q, H q = none → Q (.ref q) (upd H q (.lst (kvs.map fun p => V.str p.1)))
theorem ent_keys {K : PySem.W.Frag} : ∀ {es : List DictEntry} {kvs : List (Str × PyData)}, EntD K es kvs → Vals (kvs.map fun p => V.str p.1) (es.map (·.key))
  | _, _, .nil => .nil
  | _, _, .cons hk _ _ hr => .cons ⟨_, hk⟩ (ent_keys hr)
theorem pe_gkeys {kvs : List (Str × PyData)} {fp : Pos} (hc : X.calm = true) (D : KDict X.K X.w a es n) (hE : EntD X.K es.toList kvs) (hz : es.size ≤ sizeLine) (hg : Gl X "list") (hm : X.mg "list" = none) (ho : PE X (.Name x p) (tC (.ref a)))
    (na : starEach [Expr.Name x p] X.env = (false, eval (.Name x p) X.env) :: starEach [] X.env) : PE X (.Call (.Name "list" fp) [.Name x p] [] pos) (tGkeys kvs) := by
  refine ⟨fun pins s σ H Q I h => ?_⟩
  have h : tC (.ref a) σ H fun x1 H1 => x1 = .ref a ∧ tGkeys kvs σ H1 Q := ⟨rfl, h⟩
  refine Call_ (ld_blt I hg hm boot_list ?_)
  refine callWith_type1 (args_cons (thn (ho.run pins s σ H _ I h) fun u s1 ⟨x1, H1, I1, rx, ex, q1⟩ => args_nil ?_) na) na rfl
  subst ex
  obtain rfl : u = Value.ref a := rx
  have raw : s1.heap.DictRaw a es n := ⟨_, I1.kIn _ _ D.at_, ⟨rfl, rfl, rfl⟩, rfl⟩
  refine PySem.W.kdl_call (PySem.KdlSrc.rawDict D.low) (I1.ok.hd hc) raw hz fun h' tk acc c' hk hD hacc => ?_
  have hv : acc.toList = es.toList.map (·.key) := by
    apply List.ext_getElem?
    intro j
    rw [List.getElem?_map, Array.getElem?_toList, Array.getElem?_toList]
    rcases Nat.lt_or_ge j acc.size with hj | hj
    · have e1 : acc[j]? = some acc[j] := Array.getElem?_eq_getElem hj
      obtain ⟨hi, e2⟩ := hacc.2 j _ e1
      rw [e1, e2, Array.getElem?_eq_getElem hi]
      rfl
    · rw [Array.getElem?_eq_none hj, Array.getElem?_eq_none (by rw [← hacc.1]; exact hj)]
      rfl
  have hlen : (kvs.map fun p => V.str p.1).length ≤ sizeLine := by
    have := (ent_keys hE).length
    simp only [List.length_map, Array.length_toList] at this ⊢
    omega
  refine ⟨.ref s1.heap.objs.size, upd H1 s1.heap.objs.size (.lst (kvs.map fun p => V.str p.1)), I1.laid (t' := tk) hk (Nat.le_refl _) (show ObjOk X.prog X.w _ _ _ (.lst (kvs.map fun p => V.str p.1)) from ⟨hlen, acc.toList, c', by rw [hv]; exact ent_keys hE, by rw [Array.toArray_toList]; exact hD⟩), rfl, q1 _ (I1.hok.fresh (Nat.le_refl _))⟩
end
end Z
namespace Z
open PySem PySem.Spec PyProof.Rows L2
section
variable {K : PySem.W.Frag} {Gd : Nat → PyData} {w0 : World} {a : Addr} {es : Array DictEntry} {n j : Nat} {kvs : List (Str × PyData)}
theorem dq_key {G : Hp} {v : V} {x : PyData} {k : Key} (h : Dq K G v x) (hk : keyD x = some k) : v = kV k := by
  have e := kD_of hk
  subst e
  cases k with
  | inl i => exact dq_int h
  | inr i => exact dq_str h
theorem imp_gix {wi : WE} {ti : TE} (hd : Gd (1000 + j) = strD kvs) (D : KDict K w0 a es n) (hE : EntD K es.toList kvs) (hi : Imp K wi ti) : Imp K (wExt Gd (.gix j) (wCons wi wNil)) (tOp (rIxD K w0) (tC (.ref a)) ti) := fun B σ P G H Γ c Q R a0 w k => by
  refine hi B σ P G H Γ c _ _ a0 w fun y P1 G1 H1 c1 zy s1 w1 r1 q1 => ?_
  obtain ⟨ds, e, da, q⟩ := dzs_of (.cons r1 .nil) q1
  cases da with
  | cons h1 h2 =>
    cases h2
    rename_i x0
    have q : xGix (Gd (1000 + j)) [x0] (fun r => Q (.d r) c1) := q
    rw [hd] at q
    have q : ∃ kk d, keyD x0 = some kk ∧ dLk (kvs.map fun p => (.str p.1, p.2)) kk = some d ∧ Q (.d d) c1 := q
    obtain ⟨kk, d, ek, el, q⟩ := q
    rw [dLk_str] at el
    have ey := dq_key h1 ek
    subst ey
    cases kk with
    | inl i => cases el
    | inr x =>
      rcases gk_in D hE x with ⟨_, e2⟩ | ⟨u, v, d', e1, e2, rv, dq⟩
      · rw [show sLk kvs x = some d from el] at e2; cases e2
      · rw [show sLk kvs x = some d from el] at e2
        cases e2
        exact ⟨a, x, v, rfl, rfl, ⟨es, n, u, D.at_, D.lit, e1, rv⟩, k v P1 G1 H1 c1 (.d d) s1 w1 (dq_empty _ dq) q⟩
theorem imp_gget {wi wx : WE} {ti tx : TE} (hd : Gd (1000 + j) = strD kvs) (D : KDict K w0 a es n) (hE : EntD K es.toList kvs) (hi : Imp K wi ti) (hx : Imp K wx tx) : Imp K (wExt Gd (.gget j) (wCons wi (wCons wx wNil))) (tGget K a ti tx) := fun B σ P G H Γ c Q R a0 w k => by
  refine hi B σ P G H Γ c _ _ a0 w fun y P1 G1 H1 c1 zy s1 w1 r1 q1 => ?_
  refine hx B σ P1 G1 H1 Γ c1 _ _ (a0.step s1 w1) q1 fun z P2 G2 H2 c2 zz s2 w2 r2 q2 => ?_
  obtain ⟨ds, e, da, q⟩ := dzs_of (.cons (r1.mono s2) (.cons r2 .nil)) q2
  cases da with
  | cons h1 h2 =>
    cases h2 with
    | cons h3 h4 =>
      cases h4
      rename_i x0 e0
      have q : xGget (Gd (1000 + j)) [x0, e0] (fun r => Q (.d r) c2) := q
      rw [hd] at q
      have q : ∃ kk : Str, keyD x0 = some (.inr kk) ∧ Q (.d ((dLk (kvs.map fun p => (.str p.1, p.2)) (.inr kk)).getD e0)) c2 := q
      obtain ⟨kk, ek, q⟩ := q
      have ey := dq_key h1 ek
      subst ey
      rw [dLk_str] at q
      have q : Q (.d ((sLk kvs kk).getD e0)) c2 := q
      rcases gk_in D hE kk with ⟨e1, e2⟩ | ⟨u, v, d', e1, e2, rv, dq⟩
      · refine ⟨kk, none, none, rfl, e1, trivial, ?_⟩
        rw [e2] at q
        exact k z P2 G2 H2 c2 (.d e0) (s1.trans s2) w2 h3 q
      · refine ⟨kk, some u, some v, rfl, e1, rv, ?_⟩
        rw [e2] at q
        exact k v P2 G2 H2 c2 (.d d') (s1.trans s2) w2 (dq_empty _ dq) q
theorem dq_strs {G : Hp} : ∀ kvs : List (Str × PyData), DqAll K G (kvs.map fun p => V.str p.1) (kvs.map fun p => PyData.str p.1)
  | [] => .nil
  | p :: r => .cons (.str p.1) (dq_strs r)
theorem imp_gkeys (hd : Gd (1000 + j) = strD kvs) (hz : kvs.length ≤ sizeLine) : Imp K (wExt Gd (.gkeys j) wNil) (tGkeys kvs) := fun B σ P G H Γ c Q R a0 w k => by
  have q : xGkeys (Gd (1000 + j)) [] (fun r => Q (.d r) c) := w
  rw [hd] at q
  unfold xGkeys strD at q
  intro p hp
  have s2 := Stp.new (o := .lst (kvs.map fun p => V.str p.1)) a0.wd hp
  refine k _ P _ _ c (.d _) s2 (a0.wd.new hp (by show (kvs.map fun p => V.str p.1).length ≤ _; rw [List.length_map]; exact hz)) (show Dq K _ _ _ from .lst upd_same (dq_strs kvs)) ?_
  have q : Q (.d (.list ((kvs.map fun p => (PyData.str p.1, p.2)).map (·.1)))) c := q
  rw [List.map_map] at q
  exact q
/-- dict.get -/
theorem imp_get1 {wa wi : WE} {ta ti : TE} (ha : Imp K wa ta) (hi : Imp K wi ti) : Imp K (wMt .get wa (wCons wi wNil)) (tDGet1 ta ti) := fun B σ P G H Γ c Q R a0 w k => by
  refine ha B σ P G H Γ c _ _ a0 w fun x P1 G1 H1 c1 zx s1 w1 r1 q1 => ?_
  obtain ⟨dx, ex, hm, q1⟩ := dv_of q1
  cases dx with
  | dict ds =>
    obtain ⟨ad, us, rfl, hk, hs, hst⟩ := dv_dict w1 r1 ex
    · refine ⟨_, rfl, .inl ⟨_, .inl hs⟩, ?_⟩
      refine hi B σ P1 G1 H1 Γ c1 _ _ (a0.step s1 w1) q1 fun y P2 G2 H2 c2 zy s2 w2 r2 q2 => ?_
      obtain ⟨vs, e, da, q⟩ := dzs_of (.cons r2 .nil) q2
      cases da with
      | cons h1 h2 =>
        cases h2
        rename_i x0
        have q : ∃ kk, keyD x0 = some kk ∧ Q (.d ((dLk ds kk).getD .none)) c2 := q
        obtain ⟨kk, ek, q⟩ := q
        have ey := dq_key h1 ek
        subst ey
        refine ⟨_, DGet.k (hst _ _ _ _ s2 w2), ?_⟩
        rcases dkv_look (k := kk) (dpk_mono s2.gg _ _ hk) with ⟨e1, e2⟩ | ⟨v, d, e1, e2, hv⟩
        · rw [e1]; rw [e2] at q
          exact k .non P2 G2 H2 c2 (.d .none) (s1.trans s2) w2 (show Dq K _ _ _ from .non) q
        · rw [e1]; rw [e2] at q
          exact k v P2 G2 H2 c2 (.d d) (s1.trans s2) w2 hv q
  | _ => exact hm.elim
theorem imp_get2 {wa wi wx : WE} {ta ti tx : TE} (ha : Imp K wa ta) (hi : Imp K wi ti) (hx : Imp K wx tx) : Imp K (wMt .get wa (wCons wi (wCons wx wNil))) (tDGet2 ta ti tx) := fun B σ P G H Γ c Q R a0 w k => by
  refine ha B σ P G H Γ c _ _ a0 w fun x P1 G1 H1 c1 zx s1 w1 r1 q1 => ?_
  obtain ⟨dx, ex, hm, q1⟩ := dv_of q1
  cases dx with
  | dict ds =>
    obtain ⟨ad, us, rfl, hk, hs, hst⟩ := dv_dict w1 r1 ex
    · refine ⟨_, rfl, .inl ⟨_, .inl hs⟩, ?_⟩
      refine hi B σ P1 G1 H1 Γ c1 _ _ (a0.step s1 w1) q1 fun y P2 G2 H2 c2 zy s2 w2 r2 q2 => ?_
      refine hx B σ P2 G2 H2 Γ c2 _ _ (a0.step (s1.trans s2) w2) q2 fun z P3 G3 H3 c3 zz s3 w3 r3 q3 => ?_
      obtain ⟨vs, e, da, q⟩ := dzs_of (.cons (r2.mono s3) (.cons r3 .nil)) q3
      cases da with
      | cons h1 h2 =>
        cases h2 with
        | cons h3 h4 =>
          cases h4
          rename_i x0 e0
          have q : ∃ kk, keyD x0 = some kk ∧ Q (.d ((dLk ds kk).getD e0)) c3 := q
          obtain ⟨kk, ek, q⟩ := q
          have ey := dq_key h1 ek
          subst ey
          have s23 := s2.trans s3
          refine ⟨_, DGet.k (hst _ _ _ _ s23 w3), ?_⟩
          rcases dkv_look (k := kk) (dpk_mono s23.gg _ _ hk) with ⟨e1, e2⟩ | ⟨v, d, e1, e2, hv⟩
          · rw [e1]; rw [e2] at q
            exact k z P3 G3 H3 c3 (.d e0) (s1.trans s23) w3 h3 q
          · rw [e1]; rw [e2] at q
            exact k v P3 G3 H3 c3 (.d d) (s1.trans s23) w3 hv q
  | _ => exact hm.elim
end
end Z
/-! ZH -/
set_option maxRecDepth 100000
/-! a, b, *rest = a tuple; a dict's display; [..] * n; upper -/
namespace Z
open PySem PySem.Spec PyProof.Rows L2
section
variable {prog : Program} {w : World} {A : Around} {E : Value → Shared → Prop} {s : Shared}
theorem star_items {l : Addr} {items : Array Value} {n : Nat} {Q : List Value → Shared → Prop} (hl : IsTup s.heap l items) (hh : A.handled = none) (hn : n ≤ items.size) (hz : items.size ≤ sizeLine)
    (h : ∀ (h' : Heap) (tk : Nat), (∀ b o, s.heap.get? b = some o → h'.get? b = some o) → Q (items.toList.take n ++ [.ref h'.objs.size]) { s with heap := h'.push { cls := .type "list", data := .seq (items.toList.drop n).toArray }, toks := tk }) :
    wpAny (model prog w) A (unpackItems (.ref l) (n + 1) (some n)) Q E s := by
  have hlt : l ≠ s.heap.objs.size := by obtain ⟨o, ho, _⟩ := hl; exact Nat.ne_of_lt (Heap.lt_size ho)
  unfold unpackItems
  refine wpAny_bind ?_
  unfold notIterableAtAll
  refine wpAny_bind (wpAny_specialOf hl.typeIs slot_tuple_iter.lookup ?_)
  refine wpAny_pure ?_
  simp only [Bool.false_eq_true, if_false]
  refine wpAny_bind (wpAny_holding (iter_tuple hl ?_))
  refine wpAny_bind (wpAny_holding (draw_tuple hlt n 0 _ _ ⟨_, Heap.get?_push_size _ rfl, rfl, rfl⟩ (hl.push _) (by omega) fun h1 hit1 hs1 => ?_))
  have hl1 : IsTup h1 l items := (hl.push _).extBut hs1.extBut hlt
  rw [Nat.zero_add] at hit1
  have hit1' := hit1
  obtain ⟨oi, hoi, _⟩ := hit1'
  have hl1' := hl1
  obtain ⟨ol, hol, _⟩ := hl1'
  rw [List.drop_zero]
  have hfl : (items.toList.take n).length = n := by rw [List.length_take, Array.length_toList]; omega
  rw [if_neg (show ¬ ((items.toList.take n).length < n) by rw [hfl]; omega)]
  refine wpAny_bind (wpAny_holding (PySem.W.kun_collect (s := { s with heap := h1 }) (T := "tuple_iterator") (.inr (.inr (.inr rfl))) (Walks.tuple (A := A.in1) hh s.heap.objs.size l hlt items) (fun j u st => st.1.typeIs) (k := n) hn ⟨hit1, hl1⟩ (Heap.lt_size hoi) (Heap.lt_size hol) (fun h2 tk hk => ?_) hz))
  show wpAny _ _ (if (items.toList.drop n).length < n + 1 - 1 - n then _ else _) _ _ _
  rw [if_neg (by omega)]
  show wpAny _ _ (newList ((items.toList.drop n).take ((items.toList.drop n).length - (n + 1 - 1 - n))) >>= fun d => pure (items.toList.take n ++ [d] ++ (items.toList.drop n).drop ((items.toList.drop n).length - (n + 1 - 1 - n)))) _ _ _
  have e0 : (items.toList.drop n).length - (n + 1 - 1 - n) = (items.toList.drop n).length := by omega
  rw [e0, List.take_length, List.drop_length]
  have he : ∀ b o, s.heap.get? b = some o → h2.get? b = some o := fun b o e => hk b o (Nat.ne_of_lt (Heap.lt_size e)) (hs1.extBut b o (Nat.ne_of_lt (Heap.lt_size e)) (Heap.get?_push_of_some _ e))
  exact wpAny_bind (wpAny_newList (wpAny_pure (by rw [List.append_nil]; exact h h2 tk he)) (by rw [List.length_drop, Array.length_toList]; omega))
end
section
variable {X : Cx} {pos : Pos}
def gStar (K : PySem.W.Frag) (n : Nat) (t : TGs) : TG := fun v σ H Q => ∃ a xs, v = .ref a ∧ SqT K H a xs ∧ n ≤ xs.length ∧ ∀ p, H p = none → t (xs.take n ++ [.ref p]) σ (upd H p (.lst (xs.drop n))) Q
theorem RelV_take {xs : List V} {us : List Value} (h : Vals xs us) : ∀ n : Nat, Vals (xs.take n) (us.take n) := fun n => by
  induction h generalizing n with
  | nil => cases n <;> exact .nil
  | cons r _ ih => cases n with
    | zero => exact .nil
    | succ n => exact .cons r (ih n)
theorem RelV_drop {xs : List V} {us : List Value} (h : Vals xs us) : ∀ n : Nat, Vals (xs.drop n) (us.drop n) := fun n => by
  induction h generalizing n with
  | nil => cases n <;> exact .nil
  | cons r q ih => cases n with
    | zero => exact .cons r q
    | succ n => exact ih n
theorem pg_star {es : List Expr} {k : Nat} {t : TGs} {n : Nat} (hc : X.calm = true) (h : PGs X es t) (hn : (assignEach es X.env).length = n + 1) (hst : (assignEach es X.env).findIdx? (·.1) = some n) : PG X (.Tuple es k pos) (gStar X.K n t) := by
  refine ⟨fun pins s σ H v u Q I r hw => ?_⟩
  obtain ⟨a, xs, e1, hq, hl, hw⟩ := hw
  subst e1
  cases r
  obtain ⟨its, rv, ht, hz⟩ := I.tuple hq
  rw [assign_Tuple]
  refine wpAny_bind (wpAny_standAt ?_)
  unfold unpack
  rw [hn, hst]
  have hlen := rv.length
  refine wpAny_bind (wpAny_holding (star_items ht (I.ok.hd hc) (by rw [List.size_toArray]; omega) (by rw [List.size_toArray]; omega) fun h' tk hk => ?_))
  have I1 : Inv X pins σ H { s with heap := h', toks := tk } := I.kept fun b o e => hk b o e
  have hf : H h'.objs.size = none := I1.hok.fresh (Nat.le_refl _)
  have I2 : Inv X pins σ (upd H h'.objs.size (.lst (xs.drop n))) { s with heap := h'.push { cls := .type "list", data := .seq (its.drop n).toArray }, toks := tk } :=
    I1.laid (t' := tk) (fun b u e => Heap.get?_push_of_some _ e) (Nat.le_refl _) ⟨by rw [List.length_drop]; omega, its.drop n, 0, RelV_drop rv n, Heap.get?_push_size _ rfl⟩
  exact h.run pins _ σ _ (xs.take n ++ [.ref h'.objs.size]) _ Q I2 ((RelV_take rv n).append (.cons (show RelV (V.ref h'.objs.size) (Value.ref h'.objs.size) from rfl) .nil)) (hw _ hf)
theorem pgs_starL {e : Expr} {p : Pos} {g : TG} (h : PG X e g) : PGs X [.Starred e p] (gCons g gNil) := by
  refine ⟨fun pins s σ H vs us Q I r hw => ?_⟩
  obtain ⟨v, vr, e1, hw⟩ := hw
  subst e1
  cases r with
  | cons r rr =>
    show wpAny _ _ (assignInOrder [assign e X.env] _) _ _ _
    refine assignInOrder_cons (thn (h.run pins s σ H _ _ _ I r hw) fun _ s1 ⟨σ1, H1, I1, q1⟩ => ?_)
    exact (pgs_nil (X := X)).run pins s1 σ1 H1 _ _ Q I1 rr q1
end
end Z
namespace Z
open PySem PySem.Spec PyProof.Rows L2
section
variable {K : PySem.W.Frag} {Gd : Nat → PyData}
theorem dqa_take {G : Hp} {vs : List V} {ds : List PyData} (h : DqAll K G vs ds) (n : Nat) : DqAll K G (vs.take n) (ds.take n) := L2.DqAll.take n h
/-- targets, then one for the rest -/
def ImpGsR (K : PySem.W.Frag) (ts : List Tg) (i : Nat) (g : TGs) : Prop :=
  ∀ (B : Bs) (σ : L2.St) (P : Addr → Prop) (G H : Hp) (Γ : Ga) (c : Nat) (vs : List V) (xs : List PyData) (v0 : V) (x0 : PyData) (Q : Ga → Prop) (R : L2.St → Hp → Prop), As K B P G H c Γ σ → DqAll K G vs xs → xs.length = ts.length → Dq K G v0 x0 →
    wTgs ts xs Γ (fun Γ' => Q (put Γ' i (some (.d x0)))) →
    (∀ σ' Γ' P' G' H', Stp P G H P' G' H' → As K B P' G' H' c Γ' σ' → Chg (tgsS ts ++ [i]) σ σ' → (NoOwn Γ → NoOwn Γ') → Q Γ' → R σ' H') → g (vs ++ [v0]) σ H R
theorem impgsr_nil (i : Nat) : ImpGsR K [] i (gCons (gName i) gNil) := fun B σ P G H Γ c vs xs v0 x0 Q R a r hl r0 w k => by
  cases xs with
  | cons _ _ => simp at hl
  | nil =>
    cases r
    refine ⟨_, _, rfl, ?_⟩
    refine impg_n i B σ P G H Γ c _ x0 Q _ a r0 (by unfold wTg; unfold wTgs at w; exact w) fun σ1 Γ1 P1 G1 H1 s1 a1 c1 n1 q1 => ?_
    exact ⟨rfl, k σ1 Γ1 P1 G1 H1 s1 a1 (by unfold tgS at c1; unfold tgsS; exact c1) n1 q1⟩
theorem impgsr_cons {t : Tg} {ts : List Tg} {i : Nat} {g : TG} {gs : TGs} (h1 : ImpG K (tgS t) (wTg t) g) (h2 : ImpGsR K ts i gs) : ImpGsR K (t :: ts) i (gCons g gs) := fun B σ P G H Γ c vs xs v0 x0 Q R a r hl r0 w k => by
  cases xs with
  | nil => simp at hl
  | cons x xs =>
    cases r with
    | cons r1 r2 =>
      have w : wTg t x Γ fun Γ' => wTgs ts xs Γ' fun Γ' => Q (put Γ' i (some (.d x0))) := by simpa [wTgs] using w
      refine ⟨_, _, rfl, h1 B σ P G H Γ c _ x _ _ a r1 w fun σ1 Γ1 P1 G1 H1 s1 a1 c1 n1 q1 => ?_⟩
      refine h2 B σ1 P1 G1 H1 Γ1 c _ xs v0 x0 Q R a1 (dpa_mono s1.gg _ _ r2) (by simpa using hl) (dp_mono s1.gg _ _ r0) q1 fun σ2 Γ2 P2 G2 H2 s2 a2 c2 n2 q2 => ?_
      exact k σ2 Γ2 P2 G2 H2 (s1.trans s2) a2 (by unfold tgsS; rw [List.append_assoc]; exact c1.trans c2) (fun n => n2 (n1 n)) q2
theorem impg_s {ts : List Tg} {i : Nat} {gs : TGs} (h : ImpGsR K ts i gs) : ImpG K (tgS (.s ts i)) (wTg (.s ts i)) (gStar K ts.length gs) := fun B σ P G H Γ c v x Q R a r w k => by
  unfold wTg at w
  split at w
  · rename_i xs
    cases r with
    | tup hs ha =>
      rename_i ad vs
      obtain ⟨hl, w⟩ := w
      have lv := ha.length
      have hsz := a.wd.tsz (sqt_mono a.wd.gh hs.t)
      refine ⟨_, _, rfl, sqt_mono a.wd.gh hs.t, by omega, fun p hp => ?_⟩
      have s1 := Stp.new (o := .lst (vs.drop ts.length)) a.wd hp
      have w1 : Wd P (upd G p (.lst (vs.drop ts.length))) (upd H p (.lst (vs.drop ts.length))) c := a.wd.new hp (by show (vs.drop ts.length).length ≤ _; rw [List.length_drop]; omega)
      have ha1 := dpa_mono s1.gg _ _ ha
      refine h B σ P _ _ Γ c _ (xs.take ts.length) (.ref p) (.list (xs.drop ts.length)) Q R (a.step s1 w1) (L2.DqAll.take _ ha1) (by rw [List.length_take]; omega) (.lst upd_same (L2.DqAll.drop _ ha1)) w fun σ' Γ' P' G' H' s2 a2 c2 n2 q2 => ?_
      exact k σ' Γ' P' G' H' (s1.trans s2) a2 (by unfold tgS; exact c2) n2 q2
  · exact w.elim
/-! ### displays of dicts -/
def tAll : List TE → TA
  | [] => tNil
  | t :: ts => tCons t (tAll ts)
def trsOf (ks : List Key) (ts : List TE) : List (TE × TE) := (ks.map fun k => tC (kV k)).zip ts
theorem tPairs_eq (σ : L2.St) : ∀ (ks : List Key) (ts : List TE), ks.length = ts.length → ∀ (H : Hp) (Q : List (V × V) → Hp → Prop), tPairs (trsOf ks ts) σ H Q = tAll ts σ H (fun vs H' => Q ((ks.map kV).zip vs) H')
  | [], [], _, H, Q => rfl
  | [], _ :: _, e, _, _ => by simp at e
  | _ :: _, [], e, _, _ => by simp at e
  | k :: ks, t :: ts, e, H, Q => by
    show (t σ H fun y H2 => tPairs (trsOf ks ts) σ H2 fun ps H3 => Q ((kV k, y) :: ps) H3) = t σ H fun y H2 => tAll ts σ H2 fun vs H' => Q ((kV k, y) :: (ks.map kV).zip vs) H'
    exact congrArg (t σ H) (funext fun y => funext fun H2 => tPairs_eq σ ks ts (by simpa using e) H2 _)
theorem putK_fresh {α : Type} {kvs : List (Key × α)} : True := trivial
theorem mergeK_nodup : ∀ (more acc : List (Key × V)), ((acc ++ more).map (·.1)).Nodup → mergeK acc more = acc ++ more
  | [], acc, _ => by rw [List.append_nil]; rfl
  | p :: more, acc, h => by
    have hn : valV acc p.1 = none := by
      cases e : valV acc p.1 with
      | none => rfl
      | some v =>
        have := valV_in e
        rw [List.map_append, List.nodup_append] at h
        exact absurd rfl (h.2.2 _ this _ (by simp))
    have e : mergeK acc (p :: more) = mergeK (putK acc p.1 p.2) more := rfl
    rw [e, putK_new _ hn, mergeK_nodup more (acc ++ [(p.1, p.2)]) (by rw [List.append_assoc]; exact h), List.append_assoc]
    rfl
theorem dkv_zip {G : Hp} : ∀ {ks : List Key} {vs : List V} {ds : List PyData}, ks.length = ds.length → DqAll K G vs ds → DqKV K G (ks.zip vs) ((ks.map kD).zip ds)
  | [], _, [], _, .nil => .nil
  | [], _, _ :: _, h, _ => by simp at h
  | _ :: _, _, [], h, _ => by simp at h
  | k :: ks, _, d :: ds, h, .cons h1 h2 => .cons h1 (dkv_zip (by simpa using h) h2)
theorem imp_dsp {ks : List Key} {ws : WA} {ts : List TE} (hl : ks.length = ts.length) (h15 : ks.length ≤ 15) (hA : ImpA K ws (tAll ts)) : Imp K (wExt Gd (.dsp ks) ws) (tDisp (trsOf ks ts)) := fun B σ P G H Γ c Q R a w k => by
  intro p hp
  rw [tPairs_eq σ ks ts hl]
  have s1 := Stp.newH (o := .dK []) a.wd hp
  have w1 := a.wd.newH (o := .dK []) hp trivial
  have o1 : Ob P G (upd H p (.dK [])) p (.dK []) := Ob.new a.wd hp
  refine hA B σ P G _ Γ c _ _ (a.step s1 w1) w fun vs P2 G2 H2 c2 zs s2 w2 r2 q2 => ?_
  obtain ⟨ds, e, da, q⟩ := dzs_of r2 q2
  have q : ks.length = ds.length ∧ ks.Nodup ∧ Q (.d (.dict ((ks.map kD).zip ds))) c2 := q
  obtain ⟨hd, nd, q⟩ := q
  have lv := da.length
  have o2 := o1.step s2
  have o3 : Ob P2 G2 (upd H2 p (.dK (ks.zip vs))) p (.dK (ks.zip vs)) := o2.chg
  have w3 : Wd P2 G2 (upd H2 p (.dK (ks.zip vs))) c2 := w2.chg o2 trivial
  have hk1 : (ks.zip vs).map (·.1) = ks := by
    rw [List.map_fst_zip]
    omega
  have em : mergeK [] (ks.zip vs) = ks.zip vs := by
    rw [mergeK_nodup _ [] (by rw [List.nil_append, hk1]; exact nd)]
    rfl
  refine ⟨o2.h, ks.zip vs, ?_, by rw [List.length_zip]; omega, ?_⟩
  · clear k q q2 r2 em hk1 w3 o3 o2 da hd nd w2 s2 o1 w1 s1
    have key : ∀ (ks : List Key) (vs : List V), (ks.map kV).zip vs = (ks.zip vs).map fun kv => (kV kv.1, kv.2) := fun ks => by
      induction ks with
      | nil => intro vs; rfl
      | cons k ks ih => intro vs; cases vs with
        | nil => rfl
        | cons v vs => exact congrArg ((kV k, v) :: ·) (ih vs)
    exact key ks vs
  · rw [em]
    have st := ((s1.trans s2).chg hp o2 (o' := .dK (ks.zip vs))).still hp o3
    have w4 := w3.still o3
    refine k (.ref p) P2 (upd G2 p (.dK (ks.zip vs))) _ c2 (.d _) st w4 (show Dq K _ _ _ from .dic upd_same ?_) q
    refine dkv_zip hd (dpa_mono (fun b o h => ?_) _ _ da)
    have e : b ≠ p := fun z => by subst z; rw [o2.g] at h; cases h
    rw [upd_ne e]
    exact h
theorem imp_dsp0 : Imp K (wExt Gd (.dsp []) wNil) tDNewK := fun B σ P G H Γ c Q R a w k => by
  intro p hp
  have q : ([] : List Key).length = ([] : List PyData).length ∧ ([] : List Key).Nodup ∧ Q (.d (.dict [])) c := w
  have s1 := Stp.new (o := .dK []) a.wd hp
  exact k (.ref p) P _ _ c (.d _) s1 (a.wd.new hp trivial) (show Dq K _ _ _ from .dic upd_same .nil) q.2.2
/-- [..] * n -/
theorem imp_repl {wa : WA} {ta : TA} {wb : WE} {tb : TE} (ha : ImpA K wa ta) (hb : Imp K wb tb) : Imp K (wExt Gd .repl (wCons (wLst wa) (wCons wb wNil))) (tOp rRep (tLst ta) tb) := fun B σ P G H Γ c Q R a w k => by
  have w : wa Γ c fun zs c1 => dzs zs fun ds => ds.length ≤ sizeLine ∧ wb Γ c1 fun y c2 => dvs [.d (.list ds), y] fun xs => xRepl xs fun r => Q (.d r) c2 := w
  refine ha B σ P G H Γ c _ _ a w fun vs P1 G1 H1 c1 zs s1 w1 r1 q1 => ?_
  obtain ⟨ds, e, da, hz, q⟩ := dzs_of r1 q1
  have lv := da.length
  refine ⟨by omega, fun p hp => ?_⟩
  have s2 := Stp.new (o := .lst vs) w1 hp
  have w2 : Wd P1 (upd G1 p (.lst vs)) (upd H1 p (.lst vs)) c1 := w1.new hp (by show vs.length ≤ _; omega)
  have s12 := s1.trans s2
  refine hb B σ P1 _ _ Γ c1 _ _ (a.step s12 w2) q fun y P3 G3 H3 c3 zy s3 w3 r3 q3 => ?_
  have dl : Dq K (upd G1 p (.lst vs)) (.ref p) (.list ds) := .lst upd_same (dpa_mono s2.gg _ _ da)
  have rl : ZR K P3 G3 H3 B.H (.d (.list ds)) (.ref p) := dp_mono s3.gg _ _ dl
  obtain ⟨xs, q, ex⟩ := dvs_of (B := B) (.cons rl (.cons r3 .nil)) q3
  unfold xRepl at q
  split at q
  · rename_i xs0 kk
    obtain ⟨z1, z2, v1, v2, hz1, hv1, r, r', e1, e2⟩ := zrs2 (.cons rl (.cons r3 .nil)) ex
    cases hz1
    cases hv1
    cases e1
    obtain ⟨⟨h1, h2, h3⟩, q⟩ := q
    have ey := zr_int w3 r' e2
    subst ey
    refine ⟨p, kk, vs, rfl, rfl, w3.gh _ _ (s3.gg _ _ upd_same), h1, h2, by rw [lv]; exact h3, fun p4 hp4 => ?_⟩
    have s4 := Stp.new (o := .lst (List.replicate kk.toNat vs).flatten) w3 hp4
    refine k (.ref p4) P3 _ _ c3 (.d _) ((s12.trans s3).trans s4) (w3.new hp4 (by show (List.replicate kk.toNat vs).flatten.length ≤ _; rw [rep_len, lv, Nat.mul_comm]; exact h3)) (show Dq K _ _ _ from .lst upd_same ?_) q
    have d3 : DqAll K G3 vs ds := dpa_mono s3.gg _ _ (dpa_mono s2.gg _ _ da)
    exact DqAll.rep (dpa_mono s4.gg _ _ d3) _
  · exact q.elim
/-- upper -/
def rUp : V → List V → Hp → VK → Prop := fun x xs H Q => ∃ a, x = .str a ∧ xs = [] ∧ a.length ≤ 5592405 ∧ Q (.str (Txt.upper a)) H
theorem imp_upper {wa : WE} {ta : TE} (ha : Imp K wa ta) : Imp K (wExt Gd .upper (wCons wa wNil)) (tBM0 K "str" rUp ta) := fun B σ P G H Γ c Q R a w k => by
  refine ha B σ P G H Γ c _ _ a w fun x P1 G1 H1 c1 zx s1 w1 r1 q1 => ?_
  obtain ⟨ds, q, e⟩ := dvs_of (B := B) (.cons r1 .nil) q1
  have q : xUp ds (fun r => Q (.d r) c1) := q
  unfold xUp at q
  split at q
  · obtain ⟨z, v, hz, hv, r, ez⟩ := zrs1 (.cons r1 .nil) e
    cases hz
    cases hv
    have ex := zr_str w1 r ez
    subst ex
    exact ⟨rfl, _, rfl, rfl, q.1, k _ P1 G1 H1 c1 (.d _) s1 w1 (show Dq K _ _ _ from .str _) q.2⟩
  · exact q.elim
/-- list(range(n)) -/
theorem dq_ints0 {K : PySem.W.Frag} {G : Hp} (a : Int) : ∀ l : List Nat, DqAll K G (l.map fun i => V.int (a + (i : Nat))) (l.map fun i => PyData.int (a + (i : Nat)))
  | [] => .nil
  | i :: r => .cons (.int _) (dq_ints0 a r)
theorem imp_lrng {wa : WE} {ta : TE} (ha : Imp K wa ta) : Imp K (wExt Gd .lrng (wCons wa wNil)) (tLstRg (tRg1 ta)) := fun B σ P G H Γ c Q R a w k => by
  refine ha B σ P G H Γ c _ _ a w fun x P1 G1 H1 c1 zx s1 w1 r1 q1 => ?_
  obtain ⟨ds, q, e⟩ := dvs_of (B := B) (.cons r1 .nil) q1
  have q : xLrng ds (fun r => Q (.d r) c1) := q
  unfold xLrng at q
  split at q
  · rename_i j q0
    obtain ⟨z, v, hz, hv, r, ez⟩ := zrs1 (.cons r1 .nil) e
    cases hz
    cases hv
    have ex := zr_int w1 r ez
    subst ex
    obtain ⟨⟨h1, h2⟩, q⟩ := q
    refine ⟨j, rfl, ⟨by omega, by omega, by omega, by omega, by omega⟩, fun p hp => ?_⟩
    have s2 := Stp.new (o := .lst (rgV 0 j)) w1 hp
    exact k _ P1 _ _ c1 (.d _) (s1.trans s2) (w1.new hp (by show (rgV 0 j).length ≤ _; rw [rgV_length, sizeLine_eq]; omega)) (show Dq K _ _ _ from .lst upd_same (dq_ints0 0 _)) q
  · exact q.elim
end
end Z
/-! ZR -/
set_option maxRecDepth 100000
/-! t[::-1] of a tuple -/
namespace Z
open PySem PySem.Spec PyProof.Rows L2 HT
section
variable {prog : Program} {w : World} {A : Around} {E : Value → Shared → Prop} {s : Shared}
theorem adjust_rev (n : Nat) : Builtin.Slice.sliceAdjust none none (-1) (n : Int) = ((n : Int) - 1, -1) := by
  unfold Builtin.Slice.sliceAdjust
  simp
theorem places_rev (n : Nat) : Builtin.Slice.slicePlaces ((n : Int) - 1) (-1) (-1) = n := by
  unfold Builtin.Slice.slicePlaces
  have h1 : ¬ ((-1 : Int) > 0) := by omega
  simp only [h1, if_false]
  have e : ((n : Int) - 1 - -1 - 1) / (- -1) = (n : Int) - 1 := by
    rw [show (- -1 : Int) = 1 by rfl, Int.ediv_one]
    omega
  rw [e]
  split <;> omega
theorem sliceApplied_rev {sl : Addr} {vl vu vs : Value} {n : Nat} {Q : Int × Int × Nat → Shared → Prop} (hs : s.heap.IsSliceOf sl vl vu vs) (pl : IsPart vl none) (pu : IsPart vu none) (ps : IsPart vs (some (-1)))
    (h : Q ((n : Int) - 1, -1, n) s) : wpAny (model prog w) A (Builtin.Slice.sliceApplied (.ref sl) (pure (n : Int))) Q E s := by
  obtain ⟨os, hos, hcs, hds⟩ := id hs
  unfold Builtin.Slice.sliceApplied Builtin.Slice.sliceFields
  refine wpAny_bind (wpAny_bind (wpAny_field hos hds (x := vl) rfl (wpAny_bind (wpAny_field hos hds (x := vu) rfl (wpAny_bind (wpAny_field hos hds (x := vs) rfl (wpAny_pure ?_)))))))
  refine wpAny_bind (slicePart_ ps ?_)
  show wpAny _ _ (if ((-1 : Int) == 0) = true then _ else _) _ _ s
  rw [if_neg (by decide)]
  refine wpAny_bind (slicePart_ pl (wpAny_bind (slicePart_ pu (wpAny_bind (wpAny_pure ?_)))))
  show wpAny _ _ (match Builtin.Slice.sliceAdjust none none (-1) (n : Int) with | (lo, hi) => pure (lo, (-1 : Int), Builtin.Slice.slicePlaces lo hi (-1))) _ _ s
  rw [adjust_rev n]
  show wpAny _ _ (pure ((n : Int) - 1, (-1 : Int), Builtin.Slice.slicePlaces ((n : Int) - 1) (-1) (-1))) _ _ s
  rw [places_rev]
  exact wpAny_pure h
theorem fm_congr {α β : Type} {f g : α → Option β} : ∀ {l : List α}, (∀ x ∈ l, f x = g x) → l.filterMap f = l.filterMap g
  | [], _ => rfl
  | x :: l, h => by
    rw [List.filterMap_cons, List.filterMap_cons, h x (by simp), fm_congr fun y hy => h y (by simp [hy])]
theorem pick_rev (xs : Array Value) : ((List.range xs.size).filterMap fun (k : Nat) => xs[((xs.size : Int) - 1 + (k : Int) * (-1)).toNat]?).toArray = xs.toList.reverse.toArray := by
  have h := pick_gen xs.toList.reverse.toArray 0 xs.size
  have e1 : ((xs.toList.reverse.toArray.toList.drop 0).take xs.size) = xs.toList.reverse := by
    rw [List.drop_zero, List.take_of_length_le (by simp)]
  rw [e1] at h
  rw [← h]
  congr 1
  refine fm_congr fun k hk => ?_
  have hk := List.mem_range.mp hk
  have e2 : (((0 : Nat) : Int) + (k : Int) * 1).toNat = k := by omega
  have e3 : ((xs.size : Int) - 1 + (k : Int) * (-1)).toNat = xs.size - 1 - k := by omega
  rw [e2, e3]
  have e4 : xs.toList.reverse.toArray[k]? = xs.toList.reverse[k]? := by simp
  rw [e4, List.getElem?_reverse (by simpa using hk), Array.length_toList, Array.getElem?_toList]
theorem getItem_tuple_rev {t sl : Addr} {items : Array Value} {vl vu vs : Value} {Q : Value → Shared → Prop} (ht : IsTup s.heap t items) (hs : s.heap.IsSliceOf sl vl vu vs) (pl : IsPart vl none) (pu : IsPart vu none) (ps : IsPart vs (some (-1)))
    (h : Q (.ref s.heap.objs.size) { s with heap := s.heap.push { cls := .type "tuple", data := .seq items.toList.reverse.toArray } })
    (hsz : items.size ≤ sizeLine) : wpAny (model prog w) A (getItem (.ref t) (.ref sl)) Q E s := by
  have htake : sizeOk (.seq items.toList.reverse.toArray) := by
    show items.toList.reverse.toArray.size ≤ sizeLine
    rw [List.size_toArray, List.length_reverse, Array.length_toList]
    exact hsz
  obtain ⟨os, hos, hcs, hds⟩ := id hs
  have hTs : s.TypeIs (.ref sl) "slice" := ⟨os, hos, hcs⟩
  unfold getItem
  try with_reducible refine wpAny_holding ?_
  first | refine wpAny_bind (wpAny_pure ?_) | skip
  refine wpAny_bind (wpAny_sequenceKey ht.typeIs (by decide) ?_)
  refine wpAny_bind (wpAny_callSpecial?_slot (name := Str.ofString "__getitem__") ht.typeIs PyProof.Rows.slot_tuple_getitem
    (wpAny_call_entry PyProof.Rows.slot_tuple_getitem ht.typeIs entry_tuple_getitem ?_ (args_tuple_getitem _ _)))
  show wpAny _ _ (Builtin.Tuple.tupleItemsOf (.ref t) >>= _) _ _ s
  refine wpAny_bind (tupleItemsOf_ ht ?_)
  refine wpAny_bind (wpAny_typeOf hTs ?_)
  rw [if_pos (by decide)]
  refine wpAny_bind (sliceApplied_rev hs pl pu ps ?_)
  have hno : ¬ (((items.size : Int) - 1 == 0 && (-1 : Int) == 1 && items.size == items.size) = true) := by
    intro q
    rw [Bool.and_eq_true, Bool.and_eq_true] at q
    exact absurd q.1.2 (by decide)
  show wpAny _ _ (if ((items.size : Int) - 1 == 0 && (-1 : Int) == 1 && items.size == items.size) = true then _ else _) _ _ s
  rw [if_neg hno, pick_rev]
  first
    | exact wpAny_bind (m := Builtin.Tuple.tupleExact _) (wpAny_newObj_type (wpAny_pure ⟨_, rfl, wpAny_pure h⟩) htake)
    | exact wpAny_bind (m := Builtin.Tuple.tupleExact _) (wpAny_newObj_type (wpAny_bind (wpAny_pure (wpAny_pure ⟨_, rfl, wpAny_pure h⟩))) htake)
    | exact wpAny_bind (wpAny_bind (m := Builtin.Tuple.tupleExact _) (wpAny_newObj_type (wpAny_pure (wpAny_pure ⟨_, rfl, wpAny_pure h⟩)) htake))
    | exact wpAny_bind (wpAny_bind (m := Builtin.Tuple.tupleExact _) (wpAny_newObj_type (wpAny_pure ⟨_, rfl, wpAny_pure h⟩) htake))
end
section
variable {X : Cx}
def tRev (K : PySem.W.Frag) (te : TE) : TE := fun σ H Q => te σ H fun x H1 => (∃ a xs, x = .ref a ∧ SqL K H1 a xs ∧ ∀ p, H1 p = none → Q (.ref p) (upd H1 p (.lst xs.reverse))) ∨ (∃ a xs, x = .ref a ∧ SqT K H1 a xs ∧ ∀ p o, H1 p = none → o.dict = none → Q (.ref p) (upd H1 p (.frz o (.tup xs.reverse))))
theorem pe_rev {e : Expr} {te : TE} {k : Nat} {p1 p2 p3 pos : Pos} (he : PE X e te) : PE X (.Subscript e (.Slice none none (some (.UnaryOp .USub (.Constant (.int 1) k p1) p2)) p3) pos) (tRev X.K te) := by
  refine ⟨fun pins s σ H Q I h => ?_⟩
  refine Subscript_ (thn (he.run pins s σ H _ I h) fun v s1 ⟨x, H1, I1, r1, q1⟩ => ?_)
  have hst : PO X (some (.UnaryOp .USub (.Constant (.int 1) k p1) p2)) (tPart (tUn (rU fun i => .int (-i)) (tC (.int 1)))) := po_some (pe_un un_neg pe_int)
  refine wpAny_Slice (thn (po_none.run pins s1 σ H1 (fun o H2 => o = none ∧ H2 = H1) I1 ⟨rfl, rfl⟩) fun vl s2 ⟨l, H2, I2, pl, el, e2⟩ => ?_)
  subst el e2
  refine thn (po_none.run pins s2 σ H2 (fun o H3 => o = none ∧ H3 = H2) I2 ⟨rfl, rfl⟩) fun vu s3 ⟨u, H3, I3, pu, eu, e3⟩ => ?_
  subst eu e3
  refine thn (hst.run pins s3 σ H3 (fun o H4 => o = some (-1) ∧ H4 = H3) I3 ⟨1, rfl, -1, rfl, rfl, rfl⟩) fun vs s4 ⟨o, H4, I4, ps, eo, e4⟩ => ?_
  subst eo e4
  have I5 : Inv X pins σ H4 { s4 with heap := s4.heap.push { cls := .type "slice", data := .fields #[vl, vu, vs] } } := I4.kept (t' := s4.toks) fun b ob q => Heap.get?_push_of_some _ q
  rcases q1 with ⟨a, xs, ex, hx, q⟩ | ⟨a, xs, ex, hx, q⟩
  · subst ex
    cases r1
    obtain ⟨its, r, ht, hz⟩ := I5.list hx
    have hlen := r.length
    show wpAny (model X.prog X.w) X.A (subscriptTail e (.Slice none none (some (.UnaryOp .USub (.Constant (.int 1) k p1) p2)) p3) (.ref a) (.ref s4.heap.objs.size)) (EP X pins σ Q) X.xe { s4 with heap := s4.heap.push { cls := .type "slice", data := .fields #[vl, vu, vs] } }
    refine tail_any (ops := [.ref a, .ref s4.heap.objs.size]) ht.isList.typeIs (PySem.slot_list_getitem.lookup) ?_ (by with_unfolding_all rfl)
    refine wpAny_getItem_list_slice ht.isList (Heap.IsSliceOf.new _ vl vu vs) pl pu ps (by decide) ?_ (by rw [List.size_toArray]; omega)
    rw [PySem.W.krv_pick]
    refine ⟨.ref _, _, I5.laid (t' := s4.toks) (o := .lst xs.reverse) (fun b ob q => Heap.get?_push_of_some _ q) (Nat.le_refl _) ?_, rfl, q _ (I5.hok.fresh (Nat.le_refl _))⟩
    exact ⟨by rw [List.length_reverse]; exact hz, _, 0, r.reverse, Heap.get?_push_size _ rfl⟩
  · subst ex
    cases r1
    obtain ⟨its, r, ht, hz⟩ := I5.tuple hx
    have hlen := r.length
    show wpAny (model X.prog X.w) X.A (subscriptTail e (.Slice none none (some (.UnaryOp .USub (.Constant (.int 1) k p1) p2)) p3) (.ref a) (.ref s4.heap.objs.size)) (EP X pins σ Q) X.xe { s4 with heap := s4.heap.push { cls := .type "slice", data := .fields #[vl, vu, vs] } }
    refine tail_any (ops := [.ref a, .ref s4.heap.objs.size]) ht.typeIs (PyProof.Rows.slot_tuple_getitem.lookup) ?_ (by with_unfolding_all rfl)
    refine getItem_tuple_rev ht (Heap.IsSliceOf.new _ vl vu vs) pl pu ps ?_ (by rw [List.size_toArray]; omega)
    refine ⟨.ref _, _, I5.laid (t' := s4.toks) (o := .frz (tObj its.reverse) (.tup xs.reverse)) (fun b ob q => Heap.get?_push_of_some _ q) (Nat.le_refl _) ?_, rfl, q _ _ (I5.hok.fresh (Nat.le_refl _)) rfl⟩
    exact ⟨Heap.get?_push_size _ rfl, by rw [List.length_reverse]; exact hz, _, r.reverse, IsTup.new _ _⟩
end
section
variable {K : PySem.W.Frag} {Gd : Nat → PyData}
theorem dqa_rvs {G : Hp} : ∀ {vs : List V} {ds : List PyData}, DqAll K G vs ds → DqAll K G vs.reverse ds.reverse
  | _, _, .nil => .nil
  | _, _, .cons h1 h2 => by
    rw [List.reverse_cons, List.reverse_cons]
    exact (dqa_rvs h2).append (.cons h1 .nil)
theorem imp_rev {wa : WE} {ta : TE} (ha : Imp K wa ta) : Imp K (wExt Gd .rev (wCons wa wNil)) (tRev K ta) := fun B σ P G H Γ c Q R a w k => by
  refine ha B σ P G H Γ c _ _ a w fun x P1 G1 H1 c1 zx s1 w1 r1 q1 => ?_
  obtain ⟨ds, q, e⟩ := dvs_of (B := B) (.cons r1 .nil) q1
  have q : xRev ds (fun r => Q (.d r) c1) := q
  unfold xRev at q
  split at q
  · obtain ⟨z, v, hz, hv, r, ex⟩ := zrs1 (.cons r1 .nil) e
    cases hz
    cases hv
    obtain ⟨hl, q⟩ := q
    obtain ⟨l, us, rfl, hs, da⟩ := r.lst w1 ex
    refine .inl ⟨l, us, rfl, hs, fun p hp => ?_⟩
    have s2 := Stp.new (o := .lst us.reverse) w1 hp
    exact k _ P1 _ _ c1 (.d _) (s1.trans s2) (w1.new hp (by show us.reverse.length ≤ _; rw [List.length_reverse, da.length]; exact hl)) (show Dq K _ _ _ from .lst upd_same (dpa_mono s2.gg _ _ (dqa_rvs da))) q
  · obtain ⟨z, v, hz, hv, r, ex⟩ := zrs1 (.cons r1 .nil) e
    cases hz
    cases hv
    obtain ⟨hl, q⟩ := q
    obtain ⟨l, us, rfl, hs, gs, da⟩ := r.tup w1 ex
    refine .inr ⟨l, us, rfl, hs, fun p o hp ho => ?_⟩
    have s2 := Stp.new (o := .frz o (.tup us.reverse)) w1 hp
    exact k _ P1 _ _ c1 (.d _) (s1.trans s2) (w1.new hp (by show us.reverse.length ≤ _; rw [List.length_reverse, da.length]; exact hl)) (show Dq K _ _ _ from .tup (SqN.of ho) (dpa_mono s2.gg _ _ (dqa_rvs da))) q
  · exact q.elim
end
end Z
/-! ZU -/
set_option maxRecDepth 100000
/-! d.update(d2) -/
namespace Z
open PySem PySem.Spec PyProof.Rows L2
def rUpd : V → List V → Hp → VK → Prop := fun x vs H Q => ∃ a b kvs more, x = .ref a ∧ vs = [.ref b] ∧ a ≠ b ∧ H a = some (.dK kvs) ∧ H b = some (.dK more) ∧ kvs.length + more.length ≤ sizeLine ∧ Q .non (upd H a (.dK (mergeK kvs more)))
section
variable {X : Cx}
theorem mt_update : MtR X "dict.update" rUpd := by
  intro pins s σ H x vs v us Q I rx rv h
  obtain ⟨a, b, kvs, more, rfl, rfl, ne, hA, hB, hz, q⟩ := h
  cases rx
  obtain ⟨u, rfl, ru⟩ := rv.one
  cases ru
  obtain ⟨za, da, va, ra, dda⟩ := dk_of I.hok hA
  obtain ⟨zb, db, vb, rb, ddb⟩ := dk_of I.hok hB
  refine call_meetsIn PySem.F.slot_dict_update dda.typeIs PySem.F.entry_dict_update (PySem.F.args_dict_update_2 _ _) (meets_dict_update (mixKind X.prog X.w) a b ne db) ⟨va, vb, dda, ddb, by rw [← ra.length, ← rb.length]; exact hz, fun h' dd' _ hs => ?_⟩
  have he : ∃ q, h'.get? a = some q := let ⟨q, _, _, hq, _⟩ := dd'; ⟨q, hq⟩
  have hl : (mergeK kvs more).length ≤ sizeLine := Nat.le_trans (length_mergeK more kvs) hz
  exact ⟨.non, _, d_write (t' := s.toks) I (by rw [hA]; exact True.intro) hs he (dk_new hl da (KV.merge rb ra) dd'), rfl, q⟩
end
end Z
/-! ZV -/
set_option maxRecDepth 100000
/-! dicts and lists of one's own: made, written -/
namespace Z
open PySem PySem.Spec PyProof.Rows L2
section
variable {K : PySem.W.Frag} {Gd : Nat → PyData}
theorem dkv_len {G : Hp} : ∀ {us : List (Key × V)} {kvs : List (PyData × PyData)}, DqKV K G us kvs → us.length = kvs.length
  | _, _, .nil => rfl
  | _, _, .cons _ t => by simp [dkv_len t]
theorem dkv_any {G : Hp} (k : Key) : ∀ {us : List (Key × V)} {kvs : List (PyData × PyData)}, DqKV K G us kvs → (us.any fun kv => decide (kv.1 = k)) = kvs.any fun kv => decide (keyD kv.1 = some k)
  | _, _, .nil => rfl
  | _, _, .cons (k := k1) _ t => by
    rw [List.any_cons, List.any_cons, dkv_any k t]
    congr 1
    show decide (k1 = k) = decide (keyD (kD k1) = some k)
    rw [keyD_kD]
    exact decide_eq_decide.mpr ⟨fun e => by rw [e], fun e => Option.some.inj e⟩
theorem dkv_map {G : Hp} (k : Key) {v : V} {d : PyData} (h : Dq K G v d) : ∀ {us : List (Key × V)} {kvs : List (PyData × PyData)}, DqKV K G us kvs → DqKV K G (us.map fun kv => if kv.1 = k then (kv.1, v) else kv) (kvs.map fun kv => if keyD kv.1 = some k then (kv.1, d) else kv)
  | _, _, .nil => .nil
  | _, _, .cons (k := k1) h1 t => by
    rw [List.map_cons, List.map_cons]
    by_cases e : k1 = k
    · rw [if_pos e, if_pos (by rw [keyD_kD, e])]
      exact .cons h (dkv_map k h t)
    · rw [if_neg e, if_neg (by rw [keyD_kD]; exact fun q => e (Option.some.inj q))]
      exact .cons h1 (dkv_map k h t)
theorem dkv_app {G : Hp} : ∀ {us ws : List (Key × V)} {kvs ls : List (PyData × PyData)}, DqKV K G us kvs → DqKV K G ws ls → DqKV K G (us ++ ws) (kvs ++ ls)
  | _, _, _, _, .nil, h => h
  | _, _, _, _, .cons h1 t, h => .cons h1 (dkv_app t h)
theorem dkv_put {G : Hp} {us : List (Key × V)} {kvs : List (PyData × PyData)} (r : DqKV K G us kvs) (k : Key) {v : V} {d : PyData} (h : Dq K G v d) : DqKV K G (putK us k v) (dPut kvs k d) := by
  unfold putK dPut
  rw [dkv_any k r]
  split
  · exact dkv_map k h r
  · exact dkv_app r (.cons h .nil)
theorem dkv_mrg {G : Hp} : ∀ {more : List (Key × V)} {ml : List (PyData × PyData)}, DqKV K G more ml → ∀ {us : List (Key × V)} {kvs res : List (PyData × PyData)}, DqKV K G us kvs → dMrg kvs ml = some res → DqKV K G (mergeK us more) res
  | _, _, .nil, us, kvs, res, r, e => by
    cases e
    exact r
  | (k, v) :: more, _, .cons (d := d) (ds := ds) h t, us, kvs, res, r, e => by
    have e : dMrg kvs ((kD k, d) :: ds) = some res := e
    unfold dMrg at e
    rw [keyD_kD] at e
    exact dkv_mrg t (dkv_put r k h) e
/-- x = {..} -/
theorem impS_newd {ks : List Key} {ws : WA} {ts : List TE} (i : Nat) (hl : ks.length = ts.length) (h15 : ks.length ≤ 15) (hA : ImpA K ws (tAll ts)) : ImpS K (fun Γ c R => ws Γ c fun zs c1 => dzs zs fun ds => (ks.length = ds.length ∧ ks.Nodup) ∧ R.nx (putZ Γ i (.od ((ks.map kD).zip ds))) c1) (tAsg (tDisp (trsOf ks ts)) (gName i)) := fun B σ P G H Γ c R D a w k => by
  intro p hp
  rw [tPairs_eq σ ks ts hl]
  have s1 := Stp.newH (o := .dK []) a.wd hp
  have w1 := a.wd.newH (o := .dK []) hp trivial
  have o1 : Ob P G (upd H p (.dK [])) p (.dK []) := Ob.new a.wd hp
  refine hA B σ P G _ Γ c _ _ (a.step s1 w1) w fun vs P2 G2 H2 c2 zs s2 w2 r2 q2 => ?_
  obtain ⟨ds, e, da, q⟩ := dzs_of r2 q2
  obtain ⟨⟨hd, nd⟩, q⟩ := q
  have lv := da.length
  have o2 := o1.step s2
  have o3 : Ob P2 G2 (upd H2 p (.dK (ks.zip vs))) p (.dK (ks.zip vs)) := o2.chg
  have w3 : Wd P2 G2 (upd H2 p (.dK (ks.zip vs))) c2 := w2.chg o2 trivial
  have hk1 : (ks.zip vs).map (·.1) = ks := by
    rw [List.map_fst_zip]
    omega
  have em : mergeK [] (ks.zip vs) = ks.zip vs := by
    rw [mergeK_nodup _ [] (by rw [List.nil_append, hk1]; exact nd)]
    rfl
  refine ⟨o2.h, ks.zip vs, ?_, by rw [List.length_zip]; omega, ?_⟩
  · clear k q q2 r2 em hk1 w3 o3 o2 da hd nd w2 s2 o1 w1 s1
    have key : ∀ (ks : List Key) (vs : List V), (ks.map kV).zip vs = (ks.zip vs).map fun kv => (kV kv.1, kv.2) := fun ks => by
      induction ks with
      | nil => intro vs; rfl
      | cons k ks ih => intro vs; cases vs with
        | nil => rfl
        | cons v vs => exact congrArg ((kV k, v) :: ·) (ih vs)
    exact key ks vs
  · rw [em]
    have nB : B.H p = none := by
      cases q : B.H p with
      | none => rfl
      | some o => exact absurd hp (a.st.th p (by rw [q]; simp))
    have a2 : As K B P2 G2 (upd H2 p (.dK (ks.zip vs))) c2 Γ σ := a.step ((s1.trans s2).chg hp o2) w3
    have r3 : ZR K P2 G2 (upd H2 p (.dK (ks.zip vs))) B.H (.od ((ks.map kD).zip ds)) (.ref p) := ⟨p, _, rfl, nB, o3, dkv_zip hd da⟩
    refine k.nx _ P2 G2 _ c2 _ (fun b o h => s2.gg _ _ (s1.gg _ _ h)) (fun b h => s2.pp _ (s1.pp _ h)) (a2.set r3 fun _ j y nj hj oy es => ?_) q
    obtain ⟨v, ev, r'⟩ := a.sl j y hj
    rw [ev] at es
    have e2 : v = .ref p := by injection es with e1; injection e1
    cases y with
    | own xs => obtain ⟨b, us, e3, _, o, _⟩ := r'; rw [e3] at e2; cases e2; rw [o.h] at hp; cases hp
    | od xs => obtain ⟨b, us, e3, _, o, _⟩ := r'; rw [e3] at e2; cases e2; rw [o.h] at hp; cases hp
    | _ => cases oy
theorem impS_newd0 (i : Nat) : ImpS K (fun Γ c R => wNil Γ c fun zs c1 => dzs zs fun ds => (([] : List Key).length = ds.length ∧ ([] : List Key).Nodup) ∧ R.nx (putZ Γ i (.od ((([] : List Key).map kD).zip ds))) c1) (tAsg tDNewK (gName i)) := fun B σ P G H Γ c R D a w k => by
  intro p hp
  obtain ⟨_, q⟩ := w
  exact k.nx _ P G _ c _ (fun _ _ h => h) (fun _ h => h) (a.newG (u := .dK []) (z := .od []) hp rfl (fun nB o => ⟨p, [], rfl, nB, o, .nil⟩) trivial) q
/-- x = [..] * n, a list of one's own -/
theorem impS_newr {wa : WA} {ta : TA} {wb : WE} {tb : TE} (i : Nat) (ha : ImpA K wa ta) (hb : Imp K wb tb) : ImpS K (fun Γ c R => wa Γ c fun zs c1 => dzs zs fun ds => ds.length ≤ sizeLine ∧ wb Γ c1 fun y c2 => dv y fun dy => match dy with
    | .int k => (-(2 ^ 63) ≤ k ∧ k < 2 ^ 63 ∧ ds.length * k.toNat ≤ sizeLine) ∧ R.nx (putZ Γ i (.own (List.replicate k.toNat ds).flatten)) c2
    | _ => False) (tAsg (tOp rRep (tLst ta) tb) (gName i)) := fun B σ P G H Γ c R D a w k => by
  refine ha B σ P G H Γ c _ _ a w fun vs P1 G1 H1 c1 zs s1 w1 r1 q1 => ?_
  obtain ⟨ds, e, da, hz, q⟩ := dzs_of r1 q1
  have lv := da.length
  refine ⟨by omega, fun p hp => ?_⟩
  have s2 := Stp.new (o := .lst vs) w1 hp
  have w2 : Wd P1 (upd G1 p (.lst vs)) (upd H1 p (.lst vs)) c1 := w1.new hp (by show vs.length ≤ _; omega)
  have s12 := s1.trans s2
  refine hb B σ P1 _ _ Γ c1 _ _ (a.step s12 w2) q fun y P3 G3 H3 c3 zy s3 w3 r3 q3 => ?_
  obtain ⟨dy, ey, q3⟩ := dv_of q3
  cases dy with
  | int kk =>
    obtain ⟨⟨h1, h2, h3⟩, q⟩ := q3
    have ey := zr_int w3 r3 ey
    subst ey
    refine ⟨p, kk, vs, rfl, rfl, w3.gh _ _ (s3.gg _ _ upd_same), h1, h2, by rw [lv]; exact h3, fun p4 hp4 => ?_⟩
    have d3 : DqAll K G3 vs ds := dpa_mono s3.gg _ _ (dpa_mono s2.gg _ _ da)
    have a3 := a.step (s12.trans s3) w3
    refine k.nx _ P3 G3 _ c3 _ (fun b o h => s3.gg _ _ (s12.gg _ _ h)) (fun b h => s3.pp _ (s12.pp _ h)) (a3.newG (u := .lst (List.replicate kk.toNat vs).flatten) (z := .own (List.replicate kk.toNat ds).flatten) hp4 rfl (fun nB o => ⟨p4, _, rfl, nB, o, DqAll.rep d3 _⟩) (by show (List.replicate kk.toNat vs).flatten.length ≤ _; rw [rep_len, lv, Nat.mul_comm]; exact h3)) q
  | _ => exact q3.elim
/-- two lists put together, one's own -/
theorem impS_newc {wa wb : WE} {ta tb : TE} (i : Nat) (ha : Imp K wa ta) (hb : Imp K wb tb) : ImpS K (fun Γ c R => wa Γ c fun x c1 => wb Γ c1 fun y c2 => dv x fun dx => dv y fun dy => match dx, dy with
    | .list xs, .list ys => xs.length + ys.length ≤ sizeLine ∧ R.nx (putZ Γ i (.own (xs ++ ys))) c2
    | _, _ => False) (tAsg (tOp (rCatR K) ta tb) (gName i)) := fun B σ P G H Γ c R D a w k => by
  refine ha B σ P G H Γ c _ _ a w fun x P1 G1 H1 c1 zx s1 w1 r1 q1 => ?_
  refine hb B σ P1 G1 H1 Γ c1 _ _ (a.step s1 w1) q1 fun y P2 G2 H2 c2 zy s2 w2 r2 q2 => ?_
  obtain ⟨dx, ex, q2⟩ := dv_of q2
  obtain ⟨dy, ey, q2⟩ := dv_of q2
  split at q2
  · obtain ⟨hz, q⟩ := q2
    obtain ⟨p, vs, rfl, hs, da⟩ := (r1.mono s2).lst w2 ex
    obtain ⟨p2, us, rfl, hs2, db⟩ := r2.lst w2 ey
    have l1 := da.length
    have l2 := db.length
    refine ⟨p, p2, vs, us, rfl, rfl, hs, hs2, by omega, fun p4 hp4 => ?_⟩
    have a3 := a.step (s1.trans s2) w2
    exact k.nx _ P2 G2 _ c2 _ (fun b o h => s2.gg _ _ (s1.gg _ _ h)) (fun b h => s2.pp _ (s1.pp _ h)) (a3.newG (u := .lst (vs ++ us)) (z := .own (_ ++ _)) hp4 rfl (fun nB o => ⟨p4, _, rfl, nB, o, da.append db⟩) (by show (vs ++ us).length ≤ _; rw [List.length_append]; omega)) q
  · exact q2.elim
/-- a store to a list or a dict of one's own -/
def rSetZ : TSet := fun o i v H Q => rSetL o i v H Q ∨ rSetD o i v H Q
theorem dqa_set {G : Hp} : ∀ {vs : List V} {ds : List PyData} (j : Nat) {v : V} {d : PyData}, DqAll K G vs ds → Dq K G v d → DqAll K G (vs.set j v) (ds.set j d)
  | _, _, _, _, _, .nil, _ => .nil
  | _, _, 0, _, _, .cons _ t, h => .cons h t
  | _, _, j + 1, _, _, .cons h1 t, h => .cons h1 (dqa_set j t h)
theorem impS_sti {we wk : WE} {te tk : TE} (i : Nat) (he : Imp K we te) (hk : Imp K wk tk) : ImpS K (fun Γ c R => we Γ c fun z c1 => dz z fun v => match get Γ i with
    | some (.own xs) => wk Γ c1 fun y c2 => dv y fun dk => match dk with
      | .int j => ∃ n, ixN xs.length j = some n ∧ R.nx (putZ Γ i (.own (xs.set n v))) c2
      | _ => False
    | some (.od kvs) => wk Γ c1 fun y c2 => dv y fun dk => ∃ key, keyD dk = some key ∧ kvs.length < sizeLine ∧ R.nx (putZ Γ i (.od (dPut kvs key v))) c2
    | _ => False) (tAsg te (gSub (tVar i) tk rSetZ)) := fun B σ P G H Γ c R D a w k => by
  refine he B σ P G H Γ c _ _ a w fun v P1 G1 H1 c1 z s1 w1 r1 q1 => ?_
  obtain ⟨x, rfl, q⟩ := dz_of q1
  have a1 := a.step s1 w1
  have q : (match get Γ i with
    | some (.own xs) => wk Γ c1 fun y c2 => dv y fun dk => match dk with
      | .int j => ∃ n, ixN xs.length j = some n ∧ R.nx (putZ Γ i (.own (xs.set n x))) c2
      | _ => False
    | some (.od kvs) => wk Γ c1 fun y c2 => dv y fun dk => ∃ key, keyD dk = some key ∧ kvs.length < sizeLine ∧ R.nx (putZ Γ i (.od (dPut kvs key x))) c2
    | _ => False) := q
  split at q
  · rename_i xs eg
    obtain ⟨u, eu, b, us, rfl, n, o, d⟩ := a1.sl i _ eg
    refine ⟨.ref b, eu, ?_⟩
    refine hk B σ P1 G1 H1 Γ c1 _ _ a1 q fun y P2 G2 H2 c2 zy s2 w2 r2 q2 => ?_
    obtain ⟨dk, ek, q2⟩ := dv_of q2
    cases dk with
    | int j =>
      obtain ⟨m, em, q⟩ := q2
      have ey := zr_int w2 r2 ek
      subst ey
      have o2 := o.step s2
      have d2 := dpa_mono s2.gg _ _ d
      refine .inl ⟨b, us, j, m, rfl, rfl, o2.h, by rw [d2.length]; exact em, ?_⟩
      refine k.nx σ P2 G2 _ c2 _ (fun b o h => s2.gg _ _ (s1.gg _ _ h)) (fun b h => s2.pp _ (s1.pp _ h)) ((a1.step s2 w2).own_chg (get_lt eg) eu n o2 (dqa_set m d2 (dp_mono s2.gg _ _ r1)) (by rw [List.length_set]; exact w2.sz _ _ o2.h) fun j ys nj hj oy => ?_) q
      rw [← eu]
      exact a1.dj j i _ _ nj hj eg oy rfl
    | _ => exact q2.elim
  · rename_i kvs eg
    obtain ⟨u, eu, b, us, rfl, n, o, d⟩ := a1.sl i _ eg
    refine ⟨.ref b, eu, ?_⟩
    refine hk B σ P1 G1 H1 Γ c1 _ _ a1 q fun y P2 G2 H2 c2 zy s2 w2 r2 q2 => ?_
    obtain ⟨dk, ek, key, e1, hl, q⟩ := dv_of q2
    have ey := (key_of w2 r2 ek e1).1
    subst ey
    have o2 := o.step s2
    have d2 := dpk_mono s2.gg _ _ d
    refine .inr ⟨b, _, rfl, DPut.k o2.h (by rw [dkv_len d2]; exact hl), ?_⟩
    refine k.nx σ P2 G2 _ c2 _ (fun b o h => s2.gg _ _ (s1.gg _ _ h)) (fun b h => s2.pp _ (s1.pp _ h)) ((a1.step s2 w2).od_chg (get_lt eg) eu n o2 (dkv_put d2 key (dp_mono s2.gg _ _ r1)) fun j ys nj hj oy => ?_) q
    rw [← eu]
    exact a1.dj j i _ _ nj hj eg oy rfl
  · exact q.elim
/-- x.update(e) -/
theorem impS_updd {we : WE} {te : TE} (i : Nat) (he : Imp K we te) : ImpS K (fun Γ c R => match get Γ i with
    | some (.od kvs) => we Γ c fun z c1 => dz z fun y => match y with
      | .dict more => ∃ res, dMrg kvs more = some res ∧ kvs.length + more.length ≤ sizeLine ∧ R.nx (putZ Γ i (.od res)) c1
      | _ => False
    | _ => False) (tDrop (tBM K "dict" rUpd (tVar i) (tCons te tNil))) := fun B σ P G H Γ c R D a w k => by
  have w : (match get Γ i with
    | some (.od kvs) => we Γ c fun z c1 => dz z fun y => match y with
      | .dict more => ∃ res, dMrg kvs more = some res ∧ kvs.length + more.length ≤ sizeLine ∧ R.nx (putZ Γ i (.od res)) c1
      | _ => False
    | _ => False) := w
  split at w
  · rename_i xs e
    obtain ⟨v, ev, b, vs, rfl, n, o, d⟩ := a.sl i _ e
    refine ⟨.ref b, ev, ?_, ?_⟩
    · exact .inr (.inr (.inl ⟨rfl, .inl ⟨vs, o.h⟩⟩))
    refine he B σ P G H Γ c _ _ a w fun u P1 G1 H1 c1 z s1 w1 r1 q1 => ?_
    obtain ⟨y, rfl, q⟩ := dz_of q1
    cases y with
    | dict ys =>
      obtain ⟨res, em, hz, q⟩ := q
      cases (show Dq K G1 u (.dict ys) from r1) with
      | @dic p us _ hp du =>
        have o1 := o.step s1
        have a1 := a.step s1 w1
        have d1 := dpk_mono s1.gg _ _ d
        have l1 := dkv_len d1
        have l2 := dkv_len du
        have ne : b ≠ p := fun q => by rw [← q, o1.g] at hp; cases hp
        refine ⟨b, p, vs, us, rfl, rfl, ne, o1.h, w1.gh _ _ hp, by omega, ?_⟩
        refine k.nx σ P1 G1 _ c1 _ s1.gg s1.pp (a1.od_chg (get_lt e) ev n o1 (dkv_mrg du d1 em) fun j zs nj hj oz => ?_) q
        rw [← ev]
        exact a.dj j i _ _ nj hj e oz rfl
    | _ => exact q.elim
  · exact w.elim
theorem impS_nope : ImpS K (fun _ _ _ => False) (fun _ _ _ => False) := fun B σ P G H Γ c R D a w k => w
end
section
variable {X : Cx}
theorem set_z (hu : X.A.units + 1 < cLine) : PSet X rSetZ := by
  intro pins s σ H o i v ov iv u Q I ro ri rv h
  rcases h with h | h
  · exact set_list pins s σ H o i v ov iv u Q I ro ri rv h
  · exact set_dict hu pins s σ H o i v ov iv u Q I ro ri rv h
theorem ps_nope {s : Stmt} : PS X s (fun _ _ _ => False) := ⟨fun pins s σ H D I h => h.elim⟩
end
end Z
/-! ZT -/
set_option maxRecDepth 100000
/-! sorted(set(..)) of tuples of ints, of unlike lengths too -/
namespace Z
open PySem PySem.Spec PyProof.Rows L2
abbrev AL := Addr × List Int
abbrev encL (q : AL) : PyData := tpI q.2
theorem ints_reads {h : Heap} : ∀ {us : List Value} {k : List Int}, IntsAre us k → ReadsAll h us (k.map PyData.int) []
  | _, _, .nil => .nil
  | _, _, .cons n t r => .cons (as := []) (.int n t) (ints_reads r)
theorem tup_reads {P : Program} {w : World} {h : Heap} {b : Addr} {k : List Int} (x : IsT P w h k b) : Reads h (.ref b) (tpI k) [] := by
  obtain ⟨o, vs, n, ho, hc, hd, hi⟩ := x
  exact .tuple ho hc hd (ints_reads (ints_of_items hi))
theorem alike_tpI (a b : List Int) : PySem.W.alike (tpI a) (tpI b) = true := PySem.W.alike_ints a b
section
variable {P : Program} {w : World} {A : Around} {E : Value → Shared → Prop} {s : Shared}
set_option maxHeartbeats 2000000 in
theorem sorted_setU {a : Addr} {L : List AL} {es : Array (Int × Value)} {ep : Nat} {t : SetTable} {Q : Value → Shared → Prop} (R : SetTR P w s.heap a L es ep t) (hh : A.handled = none) (hu : A.units + 10 < cLine) (hne : ∀ q ∈ L, q.2 ≠ [])
    (hQ : ∀ s2 p (out : Array Value) (c : Nat) (M : List AL), (∀ b o, s.heap.get? b = some o → s2.heap.get? b = some o) → s2.gens = s.gens → s2.os = s.os → s.heap.objs.size ≤ p →
      s2.heap.get? p = some (seqObj "list" out c) → out.toList = M.map (fun q => Value.ref q.1) → M.Perm L → M.Pairwise (fun q r => srtLe (encL q) (encL r) = true) → Q (.ref p) s2) :
    wpAny (model P w) A (call (.builtin "sorted") [.ref a]) Q E s := by
  obtain ⟨o, ho, hex, hd⟩ := R.ob
  have few := R.few
  refine Calls.call_function_entry kind_sorted plain_sorted entry_sorted (args_sorted1 _) ?_
  unfold Builtin.«sorted»
  refine wpAny_bind (m := checkCount "sorted" 1 1 _) (wpAny_pure ?_)
  refine wpAny_bind (collect_set (A := A.in1) hh ⟨o, ho, hex.1, hd⟩ R.fits (by have := R.size; unfold scanBound; omega) R.tab.ris R.led fun s1 vs k1 hz g1 o1 pm => ?_)
  have rows : es.toList.map (·.2) = L.map fun q : AL => Value.ref q.1 := by
    rw [R.rows]
    unfold rowsOf
    rw [List.map_map]
    rfl
  rw [rows] at pm
  -- a list of values that are addresses
  have back : ∀ vs : List Value, (∀ v ∈ vs, ∃ q ∈ L, v = Value.ref q.1) → ∃ M : List AL, vs = M.map (fun q => Value.ref q.1) ∧ ∀ q ∈ M, q ∈ L := fun vs => by
    induction vs with
    | nil => exact fun _ => ⟨[], rfl, by simp⟩
    | cons v vs ih =>
      intro hv
      obtain ⟨q, hq, e⟩ := hv v (by simp)
      obtain ⟨M, e1, hm⟩ := ih fun u hu => hv u (by simp [hu])
      exact ⟨q :: M, by rw [List.map_cons, e, e1], fun r hr => (List.mem_cons.mp hr).elim (fun z => z ▸ hq) (hm r)⟩
  have single : ∀ q ∈ L, ∀ r ∈ L, q.1 = r.1 → q = r := fun q hq r hr e => by
    have x1 := R.tup q hq
    have x2 := R.tup r hr
    rw [e] at x1
    exact Prod.ext e (x1.inj x2)
  have nL : L.Nodup := nodup_of_map R.nd
  have permOf : ∀ M : List AL, (∀ q ∈ M, q ∈ L) → (M.map fun q : AL => Value.ref q.1).Perm (L.map fun q : AL => Value.ref q.1) → M.Perm L := fun M hm pM => by
    have nr : (L.map fun q : AL => Value.ref q.1).Nodup := List.pairwise_map.mpr (nL.imp_of_mem fun {q r} hq hr ne e => ne (single q hq r hr (by injection e)))
    have nM : M.Nodup := nodup_of_map (pM.nodup_iff.mpr nr)
    refine (List.perm_ext_iff_of_nodup nM nL).mpr fun q => ⟨hm q, fun hq => ?_⟩
    obtain ⟨r, hr, e⟩ := List.mem_map.mp (pM.mem_iff.mpr (List.mem_map.mpr ⟨q, hq, rfl⟩))
    injection e with e
    rw [← single r (hm r hr) q hq e]
    exact hr
  obtain ⟨M, eM, hM⟩ := back vs fun v hv => by
    obtain ⟨q, hq, e⟩ := List.mem_map.mp (pm.mem_iff.mp hv)
    exact ⟨q, hq, e.symm⟩
  have pML : M.Perm L := permOf M hM (by rw [← eM]; exact pm)
  have hvl : M.length < 64 := by rw [pML.length_eq]; exact few
  have hvs : vs.length = M.length := by rw [eM, List.length_map]
  refine wpAny_bind (wpAny_newList ?_ (by rw [sizeLine_eq]; omega))
  have hoL : (s1.heap.push (seqObj "list" vs.toArray 0)).get? s1.heap.objs.size = some (seqObj "list" vs.toArray 0) := Heap.get?_push_size _ rfl
  have rd : ∀ q ∈ M, Reads (s1.heap.push (seqObj "list" vs.toArray 0)) (.ref q.1) (encL q) [] := fun q hq => tup_reads (P := P) (w := w) (isT_keep (R.tup q (hM q hq)) fun b u e => Heap.get?_push_of_some _ (k1 b u e))
  have each : ∀ (M : List AL) (us : List Value), us = M.map (fun q => Value.ref q.1) → PySem.W.EachIs (fun (v : Value) (q : AL) => v = .ref q.1) us M := fun M => by
    induction M with
    | nil => intro us e; subst e; exact .nil
    | cons q M ih => intro us e; subst e; exact .cons rfl (ih _ rfl)
  have eachR : PySem.W.EachIs (fun (v : Value) (q : AL) => ∃ as, Reads (s1.heap.push (seqObj "list" vs.toArray 0)) v (encL q) as ∧ s1.heap.objs.size ∉ as) vs M := by
    have go : ∀ (M : List AL) (us : List Value), us = M.map (fun q => Value.ref q.1) → (∀ q ∈ M, Reads (s1.heap.push (seqObj "list" vs.toArray 0)) (.ref q.1) (encL q) []) → PySem.W.EachIs (fun (v : Value) (q : AL) => ∃ as, Reads (s1.heap.push (seqObj "list" vs.toArray 0)) v (encL q) as ∧ s1.heap.objs.size ∉ as) us M := fun M => by
      induction M with
      | nil => intro us e _; subst e; exact .nil
      | cons q M ih => intro us e h; subst e; exact .cons ⟨[], h q (by simp), by simp⟩ (ih _ rfl fun r hr => h r (by simp [hr]))
    exact go M vs eM rd
  have nemp : ∀ q ∈ M, q.2 ≠ [] := fun q hq => hne q (hM q hq)
  have srt : PySem.W.Sortable (M.map encL) := .inl fun d hd => by
    obtain ⟨q, hq, rfl⟩ := List.mem_map.mp hd
    have := nemp q hq
    cases e : q.2 with
    | nil => exact absurd e this
    | cons x r => exact ⟨.int x, r.map .int, by show PyData.tuple (q.2.map .int) = _; rw [e]; rfl⟩
  refine wpAny_bind (wpAny_holding (PySem.W.list_sort_data (s := { s1 with heap := s1.heap.push (seqObj "list" vs.toArray 0) }) (R := fun (v : Value) (q : AL) => v = .ref q.1) (enc := encL) hoL (each M vs eM) eachR (PySem.W.AllAlike.of fun a b => alike_tpI a.2 b.2) srt (by rw [sizeLine_eq]; omega) (fun q hq => ?_) fun out hl he => ?_))
  · have e : (encL q).depth ≤ 1 := by
      show (PyData.tuple (q.2.map .int)).depth ≤ 1
      unfold PyData.depth
      rw [PySem.W.depth_ints]
      exact Nat.le_refl _
    have e2 : A.in1.units = A.units + 1 := rfl
    omega
  obtain ⟨c, hc⟩ := sortedHeap_at (vs := vs) (out := out.toArray) hoL
  have pw := PySem.W.sort_pairwise (PySem.W.sortLe_total (listOrd itemOrd) false (fun q : AL => PySem.W.keyToks (encL q))) M
  have pS : (M.mergeSort (PySem.W.dataLe false encL)).Perm M := List.mergeSort_perm _ _
  have eO : ∀ (M : List AL) (us : List Value), PySem.W.EachIs (fun (v : Value) (q : AL) => v = .ref q.1) us M → us = M.map fun q => Value.ref q.1 := fun M us h => by
    induction h with
    | nil => rfl
    | cons e _ ih => rw [List.map_cons, e, ih]
  refine wpAny_pure ⟨_, rfl, hQ _ s1.heap.objs.size out.toArray c (M.mergeSort (PySem.W.dataLe false encL)) (fun b u e => ?_) g1 o1 hz hc (eO _ _ he) (pS.trans pML) pw⟩
  have q := k1 b u e
  have hlt := Heap.lt_size q
  show (sortedHeap _ s1.heap.objs.size vs out.toArray).get? b = some u
  exact (sortedHeap_old (Nat.ne_of_lt hlt) (by rw [size_push']; exact Nat.lt_succ_of_lt hlt)).trans (Heap.get?_push_of_some _ q)
end
section
variable {X : Cx} {a : Expr} {ta : TE} {p p2 q pos : Pos} {K : PySem.W.Frag} {Gd : Nat → PyData}
def tSrtS2 (K : PySem.W.Frag) (ta : TE) : TE := fun σ H Q => ta σ H fun x H1 => (∃ (l : Addr) (ns : List Int), x = .ref l ∧ SqT K H1 l (ns.map V.int) ∧ ns.length ≤ 4000 ∧ (dedI ns).length < 64 ∧
  ∀ p, H1 p = none → Q (.ref p) (upd H1 p (.lst ((sortI (dedI ns)).map V.int)))) ∨
  ∃ (l : Addr) (ks : List AL), x = .ref l ∧ SqL K H1 l (ks.map fun p => V.ref p.1) ∧ (∀ p ∈ ks, SqT K H1 p.1 (p.2.map V.int)) ∧ ks.length < 64 ∧ (∀ p ∈ ks, p.2 ≠ []) ∧
    ∀ (M : List AL) (p : Addr), (∀ q ∈ M, q ∈ ks) → (∀ q ∈ ks, q.2 ∈ M.map (·.2)) → (M.map (·.2)).Nodup → M.length ≤ ks.length → M.Pairwise (fun q r => srtLe (encL q) (encL r) = true) → H1 p = none → Q (.ref p) (upd H1 p (.lst (M.map fun q => V.ref q.1)))
theorem pe_srtS2 (hu : X.A.units + 64 < cLine) (hc : X.calm = true) (hg : Gl X "sorted") (hm : X.mg "sorted" = none) (hg2 : Gl X "set") (hm2 : X.mg "set" = none) (ha : PE X a ta) (na : starEach [a] X.env = (false, eval a X.env) :: starEach [] X.env) :
    PE X (.Call (.Name "sorted" p) [.Call (.Name "set" p2) [a] [] q] [] pos) (tSrtS2 X.K ta) := by
  refine ⟨fun pins s σ H Q I h => ?_⟩
  refine Call_ (ld_blt I hg hm boot_sorted ?_)
  refine callWith_builtin1 (args_cons ?_ rfl) rfl rfl
  refine Call_ (ld_blt I hg2 hm2 boot_set ?_)
  refine callWith_type1 (args_cons (thn (ha.run pins s σ H _ I h) fun v s1 ⟨x, H1, I1, r1, q1⟩ => args_nil ?_) na) na rfl
  rcases q1 with q1 | q1
  · obtain ⟨l, ns, rfl, hq, hl, h64, q1⟩ := q1
    cases r1
    obtain ⟨its, r, pl, hz⟩ := I1.tuple hq
    refine call_set_tupI ns (I1.ok.hd hc) pl (by simpa using RZ.intsAre_vals r) (by unfold scanBound; omega) fun h' tk c hS hcl hk => ?_
    refine args_nil ?_
    have J : Inv X pins σ H1 { s1 with heap := h', toks := tk } := I1.kept fun b o e => hk b o e
    have hc2 : c = (dedI ns).length := by
      obtain ⟨o, es, ep, t, ho, hex, hd, _, nd, hm, _, hf, hn, _⟩ := hS
      rw [← hn, ← ded_len nd fun k => by rw [← hm k]; simp]
      simp
    subst hc2
    refine sorted_set hS (I1.ok.hd hc) h64 fun s' p out c ns' k g o hp hgt hi hs hm hl => ?_
    have e0 : ns' = sortI (dedI ns) := ded_sorted hs fun k => by rw [hm k]; simp
    subst e0
    have hlen : ((sortI (dedI ns)).map V.int).length ≤ sizeLine := by rw [List.length_map, hl, sizeLine_eq]; omega
    have fr : H1 p = none := J.hok.fresh hp
    have J2 : Inv X pins σ (upd H1 p (.lst ((sortI (dedI ns)).map V.int))) s' :=
      J.call' (ch := []) o (Un.laid k hp fr) (J.hok.laid k hp ⟨hlen, out.toList, c, vals_of_ints hi, hgt⟩) (by rw [g]; exact J.bare) (fun _ z => nomatch z)
    exact ⟨.ref p, _, J2, rfl, q1 p fr⟩
  · obtain ⟨l, ks, rfl, hq, hk1, h64, hne, q1⟩ := q1
    cases r1
    obtain ⟨its, r, pl, hz⟩ := I1.list hq
    refine call_set_tups (P := X.prog) (w := X.w) ks (I1.ok.hd hc) pl.isList (by simpa using refs_of_vals r) (fun p hp => I1.isT (hk1 p hp)) h64 (by omega) fun h' tk L es ep t RR g k => ?_
    refine args_nil ?_
    have J : Inv X pins σ H1 { s1 with heap := h', toks := tk } := I1.kept fun b o e => k b o e
    have sub : ∀ p ∈ L, p ∈ ks := fun p hp => List.mem_of_mem_take (g.sub p hp)
    refine sorted_setU RR (I1.ok.hd hc) (by omega) (fun q hq => hne q (sub q hq)) fun s2 p out c M kk gg oo hp hgt hout pm pw => ?_
    have ml : M.length ≤ ks.length := by
      rw [pm.length_eq]
      exact g.len
    have vl : Vals (M.map fun q => V.ref q.1) out.toList := by rw [hout]; exact vals_of_refs M
    have hlen : (M.map fun q => V.ref q.1).length ≤ sizeLine := by rw [List.length_map, sizeLine_eq]; omega
    have fr : H1 p = none := J.hok.fresh hp
    have J2 : Inv X pins σ (upd H1 p (.lst (M.map fun q => V.ref q.1))) s2 :=
      J.call' (ch := []) oo (Un.laid kk hp fr) (J.hok.laid kk hp ⟨hlen, out.toList, c, vl, hgt⟩) (by rw [gg]; exact J.bare) (fun _ z => nomatch z)
    refine ⟨.ref p, _, J2, rfl, q1 M p (fun q hq => sub q (pm.mem_iff.mp hq)) (fun q hq => ?_) ((pm.map (·.2)).nodup_iff.mpr RR.nd) ml pw fr⟩
    exact (pm.map (·.2)).mem_iff.mpr (g.all q (by rw [List.take_length]; exact hq))
theorem dqa_refs {G : Hp} : ∀ {ls : List (List Int)} {vs : List V}, DqAll K G vs (ls.map tpI) → ∃ ks : List AL, vs = ks.map (fun p => V.ref p.1) ∧ ks.map (·.2) = ls ∧ ∀ p ∈ ks, SqN K G p.1 (p.2.map V.int)
  | [], _, h => by cases h; exact ⟨[], rfl, rfl, by simp⟩
  | l :: ls, _, h => by
    cases h with
    | cons h1 h2 =>
      obtain ⟨ks, e1, e2, h3⟩ := dqa_refs h2
      cases h1 with
      | @tup ad xs _ hs ha =>
        rw [ha.ints] at hs
        exact ⟨(ad, l) :: ks, by rw [e1]; rfl, by rw [← e2]; rfl, fun p hp => (List.mem_cons.mp hp).elim (fun e => e ▸ hs) (h3 p)⟩
theorem refs_dqa {G : Hp} : ∀ (M : List AL), (∀ p ∈ M, SqN K G p.1 (p.2.map V.int)) → DqAll K G (M.map fun p => V.ref p.1) ((M.map (·.2)).map tpI)
  | [], _ => .nil
  | p :: M, h => .cons (.tup (h p (by simp)) (DqAll.of_ints _)) (refs_dqa M fun q hq => h q (by simp [hq]))
theorem imp_srtS2 {wa : WE} {ta : TE} (ha : Imp K wa ta) : Imp K (wExt Gd .srtset (wCons wa wNil)) (tSrtS2 K ta) := fun B σ P G H Γ c Q R a w k => by
  refine ha B σ P G H Γ c _ _ a w fun x P1 G1 H1 c1 zx s1 w1 r1 q1 => ?_
  obtain ⟨ds, q, e⟩ := dvs_of (B := B) (.cons r1 .nil) q1
  have q : xSrt ds (fun r => Q (.d r) c1) := q
  unfold xSrt at q
  split at q
  · refine .inl ?_
    obtain ⟨z, v, hz, hv, r, ex⟩ := zrs1 (.cons r1 .nil) e
    cases hz
    cases hv
    obtain ⟨ns, en, hl, h64, q⟩ := q
    obtain ⟨l, us, rfl, hs, gs, da⟩ := r.tup w1 ex
    rw [ints?_eq en] at da
    refine ⟨l, ns, rfl, (by rw [← da.ints]; exact hs), hl, h64, fun p hp => ?_⟩
    have hlen : ((sortI (dedI ns)).map V.int).length ≤ sizeLine := by
      have q1 := (sortI_perm (dedI ns)).length_eq
      rw [List.length_map, q1, sizeLine_eq]
      omega
    have s2 := Stp.new (o := .lst ((sortI (dedI ns)).map V.int)) w1 hp
    exact k _ P1 _ _ c1 (.d _) (s1.trans s2) (w1.new hp hlen) (show Dq K _ _ _ from .lst upd_same (DqAll.of_ints _)) q
  · refine .inr ?_
    obtain ⟨z, v, hz, hv, r, ex⟩ := zrs1 (.cons r1 .nil) e
    cases hz
    cases hv
    obtain ⟨ls, rfl, h64, hne, q⟩ := q
    obtain ⟨l, us, rfl, hs, da⟩ := r.lst w1 ex
    obtain ⟨ks, e1, e2, h3⟩ := dqa_refs da
    subst e1
    have hkl : ks.length = ls.length := by rw [← e2, List.length_map]
    have inks : ∀ p ∈ ks, p.2 ∈ ls := fun p hp => by rw [← e2]; exact List.mem_map.mpr ⟨p, hp, rfl⟩
    refine ⟨l, ks, rfl, hs, fun p hp => sqt_mono w1.gh (h3 p hp).t, by omega, fun p hp => hne _ (inks p hp), fun M p hM1 hM2 nd ml pw hp => ?_⟩
    have hlen : (M.map fun q => V.ref q.1).length ≤ sizeLine := by rw [List.length_map, sizeLine_eq]; omega
    have s2 := Stp.new (o := .lst (M.map fun q => V.ref q.1)) w1 hp
    refine k _ P1 _ _ c1 (.d _) (s1.trans s2) (w1.new hp hlen) (show Dq K _ _ _ from .lst upd_same (dpa_mono s2.gg _ _ (refs_dqa M fun q hq => h3 q (hM1 q hq)))) (q (M.map (·.2)) nd (fun l' => ⟨fun h => ?_, fun h => ?_⟩) (List.pairwise_map.mpr pw))
    · obtain ⟨q, hq, rfl⟩ := List.mem_map.mp h
      exact inks q (hM1 q hq)
    · rw [← e2] at h
      obtain ⟨q, hq, rfl⟩ := List.mem_map.mp h
      exact hM2 q hq
  · exact q.elim
end
end Z
/-! ZJ -/
set_option maxRecDepth 100000
/-! o.index(x), o a list or a tuple -/
namespace Z
open PySem PySem.Spec PyProof.Rows L2
section
variable {X : Cx}
theorem mt_ixN (hu : X.A.units + 65 < cLine) : MtR X "tuple.index" (rIxN X.K) := by
  rintro pins s σ H x xs v us Q I rx rxs ⟨a, y, d, ds, j, z, rfl, rfl, hl, hy, sl, sd, hz, hzj, hno, q⟩
  cases rx
  obtain ⟨uy, rfl, ry⟩ := rxs.one
  obtain ⟨bs, r1⟩ := Dp.reads I d y uy hy ry
  have room : X.A.units + 1 + min (PyData.depthAll ds) d.depth < cLine := room_in_shaped sd hu
  cases hl with
  | tup hs ha =>
    obtain ⟨its, rv, ⟨⟨cls, dd, data, sls⟩, ho, hc, n, hdt⟩, hlen⟩ := I.tuple hs
    simp only at hc hdt
    subst hc hdt
    have lay : PyData.canLayAll0 ds = true := SeqAt.canLay_of_shaped sl
    obtain ⟨as, ra⟩ := Dp.readsAll I ds _ its ha rv
    have len : its.length = ds.length := SeqAt.ReadsAll.length ds its as ra
    have mp : its.map (SeqAt.readOf s.heap) = ds := SeqAt.readsAll_map ds its as lay ra
    have jl : j < ds.length := (List.getElem?_eq_some_iff.mp hz).1
    have rd : ∀ (m : Nat) (hm : m < its.toArray.size), ds[m]? = some (SeqAt.readOf s.heap its.toArray[m]) := fun m hm => by
      rw [← mp, List.getElem?_map, List.getElem?_eq_getElem (by simpa using hm)]
      simp
    refine call_meets PySem.F.slot_tuple_index ⟨_, ho, rfl⟩ PySem.F.entry_tuple_index (PySem.F.args_tuple_index_2 _ _)
      (SeqAt.tuple_index2_found a its.toArray n dd sls uy (fun m => match ds[m]? with | some z => PyData.eqv z d | none => false) j (by simpa [len] using jl) (Nat.zero_le _) (by simpa [len] using jl) ?_ ?_) ⟨ho, fun m hm => ?_, ?_⟩
    · show (match ds[j]? with | some z => PyData.eqv z d | none => false) = true
      rw [hz]
      exact hzj
    · intro m hm _ hmj
      show (match ds[m]? with | some z => PyData.eqv z d | none => false) = false
      rw [rd m hm]
      exact hno m _ hmj (rd m hm)
    · have h := SeqAt.items_eqAt (A := X.A) (vs := its.toArray) (show ReadsAll s.heap its.toArray.toList ds as from ra) r1 lay (SeqAt.canLay_of_shaped sd) room its.toArray[m] (Array.getElem_mem hm)
      show SeqAt.EqAt X.A.in1 s its.toArray[m] uy (match ds[m]? with | some z => PyData.eqv z d | none => false)
      rw [rd m hm]
      exact h
    · exact ⟨.int (j : Nat), H, I.tok _, ⟨_, rfl⟩, q⟩
theorem sqn_bare {pins : List (Addr × Obj)} {σ : L2.St} {H : Hp} {s : Shared} {a : Addr} {ys : List V} (I : Inv X pins σ H s) (h : SqN X.K H a ys) : s.TypeIs (.ref a) "tuple" ∧ ∀ b, Value.ref a = .ref b → ∃ ob, s.heap.get? b = some ob ∧ ob.dict = none := by
  obtain ⟨its, _, p, _⟩ := I.tuple h.t
  refine ⟨let ⟨o, ho, hc, _⟩ := p; ⟨o, ho, hc⟩, fun b e => ?_⟩
  cases e
  rcases h with ⟨o, h, d⟩ | ⟨o, _, _, h, _, d, _⟩
  · exact ⟨o, (I.hok a _ h).1, d⟩
  · exact ⟨o, I.kIn a o h, d⟩
theorem pe_index2 {o e : Expr} {to te : TE} {apos cpos : Pos} (hu : X.A.units + 65 < cLine) (ho : PE X o to) (he : PE X e te)
    (hbase : attributeBase o "index" X.env (eval o X.env) = eval o X.env)
    (hfew : ((backTo cpos (starEach [e] X.env)).all (fun x => !x.1) && (backToKw cpos (keywordEach [] X.env)).all (fun x => x.1.isSome)
      && decide (([e] : List Expr).length + ([] : List Keyword).length + (if ([] : List Keyword).isEmpty then 0 else 1) < 30)) = true)
    (hline : (apos.endLine == cpos.line) = true) (hs : starEach [e] X.env = (false, eval e X.env) :: starEach [] X.env) :
    PE X (.Call (.Attribute o "index" apos) [e] [] cpos) (tIx2 X.K to (tCons te tNil)) := by
  refine ⟨fun pins s σ H Q I h => ?_⟩
  refine wpAny_Call_method_late hbase hfew hline rfl (thn (ho.run pins s σ H _ I h) fun v s1 ⟨x, H1, I1, r1, q1⟩ => ?_)
  have ha : PA X [e] (tCons te tNil) := pa_cons he pa_nil hs
  rcases q1 with ⟨ty, q1⟩ | ⟨⟨a, ys, rfl, hq⟩, q1⟩
  · obtain ⟨h1, h2⟩ := tyV_is I1 r1 ty
    refine ⟨"list", "list.index", PySem.F.plainAttrs_list, PySem.F.slot_list_index, PySem.F.type_list_index, h1, h2, ?_⟩
    have run := ha.run cpos pins s1 σ H1 _ I1 q1
    rw [hs] at run ⊢
    exact Calls.callWith_builtin rfl (Calls.evalArgs_plain (thn run fun us s2 ⟨vs, H2, I2, r2, q2⟩ => mt_indexD hu pins s2 σ H2 x vs v us Q I2 r1 r2 q2))
  · cases r1
    obtain ⟨h1, h2⟩ := sqn_bare I1 hq
    refine ⟨"tuple", "tuple.index", PySem.F.plainAttrs_tuple, PySem.F.slot_tuple_index, PySem.F.type_tuple_index, h1, h2, ?_⟩
    have run := ha.run cpos pins s1 σ H1 _ I1 q1
    rw [hs] at run ⊢
    exact Calls.callWith_builtin rfl (Calls.evalArgs_plain (thn run fun us s2 ⟨vs, H2, I2, r2, q2⟩ => mt_ixN hu pins s2 σ H2 (.ref a) vs _ us Q I2 rfl r2 q2))
end
end Z
/-! ZD -/
set_option maxRecDepth 100000
/-! set(a) - set(b) of whole numbers -/
namespace Z
open PySem PySem.Spec PyProof.Rows L2
theorem slot_set_sub : Slot "set" (dunder "sub") "set.__sub__" :=
  .of (owner := "set") (n := "__sub__") (by rw [typeLookup_type, builtinLookup_eq_fast]; kernel_rfl) (by decide +kernel) (by decide +kernel) (by decide +kernel)
    (by first | exact .inl (by decide +kernel) | exact .inr (by decide +kernel)) (by rw [isSubtype_type]; kernel_rfl)
theorem fills_set_sub : fillsNumberSlot (.type "set") "sub" = pure true :=
  fillsNumberSlot_of (id := "set.__sub__") (r := some (.builtin "set.__rsub__")) (by rw [typeLookup_type, builtinLookup_eq_fast]; kernel_rfl) (by decide +kernel) (by rw [typeLookup_type, builtinLookup_eq_fast]; kernel_rfl)
theorem entry_set_sub : entryFor table "set.__sub__" = some Builtin.«frozenset.__sub__» :=
  entryFor_alias (id' := "frozenset.__sub__") (by kernel_rfl) rfl (by decide +kernel) (by kernel_rfl)
theorem args_set_sub (a b : Value) : argsOk "set.__sub__" ⟨[a, b], []⟩ := by unfold argsOk; kernel_rfl
open Builtin.Frozenset in
theorem sub_body (args : Args) : Builtin.«frozenset.__sub__» args = (do
  let (self, other) ← slot1 "__sub__" args
  if !(← isAnySet self <&&> isAnySet other) then
    rule s!"frozenset.__sub__.declined"
    return ← ret .notImplemented
  ret (← difference "frozenset.__sub__" (← addrOf self) other)) := rfl
theorem setWalk_body (a : Addr) : setWalk a = (do
  let (es, epoch, t) ← setState a
  if ← setsByText then return pickOrder ((← ask).params.setOrder a epoch) es
  if (!t.plain && decide (es.size > 1)) then return (← drawOrder es.size es.toList).toArray
  (do if !t.led && decide (es.size > 1) then unsupported "set:maker-not-led" : Sem Unit)
  return es) := rfl
section
variable {P : Program} {w : World} {A : Around} {E : Value → Shared → Prop} {s : Shared} {a b r : Addr} {S T U : Int → Bool} {n m j : Nat}
theorem any_set {Q : Bool → Shared → Prop} (hT : s.TypeIs (.ref a) "set") (h : Q true s) : wpAny (model P w) A (Builtin.Frozenset.isAnySet (.ref a)) Q E s := by
  unfold Builtin.Frozenset.isAnySet
  refine wpAny_bind (wpAny_isInstance hT sub_set_self ?_)
  exact wpAny_pure h
theorem SetR.type {h : Heap} (R : SetR w h a S n) (hs : s.heap = h) : s.TypeIs (.ref a) "set" := by
  obtain ⟨o, es, ep, t, ho, hex, _⟩ := R
  subst hs
  exact ⟨o, ho, hex.1⟩
/-- plain members -/
theorem quiet_ok {Q : Bool → Shared → Prop} : ∀ {l : List Addr}, (∀ x ∈ l, ∃ S n, SetR w s.heap x S n) → Q true s → wpAny (model P w) A (setsQuiet l) Q E s := by
  intro l hl h
  unfold setsQuiet
  refine wpAny_bind (wpAny_forIn_list _ (fun rest b s' => s' = s ∧ b.1 = none ∧ ∀ x ∈ rest, ∃ S n, SetR w s.heap x S n) _ (fun x rest b s₁ hI => ?_) (fun b s₁ hI => ?_) _ _ ⟨rfl, rfl, hl⟩)
  · obtain ⟨rfl, hb, hr⟩ := hI
    obtain ⟨S, n, o, es, ep, t, ho, hex, hd, g, nd, hm, hbd, hf, hn, hri, hle⟩ := hr x (by simp)
    refine wpAny_bind (wpAny_setEntries_of ho hd hf ?_)
    refine wpAny_bind (wpAny_forIn_array' _ (fun l c s' => s' = s₁ ∧ c.1 = none ∧ ∀ e ∈ l, GoodE e) _ (fun e l c s₂ hI => ?_) (fun c s₂ hI => ?_) _ _ ⟨rfl, rfl, g⟩)
    · obtain ⟨rfl, hc, hg⟩ := hI
      obtain ⟨k, tk, h1, h2⟩ := hg e (by simp)
      obtain ⟨e1, e2⟩ := e
      cases (show e2 = Value.int k tk from h1)
      exact wpAny_pure ⟨rfl, rfl, fun z hz => hg z (by simp [hz])⟩
    · obtain ⟨rfl, hc, hg⟩ := hI
      obtain ⟨c1, c2⟩ := c
      cases (show c1 = none from hc)
      exact wpAny_pure ⟨rfl, rfl, fun z hz => hr z (by simp [hz])⟩
  · obtain ⟨rfl, hb, hr⟩ := hI
    obtain ⟨c1, c2⟩ := b
    cases (show c1 = none from hb)
    exact wpAny_pure h
/-- a set of whole numbers, walked -/
theorem walk_ok {Q : Array (Int × Value) → Shared → Prop} {o : Obj} {es : Array (Int × Value)} {ep : Nat} {t : SetTable} (ho : s.heap.get? a = some o) (hd : o.data = .set es ep t) (hf : t.fits es.size = true)
    (hl : w.params.followText "set-order" = true ∨ t.led = true) (h : ∀ (out : Array (Int × Value)) d, out.toList.Perm es.toList → Q out { s with drawn := d }) : wpAny (model P w) A (setWalk a) Q E s := by
  rw [setWalk_body]
  refine wpAny_bind (wpAny_setState_of ho hd hf ?_)
  refine wpAny_bind (wpAny_byText ?_)
  split
  · exact wpAny_bind (wpAny_askSetting (wpAny_pure (h _ s.drawn (pick_perm _ _))))
  · rename_i hb
    split
    · refine wpAny_bind (drawOrder_at _ _ _ _ (by rw [Array.length_toList]; exact Nat.le_refl _) fun ys d hp => wpAny_pure ?_)
      exact h ys.toArray d (by simpa using hp)
    · have hl2 : t.led = true := hl.resolve_left hb
      rw [hl2]
      refine wpAny_bind (wpAny_pure (wpAny_pure ?_))
      exact h es s.drawn (List.Perm.refl _)
theorem unseen_ok {Q : Array (Int × Value) → Shared → Prop} (Ra : SetR w s.heap a S n) (Rb : SetR w s.heap b T m) (Rr : SetR w s.heap r U j) (hra : r ≠ a)
    (h : ∀ (out : Array (Int × Value)) h' d, Heap.SameBut r s.heap h' → SetR w h' r U j → (∀ e ∈ out.toList, GoodE e) → (out.toList.map keyOf).Nodup → (∀ k, S k = true ↔ k ∈ out.toList.map keyOf) → out.toList.length = n → Q out { s with heap := h', drawn := d }) :
    wpAny (model P w) A (setWalkUnseen a [b, r] (some r)) Q E s := by
  have Ra' := Ra
  have Rr' := Rr
  obtain ⟨o, es, ep, t, ho, hex, hd, g, nd, hm, hbd, hf, hn, hri, hle⟩ := Ra'
  have fin : ∀ (out : Array (Int × Value)) h' d, out.toList.Perm es.toList → Heap.SameBut r s.heap h' → SetR w h' r U j → Q out { s with heap := h', drawn := d } := fun out h' d pm sb Rr => by
    have pk := pm.map keyOf
    exact h out h' d sb Rr (fun e he => g e (pm.mem_iff.mp he)) (pk.nodup_iff.mpr nd) (fun k => (hm k).trans pk.mem_iff.symm) (by rw [pm.length_eq, Array.length_toList, hn])
  have walk : wpAny (model P w) A (setWalk a) Q E s := walk_ok ho hd hf hle fun out d pm => fin out s.heap d pm (Heap.SameBut.refl r s.heap) Rr
  unfold setWalkUnseen
  refine wpAny_bind (wpAny_setState_of ho hd hf ?_)
  refine wpAny_bind (wpAny_byText ?_)
  split
  · exact walk
  · rename_i hc
    have hby : ¬ w.params.followText "set-order" = true := fun e => hc (by rw [e]; rfl)
    refine wpAny_bind (quiet_ok (fun x hx => ?_) ?_)
    · simp only [List.mem_cons, List.not_mem_nil, or_false] at hx
      rcases hx with rfl | rfl | rfl
      · exact ⟨S, n, Ra⟩
      · exact ⟨T, m, Rb⟩
      · exact ⟨U, j, Rr⟩
    · dsimp only
      refine wpAny_bind (wpAny_rule ?_)
      obtain ⟨or_, es2, ep2, t2, ho2, hex2, hd2, g2, nd2, hm2, hbd2, hf2, hn2, hri2, hle2⟩ := Rr'
      refine wpAny_bind (wpAny_setState_of ho2 hd2 hf2 ?_)
      dsimp only
      split
      · refine wpAny_bind (wpAny_storeSet_of ho2 hd2 ?_ (fits_of_scanBound hbd2))
        refine wpAny_pure ?_
        refine fin es _ s.drawn (List.Perm.refl _) (Heap.SameBut.update s.heap r _) ?_
        refine ⟨_, es2, _, _, store_at (es' := es2) ho2 hd2, hex2, rfl, g2, nd2, hm2, hbd2, ?_, hn2, ?_, ?_⟩
        · cases t2; exact hf2
        · exact hri2
        · exact .inr (by rw [hle2.resolve_left hby, hle.resolve_left hby]; rfl)
      · exact wpAny_pure (fin es s.heap s.drawn (List.Perm.refl _) (Heap.SameBut.refl r s.heap) Rr)
theorem new_ok {Q : Value → Shared → Prop} (h : Q (.ref s.heap.objs.size) { s with heap := s.heap.push { cls := .type "set", dict := none, data := .set #[] 0 (.fresh 0 0 (!w.params.followText "set-order")) } }) :
    wpAny (model P w) A (newSet (.type "set")) Q E s := by
  unfold newSet
  refine wpAny_bind (wpAny_byText ?_)
  dsimp only
  simp only [newObj]
  exact wpAny_bind (wpAny_alloc (wpAny_pure h))
theorem size_ok {Q : Nat → Shared → Prop} (R : SetR w s.heap a S n) (h : Q n s) : wpAny (model P w) A (Builtin.Frozenset.sizeOf a) Q E s := by
  obtain ⟨o, es, ep, t, ho, hex, hd, g, nd, hm, hbd, hf, hn, hri, hle⟩ := R
  unfold Builtin.Frozenset.sizeOf
  refine wpAny_bind (wpAny_setEntries_of ho hd hf (wpAny_pure ?_))
  rw [hn]
  exact h
theorem sub_ok {id : String} {Q : Value → Shared → Prop} (Ra : SetR w s.heap a S n) (Rb : SetR w s.heap b T m) (hsz : n / 4 ≤ m)
    (hQ : ∀ h' d r U j, (∀ x o, s.heap.get? x = some o → h'.get? x = some o) → s.heap.objs.size ≤ r → SetR w h' r U j → (∀ k, U k = (S k && !T k)) → Q (.ref r) { s with heap := h', drawn := d }) :
    wpAny (model P w) A (Builtin.Frozenset.difference id a (.ref b)) Q E s := by
  unfold Builtin.Frozenset.difference
  refine wpAny_bind (any_set (SetR.type Rb rfl) ?_)
  dsimp only
  unfold Builtin.Frozenset.addrOf
  refine wpAny_bind (wpAny_pure ?_)
  simp only [Bool.not_true, Bool.false_and, Bool.false_eq_true, if_false, if_true]
  refine wpAny_bind (size_ok Rb ?_)
  refine wpAny_bind (size_ok Ra ?_)
  rw [if_neg (by omega)]
  have Ra' := Ra
  obtain ⟨o, es, ep, t, ho, hex, hd, g, nd, hm, hbd, hf, hn, hri, hle⟩ := Ra'
  unfold Builtin.Frozenset.baseOf
  refine wpAny_bind (wpAny_bind (wpAny_isInstance (SetR.type Ra rfl) sub_set_self (wpAny_pure ?_)))
  refine wpAny_bind (new_ok ?_)
  have fresh := setR_fresh (h := s.heap) w
  have gt : ∀ x o, s.heap.get? x = some o → (s.heap.push { cls := .type "set", dict := none, data := .set #[] 0 (.fresh 0 0 (!w.params.followText "set-order")) }).get? x = some o := fun x o e => Heap.get?_push_of_some _ e
  have Ra1 := Ra.at (h' := s.heap.push { cls := .type "set", dict := none, data := .set #[] 0 (.fresh 0 0 (!w.params.followText "set-order")) }) (fun o e => gt _ o e)
  have Rb1 := Rb.at (h' := s.heap.push { cls := .type "set", dict := none, data := .set #[] 0 (.fresh 0 0 (!w.params.followText "set-order")) }) (fun o e => gt _ o e)
  have ho1 := gt _ _ ho
  have la := Ra.lt
  have lb := Rb.lt
  generalize s.heap.push { cls := .type "set", dict := none, data := .set #[] 0 (.fresh 0 0 (!w.params.followText "set-order")) } = h1 at *
  refine wpAny_bind (wpAny_pure ?_)
  refine wpAny_bind (wpAny_setEpoch_of ho1 hd hf ?_)
  refine wpAny_bind (wpAny_holding ?_)
  refine wpAny_bind (unseen_ok Ra1 Rb1 fresh (Nat.ne_of_gt la) fun out h2 d2 sb2 Rr2 hg hnd hmem hlen => ?_)
  refine wpAny_bind (wpAny_forIn_array' _ (fun l _ s' => ∃ (done : List (Int × Value)) (U : Int → Bool) (j : Nat) (h3 : Heap) , s' = { s with heap := h3, drawn := d2 } ∧ done ++ l = out.toList ∧ Heap.SameBut s.heap.objs.size h1 h3 ∧ SetR w h3 s.heap.objs.size U j ∧ (∀ k, U k = (decide (k ∈ done.map keyOf) && !T k)) ∧ j ≤ done.length) _ (fun e l c s₂ hI => ?_) (fun c s₂ hI => ?_) _ _ ⟨[], _, _, h2, rfl, rfl, sb2, Rr2, fun k => by simp, Nat.le_refl _⟩)
  · obtain ⟨done, U, j, h3, rfl, he, sb, Rr, hU, hj⟩ := hI
    have hin : e ∈ out.toList := by rw [← he]; simp
    obtain ⟨k, tk, e1, e2⟩ := hg e hin
    obtain ⟨eh, ev⟩ := e
    cases (show ev = Value.int k tk from e1)
    cases (show eh = hashInt k from e2)
    have k3 : ∀ x o, s.heap.get? x = some o → h3.get? x = some o := fun x o e => by rw [sb.2 x (Nat.ne_of_lt (Heap.lt_size e))]; exact gt x o e
    have Rb3 := Rb.at (h' := h3) (fun o e => k3 _ o e)
    have hlen2 : done.length + (l.length + 1) = n := by rw [← hlen, ← he, List.length_append, List.length_cons]
    refine wpAny_bind (wpAny_holding ?_)
    refine wpAny_bind (wpAny_setFind_of (s := { s with heap := h3, drawn := d2 }) (knd := intKind P w) (intKind_is P w k tk) rfl Rb3.setOf fun q hq => ?_)
    refine wpAny_bind (wpAny_pure ?_)
    rw [hq]
    have ext : ∀ U' : Int → Bool, (∀ i, U' i = (U i || (decide (i = k) && !T k))) → ∀ i, U' i = (decide (i ∈ (done ++ [(hashInt k, Value.int k tk)]).map keyOf) && !T i) := fun U' h i => by
      have e : keyOf (hashInt k, Value.int k tk) = k := rfl
      rw [h i, hU i]
      simp only [List.map_append, List.mem_append, List.map_cons, List.map_nil, List.mem_singleton, e]
      by_cases e2 : i = k
      · subst e2
        simp
        try (cases T i <;> simp)
      · simp [e2]
    have un : ∀ h4, (∀ x o, s.heap.get? x = some o → h4.get? x = some o) → ∀ {Q' : Unit → Shared → Prop}, Q' () { s with heap := h4, drawn := d2 } → wpAny (model P w) A (Builtin.Frozenset.unchanged id a ep) Q' E { s with heap := h4, drawn := d2 } := fun h4 k4 Q' q => by
      unfold Builtin.Frozenset.unchanged
      refine wpAny_bind (wpAny_setEpoch_of (k4 _ _ ho) hd hf ?_)
      rw [if_neg (by simp)]
      exact wpAny_pure q
    cases hT : T k with
    | true =>
      refine wpAny_pure ?_
      refine wpAny_bind (un h3 k3 ?_)
      refine wpAny_pure ⟨done ++ [(hashInt k, Value.int k tk)], U, j, h3, rfl, by rw [← he]; simp, sb, Rr, ext U fun i => ?_, by rw [List.length_append]; omega⟩
      rw [hT]
      simp
    | false =>
      refine wpAny_bind (setR_add_hashed (s := { s with heap := h3, drawn := d2 }) Rr (by omega) fun h4 sb4 Rr4 => wpAny_pure ?_)
      have sb5 := sb.trans sb4
      have k5 : ∀ x o, s.heap.get? x = some o → h4.get? x = some o := fun x o e => by rw [sb5.2 x (Nat.ne_of_lt (Heap.lt_size e))]; exact gt x o e
      refine wpAny_bind (un h4 k5 ?_)
      refine wpAny_pure ⟨done ++ [(hashInt k, Value.int k tk)], _, _, h4, rfl, by rw [← he]; simp, sb5, Rr4, ext _ fun i => ?_, ?_⟩
      · rw [hT]
        simp
      · rw [List.length_append, List.length_singleton]
        split <;> omega
  · obtain ⟨done, U, j, h3, rfl, he, sb, Rr, hU, hj⟩ := hI
    rw [List.append_nil] at he
    subst he
    refine wpAny_pure (wpAny_pure ?_)
    refine hQ h3 d2 _ U j (fun x o e => by rw [sb.2 x (Nat.ne_of_lt (Heap.lt_size e))]; exact gt x o e) (Nat.le_refl _) Rr fun k => ?_
    rw [hU k]
    congr 1
    rw [Bool.eq_iff_iff, decide_eq_true_eq]
    exact (hmem k).symm
theorem op_sub_set {Q : Value → Shared → Prop} (Ra : SetR w s.heap a S n) (Rb : SetR w s.heap b T m) (hsz : n / 4 ≤ m)
    (hQ : ∀ h' d r U j, (∀ x o, s.heap.get? x = some o → h'.get? x = some o) → s.heap.objs.size ≤ r → SetR w h' r U j → (∀ k, U k = (S k && !T k)) → Q (.ref r) { s with heap := h', drawn := d }) :
    wpAny (model P w) A (binaryOp .Sub (.ref a) (.ref b)) Q E s := by
  refine wpAny_binaryOp_same (T := "set") (SetR.type Ra rfl) (SetR.type Rb rfl) fills_set_sub slot_set_sub ?_
  refine wpAny_call_entry slot_set_sub (SetR.type Ra rfl) entry_set_sub ?_ (args_set_sub _ _)
  rw [sub_body]
  unfold Builtin.Frozenset.slot1 slotArgs
  simp only [List.isEmpty_nil, Bool.not_true, Bool.false_eq_true, ↓reduceIte, bind_assoc, List.length_cons, List.length_nil, bne_self_eq_false]
  refine wpAny_bind (wpAny_pure ?_)
  refine wpAny_bind (wpAny_pure ?_)
  refine wpAny_bind (wpAny_bind (any_set (SetR.type Ra rfl) ?_))
  show wpAny _ _ (Builtin.Frozenset.isAnySet (Value.ref b)) _ _ _
  refine any_set (SetR.type Rb rfl) ?_
  simp only [Bool.not_true, Bool.false_eq_true, if_false]
  unfold Builtin.Frozenset.addrOf
  refine wpAny_bind (wpAny_pure ?_)
  refine wpAny_bind (sub_ok Ra Rb hsz fun h' d r U j k hr R hU => ?_)
  exact wpAny_pure ⟨_, rfl, by simp, hQ h' d r U j k hr R hU⟩
end
section
variable {X : Cx} {p p2 p3 q q2 pos pos2 : Pos}
def tLenD (K : PySem.W.Frag) (ta tb : TE) : TE := fun σ H Q => ta σ H fun x H1 => ∃ (l : Addr) (ns : List Int), x = .ref l ∧ SqT K H1 l (ns.map V.int) ∧ ns.length ≤ 4000 ∧
  tb σ H1 fun y H2 => ∃ (l2 : Addr) (ms : List Int), y = .ref l2 ∧ SqT K H2 l2 (ms.map V.int) ∧ ms.length ≤ 4000 ∧ (dedI ns).length / 4 ≤ (dedI ms).length ∧ Q (.int (dedI (ns.filter fun k => !decide (k ∈ ms))).length) H2
theorem setR_len {w : World} {h : Heap} {a : Addr} {S : Int → Bool} {c : Nat} {ns : List Int} (R : SetR w h a S c) (e : ∀ k, S k = true ↔ k ∈ ns) : c = (dedI ns).length := by
  obtain ⟨o, es, ep, t, ho, hex, hd, _, nd, hm, _, hf, hn, _⟩ := R
  rw [← hn, ← ded_len nd fun k => by rw [← hm k]; exact e k]
  simp
theorem pe_lenD {a b : Expr} {ta tb : TE} (hc : X.calm = true) (hg : Gl X "len") (hm : X.mg "len" = none) (hg2 : Gl X "set") (hm2 : X.mg "set" = none) (ha : PE X a ta) (hb : PE X b tb) (na : starEach [a] X.env = (false, eval a X.env) :: starEach [] X.env) (nb : starEach [b] X.env = (false, eval b X.env) :: starEach [] X.env) :
    PE X (.Call (.Name "len" p) [.BinOp (.Call (.Name "set" p2) [a] [] q) .Sub (.Call (.Name "set" p3) [b] [] q2) pos2] [] pos) (tLenD X.K ta tb) := by
  refine ⟨fun pins s σ H Q I h => ?_⟩
  refine Call_ (ld_blt I hg hm boot_len ?_)
  refine callWith_builtin1 (args_cons ?_ rfl) rfl rfl
  refine wpAny_BinOp ?_
  refine Call_ (ld_blt I hg2 hm2 boot_set ?_)
  refine callWith_type1 (args_cons (thn (ha.run pins s σ H _ I h) fun v s1 ⟨x, H1, I1, r1, q1⟩ => args_nil ?_) na) na rfl
  obtain ⟨l, ns, rfl, hq, hl, q1⟩ := q1
  cases r1
  obtain ⟨its, r, pl, hz⟩ := I1.tuple hq
  refine call_set_tupI ns (I1.ok.hd hc) pl (by simpa using RZ.intsAre_vals r) (by unfold scanBound; omega) fun h' tk c R1 hcl hk => ?_
  have J : Inv X pins σ H1 { s1 with heap := h', toks := tk } := I1.kept fun b o e => hk b o e
  have R1' := R1
  obtain ⟨o, es, ep, t, ho, hex, hd, g1⟩ := R1'
  have J2 : Inv X ((s1.heap.objs.size, o) :: pins) σ H1 { s1 with heap := h', toks := tk } := J.pins_of fun z hz => by
    rcases List.mem_cons.mp hz with rfl | hz
    · exact ⟨ho, I1.hok.fresh (Nat.le_refl _), Nat.ne_of_gt I1.lt, I1.nofs (Nat.le_refl _), fun v e => by
        have e : o.data = .cell v := e
        rw [hd] at e
        cases e⟩
    · exact J.pin z (List.mem_append_right _ hz)
  refine Call_ (ld_blt J2 hg2 hm2 boot_set ?_)
  refine callWith_type1 (args_cons (thn (hb.run _ _ σ H1 _ J2 q1) fun v s2 ⟨y, H2, I2, r2, q2⟩ => args_nil ?_) nb) nb rfl
  obtain ⟨l2, ms, rfl, hq2, hl2, hsz, q2⟩ := q2
  cases r2
  have ho2 : s2.heap.get? s1.heap.objs.size = some o := (I2.pin (s1.heap.objs.size, o) (List.mem_append_right _ (List.mem_cons_self ..))).1
  have R1b : SetR X.w s2.heap s1.heap.objs.size (fun j => decide (j ∈ ns)) c := ⟨o, es, ep, t, ho2, hex, hd, g1⟩
  obtain ⟨its2, r2, pl2, hz2⟩ := I2.tuple hq2
  refine call_set_tupI ms (I2.ok.hd hc) pl2 (by simpa using RZ.intsAre_vals r2) (by unfold scanBound; omega) fun h2 tk2 c2 R2 hcl2 hk2 => ?_
  have e1 : c = (dedI ns).length := setR_len R1 fun k => by simp
  have e2 : c2 = (dedI ms).length := setR_len R2 fun k => by simp
  refine op_sub_set (s := { s2 with heap := h2, toks := tk2 }) (R1b.at (h' := h2) fun o e => hk2 _ o e) R2 (by rw [e1, e2]; exact hsz) fun h3 d r U j k3 hr R3 hU => ?_
  refine args_nil ?_
  have e3 : j = (dedI (ns.filter fun k => !decide (k ∈ ms))).length := setR_len R3 fun k => by
    rw [hU k, List.mem_filter, Bool.and_eq_true, decide_eq_true_eq]
  obtain ⟨o3, es3, ep3, t3, ho3, hex3, hd3, _, _, _, hb3, hf3, hn3, _⟩ := R3
  have K2 : Inv X pins σ H2 s2 := I2.pins_of fun z hz => I2.pin z (List.mem_append_right _ (List.mem_cons_of_mem _ hz))
  have kk : ∀ b u, s2.heap.get? b = some u → h3.get? b = some u := fun b u e => k3 b u (hk2 b u e)
  have K3 : Inv X pins σ H2 { s2 with heap := h3, drawn := d, toks := tk2 } := K2.call (ch := []) (Un.kept kk) (K2.hok.kept kk) K2.bare (fun _ z => nomatch z)
  exact call_len_set (s := { s2 with heap := h3, drawn := d, toks := tk2 }) ho3 hex3 hd3 hf3 (by unfold scanBound at hb3; omega) ⟨.int (dedI (ns.filter fun k => !decide (k ∈ ms))).length, H2, K3.tok _, ⟨_, by rw [hn3, e3]⟩, q2⟩
end
section
variable {K : PySem.W.Frag}
theorem imp_lenD {wa wb : WE} {ta tb : TE} (ha : Imp K wa ta) (hb : Imp K wb tb) : Imp K (wMt .lend wa (wCons wb wNil)) (tLenD K ta tb) := fun B σ P G H Γ c Q R a w k => by
  refine ha B σ P G H Γ c _ _ a w fun x P1 G1 H1 c1 zx s1 w1 r1 q1 => ?_
  obtain ⟨dx, ex, hm, q1⟩ := dv_of q1
  cases dx with
  | tuple xs =>
    obtain ⟨hm1, hm2⟩ := (show (ints? xs).isSome = true ∧ xs.length ≤ 4000 from hm)
    obtain ⟨ns, en⟩ := Option.isSome_iff_exists.mp hm1
    obtain ⟨l, us, rfl, hs, gs, da⟩ := r1.tup w1 ex
    have ex2 := ints?_eq en
    subst ex2
    refine ⟨l, ns, rfl, by rw [← da.ints]; exact hs, by simpa using hm2, ?_⟩
    refine hb B σ P1 G1 H1 Γ c1 _ _ (a.step s1 w1) q1 fun y P2 G2 H2 c2 zy s2 w2 r2 q2 => ?_
    obtain ⟨ds, q, e⟩ := dvs_of (B := B) (.cons r2 .nil) q2
    unfold wMth at q
    split at q <;> first | exact q.elim | (rename_i h1 h2; cases h1; done) | skip
    all_goals first | contradiction | skip
    rename_i xs' ys h2
    cases h2
    obtain ⟨z, v, hz, hv, r, ey⟩ := zrs1 (.cons r2 .nil) e
    cases hz
    cases hv
    obtain ⟨ns', ms, en', em, hl2, hsz, q⟩ := q
    rw [en] at en'
    cases en'
    obtain ⟨l2, vs, rfl, hs2, gs2, db⟩ := r.tup w2 ey
    rw [ints?_eq em] at db
    exact ⟨l2, ms, rfl, by rw [← db.ints]; exact hs2, hl2, hsz, k _ P2 G2 H2 c2 (.d _) (s1.trans s2) w2 (show Dq K _ _ _ from .int _) q⟩
  | _ => exact hm.elim
end
end Z
/-! Z13 -/
set_option maxRecDepth 100000
/-! from the text to its short form -/
namespace Z
open PySem PySem.Spec PyProof.Rows L2
/-- where a piece of text stands -/
structure CE where
  N : List Str
  sc : Scope
  fn : Str → Bool
  fs : List Str
  gs : List Str
  bs : List Str
  ks : List (Str × List Str)
  ds : List Str
def ixOf : List Str → Str → Option Nat
  | [], _ => none
  | y :: r, x => if y = x then some 0 else (ixOf r x).map (· + 1)
theorem ixOf_get : ∀ {l : List Str} {x : Str} {i : Nat}, ixOf l x = some i → l[i]? = some x
  | [], _, _, h => by cases h
  | y :: r, x, i, h => by
    unfold ixOf at h
    split at h
    · rename_i e
      cases h
      rw [e]; rfl
    · cases q : ixOf r x with
      | none => rw [q] at h; cases h
      | some j =>
        rw [q] at h
        cases h
        simpa using ixOf_get q
def visB (sc : Scope) (x : Str) : Bool := match sc.names.lookup x with
  | some .local => true
  | some .cell => true
  | some .free => true
  | _ => false
theorem visB_ok {sc : Scope} {x : Str} (h : visB sc x = true) : Vis sc x := by
  unfold visB at h
  split at h <;> first | (cases h; done) | skip
  · exact .inl (by assumption)
  · exact .inr (.inl (by assumption))
  · exact .inr (.inr (by assumption))
def glB (sc : Scope) (x : Str) : Bool := match sc.names.lookup x with
  | some .globalImplicit => true
  | _ => false
theorem glB_ok {sc : Scope} {x : Str} (h : glB sc x = true) : sc.names.lookup x = some .globalImplicit := by
  unfold glB at h
  split at h
  · assumption
  · cases h
/-- may be stored to: its slot -/
def locB (C : CE) (x : Str) : Bool := match C.sc.names.lookup x with
  | some .local => true
  | some .cell => C.fn x
  | _ => false
def dbg : Str := "__debug__"
def cdc : Str := "__classdict__"
def okN (x : Str) : Bool := !(x == dbg) && !(x == cdc)
/-- neither a star nor a set's display -/
def plainX : Expr → Bool
  | .Starred _ _ => false
  | .Set _ _ _ => false
  | .Slice _ _ _ _ => false
  | _ => true
/-- has methods of its own value -/
def recvX : Expr → Bool
  | .Name _ _ => true
  | .Call _ (_ :: _) _ _ => true
  | .Subscript _ _ _ => true
  | .List _ _ => true
  | _ => false
def isTupX : Expr → Bool
  | .Tuple _ _ _ => true
  | _ => false
def bfL : List (String × Bf) := [("len", .len), ("abs", .abs), ("max", .max), ("min", .min), ("sum", .sum), ("all", .all), ("any", .any), ("sorted", .sorted), ("tuple", .tuple), ("list", .list), ("int", .int), ("repr", .repr), ("str", .str), ("bool", .bool)]
def bfGo : List (String × Bf) → Str → Option Bf
  | [], _ => none
  | (n, b) :: r, f => if f = Str.ofString n then some b else bfGo r f
def bfOf (f : Str) : Option Bf := bfGo bfL f
def cName (C : CE) (x : Str) : Option IE :=
  if okN x then
    if visB C.sc x then (ixOf C.N x).map .var
    else if glB C.sc x then (ixOf C.gs x).map .glb else none
  else none
def cAll (rec : Expr → Option IE) : List Expr → Option (List IE)
  | [] => some []
  | e :: es => if plainX e then (match rec e, cAll rec es with
    | some a, some as => some (a :: as)
    | _, _ => none) else none
def cBool (rec : Expr → Option IE) (mk : IE → IE → IE) : List Expr → Option IE
  | [e] => rec e
  | e :: es => match rec e, cBool rec mk es with
    | some a, some b => some (mk a b)
    | _, _ => none
  | [] => none
def cO (rec : Expr → Option IE) : Option Expr → Option (Option IE)
  | none => some none
  | some e => (rec e).map some
def isiOf (C : CE) (e : Expr) : Option String := match e with
  | .Name x _ => if glB C.sc x && okN x && decide (x ∈ C.bs) then
      (if x = "int" then some "int" else if x = "bool" then some "bool" else if x = "str" then some "str" else if x = "tuple" then some "tuple" else if x = "list" then some "list" else none) else none
  | _ => none
def cCall (C : CE) (rec : Expr → Option IE) (f : Str) (args : List Expr) : Option IE :=
  if glB C.sc f && okN f then
    match ixOf C.fs f with
    | some k => (cAll rec args).map (.call k)
    | none =>
      if decide (f ∈ C.bs) then
        match args with
        | [] => none
        | e :: es => if f = "isinstance" then (match es with
            | [t] => (match isiOf C t with
              | some T => if plainX e then (rec e).map (fun a => .isi a T) else none
              | none => none)
            | _ => none) else
          match bfOf f with
          | some b => (cAll rec (e :: es)).map (.blt b)
          | none => none
      else none
  else none
def ownOf (N : List Str) : List (Str × NameKind) → List (Str × Nat)
  | [] => []
  | (y, k) :: r => match k, ixOf N y with
    | .local, some i => (y, i) :: ownOf N r
    | .cell, some i => (y, i) :: ownOf N r
    | _, _ => ownOf N r
/-- within a comprehension's block -/
def CE.blk (C : CE) (scope : Scope) : CE := { C with sc := relS scope C.sc, fn := fun x => scope.names.lookup x == some .cell }
mutual
def cTg (C : CE) : Nat → Expr → Option Tg
  | 0, _ => none
  | n + 1, .Name x _ => if locB C x then (ixOf C.N x).map .n else none
  | n + 1, .Tuple es _ _ => (cTgs C n es).map .t
  | _ + 1, _ => none
def cTgs (C : CE) : Nat → List Expr → Option (List Tg)
  | 0, _ => none
  | _ + 1, [] => some []
  | n + 1, e :: es => if plainX e then (match cTg C n e, cTgs C n es with
    | some a, some as => some (a :: as)
    | _, _ => none) else none
end
/-- a, b, *rest -/
def cStar (C : CE) (n : Nat) : List Expr → Option (List Tg × Nat)
  | [] => none
  | [.Starred (.Name x _) _] => if locB C x then (ixOf C.N x).map fun i => ([], i) else none
  | e :: es => if plainX e then (match cTg C n e, cStar C n es with
    | some a, some (as, i) => some (a :: as, i)
    | _, _ => none) else none
def plainI : IE → Bool
  | .blt .range _ => false
  | .blt .zip _ => false
  | .blt .enum _ => false
  | .blt .rev _ => false
  | _ => true
def plainT : IE → Bool
  | .and _ _ => false
  | .or _ _ => false
  | .not _ => false
  | .cmp _ _ _ => false
  | .chn _ _ _ _ _ => false
  | _ => true
def onlyT (o : Option IE) : Option IE := match o with
  | some ie => if plainT ie then some ie else none
  | none => none
def onlyI (o : Option IE) : Option IE := match o with
  | some ie => if plainI ie then some ie else none
  | none => none
def subS (a b : List Nat) : Bool := a.all fun i => decide (i ∈ b)
/-- what is walked -/
def cI (C : CE) (rec : Expr → Option IE) (tg : Expr) (it : Expr) : Option IE :=
  if plainX it then
    match it with
    | .Call (.Name f _) [a] [] _ =>
      if glB C.sc f && okN f && decide (f ∈ C.bs) && (ixOf C.fs f).isNone && decide (f = "range") then (if plainX a then (rec a).map fun a => .blt .range [a] else none)
      else if glB C.sc f && okN f && decide (f ∈ C.bs) && (ixOf C.fs f).isNone && decide (f = "enumerate") then (if plainX a && isTupX tg then (rec a).map fun a => .blt .enum [a] else none)
      else onlyI (rec it)
    | .Call (.Name f _) [a, b] [] _ =>
      if glB C.sc f && okN f && decide (f ∈ C.bs) && (ixOf C.fs f).isNone && decide (f = "range") then (if plainX a && plainX b then (match rec a, rec b with | some a, some b => some (.blt .range [a, b]) | _, _ => none) else none)
      else if glB C.sc f && okN f && decide (f ∈ C.bs) && (ixOf C.fs f).isNone && decide (f = "zip") then (if plainX a && plainX b && isTupX tg then (match rec a, rec b with | some a, some b => some (.blt .zip [a, b]) | _, _ => none) else none)
      else onlyI (rec it)
    | _ => onlyI (rec it)
  else none
/-- joined forms, calls by keywords -/
inductive Hk where
  | x (k : Xk)
  | k (j : Nat)
  | d
def mkH : Hk → List IE → IE
  | .x k, es => .ext k es
  | .k j, es => .call (100 + j) es
  | .d, [a, b] => .mth .lend a [b]
  | .d, _ => .non
def kixOf : List (Str × List Str) → Str → List Str → Option Nat
  | [], _, _ => none
  | (y, ms) :: r, x, ns => if y = x ∧ ms = ns then some 0 else (kixOf r x ns).map (· + 1)
theorem kixOf_get : ∀ {l : List (Str × List Str)} {x : Str} {ns : List Str} {i : Nat}, kixOf l x ns = some i → l[i]? = some (x, ns)
  | [], _, _, _, h => by cases h
  | (y, ms) :: r, x, ns, i, h => by
    unfold kixOf at h
    split at h
    · rename_i e
      cases h
      rw [e.1, e.2]; rfl
    · cases q : kixOf r x ns with
      | none => rw [q] at h; cases h
      | some j =>
        rw [q] at h
        cases h
        simpa using kixOf_get q
def kwN : List Keyword → Option (List Str)
  | [] => some []
  | ⟨some x, _, _⟩ :: r => (kwN r).map (x :: ·)
  | ⟨none, _, _⟩ :: _ => none
def kwE : List Keyword → List Expr
  | [] => []
  | ⟨_, e, _⟩ :: r => e :: kwE r
/-- a name that stands for the built-in -/
def bltB (C : CE) (f : Str) : Bool := glB C.sc f && okN f && decide (f ∈ C.bs) && (ixOf C.fs f).isNone
def cHook (C : CE) : Expr → Option (Hk × List Expr)
  | .Call (.Name f _) [.Call (.Name g _) [a] [] _] [] _ => if bltB C f && bltB C g && decide (g = "set") && plainX a then (if f = "len" then some (.x .lenset, [a]) else if f = "sorted" then some (.x .srtset, [a]) else none) else none
  | .Call (.Name f _) [.BinOp (.Call (.Name g _) [a] [] _) .Sub (.Call (.Name g2 _) [b] [] _) _] [] _ => if bltB C f && bltB C g && bltB C g2 && decide (f = "len") && decide (g = "set") && decide (g2 = "set") && plainX a && plainX b then some (.d, [a, b]) else none
  | .Call (.Name f _) [] (kw :: kws) _ => if glB C.sc f && okN f then (match kwN (kw :: kws) with
    | some ns => (match kixOf C.ks f ns with
      | some j => some (.k j, kwE (kw :: kws))
      | none => none)
    | none => none) else none
  | _ => none
def recvDX (o : Expr) : Bool := match o with
  | .Dict _ _ _ => true
  | o => recvX o
/-- a written key -/
def keyX : Option Expr → Option Key
  | some (.Constant (.int i) _ _) => some (.inl i)
  | some (.Constant (.str x) _ _) => some (.inr x)
  | _ => none
def keysX : List (Option Expr) → Option (List Key)
  | [] => some []
  | e :: r => match keyX e, keysX r with
    | some k, some ks => some (k :: ks)
    | _, _ => none
/-- a module's dict -/
def mdX (C : CE) (x : Str) : Option Nat := if glB C.sc x && okN x && !visB C.sc x then ixOf C.ds x else none
/-- further forms -/
def cHx (rec : Expr → Option IE) (C : CE) : Expr → Option IE
  | .Dict keys vals _ => (match keysX keys, cAll rec vals with
    | some ks, some vs => if decide (ks.length = vs.length) && decide (keys.length = vals.length) && decide (ks.length ≤ 15) then some (.ext (.dsp ks) vs) else none
    | _, _ => none)
  | .Subscript (.Name x _) i _ => (match mdX C x with
    | some j => if plainX i then (rec i).map fun a => .ext (.gix j) [a] else none
    | none => none)
  | .Call (.Attribute (.Name x _) m ap) [a, b] [] cp => (match mdX C x with
    | some j => if m = "get" && ap.endLine == cp.line && plainX a && plainX b then (match rec a, rec b with
      | some a, some b => some (.ext (.gget j) [a, b])
      | _, _ => none) else none
    | none => none)
  | .Call (.Attribute o m ap) [a] [] cp => if m = "get" && ap.endLine == cp.line && recvDX o && plainX a then (match rec o, rec a with
      | some o, some a => some (.mth .get o [a])
      | _, _ => none) else none
  | .Call (.Attribute o m ap) [] [] cp => if m = "upper" && ap.endLine == cp.line && recvX o then (rec o).map fun o => .ext .upper [o] else none
  | .Call (.Name f _) [.Name x _] [] _ => if bltB C f && decide (f = "list") then (match mdX C x with
    | some j => some (.ext (.gkeys j) [])
    | none => none) else none
  | .Call (.Name f _) [.Call (.Name g _) [a] [] _] [] _ => if bltB C f && decide (f = "list") && bltB C g && decide (g = "range") && plainX a then (rec a).map fun a => .ext .lrng [a] else none
  | .BinOp (.List es _) .Mult b _ => (match cAll rec es, rec b with
    | some es, some b => some (.ext .repl [.lst es, b])
    | _, _ => none)
  | _ => none
def cHx2 (rec : Expr → Option IE) : Expr → Option IE
  | .Subscript e (.Slice none none (some (.UnaryOp .USub (.Constant (.int 1) _ _) _)) _) _ => (rec e).map fun a => .ext .rev [a]
  | .Call (.Attribute o m ap) [a, b] [] cp => if m = "get" && ap.endLine == cp.line && recvDX o && plainX a && plainX b then (match rec o, rec a, rec b with
      | some o, some a, some b => some (.mth .get o [a, b])
      | _, _, _ => none) else none
  | _ => none
def orE (a b : Option IE) : Option IE := match a with
  | some x => some x
  | none => b
mutual
def cE : Nat → CE → Expr → Option IE
  | 0, _, _ => none
  | n + 1, C, e => match cHook C e with
    | some (k, args) => (cAll (cE n C) args).map (mkH k)
    | none => match orE (cHx (cE n C) C e) (cHx2 (cE n C) e) with
    | some ie => some ie
    | none => match e with
    | .Constant (.int i) _ _ => some (.int i)
    | .Constant (.bool b) _ _ => some (.bl b)
    | .Constant .none _ _ => some .non
    | .Constant (.str s) _ _ => some (.str s)
    | .Name x _ => cName C x
    | .Tuple es _ _ => (cAll (cE n C) es).map .tup
    | .List es _ => (cAll (cE n C) es).map .lst
    | .BinOp a op b _ => (match cE n C a, cE n C b with
      | some a, some b => some (.bin op a b)
      | _, _ => none)
    | .UnaryOp .USub a _ => (cE n C a).map .neg
    | .UnaryOp .Not a _ => (cE n C a).map .not
    | .BoolOp .And es _ => cBool (cE n C) .and es
    | .BoolOp .Or es _ => cBool (cE n C) .or es
    | .Compare a [op] [b] _ => if plainX b then (match cE n C a, cE n C b with
      | some a, some b => some (.cmp op a b)
      | _, _ => none) else none
    | .Compare a [op, op'] [b, c] _ => if plainX b && plainX c then (match cE n C a, cE n C b, cE n C c with
      | some a, some b, some c => some (.chn op op' a b c)
      | _, _, _ => none) else none
    | .IfExp t a b _ => (match cT n C t, cE n C a, cE n C b with
      | some t, some a, some b => some (.ite t a b)
      | _, _, _ => none)
    | .Subscript a (.Slice lo hi none _) _ => (match cE n C a, cO (cE n C) lo, cO (cE n C) hi with
      | some a, some l, some h => some (.sl a l h)
      | _, _, _ => none)
    | .Subscript a i _ => if plainX i then (match cE n C a, cE n C i with
      | some a, some i => some (.ix a i)
      | _, _ => none) else none
    | .Call (.Name f _) args [] _ => cCall C (cE n C) f args
    | .Call (.Attribute o m ap) [a] [] cp => if m = "index" && ap.endLine == cp.line && recvX o && plainX a then (match cE n C o, cE n C a with
      | some o, some a => some (.mth .index o [a])
      | _, _ => none) else none
    | .ListComp elt [⟨tg, it, ifs, 0⟩] scope _ =>
      let ow := ownOf C.N scope.names
      if blkC C.N C.sc scope ow then (match cI C (cE n C) tg it, cTg (C.blk scope) n tg, cE n (C.blk scope) elt, cIfs n (C.blk scope) ifs with
        | some it, some tg, some elt, some cd => if subS (tgS tg) (ow.map (·.2)) then some (.lc (ow.map (·.2)) tg it cd elt) else none
        | _, _, _, _ => none) else none
    | .ListComp elt [⟨tg, it, ifs, 0⟩, ⟨tg2, it2, ifs2, 0⟩] scope _ =>
      let ow := ownOf C.N scope.names
      if blkC C.N C.sc scope ow then (match cI C (cE n C) tg it, cTg (C.blk scope) n tg, cIfs n (C.blk scope) ifs, cI (C.blk scope) (cE n (C.blk scope)) tg2 it2, cTg (C.blk scope) n tg2, cIfs n (C.blk scope) ifs2, cE n (C.blk scope) elt with
        | some it, some tg, some cd, some it2, some tg2, some cd2, some elt => if subS (tgS tg) (ow.map (·.2)) && subS (tgS tg2) (ow.map (·.2)) then some (.lc2 (ow.map (·.2)) tg it cd (tgS tg2) tg2 it2 cd2 elt) else none
        | _, _, _, _, _, _, _ => none) else none
    | _ => none
def cIfs : Nat → CE → List Expr → Option (Option IE)
  | 0, _, _ => none
  | n + 1, C, ifs => match ifs with
    | [] => some none
    | [c] => (cT n C c).map some
    | _ => none
def cT : Nat → CE → Expr → Option IE
  | 0, _, _ => none
  | n + 1, C, e => match e with
    | .UnaryOp .Not a _ => (cT n C a).map .not
    | .BoolOp .And es _ => cBool (cT n C) .and es
    | .BoolOp .Or es _ => cBool (cT n C) .or es
    | .Compare a [op] [b] _ => if plainX b then (match cE n C a, cE n C b with
      | some a, some b => some (.cmp op a b)
      | _, _ => none) else none
    | .Compare a [op, op'] [b, c] _ => if plainX b && plainX c then (match cE n C a, cE n C b, cE n C c with
      | some a, some b, some c => some (.chn op op' a b c)
      | _, _, _ => none) else none
    | .Name x p => onlyT (cE n C (.Name x p))
    | .Call f args kws p => onlyT (cE n C (.Call f args kws p))
    | .Subscript a i p => onlyT (cE n C (.Subscript a i p))
    | _ => none
end
end Z
/-! Z14 -/
set_option maxRecDepth 100000
/-! the short form's meaning leads to the machine: expressions -/
namespace Z
open PySem PySem.Spec PyProof.Rows L2
structure Mo where
  P : Program
  w : World
  K : PySem.W.Frag
  mg : Str → Option Value
  base : Heap
  lv : Nat
structure XOk (M : Mo) (C : CE) (X : Cx) : Prop where
  P : X.prog = M.P
  w : X.w = M.w
  K : X.K = M.K
  mg : X.mg = M.mg
  base : X.base = M.base
  N : X.N = C.N
  sc : X.env.scope = C.sc
  calm : X.calm = true
  nd : C.N.Nodup
  room : Room M.lv X.A
  gd : Gd0 X.A
  fn : ∀ x, C.fn x = true → X.fn x = true
/-- what is known of the module -/
def permL {α : Type} (perm : List Nat) (l : List α) : List α := perm.filterMap (l[·]?)
/-- a call by keywords alone -/
structure KwB (K : PySem.W.Frag) (fd : FuncData) (ps ns : List Str) (perm : List Nat) : Prop where
  to : ∀ (s : Shared) (us : List Value), K.In s.heap → us.length = ns.length → BindsTo s fd ⟨[], ns.zip us⟩ (ps.zip (permL perm us)) ∧ (permL perm us).length = ps.length
structure MOk (M : Mo) (fs gs bs : List Str) (ks : List (Str × List Str)) (dn : List Str) (F : Nat → Ct) (Gd : Nat → PyData) : Prop where
  fn : ∀ i x, fs[i]? = some x → ∃ f fd ps, M.mg x = some (.ref f) ∧ PySem.W.keepIn M.K (.ref f) = true ∧ Binds M.K fd ps [] ∧ FnZ M.P M.w M.K M.mg M.base M.lv f fd ps (spOf M.K (F i))
  gl : ∀ i x, gs[i]? = some x → ∃ v u, M.mg x = some u ∧ RelV v u ∧ Dq M.K (fun _ => none) v (Gd i)
  bl : ∀ x, x ∈ bs → M.mg x = none
  dk : ∀ j x, dn[j]? = some x → GK M.w M.K M.mg x (Gd (1000 + j))
  kw : ∀ j x ns, ks[j]? = some (x, ns) → ∃ f fd ps ct perm, M.mg x = some (.ref f) ∧ PySem.W.keepIn M.K (.ref f) = true ∧ KwB M.K fd ps ns perm ∧ FnZ M.P M.w M.K M.mg M.base M.lv f fd ps (spOf M.K ct) ∧
    ∀ zs c Q, F (100 + j) zs c Q → zs.length = ns.length ∧ ct (permL perm zs) c Q
def PZ (M : Mo) (C : CE) (e : Expr) (w : WE) : Prop := ∃ t, Imp M.K w t ∧ ∀ X, XOk M C X → PE X e t
def PZA (M : Mo) (C : CE) (es : List Expr) (w : WA) : Prop := ∃ t, ImpA M.K w t ∧ ∀ X, XOk M C X → PA X es t
def PZT (M : Mo) (C : CE) (e : Expr) (w : WT) : Prop := ∃ t, ImpT M.K w t ∧ ∀ X, XOk M C X → PT X e t
def PZW (M : Mo) (C : CE) (e : Expr) (w : WT) : Prop := ∃ t, ImpT M.K w t ∧ ∀ X, XOk M C X → PW X e t
def PZO (M : Mo) (C : CE) (e : Option Expr) (w : WO) : Prop := ∃ t, ImpO M.K w t ∧ ∀ X, XOk M C X → PO X e t
def PZI (M : Mo) (C : CE) (tg it : Expr) (w : WI) : Prop := ∃ t, ImpI M.K w t ∧ ∀ X, XOk M C X → PI X tg it t
def PZG (M : Mo) (C : CE) (tg : Expr) (t : Tg) : Prop := ∃ g, ImpG M.K (tgS t) (wTg t) g ∧ ∀ X, XOk M C X → PG X tg g
def PZGs (M : Mo) (C : CE) (tg : List Expr) (t : List Tg) : Prop := ∃ g, ImpGs M.K t.length (tgsS t) (wTgs t) g ∧ tg.length = t.length ∧ ∀ X, XOk M C X → PGs X tg g
section
variable {M : Mo} {C : CE} {F : Nat → Ct} {Gd : Nat → PyData}
theorem star_of {e : Expr} (h : plainX e = true) (es : List Expr) (env : Env) : starEach (e :: es) env = (false, eval e env) :: starEach es env := by
  cases e <;> first | rfl | cases h
theorem stars_of {es : List Expr} (h : es.all plainX = true) (env : Env) (pos : Pos) : (backTo pos (starEach es env)).any (·.1) = false := by
  induction es with
  | nil => rfl
  | cons e es ih =>
    rw [List.all_cons, Bool.and_eq_true] at h
    rw [star_of h.1]
    show (false || (backTo pos (starEach es env)).any (·.1)) = false
    rw [ih h.2]; rfl
theorem marks_of {op : CmpOp} {b : Expr} (h : plainX b = true) : behindInMarks op b = false := by
  cases b <;> first | rfl | cases h
theorem lmarks_of {op op' : CmpOp} {b c : Expr} (h : plainX c = true) : lastMarks [op, op'] [b, c] = false := by
  show behindInMarks op' c = false
  exact marks_of h
theorem fold_of {b : Expr} (h : plainX b = true) (env : Env) (x : Value) : foldedSetIterable b env x = pure x := by
  cases b <;> first | rfl | cases h
theorem ix_of {b : Expr} (h : plainX b = true) : PlainIx b := by
  intro o i
  cases b <;> first | rfl | cases h
theorem recv_of {o : Expr} (h : recvX o = true) (m : Str) (env : Env) : attributeBase o m env (eval o env) = eval o env := by
  cases o with
  | Call f as kw p =>
    cases as with
    | nil => cases h
    | cons _ _ => cases f <;> rfl
  | Name _ _ => rfl
  | Subscript _ _ _ => rfl
  | List _ _ => rfl
  | _ => cases h
theorem few_of {a : Expr} (h : plainX a = true) (env : Env) (cpos : Pos) : ((backTo cpos (starEach [a] env)).all (fun x => !x.1) && (backToKw cpos (keywordEach [] env)).all (fun x => x.1.isSome)
      && decide (([a] : List Expr).length + ([] : List Keyword).length + (if ([] : List Keyword).isEmpty then 0 else 1) < 30)) = true := by
  rw [star_of h]
  rfl
theorem okN_dbg {x : Str} (h : okN x = true) : (x == ("__debug__" : Str)) = false := by
  unfold okN dbg cdc at h
  rw [Bool.and_eq_true] at h
  simpa using h.1
theorem okN_cdc {x : Str} (h : okN x = true) : (x == ("__classdict__" : Str)) = false := by
  unfold okN dbg cdc at h
  rw [Bool.and_eq_true] at h
  simpa using h.2
theorem gl_of {X : Cx} (x : XOk M C X) {f : Str} (h : glB C.sc f = true) : Gl X f := by
  unfold Gl Env.kindOf
  rw [x.sc]
  exact glB_ok h
theorem okN_name {x : Str} (h : bootBuiltins x ≠ none) : True := trivial
theorem permL_zvs {K : PySem.W.Frag} {P : Addr → Prop} {G : Hp} {zs : List Zv} {vs : List V} (h : ZVs K P G zs vs) : ∀ perm : List Nat, ZVs K P G (permL perm zs) (permL perm vs)
  | [] => .nil
  | i :: perm => by
    have ih := permL_zvs h perm
    unfold permL at ih ⊢
    rw [List.filterMap_cons, List.filterMap_cons]
    cases e : zs[i]? with
    | none =>
      have : vs[i]? = none := by
        rw [List.getElem?_eq_none_iff] at e ⊢
        rw [← h.length]; exact e
      rw [this]
      exact ih
    | some z =>
      obtain ⟨v, e2, hz⟩ := h.get e
      rw [e2]
      exact .cons hz ih
theorem permL_vals {vs : List V} {us : List Value} (h : Vals vs us) : ∀ perm : List Nat, Vals (permL perm vs) (permL perm us)
  | [] => .nil
  | i :: perm => by
    have ih := permL_vals h perm
    unfold permL at ih ⊢
    rw [List.filterMap_cons, List.filterMap_cons]
    cases e : vs[i]? with
    | none =>
      have : us[i]? = none := by
        rw [List.getElem?_eq_none_iff] at e ⊢
        rw [← h.length]; exact e
      rw [this]
      exact ih
    | some v =>
      obtain ⟨u, e2, r⟩ := h.get e
      rw [e2]
      exact .cons r ih
def tCallP (sp : Sp) (n : Nat) (perm : List Nat) (tk : TA) : TE := fun σ H Q => tk σ H fun zs H1 => zs.length = n ∧ sp (permL perm zs) H1 Q E0
theorem kw_names : ∀ {kws : List Keyword} {ns : List Str}, kwN kws = some ns → ∀ (pos : Pos) (env : Env), (backToKw pos (keywordEach kws env)).all (·.1.isSome) = true ∧ (backToKw pos (keywordEach kws env)).filterMap (·.1) = ns ∧ (backToKw pos (keywordEach kws env)).any (·.1.isNone) = false
  | [], ns, h, pos, env => by cases h; exact ⟨rfl, rfl, rfl⟩
  | ⟨some x, e, p⟩ :: r, ns, h, pos, env => by
    unfold kwN at h
    cases q : kwN r with
    | none => rw [q] at h; cases h
    | some ms =>
      rw [q] at h
      cases h
      obtain ⟨h1, h2, h3⟩ := kw_names q pos env
      refine ⟨?_, ?_, ?_⟩
      · show (true && (backToKw pos (keywordEach r env)).all (·.1.isSome)) = true
        rw [h1]; rfl
      · show x :: (backToKw pos (keywordEach r env)).filterMap (·.1) = x :: ms
        rw [h2]
      · show (false || (backToKw pos (keywordEach r env)).any (·.1.isNone)) = false
        rw [h3]; rfl
  | ⟨none, e, p⟩ :: r, ns, h, pos, env => by cases h
theorem pe_callKZ {X : Cx} {k : Nat} {f : Addr} {fd : FuncData} {ps ns : List Str} {perm : List Nat} {sp : Sp} {x : Str} {p pos : Pos} {kws : List Keyword} {tk : TA} (Fz : FnZ X.prog X.w X.K X.mg X.base k f fd ps sp) (hr : Room k X.A) (hgd : Gd0 X.A) (hg : Gl X x) (hm : X.mg x = some (.ref f)) (hk : PySem.W.keepIn X.K (.ref f) = true)
    (hb : KwB X.K fd ps ns perm) (hn : kwN kws = some ns) (hkw : PK X kws tk) (hdb : (x == ("__debug__" : Str)) = false) : PE X (.Call (.Name x p) [] kws pos) (tCallP sp ns.length perm tk) := ⟨fun pins s σ H Q I h => by
  obtain ⟨h1, h2, h3⟩ := kw_names hn pos X.env
  refine wpAny_Call_Name_kw (ld_glob I hg hm ?_ hdb)
  refine PySem.W.callWith_KW0 (h₀ := X.base) I.ok.mod.kin hk h1 (thn (hkw.run pos pins s σ H _ I h) fun us s1 ⟨vs, H1, I1, r, hl, q⟩ => ⟨I1.kIn, ?_⟩) (by rw [h3]; rfl)
  rw [h2]
  have hl2 : us.length = ns.length := by rw [← r.length]; exact hl
  obtain ⟨b1, b2⟩ := hb.to s1 us I1.kIn hl2
  have run := Fz.go X.A X.stack s1 H1 ⟨[], ns.zip us⟩ (permL perm us) (permL perm vs) Q E0 hr hgd I1.env0 b1 (permL_vals r perm) q
  refine wpAny_call (codeAny_mono run fun q s' hq => ?_)
  match q, hq with
  | .ok (.ret u), hq => exact I1.after hq
  | .error e, hq => exact hq.elim
  | .ok .next, hq => exact hq.elim
  | .ok .brk, hq => exact hq.elim
  | .ok .cont, hq => exact hq.elim⟩
theorem imp_kw {K : PySem.W.Frag} {ct ct' : Ct} {n : Nat} {perm : List Nat} {w : WA} {t : TA} (ha : ImpA K w t) (hc : ∀ zs c Q, ct' zs c Q → zs.length = n ∧ ct (permL perm zs) c Q) : Imp K (wCall ct' w) (tCallP (spOf K ct) n perm t) := fun B σ P G H Γ c Q R a w' k => by
  refine ha B σ P G H Γ c _ _ a w' fun vs P1 G1 H1 c1 zs s1 w1 r1 q1 => ?_
  obtain ⟨q, hz⟩ := cln_of r1 q1
  obtain ⟨hl, q⟩ := hc _ _ _ q
  exact ⟨by rw [← hz.length]; exact hl, P1, G1, c1, permL perm zs, Q, w1, permL_zvs hz perm, q, fun v P' G' H' c' z s w2 h q2 => k v P' G' H' c' z (s1.trans s) w2 h.zr q2⟩
/-- the keywords' values -/
theorem pk_all {rec : Expr → Option IE} (hr : ∀ e ie, rec e = some ie → PZ M C e (wE F Gd ie)) : ∀ {kws : List Keyword} {ies : List IE}, cAll rec (kwE kws) = some ies → ∃ t, ImpA M.K (w3s F Gd ies) t ∧ ∀ X, XOk M C X → PK X kws t
  | [], ies, h => by cases h; exact ⟨tNil, imp_a0, fun X _ => pk_nil⟩
  | ⟨nm, e, p⟩ :: r, ies, h => by
    unfold kwE cAll at h
    split at h
    · split at h
      · rename_i a as e1 e2
        cases h
        obtain ⟨t, i, q⟩ := hr e a e1
        obtain ⟨ts, is, qs⟩ := pk_all hr e2
        exact ⟨tCons t ts, imp_a1 i is, fun X xo => pk_cons (q X xo) (qs X xo)⟩
      · cases h
    · cases h
/-- a name -/
theorem pz_name (MO : MOk M C.fs C.gs C.bs C.ks C.ds F Gd) {x : Str} {p : Pos} {ie : IE} (h : cName C x = some ie) : PZ M C (.Name x p) (wE F Gd ie) := by
  unfold cName at h
  split at h
  · rename_i ok
    split at h
    · rename_i vis
      cases q : ixOf C.N x with
      | none => rw [q] at h; cases h
      | some i =>
        rw [q] at h
        cases h
        exact ⟨tVar i, imp_var, fun X xo => pe_var (by rw [xo.N]; exact ixOf_get q) (by rw [xo.sc]; exact visB_ok vis) (okN_dbg ok) (okN_cdc ok)⟩
    · split at h
      · rename_i gl
        cases q : ixOf C.gs x with
        | none => rw [q] at h; cases h
        | some i =>
          rw [q] at h
          cases h
          obtain ⟨v, u, hm, r, d⟩ := MO.gl i x (ixOf_get q)
          exact ⟨tC v, imp_c fun G => dp_mono (fun _ _ e => by cases e) _ _ d, fun X xo => pe_glob (gl_of xo gl) (by rw [xo.mg]; exact hm) r (okN_dbg ok)⟩
      · cases h
  · cases h
/-- arguments -/
theorem pz_all {rec : Expr → Option IE} (hr : ∀ e ie, rec e = some ie → PZ M C e (wE F Gd ie)) : ∀ {es : List Expr} {ies : List IE}, cAll rec es = some ies → es.all plainX = true ∧ PZA M C es (w3s F Gd ies)
  | [], ies, h => by cases h; exact ⟨rfl, tNil, imp_a0, fun X _ => pa_nil⟩
  | e :: es, ies, h => by
    unfold cAll at h
    split at h
    · rename_i pl
      split at h
      · rename_i a as e1 e2
        cases h
        obtain ⟨t, i, p⟩ := hr e a e1
        obtain ⟨pls, ts, is, ps⟩ := pz_all hr e2
        refine ⟨by rw [List.all_cons, pl, pls]; rfl, tCons t ts, imp_a1 i is, fun X xo => pa_cons (p X xo) (ps X xo) (star_of pl es X.env)⟩
      · cases h
    · cases h
/-- and, or as values -/
theorem pz_and {rec : Expr → Option IE} (hr : ∀ e ie, rec e = some ie → PZ M C e (wE F Gd ie)) {pos : Pos} : ∀ {es : List Expr} {ie : IE}, cBool rec .and es = some ie → PZ M C (.BoolOp .And es pos) (wE F Gd ie)
  | [], ie, h => by cases h
  | [e], ie, h => by
    obtain ⟨t, i, p⟩ := hr e ie h
    exact ⟨t, i, fun X xo => pe_one (p X xo)⟩
  | e :: e' :: es, ie, h => by
    unfold cBool at h
    split at h
    · rename_i a b e1 e2
      cases h
      obtain ⟨t, i, p⟩ := hr e a e1
      obtain ⟨ts, is, ps⟩ := pz_and hr (es := e' :: es) e2
      exact ⟨tAndT M.K t ts, imp_and i is, fun X xo => by rw [← xo.K]; exact pe_andT (p X xo) (ps X xo)⟩
    · cases h
theorem pz_or {rec : Expr → Option IE} (hr : ∀ e ie, rec e = some ie → PZ M C e (wE F Gd ie)) {pos : Pos} : ∀ {es : List Expr} {ie : IE}, cBool rec .or es = some ie → PZ M C (.BoolOp .Or es pos) (wE F Gd ie)
  | [], ie, h => by cases h
  | [e], ie, h => by
    obtain ⟨t, i, p⟩ := hr e ie h
    exact ⟨t, i, fun X xo => pe_one (p X xo)⟩
  | e :: e' :: es, ie, h => by
    unfold cBool at h
    split at h
    · rename_i a b e1 e2
      cases h
      obtain ⟨t, i, p⟩ := hr e a e1
      obtain ⟨ts, is, ps⟩ := pz_or hr (es := e' :: es) e2
      exact ⟨tOrT M.K t ts, imp_or i is, fun X xo => by rw [← xo.K]; exact pe_orT (p X xo) (ps X xo)⟩
    · cases h
/-- .. as tests -/
theorem pzw_and {rec : Expr → Option IE} (hr : ∀ e ie, rec e = some ie → PZT M C e (wT F Gd ie)) {pos : Pos} : ∀ {es : List Expr} {ie : IE}, cBool rec .and es = some ie → PZW M C (.BoolOp .And es pos) (wT F Gd ie)
  | [], ie, h => by cases h
  | [e], ie, h => by
    obtain ⟨t, i, p⟩ := hr e ie h
    exact ⟨t, i, fun X xo => pw_and1 (p X xo)⟩
  | e :: e' :: es, ie, h => by
    unfold cBool at h
    split at h
    · rename_i a b e1 e2
      cases h
      obtain ⟨t, i, p⟩ := hr e a e1
      obtain ⟨ts, is, ps⟩ := pzw_and hr (es := e' :: es) e2
      exact ⟨tAnd t ts, impt_and i is, fun X xo => pw_and (p X xo) (ps X xo)⟩
    · cases h
theorem pzw_or {rec : Expr → Option IE} (hr : ∀ e ie, rec e = some ie → PZT M C e (wT F Gd ie)) {pos : Pos} : ∀ {es : List Expr} {ie : IE}, cBool rec .or es = some ie → PZW M C (.BoolOp .Or es pos) (wT F Gd ie)
  | [], ie, h => by cases h
  | [e], ie, h => by
    obtain ⟨t, i, p⟩ := hr e ie h
    exact ⟨t, i, fun X xo => pw_or1 (p X xo)⟩
  | e :: e' :: es, ie, h => by
    unfold cBool at h
    split at h
    · rename_i a b e1 e2
      cases h
      obtain ⟨t, i, p⟩ := hr e a e1
      obtain ⟨ts, is, ps⟩ := pzw_or hr (es := e' :: es) e2
      exact ⟨tOr t ts, impt_or i is, fun X xo => pw_or (p X xo) (ps X xo)⟩
    · cases h
theorem pz_o {rec : Expr → Option IE} (hr : ∀ e ie, rec e = some ie → PZ M C e (wE F Gd ie)) {o : Option Expr} {io : Option IE} (h : cO rec o = some io) : PZO M C o (w3o F Gd io) := by
  cases o with
  | none => cases h; exact ⟨tNoPart, impo_none, fun X _ => po_none⟩
  | some e =>
    have h : (rec e).map some = some io := h
    cases q : rec e with
    | none => rw [q] at h; cases h
    | some ie =>
      rw [q] at h
      cases h
      obtain ⟨t, i, p⟩ := hr e ie q
      exact ⟨tPart t, impo_some i, fun X xo => po_some (p X xo)⟩
theorem room_units {X : Cx} (xo : XOk M C X) : X.A.units + 100 < cLine := by
  have := xo.room.un
  omega
theorem bf_go : ∀ {l : List (String × Bf)} {f : Str} {b : Bf}, bfGo l f = some b → ∃ n, (n, b) ∈ l ∧ f = Str.ofString n
  | [], _, _, h => by cases h
  | (n, b') :: r, f, b, h => by
    unfold bfGo at h
    split at h
    · rename_i e
      cases h
      exact ⟨n, List.mem_cons_self, e⟩
    · obtain ⟨m, h1, h2⟩ := bf_go h
      exact ⟨m, List.mem_cons_of_mem _ h1, h2⟩
theorem bf_all : ∀ p ∈ bfL, (isFn p.2 = some p.1 ∨ isTy p.2 = some p.1) ∧ Str.ofString p.1 ≠ "__name__" := by
  intro p hp
  simp only [bfL, List.mem_cons, List.not_mem_nil, or_false] at hp
  rcases hp with rfl | rfl | rfl | rfl | rfl | rfl | rfl | rfl | rfl | rfl | rfl | rfl | rfl | rfl
  all_goals exact ⟨by first | exact .inl rfl | exact .inr rfl, by decide +kernel⟩
theorem bf_fn {f : Str} {b : Bf} (h : bfOf f = some b) : f ≠ "__name__" ∧ ((∃ n, isFn b = some n ∧ f = Str.ofString n) ∨ (∃ n, isTy b = some n ∧ f = Str.ofString n)) := by
  obtain ⟨n, h1, rfl⟩ := bf_go h
  obtain ⟨h2, h3⟩ := bf_all _ h1
  exact ⟨h3, h2.elim (fun e => .inl ⟨n, e, rfl⟩) fun e => .inr ⟨n, e, rfl⟩⟩
/-- isinstance's second argument -/
theorem isi_of (MO : MOk M C.fs C.gs C.bs C.ks C.ds F Gd) {e : Expr} {T : String} (h : isiOf C e = some T) : isTn T = true ∧ plainX e = true ∧ ∀ X, XOk M C X → PE X e (tC (.ty T)) := by
  unfold isiOf at h
  split at h
  · rename_i x p
    split at h
    · rename_i hc
      rw [Bool.and_eq_true, Bool.and_eq_true] at hc
      obtain ⟨⟨gl, ok⟩, mem⟩ := hc
      have mem := of_decide_eq_true mem
      have key : ∀ {n : String}, x = Str.ofString n → bootBuiltins (Str.ofString n) = some (.type n) → Str.ofString n ≠ "__name__" → ∀ X, XOk M C X → PE X (.Name x p) (tC (.ty n)) := fun {n} e hb hn X xo => by
        subst e
        exact pe_bltn (v := .ty n) (gl_of xo gl) (by rw [xo.mg]; exact MO.bl _ mem) hb rfl hn (okN_dbg ok)
      split at h
      · rename_i e; cases h; exact ⟨rfl, rfl, key (n := "int") e (by decide +kernel) (by decide +kernel)⟩
      · split at h
        · rename_i e; cases h; exact ⟨rfl, rfl, key (n := "bool") e (by decide +kernel) (by decide +kernel)⟩
        · split at h
          · rename_i e; cases h; exact ⟨rfl, rfl, key (n := "str") e (by decide +kernel) (by decide +kernel)⟩
          · split at h
            · rename_i e; cases h; exact ⟨rfl, rfl, key (n := "tuple") e (by decide +kernel) (by decide +kernel)⟩
            · split at h
              · rename_i e; cases h; exact ⟨rfl, rfl, key (n := "list") e (by decide +kernel) (by decide +kernel)⟩
              · cases h
    · cases h
  · cases h
/-- a call -/
theorem pz_call (MO : MOk M C.fs C.gs C.bs C.ks C.ds F Gd) {rec : Expr → Option IE} (hr : ∀ e ie, rec e = some ie → PZ M C e (wE F Gd ie)) {f : Str} {args : List Expr} {p pos : Pos} {ie : IE} (h : cCall C rec f args = some ie) :
    PZ M C (.Call (.Name f p) args [] pos) (wE F Gd ie) := by
  unfold cCall at h
  split at h
  · rename_i hg
    rw [Bool.and_eq_true] at hg
    obtain ⟨gl, ok⟩ := hg
    split at h
    · rename_i k ek
      cases q : cAll rec args with
      | none => rw [q] at h; cases h
      | some ies =>
        rw [q] at h
        cases h
        obtain ⟨pl, t, i, pa⟩ := pz_all hr q
        obtain ⟨fa, fd, ps, hm, kp, bd, fz⟩ := MO.fn k f (ixOf_get ek)
        have fz' : ∀ X, XOk M C X → FnZ X.prog X.w X.K X.mg X.base M.lv fa fd ps (spOf M.K (F k)) := fun X xo => by rw [xo.P, xo.w, xo.K, xo.mg, xo.base]; exact fz
        cases args with
        | nil =>
          cases q
          exact ⟨tCall (spOf M.K (F k)) [] E0 tNil, imp_fn imp_a0, fun X xo => pe_callZ0 (fz' X xo) xo.room xo.gd (gl_of xo gl) (by rw [xo.mg]; exact hm) (by rw [xo.K]; exact kp) (by rw [xo.K]; exact bd) .nil (okN_dbg ok)⟩
        | cons e es =>
          rw [List.all_cons, Bool.and_eq_true] at pl
          exact ⟨tCall (spOf M.K (F k)) [] E0 t, imp_fn i, fun X xo => pe_callZ (fz' X xo) xo.room xo.gd (gl_of xo gl) (by rw [xo.mg]; exact hm) (by rw [xo.K]; exact kp) (by rw [xo.K]; exact bd) .nil (pa X xo) (okN_dbg ok) (star_of pl.1 es X.env) (stars_of pl.2 X.env pos)⟩
    · split at h
      · rename_i mem
        have mem := of_decide_eq_true mem
        cases args with
        | nil => cases h
        | cons e es =>
          simp only at h
          split at h
          · rename_i ei
            split at h
            · rename_i t
              split at h
              · rename_i T eT
                split at h
                · rename_i pl
                  cases q : rec e with
                  | none => rw [q] at h; cases h
                  | some a =>
                    rw [q] at h
                    cases h
                    obtain ⟨t1, i1, p1⟩ := hr e a q
                    obtain ⟨hT, pt, p2⟩ := isi_of MO eT
                    refine ⟨tCB (rIsi M.K) (tCons t1 (tCons (tC (.ty T)) tNil)), imp_isi hT i1, fun X xo => ?_⟩
                    have hmg : X.mg f = none := by rw [xo.mg]; exact MO.bl f mem
                    rw [← xo.K]
                    exact pe_callB call_isi (gl_of xo gl) hmg (by rw [ei]; decide +kernel) (pa_cons (p1 X xo) (pa_cons (p2 X xo) pa_nil (star_of pt [] X.env)) (star_of pl [t] X.env)) (by rw [ei]; decide +kernel) (okN_dbg ok) (star_of pl [t] X.env) (stars_of (by rw [List.all_cons, pt]; rfl) X.env pos)
                · cases h
              · cases h
            · cases h
          · split at h
            · rename_i b eb
              cases q : cAll rec (e :: es) with
              | none => rw [q] at h; cases h
              | some ies =>
                rw [q] at h
                cases h
                obtain ⟨pl, t, i, pa⟩ := pz_all hr q
                rw [List.all_cons, Bool.and_eq_true] at pl
                have hE : wE F Gd (.blt b ies) = wBl b (w3s F Gd ies) := by cases b <;> rfl
                rw [hE]
                refine ⟨tCB (rBlt M.K b) t, imp_call i (blti b), fun X xo => ?_⟩
                have hmg : X.mg f = none := by rw [xo.mg]; exact MO.bl f mem
                rw [← xo.K]
                obtain ⟨nn, bb⟩ := bf_fn eb
                rcases bb with ⟨n, en, ef⟩ | ⟨n, en, ef⟩
                · exact pe_callB (cr_fn xo.calm xo.gd (room_units xo) en) (gl_of xo gl) hmg (by rw [ef]; exact boot_fn en) (pa X xo) nn (okN_dbg ok) (star_of pl.1 es X.env) (stars_of pl.2 X.env pos)
                · exact pe_callTy (cr_ty en) (gl_of xo gl) hmg (by rw [ef]; exact boot_ty en) (pa X xo) nn (okN_dbg ok) (star_of pl.1 es X.env) (stars_of pl.2 X.env pos)
            · cases h
      · cases h
  · cases h
/-! ### targets -/
theorem loc_of {C : CE} {X : Cx} (xo : XOk M C X) {x : Str} (h : locB C x = true) : Loc X.env.scope x ∧ (X.fn x = true ∨ X.env.scope.names.lookup x = some .local) := by
  unfold locB at h
  rw [xo.sc]
  split at h
  · exact ⟨.inl (by assumption), .inr (by assumption)⟩
  · exact ⟨.inr (by assumption), .inl (xo.fn x h)⟩
  · cases h
theorem assignEach_of {e : Expr} (h : plainX e = true) (es : List Expr) (env : Env) : assignEach (e :: es) env = (false, assign e env) :: assignEach es env := by
  cases e <;> first | rfl | cases h
mutual
theorem pz_tg {C : CE} : ∀ (n : Nat) (e : Expr) (t : Tg), cTg C n e = some t → PZG M C e t
  | 0, _, _, h => by simp [cTg] at h
  | n + 1, .Name x p, t, h => by
    have h : (if locB C x = true then (ixOf C.N x).map Tg.n else none) = some t := by simpa [cTg] using h
    split at h
    · rename_i lc
      cases q : ixOf C.N x with
      | none => rw [q] at h; cases h
      | some i =>
        rw [q] at h
        cases h
        exact ⟨gName i, impg_n i, fun X xo => pg_name (by rw [xo.N]; exact xo.nd) (by rw [xo.N]; exact ixOf_get q) (loc_of xo lc).1 (loc_of xo lc).2⟩
    · cases h
  | n + 1, .Tuple es k p, t, h => by
    have h : (cTgs C n es).map Tg.t = some t := by simpa [cTg] using h
    cases q : cTgs C n es with
    | none => rw [q] at h; cases h
    | some ts =>
      rw [q] at h
      cases h
      obtain ⟨gs, ig, hl, pg, hn, hst⟩ := pz_tgs n es ts q
      refine ⟨gTup M.K ts.length gs, impg_t ig, fun X xo => ?_⟩
      rw [← xo.K]
      exact pg_tup xo.calm (pg X xo) (hn X.env) (hst X.env)
  | n + 1, .BoolOp .., _, h => by simp [cTg] at h
  | n + 1, .NamedExpr .., _, h => by simp [cTg] at h
  | n + 1, .BinOp .., _, h => by simp [cTg] at h
  | n + 1, .UnaryOp .., _, h => by simp [cTg] at h
  | n + 1, .Lambda .., _, h => by simp [cTg] at h
  | n + 1, .IfExp .., _, h => by simp [cTg] at h
  | n + 1, .Dict .., _, h => by simp [cTg] at h
  | n + 1, .Set .., _, h => by simp [cTg] at h
  | n + 1, .ListComp .., _, h => by simp [cTg] at h
  | n + 1, .SetComp .., _, h => by simp [cTg] at h
  | n + 1, .DictComp .., _, h => by simp [cTg] at h
  | n + 1, .GeneratorExp .., _, h => by simp [cTg] at h
  | n + 1, .Await .., _, h => by simp [cTg] at h
  | n + 1, .Yield .., _, h => by simp [cTg] at h
  | n + 1, .YieldFrom .., _, h => by simp [cTg] at h
  | n + 1, .Compare .., _, h => by simp [cTg] at h
  | n + 1, .Call .., _, h => by simp [cTg] at h
  | n + 1, .FormattedValue .., _, h => by simp [cTg] at h
  | n + 1, .JoinedStr .., _, h => by simp [cTg] at h
  | n + 1, .Constant .., _, h => by simp [cTg] at h
  | n + 1, .Attribute .., _, h => by simp [cTg] at h
  | n + 1, .Subscript .., _, h => by simp [cTg] at h
  | n + 1, .Starred .., _, h => by simp [cTg] at h
  | n + 1, .List .., _, h => by simp [cTg] at h
  | n + 1, .Slice .., _, h => by simp [cTg] at h
theorem pz_tgs {C : CE} : ∀ (n : Nat) (es : List Expr) (ts : List Tg), cTgs C n es = some ts → ∃ g, ImpGs M.K ts.length (tgsS ts) (wTgs ts) g ∧ es.length = ts.length ∧ (∀ X, XOk M C X → PGs X es g) ∧ (∀ env, (assignEach es env).length = ts.length) ∧ (∀ env, (assignEach es env).findIdx? (·.1) = none)
  | 0, _, _, h => by simp [cTgs] at h
  | n + 1, [], ts, h => by
    have h : (some [] : Option (List Tg)) = some ts := by simpa [cTgs] using h
    cases h
    exact ⟨gNil, impgs_nil, rfl, fun X _ => pgs_nil, fun _ => rfl, fun _ => rfl⟩
  | n + 1, e :: es, ts, h => by
    unfold cTgs at h
    split at h
    · rename_i pl
      split at h
      · rename_i a as e1 e2
        cases h
        obtain ⟨g, ig, pg⟩ := pz_tg n e a e1
        obtain ⟨gs, igs, hl, pgs, hn, hst⟩ := pz_tgs n es as e2
        refine ⟨gCons g gs, impgs_cons ig igs, by simp [hl], fun X xo => pgs_cons (pg X xo) (pgs X xo) (by rw [assignEach_of pl]; rfl), fun env => by rw [assignEach_of pl]; simp [hn env], fun env => ?_⟩
        rw [assignEach_of pl, List.findIdx?_cons, hst env]
        rfl
      · cases h
    · cases h
end
end
end Z
/-! Z15 -/
set_option maxRecDepth 100000
/-! the short form's meaning leads to the machine: all expressions -/
namespace Z
open PySem PySem.Spec PyProof.Rows L2
section
variable {M : Mo} {F : Nat → Ct} {Gd : Nat → PyData}
theorem iOf_plain {ie : IE} (h : plainI ie = true) : wI F Gd ie = iOf (wE F Gd ie) := by
  cases ie with
  | blt b es => cases b <;> first | rfl | cases h
  | _ => rfl
theorem tOf_plain {ie : IE} (h : plainT ie = true) : wT F Gd ie = tOf (wE F Gd ie) := by
  cases ie with
  | blt b es => cases b <;> rfl
  | and _ _ => cases h
  | or _ _ => cases h
  | not _ => cases h
  | cmp _ _ _ => cases h
  | chn _ _ _ _ _ => cases h
  | _ => rfl
theorem onlyI_of {o : Option IE} {ie : IE} (h : onlyI o = some ie) : o = some ie ∧ plainI ie = true := by
  unfold onlyI at h
  split at h
  · split at h
    · cases h; exact ⟨rfl, by assumption⟩
    · cases h
  · cases h
theorem onlyT_of {o : Option IE} {ie : IE} (h : onlyT o = some ie) : o = some ie ∧ plainT ie = true := by
  unfold onlyT at h
  split at h
  · split at h
    · cases h; exact ⟨rfl, by assumption⟩
    · cases h
  · cases h
theorem pz_seq {C : CE} {tg it : Expr} {ie : IE} (hp : plainI ie = true) (h : PZ M C it (wE F Gd ie)) : PZI M C tg it (wI F Gd ie) := by
  obtain ⟨t, i, p⟩ := h
  rw [iOf_plain hp]
  exact ⟨iSeq M.K t, impi_seq i, fun X xo => by rw [← xo.K]; exact pi_seq (p X xo)⟩
theorem tup_of {tg : Expr} (h : isTupX tg = true) : ∃ es k p, tg = .Tuple es k p := by
  cases tg <;> first | exact ⟨_, _, _, rfl⟩ | cases h
theorem pz_i {C : CE} (MO : MOk M C.fs C.gs C.bs C.ks C.ds F Gd) {rec : Expr → Option IE} (hr : ∀ e ie, rec e = some ie → PZ M C e (wE F Gd ie)) {tg it : Expr} {ie : IE} (h : cI C rec tg it = some ie) : PZI M C tg it (wI F Gd ie) ∧ plainX it = true := by
  unfold cI at h
  split at h
  · rename_i pl
    refine ⟨?_, pl⟩
    split at h
    · rename_i f p a pos
      split at h
      · rename_i hc
        simp only [Bool.and_eq_true, decide_eq_true_eq] at hc
        obtain ⟨⟨⟨⟨gl, ok⟩, mem⟩, nf⟩, ef⟩ := hc
        split at h
        · rename_i pa
          cases q : rec a with
          | none => rw [q] at h; cases h
          | some ia =>
            rw [q] at h
            cases h
            obtain ⟨t, i, pe⟩ := hr a ia q
            subst ef
            exact ⟨iRng1 (tCons t tNil), impi_range1 i, fun X xo => pi_range1 (gl_of xo gl) (by rw [xo.mg]; exact MO.bl _ mem) (pa_cons (pe X xo) pa_nil (star_of pa [] X.env)) (star_of pa [] X.env)⟩
        · cases h
      · split at h
        · rename_i hc
          simp only [Bool.and_eq_true, decide_eq_true_eq] at hc
          obtain ⟨⟨⟨⟨gl, ok⟩, mem⟩, nf⟩, ef⟩ := hc
          split at h
          · rename_i pa
            rw [Bool.and_eq_true] at pa
            obtain ⟨pa, tt⟩ := pa
            obtain ⟨es, k, tp, rfl⟩ := tup_of tt
            cases q : rec a with
            | none => rw [q] at h; cases h
            | some ia =>
              rw [q] at h
              cases h
              obtain ⟨t, i, pe⟩ := hr a ia q
              subst ef
              exact ⟨iEnumM M.K (tCons t tNil), impi_enum i, fun X xo => by
                rw [← xo.K]
                exact pi_enumM (gl_of xo gl) (by rw [xo.mg]; exact MO.bl _ mem) (pa_cons (pe X xo) pa_nil (star_of pa [] X.env)) (star_of pa [] X.env)⟩
          · cases h
        · obtain ⟨h1, h2⟩ := onlyI_of h
          exact pz_seq h2 (hr _ _ h1)
    · rename_i f p a b pos
      split at h
      · rename_i hc
        simp only [Bool.and_eq_true, decide_eq_true_eq] at hc
        obtain ⟨⟨⟨⟨gl, ok⟩, mem⟩, nf⟩, ef⟩ := hc
        split at h
        · rename_i pab
          rw [Bool.and_eq_true] at pab
          obtain ⟨pa, pb⟩ := pab
          split at h
          · rename_i ia ib q1 q2
            cases h
            obtain ⟨t, i, pe⟩ := hr a ia q1
            obtain ⟨t2, i2, pe2⟩ := hr b ib q2
            subst ef
            exact ⟨iRng2 (tCons t (tCons t2 tNil)), impi_range2 i i2, fun X xo => pi_range2 (gl_of xo gl) (by rw [xo.mg]; exact MO.bl _ mem) (pa_cons (pe X xo) (pa_cons (pe2 X xo) pa_nil (star_of pb [] X.env)) (star_of pa [b] X.env))
              (by rw [star_of pa [b] X.env, star_of pb [] X.env]; rfl) (star_of pb [] X.env)⟩
          · cases h
        · cases h
      · split at h
        · rename_i hc
          simp only [Bool.and_eq_true, decide_eq_true_eq] at hc
          obtain ⟨⟨⟨⟨gl, ok⟩, mem⟩, nf⟩, ef⟩ := hc
          split at h
          · rename_i pab
            rw [Bool.and_eq_true, Bool.and_eq_true] at pab
            obtain ⟨⟨pa, pb⟩, tt⟩ := pab
            obtain ⟨es, k, tp, rfl⟩ := tup_of tt
            split at h
            · rename_i ia ib q1 q2
              cases h
              obtain ⟨t, i, pe⟩ := hr a ia q1
              obtain ⟨t2, i2, pe2⟩ := hr b ib q2
              subst ef
              exact ⟨iZipM M.K (tCons t (tCons t2 tNil)), impi_zip i i2, fun X xo => by
                rw [← xo.K]
                exact pi_zipM (gl_of xo gl) (by rw [xo.mg]; exact MO.bl _ mem) (pa_cons (pe X xo) (pa_cons (pe2 X xo) pa_nil (star_of pb [] X.env)) (star_of pa [b] X.env)) (star_of pa [b] X.env) (stars_of (by rw [List.all_cons, pb]; rfl) X.env pos)⟩
            · cases h
          · cases h
        · obtain ⟨h1, h2⟩ := onlyI_of h
          exact pz_seq h2 (hr _ _ h1)
    · obtain ⟨h1, h2⟩ := onlyI_of h
      exact pz_seq h2 (hr _ _ h1)
  · cases h
/-- within a block -/
theorem XOk.blk {C : CE} {X : Cx} (xo : XOk M C X) (s : Shared) (H : Hp) (scope : Scope) (cl : List (Str × Addr)) (Ca : Addr) (fp : List Addr) : XOk M (C.blk scope) (X.blk s H scope (compEnvC scope cl Ca X.env) fp) where
  P := xo.P
  w := xo.w
  K := xo.K
  mg := xo.mg
  base := xo.base
  N := xo.N
  sc := by
    show (compEnvC scope cl Ca X.env).scope = relS scope C.sc
    rw [← xo.sc]
    rfl
  calm := xo.calm
  nd := xo.nd
  room := xo.room
  gd := xo.gd
  fn := fun x h => h
theorem subS_ok {a b : List Nat} (h : subS a b = true) : ∀ i ∈ a, i ∈ b := by
  unfold subS at h
  rw [List.all_eq_true] at h
  exact fun i hi => of_decide_eq_true (h i hi)
theorem wTChn_of {op op' : CmpOp} {a b e : WE} {Γ : Ga} {c : Nat} {Q : Bool → Nat → Prop} (w : wTChn op op' a b e Γ c Q) : wChn op op' a b e Γ c (fun z c1 => match z with | .d (.bool b) => Q b c1 | _ => False) := w
theorem imp_lc' {K : PySem.W.Frag} {wi : WI} {ti : TI} {tg : Tg} {g : TG} {wc : WT} {tt : TT} {we : WE} {te : TE} (ow : List Nat) (hi : ImpI K wi ti) (hg : ImpG K (tgS tg) (wTg tg) g) (hs : ∀ i ∈ tgS tg, i ∈ ow) (ht : ImpT K wc tt) (he : Imp K we te) :
    Imp K (wLc ow tg wi wc we) (tLc ti g tt te ow) := imp_lc hi hg hs ht he
theorem imp_lc2' {K : PySem.W.Frag} {wi wi2 : WI} {ti ti2 : TI} {tg tg2 : Tg} {g g2 : TG} {wc wc2 : WT} {tt tt2 : TT} {we : WE} {te : TE} (ow ow2 : List Nat) (hi : ImpI K wi ti) (hg : ImpG K (tgS tg) (wTg tg) g) (hs : ∀ i ∈ tgS tg, i ∈ ow) (ht : ImpT K wc tt)
    (hi2 : ImpI K wi2 ti2) (hg2 : ImpG K (tgS tg2) (wTg tg2) g2) (hs2 : ∀ i ∈ tgS tg2, i ∈ ow2) (ht2 : ImpT K wc2 tt2) (he : Imp K we te) :
    Imp K (wLc2 ow tg wi wc ow2 tg2 wi2 wc2 we) (tLc2 ti g tt ti2 g2 tt2 te ow ow2) := imp_lc2 hi hg hs ht hi2 hg2 hs2 ht2 he
def PZC (M : Mo) (C : CE) (ifs : List Expr) (w : WT) : Prop := ∃ t, ImpT M.K w t ∧ ∀ X, XOk M C X → PTs X ifs t
theorem bltB_ok {C : CE} {f : Str} (h : bltB C f = true) : glB C.sc f = true ∧ okN f = true ∧ f ∈ C.bs := by
  unfold bltB at h
  simp only [Bool.and_eq_true, decide_eq_true_eq] at h
  exact ⟨h.1.1.1, h.1.1.2, h.1.2⟩
theorem one_of {C : CE} {rec : Expr → Option IE} {a : Expr} {ies : List IE} (h : cAll rec [a] = some ies) : ∃ ia, rec a = some ia ∧ ies = [ia] := by
  unfold cAll at h
  split at h
  · split at h
    · rename_i a0 as q1 q2
      cases h
      cases q2
      exact ⟨a0, q1, rfl⟩
    · cases h
  · cases h
theorem two_of {C : CE} {rec : Expr → Option IE} {a b : Expr} {ies : List IE} (h : cAll rec [a, b] = some ies) : ∃ ia ib, rec a = some ia ∧ rec b = some ib ∧ ies = [ia, ib] := by
  unfold cAll at h
  split at h
  · split at h
    · rename_i a0 as q1 q2
      cases h
      obtain ⟨b0, e, rfl⟩ := one_of (C := C) q2
      exact ⟨a0, b0, q1, e, rfl⟩
    · cases h
  · cases h
/-- joined forms, calls by keywords -/
theorem pz_hook {C : CE} (MO : MOk M C.fs C.gs C.bs C.ks C.ds F Gd) {rec : Expr → Option IE} (hr : ∀ e ie, rec e = some ie → PZ M C e (wE F Gd ie)) {e : Expr} {k : Hk} {args : List Expr} {ies : List IE} (h : cHook C e = some (k, args)) (q : cAll rec args = some ies) : PZ M C e (wE F Gd (mkH k ies)) := by
  unfold cHook at h
  split at h
  · rename_i f p g p2 a q2 pos
    split at h
    · rename_i hc
      simp only [Bool.and_eq_true, decide_eq_true_eq] at hc
      obtain ⟨⟨⟨bf, bg⟩, eg⟩, pl⟩ := hc
      obtain ⟨gf, okf, mf⟩ := bltB_ok bf
      obtain ⟨gg, okg, mg⟩ := bltB_ok bg
      subst eg
      split at h
      · rename_i ef
        cases h
        subst ef
        obtain ⟨ia, e1, rfl⟩ := one_of (C := C) q
        obtain ⟨t, i, pe⟩ := hr a ia e1
        exact ⟨tLenS M.K t, imp_lenS i, fun X xo => by
          rw [← xo.K]
          exact pe_lenS xo.calm (gl_of xo gf) (by rw [xo.mg]; exact MO.bl _ mf) (gl_of xo gg) (by rw [xo.mg]; exact MO.bl _ mg) (pe X xo) (star_of pl [] X.env)⟩
      · split at h
        · rename_i ef
          cases h
          subst ef
          obtain ⟨ia, e1, rfl⟩ := one_of (C := C) q
          obtain ⟨t, i, pe⟩ := hr a ia e1
          exact ⟨tSrtS2 M.K t, imp_srtS2 i, fun X xo => by
            rw [← xo.K]
            exact pe_srtS2 (by have := room_units xo; omega) xo.calm (gl_of xo gf) (by rw [xo.mg]; exact MO.bl _ mf) (gl_of xo gg) (by rw [xo.mg]; exact MO.bl _ mg) (pe X xo) (star_of pl [] X.env)⟩
        · cases h
    · cases h
  · rename_i f p g p2 a q2 g2 p3 b q3 pos2 pos
    split at h
    · rename_i hc
      simp only [Bool.and_eq_true, decide_eq_true_eq] at hc
      obtain ⟨⟨⟨⟨⟨⟨⟨bf, bg⟩, bg2⟩, ef⟩, eg⟩, eg2⟩, pl⟩, pl2⟩ := hc
      obtain ⟨gf, okf, mf⟩ := bltB_ok bf
      obtain ⟨gg, okg, mg⟩ := bltB_ok bg
      subst ef
      subst eg
      subst eg2
      cases h
      obtain ⟨ia, ib, e1, e2, rfl⟩ := two_of (C := C) q
      obtain ⟨t, i, pe⟩ := hr a ia e1
      obtain ⟨t2, i2, pe2⟩ := hr b ib e2
      exact ⟨tLenD M.K t t2, imp_lenD i i2, fun X xo => by
        rw [← xo.K]
        exact pe_lenD xo.calm (gl_of xo gf) (by rw [xo.mg]; exact MO.bl _ mf) (gl_of xo gg) (by rw [xo.mg]; exact MO.bl _ mg) (pe X xo) (pe2 X xo) (star_of pl [] X.env) (star_of pl2 [] X.env)⟩
    · cases h
  · rename_i f p kw kws pos
    split at h
    · rename_i hc
      rw [Bool.and_eq_true] at hc
      split at h
      · rename_i ns en
        split at h
        · rename_i j ej
          cases h
          obtain ⟨t, i, pk⟩ := pk_all (M := M) (C := C) hr q
          obtain ⟨fa, fd, ps, ct, perm, hm, kp, kb, fz, hct⟩ := MO.kw j f ns (kixOf_get ej)
          exact ⟨tCallP (spOf M.K ct) ns.length perm t, imp_kw i hct, fun X xo => pe_callKZ (by rw [xo.P, xo.w, xo.K, xo.mg, xo.base]; exact fz) xo.room xo.gd (gl_of xo hc.1) (by rw [xo.mg]; exact hm) (by rw [xo.K]; exact kp) (by rw [xo.K]; exact kb) en (pk X xo) (okN_dbg hc.2)⟩
        · cases h
      · cases h
    · cases h
  · cases h
/-- a module's dict, as the text names it -/
theorem pz_md {C : CE} (MO : MOk M C.fs C.gs C.bs C.ks C.ds F Gd) {x : Str} {j : Nat} (h : mdX C x = some j) : ∃ (a : Addr) (es : Array DictEntry) (n : Nat) (kvs : List (Str × PyData)), Gd (1000 + j) = strD kvs ∧ KDict M.K M.w a es n ∧ EntD M.K es.toList kvs ∧ es.size ≤ sizeLine ∧
    ∀ X, XOk M C X → ∀ p, PE X (.Name x p) (tC (.ref a)) := by
  unfold mdX at h
  split at h
  · rename_i hc
    simp only [Bool.and_eq_true] at hc
    obtain ⟨⟨gl, ok⟩, _⟩ := hc
    obtain ⟨a, es, n, kvs, e, hm, D, hE, hz⟩ := (MO.dk j x (ixOf_get h)).ex
    exact ⟨a, es, n, kvs, e, D, hE, hz, fun X xo p => pe_glob (gl_of xo gl) (by rw [xo.mg]; exact hm) (show RelV (V.ref a) (.ref a) from rfl) (okN_dbg ok)⟩
  · cases h
theorem trees1 {a : Expr} (h : plainX a = true) (env : Env) (cp : Pos) : backTo cp (starEach [a] env) = [(false, eval a env)] := by rw [star_of h]; rfl
theorem trees2 {a b : Expr} (ha : plainX a = true) (hb : plainX b = true) (env : Env) (cp : Pos) : backTo cp (starEach [a, b] env) = [(false, eval a env), (false, eval b env)] := by rw [star_of ha, star_of hb]; rfl
theorem few2_of {a b : Expr} (ha : plainX a = true) (hb : plainX b = true) (env : Env) (cpos : Pos) : ((backTo cpos (starEach [a, b] env)).all (fun x => !x.1) && (backToKw cpos (keywordEach [] env)).all (fun x => x.1.isSome)
      && decide (([a, b] : List Expr).length + ([] : List Keyword).length + (if ([] : List Keyword).isEmpty then 0 else 1) < 30)) = true := by
  rw [star_of ha, star_of hb]
  rfl
theorem recvd_of {o : Expr} (h : recvDX o = true) (m : Str) (env : Env) : attributeBase o m env (eval o env) = eval o env := by
  unfold recvDX at h
  split at h
  · rfl
  · exact recv_of h m env
theorem pz_each {C : CE} {rec : Expr → Option IE} (hr : ∀ e ie, rec e = some ie → PZ M C e (wE F Gd ie)) : ∀ {es : List Expr} {ies : List IE}, cAll rec es = some ies → ∃ ts : List TE, ts.length = es.length ∧ ImpA M.K (w3s F Gd ies) (tAll ts) ∧
    ∀ (pos : Pos) (keys : List (Option Expr)) (ks : List Key), keysX keys = some ks → keys.length = es.length → ∀ X, XOk M C X → PPs X pos keys es (trsOf ks ts)
  | [], ies, h => by
    cases h
    refine ⟨[], rfl, imp_a0, fun pos keys ks hk hl X xo => ?_⟩
    cases keys with
    | nil => cases hk; exact pps_nil
    | cons _ _ => simp at hl
  | e :: es, ies, h => by
    unfold cAll at h
    split at h
    · split at h
      · rename_i ia as q1 q2
        cases h
        obtain ⟨ts, hl, im, pp⟩ := pz_each hr q2
        obtain ⟨t, i, p⟩ := hr e ia q1
        refine ⟨t :: ts, by simp [hl], imp_a1 i im, fun pos keys ks hk hl2 X xo => ?_⟩
        cases keys with
        | nil => simp at hl2
        | cons ke kr =>
          unfold keysX at hk
          split at hk
          · rename_i k ks' e1 e2
            cases hk
            unfold keyX at e1
            split at e1
            · cases e1
              exact pps_cons (tk := tC (kV (.inl _))) pe_int (p X xo) (pp pos kr ks' e2 (by simpa using hl2) X xo)
            · cases e1
              exact pps_cons (tk := tC (kV (.inr _))) pe_str (p X xo) (pp pos kr ks' e2 (by simpa using hl2) X xo)
            · cases e1
          · cases hk
      · cases h
    · cases h
theorem keysX_len : ∀ {keys : List (Option Expr)} {ks : List Key}, keysX keys = some ks → ks.length = keys.length ∧ keys.all (·.isSome) = true
  | [], ks, h => by cases h; exact ⟨rfl, rfl⟩
  | e :: r, ks, h => by
    unfold keysX at h
    split at h
    · rename_i k ks' e1 e2
      cases h
      obtain ⟨h1, h2⟩ := keysX_len e2
      refine ⟨by simp [h1], ?_⟩
      rw [List.all_cons, h2]
      cases e with
      | none => cases e1
      | some _ => rfl
    · cases h
/-- further forms -/
theorem pz_hx {C : CE} (MO : MOk M C.fs C.gs C.bs C.ks C.ds F Gd) {rec : Expr → Option IE} (hr : ∀ e ie, rec e = some ie → PZ M C e (wE F Gd ie)) {e : Expr} {ie : IE} (h : cHx rec C e = some ie) : PZ M C e (wE F Gd ie) := by
  unfold cHx at h
  split at h
  · rename_i keys vals pos
    split at h
    · rename_i ks vs e1 e2
      split at h
      · rename_i hc
        simp only [Bool.and_eq_true, decide_eq_true_eq] at hc
        obtain ⟨⟨h1, h2⟩, h15⟩ := hc
        cases h
        obtain ⟨hk1, hk2⟩ := keysX_len e1
        obtain ⟨ts, hl, im, pp⟩ := pz_each hr e2
        by_cases h0 : keys = []
        · subst h0
          cases e1
          have : vals = [] := List.eq_nil_of_length_eq_zero (by simpa using h2.symm)
          subst this
          cases e2
          exact ⟨tDNewK, imp_dsp0 (Gd := Gd), fun X xo => pe_dnewK⟩
        · exact ⟨tDisp (trsOf ks ts), imp_dsp (by omega) h15 im, fun X xo => pe_disp (pp pos keys ks e1 h2 X xo) hk2 h2 h0 (by omega)⟩
      · cases h
    · cases h
  · rename_i x p i pos
    split at h
    · rename_i j ej
      split at h
      · rename_i pl
        cases q : rec i with
        | none => rw [q] at h; cases h
        | some ia =>
          rw [q] at h
          cases h
          obtain ⟨a, es, n, kvs, e, D, hE, hz, pn⟩ := pz_md MO ej
          obtain ⟨t, im, pe⟩ := hr i ia q
          exact ⟨tOp (rIxD M.K M.w) (tC (.ref a)) t, imp_gix e D hE im, fun X xo => by
            rw [← xo.K, ← xo.w]
            exact pe_ix ix_kdict (pn X xo p) (pe X xo) (ix_of pl)⟩
      · cases h
    · cases h
  · rename_i x p m ap a b cp
    split at h
    · rename_i j ej
      split at h
      · rename_i hc
        simp only [Bool.and_eq_true, beq_iff_eq, decide_eq_true_eq] at hc
        obtain ⟨⟨⟨em, el⟩, pa⟩, pb⟩ := hc
        split at h
        · rename_i ia ib q1 q2
          cases h
          obtain ⟨ad, es, n, kvs, e, D, hE, hz, pn⟩ := pz_md MO ej
          obtain ⟨t, im, pe⟩ := hr a ia q1
          obtain ⟨t2, im2, pe2⟩ := hr b ib q2
          subst em
          exact ⟨tGget M.K ad t t2, imp_gget e D hE im im2, fun X xo => by
            rw [← xo.K]
            exact pe_gget (by rw [xo.K, xo.w]; exact D) (pn X xo p) (pe X xo) (pe2 X xo) ⟨rfl, few2_of pa pb X.env cp, by simp [el], trees2 pa pb X.env cp⟩⟩
        · cases h
      · cases h
    · cases h
  · rename_i o m ap a cp
    split at h
    · rename_i hc
      simp only [Bool.and_eq_true, beq_iff_eq, decide_eq_true_eq] at hc
      obtain ⟨⟨⟨em, el⟩, ro⟩, pa⟩ := hc
      split at h
      · rename_i io ia q1 q2
        cases h
        obtain ⟨t, im, pe⟩ := hr o io q1
        obtain ⟨t2, im2, pe2⟩ := hr a ia q2
        subst em
        exact ⟨tDGet1 t t2, imp_get1 im im2, fun X xo => pe_dget1 (by have := room_units xo; omega) (pe X xo) (pe2 X xo) ⟨recvd_of ro "get" X.env, few_of pa X.env cp, by simp [el], trees1 pa X.env cp⟩⟩
      · cases h
    · cases h
  · rename_i o m ap cp
    split at h
    · rename_i hc
      simp only [Bool.and_eq_true, beq_iff_eq, decide_eq_true_eq] at hc
      obtain ⟨⟨em, el⟩, ro⟩ := hc
      cases q : rec o with
      | none => rw [q] at h; cases h
      | some io =>
        rw [q] at h
        cases h
        obtain ⟨t, im, pe⟩ := hr o io q
        subst em
        exact ⟨tBM0 M.K "str" rUp t, imp_upper im, fun X xo => by
          rw [← xo.K]
          exact pe_bm0 PySem.F.plainAttrs_str PySem.F.slot_str_upper PySem.F.type_str_upper mt_upper (pe X xo) (recv_of ro "upper" X.env) (by simp [el])⟩
    · cases h
  · rename_i f fp x p pos
    split at h
    · rename_i hc
      rw [Bool.and_eq_true, decide_eq_true_eq] at hc
      obtain ⟨bf, ef⟩ := hc
      split at h
      · rename_i j ej
        cases h
        obtain ⟨gf, okf, mf⟩ := bltB_ok bf
        obtain ⟨a, es, n, kvs, e, D, hE, hz, pn⟩ := pz_md MO ej
        subst ef
        have hlen : es.size = kvs.length := by
          have := (ent_keys hE).length
          simpa using this.symm
        exact ⟨tGkeys kvs, imp_gkeys e (by omega), fun X xo => pe_gkeys xo.calm (by rw [xo.K, xo.w]; exact D) (by rw [xo.K]; exact hE) hz (gl_of xo gf) (by rw [xo.mg]; exact MO.bl _ mf) (pn X xo p) rfl⟩
      · cases h
    · cases h
  · rename_i f fp g gp a gpos pos
    split at h
    · rename_i hc
      simp only [Bool.and_eq_true, decide_eq_true_eq] at hc
      obtain ⟨⟨⟨⟨bf, ef⟩, bg⟩, eg⟩, pa⟩ := hc
      cases q : rec a with
      | none => rw [q] at h; cases h
      | some ia =>
        rw [q] at h
        cases h
        obtain ⟨t, im, pe⟩ := hr a ia q
        obtain ⟨gf, okf, mf⟩ := bltB_ok bf
        obtain ⟨gg, okg, mg⟩ := bltB_ok bg
        subst ef eg
        exact ⟨tLstRg (tRg1 t), imp_lrng im, fun X xo => pe_listRg xo.calm (gl_of xo gf) (by rw [xo.mg]; exact MO.bl _ mf) (prg_1 (gl_of xo gg) (by rw [xo.mg]; exact MO.bl _ mg) (pe X xo) (star_of pa [] X.env)) rfl⟩
    · cases h
  · rename_i es lp b pos
    split at h
    · rename_i ies ib q1 q2
      cases h
      obtain ⟨_, t, im, pe⟩ := pz_all hr q1
      obtain ⟨t2, im2, pe2⟩ := hr b ib q2
      exact ⟨tOp rRep (tLst t) t2, imp_repl im im2, fun X xo => pe_op op_rep (pe_lst (pe X xo)) (pe2 X xo)⟩
    · cases h
  · cases h
theorem pz_hx2 {C : CE} (MO : MOk M C.fs C.gs C.bs C.ks C.ds F Gd) {rec : Expr → Option IE} (hr : ∀ e ie, rec e = some ie → PZ M C e (wE F Gd ie)) {e : Expr} {ie : IE} (h : cHx2 rec e = some ie) : PZ M C e (wE F Gd ie) := by
  unfold cHx2 at h
  split at h
  · rename_i e k p1 p2 p3 pos
    cases q : rec e with
    | none => rw [q] at h; cases h
    | some ie =>
      rw [q] at h
      cases h
      obtain ⟨t, im, pe⟩ := hr e ie q
      exact ⟨tRev M.K t, imp_rev im, fun X xo => by
        rw [← xo.K]
        exact pe_rev (pe X xo)⟩
  · rename_i o m ap a b cp
    split at h
    · rename_i hc
      simp only [Bool.and_eq_true, beq_iff_eq, decide_eq_true_eq] at hc
      obtain ⟨⟨⟨⟨em, el⟩, ro⟩, pa⟩, pb⟩ := hc
      split at h
      · rename_i io ia ib q1 q2 q3
        cases h
        obtain ⟨t, im, pe⟩ := hr o io q1
        obtain ⟨t2, im2, pe2⟩ := hr a ia q2
        obtain ⟨t3, im3, pe3⟩ := hr b ib q3
        subst em
        exact ⟨tDGet2 t t2 t3, imp_get2 im im2 im3, fun X xo => pe_dget2 (by have := room_units xo; omega) (pe X xo) (pe2 X xo) (pe3 X xo) ⟨recvd_of ro "get" X.env, few2_of pa pb X.env cp, by simp [el], trees2 pa pb X.env cp⟩⟩
      · cases h
    · cases h
  · cases h
theorem orE_some {a b : Option IE} {ie : IE} (h : orE a b = some ie) : a = some ie ∨ b = some ie := by
  unfold orE at h
  split at h
  · exact .inl h
  · exact .inr h
mutual
theorem cE_ok : ∀ (n : Nat) (C : CE) (e : Expr) (ie : IE), MOk M C.fs C.gs C.bs C.ks C.ds F Gd → cE n C e = some ie → PZ M C e (wE F Gd ie)
  | 0, _, _, _, _, h => by simp [cE] at h
  | n + 1, C, e, ie, MO, h => by
    have hr : ∀ e ie, cE n C e = some ie → PZ M C e (wE F Gd ie) := fun e ie h => cE_ok n C e ie MO h
    have hb : ∀ scope e ie, cE n (C.blk scope) e = some ie → PZ M (C.blk scope) e (wE F Gd ie) := fun scope e ie h => cE_ok n (C.blk scope) e ie MO h
    unfold cE at h
    split at h
    · rename_i hk args eh
      cases q : cAll (cE n C) args with
      | none => rw [q] at h; cases h
      | some ies =>
        rw [q] at h; cases h
        exact pz_hook MO hr eh q
    rename_i eh
    clear eh
    split at h
    · rename_i iy ey
      cases h
      exact (orE_some ey).elim (pz_hx MO hr) (pz_hx2 MO hr)
    rename_i ey
    clear ey
    split at h
    · cases h; exact ⟨tC (.int _), imp_c fun _ => .int _, fun X _ => pe_int⟩
    · cases h; exact ⟨tC (.bl _), imp_c fun _ => .bl _, fun X _ => pe_bl⟩
    · cases h; exact ⟨tC .non, imp_c fun _ => .non, fun X _ => pe_non⟩
    · cases h; exact ⟨tC (.str _), imp_c fun _ => .str _, fun X _ => pe_str⟩
    · exact pz_name MO h
    · rename_i es k pos
      cases q : cAll (cE n C) es with
      | none => rw [q] at h; cases h
      | some ies =>
        rw [q] at h; cases h
        obtain ⟨_, t, i, p⟩ := pz_all hr q
        exact ⟨tTupN t, imp_tup i, fun X xo => pe_tupN (p X xo)⟩
    · rename_i es pos
      cases q : cAll (cE n C) es with
      | none => rw [q] at h; cases h
      | some ies =>
        rw [q] at h; cases h
        obtain ⟨_, t, i, p⟩ := pz_all hr q
        exact ⟨tLst t, imp_lst i, fun X xo => pe_lst (p X xo)⟩
    · rename_i a op b pos
      split at h
      · rename_i ia ib q1 q2
        cases h
        obtain ⟨t, i, p⟩ := hr a ia q1
        obtain ⟨t2, i2, p2⟩ := hr b ib q2
        exact ⟨tOp (rBin M.K op) t t2, imp_bi op i i2, fun X xo => by rw [← xo.K]; exact pe_op (op_bin op) (p X xo) (p2 X xo)⟩
      · cases h
    · rename_i a pos
      cases q : cE n C a with
      | none => rw [q] at h; cases h
      | some ia =>
        rw [q] at h; cases h
        obtain ⟨t, i, p⟩ := hr a ia q
        exact ⟨tUn (rU fun i => .int (-i)) t, imp_neg i, fun X xo => pe_un un_neg (p X xo)⟩
    · rename_i a pos
      cases q : cE n C a with
      | none => rw [q] at h; cases h
      | some ia =>
        rw [q] at h; cases h
        obtain ⟨t, i, p⟩ := hr a ia q
        exact ⟨tNotT M.K t, imp_not i, fun X xo => by rw [← xo.K]; exact pe_notT (p X xo)⟩
    · exact pz_and hr h
    · exact pz_or hr h
    · rename_i a op b pos
      split at h
      · rename_i pl
        split at h
        · rename_i ia ib q1 q2
          cases h
          obtain ⟨t, i, p⟩ := hr a ia q1
          obtain ⟨t2, i2, p2⟩ := hr b ib q2
          exact ⟨tOp (rCmp M.K op) t t2, imp_cm op i i2, fun X xo => by rw [← xo.K]; exact pe_cmpR (op_cmp (by have := room_units xo; omega) op) (p X xo) (p2 X xo) (marks_of pl)⟩
        · cases h
      · cases h
    · rename_i a op op' b c pos
      split at h
      · rename_i pl
        rw [Bool.and_eq_true] at pl
        split at h
        · rename_i ia ib ic q1 q2 q3
          cases h
          obtain ⟨t, i, p⟩ := hr a ia q1
          obtain ⟨t2, i2, p2⟩ := hr b ib q2
          obtain ⟨t3, i3, p3⟩ := hr c ic q3
          exact ⟨tChain (rCmp M.K op) (rCmp M.K op') t t2 t3, imp_chn op op' i i2 i3, fun X xo => by
            rw [← xo.K]
            exact pe_chain (op_cmp (by have := room_units xo; omega) op) (op_cmp (by have := room_units xo; omega) op') (p X xo) (p2 X xo) (p3 X xo) (lmarks_of pl.2)⟩
        · cases h
      · cases h
    · rename_i t a b pos
      split at h
      · rename_i it ia ib q1 q2 q3
        cases h
        obtain ⟨t1, i1, p1⟩ := cT_ok n C t it MO q1
        obtain ⟨t2, i2, p2⟩ := hr a ia q2
        obtain ⟨t3, i3, p3⟩ := hr b ib q3
        exact ⟨tIf t1 t2 t3, imp_ite i1 i2 i3, fun X xo => pe_ifExp (p1 X xo) (p2 X xo) (p3 X xo)⟩
      · cases h
    · rename_i a lo hi p2 pos
      split at h
      · rename_i ia il ih q1 q2 q3
        cases h
        obtain ⟨t1, i1, p1⟩ := hr a ia q1
        obtain ⟨t2, i2, p2⟩ := pz_o hr q2
        obtain ⟨t3, i3, p3⟩ := pz_o hr q3
        exact ⟨tSl (rSlc M.K) t1 t2 t3, imp_sl i1 i2 i3, fun X xo => by rw [← xo.K]; exact pe_slice sl_all (p1 X xo) (p2 X xo) (p3 X xo)⟩
      · cases h
    · rename_i a i pos _
      split at h
      · rename_i pl
        split at h
        · rename_i ia ib q1 q2
          cases h
          obtain ⟨t, i1, p⟩ := hr a ia q1
          obtain ⟨t2, i2, p2⟩ := hr i ib q2
          exact ⟨tOp (rIxZ M.K) t t2, imp_ixx i1 i2, fun X xo => by rw [← xo.K]; exact pe_ix (ix_all (by have := room_units xo; omega)) (p X xo) (p2 X xo) (ix_of pl)⟩
        · cases h
      · cases h
    · exact pz_call MO hr h
    · rename_i o m ap a cp
      split at h
      · rename_i hc
        simp only [Bool.and_eq_true, decide_eq_true_eq] at hc
        obtain ⟨⟨⟨em, el⟩, po⟩, pl⟩ := hc
        split at h
        · rename_i io ia q1 q2
          cases h
          subst em
          obtain ⟨t, i1, p⟩ := hr o io q1
          obtain ⟨t2, i2, p2⟩ := hr a ia q2
          refine ⟨tIx2 M.K t (tCons t2 tNil), imp_index i1 (imp_a1 i2 imp_a0), fun X xo => ?_⟩
          rw [← xo.K]
          exact pe_index2 (by have := room_units xo; omega) (p X xo) (p2 X xo) (recv_of po _ X.env) (few_of pl X.env cp) el (star_of pl [] X.env)
        · cases h
      · cases h
    · rename_i elt tg it ifs scope pos
      simp only at h
      split at h
      · rename_i bk
        split at h
        · rename_i iit itg ielt icd q1 q2 q3 q4
          split at h
          · rename_i sub
            cases h
            obtain ⟨⟨t1, i1, p1⟩, pit⟩ := pz_i MO hr q1
            obtain ⟨g, ig, pg⟩ := pz_tg (M := M) n tg itg q2
            obtain ⟨t2, i2, p2⟩ := hb scope elt ielt q3
            obtain ⟨t3, i3, p3⟩ := cIfs_ok n (C.blk scope) ifs icd MO q4
            refine ⟨_, imp_lc' ((ownOf C.N scope.names).map fun x : Str × Nat => x.2) i1 ig (subS_ok sub) i3 i2, fun X xo => ?_⟩
            have ok : BlkOk X.N X.env.scope scope (ownOf C.N scope.names) := blkOk_by (by rw [xo.N, xo.sc]; exact bk)
            exact pe_lc xo.calm (by rw [xo.N]; exact xo.nd) (p1 X xo) ok (fun s H Ca cl fp => pg _ (xo.blk s H scope cl Ca fp)) (fun s H Ca cl fp => p3 _ (xo.blk s H scope cl Ca fp)) (fun s H Ca cl fp => p2 _ (xo.blk s H scope cl Ca fp)) (fold_of pit X.env)
          · cases h
        · cases h
      · cases h
    · rename_i elt tg it ifs tg2 it2 ifs2 scope pos
      simp only at h
      split at h
      · rename_i bk
        split at h
        · rename_i iit itg icd iit2 itg2 icd2 ielt q1 q2 q3 q4 q5 q6 q7
          split at h
          · rename_i sub
            rw [Bool.and_eq_true] at sub
            cases h
            obtain ⟨⟨t1, i1, p1⟩, pit⟩ := pz_i MO hr q1
            obtain ⟨g, ig, pg⟩ := pz_tg (M := M) n tg itg q2
            obtain ⟨t3, i3, p3⟩ := cIfs_ok n (C.blk scope) ifs icd MO q3
            obtain ⟨⟨t4, i4, p4⟩, pit2⟩ := pz_i (C := C.blk scope) MO (hb scope) q4
            obtain ⟨g2, ig2, pg2⟩ := pz_tg (M := M) n tg2 itg2 q5
            obtain ⟨t6, i6, p6⟩ := cIfs_ok n (C.blk scope) ifs2 icd2 MO q6
            obtain ⟨t2, i2, p2⟩ := hb scope elt ielt q7
            refine ⟨_, imp_lc2' ((ownOf C.N scope.names).map fun x : Str × Nat => x.2) (tgS itg2) i1 ig (subS_ok sub.1) i3 i4 ig2 (fun _ h => h) i6 i2, fun X xo => ?_⟩
            have ok : BlkOk X.N X.env.scope scope (ownOf C.N scope.names) := blkOk_by (by rw [xo.N, xo.sc]; exact bk)
            exact pe_lc2 xo.calm (by rw [xo.N]; exact xo.nd) (p1 X xo) ok (subS_ok sub.2) (fun s H Ca cl fp => pg _ (xo.blk s H scope cl Ca fp)) (fun s H Ca cl fp => p3 _ (xo.blk s H scope cl Ca fp)) (fun s H Ca cl fp => p4 _ (xo.blk s H scope cl Ca fp))
              (fun s H Ca cl fp => pg2 _ (xo.blk s H scope cl Ca fp)) (fun s H Ca cl fp => p6 _ (xo.blk s H scope cl Ca fp)) (fun s H Ca cl fp => p2 _ (xo.blk s H scope cl Ca fp)) (fold_of pit X.env) (fun env => fold_of pit2 env)
          · cases h
        · cases h
      · cases h
    · cases h
theorem cIfs_ok : ∀ (n : Nat) (C : CE) (ifs : List Expr) (ic : Option IE), MOk M C.fs C.gs C.bs C.ks C.ds F Gd → cIfs n C ifs = some ic → PZC M C ifs (w3c F Gd ic)
  | 0, _, _, _, _, h => by simp [cIfs] at h
  | n + 1, C, ifs, ic, MO, h => by
    unfold cIfs at h
    split at h
    · cases h; exact ⟨tYes, impt_yes, fun X _ => pts_nil⟩
    · rename_i c
      cases q : cT n C c with
      | none => rw [q] at h; cases h
      | some ie =>
        rw [q] at h; cases h
        obtain ⟨t, i, p⟩ := cT_ok n C c ie MO q
        exact ⟨t, i, fun X xo => pts_one (p X xo)⟩
    · cases h
theorem cT_ok : ∀ (n : Nat) (C : CE) (e : Expr) (ie : IE), MOk M C.fs C.gs C.bs C.ks C.ds F Gd → cT n C e = some ie → PZT M C e (wT F Gd ie)
  | 0, _, _, _, _, h => by simp [cT] at h
  | n + 1, C, e, ie, MO, h => by
    have hr : ∀ e ie, cE n C e = some ie → PZ M C e (wE F Gd ie) := fun e ie h => cE_ok n C e ie MO h
    have hT : ∀ e ie, cT n C e = some ie → PZT M C e (wT F Gd ie) := fun e ie h => cT_ok n C e ie MO h
    have val : ∀ e ie, (∀ env whole, isTrue e env whole = (do let v ← whole; standAt e.pos; holding [v] (truthy v))) → cE n C e = some ie → plainT ie = true → PZT M C e (wT F Gd ie) := fun e ie he h1 h2 => by
      obtain ⟨t, i, p⟩ := hr e ie h1
      rw [tOf_plain h2]
      exact ⟨_, impt_tru i, fun X xo => by rw [← xo.K]; exact pt_truth (p X xo) (he X.env)⟩
    unfold cT at h
    split at h
    · rename_i a pos
      cases q : cT n C a with
      | none => rw [q] at h; cases h
      | some ia =>
        rw [q] at h; cases h
        obtain ⟨t, i, p⟩ := hT a ia q
        exact ⟨tNot t, impt_not i, fun X xo => pt_not (p X xo)⟩
    · obtain ⟨t, i, p⟩ := pzw_and hT h
      exact ⟨t, i, fun X xo => (p X xo).pt⟩
    · obtain ⟨t, i, p⟩ := pzw_or hT h
      exact ⟨t, i, fun X xo => (p X xo).pt⟩
    · rename_i a op b pos
      split at h
      · rename_i pl
        split at h
        · rename_i ia ib q1 q2
          cases h
          obtain ⟨t, i, p⟩ := hr a ia q1
          obtain ⟨t2, i2, p2⟩ := hr b ib q2
          exact ⟨tTest (tOp (rCmp M.K op) t t2), impt_cm op i i2, fun X xo => by rw [← xo.K]; exact pt_cmpR (op_cmp (by have := room_units xo; omega) op) (p X xo) (p2 X xo) (marks_of pl)⟩
        · cases h
      · cases h
    · rename_i a op op' b c pos
      split at h
      · rename_i pl
        rw [Bool.and_eq_true] at pl
        split at h
        · rename_i ia ib ic q1 q2 q3
          cases h
          obtain ⟨t, i, p⟩ := hr a ia q1
          obtain ⟨t2, i2, p2⟩ := hr b ib q2
          obtain ⟨t3, i3, p3⟩ := hr c ic q3
          refine ⟨tTest (tChain (rCmp M.K op) (rCmp M.K op') t t2 t3), fun B σ P G H Γ c Q R a w k => impt_tst (imp_chn op op' i i2 i3) B σ P G H Γ c Q R a ?_ k, fun X xo => by
            rw [← xo.K]
            exact pt_chain (op_cmp (by have := room_units xo; omega) op) (op_cmp (by have := room_units xo; omega) op') (p X xo) (p2 X xo) (p3 X xo) (lmarks_of pl.2)⟩
          exact wTChn_of w
        · cases h
      · cases h
    · obtain ⟨h1, h2⟩ := onlyT_of h
      exact val _ _ (fun _ _ => rfl) h1 h2
    · obtain ⟨h1, h2⟩ := onlyT_of h
      exact val _ _ (fun _ _ => rfl) h1 h2
    · obtain ⟨h1, h2⟩ := onlyT_of h
      exact val _ _ (fun _ _ => rfl) h1 h2
    · cases h
end
end
end Z
/-! Z16 -/
set_option maxRecDepth 100000
/-! statements: from the text to the machine -/
namespace Z
open PySem PySem.Spec PyProof.Rows L2
def isLC : Expr → Bool
  | .ListComp _ _ _ _ => true
  | .SetComp _ _ _ _ => true
  | .DictComp _ _ _ _ _ => true
  | _ => false
/-- a display of a tuple -/
def notTupD : Expr → Bool
  | .Tuple _ _ _ => false
  | _ => true
def lcScope : Expr → Option Scope
  | .ListComp _ _ s _ => some s
  | _ => none
def locN (C : CE) (x : Str) : Bool := match C.sc.names.lookup x with
  | some .local => true
  | _ => false
/-- a, b = e, f by way of the stack -/
def swN (C : CE) (x y : Str) (px py : Pos) (a b : Expr) : Bool :=
  locN C x && locN C y && !(x == y) && px.line == py.line && plainX a && plainX b && !(foldedForSure 8 a && foldedForSure 8 b) && !(constantsAlone 8 a && constantsAlone 8 b)
/-- a name's list comprehension that the statement uses up -/
def usedLC (C : CE) (y : Str) (py : Pos) (e : Expr) : Bool := match e with
  | .ListComp _ _ scope pos => locN C y && py.line == pos.line && !(scope.names.any fun (n, k) => n == y && (k == .local || k == .cell))
  | _ => false
/-- .. that it does not -/
def unusedLC (C : CE) (y : Str) (e : Expr) : Bool := match e with
  | .ListComp _ _ _ _ => match C.sc.names.lookup y with
    | some .cell => true
    | _ => false
  | .SetComp _ _ _ _ => false
  | .DictComp _ _ _ _ _ => false
  | _ => true
/-- a, b = e, f, both constant through and through: by way of a tuple -/
def fdN (C : CE) (x y : Str) (px py : Pos) (a b : Expr) : Bool :=
  plainX a && plainX b && ((locN C x && locN C y && !(x == y) && px.line == py.line && foldedForSure 8 a && foldedForSure 8 b) || !locN C x || !locN C y)
/-- three at once -/
def swN3 (C : CE) (x y z : Str) (px py pz : Pos) (a b c : Expr) : Bool :=
  locN C x && locN C y && locN C z && !(x == y) && !(x == z) && !(y == z) && px.line == py.line && px.line == pz.line && plainX a && plainX b && plainX c && !(foldedForSure 8 a && foldedForSure 8 b && foldedForSure 8 c) && !(constantsAlone 8 a && constantsAlone 8 b && constantsAlone 8 c)
def isNilL : Expr → Bool
  | .List [] _ => true
  | _ => false
def cTgX (C : CE) (n : Nat) (ts : List Expr) (k : Nat) (pt : Pos) : Option Tg := match cStar C n ts with
  | some (as, i) => some (.s as i)
  | none => cTg C n (.Tuple ts k pt)
/-- lists of one's own that are handed to a def -/
def argOwn (C : CE) (ow : List Nat) : Expr → List Nat
  | .Call (.Name f _) args [] _ => if (ixOf C.fs f).isSome then args.filterMap (fun
    | .Name x _ => (match ixOf C.N x with
      | some j => if j ∈ ow then some j else none
      | none => none)
    | _ => none) else []
  | _ => []
/-- a display that is one's own -/
def cOwn (rec : Expr → Option IE) (i : Nat) : Expr → Option (List IS)
  | .Dict keys vals _ => (match keysX keys, cAll rec vals with
    | some ks, some vs => if decide (ks.length = vs.length) && decide (keys.length = vals.length) && decide (ks.length ≤ 15) then some [.newd i ks vs] else none
    | _, _ => none)
  | .BinOp (.List es _) .Mult b _ => (match cAll rec es, rec b with
    | some es, some b => some [.newr i es b]
    | _, _ => none)
  | .BinOp a .Add b _ => (match rec a, rec b with
    | some a, some b => some [.newc i a b]
    | _, _ => none)
  | _ => none
mutual
def cS : Nat → CE → List Nat → Stmt → Option (List IS)
  | 0, _, _, _ => none
  | n + 1, C, ow, s => match s with
    | .Assign [.Name y py] (.List es lp) pos => (match locB C y, ixOf C.N y, cAll (cE n C) es with
      | true, some i, some ies => if i ∈ ow then some [.new i (.lst ies)] else some [.asg (.n i) (.lst ies)]
      | _, _, _ => none)
    | .Assign [.Name y py] (.Name x xp) pos => (match locB C y, ixOf C.N y, cE n C (.Name x xp) with
      | true, some i, some ie => if i ∈ ow then none else (match ie with
        | .var j => if j ∈ ow then some [.frz j, .asg (.n i) (.var j)] else some [.asg (.n i) (.var j)]
        | ie => some [.asg (.n i) ie])
      | _, _, _ => none)
    | .Assign [.Name y py] e pos => (match locB C y, ixOf C.N y with
      | true, some i => if i ∈ ow then cOwn (cE n C) i e else (match cE n C e with
        | some ie => if usedLC C y py e || unusedLC C y e then some [.asg (.n i) ie] else none
        | none => none)
      | _, _ => none)
    | .Assign [.Tuple [.Name x px, .Name y py] k pt] (.Tuple [a, b] k2 pt2) pos => if swN C x y px py a b then (match ixOf C.N x, ixOf C.N y, cE n C a, cE n C b with
      | some i, some j, some a', some b' => if i ∈ ow ∨ j ∈ ow then (if i ∈ ow then none else if isNilL b then some [.parN i j a'] else none) else some [.par [i, j] [a', b']]
      | _, _, _, _ => none) else if fdN C x y px py a b then (match cTgX C n [.Name x px, .Name y py] k pt, cE n C (.Tuple [a, b] k2 pt2) with
      | some tg, some ie => if (tgS tg).all (fun i => !decide (i ∈ ow)) then some [.asg tg ie] else none
      | _, _ => none) else none
    | .Assign [.Tuple [.Name x px, .Name y py, .Name z pz] k pt] (.Tuple [a, b, c] k2 pt2) pos => if swN3 C x y z px py pz a b c then (match ixOf C.N x, ixOf C.N y, ixOf C.N z, cE n C a, cE n C b, cE n C c with
      | some i, some j, some l, some a, some b, some c => if i ∈ ow ∨ j ∈ ow ∨ l ∈ ow then none else some [.par [i, j, l] [a, b, c]]
      | _, _, _, _, _, _ => none) else none
    | .Assign [.Subscript (.Name x px) (.Constant (.int j) jk jp) sp] e pos => if plainX e && visB C.sc x && okN x then (match ixOf C.N x, cE n C e with
      | some i, some ie => if i ∈ ow then some [.sti i (.int j) ie] else some [.pst i j ie]
      | _, _ => none) else none
    | .Assign [.Subscript (.Name x px) k sp] e pos => if plainX e && plainX k && visB C.sc x && okN x then (match ixOf C.N x, cE n C e, cE n C k with
      | some i, some ie, some ik => some [.sti i ik ie]
      | _, _, _ => none) else none
    | .Assign [.Tuple ts k pt] e pos => if notTupD e && !isLC e then (match cTgX C n ts k pt, cE n C e with
      | some tg, some ie => if (tgS tg).all (fun i => !decide (i ∈ ow)) then some [.asg tg ie] else none
      | _, _ => none) else none
    | .AugAssign (.Name x px) op e pos => (match locB C x, ixOf C.N x, cE n C e with
      | true, some i, some ie => (match op with
        | .Add => some [.aug i .Add ie]
        | .Sub => some [.aug i .Sub ie]
        | _ => none)
      | _, _, _ => none)
    | .Expr (.Call (.Attribute (.Name x px) m ap) [a] [] cp) pos => if visB C.sc x && okN x && ap.endLine == cp.line && plainX a then (match ixOf C.N x, cE n C a with
      | some i, some ia => if m = "append" then some [.app i ia] else if m = "extend" then some [.ext i ia] else if m = "update" then some [.updd i ia] else none
      | _, _ => none) else none
    | .Return (some (.List [e1, e2, e3] lp)) pos => (match cAll (cE n C) [e1, e2, e3] with
      | some ies => if 1000 ∈ ow then some [.retP ies] else some [.ret (.lst ies)]
      | none => none)
    | .Return (some e) pos => (cE n C e).map fun ie => (argOwn C ow e).map .frz ++ [.ret ie]
    | .Return none pos => some [.retN]
    | .If t a b pos => (match cT n C t, cSs n C ow a, cSs n C ow b with
      | some it, some ia, some ib => some [.ite it ia ib]
      | _, _, _ => none)
    | .For tg it body [] pos => (match cI C (cE n C) tg it, cTg C n tg, cSs n C ow body with
      | some it, some tg, some ib => if (tgS tg).all (fun i => !decide (i ∈ ow)) then some [.loop tg it ib] else none
      | _, _, _ => none)
    | .Pass pos => some [.pass]
    | .Break pos => some [.brk]
    | .Continue pos => some [.cont]
    | .Raise _ _ _ => some [.nope]
    | _ => none
def cSs : Nat → CE → List Nat → List Stmt → Option (List IS)
  | 0, _, _, _ => none
  | _ + 1, _, _, [] => some []
  | n + 1, C, ow, s :: ss => match cS n C ow s, cSs n C ow ss with
    | some a, some as => some (a ++ as)
    | _, _ => none
end
def PZS (M : Mo) (C : CE) (s : Stmt) (w : WS) : Prop := ∃ t, ImpS M.K w t ∧ ∀ X, XOk M C X → X.xe = (fun _ _ => False) → PS X s t
def PZSs (M : Mo) (C : CE) (s : List Stmt) (w : WS) : Prop := ∃ t, ImpS M.K w t ∧ ∀ X, XOk M C X → X.xe = (fun _ _ => False) → PSs X s t
section
variable {M : Mo} {F : Nat → Ct} {Gd : Nat → PyData} {C : CE}
/-- one statement alone -/
theorem impS_one {s : IS} {t : TS} (h : ImpS M.K (wS F Gd s) t) : ImpS M.K (wSs F Gd [s]) t := fun B σ P G H Γ c R D a w k => h B σ P G H Γ c R D a w k
theorem impS_frzs {ss : List IS} {t : TS} (h : ImpS M.K (wSs F Gd ss) t) : ∀ js : List Nat, ImpS M.K (wSs F Gd (js.map .frz ++ ss)) t
  | [] => h
  | j :: js => impS_frz j (impS_frzs h js)
theorem pzs_one {s : Stmt} {i : IS} (h : PZS M C s (wS F Gd i)) : PZS M C s (wSs F Gd [i]) := by
  obtain ⟨t, i, p⟩ := h
  exact ⟨t, impS_one i, p⟩
/-- statements one behind the other -/
theorem wSs_app (a b : List IS) (Γ : Ga) (c : Nat) (R : Rt) : wSs F Gd (a ++ b) Γ c R = wSs F Gd a Γ c { R with nx := fun Γ1 c1 => wSs F Gd b Γ1 c1 R } := by
  induction a generalizing Γ c R with
  | nil => rfl
  | cons s a ih =>
    show wS F Gd s Γ c { R with nx := fun Γ1 c1 => wSs F Gd (a ++ b) Γ1 c1 R } = wS F Gd s Γ c { R with nx := fun Γ1 c1 => wSs F Gd a Γ1 c1 { R with nx := fun Γ1 c1 => wSs F Gd b Γ1 c1 R } }
    congr 2
    funext Γ1 c1
    exact ih Γ1 c1 R
theorem swaps_no {e : Expr} {tg : Option Expr} {l : Nat} {env : Env} (h : isLC e = false) : swapsWith e tg l env = pure false := by
  cases e <;> first | rfl | cases h
theorem locN_ok {x : Str} (h : locN C x = true) : C.sc.names.lookup x = some .local := by
  unfold locN at h
  split at h
  · assumption
  · cases h
theorem unused_ok {X : Cx} (xo : XOk M C X) {y : Str} {py : Pos} {e : Expr} {l : Nat} (h : unusedLC C y e = true) : swapsWith e (some (.Name y py)) l X.env = pure false := by
  cases e with
  | ListComp elt gs scope pos =>
    unfold unusedLC at h
    simp only at h
    split at h
    · rename_i k
      have hk : X.env.kindOf y = some .cell := by unfold Env.kindOf; rw [xo.sc]; exact k
      unfold swapsWith
      simp only [hk]
      have : (some NameKind.cell == some NameKind.local) = false := rfl
      simp only [this, Bool.and_false, Bool.false_and]
    · cases h
  | SetComp _ _ _ _ => cases h
  | DictComp _ _ _ _ _ => cases h
  | _ => rfl
theorem par_len {a b : WE} {Γ : Ga} {c : Nat} {Q : List Zv → Nat → Prop} (w : wCons a (wCons b wNil) Γ c Q) : wCons a (wCons b wNil) Γ c fun zs c1 => zs.length = 2 ∧ Q zs c1 := by
  show a Γ c fun z c1 => b Γ c1 fun y c2 => [z, y].length = 2 ∧ Q [z, y] c2
  have e : (fun z c1 => b Γ c1 fun y c2 => [z, y].length = 2 ∧ Q [z, y] c2) = fun z c1 => b Γ c1 fun y c2 => Q [z, y] c2 := by
    funext z c1
    congr 1
    funext y c2
    exact propext ⟨fun h => h.2, fun h => ⟨rfl, h⟩⟩
  rw [e]
  exact w
theorem swN_ok {X : Cx} (xo : XOk M C X) (hk : X.env.scope.kind = .function) {x y : Str} {px py pt pt2 : Pos} {k k2 : Nat} {a b : Expr} (h : swN C x y px py a b = true) :
    swappedStores [.Tuple [.Name x px, .Name y py] k pt] (.Tuple [a, b] k2 pt2) X.env = pure (some [x, y]) := by
  unfold swN at h
  simp only [Bool.and_eq_true, Bool.not_eq_true', beq_iff_eq] at h
  obtain ⟨⟨⟨⟨⟨⟨⟨lx, ly⟩, nxy⟩, ln⟩, pa⟩, pb⟩, nf⟩, nc⟩ := h
  have kx : X.env.kindOf x = some .local := by unfold Env.kindOf; rw [xo.sc]; exact locN_ok lx
  have ky : X.env.kindOf y = some .local := by unfold Env.kindOf; rw [xo.sc]; exact locN_ok ly
  have hb : X.env.blockKind = .function := by unfold Env.blockKind; rw [hk]; rfl
  have s0 : ∀ e : Expr, plainX e = true → (match e with | Expr.Starred _ _ => true | _ => false) = false := fun e h => by cases e <;> first | rfl | cases h
  have nyx : (y == x) = false := by
    cases q : y == x with
    | false => rfl
    | true =>
      have e := eq_of_beq q
      subst e
      simp at nxy
  have e1 : ([x, y] : List Str).eraseDups.length = 2 := by
    simp [List.eraseDups_cons, List.filter, nyx]
  unfold swappedStores
  simp only [List.length_cons, List.length_nil, List.any_cons, List.any_nil, s0 a pa, s0 b pb, List.filterMap_cons, List.filterMap_nil, kx, ky, hb, ln, List.head?_cons, Option.map_some, Option.getD_some, List.all_cons, List.all_nil, Bool.and_true, nf, nc]
  simp only [Expr.pos, ln]
  simp only [Nat.reduceAdd, Nat.zero_add, beq_self_eq_true, Bool.true_or, Bool.not_true, bne_self_eq_false, Bool.or_false, Bool.false_eq_true, if_false, Bool.and_self, if_true, List.length_cons, List.length_nil, e1]
  rw [if_neg (by
    rw [Bool.or_eq_true]
    rintro (h | h)
    · revert h
      cases a <;> first | (intro h; cases h; done) | cases pa
    · revert h
      cases b <;> first | (intro h; cases h; done) | cases pb)]
theorem fdN_ok {X : Cx} (xo : XOk M C X) (hk : X.env.scope.kind = .function) {x y : Str} {px py pt pt2 : Pos} {k k2 : Nat} {a b : Expr} (h : fdN C x y px py a b = true) :
    swappedStores [.Tuple [.Name x px, .Name y py] k pt] (.Tuple [a, b] k2 pt2) X.env = pure none := by
  unfold fdN at h
  rw [Bool.and_eq_true, Bool.and_eq_true] at h
  obtain ⟨⟨pa, pb⟩, h⟩ := h
  have hb : X.env.blockKind = .function := by unfold Env.blockKind; rw [hk]; rfl
  have s0 : ∀ e : Expr, plainX e = true → (match e with | Expr.Starred _ _ => true | _ => false) = false := fun e h => by cases e <;> first | rfl | cases h
  have kno : ∀ x : Str, locN C x = false → (X.env.kindOf x == some .local) = false := fun x h => by
    unfold Env.kindOf
    rw [xo.sc]
    unfold locN at h
    cases e : C.sc.names.lookup x with
    | none => rfl
    | some k => rw [e] at h; cases k <;> first | rfl | cases h
  have nst : ∀ e : Expr, plainX e = true → (match e with | Expr.Starred _ _ => true | _ => false) = true → False := fun e h h2 => by rw [s0 e h] at h2; cases h2
  rcases Bool.or_eq_true _ _ |>.mp h with h | h
  rcases Bool.or_eq_true _ _ |>.mp h with h | h
  · simp only [Bool.and_eq_true, Bool.not_eq_true', beq_iff_eq] at h
    obtain ⟨⟨⟨⟨⟨lx, ly⟩, nxy⟩, ln⟩, fa⟩, fb⟩ := h
    have kx : X.env.kindOf x = some .local := by unfold Env.kindOf; rw [xo.sc]; exact locN_ok lx
    have ky : X.env.kindOf y = some .local := by unfold Env.kindOf; rw [xo.sc]; exact locN_ok ly
    have nyx : (y == x) = false := by
      cases q : y == x with
      | false => rfl
      | true =>
        have e := eq_of_beq q
        subst e
        simp at nxy
    have e1 : ([x, y] : List Str).eraseDups.length = 2 := by
      simp [List.eraseDups_cons, List.filter, nyx]
    unfold swappedStores
    simp only [List.length_cons, List.length_nil, List.any_cons, List.any_nil, s0 a pa, s0 b pb, List.filterMap_cons, List.filterMap_nil, kx, ky, hb, ln, List.head?_cons, Option.map_some, Option.getD_some, List.all_cons, List.all_nil, Bool.and_true, fa, fb]
    simp only [Expr.pos, ln]
    simp only [Nat.reduceAdd, Nat.zero_add, beq_self_eq_true, Bool.true_or, Bool.not_true, bne_self_eq_false, Bool.or_false, Bool.false_eq_true, if_false, Bool.and_self, if_true, List.length_cons, List.length_nil, e1]
    exact ite_self _
  all_goals
    have hh : (X.env.kindOf x == some .local) = false ∨ (X.env.kindOf y == some .local) = false := by
      first
      | exact .inl (kno x (by simpa using h))
      | exact .inr (kno y (by simpa using h))
    have hl : (([Expr.Name x px, Expr.Name y py] : List Expr).filterMap fun
      | .Name id pos => if (X.env.kindOf id == some .local && pos.line == px.line) = true then some id else none
      | _ => none).length ≠ 2 := by
      rcases hh with h | h
      · simp only [List.filterMap_cons, List.filterMap_nil, h, Bool.false_and, Bool.false_eq_true, if_false]
        split <;> simp
      · simp only [List.filterMap_cons, List.filterMap_nil, h, Bool.false_and, Bool.false_eq_true, if_false]
        split <;> simp
    unfold swappedStores
    simp only [List.length_cons, List.length_nil, List.head?_cons, Option.map_some, Option.getD_some, Expr.pos]
    split
    · rfl
    split
    · rfl
    refine if_pos ?_
    rw [Bool.or_eq_true]
    exact .inl (bne_iff_ne.mpr hl)
theorem swN3_ok {X : Cx} (xo : XOk M C X) (hk : X.env.scope.kind = .function) {x y z : Str} {px py pz pt pt2 : Pos} {k k2 : Nat} {a b c : Expr} (h : swN3 C x y z px py pz a b c = true) :
    swappedStores [.Tuple [.Name x px, .Name y py, .Name z pz] k pt] (.Tuple [a, b, c] k2 pt2) X.env = pure (some [x, y, z]) := by
  unfold swN3 at h
  simp only [Bool.and_eq_true, Bool.not_eq_true', beq_iff_eq] at h
  obtain ⟨⟨⟨⟨⟨⟨⟨⟨⟨⟨⟨⟨lx, ly⟩, lz⟩, nxy⟩, nxz⟩, nyz⟩, ln⟩, ln2⟩, pa⟩, pb⟩, pc⟩, nf⟩, nc⟩ := h
  have kx : X.env.kindOf x = some .local := by unfold Env.kindOf; rw [xo.sc]; exact locN_ok lx
  have ky : X.env.kindOf y = some .local := by unfold Env.kindOf; rw [xo.sc]; exact locN_ok ly
  have kz : X.env.kindOf z = some .local := by unfold Env.kindOf; rw [xo.sc]; exact locN_ok lz
  have hb : X.env.blockKind = .function := by unfold Env.blockKind; rw [hk]; rfl
  have s0 : ∀ e : Expr, plainX e = true → (match e with | Expr.Starred _ _ => true | _ => false) = false := fun e h => by cases e <;> first | rfl | cases h
  have flip : ∀ {u v : Str}, (u == v) = false → (v == u) = false := fun {u v} h => by
    cases q : v == u with
    | false => rfl
    | true =>
      have e := eq_of_beq q
      subst e
      simp at h
  have e1 : ([x, y, z] : List Str).eraseDups.length = 3 := by
    simp [List.eraseDups_cons, List.filter, flip nxy, flip nxz, flip nyz]
  have nf2 : (foldedForSure 8 a && (foldedForSure 8 b && foldedForSure 8 c)) = false := by rw [← Bool.and_assoc]; exact nf
  have nc2 : (constantsAlone 8 a && (constantsAlone 8 b && constantsAlone 8 c)) = false := by rw [← Bool.and_assoc]; exact nc
  unfold swappedStores
  simp only [List.length_cons, List.length_nil, List.any_cons, List.any_nil, s0 a pa, s0 b pb, s0 c pc, List.filterMap_cons, List.filterMap_nil, kx, ky, kz, hb, ← ln, ← ln2, List.head?_cons, Option.map_some, Option.getD_some, List.all_cons, List.all_nil, Bool.and_true, nf2, nc2]
  simp only [Expr.pos]
  simp only [Nat.reduceAdd, Nat.zero_add, beq_self_eq_true, Bool.or_true, Bool.not_true, bne_self_eq_false, Bool.or_false, Bool.false_eq_true, if_false, Bool.and_self, if_true, List.length_cons, List.length_nil, e1]
  rw [if_neg (by
    simp only [Bool.or_eq_true]
    intro h
    have no : ∀ e : Expr, plainX e = true → (match e with | Expr.Starred _ _ => true | _ => false) = true → False := fun e h => by cases e <;> first | (intro h2; cases h2; done) | cases h
    rcases h with h | h | h
    · exact no a pa h
    · exact no b pb h
    · exact no c pc h)]
theorem par_len3 {a b e : WE} {Γ : Ga} {c : Nat} {Q : List Zv → Nat → Prop} (w : wCons a (wCons b (wCons e wNil)) Γ c Q) : wCons a (wCons b (wCons e wNil)) Γ c fun zs c1 => zs.length = 3 ∧ Q zs c1 := by
  show a Γ c fun z c1 => b Γ c1 fun y c2 => e Γ c2 fun x c3 => [z, y, x].length = 3 ∧ Q [z, y, x] c3
  have q : (fun z c1 => b Γ c1 fun y c2 => e Γ c2 fun x c3 => [z, y, x].length = 3 ∧ Q [z, y, x] c3) = fun z c1 => b Γ c1 fun y c2 => e Γ c2 fun x c3 => Q [z, y, x] c3 := by
    funext z c1
    congr 1
    funext y c2
    congr 1
    funext x c3
    exact propext ⟨fun h => h.2, fun h => ⟨rfl, h⟩⟩
  rw [q]
  exact w
theorem impS_par3 {K : PySem.W.Frag} {i j l : Nat} {w : WA} {t : TA} (ht : ImpA K w t) (h2 : ∀ Γ c Q, w Γ c Q → w Γ c fun zs c1 => zs.length = 3 ∧ Q zs c1) : ImpS K (fun Γ c R => w Γ c fun zs c1 => cln zs fun zs => R.nx (putZs Γ [i, j, l] zs) c1) (tPar3 i j l t) := fun B σ P G H Γ c R D a w' k => by
  refine ht B σ P G H Γ c _ _ a (h2 _ _ _ w') fun vs P1 G1 H1 c1 zs s1 w1 r1 q1 => ?_
  obtain ⟨hl, q1⟩ := q1
  obtain ⟨q, hz⟩ := cln_of r1 q1
  match zs, hl, hz, q with
  | [z1, z2, z3], _, .cons h1 (.cons h2 (.cons h3 .nil)), q =>
    have a1 := a.step s1 w1
    refine ⟨_, _, _, rfl, k.nx _ P1 G1 H1 c1 _ s1.gg s1.pp (((a1.set h1.zr fun e => (h1.notOwn e).elim).set h2.zr fun e => (h2.notOwn e).elim).set h3.zr fun e => (h3.notOwn e).elim) q⟩
/-- a, b, *rest -/
theorem pz_star : ∀ (n : Nat) (es : List Expr) (ts : List Tg) (i : Nat), cStar C n es = some (ts, i) → ∃ g, ImpGsR M.K ts i g ∧ (∀ X, XOk M C X → PGs X es g) ∧ (∀ env, (assignEach es env).length = ts.length + 1) ∧ (∀ env, (assignEach es env).findIdx? (·.1) = some ts.length)
  | n, [], ts, i, h => by cases h
  | n, e :: es, ts, i, h => by
    unfold cStar at h
    split at h
    · rename_i heq; cases heq
    · rename_i x px sp heq
      cases heq
      split at h
      · rename_i lc
        cases q : ixOf C.N x with
        | none => rw [q] at h; cases h
        | some j =>
          rw [q] at h
          cases h
          exact ⟨gCons (gName i) gNil, impgsr_nil i, fun X xo => pgs_starL (pg_name (by rw [xo.N]; exact xo.nd) (by rw [xo.N]; exact ixOf_get q) (loc_of xo lc).1 (loc_of xo lc).2), fun _ => rfl, fun _ => rfl⟩
      · cases h
    · rename_i e' es' _ heq
      cases heq
      split at h
      · rename_i pl
        split at h
        · rename_i a as j e1 e2
          cases h
          obtain ⟨g, ig, pg⟩ := pz_tg (M := M) n e a e1
          obtain ⟨gs, igs, pgs, hn, hst⟩ := pz_star n es as i e2
          refine ⟨gCons g gs, impgsr_cons ig igs, fun X xo => pgs_cons (pg X xo) (pgs X xo) (by rw [assignEach_of pl]; rfl), fun env => by rw [assignEach_of pl]; simp [hn env], fun env => ?_⟩
          rw [assignEach_of pl, List.findIdx?_cons, hst env]
          rfl
        · cases h
      · cases h
theorem pz_tgX {n : Nat} {ts : List Expr} {k : Nat} {pt : Pos} {tg : Tg} (h : cTgX C n ts k pt = some tg) : PZG M C (.Tuple ts k pt) tg ∧ tgN tg = none := by
  unfold cTgX at h
  split at h
  · rename_i as i q
    cases h
    obtain ⟨g, ig, pgs, hn, hst⟩ := pz_star (M := M) n ts as i q
    refine ⟨⟨gStar M.K as.length g, impg_s ig, fun X xo => ?_⟩, rfl⟩
    rw [← xo.K]
    exact pg_star xo.calm (pgs X xo) (hn X.env) (hst X.env)
  · refine ⟨pz_tg (M := M) n _ tg h, ?_⟩
    cases n with
    | zero => simp [cTg] at h
    | succ n =>
      have h : (cTgs C n ts).map Tg.t = some tg := by simpa [cTg] using h
      cases q : cTgs C n ts with
      | none => rw [q] at h; cases h
      | some us => rw [q] at h; cases h; rfl
theorem impS_asgX {e : IE} {t : TE} {tg : Tg} {g : TG} (hn : tgN tg = none) (i1 : Imp M.K (wE F Gd e) t) (ig : ImpG M.K (tgS tg) (wTg tg) g) : ImpS M.K (wS F Gd (.asg tg e)) (tAsg t g) := by
  have := impS_asgT i1 ig
  intro B σ P G H Γ c R D a w k
  refine this B σ P G H Γ c R D a ?_ k
  unfold wS at w
  rw [hn] at w
  exact w
theorem used_ok {X : Cx} (xo : XOk M C X) (hk : X.env.scope.kind = .function) {y : Str} {py : Pos} {elt : Expr} {gs : List Comprehension} {scope : Scope} {pos : Pos} {l : Nat} (h : usedLC C y py (.ListComp elt gs scope pos) = true) :
    X.env.scope.names.lookup y = some .local ∧ swapsWith (.ListComp elt gs scope pos) (some (.Name y py)) l X.env = pure true := by
  have h : (locN C y && py.line == pos.line && !(scope.names.any fun (n, k) => n == y && (k == .local || k == .cell))) = true := h
  simp only [Bool.and_eq_true, Bool.not_eq_true'] at h
  obtain ⟨⟨ly, ln⟩, nn⟩ := h
  have hy : X.env.scope.names.lookup y = some .local := by rw [xo.sc]; exact locN_ok ly
  exact ⟨hy, sw_true hk hy ln nn⟩
theorem idx_ne {l : List Str} {x y : Str} {i j : Nat} (h1 : ixOf l x = some i) (h2 : ixOf l y = some j) (n : (x == y) = false) : i ≠ j := fun e => by
  subst e
  have a := ixOf_get h1
  have b := ixOf_get h2
  rw [a] at b
  cases b
  simp at n
/-- an assignment to one name -/
theorem pzs_name (MO : MOk M C.fs C.gs C.bs C.ks C.ds F Gd) {n : Nat} {y : Str} {py pos : Pos} {e : Expr} {i : Nat} {ie : IE} (lc : locB C y = true) (hi : ixOf C.N y = some i) (he : cE n C e = some ie) (hu : (usedLC C y py e || unusedLC C y e) = true)
    (hkind : ∀ X, XOk M C X → X.env.scope.kind = .function) : PZS M C (.Assign [.Name y py] e pos) (wS F Gd (.asg (.n i) ie)) := by
  have hpe := cE_ok (F := F) (Gd := Gd) n C e ie MO he
  by_cases hun : unusedLC C y e = true
  · obtain ⟨t, im, p⟩ := hpe
    exact ⟨tAsg t (gName i), impS_asgN i im, fun X xo _ => ps_set (by rw [xo.N]; exact xo.nd) (by rw [xo.N]; exact ixOf_get hi) (loc_of xo lc).1 (p X xo) (unused_ok xo hun) (loc_of xo lc).2⟩
  · have hus : usedLC C y py e = true := by
      rw [Bool.or_eq_true] at hu
      exact hu.resolve_right hun
    cases n with
    | zero => simp [cE] at he
    | succ n =>
      have hb : ∀ scope e ie, cE n (C.blk scope) e = some ie → PZ M (C.blk scope) e (wE F Gd ie) := fun scope e ie h => cE_ok n (C.blk scope) e ie MO h
      have hr : ∀ e ie, cE n C e = some ie → PZ M C e (wE F Gd ie) := fun e ie h => cE_ok n C e ie MO h
      cases e with
      | ListComp elt gs scope lpos =>
        unfold cE at he
        rw [show cHook C (.ListComp elt gs scope lpos) = none from rfl] at he
        simp only at he
        rw [show orE (cHx (cE n C) C (.ListComp elt gs scope lpos)) (cHx2 (cE n C) (.ListComp elt gs scope lpos)) = none from rfl] at he
        simp only at he
        split at he
        all_goals first | (cases he; done) | (rename_i heq; cases heq; done) | skip
        · rename_i elt' tg it ifs scope' lpos' heq
          cases heq
          split at he
          · rename_i bk
            split at he
            · rename_i iit itg ielt icd q1 q2 q3 q4
              split at he
              · rename_i sub
                cases he
                obtain ⟨⟨t1, i1, p1⟩, pit⟩ := pz_i MO hr q1
                obtain ⟨g, ig, pg⟩ := pz_tg (M := M) n tg itg q2
                obtain ⟨t2, i2, p2⟩ := hb scope elt ielt q3
                obtain ⟨t3, i3, p3⟩ := cIfs_ok (F := F) (Gd := Gd) n (C.blk scope) ifs icd MO q4
                refine ⟨_, impS_asgN i (imp_lc' ((ownOf C.N scope.names).map fun x : Str × Nat => x.2) i1 ig (subS_ok sub) i3 i2), fun X xo _ => ?_⟩
                obtain ⟨hyl, hsw⟩ := used_ok xo (hkind X xo) (l := pos.line) hus
                have ok : BlkOk X.N X.env.scope scope (ownOf C.N scope.names) := blkOk_by (by rw [xo.N, xo.sc]; exact bk)
                exact ps_setLc xo.calm (by rw [xo.N]; exact xo.nd) (by rw [xo.N]; exact ixOf_get hi) hyl hsw (p1 X xo) ok (fun s H Ca cl fp => pg _ (xo.blk s H scope cl Ca fp)) (fun s H Ca cl fp => p3 _ (xo.blk s H scope cl Ca fp)) (fun s H Ca cl fp => p2 _ (xo.blk s H scope cl Ca fp)) (fold_of pit X.env)
              · cases he
            · cases he
          · cases he
        · rename_i elt' tg it ifs tg2 it2 ifs2 scope' lpos' heq
          cases heq
          split at he
          · rename_i bk
            split at he
            · rename_i iit itg icd iit2 itg2 icd2 ielt q1 q2 q3 q4 q5 q6 q7
              split at he
              · rename_i sub
                rw [Bool.and_eq_true] at sub
                cases he
                obtain ⟨⟨t1, i1, p1⟩, pit⟩ := pz_i MO hr q1
                obtain ⟨g, ig, pg⟩ := pz_tg (M := M) n tg itg q2
                obtain ⟨t3, i3, p3⟩ := cIfs_ok (F := F) (Gd := Gd) n (C.blk scope) ifs icd MO q3
                obtain ⟨⟨t4, i4, p4⟩, pit2⟩ := pz_i (C := C.blk scope) MO (hb scope) q4
                obtain ⟨g2, ig2, pg2⟩ := pz_tg (M := M) n tg2 itg2 q5
                obtain ⟨t6, i6, p6⟩ := cIfs_ok (F := F) (Gd := Gd) n (C.blk scope) ifs2 icd2 MO q6
                obtain ⟨t2, i2, p2⟩ := hb scope elt ielt q7
                refine ⟨_, impS_asgN i (imp_lc2' ((ownOf C.N scope.names).map fun x : Str × Nat => x.2) (tgS itg2) i1 ig (subS_ok sub.1) i3 i4 ig2 (fun _ h => h) i6 i2), fun X xo _ => ?_⟩
                obtain ⟨hyl, hsw⟩ := used_ok xo (hkind X xo) (l := pos.line) hus
                have ok : BlkOk X.N X.env.scope scope (ownOf C.N scope.names) := blkOk_by (by rw [xo.N, xo.sc]; exact bk)
                exact ps_setLc2 xo.calm (by rw [xo.N]; exact xo.nd) (by rw [xo.N]; exact ixOf_get hi) hyl hsw (p1 X xo) ok (subS_ok sub.2) (fun s H Ca cl fp => pg _ (xo.blk s H scope cl Ca fp)) (fun s H Ca cl fp => p3 _ (xo.blk s H scope cl Ca fp)) (fun s H Ca cl fp => p4 _ (xo.blk s H scope cl Ca fp))
                  (fun s H Ca cl fp => pg2 _ (xo.blk s H scope cl Ca fp)) (fun s H Ca cl fp => p6 _ (xo.blk s H scope cl Ca fp)) (fun s H Ca cl fp => p2 _ (xo.blk s H scope cl Ca fp)) (fold_of pit X.env) (fun env => fold_of pit2 env)
              · cases he
            · cases he
          · cases he
      | _ => cases hus
theorem pl_of {n : Nat} {e : Expr} {ie : IE} (h : cE n C e = some ie) : plainX e = true := by
  cases n with
  | zero => simp [cE] at h
  | succ n => cases e <;> first | rfl | simp [cE, cHook, cHx, cHx2, orE] at h
/-- name += e, name -= e -/
theorem aug_add {ie : IE} {t : TE} (i : Nat) (h : Imp M.K (wE F Gd ie) t) : ImpS M.K (wS F Gd (.aug i .Add ie)) (tAug i t (ipI fun i j => i + j)) := by
  have := impS_aug i .Add h (fun i j => i + j) (fun a b R Γ c => R.nx (putZ Γ i (.d (.int (a + b)))) c) (fun x y R Γ c h => h)
  intro B σ P G H Γ c R D a w k
  refine this B σ P G H Γ c R D a ?_ k
  unfold wS at w
  split at w
  · rename_i a0 e0
    try simp only [e0]
    refine cast (congrArg (wE F Gd ie Γ c) (funext fun z => funext fun c1 => congrArg (dv z) (funext fun y => ?_))) w
    cases y <;> rfl
  · exact w.elim
theorem aug_sub {ie : IE} {t : TE} (i : Nat) (h : Imp M.K (wE F Gd ie) t) : ImpS M.K (wS F Gd (.aug i .Sub ie)) (tAug i t (ipI fun i j => i - j)) := by
  have := impS_aug i .Sub h (fun i j => i - j) (fun a b R Γ c => R.nx (putZ Γ i (.d (.int (a - b)))) c) (fun x y R Γ c h => h)
  intro B σ P G H Γ c R D a w k
  refine this B σ P G H Γ c R D a ?_ k
  unfold wS at w
  split at w
  · rename_i a0 e0
    try simp only [e0]
    refine cast (congrArg (wE F Gd ie Γ c) (funext fun z => funext fun c1 => congrArg (dv z) (funext fun y => ?_))) w
    cases y <;> rfl
  · exact w.elim
theorem pzs_own (MO : MOk M C.fs C.gs C.bs C.ks C.ds F Gd) {rec : Expr → Option IE} (hr : ∀ e ie, rec e = some ie → PZ M C e (wE F Gd ie)) {y : Str} {py pos : Pos} {e : Expr} {i : Nat} {is : List IS} (e1 : locB C y = true) (e2 : ixOf C.N y = some i) (h : cOwn rec i e = some is) : PZS M C (.Assign [.Name y py] e pos) (wSs F Gd is) := by
  unfold cOwn at h
  split at h
  · rename_i keys vals dp
    split at h
    · rename_i ks vs e3 e4
      split at h
      · rename_i hc
        simp only [Bool.and_eq_true, decide_eq_true_eq] at hc
        obtain ⟨⟨h1, h2⟩, h15⟩ := hc
        cases h
        obtain ⟨hk1, hk2⟩ := keysX_len e3
        obtain ⟨ts, hl, im, pp⟩ := pz_each hr e4
        by_cases h0 : keys = []
        · subst h0
          cases e3
          have : vals = [] := List.eq_nil_of_length_eq_zero (by simpa using h2.symm)
          subst this
          cases e4
          exact pzs_one ⟨tAsg tDNewK (gName i), impS_newd0 i, fun X xo _ => ps_set (by rw [xo.N]; exact xo.nd) (by rw [xo.N]; exact ixOf_get e2) (loc_of xo e1).1 pe_dnewK (swaps_no rfl) (loc_of xo e1).2⟩
        · exact pzs_one ⟨tAsg (tDisp (trsOf ks ts)) (gName i), impS_newd i (by omega) h15 im, fun X xo _ => ps_set (by rw [xo.N]; exact xo.nd) (by rw [xo.N]; exact ixOf_get e2) (loc_of xo e1).1 (pe_disp (pp dp keys ks e3 h2 X xo) hk2 h2 h0 (by omega)) (swaps_no rfl) (loc_of xo e1).2⟩
      · cases h
    · cases h
  · rename_i es lp b bp
    split at h
    · rename_i es' b' e3 e4
      cases h
      obtain ⟨_, t, im, p⟩ := pz_all hr e3
      obtain ⟨t2, im2, p2⟩ := hr b b' e4
      exact pzs_one ⟨tAsg (tOp rRep (tLst t) t2) (gName i), impS_newr i im im2, fun X xo _ => ps_set (by rw [xo.N]; exact xo.nd) (by rw [xo.N]; exact ixOf_get e2) (loc_of xo e1).1 (pe_op op_rep (pe_lst (p X xo)) (p2 X xo)) (swaps_no rfl) (loc_of xo e1).2⟩
    · cases h
  · rename_i a b bp
    split at h
    · rename_i a' b' e3 e4
      cases h
      obtain ⟨t, im, p⟩ := hr a a' e3
      obtain ⟨t2, im2, p2⟩ := hr b b' e4
      exact pzs_one ⟨tAsg (tOp (rCatR M.K) t t2) (gName i), impS_newc i im im2, fun X xo _ => by
        rw [← xo.K]
        exact ps_set (by rw [xo.N]; exact xo.nd) (by rw [xo.N]; exact ixOf_get e2) (loc_of xo e1).1 (pe_op op_catR (p X xo) (p2 X xo)) (swaps_no rfl) (loc_of xo e1).2⟩
    · cases h
  · cases h
mutual
theorem cS_ok (hkind : ∀ X, XOk M C X → X.env.scope.kind = .function) (MO : MOk M C.fs C.gs C.bs C.ks C.ds F Gd) : ∀ (n : Nat) (ow : List Nat) (s : Stmt) (is : List IS), cS n C ow s = some is → PZS M C s (wSs F Gd is)
  | 0, _, _, _, h => by simp [cS] at h
  | n + 1, ow, s, is, h => by
    have hr : ∀ e ie, cE n C e = some ie → PZ M C e (wE F Gd ie) := fun e ie h => cE_ok n C e ie MO h
    unfold cS at h
    split at h
    · rename_i y py es lp pos
      split at h
      · rename_i i ies e1 e2 e3
        obtain ⟨_, t, im, p⟩ := pz_all hr e3
        split at h
        · cases h
          exact pzs_one ⟨tAsg (tLst t) (gName i), impS_new i im, fun X xo _ => ps_set (by rw [xo.N]; exact xo.nd) (by rw [xo.N]; exact ixOf_get e2) (loc_of xo e1).1 (pe_lst (p X xo)) (swaps_no rfl) (loc_of xo e1).2⟩
        · cases h
          exact pzs_one ⟨tAsg (tLst t) (gName i), impS_asgN i (imp_lst im), fun X xo _ => ps_set (by rw [xo.N]; exact xo.nd) (by rw [xo.N]; exact ixOf_get e2) (loc_of xo e1).1 (pe_lst (p X xo)) (swaps_no rfl) (loc_of xo e1).2⟩
      · cases h
    · rename_i y py x xp pos
      split at h
      · rename_i i ie e1 e2 e3
        have one : ∀ ie, cE n C (.Name x xp) = some ie → PZS M C (.Assign [.Name y py] (.Name x xp) pos) (wS F Gd (.asg (.n i) ie)) := fun ie e3 => pzs_name MO e1 e2 e3 (by rw [Bool.or_eq_true]; exact .inr rfl) hkind
        split at h
        · cases h
        · split at h
          · rename_i j
            split at h
            · cases h
              obtain ⟨t, im, p⟩ := one _ e3
              exact ⟨t, impS_frz j im, p⟩
            · cases h
              exact pzs_one (one _ e3)
          · cases h
            exact pzs_one (one _ e3)
      · cases h
    · rename_i y py e pos _ _
      split at h
      · rename_i i e1 e2
        split at h
        · exact pzs_own MO hr e1 e2 h
        · split at h
          · rename_i ie e3
            split at h
            · rename_i hu
              cases h
              exact pzs_one (pzs_name MO e1 e2 e3 hu hkind)
            · cases h
          · cases h
      · cases h
    · rename_i x px y py k pt a b k2 pt2 pos
      split at h
      · rename_i sw
        split at h
        · rename_i i j ia ib q1 q2 q3 q4
          split at h
          · split at h
            · cases h
            · split at h
              · rename_i nb
                cases h
                unfold isNilL at nb
                split at nb
                · rename_i lp
                  obtain ⟨t1, i1, p1⟩ := hr a ia q3
                  have sw' := sw
                  unfold swN at sw'
                  simp only [Bool.and_eq_true, Bool.not_eq_true', beq_iff_eq] at sw'
                  obtain ⟨⟨⟨⟨⟨⟨⟨lx, ly⟩, nxy⟩, ln⟩, pa⟩, pb⟩, nf⟩, nc⟩ := sw'
                  refine pzs_one ⟨tPar i j (tCons t1 (tCons (tLst tNil) tNil)), impS_parN i j i1, fun X xo _ => ?_⟩
                  exact ps_par xo.calm (by rw [xo.N]; exact xo.nd) (by rw [xo.N]; exact ixOf_get q1) (by rw [xo.N]; exact ixOf_get q2) (idx_ne q1 q2 nxy) (by rw [xo.sc]; exact locN_ok lx) (by rw [xo.sc]; exact locN_ok ly)
                    (pa_cons (p1 X xo) (pa_cons (pe_lst pa_nil) pa_nil (star_of pb [] X.env)) (star_of pa [.List [] lp] X.env)) (swN_ok xo (hkind X xo) sw)
                · cases nb
              · cases h
          · cases h
            obtain ⟨t1, i1, p1⟩ := hr a ia q3
            obtain ⟨t2, i2, p2⟩ := hr b ib q4
            have sw' := sw
            unfold swN at sw'
            simp only [Bool.and_eq_true, Bool.not_eq_true', beq_iff_eq] at sw'
            obtain ⟨⟨⟨⟨⟨⟨⟨lx, ly⟩, nxy⟩, ln⟩, pa⟩, pb⟩, nf⟩, nc⟩ := sw'
            refine pzs_one ⟨tPar i j (tCons t1 (tCons t2 tNil)), impS_par2 (imp_a1 i1 (imp_a1 i2 imp_a0)) (fun Γ c Q w => par_len w), fun X xo _ => ?_⟩
            exact ps_par xo.calm (by rw [xo.N]; exact xo.nd) (by rw [xo.N]; exact ixOf_get q1) (by rw [xo.N]; exact ixOf_get q2) (idx_ne q1 q2 nxy) (by rw [xo.sc]; exact locN_ok lx) (by rw [xo.sc]; exact locN_ok ly)
              (pa_cons (p1 X xo) (pa_cons (p2 X xo) pa_nil (star_of pb [] X.env)) (star_of pa [b] X.env)) (swN_ok xo (hkind X xo) sw)
        · cases h
      · split at h
        · rename_i fd
          split at h
          · rename_i tg ie q1 q2
            split at h
            · cases h
              obtain ⟨⟨g, ig, pg⟩, htn⟩ := pz_tgX (M := M) q1
              obtain ⟨t, i1, p1⟩ := hr _ ie q2
              exact pzs_one ⟨tAsg t g, impS_asgX htn i1 ig, fun X xo _ => ps_asg (p1 X xo) (pg X xo) (by unfold swapsWithSole; first | exact swaps_no rfl | (split <;> first | exact swaps_no rfl | rfl)) (fdN_ok xo (hkind X xo) fd)⟩
            · cases h
          · cases h
        · cases h
    · rename_i x px y py z pz k pt a b c k2 pt2 pos
      split at h
      · rename_i sw
        split at h
        · rename_i i j l ia ib ic q1 q2 q3 q4 q5 q6
          split at h
          · cases h
          · cases h
            obtain ⟨t1, i1, p1⟩ := hr a ia q4
            obtain ⟨t2, i2, p2⟩ := hr b ib q5
            obtain ⟨t3, i3, p3⟩ := hr c ic q6
            have sw' := sw
            unfold swN3 at sw'
            simp only [Bool.and_eq_true, Bool.not_eq_true', beq_iff_eq] at sw'
            obtain ⟨⟨⟨⟨⟨⟨⟨⟨⟨⟨⟨⟨lx, ly⟩, lz⟩, nxy⟩, nxz⟩, nyz⟩, ln⟩, ln2⟩, pa⟩, pb⟩, pc⟩, nf⟩, nc⟩ := sw'
            refine pzs_one ⟨tPar3 i j l (tCons t1 (tCons t2 (tCons t3 tNil))), impS_par3 (imp_a1 i1 (imp_a1 i2 (imp_a1 i3 imp_a0))) (fun Γ c Q w => par_len3 w), fun X xo _ => ?_⟩
            exact ps_par3 xo.calm (by rw [xo.N]; exact xo.nd) (by rw [xo.N]; exact ixOf_get q1) (by rw [xo.N]; exact ixOf_get q2) (by rw [xo.N]; exact ixOf_get q3) (idx_ne q1 q2 nxy) (idx_ne q1 q3 nxz) (idx_ne q2 q3 nyz) (by rw [xo.sc]; exact locN_ok lx) (by rw [xo.sc]; exact locN_ok ly) (by rw [xo.sc]; exact locN_ok lz)
              (pa_cons (p1 X xo) (pa_cons (p2 X xo) (pa_cons (p3 X xo) pa_nil (star_of pc [] X.env)) (star_of pb [c] X.env)) (star_of pa [b, c] X.env)) (swN3_ok xo (hkind X xo) sw)
        · cases h
      · cases h
    · rename_i x px j jk jp sp e pos
      split at h
      · rename_i hc
        simp only [Bool.and_eq_true] at hc
        obtain ⟨⟨pl, vis⟩, ok⟩ := hc
        split at h
        · rename_i i ie e1 e2
          obtain ⟨t, im, p⟩ := hr e ie e2
          split at h
          · cases h
            exact pzs_one ⟨tAsg t (gSub (tVar i) (tC (.int j)) rSetZ), impS_sti i im (imp_c (x := .int j) fun _ => .int j), fun X xo _ => ps_asg (p X xo) (pg_sub (pe_var (by rw [xo.N]; exact ixOf_get e1) (by rw [xo.sc]; exact visB_ok vis) (okN_dbg ok) (okN_cdc ok)) pe_int (set_z (by have := room_units xo; omega))) (by
              unfold swapsWithSole
              cases e <;> rfl) (by cases e <;> first | rfl | cases pl)⟩
          cases h
          exact pzs_one ⟨tAsg t (gSub (tVar i) (tC (.int j)) rSetL), impS_pst i j im, fun X xo _ => ps_asg (p X xo) (pg_sub (pe_var (by rw [xo.N]; exact ixOf_get e1) (by rw [xo.sc]; exact visB_ok vis) (okN_dbg ok) (okN_cdc ok)) pe_int set_list) (by
            unfold swapsWithSole
            cases e <;> rfl) (by cases e <;> first | rfl | cases pl)⟩
        · cases h
      · cases h
    · rename_i x px kx sp e pos _
      split at h
      · rename_i hc
        simp only [Bool.and_eq_true] at hc
        obtain ⟨⟨⟨pl, pk⟩, vis⟩, ok⟩ := hc
        split at h
        · rename_i i ie ik e1 e2 e3
          obtain ⟨t, im, p⟩ := hr e ie e2
          obtain ⟨t2, im2, p2⟩ := hr kx ik e3
          cases h
          exact pzs_one ⟨tAsg t (gSub (tVar i) t2 rSetZ), impS_sti i im im2, fun X xo _ => ps_asg (p X xo) (pg_sub (pe_var (by rw [xo.N]; exact ixOf_get e1) (by rw [xo.sc]; exact visB_ok vis) (okN_dbg ok) (okN_cdc ok)) (p2 X xo) (set_z (by have := room_units xo; omega)) (by intro v; cases kx <;> first | rfl | cases pk)) (by
            unfold swapsWithSole
            cases e <;> rfl) (by cases e <;> first | rfl | cases pl)⟩
        · cases h
      · cases h
    · rename_i ts k pt e pos _ _
      split at h
      · rename_i nt
        rw [Bool.and_eq_true, Bool.not_eq_true'] at nt
        split at h
        · rename_i tg ie q1 q2
          split at h
          · cases h
            obtain ⟨⟨g, ig, pg⟩, htn⟩ := pz_tgX (M := M) q1
            obtain ⟨t, i1, p1⟩ := hr e ie q2
            have hs : swappedStores [.Tuple ts k pt] e = fun _ => pure none := by funext env; cases e <;> first | rfl | cases nt.1
            exact pzs_one ⟨tAsg t g, impS_asgX htn i1 ig, fun X xo _ => ps_asg (p1 X xo) (pg X xo) (by unfold swapsWithSole; first | exact swaps_no nt.2 | (split <;> first | exact swaps_no nt.2 | rfl)) (by rw [hs])⟩
          · cases h
        · cases h
      · cases h
    · rename_i x px op e pos
      split at h
      · rename_i i ie e1 e2 e3
        obtain ⟨t, i1, p1⟩ := hr e ie e3
        split at h
        · cases h
          exact pzs_one ⟨tAug i t (ipI fun i j => i + j), aug_add i i1, fun X xo _ => ps_aug (by rw [xo.N]; exact xo.nd) (by rw [xo.N]; exact ixOf_get e2) (loc_of xo e1).1 (p1 X xo) ip_add (loc_of xo e1).2⟩
        · cases h
          exact pzs_one ⟨tAug i t (ipI fun i j => i - j), aug_sub i i1, fun X xo _ => ps_aug (by rw [xo.N]; exact xo.nd) (by rw [xo.N]; exact ixOf_get e2) (loc_of xo e1).1 (p1 X xo) ip_sub (loc_of xo e1).2⟩
        · cases h
      · cases h
    · rename_i x px m ap a cp pos
      split at h
      · rename_i hc
        simp only [Bool.and_eq_true] at hc
        obtain ⟨⟨⟨vis, ok⟩, el⟩, pl⟩ := hc
        split at h
        · rename_i i ia q1 q2
          obtain ⟨t, i1, p1⟩ := hr a ia q2
          split at h
          · rename_i em
            cases h
            subst em
            refine pzs_one ⟨tDrop (tBM M.K "list" rAppend (tVar i) (tCons t tNil)), impS_app i i1, fun X xo _ => ?_⟩
            rw [← xo.K]
            exact ps_expr (pe_bm PySem.F.plainAttrs_list PySem.F.slot_list_append PySem.F.type_list_append mt_append (pe_var (by rw [xo.N]; exact ixOf_get q1) (by rw [xo.sc]; exact visB_ok vis) (okN_dbg ok) (okN_cdc ok)) (pa_cons (p1 X xo) pa_nil (star_of pl [] X.env))
              rfl (few_of pl X.env cp) el (star_of pl [] X.env) rfl) (swaps_no rfl)
          · split at h
            · rename_i em
              cases h
              subst em
              refine pzs_one ⟨tDrop (tBM M.K "list" rExtend (tVar i) (tCons t tNil)), impS_ext i i1, fun X xo _ => ?_⟩
              rw [← xo.K]
              exact ps_expr (pe_bm PySem.F.plainAttrs_list PySem.F.slot_list_extend PySem.F.type_list_extend mt_extend (pe_var (by rw [xo.N]; exact ixOf_get q1) (by rw [xo.sc]; exact visB_ok vis) (okN_dbg ok) (okN_cdc ok)) (pa_cons (p1 X xo) pa_nil (star_of pl [] X.env))
                rfl (few_of pl X.env cp) el (star_of pl [] X.env) rfl) (swaps_no rfl)
            · split at h
              · rename_i em
                cases h
                subst em
                refine pzs_one ⟨tDrop (tBM M.K "dict" rUpd (tVar i) (tCons t tNil)), impS_updd i i1, fun X xo _ => ?_⟩
                rw [← xo.K]
                exact ps_expr (pe_bm PySem.F.plainAttrs_dict PySem.F.slot_dict_update PySem.F.type_dict_update mt_update (pe_var (by rw [xo.N]; exact ixOf_get q1) (by rw [xo.sc]; exact visB_ok vis) (okN_dbg ok) (okN_cdc ok)) (pa_cons (p1 X xo) pa_nil (star_of pl [] X.env))
                  rfl (few_of pl X.env cp) el (star_of pl [] X.env) rfl) (swaps_no rfl)
              · cases h
        · cases h
      · cases h
    · rename_i e1 e2 e3 lp pos
      split at h
      · rename_i ies q
        obtain ⟨_, t, im, p⟩ := pz_all hr q
        split at h
        · cases h
          exact pzs_one ⟨tRet (tLst t), impS_retP im, fun X xo _ => ps_ret (pe_lst (p X xo))⟩
        · cases h
          exact pzs_one ⟨tRet (tLst t), impS_ret (imp_lst im), fun X xo _ => ps_ret (pe_lst (p X xo))⟩
      · cases h
    · rename_i e pos _
      cases q : cE n C e with
      | none => rw [q] at h; cases h
      | some ie =>
        rw [q] at h; cases h
        obtain ⟨t, i1, p1⟩ := hr e ie q
        exact ⟨tRet t, impS_frzs (impS_one (impS_ret i1)) _, fun X xo _ => ps_ret (p1 X xo)⟩
    · cases h; exact pzs_one ⟨tRetN, impS_retN, fun X xo _ => ps_retN⟩
    · rename_i t a b pos
      split at h
      · rename_i it ia ib q1 q2 q3
        cases h
        obtain ⟨t1, i1, p1⟩ := cT_ok (F := F) (Gd := Gd) n C t it MO q1
        obtain ⟨t2, i2, p2⟩ := cSs_ok hkind MO n ow a ia q2
        obtain ⟨t3, i3, p3⟩ := cSs_ok hkind MO n ow b ib q3
        exact pzs_one ⟨tIfS t1 t2 t3, impS_ite i1 i2 i3, fun X xo xe => ps_if (p1 X xo) (p2 X xo xe) (p3 X xo xe)⟩
      · cases h
    · rename_i tg it body pos
      split at h
      · rename_i iit itg ib q1 q2 q3
        split at h
        · cases h
          obtain ⟨⟨t1, i1, p1⟩, pit⟩ := pz_i MO hr q1
          obtain ⟨g, ig, pg⟩ := pz_tg (M := M) n tg itg q2
          obtain ⟨t2, i2, p2⟩ := cSs_ok hkind MO n ow body ib q3
          exact pzs_one ⟨tFor t1 g t2, impS_for i1 ig i2, fun X xo xe => ps_for (by rw [xe]; exact PassesOwn.never) xo.calm (p1 X xo) (pg X xo) (p2 X xo xe) (fold_of pit X.env)⟩
        · cases h
      · cases h
    · cases h; exact pzs_one ⟨tNext, impS_pass, fun X xo _ => ps_pass⟩
    · cases h; exact pzs_one ⟨tBreak, impS_brk, fun X xo _ => ps_break⟩
    · cases h; exact pzs_one ⟨tCont, impS_cont, fun X xo _ => ps_continue⟩
    · cases h; exact pzs_one ⟨fun _ _ _ => False, impS_nope, fun X xo _ => ps_nope⟩
    · cases h
theorem cSs_ok (hkind : ∀ X, XOk M C X → X.env.scope.kind = .function) (MO : MOk M C.fs C.gs C.bs C.ks C.ds F Gd) : ∀ (n : Nat) (ow : List Nat) (s : List Stmt) (is : List IS), cSs n C ow s = some is → PZSs M C s (wSs F Gd is)
  | 0, _, _, _, h => by simp [cSs] at h
  | n + 1, ow, [], is, h => by
    have h : (some [] : Option (List IS)) = some is := by simpa [cSs] using h
    cases h
    exact ⟨tNext, impS_pass, fun X xo _ => pss_nil⟩
  | n + 1, ow, s :: ss, is, h => by
    unfold cSs at h
    split at h
    · rename_i a as q1 q2
      cases h
      obtain ⟨t1, i1, p1⟩ := cS_ok hkind MO n ow s a q1
      obtain ⟨t2, i2, p2⟩ := cSs_ok hkind MO n ow ss as q2
      refine ⟨tSeq t1 t2, ?_, fun X xo xe => pss_cons (p1 X xo xe) (p2 X xo xe)⟩
      have := impS_seq i1 i2
      intro B σ P G H Γ c R D aa w k
      rw [wSs_app] at w
      exact this B σ P G H Γ c R D aa w k
    · cases h
end
end
end Z
/-! Z17 -/
set_option maxRecDepth 100000
/-! a def keeps its promise upon data; the law's head -/
namespace Z
open PySem PySem.Spec PyProof.Rows L2
def iniG (N : List Str) (zs : List Zv) : Ga := zs.map some ++ List.replicate (N.length - zs.length) none
def iniR (Q : KZ) : Rt := ⟨fun _ c => Q (.d .none) c, Q, fun _ _ => False, fun _ _ => False⟩
theorem iniG_get {N : List Str} : ∀ {zs : List Zv} {n i : Nat} {z : Zv}, get (zs.map some ++ List.replicate n none) i = some z → zs[i]? = some z
  | [], n, i, z, h => by
    exfalso
    have : ∀ n i, get (List.replicate n (none : Option Zv)) i ≠ some z := by
      intro n
      induction n with
      | zero => intro i h; simp [get] at h
      | succ n ih =>
        intro i h
        rw [List.replicate_succ] at h
        cases i with
        | zero => simp [get] at h
        | succ i => exact ih i h
    exact this n i (by simpa using h)
  | y :: zs, n, 0, z, h => by simpa [get] using h
  | y :: zs, n, i + 1, z, h => by
    have := iniG_get (N := N) (zs := zs) (n := n) (i := i) (z := z) (by simpa [get] using h)
    simpa using this
theorem As.ini {K : PySem.W.Frag} {P : Addr → Prop} {G H : Hp} {c : Nat} {N : List Str} {zs : List Zv} {vs : List V} (w : Wd P G H c) (r : ZVs K P G zs vs) : As K ⟨P, G, H⟩ P G H c (iniG N zs) (L2.start N vs) where
  st := .refl
  wd := w
  sl := fun i z h => by
    obtain ⟨v, e, q⟩ := r.get (iniG_get (N := N) h)
    refine ⟨v, ?_, q.zr⟩
    unfold L2.start
    rw [List.getElem?_append_left (by
      rw [List.length_map]
      exact (List.getElem?_eq_some_iff.mp e).1), List.getElem?_map, e]
    rfl
  ln := by
    unfold iniG L2.start
    simp only [List.length_append, List.length_map, List.length_replicate, r.length]
    exact Nat.le_refl _
  dj := fun i j xs ys _ h1 _ o1 _ => by
    obtain ⟨v, e, q⟩ := r.get (iniG_get (N := N) h1)
    exact (ZV.notOwn q o1).elim
section
variable {P : Program} {w : World} {K : PySem.W.Frag} {mg : Str → Option Value} {base : Heap}
/-- THE RULE for a def -/
theorem fnz_of {x qual : Str} {st : Stmt} {f : Addr} {fd : FuncData} {N ps : List Str} {k : Nat} {sp : Sp} (F : L2.Fun K x qual st f fd) (S : FnScope N ps (defScope st)) (len : ∀ vs H Q E, sp vs H Q E → vs.length = ps.length)
    (hbody : ∀ (cdv : Value) (A : Around) (outer : List Env) (s : Shared) (H : Hp) (vs : List V) (Q : VK) (E : XK), Gd0 A → Room k (A.deeper (envOfC qual (defScope st) s.heap.objs.size f cdv)) → sp vs H Q E →
      ∃ t, PSs (cxOf CX0 P w K mg base N qual (defScope st) f cdv A outer s H E).nox (defBody st) t ∧ t { nx := fun _ H' => Q .non H', rt := Q } (L2.start N vs) H) : FnZ P w K mg base (k + 1) f fd ps sp := by
  refine ⟨len, fun A outer s H args us vs Q E hr hgd e0 hb r hsp => ?_⟩
  obtain ⟨oc, od, kV, doc, pm, an, cdv, ct, osl, rfl, lk, hcd⟩ := F.ex
  have hl := len _ _ _ _ hsp
  have hin : K.In s.heap := e0.mod.kin.keeps fun a u q => (e0.bs a u q).1
  have nol : s.heap.NoLimit := e0.mod.nolimit.keeps fun a u q => (e0.bs a u q).1
  have hkind : ∀ y ∈ ps.zip us, (defScope st).names.lookup y.1 = some .local ∨ ((defScope st).names.lookup y.1 = some .cell ∧ ((cellsFrom (s.heap.objs.size + 1) (defScope st).names []).lookup y.1).isSome = true) := fun ⟨n, v⟩ hy => by
    rcases S.par n (List.of_mem_zip hy).1 with q | q
    · exact .inl q
    · exact .inr ⟨q, PySem.W.cellsFrom_some _ _ _ (.inl q)⟩
  refine codeAny_call_function hr.depth (hin _ _ lk) rfl S.co S.gen rfl (PySem.W.codeRec_of hin hcd) (hb _ _ _ _ ?_)
  refine wpAny_newFunctionEnv_cells S.kind hkind fun env he s1 x => ?_
  subst he
  refine ⟨nol.keeps x.toInCall.keep, codeAny_func ?_⟩
  obtain ⟨t, ht, hq⟩ := hbody cdv A outer s H vs Q E hgd (hr.deeper _) hsp
  have I : Inv (cxOf CX0 P w K mg base N qual (defScope st) f cdv A outer s H E) [] (L2.start N vs) H s1 := inv_start S hr.hd e0 hl r x
  refine wpAny_mono (ht.nox.run [] s1 (L2.start N vs) H _ I hq) (fun fl s' hs => ?_) fun e s' hs => hs
  have fin : ∀ {σ' : L2.St} {H' : Hp} {v : V} {u : Value}, Inv (cxOf CX0 P w K mg base N qual (defScope st) f cdv A outer s H E) [] σ' H' s' → RelV v u → Q v H' → L2.CE outer P w H s Q u s' :=
    fun {σ' H' v u} J rv q => ⟨v, H', J.os, J.bare, J.base, J.hok, rv, q⟩
  cases fl with
  | ret u =>
    obtain ⟨v, σ', H', J, rv, q⟩ := hs
    exact fin J rv q
  | next =>
    obtain ⟨σ', H', J, q⟩ := hs
    exact fin (v := V.non) (u := Value.none) J rfl q
  | brk =>
    obtain ⟨_, _, _, q⟩ := hs
    exact False.elim q
  | cont =>
    obtain ⟨_, _, _, q⟩ := hs
    exact False.elim q
/-- .. whose body has a short form -/
theorem fnz {x qual : Str} {st : Stmt} {f : Addr} {fd : FuncData} {N ps : List Str} {k n : Nat} {ct : Ct} {fs gs bs : List Str} {ks : List (Str × List Str)} {dn : List Str} {Fs : Nat → Ct} {Gd : Nat → PyData} {ow : List Nat} {ir : List IS} (F : L2.Fun K x qual st f fd) (S : FnScope N ps (defScope st))
    (MO : MOk ⟨P, w, K, mg, base, k⟩ fs gs bs ks dn Fs Gd) (hc : cSs n ⟨N, defScope st, fun _ => true, fs, gs, bs, ks, dn⟩ ow (defBody st) = some ir)
    (hct : ∀ zs c Q, ct zs c Q → zs.length = ps.length ∧ wSs Fs Gd ir (iniG N zs) c (iniR Q)) : FnZ P w K mg base (k + 1) f fd ps (spOf K ct) := by
  refine fnz_of (N := N) F S (fun vs H Q E h => ?_) fun cdv A outer s H vs Q E hgd hr h => ?_
  · obtain ⟨P, G, c, zs, Q0, _, hz, hc, _⟩ := h
    rw [← hz.length]
    exact (hct _ _ _ hc).1
  · obtain ⟨P0, G, c, zs, Q0, wd, hz, hc0, k0⟩ := h
    obtain ⟨_, hw⟩ := hct _ _ _ hc0
    obtain ⟨t, im, p⟩ := cSs_ok (M := ⟨P, w, K, mg, base, k⟩) (F := Fs) (Gd := Gd) (C := ⟨N, defScope st, fun _ => true, fs, gs, bs, ks, dn⟩) (fun X xo => by rw [xo.sc]; exact S.kind) MO n ow _ ir hc
    refine ⟨t, p _ ⟨rfl, rfl, rfl, rfl, rfl, rfl, rfl, rfl, S.nd, hr, hgd, fun _ _ => rfl⟩ rfl, ?_⟩
    refine im ⟨P0, G, H⟩ (L2.start N vs) P0 G H (iniG N zs) c (iniR Q0) _ (As.ini wd hz) hw ⟨fun σ P' G' H' c' Γ gg pp a q => ?_, fun v P' G' H' c' z s' w' r q => ?_, fun σ P' G' H' c' Γ gg pp a q => q.elim, fun σ P' G' H' c' Γ gg pp a q => q.elim⟩
    · exact k0 .non P' G' H' c' (.d .none) a.st a.wd (show Dq K G' .non .none from .non) q
    · exact k0 v P' G' H' c' z s' w' r q
end
theorem callerA_gd0 : Gd0 callerA := rfl
/-- the heap that tells of the script alone -/
def scrH (a : Addr) (o : Obj) (ns : List Int) : Hp := fun b => if b = a then some (.frz o (.lst (ns.map V.int))) else none
/-- the law's call, from its promise upon data -/
theorem law_z {P : Program} {w : World} {K : PySem.W.Frag} {mg mb : Str → Option Value} {k : Nat} {fa a : Addr} {fd : FuncData} {x : Str} {ct : Ct} {s₁ : Shared} {vs : List Value} {ns : List Int}
    (hin : K.In s₁.heap) (hns : s₁.heap.Ns mainGlobals mg) (hb : s₁.heap.Ns builtinsNs mb) (hbb : ∀ y : Str, y ≠ "__name__" → mb y = bootBuiltins y) (hnl : s₁.heap.NoLimit) (hg : s₁.gens = #[])
    (ha : s₁.heap.get? a = some { cls := .type "list", data := .seq vs.toArray }) (hi : IntsAre vs ns) (hl : ns.length ≤ sizeLine) (hr : Room k callerA)
    (F : ∀ base : Heap, K.In base → base.Ns mainGlobals mg → FnZ P w K mg base k fa fd [x] (spOf K ct)) (hbind : ∀ (s : Shared) (u : Value), BindsTo s fd ⟨[u], []⟩ [(x, u)])
    (hct : ct [.scr ns] 0 fun z _ => z = .d (.bool true)) :
    codeAny (model P w) callerA (.call (.ref fa) ⟨[.ref a], []⟩) (fun r s' => r = .ok (.ret (.bool true)) ∧ OldK s₁.heap s'.heap ∧ s'.os = s₁.os ∧ AllBare s'.gens) s₁ := by
  have rel := vals_ints hi
  have len := hi.length
  have main : ∀ H : Hp, (∀ b u, H b = some u → b = a ∧ u = .frz { cls := .type "list", data := .seq vs.toArray } (.lst (ns.map V.int))) → SqL K H a (ns.map V.int) → (H a ≠ none → K.lookup a = none) →
      codeAny (model P w) callerA (.call (.ref fa) ⟨[.ref a], []⟩) (fun r s' => r = .ok (.ret (.bool true)) ∧ OldK s₁.heap s'.heap ∧ s'.os = s₁.os ∧ AllBare s'.gens) s₁ := by
    intro H hH hS hKa
    have ok : HOk P w H s₁.heap := fun b u z => by
      obtain ⟨rfl, rfl⟩ := hH b u z
      exact ⟨ha, by rw [List.length_map]; exact hl, vs, _, rel, ha⟩
    have stays : ∀ {b : Addr} {o : Obj}, s₁.heap.get? b = some o → (b = a → o.data = .seq vs.toArray → K.lookup a = none → False) → (hidT s₁.heap H).get? b = some o := fun {b o} z hno => hidT_get z (by
      cases q : H b with
      | none => rfl
      | some u =>
        obtain ⟨rfl, _⟩ := hH b u q
        rw [ha] at z
        cases z
        exact (hno rfl rfl (hKa (by rw [q]; simp))).elim)
    have inB : K.In (hidT s₁.heap H) := fun b o z => stays (hin b o z) fun e _ n => by
      subst e
      rw [n] at z
      cases z
    have nsB : ∀ {b : Addr} {m : Str → Option Value}, s₁.heap.Ns b m → (hidT s₁.heap H).Ns b m := fun {b m} ⟨o, es, ep, z, d, r⟩ => ⟨o, es, ep, stays z (fun _ q _ => by rw [d] at q; cases q), d, r⟩
    have md : Mod K mg (hidT s₁.heap H) := ⟨inB, nsB hns, ⟨mb, nsB hb, hbb⟩, let ⟨m, z1, z2⟩ := hnl; ⟨m, nsB z1, z2⟩⟩
    have env : Env0 P w K mg (hidT s₁.heap H) callerA [] s₁ H := ⟨rfl, md, fun b o z => of_hidT z, Nat.le_of_eq (hidT_size _ _), trivial, fun b z => absurd (show b ∈ ([] : List Addr) from z) (by simp), ok, .of_eq hg⟩
    have sp0 : spOf K ct [.ref a] H (fun v _ => v = .bl true) fun _ _ _ => False := by
      refine ⟨fun _ => False, H, 0, [.scr ns], _, ⟨fun b u z => ?_, fun _ _ z => z, fun _ z => z.elim, fun _ z => z.elim⟩, .cons ⟨a, rfl, hS⟩ .nil, hct, fun v P' G' H' c' z _ _ r q => ?_⟩
      · obtain ⟨rfl, rfl⟩ := hH b u z
        show (ns.map V.int).length ≤ _
        rw [List.length_map]
        exact hl
      · subst q
        cases (show Dq K G' v (.bool true) from r)
        rfl
    refine codeAny_mono ((F _ inB (nsB hns)).go callerA [] s₁ H ⟨[.ref a], []⟩ [.ref a] [.ref a] _ _ hr callerA_gd0 env (hbind s₁ (.ref a)) (.cons rfl .nil) sp0) fun r s' h => ?_
    match r, h with
    | .error e, h => exact False.elim h
    | .ok .next, h => exact False.elim h
    | .ok .brk, h => exact False.elim h
    | .ok .cont, h => exact False.elim h
    | .ok (.ret u), h =>
      obtain ⟨v, H', os, bare, un, ok', r', q⟩ := h
      have q' : v = .bl true := q
      subst q'
      obtain rfl : u = Value.bool true := r'
      refine ⟨rfl, OldK.of_keep fun b o z => ?_, os, bare⟩
      cases q : H b with
      | none => exact un.keep b o z q (fun y => by cases y) (by simp)
      | some u =>
        obtain ⟨rfl, rfl⟩ := hH b u q
        obtain ⟨e2, _⟩ := ok' b _ (un.frzs b _ _ q)
        rw [ha] at z
        cases z
        exact e2
  cases hk : K.lookup a with
  | some o =>
    have e := hin a o hk
    rw [ha] at e
    cases e
    exact main (fun _ => none) (fun b u z => by cases z) (.inr ⟨_, vs.toArray, _, hk, rfl, rfl, rfl, by rw [List.size_toArray, len]; exact hl, by simpa using rel⟩) fun z => absurd rfl z
  | none =>
    refine main (scrH a { cls := .type "list", data := .seq vs.toArray } ns) (fun b u z => ?_) (.inl (.inr ⟨_, if_pos rfl⟩)) fun _ => hk
    unfold scrH at z
    split at z
    · rename_i e
      cases z
      exact ⟨e, rfl⟩
    · cases z
/-- what k_head leaves -/
theorem walk_z {l : PySem.W.OpenLaw} {n k : Nat} {q : Program} {loose : List Str} {XP : (Str → Option Value) → Heap → Prop} {YP : World → Heap → Prop} {d : DefRec} {K : Params → PySem.W.Frag} {ct : Ct} {x : Str}
    (hn : l.most = some n) (hn2 : n ≤ sizeLine) (hdf : d.params.defaults = []) (hr : Room k callerA) (hY : ∀ (w : World) (h : Heap), YP w h → (K w.params).In h)
    (F : ∀ (w : World) (mg : Str → Option Value) (fa : Addr) (h : Heap), (K w.params).In h → h.Ns mainGlobals mg → mg d.name = some (.ref fa) →
      ∃ fd : FuncData, (∀ (s : Shared) (u : Value), BindsTo s fd ⟨[u], []⟩ [(x, u)]) ∧ ∀ base : Heap, (K w.params).In base → base.Ns mainGlobals mg → FnZ l.prog w (K w.params) mg base k fa fd [x] (spOf (K w.params) ct))
    (hct : ∀ ns : List Int, ns.length ≤ n → ct [.scr ns] 0 fun z _ => z = .d (.bool true)) :
    PySem.W.WalkO q loose XP YP l.row.toRowW d [] (fun f vs => PySem.call f vs) := by
  refine Att.attach_call hn hdf fun w s₀ s₁ mg mb fa o pm cd doc a vs ns G Y ho hd hcd hmg hobj hints hlen hg => ?_
  have hin := hY w _ Y
  obtain ⟨fd, hb, hF⟩ := F w mg fa _ hin G.T.g hmg
  exact law_z hin G.T.g G.T.b G.T.builtins G.T.nolimit hg hobj hints (Nat.le_trans hlen hn2) hr hF hb (hct ns hlen)
end Z
/-! Z18 -/
set_option maxRecDepth 100000
/-! what a claim needs: defs that keep their promise, by name -/
namespace Z
open PySem PySem.Spec PyProof.Rows L2
inductive All2 {α β : Type} (R : α → β → Prop) : List α → List β → Prop
  | nil : All2 R [] []
  | cons {a : α} {b : β} {as : List α} {bs : List β} : R a b → All2 R as bs → All2 R (a :: as) (b :: bs)
theorem All2.get {α β : Type} {R : α → β → Prop} : ∀ {as : List α} {bs : List β} {i : Nat} {a : α}, All2 R as bs → as[i]? = some a → ∃ b, bs[i]? = some b ∧ R a b
  | _, _, i, _, .nil, h => by simp at h
  | _, _, 0, _, .cons h _, e => by simp at e; subst e; exact ⟨_, rfl, h⟩
  | _, _, i + 1, a, .cons _ t, e => by
    obtain ⟨b, e1, h⟩ := All2.get (i := i) (a := a) t (by simpa using e)
    exact ⟨b, by simpa using e1, h⟩
def noCt : Ct := fun _ _ _ => False
def lkC : List Ct → Nat → Ct
  | [], _ => noCt
  | c :: _, 0 => c
  | _ :: r, i + 1 => lkC r i
theorem lkC_get : ∀ {l : List Ct} {i : Nat} {c : Ct}, l[i]? = some c → lkC l i = c
  | [], _, _, h => by simp at h
  | _ :: _, 0, _, h => Option.some.inj h
  | _ :: r, i + 1, c, h => lkC_get (l := r) (i := i) (by simpa using h)
def lkD : List PyData → Nat → PyData
  | [], _ => .none
  | c :: _, 0 => c
  | _ :: r, i + 1 => lkD r i
theorem lkD_get : ∀ {l : List PyData} {i : Nat} {c : PyData}, l[i]? = some c → lkD l i = c
  | [], _, _, h => by simp at h
  | _ :: _, 0, _, h => Option.some.inj h
  | _ :: r, i + 1, c, h => lkD_get (l := r) (i := i) (by simpa using h)
/-- the module's data by number; its dicts from 1000 -/
def lkG (ds dds : List PyData) (i : Nat) : PyData := match Nat.ble 1000 i with
  | true => lkD dds (i - 1000)
  | false => lkD ds i
/-- the promises by number: positional calls from 0, calls by keywords from 100 -/
def ctF (cts kcts : List Ct) (i : Nat) : Ct := match Nat.ble 100 i with
  | true => lkC kcts (i - 100)
  | false => lkC cts i
def kwCt (n : Nat) (perm : List Nat) (ct : Ct) : Ct := fun zs c Q => zs.length = n ∧ ct (permL perm zs) c Q
/-- a def as it stands -/
structure Df (K : PySem.W.Frag) (mg : Str → Option Value) (x : Str) (st : Stmt) (f : Addr) (fd : FuncData) (ps : List Str) (kws : List (List Str × List Nat)) : Prop where
  fn : L2.Fun K x x st f fd
  m : mg x = some (.ref f)
  b : Binds K fd ps []
  k : ∀ p ∈ kws, KwB K fd ps p.1 p.2
/-- a def that keeps its promise -/
structure Fz (M : Mo) (x : Str) (kws : List (List Str × List Nat)) (ct : Ct) : Prop where
  ex : ∃ f fd ps, M.mg x = some (.ref f) ∧ PySem.W.keepIn M.K (.ref f) = true ∧ Binds M.K fd ps [] ∧ (∀ p ∈ kws, KwB M.K fd ps p.1 p.2) ∧ FnZ M.P M.w M.K M.mg M.base M.lv f fd ps (spOf M.K ct)
def Mo.at (M : Mo) (k : Nat) : Mo := { M with lv := k }
theorem Fz.up {M : Mo} {x : Str} {kws : List (List Str × List Nat)} {ct : Ct} {j k : Nat} (h : Fz (M.at j) x kws ct) (le : j ≤ k) : Fz (M.at k) x kws ct := by
  obtain ⟨f, fd, ps, h1, h2, h3, h4, h5⟩ := h.ex
  exact ⟨f, fd, ps, h1, h2, h3, h4, FnZ.up (j := j) (k := k) h5 le⟩
/-- a global of the module that is data -/
def Glb (M : Mo) (x : Str) (d : PyData) : Prop := ∃ v u, M.mg x = some u ∧ RelV v u ∧ Dq M.K (fun _ => none) v d
structure Kz (M : Mo) (p : Str × List Str) (ct : Ct) : Prop where
  ex : ∃ kws perm ct0, Fz M p.1 kws ct0 ∧ (p.2, perm) ∈ kws ∧ ct = kwCt p.2.length perm ct0
theorem mok {M : Mo} {fs gs bs : List Str} {ks : List (Str × List Str)} {cts kcts : List Ct} {dn : List Str} {ds dds : List PyData} (h1 : All2 (fun x ct => ∃ kws, Fz M x kws ct) fs cts) (h2 : All2 (Glb M) gs ds) (h3 : ∀ x ∈ bs, M.mg x = none) (h4 : All2 (Kz M) ks kcts) (h5 : All2 (fun x d => GK M.w M.K M.mg x d) dn dds)
    (hl : cts.length ≤ 100) (hg : ds.length ≤ 1000) : MOk M fs gs bs ks dn (ctF cts kcts) (lkG ds dds) where
  fn := fun i x h => by
    obtain ⟨ct, e, kws, hf⟩ := h1.get h
    obtain ⟨f, fd, ps, q1, q2, q3, _, q5⟩ := hf.ex
    have hi : i < cts.length := (List.getElem?_eq_some_iff.mp e).1
    have hb : Nat.ble 100 i = false := by
      rw [← Bool.not_eq_true, Nat.ble_eq]
      omega
    refine ⟨f, fd, ps, q1, q2, q3, ?_⟩
    unfold ctF
    rw [hb]
    show FnZ _ _ _ _ _ _ _ _ _ (spOf M.K (lkC cts i))
    rw [lkC_get e]
    exact q5
  gl := fun i x h => by
    obtain ⟨d, e, v, u, q1, q2, q3⟩ := (show ∃ d, ds[i]? = some d ∧ ∃ v u, M.mg x = some u ∧ RelV v u ∧ Dq M.K (fun _ => none) v d from h2.get h)
    have hi : i < ds.length := (List.getElem?_eq_some_iff.mp e).1
    unfold lkG
    rw [show Nat.ble 1000 i = false from by
      rw [← Bool.not_eq_true, Nat.ble_eq]
      omega]
    show ∃ v u, M.mg x = some u ∧ RelV v u ∧ Dq M.K (fun _ => none) v (lkD ds i)
    rw [lkD_get e]
    exact ⟨v, u, q1, q2, q3⟩
  dk := fun j x h => by
    obtain ⟨d, e, q⟩ := h5.get h
    unfold lkG
    rw [show Nat.ble 1000 (1000 + j) = true from by rw [Nat.ble_eq]; omega]
    show GK M.w M.K M.mg x (lkD dds (1000 + j - 1000))
    rw [show 1000 + j - 1000 = j by omega, lkD_get e]
    exact q
  bl := h3
  kw := fun j x ns h => by
    obtain ⟨ct, e, kws, perm, ct0, hf, hm, rfl⟩ := (show ∃ ct, kcts[j]? = some ct ∧ ∃ kws perm ct0, Fz M x kws ct0 ∧ (ns, perm) ∈ kws ∧ ct = kwCt ns.length perm ct0 from by
      obtain ⟨ct, e, q⟩ := h4.get h
      exact ⟨ct, e, q.ex⟩)
    obtain ⟨f, fd, ps, q1, q2, _, q4, q5⟩ := hf.ex
    refine ⟨f, fd, ps, ct0, perm, q1, q2, q4 _ hm, q5, fun zs c Q hq => ?_⟩
    unfold ctF at hq
    rw [show Nat.ble 100 (100 + j) = true from by rw [Nat.ble_eq]; omega] at hq
    have hq' : lkC kcts (100 + j - 100) zs c Q := hq
    rw [show 100 + j - 100 = j by omega, lkC_get e] at hq'
    exact hq'
section
variable {M : Mo}
/-- a def of the text, by its short form -/
theorem fz_mk {x : Str} {st : Stmt} {f : Addr} {fd : FuncData} {N ps : List Str} {kws : List (List Str × List Nat)} {k n : Nat} {ct : Ct} {fs gs bs : List Str} {ks : List (Str × List Str)} {cts kcts : List Ct} {dn : List Str} {ds dds : List PyData} {ow : List Nat} {ir : List IS} (D : Df M.K M.mg x st f fd ps kws) (S : FnScope N ps (defScope st))
    (MO : MOk (M.at k) fs gs bs ks dn (ctF cts kcts) (lkG ds dds)) (hc : cSs n ⟨N, defScope st, fun _ => true, fs, gs, bs, ks, dn⟩ ow (defBody st) = some ir)
    (hct : ∀ zs c Q, ct zs c Q → zs.length = ps.length ∧ wSs (ctF cts kcts) (lkG ds dds) ir (iniG N zs) c (iniR Q)) : Fz (M.at (k + 1)) x kws ct :=
  ⟨f, fd, ps, D.m, D.fn.kp, D.b, D.k, fnz D.fn S MO hc hct⟩
theorem fnz_mk {x : Str} {st : Stmt} {f : Addr} {fd : FuncData} {N ps : List Str} {kws : List (List Str × List Nat)} {k n : Nat} {ct : Ct} {fs gs bs : List Str} {ks : List (Str × List Str)} {cts kcts : List Ct} {dn : List Str} {ds dds : List PyData} {ow : List Nat} {ir : List IS} (D : Df M.K M.mg x st f fd ps kws) (S : FnScope N ps (defScope st))
    (MO : MOk (M.at k) fs gs bs ks dn (ctF cts kcts) (lkG ds dds)) (hc : cSs n ⟨N, defScope st, fun _ => true, fs, gs, bs, ks, dn⟩ ow (defBody st) = some ir)
    (hct : ∀ zs c Q, ct zs c Q → zs.length = ps.length ∧ wSs (ctF cts kcts) (lkG ds dds) ir (iniG N zs) c (iniR Q)) : FnZ M.P M.w M.K M.mg M.base (k + 1) f fd ps (spOf M.K ct) := fnz D.fn S MO hc hct
/-- a promise that is never asked -/
theorem fz_zero {x : Str} {st : Stmt} {f : Addr} {fd : FuncData} {ps : List Str} {kws : List (List Str × List Nat)} {k : Nat} {ct : Ct} (D : Df M.K M.mg x st f fd ps kws) (no : ∀ zs c Q, ct zs c Q → False) : Fz (M.at k) x kws ct :=
  ⟨f, fd, ps, D.m, D.fn.kp, D.b, D.k, ⟨fun vs H Q E h => by
    obtain ⟨P, G, c, zs, Q0, _, _, hc, _⟩ := h
    exact (no _ _ _ hc).elim, fun A outer s H args us vs Q E hr hgd e0 hb r hsp => by
    obtain ⟨P, G, c, zs, Q0, _, _, hc, _⟩ := hsp
    exact (no _ _ _ hc).elim⟩⟩
end
end Z
/-! Z19 -/
set_option maxRecDepth 100000
/-! short forms, step by step -/
namespace Z
open PySem PySem.Spec PyProof.Rows L2
section
variable {F : Nat → Ct} {Gd : Nat → PyData} {Γ : Ga} {c : Nat} {R : Rt} {Q : KZ} {KD' : KD} {KB : Bool → Prop} {x y : PyData} {i j : Int} {z : Zv} {xs ys : List PyData} {s t : Str} {b : Bool}
theorem q_wSs0 : wSs F Gd [] Γ c R = R.nx Γ c := rfl
theorem q_wSs1 {a : IS} {as : List IS} : wSs F Gd (a :: as) Γ c R = wS F Gd a Γ c { R with nx := fun Γ1 c1 => wSs F Gd as Γ1 c1 R } := rfl
theorem q_dv : dv (.d x) KD' = KD' x := rfl
theorem q_dvo : dv (.own xs) KD' = KD' (.list xs) := rfl
theorem q_dvs {ns : List Int} : dv (.scr ns) KD' = KD' (.list (ns.map .int)) := rfl
theorem q_dz : dz (.d x) KD' = KD' x := rfl
theorem q_dzs0 {A : List PyData → Prop} : dzs [] A = A [] := rfl
theorem q_dzs1 {A : List PyData → Prop} {zs : List Zv} : dzs (.d x :: zs) A = dzs zs fun xs => A (x :: xs) := rfl
theorem q_dvs0 {A : List PyData → Prop} : dvs [] A = A [] := rfl
theorem q_dvs1 {A : List PyData → Prop} {zs : List Zv} : dvs (.d x :: zs) A = dvs zs fun xs => A (x :: xs) := rfl
theorem q_dvs2 {A : List PyData → Prop} {zs : List Zv} : dvs (.own xs :: zs) A = dvs zs fun ys => A (.list xs :: ys) := rfl
theorem q_dvs3 {A : List PyData → Prop} {zs : List Zv} {ns : List Int} : dvs (.scr ns :: zs) A = dvs zs fun ys => A (.list (ns.map .int) :: ys) := rfl
theorem q_cln0 {A : List Zv → Prop} : cln [] A = A [] := rfl
theorem q_cln1 {A : List Zv → Prop} {zs : List Zv} : cln (.d x :: zs) A = cln zs fun xs => A (.d x :: xs) := rfl
theorem q_cln2 {A : List Zv → Prop} {zs : List Zv} : cln (.pot :: zs) A = cln zs fun xs => A (.pot :: xs) := rfl
theorem q_cln3 {A : List Zv → Prop} {zs : List Zv} {ns : List Int} : cln (.scr ns :: zs) A = cln zs fun xs => A (.scr ns :: xs) := rfl
theorem q_stl1 : stl (.d x) = .d x := rfl
theorem q_stl2 : stl .pot = .pot := rfl
theorem q_stl3 : stl (.own xs) = .d (.list xs) := rfl
theorem q_ixp {k : Int} : wIxz .pot (.d (.int k)) c Q = wPotR c k (fun r => Q (.d r) c) := rfl
theorem q_ixd {w : Zv} : wIxz (.d x) w c Q = dv w fun dy => wIx x dy fun r => Q (.d r) c := rfl
theorem q_ixo {w : Zv} : wIxz (.own xs) w c Q = dv w fun dy => wIx (.list xs) dy fun r => Q (.d r) c := rfl
theorem q_ixs {w : Zv} {ns : List Int} : wIxz (.scr ns) w c Q = dv w fun dy => wIx (.list (ns.map .int)) dy fun r => Q (.d r) c := rfl
theorem q_add : wBin .Add (.int i) (.int j) KD' = KD' (.int (i + j)) := rfl
theorem q_sub : wBin .Sub (.int i) (.int j) KD' = KD' (.int (i - j)) := rfl
theorem q_mul : wBin .Mult (.int i) (.int j) KD' = (CMulZ i j ∧ KD' (.int (i * j))) := rfl
theorem q_mod : wBin .Mod (.int i) (.int j) KD' = (0 < j ∧ KD' (.int (i % j))) := rfl
theorem q_div : wBin .FloorDiv (.int i) (.int j) KD' = (CDivW i j ∧ KD' (.int (i / j))) := rfl
theorem q_pow : wBin .Pow (.int i) (.int j) KD' = ((0 ≤ j ∧ j ≤ 10000 ∧ i.natAbs < 2 ^ 10000) ∧ KD' (.int (i ^ j.toNat))) := rfl
theorem q_addT : wBin .Add (.tuple xs) (.tuple ys) KD' = (xs.length + ys.length ≤ sizeLine ∧ KD' (.tuple (xs ++ ys))) := rfl
theorem q_addL : wBin .Add (.list xs) (.list ys) KD' = (xs.length + ys.length ≤ sizeLine ∧ KD' (.list (xs ++ ys))) := rfl
theorem q_addS : wBin .Add (.str s) (.str t) KD' = (s.length + t.length ≤ sizeLine ∧ KD' (.str (s ++ t))) := rfl
theorem q_eq : wCmp .Eq x y KB = (eqOk x y ∧ KB (PyData.eqv x y)) := rfl
theorem q_ne : wCmp .NotEq x y KB = (neOk x y ∧ KB (!PyData.eqv x y)) := rfl
theorem q_lt : wCmp .Lt (.int i) (.int j) KB = KB (decide (i < j)) := rfl
theorem q_le : wCmp .LtE (.int i) (.int j) KB = KB (decide (i ≤ j)) := rfl
theorem q_gt : wCmp .Gt (.int i) (.int j) KB = KB (decide (j < i)) := rfl
theorem q_ge : wCmp .GtE (.int i) (.int j) KB = KB (decide (j ≤ i)) := rfl
theorem q_inL : wCmp .In x (.list xs) KB = (SeqAt.shaped x = true ∧ SeqAt.shaped (.list xs) = true ∧ KB (xs.any fun z => PyData.eqv z x)) := rfl
theorem q_inT : wCmp .In x (.tuple xs) KB = (SeqAt.shaped x = true ∧ SeqAt.shaped (.tuple xs) = true ∧ KB (xs.any fun z => PyData.eqv z x)) := rfl
theorem q_niL : wCmp .NotIn x (.list xs) KB = (SeqAt.shaped x = true ∧ SeqAt.shaped (.list xs) = true ∧ KB (!xs.any fun z => PyData.eqv z x)) := rfl
theorem q_niT : wCmp .NotIn x (.tuple xs) KB = (SeqAt.shaped x = true ∧ SeqAt.shaped (.tuple xs) = true ∧ KB (!xs.any fun z => PyData.eqv z x)) := rfl
theorem q_is : wCmp .Is x .none KB = KB (isNoneD x) := rfl
theorem q_isn : wCmp .IsNot x .none KB = KB (!isNoneD x) := rfl
theorem q_trb : tru (.bool b) KB = KB b := rfl
theorem q_tri : tru (.int i) KB = KB (i != 0) := rfl
theorem q_trl : tru (.list xs) KB = KB (!xs.isEmpty) := rfl
theorem q_trt : tru (.tuple xs) KB = KB (!xs.isEmpty) := rfl
theorem q_trn : tru .none KB = KB false := rfl
theorem q_ixL : wIx (.list xs) (.int i) KD' = ∃ v, atI xs i = some v ∧ KD' v := rfl
theorem q_ixT : wIx (.tuple xs) (.int i) KD' = ∃ v, atI xs i = some v ∧ KD' v := rfl
theorem q_ixS : wIx (.str s) (.int i) KD' = (s.length ≤ sizeLine ∧ ∃ c, atI s.cps.toList i = some c ∧ KD' (.str ⟨#[c]⟩)) := rfl
theorem q_slL {lo hi : Option Int} : wSl (.list xs) lo hi KD' = KD' (.list (cutD xs lo hi)) := rfl
theorem q_slT {lo hi : Option Int} : wSl (.tuple xs) lo hi KD' = KD' (.tuple (cutD xs lo hi)) := rfl
theorem q_slS {lo hi : Option Int} : wSl (.str s) lo hi KD' = (s.length ≤ sizeLine ∧ KD' (.str (cutS s lo hi))) := rfl
theorem q_lenL : wBlt .len [.list xs] KD' = KD' (.int xs.length) := rfl
theorem q_lenT : wBlt .len [.tuple xs] KD' = KD' (.int xs.length) := rfl
theorem q_lenS : wBlt .len [.str s] KD' = (s.length ≤ sizeLine ∧ KD' (.int s.length)) := rfl
theorem q_abs : wBlt .abs [.int i] KD' = KD' (.int i.natAbs) := rfl
theorem q_max2 : wBlt .max [.int i, .int j] KD' = KD' (.int (max i j)) := rfl
theorem q_min2 : wBlt .min [.int i, .int j] KD' = KD' (.int (min i j)) := rfl
theorem q_all : wBlt .all [.list xs] KD' = ∃ bs, bools? xs = some bs ∧ KD' (.bool (bs.all id)) := rfl
theorem q_any : wBlt .any [.list xs] KD' = ∃ bs, bools? xs = some bs ∧ KD' (.bool (bs.any id)) := rfl
theorem q_sum : wBlt .sum [.list xs] KD' = ∃ ns, ints? xs = some ns ∧ KD' (.int ns.sum) := rfl
theorem q_tupL : wBlt .tuple [.list xs] KD' = KD' (.tuple xs) := rfl
theorem q_tupT : wBlt .tuple [.tuple xs] KD' = KD' (.tuple xs) := rfl
theorem q_lstL : wBlt .list [.list xs] KD' = KD' (.list xs) := rfl
theorem q_lstT : wBlt .list [.tuple xs] KD' = KD' (.list xs) := rfl
theorem q_intI : wBlt .int [.int i] KD' = KD' (.int i) := rfl
theorem q_intB : wBlt .int [.bool b] KD' = KD' (.int (if b then 1 else 0)) := rfl
theorem q_repr : wBlt .repr [x] KD' = (reprOk x = true ∧ x.showable = true ∧ x.hasDict = false ∧ x.depth ≤ 60 ∧ x.shown.length ≤ sizeLine ∧ KD' (.str x.shown)) := rfl
theorem q_srt : wBlt .sorted [.list xs] KD' = ((∃ ns, ints? xs = some ns ∧ ns.length < 64 ∧ KD' (.list ((sortI ns).map .int))) ∨ (srtOk xs ∧ ∀ r, r.Perm xs → r.Pairwise (fun a b => srtLe a b = true) → KD' (.list r))) := rfl
theorem q_itL {A : List PyData → Prop} : wIt none [.list xs] A = A xs := rfl
theorem q_itT {A : List PyData → Prop} : wIt none [.tuple xs] A = A xs := rfl
theorem q_rng1 {A : List PyData → Prop} : wIt (some .range) [.int j] A = (j ≤ 16777216 ∧ -(2 ^ 62) ≤ j ∧ A (rangeD 0 j)) := rfl
theorem q_rng2 {A : List PyData → Prop} : wIt (some .range) [.int i, .int j] A = ((j - i ≤ 16777216 ∧ -(2 ^ 62) ≤ i ∧ i < 2 ^ 62 ∧ -(2 ^ 62) ≤ j ∧ j < 2 ^ 62) ∧ A (rangeD i j)) := rfl
theorem q_zipL {A : List PyData → Prop} : wIt (some .zip) [.list xs, .list ys] A = A (zipD xs ys) := rfl
theorem q_zipT {A : List PyData → Prop} : wIt (some .zip) [.tuple xs, .tuple ys] A = A (zipD xs ys) := rfl
theorem q_enuL {A : List PyData → Prop} : wIt (some .enum) [.list xs] A = A (enumD 0 xs) := rfl
theorem q_tgn {k : Nat} {A : Ga → Prop} : wTg (.n k) x Γ A = A (put Γ k (some (.d x))) := rfl
theorem q_tgt {ts : List Tg} {A : Ga → Prop} : wTg (.t ts) (.tuple xs) Γ A = (xs.length = ts.length ∧ wTgs ts xs Γ A) := rfl
theorem q_tgs0 {A : Ga → Prop} : wTgs [] xs Γ A = A Γ := rfl
theorem q_tgs1 {tg : Tg} {ts : List Tg} {A : Ga → Prop} : wTgs (tg :: ts) (x :: xs) Γ A = wTg tg x Γ fun Γ' => wTgs ts xs Γ' A := rfl
theorem q_lenset1 : wX Gd .lenset [.list xs] KD' = ∃ ns, ints? xs = some ns ∧ ns.length ≤ 4000 ∧ KD' (.int (dedI ns).length) := rfl
theorem q_lenset2 : wX Gd .lenset [.tuple xs] KD' = ∃ ns, ints? xs = some ns ∧ ns.length ≤ 4000 ∧ KD' (.int (dedI ns).length) := rfl
theorem q_srtset : wX Gd .srtset [.tuple xs] KD' = ∃ ns, ints? xs = some ns ∧ ns.length ≤ 4000 ∧ (dedI ns).length < 64 ∧ KD' (.list ((sortI (dedI ns)).map .int)) := rfl
theorem q_xs1 : xSel .lenset = dvs := rfl
theorem q_xs2 : xSel .srtset = dvs := rfl
theorem q_xs3 {ks : List Key} : xSel (.dsp ks) = dzs := rfl
theorem q_xs4 {j : Nat} : xSel (.gix j) = dzs := rfl
theorem q_xs5 {j : Nat} : xSel (.gget j) = dzs := rfl
theorem q_xs6 {j : Nat} : xSel (.gkeys j) = dvs := rfl
theorem q_xs7 : xSel .rev = dvs := rfl
theorem q_xs8 : xSel .repl = dvs := rfl
theorem q_xs9 : xSel .upper = dvs := rfl
theorem q_ms1 : mSel .index = dvs := rfl
theorem q_ms2 : mSel .get = dzs := rfl
theorem q_mrg {kvs : List (PyData × PyData)} : mRc .get (.dict kvs) = True := rfl
theorem q_mri : mRc .index (.list xs) = True := rfl
theorem q_idx : wMth .index (.list xs) [x] KD' = (SeqAt.shaped (.list xs) = true ∧ SeqAt.shaped x = true ∧ ∃ j z, xs[j]? = some z ∧ PyData.eqv z x = true ∧ (∀ (m : Nat) (z' : PyData), m < j → xs[m]? = some z' → PyData.eqv z' x = false) ∧ KD' (.int (j : Nat))) := rfl
theorem q_forW0 {f : PyData → Ga → Nat → Rt → Prop} : forW f [] Γ c R = R.nx Γ c := rfl
theorem q_ite1 {t e : Prop} : (match true with | true => t | false => e) = t := rfl
theorem q_ite2 {t e : Prop} : (match false with | true => t | false => e) = e := rfl
end
end Z
local macro_rules | `(tactic| walk_at "z simp") => `(tactic| try simp only [Z.q_wSs0, Z.q_wSs1, Z.wS, Z.wE, Z.wT, Z.wI, Z.wEs, Z.w3, Z.w3s, Z.w3o, Z.w3c, Z.mk3, Z.bltI, Z.tOf, Z.iOf, Z.wVar, Z.wTup, Z.wLst, Z.wBi, Z.wNeg, Z.wNot, Z.wAnd, Z.wOr, Z.wTAnd, Z.wTOr, Z.wTNot, Z.wCm, Z.wTCm, Z.wChn, Z.wTChn, Z.wIte, Z.wIxx, Z.wSlc, Z.wCall, Z.wBl, Z.wIw, Z.wIsi, Z.wMt, Z.wExt, Z.wLc, Z.wLc2, Z.woNone, Z.woSome, Z.wYes, Z.wNil, Z.wCons, Z.wCon, Z.get, Z.put, Z.wipeG, Z.clnG, Z.putZ, Z.putZs, Z.tgN,
  Z.q_dv, Z.q_dvo, Z.q_dvs, Z.q_dz, Z.q_dzs0, Z.q_dzs1, Z.q_dvs0, Z.q_dvs1, Z.q_dvs2, Z.q_dvs3, Z.q_cln0, Z.q_cln1, Z.q_cln2, Z.q_cln3, Z.q_stl1, Z.q_stl2, Z.q_stl3, Z.q_ixp, Z.q_ixd, Z.q_ixo, Z.q_ixs, Z.q_add, Z.q_sub, Z.q_mul, Z.q_mod, Z.q_div, Z.q_pow, Z.q_addT, Z.q_addL, Z.q_addS, Z.q_eq, Z.q_ne, Z.q_lt, Z.q_le, Z.q_gt, Z.q_ge, Z.q_inL, Z.q_inT, Z.q_niL, Z.q_niT, Z.q_is, Z.q_isn, Z.q_trb, Z.q_tri, Z.q_trl, Z.q_trt, Z.q_trn,
  Z.q_ixL, Z.q_ixT, Z.q_ixS, Z.q_slL, Z.q_slT, Z.q_slS, Z.q_lenL, Z.q_lenT, Z.q_lenS, Z.q_abs, Z.q_max2, Z.q_min2, Z.q_all, Z.q_any, Z.q_sum, Z.q_tupL, Z.q_tupT, Z.q_lstL, Z.q_lstT, Z.q_intI, Z.q_intB, Z.q_repr, Z.q_srt, Z.q_itL, Z.q_itT, Z.q_rng1, Z.q_rng2, Z.q_zipL, Z.q_zipT, Z.q_enuL, Z.q_tgn, Z.q_tgt, Z.q_tgs0, Z.q_tgs1, Z.q_mri, Z.q_xs1, Z.q_xs2, Z.q_xs3, Z.q_xs4, Z.q_xs5, Z.q_xs6, Z.q_xs7, Z.q_xs8, Z.q_xs9, Z.q_ms1, Z.q_ms2, Z.q_mrg, Z.q_forW0, Z.q_ite1, Z.q_ite2, Z.iniR])
namespace Z
open PySem PySem.Spec PyProof.Rows L2
section
variable {F : Nat → Ct} {Gd : Nat → PyData}
def irTake1 : List IS := [.ite (.cmp .Gt (.ix (.var 0) (.int (0))) (.int (0))) [.asg (.n 3) (.bin .Mod (.ix (.var 0) (.int (0))) (.var 1)), .pst 0 (0) (.bin .FloorDiv (.ix (.var 0) (.int (0))) (.var 1)), .ret (.var 3)] [], .pst 0 (2) (.bin .Add (.ix (.var 0) (.int (2))) (.int (1))), .asg (.n 2) (.bin .Mod (.bin .Mult (.bin .Add (.bin .Add (.ix (.var 0) (.int (1))) (.bin .Mult (.bin .Mult (.int (86028157)) (.ix (.var 0) (.int (2)))) (.ix (.var 0) (.int (2))))) (.int (19))) (.int (39373))) (.int (2305843009213693921))), .asg (.n 2) (.bin .Mod (.bin .Mult (.var 2) (.bin .Add (.bin .Mod (.var 2) (.int (1000003))) (.bin .Mult (.int (15485917)) (.ix (.var 0) (.int (2)))))) (.int (2305843009213693907))), .ret (.bin .Mod (.bin .Add (.bin .FloorDiv (.var 2) (.int (101))) (.bin .FloorDiv (.var 2) (.int (1000037)))) (.var 1))]
/-- take: any number below n; it costs a draw at most -/
def ctTake : Ct := fun zs c Q => ∃ n : Int, zs = [.pot, .d (.int n)] ∧ 0 < n ∧ n < 2 ^ 60 ∧ c + 1 < 2 ^ 60 ∧ ∀ r c', 0 ≤ r → r < n → c ≤ c' → c' ≤ c + 1 → Q (.d (.int r)) c'
theorem pot0 {c : Nat} {Q : KD} (h : ∀ g : Int, 0 ≤ g → g.natAbs < 2 ^ 4000 → Q (.int g)) : wPotR c 0 Q := fun g s t b => ⟨_, rfl, h g b.1 b.2.1⟩
theorem pot1 {c : Nat} {Q : KD} (h : ∀ g : Int, 0 ≤ g → g < 2 ^ 64 → Q (.int g)) : wPotR c 1 Q := fun g s t b => ⟨_, rfl, h s b.2.2.1 b.2.2.2.1⟩
theorem pot2 {c : Nat} {Q : KD} (h : ∀ g : Int, 0 ≤ g → g ≤ c → Q (.int g)) : wPotR c 2 Q := fun g s t b => ⟨_, rfl, h t b.2.2.2.2.1 b.2.2.2.2.2⟩
theorem potW0 {c : Nat} {v : Int} {Q : Nat → Prop} (h0 : 0 ≤ v) (h1 : v.natAbs < 2 ^ 4000) (q : Q c) : potW c 0 v Q := by
  unfold potW
  rw [if_pos rfl]
  exact ⟨h0, h1, q⟩
theorem potW2 {c : Nat} {v : Int} {Q : Nat → Prop} (h0 : 0 ≤ v) (h1 : v ≤ c + 1) (q : Q (c + 1)) : potW c 2 v Q := by
  unfold potW
  rw [if_neg (by decide), if_pos rfl]
  exact ⟨h0, h1, q⟩
theorem cdiv_ok {i j : Int} (h0 : 0 < j) (h1 : j < 2 ^ 64) : CDivW i j := ⟨h0, by
  have : j.natAbs.log2 < 64 := by
    rw [Nat.log2_lt (by omega)]
    omega
  omega⟩
theorem cmul_l {i j : Int} (h0 : -(2 ^ 64) < i) (h1 : i < 2 ^ 64) : CMulZ i j := .inr (.inl ⟨h0, h1⟩)
theorem cmul_r {i j : Int} (h0 : -(2 ^ 64) < j) (h1 : j < 2 ^ 64) : CMulZ i j := .inr (.inr ⟨h0, h1⟩)
theorem cmul_w {i j : Int} (a b : Nat) (ha : i.natAbs < 2 ^ a) (hb : j.natAbs < 2 ^ b) (h0 : 0 < a) (h1 : 0 < b) (h : a + b ≤ 1000000) : CMulZ i j := .inl (wide_mul ha hb h0 h1 h)
theorem take1_ok {Q : KZ} {c : Nat} {n : Int} (h0 : 0 < n) (h1 : n < 2 ^ 60) (hc : c + 1 < 2 ^ 60) (q : ∀ r c', 0 ≤ r → r < n → c ≤ c' → c' ≤ c + 1 → Q (.d (.int r)) c') : wSs F Gd irTake1 [some .pot, some (.d (.int n)), none, none] c (iniR Q) := by
  unfold irTake1
  walk_at "z simp"
  refine pot0 fun g g0 g1 => ?_
  walk_at "z simp"
  by_cases hg : 0 < g
  · rw [decide_eq_true hg]
    refine pot0 fun g2 g20 g21 => ?_
    walk_at "z simp"
    refine ⟨h0, pot0 fun g3 g30 g31 => ?_⟩
    walk_at "z simp"
    refine ⟨cdiv_ok h0 (by omega), potW0 (Int.ediv_nonneg g30 (by omega)) ?_ ?_⟩
    · exact Nat.lt_of_le_of_lt (Int.natAbs_ediv_le_natAbs g3 n) g31
    · exact q _ _ (Int.emod_nonneg _ (by omega)) (Int.emod_lt_of_pos _ h0) (Nat.le_refl _) (by omega)
  · rw [decide_eq_false hg]
    refine pot2 fun t t0 t1 => ?_
    walk_at "z simp"
    refine potW2 (by omega) (by omega) (pot1 fun s s0 s1 => pot2 fun t2 t20 t21 => ?_)
    walk_at "z simp"
    refine ⟨cmul_l (by decide) (by decide), pot2 fun t3 t30 t31 => ?_⟩
    walk_at "z simp"
    refine ⟨cmul_r (by omega) (by omega), cmul_r (by decide) (by decide), by decide, by decide, pot2 fun t4 t40 t41 => ?_⟩
    walk_at "z simp"
    refine ⟨cmul_l (by decide) (by decide), cmul_l ?_ ?_, by decide, cdiv_ok (by decide) (by decide), cdiv_ok (by decide) (by decide), h0, ?_⟩
    · have := Int.emod_nonneg ((s + 86028157 * t2 * t3 + 19) * 39373) (b := 2305843009213693921) (by decide)
      omega
    · have := Int.emod_lt_of_pos ((s + 86028157 * t2 * t3 + 19) * 39373) (b := 2305843009213693921) (by decide)
      omega
    · exact q _ _ (Int.emod_nonneg _ (by omega)) (Int.emod_lt_of_pos _ h0) (by omega) (Nat.le_refl _)
/-! loops, comprehensions -/
theorem forW_inv {f : PyData → Ga → Nat → Rt → Prop} (I : List PyData → Ga → Nat → Prop) {R : Rt} (he : ∀ Γ c, I [] Γ c → R.nx Γ c)
    (hs : ∀ d r Γ c (k : Ga → Nat → Prop), I (d :: r) Γ c → (∀ Γ c, I r Γ c → k Γ c) → f d Γ c { nx := k, rt := R.rt, bk := R.nx, ct := k }) : ∀ {ds : List PyData} {Γ : Ga} {c : Nat}, I ds Γ c → forW f ds Γ c R
  | [], Γ, c, h => he Γ c h
  | d :: ds, Γ, c, h => hs d ds Γ c _ h fun Γ1 c1 h1 => forW_inv I he hs h1
theorem lcW_gen {f : PyData → Nat → (List PyData → Nat → Prop) → Prop} (g : PyData → List PyData) {c : Nat} : ∀ {ds : List PyData} {Q : List PyData → Nat → Prop}, (∀ d ∈ ds, ∀ Q : List PyData → Nat → Prop, Q (g d) c → f d c Q) → Q (ds.flatMap g) c → lcW f ds c Q
  | [], Q, _, q => q
  | d :: ds, Q, h, q => h d (by simp) _ (lcW_gen g (fun d hd => h d (by simp [hd])) (by rw [List.flatMap_cons] at q; exact q))
theorem flat_one (g : PyData → PyData) : ∀ ds : List PyData, ds.flatMap (fun d => [g d]) = ds.map g
  | [] => rfl
  | d :: r => by rw [List.flatMap_cons, List.map_cons, flat_one g r]; rfl
theorem lcW_map {f : PyData → Nat → (List PyData → Nat → Prop) → Prop} (g : PyData → PyData) {c : Nat} {ds : List PyData} {Q : List PyData → Nat → Prop} (h : ∀ d ∈ ds, ∀ Q : List PyData → Nat → Prop, Q [g d] c → f d c Q) (q : Q (ds.map g) c) : lcW f ds c Q :=
  lcW_gen (fun d => [g d]) h (by rw [flat_one]; exact q)
/-- each item is so, each costs k draws at most -/
theorem lcW_all {f : PyData → Nat → (List PyData → Nat → Prop) → Prop} (A : PyData → Prop) (k C : Nat) : ∀ {ds : List PyData} {c : Nat} {Q : List PyData → Nat → Prop}, c + k * ds.length ≤ C →
    (∀ d ∈ ds, ∀ c (Q : List PyData → Nat → Prop), c + k ≤ C → (∀ x c', A x → c ≤ c' → c' ≤ c + k → Q [x] c') → f d c Q) →
    (∀ xs c', xs.length = ds.length → (∀ x ∈ xs, A x) → c ≤ c' → c' ≤ c + k * ds.length → Q xs c') → lcW f ds c Q
  | [], c, Q, _, _, q => q [] c rfl (by simp) (Nat.le_refl _) (by simp)
  | d :: ds, c, Q, hC, h, q => by
    have hC' : c + (k * ds.length + k) ≤ C := by simpa [Nat.mul_succ] using hC
    refine h d (by simp) c _ (by omega) fun x c1 hx h1 h2 => ?_
    refine lcW_all A k C (by omega) (fun d hd => h d (by simp [hd])) fun xs c2 hl ha h3 h4 => ?_
    refine q ([x] ++ xs) c2 (by simp [hl]) (fun y hy => ?_) (by omega) (by
      rw [List.length_cons, Nat.mul_succ]
      omega)
    rcases List.mem_append.mp hy with hy | hy
    · rw [List.mem_singleton.mp hy]; exact hx
    · exact ha y hy
/-- a double comprehension that draws nothing -/
theorem lcA_fold {f : PyData → List PyData → Nat → (List PyData → Nat → Prop) → Prop} (g : PyData → List PyData) {c : Nat} (B : Nat) : ∀ {ds acc : List PyData} {Q : List PyData → Nat → Prop}, acc.length + (ds.flatMap g).length ≤ B →
    (∀ d ∈ ds, ∀ acc (Q : List PyData → Nat → Prop), acc.length + (g d).length ≤ B → Q (acc ++ g d) c → f d acc c Q) → Q (acc ++ ds.flatMap g) c → lcA f ds acc c Q
  | [], acc, Q, _, _, q => by
    rw [List.flatMap_nil, List.append_nil] at q
    exact q
  | d :: ds, acc, Q, hB, h, q => by
    rw [List.flatMap_cons, List.length_append] at hB
    refine h d (by simp) acc _ (by omega) (lcA_fold g B (by rw [List.length_append]; omega) (fun d hd => h d (by simp [hd])) ?_)
    rw [List.flatMap_cons] at q
    rw [List.append_assoc]
    exact q
/-! ints in a row -/
theorem ints_map (ns : List Int) : ints? (ns.map .int) = some ns := by
  induction ns with
  | nil => rfl
  | cons n ns ih =>
    show (ints? (ns.map .int)).map (n :: ·) = _
    rw [ih]; rfl
theorem bools_map (bs : List Bool) : bools? (bs.map .bool) = some bs := by
  induction bs with
  | nil => rfl
  | cons n ns ih =>
    show (bools? (ns.map .bool)).map (n :: ·) = _
    rw [ih]; rfl
/-! pots -/
def irPot1 : List IS := [.par [3, 4] [(.ite (.cmp .Lt (.var 1) (.blt .len [(.var 0)])) (.ix (.var 0) (.var 1)) (.int (0))), (.bin .Add (.bin .Mult (.int (15485867)) (.var 1)) (.int (71)))], .loop (.n 2) (.bin .Add (.lst [(.var 3)]) (.sl (.var 0) none (some (.int (60))))) [.asg (.n 4) (.bin .Mod (.bin .Add (.bin .Add (.bin .Mult (.var 4) (.int (424242424243))) (.bin .Mult (.int (2)) (.blt .abs [(.var 2)]))) (.blt .int [(.cmp .Lt (.var 2) (.int (0)))])) (.int (2305843009213693951)))], .retP [(.bin .Mult (.bin .Mod (.blt .abs [(.var 3)]) (.bin .Pow (.bin .Pow (.int (10)) (.int (60))) (.int (5)))) (.blt .int [(.cmp .GtE (.blt .abs [(.var 3)]) (.bin .Pow (.int (10)) (.int (18))))])), (.var 4), (.int (0))]]
def ctPot : Ct := fun zs c Q => ∃ (ns : List Int) (k : Int), zs = [.scr ns, .d (.int k)] ∧ ns.length ≤ 63 ∧ 0 ≤ k ∧ k < 2 ^ 20 ∧ Q .pot c
theorem atI_int {ns : List Int} {k : Int} (h0 : 0 ≤ k) (h1 : k < ns.length) : ∃ n, atI (ns.map PyData.int) k = some (.int n) := by
  obtain ⟨m, rfl⟩ := Int.eq_ofNat_of_zero_le h0
  have hm : m < ns.length := by omega
  refine ⟨ns[m], ?_⟩
  have := atI_nat (xs := ns.map PyData.int) (j := m) (v := .int ns[m]) (by rw [List.getElem?_map, List.getElem?_eq_getElem hm]; rfl)
  exact this
theorem two {b : Bool} {E : PyData → Prop} {P : PyData → Prop} (hP : ∀ m : Int, P (.int m)) (he : b = true → ∃ m : Int, E (.int m)) : (match (generalizing := false) b with | true => ∃ v, E v ∧ P v | false => P (.int 0)) := by
  cases b with
  | true =>
    obtain ⟨m, h⟩ := he rfl
    exact ⟨_, h, hP m⟩
  | false => exact hP 0
theorem pot1_ok {Q : KZ} {c : Nat} {ns : List Int} {k : Int} (hl : ns.length ≤ 63) (h0 : 0 ≤ k) (h1 : k < 2 ^ 20) (q : Q .pot c) : wSs F Gd irPot1 [some (.scr ns), some (.d (.int k)), none, none, none] c (iniR Q) := by
  unfold irPot1
  walk_at "z simp"
  refine two (fun m => ?_) ?_
  rotate_left
  · intro h
    exact atI_int h0 (by simpa using h)
  have cutL : (cutD (List.map PyData.int ns) none (some 60)).length ≤ 63 := by
    unfold cutD
    rw [List.length_take, List.length_drop, List.length_map]
    omega
  have big : (2 : Nat) ^ 1000 < 2 ^ 4000 := by decide +kernel
  refine ⟨cmul_l (by decide) (by decide), by show 1 ≤ sizeLine; rw [sizeLine_eq]; omega, by rw [sizeLine_eq, List.length_singleton]; omega, ?_⟩
  refine forW_inv (fun r Γ c' => ∃ z2 s, Γ = [some (.scr ns), some (.d (.int k)), z2, some (.d (.int m)), some (.d (.int s))] ∧ (r = [] → 0 ≤ s ∧ s < 2305843009213693951) ∧ c' = c ∧ ∀ d ∈ r, ∃ i : Int, d = .int i) ?_ ?_ ⟨none, _, rfl, fun e => absurd e (by simp), rfl, fun d hd => ?_⟩
  · rintro Γ c' ⟨z2, s, rfl, hs, rfl, _⟩
    obtain ⟨s0, s1⟩ := hs rfl
    walk_at "z simp"
    refine ⟨by decide +kernel, by decide +kernel, by decide +kernel, by decide +kernel, cmul_r ?_ ?_, ?_, q⟩
    · split <;> decide
    · split <;> decide
    · have b0 : (0 : Int) < (10 ^ Int.toNat 60) ^ Int.toNat 5 := by decide +kernel
      have b1 := Int.emod_nonneg (m.natAbs : Int) (b := (10 ^ Int.toNat 60) ^ Int.toNat 5) (by omega)
      have b2 := Int.emod_lt_of_pos (m.natAbs : Int) b0
      have b3 : ((10 : Int) ^ Int.toNat 60) ^ Int.toNat 5 < ((2 ^ 1000 : Nat) : Int) := by decide +kernel
      generalize ((m.natAbs : Int) % (10 ^ Int.toNat 60) ^ Int.toNat 5) = w at b1 b2 ⊢
      generalize ((10 : Int) ^ Int.toNat 60) ^ Int.toNat 5 = M at b2 b3
      have b4 : 0 ≤ w * (if decide ((10 : Int) ^ Int.toNat 18 ≤ (m.natAbs : Int)) = true then 1 else 0) ∧ w * (if decide ((10 : Int) ^ Int.toNat 18 ≤ (m.natAbs : Int)) = true then 1 else 0) ≤ w := by
        split
        · rw [Int.mul_one]; exact ⟨b1, Int.le_refl _⟩
        · rw [Int.mul_zero]; exact ⟨Int.le_refl _, b1⟩
      refine ⟨b4.1, ?_, s0, by omega, Int.le_refl _, by omega⟩
      refine Nat.lt_trans ?_ big
      have b5 := b4.2
      generalize w * (if decide ((10 : Int) ^ Int.toNat 18 ≤ (m.natAbs : Int)) = true then 1 else 0) = u at b4 b5 ⊢
      generalize (2 : Nat) ^ 1000 = T at b3 ⊢
      omega
  · rintro d r Γ c' kk ⟨z2, s, rfl, hs, rfl, hd⟩ hk
    obtain ⟨i, rfl⟩ := hd d (by simp)
    walk_at "z simp"
    refine ⟨cmul_r (by decide) (by decide), cmul_l (by decide) (by decide), by decide, hk _ _ ⟨_, _, rfl, fun _ => ⟨Int.emod_nonneg _ (by decide), Int.emod_lt_of_pos _ (by decide)⟩, rfl, fun d h => hd d (by simp [h])⟩⟩
  · rcases List.mem_append.mp hd with h | h
    · exact ⟨m, List.mem_singleton.mp h⟩
    · unfold cutD at h
      obtain ⟨i, _, e⟩ := List.mem_map.mp (List.mem_of_mem_drop (List.mem_of_mem_take h))
      exact ⟨i, e.symm⟩
end
end Z
/-! Z20 -/
set_option maxRecDepth 100000
/-! plain data: what may be shown, compared -/
namespace Z
open PySem PySem.Spec PyProof.Rows L2
mutual
def okD : PyData → Bool
  | .none => true
  | .bool _ => true
  | .int i => decide (i.natAbs < 10 ^ 12)
  | .list xs => okDs xs
  | .tuple xs => okDs xs
  | .str _ => false
  | .dict _ => false
def okDs : List PyData → Bool
  | [] => true
  | x :: xs => okD x && okDs xs
end
mutual
theorem okD_lay : ∀ d : PyData, okD d = true → d.canLay0 = true
  | .none, _ => rfl
  | .bool _, _ => rfl
  | .int _, _ => by simp [PyData.canLay0]
  | .list xs, h => by
    have h : okDs xs = true := by simpa [okD] using h
    simpa [PyData.canLay0] using okDs_lay xs h
  | .tuple xs, h => by
    have h : okDs xs = true := by simpa [okD] using h
    simpa [PyData.canLay0] using okDs_lay xs h
  | .str _, h => by simp [okD] at h
  | .dict _, h => by simp [okD] at h
theorem okDs_lay : ∀ ds : List PyData, okDs ds = true → PyData.canLayAll0 ds = true
  | [], _ => by simp [PyData.canLayAll0]
  | x :: xs, h => by
    have h : okD x = true ∧ okDs xs = true := by simpa [okDs] using h
    simp [PyData.canLayAll0, okD_lay x h.1, okDs_lay xs h.2]
end
mutual
theorem okD_show : ∀ d : PyData, okD d = true → d.showable = true ∧ d.hasDict = false ∧ d.leavesShort 13 = true
  | .none, _ => by simp [PyData.showable, PyData.hasDict, PyData.leavesShort]
  | .bool _, _ => by simp [PyData.showable, PyData.hasDict, PyData.leavesShort]
  | .int i, h => by
    have h : i.natAbs < 10 ^ 12 := by simpa [okD] using h
    refine ⟨?_, rfl, ?_⟩
    · have : i.natAbs.log2 < 1920 := by
        by_cases z : i.natAbs = 0
        · rw [z]; decide
        · rw [Nat.log2_lt z]
          exact Nat.lt_trans h (by decide +kernel)
      simpa [PyData.showable] using this
    · simpa [PyData.leavesShort] using PyData.shown_int_le h
  | .list xs, h => by
    have h : okDs xs = true := by simpa [okD] using h
    simpa [PyData.showable, PyData.hasDict, PyData.leavesShort] using okDs_show xs h
  | .tuple xs, h => by
    have h : okDs xs = true := by simpa [okD] using h
    simpa [PyData.showable, PyData.hasDict, PyData.leavesShort] using okDs_show xs h
  | .str _, h => by simp [okD] at h
  | .dict _, h => by simp [okD] at h
theorem okDs_show : ∀ ds : List PyData, okDs ds = true → PyData.showableAll ds = true ∧ PyData.hasDictAll ds = false ∧ PyData.leavesShortAll 13 ds = true
  | [], _ => by simp [PyData.showableAll, PyData.hasDictAll, PyData.leavesShortAll]
  | x :: xs, h => by
    have h : okD x = true ∧ okDs xs = true := by simpa [okDs] using h
    have h1 := okD_show x h.1
    have h2 := okDs_show xs h.2
    simp [PyData.showableAll, PyData.hasDictAll, PyData.leavesShortAll, h1, h2]
end
/-- its repr may be asked -/
theorem repr_ok {d : PyData} (h : okD d = true) (hd : d.depth ≤ 60) (hw : d.weight ≤ 2 ^ 20) : reprOk d = true ∧ d.showable = true ∧ d.hasDict = false ∧ d.depth ≤ 60 ∧ d.shown.length ≤ sizeLine := by
  have h2 := okD_show d h
  refine ⟨?_, h2.1, h2.2.1, hd, PyData.shown_fits (B := 13) (by decide) (by decide) h2.2.2 hw⟩
  have := okD_lay d h
  cases d <;> first | exact this | (simp [okD] at h; done)
theorem okDs_all {α : Type} {f : α → PyData} : ∀ {l : List α}, (∀ x ∈ l, okD (f x) = true) → okDs (l.map f) = true
  | [], _ => by simp [okDs]
  | x :: l, h => by
    rw [List.map_cons, okDs, h x (by simp), okDs_all fun y hy => h y (by simp [hy])]
    rfl
theorem depthAll_le {α : Type} {f : α → PyData} {n : Nat} : ∀ {l : List α}, (∀ x ∈ l, (f x).depth ≤ n) → PyData.depthAll (l.map f) ≤ n
  | [], _ => by simp [PyData.depthAll]
  | x :: l, h => by
    rw [List.map_cons, PyData.depthAll]
    exact Nat.max_le.mpr ⟨h x (by simp), depthAll_le fun y hy => h y (by simp [hy])⟩
theorem weightAll_le {α : Type} {f : α → PyData} {n : Nat} : ∀ {l : List α}, (∀ x ∈ l, (f x).weight ≤ n) → PyData.weightAll (l.map f) ≤ (n + 1) * l.length
  | [], _ => by simp [PyData.weightAll]
  | x :: l, h => by
    have h1 := h x (by simp)
    have h2 := weightAll_le (l := l) fun y hy => h y (by simp [hy])
    rw [List.map_cons, PyData.weightAll, List.length_cons, Nat.mul_succ]
    omega
theorem weight_int {i : Int} (h : i.natAbs < 10 ^ 12) : (PyData.int i).weight ≤ 40 := by
  unfold PyData.weight
  split
  · omega
  · rename_i hz
    have : i.natAbs.log2 < 40 := by
      rw [Nat.log2_lt (by simp at hz; omega)]
      exact Nat.lt_trans h (by decide)
    omega
/-- whole numbers in a row -/
abbrev TpI (ns : List Int) : PyData := .tuple (ns.map .int)
theorem depth_TpI (ns : List Int) : (TpI ns).depth ≤ 1 := by
  show PyData.depthAll (ns.map .int) + 1 ≤ 1
  have := depthAll_le (f := PyData.int) (n := 0) (l := ns) fun x _ => by simp [PyData.depth]
  omega
theorem okD_TpI {ns : List Int} (h : ∀ n ∈ ns, n.natAbs < 10 ^ 12) : okD (TpI ns) = true := by
  show okD (.tuple _) = true
  rw [okD]
  exact okDs_all fun x hx => by simpa [okD] using h x hx
theorem repr_TpI {ns : List Int} (h : ∀ n ∈ ns, n.natAbs < 10 ^ 12) (hl : ns.length ≤ 1000) : reprOk (TpI ns) = true ∧ (TpI ns).showable = true ∧ (TpI ns).hasDict = false ∧ (TpI ns).depth ≤ 60 ∧ (TpI ns).shown.length ≤ sizeLine := by
  refine repr_ok (okD_TpI h) (Nat.le_trans (depth_TpI ns) (by decide)) ?_
  show PyData.weightAll (ns.map .int) ≤ _
  have := weightAll_le (f := PyData.int) (n := 40) (l := ns) fun x hx => weight_int (h x hx)
  omega
theorem repr_rows {rows : List (List Int)} (h : ∀ r ∈ rows, r.length ≤ 10 ∧ ∀ n ∈ r, n.natAbs < 10 ^ 12) (hl : rows.length ≤ 1000) :
    reprOk (.tuple (rows.map TpI)) = true ∧ (PyData.tuple (rows.map TpI)).showable = true ∧ (PyData.tuple (rows.map TpI)).hasDict = false ∧ (PyData.tuple (rows.map TpI)).depth ≤ 60 ∧ (PyData.tuple (rows.map TpI)).shown.length ≤ sizeLine := by
  refine repr_ok ?_ ?_ ?_
  · rw [okD]
    exact okDs_all fun r hr => okD_TpI (h r hr).2
  · show PyData.depthAll (rows.map TpI) + 1 ≤ 60
    have := depthAll_le (f := TpI) (n := 1) (l := rows) fun x _ => depth_TpI x
    omega
  · show PyData.weightAll (rows.map TpI) ≤ _
    have := weightAll_le (f := TpI) (n := 410) (l := rows) fun r hr => by
      show PyData.weightAll (r.map .int) ≤ _
      have h1 := weightAll_le (f := PyData.int) (n := 40) (l := r) fun x hx => weight_int ((h r hr).2 x hx)
      have := (h r hr).1
      omega
    omega
/-! may be compared -/
theorem lay_ints : ∀ ns : List Int, PyData.canLayAll0 (ns.map .int) = true
  | [] => by simp [PyData.canLayAll0]
  | n :: ns => by
    rw [List.map_cons, PyData.canLayAll0, lay_ints ns]
    simp [PyData.canLay0]
theorem depth_ints0 (ns : List Int) : PyData.depthAll (ns.map .int) = 0 := Nat.le_zero.mp (depthAll_le fun x _ => by simp [PyData.depth])
theorem sh_int (i : Int) : SeqAt.shaped (.int i) = true := by simp [SeqAt.shaped, PyData.canLay0, PyData.depth]
theorem sh_str (s : Str) (h : (PyData.str s).canLay0 = true) : SeqAt.shaped (.str s) = true := by simp [SeqAt.shaped, h, PyData.depth]
theorem sh_lst (ns : List Int) : SeqAt.shaped (.list (ns.map .int)) = true := by simp [SeqAt.shaped, PyData.canLay0, PyData.depth, lay_ints, depth_ints0]
theorem sh_tup (ns : List Int) : SeqAt.shaped (TpI ns) = true := by simp [SeqAt.shaped, PyData.canLay0, PyData.depth, lay_ints, depth_ints0]
theorem eqv_int (i j : Int) : PyData.eqv (.int i) (.int j) = decide (i = j) := by simp [PyData.eqv]; rfl
theorem eqvAll_ints : ∀ a b : List Int, PyData.eqvAll (a.map .int) (b.map .int) = decide (a = b)
  | [], [] => by simp [PyData.eqvAll]
  | [], _ :: _ => by simp [PyData.eqvAll]
  | _ :: _, [] => by simp [PyData.eqvAll]
  | x :: a, y :: b => by
    rw [List.map_cons, List.map_cons, PyData.eqvAll, eqv_int, eqvAll_ints a b]
    by_cases h : x = y <;> by_cases h2 : a = b <;> simp [h, h2]
theorem eqv_TpI (a b : List Int) : PyData.eqv (TpI a) (TpI b) = decide (a = b) := by rw [PyData.eqv, eqvAll_ints]
theorem eqv_str (a b : Str) : PyData.eqv (.str a) (.str b) = decide (a = b) := by simp [PyData.eqv]; rfl
/-- the index of a whole number that is there -/
theorem idx_ok {l : List Int} {x : Int} {Q : KD} (h : x ∈ l) (q : Q (.int (l.idxOf x : Nat))) : wMth .index (.list (l.map .int)) [.int x] Q := by
  rw [q_idx]
  have hl := List.idxOf_lt_length_of_mem h
  refine ⟨sh_lst l, sh_int x, l.idxOf x, .int x, ?_, ?_, fun m z hm hz => ?_, q⟩
  · rw [List.getElem?_map, List.getElem?_eq_getElem hl, List.getElem_idxOf]
    rfl
  · rw [eqv_int]; simp
  · rw [List.getElem?_map] at hz
    have hm2 : m < l.length := Nat.lt_trans hm hl
    rw [List.getElem?_eq_getElem hm2] at hz
    cases hz
    rw [eqv_int]
    have := List.not_of_lt_findIdx (p := fun y => y == x) (xs := l) (i := m) hm
    simpa using this
end Z
namespace Z
open PySem PySem.Spec PyProof.Rows L2
section
variable {a b d e f g h i j k : Ct} {r ks : List Ct}
theorem q_ct0 : ctF (a :: r) ks 0 = a := rfl
theorem q_ct1 : ctF (a :: b :: r) ks 1 = b := rfl
theorem q_ct2 : ctF (a :: b :: d :: r) ks 2 = d := rfl
theorem q_ct3 : ctF (a :: b :: d :: e :: r) ks 3 = e := rfl
theorem q_ct4 : ctF (a :: b :: d :: e :: f :: r) ks 4 = f := rfl
theorem q_ct5 : ctF (a :: b :: d :: e :: f :: g :: r) ks 5 = g := rfl
theorem q_ct6 : ctF (a :: b :: d :: e :: f :: g :: h :: r) ks 6 = h := rfl
theorem q_ct7 : ctF (a :: b :: d :: e :: f :: g :: h :: i :: r) ks 7 = i := rfl
theorem q_ct8 : ctF (a :: b :: d :: e :: f :: g :: h :: i :: j :: r) ks 8 = j := rfl
theorem q_ct9 : ctF (a :: b :: d :: e :: f :: g :: h :: i :: j :: k :: r) ks 9 = k := rfl
theorem q_kt0 : ctF r (a :: ks) 100 = a := rfl
theorem q_kt1 : ctF r (a :: b :: ks) 101 = b := rfl
theorem q_kt2 : ctF r (a :: b :: d :: ks) 102 = d := rfl
end
end Z
local macro_rules | `(tactic| walk_at "z ct") => `(tactic| try simp only [Z.q_ct0, Z.q_ct1, Z.q_ct2, Z.q_ct3, Z.q_ct4, Z.q_ct5, Z.q_ct6, Z.q_ct7, Z.q_ct8, Z.q_ct9, Z.q_kt0, Z.q_kt1, Z.q_kt2])
namespace Z
open PySem PySem.Spec PyProof.Rows L2
/-- one of some -/
def ctOf : Ct := fun zs c Q => ∃ xs : List PyData, zs = [.pot, .d (.list xs)] ∧ xs ≠ [] ∧ xs.length < 2 ^ 50 ∧ c + 1 < 2 ^ 60 ∧ ∀ x c', x ∈ xs → c ≤ c' → c' ≤ c + 1 → Q (.d x) c'
def irOf : List IS := [.ret (.ix (.var 1) (.call 0 [(.var 0), (.blt .len [(.var 1)])]))]
theorem atI_mem {xs : List PyData} {r : Int} (h0 : 0 ≤ r) (h1 : r < xs.length) : ∃ v, atI xs r = some v ∧ v ∈ xs := by
  obtain ⟨m, rfl⟩ := Int.eq_ofNat_of_zero_le h0
  have hm : m < xs.length := by omega
  exact ⟨xs[m], atI_nat (List.getElem?_eq_getElem hm), List.getElem_mem hm⟩
theorem of_ok {ks : List Ct} {Gd : Nat → PyData} {r : List Ct} {Q : KZ} {c : Nat} {xs : List PyData} (h0 : xs ≠ []) (h1 : xs.length < 2 ^ 50) (hc : c + 1 < 2 ^ 60) (q : ∀ x c', x ∈ xs → c ≤ c' → c' ≤ c + 1 → Q (.d x) c') :
    wSs (ctF (ctTake :: r) ks) Gd irOf [some .pot, some (.d (.list xs))] c (iniR Q) := by
  unfold irOf
  walk_at "z simp"
  walk_at "z ct"
  have : 0 < xs.length := List.length_pos_iff.mpr h0
  refine ⟨xs.length, rfl, by omega, by omega, hc, fun r c' r0 r1 c0 c1 => ?_⟩
  walk_at "z simp"
  obtain ⟨v, e, hv⟩ := atI_mem r0 r1
  exact ⟨v, e, q v c' hv c0 c1⟩
end Z
namespace Z
open PySem PySem.Spec PyProof.Rows L2
end Z
local macro_rules | `(tactic| walk_at "z len") => `(tactic| ((try simp only [List.length_cons, List.length_nil, List.length_append, List.length_map]); rw [PySem.sizeLine_eq]; omega))
namespace Z
open PySem PySem.Spec PyProof.Rows L2
theorem zints_of {P : Int → Prop} : ∀ {xs : List PyData}, (∀ x ∈ xs, ∃ i, x = .int i ∧ P i) → ∃ ns : List Int, xs = ns.map .int ∧ ∀ i ∈ ns, P i
  | [], _ => ⟨[], rfl, fun i h => by cases h⟩
  | x :: xs, h => by
    obtain ⟨i, rfl, hi⟩ := h x (by simp)
    obtain ⟨ns, rfl, hn⟩ := zints_of (xs := xs) fun y hy => h y (List.mem_cons_of_mem _ hy)
    refine ⟨i :: ns, rfl, fun j hj => ?_⟩
    rcases List.mem_cons.mp hj with rfl | hj
    · exact hi
    · exact hn j hj
end Z
namespace Z
open PySem PySem.Spec PyProof.Rows L2
section
variable {f : PyData → Nat → (List PyData → Nat → Prop) → Prop} {c : Nat} {α : Type} {e : α → PyData}
theorem lcW_on (g : α → List PyData) : ∀ {l : List α} {Q : List PyData → Nat → Prop}, (∀ a ∈ l, ∀ Q : List PyData → Nat → Prop, Q (g a) c → f (e a) c Q) → Q (l.flatMap g) c → lcW f (l.map e) c Q
  | [], Q, _, q => q
  | a :: l, Q, h, q => h a (by simp) _ (lcW_on g (fun b hb => h b (by simp [hb])) (by rw [List.flatMap_cons] at q; exact q))
theorem flat_map1 (g : α → PyData) : ∀ l : List α, l.flatMap (fun a => [g a]) = l.map g
  | [] => rfl
  | a :: l => by rw [List.flatMap_cons, List.map_cons, flat_map1 g l]; rfl
theorem flat_filt (p : α → Bool) : ∀ l : List α, l.flatMap (fun a => if p a then [e a] else []) = (l.filter p).map e
  | [] => rfl
  | a :: l => by
    rw [List.flatMap_cons, flat_filt p l, List.filter_cons]
    cases p a <;> rfl
/-- a comprehension over items that are e's -/
theorem lcW_om (g : α → PyData) {l : List α} {Q : List PyData → Nat → Prop} (h : ∀ a ∈ l, ∀ Q : List PyData → Nat → Prop, Q [g a] c → f (e a) c Q) (q : Q (l.map g) c) : lcW f (l.map e) c Q :=
  lcW_on (fun a => [g a]) h (by rw [flat_map1]; exact q)
theorem lcW_of (p : α → Bool) {l : List α} {Q : List PyData → Nat → Prop} (h : ∀ a ∈ l, ∀ Q : List PyData → Nat → Prop, Q (if p a then [e a] else []) c → f (e a) c Q) (q : Q ((l.filter p).map e) c) : lcW f (l.map e) c Q :=
  lcW_on (fun a => if p a then [e a] else []) h (by rw [flat_filt]; exact q)
end
section
variable {f : PyData → List PyData → Nat → (List PyData → Nat → Prop) → Prop} {c : Nat} {α : Type} {e : α → PyData}
theorem lcA_on (g : α → List PyData) (B : Nat) : ∀ {l : List α} {acc : List PyData} {Q : List PyData → Nat → Prop}, acc.length + (l.flatMap g).length ≤ B →
    (∀ a ∈ l, ∀ acc (Q : List PyData → Nat → Prop), acc.length + (g a).length ≤ B → Q (acc ++ g a) c → f (e a) acc c Q) → Q (acc ++ l.flatMap g) c → lcA f (l.map e) acc c Q
  | [], acc, Q, _, _, q => by
    rw [List.flatMap_nil, List.append_nil] at q
    exact q
  | a :: l, acc, Q, hB, h, q => by
    rw [List.flatMap_cons, List.length_append] at hB
    refine h a (by simp) acc _ (by omega) (lcA_on g B (by rw [List.length_append]; omega) (fun b hb => h b (by simp [hb])) ?_)
    rw [List.flatMap_cons] at q
    rw [List.append_assoc]
    exact q
end
end Z
/-! Z21 -/
set_option maxRecDepth 100000
/-! short forms, quicker steps -/
namespace Z
open PySem PySem.Spec PyProof.Rows L2
section
variable {F : Nat → Ct} {Gd : Nat → PyData} {Γ : Ga} {c : Nat} {R : Rt} {Q : KZ} {KD' : KD} {KB : Bool → Prop} {x y u v0 v1 v2 v3 v4 v5 : PyData} {i j : Int} {z : Zv} {xs ys : List PyData} {s t : Str} {b : Bool} {kvs : List (PyData × PyData)}
theorem toNat_inj {a b : Char} (h : a.toNat = b.toNat) : a = b := Char.ext (UInt32.toNat_inj.mp h)
theorem map_inj {α β : Type} {f : α → β} (hf : ∀ x y, f x = f y → x = y) : ∀ {a b : List α}, a.map f = b.map f → a = b
  | [], [], _ => rfl
  | [], _ :: _, h => by simp at h
  | _ :: _, [], h => by simp at h
  | x :: a, y :: b, h => by
    rw [List.map_cons, List.map_cons] at h
    injection h with h1 h2
    rw [hf _ _ h1, map_inj hf h2]
theorem str_eq (a b : String) : (Str.ofString a = Str.ofString b) = (a = b) := propext ⟨fun h => by
  rw [Str.ofString_eq_toList, Str.ofString_eq_toList] at h
  injection h with h
  have h2 : a.toList.map Char.toNat = b.toList.map Char.toNat := by simpa using h
  exact String.toList_injective (map_inj (fun x y => toNat_inj) h2), fun h => by rw [h]⟩
theorem q_eqS : wCmp .Eq (.str s) (.str t) KB = KB (decide (s = t)) := propext ⟨fun h => by have := h.2; rwa [eqv_str] at this, fun h => ⟨trivial, by rwa [eqv_str]⟩⟩
theorem q_neS : wCmp .NotEq (.str s) (.str t) KB = KB (!decide (s = t)) := propext ⟨fun h => by have := h.2; rwa [eqv_str] at this, fun h => ⟨trivial, by rwa [eqv_str]⟩⟩
theorem q_eqI : wCmp .Eq (.int i) (.int j) KB = KB (decide (i = j)) := propext ⟨fun h => by have := h.2; rwa [eqv_int] at this, fun h => ⟨⟨sh_int i, sh_int j⟩, by rwa [eqv_int]⟩⟩
theorem q_neI : wCmp .NotEq (.int i) (.int j) KB = KB (!decide (i = j)) := propext ⟨fun h => by have := h.2; rwa [eqv_int] at this, fun h => ⟨⟨sh_int i, sh_int j⟩, by rwa [eqv_int]⟩⟩
theorem q_eq0 : wCmp .Eq (.tuple xs) (.tuple []) KB = KB xs.isEmpty := propext ⟨fun h => by have := h.2; rwa [eqv_nil] at this, fun h => ⟨trivial, by rwa [eqv_nil]⟩⟩
theorem atI_0 (h : 0 < xs.length) : True := trivial
theorem atI_cons {n : Nat} {v : PyData} (h : xs[n]? = some v) (k : Int) (hk : k = (n : Int)) : atI xs k = some v := by subst hk; exact atI_nat h
theorem ixL {n : Nat} {v : PyData} (h : xs[n]? = some v) (k : Int) (hk : k = (n : Int)) : wIx (.list xs) (.int k) KD' = KD' v := propext ⟨fun ⟨w, e, q⟩ => by rw [atI_cons h k hk] at e; cases e; exact q, fun q => ⟨_, atI_cons h k hk, q⟩⟩
theorem ixT {n : Nat} {v : PyData} (h : xs[n]? = some v) (k : Int) (hk : k = (n : Int)) : wIx (.tuple xs) (.int k) KD' = KD' v := propext ⟨fun ⟨w, e, q⟩ => by rw [atI_cons h k hk] at e; cases e; exact q, fun q => ⟨_, atI_cons h k hk, q⟩⟩
theorem q_l0 : wIx (.list (v0 :: xs)) (.int 0) KD' = KD' v0 := ixL (n := 0) rfl 0 rfl
theorem q_l1 : wIx (.list (v0 :: v1 :: xs)) (.int 1) KD' = KD' v1 := ixL (n := 1) rfl 1 rfl
theorem q_l2 : wIx (.list (v0 :: v1 :: v2 :: xs)) (.int 2) KD' = KD' v2 := ixL (n := 2) rfl 2 rfl
theorem q_l3 : wIx (.list (v0 :: v1 :: v2 :: v3 :: xs)) (.int 3) KD' = KD' v3 := ixL (n := 3) rfl 3 rfl
theorem q_l4 : wIx (.list (v0 :: v1 :: v2 :: v3 :: v4 :: xs)) (.int 4) KD' = KD' v4 := ixL (n := 4) rfl 4 rfl
theorem q_t0 : wIx (.tuple (v0 :: xs)) (.int 0) KD' = KD' v0 := ixT (n := 0) rfl 0 rfl
theorem q_t1 : wIx (.tuple (v0 :: v1 :: xs)) (.int 1) KD' = KD' v1 := ixT (n := 1) rfl 1 rfl
theorem q_t2 : wIx (.tuple (v0 :: v1 :: v2 :: xs)) (.int 2) KD' = KD' v2 := ixT (n := 2) rfl 2 rfl
theorem q_t3 : wIx (.tuple (v0 :: v1 :: v2 :: v3 :: xs)) (.int 3) KD' = KD' v3 := ixT (n := 3) rfl 3 rfl
theorem q_t4 : wIx (.tuple (v0 :: v1 :: v2 :: v3 :: v4 :: xs)) (.int 4) KD' = KD' v4 := ixT (n := 4) rfl 4 rfl
/-- any of some -/
theorem ix_any (h0 : 0 ≤ i) (h1 : i < xs.length) (h : ∀ x ∈ xs, KD' x) : wIx (.list xs) (.int i) KD' := by
  obtain ⟨v, e, hv⟩ := atI_mem h0 h1
  exact ⟨v, e, h v hv⟩
/-! dicts -/
theorem q_ixdd : wIx (.dict kvs) x KD' = ∃ k v, keyD x = some k ∧ dLk kvs k = some v ∧ KD' v := by cases x <;> rfl
theorem q_ixdS : wIx (.dict kvs) (.str s) KD' = ∃ v, dLk kvs (.inr s) = some v ∧ KD' v := propext ⟨fun ⟨k, v, e, h1, h2⟩ => by cases e; exact ⟨v, h1, h2⟩, fun ⟨v, h1, h2⟩ => ⟨_, v, rfl, h1, h2⟩⟩
theorem q_getS : wMth .get (.dict kvs) [.str s, x] KD' = KD' ((dLk kvs (.inr s)).getD x) := propext ⟨fun ⟨k, e, h⟩ => by cases e; exact h, fun h => ⟨_, rfl, h⟩⟩
theorem q_lk0 {k : Key} : dLk [] k = none := rfl
theorem q_lkS {d : PyData} {r : List (PyData × PyData)} : dLk ((.str s, d) :: r) (.inr t) = if s = t then some d else dLk r (.inr t) := by
  show (if (some (Sum.inr s) : Option Key) = some (Sum.inr t) then some d else dLk r (.inr t)) = _
  by_cases e : s = t
  · subst e; simp
  · rw [if_neg e, if_neg (fun h => e (Sum.inr.inj (Option.some.inj h)))]
theorem q_kD : kD (.inr s) = .str s := rfl
theorem q_kDi : kD (.inl i) = .int i := rfl
theorem q_dsp {ks : List Key} {as : List PyData} : wX Gd (.dsp ks) as KD' = (ks.length = as.length ∧ ks.Nodup ∧ KD' (.dict ((ks.map kD).zip as))) := rfl
theorem q_repl {k : Int} : wX Gd .repl [.list xs, .int k] KD' = ((-(2 ^ 63) ≤ k ∧ k < 2 ^ 63 ∧ xs.length * k.toNat ≤ sizeLine) ∧ KD' (.list (List.replicate k.toNat xs).flatten)) := rfl
theorem q_mulT {k : Int} : wBin .Mult (.tuple xs) (.int k) KD' = ((xs ≠ [] ∧ 2 ≤ k ∧ k ≤ 1000 ∧ xs.length ≤ 1000) ∧ KD' (.tuple (List.replicate k.toNat xs).flatten)) := rfl
theorem q_up : wX Gd .upper [.str s] KD' = (s.length ≤ 5592405 ∧ KD' (.str (Txt.upper s))) := rfl
theorem q_gix {n : Nat} : wX Gd (.gix n) [x] KD' = xGix (Gd (1000 + n)) [x] KD' := rfl
theorem q_gixS : xGix (.dict kvs) [.str s] KD' = ∃ v, dLk kvs (.inr s) = some v ∧ KD' v := propext ⟨fun ⟨k, v, e, h1, h2⟩ => by cases e; exact ⟨v, h1, h2⟩, fun ⟨v, h1, h2⟩ => ⟨_, v, rfl, h1, h2⟩⟩
theorem q_gget {n : Nat} : wX Gd (.gget n) [x, y] KD' = xGget (Gd (1000 + n)) [x, y] KD' := rfl
theorem q_ggetS : xGget (.dict kvs) [.str s, x] KD' = KD' ((dLk kvs (.inr s)).getD x) := propext ⟨fun ⟨k, e, h⟩ => by cases e; exact h, fun h => ⟨_, rfl, h⟩⟩
theorem q_gkeys {n : Nat} : wX Gd (.gkeys n) [] KD' = xGkeys (Gd (1000 + n)) [] KD' := rfl
theorem q_gkeysS : xGkeys (.dict kvs) [] KD' = KD' (.list (kvs.map (·.1))) := rfl
theorem q_g0 {a : PyData} {r dds : List PyData} : lkG (a :: r) dds 0 = a := rfl
theorem q_g1 {a b : PyData} {r dds : List PyData} : lkG (a :: b :: r) dds 1 = b := rfl
theorem q_gd0 {a : PyData} {ds r : List PyData} : lkG ds (a :: r) 1000 = a := rfl
theorem q_gd1 {a b : PyData} {ds r : List PyData} : lkG ds (a :: b :: r) 1001 = b := rfl
theorem q_inD : wCmp .In (.str s) (.dict kvs) KB = KB (dLk kvs (.inr s)).isSome := propext ⟨fun ⟨k, e, h⟩ => by cases e; exact h, fun h => ⟨_, rfl, h⟩⟩
theorem q_zipM {A : List PyData → Prop} : wIt (some .zip) [.list xs, .tuple ys] A = A (zipD xs ys) := rfl
/-! draws -/
theorem q_take : ctTake [.pot, .d (.int i)] c Q = (0 < i ∧ i < 2 ^ 60 ∧ c + 1 < 2 ^ 60 ∧ ∀ r c', 0 ≤ r → r < i → c ≤ c' → c' ≤ c + 1 → Q (.d (.int r)) c') := propext ⟨fun ⟨n, e, h⟩ => by cases e; exact h, fun h => ⟨i, rfl, h⟩⟩
theorem q_of : ctOf [.pot, .d (.list xs)] c Q = (xs ≠ [] ∧ xs.length < 2 ^ 50 ∧ c + 1 < 2 ^ 60 ∧ ∀ x c', x ∈ xs → c ≤ c' → c' ≤ c + 1 → Q (.d x) c') := propext ⟨fun ⟨n, e, h⟩ => by cases e; exact h, fun h => ⟨xs, rfl, h⟩⟩
theorem all_nil {P : PyData → Prop} : (∀ x ∈ ([] : List PyData), P x) = True := by simp
theorem forall_one {P : PyData → Prop} : (∀ z ∈ (x :: xs), P z) = (P x ∧ ∀ z ∈ xs, P z) := by simp
end
end Z
/-! Z22 -/
set_option maxRecDepth 100000
/-! head first -/
namespace Z
open PySem PySem.Spec PyProof.Rows L2
section
variable {F : Nat → Ct} {Gd : Nat → PyData} {Γ : Ga} {c : Nat} {Q : KZ} {K' : KD} {K : Bool → Prop} {x y : PyData} {i j : Int} {xs ys : List PyData} {s t : Str} {b : Bool} {kvs : List (PyData × PyData)}
theorem bI (h1 : i = j → K true) (h2 : i ≠ j → K false) : eqOk (.int i) (.int j) ∧ K (PyData.eqv (.int i) (.int j)) := ⟨⟨sh_int i, sh_int j⟩, by
  rw [eqv_int]
  by_cases e : i = j
  · rw [decide_eq_true e]; exact h1 e
  · rw [decide_eq_false e]; exact h2 e⟩
theorem nI (h1 : i = j → K false) (h2 : i ≠ j → K true) : neOk (.int i) (.int j) ∧ K (!PyData.eqv (.int i) (.int j)) := ⟨⟨sh_int i, sh_int j⟩, by
  rw [eqv_int]
  by_cases e : i = j
  · rw [decide_eq_true e]; exact h1 e
  · rw [decide_eq_false e]; exact h2 e⟩
theorem bS (h1 : s = t → K true) (h2 : s ≠ t → K false) : eqOk (.str s) (.str t) ∧ K (PyData.eqv (.str s) (.str t)) := ⟨trivial, by
  rw [eqv_str]
  by_cases e : s = t
  · rw [decide_eq_true e]; exact h1 e
  · rw [decide_eq_false e]; exact h2 e⟩
theorem bSt (h : K true) : eqOk (.str s) (.str s) ∧ K (PyData.eqv (.str s) (.str s)) := bS (fun _ => h) fun e => absurd rfl e
theorem bSf (e : s ≠ t) (h : K false) : eqOk (.str s) (.str t) ∧ K (PyData.eqv (.str s) (.str t)) := bS (fun z => absurd z e) fun _ => h
theorem nSs (h : K false) : neOk (.str s) (.str s) ∧ K (!PyData.eqv (.str s) (.str s)) := ⟨trivial, by rw [eqv_str]; simpa using h⟩
theorem b0 (h : K xs.isEmpty) : eqOk (.tuple xs) (.tuple []) ∧ K (PyData.eqv (.tuple xs) (.tuple [])) := ⟨trivial, by rw [eqv_nil]; exact h⟩
theorem at0 {x : PyData} {r : List PyData} : atI (x :: r) 0 = some x := atI_nat (j := 0) rfl
theorem at1 {x y : PyData} {r : List PyData} : atI (x :: y :: r) 1 = some y := atI_nat (j := 1) rfl
theorem at2 {x y z : PyData} {r : List PyData} : atI (x :: y :: z :: r) 2 = some z := atI_nat (j := 2) rfl
/-- a comparison's two ways -/
theorem dec2 {p : Prop} [Decidable p] (h1 : p → K true) (h2 : ¬ p → K false) : K (decide p) := by
  by_cases e : p
  · rw [decide_eq_true e]; exact h1 e
  · rw [decide_eq_false e]; exact h2 e
theorem bool2 {b : Bool} (h1 : b = true → K true) (h2 : b = false → K false) : K b := by
  cases b with
  | true => exact h1 rfl
  | false => exact h2 rfl
end
end Z
local macro_rules | `(tactic| walk_at "zI") => `(tactic| (refine ⟨⟨Z.sh_int _, Z.sh_int _⟩, ?_⟩; rw [Z.eqv_int]; (conv => whnf); split))
namespace Z
open PySem PySem.Spec PyProof.Rows L2
end Z
local macro_rules | `(tactic| walk_at "zS") => `(tactic| (refine ⟨True.intro, ?_⟩; rw [Z.eqv_str]; (conv => whnf); split))
namespace Z
open PySem PySem.Spec PyProof.Rows L2
end Z
local macro_rules | `(tactic| walk_at "zw") => `(tactic| conv => whnf)
namespace Z
open PySem PySem.Spec PyProof.Rows L2
end Z
/-! P02 -/
set_option maxRecDepth 100000
/-! k02, in plain words: first comings, ranks -/
namespace K02
open PySem PySem.Spec PyProof.Rows L2 Z
def firstsF : List Int → List Int → List Int
  | acc, [] => acc
  | acc, x :: r => firstsF (if x ∈ acc then acc else acc ++ [x]) r
theorem firsts_mem : ∀ {r acc : List Int} {x : Int}, x ∈ firstsF acc r ↔ x ∈ acc ∨ x ∈ r
  | [], acc, x => by simp [firstsF]
  | y :: r, acc, x => by
    rw [firstsF, firsts_mem]
    split
    · rename_i h
      constructor
      · rintro (h2 | h2)
        · exact .inl h2
        · exact .inr (by simp [h2])
      · rintro (h2 | h2)
        · exact .inl h2
        · rcases List.mem_cons.mp h2 with rfl | h2
          · exact .inl h
          · exact .inr h2
    · rw [List.mem_append, List.mem_singleton, List.mem_cons, or_assoc]
/-- where each first came, rising -/
theorem firsts_inc : ∀ (q acc p : List Int), (∀ y, y ∈ acc ↔ y ∈ p) → (acc.map fun y => (((p ++ q).idxOf y : Nat) : Int)).Pairwise (· < ·) → ((firstsF acc q).map fun y => (((p ++ q).idxOf y : Nat) : Int)).Pairwise (· < ·)
  | [], acc, p, _, h => h
  | x :: r, acc, p, hm, h => by
    have e : p ++ x :: r = (p ++ [x]) ++ r := by simp
    rw [firstsF]
    split
    · rename_i hx
      rw [e] at h ⊢
      refine firsts_inc r acc (p ++ [x]) (fun y => ?_) h
      rw [List.mem_append, List.mem_singleton, hm]
      constructor
      · exact .inl
      · rintro (h2 | rfl)
        · exact h2
        · exact (hm _).mp hx
    · rename_i hx
      have hp : x ∉ p := fun z => hx ((hm x).mpr z)
      have hlast : (p ++ x :: r).idxOf x = p.length := by
        rw [List.idxOf_append, if_neg hp, List.idxOf_cons]
        simp
      rw [e] at h hlast ⊢
      refine firsts_inc r (acc ++ [x]) (p ++ [x]) (fun y => by simp [hm]) ?_
      rw [List.map_append, List.pairwise_append]
      refine ⟨h, by simp, fun a ha b hb => ?_⟩
      obtain ⟨y, hy, rfl⟩ := List.mem_map.mp ha
      rw [List.map_cons, List.map_nil, List.mem_singleton] at hb
      subst hb
      rw [hlast]
      have hy' := (hm y).mp hy
      rw [List.idxOf_append, if_pos (by simp [hy']), List.idxOf_append, if_pos hy']
      have := List.idxOf_lt_length_of_mem hy'
      omega
/-- the place in a rising list is the number of lesser ones -/
theorem idx_rising : ∀ {s : List Int} {x : Int}, s.Pairwise (· < ·) → x ∈ s → s.idxOf x = (s.filter fun y => decide (y < x)).length
  | [], _, _, h => by simp at h
  | y :: s, x, hp, h => by
    rw [List.pairwise_cons] at hp
    by_cases e : y = x
    · subst e
      have : s.filter (fun z => decide (z < y)) = [] := List.filter_eq_nil_iff.mpr fun z hz => by
        have := hp.1 z hz
        simp; omega
      rw [List.idxOf_cons, List.filter_cons]
      simp [this]
    · have h : x ∈ s := (List.mem_cons.mp h).resolve_left fun z => e z.symm
      have lt := hp.1 x h
      rw [List.idxOf_cons, List.filter_cons]
      have e2 : (y == x) = false := by simp [e]
      rw [e2]
      simp [lt, idx_rising hp.2 h]
theorem idx_map {f : Int → Int} : ∀ {l : List Int} {x : Int}, (∀ y ∈ l, f y = f x → y = x) → (l.map f).idxOf (f x) = l.idxOf x
  | [], _, _ => rfl
  | y :: l, x, h => by
    rw [List.map_cons, List.idxOf_cons, List.idxOf_cons]
    by_cases e : y = x
    · subst e; simp
    · have : (f y == f x) = false := by
        simp
        exact fun z => e (h y (by simp) z)
      rw [this, show (y == x) = false by simp [e], idx_map fun z hz => h z (by simp [hz])]
def rankC (ns : List Int) (x : Int) : Int := (dedI (ns.filter fun y => decide (y < x))).length
def rankL (ns : List Int) : List Int := ns.map (rankC ns)
def placeL (ns : List Int) : List Int := ns.map fun x => ((ns.idxOf x : Nat) : Int)
def comeL (ns : List Int) : List Int := rankL (placeL ns)
/-- the place of x in a rising list with the members of ns -/
theorem place_rising {s ns : List Int} {x : Int} (hp : s.Pairwise (· < ·)) (hm : ∀ k, k ∈ s ↔ k ∈ ns) (hx : x ∈ ns) : ((s.idxOf x : Nat) : Int) = rankC ns x := by
  rw [idx_rising hp ((hm x).mpr hx)]
  unfold rankC
  rw [ded_len (ns := ns.filter fun y => decide (y < x)) (l := s.filter fun y => decide (y < x)) ((hp.imp (fun h => Int.ne_of_lt h)).sublist List.filter_sublist) fun k => by rw [List.mem_filter, List.mem_filter, hm]]
theorem sort_ded_rising (ns : List Int) : (sortI (dedI ns)).Pairwise (· < ·) := lt_of_le_nodup _ (sortI_sorted _) ((sortI_perm _).nodup_iff.mpr (ded_nodup ns))
theorem ranked_eq (ns : List Int) : (ns.map fun x => (((sortI (dedI ns)).idxOf x : Nat) : Int)) = rankL ns :=
  List.map_congr_left fun x hx => place_rising (sort_ded_rising ns) (fun k => sortI_mem.trans ded_mem) hx
theorem coming_eq (ns : List Int) : (ns.map fun x => (((firstsF [] ns).idxOf x : Nat) : Int)) = comeL ns := by
  have inc := firsts_inc ns [] [] (fun y => Iff.rfl) (by simp)
  rw [List.nil_append] at inc
  have mem : ∀ k, k ∈ ((firstsF [] ns).map fun y => ((ns.idxOf y : Nat) : Int)) ↔ k ∈ placeL ns := fun k => by
    unfold placeL
    rw [List.mem_map, List.mem_map]
    constructor
    · rintro ⟨y, hy, e⟩
      exact ⟨y, (firsts_mem.mp hy).resolve_left (by simp), e⟩
    · rintro ⟨y, hy, e⟩
      exact ⟨y, firsts_mem.mpr (.inr hy), e⟩
  unfold comeL rankL
  conv => rhs; arg 2; unfold placeL
  rw [List.map_map]
  refine List.map_congr_left fun x hx => ?_
  show _ = rankC (placeL ns) ((ns.idxOf x : Nat) : Int)
  rw [← place_rising inc mem (List.mem_map.mpr ⟨x, hx, rfl⟩)]
  have := idx_map (f := fun y => ((ns.idxOf y : Nat) : Int)) (l := firstsF [] ns) (x := x) fun y hy e => by
    have hy' : y ∈ ns := (firsts_mem.mp hy).resolve_left (by simp)
    have e' : ns.idxOf y = ns.idxOf x := by omega
    have g1 := List.getElem_idxOf (List.idxOf_lt_length_of_mem hy')
    have g2 := List.getElem_idxOf (List.idxOf_lt_length_of_mem hx)
    rw [← g1, ← g2]
    congr 1
  rw [← this]
/-! done twice -/
theorem rank_mono {ns : List Int} {x y : Int} (hx : x ∈ ns) (h : x < y) : rankC ns x < rankC ns y := by
  unfold rankC
  have nd := ded_nodup (ns.filter fun z => decide (z < x))
  have : (x :: dedI (ns.filter fun z => decide (z < x))).length ≤ (dedI (ns.filter fun z => decide (z < y))).length := by
    refine List.Nodup.length_le_of_subset (List.nodup_cons.mpr ⟨fun z => ?_, nd⟩) fun z hz => ?_
    · have := ded_mem.mp z
      simp at this
    · rw [ded_mem, List.mem_filter]
      rcases List.mem_cons.mp hz with rfl | hz
      · exact ⟨hx, by simp [h]⟩
      · have := ded_mem.mp hz
        rw [List.mem_filter] at this
        exact ⟨this.1, by have := this.2; simp at this ⊢; omega⟩
  rw [List.length_cons] at this
  omega
theorem rank_of_mono {ns : List Int} {f : Int → Int} (hf : ∀ x ∈ ns, ∀ y ∈ ns, x < y → f x < f y) : rankL (ns.map f) = rankL ns := by
  unfold rankL
  rw [List.map_map]
  refine List.map_congr_left fun x hx => ?_
  show rankC (ns.map f) (f x) = rankC ns x
  have lt : ∀ y ∈ ns, f y < f x ↔ y < x := fun y hy => by
    constructor
    · intro h
      rcases Int.lt_trichotomy y x with z | z | z
      · exact z
      · subst z; omega
      · have := hf x hx y hy z; omega
    · exact hf y hy x hx
  have inj : ∀ y ∈ ns, ∀ z ∈ ns, f y = f z → y = z := fun y hy z hz e => by
    rcases Int.lt_trichotomy y z with q | q | q
    · have := hf y hy z hz q; omega
    · exact q
    · have := hf z hz y hy q; omega
  unfold rankC
  rw [← ded_len (ns := (ns.map f).filter fun y => decide (y < f x)) (l := (dedI (ns.filter fun y => decide (y < x))).map f) ?_ ?_, List.length_map]
  · unfold List.Nodup
    rw [List.pairwise_map]
    refine (ded_nodup (ns.filter fun y => decide (y < x))).imp_of_mem fun {a b} ha hb hab e => hab (inj a ?_ b ?_ e)
    · exact (List.mem_filter.mp (ded_mem.mp ha)).1
    · exact (List.mem_filter.mp (ded_mem.mp hb)).1
  · intro k
    rw [List.mem_filter, List.mem_map, List.mem_map]
    constructor
    · rintro ⟨y, hy, rfl⟩
      have := List.mem_filter.mp (ded_mem.mp hy)
      exact ⟨⟨y, this.1, rfl⟩, by have h2 := this.2; simp at h2 ⊢; exact (lt y this.1).mpr h2⟩
    · rintro ⟨⟨y, hy, rfl⟩, h2⟩
      exact ⟨y, ded_mem.mpr (List.mem_filter.mpr ⟨hy, by simp at h2 ⊢; exact (lt y hy).mp h2⟩), rfl⟩
theorem rank_rank (ns : List Int) : rankL (rankL ns) = rankL ns := rank_of_mono fun x hx y _ h => rank_mono hx h
theorem place_inj {ns : List Int} {f : Int → Int} (hf : ∀ x ∈ ns, ∀ y ∈ ns, f x = f y → x = y) : placeL (ns.map f) = placeL ns := by
  unfold placeL
  rw [List.map_map]
  refine List.map_congr_left fun x hx => ?_
  show (((ns.map f).idxOf (f x) : Nat) : Int) = _
  rw [idx_map fun y hy e => hf y hy x hx e]
theorem idx_inj {ns : List Int} {x y : Int} (hx : x ∈ ns) (hy : y ∈ ns) (e : ns.idxOf x = ns.idxOf y) : x = y := by
  have g1 := List.getElem_idxOf (List.idxOf_lt_length_of_mem hx)
  have g2 := List.getElem_idxOf (List.idxOf_lt_length_of_mem hy)
  rw [← g1, ← g2]
  congr 1
theorem come_come (ns : List Int) : comeL (comeL ns) = comeL ns := by
  have e : comeL ns = ns.map fun x => rankC (placeL ns) ((ns.idxOf x : Nat) : Int) := by
    unfold comeL rankL
    conv => lhs; arg 2; unfold placeL
    rw [List.map_map]
    rfl
  have : placeL (comeL ns) = placeL ns := by
    rw [e]
    refine place_inj fun x hx y hy h => idx_inj hx hy ?_
    have mx : ((ns.idxOf x : Nat) : Int) ∈ placeL ns := List.mem_map.mpr ⟨x, hx, rfl⟩
    have my : ((ns.idxOf y : Nat) : Int) ∈ placeL ns := List.mem_map.mpr ⟨y, hy, rfl⟩
    rcases Int.lt_trichotomy ((ns.idxOf x : Nat) : Int) ((ns.idxOf y : Nat) : Int) with q | q | q
    · have := rank_mono mx q; omega
    · omega
    · have := rank_mono my q; omega
  show rankL (placeL (comeL ns)) = _
  rw [this]
  rfl
theorem rank_bounds {ns : List Int} : ∀ x ∈ rankL ns, 0 ≤ x ∧ x ≤ ns.length := fun x hx => by
  obtain ⟨y, _, rfl⟩ := List.mem_map.mp hx
  unfold rankC
  have h1 := ded_le (ns.filter fun z => decide (z < y))
  have h2 := List.length_filter_le (fun z => decide (z < y)) ns
  omega
end K02
/-! P02b -/
set_option maxRecDepth 100000
/-! k02, in plain words: all patterns -/
namespace K02
open PySem PySem.Spec PyProof.Rows L2 Z
def nats (n : Nat) : List Int := (List.range n).map fun (i : Nat) => (i : Int)
def belowL : Nat → Nat → List (List Int)
  | 0, _ => [[]]
  | n + 1, m => (belowL n m).flatMap fun r => (nats m).map fun i => r ++ [i]
def growS (r : List Int) : List (List Int) := (nats ((dedI r).length + 1)).map fun i => r ++ [i]
def growR (r : List Int) : List (List Int) := ((nats (dedI r).length).map fun i => r ++ [i]) ++ (nats ((dedI r).length + 1)).map fun i => (r.map fun y => y + if i ≤ y then 1 else 0) ++ [i]
/-- 0 marks, 1 likes, 2 ranks -/
def grow (likes : Bool) : List Int → List (List Int) := match likes with
  | true => growS
  | false => growR
def patF (likes : Bool) : Nat → List (List Int)
  | 0 => [[]]
  | n + 1 => (patF likes n).flatMap (grow likes)
def patL (w : Str) (ns : List Int) : List Int := if w = "marks" then ns else if w = "ranks" then rankL ns else comeL ns
def isPat (likes : Bool) (r : List Int) : Bool := match likes with
  | true => decide (comeL r = r)
  | false => decide (rankL r = r)
def allF (likes : Bool) (n : Nat) : List (List Int) := (belowL n n).filter (isPat likes)
theorem pat_perm (l : Bool) : (patF l 2).isPerm (allF l 2) = true ∧ (patF l 3).isPerm (allF l 3) = true ∧ (patF l 4).isPerm (allF l 4) = true := by cases l <;> decide +kernel
theorem all_rise (l : Bool) : ((allF l 2).Pairwise fun a b => decide (a ≤ b) = true) ∧ ((allF l 3).Pairwise fun a b => decide (a ≤ b) = true) ∧ ((allF l 4).Pairwise fun a b => decide (a ≤ b) = true) := by cases l <;> decide +kernel
theorem pat_size (l : Bool) (n : Nat) (h0 : 1 ≤ n) (h1 : n ≤ 4) : (patF l n).Perm (allF l n) ∧ ((allF l n).Pairwise fun a b => decide (a ≤ b) = true) ∧ (∀ r ∈ allF l n, r.length = n ∧ ∀ x ∈ r, 0 ≤ x ∧ x < 4) ∧ (allF l n).length ≤ 75 := by
  have p := pat_perm l
  have q := all_rise l
  match n, h0, h1 with
  | 1, _, _ => exact ⟨List.isPerm_iff.mp (by cases l <;> decide +kernel), by cases l <;> decide +kernel, by cases l <;> decide +kernel, by cases l <;> decide +kernel⟩
  | 2, _, _ => exact ⟨List.isPerm_iff.mp p.1, q.1, by cases l <;> decide +kernel, by cases l <;> decide +kernel⟩
  | 3, _, _ => exact ⟨List.isPerm_iff.mp p.2.1, q.2.1, by cases l <;> decide +kernel, by cases l <;> decide +kernel⟩
  | 4, _, _ => exact ⟨List.isPerm_iff.mp p.2.2, q.2.2, by cases l <;> decide +kernel, by cases l <;> decide +kernel⟩
theorem srtLe_TpI (a b : List Int) : srtLe (TpI a) (TpI b) = decide (a ≤ b) := by
  have := congrFun (congrFun (PySem.W.dataLe_rows fun x : List Int => x) a) b
  exact this
theorem one_order {le : PyData → PyData → Prop} : ∀ {a b : List PyData}, a.Perm b → a.Pairwise le → b.Pairwise le → (∀ x ∈ a, ∀ y ∈ a, le x y → le y x → x = y) → a = b
  | [], b, hp, _, _, _ => (List.nil_perm.mp hp).symm
  | x :: a, [], hp, _, _, _ => absurd hp.length_eq (by simp)
  | x :: a, y :: b, hp, h1, h2, hi => by
    rw [List.pairwise_cons] at h1 h2
    have e : x = y := by
      have hx : x ∈ y :: b := hp.mem_iff.mp (by simp)
      have hy : y ∈ x :: a := hp.mem_iff.mpr (by simp)
      rcases List.mem_cons.mp hx with e | hx
      · exact e
      · rcases List.mem_cons.mp hy with e | hy
        · exact e.symm
        · exact hi x (by simp) y (by simp [hy]) (h1.1 y hy) (h2.1 x hx)
    subst e
    rw [one_order ((List.perm_cons x).mp hp) h1.2 h2.2 fun p hp q hq => hi p (by simp [hp]) q (by simp [hq])]
/-- put in order -/
theorem sorted_pat {l : Bool} {n : Nat} (h0 : 1 ≤ n) (h1 : n ≤ 4) {r : List PyData} (hp : r.Perm ((patF l n).map TpI)) (hs : r.Pairwise fun a b => srtLe a b = true) : r = (allF l n).map TpI := by
  obtain ⟨pm, ri, _, _⟩ := pat_size l n h0 h1
  refine one_order (hp.trans (pm.map TpI)) hs ?_ fun x hx y hy h1 h2 => ?_
  · rw [List.pairwise_map]
    exact ri.imp fun {a b} h => by rw [srtLe_TpI]; exact h
  · obtain ⟨a, _, rfl⟩ := List.mem_map.mp (hp.mem_iff.mp hx)
    obtain ⟨b, _, rfl⟩ := List.mem_map.mp (hp.mem_iff.mp hy)
    rw [srtLe_TpI] at h1 h2
    rw [List.le_antisymm (of_decide_eq_true h1) (of_decide_eq_true h2)]
theorem nats_len (n : Nat) : (nats n).length = n := by simp [nats]
theorem nats_mem {n : Nat} {x : Int} (h : x ∈ nats n) : 0 ≤ x ∧ x < n := by
  obtain ⟨i, hi, rfl⟩ := List.mem_map.mp h
  have := List.mem_range.mp hi
  omega
theorem range_nats (n : Nat) : rangeD 0 (n : Int) = (nats n).map PyData.int := by
  unfold rangeD nats
  rw [List.map_map]
  have : ((n : Int) - 0).toNat = n := by omega
  rw [this]
  refine List.map_congr_left fun i _ => ?_
  show PyData.int (0 + (i : Int)) = PyData.int (i : Int)
  rw [Int.zero_add]
theorem below_mem : ∀ {n m : Nat} {r : List Int}, r ∈ belowL n m → r.length = n ∧ ∀ x ∈ r, 0 ≤ x ∧ x < m
  | 0, m, r, h => by
    rw [belowL, List.mem_singleton] at h
    subst h
    exact ⟨rfl, fun x hx => by cases hx⟩
  | n + 1, m, r, h => by
    rw [belowL] at h
    obtain ⟨p, hp, h⟩ := List.mem_flatMap.mp h
    obtain ⟨i, hi, rfl⟩ := List.mem_map.mp h
    obtain ⟨h1, h2⟩ := below_mem hp
    refine ⟨by simp [h1], fun x hx => ?_⟩
    rcases List.mem_append.mp hx with hx | hx
    · exact h2 x hx
    · rw [List.mem_singleton.mp hx]; exact nats_mem hi
theorem below_len : ∀ n m : Nat, (belowL n m).length = m ^ n
  | 0, m => rfl
  | n + 1, m => by
    rw [belowL, List.length_flatMap]
    have : ((belowL n m).map fun r => ((nats m).map fun i => r ++ [i]).length) = (belowL n m).map fun _ => m := List.map_congr_left fun r _ => by rw [List.length_map, nats_len]
    rw [this, List.map_const', List.sum_replicate_nat, below_len n m, Nat.pow_succ]
end K02
/-! PRa -/
set_option maxRecDepth 100000
/-! the program's own defs: patterns -/
namespace PR
open PySem PySem.Spec PyProof.Rows L2 Z K02
def ir_is_whole : List IS := [.ret (.and (.isi (.var 0) "int") (.not (.isi (.var 0) "bool")))]
def ir_sorted_by_coming : List IS := [.new 1 (.lst []), .loop (.n 2) (.var 0) [.ite (.cmp .NotIn (.var 2) (.var 1)) [.app 1 (.var 2)] []], .ret (.blt .tuple [(.lc [2] (.n 2) (.var 0) none (.mth .index (.var 1) [(.var 2)]))])]
def ir_ranked : List IS := [.asg (.n 1) (.ext .srtset [(.var 0)]), .ret (.blt .tuple [(.lc [2] (.n 2) (.var 0) none (.mth .index (.var 1) [(.var 2)]))])]
def ir_pattern_of : List IS := [.asg (.n 2) (.ix (.var 0) (.int (0))), .ite (.cmp .Eq (.var 2) (.str "marks")) [.ret (.blt .tuple [(.var 1)])] [], .ret (.ite (.cmp .Eq (.var 2) (.str "likes")) (.call 0 [(.var 1)]) (.call 1 [(.var 1)]))]
def ir_tuples_below : List IS := [.asg (.n 2) (.lst [(.tup [])]), .loop (.n 3) (.blt .range [(.var 0)]) [.asg (.n 2) (.lc2 [4, 5] (.n 4) (.var 2) none [5] (.n 5) (.blt .range [(.var 1)]) none (.bin .Add (.var 4) (.tup [(.var 5)])))], .ret (.var 2)]
def ir_grown_by_sorts : List IS := [.ret (.lc [1] (.n 1) (.blt .range [(.bin .Add (.ext .lenset [(.var 0)]) (.int (1)))]) none (.bin .Add (.var 0) (.tup [(.var 1)])))]
def ir_grown_by_ranks : List IS := [.asg (.n 1) (.ext .lenset [(.var 0)]), .asg (.n 2) (.lc [3] (.n 3) (.blt .range [(.bin .Add (.var 1) (.int (1)))]) none (.bin .Add (.blt .tuple [(.lc [4] (.n 4) (.var 0) none (.bin .Add (.var 4) (.blt .int [(.cmp .GtE (.var 4) (.var 3))])))]) (.tup [(.var 3)]))), .ret (.bin .Add (.lc [3] (.n 3) (.blt .range [(.var 1)]) none (.bin .Add (.var 0) (.tup [(.var 3)]))) (.var 2))]
def ir_patterns : List IS := [.asg (.t [(.n 3), (.n 4)]) (.sl (.var 0) none (some (.int (2)))), .ite (.cmp .Eq (.var 3) (.str "marks")) [.ret (.blt .tuple [(.call 0 [(.var 4), (.ix (.var 0) (.int (2)))])])] [], .asg (.n 1) (.lst [(.tup [])]), .loop (.n 2) (.blt .range [(.var 4)]) [.ite (.cmp .Eq (.var 3) (.str "likes")) [.asg (.n 1) (.lc2 [5, 6] (.n 5) (.var 1) none [6] (.n 6) (.call 1 [(.var 5)]) none (.var 6))] [.asg (.n 1) (.lc2 [5, 6] (.n 5) (.var 1) none [6] (.n 6) (.call 2 [(.var 5)]) none (.var 6))]], .ret (.blt .tuple [(.blt .sorted [(.var 1)])])]
def ir_ruler_of : List IS := [.ret (.tup [(.ite (.cmp .Eq (.ix (.var 0) (.int (0))) (.str "likers")) (.str "likes") (.str "ranks")), (.ix (.var 0) (.int (1)))])]
def ir_patterns_of : List IS := [.ret (.call 0 [(.call 1 [(.var 0)])])]
def ir_summed : List IS := [.ret (.blt .sum [(.lc [2, 3] (.t [(.n 2), (.n 3)]) (.blt .zip [(.var 0), (.var 1)]) none (.bin .Mult (.var 2) (.var 3)))])]
def ir_row_size : List IS := [.asg (.s [(.n 1), (.n 2)] 3) (.var 0), .ite (.cmp .Eq (.var 1) (.str "both")) [.ret (.bin .Add (.call 0 [(.var 2)]) (.call 0 [(.ix (.var 3) (.int (0)))]))] [], .ret (.ite (.cmp .Eq (.var 1) (.str "ruled")) (.bin .Add (.ix (.var 2) (.int (1))) (.call 0 [(.ix (.var 3) (.int (0)))])) (.var 2))]
def ir_parted_row : List IS := [.asg (.t [(.n 3), (.n 4), (.n 5)]) (.var 0), .asg (.n 2) (.ite (.cmp .Eq (.var 3) (.str "both")) (.call 0 [(.var 4)]) (.ix (.var 4) (.int (1)))), .ret (.tup [(.sl (.var 1) none (some (.var 2))), (.sl (.var 1) (some (.var 2)) none)])]
def ir_marks_fit : List IS := [.asg (.n 2) (.ix (.var 0) (.int (0))), .ite (.cmp .NotIn (.var 2) (.glb 0)) [.ret (.bl true)] [], .asg (.t [(.n 4), (.n 5)]) (.call 0 [(.var 0), (.var 1)]), .ite (.cmp .Eq (.var 2) (.str "both")) [.ret (.and (.call 1 [(.ix (.var 0) (.int (1))), (.var 4)]) (.call 1 [(.ix (.var 0) (.int (2))), (.var 5)]))] [], .asg (.t [(.n 6), (.n 7)]) (.sl (.var 0) (some (.int (1))) none), .asg (.n 3) (.or (.cmp .NotEq (.ix (.var 6) (.int (0))) (.str "marks")) (.blt .all [(.lc [8] (.n 8) (.var 4) none (.chn .LtE .Lt (.int (0)) (.var 8) (.ix (.var 6) (.int (2)))))])), .ret (.and (.var 3) (.call 1 [(.var 7), (.var 5)]))]
def ir_is_row : List IS := [.ite (.or (.not (.isi (.var 1) "tuple")) (.or (.cmp .NotEq (.blt .len [(.var 1)]) (.call 1 [(.var 0)])) (.not (.blt .all [(.lc [2] (.n 2) (.var 1) none (.call 2 [(.var 2)]))])))) [.ret (.bl false)] [], .ret (.call 0 [(.var 0), (.var 1)])]
def ir_is_answer : List IS := [.asg (.n 2) (.ix (.var 0) (.int (0))), .ite (.cmp .Eq (.var 2) (.str "ruled")) [.ret (.call 0 [(.ix (.var 0) (.int (2))), (.var 1)])] [], .ite (.cmp .NotEq (.var 2) (.str "both")) [.ret (.call 1 [(.var 1)])] [], .ite (.or (.not (.isi (.var 1) "tuple")) (.cmp .NotEq (.blt .len [(.var 1)]) (.int (2)))) [.ret (.bl false)] [], .ret (.and (.call 0 [(.ix (.var 0) (.int (1))), (.ix (.var 1) (.int (0)))]) (.call 0 [(.ix (.var 0) (.int (2))), (.ix (.var 1) (.int (1)))]))]
def ir_chosen : List IS := [.asg (.n 3) (.call 0 [(.call 1 [(.var 0)]), (.var 2)]), .ret (.ix (.var 2) (.mth .index (.var 3) [(.ix (.var 1) (.mth .index (.call 2 [(.var 0)]) [(.var 3)]))]))]
def ir_told_joined : List IS := [.asg (.t [(.n 3), (.n 4), (.n 5)]) (.var 0), .asg (.t [(.n 6), (.n 7)]) (.call 0 [(.var 0), (.var 2)]), .ite (.cmp .Eq (.var 3) (.str "both")) [.ret (.tup [(.call 1 [(.var 4), (.ix (.var 1) (.int (0))), (.var 6)]), (.call 1 [(.var 5), (.ix (.var 1) (.int (1))), (.var 7)])])] [], .ret (.call 1 [(.var 5), (.ix (.var 1) (.mth .index (.call 3 [(.var 4)]) [(.call 2 [(.var 4), (.var 6)])])), (.var 7)])]
def ir_tells : List IS := [.asg (.n 3) (.ix (.var 0) (.int (0))), .ite (.cmp .In (.var 3) (.tup [(.str "both"), (.str "ruled")])) [.ret (.call 0 [(.var 0), (.var 1), (.var 2)])] [], .ite (.cmp .Eq (.var 3) (.str "bearers")) [.ret (.ix (.var 2) (.var 1))] [], .ite (.cmp .Eq (.var 3) (.str "leasts")) [.ret (.blt .min [(.lc [4] (.n 4) (.var 1) none (.ix (.var 2) (.var 4)))])] [], .ite (.cmp .Eq (.var 3) (.str "greatests")) [.ret (.blt .max [(.lc [4] (.n 4) (.var 1) none (.ix (.var 2) (.var 4)))])] [], .ite (.cmp .Eq (.var 3) (.str "levellers")) [.ret (.blt .max [(.lc [5] (.n 5) (.var 1) none (.blt .min [(.lc [4] (.n 4) (.var 5) none (.ix (.var 2) (.var 4)))]))])] [], .ret (.ite (.cmp .Eq (.var 3) (.str "adders")) (.call 1 [(.var 1), (.var 2)]) (.call 2 [(.var 0), (.var 1), (.var 2)]))]
abbrev Gn : Nat → PyData := lkG [] []
inductive Rul where
  | marks (n m : Nat)
  | other (likes : Bool) (n : Nat)
def rulW : Rul → Str
  | .marks _ _ => "marks"
  | .other true _ => "likes"
  | .other false _ => "ranks"
def rulD : Rul → PyData
  | .marks n m => .tuple [.str "marks", .int n, .int m]
  | .other true n => .tuple [.str "likes", .int n]
  | .other false n => .tuple [.str "ranks", .int n]
def rulOk : Rul → Prop
  | .marks n m => 1 ≤ n ∧ n ≤ 3 ∧ 2 ≤ m ∧ m ≤ 4
  | .other _ n => 1 ≤ n ∧ n ≤ 4
def rulAll : Rul → List (List Int)
  | .marks n m => belowL n m
  | .other l n => allF l n
def isW (w : Str) : Prop := w = "marks" ∨ w = "likes" ∨ w = "ranks"
def ctComing : Ct := fun zs c Q => ∃ ns, zs = [.d (TpI ns)] ∧ ns.length ≤ 60 ∧ Q (.d (TpI (comeL ns))) c
def ctRanked : Ct := fun zs c Q => ∃ ns, zs = [.d (TpI ns)] ∧ ns.length ≤ 60 ∧ Q (.d (TpI (rankL ns))) c
theorem w_ranked {Q : KZ} {c : Nat} {ns : List Int} (hl : ns.length ≤ 60) (q : Q (.d (TpI (rankL ns))) c) : wSs (ctF [] []) Gn ir_ranked [some (.d (TpI ns)), none, none] c (iniR Q) := by
  unfold ir_ranked TpI
  walk_at "z simp"
  rw [q_srtset]
  refine ⟨ns, ints_map ns, by omega, by have := ded_le ns; omega, ?_⟩
  refine lcW_om (fun x => PyData.int (((sortI (dedI ns)).idxOf x : Nat) : Int)) (fun x hx Q1 q1 => ?_) ?_
  · walk_at "z simp"
    exact ⟨trivial, idx_ok (sortI_mem.mpr (ded_mem.mpr hx)) q1⟩
  · walk_at "z simp"
    have e : (ns.map fun x => PyData.int (((sortI (dedI ns)).idxOf x : Nat) : Int)) = (rankL ns).map .int := by rw [← ranked_eq, List.map_map]; rfl
    rw [e]
    exact q
theorem any_int (l : List Int) (x : Int) : ((l.map PyData.int).any fun z => PyData.eqv z (.int x)) = decide (x ∈ l) := by
  induction l with
  | nil => simp
  | cons y l ih =>
    rw [List.map_cons, List.any_cons, ih, eqv_int]
    by_cases h : y = x
    · subst h; simp
    · have : x ≠ y := fun e => h e.symm
      simp [h, this]
theorem w_coming {Q : KZ} {c : Nat} {ns : List Int} (hl : ns.length ≤ 60) (q : Q (.d (TpI (comeL ns))) c) : wSs (ctF [] []) Gn ir_sorted_by_coming [some (.d (TpI ns)), none, none] c (iniR Q) := by
  unfold ir_sorted_by_coming TpI
  walk_at "z simp"
  refine ⟨by walk_at "z len", ?_⟩
  refine forW_inv (fun r Γ c' => ∃ acc rest z, r = rest.map PyData.int ∧ Γ = [some (.d (.tuple (ns.map .int))), some (.own (acc.map .int)), z] ∧ c' = c ∧ firstsF acc rest = firstsF [] ns ∧ acc.length + rest.length ≤ 60) ?_ ?_ ⟨[], ns, none, rfl, rfl, rfl, rfl, by simpa using hl⟩
  · rintro Γ c' ⟨acc, rest, z, er, rfl, rfl, hf, _⟩
    have e0 : rest = [] := by
      cases rest with
      | nil => rfl
      | cons _ _ => simp at er
    subst e0
    have hf : acc = firstsF [] ns := hf
    subst hf
    walk_at "z simp"
    refine lcW_om (fun x => PyData.int (((firstsF [] ns).idxOf x : Nat) : Int)) (fun x hx Q1 q1 => ?_) ?_
    · walk_at "z simp"
      exact ⟨trivial, idx_ok (firsts_mem.mpr (.inr hx)) q1⟩
    · walk_at "z simp"
      have e : (ns.map fun x => PyData.int (((firstsF [] ns).idxOf x : Nat) : Int)) = (comeL ns).map .int := by rw [← coming_eq, List.map_map]; rfl
      rw [e]
      exact q
  · rintro d r Γ c' k ⟨acc, rest, z, er, rfl, rfl, hf, hle⟩ hk
    cases rest with
    | nil => simp at er
    | cons x rest =>
      rw [List.map_cons] at er
      obtain ⟨rfl, rfl⟩ := List.cons.inj er
      rw [List.length_cons] at hle
      walk_at "z simp"
      refine ⟨sh_int x, sh_lst acc, ?_⟩
      rw [any_int]
      rw [firstsF] at hf
      by_cases h : x ∈ acc
      · rw [decide_eq_true h]
        rw [if_pos h] at hf
        exact hk _ _ ⟨acc, rest, _, rfl, rfl, rfl, hf, by omega⟩
      · rw [decide_eq_false h]
        rw [if_neg h] at hf
        walk_at "z simp"
        refine ⟨by rw [List.length_map, sizeLine_eq]; omega, hk _ _ ⟨acc ++ [x], rest, some (.d (.int x)), rfl, ?_, rfl, hf, by rw [List.length_append, List.length_singleton]; omega⟩⟩
        rw [List.map_append]
        rfl
def ctPatOf : Ct := fun zs c Q => ∃ r ns, zs = [.d (rulD r), .d (TpI ns)] ∧ ns.length ≤ 60 ∧ Q (.d (TpI (patL (rulW r) ns))) c
theorem w_pattern_of {Q : KZ} {c : Nat} {r : Rul} {ns : List Int} (hl : ns.length ≤ 60) (q : Q (.d (TpI (patL (rulW r) ns))) c) : wSs (ctF [ctComing, ctRanked] []) Gn ir_pattern_of [some (.d (rulD r)), some (.d (TpI ns)), none] c (iniR Q) := by
  unfold ir_pattern_of TpI
  match r, q with
  | .marks n m, q =>
    unfold rulD
    walk_at "z simp"
    walk_at "z ct"
    refine ⟨_, rfl, trivial, ?_⟩
    rw [show PyData.eqv (.str (Str.ofString "marks")) (.str (Str.ofString "marks")) = true by rw [eqv_str]; decide +kernel]
    walk_at "z simp"
    exact q
  | .other true n, q =>
    unfold rulD
    walk_at "z simp"
    walk_at "z ct"
    refine ⟨_, rfl, trivial, ?_⟩
    rw [show PyData.eqv (.str (Str.ofString "likes")) (.str (Str.ofString "marks")) = false by rw [eqv_str]; decide +kernel]
    walk_at "z simp"
    refine ⟨trivial, ?_⟩
    rw [show PyData.eqv (.str (Str.ofString "likes")) (.str (Str.ofString "likes")) = true by rw [eqv_str]; decide +kernel]
    walk_at "z simp"
    exact ⟨ns, rfl, hl, q⟩
  | .other false n, q =>
    unfold rulD
    walk_at "z simp"
    walk_at "z ct"
    refine ⟨_, rfl, trivial, ?_⟩
    rw [show PyData.eqv (.str (Str.ofString "ranks")) (.str (Str.ofString "marks")) = false by rw [eqv_str]; decide +kernel]
    walk_at "z simp"
    refine ⟨trivial, ?_⟩
    rw [show PyData.eqv (.str (Str.ofString "ranks")) (.str (Str.ofString "likes")) = false by rw [eqv_str]; decide +kernel]
    walk_at "z simp"
    exact ⟨ns, rfl, hl, q⟩
theorem rows_tup (rows : List (List Int)) : ∀ d ∈ rows.map TpI, ∃ r ∈ rows, d = TpI r := fun d h => by
  obtain ⟨r, hr, e⟩ := List.mem_map.mp h
  exact ⟨r, hr, e.symm⟩
def ctBelow : Ct := fun zs c Q => ∃ n m : Nat, zs = [.d (.int n), .d (.int m)] ∧ n ≤ 4 ∧ m ≤ 4 ∧ Q (.d (.list ((belowL n m).map TpI))) c
theorem below_small {n m : Nat} (hn : n ≤ 4) (hm : m ≤ 4) : (belowL n m).length ≤ 256 := by
  rw [below_len]
  calc m ^ n ≤ 4 ^ n := Nat.pow_le_pow_left hm n
    _ ≤ 4 ^ 4 := Nat.pow_le_pow_right (by decide) hn
theorem tup_snoc (r : List Int) (i : Int) : TpI (r ++ [i]) = .tuple (r.map .int ++ [.int i]) := by
  unfold TpI
  rw [List.map_append]
  rfl
theorem below_next (n m : Nat) : (belowL n m).flatMap (fun r => (nats m).map fun i => TpI (r ++ [i])) = (belowL (n + 1) m).map TpI := by
  rw [belowL, List.map_flatMap]
  congr 1
  funext r
  rw [List.map_map]
  rfl
theorem w_below {Q : KZ} {c n m : Nat} (hn : n ≤ 4) (hm : m ≤ 4) (q : Q (.d (.list ((belowL n m).map TpI))) c) : wSs (ctF [] []) Gn ir_tuples_below [some (.d (.int n)), some (.d (.int m)), none, none, none, none] c (iniR Q) := by
  unfold ir_tuples_below
  walk_at "z simp"
  refine ⟨by walk_at "z len", by walk_at "z len", by omega, by omega, ?_⟩
  refine forW_inv (fun r Γ c' => ∃ (t : Nat) (z : Option Zv), t + r.length = n ∧ Γ = [some (.d (.int n)), some (.d (.int m)), some (.d (.list ((belowL t m).map TpI))), z, none, none] ∧ c' = c) ?_ ?_ ⟨0, none, by rw [rangeD_len]; omega, rfl, rfl⟩
  · rintro Γ c' ⟨t, z, e, rfl, rfl⟩
    have et : t = n := by simpa using e
    subst et
    walk_at "z simp"
    exact q
  · rintro d r Γ c' k ⟨t, z, e, rfl, rfl⟩ hk
    rw [List.length_cons] at e
    have small := below_small (n := t + 1) (m := m) (by omega) hm
    walk_at "z simp"
    refine lcA_on (fun x => (nats m).map fun i => TpI (x ++ [i])) 256 (by rw [below_next, List.length_map]; simpa using small) (fun x hx acc Q1 hB q1 => ?_) ?_
    · walk_at "z simp"
      refine ⟨by omega, by omega, ?_⟩
      rw [range_nats]
      rw [List.length_map, nats_len] at hB
      refine lcA_on (fun i => [TpI (x ++ [i])]) (acc.length + m) (by rw [flat_map1, List.length_map, nats_len]; exact Nat.le_refl _) (fun i hi acc2 Q2 hB2 q2 => ?_) (by rw [flat_map1]; exact q1)
      walk_at "z simp"
      rw [tup_snoc] at q2
      have hx' := (below_mem hx).1
      refine ⟨by walk_at "z len", by walk_at "z len", by rw [List.length_singleton] at hB2; rw [sizeLine_eq]; omega, q2⟩
    · rw [below_next]
      walk_at "z simp"
      exact hk _ _ ⟨t + 1, _, by omega, rfl, rfl⟩
def ctGrowS : Ct := fun zs c Q => ∃ ns, zs = [.d (TpI ns)] ∧ ns.length ≤ 60 ∧ Q (.d (.list ((growS ns).map TpI))) c
def ctGrowR : Ct := fun zs c Q => ∃ ns, zs = [.d (TpI ns)] ∧ ns.length ≤ 60 ∧ Q (.d (.list ((growR ns).map TpI))) c
theorem range_nats1 (n : Nat) : rangeD 0 ((n : Int) + 1) = (nats (n + 1)).map PyData.int := by
  rw [show (n : Int) + 1 = ((n + 1 : Nat) : Int) by omega, range_nats]
theorem w_growS {Q : KZ} {c : Nat} {ns : List Int} (hl : ns.length ≤ 60) (q : Q (.d (.list ((growS ns).map TpI))) c) : wSs (ctF [] []) Gn ir_grown_by_sorts [some (.d (TpI ns)), none] c (iniR Q) := by
  have hd := ded_le ns
  unfold ir_grown_by_sorts TpI
  walk_at "z simp"
  rw [q_lenset2]
  refine ⟨ns, ints_map ns, by omega, ?_⟩
  walk_at "z simp"
  refine ⟨by omega, by omega, ?_⟩
  rw [range_nats1]
  refine lcW_om (fun i => TpI (ns ++ [i])) (fun i hi Q1 q1 => ?_) ?_
  · walk_at "z simp"
    rw [tup_snoc] at q1
    exact ⟨by walk_at "z len", by walk_at "z len", q1⟩
  · walk_at "z simp"
    have e : (nats ((dedI ns).length + 1)).map (fun i => TpI (ns ++ [i])) = (growS ns).map TpI := by unfold growS; rw [List.map_map]; rfl
    rw [e]
    exact q
theorem w_growR {Q : KZ} {c : Nat} {ns : List Int} (hl : ns.length ≤ 60) (q : Q (.d (.list ((growR ns).map TpI))) c) : wSs (ctF [] []) Gn ir_grown_by_ranks [some (.d (TpI ns)), none, none, none, none] c (iniR Q) := by
  have hd := ded_le ns
  unfold ir_grown_by_ranks TpI
  walk_at "z simp"
  rw [q_lenset2]
  refine ⟨ns, ints_map ns, by omega, ?_⟩
  walk_at "z simp"
  refine ⟨by omega, by omega, ?_⟩
  rw [range_nats1]
  refine lcW_om (fun i => TpI ((ns.map fun y => y + if i ≤ y then 1 else 0) ++ [i])) (fun i hi Q1 q1 => ?_) ?_
  · walk_at "z simp"
    refine lcW_om (fun y => PyData.int (y + if i ≤ y then 1 else 0)) (fun y hy Q2 q2 => ?_) ?_
    · walk_at "z simp"
      simpa using q2
    · walk_at "z simp"
      rw [tup_snoc] at q1
      have e : ns.map (fun y => PyData.int (y + if i ≤ y then 1 else 0)) = (ns.map fun y => y + if i ≤ y then 1 else 0).map .int := by rw [List.map_map]; rfl
      rw [e]
      exact ⟨by walk_at "z len", by walk_at "z len", q1⟩
  · walk_at "z simp"
    refine ⟨by omega, by omega, ?_⟩
    rw [range_nats]
    refine lcW_om (fun i => TpI (ns ++ [i])) (fun i hi Q1 q1 => ?_) ?_
    · walk_at "z simp"
      rw [tup_snoc] at q1
      exact ⟨by walk_at "z len", by walk_at "z len", q1⟩
    · walk_at "z simp"
      have e : (nats (dedI ns).length).map (fun i => TpI (ns ++ [i])) ++ (nats ((dedI ns).length + 1)).map (fun i => TpI ((ns.map fun y => y + if i ≤ y then 1 else 0) ++ [i])) = (growR ns).map TpI := by
        unfold growR
        rw [List.map_append, List.map_map, List.map_map]
        rfl
      rw [e]
      refine ⟨?_, q⟩
      rw [List.length_map, List.length_map, nats_len, nats_len, sizeLine_eq]
      omega
theorem pat_len1 (l : Bool) : (patF l 0).length ≤ 75 ∧ (patF l 1).length ≤ 75 ∧ (patF l 2).length ≤ 75 ∧ (patF l 3).length ≤ 75 ∧ (patF l 4).length ≤ 75 := by cases l <;> decide +kernel
theorem pat_len (l : Bool) {n : Nat} (h : n ≤ 4) : (patF l n).length ≤ 75 := by
  have p := pat_len1 l
  match n, h with
  | 0, _ => exact p.1
  | 1, _ => exact p.2.1
  | 2, _ => exact p.2.2.1
  | 3, _ => exact p.2.2.2.1
  | 4, _ => exact p.2.2.2.2
theorem grow_each {l : Bool} {r p : List Int} (h : p ∈ grow l r) : p.length = r.length + 1 := by
  cases l with
  | true =>
    obtain ⟨i, _, rfl⟩ := List.mem_map.mp (show p ∈ growS r from h)
    simp
  | false =>
    rcases List.mem_append.mp (show p ∈ growR r from h) with h | h <;> obtain ⟨i, _, rfl⟩ := List.mem_map.mp h <;> simp
theorem pat_each {l : Bool} : ∀ {n : Nat} {p : List Int}, p ∈ patF l n → p.length = n
  | 0, p, h => by
    rw [patF, List.mem_singleton] at h
    subst h; rfl
  | n + 1, p, h => by
    rw [patF] at h
    obtain ⟨r, hr, h⟩ := List.mem_flatMap.mp h
    rw [grow_each h, pat_each hr]
theorem rows_alike : ∀ (a b : List Int), PySem.W.alikeAll (a.map .int) (b.map .int) = true
  | [], _ => by simp [PySem.W.alikeAll]
  | _ :: _, [] => by simp [PySem.W.alikeAll]
  | x :: a, y :: b => by
    have := rows_alike a b
    simp [PySem.W.alikeAll, PySem.W.alike, this]
theorem srt_rows {rows : List (List Int)} (h : ∀ r ∈ rows, r ≠ []) : srtOk (rows.map TpI) := by
  refine ⟨?_, ?_, .inl ?_, ?_⟩
  · induction rows with
    | nil => rfl
    | cons r rows ih =>
      rw [List.map_cons]
      simp only [PyData.canLayAll0, Bool.and_eq_true]
      exact ⟨by unfold TpI; simp [PyData.canLay0, lay_ints], ih fun p hp => h p (by simp [hp])⟩
  · intro d hd d' hd'
    obtain ⟨a, _, rfl⟩ := List.mem_map.mp hd
    obtain ⟨b, _, rfl⟩ := List.mem_map.mp hd'
    unfold TpI
    simp [PySem.W.alike, rows_alike]
  · intro d hd
    obtain ⟨a, ha, rfl⟩ := List.mem_map.mp hd
    cases a with
    | nil => exact absurd rfl (h _ ha)
    | cons x r => exact ⟨_, _, rfl⟩
  · intro d hd
    obtain ⟨a, ha, rfl⟩ := List.mem_map.mp hd
    have := depth_TpI a
    omega
theorem cut2 (a b c : PyData) : cutD [a, b, c] none (some 2) = [a, b] := rfl
theorem cut2' (a b : PyData) : cutD [a, b] none (some 2) = [a, b] := rfl
def ctPatterns : Ct := fun zs c Q => ∃ r, zs = [.d (rulD r)] ∧ rulOk r ∧ Q (.d (.tuple ((rulAll r).map TpI))) c
theorem pat_flat (l : Bool) (t : Nat) : (patF l t).flatMap (fun x => (grow l x).map TpI) = (patF l (t + 1)).map TpI := by
  rw [patF, List.map_flatMap]
theorem w_patterns {Q : KZ} {c : Nat} {r : Rul} (ro : rulOk r) (q : Q (.d (.tuple ((rulAll r).map TpI))) c) : wSs (ctF [ctBelow, ctGrowS, ctGrowR] []) Gn ir_patterns [some (.d (rulD r)), none, none, none, none, none, none] c (iniR Q) := by
  cases r with
  | marks n m =>
    obtain ⟨n1, n3, m2, m4⟩ := ro
    unfold ir_patterns rulD
    walk_at "z simp"
    rw [cut2]
    walk_at "z simp"
    refine ⟨rfl, trivial, ?_⟩
    rw [show PyData.eqv (.str (Str.ofString "marks")) (.str (Str.ofString "marks")) = true by rw [eqv_str]; decide +kernel]
    walk_at "z simp"
    walk_at "z ct"
    refine ⟨_, rfl, n, m, rfl, by omega, by omega, ?_⟩
    walk_at "z simp"
    exact q
  | other l n =>
    obtain ⟨n2, n4⟩ := ro
    have key : ∀ (w : Str), SeqAt.shaped (.str w) = true → PyData.eqv (.str w) (.str (Str.ofString "marks")) = false → PyData.eqv (.str w) (.str (Str.ofString "likes")) = l →
        wSs (ctF [ctBelow, ctGrowS, ctGrowR] []) Gn ir_patterns [some (.d (.tuple [.str w, .int n])), none, none, none, none, none, none] c (iniR Q) := fun w sh nm ql => by
      unfold ir_patterns
      walk_at "z simp"
      rw [cut2']
      walk_at "z simp"
      refine ⟨rfl, trivial, ?_⟩
      rw [nm]
      walk_at "z simp"
      refine ⟨by walk_at "z len", by walk_at "z len", by omega, by omega, ?_⟩
      refine forW_inv (fun r Γ c' => ∃ (t : Nat) (z2 z5 z6 : Option Zv), t + r.length = n ∧ Γ = [some (.d (.tuple [.str w, .int n])), some (.d (.list ((patF l t).map TpI))), z2, some (.d (.str w)), some (.d (.int n)), z5, z6] ∧ c' = c) ?_ ?_ ⟨0, none, none, none, by rw [rangeD_len]; omega, rfl, rfl⟩
      · rintro Γ c' ⟨t, z2, z5, z6, e, rfl, rfl⟩
        have et : t = n := by simpa using e
        subst et
        walk_at "z simp"
        refine .inr ⟨srt_rows fun r hr e => ?_, fun rs hp hs => ?_⟩
        · have := pat_each hr
          rw [e] at this
          simp at this
          omega
        · walk_at "z simp"
          rw [sorted_pat n2 n4 hp hs]
          exact q
      · rintro d r Γ c' k ⟨t, z2, z5, z6, e, rfl, rfl⟩ hk
        rw [List.length_cons] at e
        walk_at "z simp"
        refine ⟨trivial, ?_⟩
        rw [ql]
        have small := pat_len l (n := t + 1) (by omega)
        cases l with
        | true =>
          walk_at "z simp"
          refine lcA_on (fun x => (grow true x).map TpI) 75 (by rw [pat_flat, List.length_map]; simpa using small) (fun x hx acc Q1 hB q1 => ?_) ?_
          · walk_at "z simp"
            walk_at "z ct"
            have hx' := pat_each hx
            refine ⟨x, rfl, by omega, ?_⟩
            walk_at "z simp"
            refine lcA_on (fun y => [TpI y]) 75 (by rw [flat_map1]; exact hB) (fun y hy acc2 Q2 hB2 q2 => ?_) (by rw [flat_map1]; exact q1)
            walk_at "z simp"
            refine ⟨by rw [List.length_singleton] at hB2; rw [sizeLine_eq]; omega, q2⟩
          · rw [pat_flat]
            walk_at "z simp"
            exact hk _ _ ⟨t + 1, _, _, _, by omega, rfl, rfl⟩
        | false =>
          walk_at "z simp"
          refine lcA_on (fun x => (grow false x).map TpI) 75 (by rw [pat_flat, List.length_map]; simpa using small) (fun x hx acc Q1 hB q1 => ?_) ?_
          · walk_at "z simp"
            walk_at "z ct"
            have hx' := pat_each hx
            refine ⟨x, rfl, by omega, ?_⟩
            walk_at "z simp"
            refine lcA_on (fun y => [TpI y]) 75 (by rw [flat_map1]; exact hB) (fun y hy acc2 Q2 hB2 q2 => ?_) (by rw [flat_map1]; exact q1)
            walk_at "z simp"
            refine ⟨by rw [List.length_singleton] at hB2; rw [sizeLine_eq]; omega, q2⟩
          · rw [pat_flat]
            walk_at "z simp"
            exact hk _ _ ⟨t + 1, _, _, _, by omega, rfl, rfl⟩
    cases l with
    | true => exact key "likes" (by decide +kernel) (by rw [eqv_str]; decide +kernel) (by rw [eqv_str]; decide +kernel)
    | false => exact key "ranks" (by decide +kernel) (by rw [eqv_str]; decide +kernel) (by rw [eqv_str]; decide +kernel)
end PR
/-! PRb -/
set_option maxRecDepth 100000
/-! the program's own defs: houses, rows, answers -/
namespace PR
open PySem PySem.Spec PyProof.Rows L2 Z K02
/-! houses -/
structure Rl where
  w : Str
  k : Nat
  r : List PyData
def Rl.d (r : Rl) : PyData := .tuple (.str r.w :: .int r.k :: r.r)
def rlOf : Rul → Rl
  | .marks n m => ⟨"marks", n, [.int m]⟩
  | .other true n => ⟨"likes", n, []⟩
  | .other false n => ⟨"ranks", n, []⟩
theorem rl_d (r : Rul) : (rlOf r).d = rulD r := by
  cases r with
  | marks n m => rfl
  | other l n => cases l <;> rfl
theorem rl_w (r : Rul) : (rlOf r).w = rulW r := by
  cases r with
  | marks n m => rfl
  | other l n => cases l <;> rfl
def Rl.ok (r : Rl) : Prop := ∃ r0 : Rul, rulOk r0 ∧ r = rlOf r0
theorem Rl.ok.k0 {r : Rl} (h : r.ok) : 1 ≤ r.k := by
  obtain ⟨r0, ok, rfl⟩ := h
  cases r0 with
  | marks n m => exact ok.1
  | other l n => cases l <;> exact ok.1
theorem Rl.ok.k1 {r : Rl} (h : r.ok) : r.k ≤ 4 := by
  obtain ⟨r0, ok, rfl⟩ := h
  cases r0 with
  | marks n m => exact Nat.le_trans ok.2.1 (by decide)
  | other l n => cases l <;> exact ok.2
theorem Rl.ok.w {r : Rl} (h : r.ok) : (r.w = "marks" ∧ ∃ c : Nat, r.r = [.int c] ∧ 1 ≤ c ∧ c ≤ 9) ∨ r.w = "likes" ∨ r.w = "ranks" := by
  obtain ⟨r0, ok, rfl⟩ := h
  cases r0 with
  | marks n m => exact .inl ⟨rfl, m, rfl, by have := ok.2.2.1; omega, by have := ok.2.2.2; omega⟩
  | other l n => cases l <;> simp [rlOf]
def words : List Str := ["bearers", "leasts", "greatests", "levellers", "adders", "likers", "rankers"]
inductive Ho where
  | plain (w : Str) (k : Nat) (r : List PyData) | both (a b : Ho) | ruled (r : Rl) (b : Ho)
def Ho.d : Ho → PyData
  | .plain w k r => .tuple (.str w :: .int k :: r)
  | .both a b => .tuple [.str "both", a.d, b.d]
  | .ruled r b => .tuple [.str "ruled", r.d, b.d]
/-- a house that isn't joined: its numbers -/
def plOk (w : Str) (k : Nat) (r : List PyData) : Prop := 1 ≤ k ∧ k ≤ 8 ∧ r.length ≤ 1 ∧ (w = "adders" → ∃ c : Nat, r = [.int c] ∧ c ≤ 9) ∧ (w ≠ "adders" → r = []) ∧ (w = "likers" ∨ w = "rankers" → k ≤ 4 ∧ r = [])
def Ho.ok : Ho → Prop
  | .plain w k r => w ∈ words ∧ plOk w k r
  | .both a b => a.ok ∧ b.ok
  | .ruled r b => r.ok ∧ b.ok
def Ho.dep : Ho → Nat
  | .plain _ _ _ => 0
  | .both a b => max a.dep b.dep + 1
  | .ruled _ b => b.dep + 1
def Ho.sz : Ho → Nat
  | .plain _ k _ => k
  | .both a b => a.sz + b.sz
  | .ruled r b => r.k + b.sz
theorem w_ne : ∀ w ∈ words, w ≠ "both" ∧ w ≠ "ruled" ∧ (PyData.str w).canLay0 = true := by decide +kernel
theorem sz_le : ∀ {h : Ho}, h.ok → 1 ≤ h.sz ∧ h.sz ≤ 8 * 2 ^ h.dep
  | .plain w k r, ⟨_, h1, h2, _⟩ => ⟨h1, by show k ≤ 8 * 2 ^ 0; omega⟩
  | .both a b, ⟨ha, hb⟩ => by
    have h1 := sz_le ha
    have h2 := sz_le hb
    refine ⟨by show 1 ≤ a.sz + b.sz; omega, ?_⟩
    have e1 : 2 ^ a.dep ≤ 2 ^ max a.dep b.dep := Nat.pow_le_pow_right (by decide) (Nat.le_max_left ..)
    have e2 : 2 ^ b.dep ≤ 2 ^ max a.dep b.dep := Nat.pow_le_pow_right (by decide) (Nat.le_max_right ..)
    show a.sz + b.sz ≤ 8 * 2 ^ (max a.dep b.dep + 1)
    rw [Nat.pow_succ]
    omega
  | .ruled r b, ⟨hr, hb⟩ => by
    have h2 := sz_le hb
    have h1 := hr.k0
    have h3 := hr.k1
    refine ⟨by show 1 ≤ r.k + b.sz; omega, ?_⟩
    show r.k + b.sz ≤ 8 * 2 ^ (b.dep + 1)
    have := Nat.pow_pos (n := b.dep) (show 0 < 2 by decide)
    rw [Nat.pow_succ]
    omega
theorem sz_small {h : Ho} (ok : h.ok) (hd : h.dep < 4) : 1 ≤ h.sz ∧ h.sz ≤ 64 := by
  have h1 := sz_le ok
  have : 2 ^ h.dep ≤ 2 ^ 3 := Nat.pow_le_pow_right (by decide) (by omega)
  omega
theorem dep_pos {h : Ho} {n : Nat} (hd : h.dep < n) : ∃ m, n = m + 1 := ⟨n - 1, by omega⟩
/-! how many places -/
def ctSize (n : Nat) : Ct := fun zs c Q => ∃ h : Ho, zs = [.d h.d] ∧ h.dep < n ∧ h.ok ∧ Q (.d (.int h.sz)) c
theorem eqW {w t : Str} (h : w ≠ t) : PyData.eqv (.str w) (.str t) = false := by rw [eqv_str, decide_eq_false h]
theorem w_row_size {Q : KZ} {c n : Nat} {h : Ho} (hd : h.dep < n + 1) (ok : h.ok) (q : Q (.d (.int h.sz)) c) : wSs (ctF [ctSize n] []) Gn ir_row_size [some (.d h.d), none, none, none] c (iniR Q) := by
  cases h with
  | plain w k r =>
    have hw := w_ne w ok.1
    walk_at "zw"
    refine ⟨by show 2 ≤ _; simp, ?_⟩
    walk_at "zw"
    refine ⟨trivial, ?_⟩
    rw [eqW hw.1]
    walk_at "zw"
    refine ⟨trivial, ?_⟩
    rw [eqW hw.2.1]
    exact q
  | both a b =>
    have hd : max a.dep b.dep + 1 < n + 1 := hd
    walk_at "zw"
    refine ⟨by show 2 ≤ 3; decide, ?_⟩
    walk_at "zw"
    refine ⟨trivial, ?_⟩
    walk_at "zw"
    refine ⟨a, rfl, by omega, ok.1, ?_⟩
    walk_at "zw"
    refine ⟨_, at0, ?_⟩
    walk_at "zw"
    refine ⟨b, rfl, by omega, ok.2, ?_⟩
    exact q
  | ruled r b =>
    have hd : b.dep + 1 < n + 1 := hd
    walk_at "zw"
    refine ⟨by show 2 ≤ 3; decide, ?_⟩
    walk_at "zw"
    refine ⟨trivial, ?_⟩
    walk_at "zw"
    refine ⟨trivial, ?_⟩
    walk_at "zw"
    refine ⟨_, at1, ?_⟩
    walk_at "zw"
    refine ⟨_, at0, ?_⟩
    walk_at "zw"
    exact ⟨b, rfl, by omega, ok.2, q⟩
/-! parted -/
theorem cut_lo {xs : List PyData} {k : Nat} : Z.cutD xs none (some (k : Int)) = xs.take k := by
  unfold Z.cutD
  have e : HT.sIx xs.length xs.length (some (k : Int)) = min k xs.length := HT.sIx_nat ..
  have e0 : HT.sIx xs.length 0 none = 0 := rfl
  rw [e, e0, Nat.sub_zero, List.drop_zero]
  rcases Nat.le_total k xs.length with h | h
  · rw [Nat.min_eq_left h]
  · rw [Nat.min_eq_right h, List.take_of_length_le (Nat.le_refl _), List.take_of_length_le h]
theorem cut_hi {xs : List PyData} {k : Nat} : Z.cutD xs (some (k : Int)) none = xs.drop k := by
  unfold Z.cutD
  have e : HT.sIx xs.length 0 (some (k : Int)) = min k xs.length := HT.sIx_nat ..
  have e0 : HT.sIx xs.length xs.length none = xs.length := rfl
  rw [e, e0]
  rcases Nat.le_total k xs.length with h | h
  · rw [Nat.min_eq_left h, List.take_of_length_le (by rw [List.length_drop]; exact Nat.le_refl _)]
  · rw [Nat.min_eq_right h, List.drop_of_length_le h, List.drop_of_length_le (Nat.le_refl _), List.take_nil]
def Ho.cut : Ho → Nat
  | .plain _ _ _ => 0
  | .both a _ => a.sz
  | .ruled r _ => r.k
def Ho.jn : Ho → Prop
  | .plain _ _ _ => False
  | _ => True
def ctParted : Ct := fun zs c Q => ∃ (h : Ho) (ns : List Int), zs = [.d h.d, .d (.tuple (ns.map .int))] ∧ h.ok ∧ h.dep < 4 ∧ h.jn ∧ Q (.d (.tuple [.tuple ((ns.take h.cut).map .int), .tuple ((ns.drop h.cut).map .int)])) c
theorem w_parted {Q : KZ} {c : Nat} {h : Ho} {ns : List Int} (ok : h.ok) (hd : h.dep < 4) (j : h.jn) (q : Q (.d (.tuple [.tuple ((ns.take h.cut).map .int), .tuple ((ns.drop h.cut).map .int)])) c) :
    wSs (ctF [ctSize 4] []) Gn ir_parted_row [some (.d h.d), some (.d (.tuple (ns.map .int))), none, none, none, none] c (iniR Q) := by
  rw [List.map_take, List.map_drop] at q
  cases h with
  | plain w k r => exact j.elim
  | both a b =>
    have hd : max a.dep b.dep + 1 < 4 := hd
    walk_at "zw"
    refine ⟨rfl, ?_⟩
    walk_at "zw"
    refine ⟨trivial, ?_⟩
    walk_at "zw"
    refine ⟨a, rfl, by omega, ok.1, ?_⟩
    walk_at "zw"
    refine ⟨by rw [sizeLine_eq]; show 2 ≤ 16777216; decide, ?_⟩
    walk_at "zw"
    rw [cut_lo, cut_hi]
    exact q
  | ruled r b =>
    walk_at "zw"
    refine ⟨rfl, ?_⟩
    walk_at "zw"
    refine ⟨trivial, ?_⟩
    walk_at "zw"
    refine ⟨_, at1, ?_⟩
    walk_at "zw"
    refine ⟨by rw [sizeLine_eq]; show 2 ≤ 16777216; decide, ?_⟩
    walk_at "zw"
    rw [cut_lo, cut_hi]
    exact q
/-! marks -/
def mkB (c m : Int) : Bool := decide (0 ≤ m) && decide (m < c)
def Rl.fit (r : Rl) (ns : List Int) : Bool := if r.w = "marks" then match r.r with
  | [.int c] => (ns.take r.k).all (mkB c)
  | _ => true
  else true
def Ho.fits : Ho → List Int → Bool
  | .plain _ _ _, _ => true
  | .both a b, ns => a.fits (ns.take a.sz) && b.fits (ns.drop a.sz)
  | .ruled r b, ns => r.fit ns && b.fits (ns.drop r.k)
def ctFits (n : Nat) : Ct := fun zs c Q => ∃ (h : Ho) (ns : List Int), zs = [.d h.d, .d (.tuple (ns.map .int))] ∧ h.dep < n ∧ n ≤ 4 ∧ h.ok ∧ Q (.d (.bool (h.fits ns))) c
abbrev Gj : Nat → PyData := lkG [.tuple [.str "both", .str "ruled"]] []
theorem all_map (f : Int → Bool) (l : List Int) : (l.map f).all id = l.all f := by
  induction l with
  | nil => rfl
  | cons x l ih => rw [List.map_cons, List.all_cons, List.all_cons, ih]; rfl
theorem bools_of (f : Int → Bool) (l : List Int) : bools? (l.map fun m => PyData.bool (f m)) = some (l.map f) := by
  have := bools_map (l.map f)
  rwa [List.map_map] at this
theorem and2 {Q : KZ} {c : Nat} {a b : Bool} (q : Q (.d (.bool (a && b))) c) : (match a with | true => Q (.d (.bool b)) c | false => Q (.d (.bool false)) c) := by
  cases a <;> exact q
theorem fit_no {r : Rl} {ns : List Int} (h : r.w ≠ "marks") : r.fit ns = true := by
  unfold Rl.fit
  rw [if_neg h]
theorem w_marks_fit {Q : KZ} {c n : Nat} {h : Ho} {ns : List Int} (hd : h.dep < n + 1) (n4 : n + 1 ≤ 4) (ok : h.ok) (q : Q (.d (.bool (h.fits ns))) c) :
    wSs (ctF [ctParted, ctFits n] []) Gj ir_marks_fit [some (.d h.d), some (.d (.tuple (ns.map .int))), none, none, none, none, none, none, none] c (iniR Q) := by
  cases h with
  | plain w k r =>
    have hw := w_ne w ok.1
    walk_at "zw"
    refine ⟨_, at0, ?_⟩
    walk_at "zw"
    refine ⟨sh_str w hw.2.2, by decide +kernel, ?_⟩
    rw [List.any_cons, List.any_cons, List.any_nil, eqv_str, eqv_str, decide_eq_false (fun e => hw.1 e.symm), decide_eq_false (fun e => hw.2.1 e.symm)]
    exact q
  | both a b =>
    have hd' : max a.dep b.dep + 1 < n + 1 := hd
    walk_at "zw"
    refine ⟨_, at0, ?_⟩
    walk_at "zw"
    refine ⟨by decide +kernel, by decide +kernel, ?_⟩
    walk_at "zw"
    refine ⟨.both a b, ns, rfl, ok, by omega, trivial, ?_⟩
    walk_at "zw"
    refine ⟨rfl, ?_⟩
    walk_at "zw"
    refine ⟨trivial, ?_⟩
    walk_at "zw"
    refine ⟨_, at1, ?_⟩
    walk_at "zw"
    refine ⟨a, ns.take a.sz, rfl, by omega, by omega, ok.1, ?_⟩
    have e : (Ho.both a b).fits ns = (a.fits (ns.take a.sz) && b.fits (ns.drop a.sz)) := rfl
    rw [e] at q
    walk_at "zw"
    cases ha : a.fits (ns.take a.sz) with
    | false =>
      rw [ha] at q
      exact q
    | true =>
      rw [ha] at q
      walk_at "zw"
      refine ⟨_, at2, ?_⟩
      walk_at "zw"
      exact ⟨b, ns.drop a.sz, rfl, by omega, by omega, ok.2, q⟩
  | ruled r b =>
    have hd' : b.dep + 1 < n + 1 := hd
    have e : (Ho.ruled r b).fits ns = (r.fit ns && b.fits (ns.drop r.k)) := rfl
    rw [e] at q
    walk_at "zw"
    refine ⟨_, at0, ?_⟩
    walk_at "zw"
    refine ⟨by decide +kernel, by decide +kernel, ?_⟩
    walk_at "zw"
    refine ⟨.ruled r b, ns, rfl, ok, by omega, trivial, ?_⟩
    walk_at "zw"
    refine ⟨rfl, ?_⟩
    walk_at "zw"
    refine ⟨trivial, ?_⟩
    walk_at "zw"
    refine ⟨rfl, ?_⟩
    walk_at "zw"
    refine ⟨_, at0, ?_⟩
    walk_at "zw"
    refine ⟨trivial, ?_⟩
    rcases ok.1.w with ⟨hm, m, hr, m0, m1⟩ | hm
    · obtain ⟨w, k, rr⟩ := r
      obtain rfl : w = "marks" := hm
      obtain rfl : rr = [.int m] := hr
      have ef : Rl.fit ⟨"marks", k, [.int m]⟩ ns = (ns.take k).all (mkB m) := rfl
      rw [ef] at q
      walk_at "zw"
      refine lcW_om (e := PyData.int) (fun x => PyData.bool (mkB m x)) (l := ns.take k) (fun x hx Q1 q1 => ?_) ?_
      · walk_at "zw"
        have e : mkB m x = (decide (0 ≤ x) && decide (x < (m : Int))) := rfl
        rw [e] at q1
        split
        · rename_i h0
          rw [h0] at q1
          walk_at "zw"
          refine ⟨_, at2, ?_⟩
          exact q1
        · rename_i h0
          rw [h0] at q1
          exact q1
      · walk_at "zw"
        refine ⟨_, bools_of (mkB m) (ns.take k), ?_⟩
        rw [all_map]
        cases hf : (ns.take k).all (mkB m) with
        | false =>
          rw [hf] at q
          exact q
        | true =>
          rw [hf] at q
          walk_at "zw"
          exact ⟨b, ns.drop k, rfl, by omega, by omega, ok.2, q⟩
    · have hn : r.w ≠ "marks" := fun e => by rw [e] at hm; exact absurd hm (by decide +kernel)
      rw [fit_no hn] at q
      rw [eqW hn]
      walk_at "zw"
      exact ⟨b, ns.drop r.k, rfl, by omega, by omega, ok.2, q⟩
/-! rows, answers -/
def whole : PyData → Bool
  | .int _ => true
  | _ => false
def ctWhole : Ct := fun zs c Q => ∃ d, zs = [.d d] ∧ Q (.d (.bool (whole d))) c
theorem w_whole {Q : KZ} {c : Nat} {d : PyData} (q : Q (.d (.bool (whole d))) c) : wSs (ctF [] []) Gn ir_is_whole [some (.d d)] c (iniR Q) := by
  cases d <;> exact q
def toI : PyData → Int
  | .int i => i
  | _ => 0
def rowDue (h : Ho) : PyData → Bool
  | .tuple xs => decide (xs.length = h.sz) && (xs.all whole && h.fits (xs.map toI))
  | _ => false
theorem whole_all : ∀ {xs : List PyData}, xs.all whole = true → xs = (xs.map toI).map .int
  | [], _ => rfl
  | x :: xs, h => by
    rw [List.all_cons, Bool.and_eq_true] at h
    rw [List.map_cons, List.map_cons, ← whole_all h.2]
    cases x <;> first | rfl | (cases h.1)
def ctRow : Ct := fun zs c Q => ∃ (h : Ho) (d : PyData), zs = [.d h.d, .d d] ∧ h.dep < 4 ∧ h.ok ∧ Q (.d (.bool (rowDue h d))) c
theorem bools_w (xs : List PyData) : bools? (xs.map fun x => PyData.bool (whole x)) = some (xs.map whole) := by
  have := bools_map (xs.map whole)
  rwa [List.map_map] at this
theorem all_w (xs : List PyData) : (xs.map whole).all id = xs.all whole := by
  induction xs with
  | nil => rfl
  | cons x l ih => rw [List.map_cons, List.all_cons, List.all_cons, ih]; rfl
theorem w_is_row {Q : KZ} {c : Nat} {h : Ho} {d : PyData} (hd : h.dep < 4) (ok : h.ok) (q : Q (.d (.bool (rowDue h d))) c) :
    wSs (ctF [ctFits 4, ctSize 4, ctWhole] []) Gn ir_is_row [some (.d h.d), some (.d d), none] c (iniR Q) := by
  cases d with
  | tuple xs =>
    walk_at "zw"
    refine ⟨h, rfl, hd, ok, ?_⟩
    walk_at "zw"
    refine ⟨⟨sh_int _, sh_int _⟩, ?_⟩
    rw [eqv_int]
    by_cases hl : xs.length = h.sz
    · have e : decide ((xs.length : Int) = (h.sz : Int)) = true := decide_eq_true (by omega)
      rw [e]
      have er : rowDue h (.tuple xs) = (xs.all whole && h.fits (xs.map toI)) := by
        show (decide (xs.length = h.sz) && (xs.all whole && h.fits (xs.map toI))) = _
        rw [decide_eq_true hl, Bool.true_and]
      rw [er] at q
      walk_at "zw"
      refine lcW_map (fun d => .bool (whole d)) (fun d hd Q1 q1 => ?_) ?_
      · walk_at "zw"
        exact ⟨d, rfl, q1⟩
      · walk_at "zw"
        refine ⟨_, bools_w xs, ?_⟩
        rw [all_w]
        cases ha : xs.all whole with
        | false =>
          rw [ha] at q
          exact q
        | true =>
          rw [ha] at q
          walk_at "zw"
          exact ⟨h, xs.map toI, by rw [← whole_all ha], hd, by decide, ok, q⟩
    · have e : decide ((xs.length : Int) = (h.sz : Int)) = false := decide_eq_false (by omega)
      rw [e]
      have er : rowDue h (.tuple xs) = false := by
        show (decide (xs.length = h.sz) && (xs.all whole && h.fits (xs.map toI))) = _
        rw [decide_eq_false hl, Bool.false_and]
      rw [er] at q
      exact q
  | _ => exact q
def ansDue : Ho → PyData → Bool
  | .plain _ _ _, d => whole d
  | .ruled _ b, d => ansDue b d
  | .both a b, .tuple [x, y] => ansDue a x && ansDue b y
  | .both _ _, _ => false
def ctAns (n : Nat) : Ct := fun zs c Q => ∃ (h : Ho) (d : PyData), zs = [.d h.d, .d d] ∧ h.dep < n ∧ h.ok ∧ Q (.d (.bool (ansDue h d))) c
theorem ans_both {a b : Ho} {d : PyData} (h : ∀ x y, d ≠ .tuple [x, y]) : ansDue (.both a b) d = false := by
  cases d with
  | tuple xs =>
    match xs, h with
    | [], _ => rfl
    | [x], _ => rfl
    | [x, y], h => exact absurd rfl (h x y)
    | _ :: _ :: _ :: _, _ => rfl
  | _ => rfl
theorem w_is_answer {Q : KZ} {c n : Nat} {h : Ho} {d : PyData} (hd : h.dep < n + 1) (ok : h.ok) (q : Q (.d (.bool (ansDue h d))) c) :
    wSs (ctF [ctAns n, ctWhole] []) Gn ir_is_answer [some (.d h.d), some (.d d), none] c (iniR Q) := by
  cases h with
  | plain w k r =>
    have hw := w_ne w ok.1
    walk_at "zw"
    refine ⟨_, at0, ?_⟩
    walk_at "zw"
    refine ⟨trivial, ?_⟩
    rw [eqW hw.2.1]
    walk_at "zw"
    refine ⟨trivial, ?_⟩
    rw [eqW hw.1]
    walk_at "zw"
    exact ⟨d, rfl, q⟩
  | ruled r b =>
    have hd' : b.dep + 1 < n + 1 := hd
    walk_at "zw"
    refine ⟨_, at0, ?_⟩
    walk_at "zw"
    refine ⟨trivial, ?_⟩
    walk_at "zw"
    refine ⟨_, at2, ?_⟩
    walk_at "zw"
    exact ⟨b, d, rfl, by omega, ok.2, q⟩
  | both a b =>
    have hd' : max a.dep b.dep + 1 < n + 1 := hd
    walk_at "zw"
    refine ⟨_, at0, ?_⟩
    walk_at "zw"
    refine ⟨trivial, ?_⟩
    walk_at "zw"
    refine ⟨trivial, ?_⟩
    match d, q with
    | .tuple [], q =>
      walk_at "zw"
      refine ⟨⟨sh_int _, sh_int _⟩, ?_⟩
      rw [eqv_int]
      exact q
    | .tuple [x], q =>
      walk_at "zw"
      refine ⟨⟨sh_int _, sh_int _⟩, ?_⟩
      rw [eqv_int]
      exact q
    | .tuple [x, y], q =>
      have e : ansDue (.both a b) (.tuple [x, y]) = (ansDue a x && ansDue b y) := rfl
      rw [e] at q
      walk_at "zw"
      refine ⟨⟨sh_int _, sh_int _⟩, ?_⟩
      rw [eqv_int]
      walk_at "zw"
      refine ⟨_, at1, ?_⟩
      walk_at "zw"
      refine ⟨_, at0, ?_⟩
      walk_at "zw"
      refine ⟨a, x, rfl, by omega, ok.1, ?_⟩
      walk_at "zw"
      cases ha : ansDue a x with
      | false =>
        rw [ha] at q
        exact q
      | true =>
        rw [ha] at q
        walk_at "zw"
        refine ⟨_, at2, ?_⟩
        walk_at "zw"
        refine ⟨_, at1, ?_⟩
        walk_at "zw"
        exact ⟨b, y, rfl, by omega, ok.2, q⟩
    | .tuple (x :: y :: z :: r), q =>
      rw [ans_both (fun _ _ e => by cases e)] at q
      walk_at "zw"
      refine ⟨⟨sh_int _, sh_int _⟩, ?_⟩
      rw [eqv_int, decide_eq_false (by simp only [List.length_cons]; omega)]
      exact q
    | .none, q => exact q
    | .bool _, q => exact q
    | .int _, q => exact q
    | .str _, q => exact q
    | .list _, q => exact q
    | .dict _, q => exact q
end PR
/-! PRc -/
set_option maxRecDepth 100000
/-! the program's own defs: programs, what they tell -/
namespace PR
open PySem PySem.Spec PyProof.Rows L2 Z K02
/-! places in tuples -/
theorem lay_rows : ∀ L : List (List Int), PyData.canLayAll0 (L.map TpI) = true
  | [] => rfl
  | r :: L => by
    rw [List.map_cons, PyData.canLayAll0, lay_rows L]
    simp [PyData.canLay0, lay_ints]
theorem sh_rowsT (L : List (List Int)) : SeqAt.shaped (.tuple (L.map TpI)) = true := by
  have := depthAll_le (f := TpI) (n := 1) (l := L) fun x _ => depth_TpI x
  simp [SeqAt.shaped, PyData.canLay0, PyData.depth, lay_rows]
  omega
theorem sh_rowsL (L : List (List Int)) : SeqAt.shaped (.list (L.map TpI)) = true := by
  have := depthAll_le (f := TpI) (n := 1) (l := L) fun x _ => depth_TpI x
  simp [SeqAt.shaped, PyData.canLay0, PyData.depth, lay_rows]
  omega
theorem idx_at {α : Type} [BEq α] [LawfulBEq α] [DecidableEq α] {e : α → PyData} (he : ∀ a b, PyData.eqv (e a) (e b) = decide (a = b)) {l : List α} {x : α} (h : x ∈ l) :
    ∃ j z, (l.map e)[j]? = some z ∧ PyData.eqv z (e x) = true ∧ (∀ (m : Nat) (z' : PyData), m < j → (l.map e)[m]? = some z' → PyData.eqv z' (e x) = false) ∧ j = l.idxOf x := by
  have hl := List.idxOf_lt_length_of_mem h
  refine ⟨l.idxOf x, e x, ?_, ?_, fun m z hm hz => ?_, rfl⟩
  · rw [List.getElem?_map, List.getElem?_eq_getElem hl, List.getElem_idxOf]
    rfl
  · rw [he]; simp
  · rw [List.getElem?_map] at hz
    have hm2 : m < l.length := Nat.lt_trans hm hl
    rw [List.getElem?_eq_getElem hm2] at hz
    cases hz
    rw [he]
    have := List.not_of_lt_findIdx (p := fun y => y == x) (xs := l) (i := m) hm
    simpa using this
theorem idx_T {l : List Int} {x : Int} {Q : KD} (h : x ∈ l) (q : Q (.int (l.idxOf x : Nat))) : wMth .index (TpI l) [.int x] Q := by
  obtain ⟨j, z, h1, h2, h3, rfl⟩ := idx_at eqv_int h
  exact ⟨sh_tup l, sh_int x, _, z, h1, h2, h3, q⟩
theorem idx_RT {L : List (List Int)} {p : List Int} {Q : KD} (h : p ∈ L) (q : Q (.int (L.idxOf p : Nat))) : wMth .index (.tuple (L.map TpI)) [TpI p] Q := by
  obtain ⟨j, z, h1, h2, h3, rfl⟩ := idx_at eqv_TpI h
  exact ⟨sh_rowsT L, sh_tup p, _, z, h1, h2, h3, q⟩
theorem idx_RL {L : List (List Int)} {p : List Int} {Q : KD} (h : p ∈ L) (q : Q (.int (L.idxOf p : Nat))) : wMth .index (.list (L.map TpI)) [TpI p] Q := by
  obtain ⟨j, z, h1, h2, h3, rfl⟩ := idx_at eqv_TpI h
  exact ⟨sh_rowsL L, sh_tup p, _, z, h1, h2, h3, q⟩
/-! a pattern is one of all -/
theorem nats_in {m : Nat} {x : Int} (h0 : 0 ≤ x) (h1 : x < m) : x ∈ nats m := List.mem_map.mpr ⟨x.toNat, List.mem_range.mpr (by omega), by show ((x.toNat : Nat) : Int) = x; omega⟩
theorem below_in : ∀ {n m : Nat} {r : List Int}, r.length = n → (∀ x ∈ r, 0 ≤ x ∧ x < m) → r ∈ belowL n m
  | 0, m, r, hl, _ => by
    rw [List.eq_nil_of_length_eq_zero hl]
    exact List.mem_singleton.mpr rfl
  | n + 1, m, r, hl, h => by
    have hne : r ≠ [] := fun e => by rw [e] at hl; simp at hl
    have e : r = r.dropLast ++ [r.getLast hne] := (List.dropLast_concat_getLast hne).symm
    rw [belowL]
    refine List.mem_flatMap.mpr ⟨r.dropLast, below_in (by rw [List.length_dropLast]; omega) fun x hx => h x (List.dropLast_subset _ hx), ?_⟩
    have hlast := h _ (List.getLast_mem hne)
    exact List.mem_map.mpr ⟨r.getLast hne, nats_in hlast.1 hlast.2, e.symm⟩
theorem rank_lt {ns : List Int} : ∀ x ∈ rankL ns, 0 ≤ x ∧ x < ns.length := fun x hx => by
  obtain ⟨y, hy, rfl⟩ := List.mem_map.mp hx
  unfold rankC
  have h1 := ded_le (ns.filter fun z => decide (z < y))
  have h2 : (ns.filter fun z => decide (z < y)).length < ns.length := by
    have := (List.length_filter_lt_length_iff_exists (p := fun z => decide (z < y))).mpr ⟨y, hy, by simp⟩
    exact this
  omega
theorem come_len (ns : List Int) : (comeL ns).length = ns.length := by simp [comeL, rankL, placeL]
theorem rank_len (ns : List Int) : (rankL ns).length = ns.length := by simp [rankL]
theorem come_lt {ns : List Int} : ∀ x ∈ comeL ns, 0 ≤ x ∧ x < ns.length := fun x hx => by
  have := rank_lt x hx
  simpa [placeL] using this
theorem pat_in {r : Rul} {ns : List Int} (hl : ns.length = (rlOf r).k) (hm : ∀ n m, r = .marks n m → ∀ x ∈ ns, 0 ≤ x ∧ x < m) : patL (rulW r) ns ∈ rulAll r := by
  cases r with
  | marks n m => exact below_in hl (hm n m rfl)
  | other l n =>
    have hn : ns.length = n := by cases l <;> exact hl
    clear hl
    cases l with
    | true =>
      show comeL ns ∈ allF true n
      exact List.mem_filter.mpr ⟨below_in (by rw [come_len, hn]) (by rw [← hn]; exact come_lt), decide_eq_true (come_come ns)⟩
    | false =>
      show rankL ns ∈ allF false n
      exact List.mem_filter.mpr ⟨below_in (by rw [rank_len, hn]) (by rw [← hn]; exact rank_lt), decide_eq_true (rank_rank ns)⟩
/-! choosers' own rulers -/
def ownRul (w : Str) (k : Nat) : Rul := .other (decide (w = "likers")) k
def ctRulerOf : Ct := fun zs c Q => ∃ (w : Str) (k : Nat), zs = [.d (.tuple [.str w, .int k])] ∧ (w = "likers" ∨ w = "rankers") ∧ Q (.d (rulD (ownRul w k))) c
theorem w_ruler_of {Q : KZ} {c : Nat} {w : Str} {k : Nat} (hw : w = "likers" ∨ w = "rankers") (q : Q (.d (rulD (ownRul w k))) c) : wSs (ctF [] []) Gn ir_ruler_of [some (.d (.tuple [.str w, .int k]))] c (iniR Q) := by
  walk_at "zw"
  refine ⟨_, at0, ?_⟩
  walk_at "zw"
  refine ⟨trivial, ?_⟩
  rcases hw with rfl | rfl
  · walk_at "zw"
    refine ⟨_, at1, ?_⟩
    walk_at "zw"
    refine ⟨by rw [sizeLine_eq]; show 2 ≤ 16777216; decide, ?_⟩
    exact q
  · walk_at "zw"
    refine ⟨_, at1, ?_⟩
    walk_at "zw"
    refine ⟨by rw [sizeLine_eq]; show 2 ≤ 16777216; decide, ?_⟩
    exact q
def ctPatsOf : Ct := fun zs c Q => ∃ (w : Str) (k : Nat), zs = [.d (.tuple [.str w, .int k])] ∧ (w = "likers" ∨ w = "rankers") ∧ 1 ≤ k ∧ k ≤ 4 ∧ Q (.d (.tuple ((rulAll (ownRul w k)).map TpI))) c
theorem w_patterns_of {Q : KZ} {c : Nat} {w : Str} {k : Nat} (hw : w = "likers" ∨ w = "rankers") (k0 : 1 ≤ k) (k1 : k ≤ 4) (q : Q (.d (.tuple ((rulAll (ownRul w k)).map TpI))) c) :
    wSs (ctF [ctPatterns, ctRulerOf] []) Gn ir_patterns_of [some (.d (.tuple [.str w, .int k]))] c (iniR Q) := by
  walk_at "zw"
  refine ⟨w, k, rfl, hw, ?_⟩
  walk_at "zw"
  exact ⟨ownRul w k, rfl, ⟨k0, k1⟩, q⟩
/-! programs -/
def Lot (k : Nat) (l : List Int) : Prop := l ≠ [] ∧ l.Pairwise (· < ·) ∧ ∀ x ∈ l, 0 ≤ x ∧ x < k
inductive PlPg (w : Str) (k : Nat) : PyData → Prop
  | bear (i : Nat) (hw : w = "bearers") (hi : i < k) : PlPg w k (.int i)
  | lot (l : List Int) (hw : w = "leasts" ∨ w = "greatests") (hl : Lot k l) : PlPg w k (TpI l)
  | lots (ls : List (List Int)) (hw : w = "levellers") (h0 : ls ≠ []) (h1 : ls.length ≤ 70) (hl : ∀ l ∈ ls, Lot k l) : PlPg w k (.tuple (ls.map TpI))
  | add (ns : List Int) (hw : w = "adders") (hl : ns.length = k) (h : ∀ x ∈ ns, -9 ≤ x ∧ x ≤ 9) : PlPg w k (TpI ns)
  | chs (cs : List Int) (hw : w = "likers" ∨ w = "rankers") (hl : cs.length = (rulAll (ownRul w k)).length) (h : ∀ (i : Nat) (p : List Int) (c : Int), (rulAll (ownRul w k))[i]? = some p → cs[i]? = some c → c ∈ p) : PlPg w k (TpI cs)
def Rl.all (r : Rl) : List (List Int) := if r.w = "marks" then (match r.r with
  | [.int c] => belowL r.k c.toNat
  | _ => []) else allF (decide (r.w = "likes")) r.k
theorem rl_all (r : Rul) : (rlOf r).all = rulAll r := by
  cases r with
  | marks n m => exact if_pos rfl
  | other l n => cases l <;> exact if_neg (show ¬ (_ : Str) = _ from by first | exact (by decide +kernel : ¬ Str.ofString "likes" = Str.ofString "marks") | exact (by decide +kernel : ¬ Str.ofString "ranks" = Str.ofString "marks"))
def isPg : Ho → PyData → Prop
  | .plain w k _, d => PlPg w k d
  | .both a b, d => ∃ x y, d = .tuple [x, y] ∧ isPg a x ∧ isPg b y
  | .ruled r b, d => ∃ xs, d = .tuple xs ∧ xs.length = r.all.length ∧ ∀ x ∈ xs, isPg b x
/-! what they tell -/
def atR (row : List Int) (i : Int) : Int := row.getD i.toNat 0
def intsL : PyData → List Int
  | .tuple xs => xs.map toI
  | _ => []
def tupsL : PyData → List PyData
  | .tuple xs => xs
  | _ => []
theorem intsL_TpI (l : List Int) : intsL (TpI l) = l := by
  show (l.map PyData.int).map toI = l
  rw [List.map_map]
  exact List.map_id _
def leastR (row : List Int) (l : List Int) : Int := minD (l.map (atR row))
def mostR (row : List Int) (l : List Int) : Int := maxD (l.map (atR row))
def chosenR (w : Str) (k : Nat) (cs row : List Int) : Int := atR row ((patL (rulW (ownRul w k)) row).idxOf (cs.getD ((rulAll (ownRul w k)).idxOf (patL (rulW (ownRul w k)) row)) 0) : Nat)
def sumR (ns row : List Int) : Int := ((ns.zip row).map fun p => p.1 * p.2).sum
def tellW (w : Str) (k : Nat) (d : PyData) (row : List Int) : Int :=
  if w = "bearers" then atR row (toI d)
  else if w = "leasts" then leastR row (intsL d)
  else if w = "greatests" then mostR row (intsL d)
  else if w = "levellers" then maxD ((tupsL d).map fun l => leastR row (intsL l))
  else if w = "adders" then sumR (intsL d) row
  else chosenR w k (intsL d) row
def tellD : Ho → PyData → List Int → PyData
  | .plain w k _, d, row => .int (tellW w k d row)
  | .both a b, d, row => .tuple [tellD a ((tupsL d).getD 0 .none) (row.take a.sz), tellD b ((tupsL d).getD 1 .none) (row.drop a.sz)]
  | .ruled r b, d, row => tellD b ((tupsL d).getD (r.all.idxOf (patL r.w (row.take r.k))) .none) (row.drop r.k)
theorem at_row {row : List Int} {i : Int} (h0 : 0 ≤ i) (h1 : i < row.length) : atI (row.map PyData.int) i = some (.int (atR row i)) := by
  have : i = ((i.toNat : Nat) : Int) := by omega
  rw [this]
  have hl : i.toNat < row.length := by omega
  have e : atR row ((i.toNat : Nat) : Int) = row[i.toNat] := by
    unfold atR
    rw [List.getD_eq_getElem?_getD, show (((i.toNat : Nat) : Int)).toNat = i.toNat by omega, List.getElem?_eq_getElem hl]
    rfl
  rw [e]
  exact atI_nat (by rw [List.getElem?_map, List.getElem?_eq_getElem hl]; rfl)
end PR
/-! PRd -/
set_option maxRecDepth 100000
/-! the program's own defs: tells -/
namespace PR
open PySem PySem.Spec PyProof.Rows L2 Z K02
def ctSummed : Ct := fun zs c Q => ∃ ns row, zs = [.d (TpI ns), .d (TpI row)] ∧ (∀ x ∈ ns, -9 ≤ x ∧ x ≤ 9) ∧ Q (.d (.int (sumR ns row))) c
theorem zip_ints : ∀ (a b : List Int), zipD (a.map PyData.int) (b.map PyData.int) = (a.zip b).map fun p => .tuple [.int p.1, .int p.2]
  | [], _ => by cases ‹List Int› <;> rfl
  | _ :: _, [] => rfl
  | x :: a, y :: b => by
    show PyData.tuple [.int x, .int y] :: zipD (a.map .int) (b.map .int) = _
    rw [zip_ints a b]; rfl
theorem w_summed {Q : KZ} {c : Nat} {ns row : List Int} (h : ∀ x ∈ ns, -9 ≤ x ∧ x ≤ 9) (q : Q (.d (.int (sumR ns row))) c) : wSs (ctF [] []) Gn ir_summed [some (.d (TpI ns)), some (.d (TpI row)), none, none] c (iniR Q) := by
  walk_at "zw"
  rw [zip_ints]
  refine lcW_om (e := fun p : Int × Int => PyData.tuple [.int p.1, .int p.2]) (fun p => PyData.int (p.1 * p.2)) (fun p hp Q1 q1 => ?_) ?_
  · walk_at "zw"
    refine ⟨rfl, ?_⟩
    walk_at "zw"
    have := h p.1 (List.of_mem_zip hp).1
    exact ⟨cmul_l (by omega) (by omega), q1⟩
  · walk_at "zw"
    refine ⟨(ns.zip row).map fun p => p.1 * p.2, ?_, ?_⟩
    · rw [← Z.ints_map ((ns.zip row).map fun p => p.1 * p.2), List.map_map]
      rfl
    · exact q
def ctChosen : Ct := fun zs c Q => ∃ (w : Str) (k : Nat) (cs row : List Int), zs = [.d (.tuple [.str w, .int k]), .d (TpI cs), .d (TpI row)] ∧ (w = "likers" ∨ w = "rankers") ∧ 1 ≤ k ∧ k ≤ 4 ∧ cs.length = (rulAll (ownRul w k)).length ∧
  (∀ (i : Nat) (p : List Int) (c : Int), (rulAll (ownRul w k))[i]? = some p → cs[i]? = some c → c ∈ p) ∧ row.length = k ∧ Q (.d (.int (chosenR w k cs row))) c
/-- what a chooser's pattern and choice are -/
structure Chs (w : Str) (k : Nat) (cs row : List Int) : Prop where
  inn : patL (rulW (ownRul w k)) row ∈ rulAll (ownRul w k)
  lt : (rulAll (ownRul w k)).idxOf (patL (rulW (ownRul w k)) row) < cs.length
  mem : cs.getD ((rulAll (ownRul w k)).idxOf (patL (rulW (ownRul w k)) row)) 0 ∈ patL (rulW (ownRul w k)) row
  len : (patL (rulW (ownRul w k)) row).length = row.length
theorem own_marks {w : Str} {k n m : Nat} : ownRul w k ≠ .marks n m := fun e => by cases e
theorem own_k (w : Str) (k : Nat) : (rlOf (ownRul w k)).k = k := by
  unfold ownRul
  cases decide (w = "likers") <;> rfl
theorem patL_len (w : Str) (ns : List Int) : (patL w ns).length = ns.length := by
  unfold patL
  split
  · rfl
  · split
    · exact rank_len ns
    · exact come_len ns
theorem chs_of {w : Str} {k : Nat} {cs row : List Int} (hl : cs.length = (rulAll (ownRul w k)).length) (h : ∀ (i : Nat) (p : List Int) (c : Int), (rulAll (ownRul w k))[i]? = some p → cs[i]? = some c → c ∈ p) (hr : row.length = k) : Chs w k cs row := by
  have inn : patL (rulW (ownRul w k)) row ∈ rulAll (ownRul w k) := pat_in (by rw [own_k, hr]) fun n m e => absurd e own_marks
  have lt := List.idxOf_lt_length_of_mem inn
  have lt2 : (rulAll (ownRul w k)).idxOf (patL (rulW (ownRul w k)) row) < cs.length := by omega
  refine ⟨inn, lt2, ?_, patL_len _ _⟩
  refine h ((rulAll (ownRul w k)).idxOf (patL (rulW (ownRul w k)) row)) _ _ ?_ ?_
  · rw [List.getElem?_eq_getElem lt, List.getElem_idxOf]
  · rw [List.getElem?_eq_getElem lt2, List.getD_eq_getElem?_getD, List.getElem?_eq_getElem lt2]
    rfl
theorem get_ints {cs : List Int} {j : Nat} (h : j < cs.length) : atI (cs.map PyData.int) (j : Nat) = some (.int (cs.getD j 0)) := by
  refine atI_nat ?_
  rw [List.getElem?_map, List.getElem?_eq_getElem h, List.getD_eq_getElem?_getD, List.getElem?_eq_getElem h]
  rfl
theorem w_chosen {Q : KZ} {c : Nat} {w : Str} {k : Nat} {cs row : List Int} (hw : w = "likers" ∨ w = "rankers") (k0 : 1 ≤ k) (k1 : k ≤ 4) (hl : cs.length = (rulAll (ownRul w k)).length) (h : ∀ (i : Nat) (p : List Int) (c : Int), (rulAll (ownRul w k))[i]? = some p → cs[i]? = some c → c ∈ p) (hr : row.length = k) (q : Q (.d (.int (chosenR w k cs row))) c) :
    wSs (ctF [ctPatOf, ctRulerOf, ctPatsOf] []) Gn ir_chosen [some (.d (.tuple [.str w, .int k])), some (.d (TpI cs)), some (.d (TpI row)), none] c (iniR Q) := by
  have ch := chs_of hl h hr
  walk_at "zw"
  refine ⟨w, k, rfl, hw, ?_⟩
  walk_at "zw"
  refine ⟨ownRul w k, row, rfl, by omega, ?_⟩
  walk_at "zw"
  refine ⟨trivial, ?_⟩
  walk_at "zw"
  refine ⟨w, k, rfl, hw, k0, k1, ?_⟩
  walk_at "zw"
  refine ⟨trivial, ?_⟩
  walk_at "zw"
  obtain ⟨j, z, j1, j2, j3, ej⟩ := idx_at eqv_TpI ch.inn
  refine ⟨sh_rowsT _, sh_tup _, j, z, j1, j2, j3, ?_⟩
  subst ej
  walk_at "zw"
  refine ⟨_, get_ints ch.lt, ?_⟩
  walk_at "zw"
  obtain ⟨j, z, j1, j2, j3, ej⟩ := idx_at eqv_int ch.mem
  refine ⟨sh_tup _, sh_int _, j, z, j1, j2, j3, ?_⟩
  subst ej
  walk_at "zw"
  have lt := List.idxOf_lt_length_of_mem ch.mem
  rw [ch.len] at lt
  exact ⟨_, at_row (by omega) (by omega), q⟩
/-! joined ones -/
structure Rw (h : Ho) (row : List Int) : Prop where
  len : row.length = h.sz
  fit : h.fits row = true
theorem Rw.one {a b : Ho} {row : List Int} (r : Rw (.both a b) row) : Rw a (row.take a.sz) := by
  have hl : row.length = a.sz + b.sz := r.len
  have hf : (a.fits (row.take a.sz) && b.fits (row.drop a.sz)) = true := r.fit
  rw [Bool.and_eq_true] at hf
  exact ⟨by rw [List.length_take]; omega, hf.1⟩
theorem Rw.two {a b : Ho} {row : List Int} (r : Rw (.both a b) row) : Rw b (row.drop a.sz) := by
  have hl : row.length = a.sz + b.sz := r.len
  have hf : (a.fits (row.take a.sz) && b.fits (row.drop a.sz)) = true := r.fit
  rw [Bool.and_eq_true] at hf
  exact ⟨by rw [List.length_drop]; omega, hf.2⟩
theorem Rw.rest {r : Rl} {b : Ho} {row : List Int} (x : Rw (.ruled r b) row) : Rw b (row.drop r.k) := by
  have hl : row.length = r.k + b.sz := x.len
  have hf : (r.fit row && b.fits (row.drop r.k)) = true := x.fit
  rw [Bool.and_eq_true] at hf
  exact ⟨by rw [List.length_drop]; omega, hf.2⟩
theorem Rw.rul {r0 : Rul} {b : Ho} {row : List Int} (x : Rw (.ruled (rlOf r0) b) row) : patL (rulW r0) (row.take (rlOf r0).k) ∈ rulAll r0 := by
  have hl : row.length = (rlOf r0).k + b.sz := x.len
  have hf : ((rlOf r0).fit row && b.fits (row.drop (rlOf r0).k)) = true := x.fit
  rw [Bool.and_eq_true] at hf
  refine pat_in (by rw [List.length_take]; omega) fun n m e => ?_
  subst e
  have h := hf.1
  have h : (row.take n).all (mkB m) = true := by
    have e2 : (rlOf (.marks n m)).fit row = (row.take n).all (mkB m) := rfl
    rw [e2] at h
    exact h
  intro x hx
  have := List.all_eq_true.mp h x hx
  unfold mkB at this
  rw [Bool.and_eq_true, decide_eq_true_eq, decide_eq_true_eq] at this
  exact this
def ctTells (n : Nat) : Ct := fun zs c Q => ∃ (h : Ho) (p : PyData) (row : List Int), zs = [.d h.d, .d p, .d (TpI row)] ∧ 2 * h.dep + 1 < n ∧ h.dep < 4 ∧ h.ok ∧ isPg h p ∧ Rw h row ∧ Q (.d (tellD h p row)) c
def ctJoined (n : Nat) : Ct := fun zs c Q => ∃ (h : Ho) (p : PyData) (row : List Int), zs = [.d h.d, .d p, .d (TpI row)] ∧ 2 * h.dep < n ∧ h.dep < 4 ∧ h.jn ∧ h.ok ∧ isPg h p ∧ Rw h row ∧ Q (.d (tellD h p row)) c
theorem get_at {xs : List PyData} {j : Nat} (h : j < xs.length) : atI xs (j : Nat) = some (xs.getD j .none) := by
  refine atI_nat ?_
  rw [List.getD_eq_getElem?_getD, List.getElem?_eq_getElem h]
  rfl
theorem getD_mem {xs : List PyData} {j : Nat} (h : j < xs.length) : xs.getD j .none ∈ xs := by
  rw [List.getD_eq_getElem?_getD, List.getElem?_eq_getElem h]
  exact List.getElem_mem h
theorem w_told_joined {Q : KZ} {c n : Nat} {h : Ho} {p : PyData} {row : List Int} (hn : 2 * h.dep < n + 1) (hd : h.dep < 4) (j : h.jn) (ok : h.ok) (pg : isPg h p) (rw_ : Rw h row) (q : Q (.d (tellD h p row)) c) :
    wSs (ctF [ctParted, ctTells n, ctPatOf, ctPatterns] []) Gn ir_told_joined [some (.d h.d), some (.d p), some (.d (TpI row)), none, none, none, none, none] c (iniR Q) := by
  have sl : sizeLine = 16777216 := sizeLine_eq
  cases h with
  | plain w k r => exact j.elim
  | both a b =>
    obtain ⟨x, y, rfl, pa, pb⟩ := pg
    have hd' : max a.dep b.dep + 1 < 4 := hd
    have hn' : 2 * (max a.dep b.dep + 1) < n + 1 := hn
    walk_at "zw"
    refine ⟨rfl, ?_⟩
    walk_at "zw"
    refine ⟨.both a b, row, rfl, ok, hd, trivial, ?_⟩
    walk_at "zw"
    refine ⟨rfl, ?_⟩
    walk_at "zw"
    refine ⟨trivial, ?_⟩
    walk_at "zw"
    refine ⟨_, at0, ?_⟩
    walk_at "zw"
    refine ⟨a, x, row.take a.sz, rfl, by omega, by omega, ok.1, pa, rw_.one, ?_⟩
    walk_at "zw"
    refine ⟨_, at1, ?_⟩
    walk_at "zw"
    refine ⟨b, y, row.drop a.sz, rfl, by omega, by omega, ok.2, pb, rw_.two, ?_⟩
    walk_at "zw"
    refine ⟨by rw [sl]; show 2 ≤ 16777216; decide, ?_⟩
    exact q
  | ruled r b =>
    obtain ⟨xs, rfl, hl, px⟩ := pg
    obtain ⟨r0, ro, rfl⟩ := ok.1
    rw [rl_all] at hl
    have hd' : b.dep + 1 < 4 := hd
    have hn' : 2 * (b.dep + 1) < n + 1 := hn
    have mem := rw_.rul
    have lt := List.idxOf_lt_length_of_mem mem
    have q : Q (.d (tellD b (xs.getD ((rulAll r0).idxOf (patL (rulW r0) (row.take (rlOf r0).k))) .none) (row.drop (rlOf r0).k))) c := by
      rw [← rl_all, ← rl_w]
      exact q
    have k4 := ok.1.k1
    walk_at "zw"
    refine ⟨rfl, ?_⟩
    walk_at "zw"
    refine ⟨.ruled (rlOf r0) b, row, rfl, ok, hd, trivial, ?_⟩
    walk_at "zw"
    refine ⟨rfl, ?_⟩
    walk_at "zw"
    refine ⟨trivial, ?_⟩
    walk_at "zw"
    refine ⟨r0, by rw [← rl_d], ro, ?_⟩
    walk_at "zw"
    refine ⟨trivial, ?_⟩
    walk_at "zw"
    refine ⟨r0, row.take (rlOf r0).k, by rw [← rl_d]; rfl, by rw [List.length_take]; omega, ?_⟩
    walk_at "zw"
    obtain ⟨j, z, j1, j2, j3, ej⟩ := idx_at eqv_TpI mem
    refine ⟨sh_rowsT _, sh_tup _, j, z, j1, j2, j3, ?_⟩
    subst ej
    walk_at "zw"
    refine ⟨_, get_at (by omega), ?_⟩
    walk_at "zw"
    exact ⟨b, _, row.drop (rlOf r0).k, rfl, by omega, by omega, ok.2, px _ (getD_mem (by omega)), rw_.rest, q⟩
theorem lot_row {k : Nat} {l row : List Int} (h : Lot k l) (hr : row.length = k) {x : Int} (hx : x ∈ l) : atI (row.map PyData.int) x = some (.int (atR row x)) := by
  have := h.2.2 x hx
  exact at_row (by omega) (by omega)
theorem min_ne {f : Int → Int} {l : List Int} (h : l ≠ []) : l.map f ≠ [] := fun e => h (List.map_eq_nil_iff.mp e)
theorem ints_f {α : Type} (f : α → Int) (l : List α) : ints? (l.map fun x => PyData.int (f x)) = some (l.map f) := by
  have := Z.ints_map (l.map f)
  rwa [List.map_map] at this
theorem tellW_bear {k : Nat} {d : PyData} {row : List Int} : tellW "bearers" k d row = atR row (toI d) := rfl
theorem tellW_least {k : Nat} {d : PyData} {row : List Int} : tellW "leasts" k d row = leastR row (intsL d) := rfl
theorem tellW_great {k : Nat} {d : PyData} {row : List Int} : tellW "greatests" k d row = mostR row (intsL d) := rfl
theorem tellW_lev {k : Nat} {d : PyData} {row : List Int} : tellW "levellers" k d row = maxD ((tupsL d).map fun l => leastR row (intsL l)) := rfl
theorem tellW_add {k : Nat} {d : PyData} {row : List Int} : tellW "adders" k d row = sumR (intsL d) row := rfl
theorem tellW_like {k : Nat} {d : PyData} {row : List Int} : tellW "likers" k d row = chosenR "likers" k (intsL d) row := rfl
theorem tellW_rank {k : Nat} {d : PyData} {row : List Int} : tellW "rankers" k d row = chosenR "rankers" k (intsL d) row := rfl
theorem w_tells {Q : KZ} {c n : Nat} {h : Ho} {p : PyData} {row : List Int} (hn : 2 * h.dep + 1 < n + 1) (hd : h.dep < 4) (ok : h.ok) (pg : isPg h p) (rw_ : Rw h row) (q : Q (.d (tellD h p row)) c) :
    wSs (ctF [ctJoined n, ctSummed, ctChosen] []) Gn ir_tells [some (.d h.d), some (.d p), some (.d (TpI row)), none, none, none] c (iniR Q) := by
  have sl : sizeLine = 16777216 := sizeLine_eq
  cases h with
  | both a b =>
    walk_at "zw"
    refine ⟨_, at0, ?_⟩
    walk_at "zw"
    refine ⟨by rw [sl]; decide, ?_⟩
    walk_at "zw"
    refine ⟨by decide +kernel, by decide +kernel, ?_⟩
    walk_at "zw"
    exact ⟨.both a b, p, row, rfl, by omega, hd, trivial, ok, pg, rw_, q⟩
  | ruled r b =>
    walk_at "zw"
    refine ⟨_, at0, ?_⟩
    walk_at "zw"
    refine ⟨by rw [sl]; decide, ?_⟩
    walk_at "zw"
    refine ⟨by decide +kernel, by decide +kernel, ?_⟩
    walk_at "zw"
    exact ⟨.ruled r b, p, row, rfl, by omega, hd, trivial, ok, pg, rw_, q⟩
  | plain w k r =>
    have hr : row.length = k := rw_.len
    have q : Q (.d (.int (tellW w k p row))) c := q
    obtain ⟨hw, k0, k1, hrl, had, hno, hch⟩ := ok
    cases pg with
    | bear i e hi =>
      subst e
      rw [tellW_bear] at q
      walk_at "zw"
      refine ⟨_, at0, ?_⟩
      walk_at "zw"
      refine ⟨by rw [sl]; decide, ?_⟩
      walk_at "zw"
      refine ⟨by decide +kernel, by decide +kernel, ?_⟩
      walk_at "zw"
      refine ⟨trivial, ?_⟩
      walk_at "zw"
      exact ⟨_, at_row (by omega) (by omega), q⟩
    | lot l e hl =>
      rcases e with rfl | rfl
      · rw [tellW_least, intsL_TpI] at q
        walk_at "zw"
        refine ⟨_, at0, ?_⟩
        walk_at "zw"
        refine ⟨by rw [sl]; decide, ?_⟩
        walk_at "zw"
        refine ⟨by decide +kernel, by decide +kernel, ?_⟩
        walk_at "zw"
        refine ⟨trivial, ?_⟩
        walk_at "zw"
        refine ⟨trivial, ?_⟩
        walk_at "zw"
        refine lcW_om (e := PyData.int) (fun x => PyData.int (atR row x)) (fun x hx Q1 q1 => ?_) ?_
        · walk_at "zw"
          exact ⟨_, lot_row hl hr hx, q1⟩
        · walk_at "zw"
          exact ⟨_, ints_f _ l, min_ne hl.1, q⟩
      · rw [tellW_great, intsL_TpI] at q
        walk_at "zw"
        refine ⟨_, at0, ?_⟩
        walk_at "zw"
        refine ⟨by rw [sl]; decide, ?_⟩
        walk_at "zw"
        refine ⟨by decide +kernel, by decide +kernel, ?_⟩
        iterate 3
          walk_at "zw"
          refine ⟨trivial, ?_⟩
        walk_at "zw"
        refine lcW_om (e := PyData.int) (fun x => PyData.int (atR row x)) (fun x hx Q1 q1 => ?_) ?_
        · walk_at "zw"
          exact ⟨_, lot_row hl hr hx, q1⟩
        · walk_at "zw"
          exact ⟨_, ints_f _ l, min_ne hl.1, q⟩
    | lots ls e h0 _ hl =>
      subst e
      rw [tellW_lev] at q
      walk_at "zw"
      refine ⟨_, at0, ?_⟩
      walk_at "zw"
      refine ⟨by rw [sl]; decide, ?_⟩
      walk_at "zw"
      refine ⟨by decide +kernel, by decide +kernel, ?_⟩
      iterate 4
        walk_at "zw"
        refine ⟨trivial, ?_⟩
      walk_at "zw"
      refine lcW_om (e := TpI) (fun l => PyData.int (leastR row l)) (fun l hll Q1 q1 => ?_) ?_
      · walk_at "zw"
        refine lcW_om (e := PyData.int) (fun x => PyData.int (atR row x)) (fun x hx Q2 q2 => ?_) ?_
        · walk_at "zw"
          exact ⟨_, lot_row (hl l hll) hr hx, q2⟩
        · walk_at "zw"
          exact ⟨_, ints_f _ l, min_ne (hl l hll).1, q1⟩
      · walk_at "zw"
        refine ⟨_, ints_f _ ls, fun e => h0 (List.map_eq_nil_iff.mp e), ?_⟩
        have e : (tupsL (.tuple (ls.map TpI))).map (fun l => leastR row (intsL l)) = ls.map (leastR row) := by
          show (ls.map TpI).map (fun l => leastR row (intsL l)) = _
          rw [List.map_map]
          exact List.map_congr_left fun l _ => by show leastR row (intsL (TpI l)) = _; rw [intsL_TpI]
        rw [e] at q
        exact q
    | add ns e hl h =>
      subst e
      rw [tellW_add, intsL_TpI] at q
      walk_at "zw"
      refine ⟨_, at0, ?_⟩
      walk_at "zw"
      refine ⟨by rw [sl]; decide, ?_⟩
      walk_at "zw"
      refine ⟨by decide +kernel, by decide +kernel, ?_⟩
      iterate 5
        walk_at "zw"
        refine ⟨trivial, ?_⟩
      walk_at "zw"
      exact ⟨ns, row, rfl, h, q⟩
    | chs cs e hl h =>
      obtain ⟨k4, rfl⟩ := hch e
      rcases e with rfl | rfl
      · have q : Q (.d (.int (tellW "likers" k (TpI cs) row))) c := q
        rw [tellW_like, intsL_TpI] at q
        walk_at "zw"
        refine ⟨_, at0, ?_⟩
        walk_at "zw"
        refine ⟨by rw [sl]; decide, ?_⟩
        walk_at "zw"
        refine ⟨by decide +kernel, by decide +kernel, ?_⟩
        iterate 5
          walk_at "zw"
          refine ⟨trivial, ?_⟩
        walk_at "zw"
        exact ⟨"likers", k, cs, row, rfl, .inl rfl, k0, k4, hl, h, hr, q⟩
      · have q : Q (.d (.int (tellW "rankers" k (TpI cs) row))) c := q
        rw [tellW_rank, intsL_TpI] at q
        walk_at "zw"
        refine ⟨_, at0, ?_⟩
        walk_at "zw"
        refine ⟨by rw [sl]; decide, ?_⟩
        walk_at "zw"
        refine ⟨by decide +kernel, by decide +kernel, ?_⟩
        iterate 5
          walk_at "zw"
          refine ⟨trivial, ?_⟩
        walk_at "zw"
        exact ⟨"rankers", k, cs, row, rfl, .inr rfl, k0, k4, hl, h, hr, q⟩
end PR
/-! ZX -/
set_option maxRecDepth 100000
/-! data that may be shown: numbers of sixty figures, short texts -/
namespace Z
open PySem PySem.Spec PyProof.Rows L2
mutual
def fnD : PyData → Bool
  | .none => true
  | .bool _ => true
  | .int i => decide (i.natAbs < 10 ^ 60)
  | .list xs => fnDs xs
  | .tuple xs => fnDs xs
  | .str s => (PyData.str s).canLay0 && s.cps.toList.all fun c => decide (c < 16 ^ 8)
  | .dict _ => false
def fnDs : List PyData → Bool
  | [] => true
  | x :: xs => fnD x && fnDs xs
end
theorem short_int {i : Int} (h : i.natAbs < 10 ^ 60) : (PyData.shown (.int i)).length ≤ 61 := by
  have e := int_text_length_le10 (k := 60) (by decide) h
  show (Str.ofString (toString i)).length ≤ 61
  rw [PySem.ofString_length]; exact e
mutual
theorem fn_lay : ∀ d : PyData, fnD d = true → d.canLay0 = true
  | .none, _ => rfl
  | .bool _, _ => rfl
  | .int _, _ => by simp [PyData.canLay0]
  | .list xs, h => by
    have h : fnDs xs = true := by simpa [fnD] using h
    simpa [PyData.canLay0] using fns_lay xs h
  | .tuple xs, h => by
    have h : fnDs xs = true := by simpa [fnD] using h
    simpa [PyData.canLay0] using fns_lay xs h
  | .str s, h => by
    unfold fnD at h
    rw [Bool.and_eq_true] at h
    exact h.1
  | .dict _, h => by simp [fnD] at h
theorem fns_lay : ∀ ds : List PyData, fnDs ds = true → PyData.canLayAll0 ds = true
  | [], _ => by simp [PyData.canLayAll0]
  | x :: xs, h => by
    have h : fnD x = true ∧ fnDs xs = true := by simpa [fnDs] using h
    simp [PyData.canLayAll0, fn_lay x h.1, fns_lay xs h.2]
end
mutual
theorem fn_show : ∀ d : PyData, fnD d = true → d.showable = true ∧ d.hasDict = false ∧ d.leavesShort 61 = true
  | .none, _ => by simp [PyData.showable, PyData.hasDict, PyData.leavesShort]
  | .bool _, _ => by simp [PyData.showable, PyData.hasDict, PyData.leavesShort]
  | .int i, h => by
    have h : i.natAbs < 10 ^ 60 := by simpa [fnD] using h
    refine ⟨?_, rfl, ?_⟩
    · have : i.natAbs.log2 < 1920 := by
        by_cases z : i.natAbs = 0
        · rw [z]; decide
        · rw [Nat.log2_lt z]
          exact Nat.lt_trans h (by decide +kernel)
      simpa [PyData.showable] using this
    · simpa [PyData.leavesShort] using short_int h
  | .list xs, h => by
    have h : fnDs xs = true := by simpa [fnD] using h
    simpa [PyData.showable, PyData.hasDict, PyData.leavesShort] using fns_show xs h
  | .tuple xs, h => by
    have h : fnDs xs = true := by simpa [fnD] using h
    simpa [PyData.showable, PyData.hasDict, PyData.leavesShort] using fns_show xs h
  | .str s, h => by
    unfold fnD at h
    rw [Bool.and_eq_true] at h
    exact ⟨by simp [PyData.showable], by simp [PyData.hasDict], by unfold PyData.leavesShort; exact h.2⟩
  | .dict _, h => by simp [fnD] at h
theorem fns_show : ∀ ds : List PyData, fnDs ds = true → PyData.showableAll ds = true ∧ PyData.hasDictAll ds = false ∧ PyData.leavesShortAll 61 ds = true
  | [], _ => by simp [PyData.showableAll, PyData.hasDictAll, PyData.leavesShortAll]
  | x :: xs, h => by
    have h : fnD x = true ∧ fnDs xs = true := by simpa [fnDs] using h
    have h1 := fn_show x h.1
    have h2 := fns_show xs h.2
    simp [PyData.showableAll, PyData.hasDictAll, PyData.leavesShortAll, h1, h2]
end
theorem repr_fn {d : PyData} (h : fnD d = true) (hs : ∀ s, d ≠ .str s) (hd : d.depth ≤ 60) (hb : d.bulk ≤ 250000) : reprOk d = true ∧ d.showable = true ∧ d.hasDict = false ∧ d.depth ≤ 60 ∧ d.shown.length ≤ sizeLine := by
  have h2 := fn_show d h
  have h3 := PyData.shown_le_bulk 61 (by decide) d h2.2.2
  refine ⟨?_, h2.1, h2.2.1, hd, by rw [sizeLine_eq]; omega⟩
  have := fn_lay d h
  cases d with
  | str s => exact absurd rfl (hs s)
  | _ => exact this
theorem fns_all {α : Type} {f : α → PyData} : ∀ {l : List α}, (∀ x ∈ l, fnD (f x) = true) → fnDs (l.map f) = true
  | [], _ => by simp [fnDs]
  | x :: l, h => by
    rw [List.map_cons, fnDs, h x (by simp), fns_all fun y hy => h y (by simp [hy])]
    rfl
theorem fns_mem : ∀ {l : List PyData}, (∀ x ∈ l, fnD x = true) → fnDs l = true
  | [], _ => by simp [fnDs]
  | x :: l, h => by
    rw [fnDs, h x (by simp), fns_mem fun y hy => h y (by simp [hy])]
    rfl
theorem depths_mem {n : Nat} : ∀ {l : List PyData}, (∀ x ∈ l, x.depth ≤ n) → PyData.depthAll l ≤ n
  | [], _ => by simp [PyData.depthAll]
  | x :: l, h => by
    rw [PyData.depthAll]
    exact Nat.max_le.mpr ⟨h x (by simp), depths_mem fun y hy => h y (by simp [hy])⟩
theorem bulks_mem {n : Nat} : ∀ {l : List PyData}, (∀ x ∈ l, x.bulk ≤ n) → PyData.bulkAll l ≤ (n + 1) * l.length
  | [], _ => by simp [PyData.bulkAll]
  | x :: l, h => by
    have h1 := h x (by simp)
    have h2 := bulks_mem (l := l) fun y hy => h y (by simp [hy])
    rw [PyData.bulkAll, List.length_cons, Nat.mul_succ]
    omega
theorem fn_int {i : Int} (h : i.natAbs < 10 ^ 60) : fnD (.int i) = true := by simpa [fnD] using h
theorem fn_small {i : Int} (h0 : -1000000 ≤ i) (h1 : i ≤ 1000000) : fnD (.int i) = true := fn_int (Nat.lt_of_lt_of_le (show i.natAbs < 10 ^ 7 by omega) (by decide +kernel))
theorem fn_TpI {ns : List Int} (h : ∀ n ∈ ns, n.natAbs < 10 ^ 60) : fnD (TpI ns) = true := by
  show fnD (.tuple _) = true
  rw [fnD]
  exact fns_all fun x hx => fn_int (h x hx)
theorem bulk_TpI (ns : List Int) : (TpI ns).bulk = ns.length := by
  show PyData.bulkAll (ns.map .int) = _
  induction ns with
  | nil => rfl
  | cons n ns ih => rw [List.map_cons, PyData.bulkAll, ih, List.length_cons]; show 0 + 1 + ns.length = _; omega
end Z
/-! PRe -/
set_option maxRecDepth 100000
/-! programs, answers, houses: how great -/
namespace PR
open PySem PySem.Spec PyProof.Rows L2 Z K02
theorem rise_len : ∀ {l : List Int} {a k : Int}, l.Pairwise (· < ·) → (∀ x ∈ l, a ≤ x ∧ x < k) → a ≤ k → (l.length : Int) ≤ k - a
  | [], a, k, _, _, hk => by simp; omega
  | x :: l, a, k, hp, h, hk => by
    have hx := h x (by simp)
    have := rise_len (l := l) (a := x + 1) (k := k) (List.pairwise_cons.mp hp).2 (fun y hy => ⟨(List.pairwise_cons.mp hp).1 y hy, (h y (by simp [hy])).2⟩) (by omega)
    rw [List.length_cons]
    omega
theorem lot_len {k : Nat} {l : List Int} (h : Lot k l) : l.length ≤ k := by
  have := rise_len h.2.1 h.2.2 (by omega)
  omega
def Ho.lv : Ho → Nat
  | .plain _ _ _ => 1
  | .both a b => a.lv + b.lv
  | .ruled r b => r.all.length * b.lv
theorem lv_pos : ∀ {h : Ho}, h.ok → 1 ≤ h.lv
  | .plain _ _ _, _ => Nat.le_refl 1
  | .both a b, ok => by
    have := lv_pos ok.1
    show 1 ≤ a.lv + b.lv
    omega
  | .ruled r b, ok => by
    have h1 := lv_pos ok.2
    obtain ⟨r0, ro, rfl⟩ := ok.1
    have h2 : 1 ≤ (rlOf r0).all.length := by
      rw [rl_all]
      cases r0 with
      | marks n m =>
        obtain ⟨_, _, m2, _⟩ := ro
        show 1 ≤ (belowL n m).length
        rw [below_len]
        exact Nat.pow_pos (by omega)
      | other l n =>
        have hin : patL (rulW (.other l n)) ((List.range n).map fun _ => 0) ∈ rulAll (.other l n) := pat_in (by cases l <;> simp [rlOf]) fun n m e => by cases e
        exact List.length_pos_of_mem hin
    show 1 ≤ (rlOf r0).all.length * b.lv
    exact Nat.mul_pos h2 h1
theorem all_le (r : Rul) (ro : rulOk r) : (rulAll r).length ≤ 256 := by
  cases r with
  | marks n m =>
    obtain ⟨n1, n3, m2, m4⟩ := ro
    show (belowL n m).length ≤ 256
    rw [below_len]
    have h1 : m ^ n ≤ 4 ^ n := Nat.pow_le_pow_left m4 n
    have h2 : 4 ^ n ≤ 4 ^ 3 := Nat.pow_le_pow_right (by decide) n3
    omega
  | other l n => exact Nat.le_trans (pat_size l n ro.1 ro.2).2.2.2 (by decide)
structure Pgf (h : Ho) (p : PyData) : Prop where
  fn : fnD p = true
  dp : p.depth ≤ h.dep + 2
  bk : p.bulk + 2 ≤ (640 + 2 * h.dep) * h.lv
  st : ∀ s, p ≠ .str s
theorem mem_fst {k : Nat} {l : List Int} (h : Lot k l) (hk : k ≤ 8) : ∀ x ∈ l, x.natAbs < 10 ^ 60 := fun x hx => by
  have := h.2.2 x hx
  exact Nat.lt_of_lt_of_le (show x.natAbs < 10 by omega) (by decide +kernel)
theorem plpg_f {w : Str} {k : Nat} {r : List PyData} {p : PyData} (ok : (Ho.plain w k r).ok) (pg : PlPg w k p) : fnD p = true ∧ p.depth ≤ 2 ∧ p.bulk + 2 ≤ 640 ∧ ∀ s, p ≠ .str s := by
  obtain ⟨hw, k0, k1, hrl, had, hno, hch⟩ := ok
  cases pg with
  | bear i e hi => exact ⟨fn_small (by omega) (by omega), by show (0 : Nat) ≤ 2; decide, by show 0 + 2 ≤ 640; decide, fun s e => by cases e⟩
  | lot l e hl =>
    have := lot_len hl
    exact ⟨fn_TpI (mem_fst hl k1), Nat.le_trans (depth_TpI l) (by decide), by rw [bulk_TpI]; omega, fun s e => by cases e⟩
  | lots ls e h0 h1 hl =>
    refine ⟨?_, ?_, ?_, fun s e => by cases e⟩
    · rw [fnD]
      exact fns_all fun l hll => fn_TpI (mem_fst (hl l hll) k1)
    · have := depthAll_le (f := TpI) (n := 1) (l := ls) fun x _ => depth_TpI x
      show PyData.depthAll (ls.map TpI) + 1 ≤ 2
      omega
    · have := bulks_mem (n := 8) (l := ls.map TpI) fun x hx => by
        obtain ⟨l, hll, rfl⟩ := List.mem_map.mp hx
        rw [bulk_TpI]
        have := lot_len (hl l hll)
        omega
      rw [List.length_map] at this
      show PyData.bulkAll (ls.map TpI) + 2 ≤ 640
      omega
  | add ns e hl h =>
    refine ⟨fn_TpI fun x hx => ?_, Nat.le_trans (depth_TpI ns) (by decide), by rw [bulk_TpI]; omega, fun s e => by cases e⟩
    have := h x hx
    exact Nat.lt_of_lt_of_le (show x.natAbs < 10 by omega) (by decide +kernel)
  | chs cs e hl h =>
    obtain ⟨k4, _⟩ := hch e
    have ro : rulOk (ownRul w k) := ⟨k0, k4⟩
    have ha := (pat_size (decide (w = "likers")) k k0 k4).2.2
    refine ⟨fn_TpI fun x hx => ?_, Nat.le_trans (depth_TpI cs) (by decide), by rw [bulk_TpI, hl]; have := ha.2; show (allF _ k).length + 2 ≤ 640; omega, fun s e => by cases e⟩
    obtain ⟨i, hi, rfl⟩ := List.getElem_of_mem hx
    have hi2 : i < (rulAll (ownRul w k)).length := by omega
    have hin := h i _ _ (List.getElem?_eq_getElem hi2) (List.getElem?_eq_getElem hi)
    have := (ha.1 _ (show (rulAll (ownRul w k))[i] ∈ allF _ k from List.getElem_mem hi2)).2 _ hin
    exact Nat.lt_of_lt_of_le (show (cs[i]).natAbs < 10 by omega) (by decide +kernel)
theorem pg_f : ∀ {h : Ho} {p : PyData}, h.ok → isPg h p → Pgf h p
  | .plain w k r, p, ok, pg => by
    obtain ⟨h1, h2, h3, h4⟩ := plpg_f ok pg
    exact ⟨h1, h2, by show p.bulk + 2 ≤ (640 + 2 * 0) * 1; omega, h4⟩
  | .both a b, p, ok, ⟨x, y, e, pa, pb⟩ => by
    subst e
    have ha := pg_f ok.1 pa
    have hb := pg_f ok.2 pb
    have da := ha.dp
    have db := hb.dp
    refine ⟨?_, ?_, ?_, fun s e => by cases e⟩
    · simp [fnD, fnDs, ha.fn, hb.fn]
    · show max x.depth (max y.depth 0) + 1 ≤ max a.dep b.dep + 1 + 2
      omega
    · have ba := ha.bk
      have bb := hb.bk
      have m1 : (640 + 2 * a.dep) * a.lv ≤ (640 + 2 * (max a.dep b.dep + 1)) * a.lv := Nat.mul_le_mul_right _ (by omega)
      have m2 : (640 + 2 * b.dep) * b.lv ≤ (640 + 2 * (max a.dep b.dep + 1)) * b.lv := Nat.mul_le_mul_right _ (by omega)
      show x.bulk + 1 + (y.bulk + 1 + 0) + 2 ≤ (640 + 2 * (max a.dep b.dep + 1)) * (a.lv + b.lv)
      rw [Nat.mul_add]
      omega
  | .ruled r b, p, ok, ⟨xs, e, hl, px⟩ => by
    subst e
    have hx : ∀ x ∈ xs, Pgf b x := fun x h => pg_f ok.2 (px x h)
    refine ⟨?_, ?_, ?_, fun s e => by cases e⟩
    · rw [fnD]
      exact fns_mem fun x h => (hx x h).fn
    · have := depths_mem (n := b.dep + 2) (l := xs) fun x h => (hx x h).dp
      show PyData.depthAll xs + 1 ≤ b.dep + 1 + 2
      omega
    · have l0 := lv_pos ok.2
      have l1 : 1 ≤ r.all.length * b.lv := lv_pos (h := .ruled r b) ok
      have := bulks_mem (n := (640 + 2 * b.dep) * b.lv - 2) (l := xs) fun x h => by have := (hx x h).bk; omega
      rw [hl] at this
      show PyData.bulkAll xs + 2 ≤ (640 + 2 * (b.dep + 1)) * (r.all.length * b.lv)
      have e1 : (640 + 2 * (b.dep + 1)) * (r.all.length * b.lv) = (640 + 2 * b.dep) * b.lv * r.all.length + 2 * (r.all.length * b.lv) := by
        rw [show 640 + 2 * (b.dep + 1) = 640 + 2 * b.dep + 2 by omega, Nat.add_mul, Nat.mul_assoc, Nat.mul_comm b.lv]
      have m1 : ((640 + 2 * b.dep) * b.lv - 2 + 1) * r.all.length ≤ (640 + 2 * b.dep) * b.lv * r.all.length := Nat.mul_le_mul_right _ (by
        have : 640 * 1 ≤ (640 + 2 * b.dep) * b.lv := Nat.mul_le_mul (by omega) l0
        omega)
      omega
/-! houses -/
theorem fn_words : ∀ w ∈ words, fnD (.str w) = true ∧ (PyData.str w).bulk ≤ 10 := by decide +kernel
theorem rul_f (r : Rul) (ro : rulOk r) : fnD (rulD r) = true ∧ (rulD r).depth ≤ 1 ∧ (rulD r).bulk ≤ 8 := by
  cases r with
  | marks n m =>
    obtain ⟨n1, n3, m2, m4⟩ := ro
    refine ⟨?_, by show max 0 (max 0 (max 0 0)) + 1 ≤ 1; decide, by show 5 + 1 + (0 + 1 + (0 + 1 + 0)) ≤ 8; decide⟩
    have h1 : fnD (.str "marks") = true := by decide +kernel
    simp only [rulD, fnD, fnDs] at h1 ⊢
    rw [h1, decide_eq_true (Nat.lt_of_lt_of_le (show (n : Int).natAbs < 10 by omega) (by decide +kernel)), decide_eq_true (Nat.lt_of_lt_of_le (show (m : Int).natAbs < 10 by omega) (by decide +kernel))]
    rfl
  | other l n =>
    obtain ⟨n1, n4⟩ := ro
    have h1 : fnD (.str "likes") = true := by decide +kernel
    have h2 : fnD (.str "ranks") = true := by decide +kernel
    have hn : decide ((n : Int).natAbs < 10 ^ 60) = true := decide_eq_true (Nat.lt_of_lt_of_le (show (n : Int).natAbs < 10 by omega) (by decide +kernel))
    cases l with
    | true =>
      refine ⟨?_, by show max 0 (max 0 0) + 1 ≤ 1; decide, by show 5 + 1 + (0 + 1 + 0) ≤ 8; decide⟩
      simp only [rulD, fnD, fnDs] at h1 ⊢
      rw [h1, hn]
      rfl
    | false =>
      refine ⟨?_, by show max 0 (max 0 0) + 1 ≤ 1; decide, by show 5 + 1 + (0 + 1 + 0) ≤ 8; decide⟩
      simp only [rulD, fnD, fnDs] at h2 ⊢
      rw [h2, hn]
      rfl
structure Hof (h : Ho) : Prop where
  fn : fnD h.d = true
  dp : h.d.depth ≤ h.dep + 2
  bk : h.d.bulk + 20 ≤ 40 * 2 ^ h.dep
theorem nat_fn {k : Nat} (h : k ≤ 100) : fnD (.int (k : Int)) = true := fn_small (by omega) (by omega)
theorem ho_f : ∀ {h : Ho}, h.ok → Hof h
  | .plain w k r, ⟨hw, k0, k1, hrl, had, hno, hch⟩ => by
    have f1 := (fn_words w hw).1
    have f2 := (fn_words w hw).2
    have f3 : fnD (.int (k : Int)) = true := nat_fn (by omega)
    have hr : r = [] ∨ ∃ c : Nat, r = [.int c] ∧ c ≤ 9 := by
      by_cases e : w = "adders"
      · exact .inr (had e)
      · exact .inl (hno e)
    have d0 : (PyData.str w).depth = 0 := rfl
    rcases hr with rfl | ⟨c, rfl, hc⟩
    · refine ⟨?_, by show max (PyData.str w).depth (max 0 0) + 1 ≤ 0 + 2; rw [d0]; decide, ?_⟩
      · show fnD (.tuple _) = true
        rw [fnD, fnDs, fnDs, fnDs, f1, f3]; rfl
      · show (PyData.str w).bulk + 1 + (0 + 1 + 0) + 20 ≤ 40 * 1
        omega
    · have f4 : fnD (.int (c : Int)) = true := nat_fn (by omega)
      refine ⟨?_, by show max (PyData.str w).depth (max 0 (max 0 0)) + 1 ≤ 0 + 2; rw [d0]; decide, ?_⟩
      · show fnD (.tuple _) = true
        rw [fnD, fnDs, fnDs, fnDs, fnDs, f1, f3, f4]; rfl
      · show (PyData.str w).bulk + 1 + (0 + 1 + (0 + 1 + 0)) + 20 ≤ 40 * 1
        omega
  | .both a b, ok => by
    have ha := ho_f ok.1
    have hb := ho_f ok.2
    have da := ha.dp
    have db := hb.dp
    have fb : fnD (.str "both") = true := by decide +kernel
    refine ⟨?_, ?_, ?_⟩
    · show fnD (.tuple [.str "both", a.d, b.d]) = true
      rw [fnD, fnDs, fnDs, fnDs, fnDs, fb, ha.fn, hb.fn]; rfl
    · show max 0 (max a.d.depth (max b.d.depth 0)) + 1 ≤ max a.dep b.dep + 1 + 2
      omega
    · have ba := ha.bk
      have bb := hb.bk
      have e1 : 2 ^ a.dep ≤ 2 ^ max a.dep b.dep := Nat.pow_le_pow_right (by decide) (Nat.le_max_left ..)
      have e2 : 2 ^ b.dep ≤ 2 ^ max a.dep b.dep := Nat.pow_le_pow_right (by decide) (Nat.le_max_right ..)
      show 4 + 1 + (a.d.bulk + 1 + (b.d.bulk + 1 + 0)) + 20 ≤ 40 * 2 ^ (max a.dep b.dep + 1)
      rw [Nat.pow_succ]
      omega
  | .ruled r b, ok => by
    have hb := ho_f ok.2
    have db := hb.dp
    obtain ⟨r0, ro, rfl⟩ := ok.1
    obtain ⟨r1, r2, r3⟩ := rul_f r0 ro
    have fb : fnD (.str "ruled") = true := by decide +kernel
    refine ⟨?_, ?_, ?_⟩
    · show fnD (.tuple [.str "ruled", (rlOf r0).d, b.d]) = true
      rw [fnD, fnDs, fnDs, fnDs, fnDs, fb, rl_d, r1, hb.fn]; rfl
    · show max 0 (max (rlOf r0).d.depth (max b.d.depth 0)) + 1 ≤ b.dep + 1 + 2
      rw [rl_d]
      omega
    · have bb := hb.bk
      have := Nat.pow_pos (n := b.dep) (show 0 < 2 by decide)
      show 5 + 1 + ((rlOf r0).d.bulk + 1 + (b.d.bulk + 1 + 0)) + 20 ≤ 40 * 2 ^ (b.dep + 1)
      rw [Nat.pow_succ, rl_d]
      omega
/-! answers -/
def BigR (row : List Int) : Prop := ∀ x ∈ row, x.natAbs < 10 ^ 41
theorem big_at {row : List Int} (h : BigR row) (i : Int) : (atR row i).natAbs < 10 ^ 41 := by
  unfold atR
  rw [List.getD_eq_getElem?_getD]
  cases e : row[i.toNat]? with
  | none => show (0 : Int).natAbs < _; decide +kernel
  | some x => exact h x (List.mem_of_getElem? e)
theorem min_in : ∀ {l : List Int}, l ≠ [] → minD l ∈ l
  | [x], _ => by simp [minD]
  | x :: y :: r, _ => by
    have := min_in (l := y :: r) (by simp)
    show (if x < minD (y :: r) then x else minD (y :: r)) ∈ _
    split
    · simp
    · exact List.mem_cons_of_mem _ this
theorem max_in : ∀ {l : List Int}, l ≠ [] → maxD l ∈ l
  | [x], _ => by simp [maxD]
  | x :: y :: r, _ => by
    have := max_in (l := y :: r) (by simp)
    show (if maxD (y :: r) < x then x else maxD (y :: r)) ∈ _
    split
    · simp
    · exact List.mem_cons_of_mem _ this
theorem big_min {row : List Int} (h : BigR row) (l : List Int) : (leastR row l).natAbs < 10 ^ 41 := by
  unfold leastR
  by_cases e : l = []
  · subst e; show (0 : Int).natAbs < _; decide +kernel
  · obtain ⟨x, _, ex⟩ := List.mem_map.mp (min_in (min_ne (f := atR row) e))
    rw [← ex]
    exact big_at h x
theorem big_max {row : List Int} (h : BigR row) (l : List Int) : (mostR row l).natAbs < 10 ^ 41 := by
  unfold mostR
  by_cases e : l = []
  · subst e; show (0 : Int).natAbs < _; decide +kernel
  · obtain ⟨x, _, ex⟩ := List.mem_map.mp (max_in (min_ne (f := atR row) e))
    rw [← ex]
    exact big_at h x
theorem sum_abs : ∀ (l : List Int) (B : Nat), (∀ x ∈ l, x.natAbs ≤ B) → l.sum.natAbs ≤ l.length * B
  | [], B, _ => by simp
  | x :: l, B, h => by
    have h1 := h x (by simp)
    have h2 := sum_abs l B fun y hy => h y (by simp [hy])
    rw [List.sum_cons, List.length_cons, Nat.succ_mul]
    have := Int.natAbs_add_le x l.sum
    omega
theorem big_sum {ns row : List Int} (h : BigR row) (hl : ns.length ≤ 8) (hn : ∀ x ∈ ns, -9 ≤ x ∧ x ≤ 9) : (sumR ns row).natAbs < 10 ^ 45 := by
  unfold sumR
  have := sum_abs ((ns.zip row).map fun p => p.1 * p.2) (9 * 10 ^ 41) fun y hy => by
    obtain ⟨p, hp, rfl⟩ := List.mem_map.mp hy
    have h1 := hn _ (List.of_mem_zip hp).1
    have h2 := h _ (List.of_mem_zip hp).2
    rw [Int.natAbs_mul]
    exact Nat.mul_le_mul (show p.1.natAbs ≤ 9 by omega) (Nat.le_of_lt h2)
  rw [List.length_map, List.length_zip] at this
  have m : min ns.length row.length * (9 * 10 ^ 41) ≤ 8 * (9 * 10 ^ 41) := Nat.mul_le_mul_right _ (by omega)
  refine Nat.lt_of_le_of_lt (Nat.le_trans this m) (by decide +kernel)
theorem big_tell {w : Str} {k : Nat} {r : List PyData} {p : PyData} {row : List Int} (ok : (Ho.plain w k r).ok) (pg : PlPg w k p) (h : BigR row) : (tellW w k p row).natAbs < 10 ^ 45 := by
  have up : ∀ {x : Int}, x.natAbs < 10 ^ 41 → x.natAbs < 10 ^ 45 := fun h => Nat.lt_of_lt_of_le h (by decide +kernel)
  cases pg with
  | bear i e hi => subst e; exact up (big_at h _)
  | lot l e hl =>
    rcases e with rfl | rfl
    · exact up (big_min h _)
    · exact up (big_max h _)
  | lots ls e h0 h1 hl =>
    subst e
    rw [tellW_lev]
    show (maxD ((ls.map TpI).map fun l => leastR row (intsL l))).natAbs < _
    have ne : (ls.map TpI).map (fun l => leastR row (intsL l)) ≠ [] := fun e => h0 (List.map_eq_nil_iff.mp (List.map_eq_nil_iff.mp e))
    obtain ⟨x, _, ex⟩ := List.mem_map.mp (max_in ne)
    rw [← ex]
    exact up (big_min h _)
  | add ns e hl hn =>
    subst e
    rw [tellW_add, intsL_TpI]
    exact big_sum h (by have := ok.2.2.1; omega) hn
  | chs cs e hl hc =>
    rcases e with rfl | rfl
    · exact up (big_at h _)
    · exact up (big_at h _)
theorem big_take {row : List Int} (h : BigR row) (n : Nat) : BigR (row.take n) := fun x hx => h x (List.mem_of_mem_take hx)
theorem big_drop {row : List Int} (h : BigR row) (n : Nat) : BigR (row.drop n) := fun x hx => h x (List.mem_of_mem_drop hx)
theorem ans_f : ∀ {h : Ho} {p : PyData} {row : List Int}, h.ok → isPg h p → Rw h row → BigR row → fnD (tellD h p row) = true ∧ (tellD h p row).depth ≤ h.dep ∧ (tellD h p row).bulk + 2 ≤ 2 * 2 ^ h.dep ∧ (∀ s, tellD h p row ≠ .str s) ∧ ansDue h (tellD h p row) = true
  | .plain w k r, p, row, ok, pg, x, big => by
    refine ⟨fn_int (Nat.lt_of_lt_of_le (big_tell ok pg big) (by decide +kernel)), Nat.le_refl 0, Nat.le_refl 2, (fun s e => by cases e), rfl⟩
  | .both a b, p, row, ok, ⟨x, y, e, pa, pb⟩, rr, big => by
    subst e
    obtain ⟨a1, a2, a3, _, a5⟩ := ans_f ok.1 pa rr.one (big_take big _)
    obtain ⟨b1, b2, b3, _, b5⟩ := ans_f ok.2 pb rr.two (big_drop big _)
    have e : tellD (.both a b) (.tuple [x, y]) row = .tuple [tellD a x (row.take a.sz), tellD b y (row.drop a.sz)] := rfl
    rw [e]
    refine ⟨?_, ?_, ?_, (fun s e => by cases e), ?_⟩
    · simp [fnD, fnDs, a1, b1]
    · show max (tellD a x (row.take a.sz)).depth (max (tellD b y (row.drop a.sz)).depth 0) + 1 ≤ max a.dep b.dep + 1
      omega
    · have e1 : 2 ^ a.dep ≤ 2 ^ max a.dep b.dep := Nat.pow_le_pow_right (by decide) (Nat.le_max_left ..)
      have e2 : 2 ^ b.dep ≤ 2 ^ max a.dep b.dep := Nat.pow_le_pow_right (by decide) (Nat.le_max_right ..)
      show (tellD a x (row.take a.sz)).bulk + 1 + ((tellD b y (row.drop a.sz)).bulk + 1 + 0) + 2 ≤ 2 * 2 ^ (max a.dep b.dep + 1)
      rw [Nat.pow_succ]
      omega
    · show (ansDue a (tellD a x (row.take a.sz)) && ansDue b (tellD b y (row.drop a.sz))) = true
      rw [a5, b5]; rfl
  | .ruled r b, p, row, ok, ⟨xs, e, hl, px⟩, rr, big => by
    subst e
    obtain ⟨r0, ro, rfl⟩ := ok.1
    have lt := List.idxOf_lt_length_of_mem rr.rul
    have e : tellD (.ruled (rlOf r0) b) (.tuple xs) row = tellD b (xs.getD ((rlOf r0).all.idxOf (patL (rlOf r0).w (row.take (rlOf r0).k))) .none) (row.drop (rlOf r0).k) := rfl
    rw [rl_all] at hl
    rw [rl_all, rl_w] at e
    rw [e]
    have hlt := Nat.lt_of_lt_of_eq lt hl.symm
    obtain ⟨b1, b2, b3, b4, b5⟩ := ans_f ok.2 (px _ (getD_mem hlt)) rr.rest (big_drop big _)
    refine ⟨b1, Nat.le_trans b2 (Nat.le_succ _), Nat.le_trans b3 (Nat.mul_le_mul_left 2 (Nat.pow_le_pow_right (by decide) (Nat.le_succ _))), b4, b5⟩
end PR
/-! PRf -/
set_option maxRecDepth 100000
/-! the program's own defs: which programs there are -/
namespace PR
open PySem PySem.Spec PyProof.Rows L2 Z K02
def ir_is_lot : List IS := [.ite (.or (.not (.isi (.var 0) "tuple")) (.or (.cmp .Eq (.var 0) (.tup [])) (.not (.blt .all [(.lc [2] (.n 2) (.var 0) none (.and (.call 0 [(.var 2)]) (.chn .LtE .Lt (.int (0)) (.var 2) (.var 1))))])))) [.ret (.bl false)] [], .ret (.blt .all [(.lc [2, 3] (.t [(.n 2), (.n 3)]) (.blt .zip [(.var 0), (.sl (.var 0) (some (.int (1))) none)]) none (.cmp .Lt (.var 2) (.var 3)))])]
def ir_are_lots : List IS := [.ite (.or (.not (.isi (.var 0) "tuple")) (.or (.cmp .Eq (.var 0) (.tup [])) (.not (.blt .all [(.lc [2] (.n 2) (.var 0) none (.call 0 [(.var 2), (.var 1)]))])))) [.ret (.bl false)] [], .ite (.not (.blt .all [(.lc [2, 3] (.t [(.n 2), (.n 3)]) (.blt .zip [(.var 0), (.sl (.var 0) (some (.int (1))) none)]) none (.cmp .Lt (.var 2) (.var 3)))])) [.ret (.bl false)] [], .ret (.not (.blt .any [(.lc2 [2, 3] (.n 2) (.var 0) none [3] (.n 3) (.var 0) none (.and (.cmp .NotEq (.var 2) (.var 3)) (.cmp .Eq (.mth .lend (.var 2) [(.var 3)]) (.int (0)))))]))]
def ir_are_multiples : List IS := [.ite (.or (.not (.isi (.var 0) "tuple")) (.or (.cmp .NotEq (.blt .len [(.var 0)]) (.var 1)) (.not (.blt .all [(.lc [3] (.n 3) (.var 0) none (.call 0 [(.var 3)]))])))) [.ret (.bl false)] [], .ret (.cmp .LtE (.blt .sum [(.lc [3] (.n 3) (.var 0) none (.blt .abs [(.var 3)]))]) (.var 2))]
def ir_are_choices : List IS := [.ite (.or (.not (.isi (.var 0) "tuple")) (.cmp .NotEq (.blt .len [(.var 0)]) (.blt .len [(.var 1)]))) [.ret (.bl false)] [], .ret (.blt .all [(.lc [2, 3] (.t [(.n 2), (.n 3)]) (.blt .zip [(.var 0), (.var 1)]) none (.and (.call 0 [(.var 2)]) (.cmp .In (.var 2) (.var 3))))])]
def ir_is_joined_program : List IS := [.asg (.t [(.n 2), (.n 3), (.n 4)]) (.var 0), .ite (.not (.isi (.var 1) "tuple")) [.ret (.bl false)] [], .ite (.cmp .Eq (.var 2) (.str "both")) [.ret (.and (.cmp .Eq (.blt .len [(.var 1)]) (.int (2))) (.and (.call 0 [(.var 3), (.ix (.var 1) (.int (0)))]) (.call 0 [(.var 4), (.ix (.var 1) (.int (1)))])))] [], .ret (.and (.cmp .Eq (.blt .len [(.var 1)]) (.blt .len [(.call 1 [(.var 3)])])) (.blt .all [(.lc [5] (.n 5) (.var 1) none (.call 0 [(.var 4), (.var 5)]))]))]
def ir_is_program : List IS := [.asg (.t [(.n 2), (.n 3)]) (.sl (.var 0) none (some (.int (2)))), .ite (.cmp .In (.var 2) (.tup [(.str "both"), (.str "ruled")])) [.ret (.call 0 [(.var 0), (.var 1)])] [], .ite (.cmp .Eq (.var 2) (.str "bearers")) [.ret (.and (.call 5 [(.var 1)]) (.chn .LtE .Lt (.int (0)) (.var 1) (.var 3)))] [], .ite (.cmp .In (.var 2) (.tup [(.str "leasts"), (.str "greatests")])) [.ret (.call 1 [(.var 1), (.var 3)])] [], .ite (.cmp .Eq (.var 2) (.str "levellers")) [.ret (.call 2 [(.var 1), (.var 3)])] [], .ret (.ite (.cmp .Eq (.var 2) (.str "adders")) (.call 3 [(.var 1), (.var 3), (.ix (.var 0) (.int (2)))]) (.call 4 [(.var 1), (.call 6 [(.var 0)])]))]
theorem bools_f {α : Type} (f : α → Bool) (l : List α) : bools? (l.map fun x => PyData.bool (f x)) = some (l.map f) := by
  have := bools_map (l.map f)
  rwa [List.map_map] at this
theorem all_f {α : Type} (f : α → Bool) (l : List α) : (l.map f).all id = l.all f := by rw [List.all_map]; rfl
theorem any_f {α : Type} (f : α → Bool) (l : List α) : (l.map f).any id = l.any f := by rw [List.any_map]; rfl
theorem cut1 (xs : List PyData) : Z.cutD xs (some 1) none = xs.drop 1 := cut_hi (k := 1)
/-- each two neighbours -/
def adj {α : Type} (r : α → α → Bool) (l : List α) : Bool := (l.zip (l.drop 1)).all fun p => r p.1 p.2
theorem adj_pw {α : Type} {r : α → α → Bool} (tr : ∀ a b c, r a b = true → r b c = true → r a c = true) : ∀ {l : List α}, adj r l = true ↔ l.Pairwise (fun a b => r a b = true)
  | [] => by simp [adj]
  | [x] => by simp [adj]
  | x :: y :: l => by
    have ih := adj_pw tr (l := y :: l)
    have e : adj r (x :: y :: l) = (r x y && adj r (y :: l)) := rfl
    rw [e, Bool.and_eq_true, ih, List.pairwise_cons (a := x)]
    constructor
    · rintro ⟨h1, h2⟩
      refine ⟨fun z hz => ?_, h2⟩
      rcases List.mem_cons.mp hz with rfl | hz
      · exact h1
      · exact tr _ _ _ h1 ((List.pairwise_cons.mp h2).1 z hz)
    · rintro ⟨h1, h2⟩
      exact ⟨h1 y (by simp), h2⟩
/-! lots -/
def placeB (k : Nat) (x : PyData) : Bool := whole x && (decide (0 ≤ toI x) && decide (toI x < k))
def ltB (a b : Int) : Bool := decide (a < b)
def lotB (k : Nat) : PyData → Bool
  | .tuple xs => !xs.isEmpty && (xs.all (placeB k) && adj ltB (xs.map toI))
  | _ => false
theorem place_whole {k : Nat} {xs : List PyData} (h : xs.all (placeB k) = true) : xs.all whole = true := List.all_eq_true.mpr fun x hx => by
  have := List.all_eq_true.mp h x hx
  unfold placeB at this
  rw [Bool.and_eq_true] at this
  exact this.1
theorem lot_iff {k : Nat} {d : PyData} : lotB k d = true ↔ ∃ l, d = TpI l ∧ Lot k l := by
  constructor
  · intro h
    cases d with
    | tuple xs =>
      have h : (!xs.isEmpty && (xs.all (placeB k) && adj ltB (xs.map toI))) = true := h
      rw [Bool.and_eq_true, Bool.and_eq_true, Bool.not_eq_true'] at h
      obtain ⟨h0, h1, h2⟩ := h
      have e := whole_all (place_whole h1)
      refine ⟨xs.map toI, by show PyData.tuple xs = .tuple ((xs.map toI).map .int); rw [← e], fun z => ?_, ?_, fun x hx => ?_⟩
      · rw [List.map_eq_nil_iff] at z
        subst z
        cases h0
      · exact ((adj_pw (r := ltB) (fun a b c h1 h2 => decide_eq_true (by have := of_decide_eq_true h1; have := of_decide_eq_true h2; omega))).mp h2).imp fun {a b} h => of_decide_eq_true h
      · obtain ⟨y, hy, rfl⟩ := List.mem_map.mp hx
        have := List.all_eq_true.mp h1 y hy
        unfold placeB at this
        rw [Bool.and_eq_true, Bool.and_eq_true, decide_eq_true_eq, decide_eq_true_eq] at this
        exact this.2
    | _ => cases h
  · rintro ⟨l, rfl, h0, h1, h2⟩
    show (!(l.map PyData.int).isEmpty && ((l.map PyData.int).all (placeB k) && adj ltB ((l.map PyData.int).map toI))) = true
    have e : (l.map PyData.int).map toI = l := by rw [List.map_map]; exact List.map_id _
    rw [e, Bool.and_eq_true, Bool.and_eq_true]
    refine ⟨?_, ?_, ?_⟩
    · cases l with
      | nil => exact absurd rfl h0
      | cons x l => rfl
    · refine List.all_eq_true.mpr fun x hx => ?_
      obtain ⟨i, hi, rfl⟩ := List.mem_map.mp hx
      have := h2 i hi
      show (true && (decide (0 ≤ i) && decide (i < k))) = true
      rw [decide_eq_true this.1, decide_eq_true this.2]
      rfl
    · exact (adj_pw (r := ltB) (fun a b c h1 h2 => decide_eq_true (by have := of_decide_eq_true h1; have := of_decide_eq_true h2; omega))).mpr (h1.imp fun {a b} h => decide_eq_true h)
def ctIsLot : Ct := fun zs c Q => ∃ (d : PyData) (k : Nat), zs = [.d d, .d (.int k)] ∧ Q (.d (.bool (lotB k d))) c
theorem zip_drop (ns : List Int) : zipD (ns.map PyData.int) (Z.cutD (ns.map PyData.int) (some 1) none) = (ns.zip (ns.drop 1)).map fun p => .tuple [.int p.1, .int p.2] := by
  rw [cut1, ← List.map_drop, zip_ints]
theorem w_is_lot {Q : KZ} {c k : Nat} {d : PyData} (q : Q (.d (.bool (lotB k d))) c) : wSs (ctF [ctWhole] []) Gn ir_is_lot [some (.d d), some (.d (.int k)), none, none] c (iniR Q) := by
  cases d with
  | tuple xs =>
    have q : Q (.d (.bool (!xs.isEmpty && (xs.all (placeB k) && adj ltB (xs.map toI))))) c := q
    walk_at "zw"
    refine ⟨by rw [sizeLine_eq]; decide, ?_⟩
    walk_at "zw"
    refine ⟨trivial, ?_⟩
    rw [eqv_nil]
    cases xs with
    | nil => exact q
    | cons x xs =>
      generalize hX : x :: xs = X at q ⊢
      have he : X.isEmpty = false := by rw [← hX]; rfl
      rw [he] at q ⊢
      walk_at "zw"
      refine lcW_map (fun y => .bool (placeB k y)) (fun y hy Q1 q1 => ?_) ?_
      · walk_at "zw"
        refine ⟨y, rfl, ?_⟩
        unfold placeB at q1
        cases y <;> first | exact q1 | skip
        rename_i i
        walk_at "zw"
        have q1 : Q1 [.bool (true && (decide (0 ≤ i) && decide (i < k)))] c := q1
        cases h : decide ((0 : Int) ≤ i) with
        | true => rw [h] at q1; exact q1
        | false => rw [h] at q1; exact q1
      · walk_at "zw"
        refine ⟨_, bools_f _ X, ?_⟩
        rw [all_f]
        cases ha : X.all (placeB k) with
        | false => rw [ha] at q; exact q
        | true =>
          rw [ha] at q
          have e := whole_all (place_whole ha)
          generalize X.map toI = ns at e q
          subst e
          walk_at "zw"
          rw [zip_drop]
          refine lcW_om (e := fun p : Int × Int => PyData.tuple [.int p.1, .int p.2]) (fun p => PyData.bool (ltB p.1 p.2)) (fun p hp Q1 q1 => ?_) ?_
          · walk_at "zw"
            refine ⟨rfl, ?_⟩
            exact q1
          · walk_at "zw"
            refine ⟨_, bools_f _ (ns.zip (ns.drop 1)), ?_⟩
            rw [all_f]
            exact q
  | _ => exact q
/-! lots, none in another -/
def inB (a b : List Int) : Bool := !decide (a = b) && a.all fun x => decide (x ∈ b)
def lotsB (k : Nat) : PyData → Bool
  | .tuple xs => !xs.isEmpty && (xs.all (lotB k) && (adj HT.lexLt (xs.map intsL) && !((xs.map intsL).any fun a => (xs.map intsL).any fun b => inB a b)))
  | _ => false
theorem lots_of {k : Nat} : ∀ {xs : List PyData}, xs.all (lotB k) = true → ∃ L : List (List Int), xs = L.map TpI ∧ ∀ l ∈ L, Lot k l
  | [], _ => ⟨[], rfl, fun l h => by cases h⟩
  | x :: xs, h => by
    rw [List.all_cons, Bool.and_eq_true] at h
    obtain ⟨l, rfl, hl⟩ := lot_iff.mp h.1
    obtain ⟨L, rfl, hL⟩ := lots_of h.2
    exact ⟨l :: L, rfl, fun z hz => (List.mem_cons.mp hz).elim (fun e => e ▸ hl) (hL z)⟩
theorem map_intsL (L : List (List Int)) : (L.map TpI).map intsL = L := by
  rw [List.map_map]
  have : intsL ∘ TpI = id := by funext l; exact intsL_TpI l
  rw [this]
  exact List.map_id _
theorem ded_pos {l : List Int} (h : l ≠ []) : 1 ≤ (dedI l).length := by
  obtain ⟨x, hx⟩ := List.exists_mem_of_ne_nil _ h
  exact List.length_pos_of_mem (ded_mem.mpr hx)
theorem sub0 (a b : List Int) : decide ((((dedI (a.filter fun k => !decide (k ∈ b))).length : Nat) : Int) = 0) = a.all fun x => decide (x ∈ b) := by
  rw [Bool.eq_iff_iff, decide_eq_true_eq, List.all_eq_true]
  constructor
  · intro h x hx
    have h : (dedI (a.filter fun k => !decide (k ∈ b))).length = 0 := by omega
    by_cases e : x ∈ b
    · exact decide_eq_true e
    · have hm : x ∈ dedI (a.filter fun k => !decide (k ∈ b)) := ded_mem.mpr (List.mem_filter.mpr ⟨hx, by rw [decide_eq_false e]; rfl⟩)
      rw [List.eq_nil_of_length_eq_zero h] at hm
      cases hm
  · intro h
    have e : a.filter (fun k => !decide (k ∈ b)) = [] := List.filter_eq_nil_iff.mpr fun x hx => by rw [h x hx]; simp
    rw [e]
    rfl
theorem zip_TpI : ∀ (a b : List (List Int)), zipD (a.map TpI) (b.map TpI) = (a.zip b).map fun p => .tuple [TpI p.1, TpI p.2]
  | [], _ => by cases ‹List (List Int)› <;> rfl
  | _ :: _, [] => rfl
  | x :: a, y :: b => by
    show PyData.tuple [TpI x, TpI y] :: zipD (a.map TpI) (b.map TpI) = _
    rw [zip_TpI a b]; rfl
theorem lt_TpI (a b : List Int) : lexLtD (a.map PyData.int) (b.map PyData.int) = some (HT.lexLt a b) := by
  unfold lexLtD
  rw [Z.ints_map, Z.ints_map]
def ctAreLots : Ct := fun zs c Q => ∃ (d : PyData) (k : Nat), zs = [.d d, .d (.int k)] ∧ k ≤ 7 ∧ (∀ xs, d = .tuple xs → xs.length ≤ 4000) ∧ Q (.d (.bool (lotsB k d))) c
theorem bools_flat {α : Type} (g : α → List Bool) (l : List α) : bools? (l.flatMap fun a => (g a).map PyData.bool) = some (l.flatMap g) := by
  have := bools_map (l.flatMap g)
  rwa [List.map_flatMap] at this
theorem any_flat {α β : Type} (f : α → β → Bool) (m : List β) (l : List α) : (l.flatMap fun a => m.map (f a)).any id = l.any fun a => m.any (f a) := by
  induction l with
  | nil => rfl
  | cons x l ih => rw [List.flatMap_cons, List.any_append, List.any_cons, ih, any_f]
theorem flat1 {α β : Type} (f : α → β) : ∀ l : List α, l.flatMap (fun b => [f b]) = l.map f
  | [] => rfl
  | x :: l => by rw [List.flatMap_cons, List.map_cons, flat1 f l]; rfl
theorem neOk_TpI (a b : List Int) : neOk (TpI a) (TpI b) := ⟨sh_tup a, sh_tup b⟩
theorem w_are_lots {Q : KZ} {c k : Nat} {d : PyData} (k7 : k ≤ 7) (hd : ∀ xs, d = .tuple xs → xs.length ≤ 4000) (q : Q (.d (.bool (lotsB k d))) c) : wSs (ctF [ctIsLot] []) Gn ir_are_lots [some (.d d), some (.d (.int k)), none, none] c (iniR Q) := by
  have sl : sizeLine = 16777216 := sizeLine_eq
  cases d with
  | tuple xs =>
    have hx4 := hd xs rfl
    have q : Q (.d (.bool (!xs.isEmpty && (xs.all (lotB k) && (adj HT.lexLt (xs.map intsL) && !((xs.map intsL).any fun a => (xs.map intsL).any fun b => inB a b)))))) c := q
    walk_at "zw"
    refine ⟨by rw [sl]; decide, ?_⟩
    walk_at "zw"
    refine ⟨trivial, ?_⟩
    rw [eqv_nil]
    cases xs with
    | nil => exact q
    | cons x xs =>
      generalize hX : x :: xs = X at q hx4 ⊢
      have he : X.isEmpty = false := by rw [← hX]; rfl
      rw [he] at q ⊢
      walk_at "zw"
      refine lcW_map (fun y => .bool (lotB k y)) (fun y hy Q1 q1 => ?_) ?_
      · walk_at "zw"
        exact ⟨y, k, rfl, q1⟩
      · walk_at "zw"
        refine ⟨_, bools_f _ X, ?_⟩
        rw [all_f]
        cases ha : X.all (lotB k) with
        | false => rw [ha] at q; exact q
        | true =>
          rw [ha] at q
          obtain ⟨L, e, hL⟩ := lots_of ha
          subst e
          rw [map_intsL] at q
          rw [List.length_map] at hx4
          walk_at "zw"
          rw [cut1, ← List.map_drop, zip_TpI]
          refine lcW_om (e := fun p : List Int × List Int => PyData.tuple [TpI p.1, TpI p.2]) (fun p => PyData.bool (HT.lexLt p.1 p.2)) (fun p hp Q1 q1 => ?_) ?_
          · walk_at "zw"
            refine ⟨rfl, ?_⟩
            walk_at "zw"
            exact ⟨_, lt_TpI p.1 p.2, q1⟩
          · walk_at "zw"
            refine ⟨_, bools_f _ (L.zip (L.drop 1)), ?_⟩
            rw [all_f]
            have q : Q (.d (.bool (adj HT.lexLt L && !(L.any fun a => L.any fun b => inB a b)))) c := q
            cases hj : adj HT.lexLt L with
            | false =>
              rw [hj] at q
              have hj : ((L.zip (L.drop 1)).all fun p => HT.lexLt p.1 p.2) = false := hj
              rw [hj]
              exact q
            | true =>
              rw [hj] at q
              have hj : ((L.zip (L.drop 1)).all fun p => HT.lexLt p.1 p.2) = true := hj
              rw [hj]
              walk_at "zw"
              refine lcA_on (e := TpI) (fun a => (L.map (inB a)).map PyData.bool) 16777216 ?_ (fun a ha acc Q1 hacc q1 => ?_) ?_
              · have : ∀ M : List (List Int), (M.flatMap fun a => (L.map (inB a)).map PyData.bool).length = M.length * L.length := fun M => by
                  induction M with
                  | nil => simp
                  | cons x M ih => rw [List.flatMap_cons, List.length_append, ih, List.length_map, List.length_map, List.length_cons, Nat.succ_mul, Nat.add_comm]
                rw [this, List.length_nil, Nat.zero_add]
                exact Nat.le_trans (Nat.mul_le_mul hx4 hx4) (by decide)
              · walk_at "zw"
                rw [List.map_map] at q1
                rw [List.length_map, List.length_map] at hacc
                have fl : L.flatMap (fun b => [PyData.bool (inB a b)]) = L.map (PyData.bool ∘ inB a) := flat1 _ L
                rw [← fl] at q1
                refine lcA_on (e := TpI) (fun b => [PyData.bool (inB a b)]) 16777216 (by rw [fl, List.length_map]; exact hacc) (fun b hb acc2 Q2 hacc2 q2 => ?_) q1
                walk_at "zw"
                refine ⟨neOk_TpI a b, ?_⟩
                rw [eqv_TpI]
                rw [List.length_singleton] at hacc2
                unfold inB at q2
                cases h : decide (a = b) with
                | true =>
                  rw [h] at q2
                  exact ⟨by rw [sl]; omega, q2⟩
                | false =>
                  rw [h] at q2
                  have q2 : Q2 (acc2 ++ [.bool (a.all fun x => decide (x ∈ b))]) c := q2
                  have la := lot_len (hL a ha)
                  have l1 := ded_le a
                  have l2 := ded_pos (hL b hb).1
                  walk_at "zw"
                  refine ⟨⟨by rw [Z.ints_map]; rfl, by rw [List.length_map]; omega⟩, ?_⟩
                  walk_at "zw"
                  refine ⟨a, b, Z.ints_map a, Z.ints_map b, by have := lot_len (hL b hb); omega, by omega, ?_⟩
                  walk_at "zw"
                  refine ⟨⟨sh_int _, sh_int _⟩, ?_⟩
                  rw [eqv_int, sub0]
                  exact ⟨by rw [sl]; omega, q2⟩
              · rw [List.nil_append]
                walk_at "zw"
                refine ⟨_, bools_flat (fun a => L.map (inB a)) L, ?_⟩
                rw [any_flat]
                exact q
  | _ => exact q
/-! multiples, choices -/
def mulsB (k m : Nat) : PyData → Bool
  | .tuple xs => decide (xs.length = k) && (xs.all whole && decide (((xs.map toI).map fun i => (i.natAbs : Int)).sum ≤ m))
  | _ => false
def ctAreMuls : Ct := fun zs c Q => ∃ (d : PyData) (k m : Nat), zs = [.d d, .d (.int k), .d (.int m)] ∧ Q (.d (.bool (mulsB k m d))) c
theorem w_are_muls {Q : KZ} {c k m : Nat} {d : PyData} (q : Q (.d (.bool (mulsB k m d))) c) : wSs (ctF [ctWhole] []) Gn ir_are_multiples [some (.d d), some (.d (.int k)), some (.d (.int m)), none] c (iniR Q) := by
  cases d with
  | tuple xs =>
    replace q : Q (.d (.bool (decide (xs.length = k) && (xs.all whole && decide (((xs.map toI).map fun i => (i.natAbs : Int)).sum ≤ m))))) c := q
    walk_at "zw"
    refine ⟨⟨sh_int _, sh_int _⟩, ?_⟩
    rw [eqv_int]
    have e : decide ((xs.length : Int) = (k : Int)) = decide (xs.length = k) := by
      rw [Bool.eq_iff_iff, decide_eq_true_eq, decide_eq_true_eq]
      omega
    rw [e]
    cases h : decide (xs.length = k) with
    | false => rw [h] at q; exact q
    | true =>
      rw [h] at q
      walk_at "zw"
      refine lcW_map (fun y => .bool (whole y)) (fun y hy Q1 q1 => ?_) ?_
      · walk_at "zw"
        exact ⟨y, rfl, q1⟩
      · walk_at "zw"
        refine ⟨_, bools_f _ xs, ?_⟩
        rw [all_f]
        cases ha : xs.all whole with
        | false => rw [ha] at q; exact q
        | true =>
          rw [ha] at q
          have e := whole_all ha
          generalize xs.map toI = ns at e q
          subst e
          walk_at "zw"
          refine lcW_om (e := PyData.int) (fun i => PyData.int (i.natAbs : Int)) (fun i hi Q1 q1 => ?_) ?_
          · exact q1
          · walk_at "zw"
            refine ⟨_, ints_f _ ns, ?_⟩
            exact q
  | _ => exact q
def chsB (all : List (List Int)) : PyData → Bool
  | .tuple xs => decide (xs.length = all.length) && (xs.zip all).all fun p => whole p.1 && decide (toI p.1 ∈ p.2)
  | _ => false
def ctAreChs : Ct := fun zs c Q => ∃ (d : PyData) (all : List (List Int)), zs = [.d d, .d (.tuple (all.map TpI))] ∧ Q (.d (.bool (chsB all d))) c
theorem zip_mix : ∀ (a : List PyData) (b : List (List Int)), zipD a (b.map TpI) = (a.zip b).map fun p => .tuple [p.1, TpI p.2]
  | [], _ => by cases ‹List (List Int)› <;> rfl
  | _ :: _, [] => rfl
  | x :: a, y :: b => by
    show PyData.tuple [x, TpI y] :: zipD a (b.map TpI) = _
    rw [zip_mix a b]; rfl
theorem w_are_chs {Q : KZ} {c : Nat} {d : PyData} {all : List (List Int)} (q : Q (.d (.bool (chsB all d))) c) : wSs (ctF [ctWhole] []) Gn ir_are_choices [some (.d d), some (.d (.tuple (all.map TpI))), none, none] c (iniR Q) := by
  cases d with
  | tuple xs =>
    have q : Q (.d (.bool (decide (xs.length = all.length) && (xs.zip all).all fun p => whole p.1 && decide (toI p.1 ∈ p.2)))) c := q
    walk_at "zw"
    refine ⟨⟨sh_int _, sh_int _⟩, ?_⟩
    rw [eqv_int]
    have e : decide ((xs.length : Int) = ((all.map TpI).length : Int)) = decide (xs.length = all.length) := by
      rw [Bool.eq_iff_iff, decide_eq_true_eq, decide_eq_true_eq, List.length_map]
      omega
    rw [e]
    cases h : decide (xs.length = all.length) with
    | false => rw [h] at q; exact q
    | true =>
      rw [h] at q
      walk_at "zw"
      rw [zip_mix]
      refine lcW_om (e := fun p : PyData × List Int => PyData.tuple [p.1, TpI p.2]) (fun p => PyData.bool (whole p.1 && decide (toI p.1 ∈ p.2))) (fun p hp Q1 q1 => ?_) ?_
      · obtain ⟨x, l⟩ := p
        walk_at "zw"
        refine ⟨rfl, ?_⟩
        walk_at "zw"
        refine ⟨x, rfl, ?_⟩
        cases x <;> first | exact q1 | skip
        rename_i i
        walk_at "zw"
        refine ⟨sh_int _, sh_tup _, ?_⟩
        rw [any_int]
        exact q1
      · walk_at "zw"
        refine ⟨_, bools_f _ (xs.zip all), ?_⟩
        rw [all_f]
        exact q
  | _ => exact q
/-! programs -/
def limOf : List PyData → Nat
  | [.int m] => m.toNat
  | _ => 0
def plB (w : Str) (k : Nat) (r : List PyData) (d : PyData) : Bool :=
  if w = "bearers" then placeB k d
  else if w = "leasts" ∨ w = "greatests" then lotB k d
  else if w = "levellers" then lotsB k d
  else if w = "adders" then mulsB k (limOf r) d
  else chsB (rulAll (ownRul w k)) d
def pgB : Ho → PyData → Bool
  | .plain w k r, d => plB w k r d
  | .both a b, d => match d with
    | .tuple [x, y] => pgB a x && pgB b y
    | _ => false
  | .ruled r b, d => match d with
    | .tuple xs => decide (xs.length = r.all.length) && xs.all (pgB b)
    | _ => false
/-- levellers of few places -/
def Ho.few : Ho → Prop
  | .plain w k _ => w = "levellers" → k ≤ 7
  | .both a b => a.few ∧ b.few
  | .ruled _ b => b.few
/-- no tuple in it is long -/
inductive Short : PyData → Prop
  | tup (xs : List PyData) (h : xs.length ≤ 4000) (hx : ∀ x ∈ xs, Short x) : Short (.tuple xs)
  | oth (d : PyData) (h : ∀ xs, d ≠ .tuple xs) : Short d
theorem Short.len {xs : List PyData} (h : Short (.tuple xs)) : xs.length ≤ 4000 ∧ ∀ x ∈ xs, Short x := by
  cases h with
  | tup _ h hx => exact ⟨h, hx⟩
  | oth _ h => exact absurd rfl (h xs)
def ctIsPg (n : Nat) : Ct := fun zs c Q => ∃ (h : Ho) (d : PyData), zs = [.d h.d, .d d] ∧ 2 * h.dep + 1 < n ∧ h.dep < 4 ∧ h.ok ∧ h.few ∧ Short d ∧ Q (.d (.bool (pgB h d))) c
def ctIsJp (n : Nat) : Ct := fun zs c Q => ∃ (h : Ho) (d : PyData), zs = [.d h.d, .d d] ∧ 2 * h.dep < n ∧ h.dep < 4 ∧ h.jn ∧ h.ok ∧ h.few ∧ Short d ∧ Q (.d (.bool (pgB h d))) c
theorem w_is_joined {Q : KZ} {c n : Nat} {h : Ho} {d : PyData} (hn : 2 * h.dep < n + 1) (hd : h.dep < 4) (j : h.jn) (ok : h.ok) (fw : h.few) (sh : Short d) (q : Q (.d (.bool (pgB h d))) c) :
    wSs (ctF [ctIsPg n, ctPatterns] []) Gn ir_is_joined_program [some (.d h.d), some (.d d), none, none, none, none] c (iniR Q) := by
  cases h with
  | plain w k r => exact j.elim
  | both a b =>
    have hd' : max a.dep b.dep + 1 < 4 := hd
    have hn' : 2 * (max a.dep b.dep + 1) < n + 1 := hn
    walk_at "zw"
    refine ⟨rfl, ?_⟩
    cases d with
    | tuple xs =>
      have hx := sh.len.2
      walk_at "zw"
      refine ⟨trivial, ?_⟩
      walk_at "zw"
      refine ⟨⟨sh_int _, sh_int _⟩, ?_⟩
      rw [eqv_int]
      match xs, hx, q with
      | [x, y], hx, q =>
        have q : Q (.d (.bool (pgB a x && pgB b y))) c := q
        walk_at "zw"
        refine ⟨_, at0, ?_⟩
        walk_at "zw"
        refine ⟨a, x, rfl, by omega, by omega, ok.1, fw.1, hx x (by simp), ?_⟩
        cases ha : pgB a x with
        | false => rw [ha] at q; exact q
        | true =>
          rw [ha] at q
          walk_at "zw"
          refine ⟨_, at1, ?_⟩
          walk_at "zw"
          exact ⟨b, y, rfl, by omega, by omega, ok.2, fw.2, hx y (by simp), q⟩
      | [], _, q => exact q
      | [_], _, q => exact q
      | _ :: _ :: _ :: r, _, q =>
        rw [decide_eq_false (by simp only [List.length_cons]; omega)]
        exact q
    | _ => exact q
  | ruled r b =>
    obtain ⟨r0, ro, rfl⟩ := ok.1
    have hd' : b.dep + 1 < 4 := hd
    have hn' : 2 * (b.dep + 1) < n + 1 := hn
    walk_at "zw"
    refine ⟨rfl, ?_⟩
    cases d with
    | tuple xs =>
      have hx := sh.len.2
      have q : Q (.d (.bool (decide (xs.length = (rlOf r0).all.length) && xs.all (pgB b)))) c := q
      rw [rl_all] at q
      walk_at "zw"
      refine ⟨trivial, ?_⟩
      walk_at "zw"
      refine ⟨r0, by rw [← rl_d], ro, ?_⟩
      walk_at "zw"
      refine ⟨⟨sh_int _, sh_int _⟩, ?_⟩
      rw [eqv_int]
      have e : decide ((xs.length : Int) = (((rulAll r0).map TpI).length : Int)) = decide (xs.length = (rulAll r0).length) := by
        rw [Bool.eq_iff_iff, decide_eq_true_eq, decide_eq_true_eq, List.length_map]
        omega
      rw [e]
      cases h : decide (xs.length = (rulAll r0).length) with
      | false => rw [h] at q; exact q
      | true =>
        rw [h] at q
        walk_at "zw"
        refine lcW_map (fun y => .bool (pgB b y)) (fun y hy Q1 q1 => ?_) ?_
        · walk_at "zw"
          exact ⟨b, y, rfl, by omega, by omega, ok.2, fw, hx y hy, q1⟩
        · walk_at "zw"
          refine ⟨_, bools_f _ xs, ?_⟩
          rw [all_f]
          exact q
    | _ => exact q
theorem w_is_pg {Q : KZ} {c n : Nat} {h : Ho} {d : PyData} (hn : 2 * h.dep + 1 < n + 1) (hd : h.dep < 4) (ok : h.ok) (fw : h.few) (sh : Short d) (q : Q (.d (.bool (pgB h d))) c) :
    wSs (ctF [ctIsJp n, ctIsLot, ctAreLots, ctAreMuls, ctAreChs, ctWhole, ctPatsOf] []) Gn ir_is_program [some (.d h.d), some (.d d), none, none] c (iniR Q) := by
  have sl : sizeLine = 16777216 := sizeLine_eq
  cases h with
  | both a b =>
    walk_at "zw"
    refine ⟨rfl, ?_⟩
    walk_at "zw"
    refine ⟨by rw [sl]; decide, ?_⟩
    walk_at "zw"
    refine ⟨by decide +kernel, by decide +kernel, ?_⟩
    walk_at "zw"
    exact ⟨.both a b, d, rfl, by omega, hd, trivial, ok, fw, sh, q⟩
  | ruled r b =>
    walk_at "zw"
    refine ⟨rfl, ?_⟩
    walk_at "zw"
    refine ⟨by rw [sl]; decide, ?_⟩
    walk_at "zw"
    refine ⟨by decide +kernel, by decide +kernel, ?_⟩
    walk_at "zw"
    exact ⟨.ruled r b, d, rfl, by omega, hd, trivial, ok, fw, sh, q⟩
  | plain w k r =>
    replace q : Q (.d (.bool (plB w k r d))) c := q
    replace fw : w = "levellers" → k ≤ 7 := fw
    obtain ⟨hw, k0, k1, hrl, had, hno, hch⟩ := ok
    simp only [words, List.mem_cons, List.not_mem_nil, or_false] at hw
    rcases hw with rfl | rfl | rfl | rfl | rfl | rfl | rfl
    · replace q : Q (.d (.bool (placeB k d))) c := q
      walk_at "zw"
      refine ⟨rfl, ?_⟩
      walk_at "zw"
      refine ⟨by rw [sl]; decide, ?_⟩
      walk_at "zw"
      refine ⟨by decide +kernel, by decide +kernel, ?_⟩
      walk_at "zw"
      refine ⟨trivial, ?_⟩
      walk_at "zw"
      refine ⟨d, rfl, ?_⟩
      cases d <;> first | exact q | skip
      rename_i i
      have q : Q (.d (.bool (true && (decide (0 ≤ i) && decide (i < k))))) c := q
      walk_at "zw"
      cases h : decide ((0 : Int) ≤ i) with
      | true => rw [h] at q; exact q
      | false => rw [h] at q; exact q
    · have q : Q (.d (.bool (lotB k d))) c := q
      walk_at "zw"
      refine ⟨rfl, ?_⟩
      walk_at "zw"
      refine ⟨by rw [sl]; decide, ?_⟩
      walk_at "zw"
      refine ⟨by decide +kernel, by decide +kernel, ?_⟩
      walk_at "zw"
      refine ⟨trivial, ?_⟩
      walk_at "zw"
      refine ⟨by rw [sl]; decide, ?_⟩
      walk_at "zw"
      refine ⟨by decide +kernel, by decide +kernel, ?_⟩
      walk_at "zw"
      exact ⟨d, k, rfl, q⟩
    · have q : Q (.d (.bool (lotB k d))) c := q
      walk_at "zw"
      refine ⟨rfl, ?_⟩
      walk_at "zw"
      refine ⟨by rw [sl]; decide, ?_⟩
      walk_at "zw"
      refine ⟨by decide +kernel, by decide +kernel, ?_⟩
      walk_at "zw"
      refine ⟨trivial, ?_⟩
      walk_at "zw"
      refine ⟨by rw [sl]; decide, ?_⟩
      walk_at "zw"
      refine ⟨by decide +kernel, by decide +kernel, ?_⟩
      walk_at "zw"
      exact ⟨d, k, rfl, q⟩
    · have q : Q (.d (.bool (lotsB k d))) c := q
      walk_at "zw"
      refine ⟨rfl, ?_⟩
      walk_at "zw"
      refine ⟨by rw [sl]; decide, ?_⟩
      walk_at "zw"
      refine ⟨by decide +kernel, by decide +kernel, ?_⟩
      walk_at "zw"
      refine ⟨trivial, ?_⟩
      walk_at "zw"
      refine ⟨by rw [sl]; decide, ?_⟩
      walk_at "zw"
      refine ⟨by decide +kernel, by decide +kernel, ?_⟩
      walk_at "zw"
      refine ⟨trivial, ?_⟩
      walk_at "zw"
      exact ⟨d, k, rfl, fw rfl, fun xs e => (e ▸ sh).len.1, q⟩
    · obtain ⟨m, rfl, m9⟩ := had rfl
      have q : Q (.d (.bool (mulsB k m d))) c := q
      walk_at "zw"
      refine ⟨rfl, ?_⟩
      walk_at "zw"
      refine ⟨by rw [sl]; decide, ?_⟩
      walk_at "zw"
      refine ⟨by decide +kernel, by decide +kernel, ?_⟩
      walk_at "zw"
      refine ⟨trivial, ?_⟩
      walk_at "zw"
      refine ⟨by rw [sl]; decide, ?_⟩
      walk_at "zw"
      refine ⟨by decide +kernel, by decide +kernel, ?_⟩
      iterate 2
        walk_at "zw"
        refine ⟨trivial, ?_⟩
      walk_at "zw"
      refine ⟨_, at2, ?_⟩
      walk_at "zw"
      exact ⟨d, k, m, rfl, q⟩
    all_goals
      obtain ⟨k4, rfl⟩ := hch (by first | exact .inl rfl | exact .inr rfl)
      walk_at "zw"
      refine ⟨rfl, ?_⟩
      walk_at "zw"
      refine ⟨by rw [sl]; decide, ?_⟩
      walk_at "zw"
      refine ⟨by decide +kernel, by decide +kernel, ?_⟩
      walk_at "zw"
      refine ⟨trivial, ?_⟩
      walk_at "zw"
      refine ⟨by rw [sl]; decide, ?_⟩
      walk_at "zw"
      refine ⟨by decide +kernel, by decide +kernel, ?_⟩
      iterate 2
        walk_at "zw"
        refine ⟨trivial, ?_⟩
      walk_at "zw"
      refine ⟨_, k, rfl, by first | exact .inl rfl | exact .inr rfl, k0, k4, ?_⟩
      walk_at "zw"
      exact ⟨d, _, rfl, q⟩
/-! rising tuples of lots -/
theorem lex_dec : ∀ a b : List Int, HT.lexLt a b = decide (a < b)
  | [], [] => by simp [HT.lexLt]
  | [], y :: b => by simp [HT.lexLt]
  | x :: a, [] => by simp [HT.lexLt]
  | x :: a, y :: b => by
    rw [HT.lexLt_cons, lex_dec a b]
    by_cases e : x = y
    · subst e
      rw [if_pos rfl]
      simp [List.cons_lt_cons_iff]
    · rw [if_neg e]
      simp [List.cons_lt_cons_iff, e]
theorem lex_tri : ∀ a b : List Int, HT.lexLt b a = false → a ≠ b → HT.lexLt a b = true
  | [], [], _, h => absurd rfl h
  | [], _ :: _, _, _ => rfl
  | _ :: _, [], h, _ => by cases h
  | x :: a, y :: b, h, hn => by
    rw [HT.lexLt_cons] at h ⊢
    by_cases e : x = y
    · subst e
      rw [if_pos rfl] at h ⊢
      exact lex_tri a b h fun e => hn (by rw [e])
    · rw [if_neg (fun z => e z.symm)] at h
      rw [if_neg e]
      have := of_decide_eq_false h
      exact decide_eq_true (by omega)
theorem lex_trans : ∀ a b c : List Int, HT.lexLt a b = true → HT.lexLt b c = true → HT.lexLt a c = true
  | [], [], _, h, _ => by cases h
  | [], _ :: _, [], _, h => by cases h
  | [], _ :: _, _ :: _, _, _ => rfl
  | _ :: _, [], _, h, _ => by cases h
  | _ :: _, _ :: _, [], _, h => by cases h
  | x :: a, y :: b, z :: c, h1, h2 => by
    rw [HT.lexLt_cons] at h1 h2 ⊢
    by_cases e1 : x = y
    · subst e1
      rw [if_pos rfl] at h1
      by_cases e2 : x = z
      · subst e2
        rw [if_pos rfl] at h2 ⊢
        exact lex_trans a b c h1 h2
      · rw [if_neg e2] at h2 ⊢
        exact h2
    · rw [if_neg e1] at h1
      have h1 := of_decide_eq_true h1
      by_cases e2 : y = z
      · subst e2
        rw [if_neg e1]
        exact decide_eq_true h1
      · rw [if_neg e2] at h2
        have h2 := of_decide_eq_true h2
        rw [if_neg (by omega)]
        exact decide_eq_true (by omega)
theorem lex_irr : ∀ a : List Int, HT.lexLt a a = false
  | [] => rfl
  | x :: a => by rw [HT.lexLt_cons, if_pos rfl]; exact lex_irr a
theorem adj_lex {l : List (List Int)} : adj HT.lexLt l = true ↔ l.Pairwise (fun a b => HT.lexLt a b = true) := adj_pw lex_trans
/-- sorted, each once -/
theorem rise_of {r : List (List Int)} (nd : r.Nodup) (hs : r.Pairwise fun a b => srtLe (TpI a) (TpI b) = true) : adj HT.lexLt r = true := by
  rw [adj_lex]
  refine (hs.and nd).imp fun {a b} h => ?_
  obtain ⟨h1, h2⟩ := h
  rw [srtLe_TpI, decide_eq_true_eq] at h1
  refine lex_tri a b ?_ h2
  rw [lex_dec]
  exact decide_eq_false h1
theorem lots_true {k : Nat} {r : List (List Int)} (h0 : r ≠ []) (hl : ∀ l ∈ r, Lot k l) (ha : adj HT.lexLt r = true) (hn : (r.any fun a => r.any fun b => inB a b) = false) : lotsB k (.tuple (r.map TpI)) = true := by
  show (!(r.map TpI).isEmpty && ((r.map TpI).all (lotB k) && (adj HT.lexLt ((r.map TpI).map intsL) && !(((r.map TpI).map intsL).any fun a => ((r.map TpI).map intsL).any fun b => inB a b)))) = true
  rw [map_intsL, ha, hn]
  have e1 : (r.map TpI).isEmpty = false := by
    cases r with
    | nil => exact absurd rfl h0
    | cons x r => rfl
  have e2 : (r.map TpI).all (lotB k) = true := List.all_eq_true.mpr fun x hx => by
    obtain ⟨l, hll, rfl⟩ := List.mem_map.mp hx
    exact lot_iff.mpr ⟨l, rfl, hl l hll⟩
  rw [e1, e2]
  rfl
/-- what the lots are -/
theorem lots_is {k : Nat} {d : PyData} (h : lotsB k d = true) : ∃ L : List (List Int), d = .tuple (L.map TpI) ∧ L ≠ [] ∧ (∀ l ∈ L, Lot k l) ∧ adj HT.lexLt L = true ∧ (L.any fun a => L.any fun b => inB a b) = false := by
  cases d with
  | tuple xs =>
    have h : (!xs.isEmpty && (xs.all (lotB k) && (adj HT.lexLt (xs.map intsL) && !((xs.map intsL).any fun a => (xs.map intsL).any fun b => inB a b)))) = true := h
    rw [Bool.and_eq_true, Bool.and_eq_true, Bool.and_eq_true, Bool.not_eq_true', Bool.not_eq_true'] at h
    obtain ⟨h0, h1, h2, h3⟩ := h
    obtain ⟨L, rfl, hL⟩ := lots_of h1
    rw [map_intsL] at h2 h3
    refine ⟨L, rfl, fun e => ?_, hL, h2, h3⟩
    subst e
    cases h0
  | _ => cases h
end PR
/-! F05 -/
set_option maxRecDepth 100000
namespace K05
open PySem PySem.Spec PyProof.Rows L2 Z
abbrev topS (i : Nat) : Stmt := PySem.Challenge.pw_trytwins_k05_whole_joined_by_parts.main.body.getD i (.Pass ⟨0, 0, 0, 0⟩)
/-! _law_pot -/
abbrev s_law_pot : Stmt := topS 30
abbrev c_law_pot : CE := ⟨["_law_script", "_law_k", "_law_one", "_law_cell", "_law_seed"], defScope s_law_pot, fun _ => true, [], [], ["int", "len", "abs"], [], []⟩
theorem sc_law_pot : FnScope ["_law_script", "_law_k", "_law_one", "_law_cell", "_law_seed"] ["_law_script", "_law_k"] (defScope s_law_pot) := ⟨rfl, rfl, rfl, by decide +kernel, rfl, by decide +kernel, by decide +kernel⟩
def ir_law_pot : List IS := [.par [3, 4] [(.ite (.cmp .Lt (.var 1) (.blt .len [(.var 0)])) (.ix (.var 0) (.var 1)) (.int (0))), (.bin .Add (.bin .Mult (.int (15485867)) (.var 1)) (.int (71)))], .loop (.n 2) (.bin .Add (.lst [(.var 3)]) (.sl (.var 0) none (some (.int (60))))) [.asg (.n 4) (.bin .Mod (.bin .Add (.bin .Add (.bin .Mult (.var 4) (.int (424242424243))) (.bin .Mult (.int (2)) (.blt .abs [(.var 2)]))) (.blt .int [(.cmp .Lt (.var 2) (.int (0)))])) (.int (2305843009213693951)))], .retP [(.bin .Mult (.bin .Mod (.blt .abs [(.var 3)]) (.bin .Pow (.bin .Pow (.int (10)) (.int (60))) (.int (5)))) (.blt .int [(.cmp .GtE (.blt .abs [(.var 3)]) (.bin .Pow (.int (10)) (.int (18))))])), (.var 4), (.int (0))]]
theorem e_law_pot : cSs 60 c_law_pot [1000] (defBody s_law_pot) = some ir_law_pot := by kernel_rfl
/-! _law_take -/
abbrev s_law_take : Stmt := topS 31
abbrev c_law_take : CE := ⟨["_law_pot_here", "_law_count", "_law_mixed", "_law_digit"], defScope s_law_take, fun _ => true, [], [], [], [], []⟩
theorem sc_law_take : FnScope ["_law_pot_here", "_law_count", "_law_mixed", "_law_digit"] ["_law_pot_here", "_law_count"] (defScope s_law_take) := ⟨rfl, rfl, rfl, by decide +kernel, rfl, by decide +kernel, by decide +kernel⟩
def ir_law_take : List IS := [.ite (.cmp .Gt (.ix (.var 0) (.int (0))) (.int (0))) [.asg (.n 3) (.bin .Mod (.ix (.var 0) (.int (0))) (.var 1)), .pst 0 (0) (.bin .FloorDiv (.ix (.var 0) (.int (0))) (.var 1)), .ret (.var 3)] [], .pst 0 (2) (.bin .Add (.ix (.var 0) (.int (2))) (.int (1))), .asg (.n 2) (.bin .Mod (.bin .Mult (.bin .Add (.bin .Add (.ix (.var 0) (.int (1))) (.bin .Mult (.bin .Mult (.int (86028157)) (.ix (.var 0) (.int (2)))) (.ix (.var 0) (.int (2))))) (.int (19))) (.int (39373))) (.int (2305843009213693921))), .asg (.n 2) (.bin .Mod (.bin .Mult (.var 2) (.bin .Add (.bin .Mod (.var 2) (.int (1000003))) (.bin .Mult (.int (15485917)) (.ix (.var 0) (.int (2)))))) (.int (2305843009213693907))), .ret (.bin .Mod (.bin .Add (.bin .FloorDiv (.var 2) (.int (101))) (.bin .FloorDiv (.var 2) (.int (1000037)))) (.var 1))]
theorem e_law_take : cSs 60 c_law_take [] (defBody s_law_take) = some ir_law_take := by kernel_rfl
/-! _law_of -/
abbrev s_law_of : Stmt := topS 32
abbrev c_law_of : CE := ⟨["_law_pot_here", "_law_some"], defScope s_law_of, fun _ => true, ["_law_take"], [], ["len"], [], []⟩
theorem sc_law_of : FnScope ["_law_pot_here", "_law_some"] ["_law_pot_here", "_law_some"] (defScope s_law_of) := ⟨rfl, rfl, rfl, by decide +kernel, rfl, by decide +kernel, by decide +kernel⟩
def ir_law_of : List IS := [.ret (.ix (.var 1) (.call 0 [(.var 0), (.blt .len [(.var 1)])]))]
theorem e_law_of : cSs 60 c_law_of [] (defBody s_law_of) = some ir_law_of := by kernel_rfl
/-! _law_plain -/
abbrev s_law_plain : Stmt := topS 37
abbrev c_law_plain : CE := ⟨["_law_pot_here", "_law_room", "_law_word", "_law_size"], defScope s_law_plain, fun _ => true, ["_law_of", "_law_take"], [], [], [], []⟩
theorem sc_law_plain : FnScope ["_law_pot_here", "_law_room", "_law_word", "_law_size"] ["_law_pot_here", "_law_room"] (defScope s_law_plain) := ⟨rfl, rfl, rfl, by decide +kernel, rfl, by decide +kernel, by decide +kernel⟩
def ir_law_plain : List IS := [.asg (.n 2) (.call 0 [(.var 0), (.lst [(.str "bearers"), (.str "leasts"), (.str "greatests"), (.str "levellers"), (.str "adders"), (.str "likers"), (.str "rankers")])]), .asg (.n 3) (.bin .Add (.int (1)) (.call 1 [(.var 0), (.mth .get (.ext (.dsp [(.inr "bearers"), (.inr "leasts"), (.inr "greatests"), (.inr "adders"), (.inr "rankers")]) [(.int (6)), (.int (5)), (.int (5)), (.int (3)), (.int (3))]) [(.var 2), (.int (4))])])), .ite (.cmp .Gt (.ix (.mth .get (.ext (.dsp [(.inr "likers"), (.inr "rankers")]) [(.tup [(.int (1)), (.int (2)), (.int (5)), (.int (15))]), (.tup [(.int (1)), (.int (3)), (.int (13))])]) [(.var 2), (.bin .Mult (.tup [(.int (1))]) (.int (6)))]) (.bin .Sub (.var 3) (.int (1)))) (.var 1)) [.asg (.n 2) (.str "bearers")] [], .ret (.ite (.cmp .Eq (.var 2) (.str "adders")) (.tup [(.var 2), (.var 3), (.bin .Add (.int (1)) (.call 1 [(.var 0), (.int (6))]))]) (.tup [(.var 2), (.var 3)]))]
theorem e_law_plain : cSs 60 c_law_plain [] (defBody s_law_plain) = some ir_law_plain := by kernel_rfl
/-! _law_house -/
abbrev s_law_house : Stmt := topS 38
abbrev c_law_house : CE := ⟨["_law_pot_here", "_law_deep", "_law_room", "_law_way", "_law_some", "_law_at", "_law_many"], defScope s_law_house, fun _ => true, ["_law_take", "_law_plain", "_law_house"], [], [], [], []⟩
theorem sc_law_house : FnScope ["_law_pot_here", "_law_deep", "_law_room", "_law_way", "_law_some", "_law_at", "_law_many"] ["_law_pot_here", "_law_deep", "_law_room"] (defScope s_law_house) := ⟨rfl, rfl, rfl, by decide +kernel, rfl, by decide +kernel, by decide +kernel⟩
def ir_law_house : List IS := [.asg (.n 3) (.ite (.and (.cmp .Gt (.var 1) (.int (1))) (.cmp .Gt (.var 2) (.int (1)))) (.call 0 [(.var 0), (.int (5))]) (.int (0))), .ite (.cmp .Lt (.var 3) (.int (2))) [.ret (.call 1 [(.var 0), (.var 2)])] [], .ite (.cmp .Eq (.var 3) (.int (2))) [.ret (.tup [(.str "both"), (.call 2 [(.var 0), (.bin .Sub (.var 1) (.int (1))), (.bin .FloorDiv (.var 2) (.int (2)))]), (.call 2 [(.var 0), (.bin .Sub (.var 1) (.int (1))), (.bin .FloorDiv (.var 2) (.int (2)))])])] [], .asg (.n 4) (.lst [(.tup [(.str "marks"), (.int (1)), (.int (2))]), (.tup [(.str "likes"), (.int (2))]), (.tup [(.str "ranks"), (.int (2))]), (.tup [(.str "marks"), (.int (2)), (.int (2))]), (.tup [(.str "likes"), (.int (3))]), (.tup [(.str "marks"), (.int (1)), (.int (4))])]), .par [4, 6] [(.bin .Add (.var 4) (.lst [(.tup [(.str "ranks"), (.int (3))])])), (.lst [(.int (2)), (.int (2)), (.int (3)), (.int (4)), (.int (5)), (.int (4)), (.int (13))])], .asg (.n 5) (.call 0 [(.var 0), (.int (7))]), .ite (.cmp .Gt (.ix (.var 6) (.var 5)) (.var 2)) [.ret (.call 1 [(.var 0), (.var 2)])] [], .ret (.tup [(.str "ruled"), (.ix (.var 4) (.var 5)), (.call 2 [(.var 0), (.bin .Sub (.var 1) (.int (1))), (.bin .FloorDiv (.var 2) (.ix (.var 6) (.var 5)))])])]
theorem e_law_house : cSs 60 c_law_house [] (defBody s_law_house) = some ir_law_house := by kernel_rfl
/-! _law_places -/
abbrev s_law_places : Stmt := topS 41
abbrev c_law_places : CE := ⟨["_law_pot_here", "_law_size", "_law_some", "_law_place"], defScope s_law_places, fun _ => true, ["_law_take"], [], ["tuple", "range"], [], []⟩
theorem sc_law_places : FnScope ["_law_pot_here", "_law_size", "_law_some", "_law_place"] ["_law_pot_here", "_law_size"] (defScope s_law_places) := ⟨rfl, rfl, rfl, by decide +kernel, rfl, by decide +kernel, by decide +kernel⟩
def ir_law_places : List IS := [.asg (.n 2) (.lc [3] (.n 3) (.blt .range [(.var 1)]) (some (.cmp .Eq (.call 0 [(.var 0), (.int (2))]) (.int (0)))) (.var 3)), .ret (.ite (.cmp .NotEq (.var 2) (.lst [])) (.blt .tuple [(.var 2)]) (.tup [(.call 0 [(.var 0), (.var 1)])]))]
theorem e_law_places : cSs 60 c_law_places [] (defBody s_law_places) = some ir_law_places := by kernel_rfl
/-! _law_lots -/
abbrev s_law_lots : Stmt := topS 40
abbrev c_law_lots : CE := ⟨["_law_lots_here", "_law_some", "_law_one", "_law_other"], defScope s_law_lots, fun _ => true, [], [], ["tuple", "sorted", "set", "any", "len"], [], []⟩
theorem sc_law_lots : FnScope ["_law_lots_here", "_law_some", "_law_one", "_law_other"] ["_law_lots_here"] (defScope s_law_lots) := ⟨rfl, rfl, rfl, by decide +kernel, rfl, by decide +kernel, by decide +kernel⟩
def ir_law_lots : List IS := [.asg (.n 1) (.lc [2] (.n 2) (.var 0) (some (.not (.blt .any [(.lc [3] (.n 3) (.var 0) none (.and (.cmp .Eq (.mth .lend (.var 3) [(.var 2)]) (.int (0))) (.cmp .NotEq (.var 3) (.var 2))))]))) (.var 2)), .ret (.blt .tuple [(.ext .srtset [(.var 1)])])]
theorem e_law_lots : cSs 60 c_law_lots [] (defBody s_law_lots) = some ir_law_lots := by kernel_rfl
/-! _law_below -/
abbrev s_law_below : Stmt := topS 34
abbrev c_law_below : CE := ⟨["_law_size", "_law_limit", "_law_found", "_law_turn", "_law_grown", "_law_one", "_law_number"], defScope s_law_below, fun _ => true, [], [], ["range"], [], []⟩
theorem sc_law_below : FnScope ["_law_size", "_law_limit", "_law_found", "_law_turn", "_law_grown", "_law_one", "_law_number"] ["_law_size", "_law_limit"] (defScope s_law_below) := ⟨rfl, rfl, rfl, by decide +kernel, rfl, by decide +kernel, by decide +kernel⟩
def ir_law_below : List IS := [.asg (.n 2) (.lst [(.tup [])]), .loop (.n 3) (.blt .range [(.var 0)]) [.new 4 (.lst []), .loop (.n 5) (.var 2) [.ext 4 (.lc [6] (.n 6) (.blt .range [(.var 1)]) none (.bin .Add (.var 5) (.tup [(.var 6)])))], .frz 4, .asg (.n 2) (.var 4)], .ret (.var 2)]
theorem e_law_below : cSs 60 c_law_below [4] (defBody s_law_below) = some ir_law_below := by kernel_rfl
/-! _law_pattern -/
abbrev s_law_pattern : Stmt := topS 33
abbrev c_law_pattern : CE := ⟨["_law_word", "_law_things", "_law_firsts", "_law_thing", "_law_first", "_law_other"], defScope s_law_pattern, fun _ => true, [], [], ["tuple", "len", "list", "set"], [], []⟩
theorem sc_law_pattern : FnScope ["_law_word", "_law_things", "_law_firsts", "_law_thing", "_law_first", "_law_other"] ["_law_word", "_law_things"] (defScope s_law_pattern) := ⟨rfl, rfl, rfl, by decide +kernel, rfl, by decide +kernel, by decide +kernel⟩
def ir_law_pattern : List IS := [.ite (.cmp .Eq (.var 0) (.str "marks")) [.ret (.blt .tuple [(.var 1)])] [], .ite (.cmp .Eq (.var 0) (.str "ranks")) [.ret (.blt .tuple [(.lc [3] (.n 3) (.var 1) none (.ext .lenset [(.lc [5] (.n 5) (.var 1) (some (.cmp .Lt (.var 5) (.var 3))) (.var 5))]))])] [], .asg (.n 2) (.lc [3] (.n 3) (.var 1) none (.mth .index (.blt .list [(.var 1)]) [(.var 3)])), .ret (.blt .tuple [(.lc [4] (.n 4) (.var 2) none (.ext .lenset [(.lc [5] (.n 5) (.var 2) (some (.cmp .Lt (.var 5) (.var 4))) (.var 5))]))])]
theorem e_law_pattern : cSs 60 c_law_pattern [] (defBody s_law_pattern) = some ir_law_pattern := by kernel_rfl
/-! _law_all -/
abbrev s_law_all : Stmt := topS 35
abbrev c_law_all : CE := ⟨["_law_ruler_here", "_law_limit", "_law_one"], defScope s_law_all, fun _ => true, ["_law_below", "_law_pattern"], [], [], [], []⟩
theorem sc_law_all : FnScope ["_law_ruler_here", "_law_limit", "_law_one"] ["_law_ruler_here"] (defScope s_law_all) := ⟨rfl, rfl, rfl, by decide +kernel, rfl, by decide +kernel, by decide +kernel⟩
def ir_law_all : List IS := [.asg (.n 1) (.ite (.cmp .Eq (.ix (.var 0) (.int (0))) (.str "marks")) (.ix (.var 0) (.int (2))) (.ix (.var 0) (.int (1)))), .ret (.lc [2] (.n 2) (.call 0 [(.ix (.var 0) (.int (1))), (.var 1)]) (some (.cmp .Eq (.call 1 [(.ix (.var 0) (.int (0))), (.var 2)]) (.var 2))) (.var 2))]
theorem e_law_all : cSs 60 c_law_all [] (defBody s_law_all) = some ir_law_all := by kernel_rfl
/-! _law_ruler -/
abbrev s_law_ruler : Stmt := topS 36
abbrev c_law_ruler : CE := ⟨["_law_house_here"], defScope s_law_ruler, fun _ => true, [], [], [], [], []⟩
theorem sc_law_ruler : FnScope ["_law_house_here"] ["_law_house_here"] (defScope s_law_ruler) := ⟨rfl, rfl, rfl, by decide +kernel, rfl, by decide +kernel, by decide +kernel⟩
def ir_law_ruler : List IS := [.ret (.tup [(.ix (.ext (.dsp [(.inr "likers"), (.inr "rankers")]) [(.str "likes"), (.str "ranks")]) (.ix (.var 0) (.int (0)))), (.ix (.var 0) (.int (1)))])]
theorem e_law_ruler : cSs 60 c_law_ruler [] (defBody s_law_ruler) = some ir_law_ruler := by kernel_rfl
/-! _law_program -/
abbrev s_law_program : Stmt := topS 42
abbrev c_law_program : CE := ⟨["_law_pot_here", "_law_house_here", "_law_word", "_law_size", "_law_found", "_law_turn", "_law_at", "_law_one", "_law_k"], defScope s_law_program, fun _ => true, ["_law_take", "_law_places", "_law_lots", "_law_program", "_law_of", "_law_all", "_law_ruler"], [], ["tuple", "range", "sorted", "set"], [], []⟩
theorem sc_law_program : FnScope ["_law_pot_here", "_law_house_here", "_law_word", "_law_size", "_law_found", "_law_turn", "_law_at", "_law_one", "_law_k"] ["_law_pot_here", "_law_house_here"] (defScope s_law_program) := ⟨rfl, rfl, rfl, by decide +kernel, rfl, by decide +kernel, by decide +kernel⟩
def ir_law_program : List IS := [.asg (.t [(.n 2), (.n 3)]) (.sl (.var 1) none (some (.int (2)))), .ite (.cmp .Eq (.var 2) (.str "both")) [.ret (.tup [(.call 3 [(.var 0), (.ix (.var 1) (.int (1)))]), (.call 3 [(.var 0), (.ix (.var 1) (.int (2)))])])] [], .ite (.cmp .Eq (.var 2) (.str "ruled")) [.ret (.blt .tuple [(.lc [7] (.n 7) (.call 5 [(.ix (.var 1) (.int (1)))]) none (.call 3 [(.var 0), (.ix (.var 1) (.int (2)))]))])] [], .ite (.cmp .Eq (.var 2) (.str "bearers")) [.ret (.call 0 [(.var 0), (.var 3)])] [], .ite (.cmp .In (.var 2) (.tup [(.str "leasts"), (.str "greatests")])) [.ret (.call 1 [(.var 0), (.var 3)])] [], .ite (.cmp .Eq (.var 2) (.str "levellers")) [.ret (.call 2 [(.lc [8] (.n 8) (.blt .range [(.bin .Add (.int (1)) (.call 0 [(.var 0), (.int (4))]))]) none (.call 1 [(.var 0), (.var 3)]))])] [], .ite (.cmp .Eq (.var 2) (.str "adders")) [.newr 4 [(.int (0))] (.var 3), .loop (.n 5) (.blt .range [(.call 0 [(.var 0), (.bin .Add (.ix (.var 1) (.int (2))) (.int (1)))])]) [.asg (.n 6) (.call 0 [(.var 0), (.var 3)]), .sti 4 (.var 6) (.bin .Add (.ix (.var 4) (.var 6)) (.ix (.lst [(.int (1)), (.neg (.int (1)))]) (.call 0 [(.var 0), (.int (2))])))], .ret (.blt .tuple [(.var 4)])] [], .ret (.blt .tuple [(.lc [7] (.n 7) (.call 5 [(.call 6 [(.var 1)])]) none (.call 4 [(.var 0), (.ext .srtset [(.var 7)])]))])]
theorem e_law_program : cSs 60 c_law_program [4] (defBody s_law_program) = some ir_law_program := by kernel_rfl
/-! tuples_below -/
abbrev s_tuples_below : Stmt := topS 7
abbrev c_tuples_below : CE := ⟨["size", "limit", "found", "turn", "some", "number"], defScope s_tuples_below, fun _ => true, [], [], ["range"], [], []⟩
theorem sc_tuples_below : FnScope ["size", "limit", "found", "turn", "some", "number"] ["size", "limit"] (defScope s_tuples_below) := ⟨rfl, rfl, rfl, by decide +kernel, rfl, by decide +kernel, by decide +kernel⟩
def ir_tuples_below : List IS := [.asg (.n 2) (.lst [(.tup [])]), .loop (.n 3) (.blt .range [(.var 0)]) [.asg (.n 2) (.lc2 [4, 5] (.n 4) (.var 2) none [5] (.n 5) (.blt .range [(.var 1)]) none (.bin .Add (.var 4) (.tup [(.var 5)])))], .ret (.var 2)]
theorem e_tuples_below : cSs 60 c_tuples_below [] (defBody s_tuples_below) = some ir_tuples_below := by kernel_rfl
/-! grown_by_sorts -/
abbrev s_grown_by_sorts : Stmt := topS 8
abbrev c_grown_by_sorts : CE := ⟨["some", "sort"], defScope s_grown_by_sorts, fun _ => true, [], [], ["range", "len", "set"], [], []⟩
theorem sc_grown_by_sorts : FnScope ["some", "sort"] ["some"] (defScope s_grown_by_sorts) := ⟨rfl, rfl, rfl, by decide +kernel, rfl, by decide +kernel, by decide +kernel⟩
def ir_grown_by_sorts : List IS := [.ret (.lc [1] (.n 1) (.blt .range [(.bin .Add (.ext .lenset [(.var 0)]) (.int (1)))]) none (.bin .Add (.var 0) (.tup [(.var 1)])))]
theorem e_grown_by_sorts : cSs 60 c_grown_by_sorts [] (defBody s_grown_by_sorts) = some ir_grown_by_sorts := by kernel_rfl
/-! grown_by_ranks -/
abbrev s_grown_by_ranks : Stmt := topS 9
abbrev c_grown_by_ranks : CE := ⟨["some", "there", "new", "rank", "one"], defScope s_grown_by_ranks, fun _ => true, [], [], ["len", "set", "tuple", "range", "int"], [], []⟩
theorem sc_grown_by_ranks : FnScope ["some", "there", "new", "rank", "one"] ["some"] (defScope s_grown_by_ranks) := ⟨rfl, rfl, rfl, by decide +kernel, rfl, by decide +kernel, by decide +kernel⟩
def ir_grown_by_ranks : List IS := [.asg (.n 1) (.ext .lenset [(.var 0)]), .asg (.n 2) (.lc [3] (.n 3) (.blt .range [(.bin .Add (.var 1) (.int (1)))]) none (.bin .Add (.blt .tuple [(.lc [4] (.n 4) (.var 0) none (.bin .Add (.var 4) (.blt .int [(.cmp .GtE (.var 4) (.var 3))])))]) (.tup [(.var 3)]))), .ret (.bin .Add (.lc [3] (.n 3) (.blt .range [(.var 1)]) none (.bin .Add (.var 0) (.tup [(.var 3)]))) (.var 2))]
theorem e_grown_by_ranks : cSs 60 c_grown_by_ranks [] (defBody s_grown_by_ranks) = some ir_grown_by_ranks := by kernel_rfl
/-! patterns -/
abbrev s_patterns : Stmt := topS 10
abbrev c_patterns : CE := ⟨["ruler", "found", "turn", "word", "size", "some", "more"], defScope s_patterns, fun _ => true, ["tuples_below", "grown_by_sorts", "grown_by_ranks"], [], ["range", "tuple", "sorted"], [], []⟩
theorem sc_patterns : FnScope ["ruler", "found", "turn", "word", "size", "some", "more"] ["ruler"] (defScope s_patterns) := ⟨rfl, rfl, rfl, by decide +kernel, rfl, by decide +kernel, by decide +kernel⟩
def ir_patterns : List IS := [.asg (.t [(.n 3), (.n 4)]) (.sl (.var 0) none (some (.int (2)))), .ite (.cmp .Eq (.var 3) (.str "marks")) [.ret (.blt .tuple [(.call 0 [(.var 4), (.ix (.var 0) (.int (2)))])])] [], .asg (.n 1) (.lst [(.tup [])]), .loop (.n 2) (.blt .range [(.var 4)]) [.ite (.cmp .Eq (.var 3) (.str "likes")) [.asg (.n 1) (.lc2 [5, 6] (.n 5) (.var 1) none [6] (.n 6) (.call 1 [(.var 5)]) none (.var 6))] [.asg (.n 1) (.lc2 [5, 6] (.n 5) (.var 1) none [6] (.n 6) (.call 2 [(.var 5)]) none (.var 6))]], .ret (.blt .tuple [(.blt .sorted [(.var 1)])])]
theorem e_patterns : cSs 60 c_patterns [] (defBody s_patterns) = some ir_patterns := by kernel_rfl
/-! is_joined_program -/
abbrev s_is_joined_program : Stmt := topS 24
abbrev c_is_joined_program : CE := ⟨["house", "thing", "word", "first", "other", "one"], defScope s_is_joined_program, fun _ => true, ["is_program", "patterns"], [], ["isinstance", "tuple", "all", "len"], [], []⟩
theorem sc_is_joined_program : FnScope ["house", "thing", "word", "first", "other", "one"] ["house", "thing"] (defScope s_is_joined_program) := ⟨rfl, rfl, rfl, by decide +kernel, rfl, by decide +kernel, by decide +kernel⟩
def ir_is_joined_program : List IS := [.asg (.t [(.n 2), (.n 3), (.n 4)]) (.var 0), .ite (.not (.isi (.var 1) "tuple")) [.ret (.bl false)] [], .ite (.cmp .Eq (.var 2) (.str "both")) [.ret (.and (.cmp .Eq (.blt .len [(.var 1)]) (.int (2))) (.and (.call 0 [(.var 3), (.ix (.var 1) (.int (0)))]) (.call 0 [(.var 4), (.ix (.var 1) (.int (1)))])))] [], .ret (.and (.cmp .Eq (.blt .len [(.var 1)]) (.blt .len [(.call 1 [(.var 3)])])) (.blt .all [(.lc [5] (.n 5) (.var 1) none (.call 0 [(.var 4), (.var 5)]))]))]
theorem e_is_joined_program : cSs 60 c_is_joined_program [] (defBody s_is_joined_program) = some ir_is_joined_program := by kernel_rfl
/-! is_whole -/
abbrev s_is_whole : Stmt := topS 3
abbrev c_is_whole : CE := ⟨["thing"], defScope s_is_whole, fun _ => true, [], [], ["isinstance", "int", "bool"], [], []⟩
theorem sc_is_whole : FnScope ["thing"] ["thing"] (defScope s_is_whole) := ⟨rfl, rfl, rfl, by decide +kernel, rfl, by decide +kernel, by decide +kernel⟩
def ir_is_whole : List IS := [.ret (.and (.isi (.var 0) "int") (.not (.isi (.var 0) "bool")))]
theorem e_is_whole : cSs 60 c_is_whole [] (defBody s_is_whole) = some ir_is_whole := by kernel_rfl
/-! is_lot -/
abbrev s_is_lot : Stmt := topS 20
abbrev c_is_lot : CE := ⟨["thing", "size", "one", "other"], defScope s_is_lot, fun _ => true, ["is_whole"], [], ["all", "isinstance", "tuple", "zip"], [], []⟩
theorem sc_is_lot : FnScope ["thing", "size", "one", "other"] ["thing", "size"] (defScope s_is_lot) := ⟨rfl, rfl, rfl, by decide +kernel, rfl, by decide +kernel, by decide +kernel⟩
def ir_is_lot : List IS := [.ite (.or (.not (.isi (.var 0) "tuple")) (.or (.cmp .Eq (.var 0) (.tup [])) (.not (.blt .all [(.lc [2] (.n 2) (.var 0) none (.and (.call 0 [(.var 2)]) (.chn .LtE .Lt (.int (0)) (.var 2) (.var 1))))])))) [.ret (.bl false)] [], .ret (.blt .all [(.lc [2, 3] (.t [(.n 2), (.n 3)]) (.blt .zip [(.var 0), (.sl (.var 0) (some (.int (1))) none)]) none (.cmp .Lt (.var 2) (.var 3)))])]
theorem e_is_lot : cSs 60 c_is_lot [] (defBody s_is_lot) = some ir_is_lot := by kernel_rfl
/-! are_lots -/
abbrev s_are_lots : Stmt := topS 21
abbrev c_are_lots : CE := ⟨["thing", "size", "one", "other"], defScope s_are_lots, fun _ => true, ["is_lot"], [], ["all", "any", "isinstance", "tuple", "zip", "len", "set"], [], []⟩
theorem sc_are_lots : FnScope ["thing", "size", "one", "other"] ["thing", "size"] (defScope s_are_lots) := ⟨rfl, rfl, rfl, by decide +kernel, rfl, by decide +kernel, by decide +kernel⟩
def ir_are_lots : List IS := [.ite (.or (.not (.isi (.var 0) "tuple")) (.or (.cmp .Eq (.var 0) (.tup [])) (.not (.blt .all [(.lc [2] (.n 2) (.var 0) none (.call 0 [(.var 2), (.var 1)]))])))) [.ret (.bl false)] [], .ite (.not (.blt .all [(.lc [2, 3] (.t [(.n 2), (.n 3)]) (.blt .zip [(.var 0), (.sl (.var 0) (some (.int (1))) none)]) none (.cmp .Lt (.var 2) (.var 3)))])) [.ret (.bl false)] [], .ret (.not (.blt .any [(.lc2 [2, 3] (.n 2) (.var 0) none [3] (.n 3) (.var 0) none (.and (.cmp .NotEq (.var 2) (.var 3)) (.cmp .Eq (.mth .lend (.var 2) [(.var 3)]) (.int (0)))))]))]
theorem e_are_lots : cSs 60 c_are_lots [] (defBody s_are_lots) = some ir_are_lots := by kernel_rfl
/-! are_multiples -/
abbrev s_are_multiples : Stmt := topS 22
abbrev c_are_multiples : CE := ⟨["thing", "size", "limit", "one"], defScope s_are_multiples, fun _ => true, ["is_whole"], [], ["sum", "isinstance", "tuple", "len", "all", "abs"], [], []⟩
theorem sc_are_multiples : FnScope ["thing", "size", "limit", "one"] ["thing", "size", "limit"] (defScope s_are_multiples) := ⟨rfl, rfl, rfl, by decide +kernel, rfl, by decide +kernel, by decide +kernel⟩
def ir_are_multiples : List IS := [.ite (.or (.not (.isi (.var 0) "tuple")) (.or (.cmp .NotEq (.blt .len [(.var 0)]) (.var 1)) (.not (.blt .all [(.lc [3] (.n 3) (.var 0) none (.call 0 [(.var 3)]))])))) [.ret (.bl false)] [], .ret (.cmp .LtE (.blt .sum [(.lc [3] (.n 3) (.var 0) none (.blt .abs [(.var 3)]))]) (.var 2))]
theorem e_are_multiples : cSs 60 c_are_multiples [] (defBody s_are_multiples) = some ir_are_multiples := by kernel_rfl
/-! are_choices -/
abbrev s_are_choices : Stmt := topS 23
abbrev c_are_choices : CE := ⟨["thing", "some", "sort", "pattern"], defScope s_are_choices, fun _ => true, ["is_whole"], [], ["all", "isinstance", "tuple", "len", "zip"], [], []⟩
theorem sc_are_choices : FnScope ["thing", "some", "sort", "pattern"] ["thing", "some"] (defScope s_are_choices) := ⟨rfl, rfl, rfl, by decide +kernel, rfl, by decide +kernel, by decide +kernel⟩
def ir_are_choices : List IS := [.ite (.or (.not (.isi (.var 0) "tuple")) (.cmp .NotEq (.blt .len [(.var 0)]) (.blt .len [(.var 1)]))) [.ret (.bl false)] [], .ret (.blt .all [(.lc [2, 3] (.t [(.n 2), (.n 3)]) (.blt .zip [(.var 0), (.var 1)]) none (.and (.call 0 [(.var 2)]) (.cmp .In (.var 2) (.var 3))))])]
theorem e_are_choices : cSs 60 c_are_choices [] (defBody s_are_choices) = some ir_are_choices := by kernel_rfl
/-! ruler_of -/
abbrev s_ruler_of : Stmt := topS 11
abbrev c_ruler_of : CE := ⟨["house"], defScope s_ruler_of, fun _ => true, [], [], [], [], []⟩
theorem sc_ruler_of : FnScope ["house"] ["house"] (defScope s_ruler_of) := ⟨rfl, rfl, rfl, by decide +kernel, rfl, by decide +kernel, by decide +kernel⟩
def ir_ruler_of : List IS := [.ret (.tup [(.ite (.cmp .Eq (.ix (.var 0) (.int (0))) (.str "likers")) (.str "likes") (.str "ranks")), (.ix (.var 0) (.int (1)))])]
theorem e_ruler_of : cSs 60 c_ruler_of [] (defBody s_ruler_of) = some ir_ruler_of := by kernel_rfl
/-! patterns_of -/
abbrev s_patterns_of : Stmt := topS 12
abbrev c_patterns_of : CE := ⟨["house"], defScope s_patterns_of, fun _ => true, ["patterns", "ruler_of"], [], [], [], []⟩
theorem sc_patterns_of : FnScope ["house"] ["house"] (defScope s_patterns_of) := ⟨rfl, rfl, rfl, by decide +kernel, rfl, by decide +kernel, by decide +kernel⟩
def ir_patterns_of : List IS := [.ret (.call 0 [(.call 1 [(.var 0)])])]
theorem e_patterns_of : cSs 60 c_patterns_of [] (defBody s_patterns_of) = some ir_patterns_of := by kernel_rfl
/-! is_program -/
abbrev s_is_program : Stmt := topS 25
abbrev c_is_program : CE := ⟨["house", "thing", "word", "size"], defScope s_is_program, fun _ => true, ["is_joined_program", "is_lot", "are_lots", "are_multiples", "are_choices", "is_whole", "patterns_of"], [], [], [], []⟩
theorem sc_is_program : FnScope ["house", "thing", "word", "size"] ["house", "thing"] (defScope s_is_program) := ⟨rfl, rfl, rfl, by decide +kernel, rfl, by decide +kernel, by decide +kernel⟩
def ir_is_program : List IS := [.asg (.t [(.n 2), (.n 3)]) (.sl (.var 0) none (some (.int (2)))), .ite (.cmp .In (.var 2) (.tup [(.str "both"), (.str "ruled")])) [.ret (.call 0 [(.var 0), (.var 1)])] [], .ite (.cmp .Eq (.var 2) (.str "bearers")) [.ret (.and (.call 5 [(.var 1)]) (.chn .LtE .Lt (.int (0)) (.var 1) (.var 3)))] [], .ite (.cmp .In (.var 2) (.tup [(.str "leasts"), (.str "greatests")])) [.ret (.call 1 [(.var 1), (.var 3)])] [], .ite (.cmp .Eq (.var 2) (.str "levellers")) [.ret (.call 2 [(.var 1), (.var 3)])] [], .ret (.ite (.cmp .Eq (.var 2) (.str "adders")) (.call 3 [(.var 1), (.var 3), (.ix (.var 0) (.int (2)))]) (.call 4 [(.var 1), (.call 6 [(.var 0)])]))]
theorem e_is_program : cSs 60 c_is_program [] (defBody s_is_program) = some ir_is_program := by kernel_rfl
/-! row_size -/
abbrev s_row_size : Stmt := topS 15
abbrev c_row_size : CE := ⟨["house", "word", "first", "rest"], defScope s_row_size, fun _ => true, ["row_size"], [], [], [], []⟩
theorem sc_row_size : FnScope ["house", "word", "first", "rest"] ["house"] (defScope s_row_size) := ⟨rfl, rfl, rfl, by decide +kernel, rfl, by decide +kernel, by decide +kernel⟩
def ir_row_size : List IS := [.asg (.s [(.n 1), (.n 2)] 3) (.var 0), .ite (.cmp .Eq (.var 1) (.str "both")) [.ret (.bin .Add (.call 0 [(.var 2)]) (.call 0 [(.ix (.var 3) (.int (0)))]))] [], .ret (.ite (.cmp .Eq (.var 1) (.str "ruled")) (.bin .Add (.ix (.var 2) (.int (1))) (.call 0 [(.ix (.var 3) (.int (0)))])) (.var 2))]
theorem e_row_size : cSs 60 c_row_size [] (defBody s_row_size) = some ir_row_size := by kernel_rfl
/-! parted_row -/
abbrev s_parted_row : Stmt := topS 16
abbrev c_parted_row : CE := ⟨["house", "row", "at", "word", "first", "other"], defScope s_parted_row, fun _ => true, ["row_size"], [], [], [], []⟩
theorem sc_parted_row : FnScope ["house", "row", "at", "word", "first", "other"] ["house", "row"] (defScope s_parted_row) := ⟨rfl, rfl, rfl, by decide +kernel, rfl, by decide +kernel, by decide +kernel⟩
def ir_parted_row : List IS := [.asg (.t [(.n 3), (.n 4), (.n 5)]) (.var 0), .asg (.n 2) (.ite (.cmp .Eq (.var 3) (.str "both")) (.call 0 [(.var 4)]) (.ix (.var 4) (.int (1)))), .ret (.tup [(.sl (.var 1) none (some (.var 2))), (.sl (.var 1) (some (.var 2)) none)])]
theorem e_parted_row : cSs 60 c_parted_row [] (defBody s_parted_row) = some ir_parted_row := by kernel_rfl
/-! sorted_by_coming -/
abbrev s_sorted_by_coming : Stmt := topS 4
abbrev c_sorted_by_coming : CE := ⟨["things", "sorts", "thing"], defScope s_sorted_by_coming, fun _ => true, [], [], ["tuple"], [], []⟩
theorem sc_sorted_by_coming : FnScope ["things", "sorts", "thing"] ["things"] (defScope s_sorted_by_coming) := ⟨rfl, rfl, rfl, by decide +kernel, rfl, by decide +kernel, by decide +kernel⟩
def ir_sorted_by_coming : List IS := [.new 1 (.lst []), .loop (.n 2) (.var 0) [.ite (.cmp .NotIn (.var 2) (.var 1)) [.app 1 (.var 2)] []], .ret (.blt .tuple [(.lc [2] (.n 2) (.var 0) none (.mth .index (.var 1) [(.var 2)]))])]
theorem e_sorted_by_coming : cSs 60 c_sorted_by_coming [1] (defBody s_sorted_by_coming) = some ir_sorted_by_coming := by kernel_rfl
/-! ranked -/
abbrev s_ranked : Stmt := topS 5
abbrev c_ranked : CE := ⟨["things", "unlike", "thing"], defScope s_ranked, fun _ => true, [], [], ["sorted", "tuple", "set"], [], []⟩
theorem sc_ranked : FnScope ["things", "unlike", "thing"] ["things"] (defScope s_ranked) := ⟨rfl, rfl, rfl, by decide +kernel, rfl, by decide +kernel, by decide +kernel⟩
def ir_ranked : List IS := [.asg (.n 1) (.ext .srtset [(.var 0)]), .ret (.blt .tuple [(.lc [2] (.n 2) (.var 0) none (.mth .index (.var 1) [(.var 2)]))])]
theorem e_ranked : cSs 60 c_ranked [] (defBody s_ranked) = some ir_ranked := by kernel_rfl
/-! pattern_of -/
abbrev s_pattern_of : Stmt := topS 6
abbrev c_pattern_of : CE := ⟨["ruler", "things", "word"], defScope s_pattern_of, fun _ => true, ["sorted_by_coming", "ranked"], [], ["tuple"], [], []⟩
theorem sc_pattern_of : FnScope ["ruler", "things", "word"] ["ruler", "things"] (defScope s_pattern_of) := ⟨rfl, rfl, rfl, by decide +kernel, rfl, by decide +kernel, by decide +kernel⟩
def ir_pattern_of : List IS := [.asg (.n 2) (.ix (.var 0) (.int (0))), .ite (.cmp .Eq (.var 2) (.str "marks")) [.ret (.blt .tuple [(.var 1)])] [], .ret (.ite (.cmp .Eq (.var 2) (.str "likes")) (.call 0 [(.var 1)]) (.call 1 [(.var 1)]))]
theorem e_pattern_of : cSs 60 c_pattern_of [] (defBody s_pattern_of) = some ir_pattern_of := by kernel_rfl
/-! told_joined -/
abbrev s_told_joined : Stmt := topS 27
abbrev c_told_joined : CE := ⟨["house", "program", "row", "word", "first", "other", "here", "there"], defScope s_told_joined, fun _ => true, ["parted_row", "tells", "pattern_of", "patterns"], [], [], [], []⟩
theorem sc_told_joined : FnScope ["house", "program", "row", "word", "first", "other", "here", "there"] ["house", "program", "row"] (defScope s_told_joined) := ⟨rfl, rfl, rfl, by decide +kernel, rfl, by decide +kernel, by decide +kernel⟩
def ir_told_joined : List IS := [.asg (.t [(.n 3), (.n 4), (.n 5)]) (.var 0), .asg (.t [(.n 6), (.n 7)]) (.call 0 [(.var 0), (.var 2)]), .ite (.cmp .Eq (.var 3) (.str "both")) [.ret (.tup [(.call 1 [(.var 4), (.ix (.var 1) (.int (0))), (.var 6)]), (.call 1 [(.var 5), (.ix (.var 1) (.int (1))), (.var 7)])])] [], .ret (.call 1 [(.var 5), (.ix (.var 1) (.mth .index (.call 3 [(.var 4)]) [(.call 2 [(.var 4), (.var 6)])])), (.var 7)])]
theorem e_told_joined : cSs 60 c_told_joined [] (defBody s_told_joined) = some ir_told_joined := by kernel_rfl
/-! summed -/
abbrev s_summed : Stmt := topS 1
abbrev c_summed : CE := ⟨["program", "row", "times", "thing"], defScope s_summed, fun _ => true, [], [], ["sum", "zip"], [], []⟩
theorem sc_summed : FnScope ["program", "row", "times", "thing"] ["program", "row"] (defScope s_summed) := ⟨rfl, rfl, rfl, by decide +kernel, rfl, by decide +kernel, by decide +kernel⟩
def ir_summed : List IS := [.ret (.blt .sum [(.lc [2, 3] (.t [(.n 2), (.n 3)]) (.blt .zip [(.var 0), (.var 1)]) none (.bin .Mult (.var 2) (.var 3)))])]
theorem e_summed : cSs 60 c_summed [] (defBody s_summed) = some ir_summed := by kernel_rfl
/-! chosen -/
abbrev s_chosen : Stmt := topS 26
abbrev c_chosen : CE := ⟨["house", "program", "row", "pattern"], defScope s_chosen, fun _ => true, ["pattern_of", "ruler_of", "patterns_of"], [], [], [], []⟩
theorem sc_chosen : FnScope ["house", "program", "row", "pattern"] ["house", "program", "row"] (defScope s_chosen) := ⟨rfl, rfl, rfl, by decide +kernel, rfl, by decide +kernel, by decide +kernel⟩
def ir_chosen : List IS := [.asg (.n 3) (.call 0 [(.call 1 [(.var 0)]), (.var 2)]), .ret (.ix (.var 2) (.mth .index (.var 3) [(.ix (.var 1) (.mth .index (.call 2 [(.var 0)]) [(.var 3)]))]))]
theorem e_chosen : cSs 60 c_chosen [] (defBody s_chosen) = some ir_chosen := by kernel_rfl
/-! tells -/
abbrev s_tells : Stmt := topS 28
abbrev c_tells : CE := ⟨["house", "program", "row", "word", "place", "lot"], defScope s_tells, fun _ => true, ["told_joined", "summed", "chosen"], [], ["min", "max"], [], []⟩
theorem sc_tells : FnScope ["house", "program", "row", "word", "place", "lot"] ["house", "program", "row"] (defScope s_tells) := ⟨rfl, rfl, rfl, by decide +kernel, rfl, by decide +kernel, by decide +kernel⟩
def ir_tells : List IS := [.asg (.n 3) (.ix (.var 0) (.int (0))), .ite (.cmp .In (.var 3) (.tup [(.str "both"), (.str "ruled")])) [.ret (.call 0 [(.var 0), (.var 1), (.var 2)])] [], .ite (.cmp .Eq (.var 3) (.str "bearers")) [.ret (.ix (.var 2) (.var 1))] [], .ite (.cmp .Eq (.var 3) (.str "leasts")) [.ret (.blt .min [(.lc [4] (.n 4) (.var 1) none (.ix (.var 2) (.var 4)))])] [], .ite (.cmp .Eq (.var 3) (.str "greatests")) [.ret (.blt .max [(.lc [4] (.n 4) (.var 1) none (.ix (.var 2) (.var 4)))])] [], .ite (.cmp .Eq (.var 3) (.str "levellers")) [.ret (.blt .max [(.lc [5] (.n 5) (.var 1) none (.blt .min [(.lc [4] (.n 4) (.var 5) none (.ix (.var 2) (.var 4)))]))])] [], .ret (.ite (.cmp .Eq (.var 3) (.str "adders")) (.call 1 [(.var 1), (.var 2)]) (.call 2 [(.var 0), (.var 1), (.var 2)]))]
theorem e_tells : cSs 60 c_tells [] (defBody s_tells) = some ir_tells := by kernel_rfl
/-! marks_fit -/
abbrev s_marks_fit : Stmt := topS 17
abbrev c_marks_fit : CE := ⟨["house", "row", "word", "fits", "here", "there", "ruler", "one", "mark"], defScope s_marks_fit, fun _ => true, ["parted_row", "marks_fit"], ["JOINED"], ["all"], [], []⟩
theorem sc_marks_fit : FnScope ["house", "row", "word", "fits", "here", "there", "ruler", "one", "mark"] ["house", "row"] (defScope s_marks_fit) := ⟨rfl, rfl, rfl, by decide +kernel, rfl, by decide +kernel, by decide +kernel⟩
def ir_marks_fit : List IS := [.asg (.n 2) (.ix (.var 0) (.int (0))), .ite (.cmp .NotIn (.var 2) (.glb 0)) [.ret (.bl true)] [], .asg (.t [(.n 4), (.n 5)]) (.call 0 [(.var 0), (.var 1)]), .ite (.cmp .Eq (.var 2) (.str "both")) [.ret (.and (.call 1 [(.ix (.var 0) (.int (1))), (.var 4)]) (.call 1 [(.ix (.var 0) (.int (2))), (.var 5)]))] [], .asg (.t [(.n 6), (.n 7)]) (.sl (.var 0) (some (.int (1))) none), .asg (.n 3) (.or (.cmp .NotEq (.ix (.var 6) (.int (0))) (.str "marks")) (.blt .all [(.lc [8] (.n 8) (.var 4) none (.chn .LtE .Lt (.int (0)) (.var 8) (.ix (.var 6) (.int (2)))))])), .ret (.and (.var 3) (.call 1 [(.var 7), (.var 5)]))]
theorem e_marks_fit : cSs 60 c_marks_fit [] (defBody s_marks_fit) = some ir_marks_fit := by kernel_rfl
/-! is_row -/
abbrev s_is_row : Stmt := topS 18
abbrev c_is_row : CE := ⟨["house", "thing", "one"], defScope s_is_row, fun _ => true, ["marks_fit", "row_size", "is_whole"], [], ["isinstance", "tuple", "len", "all"], [], []⟩
theorem sc_is_row : FnScope ["house", "thing", "one"] ["house", "thing"] (defScope s_is_row) := ⟨rfl, rfl, rfl, by decide +kernel, rfl, by decide +kernel, by decide +kernel⟩
def ir_is_row : List IS := [.ite (.or (.not (.isi (.var 1) "tuple")) (.or (.cmp .NotEq (.blt .len [(.var 1)]) (.call 1 [(.var 0)])) (.not (.blt .all [(.lc [2] (.n 2) (.var 1) none (.call 2 [(.var 2)]))])))) [.ret (.bl false)] [], .ret (.call 0 [(.var 0), (.var 1)])]
theorem e_is_row : cSs 60 c_is_row [] (defBody s_is_row) = some ir_is_row := by kernel_rfl
/-! _law_parts_right -/
abbrev s_law_parts_right : Stmt := topS 43
abbrev c_law_parts_right : CE := ⟨["_law_house_here", "_law_program_here", "_law_row_here", "_law_one", "_law_here", "_law_there", "_law_pair"], defScope s_law_parts_right, fun _ => true, ["parted_row", "_law_parts_right", "tells", "row_size", "pattern_of", "is_program", "is_row", "patterns"], [], ["repr", "isinstance", "tuple", "len"], [], []⟩
theorem sc_law_parts_right : FnScope ["_law_house_here", "_law_program_here", "_law_row_here", "_law_one", "_law_here", "_law_there", "_law_pair"] ["_law_house_here", "_law_program_here", "_law_row_here"] (defScope s_law_parts_right) := ⟨rfl, rfl, rfl, by decide +kernel, rfl, by decide +kernel, by decide +kernel⟩
def ir_law_parts_right : List IS := [.ite (.cmp .NotIn (.ix (.var 0) (.int (0))) (.tup [(.str "both"), (.str "ruled")])) [.ret (.and (.cmp .Eq (.blt .len [(.var 2)]) (.call 3 [(.var 0)])) (.cmp .Is (.call 6 [(.var 0), (.var 2)]) (.bl true)))] [], .asg (.t [(.n 4), (.n 5)]) (.call 0 [(.var 0), (.var 2)]), .ite (.or (.not (.isi (.var 4) "tuple")) (.or (.not (.isi (.var 5) "tuple")) (.cmp .NotEq (.bin .Add (.var 4) (.var 5)) (.var 2)))) [.ret (.bl false)] [], .ite (.cmp .Eq (.ix (.var 0) (.int (0))) (.str "both")) [.ite (.or (.cmp .NotEq (.call 3 [(.var 0)]) (.bin .Add (.call 3 [(.ix (.var 0) (.int (1)))]) (.call 3 [(.ix (.var 0) (.int (2)))]))) (.cmp .NotEq (.blt .len [(.var 4)]) (.call 3 [(.ix (.var 0) (.int (1)))]))) [.ret (.bl false)] [], .asg (.n 6) (.tup [(.call 2 [(.ix (.var 0) (.int (1))), (.ix (.var 1) (.int (0))), (.var 4)]), (.call 2 [(.ix (.var 0) (.int (2))), (.ix (.var 1) (.int (1))), (.var 5)])]), .ite (.or (.cmp .NotEq (.blt .repr [(.call 2 [(.var 0), (.var 1), (.var 2)])]) (.blt .repr [(.var 6)])) (.not (.call 1 [(.ix (.var 0) (.int (1))), (.ix (.var 1) (.int (0))), (.var 4)]))) [.ret (.bl false)] [], .ret (.call 1 [(.ix (.var 0) (.int (2))), (.ix (.var 1) (.int (1))), (.var 5)])] [], .ite (.or (.cmp .NotEq (.call 3 [(.var 0)]) (.bin .Add (.ix (.ix (.var 0) (.int (1))) (.int (1))) (.call 3 [(.ix (.var 0) (.int (2)))]))) (.cmp .NotEq (.blt .len [(.var 4)]) (.ix (.ix (.var 0) (.int (1))) (.int (1))))) [.ret (.bl false)] [], .asg (.n 3) (.ix (.var 1) (.mth .index (.call 7 [(.ix (.var 0) (.int (1)))]) [(.call 4 [(.ix (.var 0) (.int (1))), (.var 4)])])), .ite (.cmp .NotEq (.blt .repr [(.call 2 [(.var 0), (.var 1), (.var 2)])]) (.blt .repr [(.call 2 [(.ix (.var 0) (.int (2))), (.var 3), (.var 5)])])) [.ret (.bl false)] [], .ret (.and (.cmp .Is (.call 5 [(.ix (.var 0) (.int (2))), (.var 3)]) (.bl true)) (.call 1 [(.ix (.var 0) (.int (2))), (.var 3), (.var 5)]))]
theorem e_law_parts_right : cSs 60 c_law_parts_right [] (defBody s_law_parts_right) = some ir_law_parts_right := by kernel_rfl
/-! _law_row -/
abbrev s_law_row : Stmt := topS 39
abbrev c_law_row : CE := ⟨["_law_pot_here", "_law_house_here", "_law_pool", "_law_some", "_law_k"], defScope s_law_row, fun _ => true, ["_law_of", "_law_row", "_law_take"], [], ["tuple", "list", "range"], [], []⟩
theorem sc_law_row : FnScope ["_law_pot_here", "_law_house_here", "_law_pool", "_law_some", "_law_k"] ["_law_pot_here", "_law_house_here"] (defScope s_law_row) := ⟨rfl, rfl, rfl, by decide +kernel, rfl, by decide +kernel, by decide +kernel⟩
def ir_law_row : List IS := [.ite (.cmp .Eq (.ix (.var 1) (.int (0))) (.str "both")) [.ret (.bin .Add (.call 1 [(.var 0), (.ix (.var 1) (.int (1)))]) (.call 1 [(.var 0), (.ix (.var 1) (.int (2)))]))] [], .ite (.cmp .Eq (.ix (.var 1) (.int (0))) (.str "ruled")) [.asg (.n 3) (.ite (.cmp .Eq (.ix (.ix (.var 1) (.int (1))) (.int (0))) (.str "marks")) (.ext .lrng [(.ix (.ix (.var 1) (.int (1))) (.int (2)))]) (.lst [(.int (3)), (.int (1)), (.neg (.int (4))), (.bin .Pow (.int (10)) (.int (39)))])), .ret (.bin .Add (.blt .tuple [(.lc [4] (.n 4) (.blt .range [(.ix (.ix (.var 1) (.int (1))) (.int (1)))]) none (.call 0 [(.var 0), (.var 3)]))]) (.call 1 [(.var 0), (.ix (.var 1) (.int (2)))]))] [], .asg (.n 2) (.lc [4] (.n 4) (.blt .range [(.bin .Add (.int (1)) (.call 2 [(.var 0), (.int (5))]))]) none (.call 0 [(.var 0), (.lst [(.int (0)), (.int (1)), (.int (2)), (.neg (.int (1))), (.int (5)), (.bin .Add (.bin .Pow (.int (10)) (.int (39))) (.int (7))), (.neg (.bin .Pow (.int (10)) (.int (38)))), (.int (40))])])), .ret (.blt .tuple [(.lc [4] (.n 4) (.blt .range [(.ix (.var 1) (.int (1)))]) none (.call 0 [(.var 0), (.var 2)]))])]
theorem e_law_row : cSs 60 c_law_row [] (defBody s_law_row) = some ir_law_row := by kernel_rfl
/-! law -/
abbrev s_law : Stmt := topS 44
abbrev c_law : CE := ⟨["_law_script", "_law_k", "_law_pot_here", "_law_turn", "_law_house_here", "_law_program_here", "_law_again"], defScope s_law, fun _ => true, ["_law_pot", "_law_house", "_law_program", "is_program", "_law_take", "_law_parts_right", "_law_row"], [], ["range", "len"], [], []⟩
theorem sc_law : FnScope ["_law_script", "_law_k", "_law_pot_here", "_law_turn", "_law_house_here", "_law_program_here", "_law_again"] ["_law_script"] (defScope s_law) := ⟨rfl, rfl, rfl, by decide +kernel, rfl, by decide +kernel, by decide +kernel⟩
def ir_law : List IS := [.loop (.n 1) (.blt .range [(.bin .Add (.int (1)) (.blt .len [(.sl (.var 0) none (some (.int (3))))]))]) [.asg (.n 2) (.call 0 [(.var 0), (.var 1)]), .loop (.n 3) (.blt .range [(.int (6))]) [.asg (.n 4) (.call 1 [(.var 2), (.bin .Add (.int (2)) (.call 4 [(.var 2), (.int (3))])), (.int (120))]), .asg (.n 5) (.call 2 [(.var 2), (.var 4)]), .ite (.cmp .IsNot (.call 3 [(.var 4), (.var 5)]) (.bl true)) [.ret (.bl false)] [], .loop (.n 6) (.blt .range [(.int (4))]) [.ite (.not (.call 5 [(.var 4), (.var 5), (.call 6 [(.var 2), (.var 4)])])) [.ret (.bl false)] []]]], .ret (.bl true)]
theorem e_law : cSs 60 c_law [] (defBody s_law) = some ir_law := by kernel_rfl
end K05
/-! C05a -/
set_option maxRecDepth 100000
namespace K05
open PySem PySem.Spec PyProof.Rows L2 Z K02
open PR (Rul rulW rulD rulOk rulAll ctBelow below_small tup_snoc below_next Rl rlOf rl_d rl_w rl_all Ho words ownRul Lot isPg PlPg)
abbrev Gn : Nat → PyData := lkG [] []
theorem eqOk_TpI (a b : List Int) : eqOk (TpI a) (TpI b) := by
  cases b with
  | nil => exact True.intro
  | cons x b => exact ⟨sh_tup a, sh_tup (x :: b)⟩
def isW (w : Str) : Prop := w = "marks" ∨ w = "likes" ∨ w = "ranks"
def ctPat : Ct := fun zs c Q => ∃ w ns, zs = [.d (.str w), .d (TpI ns)] ∧ isW w ∧ ns.length ≤ 60 ∧ Q (.d (TpI (patL w ns))) c
theorem w_count {ns : List Int} {c : Nat} {Q : List PyData → Nat → Prop} {f : PyData → Nat → (List PyData → Nat → Prop) → Prop} (h : ∀ x : Int, ∀ Q : List PyData → Nat → Prop, Q [.int (rankC ns x)] c → f (.int x) c Q) (q : Q ((rankL ns).map .int) c) : lcW f (ns.map .int) c Q :=
  lcW_om (fun x => PyData.int (rankC ns x)) (fun x _ Q q => h x Q q) (by unfold rankL at q; rw [List.map_map] at q; exact q)
theorem w_law_pattern {Q : KZ} {c : Nat} {w : Str} {ns : List Int} (hw : isW w) (hl : ns.length ≤ 60) (q : Q (.d (TpI (patL w ns))) c) :
    wSs (ctF [] []) Gn ir_law_pattern [some (.d (.str w)), some (.d (TpI ns)), none, none, none, none] c (iniR Q) := by
  have inner : ∀ (ns : List Int) (x : Int) (R : PyData → Prop), ns.length ≤ 60 → R (.int (rankC ns x)) → wX Gn .lenset [.list ((ns.filter fun y => decide (y < x)).map .int)] R := fun ns x R hl r => by
    rw [q_lenset1]
    exact ⟨_, ints_map _, by have := List.length_filter_le (fun y => decide (y < x)) ns; omega, r⟩
  unfold ir_law_pattern TpI
  rcases hw with rfl | rfl | rfl
  · walk_at "z simp"
    refine ⟨trivial, ?_⟩
    rw [show PyData.eqv (.str (Str.ofString "marks")) (.str (Str.ofString "marks")) = true by rw [eqv_str]; decide +kernel]
    walk_at "z simp"
    exact q
  · walk_at "z simp"
    refine ⟨trivial, ?_⟩
    rw [show PyData.eqv (.str (Str.ofString "likes")) (.str (Str.ofString "marks")) = false by rw [eqv_str]; decide +kernel]
    walk_at "z simp"
    refine ⟨trivial, ?_⟩
    rw [show PyData.eqv (.str (Str.ofString "likes")) (.str (Str.ofString "ranks")) = false by rw [eqv_str]; decide +kernel]
    walk_at "z simp"
    refine lcW_om (fun x => PyData.int ((ns.idxOf x : Nat) : Int)) (fun x hx Q1 q1 => ?_) ?_
    · walk_at "z simp"
      exact ⟨trivial, idx_ok hx q1⟩
    · walk_at "z simp"
      have e : (ns.map fun x => PyData.int ((ns.idxOf x : Nat) : Int)) = (placeL ns).map .int := by unfold placeL; rw [List.map_map]; rfl
      rw [e]
      have hl2 : (placeL ns).length ≤ 60 := by unfold placeL; rw [List.length_map]; exact hl
      refine w_count (ns := placeL ns) (fun x Q1 q1 => ?_) q
      walk_at "z simp"
      refine lcW_of (fun y => decide (y < x)) (fun y hy Q2 q2 => ?_) ?_
      · walk_at "z simp"
        cases h : decide (y < x) <;> (simp only [h, Bool.false_eq_true, if_false, if_true] at q2; exact q2)
      · walk_at "z simp"
        exact inner _ _ _ hl2 q1
  · walk_at "z simp"
    refine ⟨trivial, ?_⟩
    rw [show PyData.eqv (.str (Str.ofString "ranks")) (.str (Str.ofString "marks")) = false by rw [eqv_str]; decide +kernel]
    walk_at "z simp"
    refine ⟨trivial, ?_⟩
    rw [show PyData.eqv (.str (Str.ofString "ranks")) (.str (Str.ofString "ranks")) = true by rw [eqv_str]; decide +kernel]
    walk_at "z simp"
    refine w_count (ns := ns) (fun x Q1 q1 => ?_) q
    walk_at "z simp"
    refine lcW_of (fun y => decide (y < x)) (fun y hy Q2 q2 => ?_) ?_
    · walk_at "z simp"
      cases h : decide (y < x) <;> (simp only [h, Bool.false_eq_true, if_false, if_true] at q2; exact q2)
    · walk_at "z simp"
      exact inner _ _ _ hl q1
theorem w_law_below {Q : KZ} {c n m : Nat} (hn : n ≤ 4) (hm : m ≤ 4) (q : Q (.d (.list ((belowL n m).map TpI))) c) : wSs (ctF [] []) Gn ir_law_below [some (.d (.int n)), some (.d (.int m)), none, none, none, none, none] c (iniR Q) := by
  unfold ir_law_below
  walk_at "z simp"
  refine ⟨by walk_at "z len", by walk_at "z len", by omega, by omega, ?_⟩
  refine forW_inv (fun r Γ c' => ∃ (t : Nat) (z3 z4 z5 : Option Zv), t + r.length = n ∧ Γ = [some (.d (.int n)), some (.d (.int m)), some (.d (.list ((belowL t m).map TpI))), z3, z4, z5, none] ∧ c' = c) ?_ ?_ ⟨0, none, none, none, by rw [rangeD_len]; omega, rfl, rfl⟩
  · rintro Γ c' ⟨t, z3, z4, z5, e, rfl, rfl⟩
    have et : t = n := by simpa using e
    subst et
    walk_at "z simp"
    exact q
  · rintro d r Γ c' k ⟨t, z3, z4, z5, e, rfl, rfl⟩ hk
    rw [List.length_cons] at e
    have small := below_small (n := t + 1) (m := m) (by omega) hm
    walk_at "z simp"
    refine ⟨by walk_at "z len", ?_⟩
    refine forW_inv (fun r Γ c1 => ∃ (done rest : List (List Int)) (z5 : Option Zv), r = rest.map TpI ∧ done ++ rest = belowL t m ∧ Γ = [some (.d (.int n)), some (.d (.int m)), some (.d (.list ((belowL t m).map TpI))), some (.d d), some (.own ((done.flatMap fun r => (nats m).map fun i => r ++ [i]).map TpI)), z5, none] ∧ c1 = c') ?_ ?_ ⟨[], belowL t m, _, rfl, rfl, rfl, rfl⟩
    · rintro Γ c1 ⟨done, rest, z5, er, es, rfl, rfl⟩
      have e0 : rest = [] := by
        cases rest with
        | nil => rfl
        | cons _ _ => simp at er
      subst e0
      rw [List.append_nil] at es
      subst es
      walk_at "z simp"
      exact hk _ _ ⟨t + 1, _, _, _, by omega, rfl, rfl⟩
    · rintro y r Γ c1 kk ⟨done, rest, z5, er, es, rfl, rfl⟩ hkk
      cases rest with
      | nil => simp at er
      | cons x rest =>
        rw [List.map_cons] at er
        obtain ⟨rfl, rfl⟩ := List.cons.inj er
        have hx : x ∈ belowL t m := by rw [← es]; simp
        have hx' := (below_mem hx).1
        walk_at "z simp"
        refine ⟨by omega, by omega, ?_⟩
        rw [range_nats]
        refine lcW_om (fun i => TpI (x ++ [i])) (fun i hi Q1 q1 => ?_) ?_
        · walk_at "z simp"
          rw [tup_snoc] at q1
          exact ⟨by walk_at "z len", by walk_at "z len", q1⟩
        · walk_at "z simp"
          refine ⟨?_, hkk _ _ ⟨done ++ [x], rest, some (.d (TpI x)), rfl, by simp [es], ?_, rfl⟩⟩
          · have h1 : ((done ++ [x]).flatMap fun r => (nats m).map fun i => r ++ [i]).length ≤ (belowL (t + 1) m).length := by
              rw [belowL, ← es]
              simp
            rw [List.flatMap_append, List.length_append] at h1
            simp only [List.flatMap_cons, List.flatMap_nil, List.append_nil, List.length_map] at h1
            simp only [List.length_map]
            rw [sizeLine_eq]
            omega
          · rw [List.flatMap_append, List.map_append]
            simp only [List.flatMap_cons, List.flatMap_nil, List.append_nil, List.map_map]
            rfl
def ctAll : Ct := fun zs c Q => ∃ r, zs = [.d (rulD r)] ∧ rulOk r ∧ Q (.d (.list ((rulAll r).map TpI))) c
theorem filt_all (n m : Nat) : (belowL n m).filter (fun x => decide (patL "marks" x = x)) = belowL n m := by
  refine List.filter_eq_self.mpr fun x _ => ?_
  have : patL "marks" x = x := by unfold patL; rw [if_pos rfl]
  rw [this]
  simp
theorem filt_other (l : Bool) (w : Str) (hm : w ≠ "marks") (hr : (w = "ranks") = (l = false)) (n : Nat) : (belowL n n).filter (fun x => decide (patL w x = x)) = allF l n := by
  unfold allF
  congr 1
  funext x
  unfold patL isPat
  rw [if_neg hm]
  cases l with
  | true =>
    have : w ≠ "ranks" := fun e => by
      have := hr.mp e
      cases this
    rw [if_neg this]
  | false => rw [if_pos (hr.mpr rfl)]
theorem w_all {Q : KZ} {c : Nat} {r : Rul} (ro : rulOk r) (q : Q (.d (.list ((rulAll r).map TpI))) c) : wSs (ctF [ctBelow, ctPat] []) Gn ir_law_all [some (.d (rulD r)), none, none] c (iniR Q) := by
  cases r with
  | marks n m =>
    obtain ⟨n1, n3, m2, m4⟩ := ro
    unfold ir_law_all rulD
    walk_at "z simp"
    refine ⟨_, rfl, trivial, ?_⟩
    rw [show PyData.eqv (.str (Str.ofString "marks")) (.str (Str.ofString "marks")) = true by rw [eqv_str]; decide +kernel]
    walk_at "z simp"
    refine ⟨_, rfl, _, rfl, ?_⟩
    walk_at "z ct"
    refine ⟨n, m, rfl, by omega, by omega, ?_⟩
    walk_at "z simp"
    refine lcW_of (fun x => decide (patL "marks" x = x)) (fun x hx Q1 q1 => ?_) ?_
    · have hx' := below_mem hx
      walk_at "z simp"
      refine ⟨_, rfl, ?_⟩
      walk_at "z ct"
      refine ⟨_, x, rfl, .inl rfl, by omega, ?_⟩
      walk_at "z simp"
      refine ⟨eqOk_TpI _ _, ?_⟩
      rw [eqv_TpI]
      cases h : decide (patL "marks" x = x) <;> (simp only [h, Bool.false_eq_true, if_false, if_true] at q1; exact q1)
    · walk_at "z simp"
      rw [filt_all]
      exact q
  | other l n =>
    obtain ⟨n2, n4⟩ := ro
    have key : ∀ (w : Str), isW w → w ≠ "marks" → (w = "ranks") = (l = false) → SeqAt.shaped (.str w) = true → PyData.eqv (.str w) (.str (Str.ofString "marks")) = false →
        wSs (ctF [ctBelow, ctPat] []) Gn ir_law_all [some (.d (.tuple [.str w, .int n])), none, none] c (iniR Q) := fun w iw wm wr sh nm => by
      unfold ir_law_all
      walk_at "z simp"
      refine ⟨_, rfl, trivial, ?_⟩
      rw [nm]
      walk_at "z simp"
      refine ⟨_, rfl, _, rfl, ?_⟩
      walk_at "z ct"
      refine ⟨n, n, rfl, by omega, by omega, ?_⟩
      walk_at "z simp"
      refine lcW_of (fun x => decide (patL w x = x)) (fun x hx Q1 q1 => ?_) ?_
      · have hx' := below_mem hx
        walk_at "z simp"
        refine ⟨_, rfl, ?_⟩
        walk_at "z ct"
        refine ⟨_, x, rfl, iw, by omega, ?_⟩
        walk_at "z simp"
        refine ⟨eqOk_TpI _ _, ?_⟩
        rw [eqv_TpI]
        cases h : decide (patL w x = x) <;> (simp only [h, Bool.false_eq_true, if_false, if_true] at q1; exact q1)
      · walk_at "z simp"
        rw [filt_other l w wm wr]
        exact q
    cases l with
    | true => exact key "likes" (.inr (.inl rfl)) (by decide +kernel) (by simp; decide +kernel) (by decide +kernel) (by rw [eqv_str]; decide +kernel)
    | false => exact key "ranks" (.inr (.inr rfl)) (by decide +kernel) (by simp) (by decide +kernel) (by rw [eqv_str]; decide +kernel)
def ctSome : Ct := fun zs c Q => ∃ n : Nat, zs = [.pot, .d (.int n)] ∧ 1 ≤ n ∧ n ≤ 8 ∧ c + 9 < 2 ^ 60 ∧ ∀ l c', Lot n l → c ≤ c' → c' ≤ c + 9 → Q (.d (TpI l)) c'
theorem lcW_sub {f : PyData → Nat → (List PyData → Nat → Prop) → Prop} (k C : Nat) : ∀ {l : List Int} {c : Nat} {Q : List PyData → Nat → Prop}, c + k * l.length ≤ C →
    (∀ x ∈ l, ∀ c (Q : List PyData → Nat → Prop), c + k ≤ C → (∀ c', c ≤ c' → c' ≤ c + k → Q [.int x] c' ∧ Q [] c') → f (.int x) c Q) →
    (∀ (s : List Int) c', s.Sublist l → c ≤ c' → c' ≤ c + k * l.length → Q (s.map .int) c') → lcW f (l.map .int) c Q
  | [], c, Q, _, _, q => q [] c (List.Sublist.refl []) (Nat.le_refl _) (by simp)
  | x :: l, c, Q, hC, h, q => by
    have hC' : c + (k * l.length + k) ≤ C := by simpa [Nat.mul_succ] using hC
    refine h x (by simp) c _ (by omega) fun c1 h1 h2 => ⟨?_, ?_⟩
    · refine lcW_sub k C (by omega) (fun y hy => h y (by simp [hy])) fun s c2 hs h3 h4 => ?_
      exact q (x :: s) c2 (hs.cons_cons x) (by omega) (by rw [List.length_cons, Nat.mul_succ]; omega)
    · refine lcW_sub k C (by omega) (fun y hy => h y (by simp [hy])) fun s c2 hs h3 h4 => ?_
      exact q s c2 (hs.cons x) (by omega) (by rw [List.length_cons, Nat.mul_succ]; omega)
theorem nats_rise (n : Nat) : (nats n).Pairwise (· < ·) := by
  unfold nats
  exact List.pairwise_map.mpr ((List.pairwise_lt_range (n := n)).imp fun {a b} h => by omega)
theorem w_some {Q : KZ} {c n : Nat} (n0 : 1 ≤ n) (n1 : n ≤ 8) (hc : c + 9 < 2 ^ 60) (q : ∀ l c', Lot n l → c ≤ c' → c' ≤ c + 9 → Q (.d (TpI l)) c') :
    wSs (ctF [ctTake] []) Gn ir_law_places [some .pot, some (.d (.int n)), none, none] c (iniR Q) := by
  walk_at "zw"
  refine ⟨by omega, by omega, ?_⟩
  rw [range_nats]
  refine lcW_sub 1 (c + 8) (by rw [nats_len]; omega) (fun x hx c0 Q1 hc0 q1 => ?_) fun s c1 hs c10 c11 => ?_
  · walk_at "zw"
    refine ⟨2, rfl, by decide, by decide, by omega, fun r c' r0 r1 h0 h1 => ?_⟩
    walk_at "zw"
    refine ⟨⟨sh_int _, sh_int _⟩, ?_⟩
    rw [eqv_int]
    have := q1 c' h0 h1
    cases decide (r = 0) with
    | true => exact this.1
    | false => exact this.2
  · rw [nats_len] at c11
    walk_at "zw"
    refine ⟨by rw [sizeLine_eq]; decide, ?_⟩
    cases s with
    | nil =>
      walk_at "zw"
      refine ⟨⟨by decide +kernel, by decide +kernel⟩, ?_⟩
      walk_at "zw"
      refine ⟨n, rfl, by omega, by omega, by omega, fun r c' r0 r1 h0 h1 => ?_⟩
      walk_at "zw"
      refine ⟨by rw [sizeLine_eq]; show 1 ≤ 16777216; decide, ?_⟩
      exact q [r] c' ⟨by simp, by simp, fun x hx => by rw [List.mem_singleton.mp hx]; exact ⟨r0, r1⟩⟩ (by omega) (by omega)
    | cons x s =>
      walk_at "zw"
      refine ⟨⟨sh_lst (x :: s), by decide +kernel⟩, ?_⟩
      have e : PyData.eqv (.list ((x :: s).map .int)) (.list []) = false := by
        rw [List.map_cons]
        simp [PyData.eqv, PyData.eqvAll]
      rw [e]
      have hm : ∀ y ∈ x :: s, 0 ≤ y ∧ y < n := fun y hy => nats_mem (hs.subset hy)
      exact q (x :: s) c1 ⟨by simp, (nats_rise n).sublist hs, hm⟩ c10 (by omega)
end K05
/-! C05b -/
set_option maxRecDepth 100000
namespace K05
open PySem PySem.Spec PyProof.Rows L2 Z K02
open PR (whole toI Rul rulW rulD rulOk rulAll Rl rlOf rl_d rl_w rl_all Ho words)
def ctPlain : Ct := fun zs c Q => ∃ room : Int, zs = [.pot, .d (.int room)] ∧ c + 3 < 2 ^ 60 ∧ ∀ (h : Ho) c', h.ok → h.few → h.dep = 0 → h.lv = 1 → c ≤ c' → c' ≤ c + 3 → Q (.d h.d) c'
theorem whole_int {x : PyData} (h : whole x = true) : ∃ i : Int, x = .int i := by
  cases x <;> first | exact ⟨_, rfl⟩ | cases h
theorem ex_int {T : List PyData} {i : Int} {P : PyData → Prop} (hT : T.all whole = true) (h0 : 0 ≤ i) (h1 : i < (T.length : Nat)) (h : ∀ j : Int, P (.int j)) : ∃ v, atI T i = some v ∧ P v := by
  obtain ⟨v, ev, hv⟩ := atI_mem h0 h1
  obtain ⟨j, rfl⟩ := whole_int (List.all_eq_true.mp hT v hv)
  exact ⟨_, ev, h j⟩
theorem w_plain {Q : KZ} {c : Nat} {room : Int} (hc : c + 3 < 2 ^ 60) (q : ∀ (h : Ho) c', h.ok → h.few → h.dep = 0 → h.lv = 1 → c ≤ c' → c' ≤ c + 3 → Q (.d h.d) c') :
    wSs (ctF [ctOf, ctTake] []) Gn ir_law_plain [some .pot, some (.d (.int room)), none, none] c (iniR Q) := by
  have q2 : ∀ w ∈ words, ∀ (k : Nat) c', k < 6 → w ≠ "adders" → (w = "likers" ∨ w = "rankers" → k < 4) → c ≤ c' → c' ≤ c + 3 → Q (.d (.tuple [.str w, .int (1 + (k : Int))])) c' := fun w hw k c' hk hna hch h1 h2 => by
    have := q (.plain w (1 + k) []) c' ⟨hw, by omega, by omega, by decide, fun e => absurd e hna, fun _ => rfl, fun e => ⟨by have := hch e; omega, rfl⟩⟩ (fun _ => by show 1 + k ≤ 7; omega) rfl rfl h1 h2
    have e : Ho.d (.plain w (1 + k) []) = .tuple [.str w, .int (1 + (k : Int))] := by
      show PyData.tuple [.str w, .int ((1 + k : Nat) : Int)] = _
      rw [Int.natCast_add]
      rfl
    rw [e] at this
    exact this
  have q3 : ∀ (j k : Nat) c', j < 6 → k < 6 → c ≤ c' → c' ≤ c + 3 → Q (.d (.tuple [.str "adders", .int (1 + (k : Int)), .int (1 + (j : Int))])) c' := fun j k c' hj hk h1 h2 => by
    have := q (.plain "adders" (1 + k) [.int ((1 + j : Nat) : Int)]) c' ⟨by decide +kernel, by omega, by omega, by show 1 ≤ 1; decide, fun _ => ⟨1 + j, rfl, by omega⟩, fun e => absurd rfl e, fun e => by exfalso; revert e; decide +kernel⟩ (fun _ => by show 1 + k ≤ 7; omega) rfl rfl h1 h2
    have e : Ho.d (.plain "adders" (1 + k) [.int ((1 + j : Nat) : Int)]) = .tuple [.str "adders", .int (1 + (k : Int)), .int (1 + (j : Int))] := by
      show PyData.tuple [.str "adders", .int ((1 + k : Nat) : Int), .int ((1 + j : Nat) : Int)] = _
      rw [Int.natCast_add, Int.natCast_add]
      rfl
    rw [e] at this
    exact this
  have qb : ∀ (k : Nat) c', k < 6 → c ≤ c' → c' ≤ c + 3 → Q (.d (.tuple [.str "bearers", .int (1 + (k : Int))])) c' := fun k c' hk h1 h2 => q2 "bearers" (by decide +kernel) k c' hk (by decide +kernel) (fun e => by exfalso; revert e; decide +kernel) h1 h2
  walk_at "zw"
  refine ⟨by rw [sizeLine_eq]; decide, ?_⟩
  walk_at "zw"
  refine ⟨_, rfl, by decide, by decide, by omega, fun x c1 hx c10 c11 => ?_⟩
  simp only [List.mem_cons, List.not_mem_nil, or_false] at hx
  rcases hx with rfl | rfl | rfl | rfl | rfl | rfl | rfl
  all_goals
    walk_at "zw"
    refine ⟨rfl, by decide +kernel, ?_⟩
    walk_at "zw"
    refine ⟨trivial, ?_⟩
    walk_at "zw"
    refine ⟨_, rfl, ?_⟩
    walk_at "zw"
    refine ⟨_, rfl, by decide, by decide, by omega, fun k c2 k0 k1 c20 c21 => ?_⟩
    obtain ⟨k, rfl⟩ := Int.eq_ofNat_of_zero_le k0
    have k6 : k < 6 := by omega
    walk_at "zw"
    refine ⟨by rw [sizeLine_eq]; decide, ?_⟩
    walk_at "zw"
    refine ⟨by rw [sizeLine_eq]; decide, ?_⟩
    walk_at "zw"
    refine ⟨rfl, by decide +kernel, ?_⟩
    walk_at "zw"
    refine ⟨trivial, ?_⟩
    walk_at "zw"
    refine ⟨by rw [sizeLine_eq]; decide, ?_⟩
    walk_at "zw"
    refine ⟨⟨by simp, by decide, by decide, by decide⟩, ?_⟩
    walk_at "zw"
    refine ⟨_, rfl, ?_⟩
    walk_at "zw"
    refine ex_int rfl (by omega) (by first | (simp only [List.length_cons, List.length_nil]; omega) | (show _ < ((6 : Nat) : Int); omega)) fun j => ?_
    walk_at "zw"
    split
    · walk_at "zw"
      refine ⟨trivial, ?_⟩
      walk_at "zw"
      refine ⟨by rw [sizeLine_eq]; show 2 ≤ 16777216; decide, ?_⟩
      walk_at "zw"
      exact qb k c2 k6 (by omega) (by omega)
    · walk_at "zw"
      refine ⟨trivial, ?_⟩
      walk_at "zw"
      first
      | refine ⟨by rw [sizeLine_eq]; show 2 ≤ 16777216; decide, ?_⟩
        walk_at "zw"
        exact q2 _ (by decide +kernel) k c2 k6 (by decide +kernel) (fun e => by first | omega | (exfalso; revert e; decide +kernel)) (by omega) (by omega)
      | refine ⟨6, rfl, by decide, by decide, by omega, fun i c3 i0 i1 c30 c31 => ?_⟩
        walk_at "zw"
        refine ⟨by rw [sizeLine_eq]; show 3 ≤ 16777216; decide, ?_⟩
        walk_at "zw"
        obtain ⟨i, rfl⟩ := Int.eq_ofNat_of_zero_le i0
        exact q3 i k c3 (by omega) k6 (by omega) (by omega)
def hc : Nat → Nat
  | 0 => 0
  | n + 1 => 2 * hc n + 8
def ctHouse (n : Nat) : Ct := fun zs c Q => ∃ (deep room : Int), zs = [.pot, .d (.int deep), .d (.int room)] ∧ 1 ≤ deep ∧ deep ≤ n ∧ n ≤ 4 ∧ 1 ≤ room ∧ room ≤ 200 ∧ c + hc n < 2 ^ 60 ∧ ∀ (h : Ho) c', h.ok → h.few → (h.dep : Int) < deep → (h.lv : Int) ≤ room → c ≤ c' → c' ≤ c + hc n → Q (.d h.d) c'
def rulers : List (Rul × Int) := [(.marks 1 2, 2), (.other true 2, 2), (.other false 2, 3), (.marks 2 2, 4), (.other true 3, 5), (.marks 1 4, 4), (.other false 3, 13)]
theorem rulers_all : ∀ p ∈ rulers, ((rulAll p.1).length : Int) = p.2 := by decide +kernel
theorem rulers_ok : ∀ p ∈ rulers, rulOk p.1 ∧ 0 < p.2 ∧ p.2 < 2 ^ 60 := fun p h => by
  simp only [rulers, List.mem_cons, List.not_mem_nil, or_false] at h
  rcases h with rfl | rfl | rfl | rfl | rfl | rfl | rfl
  all_goals first
  | exact ⟨⟨by decide, by decide, by decide, by decide⟩, by decide, by decide⟩
  | exact ⟨⟨by decide, by decide⟩, by decide, by decide⟩
theorem rulers_at {i : Int} (h0 : 0 ≤ i) (h1 : i < 7) : ∃ p ∈ rulers, atI (rulers.map fun p => rulD p.1) i = some (rulD p.1) ∧ atI (rulers.map fun p => PyData.int p.2) i = some (.int p.2) := by
  obtain ⟨m, rfl⟩ := Int.eq_ofNat_of_zero_le h0
  have hm : m < rulers.length := by show m < 7; omega
  exact ⟨rulers[m], List.getElem_mem hm, atI_nat (j := m) (by rw [List.getElem?_map, List.getElem?_eq_getElem hm]; rfl), atI_nat (j := m) (by rw [List.getElem?_map, List.getElem?_eq_getElem hm]; rfl)⟩
theorem w_house {Q : KZ} {c n : Nat} {deep room : Int} (d0 : 1 ≤ deep) (d1 : deep ≤ (n + 1 : Nat)) (n4 : n + 1 ≤ 4) (r0 : 1 ≤ room) (r1 : room ≤ 200) (hc' : c + hc (n + 1) < 2 ^ 60) (q : ∀ (h : Ho) c', h.ok → h.few → (h.dep : Int) < deep → (h.lv : Int) ≤ room → c ≤ c' → c' ≤ c + hc (n + 1) → Q (.d h.d) c') :
    wSs (ctF [ctTake, ctPlain, ctHouse n] []) Gn ir_law_house [some .pot, some (.d (.int deep)), some (.d (.int room)), none, none, none, none] c (iniR Q) := by
  have e : hc (n + 1) = 2 * hc n + 8 := rfl
  rw [e] at hc' q
  have qp : ∀ c1, c ≤ c1 → c1 ≤ c + 3 → ∀ (h : Ho) c', h.ok → h.few → h.dep = 0 → h.lv = 1 → c1 ≤ c' → c' ≤ c1 + 3 → Q (.d h.d) c' := fun c1 h1 h2 h c' ok fw hd hl h3 h4 => q h c' ok fw (by rw [hd]; show (0 : Int) < deep; omega) (by rw [hl]; show (1 : Int) ≤ room; omega) (by omega) (by omega)
  walk_at "zw"
  split
  · rename_i hd
    have hd := of_decide_eq_true hd
    walk_at "zw"
    split
    · rename_i hrm
      have hrm := of_decide_eq_true hrm
      walk_at "zw"
      refine ⟨5, rfl, by decide, by decide, by omega, fun way c1 w0 w1 c10 c11 => ?_⟩
      walk_at "zw"
      split
      · walk_at "zw"
        exact ⟨room, rfl, by omega, qp c1 (by omega) (by omega)⟩
      · walk_at "zw"
        walk_at "zI"
        · walk_at "zw"
          refine ⟨cdiv_ok (by decide) (by decide), ?_⟩
          walk_at "zw"
          refine ⟨deep - 1, room / 2, rfl, by omega, by omega, by omega, by omega, by omega, by omega, fun a c2 oka fa da la c20 c21 => ?_⟩
          walk_at "zw"
          refine ⟨cdiv_ok (by decide) (by decide), ?_⟩
          walk_at "zw"
          refine ⟨deep - 1, room / 2, rfl, by omega, by omega, by omega, by omega, by omega, by omega, fun b c3 okb fb db lb c30 c31 => ?_⟩
          walk_at "zw"
          refine ⟨by rw [sizeLine_eq]; show 3 ≤ 16777216; decide, ?_⟩
          walk_at "zw"
          exact q (.both a b) c3 ⟨oka, okb⟩ ⟨fa, fb⟩ (by show ((max a.dep b.dep + 1 : Nat) : Int) < deep; omega) (by show ((a.lv + b.lv : Nat) : Int) ≤ room; omega) (by omega) (by omega)
        · walk_at "zw"
          refine ⟨by rw [sizeLine_eq]; decide, ?_⟩
          walk_at "zw"
          refine ⟨by rw [sizeLine_eq]; decide, ?_⟩
          walk_at "zw"
          refine ⟨by rw [sizeLine_eq]; decide, ?_⟩
          walk_at "zw"
          refine ⟨by rw [sizeLine_eq]; decide, ?_⟩
          walk_at "zw"
          refine ⟨by rw [sizeLine_eq]; decide, ?_⟩
          walk_at "zw"
          refine ⟨by rw [sizeLine_eq]; decide, ?_⟩
          walk_at "zw"
          refine ⟨by rw [sizeLine_eq]; decide, ?_⟩
          walk_at "zw"
          refine ⟨by rw [sizeLine_eq]; decide, ?_⟩
          walk_at "zw"
          refine ⟨by rw [sizeLine_eq]; decide, ?_⟩
          walk_at "zw"
          refine ⟨by rw [sizeLine_eq]; decide, ?_⟩
          walk_at "zw"
          refine ⟨by rw [sizeLine_eq]; decide, ?_⟩
          walk_at "zw"
          refine ⟨7, rfl, by decide, by decide, by omega, fun i c2 i0 i1 c20 c21 => ?_⟩
          obtain ⟨⟨r, m⟩, hp, e1, e2⟩ := rulers_at i0 i1
          obtain ⟨rok, m0, m1⟩ := rulers_ok _ hp
          have rl := rulers_all _ hp
          walk_at "zw"
          refine ⟨_, e2, ?_⟩
          walk_at "zw"
          split
          · walk_at "zw"
            exact ⟨room, rfl, by omega, qp c2 (by omega) (by omega)⟩
          · rename_i hmm
            have hmm := of_decide_eq_false hmm
            walk_at "zw"
            refine ⟨_, e1, ?_⟩
            walk_at "zw"
            refine ⟨_, e2, ?_⟩
            walk_at "zw"
            refine ⟨cdiv_ok m0 (by show m < 2 ^ 64; have : m < 2 ^ 60 := m1; omega), ?_⟩
            walk_at "zw"
            have hm : m ≤ room := by have : ¬ room < m := hmm; omega
            have hdiv : (1 : Int) ≤ room / m := (Int.le_ediv_iff_mul_le (show 0 < m from m0)).mpr (by omega)
            have hdm : m * (room / m) ≤ room := Int.mul_ediv_self_le (by have : 0 < m := m0; omega)
            have hle : room / m ≤ room := Int.ediv_le_self _ (by omega)
            refine ⟨deep - 1, room / m, rfl, by omega, by omega, by omega, hdiv, by omega, by omega, fun b c3 okb fb db lb c30 c31 => ?_⟩
            walk_at "zw"
            refine ⟨by rw [sizeLine_eq]; show 3 ≤ 16777216; decide, ?_⟩
            walk_at "zw"
            have := q (.ruled (rlOf r) b) c3 ⟨⟨r, rok, rfl⟩, okb⟩ fb (by show ((b.dep + 1 : Nat) : Int) < deep; omega) (by
              show (((rlOf r).all.length * b.lv : Nat) : Int) ≤ room
              rw [rl_all, Int.natCast_mul]
              have rl : ((rulAll r).length : Int) = m := rl
              rw [rl]
              exact Int.le_trans (Int.mul_le_mul_of_nonneg_left lb (by have : 0 < m := m0; omega)) hdm) (by omega) (by omega)
            have e : Ho.d (.ruled (rlOf r) b) = .tuple [.str "ruled", rulD r, b.d] := by
              show PyData.tuple [.str "ruled", (rlOf r).d, b.d] = _
              rw [rl_d]
            rw [e] at this
            exact this
    · walk_at "zw"
      exact ⟨room, rfl, by omega, qp c (by omega) (by omega)⟩
  · walk_at "zw"
    exact ⟨room, rfl, by omega, qp c (by omega) (by omega)⟩
end K05
/-! C05c -/
set_option maxRecDepth 100000
namespace K05
open PySem PySem.Spec PyProof.Rows L2 Z K02
open PR (whole toI Rul rulW rulD rulOk rulAll Rl rlOf rl_d rl_w rl_all Ho words Rw BigR w_ne eqW sz_small)
def rc : Nat → Nat
  | 0 => 0
  | n + 1 => 2 * rc n + 16
def ctRowD (n : Nat) : Ct := fun zs c Q => ∃ h : Ho, zs = [.pot, .d h.d] ∧ h.dep < n ∧ n ≤ 4 ∧ h.ok ∧ c + rc n < 2 ^ 60 ∧ ∀ (ns : List Int) c', Rw h ns → BigR ns → c ≤ c' → c' ≤ c + rc n → Q (.d (TpI ns)) c'
theorem all_int {P : Int → Prop} : ∀ {xs : List PyData}, (∀ x ∈ xs, ∃ i : Int, x = .int i ∧ P i) → ∃ ns : List Int, xs = ns.map .int ∧ ns.length = xs.length ∧ ∀ i ∈ ns, P i
  | [], _ => ⟨[], rfl, rfl, fun i h => by cases h⟩
  | x :: xs, h => by
    obtain ⟨i, rfl, hi⟩ := h x (by simp)
    obtain ⟨ns, rfl, e, hp⟩ := all_int (P := P) (xs := xs) fun y hy => h y (by simp [hy])
    exact ⟨i :: ns, rfl, by simp, fun j hj => (List.mem_cons.mp hj).elim (fun e => e ▸ hi) (hp j)⟩
theorem pow10 (k : Int) (h0 : 0 ≤ k) (h1 : k ≤ 10000) : 0 ≤ k ∧ k ≤ 10000 ∧ Int.natAbs 10 < 2 ^ 10000 := ⟨h0, h1, Nat.lt_of_lt_of_le (show 10 < 2 ^ 10 by decide) (Nat.pow_le_pow_right (by decide) (by decide))⟩
theorem big_app {a b : List Int} (ha : BigR a) (hb : BigR b) : BigR (a ++ b) := fun x hx => (List.mem_append.mp hx).elim (ha x) (hb x)
theorem fit_app {r : PR.Rl} {b : Ho} {ms ns : List Int} (hm : ms.length = r.k) (hf : r.fit ms = true) (hr : Rw b ns) : Rw (.ruled r b) (ms ++ ns) := by
  refine ⟨by rw [List.length_append, hm, hr.len]; rfl, ?_⟩
  show (r.fit (ms ++ ns) && b.fits ((ms ++ ns).drop r.k)) = true
  rw [← hm, List.drop_left, hr.fit, Bool.and_true]
  unfold PR.Rl.fit at hf ⊢
  split
  · rename_i h
    rw [if_pos h] at hf
    rw [← hm] at hf ⊢
    rw [List.take_left]
    rw [List.take_length] at hf
    exact hf
  · rfl
theorem both_app {a b : Ho} {xs ys : List Int} (hx : Rw a xs) (hy : Rw b ys) : Rw (.both a b) (xs ++ ys) := by
  refine ⟨by rw [List.length_append, hx.len, hy.len]; rfl, ?_⟩
  show (a.fits ((xs ++ ys).take a.sz) && b.fits ((xs ++ ys).drop a.sz)) = true
  rw [← hx.len, List.take_left, List.drop_left, hx.fit, hy.fit]
  rfl
def IsB (x : PyData) : Prop := ∃ i : Int, x = .int i ∧ i.natAbs < 10 ^ 41
theorem w_row {Q : KZ} {c n : Nat} {h : Ho} (hd : h.dep < n + 1) (n4 : n + 1 ≤ 4) (ok : h.ok) (hc' : c + rc (n + 1) < 2 ^ 60) (q : ∀ (ns : List Int) c', Rw h ns → BigR ns → c ≤ c' → c' ≤ c + rc (n + 1) → Q (.d (TpI ns)) c') :
    wSs (ctF [ctOf, ctRowD n, ctTake] []) Gn ir_law_row [some .pot, some (.d h.d), none, none, none] c (iniR Q) := by
  have e : rc (n + 1) = 2 * rc n + 16 := rfl
  rw [e] at hc' q
  have sl : sizeLine = 16777216 := sizeLine_eq
  have sm := sz_small ok (by omega)
  cases h with
  | plain w k r =>
    have hw := w_ne w ok.1
    have k1 := ok.2.1
    have k8 := ok.2.2.1
    walk_at "zw"
    refine ⟨_, at0, ?_⟩
    walk_at "zw"
    refine ⟨trivial, ?_⟩
    rw [eqW hw.1]
    walk_at "zw"
    refine ⟨_, at0, ?_⟩
    walk_at "zw"
    refine ⟨trivial, ?_⟩
    rw [eqW hw.2.1]
    walk_at "zw"
    refine ⟨5, rfl, by decide, by decide, by omega, fun t c1 t0 t1 c10 c11 => ?_⟩
    walk_at "zw"
    refine ⟨by omega, by omega, ?_⟩
    refine lcW_all IsB 1 (c1 + 5) (by rw [rangeD_len]; omega) (fun d hd c2 Q1 hc2 q1 => ?_) (fun xs c2 hl ha h1 h2 => ?_)
    · walk_at "zw"
      refine ⟨pow10 39 (by decide) (by decide), ?_⟩
      walk_at "zw"
      refine ⟨pow10 38 (by decide) (by decide), ?_⟩
      walk_at "zw"
      refine ⟨by rw [sl]; show 8 ≤ 16777216; decide, ?_⟩
      walk_at "zw"
      refine ⟨_, rfl, by simp, by show 8 < 2 ^ 50; decide, by omega, fun x c3 hx c30 c31 => ?_⟩
      refine q1 x c3 ?_ (by omega) (by omega)
      simp only [List.mem_cons, List.not_mem_nil, or_false] at hx
      rcases hx with rfl | rfl | rfl | rfl | rfl | rfl | rfl | rfl <;> exact ⟨_, rfl, by decide +kernel⟩
    · rw [rangeD_len] at hl h2
      obtain ⟨ns, rfl, el, hb⟩ := all_int ha
      have n0 : ns.map PyData.int ≠ [] := fun e => by
        have : (ns.map PyData.int).length = 0 := by rw [e]; rfl
        rw [List.length_map] at this hl
        omega
      rw [List.length_map] at hl
      walk_at "zw"
      refine ⟨_, at1, ?_⟩
      walk_at "zw"
      refine ⟨by omega, by omega, ?_⟩
      refine lcW_all IsB 1 (c2 + 8) (by rw [rangeD_len]; omega) (fun d hd c3 Q1 hc3 q1 => ?_) (fun xs c3 hl2 ha2 h3 h4 => ?_)
      · walk_at "zw"
        refine ⟨_, rfl, n0, by rw [List.length_map]; omega, by omega, fun x c4 hx c40 c41 => ?_⟩
        exact q1 x c4 (ha x hx) (by omega) (by omega)
      · rw [rangeD_len] at hl2 h4
        obtain ⟨ms, rfl, em, hb2⟩ := all_int ha2
        walk_at "zw"
        exact q ms c3 ⟨by rw [em, hl2]; show _ = k; omega, rfl⟩ hb2 (by omega) (by omega)
  | both a b =>
    have hd' : max a.dep b.dep + 1 < n + 1 := hd
    have sm' : 1 ≤ a.sz + b.sz ∧ a.sz + b.sz ≤ 64 := sm
    walk_at "zw"
    refine ⟨_, at0, ?_⟩
    walk_at "zw"
    refine ⟨trivial, ?_⟩
    walk_at "zw"
    refine ⟨_, at1, ?_⟩
    walk_at "zw"
    refine ⟨a, rfl, by omega, by omega, ok.1, by omega, fun xs c1 hx bx c10 c11 => ?_⟩
    walk_at "zw"
    refine ⟨_, at2, ?_⟩
    walk_at "zw"
    refine ⟨b, rfl, by omega, by omega, ok.2, by omega, fun ys c2 hy by_ c20 c21 => ?_⟩
    have hxl := hx.len
    have hyl := hy.len
    walk_at "zw"
    rw [← List.map_append]
    exact ⟨by rw [List.length_map, List.length_map]; omega, q (xs ++ ys) c2 (both_app hx hy) (big_app bx by_) (by omega) (by omega)⟩
  | ruled r b =>
    have hd' : b.dep + 1 < n + 1 := hd
    have sm' : 1 ≤ r.k + b.sz ∧ r.k + b.sz ≤ 64 := sm
    have k4 := ok.1.k1
    have k1 := ok.1.k0
    walk_at "zw"
    refine ⟨_, at0, ?_⟩
    walk_at "zw"
    refine ⟨trivial, ?_⟩
    walk_at "zw"
    refine ⟨_, at0, ?_⟩
    walk_at "zw"
    refine ⟨trivial, ?_⟩
    walk_at "zw"
    refine ⟨_, at1, ?_⟩
    walk_at "zw"
    refine ⟨_, at0, ?_⟩
    walk_at "zw"
    refine ⟨trivial, ?_⟩
    have fin : ∀ (P : Int → Prop) (L : List PyData), (∀ x ∈ L, ∃ i : Int, x = .int i ∧ P i) → (∀ i, P i → i.natAbs < 10 ^ 41) → (∀ ms : List Int, ms.length = r.k → (∀ i ∈ ms, P i) → r.fit ms = true) → L ≠ [] → L.length < 2 ^ 50 →
        wSs (ctF [ctOf, ctRowD n, ctTake] []) Gn [.ret (.bin .Add (.blt .tuple [(.lc [4] (.n 4) (.blt .range [(.ix (.ix (.var 1) (.int (1))) (.int (1)))]) none (.call 0 [(.var 0), (.var 3)]))]) (.call 1 [(.var 0), (.ix (.var 1) (.int (2)))]))] [some .pot, some (.d (.tuple [.str "ruled", r.d, b.d])), none, some (.d (.list L)), none] c { nx := fun Γ1 c1 => wSs (ctF [ctOf, ctRowD n, ctTake] []) Gn (ir_law_row.drop 2) Γ1 c1 (iniR Q), rt := (iniR Q).rt, bk := (iniR Q).bk, ct := (iniR Q).ct } := fun P L hL hP hf hL0 hL1 => by
      walk_at "zw"
      refine ⟨_, at1, ?_⟩
      walk_at "zw"
      refine ⟨_, at1, ?_⟩
      walk_at "zw"
      refine ⟨by omega, by omega, ?_⟩
      refine lcW_all (fun x => ∃ i : Int, x = .int i ∧ P i) 1 (c + 4) (by rw [rangeD_len]; omega) (fun d hd c3 Q1 hc3 q1 => ?_) (fun xs c3 hl2 ha2 h3 h4 => ?_)
      · walk_at "zw"
        refine ⟨_, rfl, hL0, hL1, by omega, fun x c4 hx c40 c41 => ?_⟩
        exact q1 x c4 (hL x hx) (by omega) (by omega)
      · rw [rangeD_len] at hl2 h4
        obtain ⟨ms, rfl, em, hm⟩ := all_int ha2
        rw [List.length_map] at hl2
        walk_at "zw"
        refine ⟨_, at2, ?_⟩
        walk_at "zw"
        refine ⟨b, rfl, by omega, by omega, ok.2, by omega, fun ys c4 hy by_ c40 c41 => ?_⟩
        have hyl := hy.len
        walk_at "zw"
        rw [← List.map_append]
        exact ⟨by rw [List.length_map, List.length_map]; omega, q (ms ++ ys) c4 (fit_app (by omega) (hf ms (by omega) hm) hy) (big_app (fun i hi => hP i (hm i hi)) by_) (by omega) (by omega)⟩
    obtain ⟨r0, ro, rfl⟩ := ok.1
    cases r0 with
    | marks n0 m =>
      obtain ⟨n1, n3, m2, m4⟩ := ro
      walk_at "zw"
      refine ⟨_, at1, ?_⟩
      walk_at "zw"
      refine ⟨_, at2, ?_⟩
      walk_at "zw"
      refine ⟨⟨by omega, by omega⟩, ?_⟩
      refine fin (fun i => 0 ≤ i ∧ i < m) (rangeD 0 m) (fun x hx => ?_) (fun i hi => Nat.lt_of_lt_of_le (show i.natAbs < 10 by omega) (by decide +kernel)) (fun ms hl hm => ?_) (fun e => by
        have : (rangeD 0 (m : Int)).length = 0 := by rw [e]; rfl
        rw [rangeD_len] at this
        omega) (by rw [rangeD_len]; omega)
      · unfold rangeD at hx
        obtain ⟨i, hi, rfl⟩ := List.mem_map.mp hx
        have := List.mem_range.mp hi
        exact ⟨_, rfl, by omega, by omega⟩
      · show ((ms.take n0).all (PR.mkB m)) = true
        refine List.all_eq_true.mpr fun x hx => ?_
        have := hm x (List.mem_of_mem_take hx)
        unfold PR.mkB
        rw [Bool.and_eq_true, decide_eq_true_eq, decide_eq_true_eq]
        exact this
    | other l n0 =>
      cases l
      all_goals
        walk_at "zw"
        refine ⟨pow10 39 (by decide) (by decide), ?_⟩
        walk_at "zw"
        refine ⟨by rw [sl]; show 4 ≤ 16777216; decide, ?_⟩
        refine fin (fun i => i.natAbs < 10 ^ 41) [.int 3, .int 1, .int (-4), .int ((10 : Int) ^ (Int.toNat 39))] (fun x hx => ?_) (fun i hi => hi) (fun ms hl hm => rfl) (by simp) (by show 4 < 2 ^ 50; decide)
        simp only [List.mem_cons, List.not_mem_nil, or_false] at hx
        rcases hx with rfl | rfl | rfl | rfl <;> exact ⟨_, rfl, by decide +kernel⟩
end K05
/-! C05d -/
set_option maxRecDepth 100000
namespace K05
open PySem PySem.Spec PyProof.Rows L2 Z K02
open PR (whole toI Rul rulW rulD rulOk rulAll Rl rlOf rl_d rl_w rl_all Ho words Rw BigR w_ne eqW sz_small Lot isPg PlPg ownRul lv_pos lotB lotsB inB pgB plB Short bools_f all_f any_f lot_len ded_pos sub0 neOk_TpI)
theorem rise_eq : ∀ {a b : List Int}, a.Pairwise (· < ·) → b.Pairwise (· < ·) → (∀ x, x ∈ a ↔ x ∈ b) → a = b
  | [], [], _, _, _ => rfl
  | [], y :: b, _, _, h => absurd ((h y).mpr (by simp)) (by simp)
  | x :: a, [], _, _, h => absurd ((h x).mp (by simp)) (by simp)
  | x :: a, y :: b, ha, hb, h => by
    obtain ⟨ha1, ha2⟩ := List.pairwise_cons.mp ha
    obtain ⟨hb1, hb2⟩ := List.pairwise_cons.mp hb
    have e : x = y := by
      rcases List.mem_cons.mp ((h x).mp (by simp)) with e | m
      · exact e
      · rcases List.mem_cons.mp ((h y).mpr (by simp)) with e | m2
        · exact e.symm
        · have h1 := hb1 x m
          have h2 := ha1 y m2
          omega
    subst e
    rw [rise_eq ha2 hb2 fun z => ⟨fun hz => ?_, fun hz => ?_⟩]
    · rcases List.mem_cons.mp ((h z).mp (by simp [hz])) with e | m
      · subst e
        have := ha1 z hz
        omega
      · exact m
    · rcases List.mem_cons.mp ((h z).mpr (by simp [hz])) with e | m
      · subst e
        have := hb1 z hz
        omega
      · exact m
theorem rise_nodup {a : List Int} (h : a.Pairwise (· < ·)) : a.Nodup := h.imp fun {x y} h e => by omega
theorem sub_eq {a b : List Int} (ha : a.Pairwise (· < ·)) (hb : b.Pairwise (· < ·)) (hs : ∀ x ∈ a, x ∈ b) (hl : b.length ≤ a.length) : a = b := by
  refine rise_eq ha hb fun x => ⟨hs x, fun hx => ?_⟩
  by_cases h : x ∈ a
  · exact h
  · have nd : (x :: a).Nodup := List.nodup_cons.mpr ⟨h, rise_nodup ha⟩
    have := nd.length_le_of_subset (l₂ := b) fun y hy => (List.mem_cons.mp hy).elim (fun e => e ▸ hx) (hs y)
    rw [List.length_cons] at this
    omega
theorem least_len : ∀ {r : List (List Int)}, r ≠ [] → ∃ l ∈ r, ∀ x ∈ r, l.length ≤ x.length
  | [x], _ => ⟨x, by simp, fun y hy => by rw [List.mem_singleton.mp hy]; exact Nat.le_refl _⟩
  | x :: y :: r, _ => by
    obtain ⟨l, hl, h⟩ := least_len (r := y :: r) (by simp)
    by_cases e : l.length ≤ x.length
    · exact ⟨l, List.mem_cons_of_mem _ hl, fun z hz => (List.mem_cons.mp hz).elim (fun q => q ▸ e) (h z)⟩
    · exact ⟨x, by simp, fun z hz => (List.mem_cons.mp hz).elim (fun q => q ▸ Nat.le_refl _) fun m => by have := h z m; omega⟩
theorem kept {r : List (List Int)} (hr : ∀ l ∈ r, l.Pairwise (· < ·)) (h0 : r ≠ []) : r.filter (fun l => !(r.any fun one => PR.inB one l)) ≠ [] := by
  obtain ⟨l, hl, h⟩ := least_len h0
  intro e
  have : l ∈ r.filter (fun l => !(r.any fun one => PR.inB one l)) := by
    refine List.mem_filter.mpr ⟨hl, ?_⟩
    rw [Bool.not_eq_true']
    cases e : (r.any fun one => PR.inB one l) with
    | false => rfl
    | true =>
      obtain ⟨one, ho, hb⟩ := List.any_eq_true.mp e
      unfold PR.inB at hb
      rw [Bool.and_eq_true, Bool.not_eq_true', decide_eq_false_iff_not] at hb
      exact absurd (sub_eq (hr one ho) (hr l hl) (fun x hx => of_decide_eq_true (List.all_eq_true.mp hb.2 x hx)) (h one ho)) hb.1
  rw [e] at this
  cases this
theorem lcW_rel {α : Type} {f : PyData → Nat → (List PyData → Nat → Prop) → Prop} {e : α → PyData} (A : α → PyData → Prop) (k C : Nat) : ∀ {l : List α} {c : Nat} {Q : List PyData → Nat → Prop}, c + k * l.length ≤ C →
    (∀ a ∈ l, ∀ c (Q : List PyData → Nat → Prop), c + k ≤ C → (∀ x c', A a x → c ≤ c' → c' ≤ c + k → Q [x] c') → f (e a) c Q) →
    (∀ (xs : List PyData) c', xs.length = l.length → (∀ (i : Nat) (a : α) (x : PyData), l[i]? = some a → xs[i]? = some x → A a x) → c ≤ c' → c' ≤ c + k * l.length → Q xs c') → lcW f (l.map e) c Q
  | [], c, Q, _, _, q => q [] c rfl (fun i a x h => by simp at h) (Nat.le_refl _) (by simp)
  | y :: l, c, Q, hC, h, q => by
    have hC' : c + (k * l.length + k) ≤ C := by simpa [Nat.mul_succ] using hC
    refine h y (by simp) c _ (by omega) fun x c1 hx h1 h2 => ?_
    refine lcW_rel A k C (by omega) (fun a ha => h a (by simp [ha])) fun xs c2 hl hA h3 h4 => ?_
    refine q (x :: xs) c2 (by simp [hl]) (fun i a z h5 h6 => ?_) (by omega) (by rw [List.length_cons, Nat.mul_succ]; omega)
    cases i with
    | zero =>
      simp only [List.getElem?_cons_zero, Option.some.injEq] at h5 h6
      rw [← h5, ← h6]
      exact hx
    | succ i =>
      simp only [List.getElem?_cons_succ] at h5 h6
      exact hA i a z h5 h6
theorem own_full : ∀ b ∈ [true, false], ∀ k ∈ [1, 2, 3, 4], ∀ p ∈ allF b k, p ≠ [] ∧ 0 ≤ maxD p ∧ maxD p < 4 ∧ ∀ c ∈ List.range 4, (c : Int) ≤ maxD p → (c : Int) ∈ p := by decide +kernel
theorem own_in {w : Str} {k : Nat} (k0 : 1 ≤ k) (k1 : k ≤ 4) {p : List Int} (h : p ∈ rulAll (ownRul w k)) : p ≠ [] ∧ 0 ≤ maxD p ∧ maxD p < 4 ∧ ∀ c : Int, 0 ≤ c → c < maxD p + 1 → c ∈ p := by
  obtain ⟨h1, h2, h3, h4⟩ := own_full (decide (w = "likers")) (by cases decide (w = "likers") <;> simp) k (by simp; omega) p h
  refine ⟨h1, h2, h3, fun c c0 c1 => ?_⟩
  obtain ⟨m, rfl⟩ := Int.eq_ofNat_of_zero_le c0
  exact h4 m (List.mem_range.mpr (by omega)) (by omega)
theorem own_len {w : Str} {k : Nat} (k0 : 1 ≤ k) (k1 : k ≤ 4) : (rulAll (ownRul w k)).length ≤ 75 := by
  have : ∀ b ∈ [true, false], ∀ k ∈ [1, 2, 3, 4], (allF b k).length ≤ 75 := by decide +kernel
  exact this (decide (w = "likers")) (by cases decide (w = "likers") <;> simp) k (by simp; omega)
def ctLots : Ct := fun zs c Q => ∃ (k : Nat) (ls : List (List Int)), zs = [.d (.list (ls.map TpI))] ∧ k ≤ 7 ∧ ls ≠ [] ∧ ls.length ≤ 60 ∧ (∀ l ∈ ls, Lot k l) ∧ ∀ rs : List (List Int), rs ≠ [] → rs.length ≤ 60 → (∀ l ∈ rs, Lot k l) → lotsB k (.tuple (rs.map TpI)) = true → Q (.d (.tuple (rs.map TpI))) c
theorem w_lots {Q : KZ} {c k : Nat} {ls : List (List Int)} (k7 : k ≤ 7) (h0 : ls ≠ []) (h1 : ls.length ≤ 60) (hl : ∀ l ∈ ls, Lot k l) (q : ∀ rs : List (List Int), rs ≠ [] → rs.length ≤ 60 → (∀ l ∈ rs, Lot k l) → lotsB k (.tuple (rs.map TpI)) = true → Q (.d (.tuple (rs.map TpI))) c) :
    wSs (ctF [] []) Gn ir_law_lots [some (.d (.list (ls.map TpI))), none, none, none] c (iniR Q) := by
  have sl : sizeLine = 16777216 := sizeLine_eq
  walk_at "zw"
  refine lcW_of (e := TpI) (fun l => !(ls.any fun one => inB one l)) (fun l hll Q1 q1 => ?_) ?_
  · walk_at "zw"
    refine lcW_om (e := TpI) (fun one => PyData.bool (inB one l)) (fun one ho Q2 q2 => ?_) ?_
    · have la := lot_len (hl one ho)
      have l1 := ded_le one
      have l2 := ded_pos (hl l hll).1
      walk_at "zw"
      refine ⟨⟨by rw [Z.ints_map]; rfl, by rw [List.length_map]; omega⟩, ?_⟩
      walk_at "zw"
      refine ⟨one, l, Z.ints_map one, Z.ints_map l, by have := lot_len (hl l hll); omega, by omega, ?_⟩
      walk_at "zw"
      refine ⟨⟨sh_int _, sh_int _⟩, ?_⟩
      rw [eqv_int, sub0]
      unfold inB at q2
      cases h : one.all fun x => decide (x ∈ l) with
      | false =>
        rw [h, Bool.and_false] at q2
        exact q2
      | true =>
        rw [h, Bool.and_true] at q2
        walk_at "zw"
        refine ⟨neOk_TpI _ _, ?_⟩
        rw [eqv_TpI]
        exact q2
    · walk_at "zw"
      refine ⟨_, bools_f _ ls, ?_⟩
      rw [any_f]
      cases h : ls.any fun one => inB one l with
      | true => rw [h] at q1; exact q1
      | false => rw [h] at q1; exact q1
  · have hf : ∀ l ∈ ls.filter (fun l => !(ls.any fun one => inB one l)), Lot k l := fun l h => hl l (List.mem_filter.mp h).1
    have hne := kept (r := ls) (fun l h => (hl l h).2.1) h0
    have hle := List.length_filter_le (fun l => !(ls.any fun one => inB one l)) ls
    walk_at "zw"
    refine ⟨_, rfl, by omega, fun l h => (hf l h).1, fun r nd hm hs => ?_⟩
    walk_at "zw"
    have hr : ∀ l ∈ r, Lot k l := fun l h => hf l ((hm l).mp h)
    have r0 : r ≠ [] := fun e => by
      obtain ⟨l, h⟩ := List.exists_mem_of_ne_nil _ hne
      have := (hm l).mpr h
      rw [e] at this
      cases this
    have rl : r.length ≤ 60 := Nat.le_trans (nd.length_le_of_subset fun l h => (hm l).mp h) (by omega)
    refine q r r0 rl hr (PR.lots_true r0 hr (PR.rise_of nd hs) ?_)
    rw [List.any_eq_false]
    intro a ha
    rw [Bool.not_eq_true, List.any_eq_false]
    intro b hb hin
    have h2 := (List.mem_filter.mp ((hm b).mp hb)).2
    rw [Bool.not_eq_true', List.any_eq_false] at h2
    exact h2 a ((List.mem_filter.mp ((hm a).mp ha)).1) hin
end K05
/-! C05e -/
set_option maxRecDepth 100000
namespace K05
open PySem PySem.Spec PyProof.Rows L2 Z K02
open PR (whole toI Rul rulW rulD rulOk rulAll Rl rlOf rl_d rl_w rl_all Ho words Rw BigR w_ne eqW sz_small Lot isPg PlPg ownRul lv_pos lotB lotsB inB pgB plB placeB mulsB chsB limOf Short bools_f all_f any_f lot_len ded_pos sub0 neOk_TpI lot_iff ctRulerOf)
theorem w_rul {Q : KZ} {c : Nat} {w : Str} {k : Nat} (hw : w = "likers" ∨ w = "rankers") (q : Q (.d (rulD (ownRul w k))) c) : wSs (ctF [] []) Gn ir_law_ruler [some (.d (.tuple [.str w, .int k]))] c (iniR Q) := by
  rcases hw with rfl | rfl
  all_goals
    walk_at "zw"
    refine ⟨rfl, by decide +kernel, ?_⟩
    walk_at "zw"
    refine ⟨_, at0, ?_⟩
    walk_at "zw"
    refine ⟨_, _, rfl, rfl, ?_⟩
    walk_at "zw"
    refine ⟨_, at1, ?_⟩
    walk_at "zw"
    refine ⟨by rw [sizeLine_eq]; show 2 ≤ 16777216; decide, ?_⟩
    exact q
theorem short_TpI {l : List Int} (h : l.length ≤ 4000) : Short (TpI l) := .tup _ (by rw [List.length_map]; exact h) fun x hx => by
  obtain ⟨i, _, rfl⟩ := List.mem_map.mp hx
  exact .oth _ fun xs e => by cases e
theorem short_tups {L : List (List Int)} (h : L.length ≤ 4000) (hl : ∀ l ∈ L, l.length ≤ 4000) : Short (.tuple (L.map TpI)) := .tup _ (by rw [List.length_map]; exact h) fun x hx => by
  obtain ⟨l, hll, rfl⟩ := List.mem_map.mp hx
  exact short_TpI (hl l hll)
theorem zeros : ∀ k : Nat, (List.replicate ((k : Int)).toNat [PyData.int 0]).flatten = (List.replicate k (0 : Int)).map PyData.int := fun k => by
  rw [Int.toNat_natCast]
  induction k with
  | zero => rfl
  | succ k ih => rw [List.replicate_succ, List.replicate_succ, List.flatten_cons, ih]; rfl
theorem sortI_len (l : List Int) : (sortI l).length = l.length := (sortI_perm l).length_eq
theorem ix_ok {n i : Nat} (h : i < n) : ixN n (i : Int) = some i := by
  unfold ixN
  rw [if_pos (by omega), if_pos (by omega)]
  rfl
def absS (ns : List Int) : Int := (ns.map fun i => (i.natAbs : Int)).sum
theorem abs_pos : ∀ ns : List Int, 0 ≤ absS ns
  | [] => Int.le_refl 0
  | x :: ns => by
    have := abs_pos ns
    show 0 ≤ (x.natAbs : Int) + absS ns
    omega
theorem abs_le : ∀ {ns : List Int} {x : Int}, x ∈ ns → (x.natAbs : Int) ≤ absS ns
  | y :: ns, x, h => by
    have e : absS (y :: ns) = (y.natAbs : Int) + absS ns := rfl
    have := abs_pos ns
    rcases List.mem_cons.mp h with rfl | h
    · omega
    · have := abs_le h
      omega
theorem abs_set : ∀ {ns : List Int} {i : Nat} {v e : Int}, ns[i]? = some v → absS (ns.set i (v + e)) ≤ absS ns + e.natAbs
  | x :: ns, 0, v, e, h => by
    obtain rfl : x = v := by simpa using h
    show ((x + e).natAbs : Int) + absS ns ≤ (x.natAbs : Int) + absS ns + e.natAbs
    omega
  | x :: ns, i + 1, v, e, h => by
    have := abs_set (ns := ns) (i := i) (v := v) (e := e) (by simpa using h)
    show (x.natAbs : Int) + absS (ns.set i (v + e)) ≤ (x.natAbs : Int) + absS ns + e.natAbs
    omega
theorem abs_zero (k : Nat) : absS (List.replicate k 0) = 0 := by
  induction k with
  | zero => rfl
  | succ k ih =>
    show ((0 : Int).natAbs : Int) + absS (List.replicate k 0) = 0
    rw [ih]; rfl
theorem muls_true {k m : Nat} {ns : List Int} (h1 : ns.length = k) (h2 : absS ns ≤ m) : mulsB k m (TpI ns) = true := by
  show (decide ((ns.map PyData.int).length = k) && ((ns.map PyData.int).all whole && decide ((((ns.map PyData.int).map toI).map fun i => (i.natAbs : Int)).sum ≤ m))) = true
  have e1 : (ns.map PyData.int).all whole = true := List.all_eq_true.mpr fun x hx => by
    obtain ⟨i, _, rfl⟩ := List.mem_map.mp hx
    rfl
  have e2 : (ns.map PyData.int).map toI = ns := by rw [List.map_map]; exact List.map_id _
  rw [e1, e2, List.length_map, decide_eq_true h1, decide_eq_true (show (ns.map fun i => (i.natAbs : Int)).sum ≤ m from h2)]
  rfl
theorem chs_true {all : List (List Int)} {cs : List Int} (hl : cs.length = all.length) (h : ∀ (i : Nat) (p : List Int) (c : Int), all[i]? = some p → cs[i]? = some c → c ∈ p) : chsB all (TpI cs) = true := by
  show (decide ((cs.map PyData.int).length = all.length) && ((cs.map PyData.int).zip all).all fun p => whole p.1 && decide (toI p.1 ∈ p.2)) = true
  rw [List.length_map, decide_eq_true hl, Bool.true_and, List.all_eq_true]
  intro p hp
  obtain ⟨i, hi, rfl⟩ := List.getElem_of_mem hp
  rw [List.length_zip, List.length_map] at hi
  rw [List.getElem_zip, List.getElem_map]
  have := h i _ _ (List.getElem?_eq_getElem (by omega)) (List.getElem?_eq_getElem (show i < cs.length by omega))
  show (true && decide (cs[i] ∈ all[i])) = true
  rw [decide_eq_true this]
  rfl
def ctProg (n : Nat) : Ct := fun zs c Q => ∃ h : Ho, zs = [.pot, .d h.d] ∧ h.dep < n ∧ n ≤ 4 ∧ h.ok ∧ h.few ∧ c + 80 * h.lv < 2 ^ 60 ∧ ∀ (p : PyData) c', isPg h p → pgB h p = true → Short p → c ≤ c' → c' ≤ c + 80 * h.lv → Q (.d p) c'
theorem all_le (r : Rul) (ro : rulOk r) : (rulAll r).length ≤ 256 := PR.all_le r ro
theorem w_program {Q : KZ} {c n : Nat} {h : Ho} (hd : h.dep < n + 1) (n4 : n + 1 ≤ 4) (ok : h.ok) (fw : h.few) (hc' : c + 80 * h.lv < 2 ^ 60) (q : ∀ (p : PyData) c', isPg h p → pgB h p = true → Short p → c ≤ c' → c' ≤ c + 80 * h.lv → Q (.d p) c') :
    wSs (ctF [ctTake, ctSome, ctLots, ctProg n, ctOf, ctAll, ctRulerOf] []) Gn ir_law_program [some .pot, some (.d h.d), none, none, none, none, none, none, none] c (iniR Q) := by
  have sl : sizeLine = 16777216 := sizeLine_eq
  cases h with
  | both a b =>
    have hd' : max a.dep b.dep + 1 < n + 1 := hd
    replace hc' : c + 80 * (a.lv + b.lv) < 2 ^ 60 := hc'
    replace q : ∀ (p : PyData) c', isPg (.both a b) p → pgB (.both a b) p = true → Short p → c ≤ c' → c' ≤ c + 80 * (a.lv + b.lv) → Q (.d p) c' := q
    rw [Nat.mul_add] at hc' q
    walk_at "zw"
    refine ⟨rfl, ?_⟩
    walk_at "zw"
    refine ⟨trivial, ?_⟩
    walk_at "zw"
    refine ⟨_, at1, ?_⟩
    walk_at "zw"
    refine ⟨a, rfl, by omega, by omega, ok.1, fw.1, by omega, fun x c1 hx tx sx c10 c11 => ?_⟩
    walk_at "zw"
    refine ⟨_, at2, ?_⟩
    walk_at "zw"
    refine ⟨b, rfl, by omega, by omega, ok.2, fw.2, by omega, fun y c2 hy ty sy c20 c21 => ?_⟩
    walk_at "zw"
    refine ⟨by rw [sl]; show 2 ≤ 16777216; decide, ?_⟩
    refine q _ c2 ⟨x, y, rfl, hx, hy⟩ ?_ (.tup _ (by show 2 ≤ 4000; decide) fun z hz => ?_) (by omega) (by omega)
    · show (pgB a x && pgB b y) = true
      rw [tx, ty]; rfl
    · simp only [List.mem_cons, List.not_mem_nil, or_false] at hz
      rcases hz with rfl | rfl
      · exact sx
      · exact sy
  | ruled r b =>
    have hd' : b.dep + 1 < n + 1 := hd
    replace hc' : c + 80 * (r.all.length * b.lv) < 2 ^ 60 := hc'
    replace q : ∀ (p : PyData) c', isPg (.ruled r b) p → pgB (.ruled r b) p = true → Short p → c ≤ c' → c' ≤ c + 80 * (r.all.length * b.lv) → Q (.d p) c' := q
    obtain ⟨r0, ro, rfl⟩ := ok.1
    rw [rl_all] at hc' q
    have e : 80 * ((rulAll r0).length * b.lv) = 80 * b.lv * (rulAll r0).length := by rw [Nat.mul_comm (rulAll r0).length, Nat.mul_assoc]
    rw [e] at hc' q
    walk_at "zw"
    refine ⟨rfl, ?_⟩
    iterate 2
      walk_at "zw"
      refine ⟨trivial, ?_⟩
    walk_at "zw"
    refine ⟨_, at1, ?_⟩
    walk_at "zw"
    refine ⟨r0, by rw [← rl_d], ro, ?_⟩
    walk_at "zw"
    refine lcW_rel (e := TpI) (fun _ x => isPg b x ∧ pgB b x = true ∧ Short x) (80 * b.lv) (2 ^ 60 - 1) (by omega) (fun d hd c1 Q1 hc1 q1 => ?_) (fun xs c1 hl hA h1 h2 => ?_)
    · walk_at "zw"
      refine ⟨_, at2, ?_⟩
      walk_at "zw"
      exact ⟨b, rfl, by omega, by omega, ok.2, fw, by omega, fun p c2 hp tp sp => q1 p c2 ⟨hp, tp, sp⟩⟩
    · have each : ∀ x ∈ xs, isPg b x ∧ pgB b x = true ∧ Short x := fun x hx => by
        obtain ⟨i, hi, rfl⟩ := List.getElem_of_mem hx
        exact hA i (rulAll r0)[i] _ (List.getElem?_eq_getElem (by omega)) (List.getElem?_eq_getElem hi)
      have hle := all_le r0 ro
      walk_at "zw"
      refine q _ c1 ⟨xs, rfl, by rw [rl_all, hl], fun x hx => (each x hx).1⟩ ?_ (.tup _ (by omega) fun x hx => (each x hx).2.2) h1 h2
      show (decide (xs.length = (rlOf r0).all.length) && xs.all (pgB b)) = true
      rw [rl_all, decide_eq_true hl, Bool.true_and]
      exact List.all_eq_true.mpr fun x hx => (each x hx).2.1
  | plain w k r =>
    replace hc' : c + 80 * 1 < 2 ^ 60 := hc'
    replace q : ∀ (p : PyData) c', PlPg w k p → plB w k r p = true → Short p → c ≤ c' → c' ≤ c + 80 * 1 → Q (.d p) c' := q
    replace fw : w = "levellers" → k ≤ 7 := fw
    obtain ⟨hw, k0, k1, hrl, had, hno, hch⟩ := ok
    simp only [words, List.mem_cons, List.not_mem_nil, or_false] at hw
    rcases hw with rfl | rfl | rfl | rfl | rfl | rfl | rfl
    · walk_at "zw"
      refine ⟨rfl, ?_⟩
      iterate 3
        walk_at "zw"
        refine ⟨trivial, ?_⟩
      walk_at "zw"
      refine ⟨k, rfl, by omega, by omega, by omega, fun t c1 t0 t1 c10 c11 => ?_⟩
      obtain ⟨t, rfl⟩ := Int.eq_ofNat_of_zero_le t0
      refine q _ c1 (.bear t rfl (by omega)) ?_ (.oth _ fun xs e => by cases e) (by omega) (by omega)
      show (true && (decide ((0 : Int) ≤ (t : Int)) && decide ((t : Int) < (k : Int)))) = true
      rw [decide_eq_true t0, decide_eq_true t1]
      rfl
    · walk_at "zw"
      refine ⟨rfl, ?_⟩
      iterate 3
        walk_at "zw"
        refine ⟨trivial, ?_⟩
      walk_at "zw"
      refine ⟨by rw [sl]; decide, ?_⟩
      walk_at "zw"
      refine ⟨by decide +kernel, by decide +kernel, ?_⟩
      walk_at "zw"
      exact ⟨k, rfl, by omega, by omega, by omega, fun l c1 hl c10 c11 => q _ c1 (.lot l (.inl rfl) hl) (lot_iff.mpr ⟨l, rfl, hl⟩) (short_TpI (by have := lot_len hl; omega)) (by omega) (by omega)⟩
    · walk_at "zw"
      refine ⟨rfl, ?_⟩
      iterate 3
        walk_at "zw"
        refine ⟨trivial, ?_⟩
      walk_at "zw"
      refine ⟨by rw [sl]; decide, ?_⟩
      walk_at "zw"
      refine ⟨by decide +kernel, by decide +kernel, ?_⟩
      walk_at "zw"
      exact ⟨k, rfl, by omega, by omega, by omega, fun l c1 hl c10 c11 => q _ c1 (.lot l (.inr rfl) hl) (lot_iff.mpr ⟨l, rfl, hl⟩) (short_TpI (by have := lot_len hl; omega)) (by omega) (by omega)⟩
    · walk_at "zw"
      refine ⟨rfl, ?_⟩
      iterate 3
        walk_at "zw"
        refine ⟨trivial, ?_⟩
      walk_at "zw"
      refine ⟨by rw [sl]; decide, ?_⟩
      walk_at "zw"
      refine ⟨by decide +kernel, by decide +kernel, ?_⟩
      walk_at "zw"
      refine ⟨trivial, ?_⟩
      walk_at "zw"
      refine ⟨4, rfl, by decide, by decide, by omega, fun t c1 t0 t1 c10 c11 => ?_⟩
      walk_at "zw"
      refine ⟨by omega, by omega, ?_⟩
      refine lcW_all (fun x => ∃ l : List Int, x = TpI l ∧ Lot k l) 9 (c1 + 60) (by rw [rangeD_len]; omega) (fun d hd c2 Q1 hc2 q1 => ?_) (fun xs c2 hl ha h1 h2 => ?_)
      · walk_at "zw"
        exact ⟨k, rfl, by omega, by omega, by omega, fun l c3 hl c30 c31 => q1 _ c3 ⟨l, rfl, hl⟩ (by omega) (by omega)⟩
      · rw [rangeD_len] at hl h2
        obtain ⟨ls, rfl, hlo⟩ : ∃ ls : List (List Int), xs = ls.map TpI ∧ ∀ l ∈ ls, Lot k l := by
          clear hl h1 h2
          induction xs with
          | nil => exact ⟨[], rfl, fun l h => by cases h⟩
          | cons x xs ih =>
            obtain ⟨l, rfl, hll⟩ := ha x (by simp)
            obtain ⟨ls, rfl, hls⟩ := ih fun y hy => ha y (by simp [hy])
            exact ⟨l :: ls, rfl, fun z hz => (List.mem_cons.mp hz).elim (fun e => e ▸ hll) (hls z)⟩
        rw [List.length_map] at hl
        walk_at "zw"
        refine ⟨k, ls, rfl, fw rfl, fun e => by rw [e] at hl; simp at hl; omega, by omega, hlo, fun rs r0 r1 r2 r3 => ?_⟩
        exact q _ c2 (.lots rs rfl r0 (by omega) r2) r3 (short_tups (by omega) fun l hl => by have := lot_len (r2 l hl); omega) (by omega) (by omega)
    · obtain ⟨m, rfl, m9⟩ := had rfl
      walk_at "zw"
      refine ⟨rfl, ?_⟩
      iterate 3
        walk_at "zw"
        refine ⟨trivial, ?_⟩
      walk_at "zw"
      refine ⟨by rw [sl]; decide, ?_⟩
      walk_at "zw"
      refine ⟨by decide +kernel, by decide +kernel, ?_⟩
      iterate 2
        walk_at "zw"
        refine ⟨trivial, ?_⟩
      walk_at "zw"
      refine ⟨by rw [sl]; decide, ?_⟩
      walk_at "zw"
      refine ⟨⟨by omega, by omega, by rw [sl]; simp; omega⟩, ?_⟩
      walk_at "zw"
      refine ⟨_, at2, ?_⟩
      walk_at "zw"
      refine ⟨(m : Int) + 1, rfl, by omega, by omega, by omega, fun t c1 t0 t1 c10 c11 => ?_⟩
      walk_at "zw"
      refine ⟨by omega, by omega, ?_⟩
      have e0 := zeros k
      rw [e0]
      refine forW_inv (fun s Γ c' => ∃ (ns : List Int) (z5 z6 : Option Zv), ns.length = k ∧ absS ns + (s.length : Int) ≤ t ∧ c1 ≤ c' ∧ c' + 2 * s.length ≤ c1 + 20 ∧
        Γ = [some .pot, some (.d (.tuple [.str "adders", .int k, .int m])), some (.d (.str "adders")), some (.d (.int k)), some (.own (ns.map .int)), z5, z6, none, none]) ?_ ?_ ⟨List.replicate k 0, none, none, by simp, by rw [abs_zero, rangeD_len]; omega, by omega, by rw [rangeD_len]; omega, rfl⟩
      · rintro Γ c2 ⟨ns, z5, z6, hl, ha, h1, h2, rfl⟩
        rw [List.length_nil] at ha
        walk_at "zw"
        refine q _ c2 (.add ns rfl hl fun x hx => ?_) (muls_true (m := m) hl (by omega)) (short_TpI (by omega)) (by omega) (by omega)
        have := abs_le hx
        omega
      · rintro d s Γ c2 kk ⟨ns, z5, z6, hl, ha, h1, h2, rfl⟩ hkk
        rw [List.length_cons] at ha h2
        walk_at "zw"
        refine ⟨k, rfl, by omega, by omega, by omega, fun i c3 i0 i1 c30 c31 => ?_⟩
        obtain ⟨i, rfl⟩ := Int.eq_ofNat_of_zero_le i0
        have hi : i < ns.length := by omega
        walk_at "zw"
        refine ⟨.int ns[i], atI_nat (by rw [List.getElem?_map, List.getElem?_eq_getElem hi]; rfl), ?_⟩
        walk_at "zw"
        refine ⟨by rw [sl]; decide, ?_⟩
        walk_at "zw"
        refine ⟨2, rfl, by decide, by decide, by omega, fun u c4 u0 u1 c40 c41 => ?_⟩
        walk_at "zw"
        have hu : u = 0 ∨ u = 1 := by omega
        have fin : ∀ e : Int, e.natAbs = 1 → absS (ns.set i (ns[i] + e)) + (s.length : Int) ≤ t := fun e he => by
          have := abs_set (ns := ns) (i := i) (v := ns[i]) (e := e) (List.getElem?_eq_getElem hi)
          omega
        have st : ∀ e : Int, (ns.map PyData.int).set i (.int (ns[i] + e)) = (ns.set i (ns[i] + e)).map .int := fun e => by rw [List.map_set]
        rcases hu with rfl | rfl
        · refine ⟨_, at0, ?_⟩
          walk_at "zw"
          refine ⟨i, by rw [List.length_map]; exact ix_ok hi, ?_⟩
          rw [st]
          exact hkk _ _ ⟨ns.set i (ns[i] + 1), some (.d d), some (.d (.int i)), by rw [List.length_set]; exact hl, fin 1 rfl, by omega, by omega, rfl⟩
        · refine ⟨_, at1, ?_⟩
          walk_at "zw"
          refine ⟨i, by rw [List.length_map]; exact ix_ok hi, ?_⟩
          rw [st]
          exact hkk _ _ ⟨ns.set i (ns[i] + -1), some (.d d), some (.d (.int i)), by rw [List.length_set]; exact hl, fin (-1) rfl, by omega, by omega, rfl⟩
    all_goals
      obtain ⟨k4, rfl⟩ := hch (by first | exact .inl rfl | exact .inr rfl)
      walk_at "zw"
      refine ⟨rfl, ?_⟩
      iterate 3
        walk_at "zw"
        refine ⟨trivial, ?_⟩
      walk_at "zw"
      refine ⟨by rw [sl]; decide, ?_⟩
      walk_at "zw"
      refine ⟨by decide +kernel, by decide +kernel, ?_⟩
      iterate 2
        walk_at "zw"
        refine ⟨trivial, ?_⟩
      walk_at "zw"
      refine ⟨_, k, rfl, by first | exact .inl rfl | exact .inr rfl, ?_⟩
      walk_at "zw"
      refine ⟨_, rfl, ⟨k0, k4⟩, ?_⟩
      have ol := own_len (w := "likers") k0 k4
      have ol2 := own_len (w := "rankers") k0 k4
      walk_at "zw"
      refine lcW_rel (e := TpI) (fun p x => ∃ i : Int, x = .int i ∧ i ∈ p) 1 (c + 76) (by omega) (fun p hp c1 Q1 hc1 q1 => ?_) (fun xs c1 hl hA h1 h2 => ?_)
      · obtain ⟨p0, p1, p2, p3⟩ := own_in k0 k4 hp
        have hpl := ((pat_size _ k k0 k4).2.2.1 _ hp).1
        have hdl := ded_le p
        walk_at "zw"
        refine ⟨p, Z.ints_map p, by omega, by omega, ?_⟩
        walk_at "zw"
        refine ⟨_, rfl, fun e => ?_, by rw [List.length_map, sortI_len]; omega, by omega, fun x c2 hx c20 c21 => ?_⟩
        · obtain ⟨y, hy⟩ := List.exists_mem_of_ne_nil _ p0
          have := sortI_mem.mpr (ded_mem.mpr hy)
          rw [List.map_eq_nil_iff.mp e] at this
          cases this
        · obtain ⟨i, hi, rfl⟩ := List.mem_map.mp hx
          exact q1 _ c2 ⟨i, rfl, ded_mem.mp (sortI_mem.mp hi)⟩ (by omega) (by omega)
      · obtain ⟨cs, rfl, el, _⟩ := all_int (P := fun _ => True) (xs := xs) fun x hx => by
          obtain ⟨i, hi, rfl⟩ := List.getElem_of_mem hx
          obtain ⟨j, ej, _⟩ := hA i _ _ (List.getElem?_eq_getElem (by omega)) (List.getElem?_eq_getElem hi)
          exact ⟨j, ej, trivial⟩
        rw [List.length_map] at hl
        have hcs : ∀ (i : Nat) (p : List Int) (x : Int), (rulAll (ownRul _ k))[i]? = some p → cs[i]? = some x → x ∈ p := fun i p x hp hx => by
          obtain ⟨j, ej, hj⟩ := hA i p (.int x) hp (by rw [List.getElem?_map, hx]; rfl)
          cases ej
          exact hj
        walk_at "zw"
        exact q _ c1 (.chs cs (by first | exact .inl rfl | exact .inr rfl) hl hcs) (chs_true hl hcs) (short_TpI (by omega)) (by omega) (by omega)
end K05
/-! C05f -/
set_option maxRecDepth 100000
namespace K05
open PySem PySem.Spec PyProof.Rows L2 Z K02
open PR (whole toI Rul rulW rulD rulOk rulAll Rl rlOf rl_d rl_w rl_all Ho words Rw BigR w_ne eqW sz_small Lot isPg PlPg pgB Short lv_pos tellD rowDue ans_f ctTells ctRow ctSize ctIsPg ctParted ctPatOf ctPatterns get_at getD_mem idx_at sh_rowsT neOk_TpI big_take big_drop)
theorem nsame (s : Str) : (!PyData.eqv (.str s) (.str s)) = false := by rw [eqv_str]; simp
theorem row_due {h : Ho} {ns : List Int} (r : Rw h ns) : rowDue h (TpI ns) = true := by
  show (decide ((ns.map PyData.int).length = h.sz) && ((ns.map PyData.int).all whole && h.fits ((ns.map PyData.int).map toI))) = true
  have e1 : (ns.map PyData.int).all whole = true := List.all_eq_true.mpr fun x hx => by
    obtain ⟨i, _, rfl⟩ := List.mem_map.mp hx
    rfl
  have e2 : (ns.map PyData.int).map toI = ns := by rw [List.map_map]; exact List.map_id _
  rw [e1, e2, r.fit, List.length_map, r.len]
  simp
theorem ans_repr {h : Ho} {p : PyData} {row : List Int} (ok : h.ok) (hd : h.dep < 4) (pg : isPg h p) (r : Rw h row) (b : BigR row) : reprOk (tellD h p row) = true ∧ (tellD h p row).showable = true ∧ (tellD h p row).hasDict = false ∧ (tellD h p row).depth ≤ 60 ∧ (tellD h p row).shown.length ≤ sizeLine := by
  obtain ⟨a1, a2, a3, a4, a5⟩ := ans_f ok pg r b
  have e1 : 2 ^ h.dep ≤ 2 ^ 3 := Nat.pow_le_pow_right (by decide) (by omega)
  exact repr_fn a1 a4 (by omega) (by omega)
def ctParts (n : Nat) : Ct := fun zs c Q => ∃ (h : Ho) (p : PyData) (row : List Int), zs = [.d h.d, .d p, .d (TpI row)] ∧ h.dep < n ∧ n ≤ 4 ∧ h.ok ∧ h.few ∧ isPg h p ∧ pgB h p = true ∧ Short p ∧ Rw h row ∧ BigR row ∧ Q (.d (.bool true)) c
theorem w_parts {Q : KZ} {c n : Nat} {h : Ho} {p : PyData} {row : List Int} (hd : h.dep < n + 1) (n4 : n + 1 ≤ 4) (ok : h.ok) (fw : h.few) (pg : isPg h p) (tr : pgB h p = true) (sh : Short p) (rw_ : Rw h row) (big : BigR row) (q : Q (.d (.bool true)) c) :
    wSs (ctF [ctParted, ctParts n, ctTells 8, ctSize 4, ctPatOf, ctIsPg 8, ctRow, ctPatterns] []) Gn ir_law_parts_right [some (.d h.d), some (.d p), some (.d (TpI row)), none, none, none, none] c (iniR Q) := by
  have sl : sizeLine = 16777216 := sizeLine_eq
  have hd4 : h.dep < 4 := by omega
  have hlen := rw_.len
  cases h with
  | plain w k r =>
    have hw := ok.1
    simp only [words, List.mem_cons, List.not_mem_nil, or_false] at hw
    rcases hw with rfl | rfl | rfl | rfl | rfl | rfl | rfl
    all_goals
      walk_at "zw"
      refine ⟨_, at0, ?_⟩
      walk_at "zw"
      refine ⟨by rw [sl]; decide, ?_⟩
      walk_at "zw"
      refine ⟨by decide +kernel, by decide +kernel, ?_⟩
      walk_at "zw"
      refine ⟨.plain _ k r, rfl, hd4, ok, ?_⟩
      walk_at "zw"
      refine ⟨⟨sh_int _, sh_int _⟩, ?_⟩
      rw [eqv_int, decide_eq_true (by rw [List.length_map, hlen])]
      walk_at "zw"
      refine ⟨.plain _ k r, TpI row, rfl, hd4, ok, ?_⟩
      rw [row_due rw_]
      exact q
  | both a b =>
    obtain ⟨x, y, rfl, pa, pb⟩ := pg
    have hd' : max a.dep b.dep + 1 < n + 1 := hd
    have hlen : row.length = a.sz + b.sz := hlen
    have tr : (pgB a x && pgB b y) = true := tr
    rw [Bool.and_eq_true] at tr
    have sx := sh.len.2 x (by simp)
    have sy := sh.len.2 y (by simp)
    have pg : isPg (.both a b) (.tuple [x, y]) := ⟨x, y, rfl, pa, pb⟩
    obtain ⟨r1, r2, r3, r4, r5⟩ := ans_repr ok hd4 pg rw_ big
    walk_at "zw"
    refine ⟨_, at0, ?_⟩
    walk_at "zw"
    refine ⟨by rw [sl]; decide, ?_⟩
    walk_at "zw"
    refine ⟨by decide +kernel, by decide +kernel, ?_⟩
    walk_at "zw"
    refine ⟨.both a b, row, rfl, ok, hd4, trivial, ?_⟩
    walk_at "zw"
    refine ⟨rfl, ?_⟩
    walk_at "zw"
    refine ⟨by rw [sl]; simp only [List.length_map, List.length_take, List.length_drop]; have := (sz_small ok hd4).2; have e : (Ho.both a b).sz = a.sz + b.sz := rfl; omega, ?_⟩
    walk_at "zw"
    rw [← List.map_append, List.take_append_drop]
    refine ⟨neOk_TpI _ _, ?_⟩
    rw [eqv_TpI, decide_eq_true rfl]
    walk_at "zw"
    refine ⟨_, at0, ?_⟩
    walk_at "zw"
    refine ⟨trivial, ?_⟩
    walk_at "zw"
    refine ⟨.both a b, rfl, hd4, ok, ?_⟩
    walk_at "zw"
    refine ⟨_, at1, ?_⟩
    walk_at "zw"
    refine ⟨a, rfl, by omega, ok.1, ?_⟩
    walk_at "zw"
    refine ⟨_, at2, ?_⟩
    walk_at "zw"
    refine ⟨b, rfl, by omega, ok.2, ?_⟩
    walk_at "zw"
    refine ⟨⟨sh_int _, sh_int _⟩, ?_⟩
    rw [eqv_int, decide_eq_true (show (((Ho.both a b).sz : Nat) : Int) = (a.sz : Int) + (b.sz : Int) from Int.natCast_add ..)]
    walk_at "zw"
    refine ⟨_, at1, ?_⟩
    walk_at "zw"
    refine ⟨a, rfl, by omega, ok.1, ?_⟩
    walk_at "zw"
    refine ⟨⟨sh_int _, sh_int _⟩, ?_⟩
    rw [eqv_int, decide_eq_true (show (((List.map PyData.int (row.take (Ho.both a b).cut)).length : Nat) : Int) = (a.sz : Int) by rw [List.length_map, List.length_take]; have : (Ho.both a b).cut = a.sz := rfl; omega)]
    walk_at "zw"
    refine ⟨_, at1, ?_⟩
    walk_at "zw"
    refine ⟨_, at0, ?_⟩
    walk_at "zw"
    refine ⟨a, x, row.take a.sz, rfl, by omega, by omega, ok.1, pa, rw_.one, ?_⟩
    walk_at "zw"
    refine ⟨_, at2, ?_⟩
    walk_at "zw"
    refine ⟨_, at1, ?_⟩
    walk_at "zw"
    refine ⟨b, y, row.drop a.sz, rfl, by omega, by omega, ok.2, pb, rw_.two, ?_⟩
    walk_at "zw"
    refine ⟨by rw [sl]; show 2 ≤ 16777216; decide, ?_⟩
    walk_at "zw"
    refine ⟨.both a b, .tuple [x, y], row, rfl, by have : (Ho.both a b).dep = max a.dep b.dep + 1 := rfl; omega, hd4, ok, pg, rw_, ?_⟩
    have e2 : tellD (.both a b) (.tuple [x, y]) row = .tuple [tellD a x (row.take a.sz), tellD b y (row.drop a.sz)] := rfl
    rw [e2] at r1 r2 r3 r4 r5 ⊢
    walk_at "zw"
    refine ⟨r1, r2, r3, r4, r5, ?_⟩
    walk_at "zw"
    refine ⟨r1, r2, r3, r4, r5, ?_⟩
    walk_at "zw"
    refine ⟨trivial, ?_⟩
    rw [nsame]
    walk_at "zw"
    refine ⟨_, at1, ?_⟩
    walk_at "zw"
    refine ⟨_, at0, ?_⟩
    walk_at "zw"
    refine ⟨a, x, row.take a.sz, rfl, by omega, by omega, ok.1, fw.1, pa, tr.1, sx, rw_.one, big_take big _, ?_⟩
    walk_at "zw"
    refine ⟨_, at2, ?_⟩
    walk_at "zw"
    refine ⟨_, at1, ?_⟩
    walk_at "zw"
    exact ⟨b, y, row.drop a.sz, rfl, by omega, by omega, ok.2, fw.2, pb, tr.2, sy, rw_.two, big_drop big _, q⟩
  | ruled r b =>
    obtain ⟨r1, r2, r3, r4, r5⟩ := ans_repr ok hd4 pg rw_ big
    have pg0 := pg
    obtain ⟨xs, rfl, hl, px⟩ := pg
    obtain ⟨r0, ro, rfl⟩ := ok.1
    have hd' : b.dep + 1 < n + 1 := hd
    have hlen : row.length = (rlOf r0).k + b.sz := hlen
    have k4 := ok.1.k1
    have tr : (decide (xs.length = (rlOf r0).all.length) && xs.all (pgB b)) = true := tr
    rw [Bool.and_eq_true] at tr
    rw [rl_all] at hl
    have mem := rw_.rul
    have lt := Nat.lt_of_lt_of_eq (List.idxOf_lt_length_of_mem mem) hl.symm
    have e : tellD (.ruled (rlOf r0) b) (.tuple xs) row = tellD b (xs.getD ((rulAll r0).idxOf (patL (rulW r0) (row.take (rlOf r0).k))) .none) (row.drop (rlOf r0).k) := by
      rw [← rl_all, ← rl_w]; rfl
    have gm := getD_mem lt
    walk_at "zw"
    refine ⟨_, at0, ?_⟩
    walk_at "zw"
    refine ⟨by rw [sl]; decide, ?_⟩
    walk_at "zw"
    refine ⟨by decide +kernel, by decide +kernel, ?_⟩
    walk_at "zw"
    refine ⟨.ruled (rlOf r0) b, row, rfl, ok, hd4, trivial, ?_⟩
    walk_at "zw"
    refine ⟨rfl, ?_⟩
    walk_at "zw"
    refine ⟨by rw [sl]; simp only [List.length_map, List.length_take, List.length_drop]; have := (sz_small ok hd4).2; have e : (Ho.ruled (rlOf r0) b).sz = (rlOf r0).k + b.sz := rfl; omega, ?_⟩
    walk_at "zw"
    rw [← List.map_append, List.take_append_drop]
    refine ⟨neOk_TpI _ _, ?_⟩
    rw [eqv_TpI, decide_eq_true rfl]
    walk_at "zw"
    refine ⟨_, at0, ?_⟩
    walk_at "zw"
    refine ⟨trivial, ?_⟩
    walk_at "zw"
    refine ⟨.ruled (rlOf r0) b, rfl, hd4, ok, ?_⟩
    walk_at "zw"
    refine ⟨_, at1, ?_⟩
    walk_at "zw"
    refine ⟨_, at1, ?_⟩
    walk_at "zw"
    refine ⟨_, at2, ?_⟩
    walk_at "zw"
    refine ⟨b, rfl, by omega, ok.2, ?_⟩
    walk_at "zw"
    refine ⟨⟨sh_int _, sh_int _⟩, ?_⟩
    rw [eqv_int, decide_eq_true (show (((Ho.ruled (rlOf r0) b).sz : Nat) : Int) = ((rlOf r0).k : Int) + (b.sz : Int) from Int.natCast_add ..)]
    walk_at "zw"
    refine ⟨_, at1, ?_⟩
    walk_at "zw"
    refine ⟨_, at1, ?_⟩
    walk_at "zw"
    refine ⟨⟨sh_int _, sh_int _⟩, ?_⟩
    rw [eqv_int, decide_eq_true (show (((List.map PyData.int (row.take (Ho.ruled (rlOf r0) b).cut)).length : Nat) : Int) = ((rlOf r0).k : Int) by rw [List.length_map, List.length_take]; have : (Ho.ruled (rlOf r0) b).cut = (rlOf r0).k := rfl; omega)]
    walk_at "zw"
    refine ⟨_, at1, ?_⟩
    walk_at "zw"
    refine ⟨r0, by rw [← rl_d], ro, ?_⟩
    walk_at "zw"
    refine ⟨trivial, ?_⟩
    walk_at "zw"
    refine ⟨_, at1, ?_⟩
    walk_at "zw"
    refine ⟨r0, row.take (rlOf r0).k, by rw [← rl_d]; rfl, by rw [List.length_take]; omega, ?_⟩
    walk_at "zw"
    obtain ⟨j, z, j1, j2, j3, ej⟩ := idx_at eqv_TpI mem
    refine ⟨sh_rowsT _, sh_tup _, j, z, j1, j2, j3, ?_⟩
    subst ej
    walk_at "zw"
    refine ⟨_, get_at lt, ?_⟩
    walk_at "zw"
    refine ⟨.ruled (rlOf r0) b, .tuple xs, row, rfl, by have : (Ho.ruled (rlOf r0) b).dep = b.dep + 1 := rfl; omega, hd4, ok, pg0, rw_, ?_⟩
    rw [e] at r1 r2 r3 r4 r5 ⊢
    walk_at "zw"
    refine ⟨r1, r2, r3, r4, r5, ?_⟩
    walk_at "zw"
    refine ⟨_, at2, ?_⟩
    walk_at "zw"
    refine ⟨b, _, row.drop (rlOf r0).k, rfl, by omega, by omega, ok.2, px _ gm, rw_.rest, ?_⟩
    walk_at "zw"
    refine ⟨r1, r2, r3, r4, r5, ?_⟩
    walk_at "zw"
    refine ⟨trivial, ?_⟩
    rw [nsame]
    walk_at "zw"
    refine ⟨_, at2, ?_⟩
    walk_at "zw"
    refine ⟨b, _, rfl, by omega, by omega, ok.2, fw, sh.len.2 _ gm, ?_⟩
    rw [List.all_eq_true.mp tr.2 _ gm]
    walk_at "zw"
    refine ⟨_, at2, ?_⟩
    walk_at "zw"
    exact ⟨b, _, row.drop (rlOf r0).k, rfl, by omega, by omega, ok.2, fw, px _ gm, List.all_eq_true.mp tr.2 _ gm, sh.len.2 _ gm, rw_.rest, big_drop big _, q⟩
end K05
/-! C05g -/
set_option maxRecDepth 100000
namespace K05
open PySem PySem.Spec PyProof.Rows L2 Z K02
open PR (Ho Rw BigR isPg pgB Short ctIsPg cut_lo)
def ctLaw : Ct := fun zs c Q => ∃ ns, zs = [.scr ns] ∧ ns.length ≤ 63 ∧ c = 0 ∧ ∀ c', Q (.d (.bool true)) c'
theorem cut_le (ns : List Int) : (Z.cutD (ns.map PyData.int) none (some 3)).length ≤ 3 := by
  rw [show (some 3 : Option Int) = some ((3 : Nat) : Int) from rfl, cut_lo, List.length_take]
  omega
theorem w_law {Q : KZ} {c : Nat} {ns : List Int} (hl : ns.length ≤ 63) (h0 : c = 0) (q : ∀ c', Q (.d (.bool true)) c') :
    wSs (ctF [ctPot, ctHouse 4, ctProg 4, ctIsPg 8, ctTake, ctParts 4, ctRowD 4] []) Gn ir_law [some (.scr ns), none, none, none, none, none, none] c (iniR Q) := by
  have h4 : hc 4 = 120 := rfl
  have r4 : rc 4 = 240 := rfl
  have sl : sizeLine = 16777216 := sizeLine_eq
  unfold ir_law
  walk_at "z simp"
  have c3 := cut_le ns
  refine ⟨by omega, by omega, ?_⟩
  generalize hm : (Z.cutD (ns.map PyData.int) none (some 3)).length = m at c3
  refine forW_inv (fun r Γ c' => ∃ (z1 z2 z3 z4 z5 z6 : Option Zv), (∀ d ∈ r, ∃ k : Int, d = .int k ∧ 0 ≤ k ∧ k < 2 ^ 20) ∧ r.length ≤ 4 ∧ c' + 90000 * r.length ≤ 400000 ∧ Γ = [some (.scr ns), z1, z2, z3, z4, z5, z6]) ?_ ?_ ⟨none, none, none, none, none, none, fun d hd => ?_, by rw [rangeD_len]; omega, by rw [rangeD_len]; omega, rfl⟩
  · rintro Γ c' ⟨z1, z2, z3, z4, z5, z6, _, _, _, rfl⟩
    exact q c'
  · rintro d r Γ c' k ⟨z1, z2, z3, z4, z5, z6, hr, hr4, hc, rfl⟩ hk
    obtain ⟨kk, rfl, k0, k1⟩ := hr d (by simp)
    rw [List.length_cons] at hr4 hc
    walk_at "zw"
    refine ⟨ns, kk, rfl, hl, k0, k1, ?_⟩
    walk_at "zw"
    refine ⟨by decide, by decide, ?_⟩
    obtain ⟨B, hB⟩ : ∃ B : Nat, B = c' + 72000 := ⟨_, rfl⟩
    have l6 : (rangeD 0 6).length = 6 := by decide +kernel
    refine forW_inv (fun r2 Γ c1 => ∃ (z3 z4 z5 z6 : Option Zv), r2.length ≤ 6 ∧ c1 + 12000 * r2.length ≤ B ∧ Γ = [some (.scr ns), some (.d (.int kk)), some .pot, z3, z4, z5, z6]) ?_ ?_ ⟨_, _, _, _, by rw [l6]; exact Nat.le_refl 6, by rw [l6, hB]; exact Nat.le_refl _, rfl⟩
    · rintro Γ c1 ⟨z3, z4, z5, z6, _, hc1, rfl⟩
      rw [List.length_nil] at hc1
      exact hk _ _ ⟨_, _, _, _, _, _, fun d hd => hr d (by simp [hd]), by omega, by omega, rfl⟩
    · rintro d2 r2 Γ c1 k2 ⟨z3, z4, z5, z6, h6, hc1, rfl⟩ hk2
      rw [List.length_cons] at h6 hc1
      walk_at "zw"
      refine ⟨3, rfl, by decide, by decide, by omega, fun dp c2 dp0 dp1 c20 c21 => ?_⟩
      walk_at "zw"
      refine ⟨2 + dp, 120, rfl, by omega, by omega, by omega, by decide, by decide, by omega, fun h c3 ok fw hd hlv c30 c31 => ?_⟩
      have hd : h.dep < 4 := by omega
      walk_at "zw"
      refine ⟨h, rfl, hd, by omega, ok, fw, by omega, fun p c4 pg tr sh c40 c41 => ?_⟩
      walk_at "zw"
      refine ⟨h, p, rfl, by omega, hd, ok, fw, sh, ?_⟩
      rw [tr]
      walk_at "zw"
      refine ⟨by decide, by decide, ?_⟩
      refine forW_inv (fun r3 Γ c5 => ∃ (z6 : Option Zv), r3.length ≤ 4 ∧ c5 + 300 * r3.length ≤ c4 + 1200 ∧ Γ = [some (.scr ns), some (.d (.int kk)), some .pot, some (.d d2), some (.d h.d), some (.d p), z6]) ?_ ?_ ⟨_, by decide +kernel, by rw [show (rangeD 0 4).length = 4 by decide +kernel]; omega, rfl⟩
      · rintro Γ c5 ⟨z6, _, hc5, rfl⟩
        rw [List.length_nil] at hc5
        exact hk2 _ _ ⟨_, _, _, _, by omega, by omega, rfl⟩
      · rintro d3 r3 Γ c5 k3 ⟨z6, h3, hc5, rfl⟩ hk3
        rw [List.length_cons] at h3 hc5
        walk_at "zw"
        refine ⟨h, rfl, hd, by omega, ok, by omega, fun row c6 rw_ big c60 c61 => ?_⟩
        walk_at "zw"
        refine ⟨h, p, row, rfl, hd, by omega, ok, fw, pg, tr, sh, rw_, big, ?_⟩
        exact hk3 _ _ ⟨_, by omega, by omega, rfl⟩
  · unfold rangeD at hd
    obtain ⟨i, hi, rfl⟩ := List.mem_map.mp hd
    have := List.mem_range.mp hi
    exact ⟨_, rfl, by omega, by omega⟩
end K05
/-! E05 -/
set_option maxRecDepth 100000
namespace K05
open PySem PySem.Spec PyProof.Rows L2 Z
theorem h_law_pot : ∀ zs c Q, ctPot zs c Q → zs.length = 2 ∧ wSs (ctF [] []) Gn ir_law_pot (iniG c_law_pot.N zs) c (iniR Q) := fun zs c Q ⟨ns, k, e, hl, h0, h1, q⟩ => by subst e; exact ⟨rfl, pot1_ok hl h0 h1 q⟩
theorem h_law_take : ∀ zs c Q, ctTake zs c Q → zs.length = 2 ∧ wSs (ctF [] []) Gn ir_law_take (iniG c_law_take.N zs) c (iniR Q) := fun zs c Q ⟨n, e, h0, h1, hc, q⟩ => by subst e; exact ⟨rfl, take1_ok h0 h1 hc q⟩
theorem h_law_of : ∀ zs c Q, ctOf zs c Q → zs.length = 2 ∧ wSs (ctF [ctTake] []) Gn ir_law_of (iniG c_law_of.N zs) c (iniR Q) := fun zs c Q ⟨xs, e, h0, h1, hc, q⟩ => by subst e; exact ⟨rfl, of_ok h0 h1 hc q⟩
theorem h_law_plain : ∀ zs c Q, ctPlain zs c Q → zs.length = 2 ∧ wSs (ctF [ctOf, ctTake] []) Gn ir_law_plain (iniG c_law_plain.N zs) c (iniR Q) := fun zs c Q ⟨room, e, hc, q⟩ => by subst e; exact ⟨rfl, w_plain hc q⟩
theorem h_law_house_0 : ∀ zs c Q, ctHouse 0 zs c Q → False := fun zs c Q ⟨deep, room, e, d0, d1, n4, r0, r1, hc, q⟩ => by omega
theorem h_law_house (n : Nat) : ∀ zs c Q, ctHouse (n + 1) zs c Q → zs.length = 3 ∧ wSs (ctF [ctTake, ctPlain, ctHouse n] []) Gn ir_law_house (iniG c_law_house.N zs) c (iniR Q) := fun zs c Q ⟨deep, room, e, d0, d1, n4, r0, r1, hc, q⟩ => by subst e; exact ⟨rfl, w_house d0 d1 n4 r0 r1 hc q⟩
theorem h_law_places : ∀ zs c Q, ctSome zs c Q → zs.length = 2 ∧ wSs (ctF [ctTake] []) Gn ir_law_places (iniG c_law_places.N zs) c (iniR Q) := fun zs c Q ⟨n, e, n0, n1, hc, q⟩ => by subst e; exact ⟨rfl, w_some n0 n1 hc q⟩
theorem h_law_lots : ∀ zs c Q, ctLots zs c Q → zs.length = 1 ∧ wSs (ctF [] []) Gn ir_law_lots (iniG c_law_lots.N zs) c (iniR Q) := fun zs c Q ⟨k, ls, e, k7, h0, h1, hl, q⟩ => by subst e; exact ⟨rfl, w_lots k7 h0 h1 hl q⟩
theorem h_law_below : ∀ zs c Q, PR.ctBelow zs c Q → zs.length = 2 ∧ wSs (ctF [] []) Gn ir_law_below (iniG c_law_below.N zs) c (iniR Q) := fun zs c Q ⟨n, m, e, hn, hm, q⟩ => by subst e; exact ⟨rfl, w_law_below hn hm q⟩
theorem h_law_pattern : ∀ zs c Q, ctPat zs c Q → zs.length = 2 ∧ wSs (ctF [] []) Gn ir_law_pattern (iniG c_law_pattern.N zs) c (iniR Q) := fun zs c Q ⟨w, ns, e, hw, hl, q⟩ => by subst e; exact ⟨rfl, w_law_pattern hw hl q⟩
theorem h_law_all : ∀ zs c Q, ctAll zs c Q → zs.length = 1 ∧ wSs (ctF [PR.ctBelow, ctPat] []) Gn ir_law_all (iniG c_law_all.N zs) c (iniR Q) := fun zs c Q ⟨r, e, ro, q⟩ => by subst e; exact ⟨rfl, w_all ro q⟩
theorem h_law_ruler : ∀ zs c Q, PR.ctRulerOf zs c Q → zs.length = 1 ∧ wSs (ctF [] []) Gn ir_law_ruler (iniG c_law_ruler.N zs) c (iniR Q) := fun zs c Q ⟨w, k, e, hw, q⟩ => by subst e; exact ⟨rfl, w_rul hw q⟩
theorem h_law_program_0 : ∀ zs c Q, ctProg 0 zs c Q → False := fun zs c Q ⟨h, e, hd, n4, ok, fw, hc, q⟩ => by omega
theorem h_law_program (n : Nat) : ∀ zs c Q, ctProg (n + 1) zs c Q → zs.length = 2 ∧ wSs (ctF [ctTake, ctSome, ctLots, ctProg n, ctOf, ctAll, PR.ctRulerOf] []) Gn ir_law_program (iniG c_law_program.N zs) c (iniR Q) := fun zs c Q ⟨h, e, hd, n4, ok, fw, hc, q⟩ => by subst e; exact ⟨rfl, w_program hd n4 ok fw hc q⟩
theorem h_tuples_below : ∀ zs c Q, PR.ctBelow zs c Q → zs.length = 2 ∧ wSs (ctF [] []) Gn ir_tuples_below (iniG c_tuples_below.N zs) c (iniR Q) := fun zs c Q ⟨n, m, e, hn, hm, q⟩ => by subst e; exact ⟨rfl, PR.w_below hn hm q⟩
theorem h_grown_by_sorts : ∀ zs c Q, PR.ctGrowS zs c Q → zs.length = 1 ∧ wSs (ctF [] []) Gn ir_grown_by_sorts (iniG c_grown_by_sorts.N zs) c (iniR Q) := fun zs c Q ⟨ns, e, hl, q⟩ => by subst e; exact ⟨rfl, PR.w_growS hl q⟩
theorem h_grown_by_ranks : ∀ zs c Q, PR.ctGrowR zs c Q → zs.length = 1 ∧ wSs (ctF [] []) Gn ir_grown_by_ranks (iniG c_grown_by_ranks.N zs) c (iniR Q) := fun zs c Q ⟨ns, e, hl, q⟩ => by subst e; exact ⟨rfl, PR.w_growR hl q⟩
theorem h_patterns : ∀ zs c Q, PR.ctPatterns zs c Q → zs.length = 1 ∧ wSs (ctF [PR.ctBelow, PR.ctGrowS, PR.ctGrowR] []) Gn ir_patterns (iniG c_patterns.N zs) c (iniR Q) := fun zs c Q ⟨r, e, ro, q⟩ => by subst e; exact ⟨rfl, PR.w_patterns ro q⟩
theorem h_is_joined_program_0 : ∀ zs c Q, PR.ctIsJp 0 zs c Q → False := fun zs c Q ⟨h, d, e, hn, hd, j, ok, fw, sh, q⟩ => by omega
theorem h_is_joined_program (n : Nat) : ∀ zs c Q, PR.ctIsJp (n + 1) zs c Q → zs.length = 2 ∧ wSs (ctF [PR.ctIsPg n, PR.ctPatterns] []) Gn ir_is_joined_program (iniG c_is_joined_program.N zs) c (iniR Q) := fun zs c Q ⟨h, d, e, hn, hd, j, ok, fw, sh, q⟩ => by subst e; exact ⟨rfl, PR.w_is_joined hn hd j ok fw sh q⟩
theorem h_is_whole : ∀ zs c Q, PR.ctWhole zs c Q → zs.length = 1 ∧ wSs (ctF [] []) Gn ir_is_whole (iniG c_is_whole.N zs) c (iniR Q) := fun zs c Q ⟨d, e, q⟩ => by subst e; exact ⟨rfl, PR.w_whole q⟩
theorem h_is_lot : ∀ zs c Q, PR.ctIsLot zs c Q → zs.length = 2 ∧ wSs (ctF [PR.ctWhole] []) Gn ir_is_lot (iniG c_is_lot.N zs) c (iniR Q) := fun zs c Q ⟨d, k, e, q⟩ => by subst e; exact ⟨rfl, PR.w_is_lot q⟩
theorem h_are_lots : ∀ zs c Q, PR.ctAreLots zs c Q → zs.length = 2 ∧ wSs (ctF [PR.ctIsLot] []) Gn ir_are_lots (iniG c_are_lots.N zs) c (iniR Q) := fun zs c Q ⟨d, k, e, k7, hd, q⟩ => by subst e; exact ⟨rfl, PR.w_are_lots k7 hd q⟩
theorem h_are_multiples : ∀ zs c Q, PR.ctAreMuls zs c Q → zs.length = 3 ∧ wSs (ctF [PR.ctWhole] []) Gn ir_are_multiples (iniG c_are_multiples.N zs) c (iniR Q) := fun zs c Q ⟨d, k, m, e, q⟩ => by subst e; exact ⟨rfl, PR.w_are_muls q⟩
theorem h_are_choices : ∀ zs c Q, PR.ctAreChs zs c Q → zs.length = 2 ∧ wSs (ctF [PR.ctWhole] []) Gn ir_are_choices (iniG c_are_choices.N zs) c (iniR Q) := fun zs c Q ⟨d, all, e, q⟩ => by subst e; exact ⟨rfl, PR.w_are_chs q⟩
theorem h_ruler_of : ∀ zs c Q, PR.ctRulerOf zs c Q → zs.length = 1 ∧ wSs (ctF [] []) Gn ir_ruler_of (iniG c_ruler_of.N zs) c (iniR Q) := fun zs c Q ⟨w, k, e, hw, q⟩ => by subst e; exact ⟨rfl, PR.w_ruler_of hw q⟩
theorem h_patterns_of : ∀ zs c Q, PR.ctPatsOf zs c Q → zs.length = 1 ∧ wSs (ctF [PR.ctPatterns, PR.ctRulerOf] []) Gn ir_patterns_of (iniG c_patterns_of.N zs) c (iniR Q) := fun zs c Q ⟨w, k, e, hw, k0, k1, q⟩ => by subst e; exact ⟨rfl, PR.w_patterns_of hw k0 k1 q⟩
theorem h_is_program_0 : ∀ zs c Q, PR.ctIsPg 0 zs c Q → False := fun zs c Q ⟨h, d, e, hn, hd, ok, fw, sh, q⟩ => by omega
theorem h_is_program (n : Nat) : ∀ zs c Q, PR.ctIsPg (n + 1) zs c Q → zs.length = 2 ∧ wSs (ctF [PR.ctIsJp n, PR.ctIsLot, PR.ctAreLots, PR.ctAreMuls, PR.ctAreChs, PR.ctWhole, PR.ctPatsOf] []) Gn ir_is_program (iniG c_is_program.N zs) c (iniR Q) := fun zs c Q ⟨h, d, e, hn, hd, ok, fw, sh, q⟩ => by subst e; exact ⟨rfl, PR.w_is_pg hn hd ok fw sh q⟩
theorem h_row_size_0 : ∀ zs c Q, PR.ctSize 0 zs c Q → False := fun zs c Q ⟨h, e, hd, ok, q⟩ => by omega
theorem h_row_size (n : Nat) : ∀ zs c Q, PR.ctSize (n + 1) zs c Q → zs.length = 1 ∧ wSs (ctF [PR.ctSize n] []) Gn ir_row_size (iniG c_row_size.N zs) c (iniR Q) := fun zs c Q ⟨h, e, hd, ok, q⟩ => by subst e; exact ⟨rfl, PR.w_row_size hd ok q⟩
theorem h_parted_row : ∀ zs c Q, PR.ctParted zs c Q → zs.length = 2 ∧ wSs (ctF [PR.ctSize 4] []) Gn ir_parted_row (iniG c_parted_row.N zs) c (iniR Q) := fun zs c Q ⟨h, ns, e, ok, hd, j, q⟩ => by subst e; exact ⟨rfl, PR.w_parted ok hd j q⟩
theorem h_sorted_by_coming : ∀ zs c Q, PR.ctComing zs c Q → zs.length = 1 ∧ wSs (ctF [] []) Gn ir_sorted_by_coming (iniG c_sorted_by_coming.N zs) c (iniR Q) := fun zs c Q ⟨ns, e, hl, q⟩ => by subst e; exact ⟨rfl, PR.w_coming hl q⟩
theorem h_ranked : ∀ zs c Q, PR.ctRanked zs c Q → zs.length = 1 ∧ wSs (ctF [] []) Gn ir_ranked (iniG c_ranked.N zs) c (iniR Q) := fun zs c Q ⟨ns, e, hl, q⟩ => by subst e; exact ⟨rfl, PR.w_ranked hl q⟩
theorem h_pattern_of : ∀ zs c Q, PR.ctPatOf zs c Q → zs.length = 2 ∧ wSs (ctF [PR.ctComing, PR.ctRanked] []) Gn ir_pattern_of (iniG c_pattern_of.N zs) c (iniR Q) := fun zs c Q ⟨r, ns, e, hl, q⟩ => by subst e; exact ⟨rfl, PR.w_pattern_of hl q⟩
theorem h_told_joined_0 : ∀ zs c Q, PR.ctJoined 0 zs c Q → False := fun zs c Q ⟨h, p, row, e, hn, hd, j, ok, pg, rw_, q⟩ => by omega
theorem h_told_joined (n : Nat) : ∀ zs c Q, PR.ctJoined (n + 1) zs c Q → zs.length = 3 ∧ wSs (ctF [PR.ctParted, PR.ctTells n, PR.ctPatOf, PR.ctPatterns] []) Gn ir_told_joined (iniG c_told_joined.N zs) c (iniR Q) := fun zs c Q ⟨h, p, row, e, hn, hd, j, ok, pg, rw_, q⟩ => by subst e; exact ⟨rfl, PR.w_told_joined hn hd j ok pg rw_ q⟩
theorem h_summed : ∀ zs c Q, PR.ctSummed zs c Q → zs.length = 2 ∧ wSs (ctF [] []) Gn ir_summed (iniG c_summed.N zs) c (iniR Q) := fun zs c Q ⟨ns, row, e, h, q⟩ => by subst e; exact ⟨rfl, PR.w_summed h q⟩
theorem h_chosen : ∀ zs c Q, PR.ctChosen zs c Q → zs.length = 3 ∧ wSs (ctF [PR.ctPatOf, PR.ctRulerOf, PR.ctPatsOf] []) Gn ir_chosen (iniG c_chosen.N zs) c (iniR Q) := fun zs c Q ⟨w, k, cs, row, e, hw, k0, k1, hl, h, hr, q⟩ => by subst e; exact ⟨rfl, PR.w_chosen hw k0 k1 hl h hr q⟩
theorem h_tells_0 : ∀ zs c Q, PR.ctTells 0 zs c Q → False := fun zs c Q ⟨h, p, row, e, hn, hd, ok, pg, rw_, q⟩ => by omega
theorem h_tells (n : Nat) : ∀ zs c Q, PR.ctTells (n + 1) zs c Q → zs.length = 3 ∧ wSs (ctF [PR.ctJoined n, PR.ctSummed, PR.ctChosen] []) Gn ir_tells (iniG c_tells.N zs) c (iniR Q) := fun zs c Q ⟨h, p, row, e, hn, hd, ok, pg, rw_, q⟩ => by subst e; exact ⟨rfl, PR.w_tells hn hd ok pg rw_ q⟩
theorem h_marks_fit_0 : ∀ zs c Q, PR.ctFits 0 zs c Q → False := fun zs c Q ⟨h, ns, e, hd, n4, ok, q⟩ => by omega
theorem h_marks_fit (n : Nat) : ∀ zs c Q, PR.ctFits (n + 1) zs c Q → zs.length = 2 ∧ wSs (ctF [PR.ctParted, PR.ctFits n] []) PR.Gj ir_marks_fit (iniG c_marks_fit.N zs) c (iniR Q) := fun zs c Q ⟨h, ns, e, hd, n4, ok, q⟩ => by subst e; exact ⟨rfl, PR.w_marks_fit hd n4 ok q⟩
theorem h_is_row : ∀ zs c Q, PR.ctRow zs c Q → zs.length = 2 ∧ wSs (ctF [PR.ctFits 4, PR.ctSize 4, PR.ctWhole] []) Gn ir_is_row (iniG c_is_row.N zs) c (iniR Q) := fun zs c Q ⟨h, d, e, hd, ok, q⟩ => by subst e; exact ⟨rfl, PR.w_is_row hd ok q⟩
theorem h_law_parts_right_0 : ∀ zs c Q, ctParts 0 zs c Q → False := fun zs c Q ⟨h, p, row, e, hd, n4, ok, fw, pg, tr, sh, rw_, big, q⟩ => by omega
theorem h_law_parts_right (n : Nat) : ∀ zs c Q, ctParts (n + 1) zs c Q → zs.length = 3 ∧ wSs (ctF [PR.ctParted, ctParts n, PR.ctTells 8, PR.ctSize 4, PR.ctPatOf, PR.ctIsPg 8, PR.ctRow, PR.ctPatterns] []) Gn ir_law_parts_right (iniG c_law_parts_right.N zs) c (iniR Q) := fun zs c Q ⟨h, p, row, e, hd, n4, ok, fw, pg, tr, sh, rw_, big, q⟩ => by subst e; exact ⟨rfl, w_parts hd n4 ok fw pg tr sh rw_ big q⟩
theorem h_law_row_0 : ∀ zs c Q, ctRowD 0 zs c Q → False := fun zs c Q ⟨h, e, hd, n4, ok, hc, q⟩ => by omega
theorem h_law_row (n : Nat) : ∀ zs c Q, ctRowD (n + 1) zs c Q → zs.length = 2 ∧ wSs (ctF [ctOf, ctRowD n, ctTake] []) Gn ir_law_row (iniG c_law_row.N zs) c (iniR Q) := fun zs c Q ⟨h, e, hd, n4, ok, hc, q⟩ => by subst e; exact ⟨rfl, w_row hd n4 ok hc q⟩
theorem h_law : ∀ zs c Q, ctLaw zs c Q → zs.length = 1 ∧ wSs (ctF [ctPot, ctHouse 4, ctProg 4, PR.ctIsPg 8, ctTake, ctParts 4, ctRowD 4] []) Gn ir_law (iniG c_law.N zs) c (iniR Q) := fun zs c Q ⟨ns, e, hl, h0, q⟩ => by subst e; exact ⟨rfl, w_law hl h0 q⟩
theorem law_ct {ns : List Int} (h : ns.length ≤ 63) : ctLaw [.scr ns] 0 fun z _ => z = .d (.bool true) := ⟨ns, rfl, h, rfl, fun _ => rfl⟩
section
variable {M : Mo}
def bltsAll : List Str := ["int", "len", "abs", "tuple", "range", "sorted", "set", "any", "list", "isinstance", "all", "bool", "zip", "sum", "min", "max", "repr"]
structure Tp (M : Mo) : Prop where
  bl : ∀ x, x ∈ bltsAll → M.mg x = none
  g_JOINED : Glb M "JOINED" (.tuple [.str "both", .str "ruled"])
  d_law_pot : ∃ f fd, Df M.K M.mg "_law_pot" s_law_pot f fd ["_law_script", "_law_k"] []
  d_law_take : ∃ f fd, Df M.K M.mg "_law_take" s_law_take f fd ["_law_pot_here", "_law_count"] []
  d_law_of : ∃ f fd, Df M.K M.mg "_law_of" s_law_of f fd ["_law_pot_here", "_law_some"] []
  d_law_plain : ∃ f fd, Df M.K M.mg "_law_plain" s_law_plain f fd ["_law_pot_here", "_law_room"] []
  d_law_house : ∃ f fd, Df M.K M.mg "_law_house" s_law_house f fd ["_law_pot_here", "_law_deep", "_law_room"] []
  d_law_places : ∃ f fd, Df M.K M.mg "_law_places" s_law_places f fd ["_law_pot_here", "_law_size"] []
  d_law_lots : ∃ f fd, Df M.K M.mg "_law_lots" s_law_lots f fd ["_law_lots_here"] []
  d_law_below : ∃ f fd, Df M.K M.mg "_law_below" s_law_below f fd ["_law_size", "_law_limit"] []
  d_law_pattern : ∃ f fd, Df M.K M.mg "_law_pattern" s_law_pattern f fd ["_law_word", "_law_things"] []
  d_law_all : ∃ f fd, Df M.K M.mg "_law_all" s_law_all f fd ["_law_ruler_here"] []
  d_law_ruler : ∃ f fd, Df M.K M.mg "_law_ruler" s_law_ruler f fd ["_law_house_here"] []
  d_law_program : ∃ f fd, Df M.K M.mg "_law_program" s_law_program f fd ["_law_pot_here", "_law_house_here"] []
  d_tuples_below : ∃ f fd, Df M.K M.mg "tuples_below" s_tuples_below f fd ["size", "limit"] []
  d_grown_by_sorts : ∃ f fd, Df M.K M.mg "grown_by_sorts" s_grown_by_sorts f fd ["some"] []
  d_grown_by_ranks : ∃ f fd, Df M.K M.mg "grown_by_ranks" s_grown_by_ranks f fd ["some"] []
  d_patterns : ∃ f fd, Df M.K M.mg "patterns" s_patterns f fd ["ruler"] []
  d_is_joined_program : ∃ f fd, Df M.K M.mg "is_joined_program" s_is_joined_program f fd ["house", "thing"] []
  d_is_whole : ∃ f fd, Df M.K M.mg "is_whole" s_is_whole f fd ["thing"] []
  d_is_lot : ∃ f fd, Df M.K M.mg "is_lot" s_is_lot f fd ["thing", "size"] []
  d_are_lots : ∃ f fd, Df M.K M.mg "are_lots" s_are_lots f fd ["thing", "size"] []
  d_are_multiples : ∃ f fd, Df M.K M.mg "are_multiples" s_are_multiples f fd ["thing", "size", "limit"] []
  d_are_choices : ∃ f fd, Df M.K M.mg "are_choices" s_are_choices f fd ["thing", "some"] []
  d_ruler_of : ∃ f fd, Df M.K M.mg "ruler_of" s_ruler_of f fd ["house"] []
  d_patterns_of : ∃ f fd, Df M.K M.mg "patterns_of" s_patterns_of f fd ["house"] []
  d_is_program : ∃ f fd, Df M.K M.mg "is_program" s_is_program f fd ["house", "thing"] []
  d_row_size : ∃ f fd, Df M.K M.mg "row_size" s_row_size f fd ["house"] []
  d_parted_row : ∃ f fd, Df M.K M.mg "parted_row" s_parted_row f fd ["house", "row"] []
  d_sorted_by_coming : ∃ f fd, Df M.K M.mg "sorted_by_coming" s_sorted_by_coming f fd ["things"] []
  d_ranked : ∃ f fd, Df M.K M.mg "ranked" s_ranked f fd ["things"] []
  d_pattern_of : ∃ f fd, Df M.K M.mg "pattern_of" s_pattern_of f fd ["ruler", "things"] []
  d_told_joined : ∃ f fd, Df M.K M.mg "told_joined" s_told_joined f fd ["house", "program", "row"] []
  d_summed : ∃ f fd, Df M.K M.mg "summed" s_summed f fd ["program", "row"] []
  d_chosen : ∃ f fd, Df M.K M.mg "chosen" s_chosen f fd ["house", "program", "row"] []
  d_tells : ∃ f fd, Df M.K M.mg "tells" s_tells f fd ["house", "program", "row"] []
  d_marks_fit : ∃ f fd, Df M.K M.mg "marks_fit" s_marks_fit f fd ["house", "row"] []
  d_is_row : ∃ f fd, Df M.K M.mg "is_row" s_is_row f fd ["house", "thing"] []
  d_law_parts_right : ∃ f fd, Df M.K M.mg "_law_parts_right" s_law_parts_right f fd ["_law_house_here", "_law_program_here", "_law_row_here"] []
  d_law_row : ∃ f fd, Df M.K M.mg "_law_row" s_law_row f fd ["_law_pot_here", "_law_house_here"] []
  d_law : ∃ f fd, Df M.K M.mg "law" s_law f fd ["_law_script"] []
theorem fz_law_pot (T : Tp M) : Fz (M.at 1) "_law_pot" [] ctPot := by
  obtain ⟨f, fd, D⟩ := T.d_law_pot
  exact fz_mk D sc_law_pot (mok .nil .nil (fun x h => T.bl x ((by decide +kernel : ∀ x, x ∈ (["int", "len", "abs"] : List Str) → x ∈ bltsAll) x h)) .nil .nil (by decide) (by decide)) e_law_pot h_law_pot
theorem fz_law_take (T : Tp M) : Fz (M.at 1) "_law_take" [] ctTake := by
  obtain ⟨f, fd, D⟩ := T.d_law_take
  exact fz_mk D sc_law_take (mok .nil .nil (fun x h => T.bl x ((by decide +kernel : ∀ x, x ∈ ([] : List Str) → x ∈ bltsAll) x h)) .nil .nil (by decide) (by decide)) e_law_take h_law_take
theorem fz_law_of (T : Tp M) : Fz (M.at 2) "_law_of" [] ctOf := by
  obtain ⟨f, fd, D⟩ := T.d_law_of
  exact fz_mk D sc_law_of (mok (.cons ⟨_, (fz_law_take T).up (by decide)⟩ .nil) .nil (fun x h => T.bl x ((by decide +kernel : ∀ x, x ∈ (["len"] : List Str) → x ∈ bltsAll) x h)) .nil .nil (by decide) (by decide)) e_law_of h_law_of
theorem fz_law_plain (T : Tp M) : Fz (M.at 3) "_law_plain" [] ctPlain := by
  obtain ⟨f, fd, D⟩ := T.d_law_plain
  exact fz_mk D sc_law_plain (mok (.cons ⟨_, (fz_law_of T).up (by decide)⟩ (.cons ⟨_, (fz_law_take T).up (by decide)⟩ .nil)) .nil (fun x h => T.bl x ((by decide +kernel : ∀ x, x ∈ ([] : List Str) → x ∈ bltsAll) x h)) .nil .nil (by decide) (by decide)) e_law_plain h_law_plain
theorem fzi_law_house (T : Tp M) : ∀ n : Nat, Fz (M.at (3 + n)) "_law_house" [] (ctHouse n)
  | 0 => by
    obtain ⟨f_law_house, fd_law_house, D_law_house⟩ := T.d_law_house
    exact fz_zero D_law_house (fun zs c Q h => h_law_house_0 zs c Q h)
  | n + 1 => by
    have ih := fzi_law_house T n
    obtain ⟨f_law_house, fd_law_house, D_law_house⟩ := T.d_law_house
    exact fz_mk D_law_house sc_law_house (mok (.cons ⟨_, (fz_law_take T).up (Nat.le_trans (by decide : 1 ≤ 3) (Nat.le_add_right 3 n))⟩ (.cons ⟨_, (fz_law_plain T).up (Nat.le_trans (by decide : 3 ≤ 3) (Nat.le_add_right 3 n))⟩ (.cons ⟨_, ih⟩ .nil))) .nil (fun x h => T.bl x ((by decide +kernel : ∀ x, x ∈ ([] : List Str) → x ∈ bltsAll) x h)) .nil .nil (Nat.le_of_ble_eq_true rfl) (Nat.le_of_ble_eq_true rfl)) e_law_house (h_law_house n)
theorem fzr_law_house (T : Tp M) : Fz (M.at 7) "_law_house" [] (ctHouse 4) := (fzi_law_house T 4)
theorem fz_law_places (T : Tp M) : Fz (M.at 2) "_law_places" [] ctSome := by
  obtain ⟨f, fd, D⟩ := T.d_law_places
  exact fz_mk D sc_law_places (mok (.cons ⟨_, (fz_law_take T).up (by decide)⟩ .nil) .nil (fun x h => T.bl x ((by decide +kernel : ∀ x, x ∈ (["tuple", "range"] : List Str) → x ∈ bltsAll) x h)) .nil .nil (by decide) (by decide)) e_law_places h_law_places
theorem fz_law_lots (T : Tp M) : Fz (M.at 1) "_law_lots" [] ctLots := by
  obtain ⟨f, fd, D⟩ := T.d_law_lots
  exact fz_mk D sc_law_lots (mok .nil .nil (fun x h => T.bl x ((by decide +kernel : ∀ x, x ∈ (["tuple", "sorted", "set", "any", "len"] : List Str) → x ∈ bltsAll) x h)) .nil .nil (by decide) (by decide)) e_law_lots h_law_lots
theorem fz_law_below (T : Tp M) : Fz (M.at 1) "_law_below" [] PR.ctBelow := by
  obtain ⟨f, fd, D⟩ := T.d_law_below
  exact fz_mk D sc_law_below (mok .nil .nil (fun x h => T.bl x ((by decide +kernel : ∀ x, x ∈ (["range"] : List Str) → x ∈ bltsAll) x h)) .nil .nil (by decide) (by decide)) e_law_below h_law_below
theorem fz_law_pattern (T : Tp M) : Fz (M.at 1) "_law_pattern" [] ctPat := by
  obtain ⟨f, fd, D⟩ := T.d_law_pattern
  exact fz_mk D sc_law_pattern (mok .nil .nil (fun x h => T.bl x ((by decide +kernel : ∀ x, x ∈ (["tuple", "len", "list", "set"] : List Str) → x ∈ bltsAll) x h)) .nil .nil (by decide) (by decide)) e_law_pattern h_law_pattern
theorem fz_law_all (T : Tp M) : Fz (M.at 2) "_law_all" [] ctAll := by
  obtain ⟨f, fd, D⟩ := T.d_law_all
  exact fz_mk D sc_law_all (mok (.cons ⟨_, (fz_law_below T).up (by decide)⟩ (.cons ⟨_, (fz_law_pattern T).up (by decide)⟩ .nil)) .nil (fun x h => T.bl x ((by decide +kernel : ∀ x, x ∈ ([] : List Str) → x ∈ bltsAll) x h)) .nil .nil (by decide) (by decide)) e_law_all h_law_all
theorem fz_law_ruler (T : Tp M) : Fz (M.at 1) "_law_ruler" [] PR.ctRulerOf := by
  obtain ⟨f, fd, D⟩ := T.d_law_ruler
  exact fz_mk D sc_law_ruler (mok .nil .nil (fun x h => T.bl x ((by decide +kernel : ∀ x, x ∈ ([] : List Str) → x ∈ bltsAll) x h)) .nil .nil (by decide) (by decide)) e_law_ruler h_law_ruler
theorem fzi_law_program (T : Tp M) : ∀ n : Nat, Fz (M.at (2 + n)) "_law_program" [] (ctProg n)
  | 0 => by
    obtain ⟨f_law_program, fd_law_program, D_law_program⟩ := T.d_law_program
    exact fz_zero D_law_program (fun zs c Q h => h_law_program_0 zs c Q h)
  | n + 1 => by
    have ih := fzi_law_program T n
    obtain ⟨f_law_program, fd_law_program, D_law_program⟩ := T.d_law_program
    exact fz_mk D_law_program sc_law_program (mok (.cons ⟨_, (fz_law_take T).up (Nat.le_trans (by decide : 1 ≤ 2) (Nat.le_add_right 2 n))⟩ (.cons ⟨_, (fz_law_places T).up (Nat.le_trans (by decide : 2 ≤ 2) (Nat.le_add_right 2 n))⟩ (.cons ⟨_, (fz_law_lots T).up (Nat.le_trans (by decide : 1 ≤ 2) (Nat.le_add_right 2 n))⟩ (.cons ⟨_, ih⟩ (.cons ⟨_, (fz_law_of T).up (Nat.le_trans (by decide : 2 ≤ 2) (Nat.le_add_right 2 n))⟩ (.cons ⟨_, (fz_law_all T).up (Nat.le_trans (by decide : 2 ≤ 2) (Nat.le_add_right 2 n))⟩ (.cons ⟨_, (fz_law_ruler T).up (Nat.le_trans (by decide : 1 ≤ 2) (Nat.le_add_right 2 n))⟩ .nil))))))) .nil (fun x h => T.bl x ((by decide +kernel : ∀ x, x ∈ (["tuple", "range", "sorted", "set"] : List Str) → x ∈ bltsAll) x h)) .nil .nil (Nat.le_of_ble_eq_true rfl) (Nat.le_of_ble_eq_true rfl)) e_law_program (h_law_program n)
theorem fzr_law_program (T : Tp M) : Fz (M.at 6) "_law_program" [] (ctProg 4) := (fzi_law_program T 4)
theorem fz_tuples_below (T : Tp M) : Fz (M.at 1) "tuples_below" [] PR.ctBelow := by
  obtain ⟨f, fd, D⟩ := T.d_tuples_below
  exact fz_mk D sc_tuples_below (mok .nil .nil (fun x h => T.bl x ((by decide +kernel : ∀ x, x ∈ (["range"] : List Str) → x ∈ bltsAll) x h)) .nil .nil (by decide) (by decide)) e_tuples_below h_tuples_below
theorem fz_grown_by_sorts (T : Tp M) : Fz (M.at 1) "grown_by_sorts" [] PR.ctGrowS := by
  obtain ⟨f, fd, D⟩ := T.d_grown_by_sorts
  exact fz_mk D sc_grown_by_sorts (mok .nil .nil (fun x h => T.bl x ((by decide +kernel : ∀ x, x ∈ (["range", "len", "set"] : List Str) → x ∈ bltsAll) x h)) .nil .nil (by decide) (by decide)) e_grown_by_sorts h_grown_by_sorts
theorem fz_grown_by_ranks (T : Tp M) : Fz (M.at 1) "grown_by_ranks" [] PR.ctGrowR := by
  obtain ⟨f, fd, D⟩ := T.d_grown_by_ranks
  exact fz_mk D sc_grown_by_ranks (mok .nil .nil (fun x h => T.bl x ((by decide +kernel : ∀ x, x ∈ (["len", "set", "tuple", "range", "int"] : List Str) → x ∈ bltsAll) x h)) .nil .nil (by decide) (by decide)) e_grown_by_ranks h_grown_by_ranks
theorem fz_patterns (T : Tp M) : Fz (M.at 2) "patterns" [] PR.ctPatterns := by
  obtain ⟨f, fd, D⟩ := T.d_patterns
  exact fz_mk D sc_patterns (mok (.cons ⟨_, (fz_tuples_below T).up (by decide)⟩ (.cons ⟨_, (fz_grown_by_sorts T).up (by decide)⟩ (.cons ⟨_, (fz_grown_by_ranks T).up (by decide)⟩ .nil))) .nil (fun x h => T.bl x ((by decide +kernel : ∀ x, x ∈ (["range", "tuple", "sorted"] : List Str) → x ∈ bltsAll) x h)) .nil .nil (by decide) (by decide)) e_patterns h_patterns
theorem fz_is_whole (T : Tp M) : Fz (M.at 1) "is_whole" [] PR.ctWhole := by
  obtain ⟨f, fd, D⟩ := T.d_is_whole
  exact fz_mk D sc_is_whole (mok .nil .nil (fun x h => T.bl x ((by decide +kernel : ∀ x, x ∈ (["isinstance", "int", "bool"] : List Str) → x ∈ bltsAll) x h)) .nil .nil (by decide) (by decide)) e_is_whole h_is_whole
theorem fz_is_lot (T : Tp M) : Fz (M.at 2) "is_lot" [] PR.ctIsLot := by
  obtain ⟨f, fd, D⟩ := T.d_is_lot
  exact fz_mk D sc_is_lot (mok (.cons ⟨_, (fz_is_whole T).up (by decide)⟩ .nil) .nil (fun x h => T.bl x ((by decide +kernel : ∀ x, x ∈ (["all", "isinstance", "tuple", "zip"] : List Str) → x ∈ bltsAll) x h)) .nil .nil (by decide) (by decide)) e_is_lot h_is_lot
theorem fz_are_lots (T : Tp M) : Fz (M.at 3) "are_lots" [] PR.ctAreLots := by
  obtain ⟨f, fd, D⟩ := T.d_are_lots
  exact fz_mk D sc_are_lots (mok (.cons ⟨_, (fz_is_lot T).up (by decide)⟩ .nil) .nil (fun x h => T.bl x ((by decide +kernel : ∀ x, x ∈ (["all", "any", "isinstance", "tuple", "zip", "len", "set"] : List Str) → x ∈ bltsAll) x h)) .nil .nil (by decide) (by decide)) e_are_lots h_are_lots
theorem fz_are_multiples (T : Tp M) : Fz (M.at 2) "are_multiples" [] PR.ctAreMuls := by
  obtain ⟨f, fd, D⟩ := T.d_are_multiples
  exact fz_mk D sc_are_multiples (mok (.cons ⟨_, (fz_is_whole T).up (by decide)⟩ .nil) .nil (fun x h => T.bl x ((by decide +kernel : ∀ x, x ∈ (["sum", "isinstance", "tuple", "len", "all", "abs"] : List Str) → x ∈ bltsAll) x h)) .nil .nil (by decide) (by decide)) e_are_multiples h_are_multiples
theorem fz_are_choices (T : Tp M) : Fz (M.at 2) "are_choices" [] PR.ctAreChs := by
  obtain ⟨f, fd, D⟩ := T.d_are_choices
  exact fz_mk D sc_are_choices (mok (.cons ⟨_, (fz_is_whole T).up (by decide)⟩ .nil) .nil (fun x h => T.bl x ((by decide +kernel : ∀ x, x ∈ (["all", "isinstance", "tuple", "len", "zip"] : List Str) → x ∈ bltsAll) x h)) .nil .nil (by decide) (by decide)) e_are_choices h_are_choices
theorem fz_ruler_of (T : Tp M) : Fz (M.at 1) "ruler_of" [] PR.ctRulerOf := by
  obtain ⟨f, fd, D⟩ := T.d_ruler_of
  exact fz_mk D sc_ruler_of (mok .nil .nil (fun x h => T.bl x ((by decide +kernel : ∀ x, x ∈ ([] : List Str) → x ∈ bltsAll) x h)) .nil .nil (by decide) (by decide)) e_ruler_of h_ruler_of
theorem fz_patterns_of (T : Tp M) : Fz (M.at 3) "patterns_of" [] PR.ctPatsOf := by
  obtain ⟨f, fd, D⟩ := T.d_patterns_of
  exact fz_mk D sc_patterns_of (mok (.cons ⟨_, (fz_patterns T).up (by decide)⟩ (.cons ⟨_, (fz_ruler_of T).up (by decide)⟩ .nil)) .nil (fun x h => T.bl x ((by decide +kernel : ∀ x, x ∈ ([] : List Str) → x ∈ bltsAll) x h)) .nil .nil (by decide) (by decide)) e_patterns_of h_patterns_of
theorem fzi_is_joined_program (T : Tp M) : ∀ n : Nat, Fz (M.at (3 + n)) "is_joined_program" [] (PR.ctIsJp n) ∧ Fz (M.at (3 + n)) "is_program" [] (PR.ctIsPg n)
  | 0 => by
    obtain ⟨f_is_joined_program, fd_is_joined_program, D_is_joined_program⟩ := T.d_is_joined_program
    obtain ⟨f_is_program, fd_is_program, D_is_program⟩ := T.d_is_program
    exact ⟨fz_zero D_is_joined_program (fun zs c Q h => h_is_joined_program_0 zs c Q h), fz_zero D_is_program (fun zs c Q h => h_is_program_0 zs c Q h)⟩
  | n + 1 => by
    have ih := fzi_is_joined_program T n
    obtain ⟨f_is_joined_program, fd_is_joined_program, D_is_joined_program⟩ := T.d_is_joined_program
    obtain ⟨f_is_program, fd_is_program, D_is_program⟩ := T.d_is_program
    exact ⟨fz_mk D_is_joined_program sc_is_joined_program (mok (.cons ⟨_, ih.2⟩ (.cons ⟨_, (fz_patterns T).up (Nat.le_trans (by decide : 2 ≤ 3) (Nat.le_add_right 3 n))⟩ .nil)) .nil (fun x h => T.bl x ((by decide +kernel : ∀ x, x ∈ (["isinstance", "tuple", "all", "len"] : List Str) → x ∈ bltsAll) x h)) .nil .nil (Nat.le_of_ble_eq_true rfl) (Nat.le_of_ble_eq_true rfl)) e_is_joined_program (h_is_joined_program n), fz_mk D_is_program sc_is_program (mok (.cons ⟨_, ih.1⟩ (.cons ⟨_, (fz_is_lot T).up (Nat.le_trans (by decide : 2 ≤ 3) (Nat.le_add_right 3 n))⟩ (.cons ⟨_, (fz_are_lots T).up (Nat.le_trans (by decide : 3 ≤ 3) (Nat.le_add_right 3 n))⟩ (.cons ⟨_, (fz_are_multiples T).up (Nat.le_trans (by decide : 2 ≤ 3) (Nat.le_add_right 3 n))⟩ (.cons ⟨_, (fz_are_choices T).up (Nat.le_trans (by decide : 2 ≤ 3) (Nat.le_add_right 3 n))⟩ (.cons ⟨_, (fz_is_whole T).up (Nat.le_trans (by decide : 1 ≤ 3) (Nat.le_add_right 3 n))⟩ (.cons ⟨_, (fz_patterns_of T).up (Nat.le_trans (by decide : 3 ≤ 3) (Nat.le_add_right 3 n))⟩ .nil))))))) .nil (fun x h => T.bl x ((by decide +kernel : ∀ x, x ∈ ([] : List Str) → x ∈ bltsAll) x h)) .nil .nil (Nat.le_of_ble_eq_true rfl) (Nat.le_of_ble_eq_true rfl)) e_is_program (h_is_program n)⟩
theorem fzr_is_joined_program (T : Tp M) : Fz (M.at 11) "is_joined_program" [] (PR.ctIsJp 8) := (fzi_is_joined_program T 8).1
theorem fzr_is_program (T : Tp M) : Fz (M.at 11) "is_program" [] (PR.ctIsPg 8) := (fzi_is_joined_program T 8).2
theorem fzi_row_size (T : Tp M) : ∀ n : Nat, Fz (M.at (0 + n)) "row_size" [] (PR.ctSize n)
  | 0 => by
    obtain ⟨f_row_size, fd_row_size, D_row_size⟩ := T.d_row_size
    exact fz_zero D_row_size (fun zs c Q h => h_row_size_0 zs c Q h)
  | n + 1 => by
    have ih := fzi_row_size T n
    obtain ⟨f_row_size, fd_row_size, D_row_size⟩ := T.d_row_size
    exact fz_mk D_row_size sc_row_size (mok (.cons ⟨_, ih⟩ .nil) .nil (fun x h => T.bl x ((by decide +kernel : ∀ x, x ∈ ([] : List Str) → x ∈ bltsAll) x h)) .nil .nil (Nat.le_of_ble_eq_true rfl) (Nat.le_of_ble_eq_true rfl)) e_row_size (h_row_size n)
theorem fzr_row_size (T : Tp M) : Fz (M.at 4) "row_size" [] (PR.ctSize 4) := (fzi_row_size T 4)
theorem fz_parted_row (T : Tp M) : Fz (M.at 5) "parted_row" [] PR.ctParted := by
  obtain ⟨f, fd, D⟩ := T.d_parted_row
  exact fz_mk D sc_parted_row (mok (.cons ⟨_, (fzr_row_size T).up (by decide)⟩ .nil) .nil (fun x h => T.bl x ((by decide +kernel : ∀ x, x ∈ ([] : List Str) → x ∈ bltsAll) x h)) .nil .nil (by decide) (by decide)) e_parted_row h_parted_row
theorem fz_sorted_by_coming (T : Tp M) : Fz (M.at 1) "sorted_by_coming" [] PR.ctComing := by
  obtain ⟨f, fd, D⟩ := T.d_sorted_by_coming
  exact fz_mk D sc_sorted_by_coming (mok .nil .nil (fun x h => T.bl x ((by decide +kernel : ∀ x, x ∈ (["tuple"] : List Str) → x ∈ bltsAll) x h)) .nil .nil (by decide) (by decide)) e_sorted_by_coming h_sorted_by_coming
theorem fz_ranked (T : Tp M) : Fz (M.at 1) "ranked" [] PR.ctRanked := by
  obtain ⟨f, fd, D⟩ := T.d_ranked
  exact fz_mk D sc_ranked (mok .nil .nil (fun x h => T.bl x ((by decide +kernel : ∀ x, x ∈ (["sorted", "tuple", "set"] : List Str) → x ∈ bltsAll) x h)) .nil .nil (by decide) (by decide)) e_ranked h_ranked
theorem fz_pattern_of (T : Tp M) : Fz (M.at 2) "pattern_of" [] PR.ctPatOf := by
  obtain ⟨f, fd, D⟩ := T.d_pattern_of
  exact fz_mk D sc_pattern_of (mok (.cons ⟨_, (fz_sorted_by_coming T).up (by decide)⟩ (.cons ⟨_, (fz_ranked T).up (by decide)⟩ .nil)) .nil (fun x h => T.bl x ((by decide +kernel : ∀ x, x ∈ (["tuple"] : List Str) → x ∈ bltsAll) x h)) .nil .nil (by decide) (by decide)) e_pattern_of h_pattern_of
theorem fz_summed (T : Tp M) : Fz (M.at 1) "summed" [] PR.ctSummed := by
  obtain ⟨f, fd, D⟩ := T.d_summed
  exact fz_mk D sc_summed (mok .nil .nil (fun x h => T.bl x ((by decide +kernel : ∀ x, x ∈ (["sum", "zip"] : List Str) → x ∈ bltsAll) x h)) .nil .nil (by decide) (by decide)) e_summed h_summed
theorem fz_chosen (T : Tp M) : Fz (M.at 4) "chosen" [] PR.ctChosen := by
  obtain ⟨f, fd, D⟩ := T.d_chosen
  exact fz_mk D sc_chosen (mok (.cons ⟨_, (fz_pattern_of T).up (by decide)⟩ (.cons ⟨_, (fz_ruler_of T).up (by decide)⟩ (.cons ⟨_, (fz_patterns_of T).up (by decide)⟩ .nil))) .nil (fun x h => T.bl x ((by decide +kernel : ∀ x, x ∈ ([] : List Str) → x ∈ bltsAll) x h)) .nil .nil (by decide) (by decide)) e_chosen h_chosen
theorem fzi_tells (T : Tp M) : ∀ n : Nat, Fz (M.at (5 + n)) "tells" [] (PR.ctTells n) ∧ Fz (M.at (5 + n)) "told_joined" [] (PR.ctJoined n)
  | 0 => by
    obtain ⟨f_tells, fd_tells, D_tells⟩ := T.d_tells
    obtain ⟨f_told_joined, fd_told_joined, D_told_joined⟩ := T.d_told_joined
    exact ⟨fz_zero D_tells (fun zs c Q h => h_tells_0 zs c Q h), fz_zero D_told_joined (fun zs c Q h => h_told_joined_0 zs c Q h)⟩
  | n + 1 => by
    have ih := fzi_tells T n
    obtain ⟨f_tells, fd_tells, D_tells⟩ := T.d_tells
    obtain ⟨f_told_joined, fd_told_joined, D_told_joined⟩ := T.d_told_joined
    exact ⟨fz_mk D_tells sc_tells (mok (.cons ⟨_, ih.2⟩ (.cons ⟨_, (fz_summed T).up (Nat.le_trans (by decide : 1 ≤ 5) (Nat.le_add_right 5 n))⟩ (.cons ⟨_, (fz_chosen T).up (Nat.le_trans (by decide : 4 ≤ 5) (Nat.le_add_right 5 n))⟩ .nil))) .nil (fun x h => T.bl x ((by decide +kernel : ∀ x, x ∈ (["min", "max"] : List Str) → x ∈ bltsAll) x h)) .nil .nil (Nat.le_of_ble_eq_true rfl) (Nat.le_of_ble_eq_true rfl)) e_tells (h_tells n), fz_mk D_told_joined sc_told_joined (mok (.cons ⟨_, (fz_parted_row T).up (Nat.le_trans (by decide : 5 ≤ 5) (Nat.le_add_right 5 n))⟩ (.cons ⟨_, ih.1⟩ (.cons ⟨_, (fz_pattern_of T).up (Nat.le_trans (by decide : 2 ≤ 5) (Nat.le_add_right 5 n))⟩ (.cons ⟨_, (fz_patterns T).up (Nat.le_trans (by decide : 2 ≤ 5) (Nat.le_add_right 5 n))⟩ .nil)))) .nil (fun x h => T.bl x ((by decide +kernel : ∀ x, x ∈ ([] : List Str) → x ∈ bltsAll) x h)) .nil .nil (Nat.le_of_ble_eq_true rfl) (Nat.le_of_ble_eq_true rfl)) e_told_joined (h_told_joined n)⟩
theorem fzr_tells (T : Tp M) : Fz (M.at 13) "tells" [] (PR.ctTells 8) := (fzi_tells T 8).1
theorem fzr_told_joined (T : Tp M) : Fz (M.at 13) "told_joined" [] (PR.ctJoined 8) := (fzi_tells T 8).2
theorem fzi_marks_fit (T : Tp M) : ∀ n : Nat, Fz (M.at (5 + n)) "marks_fit" [] (PR.ctFits n)
  | 0 => by
    obtain ⟨f_marks_fit, fd_marks_fit, D_marks_fit⟩ := T.d_marks_fit
    exact fz_zero D_marks_fit (fun zs c Q h => h_marks_fit_0 zs c Q h)
  | n + 1 => by
    have ih := fzi_marks_fit T n
    obtain ⟨f_marks_fit, fd_marks_fit, D_marks_fit⟩ := T.d_marks_fit
    exact fz_mk D_marks_fit sc_marks_fit (mok (.cons ⟨_, (fz_parted_row T).up (Nat.le_trans (by decide : 5 ≤ 5) (Nat.le_add_right 5 n))⟩ (.cons ⟨_, ih⟩ .nil)) (.cons T.g_JOINED .nil) (fun x h => T.bl x ((by decide +kernel : ∀ x, x ∈ (["all"] : List Str) → x ∈ bltsAll) x h)) .nil .nil (Nat.le_of_ble_eq_true rfl) (Nat.le_of_ble_eq_true rfl)) e_marks_fit (h_marks_fit n)
theorem fzr_marks_fit (T : Tp M) : Fz (M.at 9) "marks_fit" [] (PR.ctFits 4) := (fzi_marks_fit T 4)
theorem fz_is_row (T : Tp M) : Fz (M.at 10) "is_row" [] PR.ctRow := by
  obtain ⟨f, fd, D⟩ := T.d_is_row
  exact fz_mk D sc_is_row (mok (.cons ⟨_, (fzr_marks_fit T).up (by decide)⟩ (.cons ⟨_, (fzr_row_size T).up (by decide)⟩ (.cons ⟨_, (fz_is_whole T).up (by decide)⟩ .nil))) .nil (fun x h => T.bl x ((by decide +kernel : ∀ x, x ∈ (["isinstance", "tuple", "len", "all"] : List Str) → x ∈ bltsAll) x h)) .nil .nil (by decide) (by decide)) e_is_row h_is_row
theorem fzi_law_parts_right (T : Tp M) : ∀ n : Nat, Fz (M.at (13 + n)) "_law_parts_right" [] (ctParts n)
  | 0 => by
    obtain ⟨f_law_parts_right, fd_law_parts_right, D_law_parts_right⟩ := T.d_law_parts_right
    exact fz_zero D_law_parts_right (fun zs c Q h => h_law_parts_right_0 zs c Q h)
  | n + 1 => by
    have ih := fzi_law_parts_right T n
    obtain ⟨f_law_parts_right, fd_law_parts_right, D_law_parts_right⟩ := T.d_law_parts_right
    exact fz_mk D_law_parts_right sc_law_parts_right (mok (.cons ⟨_, (fz_parted_row T).up (Nat.le_trans (by decide : 5 ≤ 13) (Nat.le_add_right 13 n))⟩ (.cons ⟨_, ih⟩ (.cons ⟨_, (fzr_tells T).up (Nat.le_trans (by decide : 13 ≤ 13) (Nat.le_add_right 13 n))⟩ (.cons ⟨_, (fzr_row_size T).up (Nat.le_trans (by decide : 4 ≤ 13) (Nat.le_add_right 13 n))⟩ (.cons ⟨_, (fz_pattern_of T).up (Nat.le_trans (by decide : 2 ≤ 13) (Nat.le_add_right 13 n))⟩ (.cons ⟨_, (fzr_is_program T).up (Nat.le_trans (by decide : 11 ≤ 13) (Nat.le_add_right 13 n))⟩ (.cons ⟨_, (fz_is_row T).up (Nat.le_trans (by decide : 10 ≤ 13) (Nat.le_add_right 13 n))⟩ (.cons ⟨_, (fz_patterns T).up (Nat.le_trans (by decide : 2 ≤ 13) (Nat.le_add_right 13 n))⟩ .nil)))))))) .nil (fun x h => T.bl x ((by decide +kernel : ∀ x, x ∈ (["repr", "isinstance", "tuple", "len"] : List Str) → x ∈ bltsAll) x h)) .nil .nil (Nat.le_of_ble_eq_true rfl) (Nat.le_of_ble_eq_true rfl)) e_law_parts_right (h_law_parts_right n)
theorem fzr_law_parts_right (T : Tp M) : Fz (M.at 17) "_law_parts_right" [] (ctParts 4) := (fzi_law_parts_right T 4)
theorem fzi_law_row (T : Tp M) : ∀ n : Nat, Fz (M.at (2 + n)) "_law_row" [] (ctRowD n)
  | 0 => by
    obtain ⟨f_law_row, fd_law_row, D_law_row⟩ := T.d_law_row
    exact fz_zero D_law_row (fun zs c Q h => h_law_row_0 zs c Q h)
  | n + 1 => by
    have ih := fzi_law_row T n
    obtain ⟨f_law_row, fd_law_row, D_law_row⟩ := T.d_law_row
    exact fz_mk D_law_row sc_law_row (mok (.cons ⟨_, (fz_law_of T).up (Nat.le_trans (by decide : 2 ≤ 2) (Nat.le_add_right 2 n))⟩ (.cons ⟨_, ih⟩ (.cons ⟨_, (fz_law_take T).up (Nat.le_trans (by decide : 1 ≤ 2) (Nat.le_add_right 2 n))⟩ .nil))) .nil (fun x h => T.bl x ((by decide +kernel : ∀ x, x ∈ (["tuple", "list", "range"] : List Str) → x ∈ bltsAll) x h)) .nil .nil (Nat.le_of_ble_eq_true rfl) (Nat.le_of_ble_eq_true rfl)) e_law_row (h_law_row n)
theorem fzr_law_row (T : Tp M) : Fz (M.at 6) "_law_row" [] (ctRowD 4) := (fzi_law_row T 4)
theorem fnz_law (T : Tp M) {f : Addr} {fd : FuncData} (D : Df M.K M.mg "law" s_law f fd ["_law_script"] []) : FnZ M.P M.w M.K M.mg M.base 18 f fd ["_law_script"] (spOf M.K ctLaw) :=
  fnz_mk D sc_law (mok (.cons ⟨_, (fz_law_pot T).up (by decide)⟩ (.cons ⟨_, (fzr_law_house T).up (by decide)⟩ (.cons ⟨_, (fzr_law_program T).up (by decide)⟩ (.cons ⟨_, (fzr_is_program T).up (by decide)⟩ (.cons ⟨_, (fz_law_take T).up (by decide)⟩ (.cons ⟨_, (fzr_law_parts_right T).up (by decide)⟩ (.cons ⟨_, (fzr_law_row T).up (by decide)⟩ .nil))))))) .nil (fun x h => T.bl x ((by decide +kernel : ∀ x, x ∈ (["range", "len"] : List Str) → x ∈ bltsAll) x h)) .nil .nil (by decide) (by decide)) e_law h_law
end
set_option maxHeartbeats 4000000 in
theorem all_mk {l : PySem.W.OpenLaw} {w : World} {K : PySem.W.Frag} {h : Heap} {mg : Str → Option Value} {fa : Addr} (X : K.In h) (G : h.Ns mainGlobals mg) (hfa : mg "law" = some (.ref fa))
    {f0 : Addr} {od0 an0 : Option Addr} {sl0 : Array (Option Value)} {oc0 kV0 dc0 pm0 cd0 ct0 : Value}
    {f1 : Addr} {od1 an1 : Option Addr} {sl1 : Array (Option Value)} {oc1 kV1 dc1 pm1 cd1 ct1 : Value}
    {f2 : Addr} {od2 an2 : Option Addr} {sl2 : Array (Option Value)} {oc2 kV2 dc2 pm2 cd2 ct2 : Value}
    {f3 : Addr} {od3 an3 : Option Addr} {sl3 : Array (Option Value)} {oc3 kV3 dc3 pm3 cd3 ct3 : Value}
    {f4 : Addr} {od4 an4 : Option Addr} {sl4 : Array (Option Value)} {oc4 kV4 dc4 pm4 cd4 ct4 : Value}
    {f5 : Addr} {od5 an5 : Option Addr} {sl5 : Array (Option Value)} {oc5 kV5 dc5 pm5 cd5 ct5 : Value}
    {f6 : Addr} {od6 an6 : Option Addr} {sl6 : Array (Option Value)} {oc6 kV6 dc6 pm6 cd6 ct6 : Value}
    {f7 : Addr} {od7 an7 : Option Addr} {sl7 : Array (Option Value)} {oc7 kV7 dc7 pm7 cd7 ct7 : Value}
    {f8 : Addr} {od8 an8 : Option Addr} {sl8 : Array (Option Value)} {oc8 kV8 dc8 pm8 cd8 ct8 : Value}
    {f9 : Addr} {od9 an9 : Option Addr} {sl9 : Array (Option Value)} {oc9 kV9 dc9 pm9 cd9 ct9 : Value}
    {f10 : Addr} {od10 an10 : Option Addr} {sl10 : Array (Option Value)} {oc10 kV10 dc10 pm10 cd10 ct10 : Value}
    {f11 : Addr} {od11 an11 : Option Addr} {sl11 : Array (Option Value)} {oc11 kV11 dc11 pm11 cd11 ct11 : Value}
    {f12 : Addr} {od12 an12 : Option Addr} {sl12 : Array (Option Value)} {oc12 kV12 dc12 pm12 cd12 ct12 : Value}
    {f13 : Addr} {od13 an13 : Option Addr} {sl13 : Array (Option Value)} {oc13 kV13 dc13 pm13 cd13 ct13 : Value}
    {f14 : Addr} {od14 an14 : Option Addr} {sl14 : Array (Option Value)} {oc14 kV14 dc14 pm14 cd14 ct14 : Value}
    {f15 : Addr} {od15 an15 : Option Addr} {sl15 : Array (Option Value)} {oc15 kV15 dc15 pm15 cd15 ct15 : Value}
    {f16 : Addr} {od16 an16 : Option Addr} {sl16 : Array (Option Value)} {oc16 kV16 dc16 pm16 cd16 ct16 : Value}
    {f17 : Addr} {od17 an17 : Option Addr} {sl17 : Array (Option Value)} {oc17 kV17 dc17 pm17 cd17 ct17 : Value}
    {f18 : Addr} {od18 an18 : Option Addr} {sl18 : Array (Option Value)} {oc18 kV18 dc18 pm18 cd18 ct18 : Value}
    {f19 : Addr} {od19 an19 : Option Addr} {sl19 : Array (Option Value)} {oc19 kV19 dc19 pm19 cd19 ct19 : Value}
    {f20 : Addr} {od20 an20 : Option Addr} {sl20 : Array (Option Value)} {oc20 kV20 dc20 pm20 cd20 ct20 : Value}
    {f21 : Addr} {od21 an21 : Option Addr} {sl21 : Array (Option Value)} {oc21 kV21 dc21 pm21 cd21 ct21 : Value}
    {f22 : Addr} {od22 an22 : Option Addr} {sl22 : Array (Option Value)} {oc22 kV22 dc22 pm22 cd22 ct22 : Value}
    {f23 : Addr} {od23 an23 : Option Addr} {sl23 : Array (Option Value)} {oc23 kV23 dc23 pm23 cd23 ct23 : Value}
    {f24 : Addr} {od24 an24 : Option Addr} {sl24 : Array (Option Value)} {oc24 kV24 dc24 pm24 cd24 ct24 : Value}
    {f25 : Addr} {od25 an25 : Option Addr} {sl25 : Array (Option Value)} {oc25 kV25 dc25 pm25 cd25 ct25 : Value}
    {f26 : Addr} {od26 an26 : Option Addr} {sl26 : Array (Option Value)} {oc26 kV26 dc26 pm26 cd26 ct26 : Value}
    {f27 : Addr} {od27 an27 : Option Addr} {sl27 : Array (Option Value)} {oc27 kV27 dc27 pm27 cd27 ct27 : Value}
    {f28 : Addr} {od28 an28 : Option Addr} {sl28 : Array (Option Value)} {oc28 kV28 dc28 pm28 cd28 ct28 : Value}
    {f29 : Addr} {od29 an29 : Option Addr} {sl29 : Array (Option Value)} {oc29 kV29 dc29 pm29 cd29 ct29 : Value}
    {f30 : Addr} {od30 an30 : Option Addr} {sl30 : Array (Option Value)} {oc30 kV30 dc30 pm30 cd30 ct30 : Value}
    {f31 : Addr} {od31 an31 : Option Addr} {sl31 : Array (Option Value)} {oc31 kV31 dc31 pm31 cd31 ct31 : Value}
    {f32 : Addr} {od32 an32 : Option Addr} {sl32 : Array (Option Value)} {oc32 kV32 dc32 pm32 cd32 ct32 : Value}
    {f33 : Addr} {od33 an33 : Option Addr} {sl33 : Array (Option Value)} {oc33 kV33 dc33 pm33 cd33 ct33 : Value}
    {f34 : Addr} {od34 an34 : Option Addr} {sl34 : Array (Option Value)} {oc34 kV34 dc34 pm34 cd34 ct34 : Value}
    {f35 : Addr} {od35 an35 : Option Addr} {sl35 : Array (Option Value)} {oc35 kV35 dc35 pm35 cd35 ct35 : Value}
    {f36 : Addr} {od36 an36 : Option Addr} {sl36 : Array (Option Value)} {oc36 kV36 dc36 pm36 cd36 ct36 : Value}
    {f37 : Addr} {od37 an37 : Option Addr} {sl37 : Array (Option Value)} {oc37 kV37 dc37 pm37 cd37 ct37 : Value}
    {f38 : Addr} {od38 an38 : Option Addr} {sl38 : Array (Option Value)} {oc38 kV38 dc38 pm38 cd38 ct38 : Value}
    {y0_3t : Tok}
    {y0_4t : Tok}
    {y0_2p : Addr} {y0_2n : Nat} {y0_2s : Array (Option Value)}
    (a0 : PySem.W.nsIn K mainGlobals "_law_pot" = some (some (.ref f0))) (l0 : K.lookup f0 = some ⟨oc0, od0, .func (PySem.W.fnOf "_law_pot" "_law_pot" (defArgs s_law_pot) (defBody s_law_pot) (defScope s_law_pot) .none kV0 dc0 pm0 an0 cd0 ct0), sl0⟩) (c0 : PySem.W.codeIn K cd0 "_law_pot" = true) (k0 : PySem.W.keepIn K (.ref f0) = true)
    (a1 : PySem.W.nsIn K mainGlobals "_law_take" = some (some (.ref f1))) (l1 : K.lookup f1 = some ⟨oc1, od1, .func (PySem.W.fnOf "_law_take" "_law_take" (defArgs s_law_take) (defBody s_law_take) (defScope s_law_take) .none kV1 dc1 pm1 an1 cd1 ct1), sl1⟩) (c1 : PySem.W.codeIn K cd1 "_law_take" = true) (k1 : PySem.W.keepIn K (.ref f1) = true)
    (a2 : PySem.W.nsIn K mainGlobals "_law_of" = some (some (.ref f2))) (l2 : K.lookup f2 = some ⟨oc2, od2, .func (PySem.W.fnOf "_law_of" "_law_of" (defArgs s_law_of) (defBody s_law_of) (defScope s_law_of) .none kV2 dc2 pm2 an2 cd2 ct2), sl2⟩) (c2 : PySem.W.codeIn K cd2 "_law_of" = true) (k2 : PySem.W.keepIn K (.ref f2) = true)
    (a3 : PySem.W.nsIn K mainGlobals "_law_plain" = some (some (.ref f3))) (l3 : K.lookup f3 = some ⟨oc3, od3, .func (PySem.W.fnOf "_law_plain" "_law_plain" (defArgs s_law_plain) (defBody s_law_plain) (defScope s_law_plain) .none kV3 dc3 pm3 an3 cd3 ct3), sl3⟩) (c3 : PySem.W.codeIn K cd3 "_law_plain" = true) (k3 : PySem.W.keepIn K (.ref f3) = true)
    (a4 : PySem.W.nsIn K mainGlobals "_law_house" = some (some (.ref f4))) (l4 : K.lookup f4 = some ⟨oc4, od4, .func (PySem.W.fnOf "_law_house" "_law_house" (defArgs s_law_house) (defBody s_law_house) (defScope s_law_house) .none kV4 dc4 pm4 an4 cd4 ct4), sl4⟩) (c4 : PySem.W.codeIn K cd4 "_law_house" = true) (k4 : PySem.W.keepIn K (.ref f4) = true)
    (a5 : PySem.W.nsIn K mainGlobals "_law_places" = some (some (.ref f5))) (l5 : K.lookup f5 = some ⟨oc5, od5, .func (PySem.W.fnOf "_law_places" "_law_places" (defArgs s_law_places) (defBody s_law_places) (defScope s_law_places) .none kV5 dc5 pm5 an5 cd5 ct5), sl5⟩) (c5 : PySem.W.codeIn K cd5 "_law_places" = true) (k5 : PySem.W.keepIn K (.ref f5) = true)
    (a6 : PySem.W.nsIn K mainGlobals "_law_lots" = some (some (.ref f6))) (l6 : K.lookup f6 = some ⟨oc6, od6, .func (PySem.W.fnOf "_law_lots" "_law_lots" (defArgs s_law_lots) (defBody s_law_lots) (defScope s_law_lots) .none kV6 dc6 pm6 an6 cd6 ct6), sl6⟩) (c6 : PySem.W.codeIn K cd6 "_law_lots" = true) (k6 : PySem.W.keepIn K (.ref f6) = true)
    (a7 : PySem.W.nsIn K mainGlobals "_law_below" = some (some (.ref f7))) (l7 : K.lookup f7 = some ⟨oc7, od7, .func (PySem.W.fnOf "_law_below" "_law_below" (defArgs s_law_below) (defBody s_law_below) (defScope s_law_below) .none kV7 dc7 pm7 an7 cd7 ct7), sl7⟩) (c7 : PySem.W.codeIn K cd7 "_law_below" = true) (k7 : PySem.W.keepIn K (.ref f7) = true)
    (a8 : PySem.W.nsIn K mainGlobals "_law_pattern" = some (some (.ref f8))) (l8 : K.lookup f8 = some ⟨oc8, od8, .func (PySem.W.fnOf "_law_pattern" "_law_pattern" (defArgs s_law_pattern) (defBody s_law_pattern) (defScope s_law_pattern) .none kV8 dc8 pm8 an8 cd8 ct8), sl8⟩) (c8 : PySem.W.codeIn K cd8 "_law_pattern" = true) (k8 : PySem.W.keepIn K (.ref f8) = true)
    (a9 : PySem.W.nsIn K mainGlobals "_law_all" = some (some (.ref f9))) (l9 : K.lookup f9 = some ⟨oc9, od9, .func (PySem.W.fnOf "_law_all" "_law_all" (defArgs s_law_all) (defBody s_law_all) (defScope s_law_all) .none kV9 dc9 pm9 an9 cd9 ct9), sl9⟩) (c9 : PySem.W.codeIn K cd9 "_law_all" = true) (k9 : PySem.W.keepIn K (.ref f9) = true)
    (a10 : PySem.W.nsIn K mainGlobals "_law_ruler" = some (some (.ref f10))) (l10 : K.lookup f10 = some ⟨oc10, od10, .func (PySem.W.fnOf "_law_ruler" "_law_ruler" (defArgs s_law_ruler) (defBody s_law_ruler) (defScope s_law_ruler) .none kV10 dc10 pm10 an10 cd10 ct10), sl10⟩) (c10 : PySem.W.codeIn K cd10 "_law_ruler" = true) (k10 : PySem.W.keepIn K (.ref f10) = true)
    (a11 : PySem.W.nsIn K mainGlobals "_law_program" = some (some (.ref f11))) (l11 : K.lookup f11 = some ⟨oc11, od11, .func (PySem.W.fnOf "_law_program" "_law_program" (defArgs s_law_program) (defBody s_law_program) (defScope s_law_program) .none kV11 dc11 pm11 an11 cd11 ct11), sl11⟩) (c11 : PySem.W.codeIn K cd11 "_law_program" = true) (k11 : PySem.W.keepIn K (.ref f11) = true)
    (a12 : PySem.W.nsIn K mainGlobals "tuples_below" = some (some (.ref f12))) (l12 : K.lookup f12 = some ⟨oc12, od12, .func (PySem.W.fnOf "tuples_below" "tuples_below" (defArgs s_tuples_below) (defBody s_tuples_below) (defScope s_tuples_below) .none kV12 dc12 pm12 an12 cd12 ct12), sl12⟩) (c12 : PySem.W.codeIn K cd12 "tuples_below" = true) (k12 : PySem.W.keepIn K (.ref f12) = true)
    (a13 : PySem.W.nsIn K mainGlobals "grown_by_sorts" = some (some (.ref f13))) (l13 : K.lookup f13 = some ⟨oc13, od13, .func (PySem.W.fnOf "grown_by_sorts" "grown_by_sorts" (defArgs s_grown_by_sorts) (defBody s_grown_by_sorts) (defScope s_grown_by_sorts) .none kV13 dc13 pm13 an13 cd13 ct13), sl13⟩) (c13 : PySem.W.codeIn K cd13 "grown_by_sorts" = true) (k13 : PySem.W.keepIn K (.ref f13) = true)
    (a14 : PySem.W.nsIn K mainGlobals "grown_by_ranks" = some (some (.ref f14))) (l14 : K.lookup f14 = some ⟨oc14, od14, .func (PySem.W.fnOf "grown_by_ranks" "grown_by_ranks" (defArgs s_grown_by_ranks) (defBody s_grown_by_ranks) (defScope s_grown_by_ranks) .none kV14 dc14 pm14 an14 cd14 ct14), sl14⟩) (c14 : PySem.W.codeIn K cd14 "grown_by_ranks" = true) (k14 : PySem.W.keepIn K (.ref f14) = true)
    (a15 : PySem.W.nsIn K mainGlobals "patterns" = some (some (.ref f15))) (l15 : K.lookup f15 = some ⟨oc15, od15, .func (PySem.W.fnOf "patterns" "patterns" (defArgs s_patterns) (defBody s_patterns) (defScope s_patterns) .none kV15 dc15 pm15 an15 cd15 ct15), sl15⟩) (c15 : PySem.W.codeIn K cd15 "patterns" = true) (k15 : PySem.W.keepIn K (.ref f15) = true)
    (a16 : PySem.W.nsIn K mainGlobals "is_joined_program" = some (some (.ref f16))) (l16 : K.lookup f16 = some ⟨oc16, od16, .func (PySem.W.fnOf "is_joined_program" "is_joined_program" (defArgs s_is_joined_program) (defBody s_is_joined_program) (defScope s_is_joined_program) .none kV16 dc16 pm16 an16 cd16 ct16), sl16⟩) (c16 : PySem.W.codeIn K cd16 "is_joined_program" = true) (k16 : PySem.W.keepIn K (.ref f16) = true)
    (a17 : PySem.W.nsIn K mainGlobals "is_whole" = some (some (.ref f17))) (l17 : K.lookup f17 = some ⟨oc17, od17, .func (PySem.W.fnOf "is_whole" "is_whole" (defArgs s_is_whole) (defBody s_is_whole) (defScope s_is_whole) .none kV17 dc17 pm17 an17 cd17 ct17), sl17⟩) (c17 : PySem.W.codeIn K cd17 "is_whole" = true) (k17 : PySem.W.keepIn K (.ref f17) = true)
    (a18 : PySem.W.nsIn K mainGlobals "is_lot" = some (some (.ref f18))) (l18 : K.lookup f18 = some ⟨oc18, od18, .func (PySem.W.fnOf "is_lot" "is_lot" (defArgs s_is_lot) (defBody s_is_lot) (defScope s_is_lot) .none kV18 dc18 pm18 an18 cd18 ct18), sl18⟩) (c18 : PySem.W.codeIn K cd18 "is_lot" = true) (k18 : PySem.W.keepIn K (.ref f18) = true)
    (a19 : PySem.W.nsIn K mainGlobals "are_lots" = some (some (.ref f19))) (l19 : K.lookup f19 = some ⟨oc19, od19, .func (PySem.W.fnOf "are_lots" "are_lots" (defArgs s_are_lots) (defBody s_are_lots) (defScope s_are_lots) .none kV19 dc19 pm19 an19 cd19 ct19), sl19⟩) (c19 : PySem.W.codeIn K cd19 "are_lots" = true) (k19 : PySem.W.keepIn K (.ref f19) = true)
    (a20 : PySem.W.nsIn K mainGlobals "are_multiples" = some (some (.ref f20))) (l20 : K.lookup f20 = some ⟨oc20, od20, .func (PySem.W.fnOf "are_multiples" "are_multiples" (defArgs s_are_multiples) (defBody s_are_multiples) (defScope s_are_multiples) .none kV20 dc20 pm20 an20 cd20 ct20), sl20⟩) (c20 : PySem.W.codeIn K cd20 "are_multiples" = true) (k20 : PySem.W.keepIn K (.ref f20) = true)
    (a21 : PySem.W.nsIn K mainGlobals "are_choices" = some (some (.ref f21))) (l21 : K.lookup f21 = some ⟨oc21, od21, .func (PySem.W.fnOf "are_choices" "are_choices" (defArgs s_are_choices) (defBody s_are_choices) (defScope s_are_choices) .none kV21 dc21 pm21 an21 cd21 ct21), sl21⟩) (c21 : PySem.W.codeIn K cd21 "are_choices" = true) (k21 : PySem.W.keepIn K (.ref f21) = true)
    (a22 : PySem.W.nsIn K mainGlobals "ruler_of" = some (some (.ref f22))) (l22 : K.lookup f22 = some ⟨oc22, od22, .func (PySem.W.fnOf "ruler_of" "ruler_of" (defArgs s_ruler_of) (defBody s_ruler_of) (defScope s_ruler_of) .none kV22 dc22 pm22 an22 cd22 ct22), sl22⟩) (c22 : PySem.W.codeIn K cd22 "ruler_of" = true) (k22 : PySem.W.keepIn K (.ref f22) = true)
    (a23 : PySem.W.nsIn K mainGlobals "patterns_of" = some (some (.ref f23))) (l23 : K.lookup f23 = some ⟨oc23, od23, .func (PySem.W.fnOf "patterns_of" "patterns_of" (defArgs s_patterns_of) (defBody s_patterns_of) (defScope s_patterns_of) .none kV23 dc23 pm23 an23 cd23 ct23), sl23⟩) (c23 : PySem.W.codeIn K cd23 "patterns_of" = true) (k23 : PySem.W.keepIn K (.ref f23) = true)
    (a24 : PySem.W.nsIn K mainGlobals "is_program" = some (some (.ref f24))) (l24 : K.lookup f24 = some ⟨oc24, od24, .func (PySem.W.fnOf "is_program" "is_program" (defArgs s_is_program) (defBody s_is_program) (defScope s_is_program) .none kV24 dc24 pm24 an24 cd24 ct24), sl24⟩) (c24 : PySem.W.codeIn K cd24 "is_program" = true) (k24 : PySem.W.keepIn K (.ref f24) = true)
    (a25 : PySem.W.nsIn K mainGlobals "row_size" = some (some (.ref f25))) (l25 : K.lookup f25 = some ⟨oc25, od25, .func (PySem.W.fnOf "row_size" "row_size" (defArgs s_row_size) (defBody s_row_size) (defScope s_row_size) .none kV25 dc25 pm25 an25 cd25 ct25), sl25⟩) (c25 : PySem.W.codeIn K cd25 "row_size" = true) (k25 : PySem.W.keepIn K (.ref f25) = true)
    (a26 : PySem.W.nsIn K mainGlobals "parted_row" = some (some (.ref f26))) (l26 : K.lookup f26 = some ⟨oc26, od26, .func (PySem.W.fnOf "parted_row" "parted_row" (defArgs s_parted_row) (defBody s_parted_row) (defScope s_parted_row) .none kV26 dc26 pm26 an26 cd26 ct26), sl26⟩) (c26 : PySem.W.codeIn K cd26 "parted_row" = true) (k26 : PySem.W.keepIn K (.ref f26) = true)
    (a27 : PySem.W.nsIn K mainGlobals "sorted_by_coming" = some (some (.ref f27))) (l27 : K.lookup f27 = some ⟨oc27, od27, .func (PySem.W.fnOf "sorted_by_coming" "sorted_by_coming" (defArgs s_sorted_by_coming) (defBody s_sorted_by_coming) (defScope s_sorted_by_coming) .none kV27 dc27 pm27 an27 cd27 ct27), sl27⟩) (c27 : PySem.W.codeIn K cd27 "sorted_by_coming" = true) (k27 : PySem.W.keepIn K (.ref f27) = true)
    (a28 : PySem.W.nsIn K mainGlobals "ranked" = some (some (.ref f28))) (l28 : K.lookup f28 = some ⟨oc28, od28, .func (PySem.W.fnOf "ranked" "ranked" (defArgs s_ranked) (defBody s_ranked) (defScope s_ranked) .none kV28 dc28 pm28 an28 cd28 ct28), sl28⟩) (c28 : PySem.W.codeIn K cd28 "ranked" = true) (k28 : PySem.W.keepIn K (.ref f28) = true)
    (a29 : PySem.W.nsIn K mainGlobals "pattern_of" = some (some (.ref f29))) (l29 : K.lookup f29 = some ⟨oc29, od29, .func (PySem.W.fnOf "pattern_of" "pattern_of" (defArgs s_pattern_of) (defBody s_pattern_of) (defScope s_pattern_of) .none kV29 dc29 pm29 an29 cd29 ct29), sl29⟩) (c29 : PySem.W.codeIn K cd29 "pattern_of" = true) (k29 : PySem.W.keepIn K (.ref f29) = true)
    (a30 : PySem.W.nsIn K mainGlobals "told_joined" = some (some (.ref f30))) (l30 : K.lookup f30 = some ⟨oc30, od30, .func (PySem.W.fnOf "told_joined" "told_joined" (defArgs s_told_joined) (defBody s_told_joined) (defScope s_told_joined) .none kV30 dc30 pm30 an30 cd30 ct30), sl30⟩) (c30 : PySem.W.codeIn K cd30 "told_joined" = true) (k30 : PySem.W.keepIn K (.ref f30) = true)
    (a31 : PySem.W.nsIn K mainGlobals "summed" = some (some (.ref f31))) (l31 : K.lookup f31 = some ⟨oc31, od31, .func (PySem.W.fnOf "summed" "summed" (defArgs s_summed) (defBody s_summed) (defScope s_summed) .none kV31 dc31 pm31 an31 cd31 ct31), sl31⟩) (c31 : PySem.W.codeIn K cd31 "summed" = true) (k31 : PySem.W.keepIn K (.ref f31) = true)
    (a32 : PySem.W.nsIn K mainGlobals "chosen" = some (some (.ref f32))) (l32 : K.lookup f32 = some ⟨oc32, od32, .func (PySem.W.fnOf "chosen" "chosen" (defArgs s_chosen) (defBody s_chosen) (defScope s_chosen) .none kV32 dc32 pm32 an32 cd32 ct32), sl32⟩) (c32 : PySem.W.codeIn K cd32 "chosen" = true) (k32 : PySem.W.keepIn K (.ref f32) = true)
    (a33 : PySem.W.nsIn K mainGlobals "tells" = some (some (.ref f33))) (l33 : K.lookup f33 = some ⟨oc33, od33, .func (PySem.W.fnOf "tells" "tells" (defArgs s_tells) (defBody s_tells) (defScope s_tells) .none kV33 dc33 pm33 an33 cd33 ct33), sl33⟩) (c33 : PySem.W.codeIn K cd33 "tells" = true) (k33 : PySem.W.keepIn K (.ref f33) = true)
    (a34 : PySem.W.nsIn K mainGlobals "marks_fit" = some (some (.ref f34))) (l34 : K.lookup f34 = some ⟨oc34, od34, .func (PySem.W.fnOf "marks_fit" "marks_fit" (defArgs s_marks_fit) (defBody s_marks_fit) (defScope s_marks_fit) .none kV34 dc34 pm34 an34 cd34 ct34), sl34⟩) (c34 : PySem.W.codeIn K cd34 "marks_fit" = true) (k34 : PySem.W.keepIn K (.ref f34) = true)
    (a35 : PySem.W.nsIn K mainGlobals "is_row" = some (some (.ref f35))) (l35 : K.lookup f35 = some ⟨oc35, od35, .func (PySem.W.fnOf "is_row" "is_row" (defArgs s_is_row) (defBody s_is_row) (defScope s_is_row) .none kV35 dc35 pm35 an35 cd35 ct35), sl35⟩) (c35 : PySem.W.codeIn K cd35 "is_row" = true) (k35 : PySem.W.keepIn K (.ref f35) = true)
    (a36 : PySem.W.nsIn K mainGlobals "_law_parts_right" = some (some (.ref f36))) (l36 : K.lookup f36 = some ⟨oc36, od36, .func (PySem.W.fnOf "_law_parts_right" "_law_parts_right" (defArgs s_law_parts_right) (defBody s_law_parts_right) (defScope s_law_parts_right) .none kV36 dc36 pm36 an36 cd36 ct36), sl36⟩) (c36 : PySem.W.codeIn K cd36 "_law_parts_right" = true) (k36 : PySem.W.keepIn K (.ref f36) = true)
    (a37 : PySem.W.nsIn K mainGlobals "_law_row" = some (some (.ref f37))) (l37 : K.lookup f37 = some ⟨oc37, od37, .func (PySem.W.fnOf "_law_row" "_law_row" (defArgs s_law_row) (defBody s_law_row) (defScope s_law_row) .none kV37 dc37 pm37 an37 cd37 ct37), sl37⟩) (c37 : PySem.W.codeIn K cd37 "_law_row" = true) (k37 : PySem.W.keepIn K (.ref f37) = true)
    (a38 : PySem.W.nsIn K mainGlobals "law" = some (some (.ref f38))) (l38 : K.lookup f38 = some ⟨oc38, od38, .func (PySem.W.fnOf "law" "law" (defArgs s_law) (defBody s_law) (defScope s_law) .none kV38 dc38 pm38 an38 cd38 ct38), sl38⟩) (c38 : PySem.W.codeIn K cd38 "law" = true) (k38 : PySem.W.keepIn K (.ref f38) = true)
    (zb_int : PySem.W.nsIn K mainGlobals "int" = some none)
    (zb_len : PySem.W.nsIn K mainGlobals "len" = some none)
    (zb_abs : PySem.W.nsIn K mainGlobals "abs" = some none)
    (zb_tuple : PySem.W.nsIn K mainGlobals "tuple" = some none)
    (zb_range : PySem.W.nsIn K mainGlobals "range" = some none)
    (zb_sorted : PySem.W.nsIn K mainGlobals "sorted" = some none)
    (zb_set : PySem.W.nsIn K mainGlobals "set" = some none)
    (zb_any : PySem.W.nsIn K mainGlobals "any" = some none)
    (zb_list : PySem.W.nsIn K mainGlobals "list" = some none)
    (zb_isinstance : PySem.W.nsIn K mainGlobals "isinstance" = some none)
    (zb_all : PySem.W.nsIn K mainGlobals "all" = some none)
    (zb_bool : PySem.W.nsIn K mainGlobals "bool" = some none)
    (zb_zip : PySem.W.nsIn K mainGlobals "zip" = some none)
    (zb_sum : PySem.W.nsIn K mainGlobals "sum" = some none)
    (zb_min : PySem.W.nsIn K mainGlobals "min" = some none)
    (zb_max : PySem.W.nsIn K mainGlobals "max" = some none)
    (zb_repr : PySem.W.nsIn K mainGlobals "repr" = some none)
    (y0_2l : K.lookup y0_2p = some ⟨.type "tuple", none, .seq #[(.str "both" y0_3t), (.str "ruled" y0_4t)] y0_2n, y0_2s⟩)
    (y0_1a : PySem.W.nsIn K mainGlobals "JOINED" = some (some (.ref y0_2p)))
    : ∃ fd : FuncData, (∀ (s : Shared) (u : Value), BindsTo s fd ⟨[u], []⟩ [("_law_script", u)]) ∧ ∀ base : Heap, K.In base → base.Ns mainGlobals mg → FnZ l.prog w K mg base 18 fa fd ["_law_script"] (spOf K ctLaw) := by
  have e := hfa.symm.trans (PySem.W.mg_of X G a38)
  cases e
  have F0 := fun_mk (st := s_law_pot) l0 c0 k0
  have b0 := F0.binds (ps := ["_law_script", "_law_k"]) fun _ _ _ _ _ _ us hl => match us, hl with | [_, _], _ => rfl
  have F1 := fun_mk (st := s_law_take) l1 c1 k1
  have b1 := F1.binds (ps := ["_law_pot_here", "_law_count"]) fun _ _ _ _ _ _ us hl => match us, hl with | [_, _], _ => rfl
  have F2 := fun_mk (st := s_law_of) l2 c2 k2
  have b2 := F2.binds (ps := ["_law_pot_here", "_law_some"]) fun _ _ _ _ _ _ us hl => match us, hl with | [_, _], _ => rfl
  have F3 := fun_mk (st := s_law_plain) l3 c3 k3
  have b3 := F3.binds (ps := ["_law_pot_here", "_law_room"]) fun _ _ _ _ _ _ us hl => match us, hl with | [_, _], _ => rfl
  have F4 := fun_mk (st := s_law_house) l4 c4 k4
  have b4 := F4.binds (ps := ["_law_pot_here", "_law_deep", "_law_room"]) fun _ _ _ _ _ _ us hl => match us, hl with | [_, _, _], _ => rfl
  have F5 := fun_mk (st := s_law_places) l5 c5 k5
  have b5 := F5.binds (ps := ["_law_pot_here", "_law_size"]) fun _ _ _ _ _ _ us hl => match us, hl with | [_, _], _ => rfl
  have F6 := fun_mk (st := s_law_lots) l6 c6 k6
  have b6 := F6.binds (ps := ["_law_lots_here"]) fun _ _ _ _ _ _ us hl => match us, hl with | [_], _ => rfl
  have F7 := fun_mk (st := s_law_below) l7 c7 k7
  have b7 := F7.binds (ps := ["_law_size", "_law_limit"]) fun _ _ _ _ _ _ us hl => match us, hl with | [_, _], _ => rfl
  have F8 := fun_mk (st := s_law_pattern) l8 c8 k8
  have b8 := F8.binds (ps := ["_law_word", "_law_things"]) fun _ _ _ _ _ _ us hl => match us, hl with | [_, _], _ => rfl
  have F9 := fun_mk (st := s_law_all) l9 c9 k9
  have b9 := F9.binds (ps := ["_law_ruler_here"]) fun _ _ _ _ _ _ us hl => match us, hl with | [_], _ => rfl
  have F10 := fun_mk (st := s_law_ruler) l10 c10 k10
  have b10 := F10.binds (ps := ["_law_house_here"]) fun _ _ _ _ _ _ us hl => match us, hl with | [_], _ => rfl
  have F11 := fun_mk (st := s_law_program) l11 c11 k11
  have b11 := F11.binds (ps := ["_law_pot_here", "_law_house_here"]) fun _ _ _ _ _ _ us hl => match us, hl with | [_, _], _ => rfl
  have F12 := fun_mk (st := s_tuples_below) l12 c12 k12
  have b12 := F12.binds (ps := ["size", "limit"]) fun _ _ _ _ _ _ us hl => match us, hl with | [_, _], _ => rfl
  have F13 := fun_mk (st := s_grown_by_sorts) l13 c13 k13
  have b13 := F13.binds (ps := ["some"]) fun _ _ _ _ _ _ us hl => match us, hl with | [_], _ => rfl
  have F14 := fun_mk (st := s_grown_by_ranks) l14 c14 k14
  have b14 := F14.binds (ps := ["some"]) fun _ _ _ _ _ _ us hl => match us, hl with | [_], _ => rfl
  have F15 := fun_mk (st := s_patterns) l15 c15 k15
  have b15 := F15.binds (ps := ["ruler"]) fun _ _ _ _ _ _ us hl => match us, hl with | [_], _ => rfl
  have F16 := fun_mk (st := s_is_joined_program) l16 c16 k16
  have b16 := F16.binds (ps := ["house", "thing"]) fun _ _ _ _ _ _ us hl => match us, hl with | [_, _], _ => rfl
  have F17 := fun_mk (st := s_is_whole) l17 c17 k17
  have b17 := F17.binds (ps := ["thing"]) fun _ _ _ _ _ _ us hl => match us, hl with | [_], _ => rfl
  have F18 := fun_mk (st := s_is_lot) l18 c18 k18
  have b18 := F18.binds (ps := ["thing", "size"]) fun _ _ _ _ _ _ us hl => match us, hl with | [_, _], _ => rfl
  have F19 := fun_mk (st := s_are_lots) l19 c19 k19
  have b19 := F19.binds (ps := ["thing", "size"]) fun _ _ _ _ _ _ us hl => match us, hl with | [_, _], _ => rfl
  have F20 := fun_mk (st := s_are_multiples) l20 c20 k20
  have b20 := F20.binds (ps := ["thing", "size", "limit"]) fun _ _ _ _ _ _ us hl => match us, hl with | [_, _, _], _ => rfl
  have F21 := fun_mk (st := s_are_choices) l21 c21 k21
  have b21 := F21.binds (ps := ["thing", "some"]) fun _ _ _ _ _ _ us hl => match us, hl with | [_, _], _ => rfl
  have F22 := fun_mk (st := s_ruler_of) l22 c22 k22
  have b22 := F22.binds (ps := ["house"]) fun _ _ _ _ _ _ us hl => match us, hl with | [_], _ => rfl
  have F23 := fun_mk (st := s_patterns_of) l23 c23 k23
  have b23 := F23.binds (ps := ["house"]) fun _ _ _ _ _ _ us hl => match us, hl with | [_], _ => rfl
  have F24 := fun_mk (st := s_is_program) l24 c24 k24
  have b24 := F24.binds (ps := ["house", "thing"]) fun _ _ _ _ _ _ us hl => match us, hl with | [_, _], _ => rfl
  have F25 := fun_mk (st := s_row_size) l25 c25 k25
  have b25 := F25.binds (ps := ["house"]) fun _ _ _ _ _ _ us hl => match us, hl with | [_], _ => rfl
  have F26 := fun_mk (st := s_parted_row) l26 c26 k26
  have b26 := F26.binds (ps := ["house", "row"]) fun _ _ _ _ _ _ us hl => match us, hl with | [_, _], _ => rfl
  have F27 := fun_mk (st := s_sorted_by_coming) l27 c27 k27
  have b27 := F27.binds (ps := ["things"]) fun _ _ _ _ _ _ us hl => match us, hl with | [_], _ => rfl
  have F28 := fun_mk (st := s_ranked) l28 c28 k28
  have b28 := F28.binds (ps := ["things"]) fun _ _ _ _ _ _ us hl => match us, hl with | [_], _ => rfl
  have F29 := fun_mk (st := s_pattern_of) l29 c29 k29
  have b29 := F29.binds (ps := ["ruler", "things"]) fun _ _ _ _ _ _ us hl => match us, hl with | [_, _], _ => rfl
  have F30 := fun_mk (st := s_told_joined) l30 c30 k30
  have b30 := F30.binds (ps := ["house", "program", "row"]) fun _ _ _ _ _ _ us hl => match us, hl with | [_, _, _], _ => rfl
  have F31 := fun_mk (st := s_summed) l31 c31 k31
  have b31 := F31.binds (ps := ["program", "row"]) fun _ _ _ _ _ _ us hl => match us, hl with | [_, _], _ => rfl
  have F32 := fun_mk (st := s_chosen) l32 c32 k32
  have b32 := F32.binds (ps := ["house", "program", "row"]) fun _ _ _ _ _ _ us hl => match us, hl with | [_, _, _], _ => rfl
  have F33 := fun_mk (st := s_tells) l33 c33 k33
  have b33 := F33.binds (ps := ["house", "program", "row"]) fun _ _ _ _ _ _ us hl => match us, hl with | [_, _, _], _ => rfl
  have F34 := fun_mk (st := s_marks_fit) l34 c34 k34
  have b34 := F34.binds (ps := ["house", "row"]) fun _ _ _ _ _ _ us hl => match us, hl with | [_, _], _ => rfl
  have F35 := fun_mk (st := s_is_row) l35 c35 k35
  have b35 := F35.binds (ps := ["house", "thing"]) fun _ _ _ _ _ _ us hl => match us, hl with | [_, _], _ => rfl
  have F36 := fun_mk (st := s_law_parts_right) l36 c36 k36
  have b36 := F36.binds (ps := ["_law_house_here", "_law_program_here", "_law_row_here"]) fun _ _ _ _ _ _ us hl => match us, hl with | [_, _, _], _ => rfl
  have F37 := fun_mk (st := s_law_row) l37 c37 k37
  have b37 := F37.binds (ps := ["_law_pot_here", "_law_house_here"]) fun _ _ _ _ _ _ us hl => match us, hl with | [_, _], _ => rfl
  have F38 := fun_mk (st := s_law) l38 c38 k38
  have b38 := F38.binds (ps := ["_law_script"]) fun _ _ _ _ _ _ us hl => match us, hl with | [_], _ => rfl
  refine ⟨PySem.W.fnOf "law" "law" (defArgs s_law) (defBody s_law) (defScope s_law) .none kV38 dc38 pm38 an38 cd38 ct38, fun s v => .of_eq rfl, fun base _ _ => ?_⟩
  have B : ∀ x, x ∈ bltsAll → mg x = none := fun x hx => by
    unfold bltsAll at hx
    simp only [List.mem_cons, List.not_mem_nil, or_false] at hx
    rcases hx with rfl | rfl | rfl | rfl | rfl | rfl | rfl | rfl | rfl | rfl | rfl | rfl | rfl | rfl | rfl | rfl | rfl
    · exact PySem.W.mg_none_of X G zb_int
    · exact PySem.W.mg_none_of X G zb_len
    · exact PySem.W.mg_none_of X G zb_abs
    · exact PySem.W.mg_none_of X G zb_tuple
    · exact PySem.W.mg_none_of X G zb_range
    · exact PySem.W.mg_none_of X G zb_sorted
    · exact PySem.W.mg_none_of X G zb_set
    · exact PySem.W.mg_none_of X G zb_any
    · exact PySem.W.mg_none_of X G zb_list
    · exact PySem.W.mg_none_of X G zb_isinstance
    · exact PySem.W.mg_none_of X G zb_all
    · exact PySem.W.mg_none_of X G zb_bool
    · exact PySem.W.mg_none_of X G zb_zip
    · exact PySem.W.mg_none_of X G zb_sum
    · exact PySem.W.mg_none_of X G zb_min
    · exact PySem.W.mg_none_of X G zb_max
    · exact PySem.W.mg_none_of X G zb_repr
  have T : Tp ⟨l.prog, w, K, mg, base, 0⟩ := ⟨B,
    ⟨_, _, PySem.W.mg_of X G y0_1a, (show RelV (.ref y0_2p) (.ref y0_2p) from rfl), (.tup (.inr ⟨_, _, _, y0_2l, rfl, rfl, rfl, (by rw [PySem.sizeLine_eq]; show 2 ≤ _; decide), (.cons (show RelV (.str "both") (.str "both" y0_3t) from ⟨_, rfl⟩) (.cons (show RelV (.str "ruled") (.str "ruled" y0_4t) from ⟨_, rfl⟩) .nil))⟩) (.cons (.str "both") (.cons (.str "ruled") .nil)))⟩,
    ⟨_, _, F0, PySem.W.mg_of X G a0, b0, fun p hp => nomatch hp⟩,
    ⟨_, _, F1, PySem.W.mg_of X G a1, b1, fun p hp => nomatch hp⟩,
    ⟨_, _, F2, PySem.W.mg_of X G a2, b2, fun p hp => nomatch hp⟩,
    ⟨_, _, F3, PySem.W.mg_of X G a3, b3, fun p hp => nomatch hp⟩,
    ⟨_, _, F4, PySem.W.mg_of X G a4, b4, fun p hp => nomatch hp⟩,
    ⟨_, _, F5, PySem.W.mg_of X G a5, b5, fun p hp => nomatch hp⟩,
    ⟨_, _, F6, PySem.W.mg_of X G a6, b6, fun p hp => nomatch hp⟩,
    ⟨_, _, F7, PySem.W.mg_of X G a7, b7, fun p hp => nomatch hp⟩,
    ⟨_, _, F8, PySem.W.mg_of X G a8, b8, fun p hp => nomatch hp⟩,
    ⟨_, _, F9, PySem.W.mg_of X G a9, b9, fun p hp => nomatch hp⟩,
    ⟨_, _, F10, PySem.W.mg_of X G a10, b10, fun p hp => nomatch hp⟩,
    ⟨_, _, F11, PySem.W.mg_of X G a11, b11, fun p hp => nomatch hp⟩,
    ⟨_, _, F12, PySem.W.mg_of X G a12, b12, fun p hp => nomatch hp⟩,
    ⟨_, _, F13, PySem.W.mg_of X G a13, b13, fun p hp => nomatch hp⟩,
    ⟨_, _, F14, PySem.W.mg_of X G a14, b14, fun p hp => nomatch hp⟩,
    ⟨_, _, F15, PySem.W.mg_of X G a15, b15, fun p hp => nomatch hp⟩,
    ⟨_, _, F16, PySem.W.mg_of X G a16, b16, fun p hp => nomatch hp⟩,
    ⟨_, _, F17, PySem.W.mg_of X G a17, b17, fun p hp => nomatch hp⟩,
    ⟨_, _, F18, PySem.W.mg_of X G a18, b18, fun p hp => nomatch hp⟩,
    ⟨_, _, F19, PySem.W.mg_of X G a19, b19, fun p hp => nomatch hp⟩,
    ⟨_, _, F20, PySem.W.mg_of X G a20, b20, fun p hp => nomatch hp⟩,
    ⟨_, _, F21, PySem.W.mg_of X G a21, b21, fun p hp => nomatch hp⟩,
    ⟨_, _, F22, PySem.W.mg_of X G a22, b22, fun p hp => nomatch hp⟩,
    ⟨_, _, F23, PySem.W.mg_of X G a23, b23, fun p hp => nomatch hp⟩,
    ⟨_, _, F24, PySem.W.mg_of X G a24, b24, fun p hp => nomatch hp⟩,
    ⟨_, _, F25, PySem.W.mg_of X G a25, b25, fun p hp => nomatch hp⟩,
    ⟨_, _, F26, PySem.W.mg_of X G a26, b26, fun p hp => nomatch hp⟩,
    ⟨_, _, F27, PySem.W.mg_of X G a27, b27, fun p hp => nomatch hp⟩,
    ⟨_, _, F28, PySem.W.mg_of X G a28, b28, fun p hp => nomatch hp⟩,
    ⟨_, _, F29, PySem.W.mg_of X G a29, b29, fun p hp => nomatch hp⟩,
    ⟨_, _, F30, PySem.W.mg_of X G a30, b30, fun p hp => nomatch hp⟩,
    ⟨_, _, F31, PySem.W.mg_of X G a31, b31, fun p hp => nomatch hp⟩,
    ⟨_, _, F32, PySem.W.mg_of X G a32, b32, fun p hp => nomatch hp⟩,
    ⟨_, _, F33, PySem.W.mg_of X G a33, b33, fun p hp => nomatch hp⟩,
    ⟨_, _, F34, PySem.W.mg_of X G a34, b34, fun p hp => nomatch hp⟩,
    ⟨_, _, F35, PySem.W.mg_of X G a35, b35, fun p hp => nomatch hp⟩,
    ⟨_, _, F36, PySem.W.mg_of X G a36, b36, fun p hp => nomatch hp⟩,
    ⟨_, _, F37, PySem.W.mg_of X G a37, b37, fun p hp => nomatch hp⟩,
    ⟨_, _, F38, PySem.W.mg_of X G a38, b38, fun p hp => nomatch hp⟩⟩
  exact fnz_law T ⟨F38, PySem.W.mg_of X G a38, b38, fun p hp => nomatch hp⟩
end K05
/-! T05 -/
open PySem PySem.W PyProof.Rows
set_option maxRecDepth 100000 in
set_option maxHeartbeats 0 in
theorem PySem.Challenge.cw_trytwins_k05_whole_joined_by_parts_holds : PySem.Challenge.rw_trytwins_k05_whole_joined_by_parts.Holds := by
  w_on; o_law; k_head; (case hw => w_witness2)
  k_fill
  refine Z.walk_z (l := PySem.Challenge.rw_trytwins_k05_whole_joined_by_parts) (k := 18) (n := 63) (x := "_law_script") (ct := K05.ctLaw) rfl (by decide) rfl ⟨rfl, by decide, by decide⟩ (fun w h Y => PySem.W.kIn_of Y) ?F ?hct
  case hct => exact fun ns hn => K05.law_ct hn
  case F =>
    intro w mg fa h KX G hmg
    refine' K05.all_mk KX G hmg (a0 := ?a0) (l0 := ?l0) (c0 := ?c0) (k0 := ?k0) (a1 := ?a1) (l1 := ?l1) (c1 := ?c1) (k1 := ?k1) (a2 := ?a2) (l2 := ?l2) (c2 := ?c2) (k2 := ?k2) (a3 := ?a3) (l3 := ?l3) (c3 := ?c3) (k3 := ?k3) (a4 := ?a4) (l4 := ?l4) (c4 := ?c4) (k4 := ?k4) (a5 := ?a5) (l5 := ?l5) (c5 := ?c5) (k5 := ?k5) (a6 := ?a6) (l6 := ?l6) (c6 := ?c6) (k6 := ?k6) (a7 := ?a7) (l7 := ?l7) (c7 := ?c7) (k7 := ?k7) (a8 := ?a8) (l8 := ?l8) (c8 := ?c8) (k8 := ?k8) (a9 := ?a9) (l9 := ?l9) (c9 := ?c9) (k9 := ?k9) (a10 := ?a10) (l10 := ?l10) (c10 := ?c10) (k10 := ?k10) (a11 := ?a11) (l11 := ?l11) (c11 := ?c11) (k11 := ?k11) (a12 := ?a12) (l12 := ?l12) (c12 := ?c12) (k12 := ?k12) (a13 := ?a13) (l13 := ?l13) (c13 := ?c13) (k13 := ?k13) (a14 := ?a14) (l14 := ?l14) (c14 := ?c14) (k14 := ?k14) (a15 := ?a15) (l15 := ?l15) (c15 := ?c15) (k15 := ?k15) (a16 := ?a16) (l16 := ?l16) (c16 := ?c16) (k16 := ?k16) (a17 := ?a17) (l17 := ?l17) (c17 := ?c17) (k17 := ?k17) (a18 := ?a18) (l18 := ?l18) (c18 := ?c18) (k18 := ?k18) (a19 := ?a19) (l19 := ?l19) (c19 := ?c19) (k19 := ?k19) (a20 := ?a20) (l20 := ?l20) (c20 := ?c20) (k20 := ?k20) (a21 := ?a21) (l21 := ?l21) (c21 := ?c21) (k21 := ?k21) (a22 := ?a22) (l22 := ?l22) (c22 := ?c22) (k22 := ?k22) (a23 := ?a23) (l23 := ?l23) (c23 := ?c23) (k23 := ?k23) (a24 := ?a24) (l24 := ?l24) (c24 := ?c24) (k24 := ?k24) (a25 := ?a25) (l25 := ?l25) (c25 := ?c25) (k25 := ?k25) (a26 := ?a26) (l26 := ?l26) (c26 := ?c26) (k26 := ?k26) (a27 := ?a27) (l27 := ?l27) (c27 := ?c27) (k27 := ?k27) (a28 := ?a28) (l28 := ?l28) (c28 := ?c28) (k28 := ?k28) (a29 := ?a29) (l29 := ?l29) (c29 := ?c29) (k29 := ?k29) (a30 := ?a30) (l30 := ?l30) (c30 := ?c30) (k30 := ?k30) (a31 := ?a31) (l31 := ?l31) (c31 := ?c31) (k31 := ?k31) (a32 := ?a32) (l32 := ?l32) (c32 := ?c32) (k32 := ?k32) (a33 := ?a33) (l33 := ?l33) (c33 := ?c33) (k33 := ?k33) (a34 := ?a34) (l34 := ?l34) (c34 := ?c34) (k34 := ?k34) (a35 := ?a35) (l35 := ?l35) (c35 := ?c35) (k35 := ?k35) (a36 := ?a36) (l36 := ?l36) (c36 := ?c36) (k36 := ?k36) (a37 := ?a37) (l37 := ?l37) (c37 := ?c37) (k37 := ?k37) (a38 := ?a38) (l38 := ?l38) (c38 := ?c38) (k38 := ?k38) (zb_int := ?zb_int) (zb_len := ?zb_len) (zb_abs := ?zb_abs) (zb_tuple := ?zb_tuple) (zb_range := ?zb_range) (zb_sorted := ?zb_sorted) (zb_set := ?zb_set) (zb_any := ?zb_any) (zb_list := ?zb_list) (zb_isinstance := ?zb_isinstance) (zb_all := ?zb_all) (zb_bool := ?zb_bool) (zb_zip := ?zb_zip) (zb_sum := ?zb_sum) (zb_min := ?zb_min) (zb_max := ?zb_max) (zb_repr := ?zb_repr) (y0_1a := ?y0_1a) (y0_2l := ?y0_2l)
    (case a0 => k_is)
    (case l0 => k_is)
    (case c0 => k_is)
    (case k0 => k_is)
    (case a1 => k_is)
    (case l1 => k_is)
    (case c1 => k_is)
    (case k1 => k_is)
    (case a2 => k_is)
    (case l2 => k_is)
    (case c2 => k_is)
    (case k2 => k_is)
    (case a3 => k_is)
    (case l3 => k_is)
    (case c3 => k_is)
    (case k3 => k_is)
    (case a4 => k_is)
    (case l4 => k_is)
    (case c4 => k_is)
    (case k4 => k_is)
    (case a5 => k_is)
    (case l5 => k_is)
    (case c5 => k_is)
    (case k5 => k_is)
    (case a6 => k_is)
    (case l6 => k_is)
    (case c6 => k_is)
    (case k6 => k_is)
    (case a7 => k_is)
    (case l7 => k_is)
    (case c7 => k_is)
    (case k7 => k_is)
    (case a8 => k_is)
    (case l8 => k_is)
    (case c8 => k_is)
    (case k8 => k_is)
    (case a9 => k_is)
    (case l9 => k_is)
    (case c9 => k_is)
    (case k9 => k_is)
    (case a10 => k_is)
    (case l10 => k_is)
    (case c10 => k_is)
    (case k10 => k_is)
    (case a11 => k_is)
    (case l11 => k_is)
    (case c11 => k_is)
    (case k11 => k_is)
    (case a12 => k_is)
    (case l12 => k_is)
    (case c12 => k_is)
    (case k12 => k_is)
    (case a13 => k_is)
    (case l13 => k_is)
    (case c13 => k_is)
    (case k13 => k_is)
    (case a14 => k_is)
    (case l14 => k_is)
    (case c14 => k_is)
    (case k14 => k_is)
    (case a15 => k_is)
    (case l15 => k_is)
    (case c15 => k_is)
    (case k15 => k_is)
    (case a16 => k_is)
    (case l16 => k_is)
    (case c16 => k_is)
    (case k16 => k_is)
    (case a17 => k_is)
    (case l17 => k_is)
    (case c17 => k_is)
    (case k17 => k_is)
    (case a18 => k_is)
    (case l18 => k_is)
    (case c18 => k_is)
    (case k18 => k_is)
    (case a19 => k_is)
    (case l19 => k_is)
    (case c19 => k_is)
    (case k19 => k_is)
    (case a20 => k_is)
    (case l20 => k_is)
    (case c20 => k_is)
    (case k20 => k_is)
    (case a21 => k_is)
    (case l21 => k_is)
    (case c21 => k_is)
    (case k21 => k_is)
    (case a22 => k_is)
    (case l22 => k_is)
    (case c22 => k_is)
    (case k22 => k_is)
    (case a23 => k_is)
    (case l23 => k_is)
    (case c23 => k_is)
    (case k23 => k_is)
    (case a24 => k_is)
    (case l24 => k_is)
    (case c24 => k_is)
    (case k24 => k_is)
    (case a25 => k_is)
    (case l25 => k_is)
    (case c25 => k_is)
    (case k25 => k_is)
    (case a26 => k_is)
    (case l26 => k_is)
    (case c26 => k_is)
    (case k26 => k_is)
    (case a27 => k_is)
    (case l27 => k_is)
    (case c27 => k_is)
    (case k27 => k_is)
    (case a28 => k_is)
    (case l28 => k_is)
    (case c28 => k_is)
    (case k28 => k_is)
    (case a29 => k_is)
    (case l29 => k_is)
    (case c29 => k_is)
    (case k29 => k_is)
    (case a30 => k_is)
    (case l30 => k_is)
    (case c30 => k_is)
    (case k30 => k_is)
    (case a31 => k_is)
    (case l31 => k_is)
    (case c31 => k_is)
    (case k31 => k_is)
    (case a32 => k_is)
    (case l32 => k_is)
    (case c32 => k_is)
    (case k32 => k_is)
    (case a33 => k_is)
    (case l33 => k_is)
    (case c33 => k_is)
    (case k33 => k_is)
    (case a34 => k_is)
    (case l34 => k_is)
    (case c34 => k_is)
    (case k34 => k_is)
    (case a35 => k_is)
    (case l35 => k_is)
    (case c35 => k_is)
    (case k35 => k_is)
    (case a36 => k_is)
    (case l36 => k_is)
    (case c36 => k_is)
    (case k36 => k_is)
    (case a37 => k_is)
    (case l37 => k_is)
    (case c37 => k_is)
    (case k37 => k_is)
    (case a38 => k_is)
    (case l38 => k_is)
    (case c38 => k_is)
    (case k38 => k_is)
    (case zb_int => k_is)
    (case zb_len => k_is)
    (case zb_abs => k_is)
    (case zb_tuple => k_is)
    (case zb_range => k_is)
    (case zb_sorted => k_is)
    (case zb_set => k_is)
    (case zb_any => k_is)
    (case zb_list => k_is)
    (case zb_isinstance => k_is)
    (case zb_all => k_is)
    (case zb_bool => k_is)
    (case zb_zip => k_is)
    (case zb_sum => k_is)
    (case zb_min => k_is)
    (case zb_max => k_is)
    (case zb_repr => k_is)
    (case y0_1a => k_is)
    (case y0_2l => k_is)
