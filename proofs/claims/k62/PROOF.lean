import PyProof.Rows.All
import Wide.All
import OpenK.AllK
import Wide.FinOn
import HandS.ForMost
import HandS.IsInst
import HandS.TupAny
import HandS.TupLe
import HandS.SortOrd
import HandS.SortRule
import HandS.DictComp
import HandS.More
import HandS.Strs
import HandS.SetFor
import HandS.Lambda
import HandS.EndTab
import HandS.CallLocal
import HandS.Deep
import HandS.Walk
import KE.KTupSum
import HandS.Evl
import KE.GoesEnum
import KE.SortData
import KE.DataCmp
import HandS.Nested
import HandS.Head0
import HandS.Head1
import HandS.Head2
import HandS.HeadEnd
import HandS.HeadHook1
import HandS.HeadHook2
import HandS.HeadHook3
import HandS.HeadHook4
import HandS.HeadWalk
import KE.KStateDown
import PySem.Challenge.RW_lateedges_k62_whole_closest_rows
set_option Elab.async false
set_option linter.all false
set_option maxRecDepth 100000
set_option maxHeartbeats 2400000
-- Lay1
/-! Lay1: readings told over plain data. -/
namespace Dl
open PySem L2

/-! ### data -/
inductive D where
  | non | bl (b : Bool) | int (i : Int) | str (x : Str) | tup (ds : List D) | obj (F : Addr → HO) | opq
/-- what never changes: a tuple, a thing told by its object -/
def solid : HO → Bool
  | .tup _ => true
  | .ext _ => true
  | _ => false
mutual
inductive Dv (H : Hp) : V → D → Prop
  | non : Dv H .non .non
  | bl (b : Bool) : Dv H (.bl b) (.bl b)
  | int (i : Int) : Dv H (.int i) (.int i)
  | str (x : Str) : Dv H (.str x) (.str x)
  | tup {a : Addr} {vs : List V} {ds : List D} : H a = some (.tup vs) → DvA H vs ds → Dv H (.ref a) (.tup ds)
  | obj {a : Addr} {F : Addr → HO} : H a = some (F a) → solid (F a) = true → Dv H (.ref a) (.obj F)
  | opq (v : V) : Dv H v .opq
inductive DvA (H : Hp) : List V → List D → Prop
  | nil : DvA H [] []
  | cons {v : V} {vs : List V} {d : D} {ds : List D} : Dv H v d → DvA H vs ds → DvA H (v :: vs) (d :: ds)
end
/-- tuples stay -/
def TEx (H H' : Hp) : Prop := ∀ a o, H a = some o → solid o = true → H' a = some o
theorem TEx.refl (H : Hp) : TEx H H := fun _ _ h _ => h
theorem TEx.trans {H H1 H2 : Hp} (a : TEx H H1) (b : TEx H1 H2) : TEx H H2 := fun x o h z => b x o (a x o h z) z
mutual
theorem Dv.mono {H H' : Hp} (e : TEx H H') : ∀ (d : D) (v : V), Dv H v d → Dv H' v d
  | .non, _, .non => .non
  | .bl b, _, .bl _ => .bl b
  | .int i, _, .int _ => .int i
  | .str x, _, .str _ => .str x
  | .tup ds, _, .tup h r => .tup (e _ _ h rfl) (DvA.mono e ds _ r)
  | .obj F, _, .obj h z => .obj (e _ _ h z) z
  | .opq, v, .opq _ => .opq v
theorem DvA.mono {H H' : Hp} (e : TEx H H') : ∀ (ds : List D) (vs : List V), DvA H vs ds → DvA H' vs ds
  | [], _, .nil => .nil
  | d :: ds, _, .cons h r => .cons (Dv.mono e d _ h) (DvA.mono e ds _ r)
end
theorem DvA.length {H : Hp} : ∀ {vs : List V} {ds : List D}, DvA H vs ds → vs.length = ds.length
  | _, _, .nil => rfl
  | _, _, .cons _ r => by rw [List.length_cons, List.length_cons, DvA.length r]
theorem DvA.get {H : Hp} : ∀ {vs : List V} {ds : List D} {i : Nat} {d : D}, DvA H vs ds → ds[i]? = some d → ∃ v, vs[i]? = some v ∧ Dv H v d
  | _, _, i, d, .nil, e => by simp at e
  | _, _, 0, d, .cons h _, e => by
    simp at e
    subst e
    exact ⟨_, rfl, h⟩
  | _, _, i + 1, d, .cons _ r, e => by
    obtain ⟨v, h1, h2⟩ := DvA.get (i := i) r (by simpa using e)
    exact ⟨v, by simpa using h1, h2⟩
theorem DvA.getv {H : Hp} : ∀ {vs : List V} {ds : List D} {i : Nat} {v : V}, DvA H vs ds → vs[i]? = some v → ∃ d, ds[i]? = some d ∧ Dv H v d
  | _, _, i, d, .nil, e => by simp at e
  | _, _, 0, d, .cons h _, e => by
    simp at e
    subst e
    exact ⟨_, rfl, h⟩
  | _, _, i + 1, d, .cons _ r, e => by
    obtain ⟨v, h1, h2⟩ := DvA.getv (i := i) r (by simpa using e)
    exact ⟨v, by simpa using h1, h2⟩
theorem DvA.append {H : Hp} : ∀ {vs ws : List V} {ds es : List D}, DvA H vs ds → DvA H ws es → DvA H (vs ++ ws) (ds ++ es)
  | _, _, _, _, .nil, s => s
  | _, _, _, _, .cons h r, s => .cons h (DvA.append r s)
theorem DvA.drop {H : Hp} : ∀ {vs : List V} {ds : List D} (n : Nat), DvA H vs ds → DvA H (vs.drop n) (ds.drop n)
  | _, _, 0, r => r
  | _, _, _ + 1, .nil => .nil
  | _, _, n + 1, .cons _ r => DvA.drop n r
theorem DvA.take {H : Hp} : ∀ {vs : List V} {ds : List D} (n : Nat), DvA H vs ds → DvA H (vs.take n) (ds.take n)
  | _, _, 0, _ => .nil
  | _, _, _ + 1, .nil => .nil
  | _, _, n + 1, .cons h r => .cons h (DvA.take n r)
theorem DvA.set {H : Hp} {v : V} {d : D} (h : Dv H v d) : ∀ {vs : List V} {ds : List D} (n : Nat), DvA H vs ds → DvA H (vs.set n v) (ds.set n d)
  | _, _, _, .nil => .nil
  | _, _, 0, .cons _ r => .cons h r
  | _, _, n + 1, .cons q r => .cons q (DvA.set h n r)
theorem DvA.dropLast {H : Hp} {vs : List V} {ds : List D} (h : DvA H vs ds) : DvA H vs.dropLast ds.dropLast := by
  rw [List.dropLast_eq_take, List.dropLast_eq_take, h.length]
  exact h.take _
theorem DvA.ints {H : Hp} : ∀ {ns : List Int} {vs : List V}, DvA H vs (ns.map D.int) → vs = ns.map V.int
  | [], _, .nil => rfl
  | n :: ns, _, .cons h r => by
    cases h
    rw [List.map_cons, DvA.ints r]
theorem DvA.of_ints {H : Hp} : ∀ (ns : List Int), DvA H (ns.map V.int) (ns.map D.int)
  | [] => .nil
  | n :: ns => .cons (.int n) (DvA.of_ints ns)
theorem DvA.bls {H : Hp} : ∀ {ns : List Bool} {vs : List V}, DvA H vs (ns.map D.bl) → vs = ns.map V.bl
  | [], _, .nil => rfl
  | n :: ns, _, .cons h r => by
    cases h
    rw [List.map_cons, DvA.bls r]

/-! ### what a slot holds -/
inductive Rep where
  | d (x : D) | own (ds : List D) | ro (ds : List D) | dct (kvs : List (Key × D)) | tape | any
def Rep.isOwn : Rep → Bool
  | .own _ => true
  | .dct _ => true
  | _ => false
def Rep.lk : Rep → Bool
  | .own _ => true
  | .dct _ => true
  | .ro _ => true
  | _ => false
abbrev Rho := List (Option Rep)
/-- the tables of code objects; the tape and the script's copy in it -/
structure Lay where
  T : List (Addr × Str)
  tp : Option (Addr × Addr)
def Lay.resv (L : Lay) (b : Addr) : Prop := ∃ q, L.tp = some q ∧ (b = q.1 ∨ b = q.2)
/-- the tape at p, the script's copy at a -/
def TapeOk (H : Hp) (q : Addr × Addr) : Prop := ∃ (ns : List Int) (pos : Nat) (rest mx cnt : Int),
  H q.1 = some (.lst [.ref q.2, .int (pos : Int), .int rest, .int mx, .int cnt]) ∧ H q.2 = some (.lst (ns.map V.int)) ∧ pos ≤ ns.length ∧ 0 ≤ rest ∧ 0 ≤ mx ∧ mx < 2147483647 ∧ ns.length ≤ 63
structure Good (L : Lay) (H : Hp) : Prop where
  tb : LamX.Tabs L.T H
  tape : ∀ q, L.tp = some q → TapeOk H q
structure Step (L : Lay) (H H' : Hp) : Prop where
  keep : ∀ b o, H b = some o → (∀ ps, o ≠ .tbl ps) → (∀ q, L.tp = some q → b ≠ q.1) → H' b = some o
  free : ∀ b, H' b = none → H b = none
theorem Step.refl {L : Lay} (H : Hp) : Step L H H := ⟨fun _ _ h _ _ => h, fun _ h => h⟩
theorem Step.trans {L : Lay} {H H1 H2 : Hp} (a : Step L H H1) (b : Step L H1 H2) : Step L H H2 :=
  ⟨fun x o h n t => b.keep x o (a.keep x o h n t) n t, fun x h => a.free x (b.free x h)⟩
theorem Step.tex {L : Lay} {H H' : Hp} (e : Step L H H') (g : Good L H) : TEx H H' := fun a o h so => by
  refine e.keep a _ h (fun ps z => by rw [z] at so; cases so) fun q hq z => ?_
  obtain ⟨_, _, _, _, _, h1, _⟩ := g.tape q hq
  rw [z, h1] at h
  cases h
  cases so
/-- a new object -/
theorem Step.new {L : Lay} {H : Hp} {p : Addr} {o : HO} (h : H p = none) : Step L H (upd H p o) := by
  refine ⟨fun b u e _ _ => ?_, fun b e => ?_⟩
  · rw [upd_ne (ne_of_none e h)]
    exact e
  · by_cases hb : b = p
    · rw [hb]; exact h
    · rw [upd_ne hb] at e; exact e
/-- all stays -/
theorem Step.of {L : Lay} {H H' : Hp} (e : ∀ b o, H b = some o → H' b = some o) : Step L H H' := by
  refine ⟨fun b u h _ _ => e b u h, fun b h => ?_⟩
  cases q : H b with
  | none => rfl
  | some o =>
    rw [e b o q] at h
    cases h
theorem Good.ext {L : Lay} {H H' : Hp} (g : Good L H) (e : ∀ b o, H b = some o → H' b = some o) : Good L H' := by
  refine ⟨g.tb.ext e, fun q hq => ?_⟩
  obtain ⟨ns, pos, rest, mx, cnt, h1, h2, h3⟩ := g.tape q hq
  exact ⟨ns, pos, rest, mx, cnt, e _ _ h1, e _ _ h2, h3⟩
theorem ext_new {H : Hp} {p : Addr} {o : HO} (h : H p = none) : ∀ b u, H b = some u → upd H p o b = some u := fun b u e => by
  rw [upd_ne (ne_of_none e h)]
  exact e
theorem Good.new {L : Lay} {H : Hp} {p : Addr} {o : HO} (g : Good L H) (h : H p = none) : Good L (upd H p o) := g.ext (ext_new h)
theorem Good.free {L : Lay} {H : Hp} {p : Addr} (g : Good L H) (h : H p = none) : ¬ L.resv p := by
  rintro ⟨q, hq, e⟩
  obtain ⟨ns, pos, rest, mx, cnt, h1, h2, h3⟩ := g.tape q hq
  rcases e with e | e
  · rw [e, h1] at h; cases h
  · rw [e, h2] at h; cases h
/-- a list (no tape, no script) or a dict of its own is written -/
theorem Good.write {L : Lay} {H : Hp} {p : Addr} {o u : HO} (g : Good L H) (h : H p = some u) (hu : (∃ xs, u = .lst xs) ∨ ∃ kvs, u = .dK kvs) (hr : ¬ L.resv p) : Good L (upd H p o) := by
  refine ⟨fun q hq => ?_, fun q hq => ?_⟩
  · obtain ⟨ps, h1, h2, h3⟩ := g.tb q hq
    have n1 : q.1 ≠ p := fun z => by
      rw [z, h] at h1
      rcases hu with ⟨xs, rfl⟩ | ⟨xs, rfl⟩ <;> cases h1
    refine ⟨ps, by rw [upd_ne n1]; exact h1, h2, fun pos cv hc => ?_⟩
    obtain ⟨c, e1, e2⟩ := h3 _ _ hc
    refine ⟨c, e1, ?_⟩
    have n2 : c ≠ p := fun z => by
      rw [z, h] at e2
      unfold LamX.CodeO at e2
      rcases hu with ⟨xs, rfl⟩ | ⟨xs, rfl⟩ <;> cases e2
    rw [upd_ne n2]
    exact e2
  · obtain ⟨ns, pos, rest, mx, cnt, h1, h2, h3⟩ := g.tape q hq
    have n1 : q.1 ≠ p := fun z => hr ⟨q, hq, .inl z.symm⟩
    have n2 : q.2 ≠ p := fun z => hr ⟨q, hq, .inr z.symm⟩
    exact ⟨ns, pos, rest, mx, cnt, by rw [upd_ne n1]; exact h1, by rw [upd_ne n2]; exact h2, h3⟩

def KD (H : Hp) : List (Key × V) → List (Key × D) → Prop := Paired fun p q => p.1 = q.1 ∧ Dv H p.2 q.2
def RV (L : Lay) (H0 H : Hp) (v : V) : Rep → Prop
  | .d x => Dv H v x
  | .own ds => ∃ p vs, v = .ref p ∧ H0 p = none ∧ ¬ L.resv p ∧ H p = some (.lst vs) ∧ DvA H vs ds
  | .ro ds => ∃ p vs, v = .ref p ∧ (∀ q, L.tp = some q → p ≠ q.1) ∧ H p = some (.lst vs) ∧ DvA H vs ds
  | .dct kvs => ∃ p vs, v = .ref p ∧ H0 p = none ∧ ¬ L.resv p ∧ H p = some (.dK vs) ∧ KD H vs kvs
  | .tape => ∃ q, L.tp = some q ∧ v = .ref q.1
  | .any => True
theorem nolst {xs : List V} : ∀ ps, HO.lst xs ≠ .tbl ps := fun ps z => by cases z
theorem nodk {xs : List (Key × V)} : ∀ ps, HO.dK xs ≠ .tbl ps := fun ps z => by cases z
theorem KD.mono {H H' : Hp} (e : TEx H H') {vs : List (Key × V)} {kvs : List (Key × D)} (h : KD H vs kvs) : KD H' vs kvs :=
  Paired.mapP h fun a b ⟨h1, h2⟩ => ⟨h1, Dv.mono e _ _ h2⟩
theorem RV.mono {L : Lay} {H0 H H' : Hp} {v : V} {r : Rep} (e : Step L H H') (g : Good L H) (h : RV L H0 H v r) : RV L H0 H' v r := by
  have t := e.tex g
  cases r with
  | d x => exact Dv.mono t _ _ h
  | own ds =>
    obtain ⟨p, vs, h1, h2, h3, h4, h5⟩ := h
    exact ⟨p, vs, h1, h2, h3, e.keep _ _ h4 nolst (fun q hq z => h3 ⟨q, hq, .inl z⟩), DvA.mono t _ _ h5⟩
  | ro ds =>
    obtain ⟨p, vs, h1, h2, h4, h5⟩ := h
    exact ⟨p, vs, h1, h2, e.keep _ _ h4 nolst h2, DvA.mono t _ _ h5⟩
  | dct kvs =>
    obtain ⟨p, vs, h1, h2, h3, h4, h5⟩ := h
    exact ⟨p, vs, h1, h2, h3, e.keep _ _ h4 nodk (fun q hq z => h3 ⟨q, hq, .inl z⟩), KD.mono t h5⟩
  | tape => exact h
  | any => trivial
/-- told from an earlier heap -/
theorem RV.base {L : Lay} {H0 H1 H : Hp} {v : V} {r : Rep} (e : Step L H0 H1) (h : RV L H1 H v r) : RV L H0 H v r := by
  cases r with
  | d x => exact h
  | own ds =>
    obtain ⟨p, vs, h1, h2, h3, h4, h5⟩ := h
    exact ⟨p, vs, h1, e.free _ h2, h3, h4, h5⟩
  | ro ds => exact h
  | dct kvs =>
    obtain ⟨p, vs, h1, h2, h3, h4, h5⟩ := h
    exact ⟨p, vs, h1, e.free _ h2, h3, h4, h5⟩
  | tape => exact h
  | any => trivial
/-- lists that are walked, with what they hold; heaps whose tuples stay -/
structure Gs where
  ls : List (Addr × List V)
  hs : List Hp
structure En (L : Lay) (gs : Gs) (H0 H : Hp) (σ : St) (ρ : Rho) : Prop where
  st : Step L H0 H
  good : Good L H
  len : σ.length = ρ.length
  slot : ∀ (i : Nat) r, ρ[i]? = some (some r) → ∃ v, σ[i]? = some (some v) ∧ RV L H0 H v r
  sep : ∀ (i j : Nat) p r r', ρ[i]? = some (some r) → r.isOwn = true → σ[i]? = some (some (.ref p)) → ρ[j]? = some (some r') → r'.lk = true → σ[j]? = some (some (.ref p)) → i = j
  gd : ∀ q ∈ gs.ls, H q.1 = some (.lst q.2) ∧ (∀ z, L.tp = some z → q.1 ≠ z.1) ∧ ∀ (i : Nat) r, ρ[i]? = some (some r) → r.isOwn = true → σ[i]? ≠ some (some (.ref q.1))
  tx : ∀ h ∈ gs.hs, TEx h H
theorem En.step {L : Lay} {gs : Gs} {H0 H H' : Hp} {σ : St} {ρ : Rho} (E : En L gs H0 H σ ρ) (e : Step L H H') (g : Good L H') : En L gs H0 H' σ ρ :=
  ⟨E.st.trans e, g, E.len, fun i r h => let ⟨v, h1, h2⟩ := E.slot i r h; ⟨v, h1, h2.mono e E.good⟩, E.sep,
    fun q hq => ⟨e.keep _ _ (E.gd q hq).1 nolst (E.gd q hq).2.1, (E.gd q hq).2⟩, fun h hh => (E.tx h hh).trans (e.tex E.good)⟩
/-- less is known -/
theorem En.less {L : Lay} {gs : Gs} {H0 H : Hp} {σ : St} {ρ ρ' : Rho} (E : En L gs H0 H σ ρ) (hl : ρ'.length = ρ.length) (h : ∀ (i : Nat) r, ρ'[i]? = some (some r) → ρ[i]? = some (some r)) : En L gs H0 H σ ρ' :=
  ⟨E.st, E.good, E.len.trans hl.symm, fun i r e => E.slot i r (h i r e), fun i j p r r' h1 h2 h3 h4 h5 h6 => E.sep i j p r r' (h i r h1) h2 h3 (h j r' h4) h5 h6,
    fun q hq => ⟨(E.gd q hq).1, (E.gd q hq).2.1, fun i r h1 => (E.gd q hq).2.2 i r (h i r h1)⟩, E.tx⟩
/-- the slot i holds v, told by r (no list of the frame's own, or a new one) -/
theorem En.set {L : Lay} {gs : Gs} {H0 H : Hp} {σ : St} {ρ : Rho} {i : Nat} {v : V} {r : Rep} (E : En L gs H0 H σ ρ) (h : RV L H0 H v r)
    (hn : r.lk = true → ∀ p, v = .ref p → (∀ (j : Nat) r', ρ[j]? = some (some r') → r'.lk = true → j ≠ i → σ[j]? = some (some (.ref p)) → r.isOwn = false ∧ r'.isOwn = false) ∧ (r.isOwn = true → ∀ q ∈ gs.ls, q.1 ≠ p)) :
    En L gs H0 H (σ.set i (some v)) (ρ.set i (some r)) := by
  have at_ : ∀ (j : Nat) r', (ρ.set i (some r))[j]? = some (some r') → (j = i ∧ r' = r ∧ (σ.set i (some v))[j]? = some (some v)) ∨ (j ≠ i ∧ ρ[j]? = some (some r') ∧ (σ.set i (some v))[j]? = σ[j]?) := fun j r' e => by
    by_cases hj : i = j
    · subst hj
      have hlt : i < ρ.length := by
        rcases Nat.lt_or_ge i ρ.length with z | z
        · exact z
        · rw [List.getElem?_eq_none (by simpa using z)] at e; cases e
      rw [List.getElem?_set_self hlt] at e
      refine .inl ⟨rfl, (Option.some.inj (Option.some.inj e)).symm, ?_⟩
      rw [List.getElem?_set_self (by rw [E.len]; exact hlt)]
    · rw [List.getElem?_set_ne hj] at e
      exact .inr ⟨fun z => hj z.symm, e, by rw [List.getElem?_set_ne hj]⟩
  refine ⟨E.st, E.good, by rw [List.length_set, List.length_set]; exact E.len, fun j r' e => ?_, fun j k p r1 r2 e1 o1 s1 e2 o2 s2 => ?_, fun q hq => ⟨(E.gd q hq).1, (E.gd q hq).2.1, fun j r' e o s => ?_⟩, E.tx⟩
  · rcases at_ j r' e with ⟨_, rfl, z⟩ | ⟨_, e', z⟩
    · exact ⟨v, z, h⟩
    · obtain ⟨w, w1, w2⟩ := E.slot j r' e'
      exact ⟨w, z.trans w1, w2⟩
  · have lk1 : r1.lk = true := by cases r1 <;> first | rfl | cases o1
    rcases at_ j r1 e1 with ⟨rfl, rfl, z1⟩ | ⟨n1, e1', z1⟩
    · rcases at_ k r2 e2 with ⟨rfl, rfl, z2⟩ | ⟨n2, e2', z2⟩
      · rfl
      · rw [z1] at s1
        have z := ((hn lk1 p (Option.some.inj (Option.some.inj s1))).1 k r2 e2' o2 n2 (z2.symm.trans s2)).1
        rw [o1] at z; cases z
    · rcases at_ k r2 e2 with ⟨rfl, rfl, z2⟩ | ⟨n2, e2', z2⟩
      · rw [z2] at s2
        have z := ((hn o2 p (Option.some.inj (Option.some.inj s2))).1 j r1 e1' lk1 n1 (z1.symm.trans s1)).2
        rw [o1] at z; cases z
      · exact E.sep j k p r1 r2 e1' o1 (z1.symm.trans s1) e2' o2 (z2.symm.trans s2)
  · rcases at_ j r' e with ⟨rfl, rfl, z⟩ | ⟨n1, e', z⟩
    · have lk1 : r'.lk = true := by cases r' <;> first | rfl | cases o
      rw [z] at s
      exact (hn lk1 q.1 (Option.some.inj (Option.some.inj s))).2 o q hq rfl
    · exact (E.gd q hq).2.2 j r' e' o (z.symm.trans s)
theorem En.setd {L : Lay} {gs : Gs} {H0 H : Hp} {σ : St} {ρ : Rho} {v : V} {x : D} (i : Nat) (E : En L gs H0 H σ ρ) (h : Dv H v x) : En L gs H0 H (σ.set i (some v)) (ρ.set i (some (.d x))) :=
  E.set h fun z => by cases z
theorem En.setn {L : Lay} {gs : Gs} {H0 H : Hp} {σ : St} {ρ : Rho} {v : V} (i : Nat) (E : En L gs H0 H σ ρ) : En L gs H0 H (σ.set i (some v)) (ρ.set i (some .any)) :=
  E.set trivial fun z => by cases z
end Dl
-- Lay2
/-! Lay2: judgements over data: expressions, tests, arguments, blocks; the plain rules. -/
namespace Dl
open PySem L2 PyProof.Rows

section
variable (X : Cx)
def semE (e : Expr) : TE := fun σ H Q => ∀ (pins : List (Addr × Obj)) (s : Shared), Inv X pins σ H s → wpAny (model X.prog X.w) X.A (eval e X.env) (EP X pins σ Q) X.xe s
def semT (e : Expr) : TT := fun σ H Q => ∀ (pins : List (Addr × Obj)) (s : Shared), Inv X pins σ H s → wpAny (model X.prog X.w) X.A (isTrue e X.env (eval e X.env)) (TP X pins σ Q) X.xe s
def semW (e : Expr) : TT := fun σ H Q => ∀ (whole : Sem Value) (pins : List (Addr × Obj)) (s : Shared), Inv X pins σ H s → wpAny (model X.prog X.w) X.A (isTrue e X.env whole) (TP X pins σ Q) X.xe s
def semA (es : List Expr) : TA := fun σ H Q => ∀ (pos : Pos) (pins : List (Addr × Obj)) (s : Shared), Inv X pins σ H s → wpAny (model X.prog X.w) X.A (spliced (backTo pos (starEach es X.env))) (AP X pins σ Q) X.xe s
def semSs (sts : List Stmt) : TS := fun D σ H => ∀ (pins : List (Addr × Obj)) (s : Shared), Inv X pins σ H s → wpAny (model X.prog X.w) X.A (execs sts X.env) (SP X pins D) X.xe s
def semI (tg iter : Expr) : TI := fun σ H R => ∀ (pins : List (Addr × Obj)) (s : Shared), Inv X pins σ H s →
    wpAny (model X.prog X.w) X.A (eval iter X.env) (fun u s' => wpAny (model X.prog X.w) X.A (pyIter u) (PIE X pins σ tg R) X.xe s') X.xe s
def semO (e : Option Expr) : TO := fun σ H Q => ∀ (pins : List (Addr × Obj)) (s : Shared), Inv X pins σ H s →
    wpAny (model X.prog X.w) X.A (evalPart e X.env) (fun v s1 => ∃ o H1, Inv X pins σ H1 s1 ∧ IsPart v o ∧ Q o H1) X.xe s
end
section
variable {X : Cx}
theorem pe_sem {e : Expr} : PE X e (semE X e) := ⟨fun pins s _ _ _ I h => h pins s I⟩
theorem pt_sem {e : Expr} : PT X e (semT X e) := ⟨fun pins s _ _ _ I h => h pins s I⟩
theorem pw_sem {e : Expr} : PW X e (semW X e) := ⟨fun wh pins s _ _ _ I h => h wh pins s I⟩
theorem pa_sem {es : List Expr} : PA X es (semA X es) := ⟨fun pos pins s _ _ _ I h => h pos pins s I⟩
theorem pss_sem {sts : List Stmt} : PSs X sts (semSs X sts) := ⟨fun pins s _ _ _ I h => h pins s I⟩
theorem pi_sem {tg iter : Expr} : PI X tg iter (semI X tg iter) := ⟨fun pins s _ _ _ I h => h pins s I⟩
theorem po_sem {e : Option Expr} : PO X e (semO X e) := ⟨fun pins s _ _ _ I h => h pins s I⟩
end

/-! ### readings over data -/
def EvP (L : Lay) (te : TE) (ρ : Rho) (P : Rep → Prop) : Prop := ∀ gs H0 H σ (Q : VK), En L gs H0 H σ ρ → (∀ r v H', P r → Step L H H' → Good L H' → RV L H H' v r → Q v H') → te σ H Q
def EvB (L : Lay) (tt : TT) (ρ : Rho) (b : Bool) : Prop := ∀ gs H0 H σ (Q : Bool → Hp → Prop), En L gs H0 H σ ρ → (∀ H', Step L H H' → Good L H' → Q b H') → tt σ H Q
/-- each value, told by its own -/
def RVs (L : Lay) (H0 H : Hp) : List V → List Rep → Prop := Paired (RV L H0 H)
def EvA (L : Lay) (ta : TA) (ρ : Rho) (P : List Rep → Prop) : Prop := ∀ gs H0 H σ (Q : List V → Hp → Prop), En L gs H0 H σ ρ → (∀ rs vs H', P rs → Step L H H' → Good L H' → RVs L H H' vs rs → Q vs H') → ta σ H Q
def EvO (L : Lay) (to : TO) (ρ : Rho) (o : Option Int) : Prop := ∀ gs H0 H σ (Q : Option Int → Hp → Prop), En L gs H0 H σ ρ → (∀ H', Step L H H' → Good L H' → Q o H') → to σ H Q
def XP (X : Cx) (L : Lay) (e : Expr) (ρ : Rho) (P : Rep → Prop) : Prop := EvP L (semE X e) ρ P
def XE (X : Cx) (L : Lay) (e : Expr) (ρ : Rho) (r : Rep) : Prop := EvP L (semE X e) ρ (fun z => z = r)
def XT (X : Cx) (L : Lay) (e : Expr) (ρ : Rho) (b : Bool) : Prop := EvB L (semT X e) ρ b
def XW (X : Cx) (L : Lay) (e : Expr) (ρ : Rho) (b : Bool) : Prop := EvB L (semW X e) ρ b
def XAP (X : Cx) (L : Lay) (es : List Expr) (ρ : Rho) (P : List Rep → Prop) : Prop := EvA L (semA X es) ρ P
def XA (X : Cx) (L : Lay) (es : List Expr) (ρ : Rho) (rs : List Rep) : Prop := EvA L (semA X es) ρ (fun z => z = rs)
def XO (X : Cx) (L : Lay) (e : Option Expr) (ρ : Rho) (o : Option Int) : Prop := EvO L (semO X e) ρ o

theorem RVs.mono {L : Lay} {H0 H H' : Hp} (e : Step L H H') (g : Good L H) {vs : List V} {rs : List Rep} (h : RVs L H0 H vs rs) : RVs L H0 H' vs rs := Paired.mapP h fun _ _ q => q.mono e g
theorem RVs.base {L : Lay} {H0 H1 H : Hp} (e : Step L H0 H1) {vs : List V} {rs : List Rep} (h : RVs L H1 H vs rs) : RVs L H0 H vs rs := Paired.mapP h fun _ _ q => q.base e
theorem sz_of {n : Nat} (hn : n ≤ 100000) : n ≤ sizeLine := Nat.le_trans hn (by decide)
theorem sz_lt {n : Nat} (hn : n < 100000) : n < sizeLine := Nat.lt_of_lt_of_le hn (by decide)

section
variable {X : Cx} {L : Lay} {ρ : Rho} {P Pa Pb : Rep → Prop} {te ta tb tc : TE} {e a b c : Expr} {pos : Pos} {rest : List Expr}
theorem xp_of (h : PE X e te) (q : EvP L te ρ P) : XP X L e ρ P := fun gs H0 H σ Q E k pins s I => h.run pins s σ H Q I (q gs H0 H σ Q E k)
theorem xe_of {r : Rep} (h : PE X e te) (q : EvP L te ρ (fun z => z = r)) : XE X L e ρ r := xp_of h q
theorem xt_of {t : TT} {b : Bool} (h : PT X e t) (q : EvB L t ρ b) : XT X L e ρ b := fun gs H0 H σ Q E k pins s I => h.run pins s σ H Q I (q gs H0 H σ Q E k)
theorem xw_of {t : TT} {b : Bool} (h : PW X e t) (q : EvB L t ρ b) : XW X L e ρ b := fun gs H0 H σ Q E k wh pins s I => h.run wh pins s σ H Q I (q gs H0 H σ Q E k)
theorem xa_of {t : TA} {es : List Expr} {P : List Rep → Prop} (h : PA X es t) (q : EvA L t ρ P) : XAP X L es ρ P := fun gs H0 H σ Q E k pos pins s I => h.run pos pins s σ H Q I (q gs H0 H σ Q E k)
theorem xo_of {t : TO} {o : Option Expr} {z : Option Int} (h : PO X o t) (q : EvO L t ρ z) : XO X L o ρ z := fun gs H0 H σ Q E k pins s I => h.run pins s σ H Q I (q gs H0 H σ Q E k)
theorem EvP.imp {P' : Rep → Prop} (h : EvP L te ρ P) (hp : ∀ r, P r → P' r) : EvP L te ρ P' := fun gs H0 H σ Q E k => h gs H0 H σ Q E fun r v H' p => k r v H' (hp r p)
theorem XE.p {r : Rep} (h : XE X L e ρ r) (hp : P r) : XP X L e ρ P := EvP.imp h fun z q => by rw [q]; exact hp
theorem XE.is {r r' : Rep} (h : XE X L e ρ r) (hp : r = r') : XE X L e ρ r' := hp ▸ h
theorem XT.is {b b' : Bool} (h : XT X L e ρ b) (hp : b = b') : XT X L e ρ b' := hp ▸ h
/-- forgotten -/
theorem XE.opq {r : Rep} (h : XE X L e ρ r) : XE X L e ρ (.d .opq) := fun gs H0 H σ Q E k => h gs H0 H σ Q E fun z v H' _ e1 g1 _ => k _ v H' rfl e1 g1 (Dv.opq v)
theorem XE.any {r : Rep} (h : XE X L e ρ r) : XE X L e ρ .any := fun gs H0 H σ Q E k => h gs H0 H σ Q E fun z v H' _ e1 g1 _ => k _ v H' rfl e1 g1 trivial
/-- a list of one's own is a list that may be read -/
theorem RV.rd {L : Lay} {H0 H : Hp} {v : V} {ds : List D} (h : RV L H0 H v (.own ds)) : RV L H0 H v (.ro ds) := by
  obtain ⟨p, vs, h1, h2, h3, h4, h5⟩ := h
  exact ⟨p, vs, h1, fun q hq z => h3 ⟨q, hq, .inl z⟩, h4, h5⟩
theorem XE.rd {ds : List D} (h : XE X L e ρ (.own ds)) : XE X L e ρ (.ro ds) := fun gs H0 H σ Q E k => h gs H0 H σ Q E fun z v H' hz e1 g1 rv => k _ v H' rfl e1 g1 (by rw [hz] at rv; exact rv.rd)

/-! ### names, constants -/
theorem xe_var {i : Nat} {x : Str} {r : Rep} (hr : ρ[i]? = some (some r)) (ho : r.isOwn = false) (hN : X.N[i]? = some x := by rfl) (hv : Vis X.env.scope x := by first | exact Or.inl rfl | exact Or.inr (Or.inl rfl) | exact Or.inr (Or.inr rfl))
    (hd : (x == ("__debug__" : Str)) = false := by decide) (hcd : (x == ("__classdict__" : Str)) = false := by decide) : XE X L (.Name x pos) ρ r :=
  xe_of (pe_var hN hv hd hcd) fun gs H0 H σ Q E k => by
    obtain ⟨v, h1, h2⟩ := E.slot i r hr
    refine ⟨v, h1, k r v H rfl (Step.refl H) E.good ?_⟩
    cases r with
    | own _ => cases ho
    | dct _ => cases ho
    | d x => exact h2
    | ro ds => exact h2
    | tape => exact h2
    | any => trivial
/-- a list of the frame's own, to be read at once -/
theorem xe_varL {i : Nat} {x : Str} {ds : List D} (hr : ρ[i]? = some (some (.own ds))) (hN : X.N[i]? = some x := by rfl) (hv : Vis X.env.scope x := by first | exact Or.inl rfl | exact Or.inr (Or.inl rfl) | exact Or.inr (Or.inr rfl))
    (hd : (x == ("__debug__" : Str)) = false := by decide) (hcd : (x == ("__classdict__" : Str)) = false := by decide) : XE X L (.Name x pos) ρ (.ro ds) :=
  xe_of (pe_var hN hv hd hcd) fun gs H0 H σ Q E k => by
    obtain ⟨v, h1, h2⟩ := E.slot i _ hr
    exact ⟨v, h1, k _ v H rfl (Step.refl H) E.good h2.rd⟩
theorem ev_c {v : V} {r : Rep} (h : ∀ H0 H, RV L H0 H v r) : EvP L (tC v) ρ (fun z => z = r) := fun gs H0 H σ Q E k => k r v H rfl (Step.refl H) E.good (h H H)
theorem xe_int {i : Int} {j} : XE X L (.Constant (.int i) j pos) ρ (.d (.int i)) := xe_of pe_int (ev_c fun _ _ => Dv.int i)
theorem xe_bl {b : Bool} {j} : XE X L (.Constant (.bool b) j pos) ρ (.d (.bl b)) := xe_of pe_bl (ev_c fun _ _ => Dv.bl b)
theorem xe_non {j} : XE X L (.Constant .none j pos) ρ (.d .non) := xe_of pe_non (ev_c fun _ _ => Dv.non)
theorem xe_str {x : Str} {j} : XE X L (.Constant (.str x) j pos) ρ (.d (.str x)) := xe_of pe_str (ev_c fun _ _ => Dv.str x)

/-! ### operators by values -/
def OpD (L : Lay) (r : R2) (x y : Rep) (P : Rep → Prop) : Prop := ∀ H Hb vx vy (Q : VK), Good L Hb → RV L H Hb vx x → RV L H Hb vy y → (∀ z v H', P z → Step L Hb H' → Good L H' → RV L Hb H' v z → Q v H') → r vx vy Hb Q
theorem ev_op {r : R2} (ha : EvP L ta ρ Pa) (hb : EvP L tb ρ Pb) (h : ∀ x y, Pa x → Pb y → OpD L r x y P) : EvP L (tOp r ta tb) ρ P := fun gs H0 H σ Q E k =>
  ha gs H0 H σ _ E fun x vx H1 px e1 g1 rx => hb gs H0 H1 σ _ (E.step e1 g1) fun y vy H2 py e2 g2 ry =>
    h x y px py H H2 vx vy Q g2 (rx.mono e2 g1) (ry.base e1) fun z v H' pz e3 g3 rz => k z v H' pz ((e1.trans e2).trans e3) g3 (rz.base (e1.trans e2))
theorem ev_op2 {r : R2} {x y z : Rep} (ha : EvP L ta ρ (fun q => q = x)) (hb : EvP L tb ρ (fun q => q = y)) (h : OpD L r x y (fun q => q = z)) : EvP L (tOp r ta tb) ρ (fun q => q = z) :=
  ev_op ha hb fun x' y' p q => by rw [p, q]; exact h
theorem rv_int {L : Lay} {H0 H : Hp} {v : V} {i : Int} (h : RV L H0 H v (.d (.int i))) : v = .int i := by cases h; rfl
theorem rv_bl {L : Lay} {H0 H : Hp} {v : V} {i : Bool} (h : RV L H0 H v (.d (.bl i))) : v = .bl i := by cases h; rfl
theorem rv_str {L : Lay} {H0 H : Hp} {v : V} {i : Str} (h : RV L H0 H v (.d (.str i))) : v = .str i := by cases h; rfl
theorem rv_non {L : Lay} {H0 H : Hp} {v : V} (h : RV L H0 H v (.d .non)) : v = .non := by cases h; rfl
theorem rv_tup {L : Lay} {H0 H : Hp} {v : V} {ds : List D} (h : RV L H0 H v (.d (.tup ds))) : ∃ a vs, v = .ref a ∧ H a = some (.tup vs) ∧ DvA H vs ds := by
  cases h with
  | tup h1 h2 => exact ⟨_, _, rfl, h1, h2⟩
theorem od_I0 {g : Int → Int → V} {i j : Int} {z : Rep} (h : ∀ H0 H, RV L H0 H (g i j) z) : OpD L (rI0 g) (.d (.int i)) (.d (.int j)) (fun q => q = z) := fun H Hb vx vy Q g hx hy k =>
  ⟨i, j, rv_int hx, rv_int hy, k z _ Hb rfl (Step.refl _) g (h _ _)⟩
theorem od_I {C : Int → Int → Prop} {g : Int → Int → V} {i j : Int} {z : Rep} (hc : C i j) (h : ∀ H0 H, RV L H0 H (g i j) z) : OpD L (rI C g) (.d (.int i)) (.d (.int j)) (fun q => q = z) := fun H Hb vx vy Q g hx hy k =>
  ⟨i, j, rv_int hx, rv_int hy, hc, k z _ Hb rfl (Step.refl _) g (h _ _)⟩
variable {i j : Int}
theorem xe_add (ha : XE X L a ρ (.d (.int i))) (hb : XE X L b ρ (.d (.int j))) : XE X L (.BinOp a .Add b pos) ρ (.d (.int (i + j))) := xe_of (pe_op op_add pe_sem pe_sem) (ev_op2 ha hb (od_I0 fun _ _ => Dv.int _))
theorem xe_sub (ha : XE X L a ρ (.d (.int i))) (hb : XE X L b ρ (.d (.int j))) : XE X L (.BinOp a .Sub b pos) ρ (.d (.int (i - j))) := xe_of (pe_op op_sub pe_sem pe_sem) (ev_op2 ha hb (od_I0 fun _ _ => Dv.int _))
theorem xe_mul (ha : XE X L a ρ (.d (.int i))) (hb : XE X L b ρ (.d (.int j))) (h : CMul i j) : XE X L (.BinOp a .Mult b pos) ρ (.d (.int (i * j))) := xe_of (pe_op op_mul pe_sem pe_sem) (ev_op2 ha hb (od_I h fun _ _ => Dv.int _))
theorem xe_mod (ha : XE X L a ρ (.d (.int i))) (hb : XE X L b ρ (.d (.int j))) (h : 0 < j) : XE X L (.BinOp a .Mod b pos) ρ (.d (.int (i % j))) := xe_of (pe_op op_mod pe_sem pe_sem) (ev_op2 ha hb (od_I h fun _ _ => Dv.int _))
theorem xe_fdiv (ha : XE X L a ρ (.d (.int i))) (hb : XE X L b ρ (.d (.int j))) (h : CDiv i j) : XE X L (.BinOp a .FloorDiv b pos) ρ (.d (.int (i / j))) := xe_of (pe_op op_fdiv pe_sem pe_sem) (ev_op2 ha hb (od_I h fun _ _ => Dv.int _))
theorem xe_pow (ha : XE X L a ρ (.d (.int i))) (hb : XE X L b ρ (.d (.int j))) (h : CPow i j) : XE X L (.BinOp a .Pow b pos) ρ (.d (.int (i ^ j.toNat))) := xe_of (pe_op op_pow pe_sem pe_sem) (ev_op2 ha hb (od_I h fun _ _ => Dv.int _))
theorem xe_neg (ha : XE X L a ρ (.d (.int i))) : XE X L (.UnaryOp .USub a pos) ρ (.d (.int (-i))) := xe_of (pe_un un_neg pe_sem) fun gs H0 H σ Q E k =>
  ha gs H0 H σ _ E fun x vx H1 px e1 g1 rx => ⟨i, rv_int (by rw [px] at rx; exact rx), k _ _ H1 rfl e1 g1 (Dv.int _)⟩

/-! ### comparisons: as a value, as a test -/
theorem evb_test {t : Bool} (h : EvP L te ρ (fun q => q = .d (.bl t))) : EvB L (tTest te) ρ t := fun gs H0 H σ Q E k =>
  h gs H0 H σ _ E fun x v H1 px e1 g1 rx => ⟨t, rv_bl (by rw [px] at rx; exact rx), k H1 e1 g1⟩
theorem evb_B {t : Bool} (h : EvP L te ρ (fun q => q = .d (.bl t))) : EvB L (tB te) ρ t := fun gs H0 H σ Q E k =>
  h gs H0 H σ _ E fun x v H1 px e1 g1 rx => ⟨t, rv_bl (by rw [px] at rx; exact rx), k H1 e1 g1⟩
variable {op : CmpOp} {r : R2} {x y : Rep} {t : Bool}
theorem xe_cmp (ho : OpR X (compareOp op) r) (hd : OpD L r x y (fun q => q = .d (.bl t))) (ha : XE X L a ρ x) (hb : XE X L b ρ y) (hm : behindInMarks op b = false) : XE X L (.Compare a [op] [b] pos) ρ (.d (.bl t)) :=
  xe_of (pe_cmpR ho pe_sem pe_sem hm) (ev_op2 ha hb hd)
theorem xt_cmp (ho : OpR X (compareOp op) r) (hd : OpD L r x y (fun q => q = .d (.bl t))) (ha : XE X L a ρ x) (hb : XE X L b ρ y) (hm : behindInMarks op b = false) : XT X L (.Compare a [op] [b] pos) ρ t :=
  xt_of (pt_cmpR ho pe_sem pe_sem hm) (evb_test (ev_op2 ha hb hd))
theorem xe_lt (ha : XE X L a ρ (.d (.int i))) (hb : XE X L b ρ (.d (.int j))) : XE X L (.Compare a [.Lt] [b] pos) ρ (.d (.bl (decide (i < j)))) := xe_cmp op_lt (od_I0 fun _ _ => Dv.bl _) ha hb (nomark _)
theorem xt_lt (ha : XE X L a ρ (.d (.int i))) (hb : XE X L b ρ (.d (.int j))) : XT X L (.Compare a [.Lt] [b] pos) ρ (decide (i < j)) := xt_cmp op_lt (od_I0 fun _ _ => Dv.bl _) ha hb (nomark _)
theorem xe_le (ha : XE X L a ρ (.d (.int i))) (hb : XE X L b ρ (.d (.int j))) : XE X L (.Compare a [.LtE] [b] pos) ρ (.d (.bl (decide (i ≤ j)))) := xe_cmp op_le (od_I0 fun _ _ => Dv.bl _) ha hb (nomark _)
theorem xt_le (ha : XE X L a ρ (.d (.int i))) (hb : XE X L b ρ (.d (.int j))) : XT X L (.Compare a [.LtE] [b] pos) ρ (decide (i ≤ j)) := xt_cmp op_le (od_I0 fun _ _ => Dv.bl _) ha hb (nomark _)
theorem xe_gt (ha : XE X L a ρ (.d (.int i))) (hb : XE X L b ρ (.d (.int j))) : XE X L (.Compare a [.Gt] [b] pos) ρ (.d (.bl (decide (j < i)))) := xe_cmp op_gt (od_I0 fun _ _ => Dv.bl _) ha hb (nomark _)
theorem xt_gt (ha : XE X L a ρ (.d (.int i))) (hb : XE X L b ρ (.d (.int j))) : XT X L (.Compare a [.Gt] [b] pos) ρ (decide (j < i)) := xt_cmp op_gt (od_I0 fun _ _ => Dv.bl _) ha hb (nomark _)
theorem xe_ge (ha : XE X L a ρ (.d (.int i))) (hb : XE X L b ρ (.d (.int j))) : XE X L (.Compare a [.GtE] [b] pos) ρ (.d (.bl (decide (j ≤ i)))) := xe_cmp op_ge (od_I0 fun _ _ => Dv.bl _) ha hb (nomark _)
theorem xt_ge (ha : XE X L a ρ (.d (.int i))) (hb : XE X L b ρ (.d (.int j))) : XT X L (.Compare a [.GtE] [b] pos) ρ (decide (j ≤ i)) := xt_cmp op_ge (od_I0 fun _ _ => Dv.bl _) ha hb (nomark _)
/-- a number, a truth value, a text beside one of its kind -/
inductive Sc : D → D → Bool → Prop
  | int (i j : Int) : Sc (.int i) (.int j) (decide (i = j))
  | bl (i j : Bool) : Sc (.bl i) (.bl j) (i == j)
  | str (i j : Str) : Sc (.str i) (.str j) (decide (i = j))
theorem od_eq {x y : D} (h : Sc x y t) : OpD L rEq (.d x) (.d y) (fun q => q = .d (.bl t)) := fun H Hb vx vy Q g hx hy k => by
  cases h with
  | int i j =>
    cases hx; cases hy
    refine ⟨rfl, ?_⟩
    rw [show decide (V.int i = V.int j) = decide (i = j) by simp]
    exact k _ _ Hb rfl (Step.refl _) g (Dv.bl _)
  | bl i j =>
    cases hx; cases hy
    refine ⟨rfl, ?_⟩
    rw [show decide (V.bl i = V.bl j) = (i == j) from dec_bl]
    exact k _ _ Hb rfl (Step.refl _) g (Dv.bl _)
  | str i j =>
    cases hx; cases hy
    refine ⟨rfl, ?_⟩
    rw [show decide (V.str i = V.str j) = decide (i = j) by simp]
    exact k _ _ Hb rfl (Step.refl _) g (Dv.bl _)
theorem od_ne {x y : D} (h : Sc x y t) : OpD L rNe (.d x) (.d y) (fun q => q = .d (.bl (!t))) := fun H Hb vx vy Q g hx hy k => by
  cases h with
  | int i j =>
    cases hx; cases hy
    refine ⟨rfl, ?_⟩
    rw [show decide (V.int i = V.int j) = decide (i = j) by simp]
    exact k _ _ Hb rfl (Step.refl _) g (Dv.bl _)
  | bl i j =>
    cases hx; cases hy
    refine ⟨rfl, ?_⟩
    rw [show decide (V.bl i = V.bl j) = (i == j) from dec_bl]
    exact k _ _ Hb rfl (Step.refl _) g (Dv.bl _)
  | str i j =>
    cases hx; cases hy
    refine ⟨rfl, ?_⟩
    rw [show decide (V.str i = V.str j) = decide (i = j) by simp]
    exact k _ _ Hb rfl (Step.refl _) g (Dv.bl _)
variable {dx dy : D}
theorem xe_eq (ha : XE X L a ρ (.d dx)) (hb : XE X L b ρ (.d dy)) (h : Sc dx dy t) : XE X L (.Compare a [.Eq] [b] pos) ρ (.d (.bl t)) := xe_cmp op_eq (od_eq h) ha hb (nomark _)
theorem xt_eq (ha : XE X L a ρ (.d dx)) (hb : XE X L b ρ (.d dy)) (h : Sc dx dy t) : XT X L (.Compare a [.Eq] [b] pos) ρ t := xt_cmp op_eq (od_eq h) ha hb (nomark _)
theorem xe_ne (ha : XE X L a ρ (.d dx)) (hb : XE X L b ρ (.d dy)) (h : Sc dx dy t) : XE X L (.Compare a [.NotEq] [b] pos) ρ (.d (.bl (!t))) := xe_cmp op_ne (od_ne h) ha hb (nomark _)
theorem xt_ne (ha : XE X L a ρ (.d dx)) (hb : XE X L b ρ (.d dy)) (h : Sc dx dy t) : XT X L (.Compare a [.NotEq] [b] pos) ρ (!t) := xt_cmp op_ne (od_ne h) ha hb (nomark _)
/-- is None -/
def D.isNon : D → Bool
  | .non => true
  | _ => false
def D.known : D → Bool
  | .opq => false
  | .obj _ => false
  | _ => true
theorem dec_non {H : Hp} {v : V} {d : D} (h : Dv H v d) (hk : d.known = true) : decide (v = .non) = d.isNon := by
  cases h with
  | opq => cases hk
  | obj => cases hk
  | non => rfl
  | bl b => exact decide_eq_false (by intro z; cases z)
  | int b => exact decide_eq_false (by intro z; cases z)
  | str b => exact decide_eq_false (by intro z; cases z)
  | tup _ _ => exact decide_eq_false (by intro z; cases z)
theorem od_isN {d : D} (hk : d.known = true) : OpD L (fun x y H Q => y = .non ∧ Q (.bl (decide (x = .non))) H) (.d d) (.d .non) (fun q => q = .d (.bl d.isNon)) := fun H Hb vx vy Q g hx hy k =>
  ⟨rv_non hy, by rw [dec_non hx hk]; exact k _ _ Hb rfl (Step.refl _) g (Dv.bl _)⟩
theorem od_notN {d : D} (hk : d.known = true) : OpD L (fun x y H Q => y = .non ∧ Q (.bl (!decide (x = .non))) H) (.d d) (.d .non) (fun q => q = .d (.bl (!d.isNon))) := fun H Hb vx vy Q g hx hy k =>
  ⟨rv_non hy, by rw [dec_non hx hk]; exact k _ _ Hb rfl (Step.refl _) g (Dv.bl _)⟩
theorem xe_isN {p2 : Pos} {n2} (ha : XE X L a ρ (.d dx)) (hk : dx.known = true := by rfl) : XE X L (.Compare a [.Is] [.Constant .none n2 p2] pos) ρ (.d (.bl dx.isNon)) := xe_cmp op_isN (od_isN hk) ha xe_non (nomark _)
theorem xt_isN {p2 : Pos} {n2} (ha : XE X L a ρ (.d dx)) (hk : dx.known = true := by rfl) : XT X L (.Compare a [.Is] [.Constant .none n2 p2] pos) ρ dx.isNon := xt_cmp op_isN (od_isN hk) ha xe_non (nomark _)
theorem xe_notN {p2 : Pos} {n2} (ha : XE X L a ρ (.d dx)) (hk : dx.known = true := by rfl) : XE X L (.Compare a [.IsNot] [.Constant .none n2 p2] pos) ρ (.d (.bl (!dx.isNon))) := xe_cmp op_notN (od_notN hk) ha xe_non (nomark _)
theorem xt_notN {p2 : Pos} {n2} (ha : XE X L a ρ (.d dx)) (hk : dx.known = true := by rfl) : XT X L (.Compare a [.IsNot] [.Constant .none n2 p2] pos) ρ (!dx.isNon) := xt_cmp op_notN (od_notN hk) ha xe_non (nomark _)
/-- a <= b <= c -/
theorem xe_chainLe {k : Int} (ha : XE X L a ρ (.d (.int i))) (hb : XE X L b ρ (.d (.int j))) (hc : XE X L c ρ (.d (.int k))) (h1 : PE X (.Compare a [.LtE, .LtE] [b, c] pos) (tChain (rI0 fun i j => .bl (decide (i ≤ j))) (rI0 fun i j => .bl (decide (i ≤ j))) (semE X a) (semE X b) (semE X c)) := by exact pe_chain op_le op_le pe_sem pe_sem pe_sem) :
    XE X L (.Compare a [.LtE, .LtE] [b, c] pos) ρ (.d (.bl (decide (i ≤ j ∧ j ≤ k)))) := xe_of h1 fun gs H0 H σ Q E kk =>
  ha gs H0 H σ _ E fun x vx H1 px e1 g1 rx => hb gs H0 H1 σ _ (E.step e1 g1) fun y vy H2 py e2 g2 ry => by
    subst px py
    obtain rfl := rv_int rx
    obtain rfl := rv_int ry
    refine ⟨i, j, rfl, rfl, _, rfl, ?_⟩
    by_cases h : i ≤ j
    · rw [if_pos (decide_eq_true h)]
      refine hc gs H0 H2 σ _ (E.step (e1.trans e2) g2) fun z vz H3 pz e3 g3 rz => ?_
      subst pz
      obtain rfl := rv_int rz
      refine ⟨j, k, rfl, rfl, ?_⟩
      show Q (V.bl (decide (j ≤ k))) H3
      rw [show decide (j ≤ k) = decide (i ≤ j ∧ j ≤ k) by simp [h]]
      exact kk _ _ H3 rfl ((e1.trans e2).trans e3) g3 (Dv.bl _)
    · rw [if_neg (by rw [decide_eq_false h]; exact Bool.false_ne_true)]
      show Q (V.bl false) H2
      rw [show (V.bl false) = V.bl (decide (i ≤ j ∧ j ≤ k)) by simp [h]]
      exact kk _ _ H2 rfl (e1.trans e2) g2 (Dv.bl _)

/-! ### and, or, not, if else -/
variable {p q : Bool}
theorem xe_one {op} {r : Rep} (h : XE X L a ρ r) : XE X L (.BoolOp op [a] pos) ρ r := xe_of (pe_one pe_sem) h
theorem xe_and (ha : XE X L a ρ (.d (.bl p))) (hb : p = true → XE X L (.BoolOp .And (b :: rest) pos) ρ (.d (.bl q))) : XE X L (.BoolOp .And (a :: b :: rest) pos) ρ (.d (.bl (p && q))) :=
  xe_of (pe_and pe_sem pe_sem) fun gs H0 H σ Q E k => ha gs H0 H σ _ E fun x vx H1 px e1 g1 rx => by
    subst px
    refine ⟨p, rv_bl rx, ?_⟩
    cases p with
    | true =>
      rw [if_pos rfl]
      exact hb rfl gs H0 H1 σ _ (E.step e1 g1) fun z vz H2 pz e2 g2 rz => k z vz H2 pz (e1.trans e2) g2 (rz.base e1)
    | false =>
      rw [if_neg (fun z => Bool.false_ne_true z)]
      exact k _ _ H1 rfl e1 g1 (Dv.bl _)
theorem xe_or (ha : XE X L a ρ (.d (.bl p))) (hb : p = false → XE X L (.BoolOp .Or (b :: rest) pos) ρ (.d (.bl q))) : XE X L (.BoolOp .Or (a :: b :: rest) pos) ρ (.d (.bl (p || q))) :=
  xe_of (pe_or pe_sem pe_sem) fun gs H0 H σ Q E k => ha gs H0 H σ _ E fun x vx H1 px e1 g1 rx => by
    subst px
    refine ⟨p, rv_bl rx, ?_⟩
    cases p with
    | true =>
      rw [if_pos rfl]
      exact k _ _ H1 rfl e1 g1 (Dv.bl _)
    | false =>
      rw [if_neg (fun z => Bool.false_ne_true z)]
      exact hb rfl gs H0 H1 σ _ (E.step e1 g1) fun z vz H2 pz e2 g2 rz => k z vz H2 pz (e1.trans e2) g2 (rz.base e1)
theorem xe_not (ha : XE X L a ρ (.d (.bl p))) : XE X L (.UnaryOp .Not a pos) ρ (.d (.bl (!p))) := xe_of (pe_not pe_sem) fun gs H0 H σ Q E k => ha gs H0 H σ _ E fun x vx H1 px e1 g1 rx => by
  subst px
  exact ⟨p, rv_bl rx, k _ _ H1 rfl e1 g1 (Dv.bl _)⟩
theorem xt_val (h : XE X L a ρ (.d (.bl p))) (he : ∀ whole, isTrue a X.env whole = (do let v ← whole; standAt a.pos; holding [v] (truthy v)) := by intro _; rfl) : XT X L a ρ p := xt_of (pt_val pe_sem he) (evb_B h)
theorem xt_w (h : XW X L a ρ p) : XT X L a ρ p := xt_of (PW.pt pw_sem) h
theorem xw_and1 (h : XT X L a ρ p) : XW X L (.BoolOp .And [a] pos) ρ p := xw_of (pw_and1 pt_sem) h
theorem xw_or1 (h : XT X L a ρ p) : XW X L (.BoolOp .Or [a] pos) ρ p := xw_of (pw_or1 pt_sem) h
theorem xw_and (ha : XT X L a ρ p) (hb : p = true → XW X L (.BoolOp .And (b :: rest) pos) ρ q) : XW X L (.BoolOp .And (a :: b :: rest) pos) ρ (p && q) :=
  xw_of (pw_and pt_sem pw_sem) fun gs H0 H σ Q E k => ha gs H0 H σ _ E fun H1 e1 g1 => by
    cases p with
    | true =>
      show semW X _ σ H1 Q
      exact hb rfl gs H0 H1 σ _ (E.step e1 g1) fun H2 e2 g2 => k H2 (e1.trans e2) g2
    | false => exact k H1 e1 g1
theorem xw_or (ha : XT X L a ρ p) (hb : p = false → XW X L (.BoolOp .Or (b :: rest) pos) ρ q) : XW X L (.BoolOp .Or (a :: b :: rest) pos) ρ (p || q) :=
  xw_of (pw_or pt_sem pw_sem) fun gs H0 H σ Q E k => ha gs H0 H σ _ E fun H1 e1 g1 => by
    cases p with
    | true => exact k H1 e1 g1
    | false =>
      show semW X _ σ H1 Q
      exact hb rfl gs H0 H1 σ _ (E.step e1 g1) fun H2 e2 g2 => k H2 (e1.trans e2) g2
theorem xt_not (ha : XT X L a ρ p) : XT X L (.UnaryOp .Not a pos) ρ (!p) := xt_of (pt_not pt_sem) fun gs H0 H σ Q E k => ha gs H0 H σ _ E fun H1 e1 g1 => k H1 e1 g1
theorem xp_if (hc : XT X L c ρ p) (ha : p = true → XP X L a ρ P) (hb : p = false → XP X L b ρ P) : XP X L (.IfExp c a b pos) ρ P := xp_of (pe_ifExp pt_sem pe_sem pe_sem) fun gs H0 H σ Q E k => hc gs H0 H σ _ E fun H1 e1 g1 => by
  cases p with
  | true =>
    show semE X a σ H1 Q
    exact ha rfl gs H0 H1 σ _ (E.step e1 g1) fun z vz H2 pz e2 g2 rz => k z vz H2 pz (e1.trans e2) g2 (rz.base e1)
  | false =>
    show semE X b σ H1 Q
    exact hb rfl gs H0 H1 σ _ (E.step e1 g1) fun z vz H2 pz e2 g2 rz => k z vz H2 pz (e1.trans e2) g2 (rz.base e1)
theorem xe_if {r : Rep} (hc : XT X L c ρ p) (ha : p = true → XE X L a ρ r) (hb : p = false → XE X L b ρ r) : XE X L (.IfExp c a b pos) ρ r := xp_if hc ha hb

/-! ### arguments, displays -/
variable {es : List Expr} {rs : List Rep} {PA' : List Rep → Prop}
theorem ea_nil : EvA L tNil ρ (fun z => z = []) := fun gs H0 H σ Q E k => k [] [] H rfl (Step.refl H) E.good .nil
theorem xa_nil : XA X L [] ρ [] := xa_of pa_nil ea_nil
theorem xap_cons (ha : XP X L a ρ P) (hr : XAP X L es ρ PA') (hs : starEach (a :: es) X.env = (false, eval a X.env) :: starEach es X.env := by rfl) : XAP X L (a :: es) ρ (fun z => ∃ r rs, z = r :: rs ∧ P r ∧ PA' rs) :=
  xa_of (pa_cons pe_sem pa_sem hs) fun gs H0 H σ Q E k => ha gs H0 H σ _ E fun x vx H1 px e1 g1 rx => hr gs H0 H1 σ _ (E.step e1 g1) fun ys vs H2 py e2 g2 ry =>
    k (x :: ys) (vx :: vs) H2 ⟨x, ys, rfl, px, py⟩ (e1.trans e2) g2 (.cons (rx.mono e2 g1) (ry.base e1))
theorem xa_cons {r : Rep} (ha : XE X L a ρ r) (hr : XA X L es ρ rs) (hs : starEach (a :: es) X.env = (false, eval a X.env) :: starEach es X.env := by rfl) : XA X L (a :: es) ρ (r :: rs) := fun gs H0 H σ Q E k =>
  xap_cons ha hr hs gs H0 H σ Q E fun z vs H' ⟨r', rs', e1, e2, e3⟩ => k z vs H' (by rw [e1, e2, e3])
theorem rvs_d {L : Lay} {H0 H : Hp} : ∀ {ds : List D} {vs : List V}, RVs L H0 H vs (ds.map .d) → DvA H vs ds
  | [], _, .nil => .nil
  | d :: ds, _, .cons h r => .cons h (rvs_d r)
theorem paired_len {α β : Type} {F : α → β → Prop} : ∀ {l : List α} {m : List β}, Paired F l m → l.length = m.length
  | _, _, .nil => rfl
  | _, _, .cons _ r => by rw [List.length_cons, List.length_cons, paired_len r]
theorem xp_tup {k1 : Nat} (h : XAP X L es ρ (fun z => ∃ ds, z = ds.map .d ∧ P (.d (.tup ds)))) (hl : es.length ≤ 1000) (hn : ∀ z, (∃ ds : List D, z = ds.map Rep.d ∧ P (.d (.tup ds))) → z.length ≤ 100000) : XP X L (.Tuple es k1 pos) ρ P :=
  xp_of (pe_tup pa_sem) fun gs H0 H σ Q E k => h gs H0 H σ _ E fun rs vs H1 pz e1 g1 rv => by
    have hlen := hn _ pz
    obtain ⟨ds, rfl, pd⟩ := pz
    have r := rvs_d rv
    refine ⟨sz_of (by rw [r.length]; simpa using hlen), fun p hp => ?_⟩
    exact k _ _ _ pd (e1.trans (Step.new hp)) (g1.new hp) (Dv.tup upd_same (DvA.mono ((Step.new hp).tex g1) _ _ r))
theorem xe_tup {k1} {ds : List D} (h : XA X L es ρ (ds.map .d)) (hl : ds.length ≤ 100000 := by exact Nat.le_of_ble_eq_true rfl) : XE X L (.Tuple es k1 pos) ρ (.d (.tup ds)) :=
  xe_of (pe_tup pa_sem) fun gs H0 H σ Q E k => h gs H0 H σ _ E fun rs vs H1 pz e1 g1 rv => by
    subst pz
    have r := rvs_d rv
    refine ⟨sz_of (by rw [r.length]; exact hl), fun p hp => ?_⟩
    exact k _ _ _ rfl (e1.trans (Step.new hp)) (g1.new hp) (Dv.tup upd_same (DvA.mono ((Step.new hp).tex g1) _ _ r))
theorem xe_lst {ds : List D} (h : XA X L es ρ (ds.map .d)) (hl : ds.length ≤ 100000 := by exact Nat.le_of_ble_eq_true rfl) : XE X L (.List es pos) ρ (.own ds) :=
  xe_of (pe_lst pa_sem) fun gs H0 H σ Q E k => h gs H0 H σ _ E fun rs vs H1 pz e1 g1 rv => by
    subst pz
    have r := rvs_d rv
    refine ⟨sz_of (by rw [r.length]; exact hl), fun p hp => ?_⟩
    exact k _ _ _ rfl (e1.trans (Step.new hp)) (g1.new hp) ⟨p, vs, rfl, e1.free _ hp, fun z => (g1.free hp) z, upd_same, DvA.mono ((Step.new hp).tex g1) _ _ r⟩

/-! ### subscripts -/
theorem od_ixT {K : PySem.W.Frag} {ds : List D} {d : D} (h : atI ds i = some d) : OpD L (rIxT K) (.d (.tup ds)) (.d (.int i)) (fun q => q = .d d) := fun H Hb vx vy Q g hx hy k => by
  obtain ⟨a, vs, rfl, h1, h2⟩ := rv_tup hx
  have hv : ∃ v, atI vs i = some v ∧ Dv Hb v d := by
    unfold atI at h ⊢
    rw [h2.length]
    cases hj : ixN ds.length i with
    | none => rw [hj] at h; cases h
    | some j =>
      rw [hj] at h
      exact h2.get h
  obtain ⟨v, hv, dv⟩ := hv
  exact ⟨a, vs, i, v, rfl, rv_int hy, SqT.of h1, hv, k _ _ Hb rfl (Step.refl _) g dv⟩
theorem od_ixL {K : PySem.W.Frag} {ds : List D} {d : D} (h : atI ds i = some d) : OpD L (rIxL K) (.ro ds) (.d (.int i)) (fun q => q = .d d) := fun H Hb vx vy Q g hx hy k => by
  obtain ⟨a, vs, rfl, _, h1, h2⟩ := hx
  have hv : ∃ v, atI vs i = some v ∧ Dv Hb v d := by
    unfold atI at h ⊢
    rw [h2.length]
    cases hj : ixN ds.length i with
    | none => rw [hj] at h; cases h
    | some j =>
      rw [hj] at h
      exact h2.get h
  obtain ⟨v, hv, dv⟩ := hv
  exact ⟨a, vs, i, v, rfl, rv_int hy, SqL.of h1, hv, k _ _ Hb rfl (Step.refl _) g dv⟩
variable {ds : List D} {d : D}
theorem xe_ixT (ha : XE X L a ρ (.d (.tup ds))) (hb : XE X L b ρ (.d (.int i))) (h : atI ds i = some d) (hs : PlainIx b := by exact fun _ _ => rfl) : XE X L (.Subscript a b pos) ρ (.d d) := xe_of (pe_ix ix_tup pe_sem pe_sem hs) (ev_op2 ha hb (od_ixT h))
theorem xe_ixL (ha : XE X L a ρ (.ro ds)) (hb : XE X L b ρ (.d (.int i))) (h : atI ds i = some d) (hs : PlainIx b := by exact fun _ _ => rfl) : XE X L (.Subscript a b pos) ρ (.d d) := xe_of (pe_ix ix_list pe_sem pe_sem hs) (ev_op2 ha hb (od_ixL h))
/-- slices -/
def cutD (xs : List D) (lo hi : Option Int) : List D := (xs.drop (HT.sIx xs.length 0 lo)).take (HT.sIx xs.length xs.length hi - HT.sIx xs.length 0 lo)
theorem DvA.cut {H : Hp} {vs : List V} {ds : List D} (h : DvA H vs ds) (lo hi : Option Int) : DvA H (cutV vs lo hi) (cutD ds lo hi) := by
  unfold cutV cutD
  rw [h.length]
  exact (h.drop _).take _
theorem xo_none : XO X L none ρ none := xo_of po_none fun gs H0 H σ Q E k => k H (Step.refl H) E.good
theorem xo_some (h : XE X L a ρ (.d (.int i))) : XO X L (some a) ρ (some i) := xo_of (po_some pe_sem) fun gs H0 H σ Q E k => h gs H0 H σ _ E fun x vx H1 px e1 g1 rx => by
  subst px
  exact ⟨i, rv_int rx, k H1 e1 g1⟩
theorem cut_all {α : Type} {xs : List α} {lo hi : Option Int} (h : HT.sIx xs.length 0 lo = 0 ∧ HT.sIx xs.length xs.length hi = xs.length) : (xs.drop (HT.sIx xs.length 0 lo)).take (HT.sIx xs.length xs.length hi - HT.sIx xs.length 0 lo) = xs := by
  rw [h.1, h.2, List.drop_zero, Nat.sub_zero, List.take_length]
theorem xe_slT {lo hi : Option Expr} {l u : Option Int} {p2 : Pos} (ha : XE X L a ρ (.d (.tup ds))) (hl : XO X L lo ρ l) (hu : XO X L hi ρ u) : XE X L (.Subscript a (.Slice lo hi none p2) pos) ρ (.d (.tup (cutD ds l u))) :=
  xe_of (pe_slice sl_tupA pe_sem po_sem po_sem) fun gs H0 H σ Q E k => ha gs H0 H σ _ E fun x vx H1 px e1 g1 rx => hl gs H0 H1 σ _ (E.step e1 g1) fun H2 e2 g2 => hu gs H0 H2 σ _ (E.step (e1.trans e2) g2) fun H3 e3 g3 => by
    subst px
    obtain ⟨p, vs, rfl, h1, h2⟩ := rv_tup ((rx.mono e2 g1).mono e3 g2)
    refine ⟨p, vs, rfl, SqT.of h1, fun hw => ?_, fun hw q hq => ?_⟩
    · refine k _ _ H3 rfl ((e1.trans e2).trans e3) g3 (Dv.tup h1 ?_)
      have z : cutD ds l u = ds := cut_all (by rw [← h2.length]; exact hw)
      rw [z]
      exact h2
    · exact k _ _ _ rfl (((e1.trans e2).trans e3).trans (Step.new hq)) (g3.new hq) (Dv.tup upd_same (DvA.mono ((Step.new hq).tex g3) _ _ (h2.cut l u)))
theorem xe_slL {lo hi : Option Expr} {l u : Option Int} {p2 : Pos} (ha : XE X L a ρ (.ro ds)) (hl : XO X L lo ρ l) (hu : XO X L hi ρ u) : XE X L (.Subscript a (.Slice lo hi none p2) pos) ρ (.own (cutD ds l u)) :=
  xe_of (pe_slice sl_list pe_sem po_sem po_sem) fun gs H0 H σ Q E k => ha gs H0 H σ _ E fun x vx H1 px e1 g1 rx => hl gs H0 H1 σ _ (E.step e1 g1) fun H2 e2 g2 => hu gs H0 H2 σ _ (E.step (e1.trans e2) g2) fun H3 e3 g3 => by
    subst px
    obtain ⟨p, vs, rfl, h0, h1, h2⟩ := (rx.mono e2 g1).mono e3 g2
    refine ⟨p, vs, rfl, SqL.of h1, fun q hq => ?_⟩
    exact k _ _ _ rfl (((e1.trans e2).trans e3).trans (Step.new hq)) (g3.new hq) ⟨q, _, rfl, ((e1.trans e2).trans e3).free _ hq, g3.free hq, upd_same, DvA.mono ((Step.new hq).tex g3) _ _ (h2.cut l u)⟩
/-- tuples, lists laid together -/
theorem xe_catT {es : List D} (ha : XE X L a ρ (.d (.tup ds))) (hb : XE X L b ρ (.d (.tup es))) (hl : ds.length + es.length ≤ 100000) : XE X L (.BinOp a .Add b pos) ρ (.d (.tup (ds ++ es))) := xe_of (pe_op op_catA pe_sem pe_sem) (ev_op2 ha hb fun H Hb vx vy Q g hx hy k => by
  obtain ⟨p, vs, rfl, h1, h2⟩ := rv_tup hx
  obtain ⟨q, ws, rfl, h3, h4⟩ := rv_tup hy
  refine ⟨p, q, vs, ws, rfl, rfl, SqT.of h1, SqT.of h3, sz_of (by rw [h2.length, h4.length]; exact hl), fun z => ?_, fun _ z => ?_, fun _ _ u hu => ?_⟩
  · subst z
    cases h2
    exact k _ _ Hb rfl (Step.refl _) g (Dv.tup h3 h4)
  · subst z
    cases h4
    rw [List.append_nil] at k
    exact k _ _ Hb rfl (Step.refl _) g (Dv.tup h1 h2)
  · exact k _ _ _ rfl (Step.new hu) (g.new hu) (Dv.tup upd_same (DvA.mono ((Step.new hu).tex g) _ _ (h2.append h4))))
theorem xe_catL {es : List D} (ha : XE X L a ρ (.ro ds)) (hb : XE X L b ρ (.ro es)) (hl : ds.length + es.length ≤ 100000) : XE X L (.BinOp a .Add b pos) ρ (.own (ds ++ es)) := xe_of (pe_op op_cat pe_sem pe_sem) (ev_op2 ha hb fun H Hb vx vy Q g hx hy k => by
  obtain ⟨p, vs, rfl, _, h1, h2⟩ := hx
  obtain ⟨q, ws, rfl, _, h3, h4⟩ := hy
  refine ⟨p, q, vs, ws, rfl, rfl, h1, h3, sz_of (by rw [h2.length, h4.length]; exact hl), fun u hu => ?_⟩
  exact k _ _ _ rfl (Step.new hu) (g.new hu) ⟨u, _, rfl, hu, g.free hu, upd_same, DvA.mono ((Step.new hu).tex g) _ _ (h2.append h4)⟩)
end
end Dl
-- Lay3
/-! Lay3: calls by contract, blocks, loops. -/
namespace Dl
open PySem L2 PyProof.Rows

/-! ### contracts -/
def noOwn (rs : List Rep) : Bool := rs.all fun r => !r.isOwn
abbrev Ct := List Rep → (Rep → Prop) → Prop
def spG (L : Lay) (G : Ct) : Sp := fun vs H Q _ =>
  ∃ rs P, G rs P ∧ noOwn rs = true ∧ Good L H ∧ RVs L H H vs rs ∧ ∀ r v H', P r → Step L H H' → Good L H' → RV L H H' v r → Q v H'
/-- a def of the module that keeps its contract -/
structure Cal (P : Program) (w : World) (K : PySem.W.Frag) (mg : Str → Option Value) (base : Heap) (k : Nat) (x : Str) (ps : List Str) (sp : Sp) : Prop where
  ex : ∃ (f : Addr) (fd : FuncData), mg x = some (.ref f) ∧ PySem.W.keepIn K (.ref f) = true ∧ Binds K fd ps [] ∧ FnOk P w K mg base CX0 k f fd ps sp
theorem Cal.mono {P : Program} {w : World} {K : PySem.W.Frag} {mg : Str → Option Value} {base : Heap} {j k : Nat} {x : Str} {ps : List Str} {sp : Sp} (C : Cal P w K mg base j x ps sp) (h : j ≤ k) : Cal P w K mg base k x ps sp := by
  obtain ⟨f, fd, h1, h2, h3, h4⟩ := C.ex
  exact ⟨f, fd, h1, h2, h3, h4.mono h⟩
theorem rvs_pass {L : Lay} {H0 H : Hp} : ∀ {rs : List Rep} {vs : List V}, RVs L H0 H vs rs → noOwn rs = true → RVs L H H vs rs
  | [], _, .nil, _ => .nil
  | r :: rs, _, .cons q t, h => by
    unfold noOwn at h
    simp only [Bool.and_eq_true, List.all_cons] at h
    refine .cons ?_ (rvs_pass t h.2)
    cases r with
    | d x => exact q
    | ro ds => exact q
    | tape => exact q
    | any => trivial
    | own ds => cases h.1
    | dct ds => cases h.1
section
variable {X : Cx} {L : Lay} {ρ : Rho} {P Pa Pb : Rep → Prop} {te ta tb tc : TE} {e a b c : Expr} {p pos : Pos} {es : List Expr} {rs : List Rep} {PA' : List Rep → Prop} {G : Ct} {k : Nat} {x : Str} {ps : List Str}
theorem ev_call {ta : TA} (ha : EvA L ta ρ PA') (pre : ∀ rs, PA' rs → noOwn rs = true ∧ ∃ P', G rs P' ∧ ∀ r, P' r → P r) : EvP L (tCall (spG L G) [] E0 ta) ρ P := fun gs H0 H σ Q E k =>
  ha gs H0 H σ _ E fun rs vs H1 pr e1 g1 rv => by
    obtain ⟨no, P', h1, h2⟩ := pre rs pr
    exact ⟨rs, P', h1, no, g1, by rw [List.append_nil]; exact rvs_pass rv no, fun r v H2 pp e2 g2 rr => k r v H2 (h2 r pp) (e1.trans e2) g2 (rr.base e1)⟩
theorem xp_callP (C : Cal X.prog X.w X.K X.mg X.base k x ps (spG L G)) (hr : Room k X.A) (ha : XAP X L (e :: es) ρ PA') (pre : ∀ rs, PA' rs → noOwn rs = true ∧ ∃ P', G rs P' ∧ ∀ r, P' r → P r) (hg : Gl X x := by rfl)
    (hdb : (x == ("__debug__" : Str)) = false := by decide) (he : starEach (e :: es) X.env = (false, eval e X.env) :: starEach es X.env := by rfl) (hpl : (backTo pos (starEach es X.env)).any (·.1) = false := by rfl) : XP X L (.Call (.Name x p) (e :: es) [] pos) ρ P := by
  obtain ⟨f, fd, h1, h2, h3, h4⟩ := C.ex
  exact xp_of (pe_call h4 hr hg h1 h2 h3 .nil pass0 pa_sem hdb he hpl) (ev_call ha pre)
/-- f(e, ..) by its contract -/
theorem xp_call (C : Cal X.prog X.w X.K X.mg X.base k x ps (spG L G)) (hr : Room k X.A) (ha : XA X L (e :: es) ρ rs) (pre : G rs P) (no : noOwn rs = true := by rfl) (hg : Gl X x := by rfl)
    (hdb : (x == ("__debug__" : Str)) = false := by decide) (he : starEach (e :: es) X.env = (false, eval e X.env) :: starEach es X.env := by rfl) (hpl : (backTo pos (starEach es X.env)).any (·.1) = false := by rfl) : XP X L (.Call (.Name x p) (e :: es) [] pos) ρ P :=
  xp_callP C hr ha (fun z q => by rw [q]; exact ⟨no, P, pre, fun _ h => h⟩) hg hdb he hpl
theorem xe_call {r : Rep} (C : Cal X.prog X.w X.K X.mg X.base k x ps (spG L G)) (hr : Room k X.A) (ha : XA X L (e :: es) ρ rs) (pre : G rs (fun z => z = r)) (no : noOwn rs = true := by rfl) (hg : Gl X x := by rfl)
    (hdb : (x == ("__debug__" : Str)) = false := by decide) (he : starEach (e :: es) X.env = (false, eval e X.env) :: starEach es X.env := by rfl) (hpl : (backTo pos (starEach es X.env)).any (·.1) = false := by rfl) : XE X L (.Call (.Name x p) (e :: es) [] pos) ρ r :=
  xp_call C hr ha pre no hg hdb he hpl

/-! ### built-ins by values -/
def CallD (L : Lay) (r : List V → Hp → VK → Prop) (rs : List Rep) (P : Rep → Prop) : Prop := ∀ H Hb vs (Q : VK), Good L Hb → Step L H Hb → RVs L H Hb vs rs → (∀ z v H', P z → Step L Hb H' → Good L H' → RV L Hb H' v z → Q v H') → r vs Hb Q
theorem ev_cb {ta : TA} {r : List V → Hp → VK → Prop} (ha : EvA L ta ρ PA') (h : ∀ rs, PA' rs → CallD L r rs P) : EvP L (tCB r ta) ρ P := fun gs H0 H σ Q E k =>
  ha gs H0 H σ _ E fun rs vs H1 pr e1 g1 rv => h rs pr H H1 vs Q g1 e1 rv fun z v H2 pz e2 g2 rz => k z v H2 pz (e1.trans e2) g2 (rz.base e1)
theorem xp_cb {id : String} {r : List V → Hp → VK → Prop} (hc : CallR X (.builtin id) r) (hm : X.mg x = none) (hv : bootBuiltins x = some (.builtin id)) (ha : XA X L (e :: es) ρ rs) (h : CallD L r rs P) (hg : Gl X x := by rfl) (hn : x ≠ "__name__" := by decide) (hdb : (x == ("__debug__" : Str)) = false := by decide)
    (he : starEach (e :: es) X.env = (false, eval e X.env) :: starEach es X.env := by rfl) (hpl : (backTo pos (starEach es X.env)).any (·.1) = false := by rfl) : XP X L (.Call (.Name x p) (e :: es) [] pos) ρ P :=
  xp_of (pe_callB hc hg hm hv pa_sem hn hdb he hpl) (ev_cb ha fun z q => by rw [q]; exact h)
theorem xp_ct {T : String} {r : List V → Hp → VK → Prop} (hc : CallR X (.type T) r) (hm : X.mg x = none) (hv : bootBuiltins x = some (.type T)) (ha : XA X L (e :: es) ρ rs) (h : CallD L r rs P) (hg : Gl X x := by rfl) (hn : x ≠ "__name__" := by decide) (hdb : (x == ("__debug__" : Str)) = false := by decide)
    (he : starEach (e :: es) X.env = (false, eval e X.env) :: starEach es X.env := by rfl) (hpl : (backTo pos (starEach es X.env)).any (·.1) = false := by rfl) : XP X L (.Call (.Name x p) (e :: es) [] pos) ρ P :=
  xp_of (pe_callTy hc hg hm hv pa_sem hn hdb he hpl) (ev_cb ha fun z q => by rw [q]; exact h)
theorem rvs1 {L : Lay} {H0 H : Hp} {vs : List V} {r : Rep} (h : RVs L H0 H vs [r]) : ∃ v, vs = [v] ∧ RV L H0 H v r := by
  cases h with
  | cons q t => cases t; exact ⟨_, rfl, q⟩
theorem rvs2 {L : Lay} {H0 H : Hp} {vs : List V} {r r' : Rep} (h : RVs L H0 H vs [r, r']) : ∃ v w, vs = [v, w] ∧ RV L H0 H v r ∧ RV L H0 H w r' := by
  cases h with
  | cons q t =>
    obtain ⟨w, rfl, z⟩ := rvs1 t
    exact ⟨_, _, rfl, q, z⟩
variable {ds : List D} {i : Int}
theorem xe_lenT (ha : XE X L a ρ (.d (.tup ds))) (hm : X.mg "len" = none) (hg : Gl X "len" := by rfl) (hs : starEach [a] X.env = (false, eval a X.env) :: starEach [] X.env := by rfl) (hpl : (backTo pos (starEach [] X.env)).any (·.1) = false := by rfl) : XE X L (.Call (.Name "len" p) [a] [] pos) ρ (.d (.int ds.length)) :=
  xp_cb call_len_seq hm PySem.boot_len (xa_cons ha xa_nil hs) (fun H Hb vs Q g e rv k => by
    obtain ⟨v, rfl, q⟩ := rvs1 rv
    obtain ⟨t, xs, rfl, h1, h2⟩ := rv_tup q
    refine ⟨t, xs, rfl, .inr (SqT.of h1), ?_⟩
    rw [h2.length]
    exact k _ _ Hb rfl (Step.refl _) g (Dv.int _)) hg (by decide) (by decide) hs hpl
theorem xe_lenL (ha : XE X L a ρ (.ro ds)) (hm : X.mg "len" = none) (hg : Gl X "len" := by rfl) (hs : starEach [a] X.env = (false, eval a X.env) :: starEach [] X.env := by rfl) (hpl : (backTo pos (starEach [] X.env)).any (·.1) = false := by rfl) : XE X L (.Call (.Name "len" p) [a] [] pos) ρ (.d (.int ds.length)) :=
  xp_cb call_len_seq hm PySem.boot_len (xa_cons ha xa_nil hs) (fun H Hb vs Q g e rv k => by
    obtain ⟨v, rfl, q⟩ := rvs1 rv
    obtain ⟨t, xs, rfl, _, h1, h2⟩ := q
    refine ⟨t, xs, rfl, .inl (SqL.of h1), ?_⟩
    rw [h2.length]
    exact k _ _ Hb rfl (Step.refl _) g (Dv.int _)) hg (by decide) (by decide) hs hpl
theorem xe_tupleL (ha : XE X L a ρ (.ro ds)) (hm : X.mg "tuple" = none) (hg : Gl X "tuple" := by rfl) (hs : starEach [a] X.env = (false, eval a X.env) :: starEach [] X.env := by rfl) (hpl : (backTo pos (starEach [] X.env)).any (·.1) = false := by rfl) : XE X L (.Call (.Name "tuple" p) [a] [] pos) ρ (.d (.tup ds)) :=
  xp_ct call_tuple_of hm (by decide +kernel) (xa_cons ha xa_nil hs) (fun H Hb vs Q g e rv k => by
    obtain ⟨v, rfl, q⟩ := rvs1 rv
    obtain ⟨t, xs, rfl, _, h1, h2⟩ := q
    refine ⟨t, xs, rfl, .inl ⟨SqL.of h1, fun l hl => ?_⟩⟩
    exact k _ _ _ rfl (Step.new hl) (g.new hl) (Dv.tup upd_same (DvA.mono ((Step.new hl).tex g) _ _ h2))) hg (by decide) (by decide) hs hpl
theorem xe_listT (ha : XE X L a ρ (.d (.tup ds))) (hm : X.mg "list" = none) (hg : Gl X "list" := by rfl) (hs : starEach [a] X.env = (false, eval a X.env) :: starEach [] X.env := by rfl) (hpl : (backTo pos (starEach [] X.env)).any (·.1) = false := by rfl) : XE X L (.Call (.Name "list" p) [a] [] pos) ρ (.own ds) :=
  xp_ct call_list_of hm (by decide +kernel) (xa_cons ha xa_nil hs) (fun H Hb vs Q g e rv k => by
    obtain ⟨v, rfl, q⟩ := rvs1 rv
    obtain ⟨t, xs, rfl, h1, h2⟩ := rv_tup q
    refine ⟨t, xs, rfl, .inr (SqT.of h1), fun l hl => ?_⟩
    exact k _ _ _ rfl (Step.new hl) (g.new hl) ⟨l, _, rfl, hl, g.free hl, upd_same, DvA.mono ((Step.new hl).tex g) _ _ h2⟩) hg (by decide) (by decide) hs hpl
theorem xe_intI (ha : XE X L a ρ (.d (.int i))) (hm : X.mg "int" = none) (hg : Gl X "int" := by rfl) (hs : starEach [a] X.env = (false, eval a X.env) :: starEach [] X.env := by rfl) (hpl : (backTo pos (starEach [] X.env)).any (·.1) = false := by rfl) : XE X L (.Call (.Name "int" p) [a] [] pos) ρ (.d (.int i)) :=
  xp_ct call_int1 hm (by decide +kernel) (xa_cons ha xa_nil hs) (fun H Hb vs Q g e rv k => by
    obtain ⟨v, rfl, q⟩ := rvs1 rv
    obtain rfl := rv_int q
    exact .inl ⟨_, rfl, k _ _ Hb rfl (Step.refl _) g (Dv.int _)⟩) hg (by decide) (by decide) hs hpl
theorem xe_intB {t : Bool} (ha : XE X L a ρ (.d (.bl t))) (hm : X.mg "int" = none) (hg : Gl X "int" := by rfl) (hs : starEach [a] X.env = (false, eval a X.env) :: starEach [] X.env := by rfl) (hpl : (backTo pos (starEach [] X.env)).any (·.1) = false := by rfl) : XE X L (.Call (.Name "int" p) [a] [] pos) ρ (.d (.int (if t then 1 else 0))) :=
  xp_ct call_int1 hm (by decide +kernel) (xa_cons ha xa_nil hs) (fun H Hb vs Q g e rv k => by
    obtain ⟨v, rfl, q⟩ := rvs1 rv
    obtain rfl := rv_bl q
    exact .inr ⟨_, rfl, k _ _ Hb rfl (Step.refl _) g (Dv.int _)⟩) hg (by decide) (by decide) hs hpl
theorem xe_all {bs : List Bool} (ha : XE X L a ρ (.ro (bs.map .bl))) (hm : X.mg "all" = none) (hc : X.calm = true := by rfl) (hg : Gl X "all" := by rfl) (hs : starEach [a] X.env = (false, eval a X.env) :: starEach [] X.env := by rfl) (hpl : (backTo pos (starEach [] X.env)).any (·.1) = false := by rfl) : XE X L (.Call (.Name "all" p) [a] [] pos) ρ (.d (.bl (bs.all id))) :=
  xp_cb (cr_all hc) hm (by decide +kernel) (xa_cons ha xa_nil hs) (fun H Hb vs Q g e rv k => by
    obtain ⟨v, rfl, q⟩ := rvs1 rv
    obtain ⟨t, xs, rfl, _, h1, h2⟩ := q
    obtain rfl := h2.bls
    exact ⟨t, bs, rfl, SqL.of h1, k _ _ Hb rfl (Step.refl _) g (Dv.bl _)⟩) hg (by decide) (by decide) hs hpl
theorem xe_sumL {ns : List Int} (ha : XE X L a ρ (.ro (ns.map .int))) (hm : X.mg "sum" = none) (hc : X.calm = true := by rfl) (hg : Gl X "sum" := by rfl) (hs : starEach [a] X.env = (false, eval a X.env) :: starEach [] X.env := by rfl) (hpl : (backTo pos (starEach [] X.env)).any (·.1) = false := by rfl) : XE X L (.Call (.Name "sum" p) [a] [] pos) ρ (.d (.int ns.sum)) :=
  xp_cb (cr_sum hc) hm (by decide +kernel) (xa_cons ha xa_nil hs) (fun H Hb vs Q g e rv k => by
    obtain ⟨v, rfl, q⟩ := rvs1 rv
    obtain ⟨t, xs, rfl, _, h1, h2⟩ := q
    obtain rfl := h2.ints
    exact ⟨t, ns, rfl, SqL.of h1, k _ _ Hb rfl (Step.refl _) g (Dv.int _)⟩) hg (by decide) (by decide) hs hpl
/-- isinstance(x, T) -/
def isTyN (n T : String) : Bool := n == T || (n == "bool" && T == "int")
def D.tyN : D → String
  | .non => "NoneType"
  | .bl _ => "bool"
  | .int _ => "int"
  | .str _ => "str"
  | .tup _ => "tuple"
  | .obj _ => "?"
  | .opq => "?"
def D.isTy (d : D) (T : String) : Bool := isTyN d.tyN T
theorem xe_isi {T : String} {d : D} {p2 : Pos} {y : Str} (ha : XE X L a ρ (.d d)) (hk : d.known = true := by rfl) (hT : T = "int" ∨ T = "bool" ∨ T = "tuple" ∨ T = "str" := by decide) (hm : X.mg "isinstance" = none) (hm2 : X.mg y = none) (hy : bootBuiltins y = some (.type T) := by decide +kernel) (hg : Gl X "isinstance" := by rfl) (hg2 : Gl X y := by rfl)
    (hs : starEach [a, .Name y p2] X.env = (false, eval a X.env) :: starEach [.Name y p2] X.env := by rfl) (hs2 : starEach [.Name y p2] X.env = (false, eval (.Name y p2) X.env) :: starEach [] X.env := by rfl) (hn : y ≠ "__name__" := by decide) (hd : (y == ("__debug__" : Str)) = false := by decide)
    (hpl : (backTo pos (starEach [.Name y p2] X.env)).any (·.1) = false := by rfl) : XE X L (.Call (.Name "isinstance" p) [a, .Name y p2] [] pos) ρ (.d (.bl (d.isTy T))) :=
  xe_of (pe_callB call_isi hg hm (by decide +kernel) (pa_cons pe_sem (pa_cons (pe_bltn (v := .ty T) hg2 hm2 hy rfl hn hd) pa_nil hs2) hs) (by decide) (by decide) hs hpl) fun gs H0 H σ Q E k => ha gs H0 H σ _ E fun x vx H1 px e1 g1 rx => by
    subst px
    have ty : ∀ t : String, ClsV (.ty t) (.type t) := fun t => .ty t
    cases rx with
    | opq => cases hk
    | obj => cases hk
    | non => rcases hT with rfl | rfl | rfl | rfl <;> exact ⟨_, _, _, _, _, rfl, .ty _, .base .non, kit_ty (show kitB "NoneType" _ = some (isTyN "NoneType" _) by decide +kernel), k _ _ H1 rfl e1 g1 (Dv.bl _)⟩
    | bl z => rcases hT with rfl | rfl | rfl | rfl <;> exact ⟨_, _, _, _, _, rfl, .ty _, .base (.bl z), kit_ty (show kitB "bool" _ = some (isTyN "bool" _) by decide +kernel), k _ _ H1 rfl e1 g1 (Dv.bl _)⟩
    | int z => rcases hT with rfl | rfl | rfl | rfl <;> exact ⟨_, _, _, _, _, rfl, .ty _, .base (.int z), kit_ty (show kitB "int" _ = some (isTyN "int" _) by decide +kernel), k _ _ H1 rfl e1 g1 (Dv.bl _)⟩
    | str z => rcases hT with rfl | rfl | rfl | rfl <;> exact ⟨_, _, _, _, _, rfl, .ty _, .base (.str z), kit_ty (show kitB "str" _ = some (isTyN "str" _) by decide +kernel), k _ _ H1 rfl e1 g1 (Dv.bl _)⟩
    | tup z _ => rcases hT with rfl | rfl | rfl | rfl <;> exact ⟨_, _, _, _, _, rfl, .ty _, .base (.tup z), kit_ty (show kitB "tuple" _ = some (isTyN "tuple" _) by decide +kernel), k _ _ H1 rfl e1 g1 (Dv.bl _)⟩
end
end Dl
-- Lay4
/-! Lay4: blocks, loops. -/
namespace Dl
open PySem L2 PyProof.Rows

/-- what is wanted behind a block, over data -/
structure DE where
  nx : Rho → Prop
  rt : Rep → Prop
  bk : Rho → Prop := fun _ => False
  ct : Rho → Prop := fun _ => False
structure Lift (L : Lay) (gs : Gs) (H0 : Hp) (E : DE) (D : Ends) : Prop where
  nx : ∀ ρ' σ' H', E.nx ρ' → En L gs H0 H' σ' ρ' → D.nx σ' H'
  rt : ∀ r v H', E.rt r → Step L H0 H' → Good L H' → RV L H0 H' v r → D.rt v H'
  bk : ∀ ρ' σ' H', E.bk ρ' → En L gs H0 H' σ' ρ' → D.bk σ' H'
  ct : ∀ ρ' σ' H', E.ct ρ' → En L gs H0 H' σ' ρ' → D.ct σ' H'
def EvS (L : Lay) (ts : TS) (ρ : Rho) (E : DE) : Prop := ∀ gs H0 H σ D, En L gs H0 H σ ρ → Lift L gs H0 E D → ts D σ H
def XSs (X : Cx) (L : Lay) (sts : List Stmt) (ρ : Rho) (E : DE) : Prop := EvS L (semSs X sts) ρ E

section
variable {X : Cx} {L : Lay} {ρ : Rho} {P Pa Pb : Rep → Prop} {te ta tb tc : TE} {e a b c : Expr} {p pos : Pos} {es : List Expr} {rest sts body : List Stmt} {st : Stmt} {ts u : TS} {E : DE}
theorem xs_of (h : PSs X sts ts) (q : EvS L ts ρ E) : XSs X L sts ρ E := fun gs H0 H σ D En l pins s I => h.run pins s σ H D I (q gs H0 H σ D En l)
theorem xs_cons (h : PS X st ts) (q : EvS L (tSeq ts (semSs X rest)) ρ E) : XSs X L (st :: rest) ρ E := xs_of (pss_cons h pss_sem) q
theorem xs_nil (h : E.nx ρ) : XSs X L [] ρ E := xs_of pss_nil fun gs H0 H σ D En l => l.nx ρ σ H h En
/-- less known, more wanted -/
theorem XSs.less {ρ' : Rho} (h : XSs X L sts ρ' E) (hl : ρ'.length = ρ.length) (hi : ∀ (i : Nat) r, ρ'[i]? = some (some r) → ρ[i]? = some (some r)) : XSs X L sts ρ E := fun gs H0 H σ D En l => h gs H0 H σ D (En.less hl hi) l
theorem xs_ret (h : XP X L e ρ E.rt) : XSs X L (.Return (some e) pos :: rest) ρ E := xs_of (pss_cons (ps_ret pe_sem) pss_never) fun gs H0 H σ D En l =>
  h gs H0 H σ _ En fun r v H1 pr e1 g1 rv => l.rt r v H1 pr (En.st.trans e1) g1 (rv.base En.st)
theorem xs_retE {r : Rep} (h : XE X L e ρ r) (hr : E.rt r) : XSs X L (.Return (some e) pos :: rest) ρ E := xs_ret (h.p hr)
/-- a list of the frame's own goes out -/
theorem xs_retL {i : Nat} {x : Str} {ds : List D} (hr : ρ[i]? = some (some (.own ds))) (h : E.rt (.own ds)) (hN : X.N[i]? = some x := by rfl) (hv : Vis X.env.scope x := by first | exact Or.inl rfl | exact Or.inr (Or.inl rfl) | exact Or.inr (Or.inr rfl))
    (hd : (x == ("__debug__" : Str)) = false := by decide) (hcd : (x == ("__classdict__" : Str)) = false := by decide) : XSs X L (.Return (some (.Name x p)) pos :: rest) ρ E := xs_of (pss_cons (ps_ret (pe_var hN hv hd hcd)) pss_never) fun gs H0 H σ D En l => by
  obtain ⟨v, h1, h2⟩ := En.slot i _ hr
  exact ⟨v, h1, l.rt _ v H h En.st En.good h2⟩
theorem En.fresh {L : Lay} {gs : Gs} {H0 H H1 : Hp} {σ : L2.St} {ρ : Rho} {i : Nat} {v : V} {r : Rep} (E : En L gs H0 H σ ρ) (e : Step L H H1) (g : Good L H1) (rv : RV L H H1 v r) (hr : r.lk = false ∨ r.isOwn = true) : En L gs H0 H1 (σ.set i (some v)) (ρ.set i (some r)) := by
  refine (E.step e g).set (rv.base E.st) fun lk p hv => ?_
  have ow : r.isOwn = true := by
    rcases hr with z | z
    · rw [z] at lk; cases lk
    · exact z
  have hp : H p = none := by
    cases r with
    | own ds =>
      obtain ⟨q, vs, h1, h2, _⟩ := rv
      rw [hv] at h1; cases h1; exact h2
    | dct ds =>
      obtain ⟨q, vs, h1, h2, _⟩ := rv
      rw [hv] at h1; cases h1; exact h2
    | d x => cases ow
    | ro x => cases ow
    | tape => cases ow
    | any => cases ow
  refine ⟨fun j r' hj lk' hn hs => ?_, fun _ q hq z => ?_⟩
  · exfalso
    obtain ⟨w, w1, w2⟩ := E.slot j r' hj
    rw [w1] at hs
    cases hs
    cases r' with
    | own ds =>
      obtain ⟨q, vs, h1, h2, _, h4, _⟩ := w2
      cases h1; rw [h4] at hp; cases hp
    | dct ds =>
      obtain ⟨q, vs, h1, h2, _, h4, _⟩ := w2
      cases h1; rw [h4] at hp; cases hp
    | ro ds =>
      obtain ⟨q, vs, h1, h2, h4, _⟩ := w2
      cases h1; rw [h4] at hp; cases hp
    | d x => cases lk'
    | tape => cases lk'
    | any => cases lk'
  · have z2 := (E.gd q hq).1
    rw [z, hp] at z2
    cases z2
/-- a new list kept to be read -/
theorem En.freshRo {L : Lay} {gs : Gs} {H0 H H1 : Hp} {σ : L2.St} {ρ : Rho} {i : Nat} {v : V} {ds : List D} (E : En L gs H0 H σ ρ) (e : Step L H H1) (g : Good L H1) (rv : RV L H H1 v (.own ds)) : En L gs H0 H1 (σ.set i (some v)) (ρ.set i (some (.ro ds))) := by
  refine (E.step e g).set (rv.rd.base E.st) fun lk p hv => ?_
  obtain ⟨q, vs, h1, hp, _⟩ := rv
  rw [hv] at h1; cases h1
  refine ⟨fun j r' hj lk' hn hs => ?_, fun z => by cases z⟩
  exfalso
  obtain ⟨w, w1, w2⟩ := E.slot j r' hj
  rw [w1] at hs
  cases hs
  cases r' with
  | own ds =>
    obtain ⟨q, vs, h1, h2, _, h4, _⟩ := w2
    cases h1; rw [h4] at hp; cases hp
  | dct ds =>
    obtain ⟨q, vs, h1, h2, _, h4, _⟩ := w2
    cases h1; rw [h4] at hp; cases hp
  | ro ds =>
    obtain ⟨q, vs, h1, h2, h4, _⟩ := w2
    cases h1; rw [h4] at hp; cases hp
  | d x => cases lk'
  | tape => cases lk'
  | any => cases lk'
variable {i : Nat} {x : Str} {r : Rep} {pos' : Pos}
theorem xs_setP (he : XP X L e ρ P) (hn : ∀ r, P r → r.lk = false ∨ r.isOwn = true) (k : ∀ r, P r → XSs X L rest (ρ.set i (some r)) E) (hN : X.N.Nodup := by assumption) (hi : X.N[i]? = some x := by rfl) (hx : Loc X.env.scope x := by exact Or.inl rfl)
    (hs : swapsWith e (some (.Name x pos')) pos.line X.env = pure false := by rfl) (hf : X.fn x = true ∨ X.env.scope.names.lookup x = some .local := by first | exact .inl rfl | exact .inr rfl) : XSs X L (.Assign [.Name x pos'] e pos :: rest) ρ E :=
  xs_cons (ps_set hN hi hx pe_sem hs hf) fun gs H0 H σ D En l => he gs H0 H σ _ En fun r v H1 pr e1 g1 rv => k r pr gs H0 H1 _ D (En.fresh e1 g1 rv (hn r pr)) ⟨l.nx, l.rt, l.bk, l.ct⟩
theorem xs_set (he : XE X L e ρ r) (k : XSs X L rest (ρ.set i (some r)) E) (hn : r.lk = false ∨ r.isOwn = true := by first | exact .inl rfl | exact .inr rfl) (hN : X.N.Nodup := by assumption) (hi : X.N[i]? = some x := by rfl) (hx : Loc X.env.scope x := by exact Or.inl rfl)
    (hs : swapsWith e (some (.Name x pos')) pos.line X.env = pure false := by rfl) (hf : X.fn x = true ∨ X.env.scope.names.lookup x = some .local := by first | exact .inl rfl | exact .inr rfl) : XSs X L (.Assign [.Name x pos'] e pos :: rest) ρ E :=
  xs_setP he (fun z q => by rw [q]; exact hn) (fun z q => by rw [q]; exact k) hN hi hx hs hf
theorem xs_setRo {ds : List D} (he : XE X L e ρ (.own ds)) (k : XSs X L rest (ρ.set i (some (.ro ds))) E) (hN : X.N.Nodup := by assumption) (hi : X.N[i]? = some x := by rfl) (hx : Loc X.env.scope x := by exact Or.inl rfl)
    (hs : swapsWith e (some (.Name x pos')) pos.line X.env = pure false := by rfl) (hf : X.fn x = true ∨ X.env.scope.names.lookup x = some .local := by first | exact .inl rfl | exact .inr rfl) : XSs X L (.Assign [.Name x pos'] e pos :: rest) ρ E :=
  xs_cons (ps_set hN hi hx pe_sem hs hf) fun gs H0 H σ D En l => he gs H0 H σ _ En fun r v H1 pr e1 g1 rv => by
    subst pr
    exact k gs H0 H1 _ D (En.freshRo e1 g1 rv) ⟨l.nx, l.rt, l.bk, l.ct⟩
/-- targets over data -/
def EvG (L : Lay) (g : TG) (ρ : Rho) (d : D) (ρ' : Rho) : Prop := ∀ gs H0 H σ v (Q : L2.St → Hp → Prop), En L gs H0 H σ ρ → Dv H v d → (∀ σ', En L gs H0 H σ' ρ' → Q σ' H) → g v σ H Q
abbrev g2 (K : PySem.W.Frag) (i j : Nat) : TG := gTup K 2 (gCons (gName i) (gCons (gName j) gNil))
abbrev g3 (K : PySem.W.Frag) (i j l : Nat) : TG := gTup K 3 (gCons (gName i) (gCons (gName j) (gCons (gName l) gNil)))
theorem evg_name {d : D} : EvG L (gName i) ρ d (ρ.set i (some (.d d))) := fun gs H0 H σ v Q E h k => k _ (E.setd i h)
theorem evg_tup2 {K : PySem.W.Frag} {i j : Nat} {x y : D} : EvG L (gTup K 2 (gCons (gName i) (gCons (gName j) gNil))) ρ (.tup [x, y]) ((ρ.set i (some (.d x))).set j (some (.d y))) := fun gs H0 H σ v Q E h k => by
  cases h with
  | @tup a vs _ h1 h2 =>
    cases h2 with
    | cons q1 t => cases t with
      | cons q2 t => cases t with
        | nil => exact ⟨a, _, rfl, SqT.of h1, rfl, _, _, rfl, _, _, rfl, rfl, k _ ((E.setd i q1).setd j q2)⟩
theorem evg_tup3 {K : PySem.W.Frag} {i j m : Nat} {x y z : D} : EvG L (gTup K 3 (gCons (gName i) (gCons (gName j) (gCons (gName m) gNil)))) ρ (.tup [x, y, z]) (((ρ.set i (some (.d x))).set j (some (.d y))).set m (some (.d z))) := fun gs H0 H σ v Q E h k => by
  cases h with
  | @tup a vs _ h1 h2 =>
    cases h2 with
    | cons q1 t => cases t with
      | cons q2 t => cases t with
        | cons q3 t => cases t with
          | nil => exact ⟨a, _, rfl, SqT.of h1, rfl, _, _, rfl, _, _, rfl, _, _, rfl, rfl, k _ (((E.setd i q1).setd j q2).setd m q3)⟩
/-- a, b = e -/
theorem xs_asg {tg : Expr} {g : TG} {d : D} {ρ' : Rho} (he : XE X L e ρ (.d d)) (hg : PG X tg g) (eg : EvG L g ρ d ρ') (k : XSs X L rest ρ' E) (hs : swapsWithSole [tg] e pos.line X.env = pure false := by rfl) (hw : swappedStores [tg] e X.env = pure none := by rfl)
    (h1 : (assignEach [tg] X.env).map (·.2) = [assign tg X.env] := by rfl) : XSs X L (.Assign [tg] e pos :: rest) ρ E :=
  xs_cons (ps_asg pe_sem hg hs hw h1) fun gs H0 H σ D En l => he gs H0 H σ _ En fun r v H1 pr e1 g1 rv => by
    subst pr
    exact eg gs H0 H1 σ v _ (En.step e1 g1) rv fun σ' E' => k gs H0 H1 σ' D E' ⟨l.nx, l.rt, l.bk, l.ct⟩
/-- x += e -/
theorem xs_augAdd {n m : Int} (hx : ρ[i]? = some (some (.d (.int n)))) (he : XE X L e ρ (.d (.int m))) (k : XSs X L rest (ρ.set i (some (.d (.int (n + m))))) E) (hN : X.N.Nodup := by assumption) (hi : X.N[i]? = some x := by rfl) (hl : Loc X.env.scope x := by exact Or.inl rfl)
    (h1 : PS X (.AugAssign (.Name x pos') .Add e pos) (tAug i (semE X e) (ipI fun i j => i + j)) := by exact ps_aug (by assumption) rfl (Or.inl rfl) pe_sem ip_add) : XSs X L (.AugAssign (.Name x pos') .Add e pos :: rest) ρ E :=
  xs_cons h1 fun gs H0 H σ D En l => by
    obtain ⟨v, h1, h2⟩ := En.slot i _ hx
    obtain rfl := rv_int h2
    refine ⟨_, h1, he gs H0 H σ _ En fun r v H1 pr e1 g1 rv => ?_⟩
    subst pr
    obtain rfl := rv_int rv
    exact ⟨n, m, rfl, rfl, k gs H0 H1 _ D ((En.step e1 g1).setd i (Dv.int _)) ⟨l.nx, l.rt, l.bk, l.ct⟩⟩
theorem xs_expr (he : XP X L e ρ P) (k : XSs X L rest ρ E) (hs : swapsWith e none pos.line X.env = pure false := by rfl) : XSs X L (.Expr e pos :: rest) ρ E :=
  xs_cons (ps_expr pe_sem hs) fun gs H0 H σ D En l => he gs H0 H σ _ En fun r v H1 pr e1 g1 rv => k gs H0 H1 σ D (En.step e1 g1) ⟨l.nx, l.rt, l.bk, l.ct⟩
/-- if: each branch, then the rest -/
theorem xs_if {t : Bool} {A B : List Stmt} (hc : XT X L c ρ t) (hA : t = true → XSs X L A ρ { E with nx := fun ρ' => XSs X L rest ρ' E }) (hB : t = false → XSs X L B ρ { E with nx := fun ρ' => XSs X L rest ρ' E }) : XSs X L (.If c A B pos :: rest) ρ E := by
  have low : ∀ {gs H0 D}, Lift L gs H0 E D → Lift L gs H0 { E with nx := fun ρ' => XSs X L rest ρ' E } { D with nx := semSs X rest D } := fun {gs H0 D} l => ⟨fun ρ' σ' H' h En => h gs H0 H' σ' D En l, l.rt, l.bk, l.ct⟩
  cases t with
  | true =>
    exact xs_cons (ps_if pt_sem pss_sem pss_never) fun gs H0 H σ D En l => hc gs H0 H σ _ En fun H1 e1 g1 => hA rfl gs H0 H1 σ _ (En.step e1 g1) (low l)
  | false =>
    exact xs_cons (ps_if pt_sem pss_never pss_sem) fun gs H0 H σ D En l => hc gs H0 H σ _ En fun H1 e1 g1 => hB rfl gs H0 H1 σ _ (En.step e1 g1) (low l)
/-- if whose branches meet in J -/
theorem xs_ifJ {t : Bool} {A B : List Stmt} (J : Rho → Prop) (hc : XT X L c ρ t) (hA : t = true → XSs X L A ρ { E with nx := J }) (hB : t = false → XSs X L B ρ { E with nx := J }) (k : ∀ ρ', J ρ' → XSs X L rest ρ' E) : XSs X L (.If c A B pos :: rest) ρ E := by
  have up : ∀ {Y : List Stmt}, XSs X L Y ρ { E with nx := J } → XSs X L Y ρ { E with nx := fun ρ' => XSs X L rest ρ' E } := fun h gs H0 H σ D En l => h gs H0 H σ D En ⟨fun ρ' σ' H' j En' => l.nx ρ' σ' H' (k ρ' j) En', l.rt, l.bk, l.ct⟩
  exact xs_if hc (fun z => up (hA z)) (fun z => up (hB z))

/-! ### what a loop walks -/
def WalkD (J : It) (ds : List D) (gl : List (Addr × List V)) (H1 : Hp) : Prop :=
  Walk J ds.length (fun H => TEx H1 H ∧ ∀ q ∈ gl, H q.1 = some (.lst q.2)) (fun i H x H' => (∀ b o, H b = some o → H' b = some o) ∧ ∀ d, ds[i]? = some d → Dv H' x d)
def EvI (L : Lay) (wi : TI) (ρ : Rho) (P : List D → Prop) : Prop := ∀ gs H0 H σ (R : It → Hp → Prop), En L gs H0 H σ ρ →
  (∀ ds J gl H1, P ds → Step L H H1 → Good L H1 → WalkD J ds gl H1 → (∀ q ∈ gl, H1 q.1 = some (.lst q.2) ∧ (∀ z, L.tp = some z → q.1 ≠ z.1) ∧ ∀ (i : Nat) r, ρ[i]? = some (some r) → r.isOwn = true → σ[i]? ≠ some (some (.ref q.1))) → R J H1) → wi σ H R
def XI (X : Cx) (L : Lay) (tg it : Expr) (ρ : Rho) (P : List D → Prop) : Prop := EvI L (semI X tg it) ρ P
variable {tg it : Expr} {wi : TI} {ds : List D}
theorem xi_of {PD : List D → Prop} (h : PI X tg it wi) (q : EvI L wi ρ PD) : XI X L tg it ρ PD := fun gs H0 H σ R E k pins s I => h.run pins s σ H R I (q gs H0 H σ R E k)
theorem xi_tup (h : XE X L it ρ (.d (.tup ds))) : XI X L tg it ρ (fun z => z = ds) := xi_of (pi_tup pe_sem) fun gs H0 H σ R E k => h gs H0 H σ _ E fun r v H1 pr e1 g1 rv => by
  subst pr
  obtain ⟨a, vs, rfl, h1, h2⟩ := rv_tup rv
  refine ⟨a, rfl, ⟨vs, SqT.of h1⟩, k ds _ [] H1 rfl e1 g1 ?_ (fun q hq => by cases hq)⟩
  have w := walk_tup (K := X.K) (a := a) (xs := vs)
  unfold WalkD
  rw [← h2.length]
  refine w.mono (fun H h => SqT.of (h.1 _ _ h1 rfl)) fun i H x H' hi h y => ?_
  obtain ⟨y1, y2⟩ := y
  subst y1
  exact ⟨fun _ _ z => z, fun d hd => by
    obtain ⟨w, w1, w2⟩ := h2.get hd
    rw [w1] at y2
    cases y2
    exact Dv.mono h.1 _ _ w2⟩
theorem walkD_list {K : PySem.W.Frag} {a : Addr} {vs : List V} {ds : List D} {H1 : Hp} (h1 : H1 a = some (.lst vs)) (h2 : DvA H1 vs ds) : WalkD (Itl K a) ds [(a, vs)] H1 := by
  have w := walk_list (K := K) (a := a) (xs := vs)
  unfold WalkD
  rw [← h2.length]
  refine w.mono (fun H h => SqL.of (h.2 _ (List.mem_singleton.mpr rfl))) fun i H x H' hi h y => ?_
  obtain ⟨y1, y2⟩ := y
  subst y1
  exact ⟨fun _ _ z => z, fun d hd => by
    obtain ⟨w, w1, w2⟩ := h2.get hd
    rw [w1] at y2
    cases y2
    exact Dv.mono h.1 _ _ w2⟩
/-- a new list -/
theorem xi_new {PD : List D → Prop} (h : XP X L it ρ (fun r => ∃ ds, PD ds ∧ r = .own ds)) : XI X L tg it ρ PD := xi_of (pi_list pe_sem) fun gs H0 H σ R E k => h gs H0 H σ _ E fun r v H1 pr e1 g1 rv => by
  obtain ⟨ds, pd, rfl⟩ := pr
  obtain ⟨a, vs, rfl, hn, hr, h1, h2⟩ := rv
  refine ⟨a, rfl, ⟨vs, SqL.of h1⟩, k ds _ [(a, vs)] H1 pd e1 g1 (walkD_list h1 h2) fun q hq => ?_⟩
  obtain rfl := List.mem_singleton.mp hq
  refine ⟨h1, fun z hz e => hr ⟨z, hz, .inl e⟩, fun i r hi ho hs => ?_⟩
  obtain ⟨w, w1, w2⟩ := E.slot i r hi
  rw [w1] at hs
  cases hs
  cases r with
  | own ds =>
    obtain ⟨q, vs, h1, h2, _, h4, _⟩ := w2
    cases h1; rw [h4] at hn; cases hn
  | dct ds =>
    obtain ⟨q, vs, h1, h2, _, h4, _⟩ := w2
    cases h1; rw [h4] at hn; cases hn
  | ro ds => cases ho
  | d x => cases ho
  | tape => cases ho
  | any => cases ho
theorem xi_newE (h : XE X L it ρ (.own ds)) : XI X L tg it ρ (fun z => z = ds) := xi_new (EvP.imp h fun r q => ⟨ds, rfl, q⟩)
/-- a list that a slot keeps to be read -/
theorem xi_var {x : Str} {ds : List D} (hr : ρ[i]? = some (some (.ro ds))) (hN : X.N[i]? = some x := by rfl) (hv : Vis X.env.scope x := by first | exact Or.inl rfl | exact Or.inr (Or.inl rfl) | exact Or.inr (Or.inr rfl))
    (hd : (x == ("__debug__" : Str)) = false := by decide) (hcd : (x == ("__classdict__" : Str)) = false := by decide) : XI X L tg (.Name x pos) ρ (fun z => z = ds) := xi_of (pi_list (pe_var hN hv hd hcd)) fun gs H0 H σ R E k => by
  obtain ⟨v, s1, a, vs, rfl, ht, h1, h2⟩ := E.slot i _ hr
  refine ⟨_, s1, a, rfl, ⟨vs, SqL.of h1⟩, k ds _ [(a, vs)] H rfl (Step.refl H) E.good (walkD_list h1 h2) fun q hq => ?_⟩
  obtain rfl := List.mem_singleton.mp hq
  refine ⟨h1, ht, fun j r hj ho hs => ?_⟩
  have z := E.sep j i a r _ hj ho hs hr rfl s1
  subst z
  rw [hr] at hj
  cases hj
  cases ho
/-- range(n), range(a, b) -/
def rng (lo : Int) (n : Nat) : List D := (List.range n).map fun (k : Nat) => D.int (lo + (k : Int))
theorem rng_len (lo : Int) (n : Nat) : (rng lo n).length = n := by unfold rng; rw [List.length_map, List.length_range]
theorem rng_get {lo : Int} {n i : Nat} {d : D} (h : (rng lo n)[i]? = some d) : i < n ∧ d = .int (lo + (i : Int)) := by
  have hl : i < n := by have := (List.getElem?_eq_some_iff.mp h).1; rw [rng_len] at this; exact this
  refine ⟨hl, ?_⟩
  unfold rng at h
  rw [List.getElem?_map, List.getElem?_range hl] at h
  exact (Option.some.inj h).symm
theorem walkD_rng {lo : Int} {n : Nat} {H1 : Hp} : WalkD (Itr lo n) (rng lo n) [] H1 := by
  unfold WalkD
  rw [rng_len]
  refine (walk_range (lo := lo) (n := n)).mono (fun _ _ => trivial) fun i H x H' hi h y => ?_
  obtain ⟨y1, y2⟩ := y
  subst y1 y2
  exact ⟨fun _ _ z => z, fun d hd => by rw [(rng_get hd).2]; exact Dv.int _⟩
theorem xi_rng1 {PI' : Int → Prop} (h : XP X L a ρ (fun r => ∃ n, PI' n ∧ -(2 ^ 62) ≤ n ∧ n < 2 ^ 62 ∧ r = .d (.int n))) (hm : X.mg "range" = none) (hg : Gl X "range" := by rfl) (hs : starEach [a] X.env = [(false, eval a X.env)] := by rfl) : XI X L tg (.Call (.Name "range" p) [a] [] pos) ρ (fun ds => ∃ n, PI' n ∧ ds = rng 0 n.toNat) :=
  xi_of (pi_range1 hg hm (pa_cons pe_sem pa_nil hs) hs) fun gs H0 H σ R E k => h gs H0 H σ _ E fun r v H1 pr e1 g1 rv => by
    obtain ⟨n, pn, h1, h2, rfl⟩ := pr
    obtain rfl := rv_int rv
    exact ⟨n, rfl, h1, h2, k _ _ [] H1 ⟨n, pn, rfl⟩ e1 g1 walkD_rng (fun q hq => by cases hq)⟩
theorem xi_rng2 {lo hi : Int} (h1 : XE X L a ρ (.d (.int lo))) (h2 : XE X L b ρ (.d (.int hi))) (hb : -(2 ^ 62) ≤ lo ∧ lo < 2 ^ 62 ∧ -(2 ^ 62) ≤ hi ∧ hi < 2 ^ 62) (hm : X.mg "range" = none) (hg : Gl X "range" := by rfl) (hs : starEach [a, b] X.env = [(false, eval a X.env), (false, eval b X.env)] := by rfl) (hs2 : starEach [b] X.env = [(false, eval b X.env)] := by rfl) :
    XI X L tg (.Call (.Name "range" p) [a, b] [] pos) ρ (fun ds => ds = rng lo (hi - lo).toNat) :=
  xi_of (pi_range2 hg hm (pa_cons pe_sem (pa_cons pe_sem pa_nil hs2) (hs.trans (by rw [hs2]))) hs hs2) fun gs H0 H σ R E k => h1 gs H0 H σ _ E fun r v H1 pr e1 g1 rv => h2 gs H0 H1 σ _ (E.step e1 g1) fun r2 v2 H2 pr2 e2 g2 rv2 => by
    subst pr pr2
    obtain rfl := rv_int rv
    obtain rfl := rv_int rv2
    exact ⟨lo, hi, rfl, hb, k _ _ [] H2 rfl (e1.trans e2) g2 walkD_rng (fun q hq => by cases hq)⟩

/-! ### loops -/
theorem En.more {gs : Gs} {H0 H : Hp} {σ : L2.St} {gl : List (Addr × List V)} (E : En L gs H0 H σ ρ) (h : ∀ q ∈ gl, H q.1 = some (.lst q.2) ∧ (∀ z, L.tp = some z → q.1 ≠ z.1) ∧ ∀ (i : Nat) r, ρ[i]? = some (some r) → r.isOwn = true → σ[i]? ≠ some (some (.ref q.1))) :
    En L ⟨gl ++ gs.ls, H :: gs.hs⟩ H0 H σ ρ := ⟨E.st, E.good, E.len, E.slot, E.sep, fun q hq => by
      rcases List.mem_append.mp hq with z | z
      · exact h q z
      · exact E.gd q z, fun g hg => by
      rcases List.mem_cons.mp hg with z | z
      · rw [z]; exact TEx.refl _
      · exact E.tx g z⟩
theorem En.fewer {gs : Gs} {H0 H H1 : Hp} {σ : L2.St} {gl : List (Addr × List V)} (E : En L ⟨gl ++ gs.ls, H1 :: gs.hs⟩ H0 H σ ρ) : En L gs H0 H σ ρ :=
  ⟨E.st, E.good, E.len, E.slot, E.sep, fun q hq => E.gd q (List.mem_append_right _ hq), fun g hg => E.tx g (List.mem_cons_of_mem _ hg)⟩
theorem xs_for {g : TG} {PD : List D → Prop} (hi : XI X L tg it ρ PD) (hg : PG X tg g) (I : List D → Nat → Rho → Prop) (h0 : ∀ ds, PD ds → I ds 0 ρ)
    (hs : ∀ ds i d ρ1, PD ds → ds[i]? = some d → I ds i ρ1 → ∃ ρ2, EvG L g ρ1 d ρ2 ∧ XSs X L body ρ2 { nx := I ds (i + 1), ct := I ds (i + 1), bk := fun ρ' => XSs X L rest ρ' E, rt := E.rt })
    (hd : ∀ ds ρ1, PD ds → I ds ds.length ρ1 → XSs X L rest ρ1 E) (hp : PassesOwn (model X.prog X.w) X.A X.env X.xe := by exact PassesOwn.never) (hc : X.calm = true := by rfl) (hsf : ∀ x, foldedSetIterable it X.env x = pure x := by intro _; rfl) : XSs X L (.For tg it body [] pos :: rest) ρ E :=
  xs_cons (ps_for hp hc pi_sem hg pss_sem hsf) fun gs H0 H σ D En l => hi gs H0 H σ _ En fun ds J gl H1 pd e1 g1 w hgl => by
    refine for_it w (fun i σ' H' => ∃ ρ', I ds i ρ' ∧ Dl.En L ⟨gl ++ gs.ls, H1 :: gs.hs⟩ H0 H' σ' ρ') ⟨ρ, h0 ds pd, (En.step e1 g1).more hgl⟩ (fun i σ' H' _ ⟨ρ', _, E'⟩ => ⟨E'.tx H1 List.mem_cons_self, fun q hq => (E'.gd q (List.mem_append_left _ hq)).1⟩) (fun i x σ' H' H2 hi ⟨ρ', hI, E'⟩ y => ?_) (fun σ' H' ⟨ρ', hI, E'⟩ => hd ds ρ' pd hI gs H0 H' σ' D E'.fewer ⟨l.nx, l.rt, l.bk, l.ct⟩)
    have hget : ds[i]? = some ds[i] := by simp [hi]
    obtain ⟨ρ2, eg, hb⟩ := hs ds i ds[i] ρ' pd hget hI
    have E2 := E'.step (Step.of y.1) (E'.good.ext y.1)
    refine eg _ H0 H2 σ' x _ E2 (y.2 _ hget) fun σ2 E3 => hb _ H0 H2 σ2 _ E3 ⟨fun ρ3 σ3 H3 h3 E4 => ⟨ρ3, h3, E4⟩, l.rt, fun ρ3 σ3 H3 h3 E4 => h3 gs H0 H3 σ3 D E4.fewer ⟨l.nx, l.rt, l.bk, l.ct⟩, fun ρ3 σ3 H3 h3 E4 => ⟨ρ3, h3, E4⟩⟩
theorem xs_while (I : Nat → Rho → Prop) (m0 : Nat) (h0 : I m0 ρ)
    (hs : ∀ m ρ1, I m ρ1 → ∃ t, XT X L c ρ1 t ∧ (t = true → XSs X L body ρ1 { nx := fun ρ' => ∃ m', m' < m ∧ I m' ρ', ct := fun ρ' => ∃ m', m' < m ∧ I m' ρ', bk := fun ρ' => XSs X L rest ρ' E, rt := E.rt }) ∧ (t = false → XSs X L rest ρ1 E))
    (hw : PS X (.While c body [] pos) (tWhile (semT X c) (semSs X body)) := by exact ps_while PassesOwn.never pt_sem pss_sem) : XSs X L (.While c body [] pos :: rest) ρ E :=
  xs_cons hw fun gs H0 H σ D En l => by
    refine ⟨fun m σ' H' => ∃ ρ', I m ρ' ∧ Dl.En L gs H0 H' σ' ρ', ⟨m0, ρ, h0, En⟩, fun m σ1 H1 ⟨ρ1, hI, E1⟩ => ?_⟩
    obtain ⟨t, ht, hb, hn⟩ := hs m ρ1 hI
    refine ht gs H0 H1 σ1 _ E1 fun H2 e2 g2 => ?_
    have E2 := E1.step e2 g2
    cases t with
    | true =>
      refine ⟨fun σ' H' => ∃ ρ', (∃ m', m' < m ∧ I m' ρ') ∧ Dl.En L gs H0 H' σ' ρ', fun σ' H' ⟨ρ', ⟨m', hm, h⟩, E'⟩ => ⟨m', hm, ρ', h, E'⟩, hb rfl gs H0 H2 σ1 _ E2 ⟨fun ρ3 σ3 H3 h3 E4 => ⟨ρ3, h3, E4⟩, l.rt, fun ρ3 σ3 H3 h3 E4 => h3 gs H0 H3 σ3 D E4 ⟨l.nx, l.rt, l.bk, l.ct⟩, fun ρ3 σ3 H3 h3 E4 => ⟨ρ3, h3, E4⟩⟩⟩
    | false => exact hn rfl gs H0 H2 σ1 D E2 ⟨l.nx, l.rt, l.bk, l.ct⟩
/-- x.append(e), x a list of the frame's own -/
theorem En.write {gs : Gs} {H0 H : Hp} {σ : L2.St} {i : Nat} {p : Addr} {o u : HO} {r r' : Rep} (E : En L gs H0 H σ ρ) (hr : ρ[i]? = some (some r)) (ho : r.isOwn = true) (hs : σ[i]? = some (some (.ref p))) (h0 : H0 p = none) (hv : ¬ L.resv p) (h1 : H p = some u) (hu : (∃ xs, u = .lst xs) ∨ ∃ kvs, u = .dK kvs)
    (hr' : r'.isOwn = true) (hn : ∀ H', H' p = some o → TEx H H' → RV L H0 H' (.ref p) r') : En L gs H0 (upd H p o) σ (ρ.set i (some r')) := by
  have tx : TEx H (upd H p o) := fun a v h so => by
    have n : a ≠ p := fun z => by
      rw [z, h1] at h
      cases h
      rcases hu with ⟨xs, rfl⟩ | ⟨xs, rfl⟩ <;> cases so
    rw [upd_ne n]
    exact h
  have hi : i < ρ.length := (List.getElem?_eq_some_iff.mp hr).1
  have at_ : ∀ (j : Nat) r2, (ρ.set i (some r'))[j]? = some (some r2) → (j = i ∧ r2 = r') ∨ (j ≠ i ∧ ρ[j]? = some (some r2)) := fun j r2 e => by
    by_cases hj : i = j
    · subst hj
      rw [List.getElem?_set_self hi] at e
      exact .inl ⟨rfl, (Option.some.inj (Option.some.inj e)).symm⟩
    · rw [List.getElem?_set_ne hj] at e
      exact .inr ⟨fun z => hj z.symm, e⟩
  have lk_of : ∀ r : Rep, r.isOwn = true → r.lk = true := fun r h => by cases r <;> first | rfl | cases h
  refine ⟨⟨fun b z e n t => ?_, fun b e => ?_⟩, E.good.write h1 hu hv, by rw [List.length_set]; exact E.len, fun j r2 e => ?_, fun j k q r1 r2 e1 o1 s1 e2 o2 s2 => ?_, fun q hq => ⟨?_, (E.gd q hq).2.1, fun j r2 e o2 => ?_⟩, fun h hh => (E.tx h hh).trans tx⟩
  · have nb : b ≠ p := fun q => by rw [q, h0] at e; cases e
    rw [upd_ne nb]
    exact E.st.keep b z e n t
  · by_cases hb : b = p
    · rw [hb]; exact h0
    · rw [upd_ne hb] at e; exact E.st.free b e
  · rcases at_ j r2 e with ⟨rfl, rfl⟩ | ⟨nj, e'⟩
    · exact ⟨_, hs, hn _ upd_same tx⟩
    · obtain ⟨w, w1, w2⟩ := E.slot j r2 e'
      refine ⟨w, w1, ?_⟩
      have np : ∀ a, w = .ref a → r2.lk = true → a ≠ p := fun a ha lk z => by
        rw [ha, z] at w1
        exact nj (E.sep i j p r r2 hr ho hs e' lk w1).symm
      cases r2 with
      | d x => exact Dv.mono tx _ _ w2
      | own ds =>
        obtain ⟨a, vs, q1, q2, q3, q4, q5⟩ := w2
        exact ⟨a, vs, q1, q2, q3, by rw [upd_ne (np a q1 rfl)]; exact q4, DvA.mono tx _ _ q5⟩
      | ro ds =>
        obtain ⟨a, vs, q1, q2, q4, q5⟩ := w2
        exact ⟨a, vs, q1, q2, by rw [upd_ne (np a q1 rfl)]; exact q4, DvA.mono tx _ _ q5⟩
      | dct ds =>
        obtain ⟨a, vs, q1, q2, q3, q4, q5⟩ := w2
        exact ⟨a, vs, q1, q2, q3, by rw [upd_ne (np a q1 rfl)]; exact q4, KD.mono tx q5⟩
      | tape => exact w2
      | any => trivial
  · rcases at_ j r1 e1 with ⟨rfl, rfl⟩ | ⟨nj, e1'⟩
    · rcases at_ k r2 e2 with ⟨rfl, rfl⟩ | ⟨nk, e2'⟩
      · rfl
      · exact E.sep j k q r r2 hr ho s1 e2' o2 s2
    · rcases at_ k r2 e2 with ⟨rfl, rfl⟩ | ⟨nk, e2'⟩
      · exact E.sep j k q r1 r e1' o1 s1 hr (lk_of r ho) s2
      · exact E.sep j k q r1 r2 e1' o1 s1 e2' o2 s2
  · have np : q.1 ≠ p := fun z => (E.gd q hq).2.2 i r hr ho (by rw [z]; exact hs)
    rw [upd_ne np]
    exact (E.gd q hq).1
  · rcases at_ j r2 e with ⟨rfl, rfl⟩ | ⟨nj, e'⟩
    · exact (E.gd q hq).2.2 j r hr ho
    · exact (E.gd q hq).2.2 j r2 e' o2
theorem xs_append {x : Str} {ds : List D} {d : D} {p1 p2 : Pos} (hr : ρ[i]? = some (some (.own ds))) (he : XE X L e ρ (.d d)) (hz : ds.length < 100000) (k : XSs X L rest (ρ.set i (some (.own (ds ++ [d])))) E)
    (hb : PS X (.Expr (.Call (.Attribute (.Name x p) "append" p1) [e] [] p2) pos) (tDrop (tBM X.K "list" rAppend (tVar i) (tCons (semE X e) tNil))) := by exact ps_expr (pe_bm PySem.F.plainAttrs_list PySem.F.slot_list_append PySem.F.type_list_append mt_append (pv _) (pa_cons pe_sem pa_nil))) :
    XSs X L (.Expr (.Call (.Attribute (.Name x p) "append" p1) [e] [] p2) pos :: rest) ρ E := xs_cons hb fun gs H0 H σ D En l => by
  obtain ⟨v, s1, a, vs, rfl, h0, hv, h1, h2⟩ := En.slot i _ hr
  refine ⟨_, s1, .inl ⟨rfl, vs, SqL.of h1⟩, he gs H0 H σ _ En fun r w H1 pr e1 g1 rv => ?_⟩
  subst pr
  have E1 := En.step e1 g1
  obtain ⟨v', s1', a', vs', ea, h0', hv', h1', h2'⟩ := E1.slot i _ hr
  rw [s1] at s1'
  cases s1'
  cases ea
  refine ⟨a, vs', w, rfl, rfl, h1', sz_lt (by rw [h2'.length]; exact hz), ?_⟩
  refine k gs H0 _ σ D (E1.write hr rfl s1 h0 hv h1' (.inl ⟨_, rfl⟩) rfl fun H' z tx => ⟨a, _, rfl, h0, hv, z, (DvA.mono tx _ _ h2').append (.cons (Dv.mono tx _ _ rv) .nil)⟩) ⟨l.nx, l.rt, l.bk, l.ct⟩
end
end Dl
-- Lay5
/-! Lay5: defs, comprehensions, dicts. -/
namespace Dl
open PySem L2 PyProof.Rows

/-! ### a def -/
def ini (rs : List Rep) (n : Nat) : Rho := rs.map some ++ List.replicate (n - rs.length) none
theorem rvs_get {L : Lay} {H0 H : Hp} : ∀ {rs : List Rep} {vs : List V} {i : Nat} {r : Rep}, RVs L H0 H vs rs → rs[i]? = some r → ∃ v, vs[i]? = some v ∧ RV L H0 H v r
  | _, _, i, r, .nil, e => by simp at e
  | _, _, 0, r, .cons q _, e => by
    simp at e
    subst e
    exact ⟨_, rfl, q⟩
  | _, _, i + 1, r, .cons _ t, e => by
    obtain ⟨v, h1, h2⟩ := rvs_get (i := i) t (by simpa using e)
    exact ⟨v, by simpa using h1, h2⟩
theorem ini_get {rs : List Rep} {n i : Nat} {r : Rep} (h : (ini rs n)[i]? = some (some r)) : rs[i]? = some r := by
  unfold ini at h
  by_cases hi : i < rs.length
  · rw [List.getElem?_append_left (by simpa using hi), List.getElem?_map] at h
    cases e : rs[i]? with
    | none =>
      rw [e] at h
      cases h
    | some z => rw [e] at h; cases h; rfl
  · rw [List.getElem?_append_right (by simpa using Nat.le_of_not_lt hi), List.getElem?_replicate] at h
    split at h <;> cases h
theorem en_ini {L : Lay} {H : Hp} {vs : List V} {rs : List Rep} {N : List Str} (g : Good L H) (h : RVs L H H vs rs) (no : noOwn rs = true) (hl : rs.length ≤ N.length) : En L ⟨[], []⟩ H H (L2.start N vs) (ini rs N.length) := by
  have hlen : vs.length = rs.length := paired_len h
  have nown : ∀ {i : Nat} {r : Rep}, rs[i]? = some r → r.isOwn = false := fun {i r} e => by
    have q := List.all_eq_true.mp no r (List.mem_of_getElem? e)
    simpa using q
  refine ⟨Step.refl H, g, ?_, fun i r e => ?_, fun i j p r r' e1 o1 => ?_, (fun q hq => by cases hq), (fun q hq => by cases hq)⟩
  · unfold L2.start ini
    simp only [List.length_append, List.length_map, List.length_replicate, hlen]
  · obtain ⟨v, h1, h2⟩ := rvs_get h (ini_get e)
    refine ⟨v, ?_, h2⟩
    unfold L2.start
    have hi : i < vs.length := (List.getElem?_eq_some_iff.mp h1).1
    rw [List.getElem?_append_left (by simpa using hi), List.getElem?_map, h1]
    rfl
  · rw [nown (ini_get e1)] at o1
    cases o1
section
variable {K : PySem.W.Frag} {P : Program} {w : World} {mg : Str → Option Value} {base : Heap}
/-- a def keeps its contract: its body over data -/
theorem def_ok {x qual : Str} {st : Stmt} {f : Addr} {fd : FuncData} {N ps : List Str} {k : Nat} {L : Lay} {G : Ct} (F : Fun K x qual st f fd) (S : FnScope N ps (defScope st)) (hpl : ps.length ≤ N.length) (hlen : ∀ rs P, G rs P → rs.length = ps.length)
    (hbody : ∀ (cdv : Value) (A : Around) (outer : List PySem.Env) (s : Shared) (H : Hp) (E : XK), Room k (A.deeper (envOfC qual (defScope st) s.heap.objs.size f cdv)) → ∀ rs Pq, G rs Pq →
      XSs (cxOf CX0 P w K mg base N qual (defScope st) f cdv A outer s H E).nox L (defBody st) (ini rs N.length) { nx := fun _ => Pq (.d .non), rt := Pq }) : FnOk P w K mg base CX0 (k + 1) f fd ps (spG L G) := by
  refine F.ok S (fun vs H Q E h => ?_) (fun cdv A outer s H vs Q E hr h => ?_)
  · obtain ⟨rs, Pq, pre, _, _, rv, _⟩ := h
    rw [paired_len rv]
    exact hlen rs Pq pre
  · obtain ⟨rs, Pq, pre, no, g, rv, kq⟩ := h
    refine ⟨_, pss_sem, hbody cdv A outer s H E hr rs Pq pre ⟨[], []⟩ H H (L2.start N vs) _ (en_ini g rv no (by rw [hlen rs Pq pre]; exact hpl)) ⟨fun ρ' σ' H' pz E' => ?_, fun r v H' pz e' g' rv' => kq r v H' pz e' g' rv', fun _ _ _ z => z.elim, fun _ _ _ z => z.elim⟩⟩
    exact kq _ _ H' pz E'.st E'.good Dv.non
theorem cal_of {x qual : Str} {st : Stmt} {f : Addr} {fd : FuncData} {ps : List Str} {k : Nat} {sp : Sp} (F : Fun K x qual st f fd) (hm : mg x = some (.ref f)) (hb : Binds K fd ps []) (h : FnOk P w K mg base CX0 k f fd ps sp) : Cal P w K mg base k x ps sp := ⟨⟨f, fd, hm, F.kp, hb, h⟩⟩
end

/-! ### comprehensions -/
def wipeR (ρ : Rho) : List Nat → Rho
  | [] => ρ
  | v :: vs => (wipeR ρ vs).set v none
theorem wipeR_length (ρ : Rho) : ∀ vs : List Nat, (wipeR ρ vs).length = ρ.length
  | [] => rfl
  | v :: vs => by unfold wipeR; rw [List.length_set, wipeR_length ρ vs]
theorem wipeR_some {ρ : Rho} {i : Nat} {x : Rep} : ∀ {vs : List Nat}, (wipeR ρ vs)[i]? = some (some x) → ρ[i]? = some (some x) ∧ i ∉ vs
  | [], h => ⟨h, by simp⟩
  | v :: vs, h => by
    unfold wipeR at h
    by_cases hi : v = i
    · subst hi
      rw [List.getElem?_set] at h
      simp only [if_true] at h
      split at h <;> cases h
    · rw [List.getElem?_set, if_neg hi] at h
      refine ⟨(wipeR_some h).1, fun m => ?_⟩
      rcases (List.mem_cons).mp m with q | q
      · exact hi q.symm
      · exact (wipeR_some h).2 q
theorem wipe_out {σ : L2.St} {i : Nat} : ∀ {vs : List Nat}, i ∉ vs → (wipe σ vs)[i]? = σ[i]?
  | [], _ => rfl
  | v :: vs, h => by
    simp only [List.mem_cons, not_or] at h
    unfold wipe
    rw [List.getElem?_set_ne (fun e => h.1 e.symm), wipe_out h.2]
theorem wipe_in {σ : L2.St} {i : Nat} : ∀ {vs : List Nat}, i ∈ vs → i < σ.length → (wipe σ vs)[i]? = some none
  | [], h, _ => by cases h
  | v :: vs, h, hl => by
    unfold wipe
    by_cases hi : v = i
    · subst hi
      rw [List.getElem?_set_self (by rw [wipe_length]; exact hl)]
    · rw [List.getElem?_set_ne hi]
      cases h with
      | head => exact absurd rfl hi
      | tail _ z => exact wipe_in z hl
theorem wipe_eq {σ σ' : L2.St} {vs : List Nat} (hl : σ.length = σ'.length) (h : ∀ i, i ∉ vs → σ[i]? = σ'[i]?) : wipe σ vs = wipe σ' vs := by
  apply List.ext_getElem?
  intro i
  by_cases hi : i ∈ vs
  · by_cases hlt : i < σ.length
    · rw [wipe_in hi hlt, wipe_in hi (by rw [← hl]; exact hlt)]
    · rw [List.getElem?_eq_none (by rw [wipe_length]; omega), List.getElem?_eq_none (by rw [wipe_length]; omega)]
  · rw [wipe_out hi, wipe_out hi, h i hi]
theorem wipe_wipe {σ : L2.St} {vs : List Nat} : wipe (wipe σ vs) vs = wipe σ vs := wipe_eq (wipe_length _ _) fun i hi => wipe_out hi
theorem wipe_set {σ : L2.St} {vs : List Nat} {j : Nat} {x : Option V} (h : j ∈ vs) : wipe (σ.set j x) vs = wipe σ vs := wipe_eq (by rw [List.length_set]) fun i hi => by
  rw [List.getElem?_set_ne (fun e => hi (by rw [← e]; exact h))]
theorem En.wipe {L : Lay} {gs : Gs} {H0 H : Hp} {σ : L2.St} {ρ : Rho} (E : En L gs H0 H σ ρ) (vs : List Nat) : En L gs H0 H (wipe σ vs) (wipeR ρ vs) := by
  refine ⟨E.st, E.good, by rw [wipe_length, wipeR_length]; exact E.len, fun i r e => ?_, fun i j p r r' e1 o1 s1 e2 o2 s2 => ?_, fun q hq => ⟨(E.gd q hq).1, (E.gd q hq).2.1, fun i r e o s => ?_⟩, E.tx⟩
  · obtain ⟨h1, h2⟩ := wipeR_some e
    rw [wipe_out h2]
    exact E.slot i r h1
  · obtain ⟨h1, h2⟩ := wipeR_some e1
    obtain ⟨h3, h4⟩ := wipeR_some e2
    rw [wipe_out h2] at s1
    rw [wipe_out h4] at s2
    exact E.sep i j p r r' h1 o1 s1 h3 o2 s2
  · obtain ⟨h1, h2⟩ := wipeR_some e
    rw [wipe_out h2] at s
    exact (E.gd q hq).2.2 i r h1 o s
/-- a comprehension's target: its slots are the block's own -/
def EvGw (L : Lay) (vs : List Nat) (g : TG) (ρ : Rho) (d : D) (ρ' : Rho) : Prop := ∀ gs H0 H σ v (Q : L2.St → Hp → Prop), En L gs H0 H (wipe σ vs) ρ → Dv H v d → (∀ σ', En L gs H0 H σ' ρ' → wipe σ' vs = wipe σ vs → Q σ' H) → g v (wipe σ vs) H Q
section
variable {X : Cx} {L : Lay} {ρ : Rho} {P : Rep → Prop} {vs : List Nat} {i j : Nat} {d x y : D} {K : PySem.W.Frag}
theorem evgw_name (h : i ∈ vs) : EvGw L vs (gName i) ρ d (ρ.set i (some (.d d))) := fun gs H0 H σ v Q E hv k => k _ (E.setd i hv) (by rw [wipe_set h, wipe_wipe])
theorem evgw_tup2 (h1 : i ∈ vs) (h2 : j ∈ vs) : EvGw L vs (gTup K 2 (gCons (gName i) (gCons (gName j) gNil))) ρ (.tup [x, y]) ((ρ.set i (some (.d x))).set j (some (.d y))) := fun gs H0 H σ v Q E h k => by
  cases h with
  | @tup a us _ q1 q2 =>
    cases q2 with
    | cons r1 t => cases t with
      | cons r2 t => cases t with
        | nil => exact ⟨a, _, rfl, SqT.of q1, rfl, _, _, rfl, _, _, rfl, rfl, k _ ((E.setd i r1).setd j r2) (by rw [wipe_set h2, wipe_set h1, wipe_wipe])⟩
/-- the items that are kept, told by what is made of them -/
inductive Made (G : D → D → Prop) (f : D → Bool) : List D → List D → Prop
  | nil : Made G f [] []
  | yes {d : D} {ds ys : List D} {y : D} : Made G f ds ys → f d = true → G d y → Made G f (ds ++ [d]) (ys ++ [y])
  | no {d : D} {ds ys : List D} : Made G f ds ys → f d = false → Made G f (ds ++ [d]) ys
theorem Made.len {G : D → D → Prop} {f : D → Bool} {ds ys : List D} (m : Made G f ds ys) : ys.length ≤ ds.length := by
  induction m with
  | nil => exact Nat.le_refl _
  | yes _ _ _ ih => simp only [List.length_append, List.length_singleton]; omega
  | no _ _ ih => simp only [List.length_append, List.length_singleton]; omega
theorem Made.det {h : D → D} {f : D → Bool} {ds ys : List D} (m : Made (fun d y => f d = true → y = h d) f ds ys) : ys = (ds.filter f).map h := by
  induction m with
  | nil => rfl
  | yes _ hf hg ih =>
    rw [List.filter_append, List.map_append, ← ih, List.filter_cons, if_pos hf, hg hf]
    rfl
  | no _ hf ih =>
    rw [List.filter_append, List.map_append, ← ih, List.filter_cons, if_neg (by rw [hf]; exact Bool.false_ne_true)]
    simp
theorem take_snoc {α : Type} {l : List α} {i : Nat} {x : α} (h : l[i]? = some x) : l.take (i + 1) = l.take i ++ [x] := by
  rw [List.take_add_one, h]
  rfl
theorem ev_lc {wi : TI} {g : TG} {tt : TT} {te : TE} {PD : List D → Prop} (f : D → Bool) (G : D → D → Prop) (hi : EvI L wi ρ PD)
    (ht : ∀ ds d, PD ds → d ∈ ds → ∃ ρ', EvGw L vs g (wipeR ρ vs) d ρ' ∧ EvB L tt ρ' (f d) ∧ (f d = true → EvP L te ρ' (fun r => ∃ y, G d y ∧ r = .d y))) (hz : ∀ ds, PD ds → ds.length ≤ 100000)
    (hd : ∀ ds ys, PD ds → Made G f ds ys → P (.own ys)) : EvP L (tLc wi g tt te vs) ρ P := fun gs H0 H σ Q E k => hi gs H0 H σ _ E fun ds J gl H1 pd e1 g1 w hgl => by
  intro A hA
  have E1 := (E.step e1 g1).more hgl
  have eA : Step L H1 (upd H1 A (.lst [])) := Step.new hA
  refine lc_it w (fun i H' => ∃ acc ys, H' A = some (.lst acc) ∧ DvA H' acc ys ∧ Made G f (ds.take i) ys ∧ Step L H1 H' ∧ Good L H' ∧ Dl.En L ⟨gl ++ gs.ls, H1 :: gs.hs⟩ H0 H' σ ρ) ⟨[], [], upd_same, .nil, .nil, eA, g1.new hA, E1.step eA (g1.new hA)⟩
    (fun i H' _ ⟨_, _, _, _, _, _, _, E'⟩ => ⟨E'.tx H1 List.mem_cons_self, fun q hq => (E'.gd q (List.mem_append_left _ hq)).1⟩) (fun i x H' H2 hi ⟨acc, ys, a1, a2, a3, a4, a5, a6⟩ yl => ?_) (fun H' ⟨acc, ys, a1, a2, a3, a4, a5, a6⟩ => ?_)
  · have hget : ds[i]? = some ds[i] := by simp [hi]
    obtain ⟨ρ', eg, eb, ee⟩ := ht ds ds[i] pd (List.mem_of_getElem? hget)
    have s2 := Step.of (L := L) yl.1
    have g2 := a5.ext yl.1
    have E2 := (a6.step s2 g2).wipe vs
    have rA : ¬ L.resv A := g1.free hA
    have ntp : ∀ q, L.tp = some q → A ≠ q.1 := fun q hq z => rA ⟨q, hq, .inl z⟩
    refine eg _ H0 H2 σ x _ E2 (yl.2 _ hget) fun σ2 E3 hw => ⟨hw, ?_⟩
    refine eb _ H0 H2 σ2 _ E3 fun H3 e3 g3 => ?_
    have hA3 : H3 A = some (.lst acc) := e3.keep _ _ (yl.1 _ _ a1) nolst ntp
    have d3 : DvA H3 acc ys := DvA.mono (e3.tex g2) _ _ (DvA.mono (s2.tex a5) _ _ a2)
    have s3 : Step L H1 H3 := (a4.trans s2).trans e3
    have E4 : Dl.En L ⟨gl ++ gs.ls, H1 :: gs.hs⟩ H0 H3 σ ρ := (a6.step s2 g2).step e3 g3
    cases hf : f ds[i] with
    | false =>
      show ∃ acc ys, _
      exact ⟨acc, ys, hA3, d3, by rw [take_snoc hget]; exact a3.no hf, s3, g3, E4⟩
    | true =>
      show te σ2 H3 _
      refine ee hf _ H0 H3 σ2 _ (E3.step e3 g3) fun r v H4 ⟨y, hy, hr⟩ e4 g4 rv => ?_
      subst hr
      have hA4 : H4 A = some (.lst acc) := e4.keep _ _ hA3 nolst ntp
      have d4 : DvA H4 acc ys := DvA.mono (e4.tex g3) _ _ d3
      have lz : acc.length ≤ 100000 := by
        have h1 := a3.len
        have h2 := hz ds pd
        rw [a2.length]
        have h3 : (ds.take i).length ≤ ds.length := by rw [List.length_take]; exact Nat.min_le_right _ _
        omega
      refine ⟨acc, hA4, Nat.lt_of_le_of_lt lz (by decide), ?_⟩
      have tx : TEx H4 (upd H4 A (.lst (acc ++ [v]))) := fun a us h so => by
        rw [upd_ne (ne_of h hA4 (by intro z; rw [z] at so; cases so))]
        exact h
      have sB : Step L H1 (upd H4 A (.lst (acc ++ [v]))) := ⟨fun b o e n t => by
        rw [upd_ne (ne_of_none e hA)]
        exact (s3.trans e4).keep b o e n t, fun b e => by
        by_cases hb : b = A
        · rw [hb]; exact hA
        · rw [upd_ne hb] at e; exact (s3.trans e4).free b e⟩
      have gB : Good L (upd H4 A (.lst (acc ++ [v]))) := g4.write hA4 (.inl ⟨_, rfl⟩) rA
      exact ⟨acc ++ [v], ys ++ [y], upd_same, (DvA.mono tx _ _ d4).append (.cons (Dv.mono tx _ _ rv) .nil), by rw [take_snoc hget]; exact a3.yes hf hy, sB, gB, E1.step sB gB⟩
  · rw [List.take_length] at a3
    exact k _ _ H' (hd ds ys pd a3) (e1.trans a4) a5 ⟨A, acc, rfl, e1.free _ hA, g1.free hA, a1, a2⟩
/-- the contexts of a block -/
abbrev BX (X : Cx) (s : Shared) (H : Hp) (scope : Scope) (C : Addr) (cl : List (Str × Addr)) (fp : List Addr) : Cx := X.blk s H scope (compEnvC scope cl C X.env) fp
def blkE (X : Cx) (scope : Scope) (e : Expr) : TE := fun σ H Q => ∀ (s : Shared) (H1 : Hp) (C : Addr) (cl : List (Str × Addr)) (fp : List Addr), semE (BX X s H1 scope C cl fp) e σ H Q
def blkT (X : Cx) (scope : Scope) (e : Expr) : TT := fun σ H Q => ∀ (s : Shared) (H1 : Hp) (C : Addr) (cl : List (Str × Addr)) (fp : List Addr), semT (BX X s H1 scope C cl fp) e σ H Q
theorem pe_blk {scope : Scope} {e : Expr} (s : Shared) (H1 : Hp) (C : Addr) (cl : List (Str × Addr)) (fp : List Addr) : PE (BX X s H1 scope C cl fp) e (blkE X scope e) := ⟨fun pins s' _ _ _ I h => h s H1 C cl fp pins s' I⟩
theorem pt_blk {scope : Scope} {e : Expr} (s : Shared) (H1 : Hp) (C : Addr) (cl : List (Str × Addr)) (fp : List Addr) : PT (BX X s H1 scope C cl fp) e (blkT X scope e) := ⟨fun pins s' _ _ _ I h => h s H1 C cl fp pins s' I⟩
theorem ev_blkE {scope : Scope} {e : Expr} (h : ∀ (s : Shared) (H1 : Hp) (C : Addr) (cl : List (Str × Addr)) (fp : List Addr), XP (BX X s H1 scope C cl fp) L e ρ P) : EvP L (blkE X scope e) ρ P := fun gs H0 H σ Q E k s H1 C cl fp => h s H1 C cl fp gs H0 H σ Q E k
theorem ev_blkT {scope : Scope} {e : Expr} {t : Bool} (h : ∀ (s : Shared) (H1 : Hp) (C : Addr) (cl : List (Str × Addr)) (fp : List Addr), XT (BX X s H1 scope C cl fp) L e ρ t) : EvB L (blkT X scope e) ρ t := fun gs H0 H σ Q E k s H1 C cl fp => h s H1 C cl fp gs H0 H σ Q E k
theorem evb_yes : EvB L tYes ρ true := fun gs H0 H σ Q E k => k H (Step.refl H) E.good
theorem made_all {h : D → D} {ds ys : List D} (m : Made (fun d y => true = true → y = h d) (fun _ => true) ds ys) : ys = ds.map h := by
  have q := m.det
  rw [q, List.filter_eq_self.mpr (fun _ _ => rfl)]
/-- [e for t in it] -/
theorem xe_lc {elt tg it : Expr} {scope : Scope} {own : List (Str × Nat)} {pos : Pos} {g : TG} {ds : List D} (h : D → D) (hi : XI X L tg it ρ (fun z => z = ds)) (ok : BlkOk X.N X.env.scope scope own)
    (hg : ∀ (s : Shared) (H : Hp) (C : Addr) (cl : List (Str × Addr)) (fp : List Addr), PG (BX X s H scope C cl fp) tg g)
    (ht : ∀ d, d ∈ ds → ∃ ρ', EvGw L (own.map (·.2)) g (wipeR ρ (own.map (·.2))) d ρ' ∧ ∀ (s : Shared) (H1 : Hp) (C : Addr) (cl : List (Str × Addr)) (fp : List Addr), XE (BX X s H1 scope C cl fp) L elt ρ' (.d (h d))) (hz : ds.length ≤ 100000)
    (hc : X.calm = true := by rfl) (hN : X.N.Nodup := by assumption) (hs : ∀ x, foldedSetIterable it X.env x = pure x := by intro _; rfl) : XE X L (.ListComp elt [⟨tg, it, [], 0⟩] scope pos) ρ (.own (ds.map h)) :=
  xe_of (pe_lc hc hN pi_sem ok hg (fun _ _ _ _ _ => pts_nil) (fun s H1 C cl fp => pe_blk s H1 C cl fp) hs)
    (ev_lc (fun _ => true) (fun d y => true = true → y = h d) hi (fun ds' d e hd => by
      subst e
      obtain ⟨ρ', h1, h2⟩ := ht d hd
      exact ⟨ρ', h1, evb_yes, fun _ => ev_blkE fun s H1 C cl fp => (h2 s H1 C cl fp).p ⟨_, fun _ => rfl, rfl⟩⟩) (fun _ e => by rw [e]; exact hz) (fun ds' ys e m => by
      subst e
      rw [made_all m]))
/-- [e for t in it if c] -/
theorem xe_lcIf {elt tg it c : Expr} {scope : Scope} {own : List (Str × Nat)} {pos : Pos} {g : TG} {ds : List D} (f : D → Bool) (h : D → D) (hi : XI X L tg it ρ (fun z => z = ds)) (ok : BlkOk X.N X.env.scope scope own)
    (hg : ∀ (s : Shared) (H : Hp) (C : Addr) (cl : List (Str × Addr)) (fp : List Addr), PG (BX X s H scope C cl fp) tg g)
    (ht : ∀ d, d ∈ ds → ∃ ρ', EvGw L (own.map (·.2)) g (wipeR ρ (own.map (·.2))) d ρ' ∧ (∀ (s : Shared) (H1 : Hp) (C : Addr) (cl : List (Str × Addr)) (fp : List Addr), XT (BX X s H1 scope C cl fp) L c ρ' (f d)) ∧
      (f d = true → ∀ (s : Shared) (H1 : Hp) (C : Addr) (cl : List (Str × Addr)) (fp : List Addr), XE (BX X s H1 scope C cl fp) L elt ρ' (.d (h d)))) (hz : ds.length ≤ 100000)
    (hc : X.calm = true := by rfl) (hN : X.N.Nodup := by assumption) (hs : ∀ x, foldedSetIterable it X.env x = pure x := by intro _; rfl) : XE X L (.ListComp elt [⟨tg, it, [c], 0⟩] scope pos) ρ (.own ((ds.filter f).map h)) :=
  xe_of (pe_lc hc hN pi_sem ok hg (fun s H1 C cl fp => pts_one (pt_blk s H1 C cl fp)) (fun s H1 C cl fp => pe_blk s H1 C cl fp) hs)
    (ev_lc f (fun d y => f d = true → y = h d) hi (fun ds' d e hd => by
      subst e
      obtain ⟨ρ', h1, h2, h3⟩ := ht d hd
      exact ⟨ρ', h1, ev_blkT h2, fun hf => ev_blkE fun s H1 C cl fp => (h3 hf s H1 C cl fp).p ⟨_, fun _ => rfl, rfl⟩⟩) (fun _ e => by rw [e]; exact hz) (fun ds' ys e m => by
      subst e
      rw [m.det]))
end
end Dl
-- Lay6
/-! Lay6: a list of one's own read for a while; membership; globals. -/
namespace Dl
open PySem L2 PyProof.Rows
theorem En.toRo {L : Lay} {gs : Gs} {H0 H : Hp} {σ : L2.St} {ρ : Rho} {i : Nat} {ds : List D} (E : En L gs H0 H σ ρ) (hr : ρ[i]? = some (some (.own ds))) : En L gs H0 H σ (ρ.set i (some (.ro ds))) := by
  have hi : i < ρ.length := (List.getElem?_eq_some_iff.mp hr).1
  have at_ : ∀ (j : Nat) r2, (ρ.set i (some (.ro ds)))[j]? = some (some r2) → (j = i ∧ r2 = .ro ds) ∨ (j ≠ i ∧ ρ[j]? = some (some r2)) := fun j r2 e => by
    by_cases hj : i = j
    · subst hj
      rw [List.getElem?_set_self hi] at e
      exact .inl ⟨rfl, (Option.some.inj (Option.some.inj e)).symm⟩
    · rw [List.getElem?_set_ne hj] at e
      exact .inr ⟨fun z => hj z.symm, e⟩
  refine ⟨E.st, E.good, by rw [List.length_set]; exact E.len, fun j r e => ?_, fun j k p r1 r2 e1 o1 s1 e2 o2 s2 => ?_, fun q hq => ⟨(E.gd q hq).1, (E.gd q hq).2.1, fun j r e o => ?_⟩, E.tx⟩
  · rcases at_ j r e with ⟨rfl, rfl⟩ | ⟨nj, e'⟩
    · obtain ⟨v, h1, h2⟩ := E.slot j _ hr
      exact ⟨v, h1, h2.rd⟩
    · exact E.slot j r e'
  · rcases at_ j r1 e1 with ⟨rfl, rfl⟩ | ⟨nj, e1'⟩
    · cases o1
    · rcases at_ k r2 e2 with ⟨rfl, rfl⟩ | ⟨nk, e2'⟩
      · exact E.sep j k p r1 _ e1' o1 s1 hr rfl s2
      · exact E.sep j k p r1 r2 e1' o1 s1 e2' o2 s2
  · rcases at_ j r e with ⟨rfl, rfl⟩ | ⟨nj, e'⟩
    · cases o
    · exact (E.gd q hq).2.2 j r e' o
section
variable {X : Cx} {L : Lay} {ρ : Rho} {P : Rep → Prop} {e a b : Expr} {pos p : Pos} {r : Rep} {ds : List D} {sts : List Stmt} {E : DE}
theorem XP.fz (i : Nat) (hr : ρ[i]? = some (some (.own ds))) (h : XP X L e (ρ.set i (some (.ro ds))) P) : XP X L e ρ P := fun gs H0 H σ Q E k => h gs H0 H σ Q (E.toRo hr) k
theorem XE.fz (i : Nat) (h : XE X L e (ρ.set i (some (.ro ds))) r) (hr : ρ[i]? = some (some (.own ds)) := by rfl) : XE X L e ρ r := fun gs H0 H σ Q E k => h gs H0 H σ Q (E.toRo hr) k
theorem XT.fz (i : Nat) {t : Bool} (h : XT X L e (ρ.set i (some (.ro ds))) t) (hr : ρ[i]? = some (some (.own ds)) := by rfl) : XT X L e ρ t := fun gs H0 H σ Q E k => h gs H0 H σ Q (E.toRo hr) k
theorem XSs.fz (i : Nat) (h : XSs X L sts (ρ.set i (some (.ro ds))) E) (hr : ρ[i]? = some (some (.own ds)) := by rfl) : XSs X L sts ρ E := fun gs H0 H σ D En l => h gs H0 H σ D (En.toRo hr) l
theorem xe_glob {x : Str} {n : Int} {t : Tok} (hm : X.mg x = some (.int n t)) (hg : Gl X x := by rfl) (hd : (x == ("__debug__" : Str)) = false := by decide) : XE X L (.Name x pos) ρ (.d (.int n)) := xe_of (pe_glob (v := .int n) hg hm ⟨_, rfl⟩ hd) (ev_c fun _ _ => Dv.int n)
/-- x in (texts) -/
theorem strsV {H : Hp} : ∀ {ys : List Str} {vs : List V}, DvA H vs (ys.map D.str) → vs = ys.map V.str
  | [], _, .nil => rfl
  | y :: ys, _, .cons h r => by
    cases h
    rw [List.map_cons, strsV r]
theorem inV_strs (s : Str) (ys : List Str) : inV (.str s) (ys.map V.str) = ys.any fun y => y == s := by
  unfold inV
  rw [List.any_map]
  rfl
theorem flat_strs (ys : List Str) : (ys.map V.str).all flatV = true := List.all_eq_true.mpr fun x hx => by
  obtain ⟨_, _, rfl⟩ := List.mem_map.mp hx
  rfl
theorem od_inS {K : PySem.W.Frag} {neg : Bool} {s : Str} {ys : List Str} : OpD L (rIn K neg) (.d (.str s)) (.d (.tup (ys.map D.str))) (fun q => q = .d (.bl (if neg then !(ys.any fun y => y == s) else ys.any fun y => y == s))) := fun H Hb vx vy Q g hx hy k => by
  obtain rfl := rv_str hx
  obtain ⟨p, vs, rfl, h1, h2⟩ := rv_tup hy
  obtain rfl := strsV h2
  refine ⟨p, _, rfl, .inr (SqT.of h1), rfl, flat_strs ys, ?_⟩
  rw [inV_strs]
  exact k _ _ Hb rfl (Step.refl _) g (Dv.bl _)
theorem xe_inS {s : Str} {ys : List Str} (ha : XE X L a ρ (.d (.str s))) (hb : XE X L b ρ (.d (.tup (ys.map D.str)))) (hm : behindInMarks .In b = false := by rfl) : XE X L (.Compare a [.In] [b] pos) ρ (.d (.bl (ys.any fun y => y == s))) := xe_cmp op_in_seq od_inS ha hb hm
theorem xt_inS {s : Str} {ys : List Str} (ha : XE X L a ρ (.d (.str s))) (hb : XE X L b ρ (.d (.tup (ys.map D.str)))) (hm : behindInMarks .In b = false := by rfl) : XT X L (.Compare a [.In] [b] pos) ρ (ys.any fun y => y == s) := xt_cmp op_in_seq od_inS ha hb hm
theorem xt_notinS {s : Str} {ys : List Str} (ha : XE X L a ρ (.d (.str s))) (hb : XE X L b ρ (.d (.tup (ys.map D.str)))) (hm : behindInMarks .NotIn b = false := by rfl) : XT X L (.Compare a [.NotIn] [b] pos) ρ (!(ys.any fun y => y == s)) := xt_cmp op_notIn_seq od_inS ha hb hm
theorem pg_two {i j k : Nat} {x y : Str} {p1 p2 : Pos} (hN : X.N.Nodup) (hc : X.calm = true) (hi : X.N[i]? = some x) (hj : X.N[j]? = some y) (hx : Loc X.env.scope x) (hy : Loc X.env.scope y) (hf : X.fn x = true ∨ X.env.scope.names.lookup x = some .local) (hg : X.fn y = true ∨ X.env.scope.names.lookup y = some .local) :
    PG X (.Tuple [.Name x p1, .Name y p2] k pos) (gTup X.K 2 (gCons (gName i) (gCons (gName j) gNil))) := pg_tup hc (pgs_cons (pg_name hN hi hx hf) (pgs_cons (pg_name hN hj hy hg) pgs_nil))
theorem pg_three {i j l k : Nat} {x y z : Str} {p1 p2 p3 : Pos} (hN : X.N.Nodup) (hc : X.calm = true) (hi : X.N[i]? = some x) (hj : X.N[j]? = some y) (hl : X.N[l]? = some z) (hx : Loc X.env.scope x) (hy : Loc X.env.scope y) (hz : Loc X.env.scope z) (hf : X.fn x = true ∨ X.env.scope.names.lookup x = some .local) (hg : X.fn y = true ∨ X.env.scope.names.lookup y = some .local) (hh : X.fn z = true ∨ X.env.scope.names.lookup z = some .local) :
    PG X (.Tuple [.Name x p1, .Name y p2, .Name z p3] k pos) (gTup X.K 3 (gCons (gName i) (gCons (gName j) (gCons (gName l) gNil)))) := pg_tup hc (pgs_cons (pg_name hN hi hx hf) (pgs_cons (pg_name hN hj hy hg) (pgs_cons (pg_name hN hl hz hh) pgs_nil)))
end
end Dl
-- Lay7
/-! Lay7: sums and counts of tuples, sorted, dicts, index, extend. -/
namespace Dl
open PySem PySem.Spec L2 PyProof.Rows

/-! ### permutations -/
theorem DvA.perm {H : Hp} {xs ys : List V} (p : ys.Perm xs) : ∀ {ds : List D}, DvA H xs ds → ∃ es, es.Perm ds ∧ DvA H ys es := by
  have q := p.symm
  clear p
  induction q with
  | nil => intro ds h; exact ⟨ds, List.Perm.refl _, h⟩
  | cons x _ ih =>
    intro ds h
    cases h with
    | cons a t =>
      obtain ⟨es, e1, e2⟩ := ih t
      exact ⟨_ :: es, e1.cons _, .cons a e2⟩
  | swap x y l =>
    intro ds h
    cases h with
    | cons a t => cases t with
      | cons b t => exact ⟨_ :: _ :: _, List.Perm.swap _ _ _, .cons b (.cons a t)⟩
  | trans _ _ ih1 ih2 =>
    intro ds h
    obtain ⟨es, e1, e2⟩ := ih1 h
    obtain ⟨fs, f1, f2⟩ := ih2 e2
    exact ⟨fs, f1.trans e1, f2⟩
theorem perm_map {α β : Type} {f : α → β} {m n : List β} (h : n.Perm m) : ∀ {l : List α}, n = l.map f → ∃ l' : List α, l'.Perm l ∧ m = l'.map f := by
  induction h with
  | nil => intro l e; exact ⟨l, List.Perm.refl _, e⟩
  | cons x _ ih =>
    intro l e
    cases l with
    | nil => cases e
    | cons a l =>
      rw [List.map_cons] at e
      injection e with e1 e2
      obtain ⟨l', p, q⟩ := ih e2
      exact ⟨a :: l', p.cons _, by rw [List.map_cons, ← q, e1]⟩
  | swap x y l0 =>
    intro l e
    cases l with
    | nil => cases e
    | cons a l => cases l with
      | nil => cases e
      | cons b l =>
        simp only [List.map_cons] at e
        injection e with e1 e2
        injection e2 with e2 e3
        exact ⟨b :: a :: l, List.Perm.swap _ _ _, by rw [List.map_cons, List.map_cons, e1, e2, e3]⟩
  | trans _ _ ih1 ih2 =>
    intro l e
    obtain ⟨l1, p1, q1⟩ := ih1 e
    obtain ⟨l2, p2, q2⟩ := ih2 q1
    exact ⟨l2, p2.trans p1, q2⟩

section
variable {X : Cx} {L : Lay} {ρ : Rho} {P : Rep → Prop} {e a b : Expr} {p pos : Pos} {rest : List Stmt} {E : DE} {i : Nat} {x : Str}
theorem cr_sumT (hc : X.calm = true) : CallR X (.builtin "sum") (fun vs H Q => ∃ (a : Addr) (ns : List Int), vs = [V.ref a] ∧ SqT X.K H a (ns.map V.int) ∧ Q (.int ns.sum) H) := by
  intro pins s σ H vs us Q I r ⟨a, ns, ev, hs, q⟩
  subst ev
  obtain ⟨us, rv, tup, _⟩ := I.tuple hs
  obtain ⟨xs, ex⟩ := rv.ints.allInts.items
  have sm : numsOf (intItems xs).toList = ns := ex ▸ rv.ints.numsOf
  rw [nums_intItems] at sm
  have tup2 : s.heap.IsTuple a (intItems xs) := ex ▸ tup
  rw [Vals.ref1 r]
  refine PySem.W.ktm_sumG (I.ok.hd hc) tup2 fun g t t2 st => ?_
  rw [preSum_eq]
  rw [List.take_of_length_le (by simp), sm]
  exact ⟨.int _, H, I.kept st, ⟨_, rfl⟩, q⟩
theorem xe_sumT {ns : List Int} (ha : XE X L a ρ (.d (.tup (ns.map .int)))) (hm : X.mg "sum" = none) (hc : X.calm = true := by rfl) (hg : Gl X "sum" := by rfl) (hs : starEach [a] X.env = (false, eval a X.env) :: starEach [] X.env := by rfl) (hpl : (backTo pos (starEach [] X.env)).any (·.1) = false := by rfl) : XE X L (.Call (.Name "sum" p) [a] [] pos) ρ (.d (.int ns.sum)) :=
  xp_cb (cr_sumT hc) hm (by decide +kernel) (xa_cons ha xa_nil hs) (fun H Hb vs Q g e rv k => by
    obtain ⟨v, rfl, q⟩ := rvs1 rv
    obtain ⟨t, xs, rfl, h1, h2⟩ := rv_tup q
    obtain rfl := h2.ints
    exact ⟨t, ns, rfl, SqT.of h1, k _ _ Hb rfl (Step.refl _) g (Dv.int _)⟩) hg (by decide) (by decide) hs hpl
/-! ### sorted -/
def pD (q : Int × Int) : D := .tup [.int q.1, .int q.2]
theorem pairs_at {H : Hp} : ∀ {ps : List (Int × Int)} {vs : List V}, DvA H vs (ps.map pD) → ∀ x ∈ vs, ∃ t a b, x = V.ref t ∧ H t = some (.tup [.int a, .int b])
  | [], _, .nil, x, hx => by cases hx
  | q :: ps, _, .cons h r, x, hx => by
    rcases List.mem_cons.mp hx with z | z
    · subst z
      cases h with
      | tup h1 h2 => cases h2 with
        | cons a1 t => cases t with
          | cons a2 t =>
            cases t
            cases a1
            cases a2
            exact ⟨_, _, _, rfl, h1⟩
    · exact pairs_at r x z
theorem xp_sortedP {ps : List (Int × Int)} (ha : XE X L a ρ (.ro (ps.map pD))) (hm : X.mg "sorted" = none) (hg : Gl X "sorted" := by rfl) (hs : starEach [a] X.env = (false, eval a X.env) :: starEach [] X.env := by rfl) (hpl : (backTo pos (starEach [] X.env)).any (·.1) = false := by rfl) :
    XP X L (.Call (.Name "sorted" p) [a] [] pos) ρ (fun r => ∃ qs : List (Int × Int), qs.Perm ps ∧ r = .own (qs.map pD)) :=
  xp_cb cr_sortedPO hm (by decide +kernel) (xa_cons ha xa_nil hs) (fun H Hb vs Q g e rv k => by
    obtain ⟨v, rfl, t, xs, rfl, _, h1, h2⟩ := rvs1 rv
    let key : V → Int × Int := fun v => match v with
      | .ref t => match Hb t with
        | some (.tup [.int a, .int b]) => (a, b)
        | _ => (0, 0)
      | _ => (0, 0)
    refine ⟨t, xs, key, rfl, SqL.of h1, fun x hx => ?_, fun ys q _ hst hq => ?_⟩
    · obtain ⟨t, a, b, rfl, ht⟩ := pairs_at h2 x hx
      refine ⟨t, rfl, ?_⟩
      have e : key (.ref t) = (a, b) := by
        show (match Hb t with | some (.tup [.int a, .int b]) => (a, b) | _ => (0, 0)) = (a, b)
        rw [ht]
      rw [e]
      exact ht
    · obtain ⟨es, e1, e2⟩ := h2.perm hst.perm
      obtain ⟨qs, f1, f2⟩ := perm_map e1.symm rfl
      refine k _ _ _ ⟨qs, f1, rfl⟩ (Step.new hq) (g.new hq) ⟨q, ys, rfl, hq, g.free hq, upd_same, ?_⟩
      rw [← f2]
      exact DvA.mono ((Step.new hq).tex g) _ _ e2) hg (by decide) (by decide) hs hpl
/-! ### dicts -/
theorem xe_dnew : XE X L (.Dict [] [] pos) ρ (.dct []) := xe_of pe_dnewK fun gs H0 H σ Q E k p hp => k _ _ _ rfl (Step.new hp) (E.good.new hp) ⟨p, [], rfl, hp, E.good.free hp, upd_same, .nil⟩
def putD (kvs : List (Key × D)) (k : Key) (d : D) : List (Key × D) :=
  if (kvs.any fun kv => decide (kv.1 = k)) = true then kvs.map (fun kv => if kv.1 = k then (kv.1, d) else kv) else kvs ++ [(k, d)]
def getD' (kvs : List (Key × D)) (k : Key) : Option D := (kvs.find? fun kv => decide (kv.1 = k)).map (·.2)
theorem kd_any {H : Hp} {k : Key} : ∀ {vs : List (Key × V)} {kvs : List (Key × D)}, KD H vs kvs → (vs.any fun kv => decide (kv.1 = k)) = (kvs.any fun kv => decide (kv.1 = k))
  | _, _, .nil => rfl
  | _, _, .cons h r => by rw [List.any_cons, List.any_cons, kd_any r, h.1]
theorem kd_map {H : Hp} {k : Key} {v : V} {d : D} (hv : Dv H v d) : ∀ {vs : List (Key × V)} {kvs : List (Key × D)}, KD H vs kvs → KD H (vs.map (fun kv => if kv.1 = k then (kv.1, v) else kv)) (kvs.map (fun kv => if kv.1 = k then (kv.1, d) else kv))
  | _, _, .nil => .nil
  | (a, w) :: _, (b, e) :: _, .cons h r => by
    refine .cons ?_ (kd_map hv r)
    obtain ⟨h1, h2⟩ := h
    have h1 : a = b := h1
    subst h1
    by_cases z : a = k
    · show (if a = k then (a, v) else (a, w)).1 = (if a = k then (a, d) else (a, e)).1 ∧ Dv H (if a = k then (a, v) else (a, w)).2 (if a = k then (a, d) else (a, e)).2
      rw [if_pos z, if_pos z]; exact ⟨rfl, hv⟩
    · show (if a = k then (a, v) else (a, w)).1 = (if a = k then (a, d) else (a, e)).1 ∧ Dv H (if a = k then (a, v) else (a, w)).2 (if a = k then (a, d) else (a, e)).2
      rw [if_neg z, if_neg z]; exact ⟨rfl, h2⟩
theorem kd_app {H : Hp} {k : Key} {v : V} {d : D} (hv : Dv H v d) : ∀ {vs : List (Key × V)} {kvs : List (Key × D)}, KD H vs kvs → KD H (vs ++ [(k, v)]) (kvs ++ [(k, d)])
  | _, _, .nil => .cons ⟨rfl, hv⟩ .nil
  | _, _, .cons h r => .cons h (kd_app hv r)
theorem kd_put {H : Hp} {k : Key} {v : V} {d : D} (hv : Dv H v d) {vs : List (Key × V)} {kvs : List (Key × D)} (h : KD H vs kvs) : KD H (putK vs k v) (putD kvs k d) := by
  unfold putK putD
  rw [kd_any h]
  split
  · exact kd_map hv h
  · exact kd_app hv h
theorem kd_get {H : Hp} {k : Key} : ∀ {vs : List (Key × V)} {kvs : List (Key × D)}, KD H vs kvs → (∀ d, getD' kvs k = some d → ∃ v, valV vs k = some v ∧ Dv H v d) ∧ (valV vs k).isSome = (getD' kvs k).isSome
  | _, _, .nil => ⟨(fun d h => by cases h), rfl⟩
  | (a, w) :: vs, (b, e) :: kvs, .cons h r => by
    obtain ⟨h1, h2⟩ := h
    have h1 : a = b := h1
    subst h1
    have ih := kd_get (k := k) r
    unfold valV getD' at ih ⊢
    by_cases z : a = k
    · simp only [List.find?_cons, z, decide_true]
      exact ⟨fun d hd => ⟨w, rfl, by cases hd; exact h2⟩, rfl⟩
    · simp only [List.find?_cons, z, decide_false]
      exact ih
theorem kd_len {H : Hp} {vs : List (Key × V)} {kvs : List (Key × D)} (h : KD H vs kvs) : vs.length = kvs.length := paired_len h
def kD : Key → D
  | .inl i => .int i
  | .inr s => .str s
theorem rv_key {L : Lay} {H0 H : Hp} {v : V} {k : Key} (h : RV L H0 H v (.d (kD k))) : v = kV k := by
  cases k with
  | inl i => exact rv_int h
  | inr s => exact rv_str h
/-- x[k] = e, x a dict of the frame's own -/
theorem xs_dput {kvs : List (Key × D)} {k : Key} {d : D} {pos' : Pos} (hr : ρ[i]? = some (some (.dct kvs))) (he : XE X L e ρ (.d d)) (hk : XE X L b ρ (.d (kD k))) (hz : kvs.length < 100000) (kk : XSs X L rest (ρ.set i (some (.dct (putD kvs k d)))) E)
    (hps : PS X (.Assign [.Subscript (.Name x p) b pos'] e pos) (sDPut (tVar i) (semE X b) (semE X e))) : XSs X L (.Assign [.Subscript (.Name x p) b pos'] e pos :: rest) ρ E := xs_cons hps fun gs H0 H σ D En l =>
  he gs H0 H σ _ En fun r w H1 pr e1 g1 rv => by
    subst pr
    have E1 := En.step e1 g1
    obtain ⟨v, s1, a, vs, rfl, h0, hv, h1, h2⟩ := E1.slot i _ hr
    refine ⟨_, s1, hk gs H0 H1 σ _ E1 fun r2 w2 H2 pr2 e2 g2 rv2 => ?_⟩
    subst pr2
    obtain rfl := rv_key rv2
    have E2 := E1.step e2 g2
    obtain ⟨v', s1', a', vs', ea, h0', hv', h1', h2'⟩ := E2.slot i _ hr
    rw [s1] at s1'
    cases s1'
    cases ea
    refine ⟨a, _, rfl, DPut.k h1' (sz_lt (by rw [kd_len h2']; exact hz)), ?_⟩
    refine kk gs H0 _ σ D (E2.write hr rfl s1 h0' hv' h1' (.inr ⟨_, rfl⟩) rfl fun H' z tx => ⟨a, _, rfl, h0', hv', z, kd_put (Dv.mono tx _ _ (Dv.mono (e2.tex g1) _ _ rv)) (h2'.mono tx)⟩) ⟨l.nx, l.rt, l.bk, l.ct⟩
/-- k in x, k not in x -/
theorem ev_dslot {kvs : List (Key × D)} {k : Key} (neg : Bool) (hr : ρ[i]? = some (some (.dct kvs))) (hk : XE X L b ρ (.d (kD k))) : EvP L (fun σ H Q => semE X b σ H fun y H1 => tVar i σ H1 fun x H2 => ∃ a o, x = .ref a ∧ DGet H2 a y o ∧ Q (.bl (if neg then !o.isSome else o.isSome)) H2) ρ (fun z => z = .d (.bl (if neg then !(getD' kvs k).isSome else (getD' kvs k).isSome))) := fun gs H0 H σ Q E kk =>
  hk gs H0 H σ _ E fun r w H1 pr e1 g1 rv => by
    subst pr
    obtain rfl := rv_key rv
    obtain ⟨v, s1, a, vs, rfl, h0, hv, h1, h2⟩ := (E.step e1 g1).slot i _ hr
    refine ⟨_, s1, a, _, rfl, DGet.k h1, ?_⟩
    rw [(kd_get h2).2]
    exact kk _ _ H1 rfl e1 g1 (Dv.bl _)
theorem xt_dnotin {kvs : List (Key × D)} {k : Key} (hr : ρ[i]? = some (some (.dct kvs))) (hk : XE X L b ρ (.d (kD k))) (hu : X.A.units + 1 < cLine) (hN : X.N[i]? = some x := by rfl) (hv : Vis X.env.scope x := by first | exact Or.inl rfl | exact Or.inr (Or.inl rfl) | exact Or.inr (Or.inr rfl))
    (hd : (x == ("__debug__" : Str)) = false := by decide) (hcd : (x == ("__classdict__" : Str)) = false := by decide) (hb : behindInMarks .NotIn (.Name x p) = false := by rfl) : XT X L (.Compare b [.NotIn] [.Name x p] pos) ρ (!(getD' kvs k).isSome) :=
  xt_of (pt_cmp (pc_dnotin hu pe_sem (pe_var hN hv hd hcd)) hb) (evb_B (ev_dslot true hr hk))
/-- x[k], there -/
theorem xe_dget {kvs : List (Key × D)} {k : Key} {d : D} (hr : ρ[i]? = some (some (.dct kvs))) (hk : XE X L b ρ (.d (kD k))) (hd' : getD' kvs k = some d) (hpe : PE X (.Subscript (.Name x p) b pos) (tDGet (tVar i) (semE X b))) : XE X L (.Subscript (.Name x p) b pos) ρ (.d d) :=
  xe_of hpe fun gs H0 H σ Q E kk => by
    obtain ⟨v, s1, _⟩ := E.slot i _ hr
    refine ⟨v, s1, hk gs H0 H σ _ E fun r w H1 pr e1 g1 rv => ?_⟩
    subst pr
    obtain rfl := rv_key rv
    obtain ⟨v', s1', a, vs, rfl, h0, hv, h1, h2⟩ := (E.step e1 g1).slot i _ hr
    rw [s1] at s1'
    cases s1'
    obtain ⟨w, w1, w2⟩ := (kd_get h2).1 d hd'
    exact ⟨a, w, rfl, by rw [← w1]; exact DGet.k h1, kk _ _ H1 rfl e1 g1 w2⟩
/-! ### index, extend -/
theorem xe_index {ns : List Int} {n : Int} {j : Nat} {p1 p2 : Pos} (ha : XE X L a ρ (.ro (ns.map .int))) (hb : XE X L b ρ (.d (.int n))) (hj : ns[j]? = some n) (hf : ∀ m, m < j → ns[m]? ≠ some n)
    (hpe : PE X (.Call (.Attribute a "index" p1) [b] [] p2) (tBM X.K "list" (rIndex X.K) (semE X a) (tCons (semE X b) tNil)) := by exact pe_bm PySem.F.plainAttrs_list PySem.F.slot_list_index PySem.F.type_list_index mt_index pe_sem (pa_cons pe_sem pa_nil)) :
    XE X L (.Call (.Attribute a "index" p1) [b] [] p2) ρ (.d (.int (j : Int))) :=
  xe_of hpe fun gs H0 H σ Q E k => ha gs H0 H σ _ E fun r v H1 pr e1 g1 rv => by
    subst pr
    obtain ⟨t, vs, rfl, nt, h1, h2⟩ := rv
    obtain rfl := h2.ints
    refine ⟨.inl ⟨rfl, _, SqL.of h1⟩, hb gs H0 H1 σ _ (E.step e1 g1) fun r2 v2 H2 pr2 e2 g2 rv2 => ?_⟩
    subst pr2
    obtain rfl := rv_int rv2
    refine ⟨t, ns.map V.int, .int n, j, .int n, rfl, rfl, SqL.of (e2.keep _ _ h1 nolst nt), rfl, List.all_eq_true.mpr fun x hx => by obtain ⟨_, _, rfl⟩ := List.mem_map.mp hx; rfl, by rw [List.getElem?_map, hj]; rfl, by show (n == n) = true; simp, fun m z hm hz => ?_, k _ _ H2 rfl (e1.trans e2) g2 (Dv.int _)⟩
    rw [List.getElem?_map] at hz
    cases e : ns[m]? with
    | none => rw [e] at hz; cases hz
    | some y =>
      rw [e] at hz
      cases hz
      show (y == n) = false
      have ne : y ≠ n := fun q => hf m hm (by rw [e, q])
      simpa using ne
theorem xs_extend {ds es : List D} {p1 p2 : Pos} (hr : ρ[i]? = some (some (.own ds))) (he : XE X L e ρ (.own es)) (hz : ds.length + es.length ≤ 100000) (k : XSs X L rest (ρ.set i (some (.own (ds ++ es)))) E)
    (hb : PS X (.Expr (.Call (.Attribute (.Name x p) "extend" p1) [e] [] p2) pos) (tDrop (tBM X.K "list" rExtend (tVar i) (tCons (semE X e) tNil))) := by exact ps_expr (pe_bm PySem.F.plainAttrs_list PySem.F.slot_list_extend PySem.F.type_list_extend mt_extend (pv _) (pa_cons pe_sem pa_nil))) :
    XSs X L (.Expr (.Call (.Attribute (.Name x p) "extend" p1) [e] [] p2) pos :: rest) ρ E := xs_cons hb fun gs H0 H σ D En l => by
  obtain ⟨v, s1, a, vs, rfl, h0, hv, h1, h2⟩ := En.slot i _ hr
  refine ⟨_, s1, .inl ⟨rfl, vs, SqL.of h1⟩, he gs H0 H σ _ En fun r w H1 pr e1 g1 rv => ?_⟩
  subst pr
  obtain ⟨c, ws, rfl, c0, cv, c1, c2⟩ := rv
  have E1 := En.step e1 g1
  obtain ⟨v', s1', a', vs', ea, h0', hv', h1', h2'⟩ := E1.slot i _ hr
  rw [s1] at s1'
  cases s1'
  cases ea
  refine ⟨a, c, vs', ws, rfl, rfl, h1', c1, sz_of (by rw [h2'.length, c2.length]; exact hz), ?_⟩
  refine k gs H0 _ σ D (E1.write hr rfl s1 h0 hv h1' (.inl ⟨_, rfl⟩) rfl fun H' z tx => ⟨a, _, rfl, h0, hv, z, (DvA.mono tx _ _ h2').append (DvA.mono tx _ _ c2)⟩) ⟨l.nx, l.rt, l.bk, l.ct⟩
end
end Dl
set_option maxHeartbeats 240000
-- Mx
/-! Mx: what the defs compute, in plain Lean. -/
namespace Mx
def stb (f : Bool) (n : Int) : Bool := !(f == decide (n % 2 = 1))
def Asc (es : List Int) : Prop := es.Pairwise (· < ·)
def cnt (es : List Int) (t : Int) : Nat := (es.filter fun e => decide (e ≤ t)).length
/-- a rung run: up?, how many -/
abbrev Ld := List (Bool × Int)
inductive Gate where
  | on (n : Int) | off (n : Int) | moved (c : Int)
def Gate.ok : Gate → Prop
  | .on n => 0 ≤ n
  | .off n => 0 ≤ n
  | .moved _ => True
def Gate.a : Gate → Int
  | .on n => n
  | .off _ => 0
  | .moved c => c
def Gate.b : Gate → Int
  | .on _ => 0
  | .off n => n
  | .moved c => c
def ups (l : Ld) : Int := ((l.filter fun r => r.1).map (·.2)).sum
def downs (l : Ld) : Int := ((l.filter fun r => !r.1).map (·.2)).sum
def turnStep (s : Int × Int × List Int) (r : Bool × Int) : Int × Int × List Int :=
  if r.1 then (s.1 + r.2, s.2.1, s.2.2 ++ [s.1 + r.2]) else (s.1, s.2.1 + r.2, s.2.2 ++ [-(s.2.1 + r.2)])
def turnSt (l : Ld) : Int × Int × List Int := l.foldl turnStep (0, 0, [])
/-- the turnings of (0, 0, l) -/
def turn0 (l : Ld) : List Int := let f := (turnSt l).2.2; if f.getLastD 0 = 0 then f else f ++ [0]
def gateTo (lead goal : Int) : Gate := if lead < goal then .off (goal - lead) else .on (lead - goal)
def nrmStep (s : Int × List Gate) (g : Int) : Int × List Gate := (g, s.2 ++ [gateTo s.1 g])
def nrmSt (ts : List Int) : Int × List Gate := ts.foldl nrmStep (0, [])
def Gate.isOn : Gate → Bool
  | .on _ => true
  | _ => false
def Gate.num : Gate → Int
  | .on n => n
  | .off n => n
  | .moved n => n
def nrm (l : Ld) : List Gate := let g := (nrmSt (turn0 l)).2; let lack := 0 - ((g.filter Gate.isOn).map Gate.num).sum; if lack = 0 then g else g ++ [.moved lack]
def sumA (gs : List Gate) : Int := (gs.map Gate.a).sum
def sumB (gs : List Gate) : Int := (gs.map Gate.b).sum
def OkLd (l : Ld) : Prop := (∀ r ∈ l, 1 ≤ r.2) ∧ ∀ (i : Nat) (x y : Bool × Int), l[i]? = some x → l[i + 1]? = some y → x.1 ≠ y.1
/-! ### pieces of a line -/
def goneI (f : Bool) (es : List Int) (on : Bool) (m : Int) (n : Nat) : List Nat := (List.range n).filter fun k => (stb f (1 + (k : Int)) == on) && decide (es.getD (k + 1) 0 - es.getD k 0 ≤ m)
/-- the pieces of the first n that gone keeps: length, place -/
def goneU (f : Bool) (es : List Int) (on : Bool) (m : Int) (n : Nat) : List (Int × Int) := (goneI f es on m n).map fun k => (es.getD (k + 1) 0 - es.getD k 0, (k : Int))
def goneL (f : Bool) (es : List Int) (on : Bool) (m : Int) : List (Int × Int) := goneU f es on m (es.length - 1)
def keepAt (es : List Int) (ps : List Int) : List Int := (es.zipIdx.filter fun q => !(ps.any fun p => decide ((q.2 : Int) = p) || decide ((q.2 : Int) = p + 1))).map (·.1)
/-- the pieces of state on and at most n long are taken out; s is the state behind the first edge -/
def rem (s on : Bool) (n : Int) : List Int → List Int
  | [] => []
  | [x] => [x]
  | x :: y :: r => if s = on ∧ y - x ≤ n then rem s on n r else x :: rem (!s) on n (y :: r)
  termination_by l => l.length
def remL (f on : Bool) (n : Int) (es : List Int) : List Int := rem (!f) on n es
def coreStep (f : Bool) (s : Int × Int × List Int) (r : Bool × Int) : Int × Int × List Int :=
  if r.1 then (s.1 + r.2, s.2.1, remL f false (s.1 + r.2) s.2.2) else (s.1, s.2.1 + r.2, remL f true (s.2.1 + r.2) s.2.2)
def core (f : Bool) (es : List Int) (l : Ld) : List Int := (l.foldl (coreStep f) (0, 0, es)).2.2
/-! ### steps -/
def noteLd (l : Ld) (b : Bool) (n : Int) : Ld :=
  match l.getLast? with
  | some (b', k) => if b' = b then l.dropLast ++ [(b, k + n)] else l ++ [(b, n)]
  | none => l ++ [(b, n)]
def runs (s : List Bool) : Ld := s.foldl (fun l b => noteLd l b 1) []
def cu (s : List Bool) : Nat := s.countP fun b => b
def cd (s : List Bool) : Nat := s.countP fun b => !b
def rungS (f : Bool) (q : Int × Int × List Int) (b : Bool) : Int × Int × List Int := coreStep f q (b, 1)
def coreT (f : Bool) (es : List Int) (s : List Bool) : Int × Int × List Int := s.foldl (rungS f) (0, 0, es)
def coreS (f : Bool) (es : List Int) (s : List Bool) : List Int := (coreT f es s).2.2
/-- how many steps follow -/
def Wn : Nat → Nat → Nat
  | 0, 0 => 1
  | a + 1, 0 => 1 + Wn a 0
  | 0, b + 1 => 1 + Wn 0 b
  | a + 1, b + 1 => 1 + Wn a (b + 1) + Wn (a + 1) b
  termination_by a b => a + b
end Mx
-- Pl1
/-! Pl1: pieces taken out, by places and by steps. -/
namespace Mx
theorem goneU_succ (f : Bool) (es : List Int) (on : Bool) (m : Int) (n : Nat) : goneU f es on m (n + 1) = goneU f es on m n ++ (if stb f (1 + (n : Int)) = on ∧ es.getD (n + 1) 0 - es.getD n 0 ≤ m then [(es.getD (n + 1) 0 - es.getD n 0, (n : Int))] else []) := by
  unfold goneU goneI
  rw [List.range_succ, List.filter_append, List.map_append]
  congr 1
  by_cases h : stb f (1 + (n : Int)) = on ∧ es.getD (n + 1) 0 - es.getD n 0 ≤ m
  · rw [if_pos h, List.filter_cons, if_pos (by rw [Bool.and_eq_true]; exact ⟨beq_iff_eq.mpr h.1, decide_eq_true h.2⟩)]
    rfl
  · rw [if_neg h, List.filter_cons, if_neg (by rw [Bool.and_eq_true]; intro z; exact h ⟨beq_iff_eq.mp z.1, of_decide_eq_true z.2⟩)]
    rfl
theorem goneU_len (f : Bool) (es : List Int) (on : Bool) (m : Int) (n : Nat) : (goneU f es on m n).length ≤ n := by
  unfold goneU goneI
  rw [List.length_map]
  exact Nat.le_trans (List.length_filter_le _ _) (by rw [List.length_range]; exact Nat.le_refl _)
theorem goneL_len (f : Bool) (es : List Int) (on : Bool) (m : Int) : (goneL f es on m).length ≤ es.length := Nat.le_trans (goneU_len f es on m _) (by omega)

/-! ### places -/
def gP (f : Bool) (es : List Int) (on : Bool) (m : Int) (k : Nat) : Bool := decide (k + 1 < es.length) && ((stb f (1 + (k : Int)) == on) && decide (es.getD (k + 1) 0 - es.getD k 0 ≤ m))
theorem goneL_mem {f : Bool} {es : List Int} {on : Bool} {m : Int} (k : Nat) : k ∈ goneI f es on m (es.length - 1) ↔ gP f es on m k = true := by
  unfold goneI gP
  rw [List.mem_filter, List.mem_range, Bool.and_eq_true, Bool.and_eq_true, decide_eq_true_eq, Bool.and_eq_true, decide_eq_true_eq]
  have e : k < es.length - 1 ↔ k + 1 < es.length := by omega
  rw [e, decide_eq_true_eq]
theorem stb_succ (f : Bool) (n : Int) : stb f (1 + n) = stb (!f) n := by
  unfold stb
  have : decide ((1 + n) % 2 = 1) = !decide (n % 2 = 1) := by
    by_cases h : n % 2 = 1
    · rw [decide_eq_true h, decide_eq_false (by omega)]; rfl
    · rw [decide_eq_false h, decide_eq_true (by omega)]; rfl
  rw [this]
  cases f <;> cases decide (n % 2 = 1) <;> rfl
theorem stb_one (f : Bool) : stb f 1 = !f := by cases f <;> rfl
theorem stb_zero (f : Bool) : stb f 0 = f := by cases f <;> rfl
def flipN (f : Bool) (i : Nat) : Bool := stb f i
theorem flipN_succ (f : Bool) (i : Nat) : flipN f (i + 1) = !flipN f i := by
  unfold flipN
  rw [show ((i + 1 : Nat) : Int) = 1 + (i : Int) by omega]
  unfold stb
  have : decide ((1 + (i : Int)) % 2 = 1) = !decide ((i : Int) % 2 = 1) := by
    by_cases h : (i : Int) % 2 = 1
    · rw [decide_eq_true h, decide_eq_false (by omega)]; rfl
    · rw [decide_eq_false h, decide_eq_true (by omega)]; rfl
  rw [this]
  cases f <;> cases decide ((i : Int) % 2 = 1) <;> rfl
/-- kept: told by whether the piece ahead goes; s is the state behind the first edge -/
def kF (p s on : Bool) (m : Int) : List Int → List Int
  | [] => []
  | [x] => if p then [] else [x]
  | x :: y :: r => let c := (s == on) && decide (y - x ≤ m); (if p || c then [] else [x]) ++ kF c (!s) on m (y :: r)
theorem kF_rem (on : Bool) (m : Int) : ∀ (n : Nat) (s : Bool) (es : List Int), es.length ≤ n → kF false s on m es = rem s on m es ∧ (s = !on → ∀ x r, es = x :: r → kF true s on m es = rem (!s) on m r) := by
  intro n
  induction n with
  | zero =>
    intro s es h
    have e : es = [] := List.eq_nil_of_length_eq_zero (by omega)
    subst e
    exact ⟨by unfold kF rem; rfl, fun _ x r z => by cases z⟩
  | succ n ih =>
    intro s es h
    match es with
    | [] => exact ⟨by unfold kF rem; rfl, fun _ x r z => by cases z⟩
    | [x] =>
      refine ⟨by unfold kF rem; rfl, fun _ a r z => ?_⟩
      cases z
      unfold kF rem
      rfl
    | x :: y :: r =>
      have i1 := ih (!s) (y :: r) (by simp at h ⊢; omega)
      refine ⟨?_, fun hs a r' z => ?_⟩
      · unfold kF
        by_cases c : s = on ∧ y - x ≤ m
        · have ec : ((s == on) && decide (y - x ≤ m)) = true := by rw [Bool.and_eq_true]; exact ⟨beq_iff_eq.mpr c.1, decide_eq_true c.2⟩
          rw [rem, if_pos c]
          dsimp only
          rw [ec]
          have := i1.2 (by rw [c.1]) y r rfl
          rw [this]
          simp
        · have ec : ((s == on) && decide (y - x ≤ m)) = false := by
            cases q : ((s == on) && decide (y - x ≤ m)) with
            | false => rfl
            | true => rw [Bool.and_eq_true] at q; exact absurd ⟨beq_iff_eq.mp q.1, of_decide_eq_true q.2⟩ c
          rw [rem, if_neg c]
          dsimp only
          rw [ec, i1.1]
          rfl
      · cases z
        unfold kF
        have ec : ((s == on) && decide (y - x ≤ m)) = false := by subst hs; cases on <;> rfl
        dsimp only
        rw [ec, i1.1]
        rfl
theorem rem_len (on : Bool) (m : Int) : ∀ (n : Nat) (s : Bool) (es : List Int), es.length ≤ n → (rem s on m es).length ≤ es.length := by
  intro n
  induction n with
  | zero =>
    intro s es h
    have e : es = [] := List.eq_nil_of_length_eq_zero (by omega)
    subst e
    unfold rem
    exact Nat.le_refl _
  | succ n ih =>
    intro s es h
    match es with
    | [] => unfold rem; exact Nat.le_refl _
    | [x] => unfold rem; exact Nat.le_refl _
    | x :: y :: r =>
      rw [rem]
      split
      · have := ih s r (by simp at h; omega)
        simp; omega
      · have := ih (!s) (y :: r) (by simp at h ⊢; omega)
        simp at this ⊢; omega
theorem remL_len (f on : Bool) (m : Int) (es : List Int) : (remL f on m es).length ≤ es.length := rem_len on m es.length _ es (Nat.le_refl _)
/-- what stays, by a test of the place -/
def byIx (T : Nat → Bool) (i : Nat) (t : List Int) : List Int := ((t.zipIdx i).filter fun q => T q.2).map (·.1)
theorem byIx_cons (T : Nat → Bool) (i : Nat) (x : Int) (t : List Int) : byIx T i (x :: t) = (if T i then [x] else []) ++ byIx T (i + 1) t := by
  unfold byIx
  rw [List.zipIdx_cons, List.filter_cons]
  split <;> simp
def prevG (G : Nat → Bool) (i : Nat) : Bool := decide (1 ≤ i) && G (i - 1)
theorem byIx_kF (f : Bool) (es : List Int) (on : Bool) (m : Int) : ∀ (t pre : List Int) , es = pre ++ t → byIx (fun k => !(gP f es on m k || prevG (gP f es on m) k)) pre.length t = kF (prevG (gP f es on m) pre.length) (flipN f (pre.length + 1)) on m t := by
  intro t
  induction t with
  | nil => intro pre e; rfl
  | cons x t ih =>
    intro pre e
    have i1 := ih (pre ++ [x]) (by rw [e]; simp)
    rw [List.length_append, List.length_singleton] at i1
    have pg : prevG (gP f es on m) (pre.length + 1) = gP f es on m pre.length := by
      unfold prevG
      rw [decide_eq_true (by omega), Bool.true_and]
      rfl
    rw [byIx_cons, i1, pg]
    match t with
    | [] =>
      have g0 : gP f es on m pre.length = false := by
        unfold gP
        rw [decide_eq_false (by rw [e]; simp)]
        rfl
      rw [g0]
      unfold kF
      cases prevG (gP f es on m) pre.length <;> rfl
    | y :: r =>
      have e1 : es.getD (pre.length + 1) 0 = y := by
        rw [e, List.getD_eq_getElem?_getD, List.getElem?_append_right (by omega)]
        rw [show pre.length + 1 - pre.length = 1 by omega]
        rfl
      have e0 : es.getD pre.length 0 = x := by
        rw [e, List.getD_eq_getElem?_getD, List.getElem?_append_right (by omega), Nat.sub_self]
        rfl
      have g0 : gP f es on m pre.length = ((flipN f (pre.length + 1) == on) && decide (y - x ≤ m)) := by
        unfold gP
        rw [decide_eq_true (by rw [e]; simp), Bool.true_and, e0, e1]
        unfold flipN
        rw [show ((pre.length + 1 : Nat) : Int) = 1 + (pre.length : Int) by omega]
      rw [kF, ← g0, ← flipN_succ]
      congr 1
      cases gP f es on m pre.length <;> cases prevG (gP f es on m) pre.length <;> rfl
theorem keepAt_eq {f : Bool} {es : List Int} {on : Bool} {m : Int} {ps : List Int} (h : ∀ p, p ∈ ps ↔ ∃ k : Nat, p = (k : Int) ∧ gP f es on m k = true) : keepAt es ps = remL f on m es := by
  have q := byIx_kF f es on m es [] rfl
  have p0 : prevG (gP f es on m) 0 = false := rfl
  have fl : flipN f 1 = !f := stb_one f
  simp only [List.length_nil, Nat.zero_add] at q
  rw [p0, fl, (kF_rem on m es.length (!f) es (Nat.le_refl _)).1] at q
  unfold remL
  rw [← q]
  unfold keepAt byIx
  congr 1
  apply List.filter_congr
  rintro ⟨v, k⟩ _
  dsimp only
  congr 1
  rw [Bool.eq_iff_iff, List.any_eq_true, Bool.or_eq_true]
  unfold prevG
  constructor
  · rintro ⟨p, hp, hk⟩
    obtain ⟨j, rfl, hj⟩ := (h p).mp hp
    rw [Bool.or_eq_true, decide_eq_true_eq, decide_eq_true_eq] at hk
    rcases hk with z | z
    · left
      have : k = j := by omega
      rw [this]; exact hj
    · right
      have : k = j + 1 := by omega
      subst this
      rw [decide_eq_true (by omega), Bool.true_and]
      exact hj
  · rintro (z | z)
    · exact ⟨k, (h _).mpr ⟨k, rfl, z⟩, by simp⟩
    · rw [Bool.and_eq_true, decide_eq_true_eq] at z
      refine ⟨((k - 1 : Nat) : Int), (h _).mpr ⟨k - 1, rfl, z.2⟩, ?_⟩
      rw [Bool.or_eq_true]; rw [decide_eq_true_eq, decide_eq_true_eq]
      right
      omega
theorem keepAt_gone {f : Bool} {es : List Int} {on : Bool} {m : Int} {qs : List (Int × Int)} (h : qs.Perm (goneL f es on m)) : keepAt es (qs.map (·.2)) = remL f on m es := by
  apply keepAt_eq (f := f)
  intro p
  rw [List.mem_map]
  constructor
  · rintro ⟨q, hq, rfl⟩
    have := h.mem_iff.mp hq
    unfold goneL goneU at this
    obtain ⟨k, hk, rfl⟩ := List.mem_map.mp this
    exact ⟨k, rfl, (goneL_mem k).mp hk⟩
  · rintro ⟨k, rfl, hk⟩
    refine ⟨(es.getD (k + 1) 0 - es.getD k 0, (k : Int)), h.mem_iff.mpr ?_, rfl⟩
    unfold goneL goneU
    exact List.mem_map.mpr ⟨k, (goneL_mem k).mpr hk, rfl⟩

/-! ### steps -/
theorem coreT_snoc (f : Bool) (es : List Int) (s : List Bool) (b : Bool) : coreT f es (s ++ [b]) = rungS f (coreT f es s) b := by unfold coreT; rw [List.foldl_append]; rfl
theorem cu_snoc (s : List Bool) (b : Bool) : cu (s ++ [b]) = cu s + (if b then 1 else 0) := by unfold cu; rw [List.countP_append]; cases b <;> rfl
theorem cd_snoc (s : List Bool) (b : Bool) : cd (s ++ [b]) = cd s + (if b then 0 else 1) := by unfold cd; rw [List.countP_append]; cases b <;> rfl
theorem snoc_ind {α : Type} {P : List α → Prop} (h0 : P []) (h1 : ∀ s b, P s → P (s ++ [b])) : ∀ s, P s := by
  have q : ∀ (n : Nat) (s : List α), s.length = n → P s := by
    intro n
    induction n with
    | zero => intro s h; rw [List.eq_nil_of_length_eq_zero h]; exact h0
    | succ n ih =>
      intro s h
      rcases List.eq_nil_or_concat s with rfl | ⟨t, u, rfl⟩
      · cases h
      · rw [List.concat_eq_append] at h ⊢
        exact h1 t u (ih t (by simpa using h))
  exact fun s => q _ s rfl
theorem coreT_cnt (f : Bool) (es : List Int) : ∀ s : List Bool, (coreT f es s).1 = (cu s : Int) ∧ (coreT f es s).2.1 = (cd s : Int) := by
  refine snoc_ind ⟨rfl, rfl⟩ fun s b h => ?_
  rw [coreT_snoc, cu_snoc, cd_snoc]
  unfold rungS coreStep
  cases b
  · exact ⟨h.1, by show _ + 1 = _; rw [h.2]; rfl⟩
  · exact ⟨by show _ + 1 = _; rw [h.1]; rfl, h.2⟩
theorem coreS_up (f : Bool) (es : List Int) (s : List Bool) : coreS f es (s ++ [true]) = remL f false ((cu s : Int) + 1) (coreS f es s) := by
  unfold coreS
  rw [coreT_snoc, ← (coreT_cnt f es s).1]
  rfl
theorem coreS_down (f : Bool) (es : List Int) (s : List Bool) : coreS f es (s ++ [false]) = remL f true ((cd s : Int) + 1) (coreS f es s) := by
  unfold coreS
  rw [coreT_snoc, ← (coreT_cnt f es s).2]
  rfl
theorem coreS_len (f : Bool) (es : List Int) : ∀ s, (coreS f es s).length ≤ es.length := by
  refine snoc_ind (Nat.le_refl _) fun s b h => ?_
  cases b
  · rw [coreS_down]; exact Nat.le_trans (remL_len _ _ _ _) h
  · rw [coreS_up]; exact Nat.le_trans (remL_len _ _ _ _) h
def Valid (m : Nat) (s : List Bool) : Prop := cu s ≤ m ∧ cd s ≤ m
theorem Valid.len {m : Nat} {s : List Bool} (h : Valid m s) : s.length ≤ 2 * m := by
  have : ∀ s : List Bool, s.length = cu s + cd s := by
    refine snoc_ind rfl fun s b h => ?_
    rw [List.length_append, cu_snoc, cd_snoc, h]
    cases b <;> simp <;> omega
  have := this s
  have := h.1
  have := h.2
  omega
theorem Wn_pos : ∀ a b : Nat, 1 ≤ Wn a b
  | 0, 0 => by rw [Wn]; exact Nat.le_refl _
  | a + 1, 0 => by rw [Wn]; omega
  | 0, b + 1 => by rw [Wn]; omega
  | a + 1, b + 1 => by rw [Wn]; omega
theorem Wn_eq (a b : Nat) : Wn a b = 1 + (if 0 < a then Wn (a - 1) b else 0) + (if 0 < b then Wn a (b - 1) else 0) := by
  match a, b with
  | 0, 0 => rw [Wn]; rfl
  | a + 1, 0 => rw [Wn]; simp
  | 0, b + 1 => rw [Wn]; simp
  | a + 1, b + 1 => rw [Wn]; simp
theorem Wn_le : ∀ m : Nat, m ≤ 4 → Wn m m ≤ 251 := by
  intro m h
  match m, h with
  | 0, _ => simp [Wn]
  | 1, _ => simp [Wn]
  | 2, _ => simp [Wn]
  | 3, _ => simp [Wn]
  | 4, _ => simp [Wn]
/-- weights of what is still to be opened -/
def wgt (m : Nat) (s : List Bool) : Nat := Wn (m - cu s) (m - cd s)
theorem wgt_eq {m : Nat} {s : List Bool} : wgt m s = 1 + (if cu s < m then wgt m (s ++ [true]) else 0) + (if cd s < m then wgt m (s ++ [false]) else 0) := by
  unfold wgt
  rw [Wn_eq, cu_snoc, cd_snoc, cu_snoc, cd_snoc]
  have e1 : (0 < m - cu s) = (cu s < m) := propext ⟨fun h => by omega, fun h => by omega⟩
  have e2 : (0 < m - cd s) = (cd s < m) := propext ⟨fun h => by omega, fun h => by omega⟩
  simp only [e1, e2, if_true, Bool.false_eq_true, if_false, Nat.add_zero, Nat.sub_sub]
end Mx
-- Pl2
/-! Pl2: more of lines and steps. -/
namespace Mx
theorem core_len (f : Bool) (es : List Int) (l : Ld) : (core f es l).length ≤ es.length := by
  unfold core
  have q : ∀ (l : Ld) (s : Int × Int × List Int), (l.foldl (coreStep f) s).2.2.length ≤ s.2.2.length := by
    intro l
    induction l with
    | nil => intro s; exact Nat.le_refl _
    | cons r l ih =>
      intro s
      rw [List.foldl_cons]
      refine Nat.le_trans (ih _) ?_
      unfold coreStep
      split <;> exact remL_len _ _ _ _
  exact q l _
end Mx
-- Pl3
/-! Pl3: all cores, opened one by one. -/
namespace Mx
/-- what has been opened: steps and cores; places below at are done; m weighs what is left -/
structure Opn (f : Bool) (es : List Int) (mo : Nat) (fs : List (List Bool × List Int)) (at_ m : Nat) : Prop where
  wt : ((fs.drop at_).map fun p => wgt mo p.1).sum = m
  sum : at_ + m = Wn mo mo
  le : at_ ≤ fs.length
  val : ∀ p ∈ fs, Valid mo p.1 ∧ p.2 = coreS f es p.1
  nil : ([], es) ∈ fs
  up : ∀ p ∈ fs.take at_, cu p.1 < mo → (p.1 ++ [true], coreS f es (p.1 ++ [true])) ∈ fs
  down : ∀ p ∈ fs.take at_, cd p.1 < mo → (p.1 ++ [false], coreS f es (p.1 ++ [false])) ∈ fs
def upE (f : Bool) (mo : Nat) (p : List Bool × List Int) : List (List Bool × List Int) := if cu p.1 < mo then [(p.1 ++ [true], remL f false ((cu p.1 : Int) + 1) p.2)] else []
def downE (f : Bool) (mo : Nat) (p : List Bool × List Int) : List (List Bool × List Int) := if cd p.1 < mo then [(p.1 ++ [false], remL f true ((cd p.1 : Int) + 1) p.2)] else []
theorem opn_start (f : Bool) (es : List Int) (mo : Nat) : Opn f es mo [([], es)] 0 (Wn mo mo) where
  wt := by show wgt mo [] + 0 = _; unfold wgt; rfl
  sum := Nat.zero_add _
  le := Nat.zero_le _
  val := fun p hp => by
    obtain rfl := (List.mem_singleton).mp hp
    exact ⟨⟨Nat.zero_le _, Nat.zero_le _⟩, rfl⟩
  nil := List.mem_singleton.mpr rfl
  up := fun p hp => by cases hp
  down := fun p hp => by cases hp
theorem Opn.room {f : Bool} {es : List Int} {mo : Nat} {fs : List (List Bool × List Int)} {at_ m : Nat} (o : Opn f es mo fs at_ m) : fs.length ≤ Wn mo mo := by
  have q : ∀ l : List (List Bool × List Int), l.length ≤ (l.map fun p => wgt mo p.1).sum := by
    intro l
    induction l with
    | nil => exact Nat.le_refl _
    | cons x l ih =>
      rw [List.map_cons, List.sum_cons, List.length_cons]
      have : 1 ≤ wgt mo x.1 := Wn_pos _ _
      omega
  have := q (fs.drop at_)
  rw [o.wt, List.length_drop] at this
  have := o.sum
  have := o.le
  omega
theorem take_succ_mem {α : Type} {l : List α} {i : Nat} {x p : α} (h : l[i]? = some x) (hp : p ∈ l.take (i + 1)) : p ∈ l.take i ∨ p = x := by
  rw [List.take_add_one, h] at hp
  rcases (List.mem_append).mp hp with z | z
  · exact .inl z
  · exact .inr (List.mem_singleton.mp z)
theorem Opn.next {f : Bool} {es : List Int} {mo : Nat} {fs : List (List Bool × List Int)} {at_ m : Nat} {p : List Bool × List Int} (o : Opn f es mo fs at_ m) (h : fs[at_]? = some p) : ∃ m', m' < m ∧ Opn f es mo (fs ++ upE f mo p ++ downE f mo p) (at_ + 1) m' := by
  have hlt : at_ < fs.length := (List.getElem?_eq_some_iff.mp h).1
  have hmem : p ∈ fs := List.mem_of_getElem? h
  have hv := o.val p hmem
  have hd : fs.drop at_ = p :: fs.drop (at_ + 1) := by
    rw [List.drop_eq_getElem_cons hlt, (List.getElem?_eq_some_iff.mp h).2]
  have wm : wgt mo p.1 + ((fs.drop (at_ + 1)).map fun p => wgt mo p.1).sum = m := by rw [← o.wt, hd]; rfl
  have we := wgt_eq (m := mo) (s := p.1)
  have wu : ((upE f mo p).map fun p => wgt mo p.1).sum = if cu p.1 < mo then wgt mo (p.1 ++ [true]) else 0 := by unfold upE; split <;> rfl
  have wd : ((downE f mo p).map fun p => wgt mo p.1).sum = if cd p.1 < mo then wgt mo (p.1 ++ [false]) else 0 := by unfold downE; split <;> rfl
  refine ⟨m - 1, by have := Wn_pos (mo - cu p.1) (mo - cd p.1); unfold wgt at wm; omega, ?_⟩
  refine ⟨?_, ?_, ?_, ?_, ?_, ?_, ?_⟩
  · rw [List.append_assoc, List.drop_append_of_le_length (by omega), List.map_append, List.map_append, List.sum_append, List.sum_append, wu, wd]
    omega
  · have := o.sum
    have := Wn_pos (mo - cu p.1) (mo - cd p.1)
    unfold wgt at wm
    omega
  · rw [List.length_append, List.length_append]; omega
  · intro q hq
    rcases List.mem_append.mp hq with z | z
    · rcases List.mem_append.mp z with z | z
      · exact o.val q z
      · unfold upE at z
        split at z
        · obtain rfl := List.mem_singleton.mp z
          refine ⟨⟨?_, ?_⟩, ?_⟩
          · rw [cu_snoc]; simp; omega
          · rw [cd_snoc]; simp; exact hv.1.2
          · rw [coreS_up, ← hv.2]
        · cases z
    · unfold downE at z
      split at z
      · obtain rfl := List.mem_singleton.mp z
        refine ⟨⟨?_, ?_⟩, ?_⟩
        · rw [cu_snoc]; simp; exact hv.1.1
        · rw [cd_snoc]; simp; omega
        · rw [coreS_down, ← hv.2]
      · cases z
  · exact List.mem_append_left _ (List.mem_append_left _ o.nil)
  · intro q hq hc
    rw [List.append_assoc, List.take_append_of_le_length (by omega)] at hq
    rcases take_succ_mem h hq with z | z
    · exact List.mem_append_left _ (List.mem_append_left _ (o.up q z hc))
    · subst z
      refine List.mem_append_left _ (List.mem_append_right _ ?_)
      unfold upE
      rw [if_pos hc, coreS_up, ← hv.2]
      exact List.mem_singleton.mpr rfl
  · intro q hq hc
    rw [List.append_assoc, List.take_append_of_le_length (by omega)] at hq
    rcases take_succ_mem h hq with z | z
    · exact List.mem_append_left _ (List.mem_append_left _ (o.down q z hc))
    · subst z
      refine List.mem_append_right _ ?_
      unfold downE
      rw [if_pos hc, coreS_down, ← hv.2]
      exact List.mem_singleton.mpr rfl
theorem Opn.all {f : Bool} {es : List Int} {mo : Nat} {fs : List (List Bool × List Int)} {at_ m : Nat} (o : Opn f es mo fs at_ m) (h : fs.length ≤ at_) : ∀ s, Valid mo s → (s, coreS f es s) ∈ fs := by
  have ht : fs.take at_ = fs := List.take_of_length_le h
  refine snoc_ind (fun _ => o.nil) fun s b ih hv => ?_
  have hv' : Valid mo s := by
    have h1 := hv.1
    have h2 := hv.2
    rw [cu_snoc] at h1
    rw [cd_snoc] at h2
    exact ⟨by omega, by omega⟩
  have hs := ih hv'
  rw [← ht] at hs
  cases b
  · refine o.down _ hs ?_
    have := hv.2
    rw [cd_snoc] at this
    simpa [Nat.succ_le_iff] using this
  · refine o.up _ hs ?_
    have := hv.1
    rw [cu_snoc] at this
    simpa [Nat.succ_le_iff] using this
end Mx
-- Pl4
/-! Pl4: where two lines differ; the best of the cores. -/
namespace Mx
def insU (x : Int) : List Int → List Int
  | [] => [x]
  | y :: l => if x < y then x :: y :: l else if x = y then y :: l else y :: insU x l
def uniT (es es' : List Int) : List Int := (es ++ es').foldr insU []
theorem insU_mem (x y : Int) : ∀ l, y ∈ insU x l ↔ y = x ∨ y ∈ l
  | [] => by simp [insU]
  | z :: l => by
    unfold insU
    split
    · simp
    · split
      · rename_i h; subst h; simp
      · rw [List.mem_cons, insU_mem x y l, List.mem_cons]
        constructor
        · rintro (h | h | h)
          · exact .inr (.inl h)
          · exact .inl h
          · exact .inr (.inr h)
        · rintro (h | h | h)
          · exact .inr (.inl h)
          · exact .inl h
          · exact .inr (.inr h)
theorem insU_asc (x : Int) : ∀ l, Asc l → Asc (insU x l)
  | [], _ => by unfold insU Asc; exact List.pairwise_singleton _ _
  | z :: l, h => by
    unfold Asc at h
    obtain ⟨h1, h2⟩ := (List.pairwise_cons).mp h
    unfold insU
    split
    · rename_i q
      refine List.pairwise_cons.mpr ⟨fun y hy => ?_, h⟩
      rcases (List.mem_cons).mp hy with e | e
      · rw [e]; exact q
      · exact Int.lt_trans q (h1 y e)
    · split
      · exact h
      · refine List.pairwise_cons.mpr ⟨fun y hy => ?_, insU_asc x l h2⟩
        rcases (insU_mem x y l).mp hy with e | e
        · omega
        · exact h1 y e
theorem uniT_mem (es es' : List Int) (y : Int) : y ∈ uniT es es' ↔ y ∈ es ∨ y ∈ es' := by
  unfold uniT
  rw [← List.mem_append]
  generalize es ++ es' = l
  induction l with
  | nil => simp
  | cons x l ih => rw [List.foldr_cons, insU_mem, ih, List.mem_cons]
theorem uniT_asc (es es' : List Int) : Asc (uniT es es') := by
  unfold uniT
  generalize es ++ es' = l
  induction l with
  | nil => exact List.Pairwise.nil
  | cons x l ih => rw [List.foldr_cons]; exact insU_asc x _ ih
/-- an ascending list is told by what is in it -/
theorem asc_ext : ∀ {l m : List Int}, Asc l → Asc m → (∀ x, x ∈ l ↔ x ∈ m) → l = m
  | [], [], _, _, _ => rfl
  | [], y :: m, _, _, h => absurd ((h y).mpr List.mem_cons_self) (by simp)
  | x :: l, [], _, _, h => absurd ((h x).mp List.mem_cons_self) (by simp)
  | (x :: l), (y :: m), hl, hm, h => by
    obtain ⟨h1, h2⟩ := List.pairwise_cons.mp hl
    obtain ⟨k1, k2⟩ := List.pairwise_cons.mp hm
    have e : x = y := by
      rcases List.mem_cons.mp ((h x).mp List.mem_cons_self) with a | a
      · exact a
      · rcases List.mem_cons.mp ((h y).mpr List.mem_cons_self) with b | b
        · exact b.symm
        · have := h1 y b
          have := k1 x a
          omega
    subst e
    rw [asc_ext h2 k2 fun z => ?_]
    constructor
    · intro hz
      rcases List.mem_cons.mp ((h z).mp (List.mem_cons_of_mem _ hz)) with a | a
      · have := h1 z hz; omega
      · exact a
    · intro hz
      rcases List.mem_cons.mp ((h z).mpr (List.mem_cons_of_mem _ hz)) with a | a
      · have := k1 z hz; omega
      · exact a
def ulkStep (f : Bool) (es : List Int) (f' : Bool) (es' : List Int) (s : List Int × Bool) (t : Int) : List Int × Bool :=
  let now := (stb f (cnt es t) != stb f' (cnt es' t)); if now = s.2 then s else (s.1 ++ [t], now)
def ulk (f : Bool) (es : List Int) (f' : Bool) (es' : List Int) : List Int := ((uniT es es').foldl (ulkStep f es f' es') ([], f != f')).1
def evnI : List Int → List Int
  | [] => []
  | [x] => [x]
  | x :: _ :: r => x :: evnI r
def onT (g : Bool) (gs : List Int) : Option Int := if g = true ∨ stb g gs.length = true then none else some ((evnI (gs.drop 1)).sum - (evnI gs).sum)
def manyU (f : Bool) (es : List Int) (f' : Bool) (es' : List Int) : Option Int := onT (f != f') (ulk f es f' es')
theorem rem_sub (on : Bool) (m : Int) : ∀ (n : Nat) (s : Bool) (es : List Int), es.length ≤ n → (rem s on m es).Sublist es := by
  intro n
  induction n with
  | zero =>
    intro s es h
    have e : es = [] := List.eq_nil_of_length_eq_zero (by omega)
    subst e
    unfold rem
    exact List.Sublist.refl _
  | succ n ih =>
    intro s es h
    match es with
    | [] => unfold rem; exact List.Sublist.refl _
    | [x] => unfold rem; exact List.Sublist.refl _
    | x :: y :: r =>
      rw [rem]
      split
      · exact ((ih s r (by simp at h; omega)).cons _).cons _
      · exact (ih (!s) (y :: r) (by simp at h ⊢; omega)).cons₂ _
theorem remL_sub (f on : Bool) (m : Int) (es : List Int) : (remL f on m es).Sublist es := rem_sub on m es.length _ es (Nat.le_refl _)
theorem coreS_sub (f : Bool) (es : List Int) : ∀ s, (coreS f es s).Sublist es := by
  refine snoc_ind (List.Sublist.refl _) fun s b h => ?_
  cases b
  · rw [coreS_down]; exact (remL_sub _ _ _ _).trans h
  · rw [coreS_up]; exact (remL_sub _ _ _ _).trans h
theorem Asc.sub {l m : List Int} (h : Asc m) (s : l.Sublist m) : Asc l := List.Pairwise.sublist s h
theorem coreS_asc {f : Bool} {es : List Int} (h : Asc es) (s : List Bool) : Asc (coreS f es s) := h.sub (coreS_sub f es s)
end Mx
set_option maxHeartbeats 2400000
-- Hr7
/-! Hr7: sorted(set(t)), t a tuple of ints. -/
namespace Hr
open PySem PySem.Spec PyProof.Rows L2 Dl
def rSetT (w : World) (K : PySem.W.Frag) : List V → Hp → VK → Prop := fun vs H Q => ∃ (a : Addr) (ns : List Int), vs = [.ref a] ∧ SqT K H a (ns.map V.int) ∧ ns.length ≤ 1000 ∧
  ∀ p c, H p = none → c ≤ ns.length → Q (.ref p) (upd H p (SetO w p (fun j => decide (j ∈ ns)) c))
theorem cr_setT {X : Cx} (hc : X.calm = true) : CallR X (.type "set") (rSetT X.w X.K) := by
  intro pins s σ H vs us Q I r ⟨a, ns, ev, hs, hz, q⟩
  subst ev
  obtain ⟨its, rv, hl, _⟩ := I.tuple hs
  rw [Vals.ref1 r]
  have are := ints_of_vals rv
  refine call_set_tupI ns (I.ok.hd hc) (show s.heap.IsTuple a its.toArray from hl) are (by unfold scanBound; omega) fun h' tk c R1 hcn k => ?_
  exact ⟨.ref _, upd H s.heap.objs.size (SetO X.w s.heap.objs.size (fun j => decide (j ∈ ns)) c), I.laid (t' := tk) k (Nat.le_refl _) (setO_new R1), rfl, q _ c (I.hok.fresh (Nat.le_refl _)) hcn⟩
section
variable {X : Cx} {L : Lay} {ρ : Rho} {e : Expr} {p pos p1 pos1 : Pos} {ns T : List Int}
theorem xp_setT (ha : XE X L e ρ (.d (.tup (ns.map .int)))) (hz : ns.length ≤ 1000) (hm : X.mg "set" = none) (hc : X.calm = true := by rfl) (hg : Gl X "set" := by rfl) (hs : starEach [e] X.env = (false, eval e X.env) :: starEach [] X.env := by rfl) (hpl : (backTo pos (starEach [] X.env)).any (·.1) = false := by rfl) :
    XP X L (.Call (.Name "set" p) [e] [] pos) ρ (fun r => ∃ c, c ≤ ns.length ∧ r = .d (.obj fun a => SetO X.w a (fun j => decide (j ∈ ns)) c)) :=
  xp_ct (cr_setT hc) hm PyProof.Rows.boot_set (xa_cons ha xa_nil hs) (fun H Hb vs Q g ee rv k => by
    obtain ⟨v, rfl, q⟩ := rvs1 rv
    obtain ⟨t, xs, rfl, h1, h2⟩ := rv_tup q
    obtain rfl := h2.ints
    exact ⟨t, ns, rfl, SqT.of h1, hz, fun p c hp hc => k _ _ _ ⟨c, hc, rfl⟩ (Step.new hp) (g.new hp) (Dv.obj upd_same rfl)⟩) hg (by decide) (by decide) hs hpl
theorem xe_sortedS (ha : XP X L e ρ (fun r => ∃ c, c ≤ ns.length ∧ r = .d (.obj fun a => SetO X.w a (fun j => decide (j ∈ ns)) c))) (hT : Mx.Asc T) (hm' : ∀ k, k ∈ T ↔ k ∈ ns) (hz : ns.length ≤ 63) (hm : X.mg "sorted" = none) (hc : X.calm = true := by rfl) (hg : Gl X "sorted" := by rfl) (hs : starEach [e] X.env = (false, eval e X.env) :: starEach [] X.env := by rfl) (hpl : (backTo pos (starEach [] X.env)).any (·.1) = false := by rfl) :
    XE X L (.Call (.Name "sorted" p) [e] [] pos) ρ (.own (T.map .int)) :=
  xe_of (pe_callB (cr_sortedSet hc) hg hm (by decide +kernel) pa_sem (by decide) (by decide) hs hpl) (ev_cb (xap_cons ha xa_nil hs) fun rs hr => fun H Hb vs Q g ee rv k => by
    obtain ⟨r, rs', rfl, ⟨c, hc, rfl⟩, rfl⟩ := hr
    obtain ⟨v, rfl, q⟩ := rvs1 rv
    cases q with
    | @obj a F h1 h2 =>
      refine ⟨a, _, c, rfl, h1, by omega, fun ms p hs hk _ hp => ?_⟩
      have e : ms = T := Mx.asc_ext hs hT fun x => by rw [hk, hm']; simp
      subst e
      exact k _ _ _ rfl (Step.new hp) (g.new hp) ⟨p, _, rfl, hp, g.free hp, upd_same, DvA.of_ints ms⟩)
end
end Hr
set_option maxHeartbeats 4800000
-- Sl1
/-! Sl1: set(l), l a list of ints: a set that is known. -/
namespace Hr
open PySem PySem.Spec PyProof.Rows L2 Dl
abbrev newS (w : World) : Obj := { cls := .type "set", dict := none, data := .set #[] 0 (.fresh 0 0 (!w.params.followText "set-order")) }
/-- behind the filling -/
def Filled (w : World) (s : Shared) (ns : List Int) (v : Value) (s2 : Shared) : Prop :=
  v = .none ∧ ∃ g t c, s2 = { s with heap := g, toks := t } ∧ SetR w g s.heap.objs.size (fun j => decide (j ∈ ns)) c ∧ c ≤ ns.length ∧ ∀ b o, s.heap.get? b = some o → g.get? b = some o
section
variable {P : Program} {w : World} {A : Around} {E : Value → Shared → Prop} {s : Shared} {l : Addr} {items : Array Value} {ns : List Int}
/-- the walk over the list's iterator, from the state in which it is laid -/
theorem fill_walk (hh : A.handled = none) (hl : s.heap.IsList l items) (hi : IntsAre items.toList ns) (hb : ns.length + 1 < scanBound) {R : Result → Shared → Prop} (k : ∀ s2, Filled w s ns .none s2 → R (.ok (.ret .none)) s2) :
    codeAny (model P w) A (.builtin "set.update.loop" ⟨[.ref s.heap.objs.size, .ref (s.heap.push (newS w)).objs.size], []⟩) R
      { s with heap := (s.heap.push (newS w)).push { cls := .type "list_iterator", data := .fields #[.ref l, .int 0 0] } } := by
  have z1 : (s.heap.push (newS w)).objs.size = s.heap.objs.size + 1 := Heap.size_push ..
  have lt : l < s.heap.objs.size := by
    obtain ⟨o, e, _⟩ := hl
    exact Heap.lt_size e
  have nlen : items.size = ns.length := by rw [← IntsAre.length hi, Array.length_toList]
  have W := (Walks.list (prog := P) (w := w) (A := A.in1) (by simp [hh]) (s.heap.push (newS w)).objs.size l (by rw [z1]; exact Nat.ne_of_lt (Nat.lt_succ_of_lt lt)) items).toS
  refine set_update_ints W s.heap.objs.size (by rw [z1]; simp only [List.mem_cons, List.not_mem_nil, or_false, not_or]; exact ⟨Nat.ne_of_lt (Nat.lt_succ_self _), Nat.ne_of_gt lt⟩) ns nlen hb (fun i v hv => ?_) _ 0 _ rfl (Nat.zero_le _)
    ⟨⟨_, Heap.get?_push_size _ rfl, rfl, rfl⟩, (hl.push _).push _⟩ ⟨0, Nat.le_refl 0, setR_new_at (Heap.get?_push_of_some _ (Heap.get?_push_size _ rfl))⟩ (fun s2 c mv hc hS => ?_)
  · have lti : i < ns.length := by
      rw [← nlen]
      exact (Array.getElem?_eq_some_iff.mp hv).1
    have gt : items.toList[i]? = some v := by rw [Array.getElem?_toList]; exact hv
    obtain ⟨t, et⟩ := IntsAre.int_at hi i v gt
    refine ⟨ns[i], t, List.getElem?_eq_getElem lti, et.trans ?_⟩
    rw [List.getD_eq_getElem?_getD, List.getElem?_eq_getElem lti] <;> rfl
  · obtain ⟨g, ge, dr, tk, os⟩ := s2
    obtain rfl : ge = s.gens := mv.gens
    obtain rfl : dr = s.drawn := mv.drawn
    obtain rfl : os = s.os := mv.os
    refine k _ ⟨rfl, g, tk, c, rfl, hS, by omega, fun b o e => mv.heap b o ?_ (Heap.get?_push_of_some _ (Heap.get?_push_of_some _ e))⟩
    have lb := Heap.lt_size e
    rw [z1]
    simp only [List.mem_cons, List.not_mem_nil, or_false, not_or]
    exact ⟨Nat.ne_of_lt lb, Nat.ne_of_lt (Nat.lt_succ_of_lt lb)⟩
theorem init_list (hh : A.handled = none) (hl : s.heap.IsList l items) (hi : IntsAre items.toList ns) (hb : ns.length + 1 < scanBound) :
    codeAny (model P w) A (.call (.builtin "set.__init__") ⟨[.ref s.heap.objs.size, .ref l], []⟩) (wants (Filled w s ns) E) { s with heap := s.heap.push (newS w) } := by
  have at0 : (s.heap.push (newS w)).get? s.heap.objs.size = some (newS w) := Heap.get?_push_size _ rfl
  refine codeAny_call_builtin F.called_set.init.plain F.entry_set_init (check_set_init_1 ⟨_, at0, rfl⟩ ?_)
  obtain ⟨⟨cl, od, da, sl⟩, e0, c0, n0, d0⟩ := id hl
  dsimp only at c0 d0
  subst c0 d0
  have e1 : (s.heap.push (newS w)).get? l = some { cls := .type "list", dict := od, data := .seq items n0, slots := sl } := Heap.get?_push_of_some _ e0
  have u1 := F.sub_list_set
  have u2 := F.sub_list_frozenset
  have u3 : (Value.type "list" == Value.type "dict") = false := by decide
  unfold Builtin.«set.__init__»
  unfold noKeywords
  unfold Builtin.Frozenset.updateFrom
  generalize hI : pyIter = it
  wp_walk
  subst hI
  refine wpAny_pyIter_list (hl.push _) (wpAny_bind (wpAny_runValue (fill_walk (by simp [hh]) hl hi hb fun s2 h => ?_)))
  show wpAny _ _ _ _ _ _
  refine wpAny_pure ?_
  show wpAny _ _ (ret (.none : Value)) _ _ _
  exact wpAny_pure h
theorem call_set_ints {Q : Value → Shared → Prop} (hh : A.handled = none) (hl : s.heap.IsList l items) (hi : IntsAre items.toList ns) (hb : ns.length + 1 < scanBound)
    (k : ∀ (g : Heap) (t c : Nat), SetR w g s.heap.objs.size (fun j => decide (j ∈ ns)) c → c ≤ ns.length → (∀ b o, s.heap.get? b = some o → g.get? b = some o) → Q (.ref s.heap.objs.size) { s with heap := g, toks := t }) : wpAny (model P w) A (call (.type "set") [.ref l]) Q E s := by
  obtain ⟨c0, t0, m0⟩ := F.called_set.mro
  have f1 := F.called_set.made
  have f2 := F.called_set.sub
  have f3 := F.called_set.notType
  have f4 := F.called_set.canCreate
  have f5 := F.typeCall_set_1 (.ref l)
  refine wpAny_call (codeAny_of_tree (?_ : wpAny _ _ (callAny (.type "set") _) _ _ _))
  refine wpAny_pure ⟨Code.quiet_builtin _ (by decide +kernel), codeAny_builtin F.entry_type_call (?_ : wpAny _ (Around.under _ _) _ _ _ _)⟩
  rw [Around.under_plain (weight_type_call_type "set" [Value.ref l] ([] : List (Str × Value))) rfl]
  repeat any_goals (first | assumption | wp_step | done)
  refine codeAny_mono (code_set_led1 (.ref l) (E := E) (Q₁ := fun v s1 => v = .ref s.heap.objs.size ∧ s1 = { s with heap := s.heap.push (newS w) }) ⟨rfl, rfl⟩) fun r s1 h1 => ?_
  match r, h1 with
  | .error e, h1 => exact h1
  | .ok (.ret v), h1 =>
    obtain ⟨rfl, rfl⟩ := h1
    have at0 : (s.heap.push (newS w)).get? s.heap.objs.size = some (newS w) := Heap.get?_push_size _ rfl
    have ty : Shared.TypeIs { s with heap := s.heap.push (newS w) } (.ref s.heap.objs.size) "set" := ⟨_, at0, rfl⟩
    have f6 := F.called_set.init.lookup
    have f7 := F.called_set.init.bind (.ref s.heap.objs.size)
    repeat any_goals (first | assumption | wp_step | done)
    refine codeAny_mono (init_list hh hl hi hb (E := E)) fun r2 s2 h2 => ?_
    match r2, h2 with
    | .error e, h2 => exact h2
    | .ok (.ret v), h2 =>
      obtain ⟨rfl, g, t, c, rfl, h3, h4, h5⟩ := h2
      repeat any_goals (first | assumption | wp_step | done)
      exact k g t c h3 h4 h5
    | .ok .next, h2 => exact h2.elim
    | .ok .brk, h2 => exact h2.elim
    | .ok .cont, h2 => exact h2.elim
  | .ok .next, h1 => exact h1.elim
  | .ok .brk, h1 => exact h1.elim
  | .ok .cont, h1 => exact h1.elim
end
end Hr
set_option maxHeartbeats 2400000
-- Pg0
/-! Pg0: the text by places, what is free, lines as data. -/
namespace Pg
open PySem L2 Dl Mx
def top (i : Nat) : Stmt := PySem.Challenge.pw_lateedges_k62_whole_closest_rows.main.body.getD i (.Pass ⟨0, 0, 0, 0⟩)
/-- built-ins that no name of the module hides -/
structure Bi (mg : Str → Option Value) : Prop where
  isi : mg "isinstance" = none
  len : mg "len" = none
  int : mg "int" = none
  bool : mg "bool" = none
  tuple : mg "tuple" = none
  str : mg "str" = none
  all : mg "all" = none
  range : mg "range" = none
  sorted : mg "sorted" = none
  sum : mg "sum" = none
  enum : mg "enumerate" = none
  list : mg "list" = none
  set : mg "set" = none
/-- a line -/
abbrev lnE (es : List Int) : D := .tup (es.map D.int)
abbrev ln (f : Bool) (es : List Int) : D := .tup [.bl f, lnE es]
def wd (b : Bool) : Str := if b then "up" else "down"
theorem wd_up (b : Bool) : decide (wd b = "up") = b := by cases b <;> decide +kernel
theorem wd_down (b : Bool) : decide (wd b = "down") = !b := by cases b <;> decide +kernel
def rgD (r : Bool × Int) : D := .tup [.str (wd r.1), .int r.2]
abbrev ldD (l : Ld) : D := .tup (l.map rgD)
def gD : Gate → D
  | .on n => .tup [.str "on", .int n]
  | .off n => .tup [.str "off", .int n]
  | .moved n => .tup [.str "moved", .int n]
abbrev rowD (gs : List Gate) : D := .tup (gs.map gD)
section
variable {X : Cx} {L : Lay} {ρ : Rho} {a b e : Expr} {p pos : Pos}
/-- the name in slot i -/
theorem xv (i : Nat) {x : Str} {r : Rep} (hr : ρ[i]? = some (some r) := by rfl) (ho : r.isOwn = false := by rfl) (hN : X.N[i]? = some x := by rfl) (hv : Vis X.env.scope x := by first | exact Or.inl rfl | exact Or.inr (Or.inl rfl) | exact Or.inr (Or.inr rfl))
    (hd : (x == ("__debug__" : Str)) = false := by decide) (hcd : (x == ("__classdict__" : Str)) = false := by decide) : XE X L (.Name x pos) ρ r := xe_var hr ho hN hv hd hcd
theorem atI_map {es : List Int} {j : Nat} {v : Int} (h : es[j]? = some v) : atI (es.map D.int) (j : Int) = some (.int v) := atI_nat (by rw [List.getElem?_map, h]; rfl)
theorem atI_mapI {es : List Int} {i v : Int} {j : Nat} (e : i = (j : Int)) (h : es[j]? = some v) : atI (es.map D.int) i = some (.int v) := by rw [e]; exact atI_map h
theorem atI_mapF {α : Type} {f : α → D} {l : List α} {j : Nat} {v : α} (h : l[j]? = some v) : atI (l.map f) (j : Int) = some (f v) := atI_nat (by rw [List.getElem?_map, h]; rfl)
theorem atI_zero {α : Type} {x : α} {l : List α} : atI (x :: l) 0 = some x := atI_nat (j := 0) rfl
theorem xe_allT {ds : List D} (ha : XE X L a ρ (.own (ds.map fun _ => D.bl true))) (hm : X.mg "all" = none) (hc : X.calm = true := by rfl) (hg : Gl X "all" := by rfl) (hs : starEach [a] X.env = (false, eval a X.env) :: starEach [] X.env := by rfl) (hpl : (backTo pos (starEach [] X.env)).any (·.1) = false := by rfl) :
    XE X L (.Call (.Name "all" p) [a] [] pos) ρ (.d (.bl true)) := by
  have e : (ds.map fun _ => D.bl true) = ((ds.map fun _ => true).map D.bl) := by rw [List.map_map]; rfl
  have q := xe_all (bs := ds.map fun _ => true) (p := p) (pos := pos) ((ha.is (by rw [e])).rd) hm hc hg hs hpl
  refine q.is ?_
  rw [show (ds.map fun _ => true).all id = true from List.all_eq_true.mpr fun x hx => by
    obtain ⟨_, _, rfl⟩ := List.mem_map.mp hx
    rfl]
end
theorem asc_get {es : List Int} (h : Asc es) {i j : Nat} {x y : Int} (hij : i < j) (hi : es[i]? = some x) (hj : es[j]? = some y) : x < y := by
  obtain ⟨h1, e1⟩ := List.getElem?_eq_some_iff.mp hi
  obtain ⟨h2, e2⟩ := List.getElem?_eq_some_iff.mp hj
  have := List.pairwise_iff_getElem.mp h i j h1 h2 hij
  rw [e1, e2] at this
  exact this
end Pg
-- Tp1
/-! Tp1: the tape. -/
namespace Tp
open PySem L2 PyProof.Rows
abbrev VE (X : Cx) (σ : L2.St) (H : Hp) (e : Expr) (v : V) : Prop := Evl.Ev (Dl.semE X e) σ H v
abbrev VT (X : Cx) (σ : L2.St) (H : Hp) (e : Expr) (b : Bool) : Prop := Evl.EvT (Dl.semT X e) σ H b
def VS (X : Cx) (D : Ends) (sts : List Stmt) (σ : L2.St) (H : Hp) : Prop := Dl.semSs X sts D σ H
section
variable {X : Cx} {σ : L2.St} {H : Hp} {e a b : Expr} {te : TE} {tt : TT} {v : V} {D : Ends} {sts rest : List Stmt} {ts : TS} {i j : Int} {p pos : Pos} {c : Bool}
theorem ve_of (h : PE X e te) (k : Evl.Ev te σ H v) : VE X σ H e v := fun H1 e1 Q q pins s I => h.run pins s σ H1 Q I (k H1 e1 Q q)
theorem vt_of (h : PT X e tt) (k : Evl.EvT tt σ H c) : VT X σ H e c := fun H1 e1 Q q pins s I => h.run pins s σ H1 Q I (k H1 e1 Q q)
theorem vs_of (h : PSs X sts ts) (k : ts D σ H) : VS X D sts σ H := fun pins s I => h.run pins s σ H D I k
theorem vv (n : Nat) {x : Str} (h : σ[n]? = some (some v) := by rfl) (hN : X.N[n]? = some x := by rfl) (hv : Vis X.env.scope x := by first | exact Or.inl rfl | exact Or.inr (Or.inl rfl) | exact Or.inr (Or.inr rfl))
    (hd : (x == ("__debug__" : Str)) = false := by decide) (hcd : (x == ("__classdict__" : Str)) = false := by decide) : VE X σ H (.Name x pos) v := ve_of (pe_var hN hv hd hcd) (Evl.ev_var h)
theorem ve_int {k} : VE X σ H (.Constant (.int i) k pos) (.int i) := ve_of pe_int Evl.ev_c
theorem ve_add (ha : VE X σ H a (.int i)) (hb : VE X σ H b (.int j)) : VE X σ H (.BinOp a .Add b pos) (.int (i + j)) := ve_of (pe_op op_add Dl.pe_sem Dl.pe_sem) (Evl.ev_op ha hb Evl.rv_I0)
theorem ve_mul (ha : VE X σ H a (.int i)) (hb : VE X σ H b (.int j)) (h : CMul i j) : VE X σ H (.BinOp a .Mult b pos) (.int (i * j)) := ve_of (pe_op op_mul Dl.pe_sem Dl.pe_sem) (Evl.ev_op ha hb (Evl.rv_I h))
theorem ve_mod (ha : VE X σ H a (.int i)) (hb : VE X σ H b (.int j)) (h : 0 < j) : VE X σ H (.BinOp a .Mod b pos) (.int (i % j)) := ve_of (pe_op op_mod Dl.pe_sem Dl.pe_sem) (Evl.ev_op ha hb (Evl.rv_I h))
theorem ve_fdiv (ha : VE X σ H a (.int i)) (hb : VE X σ H b (.int j)) (h : CDiv i j) : VE X σ H (.BinOp a .FloorDiv b pos) (.int (i / j)) := ve_of (pe_op op_fdiv Dl.pe_sem Dl.pe_sem) (Evl.ev_op ha hb (Evl.rv_I h))
theorem ve_pow (ha : VE X σ H a (.int i)) (hb : VE X σ H b (.int j)) (h : CPow i j) : VE X σ H (.BinOp a .Pow b pos) (.int (i ^ j.toNat)) := ve_of (pe_op op_pow Dl.pe_sem Dl.pe_sem) (Evl.ev_op ha hb (Evl.rv_I h))
theorem ve_ix {q : Addr} {xs : List V} (ha : VE X σ H a (.ref q)) (hb : VE X σ H b (.int i)) (h : H q = some (.lst xs)) (hi : atI xs i = some v) (hs : PlainIx b := by exact fun _ _ => rfl) : VE X σ H (.Subscript a b pos) v := ve_of (pe_ix ix_list Dl.pe_sem Dl.pe_sem hs) (Evl.ev_op ha hb (Evl.rv_ixL (Evl.sq_of h) hi))
theorem vt_gt (ha : VE X σ H a (.int i)) (hb : VE X σ H b (.int j)) : VT X σ H (.Compare a [.Gt] [b] pos) (decide (j < i)) := vt_of (pt_cmpR op_gt Dl.pe_sem Dl.pe_sem (nomark _)) (Evl.et_test (Evl.ev_op ha hb Evl.rv_I0))
theorem vt_lt (ha : VE X σ H a (.int i)) (hb : VE X σ H b (.int j)) : VT X σ H (.Compare a [.Lt] [b] pos) (decide (i < j)) := vt_of (pt_cmpR op_lt Dl.pe_sem Dl.pe_sem (nomark _)) (Evl.et_test (Evl.ev_op ha hb Evl.rv_I0))
theorem vt_ge (ha : VE X σ H a (.int i)) (hb : VE X σ H b (.int j)) : VT X σ H (.Compare a [.GtE] [b] pos) (decide (j ≤ i)) := vt_of (pt_cmpR op_ge Dl.pe_sem Dl.pe_sem (nomark _)) (Evl.et_test (Evl.ev_op ha hb Evl.rv_I0))
theorem ve_intI (ha : VE X σ H a (.int i)) (hm : X.mg "int" = none) (hg : Gl X "int" := by rfl) (hs : starEach [a] X.env = (false, eval a X.env) :: starEach [] X.env := by rfl) (hpl : (backTo pos (starEach [] X.env)).any (·.1) = false := by rfl) : VE X σ H (.Call (.Name "int" p) [a] [] pos) (.int i) :=
  ve_of (pe_callTy call_int1 hg hm (by decide +kernel) (pa_cons Dl.pe_sem pa_nil hs) (by decide) (by decide) hs hpl) (Evl.ev_cb (Evl.ea_cons ha Evl.ea_nil) fun H1 _ Q q => .inl ⟨i, rfl, q H1 (Evl.Ex.refl H1)⟩)
theorem ve_len {q : Addr} {xs : List V} (ha : VE X σ H a (.ref q)) (h : H q = some (.lst xs)) (hm : X.mg "len" = none) (hg : Gl X "len" := by rfl) (hs : starEach [a] X.env = (false, eval a X.env) :: starEach [] X.env := by rfl) (hpl : (backTo pos (starEach [] X.env)).any (·.1) = false := by rfl) : VE X σ H (.Call (.Name "len" p) [a] [] pos) (.int (xs.length : Int)) :=
  ve_of (pe_callB call_len_seq hg hm PySem.boot_len (pa_cons Dl.pe_sem pa_nil hs) (by decide) (by decide) hs hpl) (Evl.ev_len ha (Evl.sq_of h))
theorem vs_set {n : Nat} {x : Str} {pos' : Pos} (he : VE X σ H e v) (k : ∀ H1, Evl.Ex H H1 → VS X D rest (σ.set n (some v)) H1) (hN : X.N.Nodup := by assumption) (hi : X.N[n]? = some x := by rfl) (hx : Loc X.env.scope x := by exact Or.inl rfl)
    (hs : swapsWith e (some (.Name x pos')) pos.line X.env = pure false := by rfl) (hf : X.fn x = true ∨ X.env.scope.names.lookup x = some .local := by first | exact .inl rfl | exact .inr rfl) : VS X D (.Assign [.Name x pos'] e pos :: rest) σ H :=
  vs_of (pss_cons (ps_set hN hi hx Dl.pe_sem hs hf) Dl.pss_sem) (Evl.q_asg he k)
theorem vs_put {l : Addr} {xs : List V} {n : Nat} {pos' : Pos} (hl : H l = some (.lst xs)) (he : VE X σ H e v) (ho : VE X σ H a (.ref l)) (hi : VE X σ H b (.int (n : Int))) (hn : n < xs.length) (k : ∀ H1, Evl.Ex H H1 → VS X D rest σ (upd H1 l (.lst (xs.set n v))))
    (hps : PS X (.Assign [.Subscript a b pos'] e pos) (tAsg (Dl.semE X e) (gSub (Dl.semE X a) (Dl.semE X b) rSetL)) := by exact ps_asg Dl.pe_sem (pg_sub Dl.pe_sem Dl.pe_sem set_list)) : VS X D (.Assign [.Subscript a b pos'] e pos :: rest) σ H :=
  vs_of (pss_cons hps Dl.pss_sem) (Evl.q_setL hl he ho hi hn k)
theorem vs_ret (he : VE X σ H e v) (k : ∀ H1, Evl.Ex H H1 → D.rt v H1) : VS X D (.Return (some e) pos :: rest) σ H := vs_of (pss_cons (ps_ret Dl.pe_sem) pss_never) (Evl.s_ret he k)
theorem vs_when {A : List Stmt} (hc : VT X σ H e c) (hA : c = true → ∀ H1, Evl.Ex H H1 → VS X { D with nx := fun σ' H' => VS X D rest σ' H' } A σ H1) (hB : c = false → ∀ H1, Evl.Ex H H1 → VS X D rest σ H1) : VS X D (.If e A [] pos :: rest) σ H := by
  cases c with
  | true => exact vs_of (pss_cons (ps_if Dl.pt_sem Dl.pss_sem pss_never) Dl.pss_sem) (Evl.q_if hc (fun _ H1 e1 => hA rfl H1 e1) (fun z => by cases z))
  | false => exact vs_of (pss_cons (ps_if Dl.pt_sem pss_never pss_nil) Dl.pss_sem) (Evl.q_if hc (fun z => by cases z) (fun _ H1 e1 => hB rfl H1 e1))
theorem vs_nil (k : D.nx σ H) : VS X D [] σ H := vs_of pss_nil k
end
end Tp
-- Tp2
namespace Pg
open PySem L2 Dl Mx Tp
/-- the tape as it stands -/
structure TS (L : Lay) (H0 H : Hp) (p a : Addr) (ns : List Int) (pos : Nat) (rest mx cnt : Int) : Prop where
  st : Step L H0 H
  tb : LamX.Tabs L.T H
  tp : L.tp = some (p, a)
  hp : H p = some (.lst [.ref a, .int (pos : Int), .int rest, .int mx, .int cnt])
  ha : H a = some (.lst (ns.map V.int))
  np : a ≠ p
  pl : pos ≤ ns.length
  r0 : 0 ≤ rest
  m0 : 0 ≤ mx
  m1 : mx < 2147483647
  nl : ns.length ≤ 63
theorem TS.ex {L : Lay} {H0 H H1 : Hp} {p a : Addr} {ns : List Int} {pos : Nat} {rest mx cnt : Int} (t : TS L H0 H p a ns pos rest mx cnt) (e : Evl.Ex H H1) : TS L H0 H1 p a ns pos rest mx cnt :=
  ⟨t.st.trans (Step.of e), t.tb.ext e, t.tp, e _ _ t.hp, e _ _ t.ha, t.np, t.pl, t.r0, t.m0, t.m1, t.nl⟩
theorem TS.good {L : Lay} {H0 H : Hp} {p a : Addr} {ns : List Int} {pos : Nat} {rest mx cnt : Int} (t : TS L H0 H p a ns pos rest mx cnt) : Good L H :=
  ⟨t.tb, fun q hq => by
    rw [t.tp] at hq
    cases hq
    exact ⟨ns, pos, rest, mx, cnt, t.hp, t.ha, t.pl, t.r0, t.m0, t.m1, t.nl⟩⟩
theorem TS.put {L : Lay} {H0 H : Hp} {p a : Addr} {ns : List Int} {pos pos' : Nat} {rest mx cnt rest' mx' cnt' : Int} (t : TS L H0 H p a ns pos rest mx cnt) (h1 : pos' ≤ ns.length) (h2 : 0 ≤ rest') (h3 : 0 ≤ mx') (h4 : mx' < 2147483647) {xs : List V} (hx : xs = [.ref a, .int (pos' : Int), .int rest', .int mx', .int cnt']) :
    TS L H0 (upd H p (.lst xs)) p a ns pos' rest' mx' cnt' := by
  subst hx
  refine ⟨⟨fun b o e n tq => ?_, fun b e => ?_⟩, fun q hq => ?_, t.tp, upd_same, by rw [upd_ne t.np]; exact t.ha, t.np, h1, h2, h3, h4, t.nl⟩
  · rw [upd_ne (tq _ t.tp)]
    exact t.st.keep b o e n tq
  · by_cases hb : b = p
    · subst hb
      rw [upd_same] at e
      cases e
    · rw [upd_ne hb] at e
      exact t.st.free b e
  · obtain ⟨ps, k1, k2, k3⟩ := t.tb q hq
    have n1 : q.1 ≠ p := fun z => by
      rw [z, t.hp] at k1
      cases k1
    refine ⟨ps, by rw [upd_ne n1]; exact k1, k2, fun pos cv hc => ?_⟩
    obtain ⟨c, e1, e2⟩ := k3 pos cv hc
    refine ⟨c, e1, ?_⟩
    have n2 : c ≠ p := fun z => by
      rw [z, t.hp] at e2
      unfold LamX.CodeO at e2
      cases e2
    rw [upd_ne n2]
    exact e2
theorem vs_join {X : Cx} {D : Ends} {st : Stmt} {rest : List Stmt} {σ : L2.St} {H : Hp} (J : L2.St → Hp → Prop) (k : ∀ σ' H', J σ' H' → VS X D rest σ' H') (h : (∀ σ' H', J σ' H' → VS X D rest σ' H') → VS X D (st :: rest) σ H) : VS X D (st :: rest) σ H := h k
theorem big18 : (10 : Int) ^ (18 : Int).toNat = 1000000000000000000 := by decide
section
variable {P : Program} {w : World} {K : PySem.W.Frag} {mg : Str → Option Value} {base : Heap} {L : Lay}
inductive gLawPick : Ct
  | mk (m : Int) (h1 : 1 ≤ m) (h2 : m ≤ 1000) : gLawPick [.tape, .d (.int m)] (fun z => ∃ r, (0 ≤ r ∧ r < m) ∧ z = .d (.int r))
abbrev s__law_pick : Stmt := top 71
theorem ok__law_pick {f : Addr} {fd : FuncData} (F : Fun K "_law_pick" "_law_pick" s__law_pick f fd) (B : Bi mg)  : FnOk P w K mg base CX0 1 f fd ["_law_tape_here", "_law_many"] (spG L gLawPick) := by
  refine def_ok (N := ["_law_tape_here", "_law_many", "_law_digit", "_law_cell", "_law_mixed"]) F ⟨rfl, rfl, rfl, by decide +kernel, rfl, by decide +kernel, by decide +kernel⟩ (by decide) (fun _ _ h => by cases h; rfl) fun cdv A outer s H E hr rs Pq h => ?_
  have nd : (["_law_tape_here", "_law_many", "_law_digit", "_law_cell", "_law_mixed"] : List Str).Nodup := by decide +kernel
  cases h with
  | mk m h1 h2 =>
    intro gs H0 H1 σ D En l
    obtain ⟨v0, s0, ⟨p, a⟩, hq, rfl⟩ := En.slot 0 .tape rfl
    obtain ⟨v1, s1, r1⟩ := En.slot 1 (.d (.int m)) rfl
    obtain rfl := rv_int r1
    obtain ⟨ns, pos, rest, mx, cnt, t1, t2, t3, t4, t5, t6, t7⟩ := En.good.tape _ hq
    have np : a ≠ p := fun z => by
      have t1 : H1 p = _ := t1
      have t2 : H1 a = _ := t2
      rw [z, t1] at t2
      injection t2 with t2
      injection t2 with t2
      match ns, t2 with
      | [], e => cases e
      | n :: ns, e =>
        injection e with e _
        cases e
    have T : TS L H0 H1 p a ns pos rest mx cnt := ⟨En.st, En.good.tb, hq, t1, t2, np, t3, t4, t5, t6, t7⟩
    have hlen := En.len
    obtain ⟨x2, x3, x4, rfl⟩ : ∃ x2 x3 x4, σ = [some (.ref p), some (.int m), x2, x3, x4] := by
      match σ, hlen, s0, s1 with
      | [y0, y1, y2, y3, y4], _, s0, s1 =>
        cases s0
        cases s1
        exact ⟨y2, y3, y4, rfl⟩
    clear s0 s1 hlen En t1 t2 t3 t4 t5 t6 t7
    have fin : ∀ {H' pos rest mx cnt} (r : Int), TS L H0 H' p a ns pos rest mx cnt → 0 ≤ r ∧ r < m → D.rt (.int r) H' := fun r T hr => l.rt (.d (.int r)) _ _ ⟨r, hr, rfl⟩ T.st T.good (Dv.int r)
    have mm : ∀ i : Int, 0 ≤ i % m ∧ i % m < m := fun i => ⟨Int.emod_nonneg _ (by omega), Int.emod_lt_of_pos _ (by omega)⟩
    have dn : ∀ i : Int, 0 ≤ i → 0 ≤ i / m := fun i hi => Int.ediv_nonneg hi (by omega)
    show VS _ D _ _ H1
    refine vs_when (vt_gt (ve_ix (vv 0) ve_int T.hp rfl) ve_int) (fun z H2 e2 => ?_) (fun z H2 e2 => ?_)
    · have T := T.ex e2
      refine vs_set (n := 2) (ve_mod (ve_intI (ve_ix (vv 0) ve_int T.hp rfl) B.int) (vv 1) (by omega)) (fun H3 e3 => ?_)
      have T := T.ex e3
      refine vs_put (n := 2) T.hp (ve_fdiv (ve_ix (vv 0) ve_int T.hp rfl) (vv 1) ⟨by omega, by omega⟩) (vv 0) ve_int (by simp) (fun H4 e4 => ?_)
      have T := (T.ex e4).put (rest' := rest / m) (mx' := mx) (cnt' := cnt) (pos' := pos) T.pl (dn _ T.r0) T.m0 T.m1 rfl
      exact vs_ret (vv 2) fun H5 e5 => fin _ (T.ex e5) (mm _)
    · have T := T.ex e2
      refine vs_put (n := 4) T.hp (ve_add (ve_ix (vv 0) ve_int T.hp rfl) ve_int) (vv 0) ve_int (by simp) (fun H3 e3 => ?_)
      have T := (T.ex e3).put (cnt' := cnt + 1) (rest' := rest) (mx' := mx) (pos' := pos) T.pl T.r0 T.m0 T.m1 rfl
      refine vs_set (n := 3) ve_int (fun H4 e4 => ?_)
      have T := T.ex e4
      refine vs_join (fun σ' H5 => ∃ (cell : Int) (pos : Nat), σ' = [some (.ref p), some (.int m), x2, some (.int cell), x4] ∧ TS L H0 H5 p a ns pos rest mx (cnt + 1)) ?_ (fun go => ?_)
      · rintro σ' H5 ⟨cell, pos, rfl, T⟩
        refine vs_when (vt_ge (vv 3) (ve_pow ve_int ve_int ⟨by decide, by decide, by decide⟩)) (fun z H6 e6 => ?_) (fun z H6 e6 => ?_)
        · have T := T.ex e6
          have zc : 0 ≤ cell := by
            have z' := of_decide_eq_true z
            rw [big18] at z'
            omega
          refine vs_put (n := 2) T.hp (ve_fdiv (vv 3) (vv 1) ⟨by omega, by omega⟩) (vv 0) ve_int (by simp) (fun H7 e7 => ?_)
          have T := (T.ex e7).put (rest' := cell / m) (mx' := mx) (cnt' := cnt + 1) (pos' := pos) T.pl (dn _ zc) T.m0 T.m1 rfl
          exact vs_ret (ve_mod (ve_intI (vv 3) B.int) (vv 1) (by omega)) fun H8 e8 => fin _ (T.ex e8) (mm _)
        · have T := T.ex e6
          refine vs_set (n := 4) (ve_mod (ve_intI (ve_add (ve_add (ve_mul (ve_ix (vv 0) ve_int T.hp rfl) ve_int (.inr ⟨by decide, by decide⟩)) (ve_mod (ve_intI (vv 3) B.int) ve_int (by decide))) (ve_mul (ve_ix (vv 0) ve_int T.hp rfl) ve_int (.inr ⟨by decide, by decide⟩))) B.int) ve_int (by decide)) (fun H7 e7 => ?_)
          have T := T.ex e7
          generalize hX : (mx * 48271 + cell % 2147483629 + (cnt + 1) * 69621) % 2147483647 = X1
          have b1 : 0 ≤ X1 ∧ X1 < 2147483647 := by
            rw [← hX]
            exact And.intro (Int.emod_nonneg _ (by decide)) (Int.emod_lt_of_pos _ (by decide))
          refine vs_set (n := 4) (ve_mod (ve_intI (ve_mul (vv 4) (ve_add (ve_fdiv (vv 4) ve_int ⟨by decide, by decide⟩) ve_int) (.inl ⟨by omega, by omega⟩)) B.int) ve_int (by decide)) (fun H8 e8 => ?_)
          have T := T.ex e8
          generalize hY : X1 * (X1 / 1009 + 40692) % 2147483399 = Y1
          have b2 : 0 ≤ Y1 ∧ Y1 < 2147483399 := by
            rw [← hY]
            exact And.intro (Int.emod_nonneg _ (by decide)) (Int.emod_lt_of_pos _ (by decide))
          refine vs_put (n := 3) T.hp (vv 4) (vv 0) ve_int (by simp) (fun H9 e9 => ?_)
          have T := (T.ex e9).put (mx' := Y1) (rest' := rest) (cnt' := cnt + 1) (pos' := pos) T.pl T.r0 b2.1 (by omega) rfl
          exact vs_ret (ve_mod (ve_intI (ve_fdiv (vv 4) ve_int ⟨by decide, by decide⟩) B.int) (vv 1) (by omega)) fun H10 e10 => fin _ (T.ex e10) (mm _)
      refine vs_when (vt_lt (ve_ix (vv 0) ve_int T.hp rfl) (ve_len (ve_ix (vv 0) ve_int T.hp rfl) T.ha B.len)) (fun z H5 e5 => ?_) (fun z H5 e5 => ?_)
      · have T := T.ex e5
        have hlt : pos < ns.length := by
          have := of_decide_eq_true z
          rw [List.length_map] at this
          omega
        refine vs_set (n := 3) (ve_ix (v := .int (ns.getD pos 0)) (ve_ix (vv 0) ve_int T.hp rfl) (ve_ix (vv 0) ve_int T.hp rfl) T.ha ?_) (fun H6 e6 => ?_)
        · exact atI_nat (by rw [List.getElem?_map, List.getElem?_eq_getElem hlt, List.getD_eq_getElem?_getD, List.getElem?_eq_getElem hlt]; rfl)
        · have T := T.ex e6
          refine vs_put (n := 1) T.hp (ve_add (ve_ix (vv 0) ve_int T.hp rfl) ve_int) (vv 0) ve_int (by simp) (fun H7 e7 => ?_)
          have T := (T.ex e7).put (pos' := pos + 1) (rest' := rest) (mx' := mx) (cnt' := cnt + 1) hlt T.r0 T.m0 T.m1 rfl
          exact vs_nil (go _ _ ⟨_, _, rfl, T⟩)
      · exact go _ _ ⟨_, _, rfl, T.ex e5⟩
end
end Pg
-- Pg11
namespace Dl
open PySem L2 PyProof.Rows
section
variable {X : Cx} {L : Lay} {ρ : Rho} {a b : Expr} {pos : Pos} {Pa Pb : Int → Prop} {i j : Int} {ds : List D}
theorem EvA.imp {ta : TA} {PA PA' : List Rep → Prop} (h : EvA L ta ρ PA) (hp : ∀ z, PA z → PA' z) : EvA L ta ρ PA' := fun gs H0 H σ Q E k => h gs H0 H σ Q E fun rs vs H' p => k rs vs H' (hp rs p)
abbrev IsI (P : Int → Prop) : Rep → Prop := fun r => ∃ i, P i ∧ r = .d (.int i)
theorem xp_sub (ha : XP X L a ρ (IsI Pa)) (hb : XE X L b ρ (.d (.int j))) : XP X L (.BinOp a .Sub b pos) ρ (IsI fun k => ∃ i, Pa i ∧ k = i - j) :=
  xp_of (pe_op op_sub pe_sem pe_sem) (ev_op ha hb fun x y hx hy H Hb vx vy Q g rx ry k => by
    obtain ⟨i, hi, rfl⟩ := hx
    subst hy
    obtain rfl := rv_int rx
    obtain rfl := rv_int ry
    exact ⟨_, _, rfl, rfl, k _ _ Hb ⟨_, ⟨i, hi, rfl⟩, rfl⟩ (Step.refl _) g (Dv.int _)⟩)
theorem xp_addR (ha : XE X L a ρ (.d (.int i))) (hb : XP X L b ρ (IsI Pb)) : XP X L (.BinOp a .Add b pos) ρ (IsI fun k => ∃ j, Pb j ∧ k = i + j) :=
  xp_of (pe_op op_add pe_sem pe_sem) (ev_op ha hb fun x y hx hy H Hb vx vy Q g rx ry k => by
    obtain ⟨j, hj, rfl⟩ := hy
    subst hx
    obtain rfl := rv_int rx
    obtain rfl := rv_int ry
    exact ⟨_, _, rfl, rfl, k _ _ Hb ⟨_, ⟨j, hj, rfl⟩, rfl⟩ (Step.refl _) g (Dv.int _)⟩)
theorem xp_addL (ha : XP X L a ρ (IsI Pa)) (hb : XE X L b ρ (.d (.int j))) : XP X L (.BinOp a .Add b pos) ρ (IsI fun k => ∃ i, Pa i ∧ k = i + j) :=
  xp_of (pe_op op_add pe_sem pe_sem) (ev_op ha hb fun x y hx hy H Hb vx vy Q g rx ry k => by
    obtain ⟨i, hi, rfl⟩ := hx
    subst hy
    obtain rfl := rv_int rx
    obtain rfl := rv_int ry
    exact ⟨_, _, rfl, rfl, k _ _ Hb ⟨_, ⟨i, hi, rfl⟩, rfl⟩ (Step.refl _) g (Dv.int _)⟩)
theorem xp_ixL {P : D → Prop} (ha : XE X L a ρ (.ro ds)) (hb : XP X L b ρ (IsI Pb)) (h : ∀ i, Pb i → ∃ d, atI ds i = some d ∧ P d) (hs : PlainIx b := by exact fun _ _ => rfl) : XP X L (.Subscript a b pos) ρ (fun r => ∃ d, P d ∧ r = .d d) :=
  xp_of (pe_ix ix_list pe_sem pe_sem hs) (ev_op ha hb fun x y hx hy => by
    subst hx
    obtain ⟨i, hi, rfl⟩ := hy
    obtain ⟨d, e, hd⟩ := h i hi
    exact fun H Hb vx vy Q g rx ry k => od_ixL e H Hb vx vy Q g rx ry fun z v H' pz => k z v H' ⟨d, hd, pz⟩)
theorem xp_eqR (ha : XP X L a ρ (IsI Pa)) (hb : XE X L b ρ (.d (.int j))) (hm : behindInMarks .Eq b = false := by first | rfl | exact nomark _) : XP X L (.Compare a [.Eq] [b] pos) ρ (fun r => ∃ t, r = .d (.bl t)) :=
  xp_of (pe_cmpR op_eq pe_sem pe_sem (nomark _)) (ev_op ha hb fun x y hx hy => by
    obtain ⟨i, hi, rfl⟩ := hx
    subst hy
    exact fun H Hb vx vy Q g rx ry k => od_eq (.int i j) H Hb vx vy Q g rx ry fun z v H' pz => k z v H' ⟨_, pz⟩)
end
end Dl
namespace Pg
open PySem L2 Dl Mx
section
variable {P : Program} {w : World} {K : PySem.W.Frag} {mg : Str → Option Value} {base : Heap} {L : Lay}
inductive gLawEdges : Ct
  | mk (m : Nat) (wd : Int) (hm : m ≤ 100) (h1 : 1 ≤ wd) (h2 : wd ≤ 100) : gLawEdges [.tape, .d (.int m), .d (.int wd)] (fun z => ∃ es : List Int, (Asc es ∧ es.length ≤ m) ∧ z = .d (lnE es))
inductive gLawSmallLine : Ct
  | mk (m : Nat) (hm : m ≤ 100) : gLawSmallLine [.tape, .d (.int m)] (fun z => ∃ (f : Bool) (es : List Int), (Asc es ∧ es.length ≤ m) ∧ z = .d (ln f es))
abbrev s__law_edges : Stmt := top 72
theorem ok__law_edges {f : Addr} {fd : FuncData} (F : Fun K "_law_edges" "_law_edges" s__law_edges f fd) (B : Bi mg) (c__law_pick : Cal P w K mg base 1 "_law_pick" ["_law_tape_here", "_law_many"] (spG L gLawPick)) : FnOk P w K mg base CX0 2 f fd ["_law_tape_here", "_law_most", "_law_wide"] (spG L gLawEdges) := by
  refine def_ok (N := ["_law_tape_here", "_law_most", "_law_wide", "_law_tick", "_law_found", "_law_turn"]) F ⟨rfl, rfl, rfl, by decide +kernel, rfl, by decide +kernel, by decide +kernel⟩ (by decide) (fun _ _ h => by cases h; rfl) fun cdv A outer s H E hr rs Pq h => ?_
  have nd : (["_law_tape_here", "_law_most", "_law_wide", "_law_tick", "_law_found", "_law_turn"] : List Str).Nodup := by decide +kernel
  cases h with
  | mk m wd hm h1 h2 =>
    refine xs_setP (i := 3) (xp_sub (Pa := fun r => 0 ≤ r ∧ r < 2 * wd + 1) (xp_call c__law_pick (hr.mono (by decide)) (xa_cons (xv 0) (xa_cons (xe_add (xe_mul xe_int (xv 2) (.inl ⟨by decide, by decide⟩)) xe_int) xa_nil)) (.mk _ (by omega) (by omega))) (xv 2)) (fun r hr => by obtain ⟨k, _, rfl⟩ := hr; exact .inl rfl) ?_
    rintro r ⟨t0, _, rfl⟩
    refine xs_set (i := 4) (xe_lst (ds := []) xa_nil) ?_
    refine xs_for (xi_rng1 (PI' := fun n => 0 ≤ n ∧ n < (m : Int) + 1) (EvP.imp (xp_call c__law_pick (hr.mono (by decide)) (xa_cons (xv 0) (xa_cons (xe_add (xv 1) xe_int) xa_nil)) (.mk _ (by omega) (by omega))) fun r h => ?_) B.range) (pg_name (i := 5) nd rfl (Or.inl rfl)) (fun ds i ρ' => ∃ (es : List Int) (t : Int) (x : Option Rep), ρ' = [some .tape, some (.d (.int m)), some (.d (.int wd)), some (.d (.int t)), some (.own (es.map .int)), x] ∧ es.length = i ∧ Asc es ∧ ∀ e ∈ es, e < t) ?_ ?_ ?_
    · obtain ⟨n, hn, rfl⟩ := h
      exact ⟨n, hn, by omega, by omega, rfl⟩
    · rintro ds ⟨n, hn, rfl⟩
      exact ⟨[], t0, none, rfl, rfl, List.Pairwise.nil, fun e he => by cases he⟩
    · rintro ds i d ρ1 ⟨n, hn, rfl⟩ hd ⟨es, t, x, rfl, he, ha, hb⟩
      obtain ⟨hi, rfl⟩ := rng_get hd
      refine ⟨_, evg_name, xs_append (i := 4) rfl (xv 3) (by rw [List.length_map]; omega) ?_⟩
      refine xs_setP (i := 3) (xp_addR (Pb := fun k => 0 ≤ k) (xe_add (xv 3) xe_int) (EvP.imp (xp_ixL (P := fun d => ∃ k, 0 ≤ k ∧ d = .int k) (XE.rd (xe_lst (ds := [.int 0, .int 0, .int 1, .int 2, .int 4, .int wd]) (xa_cons xe_int (xa_cons xe_int (xa_cons xe_int (xa_cons xe_int (xa_cons xe_int (xa_cons (xv 2) xa_nil)))))))) (xp_call c__law_pick (hr.mono (by decide)) (xa_cons (xv 0) (xa_cons xe_int xa_nil)) (.mk 6 (by decide) (by decide))) (fun k hk => ?_)) fun r h => ?_)) (fun r hr => by obtain ⟨k, _, rfl⟩ := hr; exact .inl rfl) ?_
      · obtain ⟨k0, k1⟩ := hk
        have : k = 0 ∨ k = 1 ∨ k = 2 ∨ k = 3 ∨ k = 4 ∨ k = 5 := by omega
        rcases this with rfl | rfl | rfl | rfl | rfl | rfl <;> exact ⟨_, rfl, _, by omega, rfl⟩
      · obtain ⟨d, ⟨k, hk, rfl⟩, rfl⟩ := h
        exact ⟨k, hk, rfl⟩
      · rintro r ⟨k, ⟨j, hj, rfl⟩, rfl⟩
        refine xs_nil ⟨es ++ [t], t + 1 + j, some (.d (.int (0 + (i : Int)))), by rw [List.map_append]; rfl, by rw [List.length_append, he]; rfl, ?_, fun e hm => ?_⟩
        · unfold Asc
          rw [List.pairwise_append]
          exact ⟨ha, List.pairwise_singleton _ _, fun a ha' b hb' => by rw [List.mem_singleton.mp hb']; exact hb a ha'⟩
        · rcases List.mem_append.mp hm with z | z
          · have := hb e z; omega
          · rw [List.mem_singleton.mp z]; omega
    · rintro ds ρ1 ⟨n, hn, rfl⟩ ⟨es, t, x, rfl, he, ha, hb⟩
      rw [rng_len] at he
      exact xs_ret ((XE.fz 4 (xe_tupleL (xv 4) B.tuple)).p ⟨es, ⟨ha, by omega⟩, rfl⟩)
abbrev s__law_small_line : Stmt := top 73
theorem ok__law_small_line {f : Addr} {fd : FuncData} (F : Fun K "_law_small_line" "_law_small_line" s__law_small_line f fd) (B : Bi mg) (c__law_pick : Cal P w K mg base 1 "_law_pick" ["_law_tape_here", "_law_many"] (spG L gLawPick)) (c__law_edges : Cal P w K mg base 2 "_law_edges" ["_law_tape_here", "_law_most", "_law_wide"] (spG L gLawEdges)) : FnOk P w K mg base CX0 3 f fd ["_law_tape_here", "_law_most"] (spG L gLawSmallLine) := by
  refine def_ok (N := ["_law_tape_here", "_law_most"]) F ⟨rfl, rfl, rfl, by decide +kernel, rfl, by decide +kernel, by decide +kernel⟩ (by decide) (fun _ _ h => by cases h; rfl) fun cdv A outer s H E hr rs Pq h => ?_
  have nd : (["_law_tape_here", "_law_most"] : List Str).Nodup := by decide +kernel
  cases h with
  | mk m hm =>
    refine xs_ret (xp_tup (EvA.imp (xap_cons (xp_eqR (xp_call c__law_pick (hr.mono (by decide)) (xa_cons (xv 0) (xa_cons xe_int xa_nil)) (.mk 2 (by decide) (by decide))) xe_int) (xap_cons (xp_call c__law_edges (hr.mono (by decide)) (xa_cons (xv 0) (xa_cons (xv 1) (xa_cons xe_int xa_nil))) (.mk m 5 hm (by decide) (by decide))) xa_nil)) fun z h => ?_) (by decide) (fun z h => ?_))
    · obtain ⟨r, rs, rfl, ⟨f, rfl⟩, ⟨r2, rs2, rfl, ⟨es, he, rfl⟩, rfl⟩⟩ := h
      exact ⟨[.bl f, lnE es], rfl, ⟨f, es, he, rfl⟩⟩
    · obtain ⟨ds, rfl, ⟨f, es, he, e⟩⟩ := h
      injection e with e
      injection e with e
      rw [e]
      show 2 ≤ _
      decide
end
end Pg
-- Pg1
namespace Pg
open PySem L2 Dl Mx
section
variable {P : Program} {w : World} {K : PySem.W.Frag} {mg : Str → Option Value} {base : Heap} {L : Lay}
inductive gIsInteger : Ct
  | mk (i : Int) : gIsInteger [.d (.int i)] (fun z => z = .d (.bl true))
inductive gIsFlag : Ct
  | mk (b : Bool) : gIsFlag [.d (.bl b)] (fun z => z = .d (.bl true))
inductive gIsWithin : Ct
  | mk (t lo hi : Int) (h : lo ≤ t ∧ t ≤ hi) : gIsWithin [.d (.int t), .d (.int lo), .d (.int hi)] (fun z => z = .d (.bl true))
inductive gIsPair : Ct
  | mk (a b : D) : gIsPair [.d (.tup [a, b])] (fun z => z = .d (.bl true))
inductive gIsTriple : Ct
  | mk (a b c : D) : gIsTriple [.d (.tup [a, b, c])] (fun z => z = .d (.bl true))
inductive gIsRising : Ct
  | mk (es : List Int) (h : Asc es) (hl : es.length ≤ 1000) : gIsRising [.d (lnE es)] (fun z => z = .d (.bl true))
inductive gCheckTick : Ct
  | mk (i : Int) : gCheckTick [.d (.int i)] (fun z => z = .d .non)
inductive gCheckNumber : Ct
  | mk (t lo hi : Int) (h : lo ≤ t ∧ t ≤ hi) : gCheckNumber [.d (.int t), .d (.int lo), .d (.int hi)] (fun z => z = .d .non)
inductive gIsToldLine : Ct
  | mk (f : Bool) (es : List Int) (h : Asc es) (hl : es.length ≤ 1000) : gIsToldLine [.d (ln f es)] (fun z => z = .d (.bl true))
inductive gCheckLine : Ct
  | mk (f : Bool) (es : List Int) (h : Asc es) (hl : es.length ≤ 1000) : gCheckLine [.d (ln f es)] (fun z => z = .d .non)
inductive gCheckTwo : Ct
  | mk (f : Bool) (es : List Int) (h : Asc es) (hl : es.length ≤ 1000) (f' : Bool) (es' : List Int) (h' : Asc es') (hl' : es'.length ≤ 1000) : gCheckTwo [.d (ln f es), .d (ln f' es')] (fun z => z = .d .non)
inductive gStateBehind : Ct
  | mk (f : Bool) (x : D) (n : Int) : gStateBehind [.d (.tup [.bl f, x]), .d (.int n)] (fun z => z = .d (.bl (stb f n)))
abbrev s_is_integer : Stmt := top 8
theorem ok_is_integer {f : Addr} {fd : FuncData} (F : Fun K "is_integer" "is_integer" s_is_integer f fd) (B : Bi mg)  : FnOk P w K mg base CX0 1 f fd ["thing"] (spG L gIsInteger) := by
  refine def_ok (N := ["thing"]) F ⟨rfl, rfl, rfl, by decide +kernel, rfl, by decide +kernel, by decide +kernel⟩ (by decide) (fun _ _ h => by cases h; rfl) fun cdv A outer s H E hr rs Pq h => ?_
  have nd : (["thing"] : List Str).Nodup := by decide +kernel
  cases h with
  | mk i => exact xs_retE (xe_and (xe_isi (xv 0) rfl (T := "int") (by decide) B.isi B.int) (fun _ => xe_one (xe_not (xe_isi (xv 0) rfl (T := "bool") (by decide) B.isi B.bool)))) rfl
abbrev s_is_flag : Stmt := top 9
theorem ok_is_flag {f : Addr} {fd : FuncData} (F : Fun K "is_flag" "is_flag" s_is_flag f fd) (B : Bi mg)  : FnOk P w K mg base CX0 1 f fd ["thing"] (spG L gIsFlag) := by
  refine def_ok (N := ["thing"]) F ⟨rfl, rfl, rfl, by decide +kernel, rfl, by decide +kernel, by decide +kernel⟩ (by decide) (fun _ _ h => by cases h; rfl) fun cdv A outer s H E hr rs Pq h => ?_
  have nd : (["thing"] : List Str).Nodup := by decide +kernel
  cases h with
  | mk b => exact xs_retE (xe_isi (xv 0) rfl (T := "bool") (by decide) B.isi B.bool) rfl
abbrev s_is_within : Stmt := top 10
theorem ok_is_within {f : Addr} {fd : FuncData} (F : Fun K "is_within" "is_within" s_is_within f fd) (B : Bi mg) (c_is_integer : Cal P w K mg base 1 "is_integer" ["thing"] (spG L gIsInteger)) : FnOk P w K mg base CX0 2 f fd ["thing", "least", "most"] (spG L gIsWithin) := by
  refine def_ok (N := ["thing", "least", "most"]) F ⟨rfl, rfl, rfl, by decide +kernel, rfl, by decide +kernel, by decide +kernel⟩ (by decide) (fun _ _ h => by cases h; rfl) fun cdv A outer s H E hr rs Pq h => ?_
  have nd : (["thing", "least", "most"] : List Str).Nodup := by decide +kernel
  cases h with
  | mk t lo hi h =>
    refine xs_retE (XE.is (r' := .d (.bl true)) (xe_and (xe_call c_is_integer (hr.mono (by decide)) (xa_cons (xv 0) xa_nil) (.mk _)) (fun _ => xe_one (xe_chainLe (xv 1) (xv 0) (xv 2)))) ?_) rfl
    rw [decide_eq_true h]
    rfl
abbrev s_is_pair : Stmt := top 11
theorem ok_is_pair {f : Addr} {fd : FuncData} (F : Fun K "is_pair" "is_pair" s_is_pair f fd) (B : Bi mg)  : FnOk P w K mg base CX0 1 f fd ["thing"] (spG L gIsPair) := by
  refine def_ok (N := ["thing"]) F ⟨rfl, rfl, rfl, by decide +kernel, rfl, by decide +kernel, by decide +kernel⟩ (by decide) (fun _ _ h => by cases h; rfl) fun cdv A outer s H E hr rs Pq h => ?_
  have nd : (["thing"] : List Str).Nodup := by decide +kernel
  cases h with
  | mk a b => exact xs_retE (xe_and (xe_isi (xv 0) rfl (T := "tuple") (by decide) B.isi B.tuple) (fun _ => xe_one (xe_eq (xe_lenT (xv 0) B.len) xe_int (.int _ _)))) rfl
abbrev s_is_triple : Stmt := top 12
theorem ok_is_triple {f : Addr} {fd : FuncData} (F : Fun K "is_triple" "is_triple" s_is_triple f fd) (B : Bi mg)  : FnOk P w K mg base CX0 1 f fd ["thing"] (spG L gIsTriple) := by
  refine def_ok (N := ["thing"]) F ⟨rfl, rfl, rfl, by decide +kernel, rfl, by decide +kernel, by decide +kernel⟩ (by decide) (fun _ _ h => by cases h; rfl) fun cdv A outer s H E hr rs Pq h => ?_
  have nd : (["thing"] : List Str).Nodup := by decide +kernel
  cases h with
  | mk a b => exact xs_retE (xe_and (xe_isi (xv 0) rfl (T := "tuple") (by decide) B.isi B.tuple) (fun _ => xe_one (xe_eq (xe_lenT (xv 0) B.len) xe_int (.int _ _)))) rfl
abbrev s_is_rising : Stmt := top 13
theorem ok_is_rising {f : Addr} {fd : FuncData} (F : Fun K "is_rising" "is_rising" s_is_rising f fd) (B : Bi mg)  : FnOk P w K mg base CX0 1 f fd ["items"] (spG L gIsRising) := by
  refine def_ok (N := ["items", "at"]) F ⟨rfl, rfl, rfl, by decide +kernel, rfl, by decide +kernel, by decide +kernel⟩ (by decide) (fun _ _ h => by cases h; rfl) fun cdv A outer s H E hr rs Pq h => ?_
  have nd : (["items", "at"] : List Str).Nodup := by decide +kernel
  cases h with
  | mk es h hl =>
    refine xs_retE (xe_allT (ds := rng 1 ((es.length : Int) - 1).toNat) (xe_lc (fun _ => .bl true) (own := [("at", 1)]) (xi_rng2 (hi := (es.length : Int)) xe_int ((xe_lenT (xv 0) B.len).is (by rw [List.length_map])) (by omega) B.range) (blkOk_by (N := ["items", "at"]) (sc := defScope s_is_rising) (by decide +kernel))
      (fun _ _ _ _ _ => pg_name (i := 1) nd rfl (Or.inl rfl)) (fun d hd => ⟨_, evgw_name (by decide), fun s H1 C cl fp => ?_⟩) (by rw [rng_len]; omega)) B.all) rfl
    obtain ⟨k, hk⟩ := List.getElem?_of_mem hd
    obtain ⟨h1, rfl⟩ := rng_get hk
    have h2 : k + 1 < es.length := by omega
    refine XE.is (xe_lt (i := es[k]) (j := es[k + 1]) (xe_ixT (xv 0) (xe_sub (xv 1) xe_int) (atI_mapI (j := k) (by omega) (by simp))) (xe_ixT (xv 0) (xv 1) (atI_mapI (j := k + 1) (by omega) (by simp)))) ?_
    rw [decide_eq_true (asc_get h (Nat.lt_succ_self k) (by simp) (by simp))]
abbrev s_check_tick : Stmt := top 14
theorem ok_check_tick {f : Addr} {fd : FuncData} (F : Fun K "check_tick" "check_tick" s_check_tick f fd) (B : Bi mg) (c_is_integer : Cal P w K mg base 1 "is_integer" ["thing"] (spG L gIsInteger)) : FnOk P w K mg base CX0 2 f fd ["thing"] (spG L gCheckTick) := by
  refine def_ok (N := ["thing"]) F ⟨rfl, rfl, rfl, by decide +kernel, rfl, by decide +kernel, by decide +kernel⟩ (by decide) (fun _ _ h => by cases h; rfl) fun cdv A outer s H E hr rs Pq h => ?_
  have nd : (["thing"] : List Str).Nodup := by decide +kernel
  cases h with
  | mk i => exact xs_if (xt_not (xt_val (xe_call c_is_integer (hr.mono (by decide)) (xa_cons (xv 0) xa_nil) (.mk _)))) (fun z => by cases z) (fun _ => xs_nil (xs_nil rfl))
abbrev s_check_number : Stmt := top 15
theorem ok_check_number {f : Addr} {fd : FuncData} (F : Fun K "check_number" "check_number" s_check_number f fd) (B : Bi mg) (c_is_within : Cal P w K mg base 2 "is_within" ["thing", "least", "most"] (spG L gIsWithin)) : FnOk P w K mg base CX0 3 f fd ["thing", "least", "most"] (spG L gCheckNumber) := by
  refine def_ok (N := ["thing", "least", "most"]) F ⟨rfl, rfl, rfl, by decide +kernel, rfl, by decide +kernel, by decide +kernel⟩ (by decide) (fun _ _ h => by cases h; rfl) fun cdv A outer s H E hr rs Pq h => ?_
  have nd : (["thing", "least", "most"] : List Str).Nodup := by decide +kernel
  cases h with
  | mk t lo hi h => exact xs_if (xt_not (xt_val (xe_call c_is_within (hr.mono (by decide)) (xa_cons (xv 0) (xa_cons (xv 1) (xa_cons (xv 2) xa_nil))) (.mk _ _ _ h)))) (fun z => by cases z) (fun _ => xs_nil (xs_nil rfl))
abbrev s_is_told_line : Stmt := top 17
theorem ok_is_told_line {f : Addr} {fd : FuncData} (F : Fun K "is_told_line" "is_told_line" s_is_told_line f fd) (B : Bi mg) (c_is_integer : Cal P w K mg base 1 "is_integer" ["thing"] (spG L gIsInteger)) (c_is_flag : Cal P w K mg base 1 "is_flag" ["thing"] (spG L gIsFlag)) (c_is_pair : Cal P w K mg base 1 "is_pair" ["thing"] (spG L gIsPair)) (c_is_rising : Cal P w K mg base 1 "is_rising" ["items"] (spG L gIsRising)) : FnOk P w K mg base CX0 2 f fd ["thing"] (spG L gIsToldLine) := by
  refine def_ok (N := ["thing", "edge"]) F ⟨rfl, rfl, rfl, by decide +kernel, rfl, by decide +kernel, by decide +kernel⟩ (by decide) (fun _ _ h => by cases h; rfl) fun cdv A outer s H E hr rs Pq h => ?_
  have nd : (["thing", "edge"] : List Str).Nodup := by decide +kernel
  cases h with
  | mk f es h hl =>
    refine xs_if (xt_w (xw_or (xt_not (xt_val (xe_call c_is_pair (hr.mono (by decide)) (xa_cons (xv 0) xa_nil) (.mk _ _)))) (fun _ => xw_or (xt_not (xt_val (xe_call c_is_flag (hr.mono (by decide)) (xa_cons (xe_ixT (xv 0) xe_int rfl) xa_nil) (.mk _)))) (fun _ => xw_or1 (xt_not (xt_val (xe_isi (xe_ixT (xv 0) xe_int rfl) rfl (T := "tuple") (by decide) B.isi B.tuple))))))) (fun z => by cases z) (fun _ => xs_nil ?_)
    refine xs_retE (xe_and (xe_allT (xe_lc (fun _ => .bl true) (own := [("edge", 1)]) (xi_tup (xe_ixT (xv 0) xe_int rfl)) (blkOk_by (N := ["thing", "edge"]) (sc := defScope s_is_told_line) (by decide +kernel))
      (fun _ _ _ _ _ => pg_name (i := 1) nd rfl (Or.inl rfl)) (fun d hd => ⟨_, evgw_name (by decide), fun s H1 C cl fp => ?_⟩) (by rw [List.length_map]; omega)) B.all) (fun _ => xe_one (xe_call c_is_rising (hr.mono (by decide)) (xa_cons (xe_ixT (xv 0) xe_int rfl) xa_nil) (.mk _ h hl)))) rfl
    obtain ⟨i, _, rfl⟩ := List.mem_map.mp hd
    exact xe_call c_is_integer (hr.mono (by decide)) (xa_cons (xv 1) xa_nil) (.mk _)
abbrev s_check_line : Stmt := top 18
theorem ok_check_line {f : Addr} {fd : FuncData} (F : Fun K "check_line" "check_line" s_check_line f fd) (B : Bi mg) (c_is_told_line : Cal P w K mg base 2 "is_told_line" ["thing"] (spG L gIsToldLine)) : FnOk P w K mg base CX0 3 f fd ["thing"] (spG L gCheckLine) := by
  refine def_ok (N := ["thing"]) F ⟨rfl, rfl, rfl, by decide +kernel, rfl, by decide +kernel, by decide +kernel⟩ (by decide) (fun _ _ h => by cases h; rfl) fun cdv A outer s H E hr rs Pq h => ?_
  have nd : (["thing"] : List Str).Nodup := by decide +kernel
  cases h with
  | mk f es h hl => exact xs_if (xt_not (xt_val (xe_call c_is_told_line (hr.mono (by decide)) (xa_cons (xv 0) xa_nil) (.mk _ _ h hl)))) (fun z => by cases z) (fun _ => xs_nil (xs_nil rfl))
abbrev s_check_two : Stmt := top 27
theorem ok_check_two {f : Addr} {fd : FuncData} (F : Fun K "check_two" "check_two" s_check_two f fd) (B : Bi mg) (c_check_line : Cal P w K mg base 3 "check_line" ["thing"] (spG L gCheckLine)) : FnOk P w K mg base CX0 4 f fd ["one", "other"] (spG L gCheckTwo) := by
  refine def_ok (N := ["one", "other"]) F ⟨rfl, rfl, rfl, by decide +kernel, rfl, by decide +kernel, by decide +kernel⟩ (by decide) (fun _ _ h => by cases h; rfl) fun cdv A outer s H E hr rs Pq h => ?_
  have nd : (["one", "other"] : List Str).Nodup := by decide +kernel
  cases h with
  | mk f es h hl f' es' h' hl' => exact xs_expr (xe_call c_check_line (hr.mono (by decide)) (xa_cons (xv 0) xa_nil) (.mk _ _ h hl)) (xs_expr (xe_call c_check_line (hr.mono (by decide)) (xa_cons (xv 1) xa_nil) (.mk _ _ h' hl')) (xs_nil rfl))
abbrev s_state_behind : Stmt := top 20
theorem ok_state_behind {f : Addr} {fd : FuncData} (F : Fun K "state_behind" "state_behind" s_state_behind f fd) (B : Bi mg)  : FnOk P w K mg base CX0 1 f fd ["line", "many"] (spG L gStateBehind) := by
  refine def_ok (N := ["line", "many"]) F ⟨rfl, rfl, rfl, by decide +kernel, rfl, by decide +kernel, by decide +kernel⟩ (by decide) (fun _ _ h => by cases h; rfl) fun cdv A outer s H E hr rs Pq h => ?_
  have nd : (["line", "many"] : List Str).Nodup := by decide +kernel
  cases h with
  | mk f x n => exact xs_retE (xe_ne (xe_ixT (xv 0) xe_int rfl) (xe_eq (xe_mod (xv 1) xe_int (by decide)) xe_int (.int _ _)) (.bl _ _)) rfl
end
end Pg
-- Pg2
namespace Pg
open PySem L2 Dl Mx
section
variable {P : Program} {w : World} {K : PySem.W.Frag} {mg : Str → Option Value} {base : Heap} {L : Lay}
inductive gEdgesUpTo : Ct
  | mk (f : Bool) (es : List Int) (t : Int) (h : Asc es) (hl : es.length ≤ 1000) : gEdgesUpTo [.d (ln f es), .d (.int t)] (fun z => z = .d (.int (cnt es t)))
inductive gStateAt : Ct
  | mk (f : Bool) (es : List Int) (t : Int) (h : Asc es) (hl : es.length ≤ 1000) : gStateAt [.d (ln f es), .d (.int t)] (fun z => z = .d (.bl (stb f (cnt es t))))
inductive gShifted : Ct
  | mk (f : Bool) (es : List Int) (t : Int) (hl : es.length ≤ 1000) : gShifted [.d (ln f es), .d (.int t)] (fun z => z = .d (ln f (es.map fun e => e + t)))
inductive gLater : Ct
  | mk (f : Bool) (es : List Int) (t : Int) (h : Asc es) (hl : es.length ≤ 1000) : gLater [.d (ln f es), .d (.int t)] (fun z => z = .d (ln f (es.map fun e => e + t)))
inductive gIsAmount : Ct
  | mk (i : Int) (h : 0 ≤ i) : gIsAmount [.d (.int i)] (fun z => z = .d (.bl true))
inductive gIsGate : Ct
  | mk (g : Gate) (h : g.ok) : gIsGate [.d (gD g)] (fun z => z = .d (.bl true))
inductive gIsRowOf : Ct
  | mk (gs : List Gate) (n : Int) (h : ∀ g ∈ gs, g.ok) (hl : gs.length ≤ 1000) : gIsRowOf [.d (rowD gs), .d (.int n)] (fun z => z = .d (.bl true))
inductive gIsToldRow : Ct
  | mk (gs : List Gate) (h : ∀ g ∈ gs, g.ok) (hl : gs.length ≤ 1000) : gIsToldRow [.d (rowD gs)] (fun z => z = .d (.bl true))
inductive gCheckRow : Ct
  | mk (gs : List Gate) (h : ∀ g ∈ gs, g.ok) (hl : gs.length ≤ 1000) : gCheckRow [.d (rowD gs)] (fun z => z = .d .non)
inductive gLateBy : Ct
  | mk (g : Gate) : gLateBy [.d (gD g)] (fun z => z = .d (.tup [.int g.a, .int g.b]))
inductive gSumsOf : Ct
  | mk (gs : List Gate) : gSumsOf [.d (rowD gs)] (fun z => z = .d (.tup [.int (sumA gs), .int (sumB gs)]))
inductive gHeightIn : Ct
  | mk (l : Ld) (hl : l.length ≤ 1000) : gHeightIn [.d (ldD l)] (fun z => z = .d (.int (ups l)))
inductive gDepthIn : Ct
  | mk (l : Ld) (hl : l.length ≤ 1000) : gDepthIn [.d (ldD l)] (fun z => z = .d (.int (downs l)))
inductive gIsRungRun : Ct
  | mk (r : Bool × Int) (h : 1 ≤ r.2) : gIsRungRun [.d (rgD r)] (fun z => z = .d (.bl true))
inductive gIsLadder : Ct
  | mk (l : Ld) (h : OkLd l) (hl : l.length ≤ 1000) : gIsLadder [.d (ldD l)] (fun z => z = .d (.bl true))
abbrev shD (l : Ld) : D := .tup [.int 0, .int 0, ldD l]
inductive gIsToldShape : Ct
  | mk (l : Ld) (h : OkLd l) (hl : l.length ≤ 1000) (hu : 0 ≤ ups l) (hd : 0 ≤ downs l) : gIsToldShape [.d (shD l)] (fun z => z = .d (.bl true))
inductive gCheckShape : Ct
  | mk (l : Ld) (h : OkLd l) (hl : l.length ≤ 1000) (hu : 0 ≤ ups l) (hd : 0 ≤ downs l) : gCheckShape [.d (shD l)] (fun z => z = .d .non)
inductive gGateTo : Ct
  | mk (a b : Int) : gGateTo [.d (.int a), .d (.int b)] (fun z => z = .d (gD (gateTo a b)))
inductive gTurnings : Ct
  | mk (l : Ld) (hl : l.length ≤ 1000) : gTurnings [.d (shD l)] (fun z => z = .own ((turn0 l).map .int))
inductive gNormalOf : Ct
  | mk (l : Ld) (hl : l.length ≤ 1000) : gNormalOf [.d (shD l)] (fun z => z = .d (rowD (nrm l)))
inductive gRowOf : Ct
  | mk (l : Ld) (h : OkLd l) (hl : l.length ≤ 1000) (hu : 0 ≤ ups l) (hd : 0 ≤ downs l) : gRowOf [.d (shD l)] (fun z => z = .d (rowD (nrm l)))
theorem cnt_split {es : List Int} (h : Asc es) (t : Int) : ∀ i : Nat, i ≤ es.length → (∀ (j : Nat) (v : Int), es[j]? = some v → j < i → v ≤ t) → (∀ (j : Nat) (v : Int), es[j]? = some v → i ≤ j → t < v) → cnt es t = i := by
  intro i hi h1 h2
  unfold cnt
  have e : es = es.take i ++ es.drop i := (List.take_append_drop i es).symm
  rw [e, List.filter_append]
  have a1 : (es.take i).filter (fun e => decide (e ≤ t)) = es.take i := List.filter_eq_self.mpr fun v hv => by
    obtain ⟨j, hj⟩ := List.getElem?_of_mem hv
    rw [List.getElem?_take] at hj
    split at hj
    · exact decide_eq_true (h1 j v hj (by assumption))
    · cases hj
  have a2 : (es.drop i).filter (fun e => decide (e ≤ t)) = [] := List.filter_eq_nil_iff.mpr fun v hv => by
    obtain ⟨j, hj⟩ := List.getElem?_of_mem hv
    rw [List.getElem?_drop] at hj
    have := h2 _ v hj (by omega)
    simp only [decide_eq_true_eq]
    omega
  rw [a1, a2, List.append_nil, List.length_take]
  omega
abbrev s_edges_up_to : Stmt := top 19
theorem ok_edges_up_to {f : Addr} {fd : FuncData} (F : Fun K "edges_up_to" "edges_up_to" s_edges_up_to f fd) (B : Bi mg)  : FnOk P w K mg base CX0 1 f fd ["line", "tick"] (spG L gEdgesUpTo) := by
  refine def_ok (N := ["line", "tick", "least", "most", "middle"]) F ⟨rfl, rfl, rfl, by decide +kernel, rfl, by decide +kernel, by decide +kernel⟩ (by decide) (fun _ _ h => by cases h; rfl) fun cdv A outer s H E hr rs Pq h => ?_
  have nd : (["line", "tick", "least", "most", "middle"] : List Str).Nodup := by decide +kernel
  cases h with
  | mk f es t h hl =>
    refine xs_set (i := 2) xe_int (xs_set (i := 3) ((xe_lenT (xe_ixT (xv 0) xe_int rfl) B.len).is (by rw [List.length_map])) ?_)
    refine xs_while (fun m ρ' => ∃ (lo hi : Nat) (mid : Option Rep), m = hi - lo ∧ lo ≤ hi ∧ hi ≤ es.length ∧ ρ' = [some (.d (ln f es)), some (.d (.int t)), some (.d (.int (lo : Int))), some (.d (.int (hi : Int))), mid] ∧
      (∀ (j : Nat) (v : Int), es[j]? = some v → j < lo → v ≤ t) ∧ (∀ (j : Nat) (v : Int), es[j]? = some v → hi ≤ j → t < v)) es.length ⟨0, es.length, none, rfl, Nat.zero_le _, Nat.le_refl _, rfl, fun j v _ z => absurd z (Nat.not_lt_zero _), fun j v e z => absurd (List.getElem?_eq_some_iff.mp e).1 (Nat.not_lt.mpr z)⟩ ?_
    rintro m ρ1 ⟨lo, hi, mid, rfl, h1, h2, rfl, h3, h4⟩
    refine ⟨_, xt_lt (xv 2) (xv 3), fun z => ?_, fun z => ?_⟩
    · have hlt : lo < hi := by have := of_decide_eq_true z; omega
      have hm1 : lo ≤ (lo + hi) / 2 := by omega
      have hm2 : (lo + hi) / 2 < hi := by omega
      have hm3 : (lo + hi) / 2 < es.length := by omega
      have hg : es[(lo + hi) / 2]? = some es[(lo + hi) / 2] := by simp
      refine xs_set (i := 4) ((xe_fdiv (xe_add (xv 2) (xv 3)) xe_int ⟨by decide, by decide⟩).is (r' := .d (.int (((lo + hi) / 2 : Nat) : Int))) (by congr 2)) ?_
      refine xs_if (xt_le (xe_ixT (xe_ixT (xv 0) xe_int rfl) (xv 4) (atI_map hg)) (xv 1)) (fun z => ?_) (fun z => ?_)
      · have hle := of_decide_eq_true z
        refine xs_set (i := 2) (xe_add (xv 4) xe_int) (xs_nil (xs_nil ⟨hi - ((lo + hi) / 2 + 1), by omega, (lo + hi) / 2 + 1, hi, _, rfl, by omega, h2, rfl, fun j v e hj => ?_, h4⟩))
        rcases Nat.lt_or_eq_of_le (Nat.lt_succ_iff.mp hj) with q | q
        · exact Int.le_of_lt (Int.lt_of_lt_of_le (asc_get h q e hg) hle)
        · subst q
          rw [hg] at e
          cases e
          exact hle
      · have hgt := of_decide_eq_false z
        refine xs_set (i := 3) (xv 4) (xs_nil (xs_nil ⟨(lo + hi) / 2 - lo, by omega, lo, (lo + hi) / 2, _, rfl, hm1, by omega, rfl, h3, fun j v e hj => ?_⟩))
        rcases Nat.lt_or_eq_of_le hj with q | q
        · exact Int.lt_trans (Int.not_le.mp hgt) (asc_get h q hg e)
        · subst q
          rw [hg] at e
          cases e
          exact Int.not_le.mp hgt
    · have e : lo = hi := by have := of_decide_eq_false z; omega
      subst e
      refine xs_retE (xv 2) ?_
      rw [cnt_split h t lo h2 h3 h4]
abbrev s_state_at : Stmt := top 21
theorem ok_state_at {f : Addr} {fd : FuncData} (F : Fun K "state_at" "state_at" s_state_at f fd) (B : Bi mg) (c_edges_up_to : Cal P w K mg base 1 "edges_up_to" ["line", "tick"] (spG L gEdgesUpTo)) (c_state_behind : Cal P w K mg base 1 "state_behind" ["line", "many"] (spG L gStateBehind)) : FnOk P w K mg base CX0 2 f fd ["line", "tick"] (spG L gStateAt) := by
  refine def_ok (N := ["line", "tick"]) F ⟨rfl, rfl, rfl, by decide +kernel, rfl, by decide +kernel, by decide +kernel⟩ (by decide) (fun _ _ h => by cases h; rfl) fun cdv A outer s H E hr rs Pq h => ?_
  have nd : (["line", "tick"] : List Str).Nodup := by decide +kernel
  cases h with
  | mk f es t h hl => exact xs_retE (xe_call c_state_behind (hr.mono (by decide)) (xa_cons (xv 0) (xa_cons (xe_call c_edges_up_to (hr.mono (by decide)) (xa_cons (xv 0) (xa_cons (xv 1) xa_nil)) (gEdgesUpTo.mk _ _ _ h hl)) xa_nil)) (gStateBehind.mk _ _ _)) rfl
abbrev s_shifted : Stmt := top 22
theorem ok_shifted {f : Addr} {fd : FuncData} (F : Fun K "shifted" "shifted" s_shifted f fd) (B : Bi mg)  : FnOk P w K mg base CX0 1 f fd ["line", "ticks"] (spG L gShifted) := by
  refine def_ok (N := ["line", "ticks", "edge"]) F ⟨rfl, rfl, rfl, by decide +kernel, rfl, by decide +kernel, by decide +kernel⟩ (by decide) (fun _ _ h => by cases h; rfl) fun cdv A outer s H E hr rs Pq h => ?_
  have nd : (["line", "ticks", "edge"] : List Str).Nodup := by decide +kernel
  cases h with
  | mk f es t hl =>
    refine xs_retE (xe_tup (ds := [.bl f, lnE (es.map fun e => e + t)]) (xa_cons (xe_ixT (xv 0) xe_int rfl) (xa_cons (xe_tupleL (XE.is (xe_lc (fun d => match d with | .int i => .int (i + t) | _ => .non) (own := [("edge", 2)]) (xi_tup (xe_ixT (xv 0) xe_int rfl)) (blkOk_by (N := ["line", "ticks", "edge"]) (sc := defScope s_shifted) (by decide +kernel)) (fun _ _ _ _ _ => pg_name (i := 2) nd rfl (Or.inl rfl)) (fun d hd => ⟨_, evgw_name (by decide), fun s H1 C cl fp => ?_⟩) (by rw [List.length_map]; omega)) (by rw [List.map_map, List.map_map]; rfl)).rd B.tuple) xa_nil))) rfl
    obtain ⟨i, _, rfl⟩ := List.mem_map.mp hd
    exact xe_add (xv 2) (xv 1)
abbrev s_later : Stmt := top 23
theorem ok_later {f : Addr} {fd : FuncData} (F : Fun K "later" "later" s_later f fd) (B : Bi mg) (c_check_line : Cal P w K mg base 3 "check_line" ["thing"] (spG L gCheckLine)) (c_check_tick : Cal P w K mg base 2 "check_tick" ["thing"] (spG L gCheckTick)) (c_shifted : Cal P w K mg base 1 "shifted" ["line", "ticks"] (spG L gShifted)) : FnOk P w K mg base CX0 4 f fd ["line", "ticks"] (spG L gLater) := by
  refine def_ok (N := ["line", "ticks"]) F ⟨rfl, rfl, rfl, by decide +kernel, rfl, by decide +kernel, by decide +kernel⟩ (by decide) (fun _ _ h => by cases h; rfl) fun cdv A outer s H E hr rs Pq h => ?_
  have nd : (["line", "ticks"] : List Str).Nodup := by decide +kernel
  cases h with
  | mk f es t h hl => exact xs_expr (xe_call c_check_line (hr.mono (by decide)) (xa_cons (xv 0) xa_nil) (gCheckLine.mk _ _ h hl)) (xs_expr (xe_call c_check_tick (hr.mono (by decide)) (xa_cons (xv 1) xa_nil) (gCheckTick.mk _)) (xs_retE (xe_call c_shifted (hr.mono (by decide)) (xa_cons (xv 0) (xa_cons (xv 1) xa_nil)) (gShifted.mk _ _ _ hl)) rfl))
abbrev s_is_amount : Stmt := top 32
theorem ok_is_amount {f : Addr} {fd : FuncData} (F : Fun K "is_amount" "is_amount" s_is_amount f fd) (B : Bi mg) (c_is_integer : Cal P w K mg base 1 "is_integer" ["thing"] (spG L gIsInteger)) : FnOk P w K mg base CX0 2 f fd ["thing"] (spG L gIsAmount) := by
  refine def_ok (N := ["thing"]) F ⟨rfl, rfl, rfl, by decide +kernel, rfl, by decide +kernel, by decide +kernel⟩ (by decide) (fun _ _ h => by cases h; rfl) fun cdv A outer s H E hr rs Pq h => ?_
  have nd : (["thing"] : List Str).Nodup := by decide +kernel
  cases h with
  | mk i h =>
    refine xs_retE (xe_and (xe_call c_is_integer (hr.mono (by decide)) (xa_cons (xv 0) xa_nil) (gIsInteger.mk _)) (fun _ => xe_one (xe_ge (xv 0) xe_int))) ?_
    show Rep.d (.bl (true && decide (0 ≤ i))) = _
    rw [decide_eq_true h]
    rfl
abbrev s_is_gate : Stmt := top 33
theorem ok_is_gate {f : Addr} {fd : FuncData} (F : Fun K "is_gate" "is_gate" s_is_gate f fd) (B : Bi mg) (c_is_integer : Cal P w K mg base 1 "is_integer" ["thing"] (spG L gIsInteger)) (c_is_amount : Cal P w K mg base 2 "is_amount" ["thing"] (spG L gIsAmount)) : FnOk P w K mg base CX0 3 f fd ["thing"] (spG L gIsGate) := by
  refine def_ok (N := ["thing"]) F ⟨rfl, rfl, rfl, by decide +kernel, rfl, by decide +kernel, by decide +kernel⟩ (by decide) (fun _ _ h => by cases h; rfl) fun cdv A outer s H E hr rs Pq h => ?_
  have nd : (["thing"] : List Str).Nodup := by decide +kernel
  cases h with
  | mk g h =>
    cases g with
    | moved n => exact xs_if (xt_eq (xe_lenT (xv 0) B.len) xe_int (.int _ _)) (fun z => by cases z) (fun _ => xs_nil (xs_if (xt_ne (xe_lenT (xv 0) B.len) xe_int (.int _ _)) (fun z => by cases z) (fun _ => xs_nil (xs_if (xt_eq (xe_ixT (xv 0) xe_int rfl) xe_str (.str _ _)) (fun _ => xs_retE (xe_call c_is_integer (hr.mono (by decide)) (xa_cons (xe_ixT (xv 0) xe_int rfl) xa_nil) (gIsInteger.mk _)) rfl) (fun z => by cases z)))))
    | on n => exact xs_if (xt_eq (xe_lenT (xv 0) B.len) xe_int (.int _ _)) (fun z => by cases z) (fun _ => xs_nil (xs_if (xt_ne (xe_lenT (xv 0) B.len) xe_int (.int _ _)) (fun z => by cases z) (fun _ => xs_nil (xs_if (xt_eq (xe_ixT (xv 0) xe_int rfl) xe_str (.str _ _)) (fun z => by cases z) (fun _ => xs_nil
        (xs_retE (xe_and (xe_isi (xe_ixT (xv 0) xe_int rfl) rfl (T := "str") (by decide) B.isi B.str) (fun _ => xe_and (xe_inS (ys := ["on", "off"]) (xe_ixT (xv 0) xe_int rfl) (xe_tup (ds := [.str "on", .str "off"]) (xa_cons xe_str (xa_cons xe_str xa_nil)))) (fun _ => xe_one (xe_call c_is_amount (hr.mono (by decide)) (xa_cons (xe_ixT (xv 0) xe_int rfl) xa_nil) (gIsAmount.mk _ h))))) (by rfl)))))))
    | off n => exact xs_if (xt_eq (xe_lenT (xv 0) B.len) xe_int (.int _ _)) (fun z => by cases z) (fun _ => xs_nil (xs_if (xt_ne (xe_lenT (xv 0) B.len) xe_int (.int _ _)) (fun z => by cases z) (fun _ => xs_nil (xs_if (xt_eq (xe_ixT (xv 0) xe_int rfl) xe_str (.str _ _)) (fun z => by cases z) (fun _ => xs_nil
        (xs_retE (xe_and (xe_isi (xe_ixT (xv 0) xe_int rfl) rfl (T := "str") (by decide) B.isi B.str) (fun _ => xe_and (xe_inS (ys := ["on", "off"]) (xe_ixT (xv 0) xe_int rfl) (xe_tup (ds := [.str "on", .str "off"]) (xa_cons xe_str (xa_cons xe_str xa_nil)))) (fun _ => xe_one (xe_call c_is_amount (hr.mono (by decide)) (xa_cons (xe_ixT (xv 0) xe_int rfl) xa_nil) (gIsAmount.mk _ h))))) (by rfl)))))))
abbrev s_is_row_of : Stmt := top 35
theorem ok_is_row_of {f : Addr} {fd : FuncData} (F : Fun K "is_row_of" "is_row_of" s_is_row_of f fd) (B : Bi mg) (c_is_gate : Cal P w K mg base 3 "is_gate" ["thing"] (spG L gIsGate)) : FnOk P w K mg base CX0 4 f fd ["thing", "deep"] (spG L gIsRowOf) := by
  refine def_ok (N := ["thing", "deep", "part"]) F ⟨rfl, rfl, rfl, by decide +kernel, rfl, by decide +kernel, by decide +kernel⟩ (by decide) (fun _ _ h => by cases h; rfl) fun cdv A outer s H E hr rs Pq h => ?_
  have nd : (["thing", "deep", "part"] : List Str).Nodup := by decide +kernel
  cases h with
  | mk gs n h hl =>
    refine xs_if (xt_w (xw_or (xt_not (xt_val (xe_isi (xv 0) rfl (T := "tuple") (by decide) B.isi B.tuple))) (fun _ => xw_or1 (xt_not (xt_val (xe_allT (xe_lc (fun _ => .bl true) (own := [("part", 2)]) (xi_tup (xv 0)) (blkOk_by (N := ["thing", "deep", "part"]) (sc := defScope s_is_row_of) (by decide +kernel)) (fun _ _ _ _ _ => pg_name (i := 2) nd rfl (Or.inl rfl)) (fun d hd => ⟨_, evgw_name (by decide), fun s H1 C cl fp => ?_⟩) (by rw [List.length_map]; omega)) B.all)))))) (fun z => by cases z) (fun _ => xs_nil ?_)
    · obtain ⟨g, _, rfl⟩ := List.mem_map.mp hd
      refine XE.is (xe_isi (d := gD g) (xv 2) (by cases g <;> rfl) (T := "tuple") (by decide) B.isi B.tuple) ?_
      cases g <;> rfl
    · refine xs_retE (xe_allT (xe_lc (fun _ => .bl true) (own := [("part", 2)]) (xi_tup (xv 0)) (blkOk_by (N := ["thing", "deep", "part"]) (sc := defScope s_is_row_of) (by decide +kernel)) (fun _ _ _ _ _ => pg_name (i := 2) nd rfl (Or.inl rfl)) (fun d hd => ⟨_, evgw_name (by decide), fun s H1 C cl fp => ?_⟩) (by rw [List.length_map]; omega)) B.all) rfl
      obtain ⟨g, hg, rfl⟩ := List.mem_map.mp hd
      exact xe_or (q := true) (xe_call c_is_gate (hr.mono (by decide)) (xa_cons (xv 2) xa_nil) (gIsGate.mk g (h g hg))) (fun z => by cases z)
abbrev s_is_told_row : Stmt := top 36
theorem ok_is_told_row {f : Addr} {fd : FuncData} (F : Fun K "is_told_row" "is_told_row" s_is_told_row f fd) (B : Bi mg) (c_is_row_of : Cal P w K mg base 4 "is_row_of" ["thing", "deep"] (spG L gIsRowOf)) {t6 : Tok} (m6 : mg "MOST_DEEP" = some (.int 6 t6)) : FnOk P w K mg base CX0 5 f fd ["thing"] (spG L gIsToldRow) := by
  refine def_ok (N := ["thing"]) F ⟨rfl, rfl, rfl, by decide +kernel, rfl, by decide +kernel, by decide +kernel⟩ (by decide) (fun _ _ h => by cases h; rfl) fun cdv A outer s H E hr rs Pq h => ?_
  have nd : (["thing"] : List Str).Nodup := by decide +kernel
  cases h with
  | mk gs h hl => exact xs_retE (xe_call c_is_row_of (hr.mono (by decide)) (xa_cons (xv 0) (xa_cons (xe_glob m6) xa_nil)) (gIsRowOf.mk _ _ h hl)) rfl
abbrev s_check_row : Stmt := top 37
theorem ok_check_row {f : Addr} {fd : FuncData} (F : Fun K "check_row" "check_row" s_check_row f fd) (B : Bi mg) (c_is_told_row : Cal P w K mg base 5 "is_told_row" ["thing"] (spG L gIsToldRow)) : FnOk P w K mg base CX0 6 f fd ["thing"] (spG L gCheckRow) := by
  refine def_ok (N := ["thing"]) F ⟨rfl, rfl, rfl, by decide +kernel, rfl, by decide +kernel, by decide +kernel⟩ (by decide) (fun _ _ h => by cases h; rfl) fun cdv A outer s H E hr rs Pq h => ?_
  have nd : (["thing"] : List Str).Nodup := by decide +kernel
  cases h with
  | mk gs h hl => exact xs_if (xt_not (xt_val (xe_call c_is_told_row (hr.mono (by decide)) (xa_cons (xv 0) xa_nil) (gIsToldRow.mk _ h hl)))) (fun z => by cases z) (fun _ => xs_nil (xs_nil rfl))
abbrev s_late_by : Stmt := top 38
theorem ok_late_by {f : Addr} {fd : FuncData} (F : Fun K "late_by" "late_by" s_late_by f fd) (B : Bi mg)  : FnOk P w K mg base CX0 1 f fd ["gate"] (spG L gLateBy) := by
  refine def_ok (N := ["gate"]) F ⟨rfl, rfl, rfl, by decide +kernel, rfl, by decide +kernel, by decide +kernel⟩ (by decide) (fun _ _ h => by cases h; rfl) fun cdv A outer s H E hr rs Pq h => ?_
  have nd : (["gate"] : List Str).Nodup := by decide +kernel
  cases h with
  | mk g =>
    cases g with
    | moved n => exact xs_if (xt_eq (xe_ixT (xv 0) xe_int rfl) xe_str (.str _ _)) (fun z => by cases z) (fun _ => xs_nil (xs_if (xt_eq (xe_ixT (xv 0) xe_int rfl) xe_str (.str _ _)) (fun _ => xs_retE (xe_tup (ds := [.int n, .int n]) (xa_cons (xe_ixT (xv 0) xe_int rfl) (xa_cons (xe_ixT (xv 0) xe_int rfl) xa_nil))) rfl) (fun z => by cases z)))
    | on n => exact xs_if (xt_eq (xe_ixT (xv 0) xe_int rfl) xe_str (.str _ _)) (fun z => by cases z) (fun _ => xs_nil (xs_if (xt_eq (xe_ixT (xv 0) xe_int rfl) xe_str (.str _ _)) (fun z => by cases z) (fun _ => xs_nil
        (xs_retE (xe_if (r := .d (.tup [.int n, .int 0])) (xt_eq (xe_ixT (xv 0) xe_int rfl) xe_str (.str _ _)) (fun _ => xe_tup (ds := [.int n, .int 0]) (xa_cons (xe_ixT (xv 0) xe_int rfl) (xa_cons xe_int xa_nil))) (fun z => by cases z)) rfl))))
    | off n => exact xs_if (xt_eq (xe_ixT (xv 0) xe_int rfl) xe_str (.str _ _)) (fun z => by cases z) (fun _ => xs_nil (xs_if (xt_eq (xe_ixT (xv 0) xe_int rfl) xe_str (.str _ _)) (fun z => by cases z) (fun _ => xs_nil
        (xs_retE (xe_if (r := .d (.tup [.int 0, .int n])) (xt_eq (xe_ixT (xv 0) xe_int rfl) xe_str (.str _ _)) (fun z => by cases z) (fun _ => xe_tup (ds := [.int 0, .int n]) (xa_cons xe_int (xa_cons (xe_ixT (xv 0) xe_int rfl) xa_nil)))) rfl))))
abbrev s_sums_of : Stmt := top 39
theorem ok_sums_of {f : Addr} {fd : FuncData} (F : Fun K "sums_of" "sums_of" s_sums_of f fd) (B : Bi mg) (c_late_by : Cal P w K mg base 1 "late_by" ["gate"] (spG L gLateBy)) : FnOk P w K mg base CX0 2 f fd ["row"] (spG L gSumsOf) := by
  refine def_ok (N := ["row", "on_sum", "off_sum", "part", "many", "mine"]) F ⟨rfl, rfl, rfl, by decide +kernel, rfl, by decide +kernel, by decide +kernel⟩ (by decide) (fun _ _ h => by cases h; rfl) fun cdv A outer s H E hr rs Pq h => ?_
  have nd : (["row", "on_sum", "off_sum", "part", "many", "mine"] : List Str).Nodup := by decide +kernel
  cases h with
  | mk gs =>
    refine xs_set (i := 1) xe_int (xs_set (i := 2) xe_int ?_)
    refine xs_for (xi_tup (xv 0)) (pg_name (i := 3) nd rfl (Or.inl rfl)) (fun ds i ρ' => ∃ a b x y z, ρ' = [some (.d (rowD gs)), some (.d (.int a)), some (.d (.int b)), x, y, z] ∧ a = sumA (gs.take i) ∧ b = sumB (gs.take i)) (fun ds hd => ⟨0, 0, none, none, none, rfl, rfl, rfl⟩) ?_ ?_
    · rintro ds i d ρ1 rfl hd ⟨a, b, x, y, z, rfl, ea, eb⟩
      rw [List.getElem?_map] at hd
      cases hg : gs[i]? with
      | none => rw [hg] at hd; cases hd
      | some g =>
        rw [hg] at hd
        cases hd
        have nt : ∃ s r, gD g = .tup (.str s :: r) ∧ decide (s = "times") = false := by cases g <;> exact ⟨_, _, rfl, by decide +kernel⟩
        obtain ⟨s1, r1, eg, es⟩ := nt
        refine ⟨_, evg_name, xs_set (i := 4) xe_int (xs_set (i := 5) (xe_tup (ds := [.int 0, .int 0]) (xa_cons xe_int (xa_cons xe_int xa_nil))) (xs_if (xt_eq (xe_ixT (ds := .str s1 :: r1) ((xv 3).is (by rw [← eg])) xe_int atI_zero) xe_str (.str _ _)) (fun z => by rw [es] at z; cases z) (fun _ => xs_set (i := 5) (xe_call c_late_by (hr.mono (by decide)) (xa_cons (xv 3) xa_nil) (gLateBy.mk g)) (xs_nil ?_))))⟩
        refine xs_augAdd (i := 1) rfl (xe_mul (xv 4) (xe_ixT (xv 5) xe_int rfl) (.inl ⟨by decide, by decide⟩)) (xs_augAdd (i := 2) rfl (xe_mul (xv 4) (xe_ixT (xv 5) xe_int rfl) (.inl ⟨by decide, by decide⟩)) (xs_nil ⟨_, _, _, _, _, rfl, ?_, ?_⟩))
        · rw [ea, take_snoc hg]
          unfold sumA
          rw [List.map_append, List.sum_append]
          simp
        · rw [eb, take_snoc hg]
          unfold sumB
          rw [List.map_append, List.sum_append]
          simp
    · rintro ds ρ1 rfl ⟨a, b, x, y, z, rfl, ea, eb⟩
      rw [List.length_map, List.take_length] at ea eb
      subst ea eb
      exact xs_retE (xe_tup (ds := [.int (sumA gs), .int (sumB gs)]) (xa_cons (xv 1) (xa_cons (xv 2) xa_nil))) rfl
abbrev s_height_in : Stmt := top 44
theorem ok_height_in {f : Addr} {fd : FuncData} (F : Fun K "height_in" "height_in" s_height_in f fd) (B : Bi mg)  : FnOk P w K mg base CX0 1 f fd ["ladder"] (spG L gHeightIn) := by
  refine def_ok (N := ["ladder", "word", "many"]) F ⟨rfl, rfl, rfl, by decide +kernel, rfl, by decide +kernel, by decide +kernel⟩ (by decide) (fun _ _ h => by cases h; rfl) fun cdv A outer s H E hr rs Pq h => ?_
  have nd : (["ladder", "word", "many"] : List Str).Nodup := by decide +kernel
  cases h with
  | mk l hl =>
    refine xs_retE (xe_sumL (ns := (l.filter fun r => r.1).map (·.2)) ?_ B.sum) rfl
    refine XE.rd (XE.is (xe_lcIf (fun d => match d with | .tup [.str s, _] => decide (s = "up") | _ => false) (fun d => match d with | .tup [_, .int n] => .int n | _ => .non) (g := g2 K 1 2) (own := [("word", 1), ("many", 2)]) (xi_tup (xv 0)) (blkOk_by (N := ["ladder", "word", "many"]) (sc := defScope s_height_in) (by decide +kernel)) (by intro _ _ _ _ _; apply pg_two (i := 1) (j := 2) nd <;> first | rfl | exact Or.inl rfl | exact Or.inr rfl) (fun d hd => ?_) (by rw [List.length_map]; omega)) ?_)
    · obtain ⟨r, _, rfl⟩ := List.mem_map.mp hd
      exact ⟨_, evgw_tup2 (K := K) (by decide) (by decide), fun s H1 C cl fp => xt_eq (xv 1) xe_str (.str _ _), fun _ s H1 C cl fp => xv 2⟩
    · rw [List.filter_map, List.map_map, List.map_map]
      congr 2
      apply List.filter_congr
      intro r _
      exact wd_up r.1
abbrev s_depth_in : Stmt := top 45
theorem ok_depth_in {f : Addr} {fd : FuncData} (F : Fun K "depth_in" "depth_in" s_depth_in f fd) (B : Bi mg)  : FnOk P w K mg base CX0 1 f fd ["ladder"] (spG L gDepthIn) := by
  refine def_ok (N := ["ladder", "word", "many"]) F ⟨rfl, rfl, rfl, by decide +kernel, rfl, by decide +kernel, by decide +kernel⟩ (by decide) (fun _ _ h => by cases h; rfl) fun cdv A outer s H E hr rs Pq h => ?_
  have nd : (["ladder", "word", "many"] : List Str).Nodup := by decide +kernel
  cases h with
  | mk l hl =>
    refine xs_retE (xe_sumL (ns := (l.filter fun r => !r.1).map (·.2)) ?_ B.sum) rfl
    refine XE.rd (XE.is (xe_lcIf (fun d => match d with | .tup [.str s, _] => decide (s = "down") | _ => false) (fun d => match d with | .tup [_, .int n] => .int n | _ => .non) (g := g2 K 1 2) (own := [("word", 1), ("many", 2)]) (xi_tup (xv 0)) (blkOk_by (N := ["ladder", "word", "many"]) (sc := defScope s_depth_in) (by decide +kernel)) (by intro _ _ _ _ _; apply pg_two (i := 1) (j := 2) nd <;> first | rfl | exact Or.inl rfl | exact Or.inr rfl) (fun d hd => ?_) (by rw [List.length_map]; omega)) ?_)
    · obtain ⟨r, _, rfl⟩ := List.mem_map.mp hd
      exact ⟨_, evgw_tup2 (K := K) (by decide) (by decide), fun s H1 C cl fp => xt_eq (xv 1) xe_str (.str _ _), fun _ s H1 C cl fp => xv 2⟩
    · rw [List.filter_map, List.map_map, List.map_map]
      congr 2
      apply List.filter_congr
      intro r _
      exact wd_down r.1
abbrev s_is_rung_run : Stmt := top 46
theorem ok_is_rung_run {f : Addr} {fd : FuncData} (F : Fun K "is_rung_run" "is_rung_run" s_is_rung_run f fd) (B : Bi mg) (c_is_pair : Cal P w K mg base 1 "is_pair" ["thing"] (spG L gIsPair)) (c_is_integer : Cal P w K mg base 1 "is_integer" ["thing"] (spG L gIsInteger)) : FnOk P w K mg base CX0 2 f fd ["thing"] (spG L gIsRungRun) := by
  refine def_ok (N := ["thing"]) F ⟨rfl, rfl, rfl, by decide +kernel, rfl, by decide +kernel, by decide +kernel⟩ (by decide) (fun _ _ h => by cases h; rfl) fun cdv A outer s H E hr rs Pq h => ?_
  have nd : (["thing"] : List Str).Nodup := by decide +kernel
  cases h with
  | mk r h =>
    have hw : (["up", "down"] : List Str).any (fun y => y == wd r.1) = true := by cases r.1 <;> decide +kernel
    refine xs_if (xt_w (xw_or (xt_not (xt_val (xe_call c_is_pair (hr.mono (by decide)) (xa_cons (xv 0) xa_nil) (gIsPair.mk _ _)))) (fun _ => xw_or (xt_not (xt_val (xe_isi (xe_ixT (xv 0) xe_int rfl) rfl (T := "str") (by decide) B.isi B.str))) (fun _ => xw_or1 (xt_notinS (ys := ["up", "down"]) (xe_ixT (xv 0) xe_int rfl) (xe_tup (ds := [.str "up", .str "down"]) (xa_cons xe_str (xa_cons xe_str xa_nil)))))))) (fun z => ?_) (fun _ => xs_nil ?_)
    · rw [hw] at z
      cases z
    · refine xs_retE (xe_and (xe_call c_is_integer (hr.mono (by decide)) (xa_cons (xe_ixT (xv 0) xe_int rfl) xa_nil) (gIsInteger.mk _)) (fun _ => xe_one (xe_ge (xe_ixT (xv 0) xe_int rfl) xe_int))) ?_
      show Rep.d (.bl (true && decide (1 ≤ r.2))) = _
      rw [decide_eq_true h]
      rfl
abbrev s_is_ladder : Stmt := top 47
theorem ok_is_ladder {f : Addr} {fd : FuncData} (F : Fun K "is_ladder" "is_ladder" s_is_ladder f fd) (B : Bi mg) (c_is_rung_run : Cal P w K mg base 2 "is_rung_run" ["thing"] (spG L gIsRungRun)) : FnOk P w K mg base CX0 3 f fd ["thing"] (spG L gIsLadder) := by
  refine def_ok (N := ["thing", "run", "at"]) F ⟨rfl, rfl, rfl, by decide +kernel, rfl, by decide +kernel, by decide +kernel⟩ (by decide) (fun _ _ h => by cases h; rfl) fun cdv A outer s H E hr rs Pq h => ?_
  have nd : (["thing", "run", "at"] : List Str).Nodup := by decide +kernel
  cases h with
  | mk l h hl =>
    refine xs_if (xt_w (xw_or (xt_not (xt_val (xe_isi (xv 0) rfl (T := "tuple") (by decide) B.isi B.tuple))) (fun _ => xw_or1 (xt_not (xt_val (xe_allT (xe_lc (fun _ => .bl true) (own := [("run", 1)]) (xi_tup (xv 0)) (blkOk_by (N := ["thing", "run", "at"]) (sc := defScope s_is_ladder) (by decide +kernel)) (fun _ _ _ _ _ => pg_name (i := 1) nd rfl (Or.inl rfl)) (fun d hd => ⟨_, evgw_name (by decide), fun s H1 C cl fp => ?_⟩) (by rw [List.length_map]; omega)) B.all)))))) (fun z => by cases z) (fun _ => xs_nil ?_)
    · obtain ⟨r, hr', rfl⟩ := List.mem_map.mp hd
      exact xe_call c_is_rung_run (hr.mono (by decide)) (xa_cons (xv 1) xa_nil) (gIsRungRun.mk r (h.1 r hr'))
    · refine xs_retE (xe_allT (ds := rng 1 ((l.length : Int) - 1).toNat) (xe_lc (fun _ => .bl true) (own := [("at", 2)]) (xi_rng2 (hi := (l.length : Int)) xe_int ((xe_lenT (xv 0) B.len).is (by rw [List.length_map])) (by omega) B.range) (blkOk_by (N := ["thing", "run", "at"]) (sc := defScope s_is_ladder) (by decide +kernel))
        (fun _ _ _ _ _ => pg_name (i := 2) nd rfl (Or.inl rfl)) (fun d hd => ⟨_, evgw_name (by decide), fun s H1 C cl fp => ?_⟩) (by rw [rng_len]; omega)) B.all) rfl
      obtain ⟨k, hk⟩ := List.getElem?_of_mem hd
      obtain ⟨h1, rfl⟩ := rng_get hk
      have h2 : k + 1 < l.length := by omega
      have e1 : atI (l.map rgD) (1 + (k : Int) - 1) = some (rgD l[k]) := by
        rw [show (1 + (k : Int) - 1) = (k : Int) by omega]
        exact atI_mapF (List.getElem?_eq_getElem (by omega))
      have e2 : atI (l.map rgD) (1 + (k : Int)) = some (rgD l[k + 1]) := by
        rw [show (1 + (k : Int)) = ((k + 1 : Nat) : Int) by omega]
        exact atI_mapF (List.getElem?_eq_getElem h2)
      refine XE.is (xe_ne (xe_ixT (xe_ixT (xv 0) (xe_sub (xv 2) xe_int) e1) xe_int rfl) (xe_ixT (xe_ixT (xv 0) (xv 2) e2) xe_int rfl) (.str _ _)) ?_
      have ne := h.2 k l[k] l[k + 1] (by simp) (by simp)
      have nw : ¬ wd l[k].1 = wd l[k + 1].1 := by
        revert ne
        cases l[k].1 <;> cases l[k + 1].1 <;> first | (intro ne; exact absurd rfl ne) | (intro _; decide +kernel)
      rw [decide_eq_false nw]
      rfl
abbrev s_is_told_shape : Stmt := top 49
theorem ok_is_told_shape {f : Addr} {fd : FuncData} (F : Fun K "is_told_shape" "is_told_shape" s_is_told_shape f fd) (B : Bi mg) (c_is_triple : Cal P w K mg base 1 "is_triple" ["thing"] (spG L gIsTriple)) (c_is_integer : Cal P w K mg base 1 "is_integer" ["thing"] (spG L gIsInteger)) (c_is_ladder : Cal P w K mg base 3 "is_ladder" ["thing"] (spG L gIsLadder)) (c_depth_in : Cal P w K mg base 1 "depth_in" ["ladder"] (spG L gDepthIn)) (c_height_in : Cal P w K mg base 1 "height_in" ["ladder"] (spG L gHeightIn)) : FnOk P w K mg base CX0 4 f fd ["thing"] (spG L gIsToldShape) := by
  refine def_ok (N := ["thing"]) F ⟨rfl, rfl, rfl, by decide +kernel, rfl, by decide +kernel, by decide +kernel⟩ (by decide) (fun _ _ h => by cases h; rfl) fun cdv A outer s H E hr rs Pq h => ?_
  have nd : (["thing"] : List Str).Nodup := by decide +kernel
  cases h with
  | mk l h hl hu hd =>
    refine xs_if (xt_w (xw_or (xt_not (xt_val (xe_call c_is_triple (hr.mono (by decide)) (xa_cons (xv 0) xa_nil) (gIsTriple.mk _ _ _)))) (fun _ => xw_or (xt_not (xt_val (xe_call c_is_integer (hr.mono (by decide)) (xa_cons (xe_ixT (xv 0) xe_int rfl) xa_nil) (gIsInteger.mk _)))) (fun _ => xw_or (xt_not (xt_val (xe_call c_is_integer (hr.mono (by decide)) (xa_cons (xe_ixT (xv 0) xe_int rfl) xa_nil) (gIsInteger.mk _)))) (fun _ => xw_or1 (xt_not (xt_val (xe_call c_is_ladder (hr.mono (by decide)) (xa_cons (xe_ixT (xv 0) xe_int rfl) xa_nil) (gIsLadder.mk _ h hl))))))))) (fun z => by cases z) (fun _ => xs_nil ?_)
    refine xs_retE (xe_chainLe (xe_neg (xe_call c_depth_in (hr.mono (by decide)) (xa_cons (xe_ixT (xv 0) xe_int rfl) xa_nil) (gDepthIn.mk _ hl))) (xe_sub (xe_ixT (xv 0) xe_int rfl) (xe_ixT (xv 0) xe_int rfl)) (xe_call c_height_in (hr.mono (by decide)) (xa_cons (xe_ixT (xv 0) xe_int rfl) xa_nil) (gHeightIn.mk _ hl))) ?_
    show Rep.d (.bl (decide (-(downs l) ≤ (0 : Int) - 0 ∧ (0 : Int) - 0 ≤ ups l))) = _
    rw [(decide_eq_true (by omega))]
abbrev s_check_shape : Stmt := top 50
theorem ok_check_shape {f : Addr} {fd : FuncData} (F : Fun K "check_shape" "check_shape" s_check_shape f fd) (B : Bi mg) (c_is_told_shape : Cal P w K mg base 4 "is_told_shape" ["thing"] (spG L gIsToldShape)) : FnOk P w K mg base CX0 5 f fd ["thing"] (spG L gCheckShape) := by
  refine def_ok (N := ["thing"]) F ⟨rfl, rfl, rfl, by decide +kernel, rfl, by decide +kernel, by decide +kernel⟩ (by decide) (fun _ _ h => by cases h; rfl) fun cdv A outer s H E hr rs Pq h => ?_
  have nd : (["thing"] : List Str).Nodup := by decide +kernel
  cases h with
  | mk l h hl hu hd => exact xs_if (xt_not (xt_val (xe_call c_is_told_shape (hr.mono (by decide)) (xa_cons (xv 0) xa_nil) (gIsToldShape.mk _ h hl hu hd)))) (fun z => by cases z) (fun _ => xs_nil (xs_nil rfl))
abbrev s_gate_to : Stmt := top 52
theorem ok_gate_to {f : Addr} {fd : FuncData} (F : Fun K "gate_to" "gate_to" s_gate_to f fd) (B : Bi mg)  : FnOk P w K mg base CX0 1 f fd ["lead", "goal"] (spG L gGateTo) := by
  refine def_ok (N := ["lead", "goal"]) F ⟨rfl, rfl, rfl, by decide +kernel, rfl, by decide +kernel, by decide +kernel⟩ (by decide) (fun _ _ h => by cases h; rfl) fun cdv A outer s H E hr rs Pq h => ?_
  have nd : (["lead", "goal"] : List Str).Nodup := by decide +kernel
  cases h with
  | mk a b =>
    refine xs_retE (xe_if (r := .d (gD (gateTo a b))) (xt_gt (xv 1) (xv 0)) (fun z => ?_) (fun z => ?_)) rfl
    · have q : gateTo a b = .off (b - a) := if_pos (of_decide_eq_true z)
      rw [q]
      exact xe_tup (ds := [.str "off", .int (b - a)]) (xa_cons xe_str (xa_cons (xe_sub (xv 1) (xv 0)) xa_nil))
    · have q : gateTo a b = .on (a - b) := if_neg (of_decide_eq_false z)
      rw [q]
      exact xe_tup (ds := [.str "on", .int (a - b)]) (xa_cons xe_str (xa_cons (xe_sub (xv 0) (xv 1)) xa_nil))
end
end Pg
set_option maxHeartbeats 2880000
-- Hr1
/-! Hr1: enumerate over a tuple. -/
namespace Hr
open PySem PySem.Spec PyProof.Rows L2 Dl
/-- behind the making: the walked thing's iterator o, then the enumerate object -/
abbrev enumO (I : Addr) : Obj := { cls := .type "enumerate", data := .fields #[.none, .bool false, .ref I, rawInt 0, .none, .none] }
set_option maxHeartbeats 5000000 in
theorem meets_enum1 {v : Value} {o : Obj} {Hc : Heap → Prop} (B : Begins v o Hc) :
    Meets (Builtin.«enumerate.__new__» ⟨[.type "enumerate", v], []⟩) (fun _ R s => Hc s.heap ∧ R (.ok (.ret (.ref (s.heap.push o).objs.size))) { s with heap := (s.heap.push o).push (enumO s.heap.objs.size) }) :=
  .of_wp fun P1 w1 A1 R1 s0 h0 => by
    obtain ⟨hp, gn, dr, tk, os⟩ := s0
    have su := sub_enumerate
    have it1 : ∀ {A2 : Around} {E2 Q2 : Value → Shared → Prop}, Q2 (.ref hp.objs.size) ⟨hp.push o, gn, dr, tk, os⟩ → wpAny (model P1 w1) A2 (pyIter v) Q2 E2 ⟨hp, gn, dr, tk, os⟩ := B.iter P1 w1 _ _ ⟨hp, gn, dr, tk, os⟩ _ h0.1
    have last := h0.2
    wp_walk using it1
    refine wpAny_stack_any (fun _ => wpAny_pure ?_)
    split
    · rename_i cl _ _ _ _ _
      rcases Bool.eq_false_or_eq_true (cl == .type "enumerate") with y | y <;> rw [y]
      · wp_walk using it1
        exact ⟨_, rfl, last⟩
      · wp_walk using it1
        exact ⟨_, rfl, last⟩
    · wp_walk using it1
      exact ⟨_, rfl, last⟩
theorem call_enum1 {P : Program} {w : World} {A : Around} {E Q : Value → Shared → Prop} {s : Shared} {v : Value} {o : Obj} {Hc : Heap → Prop} (B : Begins v o Hc) (hc : Hc s.heap)
    (k : ∀ g, IsEnum g (s.heap.objs.size + 1) s.heap.objs.size 0 .none → g.get? s.heap.objs.size = some o → (∀ b u, s.heap.get? b = some u → g.get? b = some u) → Q (.ref (s.heap.objs.size + 1)) { s with heap := g }) :
    wpAny (model P w) A (call (.type "enumerate") [v]) Q E s := by
  have nx : (s.heap.push o).objs.size = s.heap.objs.size + 1 := by rw [Heap.size_push]
  have en : IsEnum ((s.heap.push o).push (enumO s.heap.objs.size)) (s.heap.objs.size + 1) s.heap.objs.size 0 .none := by
    rw [← nx]
    refine Heap.get?_push_size _ ?_
    rfl
  apply callType_new F.called_enumerate (by decide) (F.typeCall_enumerate_1 _) (F.newCall_enumerate_1 _) (fun x => F.args_object_init_2 x _) F.entry_enumerate_new (meets_enum1 B)
  refine ⟨hc, (?_ : _ ∧ _)⟩
  rw [nx]
  exact ⟨⟨_, en, rfl⟩, k _ en (Heap.get?_push_of_some _ (Heap.get?_push_size _ B.free)) fun b u q => Heap.get?_push_of_some _ (Heap.get?_push_of_some _ q)⟩
/-- the tuple at a, each item in a new pair -/
def Iet (K : PySem.W.Frag) (a : Addr) : It :=
  ⟨fun i H => ∃ (xs : List V) (x : V), SqT K H a xs ∧ xs[i]? = some x, fun i H v H' => ∃ T x, v = .ref T ∧ H T = none ∧ H' = upd H T (.tup [.int (i : Nat), x]) ∧ ∀ xs, SqT K H a xs → xs[i]? = some x, fun i H => ∃ xs : List V, SqT K H a xs ∧ xs.length ≤ i⟩
/-- where the walk stands: the enumerate object at e, the tuple's iterator at j -/
def StE (a e j : Addr) (i : Nat) (g : Heap) : Prop := (∃ z, IsEnum g e j ((i : Nat) : Int) z) ∧ g.IsTupleIter j a i ∧ e ≠ j
theorem two_of {b e j : Addr} (h : b ∈ [e, j]) : b = e ∨ b = j := by
  rcases List.mem_cons.mp h with y | y
  · exact .inl y
  · exact .inr (List.mem_singleton.mp y)
theorem turn_enumT {P : Program} {w : World} {K : PySem.W.Frag} {elts : List Expr} {kk : Nat} {tpos : Pos} (a e j : Addr) : Turn P w K (.Tuple elts kk tpos) (Iet K a) [e, j] e (StE a e j) where
  mem := List.mem_cons_self
  obj := fun i g st b hb => by
    rcases two_of hb with rfl | rfl
    · obtain ⟨z, q⟩ := st.1
      exact ⟨_, q, fun _ y => nomatch y⟩
    · obtain ⟨o, q1, _, q2⟩ := st.2.1
      exact ⟨o, q1, fun y q3 => by rw [q2] at q3; cases q3⟩
  keep := fun i g g' st kp => by
    obtain ⟨⟨z, en⟩, ti, ne⟩ := st
    exact ⟨⟨z, kp e List.mem_cons_self _ en⟩, ti.at fun o q => kp j (List.mem_cons_of_mem _ List.mem_cons_self) o q, ne⟩
  item := by
    intro X eP ew eK cm i pins s σ H E J fp st gt
    subst eP ew eK
    obtain ⟨⟨z0, en⟩, ti, ne⟩ := st
    obtain ⟨xs, x, tq, xi⟩ := gt
    obtain ⟨us, ru, tup, _⟩ := J.tuple tq
    have tup : s.heap.IsTuple a us.toArray := tup
    obtain ⟨u, iu, rx⟩ := ru.get xi
    have le := Heap.lt_size en
    have lj : j < s.heap.objs.size := let ⟨_, q, _⟩ := ti; Heap.lt_size q
    have naj : a ≠ j := by
      rintro rfl
      obtain ⟨o1, a1, c1, _⟩ := tup
      obtain ⟨o2, a2, c2, _⟩ := ti
      rw [a2] at a1
      cases a1
      rw [c2] at c1
      exact absurd c1 (by decide)
    have nea : e ≠ a := by
      rintro rfl
      obtain ⟨o1, a1, c1, _⟩ := tup
      rw [en] at a1
      cases a1
      exact absurd (show Value.type "enumerate" = Value.type "tuple" from c1) (by decide)
    have li : i < us.toArray.size := by
      rw [List.size_toArray]
      exact (List.getElem?_eq_some_iff.mp iu).1
    have hn : X.A.in1.handled = none := J.ok.hd cm
    refine wpAny_pyNext_enum_itemD (Draws.tuple hn j a naj us.toArray) en ⟨ti, tup⟩ li ne (by simp [ne, nea]) fun x2 g tk at2 enD stD pairD szD kpD => ?_
    obtain rfl : x2 = u := by
      have q : us[i]? = some x2 := by simpa using at2
      rw [iu] at q
      injection q with q
      exact q.symm
    refine ⟨_, rfl, wpAny_letOwnedTupleGo_enum (s := { s with heap := g, toks := tk + 1 }) enD fun g2 en2 same => ?_⟩
    have pair2 : g2.get? s.heap.objs.size = some { cls := .type "tuple", data := .seq #[.int i tk, x2] } := (same.2 _ (Nat.ne_of_gt le)).trans pairD
    have okp : ObjOk X.prog X.w (upd H s.heap.objs.size (.tup [.int (i : Nat), x])) g2 s.heap.objs.size (.tup [.int (i : Nat), x]) := ⟨by show 2 ≤ sizeLine; decide, [.int i tk, x2], .cons ⟨_, rfl⟩ (.cons rx .nil), ⟨_, pair2, rfl, _, rfl⟩⟩
    have off : ∀ b u2, b ∉ [e, j] → s.heap.get? b = some u2 → g2.get? b = some u2 := fun b u2 nb q => by
      have n1 : b ≠ e := fun y => nb (by simp [y])
      have n2 : b ≠ j := fun y => nb (by simp [y])
      exact (same.2 b n1).trans (kpD b u2 n1 (fun y => nb (by simpa using .inr y)) q)
    have J2 : Inv X pins σ (upd H s.heap.objs.size (.tup [.int (i : Nat), x])) { s with heap := g2, toks := tk + 1 } := J.turnedNew off fp (Nat.le_refl _) okp
    have fr := J.hok.fresh (Nat.le_refl s.heap.objs.size)
    refine ⟨.ref s.heap.objs.size, _, J2, rfl, ⟨_, x, rfl, fr, rfl, fun ys hy => by rw [J.tuple_inj hy tq]; exact xi⟩, ⟨⟨x2, ?_⟩, stD.1.at fun o q => (same.2 j (Ne.symm ne)).trans q, ne⟩, fun b hb => ?_⟩
    · rw [show ((i + 1 : Nat) : Int) = (i : Int) + 1 from rfl]
      exact en2
    · have lb : b < s.heap.objs.size := by
        rcases two_of hb with rfl | rfl
        · exact le
        · exact lj
      exact (upd_ne (Nat.ne_of_lt lb)).trans (fp b hb).1
  done := by
    intro X eP ew eK cm i pins s σ H E J fp st gt
    subst eP ew eK
    obtain ⟨⟨z0, en⟩, ti, ne⟩ := st
    obtain ⟨xs, tq, lx⟩ := gt
    obtain ⟨us, ru, tup, _⟩ := J.tuple tq
    have tup : s.heap.IsTuple a us.toArray := tup
    obtain ⟨p0, p1, p2, p3, p4, p5⟩ := fp j (List.mem_cons_of_mem _ List.mem_cons_self)
    have lu := ru.length
    have ty : s.TypeIs (.ref e) "enumerate" := ⟨_, en, rfl⟩
    have hn : X.A.in1.handled = none := J.ok.hd cm
    unfold pyNext
    apply wpAny_bind
    apply wpAny_attempt
    refine wpAny_callSpecial?_slot (name := Str.ofString "__next__") ty F.slot_enumerate_next (wpAny_call_entry F.slot_enumerate_next ty F.entry_enumerate_next (?_ : wpAny _ _ (field (.ref e) 2 >>= _) _ _ _) (F.args_enumerate_next_1 _))
    refine wpAny_bind (wpAny_field en rfl (x := .ref j) rfl (wpAny_bind (wpAny_nextOf_tuple_end hn ti tup (by simp; omega) fun g y hg hy => ?_)))
    obtain ⟨oy, y1, y2⟩ := hy
    exact wpAny_bind (wpAny_isInstance (T := "StopIteration") (b := true) ⟨oy, y1, y2⟩ isSubtype_stop (wpAny_pure ⟨rfl, J.turned (t' := s.toks) hg p0 p1 p3 p4 p5⟩))
  self := fun _ _ _ _ _ st k => by
    obtain ⟨⟨_, en⟩, _⟩ := st
    exact wpAny_pyIter_enum en k
def iEnumT (K : PySem.W.Frag) (ta : TA) : TI := fun σ H R => ta σ H fun vs H1 => ∃ a xs, vs = [.ref a] ∧ SqT K H1 a xs ∧ R (Iet K a) H1
theorem pi_enumT {X : Cx} {e : Expr} {ta : TA} {p pos tpos : Pos} {elts : List Expr} {kk : Nat} (hg : Gl X "enumerate") (hm : X.mg "enumerate" = none) (ha : PA X [e] ta) (hs : starEach [e] X.env = [(false, eval e X.env)] := by rfl) :
    PI X (.Tuple elts kk tpos) (.Call (.Name "enumerate" p) [e] [] pos) (iEnumT X.K ta) := by
  constructor
  intro pins s σ H R J h
  refine Call_ (ld_blt J hg hm boot_enumerate (PyProof.Rows.callWith_type1 (thn (ha.run pos pins s σ H _ J h) fun us s1 ⟨vs, H1, J1, rv, q⟩ => ?_) hs rfl))
  obtain ⟨a, xs, rfl, tq, go⟩ := q
  cases rv with
  | cons r rs =>
    cases rs
    cases r
    obtain ⟨its, _, tup, _⟩ := J1.tuple tq
    refine call_enum1 (begins_tuple a its.toArray) tup fun g en ti kp => wpAny_pyIter_enum en ?_
    refine ⟨s1.heap.objs.size + 1, [s1.heap.objs.size + 1, s1.heap.objs.size], _, _, H1, rfl, J1.kept (t' := s1.toks) kp, turn_enumT a _ _, ⟨⟨.none, en⟩, ⟨_, ti, rfl, rfl⟩, Nat.succ_ne_self _⟩, fun b hb => ?_, go⟩
    have above : s1.heap.objs.size ≤ b := by
      rcases two_of hb with rfl | rfl
      · exact Nat.le_succ _
      · exact Nat.le_refl _
    exact J1.fpOk above (J1.hok.fresh above)
/-- numbered items -/
def enumD (ds : List D) : List D := ds.zipIdx.map fun q => .tup [.int (q.2 : Int), q.1]
theorem enumD_len (ds : List D) : (enumD ds).length = ds.length := by unfold enumD; rw [List.length_map, List.length_zipIdx]
theorem enumD_get {ds : List D} {i : Nat} {d : D} (h : (enumD ds)[i]? = some d) : ∃ x, ds[i]? = some x ∧ d = .tup [.int (i : Int), x] := by
  unfold enumD at h
  rw [List.getElem?_map, List.getElem?_zipIdx] at h
  cases e : ds[i]? with
  | none =>
    rw [e] at h
    cases h
  | some x =>
    rw [e] at h
    refine ⟨x, rfl, ?_⟩
    have := Option.some.inj h
    rw [← this]
    simp
theorem walkD_enum {K : PySem.W.Frag} {a : Addr} {vs : List V} {ds : List D} {H1 : Hp} (h1 : H1 a = some (.tup vs)) (h2 : DvA H1 vs ds) : WalkD (Iet K a) (enumD ds) [] H1 := by
  unfold WalkD
  rw [enumD_len, ← h2.length]
  refine ⟨fun i H hi h => ?_, fun H h => ⟨vs, SqT.of (h.1 _ _ h1 rfl), Nat.le_refl _⟩, fun i H x H' hi h y => ?_⟩
  · obtain ⟨v, hv⟩ : ∃ v, vs[i]? = some v := ⟨vs[i], by simp [hi]⟩
    exact ⟨vs, v, SqT.of (h.1 _ _ h1 rfl), hv⟩
  · obtain ⟨T, x', rfl, hT, rfl, hall⟩ := y
    refine ⟨ext_new hT, fun d hd => ?_⟩
    obtain ⟨z, hz, rfl⟩ := enumD_get hd
    obtain ⟨w, w1, w2⟩ := h2.get hz
    have e := hall vs (SqT.of (h.1 _ _ h1 rfl))
    have e2 : w = x' := Option.some.inj (w1.symm.trans e)
    rw [e2] at w2
    have tx : TEx H1 (upd H T (.tup [.int (i : Nat), x'])) := fun b us hb so => ext_new hT _ _ (h.1 _ _ hb so)
    exact Dv.tup upd_same (.cons (Dv.int _) (.cons (Dv.mono tx _ _ w2) .nil))
section
variable {X : Cx} {L : Lay} {ρ : Rho} {a : Expr} {p pos tpos : Pos} {ds : List D} {elts : List Expr} {kk : Nat}
theorem xi_enum (h : XE X L a ρ (.d (.tup ds))) (hm : X.mg "enumerate" = none) (hg : Gl X "enumerate" := by rfl) (hs : starEach [a] X.env = [(false, eval a X.env)] := by rfl) : XI X L (.Tuple elts kk tpos) (.Call (.Name "enumerate" p) [a] [] pos) ρ (fun z => z = enumD ds) :=
  xi_of (pi_enumT hg hm (pa_cons pe_sem pa_nil hs) hs) fun gs H0 H σ R E k => h gs H0 H σ _ E fun r v H1 pr e1 g1 rv => by
    subst pr
    obtain ⟨t, vs, rfl, h1, h2⟩ := rv_tup rv
    exact ⟨t, vs, rfl, SqT.of h1, k _ _ [] H1 rfl e1 g1 (walkD_enum h1 h2) (fun q hq => by cases hq)⟩
end
end Hr
-- Hr2
/-! Hr2: t[0::2], t[1::2], sum of a tuple, t.count(text). -/
namespace Hr
open PySem PySem.Spec PyProof.Rows L2 Dl
def evn {α : Type} : List α → List α
  | [] => []
  | [a] => [a]
  | a :: _ :: r => a :: evn r
theorem evn_pick {α : Type} : ∀ xs : List α, (List.range ((xs.length + 1) / 2)).filterMap (fun m => xs[2 * m]?) = evn xs
  | [] => by simp [evn]
  | [a] => by simp [evn]
  | a :: b :: r => by
    have e : ((a :: b :: r).length + 1) / 2 = (r.length + 1) / 2 + 1 := by simp only [List.length_cons]; omega
    rw [e, List.range_succ_eq_map, List.filterMap_cons]
    simp only [Nat.mul_zero, List.getElem?_cons_zero]
    show _ = a :: evn r
    rw [List.filterMap_map, ← evn_pick r]
    congr 1
theorem evn_len {α : Type} : ∀ xs : List α, (evn xs).length ≤ xs.length
  | [] => Nat.le_refl _
  | [a] => Nat.le_refl _
  | a :: b :: r => by
    have := evn_len r
    simp only [evn, List.length_cons]
    omega
theorem evn_map {α β : Type} (f : α → β) : ∀ xs : List α, evn (xs.map f) = (evn xs).map f
  | [] => rfl
  | [a] => rfl
  | a :: b :: r => by
    simp only [List.map_cons, evn]
    rw [evn_map f r]
/-- xs[lo::2] -/
def pick2 {α : Type} (lo : Nat) (xs : List α) : List α := evn (xs.drop lo)
theorem pick2_raw {α : Type} (lo : Nat) (hlo : lo = 0 ∨ lo = 1) (xs : List α) :
    (List.range (Builtin.Slice.slicePlaces (min (lo : Int) (xs.length : Int)) (xs.length : Int) 2)).filterMap (fun (m : Nat) => xs[(min (lo : Int) (xs.length : Int) + (m : Int) * 2).toNat]?) = pick2 lo xs := by
  rcases hlo with rfl | rfl
  · have h1 : min ((0 : Nat) : Int) (xs.length : Int) = 0 := by omega
    rw [h1]
    have h2 : Builtin.Slice.slicePlaces 0 (xs.length : Int) 2 = (xs.length + 1) / 2 := by
      simp only [Builtin.Slice.slicePlaces, show (2 : Int) > 0 by decide, if_true]
      split <;> omega
    rw [h2]
    unfold pick2
    rw [List.drop_zero, ← evn_pick xs]
    congr 1
    funext m
    have : (0 + (m : Int) * 2).toNat = 2 * m := by omega
    rw [this]
  · cases xs with
    | nil => rfl
    | cons a t =>
      have h1 : min ((1 : Nat) : Int) ((a :: t).length : Int) = 1 := by simp only [List.length_cons]; omega
      rw [h1]
      have h2 : Builtin.Slice.slicePlaces 1 ((a :: t).length : Int) 2 = (t.length + 1) / 2 := by
        simp only [Builtin.Slice.slicePlaces, show (2 : Int) > 0 by decide, if_true, List.length_cons]
        split <;> omega
      rw [h2]
      show _ = evn t
      rw [← evn_pick t]
      congr 1
      funext m
      have : (1 + (m : Int) * 2).toNat = 2 * m + 1 := by omega
      rw [this]
      rfl
section
variable {s : Shared} {P : Program} {w : World} {A : Around} {E : Value → Shared → Prop}
/-- first, step, how many, of [lo::2] over n items -/
theorem places2 {j : Addr} {lo n : Nat} {t1 t2 : Tok} {Q : Int × Int × Nat → Shared → Prop} (sl : s.heap.IsSliceOf j (.int (lo : Int) t1) .none (.int 2 t2))
    (k : Q (min (lo : Int) (n : Int), 2, Builtin.Slice.slicePlaces (min (lo : Int) (n : Int)) (n : Int) 2) s) : wpAny (model P w) A (Builtin.Slice.sliceApplied (.ref j) (pure (n : Int))) Q E s := by
  have adj : Builtin.Slice.sliceAdjust (some (lo : Int)) none 2 (n : Int) = (min (lo : Int) (n : Int), (n : Int)) := by
    simp only [Builtin.Slice.sliceAdjust, show ¬ ((2 : Int) < 0) by decide, if_false]
    rw [if_neg (by omega)]
  obtain ⟨ob, q1, _, q2⟩ := sl
  unfold Builtin.Slice.sliceApplied; unfold Builtin.Slice.sliceFields
  apply wpAny_bind
  refine wpAny_bind (wpAny_field q1 q2 (x := .int (lo : Int) t1) rfl (wpAny_bind (wpAny_field q1 q2 (x := .none) rfl (wpAny_bind (wpAny_field q1 q2 (x := .int 2 t2) rfl (wpAny_pure ?_))))))
  refine wpAny_bind (slicePart_int (?_ : wpAny _ _ (if ((2 : Int) == 0) = true then _ else _) _ _ s))
  rw [if_neg (by decide)]
  refine wpAny_bind (slicePart_int (wpAny_bind (slicePart_none (wpAny_bind (wpAny_pure (?_ : wpAny _ _ (match Builtin.Slice.sliceAdjust (some (lo : Int)) none 2 (n : Int) with | (lo, hi) => pure (lo, (2 : Int), Builtin.Slice.slicePlaces lo hi 2)) _ _ s))))))
  rw [adj]
  exact wpAny_pure k
theorem getItem_tuple_2 {t j : Addr} {us : List Value} {lo : Nat} {t1 t2 : Tok} {Q : Value → Shared → Prop} (hlo : lo = 0 ∨ lo = 1) (tup : IsTup s.heap t us.toArray) (sl : s.heap.IsSliceOf j (.int (lo : Int) t1) .none (.int 2 t2))
    (k : Q (.ref s.heap.objs.size) { s with heap := s.heap.push { cls := .type "tuple", data := .seq (pick2 lo us).toArray } }) (fit : us.length ≤ sizeLine) : wpAny (model P w) A (getItem (.ref t) (.ref j)) Q E s := by
  have room : sizeOk (.seq (pick2 lo us).toArray) := by
    show (pick2 lo us).toArray.size ≤ sizeLine
    have h1 := evn_len (us.drop lo)
    rw [List.length_drop] at h1
    rw [List.size_toArray]
    unfold pick2
    omega
  have ts : s.TypeIs (.ref j) "slice" := by
    obtain ⟨ob, q1, q2, _⟩ := sl
    exact ⟨ob, q1, q2⟩
  have sz : (us.toArray.size : Int) = (us.length : Int) := by rw [List.size_toArray]
  have whole : ¬ ((min (lo : Int) (us.length : Int) == 0 && (2 : Int) == 1 && Builtin.Slice.slicePlaces (min (lo : Int) (us.length : Int)) (us.length : Int) 2 == us.toArray.size) = true) := fun q => by
    simp at q
  have made : ((List.range (Builtin.Slice.slicePlaces (min (lo : Int) (us.length : Int)) (us.length : Int) 2)).filterMap fun (m : Nat) => us.toArray[(min (lo : Int) (us.length : Int) + (m : Int) * 2).toNat]?).toArray = (pick2 lo us).toArray := by
    rw [← pick2_raw lo hlo us]
    congr 2
    funext m
    simp
  unfold getItem
  (try with_reducible refine wpAny_holding ?_); (first | refine wpAny_bind (wpAny_pure ?_) | skip)
  refine wpAny_bind (wpAny_sequenceKey tup.typeIs (by decide) (wpAny_bind (wpAny_callSpecial?_slot (name := Str.ofString "__getitem__") tup.typeIs PyProof.Rows.slot_tuple_getitem (wpAny_call_entry PyProof.Rows.slot_tuple_getitem tup.typeIs entry_tuple_getitem (?_ : wpAny _ _ (Builtin.Tuple.tupleItemsOf (.ref t) >>= _) _ _ s) (args_tuple_getitem _ _)))))
  refine wpAny_bind (tupleItemsOf_ tup (wpAny_bind (wpAny_typeOf ts ?_)))
  rw [if_pos (by decide), sz]
  refine wpAny_bind (places2 sl (?_ : wpAny _ _ (if (min (lo : Int) (us.length : Int) == 0 && (2 : Int) == 1 && Builtin.Slice.slicePlaces (min (lo : Int) (us.length : Int)) (us.length : Int) 2 == us.toArray.size) = true then _ else _) _ _ s))
  rw [if_neg whole, made]
  first
    | exact wpAny_bind (m := Builtin.Tuple.tupleExact _) (wpAny_newObj_type (wpAny_pure ⟨_, rfl, wpAny_pure k⟩) room)
    | exact wpAny_bind (m := Builtin.Tuple.tupleExact _) (wpAny_newObj_type (wpAny_bind (wpAny_pure (wpAny_pure ⟨_, rfl, wpAny_pure k⟩))) room)
    | exact wpAny_bind (wpAny_bind (m := Builtin.Tuple.tupleExact _) (wpAny_newObj_type (wpAny_pure (wpAny_pure ⟨_, rfl, wpAny_pure k⟩)) room))
    | exact wpAny_bind (wpAny_bind (m := Builtin.Tuple.tupleExact _) (wpAny_newObj_type (wpAny_pure ⟨_, rfl, wpAny_pure k⟩) room))
end
theorem Vals.pick {xs : List V} {us : List Value} (h : Vals xs us) : Vals (evn xs) (evn us) := by
  fun_induction evn xs generalizing us with
  | case1 => cases h; exact .nil
  | case2 a => cases h with | cons r t => cases t; exact .cons r .nil
  | case3 a b r ih => cases h with | cons q t => cases t with | cons q2 t => exact .cons q (ih t)
section
variable {X : Cx} {e : Expr} {te : TE} {pos p2 q1 q2 : Pos} {j1 j2 : Nat}
theorem pe_step2 {lo : Nat} (hlo : lo = 0 ∨ lo = 1) (he : PE X e te) : PE X (.Subscript e (.Slice (some (.Constant (.int (lo : Int)) j1 q1)) none (some (.Constant (.int 2) j2 q2)) p2) pos)
    (fun σ H Q => te σ H fun x H1 => ∃ a xs, x = .ref a ∧ SqT X.K H1 a xs ∧ ∀ p, H1 p = none → Q (.ref p) (upd H1 p (.tup (pick2 lo xs)))) := by
  constructor
  intro pins s σ H Q I h
  refine Subscript_ (thn (he.run pins s σ H _ I h) fun v s1 ⟨x, H1, I1, rx, a, xs, ex, tq, k⟩ => ?_)
  subst ex
  cases rx
  refine wpAny_Slice ?_
  rw [evalPart_some]
  refine wpAny_Constant_int ?_
  rw [evalPart_none]
  refine wpAny_pure ?_
  rw [evalPart_some]
  refine wpAny_Constant_int ?_
  have J := ((I1.tok (s1.toks + 1)).tok (s1.toks + 1 + 1)).kept (t' := s1.toks + 1 + 1) (h' := s1.heap.push { cls := .type "slice", data := .fields #[.int (lo : Int) s1.toks, .none, .int 2 (s1.toks + 1)] }) fun b ob q => Heap.get?_push_of_some _ q
  obtain ⟨us, ru, tup, fit⟩ := J.tuple tq
  refine tail_any (ops := [.ref a, .ref s1.heap.objs.size]) (T := "tuple") tup.typeIs PyProof.Rows.slot_tuple_getitem.lookup (getItem_tuple_2 hlo tup (Heap.IsSliceOf.new ..) ?_ (by rw [← ru.length]; exact fit)) (by with_unfolding_all rfl)
  refine ⟨.ref _, _, J.laid (o := .tup (pick2 lo xs)) (fun b ob q => Heap.get?_push_of_some _ q) (Nat.le_refl _) ⟨?_, _, Vals.pick (ru.drop lo), IsTup.new _ _⟩, rfl, k _ (J.hok.fresh (Nat.le_refl _))⟩
  have h1 := evn_len (xs.drop lo)
  rw [List.length_drop] at h1
  unfold pick2
  omega
end
theorem DvA.pick {H : Hp} {vs : List V} {ds : List D} (h : DvA H vs ds) : DvA H (evn vs) (evn ds) := by
  fun_induction evn vs generalizing ds with
  | case1 => cases h; exact .nil
  | case2 a => cases h with | cons r t => cases t; exact .cons r .nil
  | case3 a b r ih => cases h with | cons q t => cases t with | cons q2 t => exact .cons q (ih t)
section
variable {X : Cx} {L : Lay} {ρ : Rho} {a : Expr} {p pos p2 q1 q2 : Pos} {j1 j2 : Nat} {ds : List D}
theorem xe_step0 (ha : XE X L a ρ (.d (.tup ds))) : XE X L (.Subscript a (.Slice (some (.Constant (.int 0) j1 q1)) none (some (.Constant (.int 2) j2 q2)) p2) pos) ρ (.d (.tup (evn ds))) :=
  xe_of (pe_step2 (lo := 0) (.inl rfl) pe_sem) fun gs H0 H σ Q E k => ha gs H0 H σ _ E fun r v H1 pr e1 g1 rv => by
    subst pr
    obtain ⟨t, vs, rfl, h1, h2⟩ := rv_tup rv
    exact ⟨t, vs, rfl, SqT.of h1, fun q hq => k _ _ _ rfl (e1.trans (Step.new hq)) (g1.new hq) (Dv.tup upd_same (DvA.mono ((Step.new hq).tex g1) _ _ (DvA.pick (h2.drop 0))))⟩
theorem xe_step1 (ha : XE X L a ρ (.d (.tup ds))) : XE X L (.Subscript a (.Slice (some (.Constant (.int 1) j1 q1)) none (some (.Constant (.int 2) j2 q2)) p2) pos) ρ (.d (.tup (evn (ds.drop 1)))) :=
  xe_of (pe_step2 (lo := 1) (.inr rfl) pe_sem) fun gs H0 H σ Q E k => ha gs H0 H σ _ E fun r v H1 pr e1 g1 rv => by
    subst pr
    obtain ⟨t, vs, rfl, h1, h2⟩ := rv_tup rv
    exact ⟨t, vs, rfl, SqT.of h1, fun q hq => k _ _ _ rfl (e1.trans (Step.new hq)) (g1.new hq) (Dv.tup upd_same (DvA.mono ((Step.new hq).tex g1) _ _ (DvA.pick (h2.drop 1))))⟩
end
end Hr
-- Hr3
/-! Hr3: tuples of texts with no dict of their own: made, laid together, counted, walked. -/
namespace Hr
open PySem PySem.Spec PyProof.Rows L2 Dl
def TupX (ss : List Str) (a : Addr) : HO := .ext fun h => ss.length ≤ sizeLine ∧ ∃ its : List Value, Vals (ss.map V.str) its ∧ h.get? a = some { cls := .type "tuple", data := .seq its.toArray }
abbrev stp (ss : List Str) : D := .obj (TupX ss)
theorem tupX_new {P : Program} {w : World} {H : Hp} {h : Heap} {a : Addr} {ss : List Str} {its : List Value} (hl : ss.length ≤ sizeLine) (rv : Vals (ss.map V.str) its) (e : h.get? a = some { cls := .type "tuple", data := .seq its.toArray }) : ObjOk P w H h a (TupX ss a) :=
  ⟨⟨hl, its, rv, e⟩, ⟨_, e⟩, fun h1 h2 ⟨hl, its, rv, e⟩ k => ⟨hl, its, rv, k _ e⟩⟩
section
variable {X : Cx} {pins : List (Addr × Obj)} {s : Shared} {σ : L2.St} {H : Hp} {a : Addr} {ss : List Str}
theorem tupX_get (I : Inv X pins σ H s) (h : H a = some (TupX ss a)) : ss.length ≤ sizeLine ∧ ∃ its : List Value, Vals (ss.map V.str) its ∧ s.heap.get? a = some { cls := .type "tuple", data := .seq its.toArray } := (I.hok a _ h).1
theorem vals_strs_inj {xs ys : List Str} {us : List Value} (h : Vals (xs.map V.str) us) (h' : Vals (ys.map V.str) us) : xs = ys := by
  have e := Vals.inj h h'
  have e2 : ∀ {xs ys : List Str}, xs.map V.str = ys.map V.str → xs = ys := by
    intro xs
    induction xs with
    | nil => intro ys e; cases ys with | nil => rfl | cons _ _ => cases e
    | cons x xs ih =>
      intro ys e
      cases ys with
      | nil => cases e
      | cons y ys =>
        simp only [List.map_cons] at e
        injection e with e1 e2
        injection e1 with e1
        rw [e1, ih e2]
  exact e2 e
theorem tupX_inj (I : Inv X pins σ H s) {tt : List Str} (h : H a = some (TupX ss a)) (h' : H a = some (TupX tt a)) : ss = tt := by
  obtain ⟨_, its, r, e⟩ := tupX_get I h
  obtain ⟨_, its2, r2, e2⟩ := tupX_get I h'
  rw [e] at e2
  have q := congrArg Obj.data (Option.some.inj e2)
  have q2 : its = its2 := by
    injection q with q
    have := congrArg Array.toList q
    simpa using this
  subst q2
  exact vals_strs_inj r r2
variable {es : List Expr} {pos : Pos} {t : TA}
/-- (texts) -/
theorem pe_tupX {x1} (h : PA X es t) : PE X (.Tuple es x1 pos) (fun σ H Q => t σ H fun xs H1 => ∃ ss : List Str, xs = ss.map V.str ∧ ss.length ≤ sizeLine ∧ ∀ p, H1 p = none → Q (.ref p) (upd H1 p (TupX ss p))) := by
  constructor
  intro pins s σ H Q I k
  refine wpAny_Tuple_spliced (thn (h.run pos pins s σ H _ I k) fun us s1 ⟨vs, H1, J, r, ss, ev, hl, q⟩ => ?_)
  subst ev
  have hu : us.length ≤ sizeLine := by rw [← r.length, List.length_map]; exact hl
  exact ⟨hu, .ref s1.heap.objs.size, _, J.laid (t' := s1.toks) (o := TupX ss s1.heap.objs.size) (fun b o e => Heap.get?_push_of_some _ e) (Nat.le_refl _) (tupX_new hl r (Heap.get?_push_size _ rfl)), rfl, q _ J.fresh⟩
theorem op_catX : OpR X (binaryOp .Add) (fun x y H Q => ∃ (a b : Addr) (xs ys : List Str), x = .ref a ∧ y = .ref b ∧ H a = some (TupX xs a) ∧ H b = some (TupX ys b) ∧ ys ≠ [] ∧ xs.length + ys.length ≤ sizeLine ∧
    (xs = [] → Q (.ref b) H) ∧ (xs ≠ [] → ∀ p, H p = none → Q (.ref p) (upd H p (TupX (xs ++ ys) p)))) := by
  intro pins s σ H x y v u Q J k1 k2 ⟨a, b, xs, ys, ex, ey, ha, hb, ny, hz, q0, q1⟩
  subst ex ey
  cases k1
  cases k2
  obtain ⟨_, us, r1, e1⟩ := tupX_get J ha
  obtain ⟨_, ws, r2, e2⟩ := tupX_get J hb
  have p1 : IsTup s.heap a us.toArray := ⟨_, e1, rfl, _, rfl⟩
  have p2 : IsTup s.heap b ws.toArray := ⟨_, e2, rfl, _, rfl⟩
  have ne : ∀ {zs : List Str} {vs : List Value}, zs ≠ [] → Vals (zs.map V.str) vs → vs ≠ [] := fun hz r z => by
    subst z
    have := r.length
    rw [List.length_map] at this
    exact hz (List.eq_nil_of_length_eq_zero this)
  rcases Decidable.em (xs = []) with z | hx
  · subst z
    cases r1
    exact cat_tup0 p1 p2 ⟨.ref b, H, J, rfl, (q0 rfl : Q (.ref b) H)⟩
  · refine HT.cat_tup p1 p2 (ne hx r1) (fun z => absurd z (ne ny r2)) (fun _ => ?_) (by rw [← r1.length, ← r2.length, List.length_map, List.length_map]; exact hz)
    exact ⟨.ref _, _, J.laid (t' := s.toks) (o := TupX (xs ++ ys) s.heap.objs.size) (fun b o e => Heap.get?_push_of_some _ e) (Nat.le_refl _) (tupX_new (by rw [List.length_append]; exact hz) (by rw [List.map_append]; exact r1.append r2) (Heap.get?_push_size _ rfl)), rfl, q1 hx _ J.fresh⟩
/-- t.count(text) -/
def rCntX : V → List V → Hp → VK → Prop := fun x xs H Q => ∃ (p : Addr) (ys : List Str) (z : Str), x = .ref p ∧ xs = [.str z] ∧ H p = some (TupX ys p) ∧ Q (.int ((ys.countP fun y => y == z : Nat) : Int)) H
theorem countX {ys : List Str} {z : Str} : ∀ {ys : List Str} {us : List Value}, Vals (ys.map V.str) us → us.countP (eqU (.str z)) = ys.countP fun y => y == z := by
  intro ys
  induction ys with
  | nil => intro us r; cases r; rfl
  | cons y ys ih =>
    intro us r
    rw [List.map_cons] at r
    cases r with
    | cons r1 r2 =>
      rw [List.countP_cons, List.countP_cons, ih r2, eqU_of r1 rfl]
      rfl
theorem mt_cntX : MtR X "tuple.count" rCntX := by
  intro pins s σ H x xs v us Q J rx rxs ⟨p, ys, z, ex, exs, hs, q⟩
  subst ex exs
  cases rx
  obtain ⟨y, rfl, t, rfl⟩ := rxs.one
  obtain ⟨_, its, rv, ho⟩ := tupX_get J hs
  have ec : its.toArray.toList.countP (eqU (.str z)) = ys.countP fun y => y == z := countX (ys := ys) rv
  refine call_meets PySem.F.slot_tuple_count ⟨_, ho, rfl⟩ PySem.F.entry_tuple_count (PySem.F.args_tuple_count_2 _ _)
    (SeqAt.tuple_countAt p its.toArray _ _ _ (.str z t) (eqU (.str z))) ⟨ho, fun y hy => mem_eqAt (x := .str z) (v := .str z t) ⟨_, rfl⟩ rfl rv (Dl.flat_strs ys) y (by simpa using hy), ?_⟩
  refine ⟨.int ((ys.countP fun y => y == z : Nat) : Int), H, J.tok _, ⟨s.toks, ?_⟩, q⟩
  show Value.int ((its.toArray.toList.countP (eqU (.str z)) : Nat) : Int) s.toks = _
  rw [ec]
theorem pe_cntX {o e : Expr} {to te : TE} {apos cpos : Pos} (ho : PE X o to) (he : PE X e te)
    (hbase : attributeBase o "count" X.env (eval o X.env) = eval o X.env := by rfl)
    (hfew : ((backTo cpos (starEach [e] X.env)).all (fun x => !x.1) && (backToKw cpos (keywordEach [] X.env)).all (fun x => x.1.isSome) && decide ([e].length + ([] : List Keyword).length + (if ([] : List Keyword).isEmpty then 0 else 1) < 30)) = true := by rfl)
    (hline : (apos.endLine == cpos.line) = true := by rfl) (hs : starEach [e] X.env = (false, eval e X.env) :: starEach [] X.env := by rfl) (hplain : (backTo cpos (starEach [] X.env)).any (·.1) = false := by rfl) : PE X (.Call (.Attribute o "count" apos) [e] [] cpos)
      (fun σ H Q => to σ H fun x H1 => (∃ p ys, x = V.ref p ∧ H1 p = some (TupX ys p)) ∧ te σ H1 fun y H2 => rCntX x [y] H2 Q) := by
  constructor
  intro pins s σ H Q J h
  refine wpAny_Call_method_late hbase hfew hline rfl (thn (ho.run pins s σ H _ J h) fun v s1 ⟨x, H1, J1, rx, ⟨p, ys, ex, hp⟩, q1⟩ => ?_)
  subst ex
  cases rx
  obtain ⟨_, its, rv, e1⟩ := tupX_get J1 hp
  refine ⟨"tuple", "tuple.count", PySem.F.plainAttrs_tuple, PySem.F.slot_tuple_count, PySem.F.type_tuple_count, ⟨_, e1, rfl⟩, fun a ea => by cases ea; exact ⟨_, e1, rfl⟩, ?_⟩
  have args := (pa_cons he (pa_nil (X := X)) hs).run cpos pins s1 σ H1 (fun xs H2 => rCntX (V.ref p) xs H2 Q) J1 q1
  have plain : (false || (backTo cpos (starEach [] X.env)).any (·.1)) = false := by rw [hplain] <;> rfl
  rw [hs] at args ⊢
  exact Calls.callWith_builtin plain (Calls.evalArgs_plain (thn args fun us s2 ⟨vs, H2, J2, r2, q2⟩ => mt_cntX pins s2 σ H2 (V.ref p) vs (.ref p) us Q J2 rfl r2 q2))
end
/-- walked -/
def Itx (a : Addr) : It := ⟨fun i H => ∃ (ss : List Str) (x : Str), H a = some (TupX ss a) ∧ ss[i]? = some x, fun i H x H' => H' = H ∧ ∀ ss, H a = some (TupX ss a) → ∃ z, ss[i]? = some z ∧ x = .str z, fun i H => ∃ ss, H a = some (TupX ss a) ∧ ss.length ≤ i⟩
theorem turn_tupX {P : Program} {w : World} {K : PySem.W.Frag} {tg : Expr} (a j : Addr) : Turn P w K tg (Itx a) [j] j (fun i g => g.IsTupleIter j a i) where
  mem := List.mem_singleton.mpr rfl
  obj := fun i g st b hb => by
    rw [List.mem_singleton.mp hb]
    obtain ⟨o, q1, _, q2⟩ := st
    exact ⟨o, q1, fun v z => by rw [q2] at z; cases z⟩
  keep := fun i g g' st kp => st.at fun o q => kp j (List.mem_singleton.mpr rfl) o q
  item := by
    intro X eP ew eK cm i pins s σ H E J fp st gt
    subst eP ew eK
    obtain ⟨ss, x, hq, hx⟩ := gt
    obtain ⟨_, us, ru, at1⟩ := tupX_get J hq
    have tup : s.heap.IsTuple a us.toArray := ⟨_, at1, rfl, _, rfl⟩
    obtain ⟨u, iu, rx⟩ := ru.get (i := i) (x := .str x) (by rw [List.getElem?_map, hx]; rfl)
    obtain ⟨p0, p1, _, p3, p4, p5⟩ := fp j (List.mem_singleton.mpr rfl)
    refine wpAny_pyNext_tuple_item st tup (x := u) (by simpa using iu) fun g st2 same => ?_
    have off : ∀ b o, b ≠ j → s.heap.get? b = some o → g.get? b = some o := fun b o nb q => (same.2 b nb).trans q
    obtain ⟨o, q1, q2, q3⟩ := id st2
    exact ⟨u, rfl, go_of (s := { s with heap := g }) q1 q2 q3 (by decide) ⟨.str x, H, J.turned (t' := s.toks) off p0 p1 p3 p4 p5, rx, ⟨rfl, fun ys hy => ⟨x, by rw [tupX_inj J hy hq]; exact hx, rfl⟩⟩, st2, fun b hb => (fp b hb).1⟩⟩
  done := by
    intro X eP ew eK cm i pins s σ H E J fp st gt
    subst eP ew eK
    obtain ⟨ss, hq, hx⟩ := gt
    obtain ⟨_, us, ru, at1⟩ := tupX_get J hq
    have tup : s.heap.IsTuple a us.toArray := ⟨_, at1, rfl, _, rfl⟩
    obtain ⟨p0, p1, _, p3, p4, p5⟩ := fp j (List.mem_singleton.mpr rfl)
    have lu := ru.length
    rw [List.length_map] at lu
    exact wpAny_pyNext_tuple_end (J.ok.hd cm) st tup (by simp; omega) fun g hg => ⟨rfl, J.turned (t' := s.toks) (fun b o nb q => hg b o nb q) p0 p1 p3 p4 p5⟩
  self := fun _ _ _ _ _ st k => wpAny_pyIter_tupleiter st k
def iTupX (tl : TE) : TI := fun σ H R => tl σ H fun x H1 => ∃ a, x = .ref a ∧ (∃ ss, H1 a = some (TupX ss a)) ∧ R (Itx a) H1
theorem pi_tupX {X : Cx} {tg l : Expr} {tl : TE} (hl : PE X l tl) : PI X tg l (iTupX tl) := by
  constructor
  intro pins s σ H R J h
  refine thn (hl.run pins s σ H _ J h) fun v s1 ⟨x, H1, J1, rx, a, ex, ⟨ss, hq⟩, q⟩ => ?_
  subst ex
  cases rx
  obtain ⟨_, us, _, at1⟩ := tupX_get J1 hq
  refine wpAny_pyIter_tuple (items := us.toArray) ⟨_, at1, rfl, _, rfl⟩ ?_
  have J2 : Inv X pins σ H1 { s1 with heap := s1.heap.push { cls := .type "tuple_iterator", data := .fields #[.ref a, .int 0 0] } } := J1.kept (t' := s1.toks) fun b o e => Heap.get?_push_of_some _ e
  refine ⟨s1.heap.objs.size, [s1.heap.objs.size], _, _, H1, rfl, J2, turn_tupX a s1.heap.objs.size, ⟨_, Heap.get?_push_size _ rfl, rfl, rfl⟩, fun b hb => ?_, q⟩
  rw [List.mem_singleton.mp hb]
  exact J1.fpOk (Nat.le_refl _) J1.fresh
section
variable {X : Cx} {L : Lay} {ρ : Rho} {a b e : Expr} {pos p1 p2 : Pos} {ss tt : List Str} {tg : Expr}
theorem rv_stp {L : Lay} {H0 H : Hp} {v : V} (h : RV L H0 H v (.d (stp ss))) : ∃ a, v = .ref a ∧ H a = some (TupX ss a) := by
  cases h with
  | obj h1 h2 => exact ⟨_, rfl, h1⟩
theorem xe_stp0 {k1 : Nat} : XE X L (.Tuple [] k1 pos) ρ (.d (stp [])) := xe_of (pe_tupX pa_nil) fun gs H0 H σ Q E k => ⟨[], rfl, Nat.zero_le _, fun p hp => k _ _ _ rfl (Step.new hp) (E.good.new hp) (Dv.obj upd_same rfl)⟩
theorem xe_stp1 {k1 : Nat} {z : Str} (h : XE X L e ρ (.d (.str z))) (hs : starEach [e] X.env = (false, eval e X.env) :: starEach [] X.env := by rfl) : XE X L (.Tuple [e] k1 pos) ρ (.d (stp [z])) := xe_of (pe_tupX (pa_cons pe_sem pa_nil hs)) fun gs H0 H σ Q E k => h gs H0 H σ _ E fun r v H1 pr e1 g1 rv => by
  subst pr
  obtain rfl := rv_str rv
  exact ⟨[z], rfl, by show 1 ≤ sizeLine; decide, fun p hp => k _ _ _ rfl (e1.trans (Step.new hp)) (g1.new hp) (Dv.obj upd_same rfl)⟩
theorem xe_catX (ha : XE X L a ρ (.d (stp ss))) (hb : XE X L b ρ (.d (stp tt))) (hn : tt ≠ []) (hz : ss.length + tt.length ≤ 100000) : XE X L (.BinOp a .Add b pos) ρ (.d (stp (ss ++ tt))) := xe_of (pe_op op_catX pe_sem pe_sem) (ev_op2 ha hb fun H Hb vx vy Q g hx hy k => by
  obtain ⟨p, rfl, h1⟩ := rv_stp hx
  obtain ⟨q, rfl, h2⟩ := rv_stp hy
  refine ⟨p, q, ss, tt, rfl, rfl, h1, h2, hn, sz_of hz, fun z => ?_, fun _ u hu => ?_⟩
  · subst z
    exact k _ _ Hb rfl (Step.refl _) g (Dv.obj h2 rfl)
  · exact k _ _ _ rfl (Step.new hu) (g.new hu) (Dv.obj upd_same rfl))
theorem xe_cntX {z : Str} (ha : XE X L a ρ (.d (stp ss))) (hb : XE X L b ρ (.d (.str z)))
    (hpe : PE X (.Call (.Attribute a "count" p1) [b] [] p2) (fun σ H Q => semE X a σ H fun x H1 => (∃ p ys, x = V.ref p ∧ H1 p = some (TupX ys p)) ∧ semE X b σ H1 fun y H2 => rCntX x [y] H2 Q) := by exact pe_cntX pe_sem pe_sem) :
    XE X L (.Call (.Attribute a "count" p1) [b] [] p2) ρ (.d (.int ((ss.countP fun y => y == z : Nat) : Int))) :=
  xe_of hpe fun gs H0 H σ Q E k => ha gs H0 H σ _ E fun r v H1 pr e1 g1 rv => by
    subst pr
    obtain ⟨t, rfl, h1⟩ := rv_stp rv
    refine ⟨⟨t, ss, rfl, h1⟩, hb gs H0 H1 σ _ (E.step e1 g1) fun r2 v2 H2 pr2 e2 g2 rv2 => ?_⟩
    subst pr2
    obtain rfl := rv_str rv2
    exact ⟨t, ss, z, rfl, rfl, e2.tex g1 _ _ h1 rfl, k _ _ H2 rfl (e1.trans e2) g2 (Dv.int _)⟩
theorem xi_stp (h : XE X L a ρ (.d (stp ss))) : XI X L tg a ρ (fun z => z = ss.map D.str) := xi_of (pi_tupX pe_sem) fun gs H0 H σ R E k => h gs H0 H σ _ E fun r v H1 pr e1 g1 rv => by
  subst pr
  obtain ⟨t, rfl, h1⟩ := rv_stp rv
  refine ⟨t, rfl, ⟨ss, h1⟩, k _ _ [] H1 rfl e1 g1 ?_ (fun q hq => by cases hq)⟩
  unfold WalkD
  rw [List.length_map]
  refine ⟨fun i H hi h => ⟨ss, ss[i], h.1 _ _ h1 rfl, by simp [hi]⟩, fun H h => ⟨ss, h.1 _ _ h1 rfl, Nat.le_refl _⟩, fun i H x H' hi h y => ?_⟩
  obtain ⟨y1, y2⟩ := y
  subst y1
  obtain ⟨z, hz, rfl⟩ := y2 ss (h.1 _ _ h1 rfl)
  exact ⟨fun _ _ q => q, fun d hd => by
    rw [List.getElem?_map, hz] at hd
    cases hd
    exact Dv.str _⟩
end
end Hr
set_option maxHeartbeats 2400000
-- Pg3
namespace Dl
open PySem L2 PyProof.Rows
section
variable {X : Cx} {L : Lay} {ρ : Rho} {e : Expr} {pos pos' : Pos} {rest : List Stmt} {E : DE} {i : Nat} {x : Str}
theorem xs_setRoP {PD : List D → Prop} (he : XP X L e ρ (fun r => ∃ ds, PD ds ∧ r = .own ds)) (k : ∀ ds, PD ds → XSs X L rest (ρ.set i (some (.ro ds))) E) (hN : X.N.Nodup := by assumption) (hi : X.N[i]? = some x := by rfl) (hx : Loc X.env.scope x := by exact Or.inl rfl)
    (hs : swapsWith e (some (.Name x pos')) pos.line X.env = pure false := by rfl) (hf : X.fn x = true ∨ X.env.scope.names.lookup x = some .local := by first | exact .inl rfl | exact .inr rfl) : XSs X L (.Assign [.Name x pos'] e pos :: rest) ρ E :=
  xs_cons (ps_set hN hi hx pe_sem hs hf) fun gs H0 H σ D En l => he gs H0 H σ _ En fun r v H1 pr e1 g1 rv => by
    obtain ⟨ds, pd, rfl⟩ := pr
    exact k ds pd gs H0 H1 _ D (En.freshRo e1 g1 rv) ⟨l.nx, l.rt, l.bk, l.ct⟩
theorem putD_len (kvs : List (Key × D)) (k : Key) (d : D) : (putD kvs k d).length ≤ kvs.length + 1 := by
  unfold putD
  split
  · rw [List.length_map]; omega
  · rw [List.length_append]; exact Nat.le_refl _
theorem find_map_key {k k' : Key} {d : D} : ∀ kvs : List (Key × D), ((kvs.map fun kv => if kv.1 = k then (kv.1, d) else kv).find? fun kv => decide (kv.1 = k')).isSome = (kvs.find? fun kv => decide (kv.1 = k')).isSome
  | [] => rfl
  | kv :: kvs => by
    have e : (if kv.1 = k then (kv.1, d) else kv).1 = kv.1 := by split <;> rfl
    rw [List.map_cons, List.find?_cons, List.find?_cons, e]
    cases decide (kv.1 = k') with
    | true => rfl
    | false => exact find_map_key kvs
theorem has_putD (kvs : List (Key × D)) (k : Key) (d : D) (k' : Key) : (getD' (putD kvs k d) k').isSome = (decide (k' = k) || (getD' kvs k').isSome) := by
  unfold putD getD'
  rw [Option.isSome_map, Option.isSome_map]
  split
  · rename_i h
    rw [find_map_key]
    by_cases e : k' = k
    · subst e
      rw [decide_eq_true rfl, Bool.true_or, List.find?_isSome]
      exact List.any_eq_true.mp h
    · rw [decide_eq_false e, Bool.false_or]
  · rw [List.find?_append]
    by_cases e : k' = k
    · subst e
      rw [decide_eq_true rfl, Bool.true_or]
      have q : List.find? (fun kv : Key × D => decide (kv.1 = k')) [(k', d)] = some (k', d) := by
        rw [List.find?_cons, decide_eq_true (rfl : k' = k')]
      rw [q, Option.isSome_or]
      simp
    · have q : List.find? (fun kv : Key × D => decide (kv.1 = k')) [(k, d)] = none := by
        rw [List.find?_cons, decide_eq_false (fun z => e z.symm)]
        rfl
      rw [q, Option.or_none, decide_eq_false e, Bool.false_or]
end
end Dl
namespace Pg
open PySem L2 Dl Mx Hr
section
variable {P : Program} {w : World} {K : PySem.W.Frag} {mg : Str → Option Value} {base : Heap} {L : Lay}
inductive gGone : Ct
  | mk (f : Bool) (es : List Int) (on : Bool) (m : Int) (hl : es.length ≤ 1000) : gGone [.d (.bl f), .d (lnE es), .d (.bl on), .d (.int m)] (fun z => ∃ ds, (∃ qs : List (Int × Int), qs.Perm (goneL f es on m) ∧ ds = qs.map pD) ∧ z = .own ds)
inductive gWithoutPlaces : Ct
  | mk (es ps : List Int) (hl : es.length ≤ 1000) (hp : ps.length ≤ 1000) : gWithoutPlaces [.d (lnE es), .ro (ps.map .int)] (fun z => z = .d (lnE (keepAt es ps)))
inductive gWithRung : Ct
  | mk (f : Bool) (es : List Int) (on : Bool) (m : Int) (hl : es.length ≤ 1000) (es' : List Int) (hk : ∀ qs : List (Int × Int), qs.Perm (goneL f es on m) → keepAt es (qs.map (·.2)) = es') : gWithRung [.d (ln f es), .d (.bl on), .d (.int m)] (fun z => z = .d (ln f es'))
inductive gMadeLate : Ct
  | mk (f : Bool) (es : List Int) (hl : es.length ≤ 1000) : gMadeLate [.d (ln f es), .d (.int 0), .d (.int 0)] (fun z => z = .d (ln f es))
inductive gTicksOn : Ct
  | mk (f : Bool) (es : List Int) : gTicksOn [.d (ln f es)] (fun z => z = .d (if f = true ∨ stb f es.length = true then .non else .int ((evn (es.drop 1)).sum - (evn es).sum)))
theorem room_u1 {k : Nat} {A : Around} (r : Room k A) : A.units + 1 < cLine := by have := r.un; omega
theorem getD_at {es : List Int} {k : Nat} (h : k < es.length) : es[k]? = some (es.getD k 0) := by
  rw [List.getD_eq_getElem?_getD, List.getElem?_eq_getElem h]
  rfl
abbrev s_ticks_on : Stmt := top 28
theorem ok_ticks_on {f : Addr} {fd : FuncData} (F : Fun K "ticks_on" "ticks_on" s_ticks_on f fd) (B : Bi mg) (c_state_behind : Cal P w K mg base 1 "state_behind" ["line", "many"] (spG L gStateBehind)) : FnOk P w K mg base CX0 2 f fd ["line"] (spG L gTicksOn) := by
  refine def_ok (N := ["line"]) F ⟨rfl, rfl, rfl, by decide +kernel, rfl, by decide +kernel, by decide +kernel⟩ (by decide) (fun _ _ h => by cases h; rfl) fun cdv A outer s H E hr rs Pq h => ?_
  have nd : (["line"] : List Str).Nodup := by decide +kernel
  cases h with
  | mk f es =>
    refine xs_if (t := f || stb f es.length) (xt_w (xw_or (xt_val (xe_ixT (xv 0) xe_int rfl)) (fun _ => xw_or1 (xt_val (xe_call c_state_behind (hr.mono (by decide)) (xa_cons (xv 0) (xa_cons ((xe_lenT (xe_ixT (xv 0) xe_int rfl) B.len).is (by rw [List.length_map])) xa_nil)) (gStateBehind.mk _ _ _)))))) (fun z => ?_) (fun z => xs_nil ?_)
    · refine xs_retE xe_non ?_
      rw [if_pos (by simpa using z)]
    · refine xs_retE (xe_sub (xe_sumT ((xe_step1 (xe_ixT (xv 0) xe_int rfl)).is (by rw [← List.map_drop, evn_map])) B.sum) (xe_sumT ((xe_step0 (xe_ixT (xv 0) xe_int rfl)).is (by rw [evn_map])) B.sum)) ?_
      rw [if_neg (by simpa using z)]
abbrev s_turnings : Stmt := top 53
theorem ok_turnings {f : Addr} {fd : FuncData} (F : Fun K "turnings" "turnings" s_turnings f fd) (B : Bi mg)  : FnOk P w K mg base CX0 1 f fd ["told"] (spG L gTurnings) := by
  refine def_ok (N := ["told", "high", "deep", "found", "word", "many", "last"]) F ⟨rfl, rfl, rfl, by decide +kernel, rfl, by decide +kernel, by decide +kernel⟩ (by decide) (fun _ _ h => by cases h; rfl) fun cdv A outer s H E hr rs Pq h => ?_
  have nd : (["told", "high", "deep", "found", "word", "many", "last"] : List Str).Nodup := by decide +kernel
  cases h with
  | mk l hl =>
    refine xs_set (i := 1) xe_int (xs_set (i := 2) xe_int (xs_set (i := 3) (xe_lst (ds := []) xa_nil) ?_))
    refine xs_for (xi_tup (xe_ixT (xv 0) xe_int rfl)) (by apply pg_two (i := 4) (j := 5) nd <;> first | rfl | exact Or.inl rfl | exact Or.inr rfl) (fun ds i ρ' => ∃ a b c x y z, ρ' = [some (.d (shD l)), some (.d (.int a)), some (.d (.int b)), some (.own (c.map .int)), x, y, z] ∧ (a, b, c) = (l.take i).foldl turnStep (0, 0, []) ∧ c.length = i) (fun ds hd => ⟨0, 0, [], none, none, none, rfl, rfl, rfl⟩) ?_ ?_
    · rintro ds i d ρ1 rfl hd ⟨a, b, c, x, y, z, rfl, ea, ec⟩
      rw [List.getElem?_map] at hd
      cases hg : l[i]? with
      | none => rw [hg] at hd; cases hd
      | some g =>
        rw [hg] at hd
        cases hd
        have hi : i < l.length := (List.getElem?_eq_some_iff.mp hg).1
        have st : (l.take (i + 1)).foldl turnStep (0, 0, []) = turnStep (a, b, c) g := by rw [take_snoc hg, List.foldl_append, ← ea]; rfl
        refine ⟨_, evg_tup2, xs_if (xt_eq (xv 4) xe_str (.str _ _)) (fun z => ?_) (fun z => ?_)⟩
        · rw [wd_up] at z
          refine xs_augAdd (i := 1) rfl (xv 5) (xs_append (i := 3) rfl (xv 1) (by rw [List.length_map]; omega) (xs_nil (xs_nil ⟨_, _, c ++ [a + g.2], _, _, _, by rw [List.map_append]; rfl, ?_, by rw [List.length_append, ec]; rfl⟩)))
          rw [st]
          unfold turnStep
          rw [if_pos z]
        · rw [wd_up] at z
          refine xs_augAdd (i := 2) rfl (xv 5) (xs_append (i := 3) rfl (xe_neg (xv 2)) (by rw [List.length_map]; omega) (xs_nil (xs_nil ⟨_, _, c ++ [-(b + g.2)], _, _, _, by rw [List.map_append]; rfl, ?_, by rw [List.length_append, ec]; rfl⟩)))
          rw [st]
          unfold turnStep
          rw [if_neg (by rw [z]; exact Bool.false_ne_true)]
    · rintro ds ρ1 rfl ⟨a, b, c, x, y, z, rfl, ea, ec⟩
      rw [List.length_map] at ec
      rw [List.length_map, List.take_length] at ea
      have et : (turnSt l).2.2 = c := by unfold turnSt; rw [← ea]
      refine xs_set (i := 6) (xe_sub (xe_ixT (xv 0) xe_int rfl) (xe_ixT (xv 0) xe_int rfl)) ?_
      refine xs_if (xt_ne (xv 6) (XE.fz (ds := c.map D.int) 3 (xe_ixL (i := if 0 < c.length then (c.length : Int) - 1 else 0) (d := .int (c.getLastD 0)) (XE.rd (xe_catL (xv 3) (XE.rd (xe_lst (ds := [.int 0]) (xa_cons xe_int xa_nil))) (by rw [List.length_map]; show c.length + 1 ≤ _; omega))) (xe_if (xt_gt (xe_lenL (xv 3) B.len) xe_int) (fun z => ?_) (fun z => ?_)) ?_)) (.int _ _)) (fun z => ?_) (fun z => ?_)
      · have z' : 0 < c.length := by have := of_decide_eq_true z; rw [List.length_map] at this; omega
        rw [if_pos z']
        exact (xe_sub (xe_lenL (xv 3) B.len) xe_int).is (by rw [List.length_map])
      · have z' : ¬ 0 < c.length := by have := of_decide_eq_false z; rw [List.length_map] at this; omega
        rw [if_neg z']
        exact xe_int
      · rcases List.eq_nil_or_concat c with rfl | ⟨c', u, rfl⟩
        · rfl
        · rw [List.concat_eq_append, if_pos (by simp)]
          rw [show (((c' ++ [u]).length : Nat) : Int) - 1 = (c'.length : Int) by simp, List.map_append, List.append_assoc]
          refine atI_nat ?_
          rw [List.getElem?_append_right (by simp)]
          simp
      · have ne : ¬ c.getLastD 0 = 0 := fun q => by rw [q] at z; cases z
        refine xs_append (i := 3) rfl (xv 6) (by rw [List.length_map]; omega) (xs_nil (xs_retL (i := 3) rfl ?_))
        unfold turn0
        rw [et]
        dsimp only
        rw [if_neg ne, List.map_append]
        rfl
      · have eq : c.getLastD 0 = 0 := by
          have z' : (!decide ((0 : Int) - 0 = c.getLastD 0)) = false := z
          have := of_decide_eq_true (by simpa using z' : decide ((0 : Int) - 0 = c.getLastD 0) = true)
          omega
        refine xs_nil (xs_retL (i := 3) rfl ?_)
        unfold turn0
        rw [et]
        dsimp only
        rw [if_pos eq]
abbrev s_normal_of : Stmt := top 54
theorem ok_normal_of {f : Addr} {fd : FuncData} (F : Fun K "normal_of" "normal_of" s_normal_of f fd) (B : Bi mg) (c_turnings : Cal P w K mg base 1 "turnings" ["told"] (spG L gTurnings)) (c_gate_to : Cal P w K mg base 1 "gate_to" ["lead", "goal"] (spG L gGateTo)) : FnOk P w K mg base CX0 2 f fd ["told"] (spG L gNormalOf) := by
  refine def_ok (N := ["told", "gates", "lead", "goal", "lacking", "word", "many"]) F ⟨rfl, rfl, rfl, by decide +kernel, rfl, by decide +kernel, by decide +kernel⟩ (by decide) (fun _ _ h => by cases h; rfl) fun cdv A outer s H E hr rs Pq h => ?_
  have nd : (["told", "gates", "lead", "goal", "lacking", "word", "many"] : List Str).Nodup := by decide +kernel
  cases h with
  | mk l hl =>
    refine xs_set (i := 1) (xe_lst (ds := []) xa_nil) (xs_set (i := 2) xe_int ?_)
    have hl2 : (turn0 l).length ≤ 1001 := by
      have q : ∀ (l : Ld) (s : Int × Int × List Int), (l.foldl turnStep s).2.2.length = s.2.2.length + l.length := by
        intro l
        induction l with
        | nil => intro s; rfl
        | cons r l ih =>
          intro s
          rw [List.foldl_cons, ih, List.length_cons]
          unfold turnStep
          split <;> simp <;> omega
      unfold turn0
      dsimp only
      have := q l (0, 0, [])
      unfold turnSt
      split <;> simp [this] <;> omega
    refine xs_for (xi_newE (xe_call c_turnings (hr.mono (by decide)) (xa_cons (xv 0) xa_nil) (gTurnings.mk l hl))) (pg_name (i := 3) nd rfl (Or.inl rfl)) (fun ds i ρ' => ∃ (g : List Gate) (a : Int) (x y z w : Option Rep), ρ' = [some (.d (shD l)), some (.own (g.map gD)), some (.d (.int a)), x, y, z, w] ∧ (a, g) = ((turn0 l).take i).foldl nrmStep (0, []) ∧ g.length = i) (fun ds hd => ⟨[], 0, none, none, none, none, rfl, rfl, rfl⟩) ?_ ?_
    · rintro ds i d ρ1 rfl hd ⟨g, a, x, y, z, w, rfl, ea, ec⟩
      rw [List.getElem?_map] at hd
      cases hg : (turn0 l)[i]? with
      | none => rw [hg] at hd; cases hd
      | some t =>
        rw [hg] at hd
        cases hd
        have hi : i < (turn0 l).length := (List.getElem?_eq_some_iff.mp hg).1
        refine ⟨_, evg_name, xs_append (i := 1) rfl (xe_call c_gate_to (hr.mono (by decide)) (xa_cons (xv 2) (xa_cons (xv 3) xa_nil)) (gGateTo.mk a t)) (by rw [List.length_map]; omega) (xs_set (i := 2) (xv 3) (xs_nil ⟨g ++ [gateTo a t], t, _, _, _, _, by rw [List.map_append]; rfl, ?_, by rw [List.length_append, ec]; rfl⟩))⟩
        rw [take_snoc hg, List.foldl_append, ← ea]
        rfl
    · rintro ds ρ1 rfl ⟨g, a, x, y, z, w, rfl, ea, ec⟩
      rw [List.length_map, List.take_length] at ea
      have en : (nrmSt (turn0 l)).2 = g := by unfold nrmSt; rw [← ea]
      rw [List.length_map] at ec
      refine xs_set (i := 4) (xe_sub (xe_ixT (xv 0) xe_int rfl) (xe_sumL (ns := (g.filter Gate.isOn).map Gate.num) (XE.rd (XE.fz (ds := g.map gD) 1 (XE.is (xe_lcIf (fun d => match d with | .tup [.str s, _] => decide (s = "on") | _ => false) (fun d => match d with | .tup [_, .int n] => .int n | _ => .non) (g := g2 K 5 6) (own := [("word", 5), ("many", 6)]) (xi_var (i := 1) rfl) (blkOk_by (N := ["told", "gates", "lead", "goal", "lacking", "word", "many"]) (sc := defScope s_normal_of) (by decide +kernel)) (by intro _ _ _ _ _; apply pg_two (i := 5) (j := 6) nd <;> first | rfl | exact Or.inl rfl | exact Or.inr rfl) (fun d hd => ?_) (by rw [List.length_map]; omega)) ?_))) B.sum)) ?_
      · obtain ⟨r, _, rfl⟩ := List.mem_map.mp hd
        cases r <;> exact ⟨_, evgw_tup2 (K := K) (by decide) (by decide), fun s H1 C cl fp => xt_eq (xv 5) xe_str (.str _ _), fun _ s H1 C cl fp => xv 6⟩
      · rw [List.filter_map, List.map_map, List.map_map]
        have e1 : g.filter ((fun d : D => match d with | .tup [.str s, _] => decide (s = "on") | _ => false) ∘ gD) = g.filter Gate.isOn := by
          apply List.filter_congr
          intro r _
          cases r <;> first | rfl | decide +kernel
        rw [e1]
        congr 1
        apply List.map_congr_left
        intro r _
        cases r <;> rfl
      · refine xs_if (xt_ne (xv 4) xe_int (.int _ _)) (fun z => ?_) (fun z => ?_)
        · have ne : ¬ 0 - ((g.filter Gate.isOn).map Gate.num).sum = 0 := by simpa using z
          refine xs_append (i := 1) rfl (xe_tup (ds := [.str "moved", .int _]) (xa_cons xe_str (xa_cons (xv 4) xa_nil))) (by rw [List.length_map]; omega) (xs_nil (xs_retE (XE.fz 1 (xe_tupleL (xv 1) B.tuple)) ?_))
          unfold nrm
          rw [en]
          dsimp only
          rw [if_neg ne]
          show Rep.d (.tup _) = Rep.d (.tup _)
          rw [List.map_append]
          rfl
        · have eq : 0 - ((g.filter Gate.isOn).map Gate.num).sum = 0 := by simpa using z
          refine xs_nil (xs_retE (XE.fz 1 (xe_tupleL (xv 1) B.tuple)) ?_)
          unfold nrm
          rw [en]
          dsimp only
          rw [if_pos eq]
abbrev s_row_of : Stmt := top 55
theorem ok_row_of {f : Addr} {fd : FuncData} (F : Fun K "row_of" "row_of" s_row_of f fd) (B : Bi mg) (c_check_shape : Cal P w K mg base 5 "check_shape" ["thing"] (spG L gCheckShape)) (c_normal_of : Cal P w K mg base 2 "normal_of" ["told"] (spG L gNormalOf)) : FnOk P w K mg base CX0 6 f fd ["told"] (spG L gRowOf) := by
  refine def_ok (N := ["told"]) F ⟨rfl, rfl, rfl, by decide +kernel, rfl, by decide +kernel, by decide +kernel⟩ (by decide) (fun _ _ h => by cases h; rfl) fun cdv A outer s H E hr rs Pq h => ?_
  have nd : (["told"] : List Str).Nodup := by decide +kernel
  cases h with
  | mk l h hl hu hd => exact xs_expr (xe_call c_check_shape (hr.mono (by decide)) (xa_cons (xv 0) xa_nil) (gCheckShape.mk _ h hl hu hd)) (xs_retE (xe_call c_normal_of (hr.mono (by decide)) (xa_cons (xv 0) xa_nil) (gNormalOf.mk _ hl)) rfl)
abbrev s_gone : Stmt := top 57
theorem ok_gone {f : Addr} {fd : FuncData} (F : Fun K "gone" "gone" s_gone f fd) (B : Bi mg) (c_state_behind : Cal P w K mg base 1 "state_behind" ["line", "many"] (spG L gStateBehind)) : FnOk P w K mg base CX0 2 f fd ["first", "edges", "on", "most"] (spG L gGone) := by
  refine def_ok (N := ["first", "edges", "on", "most", "found", "at"]) F ⟨rfl, rfl, rfl, by decide +kernel, rfl, by decide +kernel, by decide +kernel⟩ (by decide) (fun _ _ h => by cases h; rfl) fun cdv A outer s H E hr rs Pq h => ?_
  have nd : (["first", "edges", "on", "most", "found", "at"] : List Str).Nodup := by decide +kernel
  cases h with
  | mk f es on m hl =>
    refine xs_set (i := 4) (xe_lst (ds := []) xa_nil) ?_
    refine xs_for (xi_rng2 (hi := (es.length : Int)) xe_int ((xe_lenT (xv 1) B.len).is (by rw [List.length_map])) (by omega) B.range) (pg_name (i := 5) nd rfl (Or.inl rfl)) (fun ds i ρ' => ∃ x, ρ' = [some (.d (.bl f)), some (.d (lnE es)), some (.d (.bl on)), some (.d (.int m)), some (.own ((goneU f es on m i).map pD)), x] ∧ i ≤ es.length - 1) (fun ds hd => ⟨none, rfl, Nat.zero_le _⟩) ?_ ?_
    · rintro ds i d ρ1 rfl hd ⟨x, rfl, hle⟩
      obtain ⟨h1, rfl⟩ := rng_get hd
      have h2 : i + 1 < es.length := by omega
      have i1 : atI (es.map D.int) (1 + (i : Int)) = some (.int (es.getD (i + 1) 0)) := atI_mapI (j := i + 1) (by omega) (getD_at h2)
      have i0 : atI (es.map D.int) (1 + (i : Int) - 1) = some (.int (es.getD i 0)) := atI_mapI (j := i) (by omega) (getD_at (by omega))
      refine ⟨_, evg_name, xs_if (t := (stb f (1 + (i : Int)) == on) && decide (es.getD (i + 1) 0 - es.getD i 0 ≤ m)) (xt_w (xw_and (xt_eq (xe_call c_state_behind (hr.mono (by decide)) (xa_cons (xe_tup (ds := [.bl f, lnE es]) (xa_cons (xv 0) (xa_cons (xv 1) xa_nil))) (xa_cons (xv 5) xa_nil)) (gStateBehind.mk f _ _)) (xv 2) (.bl _ _)) (fun _ => xw_and1 (xt_le (xe_sub (xe_ixT (xv 1) (xv 5) i1) (xe_ixT (xv 1) (xe_sub (xv 5) xe_int) i0)) (xv 3))))) (fun z => ?_) (fun z => ?_)⟩
      · rw [Bool.and_eq_true] at z
        have q : goneU f es on m (i + 1) = goneU f es on m i ++ [(es.getD (i + 1) 0 - es.getD i 0, (i : Int))] := by rw [goneU_succ, if_pos ⟨beq_iff_eq.mp z.1, of_decide_eq_true z.2⟩]
        refine xs_append (i := 4) rfl (xe_tup (ds := [.int (es.getD (i + 1) 0 - es.getD i 0), .int (i : Int)]) (xa_cons (xe_sub (xe_ixT (xv 1) (xv 5) i1) (xe_ixT (xv 1) (xe_sub (xv 5) xe_int) i0)) (xa_cons ((xe_sub (xv 5) xe_int).is (by congr 2; omega)) xa_nil))) (by have := goneU_len f es on m i; rw [List.length_map]; omega) (xs_nil (xs_nil ⟨some (.d (.int (1 + (i : Int)))), ?_, by omega⟩))
        rw [q, List.map_append]
        rfl
      · have q : goneU f es on m (i + 1) = goneU f es on m i := by
          rw [goneU_succ, if_neg, List.append_nil]
          intro y
          rw [y.1, decide_eq_true y.2] at z
          simp at z
        refine xs_nil (xs_nil ⟨some (.d (.int (1 + (i : Int)))), ?_, by omega⟩)
        rw [q]
        rfl
    · rintro ds ρ1 rfl ⟨x, rfl, hle⟩
      refine xs_ret (XP.fz 4 rfl (EvP.imp (xp_sortedP (xv 4) B.sorted) fun r h => ?_))
      obtain ⟨qs, h1, rfl⟩ := h
      have el : (rng 1 ((es.length : Int) - 1).toNat).length = es.length - 1 := by rw [rng_len]; omega
      rw [el] at h1
      exact ⟨_, ⟨qs, h1, rfl⟩, rfl⟩
abbrev s_without_places : Stmt := top 58
theorem ok_without_places {f : Addr} {fd : FuncData} (F : Fun K "without_places" "without_places" s_without_places f fd) (B : Bi mg)  : FnOk P w K mg base CX0 1 f fd ["edges", "places"] (spG L gWithoutPlaces) := by
  refine def_ok (N := ["edges", "places", "left_out", "at", "edge"]) F ⟨rfl, rfl, rfl, by decide +kernel, rfl, by decide +kernel, by decide +kernel⟩ (by decide) (fun _ _ h => by cases h; rfl) fun cdv A outer s H E hr rs Pq h => ?_
  have nd : (["edges", "places", "left_out", "at", "edge"] : List Str).Nodup := by decide +kernel
  cases h with
  | mk es ps hl hp =>
    refine xs_set (i := 2) xe_dnew ?_ (hx := Or.inr rfl)
    refine xs_for (xi_var (i := 1) rfl) (pg_name (i := 3) nd rfl (Or.inl rfl)) (fun ds i ρ' => ∃ kvs x y, ρ' = [some (.d (lnE es)), some (.ro (ps.map .int)), some (.dct kvs), x, y] ∧ kvs.length ≤ 2 * i ∧ ∀ n : Int, (getD' kvs (.inl n)).isSome = (ps.take i).any fun p => decide (n = p) || decide (n = p + 1)) (fun ds hd => ⟨[], none, none, rfl, Nat.zero_le _, fun n => rfl⟩) ?_ ?_
    · rintro ds i d ρ1 rfl hd ⟨kvs, x, y, rfl, e1, e2⟩
      rw [List.getElem?_map] at hd
      cases hg : ps[i]? with
      | none => rw [hg] at hd; cases hd
      | some p =>
        rw [hg] at hd
        cases hd
        have hi : i < ps.length := (List.getElem?_eq_some_iff.mp hg).1
        have n1 := putD_len kvs (.inl p) (.bl true)
        have n2 := putD_len (putD kvs (.inl p) (.bl true)) (.inl (p + 1)) (.bl true)
        refine ⟨_, evg_name, xs_dput (i := 2) (k := .inl p) rfl xe_bl (xv 3) (by omega) (xs_dput (i := 2) (k := .inl (p + 1)) rfl xe_bl (xe_add (xv 3) xe_int) (by omega) (xs_nil ⟨_, _, _, rfl, by omega, fun n => ?_⟩) (ps_dput (room_u1 hr) (pv _) pe_sem pe_sem rfl)) (ps_dput (room_u1 hr) (pv _) pe_sem pe_sem rfl)⟩
        rw [has_putD, has_putD, e2, take_snoc hg, List.any_append, List.any_cons, List.any_nil, Bool.or_false]
        have d1 : decide ((Sum.inl n : Key) = .inl p) = decide (n = p) := by by_cases q : n = p <;> simp [q]
        have d2 : decide ((Sum.inl n : Key) = .inl (p + 1)) = decide (n = p + 1) := by by_cases q : n = p + 1 <;> simp [q]
        rw [d1, d2]
        cases decide (n = p) <;> cases decide (n = p + 1) <;> simp
    · rintro ds ρ1 rfl ⟨kvs, x, y, rfl, e1, e2⟩
      rw [List.length_map, List.take_length] at e2
      refine xs_retE (xe_tupleL (XE.rd (XE.is (xe_lcIf (fun d => match d with | .tup [.int n, _] => !(ps.any fun p => decide (n = p) || decide (n = p + 1)) | _ => false) (fun d => match d with | .tup [_, x] => x | _ => .non) (g := g2 K 3 4) (own := [("at", 3), ("edge", 4)]) (xi_enum (xv 0) B.enum) (blkOk_by (N := ["edges", "places", "left_out", "at", "edge"]) (sc := defScope s_without_places) (by decide +kernel)) (by intro _ _ _ _ _; apply pg_two (i := 3) (j := 4) nd <;> first | rfl | exact Or.inl rfl | exact Or.inr rfl) (fun d hd => ?_) (by rw [enumD_len, List.length_map]; omega)) (r' := .own ((keepAt es ps).map .int)) ?_)) B.tuple) rfl
      · obtain ⟨i, hi⟩ := List.getElem?_of_mem hd
        obtain ⟨x, hx, rfl⟩ := enumD_get hi
        refine ⟨_, evgw_tup2 (K := K) (by decide) (by decide), fun s H1 C cl fp => (xt_dnotin (i := 2) (k := .inl (i : Int)) rfl (xv 3) (room_u1 hr)).is ?_, fun _ s H1 C cl fp => xv 4⟩
        rw [e2]
      · unfold keepAt enumD
        rw [List.zipIdx_map, List.map_map, List.filter_map, List.map_map, List.map_map]
        rfl
abbrev s_with_rung : Stmt := top 65
theorem ok_with_rung {f : Addr} {fd : FuncData} (F : Fun K "with_rung" "with_rung" s_with_rung f fd) (B : Bi mg) (c_gone : Cal P w K mg base 2 "gone" ["first", "edges", "on", "most"] (spG L gGone)) (c_without_places : Cal P w K mg base 1 "without_places" ["edges", "places"] (spG L gWithoutPlaces)) : FnOk P w K mg base CX0 3 f fd ["line", "on", "length"] (spG L gWithRung) := by
  refine def_ok (N := ["line", "on", "length", "going", "at"]) F ⟨rfl, rfl, rfl, by decide +kernel, rfl, by decide +kernel, by decide +kernel⟩ (by decide) (fun _ _ h => by cases h; rfl) fun cdv A outer s H E hr rs Pq h => ?_
  have nd : (["line", "on", "length", "going", "at"] : List Str).Nodup := by decide +kernel
  cases h with
  | mk f es on m hl es' hk =>
    refine xs_setRoP (i := 3) (xp_call c_gone (hr.mono (by decide)) (xa_cons (xe_ixT (xv 0) xe_int rfl) (xa_cons (xe_ixT (xv 0) xe_int rfl) (xa_cons (xv 1) (xa_cons (xv 2) xa_nil)))) (.mk f es on m hl)) ?_
    rintro ds ⟨qs, hq, rfl⟩
    have hql : qs.length ≤ 1000 := by have := goneL_len f es on m; rw [hq.length_eq]; omega
    refine xs_retE (xe_tup (ds := [.bl f, lnE es']) (xa_cons (xe_ixT (xv 0) xe_int rfl) (xa_cons ((xe_call c_without_places (hr.mono (by decide)) (xa_cons (xe_ixT (xv 0) xe_int rfl) (xa_cons (XE.rd (XE.is (xe_lc (fun d => match d with | .tup [_, x] => x | _ => .non) (g := g2 K 2 4) (own := [("length", 2), ("at", 4)]) (xi_var (i := 3) rfl) (blkOk_by (N := ["line", "on", "length", "going", "at"]) (sc := defScope s_with_rung) (by decide +kernel)) (by intro _ _ _ _ _; apply pg_two (i := 2) (j := 4) nd <;> first | rfl | exact Or.inl rfl | exact Or.inr rfl) (fun d hd => ?_) (by rw [List.length_map]; omega)) (r' := .own ((qs.map (·.2)).map .int)) ?_)) xa_nil)) (gWithoutPlaces.mk es (qs.map (·.2)) hl (by rw [List.length_map]; exact hql))).is (by rw [hk qs hq])) xa_nil))) rfl
    · obtain ⟨q, _, rfl⟩ := List.mem_map.mp hd
      exact ⟨_, evgw_tup2 (K := K) (by decide) (by decide), fun s H1 C cl fp => xv 4⟩
    · rw [List.map_map, List.map_map]
      rfl
abbrev s_made_late : Stmt := top 60
theorem ok_made_late {f : Addr} {fd : FuncData} (F : Fun K "made_late" "made_late" s_made_late f fd) (B : Bi mg) (c_state_behind : Cal P w K mg base 1 "state_behind" ["line", "many"] (spG L gStateBehind)) : FnOk P w K mg base CX0 2 f fd ["line", "on_sum", "off_sum"] (spG L gMadeLate) := by
  refine def_ok (N := ["line", "on_sum", "off_sum", "edges", "at", "edge"]) F ⟨rfl, rfl, rfl, by decide +kernel, rfl, by decide +kernel, by decide +kernel⟩ (by decide) (fun _ _ h => by cases h; rfl) fun cdv A outer s H E hr rs Pq h => ?_
  have nd : (["line", "on_sum", "off_sum", "edges", "at", "edge"] : List Str).Nodup := by decide +kernel
  cases h with
  | mk f es hl =>
    refine xs_set (i := 3) (xe_lst (ds := []) xa_nil) ?_
    refine xs_for (xi_enum (xe_ixT (xv 0) xe_int rfl) B.enum) (by apply pg_two (i := 4) (j := 5) nd <;> first | rfl | exact Or.inl rfl | exact Or.inr rfl) (fun ds i ρ' => ∃ x y, ρ' = [some (.d (ln f es)), some (.d (.int 0)), some (.d (.int 0)), some (.own ((es.take i).map .int)), x, y]) (fun ds hd => ⟨none, none, rfl⟩) ?_ ?_
    · rintro ds i d ρ1 rfl hd ⟨x, y, rfl⟩
      obtain ⟨w, hw, rfl⟩ := enumD_get hd
      rw [List.getElem?_map] at hw
      cases hg : es[i]? with
      | none => rw [hg] at hw; cases hw
      | some e =>
        rw [hg] at hw
        cases hw
        have hi : i < es.length := (List.getElem?_eq_some_iff.mp hg).1
        refine ⟨_, evg_tup2, xs_append (i := 3) rfl (xe_add (xv 5) (xe_if (r := .d (.int 0)) (xt_val (xe_call c_state_behind (hr.mono (by decide)) (xa_cons (xv 0) (xa_cons (xe_add (xv 4) xe_int) xa_nil)) (gStateBehind.mk f _ _))) (fun _ => xv 1) (fun _ => xv 2))) (by rw [List.length_map, List.length_take]; omega) (xs_nil ⟨some (.d (.int (i : Int))), some (.d (.int e)), ?_⟩)⟩
        rw [take_snoc hg, List.map_append, Int.add_zero]
        rfl
    · rintro ds ρ1 rfl ⟨x, y, rfl⟩
      rw [enumD_len, List.length_map, List.take_length]
      exact xs_retE (xe_tup (ds := [.bl f, lnE es]) (xa_cons (xe_ixT (xv 0) xe_int rfl) (xa_cons (XE.fz 3 (xe_tupleL (xv 3) B.tuple)) xa_nil))) rfl
end
end Pg
-- Pg4
namespace Pg
open PySem L2 Dl Mx Hr
section
variable {P : Program} {w : World} {K : PySem.W.Frag} {mg : Str → Option Value} {base : Heap} {L : Lay}
inductive gCoreWith : Ct
  | mk (f : Bool) (es : List Int) (l : Ld) (hl : es.length ≤ 1000) (hll : l.length ≤ 90) : gCoreWith [.d (ln f es), .d (ldD l)] (fun z => z = .d (.tup [ln f (core f es l), .opq]))
inductive gPassedBy : Ct
  | mk (f : Bool) (es : List Int) (l : Ld) (hl : es.length ≤ 1000) (hll : l.length ≤ 90) : gPassedBy [.d (ln f es), .d (shD l)] (fun z => z = .d (ln f (core f es l)))
inductive gRunsOf : Ct
  | mk (s : List Bool) (hs : s.length ≤ 1000) : gRunsOf [.d (stp (s.map wd))] (fun z => z = .d (ldD (runs s)))
def coD (f : Bool) (r : Ld × List Int) : D := .tup [ldD r.1, ln f r.2]
def fD (f : Bool) (p : List Bool × List Int) : D := .tup [stp (p.1.map wd), ln f p.2]
def AllC (f : Bool) (es : List Int) (m : Nat) (rs : List (Ld × List Int)) : Prop :=
  (∀ r ∈ rs, ∃ s, Valid m s ∧ r = (runs s, coreS f es s)) ∧ (∀ s, Valid m s → (runs s, coreS f es s) ∈ rs) ∧ rs.length ≤ 251
inductive gAllCores : Ct
  | mk (f : Bool) (es : List Int) (m : Nat) (hl : es.length ≤ 1000) (hm : m ≤ 4) : gAllCores [.d (ln f es), .d (.int m)] (fun z => ∃ ds, (∃ rs, AllC f es m rs ∧ ds = rs.map (coD f)) ∧ z = .own ds)
abbrev s_core_with : Stmt := top 59
theorem ok_core_with {f : Addr} {fd : FuncData} (F : Fun K "core_with" "core_with" s_core_with f fd) (B : Bi mg) (c_gone : Cal P w K mg base 2 "gone" ["first", "edges", "on", "most"] (spG L gGone)) (c_without_places : Cal P w K mg base 1 "without_places" ["edges", "places"] (spG L gWithoutPlaces)) : FnOk P w K mg base CX0 3 f fd ["line", "ladder"] (spG L gCoreWith) := by
  refine def_ok (N := ["line", "ladder", "first", "edges", "events", "high", "deep", "word", "many", "going", "name", "length", "at"]) F ⟨rfl, rfl, rfl, by decide +kernel, rfl, by decide +kernel, by decide +kernel⟩ (by decide) (fun _ _ h => by cases h; rfl) fun cdv A outer s H E hr rs Pq h => ?_
  have nd : (["line", "ladder", "first", "edges", "events", "high", "deep", "word", "many", "going", "name", "length", "at"] : List Str).Nodup := by decide +kernel
  cases h with
  | mk f es l hl hll =>
    refine xs_asg (xv 0) (by apply pg_two (i := 2) (j := 3) nd <;> first | rfl | exact Or.inl rfl | exact Or.inr rfl) evg_tup2 ?_
    refine xs_set (i := 4) (xe_lst (ds := []) xa_nil) (xs_set (i := 5) xe_int (xs_set (i := 6) xe_int ?_))
    refine xs_for (xi_tup (xv 1)) (by apply pg_two (i := 7) (j := 8) nd <;> first | rfl | exact Or.inl rfl | exact Or.inr rfl) (fun ds i ρ' => ∃ (cur : List Int) (ev : List D) (a b : Int) (x7 x8 x9 x10 x11 x12 : Option Rep), ρ' = [some (.d (ln f es)), some (.d (ldD l)), some (.d (.bl f)), some (.d (lnE cur)), some (.own ev), some (.d (.int a)), some (.d (.int b)), x7, x8, x9, x10, x11, x12] ∧ (a, b, cur) = (l.take i).foldl (coreStep f) (0, 0, es) ∧ cur.length ≤ 1000 ∧ ev.length ≤ 1000 * i) (fun ds hd => ⟨es, [], 0, 0, none, none, none, none, none, none, rfl, rfl, hl, Nat.zero_le _⟩) ?_ ?_
    · rintro ds i d ρ1 rfl hd ⟨cur, ev, a, b, x7, x8, x9, x10, x11, x12, rfl, ea, ec, ee⟩
      rw [List.getElem?_map] at hd
      cases hg : l[i]? with
      | none => rw [hg] at hd; cases hd
      | some g =>
        rw [hg] at hd
        cases hd
        have hi : i < l.length := (List.getElem?_eq_some_iff.mp hg).1
        have st : (l.take (i + 1)).foldl (coreStep f) (0, 0, es) = coreStep f (a, b, cur) g := by rw [take_snoc hg, List.foldl_append, ← ea]; rfl
        refine ⟨_, evg_tup2, xs_ifJ (fun ρ' => ∃ (hi de m : Int) (on : Bool) (qs : List (Int × Int)), ρ' = [some (.d (ln f es)), some (.d (ldD l)), some (.d (.bl f)), some (.d (lnE cur)), some (.own ev), some (.d (.int hi)), some (.d (.int de)), some (.d (.str (wd g.1))), some (.d (.int g.2)), some (.ro (qs.map pD)), x10, x11, x12] ∧ qs.Perm (goneL f cur on m) ∧ (hi, de, remL f on m cur) = coreStep f (a, b, cur) g) (xt_eq (xv 7) xe_str (.str _ _)) (fun z => ?_) (fun z => ?_) ?_⟩
        · rw [wd_up] at z
          refine xs_augAdd (i := 5) rfl (xv 8) (xs_setRoP (i := 9) (xp_call c_gone (hr.mono (by decide)) (xa_cons (xv 2) (xa_cons (xv 3) (xa_cons xe_bl (xa_cons (xv 5) xa_nil)))) (.mk f cur false (a + g.2) ec)) ?_)
          rintro ds ⟨qs, hq, rfl⟩
          refine xs_nil ⟨_, _, _, _, qs, rfl, hq, ?_⟩
          unfold coreStep
          rw [if_pos z]
        · rw [wd_up] at z
          refine xs_augAdd (i := 6) rfl (xv 8) (xs_setRoP (i := 9) (xp_call c_gone (hr.mono (by decide)) (xa_cons (xv 2) (xa_cons (xv 3) (xa_cons xe_bl (xa_cons (xv 6) xa_nil)))) (.mk f cur true (b + g.2) ec)) ?_)
          rintro ds ⟨qs, hq, rfl⟩
          refine xs_nil ⟨_, _, _, _, qs, rfl, hq, ?_⟩
          unfold coreStep
          rw [if_neg (by rw [z]; exact Bool.false_ne_true)]
        · rintro ρ' ⟨hi', de, m, on, qs, rfl, hq, hs⟩
          have hql : qs.length ≤ 1000 := by have := goneL_len f cur on m; rw [hq.length_eq]; omega
          have hrl := remL_len f on m cur
          refine xs_set (i := 10) (r := .d (.str (if g.1 = true then "filled" else "struck"))) (xe_if (xt_eq (xv 7) xe_str (.str _ _)) (fun z => ?_) (fun z => ?_)) ?_ (hx := Or.inr rfl)
          · rw [wd_up] at z
            rw [if_pos z]
            exact xe_str
          · rw [wd_up] at z
            rw [if_neg (by rw [z]; exact Bool.false_ne_true)]
            exact xe_str
          refine xs_extend (i := 4) rfl (xe_lc (fun d => match d with | .tup [.int n, .int k] => .tup [.str (if g.1 = true then "filled" else "struck"), .int n, .int (cur.getD k.toNat 0)] | _ => .non) (g := g2 K 11 12) (own := [("length", 11), ("at", 12)]) (xi_var (i := 9) rfl) (blkOk_by (N := ["line", "ladder", "first", "edges", "events", "high", "deep", "word", "many", "going", "name", "length", "at"]) (sc := defScope s_core_with) (by decide +kernel)) (by intro _ _ _ _ _; apply pg_two (i := 11) (j := 12) nd <;> first | rfl | exact Or.inl rfl | exact Or.inr rfl) (fun d hd => ?_) (by rw [List.length_map]; omega)) (by rw [List.length_map, List.length_map]; omega) ?_
          · obtain ⟨q, hqm, rfl⟩ := List.mem_map.mp hd
            have hq2 := hq.mem_iff.mp hqm
            unfold goneL goneU at hq2
            obtain ⟨k, hk, rfl⟩ := List.mem_map.mp hq2
            have hk2 := (goneL_mem k).mp hk
            have hk3 : k + 1 < cur.length := by
              unfold gP at hk2
              rw [Bool.and_eq_true, decide_eq_true_eq] at hk2
              exact hk2.1
            exact ⟨_, evgw_tup2 (K := K) (by decide) (by decide), fun s H1 C cl fp => xe_tup (ds := [.str _, .int _, .int _]) (xa_cons (xv 10) (xa_cons (xv 11) (xa_cons (xe_ixT (xv 3) (xv 12) (atI_map (getD_at (by omega)))) xa_nil)))⟩
          refine xs_set (i := 3) ((xe_call c_without_places (hr.mono (by decide)) (xa_cons (xv 3) (xa_cons (XE.rd (XE.is (xe_lc (fun d => match d with | .tup [_, x] => x | _ => .non) (g := g2 K 11 12) (own := [("length", 11), ("at", 12)]) (xi_var (i := 9) rfl) (blkOk_by (N := ["line", "ladder", "first", "edges", "events", "high", "deep", "word", "many", "going", "name", "length", "at"]) (sc := defScope s_core_with) (by decide +kernel)) (by intro _ _ _ _ _; apply pg_two (i := 11) (j := 12) nd <;> first | rfl | exact Or.inl rfl | exact Or.inr rfl) (fun d hd => ?_) (by rw [List.length_map]; omega)) (r' := .own ((qs.map (·.2)).map .int)) ?_)) xa_nil)) (gWithoutPlaces.mk cur (qs.map (·.2)) ec (by rw [List.length_map]; exact hql))).is (by rw [keepAt_gone hq])) ?_ (hx := Or.inr rfl)
          · obtain ⟨q, _, rfl⟩ := List.mem_map.mp hd
            exact ⟨_, evgw_tup2 (K := K) (by decide) (by decide), fun s H1 C cl fp => xv 12⟩
          · rw [List.map_map, List.map_map]
            rfl
          · refine xs_nil ⟨remL f on m cur, _, hi', de, some (.d (.str (wd g.1))), some (.d (.int g.2)), some (.ro (qs.map pD)), some (.d (.str (if g.1 = true then "filled" else "struck"))), x11, x12, rfl, by rw [st, hs], by omega, ?_⟩
            rw [List.length_append, List.length_map, List.length_map]
            omega
    · rintro ds ρ1 rfl ⟨cur, ev, a, b, x7, x8, x9, x10, x11, x12, rfl, ea, ec, ee⟩
      rw [List.length_map, List.take_length] at ea
      have ecur : core f es l = cur := by unfold core; rw [← ea]
      refine xs_retE (xe_tup (ds := [ln f cur, .opq]) (xa_cons (xe_tup (ds := [.bl f, lnE cur]) (xa_cons (xv 2) (xa_cons (xv 3) xa_nil))) (xa_cons (XE.fz 4 (xv 4).opq) xa_nil))) ?_
      rw [ecur]
abbrev s_passed_by : Stmt := top 61
theorem ok_passed_by {f : Addr} {fd : FuncData} (F : Fun K "passed_by" "passed_by" s_passed_by f fd) (B : Bi mg) (c_core_with : Cal P w K mg base 3 "core_with" ["line", "ladder"] (spG L gCoreWith)) (c_made_late : Cal P w K mg base 2 "made_late" ["line", "on_sum", "off_sum"] (spG L gMadeLate)) : FnOk P w K mg base CX0 4 f fd ["line", "told"] (spG L gPassedBy) := by
  refine def_ok (N := ["line", "told"]) F ⟨rfl, rfl, rfl, by decide +kernel, rfl, by decide +kernel, by decide +kernel⟩ (by decide) (fun _ _ h => by cases h; rfl) fun cdv A outer s H E hr rs Pq h => ?_
  have nd : (["line", "told"] : List Str).Nodup := by decide +kernel
  cases h with
  | mk f es l hl hll =>
    have h2 : (core f es l).length ≤ 1000 := Nat.le_trans (core_len f es l) hl
    exact xs_retE (xe_call c_made_late (hr.mono (by decide)) (xa_cons (xe_ixT (xe_call c_core_with (hr.mono (by decide)) (xa_cons (xv 0) (xa_cons (xe_ixT (xv 1) xe_int rfl) xa_nil)) (gCoreWith.mk f es l hl hll)) xe_int rfl) (xa_cons (xe_ixT (xv 1) xe_int rfl) (xa_cons (xe_ixT (xv 1) xe_int rfl) xa_nil))) (gMadeLate.mk f _ h2)) rfl
end
end Pg
-- Pg5
namespace Pg
open PySem L2 Dl Mx Hr
theorem cu_wd (s : List Bool) : ((s.map wd).countP fun y : Str => y == "up") = cu s := by
  unfold cu
  rw [List.countP_map]
  congr 1
  funext b
  cases b <;> decide +kernel
theorem cd_wd (s : List Bool) : ((s.map wd).countP fun y : Str => y == "down") = cd s := by
  unfold cd
  rw [List.countP_map]
  congr 1
  funext b
  cases b <;> decide +kernel
theorem stp_inj {ss tt : List Str} (hs : ss.length ≤ 1000) (ht : tt.length ≤ 1000) (e : stp ss = stp tt) : ss = tt := by
  have e1 : TupX ss = TupX tt := by injection e
  have e2 : TupX ss 0 = TupX tt 0 := by rw [e1]
  unfold TupX at e2
  injection e2 with e3
  have mk : ∀ l : List Str, Vals (l.map V.str) (l.map fun s => Value.str s 0) := by
    intro l
    induction l with
    | nil => exact .nil
    | cons x l ih => exact .cons ⟨0, rfl⟩ ih
  let h : PySem.Heap := ({ objs := #[] } : PySem.Heap).push { cls := .type "tuple", data := .seq (ss.map fun s => Value.str s 0).toArray }
  have hg : h.get? 0 = some { cls := .type "tuple", data := .seq (ss.map fun s => Value.str s 0).toArray } := Heap.get?_push_size _ rfl
  have h1 : (fun h : PySem.Heap => ss.length ≤ sizeLine ∧ ∃ its : List Value, Vals (ss.map V.str) its ∧ h.get? 0 = some { cls := .type "tuple", data := .seq its.toArray }) h := ⟨Nat.le_trans hs (by decide), _, mk ss, hg⟩
  rw [e3] at h1
  obtain ⟨_, its, r, e4⟩ := h1
  rw [hg] at e4
  have q := congrArg Obj.data (Option.some.inj e4)
  have q2 : (ss.map fun s => Value.str s 0) = its := by
    injection q with q
    have := congrArg Array.toList q
    simpa using this
  exact vals_strs_inj (mk ss) (q2 ▸ r)
theorem wd_inj : ∀ {s t : List Bool}, s.map wd = t.map wd → s = t
  | [], [], _ => rfl
  | [], _ :: _, e => by cases e
  | _ :: _, [], e => by cases e
  | a :: s, b :: t, e => by
    simp only [List.map_cons] at e
    injection e with e1 e2
    rw [wd_inj e2]
    revert e1
    cases a <;> cases b <;> first | (intro; rfl) | (intro e1; exact absurd e1 (by decide +kernel))
theorem int_inj : ∀ {s t : List Int}, s.map D.int = t.map D.int → s = t
  | [], [], _ => rfl
  | [], _ :: _, e => by cases e
  | _ :: _, [], e => by cases e
  | a :: s, b :: t, e => by
    simp only [List.map_cons] at e
    injection e with e1 e2
    injection e1 with e1
    rw [e1, int_inj e2]
theorem fD_inj {f : Bool} {p q : List Bool × List Int} (hp : p.1.length ≤ 1000) (hq : q.1.length ≤ 1000) (e : fD f p = fD f q) : p = q := by
  unfold fD at e
  injection e with e
  injection e with e1 e2
  injection e2 with e2 _
  injection e2 with e2
  injection e2 with _ e2
  injection e2 with e2 _
  injection e2 with e2
  exact Prod.ext (wd_inj (stp_inj (by rw [List.length_map]; exact hp) (by rw [List.length_map]; exact hq) e1)) (int_inj e2)
open Classical in
noncomputable def openH (f : Bool) (fs : List (List Bool × List Int)) (d : D) : D := if h : ∃ p ∈ fs, d = fD f p then coD f (runs (Classical.choose h).1, (Classical.choose h).2) else .non
theorem openH_eq {f : Bool} {fs : List (List Bool × List Int)} (inj : ∀ p ∈ fs, ∀ q ∈ fs, fD f p = fD f q → p = q) {p : List Bool × List Int} (hp : p ∈ fs) : openH f fs (fD f p) = coD f (runs p.1, p.2) := by
  have h : ∃ q ∈ fs, fD f p = fD f q := ⟨p, hp, rfl⟩
  unfold openH
  rw [dif_pos h]
  have q := Classical.choose_spec h
  rw [← inj p hp _ q.1 q.2]
section
variable {P : Program} {w : World} {K : PySem.W.Frag} {mg : Str → Option Value} {base : Heap} {L : Lay}
abbrev s_all_cores : Stmt := top 67
theorem ok_all_cores {f : Addr} {fd : FuncData} (F : Fun K "all_cores" "all_cores" s_all_cores f fd) (B : Bi mg) (c_with_rung : Cal P w K mg base 3 "with_rung" ["line", "on", "length"] (spG L gWithRung)) (c_runs_of : Cal P w K mg base 4 "runs_of" ["steps"] (spG L gRunsOf)) : FnOk P w K mg base CX0 5 f fd ["line", "most"] (spG L gAllCores) := by
  refine def_ok (N := ["line", "most", "found", "at", "steps", "here", "high", "deep"]) F ⟨rfl, rfl, rfl, by decide +kernel, rfl, by decide +kernel, by decide +kernel⟩ (by decide) (fun _ _ h => by cases h; rfl) fun cdv A outer s H E hr rs Pq h => ?_
  have nd : (["line", "most", "found", "at", "steps", "here", "high", "deep"] : List Str).Nodup := by decide +kernel
  cases h with
  | mk f es mo hl hm =>
    have hW := Wn_le mo hm
    refine xs_set (i := 2) (xe_lst (ds := [fD f ([], es)]) (xa_cons (xe_tup (ds := [stp [], ln f es]) (xa_cons xe_stp0 (xa_cons (xv 0) xa_nil))) xa_nil)) (xs_set (i := 3) xe_int ?_)
    refine xs_while (fun m ρ' => ∃ (at_ : Nat) (fs : List (List Bool × List Int)) (x4 x5 x6 x7 : Option Rep), ρ' = [some (.d (ln f es)), some (.d (.int mo)), some (.own (fs.map (fD f))), some (.d (.int at_)), x4, x5, x6, x7] ∧ Opn f es mo fs at_ m) (Wn mo mo) ⟨0, [([], es)], none, none, none, none, rfl, opn_start f es mo⟩ ?_
    rintro m ρ1 ⟨at_, fs, x4, x5, x6, x7, rfl, o⟩
    have hroom := o.room
    refine ⟨decide ((at_ : Int) < fs.length), XT.fz (ds := fs.map (fD f)) 2 ((xt_lt (xv 3) (xe_lenL (xv 2) B.len)).is (by rw [List.length_map])), fun z => ?_, fun z => ?_⟩
    · have hlt : at_ < fs.length := by have := of_decide_eq_true z; omega
      have hg : fs[at_]? = some fs[at_] := by simp [hlt]
      generalize fs[at_] = p at hg
      obtain ⟨s, e1⟩ := p
      have hv := o.val _ (List.mem_of_getElem? hg)
      have hsl : s.length ≤ 2 * mo := hv.1.len
      have hel : e1.length ≤ 1000 := by
        have h1 : e1 = coreS f es s := hv.2
        rw [h1]
        exact Nat.le_trans (coreS_len f es s) hl
      obtain ⟨m', hm', o'⟩ := o.next hg
      have hroom' := o'.room
      refine xs_asg (XE.fz 2 (xe_ixL (d := fD f (s, e1)) (xv 2) (xv 3) (atI_mapF hg))) (by apply pg_two (i := 4) (j := 5) nd <;> first | rfl | exact Or.inl rfl | exact Or.inr rfl) evg_tup2 ?_
      refine xs_augAdd (i := 3) rfl xe_int ?_
      refine xs_set (i := 6) ((xe_cntX (xv 4) xe_str).is (r' := .d (.int (cu s))) (by rw [cu_wd])) (xs_set (i := 7) ((xe_cntX (xv 4) xe_str).is (r' := .d (.int (cd s))) (by rw [cd_wd])) ?_)
      have hfl : fs.length + (upE f mo (s, e1)).length + (downE f mo (s, e1)).length ≤ 251 := by
        rw [← List.length_append, ← List.length_append]; omega
      refine xs_ifJ (fun ρ' => ρ' = [some (.d (ln f es)), some (.d (.int mo)), some (.own ((fs ++ upE f mo (s, e1)).map (fD f))), some (.d (.int ((at_ : Int) + 1))), some (.d (stp (s.map wd))), some (.d (ln f e1)), some (.d (.int (cu s))), some (.d (.int (cd s)))]) (xt_lt (xv 6) (xv 1)) (fun z => ?_) (fun z => ?_) ?_
      · have zc : cu s < mo := by have := of_decide_eq_true z; omega
        refine xs_append (i := 2) (d := fD f (s ++ [true], remL f false ((cu s : Int) + 1) e1)) rfl (xe_tup (ds := [stp ((s ++ [true]).map wd), ln f (remL f false ((cu s : Int) + 1) e1)]) (xa_cons ((xe_catX (xv 4) (xe_stp1 xe_str) (by simp) (by rw [List.length_map]; show s.length + 1 ≤ _; omega)).is (by rw [List.map_append]; rfl)) (xa_cons (xe_call c_with_rung (hr.mono (by decide)) (xa_cons (xv 5) (xa_cons xe_bl (xa_cons (xe_add (xv 6) xe_int) xa_nil))) (gWithRung.mk f e1 false ((cu s : Int) + 1) hel _ fun qs hq => keepAt_gone hq)) xa_nil))) (by rw [List.length_map]; omega) (xs_nil ?_)
        show _ = _
        unfold upE
        rw [if_pos zc, List.map_append]
        rfl
      · have zc : ¬ cu s < mo := by have := of_decide_eq_false z; omega
        refine xs_nil ?_
        show _ = _
        unfold upE
        rw [if_neg zc, List.append_nil]
        rfl
      · rintro ρ' rfl
        have done : ∀ fs', fs' = fs ++ upE f mo (s, e1) ++ downE f mo (s, e1) → ∃ (m' : Nat), m' < m ∧ ∃ (at_' : Nat) (fs : List (List Bool × List Int)) (x4 x5 x6 x7 : Option Rep), [some (Rep.d (ln f es)), some (.d (.int mo)), some (.own (fs'.map (fD f))), some (.d (.int ((at_ : Int) + 1))), some (.d (stp (s.map wd))), some (.d (ln f e1)), some (.d (.int (cu s))), some (.d (.int (cd s)))] = [some (.d (ln f es)), some (.d (.int mo)), some (.own (fs.map (fD f))), some (.d (.int at_')), x4, x5, x6, x7] ∧ Opn f es mo fs at_' m' := by
          rintro fs' rfl
          exact ⟨m', hm', at_ + 1, _, _, _, _, _, rfl, o'⟩
        refine xs_if (xt_lt (xv 7) (xv 1)) (fun z => ?_) (fun z => ?_)
        · have zc : cd s < mo := by have := of_decide_eq_true z; omega
          refine xs_append (i := 2) (d := fD f (s ++ [false], remL f true ((cd s : Int) + 1) e1)) rfl (xe_tup (ds := [stp ((s ++ [false]).map wd), ln f (remL f true ((cd s : Int) + 1) e1)]) (xa_cons ((xe_catX (xv 4) (xe_stp1 xe_str) (by simp) (by rw [List.length_map]; show s.length + 1 ≤ _; omega)).is (by rw [List.map_append]; rfl)) (xa_cons (xe_call c_with_rung (hr.mono (by decide)) (xa_cons (xv 5) (xa_cons xe_bl (xa_cons (xe_add (xv 7) xe_int) xa_nil))) (gWithRung.mk f e1 true ((cd s : Int) + 1) hel _ fun qs hq => keepAt_gone hq)) xa_nil))) (by rw [List.length_map, List.length_append]; omega) (xs_nil (xs_nil ?_))
          have q := done (fs ++ upE f mo (s, e1) ++ [(s ++ [false], remL f true ((cd s : Int) + 1) e1)]) (by unfold downE; rw [if_pos zc])
          rw [List.map_append] at q
          exact q
        · have zc : ¬ cd s < mo := by have := of_decide_eq_false z; omega
          exact xs_nil (xs_nil (done (fs ++ upE f mo (s, e1)) (by unfold downE; rw [if_neg zc, List.append_nil])))
    · have hle : fs.length ≤ at_ := by have := of_decide_eq_false z; omega
      have hall := o.all hle
      have inj : ∀ p ∈ fs, ∀ q ∈ fs, fD f p = fD f q → p = q := fun p hp q hq e => fD_inj (by have := (o.val p hp).1.len; omega) (by have := (o.val q hq).1.len; omega) e
      refine xs_ret (XP.fz 2 rfl (XE.p (xe_lc (openH f fs) (g := g2 K 4 5) (own := [("steps", 4), ("here", 5)]) (xi_var (i := 2) rfl) (blkOk_by (N := ["line", "most", "found", "at", "steps", "here", "high", "deep"]) (sc := defScope s_all_cores) (by decide +kernel)) (by intro _ _ _ _ _; apply pg_two (i := 4) (j := 5) nd <;> first | rfl | exact Or.inl rfl | exact Or.inr rfl) (fun d hd => ?_) (by rw [List.length_map]; omega)) ?_))
      · obtain ⟨p, hp, rfl⟩ := List.mem_map.mp hd
        refine ⟨_, evgw_tup2 (K := K) (by decide) (by decide), fun s H1 C cl fp => XE.is (xe_tup (ds := [ldD (runs p.1), ln f p.2]) (xa_cons (xe_call c_runs_of (hr.mono (by decide)) (xa_cons (xv 4) xa_nil) (gRunsOf.mk p.1 (by have := (o.val p hp).1.len; omega))) (xa_cons (xv 5) xa_nil))) ?_⟩
        rw [openH_eq inj hp]
        rfl
      · refine ⟨_, ⟨fs.map fun p => (runs p.1, p.2), ⟨fun r hr => ?_, fun s hs => ?_, by rw [List.length_map]; omega⟩, ?_⟩, rfl⟩
        · obtain ⟨p, hp, rfl⟩ := List.mem_map.mp hr
          exact ⟨p.1, (o.val p hp).1, by rw [← (o.val p hp).2]⟩
        · exact List.mem_map.mpr ⟨_, hall s hs, rfl⟩
        · rw [List.map_map, List.map_map]
          apply List.map_congr_left
          intro p hp
          exact openH_eq inj hp
end
end Pg
set_option maxHeartbeats 2880000
-- Hr4
/-! Hr4: < and == of data at any depth; sorted of rows of which the first is empty. -/
namespace Dl
open PySem PySem.Spec PySem.W PyProof.Rows L2
mutual
def pdD : D → PyData
  | .non => .none
  | .bl b => .bool b
  | .int i => .int i
  | .str x => .str x
  | .tup ds => .tuple (pdA ds)
  | .obj _ => .none
  | .opq => .none
def pdA : List D → List PyData
  | [] => []
  | d :: ds => pdD d :: pdA ds
end
theorem pdA_map : ∀ ds : List D, pdA ds = ds.map pdD
  | [] => by rw [pdA]; rfl
  | d :: ds => by rw [pdA, List.map_cons, pdA_map ds]
mutual
def plainD : D → Bool
  | .tup ds => plainA ds
  | .obj _ => false
  | .opq => false
  | _ => true
def plainA : List D → Bool
  | [] => true
  | d :: ds => plainD d && plainA ds
end
mutual
theorem dp_of {K : PySem.W.Frag} {H : Hp} : ∀ (d : D) (v : V), Dv H v d → plainD d = true → Dp K H v (pdD d)
  | .non, _, h, _ => by cases h; rw [pdD]; exact .non
  | .bl b, _, h, _ => by cases h; rw [pdD]; exact .bl b
  | .int i, _, h, _ => by cases h; rw [pdD]; exact .int i
  | .str x, _, h, _ => by cases h; rw [pdD]; exact .str x
  | .tup ds, _, h, p => by
    rw [plainD] at p
    cases h with
    | tup h1 h2 => rw [pdD]; exact .tup (SqT.of h1) (dpA_of ds _ h2 p)
  | .obj F, _, h, p => by simp [plainD] at p
  | .opq, _, h, p => by simp [plainD] at p
theorem dpA_of {K : PySem.W.Frag} {H : Hp} : ∀ (ds : List D) (vs : List V), DvA H vs ds → plainA ds = true → DpAll K H vs (pdA ds)
  | [], _, h, _ => by cases h; rw [pdA]; exact .nil
  | d :: ds, _, h, p => by
    rw [plainA, Bool.and_eq_true] at p
    cases h with
    | cons h1 h2 => rw [pdA]; exact .cons (dp_of d _ h1 p.1) (dpA_of ds _ h2 p.2)
end
/-- alike at any heap: the two can be compared -/
structure Cmp2 (x y : D) : Prop where
  px : plainD x = true
  py : plainD y = true
  al : alike (pdD x) (pdD y) = true
  nn : pdD x ≠ .none
  dp : (pdD x).depth ≤ 60
section
variable {X : Cx} {L : Lay} {ρ : Rho} {a b : Expr} {pos : Pos} {x y : D}
def rLtD (K : PySem.W.Frag) : R2 := fun v w H Q => ∃ d e, Dp K H v d ∧ Dp K H w e ∧ alike d e = true ∧ d ≠ .none ∧ d.depth ≤ 60 ∧ Q (.bl (dataLt d e)) H
theorem op_ltD (hu : X.A.units + 65 < cLine) : OpR X (compareOp .Lt) (rLtD X.K) := by
  intro pins s σ H v1 v2 u1 u2 Q J k1 k2 ⟨d, e, hd, he, al, nn, dp, q⟩
  obtain ⟨_, r1⟩ := Dp.reads J d v1 u1 hd k1
  obtain ⟨_, r2⟩ := Dp.reads J e v2 u2 he k2
  have small : min d.depth e.depth ≤ d.depth := Nat.min_le_left _ _
  exact lt_data r1 r2 al nn (by omega) ⟨.bl _, H, J, rfl, q⟩
theorem od_ltD {K : PySem.W.Frag} (c : Cmp2 x y) : OpD L (rLtD K) (.d x) (.d y) (fun q => q = .d (.bl (dataLt (pdD x) (pdD y)))) := fun H Hb vx vy Q g hx hy k =>
  ⟨_, _, dp_of x _ hx c.px, dp_of y _ hy c.py, c.al, c.nn, c.dp, k _ _ Hb rfl (Step.refl _) g (Dv.bl _)⟩
theorem xe_ltD (ha : XE X L a ρ (.d x)) (hb : XE X L b ρ (.d y)) (c : Cmp2 x y) (hu : X.A.units + 65 < cLine) : XE X L (.Compare a [.Lt] [b] pos) ρ (.d (.bl (dataLt (pdD x) (pdD y)))) := xe_cmp (op_ltD hu) (od_ltD c) ha hb (nomark _)
theorem xt_ltD (ha : XE X L a ρ (.d x)) (hb : XE X L b ρ (.d y)) (c : Cmp2 x y) (hu : X.A.units + 65 < cLine) : XT X L (.Compare a [.Lt] [b] pos) ρ (dataLt (pdD x) (pdD y)) := xt_cmp (op_ltD hu) (od_ltD c) ha hb (nomark _)
/-- ==, != of data at any depth -/
structure Eqs2 (x y : D) : Prop where
  px : plainD x = true
  py : plainD y = true
  sx : SeqAt.shaped (pdD x) = true
  sy : SeqAt.shaped (pdD y) = true
theorem od_eqD {K : PySem.W.Frag} (c : Eqs2 x y) : OpD L (rEqD K) (.d x) (.d y) (fun q => q = .d (.bl (PyData.eqv (pdD x) (pdD y)))) := fun H Hb vx vy Q g hx hy k =>
  ⟨_, _, dp_of x _ hx c.px, dp_of y _ hy c.py, c.sx, c.sy, k _ _ Hb rfl (Step.refl _) g (Dv.bl _)⟩
theorem pd_non {x : D} (p : plainD x = true) : True := trivial
theorem xe_eqD (ha : XE X L a ρ (.d x)) (hb : XE X L b ρ (.d y)) (c : Eqs2 x y) (hu : X.A.units + 65 < cLine) : XE X L (.Compare a [.Eq] [b] pos) ρ (.d (.bl (PyData.eqv (pdD x) (pdD y)))) := xe_cmp (op_eqD (by omega)) (od_eqD c) ha hb (nomark _)
theorem xt_eqD (ha : XE X L a ρ (.d x)) (hb : XE X L b ρ (.d y)) (c : Eqs2 x y) (hu : X.A.units + 65 < cLine) : XT X L (.Compare a [.Eq] [b] pos) ρ (PyData.eqv (pdD x) (pdD y)) := xt_cmp (op_eqD (by omega)) (od_eqD c) ha hb (nomark _)
theorem od_neD {K : PySem.W.Frag} (c : Eqs2 x y) : OpD L (rNeD K) (.d x) (.d y) (fun q => q = .d (.bl (!PyData.eqv (pdD x) (pdD y)))) := fun H Hb vx vy Q g hx hy k =>
  ⟨_, _, dp_of x _ hx c.px, dp_of y _ hy c.py, c.sx, c.sy, k _ _ Hb rfl (Step.refl _) g (Dv.bl _)⟩
theorem xe_neD (ha : XE X L a ρ (.d x)) (hb : XE X L b ρ (.d y)) (c : Eqs2 x y) (hu : X.A.units + 65 < cLine) : XE X L (.Compare a [.NotEq] [b] pos) ρ (.d (.bl (!PyData.eqv (pdD x) (pdD y)))) := xe_cmp (op_neD (by omega)) (od_neD c) ha hb (nomark _)
theorem xt_neD (ha : XE X L a ρ (.d x)) (hb : XE X L b ρ (.d y)) (c : Eqs2 x y) (hu : X.A.units + 65 < cLine) : XT X L (.Compare a [.NotEq] [b] pos) ρ (!PyData.eqv (pdD x) (pdD y)) := xt_cmp (op_neD (by omega)) (od_neD c) ha hb (nomark _)
end
end Dl

namespace Hr
open PySem PySem.Spec PySem.W PyProof.Rows PySem.SeqAt
section
variable {s : Shared} {P : Program} {w : World} {A : Around} {E : Value → Shared → Prop}
/-- tuples, and what stands first in each -/
def TupsAt (g : Heap) : List Value → List (Option Value) → Prop
  | [], [] => True
  | v :: vs, f :: fs => (∃ a o xs n, v = .ref a ∧ g.get? a = some o ∧ o.cls = .type "tuple" ∧ o.data = .seq xs n ∧ xs[0]? = f) ∧ TupsAt g vs fs
  | _, _ => False
theorem firsts_at {M : Model} (us : List Value) : ∀ (fs : List (Option Value)) {Q : List (Option Value) → Shared → Prop}, TupsAt s.heap us fs → Q fs s → wpAny M A (us.mapM firstOfTuple') Q E s := by
  induction us with
  | nil =>
    intro fs Q h k
    cases fs with
    | nil =>
      rw [List.mapM_nil]
      exact wpAny_pure k
    | cons f fs => exact h.elim
  | cons v us ih =>
    intro fs Q h k
    cases fs with
    | nil => exact h.elim
    | cons f fs =>
      obtain ⟨⟨b, ob, ws, m, rfl, q1, q2, q3, q4⟩, rest⟩ := h
      have ty : Looks M s.heap (typeOf (.ref b)) ob.cls := (Looks.ld q1).andThen .now
      rw [List.mapM_cons, kas_first_eq]
      refine wpAny_bind (wpAny_bind (ty.here ?_))
      have nt : ¬ (ob.cls != Value.type "tuple") = true := by rw [q2]; decide
      first | rw [if_neg nt] | (rw [q2]; rw [if_neg (by decide)])
      refine wpAny_bind (listItems_at q1 q3 (wpAny_pure ?_))
      rw [q4]
      exact wpAny_bind (ih fs (Q := fun bs s2 => wpAny M A (pure (f :: bs)) Q E s2) rest (wpAny_pure k))
theorem kind_first0 {M : Model} {us : List Value} {fs : List (Option Value)} {Q : SortKind → Shared → Prop} (t : TupsAt s.heap us (none :: fs)) (ty : ∀ v ∈ us, Looks M s.heap (typeOf v) (Value.type "tuple")) (k : Q oneType' s) : wpAny M A (keyKind' us.toArray) Q E s := by
  cases us with
  | nil => exact t.elim
  | cons v1 vr =>
    have same : ((List.map (fun _ => Value.type "tuple") (v1 :: vr)).toArray.all fun x => x == Value.type "tuple") = true := by
      rw [List.all_toArray, List.all_map]
      exact List.all_eq_true.mpr fun _ _ => beq_self_eq_true _
    have one : (List.map (fun _ => Value.type "tuple") (v1 :: vr)).toArray[0]? = some (Value.type "tuple") := by simp
    rw [kat_kind_eq]
    rw [List.mapM_toArray, map_eq_pure_bind]
    refine wpAny_bind (wpAny_bind (firsts_at _ _ t (wpAny_pure ?_)))
    (rw [if_neg (by simp)]); (rw [if_neg (by simp)])
    rw [oneTypeOnly'_eq]
    rw [List.mapM_toArray, map_eq_pure_bind]
    refine wpAny_bind (wpAny_bind (wpAny_bind (kas_mapM (r := Value.type "tuple") _ (fun v hv Q2 hq => (ty v hv).here hq) (wpAny_pure ?_))))
    rw [one]
    simp only [same, if_true]
    exact wpAny_pure (by exact wpAny_pure k)
theorem oneLt_tuples {xs ys : List PyData} {a b : Value} {as bs : List Addr} {Q : Bool → Shared → Prop} (ra : Reads s.heap a (.tuple xs) as) (rb : Reads s.heap b (.tuple ys) bs) (hal : alikeAll xs ys = true)
    (room : A.units + min (PyData.depth (.tuple xs)) (PyData.depth (.tuple ys)) < cLine) (k : Q (dataLt (.tuple xs) (.tuple ys)) s) : wpAny (model P w) A (oneLt' true a b) Q E s := by
  cases ra with
  | @tuple p o us n _ _ g1 g2 g3 g4 =>
    cases rb with
    | @tuple q u ws m _ _ f1 f2 f3 f4 =>
      have lx : us.size = xs.length := by have := ReadsAll.length _ _ _ g4; simpa using this
      have ly : ws.size = ys.length := by have := ReadsAll.length _ _ _ f4; simpa using this
      rw [dataLt_tuple, ← firstLt_toks xs ys hal, ← lx, ← ly] at k
      have eqs : ∀ j (j1 : j < us.size) (j2 : j < ws.size), EqAt A.in1 s us[j] ws[j] (pairEq xs ys j) := fun j j1 j2 => by
        have z := eqAt_alikeAll xs ys A.in1 s us.toList ws.toList _ _ g4 f4 hal (room_in room) j (by simpa using j1) (by simpa using j2)
        simpa using z
      have lts : ∀ j (j1 : j < us.size) (j2 : j < ws.size), pairEq xs ys j = false → RcLt A.in1 s us[j] ws[j] (dataLt (xs.getD j .none) (ys.getD j .none)) := fun j j1 j2 hj => by
        have z := rcLt_alikeAll xs ys A.in1 s us.toList ws.toList _ _ g4 f4 hal (room_in room) j (by simpa using j1) (by simpa using j2) hj
        simpa using z
      rw [oneLt'_eq]
      simp only [if_true]
      refine wpAny_bind (wpAny_cRoomFor (room_here room) (wpAny_bind (wpAny_callSpecialIfBound?_slot (T := "tuple") ⟨_, g1, g2⟩ PySem.F.slot_tuple_lt ?_)))
      obtain ⟨oc, od, ot, ol⟩ := o
      obtain ⟨uc, ud, ut, ul⟩ := u
      dsimp only at g2 g3 f2 f3
      subst g2 g3 f2 f3
      exact call_meets PySem.F.slot_tuple_lt ⟨_, g1, rfl⟩ PySem.F.entry_tuple_lt (PySem.F.args_tuple_lt_2 _ _) (tuple_ltAt p q us ws n m od ud ol ul (pairEq xs ys) (fun j => dataLt (xs.getD j .none) (ys.getD j .none))) ⟨g1, f1, eqs, lts, wpAny_truthy_bool k⟩
theorem tups_of : ∀ {us : List Value} {ds : List PyData}, EachIs (fun v d => ∃ as, Reads s.heap v d as) us ds → (∀ d ∈ ds, ∃ r, d = .tuple r) → ∃ fs, TupsAt s.heap us fs ∧ (∀ r, ds = .tuple [] :: r → ∃ f, fs = none :: f)
  | [], [], _, _ => ⟨[], trivial, fun r e => by cases e⟩
  | v :: us, d :: ds, .cons h r, ht => by
    obtain ⟨fs, t1, _⟩ := tups_of r fun d hd => ht d (List.mem_cons_of_mem _ hd)
    obtain ⟨xs, rfl⟩ := ht d List.mem_cons_self
    obtain ⟨_, ra⟩ := h
    cases ra with
    | @tuple p o ws n _ _ g1 g2 g3 g4 =>
      refine ⟨ws[0]? :: fs, ⟨⟨p, o, ws, n, rfl, g1, g2, g3, rfl⟩, t1⟩, fun r e => ⟨fs, ?_⟩⟩
      cases e
      have lw : ws.size = 0 := by have := ReadsAll.length _ _ _ g4; simpa using this
      rw [Array.getElem?_eq_none (by omega)]
theorem sorts_first0 {us : List Value} {ds : List PyData} (e : EachIs (fun v d => ∃ as, Reads s.heap v d as) us ds) (hal : AllAlike ds) (ht : ∀ d ∈ ds, ∃ r, d = .tuple r) (h0 : ∃ r, ds = .tuple [] :: r) (hu : ∀ d, d ∈ ds → A.units + d.depth < cLine) : SortsAt P w A s (dataKind s.heap ds) us := by
  have tup : ∀ v ∈ us, ∃ d ∈ ds, ∃ as, Reads s.heap v d as := fun v hv => by
    obtain ⟨d, y1, as, y2⟩ := e.left v hv
    exact ⟨d, y1, as, y2⟩
  refine ⟨fun v hv => ?_, oneType', fun E2 x y a b Q ha hb k => ?_, fun h2 E2 Q k => ?_⟩
  · obtain ⟨d, y1, _, y2⟩ := tup v hv
    exact Exists.intro _ (dataKind_some hal y1 y2)
  · obtain ⟨d, ad, m1, r1, rfl⟩ := dataKind_inv ha
    obtain ⟨f, af, m2, r2, rfl⟩ := dataKind_inv hb
    have like := hal d m1 f m2
    have room : A.units + min d.depth f.depth < cLine := Nat.lt_of_le_of_lt (Nat.add_le_add_left (Nat.min_le_left _ _) _) (hu d m1)
    obtain ⟨t1, rfl⟩ := ht d m1
    obtain ⟨t2, rfl⟩ := ht f m2
    rw [keyLt'_oneType]
    exact oneLt_tuples r1 r2 (by simpa [alike] using like) room k
  · obtain ⟨r, h0⟩ := h0
    obtain ⟨fs, t1, t2⟩ := tups_of e ht
    obtain ⟨f, rfl⟩ := t2 r h0
    refine kind_first0 t1 (fun v hv => ?_) k
    obtain ⟨d, y1, _, y2⟩ := tup v hv
    obtain ⟨xs, rfl⟩ := ht d y1
    exact looks_reads y2
end
end Hr
set_option maxHeartbeats 2400000
-- Hr5
/-! Hr5: sorted of a list of tuples, the first empty. -/
namespace Dl
open PySem PySem.Spec PySem.W PyProof.Rows L2
def encB (b : V × D) : PyData := pdD b.2
/-- tuples that can be put in order, the first one empty -/
structure Srt0 (ds : List D) : Prop where
  pl : plainA ds = true
  al : ∀ d ∈ ds, ∀ e ∈ ds, alike (pdD d) (pdD e) = true
  tu : ∀ d ∈ ds, ∃ r, d = .tup r
  hd : ∃ r, ds = .tup [] :: r
  dp : ∀ d ∈ ds, (pdD d).depth ≤ 20
  sz : ds.length ≤ 100000
def srtZ (xs : List V) (ds : List D) : List (V × D) := (xs.zip ds).mergeSort (dataLe false encB)
def rSorted0 (K : PySem.W.Frag) : List V → Hp → VK → Prop := fun vs H Q => ∃ (a : Addr) (xs : List V) (ds : List D), vs = [V.ref a] ∧ SqL K H a xs ∧ DvA H xs ds ∧ Srt0 ds ∧
  ∀ p, H p = none → Q (.ref p) (upd H p (.lst ((srtZ xs ds).map (·.1))))
theorem each_of_vals : ∀ {xs : List V} {us : List Value} {ds : List D}, Vals xs us → xs.length = ds.length → EachIs (fun u (b : V × D) => RelV b.1 u) us (xs.zip ds)
  | [], _, _, h, _ => by cases h; exact .nil
  | x :: xs, _, [], h, e => by cases e
  | x :: xs, _, d :: ds, .cons h t, e => .cons h (each_of_vals t (by simpa using e))
theorem vals_of_each : ∀ {us : List Value} {bs : List (V × D)}, EachIs (fun u (b : V × D) => RelV b.1 u) us bs → Vals (bs.map (·.1)) us
  | [], [], _ => .nil
  | _ :: _, _ :: _, .cons h t => .cons h (vals_of_each t)
theorem zip_pd : ∀ {xs : List V} {ds : List D}, xs.length = ds.length → (xs.zip ds).map encB = pdA ds
  | [], [], _ => by rw [pdA]; rfl
  | [], _ :: _, e => by cases e
  | _ :: _, [], e => by cases e
  | x :: xs, d :: ds, e => by
    rw [List.zip_cons_cons, List.map_cons, zip_pd (by simpa using e), pdA]
    rfl
theorem zip_snd : ∀ {xs : List V} {ds : List D}, xs.length = ds.length → (xs.zip ds).map (·.2) = ds
  | [], [], _ => rfl
  | [], _ :: _, e => by cases e
  | _ :: _, [], e => by cases e
  | x :: xs, d :: ds, e => by rw [List.zip_cons_cons, List.map_cons, zip_snd (by simpa using e)]
theorem zip_dv {H : Hp} : ∀ {xs : List V} {ds : List D}, DvA H xs ds → ∀ q ∈ xs.zip ds, Dv H q.1 q.2
  | _, _, .nil, q, hq => by cases hq
  | _, _, .cons h t, q, hq => by
    rw [List.zip_cons_cons] at hq
    rcases List.mem_cons.mp hq with z | z
    · rw [z]; exact h
    · exact zip_dv t q z
theorem dva_of {H : Hp} : ∀ {zs : List (V × D)}, (∀ q ∈ zs, Dv H q.1 q.2) → DvA H (zs.map (·.1)) (zs.map (·.2))
  | [], _ => .nil
  | q :: zs, h => .cons (h q List.mem_cons_self) (dva_of fun p hp => h p (List.mem_cons_of_mem _ hp))
theorem cr_sorted0 {X : Cx} (hu : X.A.units + 65 < cLine) : CallR X (.builtin "sorted") (rSorted0 X.K) := by
  intro pins s σ H vs us Q I r ⟨a, xs, ds, ev, hs, hd, S0, q⟩
  subst ev
  obtain ⟨its, rv, hl, _⟩ := (I.list hs)
  rw [Vals.ref1 r]
  have len : xs.length = ds.length := hd.length
  obtain ⟨as, ra⟩ := Dp.readsAll I (pdA ds) xs its (dpA_of (K := X.K) ds xs hd S0.pl) rv
  have er : EachIs (fun v (b : V × D) => ∃ as, Reads s.heap v (encB b) as) its (xs.zip ds) := readsAll_each encB (by rw [zip_pd len]; exact ra)
  have er' : EachIs (fun v (b : V × D) => ∃ as, Reads (sortingHeap (copyHeap s.heap its) (s.heap.objs.size + 1) its) v (encB b) as) its (xs.zip ds) := er.mono fun _ _ ⟨as, r⟩ => ⟨as, PyProof.Rows.Reads.keeps (fun _ _ => sorting_copy_old) r⟩
  have e : EachIs (fun u (b : V × D) => RelV b.1 u) its (xs.zip ds) := each_of_vals rv len
  have mem : ∀ d, d ∈ (xs.zip ds).map encB → ∃ x ∈ ds, d = pdD x := fun d h => by
    rw [zip_pd len, pdA_map] at h
    obtain ⟨x, hx, rfl⟩ := List.mem_map.mp h
    exact ⟨x, hx, rfl⟩
  have hal : AllAlike ((xs.zip ds).map encB) := fun d h d' h' => by
    obtain ⟨x, hx, rfl⟩ := mem d h
    obtain ⟨y, hy, rfl⟩ := mem d' h'
    exact S0.al x hx y hy
  have S := Hr.sorts_first0 (P := X.prog) (w := X.w) (A := X.A.in1.in1) (s := { s with heap := sortingHeap (copyHeap s.heap its) (s.heap.objs.size + 1) its }) (each_map (R := fun v d => ∃ as, Reads (sortingHeap (copyHeap s.heap its) (s.heap.objs.size + 1) its) v d as) encB er') hal
    (fun d h => by
      obtain ⟨x, hx, rfl⟩ := mem d h
      obtain ⟨r, rfl⟩ := S0.tu x hx
      exact ⟨pdA r, by rw [pdD]⟩)
    (by
      obtain ⟨r, e0⟩ := S0.hd
      rw [zip_pd len, e0, pdA]
      exact ⟨pdA r, by rw [pdD, pdA]⟩)
    (fun d h => by
      obtain ⟨x, hx, rfl⟩ := mem d h
      have := S0.dp x hx
      show X.A.units + 1 + 1 + _ < _
      omega)
  have hlen : its.length = ds.length := by rw [← rv.length]; exact len
  refine sorted_vals hl.isList S (by rw [hlen]; exact sz_of S0.sz) ?_
  have out := sortVals_data (R := fun u (b : V × D) => RelV b.1 u) (h' := sortingHeap (copyHeap s.heap its) (s.heap.objs.size + 1) its) false e er' hal
  obtain ⟨n, hn⟩ := sortedAll_at s.heap its (sortVals (dataKind (sortingHeap (copyHeap s.heap its) (s.heap.objs.size + 1) its) ((xs.zip ds).map encB)) false its its).toArray
  refine ⟨.ref (s.heap.objs.size + 1), upd H _ (.lst ((srtZ xs ds).map (·.1))), I.laid (t' := s.toks) (fun b o e => sortedAll_old e) (Nat.le_succ _) ⟨?_, _, n, vals_of_each out, hn⟩, rfl, q _ (I.hok.fresh (Nat.le_succ _))⟩
  rw [List.length_map]
  unfold srtZ
  rw [List.length_mergeSort, List.length_zip, len, Nat.min_self]
  exact sz_of S0.sz
section
variable {X : Cx} {L : Lay} {ρ : Rho} {a : Expr} {p pos : Pos} {ds : List D}
def ltD (x y : D) : Bool := dataLt (pdD x) (pdD y)
theorem le_ltD (b c : V × D) : dataLe false encB b c = !ltD c.2 b.2 := by
  rw [dataLe_eq]
  rfl
theorem xp_sorted0 (ha : XE X L a ρ (.ro ds)) (S0 : Srt0 ds) (hu : X.A.units + 65 < cLine) (hm : X.mg "sorted" = none) (hg : Gl X "sorted" := by rfl) (hs : starEach [a] X.env = (false, eval a X.env) :: starEach [] X.env := by rfl) (hpl : (backTo pos (starEach [] X.env)).any (·.1) = false := by rfl) :
    XP X L (.Call (.Name "sorted" p) [a] [] pos) ρ (fun r => ∃ es : List D, es.Perm ds ∧ es.Pairwise (fun x y => ltD y x = false) ∧ r = .own es) :=
  xp_cb (cr_sorted0 hu) hm (by decide +kernel) (xa_cons ha xa_nil hs) (fun H Hb vs Q g e rv k => by
    obtain ⟨v, rfl, t, xs, rfl, _, h1, h2⟩ := rvs1 rv
    refine ⟨t, xs, ds, rfl, SqL.of h1, h2, S0, fun q hq => ?_⟩
    have pm : (srtZ xs ds).Perm (xs.zip ds) := List.mergeSort_perm _ _
    have dv : DvA Hb ((srtZ xs ds).map (·.1)) ((srtZ xs ds).map (·.2)) := dva_of fun z hz => zip_dv h2 z (pm.mem_iff.mp hz)
    refine k _ _ _ ⟨(srtZ xs ds).map (·.2), ?_, ?_, rfl⟩ (Step.new hq) (g.new hq) ⟨q, _, rfl, hq, g.free hq, upd_same, DvA.mono ((Step.new hq).tex g) _ _ dv⟩
    · have z := pm.map (·.2)
      rw [zip_snd h2.length] at z
      exact z
    · rw [List.pairwise_map]
      refine List.Pairwise.imp ?_ (sort_pairwise (sortLe_total (listOrd itemOrd) false fun b => keyToks (encB b)) (xs.zip ds))
      intro b c hbc
      have q : dataLe false encB b c = true := hbc
      rw [le_ltD] at q
      simpa using q) hg (by decide) (by decide) hs hpl
end
end Dl
-- Hr6
/-! Hr6: ladders in order. -/
namespace Pg
open PySem PySem.Spec PySem.W PyProof.Rows L2 Dl Mx
def ltL (a b : Ld) : Bool := ltD (ldD a) (ldD b)
theorem pd_rg (r : Bool × Int) : pdD (rgD r) = .tuple [.str (wd r.1), .int r.2] := by unfold rgD; simp only [pdD, pdA]
theorem pd_ld (l : Ld) : pdD (ldD l) = .tuple (l.map fun r => .tuple [.str (wd r.1), .int r.2]) := by
  rw [pdD, pdA_map, List.map_map]
  have e : (pdD ∘ rgD) = fun r : Bool × Int => PyData.tuple [.str (wd r.1), .int r.2] := funext fun r => pd_rg r
  rw [e]
theorem plain_rgs : ∀ l : Ld, plainA (l.map rgD) = true
  | [] => by rw [List.map_nil, plainA]
  | r :: l => by
    rw [List.map_cons, plainA, plain_rgs l]
    unfold rgD
    simp [plainD, plainA]
theorem plain_ld (l : Ld) : plainD (ldD l) = true := by rw [plainD]; exact plain_rgs l
theorem alike_rgs : ∀ a b : Ld, alikeAll (a.map fun r => PyData.tuple [.str (wd r.1), .int r.2]) (b.map fun r => .tuple [.str (wd r.1), .int r.2]) = true
  | [], _ => by simp [alikeAll]
  | _ :: _, [] => by rw [List.map_nil]; simp [alikeAll]
  | r :: a, q :: b => by
    rw [List.map_cons, List.map_cons, alikeAll, alike_rgs a b]
    simp [alike, alikeAll]
theorem alike_ld (a b : Ld) : alike (pdD (ldD a)) (pdD (ldD b)) = true := by
  rw [pd_ld, pd_ld]
  simp only [alike]
  exact alike_rgs a b
theorem depth_rgs : ∀ l : Ld, PyData.depthAll (l.map fun r => PyData.tuple [.str (wd r.1), .int r.2]) ≤ 3
  | [] => by rw [List.map_nil]; simp [PyData.depthAll]
  | r :: l => by
    have := depth_rgs l
    rw [List.map_cons]
    simp only [PyData.depth, PyData.depthAll, List.map_cons]
    omega
theorem depth_ld (l : Ld) : (pdD (ldD l)).depth ≤ 4 := by
  rw [pd_ld]
  have := depth_rgs l
  simp only [PyData.depth]
  omega
theorem ltL_irrefl (a : Ld) : ltL a a = false := (listOrd itemOrd).irrefl _
theorem ltL_trans {a b c : Ld} (h1 : ltL a b = true) (h2 : ltL b c = true) : ltL a c = true := (listOrd itemOrd).trans _ _ _ h1 h2
theorem toks_rgs : ∀ {a b : Ld}, keyToksAll (a.map fun r => PyData.tuple [.str (wd r.1), .int r.2]) = keyToksAll (b.map fun r => PyData.tuple [.str (wd r.1), .int r.2]) → a = b
  | [], [], _ => rfl
  | [], _ :: _, e => by
    simp only [List.map_nil, List.map_cons, keyToksAll] at e
    injection e with e _
    exact absurd e (by simp)
  | _ :: _, [], e => by
    simp only [List.map_nil, List.map_cons, keyToksAll] at e
    injection e with e _
    exact absurd e (by simp)
  | (x, m) :: a, (y, n) :: b, e => by
    simp only [List.map_cons, keyToksAll, keyToks, List.cons_append, List.nil_append] at e
    injection e with _ e
    injection e with _ e
    injection e with e1 e
    injection e with _ e
    injection e with e2 e
    injection e with _ e
    injection e1 with e1
    injection e2 with e2
    rw [toks_rgs e, e2]
    have : x = y := by
      revert e1
      cases x <;> cases y <;> first | (intro; rfl) | (intro e1; exact absurd e1 (by decide +kernel))
    rw [this]
theorem ltL_total {a b : Ld} (h1 : ltL a b = false) (h2 : ltL b a = false) : a = b := by
  have e : keyToks (pdD (ldD a)) = keyToks (pdD (ldD b)) := (listOrd itemOrd).total _ _ h1 h2
  rw [pd_ld, pd_ld] at e
  simp only [keyToks] at e
  exact toks_rgs e
/-- (many, ladder) before (many, ladder) -/
def ltML (p q : Int × Ld) : Bool := if p.1 = q.1 then ltL p.2 q.2 else decide (p.1 < q.1)
theorem lt_pair (m n : Int) (a b : Ld) : ltD (.tup [.int m, ldD a]) (.tup [.int n, ldD b]) = ltML (m, a) (n, b) := by
  unfold ltD
  have e : ∀ (m : Int) (a : Ld), pdD (.tup [.int m, ldD a]) = .tuple [.int m, pdD (ldD a)] := fun m a => by rw [pdD, pdA, pdA, pdA, pdD]
  rw [e, e, dataLt_pair (by simp [alike]) (alike_ld a b)]
  unfold ltML
  have i : PyData.eqv (.int m) (.int n) = decide (m = n) := by
    simp only [PyData.eqv]
    by_cases h : m = n
    · rw [decide_eq_true h]; exact beq_iff_eq.mpr h
    · rw [decide_eq_false h]; exact beq_eq_false_iff_ne.mpr h
  rw [i]
  by_cases h : m = n
  · rw [decide_eq_true h, if_pos rfl, if_pos h]
    split
    · rename_i q
      have := (toks_eqv _ _ (alike_ld a b)).1 q
      show false = dataLt _ _
      unfold dataLt
      rw [this]
      exact ((listOrd itemOrd).irrefl _).symm
    · rfl
  · rw [decide_eq_false h, if_neg Bool.false_ne_true, if_neg h, dataLt_int]
theorem ltML_irrefl (p : Int × Ld) : ltML p p = false := by unfold ltML; rw [if_pos rfl]; exact ltL_irrefl _
theorem ltML_trans {p q r : Int × Ld} (h1 : ltML p q = true) (h2 : ltML q r = true) : ltML p r = true := by
  unfold ltML at *
  by_cases a : p.1 = q.1 <;> by_cases b : q.1 = r.1
  · rw [if_pos a] at h1
    rw [if_pos b] at h2
    rw [if_pos (a.trans b)]
    exact ltL_trans h1 h2
  · rw [if_neg b, decide_eq_true_eq] at h2
    rw [if_neg (by omega), decide_eq_true_eq]
    omega
  · rw [if_neg a, decide_eq_true_eq] at h1
    rw [if_neg (by omega), decide_eq_true_eq]
    omega
  · rw [if_neg a, decide_eq_true_eq] at h1
    rw [if_neg b, decide_eq_true_eq] at h2
    rw [if_neg (by omega), decide_eq_true_eq]
    omega
theorem ltML_total {p q : Int × Ld} (h1 : ltML p q = false) (h2 : ltML q p = false) : p = q := by
  unfold ltML at *
  by_cases a : p.1 = q.1
  · rw [if_pos a] at h1
    rw [if_pos a.symm] at h2
    exact Prod.ext a (ltL_total h1 h2)
  · rw [if_neg a, decide_eq_false_iff_not] at h1
    rw [if_neg (fun z => a z.symm), decide_eq_false_iff_not] at h2
    omega
theorem cmp_pair (m n : Int) (a b : Ld) : Cmp2 (.tup [.int m, ldD a]) (.tup [.int n, ldD b]) := by
  have e : ∀ (m : Int) (a : Ld), pdD (.tup [.int m, ldD a]) = .tuple [.int m, pdD (ldD a)] := fun m a => by rw [pdD, pdA, pdA, pdA, pdD]
  have pl : ∀ (m : Int) (a : Ld), plainD (.tup [.int m, ldD a]) = true := fun m a => by
    rw [plainD, plainA, plainA, plainA, plain_ld]
    rfl
  refine ⟨pl m a, pl n b, ?_, ?_, ?_⟩
  · rw [e, e]
    simp only [alike, alikeAll, Bool.and_true, Bool.true_and]
    exact alike_ld a b
  · rw [e]; intro z; cases z
  · rw [e]
    have := depth_ld a
    simp only [PyData.depthAll, PyData.depth]
    omega
end Pg
-- Pg6
namespace Pg
open PySem L2 Dl Mx Hr
theorem evn_evnI : ∀ l : List Int, evn l = evnI l
  | [] => rfl
  | [x] => rfl
  | x :: y :: r => by rw [evn, evnI, evn_evnI r]
def optD : Option Int → D
  | none => .non
  | some m => .int m
/-- the best so far -/
abbrev Bst := Option (Int × Ld × List Int)
def bD (f : Bool) : Bst → D
  | none => .non
  | some (m, l, h) => .tup [.int m, ldD l, ln f h]
def cD (f : Bool) : Bst → D
  | none => .non
  | some (m, l, h) => .tup [.int m, shD l, ln f h]
/-- o is the best of rs -/
def BestOf (f : Bool) (f' : Bool) (es' : List Int) (rs : List (Ld × List Int)) : Bst → Prop
  | none => ∀ r ∈ rs, manyU f r.2 f' es' = none
  | some (m, l, h) => (l, h) ∈ rs ∧ manyU f h f' es' = some m ∧ ∀ r ∈ rs, ∀ m', manyU f r.2 f' es' = some m' → ltML (m', r.1) (m, l) = false
theorem BestOf.skip {f f' : Bool} {es' : List Int} {rs : List (Ld × List Int)} {o : Bst} {r : Ld × List Int} (h : BestOf f f' es' rs o) (hr : manyU f r.2 f' es' = none) : BestOf f f' es' (rs ++ [r]) o := by
  cases o with
  | none =>
    intro q hq
    rcases List.mem_append.mp hq with z | z
    · exact h q z
    · rw [List.mem_singleton.mp z]; exact hr
  | some b =>
    obtain ⟨m, l, k⟩ := b
    refine ⟨List.mem_append_left _ h.1, h.2.1, fun q hq m' e => ?_⟩
    rcases List.mem_append.mp hq with z | z
    · exact h.2.2 q z m' e
    · rw [List.mem_singleton.mp z, hr] at e; cases e
theorem BestOf.first {f f' : Bool} {es' : List Int} {rs : List (Ld × List Int)} {r : Ld × List Int} {m : Int} (h : BestOf f f' es' rs none) (hr : manyU f r.2 f' es' = some m) : BestOf f f' es' (rs ++ [r]) (some (m, r.1, r.2)) := by
  refine ⟨List.mem_append_right _ (List.mem_singleton.mpr rfl), hr, fun q hq m' e => ?_⟩
  rcases List.mem_append.mp hq with z | z
  · rw [h q z] at e; cases e
  · rw [List.mem_singleton.mp z, hr] at e
    cases e
    rw [List.mem_singleton.mp z]
    exact ltML_irrefl _
theorem BestOf.more {f f' : Bool} {es' : List Int} {rs : List (Ld × List Int)} {r : Ld × List Int} {m m0 : Int} {l : Ld} {k : List Int} (h : BestOf f f' es' rs (some (m0, l, k))) (hr : manyU f r.2 f' es' = some m) (hl : ltML (m, r.1) (m0, l) = true) : BestOf f f' es' (rs ++ [r]) (some (m, r.1, r.2)) := by
  refine ⟨List.mem_append_right _ (List.mem_singleton.mpr rfl), hr, fun q hq m' e => ?_⟩
  rcases List.mem_append.mp hq with z | z
  · have := h.2.2 q z m' e
    cases c : ltML (m', q.1) (m, r.1) with
    | false => rfl
    | true => rw [ltML_trans c hl] at this; cases this
  · rw [List.mem_singleton.mp z, hr] at e
    cases e
    rw [List.mem_singleton.mp z]
    exact ltML_irrefl _
theorem BestOf.keep {f f' : Bool} {es' : List Int} {rs : List (Ld × List Int)} {r : Ld × List Int} {m m0 : Int} {l : Ld} {k : List Int} (h : BestOf f f' es' rs (some (m0, l, k))) (hr : manyU f r.2 f' es' = some m) (hl : ltML (m, r.1) (m0, l) = false) : BestOf f f' es' (rs ++ [r]) (some (m0, l, k)) := by
  refine ⟨List.mem_append_left _ h.1, h.2.1, fun q hq m' e => ?_⟩
  rcases List.mem_append.mp hq with z | z
  · exact h.2.2 q z m' e
  · rw [List.mem_singleton.mp z, hr] at e
    cases e
    rw [List.mem_singleton.mp z]
    exact hl
theorem room_u65 {k : Nat} {A : Around} (r : Room k A) : A.units + 65 < cLine := by have := r.un; omega
section
variable {P : Program} {w : World} {K : PySem.W.Frag} {mg : Str → Option Value} {base : Heap} {L : Lay}
inductive gWhereUnlike : Ct
  | mk (f : Bool) (es : List Int) (f' : Bool) (es' : List Int) (h : Asc es) (h' : Asc es') (hl : es.length ≤ 30) (hl' : es'.length ≤ 30) : gWhereUnlike [.d (ln f es), .d (ln f' es')] (fun z => z = .d (ln (f != f') (ulk f es f' es')))
inductive gUnlikeTicks : Ct
  | mk (f : Bool) (es : List Int) (f' : Bool) (es' : List Int) (h : Asc es) (h' : Asc es') (hl : es.length ≤ 30) (hl' : es'.length ≤ 30) : gUnlikeTicks [.d (ln f es), .d (ln f' es')] (fun z => z = .d (optD (manyU f es f' es')))
inductive gClosest : Ct
  | mk (f : Bool) (es : List Int) (f' : Bool) (es' : List Int) (mo : Nat) (h : Asc es) (h' : Asc es') (hl : es.length ≤ 30) (hl' : es'.length ≤ 30) (hm : mo ≤ 4) : gClosest [.d (ln f es), .d (ln f' es'), .d (.int mo)] (fun z => ∃ rs o, AllC f es mo rs ∧ BestOf f f' es' rs o ∧ z = .d (cD f o))
abbrev s_unlike_ticks : Stmt := top 29
theorem ok_unlike_ticks {f : Addr} {fd : FuncData} (F : Fun K "unlike_ticks" "unlike_ticks" s_unlike_ticks f fd) (B : Bi mg) (c_check_two : Cal P w K mg base 4 "check_two" ["one", "other"] (spG L gCheckTwo)) (c_where_unlike : Cal P w K mg base 6 "where_unlike" ["one", "other"] (spG L gWhereUnlike)) (c_ticks_on : Cal P w K mg base 2 "ticks_on" ["line"] (spG L gTicksOn)) : FnOk P w K mg base CX0 7 f fd ["one", "other"] (spG L gUnlikeTicks) := by
  refine def_ok (N := ["one", "other"]) F ⟨rfl, rfl, rfl, by decide +kernel, rfl, by decide +kernel, by decide +kernel⟩ (by decide) (fun _ _ h => by cases h; rfl) fun cdv A outer s H E hr rs Pq h => ?_
  have nd : (["one", "other"] : List Str).Nodup := by decide +kernel
  cases h with
  | mk f es f' es' h h' hl hl' =>
    refine xs_expr (xe_call c_check_two (hr.mono (by decide)) (xa_cons (xv 0) (xa_cons (xv 1) xa_nil)) (gCheckTwo.mk _ _ h (by omega) _ _ h' (by omega))) (xs_retE (xe_call c_ticks_on (hr.mono (by decide)) (xa_cons (xe_call c_where_unlike (hr.mono (by decide)) (xa_cons (xv 0) (xa_cons (xv 1) xa_nil)) (gWhereUnlike.mk _ _ _ _ h h' hl hl')) xa_nil) (gTicksOn.mk _ _)) ?_)
    unfold manyU onT
    split
    · rfl
    · rw [evn_evnI, evn_evnI]; rfl
abbrev s_closest : Stmt := top 68
theorem ok_closest {f : Addr} {fd : FuncData} (F : Fun K "closest" "closest" s_closest f fd) (B : Bi mg) (c_check_two : Cal P w K mg base 4 "check_two" ["one", "other"] (spG L gCheckTwo)) (c_check_number : Cal P w K mg base 3 "check_number" ["thing", "least", "most"] (spG L gCheckNumber)) (c_all_cores : Cal P w K mg base 5 "all_cores" ["line", "most"] (spG L gAllCores)) (c_where_unlike : Cal P w K mg base 6 "where_unlike" ["one", "other"] (spG L gWhereUnlike)) (c_ticks_on : Cal P w K mg base 2 "ticks_on" ["line"] (spG L gTicksOn)) {tk : Tok} (mr : mg "MOST_RUNGS" = some (.int 4 tk)) : FnOk P w K mg base CX0 7 f fd ["line", "goal", "most"] (spG L gClosest) := by
  refine def_ok (N := ["line", "goal", "most", "best", "ladder", "here", "many"]) F ⟨rfl, rfl, rfl, by decide +kernel, rfl, by decide +kernel, by decide +kernel⟩ (by decide) (fun _ _ h => by cases h; rfl) fun cdv A outer s H E hr rs Pq h => ?_
  have nd : (["line", "goal", "most", "best", "ladder", "here", "many"] : List Str).Nodup := by decide +kernel
  cases h with
  | mk f es f' es' mo h h' hl hl' hm =>
    refine xs_expr (xe_call c_check_two (hr.mono (by decide)) (xa_cons (xv 0) (xa_cons (xv 1) xa_nil)) (gCheckTwo.mk _ _ h (by omega) _ _ h' (by omega))) (xs_expr (xe_call c_check_number (hr.mono (by decide)) (xa_cons (xv 2) (xa_cons xe_int (xa_cons (xe_glob mr) xa_nil))) (gCheckNumber.mk _ _ _ ⟨by omega, by omega⟩)) ?_)
    refine xs_set (i := 3) xe_non ?_
    refine xs_for (xi_new (xp_call c_all_cores (hr.mono (by decide)) (xa_cons (xv 0) (xa_cons (xv 2) xa_nil)) (.mk f es mo (by omega) hm))) (by apply pg_two (i := 4) (j := 5) nd <;> first | rfl | exact Or.inl rfl | exact Or.inr rfl) (fun ds i ρ' => ∃ (rs : List (Ld × List Int)) (o : Bst) (x4 x5 x6 : Option Rep), AllC f es mo rs ∧ ds = rs.map (coD f) ∧ BestOf f f' es' (rs.take i) o ∧ ρ' = [some (.d (ln f es)), some (.d (ln f' es')), some (.d (.int mo)), some (.d (bD f o)), x4, x5, x6]) ?_ ?_ ?_
    · rintro ds ⟨rs, hrs, rfl⟩
      exact ⟨rs, none, none, none, none, hrs, rfl, (fun r hr => by cases hr), rfl⟩
    · rintro ds i d ρ1 hds hd ⟨rs, o, x4, x5, x6, hrs, rfl, hb, rfl⟩
      rw [List.getElem?_map] at hd
      cases hg : rs[i]? with
      | none => rw [hg] at hd; cases hd
      | some r =>
        rw [hg] at hd
        cases hd
        obtain ⟨s, hs, er⟩ := hrs.1 r (List.mem_of_getElem? hg)
        have ha : Asc r.2 := by rw [er]; exact coreS_asc h s
        have hlen : r.2.length ≤ 30 := by rw [er]; exact Nat.le_trans (coreS_len f es s) hl
        have tk1 := take_snoc hg
        refine ⟨_, evg_tup2, xs_set (i := 6) (r := .d (optD (manyU f r.2 f' es'))) ((xe_call c_ticks_on (hr.mono (by decide)) (xa_cons (xe_call c_where_unlike (hr.mono (by decide)) (xa_cons (xv 5) (xa_cons (xv 1) xa_nil)) (gWhereUnlike.mk _ _ _ _ ha h' hlen hl')) xa_nil) (gTicksOn.mk _ _)).is ?_) ?_⟩
        · unfold manyU onT
          split
          · rfl
          · rw [evn_evnI, evn_evnI]; rfl
        · cases hq : manyU f r.2 f' es' with
          | none =>
            refine xs_if (t := false) (xt_w (xw_and (q := false) (xt_notN (dx := .non) (xv 6)) (fun z => by cases z))) (fun z => by cases z) (fun _ => xs_nil (xs_nil ⟨rs, o, _, _, _, hrs, rfl, ?_, rfl⟩))
            rw [tk1]; exact hb.skip hq
          | some m =>
            cases o with
            | none =>
              refine xs_if (t := true) (xt_w (xw_and (q := true) (xt_notN (dx := .int m) (xv 6)) (fun _ => xw_and1 (xt_w (xw_or (q := true) (xt_isN (dx := .non) (xv 3)) (fun z => by cases z)))))) (fun _ => xs_set (i := 3) (xe_tup (ds := [.int m, ldD r.1, ln f r.2]) (xa_cons (xv 6) (xa_cons (xv 4) (xa_cons (xv 5) xa_nil)))) (xs_nil (xs_nil ⟨rs, some (m, r.1, r.2), _, _, _, hrs, rfl, ?_, rfl⟩))) (fun z => by cases z)
              rw [tk1]
              exact BestOf.first hb hq
            | some b =>
              obtain ⟨m0, l, k⟩ := b
              refine xs_if (t := ltML (m, r.1) (m0, l)) (xt_w (xw_and (q := ltML (m, r.1) (m0, l)) (xt_notN (dx := .int m) (xv 6)) (fun _ => xw_and1 (xt_w (xw_or (q := ltML (m, r.1) (m0, l)) (xt_isN (dx := .tup [.int m0, ldD l, ln f k]) (xv 3)) (fun _ => xw_or1 ((xt_ltD (y := .tup [.int m0, ldD l]) (xe_tup (ds := [.int m, ldD r.1]) (xa_cons (xv 6) (xa_cons (xv 4) xa_nil))) ((xe_slT (xv 3) xo_none (xo_some xe_int)).is rfl) (cmp_pair _ _ _ _) (room_u65 hr)).is (lt_pair _ _ _ _)))))))) (fun z => ?_) (fun z => ?_)
              · refine xs_set (i := 3) (xe_tup (ds := [.int m, ldD r.1, ln f r.2]) (xa_cons (xv 6) (xa_cons (xv 4) (xa_cons (xv 5) xa_nil)))) (xs_nil (xs_nil ⟨rs, some (m, r.1, r.2), _, _, _, hrs, rfl, ?_, rfl⟩))
                rw [tk1]
                exact BestOf.more hb hq z
              · refine xs_nil (xs_nil ⟨rs, some (m0, l, k), _, _, _, hrs, rfl, ?_, rfl⟩)
                rw [tk1]
                exact BestOf.keep hb hq z
    · rintro ds ρ1 hds ⟨rs, o, x4, x5, x6, hrs, rfl, hb, rfl⟩
      rw [List.length_map, List.take_length] at hb
      cases o with
      | none => exact xs_ret ((xe_if (r := .d .non) (xt_isN (dx := .non) (xv 3)) (fun _ => xe_non) (fun z => by cases z)).p ⟨rs, none, hrs, hb, rfl⟩)
      | some b =>
        obtain ⟨m0, l, k⟩ := b
        exact xs_ret ((xe_if (r := .d (.tup [.int m0, shD l, ln f k])) (xt_isN (dx := .tup [.int m0, ldD l, ln f k]) (xv 3)) (fun z => by cases z) (fun _ => xe_tup (ds := [.int m0, shD l, ln f k]) (xa_cons (xe_ixT (xv 3) xe_int rfl) (xa_cons (xe_tup (ds := [.int 0, .int 0, ldD l]) (xa_cons xe_int (xa_cons xe_int (xa_cons (xe_ixT (xv 3) xe_int rfl) xa_nil)))) (xa_cons (xe_ixT (xv 3) xe_int rfl) xa_nil))))).p ⟨rs, _, hrs, hb, rfl⟩)
end
end Pg
set_option maxHeartbeats 240000
-- Pl5
/-! Pl5: the law's own count of unlike ticks. -/
namespace Mx
def ulP (f : Bool) (es : List Int) (f' : Bool) (es' : List Int) (t : Int) : Bool := stb f (cnt es t) != stb f' (cnt es' t)
def wSum (T : List Int) (p : Int → Bool) : Nat → Int
  | 0 => 0
  | n + 1 => wSum T p n + (if p (T.getD n 0) = true then T.getD (n + 1) 0 - T.getD n 0 else 0)
def unlikeL (f : Bool) (es : List Int) (f' : Bool) (es' : List Int) : Option Int :=
  if f ≠ f' then none else if 0 < (uniT es es').length ∧ ulP f es f' es' ((uniT es es').getD ((uniT es es').length - 1) 0) = true then none else some (wSum (uniT es es') (ulP f es f' es') ((uniT es es').length - 1))
theorem insU_len (x : Int) : ∀ l, (insU x l).length ≤ l.length + 1
  | [] => by simp [insU]
  | z :: l => by
    unfold insU
    split
    · simp
    · split
      · simp
      · have := insU_len x l
        simp; omega
theorem uniT_len (es es' : List Int) : (uniT es es').length ≤ es.length + es'.length := by
  unfold uniT
  rw [← List.length_append]
  generalize es ++ es' = l
  induction l with
  | nil => simp
  | cons x l ih =>
    rw [List.foldr_cons, List.length_cons]
    have := insU_len x (l.foldr insU [])
    omega
end Mx
set_option maxHeartbeats 2400000
-- Pg7
namespace Dl
open PySem L2
theorem XW.is {X : Cx} {L : Lay} {e : Expr} {ρ : Rho} {b b' : Bool} (h : XW X L e ρ b) (hp : b = b') : XW X L e ρ b' := hp ▸ h
end Dl
namespace Pg
open PySem L2 Dl Mx Hr
theorem atI_end {es : List Int} (h : 0 < es.length) : atI (es.map D.int) (-1) = some (.int (es.getD (es.length - 1) 0)) := by
  rcases List.eq_nil_or_concat es with rfl | ⟨t, u, rfl⟩
  · simp at h
  · rw [List.concat_eq_append, List.map_append]
    show atI (t.map D.int ++ [D.int u]) (-1) = _
    rw [atI_last]
    simp
theorem pdA_ints (es : List Int) : pdA (es.map D.int) = es.map PyData.int := by
  rw [pdA_map, List.map_map]
  apply List.map_congr_left
  intro i _
  show pdD (.int i) = _
  rw [pdD]
theorem plain_ints : ∀ es : List Int, plainA (es.map D.int) = true
  | [] => by rw [List.map_nil, plainA]
  | i :: es => by
    rw [List.map_cons, plainA, plain_ints es, plainD]
    · rfl
    all_goals (intros; simp_all)
theorem lay_ints : ∀ es : List Int, PyData.canLayAll0 (es.map PyData.int) = true
  | [] => by rw [List.map_nil]; simp [PyData.canLayAll0]
  | i :: es => by rw [List.map_cons, PyData.canLayAll0, lay_ints es]; simp [PyData.canLay0]
theorem depth_ints' (es : List Int) : PyData.depthAll (es.map PyData.int) = 0 := PySem.W.depth_ints es
theorem shaped_ints (es : List Int) : SeqAt.shaped (.tuple (es.map .int)) = true := by
  show (PyData.canLay0 (.tuple (es.map .int)) && decide (PyData.depth (.tuple (es.map PyData.int)) ≤ 64)) = true
  rw [Bool.and_eq_true]
  refine ⟨by simp only [PyData.canLay0]; exact lay_ints es, decide_eq_true ?_⟩
  have := depth_ints' es
  simp only [PyData.depth]
  omega
theorem pd_lnE (es : List Int) : pdD (lnE es) = .tuple (es.map .int) := by rw [pdD, pdA_ints]
theorem eqs_lnE (es es' : List Int) : Eqs2 (lnE es) (lnE es') := ⟨by rw [plainD]; exact plain_ints es, by rw [plainD]; exact plain_ints es', by rw [pd_lnE]; exact shaped_ints es, by rw [pd_lnE]; exact shaped_ints es'⟩
theorem eqv_ints : ∀ es : List Int, PyData.eqvAll (es.map .int) (es.map .int) = true
  | [] => by simp [PyData.eqvAll]
  | i :: es => by rw [List.map_cons, PyData.eqvAll, eqv_ints es]; simp [PyData.eqv]
theorem eqv_lnE (es : List Int) : PyData.eqv (pdD (lnE es)) (pdD (lnE es)) = true := by
  rw [pd_lnE]
  simp only [PyData.eqv]
  exact eqv_ints es
section
variable {P : Program} {w : World} {K : PySem.W.Frag} {mg : Str → Option Value} {base : Heap} {L : Lay}
inductive gLawOn : Ct
  | mk (f : Bool) (es : List Int) (t : Int) (hl : es.length ≤ 1000) : gLawOn [.d (ln f es), .d (.int t)] (fun z => z = .d (.bl (stb f (cnt es t))))
inductive gLawIsLine : Ct
  | mk (f : Bool) (es : List Int) (h : Asc es) (hl : es.length ≤ 1000) : gLawIsLine [.d (ln f es)] (fun z => z = .d (.bl true))
inductive gLawSame : Ct
  | mk (f : Bool) (es : List Int) (h : Asc es) (hl : es.length ≤ 1000) : gLawSame [.d (ln f es), .d (ln f es)] (fun z => z = .d (.bl true))
inductive gLawUnlike : Ct
  | mk (f : Bool) (es : List Int) (f' : Bool) (es' : List Int) (hl : es.length ≤ 30) (hl' : es'.length ≤ 30) : gLawUnlike [.d (ln f es), .d (ln f' es')] (fun z => z = .d (optD (unlikeL f es f' es')))
abbrev s__law_on : Stmt := top 74
theorem ok__law_on {f : Addr} {fd : FuncData} (F : Fun K "_law_on" "_law_on" s__law_on f fd) (B : Bi mg)  : FnOk P w K mg base CX0 1 f fd ["_law_line", "_law_tick"] (spG L gLawOn) := by
  refine def_ok (N := ["_law_line", "_law_tick", "_law_edge"]) F ⟨rfl, rfl, rfl, by decide +kernel, rfl, by decide +kernel, by decide +kernel⟩ (by decide) (fun _ _ h => by cases h; rfl) fun cdv A outer s H E hr rs Pq h => ?_
  have nd : (["_law_line", "_law_tick", "_law_edge"] : List Str).Nodup := by decide +kernel
  cases h with
  | mk f es t hl =>
    refine xs_retE (xe_ne (xe_ixT (xv 0) xe_int rfl) (xe_eq (xe_mod (i := (cnt es t : Int)) (XE.is (xe_lenL (XE.rd (XE.is (xe_lcIf (fun d => match d with | .int i => decide (i ≤ t) | _ => false) (fun d => d) (own := [("_law_edge", 2)]) (xi_tup (xe_ixT (xv 0) xe_int rfl)) (blkOk_by (N := ["_law_line", "_law_tick", "_law_edge"]) (sc := defScope s__law_on) (by decide +kernel)) (fun _ _ _ _ _ => pg_name (i := 2) nd rfl (Or.inl rfl)) (fun d hd => ?_) (by rw [List.length_map]; omega)) (r' := .own ((es.filter fun e => decide (e ≤ t)).map .int)) ?_)) B.len) (by rw [List.length_map]; rfl)) xe_int (by decide)) xe_int (.int _ _)) (.bl _ _)) rfl
    · obtain ⟨i, _, rfl⟩ := List.mem_map.mp hd
      exact ⟨_, evgw_name (by decide), fun s H1 C cl fp => xt_le (xv 2) (xv 1), fun _ s H1 C cl fp => xv 2⟩
    · rw [List.filter_map, List.map_map]
      rfl
abbrev s__law_is_line : Stmt := top 75
theorem ok__law_is_line {f : Addr} {fd : FuncData} (F : Fun K "_law_is_line" "_law_is_line" s__law_is_line f fd) (B : Bi mg)  : FnOk P w K mg base CX0 1 f fd ["_law_thing"] (spG L gLawIsLine) := by
  refine def_ok (N := ["_law_thing", "_law_edge", "_law_at"]) F ⟨rfl, rfl, rfl, by decide +kernel, rfl, by decide +kernel, by decide +kernel⟩ (by decide) (fun _ _ h => by cases h; rfl) fun cdv A outer s H E hr rs Pq h => ?_
  have nd : (["_law_thing", "_law_edge", "_law_at"] : List Str).Nodup := by decide +kernel
  cases h with
  | mk f es h hl =>
    refine xs_if (xt_w (xw_or (xt_not (xt_val (xe_isi (xv 0) rfl (T := "tuple") (by decide) B.isi B.tuple))) (fun _ => xw_or (xt_ne (xe_lenT (xv 0) B.len) xe_int (.int _ _)) (fun _ => xw_or (xt_not (xt_val (xe_isi (xe_ixT (xv 0) xe_int rfl) rfl (T := "bool") (by decide) B.isi B.bool))) (fun _ => xw_or1 (xt_not (xt_val (xe_isi (xe_ixT (xv 0) xe_int rfl) rfl (T := "tuple") (by decide) B.isi B.tuple)))))))) (fun z => by cases z) (fun _ => xs_nil ?_)
    refine xs_if (xt_not (xt_val (xe_allT (xe_lc (fun _ => .bl true) (own := [("_law_edge", 1)]) (xi_tup (xe_ixT (xv 0) xe_int rfl)) (blkOk_by (N := ["_law_thing", "_law_edge", "_law_at"]) (sc := defScope s__law_is_line) (by decide +kernel)) (fun _ _ _ _ _ => pg_name (i := 1) nd rfl (Or.inl rfl)) (fun d hd => ⟨_, evgw_name (by decide), fun s H1 C cl fp => ?_⟩) (by rw [List.length_map]; omega)) B.all))) (fun z => by cases z) (fun _ => xs_nil ?_)
    · obtain ⟨i, _, rfl⟩ := List.mem_map.mp hd
      exact XE.is (xe_and (xe_isi (xv 1) rfl (T := "int") (by decide) B.isi B.int) (fun _ => xe_one (xe_not (xe_isi (xv 1) rfl (T := "bool") (by decide) B.isi B.bool)))) rfl
    · refine xs_retE (xe_allT (ds := rng 1 ((es.length : Int) - 1).toNat) (xe_lc (fun _ => .bl true) (own := [("_law_at", 2)]) (xi_rng2 (hi := (es.length : Int)) xe_int ((xe_lenT (xe_ixT (xv 0) xe_int rfl) B.len).is (by rw [List.length_map])) (by omega) B.range) (blkOk_by (N := ["_law_thing", "_law_edge", "_law_at"]) (sc := defScope s__law_is_line) (by decide +kernel))
        (fun _ _ _ _ _ => pg_name (i := 2) nd rfl (Or.inl rfl)) (fun d hd => ⟨_, evgw_name (by decide), fun s H1 C cl fp => ?_⟩) (by rw [rng_len]; omega)) B.all) rfl
      obtain ⟨k, hk⟩ := List.getElem?_of_mem hd
      obtain ⟨h1, rfl⟩ := rng_get hk
      have h2 : k + 1 < es.length := by omega
      refine XE.is (xe_lt (i := es[k]) (j := es[k + 1]) (xe_ixT (xe_ixT (xv 0) xe_int rfl) (xe_sub (xv 2) xe_int) (atI_mapI (j := k) (by omega) (by simp))) (xe_ixT (xe_ixT (xv 0) xe_int rfl) (xv 2) (atI_mapI (j := k + 1) (by omega) (by simp)))) ?_
      rw [decide_eq_true (asc_get h (Nat.lt_succ_self k) (by simp) (by simp))]
abbrev s__law_same : Stmt := top 76
theorem ok__law_same {f : Addr} {fd : FuncData} (F : Fun K "_law_same" "_law_same" s__law_same f fd) (B : Bi mg) (c__law_is_line : Cal P w K mg base 1 "_law_is_line" ["_law_thing"] (spG L gLawIsLine)) : FnOk P w K mg base CX0 2 f fd ["_law_told", "_law_due_here"] (spG L gLawSame) := by
  refine def_ok (N := ["_law_told", "_law_due_here"]) F ⟨rfl, rfl, rfl, by decide +kernel, rfl, by decide +kernel, by decide +kernel⟩ (by decide) (fun _ _ h => by cases h; rfl) fun cdv A outer s H E hr rs Pq h => ?_
  have nd : (["_law_told", "_law_due_here"] : List Str).Nodup := by decide +kernel
  cases h with
  | mk f es h hl =>
    refine xs_retE (XE.is (xe_and (xe_call c__law_is_line (hr.mono (by decide)) (xa_cons (xv 0) xa_nil) (gLawIsLine.mk f es h hl)) (fun _ => xe_and (xe_eq (xe_ixT (xv 0) xe_int rfl) (xe_ixT (xv 1) xe_int rfl) (.bl f f)) (fun _ => xe_one (xe_eqD (xe_ixT (xv 0) xe_int rfl) (xe_ixT (xv 1) xe_int rfl) (eqs_lnE es es) (room_u65 hr))))) ?_) rfl
    rw [eqv_lnE]
    cases f <;> rfl
abbrev s__law_unlike : Stmt := top 78
theorem ok__law_unlike {f : Addr} {fd : FuncData} (F : Fun K "_law_unlike" "_law_unlike" s__law_unlike f fd) (B : Bi mg) (c__law_on : Cal P w K mg base 1 "_law_on" ["_law_line", "_law_tick"] (spG L gLawOn)) : FnOk P w K mg base CX0 2 f fd ["_law_one", "_law_other"] (spG L gLawUnlike) := by
  refine def_ok (N := ["_law_one", "_law_other", "_law_ticks", "_law_found", "_law_at"]) F ⟨rfl, rfl, rfl, by decide +kernel, rfl, by decide +kernel, by decide +kernel⟩ (by decide) (fun _ _ h => by cases h; rfl) fun cdv A outer s H E hr rs Pq h => ?_
  have nd : (["_law_one", "_law_other", "_law_ticks", "_law_found", "_law_at"] : List Str).Nodup := by decide +kernel
  cases h with
  | mk f es f' es' hl hl' =>
    have hTl := uniT_len es es'
    refine xs_setRo (i := 2) (ds := (uniT es es').map .int) (xe_sortedS (ns := es ++ es') (xp_setT ((xe_catT (xe_ixT (xv 0) xe_int rfl) (xe_ixT (xv 1) xe_int rfl) (by rw [List.length_map, List.length_map]; omega)).is (by rw [List.map_append])) (by rw [List.length_append]; omega) B.set) (uniT_asc es es') (fun k => by rw [uniT_mem, List.mem_append]) (by rw [List.length_append]; omega) B.sorted) ?_
    refine xs_if (xt_ne (xe_ixT (xv 0) xe_int rfl) (xe_ixT (xv 1) xe_int rfl) (.bl _ _)) (fun z => ?_) (fun z => xs_nil ?_)
    · have ne : f ≠ f' := fun e => by subst e; cases f <;> cases z
      refine xs_retE xe_non ?_
      unfold unlikeL
      rw [if_pos ne]
      rfl
    · have ee : ¬ f ≠ f' := fun e => by revert z e; cases f <;> cases f' <;> simp
      refine xs_set (i := 3) xe_int ?_
      refine xs_for (xi_rng2 (hi := ((uniT es es').length : Int)) xe_int ((xe_lenL (xv 2) B.len).is (by rw [List.length_map])) (by omega) B.range) (pg_name (i := 4) nd rfl (Or.inl rfl)) (fun ds i ρ' => ∃ x, ρ' = [some (.d (ln f es)), some (.d (ln f' es')), some (.ro ((uniT es es').map .int)), some (.d (.int (wSum (uniT es es') (ulP f es f' es') i))), x] ∧ i ≤ (uniT es es').length - 1) (fun ds hd => ⟨none, rfl, Nat.zero_le _⟩) ?_ ?_
      · rintro ds i d ρ1 rfl hd ⟨x, rfl, hle⟩
        obtain ⟨h1, rfl⟩ := rng_get hd
        have h2 : i + 1 < (uniT es es').length := by omega
        have i1 : atI ((uniT es es').map D.int) (1 + (i : Int)) = some (.int ((uniT es es').getD (i + 1) 0)) := atI_mapI (j := i + 1) (by omega) (getD_at h2)
        have i0 : atI ((uniT es es').map D.int) (1 + (i : Int) - 1) = some (.int ((uniT es es').getD i 0)) := atI_mapI (j := i) (by omega) (getD_at (by omega))
        refine ⟨_, evg_name, xs_if (t := ulP f es f' es' ((uniT es es').getD i 0)) (XT.is (xt_ne (xe_call c__law_on (hr.mono (by decide)) (xa_cons (xv 0) (xa_cons (xe_ixL (xv 2) (xe_sub (xv 4) xe_int) i0) xa_nil)) (gLawOn.mk f es _ (by omega))) (xe_call c__law_on (hr.mono (by decide)) (xa_cons (xv 1) (xa_cons (xe_ixL (xv 2) (xe_sub (xv 4) xe_int) i0) xa_nil)) (gLawOn.mk f' es' _ (by omega))) (.bl _ _)) rfl) (fun z => ?_) (fun z => ?_)⟩
        · refine xs_set (i := 3) (xe_sub (xe_add (xv 3) (xe_ixL (xv 2) (xv 4) i1)) (xe_ixL (xv 2) (xe_sub (xv 4) xe_int) i0)) (xs_nil (xs_nil ⟨some (.d (.int (1 + (i : Int)))), ?_, by omega⟩))
          rw [wSum, if_pos z]
          show [_, _, _, _, _] = [_, _, _, _, _]
          rw [Int.add_sub_assoc]
        · refine xs_nil (xs_nil ⟨some (.d (.int (1 + (i : Int)))), ?_, by omega⟩)
          rw [wSum, if_neg (by rw [z]; exact Bool.false_ne_true), Int.add_zero]
          rfl
      · rintro ds ρ1 rfl ⟨x, rfl, hle⟩
        have el : (rng 1 (((uniT es es').length : Int) - 1).toNat).length = (uniT es es').length - 1 := by rw [rng_len]; omega
        rw [el]
        by_cases h0 : 0 < (uniT es es').length
        · have il : atI ((uniT es es').map D.int) (-1) = some (.int ((uniT es es').getD ((uniT es es').length - 1) 0)) := atI_end h0
          refine xs_if (t := ulP f es f' es' ((uniT es es').getD ((uniT es es').length - 1) 0)) (xt_w (XW.is (xw_and (q := ulP f es f' es' ((uniT es es').getD ((uniT es es').length - 1) 0)) (xt_gt (xe_lenL (xv 2) B.len) xe_int) (fun _ => xw_and1 (XT.is (xt_ne (xe_call c__law_on (hr.mono (by decide)) (xa_cons (xv 0) (xa_cons (xe_ixL (xv 2) (xe_neg xe_int) il) xa_nil)) (gLawOn.mk f es _ (by omega))) (xe_call c__law_on (hr.mono (by decide)) (xa_cons (xv 1) (xa_cons (xe_ixL (xv 2) (xe_neg xe_int) il) xa_nil)) (gLawOn.mk f' es' _ (by omega))) (.bl _ _)) rfl))) (by rw [List.length_map, decide_eq_true (by omega), Bool.true_and]))) (fun z => ?_) (fun z => ?_)
          · refine xs_retE xe_non ?_
            unfold unlikeL
            rw [if_neg ee, if_pos ⟨h0, z⟩]
            rfl
          · refine xs_nil (xs_retE (xv 3) ?_)
            unfold unlikeL
            rw [if_neg ee, if_neg (fun q => by rw [z] at q; cases q.2)]
            rfl
        · refine xs_if (t := false) (xt_w (XW.is (xw_and (q := false) (xt_gt (xe_lenL (xv 2) B.len) xe_int) (fun y => ?_)) (by rw [Bool.and_false]))) (fun y => by cases y) (fun _ => ?_)
          · have := of_decide_eq_true y
            rw [List.length_map] at this
            omega
          · refine xs_nil (xs_retE (xv 3) ?_)
            unfold unlikeL
            rw [if_neg ee, if_neg (fun q => h0 q.1)]
            rfl
end
end Pg
set_option maxHeartbeats 240000
-- Pl6
/-! Pl6: pieces taken out one by one, in any order. -/
namespace Mx
def goneBU (f : Bool) (es : List Int) (on : Bool) (m : Int) (n : Nat) : List (Int × Int) := (goneI f es on m n).map fun k => (es.getD (k + 1) 0 - es.getD k 0, es.getD k 0)
def goneB (f : Bool) (es : List Int) (on : Bool) (m : Int) : List (Int × Int) := goneBU f es on m (es.length - 1)
theorem goneBU_succ (f : Bool) (es : List Int) (on : Bool) (m : Int) (n : Nat) : goneBU f es on m (n + 1) = goneBU f es on m n ++ (if stb f (1 + (n : Int)) = on ∧ es.getD (n + 1) 0 - es.getD n 0 ≤ m then [(es.getD (n + 1) 0 - es.getD n 0, es.getD n 0)] else []) := by
  unfold goneBU goneI
  rw [List.range_succ, List.filter_append, List.map_append]
  congr 1
  by_cases h : stb f (1 + (n : Int)) = on ∧ es.getD (n + 1) 0 - es.getD n 0 ≤ m
  · rw [if_pos h, List.filter_cons, if_pos (by rw [Bool.and_eq_true]; exact ⟨beq_iff_eq.mpr h.1, decide_eq_true h.2⟩)]
    rfl
  · rw [if_neg h, List.filter_cons, if_neg (by rw [Bool.and_eq_true]; intro z; exact h ⟨beq_iff_eq.mp z.1, of_decide_eq_true z.2⟩)]
    rfl
theorem goneBU_len (f : Bool) (es : List Int) (on : Bool) (m : Int) (n : Nat) : (goneBU f es on m n).length ≤ n := by
  unfold goneBU goneI
  rw [List.length_map]
  exact Nat.le_trans (List.length_filter_le _ _) (by rw [List.length_range]; exact Nat.le_refl _)
def cutAt (l : List Int) (j : Nat) : List Int := l.take j ++ l.drop (j + 2)
/-- not an edge of these pieces -/
def outOf (qs : List (Int × Int)) (e : Int) : Bool := !(qs.any fun q => decide (e = q.2) || decide (e = q.2 + q.1))
theorem getD_get {es : List Int} {k : Nat} (h : k < es.length) : es.getD k 0 = es[k] := by
  rw [List.getD_eq_getElem?_getD]; rw [List.getElem?_eq_getElem h]; rfl
theorem asc_inj {es : List Int} (h : Asc es) {i j : Nat} (hi : i < es.length) (hj : j < es.length) (e : es.getD i 0 = es.getD j 0) : i = j := by
  rw [getD_get hi, getD_get hj] at e
  have q := List.pairwise_iff_getElem.mp h
  rcases Nat.lt_trichotomy i j with a | a | a
  · have := q i j hi hj a; omega
  · exact a
  · have := q j i hj hi a; omega
theorem goneB_mem {f : Bool} {es : List Int} {on : Bool} {m : Int} {q : Int × Int} (h : q ∈ goneB f es on m) : ∃ k, gP f es on m k = true ∧ q = (es.getD (k + 1) 0 - es.getD k 0, es.getD k 0) := by
  unfold goneB goneBU at h
  obtain ⟨k, hk, rfl⟩ := List.mem_map.mp h
  exact ⟨k, (goneL_mem k).mp hk, rfl⟩
theorem gP_lt {f : Bool} {es : List Int} {on : Bool} {m : Int} {k : Nat} (h : gP f es on m k = true) : k + 1 < es.length := by
  unfold gP at h
  rw [Bool.and_eq_true] at h; rw [decide_eq_true_eq] at h
  exact h.1
theorem gP_st {f : Bool} {es : List Int} {on : Bool} {m : Int} {k : Nat} (h : gP f es on m k = true) : stb f (1 + (k : Int)) = on := by
  unfold gP at h
  rw [Bool.and_eq_true, Bool.and_eq_true, beq_iff_eq] at h
  exact h.2.1
/-- two pieces that go share no edge -/
theorem gP_far {f : Bool} {es : List Int} {on : Bool} {m : Int} {k j : Nat} (h : gP f es on m k = true) (h' : gP f es on m j = true) : j ≠ k + 1 := by
  rintro rfl
  have a := gP_st h
  have b := gP_st h'
  rw [show (1 + ((k + 1 : Nat) : Int)) = 1 + (1 + (k : Int)) by omega, stb_succ] at b
  rw [← a] at b
  unfold stb at b
  revert b
  cases f <;> cases decide ((1 + (k : Int)) % 2 = 1) <;> simp
theorem goneB_nodup {f : Bool} {es : List Int} {on : Bool} {m : Int} (h : Asc es) : (goneB f es on m).Nodup := by
  unfold goneB goneBU
  refine List.Pairwise.map _ ?_ (show (goneI f es on m (es.length - 1)).Pairwise (fun a b => (a ∈ goneI f es on m (es.length - 1) ∧ b ∈ goneI f es on m (es.length - 1)) ∧ a ≠ b) from ?_)
  · rintro a b ⟨⟨ha, hb⟩, hn⟩ e
    injection e with _ e
    have h1 := gP_lt ((goneL_mem a).mp ha)
    have h2 := gP_lt ((goneL_mem b).mp hb)
    exact hn (asc_inj h (by omega) (by omega) e)
  · have nd : (goneI f es on m (es.length - 1)).Nodup := by
      unfold goneI
      exact List.Pairwise.filter _ List.nodup_range
    exact List.Pairwise.and_mem.mp (List.Pairwise.imp (fun hn => hn) nd) |>.imp fun h => ⟨⟨h.1, h.2.1⟩, h.2.2⟩
theorem filter_outs {qs : List (Int × Int)} {es : List Int} {A C : List Int} {b c : Int} (he : es = A ++ b :: c :: C) (hA : ∀ x ∈ A, x ≠ b ∧ x ≠ c) (hC : ∀ x ∈ C, x ≠ b ∧ x ≠ c) (hb : outOf qs b = true) (hc : outOf qs c = true) :
    ∃ j : Nat, (es.filter (outOf qs))[j]? = some b ∧ (∀ m, m < j → (es.filter (outOf qs))[m]? ≠ some b) ∧ cutAt (es.filter (outOf qs)) j = es.filter (outOf (qs ++ [(c - b, b)])) ∧ j + 2 ≤ (es.filter (outOf qs)).length := by
  have e1 : es.filter (outOf qs) = A.filter (outOf qs) ++ b :: c :: C.filter (outOf qs) := by
    rw [he, List.filter_append, List.filter_cons, if_pos hb, List.filter_cons, if_pos hc]
  have same : ∀ l : List Int, (∀ x ∈ l, x ≠ b ∧ x ≠ c) → l.filter (outOf (qs ++ [(c - b, b)])) = l.filter (outOf qs) := fun l hl => by
    apply List.filter_congr
    intro x hx
    unfold outOf
    rw [List.any_append, List.any_cons, List.any_nil, Bool.or_false]
    obtain ⟨h1, h2⟩ := hl x hx
    rw [decide_eq_false h1, decide_eq_false (by omega), Bool.or_self, Bool.or_false]
  have ob : outOf (qs ++ [(c - b, b)]) b = false := by
    unfold outOf
    rw [List.any_append, List.any_cons, decide_eq_true (rfl : b = (c - b, b).2)]
    simp
  have oc : outOf (qs ++ [(c - b, b)]) c = false := by
    unfold outOf
    rw [List.any_append, List.any_cons, decide_eq_true (show c = (c - b, b).2 + (c - b, b).1 by show c = b + (c - b); omega)]
    simp
  refine ⟨(A.filter (outOf qs)).length, ?_, ?_, ?_, ?_⟩
  · rw [e1, List.getElem?_append_right (Nat.le_refl _), Nat.sub_self]; rfl
  · intro m hm
    rw [e1, List.getElem?_append_left hm]
    intro z
    have hx := List.mem_of_getElem? z
    exact (hA b (List.mem_filter.mp hx).1).1 rfl
  · rw [e1]
    unfold cutAt
    rw [List.take_left' rfl, List.drop_append, List.drop_eq_nil_of_le (by omega), List.nil_append, show (A.filter (outOf qs)).length + 2 - (A.filter (outOf qs)).length = 2 by omega]
    rw [he, List.filter_append, same A hA, List.filter_cons, if_neg (by rw [ob]; exact Bool.false_ne_true), List.filter_cons, if_neg (by rw [oc]; exact Bool.false_ne_true), same C hC]
    rfl
  · rw [e1]; simp
theorem cut_next {f : Bool} {es : List Int} {on : Bool} {m : Int} {qs : List (Int × Int)} {i : Nat} {q : Int × Int} (h : Asc es) (hp : qs.Perm (goneB f es on m)) (hq : qs[i]? = some q) :
    ∃ j : Nat, (es.filter (outOf (qs.take i)))[j]? = some q.2 ∧ (∀ m, m < j → (es.filter (outOf (qs.take i)))[m]? ≠ some q.2) ∧ cutAt (es.filter (outOf (qs.take i))) j = es.filter (outOf (qs.take (i + 1))) ∧ j + 2 ≤ (es.filter (outOf (qs.take i))).length := by
  have hi := (List.getElem?_eq_some_iff.mp hq).1
  obtain ⟨k, hk, eq⟩ := goneB_mem (hp.mem_iff.mp (List.mem_of_getElem? hq))
  have hlt := gP_lt hk
  have nd : qs.Nodup := hp.nodup_iff.mpr (goneB_nodup h)
  have g1 : es.getD (k + 1) 0 = es[k + 1] := getD_get hlt
  have g0 : es.getD k 0 = es[k] := getD_get (by omega)
  have he : es = es.take k ++ es[k] :: es[k + 1] :: es.drop (k + 2) := by
    conv => lhs; rw [← List.take_append_drop k es]
    congr 1
    rw [List.drop_eq_getElem_cons (by omega), List.drop_eq_getElem_cons hlt]
  have pw := List.pairwise_iff_getElem.mp h
  have bc : es[k] < es[k + 1] := pw k (k + 1) (by omega) hlt (by omega)
  have far : ∀ q' ∈ qs.take i, ∃ j, gP f es on m j = true ∧ q' = (es.getD (j + 1) 0 - es.getD j 0, es.getD j 0) ∧ j ≠ k := fun q' hq' => by
    obtain ⟨j, hj, e⟩ := goneB_mem (hp.mem_iff.mp (List.mem_of_mem_take hq'))
    refine ⟨j, hj, e, fun z => ?_⟩
    subst z
    rw [← eq] at e
    obtain ⟨n, hn, en⟩ := List.getElem_of_mem hq'
    have hn' : n < i := by rw [List.length_take] at hn; omega
    rw [List.getElem_take] at en
    have := (List.getElem_inj (h₀ := by omega) (h₁ := hi) nd).mp (show qs[n] = qs[i] by rw [en, e, (List.getElem?_eq_some_iff.mp hq).2])
    omega
  have ob : ∀ n, n = k ∨ n = k + 1 → outOf (qs.take i) (es.getD n 0) = true := fun n hn => by
    unfold outOf
    rw [Bool.not_eq_true', List.any_eq_false]
    intro q' hq'
    obtain ⟨j, hj, e, jk⟩ := far q' hq'
    have jl := gP_lt hj
    have f1 := gP_far hk hj
    have f2 := gP_far hj hk
    rw [e]
    simp only [Bool.or_eq_true, decide_eq_true_eq]
    rintro (z | z)
    · have := asc_inj h (by omega) (by omega) z
      omega
    · have z' : es.getD n 0 = es.getD (j + 1) 0 := by omega
      have := asc_inj h (by omega) (by omega) z'
      omega
  have hA : ∀ x ∈ es.take k, x ≠ es[k] ∧ x ≠ es[k + 1] := fun x hx => by
    obtain ⟨n, hn, rfl⟩ := List.getElem_of_mem hx
    rw [List.length_take] at hn
    rw [List.getElem_take]
    have a := pw n k (by omega) (by omega) (by omega)
    exact ⟨by omega, by omega⟩
  have hC : ∀ x ∈ es.drop (k + 2), x ≠ es[k] ∧ x ≠ es[k + 1] := fun x hx => by
    obtain ⟨n, hn, rfl⟩ := List.getElem_of_mem hx
    rw [List.length_drop] at hn
    rw [List.getElem_drop]
    have a := pw (k + 1) (k + 2 + n) (by omega) (by omega) (by omega)
    exact ⟨by omega, by omega⟩
  obtain ⟨j, r1, r2, r3, r4⟩ := filter_outs (qs := qs.take i) he hA hC (by have := ob k (.inl rfl); rw [g0] at this; exact this) (by have := ob (k + 1) (.inr rfl); rw [g1] at this; exact this)
  refine ⟨j, ?_, ?_, ?_, r4⟩
  · rw [eq, g0]; exact r1
  · rw [eq, g0]; exact r2
  · rw [r3, List.take_add_one, hq, eq, g0, g1]
    rfl
theorem cut_end {f : Bool} {es : List Int} {on : Bool} {m : Int} {qs : List (Int × Int)} (h : Asc es) (hp : qs.Perm (goneB f es on m)) : es.filter (outOf qs) = remL f on m es := by
  rw [← keepAt_gone (List.Perm.refl (goneL f es on m))]
  unfold keepAt
  have e0 : es = es.zipIdx.map (·.1) := by rw [List.zipIdx_map_fst]
  conv => lhs; rw [e0, List.filter_map]
  congr 1
  apply List.filter_congr
  rintro ⟨v, n⟩ hv
  have hv' := List.mem_zipIdx_iff_getElem?.mp hv
  have hn : n < es.length := (List.getElem?_eq_some_iff.mp hv').1
  have ev : v = es.getD n 0 := by rw [getD_get hn, (List.getElem?_eq_some_iff.mp hv').2]
  show outOf qs v = _
  unfold outOf
  congr 1
  rw [Bool.eq_iff_iff]; rw [List.any_eq_true, List.any_eq_true]
  constructor
  · rintro ⟨q, hq, z⟩
    obtain ⟨k, hk, e⟩ := goneB_mem (hp.mem_iff.mp hq)
    have kl := gP_lt hk
    refine ⟨(k : Int), List.mem_map.mpr ⟨(es.getD (k + 1) 0 - es.getD k 0, (k : Int)), ?_, rfl⟩, ?_⟩
    · unfold goneL goneU
      exact List.mem_map.mpr ⟨k, (goneL_mem k).mpr hk, rfl⟩
    · rw [e] at z
      simp only [Bool.or_eq_true, decide_eq_true_eq] at z ⊢
      rcases z with z | z
      · have := asc_inj h hn (by omega) (ev ▸ z)
        left; omega
      · have z' : es.getD n 0 = es.getD (k + 1) 0 := by rw [← ev]; omega
        have := asc_inj h hn (by omega) z'
        right; omega
  · rintro ⟨p, hpm, z⟩
    obtain ⟨q, hq, rfl⟩ := List.mem_map.mp hpm
    unfold goneL goneU at hq
    obtain ⟨k, hk, rfl⟩ := List.mem_map.mp hq
    refine ⟨(es.getD (k + 1) 0 - es.getD k 0, es.getD k 0), hp.mem_iff.mpr (by unfold goneB goneBU; exact List.mem_map.mpr ⟨k, hk, rfl⟩), ?_⟩
    simp only [Bool.or_eq_true, decide_eq_true_eq] at z ⊢
    rcases z with z | z
    · left; rw [ev, show n = k by omega]
    · right; rw [ev, show n = k + 1 by omega]; omega
theorem cut_start (es : List Int) (qs : List (Int × Int)) : es.filter (outOf (qs.take 0)) = es := List.filter_eq_self.mpr fun _ _ => rfl
end Mx
set_option maxHeartbeats 2400000
-- Hr8
/-! Hr8: a dict that is written out. -/
namespace Dl
open PySem L2 PySem.Spec PyProof.Rows
section
variable {X : Cx} {L : Lay} {ρ : Rho} {pos p1 p2 p3 p4 : Pos}
theorem xe_disp2 {k1 k2 : Str} {i1 i2 : Int} {j1 j2 j3 j4} (hk : k1 ≠ k2) : XE X L (.Dict [some (.Constant (.str k1) j1 p1), some (.Constant (.str k2) j2 p2)] [.Constant (.int i1) j3 p3, .Constant (.int i2) j4 p4] pos) ρ (.dct [(.inr k1, .int i1), (.inr k2, .int i2)]) :=
  xe_of (pe_disp (pps_cons pe_str pe_int (pps_cons pe_str pe_int pps_nil)) rfl rfl (by simp) (Nat.le_of_ble_eq_true rfl)) fun gs H0 H σ Q E k p hp => by
    have e : mergeK [] [((.inr k1 : Key), V.int i1), (.inr k2, V.int i2)] = [(.inr k1, .int i1), (.inr k2, .int i2)] := by
      have n1 : ¬ (Sum.inr k1 : Key) = (Sum.inr k2 : Key) := fun z => hk (by injection z)
      unfold mergeK
      rw [List.foldl_cons, List.foldl_cons, List.foldl_nil]
      have a1 : putK [] (Sum.inr k1 : Key) (V.int i1) = [((Sum.inr k1 : Key), V.int i1)] := by unfold putK; rw [if_neg (by simp)]; rfl
      rw [a1]
      unfold putK
      rw [if_neg]
      · rfl
      · rw [List.any_cons, List.any_nil, Bool.or_false, decide_eq_true_eq]
        exact n1
    refine ⟨upd_same, [(.inr k1, .int i1), (.inr k2, .int i2)], rfl, Nat.le_of_ble_eq_true rfl, ?_⟩
    rw [e]
    have eu : upd (upd H p (.dK [])) p (.dK [((.inr k1 : Key), V.int i1), (.inr k2, V.int i2)]) = upd H p (.dK [(.inr k1, .int i1), (.inr k2, .int i2)]) := by
      funext b
      by_cases hb : b = p
      · subst hb; rw [upd_same, upd_same]
      · rw [upd_ne hb, upd_ne hb, upd_ne hb]
    rw [eu]
    exact k _ _ _ rfl (Step.new hp) (E.good.new hp) ⟨p, _, rfl, hp, E.good.free hp, upd_same, .cons ⟨rfl, Dv.int _⟩ (.cons ⟨rfl, Dv.int _⟩ .nil)⟩
end
end Dl
-- Pg8
namespace Dl
open PySem L2
theorem cutD_lo {xs : List D} {j : Nat} (h : j ≤ xs.length) : cutD xs none (some (j : Int)) = xs.take j := by
  unfold cutD
  rw [HT.sIx_none, HT.sIx_nat, Nat.min_eq_left h, List.drop_zero, Nat.sub_zero]
theorem cutD_hi {xs : List D} {j : Nat} (h : j ≤ xs.length) : cutD xs (some (j : Int)) none = xs.drop j := by
  unfold cutD
  rw [HT.sIx_none, HT.sIx_nat, Nat.min_eq_left h, List.take_of_length_le (by rw [List.length_drop]; omega)]
end Dl
namespace Pg
open PySem L2 Dl Mx Hr
def mD (a b : Int) : List (Key × D) := [(.inr "up", .int a), (.inr "down", .int b)]
theorem ud_ne : ("up" : Str) ≠ "down" := by decide +kernel
theorem get_mD (a b : Int) (w : Bool) : getD' (mD a b) (.inr (wd w)) = some (.int (if w = true then a else b)) := by
  cases w
  · unfold getD' mD wd
    rw [if_neg Bool.false_ne_true, List.find?_cons, decide_eq_false (by intro z; injection z with z; exact ud_ne z), List.find?_cons, decide_eq_true (rfl : (Sum.inr "down" : Key) = .inr "down")]
    rfl
  · unfold getD' mD wd
    rw [if_pos rfl, List.find?_cons, decide_eq_true (rfl : (Sum.inr "up" : Key) = .inr "up")]
    rfl
theorem put_mD (a b m : Int) (w : Bool) : putD (mD a b) (.inr (wd w)) (.int m) = mD (if w = true then m else a) (if w = true then b else m) := by
  have n1 : ¬ (Sum.inr "up" : Key) = .inr "down" := fun z => by injection z with z; exact ud_ne z
  have n2 : ¬ (Sum.inr "down" : Key) = .inr "up" := fun z => by injection z with z; exact ud_ne z.symm
  cases w
  · unfold putD mD wd
    rw [if_pos (by simp)]
    simp only [Bool.false_eq_true, if_false, List.map_cons, List.map_nil, if_neg n1, if_true]
  · unfold putD mD wd
    rw [if_pos (by simp)]
    simp only [if_true, List.map_cons, List.map_nil, if_neg n2]
section
variable {P : Program} {w : World} {K : PySem.W.Frag} {mg : Str → Option Value} {base : Heap} {L : Lay}
inductive gLawGoing : Ct
  | mk (f : Bool) (es : List Int) (l : Ld) (ha : Asc es) (hl : es.length ≤ 1000) (hll : l.length ≤ 90) : gLawGoing [.d (ln f es), .d (ldD l)] (fun z => z = .d (.tup [.opq, ln f (core f es l)]))
abbrev s__law_going : Stmt := top 77
theorem ok__law_going {f : Addr} {fd : FuncData} (F : Fun K "_law_going" "_law_going" s__law_going f fd) (B : Bi mg)  : FnOk P w K mg base CX0 1 f fd ["_law_line", "_law_runs"] (spG L gLawGoing) := by
  refine def_ok (N := ["_law_line", "_law_runs", "_law_first", "_law_edges_here", "_law_found", "_law_most", "_law_word", "_law_many", "_law_here", "_law_at", "_law_on_here", "_law_length", "_law_begin"]) F ⟨rfl, rfl, rfl, by decide +kernel, rfl, by decide +kernel, by decide +kernel⟩ (by decide) (fun _ _ h => by cases h; rfl) fun cdv A outer s H E hr rs Pq h => ?_
  have nd : (["_law_line", "_law_runs", "_law_first", "_law_edges_here", "_law_found", "_law_most", "_law_word", "_law_many", "_law_here", "_law_at", "_law_on_here", "_law_length", "_law_begin"] : List Str).Nodup := by decide +kernel
  cases h with
  | mk f es l ha hl hll =>
    refine xs_set (i := 2) (xe_ixT (xv 0) xe_int rfl) (xs_setRo (i := 3) (xe_listT (xe_ixT (xv 0) xe_int rfl) B.list) (xs_set (i := 4) (xe_lst (ds := []) xa_nil) (xs_set (i := 5) (xe_disp2 ud_ne) ?_)))
    refine xs_for (xi_tup (xv 1)) (by apply pg_two (i := 6) (j := 7) nd <;> first | rfl | exact Or.inl rfl | exact Or.inr rfl) (fun ds i ρ' => ∃ (cur : List Int) (fn : List D) (a b : Int) (x6 x7 x8 x9 x10 x11 x12 : Option Rep), ρ' = [some (.d (ln f es)), some (.d (ldD l)), some (.d (.bl f)), some (.ro (cur.map .int)), some (.own fn), some (.dct (mD a b)), x6, x7, x8, x9, x10, x11, x12] ∧ (a, b, cur) = (l.take i).foldl (coreStep f) (0, 0, es) ∧ Asc cur ∧ cur.length ≤ 1000 ∧ fn.length ≤ 1000 * i) (fun ds hd => ⟨es, [], 0, 0, none, none, none, none, none, none, none, rfl, rfl, ha, hl, Nat.zero_le _⟩) ?_ ?_
    · rintro ds i d ρ1 rfl hd ⟨cur, fn, a, b, x6, x7, x8, x9, x10, x11, x12, rfl, ea, ac, ec, ef⟩
      rw [List.getElem?_map] at hd
      cases hg : l[i]? with
      | none => rw [hg] at hd; cases hd
      | some g =>
        rw [hg] at hd
        cases hd
        have hi : i < l.length := (List.getElem?_eq_some_iff.mp hg).1
        obtain ⟨m, em⟩ : ∃ m, m = (if g.1 = true then a else b) + g.2 := ⟨_, rfl⟩
        have st : (l.take (i + 1)).foldl (coreStep f) (0, 0, es) = ((if g.1 = true then m else a), (if g.1 = true then b else m), remL f (!g.1) m cur) := by
          rw [take_snoc hg, List.foldl_append, ← ea]
          show coreStep f (a, b, cur) g = _
          unfold coreStep
          rw [em]
          cases g.1 <;> rfl
        refine ⟨_, evg_tup2, xs_dput (i := 5) (k := .inr (wd g.1)) rfl (xe_add (xe_dget (i := 5) (k := .inr (wd g.1)) rfl (xv 6) (get_mD a b g.1) (pe_dget (room_u1 hr) (pv _) pe_sem (by exact fun _ _ => rfl))) (xv 7)) (xv 6) (by show 2 < _; decide) ?_ (ps_dput (room_u1 hr) (pv _) pe_sem pe_sem rfl)⟩
        rw [put_mD, ← em]
        refine xs_set (i := 8) (xe_lst (ds := []) xa_nil) ?_
        refine xs_for (xi_rng2 (hi := (cur.length : Int)) xe_int ((xe_lenL (xv 3) B.len).is (by rw [List.length_map])) (by omega) B.range) (pg_name (i := 9) nd rfl (Or.inl rfl)) (fun ds n ρ' => ∃ y9 y10, ρ' = [some (.d (ln f es)), some (.d (ldD l)), some (.d (.bl f)), some (.ro (cur.map .int)), some (.own fn), some (.dct (mD (if g.1 = true then m else a) (if g.1 = true then b else m))), some (.d (.str (wd g.1))), some (.d (.int g.2)), some (.own ((goneBU f cur (!g.1) m n).map pD)), y9, y10, x11, x12] ∧ n ≤ cur.length - 1) (fun ds hd => ⟨x9, x10, rfl, Nat.zero_le _⟩) ?_ ?_
        · rintro ds n d ρ1 rfl hd ⟨y9, y10, rfl, hle⟩
          obtain ⟨h1, rfl⟩ := rng_get hd
          have h2 : n + 1 < cur.length := by omega
          have i1 : atI (cur.map D.int) (1 + (n : Int)) = some (.int (cur.getD (n + 1) 0)) := atI_mapI (j := n + 1) (by omega) (getD_at h2)
          have i0 : atI (cur.map D.int) (1 + (n : Int) - 1) = some (.int (cur.getD n 0)) := atI_mapI (j := n) (by omega) (getD_at (by omega))
          refine ⟨_, evg_name, xs_set (i := 10) (xe_ne (xv 2) (xe_eq (xe_mod (xv 9) xe_int (by decide)) xe_int (.int _ _)) (.bl _ _)) ?_⟩
          have gm : getD' (mD (if g.1 = true then m else a) (if g.1 = true then b else m)) (.inr (wd g.1)) = some (.int m) := by
            rw [get_mD]
            cases g.1 <;> rfl
          refine xs_if (t := (stb f (1 + (n : Int)) == !g.1) && decide (cur.getD (n + 1) 0 - cur.getD n 0 ≤ m)) (xt_w (xw_and (p := stb f (1 + (n : Int)) == !g.1) (XT.is (xt_eq (xv 10) (xe_eq (xv 6) xe_str (.str _ _)) (.bl _ _)) (by rw [wd_down]; rfl)) (fun _ => xw_and1 (xt_le (xe_sub (xe_ixL (xv 3) (xv 9) i1) (xe_ixL (xv 3) (xe_sub (xv 9) xe_int) i0)) (xe_dget (i := 5) (k := .inr (wd g.1)) rfl (xv 6) gm (pe_dget (room_u1 hr) (pv _) pe_sem (by exact fun _ _ => rfl))))))) (fun z => ?_) (fun z => ?_)
          · rw [Bool.and_eq_true] at z
            have q : goneBU f cur (!g.1) m (n + 1) = goneBU f cur (!g.1) m n ++ [(cur.getD (n + 1) 0 - cur.getD n 0, cur.getD n 0)] := by rw [goneBU_succ, if_pos ⟨beq_iff_eq.mp z.1, of_decide_eq_true z.2⟩]
            refine xs_append (i := 8) rfl (xe_tup (ds := [.int (cur.getD (n + 1) 0 - cur.getD n 0), .int (cur.getD n 0)]) (xa_cons (xe_sub (xe_ixL (xv 3) (xv 9) i1) (xe_ixL (xv 3) (xe_sub (xv 9) xe_int) i0)) (xa_cons (xe_ixL (xv 3) (xe_sub (xv 9) xe_int) i0) xa_nil))) (by have := goneBU_len f cur (!g.1) m n; rw [List.length_map]; omega) (xs_nil (xs_nil ⟨some (.d (.int (1 + (n : Int)))), some (.d (.bl (stb f (1 + (n : Int))))), ?_, by omega⟩))
            rw [q, List.map_append]
            rfl
          · have q : goneBU f cur (!g.1) m (n + 1) = goneBU f cur (!g.1) m n := by
              rw [goneBU_succ, if_neg, List.append_nil]
              intro y
              rw [y.1, decide_eq_true y.2] at z
              simp at z
            refine xs_nil (xs_nil ⟨some (.d (.int (1 + (n : Int)))), some (.d (.bl (stb f (1 + (n : Int))))), ?_, by omega⟩)
            rw [q]
            rfl
        · rintro ds ρ1 rfl ⟨y9, y10, rfl, hle⟩
          have el : (rng 1 ((cur.length : Int) - 1).toNat).length = cur.length - 1 := by rw [rng_len]; omega
          rw [el]
          refine xs_for (PD := fun ds => ∃ qs : List (Int × Int), qs.Perm (goneB f cur (!g.1) m) ∧ ds = qs.map pD) (xi_new (XP.fz 8 rfl (EvP.imp (xp_sortedP (xv 8) B.sorted) fun r h => ?_))) (by apply pg_two (i := 11) (j := 12) nd <;> first | rfl | exact Or.inl rfl | exact Or.inr rfl) (fun ds n ρ' => ∃ (qs : List (Int × Int)) (fn' : List D) (y9 y11 y12 : Option Rep), qs.Perm (goneB f cur (!g.1) m) ∧ ds = qs.map pD ∧ fn'.length ≤ 1000 * i + n ∧ ρ' = [some (.d (ln f es)), some (.d (ldD l)), some (.d (.bl f)), some (.ro ((cur.filter (outOf (qs.take n))).map .int)), some (.own fn'), some (.dct (mD (if g.1 = true then m else a) (if g.1 = true then b else m))), some (.d (.str (wd g.1))), some (.d (.int g.2)), some (.own ((goneBU f cur (!g.1) m (cur.length - 1)).map pD)), y9, y10, y11, y12]) ?_ ?_ ?_
          · obtain ⟨qs, h1, rfl⟩ := h
            exact ⟨_, ⟨qs, h1, rfl⟩, rfl⟩
          · rintro ds ⟨qs, hq, rfl⟩
            refine ⟨qs, fn, y9, x11, x12, hq, rfl, ef, ?_⟩
            rw [cut_start]
          · rintro ds n d ρ1 _ hd ⟨qs, fn', y9, y11, y12, hq, rfl, hf, rfl⟩
            rw [List.getElem?_map] at hd
            cases hq1 : qs[n]? with
            | none => rw [hq1] at hd; cases hd
            | some q =>
              rw [hq1] at hd
              cases hd
              have hn : n < qs.length := (List.getElem?_eq_some_iff.mp hq1).1
              have hql : qs.length ≤ 1000 := by
                rw [hq.length_eq]
                have := goneBU_len f cur (!g.1) m (cur.length - 1)
                unfold goneB
                omega
              have hfl : (cur.filter (outOf (qs.take n))).length ≤ cur.length := List.length_filter_le _ _
              obtain ⟨j, r1, r2, r3, r4⟩ := cut_next ac hq hq1
              refine ⟨_, evg_tup2, xs_set (i := 9) (xe_index (xv 3) (xv 12) r1 r2) ?_⟩
              refine xs_setRo (i := 3) (ds := (cur.filter (outOf (qs.take (n + 1)))).map .int) (XE.is (xe_catL (xe_slL (xv 3) xo_none (xo_some (xv 9))).rd (xe_slL (xv 3) (xo_some (xe_add (xv 9) xe_int)) xo_none).rd ?_) ?_) ?_
              · rw [cutD_lo (by rw [List.length_map]; omega), show (j : Int) + 2 = ((j + 2 : Nat) : Int) by omega, cutD_hi (by rw [List.length_map]; omega), List.length_take, List.length_drop, List.length_map]
                omega
              · rw [cutD_lo (by rw [List.length_map]; omega), show (j : Int) + 2 = ((j + 2 : Nat) : Int) by omega, cutD_hi (by rw [List.length_map]; omega), ← r3]
                unfold cutAt
                rw [List.map_append, List.map_take, List.map_drop]
              · refine xs_append (i := 4) (d := .tup [.str (if g.1 = true then "filled" else "struck"), .int q.1, .int q.2]) rfl (xe_tup (ds := [.str (if g.1 = true then "filled" else "struck"), .int q.1, .int q.2]) (xa_cons (xe_ixL (XE.rd (xe_lst (ds := [.str "filled", .str "struck"]) (xa_cons xe_str (xa_cons xe_str xa_nil)))) (xe_intB (xe_eq (xv 6) xe_str (.str _ _)) B.int) ?_) (xa_cons (xv 11) (xa_cons (xv 12) xa_nil)))) (by omega) (xs_nil ⟨qs, _, _, _, _, hq, rfl, ?_, rfl⟩)
                · rw [wd_down]
                  cases g.1 <;> rfl
                · rw [List.length_append]
                  show fn'.length + 1 ≤ _
                  omega
          · rintro ds ρ1 _ ⟨qs, fn', y9, y11, y12, hq, rfl, hf, rfl⟩
            have hql : qs.length ≤ 1000 := by
              rw [hq.length_eq]
              have := goneBU_len f cur (!g.1) m (cur.length - 1)
              unfold goneB
              omega
            rw [List.length_map] at hf
            rw [List.length_map, List.take_length, cut_end ac hq]
            have hrl := remL_len f (!g.1) m cur
            exact xs_nil ⟨remL f (!g.1) m cur, fn', _, _, _, _, _, _, _, _, _, rfl, st.symm, ac.sub (remL_sub _ _ _ _), by omega, by omega⟩
    · rintro ds ρ1 rfl ⟨cur, fn, a, b, x6, x7, x8, x9, x10, x11, x12, rfl, ea, ac, ec, ef⟩
      rw [List.length_map, List.take_length] at ea
      have ecur : core f es l = cur := by unfold core; rw [← ea]
      refine xs_retE (xe_tup (ds := [.opq, ln f cur]) (xa_cons (XE.fz 4 (xv 4).opq) (xa_cons (xe_tup (ds := [.bl f, lnE cur]) (xa_cons (xv 2) (xa_cons (xe_tupleL (xv 3) B.tuple) xa_nil))) xa_nil))) ?_
      rw [ecur]
end
end Pg
set_option maxHeartbeats 240000
-- Pl7
/-! Pl7: all ladders, opened from the end. -/
namespace Mx
def ct (b : Bool) (s : List Bool) : Nat := if b then cu s else cd s
def chE (mo : Nat) (s : List Bool) (b : Bool) : List (List Bool) := if ct b s < mo then [s ++ [b]] else []
structure Opl (mo : Nat) (fs dn : List (List Bool)) (m : Nat) : Prop where
  wt : (fs.map (wgt mo)).sum = m
  sum : dn.length + m = Wn mo mo
  val : ∀ s, s ∈ fs ∨ s ∈ dn → Valid mo s
  hd : (fs = [[]] ∧ dn = []) ∨ ∃ r, dn = [] :: r
  cl : ∀ s ∈ dn, ∀ b, ct b s < mo → s ++ [b] ∈ fs ∨ s ++ [b] ∈ dn
theorem opl_start (mo : Nat) : Opl mo [[]] [] (Wn mo mo) where
  wt := by show wgt mo [] + 0 = _; unfold wgt; rfl
  sum := Nat.zero_add _
  val := fun s hs => by
    rcases hs with h | h
    · obtain rfl := List.mem_singleton.mp h
      exact ⟨Nat.zero_le _, Nat.zero_le _⟩
    · cases h
  hd := .inl ⟨rfl, rfl⟩
  cl := fun s hs => by cases hs
theorem Opl.room {mo : Nat} {fs dn : List (List Bool)} {m : Nat} (o : Opl mo fs dn m) : fs.length + dn.length ≤ Wn mo mo := by
  have q : ∀ l : List (List Bool), l.length ≤ (l.map (wgt mo)).sum := by
    intro l
    induction l with
    | nil => exact Nat.le_refl _
    | cons x l ih =>
      rw [List.map_cons, List.sum_cons, List.length_cons]
      have : 1 ≤ wgt mo x := Wn_pos _ _
      omega
  have := q fs
  rw [o.wt] at this
  have := o.sum
  omega
theorem Opl.next {mo : Nat} {fs dn : List (List Bool)} {m : Nat} {s : List Bool} (o : Opl mo (fs ++ [s]) dn m) : ∃ m', m' < m ∧ Opl mo (fs ++ [true, false].flatMap (chE mo s)) (dn ++ [s]) m' := by
  have hv := o.val s (.inl (List.mem_append_right _ (List.mem_singleton.mpr rfl)))
  have wm : (fs.map (wgt mo)).sum + wgt mo s = m := by rw [← o.wt, List.map_append, List.sum_append]; simp
  have we := wgt_eq (m := mo) (s := s)
  have wc : (([true, false].flatMap (chE mo s)).map (wgt mo)).sum = (if cu s < mo then wgt mo (s ++ [true]) else 0) + (if cd s < mo then wgt mo (s ++ [false]) else 0) := by
    rw [List.flatMap_cons, List.flatMap_cons, List.flatMap_nil, List.append_nil, List.map_append, List.sum_append]
    unfold chE ct
    simp only [if_true, Bool.false_eq_true, if_false]
    congr 1 <;> split <;> simp
  have hpos : 1 ≤ wgt mo s := Wn_pos _ _
  have chm : ∀ t, t ∈ [true, false].flatMap (chE mo s) ↔ ∃ b, ct b s < mo ∧ t = s ++ [b] := fun t => by
    rw [List.mem_flatMap]
    unfold chE
    constructor
    · rintro ⟨b, _, h⟩
      split at h
      · exact ⟨b, by assumption, List.mem_singleton.mp h⟩
      · cases h
    · rintro ⟨b, h, rfl⟩
      exact ⟨b, by cases b <;> simp, by rw [if_pos h]; exact List.mem_singleton.mpr rfl⟩
  refine ⟨m - 1, by omega, ?_, ?_, ?_, ?_, ?_⟩
  · rw [List.map_append, List.sum_append, wc]; omega
  · have := o.sum
    rw [List.length_append]
    simp only [List.length_singleton]
    omega
  · rintro t (h | h)
    · rcases (List.mem_append).mp h with h | h
      · exact o.val t (.inl (List.mem_append_left _ h))
      · obtain ⟨b, hb, rfl⟩ := (chm t).mp h
        unfold ct at hb
        have h1 := hv.1
        have h2 := hv.2
        refine ⟨?_, ?_⟩
        · rw [cu_snoc]; cases b <;> simp at hb ⊢ <;> omega
        · rw [cd_snoc]; cases b <;> simp at hb ⊢ <;> omega
    · rcases (List.mem_append).mp h with h | h
      · exact o.val t (.inr h)
      · obtain rfl := List.mem_singleton.mp h
        exact hv
  · right
    rcases o.hd with ⟨h1, h2⟩ | ⟨r, h⟩
    · have e : s = [] := by
        have q := congrArg List.getLast? h1
        rw [List.getLast?_concat] at q
        simpa using q
      rw [h2, e]
      exact ⟨[], rfl⟩
    · exact ⟨r ++ [s], by rw [h]; rfl⟩
  · intro t ht b hb
    rcases List.mem_append.mp ht with h | h
    · rcases o.cl t h b hb with z | z
      · rcases List.mem_append.mp z with z | z
        · exact .inl (List.mem_append_left _ z)
        · rw [(List.mem_singleton).mp z]
          exact .inr (List.mem_append_right _ (List.mem_singleton.mpr rfl))
      · exact .inr (List.mem_append_left _ z)
    · obtain rfl := List.mem_singleton.mp h
      exact .inl (List.mem_append_right _ ((chm _).mpr ⟨b, hb, rfl⟩))
theorem Opl.all {mo : Nat} {dn : List (List Bool)} {m : Nat} (o : Opl mo [] dn m) : ∀ s, Valid mo s → s ∈ dn := by
  have h0 : [] ∈ dn := by
    rcases o.hd with ⟨h, _⟩ | ⟨r, h⟩
    · cases h
    · rw [h]; apply List.mem_cons_self
  refine snoc_ind (fun _ => h0) fun s b ih hv => ?_
  have h1 := hv.1
  have h2 := hv.2
  rw [cu_snoc] at h1
  rw [cd_snoc] at h2
  have hs := ih ⟨by omega, by omega⟩
  rcases o.cl s hs b (by unfold ct; cases b <;> simp at h1 h2 ⊢ <;> omega) with z | z
  · cases z
  · exact z
theorem runs_snoc (s : List Bool) (b : Bool) : runs (s ++ [b]) = noteLd (runs s) b 1 := by unfold runs; rw [List.foldl_append]; rfl
theorem note_nil (b : Bool) (n : Int) : noteLd [] b n = [(b, n)] := rfl
theorem note_same (l : Ld) (b : Bool) (k n : Int) : noteLd (l ++ [(b, k)]) b n = l ++ [(b, k + n)] := by
  unfold noteLd
  rw [List.getLast?_concat]
  dsimp only
  rw [if_pos rfl, List.dropLast_concat]
theorem note_other (l : Ld) (b b' : Bool) (k n : Int) (h : b' ≠ b) : noteLd (l ++ [(b', k)]) b n = l ++ [(b', k)] ++ [(b, n)] := by
  unfold noteLd
  rw [List.getLast?_concat]
  dsimp only
  rw [if_neg h]
theorem note_len (l : Ld) (b : Bool) (n : Int) : (noteLd l b n).length ≤ l.length + 1 := by
  rcases List.eq_nil_or_concat l with rfl | ⟨t, ⟨b', k⟩, rfl⟩
  · rw [note_nil]; simp
  · rw [List.concat_eq_append]
    by_cases h : b' = b
    · subst h; rw [note_same]; simp
    · rw [note_other _ _ _ _ _ h]; simp
theorem runs_len : ∀ s : List Bool, (runs s).length ≤ s.length := by
  refine snoc_ind (Nat.le_refl _) fun s b h => ?_
  rw [runs_snoc, List.length_append]
  have := note_len (runs s) b 1
  simp; omega
end Mx
set_option maxHeartbeats 2400000
-- Pg9
namespace Dl
open PySem L2 PyProof.Rows
section
variable {X : Cx} {L : Lay} {ρ : Rho} {pos p p1 p2 : Pos} {rest : List Stmt} {E : DE} {i : Nat} {x : Str}
/-- a, b = x.pop(), x a list of the frame's own -/
theorem xs_asgPop {tg : Expr} {g : TG} {d : D} {ds : List D} {ρ' : Rho} (hr : ρ[i]? = some (some (.own (ds ++ [d])))) (hg : PG X tg g) (eg : EvG L g (ρ.set i (some (.own ds))) d ρ') (k : XSs X L rest ρ' E)
    (hpe : PS X (.Assign [tg] (.Call (.Attribute (.Name x p) "pop" p1) [] [] p2) pos) (tAsg (tBM0 X.K "list" rPop (tVar i)) g)) : XSs X L (.Assign [tg] (.Call (.Attribute (.Name x p) "pop" p1) [] [] p2) pos :: rest) ρ E :=
  xs_cons hpe fun gs H0 H σ D En l => by
    obtain ⟨v, s1, a, vs, rfl, h0, hv, h1, h2⟩ := En.slot i _ hr
    have hl := h2.length
    rw [List.length_append] at hl; rw [List.length_singleton] at hl
    obtain ⟨w, w1, w2⟩ := h2.get (i := vs.length - 1) (d := d) (by rw [hl, Nat.add_sub_cancel, List.getElem?_append_right (Nat.le_refl _), Nat.sub_self]; rfl)
    refine ⟨_, s1, .inl ⟨rfl, vs, SqL.of h1⟩, a, vs, w, rfl, rfl, h1, w1, ?_⟩
    have dv : DvA H vs.dropLast ds := by
      have q := h2.dropLast
      rw [List.dropLast_concat] at q
      exact q
    have tx : TEx H (upd H a (.lst vs.dropLast)) := fun b u h so => by
      have n : b ≠ a := fun z => by
        rw [z, h1] at h
        cases h
        cases so
      rw [upd_ne n]
      exact h
    have E1 := En.write hr rfl s1 h0 hv h1 (.inl ⟨_, rfl⟩) (r' := .own ds) (o := .lst vs.dropLast) rfl fun H' z tx => ⟨a, _, rfl, h0, hv, z, DvA.mono tx _ _ dv⟩
    exact eg gs H0 _ σ w _ E1 (Dv.mono tx _ _ w2) fun σ' E' => k gs H0 _ σ' D E' ⟨l.nx, l.rt, l.bk, l.ct⟩
end
end Dl
namespace Pg
open PySem L2 Dl Mx Hr
def itD (s : List Bool) : D := .tup [ldD (runs s), .int (cu s), .int (cd s)]
/-- all ladders of at most mo rungs each way, in order -/
structure LadS (mo : Nat) (ls : List Ld) : Prop where
  val : ∀ l ∈ ls, ∃ s, Valid mo s ∧ l = runs s
  all : ∀ s, Valid mo s → runs s ∈ ls
  srt : ls.Pairwise fun a b => ltL b a = false
  len : ls.length ≤ 251
theorem wd_beq (a b : Bool) : decide (wd a = wd b) = decide (a = b) := by cases a <;> cases b <;> decide +kernel
theorem ct_snoc (b : Bool) (s : List Bool) : (cu (s ++ [b]) : Int) = cu s + (if wd b = "up" then 1 else 0) ∧ (cd (s ++ [b]) : Int) = cd s + (if wd b = "down" then 1 else 0) := by
  rw [cu_snoc, cd_snoc]
  have u := wd_up b
  have d := wd_down b
  cases b
  · rw [if_neg (of_decide_eq_false u), if_pos (of_decide_eq_true d)]; simp
  · rw [if_pos (of_decide_eq_true u), if_neg (of_decide_eq_false d)]; simp
def lastIs (l : Ld) (b : Bool) : Bool := match l.getLast? with
  | some q => decide (q.1 = b)
  | none => false
theorem cutD_m1 (xs : List D) (x : D) : cutD (xs ++ [x]) none (some (-1)) = xs := by
  unfold cutD
  rw [HT.sIx_none]
  have e : HT.sIx (xs ++ [x]).length (xs ++ [x]).length (some (-1)) = xs.length := by
    show (if (-1 : Int) < 0 then ((-1 : Int) + ((xs ++ [x]).length : Int)).toNat else min (-1 : Int).toNat (xs ++ [x]).length) = _
    rw [if_pos (by decide), List.length_append, List.length_singleton]
    omega
  rw [e, List.drop_zero, Nat.sub_zero, List.take_left' rfl]
section
variable {P : Program} {w : World} {K : PySem.W.Frag} {mg : Str → Option Value} {base : Heap} {L : Lay}
inductive gLawLadders : Ct
  | mk (mo : Nat) (hm : mo ≤ 4) : gLawLadders [.d (.int mo)] (fun z => ∃ ds, (∃ ls, LadS mo ls ∧ ds = ls.map fun l => ldD l) ∧ z = .own ds)
abbrev s__law_ladders : Stmt := top 79
theorem ok__law_ladders {f : Addr} {fd : FuncData} (F : Fun K "_law_ladders" "_law_ladders" s__law_ladders f fd) (B : Bi mg)  : FnOk P w K mg base CX0 1 f fd ["_law_most"] (spG L gLawLadders) := by
  refine def_ok (N := ["_law_most", "_law_found", "_law_done", "_law_runs", "_law_high", "_law_deep", "_law_word", "_law_here", "_law_more"]) F ⟨rfl, rfl, rfl, by decide +kernel, rfl, by decide +kernel, by decide +kernel⟩ (by decide) (fun _ _ h => by cases h; rfl) fun cdv A outer s H E hr rs Pq h => ?_
  have nd : (["_law_most", "_law_found", "_law_done", "_law_runs", "_law_high", "_law_deep", "_law_word", "_law_here", "_law_more"] : List Str).Nodup := by decide +kernel
  cases h with
  | mk mo hm =>
    have hW := Wn_le mo hm
    refine xs_set (i := 1) (xe_lst (ds := [itD []]) (xa_cons (xe_tup (ds := [ldD [], .int 0, .int 0]) (xa_cons (xe_tup (ds := []) xa_nil) (xa_cons xe_int (xa_cons xe_int xa_nil)))) xa_nil)) (xs_set (i := 2) (xe_lst (ds := []) xa_nil) ?_)
    refine xs_while (fun m ρ' => ∃ (fs dn : List (List Bool)) (x3 x4 x5 x6 x7 x8 : Option Rep), ρ' = [some (.d (.int mo)), some (.own (fs.map itD)), some (.own (dn.map fun s => ldD (runs s))), x3, x4, x5, x6, x7, x8] ∧ Opl mo fs dn m) (Wn mo mo) ⟨[[]], [], none, none, none, none, none, none, rfl, opl_start mo⟩ ?_
    rintro m ρ1 ⟨fs, dn, x3, x4, x5, x6, x7, x8, rfl, o⟩
    have hroom := o.room
    refine ⟨decide (0 < fs.length), XT.fz (ds := fs.map itD) 1 ((xt_gt (xe_lenL (xv 1) B.len) xe_int).is (by rw [List.length_map]; exact decide_eq_decide.mpr (by omega))), fun z => ?_, fun z => ?_⟩
    · have hlt : 0 < fs.length := of_decide_eq_true z
      rcases List.eq_nil_or_concat fs with rfl | ⟨fs', s, rfl⟩
      · simp at hlt
      rw [List.concat_eq_append] at o hroom ⊢
      have hv := o.val s (.inl (List.mem_append_right _ (List.mem_singleton.mpr rfl)))
      have hsl := hv.len
      have hrl := runs_len s
      obtain ⟨m', hm', o'⟩ := o.next
      have hroom' := o'.room
      refine xs_asgPop (i := 1) (ds := fs'.map itD) (d := itD s) (by rw [List.map_append]; rfl) (by apply pg_three (i := 3) (j := 4) (l := 5) nd <;> first | rfl | exact Or.inl rfl | exact Or.inr rfl) evg_tup3 ?_ (ps_asg (pe_bm0 PySem.F.plainAttrs_list PySem.F.slot_list_pop PySem.F.type_list_pop mt_pop (pv _)) (by apply pg_three (i := 3) (j := 4) (l := 5) nd <;> first | rfl | exact Or.inl rfl | exact Or.inr rfl))
      refine xs_append (i := 2) (ds := dn.map fun s => ldD (runs s)) (d := ldD (runs s)) rfl (xv 3) (by rw [List.length_map]; omega) ?_
      refine xs_for (xi_newE (xe_lst (ds := [.tup [.str "up", .int (cu s)], .tup [.str "down", .int (cd s)]]) (xa_cons (xe_tup (ds := [.str "up", .int (cu s)]) (xa_cons xe_str (xa_cons (xv 4) xa_nil))) (xa_cons (xe_tup (ds := [.str "down", .int (cd s)]) (xa_cons xe_str (xa_cons (xv 5) xa_nil))) xa_nil)))) (by apply pg_two (i := 6) (j := 7) nd <;> first | rfl | exact Or.inl rfl | exact Or.inr rfl) (fun ds i ρ' => ∃ y6 y7 y8, ρ' = [some (.d (.int mo)), some (.own ((fs' ++ ([true, false].take i).flatMap (chE mo s)).map itD)), some (.own ((dn ++ [s]).map fun s => ldD (runs s))), some (.d (ldD (runs s))), some (.d (.int (cu s))), some (.d (.int (cd s))), y6, y7, y8]) (fun ds hd => ⟨x6, x7, x8, by simp only [List.take_zero, List.flatMap_nil, List.append_nil, List.map_append]; rfl⟩) ?_ ?_
      · rintro ds i d ρ1 rfl hd ⟨y6, y7, y8, rfl⟩
        obtain ⟨b, hb, rfl⟩ : ∃ b, [true, false][i]? = some b ∧ d = .tup [.str (wd b), .int (ct b s)] := by
          match i with
          | 0 => cases hd; exact ⟨true, rfl, rfl⟩
          | 1 => cases hd; exact ⟨false, rfl, rfl⟩
          | i + 2 => cases hd
        have tk1 := take_snoc hb
        have hfl : (([true, false].take i).flatMap (chE mo s)).length ≤ 2 := by
          match i with
          | 0 => simp
          | 1 => simp [chE]; split <;> simp
          | i + 2 => simp [chE]; split <;> split <;> simp
        refine ⟨_, evg_tup2, xs_if (xt_lt (xv 7) (xv 0)) (fun z => ?_) (fun z => ?_)⟩
        · have zc : ct b s < mo := by have := of_decide_eq_true z; omega
          have ce : chE mo s b = [s ++ [b]] := if_pos zc
          obtain ⟨c1, c2⟩ := ct_snoc b s
          have hR := List.eq_nil_or_concat (runs s)
          refine xs_set (i := 8) (r := .d (ldD (runs s ++ [(b, 1)]))) ((xe_catT (xv 3) (xe_tup (ds := [rgD (b, 1)]) (xa_cons (xe_tup (ds := [.str (wd b), .int 1]) (xa_cons (xv 6) (xa_cons xe_int xa_nil))) xa_nil)) (by rw [List.length_map]; show _ + 1 ≤ _; omega)).is (by show _ = Rep.d (.tup (List.map rgD _)); rw [List.map_append]; rfl)) ?_
          refine xs_ifJ (t := lastIs (runs s) b) (fun ρ' => ρ' = [some (.d (.int mo)), some (.own ((fs' ++ ([true, false].take i).flatMap (chE mo s)).map itD)), some (.own ((dn ++ [s]).map fun s => ldD (runs s))), some (.d (ldD (runs s))), some (.d (.int (cu s))), some (.d (.int (cd s))), some (.d (.str (wd b))), some (.d (.int (ct b s))), some (.d (ldD (runs (s ++ [b]))))]) ?_ (fun y => ?_) (fun y => ?_) ?_
          · rcases hR with hR | ⟨l', ⟨b', k⟩, hR⟩
            · refine xt_w (XW.is (xw_and (q := false) (xt_gt (xe_lenT (ds := []) ((xv 3).is (by rw [hR]; rfl)) B.len) xe_int) (fun y => by cases y)) (by rw [hR]; rfl))
            · rw [List.concat_eq_append] at hR
              refine xt_w (XW.is (xw_and (xt_gt (xe_lenT (ds := l'.map rgD ++ [rgD (b', k)]) ((xv 3).is (by rw [hR]; show Rep.d (.tup (List.map rgD _)) = _; rw [List.map_append]; rfl)) B.len) xe_int) (fun y => xw_and1 (xt_eq (xe_ixT (ds := [.str (wd b'), .int k]) (xe_ixT (ds := l'.map rgD ++ [rgD (b', k)]) ((xv 3).is (by rw [hR]; show Rep.d (.tup (List.map rgD _)) = _; rw [List.map_append]; rfl)) (xe_neg xe_int) (atI_last _ _)) xe_int rfl) (xv 6) (.str _ _)))) ?_)
              rw [hR, wd_beq]
              unfold lastIs
              rw [List.getLast?_concat, List.length_append]
              simp
          · rcases hR with hR | ⟨l', ⟨b', k⟩, hR⟩
            · rw [hR] at y; cases y
            · rw [List.concat_eq_append] at hR
              have eb : b' = b := by
                rw [hR] at y
                unfold lastIs at y
                rw [List.getLast?_concat] at y
                exact of_decide_eq_true y
              subst eb
              have h4 : runs (s ++ [b']) = l' ++ [(b', k + 1)] := by rw [runs_snoc, hR, note_same]
              have h5 : l'.length + 1 = (runs s).length := by rw [hR, List.length_append]; rfl
              refine xs_set (i := 8) (r := .d (ldD (runs (s ++ [b'])))) ((xe_catT (ds := l'.map rgD) ((xe_slT (ds := l'.map rgD ++ [rgD (b', k)]) ((xv 3).is (by rw [hR]; show Rep.d (.tup (List.map rgD _)) = _; rw [List.map_append]; rfl)) xo_none (xo_some (xe_neg xe_int))).is (by rw [cutD_m1])) (xe_tup (ds := [rgD (b', k + 1)]) (xa_cons (xe_tup (ds := [.str (wd b'), .int (k + 1)]) (xa_cons (xv 6) (xa_cons (xe_add (xe_ixT (ds := [.str (wd b'), .int k]) (xe_ixT (ds := l'.map rgD ++ [rgD (b', k)]) ((xv 3).is (by rw [hR]; show Rep.d (.tup (List.map rgD _)) = _; rw [List.map_append]; rfl)) (xe_neg xe_int) (atI_last _ _)) xe_int rfl) xe_int) xa_nil))) xa_nil)) (by rw [List.length_map]; show _ + 1 ≤ _; omega)).is (by rw [h4]; show _ = Rep.d (.tup (List.map rgD _)); rw [List.map_append]; rfl)) (xs_nil rfl)
          · refine xs_nil ?_
            have h4 : runs (s ++ [b]) = runs s ++ [(b, 1)] := by
              rcases hR with hR | ⟨l', ⟨b', k⟩, hR⟩
              · rw [runs_snoc, hR]; rfl
              · rw [List.concat_eq_append] at hR
                have eb : b' ≠ b := fun e => by
                  rw [hR] at y
                  unfold lastIs at y
                  rw [List.getLast?_concat] at y
                  exact of_decide_eq_false y e
                rw [runs_snoc, hR, note_other _ _ _ _ _ eb]
            show _ = _
            rw [h4]
            rfl
          · rintro ρ' rfl
            refine xs_append (i := 1) (ds := (fs' ++ ([true, false].take i).flatMap (chE mo s)).map itD) (d := itD (s ++ [b])) rfl
              (xe_tup (ds := [ldD (runs (s ++ [b])), .int (cu (s ++ [b])), .int (cd (s ++ [b]))]) (xa_cons (xv 8) (xa_cons ((xe_add (xv 4) (xe_intB (xe_eq (xv 6) xe_str (.str _ _)) B.int)).is (by rw [c1]; simp)) (xa_cons ((xe_add (xv 5) (xe_intB (xe_eq (xv 6) xe_str (.str _ _)) B.int)).is (by rw [c2]; simp)) xa_nil)))) (by rw [List.length_map, List.length_append]; simp at hroom; omega) (xs_nil (xs_nil ⟨some (.d (.str (wd b))), some (.d (.int (ct b s))), some (.d (ldD (runs (s ++ [b])))), ?_⟩))
            have e1 : (fs' ++ ([true, false].take (i + 1)).flatMap (chE mo s)).map itD = (fs' ++ ([true, false].take i).flatMap (chE mo s)).map itD ++ [itD (s ++ [b])] := by
              rw [tk1, List.flatMap_append, List.flatMap_cons, List.flatMap_nil, List.append_nil, ce, ← List.append_assoc, List.map_append]
              rfl
            rw [e1]
            rfl
        · have zc : ¬ ct b s < mo := by have := of_decide_eq_false z; omega
          have ce : chE mo s b = [] := if_neg zc
          refine xs_nil (xs_nil ⟨some (.d (.str (wd b))), some (.d (.int (ct b s))), y8, ?_⟩)
          rw [tk1, List.flatMap_append, List.flatMap_cons, List.flatMap_nil, List.append_nil, ce, List.append_nil]
          rfl
      · rintro ds ρ1 rfl ⟨y6, y7, y8, rfl⟩
        exact xs_nil ⟨m', hm', fs' ++ [true, false].flatMap (chE mo s), dn ++ [s], _, _, _, _, _, _, rfl, o'⟩
    · have h0 : fs = [] := List.eq_nil_of_length_eq_zero (by have := of_decide_eq_false z; omega)
      subst h0
      have hne : ∃ r, dn = [] :: r := by
        rcases o.hd with ⟨h, _⟩ | h
        · cases h
        · exact h
      have S0 : Srt0 (dn.map fun s => ldD (runs s)) := by
        refine ⟨?_, ?_, ?_, ?_, ?_, by rw [List.length_map]; omega⟩
        · clear hne o hroom
          induction dn with
          | nil => rw [List.map_nil, plainA]
          | cons x dn ih => rw [List.map_cons, plainA, ih, plain_ld]; rfl
        · intro d hd e he
          obtain ⟨a, _, rfl⟩ := List.mem_map.mp hd
          obtain ⟨b, _, rfl⟩ := List.mem_map.mp he
          exact alike_ld _ _
        · intro d hd
          obtain ⟨a, _, rfl⟩ := List.mem_map.mp hd
          exact ⟨_, rfl⟩
        · obtain ⟨r, rfl⟩ := hne
          exact ⟨_, rfl⟩
        · intro d hd
          obtain ⟨a, _, rfl⟩ := List.mem_map.mp hd
          have := depth_ld (runs a)
          omega
      refine xs_ret (XP.fz 2 rfl (EvP.imp (xp_sorted0 (xv 2) S0 (room_u65 hr) B.sorted) fun r h => ?_))
      obtain ⟨es, h1, h2, rfl⟩ := h
      obtain ⟨dn', p1, rfl⟩ := perm_map h1.symm rfl
      refine ⟨_, ⟨dn'.map runs, ⟨?_, ?_, ?_, ?_⟩, by rw [List.map_map]; rfl⟩, rfl⟩
      · intro l hl
        obtain ⟨s, hs, rfl⟩ := List.mem_map.mp hl
        exact ⟨s, o.val s (.inr (p1.mem_iff.mp hs)), rfl⟩
      · intro s hs
        exact List.mem_map.mpr ⟨s, p1.mem_iff.mpr (o.all s hs), rfl⟩
      · rw [List.pairwise_map] at h2 ⊢
        exact h2
      · rw [List.length_map, p1.length_eq]
        omega
end
end Pg
-- Pg10
namespace Pg
open PySem L2 Dl Mx Hr
/-- o is the first best of these ladders -/
def BestL (f : Bool) (es : List Int) (f' : Bool) (es' : List Int) (ls : List Ld) : Bst → Prop
  | none => ∀ l ∈ ls, unlikeL f (core f es l) f' es' = none
  | some (m, l, h) => l ∈ ls ∧ h = core f es l ∧ unlikeL f h f' es' = some m ∧ ∀ l' ∈ ls, ∀ m', unlikeL f (core f es l') f' es' = some m' → ltML (m', l') (m, l) = false
theorem BestL.skip {f f' : Bool} {es es' : List Int} {ls : List Ld} {o : Bst} {l : Ld} (h : BestL f es f' es' ls o) (hr : unlikeL f (core f es l) f' es' = none) : BestL f es f' es' (ls ++ [l]) o := by
  cases o with
  | none =>
    intro q hq
    rcases List.mem_append.mp hq with z | z
    · exact h q z
    · rw [List.mem_singleton.mp z]; exact hr
  | some b =>
    obtain ⟨m, l0, k⟩ := b
    refine ⟨List.mem_append_left _ h.1, h.2.1, h.2.2.1, fun q hq m' e => ?_⟩
    rcases List.mem_append.mp hq with z | z
    · exact h.2.2.2 q z m' e
    · rw [List.mem_singleton.mp z, hr] at e; cases e
theorem BestL.first {f f' : Bool} {es es' : List Int} {ls : List Ld} {l : Ld} {m : Int} (h : BestL f es f' es' ls none) (hr : unlikeL f (core f es l) f' es' = some m) : BestL f es f' es' (ls ++ [l]) (some (m, l, core f es l)) := by
  refine ⟨List.mem_append_right _ (List.mem_singleton.mpr rfl), rfl, hr, fun q hq m' e => ?_⟩
  rcases List.mem_append.mp hq with z | z
  · rw [h q z] at e; cases e
  · rw [List.mem_singleton.mp z, hr] at e
    cases e
    rw [List.mem_singleton.mp z]
    exact ltML_irrefl _
theorem ltML_ge {m' m : Int} {l' l : Ld} (h : ltML (m', l') (m, l) = false) : m ≤ m' := by
  unfold ltML at h
  dsimp only at h
  split at h
  · omega
  · have := of_decide_eq_false h; omega
theorem BestL.more {f f' : Bool} {es es' : List Int} {ls : List Ld} {l l0 : Ld} {m m0 : Int} {k : List Int} (h : BestL f es f' es' ls (some (m0, l0, k))) (hr : unlikeL f (core f es l) f' es' = some m) (hl : m < m0) : BestL f es f' es' (ls ++ [l]) (some (m, l, core f es l)) := by
  refine ⟨List.mem_append_right _ (List.mem_singleton.mpr rfl), rfl, hr, fun q hq m' e => ?_⟩
  rcases List.mem_append.mp hq with z | z
  · have := ltML_ge (h.2.2.2 q z m' e)
    unfold ltML
    dsimp only
    rw [if_neg (by omega), decide_eq_false (by omega)]
  · rw [List.mem_singleton.mp z, hr] at e
    cases e
    rw [List.mem_singleton.mp z]
    exact ltML_irrefl _
theorem BestL.keep {f f' : Bool} {es es' : List Int} {ls : List Ld} {l l0 : Ld} {m m0 : Int} {k : List Int} (h : BestL f es f' es' ls (some (m0, l0, k))) (hr : unlikeL f (core f es l) f' es' = some m) (hl : ¬ m < m0) (hs : ∀ a ∈ ls, ltL l a = false) : BestL f es f' es' (ls ++ [l]) (some (m0, l0, k)) := by
  refine ⟨List.mem_append_left _ h.1, h.2.1, h.2.2.1, fun q hq m' e => ?_⟩
  rcases List.mem_append.mp hq with z | z
  · exact h.2.2.2 q z m' e
  · rw [List.mem_singleton.mp z, hr] at e
    cases e
    rw [List.mem_singleton.mp z]
    unfold ltML
    dsimp only
    split
    · exact hs l0 h.1
    · exact decide_eq_false (by omega)
theorem core_sub (f : Bool) (es : List Int) (l : Ld) : (core f es l).Sublist es := by
  unfold core
  have q : ∀ (l : Ld) (s : Int × Int × List Int), (l.foldl (coreStep f) s).2.2.Sublist s.2.2 := by
    intro l
    induction l with
    | nil => intro s; exact List.Sublist.refl _
    | cons r l ih =>
      intro s
      rw [List.foldl_cons]
      refine (ih _).trans ?_
      unfold coreStep
      split <;> exact remL_sub _ _ _ _
  exact q l _
section
variable {P : Program} {w : World} {K : PySem.W.Frag} {mg : Str → Option Value} {base : Heap} {L : Lay}
inductive gLawDue : Ct
  | mk (f : Bool) (es : List Int) (f' : Bool) (es' : List Int) (mo : Nat) (h : Asc es) (hl : es.length ≤ 30) (hl' : es'.length ≤ 30) (hm : mo ≤ 4) : gLawDue [.d (ln f es), .d (ln f' es'), .d (.int mo)] (fun z => ∃ ls o, LadS mo ls ∧ BestL f es f' es' ls o ∧ z = .d (cD f o))
abbrev s__law_due : Stmt := top 80
theorem ok__law_due {f : Addr} {fd : FuncData} (F : Fun K "_law_due" "_law_due" s__law_due f fd) (B : Bi mg) (c__law_ladders : Cal P w K mg base 1 "_law_ladders" ["_law_most"] (spG L gLawLadders)) (c__law_going : Cal P w K mg base 1 "_law_going" ["_law_line", "_law_runs"] (spG L gLawGoing)) (c__law_unlike : Cal P w K mg base 2 "_law_unlike" ["_law_one", "_law_other"] (spG L gLawUnlike)) : FnOk P w K mg base CX0 3 f fd ["_law_line", "_law_goal_here", "_law_most"] (spG L gLawDue) := by
  refine def_ok (N := ["_law_line", "_law_goal_here", "_law_most", "_law_best", "_law_runs", "_law_left", "_law_many"]) F ⟨rfl, rfl, rfl, by decide +kernel, rfl, by decide +kernel, by decide +kernel⟩ (by decide) (fun _ _ h => by cases h; rfl) fun cdv A outer s H E hr rs Pq h => ?_
  have nd : (["_law_line", "_law_goal_here", "_law_most", "_law_best", "_law_runs", "_law_left", "_law_many"] : List Str).Nodup := by decide +kernel
  cases h with
  | mk f es f' es' mo h hl hl' hm =>
    refine xs_set (i := 3) xe_non ?_
    refine xs_for (xi_new (xp_call c__law_ladders (hr.mono (by decide)) (xa_cons (xv 2) xa_nil) (.mk mo hm))) (pg_name (i := 4) nd rfl (Or.inl rfl)) (fun ds i ρ' => ∃ (ls : List Ld) (o : Bst) (x4 x5 x6 : Option Rep), LadS mo ls ∧ (ds = ls.map fun l => ldD l) ∧ BestL f es f' es' (ls.take i) o ∧ ρ' = [some (.d (ln f es)), some (.d (ln f' es')), some (.d (.int mo)), some (.d (cD f o)), x4, x5, x6]) ?_ ?_ ?_
    · rintro ds ⟨ls, hls, rfl⟩
      exact ⟨ls, none, none, none, none, hls, rfl, (fun r hr => by cases hr), rfl⟩
    · rintro ds i d ρ1 hds hd ⟨ls, o, x4, x5, x6, hls, rfl, hb, rfl⟩
      rw [List.getElem?_map] at hd
      cases hg : ls[i]? with
      | none => rw [hg] at hd; cases hd
      | some r =>
        rw [hg] at hd
        cases hd
        obtain ⟨s, hs, er⟩ := hls.val r (List.mem_of_getElem? hg)
        have hrl : r.length ≤ 90 := by
          have h1 := runs_len s
          have h2 := hs.len
          rw [er]; omega
        have hcl : (core f es r).length ≤ 30 := Nat.le_trans (core_len f es r) hl
        have tk1 := take_snoc hg
        have hbef : ∀ a ∈ ls.take i, ltL r a = false := fun a ha => by
          obtain ⟨n, hn, en⟩ := List.getElem_of_mem ha
          rw [List.length_take] at hn
          rw [List.getElem_take] at en
          obtain ⟨hi, e2⟩ := List.getElem?_eq_some_iff.mp hg
          have := List.pairwise_iff_getElem.mp hls.srt n i (by omega) hi (by omega)
          rw [en, e2] at this
          exact this
        refine ⟨_, evg_name, xs_set (i := 5) (xe_ixT (xe_call c__law_going (hr.mono (by decide)) (xa_cons (xv 0) (xa_cons (xv 4) xa_nil)) (gLawGoing.mk f es r h (by omega) hrl)) xe_int rfl) (xs_set (i := 6) (xe_call c__law_unlike (hr.mono (by decide)) (xa_cons (xv 5) (xa_cons (xv 1) xa_nil)) (gLawUnlike.mk f (core f es r) f' es' hcl hl')) ?_)⟩
        cases hq : unlikeL f (core f es r) f' es' with
        | none =>
          refine xs_if (t := false) (xt_w (xw_and (q := false) (xt_notN (dx := .non) (xv 6)) (fun z => by cases z))) (fun z => by cases z) (fun _ => xs_nil (xs_nil ⟨ls, o, _, _, _, hls, rfl, ?_, rfl⟩))
          rw [tk1]; exact hb.skip hq
        | some m =>
          cases o with
          | none =>
            refine xs_if (t := true) (xt_w (xw_and (q := true) (xt_notN (dx := .int m) (xv 6)) (fun _ => xw_and1 (xt_w (xw_or (q := true) (xt_isN (dx := .non) (xv 3)) (fun z => by cases z)))))) (fun _ => xs_set (i := 3) (xe_tup (ds := [.int m, shD r, ln f (core f es r)]) (xa_cons (xv 6) (xa_cons (xe_tup (ds := [.int 0, .int 0, ldD r]) (xa_cons xe_int (xa_cons xe_int (xa_cons (xv 4) xa_nil)))) (xa_cons (xv 5) xa_nil)))) (xs_nil (xs_nil ⟨ls, some (m, r, core f es r), _, _, _, hls, rfl, ?_, rfl⟩))) (fun z => by cases z)
            rw [tk1]
            exact BestL.first hb hq
          | some b =>
            obtain ⟨m0, l, k⟩ := b
            refine xs_if (t := decide (m < m0)) (xt_w (xw_and (q := decide (m < m0)) (xt_notN (dx := .int m) (xv 6)) (fun _ => xw_and1 (xt_w (xw_or (q := decide (m < m0)) (xt_isN (dx := .tup [.int m0, shD l, ln f k]) (xv 3)) (fun _ => xw_or1 (xt_lt (xv 6) (xe_ixT (xv 3) xe_int rfl)))))))) (fun z => ?_) (fun z => ?_)
            · refine xs_set (i := 3) (xe_tup (ds := [.int m, shD r, ln f (core f es r)]) (xa_cons (xv 6) (xa_cons (xe_tup (ds := [.int 0, .int 0, ldD r]) (xa_cons xe_int (xa_cons xe_int (xa_cons (xv 4) xa_nil)))) (xa_cons (xv 5) xa_nil)))) (xs_nil (xs_nil ⟨ls, some (m, r, core f es r), _, _, _, hls, rfl, ?_, rfl⟩))
              rw [tk1]
              exact BestL.more hb hq (of_decide_eq_true z)
            · refine xs_nil (xs_nil ⟨ls, some (m0, l, k), _, _, _, hls, rfl, ?_, rfl⟩)
              rw [tk1]
              exact BestL.keep hb hq (of_decide_eq_false z) hbef
    · rintro ds ρ1 hds ⟨ls, o, x4, x5, x6, hls, rfl, hb, rfl⟩
      rw [List.length_map, List.take_length] at hb
      exact xs_ret ((xv 3).p ⟨ls, o, hls, hb, rfl⟩)
end
end Pg
set_option maxHeartbeats 240000
-- Pl8
/-! Pl8: a ladder's runs do what its steps do; two counts of unlike ticks agree. -/
namespace Mx
theorem rem_other {s on : Bool} (h : s = !on) (m : Int) (x : Int) : ∀ r : List Int, rem s on m (x :: r) = x :: rem (!s) on m r
  | [] => by rw [rem, rem]
  | y :: r => by
    rw [rem, if_neg]
    rintro ⟨h1, _⟩
    rw [h] at h1
    cases on <;> cases h1
theorem rem_nil (s on : Bool) (m : Int) : rem s on m [] = [] := by rw [rem]
theorem rem_rem {on : Bool} {m n : Int} (hmn : m ≤ n) : ∀ (k : Nat) (s : Bool) (es : List Int), es.length ≤ k → rem s on n (rem s on m es) = rem s on n es := by
  intro k
  induction k with
  | zero =>
    intro s es h
    have e : es = [] := List.eq_nil_of_length_eq_zero (by omega)
    subst e
    rw [rem_nil, rem_nil]
  | succ k ih =>
    intro s es h
    match es with
    | [] => rw [rem_nil, rem_nil]
    | x :: r =>
      by_cases hs : s = on
      · match r with
        | [] => rw [rem]
        | y :: r =>
          have hr : r.length ≤ k := by simp at h; omega
          have e1 : ∀ q : Int, ∀ t : List Int, rem (!s) on q (y :: t) = y :: rem s on q t := fun q t => by
            rw [rem_other (by rw [hs]) q y t, Bool.not_not]
          by_cases c : y - x ≤ m
          · have a1 : rem s on m (x :: y :: r) = rem s on m r := by rw [rem, if_pos ⟨hs, c⟩]
            have a2 : rem s on n (x :: y :: r) = rem s on n r := by rw [rem, if_pos ⟨hs, by omega⟩]
            rw [a1, a2, ih s r hr]
          · have a1 : rem s on m (x :: y :: r) = x :: y :: rem s on m r := by rw [rem, if_neg (fun z => c z.2), e1]
            rw [a1]
            by_cases d : y - x ≤ n
            · have a3 : ∀ t, rem s on n (x :: y :: t) = rem s on n t := fun t => by rw [rem, if_pos ⟨hs, d⟩]
              rw [a3, a3, ih s r hr]
            · have a3 : ∀ t, rem s on n (x :: y :: t) = x :: y :: rem s on n t := fun t => by rw [rem, if_neg (fun z => d z.2), e1]
              rw [a3, a3, ih s r hr]
      · have hs' : s = !on := by revert hs; cases s <;> cases on <;> simp
        rw [rem_other hs', rem_other hs', rem_other hs', ih (!s) r (by simp at h; omega)]
theorem remL_remL {f on : Bool} {m n : Int} (hmn : m ≤ n) (es : List Int) : remL f on n (remL f on m es) = remL f on n es := rem_rem hmn _ _ _ (Nat.le_refl _)
theorem core_fold (f : Bool) (es : List Int) : ∀ s : List Bool, (runs s).foldl (coreStep f) (0, 0, es) = coreT f es s := by
  refine snoc_ind rfl fun s b ih => ?_
  rw [runs_snoc, coreT_snoc, ← ih]
  rcases List.eq_nil_or_concat (runs s) with h | ⟨l, ⟨b', k⟩, h⟩
  · rw [h]; rfl
  · rw [List.concat_eq_append] at h
    rw [h]
    by_cases e : b' = b
    · subst e
      rw [note_same, List.foldl_append, List.foldl_append]
      generalize l.foldl (coreStep f) (0, 0, es) = P
      obtain ⟨hi, de, cur⟩ := P
      show coreStep f (hi, de, cur) (b', k + 1) = coreStep f (coreStep f (hi, de, cur) (b', k)) (b', 1)
      unfold coreStep
      cases b'
      · simp only [if_false, Bool.false_eq_true]
        rw [remL_remL (by omega), Int.add_assoc]
      · simp only [if_true]
        rw [remL_remL (by omega), Int.add_assoc]
    · rw [note_other _ _ _ _ _ e, List.foldl_append (l := l ++ [(b', k)])]
      rfl
theorem core_runs (f : Bool) (es : List Int) (s : List Bool) : core f es (runs s) = coreS f es s := by
  unfold core coreS
  rw [core_fold]
/-! ### the two counts -/
def altS (l : List Int) : Int := (evnI (l.drop 1)).sum - (evnI l).sum
theorem evnI_snoc (u : Int) : ∀ l : List Int, evnI (l ++ [u]) = if l.length % 2 = 0 then evnI l ++ [u] else evnI l
  | [] => rfl
  | [x] => rfl
  | x :: y :: r => by
    rw [List.cons_append, List.cons_append, evnI, evnI_snoc u r, evnI]
    have e : (x :: y :: r).length % 2 = r.length % 2 := by rw [List.length_cons, List.length_cons]; omega
    rw [e]
    split <;> rfl
theorem altS_snoc (l : List Int) (u : Int) : altS (l ++ [u]) = if l.length % 2 = 0 then altS l - u else altS l + u := by
  unfold altS
  match l with
  | [] => simp [evnI]
  | x :: l =>
    rw [List.cons_append, List.drop_succ_cons, List.drop_zero, List.drop_succ_cons, List.drop_zero, ← List.cons_append, evnI_snoc, evnI_snoc]
    have e : (x :: l).length = l.length + 1 := rfl
    rw [e]
    by_cases h : l.length % 2 = 0
    · rw [if_pos h, if_neg (by omega), if_neg (by omega), List.sum_append]
      simp; omega
    · rw [if_neg h, if_pos (by omega), if_pos (by omega), List.sum_append]
      simp; omega
theorem stb_false (n : Nat) : stb false n = decide (n % 2 = 1) := by
  unfold stb
  have : decide ((n : Int) % 2 = 1) = decide (n % 2 = 1) := decide_eq_decide.mpr (by omega)
  rw [this]
  cases decide (n % 2 = 1) <;> rfl
theorem wSum_app (T : List Int) (p : Int → Bool) (u : Int) : ∀ n : Nat, n < T.length → wSum (T ++ [u]) p n = wSum T p n
  | 0, _ => rfl
  | n + 1, h => by
    rw [wSum, wSum, wSum_app T p u n (by omega)]
    have e : ∀ k, k < T.length → (T ++ [u]).getD k 0 = T.getD k 0 := fun k hk => by
      rw [List.getD_eq_getElem?_getD, List.getD_eq_getElem?_getD, List.getElem?_append_left hk]
    rw [e n (by omega), e (n + 1) h]
theorem ulk_inv (f : Bool) (es : List Int) (f' : Bool) (es' : List Int) : ∀ Q : List Int, 
    (Q.foldl (ulkStep f es f' es') ([], false)).2 = decide ((Q.foldl (ulkStep f es f' es') ([], false)).1.length % 2 = 1) ∧
    (Q = [] → (Q.foldl (ulkStep f es f' es') ([], false)) = ([], false)) ∧
    (∀ Q' t, Q = Q' ++ [t] → (Q.foldl (ulkStep f es f' es') ([], false)).2 = ulP f es f' es' t ∧ altS (Q.foldl (ulkStep f es f' es') ([], false)).1 = wSum Q (ulP f es f' es') (Q.length - 1) - (if ulP f es f' es' t = true then t else 0)) := by
  refine snoc_ind ⟨rfl, fun _ => rfl, fun Q' t e => by simp at e⟩ fun Q u ih => ?_
  obtain ⟨i1, i2, i3⟩ := ih
  rw [List.foldl_append]
  generalize hS : Q.foldl (ulkStep f es f' es') ([], false) = S at i1 i2 i3 ⊢
  obtain ⟨ed, st⟩ := S
  dsimp only at i1 i2 i3 ⊢
  have step : [u].foldl (ulkStep f es f' es') (ed, st) = if ulP f es f' es' u = st then (ed, st) else (ed ++ [u], ulP f es f' es' u) := rfl
  rw [step]
  -- what the old prefix says
  have old : ∃ c : Int, altS ed = wSum (Q ++ [u]) (ulP f es f' es') Q.length - (if st = true then u else 0) := by
    refine ⟨0, ?_⟩
    rcases List.eq_nil_or_concat Q with e | ⟨Q', t, e⟩
    · have := i2 e
      injection this with e1 e2
      subst e1 e2
      rw [e]
      rfl
    · rw [List.concat_eq_append] at e
      obtain ⟨j1, j2⟩ := i3 Q' t e
      have hl : Q.length = Q'.length + 1 := by rw [e, List.length_append]; rfl
      have g1 : (Q ++ [u]).getD Q'.length 0 = t := by
        rw [e, List.getD_eq_getElem?_getD, List.append_assoc, List.getElem?_append_right (Nat.le_refl _), Nat.sub_self]; rfl
      have g2 : (Q ++ [u]).getD (Q'.length + 1) 0 = u := by
        rw [← hl, List.getD_eq_getElem?_getD, List.getElem?_append_right (Nat.le_refl _), Nat.sub_self]; rfl
      have w1 : wSum (Q ++ [u]) (ulP f es f' es') Q.length = wSum Q (ulP f es f' es') (Q.length - 1) + (if ulP f es f' es' t = true then u - t else 0) := by
        rw [hl, wSum, g1, g2, Nat.add_sub_cancel, wSum_app _ _ _ _ (by omega)]
      rw [w1, j2, ← j1]
      cases st <;> simp <;> omega
  obtain ⟨_, old⟩ := old
  have hl2 : (Q ++ [u]).length - 1 = Q.length := by rw [List.length_append]; simp
  by_cases c : ulP f es f' es' u = st
  · rw [if_pos c]
    refine ⟨i1, fun e => by simp at e, fun Q' t e => ?_⟩
    obtain ⟨rfl, e2⟩ := List.append_inj' e rfl
    injection e2 with e2
    subst e2
    refine ⟨c.symm, ?_⟩
    rw [hl2, old, c]
  · rw [if_neg c]
    have cu : ulP f es f' es' u = !st := by revert c; cases ulP f es f' es' u <;> cases st <;> simp
    dsimp only
    refine ⟨?_, fun e => by simp at e, fun Q' t e => ?_⟩
    · rw [cu, i1, List.length_append, List.length_singleton]
      by_cases h : ed.length % 2 = 1
      · rw [decide_eq_true h, decide_eq_false (by omega)]; rfl
      · rw [decide_eq_false h, decide_eq_true (by omega)]; rfl
    · obtain ⟨rfl, e2⟩ := List.append_inj' e rfl
      injection e2 with e2
      subst e2
      refine ⟨rfl, ?_⟩
      rw [hl2, altS_snoc, old, cu]
      cases st
      · have h : ed.length % 2 = 0 := by have := of_decide_eq_false i1.symm; omega
        rw [if_pos h]
        simp
      · have h : ¬ ed.length % 2 = 0 := by have := of_decide_eq_true i1.symm; omega
        rw [if_neg h]
        simp
theorem many_eq (f : Bool) (es : List Int) (f' : Bool) (es' : List Int) : manyU f es f' es' = unlikeL f es f' es' := by
  unfold manyU onT unlikeL
  by_cases hf : f = f'
  · subst hf
    have e0 : (f != f) = false := by cases f <;> rfl
    unfold ulk
    rw [e0]
    obtain ⟨i1, i2, i3⟩ := ulk_inv f es f es' (uniT es es')
    rw [stb_false, if_neg (fun h : f ≠ f => h rfl)]
    generalize hS : (uniT es es').foldl (ulkStep f es f es') ([], false) = S at i1 i2 i3 ⊢
    rw [← i1]
    rcases List.eq_nil_or_concat (uniT es es') with e | ⟨Q', t, e⟩
    · have := i2 e
      rw [this, e]
      simp [evnI, wSum]
    · rw [List.concat_eq_append] at e
      obtain ⟨j1, j2⟩ := i3 Q' t e
      have g : (uniT es es').getD ((uniT es es').length - 1) 0 = t := by
        rw [e, List.length_append, List.length_singleton, Nat.add_sub_cancel, List.getD_eq_getElem?_getD, List.getElem?_append_right (Nat.le_refl _), Nat.sub_self]; rfl
      have hl : 0 < (uniT es es').length := by rw [e]; simp
      rw [g, ← j1]
      by_cases h : S.2 = true
      · rw [if_pos (.inr h), if_pos ⟨hl, h⟩]
      · rw [if_neg (by rintro (z | z); cases z; exact h z), if_neg (fun z => h z.2)]
        rw [if_neg (by rw [← j1]; exact h)] at j2
        congr 1
        show altS S.1 = _
        rw [j2]
        omega
  · rw [if_pos hf, if_pos (.inl (by revert hf; cases f <;> cases f' <;> simp))]
end Mx
-- Pl9
/-! Pl9: the best of closest and of the law. -/
namespace Pg
open PySem L2 Dl Mx Hr
theorem AllC.at {f : Bool} {es : List Int} {mo : Nat} {rs : List (Ld × List Int)} (h : AllC f es mo rs) {r : Ld × List Int} (hr : r ∈ rs) : ∃ s, Valid mo s ∧ r.1 = runs s ∧ r.2 = core f es r.1 := by
  obtain ⟨s, h1, rfl⟩ := h.1 r hr
  exact ⟨s, h1, rfl, (core_runs f es s).symm⟩
theorem AllC.mem {f : Bool} {es : List Int} {mo : Nat} {rs : List (Ld × List Int)} (h : AllC f es mo rs) {s : List Bool} (hs : Valid mo s) : (runs s, core f es (runs s)) ∈ rs := by
  rw [core_runs]
  exact h.2.1 s hs
theorem best_same {f f' : Bool} {es es' : List Int} {mo : Nat} {rs : List (Ld × List Int)} {ls : List Ld} {o o' : Bst} (hr : AllC f es mo rs) (hl : LadS mo ls) (h : BestOf f f' es' rs o) (h' : BestL f es f' es' ls o') : o = o' := by
  have toR : ∀ l ∈ ls, (l, core f es l) ∈ rs := fun l hl' => by
    obtain ⟨s, hs, rfl⟩ := hl.val l hl'
    exact hr.mem hs
  have toL : ∀ r ∈ rs, r.1 ∈ ls ∧ r.2 = core f es r.1 := fun r hr' => by
    obtain ⟨s, hs, e1, e2⟩ := hr.at hr'
    refine ⟨?_, e2⟩
    rw [e1]; exact hl.all s hs
  cases o with
  | none =>
    cases o' with
    | none => rfl
    | some b =>
      obtain ⟨m, l, k⟩ := b
      have := h _ (toR l h'.1)
      rw [many_eq] at this
      have q := h'.2.2.1
      rw [h'.2.1, this] at q
      cases q
  | some b =>
    obtain ⟨m, l, k⟩ := b
    have hk : l ∈ ls ∧ k = core f es l := toL _ h.1
    cases o' with
    | none =>
      have := h' l hk.1
      have q := h.2.1
      rw [many_eq, hk.2, this] at q
      cases q
    | some b' =>
      obtain ⟨m', l', k'⟩ := b'
      have q1 := h.2.2 _ (toR l' h'.1) m' (by rw [many_eq, ← h'.2.1]; exact h'.2.2.1)
      have q2 := h'.2.2.2 l hk.1 m (by have q := h.2.1; rw [many_eq, hk.2] at q; exact q)
      have e := ltML_total q2 q1
      injection e with e1 e2
      subst e1 e2
      rw [hk.2, h'.2.1]
theorem wSum_nn {T : List Int} (h : Asc T) (p : Int → Bool) : ∀ n : Nat, n < T.length → 0 ≤ wSum T p n
  | 0, _ => by rw [wSum]; exact Int.le_refl _
  | n + 1, hn => by
    rw [wSum]
    have := wSum_nn h p n (by omega)
    have g := List.pairwise_iff_getElem.mp h n (n + 1) (by omega) hn (by omega)
    rw [getD_get hn, getD_get (show n < T.length by omega)]
    split <;> omega
theorem many_nn {f f' : Bool} {es es' : List Int} {m : Int} (h : manyU f es f' es' = some m) : 0 ≤ m := by
  rw [many_eq] at h
  unfold unlikeL at h
  split at h
  · cases h
  · split at h
    · cases h
    · injection h with h
      rw [← h]
      rcases Nat.eq_zero_or_pos (uniT es es').length with e | e
      · rw [e]; rw [wSum]; exact Int.le_refl _
      · exact wSum_nn (uniT_asc es es') _ _ (by omega)
theorem many_self (f : Bool) (es : List Int) : manyU f es f es = some 0 := by
  rw [many_eq]
  have p0 : ∀ t, ulP f es f es t = false := fun t => by unfold ulP; cases stb f (cnt es t) <;> rfl
  have w0 : ∀ n, wSum (uniT es es) (ulP f es f es) n = 0 := by
    intro n
    induction n with
    | zero => rfl
    | succ n ih => rw [wSum, ih, p0]; rfl
  unfold unlikeL
  rw [if_neg (fun h : f ≠ f => h rfl), if_neg (fun h => by rw [p0] at h; cases h.2), w0]
theorem valid_nil (mo : Nat) : Valid mo [] := ⟨Nat.zero_le _, Nat.zero_le _⟩
theorem ltL_nil (r : Bool × Int) (l : Ld) : ltL [] (r :: l) = true := by
  unfold ltL ltD
  rw [pd_ld, pd_ld, PySem.W.dataLt_tuple, List.map_nil, List.map_cons]
  simp only [PySem.W.keyToksAll]
  rw [PyProof.Rows.lex_diff (O := PyProof.Rows.itemOrd) (by simp)]
  simp [PyProof.Rows.itemLt]
/-- a line to itself -/
theorem best_self {f : Bool} {es : List Int} {mo : Nat} {rs : List (Ld × List Int)} {o : Bst} (hr : AllC f es mo rs) (h : BestOf f f es rs o) : o = some (0, [], es) := by
  have h0 : (([], es) : Ld × List Int) ∈ rs := hr.mem (valid_nil mo)
  cases o with
  | none => have := h _ h0; rw [many_self] at this; cases this
  | some b =>
    obtain ⟨m, l, k⟩ := b
    have q := h.2.2 _ h0 0 (many_self f es)
    have m0 : m = 0 := by have := ltML_ge q; have := many_nn h.2.1; omega
    subst m0
    have l0 : l = [] := by
      cases l with
      | nil => rfl
      | cons r l =>
        unfold ltML at q
        rw [if_pos rfl] at q
        rw [ltL_nil] at q
        cases q
    subst l0
    obtain ⟨s, _, _, e⟩ := hr.at h.1
    have e : k = es := e
    rw [e]
/-- lines that begin unlike -/
theorem best_opp {f f' : Bool} {es' : List Int} {rs : List (Ld × List Int)} {o : Bst} (hf : f ≠ f') (h : BestOf f f' es' rs o) : o = none := by
  cases o with
  | none => rfl
  | some b =>
    obtain ⟨m, l, k⟩ := b
    have := h.2.1
    rw [many_eq] at this
    unfold unlikeL at this
    rw [if_pos hf] at this
    cases this
/-- one more of each kind -/
theorem best_more {f f' : Bool} {es es' : List Int} {mo : Nat} {rs rs2 : List (Ld × List Int)} {m : Int} {l : Ld} {k : List Int} {o : Bst} (hr : AllC f es mo rs) (hr2 : AllC f es (mo + 1) rs2) (h : BestOf f f' es' rs (some (m, l, k))) (h2 : BestOf f f' es' rs2 o) : ∃ m2 l2 k2, o = some (m2, l2, k2) ∧ m2 ≤ m := by
  obtain ⟨s, hs, e1, e2⟩ := hr.at h.1
  have hs2 : Valid (mo + 1) s := ⟨Nat.le_succ_of_le hs.1, Nat.le_succ_of_le hs.2⟩
  have hm : (l, k) ∈ rs2 := by
    have q := hr2.mem hs2
    have e1 : l = runs s := e1
    have e2 : k = core f es l := e2
    rw [e2, e1]; exact q
  cases o with
  | none => have := h2 _ hm; have q := h.2.1; rw [this] at q; cases q
  | some b =>
    obtain ⟨m2, l2, k2⟩ := b
    exact ⟨m2, l2, k2, rfl, ltML_ge (h2.2.2 _ hm m h.2.1)⟩
/-! ### later by k -/
theorem rem_shift (on : Bool) (m k : Int) : ∀ (n : Nat) (s : Bool) (es : List Int), es.length ≤ n → rem s on m (es.map fun e => e + k) = (rem s on m es).map fun e => e + k := by
  intro n
  induction n with
  | zero =>
    intro s es h
    have e : es = [] := List.eq_nil_of_length_eq_zero (by omega)
    subst e
    rw [List.map_nil, rem_nil]; rfl
  | succ n ih =>
    intro s es h
    match es with
    | [] => rw [List.map_nil, rem_nil]; rfl
    | [x] => rw [List.map_cons, List.map_nil, rem, rem]; rfl
    | x :: y :: r =>
      rw [List.map_cons, List.map_cons, rem, rem]
      have e : (y + k) - (x + k) = y - x := by omega
      rw [e]
      split
      · exact ih s r (by simp at h; omega)
      · rw [List.map_cons, ← ih (!s) (y :: r) (by simp at h ⊢; omega), List.map_cons]
theorem remL_shift (f on : Bool) (m k : Int) (es : List Int) : remL f on m (es.map fun e => e + k) = (remL f on m es).map fun e => e + k := rem_shift on m k es.length _ es (Nat.le_refl _)
theorem core_shift (f : Bool) (es : List Int) (k : Int) (l : Ld) : core f (es.map fun e => e + k) l = (core f es l).map fun e => e + k := by
  unfold core
  have q : ∀ (l : Ld) (s : Int × Int × List Int), l.foldl (coreStep f) (s.1, s.2.1, s.2.2.map fun e => e + k) = ((l.foldl (coreStep f) s).1, (l.foldl (coreStep f) s).2.1, (l.foldl (coreStep f) s).2.2.map fun e => e + k) := by
    intro l
    induction l with
    | nil => intro s; rfl
    | cons r l ih =>
      intro s
      rw [List.foldl_cons, List.foldl_cons, ← ih]
      congr 1
      unfold coreStep
      dsimp only
      split
      · rw [remL_shift]
      · rw [remL_shift]
  rw [q l (0, 0, es)]
theorem cnt_shift (es : List Int) (t k : Int) : cnt (es.map fun e => e + k) (t + k) = cnt es t := by
  unfold cnt
  rw [List.filter_map, List.length_map]
  congr 1
  apply List.filter_congr
  intro e _
  exact decide_eq_decide.mpr (by show e + k ≤ t + k ↔ _; omega)
theorem asc_shift {es : List Int} (h : Asc es) (k : Int) : Asc (es.map fun e => e + k) := by
  unfold Asc at *
  rw [List.pairwise_map]
  exact h.imp fun h => by omega
theorem uniT_shift (es es' : List Int) (k : Int) : uniT (es.map fun e => e + k) (es'.map fun e => e + k) = (uniT es es').map fun e => e + k := by
  refine asc_ext (uniT_asc _ _) (asc_shift (uniT_asc _ _) k) fun x => ?_
  rw [uniT_mem, List.mem_map, List.mem_map, List.mem_map]
  constructor
  · rintro (⟨a, h, rfl⟩ | ⟨a, h, rfl⟩)
    · exact ⟨a, (uniT_mem _ _ _).mpr (.inl h), rfl⟩
    · exact ⟨a, (uniT_mem _ _ _).mpr (.inr h), rfl⟩
  · rintro ⟨a, h, rfl⟩
    rcases (uniT_mem _ _ _).mp h with h | h
    · exact .inl ⟨a, h, rfl⟩
    · exact .inr ⟨a, h, rfl⟩
theorem getD_shift {T : List Int} {k : Int} {n : Nat} (h : n < T.length) : (T.map fun e => e + k).getD n 0 = T.getD n 0 + k := by
  rw [getD_get (by rw [List.length_map]; exact h), getD_get h, List.getElem_map]
theorem wSum_shift (T : List Int) (k : Int) (p q : Int → Bool) (h : ∀ t, p (t + k) = q t) : ∀ n : Nat, n < T.length → wSum (T.map fun e => e + k) p n = wSum T q n
  | 0, _ => rfl
  | n + 1, hn => by
    rw [wSum, wSum, wSum_shift T k p q h n (by omega), getD_shift hn, getD_shift (show n < T.length by omega), h]
    have e : T.getD (n + 1) 0 + k - (T.getD n 0 + k) = T.getD (n + 1) 0 - T.getD n 0 := by omega
    rw [e]
theorem many_shift (f : Bool) (es : List Int) (f' : Bool) (es' : List Int) (k : Int) : manyU f (es.map fun e => e + k) f' (es'.map fun e => e + k) = manyU f es f' es' := by
  rw [many_eq, many_eq]
  unfold unlikeL
  have hp : ∀ t, ulP f (es.map fun e => e + k) f' (es'.map fun e => e + k) (t + k) = ulP f es f' es' t := fun t => by unfold ulP; rw [cnt_shift, cnt_shift]
  rw [uniT_shift, List.length_map]
  by_cases hf : f = f'
  · rw [if_neg (fun h : f ≠ f' => h hf), if_neg (fun h : f ≠ f' => h hf)]
    rcases Nat.eq_zero_or_pos (uniT es es').length with e | e
    · rw [if_neg (by omega), if_neg (by omega), e]
      rfl
    · rw [getD_shift (by omega), hp, wSum_shift _ k _ _ hp _ (by omega)]
  · rw [if_pos hf, if_pos hf]
/-- what is told of a best: count and ladder -/
def Bst.key : Bst → Option (Int × Ld)
  | none => none
  | some (m, l, _) => some (m, l)
theorem best_later {f f' : Bool} {es es' : List Int} {k : Int} {mo : Nat} {rs rs2 : List (Ld × List Int)} {o o2 : Bst} (hr : AllC f es mo rs) (hr2 : AllC f (es.map fun e => e + k) mo rs2) (h : BestOf f f' es' rs o) (h2 : BestOf f f' (es'.map fun e => e + k) rs2 o2) : o2.key = o.key := by
  have fw : ∀ r ∈ rs, (r.1, core f (es.map fun e => e + k) r.1) ∈ rs2 ∧ manyU f (core f (es.map fun e => e + k) r.1) f' (es'.map fun e => e + k) = manyU f r.2 f' es' := fun r hm => by
    obtain ⟨s, hs, e1, e2⟩ := hr.at hm
    refine ⟨by rw [e1]; exact hr2.mem hs, ?_⟩
    rw [core_shift, many_shift, ← e2]
  have bw : ∀ r ∈ rs2, (r.1, core f es r.1) ∈ rs ∧ manyU f (core f es r.1) f' es' = manyU f r.2 f' (es'.map fun e => e + k) := fun r hm => by
    obtain ⟨s, hs, e1, e2⟩ := hr2.at hm
    refine ⟨by rw [e1]; exact hr.mem hs, ?_⟩
    rw [e2, core_shift, many_shift]
  cases o with
  | none =>
    cases o2 with
    | none => rfl
    | some b =>
      obtain ⟨m, l, q⟩ := b
      obtain ⟨b1, b2⟩ := bw _ h2.1
      have := h _ b1
      rw [this, h2.2.1] at b2
      cases b2
  | some b =>
    obtain ⟨m, l, q⟩ := b
    obtain ⟨a1, a2⟩ := fw _ h.1
    cases o2 with
    | none =>
      have := h2 _ a1
      rw [this, h.2.1] at a2
      cases a2
    | some b' =>
      obtain ⟨m', l', q'⟩ := b'
      obtain ⟨b1, b2⟩ := bw _ h2.1
      have q1 := h.2.2 _ b1 m' (by rw [b2]; exact h2.2.1)
      have q2 := h2.2.2 _ a1 m (by rw [a2]; exact h.2.1)
      have e := ltML_total q1 q2
      injection e with e1 e2
      subst e1 e2
      rfl
end Pg
-- Pl10
/-! Pl10: the normal rows of all ladders of at most four rungs each way. -/
namespace Mx
structure Cl where
  lead : Int
  high : Int
  deep : Int
  runs : Ld
  deriving DecidableEq
def Cl.goTo (c : Cl) (n : Int) : Cl :=
  if c.high < n then ⟨n, n, c.deep, noteLd c.runs true (n - c.high)⟩ else if n < -c.deep then ⟨n, c.high, -n, noteLd c.runs false (-n - c.deep)⟩ else ⟨n, c.high, c.deep, c.runs⟩
def clStep (c : Cl) (g : Gate) : Cl := c.goTo (c.lead + g.b - g.a)
def climb (gs : List Gate) : Cl := gs.foldl clStep ⟨0, 0, 0, []⟩
def okAdj : Ld → Bool
  | x :: y :: r => (x.1 != y.1) && okAdj (y :: r)
  | _ => true
def okB (l : Ld) : Bool := l.all (fun r => decide (1 ≤ r.2)) && okAdj l
theorem okAdj_get : ∀ (l : Ld), okAdj l = true → ∀ (i : Nat) (x y : Bool × Int), l[i]? = some x → l[i + 1]? = some y → x.1 ≠ y.1
  | [], _, i, x, y, h1, h2 => by simp at h1
  | [a], _, i, x, y, h1, h2 => by simp at h2
  | a :: b :: r, h, 0, x, y, h1, h2 => by
    rw [okAdj, Bool.and_eq_true] at h
    simp at h1 h2
    subst h1 h2
    simpa using h.1
  | a :: b :: r, h, i + 1, x, y, h1, h2 => by
    rw [okAdj, Bool.and_eq_true] at h
    exact okAdj_get (b :: r) h.2 i x y (by simpa using h1) (by simpa using h2)
theorem okB_ok {l : Ld} (h : okB l = true) : OkLd l := by
  unfold okB at h
  rw [Bool.and_eq_true] at h
  exact ⟨fun r hr => of_decide_eq_true (List.all_eq_true.mp h.1 r hr), okAdj_get l h.2⟩
def gOk : Gate → Bool
  | .on n => decide (0 ≤ n)
  | .off n => decide (0 ≤ n)
  | .moved _ => true
theorem gOk_ok {g : Gate} (h : gOk g = true) : g.ok := by
  cases g with
  | on n => have h : decide (0 ≤ n) = true := h; show 0 ≤ n; exact of_decide_eq_true h
  | off n => have h : decide (0 ≤ n) = true := h; show 0 ≤ n; exact of_decide_eq_true h
  | moved n => trivial
def chkL (l : Ld) : Bool := okB l && decide (0 ≤ ups l) && decide (0 ≤ downs l) && (nrm l).all gOk && decide ((nrm l).length ≤ 100) && decide (sumA (nrm l) = 0) && decide (sumB (nrm l) = 0) && decide ((climb (nrm l)).runs = l)
def allB : Nat → List (List Bool)
  | 0 => [[]]
  | n + 1 => [] :: ((allB n).map (true :: ·) ++ (allB n).map (false :: ·))
theorem allB_mem : ∀ (n : Nat) (s : List Bool), s.length ≤ n → s ∈ allB n
  | 0, s, h => by
    have e : s = [] := List.eq_nil_of_length_eq_zero (by omega)
    rw [e]; exact List.mem_singleton.mpr rfl
  | n + 1, [], _ => List.mem_cons_self
  | n + 1, b :: s, h => by
    have := allB_mem n s (by simpa using h)
    refine List.mem_cons_of_mem _ ?_
    cases b
    · exact List.mem_append_right _ (List.mem_map.mpr ⟨s, this, rfl⟩)
    · exact List.mem_append_left _ (List.mem_map.mpr ⟨s, this, rfl⟩)
theorem all_chk : ((allB 8).all fun s => !(decide (cu s ≤ 4) && decide (cd s ≤ 4)) || chkL (runs s)) = true := by decide +kernel
theorem chk_of {s : List Bool} (h : Valid 4 s) : chkL (runs s) = true := by
  have hl := h.len
  have q := List.all_eq_true.mp all_chk s (allB_mem 8 s (by omega))
  rw [decide_eq_true h.1, decide_eq_true h.2] at q
  simpa using q
/-- what is used of a ladder -/
structure LdOk (l : Ld) : Prop where
  ok : OkLd l
  up : 0 ≤ ups l
  dn : 0 ≤ downs l
  gates : ∀ g ∈ nrm l, g.ok
  len : (nrm l).length ≤ 100
  a0 : sumA (nrm l) = 0
  b0 : sumB (nrm l) = 0
  cl : (climb (nrm l)).runs = l
theorem ldOk_of {s : List Bool} (h : Valid 4 s) : LdOk (runs s) := by
  have q := chk_of h
  unfold chkL at q
  simp only [decide_eq_true_eq, Bool.and_eq_true] at q
  obtain ⟨⟨⟨⟨⟨⟨⟨q1, q2⟩, q3⟩, q4⟩, q5⟩, q6⟩, q7⟩, q8⟩ := q
  exact ⟨okB_ok q1, q2, q3, fun g hg => gOk_ok (List.all_eq_true.mp q4 g hg), q5, q6, q7, q8⟩
theorem Valid.up {m n : Nat} {s : List Bool} (h : Valid m s) (hmn : m ≤ n) : Valid n s := ⟨Nat.le_trans h.1 hmn, Nat.le_trans h.2 hmn⟩
end Mx
set_option maxHeartbeats 2400000
-- Pg12
namespace Pg
open PySem PySem.W L2 Dl Mx Hr
theorem ok_wd (b : Bool) : PyData.strOk (wd b) = true := by cases b <;> decide +kernel
theorem lay_rgs : ∀ l : Ld, PyData.canLayAll0 (l.map fun r => PyData.tuple [.str (wd r.1), .int r.2]) = true
  | [] => by rw [List.map_nil]; simp [PyData.canLayAll0]
  | r :: l => by rw [List.map_cons, PyData.canLayAll0, lay_rgs l]; simp [PyData.canLay0, PyData.canLayAll0, ok_wd]
/-- (many, (0, 0, ladder)) -/
abbrev msD (m : Int) (l : Ld) : D := .tup [.int m, shD l]
theorem pd_ms (m : Int) (l : Ld) : pdD (msD m l) = .tuple [.int m, .tuple [.int 0, .int 0, pdD (ldD l)]] := by simp only [pdD, pdA]
theorem plain_ms (m : Int) (l : Ld) : plainD (msD m l) = true := by simp [plainD, plainA, plain_rgs l]
theorem shaped_ms (m : Int) (l : Ld) : SeqAt.shaped (pdD (msD m l)) = true := by
  rw [pd_ms]
  show (PyData.canLay0 _ && decide (PyData.depth _ ≤ 64)) = true
  rw [Bool.and_eq_true]
  refine ⟨?_, decide_eq_true ?_⟩
  · rw [pd_ld]
    simp [PyData.canLay0, PyData.canLayAll0, lay_rgs l]
  · have := depth_ld l
    simp only [PyData.depthAll, PyData.depth]
    omega
theorem eqs_ms (m : Int) (l : Ld) : Eqs2 (msD m l) (msD m l) := ⟨plain_ms m l, plain_ms m l, shaped_ms m l, shaped_ms m l⟩
theorem eqv_ms (m : Int) (l : Ld) : PyData.eqv (pdD (msD m l)) (pdD (msD m l)) = true := by
  refine eqv_refl_alike _ ?_
  rw [pd_ms]
  simp only [alike, alikeAll, Bool.true_and, Bool.and_true]
  exact alike_ld l l
theorem pd_ln (f : Bool) (es : List Int) : pdD (ln f es) = .tuple [.bool f, .tuple (es.map .int)] := by
  rw [pdD, pdA, pdA, pdA, pd_lnE, pdD]
theorem plain_ln (f : Bool) (es : List Int) : plainD (ln f es) = true := by simp [plainD, plainA, plain_ints es]
theorem shaped_ln (f : Bool) (es : List Int) : SeqAt.shaped (pdD (ln f es)) = true := by
  rw [pd_ln]
  show (PyData.canLay0 _ && decide (PyData.depth _ ≤ 64)) = true
  rw [Bool.and_eq_true]
  refine ⟨?_, decide_eq_true ?_⟩
  · simp [PyData.canLay0, PyData.canLayAll0, lay_ints es]
  · have := depth_ints' es
    simp only [PyData.depthAll, PyData.depth]
    omega
theorem eqs_ln (f : Bool) (es : List Int) : Eqs2 (ln f es) (ln f es) := ⟨plain_ln f es, plain_ln f es, shaped_ln f es, shaped_ln f es⟩
theorem eqv_ln (f : Bool) (es : List Int) : PyData.eqv (pdD (ln f es)) (pdD (ln f es)) = true := by
  rw [pd_ln]
  simp only [PyData.eqvAll, PyData.eqv]
  rw [eqv_ints]
  cases f <;> rfl
section
variable {P : Program} {w : World} {K : PySem.W.Frag} {mg : Str → Option Value} {base : Heap} {L : Dl.Lay}
inductive gPassed : Ct
  | mk (f : Bool) (es : List Int) (l : Ld) (ha : Asc es) (hl : es.length ≤ 1000) (hll : l.length ≤ 90) (hk : LdOk l) : gPassed [.d (ln f es), .d (rowD (nrm l))] (fun z => z = .d (ln f (core f es l)))
inductive gLawIsRight : Ct
  | mk (f : Bool) (es : List Int) (f' : Bool) (es' : List Int) (mo : Nat) (h : Asc es) (h' : Asc es') (hl : es.length ≤ 30) (hl' : es'.length ≤ 30) (hm : mo ≤ 4) : gLawIsRight [.d (ln f es), .d (ln f' es'), .d (.int mo)] (fun z => z = .d (.bl true))
abbrev s__law_is_right : Stmt := top 82
theorem ok__law_is_right {f : Addr} {fd : FuncData} (F : Fun K "_law_is_right" "_law_is_right" s__law_is_right f fd) (B : Bi mg) (c__law_due : Cal P w K mg base 3 "_law_due" ["_law_line", "_law_goal_here", "_law_most"] (spG L gLawDue)) (c_closest : Cal P w K mg base 7 "closest" ["line", "goal", "most"] (spG L gClosest)) (c__law_same : Cal P w K mg base 2 "_law_same" ["_law_told", "_law_due_here"] (spG L gLawSame)) (c_unlike_ticks : Cal P w K mg base 7 "unlike_ticks" ["one", "other"] (spG L gUnlikeTicks)) (c_passed : Cal P w K mg base 10 "passed" ["line", "row"] (spG L gPassed)) (c_row_of : Cal P w K mg base 6 "row_of" ["told"] (spG L gRowOf)) : FnOk P w K mg base CX0 11 f fd ["_law_line", "_law_goal_here", "_law_most"] (spG L gLawIsRight) := by
  refine def_ok (N := ["_law_line", "_law_goal_here", "_law_most", "_law_due_here", "_law_told"]) F ⟨rfl, rfl, rfl, by decide +kernel, rfl, by decide +kernel, by decide +kernel⟩ (by decide) (fun _ _ h => by cases h; rfl) fun cdv A outer s H E hr rs Pq h => ?_
  have nd : (["_law_line", "_law_goal_here", "_law_most", "_law_due_here", "_law_told"] : List Str).Nodup := by decide +kernel
  cases h with
  | mk f es f' es' mo h h' hl hl' hm =>
    refine xs_setP (i := 3) (xp_call c__law_due (hr.mono (by decide)) (xa_cons (xv 0) (xa_cons (xv 1) (xa_cons (xv 2) xa_nil))) (.mk f es f' es' mo h hl hl' hm)) (fun r hr => by obtain ⟨_, _, _, _, rfl⟩ := hr; exact .inl rfl) ?_
    rintro r ⟨ls, o', hls, hb', rfl⟩
    refine xs_setP (i := 4) (xp_call c_closest (hr.mono (by decide)) (xa_cons (xv 0) (xa_cons (xv 1) (xa_cons (xv 2) xa_nil))) (.mk f es f' es' mo h h' hl hl' hm)) (fun r hr => by obtain ⟨_, _, _, _, rfl⟩ := hr; exact .inl rfl) ?_
    rintro r ⟨rs, o, hrs, hb, rfl⟩
    obtain rfl := best_same hrs hls hb hb'
    cases o with
    | none =>
      refine xs_if (t := true) (xt_w (xw_or (q := true) (xt_isN (dx := .non) (xv 3)) (fun z => by cases z))) (fun _ => xs_retE (xe_and (xe_isN (dx := .non) (xv 3)) (fun _ => xe_one (xe_isN (dx := .non) (xv 4)))) rfl) (fun z => by cases z)
    | some b =>
      obtain ⟨m, l, k⟩ := b
      obtain ⟨s, hs, e1, e2⟩ := hrs.at hb.1
      have e1 : l = runs s := e1
      have e2 : k = core f es l := e2
      have ok : LdOk l := by rw [e1]; exact ldOk_of (hs.up hm)
      have hll : l.length ≤ 90 := by
        have h1 := runs_len s
        have h2 := hs.len
        rw [e1]; omega
      have hkl : k.length ≤ 30 := by rw [e2]; exact Nat.le_trans (core_len f es l) hl
      have hka : Asc k := by rw [e2]; exact h.sub (core_sub f es l)
      have cd1 : cD f (some (m, l, k)) = .tup [.int m, shD l, ln f k] := rfl
      refine xs_if (t := false) (xt_w (xw_or (q := false) (xt_isN (dx := .tup [.int m, shD l, ln f k]) (xv 3)) (fun _ => xw_or1 (xt_isN (dx := .tup [.int m, shD l, ln f k]) (xv 4))))) (fun z => by cases z) (fun _ => xs_nil ?_)
      refine xs_if (t := false) (xt_w (xw_or (q := false) (xt_not (xt_val (xe_isi (d := .tup [.int m, shD l, ln f k]) (xv 4) rfl (T := "tuple") (by decide) B.isi B.tuple))) (fun _ => xw_or (q := false) (xt_ne (xe_lenT (ds := [.int m, shD l, ln f k]) (xv 4) B.len) xe_int (.int _ _)) (fun _ => xw_or (q := false) (xt_val (xe_isi (d := .int m) (xe_ixT (ds := [.int m, shD l, ln f k]) (xv 4) xe_int rfl) rfl (T := "bool") (by decide) B.isi B.bool)) (fun _ => xw_or1 (XT.is (xt_neD (x := msD m l) (y := msD m l) ((xe_slT (ds := [.int m, shD l, ln f k]) (xv 4) xo_none (xo_some xe_int)).is rfl) ((xe_slT (ds := [.int m, shD l, ln f k]) (xv 3) xo_none (xo_some xe_int)).is rfl) (eqs_ms m l) (room_u65 hr)) (by rw [eqv_ms]; rfl))))))) (fun z => by cases z) (fun _ => xs_nil ?_)
      refine xs_if (t := false) (xt_w (xw_or (q := false) (xt_not (xt_val (xe_call c__law_same (hr.mono (by decide)) (xa_cons (xe_ixT (ds := [.int m, shD l, ln f k]) (xv 4) xe_int rfl) (xa_cons (xe_ixT (ds := [.int m, shD l, ln f k]) (xv 3) xe_int rfl) xa_nil)) (gLawSame.mk f k hka (by omega))))) (fun _ => xw_or1 (XT.is (xt_ne (dx := .int m) (dy := .int m) ((xe_call c_unlike_ticks (hr.mono (by decide)) (xa_cons (xe_ixT (ds := [.int m, shD l, ln f k]) (xv 4) xe_int rfl) (xa_cons (xv 1) xa_nil)) (gUnlikeTicks.mk f k f' es' hka h' hkl hl')).is (by rw [hb.2.1]; rfl)) (xe_ixT (ds := [.int m, shD l, ln f k]) (xv 4) xe_int rfl) (.int _ _)) (by rw [decide_eq_true (rfl : m = m)]; rfl))))) (fun z => by cases z) (fun _ => xs_nil ?_)
      refine xs_retE (XE.is (xe_eqD (x := ln f k) (y := ln f k) ((xe_call c_passed (hr.mono (by decide)) (xa_cons (xv 0) (xa_cons (xe_call c_row_of (hr.mono (by decide)) (xa_cons (xe_ixT (ds := [.int m, shD l, ln f k]) (xv 4) xe_int rfl) xa_nil) (gRowOf.mk l ok.ok (by omega) ok.up ok.dn)) xa_nil)) (gPassed.mk f es l h (by omega) hll ok)).is (by rw [← e2])) (xe_ixT (ds := [.int m, shD l, ln f k]) (xv 4) xe_int rfl) (eqs_ln f k) (room_u65 hr)) (by rw [eqv_ln])) rfl
end
end Pg
-- Pg13
namespace Dl
open PySem L2 PyProof.Rows
section
variable {X : Cx} {L : Lay} {ρ : Rho} {a b : Expr} {pos : Pos} {Pa Pb : Int → Prop} {i j : Int} {ds : List D}
theorem XE.ofP {P : Rep → Prop} {r0 : Rep} (h : XP X L a ρ P) (hp : ∀ r, P r → r = r0) : XE X L a ρ r0 := EvP.imp h hp
theorem XP.imp {P P' : Rep → Prop} (h : XP X L a ρ P) (hp : ∀ r, P r → P' r) : XP X L a ρ P' := EvP.imp h hp
theorem xp_ixT0 {Q : List D → Prop} {P : D → Prop} (ha : XP X L a ρ (fun r => ∃ ds, Q ds ∧ r = .d (.tup ds))) (hb : XE X L b ρ (.d (.int i))) (h : ∀ ds, Q ds → ∃ d, atI ds i = some d ∧ P d) (hs : PlainIx b := by exact fun _ _ => rfl) : XP X L (.Subscript a b pos) ρ (fun r => ∃ d, P d ∧ r = .d d) :=
  xp_of (pe_ix ix_tup pe_sem pe_sem hs) (ev_op ha hb fun x y hx hy => by
    obtain ⟨ds, hd, rfl⟩ := hx
    subst hy
    obtain ⟨d, e, pd⟩ := h ds hd
    exact fun H Hb vx vy Q g rx ry k => od_ixT e H Hb vx vy Q g rx ry fun z v H' pz => k z v H' ⟨d, pd, pz⟩)
theorem xe_leT (ha : XP X L a ρ (IsI Pa)) (hb : XE X L b ρ (.d (.int j))) (h : ∀ i, Pa i → i ≤ j) : XE X L (.Compare a [.LtE] [b] pos) ρ (.d (.bl true)) :=
  xe_of (pe_cmpR op_le pe_sem pe_sem (nomark _)) (ev_op ha hb fun x y hx hy H Hb vx vy Q g rx ry k => by
    obtain ⟨i, hi, rfl⟩ := hx
    subst hy
    obtain rfl := rv_int rx
    obtain rfl := rv_int ry
    refine ⟨i, j, rfl, rfl, ?_⟩
    show Q (V.bl (decide (i ≤ j))) Hb
    rw [decide_eq_true (h i hi)]
    exact k _ _ Hb rfl (Step.refl _) g (Dv.bl true))
theorem xp_intB {p : Pos} (ha : XP X L a ρ (fun r => ∃ t, r = .d (.bl t))) (hm : X.mg "int" = none) (hg : Gl X "int" := by rfl) (hs : starEach [a] X.env = (false, eval a X.env) :: starEach [] X.env := by rfl) (hpl : (backTo pos (starEach [] X.env)).any (·.1) = false := by rfl) : XP X L (.Call (.Name "int" p) [a] [] pos) ρ (IsI fun k => k = 0 ∨ k = 1) :=
  xp_of (pe_callTy call_int1 hg hm (by decide +kernel) pa_sem (by decide) (by decide) hs hpl) (ev_cb (xap_cons ha xa_nil hs) fun rs hr H Hb vs Q g ee rv k => by
    obtain ⟨r, rs', rfl, ⟨t, rfl⟩, rfl⟩ := hr
    obtain ⟨v, rfl, q⟩ := rvs1 rv
    obtain rfl := rv_bl q
    exact .inr ⟨t, rfl, k _ _ Hb ⟨_, (by cases t; exact .inl rfl; exact .inr rfl), rfl⟩ (Step.refl _) g (Dv.int _)⟩)
theorem xp_addP (ha : XP X L a ρ (IsI Pa)) (hb : XP X L b ρ (IsI Pb)) : XP X L (.BinOp a .Add b pos) ρ (IsI fun k => ∃ i j, Pa i ∧ Pb j ∧ k = i + j) :=
  xp_of (pe_op op_add pe_sem pe_sem) (ev_op ha hb fun x y hx hy H Hb vx vy Q g rx ry k => by
    obtain ⟨i, hi, rfl⟩ := hx
    obtain ⟨j, hj, rfl⟩ := hy
    obtain rfl := rv_int rx
    obtain rfl := rv_int ry
    exact ⟨_, _, rfl, rfl, k _ _ Hb ⟨_, ⟨i, j, hi, hj, rfl⟩, rfl⟩ (Step.refl _) g (Dv.int _)⟩)
end
end Dl
namespace Pg
open PySem L2 Dl Mx Hr
theorem pd_c (m : Int) (l : Ld) (f : Bool) (es : List Int) : pdD (.tup [.int m, shD l, ln f es]) = .tuple [.int m, .tuple [.int 0, .int 0, pdD (ldD l)], pdD (ln f es)] := by simp only [pdD, pdA]
theorem eqs_c (m : Int) (l : Ld) (f : Bool) (es : List Int) : Eqs2 (.tup [.int m, shD l, ln f es]) (.tup [.int m, shD l, ln f es]) := by
  have pl : plainD (.tup [.int m, shD l, ln f es]) = true := by simp [plainD, plainA, plain_rgs l, plain_ints es]
  have sh : SeqAt.shaped (pdD (.tup [.int m, shD l, ln f es])) = true := by
    rw [pd_c]
    show (PyData.canLay0 _ && decide (PyData.depth _ ≤ 64)) = true
    rw [Bool.and_eq_true]
    refine ⟨?_, decide_eq_true ?_⟩
    · rw [pd_ld, pd_ln]
      simp [PyData.canLay0, PyData.canLayAll0, lay_rgs l, lay_ints es]
    · have h1 := depth_ld l
      have h2 := depth_ints' es
      rw [pd_ln]
      simp only [PyData.depthAll, PyData.depth]
      omega
  exact ⟨pl, pl, sh, sh⟩
theorem eqv_c (m : Int) (l : Ld) (f : Bool) (es : List Int) : PyData.eqv (pdD (.tup [.int m, shD l, ln f es])) (pdD (.tup [.int m, shD l, ln f es])) = true := by
  rw [pd_c]
  simp only [PyData.eqvAll, PyData.eqv]
  rw [eqv_ln]
  have h : PyData.eqv (pdD (ldD l)) (pdD (ldD l)) = true := PySem.W.eqv_refl_alike _ (alike_ld l l)
  rw [h]
  simp
section
variable {P : Program} {w : World} {K : PySem.W.Frag} {mg : Str → Option Value} {base : Heap} {L : Lay}
inductive gLawGoal : Ct
  | mk (f : Bool) (es : List Int) (h : Asc es) (hl : es.length ≤ 10) : gLawGoal [.tape, .d (ln f es)] (fun z => ∃ (f' : Bool) (es' : List Int), (Asc es' ∧ es'.length ≤ 30) ∧ z = .d (ln f' es'))
inductive gLawRest : Ct
  | mk : gLawRest [.any, .tape] (fun z => z = .d (.bl true))
abbrev s_law : Stmt := top 83
theorem rest_law {f : Addr} (B : Bi mg) (c__law_pick : Cal P w K mg base 1 "_law_pick" ["_law_tape_here", "_law_many"] (spG L gLawPick)) (c__law_small_line : Cal P w K mg base 3 "_law_small_line" ["_law_tape_here", "_law_most"] (spG L gLawSmallLine)) (c__law_goal : Cal P w K mg base 5 "_law_goal" ["_law_tape_here", "_law_line"] (spG L gLawGoal)) (c__law_is_right : Cal P w K mg base 11 "_law_is_right" ["_law_line", "_law_goal_here", "_law_most"] (spG L gLawIsRight)) (c_closest : Cal P w K mg base 7 "closest" ["line", "goal", "most"] (spG L gClosest)) (c_later : Cal P w K mg base 4 "later" ["line", "ticks"] (spG L gLater)) (cdv : Value) (A : Around) (outer : List PySem.Env) (s : Shared) (H : Hp) (E : XK) (hr : Room 11 (A.deeper (PyProof.Rows.envOfC "law" (defScope s_law) s.heap.objs.size f cdv))) : XSs (cxOf CX0 P w K mg base ["_law_script", "_law_tape_here", "_law_line", "_law_goal_here", "_law_most", "_law_told", "_law_far"] "law" (defScope s_law) f cdv A outer s H E).nox L ((defBody s_law).drop 1) (ini [.any, .tape] 7) { nx := fun _ => False, rt := fun z => z = .d (.bl true) } := by
  have nd : (["_law_script", "_law_tape_here", "_law_line", "_law_goal_here", "_law_most", "_law_told", "_law_far"] : List Str).Nodup := by decide +kernel
  refine xs_setP (i := 2) (xp_call c__law_small_line (hr.mono (by decide)) (xa_cons (xv 1) (xa_cons xe_int xa_nil)) (.mk 10 (by decide))) (fun r hr => by obtain ⟨_, _, _, rfl⟩ := hr; exact .inl rfl) ?_
  rintro r ⟨f, es, ⟨ha, hl⟩, rfl⟩
  refine xs_setP (i := 3) (xp_call c__law_goal (hr.mono (by decide)) (xa_cons (xv 1) (xa_cons (xv 2) xa_nil)) (.mk f es ha hl)) (fun r hr => by obtain ⟨_, _, _, rfl⟩ := hr; exact .inl rfl) ?_
  rintro r ⟨f', es', ⟨ha', hl'⟩, rfl⟩
  refine xs_setP (i := 4) (P := fun r => ∃ n : Nat, n ≤ 4 ∧ r = .d (.int n)) (EvP.imp (xp_addP (Pa := fun k => 0 ≤ k ∧ k ≤ 3) (EvP.imp (xp_ixL (P := fun d => ∃ k, (0 ≤ k ∧ k ≤ 3) ∧ d = .int k) (XE.rd (xe_lst (ds := [.int 0, .int 1, .int 2, .int 2, .int 3, .int 3]) (xa_cons xe_int (xa_cons xe_int (xa_cons xe_int (xa_cons xe_int (xa_cons xe_int (xa_cons xe_int xa_nil)))))))) (xp_call c__law_pick (hr.mono (by decide)) (xa_cons (xv 1) (xa_cons xe_int xa_nil)) (.mk 6 (by decide) (by decide))) (fun k hk => ?_)) fun r h => ?_) (xp_intB (xp_eqR (xp_call c__law_pick (hr.mono (by decide)) (xa_cons (xv 1) (xa_cons xe_int xa_nil)) (.mk 20 (by decide) (by decide))) xe_int) B.int)) fun r h => ?_) (fun r hr => by obtain ⟨_, _, rfl⟩ := hr; exact .inl rfl) ?_
  · obtain ⟨k0, k1⟩ := hk
    have : k = 0 ∨ k = 1 ∨ k = 2 ∨ k = 3 ∨ k = 4 ∨ k = 5 := by omega
    rcases this with rfl | rfl | rfl | rfl | rfl | rfl <;> exact ⟨_, rfl, _, ⟨by decide, by decide⟩, rfl⟩
  · obtain ⟨d, ⟨k, hk, rfl⟩, rfl⟩ := h
    exact ⟨k, hk, rfl⟩
  · obtain ⟨k, ⟨i, j, hi, hj, rfl⟩, rfl⟩ := h
    refine ⟨(i + j).toNat, by omega, ?_⟩
    congr 2
    omega
  rintro r ⟨mo, hm, rfl⟩
  refine xs_if (t := false) (xt_not (xt_val (xe_call c__law_is_right (hr.mono (by decide)) (xa_cons (xv 2) (xa_cons (xv 3) (xa_cons (xv 4) xa_nil))) (gLawIsRight.mk f es f' es' mo ha ha' (by omega) hl' hm)))) (fun z => by cases z) (fun _ => xs_nil ?_)
  refine xs_setP (i := 5) (xp_call c_closest (hr.mono (by decide)) (xa_cons (xv 2) (xa_cons (xv 3) (xa_cons (xv 4) xa_nil))) (.mk f es f' es' mo ha ha' (by omega) hl' hm)) (fun r hr => by obtain ⟨_, _, _, _, rfl⟩ := hr; exact .inl rfl) ?_
  rintro r ⟨rs, o, hrs, hb, rfl⟩
  generalize hK : (10 : Int) ^ (30 : Int).toNat = KK
  have x30 : ∀ {X : Cx} {L : Lay} {ρ : Rho} {p1 p2 p3 : Pos} {n1 n2}, XE X L (.BinOp (.Constant (.int 10) n1 p1) .Pow (.Constant (.int 30) n2 p2) p3) ρ (.d (.int KK)) := by
    intros
    rw [← hK]
    exact xe_pow xe_int xe_int ⟨by decide, by decide, by decide⟩
  refine xs_setP (i := 6) (xp_call c_closest (hr.mono (by decide)) (xa_cons (xe_call c_later (hr.mono (by decide)) (xa_cons (xv 2) (xa_cons x30 xa_nil)) (gLater.mk f es KK ha (by omega))) (xa_cons (xe_call c_later (hr.mono (by decide)) (xa_cons (xv 3) (xa_cons x30 xa_nil)) (gLater.mk f' es' KK ha' (by omega))) (xa_cons (xv 4) xa_nil))) (.mk f _ f' _ mo (asc_shift ha KK) (asc_shift ha' KK) (by rw [List.length_map]; omega) (by rw [List.length_map]; exact hl') hm)) (fun r hr => by obtain ⟨_, _, _, _, rfl⟩ := hr; exact .inl rfl) ?_
  rintro r ⟨rs2, o2, hrs2, hb2, rfl⟩
  have hkey := best_later hrs hrs2 hb hb2
  refine xs_if (t := false) ?_ (fun z => by cases z) (fun _ => xs_nil ?_)
  · cases o with
    | none =>
      cases o2 with
      | some b => obtain ⟨m2, l2, k2⟩ := b; cases hkey
      | none => exact xt_w (xw_or (q := false) (xt_ne (xe_isN (dx := .non) (xv 6)) (xe_isN (dx := .non) (xv 5)) (.bl _ _)) (fun _ => xw_or1 (xt_w (xw_and (q := false) (xt_notN (dx := .non) (xv 5)) (fun z => by cases z)))))
    | some b =>
      obtain ⟨m, l, k⟩ := b
      cases o2 with
      | none => cases hkey
      | some b2 =>
        obtain ⟨m2, l2, k2⟩ := b2
        injection hkey with hkey
        injection hkey with e1 e2
        subst e1 e2
        exact xt_w (xw_or (q := false) (xt_ne (xe_isN (dx := .tup [.int m2, shD l2, ln f k2]) (xv 6)) (xe_isN (dx := .tup [.int m2, shD l2, ln f k]) (xv 5)) (.bl _ _)) (fun _ => xw_or1 (xt_w (XW.is (xw_and (q := false) (xt_notN (dx := .tup [.int m2, shD l2, ln f k]) (xv 5)) (fun _ => xw_and1 (XT.is (xt_neD (x := msD m2 l2) (y := msD m2 l2) ((xe_slT (ds := [.int m2, shD l2, ln f k2]) (xv 6) xo_none (xo_some xe_int)).is rfl) ((xe_slT (ds := [.int m2, shD l2, ln f k]) (xv 5) xo_none (xo_some xe_int)).is rfl) (eqs_ms m2 l2) (room_u65 hr)) (by rw [eqv_ms]; rfl)))) rfl))))
  · refine xs_if (t := false) (xt_w (xw_or (p := false) (q := false) (XT.is (xt_neD (x := .tup [.int 0, shD [], ln f es]) (y := .tup [.int 0, shD [], ln f es]) (XE.ofP (xp_call c_closest (hr.mono (by decide)) (xa_cons (xv 2) (xa_cons (xv 2) (xa_cons (xv 4) xa_nil))) (.mk f es f es mo ha ha (by omega) (by omega) hm)) fun r h => ?_) (xe_tup (ds := [.int 0, shD [], ln f es]) (xa_cons xe_int (xa_cons (xe_tup (ds := [.int 0, .int 0, ldD []]) (xa_cons xe_int (xa_cons xe_int (xa_cons (xe_tup (ds := []) xa_nil) xa_nil)))) (xa_cons (xv 2) xa_nil)))) (eqs_c 0 [] f es) (room_u65 hr)) (by rw [eqv_c]; rfl)) (fun _ => xw_or1 (xt_notN (dx := .non) (XE.ofP (xp_call c_closest (hr.mono (by decide)) (xa_cons (xv 2) (xa_cons (xe_tup (ds := [.bl (!f), lnE es]) (xa_cons (xe_not (xe_ixT (xv 2) xe_int rfl)) (xa_cons (xe_ixT (xv 2) xe_int rfl) xa_nil))) (xa_cons (xv 4) xa_nil))) (.mk f es (!f) es mo ha ha (by omega) (by omega) hm)) fun r h => ?_))))) (fun z => by cases z) (fun _ => xs_nil ?_)
    · obtain ⟨rs3, o3, h1, h2, rfl⟩ := h
      rw [best_self h1 h2]
      rfl
    · obtain ⟨rs3, o3, h1, h2, rfl⟩ := h
      rw [best_opp (by cases f <;> simp) h2]
      rfl
    · cases o with
      | none => exact xs_if (t := true) (xt_w (xw_or (q := true) (xt_isN (dx := .non) (xv 5)) (fun z => by cases z))) (fun _ => xs_retE xe_bl rfl) (fun z => by cases z)
      | some b =>
        obtain ⟨m, l, k⟩ := b
        refine xs_if (t := decide (2 < (mo : Int))) (xt_w (xw_or (q := decide (2 < (mo : Int))) (xt_isN (dx := .tup [.int m, shD l, ln f k]) (xv 5)) (fun _ => xw_or1 (xt_gt (xv 4) xe_int)))) (fun _ => xs_retE xe_bl rfl) (fun z => xs_nil ?_)
        have hm2 : mo + 1 ≤ 4 := by have := of_decide_eq_false z; omega
        refine xs_retE (xe_leT (Pa := fun i => i ≤ m) (XP.imp (xp_ixT0 (Q := fun ds => ∃ m2 l2 k2, m2 ≤ m ∧ ds = [.int m2, shD l2, ln f k2]) (P := fun d => ∃ i, i ≤ m ∧ d = .int i) (XP.imp (xp_call c_closest (hr.mono (by decide)) (xa_cons (xv 2) (xa_cons (xv 3) (xa_cons ((xe_add (xv 4) xe_int).is (r' := .d (.int ((mo + 1 : Nat) : Int))) (by congr 2)) xa_nil))) (.mk f es f' es' (mo + 1) ha ha' (by omega) hl' hm2)) fun r h => ?_) xe_int ?_) fun r h => ?_) (xe_ixT (ds := [.int m, shD l, ln f k]) (xv 5) xe_int rfl) (fun i hi => hi)) rfl
        · obtain ⟨rs3, o3, h1, h2, rfl⟩ := h
          obtain ⟨m2, l2, k2, rfl, hle⟩ := best_more hrs h1 hb h2
          exact ⟨_, ⟨m2, l2, k2, hle, rfl⟩, rfl⟩
        · rintro ds ⟨m2, l2, k2, hle, rfl⟩
          exact ⟨_, rfl, m2, hle, rfl⟩
        · obtain ⟨d, ⟨i, hi, rfl⟩, rfl⟩ := h
          exact ⟨i, hi, rfl⟩
end
end Pg
-- Sl2
/-! Sl2: set(l), sorted of it, over data; a comprehension by a relation. -/
namespace Dl
open PySem PySem.Spec L2 PyProof.Rows Hr
/-- set(l) -/
def rSetL (w : World) : List V → Hp → VK → Prop := fun vs H Q => ∃ (a : Addr) (ns : List Int), vs = [.ref a] ∧ H a = some (.lst (ns.map V.int)) ∧ ns.length ≤ 1000 ∧
  ∀ p c, H p = none → c ≤ ns.length → Q (.ref p) (upd H p (SetO w p (fun j => decide (j ∈ ns)) c))
theorem cr_setL {X : Cx} (hc : X.calm = true) : CallR X (.type "set") (rSetL X.w) := by
  intro pins s σ H vs us Q I r ⟨a, ns, e, ha, hz, q⟩
  subst e
  obtain ⟨its, rv, hl, _⟩ := I.list (SqL.of ha)
  rw [Vals.ref1 r]
  refine call_set_ints (I.ok.hd hc) hl.isList (ints_of_vals rv) (by unfold scanBound; omega) fun g t c R hn st => ⟨.ref s.heap.objs.size, _, I.laid (t' := t) st (Nat.le_refl _) (setO_new R), rfl, q _ c (I.hok.fresh (Nat.le_refl _)) hn⟩
section
variable {X : Cx} {L : Lay} {ρ : Rho} {e : Expr} {p pos : Pos} {Pn : List Int → Prop}
def isSet (w : World) (ns : List Int) : Rep → Prop := fun r => ∃ c, c ≤ ns.length ∧ r = .d (.obj fun a => SetO w a (fun j => decide (j ∈ ns)) c)
theorem xp_setL (ha : XP X L e ρ (fun r => ∃ ns, Pn ns ∧ r = .own (ns.map .int))) (hz : ∀ ns, Pn ns → ns.length ≤ 1000) (hm : X.mg "set" = none) (hc : X.calm = true := by rfl) (hg : Gl X "set" := by rfl) (hs : starEach [e] X.env = (false, eval e X.env) :: starEach [] X.env := by rfl) (hpl : (backTo pos (starEach [] X.env)).any (·.1) = false := by rfl) :
    XP X L (.Call (.Name "set" p) [e] [] pos) ρ (fun r => ∃ ns, Pn ns ∧ isSet X.w ns r) :=
  xp_of (pe_callTy (cr_setL hc) hg hm PyProof.Rows.boot_set pa_sem (by decide) (by decide) hs hpl) (ev_cb (xap_cons ha xa_nil hs) fun rs hr H Hb vs Q g ee rv k => by
    obtain ⟨r, rs', rfl, ⟨ns, hn, rfl⟩, rfl⟩ := hr
    obtain ⟨v, rfl, a, xs, rfl, _, _, h1, h2⟩ := rvs1 rv
    obtain rfl := h2.ints
    exact ⟨a, ns, rfl, h1, hz ns hn, fun p c hp hc => k _ _ _ ⟨ns, hn, c, hc, rfl⟩ (Step.new hp) (g.new hp) (Dv.obj upd_same rfl)⟩)
theorem xp_sortedSt (ha : XP X L e ρ (fun r => ∃ ns, Pn ns ∧ isSet X.w ns r)) (hz : ∀ ns, Pn ns → ns.length ≤ 63) (hm : X.mg "sorted" = none) (hc : X.calm = true := by rfl) (hg : Gl X "sorted" := by rfl) (hs : starEach [e] X.env = (false, eval e X.env) :: starEach [] X.env := by rfl) (hpl : (backTo pos (starEach [] X.env)).any (·.1) = false := by rfl) :
    XP X L (.Call (.Name "sorted" p) [e] [] pos) ρ (fun r => ∃ ns ts, Pn ns ∧ Mx.Asc ts ∧ ts.length ≤ ns.length ∧ r = .own (ts.map .int)) :=
  xp_of (pe_callB (cr_sortedSet hc) hg hm (by decide +kernel) pa_sem (by decide) (by decide) hs hpl) (ev_cb (xap_cons ha xa_nil hs) fun rs hr H Hb vs Q g ee rv k => by
    obtain ⟨r, rs', rfl, ⟨ns, hn, c, hc, rfl⟩, rfl⟩ := hr
    obtain ⟨v, rfl, q⟩ := rvs1 rv
    have hz1 := hz ns hn
    cases q with
    | @obj a F h1 h2 =>
      exact ⟨a, _, c, rfl, h1, by omega, fun ts p hs _ hl hp => k _ _ _ ⟨ns, ts, hn, hs, by omega, rfl⟩ (Step.new hp) (g.new hp) ⟨p, _, rfl, hp, g.free hp, upd_same, DvA.of_ints ts⟩⟩)
theorem xp_lcG {elt tg it : Expr} {scope : Scope} {own : List (Str × Nat)} {g : TG} {PD : List D → Prop} (G : D → D → Prop) (hi : XI X L tg it ρ PD) (ok : BlkOk X.N X.env.scope scope own)
    (hg : ∀ (s : Shared) (H : Hp) (C : Addr) (cl : List (Str × Addr)) (fp : List Addr), PG (BX X s H scope C cl fp) tg g)
    (ht : ∀ ds d, PD ds → d ∈ ds → ∃ ρ', EvGw L (own.map (·.2)) g (wipeR ρ (own.map (·.2))) d ρ' ∧ ∀ (s : Shared) (H1 : Hp) (C : Addr) (cl : List (Str × Addr)) (fp : List Addr), XP (BX X s H1 scope C cl fp) L elt ρ' (fun r => ∃ y, G d y ∧ r = .d y)) (hz : ∀ ds, PD ds → ds.length ≤ 100000)
    (hc : X.calm = true := by rfl) (hN : X.N.Nodup := by assumption) (hs : ∀ x, foldedSetIterable it X.env x = pure x := by intro _; rfl) : XP X L (.ListComp elt [⟨tg, it, [], 0⟩] scope pos) ρ (fun r => ∃ ds ys, PD ds ∧ Made G (fun _ => true) ds ys ∧ r = .own ys) :=
  xp_of (pe_lc hc hN pi_sem ok hg (fun _ _ _ _ _ => pts_nil) (fun s H1 C cl fp => pe_blk s H1 C cl fp) hs)
    (ev_lc (fun _ => true) G hi (fun ds d pd hd => by
      obtain ⟨ρ', h1, h2⟩ := ht ds d pd hd
      exact ⟨ρ', h1, evb_yes, fun _ => ev_blkE h2⟩) hz (fun ds ys pd m => ⟨ds, ys, pd, m, rfl⟩))
theorem made_ints {f : D → Bool} {ds ys : List D} (m : Made (fun _ y => ∃ k : Int, y = .int k) f ds ys) : ∃ ns : List Int, ys = ns.map .int ∧ ns.length ≤ ds.length := by
  induction m with
  | nil => exact ⟨[], rfl, Nat.le_refl _⟩
  | yes _ _ hg ih =>
    obtain ⟨ns, rfl, h⟩ := ih
    obtain ⟨k, rfl⟩ := hg
    exact ⟨ns ++ [k], by rw [List.map_append]; rfl, by simp only [List.length_append, List.length_singleton]; omega⟩
  | no _ _ ih =>
    obtain ⟨ns, e, h⟩ := ih
    exact ⟨ns, e, by rw [List.length_append]; omega⟩
theorem cut_ints (ts : List Int) (j : Int) : ∃ n, cutD (ts.map D.int) none (some j) = (ts.take n).map .int := by
  unfold cutD
  rw [HT.sIx_none, List.drop_zero, ← List.map_take]
  exact ⟨_, rfl⟩
theorem xap_nil {PA' : List Rep → Prop} (h : PA' []) : XAP X L [] ρ PA' := fun gs H0 H σ Q E k => xa_nil gs H0 H σ Q E fun rs vs H' hr => k rs vs H' (by rw [hr]; exact h)
end
end Dl
-- Pg15
/-! Pg15: _law_goal. -/
namespace Pg
open PySem L2 Dl Mx Hr
section
variable {P : Program} {w : World} {K : PySem.W.Frag} {mg : Str → Option Value} {base : Heap} {L : Dl.Lay}
abbrev s__law_goal : Stmt := top 81
theorem ok__law_goal {f : Addr} {fd : FuncData} (F : Fun K "_law_goal" "_law_goal" s__law_goal f fd) (B : Bi mg) (c__law_pick : Cal P w K mg base 1 "_law_pick" ["_law_tape_here", "_law_many"] (spG L gLawPick)) (c__law_ladders : Cal P w K mg base 1 "_law_ladders" ["_law_most"] (spG L gLawLadders)) (c__law_going : Cal P w K mg base 1 "_law_going" ["_law_line", "_law_runs"] (spG L gLawGoing)) (c__law_small_line : Cal P w K mg base 3 "_law_small_line" ["_law_tape_here", "_law_most"] (spG L gLawSmallLine)) : FnOk P w K mg base CX0 4 f fd ["_law_tape_here", "_law_line"] (spG L gLawGoal) := by
  refine def_ok (N := ["_law_tape_here", "_law_line", "_law_ladders_here", "_law_goal_here", "_law_kind", "_law_moved", "_law_edge"]) F ⟨rfl, rfl, rfl, by decide +kernel, rfl, by decide +kernel, by decide +kernel⟩ (by decide) (fun _ _ h => by cases h; rfl) fun cdv A outer s H E hr rs Pq h => ?_
  have nd : (["_law_tape_here", "_law_line", "_law_ladders_here", "_law_goal_here", "_law_kind", "_law_moved", "_law_edge"] : List Str).Nodup := by decide +kernel
  cases h with
  | mk f es h hl =>
    refine xs_setP (i := 2) (xp_call c__law_ladders (hr.mono (by decide)) (xa_cons xe_int xa_nil) (.mk 2 (by decide))) (fun r hr => by obtain ⟨_, _, rfl⟩ := hr; exact .inr rfl) ?_
    rintro r ⟨ds, ⟨ls, hls, rfl⟩, rfl⟩
    have l1 : 1 ≤ ls.length := List.length_pos_of_mem (hls.all [] ⟨Nat.zero_le _, Nat.zero_le _⟩)
    have l2 := hls.len
    refine XSs.fz (ds := ls.map fun l => ldD l) 2 ?_
    refine xs_setP (i := 3) (P := fun r => ∃ d, (∃ es', (Asc es' ∧ es'.length ≤ 10) ∧ d = ln f es') ∧ r = .d d) (xp_ixT0 (Q := fun ds => ∃ es', (Asc es' ∧ es'.length ≤ 10) ∧ ds = [.opq, ln f es']) (P := fun d => ∃ es', (Asc es' ∧ es'.length ≤ 10) ∧ d = ln f es') (xp_callP c__law_going (hr.mono (by decide)) (xap_cons (P := fun r => r = .d (ln f es)) (xv 1) (xap_cons (xp_ixL (P := fun d => ∃ l, l ∈ ls ∧ d = ldD l) (xv 2) (xp_call c__law_pick (hr.mono (by decide)) (xa_cons (xv 0) (xa_cons ((xe_lenL (xv 2) B.len).is (by rw [List.length_map])) xa_nil)) (.mk (ls.length : Int) (by omega) (by omega))) (fun i hi => ?_)) (xap_nil (PA' := fun z => z = []) rfl))) (fun rs hrs => ?_)) xe_int ?_) (fun r hr => by obtain ⟨_, _, rfl⟩ := hr; exact .inl rfl) ?_
    · obtain ⟨h0, h1⟩ := hi
      obtain ⟨n, rfl⟩ : ∃ n : Nat, i = (n : Int) := ⟨i.toNat, by omega⟩
      have hlt : n < ls.length := by omega
      exact ⟨ldD ls[n], atI_mapF (f := fun l => ldD l) (by simp [hlt]), ls[n], List.getElem_mem hlt, rfl⟩
    · obtain ⟨_, _, rfl, rfl, _, _, rfl, ⟨d, ⟨l, hl', rfl⟩, rfl⟩, rfl⟩ := hrs
      obtain ⟨s, hs, rfl⟩ := hls.val l hl'
      have r1 := runs_len s
      have r2 := hs.len
      refine ⟨rfl, _, gLawGoing.mk f es (runs s) h (by omega) (by omega), fun r hr => ⟨_, ⟨core f es (runs s), ⟨h.sub (core_sub f es (runs s)), Nat.le_trans (core_len f es (runs s)) hl⟩, rfl⟩, hr⟩⟩
    · rintro ds ⟨es', he, rfl⟩
      exact ⟨_, rfl, es', he, rfl⟩
    rintro r ⟨_, ⟨es', ⟨ha', hl'⟩, rfl⟩, rfl⟩
    refine xs_setP (i := 4) (xp_call c__law_pick (hr.mono (by decide)) (xa_cons (xv 0) (xa_cons xe_int xa_nil)) (.mk 7 (by decide) (by decide))) (fun r hr => by obtain ⟨_, _, rfl⟩ := hr; exact .inl rfl) ?_
    rintro r ⟨k, _, rfl⟩
    refine xs_if (xt_w (xw_and (xt_lt (xv 4) xe_int) (fun _ => xw_and1 (xt_gt (xe_lenT (xe_ixT (ds := [.bl f, lnE es']) (xv 3) xe_int rfl) B.len) xe_int)))) (fun _ => ?_) (fun _ => xs_nil ?_)
    · refine xs_setP (i := 5) (xp_sortedSt (Pn := fun ns => ns.length ≤ 10) (xp_setL (Pn := fun ns => ns.length ≤ 10) (XP.imp (xp_lcG (PD := fun z => z = es'.map .int) (own := [("_law_edge", 6)]) (fun _ y => ∃ k : Int, y = .int k) (xi_tup (xe_ixT (ds := [.bl f, lnE es']) (xv 3) xe_int rfl)) (blkOk_by (N := ["_law_tape_here", "_law_line", "_law_ladders_here", "_law_goal_here", "_law_kind", "_law_moved", "_law_edge"]) (sc := defScope s__law_goal) (by decide +kernel)) (fun _ _ _ _ _ => pg_name (i := 6) nd rfl (Or.inl rfl)) (fun ds d pd hd => ?_) (fun ds pd => ?_)) (fun r hr => ?_)) (fun ns hn => by omega) B.set) (fun ns hn => by omega) B.sorted) (fun r hr => by obtain ⟨_, _, _, _, _, rfl⟩ := hr; exact .inr rfl) ?_
      · subst pd
        obtain ⟨e, he, rfl⟩ := List.mem_map.mp hd
        refine ⟨_, evgw_name (by decide), fun s H1 C cl fp => XP.imp (xp_sub (xp_addR (xv 6) (xp_call c__law_pick (hr.mono (by decide)) (xa_cons (xv 0) (xa_cons xe_int xa_nil)) (.mk 3 (by decide) (by decide)))) xe_int) fun r hr => ?_⟩
        obtain ⟨j, _, rfl⟩ := hr
        exact ⟨_, ⟨j, rfl⟩, rfl⟩
      · subst pd
        rw [List.length_map]; omega
      · obtain ⟨ds, ys, rfl, m, rfl⟩ := hr
        obtain ⟨ns, rfl, hn⟩ := made_ints m
        rw [List.length_map] at hn
        exact ⟨ns, by omega, rfl⟩
      · rintro r ⟨ns, ts, hn, ht, hl2, rfl⟩
        obtain ⟨n, hcut⟩ := cut_ints ts ((ts.length : Int) - ((ts.length : Int) - (es'.length : Int)) % 2)
        have hlt : (ts.take n).length ≤ ts.length := by rw [List.length_take]; exact Nat.min_le_right _ _
        refine XSs.fz (ds := ts.map .int) 5 (xs_ret (XE.p (r := .d (ln f (ts.take n))) (xe_tup (ds := [.bl f, lnE (ts.take n)]) (xa_cons (xe_ixT (ds := [.bl f, lnE es']) (xv 3) xe_int rfl) (xa_cons (XE.is (xe_tupleL (XE.rd (xe_slL (xv 5) xo_none (xo_some (xe_sub (xe_lenL (xv 5) B.len) (xe_mod (xe_intI (xe_sub (xe_lenL (xv 5) B.len) (xe_lenT (xe_ixT (ds := [.bl f, lnE es']) (xv 3) xe_int rfl) B.len)) B.int) xe_int (by decide)))))) B.tuple) ?_) xa_nil))) ?_))
        · rw [List.length_map, List.length_map, hcut]
        · exact ⟨f, ts.take n, ⟨ht.sub (List.take_sublist _ _), by omega⟩, rfl⟩
    · refine xs_if (xt_eq (xv 4) xe_int (.int _ _)) (fun _ => xs_ret ((xv 1).p ⟨f, es, ⟨h, by omega⟩, rfl⟩)) (fun _ => xs_nil ?_)
      refine xs_if (xt_eq (xv 4) xe_int (.int _ _)) (fun _ => xs_ret (XE.p (xe_tup (ds := [.bl (!f), lnE es]) (xa_cons (xe_not (xe_ixT (ds := [.bl f, lnE es]) (xv 1) xe_int rfl)) (xa_cons (xe_ixT (ds := [.bl f, lnE es]) (xv 1) xe_int rfl) xa_nil))) ⟨!f, es, ⟨h, by omega⟩, rfl⟩)) (fun _ => xs_nil ?_)
      refine xs_ret (xp_if (xt_eq (xv 4) xe_int (.int _ _)) (fun _ => (xv 3).p ⟨f, es', ⟨ha', by omega⟩, rfl⟩) (fun _ => XP.imp (xp_call c__law_small_line (hr.mono (by decide)) (xa_cons (xv 0) (xa_cons xe_int xa_nil)) (.mk 8 (by decide))) fun r hr => ?_))
      obtain ⟨f2, e2, ⟨h1, h2⟩, rfl⟩ := hr
      exact ⟨f2, e2, ⟨h1, by omega⟩, rfl⟩
end
end Pg
-- Jn1
/-! Jn1: {e: True for e in a tuple of ints}, sorted. -/
namespace Dl
open PySem L2 PyProof.Rows Mx
/-- the keys, each once, as they come -/
def keysOf (ns : List Int) : List Int := ns.foldl (fun acc n => if n ∈ acc then acc else acc ++ [n]) []
def dkOf (ns : List Int) : List (Key × D) := (keysOf ns).map fun n => (.inl n, .bl true)
theorem keysOf_snoc (ns : List Int) (n : Int) : keysOf (ns ++ [n]) = if n ∈ keysOf ns then keysOf ns else keysOf ns ++ [n] := by
  unfold keysOf
  rw [List.foldl_append]
  rfl
theorem putD_keys (ks : List Int) (n : Int) : putD (ks.map fun n => ((.inl n : Key), D.bl true)) (.inl n) (.bl true) = (if n ∈ ks then ks else ks ++ [n]).map fun n => ((.inl n : Key), D.bl true) := by
  have h1 : ((ks.map fun n => ((.inl n : Key), D.bl true)).any fun kv => decide (kv.1 = .inl n)) = decide (n ∈ ks) := by
    rw [List.any_map]
    induction ks with
    | nil => simp
    | cons x ks ih =>
      rw [List.any_cons, ih]
      by_cases h : x = n
      · subst h; simp
      · have h2 : ¬ n = x := fun z => h z.symm
        simp [h, h2]
  unfold putD
  rw [h1]
  by_cases h : n ∈ ks
  · rw [if_pos (decide_eq_true h), if_pos h, List.map_map]
    apply List.map_congr_left
    intro x _
    show (if (Sum.inl x : Key) = .inl n then ((.inl x : Key), D.bl true) else (.inl x, .bl true)) = _
    split <;> rfl
  · rw [if_neg (by rw [decide_eq_false h]; exact Bool.false_ne_true), if_neg h, List.map_append]
    rfl
theorem dkOf_snoc (ns : List Int) (n : Int) : dkOf (ns ++ [n]) = putD (dkOf ns) (.inl n) (.bl true) := by
  unfold dkOf
  rw [putD_keys, keysOf_snoc]
theorem snoc_indI {C : List Int → Prop} (h0 : C []) (hs : ∀ l x, C l → C (l ++ [x])) (l : List Int) : C l := by
  have : ∀ n (l : List Int), l.length = n → C l := by
    intro n
    induction n with
    | zero => intro l h; rw [List.eq_nil_of_length_eq_zero h]; exact h0
    | succ n ih =>
      intro l h
      rcases List.eq_nil_or_concat l with e | ⟨l', x, e⟩
      · rw [e]; exact h0
      · rw [List.concat_eq_append] at e
        rw [e]
        refine hs l' x (ih l' ?_)
        rw [e, List.length_append] at h
        simpa using h
  exact this _ l rfl
theorem keysOf_mem (ns : List Int) (x : Int) : x ∈ keysOf ns ↔ x ∈ ns := by
  refine snoc_indI (C := fun l => x ∈ keysOf l ↔ x ∈ l) (by simp [keysOf]) (fun l y ih => ?_) ns
  rw [keysOf_snoc]
  split
  · rename_i h
    constructor
    · intro z
      exact List.mem_append_left _ (ih.mp z)
    · intro z
      rcases List.mem_append.mp z with z | z
      · exact ih.mpr z
      · rw [List.mem_singleton.mp z]; exact h
  · rw [List.mem_append, List.mem_append, ih]
theorem keysOf_nodup (ns : List Int) : (keysOf ns).Nodup := by
  refine snoc_indI (C := fun l => (keysOf l).Nodup) (by simp [keysOf]) (fun l y ih => ?_) ns
  rw [keysOf_snoc]
  split
  · exact ih
  · rename_i h
    rw [List.nodup_append]
    refine ⟨ih, by simp, fun a ha b hb e => ?_⟩
    rw [List.mem_singleton.mp hb] at e
    rw [e] at ha
    exact h ha
theorem keysOf_len (ns : List Int) : (keysOf ns).length ≤ ns.length := by
  refine snoc_indI (C := fun l => (keysOf l).length ≤ l.length) (Nat.le_refl _) (fun l y ih => ?_) ns
  rw [keysOf_snoc, List.length_append]
  split
  · exact Nat.le_trans ih (Nat.le_add_right _ _)
  · rw [List.length_append]
    exact Nat.add_le_add_right ih _
theorem asc_of_le {l : List Int} (h : l.Pairwise (· ≤ ·)) (n : l.Nodup) : Asc l := by
  unfold Asc
  induction l with
  | nil => exact .nil
  | cons x l ih =>
    obtain ⟨h1, h2⟩ : _ ∧ _ := List.pairwise_cons.mp h
    obtain ⟨n1, n2⟩ := List.nodup_cons.mp n
    refine List.pairwise_cons.mpr ⟨fun y hy => ?_, ih h2 n2⟩
    have := h1 y hy
    have ne : x ≠ y := fun z => n1 (z ▸ hy)
    omega
theorem sorted_uni {es es' ys : List Int} (p : ys.Perm (keysOf (es ++ es'))) (s : ys.Pairwise (· ≤ ·)) : ys = uniT es es' := by
  refine asc_ext (asc_of_le s (p.nodup_iff.mpr (keysOf_nodup _))) (uniT_asc es es') fun x => ?_
  rw [p.mem_iff, keysOf_mem, uniT_mem, List.mem_append]
section
variable {X : Cx} {L : Lay} {ρ : Rho} {P : Rep → Prop} {a b : Expr} {p pos : Pos}
theorem xe_dcT {kx vx it tg : Expr} {scope : Scope} {own : List (Str × Nat)} {ns : List Int} {n : Nat} (hi : XE X L it ρ (.d (.tup (ns.map .int)))) (ok : BlkOk X.N X.env.scope scope own)
    (hg : ∀ (s : Shared) (H : Hp) (C : Addr) (cl : List (Str × Addr)) (fp : List Addr), PG (BX X s H scope C cl fp) tg (gName n)) (hn : n ∈ own.map (·.2))
    (hk : ∀ (s : Shared) (H1 : Hp) (C : Addr) (cl : List (Str × Addr)) (fp : List Addr) (m : Int), XE (BX X s H1 scope C cl fp) L kx ((wipeR ρ (own.map (·.2))).set n (some (.d (.int m)))) (.d (.int m)))
    (hv : ∀ (s : Shared) (H1 : Hp) (C : Addr) (cl : List (Str × Addr)) (fp : List Addr) (m : Int), XE (BX X s H1 scope C cl fp) L vx ((wipeR ρ (own.map (·.2))).set n (some (.d (.int m)))) (.d (.bl true)))
    (hz : ns.length < 100000) (hc : X.calm = true := by rfl) (hN : X.N.Nodup := by assumption) (hs : ∀ x, foldedSetIterable it X.env x = pure x := by intro _; rfl) : XE X L (.DictComp kx vx [⟨tg, it, [], 0⟩] scope pos) ρ (.dct (dkOf ns)) :=
  xe_of (pe_dc hc hN (pi_tup pe_sem) ok hg (fun _ _ _ _ _ => pts_nil) (fun s H1 C cl fp => pe_blk s H1 C cl fp) (fun s H1 C cl fp => pe_blk s H1 C cl fp) hs) fun gs H0 H σ Q E k => hi gs H0 H σ _ E fun r v H1 pr e1 g1 rv => by
    subst pr
    obtain ⟨a, vs, rfl, h1, h2⟩ := rv_tup rv
    obtain rfl := h2.ints
    refine ⟨a, rfl, ⟨_, SqT.of h1⟩, fun A hA => ?_⟩
    have rA : ¬ L.resv A := g1.free hA
    have ntp : ∀ q, L.tp = some q → A ≠ q.1 := fun q hq z => rA ⟨q, hq, .inl z⟩
    refine dc_tup (K := X.K) (a := a) (xs := ns.map V.int) (Qd := Q (.ref A)) (fun i H' => ∃ kvs, H' A = some (.dK kvs) ∧ KD H' kvs (dkOf (ns.take i)) ∧ Step L H1 H' ∧ Good L H' ∧ Dl.En L gs H0 H' σ ρ) ⟨[], upd_same, .nil, Step.new hA, g1.new hA, (E.step e1 g1).step (Step.new hA) (g1.new hA)⟩
      (fun i H' _ ⟨_, _, _, s1, _, _⟩ => SqT.of (s1.tex g1 _ _ h1 rfl)) (fun i x H' hx ⟨kvs, d1, d2, s1, g2, E1⟩ => ?_) (fun H' ⟨kvs, d1, d2, s1, g2, E1⟩ => ?_)
    · rw [List.getElem?_map] at hx
      cases hm : ns[i]? with
      | none => rw [hm] at hx; cases hx
      | some m =>
        rw [hm] at hx
        cases hx
        refine ⟨by rw [wipe_set hn, wipe_wipe], ?_⟩
        show blkE X scope kx _ H' _
        have E2 := (E1.wipe (own.map (·.2))).setd n (Dv.int m)
        refine ev_blkE (fun s H1 C cl fp => hk s H1 C cl fp m) gs H0 H' _ _ E2 fun r v H4 pr e4 g4 rv => ?_
        subst pr
        obtain rfl := rv_int rv
        refine ev_blkE (fun s H1 C cl fp => hv s H1 C cl fp m) gs H0 H4 _ _ (E2.step e4 g4) fun r v H5 pr e5 g5 rv => ?_
        subst pr
        obtain rfl := rv_bl rv
        have e45 := e4.trans e5
        have d5 : H5 A = some (.dK kvs) := e45.keep _ _ d1 nodk ntp
        have k5 : KD H5 kvs (dkOf (ns.take i)) := d2.mono (e45.tex g2)
        have lk : kvs.length ≤ ns.length := by
          rw [kd_len d2]
          unfold dkOf
          rw [List.length_map]
          exact Nat.le_trans (keysOf_len _) (by rw [List.length_take]; exact Nat.min_le_right _ _)
        refine ⟨kvs, .inl m, rfl, d5, sz_lt (by omega), putK kvs (.inl m) (.bl true), upd_same, ?_, ?_⟩
        · have tx : TEx H5 (upd H5 A (.dK (putK kvs (.inl m) (.bl true)))) := fun b u h so => by
            rw [upd_ne (ne_of h d5 (by intro z; rw [z] at so; cases so))]
            exact h
          rw [take_snoc hm, dkOf_snoc]
          exact (kd_put (Dv.bl true) k5).mono tx
        · have sB : Step L H1 (upd H5 A (.dK (putK kvs (.inl m) (.bl true)))) := ⟨fun b o e n t => by
            rw [upd_ne (ne_of_none e hA)]
            exact (s1.trans e45).keep b o e n t, fun b e => by
            by_cases hb : b = A
            · rw [hb]; exact hA
            · rw [upd_ne hb] at e; exact (s1.trans e45).free b e⟩
          have gB : Good L (upd H5 A (.dK (putK kvs (.inl m) (.bl true)))) := g5.write d5 (.inr ⟨_, rfl⟩) rA
          exact ⟨sB, gB, (E.step e1 g1).step sB gB⟩
    · rw [List.length_map, List.take_length] at d2
      exact k _ _ H' rfl (e1.trans s1) g2 ⟨A, kvs, rfl, e1.free _ hA, rA, d1, d2⟩
theorem kd_keys {H : Hp} : ∀ {vs : List (Key × V)} {kvs : List (Key × D)}, KD H vs kvs → vs.map (·.1) = kvs.map (·.1)
  | _, _, .nil => rfl
  | _, _, .cons h r => by rw [List.map_cons, List.map_cons, h.1, kd_keys r]
/-- sorted({e: True for ..}) over two ascending ones laid together -/
theorem xe_sortedU {es es' : List Int} (ha : XE X L a ρ (.dct (dkOf (es ++ es')))) (hl : es.length + es'.length < 64) (hm : X.mg "sorted" = none) (hc : X.calm = true := by rfl) (hg : Gl X "sorted" := by rfl) (hs : starEach [a] X.env = (false, eval a X.env) :: starEach [] X.env := by rfl) (hpl : (backTo pos (starEach [] X.env)).any (·.1) = false := by rfl) :
    XE X L (.Call (.Name "sorted" p) [a] [] pos) ρ (.own ((uniT es es').map .int)) :=
  xp_cb (call_sortedDI hc) hm (by decide +kernel) (xa_cons ha xa_nil hs) (fun H Hb vs Q g e rv k => by
    obtain ⟨v, rfl, t, kvs, rfl, t0, tr, h1, h2⟩ := rvs1 rv
    refine ⟨t, kvs, keysOf (es ++ es'), rfl, .inl h1, ?_, ?_, fun ys q hp hst hq => ?_⟩
    · rw [kd_keys h2]
      unfold dkOf
      rw [List.map_map]
      rfl
    · have := keysOf_len (es ++ es')
      rw [List.length_append] at this
      omega
    · rw [sorted_uni hp hst]
      exact k _ _ _ rfl (Step.new hq) (g.new hq) ⟨q, _, rfl, hq, g.free hq, upd_same, DvA.of_ints _⟩) hg (by decide) (by decide) hs hpl
end
end Dl
-- Lm1
/-! Lm1: a lambda with parameters, made and known from then on; its call. -/
namespace Lm
open PySem L2 LamX PySem.Spec PyProof.Rows
/-- a lambda's words, its code object -/
structure LW where
  ar : Arguments
  bd : Expr
  sc : Scope
  q : Str
  c : Addr
abbrev LW.ob (F : LW) (pm ctv : Value) : Obj := PySem.W.kla_obj "<lambda>" F.q F.ar F.bd F.sc [] pm F.c ctv
abbrev LW.fd (F : LW) (pm ctv : Value) : FuncData := PySem.W.kla_fn "<lambda>" F.q F.ar F.bd F.sc [] pm (.ref F.c) ctv
/-- the object at f is the lambda F -/
def LamO (F : LW) (pm ctv : Value) (f : Addr) : HO := .ext fun h => h.get? f = some (F.ob pm ctv)
abbrev LW.nf (F : LW) : NdefX.NF := ⟨"<lambda>", F.q, F.ar, [], F.sc, [], F.c⟩
section
variable {X : Cx} {s : Shared} {pins : List (Addr × Obj)} {σ : L2.St} {H : Hp}
/-- a new lambda object is laid -/
theorem lay_lam {F : LW} {pm ctv : Value} {t : Nat} (I : Inv X pins σ H s) : Inv X pins σ (upd H s.heap.objs.size (LamO F pm ctv s.heap.objs.size)) { s with heap := s.heap.push (F.ob pm ctv), toks := t } :=
  I.laid (fun b u e => Heap.get?_push_of_some _ e) (Nat.le_refl _) ⟨Heap.get?_push_size _ rfl, ⟨_, Heap.get?_push_size _ rfl⟩, fun g1 g2 e st => st _ e⟩
/-- what is told of a lambda just made at f -/
def Born (T : List (Addr × Str)) (H : Hp) (F : LW) (pm ctv : Value) (f : Addr) (H1 : Hp) : Prop :=
  ExtN H H1 ∧ (∀ b, H1 b = none → H b = none) ∧ Tabs T H1 ∧ H1 f = some (LamO F pm ctv f) ∧ H1 F.c = some (CodeO F.c F.q)
theorem lam_mk {T : List (Addr × Str)} {c P : Addr} {ar : Arguments} {bd : Expr} {sc : Scope} {q : Str} {pos : Pos} {E Q : Value → Shared → Prop} (I : Inv X pins σ H s) (TB : TabB X.base X.mg c P) (hc : X.env.code = .ref c) (hq : q = X.env.qual ++ "<lambda>")
    (hm : (P, q) ∈ T) (hu : ∀ p ∈ T, p.1 = P → p.2 = q) (hT : Tabs T H) (hd : defaultsOf ar X.env = ([], [])) (hcl : closureFor sc X.env = pure [])
    (k : ∀ (f : Addr) (c1 : Addr) (pm ctv : Value) (H1 : Hp) (s1 : Shared), Inv X pins σ H1 s1 → Born T H ⟨ar, bd, sc, q, c1⟩ pm ctv f H1 → Q (.ref f) s1) :
    wpAny (model X.prog X.w) X.A (eval (.Lambda ar bd sc pos) X.env) Q E s := by
  subst hq
  obtain ⟨ps, tP, tr, am⟩ := hT _ hm
  have at1 : s.heap.get? P = some { cls := .none, data := .fields ps } := I.hok P _ tP
  -- the object laid over a heap in which its code object is known
  have fin : ∀ {c1 : Addr} {pm ctv : Value} {H1 : Hp} {g : Heap} {t : Nat}, Inv X pins σ H1 { s with heap := g, toks := t } → ExtN H H1 → (∀ b, H1 b = none → H b = none) → Tabs T H1 → H1 c1 = some (CodeO c1 (X.env.qual ++ "<lambda>")) →
      Q (.ref g.objs.size) { s with heap := g.push (LW.ob ⟨ar, bd, sc, X.env.qual ++ "<lambda>", c1⟩ pm ctv), toks := t } := by
    intro c1 pm ctv H1 g t J e1 e2 e3 e4
    have nw : H1 g.objs.size = none := J.hok.fresh (Nat.le_refl _)
    have keep : ∀ b o, H1 b = some o → upd H1 g.objs.size (LamO ⟨ar, bd, sc, X.env.qual ++ "<lambda>", c1⟩ pm ctv g.objs.size) b = some o := fun b o e => (upd_ne (ne_of_none e nw)).trans e
    exact k _ c1 pm ctv _ _ (lay_lam (F := ⟨ar, bd, sc, X.env.qual ++ "<lambda>", c1⟩) (pm := pm) (ctv := ctv) (t := t) J) ⟨e1.trans (.of keep), fun b e => e2 b (NdefX.upd_none e), e3.ext keep, upd_same, keep _ _ e4⟩
  refine PySem.W.kla_eval hd ?_
  have bi : s.heap.BuiltinsAt X.mg P := TB.bm.keeps I.bk
  have gl := I.mod.glob.keeps I.bk
  have cd := TB.code.keeps I.bk
  cases hh : codeAmong pos ps.toList with
  | some cv =>
    obtain ⟨c1, rfl, kn⟩ := am pos cv hh
    exact PySem.W.kla_makeFunctionHit hcl I.ok.glob gl hc cd at1 tr hh bi fun ctv g t st _ => fin (pm := (X.mg "__name__").getD .none) (ctv := ctv) (I.kept (t' := t) st) (ExtN.refl H) (fun b e => e) hT kn
  | none =>
    refine PySem.W.kla_makeFunction hcl I.ok.glob gl hc cd at1 tr hh TB.gP bi fun c1 ctv g t ex ge lt rec tb => ?_
    obtain ⟨c0, o1, v1, t1, z0, z1, z2, z3⟩ := rec
    cases z0
    have fr : H c1 = none := I.hok.fresh ge
    have J := inv_table (more := #[rawInt pos.line, rawInt pos.col, .ref c1]) (t' := t) I tP (fun b o n e => ex b o n e) tb ge ⟨o1, v1, t1, z1, z2, z3⟩
    have app : (ps ++ #[rawInt pos.line, rawInt pos.col, .ref c1]).toList = ps.toList ++ [rawInt pos.line, rawInt pos.col, .ref c1] := by simp
    have kp : ExtN H (upd (upd H P (.tbl (ps ++ #[rawInt pos.line, rawInt pos.col, .ref c1]))) c1 (CodeO c1 (X.env.qual ++ "<lambda>"))) := fun b o e nt => by
      have nP : b ≠ P := fun z => nt ps (by rw [z, tP] at e; exact (Option.some.inj e).symm)
      rw [upd_ne (ne_of_none e fr), upd_ne nP, e]
    refine fin (pm := (X.mg "__name__").getD .none) (ctv := ctv) J kp (fun b e => NdefX.upd_none (NdefX.upd_none e)) (fun p hp => ?_) upd_same
    by_cases eP : p.1 = P
    · refine ⟨ps ++ #[rawInt pos.line, rawInt pos.col, .ref c1], ?_, by rw [app]; exact PySem.TriplesOk_snoc _ _ _ _ tr, fun y v hv => ?_⟩
      · rw [eP, upd_ne (ne_of_none tP fr), upd_same]
      · rw [hu p hp eP]
        rw [app] at hv
        rcases among_app _ tr hv with z | z
        · obtain ⟨c2, y1, y2⟩ := am y v z
          exact ⟨c2, y1, kp _ _ y2 codeO_ne⟩
        · exact ⟨c1, z, upd_same⟩
    · obtain ⟨ps2, y1, y2, y3⟩ := hT p hp
      refine ⟨ps2, ?_, y2, fun y v hv => ?_⟩
      · rw [upd_ne (ne_of_none y1 fr), upd_ne eP]
        exact y1
      · obtain ⟨c2, x1, x2⟩ := y3 y v hv
        exact ⟨c2, x1, kp _ _ x2 codeO_ne⟩
end
/-- the reading of a lambda as a value -/
def tLamV (T : List (Addr × Str)) (mk : Addr → LW) : TE := fun σ H Q => Tabs T H ∧ ∀ (f c1 : Addr) (pm ctv : Value) (H1 : Hp), Born T H (mk c1) pm ctv f H1 → Q (.ref f) H1
theorem pe_lamV {X : Cx} {T : List (Addr × Str)} {c P : Addr} {ar : Arguments} {bd : Expr} {sc : Scope} {q : Str} {pos : Pos} (TB : TabB X.base X.mg c P) (hc : X.env.code = .ref c) (hq : q = X.env.qual ++ "<lambda>") (hm : (P, q) ∈ T) (hu : ∀ p ∈ T, p.1 = P → p.2 = q)
    (hd : defaultsOf ar X.env = ([], [])) (hcl : closureFor sc X.env = pure []) : PE X (.Lambda ar bd sc pos) (tLamV T fun c1 => ⟨ar, bd, sc, q, c1⟩) :=
  ⟨fun pins s σ H Q I ⟨hT, h⟩ => lam_mk I TB hc hq hm hu hT hd hcl fun f c1 pm ctv H1 s1 J b => ⟨.ref f, H1, J, rfl, h f c1 pm ctv H1 b⟩⟩
section
variable {CX : CXT} {P : Program} {w : World} {K : PySem.W.Frag} {mg : Str → Option Value} {base : Heap} {N ps : List Str} {F : LW} {f : Addr} {k : Nat} {sp : Sp} {pm ctv : Value}
/-- the lambda and its code object are known; the promise -/
def spL (F : LW) (pm ctv : Value) (f : Addr) (sp : Sp) : Sp := fun vs H Q E => H f = some (LamO F pm ctv f) ∧ H F.c = some (CodeO F.c F.q) ∧ sp vs H Q E
theorem lam_ok (S : NdefX.NScope N ps [] F.sc) (len : ∀ vs H Q E, sp vs H Q E → vs.length = ps.length)
    (body : ∀ (A : Around) (outer : List Env) (s : Shared) (H : Hp) (vs : List V) (Q : VK) (E : XK), sp vs H Q E → ∃ t, PE (NdefX.ncx CX P w K mg base N F.nf f A outer s H E) F.bd t ∧ t (NdefX.startF N vs []) H Q) :
    FnOk P w K mg base CX (k + 1) f (F.fd pm ctv) ps (spL F pm ctv f sp) := by
  refine ⟨fun vs H Q E z => len vs H Q E z.2.2, fun A outer s H args us vs Q E hr e0 hb r ⟨g1, g2, h⟩ => ?_⟩
  obtain ⟨of, _⟩ := e0.hok f _ g1
  have nl : s.heap.NoLimit := e0.mod.nolimit.keeps fun b o e => (e0.bs b o e).1
  refine PySem.W.kla_callFunE hr.depth of rfl S.co S.gen rfl (NdefX.codeO_at e0.hok g2) (hb _ _ _ _ (wpAny_newFunctionEnv S.nocell (fun y hy => S.par y.1 (List.of_mem_zip hy).1) (fun g hns hsb => ⟨nl.fresh _ hsb, ?_⟩) S.kind))
  show codeAny _ _ (.expr F.bd (NdefX.envF F.nf f s.heap.objs.size)) _ _
  obtain ⟨t, pe, ht⟩ := body A outer s H vs Q E h
  have J := NdefX.inv_startN (CX := CX) (E := E) (F := F.nf) (f := f) (tk := s.toks + (ps.zip us).length) S hr.hd e0 (len vs H Q E h) r (ws := []) ⟨rfl, fun y c e => (by cases e), fun x y c e => (by cases e), fun i y e => (by cases i <;> cases e)⟩ hns
    fun b o e => hsb.extBut b o (Nat.ne_of_lt (Heap.lt_size e)) (Heap.get?_push_of_some _ e)
  exact PySem.W.kla_codeExpr (wpAny_mono (pe.run [] _ _ H Q J ht) (fun v s1 ⟨x, H1, J1, rv, q⟩ => ⟨x, H1, J1.os, J1.bare, J1.base, J1.hok, rv, q⟩) fun e s1 z => z)
end
section
variable {X : Cx} {CX : CXT} {k i : Nat} {F : LW} {f : Addr} {ps : List Str} {sp : Sp} {pm ctv : Value} {x : Str} {p pos : Pos} {e : Expr} {es : List Expr} {t : TA} {E : XK}
/-- x(e, ..), x a slot that holds the lambda -/
def tCallF (i : Nat) (F : LW) (pm ctv : Value) (f : Addr) (sp : Sp) (E : XK) (t : TA) : TE := fun σ H Q => σ[i]? = some (some (.ref f)) ∧ H f = some (LamO F pm ctv f) ∧ t σ H fun vs H1 => spL F pm ctv f sp vs H1 Q E
theorem pe_callF (G : FnOk X.prog X.w X.K X.mg X.base CX k f (F.fd pm ctv) ps (spL F pm ctv f sp)) (hr : Room k X.A) (hN : X.N[i]? = some x) (hv : Vis X.env.scope x) (hb : Binds X.K (F.fd pm ctv) ps []) (hx : Passes CX X E) (ha : PA X (e :: es) t)
    (hd1 : (x == ("__debug__" : Str)) = false := by decide) (hd2 : (x == ("__classdict__" : Str)) = false := by decide)
    (he : starEach (e :: es) X.env = (false, eval e X.env) :: starEach es X.env := by rfl) (hpl : (backTo pos (starEach es X.env)).any (·.1) = false := by rfl) : PE X (.Call (.Name x p) (e :: es) [] pos) (tCallF i F pm ctv f sp E t) := by
  have fa : ∀ {H : Hp} {σ : L2.St} {pins : List (Addr × Obj)} {s : Shared}, Inv X pins σ H s → H f = some (LamO F pm ctv f) → PySem.W.FnAt f s.heap := fun I e => ⟨_, _, _, _, (I.hok f _ e).1⟩
  refine ⟨fun pins s σ H Q I ⟨h1, h2, h3⟩ => wpAny_Call_Name_kw (thn ((pe_var (pos := p) hN hv hd1 hd2).run pins s σ H (fun v G => v = .ref f ∧ G = H) I ⟨_, h1, rfl, rfl⟩) fun u s1 ⟨v, G1, J, rv, e1, e2⟩ => ?_)⟩
  subst e1 e2
  cases rv
  refine PySem.W.callWith_F (fa J h2) (thn (ha.run pos pins s1 σ _ _ J h3) fun us s2 ⟨vs, H2, J2, rv, hq⟩ => ⟨fa J2 hq.1, ?_⟩) he hpl
  exact run_fn G hr hb .nil hx J2 rv (by rw [List.append_nil]; exact hq)
end
/-! ### a hidden slot -/
theorem Inv_hide {X : Cx} {pins : List (Addr × Obj)} {σ : L2.St} {H : Hp} {s : Shared} {i : Nat} {x : Str} {v : V} (I : Inv X pins σ H s) (hi : X.N[i]? = some x) (hv : ¬ Vis X.env.scope x) : Inv X pins (σ.set i (some v)) H s := by
  refine ⟨I.ok, I.os, I.bare, I.base, ?_, I.cell, I.free, I.freeC, I.pin, I.hok, by rw [List.length_set]; exact I.len⟩
  obtain ⟨m, h1, h2⟩ := I.loc
  refine ⟨m, h1, fun j y u e1 e2 e3 => ?_⟩
  by_cases hj : i = j
  · subst hj
    rw [hi] at e1
    cases e1
    exact absurd e3 hv
  · rw [List.getElem?_set_ne hj] at e2
    exact h2 j y u e1 e2 e3
theorem sem_hide {X : Cx} {sts : List Stmt} {D : Ends} {σ : L2.St} {H : Hp} {i : Nat} {x : Str} {v : V} (hi : X.N[i]? = some x) (hv : ¬ Vis X.env.scope x) (h : Dl.semSs X sts D (σ.set i (some v)) H) : Dl.semSs X sts D σ H := fun pins s I => h pins s (Inv_hide I hi hv)
end Lm
-- Jn2
/-! Jn2: joined. -/
namespace Pg
open PySem L2 Dl Mx Lm LamX
/-- the lambda of where_unlike, its parts -/
def lamOf : List Stmt → Expr
  | [.Return (some (.Call _ [_, _, e] _ _)) _] => e
  | _ => .Constant .none 0 ⟨0, 0, 0, 0⟩
abbrev lamE : Expr := lamOf (defBody (top 26))
def lamAr : Expr → Arguments
  | .Lambda ar _ _ _ => ar
  | _ => Arguments.mk [] [] none [] [] none []
def lamBd : Expr → Expr
  | .Lambda _ bd _ _ => bd
  | e => e
def lamSc : Expr → Scope
  | .Lambda _ _ sc _ => sc
  | _ => { kind := .function, names := [], isGenerator := false, isCoroutine := false, more := [] }
abbrev qLam : Str := "where_unlike.<locals>.<lambda>"
/-- two flags, whether they are unlike -/
def spR : Sp := fun vs H Q _ => ∃ x y : Bool, vs = [.bl x, .bl y] ∧ Q (.bl (x != y)) H
abbrev unlW (c : Addr) : LW := ⟨lamAr lamE, lamBd lamE, lamSc lamE, qLam, c⟩
/-- the code object at c and nothing else -/
def cdO (c : Addr) (q : Str) : Addr → HO := fun b => if b = c then CodeO c q else .lst []
theorem cdO_at {H : Hp} {v : V} {c : Addr} {q : Str} (h : Dv H v (.obj (cdO c q))) : v = .ref c ∧ H c = some (CodeO c q) := by
  cases h with
  | @obj a _ h1 h2 =>
    unfold cdO at h1 h2
    by_cases e : a = c
    · subst e
      rw [if_pos rfl] at h1
      exact ⟨rfl, h1⟩
    · rw [if_neg e] at h2
      cases h2
theorem cdO_of {H : Hp} {c : Addr} {q : Str} (h : H c = some (CodeO c q)) : Dv H (.ref c) (.obj (cdO c q)) := by
  refine .obj ?_ ?_
  · unfold cdO
    rw [if_pos rfl]
    exact h
  · unfold cdO
    rw [if_pos rfl]
    rfl
section
variable {P : Program} {w : World} {K : PySem.W.Frag} {mg : Str → Option Value} {base : Heap} {L : Lay}
theorem scLam : NdefX.NScope ["mine", "its"] ["mine", "its"] [] (lamSc lamE) := NdefX.nscope_by (by decide +kernel)
theorem lam_bd : ∃ p1 p2 p3, lamBd lamE = .Compare (.Name "mine" p1) [.NotEq] [.Name "its" p2] p3 := ⟨_, _, _, rfl⟩
theorem bl_ne (x y : Bool) : (!decide (V.bl x = V.bl y)) = (x != y) := by rw [dec_bl]; rfl
theorem ok_lam {c f : Addr} {pm ctv : Value} {k : Nat} : FnOk P w K mg base CX0 (k + 1) f ((unlW c).fd pm ctv) ["mine", "its"] (spL (unlW c) pm ctv f spR) := by
  refine lam_ok (N := ["mine", "its"]) scLam (fun vs H Q E h => ?_) fun A outer s H vs Q E h => ?_
  · obtain ⟨x, y, rfl, _⟩ := h
    rfl
  · obtain ⟨x, y, rfl, h⟩ := h
    obtain ⟨p1, p2, p3, e⟩ := lam_bd
    refine ⟨tOp rNe (tVar 0) (tVar 1), ?_, _, rfl, _, rfl, rfl, ?_⟩
    · show PE _ (lamBd lamE) _
      rw [e]
      have h1 : Vis (lamSc lamE) "mine" := .inl (by decide +kernel)
      have h2 : Vis (lamSc lamE) "its" := .inl (by decide +kernel)
      exact pe_cmpR op_ne (pe_var (i := 0) rfl h1) (pe_var (i := 1) rfl h2) (nomark _)
    · rw [bl_ne]
      exact h
theorem lam_binds {c : Addr} {pm ctv : Value} : Binds K ((unlW c).fd pm ctv) ["mine", "its"] [] := Binds.all fun us hl => match us, hl with | [_, _], _ => rfl
end
section
variable {X : Cx} {L : Lay} {ρ : Rho} {a b : Expr} {p pos : Pos} {c : Addr} {pm ctv : Value} {k : Nat}
/-- rule(a, b) -/
theorem xe_rule {i j : Nat} {n : Str} {x y : Bool} (ha : XE X L a ρ (.d (.bl x))) (hb : XE X L b ρ (.d (.bl y))) (h2 : ρ[i]? = some (some (.d (.obj (LamO (unlW c) pm ctv))))) (h9 : ρ[j]? = some (some (.d (.obj (cdO c qLam)))))
    (hr : Room (k + 1) X.A) (hx : Passes CX0 X E0) (hN : X.N[i]? = some n) (hv : Vis X.env.scope n) (hd1 : (n == ("__debug__" : Str)) = false := by decide) (hd2 : (n == ("__classdict__" : Str)) = false := by decide)
    (he : starEach [a, b] X.env = (false, eval a X.env) :: starEach [b] X.env := by rfl) (he2 : starEach [b] X.env = (false, eval b X.env) :: starEach [] X.env := by rfl) (hpl : (backTo pos (starEach [b] X.env)).any (·.1) = false := by rfl) :
    XE X L (.Call (.Name n p) [a, b] [] pos) ρ (.d (.bl (x != y))) := fun gs H0 H σ Q E kk => by
  obtain ⟨v, s2, r2⟩ := E.slot i _ h2
  obtain ⟨v9, s9, r9⟩ := E.slot j _ h9
  have solid2 : ∀ f, solid (LamO (unlW c) pm ctv f) = true := fun _ => rfl
  cases r2 with
  | @obj f _ hf _ =>
    obtain ⟨rfl, hc⟩ := cdO_at r9
    intro pins s I
    refine (pe_callF (k := k + 1) (f := f) ok_lam hr hN hv lam_binds hx (pa_cons pe_sem (pa_cons pe_sem pa_nil he2) he) hd1 hd2 he hpl).run pins s σ H Q I ⟨s2, hf, ?_⟩
    refine ha gs H0 H σ _ E fun z1 w1 H1 q1 e1 g1 k1 => hb gs H0 H1 σ _ (E.step e1 g1) fun z2 w2 H2 q2 e2 g2 k2 => ?_
    subst q1 q2
    obtain rfl := rv_bl k1
    obtain rfl := rv_bl k2
    have tx := (e1.trans e2).tex E.good
    refine ⟨tx _ _ hf rfl, tx _ _ hc rfl, x, y, rfl, ?_⟩
    exact kk _ _ _ rfl (e1.trans e2) g2 (Dv.bl _)
end
section
variable {P : Program} {w : World} {K : PySem.W.Frag} {mg : Str → Option Value} {base : Heap} {L : Lay}
abbrev s_joined : Stmt := top 25
def spJoined (L : Lay) : Sp := fun vs H Q _ => ∃ (f : Bool) (es : List Int) (f' : Bool) (es' : List Int) (a b : V) (lf c : Addr) (pm ctv : Value), Asc es ∧ Asc es' ∧ es.length ≤ 30 ∧ es'.length ≤ 30 ∧ vs = [a, b, .ref lf] ∧ Dv H a (ln f es) ∧ Dv H b (ln f' es') ∧
  H lf = some (LamO (unlW c) pm ctv lf) ∧ H c = some (CodeO c qLam) ∧ Good L H ∧ ∀ r H', Step L H H' → Good L H' → Dv H' r (ln (f != f') (ulk f es f' es')) → Q r H'
theorem nvis : ¬ Vis (defScope s_joined) "?" := by
  rintro (z | z | z) <;> exact absurd z (by decide +kernel)
abbrev nJ : List Str := ["one", "other", "rule", "ticks", "edge", "first", "edges", "state", "tick", "now", "?"]
theorem ulk_len (f : Bool) (es : List Int) (f' : Bool) (es' : List Int) : ∀ (l : List Int) (s : List Int × Bool), (l.foldl (ulkStep f es f' es') s).1.length ≤ s.1.length + l.length
  | [], s => Nat.le_refl _
  | t :: l, s => by
    have h := ulk_len f es f' es' l (ulkStep f es f' es' s t)
    have h2 : (ulkStep f es f' es' s t).1.length ≤ s.1.length + 1 := by
      unfold ulkStep
      simp only
      split
      · exact Nat.le_succ _
      · rw [List.length_append]; exact Nat.le_refl _
    simp only [List.length_cons, List.foldl_cons]
    omega
theorem uniT_len (es es' : List Int) : (uniT es es').length ≤ es.length + es'.length := by
  have one : ∀ x l, (insU x l).length ≤ l.length + 1 := by
    intro x l
    induction l with
    | nil => exact Nat.le_refl _
    | cons y l ih =>
      unfold insU
      split
      · exact Nat.le_refl _
      · split
        · exact Nat.le_succ _
        · rw [List.length_cons, List.length_cons]; omega
  unfold uniT
  rw [← List.length_append]
  generalize es ++ es' = l
  induction l with
  | nil => exact Nat.le_refl _
  | cons x l ih =>
    rw [List.foldr_cons, List.length_cons]
    exact Nat.le_trans (one x _) (Nat.succ_le_succ ih)
theorem joined_body {f : Bool} {es : List Int} {f' : Bool} {es' : List Int} {c : Addr} {pm ctv : Value} {fa : Addr} (B : Bi mg) (c_state_at : Cal P w K mg base 2 "state_at" ["line", "tick"] (spG L gStateAt)) (cdv : Value) (A : Around) (outer : List PySem.Env) (s : Shared) (H : Hp) (E : XK)
    (hr : Room 3 (A.deeper (PyProof.Rows.envOfC "joined" (defScope s_joined) s.heap.objs.size fa cdv))) (h : Asc es) (h' : Asc es') (hl : es.length ≤ 30) (hl' : es'.length ≤ 30) :
    XSs (cxOf CX0 P w K mg base nJ "joined" (defScope s_joined) fa cdv A outer s H E).nox L (defBody s_joined)
      [some (.d (ln f es)), some (.d (ln f' es')), some (.d (.obj (LamO (unlW c) pm ctv))), none, none, none, none, none, none, none, some (.d (.obj (cdO c qLam)))]
      { nx := fun _ => False, rt := fun z => z = .d (ln (f != f') (ulk f es f' es')) } := by
  have nd : nJ.Nodup := by decide +kernel
  have hu := uniT_len es es'
  refine xs_setRo (i := 3) (xe_sortedU (xe_dcT (n := 4) (own := [("edge", 4)]) ((xe_catT (xe_ixT (ds := [.bl f, lnE es]) (xv 0) xe_int rfl) (xe_ixT (ds := [.bl f', lnE es']) (xv 1) xe_int rfl) (by rw [List.length_map, List.length_map]; omega)).is (by rw [List.map_append])) (blkOk_by (N := nJ) (sc := defScope s_joined) (by decide +kernel)) (fun _ _ _ _ _ => pg_name (i := 4) nd rfl (Or.inl rfl)) (by decide) (fun _ _ _ _ _ m => xv 4) (fun _ _ _ _ _ m => xe_bl) (by rw [List.length_append]; omega)) (by omega) B.sorted) ?_
  refine xs_set (i := 5) (xe_rule (i := 2) (j := 10) (k := 1) (xe_ixT (ds := [.bl f, lnE es]) (xv 0) xe_int rfl) (xe_ixT (ds := [.bl f', lnE es']) (xv 1) xe_int rfl) rfl rfl (hr.mono (by decide)) pass0 rfl (Or.inl rfl)) ?_
  refine xs_set (i := 6) (xe_lst (ds := []) xa_nil) (xs_set (i := 7) (xv 5) ?_)
  refine xs_for (xi_var (i := 3) rfl) (pg_name (i := 8) nd rfl (Or.inl rfl)) (fun ds i ρ' => ∃ x8 x9, ρ' = [some (.d (ln f es)), some (.d (ln f' es')), some (.d (.obj (LamO (unlW c) pm ctv))), some (.ro ((uniT es es').map .int)), none, some (.d (.bl (f != f'))), some (.own ((((uniT es es').take i).foldl (ulkStep f es f' es') ([], f != f')).1.map .int)), some (.d (.bl (((uniT es es').take i).foldl (ulkStep f es f' es') ([], f != f')).2)), x8, x9, some (.d (.obj (cdO c qLam)))]) ?_ ?_ ?_
  · rintro ds rfl
    exact ⟨none, none, rfl⟩
  · rintro ds i d ρ1 rfl hd ⟨x8, x9, rfl⟩
    rw [List.getElem?_map] at hd
    cases hg : (uniT es es')[i]? with
    | none => rw [hg] at hd; cases hd
    | some t =>
      rw [hg] at hd
      cases hd
      have tk1 := take_snoc hg
      have hlen := ulk_len f es f' es' ((uniT es es').take i) ([], f != f')
      rw [List.length_take] at hlen
      rw [tk1, List.foldl_append]
      generalize ((uniT es es').take i).foldl (ulkStep f es f' es') ([], f != f') = st at hlen ⊢
      obtain ⟨gs, st⟩ := st
      have hlen2 : gs.length ≤ 0 + min i (uniT es es').length := hlen
      refine ⟨_, evg_name, xs_set (i := 9) (xe_rule (i := 2) (j := 10) (k := 1) (xe_call c_state_at (hr.mono (by decide)) (xa_cons (xv 0) (xa_cons (xv 8) xa_nil)) (gStateAt.mk f es t h (by omega))) (xe_call c_state_at (hr.mono (by decide)) (xa_cons (xv 1) (xa_cons (xv 8) xa_nil)) (gStateAt.mk f' es' t h' (by omega))) rfl rfl (hr.mono (by decide)) pass0 rfl (Or.inl rfl)) ?_⟩
      refine xs_if (xt_ne (xv 9) (xv 7) (.bl _ _)) (fun z => ?_) (fun z => ?_)
      · have e : ulkStep f es f' es' (gs, st) t = (gs ++ [t], (stb f (cnt es t) != stb f' (cnt es' t))) := by
          unfold ulkStep
          exact if_neg (by simpa using z)
        refine xs_append (i := 6) (d := .int t) rfl (xv 8) (by rw [List.length_map]; show gs.length < 100000; omega) (xs_set (i := 7) (xv 9) (xs_nil (xs_nil ⟨some (.d (.int t)), some (.d (.bl (stb f (cnt es t) != stb f' (cnt es' t)))), ?_⟩)))
        show _ = _
        simp only [List.foldl_cons, List.foldl_nil]
        rw [e, List.map_append]
        rfl
      · have e : ulkStep f es f' es' (gs, st) t = (gs, st) := by
          unfold ulkStep
          exact if_pos (by simpa using z)
        refine xs_nil (xs_nil ⟨some (.d (.int t)), some (.d (.bl (stb f (cnt es t) != stb f' (cnt es' t)))), ?_⟩)
        show _ = _
        simp only [List.foldl_cons, List.foldl_nil]
        rw [e]
        rfl
  · rintro ds ρ1 rfl ⟨x8, x9, rfl⟩
    rw [List.length_map]
    rw [List.take_length]
    exact xs_retE (xe_tup (ds := [.bl (f != f'), lnE (ulk f es f' es')]) (xa_cons (xv 5) (xa_cons (XE.fz 6 (xe_tupleL (xv 6) B.tuple)) xa_nil))) rfl
theorem ok_joined {f : Addr} {fd : FuncData} (F : Fun K "joined" "joined" s_joined f fd) (B : Bi mg) (c_state_at : Cal P w K mg base 2 "state_at" ["line", "tick"] (spG L gStateAt)) : FnOk P w K mg base CX0 4 f fd ["one", "other", "rule"] (spJoined L) := by
  refine F.ok (N := nJ) ⟨rfl, rfl, rfl, by decide +kernel, rfl, by decide +kernel, by decide +kernel⟩ (fun vs H Q E h => ?_) (fun cdv A outer s H vs Q E hr h => ?_)
  · obtain ⟨_, _, _, _, _, _, _, _, _, _, _, _, _, _, rfl, _⟩ := h
    rfl
  · obtain ⟨f1, es, f2, es', a, b, lf, c, pm, ctv, h1, h2, l1, l2, rfl, d1, d2, d3, d4, gd, k⟩ := h
    refine ⟨_, pss_sem, sem_hide (i := 10) (x := "?") (v := .ref c) rfl ?_ ?_⟩
    · exact nvis
    · have E0 : En L ⟨[], []⟩ H H (L2.start nJ [a, b, .ref lf]) (ini [.d (ln f1 es), .d (ln f2 es'), .d (.obj (LamO (unlW c) pm ctv))] nJ.length) :=
        en_ini gd (.cons d1 (.cons d2 (.cons (Dv.obj d3 rfl) .nil))) rfl (Nat.le_of_ble_eq_true rfl)
      have E1 := E0.setd 10 (cdO_of d4)
      exact joined_body B c_state_at cdv A outer s H E hr h1 h2 l1 l2 ⟨[], []⟩ H H _ _ E1 ⟨fun _ _ _ z _ => z.elim, fun r v H' z e g rv => k v H' e g (by subst z; exact rv), fun _ _ _ z _ => z.elim, fun _ _ _ z _ => z.elim⟩
end
end Pg
-- Jn3
/-! Jn3: where_unlike. -/
namespace Pg
open PySem L2 Dl Mx Hr Lm LamX
section
variable {P : Program} {w : World} {K : PySem.W.Frag} {mg : Str → Option Value} {base : Heap} {L : Lay}
/-- a def whose code object is known -/
structure FunC (K : PySem.W.Frag) (x qual : Str) (st : Stmt) (f : Addr) (fd : FuncData) (c : Addr) : Prop where
  ex : ∃ (oc : Value) (od : Option Addr) (dV kV doc pm : Value) (an : Option Addr) (ct : Value) (osl : Array (Option Value)),
    fd = PySem.W.fnOf x qual (defArgs st) (defBody st) (defScope st) dV kV doc pm an (.ref c) ct ∧ K.lookup f = some ⟨oc, od, .func fd, osl⟩ ∧ PySem.W.codeIn K (.ref c) qual = true
abbrev s_where_unlike : Stmt := top 26
theorem ok_where_unlike {f c P0 fJ : Addr} {fd fdJ : FuncData} (F : FunC K "where_unlike" "where_unlike" s_where_unlike f fd c) (B : Bi mg) (GJ : FnOk P w K mg base CX0 4 fJ fdJ ["one", "other", "rule"] (spJoined L)) (mJ : mg "joined" = some (.ref fJ)) (kJ : PySem.W.keepIn K (.ref fJ) = true) (bJ : Binds K fdJ ["one", "other", "rule"] [])
    (TB : TabB base mg c P0) (hL : L.T = [(P0, qLam)]) : FnOk P w K mg base CX0 5 f fd ["one", "other"] (spG L gWhereUnlike) := by
  obtain ⟨oc, od, dV, kV, doc, pm, an, ct, osl, rfl, lk, hcd⟩ := F.ex
  refine fn_of (N := ["one", "other"]) lk hcd ⟨rfl, rfl, rfl, by decide +kernel, rfl, by decide +kernel, by decide +kernel⟩ (fun vs H Q E h => ?_) (fun A outer s H vs Q E hr h => ?_)
  · obtain ⟨rs, Pq, pre, _, _, rv, _⟩ := h
    rw [paired_len rv]
    cases pre
    rfl
  · obtain ⟨rs, Pq, pre, no, g, rv, kq⟩ := h
    cases pre with
    | mk f es f' es' h h' hl hl' =>
      obtain ⟨va, vb, rfl, ra, rb⟩ := rvs2 rv
      have hT : L.T = [(P0, qLam)] := hL
      have pl : ∀ {X : Cx} {ar bd sc pos}, TabB X.base X.mg c P0 → X.env.code = .ref c → qLam = X.env.qual ++ "<lambda>" → defaultsOf ar X.env = ([], []) → closureFor sc X.env = pure [] → PE X (.Lambda ar bd sc pos) (tLamV [(P0, qLam)] fun c1 => ⟨ar, bd, sc, qLam, c1⟩) := fun h1 h2 h3 h4 h5 =>
        pe_lamV h1 h2 h3 (List.mem_singleton.mpr rfl) (fun p hp _ => by rw [List.mem_singleton.mp hp]) h4 h5
      refine ⟨_, pss_cons (ps_ret (pe_call GJ hr (by rfl) mJ kJ bJ .nil pass0 (pa_cons (pv 0) (pa_cons (pv 1) (pa_cons (pl TB rfl (by rfl) (by rfl) (by rfl)) pa_nil))))) pss_never, ?_⟩
      refine ⟨_, rfl, _, rfl, by rw [← hT]; exact g.tb, fun lf c1 pm ctv H1 born => ?_⟩
      obtain ⟨b1, b2, b3, b4, b5⟩ := born
      have st : Step L H H1 := ⟨fun b o e n _ => b1 b o e n, b2⟩
      have gd : Good L H1 := ⟨by rw [hL]; exact b3, fun q hq => by
        obtain ⟨ns, pos, rest, mx, cnt, t1, t2, t3⟩ := g.tape q hq
        exact ⟨ns, pos, rest, mx, cnt, b1 _ _ t1 (fun ps z => by cases z), b1 _ _ t2 (fun ps z => by cases z), t3⟩⟩
      have tx := st.tex g
      refine ⟨f, es, f', es', va, vb, lf, c1, pm, ctv, h, h', hl, hl', rfl, Dv.mono tx _ _ ra, Dv.mono tx _ _ rb, b4, b5, gd, fun r H2 e2 g2 d2 => ?_⟩
      exact kq (.d (ln (f != f') (ulk f es f' es'))) r H2 rfl (st.trans e2) g2 d2
end
end Pg
-- Cm1
/-! Cm1: the fields of a climb. -/
namespace Cm
open PySem L2
def cf (a b c : Int) (r : Addr) : List (Str × V) := [("lead", .int a), ("high", .int b), ("deep", .int c), ("runs", .ref r)]
theorem n_lh : ¬ ("lead" : Str) = "high" := by decide +kernel
theorem n_ld : ¬ ("lead" : Str) = "deep" := by decide +kernel
theorem n_lr : ¬ ("lead" : Str) = "runs" := by decide +kernel
theorem n_hd : ¬ ("high" : Str) = "deep" := by decide +kernel
theorem n_hr : ¬ ("high" : Str) = "runs" := by decide +kernel
theorem n_dr : ¬ ("deep" : Str) = "runs" := by decide +kernel
theorem put_new (a b c : Int) (r : Addr) : putF "runs" (.ref r) (putF "deep" (.int c) (putF "high" (.int b) (putF "lead" (.int a) []))) = cf a b c r := by
  simp only [putF, n_lh, n_ld, n_lr, n_hd, n_hr, n_dr, if_false]
  rfl
theorem put_lead (a b c x : Int) (r : Addr) : putF "lead" (.int x) (cf a b c r) = cf x b c r := by
  unfold cf
  simp only [putF, if_true]
theorem put_high (a b c x : Int) (r : Addr) : putF "high" (.int x) (cf a b c r) = cf a x c r := by
  unfold cf
  simp only [putF, n_lh, if_false, if_true]
theorem put_deep (a b c x : Int) (r : Addr) : putF "deep" (.int x) (cf a b c r) = cf a b x r := by
  unfold cf
  simp only [putF, n_ld, n_hd, if_false, if_true]
theorem get_lead (a b c : Int) (r : Addr) : (cf a b c r).lookup ("lead" : Str) = some (.int a) := by
  unfold cf
  rw [List.lookup_cons, beq_self_eq_true]
theorem bne {x y : Str} (h : ¬ x = y) : (x == y) = false := beq_eq_false_iff_ne.mpr h
theorem get_high (a b c : Int) (r : Addr) : (cf a b c r).lookup ("high" : Str) = some (.int b) := by
  unfold cf
  rw [List.lookup_cons, bne (fun z => n_lh z.symm), List.lookup_cons, beq_self_eq_true]
theorem get_deep (a b c : Int) (r : Addr) : (cf a b c r).lookup ("deep" : Str) = some (.int c) := by
  unfold cf
  rw [List.lookup_cons, bne (fun z => n_ld z.symm), List.lookup_cons, bne (fun z => n_hd z.symm), List.lookup_cons, beq_self_eq_true]
theorem get_runs (a b c : Int) (r : Addr) : (cf a b c r).lookup ("runs" : Str) = some (.ref r) := by
  unfold cf
  rw [List.lookup_cons, bne (fun z => n_lr z.symm), List.lookup_cons, bne (fun z => n_hr z.symm), List.lookup_cons, bne (fun z => n_dr z.symm), List.lookup_cons, beq_self_eq_true]
theorem get_no (a b c : Int) (r : Addr) {m : Str} (h1 : ¬ m = "lead") (h2 : ¬ m = "high") (h3 : ¬ m = "deep") (h4 : ¬ m = "runs") : (cf a b c r).lookup m = none := by
  unfold cf
  rw [List.lookup_cons, bne h1, List.lookup_cons, bne h2, List.lookup_cons, bne h3, List.lookup_cons, bne h4]
  rfl
end Cm
-- Cm2
/-! Cm2: fields read and written, at one heap. -/
namespace Tp
open PySem L2 PyProof.Rows
section
variable {X : Cx} {σ : L2.St} {H : Hp} {e o a b : Expr} {v : V} {D : Ends} {rest : List Stmt} {f : Str} {p pos pos' : Pos} {q C dx : Addr} {fs : List (Str × V)} {i j : Int}
theorem ve_fld (he : VE X σ H e (.ref q)) (h : H q = some (.ins C dx fs)) (hc : Cls X.K C) (hn : NoAttr X.K C f) (hl : fs.lookup f = some v) (hb : attributeBase e f X.env (eval e X.env) = eval e X.env := by rfl) : VE X σ H (.Attribute e f pos) v :=
  ve_of (pe_fld Dl.pe_sem hb) fun H1 e1 Q k => he H1 e1 _ fun H2 e2 => ⟨q, C, dx, fs, v, rfl, e2 _ _ (e1 _ _ h), hc, hn, hl, k H2 e2⟩
theorem vs_fld (he : VE X σ H e v) (ho : VE X σ H o (.ref q)) (h : H q = some (.ins C dx fs)) (hc : Cls X.K C) (hn : NoAttr X.K C f) (hl : fs.length < 1000) (k : ∀ H1, Evl.Ex H H1 → VS X D rest σ (upd H1 q (.ins C dx (putF f v fs))))
    (hs : swapsWith e (some (.Attribute o f pos')) pos.line X.env = pure false := by rfl) : VS X D (.Assign [.Attribute o f pos'] e pos :: rest) σ H :=
  vs_of (pss_cons (ps_fld Dl.pe_sem Dl.pe_sem hs) Dl.pss_sem) (he H (Evl.Ex.refl H) _ fun H1 e1 => ho H1 e1 _ fun H2 e2 => ⟨q, C, dx, fs, rfl, e2 _ _ (e1 _ _ h), hc, hn, hl, k H2 (e1.trans e2)⟩)
theorem ve_sub (ha : VE X σ H a (.int i)) (hb : VE X σ H b (.int j)) : VE X σ H (.BinOp a .Sub b pos) (.int (i - j)) := ve_of (pe_op op_sub Dl.pe_sem Dl.pe_sem) (Evl.ev_op ha hb Evl.rv_I0)
theorem ve_neg (ha : VE X σ H a (.int i)) : VE X σ H (.UnaryOp .USub a pos) (.int (-i)) := ve_of (pe_un un_neg Dl.pe_sem) (Evl.ev_un ha Evl.ru_neg)
theorem ve_ixT {t : Addr} {xs : List V} (ha : VE X σ H a (.ref t)) (hb : VE X σ H b (.int i)) (h : H t = some (.tup xs)) (hi : atI xs i = some v) (hs : PlainIx b := by exact fun _ _ => rfl) : VE X σ H (.Subscript a b pos) v := ve_of (pe_ix ix_tup Dl.pe_sem Dl.pe_sem hs) (Evl.ev_op ha hb (Evl.rv_ixT (Evl.st_of h) hi))
theorem vt_eqS {x y : Str} (ha : VE X σ H a (.str x)) (hb : VE X σ H b (.str y)) : VT X σ H (.Compare a [.Eq] [b] pos) (decide (V.str x = V.str y)) := vt_of (pt_cmpR op_eq Dl.pe_sem Dl.pe_sem (nomark _)) (Evl.et_test (Evl.ev_op ha hb (Evl.rv_eq rfl)))
end
end Tp
-- Cm3
/-! Cm3: more raw rules: new tuples stored and appended, and, if. -/
namespace Tp
open PySem L2 PyProof.Rows
abbrev VU (X : Cx) (σ : L2.St) (H : Hp) (e : Expr) (xs : List V) : Prop := Evl.EvU (Dl.semE X e) σ H xs
section
variable {X : Cx} {σ : L2.St} {H : Hp} {e o a b : Expr} {v : V} {D : Ends} {rest A B : List Stmt} {p pos pos' : Pos} {q l : Addr} {xs ys : List V} {i j : Int} {c d : Bool} {es : List Expr}
theorem va_nil : Evl.EvA (Dl.semA X []) σ H [] := fun H1 _ Q q pos pins s I => pa_nil.run pos pins s σ H1 Q I (q H1 (Evl.Ex.refl H1))
theorem va_cons {vs : List V} (ha : VE X σ H a v) (hr : Evl.EvA (Dl.semA X es) σ H vs) (hs : starEach (a :: es) X.env = (false, eval a X.env) :: starEach es X.env := by rfl) : Evl.EvA (Dl.semA X (a :: es)) σ H (v :: vs) := fun H1 e1 Q q pos pins s I =>
  (pa_cons Dl.pe_sem Dl.pa_sem hs).run pos pins s σ H1 Q I (Evl.ea_cons ha hr H1 e1 Q q)
theorem vu_tup {k : Nat} {vs : List V} (h : Evl.EvA (Dl.semA X es) σ H vs) (hl : vs.length ≤ 100000) (hpe : PE X (.Tuple es k pos) (tTup (Dl.semA X es))) : VU X σ H (.Tuple es k pos) vs := fun H1 e1 Q q pins s I =>
  hpe.run pins s σ H1 Q I (Evl.eu_tup h hl H1 e1 Q q)
theorem vt_and (ha : VT X σ H a c) (hb : c = true → VT X σ H b d) : VT X σ H (.BoolOp .And [a, b] pos) (c && d) := vt_of (PW.pt (pw_and Dl.pt_sem (pw_and1 Dl.pt_sem))) (Evl.et_and ha hb)
theorem vs_if (hc : VT X σ H e c) (hA : c = true → ∀ H1, Evl.Ex H H1 → VS X { D with nx := fun σ' H' => VS X D rest σ' H' } A σ H1) (hB : c = false → ∀ H1, Evl.Ex H H1 → VS X { D with nx := fun σ' H' => VS X D rest σ' H' } B σ H1) : VS X D (.If e A B pos :: rest) σ H := by
  cases c with
  | true => exact vs_of (pss_cons (ps_if Dl.pt_sem Dl.pss_sem pss_never) Dl.pss_sem) (Evl.q_if hc (fun _ H1 e1 => hA rfl H1 e1) (fun z => by cases z))
  | false => exact vs_of (pss_cons (ps_if Dl.pt_sem pss_never Dl.pss_sem) Dl.pss_sem) (Evl.q_if hc (fun z => by cases z) (fun _ H1 e1 => hB rfl H1 e1))
/-- l[-1] = a new tuple -/
theorem vs_putU (hl : H l = some (.lst ys)) (he : VU X σ H e xs) (ho : ∀ H1, Evl.Ex H H1 → VE X σ H1 a (.ref l)) (hi : ∀ H1, Evl.Ex H H1 → VE X σ H1 b (.int i)) {n : Nat} (hn : ixN ys.length i = some n) (k : ∀ t H1, H t = none → Evl.Ex H H1 → H1 t = some (.tup xs) → VS X D rest σ (upd H1 l (.lst (ys.set n (.ref t)))))
    (hps : PS X (.Assign [.Subscript a b pos'] e pos) (tAsg (Dl.semE X e) (gSub (Dl.semE X a) (Dl.semE X b) rSetL)) := by exact ps_asg Dl.pe_sem (pg_sub Dl.pe_sem Dl.pe_sem set_list)) : VS X D (.Assign [.Subscript a b pos'] e pos :: rest) σ H :=
  vs_of (pss_cons hps Dl.pss_sem) (he H (Evl.Ex.refl H) _ fun t H1 ht e1 h1 => ho H1 e1 H1 (Evl.Ex.refl H1) _ fun H2 e2 => hi H2 (e1.trans e2) H2 (Evl.Ex.refl H2) _ fun H3 e3 =>
    ⟨l, ys, i, n, rfl, rfl, e3 _ _ (e2 _ _ (e1 _ _ hl)), hn, k t H3 ht ((e1.trans e2).trans e3) (e3 _ _ (e2 _ _ h1))⟩)
/-- o.append(a new tuple) -/
theorem vs_appU {p1 p2 : Pos} (hl : H l = some (.lst ys)) (ho : VE X σ H o (.ref l)) (he : VU X σ H e xs) (hz : ys.length < 100000) (k : ∀ t H1, H t = none → Evl.Ex H H1 → H1 t = some (.tup xs) → VS X D rest σ (upd H1 l (.lst (ys ++ [.ref t]))))
    (hb : PS X (.Expr (.Call (.Attribute o "append" p1) [e] [] p2) pos) (tDrop (tBM X.K "list" rAppend (Dl.semE X o) (tCons (Dl.semE X e) tNil)))) : VS X D (.Expr (.Call (.Attribute o "append" p1) [e] [] p2) pos :: rest) σ H :=
  vs_of (pss_cons hb Dl.pss_sem) (Evl.q_appU hl ho he hz k)
end
end Tp
-- Cm4
/-! Cm4: a climb at its place; __init__. -/
namespace Cm
open PySem L2 Dl Mx Tp Pg
abbrev s_init : Stmt := inClass (top 41) 0
abbrev s_note : Stmt := inClass (top 41) 1
abbrev s_go_to : Stmt := inClass (top 41) 2
/-- behind H0 (all kept) a climb stands at p -/
structure ClAt (L : Lay) (C : Addr) (H0 H : Hp) (p : Addr) (c : Cl) : Prop where
  st : Step L H0 H
  gd : Good L H
  p0 : H0 p = none
  ex : ∃ dx r vs, H0 r = none ∧ ¬ L.resv r ∧ H p = some (.ins C dx (cf c.lead c.high c.deep r)) ∧ H r = some (.lst vs) ∧ DvA H vs (c.runs.map rgD)
structure Txt (K : PySem.W.Frag) (_mg : Str → Option Value) (C : Addr) : Prop where
  cl : Cls K C
  nL : NoAttr K C "lead"
  nH : NoAttr K C "high"
  nD : NoAttr K C "deep"
  nR : NoAttr K C "runs"
/-- an instance is written -/
theorem good_ins {L : Lay} {H : Hp} {p C dx : Addr} {fs : List (Str × V)} {o : HO} (g : Good L H) (h : H p = some (.ins C dx fs)) : Good L (upd H p o) := by
  refine ⟨fun q hq => ?_, fun q hq => ?_⟩
  · obtain ⟨ps, h1, h2, h3⟩ := g.tb q hq
    have n1 : q.1 ≠ p := fun z => by rw [z, h] at h1; cases h1
    refine ⟨ps, by rw [upd_ne n1]; exact h1, h2, fun pos cv hc => ?_⟩
    obtain ⟨c, e1, e2⟩ := h3 _ _ hc
    refine ⟨c, e1, ?_⟩
    have n2 : c ≠ p := fun z => by
      rw [z, h] at e2
      unfold LamX.CodeO at e2
      cases e2
    rw [upd_ne n2]
    exact e2
  · obtain ⟨ns, pos, rest, mx, cnt, h1, h2, h3⟩ := g.tape q hq
    have n1 : q.1 ≠ p := fun z => by rw [z, h] at h1; cases h1
    have n2 : q.2 ≠ p := fun z => by rw [z, h] at h2; cases h2
    exact ⟨ns, pos, rest, mx, cnt, by rw [upd_ne n1]; exact h1, by rw [upd_ne n2]; exact h2, h3⟩
/-- what stood before stays, if a place that was free then is written -/
theorem step_upd {L : Lay} {H0 H : Hp} {p : Addr} {o : HO} (s : Step L H0 H) (h : H0 p = none) : Step L H0 (upd H p o) := by
  refine ⟨fun b u e n t => ?_, fun b e => ?_⟩
  · have nb : b ≠ p := fun z => by rw [z, h] at e; cases e
    rw [upd_ne nb]
    exact s.keep b u e n t
  · by_cases hb : b = p
    · rw [hb]; exact h
    · rw [upd_ne hb] at e; exact s.free b e
theorem tex_upd {H : Hp} {p : Addr} {o u : HO} (h : H p = some u) (hs : solid u = false) : TEx H (upd H p o) := fun a v e so => by
  have n : a ≠ p := fun z => by
    rw [z, h] at e
    cases e
    rw [hs] at so
    cases so
  rw [upd_ne n]
  exact e
theorem ClAt.ext {L : Lay} {C : Addr} {H0 H H' : Hp} {p : Addr} {c : Cl} (h : ClAt L C H0 H p c) (e : Evl.Ex H H') : ClAt L C H0 H' p c := by
  obtain ⟨dx, r, vs, r0, rv, h1, h2, h3⟩ := h.ex
  exact ⟨h.st.trans (Step.of e), h.gd.ext e, h.p0, dx, r, vs, r0, rv, e _ _ h1, e _ _ h2, DvA.mono ((Step.of (L := L) e).tex h.gd) _ _ h3⟩
/-- a field of ints is written -/
theorem ClAt.fld {L : Lay} {C : Addr} {H0 H : Hp} {p : Addr} {c c' : Cl} {dx r : Addr} {vs : List V} {fs : List (Str × V)} (h : ClAt L C H0 H p c) (r0 : H0 r = none) (rv : ¬ L.resv r) (h1 : H p = some (.ins C dx (cf c.lead c.high c.deep r))) (h2 : H r = some (.lst vs)) (h3 : DvA H vs (c.runs.map rgD))
    (hf : fs = cf c'.lead c'.high c'.deep r) (hr : c'.runs = c.runs) : ClAt L C H0 (upd H p (.ins C dx fs)) p c' := by
  have nrp : r ≠ p := fun z => by rw [z, h1] at h2; cases h2
  refine ⟨step_upd h.st h.p0, good_ins h.gd h1, h.p0, dx, r, vs, r0, rv, by rw [upd_same, hf], by rw [upd_ne nrp]; exact h2, ?_⟩
  rw [hr]
  exact DvA.mono (tex_upd h1 rfl) _ _ h3
end Cm
-- Cm5
/-! Cm5: Climb.__init__. -/
namespace Tp
open PySem L2 PyProof.Rows
section
variable {X : Cx} {σ : L2.St} {H : Hp} {o : Expr} {D : Ends} {rest : List Stmt} {f : Str} {pos pos' p1 : Pos} {q C dx : Addr} {fs : List (Str × V)}
/-- o.f = [] -/
theorem vs_fldN (ho : ∀ H1, Evl.Ex H H1 → VE X σ H1 o (.ref q)) (h : H q = some (.ins C dx fs)) (hc : Cls X.K C) (hn : NoAttr X.K C f) (hl : fs.length < 1000) (k : ∀ r H1, H r = none → Evl.Ex H H1 → H1 r = some (.lst []) → VS X D rest σ (upd H1 q (.ins C dx (putF f (.ref r) fs))))
    (hs : swapsWith (.List [] p1) (some (.Attribute o f pos')) pos.line X.env = pure false := by rfl) : VS X D (.Assign [.Attribute o f pos'] (.List [] p1) pos :: rest) σ H :=
  vs_of (pss_cons (ps_fld Dl.pe_sem (pe_lst pa_nil) hs) Dl.pss_sem) (by
    unfold tSeq sFld
    exact (Evl.el_lst Evl.ea_nil (Nat.zero_le _) : Evl.EvL (tLst tNil) σ H []) H (Evl.Ex.refl H) _ fun r H1 hr e1 h1 => ho H1 e1 H1 (Evl.Ex.refl H1) _ fun H2 e2 => ⟨q, C, dx, fs, rfl, e2 _ _ (e1 _ _ h), hc, hn, hl, k r H2 hr (e1.trans e2) (e2 _ _ h1)⟩)
end
end Tp
namespace Cm
open PySem L2 Dl Mx Tp Pg
section
variable {P : Program} {w : World} {K : PySem.W.Frag} {mg : Str → Option Value} {base : Heap} {L : Lay}
def spInit (L : Lay) (C : Addr) : Sp := fun vs H Q _ => ∃ (H0 : Hp) (p dx : Addr), vs = [.ref p] ∧ Step L H0 H ∧ Good L H ∧ H0 p = none ∧ H p = some (.ins C dx []) ∧ ∀ H' : Hp, ClAt L C H0 H' p ⟨0, 0, 0, []⟩ → Q .non H'
theorem scI : FnScope ["self"] ["self"] (defScope s_init) := ⟨rfl, rfl, rfl, by decide +kernel, rfl, by decide +kernel, by decide +kernel⟩
theorem ok_init {f C : Addr} {fd : FuncData} (F : Fun K "__init__" "Climb.__init__" s_init f fd) (T : Txt K mg C) : FnOk P w K mg base CX0 1 f fd ["self"] (spInit L C) := by
  refine F.ok scI (fun vs H Q E ⟨_, _, _, ev, _⟩ => ?_) (fun cdv A outer s H vs Q E hr h => ?_)
  · rw [ev]
    rfl
  · obtain ⟨H0, p, dx, rfl, st, gd, p0, hp, k⟩ := h
    refine ⟨_, pss_sem, ?_⟩
    show VS _ _ _ _ H
    have g : ∀ {H1 : Hp} {o : HO} {fs}, Step L H0 H1 ∧ Good L H1 → H1 p = some (.ins C dx fs) → Step L H0 (upd H1 p o) ∧ Good L (upd H1 p o) := fun h e => ⟨step_upd h.1 p0, good_ins h.2 e⟩
    have ex : ∀ {H1 H2 : Hp}, Step L H0 H1 ∧ Good L H1 → Evl.Ex H1 H2 → Step L H0 H2 ∧ Good L H2 := fun h e => ⟨h.1.trans (Step.of e), h.2.ext e⟩
    refine vs_fld ve_int (vv 0) hp T.cl T.nL (by show 0 < 1000; decide) fun H1 e1 => ?_
    have s1 := g (ex ⟨st, gd⟩ e1) (e1 _ _ hp) (o := .ins C dx (putF "lead" (.int 0) []))
    refine vs_fld ve_int (vv 0) upd_same T.cl T.nH (by show 1 < 1000; decide) fun H2 e2 => ?_
    have s2 := g (ex s1 e2) (e2 _ _ upd_same) (o := .ins C dx (putF "high" (.int 0) (putF "lead" (.int 0) [])))
    refine vs_fld ve_int (vv 0) upd_same T.cl T.nD (by show 2 < 1000; decide) fun H3 e3 => ?_
    have s3 := g (ex s2 e3) (e3 _ _ upd_same) (o := .ins C dx (putF "deep" (.int 0) (putF "high" (.int 0) (putF "lead" (.int 0) []))))
    refine vs_fldN (fun H4 e4 => vv 0) upd_same T.cl T.nR (by show 3 < 1000; decide) fun r H4 hr e4 h4 => ?_
    have q4 := e4 _ _ upd_same
    have s4 := g (ex s3 e4) q4 (o := .ins C dx (putF "runs" (.ref r) (putF "deep" (.int 0) (putF "high" (.int 0) (putF "lead" (.int 0) [])))))
    have nrp : r ≠ p := fun z => by rw [z, upd_same] at hr; cases hr
    refine vs_nil (k _ ⟨s4.1, s4.2, p0, dx, r, [], s3.1.free _ hr, s3.2.free hr, ?_, ?_, .nil⟩)
    · rw [upd_same, put_new]
    · rw [upd_ne nrp]; exact h4
end
end Cm
-- Cm6
/-! Cm6: Climb.note. -/
namespace Tp
open PySem L2
theorem et_and' {X : Cx} {σ : L2.St} {H : Hp} {a b : Expr} {pos : Pos} {c d : Bool} (ha : VT X σ H a c) (hc : c = true) (hb : VT X σ H b d) : VT X σ H (.BoolOp .And [a, b] pos) d := by
  subst hc
  exact vt_and ha (fun _ => hb)
end Tp
namespace Cm
open PySem L2 Dl Mx Tp Pg
theorem ClAt.ap {L : Lay} {C : Addr} {H0 H : Hp} {p dx r : Addr} {c : Cl} {vs us : List V} {l : Ld} (h : ClAt L C H0 H p c) (r0 : H0 r = none) (rv : ¬ L.resv r) (h1 : H p = some (.ins C dx (cf c.lead c.high c.deep r))) (h2 : H r = some (.lst vs)) (h3 : DvA H us (l.map rgD)) :
    ClAt L C H0 (upd H r (.lst us)) p { c with runs := l } := by
  have npr : p ≠ r := fun z => by rw [z, h2] at h1; cases h1
  exact ⟨step_upd h.st r0, h.gd.write h2 (.inl ⟨_, rfl⟩) rv, h.p0, dx, r, us, r0, rv, by rw [upd_ne npr]; exact h1, upd_same, DvA.mono (tex_upd h2 rfl) _ _ h3⟩
section
variable {P : Program} {w : World} {K : PySem.W.Frag} {mg : Str → Option Value} {base : Heap} {L : Lay}
def spNote (L : Lay) (C : Addr) : Sp := fun vs H Q _ => ∃ (H0 : Hp) (p : Addr) (c : Cl) (b : Bool) (n : Int), vs = [.ref p, .str (wd b), .int n] ∧ ClAt L C H0 H p c ∧ c.runs.length ≤ 1000 ∧ ∀ H' : Hp, ClAt L C H0 H' p { c with runs := noteLd c.runs b n } → Q .non H'
theorem scN : FnScope ["self", "word", "many"] ["self", "word", "many"] (defScope s_note) := ⟨rfl, rfl, rfl, by decide +kernel, rfl, by decide +kernel, by decide +kernel⟩
theorem ok_note {f C : Addr} {fd : FuncData} (F : Fun K "note" "Climb.note" s_note f fd) (T : Txt K mg C) (ml : mg "len" = none) : FnOk P w K mg base CX0 1 f fd ["self", "word", "many"] (spNote L C) := by
  refine F.ok scN (fun vs H Q E h => ?_) (fun cdv A outer s H vs Q E hr h => ?_)
  · obtain ⟨H0, p, c, b, n, rfl, _⟩ := h
    rfl
  · obtain ⟨H0, p, c, b, n, rfl, hc, hl, k⟩ := h
    obtain ⟨dx, r, vs, r0, rv, h1, h2, h3⟩ := id hc.ex
    have hlen := h3.length
    rw [List.length_map] at hlen
    refine ⟨_, pss_sem, ?_⟩
    show VS _ _ _ _ H
    have app : ∀ (H1 : Hp), Evl.Ex H H1 → noteLd c.runs b n = c.runs ++ [(b, n)] → ∀ t H2, H1 t = none → Evl.Ex H1 H2 → H2 t = some (.tup [.str (wd b), .int n]) → Q .non (upd H2 r (.lst (vs ++ [.ref t]))) := fun H1 e1 en t H2 ht e2 h4 => by
      have e12 := e1.trans e2
      have hc2 := hc.ext e12
      have d2 : DvA H2 (vs ++ [.ref t]) ((c.runs ++ [(b, n)]).map rgD) := by
        rw [List.map_append]
        exact (DvA.mono ((Step.of (L := L) e12).tex hc.gd) _ _ h3).append (.cons (.tup h4 (.cons (.str _) (.cons (.int _) .nil))) .nil)
      refine k _ ?_
      rw [en]
      exact hc2.ap r0 rv (e12 _ _ h1) (e12 _ _ h2) d2
    rcases List.eq_nil_or_concat c.runs with hR | ⟨l', ⟨b', m⟩, hR⟩
    · have v0 : vs = [] := by
        rw [hR] at h3
        cases h3
        rfl
      subst v0
      refine vs_if (c := false) (vt_and (c := false) (d := false) (vt_gt (ve_len (ve_fld (vv 0) h1 T.cl T.nR (get_runs _ _ _ _)) h2 ml) ve_int) (fun z => by cases z)) (fun z => by cases z) (fun _ H1 e1 => ?_)
      refine vs_appU (e1 _ _ h2) (ve_fld (vv 0) (e1 _ _ h1) T.cl T.nR (get_runs _ _ _ _)) (vu_tup (va_cons (vv 1) (va_cons (vv 2) va_nil)) (Nat.le_of_ble_eq_true rfl) (pe_tup Dl.pa_sem)) (by decide) (fun t H2 ht e2 h4 => vs_nil (vs_nil ?_)) (ps_expr (pe_bm PySem.F.plainAttrs_list PySem.F.slot_list_append PySem.F.type_list_append mt_append Dl.pe_sem (pa_cons Dl.pe_sem pa_nil)))
      exact app H1 e1 (by rw [hR]; rfl) t H2 ht e2 h4
    · rw [List.concat_eq_append] at hR
      -- the last pair
      obtain ⟨us, t0, hv, hd, hz⟩ : ∃ us t0, vs = us ++ [.ref t0] ∧ DvA H us (l'.map rgD) ∧ H t0 = some (.tup [.str (wd b'), .int m]) := by
        rcases List.eq_nil_or_concat vs with e | ⟨us, u, e⟩
        · rw [e, hR] at hlen
          simp at hlen
        · rw [List.concat_eq_append] at e
          have d1 : DvA H vs.dropLast (c.runs.map rgD).dropLast := h3.dropLast
          rw [hR, List.map_append, e, List.dropLast_concat] at d1
          have e4 : (l'.map rgD ++ [rgD (b', m)]).dropLast = l'.map rgD := List.dropLast_concat
          have d2 : DvA H us (l'.map rgD) := by
            have := d1
            rw [show List.map rgD [(b', m)] = [rgD (b', m)] from rfl, e4] at this
            exact this
          have ul : us.length = l'.length := by rw [d2.length, List.length_map]
          obtain ⟨d, g1, g2⟩ := h3.getv (i := us.length) (v := u) (by rw [e, List.getElem?_append_right (Nat.le_refl _), Nat.sub_self]; rfl)
          rw [hR, List.map_append, List.getElem?_append_right (by rw [List.length_map]; omega), List.length_map, ul, Nat.sub_self] at g1
          have g1 : some (rgD (b', m)) = some d := g1
          cases g1
          cases g2 with
          | tup k1 k2 => cases k2 with
            | cons q1 t => cases t with
              | cons q2 t =>
                cases t
                cases q1
                cases q2
                exact ⟨us, _, e, d2, k1⟩
      subst hv
      have lastI : atI (us ++ [V.ref t0]) (-1) = some (.ref t0) := atI_last _ _
      have fR : ∀ {H1 : Hp}, Evl.Ex H H1 → H1 p = some (.ins C dx (cf c.lead c.high c.deep r)) := fun e => e _ _ h1
      refine vs_if (c := decide (V.str (wd b') = V.str (wd b))) (et_and' (vt_gt (ve_len (ve_fld (vv 0) h1 T.cl T.nR (get_runs _ _ _ _)) h2 ml) ve_int) (by rw [List.length_append]; exact decide_eq_true (by simp)) (vt_eqS (ve_ixT (ve_ix (ve_fld (vv 0) h1 T.cl T.nR (get_runs _ _ _ _)) (ve_neg ve_int) h2 lastI) ve_int hz rfl) (vv 1))) (fun z H1 e1 => ?_) (fun z H1 e1 => ?_)
      · have eb : b' = b := by
          have q := of_decide_eq_true z
          injection q with q
          have := wd_beq b' b
          rw [decide_eq_true q] at this
          exact of_decide_eq_true this.symm
        subst eb
        have hz1 := e1 _ _ hz
        have h21 := e1 _ _ h2
        refine vs_putU (n := us.length) h21 (vu_tup (va_cons (vv 1) (va_cons (ve_add (ve_ixT (ve_ix (ve_fld (vv 0) (fR e1) T.cl T.nR (get_runs _ _ _ _)) (ve_neg ve_int) h21 lastI) ve_int hz1 rfl) (vv 2)) va_nil)) (Nat.le_of_ble_eq_true rfl) (pe_tup Dl.pa_sem)) (fun H2 e2 => ve_fld (vv 0) (fR (e1.trans e2)) T.cl T.nR (get_runs _ _ _ _)) (fun H2 e2 => ve_neg ve_int) ?_ (fun t H2 ht e2 h4 => vs_nil (vs_nil ?_))
        · unfold ixN
          rw [if_neg (by decide), if_pos (by rw [List.length_append]; simp; omega), List.length_append]
          congr 1
          simp
          try omega
        · have e12 := e1.trans e2
          have hc2 := hc.ext e12
          have es : (us ++ [V.ref t0]).set us.length (.ref t) = us ++ [.ref t] := by
            rw [List.set_append_right _ _ (Nat.le_refl _), Nat.sub_self]
            rfl
          rw [es]
          refine k _ ?_
          rw [hR, note_same]
          refine hc2.ap r0 rv (e12 _ _ h1) (e12 _ _ h2) ?_
          rw [List.map_append]
          exact (DvA.mono ((Step.of (L := L) e12).tex hc.gd) _ _ hd).append (.cons (.tup h4 (.cons (.str _) (.cons (.int _) .nil))) .nil)
      · have nb : b' ≠ b := fun e => by
          subst e
          exact of_decide_eq_false z rfl
        refine vs_appU (e1 _ _ h2) (ve_fld (vv 0) (fR e1) T.cl T.nR (get_runs _ _ _ _)) (vu_tup (va_cons (vv 1) (va_cons (vv 2) va_nil)) (Nat.le_of_ble_eq_true rfl) (pe_tup Dl.pa_sem)) (by omega) (fun t H2 ht e2 h4 => vs_nil (vs_nil ?_)) (ps_expr (pe_bm PySem.F.plainAttrs_list PySem.F.slot_list_append PySem.F.type_list_append mt_append Dl.pe_sem (pa_cons Dl.pe_sem pa_nil)))
        exact app H1 e1 (by rw [hR, note_other _ _ _ _ _ nb]) t H2 ht e2 h4
end
end Cm
-- Cm7
/-! Cm7: Climb.go_to. -/
namespace Tp
open PySem L2 PyProof.Rows
section
variable {X : Cx} {σ : L2.St} {H : Hp} {o e : Expr} {es : List Expr} {D : Ends} {rest : List Stmt} {m : Str} {pos pos' apos : Pos} {q C dx f : Addr} {fs : List (Str × V)} {vs : List V} {sp : Sp} {fd : FuncData} {ps : List Str} {k : Nat}
theorem vs_meth (ho : VE X σ H o (.ref q)) (h : H q = some (.ins C dx fs)) (hl : fs.lookup m = none) (ha : ∀ H1, Evl.Ex H H1 → Evl.EvA (Dl.semA X (e :: es)) σ H1 vs) (kk : ∀ H1, Evl.Ex H H1 → sp (.ref q :: (vs ++ [])) H1 (fun _ H2 => VS X D rest σ H2) E0)
    (hpe : PE X (.Call (.Attribute o m apos) (e :: es) [] pos) (tMeth C m sp [] E0 (Dl.semE X o) (Dl.semA X (e :: es)))) (hs : swapsWith (.Call (.Attribute o m apos) (e :: es) [] pos) none pos'.line X.env = pure false := by rfl) : VS X D (.Expr (.Call (.Attribute o m apos) (e :: es) [] pos) pos' :: rest) σ H :=
  vs_of (pss_cons (ps_expr hpe hs) Dl.pss_sem) (by
    unfold tSeq tDrop tMeth
    exact ho H (Evl.Ex.refl H) _ fun H1 e1 => ⟨q, dx, fs, rfl, e1 _ _ h, hl, ha H1 e1 H1 (Evl.Ex.refl H1) _ fun H2 e2 => kk H2 (e1.trans e2)⟩)
end
end Tp
namespace Cm
open PySem L2 Dl Mx Tp Pg
section
variable {P : Program} {w : World} {K : PySem.W.Frag} {mg : Str → Option Value} {base : Heap} {L : Lay}
def spGo (L : Lay) (C : Addr) : Sp := fun vs H Q _ => ∃ (H0 : Hp) (p : Addr) (c : Cl) (n : Int), vs = [.ref p, .int n] ∧ ClAt L C H0 H p c ∧ c.runs.length ≤ 1000 ∧ ∀ H' : Hp, ClAt L C H0 H' p (c.goTo n) → Q .non H'
theorem scG : FnScope ["self", "lead"] ["self", "lead"] (defScope s_go_to) := ⟨rfl, rfl, rfl, by decide +kernel, rfl, by decide +kernel, by decide +kernel⟩
theorem no_note (a b c : Int) (r : Addr) : (cf a b c r).lookup ("note" : Str) = none := get_no a b c r (by decide +kernel) (by decide +kernel) (by decide +kernel) (by decide +kernel)
theorem ok_go {f fN C : Addr} {fd fdN : FuncData} (F : Fun K "go_to" "Climb.go_to" s_go_to f fd) (T : Txt K mg C) (GN : FnOk P w K mg base CX0 1 fN fdN ["self", "word", "many"] (spNote L C)) (bN : Binds K fdN ["self", "word", "many"] []) (mN : Meth K C "note" fN) : FnOk P w K mg base CX0 2 f fd ["self", "lead"] (spGo L C) := by
  refine F.ok scG (fun vs H Q E h => ?_) (fun cdv A outer s H vs Q E hr h => ?_)
  · obtain ⟨H0, p, c, n, rfl, _⟩ := h
    rfl
  · obtain ⟨H0, p, c, n, rfl, hc, hl, k⟩ := h
    refine ⟨_, pss_sem, ?_⟩
    show VS _ _ _ _ H
    obtain ⟨dx, r, vs, r0, rv, h1, h2, h3⟩ := id hc.ex
    -- self.lead = lead, behind all
    refine vs_join (fun σ' H1 => σ' = [some (.ref p), some (.int n)] ∧ ∃ c1 : Cl, ClAt L C H0 H1 p c1 ∧ c.goTo n = { c1 with lead := n }) ?_ (fun go => ?_)
    · rintro σ' H1 ⟨rfl, c1, hc1, e⟩
      obtain ⟨dx, r, vs, r0, rv, h1, h2, h3⟩ := id hc1.ex
      refine vs_fld (vv 1) (vv 0) h1 T.cl T.nL (by show 4 < 1000; decide) fun H2 e2 => vs_nil (k _ ?_)
      rw [e]
      exact (hc1.ext e2).fld (c' := { c1 with lead := n }) r0 rv (e2 _ _ h1) (e2 _ _ h2) (DvA.mono ((Step.of (L := L) e2).tex hc1.gd) _ _ h3) (put_lead _ _ _ _ _) rfl
    · refine vs_if (vt_gt (vv 1) (ve_fld (vv 0) h1 T.cl T.nH (get_high _ _ _ _))) (fun z H1 e1 => ?_) (fun z H1 e1 => ?_)
      · have zc := of_decide_eq_true z
        have hc1 := hc.ext e1
        refine vs_meth (fs := cf c.lead c.high c.deep r) (vv 0) (e1 _ _ h1) (no_note _ _ _ _) (fun H2 e2 => va_cons (v := .str "up") (ve_of pe_str Evl.ev_c) (va_cons (ve_sub (vv 1) (ve_fld (vv 0) (e2 _ _ (e1 _ _ h1)) T.cl T.nH (get_high _ _ _ _))) va_nil)) (fun H2 e2 => ?_) (pe_meth Dl.pe_sem T.cl mN GN (hr.mono (by decide)) bN .nil pass0 Dl.pa_sem)
        refine ⟨H0, p, c, true, n - c.high, rfl, hc1.ext e2, hl, fun H3 hc3 => ?_⟩
        obtain ⟨dx3, r3, vs3, r03, rv3, k1, k2, k3⟩ := id hc3.ex
        refine vs_fld (vv 1) (vv 0) k1 T.cl T.nH (by show 4 < 1000; decide) fun H4 e4 => vs_nil (go _ _ ⟨rfl, { c with runs := noteLd c.runs true (n - c.high), high := n }, (hc3.ext e4).fld r03 rv3 (e4 _ _ k1) (e4 _ _ k2) (DvA.mono ((Step.of (L := L) e4).tex hc3.gd) _ _ k3) (put_high _ _ _ _ _) rfl, ?_⟩)
        unfold Cl.goTo
        rw [if_pos zc]
      · have zc : ¬ c.high < n := of_decide_eq_false z
        refine vs_when (vt_lt (vv 1) (ve_neg (ve_fld (vv 0) (e1 _ _ h1) T.cl T.nD (get_deep _ _ _ _)))) (fun y H2 e2 => ?_) (fun y H2 e2 => ?_)
        · have yc := of_decide_eq_true y
          have e12 := e1.trans e2
          have hc2 := hc.ext e12
          refine vs_meth (fs := cf c.lead c.high c.deep r) (vv 0) (e12 _ _ h1) (no_note _ _ _ _) (fun H3 e3 => va_cons (v := .str "down") (ve_of pe_str Evl.ev_c) (va_cons (ve_sub (ve_neg (vv 1)) (ve_fld (vv 0) (e3 _ _ (e12 _ _ h1)) T.cl T.nD (get_deep _ _ _ _))) va_nil)) (fun H3 e3 => ?_) (pe_meth Dl.pe_sem T.cl mN GN (hr.mono (by decide)) bN .nil pass0 Dl.pa_sem)
          refine ⟨H0, p, c, false, -n - c.deep, rfl, hc2.ext e3, hl, fun H4 hc4 => ?_⟩
          obtain ⟨dx3, r3, vs3, r03, rv3, k1, k2, k3⟩ := id hc4.ex
          refine vs_fld (ve_neg (vv 1)) (vv 0) k1 T.cl T.nD (by show 4 < 1000; decide) fun H5 e5 => vs_nil (vs_nil (go _ _ ⟨rfl, { c with runs := noteLd c.runs false (-n - c.deep), deep := -n }, (hc4.ext e5).fld r03 rv3 (e5 _ _ k1) (e5 _ _ k2) (DvA.mono ((Step.of (L := L) e5).tex hc4.gd) _ _ k3) (put_deep _ _ _ _ _) rfl, ?_⟩))
          unfold Cl.goTo
          rw [if_neg zc, if_pos yc]
        · have yc : ¬ n < -c.deep := of_decide_eq_false y
          refine vs_nil (go _ _ ⟨rfl, c, hc.ext (e1.trans e2), ?_⟩)
          unfold Cl.goTo
          rw [if_neg zc, if_neg yc]
end
end Cm
-- Cm8
/-! Cm8: a new climb, a walk over steps. -/
namespace Tp
open PySem L2 PyProof.Rows Hr
section
variable {X : Cx} {σ : L2.St} {H : Hp} {it tg : Expr} {body : List Stmt} {D : Ends} {rest : List Stmt} {pos : Pos} {a : Addr} {ss : List Str} {n : Nat}
theorem walk_tupX {H1 : Hp} : Walk (Itx a) ss.length (fun H => H a = some (TupX ss a)) (fun i H x H' => H' = H ∧ ∃ z, ss[i]? = some z ∧ x = .str z) :=
  ⟨fun i H hi h => ⟨ss, ss[i], h, by simp [hi]⟩, fun H h => ⟨ss, h, Nat.le_refl _⟩, fun i H x H' hi h y => by
    obtain ⟨y1, y2⟩ := y
    exact ⟨y1, y2 ss h⟩⟩
theorem vs_forX (he : VE X σ H it (.ref a)) (h : H a = some (TupX ss a)) (hg : PG X tg (gName n)) (Pv : Nat → L2.St → Hp → Prop) (h0 : ∀ H1, Evl.Ex H H1 → Pv 0 σ H1) (hl : ∀ i σ' H', Pv i σ' H' → H' a = some (TupX ss a))
    (hs : ∀ i z σ' H', ss[i]? = some z → Pv i σ' H' → VS X { D with nx := Pv (i + 1), ct := Pv (i + 1), bk := fun σ2 H2 => VS X D rest σ2 H2 } body (σ'.set n (some (.str z))) H') (hd : ∀ σ' H', Pv ss.length σ' H' → VS X D rest σ' H')
    (hp : PassesOwn (model X.prog X.w) X.A X.env X.xe := by exact PassesOwn.never) (hc : X.calm = true := by rfl) (hsf : ∀ x, foldedSetIterable it X.env x = pure x := by intro _; rfl) : VS X D (.For tg it body [] pos :: rest) σ H :=
  vs_of (pss_cons (ps_for hp hc (pi_tupX Dl.pe_sem) hg Dl.pss_sem hsf) Dl.pss_sem) (by
    unfold tSeq tFor iTupX
    refine he H (Evl.Ex.refl H) _ fun H1 e1 => ⟨a, rfl, ⟨ss, e1 _ _ h⟩, ?_⟩
    refine for_it (walk_tupX (ss := ss) (H1 := H1)) (D := { D with nx := Dl.semSs X rest D }) Pv (h0 H1 e1) (fun i σ' H' _ p => hl i σ' H' p) (fun i x σ' H' H2 hi p y => ?_) hd
    obtain ⟨rfl, z, hz, rfl⟩ := y
    exact hs i z σ' _ hz p)
end
end Tp
-- Cm9
/-! Cm9: runs_of. -/
namespace Tp
open PySem L2 PyProof.Rows Hr
section
variable {X : Cx} {σ : L2.St} {H : Hp} {a : Expr} {D : Ends} {rest : List Stmt} {p p1 pos pos' : Pos} {C f q : Addr} {fd : FuncData} {ps : List Str} {sp : Sp} {k n : Nat} {x y : Str} {xs : List V}
/-- x = C() -/
theorem vs_make (M : Mk X.K C f) (F : FnOk X.prog X.w X.K X.mg X.base CX0 k f fd ps sp) (hr : Room (k + 1) X.A) (hm : X.mg y = some (.ref C)) (hb : Binds X.K fd ps [])
    (kk : ∀ z dx, H z = none → H dx = none → dx ≠ z → sp [.ref z] (upd (upd H dx (.own z)) z (.ins C dx [])) (fun v H2 => v = .non ∧ VS X D rest (σ.set n (some (.ref z))) H2) E0)
    (hg : Gl X y := by rfl) (hx0 : Passes CX0 X E0 := by exact pass0) (hdb : (y == ("__debug__" : Str)) = false := by decide) (hN : X.N.Nodup := by assumption) (hi : X.N[n]? = some x := by rfl) (hx : Loc X.env.scope x := by exact Or.inl rfl)
    (hs : swapsWith (.Call (.Name y p) [] [] p1) (some (.Name x pos')) pos.line X.env = pure false := by rfl) (hf : X.fn x = true ∨ X.env.scope.names.lookup x = some .local := by first | exact .inl rfl | exact .inr rfl) : VS X D (.Assign [.Name x pos'] (.Call (.Name y p) [] [] p1) pos :: rest) σ H :=
  vs_of (pss_cons (ps_set hN hi hx (pe_make0 M F hr hg hm hb .nil hx0 hdb) hs hf) Dl.pss_sem) (by
    unfold tSeq tAsg tMake tNil
    exact fun z dx hz hd hn => kk z dx hz hd hn)
/-- return tuple(x), x a list -/
theorem vs_retT (ha : VE X σ H a (.ref q)) (h : H q = some (.lst xs)) (hm : X.mg "tuple" = none) (k : ∀ t H1, H t = none → Evl.Ex H H1 → H1 t = some (.tup xs) → D.rt (.ref t) H1) (hg : Gl X "tuple" := by rfl) (hs : starEach [a] X.env = (false, eval a X.env) :: starEach [] X.env := by rfl) (hpl : (backTo p1 (starEach [] X.env)).any (·.1) = false := by rfl) :
    VS X D (.Return (some (.Call (.Name "tuple" p) [a] [] p1)) pos :: rest) σ H :=
  vs_of (pss_cons (ps_ret (pe_callTy call_tuple_of hg hm (by decide +kernel) (pa_cons Dl.pe_sem pa_nil hs) (by decide) (by decide) hs hpl)) pss_never) (by
    unfold tSeq tRet
    show Dl.semE X a σ H _
    exact ha H (Evl.Ex.refl H) _ fun H1 e1 => ⟨q, xs, rfl, .inl ⟨Evl.sq_of (e1 _ _ h), fun l hl => k l _ (Evl.fresh_back e1 hl) (e1.trans (Evl.Ex.new hl)) upd_same⟩⟩)
end
end Tp
namespace Cm
open PySem L2 Dl Mx Tp Pg Hr
section
variable {P : Program} {w : World} {K : PySem.W.Frag} {mg : Str → Option Value} {base : Heap} {L : Lay}
abbrev s_runs_of : Stmt := top 66
theorem start_of {H : Hp} (g : Good L H) {z dx C : Addr} (hz : H z = none) (hd : H dx = none) (hn : dx ≠ z) : Step L H (upd (upd H dx (.own z)) z (.ins C dx [])) ∧ Good L (upd (upd H dx (.own z)) z (.ins C dx [])) := by
  have e1 : Evl.Ex H (upd H dx (.own z)) := Evl.Ex.new hd
  have hz1 : upd H dx (.own z) z = none := by rw [upd_ne hn.symm]; exact hz
  have e2 : Evl.Ex (upd H dx (.own z)) (upd (upd H dx (.own z)) z (.ins C dx [])) := Evl.Ex.new hz1
  exact ⟨Step.of (e1.trans e2), g.ext (e1.trans e2)⟩
theorem ok_runs_of {f fI fN C : Addr} {fd fdI fdN : FuncData} (F : Fun K "runs_of" "runs_of" s_runs_of f fd) (B : Bi mg) (T : Txt K mg C) (mgC : mg "Climb" = some (.ref C)) (M : Mk K C fI) (GI : FnOk P w K mg base CX0 1 fI fdI ["self"] (spInit L C)) (bI : Binds K fdI ["self"] [])
    (GN : FnOk P w K mg base CX0 1 fN fdN ["self", "word", "many"] (spNote L C)) (bN : Binds K fdN ["self", "word", "many"] []) (mN : Meth K C "note" fN) : FnOk P w K mg base CX0 4 f fd ["steps"] (spG L gRunsOf) := by
  refine def_ok (N := ["steps", "climb", "word"]) F ⟨rfl, rfl, rfl, by decide +kernel, rfl, by decide +kernel, by decide +kernel⟩ (by decide) (fun _ _ h => by cases h; rfl) fun cdv A outer s H E hr rs Pq h => ?_
  have nd : (["steps", "climb", "word"] : List Str).Nodup := by decide +kernel
  cases h with
  | mk st hs =>
    intro gs H0 H1 σ D En l
    obtain ⟨v0, s0, r0⟩ := En.slot 0 (.d (stp (st.map wd))) rfl
    obtain ⟨a, rfl, ha⟩ := rv_stp r0
    have hlen := En.len
    obtain ⟨x1, x2, rfl⟩ : ∃ x1 x2, σ = [some (.ref a), x1, x2] := by
      match σ, hlen, s0 with
      | [y0, y1, y2], _, s0 => cases s0; exact ⟨y1, y2, rfl⟩
    have nta : ∀ q, L.tp = some q → a ≠ q.1 := fun q hq z => by
      obtain ⟨_, _, _, _, _, t1, _⟩ := En.good.tape q hq
      rw [← z, ha] at t1
      cases t1
    have keepA : ∀ {H'}, Step L H1 H' → H' a = some (TupX (st.map wd) a) := fun e => e.keep _ _ ha (fun ps z => by unfold TupX at z; cases z) nta
    show VS _ D _ _ H1
    refine vs_make (n := 1) M GI (hr.mono (by decide)) mgC bI (fun z dx hz hd hn => ?_)
    obtain ⟨st1, gd1⟩ := start_of (C := C) En.good hz hd hn
    refine ⟨H1, z, dx, rfl, st1, gd1, hz, upd_same, fun H2 hc => ⟨rfl, ?_⟩⟩
    refine vs_forX (n := 2) (vv 0) (keepA hc.st) (pg_name (i := 2) nd rfl (Or.inl rfl)) (fun i σ' H' => ∃ x, σ' = [some (.ref a), some (.ref z), x] ∧ ClAt L C H1 H' z ⟨0, 0, 0, runs (st.take i)⟩) (fun H3 e3 => ⟨x2, rfl, hc.ext e3⟩) (fun i σ' H' ⟨_, _, hc'⟩ => keepA hc'.st) ?_ ?_
    · rintro i u σ' H' hu ⟨x, rfl, hc'⟩
      rw [List.getElem?_map] at hu
      cases hg : st[i]? with
      | none => rw [hg] at hu; cases hu
      | some b =>
        rw [hg] at hu
        cases hu
        have hi : i < st.length := (List.getElem?_eq_some_iff.mp hg).1
        obtain ⟨dx', r, vs, r0', rv, h1, h2, h3⟩ := id hc'.ex
        refine vs_meth (fs := cf 0 0 0 r) (vv 1) h1 (no_note _ _ _ _) (fun H3 e3 => va_cons (vv 2) (va_cons ve_int va_nil)) (fun H3 e3 => ?_) (pe_meth Dl.pe_sem T.cl mN GN (hr.mono (by decide)) bN .nil pass0 Dl.pa_sem)
        refine ⟨H1, z, ⟨0, 0, 0, runs (st.take i)⟩, b, 1, rfl, hc'.ext e3, ?_, fun H4 hc4 => vs_nil ⟨some (.str (wd b)), rfl, ?_⟩⟩
        · have h1 := runs_len (st.take i)
          rw [List.length_take] at h1
          show (runs (st.take i)).length ≤ 1000
          omega
        · rw [take_snoc hg, runs_snoc]
          exact hc4
    · rintro σ' H' ⟨x, rfl, hc'⟩
      rw [List.length_map, List.take_length] at hc'
      obtain ⟨dx', r, vs, r0', rv, h1, h2, h3⟩ := id hc'.ex
      refine vs_retT (ve_fld (vv 1) h1 T.cl T.nR (get_runs _ _ _ _)) h2 B.tuple fun t H5 ht e5 h5 => ?_
      exact l.rt (.d (ldD (runs st))) _ _ rfl (En.st.trans (hc'.st.trans (Step.of e5))) (hc'.gd.ext e5) (Dv.tup h5 (DvA.mono ((Step.of (L := L) e5).tex hc'.gd) _ _ h3))
end
end Cm
-- Cm10
/-! Cm10: climb_of, ladder_of. -/
namespace Tp
open PySem L2 PyProof.Rows Hr
section
variable {X : Cx} {σ : L2.St} {H : Hp} {it tg : Expr} {body : List Stmt} {D : Ends} {rest : List Stmt} {pos : Pos} {a : Addr} {xs : List V} {n : Nat}
theorem vs_forT (he : VE X σ H it (.ref a)) (h : H a = some (.tup xs)) (hg : PG X tg (gName n)) (Pv : Nat → L2.St → Hp → Prop) (h0 : ∀ H1, Evl.Ex H H1 → Pv 0 σ H1) (hl : ∀ i σ' H', Pv i σ' H' → H' a = some (.tup xs))
    (hs : ∀ i z σ' H', xs[i]? = some z → Pv i σ' H' → VS X { D with nx := Pv (i + 1), ct := Pv (i + 1), bk := fun σ2 H2 => VS X D rest σ2 H2 } body (σ'.set n (some z)) H') (hd : ∀ σ' H', Pv xs.length σ' H' → VS X D rest σ' H')
    (hp : PassesOwn (model X.prog X.w) X.A X.env X.xe := by exact PassesOwn.never) (hc : X.calm = true := by rfl) (hsf : ∀ x, foldedSetIterable it X.env x = pure x := by intro _; rfl) : VS X D (.For tg it body [] pos :: rest) σ H :=
  vs_of (pss_cons (ps_for hp hc (pi_tup Dl.pe_sem) hg Dl.pss_sem hsf) Dl.pss_sem) (by
    unfold tSeq tFor iTup
    refine he H (Evl.Ex.refl H) _ fun H1 e1 => ⟨a, rfl, ⟨xs, SqT.of (e1 _ _ h)⟩, ?_⟩
    refine for_it (walk_tup (K := X.K) (a := a) (xs := xs)) (D := { D with nx := Dl.semSs X rest D }) Pv (h0 H1 e1) (fun i σ' H' _ p => SqT.of (hl i σ' H' p)) (fun i x σ' H' H2 hi p y => ?_) hd
    obtain ⟨rfl, hz⟩ := y
    exact hs i x σ' _ hz p)
/-- x, y = f(e), f by its contract, the answer a pair of ints -/
theorem vs_asgC {e : Expr} {p1 p2 pos' pos2 : Pos} {f x y : Str} {i j : Nat} {ar : Nat} {ps : List Str} {L : Dl.Lay} {G : Dl.Ct} {k : Nat} {v : V} {d : Dl.D} {m1 m2 : Int} (C : Dl.Cal X.prog X.w X.K X.mg X.base k f ps (Dl.spG L G)) (hr : Room k X.A) (he : VE X σ H e v) (hv : ∀ H1, Evl.Ex H H1 → Dl.Dv H1 v d) (gd : ∀ H1, Evl.Ex H H1 → Dl.Good L H1)
    (hG : G [.d d] (fun z => z = .d (.tup [.int m1, .int m2]))) (kk : ∀ H1 H2, Evl.Ex H H1 → Dl.Step L H1 H2 → Dl.Good L H2 → VS X D rest ((σ.set i (some (.int m1))).set j (some (.int m2))) H2)
    (hpg : PG X (.Tuple [.Name x p1, .Name y p2] ar pos') (gTup X.K 2 (gCons (gName i) (gCons (gName j) gNil)))) (hg : Gl X f := by rfl) (hdb : (f == ("__debug__" : Str)) = false := by decide)
    (hs1 : starEach [e] X.env = (false, eval e X.env) :: starEach [] X.env := by rfl) (hpl : (backTo pos2 (starEach [] X.env)).any (·.1) = false := by rfl)
    (hs : swapsWithSole [.Tuple [.Name x p1, .Name y p2] ar pos'] (.Call (.Name f p) [e] [] pos2) pos.line X.env = pure false := by rfl) (hw : swappedStores [.Tuple [.Name x p1, .Name y p2] ar pos'] (.Call (.Name f p) [e] [] pos2) X.env = pure none := by rfl)
    (h1 : (assignEach [.Tuple [.Name x p1, .Name y p2] ar pos'] X.env).map (·.2) = [assign (.Tuple [.Name x p1, .Name y p2] ar pos') X.env] := by rfl) : VS X D (.Assign [.Tuple [.Name x p1, .Name y p2] ar pos'] (.Call (.Name f p) [e] [] pos2) pos :: rest) σ H := by
  obtain ⟨ff, fd, c1, c2, c3, c4⟩ := C.ex
  refine vs_of (pss_cons (ps_asg (pe_call c4 hr hg c1 c2 c3 .nil pass0 (pa_cons Dl.pe_sem pa_nil hs1) hdb hs1 hpl) hpg hs hw h1) Dl.pss_sem) ?_
  unfold tSeq tAsg tCall
  show Dl.semE X e σ H _
  refine he H (Evl.Ex.refl H) _ fun H1 e1 => ⟨[.d d], _, hG, rfl, gd H1 e1, .cons (hv H1 e1) .nil, fun r w H2 hr e2 g2 rv => ?_⟩
  subst hr
  obtain ⟨t, vs, rfl, q1, q2⟩ := Dl.rv_tup rv
  cases q2 with
  | cons r1 q2 => cases q2 with
    | cons r2 q2 => cases q2 with
      | nil =>
        cases r1
        cases r2
        exact ⟨t, _, rfl, SqT.of q1, rfl, _, _, rfl, _, _, rfl, rfl, kk H1 H2 e1 e2 g2⟩
end
end Tp
namespace Cm
open PySem L2 Dl Mx Tp Pg Hr
theorem ClAt.step {L : Lay} {C : Addr} {H0 H H' : Hp} {p : Addr} {c : Cl} (h : ClAt L C H0 H p c) (e : Step L H H') (g : Good L H') : ClAt L C H0 H' p c := by
  obtain ⟨dx, r, vs, r0, rv, h1, h2, h3⟩ := h.ex
  have np : ∀ q, L.tp = some q → p ≠ q.1 := fun q hq z => by
    obtain ⟨_, _, _, _, _, t1, _⟩ := h.gd.tape q hq
    rw [← z, h1] at t1
    cases t1
  exact ⟨h.st.trans e, g, h.p0, dx, r, vs, r0, rv, e.keep _ _ h1 (fun ps z => by cases z) np, e.keep _ _ h2 nolst (fun q hq z => rv ⟨q, hq, .inl z⟩), DvA.mono (e.tex h.gd) _ _ h3⟩
theorem note_len (l : Ld) (b : Bool) (n : Int) : (noteLd l b n).length ≤ l.length + 1 := by
  unfold noteLd
  split
  · split
    · rw [List.length_append, List.length_dropLast, List.length_singleton]; omega
    · rw [List.length_append]; exact Nat.le_refl _
  · rw [List.length_append]; exact Nat.le_refl _
theorem goTo_len (c : Cl) (n : Int) : (c.goTo n).runs.length ≤ c.runs.length + 1 := by
  unfold Cl.goTo
  split
  · exact note_len _ _ _
  · split
    · exact note_len _ _ _
    · exact Nat.le_succ _
theorem climb_len (gs : List Gate) : ∀ c : Cl, (gs.foldl clStep c).runs.length ≤ c.runs.length + gs.length := by
  induction gs with
  | nil => intro c; exact Nat.le_refl _
  | cons g gs ih =>
    intro c
    have h1 := ih (clStep c g)
    have h2 : (clStep c g).runs.length ≤ c.runs.length + 1 := goTo_len c _
    simp only [List.length_cons, List.foldl_cons]
    omega
/-- a gate's object -/
theorem gate_at {H : Hp} {v : V} {g : Gate} (h : Dv H v (gD g)) : ∃ t k n, v = .ref t ∧ H t = some (.tup [.str k, .int n]) ∧ decide (V.str k = V.str "times") = false := by
  cases g with
  | on n => cases h with
    | tup h1 h2 => cases h2 with
      | cons a r => cases r with
        | cons b r =>
          cases r
          cases a
          cases b
          exact ⟨_, _, _, rfl, h1, by decide +kernel⟩
  | off n => cases h with
    | tup h1 h2 => cases h2 with
      | cons a r => cases r with
        | cons b r =>
          cases r
          cases a
          cases b
          exact ⟨_, _, _, rfl, h1, by decide +kernel⟩
  | moved n => cases h with
    | tup h1 h2 => cases h2 with
      | cons a r => cases r with
        | cons b r =>
          cases r
          cases a
          cases b
          exact ⟨_, _, _, rfl, h1, by decide +kernel⟩
section
variable {P : Program} {w : World} {K : PySem.W.Frag} {mg : Str → Option Value} {base : Heap} {L : Lay}
abbrev s_climb_of : Stmt := top 42
def spClimb (L : Lay) (C : Addr) : Sp := fun vs H Q _ => ∃ (gs : List Gate) (v : V), vs = [v] ∧ Dv H v (rowD gs) ∧ gs.length ≤ 1000 ∧ Good L H ∧ ∀ p H', ClAt L C H H' p (climb gs) → Q (.ref p) H'
theorem no_go (a b c : Int) (r : Addr) : (cf a b c r).lookup ("go_to" : Str) = none := get_no a b c r (by decide +kernel) (by decide +kernel) (by decide +kernel) (by decide +kernel)
theorem ok_climb_of {f C fI fG : Addr} {fd fdI fdG : FuncData} (F : Fun K "climb_of" "climb_of" s_climb_of f fd) (T : Txt K mg C) (mgC : mg "Climb" = some (.ref C)) (M : Mk K C fI) (GI : FnOk P w K mg base CX0 1 fI fdI ["self"] (spInit L C)) (bI : Binds K fdI ["self"] [])
    (GG : FnOk P w K mg base CX0 2 fG fdG ["self", "lead"] (spGo L C)) (bG : Binds K fdG ["self", "lead"] []) (mG : Meth K C "go_to" fG) (c_late_by : Cal P w K mg base 1 "late_by" ["gate"] (spG L gLateBy)) : FnOk P w K mg base CX0 4 f fd ["row"] (spClimb L C) := by
  refine F.ok (N := ["row", "climb", "part", "on_late", "off_late"]) ⟨rfl, rfl, rfl, by decide +kernel, rfl, by decide +kernel, by decide +kernel⟩ (fun vs H Q E h => ?_) (fun cdv A outer s H vs Q E hr h => ?_)
  · obtain ⟨gs, v, rfl, _⟩ := h
    rfl
  · obtain ⟨gs, v, rfl, hv, hl, gd, k⟩ := h
    have nd : (["row", "climb", "part", "on_late", "off_late"] : List Str).Nodup := by decide +kernel
    refine ⟨_, pss_sem, ?_⟩
    show VS _ _ _ _ H
    obtain ⟨a, xs, rfl, ha, hx⟩ : ∃ a xs, v = .ref a ∧ H a = some (.tup xs) ∧ DvA H xs (gs.map gD) := by
      cases hv with
      | tup h1 h2 => exact ⟨_, _, rfl, h1, h2⟩
    have xl : xs.length = gs.length := by rw [hx.length, List.length_map]
    refine vs_make (n := 1) M GI (hr.mono (by decide)) mgC bI (fun z dx hz hd hn => ?_)
    obtain ⟨st1, gd1⟩ := start_of (C := C) gd hz hd hn
    refine ⟨H, z, dx, rfl, st1, gd1, hz, upd_same, fun H2 hc => ⟨rfl, ?_⟩⟩
    have keepA : ∀ {H'}, Step L H H' → H' a = some (.tup xs) := fun e => e.tex gd _ _ ha rfl
    refine vs_forT (n := 2) (vv 0) (keepA hc.st) (pg_name (i := 2) nd rfl (Or.inl rfl)) (fun i σ' H' => ∃ x2 x3 x4, σ' = [some (.ref a), some (.ref z), x2, x3, x4] ∧ ClAt L C H H' z (climb (gs.take i))) (fun H3 e3 => ⟨none, none, none, rfl, hc.ext e3⟩) (fun i σ' H' ⟨_, _, _, _, hc'⟩ => keepA hc'.st) ?_ ?_
    · rintro i u σ' H' hu ⟨x2, x3, x4, rfl, hc'⟩
      obtain ⟨d, hd1, hd2⟩ := hx.getv hu
      rw [List.getElem?_map] at hd1
      cases hg : gs[i]? with
      | none => rw [hg] at hd1; cases hd1
      | some g =>
        rw [hg] at hd1
        cases hd1
        have hgu : Dv H' u (gD g) := Dv.mono (hc'.st.tex gd) _ _ hd2
        obtain ⟨t, kd, n, rfl, ht, hk⟩ := gate_at hgu
        have ci : (climb (gs.take i)).runs.length ≤ 1000 := by
          have h1 := climb_len (gs.take i) ⟨0, 0, 0, []⟩
          rw [List.length_take] at h1
          show (climb (gs.take i)).runs.length ≤ 1000
          unfold climb
          simp at h1
          omega
        refine vs_if (c := false) (by rw [← hk]; exact vt_eqS (ve_ixT (vv 2) ve_int ht rfl) (ve_of pe_str Evl.ev_c)) (fun z => by cases z) (fun _ H3 e3 => ?_)
        refine vs_asgC (i := 3) (j := 4) c_late_by (hr.mono (by decide)) (vv 2) (fun H4 e4 => Dv.mono ((Step.of (L := L) (e3.trans e4)).tex hc'.gd) _ _ hgu) (fun H4 e4 => hc'.gd.ext (e3.trans e4)) (gLateBy.mk g) (fun H4 H5 e4 e5 g5 => ?_) (by apply pg_two (i := 3) (j := 4) nd <;> first | rfl | exact Or.inl rfl | exact Or.inr rfl)
        have hc5 := (hc'.ext (e3.trans e4)).step e5 g5
        obtain ⟨dx5, r5, vs5, r05, rv5, k1, k2, k3⟩ := id hc5.ex
        refine vs_meth (fs := cf (climb (gs.take i)).lead (climb (gs.take i)).high (climb (gs.take i)).deep r5) (vv 1) k1 (no_go _ _ _ _) (fun H6 e6 => va_cons (ve_sub (ve_add (ve_fld (vv 1) (e6 _ _ k1) T.cl T.nL (get_lead _ _ _ _)) (vv 4)) (vv 3)) va_nil) (fun H6 e6 => ?_) (pe_meth Dl.pe_sem T.cl mG GG (hr.mono (by decide)) bG .nil pass0 Dl.pa_sem)
        refine ⟨H, z, climb (gs.take i), _, rfl, hc5.ext e6, ci, fun H7 hc7 => vs_nil (vs_nil ⟨_, _, _, rfl, ?_⟩)⟩
        have e : climb (gs.take (i + 1)) = (climb (gs.take i)).goTo ((climb (gs.take i)).lead + g.b - g.a) := by
          rw [take_snoc hg]
          unfold climb
          rw [List.foldl_append]
          rfl
        rw [e]
        exact hc7
    · rintro σ' H' ⟨x2, x3, x4, rfl, hc'⟩
      rw [xl, List.take_length] at hc'
      exact vs_ret (vv 1) fun H5 e5 => k z H5 (hc'.ext e5)
abbrev s_ladder_of : Stmt := top 43
inductive gLadderOf : Ct
  | mk (gs : List Gate) (hl : gs.length ≤ 1000) : gLadderOf [.d (rowD gs)] (fun z => z = .d (ldD (climb gs).runs))
theorem ok_ladder_of {f C fK : Addr} {fd fdK : FuncData} (F : Fun K "ladder_of" "ladder_of" s_ladder_of f fd) (B : Bi mg) (T : Txt K mg C) (GK : FnOk P w K mg base CX0 4 fK fdK ["row"] (spClimb L C)) (bK : Binds K fdK ["row"] []) (mK : mg "climb_of" = some (.ref fK)) (kK : PySem.W.keepIn K (.ref fK) = true) : FnOk P w K mg base CX0 5 f fd ["row"] (spG L gLadderOf) := by
  refine def_ok (N := ["row"]) F ⟨rfl, rfl, rfl, by decide +kernel, rfl, by decide +kernel, by decide +kernel⟩ (by decide) (fun _ _ h => by cases h; rfl) fun cdv A outer s H E hr rs Pq h => ?_
  cases h with
  | mk gs hl =>
    intro gs' H0 H1 σ D En l
    obtain ⟨v0, s0, r0⟩ := En.slot 0 (.d (rowD gs)) rfl
    have hlen := En.len
    obtain rfl : σ = [some v0] := by
      match σ, hlen, s0 with
      | [y0], _, s0 => cases s0; rfl
    show VS _ D _ _ H1
    refine vs_of (X := (cxOf CX0 P w K mg base ["row"] "ladder_of" (defScope s_ladder_of) f cdv A outer s H E).nox) (pss_cons (ps_ret (pe_callTy call_tuple_of rfl B.tuple (by decide +kernel) (pa_cons (pe_fld (pe_call GK hr (by rfl) mK kK bK .nil pass0 (pa_cons (pv 0) pa_nil)) (by rfl)) pa_nil))) pss_never) ?_
    refine ⟨v0, rfl, gs, v0, rfl, r0, hl, En.good, fun p H' hc => ?_⟩
    obtain ⟨dx, r, vs, q0, q1, h1, h2, h3⟩ := id hc.ex
    refine ⟨p, C, dx, _, .ref r, rfl, h1, T.cl, T.nR, get_runs _ _ _ _, r, vs, rfl, .inl ⟨SqL.of h2, fun t ht => ?_⟩⟩
    have e5 : Step L H' (upd H' t (.tup vs)) := Step.new ht
    exact l.rt (.d (ldD (climb gs).runs)) _ _ rfl (En.st.trans (hc.st.trans e5)) (hc.gd.new ht) (Dv.tup upd_same (DvA.mono (e5.tex hc.gd) _ _ h3))
end
end Cm
-- Pg14
/-! Pg14: shape_of, passed. -/
namespace Pg
open PySem L2 Dl Mx Hr Cm
section
variable {P : Program} {w : World} {K : PySem.W.Frag} {mg : Str → Option Value} {base : Heap} {L : Dl.Lay}
inductive gShapeOf : Ct
  | mk (gs : List Gate) (hl : gs.length ≤ 1000) : gShapeOf [.d (rowD gs)] (fun z => z = .d (.tup [.int (sumA gs), .int (sumB gs), ldD (climb gs).runs]))
abbrev s_shape_of : Stmt := top 51
theorem ok_shape_of {f : Addr} {fd : FuncData} (F : Fun K "shape_of" "shape_of" s_shape_of f fd) (B : Bi mg) (c_sums_of : Cal P w K mg base 2 "sums_of" ["row"] (spG L gSumsOf)) (c_ladder_of : Cal P w K mg base 5 "ladder_of" ["row"] (spG L gLadderOf)) : FnOk P w K mg base CX0 6 f fd ["row"] (spG L gShapeOf) := by
  refine def_ok (N := ["row", "on_sum", "off_sum"]) F ⟨rfl, rfl, rfl, by decide +kernel, rfl, by decide +kernel, by decide +kernel⟩ (by decide) (fun _ _ h => by cases h; rfl) fun cdv A outer s H E hr rs Pq h => ?_
  have nd : (["row", "on_sum", "off_sum"] : List Str).Nodup := by decide +kernel
  cases h with
  | mk gs hl =>
    exact xs_asg (xe_call c_sums_of (hr.mono (by decide)) (xa_cons (xv 0) xa_nil) (gSumsOf.mk gs)) (by apply pg_two (i := 1) (j := 2) nd <;> first | rfl | exact Or.inl rfl | exact Or.inr rfl) evg_tup2 (xs_retE (xe_tup (ds := [.int (sumA gs), .int (sumB gs), ldD (climb gs).runs]) (xa_cons (xv 1) (xa_cons (xv 2) (xa_cons (xe_call c_ladder_of (hr.mono (by decide)) (xa_cons (xv 0) xa_nil) (gLadderOf.mk gs hl)) xa_nil)))) rfl)
abbrev s_passed : Stmt := top 62
theorem ok_passed {f : Addr} {fd : FuncData} (F : Fun K "passed" "passed" s_passed f fd) (B : Bi mg) (c_check_line : Cal P w K mg base 3 "check_line" ["thing"] (spG L gCheckLine)) (c_check_row : Cal P w K mg base 6 "check_row" ["thing"] (spG L gCheckRow)) (c_shape_of : Cal P w K mg base 6 "shape_of" ["row"] (spG L gShapeOf)) (c_passed_by : Cal P w K mg base 4 "passed_by" ["line", "told"] (spG L gPassedBy)) : FnOk P w K mg base CX0 7 f fd ["line", "row"] (spG L gPassed) := by
  refine def_ok (N := ["line", "row"]) F ⟨rfl, rfl, rfl, by decide +kernel, rfl, by decide +kernel, by decide +kernel⟩ (by decide) (fun _ _ h => by cases h; rfl) fun cdv A outer s H E hr rs Pq h => ?_
  have nd : (["line", "row"] : List Str).Nodup := by decide +kernel
  cases h with
  | mk f es l ha hl hll hk =>
    have h1 := hk.len
    have e : D.tup [.int (sumA (nrm l)), .int (sumB (nrm l)), ldD (climb (nrm l)).runs] = shD l := by rw [hk.a0, hk.b0, hk.cl]
    exact xs_expr (xe_call c_check_line (hr.mono (by decide)) (xa_cons (xv 0) xa_nil) (gCheckLine.mk f es ha hl)) (xs_expr (xe_call c_check_row (hr.mono (by decide)) (xa_cons (xv 1) xa_nil) (gCheckRow.mk _ hk.gates (by omega))) (xs_retE (xe_call c_passed_by (hr.mono (by decide)) (xa_cons (xv 0) (xa_cons (XE.is (xe_call c_shape_of (hr.mono (by decide)) (xa_cons (xv 1) xa_nil) (gShapeOf.mk _ (by omega))) (congrArg Rep.d e)) xa_nil)) (gPassedBy.mk f es l hl hll)) rfl))
end
end Pg
set_option maxHeartbeats 0
-- Hd1
/-! Hd1: the head's data, the top's run. -/
namespace Hd
open PySem PySem.Spec PyProof.Rows L2 Pg
def dd (x : Str) (i : Nat) : He.DefD := ⟨(x, none), x, x, defArgs (top i), defBody (top i), defScope (top i), [], []⟩
def dm (m q : Str) (i : Nat) : He.DefD := ⟨("Climb", some m), m, q, defArgs (inClass (top 41) i), defBody (inClass (top 41) i), defScope (inClass (top 41) i), [], []⟩
def fn0 : List He.DefD := [dd "is_integer" 8, dd "is_flag" 9, dd "is_within" 10, dd "is_pair" 11, dd "is_triple" 12, dd "is_rising" 13, dd "check_tick" 14, dd "check_number" 15, dd "is_told_line" 17, dd "check_line" 18, dd "edges_up_to" 19, dd "state_behind" 20, dd "state_at" 21, dd "shifted" 22, dd "later" 23, dd "joined" 25, dd "where_unlike" 26, dd "check_two" 27, dd "ticks_on" 28, dd "unlike_ticks" 29]
def fn1 : List He.DefD := [dd "is_amount" 32, dd "is_gate" 33, dd "is_row_of" 35, dd "is_told_row" 36, dd "check_row" 37, dd "late_by" 38, dd "sums_of" 39, dd "climb_of" 42, dd "ladder_of" 43, dd "height_in" 44, dd "depth_in" 45, dd "is_rung_run" 46, dd "is_ladder" 47, dd "is_told_shape" 49, dd "check_shape" 50, dd "shape_of" 51, dd "gate_to" 52, dd "turnings" 53, dd "normal_of" 54, dd "row_of" 55]
def fn2 : List He.DefD := [dd "gone" 57, dd "without_places" 58, dd "core_with" 59, dd "made_late" 60, dd "passed_by" 61, dd "passed" 62, dd "with_rung" 65, dd "runs_of" 66, dd "all_cores" 67, dd "closest" 68, dd "_law_tape" 70, dd "_law_pick" 71, dd "_law_edges" 72, dd "_law_small_line" 73, dd "_law_on" 74, dd "_law_is_line" 75, dd "_law_same" 76, dd "_law_going" 77, dd "_law_unlike" 78, dd "_law_ladders" 79]
def fn3 : List He.DefD := [dd "_law_due" 80, dd "_law_goal" 81, dd "_law_is_right" 82, dd "law" 83]
def fnC : List He.DefD := [dm "__init__" "Climb.__init__" 0, dm "note" "Climb.note" 1, dm "go_to" "Climb.go_to" 2]
def fn : List He.DefD := fn0 ++ fn1 ++ fn2 ++ fn3 ++ fnC
def fa0 : List He.Fa := [.glo "is_integer", .glo "is_flag", .glo "is_within", .glo "is_pair", .glo "is_triple", .glo "is_rising", .glo "check_tick", .glo "check_number", .glo "is_told_line", .glo "check_line", .glo "edges_up_to", .glo "state_behind", .glo "state_at", .glo "shifted", .glo "later", .glo "joined", .glo "where_unlike", .glo "check_two", .glo "ticks_on", .glo "unlike_ticks"]
def fa1 : List He.Fa := [.glo "is_amount", .glo "is_gate", .glo "is_row_of", .glo "is_told_row", .glo "check_row", .glo "late_by", .glo "sums_of", .glo "climb_of", .glo "ladder_of", .glo "height_in", .glo "depth_in", .glo "is_rung_run", .glo "is_ladder", .glo "is_told_shape", .glo "check_shape", .glo "shape_of", .glo "gate_to", .glo "turnings", .glo "normal_of", .glo "row_of"]
def fa2 : List He.Fa := [.glo "gone", .glo "without_places", .glo "core_with", .glo "made_late", .glo "passed_by", .glo "passed", .glo "with_rung", .glo "runs_of", .glo "all_cores", .glo "closest", .glo "_law_tape", .glo "_law_pick", .glo "_law_edges", .glo "_law_small_line", .glo "_law_on", .glo "_law_is_line", .glo "_law_same", .glo "_law_going", .glo "_law_unlike", .glo "_law_ladders"]
def fa3 : List He.Fa := [.glo "_law_due", .glo "_law_goal", .glo "_law_is_right", .glo "law", .glo "Climb"]
def faB : List He.Fa := [.free "isinstance", .free "len", .free "int", .free "bool", .free "tuple", .free "str", .free "all", .free "range", .free "sorted", .free "sum", .free "enumerate", .free "list", .free "set"]
def faC : List He.Fa := [.int "MOST_DEEP" 6, .int "MOST_RUNGS" 4, .cls "Climb", .noat "Climb" "lead", .noat "Climb" "high", .noat "Climb" "deep", .noat "Climb" "runs", .meth "Climb" "note", .meth "Climb" "go_to", .mkr "Climb"]
def fa : List He.Fa := fa0 ++ fa1 ++ fa2 ++ fa3 ++ faB ++ faC
def ls0 : List Str := ["__name__", "EdgeError", "NoLine", "NoTick", "NoNumber", "NoRow", "NoShape", "is_integer", "is_flag", "is_within", "is_pair", "is_triple", "is_rising", "check_tick", "check_number", "is_told_line", "check_line", "edges_up_to", "state_behind", "state_at"]
def ls1 : List Str := ["shifted", "later", "joined", "where_unlike", "check_two", "ticks_on", "unlike_ticks", "MOST_DEEP", "is_amount", "is_gate", "is_block", "is_row_of", "is_told_row", "check_row", "late_by", "sums_of", "Climb", "climb_of", "ladder_of", "height_in"]
def ls2 : List Str := ["depth_in", "is_rung_run", "is_ladder", "is_told_shape", "check_shape", "shape_of", "gate_to", "turnings", "normal_of", "row_of", "gone", "without_places", "core_with", "made_late", "passed_by", "passed", "MOST_RUNGS", "with_rung", "runs_of", "all_cores"]
def ls3 : List Str := ["closest", "_law_tape", "_law_pick", "_law_edges", "_law_small_line", "_law_on", "_law_is_line", "_law_same", "_law_going", "_law_unlike", "_law_ladders", "_law_due", "_law_goal", "_law_is_right"]
def loose : List Str := ls0 ++ ls1 ++ ls2 ++ ls3
def tf : List He.Defn := [("where_unlike", none)]
abbrev R : PySem.W.OpenRow := PySem.W.OpenLaw.row PySem.Challenge.rw_lateedges_k62_whole_closest_rows
abbrev hk : PySem.W.Hook := He.hookX 5 fa fn [] tf (fun _ => true)
def ob (s : PySem.W.SharedT) : He.AlX := He.obsX 5 fa fn [] tf (fun _ => true) (HandSHeadRun.getT s)
theorem ob_eq (s : PySem.W.SharedT) : ob s = hk.obs s.abs := He.obsX_eq (HandSHeadRun.getT_eq s)
theorem run (w : World) : HandSHeadRun.RunEq R (PySem.W.view R.prog [83]) hk ob 4000 loose w := by
  intro os
  kernel_rfl
end Hd
set_option maxHeartbeats 2400000
-- Fn1
/-! Fn1: _law_tape, law. -/
namespace Pg
open PySem L2 Dl Mx Hr LamX Tp
section
variable {K : PySem.W.Frag} {P : Program} {w : World} {mg : Str → Option Value} {base : Heap}
abbrev s__law_tape : Stmt := top 70
def spTape (K : PySem.W.Frag) : Sp := fun vs H Q _ => ∃ (a : Addr) (ns : List Int), vs = [.ref a] ∧ SqL K H a (ns.map V.int) ∧ ns.length ≤ 63 ∧
  ∀ (p q : Addr) (H' : Hp), Evl.Ex H H' → H' p = some (.lst [.ref q, .int 0, .int 0, .int 1, .int 0]) → H' q = some (.lst (ns.map V.int)) → Q (.ref p) H'
theorem ok__law_tape {f : Addr} {fd : FuncData} (F : Fun K "_law_tape" "_law_tape" s__law_tape f fd) (B : Bi mg) : FnOk P w K mg base CX0 1 f fd ["_law_script"] (spTape K) := by
  refine F.ok (N := ["_law_script"]) ⟨rfl, rfl, rfl, by decide +kernel, rfl, by decide +kernel, by decide +kernel⟩ (fun vs H Q E h => ?_) (fun cdv A outer s H vs Q E hr h => ?_)
  · obtain ⟨a, ns, rfl, _⟩ := h
    rfl
  · obtain ⟨a, ns, rfl, hS, hl, k⟩ := h
    refine ⟨_, pss_cons (ps_ret (pe_lst (pa_cons (pe_callTy call_list_of (by rfl) B.list (by decide +kernel) (pa_cons (pv 0) pa_nil)) (pa_cons pe_int (pa_cons pe_int (pa_cons pe_int (pa_cons pe_int pa_nil))))))) pss_never, ?_⟩
    refine ⟨_, rfl, a, ns.map V.int, rfl, .inl hS, fun q hq => ?_⟩
    refine ⟨Nat.le_of_ble_eq_true rfl, fun p hp => ?_⟩
    have e1 : Evl.Ex H (upd H q (.lst (ns.map V.int))) := Evl.Ex.new hq
    have e2 := Evl.Ex.new (o := .lst [.ref q, .int 0, .int 0, .int 1, .int 0]) hp
    exact k p q _ (e1.trans e2) upd_same (e2 _ _ upd_same)
def spLaw (K : PySem.W.Frag) (P0 : Addr) : Sp := fun vs H Q _ => ∃ (a : Addr) (ns : List Int), vs = [.ref a] ∧ SqL K H a (ns.map V.int) ∧ ns.length ≤ 63 ∧ Tabs [(P0, qLam)] H ∧ ∀ H', Q (.bl true) H'
/-- what the law's body calls -/
structure Calls0 (P : Program) (w : World) (K : PySem.W.Frag) (mg : Str → Option Value) (base : Heap) (L : Dl.Lay) : Prop where
  pick : Cal P w K mg base 1 "_law_pick" ["_law_tape_here", "_law_many"] (spG L gLawPick)
  line : Cal P w K mg base 3 "_law_small_line" ["_law_tape_here", "_law_most"] (spG L gLawSmallLine)
  goal : Cal P w K mg base 5 "_law_goal" ["_law_tape_here", "_law_line"] (spG L gLawGoal)
  right : Cal P w K mg base 11 "_law_is_right" ["_law_line", "_law_goal_here", "_law_most"] (spG L gLawIsRight)
  cls : Cal P w K mg base 7 "closest" ["line", "goal", "most"] (spG L gClosest)
  lat : Cal P w K mg base 4 "later" ["line", "ticks"] (spG L gLater)
abbrev nLaw : List Str := ["_law_script", "_law_tape_here", "_law_line", "_law_goal_here", "_law_most", "_law_told", "_law_far"]
theorem ok_law {f fT P0 : Addr} {fd fdT : FuncData} (F : Fun K "law" "law" s_law f fd) (B : Bi mg) (FT : Fun K "_law_tape" "_law_tape" s__law_tape fT fdT) (mT : mg "_law_tape" = some (.ref fT)) (bT : Binds K fdT ["_law_script"] [])
    (CA : ∀ L : Dl.Lay, L.T = [(P0, qLam)] → Calls0 P w K mg base L) : FnOk P w K mg base CX0 12 f fd ["_law_script"] (spLaw K P0) := by
  refine F.ok (N := nLaw) ⟨rfl, rfl, rfl, by decide +kernel, rfl, by decide +kernel, by decide +kernel⟩ (fun vs H Q E h => ?_) (fun cdv A outer s H vs Q E hr h => ?_)
  · obtain ⟨a, ns, rfl, _⟩ := h
    rfl
  · obtain ⟨a, ns, rfl, hS, hl, hT, k⟩ := h
    have nd : nLaw.Nodup := by decide +kernel
    refine ⟨_, pss_sem, ?_⟩
    refine vs_of (X := (cxOf CX0 P w K mg base nLaw "law" (defScope s_law) f cdv A outer s H E).nox) (pss_cons (ps_set (i := 1) nd rfl (Or.inl rfl) (pe_call (ok__law_tape FT B) (hr.mono (by decide)) (by rfl) mT FT.kp bT .nil pass0 (pa_cons (pv 0) pa_nil))) Dl.pss_sem) ?_
    refine ⟨_, rfl, a, ns, rfl, hS, hl, fun p q H' ex hp hq => ?_⟩
    have hL : (⟨[(P0, qLam)], some (p, q)⟩ : Dl.Lay).T = [(P0, qLam)] := rfl
    have C := CA ⟨[(P0, qLam)], some (p, q)⟩ hL
    have gd : Good ⟨[(P0, qLam)], some (p, q)⟩ H' := ⟨hT.ext ex, fun z hz => by
      cases hz
      exact ⟨ns, 0, 0, 1, 0, hp, hq, Nat.zero_le _, by decide, by decide, by decide, hl⟩⟩
    have E0 : En ⟨[(P0, qLam)], some (p, q)⟩ ⟨[], []⟩ H' H' (L2.start nLaw [.ref a, .ref p]) (ini [.any, .tape] nLaw.length) :=
      en_ini gd (.cons trivial (.cons ⟨(p, q), rfl, rfl⟩ .nil)) rfl (Nat.le_of_ble_eq_true rfl)
    exact rest_law B C.pick C.line C.goal C.right C.cls C.lat cdv A outer s H E hr ⟨[], []⟩ H' H' _ _ E0 ⟨fun _ _ _ z _ => z.elim, fun r v H2 z e g rv => by
      subst z
      obtain rfl := rv_bl rv
      exact k H2, fun _ _ _ z _ => z.elim, fun _ _ _ z _ => z.elim⟩
end
end Pg
set_option maxHeartbeats 0
-- Fn2
/-! Fn2: every def by the head's facts. -/
namespace Fin
open PySem L2 Dl Mx Hr LamX Pg Cm Hd
theorem fun_of {K : PySem.W.Frag} {x qual : Str} {st : Stmt} {f : Addr} {fd : FuncData} (F : FunD K x qual (defArgs st) (defBody st) (defScope st) [] [] f fd) : Fun K x qual st f fd := by
  obtain ⟨a1, a2, a3, a4, a5, a6, a7, a8, a9, a10, rfl, e1, e2, e3, _⟩ := F.ex
  rcases e3 with ⟨_, rfl⟩ | ⟨ne, _⟩
  · exact ⟨⟨a1, a2, a4, a5, a6, a7, a8, a9, a10, rfl, e1, e2⟩, F.kp⟩
  · exact absurd rfl ne
theorem funC_of {K : PySem.W.Frag} {x : Str} {st : Stmt} {fd : FuncData} (F : FunD K x x (defArgs st) (defBody st) (defScope st) [] [] (He.ga K x) fd) : FunC K x x st (He.ga K x) fd (He.cT K (x, none)).1 := by
  obtain ⟨a1, a2, a3, a4, a5, a6, a7, a8, a9, a10, rfl, e1, e2, _, _⟩ := F.ex
  obtain ⟨c, rfl⟩ := He.codeIn_ref e2
  have e : He.codeOf K (x, none) = c := He.codeOf_eq (p := (x, none)) e1 rfl
  show FunC K x x st (He.ga K x) _ (He.codeOf K (x, none))
  rw [e]
  exact ⟨a1, a2, a3, a4, a5, a6, a7, a9, a10, rfl, e1, e2⟩
section
variable {P : Program} {w : World} {K : PySem.W.Frag} {mg : Str → Option Value} {base h : Heap}
theorem cal_mk {x : Str} {i k : Nat} {ps : List Str} {sp : Sp} (X : K.In h) (G : h.Ns mainGlobals mg) (c : He.SaysD fa fn K) (n j : Nat) (hd : fn[n]? = some (dd x i)) (hf : fa[j]? = some (.glo x))
    (hb : ∀ (kV doc pm : Value) (an : Option Addr) (cdv ct : Value) (us : List Value), us.length = ps.length → bindArgs (PySem.W.fnOf x x (defArgs (top i)) (defBody (top i)) (defScope (top i)) .none kV doc pm an cdv ct) ⟨us, []⟩ = pure (ps.zip us))
    (ok : ∀ f fd, Fun K x x (top i) f fd → FnOk P w K mg base CX0 k f fd ps sp) : Cal P w K mg base k x ps sp := by
  obtain ⟨fd, F⟩ := c.def_ n hd
  have F1 := fun_of (x := x) (qual := x) (st := top i) F
  exact cal_of F1 (He.glo_ok X G (c.fact j hf)) (F1.binds (h := hb)) (ok _ _ F1)
/-- a def by its place: its object, where the module's name leads -/
theorem def_mk {x : Str} {i : Nat} {ps : List Str} (X : K.In h) (G : h.Ns mainGlobals mg) (c : He.SaysD fa fn K) (n j : Nat) (hd : fn[n]? = some (dd x i)) (hf : fa[j]? = some (.glo x))
    (hb : ∀ (kV doc pm : Value) (an : Option Addr) (cdv ct : Value) (us : List Value), us.length = ps.length → bindArgs (PySem.W.fnOf x x (defArgs (top i)) (defBody (top i)) (defScope (top i)) .none kV doc pm an cdv ct) ⟨us, []⟩ = pure (ps.zip us)) :
    ∃ fd, Fun K x x (top i) (He.ga K x) fd ∧ mg x = some (.ref (He.ga K x)) ∧ Binds K fd ps [] := by
  obtain ⟨fd, F⟩ := c.def_ n hd
  have F1 := fun_of (x := x) (qual := x) (st := top i) F
  exact ⟨fd, F1, He.glo_ok X G (c.fact j hf), F1.binds (h := hb)⟩
theorem meth_mk {m q : Str} {i : Nat} {ps : List Str} (c : He.SaysD fa fn K) (n : Nat) (hd : fn[n]? = some (dm m q i))
    (hb : ∀ (kV doc pm : Value) (an : Option Addr) (cdv ct : Value) (us : List Value), us.length = ps.length → bindArgs (PySem.W.fnOf m q (defArgs (inClass (top 41) i)) (defBody (inClass (top 41) i)) (defScope (inClass (top 41) i)) .none kV doc pm an cdv ct) ⟨us, []⟩ = pure (ps.zip us)) :
    ∃ fd, Fun K m q (inClass (top 41) i) (He.ma K (He.ga K "Climb") m) fd ∧ Binds K fd ps [] := by
  obtain ⟨fd, F⟩ := c.def_ n hd
  have F1 := fun_of (x := m) (qual := q) (st := inClass (top 41) i) F
  exact ⟨fd, F1, F1.binds (h := hb)⟩
theorem bi_of (X : K.In h) (G : h.Ns mainGlobals mg) (c : He.SaysD fa fn K) : Bi mg := ⟨He.free_ok X G (c.fact 65 (f := .free "isinstance") rfl), He.free_ok X G (c.fact 66 (f := .free "len") rfl), He.free_ok X G (c.fact 67 (f := .free "int") rfl), He.free_ok X G (c.fact 68 (f := .free "bool") rfl), He.free_ok X G (c.fact 69 (f := .free "tuple") rfl), He.free_ok X G (c.fact 70 (f := .free "str") rfl), He.free_ok X G (c.fact 71 (f := .free "all") rfl), He.free_ok X G (c.fact 72 (f := .free "range") rfl), He.free_ok X G (c.fact 73 (f := .free "sorted") rfl), He.free_ok X G (c.fact 74 (f := .free "sum") rfl), He.free_ok X G (c.fact 75 (f := .free "enumerate") rfl), He.free_ok X G (c.fact 76 (f := .free "list") rfl), He.free_ok X G (c.fact 77 (f := .free "set") rfl)⟩
theorem calls (X : K.In h) (G : h.Ns mainGlobals mg) (c : He.SaysD fa fn K) {P0 c0 : Addr} {fdW : FuncData} (FW : FunC K "where_unlike" "where_unlike" (top 26) (He.ga K "where_unlike") fdW c0) (kW : PySem.W.keepIn K (.ref (He.ga K "where_unlike")) = true) (bW : Binds K fdW ["one", "other"] []) (TB : TabB base mg c0 P0) (L : Dl.Lay) (hL : L.T = [(P0, qLam)]) : Calls0 P w K mg base L := by
  have B := bi_of X G c
  obtain ⟨t6, m6⟩ := He.int_ok X G (c.fact 78 (f := .int "MOST_DEEP" 6) rfl)
  obtain ⟨t4, m4⟩ := He.int_ok X G (c.fact 79 (f := .int "MOST_RUNGS" 4) rfl)
  have T : Txt K mg (He.ga K "Climb") := ⟨He.cls_ok (c.fact 80 (f := .cls "Climb") rfl), He.noat_ok (c.fact 81 (f := .noat "Climb" "lead") rfl), He.noat_ok (c.fact 82 (f := .noat "Climb" "high") rfl), He.noat_ok (c.fact 83 (f := .noat "Climb" "deep") rfl), He.noat_ok (c.fact 84 (f := .noat "Climb" "runs") rfl)⟩
  have mN := He.meth_ok (c.fact 85 (f := .meth "Climb" "note") rfl)
  have mG := He.meth_ok (c.fact 86 (f := .meth "Climb" "go_to") rfl)
  have M := He.mkr_ok (c.fact 87 (f := .mkr "Climb") rfl)
  have mC := He.glo_ok X G (c.fact 64 (f := .glo "Climb") rfl)
  obtain ⟨_, FI, bI⟩ := meth_mk (m := "__init__") (q := "Climb.__init__") (i := 0) (ps := ["self"]) c 64 rfl (fun _ _ _ _ _ _ us hl => match us, hl with | [_], _ => rfl)
  have GI : FnOk P w K mg base CX0 1 _ _ ["self"] (spInit L (He.ga K "Climb")) := ok_init FI T
  obtain ⟨_, FN, bN⟩ := meth_mk (m := "note") (q := "Climb.note") (i := 1) (ps := ["self", "word", "many"]) c 65 rfl (fun _ _ _ _ _ _ us hl => match us, hl with | [_, _, _], _ => rfl)
  have GN : FnOk P w K mg base CX0 1 _ _ ["self", "word", "many"] (spNote L (He.ga K "Climb")) := ok_note FN T B.len
  obtain ⟨_, FG, bG⟩ := meth_mk (m := "go_to") (q := "Climb.go_to") (i := 2) (ps := ["self", "lead"]) c 66 rfl (fun _ _ _ _ _ _ us hl => match us, hl with | [_, _], _ => rfl)
  have GG : FnOk P w K mg base CX0 2 _ _ ["self", "lead"] (spGo L (He.ga K "Climb")) := ok_go FG T GN bN mN
  have c_is_integer : Cal P w K mg base 1 "is_integer" ["thing"] (spG L gIsInteger) := cal_mk (i := 8) X G c 0 0 rfl rfl (fun _ _ _ _ _ _ us hl => match us, hl with | [_], _ => rfl) fun f fd F => ok_is_integer F B 
  have c_is_flag : Cal P w K mg base 1 "is_flag" ["thing"] (spG L gIsFlag) := cal_mk (i := 9) X G c 1 1 rfl rfl (fun _ _ _ _ _ _ us hl => match us, hl with | [_], _ => rfl) fun f fd F => ok_is_flag F B 
  have c_is_within : Cal P w K mg base 2 "is_within" ["thing", "least", "most"] (spG L gIsWithin) := cal_mk (i := 10) X G c 2 2 rfl rfl (fun _ _ _ _ _ _ us hl => match us, hl with | [_, _, _], _ => rfl) fun f fd F => ok_is_within F B c_is_integer
  have c_is_pair : Cal P w K mg base 1 "is_pair" ["thing"] (spG L gIsPair) := cal_mk (i := 11) X G c 3 3 rfl rfl (fun _ _ _ _ _ _ us hl => match us, hl with | [_], _ => rfl) fun f fd F => ok_is_pair F B 
  have c_is_triple : Cal P w K mg base 1 "is_triple" ["thing"] (spG L gIsTriple) := cal_mk (i := 12) X G c 4 4 rfl rfl (fun _ _ _ _ _ _ us hl => match us, hl with | [_], _ => rfl) fun f fd F => ok_is_triple F B 
  have c_is_rising : Cal P w K mg base 1 "is_rising" ["items"] (spG L gIsRising) := cal_mk (i := 13) X G c 5 5 rfl rfl (fun _ _ _ _ _ _ us hl => match us, hl with | [_], _ => rfl) fun f fd F => ok_is_rising F B 
  have c_check_tick : Cal P w K mg base 2 "check_tick" ["thing"] (spG L gCheckTick) := cal_mk (i := 14) X G c 6 6 rfl rfl (fun _ _ _ _ _ _ us hl => match us, hl with | [_], _ => rfl) fun f fd F => ok_check_tick F B c_is_integer
  have c_check_number : Cal P w K mg base 3 "check_number" ["thing", "least", "most"] (spG L gCheckNumber) := cal_mk (i := 15) X G c 7 7 rfl rfl (fun _ _ _ _ _ _ us hl => match us, hl with | [_, _, _], _ => rfl) fun f fd F => ok_check_number F B c_is_within
  have c_is_told_line : Cal P w K mg base 2 "is_told_line" ["thing"] (spG L gIsToldLine) := cal_mk (i := 17) X G c 8 8 rfl rfl (fun _ _ _ _ _ _ us hl => match us, hl with | [_], _ => rfl) fun f fd F => ok_is_told_line F B c_is_integer c_is_flag c_is_pair c_is_rising
  have c_check_line : Cal P w K mg base 3 "check_line" ["thing"] (spG L gCheckLine) := cal_mk (i := 18) X G c 9 9 rfl rfl (fun _ _ _ _ _ _ us hl => match us, hl with | [_], _ => rfl) fun f fd F => ok_check_line F B c_is_told_line
  have c_edges_up_to : Cal P w K mg base 1 "edges_up_to" ["line", "tick"] (spG L gEdgesUpTo) := cal_mk (i := 19) X G c 10 10 rfl rfl (fun _ _ _ _ _ _ us hl => match us, hl with | [_, _], _ => rfl) fun f fd F => ok_edges_up_to F B 
  have c_state_behind : Cal P w K mg base 1 "state_behind" ["line", "many"] (spG L gStateBehind) := cal_mk (i := 20) X G c 11 11 rfl rfl (fun _ _ _ _ _ _ us hl => match us, hl with | [_, _], _ => rfl) fun f fd F => ok_state_behind F B 
  have c_state_at : Cal P w K mg base 2 "state_at" ["line", "tick"] (spG L gStateAt) := cal_mk (i := 21) X G c 12 12 rfl rfl (fun _ _ _ _ _ _ us hl => match us, hl with | [_, _], _ => rfl) fun f fd F => ok_state_at F B c_edges_up_to c_state_behind
  have c_shifted : Cal P w K mg base 1 "shifted" ["line", "ticks"] (spG L gShifted) := cal_mk (i := 22) X G c 13 13 rfl rfl (fun _ _ _ _ _ _ us hl => match us, hl with | [_, _], _ => rfl) fun f fd F => ok_shifted F B 
  have c_later : Cal P w K mg base 4 "later" ["line", "ticks"] (spG L gLater) := cal_mk (i := 23) X G c 14 14 rfl rfl (fun _ _ _ _ _ _ us hl => match us, hl with | [_, _], _ => rfl) fun f fd F => ok_later F B c_check_line c_check_tick c_shifted
  have c_check_two : Cal P w K mg base 4 "check_two" ["one", "other"] (spG L gCheckTwo) := cal_mk (i := 27) X G c 17 17 rfl rfl (fun _ _ _ _ _ _ us hl => match us, hl with | [_, _], _ => rfl) fun f fd F => ok_check_two F B c_check_line
  have c_ticks_on : Cal P w K mg base 2 "ticks_on" ["line"] (spG L gTicksOn) := cal_mk (i := 28) X G c 18 18 rfl rfl (fun _ _ _ _ _ _ us hl => match us, hl with | [_], _ => rfl) fun f fd F => ok_ticks_on F B c_state_behind
  obtain ⟨_, FJ, mJ, bJ⟩ := def_mk (x := "joined") (i := 25) (ps := ["one", "other", "rule"]) X G c 15 15 rfl rfl (fun _ _ _ _ _ _ us hl => match us, hl with | [_, _, _], _ => rfl)
  have GJ : FnOk P w K mg base CX0 4 _ _ ["one", "other", "rule"] (spJoined L) := ok_joined FJ B c_state_at
  have c_where_unlike : Cal P w K mg base 5 "where_unlike" ["one", "other"] (spG L gWhereUnlike) := ⟨⟨_, _, He.glo_ok X G (c.fact 16 (f := .glo "where_unlike") rfl), kW, bW, ok_where_unlike FW B GJ mJ FJ.kp bJ TB hL⟩⟩
  have c_unlike_ticks : Cal P w K mg base 7 "unlike_ticks" ["one", "other"] (spG L gUnlikeTicks) := cal_mk (i := 29) X G c 19 19 rfl rfl (fun _ _ _ _ _ _ us hl => match us, hl with | [_, _], _ => rfl) fun f fd F => ok_unlike_ticks F B c_check_two (c_where_unlike.mono (by decide)) c_ticks_on
  have c_is_amount : Cal P w K mg base 2 "is_amount" ["thing"] (spG L gIsAmount) := cal_mk (i := 32) X G c 20 20 rfl rfl (fun _ _ _ _ _ _ us hl => match us, hl with | [_], _ => rfl) fun f fd F => ok_is_amount F B c_is_integer
  have c_is_gate : Cal P w K mg base 3 "is_gate" ["thing"] (spG L gIsGate) := cal_mk (i := 33) X G c 21 21 rfl rfl (fun _ _ _ _ _ _ us hl => match us, hl with | [_], _ => rfl) fun f fd F => ok_is_gate F B c_is_integer c_is_amount
  have c_is_row_of : Cal P w K mg base 4 "is_row_of" ["thing", "deep"] (spG L gIsRowOf) := cal_mk (i := 35) X G c 22 22 rfl rfl (fun _ _ _ _ _ _ us hl => match us, hl with | [_, _], _ => rfl) fun f fd F => ok_is_row_of F B c_is_gate
  have c_is_told_row : Cal P w K mg base 5 "is_told_row" ["thing"] (spG L gIsToldRow) := cal_mk (i := 36) X G c 23 23 rfl rfl (fun _ _ _ _ _ _ us hl => match us, hl with | [_], _ => rfl) fun f fd F => ok_is_told_row F B c_is_row_of m6
  have c_check_row : Cal P w K mg base 6 "check_row" ["thing"] (spG L gCheckRow) := cal_mk (i := 37) X G c 24 24 rfl rfl (fun _ _ _ _ _ _ us hl => match us, hl with | [_], _ => rfl) fun f fd F => ok_check_row F B c_is_told_row
  have c_late_by : Cal P w K mg base 1 "late_by" ["gate"] (spG L gLateBy) := cal_mk (i := 38) X G c 25 25 rfl rfl (fun _ _ _ _ _ _ us hl => match us, hl with | [_], _ => rfl) fun f fd F => ok_late_by F B 
  have c_sums_of : Cal P w K mg base 2 "sums_of" ["row"] (spG L gSumsOf) := cal_mk (i := 39) X G c 26 26 rfl rfl (fun _ _ _ _ _ _ us hl => match us, hl with | [_], _ => rfl) fun f fd F => ok_sums_of F B c_late_by
  obtain ⟨_, FK, mK, bK⟩ := def_mk (x := "climb_of") (i := 42) (ps := ["row"]) X G c 27 27 rfl rfl (fun _ _ _ _ _ _ us hl => match us, hl with | [_], _ => rfl)
  have GK : FnOk P w K mg base CX0 4 _ _ ["row"] (spClimb L (He.ga K "Climb")) := ok_climb_of FK T mC M GI bI GG bG mG c_late_by
  have kK := FK.kp
  have c_ladder_of : Cal P w K mg base 5 "ladder_of" ["row"] (spG L gLadderOf) := cal_mk (i := 43) X G c 28 28 rfl rfl (fun _ _ _ _ _ _ us hl => match us, hl with | [_], _ => rfl) fun f fd F => ok_ladder_of F B T GK bK mK kK
  have c_height_in : Cal P w K mg base 1 "height_in" ["ladder"] (spG L gHeightIn) := cal_mk (i := 44) X G c 29 29 rfl rfl (fun _ _ _ _ _ _ us hl => match us, hl with | [_], _ => rfl) fun f fd F => ok_height_in F B 
  have c_depth_in : Cal P w K mg base 1 "depth_in" ["ladder"] (spG L gDepthIn) := cal_mk (i := 45) X G c 30 30 rfl rfl (fun _ _ _ _ _ _ us hl => match us, hl with | [_], _ => rfl) fun f fd F => ok_depth_in F B 
  have c_is_rung_run : Cal P w K mg base 2 "is_rung_run" ["thing"] (spG L gIsRungRun) := cal_mk (i := 46) X G c 31 31 rfl rfl (fun _ _ _ _ _ _ us hl => match us, hl with | [_], _ => rfl) fun f fd F => ok_is_rung_run F B c_is_pair c_is_integer
  have c_is_ladder : Cal P w K mg base 3 "is_ladder" ["thing"] (spG L gIsLadder) := cal_mk (i := 47) X G c 32 32 rfl rfl (fun _ _ _ _ _ _ us hl => match us, hl with | [_], _ => rfl) fun f fd F => ok_is_ladder F B c_is_rung_run
  have c_is_told_shape : Cal P w K mg base 4 "is_told_shape" ["thing"] (spG L gIsToldShape) := cal_mk (i := 49) X G c 33 33 rfl rfl (fun _ _ _ _ _ _ us hl => match us, hl with | [_], _ => rfl) fun f fd F => ok_is_told_shape F B c_is_triple c_is_integer c_is_ladder c_depth_in c_height_in
  have c_check_shape : Cal P w K mg base 5 "check_shape" ["thing"] (spG L gCheckShape) := cal_mk (i := 50) X G c 34 34 rfl rfl (fun _ _ _ _ _ _ us hl => match us, hl with | [_], _ => rfl) fun f fd F => ok_check_shape F B c_is_told_shape
  have c_shape_of : Cal P w K mg base 6 "shape_of" ["row"] (spG L gShapeOf) := cal_mk (i := 51) X G c 35 35 rfl rfl (fun _ _ _ _ _ _ us hl => match us, hl with | [_], _ => rfl) fun f fd F => ok_shape_of F B c_sums_of c_ladder_of
  have c_gate_to : Cal P w K mg base 1 "gate_to" ["lead", "goal"] (spG L gGateTo) := cal_mk (i := 52) X G c 36 36 rfl rfl (fun _ _ _ _ _ _ us hl => match us, hl with | [_, _], _ => rfl) fun f fd F => ok_gate_to F B 
  have c_turnings : Cal P w K mg base 1 "turnings" ["told"] (spG L gTurnings) := cal_mk (i := 53) X G c 37 37 rfl rfl (fun _ _ _ _ _ _ us hl => match us, hl with | [_], _ => rfl) fun f fd F => ok_turnings F B 
  have c_normal_of : Cal P w K mg base 2 "normal_of" ["told"] (spG L gNormalOf) := cal_mk (i := 54) X G c 38 38 rfl rfl (fun _ _ _ _ _ _ us hl => match us, hl with | [_], _ => rfl) fun f fd F => ok_normal_of F B c_turnings c_gate_to
  have c_row_of : Cal P w K mg base 6 "row_of" ["told"] (spG L gRowOf) := cal_mk (i := 55) X G c 39 39 rfl rfl (fun _ _ _ _ _ _ us hl => match us, hl with | [_], _ => rfl) fun f fd F => ok_row_of F B c_check_shape c_normal_of
  have c_gone : Cal P w K mg base 2 "gone" ["first", "edges", "on", "most"] (spG L gGone) := cal_mk (i := 57) X G c 40 40 rfl rfl (fun _ _ _ _ _ _ us hl => match us, hl with | [_, _, _, _], _ => rfl) fun f fd F => ok_gone F B c_state_behind
  have c_without_places : Cal P w K mg base 1 "without_places" ["edges", "places"] (spG L gWithoutPlaces) := cal_mk (i := 58) X G c 41 41 rfl rfl (fun _ _ _ _ _ _ us hl => match us, hl with | [_, _], _ => rfl) fun f fd F => ok_without_places F B 
  have c_core_with : Cal P w K mg base 3 "core_with" ["line", "ladder"] (spG L gCoreWith) := cal_mk (i := 59) X G c 42 42 rfl rfl (fun _ _ _ _ _ _ us hl => match us, hl with | [_, _], _ => rfl) fun f fd F => ok_core_with F B c_gone c_without_places
  have c_made_late : Cal P w K mg base 2 "made_late" ["line", "on_sum", "off_sum"] (spG L gMadeLate) := cal_mk (i := 60) X G c 43 43 rfl rfl (fun _ _ _ _ _ _ us hl => match us, hl with | [_, _, _], _ => rfl) fun f fd F => ok_made_late F B c_state_behind
  have c_passed_by : Cal P w K mg base 4 "passed_by" ["line", "told"] (spG L gPassedBy) := cal_mk (i := 61) X G c 44 44 rfl rfl (fun _ _ _ _ _ _ us hl => match us, hl with | [_, _], _ => rfl) fun f fd F => ok_passed_by F B c_core_with c_made_late
  have c_passed : Cal P w K mg base 7 "passed" ["line", "row"] (spG L gPassed) := cal_mk (i := 62) X G c 45 45 rfl rfl (fun _ _ _ _ _ _ us hl => match us, hl with | [_, _], _ => rfl) fun f fd F => ok_passed F B c_check_line c_check_row c_shape_of c_passed_by
  have c_with_rung : Cal P w K mg base 3 "with_rung" ["line", "on", "length"] (spG L gWithRung) := cal_mk (i := 65) X G c 46 46 rfl rfl (fun _ _ _ _ _ _ us hl => match us, hl with | [_, _, _], _ => rfl) fun f fd F => ok_with_rung F B c_gone c_without_places
  have c_runs_of : Cal P w K mg base 4 "runs_of" ["steps"] (spG L gRunsOf) := cal_mk (i := 66) X G c 47 47 rfl rfl (fun _ _ _ _ _ _ us hl => match us, hl with | [_], _ => rfl) fun f fd F => ok_runs_of F B T mC M GI bI GN bN mN
  have c_all_cores : Cal P w K mg base 5 "all_cores" ["line", "most"] (spG L gAllCores) := cal_mk (i := 67) X G c 48 48 rfl rfl (fun _ _ _ _ _ _ us hl => match us, hl with | [_, _], _ => rfl) fun f fd F => ok_all_cores F B c_with_rung c_runs_of
  have c_closest : Cal P w K mg base 7 "closest" ["line", "goal", "most"] (spG L gClosest) := cal_mk (i := 68) X G c 49 49 rfl rfl (fun _ _ _ _ _ _ us hl => match us, hl with | [_, _, _], _ => rfl) fun f fd F => ok_closest F B c_check_two c_check_number c_all_cores (c_where_unlike.mono (by decide)) c_ticks_on m4
  have c__law_pick : Cal P w K mg base 1 "_law_pick" ["_law_tape_here", "_law_many"] (spG L gLawPick) := cal_mk (i := 71) X G c 51 51 rfl rfl (fun _ _ _ _ _ _ us hl => match us, hl with | [_, _], _ => rfl) fun f fd F => ok__law_pick F B 
  have c__law_edges : Cal P w K mg base 2 "_law_edges" ["_law_tape_here", "_law_most", "_law_wide"] (spG L gLawEdges) := cal_mk (i := 72) X G c 52 52 rfl rfl (fun _ _ _ _ _ _ us hl => match us, hl with | [_, _, _], _ => rfl) fun f fd F => ok__law_edges F B c__law_pick
  have c__law_small_line : Cal P w K mg base 3 "_law_small_line" ["_law_tape_here", "_law_most"] (spG L gLawSmallLine) := cal_mk (i := 73) X G c 53 53 rfl rfl (fun _ _ _ _ _ _ us hl => match us, hl with | [_, _], _ => rfl) fun f fd F => ok__law_small_line F B c__law_pick c__law_edges
  have c__law_on : Cal P w K mg base 1 "_law_on" ["_law_line", "_law_tick"] (spG L gLawOn) := cal_mk (i := 74) X G c 54 54 rfl rfl (fun _ _ _ _ _ _ us hl => match us, hl with | [_, _], _ => rfl) fun f fd F => ok__law_on F B 
  have c__law_is_line : Cal P w K mg base 1 "_law_is_line" ["_law_thing"] (spG L gLawIsLine) := cal_mk (i := 75) X G c 55 55 rfl rfl (fun _ _ _ _ _ _ us hl => match us, hl with | [_], _ => rfl) fun f fd F => ok__law_is_line F B 
  have c__law_same : Cal P w K mg base 2 "_law_same" ["_law_told", "_law_due_here"] (spG L gLawSame) := cal_mk (i := 76) X G c 56 56 rfl rfl (fun _ _ _ _ _ _ us hl => match us, hl with | [_, _], _ => rfl) fun f fd F => ok__law_same F B c__law_is_line
  have c__law_going : Cal P w K mg base 1 "_law_going" ["_law_line", "_law_runs"] (spG L gLawGoing) := cal_mk (i := 77) X G c 57 57 rfl rfl (fun _ _ _ _ _ _ us hl => match us, hl with | [_, _], _ => rfl) fun f fd F => ok__law_going F B 
  have c__law_unlike : Cal P w K mg base 2 "_law_unlike" ["_law_one", "_law_other"] (spG L gLawUnlike) := cal_mk (i := 78) X G c 58 58 rfl rfl (fun _ _ _ _ _ _ us hl => match us, hl with | [_, _], _ => rfl) fun f fd F => ok__law_unlike F B c__law_on
  have c__law_ladders : Cal P w K mg base 1 "_law_ladders" ["_law_most"] (spG L gLawLadders) := cal_mk (i := 79) X G c 59 59 rfl rfl (fun _ _ _ _ _ _ us hl => match us, hl with | [_], _ => rfl) fun f fd F => ok__law_ladders F B 
  have c__law_due : Cal P w K mg base 3 "_law_due" ["_law_line", "_law_goal_here", "_law_most"] (spG L gLawDue) := cal_mk (i := 80) X G c 60 60 rfl rfl (fun _ _ _ _ _ _ us hl => match us, hl with | [_, _, _], _ => rfl) fun f fd F => ok__law_due F B c__law_ladders c__law_going c__law_unlike
  have c__law_goal : Cal P w K mg base 4 "_law_goal" ["_law_tape_here", "_law_line"] (spG L gLawGoal) := cal_mk (i := 81) X G c 61 61 rfl rfl (fun _ _ _ _ _ _ us hl => match us, hl with | [_, _], _ => rfl) fun f fd F => ok__law_goal F B c__law_pick c__law_ladders c__law_going c__law_small_line
  have c__law_is_right : Cal P w K mg base 11 "_law_is_right" ["_law_line", "_law_goal_here", "_law_most"] (spG L gLawIsRight) := cal_mk (i := 82) X G c 62 62 rfl rfl (fun _ _ _ _ _ _ us hl => match us, hl with | [_, _, _], _ => rfl) fun f fd F => ok__law_is_right F B c__law_due c_closest c__law_same c_unlike_ticks (c_passed.mono (by decide)) c_row_of
  exact ⟨c__law_pick, c__law_small_line, c__law_goal.mono (by decide), c__law_is_right, c_closest, c_later⟩
theorem facts {l : PySem.W.OpenLaw} {f : Addr} (X : K.In h) (G : h.Ns mainGlobals mg) (hfa : mg "law" = some (.ref f)) (c : He.SaysX fa fn [] tf (fun _ => true) w h K) : LawAtS l w K CX0 12 63 "_law_script" mg f h := by
  have cd := c.t.d
  obtain ⟨fdW, FW⟩ := cd.def_ 16 (d := dd "where_unlike" 26) rfl
  have FW1 := fun_of (x := "where_unlike") (qual := "where_unlike") (st := top 26) FW
  have bW : Binds K fdW ["one", "other"] [] := FW1.binds (fun _ _ _ _ _ _ us hl => match us, hl with | [_, _], _ => rfl)
  obtain ⟨fd, FL, mL, bL⟩ := def_mk (x := "law") (i := 83) (ps := ["_law_script"]) X G cd 63 63 rfl rfl (fun _ _ _ _ _ _ us hl => match us, hl with | [_], _ => rfl)
  obtain ⟨fdT, FT, mT, bT⟩ := def_mk (x := "_law_tape") (i := 70) (ps := ["_law_script"]) X G cd 50 50 rfl rfl (fun _ _ _ _ _ _ us hl => match us, hl with | [_], _ => rfl)
  have e := hfa.symm.trans mL
  cases e
  have B := bi_of X G cd
  have hm : (("where_unlike" : Str), (none : Option Str)) ∈ tf := List.mem_singleton.mpr rfl
  refine ⟨fd, [He.cT K ("where_unlike", none)], spLaw K (He.cT K ("where_unlike", none)).2, fun p hp => ?_, fun p hp => ?_, fun p hp => ?_, fun s u => ?_, fun H a ns hl _ hT hS => ?_, fun base Xb Gb TB => ?_⟩
  · rw [List.mem_singleton.mp hp]; exact c.empty _ hm
  · rw [List.mem_singleton.mp hp]; exact c.out _ hm
  · rw [List.mem_singleton.mp hp]; exact PySem.W.codeHd_of_K X (c.hd _ hm)
  · obtain ⟨a1, a2, a4, a5, a6, a7, a8, a9, a10, rfl, e1, e2⟩ := FL.ex
    exact .of_eq rfl
  · refine ⟨a, ns, rfl, hS, hl, fun p hp => ?_, fun _ => rfl⟩
    rw [List.mem_singleton.mp hp]
    exact TabS.nil (hT _ (List.mem_singleton.mpr rfl))
  · have TB1 := TB _ (List.mem_singleton.mpr rfl)
    exact ok_law FL B FT mT bT fun L hL => calls X G cd (funC_of FW) FW.kp bW TB1 L hL
end
end Fin
-- Fn3
open PySem PySem.Calls PySem.W PyProof.Rows
theorem PySem.Challenge.cw_lateedges_k62_whole_closest_rows_holds : PySem.Challenge.rw_lateedges_k62_whole_closest_rows.Holds := by
  w_on; o_law
  refine HandSHeadRun.head_any (r := OpenLaw.row PySem.Challenge.rw_lateedges_k62_whole_closest_rows) (q := view (OpenLaw.row PySem.Challenge.rw_lateedges_k62_whole_closest_rows).prog [83]) (H := Hd.hk) (ob := Hd.ob) (M := 4000) (loose := Hd.loose) (d := HandSHeadRun.topDef (OpenLaw.row PySem.Challenge.rw_lateedges_k62_whole_closest_rows).prog 83) (kwd := []) Hd.ob_eq
    (by kernel_rfl) (fun s => by kernel_rfl) Hd.run (by kernel_rfl) (by kernel_rfl) (by kernel_rfl) (by rfl) (by first | assumption | decide +kernel) (by decide +kernel) ⟨rfl, rfl, rfl, rfl, rfl, by decide +kernel⟩ ?hw ?hc
  case hw => w_witness2
  case hc =>
    refine LamX.walk_ofTsE (l := PySem.Challenge.rw_lateedges_k62_whole_closest_rows) (n := 63) (k := 12) (x := "_law_script") (CX := fun _ => L2.CX0) rfl (by decide) (by kernel_rfl) ⟨rfl, by decide, by decide⟩ ?F (fun _ _ _ _ _ z => z)
    intro w mg fa h Y G hmg0
    obtain ⟨K, KX, c⟩ := Y
    have at1 : mg ("law" : PySem.Str) = some (.ref fa) := by
      have e : (HandSHeadRun.topDef (OpenLaw.row PySem.Challenge.rw_lateedges_k62_whole_closest_rows).prog 83).name = ("law" : PySem.Str) := by kernel_rfl
      rw [← e]
      exact hmg0
    exact ⟨K, KX, Fin.facts KX G at1 c⟩
