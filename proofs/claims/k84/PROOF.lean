import PyProof.Rows.All
import Wide.All
import OpenK.AllK
import Wide.FinOn
import KE.KStateDown
import KE.KDictKeyed
import KE.SortData
import HandS.ForMost
import HandS.ForExc
import HandS.Defaults
import HandS.Nested
import HandS.Zip
import HandS.IsInst
import HandS.DictComp
import HandS.Style
import HandS.SetKeys
import HandS.TupLe
import HandS.TupAny
import HandS.TupMul
import HandS.SortInts
import HandS.Flow
import HandS.HeadHook2
import KE.GoesEnum
import PyProof.Draws
import KE.DataCmp
import HandS.Lambda
import HandS.HeadHook4
import KE.DataMinMax
import HandS.SortKw
import HandS.Wide
import HandS.Conv
import KE.KDictCopyH
import HandS.TupSets
import HandS.SetFor
import HandS.Strs
import HandS.Deep
import HandS.Gcd
import HandS.Base
import HandS.Call
import HandS.Ends
import HandS.More
import HandS.Words
import HandS.WordsExc
import HandS.Head0
import HandS.Head1
import HandS.Head2
import HandS.Head3
import HandS.HeadEnd
import HandS.HeadHook1
import HandS.HeadHook3
import HandS.HeadWalk
import PySem.Challenge.RW_textsturned_k84_rates_of_loops
set_option Elab.async false
set_option linter.all false
set_option maxRecDepth 100000
set_option maxHeartbeats 2000000
namespace TK
open PySem L2 NdefX LamX
class TC where
  T : List NTab
variable [TC]
inductive D where
  | non | bl (b : Bool) | int (i : Int) | str (s : Str) | tup (l : List D)
mutual
inductive Rp (H : Hp) : V → D → Prop
  | non : Rp H .non .non
  | bl (b : Bool) : Rp H (.bl b) (.bl b)
  | int (i : Int) : Rp H (.int i) (.int i)
  | str (s : Str) : Rp H (.str s) (.str s)
  | tup {a : Addr} {vs : List V} {ds : List D} : H a = some (.tup vs) → RpL H vs ds → Rp H (.ref a) (.tup ds)
inductive RpL (H : Hp) : List V → List D → Prop
  | nil : RpL H [] []
  | cons {v : V} {vs : List V} {d : D} {ds : List D} : Rp H v d → RpL H vs ds → RpL H (v :: vs) (d :: ds)
end
def TK (H H' : Hp) : Prop := ∀ a xs, H a = some (.tup xs) → H' a = some (.tup xs)
mutual
theorem Rp.mono {H H' : Hp} (k : TK H H') : ∀ {v : V} {d : D}, Rp H v d → Rp H' v d
  | _, _, .non => .non
  | _, _, .bl b => .bl b
  | _, _, .int i => .int i
  | _, _, .str s => .str s
  | _, _, .tup h r => .tup (k _ _ h) (RpL.mono k r)
theorem RpL.mono {H H' : Hp} (k : TK H H') : ∀ {vs : List V} {ds : List D}, RpL H vs ds → RpL H' vs ds
  | _, _, .nil => .nil
  | _, _, .cons h r => .cons (Rp.mono k h) (RpL.mono k r)
end
theorem RpL.length {H : Hp} : ∀ {vs : List V} {ds : List D}, RpL H vs ds → vs.length = ds.length
  | _, _, .nil => rfl
  | _, _, .cons _ r => by rw [List.length_cons, List.length_cons, RpL.length r]
theorem RpL.get {H : Hp} : ∀ {vs : List V} {ds : List D} {i : Nat} {d : D}, RpL H vs ds → ds[i]? = some d → ∃ v, vs[i]? = some v ∧ Rp H v d
  | _, _, _, _, .nil, e => by simp at e
  | _, _, 0, _, .cons h _, e => by simp at e; subst e; exact ⟨_, rfl, h⟩
  | _, _, i + 1, d, .cons _ r, e => by
    obtain ⟨v, h1, h2⟩ := RpL.get (i := i) (d := d) r (by simpa using e)
    exact ⟨v, by simpa using h1, h2⟩
theorem RpL.getV {H : Hp} : ∀ {vs : List V} {ds : List D} {i : Nat} {v : V}, RpL H vs ds → vs[i]? = some v → ∃ d, ds[i]? = some d ∧ Rp H v d
  | _, _, _, _, .nil, e => by simp at e
  | _, _, 0, _, .cons h _, e => by simp at e; subst e; exact ⟨_, rfl, h⟩
  | _, _, i + 1, v, .cons _ r, e => by
    obtain ⟨d, h1, h2⟩ := RpL.getV (i := i) (v := v) r (by simpa using e)
    exact ⟨d, by simpa using h1, h2⟩
theorem RpL.append {H : Hp} : ∀ {vs ws : List V} {ds es : List D}, RpL H vs ds → RpL H ws es → RpL H (vs ++ ws) (ds ++ es)
  | _, _, _, _, .nil, s => s
  | _, _, _, _, .cons h r, s => .cons h (RpL.append r s)
theorem RpL.take {H : Hp} : ∀ {vs : List V} {ds : List D} (n : Nat), RpL H vs ds → RpL H (vs.take n) (ds.take n)
  | _, _, 0, _ => .nil
  | _, _, _ + 1, .nil => .nil
  | _, _, n + 1, .cons h r => .cons h (RpL.take n r)
theorem RpL.drop {H : Hp} : ∀ {vs : List V} {ds : List D} (n : Nat), RpL H vs ds → RpL H (vs.drop n) (ds.drop n)
  | _, _, 0, r => r
  | _, _, _ + 1, .nil => .nil
  | _, _, n + 1, .cons _ r => RpL.drop n r
theorem RpL.reverse {H : Hp} {vs : List V} {ds : List D} (r : RpL H vs ds) : RpL H vs.reverse ds.reverse := by
  induction ds generalizing vs with
  | nil => cases r; exact .nil
  | cons d ds ih =>
    cases r with
    | cons h r =>
      rw [List.reverse_cons, List.reverse_cons]
      exact (ih r).append (.cons h .nil)
inductive A where
  | dat (d : D) | own (a : Addr)
def RpA (H : Hp) : V → A → Prop
  | v, .dat d => Rp H v d
  | v, .own a => v = .ref a
theorem RpA.mono {H H' : Hp} (k : TK H H') {v : V} {x : A} (r : RpA H v x) : RpA H' v x := by
  cases x with
  | dat d => exact Rp.mono k r
  | own a => exact r
inductive RpAL (H : Hp) : List V → List A → Prop
  | nil : RpAL H [] []
  | cons {v : V} {vs : List V} {d : A} {ds : List A} : RpA H v d → RpAL H vs ds → RpAL H (v :: vs) (d :: ds)
theorem RpAL.mono {H H' : Hp} (k : TK H H') : ∀ {vs : List V} {ds : List A}, RpAL H vs ds → RpAL H' vs ds
  | _, _, .nil => .nil
  | _, _, .cons h r => .cons (h.mono k) (RpAL.mono k r)
theorem RpAL.length {H : Hp} : ∀ {vs : List V} {ds : List A}, RpAL H vs ds → vs.length = ds.length
  | _, _, .nil => rfl
  | _, _, .cons _ r => by rw [List.length_cons, List.length_cons, RpAL.length r]
theorem RpAL.get {H : Hp} : ∀ {vs : List V} {ds : List A} {i : Nat} {d : A}, RpAL H vs ds → ds[i]? = some d → ∃ v, vs[i]? = some v ∧ RpA H v d
  | _, _, _, _, .nil, e => by simp at e
  | _, _, 0, _, .cons h _, e => by simp at e; subst e; exact ⟨_, rfl, h⟩
  | _, _, i + 1, d, .cons _ r, e => by
    obtain ⟨v, h1, h2⟩ := RpAL.get (i := i) (d := d) r (by simpa using e)
    exact ⟨v, by simpa using h1, h2⟩
theorem RpAL.getV {H : Hp} : ∀ {vs : List V} {ds : List A} {i : Nat} {v : V}, RpAL H vs ds → vs[i]? = some v → ∃ d, ds[i]? = some d ∧ RpA H v d
  | _, _, _, _, .nil, e => by simp at e
  | _, _, 0, _, .cons h _, e => by simp at e; subst e; exact ⟨_, rfl, h⟩
  | _, _, i + 1, v, .cons _ r, e => by
    obtain ⟨d, h1, h2⟩ := RpAL.getV (i := i) (v := v) r (by simpa using e)
    exact ⟨d, by simpa using h1, h2⟩
theorem RpAL.append {H : Hp} : ∀ {vs ws : List V} {ds es : List A}, RpAL H vs ds → RpAL H ws es → RpAL H (vs ++ ws) (ds ++ es)
  | _, _, _, _, .nil, s => s
  | _, _, _, _, .cons h r, s => .cons h (RpAL.append r s)
theorem RpAL.take {H : Hp} : ∀ {vs : List V} {ds : List A} (n : Nat), RpAL H vs ds → RpAL H (vs.take n) (ds.take n)
  | _, _, 0, _ => .nil
  | _, _, _ + 1, .nil => .nil
  | _, _, n + 1, .cons h r => .cons h (RpAL.take n r)
theorem RpAL.drop {H : Hp} : ∀ {vs : List V} {ds : List A} (n : Nat), RpAL H vs ds → RpAL H (vs.drop n) (ds.drop n)
  | _, _, 0, r => r
  | _, _, _ + 1, .nil => .nil
  | _, _, n + 1, .cons _ r => RpAL.drop n r
theorem RpAL.dropLast {H : Hp} : ∀ {vs : List V} {ds : List A}, RpAL H vs ds → RpAL H vs.dropLast ds.dropLast := fun {vs ds} r => by
  rw [List.dropLast_eq_take, List.dropLast_eq_take, r.length]
  exact r.take _
theorem RpAL.eraseIdx {H : Hp} : ∀ {vs : List V} {ds : List A} (n : Nat), RpAL H vs ds → RpAL H (vs.eraseIdx n) (ds.eraseIdx n)
  | _, _, _, .nil => .nil
  | _, _, 0, .cons _ r => r
  | _, _, n + 1, .cons h r => .cons h (RpAL.eraseIdx n r)
theorem RpAL.set {H : Hp} {v : V} {x : A} (h0 : RpA H v x) : ∀ {vs : List V} {ds : List A} (n : Nat), RpAL H vs ds → RpAL H (vs.set n v) (ds.set n x)
  | _, _, _, .nil => .nil
  | _, _, 0, .cons _ r => .cons h0 r
  | _, _, n + 1, .cons h r => .cons h (RpAL.set h0 n r)
theorem RpAL.dat {H : Hp} : ∀ {vs : List V} {ds : List D}, RpAL H vs (ds.map .dat) ↔ RpL H vs ds
  | vs, [] => ⟨fun r => by cases r; exact .nil, fun r => by cases r; exact .nil⟩
  | vs, d :: ds => ⟨fun r => by
      cases r with
      | cons h r => exact .cons h (RpAL.dat.mp r), fun r => by
      cases r with
      | cons h r => exact .cons h (RpAL.dat.mpr r)⟩
inductive C where
  | lst (xs : List A)
  | dk (kvs : List (Key × A))
  | raw (o : HO)
  | gen (φ : Hp → Addr → Prop)
def KA (H : Hp) : List (Key × A) → List (Key × V) → Prop := Paired fun p q => p.1 = q.1 ∧ RpA H q.2 p.2
theorem KA.mono {H H' : Hp} (k : TK H H') {l : List (Key × A)} {m : List (Key × V)} (r : KA H l m) : KA H' l m := Paired.mapP r fun _ _ h => ⟨h.1, h.2.mono k⟩
def C.at (H : Hp) (a : Addr) : C → Prop
  | .lst xs => ∃ vs, H a = some (.lst vs) ∧ RpAL H vs xs
  | .dk kvs => ∃ ks, H a = some (.dK ks) ∧ KA H kvs ks
  | .raw o => H a = some o
  | .gen φ => φ H a ∧ H a ≠ none ∧ ∀ H1 H2 : Hp, TK H1 H2 → (∀ o, H1 a = some o → H2 a = some o) → φ H1 a → φ H2 a
theorem C.at.there {H : Hp} {a : Addr} {c : C} (h : c.at H a) : H a ≠ none := by
  cases c with
  | lst xs => obtain ⟨_, e, _⟩ := h; rw [e]; simp
  | dk kvs => obtain ⟨_, e, _⟩ := h; rw [e]; simp
  | raw o => have e : H a = some o := h; rw [e]; simp
  | gen φ => exact h.2.1
theorem C.at.keep {H H' : Hp} {a : Addr} {c : C} (h : c.at H a) (k : TK H H') (e : ∀ o, H a = some o → H' a = some o) : c.at H' a := by
  cases c with
  | lst xs => obtain ⟨vs, q, r⟩ := h; exact ⟨vs, e _ q, r.mono k⟩
  | dk kvs => obtain ⟨ks, q, r⟩ := h; exact ⟨ks, e _ q, r.mono k⟩
  | raw o => exact e _ h
  | gen φ =>
    obtain ⟨h1, h2, h3⟩ := h
    refine ⟨h3 _ _ k e h1, fun z => ?_, h3⟩
    cases q : H a with
    | none => exact h2 q
    | some o => rw [e o q] at z; cases z
abbrev Mu := List (Addr × C)
abbrev Dl := List (Option A)
def keys (μ : Mu) : List Addr := μ.map (·.1)
structure Fr (M : List Addr) (H H' : Hp) : Prop where
  keep : ∀ b o, H b = some o → b ∉ M → (∀ ps, o ≠ .tbl ps) → H' b = some o
  tup : TK H H'
  free : ∀ b, H' b = none → H b = none
  tabs : TabsN TC.T H → TabsN TC.T H'
theorem Fr.refl (M : List Addr) (H : Hp) : Fr M H H := ⟨fun _ _ h _ _ => h, fun _ _ h => h, fun _ h => h, fun h => h⟩
theorem Fr.trans0 {M : List Addr} {H H1 H2 : Hp} (a : Fr M H H1) (b : Fr M H1 H2) : Fr M H H2 :=
  ⟨fun c o h m n => b.keep c o (a.keep c o h m n) m n, fun c xs h => b.tup c xs (a.tup c xs h), fun c h => a.free c (b.free c h), fun h => b.tabs (a.tabs h)⟩
theorem Fr.weak {M M' : List Addr} {H H' : Hp} (a : Fr M H H') (h : ∀ b ∈ M, b ∈ M') : Fr M' H H' := ⟨fun b o e m n => a.keep b o e (fun z => m (h b z)) n, a.tup, a.free, a.tabs⟩
theorem Fr.nil {M : List Addr} {H H' : Hp} (a : Fr [] H H') : Fr M H H' := a.weak fun _ h => nomatch h
structure FS (μ : Mu) (H : Hp) (μ' : Mu) (H' : Hp) : Prop where
  fr : Fr (keys μ) H H'
  new : ∀ a ∈ keys μ', a ∈ keys μ ∨ H a = none
theorem FS.refl (μ : Mu) (H : Hp) : FS μ H μ H := ⟨Fr.refl _ _, fun _ h => .inl h⟩
theorem FS.trans {μ μ1 μ2 : Mu} {H H1 H2 : Hp} (a : FS μ H μ1 H1) (b : FS μ1 H1 μ2 H2) : FS μ H μ2 H2 := by
  refine ⟨⟨fun c o h m n => b.fr.keep c o (a.fr.keep c o h m n) (fun z => ?_) n, fun c xs h => b.fr.tup c xs (a.fr.tup c xs h), fun c h => a.fr.free c (b.fr.free c h), fun h => b.fr.tabs (a.fr.tabs h)⟩, fun c h => ?_⟩
  · rcases a.new c z with q | q
    · exact m q
    · rw [h] at q; cases q
  · rcases b.new c h with q | q
    · exact a.new c q
    · exact .inr (a.fr.free c q)
theorem FS.of {μ : Mu} {H H' : Hp} (a : Fr [] H H') : FS μ H μ H' := ⟨a.nil, fun _ h => .inl h⟩
structure SM (μ : Mu) (H : Hp) : Prop where
  nd : (keys μ).Nodup
  own : ∀ p ∈ μ, p.2.at H p.1
  notbl : ∀ p ∈ μ, ∀ ps, H p.1 ≠ some (.tbl ps)
  tb : TabsN TC.T H
structure SA (δ : Dl) (μ : Mu) (σ : St) (H : Hp) : Prop where
  len : σ.length = δ.length
  slot : ∀ (i : Nat) (x : A), δ[i]? = some (some x) → ∃ v, σ[i]? = some (some v) ∧ RpA H v x
  mem : SM μ H
theorem SM.step {μ : Mu} {H H' : Hp} (m : SM μ H) (f : Fr [] H H') : SM μ H' := by
  refine ⟨m.nd, fun p hp => (m.own p hp).keep f.tup fun o e => f.keep _ _ e (by simp) fun ps z => m.notbl p hp ps (by rw [e, z]), fun p hp ps z => ?_, f.tabs m.tb⟩
  cases e : H p.1 with
  | none => exact (m.own p hp).there e
  | some o =>
    have q := f.keep p.1 o e (by simp) fun ps z => m.notbl p hp ps (by rw [e, z])
    rw [z] at q
    cases q
    exact m.notbl p hp ps e
theorem SA.step {δ : Dl} {μ : Mu} {σ : St} {H H' : Hp} (s : SA δ μ σ H) (f : Fr [] H H') : SA δ μ σ H' :=
  ⟨s.len, fun i x e => let ⟨v, h1, h2⟩ := s.slot i x e; ⟨v, h1, h2.mono f.tup⟩, s.mem.step f⟩
theorem SA.set {δ : Dl} {μ : Mu} {σ : St} {H : Hp} (s : SA δ μ σ H) (i : Nat) {v : V} {x : A} (r : RpA H v x) : SA (δ.set i (some x)) μ (σ.set i (some v)) H := by
  refine ⟨by simp [s.len], fun j y e => ?_, s.mem⟩
  by_cases hij : i = j
  · subst hij
    by_cases hl : i < δ.length
    · rw [List.getElem?_set_self hl] at e
      cases e
      exact ⟨v, by rw [List.getElem?_set_self (by rw [s.len]; exact hl)], r⟩
    · rw [List.getElem?_eq_none (by simpa using hl)] at e
      cases e
  · rw [List.getElem?_set_ne hij] at e
    obtain ⟨w, h1, h2⟩ := s.slot j y e
    exact ⟨w, by rw [List.getElem?_set_ne hij]; exact h1, h2⟩
theorem SA.weak {δ δ' : Dl} {μ : Mu} {σ : St} {H : Hp} (s : SA δ μ σ H) (hl : δ'.length = δ.length) (h : ∀ (i : Nat) (x : A), δ'[i]? = some (some x) → δ[i]? = some (some x)) : SA δ' μ σ H :=
  ⟨by rw [s.len, hl], fun i x e => s.slot i x (h i x e), s.mem⟩
theorem SM.sub {μ μ' : Mu} {H : Hp} (m : SM μ H) (h : List.Sublist μ' μ) : SM μ' H :=
  ⟨m.nd.sublist (h.map _), fun p hp => m.own p (h.subset hp), fun p hp => m.notbl p (h.subset hp), m.tb⟩
theorem SA.withM {δ : Dl} {μ μ' : Mu} {σ : St} {H H' : Hp} (s : SA δ μ σ H) (k : TK H H') (m : SM μ' H') : SA δ μ' σ H' :=
  ⟨s.len, fun i x e => let ⟨v, h1, h2⟩ := s.slot i x e; ⟨v, h1, h2.mono k⟩, m⟩
theorem nt_tup {xs : List V} : ∀ ps, HO.tup xs ≠ .tbl ps := by intro ps z; cases z
theorem nt_lst {xs : List V} : ∀ ps, HO.lst xs ≠ .tbl ps := by intro ps z; cases z
theorem nt_dK {xs : List (Key × V)} : ∀ ps, HO.dK xs ≠ .tbl ps := by intro ps z; cases z
theorem Fr.new {H : Hp} {p : Addr} {o : HO} (h : H p = none) (ht : ∀ ps, o ≠ .tbl ps) : Fr [] H (upd H p o) := by
  refine ⟨fun b u e _ _ => by rw [upd_ne (ne_of_none e h)]; exact e, fun b xs e => by rw [upd_ne (ne_of_none e h)]; exact e, fun b e => upd_none e, fun hT => hT.ext fun b u e => by rw [upd_ne (ne_of_none e h)]; exact e⟩
theorem tabs_upd {T : List NTab} {H : Hp} {p : Addr} {o u : HO} (hT : TabsN T H) (h : H p = some u) (ht : ∀ ps, u ≠ .tbl ps) (hx : ∀ φ, u ≠ .ext φ) : TabsN T (upd H p o) := fun q hq => by
  obtain ⟨ps, e1, e2, e3⟩ := hT q hq
  have n1 : q.1 ≠ p := fun z => by rw [z, h] at e1; exact ht ps (Option.some.inj e1)
  refine ⟨ps, by rw [upd_ne n1]; exact e1, e2, fun pos cv hc => ?_⟩
  obtain ⟨c, h1, h2⟩ := e3 pos cv hc
  refine ⟨c, h1, ?_⟩
  have n2 : c ≠ p := fun z => by
    rw [z, h] at h2
    exact hx _ (Option.some.inj h2)
  rw [upd_ne n2]
  exact h2
def mutO : HO → Bool
  | .lst _ => true
  | .dK _ => true
  | .dT _ => true
  | .set _ _ => true
  | .ins _ _ _ => true
  | _ => false
theorem mutO.ntbl {u : HO} (h : mutO u = true) : ∀ ps, u ≠ .tbl ps := fun ps z => by rw [z] at h; cases h
theorem mutO.next {u : HO} (h : mutO u = true) : ∀ φ, u ≠ .ext φ := fun ps z => by rw [z] at h; cases h
theorem mutO.ntup {u : HO} (h : mutO u = true) : ∀ ps, u ≠ .tup ps := fun ps z => by rw [z] at h; cases h
theorem Fr.wr {M : List Addr} {H : Hp} {p : Addr} {o u : HO} (hp : p ∈ M) (h : H p = some u) (hm : mutO u = true) : Fr M H (upd H p o) := by
  refine ⟨fun b x e m _ => by rw [upd_ne (fun z => m (by rw [z]; exact hp))]; exact e, fun b xs e => ?_, fun b e => upd_none e, fun hT => tabs_upd hT h (mutO.ntbl hm) (mutO.next hm)⟩
  rw [upd_ne (fun z => by rw [z, h] at e; exact mutO.ntup hm xs (Option.some.inj e))]
  exact e
theorem Fr.mut {M : List Addr} {H H' : Hp} {p : Addr} {o u : HO} (f : Fr M H H') (hn : H p = none) (h : H' p = some u) (hm : mutO u = true) : Fr M H (upd H' p o) := by
  have g : Fr [p] H' (upd H' p o) := Fr.wr (by simp) h hm
  refine ⟨fun b x e m n => ?_, fun b xs e => g.tup _ _ (f.tup _ _ e), fun b e => f.free _ (g.free _ e), fun hT => g.tabs (f.tabs hT)⟩
  have nb : b ≠ p := ne_of_none e hn
  rw [upd_ne nb]
  exact f.keep b x e m n
theorem SM.add {μ : Mu} {H H' : Hp} {p : Addr} {c : C} (m : SM μ H) (f : Fr [] H H') (hn : H p = none) (hc : c.at H' p) (ht : ∀ ps, H' p ≠ some (.tbl ps)) : SM ((p, c) :: μ) H' := by
  have m1 := m.step f
  refine ⟨List.nodup_cons.mpr ⟨fun z => ?_, m.nd⟩, fun q hq => ?_, fun q hq => ?_, f.tabs m.tb⟩
  · obtain ⟨q, hq, e⟩ := List.mem_map.mp z
    exact (m.own q hq).there (by rw [e]; exact hn)
  · rcases List.mem_cons.mp hq with e | e
    · subst e; exact hc
    · exact m1.own q e
  · rcases List.mem_cons.mp hq with e | e
    · subst e; exact ht
    · exact m1.notbl q e
theorem nodup_at {μ : Mu} (nd : (keys μ).Nodup) {i j : Nat} {p q : Addr × C} (h1 : μ[i]? = some p) (h2 : μ[j]? = some q) (e : p.1 = q.1) : i = j := by
  have e1 : (keys μ)[i]? = some p.1 := by unfold keys; rw [List.getElem?_map, h1]; rfl
  have e2 : (keys μ)[j]? = some q.1 := by unfold keys; rw [List.getElem?_map, h2]; rfl
  obtain ⟨l1, g1⟩ := List.getElem?_eq_some_iff.mp e1
  obtain ⟨l2, g2⟩ := List.getElem?_eq_some_iff.mp e2
  exact (List.getElem_inj nd).mp (by rw [g1, g2, e])
theorem SM.put {μ : Mu} {H : Hp} {i : Nat} {a : Addr} {c c' : C} {o u : HO} (m : SM μ H) (hi : μ[i]? = some (a, c)) (hu : H a = some u) (hm : mutO u = true) (ho : ∀ ps, o ≠ .tbl ps) (hc : c'.at (upd H a o) a) : SM (μ.set i (a, c')) (upd H a o) := by
  have f : Fr [a] H (L2.upd H a o) := Fr.wr (by simp) hu hm
  have hk : keys (μ.set i (a, c')) = keys μ := by
    unfold keys
    rw [List.map_set]
    apply List.ext_getElem?
    intro j
    by_cases hij : i = j
    · subst hij
      have hl : i < μ.length := (List.getElem?_eq_some_iff.mp hi).1
      rw [List.getElem?_set_self (by simpa using hl), List.getElem?_map, hi]
      rfl
    · rw [List.getElem?_set_ne hij]
  have cases_ : ∀ p ∈ μ.set i (a, c'), p = (a, c') ∨ (p ∈ μ ∧ p.1 ≠ a) := fun p hp => by
    obtain ⟨j, hj⟩ := List.mem_iff_getElem?.mp hp
    by_cases hij : i = j
    · subst hij
      have hl : i < μ.length := (List.getElem?_eq_some_iff.mp hi).1
      rw [List.getElem?_set_self hl] at hj
      exact .inl (Option.some.inj hj).symm
    · rw [List.getElem?_set_ne hij] at hj
      exact .inr ⟨List.mem_of_getElem? hj, fun z => hij (nodup_at m.nd hi hj z.symm)⟩
  refine ⟨by rw [hk]; exact m.nd, fun p hp => ?_, fun p hp ps z => ?_, f.tabs m.tb⟩
  · rcases cases_ p hp with e | ⟨e, n⟩
    · subst e; exact hc
    · exact (m.own p e).keep f.tup fun o' e' => by rw [upd_ne n]; exact e'
  · rcases cases_ p hp with e | ⟨e, n⟩
    · subst e
      rw [upd_same] at z
      exact ho ps (Option.some.inj z)
    · rw [upd_ne n] at z
      exact m.notbl p e ps z
theorem keys_set {μ : Mu} {i : Nat} {a : Addr} {c c' : C} (hi : μ[i]? = some (a, c)) : keys (μ.set i (a, c')) = keys μ := by
  unfold keys
  rw [List.map_set]
  apply List.ext_getElem?
  intro j
  by_cases hij : i = j
  · subst hij
    have hl : i < μ.length := (List.getElem?_eq_some_iff.mp hi).1
    rw [List.getElem?_set_self (by simpa using hl), List.getElem?_map, hi]
    rfl
  · rw [List.getElem?_set_ne hij]
theorem mem_keys {μ : Mu} {i : Nat} {a : Addr} {c : C} (hi : μ[i]? = some (a, c)) : a ∈ keys μ := List.mem_map.mpr ⟨_, List.mem_of_getElem? hi, rfl⟩
def E (δ : Dl) (μ : Mu) (te : TE) (x : A) : Prop := ∀ σ H, SA δ μ σ H → ∀ Q : VK, (∀ v H2, Fr [] H H2 → RpA H2 v x → Q v H2) → te σ H Q
def ET (δ : Dl) (μ : Mu) (tt : TT) (b : Bool) : Prop := ∀ σ H, SA δ μ σ H → ∀ Q : Bool → Hp → Prop, (∀ H2, Fr [] H H2 → Q b H2) → tt σ H Q
def EA (δ : Dl) (μ : Mu) (ta : TA) (xs : List A) : Prop := ∀ σ H, SA δ μ σ H → ∀ Q : List V → Hp → Prop, (∀ vs H2, Fr [] H H2 → RpAL H2 vs xs → Q vs H2) → ta σ H Q
def EN (δ : Dl) (μ : Mu) (te : TE) (c : C) : Prop := ∀ σ H, SA δ μ σ H → ∀ Q : VK, (∀ p H2, Fr [] H H2 → H p = none → c.at H2 p → (∀ ps, H2 p ≠ some (.tbl ps)) → Q (.ref p) H2) → te σ H Q
def EX (δ : Dl) (μ : Mu) (te : TE) (P : A → Mu → Prop) : Prop := ∀ σ H, SA δ μ σ H → ∀ Q : VK, (∀ x μ' v H2, P x μ' → SM μ' H2 → FS μ H μ' H2 → RpA H2 v x → Q v H2) → te σ H Q
def EXA (δ : Dl) (μ : Mu) (ta : TA) (P : List A → Mu → Prop) : Prop := ∀ σ H, SA δ μ σ H → ∀ Q : List V → Hp → Prop, (∀ xs μ' vs H2, P xs μ' → SM μ' H2 → FS μ H μ' H2 → RpAL H2 vs xs → Q vs H2) → ta σ H Q
def EXT (δ : Dl) (μ : Mu) (tt : TT) (P : Bool → Mu → Prop) : Prop := ∀ σ H, SA δ μ σ H → ∀ Q : Bool → Hp → Prop, (∀ b μ' H2, P b μ' → SM μ' H2 → FS μ H μ' H2 → Q b H2) → tt σ H Q
section
variable {δ : Dl} {μ : Mu} {te ta tb tc : TE} {tt tu : TT} {tr : TA} {x y z : A} {d e : D} {b c : Bool}
theorem E.is (h : E δ μ te x) (q : x = y) : E δ μ te y := q ▸ h
theorem ET.is (h : ET δ μ tt b) (q : b = c) : ET δ μ tt c := q ▸ h
theorem E.ex (h : E δ μ te x) : EX δ μ te fun y μ' => y = x ∧ μ' = μ := fun σ H s Q k => h σ H s Q fun v H2 f r => k x μ v H2 ⟨rfl, rfl⟩ (s.mem.step f) (FS.of f) r
theorem ET.ex (h : ET δ μ tt b) : EXT δ μ tt fun y μ' => y = b ∧ μ' = μ := fun σ H s Q k => h σ H s Q fun H2 f => k b μ H2 ⟨rfl, rfl⟩ (s.mem.step f) (FS.of f)
theorem EA.ex {xs : List A} (h : EA δ μ tr xs) : EXA δ μ tr fun y μ' => y = xs ∧ μ' = μ := fun σ H s Q k => h σ H s Q fun v H2 f r => k xs μ v H2 ⟨rfl, rfl⟩ (s.mem.step f) (FS.of f) r
theorem EN.ex {o : C} (h : EN δ μ te o) : EX δ μ te fun y μ' => ∃ p, y = .own p ∧ μ' = (p, o) :: μ := fun σ H s Q k => h σ H s Q fun p H2 f hn hc ht =>
  k (.own p) _ _ H2 ⟨p, rfl, rfl⟩ (s.mem.add f hn hc ht) ⟨f.nil, fun a ha => (List.mem_cons.mp ha).elim (fun z => .inr (z ▸ hn)) .inl⟩ rfl
theorem EX.mono {P P' : A → Mu → Prop} (h : EX δ μ te P) (w : ∀ x m, P x m → P' x m) : EX δ μ te P' := fun σ H s Q k => h σ H s Q fun x m v H2 p => k x m v H2 (w x m p)
theorem EXA.mono {P P' : List A → Mu → Prop} (h : EXA δ μ tr P) (w : ∀ x m, P x m → P' x m) : EXA δ μ tr P' := fun σ H s Q k => h σ H s Q fun x m v H2 p => k x m v H2 (w x m p)
theorem e_var {i : Nat} (h : δ[i]? = some (some x)) : E δ μ (tVar i) x := fun σ H s Q k => let ⟨v, h1, h2⟩ := s.slot i x h; ⟨v, h1, k v H (Fr.refl _ _) h2⟩
theorem e_int {i : Int} : E δ μ (tC (.int i)) (.dat (.int i)) := fun σ H s Q k => k _ H (Fr.refl _ _) (Rp.int i)
theorem e_bl {i : Bool} : E δ μ (tC (.bl i)) (.dat (.bl i)) := fun σ H s Q k => k _ H (Fr.refl _ _) (Rp.bl i)
theorem e_non : E δ μ (tC .non) (.dat .non) := fun σ H s Q k => k _ H (Fr.refl _ _) Rp.non
theorem e_str {i : Str} : E δ μ (tC (.str i)) (.dat (.str i)) := fun σ H s Q k => k _ H (Fr.refl _ _) (Rp.str i)
theorem ea_nil : EA δ μ tNil [] := fun σ H s Q k => k [] H (Fr.refl _ _) .nil
theorem ea_cons {xs : List A} (h : E δ μ te x) (hr : EA δ μ tr xs) : EA δ μ (tCons te tr) (x :: xs) := fun σ H s Q k =>
  h σ H s _ fun v H1 f1 r1 => hr σ H1 (s.step f1) _ fun vs H2 f2 r2 => k _ H2 (f1.trans0 f2) (.cons (r1.mono f2.tup) r2)
theorem szl {n : Nat} (h : n ≤ 100000) : n ≤ sizeLine := Nat.le_trans h (by decide)
theorem szt {n : Nat} (h : n < 100000) : n < sizeLine := Nat.lt_of_lt_of_le h (by decide)
theorem ea_dat {xs : List A} {ds : List D} (h : EA δ μ tr xs) (q : xs = ds.map .dat) : EA δ μ tr (ds.map .dat) := q ▸ h
theorem e_tup {ds : List D} (h : EA δ μ tr (ds.map .dat)) (hl : ds.length ≤ 100000) : E δ μ (tTup tr) (.dat (.tup ds)) := fun σ H s Q k =>
  h σ H s _ fun vs H1 f1 r1 => ⟨by rw [r1.length, List.length_map]; exact szl hl, fun p hp => k _ _ (f1.trans0 (Fr.new hp nt_tup)) (Rp.tup upd_same ((RpAL.dat.mp r1).mono (Fr.new hp nt_tup).tup))⟩
theorem en_lst {xs : List A} (h : EA δ μ tr xs) (hl : xs.length ≤ 100000) : EN δ μ (tLst tr) (.lst xs) := fun σ H s Q k =>
  h σ H s _ fun vs H1 f1 r1 => ⟨by rw [r1.length]; exact szl hl, fun p hp => k _ _ (f1.trans0 (Fr.new hp nt_lst)) (f1.free _ hp) ⟨vs, upd_same, r1.mono (Fr.new hp nt_lst).tup⟩ (fun ps z => by rw [upd_same] at z; cases z)⟩
def RV (r : R2) (x y z : A) : Prop := ∀ (H : Hp) (v w : V) (Q : VK), RpA H v x → RpA H w y → (∀ u H2, Fr [] H H2 → RpA H2 u z → Q u H2) → r v w H Q
theorem e_op {r : R2} (ha : E δ μ ta x) (hb : E δ μ tb y) (hr : RV r x y z) : E δ μ (tOp r ta tb) z := fun σ H s Q k =>
  ha σ H s _ fun v H1 f1 r1 => hb σ H1 (s.step f1) _ fun w H2 f2 r2 => hr H2 v w Q (r1.mono f2.tup) r2 fun u H3 f3 r3 => k u H3 ((f1.trans0 f2).trans0 f3) r3
theorem e_un {r : V → Hp → VK → Prop} (ha : E δ μ ta x) (hr : ∀ (H : Hp) (v : V) (Q : VK), RpA H v x → (∀ u H2, Fr [] H H2 → RpA H2 u z → Q u H2) → r v H Q) : E δ μ (tUn r ta) z := fun σ H s Q k =>
  ha σ H s _ fun v H1 f1 r1 => hr H1 v Q r1 fun u H3 f3 r3 => k u H3 (f1.trans0 f3) r3
def RVM (δ : Dl) (μ : Mu) (r : R2) (x y z : A) : Prop := ∀ (H : Hp) (σ : St) (v w : V) (Q : VK), SA δ μ σ H → RpA H v x → RpA H w y → (∀ u H2, Fr [] H H2 → RpA H2 u z → Q u H2) → r v w H Q
theorem e_opM {r : R2} (ha : E δ μ ta x) (hb : E δ μ tb y) (hr : RVM δ μ r x y z) : E δ μ (tOp r ta tb) z := fun σ H s Q k =>
  ha σ H s _ fun v H1 f1 r1 => hb σ H1 (s.step f1) _ fun w H2 f2 r2 => hr H2 σ v w Q (s.step (f1.trans0 f2)) (r1.mono f2.tup) r2 fun u H3 f3 r3 => k u H3 ((f1.trans0 f2).trans0 f3) r3
theorem rp_int {H : Hp} {v : V} {i : Int} (r : RpA H v (.dat (.int i))) : v = .int i := by cases (show Rp H v (.int i) from r); rfl
theorem rp_bl {H : Hp} {v : V} {i : Bool} (r : RpA H v (.dat (.bl i))) : v = .bl i := by cases (show Rp H v (.bl i) from r); rfl
theorem rp_non {H : Hp} {v : V} (r : RpA H v (.dat .non)) : v = .non := by cases (show Rp H v .non from r); rfl
theorem rp_str {H : Hp} {v : V} {i : Str} (r : RpA H v (.dat (.str i))) : v = .str i := by cases (show Rp H v (.str i) from r); rfl
theorem rp_tup {H : Hp} {v : V} {ds : List D} (r : RpA H v (.dat (.tup ds))) : ∃ a vs, v = .ref a ∧ H a = some (.tup vs) ∧ RpL H vs ds := by
  cases (show Rp H v (.tup ds) from r) with
  | tup h r => exact ⟨_, _, rfl, h, r⟩
theorem rv_int {g : Int → Int → Int} {i j : Int} : RV (rI0 fun i j => .int (g i j)) (.dat (.int i)) (.dat (.int j)) (.dat (.int (g i j))) := fun H v w Q r1 r2 k => by
  rw [rp_int r1, rp_int r2]
  exact ⟨i, j, rfl, rfl, k _ H (Fr.refl _ _) (Rp.int _)⟩
theorem rv_intC {Cn : Int → Int → Prop} {g : Int → Int → Int} {i j : Int} (hc : Cn i j) : RV (rI Cn fun i j => .int (g i j)) (.dat (.int i)) (.dat (.int j)) (.dat (.int (g i j))) := fun H v w Q r1 r2 k => by
  rw [rp_int r1, rp_int r2]
  exact ⟨i, j, rfl, rfl, hc, k _ H (Fr.refl _ _) (Rp.int _)⟩
theorem rv_cmp {g : Int → Int → Bool} {i j : Int} : RV (rI0 fun i j => .bl (g i j)) (.dat (.int i)) (.dat (.int j)) (.dat (.bl (g i j))) := fun H v w Q r1 r2 k => by
  rw [rp_int r1, rp_int r2]
  exact ⟨i, j, rfl, rfl, k _ H (Fr.refl _ _) (Rp.bl _)⟩
theorem e_add {i j : Int} (ha : E δ μ ta (.dat (.int i))) (hb : E δ μ tb (.dat (.int j))) : E δ μ (tOp (rI0 fun i j => .int (i + j)) ta tb) (.dat (.int (i + j))) := e_op ha hb (rv_int (g := fun i j => i + j))
theorem e_sub {i j : Int} (ha : E δ μ ta (.dat (.int i))) (hb : E δ μ tb (.dat (.int j))) : E δ μ (tOp (rI0 fun i j => .int (i - j)) ta tb) (.dat (.int (i - j))) := e_op ha hb (rv_int (g := fun i j => i - j))
theorem e_mul {i j : Int} (ha : E δ μ ta (.dat (.int i))) (hb : E δ μ tb (.dat (.int j))) (h : CMul i j) : E δ μ (tOp (rI CMul fun i j => .int (i * j)) ta tb) (.dat (.int (i * j))) := e_op ha hb (rv_intC (g := fun i j => i * j) h)
theorem e_mod {i j : Int} (ha : E δ μ ta (.dat (.int i))) (hb : E δ μ tb (.dat (.int j))) (h : 0 < j) : E δ μ (tOp (rI (fun _ j => 0 < j) fun i j => .int (i % j)) ta tb) (.dat (.int (i % j))) := e_op ha hb (rv_intC (Cn := fun _ j => 0 < j) (g := fun i j => i % j) h)
theorem e_lt {i j : Int} (ha : E δ μ ta (.dat (.int i))) (hb : E δ μ tb (.dat (.int j))) : E δ μ (tOp (rI0 fun i j => .bl (decide (i < j))) ta tb) (.dat (.bl (decide (i < j)))) := e_op ha hb (rv_cmp (g := fun i j => decide (i < j)))
theorem e_le {i j : Int} (ha : E δ μ ta (.dat (.int i))) (hb : E δ μ tb (.dat (.int j))) : E δ μ (tOp (rI0 fun i j => .bl (decide (i ≤ j))) ta tb) (.dat (.bl (decide (i ≤ j)))) := e_op ha hb (rv_cmp (g := fun i j => decide (i ≤ j)))
theorem e_gt {i j : Int} (ha : E δ μ ta (.dat (.int i))) (hb : E δ μ tb (.dat (.int j))) : E δ μ (tOp (rI0 fun i j => .bl (decide (j < i))) ta tb) (.dat (.bl (decide (j < i)))) := e_op ha hb (rv_cmp (g := fun i j => decide (j < i)))
theorem e_ge {i j : Int} (ha : E δ μ ta (.dat (.int i))) (hb : E δ μ tb (.dat (.int j))) : E δ μ (tOp (rI0 fun i j => .bl (decide (j ≤ i))) ta tb) (.dat (.bl (decide (j ≤ i)))) := e_op ha hb (rv_cmp (g := fun i j => decide (j ≤ i)))
theorem e_neg {i : Int} (ha : E δ μ ta (.dat (.int i))) : E δ μ (tUn (rU fun i => .int (-i)) ta) (.dat (.int (-i))) := e_un ha fun H v Q r k => by
  rw [rp_int r]
  exact ⟨i, rfl, k _ H (Fr.refl _ _) (Rp.int _)⟩
theorem e_eqI {i j : Int} (ha : E δ μ ta (.dat (.int i))) (hb : E δ μ tb (.dat (.int j))) : E δ μ (tOp rEq ta tb) (.dat (.bl (decide (i = j)))) := e_op ha hb fun H v w Q r1 r2 k => by
  rw [rp_int r1, rp_int r2]
  refine ⟨rfl, k _ H (Fr.refl _ _) ?_⟩
  rw [dec_int, Bool.beq_eq_decide_eq]
  exact Rp.bl _
theorem e_neI {i j : Int} (ha : E δ μ ta (.dat (.int i))) (hb : E δ μ tb (.dat (.int j))) : E δ μ (tOp rNe ta tb) (.dat (.bl (!decide (i = j)))) := e_op ha hb fun H v w Q r1 r2 k => by
  rw [rp_int r1, rp_int r2]
  refine ⟨rfl, k _ H (Fr.refl _ _) ?_⟩
  rw [dec_int, Bool.beq_eq_decide_eq]
  exact Rp.bl _
def isN : A → Bool
  | .dat .non => true
  | _ => false
theorem isN_eq {H : Hp} {v : V} {x : A} (r : RpA H v x) : decide (v = .non) = isN x := by
  cases x with
  | own a => cases (show v = .ref a from r); rfl
  | dat d => cases (show Rp H v d from r) <;> rfl
def rIsN0 : R2 := fun x y H Q => y = .non ∧ Q (.bl (decide (x = .non))) H
def rNotN0 : R2 := fun x y H Q => y = .non ∧ Q (.bl (!decide (x = .non))) H
theorem op_isN0 {X : Cx} : OpR X (compareOp .Is) rIsN0 := op_isN
theorem op_notN0 {X : Cx} : OpR X (compareOp .IsNot) rNotN0 := op_notN
theorem e_isN (ha : E δ μ ta x) : E δ μ (tOp rIsN0 ta (tC .non)) (.dat (.bl (isN x))) := e_op ha e_non fun H v w Q r1 r2 k => ⟨rp_non r2, by rw [isN_eq r1]; exact k _ H (Fr.refl _ _) (Rp.bl _)⟩
theorem e_notN (ha : E δ μ ta x) : E δ μ (tOp rNotN0 ta (tC .non)) (.dat (.bl (!isN x))) := e_op ha e_non fun H v w Q r1 r2 k => ⟨rp_non r2, by rw [isN_eq r1]; exact k _ H (Fr.refl _ _) (Rp.bl _)⟩
theorem at_of {α β : Type} {xs : List α} {ys : List β} (hl : xs.length = ys.length) {i : Int} {y : β} (h : L2.atI ys i = some y) : ∃ j : Nat, ys[j]? = some y ∧ L2.atI xs i = xs[j]? := by
  unfold atI at h ⊢
  rw [hl]
  cases e : ixN ys.length i with
  | none => rw [e] at h; cases h
  | some j =>
    rw [e] at h
    exact ⟨j, h, rfl⟩
theorem e_ix {K : PySem.W.Frag} {ds : List D} {i : Int} (ha : E δ μ ta (.dat (.tup ds))) (hb : E δ μ tb (.dat (.int i))) (h : atI ds i = some d) : E δ μ (tOp (rIxT K) ta tb) (.dat d) := e_op ha hb fun H v w Q r1 r2 k => by
  obtain ⟨a, vs, rfl, ht, hr⟩ := rp_tup r1
  rw [rp_int r2]
  obtain ⟨j, h1, h2⟩ := at_of hr.length h
  obtain ⟨u, h3, h4⟩ := hr.get h1
  exact ⟨a, vs, i, u, rfl, rfl, SqT.of ht, by rw [h2]; exact h3, k _ H (Fr.refl _ _) h4⟩
theorem SM.lst {H : Hp} (m : SM μ H) {i : Nat} {a : Addr} {xs : List A} (h : μ[i]? = some (a, .lst xs)) : ∃ vs, H a = some (.lst vs) ∧ RpAL H vs xs := m.own _ (List.mem_of_getElem? h)
theorem SM.dk {H : Hp} (m : SM μ H) {i : Nat} {a : Addr} {kvs : List (Key × A)} (h : μ[i]? = some (a, .dk kvs)) : ∃ ks, H a = some (.dK ks) ∧ KA H kvs ks := m.own _ (List.mem_of_getElem? h)
theorem e_ixL {K : PySem.W.Frag} {a : Addr} {xs : List A} {i : Int} (n : Nat) (ha : E δ μ ta (.own a)) (hb : E δ μ tb (.dat (.int i))) (hm : μ[n]? = some (a, .lst xs)) (h : atI xs i = some x) : E δ μ (tOp (rIxL K) ta tb) x := e_opM ha hb fun H σ v w Q s r1 r2 k => by
  obtain ⟨vs, ht, hr⟩ := s.mem.lst hm
  rw [show v = .ref a from r1, rp_int r2]
  obtain ⟨j, h1, h2⟩ := at_of hr.length h
  obtain ⟨u, h3, h4⟩ := hr.get h1
  exact ⟨a, vs, i, u, rfl, rfl, SqL.of ht, by rw [h2]; exact h3, k _ H (Fr.refl _ _) h4⟩
theorem et_test (h : E δ μ te (.dat (.bl b))) : ET δ μ (tTest te) b := fun σ H s Q k => h σ H s _ fun v H1 f r => ⟨b, rp_bl r, k H1 f⟩
theorem et_B (h : E δ μ te (.dat (.bl b))) : ET δ μ (tB te) b := fun σ H s Q k => h σ H s _ fun v H1 f r => ⟨b, rp_bl r, k H1 f⟩
theorem et_and (h1 : ET δ μ tt b) (h2 : b = true → ET δ μ tu c) : ET δ μ (tAnd tt tu) (b && c) := fun σ H s Q k => h1 σ H s _ fun H1 f1 => by
  cases b with
  | true => exact iteT (h2 rfl σ H1 (s.step f1) Q fun H2 f2 => k H2 (f1.trans0 f2))
  | false => exact iteF (k H1 f1)
theorem et_or (h1 : ET δ μ tt b) (h2 : b = false → ET δ μ tu c) : ET δ μ (tOr tt tu) (b || c) := fun σ H s Q k => h1 σ H s _ fun H1 f1 => by
  cases b with
  | true => exact iteT (k H1 f1)
  | false => exact iteF (h2 rfl σ H1 (s.step f1) Q fun H2 f2 => k H2 (f1.trans0 f2))
theorem et_not (h1 : ET δ μ tt b) : ET δ μ (tNot tt) (!b) := fun σ H s Q k => h1 σ H s _ fun H1 f1 => k H1 f1
theorem e_andV (h1 : E δ μ ta (.dat (.bl b))) (h2 : b = true → E δ μ tb (.dat (.bl c))) : E δ μ (tAndV ta tb) (.dat (.bl (b && c))) := fun σ H s Q k => h1 σ H s _ fun v H1 f1 r1 => ⟨b, rp_bl r1, by
  cases b with
  | true => exact iteT (h2 rfl σ H1 (s.step f1) Q fun u H2 f2 r2 => k u H2 (f1.trans0 f2) r2)
  | false => exact iteF (k _ H1 f1 (Rp.bl _))⟩
theorem e_orV (h1 : E δ μ ta (.dat (.bl b))) (h2 : b = false → E δ μ tb (.dat (.bl c))) : E δ μ (tOrV ta tb) (.dat (.bl (b || c))) := fun σ H s Q k => h1 σ H s _ fun v H1 f1 r1 => ⟨b, rp_bl r1, by
  cases b with
  | true => exact iteT (k _ H1 f1 (Rp.bl _))
  | false => exact iteF (h2 rfl σ H1 (s.step f1) Q fun u H2 f2 r2 => k u H2 (f1.trans0 f2) r2)⟩
theorem e_notV (h1 : E δ μ ta (.dat (.bl b))) : E δ μ (tNotV ta) (.dat (.bl (!b))) := fun σ H s Q k => h1 σ H s _ fun v H1 f1 r1 => ⟨b, rp_bl r1, k _ H1 f1 (Rp.bl _)⟩
theorem e_if (h : ET δ μ tt b) (h1 : b = true → E δ μ ta x) (h2 : b = false → E δ μ tb x) : E δ μ (tIf tt ta tb) x := fun σ H s Q k => h σ H s _ fun H1 f1 => by
  cases b with
  | true => exact iteT (h1 rfl σ H1 (s.step f1) Q fun u H2 f2 r2 => k u H2 (f1.trans0 f2) r2)
  | false => exact iteF (h2 rfl σ H1 (s.step f1) Q fun u H2 f2 r2 => k u H2 (f1.trans0 f2) r2)
theorem e_chain {r r' : R2} {i j m : Int} {g g' : Int → Int → Bool} (hr : r = rI0 fun i j => .bl (g i j)) (hr' : r' = rI0 fun i j => .bl (g' i j)) (ha : E δ μ ta (.dat (.int i))) (hb : E δ μ tb (.dat (.int j))) (hc : E δ μ tc (.dat (.int m))) :
    E δ μ (tChain r r' ta tb tc) (.dat (.bl (g i j && g' j m))) := fun σ H s Q k => ha σ H s _ fun u H1 f1 r1 => hb σ H1 (s.step f1) _ fun v H2 f2 r2 => by
  rw [rp_int r1, rp_int r2, hr, hr']
  refine ⟨i, j, rfl, rfl, g i j, rfl, ?_⟩
  cases e : g i j with
  | true =>
    refine iteT (hc σ H2 (s.step (f1.trans0 f2)) _ fun w H3 f3 r3 => ?_)
    rw [rp_int r3]
    rw [e] at k
    exact ⟨j, m, rfl, rfl, k _ H3 ((f1.trans0 f2).trans0 f3) (Rp.bl _)⟩
  | false =>
    rw [e] at k
    exact iteF (k _ H2 (f1.trans0 f2) (Rp.bl _))
end
end TK
set_option maxHeartbeats 2000000
namespace TK
open PySem L2 NdefX LamX
variable [TC]
theorem wipe_at (σ : St) (k : Nat) : ∀ vs : List Nat, (wipe σ vs)[k]? = if k ∈ vs ∧ k < σ.length then some none else σ[k]?
  | [] => by simp [wipe]
  | v :: vs => by
    unfold wipe
    by_cases h : v = k
    · subst h
      by_cases hl : v < σ.length
      · rw [List.getElem?_set_self (by rw [wipe_length]; exact hl), if_pos ⟨by simp, hl⟩]
      · rw [List.getElem?_eq_none (by simp [wipe_length]; omega), if_neg (fun z => hl z.2), List.getElem?_eq_none (by omega)]
    · rw [List.getElem?_set_ne h, wipe_at σ k vs]
      have e : (k ∈ v :: vs ∧ k < σ.length) ↔ (k ∈ vs ∧ k < σ.length) := by
        simp only [List.mem_cons]
        constructor
        · rintro ⟨h1 | h1, h2⟩
          · exact absurd h1.symm h
          · exact ⟨h1, h2⟩
        · rintro ⟨h1, h2⟩
          exact ⟨.inr h1, h2⟩
      by_cases q : k ∈ vs ∧ k < σ.length
      · rw [if_pos q, if_pos (e.mpr q)]
      · rw [if_neg q, if_neg (fun z => q (e.mp z))]
theorem wipe_set {σ : St} {i : Nat} {x : Option V} {vs : List Nat} (h : i ∈ vs) : wipe (σ.set i x) vs = wipe σ vs := by
  apply List.ext_getElem?
  intro k
  rw [wipe_at, wipe_at, List.length_set]
  by_cases hk : k ∈ vs ∧ k < σ.length
  · rw [if_pos hk, if_pos hk]
  · rw [if_neg hk, if_neg hk]
    by_cases hik : i = k
    · subst hik
      have hl : ¬ i < σ.length := fun z => hk ⟨h, z⟩
      rw [List.getElem?_eq_none (by simpa using hl), List.getElem?_eq_none (by omega)]
    · rw [List.getElem?_set_ne hik]
theorem wipe_wipe {σ : St} {vs : List Nat} : wipe (wipe σ vs) vs = wipe σ vs := by
  apply List.ext_getElem?
  intro k
  rw [wipe_at, wipe_length, wipe_at]
  by_cases hk : k ∈ vs ∧ k < σ.length
  · rw [if_pos hk, if_pos hk]
  · rw [if_neg hk]
def wipeD (δ : Dl) : List Nat → Dl
  | [] => δ
  | v :: vs => (wipeD δ vs).set v none
theorem SA.unset {δ : Dl} {μ : Mu} {σ : St} {H : Hp} (s : SA δ μ σ H) (i : Nat) : SA (δ.set i none) μ (σ.set i none) H := by
  refine ⟨by simp [s.len], fun j y e => ?_, s.mem⟩
  by_cases hij : i = j
  · subst hij
    by_cases hl : i < δ.length
    · rw [List.getElem?_set_self hl] at e; cases e
    · rw [List.getElem?_eq_none (by simpa using hl)] at e; cases e
  · rw [List.getElem?_set_ne hij] at e
    obtain ⟨w, h1, h2⟩ := s.slot j y e
    exact ⟨w, by rw [List.getElem?_set_ne hij]; exact h1, h2⟩
theorem SA.wipe {δ : Dl} {μ : Mu} {σ : St} {H : Hp} (s : SA δ μ σ H) : ∀ vs : List Nat, SA (wipeD δ vs) μ (L2.wipe σ vs) H
  | [] => s
  | v :: vs => (SA.wipe s vs).unset v
def Tg (δ : Dl) (g : TG) (x : A) (δ' : Dl) (js : List Nat) : Prop := ∀ μ σ H v, SA δ μ σ H → RpA H v x → ∀ Q : St → Hp → Prop, (∀ σ', SA δ' μ σ' H → (∀ vs : List Nat, (∀ j ∈ js, j ∈ vs) → wipe σ' vs = wipe σ vs) → Q σ' H) → g v σ H Q
def Tgs (δ : Dl) (g : TGs) (xs : List A) (δ' : Dl) (js : List Nat) : Prop := ∀ μ σ H vs, SA δ μ σ H → RpAL H vs xs → ∀ Q : St → Hp → Prop, (∀ σ', SA δ' μ σ' H → (∀ vs : List Nat, (∀ j ∈ js, j ∈ vs) → wipe σ' vs = wipe σ vs) → Q σ' H) → g vs σ H Q
theorem tg_name {δ : Dl} {i : Nat} {x : A} : Tg δ (gName i) x (δ.set i (some x)) [i] := fun μ σ H v s r Q k => k _ (s.set i r) fun vs h => wipe_set (h i (by simp))
theorem tgs_nil {δ : Dl} : Tgs δ gNil [] δ [] := fun μ σ H vs s r Q k => by
  cases r
  exact ⟨rfl, k σ s fun _ _ => rfl⟩
theorem tgs_cons {δ δ1 δ2 : Dl} {t : TG} {u : TGs} {x : A} {xs : List A} {js ks : List Nat} (h1 : Tg δ t x δ1 js) (h2 : Tgs δ1 u xs δ2 ks) : Tgs δ (gCons t u) (x :: xs) δ2 (js ++ ks) := fun μ σ H vs s r Q k => by
  cases r with
  | cons r rr =>
    exact ⟨_, _, rfl, h1 μ σ H _ s r _ fun σ1 s1 w1 => h2 μ σ1 H _ s1 rr Q fun σ2 s2 w2 => k σ2 s2 fun vs h => (w2 vs fun j hj => h j (List.mem_append_right _ hj)).trans (w1 vs fun j hj => h j (List.mem_append_left _ hj))⟩
theorem tg_tup {δ δ' : Dl} {K : PySem.W.Frag} {n : Nat} {t : TGs} {ds : List D} {js : List Nat} (h : Tgs δ t (ds.map .dat) δ' js) (hn : ds.length = n) : Tg δ (gTup K n t) (.dat (.tup ds)) δ' js := fun μ σ H v s r Q k => by
  obtain ⟨a, vs, rfl, ht, hr⟩ := rp_tup r
  exact ⟨a, vs, rfl, SqT.of ht, hr.length.trans hn, h μ σ H vs s (RpAL.dat.mpr hr) Q k⟩
structure Po where
  nx : Dl → Mu → Prop := fun _ _ => False
  rt : A → Mu → Prop := fun _ _ => False
  bk : Dl → Mu → Prop := fun _ _ => False
  ct : Dl → Mu → Prop := fun _ _ => False
def GoN (μ : Mu) (H : Hp) (N : Dl → Mu → Prop) (K : St → Hp → Prop) : Prop := ∀ δ' μ' σ' H', N δ' μ' → SA δ' μ' σ' H' → FS μ H μ' H' → K σ' H'
def GoR (μ : Mu) (H : Hp) (R : A → Mu → Prop) (K : VK) : Prop := ∀ x μ' v H', R x μ' → SM μ' H' → FS μ H μ' H' → RpA H' v x → K v H'
structure Go (μ : Mu) (H : Hp) (P : Po) (D : Ends) : Prop where
  nx : GoN μ H P.nx D.nx
  rt : GoR μ H P.rt D.rt
  bk : GoN μ H P.bk D.bk
  ct : GoN μ H P.ct D.ct
theorem GoN.step {μ μ' : Mu} {H H' : Hp} {N : Dl → Mu → Prop} {K : St → Hp → Prop} (g : GoN μ H N K) (f : FS μ H μ' H') : GoN μ' H' N K := fun δ2 μ2 σ2 H2 n s f2 => g δ2 μ2 σ2 H2 n s (f.trans f2)
theorem GoR.step {μ μ' : Mu} {H H' : Hp} {N : A → Mu → Prop} {K : VK} (g : GoR μ H N K) (f : FS μ H μ' H') : GoR μ' H' N K := fun δ2 μ2 σ2 H2 n s f2 => g δ2 μ2 σ2 H2 n s (f.trans f2)
theorem Go.step {μ μ' : Mu} {H H' : Hp} {P : Po} {D : Ends} (g : Go μ H P D) (f : FS μ H μ' H') : Go μ' H' P D := ⟨g.nx.step f, g.rt.step f, g.bk.step f, g.ct.step f⟩
def HT (δ : Dl) (μ : Mu) (ts : TS) (P : Po) : Prop := ∀ σ H (D : Ends), SA δ μ σ H → Go μ H P D → ts D σ H
section
variable {δ δ' : Dl} {μ μ' : Mu} {te ta tb tc tl : TE} {tt tu : TT} {tr : TA} {x y z : A} {d e : D} {b c : Bool} {ts us : TS} {P : Po} {g : TG} {K : PySem.W.Frag}
theorem ht_seq (h : HT δ μ ts { P with nx := fun δ' μ' => HT δ' μ' us P }) : HT δ μ (tSeq ts us) P := fun σ H D s go =>
  h σ H { D with nx := us D } s ⟨fun δ' μ' σ' H' n s' f => n σ' H' D s' (go.step f), go.rt, go.bk, go.ct⟩
theorem ht_cut {N : Dl → Mu → Prop} (h : HT δ μ ts { P with nx := N }) (h2 : ∀ δ' μ', N δ' μ' → HT δ' μ' us P) : HT δ μ (tSeq ts us) P := ht_seq fun σ H D s go => h σ H D s ⟨fun δ' μ' σ' H' n => go.nx δ' μ' σ' H' (h2 δ' μ' n), go.rt, go.bk, go.ct⟩
theorem ht_next (h : P.nx δ μ) : HT δ μ tNext P := fun σ H D s go => go.nx δ μ σ H h s (FS.refl _ _)
theorem ht_brk (h : P.bk δ μ) : HT δ μ tBreak P := fun σ H D s go => go.bk δ μ σ H h s (FS.refl _ _)
theorem ht_cont (h : P.ct δ μ) : HT δ μ tCont P := fun σ H D s go => go.ct δ μ σ H h s (FS.refl _ _)
theorem ht_asgX {R : A → Mu → Prop} (h : EX δ μ te R) (k : ∀ x μ', R x μ' → ∃ δ' js, Tg δ g x δ' js ∧ P.nx δ' μ') : HT δ μ (tAsg te g) P := fun σ H D s go => h σ H s _ fun x μ' v H2 r m f rx => by
  obtain ⟨δ', js, hg, hn⟩ := k x μ' r
  exact hg μ' σ H2 v (s.withM f.fr.tup m) rx _ fun σ' s' _ => go.nx δ' μ' σ' H2 hn s' f
theorem ht_asg (h : E δ μ te x) {js : List Nat} (hg : Tg δ g x δ' js) (hn : P.nx δ' μ) : HT δ μ (tAsg te g) P := ht_asgX h.ex fun y μ' ⟨e1, e2⟩ => by
  subst e1 e2
  exact ⟨δ', js, hg, hn⟩
theorem ht_set {i : Nat} (h : E δ μ te x) (hn : P.nx (δ.set i (some x)) μ) : HT δ μ (tAsg te (gName i)) P := ht_asg h tg_name hn
theorem ht_setX {i : Nat} {R : A → Mu → Prop} (h : EX δ μ te R) (k : ∀ x μ', R x μ' → P.nx (δ.set i (some x)) μ') : HT δ μ (tAsg te (gName i)) P := ht_asgX h fun x μ' r => ⟨_, _, tg_name, k x μ' r⟩
theorem ht_setN {i : Nat} {o : C} (h : EN δ μ te o) (k : ∀ p, P.nx (δ.set i (some (.own p))) ((p, o) :: μ)) : HT δ μ (tAsg te (gName i)) P := ht_setX h.ex fun x μ' ⟨p, e1, e2⟩ => by
  subst e1 e2
  exact k p
theorem ht_retX {R : A → Mu → Prop} (h : EX δ μ te R) (k : ∀ x μ', R x μ' → P.rt x μ') : HT δ μ (tRet te) P := fun σ H D s go => h σ H s _ fun x μ' v H2 r m f rx => go.rt x μ' v H2 (k x μ' r) m f rx
theorem ht_ret (h : E δ μ te x) (k : P.rt x μ) : HT δ μ (tRet te) P := ht_retX h.ex fun y μ' ⟨e1, e2⟩ => by
  subst e1 e2
  exact k
theorem ht_retN {o : C} (h : EN δ μ te o) (k : ∀ p, P.rt (.own p) ((p, o) :: μ)) : HT δ μ (tRet te) P := ht_retX h.ex fun y μ' ⟨p, e1, e2⟩ => by
  subst e1 e2
  exact k p
theorem ht_ret0 (k : P.rt (.dat .non) μ) : HT δ μ tRetN P := fun σ H D s go => go.rt _ _ _ H k s.mem (FS.refl _ _) Rp.non
theorem ht_dropX {R : A → Mu → Prop} (h : EX δ μ te R) (k : ∀ x μ', R x μ' → P.nx δ μ') : HT δ μ (tDrop te) P := fun σ H D s go => h σ H s _ fun x μ' v H2 r m f rx => go.nx δ μ' σ H2 (k x μ' r) (s.withM f.fr.tup m) f
theorem ht_drop (h : E δ μ te x) (k : P.nx δ μ) : HT δ μ (tDrop te) P := ht_dropX h.ex fun y μ' ⟨e1, e2⟩ => by
  subst e2
  exact k
theorem ht_if (h : ET δ μ tt b) (h1 : b = true → HT δ μ ts P) (h2 : b = false → HT δ μ us P) : HT δ μ (tIfS tt ts us) P := fun σ H D s go => h σ H s _ fun H1 f1 => by
  cases b with
  | true => exact iteT (h1 rfl σ H1 D (s.step f1) (go.step (FS.of f1)))
  | false => exact iteF (h2 rfl σ H1 D (s.step f1) (go.step (FS.of f1)))
theorem ht_ifX {R : Bool → Mu → Prop} (h : EXT δ μ tt R) (h1 : ∀ μ', R true μ' → HT δ μ' ts P) (h2 : ∀ μ', R false μ' → HT δ μ' us P) : HT δ μ (tIfS tt ts us) P := fun σ H D s go => h σ H s _ fun b μ' H1 r m f1 => by
  cases b with
  | true => exact iteT (h1 μ' r σ H1 D (s.withM f1.fr.tup m) (go.step f1))
  | false => exact iteF (h2 μ' r σ H1 D (s.withM f1.fr.tup m) (go.step f1))
theorem HT.mono {P' : Po} (h : HT δ μ ts P') (h1 : ∀ δ' μ', P'.nx δ' μ' → P.nx δ' μ') (h2 : ∀ x μ', P'.rt x μ' → P.rt x μ') (h3 : ∀ δ' μ', P'.bk δ' μ' → P.bk δ' μ') (h4 : ∀ δ' μ', P'.ct δ' μ' → P.ct δ' μ') : HT δ μ ts P := fun σ H D s go =>
  h σ H D s ⟨fun δ' μ' σ' H' n => go.nx δ' μ' σ' H' (h1 δ' μ' n), fun x μ' v H' n => go.rt x μ' v H' (h2 x μ' n), fun δ' μ' σ' H' n => go.bk δ' μ' σ' H' (h3 δ' μ' n), fun δ' μ' σ' H' n => go.ct δ' μ' σ' H' (h4 δ' μ' n)⟩
theorem HT.weak (h : HT δ' μ ts P) (hl : δ'.length = δ.length) (hs : ∀ (i : Nat) (x : A), δ'[i]? = some (some x) → δ[i]? = some (some x)) : HT δ μ ts P := fun σ H D s go => h σ H D (s.weak hl hs) go
theorem HT.sub (h : HT δ μ' ts P) (hs : List.Sublist μ' μ) : HT δ μ ts P := fun σ H D s go =>
  h σ H D (s.withM (fun _ _ e => e) (s.mem.sub hs)) (go.step ⟨Fr.refl _ _, fun a ha => .inl ((hs.map _).subset ha)⟩)
theorem ht_par {i j : Nat} (h : EA δ μ tr [x, y]) (hn : P.nx ((δ.set i (some x)).set j (some y)) μ) : HT δ μ (tPar i j tr) P := fun σ H D s go => h σ H s _ fun vs H1 f1 r => by
  cases r with
  | cons r1 r =>
    cases r with
    | cons r2 r =>
      cases r
      exact ⟨_, _, rfl, go.nx _ _ _ H1 hn (((s.step f1).set i r1).set j r2) (FS.of f1)⟩
theorem ht_parX {i j : Nat} {R : List A → Mu → Prop} (h : EXA δ μ tr R) (hn : ∀ xs μ', R xs μ' → ∃ x y, xs = [x, y] ∧ P.nx ((δ.set i (some x)).set j (some y)) μ') : HT δ μ (tPar i j tr) P := fun σ H D s go => h σ H s _ fun xs μ' vs H1 r m f1 rv => by
  obtain ⟨x, y, e, hn⟩ := hn xs μ' r
  subst e
  cases rv with
  | cons r1 rv =>
    cases rv with
    | cons r2 rv =>
      cases rv
      exact ⟨_, _, rfl, go.nx _ _ _ H1 hn (((s.withM f1.fr.tup m).set i r1).set j r2) f1⟩
theorem ht_par3X {i j l : Nat} {R : List A → Mu → Prop} (h : EXA δ μ tr R) (hn : ∀ xs μ', R xs μ' → ∃ x y z, xs = [x, y, z] ∧ P.nx (((δ.set i (some x)).set j (some y)).set l (some z)) μ') : HT δ μ (tPar3 i j l tr) P := fun σ H D s go => h σ H s _ fun xs μ' vs H1 r m f1 rv => by
  obtain ⟨x, y, z, e, hn⟩ := hn xs μ' r
  subst e
  cases rv with
  | cons r1 rv =>
    cases rv with
    | cons r2 rv =>
      cases rv with
      | cons r3 rv =>
        cases rv
        exact ⟨_, _, _, rfl, go.nx _ _ _ H1 hn ((((s.withM f1.fr.tup m).set i r1).set j r2).set l r3) f1⟩
theorem exa_nil : EXA δ μ tNil (fun xs μ' => xs = [] ∧ μ' = μ) := ea_nil.ex
theorem exa_cons {R : A → Mu → Prop} {S : A → Mu → List A → Mu → Prop} (h : EX δ μ te R) (hr : ∀ x μ', R x μ' → EXA δ μ' tr (S x μ')) : EXA δ μ (tCons te tr) (fun xs μ' => ∃ x ys μ1, xs = x :: ys ∧ R x μ1 ∧ S x μ1 ys μ') := fun σ H s Q k =>
  h σ H s _ fun x μ1 v H1 r m f1 rx => hr x μ1 r σ H1 (s.withM f1.fr.tup m) _ fun ys μ2 vs H2 r2 m2 f2 rys => k (x :: ys) μ2 (v :: vs) H2 ⟨x, ys, μ1, rfl, r, r2⟩ m2 (f1.trans f2) (.cons (rx.mono f2.fr.tup) rys)
theorem ht_forT {ds : List D} (h : E δ μ tl (.dat (.tup ds))) (I : Nat → Dl → Mu → Prop) (h0 : I 0 δ μ)
    (hs : ∀ i d δ1 μ1, ds[i]? = some d → I i δ1 μ1 → ∃ δ2 js, Tg δ1 g (.dat d) δ2 js ∧ HT δ2 μ1 ts { P with nx := I (i + 1), ct := I (i + 1), bk := P.nx })
    (hd : ∀ δ1 μ1, I ds.length δ1 μ1 → P.nx δ1 μ1) : HT δ μ (tFor (iTup K tl) g ts) P := fun σ H D s go => h σ H s _ fun v H1 f1 r1 => by
  obtain ⟨a, vs, rfl, ht, hr⟩ := rp_tup r1
  refine ⟨a, rfl, ⟨vs, SqT.of ht⟩, for_tup (K := K) (a := a) (xs := vs) (fun i σ' H' => ∃ δ1 μ1, I i δ1 μ1 ∧ SA δ1 μ1 σ' H' ∧ FS μ H1 μ1 H') ⟨δ, μ, h0, s.step f1, FS.refl _ _⟩ (fun i σ' H' _ ⟨δ1, μ1, _, _, f⟩ => SqT.of (f.fr.tup _ _ ht)) ?_ ?_⟩
  · rintro i w σ' H' hi ⟨δ1, μ1, hI, s1, f⟩
    obtain ⟨d, h3, h4⟩ := hr.getV hi
    obtain ⟨δ2, js, hg, hb⟩ := hs i d δ1 μ1 h3 hI
    refine hg μ1 σ' H' w s1 (Rp.mono f.fr.tup h4) _ fun σ2 s2 _ => ?_
    refine hb σ2 H' _ s2 ⟨fun δ3 μ3 σ3 H3 n s3 f3 => ⟨δ3, μ3, n, s3, f.trans f3⟩, (go.rt.step (FS.of f1)).step f, (go.nx.step (FS.of f1)).step f, fun δ3 μ3 σ3 H3 n s3 f3 => ⟨δ3, μ3, n, s3, f.trans f3⟩⟩
  · rintro σ' H' ⟨δ1, μ1, hI, s1, f⟩
    rw [hr.length] at hI
    exact go.nx δ1 μ1 σ' H' (hd δ1 μ1 hI) s1 ((FS.of f1).trans f)
theorem ht_forL {a : Addr} {xs : List A} (h : E δ μ tl (.own a)) (I : Nat → Dl → Mu → Prop) (h0 : I 0 δ μ) (hl : ∀ i δ1 μ1, I i δ1 μ1 → ∃ n : Nat, μ1[n]? = some (a, .lst xs))
    (hs : ∀ i x δ1 μ1, xs[i]? = some x → I i δ1 μ1 → ∃ δ2 js, Tg δ1 g x δ2 js ∧ HT δ2 μ1 ts { P with nx := I (i + 1), ct := I (i + 1), bk := P.nx })
    (hd : ∀ δ1 μ1, I xs.length δ1 μ1 → P.nx δ1 μ1) : HT δ μ (tFor (iList K tl) g ts) P := fun σ H D s go => h σ H s _ fun v H1 f1 r1 => by
  obtain ⟨n0, q0⟩ := hl 0 δ μ h0
  obtain ⟨vs0, ht0, hr0⟩ := (s.step f1).mem.lst q0
  refine ⟨a, r1, ⟨vs0, SqL.of ht0⟩, fun i m σ' H' => m = xs.length - i ∧ i ≤ xs.length ∧ ∃ δ1 μ1, I i δ1 μ1 ∧ SA δ1 μ1 σ' H' ∧ FS μ H1 μ1 H', ⟨xs.length, by simp, Nat.zero_le _, δ, μ, h0, s.step f1, FS.refl _ _⟩, ?_⟩
  rintro i m σ' H' ⟨rfl, hi, δ1, μ1, hI, s1, f⟩
  obtain ⟨n, q⟩ := hl i δ1 μ1 hI
  obtain ⟨vs, ht, hr⟩ := s1.mem.lst q
  by_cases hlt : i < xs.length
  · refine .inr ⟨⟨vs, vs[i]'(by rw [hr.length]; exact hlt), SqL.of ht, by simp⟩, fun σ3 H3 => i + 1 ≤ xs.length ∧ ∃ δ3 μ3, I (i + 1) δ3 μ3 ∧ SA δ3 μ3 σ3 H3 ∧ FS μ H1 μ3 H3, fun σ3 H3 p => ⟨xs.length - (i + 1), by omega, rfl, p⟩, fun w H3 yy => ?_⟩
    obtain ⟨e, yy⟩ := yy
    subst e
    obtain ⟨x, h3, h4⟩ := hr.getV (yy vs (SqL.of ht))
    obtain ⟨δ2, js, hg, hb⟩ := hs i x δ1 μ1 h3 hI
    refine hg μ1 σ' _ w s1 h4 _ fun σ2 s2 _ => ?_
    exact hb σ2 _ _ s2 ⟨fun δ3 μ3 σ3 H3 n s3 f3 => ⟨hlt, δ3, μ3, n, s3, f.trans f3⟩, (go.rt.step (FS.of f1)).step f, (go.nx.step (FS.of f1)).step f, fun δ3 μ3 σ3 H3 n s3 f3 => ⟨hlt, δ3, μ3, n, s3, f.trans f3⟩⟩
  · have e : i = xs.length := by omega
    subst e
    exact .inl ⟨⟨vs, SqL.of ht, by rw [hr.length]; exact Nat.le_refl _⟩, go.nx δ1 μ1 σ' H' (hd δ1 μ1 hI) s1 ((FS.of f1).trans f)⟩
theorem ht_forR {n : Int} (h : EA δ μ tr [.dat (.int n)]) (hn : n < 2 ^ 62) (hn0 : -(2 ^ 62) ≤ n) (I : Nat → Dl → Mu → Prop) (h0 : I 0 δ μ)
    (hs : ∀ (i : Nat) δ1 μ1, (i : Int) < n → I i δ1 μ1 → ∃ δ2 js, Tg δ1 g (.dat (.int (i : Int))) δ2 js ∧ HT δ2 μ1 ts { P with nx := I (i + 1), ct := I (i + 1), bk := P.nx })
    (hd : ∀ δ1 μ1, I n.toNat δ1 μ1 → P.nx δ1 μ1) : HT δ μ (tFor (iRng1 tr) g ts) P := fun σ H D s go => h σ H s _ fun vs H1 f1 r1 => by
  cases r1 with
  | cons r1 r2 =>
    cases r2
    rw [rp_int r1]
    refine ⟨n, rfl, hn0, hn, for_range (lo := 0) (n := n.toNat) (fun i σ' H' => ∃ δ1 μ1, I i δ1 μ1 ∧ SA δ1 μ1 σ' H' ∧ FS μ H1 μ1 H') ⟨δ, μ, h0, s.step f1, FS.refl _ _⟩ ?_ ?_⟩
    · rintro i σ' H' hi ⟨δ1, μ1, hI, s1, f⟩
      obtain ⟨δ2, js, hg, hb⟩ := hs i δ1 μ1 (by omega) hI
      have e0 : (0 : Int) + (i : Int) = (i : Int) := Int.zero_add _
      rw [e0]
      refine hg μ1 σ' H' _ s1 (Rp.int _) _ fun σ2 s2 _ => ?_
      refine hb σ2 H' _ s2 ⟨fun δ3 μ3 σ3 H3 n s3 f3 => ⟨δ3, μ3, n, s3, f.trans f3⟩, (go.rt.step (FS.of f1)).step f, (go.nx.step (FS.of f1)).step f, fun δ3 μ3 σ3 H3 n s3 f3 => ⟨δ3, μ3, n, s3, f.trans f3⟩⟩
    · rintro σ' H' ⟨δ1, μ1, hI, s1, f⟩
      exact go.nx δ1 μ1 σ' H' (hd δ1 μ1 hI) s1 ((FS.of f1).trans f)
theorem ht_while (I : Nat → Dl → Mu → Prop) (m0 : Nat) (h0 : I m0 δ μ)
    (hs : ∀ m δ1 μ1, I m δ1 μ1 → ∃ b, ET δ1 μ1 tt b ∧ (b = true → HT δ1 μ1 ts { P with nx := fun δ2 μ2 => ∃ m', m' < m ∧ I m' δ2 μ2, ct := fun δ2 μ2 => ∃ m', m' < m ∧ I m' δ2 μ2, bk := P.nx }) ∧ (b = false → P.nx δ1 μ1)) : HT δ μ (tWhile tt ts) P := fun σ H D s go => by
  refine ⟨fun m σ' H' => ∃ δ1 μ1, I m δ1 μ1 ∧ SA δ1 μ1 σ' H' ∧ FS μ H μ1 H', ⟨m0, δ, μ, h0, s, FS.refl _ _⟩, ?_⟩
  rintro m σ' H' ⟨δ1, μ1, hI, s1, f⟩
  obtain ⟨b, hb, h1, h2⟩ := hs m δ1 μ1 hI
  refine hb σ' H' s1 _ fun H2 f2 => ?_
  have f12 := f.trans (FS.of f2)
  cases b with
  | true =>
    refine iteT ⟨fun σ3 H3 => ∃ m', m' < m ∧ ∃ δ3 μ3, I m' δ3 μ3 ∧ SA δ3 μ3 σ3 H3 ∧ FS μ H μ3 H3, fun σ3 H3 p => p, ?_⟩
    exact h1 rfl σ' H2 _ (s1.step f2) ⟨fun δ3 μ3 σ3 H3 ⟨m', lt, n⟩ s3 f3 => ⟨m', lt, δ3, μ3, n, s3, f12.trans f3⟩, go.rt.step f12, go.nx.step f12, fun δ3 μ3 σ3 H3 ⟨m', lt, n⟩ s3 f3 => ⟨m', lt, δ3, μ3, n, s3, f12.trans f3⟩⟩
  | false => exact iteF (go.nx δ1 μ1 σ' H2 (h2 rfl) (s1.step f2) f12)
def CwA (δ : Dl) (μ : Mu) (H : Hp) (p : Addr) (xs : List A) (H' : Hp) : Prop := H p = none ∧ Fr [] H H' ∧ ∃ vs, H' p = some (.lst vs) ∧ RpAL H' vs xs
theorem CwA.start {δ : Dl} {μ : Mu} {H : Hp} {p : Addr} (h : H p = none) : CwA δ μ H p [] (upd H p (.lst [])) := ⟨h, Fr.new h nt_lst, [], upd_same, .nil⟩
theorem cw_turnA {σ2 : St} {H H' : Hp} {p : Addr} {xs : List A} {δ2 : Dl} (w : CwA δ μ H p xs H') (hl : xs.length < 100000) (s2 : SA δ2 μ σ2 H') (ht : ET δ2 μ tt b) (he : b = true → E δ2 μ te x) {N : Hp → Prop} (hN : ∀ H2, CwA δ μ H p (if b = true then xs ++ [x] else xs) H2 → N H2) :
    tt σ2 H' fun c H3 => if c = true then te σ2 H3 fun y H4 => ∃ acc, H4 p = some (.lst acc) ∧ acc.length < sizeLine ∧ N (upd H4 p (.lst (acc ++ [y]))) else N H3 := by
  obtain ⟨w1, w2, vs, w3, w4⟩ := w
  refine ht σ2 H' s2 _ fun H3 f3 => ?_
  cases b with
  | true =>
    refine iteT (he rfl σ2 H3 (s2.step f3) _ fun y H4 f4 ry => ?_)
    have q4 : H4 p = some (.lst vs) := f4.keep _ _ (f3.keep _ _ w3 (by simp) nt_lst) (by simp) nt_lst
    refine ⟨vs, q4, by rw [w4.length]; exact szt hl, hN _ ⟨w1, ((w2.trans0 f3).trans0 f4).mut w1 q4 rfl, _, upd_same, ?_⟩⟩
    have k : TK H4 (upd H4 p (.lst (vs ++ [y]))) := (Fr.wr (M := [p]) (o := .lst (vs ++ [y])) (by simp) q4 rfl).tup
    rw [if_pos rfl]
    exact (((w4.mono f3.tup).mono f4.tup).mono k).append (.cons (ry.mono k) .nil)
  | false =>
    refine iteF (hN _ ⟨w1, w2.trans0 f3, vs, f3.keep _ _ w3 (by simp) nt_lst, ?_⟩)
    rw [if_neg Bool.false_ne_true]
    exact w4.mono f3.tup
theorem filt_snoc {α β : Type} (xs : List α) (f : α → Bool) (k : α → β) {i : Nat} {x : α} (h : xs[i]? = some x) : ((xs.take (i + 1)).filter f).map k = if f x = true then ((xs.take i).filter f).map k ++ [k x] else ((xs.take i).filter f).map k := by
  have e : xs.take (i + 1) = xs.take i ++ [x] := by rw [List.take_succ, h]; rfl
  rw [e, List.filter_append, List.map_append]
  by_cases q : f x = true
  · rw [if_pos q, List.filter_cons, if_pos q]; rfl
  · rw [if_neg q, List.filter_cons, if_neg q]; simp
theorem en_lcT {ds : List D} {vs : List Nat} (h : E δ μ tl (.dat (.tup ds))) (hz : ds.length < 100000) (f : D → Bool) (k : D → A) (hb : ∀ d ∈ ds, ∃ δ2 js, Tg (wipeD δ vs) g (.dat d) δ2 js ∧ (∀ j ∈ js, j ∈ vs) ∧ ET δ2 μ tt (f d) ∧ (f d = true → E δ2 μ te (k d))) :
    EN δ μ (tLc (iTup K tl) g tt te vs) (.lst ((ds.filter f).map k)) := fun σ H s Q q => h σ H s _ fun v H1 f1 r1 => by
  obtain ⟨a, ws, rfl, ht, hr⟩ := rp_tup r1
  refine ⟨a, rfl, ⟨ws, SqT.of ht⟩, fun p hp => lc_tup (K := K) (a := a) (xs := ws) (fun i H' => CwA δ μ H1 p (((ds.take i).filter f).map k) H') (CwA.start hp) (fun i H' _ w => SqT.of (w.2.1.tup _ _ ht)) ?_ ?_⟩
  · intro i w H' hi cw
    obtain ⟨d, h3, h4⟩ := hr.getV hi
    obtain ⟨δ2, js, hg, hj, h5, h6⟩ := hb d (List.mem_of_getElem? h3)
    have s1 := (s.step f1).step cw.2.1
    refine hg μ _ H' w (s1.wipe vs) (Rp.mono cw.2.1.tup h4) _ fun σ2 s2 hw => ⟨(hw vs hj).trans wipe_wipe, cw_turnA cw ?_ s2 h5 h6 fun H2 w2 => ?_⟩
    · refine Nat.lt_of_le_of_lt ?_ hz
      rw [List.length_map]
      exact Nat.le_trans (List.length_filter_le _ _) (by rw [List.length_take]; omega)
    · rw [filt_snoc ds f k h3]
      exact w2
  · intro H' cw
    rw [hr.length, List.take_length] at cw
    obtain ⟨c1, c2, us, c3, c4⟩ := cw
    exact q p H' (f1.trans0 c2) (f1.free _ c1) ⟨us, c3, c4⟩ fun ps z => by rw [c3] at z; cases z
theorem en_lcL {a : Addr} {xs : List A} {vs : List Nat} (n : Nat) (h : E δ μ tl (.own a)) (hm : μ[n]? = some (a, .lst xs)) (hz : xs.length < 100000) (f : A → Bool) (k : A → A) (hb : ∀ d ∈ xs, ∃ δ2 js, Tg (wipeD δ vs) g d δ2 js ∧ (∀ j ∈ js, j ∈ vs) ∧ ET δ2 μ tt (f d) ∧ (f d = true → E δ2 μ te (k d))) :
    EN δ μ (tLc (iList K tl) g tt te vs) (.lst ((xs.filter f).map k)) := fun σ H s Q q => h σ H s _ fun v H1 f1 r1 => by
  obtain ⟨ws, ht, hr⟩ := (s.step f1).mem.lst hm
  refine ⟨a, r1, ⟨ws, SqL.of ht⟩, fun p hp => lc_list (K := K) (a := a) (xs := ws) (fun i H' => CwA δ μ H1 p (((xs.take i).filter f).map k) H') (CwA.start hp) (fun i H' _ w => SqL.of (w.2.1.keep _ _ ht (by simp) nt_lst)) ?_ ?_⟩
  · intro i w H' hi cw
    obtain ⟨d, h3, h4⟩ := hr.getV hi
    obtain ⟨δ2, js, hg, hj, h5, h6⟩ := hb d (List.mem_of_getElem? h3)
    have s1 := (s.step f1).step cw.2.1
    refine hg μ _ H' w (s1.wipe vs) (h4.mono cw.2.1.tup) _ fun σ2 s2 hw => ⟨(hw vs hj).trans wipe_wipe, cw_turnA cw ?_ s2 h5 h6 fun H2 w2 => ?_⟩
    · refine Nat.lt_of_le_of_lt ?_ hz
      rw [List.length_map]
      exact Nat.le_trans (List.length_filter_le _ _) (by rw [List.length_take]; omega)
    · rw [filt_snoc xs f k h3]
      exact w2
  · intro H' cw
    rw [hr.length, List.take_length] at cw
    obtain ⟨c1, c2, us, c3, c4⟩ := cw
    exact q p H' (f1.trans0 c2) (f1.free _ c1) ⟨us, c3, c4⟩ fun ps z => by rw [c3] at z; cases z
theorem en_lcR {n : Int} {vs : List Nat} (h : EA δ μ tr [.dat (.int n)]) (hz : n < 100000) (hz0 : -100000 ≤ n) (f : Nat → Bool) (k : Nat → A) (hb : ∀ i : Nat, (i : Int) < n → ∃ δ2 js, Tg (wipeD δ vs) g (.dat (.int (i : Int))) δ2 js ∧ (∀ j ∈ js, j ∈ vs) ∧ ET δ2 μ tt (f i) ∧ (f i = true → E δ2 μ te (k i))) :
    EN δ μ (tLc (iRng1 tr) g tt te vs) (.lst (((List.range n.toNat).filter f).map k)) := fun σ H s Q q => h σ H s _ fun ws H1 f1 r1 => by
  cases r1 with
  | cons r1 r2 =>
    cases r2
    rw [rp_int r1]
    refine ⟨n, rfl, by omega, by omega, fun p hp => lc_range (lo := 0) (n := n.toNat) (fun i H' => i ≤ n.toNat ∧ CwA δ μ H1 p ((((List.range n.toNat).take i).filter f).map k) H') ⟨Nat.zero_le _, by simpa using CwA.start hp⟩ ?_ ?_⟩
    · rintro i H' hi ⟨_, cw⟩
      have h3 : (List.range n.toNat)[i]? = some i := by rw [List.getElem?_range hi]
      obtain ⟨δ2, js, hg, hj, h5, h6⟩ := hb i (by omega)
      have s1 := (s.step f1).step cw.2.1
      have e0 : (0 : Int) + (i : Int) = (i : Int) := Int.zero_add _
      rw [e0]
      refine hg μ _ H' _ (s1.wipe vs) (Rp.int _) _ fun σ2 s2 hw => ⟨(hw vs hj).trans wipe_wipe, cw_turnA cw ?_ s2 h5 h6 fun H2 w2 => ⟨by omega, ?_⟩⟩
      · rw [List.length_map]
        refine Nat.lt_of_le_of_lt (List.length_filter_le _ _) ?_
        rw [List.length_take, List.length_range]
        omega
      · rw [filt_snoc _ f k h3]
        exact w2
    · rintro H' ⟨_, cw⟩
      rw [List.take_of_length_le (by simp)] at cw
      obtain ⟨c1, c2, us, c3, c4⟩ := cw
      exact q p H' (f1.trans0 c2) (f1.free _ c1) ⟨us, c3, c4⟩ fun ps z => by rw [c3] at z; cases z
theorem e_cb {r : List V → Hp → VK → Prop} {xs : List A} (ha : EA δ μ tr xs) (hr : ∀ (H : Hp) (σ : St) (vs : List V) (Q : VK), SA δ μ σ H → RpAL H vs xs → (∀ u H2, Fr [] H H2 → RpA H2 u z → Q u H2) → r vs H Q) : E δ μ (tCB r tr) z := fun σ H s Q k =>
  ha σ H s _ fun vs H1 f1 r1 => hr H1 σ vs Q (s.step f1) r1 fun u H3 f3 r3 => k u H3 (f1.trans0 f3) r3
theorem e_cbN {r : List V → Hp → VK → Prop} {xs : List A} (ha : EN δ μ te (.lst xs)) (hr : ∀ (H : Hp) (p : Addr) (vs : List V) (Q : VK), H p = some (.lst vs) → RpAL H vs xs → (∀ u H2, Fr [] H H2 → RpA H2 u z → Q u H2) → r [.ref p] H Q) : E δ μ (tCB r (tCons te tNil)) z := fun σ H s Q k =>
  ha σ H s _ fun p H1 f1 hn hc _ => by
    obtain ⟨vs, h1, h2⟩ := hc
    exact hr H1 p vs Q h1 h2 fun u H3 f3 r3 => k u H3 (f1.trans0 f3) r3
def rTupleOf (K : PySem.W.Frag) : List V → Hp → VK → Prop := fun xs H Q => ∃ p ys, xs = [.ref p] ∧ ((SqL K H p ys ∧ ∀ l, H l = none → Q (.ref l) (upd H l (.tup ys))) ∨ (SqT K H p ys ∧ Q (.ref p) H))
theorem call_tupleOf {X : Cx} : CallR X (.type "tuple") (rTupleOf X.K) := call_tuple_of
theorem e_tupleN {ds : List D} (h : EN δ μ te (.lst (ds.map .dat))) : E δ μ (tCB (rTupleOf K) (tCons te tNil)) (.dat (.tup ds)) := e_cbN h fun H p vs Q h1 h2 k =>
  ⟨p, vs, rfl, .inl ⟨SqL.of h1, fun l hl => k _ _ (Fr.new hl nt_tup) (Rp.tup upd_same ((RpAL.dat.mp h2).mono (Fr.new hl nt_tup).tup))⟩⟩
theorem e_tupleL {a : Addr} {ds : List D} (n : Nat) (h : E δ μ te (.own a)) (hm : μ[n]? = some (a, .lst (ds.map .dat))) : E δ μ (tCB (rTupleOf K) (tCons te tNil)) (.dat (.tup ds)) := e_cb (ea_cons h ea_nil) fun H σ vs Q s r k => by
  cases r with
  | cons r1 r2 =>
    cases r2
    obtain ⟨ws, h1, h2⟩ := s.mem.lst hm
    rw [show _ = V.ref a from r1]
    exact ⟨a, ws, rfl, .inl ⟨SqL.of h1, fun l hl => k _ _ (Fr.new hl nt_tup) (Rp.tup upd_same ((RpAL.dat.mp h2).mono (Fr.new hl nt_tup).tup))⟩⟩
theorem bls_of {H : Hp} : ∀ {vs : List V} {bs : List Bool}, RpAL H vs (bs.map fun b => .dat (.bl b)) → vs = bs.map V.bl
  | vs, [], r => by cases r; rfl
  | vs, b :: bs, r => by
    cases r with
    | cons r1 r2 => rw [rp_bl r1, bls_of r2]; rfl
theorem ints_of {H : Hp} : ∀ {vs : List V} {bs : List Int}, RpAL H vs (bs.map fun b => .dat (.int b)) → vs = bs.map V.int
  | vs, [], r => by cases r; rfl
  | vs, b :: bs, r => by
    cases r with
    | cons r1 r2 => rw [rp_int r1, ints_of r2]; rfl
theorem e_allN {bs : List Bool} (h : EN δ μ te (.lst (bs.map fun b => .dat (.bl b)))) : E δ μ (tCB (rAll K) (tCons te tNil)) (.dat (.bl (bs.all id))) := e_cbN h fun H p vs Q h1 h2 k => by
  rw [bls_of h2] at h1
  exact ⟨p, bs, rfl, SqL.of h1, k _ H (Fr.refl _ _) (Rp.bl _)⟩
theorem e_anyN {bs : List Bool} (h : EN δ μ te (.lst (bs.map fun b => .dat (.bl b)))) : E δ μ (tCB (rAny K) (tCons te tNil)) (.dat (.bl (bs.any id))) := e_cbN h fun H p vs Q h1 h2 k => by
  rw [bls_of h2] at h1
  exact ⟨p, bs, rfl, SqL.of h1, k _ H (Fr.refl _ _) (Rp.bl _)⟩
theorem en_is {c c' : C} (h : EN δ μ te c) (e : c = c') : EN δ μ te c' := e ▸ h
theorem e_allT {ds : List D} {vs : List Nat} (h : E δ μ tl (.dat (.tup ds))) (hz : ds.length < 100000) (k : D → Bool) (hb : ∀ d ∈ ds, ∃ δ2 js, Tg (wipeD δ vs) g (.dat d) δ2 js ∧ (∀ j ∈ js, j ∈ vs) ∧ E δ2 μ te (.dat (.bl (k d)))) :
    E δ μ (tCB (rAll K) (tCons (tLc (iTup K tl) g tYes te vs) tNil)) (.dat (.bl (ds.all k))) := by
  have q := en_lcT (K := K) (tt := tYes) (te := te) (vs := vs) h hz (fun _ => true) (fun d => .dat (.bl (k d))) fun d hd => by
    obtain ⟨δ2, js, h1, h2, h3⟩ := hb d hd
    exact ⟨δ2, js, h1, h2, fun σ H s Q k => k H (Fr.refl _ _), fun _ => h3⟩
  have e : (ds.filter fun _ => true).map (fun d => A.dat (.bl (k d))) = (ds.map k).map fun b => A.dat (.bl b) := by rw [List.filter_eq_self.mpr (fun _ _ => rfl), List.map_map]; rfl
  rw [e] at q
  have r := e_allN (K := K) q
  have e2 : (ds.map k).all id = ds.all k := by simp
  rw [e2] at r
  exact r
def spR (G : List D → D → Prop) : Sp := fun vs H Q _ => ∃ ds d, TabsN TC.T H ∧ RpL H vs ds ∧ G ds d ∧ ∀ v H', Fr [] H H' → Rp H' v d → Q v H'
theorem e_call {G : List D → D → Prop} {xs : List A} (ds : List D) (h : EA δ μ tr xs) (hx : xs = ds.map .dat) (hG : G ds d) : E δ μ (tCall (spR G) [] E0 tr) (.dat d) := fun σ H s Q k =>
  h σ H s _ fun vs H1 f1 r1 => by
    subst hx
    rw [List.append_nil]
    exact ⟨ds, d, (s.mem.step f1).tb, RpAL.dat.mp r1, hG, fun v H2 f2 r2 => k v H2 (f1.trans0 f2) r2⟩
def spM (G : List A → Mu → (A → Mu → Prop) → Prop) : Sp := fun vs H Q _ => ∃ xs μ P, RpAL H vs xs ∧ SM μ H ∧ G xs μ P ∧ ∀ x μ' v H', P x μ' → SM μ' H' → FS μ H μ' H' → RpA H' v x → Q v H'
theorem SM.frame {μ ν ν' : Mu} {H H' : Hp} (m : SM μ H) (hs : ∀ a ∈ keys ν, a ∈ keys μ) (f : FS ν H ν' H') (m' : SM ν' H') : SM (ν' ++ μ.filter fun p => decide (p.1 ∉ keys ν)) H' := by
  have mem : ∀ p ∈ μ.filter (fun p => decide (p.1 ∉ keys ν)), p ∈ μ ∧ p.1 ∉ keys ν := fun p hp => by
    obtain ⟨h1, h2⟩ := List.mem_filter.mp hp
    exact ⟨h1, of_decide_eq_true h2⟩
  have there : ∀ p ∈ μ, H p.1 ≠ none := fun p hp => (m.own p hp).there
  refine ⟨?_, fun p hp => ?_, fun p hp => ?_, m'.tb⟩
  · unfold keys
    rw [List.map_append]
    refine List.nodup_append.mpr ⟨m'.nd, m.nd.sublist ((List.filter_sublist).map _), fun a ha b hb e => ?_⟩
    subst e
    obtain ⟨p, hp, ep⟩ := List.mem_map.mp hb
    obtain ⟨h1, h2⟩ := mem p hp
    rcases f.new a ha with q | q
    · exact h2 (by rw [ep]; exact q)
    · exact there p h1 (by rw [ep]; exact q)
  · rcases List.mem_append.mp hp with q | q
    · exact m'.own p q
    · obtain ⟨h1, h2⟩ := mem p q
      exact (m.own p h1).keep f.fr.tup fun o e => f.fr.keep _ _ e h2 fun ps z => m.notbl p h1 ps (by rw [e, z])
  · rcases List.mem_append.mp hp with q | q
    · exact m'.notbl p q
    · obtain ⟨h1, h2⟩ := mem p q
      intro ps z
      cases e : H p.1 with
      | none => exact there p h1 e
      | some o =>
        have q := f.fr.keep p.1 o e h2 fun ps z => m.notbl p h1 ps (by rw [e, z])
        rw [z] at q
        cases q
        exact m.notbl p h1 ps e
theorem ex_callM {G : List A → Mu → (A → Mu → Prop) → Prop} {xs : List A} {ν : Mu} {R : A → Mu → Prop} (h : EA δ μ tr xs) (hν : List.Sublist ν μ) (hG : G xs ν R) :
    EX δ μ (tCall (spM G) [] E0 tr) (fun x μ' => ∃ ν', R x ν' ∧ μ' = ν' ++ μ.filter fun p => decide (p.1 ∉ keys ν)) := fun σ H s Q k =>
  h σ H s _ fun vs H1 f1 r1 => by
    rw [List.append_nil]
    have m1 := s.mem.step f1
    refine ⟨xs, ν, R, r1, m1.sub hν, hG, fun x ν' v H2 hR m2 f2 r2 => ?_⟩
    have hsub : ∀ a ∈ keys ν, a ∈ keys μ := fun a ha => (hν.map _).subset ha
    refine k x _ v H2 ⟨ν', hR, rfl⟩ (m1.frame hsub f2 m2) ((FS.of f1).trans ⟨f2.fr.weak hsub, fun a ha => ?_⟩) r2
    unfold keys at ha
    rw [List.map_append] at ha
    rcases List.mem_append.mp ha with q | q
    · rcases f2.new a q with z | z
      · exact .inl (hsub a z)
      · exact .inr z
    · obtain ⟨p, hp, e⟩ := List.mem_map.mp q
      exact .inl (List.mem_map.mpr ⟨p, (List.mem_filter.mp hp).1, e⟩)
theorem ex_call {G : List D → D → Prop} {R : List A → Mu → Prop} {S : A → Mu → Prop} (h : EXA δ μ tr R) (hG : ∀ xs μ', R xs μ' → ∃ ds d, xs = ds.map .dat ∧ G ds d ∧ S (.dat d) μ') : EX δ μ (tCall (spR G) [] E0 tr) S := fun σ H s Q k =>
  h σ H s _ fun xs μ' vs H1 r m f1 rv => by
    obtain ⟨ds, d, e, hg, hs⟩ := hG xs μ' r
    subst e
    rw [List.append_nil]
    exact ⟨ds, d, m.tb, RpAL.dat.mp rv, hg, fun v H2 f2 r2 => k (.dat d) μ' v H2 hs (m.step f2) (f1.trans (FS.of f2)) r2⟩
def dl0 (N : List Str) (xs : List A) : Dl := xs.map some ++ List.replicate (N.length - xs.length) none
theorem sa_start {N : List Str} {vs : List V} {xs : List A} {H : Hp} (r : RpAL H vs xs) (m : SM μ H) (hl : xs.length ≤ N.length) : SA (dl0 N xs) μ (L2.start N vs) H := by
  refine ⟨by unfold dl0 L2.start; simp [r.length], fun i x e => ?_, m⟩
  unfold dl0 at e
  by_cases hi : i < xs.length
  · rw [List.getElem?_append_left (by simpa using hi), List.getElem?_map] at e
    cases q : xs[i]? with
    | none => rw [q] at e; cases e
    | some y =>
      rw [q] at e
      cases e
      obtain ⟨v, h1, h2⟩ := r.get q
      refine ⟨v, ?_, h2⟩
      unfold L2.start
      rw [List.getElem?_append_left (by simpa [r.length] using hi), List.getElem?_map, h1]
      rfl
  · rw [List.getElem?_append_right (by simpa using hi), List.getElem?_replicate] at e
    split at e <;> cases e
theorem sm_nil {H : Hp} (t : TabsN TC.T H) : SM [] H := ⟨List.nodup_nil, fun _ h => (by cases h), fun _ h => (by cases h), t⟩
end
theorem FunD.okR {P : Program} {w : World} {K : PySem.W.Frag} {mg : Str → Option Value} {base : Heap} {x qual : Str} {params : Arguments} {body : List Stmt} {scope : Scope} {f : Addr} {fd : FuncData} {N ps : List Str} {k : Nat} {G : List D → D → Prop}
    (F : FunD K x qual params body scope [] [] f fd) (S : FnScope N ps scope) (hl : ∀ ds d, G ds d → ds.length = ps.length) (hN : ps.length ≤ N.length)
    (hb : ∀ (cdv : Value) (A : Around) (outer : List Env) (s : Shared) (H : Hp) (E : XK), Room k (A.deeper (PyProof.Rows.envOfC qual scope s.heap.objs.size f cdv)) →
      ∃ t, PSs (cxOf CX0 P w K mg base N qual scope f cdv A outer s H E).nox body t ∧ ∀ ds d, G ds d → HT (dl0 N (ds.map .dat)) [] t { nx := fun _ _ => d = .non, rt := fun y _ => y = .dat d }) :
    FnOk P w K mg base CX0 (k + 1) f fd ps (spR G) := by
  refine F.ok S (fun vs H Q E ⟨ds, d, _, r, hG, _⟩ => by rw [r.length]; exact hl ds d hG) (fun cdv A outer s H vs Q E hr ⟨ds, d, htb, r, hG, q⟩ => ?_)
  obtain ⟨t, h1, h2⟩ := hb cdv A outer s H E hr
  refine ⟨t, h1.nox, ?_⟩
  have s0 : SA (dl0 N (ds.map .dat)) [] (L2.start N vs) H := sa_start (RpAL.dat.mpr r) (sm_nil htb) (by rw [List.length_map, hl ds d hG]; exact hN)
  have clean : ∀ {μ' H'}, FS [] H μ' H' → Fr [] H H' := fun f => f.fr
  refine h2 ds d hG (L2.start N vs) H _ s0 ⟨fun δ' μ' σ' H' n s' f => ?_, fun y μ' v H' n m f ry => ?_, fun _ _ _ _ n _ _ => n.elim, fun _ _ _ _ n _ _ => n.elim⟩
  · have n : d = .non := n
    subst n
    exact q .non H' f.fr Rp.non
  · have n : y = .dat d := n
    subst n
    exact q v H' f.fr ry
theorem FunD.okM {P : Program} {w : World} {K : PySem.W.Frag} {mg : Str → Option Value} {base : Heap} {x qual : Str} {params : Arguments} {body : List Stmt} {scope : Scope} {f : Addr} {fd : FuncData} {N ps : List Str} {k : Nat} {G : List A → Mu → (A → Mu → Prop) → Prop}
    (F : FunD K x qual params body scope [] [] f fd) (S : FnScope N ps scope) (hl : ∀ xs μ R, G xs μ R → xs.length = ps.length) (hN : ps.length ≤ N.length)
    (hb : ∀ (cdv : Value) (A : Around) (outer : List Env) (s : Shared) (H : Hp) (E : XK), Room k (A.deeper (PyProof.Rows.envOfC qual scope s.heap.objs.size f cdv)) →
      ∃ t, PSs (cxOf CX0 P w K mg base N qual scope f cdv A outer s H E).nox body t ∧ ∀ xs μ R, G xs μ R → HT (dl0 N xs) μ t { nx := fun _ μ' => R (.dat .non) μ', rt := R }) :
    FnOk P w K mg base CX0 (k + 1) f fd ps (spM G) := by
  refine F.ok S (fun vs H Q E ⟨xs, μ, R, r, m, hG, _⟩ => by rw [r.length]; exact hl xs μ R hG) (fun cdv A outer s H vs Q E hr ⟨xs, μ, R, r, m, hG, q⟩ => ?_)
  obtain ⟨t, h1, h2⟩ := hb cdv A outer s H E hr
  refine ⟨t, h1.nox, ?_⟩
  have s0 : SA (dl0 N xs) μ (L2.start N vs) H := sa_start r m (by rw [hl xs μ R hG]; exact hN)
  exact h2 xs μ R hG (L2.start N vs) H _ s0 ⟨fun δ' μ' σ' H' n s' f => q (.dat .non) μ' .non H' n s'.mem f Rp.non, fun y μ' v H' n m' f ry => q y μ' v H' n m' f ry, fun _ _ _ _ n _ _ => n.elim, fun _ _ _ _ n _ _ => n.elim⟩
end TK
set_option maxHeartbeats 2000000
namespace TK
open PySem L2 NdefX LamX
variable [TC]
structure Raw (K : PySem.W.Frag) (mg : Str → Option Value) (x : Str) (st : Stmt) : Prop where
  fn : ∃ fd, FunD K x x (defArgs st) (defBody st) (defScope st) [] [] (He.ga K x) fd
  mg : mg x = some (.ref (He.ga K x))
def FdAt (K : PySem.W.Frag) (f : Addr) (fd : FuncData) : Prop := ∃ oc od osl, K.lookup f = some ⟨oc, od, .func fd, osl⟩
theorem FdAt.same {K : PySem.W.Frag} {f : Addr} {fd fd' : FuncData} (h : FdAt K f fd) (h' : FdAt K f fd') : fd = fd' := by
  obtain ⟨oc, od, osl, e⟩ := h
  obtain ⟨oc', od', osl', e'⟩ := h'
  rw [e] at e'
  injection e' with e'
  injection e' with _ _ e'
  injection e'
theorem fdAt {K : PySem.W.Frag} {x qual : Str} {params : Arguments} {body : List Stmt} {scope : Scope} {dvs : List V} {kws : List (Str × V)} {f : Addr} {fd : FuncData} (F : FunD K x qual params body scope dvs kws f fd) : FdAt K f fd := by
  obtain ⟨oc, od, dV, kV, doc, pm, an, cdv, ct, osl, rfl, lk, hcd, _, _⟩ := F.ex
  exact ⟨oc, od, osl, lk⟩
structure Dn (P : Program) (w : World) (K : PySem.W.Frag) (mg : Str → Option Value) (base : Heap) (x : Str) (ps : List Str) (k : Nat) (sp : Sp) : Prop where
  ex : ∃ fd, FnOk P w K mg base CX0 k (He.ga K x) fd ps sp ∧ Binds K fd ps [] ∧ FdAt K (He.ga K x) fd
  mg : mg x = some (.ref (He.ga K x))
  kp : PySem.W.keepIn K (.ref (He.ga K x)) = true
section
variable {P : Program} {w : World} {K : PySem.W.Frag} {mg : Str → Option Value} {base : Heap}
theorem Raw.dnR {x : Str} {st : Stmt} {N ps : List Str} {k : Nat} {G : List D → D → Prop} (R : Raw K mg x st) (S : FnScope N ps (defScope st)) (hl : ∀ ds d, G ds d → ds.length = ps.length) (hN : ps.length ≤ N.length)
    (hbind : ∀ (kV doc pm : Value) (an : Option Addr) (cdv ct : Value) (us : List Value), us.length = ps.length → bindArgs (PySem.W.fnOf x x (defArgs st) (defBody st) (defScope st) .none kV doc pm an cdv ct) ⟨us, []⟩ = pure (ps.zip us))
    (hb : ∀ (cdv : Value) (A : Around) (outer : List Env) (s : Shared) (H : Hp) (E : XK), Room k (A.deeper (PyProof.Rows.envOfC x (defScope st) s.heap.objs.size (He.ga K x) cdv)) →
      ∃ t, PSs (cxOf CX0 P w K mg base N x (defScope st) (He.ga K x) cdv A outer s H E).nox (defBody st) t ∧ ∀ ds d, G ds d → HT (dl0 N (ds.map .dat)) [] t { nx := fun _ _ => d = .non, rt := fun y _ => y = .dat d }) :
    Dn P w K mg base x ps (k + 1) (spR G) := by
  obtain ⟨fd, F⟩ := R.fn
  exact ⟨⟨fd, FunD.okR F S hl hN hb, F.bindsN hbind, fdAt F⟩, R.mg, F.kp⟩
theorem Raw.dnM {x : Str} {st : Stmt} {N ps : List Str} {k : Nat} {G : List A → Mu → (A → Mu → Prop) → Prop} (R : Raw K mg x st) (S : FnScope N ps (defScope st)) (hl : ∀ xs μ R, G xs μ R → xs.length = ps.length) (hN : ps.length ≤ N.length)
    (hbind : ∀ (kV doc pm : Value) (an : Option Addr) (cdv ct : Value) (us : List Value), us.length = ps.length → bindArgs (PySem.W.fnOf x x (defArgs st) (defBody st) (defScope st) .none kV doc pm an cdv ct) ⟨us, []⟩ = pure (ps.zip us))
    (hb : ∀ (cdv : Value) (A : Around) (outer : List Env) (s : Shared) (H : Hp) (E : XK), Room k (A.deeper (PyProof.Rows.envOfC x (defScope st) s.heap.objs.size (He.ga K x) cdv)) →
      ∃ t, PSs (cxOf CX0 P w K mg base N x (defScope st) (He.ga K x) cdv A outer s H E).nox (defBody st) t ∧ ∀ xs μ R, G xs μ R → HT (dl0 N xs) μ t { nx := fun _ μ' => R (.dat .non) μ', rt := R }) :
    Dn P w K mg base x ps (k + 1) (spM G) := by
  obtain ⟨fd, F⟩ := R.fn
  exact ⟨⟨fd, FunD.okM F S hl hN hb, F.bindsN hbind, fdAt F⟩, R.mg, F.kp⟩
end
section
variable {X : Cx} {x : Str} {ps : List Str} {k j : Nat} {sp : Sp} {p pos : Pos} {e : Expr} {es : List Expr} {t : TA}
theorem pe_def (D : Dn X.prog X.w X.K X.mg X.base x ps k sp) (hr : Room j X.A) (hk : k ≤ j) (hg : Gl X x) (ha : PA X (e :: es) t) (hdb : (x == ("__debug__" : Str)) = false := by decide)
    (he : starEach (e :: es) X.env = (false, eval e X.env) :: starEach es X.env := by rfl) (hpl : (backTo pos (starEach es X.env)).any (·.1) = false := by rfl) : PE X (.Call (.Name x p) (e :: es) [] pos) (tCall sp [] E0 t) := by
  obtain ⟨fd, F, b, _⟩ := D.ex
  exact pe_call F (hr.mono hk) hg D.mg D.kp b .nil pass0 ha hdb he hpl
end
def rPlus (K : PySem.W.Frag) : R2 := fun x y H Q => rI0 (fun i j => .int (i + j)) x y H Q ∨ (rCatA K x y H Q ∨ rCat x y H Q)
theorem op_plus {X : Cx} : OpR X (binaryOp .Add) (rPlus X.K) := op_add.or (op_catA.or op_cat)
def rEqA (K : PySem.W.Frag) : R2 := fun x y H Q => rEq x y H Q ∨ rEqD K x y H Q
def rNeA (K : PySem.W.Frag) : R2 := fun x y H Q => rNe x y H Q ∨ rNeD K x y H Q
theorem op_eqA {X : Cx} {k : Nat} (hr : Room k X.A) : OpR X (compareOp .Eq) (rEqA X.K) := op_eq.or (op_eqD hr.units)
theorem op_neA {X : Cx} {k : Nat} (hr : Room k X.A) : OpR X (compareOp .NotEq) (rNeA X.K) := op_ne.or (op_neD hr.units)
def rLenA (K : PySem.W.Frag) : List V → Hp → VK → Prop := fun xs H Q => (∃ x n, xs = [x] ∧ LenV K x H n ∧ Q (.int n) H) ∨ (∃ a kvs, xs = [V.ref a] ∧ H a = some (.dK kvs) ∧ Q (.int kvs.length) H)
theorem cr_len {X : Cx} : CallR X (.builtin "len") (rLenA X.K) := call_len.or call_lenD
def rIsiA (K : PySem.W.Frag) : List V → Hp → VK → Prop := fun xs H Q => rIsi K xs H Q ∨ rIsiT K xs H Q
theorem cr_isi {X : Cx} : CallR X (.builtin "isinstance") (rIsiA X.K) := call_isi.or call_isiT
def rSlA2 (K : PySem.W.Frag) : V → Option Int → Option Int → Hp → VK → Prop := fun x lo hi H Q => rSlA K x lo hi H Q ∨ rSlL K x lo hi H Q
theorem sl_any {X : Cx} : SlR X (rSlA2 X.K) := sl_tupA.or sl_list
def rIxA (K : PySem.W.Frag) : R2 := fun x y H Q => rIxT K x y H Q ∨ rIxL K x y H Q
theorem IxR.or {X : Cx} {r r' : R2} (h : IxR X r) (h' : IxR X r') : IxR X (fun x y H Q => r x y H Q ∨ r' x y H Q) := fun value slice pins s σ H x y v u Q I rx ry q e => q.elim (fun z => h value slice pins s σ H x y v u Q I rx ry z e) fun z => h' value slice pins s σ H x y v u Q I rx ry z e
theorem ix_any {X : Cx} : IxR X (rIxA X.K) := ix_tup.or ix_list
def tyC (n : String) : TE := tC (.ty n)
section
variable {δ δ' : Dl} {μ μ' : Mu} {te ta tb tc tl : TE} {tt tu : TT} {tr : TA} {x y z : A} {d e : D} {b c : Bool} {ts us : TS} {P : Po} {g : TG} {K : PySem.W.Frag}
theorem rv_orl {r r' : R2} (h : RV r x y z) : RV (fun x y H Q => r x y H Q ∨ r' x y H Q) x y z := fun H v w Q r1 r2 k => .inl (h H v w Q r1 r2 k)
theorem rv_orr {r r' : R2} (h : RV r' x y z) : RV (fun x y H Q => r x y H Q ∨ r' x y H Q) x y z := fun H v w Q r1 r2 k => .inr (h H v w Q r1 r2 k)
theorem e_plusI {i j : Int} (ha : E δ μ ta (.dat (.int i))) (hb : E δ μ tb (.dat (.int j))) : E δ μ (tOp (rPlus K) ta tb) (.dat (.int (i + j))) := e_op ha hb (rv_orl (rv_int (g := fun i j => i + j)))
theorem e_plusT {ds es : List D} (ha : E δ μ ta (.dat (.tup ds))) (hb : E δ μ tb (.dat (.tup es))) (hz : ds.length + es.length ≤ 100000) : E δ μ (tOp (rPlus K) ta tb) (.dat (.tup (ds ++ es))) := e_op ha hb fun H v w Q r1 r2 k => by
  obtain ⟨a, vs, rfl, h1, q1⟩ := rp_tup r1
  obtain ⟨a', ws, rfl, h2, q2⟩ := rp_tup r2
  refine .inr (.inl ⟨a, a', vs, ws, rfl, rfl, SqT.of h1, SqT.of h2, by rw [q1.length, q2.length]; exact szl hz, fun e => ?_, fun _ e => ?_, fun _ _ p hp => ?_⟩)
  · subst e; cases q1
    exact k _ H (Fr.refl _ _) (Rp.tup h2 q2)
  · subst e; cases q2
    rw [List.append_nil] at k
    exact k _ H (Fr.refl _ _) (Rp.tup h1 q1)
  · exact k _ _ (Fr.new hp nt_tup) (Rp.tup upd_same ((q1.append q2).mono (Fr.new hp nt_tup).tup))
theorem e_lenT {ds : List D} (ha : E δ μ ta (.dat (.tup ds))) : E δ μ (tCB (rLenA K) (tCons ta tNil)) (.dat (.int (ds.length : Int))) := e_cb (ea_cons ha ea_nil) fun H σ vs Q s r k => by
  cases r with
  | cons r1 r2 =>
    cases r2
    obtain ⟨a, ws, rfl, h1, q1⟩ := rp_tup r1
    exact .inl ⟨_, ws.length, rfl, .inr ⟨ws, SqT.of h1, rfl⟩, by rw [q1.length]; exact k _ H (Fr.refl _ _) (Rp.int _)⟩
theorem e_lenL {a : Addr} {xs : List A} (n : Nat) (ha : E δ μ ta (.own a)) (hm : μ[n]? = some (a, .lst xs)) : E δ μ (tCB (rLenA K) (tCons ta tNil)) (.dat (.int (xs.length : Int))) := e_cb (ea_cons ha ea_nil) fun H σ vs Q s r k => by
  cases r with
  | cons r1 r2 =>
    cases r2
    rw [show _ = V.ref a from r1]
    obtain ⟨ws, h1, q1⟩ := s.mem.lst hm
    exact .inl ⟨_, ws.length, rfl, .inl ⟨ws, SqL.of h1, rfl⟩, by rw [q1.length]; exact k _ H (Fr.refl _ _) (Rp.int _)⟩
theorem e_lenD {a : Addr} {kvs : List (Key × A)} (n : Nat) (ha : E δ μ ta (.own a)) (hm : μ[n]? = some (a, .dk kvs)) : E δ μ (tCB (rLenA K) (tCons ta tNil)) (.dat (.int (kvs.length : Int))) := e_cb (ea_cons ha ea_nil) fun H σ vs Q s r k => by
  cases r with
  | cons r1 r2 =>
    cases r2
    rw [show _ = V.ref a from r1]
    obtain ⟨ks, h1, q1⟩ := s.mem.dk hm
    exact .inr ⟨a, ks, rfl, h1, by rw [← Paired.length q1]; exact k _ H (Fr.refl _ _) (Rp.int _)⟩
def tyD : D → String
  | .non => "NoneType"
  | .bl _ => "bool"
  | .int _ => "int"
  | .str _ => "str"
  | .tup _ => "tuple"
def isiB (a b : String) : Bool := a == b || (a == "bool" && b == "int")
def tyNames : List String := ["NoneType", "bool", "int", "str", "tuple", "list", "dict"]
theorem kit_all : (tyNames.all fun a => ["int", "bool", "tuple", "list", "str"].all fun b => kitB a b == some (isiB a b)) = true := by decide +kernel
theorem kit_of {a b : String} (ha : a ∈ tyNames) (hb : b ∈ ["int", "bool", "tuple", "list", "str"]) : PySem.W.kitOne K (.type a) (.type b) = some (isiB a b) :=
  kit_ty (by have := List.all_eq_true.mp (List.all_eq_true.mp kit_all a ha) b hb; simpa using this)
theorem tyD_mem (d : D) : tyD d ∈ tyNames := by cases d <;> simp [tyD, tyNames]
theorem ty_of {H : Hp} {v : V} (r : Rp H v d) : TyX K H v (.type (tyD d)) := by
  cases r with
  | non => exact .base .non
  | bl b => exact .base (.bl b)
  | int b => exact .base (.int b)
  | str b => exact .base (.str b)
  | tup h _ => exact .base (.tup h)
theorem e_isi {T : String} (ha : E δ μ ta (.dat d)) (hT : T ∈ ["int", "bool", "tuple", "list", "str"]) : E δ μ (tCB (rIsiA K) (tCons ta (tCons (tC (.ty T)) tNil))) (.dat (.bl (isiB (tyD d) T))) := fun σ H s Q k =>
  ha σ H s _ fun v H1 f1 r1 => .inl ⟨v, .ty T, _, _, _, rfl, ClsV.ty T, ty_of r1, kit_of (tyD_mem d) hT, k _ H1 f1 (Rp.bl _)⟩
theorem e_isiL {T : String} {a : Addr} {xs : List A} (n : Nat) (ha : E δ μ ta (.own a)) (hm : μ[n]? = some (a, .lst xs)) (hT : T ∈ ["int", "bool", "tuple", "list", "str"]) : E δ μ (tCB (rIsiA K) (tCons ta (tCons (tC (.ty T)) tNil))) (.dat (.bl (isiB "list" T))) := fun σ H s Q k =>
  ha σ H s _ fun v H1 f1 r1 => by
    obtain ⟨ws, h1, q1⟩ := (s.step f1).mem.lst hm
    rw [show v = V.ref a from r1]
    exact .inl ⟨_, .ty T, _, _, _, rfl, ClsV.ty T, .base (.lst h1), kit_of (by simp [tyNames]) hT, k _ H1 f1 (Rp.bl _)⟩
mutual
def D.py : D → PyData
  | .non => .none
  | .bl b => .bool b
  | .int i => .int i
  | .str s => .str s
  | .tup ds => .tuple (D.pyL ds)
def D.pyL : List D → List PyData
  | [] => []
  | d :: ds => d.py :: D.pyL ds
end
mutual
theorem dp_of {H : Hp} : ∀ {v : V} {d : D}, Rp H v d → Dp K H v d.py
  | _, _, .non => .non
  | _, _, .bl b => .bl b
  | _, _, .int i => .int i
  | _, _, .str s => .str s
  | _, _, .tup h r => .tup (SqT.of h) (dpl_of r)
theorem dpl_of {H : Hp} : ∀ {vs : List V} {ds : List D}, RpL H vs ds → DpAll K H vs (D.pyL ds)
  | _, _, .nil => .nil
  | _, _, .cons h r => .cons (dp_of h) (dpl_of r)
end
theorem e_eqT {ds es : List D} (ha : E δ μ ta (.dat (.tup ds))) (hb : E δ μ tb (.dat (.tup es))) (h1 : SeqAt.shaped (D.tup ds).py = true) (h2 : SeqAt.shaped (D.tup es).py = true) : E δ μ (tOp (rEqA K) ta tb) (.dat (.bl (PyData.eqv (D.tup ds).py (D.tup es).py))) := e_op ha hb fun H v w Q r1 r2 k =>
  .inr ⟨_, _, dp_of r1, dp_of r2, h1, h2, k _ H (Fr.refl _ _) (Rp.bl _)⟩
theorem e_neT {ds es : List D} (ha : E δ μ ta (.dat (.tup ds))) (hb : E δ μ tb (.dat (.tup es))) (h1 : SeqAt.shaped (D.tup ds).py = true) (h2 : SeqAt.shaped (D.tup es).py = true) : E δ μ (tOp (rNeA K) ta tb) (.dat (.bl (!PyData.eqv (D.tup ds).py (D.tup es).py))) := e_op ha hb fun H v w Q r1 r2 k =>
  .inr ⟨_, _, dp_of r1, dp_of r2, h1, h2, k _ H (Fr.refl _ _) (Rp.bl _)⟩
theorem e_eqAI {i j : Int} (ha : E δ μ ta (.dat (.int i))) (hb : E δ μ tb (.dat (.int j))) : E δ μ (tOp (rEqA K) ta tb) (.dat (.bl (decide (i = j)))) := e_op ha hb fun H v w Q r1 r2 k => by
  rw [rp_int r1, rp_int r2]
  refine .inl ⟨rfl, k _ H (Fr.refl _ _) ?_⟩
  rw [dec_int, Bool.beq_eq_decide_eq]
  exact Rp.bl _
theorem e_neAI {i j : Int} (ha : E δ μ ta (.dat (.int i))) (hb : E δ μ tb (.dat (.int j))) : E δ μ (tOp (rNeA K) ta tb) (.dat (.bl (!decide (i = j)))) := e_op ha hb fun H v w Q r1 r2 k => by
  rw [rp_int r1, rp_int r2]
  refine .inl ⟨rfl, k _ H (Fr.refl _ _) ?_⟩
  rw [dec_int, Bool.beq_eq_decide_eq]
  exact Rp.bl _
theorem e_eqAB {i j : Bool} (ha : E δ μ ta (.dat (.bl i))) (hb : E δ μ tb (.dat (.bl j))) : E δ μ (tOp (rEqA K) ta tb) (.dat (.bl (decide (i = j)))) := e_op ha hb fun H v w Q r1 r2 k => by
  rw [rp_bl r1, rp_bl r2]
  refine .inl ⟨rfl, k _ H (Fr.refl _ _) ?_⟩
  rw [dec_bl, Bool.beq_eq_decide_eq]
  exact Rp.bl _
theorem e_neAB {i j : Bool} (ha : E δ μ ta (.dat (.bl i))) (hb : E δ μ tb (.dat (.bl j))) : E δ μ (tOp (rNeA K) ta tb) (.dat (.bl (!decide (i = j)))) := e_op ha hb fun H v w Q r1 r2 k => by
  rw [rp_bl r1, rp_bl r2]
  refine .inl ⟨rfl, k _ H (Fr.refl _ _) ?_⟩
  rw [dec_bl, Bool.beq_eq_decide_eq]
  exact Rp.bl _
theorem e_ixT {ds : List D} {i : Int} (ha : E δ μ ta (.dat (.tup ds))) (hb : E δ μ tb (.dat (.int i))) (h : atI ds i = some d) : E δ μ (tOp (rIxA K) ta tb) (.dat d) := e_op ha hb fun H v w Q r1 r2 k => by
  obtain ⟨a, vs, rfl, ht, hr⟩ := rp_tup r1
  rw [rp_int r2]
  obtain ⟨j, h1, h2⟩ := at_of hr.length h
  obtain ⟨u, h3, h4⟩ := hr.get h1
  exact .inl ⟨a, vs, i, u, rfl, rfl, SqT.of ht, by rw [h2]; exact h3, k _ H (Fr.refl _ _) h4⟩
theorem e_ixA {a : Addr} {xs : List A} {i : Int} (n : Nat) (ha : E δ μ ta (.own a)) (hb : E δ μ tb (.dat (.int i))) (hm : μ[n]? = some (a, .lst xs)) (h : atI xs i = some x) : E δ μ (tOp (rIxA K) ta tb) x := e_opM ha hb fun H σ v w Q s r1 r2 k => by
  obtain ⟨vs, ht, hr⟩ := s.mem.lst hm
  rw [show v = .ref a from r1, rp_int r2]
  obtain ⟨j, h1, h2⟩ := at_of hr.length h
  obtain ⟨u, h3, h4⟩ := hr.get h1
  exact .inr ⟨a, vs, i, u, rfl, rfl, SqL.of ht, by rw [h2]; exact h3, k _ H (Fr.refl _ _) h4⟩
def EO (δ : Dl) (μ : Mu) (to : TO) (o : Option Int) : Prop := ∀ σ H, SA δ μ σ H → ∀ Q : Option Int → Hp → Prop, (∀ H2, Fr [] H H2 → Q o H2) → to σ H Q
theorem eo_none : EO δ μ tNoPart none := fun σ H s Q k => k H (Fr.refl _ _)
theorem eo_some {i : Int} (h : E δ μ te (.dat (.int i))) : EO δ μ (tPart te) (some i) := fun σ H s Q k => h σ H s _ fun v H1 f r => ⟨i, rp_int r, k H1 f⟩
def cutL {α : Type} (xs : List α) (lo hi : Option Int) : List α := (xs.drop (HT.sIx xs.length 0 lo)).take (HT.sIx xs.length xs.length hi - HT.sIx xs.length 0 lo)
theorem e_slT {tlo thi : TO} {ds : List D} {lo hi : Option Int} (h : E δ μ te (.dat (.tup ds))) (h1 : EO δ μ tlo lo) (h2 : EO δ μ thi hi) : E δ μ (tSl (rSlA2 K) te tlo thi) (.dat (.tup (cutL ds lo hi))) := fun σ H s Q k =>
  h σ H s _ fun v H1 f1 r1 => h1 σ H1 (s.step f1) _ fun H2 f2 => h2 σ H2 (s.step (f1.trans0 f2)) _ fun H3 f3 => by
    obtain ⟨a, vs, rfl, ht, hr⟩ := rp_tup (r1.mono (f2.trans0 f3).tup)
    have f := (f1.trans0 f2).trans0 f3
    have hc : RpL H3 (cutV vs lo hi) (cutL ds lo hi) := by
      unfold cutV cutL
      rw [hr.length]
      exact (hr.drop _).take _
    refine .inl ⟨a, vs, rfl, SqT.of ht, fun hw => ?_, fun _ p hp => k _ _ (f.trans0 (Fr.new hp nt_tup)) (Rp.tup upd_same (hc.mono (Fr.new hp nt_tup).tup))⟩
    have e : cutL ds lo hi = ds := by
      unfold cutL
      rw [← hr.length, hw.1, hw.2, List.drop_zero, Nat.sub_zero, hr.length, List.take_length]
    rw [e] at k
    exact k _ H3 f (Rp.tup ht hr)
theorem en_slL {tlo thi : TO} {a : Addr} {xs : List A} {lo hi : Option Int} (n : Nat) (h : E δ μ te (.own a)) (hm : μ[n]? = some (a, .lst xs)) (h1 : EO δ μ tlo lo) (h2 : EO δ μ thi hi) : EN δ μ (tSl (rSlA2 K) te tlo thi) (.lst (cutL xs lo hi)) := fun σ H s Q k =>
  h σ H s _ fun v H1 f1 r1 => h1 σ H1 (s.step f1) _ fun H2 f2 => h2 σ H2 (s.step (f1.trans0 f2)) _ fun H3 f3 => by
    have f := (f1.trans0 f2).trans0 f3
    obtain ⟨vs, ht, hr⟩ := (s.step f).mem.lst hm
    rw [show v = V.ref a from r1]
    have hc : RpAL H3 (cutV vs lo hi) (cutL xs lo hi) := by
      unfold cutV cutL
      rw [hr.length]
      exact (hr.drop _).take _
    exact .inr ⟨a, vs, rfl, SqL.of ht, fun p hp => k p _ (f.trans0 (Fr.new hp nt_lst)) (f.free _ hp) ⟨_, upd_same, hc.mono (Fr.new hp nt_lst).tup⟩ (fun ps z => by rw [upd_same] at z; cases z)⟩
def rMax2 : List V → Hp → VK → Prop := fun xs H Q => ∃ i j, xs = [.int i, .int j] ∧ Q (.int (if j > i then j else i)) H
def rMin2 : List V → Hp → VK → Prop := fun xs H Q => ∃ i j, xs = [.int i, .int j] ∧ Q (.int (if j < i then j else i)) H
theorem cr_max2 {X : Cx} (hc : X.calm = true) : CallR X (.builtin "max") rMax2 := call_max2 hc
theorem cr_min2 {X : Cx} (hc : X.calm = true) : CallR X (.builtin "min") rMin2 := call_min2 hc
theorem e_max2 {i j : Int} (ha : E δ μ ta (.dat (.int i))) (hb : E δ μ tb (.dat (.int j))) : E δ μ (tCB rMax2 (tCons ta (tCons tb tNil))) (.dat (.int (max i j))) := e_cb (ea_cons ha (ea_cons hb ea_nil)) fun H σ vs Q s r k => by
  cases r with
  | cons r1 r2 =>
    cases r2 with
    | cons r2 r3 =>
      cases r3
      rw [rp_int r1, rp_int r2]
      have e : (if j > i then j else i) = max i j := by split <;> omega
      exact ⟨i, j, rfl, by rw [e]; exact k _ H (Fr.refl _ _) (Rp.int _)⟩
theorem e_min2 {i j : Int} (ha : E δ μ ta (.dat (.int i))) (hb : E δ μ tb (.dat (.int j))) : E δ μ (tCB rMin2 (tCons ta (tCons tb tNil))) (.dat (.int (min i j))) := e_cb (ea_cons ha (ea_cons hb ea_nil)) fun H σ vs Q s r k => by
  cases r with
  | cons r1 r2 =>
    cases r2 with
    | cons r2 r3 =>
      cases r3
      rw [rp_int r1, rp_int r2]
      have e : (if j < i then j else i) = min i j := by split <;> omega
      exact ⟨i, j, rfl, by rw [e]; exact k _ H (Fr.refl _ _) (Rp.int _)⟩
def iSeq (K : PySem.W.Frag) (tl : TE) : TI := fun σ H R => iTup K tl σ H R ∨ iList K tl σ H R
theorem pi_seq {X : Cx} {tg l : Expr} {tl : TE} (hl : PE X l tl) : PI X tg l (iSeq X.K tl) := ⟨fun pins s σ H R I h => h.elim (fun z => (pi_tup hl).run pins s σ H R I z) fun z => (pi_list hl).run pins s σ H R I z⟩
theorem ht_sT (h : HT δ μ (tFor (iTup K tl) g ts) P) : HT δ μ (tFor (iSeq K tl) g ts) P := fun σ H D s go => .inl (h σ H D s go)
theorem ht_sL (h : HT δ μ (tFor (iList K tl) g ts) P) : HT δ μ (tFor (iSeq K tl) g ts) P := fun σ H D s go => .inr (h σ H D s go)
theorem en_sT {vs : List Nat} {c : C} (h : EN δ μ (tLc (iTup K tl) g tt te vs) c) : EN δ μ (tLc (iSeq K tl) g tt te vs) c := fun σ H s Q k => .inl (h σ H s Q k)
theorem en_sL {vs : List Nat} {c : C} (h : EN δ μ (tLc (iList K tl) g tt te vs) c) : EN δ μ (tLc (iSeq K tl) g tt te vs) c := fun σ H s Q k => .inr (h σ H s Q k)
theorem e_allS {ds : List D} {vs : List Nat} (h : E δ μ tl (.dat (.tup ds))) (hz : ds.length < 100000) (k : D → Bool) (hb : ∀ d ∈ ds, ∃ δ2 js, Tg (wipeD δ vs) g (.dat d) δ2 js ∧ (∀ j ∈ js, j ∈ vs) ∧ E δ2 μ te (.dat (.bl (k d)))) :
    E δ μ (tCB (rAll K) (tCons (tLc (iSeq K tl) g tYes te vs) tNil)) (.dat (.bl (ds.all k))) := fun σ H s Q q => .inl (e_allT (K := K) h hz k hb σ H s Q q)
end
structure Bl (mg : Str → Option Value) : Prop where
  len : mg "len" = none
  max : mg "max" = none
  min : mg "min" = none
  sorted : mg "sorted" = none
  tuple : mg "tuple" = none
  list : mg "list" = none
  set : mg "set" = none
  isinstance : mg "isinstance" = none
  int : mg "int" = none
  bool : mg "bool" = none
  str : mg "str" = none
  range : mg "range" = none
  zip : mg "zip" = none
  enumerate : mg "enumerate" = none
  all : mg "all" = none
  any : mg "any" = none
  abs : mg "abs" = none
  sum : mg "sum" = none
theorem bb_len : bootBuiltins "len" = some (.builtin "len") := by decide +kernel
theorem bb_max : bootBuiltins "max" = some (.builtin "max") := by decide +kernel
theorem bb_min : bootBuiltins "min" = some (.builtin "min") := by decide +kernel
theorem bb_sorted : bootBuiltins "sorted" = some (.builtin "sorted") := by decide +kernel
theorem bb_tuple : bootBuiltins "tuple" = some (.type "tuple") := by decide +kernel
theorem bb_list : bootBuiltins "list" = some (.type "list") := by decide +kernel
theorem bb_set : bootBuiltins "set" = some (.type "set") := by decide +kernel
theorem bb_int : bootBuiltins "int" = some (.type "int") := by decide +kernel
theorem bb_bool : bootBuiltins "bool" = some (.type "bool") := by decide +kernel
theorem bb_str : bootBuiltins "str" = some (.type "str") := by decide +kernel
theorem bb_isinstance : bootBuiltins "isinstance" = some (.builtin "isinstance") := by decide +kernel
theorem bb_all : bootBuiltins "all" = some (.builtin "all") := by decide +kernel
theorem bb_any : bootBuiltins "any" = some (.builtin "any") := by decide +kernel
theorem bb_abs : bootBuiltins "abs" = some (.builtin "abs") := by decide +kernel
theorem bb_sum : bootBuiltins "sum" = some (.builtin "sum") := by decide +kernel
theorem cr_all' {X : Cx} (hc : X.calm = true) : CallR X (.builtin "all") (rAll X.K) := cr_all hc
theorem cr_any' {X : Cx} (hc : X.calm = true) : CallR X (.builtin "any") (rAny X.K) := cr_any hc
end TK
set_option maxHeartbeats 2000000
namespace T
open PySem L2 NdefX LamX TK
variable [TC]
def top (i : Nat) : Stmt := PySem.Challenge.pw_textsturned_k84_rates_of_loops.main.body.getD i (.Pass ⟨0, 0, 0, 0⟩)
abbrev s_is_integer : Stmt := top 6
abbrev s_is_from : Stmt := top 7
abbrev s_is_below : Stmt := top 8
abbrev s_is_tuple : Stmt := top 9
abbrev s_is_row : Stmt := top 10
abbrev s_is_ascending : Stmt := top 11
abbrev s_is_marked_place : Stmt := top 13
abbrev s_is_edge : Stmt := top 14
abbrev s_members_fault : Stmt := top 15
abbrev s_turner_fault : Stmt := top 16
abbrev s_check_turner : Stmt := top 17
abbrev s_closed : Stmt := top 18
abbrev s_live_in : Stmt := top 19
abbrev s_reached_in : Stmt := top 20
abbrev s_kept_places : Stmt := top 21
abbrev s_trimmed_in : Stmt := top 22
abbrev s_gain : Stmt := top 24
abbrev s_raised : Stmt := top 25
abbrev s_loop_above : Stmt := top 26
abbrev s_rate_of : Stmt := top 27
abbrev s_fastest_in : Stmt := top 28
abbrev s_rate_in : Stmt := top 29
abbrev s_rate : Stmt := top 30
abbrev s_fastest_loop : Stmt := top 31
abbrev s_check_rate : Stmt := top 32
abbrev s_shows_rate : Stmt := top 33
abbrev s_rate_paper : Stmt := top 34
abbrev s__law_well : Stmt := top 36
abbrev s__law_dip : Stmt := top 37
abbrev s__law_pick : Stmt := top 38
abbrev s__law_same : Stmt := top 39
abbrev s__law_word : Stmt := top 40
abbrev s__law_turner : Stmt := top 41
abbrev s__law_trimmed : Stmt := top 42
abbrev s__law_loops : Stmt := top 43
abbrev s__law_divisor : Stmt := top 44
abbrev s__law_rate : Stmt := top 45
abbrev s__law_greatest : Stmt := top 46
abbrev s__law_is_loop : Stmt := top 47
abbrev s__law_is_paper : Stmt := top 48
abbrev s__law_fractions : Stmt := top 49
abbrev s_law : Stmt := top 50
def isInt : D → Bool
  | .int _ => true
  | _ => false
def isFrom (l : Int) : D → Bool
  | .int i => decide (l ≤ i)
  | _ => false
def isBelow (m : Int) : D → Bool
  | .int i => decide (0 ≤ i) && decide (i < m)
  | _ => false
def isTup : D → Bool
  | .tup _ => true
  | _ => false
def isTuple (n : Option Int) : D → Bool
  | .tup l => match n with
    | none => true
    | some k => decide ((l.length : Int) = k)
  | _ => false
def isRow (m : Int) : D → Bool
  | .tup l => l.all (isBelow m)
  | _ => false
def optI : Option Int → D
  | none => .non
  | some i => .int i
def G_is_integer : List D → D → Prop := fun ds d => ∃ x, ds = [x] ∧ d = .bl (isInt x)
def G_is_from : List D → D → Prop := fun ds d => ∃ l x, ds = [.int l, x] ∧ d = .bl (isFrom l x)
def G_is_below : List D → D → Prop := fun ds d => ∃ l x, ds = [.int l, x] ∧ d = .bl (isBelow l x)
def G_is_tuple : List D → D → Prop := fun ds d => ∃ l x, ds = [optI l, x] ∧ d = .bl (isTuple l x)
def G_is_row : List D → D → Prop := fun ds d => ∃ l x, ds = [.int l, x] ∧ (∀ l, x = .tup l → l.length < 100000) ∧ d = .bl (isRow l x)
section
variable {P : Program} {w : World} {K : PySem.W.Frag} {mg : Str → Option Value} {base : Heap}
abbrev N_is_integer : List Str := ["thing"]
abbrev P_is_integer : List Str := ["thing"]
theorem sc_is_integer : FnScope N_is_integer P_is_integer (defScope s_is_integer) := ⟨rfl, rfl, rfl, by decide +kernel, rfl, by decide +kernel, by decide +kernel⟩
theorem bd_is_integer (kV doc pm : Value) (an : Option Addr) (cdv ct : Value) (us : List Value) (hl : us.length = (P_is_integer : List Str).length) : bindArgs (PySem.W.fnOf "is_integer" "is_integer" (defArgs s_is_integer) (defBody s_is_integer) (defScope s_is_integer) .none kV doc pm an cdv ct) ⟨us, []⟩ = pure ((P_is_integer : List Str).zip us) := match us, hl with
  | [_], _ => rfl
theorem ok_is_integer (T : Bl mg) (R : Raw K mg "is_integer" s_is_integer) : Dn P w K mg base "is_integer" P_is_integer 1 (spR G_is_integer) := by
  refine R.dnR sc_is_integer (fun ds d ⟨x, e, _⟩ => by rw [e]; rfl) (by decide) bd_is_integer fun cdv A outer s H E hr => ⟨_, (pss_one (ps_ret (pe_and (pe_callB cr_isi (by rfl) T.isinstance bb_isinstance (pa_cons (pv 0) (pa_cons (pe_bltn (v := .ty "int") (by rfl) T.int bb_int rfl) pa_nil))) (pe_one (pe_not (pe_callB cr_isi (by rfl) T.isinstance bb_isinstance (pa_cons (pv 0) (pa_cons (pe_bltn (v := .ty "bool") (by rfl) T.bool bb_bool rfl) pa_nil)))))))), ?_⟩
  rintro ds d ⟨x, rfl, rfl⟩
  refine ht_ret (e_andV (e_isi (e_var rfl) (by simp)) fun _ => e_notV (e_isi (e_var rfl) (by simp))) ?_
  cases x <;> rfl
abbrev N_is_from : List Str := ["low", "thing"]
abbrev P_is_from : List Str := ["low", "thing"]
theorem sc_is_from : FnScope N_is_from P_is_from (defScope s_is_from) := ⟨rfl, rfl, rfl, by decide +kernel, rfl, by decide +kernel, by decide +kernel⟩
theorem bd_is_from (kV doc pm : Value) (an : Option Addr) (cdv ct : Value) (us : List Value) (hl : us.length = (P_is_from : List Str).length) : bindArgs (PySem.W.fnOf "is_from" "is_from" (defArgs s_is_from) (defBody s_is_from) (defScope s_is_from) .none kV doc pm an cdv ct) ⟨us, []⟩ = pure ((P_is_from : List Str).zip us) := match us, hl with
  | [_, _], _ => rfl
theorem ok_is_from (T : Bl mg) (R : Raw K mg "is_from" s_is_from) (d_is_integer : Dn P w K mg base "is_integer" P_is_integer 1 (spR G_is_integer)) : Dn P w K mg base "is_from" P_is_from 2 (spR G_is_from) := by
  refine R.dnR sc_is_from (fun ds d ⟨l, x, e, _⟩ => by rw [e]; rfl) (by decide) bd_is_from fun cdv A outer s H E hr => ⟨_, (pss_one (ps_ret (pe_and (pe_def d_is_integer hr (by decide) (by rfl) (pa_cons (pv 1) pa_nil)) (pe_one (pe_cmpR op_ge (pv 1) (pv 0) (nomark _)))))), ?_⟩
  rintro ds d ⟨l, x, rfl, rfl⟩
  refine ht_ret (x := .dat (.bl (isFrom l x))) ?_ rfl
  refine (e_andV (b := isInt x) (c := isFrom l x) (e_call [x] (ea_cons (e_var rfl) ea_nil) rfl ⟨x, rfl, rfl⟩) fun h => ?_).is (by cases x <;> rfl)
  cases x with
  | int i => exact e_ge (e_var rfl) (e_var rfl)
  | _ => cases h
abbrev N_is_below : List Str := ["many", "thing"]
abbrev P_is_below : List Str := ["many", "thing"]
theorem sc_is_below : FnScope N_is_below P_is_below (defScope s_is_below) := ⟨rfl, rfl, rfl, by decide +kernel, rfl, by decide +kernel, by decide +kernel⟩
theorem bd_is_below (kV doc pm : Value) (an : Option Addr) (cdv ct : Value) (us : List Value) (hl : us.length = (P_is_below : List Str).length) : bindArgs (PySem.W.fnOf "is_below" "is_below" (defArgs s_is_below) (defBody s_is_below) (defScope s_is_below) .none kV doc pm an cdv ct) ⟨us, []⟩ = pure ((P_is_below : List Str).zip us) := match us, hl with
  | [_, _], _ => rfl
theorem ok_is_below (T : Bl mg) (R : Raw K mg "is_below" s_is_below) (d_is_from : Dn P w K mg base "is_from" P_is_from 2 (spR G_is_from)) : Dn P w K mg base "is_below" P_is_below 3 (spR G_is_below) := by
  refine R.dnR sc_is_below (fun ds d ⟨l, x, e, _⟩ => by rw [e]; rfl) (by decide) bd_is_below fun cdv A outer s H E hr => ⟨_, (pss_one (ps_ret (pe_and (pe_def d_is_from hr (by decide) (by rfl) (pa_cons pe_int (pa_cons (pv 1) pa_nil))) (pe_one (pe_cmpR op_lt (pv 1) (pv 0) (nomark _)))))), ?_⟩
  rintro ds d ⟨l, x, rfl, rfl⟩
  refine ht_ret (x := .dat (.bl (isBelow l x))) ?_ rfl
  refine (e_andV (b := isFrom 0 x) (c := isBelow l x) (e_call [.int 0, x] (ea_cons e_int (ea_cons (e_var rfl) ea_nil)) rfl ⟨0, x, rfl, rfl⟩) fun h => ?_).is (by cases x <;> first | rfl | simp [isFrom, isBelow])
  cases x with
  | int i =>
    refine (e_lt (e_var rfl) (e_var rfl)).is ?_
    simp [isFrom] at h
    simp [isBelow, h]
  | _ => cases h
abbrev N_is_tuple : List Str := ["many", "thing"]
abbrev P_is_tuple : List Str := ["many", "thing"]
theorem sc_is_tuple : FnScope N_is_tuple P_is_tuple (defScope s_is_tuple) := ⟨rfl, rfl, rfl, by decide +kernel, rfl, by decide +kernel, by decide +kernel⟩
theorem bd_is_tuple (kV doc pm : Value) (an : Option Addr) (cdv ct : Value) (us : List Value) (hl : us.length = (P_is_tuple : List Str).length) : bindArgs (PySem.W.fnOf "is_tuple" "is_tuple" (defArgs s_is_tuple) (defBody s_is_tuple) (defScope s_is_tuple) .none kV doc pm an cdv ct) ⟨us, []⟩ = pure ((P_is_tuple : List Str).zip us) := match us, hl with
  | [_, _], _ => rfl
theorem ok_is_tuple (T : Bl mg) (R : Raw K mg "is_tuple" s_is_tuple) : Dn P w K mg base "is_tuple" P_is_tuple 1 (spR G_is_tuple) := by
  refine R.dnR sc_is_tuple (fun ds d ⟨l, x, e, _⟩ => by rw [e]; rfl) (by decide) bd_is_tuple fun cdv A outer s H E hr => ⟨_, (pss_one (ps_ret (pe_and (pe_callB cr_isi (by rfl) T.isinstance bb_isinstance (pa_cons (pv 1) (pa_cons (pe_bltn (v := .ty "tuple") (by rfl) T.tuple bb_tuple rfl) pa_nil))) (pe_one (pe_or (pe_cmpR op_isN0 (pv 0) pe_non (nomark _)) (pe_one (pe_cmpR (op_eqA hr) (pe_callB cr_len (by rfl) T.len bb_len (pa_cons (pv 1) pa_nil)) (pv 0) (nomark _)))))))), ?_⟩
  rintro ds d ⟨l, x, rfl, rfl⟩
  refine ht_ret (x := .dat (.bl (isTuple l x))) ?_ rfl
  refine (e_andV (b := isTup x) (c := isTuple l x) ((e_isi (e_var rfl) (by simp)).is (by cases x <;> rfl)) fun h => ?_).is (by cases x <;> rfl)
  cases x with
  | tup xs =>
    cases l with
    | none => exact e_orV (b := true) (c := false) (e_isN (x := .dat .non) (e_var rfl)) fun h => by cases h
    | some k => exact e_orV (b := false) (e_isN (x := .dat (.int k)) (e_var rfl)) fun _ => e_eqAI (e_lenT (e_var rfl)) (e_var rfl)
  | _ => cases h
abbrev N_is_row : List Str := ["many", "thing", "one"]
abbrev P_is_row : List Str := ["many", "thing"]
theorem sc_is_row : FnScope N_is_row P_is_row (defScope s_is_row) := ⟨rfl, rfl, rfl, by decide +kernel, rfl, by decide +kernel, by decide +kernel⟩
theorem bd_is_row (kV doc pm : Value) (an : Option Addr) (cdv ct : Value) (us : List Value) (hl : us.length = (P_is_row : List Str).length) : bindArgs (PySem.W.fnOf "is_row" "is_row" (defArgs s_is_row) (defBody s_is_row) (defScope s_is_row) .none kV doc pm an cdv ct) ⟨us, []⟩ = pure ((P_is_row : List Str).zip us) := match us, hl with
  | [_, _], _ => rfl
theorem ok_is_row (T : Bl mg) (R : Raw K mg "is_row" s_is_row) (d_is_below : Dn P w K mg base "is_below" P_is_below 3 (spR G_is_below)) : Dn P w K mg base "is_row" P_is_row 4 (spR G_is_row) := by
  refine R.dnR sc_is_row (fun ds d ⟨l, x, e, _⟩ => by rw [e]; rfl) (by decide) bd_is_row fun cdv A outer s H E hr => ⟨_, (pss_one (ps_ret (pe_and (pe_callB cr_isi (by rfl) T.isinstance bb_isinstance (pa_cons (pv 1) (pa_cons (pe_bltn (v := .ty "tuple") (by rfl) T.tuple bb_tuple rfl) pa_nil))) (pe_one (pe_callB (cr_all' rfl) (by rfl) T.all bb_all (pa_cons (pe_lc rfl sc_is_row.nd (pi_seq (pv 1)) (blkOk_by (own := [("one", 2)]) (N := N_is_row) (sc := defScope s_is_row) (by decide +kernel)) (fun _ _ _ _ _ => (pg_name (i := 2) sc_is_row.nd rfl (Or.inl rfl))) (fun _ _ _ _ _ => pts_nil) (fun _ _ _ _ _ => (pe_def d_is_below hr (by decide) (by rfl) (pa_cons (pv 0) (pa_cons (pv 2) pa_nil))))) pa_nil)))))), ?_⟩
  rintro ds d ⟨l, x, rfl, hl, rfl⟩
  refine ht_ret (x := .dat (.bl (isRow l x))) ?_ rfl
  refine (e_andV (b := isTup x) (c := isRow l x) ((e_isi (e_var rfl) (by simp)).is (by cases x <;> rfl)) fun h => ?_).is (by cases x <;> rfl)
  cases x with
  | tup xs => exact e_allS (e_var rfl) (hl _ rfl) (isBelow l) fun d _ => ⟨_, _, tg_name, by simp, e_call [.int l, d] (ea_cons (e_var rfl) (ea_cons (e_var rfl) ea_nil)) rfl ⟨l, d, rfl, rfl⟩⟩
  | _ => cases h
end
end T
set_option maxHeartbeats 2000000
namespace TK
open PySem L2 NdefX LamX
variable [TC]
set_option maxHeartbeats 4000000 in
theorem meets_enum1 {v : Value} {o : Obj} {H : Heap → Prop} (B : Begins v o H) : Meets (Builtin.«enumerate.__new__» ⟨[.type "enumerate", v], []⟩)
    (fun _ R s => H s.heap ∧ R (.ok (.ret (.ref (s.heap.push o).objs.size))) { s with heap := (s.heap.push o).push { cls := .type "enumerate", data := .fields #[.none, .bool false, .ref s.heap.objs.size, rawInt 0, .none, .none] } }) :=
  .of_wp fun prog w A R s ⟨h1, h⟩ => by
    obtain ⟨hp, g, d, tk, os⟩ := s
    have hsub := sub_enumerate
    have it1 : ∀ {A' : Around} {E : Value → Shared → Prop} {Q : Value → Shared → Prop}, Q (.ref hp.objs.size) ⟨hp.push o, g, d, tk, os⟩ → wpAny (model prog w) A' (pyIter v) Q E ⟨hp, g, d, tk, os⟩ := fun q => B.iter prog w _ _ ⟨hp, g, d, tk, os⟩ _ h1 q
    wp_walk using it1
    refine wpAny_stack_any fun st => wpAny_pure ?_
    split
    · rename_i c _ _ _ _ _
      cases (c == Value.type "enumerate") <;> (wp_walk using it1; exact ⟨_, rfl, h⟩)
    · wp_walk using it1; exact ⟨_, rfl, h⟩
section
variable {prog : Program} {w : World} {A : Around} {E : Value → Shared → Prop} {s : Shared}
theorem call_enumT {l : Addr} {items : Array Value} {Q : Value → Shared → Prop} (hL : s.heap.IsTuple l items)
    (h : ∀ h', IsEnum h' (s.heap.objs.size + 1) s.heap.objs.size 0 .none → h'.IsTupleIter s.heap.objs.size l 0 → (∀ b o, s.heap.get? b = some o → h'.get? b = some o) → Q (.ref (s.heap.objs.size + 1)) { s with heap := h' }) :
    wpAny (model prog w) A (call (.type "enumerate") [.ref l]) Q E s := by
  refine callType_new F.called_enumerate (by decide) (F.typeCall_enumerate_1 _) (F.newCall_enumerate_1 _) (fun obj => F.args_object_init_2 obj _) F.entry_enumerate_new (meets_enum1 (begins_tuple l items)) ⟨hL, ?_⟩
  have hz : (s.heap.push { cls := .type "tuple_iterator", data := .fields #[.ref l, .int 0 0] }).objs.size = s.heap.objs.size + 1 := Heap.size_push ..
  show _ ∧ _
  rw [hz]
  have he : IsEnum ((s.heap.push { cls := .type "tuple_iterator", data := .fields #[.ref l, .int 0 0] }).push { cls := .type "enumerate", data := .fields #[.none, .bool false, .ref s.heap.objs.size, rawInt 0, .none, .none] }) (s.heap.objs.size + 1) s.heap.objs.size 0 .none := by
    have q := Heap.get?_push_size (s.heap.push { cls := .type "tuple_iterator", data := .fields #[.ref l, .int 0 0] }) (o := { cls := .type "enumerate", data := .fields #[.none, .bool false, .ref s.heap.objs.size, rawInt 0, .none, .none] }) rfl
    rw [hz] at q
    exact q
  exact ⟨⟨_, he, rfl⟩, h _ he ⟨_, Heap.get?_push_of_some _ (Heap.get?_push_size _ rfl), rfl, rfl⟩ fun b o x => Heap.get?_push_of_some _ (Heap.get?_push_of_some _ x)⟩
end
theorem enumT_end {prog : Program} {w : World} {A : Around} {E : Value → Shared → Prop} {s : Shared} {e it l : Addr} {i : Nat} {j : Int} {items : Array Value} {old : Value} {Q : Option Value → Shared → Prop} (hh : A.handled = none) (he : IsEnum s.heap e it j old) (hit : s.heap.IsTupleIter it l i) (hl : s.heap.IsTuple l items) (hne : l ≠ it) (hge : items.size ≤ i)
    (hQ : ∀ h', Heap.ExtBut it s.heap h' → Q none { s with heap := h' }) : wpAny (model prog w) A (pyNext (.ref e)) Q E s := by
  refine wpAny_pyNext_enum_endD (fp := [it, l]) (n := i) (P := fun _ _ => False) (St := fun k h => k = i ∧ h.IsTupleIter it l i ∧ h.IsTuple l items) ⟨fun k h st => let ⟨o, ho, _⟩ := st.2.1; ⟨o, ho⟩, fun k h h' st hk => ⟨st.1, st.2.1.at fun o e => hk it (by simp) o e, st.2.2.at fun o e => hk l (by simp) o e⟩, fun k s Q E hi st _ => absurd st.1 (Nat.ne_of_lt hi), fun s Q E st hE => wpAny_nextOf_tuple_end (A := A.in1) hh st.2.1 st.2.2 (by simpa using hge) hE⟩ he ⟨rfl, hit, hl⟩ hQ
def IteT (K : PySem.W.Frag) (a : Addr) : It :=
  ⟨fun i H => ∃ (xs : List V) (x : V), SqT K H a xs ∧ xs[i]? = some x, fun i H v H' => ∃ T x, v = .ref T ∧ H T = none ∧ H' = upd H T (.tup [.int (i : Nat), x]) ∧ ∀ xs, SqT K H a xs → xs[i]? = some x, fun i H => ∃ xs : List V, SqT K H a xs ∧ xs.length ≤ i⟩
theorem turn_enT {P : Program} {w : World} {K : PySem.W.Frag} {elts : List Expr} {kk : Nat} {tpos : Pos} (a e it : Addr) :
    Turn P w K (.Tuple elts kk tpos) (IteT K a) [e, it] e (fun i h => (∃ old, IsEnum h e it ((i : Nat) : Int) old) ∧ h.IsTupleIter it a i ∧ e ≠ it) where
  mem := by simp
  obj := fun i h st b hb => by
    obtain ⟨⟨old, he⟩, ⟨o, ho, hc, hd⟩, _⟩ := st
    rcases (show b = e ∨ b = it by simpa using hb) with z | z
    · rw [z]; exact ⟨_, he, fun v q => nomatch q⟩
    · rw [z]; exact ⟨o, ho, fun v q => by rw [hd] at q; cases q⟩
  keep := fun i h h' ⟨⟨old, he⟩, hi, hne⟩ k => ⟨⟨old, k e (by simp) _ he⟩, hi.at fun o q => k it (by simp) o q, hne⟩
  item := by
    intro X hP hw hK hc i pins s σ H E I hf st hg
    subst hP hw hK
    obtain ⟨⟨old, he⟩, hit, hne⟩ := st
    obtain ⟨xs, x, hq, hx⟩ := hg
    obtain ⟨its, rv, p, hz⟩ := I.tuple hq
    obtain ⟨u, hu, ru⟩ := rv.get hx
    have pt : s.heap.IsTuple a its.toArray := p
    have hel : e < s.heap.objs.size := Heap.lt_size he
    have hil : it < s.heap.objs.size := by obtain ⟨_, q, _⟩ := hit; exact Heap.lt_size q
    have nai : a ≠ it := fun z => by
      obtain ⟨o1, h1, c1, _⟩ := hit
      obtain ⟨o2, h2, c2, _⟩ := pt
      rw [z, h1] at h2; cases h2
      rw [c1] at c2
      exact absurd (Value.type.inj c2) (by decide)
    have nae : a ≠ e := fun z => by
      obtain ⟨o2, h2, c2, _⟩ := pt
      rw [z, he] at h2; cases h2
      exact absurd (Value.type.inj c2) (by decide)
    refine wpAny_pyNext_enum_itemD (Draws.tuple (A := X.A.in1) (I.ok.hd hc) it a nai its.toArray) he ⟨hit, pt⟩ (by have := (List.getElem?_eq_some_iff.mp hu).1; simpa using this) hne (by simp only [List.mem_cons, List.not_mem_nil, or_false, not_or]; exact ⟨hne, fun z => nae z.symm⟩) fun y h' tk hy ho hit' hT hsz hk => ?_
    obtain rfl : y = u := by
      have hu' : its.toArray[i]? = some u := by simpa using hu
      rw [hu'] at hy
      exact (Option.some.inj hy).symm
    refine ⟨_, rfl, wpAny_letOwnedTupleGo_enum (s := { s with heap := h', toks := tk + 1 }) ho fun h'' he' sb => ?_⟩
    have hT2 : h''.get? s.heap.objs.size = some { cls := .type "tuple", data := .seq #[.int i tk, y] } := (sb.2 _ (Nat.ne_of_gt hel)).trans hT
    have new : ObjOk X.prog X.w (upd H s.heap.objs.size (.tup [.int (i : Nat), x])) h'' s.heap.objs.size (.tup [.int (i : Nat), x]) :=
      ⟨by show 2 ≤ sizeLine; decide, [.int i tk, y], .cons ⟨_, rfl⟩ (.cons ru .nil), ⟨_, hT2, rfl, _, rfl⟩⟩
    have I1 : Inv X pins σ (upd H s.heap.objs.size (.tup [.int (i : Nat), x])) { s with heap := h'', toks := tk + 1 } :=
      I.turnedNew (ch := [e, it]) (fun b ob hb q => (sb.2 b (fun z => hb (by simp [z]))).trans (hk b ob (fun z => hb (by simp [z])) (fun z => hb (by simp [z])) q)) hf (Nat.le_refl _) new
    refine ⟨.ref s.heap.objs.size, _, I1, rfl, ⟨_, x, rfl, I.hok.fresh (Nat.le_refl _), rfl, fun ys hy => by rw [I.tuple_inj hy hq]; exact hx⟩, ⟨⟨y, ?_⟩, hit'.1.at fun o q => (sb.2 it (Ne.symm hne)).trans q, hne⟩, fun b hb => ?_⟩
    · rw [show ((i + 1 : Nat) : Int) = (i : Int) + 1 by omega]; exact he'
    · have hb' : b < s.heap.objs.size := by
        rcases (show b = e ∨ b = it by simpa using hb) with z | z
        · rw [z]; exact hel
        · rw [z]; exact hil
      rw [upd_ne (Nat.ne_of_lt hb')]
      exact (hf b hb).1
  done := by
    intro X hP hw hK hc i pins s σ H E I hf st hg
    subst hP hw hK
    obtain ⟨⟨old, he⟩, hit, hne⟩ := st
    obtain ⟨xs, hq, hx⟩ := hg
    obtain ⟨its, rv, p, hz⟩ := I.tuple hq
    have pt : s.heap.IsTuple a its.toArray := p
    obtain ⟨f0, f1, f2, f3, f4, f5⟩ := hf it (by simp)
    have hl := rv.length
    have nai : a ≠ it := fun z => by
      obtain ⟨o1, h1, c1, _⟩ := hit
      obtain ⟨o2, h2, c2, _⟩ := pt
      rw [z, h1] at h2; cases h2
      rw [c1] at c2
      exact absurd (Value.type.inj c2) (by decide)
    exact enumT_end (I.ok.hd hc) he hit pt nai (by simp; omega) fun h' eb => ⟨rfl, I.turned (t' := s.toks) (fun b o hb q => eb b o hb q) f0 f1 f3 f4 f5⟩
  self := fun A i s Q E st h => let ⟨⟨_, he⟩, _⟩ := st; wpAny_pyIter_enum he h
def iEnA (K : PySem.W.Frag) (ta : TA) : TI := fun σ H R => ta σ H fun vs H1 => ∃ a xs, vs = [.ref a] ∧ ((SqT K H1 a xs ∧ R (IteT K a) H1) ∨ (SqL K H1 a xs ∧ R (Ite K a) H1))
theorem pi_enumA {X : Cx} {e : Expr} {ta : TA} {p pos tpos : Pos} {elts : List Expr} {kk : Nat} (hg : Gl X "enumerate") (hm : X.mg "enumerate" = none) (ha : PA X [e] ta) (hs : starEach [e] X.env = [(false, eval e X.env)] := by rfl) :
    PI X (.Tuple elts kk tpos) (.Call (.Name "enumerate" p) [e] [] pos) (iEnA X.K ta) := by
  refine ⟨fun pins s σ H R I h => ?_⟩
  refine PyProof.Rows.Call_ (ld_blt (u := .type "enumerate") I hg hm (by decide +kernel) (PyProof.Rows.callWith_type1 (thn (ha.run pos pins s σ H _ I h) fun us s1 ⟨vs, H1, I1, r1, q1⟩ => ?_) hs rfl))
  obtain ⟨a, xs, ex, q⟩ := q1
  subst ex
  cases r1 with
  | cons r rr =>
    cases rr
    cases r
    have low : ∀ b, b ∈ [s1.heap.objs.size + 1, s1.heap.objs.size] → s1.heap.objs.size ≤ b := fun b hb => by
      rcases (show b = s1.heap.objs.size + 1 ∨ b = s1.heap.objs.size by simpa using hb) with z | z
      · rw [z]; exact Nat.le_add_right _ _
      · rw [z]; exact Nat.le_refl _
    rcases q with ⟨hq, q⟩ | ⟨hq, q⟩
    · obtain ⟨its, rv, p', hz⟩ := I1.tuple hq
      refine call_enumT (show s1.heap.IsTuple a its.toArray from p') fun h' he hit hk => wpAny_pyIter_enum he ?_
      have I2 : Inv X pins σ H1 { s1 with heap := h' } := I1.kept (t' := s1.toks) hk
      exact ⟨s1.heap.objs.size + 1, [s1.heap.objs.size + 1, s1.heap.objs.size], _, _, H1, rfl, I2, turn_enT a (s1.heap.objs.size + 1) s1.heap.objs.size, ⟨⟨.none, he⟩, hit, Nat.succ_ne_self _⟩, fun b hb => I1.fpOk (low b hb) (I1.hok.fresh (low b hb)), q⟩
    · obtain ⟨its, rv, p', hz⟩ := I1.list hq
      refine call_enumerate_list p'.isList fun h' he hit hsz hk => wpAny_pyIter_enum he ?_
      have I2 : Inv X pins σ H1 { s1 with heap := h' } := I1.kept (t' := s1.toks) hk
      exact ⟨s1.heap.objs.size + 1, [s1.heap.objs.size + 1, s1.heap.objs.size], _, _, H1, rfl, I2, turn_enum a (s1.heap.objs.size + 1) s1.heap.objs.size, ⟨⟨.none, he⟩, hit, Nat.succ_ne_self _⟩, fun b hb => I1.fpOk (low b hb) (I1.hok.fresh (low b hb)), q⟩
end TK
set_option maxHeartbeats 2000000
namespace TK
open PySem L2 NdefX LamX
variable [TC]
structure Yl (J : It) (H1 : Hp) (xs : List A) (L : List Addr) : Prop where
  obj : ∀ a ∈ L, ∃ o, H1 a = some o ∧ ∀ ps, o ≠ .tbl ps
  run : ∀ H', TK H1 H' → (∀ a ∈ L, H' a = H1 a) → (∀ (i : Nat) (x : A), xs[i]? = some x → J.go i H' ∧ ∀ v H2, J.yld i H' v H2 → Fr [] H' H2 ∧ RpA H2 v x) ∧ J.stop xs.length H'
def EI (δ : Dl) (μ : Mu) (wi : TI) (xs : List A) : Prop := ∀ σ H, SA δ μ σ H → ∀ R : It → Hp → Prop, (∀ J H1 L, Fr [] H H1 → Yl J H1 xs L → R J H1) → wi σ H R
def EI0 (δ : Dl) (μ : Mu) (wi : TI) (xs : List A) : Prop := ∀ σ H, SA δ μ σ H → ∀ R : It → Hp → Prop, (∀ J H1, Fr [] H H1 → Yl J H1 xs [] → R J H1) → wi σ H R
section
variable {δ δ' : Dl} {μ μ' : Mu} {te ta tb tc tl tk tv : TE} {tt tu : TT} {tr : TA} {x y z : A} {d e : D} {b c : Bool} {ts us : TS} {P : Po} {g : TG} {K : PySem.W.Frag} {wi : TI} {xs : List A}
theorem EI0.ei (h : EI0 δ μ wi xs) : EI δ μ wi xs := fun σ H s R k => h σ H s R fun J H1 f y => k J H1 [] f y
theorem Fr.keepL {H H' : Hp} {L : List Addr} (f : Fr [] H H') (h : ∀ a ∈ L, ∃ o, H a = some o ∧ ∀ ps, o ≠ .tbl ps) : ∀ a ∈ L, H' a = H a := fun a ha => by
  obtain ⟨o, e, n⟩ := h a ha
  rw [e]
  exact f.keep a o e (by simp) n
theorem ht_forI (h : EI0 δ μ wi xs) (I : Nat → Dl → Mu → Prop) (h0 : I 0 δ μ)
    (hs : ∀ (i : Nat) x δ1 μ1, xs[i]? = some x → I i δ1 μ1 → ∃ δ2 js, Tg δ1 g x δ2 js ∧ HT δ2 μ1 ts { P with nx := I (i + 1), ct := I (i + 1), bk := P.nx })
    (hd : ∀ δ1 μ1, I xs.length δ1 μ1 → P.nx δ1 μ1) : HT δ μ (tFor wi g ts) P := fun σ H D s go => h σ H s _ fun J H1 f1 yl => by
  refine ⟨fun i m σ' H' => m = xs.length - i ∧ i ≤ xs.length ∧ ∃ δ1 μ1, I i δ1 μ1 ∧ SA δ1 μ1 σ' H' ∧ FS μ H1 μ1 H', ⟨xs.length, by simp, Nat.zero_le _, δ, μ, h0, s.step f1, FS.refl _ _⟩, ?_⟩
  rintro i m σ' H' ⟨rfl, hi, δ1, μ1, hI, s1, f⟩
  obtain ⟨r1, r2⟩ := yl.run H' f.fr.tup (fun a ha => absurd ha (by simp))
  by_cases hlt : i < xs.length
  · obtain ⟨g1, g2⟩ := r1 i xs[i] (List.getElem?_eq_getElem hlt)
    refine .inr ⟨g1, fun σ3 H3 => i + 1 ≤ xs.length ∧ ∃ δ3 μ3, I (i + 1) δ3 μ3 ∧ SA δ3 μ3 σ3 H3 ∧ FS μ H1 μ3 H3, fun σ3 H3 p => ⟨xs.length - (i + 1), by omega, rfl, p⟩, fun w H2 yy => ?_⟩
    obtain ⟨f2, rw⟩ := g2 w H2 yy
    obtain ⟨δ2, js, hg, hb⟩ := hs i xs[i] δ1 μ1 (List.getElem?_eq_getElem hlt) hI
    have f12 := f.trans (FS.of (μ := μ1) f2)
    refine hg μ1 σ' H2 w (s1.step f2) rw _ fun σ2 s2 _ => ?_
    exact hb σ2 _ _ s2 ⟨fun δ3 μ3 σ3 H3 n s3 f3 => ⟨hlt, δ3, μ3, n, s3, f12.trans f3⟩, (go.rt.step (FS.of f1)).step f12, (go.nx.step (FS.of f1)).step f12, fun δ3 μ3 σ3 H3 n s3 f3 => ⟨hlt, δ3, μ3, n, s3, f12.trans f3⟩⟩
  · have e : i = xs.length := by omega
    subst e
    exact .inl ⟨r2, go.nx δ1 μ1 σ' H' (hd δ1 μ1 hI) s1 ((FS.of f1).trans f)⟩
theorem en_lcI {vs : List Nat} (h : EI δ μ wi xs) (hz : xs.length < 100000) (f : A → Bool) (k : A → A) (hb : ∀ d ∈ xs, ∃ δ2 js, Tg (wipeD δ vs) g d δ2 js ∧ (∀ j ∈ js, j ∈ vs) ∧ ET δ2 μ tt (f d) ∧ (f d = true → E δ2 μ te (k d))) :
    EN δ μ (tLc wi g tt te vs) (.lst ((xs.filter f).map k)) := fun σ H s Q q => h σ H s _ fun J H1 L f1 yl => by
  refine fun p hp => ⟨fun i m H' => m = xs.length - i ∧ i ≤ xs.length ∧ CwA δ μ H1 p (((xs.take i).filter f).map k) H', ⟨xs.length, by simp, Nat.zero_le _, CwA.start hp⟩, ?_⟩
  rintro i m H' ⟨rfl, hi, cw⟩
  obtain ⟨r1, r2⟩ := yl.run H' cw.2.1.tup (Fr.keepL cw.2.1 yl.obj)
  by_cases hlt : i < xs.length
  · have h3 : xs[i]? = some xs[i] := List.getElem?_eq_getElem hlt
    obtain ⟨g1, g2⟩ := r1 i xs[i] h3
    refine .inr ⟨g1, fun H3 => i + 1 ≤ xs.length ∧ CwA δ μ H1 p (((xs.take (i + 1)).filter f).map k) H3, fun H3 pp => ⟨xs.length - (i + 1), by omega, rfl, pp⟩, fun w H2 yy => ?_⟩
    obtain ⟨f2, rw⟩ := g2 w H2 yy
    obtain ⟨δ2, js, hg, hj, h5, h6⟩ := hb xs[i] (List.getElem_mem hlt)
    have cw2 : CwA δ μ H1 p (((xs.take i).filter f).map k) H2 := ⟨cw.1, cw.2.1.trans0 f2, let ⟨us, c3, c4⟩ := cw.2.2; ⟨us, f2.keep _ _ c3 (by simp) nt_lst, c4.mono f2.tup⟩⟩
    have s1 := (s.step f1).step cw2.2.1
    refine hg μ _ H2 w (s1.wipe vs) rw _ fun σ2 s2 hw => ⟨(hw vs hj).trans wipe_wipe, cw_turnA cw2 ?_ s2 h5 h6 fun H3 w3 => ⟨hlt, ?_⟩⟩
    · refine Nat.lt_of_le_of_lt ?_ hz
      rw [List.length_map]
      exact Nat.le_trans (List.length_filter_le _ _) (by rw [List.length_take]; omega)
    · rw [filt_snoc xs f k h3]
      exact w3
  · have e : i = xs.length := by omega
    subst e
    rw [List.take_length] at cw
    obtain ⟨c1, c2, us, c3, c4⟩ := cw
    exact .inl ⟨r2, q p H' (f1.trans0 c2) (f1.free _ c1) ⟨us, c3, c4⟩ fun ps z => by rw [c3] at z; cases z⟩
theorem ei_tup {ds : List D} (h : E δ μ tl (.dat (.tup ds))) : EI0 δ μ (iTup K tl) (ds.map .dat) := fun σ H s R k => h σ H s _ fun v H1 f1 r1 => by
  obtain ⟨a, vs, rfl, ht, hr⟩ := rp_tup r1
  refine ⟨a, rfl, ⟨vs, SqT.of ht⟩, k _ _ f1 ⟨fun a ha => absurd ha (by simp), fun H' tk _ => ⟨fun i x hx => ?_, ⟨vs, SqT.of (tk _ _ ht), by rw [List.length_map, hr.length]; exact Nat.le_refl _⟩⟩⟩⟩
  obtain ⟨u, h1, h2⟩ := (RpAL.dat.mpr hr).get hx
  refine ⟨⟨vs, u, SqT.of (tk _ _ ht), h1⟩, fun v H2 ⟨e1, e2⟩ => ?_⟩
  subst e1
  have := e2 vs (SqT.of (tk _ _ ht))
  rw [h1] at this
  cases this
  exact ⟨Fr.refl _ _, h2.mono tk⟩
theorem ei_seqT {ds : List D} (h : E δ μ tl (.dat (.tup ds))) : EI0 δ μ (iSeq K tl) (ds.map .dat) := fun σ H s R k => .inl (ei_tup h σ H s R k)
theorem ei_lst {a : Addr} (n : Nat) (h : E δ μ tl (.own a)) (hm : μ[n]? = some (a, .lst xs)) : EI δ μ (iList K tl) xs := fun σ H s R k => h σ H s _ fun v H1 f1 r1 => by
  obtain ⟨vs, ht, hr⟩ := (s.step f1).mem.lst hm
  refine ⟨a, r1, ⟨vs, SqL.of ht⟩, k _ _ [a] f1 ⟨fun b hb => ⟨.lst vs, by rw [List.mem_singleton.mp hb]; exact ht, nt_lst⟩, fun H' tk hL => ?_⟩⟩
  have ht' : H' a = some (.lst vs) := (hL a (by simp)).trans ht
  refine ⟨fun i x hx => ?_, ⟨vs, SqL.of ht', by rw [hr.length]; exact Nat.le_refl _⟩⟩
  obtain ⟨u, h1, h2⟩ := hr.get hx
  refine ⟨⟨vs, u, SqL.of ht', h1⟩, fun v H2 ⟨e1, e2⟩ => ?_⟩
  subst e1
  have := e2 vs (SqL.of ht')
  rw [h1] at this
  cases this
  exact ⟨Fr.refl _ _, h2.mono tk⟩
theorem ei_seqL {a : Addr} (n : Nat) (h : E δ μ tl (.own a)) (hm : μ[n]? = some (a, .lst xs)) : EI δ μ (iSeq K tl) xs := fun σ H s R k => .inr (ei_lst n h hm σ H s R k)
theorem ei_new (h : EN δ μ tl (.lst xs)) : EI δ μ (iList K tl) xs := fun σ H s R k => h σ H s _ fun a H1 f1 hn hc _ => by
  obtain ⟨vs, ht, hr⟩ := hc
  refine ⟨a, rfl, ⟨vs, SqL.of ht⟩, k _ _ [a] f1 ⟨fun b hb => ⟨.lst vs, by rw [List.mem_singleton.mp hb]; exact ht, nt_lst⟩, fun H' tk hL => ?_⟩⟩
  have ht' : H' a = some (.lst vs) := (hL a (by simp)).trans ht
  refine ⟨fun i x hx => ?_, ⟨vs, SqL.of ht', by rw [hr.length]; exact Nat.le_refl _⟩⟩
  obtain ⟨u, h1, h2⟩ := hr.get hx
  refine ⟨⟨vs, u, SqL.of ht', h1⟩, fun v H2 ⟨e1, e2⟩ => ?_⟩
  subst e1
  have := e2 vs (SqL.of ht')
  rw [h1] at this
  cases this
  exact ⟨Fr.refl _ _, h2.mono tk⟩
theorem ei_newS (h : EN δ μ tl (.lst xs)) : EI δ μ (iSeq K tl) xs := fun σ H s R k => .inr (ei_new h σ H s R k)
def intsA (n : Nat) : List A := (List.range n).map fun (i : Nat) => .dat (.int (i : Int))
theorem ei_rng {n : Int} (h : EA δ μ tr [.dat (.int n)]) (hn : n < 2 ^ 62) (hn0 : -(2 ^ 62) ≤ n) : EI0 δ μ (iRng1 tr) (intsA n.toNat) := fun σ H s R k => h σ H s _ fun vs H1 f1 r1 => by
  cases r1 with
  | cons r1 r2 =>
    cases r2
    rw [rp_int r1]
    refine ⟨n, rfl, hn0, hn, k _ _ f1 ⟨fun a ha => absurd ha (by simp), fun H' tk _ => ⟨fun i x hx => ?_, by show n.toNat ≤ (intsA n.toNat).length; simp [intsA]⟩⟩⟩
    have hi : i < n.toNat := by have := (List.getElem?_eq_some_iff.mp hx).1; simpa [intsA] using this
    have ex : x = .dat (.int (i : Int)) := by
      unfold intsA at hx
      rw [List.getElem?_map, List.getElem?_range hi] at hx
      exact (Option.some.inj hx).symm
    refine ⟨hi, fun v H2 ⟨e1, e2⟩ => ?_⟩
    subst e1 ex
    rw [e2, Int.zero_add]
    exact ⟨Fr.refl _ _, Rp.int _⟩
def rngs (lo : Int) (n : Nat) : List A := (List.range n).map fun (i : Nat) => .dat (.int (lo + (i : Nat)))
theorem ei_rng2 {lo n : Int} (h : EA δ μ tr [.dat (.int lo), .dat (.int n)]) (hn : n < 2 ^ 62) (hn0 : -(2 ^ 62) ≤ n) (hl : lo < 2 ^ 62) (hl0 : -(2 ^ 62) ≤ lo) : EI0 δ μ (iRng2 tr) (rngs lo (n - lo).toNat) := fun σ H s R k => h σ H s _ fun vs H1 f1 r1 => by
  cases r1 with
  | cons r1 r2 =>
    cases r2 with
    | cons r2 r3 =>
    cases r3
    rw [rp_int r1, rp_int r2]
    refine ⟨lo, n, rfl, ⟨hl0, hl, hn0, hn⟩, k _ _ f1 ⟨fun a ha => absurd ha (by simp), fun H' tk _ => ⟨fun i x hx => ?_, by show (n - lo).toNat ≤ (rngs lo (n - lo).toNat).length; simp [rngs]⟩⟩⟩
    have hi : i < (n - lo).toNat := by have := (List.getElem?_eq_some_iff.mp hx).1; simpa [rngs] using this
    have ex : x = .dat (.int (lo + (i : Nat))) := by
      unfold rngs at hx
      rw [List.getElem?_map, List.getElem?_range hi] at hx
      exact (Option.some.inj hx).symm
    refine ⟨hi, fun v H2 ⟨e1, e2⟩ => ?_⟩
    subst e1 ex
    rw [e2]
    exact ⟨Fr.refl _ _, Rp.int _⟩
theorem Rp.pair {H : Hp} {T : Addr} {v w : V} {d e : D} (h : H T = none) (r1 : Rp H v d) (r2 : Rp H w e) : Fr [] H (upd H T (.tup [v, w])) ∧ RpA (upd H T (.tup [v, w])) (.ref T) (.dat (.tup [d, e])) :=
  ⟨Fr.new h nt_tup, Rp.tup upd_same (.cons (r1.mono (Fr.new h nt_tup).tup) (.cons (r2.mono (Fr.new h nt_tup).tup) .nil))⟩
def numbered (ds : List D) : List A := (List.range ds.length).map fun (i : Nat) => .dat (.tup [.int (i : Nat), ds.getD i .non])
theorem ei_enumT {ds : List D} (h : E δ μ tl (.dat (.tup ds))) : EI0 δ μ (iEnA K (tCons tl tNil)) (numbered ds) := fun σ H s R k => h σ H s _ fun v H1 f1 r1 => by
  obtain ⟨a, vs, rfl, ht, hr⟩ := rp_tup r1
  refine ⟨a, vs, rfl, .inl ⟨SqT.of ht, k _ _ f1 ⟨fun a ha => absurd ha (by simp), fun H' tk _ => ⟨fun i x hx => ?_, ⟨vs, SqT.of (tk _ _ ht), by simp [numbered, hr.length]⟩⟩⟩⟩⟩
  have hi : i < ds.length := by have := (List.getElem?_eq_some_iff.mp hx).1; simpa [numbered] using this
  obtain ⟨u, h1, h2⟩ := hr.get (List.getElem?_eq_getElem hi)
  refine ⟨⟨vs, u, SqT.of (tk _ _ ht), h1⟩, fun v H2 ⟨T, y, e1, e2, e3, e4⟩ => ?_⟩
  have q := e4 vs (SqT.of (tk _ _ ht))
  rw [h1] at q
  cases q
  have ex : x = .dat (.tup [.int (i : Nat), ds[i]]) := by
    unfold numbered at hx
    rw [List.getElem?_map, List.getElem?_range hi] at hx
    have := Option.some.inj hx
    rw [← this]
    simp [List.getElem?_eq_getElem hi]
  subst e1 e3 ex
  exact Rp.pair e2 (Rp.int _) (h2.mono tk)
def zipD (xs ys : List D) : List A := (xs.zip ys).map fun p => .dat (.tup [p.1, p.2])
theorem ei_zipT {ds es : List D} (h : EA δ μ tr [.dat (.tup ds), .dat (.tup es)]) : EI0 δ μ (RZ.iZipA K tr) (zipD ds es) := fun σ H s R k => h σ H s _ fun vs H1 f1 r1 => by
  cases r1 with
  | cons r1 r2 =>
    cases r2 with
    | cons r2 r3 =>
    cases r3
    obtain ⟨a, vs, rfl, ht, hr⟩ := rp_tup r1
    obtain ⟨a2, ws, rfl, ht2, hr2⟩ := rp_tup r2
    refine ⟨a, a2, vs, ws, rfl, .inr ⟨SqT.of ht, SqT.of ht2, k _ _ f1 ⟨fun a ha => absurd ha (by simp), fun H' tk _ => ⟨fun i x hx => ?_, ⟨vs, ws, SqT.of (tk _ _ ht), SqT.of (tk _ _ ht2), ?_⟩⟩⟩⟩⟩
    · unfold zipD at hx
      rw [List.getElem?_map] at hx
      cases q : (ds.zip es)[i]? with
      | none => rw [q] at hx; cases hx
      | some p =>
        rw [q] at hx
        cases hx
        obtain ⟨q1, q2⟩ := List.getElem?_zip_eq_some.mp q
        obtain ⟨u, h1, h2⟩ := hr.get q1
        obtain ⟨u2, h3, h4⟩ := hr2.get q2
        refine ⟨⟨vs, ws, u, u2, SqT.of (tk _ _ ht), SqT.of (tk _ _ ht2), h1, h3⟩, fun v H2 ⟨T, y, y2, e1, e2, e3, e4, e5⟩ => ?_⟩
        have z1 := e4 vs (SqT.of (tk _ _ ht))
        have z2 := e5 ws (SqT.of (tk _ _ ht2))
        rw [h1] at z1
        rw [h3] at z2
        cases z1
        cases z2
        subst e1 e3
        exact Rp.pair e2 (h2.mono tk) (h4.mono tk)
    · simp only [zipD, List.length_map, List.length_zip, hr.length, hr2.length]
      omega
def D.lt (x y : D) : Bool := PySem.W.dataLt x.py y.py
def D.like (x y : D) : Bool := PySem.W.alike x.py y.py
def rLtD (K : PySem.W.Frag) : R2 := fun x y H Q => ∃ d e, Dp K H x d ∧ Dp K H y e ∧ PySem.W.alike d e = true ∧ d ≠ .none ∧ d.depth ≤ 60 ∧ Q (.bl (PySem.W.dataLt d e)) H
theorem op_ltD {X : Cx} (hu : X.A.units + 64 < cLine) : OpR X (compareOp .Lt) (rLtD X.K) := by
  intro pins s σ H x y v u Q I rx ry h
  obtain ⟨d, e, hd, he, h1, h2, h3, q⟩ := h
  obtain ⟨as, r1⟩ := Dp.reads I d x v hd rx
  obtain ⟨bs, r2⟩ := Dp.reads I e y u he ry
  exact PySem.W.lt_data r1 r2 h1 h2 (by omega) ⟨.bl _, H, I, rfl, q⟩
def rLtA (K : PySem.W.Frag) : R2 := fun x y H Q => rI0 (fun i j => .bl (decide (i < j))) x y H Q ∨ rLtD K x y H Q
theorem op_ltA {X : Cx} {k : Nat} (hr : Room k X.A) : OpR X (compareOp .Lt) (rLtA X.K) := op_lt.or (op_ltD hr.units)
theorem e_ltI {i j : Int} (ha : E δ μ ta (.dat (.int i))) (hb : E δ μ tb (.dat (.int j))) : E δ μ (tOp (rLtA K) ta tb) (.dat (.bl (decide (i < j)))) := e_op ha hb (rv_orl (rv_cmp (g := fun i j => decide (i < j))))
theorem e_ltD (ha : E δ μ ta (.dat d)) (hb : E δ μ tb (.dat e)) (h : D.like d e = true) (hn : d ≠ .non) (hd : d.py.depth ≤ 60) : E δ μ (tOp (rLtA K) ta tb) (.dat (.bl (D.lt d e))) := e_op ha hb fun H v w Q r1 r2 k =>
  .inr ⟨_, _, dp_of r1, dp_of r2, h, (by cases d <;> first | exact absurd rfl hn | (intro z; cases z)), hd, k _ H (Fr.refl _ _) (Rp.bl _)⟩
end
end TK
set_option maxHeartbeats 2000000
namespace TK
open PySem L2 NdefX LamX
variable [TC]
def leZ (x y : V × D) : Bool := !D.lt y.2 x.2
def leD (x y : D) : Bool := !D.lt y x
def DLike (ds : List D) : Prop := ∀ d ∈ ds, ∀ e ∈ ds, D.like d e = true
def DSort (ds : List D) : Prop := (∀ d ∈ ds, ∃ x l, d = .tup (x :: l)) ∨ ∀ d ∈ ds, d ≠ .non ∧ ∀ l, d ≠ .tup l
def rSrtD (K : PySem.W.Frag) : List V → Hp → VK → Prop := fun vs H Q => ∃ (a : Addr) (zs : List (V × D)), vs = [.ref a] ∧ SqL K H a (zs.map (·.1)) ∧ (∀ z ∈ zs, Rp H z.1 z.2) ∧ DLike (zs.map (·.2)) ∧ DSort (zs.map (·.2)) ∧ (∀ z ∈ zs, z.2.py.depth ≤ 60) ∧
  ∀ p, H p = none → Q (.ref p) (upd H p (.lst ((zs.mergeSort leZ).map (·.1))))
theorem each_vals : ∀ {zs : List (V × D)} {us : List Value}, Vals (zs.map (·.1)) us → PySem.W.EachIs (fun u (z : V × D) => RelV z.1 u) us zs
  | [], _, r => by cases r; exact .nil
  | z :: zs, _, r => by
    cases r with
    | cons r1 r2 => exact .cons r1 (each_vals r2)
theorem vals_each : ∀ {zs : List (V × D)} {us : List Value}, PySem.W.EachIs (fun u (z : V × D) => RelV z.1 u) us zs → Vals (zs.map (·.1)) us
  | _, _, .nil => .nil
  | _, _, .cons r1 r2 => .cons r1 (vals_each r2)
theorem each_reads {X : Cx} {pins : List (Addr × Obj)} {σ : St} {H : Hp} {s : Shared} (I : L2.Inv X pins σ H s) : ∀ {zs : List (V × D)} {us : List Value}, (∀ z ∈ zs, Rp H z.1 z.2) → PySem.W.EachIs (fun u (z : V × D) => RelV z.1 u) us zs →
    PySem.W.EachIs (fun u (z : V × D) => ∃ as, Reads s.heap u z.2.py as) us zs
  | _, _, _, .nil => .nil
  | _, _, h, .cons r1 r2 => .cons (Dp.reads I _ _ _ (dp_of (h _ (by simp))) r1) (each_reads I (fun z hz => h z (by simp [hz])) r2)
theorem cr_srtD {X : Cx} (hu : X.A.units + 64 < cLine) : CallR X (.builtin "sorted") (rSrtD X.K) := by
  intro pins s σ H vs us Q I r h
  obtain ⟨a, zs, rfl, hs, hr, hl, hk, hd, q⟩ := h
  obtain ⟨its, rv, hp, hz⟩ := I.list hs
  rw [Vals.ref1 r]
  rw [List.length_map] at hz
  have ek : PySem.W.AllAlike (zs.map fun z => z.2.py) := fun d hd' e he => by
    obtain ⟨z1, h1, rfl⟩ := List.mem_map.mp hd'
    obtain ⟨z2, h2, rfl⟩ := List.mem_map.mp he
    exact hl _ (List.mem_map.mpr ⟨z1, h1, rfl⟩) _ (List.mem_map.mpr ⟨z2, h2, rfl⟩)
  have sk : PySem.W.Sortable (zs.map fun z => z.2.py) := by
    rcases hk with hk | hk
    · refine .inl fun d hd' => ?_
      obtain ⟨z, h1, rfl⟩ := List.mem_map.mp hd'
      obtain ⟨x, l, e⟩ := hk z.2 (List.mem_map.mpr ⟨z, h1, rfl⟩)
      exact ⟨x.py, D.pyL l, by rw [e]; simp [D.py, D.pyL]⟩
    · refine .inr fun d hd' => ?_
      obtain ⟨z, h1, rfl⟩ := List.mem_map.mp hd'
      obtain ⟨n1, n2⟩ := hk z.2 (List.mem_map.mpr ⟨z, h1, rfl⟩)
      cases q : z.2 with
      | non => exact absurd q n1
      | tup l => exact absurd q (n2 l)
      | bl b => exact ⟨by simp [D.py], fun xs => by simp [D.py]⟩
      | int b => exact ⟨by simp [D.py], fun xs => by simp [D.py]⟩
      | str b => exact ⟨by simp [D.py], fun xs => by simp [D.py]⟩
  have e1 := each_vals rv
  refine PySem.W.sorted_data (R := fun u (z : V × D) => RelV z.1 u) (enc := fun z : V × D => z.2.py) hp.isList e1 (each_reads I hr e1) ek sk hz (fun z hz' => by have := hd z hz'; omega) fun out ho eo => ?_
  obtain ⟨ep, he'⟩ := PyProof.Rows.sortedAll_at s.heap its out.toArray
  have eo2 : PySem.W.EachIs (fun u (z : V × D) => RelV z.1 u) out (zs.mergeSort leZ) := eo
  have hlen : ((zs.mergeSort leZ).map (·.1)).length ≤ sizeLine := by rw [List.length_map, List.length_mergeSort]; exact hz
  exact ⟨.ref _, upd H (s.heap.objs.size + 1) (.lst ((zs.mergeSort leZ).map (·.1))), I.laid (t' := s.toks) (fun _ _ => PyProof.Rows.sortedAll_old) (Nat.le_succ _) ⟨hlen, out, ep, vals_each eo2, he'⟩, rfl, q _ (I.hok.fresh (Nat.le_succ _))⟩
def rSrtDI : List V → Hp → VK → Prop := fun xs H Q => ∃ (a : Addr) (kvs : List (Key × V)) (ks : List Int), xs = [.ref a] ∧ Rd H a (.dK kvs) ∧ kvs.map (·.1) = ks.map Sum.inl ∧ ks.length < 64 ∧
    ∀ (ys : List Int) (p : Addr), ys.Perm ks → ys.Pairwise (· ≤ ·) → H p = none → Q (.ref p) (upd H p (.lst (ys.map V.int)))
def rSrt (K : PySem.W.Frag) : List V → Hp → VK → Prop := fun vs H Q => rSrtD K vs H Q ∨ rSrtDI vs H Q
theorem cr_srt {X : Cx} {k : Nat} (hc : X.calm = true) (hr : Room k X.A) : CallR X (.builtin "sorted") (rSrt X.K) := (cr_srtD hr.units).or (call_sortedDI hc)
def rLstD : List V → Hp → VK → Prop := fun xs H Q => ∃ (a : Addr) (kvs : List (Key × V)), xs = [.ref a] ∧ Rd H a (.dK kvs) ∧ ∀ p, H p = none → Q (.ref p) (upd H p (.lst (kvs.map fun kv => kV kv.1)))
def rLstS (K : PySem.W.Frag) : List V → Hp → VK → Prop := fun xs H Q => ∃ p ys, xs = [.ref p] ∧ (SqL K H p ys ∨ SqT K H p ys) ∧ ∀ l, H l = none → Q (.ref l) (upd H l (.lst ys))
def rLst (K : PySem.W.Frag) : List V → Hp → VK → Prop := fun vs H Q => rLstS K vs H Q ∨ rLstD vs H Q
theorem cr_lst {X : Cx} (hc : X.calm = true) : CallR X (.type "list") (rLst X.K) := CallR.or (r := rLstS X.K) call_list_of (call_listD hc)
def valA {κ : Type} [DecidableEq κ] (kvs : List (κ × A)) (k : κ) : Option A := (kvs.find? fun kv => decide (kv.1 = k)).map (·.2)
def putA {κ : Type} [DecidableEq κ] (kvs : List (κ × A)) (k : κ) (v : A) : List (κ × A) :=
  if (kvs.any fun kv => decide (kv.1 = k)) = true then kvs.map (fun kv => if kv.1 = k then (kv.1, v) else kv) else kvs ++ [(k, v)]
theorem KA.val {H : Hp} : ∀ {kvs : List (Key × A)} {ks : List (Key × V)}, KA H kvs ks → ∀ k, (∀ x, valA kvs k = some x → ∃ v, valV ks k = some v ∧ RpA H v x) ∧ (valA kvs k = none → valV ks k = none)
  | _, _, .nil, k => ⟨fun x h => (by simp [valA] at h), fun _ => rfl⟩
  | (a, x0) :: l, (b, v0) :: m, .cons r t, k => by
    obtain ⟨r1, r2⟩ := r
    simp only at r1 r2
    subst r1
    by_cases h : a = k
    · subst h
      refine ⟨fun x hx => ⟨v0, valV_pos rfl, ?_⟩, fun hx => ?_⟩
      · simp [valA, List.find?_cons] at hx; subst hx; exact r2
      · simp [valA, List.find?_cons] at hx
    · obtain ⟨h1, h2⟩ := KA.val t k
      refine ⟨fun x hx => ?_, fun hx => ?_⟩
      · obtain ⟨v, e1, e2⟩ := h1 x (by simpa [valA, List.find?_cons, h] using hx)
        exact ⟨v, by rw [valV_neg h]; exact e1, e2⟩
      · rw [valV_neg h]
        exact h2 (by simpa [valA, List.find?_cons, h] using hx)
theorem KA.any {H : Hp} {k : Key} : ∀ {kvs : List (Key × A)} {ks : List (Key × V)}, KA H kvs ks → (kvs.any fun kv => decide (kv.1 = k)) = ks.any fun kv => decide (kv.1 = k)
  | _, _, .nil => rfl
  | _, _, .cons r t => by rw [List.any_cons, List.any_cons, r.1, KA.any t]
theorem KA.app {H : Hp} {k : Key} {v : V} {x : A} (r : RpA H v x) : ∀ {kvs : List (Key × A)} {ks : List (Key × V)}, KA H kvs ks → KA H (kvs ++ [(k, x)]) (ks ++ [(k, v)])
  | _, _, .nil => .cons ⟨rfl, r⟩ .nil
  | _, _, .cons q t => .cons q (KA.app r t)
theorem KA.repl {H : Hp} {k : Key} {v : V} {x : A} (r : RpA H v x) : ∀ {kvs : List (Key × A)} {ks : List (Key × V)}, KA H kvs ks → KA H (kvs.map fun kv => if kv.1 = k then (kv.1, x) else kv) (ks.map fun kv => if kv.1 = k then (kv.1, v) else kv)
  | _, _, .nil => .nil
  | (a, x0) :: l, (b, v0) :: m, .cons q t => by
    obtain ⟨q1, q2⟩ := q
    simp only at q1 q2
    subst q1
    refine .cons ?_ (KA.repl r t)
    by_cases h : a = k
    · show (if a = k then (a, x) else (a, x0)).1 = (if a = k then (a, v) else (a, v0)).1 ∧ RpA H (if a = k then (a, v) else (a, v0)).2 (if a = k then (a, x) else (a, x0)).2
      rw [if_pos h, if_pos h]
      exact ⟨rfl, r⟩
    · show (if a = k then (a, x) else (a, x0)).1 = (if a = k then (a, v) else (a, v0)).1 ∧ RpA H (if a = k then (a, v) else (a, v0)).2 (if a = k then (a, x) else (a, x0)).2
      rw [if_neg h, if_neg h]
      exact ⟨rfl, q2⟩
theorem KA.put {H : Hp} {k : Key} {v : V} {x : A} {kvs : List (Key × A)} {ks : List (Key × V)} (h : KA H kvs ks) (r : RpA H v x) : KA H (putA kvs k x) (putK ks k v) := by
  unfold putA putK
  rw [h.any]
  split
  · exact KA.repl r h
  · exact KA.app r h
theorem KA.keys {H : Hp} : ∀ {kvs : List (Key × A)} {ks : List (Key × V)}, KA H kvs ks → kvs.map (·.1) = ks.map (·.1)
  | _, _, .nil => rfl
  | _, _, .cons r t => by rw [List.map_cons, List.map_cons, r.1, KA.keys t]
theorem putA_len {κ : Type} [DecidableEq κ] (kvs : List (κ × A)) (k : κ) (v : A) : (putA kvs k v).length ≤ kvs.length + 1 := by
  unfold putA
  split
  · simp
  · simp
def keyD : D → Option Key
  | .int i => some (.inl i)
  | .str s => some (.inr s)
  | _ => none
theorem keyD_rp {H : Hp} {v : V} {d : D} {k : Key} (r : Rp H v d) (h : keyD d = some k) : v = kV k := by
  cases r <;> simp [keyD] at h <;> subst h <;> rfl
def dKey : Key → D
  | .inl i => .int i
  | .inr s => .str s
theorem rp_key {H : Hp} (k : Key) : Rp H (kV k) (dKey k) := by
  cases k
  · exact Rp.int _
  · exact Rp.str _
section
variable {δ δ' : Dl} {μ μ' : Mu} {te ta tb tc tl td ty tx tk tv : TE} {tt tu : TT} {tr : TA} {x y z : A} {d e : D} {b c : Bool} {ts us : TS} {P : Po} {g : TG} {K : PySem.W.Frag} {wi : TI} {xs : List A} {a : Addr} {kvs : List (Key × A)} {k : Key}
theorem rpl_zs {H : Hp} : ∀ {zs : List (V × D)}, (∀ z ∈ zs, Rp H z.1 z.2) → RpL H (zs.map (·.1)) (zs.map (·.2))
  | [], _ => .nil
  | z :: zs, h => .cons (h z (by simp)) (rpl_zs fun y hy => h y (by simp [hy]))
theorem zs_rpl {H : Hp} : ∀ {ws : List V} {ds : List D}, RpL H ws ds → ((ws.zip ds).map (·.1) = ws) ∧ ((ws.zip ds).map (·.2) = ds) ∧ ∀ z ∈ ws.zip ds, Rp H z.1 z.2
  | _, _, .nil => ⟨rfl, rfl, fun z h => by cases h⟩
  | _, _, .cons r t => by
    obtain ⟨h1, h2, h3⟩ := zs_rpl t
    refine ⟨by rw [List.zip_cons_cons, List.map_cons, h1], by rw [List.zip_cons_cons, List.map_cons, h2], fun z hz => ?_⟩
    rw [List.zip_cons_cons] at hz
    rcases List.mem_cons.mp hz with e | e
    · rw [e]; exact r
    · exact h3 z e
theorem srt_run {H : Hp} {p : Addr} {ws : List V} {ds : List D} {Q : VK} (e : H p = some (.lst ws)) (r : RpL H ws ds) (h1 : DLike ds) (h2 : DSort ds) (h3 : ∀ d ∈ ds, d.py.depth ≤ 60) (q : ∀ l H2, Fr [] H H2 → H l = none → C.at H2 l (.lst ((ds.mergeSort leD).map .dat)) → (∀ ps, H2 l ≠ some (.tbl ps)) → Q (.ref l) H2) : rSrt K [.ref p] H Q := by
  obtain ⟨z1, z2, z3⟩ := zs_rpl r
  refine .inl ⟨p, ws.zip ds, rfl, by rw [z1]; exact SqL.of e, z3, by rw [z2]; exact h1, by rw [z2]; exact h2, fun z hz => h3 z.2 (by rw [← z2]; exact List.mem_map.mpr ⟨z, hz, rfl⟩), fun l hl => ?_⟩
  have em : ((ws.zip ds).mergeSort leZ).map (·.2) = ds.mergeSort leD := by
    rw [List.map_mergeSort (r := leZ) (s := leD) (f := fun z : V × D => z.2) (fun a _ b _ => rfl), z2]
  refine q l _ (Fr.new hl nt_lst) hl ⟨_, upd_same, ?_⟩ fun ps z => by rw [upd_same] at z; cases z
  rw [RpAL.dat, ← em]
  exact rpl_zs fun z hz => (z3 z (List.mem_mergeSort.mp hz)).mono (Fr.new hl nt_lst).tup
theorem en_srtL (n : Nat) {ds : List D} (h : E δ μ te (.own a)) (hm : μ[n]? = some (a, .lst (ds.map .dat))) (h1 : DLike ds) (h2 : DSort ds) (h3 : ∀ d ∈ ds, d.py.depth ≤ 60) : EN δ μ (tCB (rSrt K) (tCons te tNil)) (.lst ((ds.mergeSort leD).map .dat)) := fun σ H s Q k =>
  h σ H s _ fun v H1 f1 r1 => by
    obtain ⟨ws, e1, e2⟩ := (s.step f1).mem.lst hm
    rw [show v = V.ref a from r1]
    exact srt_run e1 (RpAL.dat.mp e2) h1 h2 h3 fun l H2 f hn hc ht => k l H2 (f1.trans0 f) (f1.free _ hn) hc ht
theorem en_srtN {ds : List D} (h : EN δ μ te (.lst (ds.map .dat))) (h1 : DLike ds) (h2 : DSort ds) (h3 : ∀ d ∈ ds, d.py.depth ≤ 60) : EN δ μ (tCB (rSrt K) (tCons te tNil)) (.lst ((ds.mergeSort leD).map .dat)) := fun σ H s Q k =>
  h σ H s _ fun p H1 f1 hn0 hc0 _ => by
    obtain ⟨ws, e1, e2⟩ := hc0
    exact srt_run e1 (RpAL.dat.mp e2) h1 h2 h3 fun l H2 f hn hc ht => k l H2 (f1.trans0 f) (f1.free _ hn) hc ht
theorem en_dnew : EN δ μ tDNewK (.dk []) := fun σ H s Q k => fun p hp => k p _ (Fr.new hp nt_dK) hp ⟨[], upd_same, .nil⟩ fun ps z => by rw [upd_same] at z; cases z
theorem e_dget (n : Nat) (h : E δ μ td (.own a)) (hk : E δ μ ty (.dat d)) (hm : μ[n]? = some (a, .dk kvs)) (hd : keyD d = some k) (hv : valA kvs k = some x) : E δ μ (tDGet td ty) x := fun σ H s Q q =>
  h σ H s _ fun v H1 f1 r1 => hk σ H1 (s.step f1) _ fun w H2 f2 r2 => by
    have f := f1.trans0 f2
    obtain ⟨ks, e1, e2⟩ := (s.step f).mem.dk hm
    obtain ⟨u, e3, e4⟩ := (e2.val k).1 x hv
    rw [show v = V.ref a from r1, keyD_rp r2 hd]
    exact ⟨a, u, rfl, e3 ▸ DGet.k (k := k) e1, q u H2 f e4⟩
theorem e_din (n : Nat) (h : E δ μ td (.own a)) (hk : E δ μ ty (.dat d)) (hm : μ[n]? = some (a, .dk kvs)) (hd : keyD d = some k) : E δ μ (tDIn ty td) (.dat (.bl (valA kvs k).isSome)) := fun σ H s Q q =>
  hk σ H s _ fun w H1 f1 r1 => h σ H1 (s.step f1) _ fun v H2 f2 r2 => by
    have f := f1.trans0 f2
    obtain ⟨ks, e1, e2⟩ := (s.step f).mem.dk hm
    rw [show v = V.ref a from r2, keyD_rp r1 hd]
    refine ⟨a, valV ks k, rfl, DGet.k (k := k) e1, q _ H2 f ?_⟩
    have e : (valV ks k).isSome = (valA kvs k).isSome := by
      cases q : valA kvs k with
      | none => rw [(e2.val k).2 q]; rfl
      | some x => obtain ⟨v, h1, _⟩ := (e2.val k).1 x q; rw [h1]; rfl
    rw [e]
    exact Rp.bl _
theorem e_dnotin (n : Nat) (h : E δ μ td (.own a)) (hk : E δ μ ty (.dat d)) (hm : μ[n]? = some (a, .dk kvs)) (hd : keyD d = some k) : E δ μ (tDNotIn ty td) (.dat (.bl (!(valA kvs k).isSome))) := fun σ H s Q q =>
  hk σ H s _ fun w H1 f1 r1 => h σ H1 (s.step f1) _ fun v H2 f2 r2 => by
    have f := f1.trans0 f2
    obtain ⟨ks, e1, e2⟩ := (s.step f).mem.dk hm
    rw [show v = V.ref a from r2, keyD_rp r1 hd]
    refine ⟨a, valV ks k, rfl, DGet.k (k := k) e1, q _ H2 f ?_⟩
    have e : (valV ks k).isSome = (valA kvs k).isSome := by
      cases q : valA kvs k with
      | none => rw [(e2.val k).2 q]; rfl
      | some x => obtain ⟨v, h1, _⟩ := (e2.val k).1 x q; rw [h1]; rfl
    rw [e]
    exact Rp.bl _
theorem e_dget1 (n : Nat) (h : E δ μ td (.own a)) (hk : E δ μ ty (.dat d)) (hm : μ[n]? = some (a, .dk kvs)) (hd : keyD d = some k) : E δ μ (tDGet1 td ty) ((valA kvs k).getD (.dat .non)) := fun σ H s Q q =>
  h σ H s _ fun v H1 f1 r1 => by
    obtain ⟨ks1, e0, _⟩ := (s.step f1).mem.dk hm
    refine ⟨a, r1, .inl ⟨ks1, .inl e0⟩, hk σ H1 (s.step f1) _ fun w H2 f2 r2 => ?_⟩
    have f := f1.trans0 f2
    obtain ⟨ks, e1, e2⟩ := (s.step f).mem.dk hm
    rw [keyD_rp r2 hd]
    refine ⟨valV ks k, DGet.k (k := k) e1, q _ H2 f ?_⟩
    cases qq : valA kvs k with
    | none => rw [(e2.val k).2 qq]; exact Rp.non
    | some x => obtain ⟨v, h1, h2⟩ := (e2.val k).1 x qq; rw [h1]; exact h2
theorem e_dget2 (n : Nat) (h : E δ μ td (.own a)) (hk : E δ μ ty (.dat d)) (hx : E δ μ tx x) (hm : μ[n]? = some (a, .dk kvs)) (hd : keyD d = some k) : E δ μ (tDGet2 td ty tx) ((valA kvs k).getD x) := fun σ H s Q q =>
  h σ H s _ fun v H1 f1 r1 => by
    obtain ⟨ks1, e0, _⟩ := (s.step f1).mem.dk hm
    refine ⟨a, r1, .inl ⟨ks1, .inl e0⟩, hk σ H1 (s.step f1) _ fun w H2 f2 r2 => hx σ H2 (s.step (f1.trans0 f2)) _ fun u H3 f3 r3 => ?_⟩
    have f := (f1.trans0 f2).trans0 f3
    obtain ⟨ks, e1, e2⟩ := (s.step f).mem.dk hm
    rw [keyD_rp r2 hd]
    refine ⟨valV ks k, DGet.k (k := k) e1, q _ H3 f ?_⟩
    cases qq : valA kvs k with
    | none => rw [(e2.val k).2 qq]; exact r3
    | some x => obtain ⟨v, h1, h2⟩ := (e2.val k).1 x qq; rw [h1]; exact h2
theorem SM.putDk {H : Hp} (m : SM μ H) (n : Nat) (hm : μ[n]? = some (a, .dk kvs)) {ks : List (Key × V)} {v : V} (e1 : H a = some (.dK ks)) (e2 : KA H kvs ks) (r : RpA H v x) : SM (μ.set n (a, .dk (putA kvs k x))) (upd H a (.dK (putK ks k v))) ∧ FS μ H (μ.set n (a, .dk (putA kvs k x))) (upd H a (.dK (putK ks k v))) := by
  have w : Fr (keys μ) H (upd H a (.dK (putK ks k v))) := Fr.wr (mem_keys hm) e1 rfl
  exact ⟨m.put hm e1 rfl nt_dK ⟨_, upd_same, (e2.put r).mono w.tup⟩, w, fun b hb => .inl (by rw [keys_set hm] at hb; exact hb)⟩
theorem ht_dput (n : Nat) (h : E δ μ td (.own a)) (hk : E δ μ ty (.dat d)) (hv : E δ μ tv x) (hm : μ[n]? = some (a, .dk kvs)) (hd : keyD d = some k) (hl : kvs.length < 100000) (hn : P.nx δ (μ.set n (a, .dk (putA kvs k x)))) : HT δ μ (sDPut td ty tv) P := fun σ H D s go =>
  hv σ H s _ fun v H1 f1 r1 => h σ H1 (s.step f1) _ fun u H2 f2 r2 => hk σ H2 (s.step (f1.trans0 f2)) _ fun w H3 f3 r3 => by
    have f := (f1.trans0 f2).trans0 f3
    have s3 := s.step f
    obtain ⟨ks, e1, e2⟩ := s3.mem.dk hm
    rw [keyD_rp r3 hd]
    have rx := r1.mono (f2.trans0 f3).tup
    obtain ⟨m4, f4⟩ := s3.mem.putDk (k := k) n hm e1 e2 rx
    refine ⟨a, _, r2, DPut.k (k := k) (v := v) e1 (by rw [← Paired.length e2]; exact szt hl), ?_⟩
    exact go.nx _ _ _ _ hn (s3.withM f4.fr.tup m4) ((FS.of f).trans f4)
def CwD (H : Hp) (p : Addr) (l : List (Key × A)) (H' : Hp) : Prop := H p = none ∧ Fr [] H H' ∧ ∃ ks, H' p = some (.dK ks) ∧ KA H' l ks
theorem fold_snoc {α γ : Type} (xs : List α) (f : α → Bool) (put : γ → α → γ) (c0 : γ) {i : Nat} {x : α} (h : xs[i]? = some x) : ((xs.take (i + 1)).filter f).foldl put c0 = if f x = true then put (((xs.take i).filter f).foldl put c0) x else ((xs.take i).filter f).foldl put c0 := by
  have e : xs.take (i + 1) = xs.take i ++ [x] := by rw [List.take_succ, h]; rfl
  rw [e, List.filter_append, List.foldl_append]
  by_cases q : f x = true
  · rw [if_pos q, List.filter_cons, if_pos q]; rfl
  · rw [if_neg q, List.filter_cons, if_neg q]; rfl
theorem fold_len {κ : Type} [DecidableEq κ] (kk : A → κ) (kv : A → A) : ∀ (xs : List A) (l : List (κ × A)), (xs.foldl (fun acc x => putA acc (kk x) (kv x)) l).length ≤ l.length + xs.length
  | [], l => Nat.le_refl _
  | x :: xs, l => by
    rw [List.foldl_cons]
    refine Nat.le_trans (fold_len kk kv xs _) ?_
    have := putA_len l (kk x) (kv x)
    simp only [List.length_cons]
    omega
theorem en_dcI {vs : List Nat} (h : EI δ μ wi xs) (hz : xs.length < 100000) (f : A → Bool) (kk : A → Key) (kv : A → A) (hb : ∀ d ∈ xs, ∃ δ2 js, Tg (wipeD δ vs) g d δ2 js ∧ (∀ j ∈ js, j ∈ vs) ∧ ET δ2 μ tt (f d) ∧ (f d = true → (∃ e, keyD e = some (kk d) ∧ E δ2 μ tk (.dat e)) ∧ E δ2 μ tv (kv d))) :
    EN δ μ (tDc wi g tt tk tv vs) (.dk ((xs.filter f).foldl (fun acc x => putA acc (kk x) (kv x)) [])) := fun σ H s Q q => h σ H s _ fun J H1 L f1 yl => by
  refine fun p hp => ⟨fun i m H' => m = xs.length - i ∧ i ≤ xs.length ∧ CwD H1 p (((xs.take i).filter f).foldl (fun acc x => putA acc (kk x) (kv x)) []) H', ⟨xs.length, by simp, Nat.zero_le _, hp, Fr.new hp nt_dK, [], upd_same, .nil⟩, ?_⟩
  rintro i m H' ⟨rfl, hi, cw⟩
  obtain ⟨r1, r2⟩ := yl.run H' cw.2.1.tup (Fr.keepL cw.2.1 yl.obj)
  by_cases hlt : i < xs.length
  · have h3 : xs[i]? = some xs[i] := List.getElem?_eq_getElem hlt
    obtain ⟨g1, g2⟩ := r1 i xs[i] h3
    refine .inr ⟨g1, fun H3 => i + 1 ≤ xs.length ∧ CwD H1 p (((xs.take (i + 1)).filter f).foldl (fun acc x => putA acc (kk x) (kv x)) []) H3, fun H3 pp => ⟨xs.length - (i + 1), by omega, rfl, pp⟩, fun w H2 yy => ?_⟩
    obtain ⟨f2, rw⟩ := g2 w H2 yy
    obtain ⟨δ2, js, hg, hj, h5, h6⟩ := hb xs[i] (List.getElem_mem hlt)
    obtain ⟨c1, c2, ks, c3, c4⟩ := cw
    have s1 := ((s.step f1).step c2).step f2
    refine hg μ _ H2 w (s1.wipe vs) rw _ fun σ2 s2 hw => ⟨(hw vs hj).trans wipe_wipe, h5 σ2 H2 s2 _ fun H3 f3 => ?_⟩
    cases hf : f xs[i] with
    | false =>
      refine iteF ⟨hlt, c1, (c2.trans0 f2).trans0 f3, ks, (f2.trans0 f3).keep _ _ c3 (by simp) nt_dK, ?_⟩
      rw [fold_snoc xs f (fun acc x => putA acc (kk x) (kv x)) ([] : List (Key × A)) h3, hf]
      exact c4.mono (f2.trans0 f3).tup
    | true =>
      obtain ⟨⟨e, he, hk⟩, hv⟩ := h6 hf
      refine iteT (hk σ2 H3 (s2.step f3) _ fun u H4 f4 ru => hv σ2 H4 (s2.step (f3.trans0 f4)) _ fun v H5 f5 rv => ?_)
      have ff := ((f2.trans0 f3).trans0 f4).trans0 f5
      have q5 := ff.keep _ _ c3 (by simp) nt_dK
      have kl : ks.length < sizeLine := by
        rw [← Paired.length c4]
        refine szt (Nat.lt_of_le_of_lt (fold_len kk kv _ []) ?_)
        have := List.length_filter_le f (xs.take i)
        rw [List.length_take] at this
        simp only [List.length_nil]
        omega
      have w6 : Fr [p] H5 (upd H5 p (.dK (putK ks (kk xs[i]) v))) := Fr.wr (by simp) q5 rfl
      refine ⟨ks, kk xs[i], keyD_rp ru he, q5, kl, hlt, c1, (c2.trans0 ff).mut c1 q5 rfl, _, upd_same, ?_⟩
      rw [fold_snoc xs f (fun acc x => putA acc (kk x) (kv x)) ([] : List (Key × A)) h3, hf, if_pos rfl]
      exact ((c4.mono ff.tup).put rv).mono w6.tup
  · have e : i = xs.length := by omega
    subst e
    rw [List.take_length] at cw
    obtain ⟨c1, c2, us, c3, c4⟩ := cw
    exact .inl ⟨r2, q p H' (f1.trans0 c2) (f1.free _ c1) ⟨us, c3, c4⟩ fun ps z => by rw [c3] at z; cases z⟩
end
end TK
set_option maxHeartbeats 2000000
namespace TK
open PySem L2 NdefX LamX
variable [TC]
def frzL (Z : List (Addr × Obj)) (H : Hp) : Hp := fun b => match Z.lookup b with
  | some o => some (.frz o (.own 0))
  | none => H b
def unfL (Z : List (Addr × Obj)) (H : Hp) : Hp := fun b => match Z.lookup b with
  | some _ => none
  | none => H b
section
variable {Z : List (Addr × Obj)} {H H' : Hp} {h h' : Heap} {P : Program} {w : World} {b : Addr} {o : Obj} {u : HO} {fs : List Addr}
theorem frz_in (e : Z.lookup b = some o) : frzL Z H b = some (.frz o (.own 0)) := by unfold frzL; rw [e]
theorem frz_out (e : Z.lookup b = none) : frzL Z H b = H b := by unfold frzL; rw [e]
theorem unf_in (e : Z.lookup b = some o) : unfL Z H b = none := by unfold unfL; rw [e]
theorem unf_out (e : Z.lookup b = none) : unfL Z H b = H b := by unfold unfL; rw [e]
def ZFree (Z : List (Addr × Obj)) (H : Hp) : Prop := ∀ b o, Z.lookup b = some o → H b = none
def ZFrz (Z : List (Addr × Obj)) (H : Hp) : Prop := ∀ b o, Z.lookup b = some o → H b = some (.frz o (.own 0))
def ZAt (Z : List (Addr × Obj)) (h : Heap) : Prop := ∀ b o, Z.lookup b = some o → h.get? b = some o
theorem ZFree.out (z : ZFree Z H) (e : H b = some u) : Z.lookup b = none := by
  cases q : Z.lookup b with
  | none => rfl
  | some o => rw [z b o q] at e; cases e
theorem ZFrz.out (z : ZFrz Z H) (e : H b = some u) (n : ∀ o, u ≠ .frz o (.own 0)) : Z.lookup b = none := by
  cases q : Z.lookup b with
  | none => rfl
  | some o => rw [z b o q] at e; exact absurd (Option.some.inj e).symm (n o)
theorem ZFrz.outN (z : ZFrz Z H) (e : H b = none) : Z.lookup b = none := by
  cases q : Z.lookup b with
  | none => rfl
  | some o => rw [z b o q] at e; cases e
theorem zfrz_frz : ZFrz Z (frzL Z H) := fun b o e => frz_in e
theorem zfree_unf : ZFree Z (unfL Z H) := fun b o e => unf_in e
theorem ZFrz.get (z : ZFrz Z H) (x : HOk P w H h) : ZAt Z h := fun b o e => (x b _ (z b o e)).1
theorem hok_frz (x : HOk P w H h) (z : ZFree Z H) (a : ZAt Z h) : HOk P w (frzL Z H) h := fun b u e => by
  cases q : Z.lookup b with
  | some o =>
    rw [frz_in q] at e
    cases e
    exact ⟨a b o q, _, a b o q⟩
  | none =>
    rw [frz_out q] at e
    exact (x b u e).stay (fun _ _ _ r => r) (fun c r => by rw [frz_out (z.out r)]; exact r) fun c xs r => by rw [frz_out (z.out r)]; exact r
theorem hok_unf (x : HOk P w H h) (z : ZFrz Z H) : HOk P w (unfL Z H) h := fun b u e => by
  cases q : Z.lookup b with
  | some o => rw [unf_in q] at e; cases e
  | none =>
    rw [unf_out q] at e
    exact (x b u e).stay (fun _ _ _ r => r) (fun c r => by rw [unf_out (z.out r fun _ y => by cases y)]; exact r) fun c xs r => by rw [unf_out (z.out r fun _ y => by cases y)]; exact r
theorem un_unf (x : Un fs [] (frzL Z H) H' h h') (z : ZFree Z H) (a : ZAt Z h) (k : HOk P w H' h') : Un fs [] H (unfL Z H') h h' := by
  have inZ : ∀ {b o}, Z.lookup b = some o → h'.get? b = some o := fun {b o} q => (k b _ (x.frzs b o _ (frz_in q))).1
  refine ⟨fun b o e n hb _ => ?_, fun b o e n hb _ => ?_, fun b o e n _ => ?_, fun b o e _ => x.there b o e (by simp), fun b xs e => ?_, fun b o u e => ?_, fun b ps e => ?_⟩
  · cases q : Z.lookup b with
    | some o' =>
      have e1 := a b o' q
      rw [e] at e1
      cases e1
      exact inZ q
    | none => exact x.keep b o e (by rw [frz_out q]; exact n) hb (by simp)
  · cases q : Z.lookup b with
    | some o' =>
      have e1 := a b o' q
      rw [e] at e1
      cases e1
      exact ⟨o.slots, inZ q⟩
    | none => exact x.slot b o e (by rw [frz_out q]; exact n) hb (by simp)
  · cases q : Z.lookup b with
    | some o' => exact unf_in q
    | none => rw [unf_out q]; exact x.free b o e (by rw [frz_out q]; exact n) (by simp)
  · rw [unf_out (z.out e)]
    exact x.tups b xs (by rw [frz_out (z.out e)]; exact e)
  · rw [unf_out (z.out e)]
    exact x.frzs b o u (by rw [frz_out (z.out e)]; exact e)
  · rw [unf_out (z.out e)]
    exact x.tbls b ps (by rw [frz_out (z.out e)]; exact e)
theorem un_frz (x : Un fs [] (unfL Z H) H' h h') (z : ZFrz Z H) : Un fs [] H (frzL Z H') h h' := by
  refine ⟨fun b o e n hb _ => ?_, fun b o e n hb _ => ?_, fun b o e n _ => ?_, fun b o e _ => x.there b o e (by simp), fun b xs e => ?_, fun b o u e => ?_, fun b ps e => ?_⟩
  · exact x.keep b o e (by rw [unf_out (z.outN n)]; exact n) hb (by simp)
  · exact x.slot b o e (by rw [unf_out (z.outN n)]; exact n) hb (by simp)
  · rw [frz_out (z.outN n)]
    exact x.free b o e (by rw [unf_out (z.outN n)]; exact n) (by simp)
  · have q := z.out e fun _ y => by cases y
    rw [frz_out q]
    exact x.tups b xs (by rw [unf_out q]; exact e)
  · cases q : Z.lookup b with
    | some o' =>
      have e1 := z b o' q
      rw [e] at e1
      cases e1
      exact frz_in q
    | none =>
      rw [frz_out q]
      exact x.frzs b o u (by rw [unf_out q]; exact e)
  · have q := z.out e fun _ y => by cases y
    rw [frz_out q]
    exact x.tbls b ps (by rw [unf_out q]; exact e)
theorem codeO_nfrz {c : Addr} {q : Str} : ∀ o, CodeO c q ≠ .frz o (.own 0) := fun o z => by unfold CodeO at z; cases z
theorem tabs_frz {T : List NTab} (t : TabsN T H) (z : ZFree Z H) : TabsN T (frzL Z H) := t.ext fun b o e => by rw [frz_out (z.out e)]; exact e
theorem tabs_unf {T : List NTab} (t : TabsN T H) (z : ZFrz Z H) : TabsN T (unfL Z H) := fun p hp => by
  obtain ⟨ps, h1, h2, h3⟩ := t p hp
  refine ⟨ps, by rw [unf_out (z.out h1 fun _ y => by cases y)]; exact h1, h2, fun pos cv hc => ?_⟩
  obtain ⟨c, e1, e2⟩ := h3 pos cv hc
  exact ⟨c, e1, by rw [unf_out (z.out e2 codeO_nfrz)]; exact e2⟩
theorem fr_unf {H3 : Hp} (z : ZFree Z H) (f : Fr [] (frzL Z H) H3) : Fr [] H (unfL Z H3) := by
  have z3 : ZFrz Z H3 := fun b o e => f.keep b _ (frz_in e) (by simp) fun ps y => by cases y
  refine ⟨fun b o e _ n => ?_, fun b xs e => ?_, fun b e => ?_, fun t => tabs_unf (f.tabs (tabs_frz t z)) z3⟩
  · rw [unf_out (z.out e)]
    exact f.keep b o (by rw [frz_out (z.out e)]; exact e) (by simp) n
  · rw [unf_out (z.out e)]
    exact f.tup b xs (by rw [frz_out (z.out e)]; exact e)
  · cases q : Z.lookup b with
    | some o => exact z b o q
    | none =>
      rw [unf_out q] at e
      have e2 := f.free b e
      rw [frz_out q] at e2
      exact e2
theorem fr_frz {H2 : Hp} (z : ZFrz Z H) (z2 : ZFree Z H2) (f : Fr [] (unfL Z H) H2) : Fr [] H (frzL Z H2) := by
  refine ⟨fun b o e _ n => ?_, fun b xs e => ?_, fun b e => ?_, fun t => tabs_frz (f.tabs (tabs_unf t z)) z2⟩
  · cases q : Z.lookup b with
    | some o' =>
      have e1 := z b o' q
      rw [e] at e1
      cases e1
      exact frz_in q
    | none =>
      rw [frz_out q]
      exact f.keep b o (by rw [unf_out q]; exact e) (by simp) n
  · have q := z.out e fun _ y => by cases y
    rw [frz_out q]
    exact f.tup b xs (by rw [unf_out q]; exact e)
  · cases q : Z.lookup b with
    | some o => rw [frz_in q] at e; cases e
    | none =>
      rw [frz_out q] at e
      have e2 := f.free b e
      rw [unf_out q] at e2
      exact e2
theorem rp_frz {v : V} {d : D} (z : ZFree Z H) (r : Rp H v d) : Rp (frzL Z H) v d := r.mono fun b xs e => by rw [frz_out (z.out e)]; exact e
theorem rp_unf {v : V} {d : D} (z : ZFrz Z H) (r : Rp H v d) : Rp (unfL Z H) v d := r.mono fun b xs e => by rw [unf_out (z.out e fun _ y => by cases y)]; exact e
theorem rpl_frz {v : List V} {d : List D} (z : ZFree Z H) (r : RpL H v d) : RpL (frzL Z H) v d := r.mono fun b xs e => by rw [frz_out (z.out e)]; exact e
theorem rpl_unf {v : List V} {d : List D} (z : ZFrz Z H) (r : RpL H v d) : RpL (unfL Z H) v d := r.mono fun b xs e => by rw [unf_out (z.out e fun _ y => by cases y)]; exact e
end
def flatD : D → Bool
  | .tup _ => false
  | _ => true
theorem Rp.flat {H H' : Hp} {v : V} {d : D} (r : Rp H v d) (f : flatD d = true) : Rp H' v d := by
  cases r with
  | tup _ _ => cases f
  | non => exact .non
  | bl b => exact .bl b
  | int b => exact .int b
  | str b => exact .str b
def StAt (Zs : List (Addr × HO)) (H : Hp) : Prop := ∀ p ∈ Zs, H p.1 = some p.2
def rawOf (Zs : List (Addr × HO)) : Mu := Zs.map fun p => (p.1, C.raw p.2)
structure CloS (P : Program) (w : World) (K : PySem.W.Frag) (mg : Str → Option Value) (base : Heap) (k : Nat) (Zs : List (Addr × HO)) (f : Addr) (G : List D → D → Prop) : Prop where
  nd : (Zs.map (·.1)).Nodup
  nt : ∀ p ∈ Zs, ∀ ps, p.2 ≠ .tbl ps
  fn : ∀ H h, HOk P w H h → StAt Zs H → PySem.W.FnAt f h
  run : ∀ (A : Around) (outer : List Env) (s : Shared) (H : Hp) (us : List Value) (vs : List V) (Q : VK), Room k A → Env0 P w K mg base A outer s H → StAt Zs H → Vals vs us → spR G vs H Q E0 → codeAny (model P w) A (.call (.ref f) ⟨us, []⟩) (CR CX0 outer P w H s Q E0) s
def spL (P : Program) (w : World) (K : PySem.W.Frag) (mg : Str → Option Value) (base : Heap) (k : Nat) (G : List D → (List D → D → Prop) → D → Prop) : Sp := fun vs H Q _ =>
  ∃ ws f ds Gf d Zs, vs = ws ++ [.ref f] ∧ TabsN TC.T H ∧ RpL H ws ds ∧ CloS P w K mg base k Zs f Gf ∧ StAt Zs H ∧ G ds Gf d ∧ ∀ v H', Fr [] H H' → Rp H' v d → Q v H'
theorem sm_raw {Zs : List (Addr × HO)} {H : Hp} (t : TabsN TC.T H) (nd : (Zs.map (·.1)).Nodup) (nt : ∀ p ∈ Zs, ∀ ps, p.2 ≠ .tbl ps) (s : StAt Zs H) : SM (rawOf Zs) H := by
  refine ⟨?_, fun p hp => ?_, fun p hp ps e => ?_, t⟩
  · unfold keys rawOf
    rw [List.map_map]
    exact nd
  · obtain ⟨q, hq, rfl⟩ := List.mem_map.mp hp
    exact s q hq
  · obtain ⟨q, hq, rfl⟩ := List.mem_map.mp hp
    have e1 := s q hq
    rw [e1] at e
    exact nt q hq ps (Option.some.inj e)
theorem st_raw {Zs : List (Addr × HO)} {H : Hp} (m : SM (rawOf Zs) H) : StAt Zs H := fun p hp => m.own (p.1, C.raw p.2) (List.mem_map.mpr ⟨p, hp, rfl⟩)
theorem fr_raw {Zs : List (Addr × HO)} {H H' : Hp} (s : StAt Zs H) (f : FS (rawOf Zs) H (rawOf Zs) H') (m : SM (rawOf Zs) H') : Fr [] H H' := by
  refine ⟨fun b o e _ n => ?_, f.fr.tup, f.fr.free, f.fr.tabs⟩
  by_cases hb : b ∈ keys (rawOf Zs)
  · unfold keys rawOf at hb
    rw [List.map_map] at hb
    obtain ⟨p, hp, rfl⟩ := List.mem_map.mp hb
    have e1 := s p hp
    have e : H p.1 = some o := e
    rw [e] at e1
    cases e1
    exact st_raw m p hp
  · exact f.fr.keep b o e hb n
theorem FunD.okL {P : Program} {w : World} {K : PySem.W.Frag} {mg : Str → Option Value} {base : Heap} {x qual : Str} {params : Arguments} {body : List Stmt} {scope : Scope} {f : Addr} {fd : FuncData} {N ps : List Str} {k kc : Nat} {G : List D → (List D → D → Prop) → D → Prop}
    (F : FunD K x qual params body scope [] [] f fd) (S : FnScope N ps scope) (hl : ∀ ds Gf d, G ds Gf d → ds.length + 1 = ps.length) (hN : ps.length ≤ N.length)
    (hb : ∀ (cdv : Value) (A : Around) (outer : List Env) (s : Shared) (H : Hp) (E : XK), Room k (A.deeper (PyProof.Rows.envOfC qual scope s.heap.objs.size f cdv)) →
      ∃ t, PSs (cxOf CX0 P w K mg base N qual scope f cdv A outer s H E).nox body t ∧ ∀ ds Gf d Zs g, G ds Gf d → CloS P w K mg base kc Zs g Gf → HT (dl0 N (ds.map .dat ++ [.own g])) (rawOf Zs) t { nx := fun _ μ => d = .non ∧ μ = rawOf Zs, rt := fun y μ => y = .dat d ∧ μ = rawOf Zs }) :
    FnOk P w K mg base CX0 (k + 1) f fd ps (spL P w K mg base kc G) := by
  refine F.ok S (fun vs H Q E ⟨ws, g, ds, Gf, d, Zs, e, _, r, _, _, hG, _⟩ => by rw [e, List.length_append, r.length]; exact hl ds Gf d hG) (fun cdv A outer s H vs Q E hr ⟨ws, g, ds, Gf, d, Zs, e, htb, r, hC, hS, hG, q⟩ => ?_)
  obtain ⟨t, h1, h2⟩ := hb cdv A outer s H E hr
  refine ⟨t, h1.nox, ?_⟩
  subst e
  have s0 : SA (dl0 N (ds.map .dat ++ [.own g])) (rawOf Zs) (L2.start N (ws ++ [.ref g])) H := sa_start ((RpAL.dat.mpr r).append (.cons rfl .nil)) (sm_raw htb hC.nd hC.nt hS) (by rw [List.length_append, List.length_map]; exact Nat.le_trans (Nat.le_of_eq (hl ds Gf d hG)) hN)
  refine h2 ds Gf d Zs g hG hC (L2.start N _) H _ s0 ⟨fun δ' μ' σ' H' n s' f => ?_, fun y μ' v H' n m f ry => ?_, fun _ _ _ _ n _ _ => n.elim, fun _ _ _ _ n _ _ => n.elim⟩
  · obtain ⟨n1, n2⟩ : d = .non ∧ μ' = rawOf Zs := n
    subst n1 n2
    exact q .non H' (fr_raw hS f s'.mem) Rp.non
  · obtain ⟨n1, n2⟩ : y = .dat d ∧ μ' = rawOf Zs := n
    subst n1 n2
    exact q v H' (fr_raw hS f m) ry
def tClo (P : Program) (w : World) (K : PySem.W.Frag) (mg : Str → Option Value) (base : Heap) (k : Nat) (i : Nat) (t : TA) : TE := fun σ H Q =>
  ∃ f Zs G, σ[i]? = some (some (.ref f)) ∧ CloS P w K mg base k Zs f G ∧ StAt Zs H ∧ t σ H fun vs H1 => StAt Zs H1 ∧ spR G vs H1 Q E0
section
variable {X : Cx} {i j k : Nat} {x : Str} {t : TA} {e : Expr} {es : List Expr} {p pos : Pos}
theorem pe_clo (hr : Room j X.A) (hk : k ≤ j) (hN : X.N[i]? = some x) (hv : Vis X.env.scope x) (ha : PA X (e :: es) t) (hd : (x == ("__debug__" : Str)) = false := by decide) (hcd : (x == ("__classdict__" : Str)) = false := by decide)
    (he : starEach (e :: es) X.env = (false, eval e X.env) :: starEach es X.env := by rfl) (hpl : (backTo pos (starEach es X.env)).any (·.1) = false := by rfl) :
    PE X (.Call (.Name x p) (e :: es) [] pos) (tClo X.prog X.w X.K X.mg X.base k i t) := by
  refine ⟨fun pins s σ H Q I h => ?_⟩
  obtain ⟨f, Zs, G, hs, hC, hS, ht⟩ := h
  refine wpAny_Call_Name_kw (thn ((pe_var (pos := p) hN hv hd hcd).run pins s σ H (fun v H1 => v = .ref f ∧ H1 = H) I ⟨.ref f, hs, rfl, rfl⟩) fun u s1 ⟨v, H1, I1, r1, q1⟩ => ?_)
  obtain ⟨ev, eH⟩ := q1
  subst ev
  rw [eH] at I1
  obtain rfl : u = Value.ref f := r1
  refine PySem.W.callWith_F (first := []) (hC.fn _ _ I1.hok hS) (thn (ha.run pos pins s1 σ H _ I1 ht) fun us s2 ⟨vs, H2, I2, r, h1, q⟩ => ⟨hC.fn _ _ I2.hok h1, ?_⟩) he hpl
  show wpAny _ _ (call (.ref f) us) _ _ _
  refine wpAny_call (codeAny_mono (hC.run X.A X.stack s2 H2 us vs Q (hr.mono hk) I2.env0 h1 r q) fun r s' hq => ?_)
  cases r with
  | error e => exact (show False from hq).elim
  | ok fl =>
    cases fl with
    | ret u => exact I2.after hq
    | next => exact False.elim hq
    | brk => exact False.elim hq
    | cont => exact False.elim hq
end
section
variable {δ : Dl} {μ : Mu} {tr : TA} {d : D}
theorem e_clo {P : Program} {w : World} {K : PySem.W.Frag} {mg : Str → Option Value} {base : Heap} {k i : Nat} {f : Addr} {Zs : List (Addr × HO)} {G : List D → D → Prop} {xs : List A} (ds : List D) (hi : δ[i]? = some (some (.own f))) (hC : CloS P w K mg base k Zs f G) (hm : ∀ p ∈ rawOf Zs, p ∈ μ) (h : EA δ μ tr xs) (hx : xs = ds.map .dat) (hG : G ds d) :
    E δ μ (tClo P w K mg base k i tr) (.dat d) := fun σ H s Q q => by
  obtain ⟨v, h1, h2⟩ := s.slot i _ hi
  rw [show v = .ref f from h2] at h1
  have at_ : ∀ {H1}, SM μ H1 → StAt Zs H1 := fun m p hp => m.own (p.1, C.raw p.2) (hm _ (List.mem_map.mpr ⟨p, hp, rfl⟩))
  refine ⟨f, Zs, G, h1, hC, at_ s.mem, h σ H s _ fun vs H1 f1 r1 => ⟨at_ (s.step f1).mem, ?_⟩⟩
  subst hx
  exact ⟨ds, d, (s.step f1).mem.tb, RpAL.dat.mp r1, hG, fun v H2 f2 r2 => q v H2 (f1.trans0 f2) r2⟩
end
end TK
set_option maxHeartbeats 2000000
namespace TK
open PySem L2 NdefX LamX
variable [TC]
structure LT (base : Heap) (mg : Str → Option Value) (c Pt : Addr) (q : Str) : Prop where
  TB : TabB base mg c Pt
  mem : (Pt, fun _ _ => q) ∈ TC.T
  uni : ∀ p ∈ TC.T, p.1 = Pt → p.2 = fun _ _ => q
abbrev lamO (q : Str) (params : Arguments) (body : Expr) (scope : Scope) (cl : List (Str × Addr)) (pm : Value) (c' : Addr) (ctv : Value) : Obj := PySem.W.kla_obj "<lambda>" q params body scope cl pm c' ctv
def LamF (q : Str) (params : Arguments) (body : Expr) (scope : Scope) (cl : List (Str × Addr)) (f : Addr) (H : Hp) : Prop :=
  ∃ (c' : Addr) (pm ctv : Value), H f = some (.frz (lamO q params body scope cl pm c' ctv) (.own 0)) ∧ H c' = some (CodeO c' q)
theorem LamF.fr {q : Str} {params : Arguments} {body : Expr} {scope : Scope} {cl : List (Str × Addr)} {f : Addr} {H H' : Hp} (l : LamF q params body scope cl f H) (k : Fr [] H H') : LamF q params body scope cl f H' := by
  obtain ⟨c', pm, ctv, h1, h2⟩ := l
  exact ⟨c', pm, ctv, k.keep _ _ h1 (by simp) (fun ps z => by cases z), k.keep _ _ h2 (by simp) codeO_ne⟩
def tLam (q : Str) (params : Arguments) (body : Expr) (scope : Scope) (cl : List (Str × Addr)) : TE := fun σ H Q => TabsN TC.T H ∧ ∀ f H1, Fr [] H H1 → H f = none → LamF q params body scope cl f H1 → Q (.ref f) H1
section
variable {X : Cx} {pins : List (Addr × Obj)} {σ : L2.St} {H : Hp} {s : Shared}
theorem lam_makeN {c Pt : Addr} {q : Str} {params : Arguments} {body : Expr} {scope : Scope} {pos : Pos} {E : Value → Shared → Prop} {Q : Value → Shared → Prop} (I : Inv X pins σ H s) (L : LT X.base X.mg c Pt q) (hcode : X.env.code = .ref c) (hq : X.env.qual ++ "<lambda>" = q)
    (hT : TabsN TC.T H) (hdef : defaultsOf params X.env = ([], [])) (hfree : ∀ y ∈ scope.names, y.2 = .free → ∃ c, X.env.cells.lookup y.1 = some c)
    (h : ∀ f H1 s', Inv X pins σ H1 s' → Fr [] H H1 → H f = none → LamF q params body scope (cloFrom X.env.cells scope.names []) f H1 → Q (.ref f) s') :
    wpAny (model X.prog X.w) X.A (eval (.Lambda params body scope pos) X.env) Q E s := by
  subst hq
  obtain ⟨ps, hP, ht, ha⟩ := (show TabN H Pt (fun _ _ => X.env.qual ++ "<lambda>") from hT _ L.mem)
  have bPt : s.heap.BuiltinsAt X.mg Pt := L.TB.bm.keeps I.bk
  have oP : s.heap.get? Pt = some { cls := .none, data := .fields ps } := I.hok Pt _ hP
  refine PySem.W.kla_eval hdef ?_
  have fin : ∀ (h' : Heap) (tk : Tok) (pm ctv : Value) (c' : Addr) (H1 : Hp), Inv X pins σ H1 { s with heap := h', toks := tk } → Fr [] H H1 → s.heap.objs.size ≤ h'.objs.size → H1 c' = some (CodeO c' (X.env.qual ++ "<lambda>")) →
      Q (.ref h'.objs.size) { s with heap := h'.push (lamO (X.env.qual ++ "<lambda>") params body scope (cloFrom X.env.cells scope.names []) pm c' ctv), toks := tk } := by
    intro h' tk pm ctv c' H1 I1 f1 hsz hc'
    have nF : H1 h'.objs.size = none := I1.hok.fresh (Nat.le_refl _)
    have gF : (h'.push (lamO (X.env.qual ++ "<lambda>") params body scope (cloFrom X.env.cells scope.names []) pm c' ctv)).get? h'.objs.size = some (lamO (X.env.qual ++ "<lambda>") params body scope (cloFrom X.env.cells scope.names []) pm c' ctv) := Heap.get?_push_size _ rfl
    have I2 := I1.laid (a := h'.objs.size) (o := .frz (lamO (X.env.qual ++ "<lambda>") params body scope (cloFrom X.env.cells scope.names []) pm c' ctv) (.own 0)) (t' := tk) (fun b u e => Heap.get?_push_of_some _ e) (Nat.le_refl _) ⟨gF, _, gF⟩
    have f2 := f1.trans0 (Fr.new (o := .frz (lamO (X.env.qual ++ "<lambda>") params body scope (cloFrom X.env.cells scope.names []) pm c' ctv) (.own 0)) nF fun ps z => by cases z)
    exact h _ _ _ I2 f2 (f1.free _ nF) ⟨c', pm, ctv, upd_same, (upd_ne (ne_of_none hc' nF)).trans hc'⟩
  cases hc : codeAmong pos ps.toList with
  | none =>
    refine PySem.W.kla_makeFunction (clos := cloFrom X.env.cells scope.names []) (mg := X.mg) (c := c) (P := Pt) (ps := ps) (closure_ok hfree) I.ok.glob (I.mod.glob.keeps I.bk) hcode (L.TB.code.keeps I.bk) oP ht hc L.TB.gP bPt fun c' ctv h' tk hx hge hlt hrec htb => ?_
    obtain ⟨c2, oc, vs, t, e2, hoc, hd, hv⟩ := hrec
    cases e2
    have nC : H c' = none := I.hok.fresh hge
    have I1 := inv_table (t' := tk) (more := #[rawInt pos.line, rawInt pos.col, .ref c']) (h' := h') I hP (fun b o hb e => hx b o hb e) htb hge ⟨oc, vs, t, hoc, hd, hv⟩
    refine fin h' tk _ ctv c' _ I1 ?_ (Nat.le_trans hge (Nat.le_of_lt hlt)) upd_same
    have kE : ∀ b o, H b = some o → (∀ ps, o ≠ .tbl ps) → L2.upd (L2.upd H Pt (.tbl (ps ++ #[rawInt pos.line, rawInt pos.col, .ref c']))) c' (CodeO c' (X.env.qual ++ "<lambda>")) b = some o := fun b o e n =>
      (upd_ne (ne_of_none e nC)).trans ((upd_ne fun z => by rw [z, hP] at e; exact n ps (Option.some.inj e).symm).trans e)
    refine ⟨fun b o e _ n => kE b o e n, fun b xs e => kE b _ e (fun ps z => by cases z), fun b e => upd_none (upd_none e), fun _ => fun p hp => ?_⟩
    have eL : (ps ++ #[rawInt pos.line, rawInt pos.col, .ref c']).toList = ps.toList ++ [rawInt pos.line, rawInt pos.col, .ref c'] := by simp
    by_cases hb : p.1 = Pt
    · rw [L.uni p hp hb, hb]
      refine ⟨_, (upd_ne (ne_of_none hP nC)).trans upd_same, by rw [eL]; exact PySem.TriplesOk_snoc _ _ _ _ ht, fun p' cv hcv => ?_⟩
      rw [eL] at hcv
      rcases among_app2 _ ht hcv with z | ⟨z, _, _⟩
      · obtain ⟨c0, e1, e2⟩ := ha p' cv z
        exact ⟨c0, e1, kE _ _ e2 codeO_ne⟩
      · exact ⟨c', z, upd_same⟩
    · obtain ⟨ps', a1, a2, a3⟩ := hT p hp
      refine ⟨ps', (upd_ne (ne_of_none a1 nC)).trans ((upd_ne hb).trans a1), a2, fun p' cv hcv => ?_⟩
      obtain ⟨c0, e1, e2⟩ := a3 p' cv hcv
      exact ⟨c0, e1, kE _ _ e2 codeO_ne⟩
  | some cv =>
    obtain ⟨c', e, hco⟩ := ha pos cv hc
    subst e
    refine PySem.W.kla_makeFunctionHit (clos := cloFrom X.env.cells scope.names []) (mg := X.mg) (c := c) (P := Pt) (ps := ps) (closure_ok hfree) I.ok.glob (I.mod.glob.keeps I.bk) hcode (L.TB.code.keeps I.bk) oP ht hc bPt fun ctv h' tk hx hsz => ?_
    exact fin h' tk _ ctv c' H (I.kept hx) (Fr.refl _ _) hsz hco
theorem pe_lam {c Pt : Addr} {q : Str} {params : Arguments} {body : Expr} {scope : Scope} {pos : Pos} (L : LT X.base X.mg c Pt q) (hcode : X.env.code = .ref c) (hq : X.env.qual ++ "<lambda>" = q) (hdef : defaultsOf params X.env = ([], []))
    (hfree : ∀ y ∈ scope.names, y.2 = .free → X.env.scope.names.lookup y.1 = some .cell ∨ X.env.scope.names.lookup y.1 = some .free) : PE X (.Lambda params body scope pos) (tLam q params body scope (cloFrom X.env.cells scope.names [])) :=
  ⟨fun pins s σ H Q I h => lam_makeN I L hcode hq h.1 hdef (fun y hy e => (hfree y hy e).elim (fun z => I.ok.has _ (.inl z)) fun z => I.ok.has _ (.inr z)) fun f H1 s' I1 f1 n1 l1 => ⟨.ref f, H1, I1, rfl, h.2 f H1 f1 n1 l1⟩⟩
end
structure FzC (cl : List (Str × Addr)) (fr : List Str) (ws : List (Option V)) (Z : List (Addr × Obj)) : Prop where
  len : ws.length = fr.length
  all : ∀ y c, cl.lookup y = some c → ∃ o ov, Z.lookup c = some o ∧ o.data = .cell ov
  inj : ∀ x y c, cl.lookup x = some c → cl.lookup y = some c → x = y
  has : ∀ (i : Nat) (y : Str), fr[i]? = some y → ∃ c o, cl.lookup y = some c ∧ Z.lookup c = some o ∧ ∀ v, ws[i]? = some (some v) → ∃ u, L2.RelV v u ∧ o.data = .cell (some u)
  nd : (Z.map (·.1)).Nodup
def ded : List Addr → List Addr
  | [] => []
  | a :: l => if a ∈ l then ded l else a :: ded l
theorem mem_ded {a : Addr} : ∀ {l : List Addr}, a ∈ ded l ↔ a ∈ l
  | [] => Iff.rfl
  | b :: l => by
    unfold ded
    by_cases h : b ∈ l
    · rw [if_pos h, mem_ded, List.mem_cons]
      exact ⟨.inr, fun z => z.elim (fun e => by rw [e]; exact h) id⟩
    · rw [if_neg h, List.mem_cons, List.mem_cons, mem_ded]
theorem nd_ded : ∀ {l : List Addr}, (ded l).Nodup
  | [] => List.nodup_nil
  | b :: l => by
    unfold ded
    by_cases h : b ∈ l
    · rw [if_pos h]
      exact nd_ded
    · rw [if_neg h]
      exact List.nodup_cons.mpr ⟨fun z => h (mem_ded.mp z), nd_ded⟩
def pick (g : Addr → Option Obj) (cs : List Addr) : List (Addr × Obj) := cs.filterMap fun c => (g c).map fun o => (c, o)
theorem pick_look {g : Addr → Option Obj} {c : Addr} {o : Obj} : ∀ {cs : List Addr}, (pick g cs).lookup c = some o ↔ c ∈ cs ∧ g c = some o
  | [] => ⟨fun h => (by cases h), fun h => (by cases h.1)⟩
  | a :: cs => by
    have ih := pick_look (g := g) (c := c) (o := o) (cs := cs)
    unfold pick at ih ⊢
    cases e : g a with
    | none =>
      rw [List.filterMap_cons_none (by rw [e]; rfl), ih, List.mem_cons]
      exact ⟨fun h => ⟨.inr h.1, h.2⟩, fun h => ⟨h.1.elim (fun z => by rw [z, e] at h; cases h.2) id, h.2⟩⟩
    | some u =>
      rw [List.filterMap_cons_some (b := (a, u)) (by rw [e]; rfl), List.lookup_cons]
      by_cases hc : c = a
      · subst hc
        simp [e]
      · rw [show (c == a) = false from beq_eq_false_iff_ne.mpr hc, List.mem_cons]
        show List.lookup c _ = some o ↔ _
        rw [ih]
        exact ⟨fun h => ⟨.inr h.1, h.2⟩, fun h => ⟨h.1.elim (fun z => absurd z hc) id, h.2⟩⟩
theorem pick_nd {g : Addr → Option Obj} : ∀ {cs : List Addr}, cs.Nodup → ((pick g cs).map (·.1)).Nodup
  | [], _ => List.nodup_nil
  | a :: cs, h => by
    have ih := pick_nd (g := g) (List.nodup_cons.mp h).2
    unfold pick at ih ⊢
    cases e : g a with
    | none => rw [List.filterMap_cons_none (by rw [e]; rfl)]; exact ih
    | some u =>
      rw [List.filterMap_cons_some (b := (a, u)) (by rw [e]; rfl), List.map_cons]
      refine List.nodup_cons.mpr ⟨fun z => ?_, ih⟩
      obtain ⟨p, hp, ep⟩ := List.mem_map.mp z
      obtain ⟨b, hb, eb⟩ := List.mem_filterMap.mp hp
      cases eg : g b with
      | none => rw [eg] at eb; cases eb
      | some v =>
        rw [eg] at eb
        cases eb
        have ep : b = a := ep
        exact (List.nodup_cons.mp h).1 (by rw [← ep]; exact hb)
def cellsL (cl : List (Str × Addr)) : List Addr := ded (cl.filterMap fun p => cl.lookup p.1)
theorem look_cells {cl : List (Str × Addr)} {y : Str} {c : Addr} (h : cl.lookup y = some c) : c ∈ cellsL cl := mem_ded.mpr (List.mem_filterMap.mpr ⟨(y, c), PySem.mem_of_lookup h, h⟩)
theorem cells_look {cl : List (Str × Addr)} {c : Addr} (h : c ∈ cellsL cl) : ∃ y, cl.lookup y = some c := by
  obtain ⟨p, _, e⟩ := List.mem_filterMap.mp (mem_ded.mp h)
  exact ⟨p.1, e⟩
theorem fzc_of {cl : List (Str × Addr)} {fr : List Str} {ws : List (Option V)} {h : Heap} {H : Hp} (C : CellsAt cl fr ws h H) : FzC cl fr ws (pick h.get? (cellsL cl)) := by
  refine ⟨C.len, fun y c e => ?_, C.inj, fun i y e => ?_, pick_nd nd_ded⟩
  · obtain ⟨_, v, o, h1, h2⟩ := C.all y c e
    exact ⟨o, v, pick_look.mpr ⟨look_cells e, h1⟩, h2⟩
  · obtain ⟨c, e1, hv⟩ := C.has i y e
    obtain ⟨_, v, o, h1, h2⟩ := C.all y c e1
    refine ⟨c, o, e1, pick_look.mpr ⟨look_cells e1, h1⟩, fun w hw => ?_⟩
    obtain ⟨u, r, o', h3, h4⟩ := hv w hw
    rw [h1] at h3
    cases h3
    exact ⟨u, r, h4⟩
theorem pick_at {h : Heap} {cs : List Addr} : ZAt (pick h.get? cs) h := fun b o e => (pick_look.mp e).2
def tCallF (cl : List (Str × Addr)) (fr : List Str) (js : List Nat) (sp : Sp) (ta : TA) : TE := fun σ H Q => ta σ H fun vs H1 =>
  ∀ Z, FzC cl fr (js.map (slotAt σ)) Z → ZFree Z H1 → sp vs (frzL Z H1) (fun v H3 => Q v (unfL Z H3)) E0
section
variable {X : Cx} {cl : List (Str × Addr)} {fr ps : List Str} {js : List Nat} {j k : Nat} {x : Str} {sp : Sp} {t : TA} {e : Expr} {es : List Expr} {p pos : Pos}
theorem pe_callF (D : Dn X.prog X.w X.K X.mg X.base x ps k sp) (hr : Room j X.A) (hk : k ≤ j) (hg : Gl X x) (cp : X.Ok → Caps X cl fr js) (hcl : ∀ y c, cl.lookup y = some c → X.fn y = true) (ha : PA X (e :: es) t) (hdb : (x == ("__debug__" : Str)) = false := by decide)
    (he : starEach (e :: es) X.env = (false, eval e X.env) :: starEach es X.env := by rfl) (hpl : (backTo pos (starEach es X.env)).any (·.1) = false := by rfl) : PE X (.Call (.Name x p) (e :: es) [] pos) (tCallF cl fr js sp t) := by
  obtain ⟨fd, F, hb, _⟩ := D.ex
  refine ⟨fun pins s σ H Q I h => ?_⟩
  refine wpAny_Call_Name_kw (ld_glob I hg D.mg ?_ hdb)
  refine PySem.W.callWith_K (h₀ := X.base) I.ok.mod.kin D.kp (thn (ha.run pos pins s σ H _ I h) fun us s1 ⟨vs, H1, I1, r, q⟩ => ⟨I1.kIn, ?_⟩) he hpl
  have C := cells_of I1 (cp I1.ok)
  have cpp := cp I1.ok
  have aZ : ZAt (pick s1.heap.get? (cellsL cl)) s1.heap := pick_at
  have inCl : ∀ {b o}, (pick s1.heap.get? (cellsL cl)).lookup b = some o → ∃ y, X.env.cells.lookup y = some b ∧ X.fn y = true := fun {b o} e => by
    obtain ⟨y, hy⟩ := cells_look (pick_look.mp e).1
    exact ⟨y, cpp.sub y b hy, hcl y b hy⟩
  have zF : ZFree (pick s1.heap.get? (cellsL cl)) H1 := fun b o e => by
    obtain ⟨y, hy, _⟩ := inCl e
    exact I1.freeC y b hy
  have notIn : ∀ b, (∀ y, X.env.cells.lookup y = some b → X.fn y = true → False) → (pick s1.heap.get? (cellsL cl)).lookup b = none := fun b hb => by
    cases q : (pick s1.heap.get? (cellsL cl)).lookup b with
    | none => rfl
    | some o =>
      obtain ⟨y, h1, h2⟩ := inCl q
      exact (hb y h1 h2).elim
  have e0 : Env0 X.prog X.w X.K X.mg X.base X.A X.stack s1 (frzL (pick s1.heap.get? (cellsL cl)) H1) := by
    have z := I1.env0
    refine ⟨z.frames, z.mod, fun b o e => ⟨(z.bs b o e).1, ?_⟩, z.bsz, z.funs, fun b hb' => ?_, hok_frz I1.hok zF aZ, z.bare⟩
    · rw [frz_out (notIn b fun y h1 h2 => ?_)]
      · exact (z.bs b o e).2
      · exact Nat.lt_irrefl _ (Nat.lt_of_lt_of_le (Heap.lt_size e) (Nat.le_trans I1.ok.bsz (I1.ok.cab y b h2 h1)))
    · rw [frz_out (notIn b fun y h1 h2 => ?_)]
      · exact z.frf b hb'
      · rcases List.mem_cons.mp (I1.stkSub b hb') with w | w
        · exact I1.cne y b h1 w
        · obtain ⟨_, o, ho, _⟩ := I1.ok.funs.mem w
          exact Nat.lt_irrefl _ (Nat.lt_of_lt_of_le (Heap.lt_size ho) (I1.ok.cab y b h2 h1))
  have q2 := q _ (fzc_of C) zF
  have hl : (us ++ []).length = ps.length := by
    rw [List.append_nil, ← r.length]
    exact F.len _ _ _ _ q2
  have hbt := hb s1 us I1.kIn hl
  rw [List.append_nil] at hbt
  refine wpAny_call (codeAny_mono (F.run X.A X.stack s1 _ ⟨us, []⟩ us vs _ E0 (hr.mono hk) e0 hbt r q2) fun rr s' hq => ?_)
  cases rr with
  | error e => exact (show False from hq).elim
  | ok fl =>
    cases fl with
    | ret u =>
      obtain ⟨v, H', os, bare, un, hok, rv, qq⟩ := hq
      have zz : ZFrz (pick s1.heap.get? (cellsL cl)) H' := fun b o e => un.frzs b o _ (frz_in e)
      exact I1.after ⟨v, _, os, bare, un_unf un zF aZ hok, hok_unf hok zz, rv, qq⟩
    | next => exact False.elim hq
    | brk => exact False.elim hq
    | cont => exact False.elim hq
end
end TK
set_option maxHeartbeats 2000000
namespace TK
open PySem L2 NdefX LamX
variable [TC]
def zsOf (f c' : Addr) (o : Obj) (q : Str) (Z : List (Addr × Obj)) : List (Addr × HO) := (f, .frz o (.own 0)) :: (c', CodeO c' q) :: Z.map fun p => (p.1, .frz p.2 (.own 0))
def dlL (N : List Str) (ds es : List D) : Dl := (ds.map fun d => some (A.dat d)) ++ ((es.map fun d => some (A.dat d)) ++ List.replicate (N.length - ds.length - es.length) none)
theorem look_memZ {Z : List (Addr × Obj)} {b : Addr} {o : Obj} (h : Z.lookup b = some o) : (b, o) ∈ Z := He.lookup_mem h
theorem mem_lookZ {b : Addr} {o : Obj} : ∀ {Z : List (Addr × Obj)}, (Z.map (·.1)).Nodup → (b, o) ∈ Z → Z.lookup b = some o
  | [], _, h => by cases h
  | (a, u) :: Z, nd, h => by
    rw [List.lookup_cons]
    rcases List.mem_cons.mp h with e | e
    · cases e
      simp
    · have hne : b ≠ a := fun z => (List.nodup_cons.mp nd).1 (List.mem_map.mpr ⟨(b, o), e, z⟩)
      rw [show (b == a) = false from beq_eq_false_iff_ne.mpr hne]
      exact mem_lookZ (List.nodup_cons.mp nd).2 e
theorem RpL.slot {H : Hp} {vs : List V} {ds : List D} (r : RpL H vs ds) : ∀ {i : Nat} {x : A}, (ds.map fun d => some (A.dat d))[i]? = some (some x) → ∃ v, (vs.map some)[i]? = some (some v) ∧ RpA H v x := fun {i x} e => by
  rw [List.getElem?_map] at e
  cases q : ds[i]? with
  | none => rw [q] at e; cases e
  | some d =>
    rw [q] at e
    cases e
    obtain ⟨v, h1, h2⟩ := r.get q
    exact ⟨v, by rw [List.getElem?_map, h1]; rfl, h2⟩
theorem sa_startF {N : List Str} {vs vc : List V} {ds es : List D} {H : Hp} (r : RpL H vs ds) (rc : RpL H vc es) (t : TabsN TC.T H) (hl : ds.length + es.length ≤ N.length) : SA (dlL N ds es) [] (startF N vs (vc.map some)) H := by
  have l1 := r.length
  have l2 := rc.length
  refine ⟨by unfold dlL startF; simp [l1, l2], fun i x e => ?_, sm_nil t⟩
  unfold dlL at e
  unfold startF
  by_cases h1 : i < ds.length
  · rw [List.getElem?_append_left (by simpa using h1)] at e
    obtain ⟨v, q1, q2⟩ := r.slot e
    exact ⟨v, by rw [List.getElem?_append_left (by simpa [l1] using h1)]; exact q1, q2⟩
  · rw [List.getElem?_append_right (by simpa using h1), List.length_map] at e
    rw [List.getElem?_append_right (by simpa [l1] using h1)]
    simp only [List.length_map, l1]
    by_cases h2 : i - ds.length < es.length
    · rw [List.getElem?_append_left (by simpa using h2)] at e
      obtain ⟨v, q1, q2⟩ := rc.slot e
      exact ⟨v, by rw [List.getElem?_append_left (by simpa [l2] using h2)]; exact q1, q2⟩
    · rw [List.getElem?_append_right (by simpa using h2), List.getElem?_replicate] at e
      split at e <;> cases e
theorem clo_of {P : Program} {w : World} {K : PySem.W.Frag} {mg : Str → Option Value} {base : Heap} {k : Nat} {q : Str} {params : Arguments} {body : Expr} {scope : Scope} {cl : List (Str × Addr)} {f c' : Addr} {pm ctv : Value} {N ps fr : List Str} {vc : List V} {es : List D} {Z : List (Addr × Obj)} {G : List D → D → Prop} {tb : TE}
    (S : NScope N ps fr scope) (hbind : ∀ (pm cv ctv : Value) (us : List Value), us.length = ps.length → bindArgs (PySem.W.kla_fn "<lambda>" q params body scope cl pm cv ctv) ⟨us, []⟩ = pure (ps.zip us)) (hz : FzC cl fr (vc.map some) Z)
    (hfZ : Z.lookup f = none) (hcZ : Z.lookup c' = none) (hfc : f ≠ c') (hvc : ∀ H, RpL H vc es) (hl : ∀ ds d, G ds d → ds.length = ps.length)
    (hbody : ∀ (A : Around) (outer : List Env) (s : Shared) (H : Hp) (E : XK), Room k (A.deeper (envF ⟨"<lambda>", q, params, [], scope, cl, c'⟩ f s.heap.objs.size)) → PE (ncx CX0 P w K mg base N ⟨"<lambda>", q, params, [], scope, cl, c'⟩ f A outer s H E) body tb)
    (hE : ∀ ds d, G ds d → E (dlL N ds es) [] tb (.dat d)) : CloS P w K mg base (k + 1) (zsOf f c' (lamO q params body scope cl pm c' ctv) q Z) f G := by
  have pl : ps.length + fr.length ≤ N.length := by
    have z := congrArg List.length S.pre
    rw [List.length_take, List.length_append] at z
    omega
  have le : es.length = fr.length := by rw [← (hvc (fun _ => none)).length, ← hz.len, List.length_map]
  have zIn : ∀ {H}, StAt (zsOf f c' (lamO q params body scope cl pm c' ctv) q Z) H → ZFrz Z H := fun {H} hS b o e => hS (b, .frz o (.own 0)) (List.mem_cons_of_mem _ (List.mem_cons_of_mem _ (List.mem_map.mpr ⟨(b, o), look_memZ e, rfl⟩)))
  have nm : ∀ {b}, Z.lookup b = none → ∀ p ∈ Z, p.1 ≠ b := fun {b} e p hp z => by
    rw [← z, mem_lookZ (o := p.2) hz.nd hp] at e
    cases e
  refine ⟨?_, fun p hp ps z => ?_, fun H h hok hS => ?_, fun A outer s H us vs Q hr e0 hS r ⟨ds, d, htb, rr, hG, qq⟩ => ?_⟩
  · unfold zsOf
    rw [List.map_cons, List.map_cons, List.map_map]
    refine List.nodup_cons.mpr ⟨fun z => ?_, List.nodup_cons.mpr ⟨fun z => ?_, hz.nd⟩⟩
    · rcases List.mem_cons.mp z with z | z
      · exact hfc z
      · obtain ⟨p, hp, e⟩ := List.mem_map.mp z
        exact nm hfZ p hp e
    · obtain ⟨p, hp, e⟩ := List.mem_map.mp z
      exact nm hcZ p hp e
  · unfold zsOf at hp
    rcases List.mem_cons.mp hp with e | hp
    · rw [e] at z; cases z
    · rcases List.mem_cons.mp hp with e | hp
      · rw [e] at z; exact codeO_ne ps z
      · obtain ⟨p', _, e⟩ := List.mem_map.mp hp
        rw [← e] at z
        cases z
  · have hf := hS (f, .frz (lamO q params body scope cl pm c' ctv) (.own 0)) (by unfold zsOf; simp)
    exact ⟨_, _, _, _, (hok f _ hf).1⟩
  · have hf := hS (f, .frz (lamO q params body scope cl pm c' ctv) (.own 0)) (by unfold zsOf; simp)
    have hc := hS (c', CodeO c' q) (by unfold zsOf; simp)
    have zF := zIn hS
    have hof : s.heap.get? f = some (lamO q params body scope cl pm c' ctv) := (e0.hok f _ hf).1
    have aZ : ZAt Z s.heap := zF.get e0.hok
    have lim : s.heap.NoLimit := e0.mod.nolimit.keeps fun b o e => (e0.bs b o e).1
    have unN : ∀ b, H b = none → unfL Z H b = none := fun b n => by rw [unf_out (zF.outN n)]; exact n
    have e0u : Env0 P w K mg base A outer s (unfL Z H) := ⟨e0.frames, e0.mod, fun b o e => ⟨(e0.bs b o e).1, unN b (e0.bs b o e).2⟩, e0.bsz, e0.funs, fun b hb => unN b (e0.frf b hb), hok_unf e0.hok zF, e0.bare⟩
    have C : CellsAt cl fr (vc.map some) s.heap (unfL Z H) := ⟨hz.len, fun y c e => by
        obtain ⟨o, ov, h1, h2⟩ := hz.all y c e
        exact ⟨unf_in h1, ov, o, aZ c o h1, h2⟩, hz.inj, fun i y e => by
        obtain ⟨c, o, h1, h2, h3⟩ := hz.has i y e
        refine ⟨c, h1, fun v hv => ?_⟩
        obtain ⟨u, ru, hd⟩ := h3 v hv
        exact ⟨u, ru, o, aZ c o h2, hd⟩⟩
    have hlen : vs.length = ps.length := by rw [rr.length]; exact hl ds d hG
    have m : codeAny (model P w) A (.call (.ref f) ⟨us, []⟩) (CR CX0 outer P w (unfL Z H) s (fun v H2 => Fr [] (unfL Z H) H2 ∧ Rp H2 v d) E0) s := by
      refine PySem.W.kla_callFunE hr.depth hof rfl S.co S.gen rfl (codeO_at e0.hok hc) ?_
      rw [hbind pm (.ref c') ctv us (by rw [← r.length]; exact hlen)]
      refine wpAny_pure (wpAny_newFunctionEnv S.nocell (fun ⟨n, _⟩ hy => S.par n (List.of_mem_zip hy).1) (fun h₁ hns hsb => ⟨lim.fresh _ hsb, ?_⟩) S.kind)
      show codeAny _ _ (.expr body (envF ⟨"<lambda>", q, params, [], scope, cl, c'⟩ f s.heap.objs.size)) _ _
      have kp : ∀ b o, s.heap.get? b = some o → h₁.get? b = some o := fun b o e => hsb.extBut b o (Nat.ne_of_lt (Heap.lt_size e)) (Heap.get?_push_of_some _ e)
      have I : Inv (ncx CX0 P w K mg base N ⟨"<lambda>", q, params, [], scope, cl, c'⟩ f A outer s (unfL Z H) E0) [] (startF N vs (vc.map some)) (unfL Z H) { s with heap := h₁, toks := s.toks + (ps.zip us).length } := inv_startN S hr.hd e0u hlen r C hns kp
      have sa : SA (dlL N ds es) [] (startF N vs (vc.map some)) (unfL Z H) := sa_startF (rpl_unf zF rr) (hvc _) (tabs_unf htb zF) (by rw [hl ds d hG, le]; exact pl)
      refine PySem.W.kla_codeExpr (wpAny_mono ((hbody A outer s (unfL Z H) E0 (hr.deeper _)).run [] _ _ (unfL Z H) (fun v H2 => Fr [] (unfL Z H) H2 ∧ Rp H2 v d) I (hE ds d hG _ _ sa _ fun v H2 f2 r2 => ⟨f2, r2⟩)) (fun v s' hq => ?_) fun e s' hq => hq)
      obtain ⟨w', H', J', rv, qx⟩ := hq
      exact ⟨w', H', J'.os, J'.bare, J'.base, J'.hok, rv, qx⟩
    refine codeAny_mono m fun rr s' hq => ?_
    cases rr with
    | error e => exact (show False from hq).elim
    | ok fl =>
      cases fl with
      | ret u =>
        obtain ⟨v, H2, os, bare, un, hok, rv, fr2, rp2⟩ := hq
        have z2 : ZFree Z H2 := fun b o e => un.free b o (aZ b o e) (unf_in e) (by simp)
        have nfr : ∀ b o, Z.lookup b = some o → b ∉ frs outer := fun b o e hb => by
          have z := e0.frf b hb
          rw [zF b o e] at z
          cases z
        have a2 : ZAt Z s'.heap := fun b o e => un.keep b o (aZ b o e) (unf_in e) (nfr b o e) (by simp)
        exact ⟨v, frzL Z H2, os, bare, un_frz un zF, hok_frz hok z2 a2, rv, qq v _ (fr_frz zF z2 fr2) (rp_frz z2 rp2)⟩
      | next => exact False.elim hq
      | brk => exact False.elim hq
      | cont => exact False.elim hq
def EAL (δ : Dl) (μ : Mu) (ta : TA) (ds : List D) (L : Addr → Hp → Prop) : Prop := ∀ σ H, SA δ μ σ H → ∀ Q : List V → Hp → Prop, (∀ vs f H2, Fr [] H H2 → RpL H2 vs ds → L f H2 → Q (vs ++ [.ref f]) H2) → ta σ H Q
section
variable {δ : Dl} {μ : Mu} {te : TE} {ta tr : TA} {ds : List D} {d : D} {L : Addr → Hp → Prop}
theorem eal_lam {q : Str} {params : Arguments} {body : Expr} {scope : Scope} {cl : List (Str × Addr)} : EAL δ μ (tCons (tLam q params body scope cl) tNil) [] (LamF q params body scope cl) := fun σ H s Q k =>
  ⟨s.mem.tb, fun f H1 f1 _ l => k [] f H1 f1 .nil l⟩
theorem eal_cons (h : E δ μ te (.dat d)) (hr : EAL δ μ tr ds L) : EAL δ μ (tCons te tr) (d :: ds) L := fun σ H s Q k =>
  h σ H s _ fun v H1 f1 r1 => hr σ H1 (s.step f1) _ fun vs f H2 f2 r2 l => k (v :: vs) f H2 (f1.trans0 f2) (.cons (Rp.mono f2.tup r1) r2) l
theorem slots_caps {σ : St} {H : Hp} (s : SA δ μ σ H) : ∀ {js : List Nat} {es : List D}, js.map (fun j => δ[j]?) = es.map (fun e => some (some (A.dat e))) → ∃ vc, js.map (slotAt σ) = vc.map some ∧ RpL H vc es
  | [], [], _ => ⟨[], rfl, .nil⟩
  | [], _ :: _, h => by cases h
  | _ :: _, [], h => by cases h
  | j :: js, e :: es, h => by
    rw [List.map_cons, List.map_cons] at h
    injection h with h1 h2
    obtain ⟨v, q1, q2⟩ := s.slot j _ h1
    obtain ⟨vc, q3, q4⟩ := slots_caps s h2
    exact ⟨v :: vc, by rw [List.map_cons, List.map_cons, slotAt_of q1, q3], .cons q2 q4⟩
theorem RpL.flat {H H' : Hp} : ∀ {vs : List V} {ds : List D}, RpL H vs ds → (∀ d ∈ ds, flatD d = true) → RpL H' vs ds
  | _, _, .nil, _ => .nil
  | _, _, .cons h r, f => .cons (h.flat (f _ (by simp))) (RpL.flat r fun d hd => f d (by simp [hd]))
theorem e_callL {P : Program} {w : World} {K : PySem.W.Frag} {mg : Str → Option Value} {base : Heap} {k : Nat} {q : Str} {params : Arguments} {body : Expr} {scope : Scope} {cl : List (Str × Addr)} {N ps fr : List Str} {js : List Nat} {es : List D} {Gf : List D → D → Prop} {G : List D → (List D → D → Prop) → D → Prop} {tb : TE}
    (hA : EAL δ μ ta ds (LamF q params body scope cl)) (S : NScope N ps fr scope) (hj : js.map (fun j => δ[j]?) = es.map (fun e => some (some (A.dat e)))) (hfl : ∀ e ∈ es, flatD e = true)
    (hbind : ∀ (pm cv ctv : Value) (us : List Value), us.length = ps.length → bindArgs (PySem.W.kla_fn "<lambda>" q params body scope cl pm cv ctv) ⟨us, []⟩ = pure (ps.zip us)) (hl : ∀ ds d, Gf ds d → ds.length = ps.length)
    (hbody : ∀ (f c' : Addr) (A : Around) (outer : List Env) (s : Shared) (H : Hp) (E : XK), Room k (A.deeper (envF ⟨"<lambda>", q, params, [], scope, cl, c'⟩ f s.heap.objs.size)) → PE (ncx CX0 P w K mg base N ⟨"<lambda>", q, params, [], scope, cl, c'⟩ f A outer s H E) body tb)
    (hE : ∀ ds d, Gf ds d → E (dlL N ds es) [] tb (.dat d)) (hG : G ds Gf d) : E δ μ (tCallF cl fr js (spL P w K mg base (k + 1) G) ta) (.dat d) := fun σ H s Q kq =>
  hA σ H s _ fun vs f H1 f1 r1 ⟨c', pm, ctv, lf, lc⟩ => fun Z hZ zF => by
    obtain ⟨vc, e1, e2⟩ := slots_caps s hj
    rw [e1] at hZ
    have hC := clo_of (P := P) (w := w) (K := K) (mg := mg) (base := base) (k := k) (pm := pm) (ctv := ctv) S hbind hZ (zF.out lf) (zF.out lc) (fun z => by rw [z, lc] at lf; exact codeO_nfrz _ (Option.some.inj lf)) (fun H' => e2.flat hfl) hl (hbody f c') hE
    refine ⟨vs, f, ds, Gf, d, _, rfl, tabs_frz (s.step f1).mem.tb zF, rpl_frz zF r1, hC, fun p hp => ?_, hG, fun v H' fr rp => ?_⟩
    · unfold zsOf at hp
      rcases List.mem_cons.mp hp with e | hp
      · rw [e]; exact (frz_out (zF.out lf)).trans lf
      · rcases List.mem_cons.mp hp with e | hp
        · rw [e]; exact (frz_out (zF.out lc)).trans lc
        · obtain ⟨p', hp', e⟩ := List.mem_map.mp hp
          rw [← e]
          exact frz_in (mem_lookZ hZ.nd hp')
    · have z3 : ZFrz Z H' := fun b o e => fr.keep b _ (frz_in e) (by simp) fun ps y => by cases y
      exact kq v _ (f1.trans0 (fr_unf zF fr)) (rp_unf z3 rp)
end
end TK
set_option maxHeartbeats 2000000
namespace TK
open PySem L2 NdefX LamX
variable [TC]
section
variable {P : Program} {w : World} {K : PySem.W.Frag} {mg : Str → Option Value} {base : Heap}
theorem Raw.dnRc {x : Str} {st : Stmt} {N ps : List Str} {k : Nat} {G : List D → D → Prop} (R : Raw K mg x st) (S : FnScope N ps (defScope st)) (hl : ∀ ds d, G ds d → ds.length = ps.length) (hN : ps.length ≤ N.length)
    (hbind : ∀ (kV doc pm : Value) (an : Option Addr) (cdv ct : Value) (us : List Value), us.length = ps.length → bindArgs (PySem.W.fnOf x x (defArgs st) (defBody st) (defScope st) .none kV doc pm an cdv ct) ⟨us, []⟩ = pure (ps.zip us))
    (hb : ∀ (A : Around) (outer : List Env) (s : Shared) (H : Hp) (E : XK), Room k (A.deeper (PyProof.Rows.envOfC x (defScope st) s.heap.objs.size (He.ga K x) (.ref (He.codeOf K (x, none))))) →
      ∃ t, PSs (cxOf CX0 P w K mg base N x (defScope st) (He.ga K x) (.ref (He.codeOf K (x, none))) A outer s H E).nox (defBody st) t ∧ ∀ ds d, G ds d → HT (dl0 N (ds.map .dat)) [] t { nx := fun _ _ => d = .non, rt := fun y _ => y = .dat d }) :
    Dn P w K mg base x ps (k + 1) (spR G) := by
  obtain ⟨fd, F⟩ := R.fn
  refine ⟨⟨fd, ?_, F.bindsN hbind, fdAt F⟩, R.mg, F.kp⟩
  obtain ⟨oc, od, dV, kV, doc, pm, an, cdv, ct, osl, e, lk, hcd, _, _⟩ := F.ex
  subst e
  obtain ⟨c, hc⟩ := He.codeIn_ref hcd
  have hcc : He.codeOf K (x, none) = c := He.codeOf_eq (p := (x, none)) lk hc
  subst hc
  rw [← hcc] at lk hcd ⊢
  refine fn_of lk hcd S (fun vs H Q E ⟨ds, d, _, r, hG, _⟩ => by rw [r.length]; exact hl ds d hG) fun A outer s H vs Q E hr ⟨ds, d, htb, r, hG, q⟩ => ?_
  obtain ⟨t, h1, h2⟩ := hb A outer s H E hr
  refine ⟨t, h1.nox, ?_⟩
  have s0 : SA (dl0 N (ds.map .dat)) [] (L2.start N vs) H := sa_start (RpAL.dat.mpr r) (sm_nil htb) (by rw [List.length_map, hl ds d hG]; exact hN)
  refine h2 ds d hG (L2.start N vs) H _ s0 ⟨fun δ' μ' σ' H' n s' f => ?_, fun y μ' v H' n m f ry => ?_, fun _ _ _ _ n _ _ => n.elim, fun _ _ _ _ n _ _ => n.elim⟩
  · have n : d = .non := n
    subst n
    exact q .non H' f.fr Rp.non
  · have n : y = .dat d := n
    subst n
    exact q v H' f.fr ry
theorem Raw.dnL {x : Str} {st : Stmt} {N ps : List Str} {k kc : Nat} {G : List D → (List D → D → Prop) → D → Prop} (R : Raw K mg x st) (S : FnScope N ps (defScope st)) (hl : ∀ ds Gf d, G ds Gf d → ds.length + 1 = ps.length) (hN : ps.length ≤ N.length)
    (hbind : ∀ (kV doc pm : Value) (an : Option Addr) (cdv ct : Value) (us : List Value), us.length = ps.length → bindArgs (PySem.W.fnOf x x (defArgs st) (defBody st) (defScope st) .none kV doc pm an cdv ct) ⟨us, []⟩ = pure (ps.zip us))
    (hb : ∀ (cdv : Value) (A : Around) (outer : List Env) (s : Shared) (H : Hp) (E : XK), Room k (A.deeper (PyProof.Rows.envOfC x (defScope st) s.heap.objs.size (He.ga K x) cdv)) →
      ∃ t, PSs (cxOf CX0 P w K mg base N x (defScope st) (He.ga K x) cdv A outer s H E).nox (defBody st) t ∧ ∀ ds Gf d Zs g, G ds Gf d → CloS P w K mg base kc Zs g Gf → HT (dl0 N (ds.map .dat ++ [.own g])) (rawOf Zs) t { nx := fun _ μ => d = .non ∧ μ = rawOf Zs, rt := fun y μ => y = .dat d ∧ μ = rawOf Zs }) :
    Dn P w K mg base x ps (k + 1) (spL P w K mg base kc G) := by
  obtain ⟨fd, F⟩ := R.fn
  exact ⟨⟨fd, FunD.okL F S hl hN hb, F.bindsN hbind, fdAt F⟩, R.mg, F.kp⟩
end
section
variable {δ δ' : Dl} {μ μ' : Mu} {te ta tb tc tl : TE} {tt tu : TT} {tr : TA} {x y z : A} {d e : D} {b c : Bool} {ts us : TS} {P : Po} {g : TG} {K : PySem.W.Frag} {wi : TI} {xs : List A}
theorem et_yes : ET δ μ tYes true := fun σ H s Q k => k H (Fr.refl _ _)
theorem en_lcY {vs : List Nat} (h : EI δ μ wi xs) (hz : xs.length < 100000) (k : A → A) (hb : ∀ d ∈ xs, ∃ δ2 js, Tg (wipeD δ vs) g d δ2 js ∧ (∀ j ∈ js, j ∈ vs) ∧ E δ2 μ te (k d)) :
    EN δ μ (tLc wi g tYes te vs) (.lst (xs.map k)) := en_is (en_lcI h hz (fun _ => true) k fun d hd => by
    obtain ⟨δ2, js, h1, h2, h3⟩ := hb d hd
    exact ⟨δ2, js, h1, h2, et_yes, fun _ => h3⟩) (by rw [List.filter_eq_self.mpr (fun _ _ => rfl)])
theorem e_allI {vs : List Nat} (h : EI δ μ wi xs) (hz : xs.length < 100000) (k : A → Bool) (hb : ∀ d ∈ xs, ∃ δ2 js, Tg (wipeD δ vs) g d δ2 js ∧ (∀ j ∈ js, j ∈ vs) ∧ E δ2 μ te (.dat (.bl (k d)))) :
    E δ μ (tCB (rAll K) (tCons (tLc wi g tYes te vs) tNil)) (.dat (.bl (xs.all k))) := by
  have q := en_lcY h hz (fun d => .dat (.bl (k d))) hb
  have e : xs.map (fun d => A.dat (.bl (k d))) = (xs.map k).map fun b => A.dat (.bl b) := by rw [List.map_map]; rfl
  rw [e] at q
  exact (e_allN (K := K) q).is (by simp)
end
def SubAt (δ : Dl) : Nat → Dl → Prop
  | _, [] => True
  | k, none :: r => SubAt δ (k + 1) r
  | k, some x :: r => δ[k]? = some (some x) ∧ SubAt δ (k + 1) r
theorem SubAt.at {δ : Dl} : ∀ {δ' : Dl} {k : Nat}, SubAt δ k δ' → ∀ (i : Nat) (x : A), δ'[i]? = some (some x) → δ[k + i]? = some (some x)
  | [], _, _, i, x, e => by simp at e
  | none :: r, k, h, 0, x, e => by simp at e
  | some y :: r, k, h, 0, x, e => by
    simp at e
    subst e
    exact h.1
  | none :: r, k, h, i + 1, x, e => by
    have := SubAt.at (δ' := r) h i x (by simpa using e)
    rw [← this]
    congr 1
    omega
  | some y :: r, k, h, i + 1, x, e => by
    have := SubAt.at (δ' := r) h.2 i x (by simpa using e)
    rw [← this]
    congr 1
    omega
theorem HT.to {δ δ' : Dl} {μ : Mu} {ts : TS} {P : Po} (h : HT δ' μ ts P) (hl : δ.length = δ'.length) (hs : SubAt δ 0 δ') : HT δ μ ts P := h.weak hl.symm fun i x e => by
  have := hs.at i x e
  rwa [Nat.zero_add] at this
def stAt (l : List Stmt) (i : Nat) : Stmt := l.getD i (.Pass ⟨0, 0, 0, 0⟩)
def asgV : Stmt → Expr
  | .Assign (value := v) .. => v
  | .Return (value := some v) .. => v
  | _ => .Constant .none 0 ⟨0, 0, 0, 0⟩
def ifB : Stmt → List Stmt
  | .If (body := b) .. => b
  | _ => []
def argAt : Expr → Nat → Expr
  | .Call (args := as) .., i => as.getD i (.Constant .none 0 ⟨0, 0, 0, 0⟩)
  | e, _ => e
def lamSc : Expr → Scope
  | .Lambda (scope := s) .. => s
  | _ => ⟨.function, [], false, false, []⟩
section
variable {X : Cx} {K : PySem.W.Frag}
theorem opK {op : Value → Value → Sem Value} {r : PySem.W.Frag → R2} (e : X.K = K) (h : OpR X op (r X.K)) : OpR X op (r K) := e ▸ h
theorem crK {f : Value} {r : PySem.W.Frag → List V → Hp → VK → Prop} (e : X.K = K) (h : CallR X f (r X.K)) : CallR X f (r K) := e ▸ h
theorem ixK {r : PySem.W.Frag → R2} (e : X.K = K) (h : IxR X (r X.K)) : IxR X (r K) := e ▸ h
theorem slK {r : PySem.W.Frag → V → Option Int → Option Int → Hp → VK → Prop} (e : X.K = K) (h : SlR X (r X.K)) : SlR X (r K) := e ▸ h
theorem pg_tupK {es : List Expr} {k : Nat} {t : TGs} {n : Nat} {pos : Pos} (e : X.K = K) (hc : X.calm = true) (h : PGs X es t) (hn : (assignEach es X.env).length = n := by rfl) (hst : (assignEach es X.env).findIdx? (·.1) = none := by rfl) : PG X (.Tuple es k pos) (gTup K n t) := e ▸ pg_tup hc h hn hst
theorem piK {tg l : Expr} {r : PySem.W.Frag → TI} (e : X.K = K) (h : PI X tg l (r X.K)) : PI X tg l (r K) := e ▸ h
end
end TK
set_option maxHeartbeats 2000000
namespace T
open PySem L2 NdefX LamX TK
variable [TC]
structure Mk where
  p : Int
  w : List Int
  deriving DecidableEq
structure Ed where
  a : Int
  s : Int
  b : Int
  w : List Int
  deriving DecidableEq
structure Tn where
  S : Int
  L : Int
  N : Int
  B : List Mk
  E : List Ed
  F : List Mk
def wD (w : List Int) : D := .tup (w.map .int)
def Mk.d (m : Mk) : D := .tup [.int m.p, wD m.w]
def Ed.d (e : Ed) : D := .tup [.int e.a, .int e.s, .int e.b, wD e.w]
def Tn.d (t : Tn) : D := .tup [.int t.S, .int t.L, .int t.N, .tup (t.B.map Mk.d), .tup (t.E.map Ed.d), .tup (t.F.map Mk.d)]
def okW (L : Int) (w : List Int) : Prop := w.length ≤ 1000 ∧ ∀ x ∈ w, 0 ≤ x ∧ x < L
def Mk.ok (N L : Int) (m : Mk) : Prop := 0 ≤ m.p ∧ m.p < N ∧ okW L m.w
def Ed.ok (S N L : Int) (e : Ed) : Prop := 0 ≤ e.a ∧ e.a < N ∧ 0 ≤ e.s ∧ e.s < S ∧ 0 ≤ e.b ∧ e.b < N ∧ okW L e.w
def ascB (ds : List D) : Bool := (ds.zip (ds.drop 1)).all fun p => D.lt p.1 p.2
structure Tn.Ok (t : Tn) : Prop where
  s : 1 ≤ t.S
  l : 1 ≤ t.L
  n : 1 ≤ t.N
  nb : t.N ≤ 60
  b : ∀ m ∈ t.B, m.ok t.N t.L
  e : ∀ m ∈ t.E, m.ok t.S t.N t.L
  f : ∀ m ∈ t.F, m.ok t.N t.L
  lb : t.B.length ≤ 1000
  le : t.E.length ≤ 1000
  lf : t.F.length ≤ 1000
  ab : ascB (t.B.map Mk.d) = true
  ae : ascB (t.E.map Ed.d) = true
  af : ascB (t.F.map Mk.d) = true
theorem like_w : ∀ w v : List Int, D.like (wD w) (wD v) = true := fun w v => by
  show PySem.W.alike (wD w).py (wD v).py = true
  unfold wD
  simp only [D.py, PySem.W.alike]
  induction w generalizing v with
  | nil => cases v <;> simp [D.pyL, PySem.W.alikeAll]
  | cons x w ih =>
    cases v with
    | nil => simp [D.pyL, PySem.W.alikeAll]
    | cons y v => simp [D.pyL, D.py, PySem.W.alikeAll, PySem.W.alike, ih]
theorem like_m (m n : Mk) : D.like m.d n.d = true := by
  have := like_w m.w n.w
  unfold D.like at this ⊢
  simp [Mk.d, D.py, D.pyL, PySem.W.alike, PySem.W.alikeAll, this]
theorem like_e (m n : Ed) : D.like m.d n.d = true := by
  have := like_w m.w n.w
  unfold D.like at this ⊢
  simp [Ed.d, D.py, D.pyL, PySem.W.alike, PySem.W.alikeAll, this]
theorem dep_w (w : List Int) : (wD w).py.depth ≤ 3 := by
  unfold wD
  simp only [D.py]
  induction w with
  | nil => simp [D.pyL, PyData.depth, PyData.depthAll]
  | cons x w ih =>
    simp only [List.map_cons, D.pyL, D.py, PyData.depth, PyData.depthAll] at ih ⊢
    omega
theorem dep_m (m : Mk) : m.d.py.depth ≤ 60 := by
  have := dep_w m.w
  simp only [Mk.d, D.py, D.pyL, PyData.depth, PyData.depthAll] at this ⊢
  omega
theorem dep_e (m : Ed) : m.d.py.depth ≤ 60 := by
  have := dep_w m.w
  simp only [Ed.d, D.py, D.pyL, PyData.depth, PyData.depthAll] at this ⊢
  omega
def G_is_ascending : List D → D → Prop := fun ds d => ∃ l, ds = [.tup l] ∧ l.length < 100000 ∧ DLike l ∧ (∀ x ∈ l, x ≠ .non ∧ x.py.depth ≤ 60) ∧ d = .bl (ascB l)
def G_check_number : List D → D → Prop := fun ds d => ∃ x, ds = [x] ∧ isFrom 0 x = true ∧ d = .non
def G_is_marked_place : List D → D → Prop := fun ds d => ∃ N L m, ds = [.int N, .int L, Mk.d m] ∧ m.ok N L ∧ d = .bl true
def G_is_edge : List D → D → Prop := fun ds d => ∃ S L N m, ds = [.int S, .int L, .int N, Ed.d m] ∧ m.ok S N L ∧ d = .bl true
def G_members_fault : List D → (List D → D → Prop) → D → Prop := fun ds Gf d => ∃ a l, ds = [a, .tup l] ∧ l.length < 100000 ∧ DLike l ∧ (∀ x ∈ l, x ≠ .non ∧ x.py.depth ≤ 60) ∧ (∀ x ∈ l, Gf [x] (.bl true)) ∧ ascB l = true ∧ d = .non
def G_turner_fault : List D → D → Prop := fun ds d => ∃ t : Tn, ds = [t.d] ∧ t.Ok ∧ d = .non
theorem row_ok {L : Int} {w : List Int} (h : okW L w) : isRow L (wD w) = true := by
  unfold isRow wD
  simp only [List.all_map, List.all_eq_true]
  intro x hx
  obtain ⟨h1, h2⟩ := h.2 x hx
  simp [isBelow, h1, h2]
section
variable {P : Program} {w : World} {K : PySem.W.Frag} {mg : Str → Option Value} {base : Heap}
abbrev N_is_ascending : List Str := ["members", "one", "later"]
abbrev P_is_ascending : List Str := ["members"]
theorem sc_is_ascending : FnScope N_is_ascending P_is_ascending (defScope s_is_ascending) := ⟨rfl, rfl, rfl, by decide +kernel, rfl, by decide +kernel, by decide +kernel⟩
theorem bd_is_ascending (kV doc pm : Value) (an : Option Addr) (cdv ct : Value) (us : List Value) (hl : us.length = (P_is_ascending : List Str).length) : bindArgs (PySem.W.fnOf "is_ascending" "is_ascending" (defArgs s_is_ascending) (defBody s_is_ascending) (defScope s_is_ascending) .none kV doc pm an cdv ct) ⟨us, []⟩ = pure ((P_is_ascending : List Str).zip us) := match us, hl with
  | [_], _ => rfl
theorem ok_is_ascending (T : Bl mg) (R : Raw K mg "is_ascending" s_is_ascending) : Dn P w K mg base "is_ascending" P_is_ascending 1 (spR G_is_ascending) := by
  refine R.dnR sc_is_ascending (fun ds d ⟨l, e, _⟩ => by rw [e]; rfl) (by decide) bd_is_ascending fun cdv A outer s H E hr => ⟨_, (pss_one (ps_ret (pe_callB (cr_all' rfl) (by rfl) T.all bb_all (pa_cons (pe_lc rfl sc_is_ascending.nd (RZ.pi_zipA rfl T.zip (pa_cons (pv 0) (pa_cons (pe_slice sl_any (pv 0) (po_some pe_int) po_none) pa_nil))) (blkOk_by (own := [("one", 1), ("later", 2)]) (N := N_is_ascending) (sc := defScope s_is_ascending) (by decide +kernel)) (fun _ _ _ _ _ => (pg_tupK (n := 2) (K := K) rfl rfl (pgs_cons (pg_name (i := 1) sc_is_ascending.nd rfl (Or.inl rfl)) (pgs_cons (pg_name (i := 2) sc_is_ascending.nd rfl (Or.inl rfl)) pgs_nil)))) (fun _ _ _ _ _ => pts_nil) (fun _ _ _ _ _ => (pe_cmpR (opK (K := K) rfl (op_ltA hr)) (pv 1) (pv 2) (nomark _)))) pa_nil)))), ?_⟩
  rintro ds d ⟨l, rfl, hl, hk, hn, rfl⟩
  refine ht_ret (x := .dat (.bl (ascB l))) ?_ rfl
  have hc : cutL l (some 1) none = l.drop 1 := by
    unfold cutL
    cases l with
    | nil => rfl
    | cons x l => simp [HT.sIx]
  refine (e_allI (ei_zipT (ds := l) (es := l.drop 1) (ea_cons (e_var rfl) (ea_cons ((e_slT (e_var rfl) (eo_some e_int) eo_none).is (by rw [hc])) ea_nil))).ei ?_ (fun a => match a with
    | .dat (.tup [x, y]) => D.lt x y
    | _ => false) fun a ha => ?_).is ?_
  · simp [zipD]; omega
  · obtain ⟨⟨x, y⟩, hp, rfl⟩ := List.mem_map.mp ha
    obtain ⟨h1, h2⟩ := List.of_mem_zip hp
    have h2 : y ∈ l := List.mem_of_mem_drop h2
    refine ⟨_, _, tg_tup (ds := [x, y]) (tgs_cons tg_name (tgs_cons tg_name tgs_nil)) rfl, by simp, e_ltD (e_var rfl) (e_var rfl) (hk x h1 y h2) (hn x h1).1 (hn x h1).2⟩
  · simp only [zipD, List.all_map]
    rfl
abbrev N_is_marked_place : List Str := ["places", "letters", "thing"]
abbrev P_is_marked_place : List Str := ["places", "letters", "thing"]
theorem sc_is_marked_place : FnScope N_is_marked_place P_is_marked_place (defScope s_is_marked_place) := ⟨rfl, rfl, rfl, by decide +kernel, rfl, by decide +kernel, by decide +kernel⟩
theorem bd_is_marked_place (kV doc pm : Value) (an : Option Addr) (cdv ct : Value) (us : List Value) (hl : us.length = (P_is_marked_place : List Str).length) : bindArgs (PySem.W.fnOf "is_marked_place" "is_marked_place" (defArgs s_is_marked_place) (defBody s_is_marked_place) (defScope s_is_marked_place) .none kV doc pm an cdv ct) ⟨us, []⟩ = pure ((P_is_marked_place : List Str).zip us) := match us, hl with
  | [_, _, _], _ => rfl
theorem ok_is_marked_place (T : Bl mg) (R : Raw K mg "is_marked_place" s_is_marked_place) (d_is_tuple : Dn P w K mg base "is_tuple" P_is_tuple 1 (spR G_is_tuple)) (d_is_below : Dn P w K mg base "is_below" P_is_below 3 (spR G_is_below)) (d_is_row : Dn P w K mg base "is_row" P_is_row 4 (spR G_is_row)) :
    Dn P w K mg base "is_marked_place" P_is_marked_place 5 (spR G_is_marked_place) := by
  refine R.dnR sc_is_marked_place (fun ds d ⟨N, L, m, e, _⟩ => by rw [e]; rfl) (by decide) bd_is_marked_place fun cdv A outer s H E hr => ⟨_, (pss_one (ps_ret (pe_and (pe_def d_is_tuple hr (by decide) (by rfl) (pa_cons pe_int (pa_cons (pv 2) pa_nil))) (pe_and (pe_def d_is_below hr (by decide) (by rfl) (pa_cons (pv 0) (pa_cons (pe_ix ix_any (pv 2) pe_int (fun _ _ => rfl)) pa_nil))) (pe_one (pe_def d_is_row hr (by decide) (by rfl) (pa_cons (pv 1) (pa_cons (pe_ix ix_any (pv 2) pe_int (fun _ _ => rfl)) pa_nil)))))))), ?_⟩
  rintro ds d ⟨N, L, m, rfl, ⟨h1, h2, h3⟩, rfl⟩
  refine ht_ret (x := .dat (.bl true)) ?_ rfl
  refine e_andV (b := true) (c := true) ((e_call [.int 2, Mk.d m] (ea_cons e_int (ea_cons (e_var rfl) ea_nil)) rfl ⟨some 2, _, rfl, rfl⟩).is rfl) fun _ => e_andV (b := true) (c := true) ((e_call [.int N, .int m.p] (ea_cons (e_var rfl) (ea_cons (e_ixT (e_var rfl) e_int rfl) ea_nil)) rfl ⟨N, .int m.p, rfl, rfl⟩).is ?_) fun _ =>
    (e_call [.int L, wD m.w] (ea_cons (e_var rfl) (ea_cons (e_ixT (e_var rfl) e_int rfl) ea_nil)) rfl ⟨L, wD m.w, rfl, ?_, rfl⟩).is (by rw [row_ok h3])
  · simp [isBelow, h1, h2]
  · intro l e
    cases e
    rw [List.length_map]
    have := h3.1
    omega
abbrev N_is_edge : List Str := ["signs", "letters", "places", "thing"]
abbrev P_is_edge : List Str := ["signs", "letters", "places", "thing"]
theorem sc_is_edge : FnScope N_is_edge P_is_edge (defScope s_is_edge) := ⟨rfl, rfl, rfl, by decide +kernel, rfl, by decide +kernel, by decide +kernel⟩
theorem bd_is_edge (kV doc pm : Value) (an : Option Addr) (cdv ct : Value) (us : List Value) (hl : us.length = (P_is_edge : List Str).length) : bindArgs (PySem.W.fnOf "is_edge" "is_edge" (defArgs s_is_edge) (defBody s_is_edge) (defScope s_is_edge) .none kV doc pm an cdv ct) ⟨us, []⟩ = pure ((P_is_edge : List Str).zip us) := match us, hl with
  | [_, _, _, _], _ => rfl
theorem ok_is_edge (T : Bl mg) (R : Raw K mg "is_edge" s_is_edge) (d_is_tuple : Dn P w K mg base "is_tuple" P_is_tuple 1 (spR G_is_tuple)) (d_is_below : Dn P w K mg base "is_below" P_is_below 3 (spR G_is_below)) (d_is_row : Dn P w K mg base "is_row" P_is_row 4 (spR G_is_row)) :
    Dn P w K mg base "is_edge" P_is_edge 5 (spR G_is_edge) := by
  refine R.dnR sc_is_edge (fun ds d ⟨S, N, L, m, e, _⟩ => by rw [e]; rfl) (by decide) bd_is_edge fun cdv A outer s H E hr => ⟨_, (pss_cons (ps_if (PW.pt (pw_or (pt_not (pt_val (pe_def d_is_tuple hr (by decide) (by rfl) (pa_cons pe_int (pa_cons (pv 3) pa_nil))))) (pw_or (pt_not (pt_val (pe_def d_is_below hr (by decide) (by rfl) (pa_cons (pv 2) (pa_cons (pe_ix ix_any (pv 3) pe_int (fun _ _ => rfl)) pa_nil))))) (pw_or1 (pt_not (pt_val (pe_def d_is_below hr (by decide) (by rfl) (pa_cons (pv 0) (pa_cons (pe_ix ix_any (pv 3) pe_int (fun _ _ => rfl)) pa_nil))))))))) (pss_one (ps_ret pe_bl)) pss_nil)
      (pss_one (ps_ret (pe_and (pe_def d_is_below hr (by decide) (by rfl) (pa_cons (pv 2) (pa_cons (pe_ix ix_any (pv 3) pe_int (fun _ _ => rfl)) pa_nil))) (pe_one (pe_def d_is_row hr (by decide) (by rfl) (pa_cons (pv 1) (pa_cons (pe_ix ix_any (pv 3) pe_int (fun _ _ => rfl)) pa_nil)))))))), ?_⟩
  rintro ds d ⟨S, L, N, m, rfl, ⟨h1, h2, h3, h4, h5, h6, h7⟩, rfl⟩
  refine ht_seq (ht_if (b := false) (et_or (b := false) (et_not (b := true) (et_test ((e_call [.int 4, Ed.d m] (ea_cons e_int (ea_cons (e_var rfl) ea_nil)) rfl ⟨some 4, _, rfl, rfl⟩).is rfl))) fun _ => et_or (b := false) (et_not (b := true) (et_test ((e_call [.int N, .int m.a] (ea_cons (e_var rfl) (ea_cons (e_ixT (e_var rfl) e_int rfl) ea_nil)) rfl ⟨N, .int m.a, rfl, rfl⟩).is ?_))) fun _ =>
    et_not (b := true) (et_test ((e_call [.int S, .int m.s] (ea_cons (e_var rfl) (ea_cons (e_ixT (e_var rfl) e_int rfl) ea_nil)) rfl ⟨S, .int m.s, rfl, rfl⟩).is ?_))) (fun h => by cases h) fun _ => ht_next ?_)
  · simp [isBelow, h1, h2]
  · simp [isBelow, h3, h4]
  refine ht_ret (x := .dat (.bl true)) ?_ rfl
  refine e_andV (b := true) (c := true) ((e_call [.int N, .int m.b] (ea_cons (e_var rfl) (ea_cons (e_ixT (e_var rfl) e_int rfl) ea_nil)) rfl ⟨N, .int m.b, rfl, rfl⟩).is ?_) fun _ =>
    (e_call [.int L, wD m.w] (ea_cons (e_var rfl) (ea_cons (e_ixT (e_var rfl) e_int rfl) ea_nil)) rfl ⟨L, wD m.w, rfl, ?_, rfl⟩).is (by rw [row_ok h7])
  · simp [isBelow, h5, h6]
  · intro l e
    cases e
    rw [List.length_map]
    have := h7.1
    omega
end
end T
set_option maxHeartbeats 2000000
namespace T
open PySem L2 NdefX LamX TK
variable [TC]
section
variable {P : Program} {w : World} {K : PySem.W.Frag} {mg : Str → Option Value} {base : Heap}
abbrev N_members_fault : List Str := ["at", "thing", "is_right", "index", "one"]
abbrev P_members_fault : List Str := ["at", "thing", "is_right"]
theorem sc_members_fault : FnScope N_members_fault P_members_fault (defScope s_members_fault) := ⟨rfl, rfl, rfl, by decide +kernel, rfl, by decide +kernel, by decide +kernel⟩
theorem bd_members_fault (kV doc pm : Value) (an : Option Addr) (cdv ct : Value) (us : List Value) (hl : us.length = (P_members_fault : List Str).length) : bindArgs (PySem.W.fnOf "members_fault" "members_fault" (defArgs s_members_fault) (defBody s_members_fault) (defScope s_members_fault) .none kV doc pm an cdv ct) ⟨us, []⟩ = pure ((P_members_fault : List Str).zip us) := match us, hl with
  | [_, _, _], _ => rfl
theorem ok_members_fault (T : Bl mg) (R : Raw K mg "members_fault" s_members_fault) (d_is_ascending : Dn P w K mg base "is_ascending" P_is_ascending 1 (spR G_is_ascending)) :
    Dn P w K mg base "members_fault" P_members_fault 7 (spL P w K mg base 6 G_members_fault) := by
  refine R.dnL sc_members_fault (fun ds Gf d ⟨a, l, e, _⟩ => by rw [e]; rfl) (by decide) bd_members_fault fun cdv A outer s H E hr => ⟨_, (pss_cons (ps_if (pt_not (pt_val (pe_callB cr_isi (by rfl) T.isinstance bb_isinstance (pa_cons (pv 1) (pa_cons (pe_bltn (v := .ty "tuple") (by rfl) T.tuple bb_tuple rfl) pa_nil))))) (pss_one (ps_ret (pe_tup (pa_cons (pv 0) pa_nil)))) pss_nil)
      (pss_cons (ps_for PassesOwn.never rfl (pi_enumA rfl T.enumerate (pa_cons (pv 1) pa_nil)) (pg_tup rfl (pgs_cons (pg_name (i := 3) sc_members_fault.nd rfl (Or.inl rfl)) (pgs_cons (pg_name (i := 4) sc_members_fault.nd rfl (Or.inl rfl)) pgs_nil)))
      (pss_one (ps_if (pt_not (pt_val (pe_clo (i := 2) (k := 6) hr (by decide) (by rfl) (Or.inl rfl) (pa_cons (pv 4) pa_nil)))) (pss_one (ps_ret (pe_tup (pa_cons (pv 0) (pa_cons (pv 3) pa_nil))))) pss_nil)))
      (pss_one (ps_ret (pe_ifExp (pt_val (pe_def d_is_ascending hr (by decide) (by rfl) (pa_cons (pv 1) pa_nil))) pe_non (pe_tup (pa_cons (pv 0) pa_nil))))))), ?_⟩
  rintro ds Gf d Zs g ⟨a, l, rfl, hl, hk, hn, hG, ha, rfl⟩ hC
  refine ht_seq (ht_if (b := false) ((et_not (et_test (e_isi (d := .tup l) (e_var rfl) (by simp)))).is rfl) (fun h => by cases h) fun _ => ht_next ?_)
  refine ht_cut (N := fun δ μ => μ = rawOf Zs ∧ δ.length = 5 ∧ δ[1]? = some (some (.dat (.tup l)))) ?_ ?_
  · refine ht_forI (ei_enumT (ds := l) (e_var rfl)) (fun i δ μ => μ = rawOf Zs ∧ δ.length = 5 ∧ δ[1]? = some (some (.dat (.tup l))) ∧ δ[2]? = some (some (.own g))) ⟨rfl, rfl, rfl, rfl⟩ ?_ ?_
    · rintro i x δ1 μ1 hx ⟨rfl, h5, h1, h2⟩
      have hi : i < l.length := by have := (List.getElem?_eq_some_iff.mp hx).1; simpa [TK.numbered] using this
      have ex : x = .dat (.tup [.int (i : Nat), l[i]]) := by
        unfold TK.numbered at hx
        rw [List.getElem?_map, List.getElem?_range hi] at hx
        have := Option.some.inj hx
        rw [← this]
        simp [List.getElem?_eq_getElem hi]
      subst ex
      refine ⟨_, _, tg_tup (ds := [.int (i : Nat), l[i]]) (tgs_cons tg_name (tgs_cons tg_name tgs_nil)) rfl, ?_⟩
      refine ht_if (b := false) ((et_not (et_test (e_clo [l[i]] ?_ hC (fun p hp => hp) (ea_cons (e_var (x := .dat l[i]) ?_) ea_nil) rfl (hG _ (List.getElem_mem hi))))).is rfl) (fun h => by cases h) fun _ => ht_next ⟨rfl, ?_, ?_, ?_⟩
      · rw [List.getElem?_set_ne (by decide), List.getElem?_set_ne (by decide)]; exact h2
      · rw [List.getElem?_set_self (by simp [h5])]
      · simp [h5]
      · rw [List.getElem?_set_ne (by decide), List.getElem?_set_ne (by decide)]; exact h1
      · rw [List.getElem?_set_ne (by decide), List.getElem?_set_ne (by decide)]; exact h2
    · rintro δ1 μ1 ⟨e, h5, h1, h2⟩
      exact ⟨e, h5, h1⟩
  · rintro δ1 μ1 ⟨rfl, h5, h1⟩
    refine ht_ret (x := .dat .non) ?_ ⟨rfl, rfl⟩
    exact e_if (b := true) (et_test ((e_call [.tup l] (ea_cons (e_var h1) ea_nil) rfl ⟨l, rfl, hl, hk, hn, rfl⟩).is (by rw [ha]))) (fun _ => e_non) fun h => by cases h
theorem marks_ok {N L : Int} {l : List Mk} {a : D} (h : l.length ≤ 1000) (hm : ∀ m ∈ l, m.ok N L) (ha : ascB (l.map Mk.d) = true) : G_members_fault [a, .tup (l.map Mk.d)] (fun ds d => ∃ m : Mk, ds = [m.d] ∧ m.ok N L ∧ d = .bl true) .non := by
  refine ⟨a, _, rfl, by rw [List.length_map]; omega, fun x hx y hy => ?_, fun x hx => ?_, fun x hx => ?_, ha, rfl⟩
  · obtain ⟨m, _, rfl⟩ := List.mem_map.mp hx
    obtain ⟨n, _, rfl⟩ := List.mem_map.mp hy
    exact like_m m n
  · obtain ⟨m, _, rfl⟩ := List.mem_map.mp hx
    exact ⟨by simp [Mk.d], dep_m m⟩
  · obtain ⟨m, h, rfl⟩ := List.mem_map.mp hx
    exact ⟨m, rfl, hm m h, rfl⟩
theorem edges_ok {S N L : Int} {l : List Ed} {a : D} (h : l.length ≤ 1000) (hm : ∀ m ∈ l, m.ok S N L) (ha : ascB (l.map Ed.d) = true) : G_members_fault [a, .tup (l.map Ed.d)] (fun ds d => ∃ m : Ed, ds = [m.d] ∧ m.ok S N L ∧ d = .bl true) .non := by
  refine ⟨a, _, rfl, by rw [List.length_map]; omega, fun x hx y hy => ?_, fun x hx => ?_, fun x hx => ?_, ha, rfl⟩
  · obtain ⟨m, _, rfl⟩ := List.mem_map.mp hx
    obtain ⟨n, _, rfl⟩ := List.mem_map.mp hy
    exact like_e m n
  · obtain ⟨m, _, rfl⟩ := List.mem_map.mp hx
    exact ⟨by simp [Ed.d], dep_e m⟩
  · obtain ⟨m, h, rfl⟩ := List.mem_map.mp hx
    exact ⟨m, rfl, hm m h, rfl⟩
abbrev N_turner_fault : List Str := ["value", "at", "signs", "letters", "places", "fault"]
abbrev P_turner_fault : List Str := ["value"]
theorem sc_turner_fault : FnScope N_turner_fault P_turner_fault (defScope s_turner_fault) := ⟨rfl, rfl, rfl, by decide +kernel, rfl, by decide +kernel, by decide +kernel⟩
theorem bd_turner_fault (kV doc pm : Value) (an : Option Addr) (cdv ct : Value) (us : List Value) (hl : us.length = (P_turner_fault : List Str).length) : bindArgs (PySem.W.fnOf "turner_fault" "turner_fault" (defArgs s_turner_fault) (defBody s_turner_fault) (defScope s_turner_fault) .none kV doc pm an cdv ct) ⟨us, []⟩ = pure ((P_turner_fault : List Str).zip us) := match us, hl with
  | [_], _ => rfl
def q_turner_fault : Str := "turner_fault" ++ ".<locals>." ++ "<lambda>"
theorem ok_turner_fault (T : Bl mg) (R : Raw K mg "turner_fault" s_turner_fault) (lt : LT base mg (He.codeOf K ("turner_fault", none)) (He.tabOf K (He.codeOf K ("turner_fault", none))) q_turner_fault)
    (d_is_tuple : Dn P w K mg base "is_tuple" P_is_tuple 1 (spR G_is_tuple)) (d_is_from : Dn P w K mg base "is_from" P_is_from 2 (spR G_is_from)) (d_is_marked_place : Dn P w K mg base "is_marked_place" P_is_marked_place 5 (spR G_is_marked_place))
    (d_is_edge : Dn P w K mg base "is_edge" P_is_edge 5 (spR G_is_edge)) (d_members_fault : Dn P w K mg base "members_fault" P_members_fault 7 (spL P w K mg base 6 G_members_fault)) :
    Dn P w K mg base "turner_fault" P_turner_fault 8 (spR G_turner_fault) := by
  refine R.dnRc sc_turner_fault (fun ds d ⟨t, e, _⟩ => by rw [e]; rfl) (by decide) bd_turner_fault fun A outer s H E hr => ⟨_, (pss_cons (ps_if (pt_not (pt_val (pe_def d_is_tuple hr (by decide) (by rfl) (pa_cons pe_int (pa_cons (pv 0) pa_nil))))) (pss_one (ps_ret (pe_tup pa_nil))) pss_nil)
      (pss_cons (ps_for PassesOwn.never rfl (pi_range1 rfl T.range (pa_cons pe_int pa_nil)) (pg_name (i := 1) sc_turner_fault.nd rfl (Or.inl rfl))
      (pss_one (ps_if (pt_not (pt_val (pe_def d_is_from hr (by decide) (by rfl) (pa_cons pe_int (pa_cons (pe_ix ix_any (pv 0) (pv 1) (fun _ _ => rfl)) pa_nil))))) (pss_one (ps_ret (pe_tup (pa_cons (pv 1) pa_nil)))) pss_nil)))
      (pss_cons (ps_asg (pe_slice sl_any (pv 0) po_none (po_some pe_int)) (pg_tup rfl (pgs_cons (pg_name (i := 2) sc_turner_fault.nd rfl (Or.inr rfl)) (pgs_cons (pg_name (i := 3) sc_turner_fault.nd rfl (Or.inr rfl)) (pgs_cons (pg_name (i := 4) sc_turner_fault.nd rfl (Or.inr rfl)) pgs_nil)))))
      (pss_cons (ps_set (i := 5) sc_turner_fault.nd rfl (Or.inl rfl) (pe_callF (fr := ["places", "letters"]) (js := [4, 3]) d_members_fault hr (by decide) (by rfl) (fun ok => Caps.made ok (ndef_free (sc := defScope s_turner_fault) (nsc := (lamSc (argAt (asgV (stAt (defBody s_turner_fault) 3)) 2))) (fr := ["places", "letters"]) (by decide +kernel)) (ndef_fr (sc := defScope s_turner_fault) (nsc := (lamSc (argAt (asgV (stAt (defBody s_turner_fault) 3)) 2))) (fr := ["places", "letters"]) (by decide +kernel)) rfl) (fun _ _ _ => rfl) (pa_cons pe_int (pa_cons (pe_ix ix_any (pv 0) pe_int (fun _ _ => rfl)) (pa_cons (pe_lam lt rfl rfl rfl (ndef_free (sc := defScope s_turner_fault) (nsc := (lamSc (argAt (asgV (stAt (defBody s_turner_fault) 3)) 2))) (fr := ["places", "letters"]) (by decide +kernel))) pa_nil)))))
      (pss_cons (ps_if (pt_cmpR op_isN0 (pv 5) pe_non (nomark _)) (pss_one (ps_set (i := 5) sc_turner_fault.nd rfl (Or.inl rfl) (pe_callF (fr := ["signs", "letters", "places"]) (js := [2, 3, 4]) d_members_fault hr (by decide) (by rfl) (fun ok => Caps.made ok (ndef_free (sc := defScope s_turner_fault) (nsc := (lamSc (argAt (asgV (stAt (ifB (stAt (defBody s_turner_fault) 4)) 0)) 2))) (fr := ["signs", "letters", "places"]) (by decide +kernel)) (ndef_fr (sc := defScope s_turner_fault) (nsc := (lamSc (argAt (asgV (stAt (ifB (stAt (defBody s_turner_fault) 4)) 0)) 2))) (fr := ["signs", "letters", "places"]) (by decide +kernel)) rfl) (fun _ _ _ => rfl) (pa_cons pe_int (pa_cons (pe_ix ix_any (pv 0) pe_int (fun _ _ => rfl)) (pa_cons (pe_lam lt rfl rfl rfl (ndef_free (sc := defScope s_turner_fault) (nsc := (lamSc (argAt (asgV (stAt (ifB (stAt (defBody s_turner_fault) 4)) 0)) 2))) (fr := ["signs", "letters", "places"]) (by decide +kernel))) pa_nil)))))) pss_nil)
      (pss_cons (ps_if (pt_cmpR op_isN0 (pv 5) pe_non (nomark _)) (pss_one (ps_set (i := 5) sc_turner_fault.nd rfl (Or.inl rfl) (pe_callF (fr := ["places", "letters"]) (js := [4, 3]) d_members_fault hr (by decide) (by rfl) (fun ok => Caps.made ok (ndef_free (sc := defScope s_turner_fault) (nsc := (lamSc (argAt (asgV (stAt (ifB (stAt (defBody s_turner_fault) 5)) 0)) 2))) (fr := ["places", "letters"]) (by decide +kernel)) (ndef_fr (sc := defScope s_turner_fault) (nsc := (lamSc (argAt (asgV (stAt (ifB (stAt (defBody s_turner_fault) 5)) 0)) 2))) (fr := ["places", "letters"]) (by decide +kernel)) rfl) (fun _ _ _ => rfl) (pa_cons pe_int (pa_cons (pe_ix ix_any (pv 0) pe_int (fun _ _ => rfl)) (pa_cons (pe_lam lt rfl rfl rfl (ndef_free (sc := defScope s_turner_fault) (nsc := (lamSc (argAt (asgV (stAt (ifB (stAt (defBody s_turner_fault) 5)) 0)) 2))) (fr := ["places", "letters"]) (by decide +kernel))) pa_nil)))))) pss_nil)
      (pss_one (ps_ret (pv 5))))))))), ?_⟩
  rintro ds d ⟨t, rfl, ok, rfl⟩
  refine ht_seq (ht_if (b := false) ((et_not (et_test (e_call [.int 6, t.d] (ea_cons e_int (ea_cons (e_var rfl) ea_nil)) rfl ⟨some 6, _, rfl, rfl⟩))).is rfl) (fun h => by cases h) fun _ => ht_next ?_)
  refine ht_cut (N := fun δ μ => μ = [] ∧ δ.length = 6 ∧ δ[0]? = some (some (.dat t.d))) ?_ ?_
  · refine ht_forR (n := 3) (ea_cons e_int ea_nil) (by decide) (by decide) (fun i δ μ => μ = [] ∧ δ.length = 6 ∧ δ[0]? = some (some (.dat t.d))) ⟨rfl, rfl, rfl⟩ ?_ fun δ1 μ1 h => h
    rintro i δ1 μ1 hi ⟨rfl, h6, h0⟩
    have key : ∃ v : Int, atI [D.int t.S, .int t.L, .int t.N, .tup (t.B.map Mk.d), .tup (t.E.map Ed.d), .tup (t.F.map Mk.d)] (i : Int) = some (.int v) ∧ 1 ≤ v := by
      match i, hi with
      | 0, _ => exact ⟨t.S, rfl, ok.s⟩
      | 1, _ => exact ⟨t.L, rfl, ok.l⟩
      | 2, _ => exact ⟨t.N, rfl, ok.n⟩
      | i + 3, hi => omega
    obtain ⟨v, hv, h1⟩ := key
    have h0' : (δ1.set 1 (some (.dat (.int (i : Int)))))[0]? = some (some (.dat t.d)) := by rw [List.getElem?_set_ne (by decide)]; exact h0
    refine ⟨_, _, tg_name, ?_⟩
    refine ht_if (b := false) ((et_not (et_test (e_call [.int 1, .int v] (ea_cons e_int (ea_cons (e_ixT (e_var h0') (e_var (x := .dat (.int (i : Int))) ?_) hv) ea_nil)) rfl ⟨1, .int v, rfl, rfl⟩))).is ?_) (fun h => by cases h) fun _ => ht_next ⟨rfl, by simp [h6], h0'⟩
    · rw [List.getElem?_set_self (by rw [h6]; decide)]
    · simp [isFrom, h1]
  · rintro δ1 μ1 ⟨rfl, h6, h0⟩
    refine HT.to (δ' := [some (.dat t.d), none, none, none, none, none]) ?_ h6 ⟨h0, trivial⟩
    refine ht_seq (ht_asg (x := .dat (.tup [.int t.S, .int t.L, .int t.N])) ((e_slT (lo := none) (hi := some 3) (e_var rfl) eo_none (eo_some e_int)).is rfl) (tg_tup (ds := [.int t.S, .int t.L, .int t.N]) (tgs_cons tg_name (tgs_cons tg_name (tgs_cons tg_name tgs_nil))) rfl) ?_)
    refine ht_seq (ht_set (x := .dat .non) (e_callL (ds := [.int 3, .tup (t.B.map Mk.d)]) (ps := ["one"]) (fr := ["places", "letters"]) (N := ["one", "places", "letters"]) (es := [.int t.N, .int t.L]) (Gf := fun ds d => ∃ m : Mk, ds = [m.d] ∧ m.ok t.N t.L ∧ d = .bl true)
      (eal_cons e_int (eal_cons (e_ixT (e_var rfl) e_int rfl) eal_lam)) (nscope_by (by decide +kernel)) rfl (by simp [flatD]) (fun pm cv ctv us hl => match us, hl with | [_], _ => rfl) (fun ds d ⟨m, e, _⟩ => by rw [e]; rfl)
      (fun f c' A outer s H E hr => (pe_def d_is_marked_place hr (by decide) (by rfl) (pa_cons (pv 1) (pa_cons (pv 2) (pa_cons (pv 0) pa_nil)))))
      (fun ds d ⟨m, e1, e2, e3⟩ => by
        subst e1 e3
        exact e_call [.int t.N, .int t.L, m.d] (ea_cons (e_var rfl) (ea_cons (e_var rfl) (ea_cons (e_var rfl) ea_nil))) rfl ⟨t.N, t.L, m, rfl, e2, rfl⟩)
      (marks_ok ok.lb ok.b ok.ab)) ?_)
    refine ht_seq (ht_if (b := true) ((et_test (e_isN (e_var rfl))).is rfl) (fun _ => ht_set (x := .dat .non) (e_callL (ds := [.int 4, .tup (t.E.map Ed.d)]) (ps := ["one"]) (fr := ["signs", "letters", "places"]) (N := ["one", "signs", "letters", "places"]) (es := [.int t.S, .int t.L, .int t.N]) (Gf := fun ds d => ∃ m : Ed, ds = [m.d] ∧ m.ok t.S t.N t.L ∧ d = .bl true)
      (eal_cons e_int (eal_cons (e_ixT (e_var rfl) e_int rfl) eal_lam)) (nscope_by (by decide +kernel)) rfl (by simp [flatD]) (fun pm cv ctv us hl => match us, hl with | [_], _ => rfl) (fun ds d ⟨m, e, _⟩ => by rw [e]; rfl)
      (fun f c' A outer s H E hr => (pe_def d_is_edge hr (by decide) (by rfl) (pa_cons (pv 1) (pa_cons (pv 2) (pa_cons (pv 3) (pa_cons (pv 0) pa_nil))))))
      (fun ds d ⟨m, e1, e2, e3⟩ => by
        subst e1 e3
        exact e_call [.int t.S, .int t.L, .int t.N, m.d] (ea_cons (e_var rfl) (ea_cons (e_var rfl) (ea_cons (e_var rfl) (ea_cons (e_var rfl) ea_nil)))) rfl ⟨t.S, t.L, t.N, m, rfl, e2, rfl⟩)
      (edges_ok ok.le ok.e ok.ae)) ?_) (fun h => by cases h))
    refine ht_seq (ht_if (b := true) ((et_test (e_isN (e_var rfl))).is rfl) (fun _ => ht_set (x := .dat .non) (e_callL (ds := [.int 5, .tup (t.F.map Mk.d)]) (ps := ["one"]) (fr := ["places", "letters"]) (N := ["one", "places", "letters"]) (es := [.int t.N, .int t.L]) (Gf := fun ds d => ∃ m : Mk, ds = [m.d] ∧ m.ok t.N t.L ∧ d = .bl true)
      (eal_cons e_int (eal_cons (e_ixT (e_var rfl) e_int rfl) eal_lam)) (nscope_by (by decide +kernel)) rfl (by simp [flatD]) (fun pm cv ctv us hl => match us, hl with | [_], _ => rfl) (fun ds d ⟨m, e, _⟩ => by rw [e]; rfl)
      (fun f c' A outer s H E hr => (pe_def d_is_marked_place hr (by decide) (by rfl) (pa_cons (pv 1) (pa_cons (pv 2) (pa_cons (pv 0) pa_nil)))))
      (fun ds d ⟨m, e1, e2, e3⟩ => by
        subst e1 e3
        exact e_call [.int t.N, .int t.L, m.d] (ea_cons (e_var rfl) (ea_cons (e_var rfl) (ea_cons (e_var rfl) ea_nil))) rfl ⟨t.N, t.L, m, rfl, e2, rfl⟩)
      (marks_ok ok.lf ok.f ok.af)) ?_) (fun h => by cases h))
    exact ht_ret (e_var rfl) rfl
abbrev N_check_turner : List Str := ["thing", "place"]
abbrev P_check_turner : List Str := ["thing"]
theorem sc_check_turner : FnScope N_check_turner P_check_turner (defScope s_check_turner) := ⟨rfl, rfl, rfl, by decide +kernel, rfl, by decide +kernel, by decide +kernel⟩
theorem bd_check_turner (kV doc pm : Value) (an : Option Addr) (cdv ct : Value) (us : List Value) (hl : us.length = (P_check_turner : List Str).length) : bindArgs (PySem.W.fnOf "check_turner" "check_turner" (defArgs s_check_turner) (defBody s_check_turner) (defScope s_check_turner) .none kV doc pm an cdv ct) ⟨us, []⟩ = pure ((P_check_turner : List Str).zip us) := match us, hl with
  | [_], _ => rfl
theorem ok_check_turner (T : Bl mg) (R : Raw K mg "check_turner" s_check_turner) (d_turner_fault : Dn P w K mg base "turner_fault" P_turner_fault 8 (spR G_turner_fault)) : Dn P w K mg base "check_turner" P_check_turner 9 (spR G_turner_fault) := by
  refine R.dnR sc_check_turner (fun ds d ⟨t, e, _⟩ => by rw [e]; rfl) (by decide) bd_check_turner fun cdv A outer s H E hr => ⟨_, (pss_cons (ps_set (i := 1) sc_check_turner.nd rfl (Or.inl rfl) (pe_def d_turner_fault hr (by decide) (by rfl) (pa_cons (pv 0) pa_nil)))
      (pss_one (ps_if (pt_cmpR op_notN0 (pv 1) pe_non (nomark _)) (pss_one ps_never) pss_nil))), ?_⟩
  rintro ds d ⟨t, rfl, ok, rfl⟩
  refine ht_seq (ht_set (x := .dat .non) (e_call [t.d] (ea_cons (e_var rfl) ea_nil) rfl ⟨t, rfl, ok, rfl⟩) ?_)
  exact ht_if (b := false) ((et_test (e_notN (e_var rfl))).is rfl) (fun h => by cases h) fun _ => ht_next rfl
end
end T
set_option maxHeartbeats 2000000
namespace TK
open PySem L2 NdefX LamX
variable [TC]
section
variable {δ δ' : Dl} {μ μ' : Mu} {te ta tb tc tl td ty tx to : TE} {tt tu : TT} {tr : TA} {x y z : A} {d e : D} {b c : Bool} {ts us : TS} {P : Po} {g : TG} {K : PySem.W.Frag} {wi : TI} {xs : List A} {a : Addr}
theorem SM.putL {H : Hp} (m : SM μ H) (n : Nat) (hm : μ[n]? = some (a, .lst xs)) {vs ws : List V} {ys : List A} (e1 : H a = some (.lst vs)) (r : RpAL H ws ys) : SM (μ.set n (a, .lst ys)) (upd H a (.lst ws)) ∧ FS μ H (μ.set n (a, .lst ys)) (upd H a (.lst ws)) := by
  have w : Fr (keys μ) H (upd H a (.lst ws)) := Fr.wr (mem_keys hm) e1 rfl
  exact ⟨m.put hm e1 rfl nt_lst ⟨_, upd_same, r.mono w.tup⟩, w, fun b hb => .inl (by rw [keys_set hm] at hb; exact hb)⟩
theorem tyL {H : Hp} {vs : List V} (h : H a = some (.lst vs)) : tyV K "list" (.ref a) H := .inl ⟨rfl, vs, SqL.of h⟩
theorem ex_app (n : Nat) (ho : E δ μ to (.own a)) (he : E δ μ te x) (hm : μ[n]? = some (a, .lst xs)) (hl : xs.length < 100000) : EX δ μ (tBM K "list" rAppend to (tCons te tNil)) (fun y μ' => y = .dat .non ∧ μ' = μ.set n (a, .lst (xs ++ [x]))) := fun σ H s Q k =>
  ho σ H s _ fun v H1 f1 r1 => by
    obtain ⟨ws, e1, _⟩ := (s.step f1).mem.lst hm
    rw [show v = V.ref a from r1]
    refine ⟨tyL e1, he σ H1 (s.step f1) _ fun u H2 f2 r2 => ?_⟩
    have f := f1.trans0 f2
    have s2 := s.step f
    obtain ⟨vs, e2, q2⟩ := s2.mem.lst hm
    obtain ⟨m3, f3⟩ := s2.mem.putL n hm e2 (q2.append (.cons r2 .nil))
    exact ⟨a, vs, u, rfl, rfl, e2, by rw [q2.length]; exact szt hl, k _ _ _ _ ⟨rfl, rfl⟩ m3 ((FS.of f).trans f3) Rp.non⟩
theorem ex_appX (n n' : Nat) {R : A → Mu → Prop} (ho : E δ μ to (.own a)) (hm : μ[n]? = some (a, .lst xs)) (he : EX δ μ te R) (hl : ∀ x μ1, R x μ1 → ∃ (ys : List A), μ1[n']? = some (a, C.lst ys) ∧ ys.length < 100000) : EX δ μ (tBM K "list" rAppend to (tCons te tNil)) (fun y μ' => y = .dat .non ∧ ∃ (x : A) (μ1 : Mu) (ys : List A), R x μ1 ∧ μ1[n']? = some (a, C.lst ys) ∧ μ' = μ1.set n' (a, C.lst (ys ++ [x]))) := fun σ H s Q k =>
  ho σ H s _ fun v H1 f1 r1 => by
    obtain ⟨ws, e1, _⟩ := (s.step f1).mem.lst hm
    rw [show v = V.ref a from r1]
    refine ⟨tyL e1, he σ H1 (s.step f1) _ fun x μ1 u H2 hR m2 f2 r2 => ?_⟩
    obtain ⟨ys, h1, h2⟩ := hl x μ1 hR
    obtain ⟨vs, e2, q2⟩ := m2.lst h1
    obtain ⟨m3, f3⟩ := m2.putL n' h1 e2 (q2.append (.cons r2 .nil))
    exact ⟨a, vs, u, rfl, rfl, e2, by rw [q2.length]; exact szt h2, k _ _ _ _ ⟨rfl, x, μ1, ys, hR, h1, rfl⟩ m3 (((FS.of f1).trans f2).trans f3) Rp.non⟩
theorem ex_pop (n : Nat) (ho : E δ μ to (.own a)) (hm : μ[n]? = some (a, .lst (xs ++ [x]))) : EX δ μ (tBM0 K "list" rPop to) (fun y μ' => y = x ∧ μ' = μ.set n (a, .lst xs)) := fun σ H s Q k =>
  ho σ H s _ fun v H1 f1 r1 => by
    obtain ⟨ws, e1, q1⟩ := (s.step f1).mem.lst hm
    rw [show v = V.ref a from r1]
    have hl : ws.length = xs.length + 1 := by rw [q1.length]; simp
    obtain ⟨u, h1, h2⟩ := q1.get (i := xs.length) (d := x) (by simp)
    obtain ⟨m3, f3⟩ := (s.step f1).mem.putL n hm e1 (ys := xs) (ws := ws.dropLast) (by
      have := q1.dropLast
      rw [List.dropLast_concat] at this
      exact this)
    exact ⟨tyL e1, a, ws, u, rfl, rfl, e1, by rw [hl]; exact h1, k _ _ _ _ ⟨rfl, rfl⟩ m3 ((FS.of f1).trans f3) (h2.mono f3.fr.tup)⟩
theorem ex_popAt (n n' : Nat) {R : A → Mu → Prop} (ho : E δ μ to (.own a)) (hm : μ[n]? = some (a, .lst xs)) (hi : EX δ μ te R) (hR : ∀ y μ1, R y μ1 → ∃ (j : Nat) (zs : List A) (z : A), y = .dat (.int (j : Int)) ∧ μ1[n']? = some (a, C.lst zs) ∧ zs[j]? = some z ∧ zs.length < 100000) :
    EX δ μ (tBM K "list" rPopAt to (tCons te tNil)) (fun y μ' => ∃ (j : Nat) (zs : List A) (μ1 : Mu), R (.dat (.int (j : Int))) μ1 ∧ μ1[n']? = some (a, C.lst zs) ∧ zs[j]? = some y ∧ μ' = μ1.set n' (a, C.lst (zs.eraseIdx j))) := fun σ H s Q k =>
  ho σ H s _ fun v H1 f1 r1 => by
    obtain ⟨ws, e1, _⟩ := (s.step f1).mem.lst hm
    rw [show v = V.ref a from r1]
    refine ⟨tyL e1, hi σ H1 (s.step f1) _ fun y μ1 u H2 hr m2 f2 r2 => ?_⟩
    obtain ⟨j, zs, z, rfl, h1, h2, h3⟩ := hR y μ1 hr
    obtain ⟨vs, e2, q2⟩ := m2.lst h1
    obtain ⟨w, h4, h5⟩ := q2.get h2
    have hj : j < zs.length := (List.getElem?_eq_some_iff.mp h2).1
    obtain ⟨m3, f3⟩ := m2.putL n' h1 e2 (q2.eraseIdx j)
    rw [rp_int r2]
    refine ⟨a, vs, j, j, w, rfl, rfl, e2, by omega, by omega, ?_, h4, k _ _ _ _ ⟨j, zs, μ1, hr, h1, h2, rfl⟩ m3 (((FS.of f1).trans f2).trans f3) (h5.mono f3.fr.tup)⟩
    rw [q2.length]
    simp [seqIndex?, hj]
    rw [if_neg (by omega)]
    exact ⟨⟨by omega, by omega⟩, by omega⟩
theorem ex_setdL (n : Nat) {kvs : List (Key × A)} {k : Key} (h : E δ μ td (.own a)) (hk : E δ μ ty (.dat d)) (hm : μ[n]? = some (a, .dk kvs)) (hd : keyD d = some k) (hl : kvs.length < 100000) :
    EX δ μ (tDSetd td ty (tLst tNil)) (fun y μ' => (valA kvs k = some y ∧ μ' = μ) ∨ ∃ p, valA kvs k = none ∧ y = .own p ∧ μ' = (p, .lst []) :: μ.set n (a, .dk (putA kvs k (.own p)))) := fun σ H s Q q =>
  h σ H s _ fun v H1 f1 r1 => by
    obtain ⟨ks1, e0, _⟩ := (s.step f1).mem.dk hm
    refine ⟨a, r1, .inl ⟨ks1, .inl e0⟩, hk σ H1 (s.step f1) _ fun w H2 f2 r2 => ?_⟩
    have f := f1.trans0 f2
    have s2 := s.step f
    refine ⟨Nat.zero_le _, fun p hp => ?_⟩
    have f3 : Fr [] H2 (upd H2 p (.lst [])) := Fr.new hp nt_lst
    obtain ⟨ks, e1, e2⟩ := s2.mem.dk hm
    have hpa : a ≠ p := ne_of_none e1 hp
    have e1' : upd H2 p (.lst []) a = some (.dK ks) := (upd_ne hpa).trans e1
    refine ⟨ks, k, e1', keyD_rp r2 hd, by rw [← Paired.length e2]; exact szt hl, fun u hu => ?_, fun hn => ?_⟩
    · cases qq : valA kvs k with
      | none => rw [(e2.val k).2 qq] at hu; cases hu
      | some y =>
        obtain ⟨v0, h1, h2⟩ := (e2.val k).1 y qq
        rw [hu] at h1
        cases h1
        exact q y μ _ _ (.inl ⟨qq, rfl⟩) (s2.mem.step f3) (FS.of (f.trans0 f3)) (h2.mono f3.tup)
    · have qq : valA kvs k = none := by
        cases qq : valA kvs k with
        | none => rfl
        | some y =>
          obtain ⟨v0, h1, _⟩ := (e2.val k).1 y qq
          rw [hn] at h1
          cases h1
      have m3 : SM μ (upd H2 p (.lst [])) := s2.mem.step f3
      obtain ⟨m4, f4⟩ := m3.putDk (k := k) n hm e1' (e2.mono f3.tup) (v := .ref p) (x := .own p) rfl
      have g4 : upd (upd H2 p (.lst [])) a (.dK (putK ks k (.ref p))) p = some (.lst []) := (upd_ne (fun z => hpa z.symm)).trans upd_same
      have hnk : p ∉ keys μ := fun z => by
        obtain ⟨q', hq', e'⟩ := List.mem_map.mp z
        exact (s2.mem.own q' hq').there (by rw [e']; exact hp)
      have fs : FS μ H2 ((p, .lst []) :: μ.set n (a, .dk (putA kvs k (.own p)))) (upd (upd H2 p (.lst [])) a (.dK (putK ks k (.ref p)))) := by
        refine ⟨(f3.nil (M := keys μ)).trans0 f4.fr, fun b hb => ?_⟩
        rcases List.mem_cons.mp hb with z | z
        · exact .inr (by rw [z]; exact hp)
        · rcases f4.new b z with y | y
          · exact .inl y
          · exact .inr (f3.free b y)
      refine q (.own p) _ _ _ (.inr ⟨p, qq, rfl, rfl⟩) ⟨List.nodup_cons.mpr ⟨fun z => hnk ?_, m4.nd⟩, fun p' hp' => ?_, fun p' hp' => ?_, m4.tb⟩ ((FS.of f).trans fs) rfl
      · have z : p ∈ keys (μ.set n (a, .dk (putA kvs k (.own p)))) := z
        rw [keys_set hm] at z
        exact z
      · rcases List.mem_cons.mp hp' with z | z
        · rw [z]
          exact ⟨[], g4, .nil⟩
        · exact m4.own p' z
      · rcases List.mem_cons.mp hp' with z | z
        · rw [z]
          intro ps y
          rw [show ((p, C.lst []) : Addr × C).1 = p from rfl, g4] at y
          cases y
        · exact m4.notbl p' z
theorem ex_getL (n : Nat) {kvs : List (Key × A)} {R : A → Mu → Prop} (h : E δ μ td (.own a)) (hm : μ[n]? = some (a, .dk kvs)) (hk : EX δ μ ty R) (hR : ∀ y μ1, R y μ1 → ∃ (d : D) (k : Key) (m : Nat) (kvs1 : List (Key × A)), y = .dat d ∧ keyD d = some k ∧ μ1[m]? = some (a, C.dk kvs1)) :
    EX δ μ (tDGet2 td ty (tLst tNil)) (fun y μ' => ∃ (y0 : A) (μ1 : Mu), R y0 μ1 ∧ ∀ (d : D) (k : Key) (m : Nat) (kvs1 : List (Key × A)), y0 = .dat d → keyD d = some k → μ1[m]? = some (a, C.dk kvs1) → (valA kvs1 k = some y ∧ μ' = μ1) ∨ ∃ p, valA kvs1 k = none ∧ y = .own p ∧ μ' = (p, C.lst []) :: μ1) := fun σ H s Q q =>
  h σ H s _ fun v H1 f1 r1 => by
    obtain ⟨ks1, e0, _⟩ := (s.step f1).mem.dk hm
    refine ⟨a, r1, .inl ⟨ks1, .inl e0⟩, hk σ H1 (s.step f1) _ fun y μ1 w H2 hr m2 f2 r2 => ?_⟩
    obtain ⟨d, k, m, kvs1, rfl, hd, hm1⟩ := hR y μ1 hr
    have same : ∀ (P0 : Key → List (Key × A) → Prop), P0 k kvs1 → ∀ (d' : D) (k' : Key) (m' : Nat) (kvs' : List (Key × A)), A.dat d = .dat d' → keyD d' = some k' → μ1[m']? = some (a, C.dk kvs') → P0 k' kvs' := fun P0 h0 d' k' m' kvs' ed ek em => by
      cases ed
      rw [hd] at ek
      cases ek
      have e := nodup_at m2.nd hm1 em rfl
      subst e
      rw [hm1] at em
      cases em
      exact h0
    refine ⟨Nat.zero_le _, fun p hp => ?_⟩
    have f3 : Fr [] H2 (upd H2 p (.lst [])) := Fr.new hp nt_lst
    have m3 := m2.step f3
    obtain ⟨ks, e1, e2⟩ := m3.dk hm1
    rw [keyD_rp r2 hd]
    refine ⟨valV ks k, DGet.k (k := k) e1, ?_⟩
    cases qq : valA kvs1 k with
    | some y =>
      obtain ⟨v0, h1, h2⟩ := (e2.val k).1 y qq
      rw [h1]
      exact q y μ1 _ _ ⟨_, μ1, hr, same (fun k kv => (valA kv k = some y ∧ μ1 = μ1) ∨ ∃ p0, valA kv k = none ∧ y = .own p0 ∧ μ1 = (p0, C.lst []) :: μ1) (.inl ⟨qq, rfl⟩)⟩ m3 (((FS.of f1).trans f2).trans (FS.of f3)) h2
    | none =>
      rw [(e2.val k).2 qq]
      refine q (.own p) _ _ _ ⟨_, μ1, hr, same (fun k kv => (valA kv k = some (.own p) ∧ (p, C.lst []) :: μ1 = μ1) ∨ ∃ p0, valA kv k = none ∧ A.own p = .own p0 ∧ (p, C.lst []) :: μ1 = (p0, C.lst []) :: μ1) (.inr ⟨p, qq, rfl, rfl⟩)⟩ (m2.add f3 hp ⟨[], upd_same, .nil⟩ fun ps z => by rw [upd_same] at z; cases z) (((FS.of f1).trans f2).trans ⟨f3.nil, fun b hb => ?_⟩) rfl
      exact (List.mem_cons.mp hb).elim (fun z => .inr (z ▸ hp)) .inl
def tVal (v : V) : TE := fun _ H Q => Q v H
theorem e_val : E δ μ (tVal (.ref a)) (.own a) := fun σ H s Q k => k _ H (Fr.refl _ _) rfl
theorem ht_forLX {R : A → Mu → Prop} (h : EX δ μ te R) (k : ∀ x μ', R x μ' → ∃ a, x = .own a ∧ HT δ μ' (tFor (iList K (tVal (.ref a))) g ts) P) : HT δ μ (tFor (iSeq K te) g ts) P := fun σ H D s go => .inr (h σ H s _ fun x μ' v H2 r m f rx => by
  obtain ⟨a, rfl, hh⟩ := k x μ' r
  rw [show v = V.ref a from rx]
  exact hh σ H2 D (s.withM f.fr.tup m) (go.step f))
theorem filt_app {ν ρ : Mu} (nd : (keys (ν ++ ρ)).Nodup) : (ν ++ ρ).filter (fun p => decide (p.1 ∉ keys ν)) = ρ := by
  unfold keys at nd
  rw [List.map_append] at nd
  obtain ⟨_, _, h3⟩ := List.nodup_append.mp nd
  rw [List.filter_append, List.filter_eq_nil_iff.mpr fun p hp z => (of_decide_eq_true z) (List.mem_map.mpr ⟨p, hp, rfl⟩), List.nil_append, List.filter_eq_self.mpr fun p hp => ?_]
  refine decide_eq_true fun z => ?_
  exact h3 p.1 z p.1 (List.mem_map.mpr ⟨p, hp, rfl⟩) rfl
theorem ex_callA {G : List A → Mu → (A → Mu → Prop) → Prop} {S : List A → Mu → Prop} {R : A → Mu → Prop} {ρ : Mu} (h : EXA δ μ tr S) (hS : ∀ xs μ1, S xs μ1 → ∃ ν R0, μ1 = ν ++ ρ ∧ G xs ν R0 ∧ ∀ x ν', R0 x ν' → R x ν') :
    EX δ μ (tCall (spM G) [] E0 tr) (fun x μ' => ∃ ν', R x ν' ∧ μ' = ν' ++ ρ) := fun σ H s Q k =>
  h σ H s _ fun xs μ1 vs H1 hs m1 f1 r1 => by
    obtain ⟨ν, R0, e, hG, hR⟩ := hS xs μ1 hs
    subst e
    rw [List.append_nil]
    refine ⟨xs, ν, R0, r1, m1.sub (List.sublist_append_left _ _), hG, fun x ν' v H2 h0 m2 f2 r2 => ?_⟩
    have hsub : ∀ a ∈ keys ν, a ∈ keys (ν ++ ρ) := fun a ha => by
      unfold keys
      rw [List.map_append]
      exact List.mem_append_left _ ha
    have m3 := m1.frame hsub f2 m2
    rw [filt_app m1.nd] at m3
    refine k x _ v H2 ⟨ν', hR x ν' h0, rfl⟩ m3 (f1.trans ⟨f2.fr.weak hsub, fun a ha => ?_⟩) r2
    unfold keys at ha
    rw [List.map_append] at ha
    rcases List.mem_append.mp ha with q | q
    · rcases f2.new a q with z | z
      · exact .inl (hsub a z)
      · exact .inr z
    · refine .inl ?_
      unfold keys
      rw [List.map_append]
      exact List.mem_append_right _ q
def EQ (δ : Dl) (μ : Mu) (te : TE) (ds : List D) : Prop := ∀ σ H, SA δ μ σ H → ∀ Q : VK, (∀ p vs H2, Fr [] H H2 → H2 p = some (.lst vs) → RpL H2 vs ds → Q (.ref p) H2) → te σ H Q
theorem eq_own {ds : List D} (n : Nat) (h : E δ μ te (.own a)) (hm : μ[n]? = some (a, .lst (ds.map .dat))) : EQ δ μ te ds := fun σ H s Q k => h σ H s _ fun v H1 f1 r1 => by
  obtain ⟨vs, e1, q1⟩ := (s.step f1).mem.lst hm
  rw [show v = V.ref a from r1]
  exact k a vs H1 f1 e1 (RpAL.dat.mp q1)
theorem eq_new {ds : List D} (h : EN δ μ te (.lst (ds.map .dat))) : EQ δ μ te ds := fun σ H s Q k => h σ H s _ fun p H1 f1 _ hc _ => by
  obtain ⟨vs, e1, q1⟩ := hc
  exact k p vs H1 f1 e1 (RpAL.dat.mp q1)
theorem eq_nil : EQ δ μ (tLst tNil) [] := eq_new (ds := []) (en_lst ea_nil (by simp))
theorem e_eqQ {ds es : List D} (ha : EQ δ μ ta ds) (hb : EQ δ μ tb es) (h1 : SeqAt.shaped (.list (D.pyL ds)) = true) (h2 : SeqAt.shaped (.list (D.pyL es)) = true) : E δ μ (tOp (rEqA K) ta tb) (.dat (.bl (PyData.eqv (.list (D.pyL ds)) (.list (D.pyL es))))) := fun σ H s Q k =>
  ha σ H s _ fun p vs H1 f1 e1 r1 => hb σ H1 (s.step f1) _ fun q ws H2 f2 e2 r2 =>
    .inr ⟨_, _, .lst (SqL.of (f2.keep _ _ e1 (by simp) nt_lst)) (dpl_of (r1.mono f2.tup)), .lst (SqL.of e2) (dpl_of r2), h1, h2, k _ H2 (f1.trans0 f2) (Rp.bl _)⟩
theorem e_neQ {ds es : List D} (ha : EQ δ μ ta ds) (hb : EQ δ μ tb es) (h1 : SeqAt.shaped (.list (D.pyL ds)) = true) (h2 : SeqAt.shaped (.list (D.pyL es)) = true) : E δ μ (tOp (rNeA K) ta tb) (.dat (.bl (!PyData.eqv (.list (D.pyL ds)) (.list (D.pyL es))))) := fun σ H s Q k =>
  ha σ H s _ fun p vs H1 f1 e1 r1 => hb σ H1 (s.step f1) _ fun q ws H2 f2 e2 r2 =>
    .inr ⟨_, _, .lst (SqL.of (f2.keep _ _ e1 (by simp) nt_lst)) (dpl_of (r1.mono f2.tup)), .lst (SqL.of e2) (dpl_of r2), h1, h2, k _ H2 (f1.trans0 f2) (Rp.bl _)⟩
theorem ints_max : ∀ {ns : List Int}, 0 < ns.length → ∃ m, m ∈ ns ∧ ∀ y ∈ ns, y ≤ m
  | [a], _ => ⟨a, by simp, by simp⟩
  | a :: b :: l, _ => by
    obtain ⟨m, h1, h2⟩ := ints_max (ns := b :: l) (by simp)
    by_cases h : a ≤ m
    · exact ⟨m, List.mem_cons_of_mem _ h1, fun y hy => (List.mem_cons.mp hy).elim (fun e => e ▸ h) (h2 y)⟩
    · exact ⟨a, by simp, fun y hy => (List.mem_cons.mp hy).elim (fun e => by omega) fun e => by have := h2 y e; omega⟩
theorem e_maxQ {ns : List Int} {m : Int} (h : EQ δ μ te (ns.map .int)) (hm : m ∈ ns) (hx : ∀ y ∈ ns, y ≤ m) : E δ μ (tCB (rMax K) (tCons te tNil)) (.dat (.int m)) := fun σ H s Q k =>
  h σ H s _ fun p vs H1 f1 e1 r1 => by
    have ev : vs = ns.map V.int := ints_of (by
      have := RpAL.dat.mpr r1
      rw [List.map_map] at this
      exact this)
    subst ev
    refine ⟨p, ns, rfl, SqL.of e1, List.length_pos_of_mem hm, fun m' h1 h2 => ?_⟩
    have e : m' = m := Int.le_antisymm (hx _ h1) (h2 _ hm)
    subst e
    exact k _ H1 f1 (Rp.int _)
end
end TK
set_option maxHeartbeats 2000000
namespace TK
open PySem L2 NdefX LamX
variable [TC]
def kI (l : List (Int × A)) : List (Key × A) := l.map fun p => (Sum.inl p.1, p.2)
def putI {α : Type} (l : List (Int × α)) (k : Int) (v : α) : List (Int × α) := if k ∈ l.map (·.1) then l.map (fun p => if p.1 = k then (p.1, v) else p) else l ++ [(k, v)]
theorem val_kI {k : Int} : ∀ {l : List (Int × A)}, valA (kI l) (.inl k) = l.lookup k
  | [] => rfl
  | (j, x) :: l => by
    have ih := val_kI (k := k) (l := l)
    unfold valA kI at ih ⊢
    rw [List.map_cons, List.find?_cons, List.lookup_cons]
    by_cases h : j = k
    · subst h
      simp
    · rw [show (k == j) = false from beq_eq_false_iff_ne.mpr fun z => h z.symm]
      have h2 : decide ((Sum.inl j : Key) = Sum.inl k) = false := decide_eq_false fun z => h (Sum.inl.inj z)
      simp only [h2]
      exact ih
theorem any_kI {k : Int} : ∀ {l : List (Int × A)}, ((kI l).any fun kv => decide (kv.1 = (Sum.inl k : Key))) = decide (k ∈ l.map (·.1))
  | [] => by simp [kI]
  | (j, x) :: l => by
    have ih := any_kI (k := k) (l := l)
    unfold kI at ih ⊢
    rw [List.map_cons, List.any_cons, ih, List.map_cons]
    by_cases h : j = k
    · subst h
      simp
    · have h2 : decide ((Sum.inl j : Key) = Sum.inl k) = false := decide_eq_false fun z => h (Sum.inl.inj z)
      simp only [h2, Bool.false_or, List.mem_cons]
      have : k ≠ j := fun z => h z.symm
      simp [this]
theorem put_kI {k : Int} {v : A} {l : List (Int × A)} : putA (kI l) (.inl k) v = kI (putI l k v) := by
  unfold putA putI
  rw [any_kI]
  by_cases h : k ∈ l.map (·.1)
  · rw [if_pos (decide_eq_true h), if_pos h]
    unfold kI
    rw [List.map_map, List.map_map]
    refine List.map_congr_left fun p _ => ?_
    by_cases e : p.1 = k
    · simp [e]
    · simp [e]
  · rw [if_neg (by simpa using h), if_neg h]
    unfold kI
    rw [List.map_append]
    rfl
theorem look_map {α β : Type} {f : α → β} {k : Int} : ∀ {l : List (Int × α)}, (l.map fun p => (p.1, f p.2)).lookup k = (l.lookup k).map f
  | [] => rfl
  | (j, x) :: l => by
    rw [List.map_cons, List.lookup_cons, List.lookup_cons]
    cases h : (k == j) with
    | true => rfl
    | false => exact look_map
theorem putI_map {α β : Type} {f : α → β} {k : Int} {v : α} {l : List (Int × α)} : putI (l.map fun p => (p.1, f p.2)) k (f v) = (putI l k v).map fun p => (p.1, f p.2) := by
  have ek : (l.map fun p => (p.1, f p.2)).map (·.1) = l.map (·.1) := by rw [List.map_map]; rfl
  unfold putI
  rw [ek]
  by_cases h : k ∈ l.map (·.1)
  · rw [if_pos h, if_pos h, List.map_map, List.map_map]
    refine List.map_congr_left fun p _ => ?_
    by_cases e : p.1 = k <;> simp [e]
  · rw [if_neg h, if_neg h, List.map_append]
    rfl
theorem look_none {α : Type} {k : Int} : ∀ {l : List (Int × α)}, l.lookup k = none ↔ k ∉ l.map (·.1)
  | [] => by simp
  | (j, x) :: l => by
    rw [List.lookup_cons, List.map_cons, List.mem_cons]
    by_cases h : k = j
    · subst h
      simp
    · rw [show (k == j) = false from beq_eq_false_iff_ne.mpr h]
      simp only [h, false_or]
      exact look_none
theorem look_some {α : Type} {k : Int} {l : List (Int × α)} : (l.lookup k).isSome = true ↔ k ∈ l.map (·.1) := by
  rw [← Decidable.not_iff_not, ← look_none]
  cases l.lookup k <;> simp
theorem putI_keys {α : Type} {k : Int} {v : α} {l : List (Int × α)} : (putI l k v).map (·.1) = if k ∈ l.map (·.1) then l.map (·.1) else l.map (·.1) ++ [k] := by
  unfold putI
  by_cases h : k ∈ l.map (·.1)
  · rw [if_pos h, if_pos h, List.map_map]
    refine List.map_congr_left fun p _ => ?_
    by_cases e : p.1 = k <;> simp [e]
  · rw [if_neg h, if_neg h, List.map_append]
    rfl
theorem putI_nd {α : Type} {k : Int} {v : α} {l : List (Int × α)} (h : (l.map (·.1)).Nodup) : ((putI l k v).map (·.1)).Nodup := by
  rw [putI_keys]
  split
  · exact h
  · rename_i h2
    exact List.nodup_append.mpr ⟨h, by simp, fun a ha b hb e => by
      rw [List.mem_singleton.mp hb] at e
      exact h2 (e ▸ ha)⟩
theorem look_app {α : Type} {k : Int} {m : List (Int × α)} : ∀ {l : List (Int × α)}, (l ++ m).lookup k = (l.lookup k).or (m.lookup k)
  | [] => by simp
  | (j, x) :: l => by
    rw [List.cons_append, List.lookup_cons, List.lookup_cons]
    cases h : (k == j) with
    | true => rfl
    | false => exact look_app
theorem putI_look {α : Type} {k j : Int} {v : α} {l : List (Int × α)} : (putI l k v).lookup j = if j = k then some v else l.lookup j := by
  unfold putI
  by_cases h : k ∈ l.map (·.1)
  · rw [if_pos h]
    induction l with
    | nil => simp at h
    | cons p l ih =>
      obtain ⟨i, x⟩ := p
      rw [List.map_cons, List.lookup_cons]
      simp only
      by_cases e : i = k
      · subst e
        simp only [if_true]
        by_cases e2 : j = i
        · subst e2; simp
        · rw [List.lookup_cons, show (j == i) = false from beq_eq_false_iff_ne.mpr e2]
          simp only [if_neg e2]
          by_cases h3 : i ∈ l.map (·.1)
          · rw [ih h3, if_neg e2]
          · have : l.map (fun p => if p.1 = i then (p.1, v) else p) = l := by
              conv => rhs; rw [← List.map_id l]
              refine List.map_congr_left fun p hp => if_neg fun z => h3 (List.mem_map.mpr ⟨p, hp, z⟩)
            rw [this]
      · simp only [if_neg e]
        rw [List.map_cons, List.mem_cons] at h
        have h3 : k ∈ l.map (·.1) := h.resolve_left fun z => e z.symm
        rw [List.lookup_cons]
        by_cases e2 : j = i
        · subst e2
          simp [e]
        · rw [show (j == i) = false from beq_eq_false_iff_ne.mpr e2]
          exact ih h3
  · rw [if_neg h, look_app]
    by_cases e2 : j = k
    · subst e2
      rw [look_none.mpr h, if_pos rfl]
      simp
    · rw [if_neg e2]
      simp [List.lookup_cons, show (j == k) = false from beq_eq_false_iff_ne.mpr e2]
theorem putI_len {α : Type} {k : Int} {v : α} {l : List (Int × α)} : (putI l k v).length ≤ l.length + 1 := by
  unfold putI
  split <;> simp
section
variable {δ δ' : Dl} {μ μ' : Mu} {te ta tb tc tl td ty tx tk tv to : TE} {tt tu : TT} {tr : TA} {x y z : A} {d e : D} {b c : Bool} {ts us : TS} {P : Po} {g : TG} {K : PySem.W.Frag} {wi : TI} {xs : List A} {a : Addr} {kvs : List (Key × A)}
theorem rpl_keys {H : Hp} : ∀ {ks : List (Key × V)}, RpL H (ks.map fun kv => kV kv.1) (ks.map fun kv => dKey kv.1)
  | [] => .nil
  | kv :: ks => .cons (rp_key kv.1) rpl_keys
def keysD (kvs : List (Key × A)) : List D := kvs.map fun kv => dKey kv.1
theorem keysD_eq {H : Hp} {ks : List (Key × V)} (h : KA H kvs ks) : keysD kvs = ks.map fun kv => dKey kv.1 := by
  have e := h.keys
  unfold keysD
  have : ∀ (l : List (Key × A)), l.map (fun kv => dKey kv.1) = (l.map (·.1)).map dKey := fun l => by rw [List.map_map]; rfl
  rw [this, e, List.map_map]
  rfl
theorem en_lstD (n : Nat) (h : E δ μ te (.own a)) (hm : μ[n]? = some (a, .dk kvs)) : EN δ μ (tCB (rLst K) (tCons te tNil)) (.lst ((keysD kvs).map .dat)) := fun σ H s Q k =>
  h σ H s _ fun v H1 f1 r1 => by
    obtain ⟨ks, e1, e2⟩ := (s.step f1).mem.dk hm
    rw [show v = V.ref a from r1]
    refine .inr ⟨a, ks, rfl, .inl e1, fun p hp => ?_⟩
    have f2 : Fr [] H1 (upd H1 p (.lst (ks.map fun kv => kV kv.1))) := Fr.new hp nt_lst
    refine k p _ (f1.trans0 f2) (f1.free _ hp) ⟨_, upd_same, ?_⟩ fun ps z => by rw [upd_same] at z; cases z
    rw [keysD_eq e2]
    exact RpAL.dat.mpr rpl_keys
theorem sorted_perm {xs ys : List Int} (p : xs.Perm ys) (h1 : xs.Pairwise (· ≤ ·)) (h2 : ys.Pairwise (· ≤ ·)) : xs = ys := by
  induction xs generalizing ys with
  | nil => exact (List.nil_perm.mp p).symm
  | cons x xs ih =>
    cases ys with
    | nil => exact absurd p.length_eq (by simp)
    | cons y ys =>
      have hx : ∀ z ∈ ys, y ≤ z := (List.pairwise_cons.mp h2).1
      have hy : ∀ z ∈ xs, x ≤ z := (List.pairwise_cons.mp h1).1
      have e : x = y := by
        have m1 : x ∈ y :: ys := p.subset (by simp)
        have m2 : y ∈ x :: xs := p.symm.subset (by simp)
        have l1 : y ≤ x := (List.mem_cons.mp m1).elim (fun z => by omega) (hx x)
        have l2 : x ≤ y := (List.mem_cons.mp m2).elim (fun z => by omega) (hy y)
        omega
      subst e
      rw [ih (List.Perm.cons_inv p) (List.pairwise_cons.mp h1).2 (List.pairwise_cons.mp h2).2]
def sortI (ks : List Int) : List Int := ks.mergeSort fun a b => decide (a ≤ b)
theorem sortI_perm (ks : List Int) : (sortI ks).Perm ks := List.mergeSort_perm _ _
theorem sortI_le (ks : List Int) : (sortI ks).Pairwise (· ≤ ·) := by
  have := List.pairwise_mergeSort (le := fun a b : Int => decide (a ≤ b)) (fun a b c h1 h2 => by simp at *; omega) (fun a b => by simp; omega) ks
  exact this.imp fun h => of_decide_eq_true h
theorem en_srtDI (n : Nat) {ks : List Int} (h : E δ μ te (.own a)) (hm : μ[n]? = some (a, .dk kvs)) (hk : kvs.map (·.1) = ks.map Sum.inl) (hl : ks.length < 64) : EN δ μ (tCB (rSrt K) (tCons te tNil)) (.lst ((sortI ks).map fun i => .dat (.int i))) := fun σ H s Q k =>
  h σ H s _ fun v H1 f1 r1 => by
    obtain ⟨ws, e1, e2⟩ := (s.step f1).mem.dk hm
    rw [show v = V.ref a from r1]
    refine .inr ⟨a, ws, ks, rfl, .inl e1, by rw [← e2.keys]; exact hk, hl, fun ys p h1 h2 hp => ?_⟩
    have ey : ys = sortI ks := sorted_perm (h1.trans (sortI_perm ks).symm) h2 (sortI_le ks)
    subst ey
    refine k p _ (f1.trans0 (Fr.new hp nt_lst)) (f1.free _ hp) ⟨_, upd_same, ?_⟩ fun ps z => by rw [upd_same] at z; cases z
    have : ∀ l : List Int, RpAL (upd H1 p (.lst ((sortI ks).map V.int))) (l.map V.int) (l.map fun i => A.dat (.int i)) := fun l => by
      induction l with
      | nil => exact .nil
      | cons i l ih => exact .cons (Rp.int i) ih
    exact this _
theorem en_lock (n : Nat) {c : C} (hm : μ[n]? = some (a, .dk kvs)) (h : ∀ od ks, ks.map (fun kv => dKey kv.1) = keysD kvs → EN δ (μ.set n (a, .raw (.frz od (.dK ks)))) te c) : EN δ μ (tLockE te) c := fun σ H s Q k => by
  obtain ⟨ks, e1, e2⟩ := s.mem.dk hm
  refine ⟨a, .dK ks, e1, trivial, fun od => ?_⟩
  have tk : TK.TK H (upd H a (.frz od (.dK ks))) := fun b xs e => (upd_ne fun z => by rw [z, e1] at e; cases e).trans e
  have m1 : SM (μ.set n (a, .raw (.frz od (.dK ks)))) (upd H a (.frz od (.dK ks))) := s.mem.put hm e1 rfl (fun ps z => by cases z) (show upd H a (.frz od (.dK ks)) a = _ from upd_same)
  refine h od ks (keysD_eq e2).symm σ _ (s.withM tk m1) _ fun p H2 f hn hc ht => ?_
  have ha2 : H2 a = some (.frz od (.dK ks)) := f.keep a _ upd_same (by simp) fun ps z => by cases z
  have hpa : p ≠ a := fun z => by rw [z, upd_same] at hn; cases hn
  have kt : TK.TK H2 (upd H2 a (.dK ks)) := fun b xs e => (upd_ne fun z => by rw [z, ha2] at e; cases e).trans e
  refine ⟨ha2, k p _ ⟨fun b o e _ nt => ?_, fun b xs e => kt b xs (f.tup b xs (tk b xs e)), fun b e => upd_none (f.free b (upd_none e)), fun t => ?_⟩ (upd_none hn) (hc.keep kt fun o e => (upd_ne hpa).trans e) fun ps z => ht ps ((upd_ne hpa).symm.trans z)⟩
  · by_cases hb : b = a
    · rw [hb] at e ⊢
      rw [e1] at e
      cases e
      exact upd_same
    · exact (upd_ne hb).trans (f.keep b o ((upd_ne hb).trans e) (by simp) nt)
  · have t1 : TabsN TC.T (upd H a (.frz od (.dK ks))) := tabs_upd t e1 (fun ps z => by cases z) fun φ z => by cases z
    exact tabs_upd (f.tabs t1) ha2 (fun ps z => by cases z) fun φ z => by cases z
theorem ei_keys {od : Obj} {ks : List (Key × V)} (n : Nat) (h : E δ μ td (.own a)) (hm : μ[n]? = some (a, .raw (.frz od (.dK ks)))) : EI δ μ (iKeys td) ((ks.map fun kv => dKey kv.1).map .dat) := fun σ H s R k => h σ H s _ fun v H1 f1 r1 => by
  have ht : H1 a = some (.frz od (.dK ks)) := (s.step f1).mem.own _ (List.mem_of_getElem? hm)
  refine ⟨a, od, r1, .inl ⟨ks, ht, k _ _ [a] f1 ⟨fun b hb => ⟨.frz od (.dK ks), by rw [List.mem_singleton.mp hb]; exact ht, fun ps z => by cases z⟩, fun H' tk hL => ?_⟩⟩⟩
  have ht' : H' a = some (.frz od (.dK ks)) := (hL a (by simp)).trans ht
  refine ⟨fun i x hx => ?_, ht', by simp⟩
  have hi : i < ks.length := by have := (List.getElem?_eq_some_iff.mp hx).1; simpa using this
  have ex : x = .dat (dKey ks[i].1) := by
    rw [List.getElem?_map, List.getElem?_map, List.getElem?_eq_getElem hi] at hx
    exact (Option.some.inj hx).symm
  subst ex
  refine ⟨⟨ht', hi⟩, fun v H2 ⟨e1, q, w, e2, e3⟩ => ?_⟩
  rw [List.getElem?_eq_getElem hi] at e2
  have e2 := Option.some.inj e2
  subst e1 e3
  exact ⟨Fr.refl _ _, by rw [e2]; exact rp_key q⟩
theorem ei_enumN {ds : List D} (h : EN δ μ tl (.lst (ds.map .dat))) : EI δ μ (iEnA K (tCons tl tNil)) (numbered ds) := fun σ H s R k => h σ H s _ fun a H1 f1 hn hc _ => by
  obtain ⟨vs, ht, hr⟩ := hc
  have hr := RpAL.dat.mp hr
  refine ⟨a, vs, rfl, .inr ⟨SqL.of ht, k _ _ [a] f1 ⟨fun b hb => ⟨.lst vs, by rw [List.mem_singleton.mp hb]; exact ht, nt_lst⟩, fun H' tk hL => ?_⟩⟩⟩
  have ht' : H' a = some (.lst vs) := (hL a (by simp)).trans ht
  refine ⟨fun i x hx => ?_, ⟨vs, SqL.of ht', by simp [TK.numbered, hr.length]⟩⟩
  have hi : i < ds.length := by have := (List.getElem?_eq_some_iff.mp hx).1; simpa [TK.numbered] using this
  obtain ⟨u, h1, h2⟩ := hr.get (List.getElem?_eq_getElem hi)
  refine ⟨⟨vs, u, SqL.of ht', h1⟩, fun v H2 ⟨T, y, e1, e2, e3, e4⟩ => ?_⟩
  have q := e4 vs (SqL.of ht')
  rw [h1] at q
  cases q
  have ex : x = .dat (.tup [.int (i : Nat), ds[i]]) := by
    unfold TK.numbered at hx
    rw [List.getElem?_map, List.getElem?_range hi] at hx
    have := Option.some.inj hx
    rw [← this]
    simp [List.getElem?_eq_getElem hi]
  subst e1 e3 ex
  exact Rp.pair e2 (Rp.int _) (h2.mono tk)
end
def rMaxDf (K : PySem.W.Frag) : List V → List V → Hp → VK → Prop := fun vs zs H Q => ∃ (p : Addr) (ns : List Int) (d : V), vs = [.ref p] ∧ zs = [d] ∧ SqL K H p (ns.map V.int) ∧ (ns = [] → Q d H) ∧ ∀ m, m ∈ ns → (∀ y ∈ ns, y ≤ m) → Q (.int m) H
end TK
set_option maxHeartbeats 2000000
namespace TK
open PySem L2 NdefX LamX
variable [TC]
theorem HT.fgt {δ : Dl} {μ : Mu} {ts : TS} {P : Po} (h : HT δ μ ts { P with nx := fun δ' μ' => ∃ μ'', P.nx δ' μ'' ∧ List.Sublist μ'' μ' }) : HT δ μ ts P := fun σ H D s go =>
  h σ H D s ⟨fun δ' μ' σ' H' ⟨μ'', n, sb⟩ s' f => go.nx δ' μ'' σ' H' n (s'.withM (fun _ _ e => e) (s'.mem.sub sb)) ⟨f.fr, fun a ha => f.new a ((sb.map _).subset ha)⟩, go.rt, go.bk, go.ct⟩
theorem ht_retS {δ : Dl} {μ : Mu} {te : TE} {P : Po} {R : A → Mu → Prop} (h : EX δ μ te R) (k : ∀ x μ', R x μ' → ∃ μ'', P.rt x μ'' ∧ List.Sublist μ'' μ') : HT δ μ (tRet te) P := fun σ H D s go => h σ H s _ fun x μ' v H2 r m f rx => by
  obtain ⟨μ'', h1, h2⟩ := k x μ' r
  exact go.rt x μ'' v H2 h1 (m.sub h2) ⟨f.fr, fun a ha => f.new a ((h2.map _).subset ha)⟩ rx
theorem ht_ret1 {δ : Dl} {μ : Mu} {te : TE} {P : Po} {x : A} (h : E δ μ te x) (k : P.rt x []) : HT δ μ (tRet te) P := ht_retS h.ex fun y μ' ⟨e, _⟩ => ⟨[], by rw [e]; exact k, List.nil_sublist _⟩
theorem nodup_len : ∀ {l U : List Int}, l.Nodup → (∀ x ∈ l, x ∈ U) → l.length ≤ U.length
  | [], _, _, _ => Nat.zero_le _
  | a :: l, U, nd, h => by
    have ha : a ∈ U := h a (by simp)
    have := nodup_len (l := l) (U := U.erase a) (List.nodup_cons.mp nd).2 fun x hx => by
      have hne : x ≠ a := fun z => (List.nodup_cons.mp nd).1 (z ▸ hx)
      exact (List.mem_erase_of_ne hne).mpr (h x (by simp [hx]))
    rw [List.length_erase_of_mem ha] at this
    have := List.length_pos_of_mem ha
    simp only [List.length_cons]
    omega
def fk (fs : List Int) : List (Key × A) := kI (fs.map fun k => (k, A.dat (.bl true)))
def insF (fs : List Int) (k : Int) : List Int := if k ∈ fs then fs else fs ++ [k]
theorem fk_keys (fs : List Int) : (fs.map fun k => (k, A.dat (.bl true))).map (·.1) = fs := by
  rw [List.map_map]
  exact List.map_id fs
theorem fk_put {fs : List Int} {k : Int} : putA (fk fs) (.inl k) (.dat (.bl true)) = fk (insF fs k) := by
  unfold fk
  rw [put_kI]
  congr 1
  unfold putI insF
  rw [fk_keys]
  by_cases h : k ∈ fs
  · rw [if_pos h, if_pos h, List.map_map]
    refine List.map_congr_left fun p _ => ?_
    by_cases e : p = k <;> simp [e]
  · rw [if_neg h, if_neg h, List.map_append]
    rfl
theorem fk_val {fs : List Int} {k : Int} : valA (fk fs) (.inl k) = if k ∈ fs then some (.dat (.bl true)) else none := by
  unfold fk
  rw [val_kI]
  by_cases h : k ∈ fs
  · rw [if_pos h]
    induction fs with
    | nil => simp at h
    | cons j fs ih =>
      rw [List.map_cons, List.lookup_cons]
      by_cases e : k = j
      · subst e; simp
      · rw [show (k == j) = false from beq_eq_false_iff_ne.mpr e]
        exact ih ((List.mem_cons.mp h).resolve_left e)
  · rw [if_neg h, look_none, fk_keys]
    exact h
theorem fk_mem {fs : List Int} {k : Int} : (valA (fk fs) (.inl k)).isSome = decide (k ∈ fs) := by
  rw [fk_val]
  by_cases h : k ∈ fs <;> simp [h]
theorem insF_mem {fs : List Int} {k j : Int} : j ∈ insF fs k ↔ j ∈ fs ∨ j = k := by
  unfold insF
  split
  · rename_i h
    exact ⟨.inl, fun z => z.elim id fun e => e ▸ h⟩
  · simp
theorem insF_nd {fs : List Int} {k : Int} (h : fs.Nodup) : (insF fs k).Nodup := by
  unfold insF
  split
  · exact h
  · rename_i h2
    exact List.nodup_append.mpr ⟨h, by simp, fun a ha b hb e => by
      rw [List.mem_singleton.mp hb] at e
      exact h2 (e ▸ ha)⟩
theorem fk_len {fs : List Int} : (fk fs).length = fs.length := by simp [fk, kI]
theorem keysD_fk {fs : List Int} : keysD (fk fs) = fs.map D.int := by
  unfold keysD fk kI
  rw [List.map_map, List.map_map]
  rfl
theorem keys_fk {fs : List Int} : (fk fs).map (·.1) = fs.map Sum.inl := by
  unfold fk kI
  rw [List.map_map, List.map_map]
  rfl
def insAll (ps : List Int) : List Int := ps.foldl insF []
theorem insAll_mem {ps : List Int} {j : Int} : j ∈ insAll ps ↔ j ∈ ps := by
  unfold insAll
  have : ∀ (ps fs : List Int), j ∈ ps.foldl insF fs ↔ j ∈ fs ∨ j ∈ ps := fun ps => by
    induction ps with
    | nil => simp
    | cons p ps ih => intro fs; rw [List.foldl_cons, ih, insF_mem, List.mem_cons, or_assoc]
  rw [this]
  simp
theorem insAll_nd {ps : List Int} : (insAll ps).Nodup := by
  unfold insAll
  have : ∀ (ps fs : List Int), fs.Nodup → (ps.foldl insF fs).Nodup := fun ps => by
    induction ps with
    | nil => exact fun _ h => h
    | cons p ps ih => intro fs h; exact ih _ (insF_nd h)
  exact this ps [] List.nodup_nil
def intA : A → Int
  | .dat (.int i) => i
  | _ => 0
theorem fold_fk {ps fs : List Int} : ((ps.map fun i => A.dat (.int i)).foldl (fun acc x => putA acc (Sum.inl (intA x)) (.dat (.bl true))) (fk fs)) = fk (ps.foldl insF fs) := by
  induction ps generalizing fs with
  | nil => rfl
  | cons p ps ih =>
    rw [List.map_cons, List.foldl_cons, List.foldl_cons]
    show List.foldl _ (putA (fk fs) (.inl p) _) _ = _
    rw [fk_put, ih]
def grp (ar : List (Int × Int)) (k : Int) : List Int := (ar.filter fun p => decide (p.1 = k)).map (·.2)
theorem grp_mem {ar : List (Int × Int)} {k w : Int} : w ∈ grp ar k ↔ (k, w) ∈ ar := by
  unfold grp
  simp only [List.mem_map, List.mem_filter, decide_eq_true_eq]
  exact ⟨fun ⟨⟨a, b⟩, ⟨h1, h2⟩, h3⟩ => by
    simp only at h2 h3
    subst h2 h3
    exact h1, fun h => ⟨(k, w), ⟨h, rfl⟩, rfl⟩⟩
theorem grp_snoc {ar : List (Int × Int)} {k x y : Int} : grp (ar ++ [(x, y)]) k = if x = k then grp ar k ++ [y] else grp ar k := by
  unfold grp
  rw [List.filter_append, List.map_append]
  by_cases h : x = k <;> simp [h]
def rowsOf (es : List (Int × Addr)) (ar : List (Int × Int)) : Mu := es.map fun e => (e.2, C.lst ((grp ar e.1).map fun i => .dat (.int i)))
theorem rows_len {es : List (Int × Addr)} {ar : List (Int × Int)} : (rowsOf es ar).length = es.length := by simp [rowsOf]
theorem rows_at {es : List (Int × Addr)} {ar : List (Int × Int)} {j : Nat} {e : Int × Addr} (h : es[j]? = some e) : (rowsOf es ar)[j]? = some (e.2, C.lst ((grp ar e.1).map fun i => .dat (.int i))) := by
  unfold rowsOf
  rw [List.getElem?_map, h]
  rfl
theorem rows_set {es : List (Int × Addr)} {ar : List (Int × Int)} {j : Nat} {x y : Int} {r : Addr} (nd : (es.map (·.1)).Nodup) (h : es[j]? = some (x, r)) :
    (rowsOf es ar).set j (r, C.lst (((grp ar x).map fun i => .dat (.int i)) ++ [.dat (.int y)])) = rowsOf es (ar ++ [(x, y)]) := by
  apply List.ext_getElem?
  intro i
  by_cases hij : j = i
  · subst hij
    have hl : j < (rowsOf es ar).length := by rw [rows_len]; exact (List.getElem?_eq_some_iff.mp h).1
    rw [List.getElem?_set_self hl, rows_at h]
    simp only
    rw [grp_snoc, if_pos rfl, List.map_append]
    rfl
  · rw [List.getElem?_set_ne hij]
    cases q : es[i]? with
    | none =>
      have hl : es.length ≤ i := List.getElem?_eq_none_iff.mp q
      rw [List.getElem?_eq_none (by rw [rows_len]; exact hl), List.getElem?_eq_none (by rw [rows_len]; exact hl)]
    | some e =>
      rw [rows_at q, rows_at q]
      have hne : x ≠ e.1 := fun z => by
        have e1 : (es.map (·.1))[j]? = some x := by rw [List.getElem?_map, h]; rfl
        have e2 : (es.map (·.1))[i]? = some x := by rw [List.getElem?_map, q, z]; rfl
        obtain ⟨l1, g1⟩ := List.getElem?_eq_some_iff.mp e1
        obtain ⟨l2, g2⟩ := List.getElem?_eq_some_iff.mp e2
        exact hij ((List.getElem_inj nd).mp (by rw [g1, g2]))
      rw [grp_snoc, if_neg hne]
theorem rows_new {es : List (Int × Addr)} {ar : List (Int × Int)} {x y : Int} (h : x ∉ es.map (·.1)) : rowsOf es ar = rowsOf es (ar ++ [(x, y)]) := by
  unfold rowsOf
  refine List.map_congr_left fun e he => ?_
  rw [grp_snoc, if_neg fun z => h (List.mem_map.mpr ⟨e, he, z.symm⟩)]
theorem look_at {α : Type} {k : Int} {v : α} : ∀ {l : List (Int × α)}, l.lookup k = some v → ∃ j : Nat, l[j]? = some (k, v)
  | [], h => by cases h
  | (i, x) :: l, h => by
    rw [List.lookup_cons] at h
    by_cases e : k = i
    · subst e
      simp at h
      exact ⟨0, by simp [h]⟩
    · rw [show (k == i) = false from beq_eq_false_iff_ne.mpr e] at h
      obtain ⟨j, hj⟩ := look_at h
      exact ⟨j + 1, by simpa using hj⟩
inductive Rc (ar : List (Int × Int)) (ps : List Int) : Int → Prop
  | base {p : Int} : p ∈ ps → Rc ar ps p
  | step {p q : Int} : Rc ar ps p → (p, q) ∈ ar → Rc ar ps q
end TK
set_option maxHeartbeats 2000000
namespace TK
open PySem L2 NdefX LamX
variable [TC]
section
variable {X : Cx}
theorem ps_setDc {i : Nat} {y : Str} {py : Pos} {kx vx tg iter : Expr} {ifs : List Expr} {scope : Scope} {own : List (Str × Nat)} {pos spos : Pos} {wi : TI} {g : TG} {tt : TT} {tk tv : TE} (hc : X.calm = true) (hN : X.N.Nodup) (hy : X.N[i]? = some y) (hyl : X.env.scope.names.lookup y = some .local)
    (hsw : swapsWith (.DictComp kx vx [⟨tg, iter, ifs, 0⟩] scope pos) (some (.Name y py)) spos.line X.env = pure true) (hi : PI X tg iter wi) (ok : BlkOk X.N X.env.scope scope own) (hg : ∀ (s : Shared) (H : Hp) (C : Addr) (cl : List (Str × Addr)) (fp : List Addr), PG (X.blk s H scope (compEnvC scope cl C X.env) fp) tg g)
    (ht : ∀ (s : Shared) (H : Hp) (C : Addr) (cl : List (Str × Addr)) (fp : List Addr), PTs (X.blk s H scope (compEnvC scope cl C X.env) fp) ifs tt) (hk : ∀ (s : Shared) (H : Hp) (C : Addr) (cl : List (Str × Addr)) (fp : List Addr), PE (X.blk s H scope (compEnvC scope cl C X.env) fp) kx tk)
    (he : ∀ (s : Shared) (H : Hp) (C : Addr) (cl : List (Str × Addr)) (fp : List Addr), PE (X.blk s H scope (compEnvC scope cl C X.env) fp) vx tv) (hs : ∀ x, foldedSetIterable iter X.env x = pure x := by intro _; rfl) :
    PS X (.Assign [.Name y py] (.DictComp kx vx [⟨tg, iter, ifs, 0⟩] scope pos) spos) (tAsg (tDc wi g tt tk tv (own.map (·.2))) (gName i)) := by
  constructor
  intro pins s σ H D I h
  have h1 : tDc wi g tt tk tv (own.map (·.2)) σ H (fun x H1 => gName i x σ H1 D.nx) := h
  rw [exec_Assign_Name_used _ _ _ _ hsw]
  refine wpAny_bind (wpAny_standAt (wpAny_bind (show wpAny (model X.prog X.w) X.A (do let _ ← comprehension (.DictComp kx vx [⟨tg, iter, ifs, 0⟩] scope pos) scope X.env (firstIterPos [⟨tg, iter, ifs, 0⟩] pos) newDict false (eval iter X.env) (some (assign (.Name y py) X.env))) _ _ s from ?_)))
  refine wpAny_bind (thn (dc_core (Qf := fun _ t => SP X pins D .next t) hc hN I hi ok hg ht hk he hs h1 fun L C t m H1 J q hn f => (show wpAny _ _ (assign (.Name y py) X.env (.ref L)) _ _ _ from ?_)) fun _ t hq => wpAny_pure (wpAny_pure hq))
  obtain ⟨f0, f1, f2, f3, f4, f5⟩ := f
  refine wpAny_assign_Name (store_ok2 (v := V.ref L) J hN hy (.inl hyl) rfl (fun t2 J2 ⟨a, sb, ha⟩ => ⟨m, hn.sameBut sb (ha.elim (fun z => z ▸ f1) fun z e => f4 y a z e.symm), fun t3 sb3 => ⟨_, H1, J2.turned (t' := t2.toks) (fun b o hb e => (sb3.2 b hb).trans e) f0 f1 f3 f4 f5, q⟩⟩) (.inr hyl))
theorem swD_true {kx vx : Expr} {gs : List Comprehension} {scope : Scope} {pos py : Pos} {y : Str} {l : Nat} {env : Env} (hk : env.scope.kind = .function) (hy : env.scope.names.lookup y = some .local) (hl : (py.line == pos.line) = true) (ha : (scope.names.any fun (n, k) => n == y && (k == .local || k == .cell)) = false) :
    swapsWith (.DictComp kx vx gs scope pos) (some (.Name y py)) l env = pure true := by
  have hb : env.blockKind = .function := by unfold Env.blockKind; rw [hk]; rfl
  have ky : env.kindOf y = some .local := hy
  unfold swapsWith
  simp only [hb, ky, ha, Expr.pos, hl]
  rfl
end
mutual
def plainD : D → Bool
  | .str _ => false
  | .tup l => plainL l
  | _ => true
def plainL : List D → Bool
  | [] => true
  | d :: ds => plainD d && plainL ds
end
mutual
theorem lay_of : ∀ {d : D}, plainD d = true → d.py.canLay0 = true
  | .non, _ => rfl
  | .bl _, _ => rfl
  | .int _, _ => rfl
  | .str _, h => by cases h
  | .tup l, h => by
    simp only [D.py, PyData.canLay0]
    exact lay_ofL (ds := l) h
theorem lay_ofL : ∀ {ds : List D}, plainL ds = true → PyData.canLayAll0 (D.pyL ds) = true
  | [], _ => rfl
  | d :: ds, h => by
    simp only [plainL, Bool.and_eq_true] at h
    simp only [D.pyL, PyData.canLayAll0, Bool.and_eq_true]
    exact ⟨lay_of h.1, lay_ofL h.2⟩
end
theorem shp_of {d : D} (h : plainD d = true) (hd : d.py.depth ≤ 64) : SeqAt.shaped d.py = true := by
  unfold SeqAt.shaped
  rw [lay_of h, decide_eq_true hd]
  rfl
theorem shp_list {ds : List D} (h : plainL ds = true) (hd : (D.tup ds).py.depth ≤ 64) : SeqAt.shaped (.list (D.pyL ds)) = true := by
  unfold SeqAt.shaped
  have e : (PyData.list (D.pyL ds)).depth = (D.tup ds).py.depth := by simp [D.py, PyData.depth]
  rw [e, decide_eq_true hd]
  simp only [PyData.canLay0, lay_ofL h]
  rfl
theorem plain_ints {l : List Int} : plainL (l.map .int) = true := by
  induction l with
  | nil => rfl
  | cons a l ih => simp [plainL, plainD, ih]
theorem depth_ints {l : List Int} : (D.tup (l.map .int)).py.depth ≤ 3 := by
  simp only [D.py]
  induction l with
  | nil => simp [D.pyL, PyData.depth, PyData.depthAll]
  | cons x w ih =>
    simp only [List.map_cons, D.pyL, D.py, PyData.depth, PyData.depthAll] at ih ⊢
    omega
theorem shp_ints {l : List Int} : SeqAt.shaped (.list (D.pyL (l.map .int))) = true := shp_list plain_ints (by have := depth_ints (l := l); omega)
theorem eqv_nil {ds : List D} : PyData.eqv (.list (D.pyL ds)) (.list (D.pyL [])) = ds.isEmpty := by
  cases ds <;> simp [D.pyL, PyData.eqv, PyData.eqvAll]
end TK
set_option maxHeartbeats 2000000
namespace T
open PySem L2 NdefX LamX TK
variable [TC]
def intsL (l : List Int) : List A := l.map fun i => .dat (.int i)
def prD (p : Int × Int) : D := .tup [.int p.1, .int p.2]
def arL (ar : List (Int × Int)) : List A := ar.map fun p => .dat (prD p)
def G_closed : List A → Mu → (A → Mu → Prop) → Prop := fun xs μ R => ∃ a b ps ar, xs = [.own a, .own b] ∧ μ = [(b, C.lst (arL ar)), (a, C.lst (intsL ps))] ∧ ps.length ≤ 1000 ∧ ar.length ≤ 1000 ∧
  R = fun x μ' => ∃ f fs, x = .own f ∧ μ' = [(f, C.dk (fk fs))] ∧ fs.Nodup ∧ ∀ q, q ∈ fs ↔ Rc ar ps q
structure I1 (ad a b : Addr) (ps : List Int) (ar : List (Int × Int)) (i : Nat) (δ : Dl) (μ : Mu) (es : List (Int × Addr)) (l : List (Int × A)) : Prop where
  mu : μ = rowsOf es (ar.take i) ++ (ad, C.dk (kI l)) :: [(b, C.lst (arL ar)), (a, C.lst (intsL ps))]
  nd : (es.map (·.1)).Nodup
  lk : ∀ k, l.lookup k = (es.lookup k).map A.own
  len : l.length ≤ i
  has : ∀ p ∈ ar.take i, p.1 ∈ es.map (·.1)
  dl : δ.length = 9
  d0 : δ[0]? = some (some (.own a))
  d1 : δ[1]? = some (some (.own b))
  d2 : δ[2]? = some (some (.own ad))
structure I2 (ps : List Int) (ar : List (Int × Int)) (fs ls : List Int) (x : Option Int) : Prop where
  nd : fs.Nodup
  ndl : ls.Nodup
  sub : ∀ z ∈ ls, z ∈ fs
  rc : ∀ z ∈ fs, Rc ar ps z
  base : ∀ z ∈ ps, z ∈ fs
  cl : ∀ z ∈ fs, z ∈ ls ∨ some z = x ∨ ∀ w, (z, w) ∈ ar → w ∈ fs
def uni (ps : List Int) (ar : List (Int × Int)) : List Int := ps ++ ar.map (·.2)
theorem rc_uni {ps : List Int} {ar : List (Int × Int)} {z : Int} (h : Rc ar ps z) : z ∈ uni ps ar := by
  unfold uni
  cases h with
  | base h => exact List.mem_append_left _ h
  | step _ h => exact List.mem_append_right _ (List.mem_map.mpr ⟨_, h, rfl⟩)
theorem I2.le {ps : List Int} {ar : List (Int × Int)} {fs ls : List Int} {x : Option Int} (h : I2 ps ar fs ls x) : fs.length ≤ (uni ps ar).length := nodup_len h.nd fun z hz => rc_uni (h.rc z hz)
theorem uni_len {ps : List Int} {ar : List (Int × Int)} : (uni ps ar).length = ps.length + ar.length := by simp [uni]
theorem I2.lel {ps : List Int} {ar : List (Int × Int)} {fs ls : List Int} {x : Option Int} (h : I2 ps ar fs ls x) : ls.length ≤ (uni ps ar).length := nodup_len h.ndl fun z hz => rc_uni (h.rc z (h.sub z hz))
theorem I2.push {ps : List Int} {ar : List (Int × Int)} {fs ls : List Int} {x : Int} (h : I2 ps ar fs ls (some x)) (hx : x ∈ fs) {w : Int} (hw : (x, w) ∈ ar) (hn : w ∉ fs) : I2 ps ar (insF fs w) (ls ++ [w]) (some x) := by
  refine ⟨insF_nd h.nd, List.nodup_append.mpr ⟨h.ndl, by simp, fun a ha b hb e => ?_⟩, fun z hz => ?_, fun z hz => ?_, fun z hz => insF_mem.mpr (.inl (h.base z hz)), fun z hz => ?_⟩
  · rw [List.mem_singleton.mp hb] at e
    exact hn (e ▸ h.sub a ha)
  · rcases List.mem_append.mp hz with q | q
    · exact insF_mem.mpr (.inl (h.sub z q))
    · exact insF_mem.mpr (.inr (List.mem_singleton.mp q))
  · rcases insF_mem.mp hz with q | q
    · exact h.rc z q
    · rw [q]
      exact .step (h.rc x hx) hw
  · rcases insF_mem.mp hz with q | q
    · rcases h.cl z q with c | c | c
      · exact .inl (List.mem_append_left _ c)
      · exact .inr (.inl c)
      · exact .inr (.inr fun w hw => insF_mem.mpr (.inl (c w hw)))
    · exact .inl (List.mem_append_right _ (by rw [q]; simp))
theorem insF_len {fs : List Int} {w : Int} (h : w ∉ fs) : (insF fs w).length = fs.length + 1 := by
  unfold insF
  rw [if_neg h]
  simp
theorem I2.full {ps : List Int} {ar : List (Int × Int)} {fs : List Int} (h : I2 ps ar fs [] none) (q : Int) : q ∈ fs ↔ Rc ar ps q := by
  refine ⟨h.rc q, fun r => ?_⟩
  induction r with
  | base h1 => exact h.base _ h1
  | step _ h2 ih =>
    rcases h.cl _ ih with z | z | z
    · simp at z
    · cases z
    · exact z _ h2
section
variable {P : Program} {w : World} {K : PySem.W.Frag} {mg : Str → Option Value} {base : Heap}
abbrev N_closed : List Str := ["places", "arrows", "later", "one", "two", "row", "found", "left", "place"]
abbrev P_closed : List Str := ["places", "arrows"]
theorem sc_closed : FnScope N_closed P_closed (defScope s_closed) := ⟨rfl, rfl, rfl, by decide +kernel, rfl, by decide +kernel, by decide +kernel⟩
theorem bd_closed (kV doc pm : Value) (an : Option Addr) (cdv ct : Value) (us : List Value) (hl : us.length = (P_closed : List Str).length) : bindArgs (PySem.W.fnOf "closed" "closed" (defArgs s_closed) (defBody s_closed) (defScope s_closed) .none kV doc pm an cdv ct) ⟨us, []⟩ = pure ((P_closed : List Str).zip us) := match us, hl with
  | [_, _], _ => rfl
theorem ok_closed (T : Bl mg) (R : Raw K mg "closed" s_closed) : Dn P w K mg base "closed" P_closed 1 (spM G_closed) := by
  refine R.dnM sc_closed (fun ds d R ⟨a, b, ps, ar, e, _⟩ => by rw [e]; rfl) (by decide) bd_closed fun cdv Ao outer s H E hr => ⟨_, (pss_cons (ps_set (i := 2) sc_closed.nd rfl (Or.inl rfl) pe_dnewK)
      (pss_cons (ps_for PassesOwn.never rfl (pi_seq (pv 1)) (pg_tup rfl (pgs_cons (pg_name (i := 3) sc_closed.nd rfl (Or.inl rfl)) (pgs_cons (pg_name (i := 4) sc_closed.nd rfl (Or.inl rfl)) pgs_nil)))
      (pss_cons (ps_set (i := 5) sc_closed.nd rfl (Or.inl rfl) (pe_dsetd (pv 2) (pv 3) (pe_lst pa_nil) ⟨rfl, rfl, rfl, rfl⟩))
      (pss_one (ps_expr (pe_bm PySem.F.plainAttrs_list PySem.F.slot_list_append PySem.F.type_list_append mt_append (pv 5) (pa_cons (pv 4) pa_nil))))))
      (pss_cons (ps_setDc (i := 6) rfl sc_closed.nd rfl rfl (swD_true rfl rfl rfl (by decide +kernel)) (pi_seq (pv 0)) (blkOk_by (own := [("place", 8)]) (N := N_closed) (sc := defScope s_closed) (by decide +kernel)) (fun _ _ _ _ _ => (pg_name (i := 8) sc_closed.nd rfl (Or.inl rfl))) (fun _ _ _ _ _ => pts_nil) (fun _ _ _ _ _ => (pv 8)) (fun _ _ _ _ _ => pe_bl))
      (pss_cons (ps_set (i := 7) sc_closed.nd rfl (Or.inl rfl) (pe_callTy (cr_lst rfl) (by rfl) T.list bb_list (pa_cons (pv 6) pa_nil)))
      (pss_cons (ps_while PassesOwn.never (pt_cmpR (op_neA hr) (pv 7) (pe_lst pa_nil) (nomark _))
      (pss_one (ps_for PassesOwn.never rfl (pi_seq (pe_dget2 (hu_of hr) (pv 2) (pe_bm0 PySem.F.plainAttrs_list PySem.F.slot_list_pop PySem.F.type_list_pop mt_pop (pv 7)) (pe_lst pa_nil) ⟨rfl, rfl, rfl, rfl⟩)) (pg_name (i := 8) sc_closed.nd rfl (Or.inl rfl))
      (pss_one (ps_if (pt_cmp (pc_dnotin (hu_of hr) (pv 8) (pv 6))) (pss_cons (ps_dput (hu_of hr) (pv 6) (pv 8) pe_bl rfl)
      (pss_one (ps_expr (pe_bm PySem.F.plainAttrs_list PySem.F.slot_list_append PySem.F.type_list_append mt_append (pv 7) (pa_cons (pv 8) pa_nil))))) pss_nil)))))
      (pss_one (ps_ret (pv 6)))))))), ?_⟩
  rintro ds μ R ⟨a, b, ps, ar, rfl, rfl, hp, ha, rfl⟩
  refine ht_seq (ht_setN en_dnew fun ad => ?_)
  refine ht_cut (N := fun δ μ => ∃ es l, I1 ad a b ps ar ar.length δ μ es l) ?_ ?_
  · refine ht_sL (ht_forL (a := b) (xs := arL ar) (e_var rfl) (fun i δ μ => ∃ es l, I1 ad a b ps ar i δ μ es l) ⟨[], [], rfl, List.nodup_nil, fun _ => rfl, Nat.le_refl _, fun p hp => by simp at hp, rfl, rfl, rfl, rfl⟩ ?_ ?_ ?_)
    · rintro i δ1 μ1 ⟨es, l, h⟩
      refine ⟨es.length + 1, ?_⟩
      rw [h.mu, List.getElem?_append_right (by rw [rows_len]; omega), rows_len]
      simp
    · rintro i x δ1 μ1 hx ⟨es, l, h⟩
      have hi : i < ar.length := by have := (List.getElem?_eq_some_iff.mp hx).1; simpa [arL] using this
      have ex : x = .dat (prD ar[i]) := by
        unfold arL at hx
        rw [List.getElem?_map, List.getElem?_eq_getElem hi] at hx
        exact (Option.some.inj hx).symm
      have etk : ar.take (i + 1) = ar.take i ++ [ar[i]] := by rw [List.take_succ, List.getElem?_eq_getElem hi]; rfl
      generalize har : ar[i] = p at ex etk
      obtain ⟨one, two⟩ := p
      subst ex
      refine ⟨_, _, tg_tup (ds := [.int one, .int two]) (tgs_cons tg_name (tgs_cons tg_name tgs_nil)) rfl, ?_⟩
      have q2 : ((δ1.set 3 (some (.dat (.int one)))).set 4 (some (.dat (.int two))))[2]? = some (some (.own ad)) := by rw [List.getElem?_set_ne (by decide), List.getElem?_set_ne (by decide)]; exact h.d2
      have q3 : ((δ1.set 3 (some (.dat (.int one)))).set 4 (some (.dat (.int two))))[3]? = some (some (.dat (.int one))) := by rw [List.getElem?_set_ne (by decide), List.getElem?_set_self (by rw [h.dl]; decide)]
      have q4 : ((δ1.set 3 (some (.dat (.int one)))).set 4 (some (.dat (.int two))))[4]? = some (some (.dat (.int two))) := by rw [List.getElem?_set_self (by rw [List.length_set, h.dl]; decide)]
      have hm : μ1[es.length]? = some (ad, C.dk (kI l)) := by
        rw [h.mu, List.getElem?_append_right (by rw [rows_len]; exact Nat.le_refl _), rows_len, Nat.sub_self]
        rfl
      have keep : ∀ (y : A) (k : Nat) (z : A), k ≠ 3 → k ≠ 4 → k ≠ 5 → δ1[k]? = some (some z) → (((δ1.set 3 (some (.dat (.int one)))).set 4 (some (.dat (.int two)))).set 5 (some y))[k]? = some (some z) := fun y k z h3 h4 h5 e => by
        rw [List.getElem?_set_ne (fun z => h5 z.symm), List.getElem?_set_ne (fun z => h4 z.symm), List.getElem?_set_ne (fun z => h3 z.symm)]; exact e
      refine ht_seq (ht_setX (ex_setdL (k := .inl one) es.length (e_var q2) (e_var q3) hm rfl (by simp [kI]; have := h.len; omega)) fun y μ2 hy => ?_)
      have p5 : (((δ1.set 3 (some (.dat (.int one)))).set 4 (some (.dat (.int two)))).set 5 (some y))[5]? = some (some y) := by rw [List.getElem?_set_self (by simp [h.dl])]
      have p4 : (((δ1.set 3 (some (.dat (.int one)))).set 4 (some (.dat (.int two)))).set 5 (some y))[4]? = some (some (.dat (.int two))) := by rw [List.getElem?_set_ne (by decide)]; exact q4
      rcases hy with ⟨hv, e2⟩ | ⟨p, hv, rfl, rfl⟩
      · rw [e2]
        rw [val_kI, h.lk] at hv
        obtain ⟨r, hr1, rfl⟩ : ∃ r, es.lookup one = some r ∧ A.own r = y := by
          cases q : es.lookup one with
          | none => rw [q] at hv; cases hv
          | some r => rw [q] at hv; exact ⟨r, rfl, Option.some.inj hv⟩
        obtain ⟨j, hj⟩ := look_at hr1
        have hjl : j < (rowsOf es (ar.take i)).length := by rw [rows_len]; exact (List.getElem?_eq_some_iff.mp hj).1
        have hmj : μ1[j]? = some (r, C.lst ((grp (ar.take i) one).map fun i => .dat (.int i))) := by rw [h.mu, List.getElem?_append_left hjl]; exact rows_at hj
        refine ht_dropX (ex_app j (e_var p5) (e_var p4) hmj ?_) fun z μ3 hz => ?_
        · have : (grp (ar.take i) one).length ≤ ar.length := by
            unfold grp
            rw [List.length_map]
            exact Nat.le_trans (List.length_filter_le _ _) (by rw [List.length_take]; omega)
          rw [List.length_map]; omega
        · obtain ⟨_, rfl⟩ := hz
          refine ⟨es, l, ?_, h.nd, h.lk, Nat.le_succ_of_le h.len, fun p hp => ?_, by simp [h.dl], keep _ _ _ (by decide) (by decide) (by decide) h.d0, keep _ _ _ (by decide) (by decide) (by decide) h.d1, keep _ _ _ (by decide) (by decide) (by decide) h.d2⟩
          · rw [h.mu, List.set_append_left _ _ hjl, rows_set h.nd hj, etk]
          · rw [etk] at hp
            rcases List.mem_append.mp hp with hp | hp
            · exact h.has p hp
            · rw [List.mem_singleton.mp hp]
              exact look_some.mp (by rw [hr1]; rfl)
      · rw [val_kI, h.lk] at hv
        have hn : es.lookup one = none := by
          cases q : es.lookup one with
          | none => rfl
          | some r => rw [q] at hv; cases hv
        have hni : one ∉ es.map (·.1) := look_none.mp hn
        have g0 : grp (ar.take i) one = [] := by
          unfold grp
          rw [List.filter_eq_nil_iff.mpr fun p hp => by
            rw [decide_eq_true_eq]
            intro z
            exact hni (z ▸ h.has p hp)]
          rfl
        refine ht_dropX (ex_app 0 (e_var p5) (e_var p4) rfl (by simp)) fun z μ3 hz => ?_
        obtain ⟨_, rfl⟩ := hz
        refine ⟨(one, p) :: es, putI l one (.own p), ?_, List.nodup_cons.mpr ⟨hni, h.nd⟩, fun k => ?_, Nat.le_trans putI_len (Nat.succ_le_succ h.len), fun p' hp => ?_, by simp [h.dl], keep _ _ _ (by decide) (by decide) (by decide) h.d0, keep _ _ _ (by decide) (by decide) (by decide) h.d1, keep _ _ _ (by decide) (by decide) (by decide) h.d2⟩
        · rw [put_kI, h.mu, List.set_append_right _ _ (by rw [rows_len]; exact Nat.le_refl _), rows_len, Nat.sub_self, etk]
          show (p, C.lst ([] ++ [.dat (.int two)])) :: (rowsOf es (ar.take i) ++ (ad, C.dk (kI (putI l one (.own p)))) :: [(b, C.lst (arL ar)), (a, C.lst (intsL ps))]) = _
          rw [rows_new (y := two) hni]
          show _ = (p, C.lst ((grp (ar.take i ++ [(one, two)]) one).map fun i => .dat (.int i))) :: (rowsOf es (ar.take i ++ [(one, two)]) ++ _)
          rw [grp_snoc, if_pos rfl, g0]
          rfl
        · rw [putI_look, List.lookup_cons]
          by_cases e : k = one
          · rw [if_pos e, e]
            simp
          · rw [if_neg e, show (k == one) = false from beq_eq_false_iff_ne.mpr e]
            exact h.lk k
        · rw [etk] at hp
          rcases List.mem_append.mp hp with hp | hp
          · exact List.mem_cons_of_mem _ (h.has p' hp)
          · rw [List.mem_singleton.mp hp]
            exact List.mem_cons_self
    · rintro δ1 μ1 ⟨es, l, h⟩
      rw [show (arL ar).length = ar.length by simp [arL]] at h
      exact ⟨es, l, h⟩
  · rintro δ1 μ1 ⟨es, l, h⟩
    have etk : ar.take ar.length = ar := List.take_length
    have hmu := h.mu
    rw [etk] at hmu
    refine HT.to (δ' := [some (.own a), some (.own b), some (.own ad), none, none, none, none, none, none]) ?_ h.dl ⟨h.d0, h.d1, h.d2, trivial⟩
    have hma : μ1[es.length + 2]? = some (a, C.lst (intsL ps)) := by
      rw [hmu, List.getElem?_append_right (by rw [rows_len]; omega), rows_len]
      simp
    have hmd : μ1[es.length]? = some (ad, C.dk (kI l)) := by
      rw [hmu, List.getElem?_append_right (by rw [rows_len]; exact Nat.le_refl _), rows_len, Nat.sub_self]
      rfl
    refine ht_seq (ht_setN (o := .dk (fk (insAll ps))) (en_is (en_dcI (xs := intsL ps) (ei_seqL (es.length + 2) (e_var rfl) hma) (by simp [intsL]; omega) (fun _ => true) (fun x => .inl (intA x)) (fun _ => .dat (.bl true)) fun d hd => ?_) ?_) fun af => ?_)
    · obtain ⟨i, _, rfl⟩ := List.mem_map.mp hd
      exact ⟨_, _, tg_name, by simp, et_yes, fun _ => ⟨⟨.int i, rfl, e_var rfl⟩, e_bl⟩⟩
    · rw [List.filter_eq_self.mpr fun _ _ => rfl]
      exact congrArg C.dk (fold_fk (ps := ps) (fs := []))
    refine ht_seq (ht_setN (o := .lst (intsL (insAll ps))) (en_is (en_lstD 0 (e_var rfl) rfl) ?_) fun al => ?_)
    · rw [keysD_fk, List.map_map]
      rfl
    refine ht_cut (N := fun δ μ => δ.length = 9 ∧ δ[6]? = some (some (.own af)) ∧ ∃ fs, I2 ps ar fs [] none ∧ μ = (al, C.lst []) :: (af, C.dk (fk fs)) :: μ1) ?_ ?_
    · refine ht_while (fun m δ μ => (δ.length = 9 ∧ δ[2]? = some (some (.own ad)) ∧ δ[6]? = some (some (.own af)) ∧ δ[7]? = some (some (.own al))) ∧ ∃ fs ls, m = 2 * ((uni ps ar).length - fs.length) + ls.length ∧ I2 ps ar fs ls none ∧ μ = (al, C.lst (intsL ls)) :: (af, C.dk (fk fs)) :: μ1) _ ⟨⟨rfl, rfl, rfl, rfl⟩, insAll ps, insAll ps, rfl, ⟨insAll_nd, insAll_nd, fun _ h => h, fun z hz => .base (insAll_mem.mp hz), fun z hz => insAll_mem.mpr hz, fun z hz => .inl hz⟩, rfl⟩ ?_
      rintro m δ2 μ2 ⟨⟨h9, d2, d6, d7⟩, fs, ls, rfl, hI, rfl⟩
      have lsD : intsL ls = (ls.map D.int).map .dat := by rw [List.map_map]; rfl
      refine ⟨!(ls.map D.int).isEmpty, ?_, fun hb => ?_, fun hb => ?_⟩
      · exact (et_test (e_neQ (eq_own (ds := ls.map .int) 0 (e_var d7) (by rw [← lsD]; rfl)) eq_nil shp_ints (by decide +kernel))).is (by rw [eqv_nil])
      · have hne : ls ≠ [] := fun z => by rw [z] at hb; cases hb
        obtain ⟨ls', x, rfl⟩ : ∃ ls' x, ls = ls' ++ [x] := ⟨ls.dropLast, ls.getLast hne, (List.dropLast_concat_getLast hne).symm⟩
        have hxf : x ∈ fs := hI.sub x (by simp)
        have hI0 : I2 ps ar fs ls' (some x) := by
          refine ⟨hI.nd, (List.nodup_append.mp hI.ndl).1, fun z hz => hI.sub z (List.mem_append_left _ hz), hI.rc, hI.base, fun z hz => ?_⟩
          rcases hI.cl z hz with c | c | c
          · rcases List.mem_append.mp c with q | q
            · exact .inl q
            · exact .inr (.inl (by rw [List.mem_singleton.mp q]))
          · cases c
          · exact .inr (.inr c)
        have key : ∀ (P0 : Po) (a0 : Addr) (n0 : Nat) (pre : Mu), (∀ (c1 c2 : C), (pre ++ (al, c1) :: (af, c2) :: μ1)[n0]? = some (a0, C.lst (intsL (grp ar x)))) →
            (∀ δ μ, (∃ m', m' < 2 * ((uni ps ar).length - fs.length) + (ls' ++ [x]).length ∧ (δ.length = 9 ∧ δ[2]? = some (some (.own ad)) ∧ δ[6]? = some (some (.own af)) ∧ δ[7]? = some (some (.own al))) ∧ ∃ fs ls, m' = 2 * ((uni ps ar).length - fs.length) + ls.length ∧ I2 ps ar fs ls none ∧ μ = (al, C.lst (intsL ls)) :: (af, C.dk (fk fs)) :: μ1) → P0.nx δ μ) →
            HT δ2 (pre ++ (al, C.lst (intsL ls')) :: (af, C.dk (fk fs)) :: μ1) (tFor (iList K (tVal (.ref a0))) (gName 8) (tIfS (tTest (tDNotIn (tVar 8) (tVar 6))) (tSeq (sDPut (tVar 6) (tVar 8) (tC (.bl true))) (tDrop (tBM K "list" rAppend (tVar 7) (tCons (tVar 8) tNil)))) tNext)) P0 := by
          intro P0 a0 n0 pre hrow hP
          refine HT.fgt ?_
          refine ht_forL (a := a0) (xs := intsL (grp ar x)) e_val (fun i δ μ => (δ.length = 9 ∧ δ[2]? = some (some (.own ad)) ∧ δ[6]? = some (some (.own af)) ∧ δ[7]? = some (some (.own al))) ∧ ∃ fs1 ls1, μ = pre ++ (al, C.lst (intsL ls1)) :: (af, C.dk (fk fs1)) :: μ1 ∧ I2 ps ar fs1 ls1 (some x) ∧ x ∈ fs1 ∧ (∀ w ∈ (grp ar x).take i, w ∈ fs1) ∧ 2 * ((uni ps ar).length - fs1.length) + ls1.length ≤ 2 * ((uni ps ar).length - fs.length) + ls'.length)
            ⟨⟨h9, d2, d6, d7⟩, fs, ls', rfl, hI0, hxf, fun w hw => by simp at hw, Nat.le_refl _⟩ ?_ ?_ ?_
          · rintro i δ3 μ3 ⟨_, fs1, ls1, rfl, _⟩
            exact ⟨n0, hrow _ _⟩
          · rintro i xx δ3 μ3 hxx ⟨⟨e9, e2, e6, e7⟩, fs1, ls1, rfl, hJ, hx1, htk, hms⟩
            have hi : i < (grp ar x).length := by have := (List.getElem?_eq_some_iff.mp hxx).1; simpa [intsL] using this
            have ex : xx = .dat (.int (grp ar x)[i]) := by
              unfold intsL at hxx
              rw [List.getElem?_map, List.getElem?_eq_getElem hi] at hxx
              exact (Option.some.inj hxx).symm
            have hwa : (x, (grp ar x)[i]) ∈ ar := grp_mem.mp (List.getElem_mem hi)
            have ett : (grp ar x).take (i + 1) = (grp ar x).take i ++ [(grp ar x)[i]] := by rw [List.take_succ, List.getElem?_eq_getElem hi]; rfl
            generalize (grp ar x)[i] = w at ex hwa ett
            subst ex
            have f9 : (δ3.set 8 (some (.dat (.int w)))).length = 9 := by simp [e9]
            have f2 : (δ3.set 8 (some (.dat (.int w))))[2]? = some (some (.own ad)) := by rw [List.getElem?_set_ne (by decide)]; exact e2
            have f6 : (δ3.set 8 (some (.dat (.int w))))[6]? = some (some (.own af)) := by rw [List.getElem?_set_ne (by decide)]; exact e6
            have f7 : (δ3.set 8 (some (.dat (.int w))))[7]? = some (some (.own al)) := by rw [List.getElem?_set_ne (by decide)]; exact e7
            have f8 : (δ3.set 8 (some (.dat (.int w))))[8]? = some (some (.dat (.int w))) := by rw [List.getElem?_set_self (by rw [e9]; decide)]
            have g0 : ∀ (c1 c2 : C), (pre ++ (al, c1) :: (af, c2) :: μ1)[pre.length]? = some (al, c1) := fun c1 c2 => by rw [List.getElem?_append_right (Nat.le_refl _), Nat.sub_self]; rfl
            have g1 : ∀ (c1 c2 : C), (pre ++ (al, c1) :: (af, c2) :: μ1)[pre.length + 1]? = some (af, c2) := fun c1 c2 => by rw [List.getElem?_append_right (by omega)]; simp
            have b1 := hJ.le
            have b2 := hJ.lel
            have b3 : (uni ps ar).length ≤ 2000 := by rw [uni_len]; omega
            refine ⟨_, _, tg_name, ?_⟩
            refine ht_if (b := !decide (w ∈ fs1)) ((et_test (e_dnotin (k := .inl w) (pre.length + 1) (e_var f6) (e_var f8) (g1 _ _) rfl)).is (by rw [fk_mem])) (fun hb => ?_) fun hb => ht_next ⟨⟨f9, f2, f6, f7⟩, fs1, ls1, rfl, hJ, hx1, fun z hz => ?_, hms⟩
            · have hw : w ∉ fs1 := by simpa using hb
              have hJ2 := hJ.push hx1 hwa hw
              have b4 := hJ2.le
              rw [insF_len hw] at b4
              refine ht_seq (ht_dput (k := .inl w) (pre.length + 1) (e_var f6) (e_var f8) e_bl (g1 _ _) rfl (by rw [fk_len]; omega) ?_)
              rw [fk_put, List.set_append_right _ _ (by omega)]
              have es1 : ∀ (c1 c2 c3 : C), ((al, c1) :: (af, c2) :: μ1).set (pre.length + 1 - pre.length) (af, c3) = (al, c1) :: (af, c3) :: μ1 := fun c1 c2 c3 => by rw [show pre.length + 1 - pre.length = 1 by omega]; rfl
              rw [es1]
              refine ht_dropX (ex_app pre.length (e_var f7) (e_var f8) (g0 _ _) (by simp [intsL]; omega)) fun z μ4 hz => ?_
              obtain ⟨_, rfl⟩ := hz
              refine ⟨⟨f9, f2, f6, f7⟩, insF fs1 w, ls1 ++ [w], ?_, hJ2, insF_mem.mpr (.inl hx1), fun z hz => ?_, ?_⟩
              · rw [List.set_append_right _ _ (Nat.le_refl _), Nat.sub_self]
                simp [intsL]
              · rw [ett] at hz
                rcases List.mem_append.mp hz with q | q
                · exact insF_mem.mpr (.inl (htk z q))
                · exact insF_mem.mpr (.inr (List.mem_singleton.mp q))
              · rw [insF_len hw, List.length_append]
                simp only [List.length_singleton]
                omega
            · rw [ett] at hz
              rcases List.mem_append.mp hz with q | q
              · exact htk z q
              · rw [List.mem_singleton.mp q]
                simpa using hb
          · rintro δ3 μ3 ⟨hd, fs1, ls1, rfl, hJ, hx1, htk, hms⟩
            refine ⟨(al, C.lst (intsL ls1)) :: (af, C.dk (fk fs1)) :: μ1, hP _ _ ⟨_, ?_, hd, fs1, ls1, rfl, ⟨hJ.nd, hJ.ndl, hJ.sub, hJ.rc, hJ.base, fun z hz => ?_⟩, rfl⟩, List.sublist_append_right _ _⟩
            · rw [List.length_append]
              simp only [List.length_singleton]
              omega
            · rcases hJ.cl z hz with c | c | c
              · exact .inl c
              · cases c
                refine .inr (.inr fun w hw => htk w ?_)
                rw [show (intsL (grp ar x)).length = (grp ar x).length by simp [intsL], List.take_length]
                exact grp_mem.mpr hw
              · exact .inr (.inr c)
        have lsE : intsL (ls' ++ [x]) = intsL ls' ++ [.dat (.int x)] := by simp [intsL]
        rw [lsE]
        refine ht_forLX (ex_getL (es.length + 2) (e_var d2) hmd (ex_pop 0 (e_var d7) rfl) fun y μ3 hy => ?_) fun y μ3 hy => ?_
        · obtain ⟨rfl, rfl⟩ := hy
          exact ⟨_, _, es.length + 2, _, rfl, rfl, hmd⟩
        · obtain ⟨y0, μ4, ⟨rfl, rfl⟩, hc⟩ := hy
          have hall : ∀ p ∈ ar, p.1 ∈ es.map (·.1) := by
            have := h.has
            rw [etk] at this
            exact this
          rcases hc (.int x) (.inl x) (es.length + 2) (kI l) rfl rfl hmd with ⟨hv, rfl⟩ | ⟨p, hv, rfl, rfl⟩
          · rw [val_kI, h.lk] at hv
            obtain ⟨r, hr1, rfl⟩ : ∃ r, es.lookup x = some r ∧ TK.A.own r = y := by
              cases q : es.lookup x with
              | none => rw [q] at hv; cases hv
              | some r => rw [q] at hv; exact ⟨r, rfl, Option.some.inj hv⟩
            obtain ⟨j, hj⟩ := look_at hr1
            refine ⟨r, rfl, key _ r (j + 2) [] (fun c1 c2 => ?_) fun δ μ hh => hh⟩
            show (μ1)[j]? = _
            rw [hmu, List.getElem?_append_left (by rw [rows_len]; exact (List.getElem?_eq_some_iff.mp hj).1)]
            exact rows_at hj
          · rw [val_kI, h.lk] at hv
            have g0 : grp ar x = [] := by
              unfold grp
              rw [List.filter_eq_nil_iff.mpr fun p hp => by
                rw [decide_eq_true_eq]
                intro z
                have q := look_some.mpr (hall p hp)
                rw [z] at q
                cases e : es.lookup x with
                | none => rw [e] at q; cases q
                | some r => rw [e] at hv; cases hv]
              rfl
            refine ⟨p, rfl, key _ p 0 [(p, C.lst [])] (fun c1 c2 => ?_) fun δ μ hh => hh⟩
            rw [g0]
            rfl
      · have hl : ls = [] := by
          cases ls with
          | nil => rfl
          | cons a l => cases hb
        subst hl
        exact ⟨h9, d6, fs, hI, rfl⟩
    · rintro δ2 μ2 ⟨h9, d6, fs, hI, rfl⟩
      refine HT.sub (μ' := [(af, C.dk (fk fs))]) ?_ ?_
      · exact ht_ret (e_var d6) ⟨af, fs, rfl, rfl, hI.nd, hI.full⟩
      · exact .cons _ (.cons₂ _ (List.nil_sublist _))
end
end T
set_option maxHeartbeats 2000000
namespace TK
open PySem L2 NdefX LamX
variable [TC]
theorem foldG_len {α κ : Type} [DecidableEq κ] (kk : α → κ) (kv : α → A) : ∀ (xs : List α) (l : List (κ × A)), (xs.foldl (fun acc x => putA acc (kk x) (kv x)) l).length ≤ l.length + xs.length
  | [], l => Nat.le_refl _
  | x :: xs, l => by
    rw [List.foldl_cons]
    have h1 := foldG_len kk kv xs (putA l (kk x) (kv x))
    have h2 := putA_len l (kk x) (kv x)
    simp only [List.length_cons]
    omega
section
variable {δ δ' : Dl} {μ μ' : Mu} {te ta tb tc tl td ty tx tk tv to : TE} {tt tu : TT} {tr : TA} {x y z : A} {d e : D} {b c : Bool} {ts us : TS} {P : Po} {g : TG} {K : PySem.W.Frag} {wi : TI} {xs : List A} {a : Addr} {α : Type} {l : List α} {q : α → A}
theorem en_lcG {vs : List Nat} (h : EI δ μ wi (l.map q)) (hz : l.length < 100000) (f : α → Bool) (k : α → A) (hb : ∀ d ∈ l, ∃ δ2 js, Tg (wipeD δ vs) g (q d) δ2 js ∧ (∀ j ∈ js, j ∈ vs) ∧ ET δ2 μ tt (f d) ∧ (f d = true → E δ2 μ te (k d))) :
    EN δ μ (tLc wi g tt te vs) (.lst ((l.filter f).map k)) := fun σ H s Q qq => h σ H s _ fun J H1 L f1 yl => by
  refine fun p hp => ⟨fun i m H' => m = l.length - i ∧ i ≤ l.length ∧ CwA δ μ H1 p (((l.take i).filter f).map k) H', ⟨l.length, by simp, Nat.zero_le _, CwA.start hp⟩, ?_⟩
  rintro i m H' ⟨rfl, hi, cw⟩
  obtain ⟨r1, r2⟩ := yl.run H' cw.2.1.tup (Fr.keepL cw.2.1 yl.obj)
  rw [List.length_map] at r2
  by_cases hlt : i < l.length
  · have h3 : l[i]? = some l[i] := List.getElem?_eq_getElem hlt
    have h4 : (l.map q)[i]? = some (q l[i]) := by rw [List.getElem?_map, h3]; rfl
    obtain ⟨g1, g2⟩ := r1 i (q l[i]) h4
    refine .inr ⟨g1, fun H3 => i + 1 ≤ l.length ∧ CwA δ μ H1 p (((l.take (i + 1)).filter f).map k) H3, fun H3 pp => ⟨l.length - (i + 1), by omega, rfl, pp⟩, fun w H2 yy => ?_⟩
    obtain ⟨f2, rw⟩ := g2 w H2 yy
    obtain ⟨δ2, js, hg, hj, h5, h6⟩ := hb l[i] (List.getElem_mem hlt)
    have cw2 : CwA δ μ H1 p (((l.take i).filter f).map k) H2 := ⟨cw.1, cw.2.1.trans0 f2, let ⟨us, c3, c4⟩ := cw.2.2; ⟨us, f2.keep _ _ c3 (by simp) nt_lst, c4.mono f2.tup⟩⟩
    have s1 := (s.step f1).step cw2.2.1
    refine hg μ _ H2 w (s1.wipe vs) rw _ fun σ2 s2 hw => ⟨(hw vs hj).trans wipe_wipe, cw_turnA cw2 ?_ s2 h5 h6 fun H3 w3 => ⟨hlt, ?_⟩⟩
    · refine Nat.lt_of_le_of_lt ?_ hz
      rw [List.length_map]
      exact Nat.le_trans (List.length_filter_le _ _) (by rw [List.length_take]; omega)
    · rw [filt_snoc l f k h3]
      exact w3
  · have e : i = l.length := by omega
    subst e
    rw [List.take_length] at cw
    obtain ⟨c1, c2, us, c3, c4⟩ := cw
    exact .inl ⟨r2, qq p H' (f1.trans0 c2) (f1.free _ c1) ⟨us, c3, c4⟩ fun ps z => by rw [c3] at z; cases z⟩
theorem en_lcGY {vs : List Nat} (h : EI δ μ wi (l.map q)) (hz : l.length < 100000) (k : α → A) (hb : ∀ d ∈ l, ∃ δ2 js, Tg (wipeD δ vs) g (q d) δ2 js ∧ (∀ j ∈ js, j ∈ vs) ∧ E δ2 μ te (k d)) : EN δ μ (tLc wi g tYes te vs) (.lst (l.map k)) :=
  en_is (en_lcG h hz (fun _ => true) k fun d hd => by
    obtain ⟨δ2, js, h1, h2, h3⟩ := hb d hd
    exact ⟨δ2, js, h1, h2, et_yes, fun _ => h3⟩) (by rw [List.filter_eq_self.mpr (fun _ _ => rfl)])
theorem e_allG {vs : List Nat} (h : EI δ μ wi (l.map q)) (hz : l.length < 100000) (k : α → Bool) (hb : ∀ d ∈ l, ∃ δ2 js, Tg (wipeD δ vs) g (q d) δ2 js ∧ (∀ j ∈ js, j ∈ vs) ∧ E δ2 μ te (.dat (.bl (k d)))) :
    E δ μ (tCB (rAll K) (tCons (tLc wi g tYes te vs) tNil)) (.dat (.bl (l.all k))) := by
  have q := en_lcGY h hz (fun d => .dat (.bl (k d))) hb
  have e : l.map (fun d => A.dat (.bl (k d))) = (l.map k).map fun b => A.dat (.bl b) := by rw [List.map_map]; rfl
  rw [e] at q
  exact (e_allN (K := K) q).is (by simp)
theorem ht_forG (h : EI0 δ μ wi (l.map q)) (I : Nat → Dl → Mu → Prop) (h0 : I 0 δ μ)
    (hs : ∀ (i : Nat) (d : α) δ1 μ1, l[i]? = some d → I i δ1 μ1 → ∃ δ2 js, Tg δ1 g (q d) δ2 js ∧ HT δ2 μ1 ts { P with nx := I (i + 1), ct := I (i + 1), bk := P.nx })
    (hd : ∀ δ1 μ1, I l.length δ1 μ1 → P.nx δ1 μ1) : HT δ μ (tFor wi g ts) P := ht_forI h I h0 (fun i x δ1 μ1 hx hI => by
  rw [List.getElem?_map] at hx
  cases e : l[i]? with
  | none => rw [e] at hx; cases hx
  | some d =>
    rw [e] at hx
    cases hx
    exact hs i d δ1 μ1 e hI) fun δ1 μ1 hI => by
  rw [List.length_map] at hI
  exact hd δ1 μ1 hI
theorem en_dcG {vs : List Nat} (h : EI δ μ wi (l.map q)) (hz : l.length < 100000) (f : α → Bool) (kk : α → Key) (kv : α → A) (hb : ∀ d ∈ l, ∃ δ2 js, Tg (wipeD δ vs) g (q d) δ2 js ∧ (∀ j ∈ js, j ∈ vs) ∧ ET δ2 μ tt (f d) ∧ (f d = true → (∃ e, keyD e = some (kk d) ∧ E δ2 μ tk (.dat e)) ∧ E δ2 μ tv (kv d))) :
    EN δ μ (tDc wi g tt tk tv vs) (.dk ((l.filter f).foldl (fun acc x => putA acc (kk x) (kv x)) [])) := fun σ H s Q qq => h σ H s _ fun J H1 L f1 yl => by
  refine fun p hp => ⟨fun i m H' => m = l.length - i ∧ i ≤ l.length ∧ CwD H1 p (((l.take i).filter f).foldl (fun acc x => putA acc (kk x) (kv x)) []) H', ⟨l.length, by simp, Nat.zero_le _, hp, Fr.new hp nt_dK, [], upd_same, .nil⟩, ?_⟩
  rintro i m H' ⟨rfl, hi, cw⟩
  obtain ⟨r1, r2⟩ := yl.run H' cw.2.1.tup (Fr.keepL cw.2.1 yl.obj)
  rw [List.length_map] at r2
  by_cases hlt : i < l.length
  · have h3 : l[i]? = some l[i] := List.getElem?_eq_getElem hlt
    obtain ⟨g1, g2⟩ := r1 i (q l[i]) (by rw [List.getElem?_map, h3]; rfl)
    refine .inr ⟨g1, fun H3 => i + 1 ≤ l.length ∧ CwD H1 p (((l.take (i + 1)).filter f).foldl (fun acc x => putA acc (kk x) (kv x)) []) H3, fun H3 pp => ⟨l.length - (i + 1), by omega, rfl, pp⟩, fun w H2 yy => ?_⟩
    obtain ⟨f2, rw⟩ := g2 w H2 yy
    obtain ⟨δ2, js, hg, hj, h5, h6⟩ := hb l[i] (List.getElem_mem hlt)
    obtain ⟨c1, c2, ks, c3, c4⟩ := cw
    have s1 := ((s.step f1).step c2).step f2
    refine hg μ _ H2 w (s1.wipe vs) rw _ fun σ2 s2 hw => ⟨(hw vs hj).trans wipe_wipe, h5 σ2 H2 s2 _ fun H3 f3 => ?_⟩
    cases hf : f l[i] with
    | false =>
      refine iteF ⟨hlt, c1, (c2.trans0 f2).trans0 f3, ks, (f2.trans0 f3).keep _ _ c3 (by simp) nt_dK, ?_⟩
      rw [fold_snoc l f (fun acc x => putA acc (kk x) (kv x)) ([] : List (Key × A)) h3, hf]
      exact c4.mono (f2.trans0 f3).tup
    | true =>
      obtain ⟨⟨e, he, hk⟩, hv⟩ := h6 hf
      refine iteT (hk σ2 H3 (s2.step f3) _ fun u H4 f4 ru => hv σ2 H4 (s2.step (f3.trans0 f4)) _ fun v H5 f5 rv => ?_)
      have ff := ((f2.trans0 f3).trans0 f4).trans0 f5
      have q5 := ff.keep _ _ c3 (by simp) nt_dK
      have kl : ks.length < sizeLine := by
        rw [← Paired.length c4]
        refine szt (Nat.lt_of_le_of_lt (foldG_len kk kv _ []) ?_)
        have := List.length_filter_le f (l.take i)
        rw [List.length_take] at this
        simp only [List.length_nil]
        omega
      have w6 : Fr [p] H5 (upd H5 p (.dK (putK ks (kk l[i]) v))) := Fr.wr (by simp) q5 rfl
      refine ⟨ks, kk l[i], keyD_rp ru he, q5, kl, hlt, c1, (c2.trans0 ff).mut c1 q5 rfl, _, upd_same, ?_⟩
      rw [fold_snoc l f (fun acc x => putA acc (kk x) (kv x)) ([] : List (Key × A)) h3, hf, if_pos rfl]
      exact ((c4.mono ff.tup).put rv).mono w6.tup
  · have e : i = l.length := by omega
    subst e
    rw [List.take_length] at cw
    obtain ⟨c1, c2, us, c3, c4⟩ := cw
    exact .inl ⟨r2, qq p H' (f1.trans0 c2) (f1.free _ c1) ⟨us, c3, c4⟩ fun ps z => by rw [c3] at z; cases z⟩
theorem ei_seqM {f : α → D} (h : E δ μ tl (.dat (.tup (l.map f)))) : EI0 δ μ (iSeq K tl) (l.map fun m => .dat (f m)) := by
  have := ei_seqT (K := K) h
  rw [List.map_map] at this
  exact this
theorem exa_NN {c1 c2 : C} (h1 : EN δ μ ta c1) (h2 : ∀ p, EN δ ((p, c1) :: μ) tb c2) : EXA δ μ (tCons ta (tCons tb tNil)) (fun xs μ' => ∃ p q, xs = [.own p, .own q] ∧ μ' = (q, c2) :: (p, c1) :: μ) := fun σ H s Q k =>
  h1.ex σ H s _ fun x μ1 v H1 ⟨p, e1, e2⟩ m1 f1 r1 => by
    subst e1 e2
    exact (h2 p).ex σ H1 (s.withM f1.fr.tup m1) _ fun y μ2 w H2 ⟨q, e3, e4⟩ m2 f2 r2 => by
      subst e3 e4
      exact k [.own p, .own q] _ [v, w] H2 ⟨p, q, rfl, rfl⟩ m2 (f1.trans f2) (.cons (r1.mono f2.fr.tup) (.cons r2 .nil))
theorem ex_callD {G : List A → Mu → (A → Mu → Prop) → Prop} {R : A → Mu → Prop} (h : EA δ μ tr xs) (hG : G xs [] R) : EX δ μ (tCall (spM G) [] E0 tr) (fun x μ' => ∃ ν', R x ν' ∧ μ' = ν' ++ μ) :=
  ex_callA h.ex fun ys μ1 ⟨e1, e2⟩ => by
    subst e1 e2
    exact ⟨[], R, rfl, hG, fun _ _ r => r⟩
end
def numA (k : Nat) : List Int → List (Int × A)
  | [] => []
  | y :: ys => (y, .dat (.int (k : Int))) :: numA (k + 1) ys
theorem numA_look {p : Int} : ∀ {ys : List Int} {k : Nat}, p ∈ ys → (numA k ys).lookup p = some (.dat (.int ((k + ys.idxOf p : Nat) : Int)))
  | [], _, h => by cases h
  | y :: ys, k, h => by
    unfold numA
    rw [List.lookup_cons]
    by_cases e : p = y
    · subst e
      simp
    · rw [show (p == y) = false from beq_eq_false_iff_ne.mpr e]
      have h2 : p ∈ ys := (List.mem_cons.mp h).resolve_left e
      simp only
      rw [numA_look h2, List.idxOf_cons, show (y == p) = false from beq_eq_false_iff_ne.mpr fun z => e z.symm]
      simp
      omega
theorem numA_keys : ∀ {ys : List Int} {k : Nat}, (numA k ys).map (·.1) = ys
  | [], _ => rfl
  | y :: ys, k => by unfold numA; rw [List.map_cons, numA_keys]
theorem numA_len {ys : List Int} {k : Nat} : (numA k ys).length = ys.length := by
  have := congrArg List.length (numA_keys (ys := ys) (k := k))
  rwa [List.length_map] at this
theorem fold_new {α : Type} (ki : α → Int) (kv : α → A) : ∀ (xs : List α) (l : List (Int × A)), (l.map (·.1) ++ xs.map ki).Nodup → xs.foldl (fun acc x => putA acc (Sum.inl (ki x)) (kv x)) (kI l) = kI (l ++ xs.map fun x => (ki x, kv x))
  | [], l, _ => by simp
  | x :: xs, l, nd => by
    rw [List.foldl_cons, put_kI]
    have hx : ki x ∉ l.map (·.1) := fun z => by
      rw [List.map_cons] at nd
      obtain ⟨_, _, h3⟩ := List.nodup_append.mp nd
      exact h3 _ z _ (by simp) rfl
    have e : putI l (ki x) (kv x) = l ++ [(ki x, kv x)] := by unfold putI; rw [if_neg hx]
    rw [e, fold_new ki kv xs (l ++ [(ki x, kv x)]) (by simpa using nd)]
    simp
theorem numA_map : ∀ (ys : List Int) (k : Nat), (List.range ys.length).map (fun i => (ys.getD i 0, A.dat (.int ((k + i : Nat) : Int)))) = numA k ys
  | [], _ => rfl
  | y :: ys, k => by
    rw [List.length_cons, List.range_succ_eq_map, List.map_cons, List.map_map]
    unfold numA
    rw [← numA_map ys (k + 1)]
    congr 1
    refine List.map_congr_left fun i _ => ?_
    simp
    omega
end TK
set_option maxHeartbeats 2000000
namespace TK
open PySem PySem.Spec PyProof.Rows L2
section
variable {prog : Program} {w : World} {A : Around} {E : Value → Shared → Prop} {s : Shared}
theorem adj_rev (n : Nat) : Builtin.Slice.sliceAdjust none none (-1) (n : Int) = ((n : Int) - 1, -1) := by
  unfold Builtin.Slice.sliceAdjust
  simp
theorem places_rev (n : Nat) : Builtin.Slice.slicePlaces ((n : Int) - 1) (-1) (-1) = n := by
  unfold Builtin.Slice.slicePlaces
  simp
  omega
theorem applied_rev {sl : Addr} {vl vu vs : Value} {n : Nat} {Q : Int × Int × Nat → Shared → Prop} (hs : s.heap.IsSliceOf sl vl vu vs) (pl : IsPart vl none) (pu : IsPart vu none) (ps : IsPart vs (some (-1)))
    (h : Q ((n : Int) - 1, -1, n) s) : wpAny (model prog w) A (Builtin.Slice.sliceApplied (.ref sl) (pure (n : Int))) Q E s := by
  cases pl
  cases pu
  obtain ⟨os, hos, hcs, hds⟩ := id hs
  unfold Builtin.Slice.sliceApplied Builtin.Slice.sliceFields
  refine wpAny_bind (wpAny_bind (wpAny_field hos hds (x := Value.none) rfl (wpAny_bind (wpAny_field hos hds (x := Value.none) rfl (wpAny_bind (wpAny_field hos hds (x := vs) rfl (wpAny_pure ?_)))))))
  refine wpAny_bind (_root_.HT.slicePart_ ps ?_)
  refine (show wpAny (model prog w) A (if ((-1 : Int) == 0) = true then _ else _) Q E s from ?_)
  rw [if_neg (by decide)]
  refine wpAny_bind (PyProof.Rows.slicePart_none (wpAny_bind (PyProof.Rows.slicePart_none (wpAny_bind (wpAny_pure ?_)))))
  refine (show wpAny (model prog w) A (match Builtin.Slice.sliceAdjust none none (-1) (n : Int) with | (lo, hi) => pure (lo, (-1 : Int), Builtin.Slice.slicePlaces lo hi (-1))) Q E s from ?_)
  rw [adj_rev n]
  refine (show wpAny (model prog w) A (pure ((n : Int) - 1, (-1 : Int), Builtin.Slice.slicePlaces ((n : Int) - 1) (-1) (-1))) Q E s from ?_)
  rw [places_rev]
  exact wpAny_pure h
theorem fm_congr {α β : Type} {f g : α → Option β} : ∀ {l : List α}, (∀ x ∈ l, f x = g x) → l.filterMap f = l.filterMap g
  | [], _ => rfl
  | a :: l, h => by
    have e := fm_congr (l := l) fun x hx => h x (by simp [hx])
    rw [List.filterMap_cons, List.filterMap_cons, h a (by simp), e]
theorem fm_all {α : Type} : ∀ (l : List α), (List.range l.length).filterMap (fun m => l[l.length - 1 - m]?) = l.reverse := fun l => by
  cases hl : l with
  | nil => rfl
  | cons a r =>
    rw [← hl]
    have e : (List.range l.length).filterMap (fun m => l[l.length - 1 - m]?) = (List.range l.length).map (fun m => l.getD (l.length - 1 - m) a) := by
      rw [← List.filterMap_eq_map]
      refine fm_congr fun m hm => ?_
      have hm : m < l.length := List.mem_range.mp hm
      rw [List.getElem?_eq_getElem (by omega)]
      simp [List.getElem?_eq_getElem (show l.length - 1 - m < l.length by omega)]
    rw [e]
    apply List.ext_getElem?
    intro i
    by_cases hi : i < l.length
    · rw [List.getElem?_map, List.getElem?_range hi, List.getElem?_reverse hi]
      simp [List.getElem?_eq_getElem (show l.length - 1 - i < l.length by omega)]
    · rw [List.getElem?_eq_none (by simp; omega), List.getElem?_eq_none (by simp; omega)]
theorem pick_rev (xs : Array Value) : ((List.range xs.size).filterMap fun (m : Nat) => xs[(((xs.size : Int) - 1) + (m : Int) * (-1)).toNat]?).toArray = xs.toList.reverse.toArray := by
  congr 1
  rw [← fm_all xs.toList, Array.length_toList]
  refine fm_congr fun m hm => ?_
  have hm : m < xs.size := List.mem_range.mp hm
  rw [show (((xs.size : Int) - 1) + (m : Int) * (-1)).toNat = xs.size - 1 - m by omega, Array.getElem?_toList]
theorem getItem_tuple_rev {t sl : Addr} {items : Array Value} {vl vu vs : Value} {Q : Value → Shared → Prop} (ht : IsTup s.heap t items) (hs : s.heap.IsSliceOf sl vl vu vs) (pl : IsPart vl none) (pu : IsPart vu none) (ps : IsPart vs (some (-1)))
    (h : Q (.ref s.heap.objs.size) { s with heap := s.heap.push { cls := .type "tuple", data := .seq items.toList.reverse.toArray } }) (hsz : items.size ≤ sizeLine) : wpAny (model prog w) A (getItem (.ref t) (.ref sl)) Q E s := by
  have hok : sizeOk (.seq items.toList.reverse.toArray) := by
    show items.toList.reverse.toArray.size ≤ sizeLine
    simpa using hsz
  obtain ⟨os, hos, hcs, hds⟩ := id hs
  have hTs : s.TypeIs (.ref sl) "slice" := ⟨os, hos, hcs⟩
  unfold getItem
  try with_reducible refine wpAny_holding ?_
  first | refine wpAny_bind (wpAny_pure ?_) | skip
  refine wpAny_bind (wpAny_sequenceKey ht.typeIs (by decide) (wpAny_bind (wpAny_callSpecial?_slot (name := Str.ofString "__getitem__") ht.typeIs PyProof.Rows.slot_tuple_getitem (wpAny_call_entry PyProof.Rows.slot_tuple_getitem ht.typeIs entry_tuple_getitem ?_ (args_tuple_getitem _ _)))))
  refine (show wpAny (model prog w) _ (Builtin.Tuple.tupleItemsOf (.ref t) >>= _) _ _ s from wpAny_bind (PyProof.Rows.tupleItemsOf_ ht (wpAny_bind (wpAny_typeOf hTs ?_))))
  rw [if_pos (by decide)]
  refine wpAny_bind (applied_rev hs pl pu ps ?_)
  have hno : ¬ ((((items.size : Int) - 1) == 0 && (-1 : Int) == 1 && items.size == items.size) = true) := by
    intro q
    rw [Bool.and_eq_true, Bool.and_eq_true] at q
    exact absurd q.1.2 (by decide)
  refine (show wpAny (model prog w) _ (if (((items.size : Int) - 1) == 0 && (-1 : Int) == 1 && items.size == items.size) = true then _ else _) _ _ s from ?_)
  rw [if_neg hno, pick_rev]
  first
    | exact wpAny_bind (m := Builtin.Tuple.tupleExact _) (wpAny_newObj_type (wpAny_pure ⟨_, rfl, wpAny_pure h⟩) hok)
    | exact wpAny_bind (m := Builtin.Tuple.tupleExact _) (wpAny_newObj_type (wpAny_bind (wpAny_pure (wpAny_pure ⟨_, rfl, wpAny_pure h⟩))) hok)
    | exact wpAny_bind (wpAny_bind (m := Builtin.Tuple.tupleExact _) (wpAny_newObj_type (wpAny_pure (wpAny_pure ⟨_, rfl, wpAny_pure h⟩)) hok))
    | exact wpAny_bind (wpAny_bind (m := Builtin.Tuple.tupleExact _) (wpAny_newObj_type (wpAny_pure ⟨_, rfl, wpAny_pure h⟩) hok))
end
def tRevA (K : PySem.W.Frag) (te : TE) : TE := fun σ H Q => te σ H fun x H1 => ∃ a xs, x = .ref a ∧ SqT K H1 a xs ∧ ∀ p, H1 p = none → Q (.ref p) (upd H1 p (.tup xs.reverse))
theorem pe_revA {X : Cx} {K : PySem.W.Frag} {e : Expr} {te : TE} {k : Nat} {p1 p2 p3 pos : Pos} (hK : X.K = K) (he : PE X e te) : PE X (.Subscript e (.Slice none none (some (.UnaryOp .USub (.Constant (.int 1) k p1) p2)) p3) pos) (tRevA K te) := by
  subst hK
  constructor
  intro pins s σ H Q I h
  refine Subscript_ (thn (he.run pins s σ H _ I h) fun v s1 ⟨x, H1, I1, r1, a, xs, ex, hx, q⟩ => ?_)
  subst ex
  cases r1
  have hst : PO X (some (.UnaryOp .USub (.Constant (.int 1) k p1) p2)) (tPart (tUn (rU fun i => .int (-i)) (tC (.int 1)))) := po_some (pe_un un_neg pe_int)
  refine wpAny_Slice (thn (po_none.run pins s1 σ H1 (fun o G => o = none ∧ G = H1) I1 ⟨rfl, rfl⟩) fun vl s2 ⟨l, H2, I2, pl, el, e2⟩ => ?_)
  subst el e2
  refine thn (po_none.run pins s2 σ H2 (fun o G => o = none ∧ G = H2) I2 ⟨rfl, rfl⟩) fun vu s3 ⟨u, H3, I3, pu, eu, e3⟩ => ?_
  subst eu e3
  refine thn (hst.run pins s3 σ H3 (fun o G => o = some (-1) ∧ G = H3) I3 ⟨1, rfl, -1, rfl, rfl, rfl⟩) fun vs s4 ⟨o, H4, I4, ps, eo, e4⟩ => ?_
  subst eo e4
  have I5 : Inv X pins σ H4 { s4 with heap := s4.heap.push { cls := .type "slice", data := .fields #[vl, vu, vs] } } := I4.kept (t' := s4.toks) fun b ob q => Heap.get?_push_of_some _ q
  obtain ⟨its, r, ht, hz⟩ := I5.tuple hx
  have hle : its.length = xs.length := r.length.symm
  refine (show wpAny (model X.prog X.w) X.A (subscriptTail e (.Slice none none (some (.UnaryOp .USub (.Constant (.int 1) k p1) p2)) p3) (.ref a) (.ref s4.heap.objs.size)) (EP X pins σ Q) X.xe { s4 with heap := s4.heap.push { cls := .type "slice", data := .fields #[vl, vu, vs] } } from ?_)
  refine tail_any (ops := [.ref a, .ref s4.heap.objs.size]) ht.typeIs PyProof.Rows.slot_tuple_getitem.lookup (getItem_tuple_rev ht (Heap.IsSliceOf.new _ vl vu vs) pl pu ps ?_ (by rw [List.size_toArray, hle]; exact hz)) (by with_unfolding_all rfl)
  refine ⟨.ref _, _, I5.laid (t' := s4.toks) (o := .tup xs.reverse) (fun b ob q => Heap.get?_push_of_some _ q) (Nat.le_refl _) ⟨by rw [List.length_reverse]; exact hz, its.reverse, r.reverse, ?_⟩, rfl, q _ (I5.hok.fresh (Nat.le_refl _))⟩
  exact ⟨_, Heap.get?_push_size _ rfl, rfl, _, rfl⟩
variable [TC]
theorem e_revA {δ : Dl} {μ : Mu} {te : TE} {K : PySem.W.Frag} {ds : List D} (h : E δ μ te (.dat (.tup ds))) : E δ μ (tRevA K te) (.dat (.tup ds.reverse)) := fun σ H s Q k =>
  h σ H s _ fun v H1 f1 r1 => by
    obtain ⟨a, vs, rfl, ht, hr⟩ := rp_tup r1
    exact ⟨a, vs, rfl, SqT.of ht, fun p hp => k _ _ (f1.trans0 (Fr.new hp nt_tup)) (Rp.tup upd_same (hr.reverse.mono (Fr.new hp nt_tup).tup))⟩
end TK
set_option maxHeartbeats 2000000
namespace T
open PySem L2 NdefX LamX TK
variable [TC]
structure Tn.Sz (t : Tn) : Prop where
  lb : t.B.length ≤ 1000
  le : t.E.length ≤ 1000
  lf : t.F.length ≤ 1000
  wb : ∀ m ∈ t.B, m.w.length ≤ 1000
  we : ∀ m ∈ t.E, m.w.length ≤ 1000
  wf : ∀ m ∈ t.F, m.w.length ≤ 1000
theorem Tn.Ok.sz {t : Tn} (h : t.Ok) : t.Sz := ⟨h.lb, h.le, h.lf, fun m hm => (h.b m hm).2.2.1, fun m hm => (h.e m hm).2.2.2.2.2.2.1, fun m hm => (h.f m hm).2.2.1⟩
def Tn.live (t : Tn) : Int → Prop := Rc (t.E.map fun e => (e.b, e.a)) (t.F.map Mk.p)
def Tn.rch (t : Tn) : Int → Prop := Rc (t.E.map fun e => (e.a, e.b)) (t.B.map Mk.p)
def G_set (S : Tn → Int → Prop) : List TK.A → Mu → (TK.A → Mu → Prop) → Prop := fun xs μ R => ∃ t : Tn, xs = [.dat t.d] ∧ μ = [] ∧ t.Sz ∧ R = fun x μ' => ∃ f fs, x = .own f ∧ μ' = [(f, C.dk (fk fs))] ∧ fs.Nodup ∧ ∀ q, q ∈ fs ↔ S t q
section
variable {P : Program} {w : World} {K : PySem.W.Frag} {mg : Str → Option Value} {base : Heap}
abbrev N_live_in : List Str := ["turner", "place", "word", "edge"]
abbrev P_live_in : List Str := ["turner"]
theorem sc_live_in : FnScope N_live_in P_live_in (defScope s_live_in) := ⟨rfl, rfl, rfl, by decide +kernel, rfl, by decide +kernel, by decide +kernel⟩
theorem bd_live_in (kV doc pm : Value) (an : Option Addr) (cdv ct : Value) (us : List Value) (hl : us.length = (P_live_in : List Str).length) : bindArgs (PySem.W.fnOf "live_in" "live_in" (defArgs s_live_in) (defBody s_live_in) (defScope s_live_in) .none kV doc pm an cdv ct) ⟨us, []⟩ = pure ((P_live_in : List Str).zip us) := match us, hl with
  | [_], _ => rfl
theorem ok_live_in (T : Bl mg) (R : Raw K mg "live_in" s_live_in) (d_closed : Dn P w K mg base "closed" P_closed 1 (spM G_closed)) : Dn P w K mg base "live_in" P_live_in 2 (spM (G_set Tn.live)) := by
  refine R.dnM sc_live_in (fun ds d R ⟨t, e, _⟩ => by rw [e]; rfl) (by decide) bd_live_in fun cdv Ao outer s H E hr => ⟨_, (pss_one (ps_ret (pe_def d_closed hr (by decide) (by rfl) (pa_cons (pe_lc rfl sc_live_in.nd (pi_seq (pe_ix ix_any (pv 0) pe_int (fun _ _ => rfl))) (blkOk_by (own := [("place", 1), ("word", 2)]) (N := N_live_in) (sc := defScope s_live_in) (by decide +kernel)) (fun _ _ _ _ _ => (pg_tupK (n := 2) (K := K) rfl rfl (pgs_cons (pg_name (i := 1) sc_live_in.nd rfl (Or.inl rfl)) (pgs_cons (pg_name (i := 2) sc_live_in.nd rfl (Or.inl rfl)) pgs_nil)))) (fun _ _ _ _ _ => pts_nil) (fun _ _ _ _ _ => (pv 1))) (pa_cons (pe_lc rfl sc_live_in.nd (pi_seq (pe_ix ix_any (pv 0) pe_int (fun _ _ => rfl))) (blkOk_by (own := [("edge", 3)]) (N := N_live_in) (sc := defScope s_live_in) (by decide +kernel)) (fun _ _ _ _ _ => (pg_name (i := 3) sc_live_in.nd rfl (Or.inl rfl))) (fun _ _ _ _ _ => pts_nil) (fun _ _ _ _ _ => (pe_tup (pa_cons (pe_ix (ixK (K := K) rfl ix_any) (pv 3) pe_int (fun _ _ => rfl)) (pa_cons (pe_ix (ixK (K := K) rfl ix_any) (pv 3) pe_int (fun _ _ => rfl)) pa_nil))))) pa_nil))))), ?_⟩
  rintro ds μ R ⟨t, rfl, rfl, hs, rfl⟩
  refine ht_retX (ex_callA (ρ := []) (R := fun x μ' => ∃ f fs, x = .own f ∧ μ' = [(f, C.dk (fk fs))] ∧ fs.Nodup ∧ ∀ q, q ∈ fs ↔ t.live q)
    (exa_NN (c1 := .lst (intsL (t.F.map Mk.p))) (c2 := .lst (arL (t.E.map fun e => (e.b, e.a)))) (en_is (en_lcGY (l := t.F) (q := fun m => .dat m.d) (ei_seqM (e_ixT (e_var rfl) e_int rfl)).ei (by have := hs.lf; omega) (fun m => .dat (.int m.p)) fun m hm => ?_) (by simp [intsL]))
      fun p => en_is (en_lcGY (l := t.E) (q := fun m => .dat m.d) (ei_seqM (e_ixT (e_var rfl) e_int rfl)).ei (by have := hs.le; omega) (fun m => .dat (prD (m.b, m.a))) fun m hm => ?_) (by simp [arL]))
    ?_) ?_
  · exact ⟨_, _, tg_tup (ds := [.int m.p, wD m.w]) (tgs_cons tg_name (tgs_cons tg_name tgs_nil)) rfl, by simp, e_var rfl⟩
  · exact ⟨_, _, tg_name, by simp, e_tup (ds := [.int m.b, .int m.a]) (ea_cons (e_ixT (ds := [.int m.a, .int m.s, .int m.b, wD m.w]) (e_var rfl) e_int rfl) (ea_cons (e_ixT (ds := [.int m.a, .int m.s, .int m.b, wD m.w]) (e_var rfl) e_int rfl) ea_nil)) (by simp)⟩
  · rintro xs μ1 ⟨p, q, rfl, rfl⟩
    exact ⟨_, _, rfl, ⟨p, q, t.F.map Mk.p, t.E.map fun e : Ed => (e.b, e.a), rfl, rfl, by simpa using hs.lf, by simpa using hs.le, rfl⟩, fun x ν' h => h⟩
  · rintro x μ' ⟨ν', h, rfl⟩
    rw [List.append_nil]
    exact h
abbrev N_reached_in : List Str := ["turner", "place", "word", "edge"]
abbrev P_reached_in : List Str := ["turner"]
theorem sc_reached_in : FnScope N_reached_in P_reached_in (defScope s_reached_in) := ⟨rfl, rfl, rfl, by decide +kernel, rfl, by decide +kernel, by decide +kernel⟩
theorem bd_reached_in (kV doc pm : Value) (an : Option Addr) (cdv ct : Value) (us : List Value) (hl : us.length = (P_reached_in : List Str).length) : bindArgs (PySem.W.fnOf "reached_in" "reached_in" (defArgs s_reached_in) (defBody s_reached_in) (defScope s_reached_in) .none kV doc pm an cdv ct) ⟨us, []⟩ = pure ((P_reached_in : List Str).zip us) := match us, hl with
  | [_], _ => rfl
theorem ok_reached_in (T : Bl mg) (R : Raw K mg "reached_in" s_reached_in) (d_closed : Dn P w K mg base "closed" P_closed 1 (spM G_closed)) : Dn P w K mg base "reached_in" P_reached_in 2 (spM (G_set Tn.rch)) := by
  refine R.dnM sc_reached_in (fun ds d R ⟨t, e, _⟩ => by rw [e]; rfl) (by decide) bd_reached_in fun cdv Ao outer s H E hr => ⟨_, (pss_one (ps_ret (pe_def d_closed hr (by decide) (by rfl) (pa_cons (pe_lc rfl sc_reached_in.nd (pi_seq (pe_ix ix_any (pv 0) pe_int (fun _ _ => rfl))) (blkOk_by (own := [("place", 1), ("word", 2)]) (N := N_reached_in) (sc := defScope s_reached_in) (by decide +kernel)) (fun _ _ _ _ _ => (pg_tupK (n := 2) (K := K) rfl rfl (pgs_cons (pg_name (i := 1) sc_reached_in.nd rfl (Or.inl rfl)) (pgs_cons (pg_name (i := 2) sc_reached_in.nd rfl (Or.inl rfl)) pgs_nil)))) (fun _ _ _ _ _ => pts_nil) (fun _ _ _ _ _ => (pv 1))) (pa_cons (pe_lc rfl sc_reached_in.nd (pi_seq (pe_ix ix_any (pv 0) pe_int (fun _ _ => rfl))) (blkOk_by (own := [("edge", 3)]) (N := N_reached_in) (sc := defScope s_reached_in) (by decide +kernel)) (fun _ _ _ _ _ => (pg_name (i := 3) sc_reached_in.nd rfl (Or.inl rfl))) (fun _ _ _ _ _ => pts_nil) (fun _ _ _ _ _ => (pe_tup (pa_cons (pe_ix (ixK (K := K) rfl ix_any) (pv 3) pe_int (fun _ _ => rfl)) (pa_cons (pe_ix (ixK (K := K) rfl ix_any) (pv 3) pe_int (fun _ _ => rfl)) pa_nil))))) pa_nil))))), ?_⟩
  rintro ds μ R ⟨t, rfl, rfl, hs, rfl⟩
  refine ht_retX (ex_callA (ρ := []) (R := fun x μ' => ∃ f fs, x = .own f ∧ μ' = [(f, C.dk (fk fs))] ∧ fs.Nodup ∧ ∀ q, q ∈ fs ↔ t.rch q)
    (exa_NN (c1 := .lst (intsL (t.B.map Mk.p))) (c2 := .lst (arL (t.E.map fun e => (e.a, e.b)))) (en_is (en_lcGY (l := t.B) (q := fun m => .dat m.d) (ei_seqM (e_ixT (e_var rfl) e_int rfl)).ei (by have := hs.lb; omega) (fun m => .dat (.int m.p)) fun m hm => ?_) (by simp [intsL]))
      fun p => en_is (en_lcGY (l := t.E) (q := fun m => .dat m.d) (ei_seqM (e_ixT (e_var rfl) e_int rfl)).ei (by have := hs.le; omega) (fun m => .dat (prD (m.a, m.b))) fun m hm => ?_) (by simp [arL]))
    ?_) ?_
  · exact ⟨_, _, tg_tup (ds := [.int m.p, wD m.w]) (tgs_cons tg_name (tgs_cons tg_name tgs_nil)) rfl, by simp, e_var rfl⟩
  · exact ⟨_, _, tg_name, by simp, e_tup (ds := [.int m.a, .int m.b]) (ea_cons (e_ixT (ds := [.int m.a, .int m.s, .int m.b, wD m.w]) (e_var rfl) e_int rfl) (ea_cons (e_ixT (ds := [.int m.a, .int m.s, .int m.b, wD m.w]) (e_var rfl) e_int rfl) ea_nil)) (by simp)⟩
  · rintro xs μ1 ⟨p, q, rfl, rfl⟩
    exact ⟨_, _, rfl, ⟨p, q, t.B.map Mk.p, t.E.map fun e : Ed => (e.a, e.b), rfl, rfl, by simpa using hs.lb, by simpa using hs.le, rfl⟩, fun x ν' h => h⟩
  · rintro x μ' ⟨ν', h, rfl⟩
    rw [List.append_nil]
    exact h
end
end T
set_option maxHeartbeats 2000000
namespace T
open PySem L2 NdefX LamX TK
variable [TC]
def num (ks : List Int) (p : Int) : Int := (((sortI ks).idxOf p : Nat) : Int)
def keptM (ks : List Int) (l : List Mk) : List Mk := (l.filter fun m => decide (m.p ∈ ks)).map fun m => ⟨num ks m.p, m.w⟩
def keptE (ks : List Int) (l : List Ed) : List Ed := (l.filter fun e => decide (e.a ∈ ks) && decide (e.b ∈ ks)).map fun e => ⟨num ks e.a, e.s, num ks e.b, e.w⟩
def keptT (t : Tn) (ks : List Int) : Tn := ⟨t.S, t.L, max 1 (ks.length : Int), keptM ks t.B, keptE ks t.E, keptM ks t.F⟩
def G_kept : List TK.A → Mu → (TK.A → Mu → Prop) → Prop := fun xs μ R => ∃ (t : Tn) (a : Addr) (ks : List Int), xs = [.dat t.d, .own a] ∧ μ = [(a, C.dk (fk ks))] ∧ t.Sz ∧ ks.Nodup ∧ ks.length < 64 ∧ R = fun x μ' => x = .dat (keptT t ks).d ∧ μ' = []
theorem mem_sortI {ks : List Int} {p : Int} : p ∈ sortI ks ↔ p ∈ ks := (sortI_perm ks).mem_iff
theorem num_val {ks : List Int} {p : Int} (h : p ∈ ks) : valA (kI (numA 0 (sortI ks))) (.inl p) = some (.dat (.int (num ks p))) := by
  rw [val_kI, numA_look (mem_sortI.mpr h), Nat.zero_add]
  rfl
section
variable {P : Program} {w : World} {K : PySem.W.Frag} {mg : Str → Option Value} {base : Heap}
abbrev N_kept_places : List Str := ["turner", "kept", "numbers", "begins", "edges", "one", "sign", "two", "word", "ends", "number", "place"]
abbrev P_kept_places : List Str := ["turner", "kept"]
theorem sc_kept_places : FnScope N_kept_places P_kept_places (defScope s_kept_places) := ⟨rfl, rfl, rfl, by decide +kernel, rfl, by decide +kernel, by decide +kernel⟩
theorem bd_kept_places (kV doc pm : Value) (an : Option Addr) (cdv ct : Value) (us : List Value) (hl : us.length = (P_kept_places : List Str).length) : bindArgs (PySem.W.fnOf "kept_places" "kept_places" (defArgs s_kept_places) (defBody s_kept_places) (defScope s_kept_places) .none kV doc pm an cdv ct) ⟨us, []⟩ = pure ((P_kept_places : List Str).zip us) := match us, hl with
  | [_, _], _ => rfl
theorem ok_kept_places (T : Bl mg) (R : Raw K mg "kept_places" s_kept_places) : Dn P w K mg base "kept_places" P_kept_places 1 (spM G_kept) := by
  refine R.dnM sc_kept_places (fun ds d R ⟨t, a, ks, e, _⟩ => by rw [e]; rfl) (by decide) bd_kept_places fun cdv Ao outer s H E hr => ⟨_, (pss_cons (ps_set (i := 2) sc_kept_places.nd rfl (Or.inr rfl) (pe_dc rfl sc_kept_places.nd (pi_enumA rfl T.enumerate (pa_cons (pe_callB (cr_srt rfl hr) (by rfl) T.sorted bb_sorted (pa_cons (pv 1) pa_nil)) pa_nil)) (blkOk_by (own := [("number", 10), ("place", 11)]) (N := N_kept_places) (sc := defScope s_kept_places) (by decide +kernel)) (fun _ _ _ _ _ => (pg_tupK (n := 2) (K := K) rfl rfl (pgs_cons (pg_name (i := 10) sc_kept_places.nd rfl (Or.inl rfl)) (pgs_cons (pg_name (i := 11) sc_kept_places.nd rfl (Or.inl rfl)) pgs_nil)))) (fun _ _ _ _ _ => pts_nil) (fun _ _ _ _ _ => (pv 11)) (fun _ _ _ _ _ => (pv 10))))
      (pss_cons (ps_setLc (i := 3) rfl sc_kept_places.nd rfl rfl (sw_true rfl rfl rfl (by decide +kernel)) (pi_seq (pe_ix ix_any (pv 0) pe_int (fun _ _ => rfl))) (blkOk_by (own := [("place", 11), ("word", 8)]) (N := N_kept_places) (sc := defScope s_kept_places) (by decide +kernel)) (fun _ _ _ _ _ => (pg_tupK (n := 2) (K := K) rfl rfl (pgs_cons (pg_name (i := 11) sc_kept_places.nd rfl (Or.inl rfl)) (pgs_cons (pg_name (i := 8) sc_kept_places.nd rfl (Or.inl rfl)) pgs_nil)))) (fun _ _ _ _ _ => pts_one (pt_cmp (pc_din (hu_of hr) (pv 11) (pv 1)))) (fun _ _ _ _ _ => (pe_tup (pa_cons (pe_dget (hu_of hr) (pv 2) (pv 11) (fun _ _ => rfl)) (pa_cons (pv 8) pa_nil)))))
      (pss_cons (ps_set (i := 4) sc_kept_places.nd rfl (Or.inl rfl) (pe_lst pa_nil))
      (pss_cons (ps_for PassesOwn.never rfl (pi_seq (pe_ix ix_any (pv 0) pe_int (fun _ _ => rfl))) (pg_tup rfl (pgs_cons (pg_name (i := 5) sc_kept_places.nd rfl (Or.inl rfl)) (pgs_cons (pg_name (i := 6) sc_kept_places.nd rfl (Or.inl rfl)) (pgs_cons (pg_name (i := 7) sc_kept_places.nd rfl (Or.inl rfl)) (pgs_cons (pg_name (i := 8) sc_kept_places.nd rfl (Or.inl rfl)) pgs_nil)))))
      (pss_one (ps_if (PW.pt (pw_and (pt_cmp (pc_din (hu_of hr) (pv 5) (pv 1))) (pw_and1 (pt_cmp (pc_din (hu_of hr) (pv 7) (pv 1)))))) (pss_one (ps_expr (pe_bm PySem.F.plainAttrs_list PySem.F.slot_list_append PySem.F.type_list_append mt_append (pv 4) (pa_cons (pe_tup (pa_cons (pe_dget (hu_of hr) (pv 2) (pv 5) (fun _ _ => rfl)) (pa_cons (pv 6) (pa_cons (pe_dget (hu_of hr) (pv 2) (pv 7) (fun _ _ => rfl)) (pa_cons (pv 8) pa_nil))))) pa_nil)))) pss_nil)))
      (pss_cons (ps_setLc (i := 9) rfl sc_kept_places.nd rfl rfl (sw_true rfl rfl rfl (by decide +kernel)) (pi_seq (pe_ix ix_any (pv 0) pe_int (fun _ _ => rfl))) (blkOk_by (own := [("place", 11), ("word", 8)]) (N := N_kept_places) (sc := defScope s_kept_places) (by decide +kernel)) (fun _ _ _ _ _ => (pg_tupK (n := 2) (K := K) rfl rfl (pgs_cons (pg_name (i := 11) sc_kept_places.nd rfl (Or.inl rfl)) (pgs_cons (pg_name (i := 8) sc_kept_places.nd rfl (Or.inl rfl)) pgs_nil)))) (fun _ _ _ _ _ => pts_one (pt_cmp (pc_din (hu_of hr) (pv 11) (pv 1)))) (fun _ _ _ _ _ => (pe_tup (pa_cons (pe_dget (hu_of hr) (pv 2) (pv 11) (fun _ _ => rfl)) (pa_cons (pv 8) pa_nil)))))
      (pss_one (ps_ret (pe_tup (pa_cons (pe_ix ix_any (pv 0) pe_int (fun _ _ => rfl)) (pa_cons (pe_ix ix_any (pv 0) pe_int (fun _ _ => rfl)) (pa_cons (pe_callB (cr_max2 rfl) (by rfl) T.max bb_max (pa_cons pe_int (pa_cons (pe_callB cr_len (by rfl) T.len bb_len (pa_cons (pv 2) pa_nil)) pa_nil))) (pa_cons (pe_callTy call_tupleOf (by rfl) T.tuple bb_tuple (pa_cons (pv 3) pa_nil)) (pa_cons (pe_callTy call_tupleOf (by rfl) T.tuple bb_tuple (pa_cons (pv 4) pa_nil)) (pa_cons (pe_callTy call_tupleOf (by rfl) T.tuple bb_tuple (pa_cons (pv 9) pa_nil)) pa_nil)))))))))))))), ?_⟩
  rintro ds μ R ⟨t, a, ks, rfl, rfl, hs, nd, hl, rfl⟩
  have hys : (sortI ks).Nodup := (sortI_perm ks).nodup_iff.mpr nd
  have hyl : (sortI ks).length = ks.length := (sortI_perm ks).length_eq
  refine ht_seq (ht_setN (o := .dk (kI (numA 0 (sortI ks)))) (en_is (en_dcG (l := List.range ((sortI ks).map D.int).length) (q := fun (i : Nat) => .dat (.tup [.int (i : Nat), ((sortI ks).map D.int).getD i .non])) (ei_enumN (ds := (sortI ks).map .int) (en_is (en_srtDI (ks := ks) 0 (e_var rfl) rfl keys_fk hl) (by rw [List.map_map]; rfl))) ?_ (fun _ => true) (fun i => .inl ((sortI ks).getD i 0)) (fun (i : Nat) => .dat (.int (i : Int))) fun i hi => ?_) ?_) fun an => ?_)
  · simp [hyl]; omega
  · have hi : i < (sortI ks).length := by simpa using hi
    have g : ((sortI ks).map D.int).getD i .non = .int ((sortI ks).getD i 0) := by simp [List.getElem?_eq_getElem hi]
    rw [g]
    exact ⟨_, _, tg_tup (ds := [.int (i : Nat), .int ((sortI ks).getD i 0)]) (tgs_cons tg_name (tgs_cons tg_name tgs_nil)) rfl, by simp, et_yes, fun _ => ⟨⟨.int ((sortI ks).getD i 0), rfl, e_var rfl⟩, e_var rfl⟩⟩
  · rw [List.filter_eq_self.mpr fun _ _ => rfl, List.length_map]
    have h := fold_new (fun i => (sortI ks).getD i 0) (fun (i : Nat) => A.dat (.int (i : Int))) (List.range (sortI ks).length) []
    have e := numA_map (sortI ks) 0
    simp only [Nat.zero_add] at e
    rw [e] at h
    refine congrArg C.dk (h ?_)
    have e2 := numA_keys (ys := sortI ks) (k := 0)
    rw [← e, List.map_map] at e2
    rw [List.map_nil, List.nil_append]
    rw [show (List.range (sortI ks).length).map (fun i => (sortI ks).getD i 0) = sortI ks from e2]
    exact hys
  have hmn : ∀ (c : C), ([(an, c), (a, C.dk (fk ks))] : Mu)[1]? = some (a, C.dk (fk ks)) := fun _ => rfl
  refine ht_seq (ht_setN (o := .lst ((keptM ks t.B).map fun m => .dat m.d)) (en_is (en_lcG (l := t.B) (q := fun m => .dat m.d) (ei_seqM (e_ixT (e_var rfl) e_int rfl)).ei (by have := hs.lb; omega) (fun m => decide (m.p ∈ ks)) (fun m => .dat (Mk.d ⟨num ks m.p, m.w⟩)) fun m hm => ?_) ?_) fun ab => ?_)
  · refine ⟨_, _, tg_tup (ds := [.int m.p, wD m.w]) (tgs_cons tg_name (tgs_cons tg_name tgs_nil)) rfl, by simp, (et_test (e_din (k := .inl m.p) 1 (e_var rfl) (e_var rfl) rfl rfl)).is fk_mem, fun h => ?_⟩
    exact e_tup (ds := [.int (num ks m.p), wD m.w]) (ea_cons (e_dget (k := .inl m.p) 0 (e_var rfl) (e_var rfl) rfl rfl (num_val (of_decide_eq_true h))) (ea_cons (e_var rfl) ea_nil)) (by simp)
  · unfold keptM
    rw [List.map_map]
    rfl
  refine ht_seq (ht_setN (en_lst (xs := []) ea_nil (by simp)) fun ae => ?_)
  refine ht_cut (N := fun δ μ => μ = [(ae, C.lst ((keptE ks t.E).map fun m => .dat m.d)), (ab, C.lst ((keptM ks t.B).map fun m => .dat m.d)), (an, C.dk (kI (numA 0 (sortI ks)))), (a, C.dk (fk ks))] ∧ δ.length = 12 ∧ δ[0]? = some (some (.dat t.d)) ∧ δ[1]? = some (some (.own a)) ∧ δ[2]? = some (some (.own an)) ∧ δ[3]? = some (some (.own ab)) ∧ δ[4]? = some (some (.own ae))) ?_ ?_
  · refine ht_forG (l := t.E) (q := fun m => .dat m.d) (ei_seqM (e_ixT (e_var rfl) e_int rfl)) (fun i δ μ => μ = [(ae, C.lst ((keptE ks (t.E.take i)).map fun m => .dat m.d)), (ab, C.lst ((keptM ks t.B).map fun m => .dat m.d)), (an, C.dk (kI (numA 0 (sortI ks)))), (a, C.dk (fk ks))] ∧ δ.length = 12 ∧ δ[0]? = some (some (.dat t.d)) ∧ δ[1]? = some (some (.own a)) ∧ δ[2]? = some (some (.own an)) ∧ δ[3]? = some (some (.own ab)) ∧ δ[4]? = some (some (.own ae))) ⟨rfl, rfl, rfl, rfl, rfl, rfl, rfl⟩ ?_ ?_
    · rintro i m δ1 μ1 hm ⟨rfl, h12, h0, h1, h2, h3, h4⟩
      refine ⟨_, _, tg_tup (ds := [.int m.a, .int m.s, .int m.b, wD m.w]) (tgs_cons tg_name (tgs_cons tg_name (tgs_cons tg_name (tgs_cons tg_name tgs_nil)))) rfl, ?_⟩
      refine HT.to (δ' := [some (.dat t.d), some (.own a), some (.own an), some (.own ab), some (.own ae), some (.dat (.int m.a)), some (.dat (.int m.s)), some (.dat (.int m.b)), some (.dat (wD m.w)), none, none, none]) ?_ (by simp [h12]) ⟨?_, ?_, ?_, ?_, ?_, ?_, ?_, ?_, ?_, trivial⟩
      rotate_left
      · rw [List.getElem?_set_ne (by decide), List.getElem?_set_ne (by decide), List.getElem?_set_ne (by decide), List.getElem?_set_ne (by decide)]; exact h0
      · rw [List.getElem?_set_ne (by decide), List.getElem?_set_ne (by decide), List.getElem?_set_ne (by decide), List.getElem?_set_ne (by decide)]; exact h1
      · rw [List.getElem?_set_ne (by decide), List.getElem?_set_ne (by decide), List.getElem?_set_ne (by decide), List.getElem?_set_ne (by decide)]; exact h2
      · rw [List.getElem?_set_ne (by decide), List.getElem?_set_ne (by decide), List.getElem?_set_ne (by decide), List.getElem?_set_ne (by decide)]; exact h3
      · rw [List.getElem?_set_ne (by decide), List.getElem?_set_ne (by decide), List.getElem?_set_ne (by decide), List.getElem?_set_ne (by decide)]; exact h4
      · rw [List.getElem?_set_ne (by decide), List.getElem?_set_ne (by decide), List.getElem?_set_ne (by decide), List.getElem?_set_self (by simp [h12])]
      · rw [List.getElem?_set_ne (by decide), List.getElem?_set_ne (by decide), List.getElem?_set_self (by simp [h12])]
      · rw [List.getElem?_set_ne (by decide), List.getElem?_set_self (by simp [h12])]
      · rw [List.getElem?_set_self (by simp [h12])]
      have etk : keptE ks (t.E.take (i + 1)) = if (decide (m.a ∈ ks) && decide (m.b ∈ ks)) = true then keptE ks (t.E.take i) ++ [⟨num ks m.a, m.s, num ks m.b, m.w⟩] else keptE ks (t.E.take i) := filt_snoc t.E (fun e => decide (e.a ∈ ks) && decide (e.b ∈ ks)) (fun e => (⟨num ks e.a, e.s, num ks e.b, e.w⟩ : Ed)) hm
      refine ht_if (b := decide (m.a ∈ ks) && decide (m.b ∈ ks)) (et_and ((et_test (e_din (k := .inl m.a) 3 (e_var rfl) (e_var rfl) rfl rfl)).is fk_mem) fun _ => (et_test (e_din (k := .inl m.b) 3 (e_var rfl) (e_var rfl) rfl rfl)).is fk_mem) (fun hb => ?_) fun hb => ht_next ?_
      · have hb2 := hb
        rw [Bool.and_eq_true] at hb2
        refine ht_dropX (ex_app (x := .dat (Ed.d ⟨num ks m.a, m.s, num ks m.b, m.w⟩)) 0 (e_var rfl) (e_tup (ds := [.int (num ks m.a), .int m.s, .int (num ks m.b), wD m.w]) (ea_cons (e_dget (k := .inl m.a) 2 (e_var rfl) (e_var rfl) rfl rfl (num_val (of_decide_eq_true hb2.1))) (ea_cons (e_var rfl) (ea_cons (e_dget (k := .inl m.b) 2 (e_var rfl) (e_var rfl) rfl rfl (num_val (of_decide_eq_true hb2.2))) (ea_cons (e_var rfl) ea_nil)))) (by simp)) rfl ?_) fun z μ2 hz => ?_
        · rw [List.length_map]
          unfold keptE
          rw [List.length_map]
          refine Nat.lt_of_le_of_lt (List.length_filter_le _ _) ?_
          rw [List.length_take]
          have := hs.le
          omega
        · obtain ⟨_, rfl⟩ := hz
          refine ⟨?_, rfl, rfl, rfl, rfl, rfl, rfl⟩
          rw [etk, if_pos hb, List.map_append]
          rfl
      · refine ⟨?_, rfl, rfl, rfl, rfl, rfl, rfl⟩
        rw [etk, if_neg (by rw [hb]; exact Bool.false_ne_true)]
    · rintro δ1 μ1 h
      rw [List.take_length] at h
      exact h
  · rintro δ1 μ1 ⟨rfl, h12, h0, h1, h2, h3, h4⟩
    refine HT.to (δ' := [some (.dat t.d), some (.own a), some (.own an), some (.own ab), some (.own ae), none, none, none, none, none, none, none]) ?_ h12 ⟨h0, h1, h2, h3, h4, trivial⟩
    refine ht_seq (ht_setN (o := .lst ((keptM ks t.F).map fun m => .dat m.d)) (en_is (en_lcG (l := t.F) (q := fun m => .dat m.d) (ei_seqM (e_ixT (e_var rfl) e_int rfl)).ei (by have := hs.lf; omega) (fun m => decide (m.p ∈ ks)) (fun m => .dat (Mk.d ⟨num ks m.p, m.w⟩)) fun m hm => ?_) ?_) fun af => ?_)
    · refine ⟨_, _, tg_tup (ds := [.int m.p, wD m.w]) (tgs_cons tg_name (tgs_cons tg_name tgs_nil)) rfl, by simp, (et_test (e_din (k := .inl m.p) 3 (e_var rfl) (e_var rfl) rfl rfl)).is fk_mem, fun h => ?_⟩
      exact e_tup (ds := [.int (num ks m.p), wD m.w]) (ea_cons (e_dget (k := .inl m.p) 2 (e_var rfl) (e_var rfl) rfl rfl (num_val (of_decide_eq_true h))) (ea_cons (e_var rfl) ea_nil)) (by simp)
    · unfold keptM
      rw [List.map_map]
      rfl
    refine HT.sub (μ' := [(af, C.lst ((keptM ks t.F).map fun m => .dat m.d)), (ae, C.lst ((keptE ks t.E).map fun m => .dat m.d)), (ab, C.lst ((keptM ks t.B).map fun m => .dat m.d)), (an, C.dk (kI (numA 0 (sortI ks))))]) ?_ (by exact List.sublist_append_left _ [_])
    refine ht_ret1 (x := .dat (keptT t ks).d) ?_ ⟨rfl, rfl⟩
    · refine e_tup (ds := [.int t.S, .int t.L, .int (max 1 (ks.length : Int)), .tup ((keptM ks t.B).map Mk.d), .tup ((keptE ks t.E).map Ed.d), .tup ((keptM ks t.F).map Mk.d)]) (ea_cons (e_ixT (e_var rfl) e_int rfl) (ea_cons (e_ixT (e_var rfl) e_int rfl) (ea_cons (e_max2 e_int ((e_lenD 3 (e_var rfl) rfl).is ?_)) (ea_cons (e_tupleL 2 (e_var rfl) (by rw [List.map_map]; rfl)) (ea_cons (e_tupleL 1 (e_var rfl) (by rw [List.map_map]; rfl)) (ea_cons (e_tupleL 0 (e_var rfl) (by rw [List.map_map]; rfl)) ea_nil)))))) (by simp)
      rw [show (kI (numA 0 (sortI ks))).length = ks.length by rw [kI, List.length_map, numA_len, hyl]]
end
end T
set_option maxHeartbeats 2000000
namespace TK
open PySem L2 NdefX LamX
variable [TC]
def rTimes (K : PySem.W.Frag) : R2 := fun x y H Q => rI CMul (fun i j => .int (i * j)) x y H Q ∨ (rI CMulW (fun i j => .int (i * j)) x y H Q ∨ rRepT K x y H Q)
theorem op_times {X : Cx} : OpR X (binaryOp .Mult) (rTimes X.K) := op_mul.or (op_mulW.or op_repT)
section
variable {δ δ' : Dl} {μ μ' : Mu} {te ta tb tc tl td ty tx tk tv to : TE} {tt tu : TT} {tr : TA} {x y z : A} {d e : D} {b c : Bool} {ts us : TS} {P : Po} {g : TG} {K : PySem.W.Frag} {wi : TI} {xs : List A} {a : Addr}
theorem e_timesI {i j : Int} (ha : E δ μ ta (.dat (.int i))) (hb : E δ μ tb (.dat (.int j))) (h : CMul i j) : E δ μ (tOp (rTimes K) ta tb) (.dat (.int (i * j))) := e_op ha hb (rv_orl (rv_intC (g := fun i j => i * j) h))
theorem e_timesW {i j : Int} (ha : E δ μ ta (.dat (.int i))) (hb : E δ μ tb (.dat (.int j))) (h : CMulW i j) : E δ μ (tOp (rTimes K) ta tb) (.dat (.int (i * j))) := e_op ha hb (rv_orr (rv_orl (rv_intC (g := fun i j => i * j) h)))
theorem ht_asgT {n : Nat} {t : TGs} {R : List A → Mu → Prop} (hn : n ≤ 100000) (h : EXA δ μ tr R) (k : ∀ xs μ', R xs μ' → ∃ δ' js, Tgs δ t xs δ' js ∧ xs.length = n ∧ P.nx δ' μ') : HT δ μ (tAsg (tTup tr) (gTup K n t)) P := fun σ H D s go => h σ H s _ fun xs μ' vs H1 r m f rv => by
  obtain ⟨δ', js, hg, hl, hnx⟩ := k xs μ' r
  have hl2 : vs.length = n := rv.length.trans hl
  refine ⟨by rw [hl2]; exact szl hn, fun p hp => ⟨p, vs, rfl, SqT.of upd_same, hl2, ?_⟩⟩
  have f2 : Fr [] H1 (upd H1 p (.tup vs)) := Fr.new hp nt_tup
  have s1 : SA δ μ' σ H1 := s.withM f.fr.tup m
  exact hg μ' σ _ vs (s1.step f2) (rv.mono f2.tup) _ fun σ' s' _ => go.nx δ' μ' σ' _ hnx s' (f.trans (FS.of f2))
theorem exa_EN {c : C} (h1 : E δ μ ta x) (h2 : EN δ μ tb c) : EXA δ μ (tCons ta (tCons tb tNil)) (fun xs μ' => ∃ p, xs = [x, .own p] ∧ μ' = (p, c) :: μ) := fun σ H s Q k =>
  h1 σ H s _ fun v H1 f1 r1 => h2.ex σ H1 (s.step f1) _ fun y μ2 w H2 ⟨p, e1, e2⟩ m2 f2 r2 => by
    subst e1 e2
    exact k [x, .own p] _ [v, w] H2 ⟨p, rfl, rfl⟩ m2 ((FS.of f1).trans f2) (.cons (r1.mono f2.fr.tup) (.cons r2 .nil))
theorem exa_XX {R : A → Mu → Prop} {S : A → Mu → A → Mu → Prop} (h : EX δ μ ta R) (hr : ∀ x μ', R x μ' → EX δ μ' tb (S x μ')) : EXA δ μ (tCons ta (tCons tb tNil)) (fun xs μ' => ∃ x y μ1, xs = [x, y] ∧ R x μ1 ∧ S x μ1 y μ') := fun σ H s Q k =>
  h σ H s _ fun x μ1 v H1 r m f1 rx => hr x μ1 r σ H1 (s.withM f1.fr.tup m) _ fun y μ2 w H2 r2 m2 f2 ry => k [x, y] μ2 [v, w] H2 ⟨x, y, μ1, rfl, r, r2⟩ m2 (f1.trans f2) (.cons (rx.mono f2.fr.tup) (.cons ry .nil))
end
end TK
set_option maxHeartbeats 2000000
namespace T
open PySem L2 NdefX LamX TK
variable [TC]
def Good (t : Tn) (ks : List Int) : Prop := ks.Nodup ∧ ∀ q, q ∈ ks ↔ t.rch q ∧ t.live q
def G_trim : List TK.A → Mu → (TK.A → Mu → Prop) → Prop := fun xs μ R => ∃ t : Tn, xs = [.dat t.d] ∧ μ = [] ∧ t.Ok ∧ R = fun x μ' => ∃ ks, Good t ks ∧ x = .dat (keptT t ks).d ∧ μ' = []
theorem rch_below {t : Tn} (h : t.Ok) {q : Int} (r : t.rch q) : 0 ≤ q ∧ q < t.N := by
  unfold Tn.rch at r
  cases r with
  | base h1 =>
    obtain ⟨m, hm, rfl⟩ := List.mem_map.mp h1
    exact ⟨(h.b m hm).1, (h.b m hm).2.1⟩
  | step _ h1 =>
    obtain ⟨e, he, h2⟩ := List.mem_map.mp h1
    cases h2
    have := h.e e he
    exact ⟨this.2.2.2.2.1, this.2.2.2.2.2.1⟩
theorem below_len {ks : List Int} {N : Int} (nd : ks.Nodup) (h : ∀ q ∈ ks, 0 ≤ q ∧ q < N) : (ks.length : Int) ≤ max 0 N := by
  have := nodup_len (U := (List.range N.toNat).map fun (i : Nat) => (i : Int)) nd fun q hq => by
    obtain ⟨h1, h2⟩ := h q hq
    exact List.mem_map.mpr ⟨q.toNat, List.mem_range.mpr (by omega), by omega⟩
  rw [List.length_map, List.length_range] at this
  omega
theorem good_len {t : Tn} (h : t.Ok) {ks : List Int} (g : Good t ks) : (ks.length : Int) ≤ t.N := by
  have := below_len (N := t.N) g.1 fun q hq => rch_below h ((g.2 q).mp hq).1
  have := h.n
  omega
section
variable {P : Program} {w : World} {K : PySem.W.Frag} {mg : Str → Option Value} {base : Heap}
abbrev N_trimmed_in : List Str := ["turner", "reached", "live", "place"]
abbrev P_trimmed_in : List Str := ["turner"]
theorem sc_trimmed_in : FnScope N_trimmed_in P_trimmed_in (defScope s_trimmed_in) := ⟨rfl, rfl, rfl, by decide +kernel, rfl, by decide +kernel, by decide +kernel⟩
theorem bd_trimmed_in (kV doc pm : Value) (an : Option Addr) (cdv ct : Value) (us : List Value) (hl : us.length = (P_trimmed_in : List Str).length) : bindArgs (PySem.W.fnOf "trimmed_in" "trimmed_in" (defArgs s_trimmed_in) (defBody s_trimmed_in) (defScope s_trimmed_in) .none kV doc pm an cdv ct) ⟨us, []⟩ = pure ((P_trimmed_in : List Str).zip us) := match us, hl with
  | [_], _ => rfl
theorem ok_trimmed_in (T : Bl mg) (R : Raw K mg "trimmed_in" s_trimmed_in) (d_live_in : Dn P w K mg base "live_in" P_live_in 2 (spM (G_set Tn.live))) (d_reached_in : Dn P w K mg base "reached_in" P_reached_in 2 (spM (G_set Tn.rch))) (d_kept_places : Dn P w K mg base "kept_places" P_kept_places 1 (spM G_kept)) :
    Dn P w K mg base "trimmed_in" P_trimmed_in 3 (spM G_trim) := by
  refine R.dnM sc_trimmed_in (fun ds d R ⟨t, e, _⟩ => by rw [e]; rfl) (by decide) bd_trimmed_in fun cdv Ao outer s H E hr => ⟨_, (pss_cons (ps_asg (pe_tup (pa_cons (pe_def d_reached_in hr (by decide) (by rfl) (pa_cons (pv 0) pa_nil)) (pa_cons (pe_def d_live_in hr (by decide) (by rfl) (pa_cons (pv 0) pa_nil)) pa_nil))) (pg_tup rfl (pgs_cons (pg_name (i := 1) sc_trimmed_in.nd rfl (Or.inl rfl)) (pgs_cons (pg_name (i := 2) sc_trimmed_in.nd rfl (Or.inr rfl)) pgs_nil))))
      (pss_one (ps_ret (pe_def d_kept_places hr (by decide) (by rfl) (pa_cons (pv 0) (pa_cons (pe_lock (pe_dc rfl sc_trimmed_in.nd (pi_keys (pv 1)) (blkOk_by (own := [("place", 3)]) (N := N_trimmed_in) (sc := defScope s_trimmed_in) (by decide +kernel)) (fun _ _ _ _ _ => (pg_name (i := 3) sc_trimmed_in.nd rfl (Or.inl rfl))) (fun _ _ _ _ _ => pts_one (pt_cmp (pc_din (hu_of hr) (pv 3) (pv 2)))) (fun _ _ _ _ _ => (pv 3)) (fun _ _ _ _ _ => pe_bl))) pa_nil)))))), ?_⟩
  rintro ds μ R ⟨t, rfl, rfl, ok, rfl⟩
  refine ht_seq (ht_asgT (n := 2) (by decide) (exa_XX (ex_callD (ea_cons (e_var rfl) ea_nil) ⟨t, rfl, rfl, ok.sz, rfl⟩) fun x μ1 hx => ex_callD (ea_cons (e_var rfl) ea_nil) ⟨t, rfl, rfl, ok.sz, rfl⟩) fun xs μ2 hx => ?_)
  obtain ⟨x, y, μ1, rfl, ⟨ν1, ⟨r, rs, rfl, rfl, hr1, hr2⟩, rfl⟩, ν2, ⟨l, ls, rfl, rfl, hl1, hl2⟩, rfl⟩ := hx
  refine ⟨_, _, tgs_cons tg_name (tgs_cons tg_name tgs_nil), rfl, ?_⟩
  have hg : Good t (rs.filter fun q => decide (q ∈ ls)) := ⟨hr1.sublist List.filter_sublist, fun q => by
    rw [List.mem_filter, decide_eq_true_eq, hr2, hl2]⟩
  refine ht_retS (ex_callA (ρ := [(l, C.dk (fk ls)), (r, C.dk (fk rs))]) (R := fun x ν' => ∃ ks, Good t ks ∧ x = .dat (keptT t ks).d ∧ ν' = []) (exa_EN (x := .dat t.d) (c := .dk (fk (rs.filter fun q => decide (q ∈ ls)))) (e_var rfl) (en_lock 1 rfl fun od ks hk => ?_)) fun xs μ1 hx => ?_) fun x μ' hx => ?_
  · have hk2 : (ks.map fun kv => dKey kv.1).map A.dat = rs.map fun i => A.dat (.int i) := by rw [hk, keysD_fk, List.map_map]; rfl
    refine en_is (en_dcG (l := rs) (q := fun i => A.dat (.int i)) (hk2 ▸ ei_keys 1 (e_var rfl) rfl) ?_ (fun i => decide (i ∈ ls)) (fun i => .inl i) (fun _ => .dat (.bl true)) fun i hi => ?_) ?_
    · have := below_len (N := t.N) hr1 fun q hq => rch_below ok ((hr2 q).mp hq)
      have := ok.nb
      have := ok.n
      omega
    · exact ⟨_, _, tg_name, by simp, (et_test (e_din (k := .inl i) 0 (e_var rfl) (e_var rfl) rfl rfl)).is fk_mem, fun _ => ⟨⟨.int i, rfl, e_var rfl⟩, e_bl⟩⟩
    · have h := fold_new (fun i : Int => i) (fun _ => A.dat (.bl true)) (rs.filter fun q => decide (q ∈ ls)) [] (by simpa using hg.1)
      exact congrArg C.dk h
  · obtain ⟨p, rfl, rfl⟩ := hx
    refine ⟨[(p, C.dk (fk (rs.filter fun q => decide (q ∈ ls))))], _, rfl, ⟨t, p, _, rfl, rfl, ok.sz, hg.1, ?_, rfl⟩, ?_⟩
    · have := good_len ok hg
      have := ok.nb
      omega
    · rintro x ν' ⟨rfl, rfl⟩
      exact ⟨_, hg, rfl, rfl⟩
  · obtain ⟨ν', ⟨ks, h1, h2, h3⟩, _⟩ := hx
    exact ⟨[], ⟨ks, h1, h2, rfl⟩, List.nil_sublist _⟩
end
end T
set_option maxHeartbeats 2000000
namespace T
open PySem L2 NdefX LamX TK
variable [TC]
inductive Pth (E : List Ed) : Int → Int → Nat → Int → Prop
  | nil (p : Int) : Pth E p p 0 0
  | snoc {p q : Int} {n : Nat} {g : Int} {e : Ed} : Pth E p q n g → e ∈ E → e.a = q → Pth E p e.b (n + 1) (g + ((e.w.length : Int) - 1))
def Wk (t : Tn) (s : Int) (q : Int) (n : Nat) (v : Int) : Prop := ∃ b ∈ t.B, ∃ g, Pth t.E b.p q n g ∧ v = s * (b.w.length : Int) + s * g
def Att (t : Tn) (s : Int) (hs : List (Int × Int)) : Prop := ∀ p h, hs.lookup p = some h → ∃ n, Wk t s p n h
def Cov (t : Tn) (s : Int) (i : Nat) (hs : List (Int × Int)) : Prop := ∀ p n v, n ≤ i → Wk t s p n v → ∃ h, hs.lookup p = some h ∧ v ≤ h
def Imp (t : Tn) (s : Int) (k : Nat) : Prop := ∃ q n v, Wk t s q n v ∧ ∀ n' v', n' ≤ k → Wk t s q n' v' → v' < v
def Fix (t : Tn) (s : Int) (hs : List (Int × Int)) : Prop := ∀ e ∈ t.E, ∀ h, hs.lookup e.a = some h → ∃ h', hs.lookup e.b = some h' ∧ h + s * ((e.w.length : Int) - 1) ≤ h'
theorem Wk.base {t : Tn} {s : Int} {b : Mk} (h : b ∈ t.B) : Wk t s b.p 0 (s * (b.w.length : Int)) := ⟨b, h, 0, .nil _, by simp⟩
theorem Wk.snoc {t : Tn} {s : Int} {n : Nat} {v : Int} {e : Ed} (h : Wk t s e.a n v) (he : e ∈ t.E) : Wk t s e.b (n + 1) (v + s * ((e.w.length : Int) - 1)) := by
  obtain ⟨b, hb, g, hp, rfl⟩ := h
  exact ⟨b, hb, _, .snoc hp he rfl, by rw [Int.mul_add]; omega⟩
theorem Wk.inv {t : Tn} {s q : Int} {n : Nat} {v : Int} (h : Wk t s q (n + 1) v) : ∃ e ∈ t.E, e.b = q ∧ ∃ v', Wk t s e.a n v' ∧ v = v' + s * ((e.w.length : Int) - 1) := by
  obtain ⟨b, hb, g, hp, rfl⟩ := h
  cases hp with
  | snoc hp he ea =>
    subst ea
    exact ⟨_, he, rfl, _, ⟨b, hb, _, hp, rfl⟩, by rw [Int.mul_add]; omega⟩
theorem Wk.inv0 {t : Tn} {s q v : Int} (h : Wk t s q 0 v) : ∃ b ∈ t.B, b.p = q ∧ v = s * (b.w.length : Int) := by
  obtain ⟨b, hb, g, hp, rfl⟩ := h
  cases hp
  exact ⟨b, hb, rfl, by simp⟩
theorem Wk.place {t : Tn} {s q : Int} {n : Nat} {v : Int} (h : Wk t s q n v) : q ∈ t.B.map Mk.p ++ t.E.map Ed.b := by
  cases n with
  | zero =>
    obtain ⟨b, hb, rfl, _⟩ := h.inv0
    exact List.mem_append_left _ (List.mem_map.mpr ⟨b, hb, rfl⟩)
  | succ n =>
    obtain ⟨e, he, rfl, _⟩ := h.inv
    exact List.mem_append_right _ (List.mem_map.mpr ⟨e, he, rfl⟩)
theorem Att.len {t : Tn} {s : Int} {hs : List (Int × Int)} (h : Att t s hs) (nd : (hs.map (·.1)).Nodup) (z : t.Sz) : hs.length ≤ 2000 := by
  have := nodup_len (U := t.B.map Mk.p ++ t.E.map Ed.b) nd fun p hp => by
    have := look_some.mpr hp
    cases e : hs.lookup p with
    | none => rw [e] at this; cases this
    | some v =>
      obtain ⟨n, hn⟩ := h p v e
      exact hn.place
  rw [List.length_map, List.length_append, List.length_map, List.length_map] at this
  have := z.lb
  have := z.le
  omega
theorem Att.put {t : Tn} {s : Int} {hs : List (Int × Int)} (h : Att t s hs) {p v : Int} {n : Nat} (hw : Wk t s p n v) : Att t s (putI hs p v) := fun q x e => by
  rw [putI_look] at e
  by_cases hq : q = p
  · rw [if_pos hq] at e
    cases e
    exact ⟨n, hq ▸ hw⟩
  · rw [if_neg hq] at e
    exact h q x e
def LeH (hs hs' : List (Int × Int)) : Prop := ∀ p h, hs.lookup p = some h → ∃ h', hs'.lookup p = some h' ∧ h ≤ h'
theorem LeH.refl (hs : List (Int × Int)) : LeH hs hs := fun p h e => ⟨h, e, Int.le_refl _⟩
theorem LeH.put {hs0 hs : List (Int × Int)} (h : LeH hs0 hs) {p v : Int} (hv : ∀ x, hs.lookup p = some x → x ≤ v) : LeH hs0 (putI hs p v) := fun q x e => by
  obtain ⟨y, h1, h2⟩ := h q x e
  rw [putI_look]
  by_cases hq : q = p
  · rw [if_pos hq]
    exact ⟨v, rfl, Int.le_trans h2 (hv y (hq ▸ h1))⟩
  · rw [if_neg hq]
    exact ⟨y, h1, h2⟩
def ED (s : Int) (hs0 hs : List (Int × Int)) (e : Ed) : Prop := ∀ h, hs0.lookup e.a = some h → ∃ h', hs.lookup e.b = some h' ∧ h + s * ((e.w.length : Int) - 1) ≤ h'
theorem ED.le {s : Int} {hs0 hs hs' : List (Int × Int)} {e : Ed} (h : ED s hs0 hs e) (l : LeH hs hs') : ED s hs0 hs' e := fun x hx => by
  obtain ⟨y, h1, h2⟩ := h x hx
  obtain ⟨z, h3, h4⟩ := l _ _ h1
  exact ⟨z, h3, Int.le_trans h2 h4⟩
theorem Cov.next {t : Tn} {s : Int} {i : Nat} {hs0 hs : List (Int × Int)} (h : Cov t s i hs0) (l : LeH hs0 hs) (he : ∀ e ∈ t.E, ED s hs0 hs e) : Cov t s (i + 1) hs := fun p n v hn hw => by
  by_cases h1 : n ≤ i
  · obtain ⟨y, h2, h3⟩ := h p n v h1 hw
    obtain ⟨z, h4, h5⟩ := l _ _ h2
    exact ⟨z, h4, Int.le_trans h3 h5⟩
  · have e : n = i + 1 := by omega
    subst e
    obtain ⟨e, hE, rfl, v', hv, rfl⟩ := hw.inv
    obtain ⟨y, h2, h3⟩ := h _ _ _ (Nat.le_refl i) hv
    obtain ⟨z, h4, h5⟩ := he e hE y h2
    exact ⟨z, h4, by omega⟩
theorem Imp.of {t : Tn} {s : Int} {i : Nat} {hs0 hs : List (Int × Int)} (h : Cov t s i hs0) (l : LeH hs0 hs) {q : Int} {n : Nat} {v : Int} (hw : Wk t s q n v) (hv : ∀ x, hs.lookup q = some x → x < v) : Imp t s i := ⟨q, n, v, hw, fun n' v' hn hw' => by
  obtain ⟨y, h2, h3⟩ := h _ _ _ hn hw'
  obtain ⟨z, h4, h5⟩ := l _ _ h2
  have := hv z h4
  omega⟩
def hD (hs : List (Int × Int)) : List (Key × TK.A) := kI (hs.map fun p => (p.1, TK.A.dat (.int p.2)))
theorem hD_val {hs : List (Int × Int)} {p : Int} : valA (hD hs) (.inl p) = (hs.lookup p).map fun h => TK.A.dat (.int h) := by
  unfold hD
  rw [val_kI, look_map (f := fun h => TK.A.dat (.int h))]
theorem hD_put {hs : List (Int × Int)} {p v : Int} : putA (hD hs) (.inl p) (.dat (.int v)) = hD (putI hs p v) := by
  unfold hD
  rw [put_kI, putI_map (f := fun h => TK.A.dat (.int h))]
theorem hD_len {hs : List (Int × Int)} : (hD hs).length = hs.length := by simp [hD, kI]
def G_heights : List TK.A → Mu → (TK.A → Mu → Prop) → Prop := fun xs μ R => ∃ (t : Tn) (s : Int), xs = [.dat t.d, .dat (.int s)] ∧ μ = [] ∧ t.Sz ∧ 0 ≤ t.N ∧ t.N ≤ 1000 ∧ (s = 1 ∨ s = -1) ∧
  R = fun x μ' => (∃ f hs, x = .own f ∧ μ' = [(f, C.dk (hD hs))] ∧ (hs.map (·.1)).Nodup ∧ Att t s hs ∧ Cov t s 0 hs ∧ Fix t s hs) ∨ (x = .dat .non ∧ μ' = [] ∧ Imp t s t.N.toNat)
theorem cmul1 {s j : Int} (h : s = 1 ∨ s = -1) : CMul s j := .inl (by rcases h with rfl | rfl <;> decide)
section
variable {P : Program} {w : World} {K : PySem.W.Frag} {mg : Str → Option Value} {base : Heap}
end
end T
set_option maxHeartbeats 2000000
namespace T
open TK
variable [TC]
theorem Pth.trans {E : List Ed} {p q r : Int} {n m : Nat} {g h : Int} (a : Pth E p q n g) (b : Pth E q r m h) : Pth E p r (n + m) (g + h) := by
  induction b with
  | nil => simpa using a
  | snoc b he ea ih =>
    rw [← Nat.add_assoc, ← Int.add_assoc]
    exact .snoc ih he ea
theorem Pth.one {E : List Ed} {e : Ed} (h : e ∈ E) : Pth E e.a e.b 1 ((e.w.length : Int) - 1) := by
  have := Pth.snoc (.nil e.a) h rfl
  simpa using this
theorem Pth.rep {E : List Ed} {c : Int} {k : Nat} {g : Int} (a : Pth E c c k g) : ∀ m : Nat, Pth E c c (m * k) (m * g)
  | 0 => by simpa using Pth.nil c
  | m + 1 => by
    have := (Pth.rep a m).trans a
    rw [Nat.succ_mul, Int.natCast_succ, Int.add_mul, Int.one_mul]
    exact this
theorem Pth.seq {E : List Ed} {p q : Int} {n : Nat} {g : Int} (a : Pth E p q n g) : ∃ (pl gl : Nat → Int), pl 0 = p ∧ pl n = q ∧ gl 0 = 0 ∧ gl n = g ∧ ∀ i, i < n → ∃ e ∈ E, e.a = pl i ∧ e.b = pl (i + 1) ∧ gl (i + 1) = gl i + ((e.w.length : Int) - 1) := by
  induction a with
  | nil => exact ⟨fun _ => p, fun _ => 0, rfl, rfl, rfl, rfl, fun i h => by omega⟩
  | @snoc q n g e a he ea ih =>
    obtain ⟨pl, gl, h1, h2, h3, h4, h5⟩ := ih
    refine ⟨fun i => if i ≤ n then pl i else e.b, fun i => if i ≤ n then gl i else g + ((e.w.length : Int) - 1), by simp [h1], if_neg (by omega), by simp [h3], if_neg (by omega), fun i hi => ?_⟩
    simp only []
    by_cases c : i < n
    · obtain ⟨e', q1, q2, q3, q4⟩ := h5 i c
      refine ⟨e', q1, ?_, ?_, ?_⟩
      · rw [if_pos (by omega)]; exact q2
      · rw [if_pos (by omega)]; exact q3
      · rw [if_pos (by omega), if_pos (by omega)]; exact q4
    · have e1 : i = n := by omega
      subst e1
      refine ⟨e, he, ?_, ?_, ?_⟩
      · rw [if_pos (Nat.le_refl _), h2, ea]
      · rw [if_neg (by omega)]
      · rw [if_neg (by omega), if_pos (Nat.le_refl _), h4]
theorem seq_pth {E : List Ed} {n : Nat} {pl gl : Nat → Int} (h : ∀ i, i < n → ∃ e ∈ E, e.a = pl i ∧ e.b = pl (i + 1) ∧ gl (i + 1) = gl i + ((e.w.length : Int) - 1)) (i : Nat) : ∀ d, i + d ≤ n → Pth E (pl i) (pl (i + d)) d (gl (i + d) - gl i)
  | 0, _ => by simpa using Pth.nil (pl i)
  | d + 1, hd => by
    obtain ⟨e, he, h1, h2, h3⟩ := h (i + d) (by omega)
    have := Pth.snoc (seq_pth h i d (by omega)) he h1
    rw [h2] at this
    rw [show i + (d + 1) = i + d + 1 by omega, h3]
    rw [show gl (i + d) + ((e.w.length : Int) - 1) - gl i = gl (i + d) - gl i + ((e.w.length : Int) - 1) by omega]
    exact this
theorem pigeon {U : List Int} {f : Nat → Int} {K : Nat} (hU : U.length ≤ K) (h : ∀ i, i ≤ K → f i ∈ U) : ∃ i j, i < j ∧ j ≤ K ∧ f i = f j := by
  apply Classical.byContradiction
  intro hn
  have hne : ∀ i j, i < j → j ≤ K → f i ≠ f j := fun i j h1 h2 h3 => hn ⟨i, j, h1, h2, h3⟩
  have nd : ((List.range (K + 1)).map f).Nodup := by
    rw [List.nodup_iff_pairwise_ne, List.pairwise_map, List.pairwise_iff_getElem]
    intro i j hi hj hij
    rw [List.getElem_range, List.getElem_range]
    rw [List.length_range] at hj
    exact hne i j hij (by omega)
  have := nodup_len (U := U) nd fun x hx => by
    obtain ⟨i, hi, rfl⟩ := List.mem_map.mp hx
    exact h i (by have := List.mem_range.mp hi; omega)
  rw [List.length_map, List.length_range] at this
  omega
theorem Pth.loop {E : List Ed} {U : List Int} {p q : Int} {n : Nat} {g : Int} (hp : p ∈ U) (hE : ∀ e ∈ E, e.b ∈ U) (hn : U.length ≤ n) (a : Pth E p q n g) :
    ∃ c n1 g1 k gc n2 g2, Pth E p c n1 g1 ∧ Pth E c c (k + 1) gc ∧ Pth E c q n2 g2 ∧ n = n1 + (k + 1) + n2 ∧ g = g1 + gc + g2 := by
  obtain ⟨pl, gl, h1, h2, h3, h4, h5⟩ := a.seq
  obtain ⟨i, j, hij, hj, he⟩ := pigeon (f := pl) hn fun i hi => by
    cases i with
    | zero => rw [h1]; exact hp
    | succ i =>
      obtain ⟨e, he, _, h, _⟩ := h5 i (by omega)
      rw [← h]
      exact hE e he
  have a1 := seq_pth h5 0 i (by omega)
  have a2 := seq_pth h5 i (j - i) (by omega)
  have a3 := seq_pth h5 j (n - j) (by omega)
  rw [Nat.zero_add, h1, h3] at a1
  rw [show i + (j - i) = j by omega, ← he] at a2
  rw [show j + (n - j) = n by omega, h2, h4, ← he] at a3
  refine ⟨pl i, i, gl i - 0, j - i - 1, gl j - gl i, n - j, g - gl j, a1, ?_, a3, by omega, by omega⟩
  rw [show j - i - 1 + 1 = j - i by omega]
  exact a2
theorem Pth.short {E : List Ed} {U : List Int} {s : Int} (hE : ∀ e ∈ E, e.b ∈ U) : ∀ (n : Nat) {p q g : Int}, p ∈ U → Pth E p q n g →
    (∃ c n1 g1 k gc, Pth E p c n1 g1 ∧ Pth E c c (k + 1) gc ∧ 0 < s * gc) ∨ ∃ n' g', n' < U.length ∧ Pth E p q n' g' ∧ s * g ≤ s * g' := by
  intro n
  induction n using Nat.strongRecOn with
  | ind n ih =>
    intro p q g hp a
    by_cases hn : n < U.length
    · exact .inr ⟨n, g, hn, a, Int.le_refl _⟩
    · obtain ⟨c, n1, g1, k, gc, n2, g2, a1, a2, a3, en, eg⟩ := a.loop hp hE (by omega)
      by_cases hc : 0 < s * gc
      · exact .inl ⟨c, n1, g1, k, gc, a1, a2, hc⟩
      · rcases ih (n1 + n2) (by omega) hp (a1.trans a3) with h | ⟨n', g', h1, h2, h3⟩
        · exact .inl h
        · refine .inr ⟨n', g', h1, h2, Int.le_trans ?_ h3⟩
          rw [eg, Int.mul_add, Int.mul_add, Int.mul_add]
          omega
def Run (t : Tn) (n : Nat) (g : Int) : Prop := ∃ b ∈ t.B, ∃ f ∈ t.F, ∃ g', Pth t.E b.p f.p n g' ∧ g = (b.w.length : Int) + g' + (f.w.length : Int)
def IsTop (t : Tn) (s m : Int) : Prop := (∃ n, Run t n m) ∧ ∀ n g, Run t n g → s * g ≤ s * m
def IsGr (t : Tn) (s : Int) : Option Int → Prop
  | some m => IsTop t s m
  | none => ¬ ∃ m, IsTop t s m
theorem IsTop.uniq {t : Tn} {s m m' : Int} (hs : s = 1 ∨ s = -1) (h : IsTop t s m) (h' : IsTop t s m') : m = m' := by
  obtain ⟨n, r⟩ := h.1
  obtain ⟨n', r'⟩ := h'.1
  have h1 := h.2 n' m' r'
  have h2 := h'.2 n m r
  rcases hs with rfl | rfl <;> omega
theorem IsGr.uniq {t : Tn} {s : Int} {r r' : Option Int} (hs : s = 1 ∨ s = -1) (h : IsGr t s r) (h' : IsGr t s r') : r = r' := by
  cases r with
  | some m =>
    cases r' with
    | some m' => rw [IsTop.uniq hs h h']
    | none => exact absurd ⟨m, h⟩ h'
  | none =>
    cases r' with
    | some m' => exact absurd ⟨m', h'⟩ h
    | none => rfl
theorem IsTop.congr {t t' : Tn} {s m : Int} (h : ∀ g, (∃ n, Run t n g) ↔ ∃ n, Run t' n g) (a : IsTop t s m) : IsTop t' s m :=
  ⟨(h m).mp a.1, fun n g r => by
    obtain ⟨n', r'⟩ := (h g).mpr ⟨n, r⟩
    exact a.2 n' g r'⟩
theorem IsGr.congr {t t' : Tn} {s : Int} {r : Option Int} (h : ∀ g, (∃ n, Run t n g) ↔ ∃ n, Run t' n g) (a : IsGr t s r) : IsGr t' s r := by
  cases r with
  | some m => exact IsTop.congr h a
  | none => exact fun ⟨m, b⟩ => a ⟨m, IsTop.congr (fun g => (h g).symm) b⟩
theorem rch_pth {t : Tn} {q : Int} (h : t.rch q) : ∃ b ∈ t.B, ∃ n g, Pth t.E b.p q n g := by
  unfold Tn.rch at h
  induction h with
  | base h =>
    obtain ⟨b, hb, rfl⟩ := List.mem_map.mp h
    exact ⟨b, hb, 0, 0, .nil _⟩
  | step _ h2 ih =>
    obtain ⟨b, hb, n, g, a⟩ := ih
    obtain ⟨e, he, h3⟩ := List.mem_map.mp h2
    cases h3
    exact ⟨b, hb, n + 1, _, .snoc a he rfl⟩
theorem pth_rch {t : Tn} {p q : Int} {n : Nat} {g : Int} (hp : t.rch p) (a : Pth t.E p q n g) : t.rch q := by
  induction a with
  | nil => exact hp
  | snoc a he ea ih => exact .step ih (List.mem_map.mpr ⟨_, he, by rw [ea]⟩)
theorem beg_rch {t : Tn} {b : Mk} (h : b ∈ t.B) : t.rch b.p := .base (List.mem_map.mpr ⟨b, h, rfl⟩)
theorem end_live {t : Tn} {b : Mk} (h : b ∈ t.F) : t.live b.p := .base (List.mem_map.mpr ⟨b, h, rfl⟩)
theorem live_pth {t : Tn} {p : Int} (h : t.live p) : ∃ f ∈ t.F, ∃ n g, Pth t.E p f.p n g := by
  unfold Tn.live at h
  induction h with
  | base h =>
    obtain ⟨b, hb, rfl⟩ := List.mem_map.mp h
    exact ⟨b, hb, 0, 0, .nil _⟩
  | step _ h2 ih =>
    obtain ⟨f, hf, n, g, a⟩ := ih
    obtain ⟨e, he, h3⟩ := List.mem_map.mp h2
    cases h3
    exact ⟨f, hf, _, _, (Pth.one he).trans a⟩
theorem pth_live {t : Tn} {p q : Int} {n : Nat} {g : Int} (a : Pth t.E p q n g) : t.live q → t.live p := by
  induction a with
  | nil => exact id
  | @snoc q n g e a he ea ih => exact fun h => ih (by rw [← ea]; exact .step h (List.mem_map.mpr ⟨e, he, rfl⟩))
theorem num_inj {ks : List Int} {p q : Int} (hp : p ∈ ks) (hq : q ∈ ks) (h : num ks p = num ks q) : p = q := by
  unfold num at h
  have h : (sortI ks).idxOf p = (sortI ks).idxOf q := by omega
  have h1 := List.idxOf_lt_length_of_mem (mem_sortI.mpr hp)
  have h2 := List.idxOf_lt_length_of_mem (mem_sortI.mpr hq)
  have e1 := List.getElem_idxOf h1
  have e2 := List.getElem_idxOf h2
  rw [← e1, ← e2]
  simp only [h]
theorem num_lt {ks : List Int} {p : Int} (hp : p ∈ ks) : 0 ≤ num ks p ∧ num ks p < (ks.length : Int) := by
  unfold num
  have h1 := List.idxOf_lt_length_of_mem (mem_sortI.mpr hp)
  rw [(sortI_perm ks).length_eq] at h1
  omega
theorem keptE_mem {ks : List Int} {l : List Ed} {e : Ed} (h : e ∈ l) (ha : e.a ∈ ks) (hb : e.b ∈ ks) : (⟨num ks e.a, e.s, num ks e.b, e.w⟩ : Ed) ∈ keptE ks l :=
  List.mem_map.mpr ⟨e, List.mem_filter.mpr ⟨h, by simp [ha, hb]⟩, rfl⟩
theorem mem_keptE {ks : List Int} {l : List Ed} {e : Ed} (h : e ∈ keptE ks l) : ∃ e0 ∈ l, e0.a ∈ ks ∧ e0.b ∈ ks ∧ e = ⟨num ks e0.a, e0.s, num ks e0.b, e0.w⟩ := by
  obtain ⟨e0, h1, rfl⟩ := List.mem_map.mp h
  obtain ⟨h2, h3⟩ := List.mem_filter.mp h1
  simp at h3
  exact ⟨e0, h2, h3.1, h3.2, rfl⟩
theorem keptM_mem {ks : List Int} {l : List Mk} {e : Mk} (h : e ∈ l) (ha : e.p ∈ ks) : (⟨num ks e.p, e.w⟩ : Mk) ∈ keptM ks l :=
  List.mem_map.mpr ⟨e, List.mem_filter.mpr ⟨h, by simp [ha]⟩, rfl⟩
theorem mem_keptM {ks : List Int} {l : List Mk} {e : Mk} (h : e ∈ keptM ks l) : ∃ e0 ∈ l, e0.p ∈ ks ∧ e = ⟨num ks e0.p, e0.w⟩ := by
  obtain ⟨e0, h1, rfl⟩ := List.mem_map.mp h
  obtain ⟨h2, h3⟩ := List.mem_filter.mp h1
  simp at h3
  exact ⟨e0, h2, h3, rfl⟩
theorem kept_fwd {t : Tn} {ks : List Int} (G : Good t ks) {p q : Int} {n : Nat} {g : Int} (a : Pth t.E p q n g) : t.rch p → t.live q → Pth (keptE ks t.E) (num ks p) (num ks q) n g := by
  induction a with
  | nil => exact fun _ _ => .nil _
  | @snoc q n g e a he ea ih =>
    intro hp hq
    subst ea
    have la : t.live e.a := .step hq (List.mem_map.mpr ⟨e, he, rfl⟩)
    have ra := pth_rch hp a
    have rb : t.rch e.b := .step ra (List.mem_map.mpr ⟨e, he, rfl⟩)
    exact Pth.snoc (ih hp la) (keptE_mem he ((G.2 _).mpr ⟨ra, la⟩) ((G.2 _).mpr ⟨rb, hq⟩)) rfl
theorem kept_bwd {t : Tn} {ks : List Int} {P Q : Int} {n : Nat} {g : Int} (a : Pth (keptE ks t.E) P Q n g) : ∀ p ∈ ks, P = num ks p → ∃ q ∈ ks, Q = num ks q ∧ Pth t.E p q n g := by
  induction a with
  | nil => exact fun p hp e => ⟨p, hp, e, .nil _⟩
  | @snoc Q n g e a he ea ih =>
    intro p hp hP
    obtain ⟨q, hq, e1, a1⟩ := ih p hp hP
    obtain ⟨e0, he0, ha, hb, rfl⟩ := mem_keptE he
    have e2 : q = e0.a := num_inj hq ha (by rw [← e1]; exact ea.symm)
    exact ⟨e0.b, hb, rfl, .snoc a1 he0 e2.symm⟩
theorem kept_run {t : Tn} {ks : List Int} (G : Good t ks) {n : Nat} {g : Int} : Run (keptT t ks) n g ↔ Run t n g := by
  constructor
  · rintro ⟨b, hb, f, hf, g', a, rfl⟩
    obtain ⟨b0, hb0, hbk, rfl⟩ := mem_keptM hb
    obtain ⟨f0, hf0, hfk, rfl⟩ := mem_keptM hf
    obtain ⟨q, hq, e, a1⟩ := kept_bwd a b0.p hbk rfl
    have e2 : f0.p = q := num_inj hfk hq e
    exact ⟨b0, hb0, f0, hf0, g', by rw [e2]; exact a1, rfl⟩
  · rintro ⟨b, hb, f, hf, g', a, rfl⟩
    have rb := beg_rch hb
    have lf := end_live hf
    exact ⟨_, keptM_mem hb ((G.2 _).mpr ⟨rb, pth_live a lf⟩), _, keptM_mem hf ((G.2 _).mpr ⟨pth_rch rb a, lf⟩), g', kept_fwd G a rb lf, rfl⟩
theorem kept_end {t : Tn} {ks : List Int} (G : Good t ks) {f : Mk} (hf : f ∈ (keptT t ks).F) : ∃ b ∈ (keptT t ks).B, ∃ n g, Pth (keptT t ks).E b.p f.p n g := by
  obtain ⟨f0, hf0, hfk, rfl⟩ := mem_keptM hf
  obtain ⟨b, hb, n, g, a⟩ := rch_pth ((G.2 _).mp hfk).1
  have rb := beg_rch hb
  have lf := end_live hf0
  exact ⟨_, keptM_mem hb ((G.2 _).mpr ⟨rb, pth_live a lf⟩), n, g, kept_fwd G a rb lf⟩
theorem kept_go {t : Tn} {ks : List Int} (G : Good t ks) {q : Int} (hq : q ∈ ks) : ∃ f ∈ (keptT t ks).F, ∃ n g, Pth (keptT t ks).E (num ks q) f.p n g := by
  obtain ⟨r, l⟩ := (G.2 _).mp hq
  obtain ⟨f, hf, n, g, a⟩ := live_pth l
  have lf := end_live hf
  exact ⟨_, keptM_mem hf ((G.2 _).mpr ⟨pth_rch r a, lf⟩), n, g, kept_fwd G a r lf⟩
theorem kept_none {t : Tn} {ks : List Int} (G : Good t ks) (h : (keptT t ks).F = []) (n : Nat) (g : Int) : ¬ Run t n g := fun r => by
  obtain ⟨_, _, f, hf, _⟩ := (kept_run G).mpr r
  rw [h] at hf
  cases hf
theorem Cov.all {t : Tn} {s : Int} {hs : List (Int × Int)} (h : Cov t s 0 hs) (f : Fix t s hs) : ∀ i, Cov t s i hs
  | 0 => h
  | i + 1 => (Cov.all h f i).next (.refl _) f
theorem ss {s : Int} (h : s = 1 ∨ s = -1) : s * s = 1 := by rcases h with rfl | rfl <;> rfl
theorem top_of {t : Tn} {s m : Int} {hs : List (Int × Int)} (h1 : s = 1 ∨ s = -1) (a : Att t s hs) (c : Cov t s 0 hs) (x : Fix t s hs)
    (hm : ∃ f ∈ t.F, ∃ h, hs.lookup f.p = some h ∧ m = h + s * (f.w.length : Int)) (hx : ∀ f ∈ t.F, ∀ h, hs.lookup f.p = some h → h + s * (f.w.length : Int) ≤ m) : IsTop t s (s * m) := by
  obtain ⟨f, hf, h, e, rfl⟩ := hm
  have q : ∀ z : Int, s * (s * z) = z := fun z => by rw [← Int.mul_assoc, ss h1, Int.one_mul]
  refine ⟨?_, fun n g r => ?_⟩
  · obtain ⟨n, b, hb, g, p, rfl⟩ := a _ _ e
    refine ⟨n, b, hb, f, hf, g, p, ?_⟩
    rw [← Int.mul_add, ← Int.mul_add, q]
  · obtain ⟨b, hb, f', hf', g', p, rfl⟩ := r
    obtain ⟨h', e', le⟩ := c.all x n _ n _ (Nat.le_refl _) ⟨b, hb, g', p, rfl⟩
    have := hx f' hf' h' e'
    rw [q, Int.mul_add, Int.mul_add]
    omega
theorem no_top {t : Tn} {s : Int} {b f : Mk} {c : Int} {n1 n2 k : Nat} {g1 g2 gc : Int} (hb : b ∈ t.B) (hf : f ∈ t.F) (a1 : Pth t.E b.p c n1 g1) (a2 : Pth t.E c c k gc) (a3 : Pth t.E c f.p n2 g2) (hg : 0 < s * gc) : ¬ ∃ m, IsTop t s m := by
  rintro ⟨m, _, hm⟩
  have key : ∀ j : Nat, s * ((b.w.length : Int) + (g1 + (j : Int) * gc + g2) + (f.w.length : Int)) ≤ s * m := fun j => hm _ _ ⟨b, hb, f, hf, _, ((a1.trans (a2.rep j)).trans a3), rfl⟩
  have e : ∀ j : Nat, s * ((b.w.length : Int) + (g1 + (j : Int) * gc + g2) + (f.w.length : Int)) = s * ((b.w.length : Int) + (g1 + g2) + (f.w.length : Int)) + (j : Int) * (s * gc) := fun j => by
    have : s * ((j : Int) * gc) = (j : Int) * (s * gc) := by rw [← Int.mul_assoc, ← Int.mul_assoc, Int.mul_comm s]
    rw [← this, ← Int.mul_add]
    congr 1
    omega
  have h2 := key (s * m - s * ((b.w.length : Int) + (g1 + g2) + (f.w.length : Int)) + 1).toNat
  rw [e] at h2
  have h3 : (((s * m - s * ((b.w.length : Int) + (g1 + g2) + (f.w.length : Int)) + 1).toNat : Nat) : Int) ≤ (((s * m - s * ((b.w.length : Int) + (g1 + g2) + (f.w.length : Int)) + 1).toNat : Nat) : Int) * (s * gc) := by
    have := Int.mul_le_mul_of_nonneg_left (show (1 : Int) ≤ s * gc by omega) (show (0 : Int) ≤ (((s * m - s * ((b.w.length : Int) + (g1 + g2) + (f.w.length : Int)) + 1).toNat : Nat) : Int) by omega)
    simpa using this
  omega
theorem kept_imp {t : Tn} {ks : List Int} {s : Int} (G : Good t ks) (h : Imp (keptT t ks) s (keptT t ks).N.toNat) : ¬ ∃ m, IsTop t s m := by
  obtain ⟨q, n, v, ⟨b, hb, g, a, rfl⟩, hv⟩ := h
  have inU : ∀ p ∈ ks, num ks p ∈ (List.range ks.length).map fun (i : Nat) => (i : Int) := fun p hp => by
    obtain ⟨h1, h2⟩ := num_lt hp
    exact List.mem_map.mpr ⟨(num ks p).toNat, List.mem_range.mpr (by omega), by omega⟩
  obtain ⟨b0, hb0, hbk, e0⟩ := mem_keptM hb
  have hU : b.p ∈ (List.range ks.length).map fun (i : Nat) => (i : Int) := by rw [e0]; exact inU _ hbk
  have hE : ∀ e ∈ (keptT t ks).E, e.b ∈ (List.range ks.length).map fun (i : Nat) => (i : Int) := fun e he => by
    obtain ⟨e1, _, _, h2, rfl⟩ := mem_keptE he
    exact inU _ h2
  have hlen : ((List.range ks.length).map fun (i : Nat) => (i : Int)).length = ks.length := by simp
  rcases Pth.short (s := s) hE n hU a with ⟨c, n1, g1, k, gc, a1, a2, hc⟩ | ⟨n', g', h1, h2, h3⟩
  · have hpk : b.p = num ks b0.p := by rw [e0]
    obtain ⟨c0, hc0, rfl, _⟩ := kept_bwd a1 b0.p hbk hpk
    obtain ⟨f, hf, n2, g2, a3⟩ := kept_go G hc0
    intro ⟨m, hm⟩
    exact no_top hb hf a1 a2 a3 hc ⟨m, hm.congr fun g => ⟨fun ⟨n, r⟩ => ⟨n, (kept_run G).mpr r⟩, fun ⟨n, r⟩ => ⟨n, (kept_run G).mp r⟩⟩⟩
  · rw [hlen] at h1
    have := hv n' _ (by show n' ≤ (max 1 (ks.length : Int)).toNat; omega) ⟨b, hb, g', h2, rfl⟩
    omega
end T
set_option maxHeartbeats 2000000
namespace T
open PySem L2 NdefX LamX TK
variable [TC]
theorem keptM_len {ks : List Int} {l : List Mk} : (keptM ks l).length ≤ l.length := by unfold keptM; rw [List.length_map]; exact List.length_filter_le _ _
theorem keptE_len {ks : List Int} {l : List Ed} : (keptE ks l).length ≤ l.length := by unfold keptE; rw [List.length_map]; exact List.length_filter_le _ _
theorem kept_sz {t : Tn} (h : t.Sz) {ks : List Int} : (keptT t ks).Sz := ⟨Nat.le_trans keptM_len h.lb, Nat.le_trans keptE_len h.le, Nat.le_trans keptM_len h.lf, fun m hm => by
    obtain ⟨m0, h0, _, rfl⟩ := mem_keptM hm
    exact h.wb m0 h0, fun m hm => by
    obtain ⟨m0, h0, _, _, rfl⟩ := mem_keptE hm
    exact h.we m0 h0, fun m hm => by
    obtain ⟨m0, h0, _, rfl⟩ := mem_keptM hm
    exact h.wf m0 h0⟩
theorem plain_w {w : List Int} : plainD (wD w) = true := plain_ints
theorem plain_ms {l : List Mk} : plainL (l.map Mk.d) = true := by
  induction l with
  | nil => rfl
  | cons m l ih => simp [plainL, Mk.d, plainD, plain_w, ih]
theorem dep_ms {l : List Mk} : (D.tup (l.map Mk.d)).py.depth ≤ 64 := by
  simp only [D.py]
  induction l with
  | nil => simp [D.pyL, PyData.depth, PyData.depthAll]
  | cons x l ih =>
    have := dep_m x
    have h2 := dep_w x.w
    simp only [List.map_cons, D.pyL, D.py, Mk.d, PyData.depth, PyData.depthAll] at ih this h2 ⊢
    omega
theorem eqv_ms {l : List Mk} : PyData.eqv (D.tup (l.map Mk.d)).py (D.tup []).py = l.isEmpty := by
  cases l <;> simp [D.py, D.pyL, PyData.eqv, PyData.eqvAll]
def G_extreme : List D → D → Prop := fun ds d => ∃ (t : Tn) (s : Int) (r : Option Int), ds = [t.d, .int s] ∧ t.Ok ∧ (s = 1 ∨ s = -1) ∧ IsGr t s r ∧ d = optI r
def G_growth (s : Int) : List D → D → Prop := fun ds d => ∃ (t : Tn) (r : Option Int), ds = [t.d] ∧ t.Ok ∧ IsGr t s r ∧ d = optI r
section
variable {P : Program} {w : World} {K : PySem.W.Frag} {mg : Str → Option Value} {base : Heap}
end
end T
set_option maxHeartbeats 2000000
namespace TK
open PySem L2 NdefX LamX
variable [TC]
theorem foldmax_ge : ∀ (ns : List Int) (n : Int), n ≤ ns.foldl max n ∧ (∀ y ∈ ns, y ≤ ns.foldl max n) ∧ (ns.foldl max n = n ∨ ns.foldl max n ∈ ns)
  | [], n => ⟨Int.le_refl _, (fun y h => by cases h), .inl rfl⟩
  | a :: ns, n => by
    obtain ⟨h1, h2, h3⟩ := foldmax_ge ns (max n a)
    rw [List.foldl_cons]
    refine ⟨by omega, fun y hy => ?_, ?_⟩
    · rcases List.mem_cons.mp hy with e | e
      · omega
      · exact h2 y e
    · rcases h3 with e | e
      · rcases Int.le_total n a with c | c
        · rw [e, Int.max_eq_right c]
          exact .inr (by simp)
        · rw [e, Int.max_eq_left c]
          exact .inl rfl
      · exact .inr (by simp [e])
theorem depth_all_ints : ∀ ns : List Int, PyData.depthAll (ns.map PyData.int) ≤ 1
  | [] => by simp [PyData.depthAll]
  | n :: ns => by
    have := depth_all_ints ns
    simp only [List.map_cons, PyData.depthAll, PyData.depth]
    omega
theorem dp_ints {K : PySem.W.Frag} {H : Hp} : ∀ ns : List Int, DpAll K H (ns.map V.int) (ns.map PyData.int)
  | [] => .nil
  | n :: ns => .cons (.int n) (dp_ints ns)
theorem vals_ints {us : List Value} : ∀ {ns : List Int} {i : Nat} {v : Value}, Vals (ns.map V.int) us → us[i]? = some v → ∃ n t, ns[i]? = some n ∧ v = .int n t := fun {ns i v} r e => by
  have hl := r.length
  rw [List.length_map] at hl
  have hi : i < ns.length := by rw [hl]; exact (List.getElem?_eq_some_iff.mp e).1
  obtain ⟨u, h1, t, h2⟩ := r.get (i := i) (x := V.int ns[i]) (by rw [List.getElem?_map, List.getElem?_eq_getElem hi]; rfl)
  rw [e] at h1
  cases h1
  exact ⟨ns[i], t, List.getElem?_eq_getElem hi, h2⟩
theorem cr_maxdf {X : Cx} {k : Nat} (hc : X.calm = true) (hr : Room k X.A) : CallRK X (.builtin "max") [Str.ofString "default"] (rMaxDf X.K) := by
  intro pins s σ H xs zs us ws Q I r rz h
  obtain ⟨p, ns, d, rfl, rfl, hs, q0, q1⟩ := h
  obtain rfl := Vals.ref1 r
  obtain ⟨w1, rfl, e1⟩ := vals1 rz
  obtain ⟨its, rv, hp, hz⟩ := I.list hs
  obtain ⟨as, hrd⟩ := Dp.readsAll I _ _ _ (dp_ints ns) rv
  have hun := hr.units
  have hal : PySem.W.AlikeAll (ns.map PyData.int) := ⟨fun x hx y hy => by
    obtain ⟨a, _, rfl⟩ := List.mem_map.mp hx
    obtain ⟨b, _, rfl⟩ := List.mem_map.mp hy
    rfl, fun x hx z => by
    obtain ⟨a, _, rfl⟩ := List.mem_map.mp hx
    cases z⟩
  refine PySem.W.max_list_default (I.ok.hd hc) hp.isList hrd hal (by have := depth_all_ints ns; omega) (fun e h' tk hk => ⟨d, H, I.kept hk, e1, q0 (by simpa using e)⟩) fun y ys i v h' tk bs e hv rd hk => ?_
  cases ns with
  | nil => cases e
  | cons n ns =>
    cases e
    rw [PySem.W.maxD_ints] at rd
    obtain ⟨m, t, hm, rfl⟩ := vals_ints rv (show its[i]? = some v by simpa using hv)
    obtain ⟨g1, g2, g3⟩ := foldmax_ge ns n
    have em : m = ns.foldl max n := by
      cases rd
      rfl
    subst em
    exact ⟨.int _, H, I.kept hk, ⟨t, rfl⟩, q1 _ (List.mem_of_getElem? hm) fun y hy => (List.mem_cons.mp hy).elim (fun e => e ▸ g1) (g2 y)⟩
section
variable {δ : Dl} {μ : Mu} {te td : TE} {K : PySem.W.Frag} {ns : List Int}
def optM (m : Option Int) : D := match m with
  | none => .non
  | some i => .int i
theorem e_maxdf {m : Option Int} (h : EQ δ μ te (ns.map .int)) (h0 : m = none → ns = []) (h1 : ∀ i, m = some i → i ∈ ns ∧ ∀ y ∈ ns, y ≤ i) : E δ μ (tCKw (rMaxDf K) (tCons te tNil) (tCons (tC .non) tNil)) (.dat (optM m)) := fun σ H s Q k =>
  h σ H s _ fun p vs H1 f1 e1 r1 => by
    have ev : vs = ns.map V.int := ints_of (by
      have := RpAL.dat.mpr r1
      rw [List.map_map] at this
      exact this)
    subst ev
    refine ⟨p, ns, .non, rfl, rfl, SqL.of e1, fun e => ?_, fun i hi hx => ?_⟩
    · cases m with
      | none => exact k _ H1 f1 Rp.non
      | some i =>
        obtain ⟨q, _⟩ := h1 i rfl
        rw [e] at q
        cases q
    · cases m with
      | none =>
        rw [h0 rfl] at hi
        cases hi
      | some j =>
        obtain ⟨q1, q2⟩ := h1 j rfl
        have e : i = j := Int.le_antisymm (q2 _ hi) (hx _ q1)
        subst e
        exact k _ H1 f1 (Rp.int _)
end
end TK
set_option maxHeartbeats 2000000
namespace T
open PySem L2 NdefX LamX TK
variable [TC]
def Wx (t : Tn) (p : Int) (n : Nat) (v : Int) : Prop := ∃ b ∈ t.B, ∃ g, Pth t.E b.p p n g ∧ v = (b.w.length : Int) + g + (n : Int)
theorem Pth.letters {E : List Ed} {p q : Int} {n : Nat} {g : Int} (a : Pth E p q n g) : 0 ≤ g + (n : Int) := by
  induction a with
  | nil => simp
  | snoc a he ea ih => push_cast; omega
theorem Wx.nn {t : Tn} {p : Int} {n : Nat} {v : Int} (h : Wx t p n v) : 0 ≤ v := by
  obtain ⟨b, hb, g, a, rfl⟩ := h
  have := a.letters
  omega
theorem Wx.base {t : Tn} {b : Mk} (h : b ∈ t.B) : Wx t b.p 0 (b.w.length : Int) := ⟨b, h, 0, .nil _, by simp⟩
theorem Wx.snoc {t : Tn} {n : Nat} {v : Int} {e : Ed} (h : Wx t e.a n v) (he : e ∈ t.E) : Wx t e.b (n + 1) (v + (e.w.length : Int)) := by
  obtain ⟨b, hb, g, hp, rfl⟩ := h
  exact ⟨b, hb, _, .snoc hp he rfl, by push_cast; omega⟩
theorem Wx.inv {t : Tn} {q : Int} {n : Nat} {v : Int} (h : Wx t q (n + 1) v) : ∃ e ∈ t.E, e.b = q ∧ ∃ v', Wx t e.a n v' ∧ v = v' + (e.w.length : Int) := by
  obtain ⟨b, hb, g, hp, rfl⟩ := h
  cases hp with
  | snoc hp he ea =>
    subst ea
    exact ⟨_, he, rfl, _, ⟨b, hb, _, hp, rfl⟩, by push_cast; omega⟩
theorem Wx.inv0 {t : Tn} {q v : Int} (h : Wx t q 0 v) : ∃ b ∈ t.B, b.p = q ∧ v = (b.w.length : Int) := by
  obtain ⟨b, hb, g, hp, rfl⟩ := h
  cases hp
  exact ⟨b, hb, rfl, by simp⟩
theorem Wx.place {t : Tn} {q : Int} {n : Nat} {v : Int} (h : Wx t q n v) : q ∈ t.B.map Mk.p ++ t.E.map Ed.b := by
  cases n with
  | zero =>
    obtain ⟨b, hb, rfl, _⟩ := h.inv0
    exact List.mem_append_left _ (List.mem_map.mpr ⟨b, hb, rfl⟩)
  | succ n =>
    obtain ⟨e, he, rfl, _⟩ := h.inv
    exact List.mem_append_right _ (List.mem_map.mpr ⟨e, he, rfl⟩)
structure LX (t : Tn) (n : Nat) (S : Int → Int → Prop) (hs : List (Int × Int)) : Prop where
  nd : (hs.map (·.1)).Nodup
  att : ∀ p h, hs.lookup p = some h → Wx t p n h
  cov : ∀ p v, S p v → ∃ h, hs.lookup p = some h ∧ v ≤ h
theorem LX.len {t : Tn} {n : Nat} {S : Int → Int → Prop} {hs : List (Int × Int)} (h : LX t n S hs) (z : t.Sz) : hs.length ≤ 2000 := by
  have := nodup_len (U := t.B.map Mk.p ++ t.E.map Ed.b) h.nd fun p hp => by
    have := look_some.mpr hp
    cases e : hs.lookup p with
    | none => rw [e] at this; cases this
    | some v => exact (h.att p v e).place
  rw [List.length_map, List.length_append, List.length_map, List.length_map] at this
  have := z.lb
  have := z.le
  omega
theorem LX.nil {t : Tn} {n : Nat} {S : Int → Int → Prop} (h : ∀ p v, ¬ S p v) : LX t n S [] := ⟨List.nodup_nil, (fun p h e => by cases e), fun p v q => absurd q (h p v)⟩
theorem LX.put {t : Tn} {n : Nat} {S S' : Int → Int → Prop} {hs : List (Int × Int)} (h : LX t n S hs) {q x : Int} (hw : Wx t q n x) (hS : ∀ p v, S' p v → S p v ∨ (p = q ∧ v = x)) : LX t n S' (putI hs q (max ((hs.lookup q).getD 0) x)) := by
  refine ⟨putI_nd h.nd, fun p y e => ?_, fun p v s => ?_⟩
  · rw [putI_look] at e
    by_cases c : p = q
    · rw [if_pos c] at e
      cases e
      rw [c]
      cases e2 : hs.lookup q with
      | none =>
        rw [Option.getD_none, Int.max_eq_right hw.nn]
        exact hw
      | some y =>
        rw [Option.getD_some]
        rcases Int.le_total y x with l | l
        · rw [Int.max_eq_right l]; exact hw
        · rw [Int.max_eq_left l]; exact h.att _ _ e2
    · rw [if_neg c] at e
      exact h.att p y e
  · rw [putI_look]
    by_cases c : p = q
    · rw [if_pos c]
      refine ⟨_, rfl, ?_⟩
      rcases hS p v s with s1 | ⟨_, rfl⟩
      · obtain ⟨y, h1, h2⟩ := h.cov p v s1
        rw [c] at h1
        rw [h1, Option.getD_some]
        omega
      · omega
    · rw [if_neg c]
      rcases hS p v s with s1 | ⟨e, _⟩
      · exact h.cov p v s1
      · exact absurd e c
def IsLong (t : Tn) (n : Nat) : Option Int → Prop
  | some m => (∃ g, Run t n g ∧ m = g + (n : Int)) ∧ ∀ g, Run t n g → g + (n : Int) ≤ m
  | none => ∀ g, ¬ Run t n g
theorem IsLong.uniq {t : Tn} {n : Nat} {r r' : Option Int} (h : IsLong t n r) (h' : IsLong t n r') : r = r' := by
  cases r with
  | some m =>
    obtain ⟨⟨g, r1, rfl⟩, h2⟩ := h
    cases r' with
    | some m' =>
      obtain ⟨⟨g', r1', rfl⟩, h2'⟩ := h'
      have := h2 _ r1'
      have := h2' _ r1
      have e : g = g' := by omega
      rw [e]
    | none => exact absurd r1 (h' g)
  | none =>
    cases r' with
    | some m' =>
      obtain ⟨⟨g', r1', rfl⟩, h2'⟩ := h'
      exact absurd r1' (h g')
    | none => rfl
def G_longest : List D → D → Prop := fun ds d => ∃ (t : Tn) (n : Nat) (r : Option Int), ds = [t.d, .int (n : Int)] ∧ t.Ok ∧ n ≤ 1000 ∧ IsLong t n r ∧ d = optI r
section
variable {P : Program} {w : World} {K : PySem.W.Frag} {mg : Str → Option Value} {base : Heap}
end
end T
set_option maxHeartbeats 2000000
namespace T
open TK PySem PySem.W PyProof.Rows
variable [TC]
theorem dlt_eq (x y : D) : D.lt x y = lexLt itemOrd (keyToks x.py) (keyToks y.py) := rfl
theorem leD_total (x y : D) : (leD x y || leD y x) = true := by
  unfold leD
  cases h1 : D.lt y x with
  | false => rfl
  | true =>
    cases h2 : D.lt x y with
    | false => rfl
    | true =>
      have := lex_trans (O := itemOrd) _ _ _ h1 h2
      rw [lex_irrefl] at this
      cases this
theorem leD_trans (x y z : D) (h1 : leD x y = true) (h2 : leD y z = true) : leD x z = true := by
  unfold leD at *
  cases h3 : D.lt z x with
  | false => rfl
  | true =>
    rcases lex_negTrans (O := itemOrd) _ (keyToks y.py) _ h3 with q | q
    · have q : D.lt z y = true := q
      rw [q] at h2; cases h2
    · have q : D.lt y x = true := q
      rw [q] at h1; cases h1
theorem tw : ∀ {w v : List Int} {l m : List (Int ⊕ List Nat)}, keyToks (wD w).py ++ l = keyToks (wD v).py ++ m → w = v ∧ l = m
  | [], [], l, m, h => ⟨rfl, by simpa [wD, D.py, D.pyL, keyToks, keyToksAll] using h⟩
  | [], b :: v, l, m, h => by simp [wD, D.py, D.pyL, keyToks, keyToksAll] at h
  | a :: w, [], l, m, h => by simp [wD, D.py, D.pyL, keyToks, keyToksAll] at h
  | a :: w, b :: v, l, m, h => by
    simp only [wD, D.py, List.map_cons, D.pyL, keyToks, keyToksAll, List.cons_append, List.nil_append, List.cons.injEq, Sum.inl.injEq, true_and] at h
    obtain ⟨h1, h2⟩ := h
    obtain ⟨h3, h4⟩ := tw (w := w) (v := v) (l := l) (m := m) (by simpa only [wD, D.py, keyToks] using h2)
    exact ⟨by rw [h1, h3], h4⟩
theorem mk_inj {a b : Mk} (h : keyToks a.d.py = keyToks b.d.py) : a = b := by
  simp only [Mk.d, D.py, D.pyL, keyToks, keyToksAll, List.cons_append, List.nil_append, List.cons.injEq, Sum.inl.injEq, true_and] at h
  obtain ⟨h1, h2⟩ := h
  obtain ⟨h3, _⟩ := tw h2
  cases a
  cases b
  simp_all
theorem ed_inj {a b : Ed} (h : keyToks a.d.py = keyToks b.d.py) : a = b := by
  simp only [Ed.d, D.py, D.pyL, keyToks, keyToksAll, List.cons_append, List.nil_append, List.cons.injEq, Sum.inl.injEq, true_and] at h
  obtain ⟨h1, h2, h3, h4⟩ := h
  obtain ⟨h5, _⟩ := tw h4
  cases a
  cases b
  simp_all
theorem asc_of {α : Type} {f : α → D} (inj : ∀ a b, keyToks (f a).py = keyToks (f b).py → a = b) : ∀ {l : List α}, l.Nodup → l.Pairwise (fun a b => leD (f a) (f b) = true) → ascB (l.map f) = true
  | [], _, _ => rfl
  | [a], _, _ => rfl
  | a :: b :: l, nd, pw => by
    have ih := asc_of inj (l := b :: l) (List.nodup_cons.mp nd).2 (List.pairwise_cons.mp pw).2
    unfold ascB at ih ⊢
    rw [List.map_cons, List.map_cons, List.drop_succ_cons, List.drop_zero, List.zip_cons_cons, List.all_cons]
    rw [List.map_cons, List.drop_succ_cons, List.drop_zero] at ih
    rw [ih, Bool.and_true]
    have h1 := (List.pairwise_cons.mp pw).1 b (by simp)
    unfold leD at h1
    have h2 : D.lt (f b) (f a) = false := by simpa using h1
    cases h3 : D.lt (f a) (f b) with
    | true => rfl
    | false =>
      have := inj a b (lex_total (O := itemOrd) _ _ h3 h2)
      exact absurd (List.nodup_cons.mp nd).1 (by rw [this]; simp)
theorem asc_sort {α : Type} {f : α → D} (inj : ∀ a b, keyToks (f a).py = keyToks (f b).py → a = b) {l : List α} (nd : l.Nodup) : ascB ((l.mergeSort fun a b => leD (f a) (f b)).map f) = true := by
  refine asc_of inj ((List.mergeSort_perm _ _).nodup_iff.mpr nd) ?_
  exact List.pairwise_mergeSort (le := fun a b => leD (f a) (f b)) (fun a b c => leD_trans (f a) (f b) (f c)) (fun a b => leD_total (f a) (f b)) l
def sortM (l : List Mk) : List Mk := l.mergeSort fun a b => leD a.d b.d
def sortE (l : List Ed) : List Ed := l.mergeSort fun a b => leD a.d b.d
theorem sortM_d {l : List Mk} : (l.map Mk.d).mergeSort leD = (sortM l).map Mk.d := (List.map_mergeSort (r := fun a b : Mk => leD a.d b.d) (s := leD) (f := Mk.d) (fun a _ b _ => rfl)).symm
theorem sortE_d {l : List Ed} : (l.map Ed.d).mergeSort leD = (sortE l).map Ed.d := (List.map_mergeSort (r := fun a b : Ed => leD a.d b.d) (s := leD) (f := Ed.d) (fun a _ b _ => rfl)).symm
theorem sortM_perm {l : List Mk} : (sortM l).Perm l := List.mergeSort_perm _ _
theorem sortE_perm {l : List Ed} : (sortE l).Perm l := List.mergeSort_perm _ _
theorem sortM_asc {l : List Mk} (nd : l.Nodup) : ascB ((sortM l).map Mk.d) = true := asc_sort (fun a b => mk_inj) nd
theorem sortE_asc {l : List Ed} (nd : l.Nodup) : ascB ((sortE l).map Ed.d) = true := asc_sort (fun a b => ed_inj) nd
theorem asc_nd {α : Type} {f : α → D} : ∀ {l : List α}, ascB (l.map f) = true → l.Nodup ∧ ∀ a ∈ l.head?, ∀ b ∈ l.tail, D.lt (f a) (f b) = true
  | [], _ => ⟨List.nodup_nil, fun a h => by simp at h⟩
  | [a], _ => ⟨by simp, fun a h b hb => by simp at hb⟩
  | a :: b :: l, h => by
    unfold ascB at h
    rw [List.map_cons, List.map_cons, List.drop_succ_cons, List.drop_zero, List.zip_cons_cons, List.all_cons, Bool.and_eq_true] at h
    obtain ⟨h1, h2⟩ := h
    obtain ⟨ih1, ih2⟩ := asc_nd (f := f) (l := b :: l) (by
      unfold ascB
      rw [List.map_cons, List.drop_succ_cons, List.drop_zero]
      exact h2)
    have lt : ∀ c ∈ b :: l, D.lt (f a) (f c) = true := fun c hc => by
      rcases List.mem_cons.mp hc with e | e
      · rw [e]; exact h1
      · exact lex_trans (O := itemOrd) _ _ _ h1 (ih2 b (by simp) c (by simpa using e))
    refine ⟨List.nodup_cons.mpr ⟨fun z => ?_, ih1⟩, fun c hc d hd => ?_⟩
    · have := lt a z
      rw [dlt_eq, lex_irrefl] at this
      cases this
    · simp at hc
      rw [← hc]
      exact lt d (by simpa using hd)
theorem dlike_ms {l : List Mk} : DLike (l.map Mk.d) := fun x hx y hy => by
  obtain ⟨m, _, rfl⟩ := List.mem_map.mp hx
  obtain ⟨n, _, rfl⟩ := List.mem_map.mp hy
  exact like_m m n
theorem dlike_es {l : List Ed} : DLike (l.map Ed.d) := fun x hx y hy => by
  obtain ⟨m, _, rfl⟩ := List.mem_map.mp hx
  obtain ⟨n, _, rfl⟩ := List.mem_map.mp hy
  exact like_e m n
theorem dsort_ms {l : List Mk} : DSort (l.map Mk.d) := .inl fun x hx => by
  obtain ⟨m, _, rfl⟩ := List.mem_map.mp hx
  exact ⟨_, _, rfl⟩
theorem dsort_es {l : List Ed} : DSort (l.map Ed.d) := .inl fun x hx => by
  obtain ⟨m, _, rfl⟩ := List.mem_map.mp hx
  exact ⟨_, _, rfl⟩
theorem ddep_ms {l : List Mk} : ∀ d ∈ l.map Mk.d, d.py.depth ≤ 60 := fun x hx => by
  obtain ⟨m, _, rfl⟩ := List.mem_map.mp hx
  exact dep_m m
theorem ddep_es {l : List Ed} : ∀ d ∈ l.map Ed.d, d.py.depth ≤ 60 := fun x hx => by
  obtain ⟨m, _, rfl⟩ := List.mem_map.mp hx
  exact dep_e m
end T
set_option maxHeartbeats 2000000
namespace T
open PySem L2 NdefX LamX TK
variable [TC]
def Mk.rev (m : Mk) : Mk := ⟨m.p, m.w.reverse⟩
def Ed.rev (e : Ed) : Ed := ⟨e.b, e.s, e.a, e.w.reverse⟩
def Tn.rev (t : Tn) : Tn := ⟨t.S, t.L, t.N, sortM (t.F.map Mk.rev), sortE (t.E.map Ed.rev), sortM (t.B.map Mk.rev)⟩
theorem Mk.rev_rev (m : Mk) : m.rev.rev = m := by simp [Mk.rev]
theorem Ed.rev_rev (m : Ed) : m.rev.rev = m := by simp [Ed.rev]
theorem nd_rev_m {l : List Mk} (h : l.Nodup) : (l.map Mk.rev).Nodup := by
  rw [List.nodup_iff_pairwise_ne, List.pairwise_map]
  exact (List.nodup_iff_pairwise_ne.mp h).imp fun {a b} h e => h (by rw [← Mk.rev_rev a, e, Mk.rev_rev b])
theorem nd_rev_e {l : List Ed} (h : l.Nodup) : (l.map Ed.rev).Nodup := by
  rw [List.nodup_iff_pairwise_ne, List.pairwise_map]
  exact (List.nodup_iff_pairwise_ne.mp h).imp fun {a b} h e => h (by rw [← Ed.rev_rev a, e, Ed.rev_rev b])
theorem mem_sortM {l : List Mk} {m : Mk} : m ∈ sortM l ↔ m ∈ l := sortM_perm.mem_iff
theorem mem_sortE {l : List Ed} {m : Ed} : m ∈ sortE l ↔ m ∈ l := sortE_perm.mem_iff
theorem okw_rev {L : Int} {w : List Int} (h : okW L w) : okW L w.reverse := ⟨by simpa using h.1, fun x hx => h.2 x (by simpa using hx)⟩
theorem Tn.Ok.rev {t : Tn} (h : t.Ok) : t.rev.Ok := by
  refine ⟨h.s, h.l, h.n, h.nb, fun m hm => ?_, fun m hm => ?_, fun m hm => ?_, ?_, ?_, ?_, sortM_asc (nd_rev_m (asc_nd h.af).1), sortE_asc (nd_rev_e (asc_nd h.ae).1), sortM_asc (nd_rev_m (asc_nd h.ab).1)⟩
  · obtain ⟨m0, h0, rfl⟩ := List.mem_map.mp (mem_sortM.mp hm)
    obtain ⟨h1, h2, h3⟩ := h.f m0 h0
    exact ⟨h1, h2, okw_rev h3⟩
  · obtain ⟨m0, h0, rfl⟩ := List.mem_map.mp (mem_sortE.mp hm)
    obtain ⟨h1, h2, h3, h4, h5, h6, h7⟩ := h.e m0 h0
    exact ⟨h5, h6, h3, h4, h1, h2, okw_rev h7⟩
  · obtain ⟨m0, h0, rfl⟩ := List.mem_map.mp (mem_sortM.mp hm)
    obtain ⟨h1, h2, h3⟩ := h.b m0 h0
    exact ⟨h1, h2, okw_rev h3⟩
  · show (sortM _).length ≤ _
    rw [sortM_perm.length_eq, List.length_map]; exact h.lf
  · show (sortE _).length ≤ _
    rw [sortE_perm.length_eq, List.length_map]; exact h.le
  · show (sortM _).length ≤ _
    rw [sortM_perm.length_eq, List.length_map]; exact h.lb
theorem pth_rev {t : Tn} {p q : Int} {n : Nat} {g : Int} (a : Pth t.E p q n g) : Pth t.rev.E q p n g := by
  induction a with
  | nil => exact .nil _
  | @snoc q n g e a he ea ih =>
    have h1 : e.rev ∈ t.rev.E := mem_sortE.mpr (List.mem_map.mpr ⟨e, he, rfl⟩)
    have h2 := (Pth.one h1).trans (show Pth t.rev.E e.rev.b p n g by
      show Pth t.rev.E e.a p n g
      rw [ea]
      exact ih)
    have h3 : ((e.rev.w.length : Int)) = (e.w.length : Int) := by simp [Ed.rev]
    rw [h3, Nat.add_comm, Int.add_comm] at h2
    exact h2
theorem run_rev {t : Tn} {n : Nat} {g : Int} (r : Run t n g) : Run t.rev n g := by
  obtain ⟨b, hb, f, hf, g', a, rfl⟩ := r
  refine ⟨f.rev, mem_sortM.mpr (List.mem_map.mpr ⟨f, hf, rfl⟩), b.rev, mem_sortM.mpr (List.mem_map.mpr ⟨b, hb, rfl⟩), g', pth_rev a, ?_⟩
  simp [Mk.rev]
  omega
theorem rev_rev_mem {t : Tn} : (∀ m, m ∈ t.rev.rev.B ↔ m ∈ t.B) ∧ (∀ m, m ∈ t.rev.rev.E ↔ m ∈ t.E) ∧ (∀ m, m ∈ t.rev.rev.F ↔ m ∈ t.F) := by
  have k1 : ∀ (l : List Mk) m, m ∈ sortM ((sortM (l.map Mk.rev)).map Mk.rev) ↔ m ∈ l := fun l m => by
    rw [mem_sortM, List.mem_map]
    constructor
    · rintro ⟨a, ha, rfl⟩
      obtain ⟨b, hb, rfl⟩ := List.mem_map.mp (mem_sortM.mp ha)
      rw [Mk.rev_rev]
      exact hb
    · exact fun h => ⟨m.rev, mem_sortM.mpr (List.mem_map.mpr ⟨m, h, rfl⟩), Mk.rev_rev m⟩
  have k2 : ∀ (l : List Ed) m, m ∈ sortE ((sortE (l.map Ed.rev)).map Ed.rev) ↔ m ∈ l := fun l m => by
    rw [mem_sortE, List.mem_map]
    constructor
    · rintro ⟨a, ha, rfl⟩
      obtain ⟨b, hb, rfl⟩ := List.mem_map.mp (mem_sortE.mp ha)
      rw [Ed.rev_rev]
      exact hb
    · exact fun h => ⟨m.rev, mem_sortE.mpr (List.mem_map.mpr ⟨m, h, rfl⟩), Ed.rev_rev m⟩
  exact ⟨k1 t.B, k2 t.E, k1 t.F⟩
theorem pth_sub {E E' : List Ed} (hE : ∀ m ∈ E, m ∈ E') {p q : Int} {n : Nat} {g : Int} (a : Pth E p q n g) : Pth E' p q n g := by
  induction a with
  | nil => exact .nil _
  | snoc a he ea ih => exact .snoc ih (hE _ he) ea
theorem run_sub {t u : Tn} (hB : ∀ m ∈ t.B, m ∈ u.B) (hE : ∀ m ∈ t.E, m ∈ u.E) (hF : ∀ m ∈ t.F, m ∈ u.F) {n : Nat} {g : Int} (r : Run t n g) : Run u n g := by
  obtain ⟨b, hb, f, hf, g', a, rfl⟩ := r
  exact ⟨b, hB b hb, f, hF f hf, g', pth_sub hE a, rfl⟩
theorem run_rev_iff {t : Tn} {g : Int} : (∃ n, Run t n g) ↔ ∃ n, Run t.rev n g :=
  ⟨fun ⟨n, r⟩ => ⟨n, run_rev r⟩, fun ⟨n, r⟩ => ⟨n, run_sub (fun m h => (rev_rev_mem.1 m).mp h) (fun m h => (rev_rev_mem.2.1 m).mp h) (fun m h => (rev_rev_mem.2.2 m).mp h) (run_rev r)⟩⟩
def G_turned : List D → D → Prop := fun ds d => ∃ t : Tn, ds = [t.d] ∧ t.Ok ∧ d = t.rev.d
section
variable {P : Program} {w : World} {K : PySem.W.Frag} {mg : Str → Option Value} {base : Heap}
end
end T
set_option maxHeartbeats 2000000
namespace T
open PySem L2 NdefX LamX TK
variable [TC]
def vA (val : List (Option Int)) (p : Int) : Option Int := val.getD p.toNat none
structure PG (t : Tn) (n : Int) (val : List (Option Int)) : Prop where
  b : ∀ b ∈ t.B, t.live b.p → ∃ h, vA val b.p = some h ∧ (b.w.length : Int) ≤ h
  e : ∀ e ∈ t.E, ∀ h, vA val e.a = some h → t.live e.b → ∃ h', vA val e.b = some h' ∧ h + (e.w.length : Int) - 1 ≤ h'
  f : ∀ f ∈ t.F, ∀ h, vA val f.p = some h → h + (f.w.length : Int) ≤ n
theorem PG.walk {t : Tn} {n : Int} {val : List (Option Int)} (h : PG t n val) {b : Mk} (hb : b ∈ t.B) {q : Int} {k : Nat} {g : Int} (a : Pth t.E b.p q k g) : t.live q → ∃ x, vA val q = some x ∧ (b.w.length : Int) + g ≤ x := by
  induction a with
  | nil => intro l; obtain ⟨x, h1, h2⟩ := h.b b hb l; exact ⟨x, h1, by omega⟩
  | @snoc q k g e a he ea ih =>
    intro l
    subst ea
    obtain ⟨x, h1, h2⟩ := ih (.step l (List.mem_map.mpr ⟨e, he, rfl⟩))
    obtain ⟨y, h3, h4⟩ := h.e e he x h1 l
    exact ⟨y, h3, by omega⟩
theorem PG.sound {t : Tn} {n : Int} {val : List (Option Int)} (h : PG t n val) {k : Nat} {g : Int} (r : Run t k g) : g ≤ n := by
  obtain ⟨b, hb, f, hf, g', a, rfl⟩ := r
  obtain ⟨x, h1, h2⟩ := h.walk hb a (end_live hf)
  have := h.f f hf x h1
  omega
def liveT (t : Tn) (fs : List Int) : Tn := ⟨t.S, t.L, t.N, t.B.filter fun m => decide (m.p ∈ fs), t.E.filter fun e => decide (e.b ∈ fs), t.F⟩
theorem liveT_sz {t : Tn} (h : t.Sz) {fs : List Int} : (liveT t fs).Sz := ⟨Nat.le_trans (List.length_filter_le _ _) h.lb, Nat.le_trans (List.length_filter_le _ _) h.le, h.lf, fun m hm => h.wb m (List.mem_filter.mp hm).1, fun m hm => h.we m (List.mem_filter.mp hm).1, h.wf⟩
theorem liveT_imp {t : Tn} (ok : t.Ok) {fs : List Int} (hf : ∀ q, q ∈ fs ↔ t.live q) (im : Imp (liveT t fs) 1 t.N.toNat) : ¬ ∃ m, IsTop t 1 m := by
  obtain ⟨q, n, v, ⟨b, hb, g, a, rfl⟩, hv⟩ := im
  have hb0 := (List.mem_filter.mp hb).1
  have inU : ∀ p : Int, 0 ≤ p → p < t.N → p ∈ (List.range t.N.toNat).map fun (i : Nat) => (i : Int) := fun p h1 h2 => List.mem_map.mpr ⟨p.toNat, List.mem_range.mpr (by omega), by omega⟩
  have hE : ∀ e ∈ (liveT t fs).E, e.b ∈ (List.range t.N.toNat).map fun (i : Nat) => (i : Int) := fun e he => by
    have := ok.e e (List.mem_filter.mp he).1
    exact inU _ this.2.2.2.2.1 this.2.2.2.2.2.1
  have sub : ∀ m ∈ (liveT t fs).E, m ∈ t.E := fun m hm => (List.mem_filter.mp hm).1
  rcases Pth.short (s := 1) hE n (inU _ (ok.b b hb0).1 (ok.b b hb0).2.1) a with ⟨c, n1, g1, k, gc, a1, a2, hc⟩ | ⟨n', g', h1, h2, h3⟩
  · have lc : t.live c := by
      cases a2 with
      | snoc _ he _ => exact (hf _).mp (of_decide_eq_true (List.mem_filter.mp he).2)
    obtain ⟨f, hf', n2, g2, a3⟩ := live_pth lc
    exact no_top hb0 hf' (pth_sub sub a1) (pth_sub sub a2) a3 hc
  · rw [List.length_map, List.length_range] at h1
    have := hv n' _ (by omega) ⟨b, hb, g', h2, rfl⟩
    omega
theorem vA_range {N : Int} {hs : List (Int × Int)} {p : Int} (h0 : 0 ≤ p) (h1 : p < N) : vA ((List.range N.toNat).map fun (i : Nat) => hs.lookup (i : Int)) p = hs.lookup p := by
  unfold vA
  rw [List.getD_eq_getElem?_getD, List.getElem?_map, List.getElem?_range (by omega)]
  show hs.lookup ((p.toNat : Nat) : Int) = _
  rw [show ((p.toNat : Nat) : Int) = p by omega]
theorem paper_ok {t : Tn} (ok : t.Ok) {fs : List Int} (hf : ∀ q, q ∈ fs ↔ t.live q) {hs : List (Int × Int)} (att : Att (liveT t fs) 1 hs) (cov : Cov (liveT t fs) 1 0 hs) (fx : Fix (liveT t fs) 1 hs) {m n : Int} (top : IsTop t 1 m) (hn : m ≤ n) :
    PG t n ((List.range t.N.toNat).map fun (i : Nat) => hs.lookup (i : Int)) := by
  refine ⟨fun b hb l => ?_, fun e he h hh l => ?_, fun f hff h hh => ?_⟩
  · rw [vA_range (ok.b b hb).1 (ok.b b hb).2.1]
    have hb2 : b ∈ (liveT t fs).B := List.mem_filter.mpr ⟨hb, decide_eq_true ((hf _).mpr l)⟩
    obtain ⟨h, e, q⟩ := cov b.p 0 _ (Nat.le_refl _) (Wk.base hb2)
    exact ⟨h, e, by omega⟩
  · have z := ok.e e he
    rw [vA_range z.1 z.2.1] at hh
    rw [vA_range z.2.2.2.2.1 z.2.2.2.2.2.1]
    obtain ⟨h', q1, q2⟩ := fx e (List.mem_filter.mpr ⟨he, decide_eq_true ((hf _).mpr l)⟩) h hh
    exact ⟨h', q1, by omega⟩
  · rw [vA_range (ok.f f hff).1 (ok.f f hff).2.1] at hh
    obtain ⟨k, b, hb, g, a, rfl⟩ := att _ _ hh
    have := top.2 k _ ⟨b, (List.mem_filter.mp hb).1, f, hff, g, pth_sub (fun m hm => (List.mem_filter.mp hm).1) a, rfl⟩
    omega
def pD (val : List (Option Int)) : D := .tup (val.map optI)
def G_paper : List TK.A → Mu → (TK.A → Mu → Prop) → Prop := fun xs μ R => ∃ (t : Tn) (r : Option Int), xs = [.dat t.d] ∧ μ = [] ∧ t.Ok ∧ IsGr t 1 r ∧
  R = fun x μ' => μ' = [] ∧ (r = none → x = .dat .non) ∧ ∀ m, r = some m → ∃ val : List (Option Int), x = .dat (pD val) ∧ val.length = t.N.toNat ∧ ∀ n, m ≤ n → PG t n val
def G_is_paper : List D → D → Prop := fun ds d => ∃ (t : Tn) (n : Int) (val : List (Option Int)) (b : Bool), ds = [t.d, .int n, pD val] ∧ t.Ok ∧ val.length = t.N.toNat ∧ (b = true ↔ PG t n val) ∧ d = .bl b
theorem optI_isN (r : Option Int) : isN (.dat (optI r)) = r.isNone := by cases r <;> rfl
section
variable {P : Program} {w : World} {K : PySem.W.Frag} {mg : Str → Option Value} {base : Heap}
end
end T
set_option maxHeartbeats 2000000
namespace T
open PySem L2 NdefX LamX TK
variable [TC]
theorem at_pD {N : Int} {val : List (Option Int)} (hl : val.length = N.toNat) {p : Int} (h0 : 0 ≤ p) (h1 : p < N) : atI (val.map optI) p = some (optI (vA val p)) := by
  have hp : p.toNat < val.length := by omega
  unfold vA
  rw [List.getD_eq_getElem?_getD, List.getElem?_eq_getElem hp, Option.getD_some]
  have e : ixN (val.map optI).length p = some p.toNat := by
    unfold ixN
    simp only [List.length_map]
    rw [if_pos h0, if_pos (by omega)]
  unfold atI
  rw [e]
  show (val.map optI)[p.toNat]? = _
  rw [List.getElem?_map, List.getElem?_eq_getElem hp]
  rfl
section
variable {P : Program} {w : World} {K : PySem.W.Frag} {mg : Str → Option Value} {base : Heap}
end
end T
set_option maxHeartbeats 2000000
namespace TK
open PySem L2 NdefX LamX
variable [TC]
theorem SM.perm {μ μ' : Mu} {H : Hp} (m : SM μ H) (p : μ.Perm μ') : SM μ' H :=
  ⟨show (keys μ').Nodup from ((p.map (fun x : Addr × C => x.1)).nodup_iff).mp m.nd, fun x hx => m.own x (p.mem_iff.mpr hx), fun x hx => m.notbl x (p.mem_iff.mpr hx), m.tb⟩
theorem FS.permR {μ μ1 μ2 : Mu} {H H' : Hp} (f : FS μ H μ1 H') (p : μ1.Perm μ2) : FS μ H μ2 H' := ⟨f.fr, fun a ha => f.new a ((p.map (·.1)).mem_iff.mpr ha)⟩
theorem FS.permL {μ μ1 μ2 : Mu} {H H' : Hp} (f : FS μ1 H μ H') (p : μ1.Perm μ2) : FS μ2 H μ H' := ⟨f.fr.weak fun a ha => (p.map (·.1)).mem_iff.mp ha, fun a ha => (f.new a ha).imp (fun h => (p.map (·.1)).mem_iff.mp h) id⟩
section
variable {δ δ' : Dl} {μ μ' : Mu} {te ta tb tc tl td ty tx tk tv to ti : TE} {tt tu : TT} {tr : TA} {x y z : A} {d e : D} {b c : Bool} {ts us : TS} {P : Po} {g : TG} {K : PySem.W.Frag} {wi : TI} {xs : List A} {a : Addr}
theorem HT.perm (h : HT δ μ' ts P) (p : μ.Perm μ') : HT δ μ ts P := fun σ H D s go => h σ H D (s.withM (fun _ _ e => e) (s.mem.perm p)) (go.step ⟨Fr.refl _ _, fun a ha => .inl ((p.map (·.1)).mem_iff.mpr ha)⟩)
theorem EX.perm {R S : A → Mu → Prop} (h : EX δ μ te R) (hp : ∀ x μ1, R x μ1 → ∃ μ2, μ1.Perm μ2 ∧ S x μ2) : EX δ μ te S := fun σ H s Q k => h σ H s Q fun x μ1 v H2 r m f rx => by
  obtain ⟨μ2, p, q⟩ := hp x μ1 r
  exact k x μ2 v H2 q (m.perm p) (f.permR p) rx
theorem ex_callX {G : List A → Mu → (A → Mu → Prop) → Prop} {S : List A → Mu → Prop} {T : A → Mu → Prop} (h : EXA δ μ tr S) (hS : ∀ xs μ1, S xs μ1 → ∃ ν ρ R0, μ1.Perm (ν ++ ρ) ∧ G xs ν R0 ∧ ∀ x ν', R0 x ν' → ∃ μ', (ν' ++ ρ).Perm μ' ∧ T x μ') : EX δ μ (tCall (spM G) [] E0 tr) T := fun σ H s Q k =>
  h σ H s _ fun xs μ1 vs H1 hs m1 f1 r1 => by
    obtain ⟨ν, ρ, R0, hp, hG, hT⟩ := hS xs μ1 hs
    rw [List.append_nil]
    have m1' := m1.perm hp
    refine ⟨xs, ν, R0, r1, m1'.sub (List.sublist_append_left _ _), hG, fun x ν' v H2 h0 m2 f2 r2 => ?_⟩
    have hsub : ∀ a ∈ keys ν, a ∈ keys (ν ++ ρ) := fun a ha => by
      unfold keys
      rw [List.map_append]
      exact List.mem_append_left _ ha
    have m3 := m1'.frame hsub f2 m2
    rw [filt_app m1'.nd] at m3
    obtain ⟨μ', hp', ht⟩ := hT x ν' h0
    have f3 : FS (ν ++ ρ) H1 (ν' ++ ρ) H2 := ⟨f2.fr.weak hsub, fun a ha => by
      unfold keys at ha
      rw [List.map_append] at ha
      rcases List.mem_append.mp ha with q | q
      · rcases f2.new a q with z | z
        · exact .inl (hsub a z)
        · exact .inr z
      · refine .inl ?_
        unfold keys
        rw [List.map_append]
        exact List.mem_append_right _ q⟩
    exact k x _ v H2 ht (m3.perm hp') (f1.trans ((f3.permL hp.symm).permR hp')) r2
theorem ex_callW {G : List A → Mu → (A → Mu → Prop) → Prop} {R : A → Mu → Prop} {S : A → C → Prop} {pre post : Mu} {w : Addr} {c : C} (hμ : μ = pre ++ (w, c) :: post) (h : EA δ μ tr xs) (hG : G xs [(w, c)] R) (hR : ∀ x ν', R x ν' → ∃ c', ν' = [(w, c')] ∧ S x c') :
    EX δ μ (tCall (spM G) [] E0 tr) (fun x μ' => ∃ c', S x c' ∧ μ' = pre ++ (w, c') :: post) := ex_callX h.ex fun ys μ1 ⟨e1, e2⟩ => by
  subst e1 e2 hμ
  refine ⟨[(w, c)], pre ++ post, R, List.perm_middle, hG, fun x ν' r => ?_⟩
  obtain ⟨c', rfl, q⟩ := hR x ν' r
  exact ⟨pre ++ (w, c') :: post, (show ((w, c') :: (pre ++ post)).Perm (pre ++ (w, c') :: post) from List.perm_middle.symm), c', q, rfl⟩
theorem ex_op {r : R2} {R : A → Mu → Prop} {S : A → Mu → Prop} (ha : E δ μ ta x) (hb : EX δ μ tb R) (hr : ∀ y μ', R y μ' → ∃ z, RVM δ μ' r x y z ∧ S z μ') : EX δ μ (tOp r ta tb) S := fun σ H s Q k =>
  ha σ H s _ fun v H1 f1 r1 => hb σ H1 (s.step f1) _ fun y μ' w H2 hR m f2 r2 => by
    obtain ⟨z, h1, h2⟩ := hr y μ' hR
    exact h1 H2 σ v w Q ((s.step f1).withM f2.fr.tup m) (r1.mono f2.fr.tup) r2 fun u H3 f3 r3 => k z μ' u H3 h2 (m.step f3) (((FS.of f1).trans f2).trans (FS.of f3)) r3
theorem rvm_ixL {xs : List A} {i : Int} (n : Nat) (hm : μ[n]? = some (a, .lst xs)) (h : atI xs i = some x) : RVM δ μ (rIxA K) (.own a) (.dat (.int i)) x := fun H σ v w Q s r1 r2 k => by
  obtain ⟨vs, ht, hr⟩ := s.mem.lst hm
  rw [show v = .ref a from r1, rp_int r2]
  obtain ⟨j, h1, h2⟩ := at_of hr.length h
  obtain ⟨u, h3, h4⟩ := hr.get h1
  exact .inr ⟨a, vs, i, u, rfl, rfl, SqL.of ht, by rw [h2]; exact h3, k _ H (Fr.refl _ _) h4⟩
theorem ex_un {R S : A → Mu → Prop} {r : V → Hp → VK → Prop} (ha : EX δ μ ta R) (hr : ∀ x μ', R x μ' → ∃ z, (∀ (H : Hp) (v : V) (Q : VK), RpA H v x → (∀ u H2, Fr [] H H2 → RpA H2 u z → Q u H2) → r v H Q) ∧ S z μ') : EX δ μ (tUn r ta) S := fun σ H s Q k =>
  ha σ H s _ fun x μ' v H1 hR m f r1 => by
    obtain ⟨z, h1, h2⟩ := hr x μ' hR
    exact h1 H1 v Q r1 fun u H3 f3 r3 => k z μ' u H3 h2 (m.step f3) (f.trans (FS.of f3)) r3
theorem ex_lst {S : List A → Mu → Prop} (h : EXA δ μ tr S) (hl : ∀ xs μ', S xs μ' → xs.length ≤ 100000) : EX δ μ (tLst tr) (fun x μ' => ∃ p xs μ1, S xs μ1 ∧ x = .own p ∧ μ' = (p, .lst xs) :: μ1) := fun σ H s Q k =>
  h σ H s _ fun xs μ1 vs H1 hs m f r => ⟨by rw [r.length]; exact szl (hl xs μ1 hs), fun p hp => k (.own p) _ _ _ ⟨p, xs, μ1, hs, rfl, rfl⟩ (m.add (Fr.new hp nt_lst) hp ⟨vs, upd_same, r.mono (Fr.new hp nt_lst).tup⟩ fun ps z => by rw [upd_same] at z; cases z) (f.trans ⟨(Fr.new hp nt_lst).nil, fun b hb => (List.mem_cons.mp hb).elim (fun z => .inr (z ▸ hp)) .inl⟩) rfl⟩
theorem ex_tup {S : List A → Mu → Prop} {R : A → Mu → Prop} (h : EXA δ μ tr S) (hl : ∀ xs μ', S xs μ' → ∃ ds, xs = ds.map .dat ∧ ds.length ≤ 100000 ∧ R (.dat (.tup ds)) μ') : EX δ μ (tTup tr) R := fun σ H s Q k =>
  h σ H s _ fun xs μ1 vs H1 hs m f r => by
    obtain ⟨ds, e, h1, h2⟩ := hl xs μ1 hs
    subst e
    refine ⟨by rw [r.length, List.length_map]; exact szl h1, fun p hp => ?_⟩
    have f2 : Fr [] H1 (upd H1 p (.tup vs)) := Fr.new hp nt_tup
    exact k _ μ1 _ _ h2 (m.step f2) (f.trans (FS.of f2)) (Rp.tup upd_same ((RpAL.dat.mp r).mono f2.tup))
theorem op_modA {X : Cx} : OpR X (binaryOp .Mod) (rI (fun _ j => 0 < j) fun i j => .int (i % j)) := op_mod
theorem op_fdivA {X : Cx} : OpR X (binaryOp .FloorDiv) (rI CDiv fun i j => .int (i / j)) := op_fdiv
theorem e_fdiv {i j : Int} (ha : E δ μ ta (.dat (.int i))) (hb : E δ μ tb (.dat (.int j))) (h : CDiv i j) : E δ μ (tOp (rI CDiv fun i j => .int (i / j)) ta tb) (.dat (.int (i / j))) := e_op ha hb (rv_intC (g := fun i j => i / j) h)
theorem e_pow {i j : Int} (ha : E δ μ ta (.dat (.int i))) (hb : E δ μ tb (.dat (.int j))) (h : CPow i j) : E δ μ (tOp (rI CPow fun i j => .int (i ^ j.toNat)) ta tb) (.dat (.int (i ^ j.toNat))) := e_op ha hb (rv_intC (g := fun i j => i ^ j.toNat) h)
theorem e_int1 {i : Int} (ha : E δ μ ta (.dat (.int i))) : E δ μ (tCB (fun xs H Q => (∃ i, xs = [.int i] ∧ Q (.int i) H) ∨ ∃ k, xs = [.bl k] ∧ Q (.int (if k then 1 else 0)) H) (tCons ta tNil)) (.dat (.int i)) := e_cb (ea_cons ha ea_nil) fun H σ vs Q s r k => by
  cases r with
  | cons r1 r2 =>
    cases r2
    rw [rp_int r1]
    exact .inl ⟨i, rfl, k _ H (Fr.refl _ _) (Rp.int _)⟩
theorem e_abs {i : Int} (ha : E δ μ ta (.dat (.int i))) : E δ μ (tCB (fun xs H Q => ∃ i, xs = [.int i] ∧ Q (.int (if i < 0 then -i else i)) H) (tCons ta tNil)) (.dat (.int (if i < 0 then -i else i))) := e_cb (ea_cons ha ea_nil) fun H σ vs Q s r k => by
  cases r with
  | cons r1 r2 =>
    cases r2
    rw [rp_int r1]
    exact ⟨i, rfl, k _ H (Fr.refl _ _) (Rp.int _)⟩
theorem ht_setIx {k : Int} {j : Nat} (n : Nat) (he : E δ μ te x) (ho : E δ μ to (.own a)) (hi : E δ μ ti (.dat (.int k))) (hm : μ[n]? = some (a, .lst xs)) (hj : ixN xs.length k = some j) (hn : P.nx δ (μ.set n (a, .lst (xs.set j x)))) : HT δ μ (tAsg te (gSub to ti rSetL)) P := fun σ H D s go =>
  he σ H s _ fun v H1 f1 r1 => ho σ H1 (s.step f1) _ fun o H2 f2 r2 => hi σ H2 ((s.step f1).step f2) _ fun i H3 f3 r3 => by
    have f := (f1.trans0 f2).trans0 f3
    have s3 := s.step f
    obtain ⟨vs, e2, q2⟩ := s3.mem.lst hm
    have rx : RpA H3 v x := (r1.mono f2.tup).mono f3.tup
    obtain ⟨m4, f4⟩ := s3.mem.putL n hm e2 (RpAL.set rx j q2)
    rw [show o = V.ref a from r2, rp_int r3]
    exact ⟨a, vs, k, j, rfl, rfl, e2, by rw [q2.length]; exact hj, go.nx _ _ _ _ hn (s3.withM f4.fr.tup m4) ((FS.of f).trans f4)⟩
theorem ex_lcE {α : Type} {l : List α} {q : α → A} {vs : List Nat} (h : EI0 δ μ wi (l.map q)) (hz : l.length < 100000) (I : List A → Mu → Prop) (h0 : I [] μ)
    (hb : ∀ (i : Nat) (d : α) (ys : List A) (μ1 : Mu), l[i]? = some d → ys.length = i → I ys μ1 → ∃ δ2 js, Tg (wipeD δ vs) g (q d) δ2 js ∧ (∀ j ∈ js, j ∈ vs) ∧ EX δ2 μ1 te (fun x μ2 => I (ys ++ [x]) μ2)) :
    EX δ μ (tLc wi g tYes te vs) (fun x μ' => ∃ p ys μ1, x = .own p ∧ μ' = (p, .lst ys) :: μ1 ∧ I ys μ1 ∧ ys.length = l.length) := fun σ H s Q qq => h σ H s _ fun J H1 f1 yl => by
  refine fun p hp => ⟨fun i m H' => m = l.length - i ∧ i ≤ l.length ∧ ∃ ys μ1 us, ys.length = i ∧ I ys μ1 ∧ SM μ1 H' ∧ FS μ H1 μ1 H' ∧ p ∉ keys μ1 ∧ H' p = some (.lst us) ∧ RpAL H' us ys, ⟨l.length, by simp, Nat.zero_le _, [], μ, [], rfl, h0, ?_, ?_, ?_, upd_same, .nil⟩, ?_⟩
  · exact (s.mem.step f1).step (Fr.new hp nt_lst)
  · exact FS.of (Fr.new hp nt_lst)
  · intro z
    obtain ⟨x, hx, e⟩ := List.mem_map.mp z
    exact ((s.mem.step f1).own x hx).there (by rw [e]; exact hp)
  rintro i m H' ⟨rfl, hi, ys, μ1, us, hys, hI, m1, fs1, hpk, hpH, hru⟩
  obtain ⟨r1, r2⟩ := yl.run H' fs1.fr.tup (fun a ha => absurd ha (by simp))
  rw [List.length_map] at r2
  by_cases hlt : i < l.length
  · have h3 : l[i]? = some l[i] := List.getElem?_eq_getElem hlt
    obtain ⟨g1, g2⟩ := r1 i (q l[i]) (by rw [List.getElem?_map, h3]; rfl)
    refine .inr ⟨g1, fun H3 => i + 1 ≤ l.length ∧ ∃ ys μ1 us, ys.length = i + 1 ∧ I ys μ1 ∧ SM μ1 H3 ∧ FS μ H1 μ1 H3 ∧ p ∉ keys μ1 ∧ H3 p = some (.lst us) ∧ RpAL H3 us ys, fun H3 ⟨c1, c2⟩ => ⟨l.length - (i + 1), by omega, rfl, c1, c2⟩, fun w H2 yy => ?_⟩
    obtain ⟨f2, rw⟩ := g2 w H2 yy
    obtain ⟨δ2, js, hg, hj, h5⟩ := hb i l[i] ys μ1 h3 hys hI
    have s1 : SA δ μ1 σ H' := (s.step f1).withM fs1.fr.tup m1
    have s2 := s1.step f2
    refine hg μ1 _ H2 w (s2.wipe vs) rw _ fun σ2 s3 hw => ⟨(hw vs hj).trans wipe_wipe, ?_⟩
    refine h5 σ2 H2 s3 _ fun x μ2 y H4 hI2 m4 f4 ry => ?_
    have p2 : H2 p = some (.lst us) := f2.keep _ _ hpH (by simp) nt_lst
    have p4 : H4 p = some (.lst us) := f4.fr.keep _ _ p2 hpk nt_lst
    have hpk2 : p ∉ keys μ2 := fun z => by
      rcases f4.new p z with q | q
      · exact hpk q
      · rw [p2] at q; cases q
    have ru4 : RpAL H4 us ys := (hru.mono f2.tup).mono f4.fr.tup
    have fw : Fr [p] H4 (upd H4 p (.lst (us ++ [y]))) := Fr.wr (by simp) p4 rfl
    have nb : ∀ b, H1 b ≠ none → b ≠ p := fun b hb z => hb (z ▸ hp)
    refine ⟨us, p4, by rw [ru4.length, hys]; exact szt (Nat.lt_trans hlt hz), hlt, ys ++ [x], μ2, us ++ [y], by simp [hys], hI2, ?_, ?_, hpk2, upd_same, (ru4.mono fw.tup).append (.cons (ry.mono fw.tup) .nil)⟩
    · have nz : ∀ z ∈ μ2, z.1 ≠ p := fun z hz' c => hpk2 (by rw [← c]; exact List.mem_map.mpr ⟨z, hz', rfl⟩)
      refine ⟨m4.nd, fun z hz' => (m4.own z hz').keep fw.tup fun o e => (upd_ne (nz z hz')).trans e, fun z hz' ps e => m4.notbl z hz' ps ?_, fw.tabs m4.tb⟩
      rw [upd_ne (nz z hz')] at e
      exact e
    · have f5 := (fs1.trans (FS.of f2)).trans f4
      exact ⟨f5.fr.mut hp p4 rfl, f5.new⟩
  · have e : i = l.length := by omega
    subst e
    refine .inl ⟨r2, qq (.own p) _ _ H' ⟨p, ys, μ1, rfl, rfl, hI, hys⟩ ?_ ((FS.of f1).trans ⟨fs1.fr, fun b hb => ?_⟩) rfl⟩
    · refine ⟨List.nodup_cons.mpr ⟨hpk, m1.nd⟩, fun z hz' => ?_, fun z hz' => ?_, m1.tb⟩
      · rcases List.mem_cons.mp hz' with c | c
        · rw [c]; exact ⟨us, hpH, hru⟩
        · exact m1.own z c
      · rcases List.mem_cons.mp hz' with c | c
        · rw [c]
          intro ps y
          rw [hpH] at y
          cases y
        · exact m1.notbl z c
    · rcases List.mem_cons.mp hb with c | c
      · exact .inr (c ▸ hp)
      · exact fs1.new b c
theorem ex_lcRX {R S : A → Mu → Prop} {vs : List Nat} (h : EX δ μ te R) (k : ∀ x μ', R x μ' → ∃ n : Int, x = .dat (.int n) ∧ EX δ μ' (tLc (iRng1 (tCons (tC (.int n)) tNil)) g tt ta vs) S) : EX δ μ (tLc (iRng1 (tCons te tNil)) g tt ta vs) S := fun σ H s Q q => h σ H s _ fun x μ' v H2 r m f rx => by
  obtain ⟨n, rfl, hh⟩ := k x μ' r
  rw [rp_int rx]
  exact hh σ H2 (s.withM f.fr.tup m) Q fun x2 μ2 v2 H3 r2 m2 f2 rx2 => q x2 μ2 v2 H3 r2 m2 (f.trans f2) rx2
theorem ht_forRX {R : A → Mu → Prop} (h : EX δ μ te R) (k : ∀ x μ', R x μ' → ∃ n : Int, x = .dat (.int n) ∧ HT δ μ' (tFor (iRng1 (tCons (tC (.int n)) tNil)) g ts) P) : HT δ μ (tFor (iRng1 (tCons te tNil)) g ts) P := fun σ H D s go => h σ H s _ fun x μ' v H2 r m f rx => by
  obtain ⟨n, rfl, hh⟩ := k x μ' r
  rw [rp_int rx]
  exact hh σ H2 D (s.withM f.fr.tup m) (go.step f)
theorem en_lstRg {n : Int} (h : E δ μ te (.dat (.int n))) (h0 : 0 ≤ n) (h1 : n ≤ 100000) : EN δ μ (tLstRg (tRg1 te)) (.lst (intsA n.toNat)) := fun σ H s Q k => h σ H s _ fun v H1 f1 r1 => by
  rw [rp_int r1]
  refine ⟨n, rfl, RgOk.of_le (Int.le_refl _) (by omega) (by omega) h0, fun p hp => k p _ (f1.trans0 (Fr.new hp nt_lst)) (f1.free _ hp) ⟨_, upd_same, ?_⟩ fun ps z => by rw [upd_same] at z; cases z⟩
  unfold rgV intsA
  rw [Int.sub_zero]
  have : ∀ l : List Nat, RpAL (upd H1 p (.lst ((List.range n.toNat).map fun (i : Nat) => V.int (0 + (i : Nat))))) (l.map fun (i : Nat) => V.int (0 + (i : Nat))) (l.map fun (i : Nat) => A.dat (.int (i : Int))) := fun l => by
    induction l with
    | nil => exact .nil
    | cons i l ih => exact .cons (by simp only [Int.zero_add]; exact Rp.int _) ih
  exact this _
theorem ex_tupleX {R S : A → Mu → Prop} (h : EX δ μ te R) (hR : ∀ x μ', R x μ' → ∃ p ds ρ, x = .own p ∧ μ' = (p, C.lst (ds.map .dat)) :: ρ ∧ S (.dat (.tup ds)) ρ) : EX δ μ (tCB (rTupleOf K) (tCons te tNil)) S := fun σ H s Q k =>
  h σ H s _ fun x μ' v H1 r m f rx => by
    obtain ⟨p, ds, ρ, rfl, rfl, hS⟩ := hR x μ' r
    obtain ⟨vs, h1, h2⟩ := m.own (p, C.lst (ds.map .dat)) (by simp)
    rw [show v = V.ref p from rx]
    refine ⟨p, vs, rfl, .inl ⟨SqL.of h1, fun l hl => ?_⟩⟩
    have f2 : Fr [] H1 (upd H1 l (.tup vs)) := Fr.new hl nt_tup
    have sb : List.Sublist ρ ((p, C.lst (ds.map .dat)) :: ρ) := List.sublist_cons_self _ _
    exact k _ ρ _ _ hS ((m.sub sb).step f2) ((f.trans ⟨Fr.refl _ _, fun a ha => .inl ((sb.map _).subset ha)⟩).trans (FS.of f2)) (Rp.tup upd_same ((RpAL.dat.mp h2).mono f2.tup))
end
end TK
set_option maxHeartbeats 2000000
namespace T
open PySem L2 NdefX LamX TK
variable [TC]
def wellC (c s k : Int) : C := .lst [.dat (.int c), .dat (.int s), .dat (.int k)]
def IsW (c : C) : Prop := ∃ a b d, c = wellC a b d
def G_dip : List TK.A → Mu → (TK.A → Mu → Prop) → Prop := fun xs μ R => ∃ (w : Addr) (c : C) (many : Int), xs = [.own w, .dat (.int many)] ∧ μ = [(w, c)] ∧ IsW c ∧ 1 ≤ many ∧ many < 1000000000000001 ∧
  R = fun x μ' => ∃ (r : Int) (c' : C), x = .dat (.int r) ∧ 0 ≤ r ∧ r < many ∧ IsW c' ∧ μ' = [(w, c')]
def G_pick : List TK.A → Mu → (TK.A → Mu → Prop) → Prop := fun xs μ R => ∃ (w l : Addr) (c : C) (ds : List D), xs = [.own w, .own l] ∧ μ = [(l, C.lst (ds.map .dat)), (w, c)] ∧ IsW c ∧ ds ≠ [] ∧ ds.length ≤ 1000 ∧
  R = fun x μ' => ∃ (d : D) (c' : C), d ∈ ds ∧ x = .dat d ∧ IsW c' ∧ μ' = [(w, c')]
def G_word : List TK.A → Mu → (TK.A → Mu → Prop) → Prop := fun xs μ R => ∃ (w : Addr) (c : C) (L m : Int), xs = [.own w, .dat (.int L), .dat (.int m)] ∧ μ = [(w, c)] ∧ IsW c ∧ 1 ≤ L ∧ L < 1073741824 ∧ 0 ≤ m ∧ m ≤ 1000 ∧
  R = fun x μ' => ∃ (v : List Int) (c' : C), x = .dat (wD v) ∧ (v.length : Int) ≤ m ∧ (∀ y ∈ v, 0 ≤ y ∧ y < L) ∧ IsW c' ∧ μ' = [(w, c')]
def SC (K : PySem.W.Frag) (μ : Mu) (a : Addr) (ns : List Int) : Prop := ∀ δ σ H, SA δ μ σ H → SqL K H a (ns.map V.int)
def G_well (K : PySem.W.Frag) : List TK.A → Mu → (TK.A → Mu → Prop) → Prop := fun xs μ R => ∃ (a : Addr) (at_ : Int) (ns : List Int), xs = [.own a, .dat (.int at_)] ∧ 0 ≤ at_ ∧ at_ ≤ 1000 ∧ SC K μ a ns ∧
  R = fun x μ' => ∃ (w : Addr) (c : C), x = .own w ∧ IsW c ∧ μ' = (w, c) :: μ
section
variable {P : Program} {w : World} {K : PySem.W.Frag} {mg : Str → Option Value} {base : Heap}
theorem e_lenS {δ : Dl} {μ : Mu} {ta : TE} {a : Addr} {ns : List Int} (h : TK.E δ μ ta (.own a)) (sc : SC K μ a ns) : TK.E δ μ (tCB (rLenA K) (tCons ta tNil)) (.dat (.int (ns.length : Int))) := e_cb (ea_cons h ea_nil) fun H σ vs Q s r k => by
  cases r with
  | cons r1 r2 =>
    cases r2
    rw [show _ = V.ref a from r1]
    exact .inl ⟨_, (ns.map V.int).length, rfl, .inl ⟨_, sc δ σ H s, rfl⟩, by rw [List.length_map]; exact k _ H (TK.Fr.refl _ _) (Rp.int _)⟩
theorem e_ixS {δ : Dl} {μ : Mu} {ta tb : TE} {a : Addr} {ns : List Int} {i x : Int} (h : TK.E δ μ ta (.own a)) (hb : TK.E δ μ tb (.dat (.int i))) (sc : SC K μ a ns) (hi : atI (ns.map V.int) i = some (V.int x)) : TK.E δ μ (tOp (rIxA K) ta tb) (.dat (.int x)) := e_opM h hb fun H σ v w Q s r1 r2 k => by
  rw [show v = .ref a from r1, rp_int r2]
  exact .inr ⟨a, _, i, _, rfl, rfl, sc δ σ H s, hi, k _ H (TK.Fr.refl _ _) (Rp.int _)⟩
theorem e_fdivW {δ : Dl} {μ : Mu} {ta tb : TE} {i j : Int} (ha : TK.E δ μ ta (.dat (.int i))) (hb : TK.E δ μ tb (.dat (.int j))) (h : CDivW i j) : TK.E δ μ (tOp (rI CDivW fun i j => .int (i / j)) ta tb) (.dat (.int (i / j))) := e_op ha hb (rv_intC (g := fun i j => i / j) h)
abbrev N__law_dip : List Str := ["well", "many", "digit", "one"]
abbrev P__law_dip : List Str := ["well", "many"]
theorem sc__law_dip : FnScope N__law_dip P__law_dip (defScope s__law_dip) := ⟨rfl, rfl, rfl, by decide +kernel, rfl, by decide +kernel, by decide +kernel⟩
theorem bd__law_dip (kV doc pm : Value) (an : Option Addr) (cdv ct : Value) (us : List Value) (hl : us.length = (P__law_dip : List Str).length) : bindArgs (PySem.W.fnOf "_law_dip" "_law_dip" (defArgs s__law_dip) (defBody s__law_dip) (defScope s__law_dip) .none kV doc pm an cdv ct) ⟨us, []⟩ = pure ((P__law_dip : List Str).zip us) := match us, hl with
  | [_, _], _ => rfl
theorem ok__law_dip (T : Bl mg) (R : Raw K mg "_law_dip" s__law_dip) : Dn P w K mg base "_law_dip" P__law_dip 1 (spM G_dip) := by
  refine R.dnM sc__law_dip (fun ds d R ⟨w, c, m, e, _⟩ => by rw [e]; rfl) (by decide) bd__law_dip fun cdv Ao outer s H E hr => ⟨_, (pss_cons (ps_if (pt_cmpR op_gt (pe_ix ix_any (pv 0) pe_int (fun _ _ => rfl)) pe_int (nomark _)) (pss_cons (ps_set (i := 2) sc__law_dip.nd rfl (Or.inl rfl) (pe_op op_modA (pe_callTy call_int1 (by rfl) T.int bb_int (pa_cons (pe_ix ix_any (pv 0) pe_int (fun _ _ => rfl)) pa_nil)) (pv 1)))
      (pss_cons (ps_asg (pe_op op_fdivW (pe_ix ix_any (pv 0) pe_int (fun _ _ => rfl)) (pv 1)) (pg_sub (pv 0) pe_int set_list))
      (pss_one (ps_ret (pv 2))))) pss_nil)
      (pss_cons (ps_asg (pe_op op_plus (pe_ix ix_any (pv 0) pe_int (fun _ _ => rfl)) pe_int) (pg_sub (pv 0) pe_int set_list))
      (pss_cons (ps_set (i := 3) sc__law_dip.nd rfl (Or.inl rfl) (pe_op op_modA (pe_callTy call_int1 (by rfl) T.int bb_int (pa_cons (pe_op op_plus (pe_op op_times (pe_op op_plus (pe_ix ix_any (pv 0) pe_int (fun _ _ => rfl)) (pe_op op_times pe_int (pe_ix ix_any (pv 0) pe_int (fun _ _ => rfl)))) pe_int) pe_int) pa_nil)) pe_int))
      (pss_cons (ps_set (i := 3) sc__law_dip.nd rfl (Or.inl rfl) (pe_op op_modA (pe_callTy call_int1 (by rfl) T.int bb_int (pa_cons (pe_op op_plus (pe_op op_times (pv 3) (pv 3)) (pe_op op_times pe_int (pe_ix ix_any (pv 0) pe_int (fun _ _ => rfl)))) pa_nil)) pe_int))
      (pss_one (ps_ret (pe_op op_modA (pe_callTy call_int1 (by rfl) T.int bb_int (pa_cons (pe_op op_fdivW (pv 3) pe_int) pa_nil)) (pv 1)))))))), ?_⟩
  rintro ds μ R ⟨w, c, many, rfl, rfl, ⟨c0, c1, c2, rfl⟩, h1, h2, rfl⟩
  have fin : ∀ x : Int, 0 ≤ x % many ∧ x % many < many := fun x => ⟨Int.emod_nonneg _ (by omega), Int.emod_lt_of_pos _ (by omega)⟩
  refine ht_seq (ht_if (b := decide (0 < c0)) (et_test (e_gt (e_ixA 0 (e_var rfl) e_int rfl rfl) e_int)) (fun hb => ?_) fun hb => ht_next ?_)
  · refine ht_seq (ht_set (e_mod (e_int1 (e_ixA 0 (e_var rfl) e_int rfl rfl)) (e_var rfl) (by omega)) ?_)
    refine ht_seq (ht_setIx 0 (e_fdivW (e_ixA 0 (e_var rfl) e_int rfl rfl) (e_var rfl) (wide_div (b := 60) (by omega) (by omega) (by decide) (by decide))) (e_var rfl) e_int rfl rfl ?_)
    exact ht_ret (e_var rfl) ⟨_, _, rfl, (fin _).1, (fin _).2, ⟨_, _, _, rfl⟩, rfl⟩
  · refine ht_seq (ht_setIx 0 (e_plusI (e_ixA 0 (e_var rfl) e_int rfl rfl) e_int) (e_var rfl) e_int rfl rfl ?_)
    refine ht_seq (ht_set (e_mod (e_int1 (e_plusI (e_timesI (e_plusI (e_ixA 0 (e_var rfl) e_int rfl rfl) (e_timesI e_int (e_ixA 0 (e_var rfl) e_int rfl rfl) (.inl (by decide)))) e_int (.inr (by decide))) e_int)) e_int (by decide)) ?_)
    refine ht_seq (ht_set (e_mod (e_int1 (e_plusI (e_timesI (e_var rfl) (e_var rfl) (.inl ⟨?_, ?_⟩)) (e_timesI e_int (e_ixA 0 (e_var rfl) e_int rfl rfl) (.inl (by decide))))) e_int (by decide)) ?_)
    · have := Int.emod_nonneg ((c1 + 5003 * (c2 + 1)) * 69621 + 271) (show (2147483549 : Int) ≠ 0 by decide)
      omega
    · have := Int.emod_lt_of_pos ((c1 + 5003 * (c2 + 1)) * 69621 + 271) (show (0 : Int) < 2147483549 by decide)
      omega
    · exact ht_ret (e_mod (e_int1 (e_fdivW (e_var rfl) e_int (wide_div (b := 60) (by decide) (by decide) (by decide) (by decide)))) (e_var rfl) (by omega)) ⟨_, _, rfl, (fin _).1, (fin _).2, ⟨_, _, _, rfl⟩, rfl⟩
abbrev N__law_pick : List Str := ["well", "rows"]
abbrev P__law_pick : List Str := ["well", "rows"]
theorem sc__law_pick : FnScope N__law_pick P__law_pick (defScope s__law_pick) := ⟨rfl, rfl, rfl, by decide +kernel, rfl, by decide +kernel, by decide +kernel⟩
theorem bd__law_pick (kV doc pm : Value) (an : Option Addr) (cdv ct : Value) (us : List Value) (hl : us.length = (P__law_pick : List Str).length) : bindArgs (PySem.W.fnOf "_law_pick" "_law_pick" (defArgs s__law_pick) (defBody s__law_pick) (defScope s__law_pick) .none kV doc pm an cdv ct) ⟨us, []⟩ = pure ((P__law_pick : List Str).zip us) := match us, hl with
  | [_, _], _ => rfl
theorem ok__law_pick (T : Bl mg) (R : Raw K mg "_law_pick" s__law_pick) (d__law_dip : Dn P w K mg base "_law_dip" P__law_dip 1 (spM G_dip)) : Dn P w K mg base "_law_pick" P__law_pick 2 (spM G_pick) := by
  refine R.dnM sc__law_pick (fun ds d R ⟨w, c, l, m, e, _⟩ => by rw [e]; rfl) (by decide) bd__law_pick fun cdv Ao outer s H E hr => ⟨_, (pss_one (ps_ret (pe_ix ix_any (pv 1) (pe_def d__law_dip hr (by decide) (by rfl) (pa_cons (pv 0) (pa_cons (pe_callB cr_len (by rfl) T.len bb_len (pa_cons (pv 1) pa_nil)) pa_nil))) (fun _ _ => rfl)))), ?_⟩
  rintro xs μ R ⟨w, l, c, ds, rfl, rfl, hc, hne, hl, rfl⟩
  have hpos := List.length_pos_iff.mpr hne
  refine ht_retS (ex_op (x := .own l) (S := fun x μ' => ∃ (d : D) (c' : C), d ∈ ds ∧ x = .dat d ∧ IsW c' ∧ μ' = [(l, C.lst (ds.map .dat)), (w, c')]) (e_var rfl) (ex_callW (pre := [(l, C.lst (ds.map .dat))]) (post := []) (S := fun x c' => ∃ r : Int, x = .dat (.int r) ∧ 0 ≤ r ∧ r < (ds.length : Int) ∧ IsW c') rfl (ea_cons (e_var rfl) (ea_cons ((e_lenL 0 (e_var rfl) rfl).is (by rw [List.length_map])) ea_nil)) ⟨w, c, (ds.length : Int), rfl, rfl, hc, by omega, by omega, rfl⟩ ?_) ?_) ?_
  · rintro x ν' ⟨r, c', rfl, q1, q2, q3, rfl⟩
    exact ⟨c', rfl, r, rfl, q1, q2, q3⟩
  · rintro y μ' ⟨c', ⟨r, rfl, q1, q2, q3⟩, rfl⟩
    have hr : r.toNat < ds.length := by omega
    refine ⟨.dat ds[r.toNat], rvm_ixL 0 rfl ?_, _, c', List.getElem_mem hr, rfl, q3, rfl⟩
    have e : ixN (ds.map TK.A.dat).length r = some r.toNat := by
      unfold ixN
      rw [List.length_map, if_pos q1, if_pos (by omega)]
    unfold atI
    rw [e]
    show (ds.map TK.A.dat)[r.toNat]? = _
    rw [List.getElem?_map, List.getElem?_eq_getElem hr]
    rfl
  · rintro x μ' ⟨d, c', q1, rfl, q3, rfl⟩
    exact ⟨[(w, c')], ⟨d, c', q1, rfl, q3, rfl⟩, .cons _ (.cons₂ _ .slnil)⟩
abbrev N__law_word : List Str := ["well", "letters", "longest", "k"]
abbrev P__law_word : List Str := ["well", "letters", "longest"]
theorem sc__law_word : FnScope N__law_word P__law_word (defScope s__law_word) := ⟨rfl, rfl, rfl, by decide +kernel, rfl, by decide +kernel, by decide +kernel⟩
theorem bd__law_word (kV doc pm : Value) (an : Option Addr) (cdv ct : Value) (us : List Value) (hl : us.length = (P__law_word : List Str).length) : bindArgs (PySem.W.fnOf "_law_word" "_law_word" (defArgs s__law_word) (defBody s__law_word) (defScope s__law_word) .none kV doc pm an cdv ct) ⟨us, []⟩ = pure ((P__law_word : List Str).zip us) := match us, hl with
  | [_, _, _], _ => rfl
theorem ok__law_word (T : Bl mg) (R : Raw K mg "_law_word" s__law_word) (d__law_dip : Dn P w K mg base "_law_dip" P__law_dip 1 (spM G_dip)) : Dn P w K mg base "_law_word" P__law_word 2 (spM G_word) := by
  refine R.dnM sc__law_word (fun ds d R ⟨w, c, l, m, e, _⟩ => by rw [e]; rfl) (by decide) bd__law_word fun cdv Ao outer s H E hr => ⟨_, (pss_one (ps_ret (pe_callTy call_tupleOf (by rfl) T.tuple bb_tuple (pa_cons (pe_lc rfl sc__law_word.nd (pi_range1 rfl T.range (pa_cons (pe_def d__law_dip hr (by decide) (by rfl) (pa_cons (pv 0) (pa_cons (pe_op op_plus (pv 2) pe_int) pa_nil))) pa_nil)) (blkOk_by (own := [("k", 3)]) (N := N__law_word) (sc := defScope s__law_word) (by decide +kernel)) (fun _ _ _ _ _ => (pg_name (i := 3) sc__law_word.nd rfl (Or.inl rfl))) (fun _ _ _ _ _ => pts_nil) (fun _ _ _ _ _ => (pe_def d__law_dip hr (by decide) (by rfl) (pa_cons (pv 0) (pa_cons (pv 1) pa_nil))))) pa_nil)))), ?_⟩
  rintro xs μ R ⟨w, c, L, m, rfl, rfl, hc, h1, h2, h3, h4, rfl⟩
  refine ht_retX (ex_tupleX (S := fun x μ' => ∃ (v : List Int) (c' : C), x = .dat (wD v) ∧ (v.length : Int) ≤ m ∧ (∀ y ∈ v, 0 ≤ y ∧ y < L) ∧ IsW c' ∧ μ' = [(w, c')])
    (ex_lcRX (S := fun x μ' => ∃ (p : Addr) (v : List Int) (c' : C), x = .own p ∧ μ' = [(p, C.lst ((v.map D.int).map .dat)), (w, c')] ∧ (v.length : Int) ≤ m ∧ (∀ y ∈ v, 0 ≤ y ∧ y < L) ∧ IsW c') (ex_callW (pre := []) (post := []) (S := fun x c' => ∃ r : Int, x = .dat (.int r) ∧ 0 ≤ r ∧ r < m + 1 ∧ IsW c') rfl (ea_cons (e_var rfl) (ea_cons (e_plusI (e_var rfl) e_int) ea_nil)) ⟨w, c, m + 1, rfl, rfl, hc, by omega, by omega, rfl⟩ ?_) ?_) ?_) ?_
  · rintro x ν' ⟨r, c', rfl, q1, q2, q3, rfl⟩
    exact ⟨c', rfl, r, rfl, q1, q2, q3⟩
  · rintro x μ' ⟨c', ⟨r, rfl, q1, q2, q3⟩, rfl⟩
    refine ⟨r, rfl, EX.mono (ex_lcE (l := List.range r.toNat) (q := fun (i : Nat) => .dat (.int (i : Int))) (ei_rng (n := r) (ea_cons e_int ea_nil) (by omega) (by omega)) (by simp; omega) (fun ys μ1 => ∃ (v : List Int) (c'' : C), ys = (v.map D.int).map .dat ∧ (∀ y ∈ v, 0 ≤ y ∧ y < L) ∧ IsW c'' ∧ μ1 = [(w, c'')]) ⟨[], c', rfl, (fun y hy => by simp at hy), q3, rfl⟩ ?_) ?_⟩
    · rintro i d ys μ1 hi hy ⟨v, c'', rfl, q4, q5, rfl⟩
      refine ⟨_, _, tg_name, by simp, EX.mono (ex_callW (pre := []) (post := []) (S := fun x c' => ∃ r : Int, x = .dat (.int r) ∧ 0 ≤ r ∧ r < L ∧ IsW c') rfl (ea_cons (e_var rfl) (ea_cons (e_var rfl) ea_nil)) ⟨w, c'', L, rfl, rfl, q5, h1, by omega, rfl⟩ ?_) ?_⟩
      · rintro x ν' ⟨r, c', rfl, q1, q2, q3, rfl⟩
        exact ⟨c', rfl, r, rfl, q1, q2, q3⟩
      · rintro x μ2 ⟨c3, ⟨r', rfl, z1, z2, z3⟩, rfl⟩
        refine ⟨v ++ [r'], c3, by simp, fun y hy => ?_, z3, rfl⟩
        rcases List.mem_append.mp hy with z | z
        · exact q4 y z
        · rw [List.mem_singleton.mp z]
          exact ⟨z1, z2⟩
    · rintro x μ2 ⟨p, ys, μ1, rfl, rfl, ⟨v, c'', rfl, q4, q5, rfl⟩, hlen⟩
      refine ⟨p, v, c'', rfl, rfl, ?_, q4, q5⟩
      simp at hlen
      omega
  · rintro x μ' ⟨p, v, c', rfl, rfl, q1, q2, q3⟩
    exact ⟨p, v.map D.int, [(w, c')], rfl, rfl, v, c', rfl, q1, q2, q3, rfl⟩
  · exact fun x μ' h => h
abbrev N__law_well : List Str := ["script", "at", "cell"]
abbrev P__law_well : List Str := ["script", "at"]
theorem sc__law_well : FnScope N__law_well P__law_well (defScope s__law_well) := ⟨rfl, rfl, rfl, by decide +kernel, rfl, by decide +kernel, by decide +kernel⟩
theorem bd__law_well (kV doc pm : Value) (an : Option Addr) (cdv ct : Value) (us : List Value) (hl : us.length = (P__law_well : List Str).length) : bindArgs (PySem.W.fnOf "_law_well" "_law_well" (defArgs s__law_well) (defBody s__law_well) (defScope s__law_well) .none kV doc pm an cdv ct) ⟨us, []⟩ = pure ((P__law_well : List Str).zip us) := match us, hl with
  | [_, _], _ => rfl
theorem ok__law_well (T : Bl mg) (R : Raw K mg "_law_well" s__law_well) : Dn P w K mg base "_law_well" P__law_well 1 (spM (G_well K)) := by
  refine R.dnM sc__law_well (fun ds d R ⟨w, c, m, e, _⟩ => by rw [e]; rfl) (by decide) bd__law_well fun cdv Ao outer s H E hr => ⟨_, (pss_cons (ps_set (i := 2) sc__law_well.nd rfl (Or.inl rfl) (pe_ifExp (pt_cmpR op_lt (pv 1) (pe_callB cr_len (by rfl) T.len bb_len (pa_cons (pv 0) pa_nil)) (nomark _)) (pe_callTy call_int1 (by rfl) T.int bb_int (pa_cons (pe_callB call_abs (by rfl) T.abs bb_abs (pa_cons (pe_ix ix_any (pv 0) (pv 1) (fun _ _ => rfl)) pa_nil)) pa_nil)) (pe_op op_plus (pe_op op_times pe_int (pv 1)) pe_int)))
      (pss_cons (ps_set (i := 2) sc__law_well.nd rfl (Or.inl rfl) (pe_op op_modA (pe_callTy call_int1 (by rfl) T.int bb_int (pa_cons (pv 2) pa_nil)) (pe_op op_times (pe_op op_times (pe_op op_times (pe_op op_pow pe_int pe_int) (pe_op op_pow pe_int pe_int)) (pe_op op_pow pe_int pe_int)) (pe_op op_pow pe_int pe_int))))
      (pss_one (ps_ret (pe_lst (pa_cons (pe_ifExp (pt_cmpR op_ge (pv 2) (pe_op op_pow pe_int pe_int) (nomark _)) (pv 2) pe_int) (pa_cons (pe_op op_modA (pe_callTy call_int1 (by rfl) T.int bb_int (pa_cons (pv 2) pa_nil)) (pe_op op_plus (pe_op op_pow pe_int pe_int) pe_int)) (pa_cons (pe_op op_times pe_int (pv 1)) pa_nil)))))))), ?_⟩
  rintro xs μ R ⟨a, at_, ns, rfl, h0, h1, sc, rfl⟩
  have first : ∃ cell : Int, TK.E (dl0 N__law_well [TK.A.own a, .dat (.int at_)]) μ (tIf (tTest (tOp (rI0 fun i j => .bl (decide (i < j))) (tVar 1) (tCB (rLenA K) (tCons (tVar 0) tNil)))) (tCB (fun xs H Q => (∃ i, xs = [.int i] ∧ Q (.int i) H) ∨ ∃ k, xs = [.bl k] ∧ Q (.int (if k then 1 else 0)) H) (tCons (tCB (fun xs H Q => ∃ i, xs = [.int i] ∧ Q (.int (if i < 0 then -i else i)) H) (tCons (tOp (rIxA K) (tVar 0) (tVar 1)) tNil)) tNil)) (tOp (rPlus K) (tOp (rTimes K) (tC (.int 17)) (tVar 1)) (tC (.int 5)))) (.dat (.int cell)) := by
    by_cases h : at_ < (ns.length : Int)
    · have hi : at_.toNat < ns.length := by omega
      have hat : atI (ns.map V.int) at_ = some (V.int ns[at_.toNat]) := by
        have e : ixN (ns.map V.int).length at_ = some at_.toNat := by
          unfold ixN
          rw [List.length_map, if_pos h0, if_pos (by omega)]
        unfold atI
        rw [e]
        show (ns.map V.int)[at_.toNat]? = _
        rw [List.getElem?_map, List.getElem?_eq_getElem hi]
        rfl
      exact ⟨_, e_if (b := true) ((et_test (e_lt (e_var rfl) (e_lenS (e_var rfl) sc))).is (decide_eq_true h)) (fun _ => e_int1 (e_abs (e_ixS (e_var rfl) (e_var rfl) sc hat))) fun q => by cases q⟩
    · exact ⟨_, e_if (b := false) ((et_test (e_lt (e_var rfl) (e_lenS (e_var rfl) sc))).is (decide_eq_false h)) (fun q => by cases q) fun _ => e_plusI (e_timesI e_int (e_var rfl) (.inl (by decide))) e_int⟩
  obtain ⟨cell, hcell⟩ := first
  refine ht_seq (ht_set hcell ?_)
  have p60 : ∀ {δ : Dl} {μ : Mu}, TK.E δ μ (tOp (rI CPow fun i j => .int (i ^ j.toNat)) (tC (.int 10)) (tC (.int 60))) (.dat (.int (10 ^ (60 : Int).toNat))) := e_pow e_int e_int (by unfold CPow; decide)
  have p18 : ∀ {δ : Dl} {μ : Mu}, TK.E δ μ (tOp (rI CPow fun i j => .int (i ^ j.toNat)) (tC (.int 10)) (tC (.int 18))) (.dat (.int (10 ^ (18 : Int).toNat))) := e_pow e_int e_int (by unfold CPow; decide)
  refine ht_seq (ht_set (e_mod (e_int1 (e_var rfl)) (e_timesW (e_timesW (e_timesW p60 p60 (by unfold CMulW; decide +kernel)) p60 (by unfold CMulW; decide +kernel)) p60 (by unfold CMulW; decide +kernel)) (by decide +kernel)) ?_)
  generalize cell % _ = cc
  have third : ∃ c0 : Int, TK.E (List.set (List.set (dl0 N__law_well [TK.A.own a, .dat (.int at_)]) 2 (some (.dat (.int cell)))) 2 (some (.dat (.int cc)))) μ (tIf (tTest (tOp (rI0 fun i j => .bl (decide (j ≤ i))) (tVar 2) (tOp (rI CPow fun i j => .int (i ^ j.toNat)) (tC (.int 10)) (tC (.int 18))))) (tVar 2) (tC (.int 0))) (.dat (.int c0)) := by
    by_cases h : (10 : Int) ^ (18 : Int).toNat ≤ cc
    · exact ⟨cc, e_if (b := true) ((et_test (e_ge (e_var rfl) p18)).is (decide_eq_true h)) (fun _ => e_var rfl) fun q => by cases q⟩
    · exact ⟨0, e_if (b := false) ((et_test (e_ge (e_var rfl) p18)).is (decide_eq_false h)) (fun q => by cases q) fun _ => e_int⟩
  obtain ⟨c0, hc0⟩ := third
  exact ht_retN (en_lst (ea_cons hc0 (ea_cons (e_mod (e_int1 (e_var rfl)) (e_plusI p18 e_int) (by decide +kernel)) (ea_cons (e_timesI e_int (e_var rfl) (.inl (by decide))) ea_nil))) (by simp)) fun p => ⟨p, _, rfl, ⟨_, _, _, rfl⟩, rfl⟩
end
end T
set_option maxHeartbeats 2000000
namespace T
open PySem L2 NdefX LamX TK
variable [TC]
def upTo (n : Nat) : List Int := (List.range n).map fun (i : Nat) => (i : Int)
def G_mixed : List TK.A → Mu → (TK.A → Mu → Prop) → Prop := fun xs μ R => ∃ (w : Addr) (c : C) (n : Nat), xs = [.own w, .dat (.int (n : Int))] ∧ μ = [(w, c)] ∧ IsW c ∧ n ≤ 1000 ∧
  R = fun x μ' => ∃ (p : Addr) (c' : C) (l : List Int), l.Perm (upTo n) ∧ x = .own p ∧ IsW c' ∧ μ' = [(p, C.lst (intsL l)), (w, c')]
theorem intsL_get {l : List Int} {i : Nat} : (intsL l)[i]? = (l[i]?).map fun i => TK.A.dat (.int i) := by unfold intsL; rw [List.getElem?_map]
theorem erase_perm {l : List Int} : ∀ {i : Nat} {x : Int}, l[i]? = some x → (x :: l.eraseIdx i).Perm l := by
  induction l with
  | nil => intro i x h; simp at h
  | cons a l ih =>
    intro i x h
    cases i with
    | zero => simp at h; subst h; exact .refl _
    | succ i =>
      have := ih (i := i) (x := x) (by simpa using h)
      exact (List.Perm.swap a x _).trans (this.cons a)
theorem map_er {α β : Type} {f : α → β} : ∀ {l : List α} {i : Nat}, (l.map f).eraseIdx i = (l.eraseIdx i).map f
  | [], _ => rfl
  | _ :: _, 0 => rfl
  | a :: l, i + 1 => by
    show f a :: (l.map f).eraseIdx i = f a :: (l.eraseIdx i).map f
    rw [map_er]
section
variable {P : Program} {w : World} {K : PySem.W.Frag} {mg : Str → Option Value} {base : Heap}
end
end T
set_option maxHeartbeats 2000000
namespace TK
open PySem L2 NdefX LamX
open PyProof.Rows (seqObj size_push')
variable [TC]
mutual
def D.nk : D → NestedKey
  | .non => .none
  | .bl b => .num (if b = true then 1 else 0)
  | .int i => .num i
  | .str s => .text s
  | .tup l => .tup (D.nkL l)
def D.nkL : List D → List NestedKey
  | [] => []
  | d :: l => d.nk :: D.nkL l
end
mutual
def D.nob : D → Bool
  | .bl _ => false
  | .tup l => D.nobL l
  | _ => true
def D.nobL : List D → Bool
  | [] => true
  | d :: l => d.nob && D.nobL l
end
mutual
theorem D.nk_inj : ∀ {d e : D}, d.nob = true → e.nob = true → d.nk = e.nk → d = e
  | .non, e, h1, h2, h => by cases e <;> simp [D.nk] at h ⊢
  | .bl _, e, h1, h2, h => by cases h1
  | .int i, e, h1, h2, h => by
    cases e <;> simp [D.nk] at h ⊢
    · cases h2
    · exact h
  | .str s, e, h1, h2, h => by
    cases e <;> simp [D.nk] at h ⊢
    exact h
  | .tup l, e, h1, h2, h => by
    cases e <;> simp [D.nk] at h ⊢
    exact D.nkL_inj (by simpa [D.nob] using h1) (by simpa [D.nob] using h2) h
theorem D.nkL_inj : ∀ {d e : List D}, D.nobL d = true → D.nobL e = true → D.nkL d = D.nkL e → d = e
  | [], e, h1, h2, h => by cases e <;> simp [D.nkL] at h ⊢
  | d :: l, [], h1, h2, h => by simp [D.nkL] at h
  | d :: l, e :: m, h1, h2, h => by
    simp only [D.nobL, Bool.and_eq_true] at h1 h2
    simp only [D.nkL, List.cons.injEq] at h
    rw [D.nk_inj h1.1 h2.1 h.1, D.nkL_inj h1.2 h2.2 h.2]
end
mutual
theorem nested_of {X : Cx} {pins : List (Addr × Obj)} {σ : St} {H : Hp} {s : Shared} (I : L2.Inv X pins σ H s) : ∀ {v : V} {d : D} {u : Value}, Rp H v d → RelV v u → NestedIs s.heap d.nk u
  | _, _, _, .non, r => by cases r; exact .none
  | _, _, _, .bl b, r => by
    obtain rfl : _ = Value.bool b := r
    exact .bool rfl
  | _, _, _, .int i, r => by
    obtain ⟨t, rfl⟩ := r
    exact .int _ _
  | _, _, _, .str x, r => by
    obtain ⟨t, rfl⟩ := r
    exact .text _ _
  | _, _, _, .tup (a := a) h q, r => by
    obtain rfl : _ = Value.ref a := r
    obtain ⟨_, its, rv, o, e, c, n, hd⟩ := I.hok _ _ h
    exact .tup e c hd (by simpa using nestedL_of I q rv)
theorem nestedL_of {X : Cx} {pins : List (Addr × Obj)} {σ : St} {H : Hp} {s : Shared} (I : L2.Inv X pins σ H s) : ∀ {vs : List V} {ds : List D} {us : List Value}, RpL H vs ds → Vals vs us → NestedAll s.heap (D.nkL ds) us
  | _, _, _, .nil, r => by cases r; exact .nil
  | _, _, _, .cons h t, r => by
    cases r with
    | cons r1 r2 => exact .cons (nested_of I h r1) (nestedL_of I t r2)
end
def rowsK (kas : List (D × Addr)) : List (NestedKey × Addr × Value) := kas.map fun x => (x.1.nk, x.2, Value.bool true)
def nkO (P : Program) (w : World) (a : Addr) (kas : List (D × Addr)) : HO := .ext fun h => kas.length ≤ sizeLine ∧ (a == sysModules) = false ∧
  (∃ o es ep, h.get? a = some o ∧ o.ExactDict ∧ o.data = .dict es ep ∧ es.toList = (rowsK kas).map (entryOfKey (nestedKind P w))) ∧ ((rowsK kas).map (·.1)).Nodup
def NkOk (H : Hp) (kas : List (D × Addr)) : Prop := ∀ x ∈ kas, Rp H (.ref x.2) x.1 ∧ x.1.nk.depth ≤ 8
theorem NkOk.mono {H H' : Hp} (k : TK H H') {kas : List (D × Addr)} (h : NkOk H kas) : NkOk H' kas := fun x hx => ⟨(h x hx).1.mono k, (h x hx).2⟩
def NkAt (P : Program) (w : World) (H : Hp) (a : Addr) (kas : List (D × Addr)) : Prop := H a = some (nkO P w a kas) ∨ (kas = [] ∧ H a = some (.dK []))
theorem nkO_new {P : Program} {w : World} {H : Hp} {h : Heap} {a : Addr} {kas : List (D × Addr)} (z : kas.length ≤ sizeLine) (hd : (a == sysModules) = false)
    (ob : ∃ o es ep, h.get? a = some o ∧ o.ExactDict ∧ o.data = .dict es ep ∧ es.toList = (rowsK kas).map (entryOfKey (nestedKind P w))) (nd : ((rowsK kas).map (·.1)).Nodup) : ObjOk P w H h a (nkO P w a kas) := by
  have ⟨o, es, ep, ho, r⟩ := ob
  refine ⟨⟨z, hd, ob, nd⟩, ⟨o, ho⟩, fun h1 h2 p k => ?_⟩
  obtain ⟨z', hd', ⟨o', es', ep', ho', r'⟩, nd'⟩ := p
  exact ⟨z', hd', ⟨o', es', ep', k o' ho', r'⟩, nd'⟩
theorem NkAt.obj {P : Program} {w : World} {H : Hp} {h : Heap} {a : Addr} {kas : List (D × Addr)} (x : NkAt P w H a kas) (ok : HOk P w H h) : kas.length ≤ sizeLine ∧ (a == sysModules) = false ∧
    (∃ o es ep, h.get? a = some o ∧ o.ExactDict ∧ o.data = .dict es ep ∧ es.toList = (rowsK kas).map (entryOfKey (nestedKind P w))) ∧ ((rowsK kas).map (·.1)).Nodup := by
  rcases x with x | ⟨rfl, x⟩
  · exact (ok _ _ x).1
  · obtain ⟨z, hd, vs, rel, dd⟩ := dk_of ok x
    cases rel
    obtain ⟨o, es, ep, e1, e2, e3, _, hp, _⟩ := dd
    refine ⟨Nat.zero_le _, hd, ⟨o, es, ep, e1, e2, e3, ?_⟩, List.nodup_nil⟩
    cases q : es.toList with
    | nil => rfl
    | cons y ys => rw [q] at hp; cases hp
theorem NkAt.keyed {X : Cx} {pins : List (Addr × Obj)} {σ : St} {H : Hp} {s : Shared} {a : Addr} {kas : List (D × Addr)} (I : L2.Inv X pins σ H s) (x : NkAt X.prog X.w H a kas) (ok : NkOk H kas) :
    kas.length ≤ sizeLine ∧ (a == sysModules) = false ∧ s.heap.DictOfH (nestedKind X.prog X.w) a (rowsK kas) := by
  obtain ⟨z, hd, ⟨o, es, ep, e1, e2, e3, e4⟩, nd⟩ := x.obj I.hok
  refine ⟨z, hd, o, es, ep, e1, e2, e3, e4, fun y hy => ?_, nd⟩
  obtain ⟨k, hk, rfl⟩ := List.mem_map.mp hy
  exact ⟨nested_of I (ok k hk).1 rfl, (ok k hk).2⟩
def addK (kas : List (D × Addr)) (d : D) (b : Addr) : List (D × Addr) := if d.nk ∈ (kas.map fun x => x.1.nk) then kas else kas ++ [(d, b)]
theorem rowsK_keys (kas : List (D × Addr)) : (rowsK kas).map (·.1) = kas.map fun x => x.1.nk := by unfold rowsK; rw [List.map_map]; rfl
theorem atKey_none {K : Type} [DecidableEq K] {xs : List (K × Addr × Value)} {k : K} : atKey xs k = none ↔ k ∉ xs.map (·.1) := by
  unfold atKey
  rw [Option.map_eq_none_iff, List.find?_eq_none]
  constructor
  · intro h hm
    obtain ⟨x, hx, e⟩ := List.mem_map.mp hm
    exact h x hx (decide_eq_true e)
  · intro h x hx e
    exact h (List.mem_map.mpr ⟨x, hx, of_decide_eq_true e⟩)
theorem rowsK_add (kas : List (D × Addr)) (d : D) (b : Addr) : storedH (rowsK kas) d.nk b (.bool true) = rowsK (addK kas d b) := by
  unfold addK
  by_cases h : d.nk ∈ (kas.map fun x => x.1.nk)
  · rw [if_pos h]
    cases q : atKey (rowsK kas) d.nk with
    | none =>
      rw [atKey_none, rowsK_keys] at q
      exact absurd h q
    | some p =>
      rw [storedH_old q]
      unfold rowsK
      rw [List.map_map]
      refine List.map_congr_left fun x _ => ?_
      show putAt d.nk (Value.bool true) (x.1.nk, x.2, Value.bool true) = _
      unfold putAt
      split <;> rfl
  · rw [if_neg h]
    have q : atKey (rowsK kas) d.nk = none := by rw [atKey_none, rowsK_keys]; exact h
    rw [storedH_new q]
    unfold rowsK
    rw [List.map_append]
    rfl
def rSetN (P : Program) (w : World) : TSet := fun o i v H Q => ∃ (a b : Addr) (kas : List (D × Addr)) (d : D), o = .ref a ∧ i = .ref b ∧ v = .bl true ∧ Rp H (.ref b) d ∧ d.nk.depth ≤ 8 ∧ NkAt P w H a kas ∧ NkOk H kas ∧ kas.length < sizeLine ∧
  Q (upd H a (nkO P w a (addK kas d b)))
theorem set_nk {X : Cx} (hu : X.A.units + 64 < cLine) : PSet X (rSetN X.prog X.w) := by
  intro pins s σ H o i v ov iv u Q I ro ri rv h
  obtain ⟨a, b, kas, d, rfl, rfl, rfl, rd, dd, at_, ok, hl, q⟩ := h
  obtain rfl : ov = Value.ref a := ro
  obtain rfl : iv = Value.ref b := ri
  obtain rfl : u = Value.bool true := rv
  obtain ⟨z, hd, dh⟩ := at_.keyed I ok
  have hz : (rowsK kas).length ≤ sizeLine := by unfold rowsK; rw [List.length_map]; exact z
  refine wpAny_setItem_heap (hsz := hz) (knd := nestedKind X.prog X.w) (k := d.nk) (show X.A.units + 1 + 8 < cLine by omega) ⟨nested_of I rd rfl, dd⟩ dh fun h' dh' hs => ⟨_, ?_, q⟩
  rw [rowsK_add] at dh'
  obtain ⟨o', es, ep, h1, h2, h3, h4, _, h5⟩ := dh'
  have mu : Mut (H a) := by
    rcases at_ with e | ⟨_, e⟩
    · rw [e]; exact True.intro
    · rw [e]; exact True.intro
  refine d_write I mu hs ⟨o', h1⟩ (nkO_new ?_ hd ⟨o', es, ep, h1, h2, h3, h4⟩ h5)
  unfold addK
  split
  · exact z
  · rw [List.length_append]
    exact hl
def rSrtN (P : Program) (w : World) : List V → Hp → VK → Prop := fun vs H Q => ∃ (a : Addr) (kas : List (D × Addr)), vs = [.ref a] ∧ NkAt P w H a kas ∧ NkOk H kas ∧ DLike (kas.map (·.1)) ∧ DSort (kas.map (·.1)) ∧ (∀ z ∈ kas, z.1.py.depth ≤ 60) ∧
  ∀ p, H p = none → Q (.ref p) (upd H p (.lst (((kas.map fun x => (V.ref x.2, x.1)).mergeSort leZ).map (·.1))))
mutual
theorem reads_nil {h : Heap} : ∀ {d : D} {u : Value} {as : List Addr}, Reads h u d.py as → as = []
  | .non, _, _, r => by simp only [D.py] at r; cases r; rfl
  | .bl _, _, _, r => by simp only [D.py] at r; cases r; rfl
  | .int _, _, _, r => by simp only [D.py] at r; cases r; rfl
  | .str _, _, _, r => by simp only [D.py] at r; cases r; rfl
  | .tup l, _, _, r => by
    simp only [D.py] at r
    cases r with
    | tuple h1 h2 h3 h4 => exact readsL_nil h4
theorem readsL_nil {h : Heap} : ∀ {ds : List D} {us : List Value} {as : List Addr}, ReadsAll h us (D.pyL ds) as → as = []
  | [], _, _, r => by simp only [D.pyL] at r; cases r; rfl
  | d :: l, _, _, r => by
    simp only [D.pyL] at r
    cases r with
    | cons h1 h2 => rw [reads_nil h1, readsL_nil h2]; rfl
end
theorem each_vals2 {X : Cx} {pins : List (Addr × Obj)} {σ : St} {H : Hp} {s : Shared} {h : Heap} {p : Addr} (I : L2.Inv X pins σ H s) (k : ∀ b u, s.heap.get? b = some u → h.get? b = some u) : ∀ {zs : List (V × D)} {us : List Value}, (∀ z ∈ zs, Rp H z.1 z.2) → PySem.W.EachIs (fun u (z : V × D) => RelV z.1 u) us zs →
    PySem.W.EachIs (fun u (z : V × D) => ∃ as, Reads h u z.2.py as ∧ p ∉ as) us zs
  | _, _, _, .nil => .nil
  | _, _, h, .cons r1 r2 => .cons (let ⟨as, q⟩ := Dp.reads I _ _ _ (dp_of (h _ (by simp))) r1; ⟨as, PyProof.Rows.Reads.keeps (fun b o e => k b o e) q, by rw [reads_nil q]; simp⟩) (each_vals2 I k (fun z hz => h z (by simp [hz])) r2)
theorem cr_srtN {X : Cx} (hcalm : X.calm = true) (hu : X.A.units + 64 < cLine) : CallR X (.builtin "sorted") (rSrtN X.prog X.w) := by
  intro pins s σ H vs us Q I r h
  obtain ⟨a, kas, rfl, at_, ok, hl, hk, hd, q⟩ := h
  rw [Vals.ref1 r]
  obtain ⟨z, lo, ⟨o, es, ep, e1, e2, e3, e4⟩, nd⟩ := at_.obj I.hok
  have hsz : es.size = kas.length := by
    have := congrArg List.length e4
    unfold rowsK at this
    simpa using this
  let zs : List (V × D) := kas.map fun x => (V.ref x.2, x.1)
  have zl : zs.length = kas.length := by simp [zs]
  have hr : ∀ y ∈ zs, Rp H y.1 y.2 := fun y hy => by
    obtain ⟨x, hx, rfl⟩ := List.mem_map.mp hy
    exact (ok x hx).1
  have e0 : zs.map (·.2) = kas.map (·.1) := by simp [zs, Function.comp_def]
  refine Calls.call_function_entry PyProof.Rows.kind_sorted PyProof.Rows.plain_sorted PyProof.Rows.entry_sorted (PyProof.Rows.args_sorted1 _) ?_
  unfold Builtin.«sorted»
  refine wpAny_bind (m := checkCount "sorted" 1 1 _) (wpAny_pure ?_)
  refine wpAny_bind (PySem.W.kdu_collect (A := X.A.in1) (KdlSrc.rawDict (es := es) (ep := ep) lo) (I.ok.hd hcalm) ⟨o, e1, e2, e3⟩ (by rw [hsz]; exact z) fun h' tk acc hk' hacc => ?_)
  have ev : PySem.W.EachIs (fun u (z : V × D) => RelV z.1 u) acc.toList zs := by
    have el : acc.toList = kas.map fun x => Value.ref x.2 := by
      apply List.ext_getElem?
      intro j
      rw [Array.getElem?_toList, List.getElem?_map]
      cases hj : acc[j]? with
      | none =>
        have : acc.size ≤ j := by simpa using hj
        rw [hacc.1, hsz] at this
        rw [List.getElem?_eq_none this]
        rfl
      | some v =>
        obtain ⟨hi, ee⟩ := hacc.2 j v hj
        have h1 : es.toList[j]? = some es[j] := by rw [Array.getElem?_toList]; exact Array.getElem?_eq_getElem hi
        rw [e4] at h1
        unfold rowsK at h1
        rw [List.map_map, List.getElem?_map] at h1
        cases hx : kas[j]? with
        | none => rw [hx] at h1; cases h1
        | some x =>
          rw [hx] at h1
          have h2 := Option.some.inj h1
          rw [ee, ← h2]
          rfl
    rw [el]
    have : ∀ l : List (D × Addr), PySem.W.EachIs (fun u (z : V × D) => RelV z.1 u) (l.map fun x => Value.ref x.2) (l.map fun x => (V.ref x.2, x.1)) := fun l => by
      induction l with
      | nil => exact .nil
      | cons x l ih => exact .cons rfl ih
    exact this kas
  have hal : acc.toList.length = kas.length := by rw [Array.length_toList, hacc.1, hsz]
  have I1 : Inv X pins σ H { s with heap := h', toks := tk } := I.kept hk'
  refine wpAny_bind (wpAny_newList ?_ (by rw [hal]; exact z))
  have hoL : (h'.push (seqObj "list" acc.toList.toArray 0)).get? h'.objs.size = some (seqObj "list" acc.toList.toArray 0) := Heap.get?_push_size _ rfl
  show wpAny _ _ _ _ _ { s with heap := h'.push (seqObj "list" acc.toList.toArray 0), toks := tk }
  have ek : PySem.W.AllAlike (zs.map fun z => z.2.py) := fun d hd' e he => by
    obtain ⟨z1, h1, rfl⟩ := List.mem_map.mp hd'
    obtain ⟨z2, h2, rfl⟩ := List.mem_map.mp he
    exact hl _ (by rw [← e0]; exact List.mem_map.mpr ⟨z1, h1, rfl⟩) _ (by rw [← e0]; exact List.mem_map.mpr ⟨z2, h2, rfl⟩)
  have sk : PySem.W.Sortable (zs.map fun z => z.2.py) := by
    rcases hk with hk | hk
    · refine .inl fun d hd' => ?_
      obtain ⟨z, h1, rfl⟩ := List.mem_map.mp hd'
      obtain ⟨x, l, e⟩ := hk z.2 (by rw [← e0]; exact List.mem_map.mpr ⟨z, h1, rfl⟩)
      exact ⟨x.py, D.pyL l, by rw [e]; simp [D.py, D.pyL]⟩
    · refine .inr fun d hd' => ?_
      obtain ⟨z, h1, rfl⟩ := List.mem_map.mp hd'
      obtain ⟨n1, n2⟩ := hk z.2 (by rw [← e0]; exact List.mem_map.mpr ⟨z, h1, rfl⟩)
      cases q : z.2 with
      | non => exact absurd q n1
      | tup l => exact absurd q (n2 l)
      | bl b => exact ⟨by simp [D.py], fun xs => by simp [D.py]⟩
      | int b => exact ⟨by simp [D.py], fun xs => by simp [D.py]⟩
      | str b => exact ⟨by simp [D.py], fun xs => by simp [D.py]⟩
  have er : PySem.W.EachIs (fun u (z : V × D) => ∃ as, Reads (h'.push (seqObj "list" acc.toList.toArray 0)) u z.2.py as ∧ h'.objs.size ∉ as) acc.toList zs := each_vals2 I (fun b u e => Heap.get?_push_of_some _ (hk' b u e)) hr ev
  refine wpAny_bind (wpAny_holding (PySem.W.list_sort_data (s := { s with heap := h'.push (seqObj "list" acc.toList.toArray 0), toks := tk }) (R := fun u (z : V × D) => RelV z.1 u) (enc := fun z : V × D => z.2.py) hoL ev er ek sk (by rw [zl]; exact z) (fun y hy => ?_) fun out ho eo => ?_))
  · obtain ⟨x, hx, rfl⟩ := List.mem_map.mp hy
    have := hd x hx
    show X.A.units + 1 + 1 + x.1.py.depth < cLine
    omega
  · obtain ⟨e', he'⟩ := PyProof.Rows.sortedHeap_at (vs := acc.toList) (out := out.toArray) hoL
    have eo2 : PySem.W.EachIs (fun u (z : V × D) => RelV z.1 u) out (zs.mergeSort leZ) := eo
    have hlen : ((zs.mergeSort leZ).map (·.1)).length ≤ sizeLine := by rw [List.length_map, List.length_mergeSort, zl]; exact z
    refine wpAny_pure ⟨_, rfl, .ref h'.objs.size, upd H h'.objs.size (.lst ((zs.mergeSort leZ).map (·.1))), I1.laid (t' := tk) (fun b u e => ?_) (Nat.le_refl _)
      (show ObjOk X.prog X.w _ _ _ (.lst ((zs.mergeSort leZ).map (·.1))) from ⟨hlen, out, e', vals_each eo2, he'⟩), rfl, q _ (I1.hok.fresh (Nat.le_refl _))⟩
    have hb : b < h'.objs.size := Heap.lt_size e
    rw [PyProof.Rows.sortedHeap_old (Nat.ne_of_lt hb) (by rw [size_push']; exact Nat.lt_succ_of_lt hb)]
    exact Heap.get?_push_of_some _ e
end TK
set_option maxHeartbeats 2000000
namespace TK
open PySem L2 NdefX LamX
variable [TC]
theorem tabs_updX {T : List NTab} {H : Hp} {p : Addr} {o u : HO} (hT : TabsN T H) (h : H p = some u) (ht : ∀ ps, u ≠ .tbl ps) (hx : ∀ q, u ≠ CodeO p q) : TabsN T (upd H p o) := fun q hq => by
  obtain ⟨ps, e1, e2, e3⟩ := hT q hq
  have n1 : q.1 ≠ p := fun z => by rw [z, h] at e1; exact ht ps (Option.some.inj e1)
  refine ⟨ps, by rw [upd_ne n1]; exact e1, e2, fun pos cv hc => ?_⟩
  obtain ⟨c, h1, h2⟩ := e3 pos cv hc
  refine ⟨c, h1, ?_⟩
  have n2 : c ≠ p := fun z => by
    subst z
    rw [h] at h2
    exact hx _ (Option.some.inj h2)
  rw [upd_ne n2]
  exact h2
theorem Fr.wrX {M : List Addr} {H : Hp} {p : Addr} {o u : HO} (hp : p ∈ M) (h : H p = some u) (h1 : ∀ ps, u ≠ .tbl ps) (h2 : ∀ xs, u ≠ .tup xs) (hx : ∀ q, u ≠ CodeO p q) : Fr M H (upd H p o) := by
  refine ⟨fun b x e m _ => by rw [upd_ne (fun z => m (by rw [z]; exact hp))]; exact e, fun b xs e => ?_, fun b e => upd_none e, fun hT => tabs_updX hT h h1 hx⟩
  rw [upd_ne (fun z => by rw [z, h] at e; exact h2 xs (Option.some.inj e))]
  exact e
theorem SM.putX {μ : Mu} {H : Hp} {i : Nat} {a : Addr} {c c' : C} {o u : HO} (m : SM μ H) (hi : μ[i]? = some (a, c)) (hu : H a = some u) (h1 : ∀ ps, u ≠ .tbl ps) (h2 : ∀ xs, u ≠ .tup xs) (hx : ∀ q, u ≠ CodeO a q)
    (ho : ∀ ps, o ≠ .tbl ps) (hc : c'.at (upd H a o) a) : SM (μ.set i (a, c')) (upd H a o) ∧ FS μ H (μ.set i (a, c')) (upd H a o) := by
  have f : Fr [a] H (L2.upd H a o) := Fr.wrX (by simp) hu h1 h2 hx
  have hk : keys (μ.set i (a, c')) = keys μ := keys_set hi
  have cases_ : ∀ p ∈ μ.set i (a, c'), p = (a, c') ∨ (p ∈ μ ∧ p.1 ≠ a) := fun p hp => by
    obtain ⟨j, hj⟩ := List.mem_iff_getElem?.mp hp
    by_cases hij : i = j
    · subst hij
      have hl : i < μ.length := (List.getElem?_eq_some_iff.mp hi).1
      rw [List.getElem?_set_self hl] at hj
      exact .inl (Option.some.inj hj).symm
    · rw [List.getElem?_set_ne hij] at hj
      exact .inr ⟨List.mem_of_getElem? hj, fun z => hij (nodup_at m.nd hi hj z.symm)⟩
  refine ⟨⟨by rw [hk]; exact m.nd, fun p hp => ?_, fun p hp ps z => ?_, f.tabs m.tb⟩, f.weak fun b hb => ?_, fun b hb => .inl (by rw [← hk]; exact hb)⟩
  · rcases cases_ p hp with e | ⟨e, n⟩
    · subst e; exact hc
    · exact (m.own p e).keep f.tup fun o' e' => by rw [upd_ne n]; exact e'
  · rcases cases_ p hp with e | ⟨e, n⟩
    · subst e
      rw [upd_same] at z
      exact ho ps (Option.some.inj z)
    · rw [upd_ne n] at z
      exact m.notbl p e ps z
  · rw [List.mem_singleton.mp hb]
    exact mem_keys hi
def codeHeap (c : Addr) (o : Obj) : Heap := { objs := Array.replicate (c + 1) o }
theorem codeHeap_at (c : Addr) {k : Value} {fs : Array Value} : (codeHeap c { cls := k, data := .fields fs }).get? c = some { cls := k, data := .fields fs } := by
  unfold codeHeap Heap.get?
  simp
theorem nkO_code {P : Program} {w : World} {a : Addr} {kas : List (D × Addr)} (q : Str) : nkO P w a kas ≠ CodeO a q := fun z => by
  have e := HO.ext.inj z
  let ob : Obj := { cls := .none, data := .fields #[.none, .str q 0] }
  have h : (codeHeap a ob).get? a = some ob := codeHeap_at a
  have e2 := congrFun e (codeHeap a ob)
  have := e2.mpr ⟨ob, _, 0, h, rfl, rfl⟩
  obtain ⟨_, _, ⟨o, es, ep, e1, _, e3, _⟩, _⟩ := this
  rw [h] at e1
  have e4 := Option.some.inj e1
  rw [← e4] at e3
  cases e3
theorem NkAt.ob {P : Program} {w : World} {H : Hp} {a : Addr} {kas : List (D × Addr)} (x : NkAt P w H a kas) : ∃ u, H a = some u ∧ (∀ ps, u ≠ .tbl ps) ∧ (∀ xs, u ≠ .tup xs) ∧ ∀ q, u ≠ CodeO a q := by
  rcases x with x | ⟨_, x⟩
  · exact ⟨_, x, (fun ps z => by cases z), (fun ps z => by cases z), nkO_code⟩
  · exact ⟨_, x, (fun ps z => by cases z), (fun ps z => by cases z), (fun q z => by cases z)⟩
def nkC (P : Program) (w : World) (ds : List D) : C := .gen fun H a => ∃ kas : List (D × Addr), kas.map (·.1) = ds ∧ NkOk H kas ∧ NkAt P w H a kas
theorem nkC_at {P : Program} {w : World} {H : Hp} {a : Addr} {kas : List (D × Addr)} (ok : NkOk H kas) (x : NkAt P w H a kas) : (nkC P w (kas.map (·.1))).at H a := by
  refine ⟨⟨kas, rfl, ok, x⟩, fun z => ?_, fun H1 H2 k e ⟨ks, e1, e2, e3⟩ => ⟨ks, e1, e2.mono k, e3.imp (fun y => e _ y) fun y => ⟨y.1, e _ y.2⟩⟩⟩
  obtain ⟨u, hu, _⟩ := x.ob
  rw [hu] at z
  cases z
theorem SM.nk {P : Program} {w : World} {μ : Mu} {H : Hp} {n : Nat} {a : Addr} {ds : List D} (m : SM μ H) (hm : μ[n]? = some (a, nkC P w ds)) : ∃ kas : List (D × Addr), kas.map (·.1) = ds ∧ NkOk H kas ∧ NkAt P w H a kas := (m.own _ (List.mem_of_getElem? hm)).1
def addD (ds : List D) (d : D) : List D := if d.nk ∈ ds.map D.nk then ds else ds ++ [d]
theorem addK_fst (kas : List (D × Addr)) (d : D) (b : Addr) : (addK kas d b).map (·.1) = addD (kas.map (·.1)) d := by
  unfold addK addD
  have e : (kas.map (·.1)).map D.nk = kas.map fun x => x.1.nk := by rw [List.map_map]; rfl
  rw [e]
  split
  · rfl
  · rw [List.map_append]
    rfl
theorem addK_ok {H : Hp} {kas : List (D × Addr)} {d : D} {b : Addr} (ok : NkOk H kas) (h1 : Rp H (.ref b) d) (h2 : d.nk.depth ≤ 8) : NkOk H (addK kas d b) := by
  unfold addK
  split
  · exact ok
  · intro x hx
    rcases List.mem_append.mp hx with e | e
    · exact ok x e
    · rw [List.mem_singleton.mp e]
      exact ⟨h1, h2⟩
section
variable {δ δ' : Dl} {μ μ' : Mu} {te ta tb tc tl td ty tx tk tv to ti : TE} {tt tu : TT} {tr : TA} {x y z : A} {d e : D} {b c : Bool} {ts us : TS} {P : Po} {g : TG} {K : PySem.W.Frag} {wi : TI} {xs : List A} {a : Addr} {kvs : List (Key × A)} {Pr : Program} {w : World} {ds : List D}
theorem en_nnew : EN δ μ tDNewK (nkC Pr w []) := fun σ H s Q k => fun p hp => k p _ (Fr.new hp nt_dK) hp (nkC_at (kas := []) (fun x hx => by cases hx) (.inr ⟨rfl, upd_same⟩)) fun ps z => by rw [upd_same] at z; cases z
theorem ht_setNk {R : A → Mu → Prop} (he : E δ μ te (.dat (.bl true))) (ho : E δ μ to (.own a)) (hi : EX δ μ ti R)
    (hR : ∀ x μ', R x μ' → ∃ (n : Nat) (ds l : List D), x = .dat (.tup l) ∧ (D.tup l).nk.depth ≤ 8 ∧ ds.length < 100000 ∧ μ'[n]? = some (a, nkC Pr w ds) ∧ P.nx δ (μ'.set n (a, nkC Pr w (addD ds (.tup l))))) :
    HT δ μ (tAsg te (gSub to ti (rSetN Pr w))) P := fun σ H D s go =>
  he σ H s _ fun v H1 f1 r1 => ho σ H1 (s.step f1) _ fun o H2 f2 r2 => by
    have f := f1.trans0 f2
    have s2 := s.step f
    refine hi σ H2 s2 _ fun x μ' v' H3 hr m3 f3 r3 => ?_
    obtain ⟨n, ds, l, rfl, hd, hl, hm, hn⟩ := hR x μ' hr
    obtain ⟨kas, e1, ok, at_⟩ := m3.nk hm
    obtain ⟨b, vs, rfl, hb, rb⟩ := rp_tup r3
    have rk : Rp H3 (.ref b) (.tup l) := .tup hb rb
    obtain ⟨u, hu, n1, n2, n3⟩ := at_.ob
    have ok2 : NkOk (upd H3 a (nkO Pr w a (addK kas (.tup l) b))) (addK kas (.tup l) b) := (addK_ok ok rk hd).mono (Fr.wrX (M := [a]) (by simp) hu n1 n2 n3).tup
    obtain ⟨m4, f4⟩ := m3.putX (c' := nkC Pr w (addD ds (.tup l))) (o := nkO Pr w a (addK kas (.tup l) b)) hm hu n1 n2 n3 (fun ps z => by cases z) (by
      rw [← e1, ← addK_fst kas _ b]
      exact nkC_at ok2 (.inl upd_same))
    rw [show o = V.ref a from r2, rp_bl r1]
    refine ⟨a, b, kas, .tup l, rfl, rfl, rfl, rk, hd, at_, ok, ?_, go.nx _ _ _ _ hn (s.withM (fun c zs q => f4.fr.tup c zs (f3.fr.tup c zs (f.tup c zs q))) m4) (((FS.of f).trans f3).trans f4)⟩
    have := congrArg List.length e1
    rw [List.length_map] at this
    rw [this]
    exact szt hl
theorem en_srtNk (n : Nat) (h : E δ μ te (.own a)) (hm : μ[n]? = some (a, nkC Pr w ds)) (h1 : DLike ds) (h2 : DSort ds) (h3 : ∀ d ∈ ds, d.py.depth ≤ 60) : EN δ μ (tCB (rSrtN Pr w) (tCons te tNil)) (.lst ((ds.mergeSort leD).map .dat)) := fun σ H s Q k =>
  h σ H s _ fun v H1 f1 r1 => by
    obtain ⟨kas, e1, ok, at_⟩ := (s.step f1).mem.nk hm
    rw [show v = V.ref a from r1]
    subst e1
    refine ⟨a, kas, rfl, at_, ok, h1, h2, fun z hz => h3 _ (List.mem_map.mpr ⟨z, hz, rfl⟩), fun p hp => ?_⟩
    have em : ((kas.map fun x => (V.ref x.2, x.1)).mergeSort leZ).map (·.2) = (kas.map (·.1)).mergeSort leD := by
      rw [List.map_mergeSort (r := leZ) (s := leD) (f := fun z : V × D => z.2) (fun a _ b _ => rfl), List.map_map]
      rfl
    refine k p _ (f1.trans0 (Fr.new hp nt_lst)) (f1.free _ hp) ⟨_, upd_same, ?_⟩ fun ps z => by rw [upd_same] at z; cases z
    rw [RpAL.dat, ← em]
    refine rpl_zs fun z hz => ?_
    obtain ⟨x, hx, rfl⟩ := List.mem_map.mp (List.mem_mergeSort.mp hz)
    exact (ok x hx).1.mono (Fr.new hp nt_lst).tup
end
end TK
set_option maxHeartbeats 2000000
namespace TK
open PySem L2 NdefX LamX
variable [TC]
structure LeD (δ δ' : Dl) : Prop where
  len : δ'.length = δ.length
  at_ : ∀ (i : Nat) (x : A), δ'[i]? = some (some x) → δ[i]? = some (some x)
theorem LeD.refl (δ : Dl) : LeD δ δ := ⟨rfl, fun _ _ h => h⟩
theorem LeD.set {δ δ' : Dl} {i : Nat} {y : Option A} (l : LeD δ δ') (h : δ'[i]? = some none) : LeD (δ.set i y) δ' := ⟨by rw [List.length_set]; exact l.len, fun j x e => by
  by_cases q : i = j
  · subst q
    rw [h] at e
    cases e
  · rw [List.getElem?_set_ne q]
    exact l.at_ j x e⟩
theorem LeD.trans {a b c : Dl} (h : LeD a b) (g : LeD b c) : LeD a c := ⟨g.len.trans h.len, fun i x e => h.at_ i x (g.at_ i x e)⟩
def leB : List Bool → Dl → Dl → Prop := fun _ _ _ => True
theorem HT.le {δ δ' : Dl} {μ : Mu} {ts : TS} {P : Po} (h : HT δ' μ ts P) (l : LeD δ δ') : HT δ μ ts P := h.weak l.len l.at_
section
variable {δ δ' : Dl} {μ μ' : Mu} {te ta tb tc tl td ty tx tk tv to ti : TE} {tt tu : TT} {tr : TA} {x y z : A} {d e : D} {b c : Bool} {ts us : TS} {P : Po} {g : TG} {K : PySem.W.Frag} {wi : TI} {xs : List A} {a : Addr}
theorem exa_NNN {c1 c2 c3 : C} (h1 : EN δ μ ta c1) (h2 : ∀ p, EN δ ((p, c1) :: μ) tb c2) (h3 : ∀ p q, EN δ ((q, c2) :: (p, c1) :: μ) tc c3) :
    EXA δ μ (tCons ta (tCons tb (tCons tc tNil))) (fun xs μ' => ∃ p q r, xs = [.own p, .own q, .own r] ∧ μ' = (r, c3) :: (q, c2) :: (p, c1) :: μ) := fun σ H s Q k =>
  h1.ex σ H s _ fun x1 μ1 v1 H1 ⟨p, e1, e2⟩ m1 f1 r1 => (h2 p).ex σ H1 (s.withM f1.fr.tup (e2 ▸ m1)) _ fun x2 μ2 v2 H2 ⟨q, e3, e4⟩ m2 f2 r2 => (h3 p q).ex σ H2 (s.withM (fun b xs e => f2.fr.tup b xs (f1.fr.tup b xs e)) (e4 ▸ m2)) _ fun x3 μ3 v3 H3 ⟨r, e5, e6⟩ m3 f3 r3 => by
    subst e1 e2 e3 e4 e5 e6
    exact k [.own p, .own q, .own r] _ [v1, v2, v3] H3 ⟨p, q, r, rfl, rfl⟩ m3 ((f1.trans f2).trans f3) (.cons ((r1.mono f2.fr.tup).mono f3.fr.tup) (.cons (r2.mono f3.fr.tup) (.cons r3 .nil)))
end
end TK
set_option maxHeartbeats 2000000
namespace T
open PySem L2 NdefX LamX TK
variable [TC]
def CW (δ : Dl) (pre post : Mu) (w : Addr) (te : TE) (Pd : D → Prop) : Prop := ∀ c, IsW c → EX δ (pre ++ (w, c) :: post) te fun x μ' => ∃ (d : D) (c' : C), x = .dat d ∧ Pd d ∧ IsW c' ∧ μ' = pre ++ (w, c') :: post
def Pl : List (D → Prop) → List D → Prop
  | [], [] => True
  | p :: ps, d :: ds => p d ∧ Pl ps ds
  | _, _ => False
def CWA (δ : Dl) (pre post : Mu) (w : Addr) (ta : TA) (Ps : List (D → Prop)) : Prop := ∀ c, IsW c → EXA δ (pre ++ (w, c) :: post) ta fun xs μ' => ∃ (ds : List D) (c' : C), xs = ds.map .dat ∧ Pl Ps ds ∧ IsW c' ∧ μ' = pre ++ (w, c') :: post
section
variable {δ : Dl} {pre post : Mu} {w : Addr} {te : TE} {ta : TA} {Pd : D → Prop} {Ps : List (D → Prop)}
theorem Pl.len : ∀ {Ps : List (D → Prop)} {ds : List D}, Pl Ps ds → ds.length = Ps.length
  | [], [], _ => rfl
  | _ :: _, _ :: _, h => by rw [List.length_cons, List.length_cons, Pl.len h.2]
  | [], _ :: _, h => h.elim
  | _ :: _, [], h => h.elim
theorem cwa_nil : CWA δ pre post w tNil [] := fun c hc σ H s Q k => k [] _ [] H ⟨[], c, rfl, trivial, hc, rfl⟩ s.mem (FS.refl _ _) .nil
theorem cwa_cons (h : CW δ pre post w te Pd) (hr : CWA δ pre post w ta Ps) : CWA δ pre post w (tCons te ta) (Pd :: Ps) := fun c hc σ H s Q k =>
  h c hc σ H s _ fun x μ1 v H1 ⟨d, c1, e1, p1, hc1, e2⟩ m1 f1 r1 => by
    subst e1 e2
    exact hr c1 hc1 σ H1 (s.withM f1.fr.tup m1) _ fun xs μ2 vs H2 ⟨ds, c2, e3, p2, hc2, e4⟩ m2 f2 r2 => by
      subst e3 e4
      exact k (.dat d :: ds.map .dat) _ (v :: vs) H2 ⟨d :: ds, c2, rfl, ⟨p1, p2⟩, hc2, rfl⟩ m2 (f1.trans f2) (.cons (r1.mono f2.fr.tup) r2)
theorem cw_tup (h : CWA δ pre post w ta Ps) (hl : Ps.length ≤ 100000) : CW δ pre post w (tTup ta) fun d => ∃ ds, d = .tup ds ∧ Pl Ps ds := fun c hc =>
  ex_tup (h c hc) fun xs μ' ⟨ds, c', e1, p1, hc', e2⟩ => ⟨ds, e1, by rw [p1.len]; exact hl, _, c', rfl, ⟨ds, rfl, p1⟩, hc', e2⟩
theorem cw_e {d : D} (h : ∀ c, TK.E δ (pre ++ (w, c) :: post) te (.dat d)) : CW δ pre post w te fun x => x = d := fun c hc => (h c).ex.mono fun x μ' ⟨e1, e2⟩ => ⟨d, c, e1, rfl, hc, e2⟩
theorem cw_dip {tr : TA} {many : Int} (h : ∀ c, EA δ (pre ++ (w, c) :: post) tr [.own w, .dat (.int many)]) (h1 : 1 ≤ many) (h2 : many < 1000000000000001) :
    CW δ pre post w (tCall (spM G_dip) [] E0 tr) fun d => ∃ r : Int, d = .int r ∧ 0 ≤ r ∧ r < many := fun c hc =>
  (ex_callW (S := fun x c' => ∃ d : D, x = .dat d ∧ (∃ r : Int, d = .int r ∧ 0 ≤ r ∧ r < many) ∧ IsW c') rfl (h c) ⟨w, c, many, rfl, rfl, hc, h1, h2, rfl⟩ fun x ν' ⟨r, c', e1, q1, q2, q3, e2⟩ => ⟨c', e2, _, e1, ⟨r, rfl, q1, q2⟩, q3⟩).mono
    fun x μ' ⟨c', ⟨d, e1, q, hc'⟩, e2⟩ => ⟨d, c', e1, q, hc', e2⟩
theorem cw_word {tr : TA} {L m : Int} (h : ∀ c, EA δ (pre ++ (w, c) :: post) tr [.own w, .dat (.int L), .dat (.int m)]) (h1 : 1 ≤ L) (h2 : L < 1073741824) (h3 : 0 ≤ m) (h4 : m ≤ 1000) :
    CW δ pre post w (tCall (spM G_word) [] E0 tr) fun d => ∃ v : List Int, d = wD v ∧ (v.length : Int) ≤ m ∧ ∀ y ∈ v, 0 ≤ y ∧ y < L := fun c hc =>
  (ex_callW (S := fun x c' => ∃ d : D, x = .dat d ∧ (∃ v : List Int, d = wD v ∧ (v.length : Int) ≤ m ∧ ∀ y ∈ v, 0 ≤ y ∧ y < L) ∧ IsW c') rfl (h c) ⟨w, c, L, m, rfl, rfl, hc, h1, h2, h3, h4, rfl⟩ fun x ν' ⟨v, c', e1, q1, q2, q3, e2⟩ => ⟨c', e2, _, e1, ⟨v, rfl, q1, q2⟩, q3⟩).mono
    fun x μ' ⟨c', ⟨d, e1, q, hc'⟩, e2⟩ => ⟨d, c', e1, q, hc', e2⟩
theorem cw_1p {te : TE} {K : PySem.W.Frag} {many : Int} (h : CW δ pre post w te fun d => ∃ r : Int, d = .int r ∧ 0 ≤ r ∧ r < many) : CW δ pre post w (tOp (rPlus K) (tC (.int 1)) te) fun d => ∃ r : Int, d = .int r ∧ 1 ≤ r ∧ r ≤ many := fun c hc =>
  ex_op e_int (h c hc) fun y μ' ⟨d, c', e1, ⟨r, e3, q1, q2⟩, hc', e2⟩ => by
    subst e1 e2 e3
    have rv : RV (rPlus K) (.dat (.int 1)) (.dat (.int r)) (.dat (.int (1 + r))) := rv_orl (rv_int (g := fun i j => i + j))
    exact ⟨.dat (.int (1 + r)), fun H σ v w' Q _ r1 r2 k => rv H v w' Q r1 r2 k, _, c', rfl, ⟨1 + r, rfl, by omega, by omega⟩, hc', rfl⟩
end
theorem nkd_w (w : List Int) : (wD w).nk.depth ≤ 3 := by
  unfold wD
  simp only [D.nk]
  induction w with
  | nil => simp [D.nkL, NestedKey.depth, NestedKey.depthAll]
  | cons x w ih =>
    simp only [List.map_cons, D.nkL, D.nk, NestedKey.depth, NestedKey.depthAll] at ih ⊢
    omega
theorem nkd_m (m : Mk) : m.d.nk.depth ≤ 8 := by
  have := nkd_w m.w
  simp only [Mk.d, D.nk, D.nkL, NestedKey.depth, NestedKey.depthAll] at this ⊢
  omega
theorem nkd_e (m : Ed) : m.d.nk.depth ≤ 8 := by
  have := nkd_w m.w
  simp only [Ed.d, D.nk, D.nkL, NestedKey.depth, NestedKey.depthAll] at this ⊢
  omega
theorem nob_w (w : List Int) : (wD w).nob = true := by
  unfold wD
  simp only [D.nob]
  induction w with
  | nil => rfl
  | cons x w ih => simpa [D.nobL, D.nob] using ih
theorem nob_m (m : Mk) : m.d.nob = true := by simp [Mk.d, D.nob, D.nobL, nob_w]
theorem nob_e (m : Ed) : m.d.nob = true := by simp [Ed.d, D.nob, D.nobL, nob_w]
theorem wD_inj {a b : List Int} (h : wD a = wD b) : a = b := by
  unfold wD at h
  have := D.tup.inj h
  exact (List.map_inj_right (fun x y e => D.int.inj e)).mp this
theorem Mk.d_inj {a b : Mk} (h : a.d = b.d) : a = b := by
  cases a; cases b
  simp only [Mk.d, D.tup.injEq, List.cons.injEq, D.int.injEq, and_true] at h
  obtain ⟨h1, h2⟩ := h
  subst h1
  rw [wD_inj h2]
theorem Ed.d_inj {a b : Ed} (h : a.d = b.d) : a = b := by
  cases a; cases b
  simp only [Ed.d, D.tup.injEq, List.cons.injEq, D.int.injEq, and_true] at h
  obtain ⟨h1, h2, h3, h4⟩ := h
  subst h1 h2 h3
  rw [wD_inj h4]
def addM {α : Type} [DecidableEq α] (l : List α) (a : α) : List α := if a ∈ l then l else l ++ [a]
theorem addM_nd {α : Type} [DecidableEq α] {l : List α} {a : α} (h : l.Nodup) : (addM l a).Nodup := by
  unfold addM
  split
  · exact h
  · rename_i h2
    exact List.nodup_append.mpr ⟨h, by simp, fun x hx y hy e => by
      rw [List.mem_singleton.mp hy] at e
      exact h2 (e ▸ hx)⟩
theorem addM_len {α : Type} [DecidableEq α] {l : List α} {a : α} : (addM l a).length ≤ l.length + 1 := by
  unfold addM
  split <;> simp
theorem addM_mem {α : Type} [DecidableEq α] {l : List α} {a x : α} (h : x ∈ addM l a) : x = a ∨ x ∈ l := by
  unfold addM at h
  split at h
  · exact .inr h
  · rcases List.mem_append.mp h with h | h
    · exact .inr h
    · exact .inl (List.mem_singleton.mp h)
theorem addD_m {l : List Mk} {m : Mk} : addD (l.map Mk.d) m.d = (addM l m).map Mk.d := by
  unfold addD addM
  have e : m.d.nk ∈ (l.map Mk.d).map D.nk ↔ m ∈ l := by
    rw [List.map_map]
    constructor
    · intro h
      obtain ⟨x, hx, e⟩ := List.mem_map.mp h
      rw [← Mk.d_inj (D.nk_inj (nob_m x) (nob_m m) e)]
      exact hx
    · exact fun h => List.mem_map.mpr ⟨m, h, rfl⟩
  by_cases h : m ∈ l
  · rw [if_pos (e.mpr h), if_pos h]
  · rw [if_neg (fun z => h (e.mp z)), if_neg h, List.map_append]
    rfl
theorem addD_e {l : List Ed} {m : Ed} : addD (l.map Ed.d) m.d = (addM l m).map Ed.d := by
  unfold addD addM
  have e : m.d.nk ∈ (l.map Ed.d).map D.nk ↔ m ∈ l := by
    rw [List.map_map]
    constructor
    · intro h
      obtain ⟨x, hx, e⟩ := List.mem_map.mp h
      rw [← Ed.d_inj (D.nk_inj (nob_e x) (nob_e m) e)]
      exact hx
    · exact fun h => List.mem_map.mpr ⟨m, h, rfl⟩
  by_cases h : m ∈ l
  · rw [if_pos (e.mpr h), if_pos h]
  · rw [if_neg (fun z => h (e.mp z)), if_neg h, List.map_append]
    rfl
structure Tn.Drawn (t : Tn) (S L N most longest : Int) : Prop where
  s : t.S = S
  l : t.L = L
  n : t.N = N
  le : (t.E.length : Int) ≤ most
  lb : t.B.length ≤ 2
  lf : t.F.length ≤ 2
def G_turner (S L N most longest : Int) (w : Addr) : TK.A → Mu → Prop := fun x μ' => ∃ (t : Tn) (c' : C), t.Ok ∧ t.Drawn S L N most longest ∧ x = .dat t.d ∧ IsW c' ∧ μ' = [(w, c')]
def G_lturner : List TK.A → Mu → (TK.A → Mu → Prop) → Prop := fun xs μ R => ∃ (w : Addr) (c : C) (S L N most longest : Int), xs = [.own w, .dat (.int S), .dat (.int L), .dat (.int N), .dat (.int most), .dat (.int longest)] ∧ μ = [(w, c)] ∧ IsW c ∧ 1 ≤ S ∧ S ≤ 1000 ∧ 1 ≤ L ∧ L ≤ 1000 ∧ 1 ≤ N ∧ N ≤ 60 ∧ 0 ≤ most ∧ most ≤ 900 ∧ 0 ≤ longest ∧ longest ≤ 1000 ∧
  R = G_turner S L N most longest w
structure GdM (N L : Int) (i : Nat) (l : List Mk) : Prop where
  nd : l.Nodup
  ln : l.length ≤ i
  ok : ∀ m ∈ l, m.ok N L
structure GdE (S N L : Int) (i : Nat) (l : List Ed) : Prop where
  nd : l.Nodup
  ln : l.length ≤ i
  ok : ∀ m ∈ l, m.ok S N L
theorem GdM.add {N L : Int} {i : Nat} {l : List Mk} {m : Mk} (h : GdM N L i l) (hm : m.ok N L) : GdM N L (i + 1) (addM l m) := ⟨addM_nd h.nd, by have := addM_len (l := l) (a := m); have := h.ln; omega, fun x hx => (addM_mem hx).elim (fun e => e ▸ hm) (h.ok x)⟩
theorem GdE.add {S N L : Int} {i : Nat} {l : List Ed} {m : Ed} (h : GdE S N L i l) (hm : m.ok S N L) : GdE S N L (i + 1) (addM l m) := ⟨addM_nd h.nd, by have := addM_len (l := l) (a := m); have := h.ln; omega, fun x hx => (addM_mem hx).elim (fun e => e ▸ hm) (h.ok x)⟩
theorem GdM.sort {N L : Int} {i : Nat} {l : List Mk} (h : GdM N L i l) : (∀ m ∈ sortM l, m.ok N L) ∧ (sortM l).length ≤ i ∧ ascB ((sortM l).map Mk.d) = true := ⟨fun m hm => h.ok m (sortM_perm.mem_iff.mp hm), by rw [sortM_perm.length_eq]; exact h.ln, sortM_asc h.nd⟩
theorem GdE.sort {S N L : Int} {i : Nat} {l : List Ed} (h : GdE S N L i l) : (∀ m ∈ sortE l, m.ok S N L) ∧ (sortE l).length ≤ i ∧ ascB ((sortE l).map Ed.d) = true := ⟨fun m hm => h.ok m (sortE_perm.mem_iff.mp hm), by rw [sortE_perm.length_eq]; exact h.ln, sortE_asc h.nd⟩
section
variable {P : Program} {w : World} {K : PySem.W.Frag} {mg : Str → Option Value} {base : Heap}
abbrev N__law_turner : List Str := ["well", "signs", "letters", "places", "most", "longest", "begins", "edges", "ends", "k"]
abbrev P__law_turner : List Str := ["well", "signs", "letters", "places", "most", "longest"]
theorem sc__law_turner : FnScope N__law_turner P__law_turner (defScope s__law_turner) := ⟨rfl, rfl, rfl, by decide +kernel, rfl, by decide +kernel, by decide +kernel⟩
theorem bd__law_turner (kV doc pm : Value) (an : Option Addr) (cdv ct : Value) (us : List Value) (hl : us.length = (P__law_turner : List Str).length) : bindArgs (PySem.W.fnOf "_law_turner" "_law_turner" (defArgs s__law_turner) (defBody s__law_turner) (defScope s__law_turner) .none kV doc pm an cdv ct) ⟨us, []⟩ = pure ((P__law_turner : List Str).zip us) := match us, hl with
  | [_, _, _, _, _, _], _ => rfl
theorem ok__law_turner (T : Bl mg) (R : Raw K mg "_law_turner" s__law_turner) (d__law_dip : Dn P w K mg base "_law_dip" P__law_dip 1 (spM G_dip)) (d__law_word : Dn P w K mg base "_law_word" P__law_word 2 (spM G_word)) : Dn P w K mg base "_law_turner" P__law_turner 3 (spM G_lturner) := by
  refine R.dnM sc__law_turner (fun ds d R ⟨w, c, S, L, N, m, g, e, _⟩ => by rw [e]; rfl) (by decide) bd__law_turner fun cdv Ao outer s H E hr => ⟨_, (pss_cons (ps_par3 (i := 6) (j := 7) (l := 8) (by rfl) sc__law_turner.nd rfl rfl rfl (by decide) (by decide) (by decide) rfl rfl rfl (pa_cons pe_dnewK (pa_cons pe_dnewK (pa_cons pe_dnewK pa_nil))) (by rfl))
      (pss_cons (ps_for PassesOwn.never rfl (pi_range1 rfl T.range (pa_cons (pe_op op_plus pe_int (pe_def d__law_dip hr (by decide) (by rfl) (pa_cons (pv 0) (pa_cons pe_int pa_nil)))) pa_nil)) (pg_name (i := 9) sc__law_turner.nd rfl (Or.inl rfl))
      (pss_cons (ps_asg pe_bl (pg_sub (pv 6) (pe_tup (pa_cons (pe_def d__law_dip hr (by decide) (by rfl) (pa_cons (pv 0) (pa_cons (pv 3) pa_nil))) (pa_cons (pe_def d__law_word hr (by decide) (by rfl) (pa_cons (pv 0) (pa_cons (pv 2) (pa_cons (pv 5) pa_nil)))) pa_nil))) (set_nk hr.units)))
      (pss_one (ps_asg pe_bl (pg_sub (pv 8) (pe_tup (pa_cons (pe_def d__law_dip hr (by decide) (by rfl) (pa_cons (pv 0) (pa_cons (pv 3) pa_nil))) (pa_cons (pe_def d__law_word hr (by decide) (by rfl) (pa_cons (pv 0) (pa_cons (pv 2) (pa_cons (pv 5) pa_nil)))) pa_nil))) (set_nk hr.units))))))
      (pss_cons (ps_for PassesOwn.never rfl (pi_range1 rfl T.range (pa_cons (pe_def d__law_dip hr (by decide) (by rfl) (pa_cons (pv 0) (pa_cons (pe_op op_plus (pv 4) pe_int) pa_nil))) pa_nil)) (pg_name (i := 9) sc__law_turner.nd rfl (Or.inl rfl))
      (pss_one (ps_asg pe_bl (pg_sub (pv 7) (pe_tup (pa_cons (pe_def d__law_dip hr (by decide) (by rfl) (pa_cons (pv 0) (pa_cons (pv 3) pa_nil))) (pa_cons (pe_def d__law_dip hr (by decide) (by rfl) (pa_cons (pv 0) (pa_cons (pv 1) pa_nil))) (pa_cons (pe_def d__law_dip hr (by decide) (by rfl) (pa_cons (pv 0) (pa_cons (pv 3) pa_nil))) (pa_cons (pe_def d__law_word hr (by decide) (by rfl) (pa_cons (pv 0) (pa_cons (pv 2) (pa_cons (pv 5) pa_nil)))) pa_nil))))) (set_nk hr.units)))))
      (pss_one (ps_ret (pe_tup (pa_cons (pv 1) (pa_cons (pv 2) (pa_cons (pv 3) (pa_cons (pe_callTy call_tupleOf (by rfl) T.tuple bb_tuple (pa_cons (pe_callB (cr_srtN rfl hr.units) (by rfl) T.sorted bb_sorted (pa_cons (pv 6) pa_nil)) pa_nil)) (pa_cons (pe_callTy call_tupleOf (by rfl) T.tuple bb_tuple (pa_cons (pe_callB (cr_srtN rfl hr.units) (by rfl) T.sorted bb_sorted (pa_cons (pv 7) pa_nil)) pa_nil)) (pa_cons (pe_callTy call_tupleOf (by rfl) T.tuple bb_tuple (pa_cons (pe_callB (cr_srtN rfl hr.units) (by rfl) T.sorted bb_sorted (pa_cons (pv 8) pa_nil)) pa_nil)) pa_nil)))))))))))), ?_⟩
  rintro xs μ R ⟨w', c, S, L, N, most, longest, rfl, rfl, hc, hS, hS2, hL, hL2, hN, hN2, hm, hm2, hg, hg2, rfl⟩
  refine ht_seq (ht_par3X (exa_NNN (en_nnew (Pr := P) (w := w)) (fun p => en_nnew (Pr := P) (w := w)) fun p q => en_nnew (Pr := P) (w := w)) fun xs μ1 hx => ?_)
  obtain ⟨p, q, r, rfl, rfl⟩ := hx
  refine ⟨_, _, _, rfl, ?_⟩
  let δ0 : Dl := [some (.own w'), some (.dat (.int S)), some (.dat (.int L)), some (.dat (.int N)), some (.dat (.int most)), some (.dat (.int longest)), some (.own p), some (.own q), some (.own r), none]
  let M : List Mk → List Ed → List Mk → C → Mu := fun Bs Es Fs c => [(r, nkC P w (Fs.map Mk.d)), (q, nkC P w (Es.map Ed.d)), (p, nkC P w (Bs.map Mk.d)), (w', c)]
  let I1 : Nat → Dl → Mu → Prop := fun i δ μ => ∃ (Bs Fs : List Mk) (c : C), μ = M Bs [] Fs c ∧ GdM N L i Bs ∧ GdM N L i Fs ∧ IsW c ∧ LeD δ δ0
  let I2 : Nat → Dl → Mu → Prop := fun i δ μ => ∃ (Bs Fs : List Mk) (Es : List Ed) (c : C), μ = M Bs Es Fs c ∧ GdM N L 2 Bs ∧ GdM N L 2 Fs ∧ GdE S N L i Es ∧ IsW c ∧ LeD δ δ0
  have hmk : ∀ d : D, (∃ ds, d = .tup ds ∧ Pl [fun d => ∃ r : Int, d = .int r ∧ 0 ≤ r ∧ r < N, fun d => ∃ v : List Int, d = wD v ∧ (v.length : Int) ≤ longest ∧ ∀ y ∈ v, 0 ≤ y ∧ y < L] ds) → ∃ m : Mk, d = m.d ∧ m.ok N L := by
    rintro d ⟨ds, rfl, hp⟩
    match ds, hp with
    | [a, b], ⟨⟨i, e1, h1, h2⟩, ⟨v, e2, h3, h4⟩, _⟩ =>
      subst e1 e2
      exact ⟨⟨i, v⟩, rfl, h1, h2, (show v.length ≤ 1000 by omega), h4⟩
  have hed : ∀ d : D, (∃ ds, d = .tup ds ∧ Pl [fun d => ∃ r : Int, d = .int r ∧ 0 ≤ r ∧ r < N, fun d => ∃ r : Int, d = .int r ∧ 0 ≤ r ∧ r < S, fun d => ∃ r : Int, d = .int r ∧ 0 ≤ r ∧ r < N, fun d => ∃ v : List Int, d = wD v ∧ (v.length : Int) ≤ longest ∧ ∀ y ∈ v, 0 ≤ y ∧ y < L] ds) → ∃ m : Ed, d = m.d ∧ m.ok S N L := by
    rintro d ⟨ds, rfl, hp⟩
    match ds, hp with
    | [a, b, c, d], ⟨⟨i, e1, h1, h2⟩, ⟨j, e3, h5, h6⟩, ⟨k, e4, h7, h8⟩, ⟨v, e2, h3, h4⟩, _⟩ =>
      subst e1 e2 e3 e4
      exact ⟨⟨i, j, k, v⟩, rfl, h1, h2, h5, h6, h7, h8, (show v.length ≤ 1000 by omega), h4⟩
  have up : ∀ {i j : Nat} {l : List Mk}, i ≤ j → GdM N L i l → GdM N L j l := fun h g => ⟨g.nd, Nat.le_trans g.ln h, g.ok⟩
  have upE : ∀ {i j : Nat} {l : List Ed}, i ≤ j → GdE S N L i l → GdE S N L j l := fun h g => ⟨g.nd, Nat.le_trans g.ln h, g.ok⟩
  refine ht_cut (N := I1 2) (ht_forRX (cw_1p (cw_dip (pre := [(r, nkC P w []), (q, nkC P w []), (p, nkC P w [])]) (post := []) (w := w') (many := 2) (fun c => ea_cons (e_var rfl) (ea_cons e_int ea_nil)) (by decide) (by decide)) c hc) fun x μ1 ⟨d, c1, e1, ⟨n, e3, q1, q2⟩, hc1, e2⟩ => ⟨n, by rw [e1, e3], ?_⟩) ?_
  · subst e1 e2 e3
    refine ht_forR (n := n) (ea_cons e_int ea_nil) (by omega) (by omega) I1 ⟨[], [], c1, rfl, ⟨List.nodup_nil, by simp, fun m h => by cases h⟩, ⟨List.nodup_nil, by simp, fun m h => by cases h⟩, hc1, LeD.refl _⟩ ?_ ?_
    · rintro i δ1 μ1 hi ⟨Bs, Fs, c2, rfl, hB, hF, hc2, hle⟩
      refine ⟨_, _, tg_name, ?_⟩
      refine HT.le (δ' := δ0) ?_ (hle.set rfl)
      refine ht_seq (ht_setNk (a := p) (Pr := P) (w := w) e_bl (e_var rfl) (cw_tup (pre := [(r, nkC P w (Fs.map Mk.d)), (q, nkC P w []), (p, nkC P w (Bs.map Mk.d))]) (post := []) (w := w') (cwa_cons (cw_dip (fun c => ea_cons (e_var rfl) (ea_cons (e_var rfl) ea_nil)) hN (by omega)) (cwa_cons (cw_word (fun c => ea_cons (e_var rfl) (ea_cons (e_var rfl) (ea_cons (e_var rfl) ea_nil))) hL (by omega) hg (by omega)) cwa_nil)) (by simp) c2 hc2) ?_)
      rintro x μ2 ⟨d, c3, rfl, hd, hc3, rfl⟩
      obtain ⟨m, rfl, hm⟩ := hmk d hd
      have e : addD (Bs.map Mk.d) (.tup [.int m.p, wD m.w]) = (addM Bs m).map Mk.d := addD_m
      refine ⟨2, Bs.map Mk.d, [.int m.p, wD m.w], rfl, nkd_m m, by rw [List.length_map]; have := hB.ln; omega, rfl, ?_⟩
      rw [e]
      refine ht_setNk (a := r) (Pr := P) (w := w) e_bl (e_var rfl) (cw_tup (pre := [(r, nkC P w (Fs.map Mk.d)), (q, nkC P w []), (p, nkC P w ((addM Bs m).map Mk.d))]) (post := []) (w := w') (cwa_cons (cw_dip (fun c => ea_cons (e_var rfl) (ea_cons (e_var rfl) ea_nil)) hN (by omega)) (cwa_cons (cw_word (fun c => ea_cons (e_var rfl) (ea_cons (e_var rfl) (ea_cons (e_var rfl) ea_nil))) hL (by omega) hg (by omega)) cwa_nil)) (by simp) c3 hc3) ?_
      rintro x μ2 ⟨d, c4, rfl, hd4, hc4, rfl⟩
      obtain ⟨m2, rfl, hm2⟩ := hmk d hd4
      have e4 : addD (Fs.map Mk.d) (.tup [.int m2.p, wD m2.w]) = (addM Fs m2).map Mk.d := addD_m
      refine ⟨0, Fs.map Mk.d, [.int m2.p, wD m2.w], rfl, nkd_m m2, by rw [List.length_map]; have := hF.ln; omega, rfl, ?_⟩
      rw [e4]
      exact ⟨addM Bs m, addM Fs m2, c4, rfl, hB.add hm, hF.add hm2, hc4, LeD.refl _⟩
    · rintro δ1 μ1 ⟨Bs, Fs, c2, rfl, hB, hF, hc2, hle⟩
      exact ⟨Bs, Fs, c2, rfl, up (by omega) hB, up (by omega) hF, hc2, hle⟩
  rintro δ1 μ1 ⟨Bs, Fs, c2, rfl, hB, hF, hc2, hle⟩
  refine HT.le (δ' := δ0) ?_ hle
  refine ht_cut (N := I2 most.toNat) (ht_forRX (cw_dip (pre := [(r, nkC P w (Fs.map Mk.d)), (q, nkC P w []), (p, nkC P w (Bs.map Mk.d))]) (post := []) (w := w') (many := most + 1) (fun c => ea_cons (e_var rfl) (ea_cons (e_plusI (e_var rfl) e_int) ea_nil)) (by omega) (by omega) c2 hc2) fun x μ1 ⟨d, c1, e1, ⟨n, e3, q1, q2⟩, hc1, e2⟩ => ⟨n, by rw [e1, e3], ?_⟩) ?_
  · subst e1 e2 e3
    refine ht_forR (n := n) (ea_cons e_int ea_nil) (by omega) (by omega) I2 ⟨Bs, Fs, [], c1, rfl, hB, hF, ⟨List.nodup_nil, by simp, fun m h => by cases h⟩, hc1, LeD.refl _⟩ ?_ ?_
    · rintro i δ1 μ1 hi ⟨Bs, Fs, Es, c2, rfl, hB, hF, hE, hc2, hle⟩
      refine ⟨_, _, tg_name, ?_⟩
      refine HT.le (δ' := δ0) ?_ (hle.set rfl)
      refine ht_setNk (a := q) (Pr := P) (w := w) e_bl (e_var rfl) (cw_tup (pre := [(r, nkC P w (Fs.map Mk.d)), (q, nkC P w (Es.map Ed.d)), (p, nkC P w (Bs.map Mk.d))]) (post := []) (w := w') (cwa_cons (cw_dip (fun c => ea_cons (e_var rfl) (ea_cons (e_var rfl) ea_nil)) hN (by omega)) (cwa_cons (cw_dip (fun c => ea_cons (e_var rfl) (ea_cons (e_var rfl) ea_nil)) hS (by omega)) (cwa_cons (cw_dip (fun c => ea_cons (e_var rfl) (ea_cons (e_var rfl) ea_nil)) hN (by omega)) (cwa_cons (cw_word (fun c => ea_cons (e_var rfl) (ea_cons (e_var rfl) (ea_cons (e_var rfl) ea_nil))) hL (by omega) hg (by omega)) cwa_nil)))) (by simp) c2 hc2) ?_
      rintro x μ2 ⟨d, c3, rfl, hd, hc3, rfl⟩
      obtain ⟨m, rfl, hm⟩ := hed d hd
      have e : addD (Es.map Ed.d) (.tup [.int m.a, .int m.s, .int m.b, wD m.w]) = (addM Es m).map Ed.d := addD_e
      refine ⟨1, Es.map Ed.d, [.int m.a, .int m.s, .int m.b, wD m.w], rfl, nkd_e m, by rw [List.length_map]; have := hE.ln; omega, rfl, ?_⟩
      rw [e]
      exact ⟨Bs, Fs, addM Es m, c3, rfl, hB, hF, hE.add hm, hc3, LeD.refl _⟩
    · rintro δ1 μ1 ⟨Bs, Fs, Es, c2, rfl, hB, hF, hE, hc2, hle⟩
      exact ⟨Bs, Fs, Es, c2, rfl, hB, hF, upE (by omega) hE, hc2, hle⟩
  rintro δ1 μ1 ⟨Bs, Fs, Es, c2, rfl, hB, hF, hE, hc2, hle⟩
  refine HT.le (δ' := δ0) ?_ hle
  refine ht_retS (TK.E.ex (x := .dat (Tn.d ⟨S, L, N, sortM Bs, sortE Es, sortM Fs⟩)) (e_tup (ds := [.int S, .int L, .int N, .tup ((sortM Bs).map Mk.d), .tup ((sortE Es).map Ed.d), .tup ((sortM Fs).map Mk.d)]) (ea_cons (e_var rfl) (ea_cons (e_var rfl) (ea_cons (e_var rfl) (ea_cons (e_tupleN (en_is (en_srtNk 2 (e_var rfl) rfl dlike_ms dsort_ms ddep_ms) (by rw [sortM_d]))) (ea_cons (e_tupleN (en_is (en_srtNk 1 (e_var rfl) rfl dlike_es dsort_es ddep_es) (by rw [sortE_d]))) (ea_cons (e_tupleN (en_is (en_srtNk 0 (e_var rfl) rfl dlike_ms dsort_ms ddep_ms) (by rw [sortM_d]))) ea_nil)))))) (by simp))) fun x μ2 ⟨e1, e2⟩ => ⟨[(w', c2)], ⟨⟨S, L, N, sortM Bs, sortE Es, sortM Fs⟩, c2, ?_, ⟨rfl, rfl, rfl, ?_, ?_, ?_⟩, e1, hc2, rfl⟩, ?_⟩
  · obtain ⟨a1, a2, a3⟩ := hB.sort
    obtain ⟨b1, b2, b3⟩ := hE.sort
    obtain ⟨f1, f2, f3⟩ := hF.sort
    exact ⟨hS, hL, hN, hN2, a1, b1, f1, Nat.le_trans a2 (by decide), Nat.le_trans b2 (by omega), Nat.le_trans f2 (by decide), a3, b3, f3⟩
  · have b2 := hE.sort.2.1
    show ((sortE Es).length : Int) ≤ most
    omega
  · exact hB.sort.2.1
  · exact hF.sort.2.1
  · rw [e2]
    exact .cons _ (.cons _ (.cons _ (.cons₂ _ .slnil)))
end
end T
set_option maxHeartbeats 2000000
namespace TK
open PySem L2 NdefX LamX
variable [TC]
theorem Raw.void {P : Program} {w : World} {K : PySem.W.Frag} {mg : Str → Option Value} {base : Heap} {x : Str} {st : Stmt} {N ps : List Str} (R : Raw K mg x st) (S : FnScope N ps (defScope st))
    (hbind : ∀ (kV doc pm : Value) (an : Option Addr) (cdv ct : Value) (us : List Value), us.length = ps.length → bindArgs (PySem.W.fnOf x x (defArgs st) (defBody st) (defScope st) .none kV doc pm an cdv ct) ⟨us, []⟩ = pure (ps.zip us)) :
    Dn P w K mg base x ps 0 (spR fun _ _ => False) := by
  obtain ⟨fd, F⟩ := R.fn
  exact ⟨⟨fd, ⟨fun vs H Q E ⟨_, _, _, _, h, _⟩ => h.elim, fun A outer s H args us vs Q E _ _ _ _ ⟨_, _, _, _, h, _⟩ => h.elim⟩, F.bindsN hbind, fdAt F⟩, R.mg, F.kp⟩
section
variable {δ δ' : Dl} {μ μ' : Mu} {te ta tb tc tl td ty tx tk tv to ti : TE} {tt tu : TT} {tr : TA} {x y z : A} {d e : D} {b c : Bool} {ts us : TS} {P : Po} {g : TG} {K : PySem.W.Frag} {wi : TI} {xs : List A} {a : Addr}
theorem kitAny2 {t a b : Value} {p q : Bool} (h1 : PySem.W.kitOne K t a = some p) (h2 : PySem.W.kitOne K t b = some q) : PySem.W.kitAny K t [a, b] = some (p || q) := by
  unfold PySem.W.kitAny
  rw [h1]
  cases p
  · unfold PySem.W.kitAny
    simp only [h2]
    cases q <;> rfl
  · rfl
theorem e_isi2 {T U : String} (ha : E δ μ ta (.dat d)) (hT : T ∈ ["int", "bool", "tuple", "list", "str"]) (hU : U ∈ ["int", "bool", "tuple", "list", "str"]) :
    E δ μ (tCB (rIsiA K) (tCons ta (tCons (tTup (tCons (tC (.ty T)) (tCons (tC (.ty U)) tNil))) tNil))) (.dat (.bl (isiB (tyD d) T || isiB (tyD d) U))) := fun σ H s Q k =>
  ha σ H s _ fun v H1 f1 r1 => ⟨szl (show 2 ≤ 100000 by decide), fun p hp => by
    have f2 : Fr [] H1 (upd H1 p (.tup [V.ty T, V.ty U])) := Fr.new hp nt_tup
    exact .inr ⟨v, p, _, _, _, _, rfl, upd_same, .cons (ClsV.ty T) (.cons (ClsV.ty U) .nil), ty_of (r1.mono f2.tup), kitAny2 (kit_of (tyD_mem d) hT) (kit_of (tyD_mem d) hU), k _ _ (f1.trans0 f2) (Rp.bl _)⟩⟩
theorem e_isi2L {T U : String} (n : Nat) (ha : E δ μ ta (.own a)) (hm : μ[n]? = some (a, .lst xs)) (hT : T ∈ ["int", "bool", "tuple", "list", "str"]) (hU : U ∈ ["int", "bool", "tuple", "list", "str"]) :
    E δ μ (tCB (rIsiA K) (tCons ta (tCons (tTup (tCons (tC (.ty T)) (tCons (tC (.ty U)) tNil))) tNil))) (.dat (.bl (isiB "list" T || isiB "list" U))) := fun σ H s Q k =>
  ha σ H s _ fun v H1 f1 r1 => ⟨szl (show 2 ≤ 100000 by decide), fun p hp => by
    have f2 : Fr [] H1 (upd H1 p (.tup [V.ty T, V.ty U])) := Fr.new hp nt_tup
    obtain ⟨ws, h1, q1⟩ := ((s.step f1).step f2).mem.lst hm
    rw [show v = V.ref a from r1]
    exact .inr ⟨_, p, _, _, _, _, rfl, upd_same, .cons (ClsV.ty T) (.cons (ClsV.ty U) .nil), .base (.lst h1), kitAny2 (kit_of (by simp [tyNames]) hT) (kit_of (by simp [tyNames]) hU), k _ _ (f1.trans0 f2) (Rp.bl _)⟩⟩
end
end TK
set_option maxHeartbeats 4000000
namespace L2
open PySem PySem.Spec PyProof.Rows
theorem tuple_mul1 (l : Addr) (items : Array Value) (n : Nat) (dd : Option Addr) (sl : Array (Option Value)) (u : Tok) :
    Meets (Builtin.«tuple.__mul__» ⟨[.ref l, .int 1 u], []⟩) (fun _ R s => s.heap.get? l = some { cls := .type "tuple", dict := dd, data := .seq items n, slots := sl } ∧
      R (.ok (.ret (Value.ref l))) s) :=
  .of_wp fun prog w A R s h => by
    obtain ⟨hp, g, d, tk, os⟩ := s
    obtain ⟨hl, h⟩ := h
    have f1 := AutoSeq1.idx_int
    wp_walk using wpAny_loadPart' hl
    exact ⟨_, rfl, h⟩
def rRep1T (K : PySem.W.Frag) : R2 := fun x y H Q => ∃ l xs, x = .ref l ∧ y = .int 1 ∧ H l = some (.tup xs) ∧ Q (.ref l) H
theorem op_rep1T {X : Cx} : OpR X (binaryOp .Mult) (rRep1T X.K) := by
  intro pins s σ H x y v u Q I rx ry h
  obtain ⟨l, xs, rfl, rfl, hT, q⟩ := h
  cases rx
  obtain ⟨t, rfl⟩ := ry
  obtain ⟨its, r, ⟨⟨cls, dd, data, sl⟩, ho, hc, n, hd⟩, hs⟩ := I.tuple (SqT.of hT)
  simp only at hc hd
  subst hc hd
  refine wpAny_binaryOp_repeat_ref (T := "tuple") (U := "int") (by decide) ⟨_, ho, rfl⟩ (fun s' => typeIs_int s' 1 t) noFill_tuple_mul F.fills_int_mul F.slot_int_rmul repeat_tuple F.slot_int_index.lookup
    (call_meets F.slot_int_rmul (typeIs_int s 1 t) F.entry_int_rmul (F.args_int_rmul_2 _ _) (int_rmul_tuple 1 t l its.toArray n dd sl)
      ⟨ho, rfl, ⟨_, ho, rfl⟩, call_meets F.slot_tuple_mul ⟨_, ho, rfl⟩ F.entry_tuple_mul (F.args_tuple_mul_2 _ _) (tuple_mul1 l its.toArray n dd sl t) ⟨ho, ?_⟩⟩)
  exact ⟨.ref l, H, I, rfl, q⟩
end L2
namespace TK
open PySem L2 NdefX LamX
variable [TC]
def rTimesV (K : PySem.W.Frag) : R2 := fun x y H Q => rTimes K x y H Q ∨ rRep1T K x y H Q
theorem op_timesV {X : Cx} : OpR X (binaryOp .Mult) (rTimesV X.K) := op_times.or op_rep1T
theorem rpl_flat {H : Hp} {vs : List V} {ds : List D} (r : RpL H vs ds) : ∀ n : Nat, RpL H (List.replicate n vs).flatten (List.replicate n ds).flatten
  | 0 => .nil
  | n + 1 => by
    rw [List.replicate_succ, List.replicate_succ, List.flatten_cons, List.flatten_cons]
    exact r.append (rpl_flat r n)
theorem e_timesV {δ : Dl} {μ : Mu} {ta tb : TE} {K : PySem.W.Frag} {d : D} {n : Int} (ha : E δ μ ta (.dat (.tup [d]))) (hb : E δ μ tb (.dat (.int n))) (h1 : 1 ≤ n) (h2 : n ≤ 1000) : E δ μ (tOp (rTimesV K) ta tb) (.dat (.tup (List.replicate n.toNat d))) := e_op ha hb fun H v w Q r1 r2 k => by
  obtain ⟨a, vs, rfl, h, q⟩ := rp_tup r1
  rw [rp_int r2]
  have e : (List.replicate n.toNat [d]).flatten = List.replicate n.toNat d := by simp
  by_cases hn : n = 1
  · subst hn
    exact .inr ⟨a, vs, rfl, rfl, h, k _ H (Fr.refl _ _) (.tup h (by rw [← e]; simpa using q))⟩
  · refine .inl (.inr (.inr ⟨a, n, vs, rfl, rfl, SqT.of h, fun z => ?_, by omega, h2, ?_, fun p hp => ?_⟩))
    · rw [z] at q; cases q
    · have := q.length
      simp at this
      omega
    · have f := Fr.new hp (nt_tup (xs := (List.replicate n.toNat vs).flatten))
      refine k _ _ f (.tup upd_same ?_)
      rw [← e]
      exact (rpl_flat q _).mono f.tup
end TK
set_option maxHeartbeats 2000000
namespace TK
open PySem L2 NdefX LamX
variable [TC]
section
variable {δ δ' : Dl} {μ μ' : Mu} {te ta tb tc tl td ty tx tk tv to ti : TE} {tt tu : TT} {tr : TA} {x y z : A} {d e : D} {b c : Bool} {ts us : TS} {P : Po} {g : TG} {K : PySem.W.Frag} {wi : TI} {xs ys : List A} {a : Addr}
theorem e_notB (ha : E δ μ ta (.dat (.bl b))) (hb : E δ μ tb (.dat (.bl c))) : E δ μ (tOp rNotB ta tb) (.dat (.bl (!decide (b = c)))) := e_op ha hb fun H v w Q r1 r2 k => ⟨b, c, rp_bl r1, rp_bl r2, k _ H (Fr.refl _ _) (Rp.bl _)⟩
theorem e_isB (ha : E δ μ ta (.dat (.bl b))) (hb : E δ μ tb (.dat (.bl c))) : E δ μ (tOp rIsB ta tb) (.dat (.bl (decide (b = c)))) := e_op ha hb fun H v w Q r1 r2 k => ⟨b, c, rp_bl r1, rp_bl r2, k _ H (Fr.refl _ _) (Rp.bl _)⟩
theorem en_catN (n : Nat) (ha : E δ μ ta (.own a)) (hm : μ[n]? = some (a, .lst xs)) (hb : EN δ μ tb (.lst ys)) (hz : xs.length + ys.length ≤ 100000) : EN δ μ (tOp (rPlus K) ta tb) (.lst (xs ++ ys)) := fun σ H s Q k =>
  ha σ H s _ fun v H1 f1 r1 => hb σ H1 (s.step f1) _ fun q H2 f2 hn hc _ => by
    obtain ⟨ws, e1, q1⟩ := ((s.step f1).step f2).mem.lst hm
    obtain ⟨us, e2, q2⟩ := hc
    rw [show v = V.ref a from r1]
    refine .inr (.inr ⟨a, q, ws, us, rfl, rfl, e1, e2, by rw [q1.length, q2.length]; exact szl hz, fun p hp => ?_⟩)
    have f3 : Fr [] H2 (upd H2 p (.lst (ws ++ us))) := Fr.new hp nt_lst
    exact k p _ ((f1.trans0 f2).trans0 f3) (f1.free _ (f2.free _ hp)) ⟨_, upd_same, (q1.append q2).mono f3.tup⟩ fun ps z => by rw [upd_same] at z; cases z
end
end TK
set_option maxHeartbeats 4000000
namespace NS
open PySem PySem.Spec PyProof.Rows L2
mutual
def plain : NestedKey → Bool
  | .text _ => false
  | .tup ks => plains ks
  | _ => true
def plains : List NestedKey → Bool
  | [] => true
  | k :: ks => plain k && plains ks
end
section
variable {P : Program} {w : World}
def Says (P : Program) (w : World) (s : Shared) (m : Sem Bool) (b : Bool) : Prop := ∀ (A : Around) (E : Value → Shared → Prop) (Q : Bool → Shared → Prop), Q b s → wpAny (model P w) A m Q E s
theorem says_pure {s : Shared} {b : Bool} : Says P w s (pure b) b := fun A E Q h => wpAny_pure h
theorem says_loop {s : Shared} {items : Array Value} {body : Value → Option Bool × Unit → Sem (ForInStep (Option Bool × Unit))} {A : Around} {E : Value → Shared → Prop} {Q : Option Bool × Unit → Shared → Prop}
    (h : ∀ v ∈ items.toList, ∀ (Q : ForInStep (Option Bool × Unit) → Shared → Prop), Q (.yield (none, ())) s → wpAny (model P w) A (body v (none, ())) Q E s) (hq : Q (none, ()) s) : wpAny (model P w) A (forIn items (none, ()) body) Q E s := by
  rw [← Array.forIn_toList]
  refine wpAny_forIn_list _ (fun rest r s' => r = (none, ()) ∧ s' = s ∧ ∀ v ∈ rest, v ∈ items.toList) _ ?_ ?_ _ _ ⟨rfl, rfl, fun v hv => hv⟩
  · rintro v rest r s' ⟨rfl, rfl, hall⟩
    exact h v (hall v List.mem_cons_self) _ ⟨rfl, rfl, fun u hu => hall u (List.mem_cons_of_mem _ hu)⟩
  · rintro r s' ⟨rfl, rfl, _⟩
    exact hq
mutual
theorem class_of : ∀ (k : NestedKey) (v : Value) (n : Nat) (s : Shared), NestedIs s.heap k v → k.depth ≤ n → Says P w s (ofAClassStatement n v) false
  | .none, _, n, s, x, _ => by cases x; cases n <;> exact says_pure
  | .num i, _, n, s, x, _ => by cases x <;> cases n <;> exact says_pure
  | .text y, _, n, s, x, _ => by cases x; cases n <;> exact says_pure
  | .tup ks, _, n, s, x, hn => by
    cases x with
    | tup hg hc hd hk =>
      simp only [NestedKey.depth] at hn
      cases n with
      | zero => omega
      | succ n =>
        intro A E Q h
        unfold ofAClassStatement
        refine wpAny_bind (wpAny_typeOf ⟨_, hg, hc⟩ ?_)
        dsimp only
        have e : (("tuple" : String) == "tuple") = true := by decide
        simp only [e, if_true, Bool.not_true, Bool.false_eq_true, if_false]
        try refine wpAny_bind (wpAny_pure ?_)
        try simp only [Bool.not_true, Bool.false_eq_true, if_false]
        show wpAny _ _ (seqItems? _ >>= _) _ _ s
        refine wpAny_bind (wpAny_seqItems hg hd ?_)
        dsimp only
        refine wpAny_bind (says_loop (fun v hv Q' hq => ?_) (wpAny_pure h))
        refine wpAny_bind (class_ofs ks _ n s hk (by omega) v hv _ _ _ ?_)
        simp only [Bool.false_eq_true, if_false]
        exact wpAny_pure hq
theorem class_ofs : ∀ (ks : List NestedKey) (vs : List Value) (n : Nat) (s : Shared), NestedAll s.heap ks vs → NestedKey.depthAll ks ≤ n → ∀ v ∈ vs, Says P w s (ofAClassStatement n v) false
  | [], _, n, s, x, _, v, hv => by cases x; cases hv
  | k :: ks, _, n, s, x, hn, v, hv => by
    cases x with
    | cons x1 x2 =>
      simp only [NestedKey.depthAll] at hn
      rcases List.mem_cons.mp hv with e | hv
      · rw [e]; exact class_of k _ n s x1 (by omega)
      · exact class_ofs ks _ n s x2 (by omega) v hv
end
mutual
theorem hashed_of : ∀ (k : NestedKey) (v : Value) (n : Nat) (s : Shared), NestedIs s.heap k v → plain k = true → k.depth ≤ n → Says P w s (hashByValue n v) true
  | .none, _, n, s, x, _, _ => by cases x; cases n <;> exact says_pure
  | .num i, _, n, s, x, _, _ => by cases x <;> cases n <;> exact says_pure
  | .text y, _, n, s, x, hp, _ => by cases hp
  | .tup ks, _, n, s, x, hp, hn => by
    cases x with
    | tup hg hc hd hk =>
      simp only [NestedKey.depth] at hn
      cases n with
      | zero => omega
      | succ n =>
        intro A E Q h
        unfold hashByValue
        refine wpAny_bind (wpAny_specialOf ⟨_, hg, hc⟩ F.slot_tuple_hash.lookup ?_)
        show wpAny _ _ (seqItems? _ >>= _) _ _ s
        refine wpAny_bind (wpAny_seqItems hg hd ?_)
        refine wpAny_bind (says_loop (fun v hv Q' hq => ?_) (wpAny_pure h))
        refine wpAny_bind (hashed_ofs ks _ n s hk (by simpa [plain] using hp) (by omega) v hv _ _ _ ?_)
        simp only [Bool.not_true, Bool.false_eq_true, if_false]
        exact wpAny_pure hq
theorem hashed_ofs : ∀ (ks : List NestedKey) (vs : List Value) (n : Nat) (s : Shared), NestedAll s.heap ks vs → plains ks = true → NestedKey.depthAll ks ≤ n → ∀ v ∈ vs, Says P w s (hashByValue n v) true
  | [], _, n, s, x, _, _, v, hv => by cases x; cases hv
  | k :: ks, _, n, s, x, hp, hn, v, hv => by
    cases x with
    | cons x1 x2 =>
      simp only [NestedKey.depthAll] at hn
      simp only [plains, Bool.and_eq_true] at hp
      rcases List.mem_cons.mp hv with e | hv
      · rw [e]; exact hashed_of k _ n s x1 hp.1 (by omega)
      · exact hashed_ofs ks _ n s x2 hp.2 (by omega) v hv
end
structure Key (h : Heap) (k : NestedKey) (a : Addr) : Prop where
  is : NestedIs h k (.ref a)
  dp : k.depth ≤ 8
  pl : plain k = true
theorem Key.nk {h : Heap} {k : NestedKey} {a : Addr} (x : Key h k a) : (nestedKind P w).is h k a := ⟨x.is, x.dp⟩
theorem Key.same {h : Heap} {x y : NestedKey} {a : Addr} (hx : Key h x a) (hy : Key h y a) : x = y := NestedIs.inj _ _ _ hx.is hy.is
theorem Key.keep {h h' : Heap} {k : NestedKey} {a : Addr} (x : Key h k a) (hk : ∀ b o vs n, h.get? b = some o → o.data = .seq vs n → h'.get? b = some o) : Key h' k a := ⟨NestedIs.at hk _ _ x.is, x.dp, x.pl⟩
theorem unseen {s : Shared} {k : NestedKey} {b : Addr} (hk : Key s.heap k b) {ys : List Value} (hy : ∀ y ∈ ys, ∃ k' c, y = Value.ref c ∧ Key s.heap k' c) : Says P w s (searchCouldBeSeen (.ref b) ys) false := by
  intro A E Q h
  unfold searchCouldBeSeen
  refine wpAny_bind ?_
  refine wpAny_forIn_list _ (fun rest r s' => r = (none, ()) ∧ s' = s ∧ ∀ v ∈ rest, v ∈ ys) _ ?_ ?_ _ _ ⟨rfl, rfl, fun v hv => hv⟩
  · rintro v rest r s' ⟨rfl, rfl, hall⟩
    obtain ⟨k', c, rfl, hc⟩ := hy v (hall v List.mem_cons_self)
    have nxt : ∀ u ∈ rest, u ∈ ys := fun u hu => hall u (List.mem_cons_of_mem _ hu)
    dsimp only
    by_cases hv : (b == c || (carriedByValue (.ref b) && carriedByValue (.ref c))) = true
    · exact wp_if_pos hv (wpAny_pure ⟨rfl, rfl, nxt⟩)
    · refine wp_if_neg hv (wpAny_bind (quiet_key k _ 8 _ hk.is hk.dp _ _ _ ?_))
      simp only [Bool.not_true, Bool.false_eq_true, if_false]
      refine wpAny_bind (quiet_key k' _ 8 _ hc.is hc.dp _ _ _ ?_)
      simp only [Bool.not_true, Bool.false_eq_true, if_false]
      refine wpAny_bind (class_of k _ 8 _ hk.is hk.dp _ _ _ ?_)
      simp only [Bool.false_eq_true, if_false]
      refine wpAny_bind (class_of k' _ 8 _ hc.is hc.dp _ _ _ ?_)
      simp only [Bool.false_eq_true, if_false]
      exact wpAny_pure ⟨rfl, rfl, nxt⟩
  · rintro r s' ⟨rfl, rfl, _⟩
    exact wpAny_pure h
end
end NS
set_option maxHeartbeats 4000000
namespace NS
open PySem PySem.Spec PyProof.Rows L2
abbrev row (w : World) (p : Addr × NestedKey) : Int × Value := (p.2.hash w, Value.ref p.1)
structure Tb (w : World) (h : Heap) (a : Addr) (L : List (Addr × NestedKey)) (es : Array (Int × Value)) (ep : Nat) (t : SetTable) : Prop where
  ob : ∃ o, h.get? a = some o ∧ o.ExactSet ∧ o.data = .set es ep t
  rows : es.toList = L.map (row w)
  tab : TabOk t (L.map fun p => p.2.hash w)
  nd : (L.map (·.2)).Nodup
  key : ∀ p ∈ L, Key h p.2 p.1
  plain : t.plain = true
  led : w.params.followText "set-order" = true ∨ t.led = true
  room : L.length * 5 < t.mask * 3
  few : L.length < 64
section
variable {P : Program} {w : World} {A : Around} {E : Value → Shared → Prop} {s : Shared} {a : Addr} {L : List (Addr × NestedKey)} {es : Array (Int × Value)} {ep : Nat} {t : SetTable}
theorem rows_size (h : es.toList = L.map (row w)) : es.size = L.length := by
  have := congrArg List.length h
  rwa [Array.length_toList, List.length_map] at this
theorem rows_at (h : es.toList = L.map (row w)) {i : Nat} {p : Addr × NestedKey} (hp : L[i]? = some p) : es[i]? = some (row w p) := by
  rw [← Array.getElem?_toList, h, List.getElem?_map, hp]
  rfl
theorem fits_of (hd : t.dummies = #[]) (hs : t.place.size = es.size) (hm : es.size ≤ t.mask) : t.fits es.size = true := by
  unfold SetTable.fits SetTable.fill
  rw [hd, Bool.and_eq_true, beq_iff_eq, decide_eq_true_eq]
  show t.place.size = es.size ∧ t.place.size + 0 ≤ t.mask
  omega
theorem Tb.psz (R : Tb w s.heap a L es ep t) : t.place.size = es.size := by
  have := R.tab.sz
  rw [List.length_map] at this
  rw [this, rows_size R.rows]
theorem Tb.fits (R : Tb w s.heap a L es ep t) : t.fits es.size = true := fits_of R.tab.dm R.psz (by
  have := rows_size R.rows
  have := R.room
  omega)
theorem no_way (t : SetTable) (hm : MaskOk t.mask) : ¬ t.gaveWay = true := by
  unfold SetTable.gaveWay
  rw [mask_odd hm]
  decide
theorem same_mem (t : SetTable) : t.sameMemory t.moves t.mask = some true := by
  unfold SetTable.sameMemory
  rw [if_pos (beq_self_eq_true _)]
abbrev pr (t : SetTable) (h : Int) (c : Nat) : SetTable.Probe := nth t.mask (runAt t.mask (SetTable.bits h % (t.mask + 1)) (SetTable.bits h)) c
theorem pr_add (t : SetTable) (h : Int) (c q : Nat) : nth t.mask (pr t h c) q = pr t h (c + q) := (nth_add t.mask c _ q).symm
theorem pr_dummy (t : SetTable) (h : Int) : ∀ c, (pr t h c).dummy = none := by
  have key : ∀ (n : Nat) (p : SetTable.Probe), p.dummy = none → (nth t.mask p n).dummy = none := fun n => by
    induction n with
    | zero => exact fun p e => e
    | succ n ih =>
      intro p e
      refine ih (adv t.mask p) ?_
      unfold adv
      split <;> exact e
  exact fun c => key c _ rfl
theorem seek (R : Tb w s.heap a L es ep t) {x : Addr} {k : NestedKey} (hx : Key s.heap k x) (hu : A.units + 8 < cLine) {K : Nat} (hKf : K < 10 * SetTable.turns t.mask)
    (hK : way t.mask (k.hash w) K ∉ t.place.toList) (hKb : ∀ c, c < K → way t.mask (k.hash w) c ∈ t.place.toList) {Q : SetFound → Shared → Prop}
    (hin : k ∈ L.map (·.2) → Q (.there none) s) (hout : k ∉ L.map (·.2) → Q (.free (way t.mask (k.hash w) K) false) s) :
    ∀ (f c : Nat) (stand : Option SetTable.Probe), stand.getD (t.probeStart (k.hash w)) = pr t (k.hash w) c → c ≤ K → K - c < f →
      (∀ (i : Nat) p, L[i]? = some p → p.2 = k → ∃ c', c ≤ c' ∧ c' < K ∧ t.place.toList[i]? = some (way t.mask (k.hash w) c')) →
      wpAny (model P w) A (setSearchFrom a (.ref x) (k.hash w) true f stand) Q E s := by
  intro f
  induction f with
  | zero => intro c stand _ _ hf; omega
  | succ f ih =>
    intro c stand hst hc _ hre
    obtain ⟨o, ho, hex, hd⟩ := R.ob
    generalize hh : k.hash w = g at *
    rw [setSearchFrom_succ]
    refine wpAny_bind (wpAny_setState_of ho hd R.fits ?_)
    dsimp only
    refine wp_if_neg (no_way t R.tab.mok) ?_
    try refine wpAny_bind (wpAny_pure ?_)
    have hashAt : ∀ (i : Nat) p, L[i]? = some p → (fun i => (es[i]?.map (·.1)).getD 0) i = p.2.hash w := fun i p hp => by
      show (es[i]?.map (·.1)).getD 0 = _
      rw [rows_at R.rows hp]
      rfl
    have jj : ∀ q, (nth t.mask (pr t g c) q).j = way t.mask g (c + q) := fun q => congrArg SetTable.Probe.j (pr_add t g c q)
    have spec := go_spec t R.tab.ris R.tab.dm (fun i => (es[i]?.map (·.1)).getD 0) g (10 * SetTable.turns t.mask) (K - c) (pr t g c) (pr_dummy t g c) (by omega)
      (fun q hq => by rw [jj]; exact hKb _ (by omega)) (by rw [jj, show c + (K - c) = K by omega]; exact hK)
    have back : ∀ (i0 : Nat) (p0 : Addr × NestedKey) (c' d : Nat), (∀ (k' i' : Nat), k' < d → t.place.toList[i']? = some (nth t.mask (pr t g c) k').j → (fun (i : Nat) => (es[i]?.map (·.1)).getD 0) i' ≠ g) → L[i0]? = some p0 → p0.2 = k → c ≤ c' → t.place.toList[i0]? = some (way t.mask g c') → c + d ≤ c' := by
      intro i0 p0 c' d hno h0 hk0 h1 h3
      rcases Nat.lt_or_ge c' (c + d) with z | z
      · refine absurd ?_ (hno (c' - c) i0 (by omega) (by rw [jj, show c + (c' - c) = c' by omega]; exact h3))
        rw [hashAt i0 p0 h0, hk0, hh]
      · exact z
    rcases spec with ⟨q, i, hq, hi, _, hno, hpr⟩ | ⟨hno, hpr⟩
    · have hpr' : t.probe (fun i => (es[i]?.map (·.1)).getD 0) g (stand.getD (t.probeStart g)) = some (.candidate (way t.mask g (c + q)) i (pr t g (c + (q + 1)))) := by
        rw [hst, ← jj, ← pr_add]
        exact hpr
      rw [hpr']
      dsimp only
      rw [jj] at hi
      have hil : i < L.length := by
        have h1 : i < t.place.toList.length := (List.getElem?_eq_some_iff.mp hi).1
        have h2 := R.tab.sz
        rw [List.length_map] at h2
        rw [Array.length_toList] at h1
        omega
      obtain ⟨p, hp⟩ : ∃ p, L[i]? = some p := ⟨_, List.getElem?_eq_getElem hil⟩
      have hmem : p ∈ L := List.mem_of_getElem? hp
      have hpt := R.key p hmem
      have rest : wpAny (model P w) A (searchRest a (.ref x) g true f es t (way t.mask g (c + q)) i (pr t g (c + (q + 1)))) Q E s := by
        unfold searchRest
        rw [rows_at R.rows hp]
        dsimp only
        refine wpAny_bind (wpAny_holding ((nestedKind P w).eqBool (x := p.2) (y := k) hu hpt.nk hx.nk ?_))
        refine wpAny_bind (wpAny_setState_of ho hd R.fits ?_)
        dsimp only
        by_cases hkk : p.2 = k
        · refine wp_if_pos (by simp [hkk]) ?_
          exact wpAny_pure (hin (List.mem_map.mpr ⟨p, hmem, hkk⟩))
        · refine wp_if_neg (by simp [hkk]) ?_
          try refine wpAny_bind (wpAny_pure ?_)
          rw [same_mem]
          dsimp only
          have hsl : t.slot (way t.mask g (c + q)) = .live i := slot_live R.tab.ris hi
          simp only [if_true, hsl, rows_at R.rows hp]
          refine wpAny_bind (wpAny_isSame_ref_self (wpAny_bind (wpAny_pure ?_)))
          simp only [if_true]
          refine wp_if_neg (by simp [hkk]) ?_
          refine ih (c + (q + 1)) _ rfl (by omega) (by omega) fun i0 p0 h0 hk0 => ?_
          obtain ⟨c', a1, a2, a3⟩ := hre i0 p0 h0 hk0
          have z := back i0 p0 c' q hno h0 hk0 a1 a3
          refine ⟨c', ?_, a2, a3⟩
          rcases Nat.lt_or_ge (c + q) c' with y | y
          · omega
          · have ec : c' = c + q := by omega
            rw [ec] at a3
            have s0 := slot_live R.tab.ris a3
            rw [hsl] at s0
            injection s0 with s0
            rw [← s0, hp] at h0
            exact absurd ((congrArg Prod.snd (Option.some.inj h0)).trans hk0) hkk
      by_cases hl : t.led = true
      · refine wp_if_neg (by simp [hl]) ?_
        try refine wpAny_bind (wpAny_pure ?_)
        exact rest
      · refine wp_if_pos (by simp [hl]) ?_
        refine wpAny_bind (unseen hx (fun y hy => ?_) _ _ _ ?_)
        · obtain ⟨e, he, ee⟩ := List.mem_map.mp hy
          have he1 : e ∈ es ∧ e.1 = g := by simpa using he
          have he2 : e ∈ es.toList := by simpa using he1.1
          rw [R.rows] at he2
          obtain ⟨p2, hp2, e2⟩ := List.mem_map.mp he2
          exact ⟨p2.2, p2.1, by rw [← ee, ← e2], R.key p2 hp2⟩
        · refine wp_if_neg (by decide) ?_
          try refine wpAny_bind (wpAny_pure ?_)
          exact rest
    · have hpr' : t.probe (fun i => (es[i]?.map (·.1)).getD 0) g (stand.getD (t.probeStart g)) = some (.empty (way t.mask g K) none) := by
        have e2 : way t.mask g K = (nth t.mask (pr t g c) (K - c)).j := by rw [jj, show c + (K - c) = K by omega]
        rw [hst, e2]
        exact hpr
      rw [hpr']
      dsimp only
      refine wpAny_pure (hout fun hm => ?_)
      obtain ⟨p0, h0, hk0⟩ := List.mem_map.mp hm
      obtain ⟨i0, hi0, e0⟩ := List.getElem_of_mem h0
      have h00 : L[i0]? = some p0 := by rw [List.getElem?_eq_getElem hi0, e0]
      obtain ⟨c', a1, a2, a3⟩ := hre i0 p0 h00 hk0
      have := back i0 p0 c' (K - c) hno h00 hk0 a1 a3
      omega
theorem seek_add (R : Tb w s.heap a L es ep t) {x : Addr} {k : NestedKey} (hx : Key s.heap k x) (hu : A.units + 8 < cLine) {Q : SetFound → Shared → Prop}
    (hin : k ∈ L.map (·.2) → Q (.there none) s)
    (hout : ∀ K, k ∉ L.map (·.2) → way t.mask (k.hash w) K ∉ t.place.toList → (∀ c, c < K → way t.mask (k.hash w) c ∈ t.place.toList) → Q (.free (way t.mask (k.hash w) K) false) s) :
    wpAny (model P w) A (setSearch a (.ref x) (k.hash w) true) Q E s := by
  have hroom := R.room
  obtain ⟨K, hKf, hK, hKb⟩ := R.tab.first (by rw [List.length_map]; omega) (k.hash w)
  have hbig : K < 100000 := by
    have : 10 * SetTable.turns t.mask ≤ 1420 := by
      unfold SetTable.turns
      rcases R.tab.mok with e | e | e <;> omega
    omega
  unfold setSearch
  refine seek R hx hu hKf hK hKb hin (fun hn => hout K hn hK hKb) 100000 0 none rfl (Nat.zero_le _) (by omega) fun i p hp hk => ?_
  have hi : (L.map fun p => p.2.hash w)[i]? = some (k.hash w) := by rw [List.getElem?_map, hp, ← hk]; rfl
  have hil : i < t.place.toList.length := by
    have h1 : i < L.length := (List.getElem?_eq_some_iff.mp hp).1
    have h2 := R.tab.sz
    rw [List.length_map] at h2
    rw [Array.length_toList]
    omega
  have hj := List.getElem?_eq_getElem hil
  obtain ⟨c, hc, e⟩ := R.tab.before hK hi hj
  exact ⟨c, Nat.zero_le _, hc, by rw [hj, e]⟩
end
end NS
set_option maxHeartbeats 4000000
namespace NS
open PySem PySem.Spec PyProof.Rows L2
section
variable {P : Program} {w : World} {A : Around} {E : Value → Shared → Prop} {s : Shared} {a : Addr} {L : List (Addr × NestedKey)} {es : Array (Int × Value)} {ep : Nat} {t : SetTable}
theorem Key.besides {h h' : Heap} {k : NestedKey} {a b : Addr} {o : Obj} (hb : Key h k b) (ho : h.get? a = some o) (hd : o.data = .set es ep t) (hs : Heap.SameBut a h h') : Key h' k b := hb.keep fun c o' vs n e hv => by
  refine (hs.2 c fun z => ?_).trans e
  subst z
  obtain rfl : o' = o := Option.some.inj (e.symm.trans ho)
  rw [hd] at hv
  exact nomatch hv
theorem ordered {order : Array Nat} (hr : es.toList = L.map (row w)) (hp : order.toList.Perm (List.range L.length)) :
    ∃ L2 : List (Addr × NestedKey), (order.filterMap (es[·]?)).toList = L2.map (row w) ∧ L2.Perm L ∧ (L2.map fun p => p.2.hash w) = order.toList.map fun i => (es.map (·.1)).getD i 0 := by
  have hsz := rows_size hr
  have hlt : ∀ i ∈ order.toList, i < L.length := fun i hi => List.mem_range.mp (hp.mem_iff.mp hi)
  let d : Addr × NestedKey := (0, .none)
  have e1 : ∀ l : List Nat, (∀ i ∈ l, i < L.length) → l.filterMap (fun i => es[i]?) = (l.map fun i => L.getD i d).map (row w) ∧ (l.map fun i => L.getD i d).map (fun p => p.2.hash w) = l.map fun i => (es.map (·.1)).getD i 0 := by
    intro l
    induction l with
    | nil => intro _; exact ⟨rfl, rfl⟩
    | cons i l ih =>
      intro hl
      have hi := hl i List.mem_cons_self
      obtain ⟨h1, h2⟩ := ih fun j hj => hl j (List.mem_cons_of_mem _ hj)
      have hg : L.getD i d = L[i] := by rw [List.getD_eq_getElem?_getD, List.getElem?_eq_getElem hi]; rfl
      have he := rows_at hr (List.getElem?_eq_getElem hi)
      refine ⟨?_, ?_⟩
      · rw [List.filterMap_cons_some he, h1, List.map_cons, List.map_cons, hg]
      · rw [List.map_cons, List.map_cons, List.map_cons, h2, hg]
        congr 1
        have e5 : (es.map (·.1))[i]? = some (L[i].2.hash w) := by rw [Array.getElem?_map, he]; rfl
        simp [Array.getD_eq_getD_getElem?, e5]
  obtain ⟨h1, h2⟩ := e1 order.toList hlt
  refine ⟨order.toList.map fun i => L.getD i d, by first | (rw [Array.toList_filterMap]; exact h1) | simpa using h1, ?_, h2⟩
  have h3 : (order.toList.map fun i => L.getD i d).Perm ((List.range L.length).map fun i => L.getD i d) := hp.map _
  have h4 : (List.range L.length).map (fun i => L.getD i d) = L := by
    apply List.ext_getElem
    · simp
    · intro i h5 h6
      rw [List.getElem_map, List.getElem_range, List.getD_eq_getElem?_getD, List.getElem?_eq_getElem h6]
      rfl
  rwa [h4] at h3
theorem relay {o : Obj} (ho : s.heap.get? a = some o) (hex : o.ExactSet) (hd : o.data = .set es ep t) (hrows : es.toList = L.map (row w)) (hsz : t.place.size = es.size) (hdm : t.dummies = #[]) (hfl : es.size ≤ t.mask)
    (nd : (L.map (·.2)).Nodup) (key : ∀ p ∈ L, Key s.heap p.2 p.1) (pl : t.plain = true) (ld : w.params.followText "set-order" = true ∨ t.led = true) (few : L.length < 64) {wanted M : Nat}
    (hw : SetTable.sizeAbove wanted - 1 = M) (hM : MaskOk M) (hw2 : SetTable.sizeAbove wanted ≤ 128) (hn : L.length * 5 < M * 3) {Q : Unit → Shared → Prop}
    (hQ : ∀ h' L' es' ep' t', Heap.SameBut a s.heap h' → Tb w h' a L' es' ep' t' → L'.Perm L → Q () { s with heap := h' }) : wpAny (model P w) A (setRelay a wanted) Q E s := by
  have hsl := rows_size hrows
  obtain ⟨t', order, e, hp, T, em, el, epl, ed⟩ := relaid_ok t (hs := es.map (·.1)) (wanted := wanted) hw hM (by rw [Array.size_map, hsl]; omega)
  rw [Array.size_map, hsl] at hp
  obtain ⟨L2, r1, r2, r3⟩ := ordered hrows hp
  rw [← r3] at T
  have hs2 : (order.filterMap (es[·]?)).size = es.size := by rw [rows_size r1, r2.length_eq, hsl]
  rw [setRelay_eq]
  refine wpAny_bind (wpAny_setState_of ho hd (fits_of hdm hsz hfl) ?_)
  dsimp only
  refine wp_if_neg (by rw [sizeLine_eq]; omega) ?_
  try refine wpAny_bind (wpAny_pure ?_)
  rw [e]
  dsimp only
  refine wpAny_bind ?_
  refine wp_if_neg (by rw [hs2]; simp) ?_
  try refine wpAny_bind (wpAny_pure ?_)
  refine wpAny_pure ?_
  dsimp only
  refine wpAny_storeSet_of ho hd ?_ (by rw [hs2, hsl, sizeLine_eq]; omega)
  have sb : Heap.SameBut a s.heap (s.heap.update a (Obj.putSet (order.filterMap (es[·]?)) t')) := Heap.SameBut.update ..
  refine hQ _ L2 (order.filterMap (es[·]?)) (ep + 1) t' sb ?_ r2
  exact ⟨⟨_, store_at ho hd, ⟨hex.1, hex.2.1, hex.2.2⟩, rfl⟩, r1, T, (r2.map (·.2)).nodup_iff.mpr nd, fun p hpm => (key p (r2.mem_iff.mp hpm)).besides ho hd sb, by rw [epl]; exact pl, by rw [el]; exact ld, by rw [r2.length_eq, em]; exact hn, by rw [r2.length_eq]; exact few⟩
end
end NS
set_option maxHeartbeats 4000000
namespace NS
open PySem PySem.Spec PyProof.Rows L2
section
variable {P : Program} {w : World} {A : Around} {E : Value → Shared → Prop} {s : Shared} {a : Addr} {L : List (Addr × NestedKey)} {es : Array (Int × Value)} {ep : Nat} {t : SetTable}
theorem add_key (R : Tb w s.heap a L es ep t) {x : Addr} {k : NestedKey} (hx : Key s.heap k x) (hu : A.units + 8 < cLine) (hfew : L.length + 1 < 64) {Q : Bool → Shared → Prop}
    (hQ : ∀ b h' L' es' ep' t', Heap.SameBut a s.heap h' → Tb w h' a L' es' ep' t' → (k ∈ L.map (·.2) → L' = L) → (k ∉ L.map (·.2) → L'.Perm ((x, k) :: L)) → Q b { s with heap := h' }) :
    wpAny (model P w) A (setAddHashed a (.ref x) (k.hash w)) Q E s := by
  obtain ⟨o, ho, hex, hd⟩ := R.ob
  have hsl := rows_size R.rows
  have hroom := R.room
  unfold setAddHashed
  refine wpAny_holding ?_
  rw [show (100000 : Nat) = 99999 + 1 from rfl, setAddHashedIn_succ]
  refine wpAny_bind (wpAny_setState_of ho hd R.fits ?_)
  dsimp only
  refine wp_if_neg (by simp [byScan, Value.scannable]) ?_
  try refine wpAny_bind (wpAny_pure ?_)
  refine wpAny_bind (seek_add R hx hu (fun hm => ?_) fun K hm hK hb => ?_)
  · dsimp only
    exact wpAny_pure (hQ false s.heap L es ep t (Heap.SameBut.refl a s.heap) R (fun _ => rfl) fun z => absurd hm z)
  dsimp only
  refine wpAny_bind (wpAny_setState_of ho hd R.fits ?_)
  dsimp only
  obtain ⟨q1, q2, q3, q4, q5, q6, q7, q8, q9⟩ := R.tab.put hK hb
  have hp1 : (t.put (way t.mask (k.hash w) K)).1.plain = true := by rw [q6]; exact R.plain
  generalize hpt : t.put (way t.mask (k.hash w) K) = pt at q1 q3 q4 q5 q6 q7 q8 q9 hp1 ⊢
  obtain ⟨t1, p⟩ := pt
  dsimp only at q1 q3 q4 q5 q6 q7 q8 q9 hp1 ⊢
  subst q1
  have hash := hashed_of (P := P) (w := w) k _ 8 s hx.is hx.pl hx.dp
  first
    | (refine wpAny_bind ?_; refine wp_if_pos hp1 ?_; refine hash _ _ _ ?_)
    | refine wp_if_pos hp1 (wpAny_bind (hash _ _ _ ?_))
  simp only [if_true]
  generalize hpp : SetTable.below t.place (way t.mask (k.hash w) K) = p at q2 q3 ⊢
  have pm := put_perm L p (x, k)
  have hin : (SetTable.insertAt es p (k.hash w, Value.ref x)).toList = (L.take p ++ (x, k) :: L.drop p).map (row w) := by
    rw [SetTable.toList_insertAt, R.rows, List.map_append, List.map_cons, List.map_take, List.map_drop]
  have hlen : (L.take p ++ (x, k) :: L.drop p).length = L.length + 1 := pm.length_eq
  have hhs : (L.take p ++ (x, k) :: L.drop p).map (fun p => p.2.hash w) = (L.map fun p => p.2.hash w).take p ++ k.hash w :: (L.map fun p => p.2.hash w).drop p := by
    rw [List.map_append, List.map_cons, List.map_take, List.map_drop]
  rw [← hhs] at q3
  have nd1 : ((L.take p ++ (x, k) :: L.drop p).map (·.2)).Nodup := (pm.map (·.2)).nodup_iff.mpr (by
    rw [List.map_cons]
    exact List.nodup_cons.mpr ⟨hm, R.nd⟩)
  have hes := rows_size hin
  rw [hlen] at hes
  generalize SetTable.insertAt es p (k.hash w, Value.ref x) = es1 at hin hes ⊢
  generalize L.take p ++ (x, k) :: L.drop p = L1 at pm hlen q3 nd1 hin
  refine wpAny_bind (wpAny_storeSet_of ho hd ?_ (by rw [hes, sizeLine_eq]; omega))
  have sb : Heap.SameBut a s.heap (s.heap.update a (Obj.putSet es1 t1)) := Heap.SameBut.update ..
  have ho1 := store_at (es' := es1) (t' := t1) ho hd
  generalize s.heap.update a (Obj.putSet es1 t1) = h1 at sb ho1 ⊢
  have key1 : ∀ p ∈ L1, Key h1 p.2 p.1 := fun p hp => by
    rcases List.mem_cons.mp (pm.mem_iff.mp hp) with e | hp
    · rw [e]; exact hx.besides ho hd sb
    · exact (R.key p hp).besides ho hd sb
  have ld1 : w.params.followText "set-order" = true ∨ t1.led = true := by rw [q5]; exact R.led
  by_cases hf : t1.tooFull = true
  · first
      | (refine wpAny_bind ?_; refine wp_if_pos (by simp [hf]) ?_)
      | (refine wp_if_pos (by simp [hf]) ?_; refine wpAny_bind ?_)
    have hfull : (L.length + 1) * 5 ≥ t1.mask * 3 := by
      have h := hf
      unfold SetTable.tooFull at h
      rw [decide_eq_true_eq, q9, List.length_map] at h
      exact h
    rw [hsl]
    have hsz1 : t1.place.size = es1.size := by
      have h := q3.sz
      rw [List.length_map, hlen] at h
      rw [h, hes]
    have two : (t.mask = 7 ∧ L.length = 4) ∨ (t.mask = 31 ∧ L.length = 18) := by
      rcases R.tab.mok with e | e | e
      · left; rw [q4, e] at hfull; rw [e] at hroom; exact ⟨e, by omega⟩
      · right; rw [q4, e] at hfull; rw [e] at hroom; exact ⟨e, by omega⟩
      · exfalso; rw [q4, e] at hfull; omega
    have go : ∀ M, SetTable.sizeAbove (SetTable.grown (L.length + 1)) - 1 = M → MaskOk M → SetTable.sizeAbove (SetTable.grown (L.length + 1)) ≤ 128 → (L.length + 1) * 5 < M * 3 →
        wpAny (model P w) A (setRelay a (SetTable.grown (L.length + 1))) (fun _ s' => wpAny (model P w) A (pure true) Q E s') E { s with heap := h1 } := fun M h1' h2' h3' h4' => by
      refine relay (s := { s with heap := h1 }) ho1 ⟨hex.1, hex.2.1, hex.2.2⟩ rfl hin hsz1 q3.dm (by rw [hes, q4]; rcases two with ⟨e, e2⟩ | ⟨e, e2⟩ <;> omega) nd1 key1 hp1 ld1 (by rw [hlen]; exact hfew) h1' h2' h3' (by rw [hlen]; exact h4') ?_
      intro h2 L2 es2 ep2 t2 sb2 R2 pm2
      exact wpAny_pure (hQ true h2 L2 es2 ep2 t2 (sb.trans sb2) R2 (fun z => absurd z hm) fun _ => pm2.trans pm)
    rcases two with ⟨_, e2⟩ | ⟨_, e2⟩
    · exact go 31 (by rw [e2, size_20]) (.inr (.inl rfl)) (by rw [e2, size_20]; decide) (by omega)
    · exact go 127 (by rw [e2, size_76]) (.inr (.inr rfl)) (by rw [e2, size_76]; decide) (by omega)
  · first
      | refine wp_if_neg (by simp [hf]) ?_
      | (refine wpAny_bind ?_; refine wp_if_neg (by simp [hf]) ?_; refine wpAny_pure ?_)
    refine wpAny_pure (hQ true h1 L1 es1 (ep + 1) t1 sb ⟨⟨_, ho1, ⟨hex.1, hex.2.1, hex.2.2⟩, rfl⟩, hin, q3, nd1, key1, hp1, ld1, ?_, by rw [hlen]; exact hfew⟩ (fun z => absurd z hm) fun _ => pm)
    have h := hf
    unfold SetTable.tooFull at h
    rw [decide_eq_true_eq, q9, List.length_map] at h
    rw [hlen]
    omega
end
end NS
set_option maxHeartbeats 4000000
namespace NS
open PySem PySem.Spec PyProof.Rows L2
structure In (ks : List (Addr × NestedKey)) (i : Nat) (L : List (Addr × NestedKey)) : Prop where
  sub : ∀ p ∈ L, p ∈ ks.take i
  all : ∀ p ∈ ks.take i, p.2 ∈ L.map (·.2)
  len : L.length ≤ i
theorem In.zero (ks : List (Addr × NestedKey)) : In ks 0 [] := ⟨fun p h => (by cases h), fun p h => (by simp at h), Nat.le_refl _⟩
theorem In.next {ks L L' : List (Addr × NestedKey)} {i : Nat} {x : Addr × NestedKey} (g : In ks i L) (h : ks[i]? = some x) (h1 : x.2 ∈ L.map (·.2) → L' = L) (h2 : x.2 ∉ L.map (·.2) → L'.Perm (x :: L)) : In ks (i + 1) L' := by
  have e : ks.take (i + 1) = ks.take i ++ [x] := by rw [List.take_succ, h]; rfl
  by_cases hm : x.2 ∈ L.map (·.2)
  · rw [h1 hm]
    refine ⟨fun p hp => by rw [e]; exact List.mem_append_left _ (g.sub p hp), fun p hp => ?_, Nat.le_succ_of_le g.len⟩
    rw [e] at hp
    rcases List.mem_append.mp hp with z | z
    · exact g.all p z
    · rw [List.mem_singleton.mp z]; exact hm
  · have pm := h2 hm
    refine ⟨fun p hp => ?_, fun p hp => ?_, by rw [pm.length_eq, List.length_cons]; exact Nat.succ_le_succ g.len⟩
    · rw [e]
      rcases List.mem_cons.mp (pm.mem_iff.mp hp) with z | z
      · rw [z]; simp
      · exact List.mem_append_left _ (g.sub p z)
    · rw [(pm.map (·.2)).mem_iff, List.map_cons]
      rw [e] at hp
      rcases List.mem_append.mp hp with z | z
      · exact List.mem_cons_of_mem _ (g.all p z)
      · rw [List.mem_singleton.mp z]; exact List.mem_cons_self
section
variable {P : Program} {w : World} {A : Around} {E : Value → Shared → Prop} {s : Shared}
theorem Key.grow {h h' : Heap} {k : NestedKey} {b : Addr} (x : Key h k b) (hk : ∀ c o, h.get? c = some o → h'.get? c = some o) : Key h' k b := x.keep fun c o _ _ e _ => hk c o e
theorem Tb.move {h h' : Heap} {a : Addr} {L : List (Addr × NestedKey)} {es : Array (Int × Value)} {ep : Nat} {t : SetTable} (R : Tb w h a L es ep t) (ha : ∀ o, h.get? a = some o → h'.get? a = some o) (ht : ∀ p ∈ L, Key h' p.2 p.1) : Tb w h' a L es ep t := by
  obtain ⟨o, ho, r⟩ := R.ob
  exact ⟨⟨o, ha o ho, r⟩, R.rows, R.tab, R.nd, ht, R.plain, R.led, R.room, R.few⟩
theorem Tb.new {h : Heap} {a : Addr} (ho : h.get? a = some { cls := .type "set", dict := none, data := .set #[] 0 (.fresh 0 0 (!w.params.followText "set-order")) }) : Tb w h a [] #[] 0 (.fresh 0 0 (!w.params.followText "set-order")) where
  ob := ⟨_, ho, ⟨rfl, rfl, rfl⟩, rfl⟩
  rows := rfl
  tab := ⟨List.Pairwise.nil, rfl, rfl, .inl rfl, fun x hx => (by cases hx), fun i h j hi => (by simp at hi)⟩
  nd := List.nodup_nil
  key := fun p hp => (by cases hp)
  plain := rfl
  led := by
    show _ ∨ (!w.params.followText "set-order") = true
    cases w.params.followText "set-order"
    · exact .inr rfl
    · exact .inl rfl
  room := by show 0 * 5 < 7 * 3; decide
  few := by show 0 < 64; decide
theorem update_keys {I : Addr} {fp wr : List Addr} {G : Array GenState → Array GenState → Prop} {n : Nat} {Pv : Nat → Value → Prop} {St : Nat → Shared → Prop} {R : Result → Shared → Prop}
    (W : WalksS P w A.in1 I fp wr G n Pv St) (S : Addr) (hSf : S ∉ fp) (ks : List (Addr × NestedKey)) (hn : n = ks.length) (hfew : ks.length < 64) (hval : ∀ i v, Pv i v → ∃ p, ks[i]? = some p ∧ v = .ref p.1)
    (h0 : Heap) (hk : ∀ p ∈ ks, Key h0 p.2 p.1) (hS0 : h0.get? S = none) (hw0 : ∀ b ∈ wr, h0.get? b = none) (hu : A.in1.units + 8 < cLine) :
    ∀ (k i : Nat) (s : Shared), n - i = k → i ≤ n → St i s → (∀ b o, h0.get? b = some o → s.heap.get? b = some o) → (∃ L es ep t, Tb w s.heap S L es ep t ∧ In ks i L) →
      (∀ s' L es ep t, Moved (S :: wr) G s s' → Tb w s'.heap S L es ep t → In ks n L → (∀ b o, h0.get? b = some o → s'.heap.get? b = some o) → R (.ok (.ret .none)) s') →
      codeAny (model P w) A (.builtin "set.update.loop" ⟨[.ref S, .ref I], []⟩) R s := by
  have hSw : S ∉ wr := fun h => hSf (W.sub _ h)
  have hsub : ∀ b ∈ wr, b ∈ S :: wr := fun b hb => List.mem_cons_of_mem _ hb
  have onward : ∀ {s s' : Shared}, Moved wr G s s' → (∀ b o, h0.get? b = some o → s.heap.get? b = some o) → ∀ b o, h0.get? b = some o → s'.heap.get? b = some o := fun hm hkp b o e =>
    hm.heap b o (fun hb => by rw [hw0 b hb] at e; cases e) (hkp b o e)
  intro k
  induction k with
  | zero =>
    intro i s hk' hi hst hkp ⟨L, es, ep, t, hS, g⟩ hR
    obtain rfl : i = n := by omega
    refine codeAny_builtin F.entry_set_update_loop ?_
    rw [Around.under_plainId F.plain_set_update_loop _]
    show wpAny _ A.in1 (pyNext (.ref I) >>= _) _ _ s
    refine wpAny_bind (W.done s _ _ hst fun s' hm => ?_)
    show wpAny _ A.in1 (ret Value.none) _ _ s'
    have hkp' := onward hm hkp
    exact wpAny_pure (hR s' L es ep t (hm.mono hsub) (hS.move (fun o e => hm.heap S o hSw e) fun p hp => (hk p (List.mem_of_mem_take (g.sub p hp))).grow hkp') g hkp')
  | succ k ih =>
    intro i s hk' hi hst hkp ⟨L, es, ep, t, hS, g⟩ hR
    have hlt : i < n := by omega
    refine codeAny_builtin F.entry_set_update_loop ?_
    rw [Around.under_plainId F.plain_set_update_loop _]
    show wpAny _ A.in1 (pyNext (.ref I) >>= _) _ _ s
    refine wpAny_bind (W.item i s _ _ hlt hst fun v s' hP hst' hm => ?_)
    obtain ⟨p, hp, rfl⟩ := hval i v hP
    have hkp' := onward hm hkp
    have hS' : Tb w s'.heap S L es ep t := hS.move (fun o e => hm.heap S o hSw e) fun q hq => (hk q (List.mem_of_mem_take (g.sub q hq))).grow hkp'
    have hx : Key s'.heap p.2 p.1 := (hk p (List.mem_of_getElem? hp)).grow hkp'
    show wpAny _ A.in1 (holding [Value.ref p.1] (setAdd S (.ref p.1)) >>= _) _ _ s'
    refine wpAny_bind (wpAny_holding ?_)
    unfold setAdd
    refine wpAny_holding ?_
    refine wpAny_bind ((nestedKind P w).pyHash hu hx.nk ?_)
    refine add_key (s := { s' with toks := s'.toks + p.2.draws }) hS' hx hu (by have := g.len; omega) fun b h' L' es' ep' t' hsb hS2 c1 c2 => ?_
    have hkp2 : ∀ b o, h0.get? b = some o → h'.get? b = some o := fun b o e => (hsb.2 b (fun z => by rw [z, hS0] at e; cases e)).trans (hkp' b o e)
    refine wpAny_pure ⟨plainId_quiet F.plain_set_update_loop _, ih (i + 1) _ (by omega) hlt (W.frame _ s' _ _ hst' (Nat.le_add_right _ _) fun b hb o e => ?_) hkp2 ⟨L', es', ep', t', hS2, g.next hp c1 c2⟩ fun s'' L2 es2 ep2 t2 hm'' hS'' g'' hkp'' => ?_⟩
    · rw [hsb.2 b (fun h : b = S => hSf (by rw [← h]; exact hb))]; exact e
    · refine hR s'' L2 es2 ep2 t2 (Moved.trans W.gtrans ((hm.mono hsub).then_heap (Nat.le_add_right _ _) fun b o hb e => ?_) hm'') hS'' g'' hkp''
      rw [hsb.2 b (fun h : b = S => hb (by rw [h]; exact List.mem_cons_self))]; exact e
end
end NS
set_option maxHeartbeats 4000000
namespace NS
open PySem PySem.Spec PyProof.Rows L2
section
variable {P : Program} {w : World} {A : Around} {E : Value → Shared → Prop} {s : Shared}
set_option maxHeartbeats 3200000 in
theorem set_new {cn : String} {l : Addr} {odict : Option Addr} {odata : Data} {oslots : Array (Option Value)} {Q : Value → Shared → Prop} (RR : Shared → Prop) (hl : s.heap.get? l = some { cls := .type cn, dict := odict, data := odata, slots := oslots })
    (hsls : isSubtype (.type cn) (.type "set") = pure false) (hslf : isSubtype (.type cn) (.type "frozenset") = pure false) (hne : (Value.type cn == Value.type "dict") = false)
    (hfill : wpAny (model P w) A.in1.in1 (pyIter (.ref l)) (fun a s' => wpAny (model P w) A.in1.in1 (runValue (.builtin "set.update.loop" ⟨[.ref s.heap.objs.size, a], []⟩)) (fun _ s'' => RR s'') E s') E
      { s with heap := s.heap.push { cls := .type "set", dict := none, data := .set #[] 0 (.fresh 0 0 (!w.params.followText "set-order")) } })
    (hQ : ∀ s', RR s' → Q (.ref s.heap.objs.size) s') : wpAny (model P w) A (call (.type "set") [.ref l]) Q E s := by
  let S := s.heap.objs.size
  let so : Obj := { cls := .type "set", dict := none, data := .set #[] 0 (.fresh 0 0 (!w.params.followText "set-order")) }
  obtain ⟨c, tl, hmro⟩ := F.called_set.mro
  have hmade := F.called_set.made
  have hsub := F.called_set.sub
  refine wpAny_call (codeAny_of_tree ?_)
  show wpAny _ _ (callAny (.type "set") _) _ _ _
  refine wpAny_pure ⟨Code.quiet_builtin _ (by decide +kernel), codeAny_builtin F.entry_type_call ?_⟩
  rw [Around.under_plain (weight_type_call_type "set" [.ref l] []) rfl]
  have h1 := F.called_set.notType
  have h2 := F.called_set.canCreate
  have hct := F.typeCall_set_1 (.ref l)
  repeat (any_goals (first | assumption | wp_step))
  refine codeAny_mono (code_set_led1 (.ref l) (E := E) (Q₁ := fun obj s₁ => obj = .ref S ∧ s₁ = { s with heap := s.heap.push so }) ⟨rfl, rfl⟩) fun r s₁ hr => ?_
  cases r with
  | error e => exact hr
  | ok fl =>
    cases fl with
    | ret obj =>
      obtain ⟨rfl, rfl⟩ := hr
      have hS : (s.heap.push so).get? S = some so := Heap.get?_push_size _ rfl
      have hT : Shared.TypeIs { s with heap := s.heap.push so } (.ref S) "set" := ⟨_, hS, rfl⟩
      have hli := F.called_set.init.lookup
      have hbi := F.called_set.init.bind (.ref S)
      repeat (any_goals (first | assumption | wp_step))
      refine codeAny_mono (codeAny_call_builtin (R := wants (fun r s₂ => r = .none ∧ RR s₂) E) F.called_set.init.plain F.entry_set_init (check_set_init_1 hT ?_)) fun r₂ s₂ hr₂ => ?_
      · have hol' : (s.heap.push so).get? l = some { cls := .type cn, dict := odict, data := odata, slots := oslots } := Heap.get?_push_of_some _ hl
        unfold Builtin.«set.__init__» noKeywords Builtin.Frozenset.updateFrom
        generalize pyIter = PI at hfill ⊢
        wp_walk
        refine wpAny_mono hfill (fun a s' h => ?_) fun e s' h => h
        refine wpAny_bind (wpAny_mono h (fun _ s'' h2 => ?_) fun e s'' h2 => h2)
        refine wpAny_pure ?_
        show wpAny _ _ (ret Value.none) _ _ _
        exact wpAny_pure ⟨rfl, h2⟩
      · cases r₂ with
        | error e => exact hr₂
        | ok fl₂ =>
          cases fl₂ with
          | ret r =>
            obtain ⟨rfl, hr₂⟩ := hr₂
            repeat (any_goals (first | assumption | wp_step))
            exact hQ _ hr₂
          | _ => exact hr₂.elim
    | _ => exact hr.elim
theorem set_tup {l : Addr} {items : Array Value} (ks : List (Addr × NestedKey)) {Q : Value → Shared → Prop} (hh : A.handled = none) (hl : s.heap.IsTuple l items) (hit : items.toList = ks.map fun p => Value.ref p.1)
    (hk : ∀ p ∈ ks, Key s.heap p.2 p.1) (hfew : ks.length < 64) (hu : A.units + 16 < cLine)
    (h : ∀ (h' : Heap) (tk : Nat) L es ep t, Tb w h' s.heap.objs.size L es ep t → In ks ks.length L → (∀ b o, s.heap.get? b = some o → h'.get? b = some o) → Q (.ref s.heap.objs.size) { s with heap := h', toks := tk }) :
    wpAny (model P w) A (call (.type "set") [.ref l]) Q E s := by
  have hisz : items.size = ks.length := by
    have q := congrArg List.length hit
    rwa [Array.length_toList, List.length_map] at q
  obtain ⟨ol, hol, hcl, nl, hdl⟩ := hl
  obtain ⟨ocls, odict, odata, oslots⟩ := ol
  simp only at hcl hdl
  subst hcl; subst hdl
  have hS := Heap.get?_push_size s.heap (o := { cls := .type "set", dict := none, data := .set #[] 0 (.fresh 0 0 (!w.params.followText "set-order")) }) rfl
  have hl1 : (s.heap.push { cls := .type "set", dict := none, data := .set #[] 0 (.fresh 0 0 (!w.params.followText "set-order")) }).IsTuple l items := ⟨_, Heap.get?_push_of_some _ hol, rfl, nl, rfl⟩
  have hlS : l < s.heap.objs.size := Heap.lt_size hol
  have hh3 : A.in1.in1.in1.handled = none := by simp [hh]
  have hz : (s.heap.push { cls := .type "set", dict := none, data := .set #[] 0 (.fresh 0 0 (!w.params.followText "set-order")) }).objs.size = s.heap.objs.size + 1 := Heap.size_push ..
  have hneI : l ≠ (s.heap.push { cls := .type "set", dict := none, data := .set #[] 0 (.fresh 0 0 (!w.params.followText "set-order")) }).objs.size := by rw [hz]; exact Nat.ne_of_lt (Nat.lt_succ_of_lt hlS)
  have hSf : s.heap.objs.size ∉ [(s.heap.push { cls := .type "set", dict := none, data := .set #[] 0 (.fresh 0 0 (!w.params.followText "set-order")) }).objs.size, l] := by
    rw [hz]; simp only [List.mem_cons, List.mem_singleton, List.not_mem_nil, or_false, not_or]
    exact ⟨Nat.ne_of_lt (Nat.lt_succ_self _), Nat.ne_of_gt hlS⟩
  have hval : ∀ (i : Nat) (v : Value), items[i]? = some v → ∃ p, ks[i]? = some p ∧ v = .ref p.1 := fun i v hv => by
    have q : items.toList[i]? = some v := by rw [Array.getElem?_toList]; exact hv
    rw [hit, List.getElem?_map] at q
    cases hq : ks[i]? with
    | none => rw [hq] at q; cases q
    | some p =>
      rw [hq] at q
      exact ⟨p, rfl, (Option.some.inj q).symm⟩
  have none_of : ∀ b, s.heap.objs.size ≤ b → s.heap.get? b = none := fun b hb => by
    cases q : s.heap.get? b with
    | none => rfl
    | some o => exact absurd (Nat.lt_of_lt_of_le (Heap.lt_size q) hb) (Nat.lt_irrefl _)
  refine set_new (RR := fun s₂ => ∃ h' tk L es ep t, s₂ = { s with heap := h', toks := tk } ∧ Tb w h' s.heap.objs.size L es ep t ∧ In ks ks.length L ∧ (∀ b o, s.heap.get? b = some o → h'.get? b = some o)) hol F.sub_tuple_set F.sub_tuple_frozenset (by decide) (wpAny_pyIter_tuple hl1 ?_) ?_
  · refine wpAny_runValue ?_
    refine update_keys ((Walks.tuple hh3 _ l hneI items).toS) s.heap.objs.size hSf ks hisz hfew hval s.heap hk (none_of _ (Nat.le_refl _)) (fun b hb => none_of b (by
        rw [List.mem_singleton.mp hb, hz]
        exact Nat.le_succ _)) (by show A.units + 1 + 1 + 1 + 8 < cLine; omega) (items.size - 0) 0 _ (by omega) (Nat.zero_le _)
      ⟨⟨_, Heap.get?_push_size _ rfl, rfl, rfl⟩, (hl1.push _)⟩ (fun b o e => Heap.get?_push_of_some _ (Heap.get?_push_of_some _ e)) ?hS0 ?hR
    case hS0 => exact ⟨[], #[], 0, _, Tb.new (Heap.get?_push_of_some _ hS), In.zero ks⟩
    case hR =>
      intro s' L es ep t hm hS' g' hkp
      obtain ⟨h', g2, d', tk', os'⟩ := s'
      obtain rfl : g2 = s.gens := hm.gens
      obtain rfl : d' = s.drawn := hm.drawn
      obtain rfl : os' = s.os := hm.os
      rw [hisz] at g'
      exact ⟨h', tk', L, es, ep, t, rfl, hS', g', hkp⟩
  · rintro _ ⟨h', tk, L, es, ep, t, rfl, R, g, k⟩
    exact h _ _ _ _ _ _ R g k
theorem set_lst {l : Addr} {items : Array Value} (ks : List (Addr × NestedKey)) {Q : Value → Shared → Prop} (hh : A.handled = none) (hl : s.heap.IsList l items) (hit : items.toList = ks.map fun p => Value.ref p.1)
    (hk : ∀ p ∈ ks, Key s.heap p.2 p.1) (hfew : ks.length < 64) (hu : A.units + 16 < cLine)
    (h : ∀ (h' : Heap) (tk : Nat) L es ep t, Tb w h' s.heap.objs.size L es ep t → In ks ks.length L → (∀ b o, s.heap.get? b = some o → h'.get? b = some o) → Q (.ref s.heap.objs.size) { s with heap := h', toks := tk }) :
    wpAny (model P w) A (call (.type "set") [.ref l]) Q E s := by
  have hisz : items.size = ks.length := by
    have q := congrArg List.length hit
    rwa [Array.length_toList, List.length_map] at q
  obtain ⟨ol, hol, hcl, nl, hdl⟩ := hl
  obtain ⟨ocls, odict, odata, oslots⟩ := ol
  simp only at hcl hdl
  subst hcl; subst hdl
  have hS := Heap.get?_push_size s.heap (o := { cls := .type "set", dict := none, data := .set #[] 0 (.fresh 0 0 (!w.params.followText "set-order")) }) rfl
  have hl1 : (s.heap.push { cls := .type "set", dict := none, data := .set #[] 0 (.fresh 0 0 (!w.params.followText "set-order")) }).IsList l items := ⟨_, Heap.get?_push_of_some _ hol, rfl, nl, rfl⟩
  have hlS : l < s.heap.objs.size := Heap.lt_size hol
  have hh3 : A.in1.in1.in1.handled = none := by simp [hh]
  have hz : (s.heap.push { cls := .type "set", dict := none, data := .set #[] 0 (.fresh 0 0 (!w.params.followText "set-order")) }).objs.size = s.heap.objs.size + 1 := Heap.size_push ..
  have hneI : l ≠ (s.heap.push { cls := .type "set", dict := none, data := .set #[] 0 (.fresh 0 0 (!w.params.followText "set-order")) }).objs.size := by rw [hz]; exact Nat.ne_of_lt (Nat.lt_succ_of_lt hlS)
  have hSf : s.heap.objs.size ∉ [(s.heap.push { cls := .type "set", dict := none, data := .set #[] 0 (.fresh 0 0 (!w.params.followText "set-order")) }).objs.size, l] := by
    rw [hz]; simp only [List.mem_cons, List.mem_singleton, List.not_mem_nil, or_false, not_or]
    exact ⟨Nat.ne_of_lt (Nat.lt_succ_self _), Nat.ne_of_gt hlS⟩
  have hval : ∀ (i : Nat) (v : Value), items[i]? = some v → ∃ p, ks[i]? = some p ∧ v = .ref p.1 := fun i v hv => by
    have q : items.toList[i]? = some v := by rw [Array.getElem?_toList]; exact hv
    rw [hit, List.getElem?_map] at q
    cases hq : ks[i]? with
    | none => rw [hq] at q; cases q
    | some p =>
      rw [hq] at q
      exact ⟨p, rfl, (Option.some.inj q).symm⟩
  have none_of : ∀ b, s.heap.objs.size ≤ b → s.heap.get? b = none := fun b hb => by
    cases q : s.heap.get? b with
    | none => rfl
    | some o => exact absurd (Nat.lt_of_lt_of_le (Heap.lt_size q) hb) (Nat.lt_irrefl _)
  refine set_new (RR := fun s₂ => ∃ h' tk L es ep t, s₂ = { s with heap := h', toks := tk } ∧ Tb w h' s.heap.objs.size L es ep t ∧ In ks ks.length L ∧ (∀ b o, s.heap.get? b = some o → h'.get? b = some o)) hol F.sub_list_set F.sub_list_frozenset (by decide) (wpAny_pyIter_list hl1 ?_) ?_
  · refine wpAny_runValue ?_
    refine update_keys ((Walks.list hh3 _ l hneI items).toS) s.heap.objs.size hSf ks hisz hfew hval s.heap hk (none_of _ (Nat.le_refl _)) (fun b hb => none_of b (by
        rw [List.mem_singleton.mp hb, hz]
        exact Nat.le_succ _)) (by show A.units + 1 + 1 + 1 + 8 < cLine; omega) (items.size - 0) 0 _ (by omega) (Nat.zero_le _)
      ⟨⟨_, Heap.get?_push_size _ rfl, rfl, rfl⟩, (hl1.push _)⟩ (fun b o e => Heap.get?_push_of_some _ (Heap.get?_push_of_some _ e)) ?hS0 ?hR
    case hS0 => exact ⟨[], #[], 0, _, Tb.new (Heap.get?_push_of_some _ hS), In.zero ks⟩
    case hR =>
      intro s' L es ep t hm hS' g' hkp
      obtain ⟨h', g2, d', tk', os'⟩ := s'
      obtain rfl : g2 = s.gens := hm.gens
      obtain rfl : d' = s.drawn := hm.drawn
      obtain rfl : os' = s.os := hm.os
      rw [hisz] at g'
      exact ⟨h', tk', L, es, ep, t, rfl, hS', g', hkp⟩
  · rintro _ ⟨h', tk, L, es, ep, t, rfl, R, g, k⟩
    exact h _ _ _ _ _ _ R g k
end
end NS
set_option maxHeartbeats 2000000
namespace TK
open PySem L2 NdefX LamX
open PyProof.Rows (seqObj size_push')
variable [TC]
structure S0 (w : World) (h : Heap) (a : Addr) (L : List (Addr × NestedKey)) : Prop where
  ex : ∃ (es : Array (Int × Value)) (ep : Nat) (t : SetTable), (∃ o, h.get? a = some o ∧ o.ExactSet ∧ o.data = .set es ep t) ∧ es.toList = L.map (NS.row w) ∧ TabOk t (L.map fun p => p.2.hash w) ∧ (L.map (·.2)).Nodup ∧ t.plain = true ∧
    (w.params.followText "set-order" = true ∨ t.led = true) ∧ L.length * 5 < t.mask * 3 ∧ L.length < 64
def nsO (w : World) (a : Addr) (L : List (Addr × NestedKey)) : HO := .ext fun h => S0 w h a L
theorem S0.of {w : World} {h : Heap} {a : Addr} {L : List (Addr × NestedKey)} {es : Array (Int × Value)} {ep : Nat} {t : SetTable} (R : NS.Tb w h a L es ep t) : S0 w h a L :=
  ⟨es, ep, t, R.ob, R.rows, R.tab, R.nd, R.plain, R.led, R.room, R.few⟩
theorem nsO_new {P : Program} {w : World} {H : Hp} {h : Heap} {a : Addr} {L : List (Addr × NestedKey)} (R : S0 w h a L) : ObjOk P w H h a (nsO w a L) := by
  have ⟨es, ep, t, ⟨o, ho, r⟩, q⟩ := R.ex
  refine ⟨R, ⟨o, ho⟩, fun h1 h2 p k => ?_⟩
  have ⟨es', ep', t', ⟨o', ho', r'⟩, q'⟩ := S0.ex p
  exact ⟨es', ep', t', ⟨o', k o' ho', r'⟩, q'⟩
def kf (x : D × Addr) : Addr × NestedKey := (x.2, x.1.nk)
theorem kf_keys (M : List (D × Addr)) : (M.map kf).map (·.2) = M.map fun x => x.1.nk := by rw [List.map_map]; rfl
theorem kf_pick {kas : List (D × Addr)} : ∀ {L : List (Addr × NestedKey)}, (∀ p ∈ L, p ∈ kas.map kf) → ∃ M : List (D × Addr), L = M.map kf ∧ ∀ x ∈ M, x ∈ kas
  | [], _ => ⟨[], rfl, fun x hx => by cases hx⟩
  | p :: L, h => by
    obtain ⟨x, hx, e⟩ := List.mem_map.mp (h p List.mem_cons_self)
    obtain ⟨M, e1, h1⟩ := kf_pick fun q hq => h q (List.mem_cons_of_mem _ hq)
    refine ⟨x :: M, by rw [List.map_cons, e, e1], fun y hy => ?_⟩
    rcases List.mem_cons.mp hy with z | z
    · rw [z]; exact hx
    · exact h1 y z
def NsOk (H : Hp) (kas : List (D × Addr)) : Prop := ∀ x ∈ kas, Rp H (.ref x.2) x.1 ∧ x.1.nk.depth ≤ 8 ∧ NS.plain x.1.nk = true
theorem NsOk.mono {H H' : Hp} (k : TK H H') {kas : List (D × Addr)} (h : NsOk H kas) : NsOk H' kas := fun x hx => ⟨(h x hx).1.mono k, (h x hx).2⟩
theorem refs_of : ∀ {kas : List (D × Addr)} {us : List Value}, Vals (kas.map fun x => V.ref x.2) us → us = kas.map fun x => Value.ref x.2
  | [], _, .nil => rfl
  | p :: ks, _, .cons r t => by
    cases r
    rw [refs_of t] <;> rfl
def rSetD (K : PySem.W.Frag) (w : World) : List V → Hp → VK → Prop := fun xs H Q => ∃ (l : Addr) (kas : List (D × Addr)), xs = [V.ref l] ∧ (SqT K H l (kas.map fun x => V.ref x.2) ∨ SqL K H l (kas.map fun x => V.ref x.2)) ∧ NsOk H kas ∧ kas.length < 64 ∧
  ∀ (a : Addr) (M : List (D × Addr)), H a = none → (∀ x ∈ M, x ∈ kas) → (∀ x ∈ kas, x.1.nk ∈ M.map fun x => x.1.nk) → (M.map fun x => x.1.nk).Nodup → M.length < 64 → Q (.ref a) (upd H a (nsO w a (M.map kf)))
theorem cr_setD {X : Cx} (hc : X.calm = true) (hu : X.A.units + 64 < cLine) : CallR X (.type "set") (rSetD X.K X.w) := by
  intro pins s σ H xs us Q I r h
  obtain ⟨l, kas, rfl, hl, hk, hf, q⟩ := h
  rw [Vals.ref1 r]
  have hn : H s.heap.objs.size = none := I.hok.fresh (Nat.le_refl _)
  have hkey : ∀ p ∈ kas.map kf, NS.Key s.heap p.2 p.1 := fun p hp => by
    obtain ⟨x, hx, rfl⟩ := List.mem_map.mp hp
    obtain ⟨h1, h2, h3⟩ := hk x hx
    exact ⟨nested_of I h1 rfl, h2, h3⟩
  have fin : ∀ (h' : Heap) (tk : Nat) (L : List (Addr × NestedKey)) (es : Array (Int × Value)) (ep : Nat) (t : SetTable), NS.Tb X.w h' s.heap.objs.size L es ep t → NS.In (kas.map kf) (kas.map kf).length L → (∀ b o, s.heap.get? b = some o → h'.get? b = some o) →
      ∃ (x : V) (H' : Hp), L2.Inv X pins σ H' { s with heap := h', toks := tk } ∧ RelV x (.ref s.heap.objs.size) ∧ Q x H' := by
    intro h' tk L es ep t R g k
    obtain ⟨M, rfl, hM⟩ := kf_pick (kas := kas) fun p hp => List.mem_of_mem_take (g.sub p hp)
    refine ⟨.ref s.heap.objs.size, upd H s.heap.objs.size (nsO X.w s.heap.objs.size (M.map kf)), I.laid (t' := tk) k (Nat.le_refl _) (nsO_new (S0.of R)), rfl, q _ M hn hM (fun x hx => ?_) ?_ ?_⟩
    · have := g.all (kf x) (by rw [List.take_length]; exact List.mem_map.mpr ⟨x, hx, rfl⟩)
      rwa [kf_keys] at this
    · rw [← kf_keys]; exact R.nd
    · have := R.few; rwa [List.length_map] at this
  rcases hl with hl | hl
  · obtain ⟨its, rv, hT, _⟩ := I.tuple hl
    refine NS.set_tup (P := X.prog) (w := X.w) (kas.map kf) (I.ok.hd hc) hT (by rw [List.map_map]; exact refs_of rv) hkey (by rw [List.length_map]; exact hf) (by omega) fun h' tk L es ep t R g k => fin h' tk L es ep t R g k
  · obtain ⟨its, rv, pl, _⟩ := I.list hl
    refine NS.set_lst (P := X.prog) (w := X.w) (kas.map kf) (I.ok.hd hc) pl.isList (by rw [List.map_map]; exact refs_of rv) hkey (by rw [List.length_map]; exact hf) (by omega) fun h' tk L es ep t R g k => fin h' tk L es ep t R g k
def zsM (M : List (D × Addr)) : List (V × D) := M.map fun x => (V.ref x.2, x.1)
theorem each_zs : ∀ l : List (D × Addr), PySem.W.EachIs (fun u (z : V × D) => RelV z.1 u) (l.map fun x => Value.ref x.2) (zsM l)
  | [] => .nil
  | x :: l => .cons rfl (each_zs l)
def rSrtS (w : World) : List V → Hp → VK → Prop := fun vs H Q => ∃ (a : Addr) (kas : List (D × Addr)), vs = [V.ref a] ∧ H a = some (nsO w a (kas.map kf)) ∧ NsOk H kas ∧ DLike (kas.map (·.1)) ∧ DSort (kas.map (·.1)) ∧ (∀ z ∈ kas, z.1.py.depth ≤ 60) ∧
  ∀ (M : List (D × Addr)) p, M.Perm kas → H p = none → Q (.ref p) (upd H p (.lst (((zsM M).mergeSort leZ).map (·.1))))
theorem perm_kas {kas : List (D × Addr)} : ∀ {vs : List Value}, vs.Perm (kas.map fun x => Value.ref x.2) → ∃ M : List (D × Addr), vs = M.map (fun x => Value.ref x.2) ∧ M.Perm kas := by
  suffices h : ∀ (vs ws : List Value), vs.Perm ws → ∀ kas : List (D × Addr), ws = (kas.map fun x => Value.ref x.2) → ∃ M : List (D × Addr), vs = M.map (fun x => Value.ref x.2) ∧ M.Perm kas from fun {vs} pm => h vs _ pm kas rfl
  intro vs ws pm
  induction pm with
  | nil => exact fun kas e => ⟨[], rfl, by cases kas with
    | nil => exact .refl _
    | cons _ _ => cases e⟩
  | cons x _ ih =>
    intro kas e
    cases kas with
    | nil => cases e
    | cons y kas =>
      rw [List.map_cons, List.cons.injEq] at e
      obtain ⟨M, e1, p1⟩ := ih kas e.2
      exact ⟨y :: M, by rw [List.map_cons, e1, e.1], p1.cons y⟩
  | swap x y l =>
    intro kas e
    match kas, e with
    | [], e => cases e
    | [_], e => cases e
    | a :: b :: kas, e =>
      rw [List.map_cons, List.map_cons, List.cons.injEq, List.cons.injEq] at e
      exact ⟨b :: a :: kas, by rw [List.map_cons, List.map_cons, e.1, e.2.1, e.2.2], List.Perm.swap a b kas⟩
  | trans _ _ ih1 ih2 =>
    intro kas e
    obtain ⟨M, e1, p1⟩ := ih2 kas e
    obtain ⟨M', e2, p2⟩ := ih1 M e1
    exact ⟨M', e2, p2.trans p1⟩
theorem cr_srtS {X : Cx} (hcalm : X.calm = true) (hu : X.A.units + 64 < cLine) : CallR X (.builtin "sorted") (rSrtS X.w) := by
  intro pins s σ H vs us Q I r h
  obtain ⟨a, kas, rfl, ha, ok, hl, hk, hd, q⟩ := h
  rw [Vals.ref1 r]
  obtain ⟨es, ep, t, ⟨o, ho, hex, hdt⟩, rows, tab, nd, plain, led, room, few⟩ := (show S0 X.w s.heap a (kas.map kf) from (I.hok a _ ha).1).ex
  rw [List.length_map] at few room
  have hsz : es.size = kas.length := by
    have := NS.rows_size rows
    rwa [List.length_map] at this
  have psz : t.place.size = es.size := by
    have := tab.sz
    rw [List.length_map, List.length_map] at this
    rw [this, hsz]
  have fits : t.fits es.size = true := NS.fits_of tab.dm psz (by omega)
  refine Calls.call_function_entry PyProof.Rows.kind_sorted PyProof.Rows.plain_sorted PyProof.Rows.entry_sorted (PyProof.Rows.args_sorted1 _) ?_
  unfold Builtin.«sorted»
  refine wpAny_bind (m := checkCount "sorted" 1 1 _) (wpAny_pure ?_)
  refine wpAny_bind (collect_set (A := X.A.in1) (I.ok.hd hcalm) ⟨o, ho, hex.1, hdt⟩ fits (by unfold scanBound; omega) tab.ris led fun s1 vs k1 hz1 g1 o1 pm => ?_)
  have hes : es.toList.map (·.2) = kas.map fun x => Value.ref x.2 := by
    rw [rows, List.map_map, List.map_map]
    rfl
  rw [hes] at pm
  obtain ⟨M, rfl, pM⟩ := perm_kas pm
  have hML : M.length < 64 := by rw [pM.length_eq]; exact few
  have okM : NsOk H M := fun x hx => ok x (pM.mem_iff.mp hx)
  have hr : ∀ y ∈ zsM M, Rp H y.1 y.2 := fun y hy => by
    obtain ⟨x, hx, rfl⟩ := List.mem_map.mp hy
    exact (okM x hx).1
  have e0 : ∀ z ∈ zsM M, z.2 ∈ kas.map (·.1) := fun z hz => by
    obtain ⟨x, hx, rfl⟩ := List.mem_map.mp hz
    exact List.mem_map.mpr ⟨x, pM.mem_iff.mp hx, rfl⟩
  have hn : H s1.heap.objs.size = none := I.hok.fresh hz1
  have I1 : Inv X pins σ H s1 := I.call' (ch := []) o1 (Un.kept k1) (I.hok.kept k1) (by rw [g1]; exact I.bare) (fun _ z => nomatch z)
  have hlen0 : (M.map fun x => Value.ref x.2).length ≤ sizeLine := by rw [List.length_map, sizeLine_eq]; omega
  refine wpAny_bind (wpAny_newList ?_ hlen0)
  have hoL : (s1.heap.push (seqObj "list" (M.map fun x => Value.ref x.2).toArray 0)).get? s1.heap.objs.size = some (seqObj "list" (M.map fun x => Value.ref x.2).toArray 0) := Heap.get?_push_size _ rfl
  show wpAny _ _ _ _ _ { s1 with heap := s1.heap.push (seqObj "list" (M.map fun x => Value.ref x.2).toArray 0) }
  have ek : PySem.W.AllAlike ((zsM M).map fun z => z.2.py) := fun d hd' e he => by
    obtain ⟨z1, h1, rfl⟩ := List.mem_map.mp hd'
    obtain ⟨z2, h2, rfl⟩ := List.mem_map.mp he
    exact hl _ (e0 z1 h1) _ (e0 z2 h2)
  have sk : PySem.W.Sortable ((zsM M).map fun z => z.2.py) := by
    rcases hk with hk | hk
    · refine .inl fun d hd' => ?_
      obtain ⟨z, h1, rfl⟩ := List.mem_map.mp hd'
      obtain ⟨x, l, e⟩ := hk z.2 (e0 z h1)
      exact ⟨x.py, D.pyL l, by rw [e]; simp [D.py, D.pyL]⟩
    · refine .inr fun d hd' => ?_
      obtain ⟨z, h1, rfl⟩ := List.mem_map.mp hd'
      obtain ⟨n1, n2⟩ := hk z.2 (e0 z h1)
      cases q : z.2 with
      | non => exact absurd q n1
      | tup l => exact absurd q (n2 l)
      | bl b => exact ⟨by simp [D.py], fun xs => by simp [D.py]⟩
      | int b => exact ⟨by simp [D.py], fun xs => by simp [D.py]⟩
      | str b => exact ⟨by simp [D.py], fun xs => by simp [D.py]⟩
  have zl : (zsM M).length = M.length := by simp [zsM]
  have ev := each_zs M
  have er : PySem.W.EachIs (fun u (z : V × D) => ∃ as, Reads (s1.heap.push (seqObj "list" (M.map fun x => Value.ref x.2).toArray 0)) u z.2.py as ∧ s1.heap.objs.size ∉ as) (M.map fun x => Value.ref x.2) (zsM M) := each_vals2 I1 (fun b u e => Heap.get?_push_of_some _ e) hr ev
  refine wpAny_bind (wpAny_holding (PySem.W.list_sort_data (s := { s1 with heap := s1.heap.push (seqObj "list" (M.map fun x => Value.ref x.2).toArray 0) }) (R := fun u (z : V × D) => RelV z.1 u) (enc := fun z : V × D => z.2.py) hoL ev er ek sk (by rw [zl, sizeLine_eq]; omega) (fun y hy => ?_) fun out ho eo => ?_))
  · obtain ⟨x, hx, rfl⟩ := List.mem_map.mp hy
    have := hd x (pM.mem_iff.mp hx)
    show X.A.units + 1 + 1 + x.1.py.depth < cLine
    omega
  · obtain ⟨e', he'⟩ := PyProof.Rows.sortedHeap_at (vs := M.map fun x => Value.ref x.2) (out := out.toArray) hoL
    have eo2 : PySem.W.EachIs (fun u (z : V × D) => RelV z.1 u) out ((zsM M).mergeSort leZ) := eo
    have hlen : (((zsM M).mergeSort leZ).map (·.1)).length ≤ sizeLine := by rw [List.length_map, List.length_mergeSort, zl, sizeLine_eq]; omega
    refine wpAny_pure ⟨_, rfl, .ref s1.heap.objs.size, upd H s1.heap.objs.size (.lst (((zsM M).mergeSort leZ).map (·.1))), I1.laid (t' := s1.toks) (fun b u e => ?_) (Nat.le_refl _)
      (show ObjOk X.prog X.w _ _ _ (.lst (((zsM M).mergeSort leZ).map (·.1))) from ⟨hlen, out, e', vals_each eo2, he'⟩), rfl, q M _ pM (I1.hok.fresh (Nat.le_refl _))⟩
    have hb : b < s1.heap.objs.size := Heap.lt_size e
    rw [PyProof.Rows.sortedHeap_old (Nat.ne_of_lt hb) (by rw [size_push']; exact Nat.lt_succ_of_lt hb)]
    exact Heap.get?_push_of_some _ e
def nsC (w : World) (ds : List D) : C := .gen fun H a => ∃ kas : List (D × Addr), H a = some (nsO w a (kas.map kf)) ∧ NsOk H kas ∧ (∀ x ∈ kas, x.1 ∈ ds) ∧ (∀ d ∈ ds, d.nk ∈ kas.map fun x => x.1.nk) ∧ (kas.map fun x => x.1.nk).Nodup ∧ kas.length < 64
theorem nsC_at {w : World} {H : Hp} {a : Addr} {ds : List D} {kas : List (D × Addr)} (e : H a = some (nsO w a (kas.map kf))) (ok : NsOk H kas) (h1 : ∀ x ∈ kas, x.1 ∈ ds) (h2 : ∀ d ∈ ds, d.nk ∈ kas.map fun x => x.1.nk) (h3 : (kas.map fun x => x.1.nk).Nodup) (h4 : kas.length < 64) : (nsC w ds).at H a :=
  ⟨⟨kas, e, ok, h1, h2, h3, h4⟩, (fun z => by rw [e] at z; cases z), fun H1 H2 k q ⟨ks, e1, e2, e3⟩ => ⟨ks, q _ e1, e2.mono k, e3⟩⟩
theorem nt_ns {w : World} {a : Addr} {L : List (Addr × NestedKey)} : ∀ ps, nsO w a L ≠ .tbl ps := fun ps z => by cases z
def SetM (ds : List D) : Prop := ∀ d ∈ ds, (∃ l, d = .tup l) ∧ d.nk.depth ≤ 8 ∧ NS.plain d.nk = true
theorem rpl_kas {H : Hp} : ∀ {vs : List V} {ds : List D}, RpL H vs ds → SetM ds → ∃ kas : List (D × Addr), kas.map (·.1) = ds ∧ vs = (kas.map fun x => V.ref x.2) ∧ NsOk H kas
  | _, _, .nil, _ => ⟨[], rfl, rfl, fun x hx => by cases hx⟩
  | _, _, .cons (d := d) (ds := ds) h r, hm => by
    obtain ⟨⟨l, rfl⟩, h1, h2⟩ := hm d List.mem_cons_self
    cases h with
    | tup ha hr =>
      obtain ⟨kas, e1, e2, ok⟩ := rpl_kas r fun x hx => hm x (List.mem_cons_of_mem _ hx)
      refine ⟨(.tup l, _) :: kas, by rw [List.map_cons, e1], by rw [List.map_cons, ← e2], fun x hx => ?_⟩
      rcases List.mem_cons.mp hx with z | z
      · rw [z]; exact ⟨.tup ha hr, h1, h2⟩
      · exact ok x z
section
variable {δ δ' : Dl} {μ μ' : Mu} {te : TE} {K : PySem.W.Frag} {w : World} {ds : List D}
theorem set_run {H H0 : Hp} {p : Addr} {vs : List V} {Q : VK} (f : Fr [] H0 H) (e : H p = some (.tup vs) ∨ H p = some (.lst vs)) (r : RpL H vs ds) (hm : SetM ds) (hl : ds.length < 64)
    (q : ∀ a H2, Fr [] H0 H2 → H0 a = none → (nsC w ds).at H2 a → (∀ ps, H2 a ≠ some (.tbl ps)) → Q (.ref a) H2) : rSetD K w [.ref p] H Q := by
  obtain ⟨kas, e1, rfl, ok⟩ := rpl_kas r hm
  subst e1
  rw [List.length_map] at hl
  refine ⟨p, kas, rfl, e.imp SqT.of SqL.of, ok, hl, fun a M hn h1 h2 h3 h4 => q a _ (f.trans0 (Fr.new hn nt_ns)) (f.free _ hn) (nsC_at upd_same (NsOk.mono (Fr.new hn nt_ns).tup fun x hx => ok x (h1 x hx)) (fun x hx => List.mem_map.mpr ⟨x, h1 x hx, rfl⟩) (fun d hd => ?_) h3 h4) fun ps z => by rw [upd_same] at z; cases z⟩
  obtain ⟨x, hx, rfl⟩ := List.mem_map.mp hd
  exact h2 x hx
theorem en_set (h : E δ μ te (.dat (.tup ds))) (hm : SetM ds) (hl : ds.length < 64) : EN δ μ (tCB (rSetD K w) (tCons te tNil)) (nsC w ds) := fun σ H s Q k =>
  h σ H s _ fun v H1 f1 r1 => by
    obtain ⟨a, vs, rfl, ht, hr⟩ := rp_tup r1
    exact set_run f1 (.inl ht) hr hm hl fun a H2 f hn hc ht => k a H2 f hn hc ht
theorem en_setL (h : EN δ μ te (.lst (ds.map .dat))) (hm : SetM ds) (hl : ds.length < 64) : EN δ μ (tCB (rSetD K w) (tCons te tNil)) (nsC w ds) := fun σ H s Q k =>
  h σ H s _ fun p H1 f1 hn hc ht => by
    obtain ⟨vs, e, hr⟩ := hc
    exact set_run f1 (.inr e) (RpAL.dat.mp hr) hm hl fun a H2 f hn hc ht => k a H2 f hn hc ht
theorem srtS_run (h : EN δ μ te (nsC w ds)) (h1 : DLike ds) (h2 : DSort ds) (h3 : ∀ d ∈ ds, d.py.depth ≤ 60) (σ : St) (H : Hp) (s : SA δ μ σ H) (Q : VK)
    (k : ∀ (p : Addr) (l : List D) (H2 : Hp), Fr [] H H2 → H p = none → (C.lst ((l.mergeSort leD).map .dat)).at H2 p → (∀ ps, H2 p ≠ some (.tbl ps)) → (∀ d ∈ l, d ∈ ds) → (∀ d ∈ ds, d.nk ∈ l.map D.nk) → (l.map D.nk).Nodup → l.length < 64 → Q (.ref p) H2) :
    tCB (rSrtS w) (tCons te tNil) σ H Q :=
  h σ H s _ fun a H1 f1 hn hc ht => by
    obtain ⟨⟨kas, e, ok, m1, m2, nd, few⟩, _⟩ := hc
    have sub : ∀ d ∈ kas.map (·.1), d ∈ ds := fun d hd => by
      obtain ⟨x, hx, rfl⟩ := List.mem_map.mp hd
      exact m1 x hx
    refine ⟨a, kas, rfl, e, ok, fun d hd e he => h1 d (sub d hd) e (sub e he), h2.imp (fun g d hd => g d (sub d hd)) (fun g d hd => g d (sub d hd)), fun z hz => h3 _ (m1 z hz), fun M p pm hp => ?_⟩
    have f : Fr [] H (upd H1 p (.lst (((zsM M).mergeSort leZ).map (·.1)))) := f1.trans0 (Fr.new hp nt_lst)
    have okM : NsOk (upd H1 p (.lst (((zsM M).mergeSort leZ).map (·.1)))) M := NsOk.mono (Fr.new hp nt_lst).tup fun x hx => ok x (pm.mem_iff.mp hx)
    have em : ((zsM M).mergeSort leZ).map (·.2) = (M.map (·.1)).mergeSort leD := by
      rw [List.map_mergeSort (r := leZ) (s := leD) (f := fun z : V × D => z.2) (fun a _ b _ => rfl)]
      unfold zsM
      rw [List.map_map]
      rfl
    refine k p (M.map (·.1)) _ f (f1.free _ hp) ⟨_, upd_same, ?_⟩ (fun ps z => by rw [upd_same] at z; cases z) (fun d hd => sub d ((pm.map (·.1)).mem_iff.mp hd)) (fun d hd => ?_) ?_ (by rw [List.length_map, pm.length_eq]; exact few)
    · rw [RpAL.dat, ← em]
      refine rpl_zs fun z hz => ?_
      obtain ⟨x, hx, rfl⟩ := List.mem_map.mp (List.mem_mergeSort.mp hz)
      exact (okM x hx).1
    · have := m2 d hd
      rw [List.map_map]
      exact (pm.map fun x => x.1.nk).mem_iff.mpr this
    · rw [List.map_map]
      exact (pm.map fun x => x.1.nk).nodup_iff.mpr nd
theorem ex_srtS (h : EN δ μ te (nsC w ds)) (h1 : DLike ds) (h2 : DSort ds) (h3 : ∀ d ∈ ds, d.py.depth ≤ 60) : EX δ μ (tCB (rSrtS w) (tCons te tNil)) fun x μ' => ∃ (p : Addr) (l : List D), x = .own p ∧ μ' = (p, C.lst ((l.mergeSort leD).map .dat)) :: μ ∧
    (∀ d ∈ l, d ∈ ds) ∧ (∀ d ∈ ds, d.nk ∈ l.map D.nk) ∧ (l.map D.nk).Nodup ∧ l.length < 64 := fun σ H s Q k => srtS_run h h1 h2 h3 σ H s Q fun p l H2 f hn hc ht m1 m2 nd few =>
  k (.own p) _ _ H2 ⟨p, l, rfl, rfl, m1, m2, nd, few⟩ (s.mem.add f hn hc ht) ⟨f.nil, fun a ha => (List.mem_cons.mp ha).elim (fun z => .inr (z ▸ hn)) .inl⟩ rfl
end
end TK
set_option maxHeartbeats 2000000
namespace TK
open PySem PySem.Spec PyProof.Rows L2
section
variable {P : Program} {w : World} {A : Around} {E : Value → Shared → Prop} {s : Shared}
theorem set_ints {l : Addr} {items : Array Value} {cn : String} {odict : Option Addr} {n0 : Nat} {oslots : Array (Option Value)} (ns : List Int) {Q : Value → Shared → Prop} (hh : A.handled = none) (hol : s.heap.get? l = some { cls := .type cn, dict := odict, data := .seq items n0, slots := oslots })
    (hcn : cn = "tuple" ∨ cn = "list") (hit : IntsAre items.toList ns) (hb : ns.length + 1 < scanBound)
    (h : ∀ (h' : Heap) (tk c : Nat), SetR w h' s.heap.objs.size (fun j => decide (j ∈ ns)) c → c ≤ ns.length → (∀ b o, s.heap.get? b = some o → h'.get? b = some o) → Q (.ref s.heap.objs.size) { s with heap := h', toks := tk }) :
    wpAny (model P w) A (call (.type "set") [.ref l]) Q E s := by
  have hisz : items.size = ns.length := by
    have q := IntsAre.length hit
    rw [Array.length_toList] at q
    exact q
  have hS := Heap.get?_push_size s.heap (o := { cls := .type "set", dict := none, data := .set #[] 0 (.fresh 0 0 (!w.params.followText "set-order")) }) rfl
  have hlS : l < s.heap.objs.size := Heap.lt_size hol
  have hh3 : A.in1.in1.in1.handled = none := by simp [hh]
  have hz : (s.heap.push { cls := .type "set", dict := none, data := .set #[] 0 (.fresh 0 0 (!w.params.followText "set-order")) }).objs.size = s.heap.objs.size + 1 := Heap.size_push ..
  have hneI : l ≠ (s.heap.push { cls := .type "set", dict := none, data := .set #[] 0 (.fresh 0 0 (!w.params.followText "set-order")) }).objs.size := by rw [hz]; exact Nat.ne_of_lt (Nat.lt_succ_of_lt hlS)
  have hSf : s.heap.objs.size ∉ [(s.heap.push { cls := .type "set", dict := none, data := .set #[] 0 (.fresh 0 0 (!w.params.followText "set-order")) }).objs.size, l] := by
    rw [hz]; simp only [List.mem_cons, List.mem_singleton, List.not_mem_nil, or_false, not_or]
    exact ⟨Nat.ne_of_lt (Nat.lt_succ_self _), Nat.ne_of_gt hlS⟩
  have hval : ∀ (i : Nat) (v : Value), items[i]? = some v → ∃ k t, ns[i]? = some k ∧ v = .int k t := fun i v hv => by
    have hi : i < ns.length := by rw [← hisz]; exact (Array.getElem?_eq_some_iff.mp hv).1
    obtain ⟨t, e⟩ := PyProof.Rows.IntsAre.int_at hit i v (by rw [Array.getElem?_toList]; exact hv)
    refine ⟨ns[i], t, List.getElem?_eq_getElem hi, ?_⟩
    rw [e, List.getD_eq_getElem?_getD, List.getElem?_eq_getElem hi] <;> rfl
  have fin : ∀ (g2 : Heap) (s' : Shared) (c' : Nat), g2.objs.size = s.heap.objs.size + 1 → (∀ b o, s.heap.get? b = some o → g2.get? b = some o) → Moved [s.heap.objs.size, g2.objs.size] (fun a b => b = a) s s' → True := fun _ _ _ _ _ _ => trivial
  have far : ∀ {b : Addr} {o : Obj}, s.heap.get? b = some o → b ∉ [s.heap.objs.size, (s.heap.push { cls := .type "set", dict := none, data := .set #[] 0 (.fresh 0 0 (!w.params.followText "set-order")) }).objs.size] := fun {b o} e => by
    have hb0 := Heap.lt_size e
    rw [hz]
    simp only [List.mem_cons, List.mem_singleton, List.not_mem_nil, or_false, not_or]
    exact ⟨Nat.ne_of_lt hb0, Nat.ne_of_lt (Nat.lt_succ_of_lt hb0)⟩
  rcases hcn with rfl | rfl
  · have hl1 : (s.heap.push { cls := .type "set", dict := none, data := .set #[] 0 (.fresh 0 0 (!w.params.followText "set-order")) }).IsTuple l items := ⟨_, Heap.get?_push_of_some _ hol, rfl, n0, rfl⟩
    refine NS.set_new (RR := fun s₂ => ∃ h' tk c, s₂ = { s with heap := h', toks := tk } ∧ SetR w h' s.heap.objs.size (fun j => decide (j ∈ ns)) c ∧ c ≤ ns.length ∧ (∀ b o, s.heap.get? b = some o → h'.get? b = some o)) hol F.sub_tuple_set F.sub_tuple_frozenset (by decide) (wpAny_pyIter_tuple hl1 ?_) ?_
    · refine wpAny_runValue ?_
      refine set_update_ints ((Walks.tuple hh3 _ l hneI items).toS) s.heap.objs.size hSf ns hisz hb hval (items.size - 0) 0 _ (by omega) (Nat.zero_le _) ⟨⟨_, Heap.get?_push_size _ rfl, rfl, rfl⟩, (hl1.push _)⟩ ⟨0, Nat.le_refl 0, setR_new_at (Heap.get?_push_of_some _ hS)⟩ ?_
      intro s' c' hm hc' hS'
      obtain ⟨h', g2, d', tk', os'⟩ := s'
      obtain rfl : g2 = s.gens := hm.gens
      obtain rfl : d' = s.drawn := hm.drawn
      obtain rfl : os' = s.os := hm.os
      rw [hisz] at hc'
      exact ⟨h', tk', c', rfl, hS', hc', fun b o e => hm.heap b o (far e) (Heap.get?_push_of_some _ (Heap.get?_push_of_some _ e))⟩
    · rintro _ ⟨h', tk, c, rfl, R, g, k⟩
      exact h _ _ _ R g k
  · have hl1 : (s.heap.push { cls := .type "set", dict := none, data := .set #[] 0 (.fresh 0 0 (!w.params.followText "set-order")) }).IsList l items := ⟨_, Heap.get?_push_of_some _ hol, rfl, n0, rfl⟩
    refine NS.set_new (RR := fun s₂ => ∃ h' tk c, s₂ = { s with heap := h', toks := tk } ∧ SetR w h' s.heap.objs.size (fun j => decide (j ∈ ns)) c ∧ c ≤ ns.length ∧ (∀ b o, s.heap.get? b = some o → h'.get? b = some o)) hol F.sub_list_set F.sub_list_frozenset (by decide) (wpAny_pyIter_list hl1 ?_) ?_
    · refine wpAny_runValue ?_
      refine set_update_ints ((Walks.list hh3 _ l hneI items).toS) s.heap.objs.size hSf ns hisz hb hval (items.size - 0) 0 _ (by omega) (Nat.zero_le _) ⟨⟨_, Heap.get?_push_size _ rfl, rfl, rfl⟩, (hl1.push _)⟩ ⟨0, Nat.le_refl 0, setR_new_at (Heap.get?_push_of_some _ hS)⟩ ?_
      intro s' c' hm hc' hS'
      obtain ⟨h', g2, d', tk', os'⟩ := s'
      obtain rfl : g2 = s.gens := hm.gens
      obtain rfl : d' = s.drawn := hm.drawn
      obtain rfl : os' = s.os := hm.os
      rw [hisz] at hc'
      exact ⟨h', tk', c', rfl, hS', hc', fun b o e => hm.heap b o (far e) (Heap.get?_push_of_some _ (Heap.get?_push_of_some _ e))⟩
    · rintro _ ⟨h', tk, c, rfl, R, g, k⟩
      exact h _ _ _ R g k
end
end TK
namespace TK
open PySem L2 NdefX LamX
open PyProof.Rows (IntsAre)
variable [TC]
def rSetI (K : PySem.W.Frag) (w : World) : List V → Hp → VK → Prop := fun xs H Q => ∃ (l : Addr) (ns : List Int), xs = [V.ref l] ∧ (SqT K H l (ns.map V.int) ∨ SqL K H l (ns.map V.int)) ∧ ns.length < 64 ∧
  ∀ (a : Addr) (c : Nat), H a = none → c ≤ ns.length → Q (.ref a) (upd H a (SetO w a (fun j => decide (j ∈ ns)) c))
theorem cr_setI {X : Cx} (hc : X.calm = true) : CallR X (.type "set") (rSetI X.K X.w) := by
  intro pins s σ H xs us Q I r h
  obtain ⟨l, ns, rfl, hl, hf, q⟩ := h
  rw [Vals.ref1 r]
  have hn : H s.heap.objs.size = none := I.hok.fresh (Nat.le_refl _)
  have hb : ns.length + 1 < scanBound := by unfold scanBound; omega
  rcases hl with hl | hl
  · obtain ⟨its, rv, ⟨⟨oc, od, odt, osl⟩, ho, hcl, n, hdt⟩, _⟩ := I.tuple hl
    simp only at hcl hdt
    subst hcl hdt
    exact set_ints (P := X.prog) (w := X.w) ns (I.ok.hd hc) ho (.inl rfl) (by simpa using rv.ints) hb fun h' tk c R g k =>
      ⟨.ref s.heap.objs.size, upd H s.heap.objs.size (SetO X.w s.heap.objs.size (fun j => decide (j ∈ ns)) c), I.laid (t' := tk) k (Nat.le_refl _) (setO_new R), rfl, q _ c hn g⟩
  · obtain ⟨its, rv, pl, _⟩ := I.list hl
    obtain ⟨⟨oc, od, odt, osl⟩, ho, hcl, n, hdt⟩ := pl.isList
    simp only at hcl hdt
    subst hcl hdt
    exact set_ints (P := X.prog) (w := X.w) ns (I.ok.hd hc) ho (.inr rfl) (by simpa using rv.ints) hb fun h' tk c R g k =>
      ⟨.ref s.heap.objs.size, upd H s.heap.objs.size (SetO X.w s.heap.objs.size (fun j => decide (j ∈ ns)) c), I.laid (t' := tk) k (Nat.le_refl _) (setO_new R), rfl, q _ c hn g⟩
def srtU (ns : List Int) : List Int := (insAll ns).mergeSort fun a b => decide (a ≤ b)
theorem srtU_mem {ns : List Int} {k : Int} : k ∈ srtU ns ↔ k ∈ ns := by
  unfold srtU
  rw [List.mem_mergeSort]
  exact insAll_mem
theorem srtU_lt {ns : List Int} : (srtU ns).Pairwise (· < ·) := by
  have h1 : (srtU ns).Pairwise (fun a b => decide (a ≤ b) = true) := List.pairwise_mergeSort (le := fun a b : Int => decide (a ≤ b)) (fun a b c h1 h2 => by simp at *; omega) (fun a b => by simp; omega) _
  have h2 : (srtU ns).Nodup := (List.mergeSort_perm _ _).nodup_iff.mpr insAll_nd
  exact (h1.and (List.nodup_iff_pairwise_ne.mp h2)).imp fun {a b} h => by
    have := h.1
    have := h.2
    simp at *
    omega
theorem lt_uniq : ∀ {l m : List Int}, l.Pairwise (· < ·) → m.Pairwise (· < ·) → (∀ k, k ∈ l ↔ k ∈ m) → l = m := fun {l m} h1 h2 h => by
  have n1 : l.Nodup := List.nodup_iff_pairwise_ne.mpr (h1.imp fun h => by omega)
  have n2 : m.Nodup := List.nodup_iff_pairwise_ne.mpr (h2.imp fun h => by omega)
  exact List.Perm.eq_of_pairwise (le := fun a b : Int => a < b) (fun a b _ _ h1 h2 => by omega) h1 h2 ((List.perm_ext_iff_of_nodup n1 n2).mpr h)
theorem srtU_is {ns l : List Int} (h1 : l.Pairwise (· < ·)) (h : ∀ k, k ∈ l ↔ k ∈ ns) : l = srtU ns := lt_uniq h1 srtU_lt fun k => by rw [h, srtU_mem]
theorem nt_setO {w : World} {a : Addr} {S : Int → Bool} {n : Nat} : ∀ ps, SetO w a S n ≠ .tbl ps := fun ps z => by cases z
def rInTD' (neg : Bool) (K : PySem.W.Frag) : R2 := fun x y H Q => ∃ d ds, Dp K H x d ∧ Dp K H y (.tuple ds) ∧ SeqAt.shaped d = true ∧ SeqAt.shaped (.tuple ds) = true ∧ Q (.bl (if neg then !ds.any fun z => PyData.eqv z d else ds.any fun z => PyData.eqv z d)) H
theorem op_inTD {X : Cx} (hu : X.A.units + 65 < cLine) : OpR X (compareOp .In) (rInTD' false X.K) := by
  intro pins s σ H x y v u Q I rx ry h
  obtain ⟨d, ds, hd, he, sd, se, q⟩ := h
  obtain ⟨as, r1⟩ := Dp.reads I d x v hd rx
  obtain ⟨bs, r2⟩ := Dp.reads I (.tuple ds) y u he ry
  exact SeqAt.in_tuple_reads r2 r1 (SeqAt.canLay_of_shaped se) (SeqAt.canLay_of_shaped sd) (PyProof.Rows.room_in_shaped sd hu) ⟨.bl _, H, I, rfl, q⟩
theorem op_notInTD {X : Cx} (hu : X.A.units + 65 < cLine) : OpR X (compareOp .NotIn) (rInTD' true X.K) := by
  intro pins s σ H x y v u Q I rx ry h
  obtain ⟨d, ds, hd, he, sd, se, q⟩ := h
  obtain ⟨as, r1⟩ := Dp.reads I d x v hd rx
  obtain ⟨bs, r2⟩ := Dp.reads I (.tuple ds) y u he ry
  exact SeqAt.notIn_tuple_reads r2 r1 (SeqAt.canLay_of_shaped se) (SeqAt.canLay_of_shaped sd) (PyProof.Rows.room_in_shaped sd hu) ⟨.bl _, H, I, rfl, q⟩
theorem pe_defK {X : Cx} {x : Str} {st : Stmt} {ps ks : List Str} {k j : Nat} {sp : Sp} {p pos : Pos} {e : Expr} {es : List Expr} {kws : List Keyword} {t tk : TA} (D : Dn X.prog X.w X.K X.mg X.base x ps k sp) (R : Raw X.K X.mg x st) (hr : Room j X.A) (hk : k ≤ j) (hg : Gl X x)
    (hb : ∀ (kV doc pm : Value) (an : Option Addr) (cdv ct : Value) (us ws : List Value), (us ++ ws).length = ps.length → bindArgs (PySem.W.fnOf x x (defArgs st) (defBody st) (defScope st) .none kV doc pm an cdv ct) ⟨us, ks.zip ws⟩ = pure (ps.zip (us ++ ws)))
    (ha : PA X (e :: es) t) (hkw : PK X kws tk) (hall : (backToKw pos (keywordEach kws X.env)).all (·.1.isSome) = true := by rfl) (hks : (backToKw pos (keywordEach kws X.env)).filterMap (·.1) = ks := by rfl)
    (hdb : (x == ("__debug__" : Str)) = false := by decide) (he : starEach (e :: es) X.env = (false, eval e X.env) :: starEach es X.env := by rfl)
    (hpl : ((backTo pos (starEach (e :: es) X.env)).any (·.1) || (backToKw pos (keywordEach kws X.env)).any (·.1.isNone)) = false := by rfl) : PE X (.Call (.Name x p) (e :: es) kws pos) (tCallK sp (fun vs zs => vs ++ zs) E0 t tk) := by
  obtain ⟨fd, F, b, fa⟩ := D.ex
  obtain ⟨fd', F'⟩ := R.fn
  have e1 := fa.same (fdAt F')
  subst e1
  refine pe_callK (g := fun us ws => us ++ ws) (F.mono hk) hr hg D.mg D.kp ⟨fun s us ws _ hl => ?_, fun {vs us zs ws} r1 r2 => ?_⟩ pass0 ha hkw hall hks hdb he hpl
  · obtain ⟨oc, od, dV, kV, doc, pm, an, cdv, ct, osl, rfl, lk, hcd, hD, hK⟩ := F'.ex
    rcases hD with ⟨_, rfl⟩ | ⟨e, _⟩
    · exact .of_eq (hb kV doc pm an cdv ct us ws hl)
    · exact absurd rfl e
  · induction r1 with
    | nil => exact r2
    | cons h t ih => exact .cons h ih
section
variable {δ δ' : Dl} {μ μ' : Mu} {te ta tb tc tl td ty tx tk tv to ti : TE} {tt tu : TT} {tr ts : TA} {x y z : A} {d e : D} {b c : Bool} {K : PySem.W.Frag} {w : World} {xs ys : List A} {a : Addr} {ns : List Int}
theorem rpal_ints {H : Hp} : ∀ ms : List Int, RpAL H (ms.map V.int) (ms.map fun i => .dat (.int i))
  | [] => .nil
  | m :: ms => .cons (Rp.int m) (rpal_ints ms)
theorem sortI_run {H H0 : Hp} {p : Addr} {Q : VK} (f : Fr [] H0 H) (e : H p = some (.tup (ns.map V.int)) ∨ H p = some (.lst (ns.map V.int))) (hl : ns.length < 64)
    (q : ∀ a H2, Fr [] H0 H2 → H0 a = none → (C.lst ((srtU ns).map fun i => .dat (.int i))).at H2 a → (∀ ps, H2 a ≠ some (.tbl ps)) → Q (.ref a) H2) : rSetI K w [.ref p] H fun v H1 => rSortedSet w [v] H1 Q := by
  refine ⟨p, ns, rfl, e.imp SqT.of SqL.of, hl, fun a c hn hc => ⟨a, _, c, rfl, upd_same, by omega, fun ms l h1 h2 h3 hl => ?_⟩⟩
  have f1 : Fr [] H (upd H a (SetO w a (fun j => decide (j ∈ ns)) c)) := Fr.new hn nt_setO
  have em : ms = srtU ns := srtU_is h1 fun k => by rw [h2]; simp
  subst em
  have f2 : Fr [] _ (upd (upd H a (SetO w a (fun j => decide (j ∈ ns)) c)) l (.lst ((srtU ns).map V.int))) := Fr.new hl nt_lst
  exact q l _ ((f.trans0 f1).trans0 f2) (f.free _ (f1.free _ hl)) ⟨_, upd_same, rpal_ints _⟩ fun ps z => by rw [upd_same] at z; cases z
theorem ints_rp {H : Hp} {vs : List V} (r : RpL H vs (ns.map .int)) : vs = ns.map V.int := ints_of (by
  have := RpAL.dat.mpr r
  rw [List.map_map] at this
  exact this)
theorem en_srtI (h : EQ δ μ te (ns.map .int)) (hl : ns.length < 64) : EN δ μ (tCB (rSortedSet w) (tCons (tCB (rSetI K w) (tCons te tNil)) tNil)) (.lst ((srtU ns).map fun i => .dat (.int i))) := fun σ H s Q k =>
  h σ H s _ fun p vs H1 f1 e1 r1 => by
    obtain rfl := ints_rp r1
    exact sortI_run f1 (.inr e1) hl fun a H2 f hn hc ht => k a H2 f hn hc ht
theorem inV_ints {i : Int} : ∀ {ns : List Int}, inV (.int i) (ns.map V.int) = decide (i ∈ ns)
  | [] => by simp [inV]
  | n :: ns => by
    have ih := inV_ints (i := i) (ns := ns)
    unfold inV at ih ⊢
    rw [List.map_cons, List.any_cons, ih]
    show ((n == i) || decide (i ∈ ns)) = _
    by_cases h : n = i
    · subst h; simp
    · have h2 : i ≠ n := fun z => h z.symm
      simp [h, h2]
theorem flat_ints : (ns.map V.int).all flatV = true := by
  rw [List.all_eq_true]
  intro v hv
  obtain ⟨i, _, rfl⟩ := List.mem_map.mp hv
  rfl
theorem rp_flat {H : Hp} {v : V} : Rp H v d → (∀ l, d ≠ .tup l) → flatV v = true
  | .non, _ => rfl
  | .bl _, _ => rfl
  | .int _, _ => rfl
  | .str _, _ => rfl
  | .tup _ _, h => absurd rfl (h _)
def eqLf : D → D → Bool
  | .non, .non => true
  | .bl a, .bl b => a == b
  | .bl a, .int b => (if a then 1 else 0) == b
  | .int a, .bl b => a == (if b then 1 else 0)
  | .int a, .int b => a == b
  | .str a, .str b => a == b
  | _, _ => false
theorem eqV_lf {H : Hp} {v u : V} {d e : D} (r : Rp H v d) (q : Rp H u e) (h1 : ∀ l, d ≠ .tup l) (h2 : ∀ l, e ≠ .tup l) : eqV v u = eqLf d e := by
  cases r with
  | tup _ _ => exact absurd rfl (h1 _)
  | _ => cases q with
    | tup _ _ => exact absurd rfl (h2 _)
    | _ => rfl
theorem inV_lf {H : Hp} {v : V} (r : Rp H v d) (h1 : ∀ l, d ≠ .tup l) : ∀ {vs : List V} {ds : List D}, RpL H vs ds → (∀ e ∈ ds, ∀ l, e ≠ .tup l) → vs.all flatV = true ∧ inV v vs = ds.any fun e => eqLf e d
  | _, _, .nil, _ => ⟨rfl, rfl⟩
  | _, _, .cons h t, hh => by
    obtain ⟨a, b⟩ := inV_lf r h1 t fun e he => hh e (List.mem_cons_of_mem _ he)
    have h0 := hh _ List.mem_cons_self
    refine ⟨by rw [List.all_cons, a, rp_flat h h0]; rfl, ?_⟩
    unfold inV at b ⊢
    rw [List.any_cons, List.any_cons, b, eqV_lf h r h0 h1]
def rIn0 (K : PySem.W.Frag) : R2 := rIn K false
def rIn1 (K : PySem.W.Frag) : R2 := rIn K true
theorem op_in0 {X : Cx} : OpR X (compareOp .In) (rIn0 X.K) := op_in_seq
theorem op_in1 {X : Cx} : OpR X (compareOp .NotIn) (rIn1 X.K) := op_notIn_seq
theorem e_inLf {ds : List D} (ha : E δ μ ta (.dat d)) (hb : E δ μ tb (.dat (.tup ds))) (h1 : ∀ l, d ≠ .tup l) (h2 : ∀ e ∈ ds, ∀ l, e ≠ .tup l) : E δ μ (tOp (rIn0 K) ta tb) (.dat (.bl (ds.any fun e => eqLf e d))) := e_op ha hb fun H v w Q r1 r2 k => by
  obtain ⟨p, vs, rfl, e1, q1⟩ := rp_tup r2
  obtain ⟨q2, q3⟩ := inV_lf r1 h1 q1 h2
  exact ⟨p, vs, rfl, .inr (SqT.of e1), rp_flat r1 h1, q2, k _ H (Fr.refl _ _) (by rw [q3]; exact Rp.bl _)⟩
theorem e_inQ {i : Int} (ha : E δ μ ta (.dat (.int i))) (hb : EQ δ μ tb (ns.map .int)) : E δ μ (tOp (rIn0 K) ta tb) (.dat (.bl (decide (i ∈ ns)))) := fun σ H s Q k =>
  ha σ H s _ fun v H1 f1 r1 => hb σ H1 (s.step f1) _ fun p vs H2 f2 e2 r2 => by
    obtain rfl := ints_rp r2
    rw [rp_int r1]
    exact ⟨p, _, rfl, .inl (SqL.of e2), rfl, flat_ints, k _ H2 (f1.trans0 f2) (by rw [inV_ints]; exact Rp.bl _)⟩
theorem e_ninQ {i : Int} (ha : E δ μ ta (.dat (.int i))) (hb : EQ δ μ tb (ns.map .int)) : E δ μ (tOp (rIn1 K) ta tb) (.dat (.bl (!decide (i ∈ ns)))) := fun σ H s Q k =>
  ha σ H s _ fun v H1 f1 r1 => hb σ H1 (s.step f1) _ fun p vs H2 f2 e2 r2 => by
    obtain rfl := ints_rp r2
    rw [rp_int r1]
    exact ⟨p, _, rfl, .inl (SqL.of e2), rfl, flat_ints, k _ H2 (f1.trans0 f2) (by rw [inV_ints]; exact Rp.bl _)⟩
theorem e_inTD (ha : E δ μ ta (.dat d)) {ds : List D} (hb : E δ μ tb (.dat (.tup ds))) (h1 : SeqAt.shaped d.py = true) (h2 : SeqAt.shaped (D.tup ds).py = true) : E δ μ (tOp (rInTD' false K) ta tb) (.dat (.bl ((D.pyL ds).any fun z => PyData.eqv z d.py))) := e_op ha hb fun H v w Q r1 r2 k =>
  ⟨_, _, dp_of r1, dp_of r2, h1, h2, k _ H (Fr.refl _ _) (Rp.bl _)⟩
theorem e_ninTD (ha : E δ μ ta (.dat d)) {ds : List D} (hb : E δ μ tb (.dat (.tup ds))) (h1 : SeqAt.shaped d.py = true) (h2 : SeqAt.shaped (D.tup ds).py = true) : E δ μ (tOp (rInTD' true K) ta tb) (.dat (.bl (!(D.pyL ds).any fun z => PyData.eqv z d.py))) := e_op ha hb fun H v w Q r1 r2 k =>
  ⟨_, _, dp_of r1, dp_of r2, h1, h2, k _ H (Fr.refl _ _) (Rp.bl _)⟩
theorem e_indexL {i : Int} (n : Nat) (ho : E δ μ to (.own a)) (hm : μ[n]? = some (a, .lst (ns.map fun i => .dat (.int i)))) (he : E δ μ te (.dat (.int i))) (hi : i ∈ ns) : E δ μ (tBM K "list" (rIndex K) to (tCons te tNil)) (.dat (.int ((ns.idxOf i : Nat) : Int))) := fun σ H s Q k =>
  ho σ H s _ fun v H1 f1 r1 => by
    obtain ⟨vs, e1, q1⟩ := (s.step f1).mem.lst hm
    rw [show v = V.ref a from r1]
    obtain rfl := ints_of q1
    refine ⟨tyL e1, he σ H1 (s.step f1) _ fun u H2 f2 r2 => ?_⟩
    rw [rp_int r2]
    have hlt : ns.idxOf i < ns.length := List.idxOf_lt_length_of_mem hi
    have e2 : H2 a = some (.lst (ns.map V.int)) := f2.keep _ _ e1 (by simp) nt_lst
    refine ⟨a, _, _, ns.idxOf i, .int i, rfl, rfl, SqL.of e2, rfl, flat_ints, ?_, by simp [eqV], fun m z' hm hz => ?_, k _ H2 (f1.trans0 f2) (Rp.int _)⟩
    · rw [List.getElem?_map, List.getElem?_eq_getElem hlt, List.getElem_idxOf hlt]
      rfl
    · have hml : m < ns.length := by omega
      rw [List.getElem?_map, List.getElem?_eq_getElem hml] at hz
      cases hz
      have hne : ns[m] ≠ i := fun z => by
        have := List.not_of_lt_findIdx (xs := ns) (p := fun x => x == i) hm
        rw [z] at this
        simp at this
      simp [eqV, hne]
theorem e_sumQ (h : EQ δ μ te (ns.map .int)) : E δ μ (tCB (rSum K) (tCons te tNil)) (.dat (.int ns.sum)) := fun σ H s Q k =>
  h σ H s _ fun p vs H1 f1 e1 r1 => by
    obtain rfl := ints_rp r1
    exact ⟨p, ns, rfl, SqL.of e1, k _ H1 f1 (Rp.int _)⟩
theorem ints_min {ns : List Int} (h : 0 < ns.length) : ∃ m, m ∈ ns ∧ ∀ y ∈ ns, m ≤ y := by
  obtain ⟨m, h1, h2⟩ := ints_max (ns := ns.map fun i => -i) (by rw [List.length_map]; exact h)
  obtain ⟨x, hx, rfl⟩ := List.mem_map.mp h1
  exact ⟨x, hx, fun y hy => by
    have := h2 (-y) (List.mem_map.mpr ⟨y, hy, rfl⟩)
    omega⟩
theorem e_minQ {m : Int} (h : EQ δ μ te (ns.map .int)) (hm : m ∈ ns) (hx : ∀ y ∈ ns, m ≤ y) : E δ μ (tCB (rMin K) (tCons te tNil)) (.dat (.int m)) := fun σ H s Q k =>
  h σ H s _ fun p vs H1 f1 e1 r1 => by
    obtain rfl := ints_rp r1
    refine ⟨p, ns, rfl, SqL.of e1, List.length_pos_of_mem hm, fun m' h1 h2 => ?_⟩
    have e : m' = m := Int.le_antisymm (h2 _ hm) (hx _ h1)
    subst e
    exact k _ H1 f1 (Rp.int _)
theorem en_lstT {ds : List D} (h : E δ μ te (.dat (.tup ds))) : EN δ μ (tCB (rLst K) (tCons te tNil)) (.lst (ds.map .dat)) := fun σ H s Q k =>
  h σ H s _ fun v H1 f1 r1 => by
    obtain ⟨p, vs, rfl, e1, q1⟩ := rp_tup r1
    exact .inl ⟨p, vs, rfl, .inr (SqT.of e1), fun l hl => k l _ (f1.trans0 (Fr.new hl nt_lst)) (f1.free _ hl) ⟨vs, upd_same, (RpAL.dat.mpr q1).mono (Fr.new hl nt_lst).tup⟩ fun ps z => by rw [upd_same] at z; cases z⟩
theorem en_catNN (ha : EN δ μ ta (.lst xs)) (hb : ∀ p, EN δ ((p, .lst xs) :: μ) tb (.lst ys)) (hz : xs.length + ys.length ≤ 100000) : EN δ μ (tOp (rPlus K) ta tb) (.lst (xs ++ ys)) := fun σ H s Q k =>
  ha σ H s _ fun p H1 f1 hn1 hc1 ht1 => by
    have s1 : SA δ ((p, .lst xs) :: μ) σ H1 := s.withM f1.tup (s.mem.add f1 hn1 hc1 ht1)
    refine hb p σ H1 s1 _ fun q H2 f2 hn hc _ => ?_
    obtain ⟨ws, e1, q1⟩ := (s1.step f2).mem.lst (i := 0) rfl
    obtain ⟨us, e2, q2⟩ := hc
    refine .inr (.inr ⟨p, q, ws, us, rfl, rfl, e1, e2, by rw [q1.length, q2.length]; exact szl hz, fun l hp => ?_⟩)
    have f3 : Fr [] H2 (upd H2 l (.lst (ws ++ us))) := Fr.new hp nt_lst
    exact k l _ ((f1.trans0 f2).trans0 f3) (f1.free _ (f2.free _ hp)) ⟨_, upd_same, (q1.append q2).mono f3.tup⟩ fun ps z => by rw [upd_same] at z; cases z
theorem en_if {o : C} (h : ET δ μ tt b) (h1 : b = true → EN δ μ ta o) (h2 : b = false → EN δ μ tb o) : EN δ μ (tIf tt ta tb) o := fun σ H s Q k => h σ H s _ fun H1 f1 => by
  cases b with
  | true => exact iteT (h1 rfl σ H1 (s.step f1) Q fun u H2 f2 hn hc ht => k u H2 (f1.trans0 f2) (f1.free _ hn) hc ht)
  | false => exact iteF (h2 rfl σ H1 (s.step f1) Q fun u H2 f2 hn hc ht => k u H2 (f1.trans0 f2) (f1.free _ hn) hc ht)
theorem e_callK {G : List D → D → Prop} (ds es : List D) (h : EA δ μ tr xs) (hk : EA δ μ ts ys) (hx : xs = ds.map .dat) (hy : ys = es.map .dat) (hG : G (ds ++ es) d) : E δ μ (tCallK (spR G) (fun vs zs => vs ++ zs) E0 tr ts) (.dat d) := fun σ H s Q k =>
  h σ H s _ fun vs H1 f1 r1 => hk σ H1 (s.step f1) _ fun zs H2 f2 r2 => by
    subst hx hy
    exact ⟨ds ++ es, d, ((s.mem.step f1).step f2).tb, (RpL.mono f2.tup (RpAL.dat.mp r1)).append (RpAL.dat.mp r2), hG, fun v H3 f3 r3 => k v H3 ((f1.trans0 f2).trans0 f3) r3⟩
end
end TK
set_option maxHeartbeats 2000000
namespace TK
open PySem L2 NdefX LamX
variable [TC]
theorem pi_seqK {X : Cx} {K : PySem.W.Frag} {tg l : Expr} {tl : TE} (eK : X.K = K) (hl : PE X l tl) : PI X tg l (iSeq K tl) := eK ▸ pi_seq hl
theorem pe_bmK {X : Cx} {K : PySem.W.Frag} {T : String} {name : Str} {id : String} {o e : Expr} {es : List Expr} {to : TE} {t : TA} {apos cpos : Pos} {r : PySem.W.Frag → V → List V → Hp → VK → Prop} (eK : X.K = K) (pa : PlainAttrs T) (slot : Slot T name id) (hty : typeOf (.builtin id) = pure (.type "method_descriptor")) (hm : MtR X id (r X.K)) (ho : PE X o to) (ha : PA X (e :: es) t)
    (hbase : attributeBase o name X.env (eval o X.env) = eval o X.env := by rfl)
    (hfew : ((backTo cpos (starEach (e :: es) X.env)).all (fun x => !x.1) && (backToKw cpos (keywordEach [] X.env)).all (fun x => x.1.isSome)
      && decide ((e :: es).length + ([] : List Keyword).length + (if ([] : List Keyword).isEmpty then 0 else 1) < 30)) = true := by rfl)
    (hline : (apos.endLine == cpos.line) = true := by rfl) (hs : starEach (e :: es) X.env = (false, eval e X.env) :: starEach es X.env := by rfl) (hplain : (backTo cpos (starEach es X.env)).any (·.1) = false := by rfl) :
    PE X (.Call (.Attribute o name apos) (e :: es) [] cpos) (tBM K T (r K) to t) := eK ▸ pe_bm pa slot hty hm ho ha hbase hfew hline hs hplain
section
variable {δ δ' : Dl} {μ μ' : Mu} {te ta tb tc tl td ty tx tk tv to ti : TE} {tt tu : TT} {tr ts : TA} {x y z : A} {d e : D} {b c : Bool} {g : TG} {wi : TI} {K : PySem.W.Frag} {w : World} {xs ys : List A} {a : Addr}
theorem ex_lcF {α : Type} {l : List α} {q : α → A} {vs : List Nat} (h : EI0 δ μ wi (l.map q)) (hz : l.length < 100000) (f : α → Bool) (I : Nat → List A → Mu → Prop) (h0 : I 0 [] μ)
    (hb : ∀ (i : Nat) (d : α) (ys : List A) (μ1 : Mu), l[i]? = some d → ys.length ≤ i → I i ys μ1 → ∃ δ2 js, Tg (wipeD δ vs) g (q d) δ2 js ∧ (∀ j ∈ js, j ∈ vs) ∧ ET δ2 μ1 tt (f d) ∧ (f d = true → EX δ2 μ1 te (fun x μ2 => I (i + 1) (ys ++ [x]) μ2)) ∧ (f d = false → I (i + 1) ys μ1)) :
    EX δ μ (tLc wi g tt te vs) (fun x μ' => ∃ p ys μ1, x = .own p ∧ μ' = (p, .lst ys) :: μ1 ∧ I l.length ys μ1 ∧ ys.length ≤ l.length) := fun σ H s Q qq => h σ H s _ fun J H1 f1 yl => by
  refine fun p hp => ⟨fun i m H' => m = l.length - i ∧ i ≤ l.length ∧ ∃ ys μ1 us, ys.length ≤ i ∧ I i ys μ1 ∧ SM μ1 H' ∧ FS μ H1 μ1 H' ∧ p ∉ keys μ1 ∧ H' p = some (.lst us) ∧ RpAL H' us ys, ⟨l.length, by simp, Nat.zero_le _, [], μ, [], Nat.le_refl _, h0, ?_, ?_, ?_, upd_same, .nil⟩, ?_⟩
  · exact (s.mem.step f1).step (Fr.new hp nt_lst)
  · exact FS.of (Fr.new hp nt_lst)
  · intro z
    obtain ⟨x, hx, e⟩ := List.mem_map.mp z
    exact ((s.mem.step f1).own x hx).there (by rw [e]; exact hp)
  rintro i m H' ⟨rfl, hi, ys, μ1, us, hys, hI, m1, fs1, hpk, hpH, hru⟩
  obtain ⟨r1, r2⟩ := yl.run H' fs1.fr.tup (fun a ha => absurd ha (by simp))
  rw [List.length_map] at r2
  by_cases hlt : i < l.length
  · have h3 : l[i]? = some l[i] := List.getElem?_eq_getElem hlt
    obtain ⟨g1, g2⟩ := r1 i (q l[i]) (by rw [List.getElem?_map, h3]; rfl)
    refine .inr ⟨g1, fun H3 => i + 1 ≤ l.length ∧ ∃ ys μ1 us, ys.length ≤ i + 1 ∧ I (i + 1) ys μ1 ∧ SM μ1 H3 ∧ FS μ H1 μ1 H3 ∧ p ∉ keys μ1 ∧ H3 p = some (.lst us) ∧ RpAL H3 us ys, fun H3 ⟨c1, c2⟩ => ⟨l.length - (i + 1), by omega, rfl, c1, c2⟩, fun w H2 yy => ?_⟩
    obtain ⟨f2, rw⟩ := g2 w H2 yy
    obtain ⟨δ2, js, hg, hj, ht, h5, h6⟩ := hb i l[i] ys μ1 h3 hys hI
    have s1 : SA δ μ1 σ H' := (s.step f1).withM fs1.fr.tup m1
    have s2 := s1.step f2
    refine hg μ1 _ H2 w (s2.wipe vs) rw _ fun σ2 s3 hw => ⟨(hw vs hj).trans wipe_wipe, ?_⟩
    have p2 : H2 p = some (.lst us) := f2.keep _ _ hpH (by simp) nt_lst
    refine ht σ2 H2 s3 _ fun H3 f3 => ?_
    have p3 : H3 p = some (.lst us) := f3.keep _ _ p2 (by simp) nt_lst
    have fs3 := (fs1.trans (FS.of f2)).trans (FS.of f3)
    have ru3 : RpAL H3 us ys := (hru.mono f2.tup).mono f3.tup
    have m3 := (m1.step f2).step f3
    cases e : f l[i] with
    | false =>
      exact iteF ⟨hlt, ys, μ1, us, by omega, h6 e, m3, fs3, hpk, p3, ru3⟩
    | true =>
      refine iteT (h5 e σ2 H3 (s3.step f3) _ fun x μ2 y H4 hI2 m4 f4 ry => ?_)
      have p4 : H4 p = some (.lst us) := f4.fr.keep _ _ p3 hpk nt_lst
      have hpk2 : p ∉ keys μ2 := fun z => by
        rcases f4.new p z with q | q
        · exact hpk q
        · rw [p3] at q; cases q
      have ru4 : RpAL H4 us ys := ru3.mono f4.fr.tup
      have fw : Fr [p] H4 (upd H4 p (.lst (us ++ [y]))) := Fr.wr (by simp) p4 rfl
      refine ⟨us, p4, by rw [ru4.length]; exact szt (by omega), hlt, ys ++ [x], μ2, us ++ [y], by simp; omega, hI2, ?_, ?_, hpk2, upd_same, (ru4.mono fw.tup).append (.cons (ry.mono fw.tup) .nil)⟩
      · have nz : ∀ z ∈ μ2, z.1 ≠ p := fun z hz' c => hpk2 (by rw [← c]; exact List.mem_map.mpr ⟨z, hz', rfl⟩)
        refine ⟨m4.nd, fun z hz' => (m4.own z hz').keep fw.tup fun o e => (upd_ne (nz z hz')).trans e, fun z hz' ps e => m4.notbl z hz' ps ?_, fw.tabs m4.tb⟩
        rw [upd_ne (nz z hz')] at e
        exact e
      · have f5 := fs3.trans f4
        exact ⟨f5.fr.mut hp p4 rfl, f5.new⟩
  · have e : i = l.length := by omega
    subst e
    refine .inl ⟨r2, qq (.own p) _ _ H' ⟨p, ys, μ1, rfl, rfl, hI, hys⟩ ?_ ((FS.of f1).trans ⟨fs1.fr, fun b hb => ?_⟩) rfl⟩
    · refine ⟨List.nodup_cons.mpr ⟨hpk, m1.nd⟩, fun z hz' => ?_, fun z hz' => ?_, m1.tb⟩
      · rcases List.mem_cons.mp hz' with c | c
        · rw [c]; exact ⟨us, hpH, hru⟩
        · exact m1.own z c
      · rcases List.mem_cons.mp hz' with c | c
        · rw [c]
          intro ps y
          rw [hpH] at y
          cases y
        · exact m1.notbl z c
    · rcases List.mem_cons.mp hb with c | c
      · exact .inr (c ▸ hp)
      · exact fs1.new b c
theorem ex_catX {R : A → Mu → Prop} {S : A → Mu → Prop} (ha : E δ μ ta (.own a)) (hb : EX δ μ tb R) (hR : ∀ y μ1, R y μ1 → ∃ (n m : Nat) (p : Addr) (xs ys : List A), y = .own p ∧ μ1[n]? = some (a, C.lst xs) ∧ μ1[m]? = some (p, C.lst ys) ∧ xs.length + ys.length ≤ 100000 ∧ ∀ l, S (.own l) ((l, C.lst (xs ++ ys)) :: μ1)) :
    EX δ μ (tOp (rPlus K) ta tb) S := fun σ H s Q k =>
  ha σ H s _ fun v H1 f1 r1 => hb σ H1 (s.step f1) _ fun y μ1 w' H2 r m2 f2 rw => by
    obtain ⟨n, m, p, xs, ys, rfl, h1, h2, hz, hS⟩ := hR y μ1 r
    obtain ⟨ws, e1, q1⟩ := m2.lst h1
    obtain ⟨us, e2, q2⟩ := m2.lst h2
    rw [show v = V.ref a from r1, show w' = V.ref p from rw]
    refine .inr (.inr ⟨a, p, ws, us, rfl, rfl, e1, e2, by rw [q1.length, q2.length]; exact szl hz, fun l hl => ?_⟩)
    have f3 : Fr [] H2 (upd H2 l (.lst (ws ++ us))) := Fr.new hl nt_lst
    have m3 : SM ((l, C.lst (xs ++ ys)) :: μ1) (upd H2 l (.lst (ws ++ us))) := m2.add f3 hl ⟨_, upd_same, (q1.append q2).mono f3.tup⟩ fun ps z => by rw [upd_same] at z; cases z
    have f4 : FS μ1 H2 ((l, C.lst (xs ++ ys)) :: μ1) (upd H2 l (.lst (ws ++ us))) := ⟨f3.nil, fun b hb => (List.mem_cons.mp hb).elim (fun z => .inr (z ▸ hl)) .inl⟩
    exact k (.own l) _ _ _ (hS l) m3 (((FS.of f1).trans f2).trans f4) rfl
end
end TK
namespace TK
open PySem L2 NdefX LamX
variable [TC]
section
variable {δ δ' : Dl} {μ μ' : Mu} {te ta tb tc tl td ty tx tk tv to ti : TE} {tt tu : TT} {tr ts : TA} {x y z : A} {d e : D} {b c : Bool} {g : TG} {wi : TI} {K : PySem.W.Frag} {w : World} {xs ys : List A} {a : Addr}
theorem ex_lcLX {R S : A → Mu → Prop} {vs : List Nat} (h : EX δ μ te R) (k : ∀ x μ', R x μ' → ∃ a, x = .own a ∧ EX δ μ' (tLc (iList K (tVal (.ref a))) g tt ta vs) S) : EX δ μ (tLc (iSeq K te) g tt ta vs) S := fun σ H s Q q => .inr (h σ H s _ fun x μ' v H2 r m f rx => by
  obtain ⟨a, rfl, hh⟩ := k x μ' r
  rw [show v = V.ref a from rx]
  exact hh σ H2 (s.withM f.fr.tup m) Q fun x2 μ2 v2 H3 r2 m2 f2 rx2 => q x2 μ2 v2 H3 r2 m2 (f.trans f2) rx2)
theorem at_app {α : Type} {l1 l2 : List α} {n : Nat} {x : α} (h : l2[n]? = some x) : (l1 ++ l2)[l1.length + n]? = some x := by
  rw [List.getElem?_append_right (Nat.le_add_right _ _), Nat.add_sub_cancel_left]
  exact h
theorem at_left {α : Type} {l1 l2 : List α} {n : Nat} {x : α} (h : l1[n]? = some x) : (l1 ++ l2)[n]? = some x := by
  rw [List.getElem?_append_left (List.getElem?_eq_some_iff.mp h).1]
  exact h
theorem atI_n {α : Type} {l : List α} {k : Nat} {x : α} (h : l[k]? = some x) : atI l (k : Int) = some x := by
  have hl := (List.getElem?_eq_some_iff.mp h).1
  unfold atI ixN
  rw [if_pos (by omega), if_pos (by omega)]
  exact h
theorem atI_last {α : Type} {l : List α} {x : α} (h : l.getLast? = some x) : atI l (-1) = some x := by
  have hl : 0 < l.length := by
    cases l with
    | nil => cases h
    | cons a l => simp
  unfold atI ixN
  rw [if_neg (by omega), if_pos (by omega)]
  rw [List.getLast?_eq_getElem?] at h
  show l[((-1 : Int) + (l.length : Int)).toNat]? = _
  rw [show ((-1 : Int) + (l.length : Int)).toNat = l.length - 1 by omega]
  exact h
variable {P : Po}
theorem HT.fgp {δ : Dl} {μ : Mu} {ts : TS} {P : Po} (h : HT δ μ ts { P with nx := fun δ' μ' => ∃ μ2 μ'', P.nx δ' μ'' ∧ List.Sublist μ'' μ2 ∧ μ'.Perm μ2 }) : HT δ μ ts P := fun σ H D s go =>
  h σ H D s ⟨fun δ' μ' σ' H' ⟨μ2, μ'', n, sb, pm⟩ s' f => go.nx δ' μ'' σ' H' n (s'.withM (fun _ _ e => e) ((s'.mem.perm pm).sub sb)) ((f.permR pm).trans ⟨Fr.refl _ _, fun a ha => .inl ((sb.map _).subset ha)⟩), go.rt, go.bk, go.ct⟩
theorem LeD.put {δ δ' : Dl} {i : Nat} {y : Option A} (l : LeD δ δ') : LeD (δ.set i y) (δ'.set i y) := ⟨by rw [List.length_set, List.length_set]; exact l.len, fun j x e => by
  by_cases q : i = j
  · subst q
    by_cases hl : i < δ'.length
    · rw [List.getElem?_set_self hl] at e
      rw [List.getElem?_set_self (by rw [← l.len]; exact hl)]
      exact e
    · rw [List.getElem?_eq_none (by rw [List.length_set]; omega)] at e
      cases e
  · rw [List.getElem?_set_ne q] at e
    rw [List.getElem?_set_ne q]
    exact l.at_ j x e⟩
theorem led_cons {x y : Option A} {l m : Dl} (h : y = none ∨ x = y) (t : LeD l m) : LeD (x :: l) (y :: m) := ⟨by rw [List.length_cons, List.length_cons, t.len], fun i z e => by
  cases i with
  | zero =>
    have e : y = some z := by simpa using e
    rcases h with h | h
    · rw [h] at e; cases e
    · rw [h, e]; rfl
  | succ i => exact t.at_ i z (by simpa using e)⟩
theorem perm_pull4 {α : Type} (b c d e : α) (X Y : List α) : (X ++ b :: c :: d :: e :: Y).Perm (b :: c :: d :: e :: (X ++ Y)) :=
  List.perm_middle.trans ((List.perm_middle.trans ((List.perm_middle.trans (List.perm_middle.cons d)).cons c)).cons b)
theorem ext_or {R : Bool → Mu → Prop} (h1 : ET δ μ tt false) (h2 : EXT δ μ tu R) : EXT δ μ (tOr tt tu) R := fun σ H s Q k => h1 σ H s _ fun H1 f1 => iteF (h2 σ H1 (s.step f1) Q fun b μ' H2 r m f => k b μ' H2 r m ((FS.of f1).trans f))
theorem ext_orT {R : Bool → Mu → Prop} (h1 : EXT δ μ tt R) (hR : ∀ b μ', R b μ' → b = true) : EXT δ μ (tOr tt tu) R := fun σ H s Q k => h1 σ H s _ fun b μ1 H1 r m f1 => by
  obtain rfl := hR b μ1 r
  exact iteT (k true μ1 H1 r m f1)
theorem ext_not {R : Bool → Mu → Prop} (h : EXT δ μ tt R) : EXT δ μ (tNot tt) fun b μ' => R (!b) μ' := fun σ H s Q k => h σ H s _ fun b μ' H1 r m f => k (!b) μ' H1 (by show R (!(!b)) μ'; rw [Bool.not_not]; exact r) m f
theorem ext_test {R : Bool → Mu → Prop} {S : A → Mu → Prop} (h : EX δ μ te S) (hS : ∀ x μ', S x μ' → ∃ b : Bool, x = .dat (.bl b) ∧ R b μ') : EXT δ μ (tTest te) R := fun σ H s Q k => h σ H s _ fun x μ' v H1 r m f rx => by
  obtain ⟨b, rfl, hb⟩ := hS x μ' r
  exact ⟨b, rp_bl rx, k b μ' H1 hb m f⟩
theorem EXT.imp {R S : Bool → Mu → Prop} (h : EXT δ μ tt R) (k : ∀ b m, R b m → S b m) : EXT δ μ tt S := fun σ H s Q q => h σ H s Q fun b m H2 r => q b m H2 (k b m r)
end
end TK
set_option maxHeartbeats 2000000
namespace T
open PySem L2 NdefX LamX TK
variable [TC]
def clo1 (ar : List (Int × Int)) (l : List Int) : List Int := srtU (l ++ (ar.filter fun p => decide (p.1 ∈ l)).map (·.2))
def cloN (ar : List (Int × Int)) (l : List Int) : Nat → List Int
  | 0 => l
  | n + 1 => clo1 ar (cloN ar l n)
theorem clo1_mem {ar : List (Int × Int)} {l : List Int} {q : Int} : q ∈ clo1 ar l ↔ q ∈ l ∨ ∃ p ∈ l, (p, q) ∈ ar := by
  unfold clo1
  rw [srtU_mem, List.mem_append, List.mem_map]
  refine or_congr Iff.rfl ⟨?_, ?_⟩
  · rintro ⟨⟨a, b⟩, h, rfl⟩
    obtain ⟨h1, h2⟩ := List.mem_filter.mp h
    exact ⟨a, of_decide_eq_true h2, h1⟩
  · rintro ⟨p, hp, h⟩
    exact ⟨(p, q), List.mem_filter.mpr ⟨h, decide_eq_true hp⟩, rfl⟩
theorem cloN_sound {ar : List (Int × Int)} {l : List Int} : ∀ {n : Nat} {q : Int}, q ∈ cloN ar l n → Rc ar l q
  | 0, q, h => .base h
  | n + 1, q, h => by
    rcases clo1_mem.mp h with h | ⟨p, hp, h⟩
    · exact cloN_sound h
    · exact .step (cloN_sound hp) h
theorem cloN_up {ar : List (Int × Int)} {l : List Int} {n : Nat} {q : Int} (h : q ∈ cloN ar l n) : ∀ k, q ∈ cloN ar l (n + k)
  | 0 => h
  | k + 1 => clo1_mem.mpr (.inl (cloN_up h k))
theorem cloN_stop {ar : List (Int × Int)} {l : List Int} {n : Nat} (h : ∀ q ∈ cloN ar l (n + 1), q ∈ cloN ar l n) {q : Int} (r : Rc ar l q) : q ∈ cloN ar l n := by
  induction r with
  | base hq =>
    have := cloN_up (n := 0) (show _ ∈ cloN ar l 0 from hq) n
    rwa [Nat.zero_add] at this
  | step _ he ih => exact h _ (clo1_mem.mpr (.inr ⟨_, ih, he⟩))
theorem insAll_len_le {l m : List Int} (h : ∀ q ∈ l, q ∈ m) : (insAll l).length ≤ (insAll m).length := nodup_len insAll_nd fun q hq => insAll_mem.mpr (h q (insAll_mem.mp hq))
theorem cloN_grow {ar : List (Int × Int)} {l : List Int} {n : Nat} (h : ¬ ∀ q ∈ cloN ar l (n + 1), q ∈ cloN ar l n) : (insAll (cloN ar l n)).length + 1 ≤ (insAll (cloN ar l (n + 1))).length := by
  obtain ⟨q, hq⟩ := Classical.not_forall.mp h
  obtain ⟨hq1, hq2⟩ := Classical.not_imp.mp hq
  have := nodup_len (l := q :: insAll (cloN ar l n)) (U := insAll (cloN ar l (n + 1))) (List.nodup_cons.mpr ⟨fun z => hq2 (insAll_mem.mp z), insAll_nd⟩) fun x hx => by
    rw [insAll_mem]
    rcases List.mem_cons.mp hx with e | e
    · rw [e]; exact hq1
    · exact clo1_mem.mpr (.inl (insAll_mem.mp e))
  rwa [List.length_cons] at this
theorem cloN_all {ar : List (Int × Int)} {l : List Int} {N : Int} (hU : ∀ q, Rc ar l q → 0 ≤ q ∧ q < N) (hN : 1 ≤ N) {q : Int} : q ∈ cloN ar l N.toNat ↔ Rc ar l q := by
  refine ⟨cloN_sound, fun r => ?_⟩
  by_cases hs : ∃ n, n < N.toNat ∧ ∀ q ∈ cloN ar l (n + 1), q ∈ cloN ar l n
  · obtain ⟨n, hn, h⟩ := hs
    have := cloN_up (cloN_stop h r) (N.toNat - n)
    rwa [show n + (N.toNat - n) = N.toNat by omega] at this
  · have grow : ∀ n, n ≤ N.toNat → (insAll l).length + n ≤ (insAll (cloN ar l n)).length := fun n => by
      induction n with
      | zero => exact fun _ => Nat.le_refl _
      | succ n ih =>
        intro hn
        have := ih (by omega)
        have := cloN_grow (ar := ar) (l := l) (n := n) fun h => hs ⟨n, by omega, h⟩
        omega
    have h1 := grow N.toNat (Nat.le_refl _)
    have h2 := nodup_len (U := upTo N.toNat) (insAll_nd (ps := cloN ar l N.toNat)) fun x hx => by
      obtain ⟨a, b⟩ := hU x (cloN_sound (insAll_mem.mp hx))
      exact List.mem_map.mpr ⟨x.toNat, List.mem_range.mpr (by omega), by omega⟩
    have h3 : (upTo N.toNat).length = N.toNat := by simp [upTo]
    have h4 : insAll l = [] := List.eq_nil_of_length_eq_zero (by omega)
    have none : ∀ q, ¬ Rc ar l q := fun q r => by
      induction r with
      | base hq =>
        have := insAll_mem.mpr hq
        rw [h4] at this
        cases this
      | step _ _ ih => exact ih
    exact absurd r (none q)
theorem cloN_len {ar : List (Int × Int)} {l : List Int} {N : Int} (hU : ∀ q, Rc ar l q → 0 ≤ q ∧ q < N) (hN : 1 ≤ N) : ∀ n, (cloN ar l n).length ≤ l.length + N.toNat
  | 0 => Nat.le_add_right _ _
  | n + 1 => by
    have h1 : (cloN ar l (n + 1)).Nodup := List.nodup_iff_pairwise_ne.mpr ((srtU_lt (ns := _)).imp fun h => by omega)
    have h2 := nodup_len (U := upTo N.toNat) h1 fun x hx => by
      obtain ⟨a, b⟩ := hU x (cloN_sound hx)
      exact List.mem_map.mpr ⟨x.toNat, List.mem_range.mpr (by omega), by omega⟩
    have h3 : (upTo N.toNat).length = N.toNat := by simp [upTo]
    omega
structure Tn.Few (t : Tn) : Prop where
  n : t.N ≤ 8
  e : t.E.length ≤ 40
  b : t.B.length ≤ 4
  f : t.F.length ≤ 4
def Tn.fw (t : Tn) : List (Int × Int) := t.E.map fun e => (e.a, e.b)
def Tn.bw (t : Tn) : List (Int × Int) := t.E.map fun e => (e.b, e.a)
theorem rch_in {t : Tn} (ok : t.Ok) : ∀ q, Rc t.fw (t.B.map Mk.p) q → 0 ≤ q ∧ q < t.N := fun q r => rch_below ok r
theorem live_in_ {t : Tn} (ok : t.Ok) : ∀ q, Rc t.bw (t.F.map Mk.p) q → 0 ≤ q ∧ q < t.N := fun q r => by
  cases r with
  | base h1 =>
    obtain ⟨m, hm, rfl⟩ := List.mem_map.mp h1
    exact ⟨(ok.f m hm).1, (ok.f m hm).2.1⟩
  | step _ h1 =>
    obtain ⟨e, he, h2⟩ := List.mem_map.mp h1
    cases h2
    have := ok.e e he
    exact ⟨this.1, this.2.1⟩
def lKept (t : Tn) : List Int := (upTo t.N.toNat).filter fun p => decide (p ∈ cloN t.fw (t.B.map Mk.p) t.N.toNat) && decide (p ∈ cloN t.bw (t.F.map Mk.p) t.N.toNat)
theorem upTo_lt (n : Nat) : (upTo n).Pairwise (· < ·) := by
  unfold upTo
  rw [List.pairwise_map]
  exact List.pairwise_lt_range.imp fun {a b} h => by omega
theorem lKept_lt (t : Tn) : (lKept t).Pairwise (· < ·) := (upTo_lt _).sublist List.filter_sublist
theorem lKept_good {t : Tn} (ok : t.Ok) : Good t (lKept t) := by
  refine ⟨List.nodup_iff_pairwise_ne.mpr ((lKept_lt t).imp fun h => by omega), fun q => ?_⟩
  unfold lKept
  rw [List.mem_filter, Bool.and_eq_true, decide_eq_true_eq, decide_eq_true_eq, cloN_all (rch_in ok) ok.n, cloN_all (live_in_ ok) ok.n]
  refine ⟨fun h => h.2, fun h => ⟨?_, h⟩⟩
  obtain ⟨a, b⟩ := rch_below ok h.1
  exact List.mem_map.mpr ⟨q.toNat, List.mem_range.mpr (by omega), by omega⟩
theorem sortI_id {l : List Int} (h : l.Pairwise (· < ·)) : sortI l = l := by
  unfold sortI
  exact List.mergeSort_of_pairwise (h.imp fun {a b} h => decide_eq_true (by omega))
theorem eq_ownI {δ : Dl} {μ : Mu} {te : TE} {a : Addr} {l : List Int} (n : Nat) (h : TK.E δ μ te (.own a)) (hm : μ[n]? = some (a, .lst (intsL l))) : EQ δ μ te (l.map .int) := eq_own n h (by rw [hm, List.map_map]; rfl)
theorem eq_newI {δ : Dl} {μ : Mu} {te : TE} {l : List Int} (h : EN δ μ te (.lst (intsL l))) : EQ δ μ te (l.map .int) := eq_new (by rw [List.map_map]; exact h)
def G_ltrim : List D → D → Prop := fun ds d => ∃ t : Tn, ds = [t.d] ∧ t.Ok ∧ t.Few ∧ d = (keptT t (lKept t)).d
section
variable {P : Program} {w : World} {K : PySem.W.Frag} {mg : Str → Option Value} {base : Heap}
abbrev N__law_trimmed : List Str := ["turner", "ahead", "behind", "turn", "kept", "begins", "edges", "ends", "place", "word", "one", "sign", "two"]
abbrev P__law_trimmed : List Str := ["turner"]
theorem sc__law_trimmed : FnScope N__law_trimmed P__law_trimmed (defScope s__law_trimmed) := ⟨rfl, rfl, rfl, by decide +kernel, rfl, by decide +kernel, by decide +kernel⟩
theorem bd__law_trimmed (kV doc pm : Value) (an : Option Addr) (cdv ct : Value) (us : List Value) (hl : us.length = (P__law_trimmed : List Str).length) : bindArgs (PySem.W.fnOf "_law_trimmed" "_law_trimmed" (defArgs s__law_trimmed) (defBody s__law_trimmed) (defScope s__law_trimmed) .none kV doc pm an cdv ct) ⟨us, []⟩ = pure ((P__law_trimmed : List Str).zip us) := match us, hl with
  | [_], _ => rfl
theorem ok__law_trimmed (T : Bl mg) (R : Raw K mg "_law_trimmed" s__law_trimmed) : Dn P w K mg base "_law_trimmed" P__law_trimmed 1 (spR G_ltrim) := by
  refine R.dnR sc__law_trimmed (fun ds d ⟨t, e, _⟩ => by rw [e]; rfl) (by decide) bd__law_trimmed fun cdv Ao outer s H E hr => ⟨_, (pss_cons (ps_asg (pe_tup (pa_cons (pe_lc rfl sc__law_trimmed.nd (pi_seq (pe_ix ix_any (pv 0) pe_int (fun _ _ => rfl))) (blkOk_by (own := [("place", 8), ("word", 9)]) (N := N__law_trimmed) (sc := defScope s__law_trimmed) (by decide +kernel)) (fun _ _ _ _ _ => (pg_tupK (n := 2) (K := K) rfl rfl (pgs_cons (pg_name (i := 8) sc__law_trimmed.nd rfl (Or.inl rfl)) (pgs_cons (pg_name (i := 9) sc__law_trimmed.nd rfl (Or.inl rfl)) pgs_nil)))) (fun _ _ _ _ _ => pts_nil) (fun _ _ _ _ _ => (pv 8))) (pa_cons (pe_lc rfl sc__law_trimmed.nd (pi_seq (pe_ix ix_any (pv 0) pe_int (fun _ _ => rfl))) (blkOk_by (own := [("place", 8), ("word", 9)]) (N := N__law_trimmed) (sc := defScope s__law_trimmed) (by decide +kernel)) (fun _ _ _ _ _ => (pg_tupK (n := 2) (K := K) rfl rfl (pgs_cons (pg_name (i := 8) sc__law_trimmed.nd rfl (Or.inl rfl)) (pgs_cons (pg_name (i := 9) sc__law_trimmed.nd rfl (Or.inl rfl)) pgs_nil)))) (fun _ _ _ _ _ => pts_nil) (fun _ _ _ _ _ => (pv 8))) pa_nil))) (pg_tup rfl (pgs_cons (pg_name (i := 1) sc__law_trimmed.nd rfl (Or.inr rfl)) (pgs_cons (pg_name (i := 2) sc__law_trimmed.nd rfl (Or.inr rfl)) pgs_nil))))
      (pss_cons (ps_for PassesOwn.never rfl (pi_range1 rfl T.range (pa_cons (pe_ix ix_any (pv 0) pe_int (fun _ _ => rfl)) pa_nil)) (pg_name (i := 3) sc__law_trimmed.nd rfl (Or.inl rfl))
      (pss_cons (ps_set (i := 1) sc__law_trimmed.nd rfl (Or.inr rfl) (pe_callB (cr_sortedSet rfl) (by rfl) T.sorted bb_sorted (pa_cons (pe_callTy (cr_setI rfl) (by rfl) T.set bb_set (pa_cons (pe_op op_plus (pv 1) (pe_lc rfl sc__law_trimmed.nd (pi_seq (pe_ix ix_any (pv 0) pe_int (fun _ _ => rfl))) (blkOk_by (own := [("one", 10), ("sign", 11), ("two", 12), ("word", 9)]) (N := N__law_trimmed) (sc := defScope s__law_trimmed) (by decide +kernel)) (fun _ _ _ _ _ => (pg_tupK (n := 4) (K := K) rfl rfl (pgs_cons (pg_name (i := 10) sc__law_trimmed.nd rfl (Or.inl rfl)) (pgs_cons (pg_name (i := 11) sc__law_trimmed.nd rfl (Or.inl rfl)) (pgs_cons (pg_name (i := 12) sc__law_trimmed.nd rfl (Or.inl rfl)) (pgs_cons (pg_name (i := 9) sc__law_trimmed.nd rfl (Or.inl rfl)) pgs_nil)))))) (fun _ _ _ _ _ => pts_one (pt_cmpR (opK (K := K) rfl op_in0) (pv 10) (pv 1) (by rfl))) (fun _ _ _ _ _ => (pv 12)))) pa_nil)) pa_nil)))
      (pss_one (ps_set (i := 2) sc__law_trimmed.nd rfl (Or.inr rfl) (pe_callB (cr_sortedSet rfl) (by rfl) T.sorted bb_sorted (pa_cons (pe_callTy (cr_setI rfl) (by rfl) T.set bb_set (pa_cons (pe_op op_plus (pv 2) (pe_lc rfl sc__law_trimmed.nd (pi_seq (pe_ix ix_any (pv 0) pe_int (fun _ _ => rfl))) (blkOk_by (own := [("one", 10), ("sign", 11), ("two", 12), ("word", 9)]) (N := N__law_trimmed) (sc := defScope s__law_trimmed) (by decide +kernel)) (fun _ _ _ _ _ => (pg_tupK (n := 4) (K := K) rfl rfl (pgs_cons (pg_name (i := 10) sc__law_trimmed.nd rfl (Or.inl rfl)) (pgs_cons (pg_name (i := 11) sc__law_trimmed.nd rfl (Or.inl rfl)) (pgs_cons (pg_name (i := 12) sc__law_trimmed.nd rfl (Or.inl rfl)) (pgs_cons (pg_name (i := 9) sc__law_trimmed.nd rfl (Or.inl rfl)) pgs_nil)))))) (fun _ _ _ _ _ => pts_one (pt_cmpR (opK (K := K) rfl op_in0) (pv 12) (pv 2) (by rfl))) (fun _ _ _ _ _ => (pv 10)))) pa_nil)) pa_nil))))))
      (pss_cons (ps_set (i := 4) sc__law_trimmed.nd rfl (Or.inr rfl) (pe_lc rfl sc__law_trimmed.nd (pi_range1 rfl T.range (pa_cons (pe_ix ix_any (pv 0) pe_int (fun _ _ => rfl)) pa_nil)) (blkOk_by (own := [("place", 8)]) (N := N__law_trimmed) (sc := defScope s__law_trimmed) (by decide +kernel)) (fun _ _ _ _ _ => (pg_name (i := 8) sc__law_trimmed.nd rfl (Or.inl rfl))) (fun _ _ _ _ _ => pts_one (PW.pt (pw_and (pt_cmpR (opK (K := K) rfl op_in0) (pv 8) (pv 1) (by rfl)) (pw_and1 (pt_cmpR (opK (K := K) rfl op_in0) (pv 8) (pv 2) (by rfl)))))) (fun _ _ _ _ _ => (pv 8))))
      (pss_cons (ps_set (i := 5) sc__law_trimmed.nd rfl (Or.inl rfl) (pe_callTy call_tupleOf (by rfl) T.tuple bb_tuple (pa_cons (pe_lc rfl sc__law_trimmed.nd (pi_seq (pe_ix ix_any (pv 0) pe_int (fun _ _ => rfl))) (blkOk_by (own := [("place", 8), ("word", 9)]) (N := N__law_trimmed) (sc := defScope s__law_trimmed) (by decide +kernel)) (fun _ _ _ _ _ => (pg_tupK (n := 2) (K := K) rfl rfl (pgs_cons (pg_name (i := 8) sc__law_trimmed.nd rfl (Or.inl rfl)) (pgs_cons (pg_name (i := 9) sc__law_trimmed.nd rfl (Or.inl rfl)) pgs_nil)))) (fun _ _ _ _ _ => pts_one (pt_cmpR (opK (K := K) rfl op_in0) (pv 8) (pv 4) (by rfl))) (fun _ _ _ _ _ => (pe_tup (pa_cons (pe_bmK (K := K) (r := rIndex) rfl PySem.F.plainAttrs_list PySem.F.slot_list_index PySem.F.type_list_index mt_index (pv 4) (pa_cons (pv 8) pa_nil)) (pa_cons (pv 9) pa_nil))))) pa_nil)))
      (pss_cons (ps_setLc (i := 6) rfl sc__law_trimmed.nd rfl rfl (sw_true rfl rfl rfl (by decide +kernel)) (pi_seq (pe_ix ix_any (pv 0) pe_int (fun _ _ => rfl))) (blkOk_by (own := [("one", 10), ("sign", 11), ("two", 12), ("word", 9)]) (N := N__law_trimmed) (sc := defScope s__law_trimmed) (by decide +kernel)) (fun _ _ _ _ _ => (pg_tupK (n := 4) (K := K) rfl rfl (pgs_cons (pg_name (i := 10) sc__law_trimmed.nd rfl (Or.inl rfl)) (pgs_cons (pg_name (i := 11) sc__law_trimmed.nd rfl (Or.inl rfl)) (pgs_cons (pg_name (i := 12) sc__law_trimmed.nd rfl (Or.inl rfl)) (pgs_cons (pg_name (i := 9) sc__law_trimmed.nd rfl (Or.inl rfl)) pgs_nil)))))) (fun _ _ _ _ _ => pts_one (PW.pt (pw_and (pt_cmpR (opK (K := K) rfl op_in0) (pv 10) (pv 4) (by rfl)) (pw_and1 (pt_cmpR (opK (K := K) rfl op_in0) (pv 12) (pv 4) (by rfl)))))) (fun _ _ _ _ _ => (pe_tup (pa_cons (pe_bmK (K := K) (r := rIndex) rfl PySem.F.plainAttrs_list PySem.F.slot_list_index PySem.F.type_list_index mt_index (pv 4) (pa_cons (pv 10) pa_nil)) (pa_cons (pv 11) (pa_cons (pe_bmK (K := K) (r := rIndex) rfl PySem.F.plainAttrs_list PySem.F.slot_list_index PySem.F.type_list_index mt_index (pv 4) (pa_cons (pv 12) pa_nil)) (pa_cons (pv 9) pa_nil)))))))
      (pss_cons (ps_set (i := 7) sc__law_trimmed.nd rfl (Or.inl rfl) (pe_callTy call_tupleOf (by rfl) T.tuple bb_tuple (pa_cons (pe_lc rfl sc__law_trimmed.nd (pi_seq (pe_ix ix_any (pv 0) pe_int (fun _ _ => rfl))) (blkOk_by (own := [("place", 8), ("word", 9)]) (N := N__law_trimmed) (sc := defScope s__law_trimmed) (by decide +kernel)) (fun _ _ _ _ _ => (pg_tupK (n := 2) (K := K) rfl rfl (pgs_cons (pg_name (i := 8) sc__law_trimmed.nd rfl (Or.inl rfl)) (pgs_cons (pg_name (i := 9) sc__law_trimmed.nd rfl (Or.inl rfl)) pgs_nil)))) (fun _ _ _ _ _ => pts_one (pt_cmpR (opK (K := K) rfl op_in0) (pv 8) (pv 4) (by rfl))) (fun _ _ _ _ _ => (pe_tup (pa_cons (pe_bmK (K := K) (r := rIndex) rfl PySem.F.plainAttrs_list PySem.F.slot_list_index PySem.F.type_list_index mt_index (pv 4) (pa_cons (pv 8) pa_nil)) (pa_cons (pv 9) pa_nil))))) pa_nil)))
      (pss_one (ps_ret (pe_op op_plus (pe_slice sl_any (pv 0) po_none (po_some pe_int)) (pe_tup (pa_cons (pe_callB (cr_max2 rfl) (by rfl) T.max bb_max (pa_cons pe_int (pa_cons (pe_callB cr_len (by rfl) T.len bb_len (pa_cons (pv 4) pa_nil)) pa_nil))) (pa_cons (pv 5) (pa_cons (pe_callTy call_tupleOf (by rfl) T.tuple bb_tuple (pa_cons (pv 6) pa_nil)) (pa_cons (pv 7) pa_nil)))))))))))))), ?_⟩
  rintro ds d ⟨t, rfl, ok, few, rfl⟩
  have hN := ok.n
  have n8 := few.n
  have e40 := few.e
  have b4 := few.b
  have f4 := few.f
  have fwl : t.fw.length = t.E.length := by simp [Tn.fw]
  have bwl : t.bw.length = t.E.length := by simp [Tn.bw]
  let A : Nat → List Int := cloN t.fw (t.B.map Mk.p)
  let B : Nat → List Int := cloN t.bw (t.F.map Mk.p)
  have lA : ∀ i, (A i).length ≤ 12 := fun i => by
    have := cloN_len (rch_in ok) hN i
    rw [List.length_map] at this
    show (cloN t.fw (t.B.map Mk.p) i).length ≤ 12
    omega
  have lB : ∀ i, (B i).length ≤ 12 := fun i => by
    have := cloN_len (live_in_ ok) hN i
    rw [List.length_map] at this
    show (cloN t.bw (t.F.map Mk.p) i).length ≤ 12
    omega
  refine ht_seq (ht_asgT (n := 2) (by decide) (exa_NN (c1 := .lst (intsL (A 0))) (c2 := .lst (intsL (B 0))) (en_is (en_lcGY (l := t.B) (q := fun m => .dat m.d) (ei_seqM (e_ixT (e_var rfl) e_int rfl)).ei (by omega) (fun m => .dat (.int m.p)) fun m hm => ?_) (by simp [A, cloN, intsL]))
    fun p => en_is (en_lcGY (l := t.F) (q := fun m => .dat m.d) (ei_seqM (e_ixT (e_var rfl) e_int rfl)).ei (by omega) (fun m => .dat (.int m.p)) fun m hm => ?_) (by simp [B, cloN, intsL])) fun xs μ1 hx => ?_)
  · exact ⟨_, _, tg_tup (ds := [.int m.p, wD m.w]) (tgs_cons tg_name (tgs_cons tg_name tgs_nil)) rfl, by simp, e_var rfl⟩
  · exact ⟨_, _, tg_tup (ds := [.int m.p, wD m.w]) (tgs_cons tg_name (tgs_cons tg_name tgs_nil)) rfl, by simp, e_var rfl⟩
  obtain ⟨a0, b0, rfl, rfl⟩ := hx
  refine ⟨_, _, tgs_cons tg_name (tgs_cons tg_name tgs_nil), rfl, ?_⟩
  let δL : Addr → Addr → Dl := fun a b => [some (.dat t.d), some (.own a), some (.own b), none, none, none, none, none, none, none, none, none, none]
  let M : Nat → Addr → Addr → Mu := fun i a b => [(b, C.lst (intsL (B i))), (a, C.lst (intsL (A i)))]
  let I : Nat → Dl → Mu → Prop := fun i δ μ => ∃ a b, μ = M i a b ∧ LeD δ (δL a b)
  refine ht_cut (N := I t.N.toNat) (ht_forR (n := t.N) (ea_cons (e_ixT (e_var rfl) e_int rfl) ea_nil) (by omega) (by omega) I ⟨a0, b0, rfl, LeD.refl _⟩ ?_ fun δ1 μ1 h => h) ?_
  · rintro i δ1 μ1 hi ⟨a, b, rfl, hle⟩
    refine ⟨_, _, tg_name, ?_⟩
    refine HT.le (δ' := δL a b) ?_ (hle.set rfl)
    refine HT.fgt ?_
    refine ht_seq (ht_setN (o := .lst (intsL (A (i + 1)))) (en_srtI (ns := A i ++ (t.fw.filter fun p => decide (p.1 ∈ A i)).map (·.2)) (eq_newI (en_is (en_catN 1 (e_var rfl) rfl (en_lcG (l := t.E) (q := fun e => .dat e.d) (ei_seqM (e_ixT (e_var rfl) e_int rfl)).ei (by omega) (fun e => decide (e.a ∈ A i)) (fun e => .dat (.int e.b)) fun e he => ?_) ?_) ?_)) ?_) fun a1 => ?_)
    · exact ⟨_, _, tg_tup (ds := [.int e.a, .int e.s, .int e.b, wD e.w]) (tgs_cons tg_name (tgs_cons tg_name (tgs_cons tg_name (tgs_cons tg_name tgs_nil)))) rfl, by simp, et_test (e_inQ (e_var rfl) (eq_ownI 1 (e_var rfl) rfl)), fun _ => e_var rfl⟩
    · have := List.length_filter_le (fun e : Ed => decide (e.a ∈ A i)) t.E
      have := lA i
      simp only [intsL, List.length_map]
      omega
    · simp [intsL, Tn.fw, List.filter_map, Function.comp_def]
    · have := List.length_filter_le (fun p : Int × Int => decide (p.1 ∈ A i)) t.fw
      have := lA i
      rw [List.length_append, List.length_map]
      omega
    refine ht_setN (o := .lst (intsL (B (i + 1)))) (en_srtI (ns := B i ++ (t.bw.filter fun p => decide (p.1 ∈ B i)).map (·.2)) (eq_newI (en_is (en_catN 1 (e_var rfl) rfl (en_lcG (l := t.E) (q := fun e => .dat e.d) (ei_seqM (e_ixT (e_var rfl) e_int rfl)).ei (by omega) (fun e => decide (e.b ∈ B i)) (fun e => .dat (.int e.a)) fun e he => ?_) ?_) ?_)) ?_) fun b1 => ?_
    · exact ⟨_, _, tg_tup (ds := [.int e.a, .int e.s, .int e.b, wD e.w]) (tgs_cons tg_name (tgs_cons tg_name (tgs_cons tg_name (tgs_cons tg_name tgs_nil)))) rfl, by simp, et_test (e_inQ (e_var rfl) (eq_ownI 1 (e_var rfl) rfl)), fun _ => e_var rfl⟩
    · have := List.length_filter_le (fun e : Ed => decide (e.b ∈ B i)) t.E
      have := lB i
      simp only [intsL, List.length_map]
      omega
    · simp [intsL, Tn.bw, List.filter_map, Function.comp_def]
    · have := List.length_filter_le (fun p : Int × Int => decide (p.1 ∈ B i)) t.bw
      have := lB i
      rw [List.length_append, List.length_map]
      omega
    exact ⟨M (i + 1) a1 b1, ⟨a1, b1, rfl, LeD.refl _⟩, .cons₂ _ (.cons₂ _ (.cons _ (.cons _ .slnil)))⟩
  rintro δ1 μ1 ⟨a, b, rfl, hle⟩
  refine HT.le (δ' := δL a b) ?_ hle
  generalize hks : lKept t = ks
  have klt : ks.Pairwise (· < ·) := hks ▸ lKept_lt t
  have kn : ∀ p, num ks p = ((ks.idxOf p : Nat) : Int) := fun p => by unfold num; rw [sortI_id klt]
  have kg : Good t ks := hks ▸ lKept_good ok
  have kl := good_len ok kg
  refine ht_seq (ht_setN (o := .lst (intsL ks)) (en_is (en_lcR (n := t.N) (ea_cons (e_ixT (e_var rfl) e_int rfl) ea_nil) (by omega) (by omega) (fun i => decide ((i : Int) ∈ A t.N.toNat) && decide ((i : Int) ∈ B t.N.toNat)) (fun i => .dat (.int (i : Int))) fun i hi => ?_) ?_) fun k => ?_)
  · exact ⟨_, _, tg_name, by simp, et_and (et_test (e_inQ (e_var rfl) (eq_ownI 1 (e_var rfl) rfl))) fun _ => et_test (e_inQ (e_var rfl) (eq_ownI 0 (e_var rfl) rfl)), fun _ => e_var rfl⟩
  · rw [← hks]
    unfold lKept upTo intsL
    rw [List.filter_map, List.map_map]
    rfl
  refine ht_seq (ht_set (x := .dat (.tup ((keptM ks t.B).map Mk.d))) (e_tupleN (en_is (en_lcG (l := t.B) (q := fun m => .dat m.d) (ei_seqM (e_ixT (e_var rfl) e_int rfl)).ei (by omega) (fun m => decide (m.p ∈ ks)) (fun m => .dat (Mk.d ⟨num ks m.p, m.w⟩)) fun m hm => ?_) ?_)) ?_)
  · exact ⟨_, _, tg_tup (ds := [.int m.p, wD m.w]) (tgs_cons tg_name (tgs_cons tg_name tgs_nil)) rfl, by simp, et_test (e_inQ (e_var rfl) (eq_ownI 0 (e_var rfl) rfl)), fun h => e_tup (ds := [.int (num ks m.p), wD m.w]) (ea_cons ((e_indexL 0 (e_var rfl) rfl (e_var rfl) (of_decide_eq_true h)).is (by rw [kn])) (ea_cons (e_var rfl) ea_nil)) (by simp)⟩
  · simp [keptM, Function.comp_def]
  refine ht_seq (ht_setN (o := .lst (((keptE ks t.E).map Ed.d).map .dat)) (en_is (en_lcG (l := t.E) (q := fun m => .dat m.d) (ei_seqM (e_ixT (e_var rfl) e_int rfl)).ei (by omega) (fun e => decide (e.a ∈ ks) && decide (e.b ∈ ks)) (fun e => .dat (Ed.d ⟨num ks e.a, e.s, num ks e.b, e.w⟩)) fun e he => ?_) ?_) fun ae => ?_)
  · exact ⟨_, _, tg_tup (ds := [.int e.a, .int e.s, .int e.b, wD e.w]) (tgs_cons tg_name (tgs_cons tg_name (tgs_cons tg_name (tgs_cons tg_name tgs_nil)))) rfl, by simp, et_and (et_test (e_inQ (e_var rfl) (eq_ownI 0 (e_var rfl) rfl))) fun _ => et_test (e_inQ (e_var rfl) (eq_ownI 0 (e_var rfl) rfl)),
      fun h => by
        rw [Bool.and_eq_true, decide_eq_true_eq, decide_eq_true_eq] at h
        exact e_tup (ds := [.int (num ks e.a), .int e.s, .int (num ks e.b), wD e.w]) (ea_cons ((e_indexL 0 (e_var rfl) rfl (e_var rfl) h.1).is (by rw [kn])) (ea_cons (e_var rfl) (ea_cons ((e_indexL 0 (e_var rfl) rfl (e_var rfl) h.2).is (by rw [kn])) (ea_cons (e_var rfl) ea_nil)))) (by simp)⟩
  · simp [keptE, Function.comp_def]
  refine ht_seq (ht_set (x := .dat (.tup ((keptM ks t.F).map Mk.d))) (e_tupleN (en_is (en_lcG (l := t.F) (q := fun m => .dat m.d) (ei_seqM (e_ixT (e_var rfl) e_int rfl)).ei (by omega) (fun m => decide (m.p ∈ ks)) (fun m => .dat (Mk.d ⟨num ks m.p, m.w⟩)) fun m hm => ?_) ?_)) ?_)
  · exact ⟨_, _, tg_tup (ds := [.int m.p, wD m.w]) (tgs_cons tg_name (tgs_cons tg_name tgs_nil)) rfl, by simp, et_test (e_inQ (e_var rfl) (eq_ownI 1 (e_var rfl) rfl)), fun h => e_tup (ds := [.int (num ks m.p), wD m.w]) (ea_cons ((e_indexL 1 (e_var rfl) rfl (e_var rfl) (of_decide_eq_true h)).is (by rw [kn])) (ea_cons (e_var rfl) ea_nil)) (by simp)⟩
  · simp [keptM, Function.comp_def]
  refine ht_ret (x := .dat (keptT t ks).d) ((e_plusT (ds := [.int t.S, .int t.L]) (es := [.int (max 1 (ks.length : Int)), .tup ((keptM ks t.B).map Mk.d), .tup ((keptE ks t.E).map Ed.d), .tup ((keptM ks t.F).map Mk.d)]) ((e_slT (lo := none) (hi := some 2) (e_var rfl) eo_none (eo_some e_int)).is rfl)
    (e_tup (ea_cons (e_max2 e_int ((e_lenL 1 (e_var rfl) rfl).is (by simp [intsL]))) (ea_cons (e_var rfl) (ea_cons (e_tupleL 0 (e_var rfl) rfl) (ea_cons (e_var rfl) ea_nil)))) (by simp)) (by simp)).is rfl) rfl
end
end T
set_option maxHeartbeats 2000000
namespace T
open TK
variable [TC]
def lastB (w : List Ed) : Int := ((w.getLast?).map Ed.b).getD 0
def firstA (w : List Ed) : Int := ((w.head?).map Ed.a).getD 0
def closedB (w : List Ed) : Bool := decide (lastB w = firstA w)
def extOk (w : List Ed) (e : Ed) : Bool := decide (e.a = lastB w) && (!decide (e.b ∈ (w.map Ed.a).drop 1) && !decide (e.a ∈ w.map Ed.a))
def exts (E : List Ed) (w : List Ed) : List (List Ed) := (E.filter (extOk w)).map fun e => w ++ [e]
def nextL (E : List Ed) (l : List (List Ed)) : List (List Ed) := (l.filter fun w => !closedB w).flatMap (exts E)
def latestN (E : List Ed) : Nat → List (List Ed)
  | 0 => E.map fun e => [e]
  | n + 1 => nextL E (latestN E n)
def foundN (E : List Ed) : Nat → List (List Ed)
  | 0 => []
  | n + 1 => foundN E n ++ (latestN E n).filter closedB
theorem latest_len (E : List Ed) : ∀ n, (latestN E n).length ≤ E.length ^ (n + 1)
  | 0 => by simp [latestN]
  | n + 1 => by
    have ih := latest_len E n
    have key : ∀ l : List (List Ed), ((l.filter fun w => !closedB w).flatMap (exts E)).length ≤ l.length * E.length := fun l => by
      induction l with
      | nil => simp
      | cons w l ih =>
        have h1 : (exts E w).length ≤ E.length := by
          unfold exts
          rw [List.length_map]
          exact List.length_filter_le _ _
        rw [List.filter_cons]
        split
        · rw [List.flatMap_cons, List.length_append, List.length_cons, Nat.add_mul]
          omega
        · rw [List.length_cons, Nat.add_mul]
          omega
    have h2 := key (latestN E n)
    show (nextL E (latestN E n)).length ≤ _
    rw [Nat.pow_succ]
    exact Nat.le_trans h2 (Nat.mul_le_mul_right _ ih)
theorem found_len (E : List Ed) (B : Nat) : ∀ n, (∀ k, k < n → (latestN E k).length ≤ B) → (foundN E n).length ≤ n * B
  | 0, _ => by simp [foundN]
  | n + 1, h => by
    have h1 := found_len E B n fun k hk => h k (by omega)
    have h2 := h n (by omega)
    have h3 := List.length_filter_le closedB (latestN E n)
    show (foundN E n ++ (latestN E n).filter closedB).length ≤ _
    rw [List.length_append, Nat.add_mul, Nat.one_mul]
    omega
theorem nextL_app (E : List Ed) (a b : List (List Ed)) : nextL E (a ++ b) = nextL E a ++ nextL E b := by
  unfold nextL
  rw [List.filter_append, List.flatMap_append]
theorem nextL_one (E : List Ed) (w : List Ed) : nextL E [w] = if closedB w = true then [] else exts E w := by
  unfold nextL
  cases h : closedB w <;> simp [h]
theorem nextL_take (E : List Ed) (l : List (List Ed)) (j : Nat) : (nextL E (l.take j)).length ≤ (nextL E l).length := by
  have := nextL_app E (l.take j) (l.drop j)
  rw [List.take_append_drop] at this
  rw [this, List.length_append]
  omega
def wt (w : List Ed) : Int := (w.map fun e => (e.w.length : Int) - 1).sum
def lets (w : List Ed) : Nat := (w.map fun e => e.w.length).sum
theorem wt_lets (w : List Ed) : wt w = (lets w : Int) - (w.length : Int) := by
  unfold wt lets
  induction w with
  | nil => rfl
  | cons e w ih => simp only [List.map_cons, List.sum_cons, List.length_cons]; rw [ih]; push_cast; omega
inductive Wy (E : List Ed) : List Ed → Prop
  | one {e : Ed} : e ∈ E → Wy E [e]
  | snoc {w : List Ed} {e : Ed} : Wy E w → e ∈ E → e.a = lastB w → Wy E (w ++ [e])
theorem lastB_snoc (w : List Ed) (e : Ed) : lastB (w ++ [e]) = e.b := by simp [lastB]
theorem firstA_snoc {w : List Ed} (h : w ≠ []) (e : Ed) : firstA (w ++ [e]) = firstA w := by
  cases w with
  | nil => exact absurd rfl h
  | cons a w => rfl
theorem Wy.ne {E w : List Ed} (h : Wy E w) : w ≠ [] := by cases h <;> simp
theorem Wy.mem {E w : List Ed} (h : Wy E w) : ∀ e ∈ w, e ∈ E := by
  induction h with
  | one h => intro e he; rw [List.mem_singleton.mp he]; exact h
  | snoc _ he _ ih =>
    intro x hx
    rcases List.mem_append.mp hx with z | z
    · exact ih x z
    · rw [List.mem_singleton.mp z]; exact he
theorem Wy.pth {E w : List Ed} (h : Wy E w) : Pth E (firstA w) (lastB w) w.length (wt w) := by
  induction h with
  | @one e he =>
    have := Pth.one he
    simpa [firstA, lastB, wt] using this
  | @snoc w e hw he ea ih =>
    rw [lastB_snoc, firstA_snoc hw.ne]
    have := Pth.snoc ih he ea
    have e2 : wt (w ++ [e]) = wt w + ((e.w.length : Int) - 1) := by simp [wt]
    rw [e2, List.length_append]
    exact this
theorem latest_wy {E : List Ed} : ∀ {n : Nat} {w : List Ed}, w ∈ latestN E n → Wy E w ∧ w.length = n + 1
  | 0, w, h => by
    obtain ⟨e, he, rfl⟩ := List.mem_map.mp h
    exact ⟨.one he, rfl⟩
  | n + 1, w, h => by
    obtain ⟨v, hv, hw⟩ := List.mem_flatMap.mp (show w ∈ nextL E (latestN E n) from h)
    obtain ⟨hv1, _⟩ := List.mem_filter.mp hv
    obtain ⟨e, he, rfl⟩ := List.mem_map.mp hw
    obtain ⟨he1, he2⟩ := List.mem_filter.mp he
    obtain ⟨ih1, ih2⟩ := latest_wy hv1
    unfold extOk at he2
    rw [Bool.and_eq_true, decide_eq_true_eq] at he2
    exact ⟨.snoc ih1 he1 he2.1, by rw [List.length_append, ih2]; rfl⟩
theorem found_wy {E : List Ed} : ∀ {n : Nat} {w : List Ed}, w ∈ foundN E n → Wy E w ∧ w.length ≤ n ∧ lastB w = firstA w
  | 0, w, h => by cases h
  | n + 1, w, h => by
    rcases List.mem_append.mp (show w ∈ foundN E n ++ (latestN E n).filter closedB from h) with z | z
    · obtain ⟨h1, h2, h3⟩ := found_wy z
      exact ⟨h1, by omega, h3⟩
    · obtain ⟨z1, z2⟩ := List.mem_filter.mp z
      obtain ⟨h1, h2⟩ := latest_wy z1
      exact ⟨h1, by omega, of_decide_eq_true z2⟩
theorem found_mem {E : List Ed} : ∀ {n k : Nat} {w : List Ed}, k < n → w ∈ latestN E k → closedB w = true → w ∈ foundN E n
  | 0, k, w, hk, _, _ => by omega
  | n + 1, k, w, hk, h1, h2 => by
    refine List.mem_append.mpr ?_
    by_cases c : k = n
    · subst c
      exact .inr (List.mem_filter.mpr ⟨h1, h2⟩)
    · exact .inl (found_mem (by omega) h1 h2)
theorem round_latest {E : List Ed} {ed : Nat → Ed} {k : Nat} (hE : ∀ i, i ≤ k → ed i ∈ E) (hc : ∀ i, i < k → (ed i).b = (ed (i + 1)).a) (hd : ∀ i j, i < j → j ≤ k → (ed i).a ≠ (ed j).a) (hr : (ed k).b = (ed 0).a) :
    ∀ m, m ≤ k → (List.range (m + 1)).map ed ∈ latestN E m
  | 0, _ => List.mem_map.mpr ⟨ed 0, hE 0 (Nat.zero_le _), rfl⟩
  | m + 1, hm => by
    have ih := round_latest hE hc hd hr m (by omega)
    have el : lastB ((List.range (m + 1)).map ed) = (ed m).b := by
      rw [List.range_succ, List.map_append]
      exact lastB_snoc _ _
    have ef : firstA ((List.range (m + 1)).map ed) = (ed 0).a := by
      rw [List.range_succ_eq_map]
      rfl
    have ga : ∀ x, x ∈ ((List.range (m + 1)).map ed).map Ed.a → ∃ i, i ≤ m ∧ x = (ed i).a := fun x hx => by
      rw [List.map_map] at hx
      obtain ⟨i, hi, rfl⟩ := List.mem_map.mp hx
      exact ⟨i, by have := List.mem_range.mp hi; omega, rfl⟩
    have gd : ∀ x, x ∈ (((List.range (m + 1)).map ed).map Ed.a).drop 1 → ∃ i, 1 ≤ i ∧ i ≤ m ∧ x = (ed i).a := fun x hx => by
      rw [List.range_succ_eq_map, List.map_cons, List.map_cons, List.drop_succ_cons, List.drop_zero, List.map_map, List.map_map] at hx
      obtain ⟨i, hi, rfl⟩ := List.mem_map.mp hx
      exact ⟨i + 1, by omega, by have := List.mem_range.mp hi; omega, rfl⟩
    show _ ∈ nextL E (latestN E m)
    refine List.mem_flatMap.mpr ⟨_, List.mem_filter.mpr ⟨ih, ?_⟩, ?_⟩
    · unfold closedB
      rw [el, ef, hc m (by omega)]
      have := hd 0 (m + 1) (by omega) hm
      simp only [Bool.not_eq_true', decide_eq_false_iff_not]
      exact fun z => this z.symm
    · refine List.mem_map.mpr ⟨ed (m + 1), List.mem_filter.mpr ⟨hE _ hm, ?_⟩, by rw [List.range_succ (n := m + 1), List.map_append]; rfl⟩
      unfold extOk
      rw [el, ← hc m (by omega), decide_eq_true rfl, Bool.true_and, Bool.and_eq_true, Bool.not_eq_true', Bool.not_eq_true', decide_eq_false_iff_not, decide_eq_false_iff_not]
      refine ⟨fun z => ?_, fun z => ?_⟩
      · obtain ⟨i, h1, h2, e⟩ := gd _ z
        by_cases c : m + 1 < k
        · rw [hc (m + 1) c] at e
          exact hd i (m + 2) (by omega) (by omega) e.symm
        · have : m + 1 = k := by omega
          rw [this, hr] at e
          exact hd 0 i (by omega) (by omega) e
      · obtain ⟨i, h1, e⟩ := ga _ z
        rw [hc m (by omega)] at e
        exact hd i (m + 1) (by omega) hm e.symm
theorem wt_range (ed : Nat → Ed) : ∀ n, wt ((List.range n).map ed) = ((List.range n).map fun i => (((ed i).w.length : Int) - 1)).sum := fun n => by
  unfold wt
  rw [List.map_map]
  rfl
theorem round_found {E : List Ed} {N : Nat} (hE : ∀ e ∈ E, 0 ≤ e.a ∧ e.a < (N : Int)) (good : Int → Prop) (h0 : ¬ good 0) (split : ∀ x y, good (x + y) → good x ∨ good y) :
    ∀ (k : Nat) {c g : Int}, Pth E c c k g → good g → ∃ w ∈ foundN E N, good (wt w) := by
  intro k
  induction k using Nat.strongRecOn with
  | ind k ih =>
    intro c g a hg
    obtain ⟨pl, gl, p0, pn, g0, gn, hs⟩ := a.seq
    cases k with
    | zero =>
      rw [g0] at gn
      exact absurd (gn ▸ hg) h0
    | succ k =>
      by_cases hd : ∃ i j, i < j ∧ j ≤ k ∧ pl i = pl j
      · obtain ⟨i, j, hij, hj, e⟩ := hd
        have a1 := seq_pth hs 0 i (by omega)
        have a2 := seq_pth hs i (j - i) (by omega)
        have a3 := seq_pth hs j (k + 1 - j) (by omega)
        rw [Nat.zero_add, p0, g0] at a1
        rw [show i + (j - i) = j by omega, ← e] at a2
        rw [show j + (k + 1 - j) = k + 1 by omega, pn, gn, ← e] at a3
        have a13 := a1.trans a3
        have eg : g = (gl j - gl i) + (gl i - 0 + (g - gl j)) := by omega
        rw [eg] at hg
        rcases split _ _ hg with z | z
        · exact ih (j - i) (by omega) a2 z
        · exact ih (i + (k + 1 - j)) (by omega) a13 z
      · -- edges
        have hex : ∀ i, ∃ e : Ed, i ≤ k → e ∈ E ∧ e.a = pl i ∧ e.b = pl (i + 1) ∧ gl (i + 1) = gl i + ((e.w.length : Int) - 1) := fun i => by
          by_cases c : i ≤ k
          · obtain ⟨e, h1, h2, h3, h4⟩ := hs i (by omega)
            exact ⟨e, fun _ => ⟨h1, h2, h3, h4⟩⟩
          · exact ⟨⟨0, 0, 0, []⟩, fun h => absurd h c⟩
        have ed := fun i => Classical.choose (hex i)
        obtain ⟨ed, hed⟩ : ∃ ed : Nat → Ed, ∀ i, i ≤ k → ed i ∈ E ∧ (ed i).a = pl i ∧ (ed i).b = pl (i + 1) ∧ gl (i + 1) = gl i + (((ed i).w.length : Int) - 1) := ⟨fun i => Classical.choose (hex i), fun i => Classical.choose_spec (hex i)⟩
        have hd' : ∀ i j, i < j → j ≤ k → (ed i).a ≠ (ed j).a := fun i j h1 h2 e => hd ⟨i, j, h1, h2, by rw [← (hed i (by omega)).2.1, ← (hed j h2).2.1]; exact e⟩
        have hl := round_latest (E := E) (ed := ed) (k := k) (fun i hi => (hed i hi).1) (fun i hi => by rw [(hed i (by omega)).2.2.1, (hed (i + 1) hi).2.1]) hd' (by rw [(hed k (Nat.le_refl _)).2.2.1, (hed 0 (Nat.zero_le _)).2.1, pn, p0]) k (Nat.le_refl _)
        have hkN : k < N := by
          have := nodup_len (l := (List.range (k + 1)).map fun i => (ed i).a) (U := upTo N) (by
            rw [List.nodup_iff_pairwise_ne, List.pairwise_map, List.pairwise_iff_getElem]
            intro i j hi hj hij
            rw [List.getElem_range, List.getElem_range]
            rw [List.length_range] at hj
            exact hd' i j hij (by omega)) fun x hx => by
              obtain ⟨i, hi, rfl⟩ := List.mem_map.mp hx
              have hi := List.mem_range.mp hi
              obtain ⟨b1, b2⟩ := hE _ (hed i (by omega)).1
              exact List.mem_map.mpr ⟨((ed i).a).toNat, List.mem_range.mpr (by omega), by omega⟩
          rw [List.length_map, List.length_range] at this
          simp [upTo] at this
          omega
        have hw : ∀ n, n ≤ k + 1 → wt ((List.range n).map ed) = gl n := fun n => by
          induction n with
          | zero => intro _; rw [g0]; rfl
          | succ n ihn =>
            intro hn
            have e2 : wt ((List.range (n + 1)).map ed) = wt ((List.range n).map ed) + (((ed n).w.length : Int) - 1) := by
              rw [List.range_succ, List.map_append]
              simp [wt]
            rw [e2, ihn (by omega), (hed n (by omega)).2.2.2]
        refine ⟨_, found_mem hkN hl ?_, by rw [hw _ (Nat.le_refl _), gn]; exact hg⟩
        unfold closedB
        refine decide_eq_true ?_
        have e1 : lastB ((List.range (k + 1)).map ed) = (ed k).b := by
          rw [List.range_succ, List.map_append]
          exact lastB_snoc _ _
        have e2 : firstA ((List.range (k + 1)).map ed) = (ed 0).a := by
          rw [List.range_succ_eq_map]
          rfl
        rw [e1, e2, (hed k (Nat.le_refl _)).2.2.1, (hed 0 (Nat.zero_le _)).2.1, pn, p0]
end T
set_option maxHeartbeats 2000000
namespace T
open PySem L2 NdefX LamX TK
variable [TC]
abbrev Ways := List (Addr × List Ed)
def edsA (w : List Ed) : List TK.A := (w.map Ed.d).map .dat
def waysM (W : Ways) : Mu := W.map fun p => (p.1, C.lst (edsA p.2))
def owns (W : Ways) : List TK.A := W.map fun p => .own p.1
theorem waysM_at {W : Ways} {p : Addr × List Ed} (h : p ∈ W) : ∃ j : Nat, (waysM W)[j]? = some (p.1, C.lst (edsA p.2)) := by
  obtain ⟨j, hj⟩ := List.mem_iff_getElem?.mp h
  exact ⟨j, by unfold waysM; rw [List.getElem?_map, hj]; rfl⟩
theorem waysM_app (W V : Ways) : waysM (W ++ V) = waysM W ++ waysM V := by unfold waysM; rw [List.map_append]
theorem edsA_get {w : List Ed} {i : Nat} : (edsA w)[i]? = (w[i]?).map fun e => TK.A.dat e.d := by unfold edsA; rw [List.getElem?_map, List.getElem?_map]; cases w[i]? <;> rfl
theorem edsA_len (w : List Ed) : (edsA w).length = w.length := by simp [edsA]
theorem edsA_last {w : List Ed} {e : Ed} (h : w.getLast? = some e) : atI (edsA w) (-1) = some (.dat e.d) := atI_last (by
  unfold edsA
  rw [List.getLast?_map, List.getLast?_map, h]
  rfl)
theorem edsA_first {w : List Ed} {e : Ed} (h : w.head? = some e) : atI (edsA w) 0 = some (.dat e.d) := by
  cases w with
  | nil => cases h
  | cons a w =>
    cases h
    have e1 : ixN (edsA (e :: w)).length 0 = some 0 := by
      unfold ixN
      rw [if_pos (by omega), if_pos (by rw [edsA_len, List.length_cons]; omega)]
      rfl
    unfold atI
    rw [e1]
    rfl
theorem cut1 {α : Type} (l : List α) : cutL l (some 1) none = l.drop 1 := by
  unfold cutL
  have e1 : _root_.HT.sIx l.length 0 (some 1) = min 1 l.length := _root_.HT.sIx_nat l.length 0 1
  have e2 : _root_.HT.sIx l.length l.length none = l.length := rfl
  rw [e1, e2]
  cases l with
  | nil => rfl
  | cons a l =>
    rw [Nat.min_eq_left (by simp), List.take_of_length_le (by simp)]
structure Own3 (W Fs Ls : Ways) (E : List Ed) (F L : List (List Ed)) : Prop where
  f : ∀ p ∈ Fs, p ∈ W
  l : ∀ p ∈ Ls, p ∈ W
  fe : Fs.map (·.2) = F
  le : Ls.map (·.2) = L
def G_loops : List TK.A → Mu → (TK.A → Mu → Prop) → Prop := fun xs μ R => ∃ u : Tn, xs = [.dat u.d] ∧ μ = [] ∧ 0 ≤ u.N ∧ u.N ≤ 4 ∧ u.E.length ≤ 8 ∧
  R = fun x μ' => ∃ (f : Addr) (W Fs : Ways), x = .own f ∧ (∀ p ∈ Fs, p ∈ W) ∧ Fs.map (·.2) = foundN u.E u.N.toNat ∧ μ' = (f, C.lst (owns Fs)) :: waysM W
section
variable {P : Program} {w : World} {K : PySem.W.Frag} {mg : Str → Option Value} {base : Heap}
abbrev N__law_loops : List Str := ["turner", "found", "latest", "turn", "longer", "way", "gone", "edge"]
abbrev P__law_loops : List Str := ["turner"]
theorem sc__law_loops : FnScope N__law_loops P__law_loops (defScope s__law_loops) := ⟨rfl, rfl, rfl, by decide +kernel, rfl, by decide +kernel, by decide +kernel⟩
theorem bd__law_loops (kV doc pm : Value) (an : Option Addr) (cdv ct : Value) (us : List Value) (hl : us.length = (P__law_loops : List Str).length) : bindArgs (PySem.W.fnOf "_law_loops" "_law_loops" (defArgs s__law_loops) (defBody s__law_loops) (defScope s__law_loops) .none kV doc pm an cdv ct) ⟨us, []⟩ = pure ((P__law_loops : List Str).zip us) := match us, hl with
  | [_], _ => rfl
theorem ok__law_loops (T : Bl mg) (R : Raw K mg "_law_loops" s__law_loops) : Dn P w K mg base "_law_loops" P__law_loops 1 (spM G_loops) := by
  refine R.dnM sc__law_loops (fun ds d R ⟨u, e, _⟩ => by rw [e]; rfl) (by decide) bd__law_loops fun cdv Ao outer s H E hr => ⟨_, (pss_cons (ps_par (i := 1) (j := 2) (by rfl) sc__law_loops.nd rfl rfl (by decide) rfl rfl (pa_cons (pe_lst pa_nil) (pa_cons (pe_lc rfl sc__law_loops.nd (pi_seq (pe_ix ix_any (pv 0) pe_int (fun _ _ => rfl))) (blkOk_by (own := [("edge", 7)]) (N := N__law_loops) (sc := defScope s__law_loops) (by decide +kernel)) (fun _ _ _ _ _ => (pg_name (i := 7) sc__law_loops.nd rfl (Or.inl rfl))) (fun _ _ _ _ _ => pts_nil) (fun _ _ _ _ _ => (pe_lst (pa_cons (pv 7) pa_nil)))) pa_nil)) (by rfl))
      (pss_cons (ps_for PassesOwn.never rfl (pi_range1 rfl T.range (pa_cons (pe_ix ix_any (pv 0) pe_int (fun _ _ => rfl)) pa_nil)) (pg_name (i := 3) sc__law_loops.nd rfl (Or.inl rfl))
      (pss_cons (ps_set (i := 4) sc__law_loops.nd rfl (Or.inl rfl) (pe_lst pa_nil))
      (pss_cons (ps_for PassesOwn.never rfl (pi_seq (pv 2)) (pg_name (i := 5) sc__law_loops.nd rfl (Or.inr rfl))
      (pss_one (ps_if (pt_cmpR (op_eqA hr) (pe_ix ix_any (pe_ix ix_any (pv 5) (pe_un un_neg pe_int) (fun _ _ => rfl)) pe_int (fun _ _ => rfl)) (pe_ix ix_any (pe_ix ix_any (pv 5) pe_int (fun _ _ => rfl)) pe_int (fun _ _ => rfl)) (nomark _)) (pss_one (ps_expr (pe_bm PySem.F.plainAttrs_list PySem.F.slot_list_append PySem.F.type_list_append mt_append (pv 1) (pa_cons (pv 5) pa_nil)))) (pss_cons (ps_set (i := 6) sc__law_loops.nd rfl (Or.inr rfl) (pe_lc rfl sc__law_loops.nd (pi_seq (pv 5)) (blkOk_by (own := [("edge", 7)]) (N := N__law_loops) (sc := defScope s__law_loops) (by decide +kernel)) (fun _ _ _ _ _ => (pg_name (i := 7) sc__law_loops.nd rfl (Or.inl rfl))) (fun _ _ _ _ _ => pts_nil) (fun _ _ _ _ _ => (pe_ix (ixK (K := K) rfl ix_any) (pv 7) pe_int (fun _ _ => rfl)))))
      (pss_one (ps_set (i := 4) sc__law_loops.nd rfl (Or.inl rfl) (pe_op op_plus (pv 4) (pe_lc rfl sc__law_loops.nd (pi_seq (pe_ix ix_any (pv 0) pe_int (fun _ _ => rfl))) (blkOk_by (own := [("edge", 7)]) (N := N__law_loops) (sc := defScope s__law_loops) (by decide +kernel)) (fun _ _ _ _ _ => (pg_name (i := 7) sc__law_loops.nd rfl (Or.inl rfl))) (fun _ _ _ _ _ => pts_one (PW.pt (pw_and (pt_cmpR (opK (K := K) rfl (op_eqA hr)) (pe_ix (ixK (K := K) rfl ix_any) (pv 7) pe_int (fun _ _ => rfl)) (pe_ix (ixK (K := K) rfl ix_any) (pe_ix (ixK (K := K) rfl ix_any) (pv 5) (pe_un un_neg pe_int) (fun _ _ => rfl)) pe_int (fun _ _ => rfl)) (nomark _)) (pw_and (pt_cmpR (opK (K := K) rfl op_in1) (pe_ix (ixK (K := K) rfl ix_any) (pv 7) pe_int (fun _ _ => rfl)) (pe_slice (slK (K := K) rfl sl_any) (pv 6) (po_some pe_int) po_none) (by rfl)) (pw_and1 (pt_cmpR (opK (K := K) rfl op_in1) (pe_ix (ixK (K := K) rfl ix_any) (pv 7) pe_int (fun _ _ => rfl)) (pv 6) (by rfl))))))) (fun _ _ _ _ _ => (pe_op (opK (K := K) rfl op_plus) (pv 5) (pe_lst (pa_cons (pv 7) pa_nil))))))))))))
      (pss_one (ps_set (i := 2) sc__law_loops.nd rfl (Or.inl rfl) (pv 4))))))
      (pss_one (ps_ret (pv 1))))), ?_⟩
  rintro xs μ R ⟨u, rfl, rfl, hN0, hN4, hE8, rfl⟩
  have lL : ∀ n, n ≤ 4 → (latestN u.E n).length ≤ 32768 := fun n hn => Nat.le_trans (latest_len u.E n) (Nat.le_trans (Nat.pow_le_pow_left hE8 _) (Nat.le_trans (Nat.pow_le_pow_right (by decide) (show n + 1 ≤ 5 by omega)) (by decide)))
  have lL3 : ∀ n, n ≤ 3 → (latestN u.E n).length ≤ 4096 := fun n hn => Nat.le_trans (latest_len u.E n) (Nat.le_trans (Nat.pow_le_pow_left hE8 _) (Nat.le_trans (Nat.pow_le_pow_right (by decide) (show n + 1 ≤ 4 by omega)) (by decide)))
  have lF : ∀ n, n ≤ 4 → (foundN u.E n).length ≤ 4 * 4096 := fun n hn => Nat.le_trans (found_len u.E 4096 n fun k hk => lL3 k (by omega)) (Nat.mul_le_mul_right _ hn)
  let δL : Addr → Addr → Dl := fun f l => [some (.dat u.d), some (.own f), some (.own l), none, none, none, none, none]
  let δ2 : Addr → Addr → Addr → Dl := fun f l g => [some (.dat u.d), some (.own f), some (.own l), none, some (.own g), none, none, none]
  let M : Addr → Ways → Addr → Ways → Ways → Mu := fun f Fs l Ls W => (f, C.lst (owns Fs)) :: (l, C.lst (owns Ls)) :: waysM W
  let I : Nat → Dl → Mu → Prop := fun i δ μ => ∃ f l Fs Ls W, μ = M f Fs l Ls W ∧ Own3 W Fs Ls u.E (foundN u.E i) (latestN u.E i) ∧ LeD δ (δL f l)
  refine ht_seq (ht_parX (exa_XX (TK.EN.ex (o := .lst []) (en_lst ea_nil (by simp))) (S := fun _ μ1 y μ' => ∃ (l : Addr) (Ws : Ways), y = .own l ∧ Ws.map (·.2) = u.E.map (fun e => [e]) ∧ μ' = (l, C.lst (owns Ws)) :: (waysM Ws.reverse ++ μ1)) fun x μ1 hx => ?_) fun xs μ2 hx => ?_)
  · refine EX.mono (ex_lcE (l := u.E) (q := fun e => .dat e.d) (ei_seqM (e_ixT (e_var rfl) e_int rfl)) (by omega) (fun ys μ2 => ∃ Ws : Ways, ys = owns Ws ∧ Ws.map (·.2) = (u.E.take ys.length).map (fun e => [e]) ∧ μ2 = waysM Ws.reverse ++ μ1) ⟨[], rfl, rfl, rfl⟩ ?_) ?_
    · rintro i e ys μ2 hi hy ⟨Ws, rfl, hW, rfl⟩
      refine ⟨_, _, tg_name, by simp, EX.mono (TK.EN.ex (en_lst (xs := [.dat e.d]) (ea_cons (e_var rfl) ea_nil) (by simp))) ?_⟩
      rintro x μ2 ⟨p, rfl, rfl⟩
      refine ⟨Ws ++ [(p, [e])], by simp [owns], ?_, by simp [waysM, edsA]⟩
      rw [hy] at hW
      rw [List.map_append, hW, List.length_append, hy, List.length_singleton, List.take_succ, hi]
      simp
    · rintro x μ2 ⟨p, ys, μ3, rfl, rfl, ⟨Ws, rfl, hW, rfl⟩, hl⟩
      rw [hl, List.take_length] at hW
      exact ⟨p, Ws, rfl, hW, rfl⟩
  obtain ⟨x, y, μ1, rfl, ⟨f, rfl, rfl⟩, l, Ls, rfl, hL, rfl⟩ := hx
  refine ⟨_, _, rfl, ?_⟩
  refine HT.perm (μ' := M f [] l Ls Ls.reverse) ?_ (List.perm_append_singleton (f, C.lst []) ((l, C.lst (owns Ls)) :: waysM Ls.reverse))
  refine ht_cut (N := I u.N.toNat) (ht_forR (n := u.N) (ea_cons (e_ixT (e_var rfl) e_int rfl) ea_nil) (by omega) (by omega) I ⟨f, l, [], Ls, Ls.reverse, rfl, ⟨(fun p h => by cases h), fun p h => List.mem_reverse.mpr h, rfl, hL⟩, ?_⟩ ?_ fun δ1 μ1 h => h) ?_
  · repeat (first | exact LeD.refl _ | refine led_cons (.inr rfl) ?_ | refine led_cons (.inl rfl) ?_)
  · clear hL
    rintro i δ1 μ1 hi ⟨f, l, Fs, Ls, W, rfl, o, hle⟩
    have i3 : i ≤ 3 := by omega
    refine ⟨_, _, tg_name, ?_⟩
    refine HT.le (δ' := δL f l) ?_ (hle.set rfl)
    refine ht_seq (ht_setN (o := .lst (owns [])) (en_lst ea_nil (Nat.zero_le _)) fun g0 => ?_)
    have hLl : Ls.length = (latestN u.E i).length := by rw [← o.le, List.length_map]
    let J : Nat → Dl → Mu → Prop := fun j δ μ => ∃ g Fs' Gs W', μ = (g, C.lst (owns Gs)) :: M f Fs' l Ls W' ∧ Own3 W' Fs' Gs u.E (foundN u.E i ++ ((latestN u.E i).take j).filter closedB) (nextL u.E ((latestN u.E i).take j)) ∧ (∀ p ∈ Ls, p ∈ W') ∧ LeD δ (δ2 f l g)
    refine ht_cut (N := J Ls.length) (ht_forLX (TK.E.ex (x := .own l) (e_var rfl)) fun x μ2 ⟨e1, e2⟩ => ⟨l, e1, ?_⟩) ?_
    · subst e1 e2
      refine ht_forL (a := l) (xs := owns Ls) e_val J ⟨g0, Fs, [], W, rfl, ⟨o.f, (fun p h => by cases h), by rw [List.take_zero, List.filter_nil, List.append_nil]; exact o.fe, rfl⟩, o.l, ?_⟩ (fun j δ3 μ3 ⟨g, Fs', Gs, W', e, _⟩ => ⟨2, by rw [e]; rfl⟩) ?_ ?_
      · repeat (first | exact LeD.refl _ | refine led_cons (.inr rfl) ?_ | refine led_cons (.inl rfl) ?_)
      · rintro j x δ3 μ3 hx ⟨g, Fs', Gs, W', rfl, o', hLW, hle3⟩
        unfold owns at hx
        rw [List.getElem?_map] at hx
        cases hp : Ls[j]? with
        | none => rw [hp] at hx; cases hx
        | some p =>
          rw [hp] at hx
          obtain rfl : TK.A.own p.1 = x := Option.some.inj hx
          have hpw : (latestN u.E i)[j]? = some p.2 := by rw [← o.le, List.getElem?_map, hp]; rfl
          have etk : (latestN u.E i).take (j + 1) = (latestN u.E i).take j ++ [p.2] := by rw [List.take_succ, hpw]; rfl
          obtain ⟨wy, wl⟩ := latest_wy (List.mem_of_getElem? hpw)
          have hjl : j < (latestN u.E i).length := (List.getElem?_eq_some_iff.mp hpw).1
          obtain ⟨jw, hjw⟩ := waysM_at (hLW p (List.mem_of_getElem? hp))
          obtain ⟨el, hel⟩ : ∃ el, p.2.getLast? = some el := by
            cases h : p.2.getLast? with
            | none => exact absurd (List.getLast?_eq_none_iff.mp h) wy.ne
            | some e => exact ⟨e, rfl⟩
          obtain ⟨ef, hef⟩ : ∃ ef, p.2.head? = some ef := by
            cases h : p.2.head? with
            | none => exact absurd (List.head?_eq_none_iff.mp h) wy.ne
            | some e => exact ⟨e, rfl⟩
          have lb : lastB p.2 = el.b := by unfold lastB; rw [hel]; rfl
          have fa : firstA p.2 = ef.a := by unfold firstA; rw [hef]; rfl
          refine ⟨_, _, tg_name, ?_⟩
          refine HT.le (δ' := (δ2 f l g).set 5 (some (.own p.1))) ?_ hle3.put
          refine HT.fgp ?_
          refine ht_if (b := closedB p.2) ((et_test (e_eqAI (e_ixT (ds := [.int el.a, .int el.s, .int el.b, wD el.w]) (e_ixA (x := .dat el.d) (jw + 3) (e_var rfl) (e_neg e_int) hjw (edsA_last hel)) e_int rfl) (e_ixT (ds := [.int ef.a, .int ef.s, .int ef.b, wD ef.w]) (e_ixA (x := .dat ef.d) (jw + 3) (e_var rfl) e_int hjw (edsA_first hef)) e_int rfl))).is (by unfold closedB; rw [lb, fa])) (fun hb => ?_) fun hb => ?_
          · refine ht_dropX (ex_app 1 (e_var rfl) (e_var rfl) rfl ?_) fun x μ4 ⟨_, e4⟩ => ?_
            · unfold owns
              rw [List.length_map, ← List.length_map (f := (·.2)), o'.fe, List.length_append]
              have h1 := lF i (by omega)
              have h2 := lL3 i i3
              have h3 := List.length_filter_le closedB ((latestN u.E i).take j)
              have h4 : ((latestN u.E i).take j).length ≤ (latestN u.E i).length := by rw [List.length_take]; omega
              omega
            · rw [e4]
              refine ⟨_, _, ⟨g, Fs' ++ [p], Gs, W', rfl, ⟨fun q hq => ?_, o'.l, ?_, ?_⟩, hLW, (LeD.refl (δ2 f l g)).set rfl⟩, List.Sublist.refl _, ?_⟩
              · rcases List.mem_append.mp hq with z | z
                · exact o'.f q z
                · rw [List.mem_singleton.mp z]; exact hLW p (List.mem_of_getElem? hp)
              · rw [List.map_append, o'.fe, etk, List.filter_append, ← List.append_assoc]
                simp [hb]
              · rw [etk, nextL_app, nextL_one, if_pos hb, List.append_nil]; exact o'.le
              · simp [owns, M]
          · have hm2 : (waysM W')[jw]? = some (p.1, C.lst (p.2.map fun e => TK.A.dat e.d)) := by rw [hjw]; simp [edsA, Function.comp_def]
            refine ht_seq (ht_setN (o := .lst (intsL (p.2.map Ed.a))) (en_is (en_lcGY (l := p.2) (q := fun e => .dat e.d) (ei_seqL (jw + 3) (e_var rfl) hm2) (by omega) (fun e => .dat (.int e.a)) fun e he => ⟨_, _, tg_name, by simp, e_ixT (ds := [.int e.a, .int e.s, .int e.b, wD e.w]) (e_var rfl) e_int rfl⟩) (by simp [intsL, Function.comp_def])) fun go => ?_)
            let μ0 : Mu := (go, C.lst (intsL (p.2.map Ed.a))) :: (g, C.lst (owns Gs)) :: M f Fs' l Ls W'
            refine ht_setX (R := fun x μ' => ∃ (g' q : Addr) (Ws : Ways), x = .own g' ∧ Ws.map (·.2) = exts u.E p.2 ∧ μ' = (g', C.lst (owns (Gs ++ Ws))) :: (q, C.lst (owns Ws)) :: (waysM Ws.reverse ++ μ0)) (ex_catX (a := g) (R := fun y μ' => ∃ (q : Addr) (Ws : Ways), y = .own q ∧ Ws.map (·.2) = exts u.E p.2 ∧ μ' = (q, C.lst (owns Ws)) :: (waysM Ws.reverse ++ μ0)) (e_var rfl)
              (EX.mono (ex_lcF (l := u.E) (q := fun e => .dat e.d) (ei_seqM (e_ixT (e_var rfl) e_int rfl)) (by omega) (extOk p.2) (fun k ys μ1 => ∃ Ws : Ways, ys = owns Ws ∧ Ws.map (·.2) = ((u.E.take k).filter (extOk p.2)).map (fun e => p.2 ++ [e]) ∧ μ1 = waysM Ws.reverse ++ μ0) ⟨[], rfl, by simp, rfl⟩ ?_) ?_) ?_) ?_
            · rintro k e ys μ1 hk hy ⟨Ws, rfl, hW, rfl⟩
              have etk2 : u.E.take (k + 1) = u.E.take k ++ [e] := by rw [List.take_succ, hk]; rfl
              refine ⟨_, _, tg_name, by simp, (et_and (et_test (e_eqAI (e_ixT (ds := [.int e.a, .int e.s, .int e.b, wD e.w]) (e_var rfl) e_int rfl) (e_ixT (ds := [.int el.a, .int el.s, .int el.b, wD el.w]) (e_ixA (x := .dat el.d) _ (e_var rfl) (e_neg e_int) (at_app (n := jw + 4) hjw) (edsA_last hel)) e_int rfl))) fun _ =>
                et_and (et_test (e_ninQ (e_ixT (ds := [.int e.a, .int e.s, .int e.b, wD e.w]) (e_var rfl) e_int rfl) (eq_newI (l := (p.2.map Ed.a).drop 1) (en_is (en_slL _ (e_var rfl) (at_app (n := 0) rfl) (eo_some e_int) eo_none) (by rw [cut1]; simp [intsL]))))) fun _ =>
                et_test (e_ninQ (e_ixT (ds := [.int e.a, .int e.s, .int e.b, wD e.w]) (e_var rfl) e_int rfl) (eq_ownI _ (e_var rfl) (at_app (n := 0) rfl)))).is (by unfold extOk; rw [lb]), fun hx => ?_, fun hx => ?_⟩
              · refine EX.mono (TK.EN.ex (en_catN _ (e_var rfl) (at_app (n := jw + 4) hjw) (en_lst (xs := [.dat e.d]) (ea_cons (e_var rfl) ea_nil) (by simp)) (by rw [edsA_len]; simp; omega))) ?_
                rintro x μ2 ⟨q, rfl, rfl⟩
                refine ⟨Ws ++ [(q, p.2 ++ [e])], by simp [owns], ?_, by simp [waysM, edsA]⟩
                rw [List.map_append, hW, etk2, List.filter_append, List.map_append]
                simp [hx]
              · refine ⟨Ws, rfl, ?_, rfl⟩
                rw [hW, etk2, List.filter_append]
                simp [hx]
            · rintro x μ2 ⟨q, ys, μ3, rfl, rfl, ⟨Ws, rfl, hW, rfl⟩, _⟩
              rw [List.take_length] at hW
              exact ⟨q, Ws, rfl, hW, rfl⟩
            · rintro y μ2 ⟨q, Ws, rfl, hW, rfl⟩
              refine ⟨(waysM Ws.reverse).length + 1 + 1, 0, q, owns Gs, owns Ws, rfl, ?_, rfl, ?_, fun l' => ⟨l', q, Ws, rfl, hW, by simp [owns]⟩⟩
              · exact at_app (n := 1) rfl
              · have h1 := nextL_take u.E (latestN u.E i) (j + 1)
                have h2 := lL (i + 1) (by omega)
                have h3 : (nextL u.E (latestN u.E i)).length ≤ 32768 := h2
                rw [etk, nextL_app, nextL_one, if_neg (by rw [hb]; decide), List.length_append, ← o'.le, ← hW, List.length_map, List.length_map] at h1
                unfold owns
                rw [List.length_map, List.length_map]
                omega
            · rintro x μ2 ⟨g', q, Ws, rfl, hW, rfl⟩
              refine ⟨(q, C.lst (owns Ws)) :: (go, C.lst (intsL (p.2.map Ed.a))) :: (g, C.lst (owns Gs)) :: (g', C.lst (owns (Gs ++ Ws))) :: M f Fs' l Ls (Ws.reverse ++ W'), (g', C.lst (owns (Gs ++ Ws))) :: M f Fs' l Ls (Ws.reverse ++ W'), ⟨g', Fs', Gs ++ Ws, Ws.reverse ++ W', rfl, ⟨fun z hz => List.mem_append_right _ (o'.f z hz), fun z hz => ?_, ?_, ?_⟩, fun z hz => List.mem_append_right _ (hLW z hz), ?_⟩, .cons _ (.cons _ (.cons _ (List.Sublist.refl _))), ?_⟩
              · rcases List.mem_append.mp hz with z1 | z1
                · exact List.mem_append_right _ (o'.l z z1)
                · exact List.mem_append_left _ (List.mem_reverse.mpr z1)
              · rw [o'.fe, etk, List.filter_append]
                simp [hb]
              · rw [List.map_append, o'.le, hW, etk, nextL_app, nextL_one, if_neg (by rw [hb]; decide)]
              · repeat (first | exact LeD.refl _ | refine led_cons (.inr rfl) ?_ | refine led_cons (.inl rfl) ?_)
              · show List.Perm ((g', C.lst (owns (Gs ++ Ws))) :: (q, C.lst (owns Ws)) :: (waysM Ws.reverse ++ ((go, C.lst (intsL (p.2.map Ed.a))) :: (g, C.lst (owns Gs)) :: (f, C.lst (owns Fs')) :: (l, C.lst (owns Ls)) :: waysM W'))) ((q, C.lst (owns Ws)) :: (go, C.lst (intsL (p.2.map Ed.a))) :: (g, C.lst (owns Gs)) :: (g', C.lst (owns (Gs ++ Ws))) :: (f, C.lst (owns Fs')) :: (l, C.lst (owns Ls)) :: waysM (Ws.reverse ++ W'))
                rw [waysM_app]
                refine (List.Perm.swap _ _ _).trans (List.Perm.cons _ ?_)
                refine (List.Perm.cons _ (perm_pull4 _ _ _ _ _ _)).trans ?_
                exact (List.Perm.swap _ _ _).trans ((List.Perm.swap _ _ _).cons _)
      · rintro δ3 μ3 h
        rw [show (owns Ls).length = Ls.length by simp [owns]] at h
        exact h
    · rintro δ3 μ3 ⟨g, Fs', Gs, W', rfl, o', hLW, hle3⟩
      refine HT.le (δ' := δ2 f l g) ?_ hle3
      refine HT.fgp ?_
      rw [hLl, List.take_length] at o'
      refine ht_set (x := .own g) (e_var rfl) ⟨(l, C.lst (owns Ls)) :: M f Fs' g Gs W', M f Fs' g Gs W', ⟨f, g, Fs', Gs, W', rfl, ⟨o'.f, o'.l, o'.fe, o'.le⟩, ?_⟩, .cons _ (List.Sublist.refl _), ?_⟩
      · repeat (first | exact LeD.refl _ | refine led_cons (.inr rfl) ?_ | refine led_cons (.inl rfl) ?_)
      · exact (List.Perm.swap _ _ _).trans (((List.Perm.swap _ _ _).cons _).trans (List.Perm.swap _ _ _))
  · rintro δ1 μ1 ⟨f, l, Fs, Ls, W, rfl, o, hle⟩
    refine HT.le (δ' := δL f l) ?_ hle
    exact ht_retS (TK.E.ex (x := .own f) (e_var rfl)) fun x μ2 ⟨e1, e2⟩ => ⟨(f, C.lst (owns Fs)) :: waysM W, ⟨f, W, Fs, e1, o.f, o.fe, rfl⟩, by rw [e2]; exact .cons₂ _ (.cons _ (List.Sublist.refl _))⟩
end
end T
set_option maxHeartbeats 2000000
namespace T
open PySem L2 NdefX LamX TK
variable [TC]
abbrev Row := List (Int × (Int × Int))
def prT (p : Int × Int) : TK.A := .dat (.tup [.int p.1, .int p.2])
def hS (hs : Row) : List (Key × TK.A) := kI (hs.map fun p => (p.1, prT p.2))
theorem hS_val {hs : Row} {p : Int} : valA (hS hs) (.inl p) = (hs.lookup p).map prT := by
  unfold hS
  rw [val_kI, look_map]
theorem hS_put {hs : Row} {p : Int} {v : Int × Int} : putA (hS hs) (.inl p) (prT v) = hS (putI hs p v) := by
  unfold hS
  rw [put_kI, putI_map]
theorem hS_len {hs : Row} : (hS hs).length = hs.length := by simp [hS, kI]
structure SX (t : Tn) (n : Nat) (S : Int → Int → Prop) (hs : Row) : Prop where
  nd : (hs.map (·.1)).Nodup
  att : ∀ p x, hs.lookup p = some x → Wx t p n x.1 ∧ Wx t p n x.2
  cov : ∀ p v, S p v → ∃ x, hs.lookup p = some x ∧ x.1 ≤ v ∧ v ≤ x.2
theorem SX.len {t : Tn} {n : Nat} {S : Int → Int → Prop} {hs : Row} (h : SX t n S hs) (z : t.Sz) : hs.length ≤ 2000 := by
  have := nodup_len (U := t.B.map Mk.p ++ t.E.map Ed.b) h.nd fun p hp => by
    have := look_some.mpr hp
    cases e : hs.lookup p with
    | none => rw [e] at this; cases this
    | some v => exact (h.att p v e).1.place
  rw [List.length_map, List.length_append, List.length_map, List.length_map] at this
  have := z.lb
  have := z.le
  omega
theorem SX.nil {t : Tn} {n : Nat} {S : Int → Int → Prop} (h : ∀ p v, ¬ S p v) : SX t n S [] := ⟨List.nodup_nil, (fun p h e => by cases e), fun p v q => absurd q (h p v)⟩
theorem mm {a b c : Int} (h : c = a ∨ c = b) {P : Int → Prop} (h1 : P a) (h2 : P b) : P c := h.elim (fun e => e ▸ h1) fun e => e ▸ h2
theorem SX.put {t : Tn} {n : Nat} {S S' : Int → Int → Prop} {hs : Row} (h : SX t n S hs) {q x y : Int} (hx : Wx t q n x) (hy : Wx t q n y) (hS : ∀ p v, S' p v → S p v ∨ (p = q ∧ x ≤ v ∧ v ≤ y)) :
    SX t n S' (putI hs q (min ((hs.lookup q).getD (x, y)).1 x, max ((hs.lookup q).getD (x, y)).2 y)) := by
  refine ⟨putI_nd h.nd, fun p z e => ?_, fun p v s => ?_⟩
  · rw [putI_look] at e
    by_cases c : p = q
    · rw [if_pos c] at e
      cases e
      rw [c]
      have h0 : Wx t q n ((hs.lookup q).getD (x, y)).1 ∧ Wx t q n ((hs.lookup q).getD (x, y)).2 := by
        cases e2 : hs.lookup q with
        | none => exact ⟨hx, hy⟩
        | some z => exact h.att _ _ e2
      exact ⟨mm (by omega : min ((hs.lookup q).getD (x, y)).1 x = ((hs.lookup q).getD (x, y)).1 ∨ min ((hs.lookup q).getD (x, y)).1 x = x) h0.1 hx, mm (by omega : max ((hs.lookup q).getD (x, y)).2 y = ((hs.lookup q).getD (x, y)).2 ∨ max ((hs.lookup q).getD (x, y)).2 y = y) h0.2 hy⟩
    · rw [if_neg c] at e
      exact h.att p z e
  · rw [putI_look]
    by_cases c : p = q
    · rw [if_pos c]
      refine ⟨_, rfl, ?_⟩
      rcases hS p v s with s1 | ⟨_, h1, h2⟩
      · obtain ⟨z, h1, h2, h3⟩ := h.cov p v s1
        rw [c] at h1
        rw [h1, Option.getD_some]
        exact ⟨by show min z.1 x ≤ v; omega, by show v ≤ max z.2 y; omega⟩
      · refine ⟨by show min _ x ≤ v; omega, by show v ≤ max _ y; omega⟩
    · rw [if_neg c]
      rcases hS p v s with s1 | ⟨e, _⟩
      · exact h.cov p v s1
      · exact absurd e c
def IsSpan (t : Tn) (n : Nat) (hs : Row) : Prop := SX t n (fun p v => Wx t p n v) hs
abbrev Rows := List (Addr × Row)
def rowsM (Rw : Rows) : Mu := Rw.map fun r => (r.1, C.dk (hS r.2))
def ownR (Rw : Rows) : List TK.A := Rw.reverse.map fun r => .own r.1
def spM_ (f : Addr) (Rw : Rows) : Mu := (f, C.lst (ownR Rw)) :: rowsM Rw
structure IsSpans (t : Tn) (n : Nat) (Rw : Rows) : Prop where
  len : Rw.length = n + 1
  at_ : ∀ k r, Rw.reverse[k]? = some r → IsSpan t k r.2
def G_spans : List TK.A → Mu → (TK.A → Mu → Prop) → Prop := fun xs μ R => ∃ (u : Tn) (n : Nat), xs = [.dat u.d, .dat (.int (n : Int))] ∧ μ = [] ∧ u.Sz ∧ n ≤ 100 ∧
  R = fun x μ' => ∃ f Rw, x = .own f ∧ μ' = spM_ f Rw ∧ IsSpans u n Rw
theorem ownR_last (r : Addr × Row) (Rw : Rows) : atI (ownR (r :: Rw)) (-1) = some (.own r.1) := atI_last (by
  unfold ownR
  rw [List.reverse_cons, List.map_append]
  simp)
theorem prT_is {o : Option TK.A} {x : Int × Int} {y : Option (Int × Int)} (h : o = y.map prT) : o.getD (prT x) = prT (y.getD x) := by
  rw [h]
  cases y <;> rfl
section
variable {P : Program} {w : World} {K : PySem.W.Frag} {mg : Str → Option Value} {base : Heap}
end
end T
set_option maxHeartbeats 2000000
namespace T
open PySem L2 NdefX LamX TK
variable [TC]
def optP : Option (Int × Int) → D
  | none => .non
  | some p => .tup [.int p.1, .int p.2]
def IsWhole (t : Tn) (n : Nat) : Option (Int × Int) → Prop
  | some p => (∃ g, Run t n g ∧ p.1 = g + (n : Int)) ∧ (∃ g, Run t n g ∧ p.2 = g + (n : Int)) ∧ ∀ g, Run t n g → p.1 ≤ g + (n : Int) ∧ g + (n : Int) ≤ p.2
  | none => ∀ g, ¬ Run t n g
structure IsWholes (t : Tn) (n : Nat) (ws : List (Option (Int × Int))) : Prop where
  len : ws.length = n + 1
  at_ : ∀ k r, ws[k]? = some r → IsWhole t k r
def wsA (ws : List (Option (Int × Int))) : List TK.A := ws.map fun r => .dat (optP r)
def endLo (hs : Row) (F : List Mk) : List Int := (F.filter fun f => (hs.lookup f.p).isSome).map fun f => ((hs.lookup f.p).getD (0, 0)).1 + (f.w.length : Int)
def endHi (hs : Row) (F : List Mk) : List Int := (F.filter fun f => (hs.lookup f.p).isSome).map fun f => ((hs.lookup f.p).getD (0, 0)).2 + (f.w.length : Int)
theorem whole_ex {t : Tn} {n : Nat} {hs : Row} (h : IsSpan t n hs) : ∃ r, IsWhole t n r ∧ (r = none → endLo hs t.F = []) ∧ ∀ p, r = some p → endLo hs t.F ≠ [] ∧ (p.1 ∈ endLo hs t.F ∧ ∀ y ∈ endLo hs t.F, p.1 ≤ y) ∧ (p.2 ∈ endHi hs t.F ∧ ∀ y ∈ endHi hs t.F, y ≤ p.2) := by
  have toLo : ∀ y ∈ endLo hs t.F, ∃ g, Run t n g ∧ y = g + (n : Int) := fun y hy => by
    obtain ⟨f, hf, rfl⟩ := List.mem_map.mp hy
    obtain ⟨hf1, hf2⟩ := List.mem_filter.mp hf
    obtain ⟨x, hx⟩ := Option.isSome_iff_exists.mp hf2
    rw [hx]
    obtain ⟨⟨b, hb, g, a, e⟩, _⟩ := h.att _ _ hx
    exact ⟨_, ⟨b, hb, f, hf1, g, a, rfl⟩, by show x.1 + _ = _; omega⟩
  have toHi : ∀ y ∈ endHi hs t.F, ∃ g, Run t n g ∧ y = g + (n : Int) := fun y hy => by
    obtain ⟨f, hf, rfl⟩ := List.mem_map.mp hy
    obtain ⟨hf1, hf2⟩ := List.mem_filter.mp hf
    obtain ⟨x, hx⟩ := Option.isSome_iff_exists.mp hf2
    rw [hx]
    obtain ⟨_, ⟨b, hb, g, a, e⟩⟩ := h.att _ _ hx
    exact ⟨_, ⟨b, hb, f, hf1, g, a, rfl⟩, by show x.2 + _ = _; omega⟩
  have ofRun : ∀ g, Run t n g → (∃ y ∈ endLo hs t.F, y ≤ g + (n : Int)) ∧ ∃ y ∈ endHi hs t.F, g + (n : Int) ≤ y := fun g r => by
    obtain ⟨b, hb, f, hf, g', a, rfl⟩ := r
    obtain ⟨x, hx, h1, h2⟩ := h.cov f.p _ ⟨b, hb, g', a, rfl⟩
    have hm : f ∈ t.F.filter fun f => (hs.lookup f.p).isSome := List.mem_filter.mpr ⟨hf, by rw [hx]; rfl⟩
    exact ⟨⟨_, List.mem_map.mpr ⟨f, hm, rfl⟩, by rw [hx]; show x.1 + _ ≤ _; omega⟩, ⟨_, List.mem_map.mpr ⟨f, hm, rfl⟩, by rw [hx]; show _ ≤ x.2 + _; omega⟩⟩
  by_cases c : endLo hs t.F = []
  · refine ⟨none, fun g r => ?_, (fun _ => c), fun p e => by cases e⟩
    obtain ⟨⟨y, hy, _⟩, _⟩ := ofRun g r
    rw [c] at hy
    cases hy
  · obtain ⟨lo, l1, l2⟩ := ints_min (List.length_pos_iff.mpr c)
    have c2 : endHi hs t.F ≠ [] := fun z => c (by
      have : (endHi hs t.F).length = (endLo hs t.F).length := by simp [endHi, endLo]
      rw [z] at this
      exact List.eq_nil_of_length_eq_zero this.symm)
    obtain ⟨hi, h1, h2⟩ := ints_max (List.length_pos_iff.mpr c2)
    refine ⟨some (lo, hi), ⟨toLo lo l1, toHi hi h1, fun g r => ?_⟩, (fun e => by cases e), fun p e => by cases e; exact ⟨c, ⟨l1, l2⟩, h1, h2⟩⟩
    obtain ⟨⟨y, hy, hy2⟩, z, hz, hz2⟩ := ofRun g r
    exact ⟨Int.le_trans (l2 y hy) hy2, Int.le_trans hz2 (h2 z hz)⟩
theorem rowsM_at {Rw : Rows} {r : Addr × Row} (h : r ∈ Rw) : ∃ j : Nat, (rowsM Rw)[j]? = some (r.1, C.dk (hS r.2)) := by
  obtain ⟨j, hj⟩ := List.mem_iff_getElem?.mp h
  exact ⟨j, by unfold rowsM; rw [List.getElem?_map, hj]; rfl⟩
def G_whole : List TK.A → Mu → (TK.A → Mu → Prop) → Prop := fun xs μ R => ∃ (u : Tn) (n : Nat) (f : Addr) (Rw : Rows), xs = [.dat u.d, .own f] ∧ μ = spM_ f Rw ∧ IsSpans u n Rw ∧ u.Sz ∧ n ≤ 100 ∧
  R = fun x μ' => ∃ (p : Addr) (ws : List (Option (Int × Int))), x = .own p ∧ μ' = [(p, C.lst (wsA ws))] ∧ IsWholes u n ws
section
variable {P : Program} {w : World} {K : PySem.W.Frag} {mg : Str → Option Value} {base : Heap}
end
end T
set_option maxHeartbeats 2000000
namespace T
open PySem L2 NdefX LamX TK
variable [TC]
def LeafD (d : D) : Prop := d = .non ∨ (∃ i, d = .int i) ∨ ∃ b, d = .bl b
def G_same0 : List D → D → Prop := fun ds d => ∃ x, ds = [x, x] ∧ LeafD x ∧ d = .bl true
def G_same : List TK.A → Mu → (TK.A → Mu → Prop) → Prop := fun xs μ R => ∃ (a b : Addr) (l : List D), xs = [.own a, .own b] ∧ μ = [(b, C.lst (l.map .dat)), (a, C.lst (l.map .dat))] ∧ l.length ≤ 1000 ∧ (∀ d ∈ l, LeafD d) ∧
  R = fun x μ' => x = .dat (.bl true) ∧ μ' = []
section
variable {P : Program} {w : World} {K : PySem.W.Frag} {mg : Str → Option Value} {base : Heap}
abbrev N__law_same : List Str := ["found", "due", "k"]
abbrev P__law_same : List Str := ["found", "due"]
theorem sc__law_same : FnScope N__law_same P__law_same (defScope s__law_same) := ⟨rfl, rfl, rfl, by decide +kernel, rfl, by decide +kernel, by decide +kernel⟩
theorem bd__law_same (kV doc pm : Value) (an : Option Addr) (cdv ct : Value) (us : List Value) (hl : us.length = (P__law_same : List Str).length) : bindArgs (PySem.W.fnOf "_law_same" "_law_same" (defArgs s__law_same) (defBody s__law_same) (defScope s__law_same) .none kV doc pm an cdv ct) ⟨us, []⟩ = pure ((P__law_same : List Str).zip us) := match us, hl with
  | [_, _], _ => rfl
theorem ok__law_same0 (T : Bl mg) (R : Raw K mg "_law_same" s__law_same) : Dn P w K mg base "_law_same" P__law_same 1 (spR G_same0) := by
  have d__law_same : Dn P w K mg base "_law_same" P__law_same 0 (spR fun _ _ => False) := R.void sc__law_same bd__law_same
  refine R.dnR sc__law_same (fun ds d ⟨x, e, _⟩ => by rw [e]; rfl) (by decide) bd__law_same fun cdv Ao outer s H E hr => ⟨_, (pss_cons (ps_if (pt_val (pe_callB cr_isi (by rfl) T.isinstance bb_isinstance (pa_cons (pv 1) (pa_cons (pe_tup (pa_cons (pe_bltn (v := .ty "tuple") (by rfl) T.tuple bb_tuple rfl) (pa_cons (pe_bltn (v := .ty "list") (by rfl) T.list bb_list rfl) pa_nil))) pa_nil)))) (pss_cons (ps_if (PW.pt (pw_or (pt_cmpR (op_neA hr) (pe_callB cr_isi (by rfl) T.isinstance bb_isinstance (pa_cons (pv 1) (pa_cons (pe_bltn (v := .ty "tuple") (by rfl) T.tuple bb_tuple rfl) pa_nil))) (pe_callB cr_isi (by rfl) T.isinstance bb_isinstance (pa_cons (pv 0) (pa_cons (pe_bltn (v := .ty "tuple") (by rfl) T.tuple bb_tuple rfl) pa_nil))) (nomark _)) (pw_or1 (pt_cmpR (op_neA hr) (pe_callB cr_isi (by rfl) T.isinstance bb_isinstance (pa_cons (pv 1) (pa_cons (pe_bltn (v := .ty "list") (by rfl) T.list bb_list rfl) pa_nil))) (pe_callB cr_isi (by rfl) T.isinstance bb_isinstance (pa_cons (pv 0) (pa_cons (pe_bltn (v := .ty "list") (by rfl) T.list bb_list rfl) pa_nil))) (nomark _))))) (pss_one (ps_ret pe_bl)) pss_nil)
      (pss_one (ps_ret (pe_and (pe_cmpR (op_eqA hr) (pe_callB cr_len (by rfl) T.len bb_len (pa_cons (pv 0) pa_nil)) (pe_callB cr_len (by rfl) T.len bb_len (pa_cons (pv 1) pa_nil)) (nomark _)) (pe_one (pe_callB (cr_all' rfl) (by rfl) T.all bb_all (pa_cons (pe_lc rfl sc__law_same.nd (pi_range1 rfl T.range (pa_cons (pe_callB cr_len (by rfl) T.len bb_len (pa_cons (pv 1) pa_nil)) pa_nil)) (blkOk_by (own := [("k", 2)]) (N := N__law_same) (sc := defScope s__law_same) (by decide +kernel)) (fun _ _ _ _ _ => (pg_name (i := 2) sc__law_same.nd rfl (Or.inl rfl))) (fun _ _ _ _ _ => pts_nil) (fun _ _ _ _ _ => (pe_def d__law_same hr (by decide) (by rfl) (pa_cons (pe_ix (ixK (K := K) rfl ix_any) (pv 0) (pv 2) (fun _ _ => rfl)) (pa_cons (pe_ix (ixK (K := K) rfl ix_any) (pv 1) (pv 2) (fun _ _ => rfl)) pa_nil))))) pa_nil))))))) pss_nil)
      (pss_cons (ps_if (pt_cmpR op_isN0 (pv 1) pe_non (nomark _)) (pss_one (ps_ret (pe_cmpR op_isN0 (pv 0) pe_non (nomark _)))) pss_nil)
      (pss_cons (ps_if (PW.pt (pw_or (pt_val (pe_callB cr_isi (by rfl) T.isinstance bb_isinstance (pa_cons (pv 1) (pa_cons (pe_bltn (v := .ty "bool") (by rfl) T.bool bb_bool rfl) pa_nil)))) (pw_or1 (pt_val (pe_callB cr_isi (by rfl) T.isinstance bb_isinstance (pa_cons (pv 0) (pa_cons (pe_bltn (v := .ty "bool") (by rfl) T.bool bb_bool rfl) pa_nil))))))) (pss_one (ps_ret (pe_and (pe_callB cr_isi (by rfl) T.isinstance bb_isinstance (pa_cons (pv 1) (pa_cons (pe_bltn (v := .ty "bool") (by rfl) T.bool bb_bool rfl) pa_nil))) (pe_and (pe_callB cr_isi (by rfl) T.isinstance bb_isinstance (pa_cons (pv 0) (pa_cons (pe_bltn (v := .ty "bool") (by rfl) T.bool bb_bool rfl) pa_nil))) (pe_one (pe_cmpR (op_eqA hr) (pv 0) (pv 1) (nomark _))))))) pss_nil)
      (pss_one (ps_ret (pe_and (pe_cmpR (op_eqA hr) (pe_callB cr_isi (by rfl) T.isinstance bb_isinstance (pa_cons (pv 0) (pa_cons (pe_bltn (v := .ty "str") (by rfl) T.str bb_str rfl) pa_nil))) (pe_callB cr_isi (by rfl) T.isinstance bb_isinstance (pa_cons (pv 1) (pa_cons (pe_bltn (v := .ty "str") (by rfl) T.str bb_str rfl) pa_nil))) (nomark _)) (pe_and (pe_callB cr_isi (by rfl) T.isinstance bb_isinstance (pa_cons (pv 0) (pa_cons (pe_tup (pa_cons (pe_bltn (v := .ty "int") (by rfl) T.int bb_int rfl) (pa_cons (pe_bltn (v := .ty "str") (by rfl) T.str bb_str rfl) pa_nil))) pa_nil))) (pe_one (pe_cmpR (op_eqA hr) (pv 0) (pv 1) (nomark _)))))))))), ?_⟩
  rintro ds d ⟨x, rfl, hx, rfl⟩
  refine ht_seq (ht_if (b := false) (et_test ((e_isi2 (e_var rfl) (by simp) (by simp)).is ?_)) (fun h => by cases h) fun _ => ht_next ?_)
  · rcases hx with rfl | ⟨i, rfl⟩ | ⟨b, rfl⟩ <;> rfl
  refine ht_seq (ht_if (b := TK.isN (.dat x)) (et_test (e_isN (e_var rfl))) (fun h => ?_) fun h => ht_next ?_)
  · exact ht_ret (e_isN (e_var rfl)) (by rw [h])
  have hx : (∃ i, x = .int i) ∨ ∃ b, x = .bl b := by
    rcases hx with rfl | hx
    · cases h
    · exact hx
  rcases hx with ⟨i, rfl⟩ | ⟨b, rfl⟩
  · refine ht_seq (ht_if (b := false) ((et_or (b := false) (c := false) (et_test ((e_isi (e_var rfl) (by simp)).is rfl)) fun _ => et_test ((e_isi (e_var rfl) (by simp)).is rfl))) (fun h => by cases h) fun _ => ht_next ?_)
    refine ht_ret (x := .dat (.bl true)) ((e_andV (b := true) (c := true) ((e_eqAB (e_isi (e_var rfl) (by simp)) (e_isi (e_var rfl) (by simp))).is rfl) fun _ => e_andV (b := true) (c := true) ((e_isi2 (e_var rfl) (by simp) (by simp)).is rfl) fun _ => (e_eqAI (e_var rfl) (e_var rfl)).is (by simp))) rfl
  · refine ht_seq (ht_if (b := true) ((et_or (b := true) (c := true) (et_test ((e_isi (e_var rfl) (by simp)).is rfl)) fun h => by cases h)) (fun h => ?_) fun h => by cases h)
    refine ht_ret (x := .dat (.bl true)) ((e_andV (b := true) (c := true) ((e_isi (e_var rfl) (by simp)).is rfl) fun _ => e_andV (b := true) (c := true) ((e_isi (e_var rfl) (by simp)).is rfl) fun _ => (e_eqAB (e_var rfl) (e_var rfl)).is (by simp))) rfl
theorem ok__law_same (T : Bl mg) (R : Raw K mg "_law_same" s__law_same) (d__law_same : Dn P w K mg base "_law_same" P__law_same 1 (spR G_same0)) : Dn P w K mg base "_law_same" P__law_same 2 (spM G_same) := by
  refine R.dnM sc__law_same (fun ds d R ⟨a, b, l, e, _⟩ => by rw [e]; rfl) (by decide) bd__law_same fun cdv Ao outer s H E hr => ⟨_, (pss_cons (ps_if (pt_val (pe_callB cr_isi (by rfl) T.isinstance bb_isinstance (pa_cons (pv 1) (pa_cons (pe_tup (pa_cons (pe_bltn (v := .ty "tuple") (by rfl) T.tuple bb_tuple rfl) (pa_cons (pe_bltn (v := .ty "list") (by rfl) T.list bb_list rfl) pa_nil))) pa_nil)))) (pss_cons (ps_if (PW.pt (pw_or (pt_cmpR (op_neA hr) (pe_callB cr_isi (by rfl) T.isinstance bb_isinstance (pa_cons (pv 1) (pa_cons (pe_bltn (v := .ty "tuple") (by rfl) T.tuple bb_tuple rfl) pa_nil))) (pe_callB cr_isi (by rfl) T.isinstance bb_isinstance (pa_cons (pv 0) (pa_cons (pe_bltn (v := .ty "tuple") (by rfl) T.tuple bb_tuple rfl) pa_nil))) (nomark _)) (pw_or1 (pt_cmpR (op_neA hr) (pe_callB cr_isi (by rfl) T.isinstance bb_isinstance (pa_cons (pv 1) (pa_cons (pe_bltn (v := .ty "list") (by rfl) T.list bb_list rfl) pa_nil))) (pe_callB cr_isi (by rfl) T.isinstance bb_isinstance (pa_cons (pv 0) (pa_cons (pe_bltn (v := .ty "list") (by rfl) T.list bb_list rfl) pa_nil))) (nomark _))))) (pss_one (ps_ret pe_bl)) pss_nil)
      (pss_one (ps_ret (pe_and (pe_cmpR (op_eqA hr) (pe_callB cr_len (by rfl) T.len bb_len (pa_cons (pv 0) pa_nil)) (pe_callB cr_len (by rfl) T.len bb_len (pa_cons (pv 1) pa_nil)) (nomark _)) (pe_one (pe_callB (cr_all' rfl) (by rfl) T.all bb_all (pa_cons (pe_lc rfl sc__law_same.nd (pi_range1 rfl T.range (pa_cons (pe_callB cr_len (by rfl) T.len bb_len (pa_cons (pv 1) pa_nil)) pa_nil)) (blkOk_by (own := [("k", 2)]) (N := N__law_same) (sc := defScope s__law_same) (by decide +kernel)) (fun _ _ _ _ _ => (pg_name (i := 2) sc__law_same.nd rfl (Or.inl rfl))) (fun _ _ _ _ _ => pts_nil) (fun _ _ _ _ _ => (pe_def d__law_same hr (by decide) (by rfl) (pa_cons (pe_ix (ixK (K := K) rfl ix_any) (pv 0) (pv 2) (fun _ _ => rfl)) (pa_cons (pe_ix (ixK (K := K) rfl ix_any) (pv 1) (pv 2) (fun _ _ => rfl)) pa_nil))))) pa_nil))))))) pss_nil)
      (pss_cons (ps_if (pt_cmpR op_isN0 (pv 1) pe_non (nomark _)) (pss_one (ps_ret (pe_cmpR op_isN0 (pv 0) pe_non (nomark _)))) pss_nil)
      (pss_cons (ps_if (PW.pt (pw_or (pt_val (pe_callB cr_isi (by rfl) T.isinstance bb_isinstance (pa_cons (pv 1) (pa_cons (pe_bltn (v := .ty "bool") (by rfl) T.bool bb_bool rfl) pa_nil)))) (pw_or1 (pt_val (pe_callB cr_isi (by rfl) T.isinstance bb_isinstance (pa_cons (pv 0) (pa_cons (pe_bltn (v := .ty "bool") (by rfl) T.bool bb_bool rfl) pa_nil))))))) (pss_one (ps_ret (pe_and (pe_callB cr_isi (by rfl) T.isinstance bb_isinstance (pa_cons (pv 1) (pa_cons (pe_bltn (v := .ty "bool") (by rfl) T.bool bb_bool rfl) pa_nil))) (pe_and (pe_callB cr_isi (by rfl) T.isinstance bb_isinstance (pa_cons (pv 0) (pa_cons (pe_bltn (v := .ty "bool") (by rfl) T.bool bb_bool rfl) pa_nil))) (pe_one (pe_cmpR (op_eqA hr) (pv 0) (pv 1) (nomark _))))))) pss_nil)
      (pss_one (ps_ret (pe_and (pe_cmpR (op_eqA hr) (pe_callB cr_isi (by rfl) T.isinstance bb_isinstance (pa_cons (pv 0) (pa_cons (pe_bltn (v := .ty "str") (by rfl) T.str bb_str rfl) pa_nil))) (pe_callB cr_isi (by rfl) T.isinstance bb_isinstance (pa_cons (pv 1) (pa_cons (pe_bltn (v := .ty "str") (by rfl) T.str bb_str rfl) pa_nil))) (nomark _)) (pe_and (pe_callB cr_isi (by rfl) T.isinstance bb_isinstance (pa_cons (pv 0) (pa_cons (pe_tup (pa_cons (pe_bltn (v := .ty "int") (by rfl) T.int bb_int rfl) (pa_cons (pe_bltn (v := .ty "str") (by rfl) T.str bb_str rfl) pa_nil))) pa_nil))) (pe_one (pe_cmpR (op_eqA hr) (pv 0) (pv 1) (nomark _)))))))))), ?_⟩
  rintro xs μ R ⟨a, b, l, rfl, rfl, hl, hx, rfl⟩
  refine ht_seq (ht_if (b := true) (et_test ((e_isi2L 0 (e_var rfl) rfl (by simp) (by simp)).is rfl)) (fun _ => ?_) fun h => by cases h)
  refine ht_seq (ht_if (b := false) (et_or (b := false) (c := false) (et_test ((e_neAB (e_isiL 0 (e_var rfl) rfl (by simp)) (e_isiL 1 (e_var rfl) rfl (by simp))).is rfl)) fun _ => et_test ((e_neAB (e_isiL 0 (e_var rfl) rfl (by simp)) (e_isiL 1 (e_var rfl) rfl (by simp))).is rfl)) (fun h => by cases h) fun _ => ht_next ?_)
  refine ht_retS (TK.E.ex (x := .dat (.bl true)) (e_andV (b := true) (c := true) ((e_eqAI (e_lenL 1 (e_var rfl) rfl) (e_lenL 0 (e_var rfl) rfl)).is (by simp)) fun _ => (e_allN (bs := List.replicate l.length true) (en_is (en_lcR (n := (l.length : Int)) (ea_cons ((e_lenL 0 (e_var rfl) rfl).is (by simp)) ea_nil) (by omega) (by omega) (fun _ => true) (fun _ => .dat (.bl true)) fun i hi => ?_) ?_)).is (by simp))) fun x μ2 ⟨e1, e2⟩ => ⟨[], ⟨e1, rfl⟩, List.nil_sublist _⟩
  · have hi' : i < l.length := by omega
    have at_ : atI (l.map TK.A.dat) (i : Int) = some (.dat l[i]) := by
      unfold atI ixN
      rw [List.length_map, if_pos (by omega), if_pos (by omega)]
      simp [hi']
    exact ⟨_, _, tg_name, by simp, et_yes, fun _ => e_call [l[i], l[i]] (ea_cons (e_ixA 1 (e_var rfl) (e_var rfl) rfl at_) (ea_cons (e_ixA 0 (e_var rfl) (e_var rfl) rfl at_) ea_nil)) rfl ⟨_, rfl, hx _ (List.getElem_mem hi'), rfl⟩⟩
  · congr 1
    have e : (List.range l.length).filter (fun _ => true) = List.range l.length := List.filter_eq_self.mpr fun _ _ => rfl
    simp [e, List.map_const']
end
end T
set_option maxHeartbeats 2000000
namespace T
open PySem L2 NdefX LamX TK
variable [TC]
def Mk.ren (f : Int → Int) (m : Mk) : Mk := ⟨f m.p, m.w⟩
def Ed.ren (f : Int → Int) (e : Ed) : Ed := ⟨f e.a, e.s, f e.b, e.w⟩
def Tn.ren (f : Int → Int) (t : Tn) : Tn := ⟨t.S, t.L, t.N, sortM (t.B.map (Mk.ren f)), sortE (t.E.map (Ed.ren f)), sortM (t.F.map (Mk.ren f))⟩
structure Mixes (N : Int) (f : Int → Int) : Prop where
  lo : ∀ p, 0 ≤ p → p < N → 0 ≤ f p
  hi : ∀ p, 0 ≤ p → p < N → f p < N
  inj : ∀ p q, 0 ≤ p → p < N → 0 ≤ q → q < N → f p = f q → p = q
theorem nd_map_of {α β : Type} {f : α → β} : ∀ {l : List α}, l.Nodup → (∀ a ∈ l, ∀ b ∈ l, f a = f b → a = b) → (l.map f).Nodup
  | [], _, _ => List.nodup_nil
  | x :: l, h, i => by
    obtain ⟨h1, h2⟩ := List.nodup_cons.mp h
    refine List.nodup_cons.mpr ⟨fun z => ?_, nd_map_of h2 fun a ha b hb => i a (by simp [ha]) b (by simp [hb])⟩
    obtain ⟨y, hy, e⟩ := List.mem_map.mp z
    exact h1 (i y (by simp [hy]) x (by simp) e ▸ hy)
theorem Tn.Ok.ren {t : Tn} {f : Int → Int} (h : t.Ok) (x : Mixes t.N f) : (t.ren f).Ok := by
  have im : ∀ {l : List Mk}, (∀ m ∈ l, m.ok t.N t.L) → ∀ a ∈ l, ∀ b ∈ l, Mk.ren f a = Mk.ren f b → a = b := fun hl a ha b hb e => by
    obtain ⟨a1, a2, _⟩ := hl a ha
    obtain ⟨b1, b2, _⟩ := hl b hb
    cases a; cases b
    simp only [Mk.ren, Mk.mk.injEq] at e
    rw [Mk.mk.injEq]
    exact ⟨x.inj _ _ a1 a2 b1 b2 e.1, e.2⟩
  have ie : ∀ a ∈ t.E, ∀ b ∈ t.E, Ed.ren f a = Ed.ren f b → a = b := fun a ha b hb e => by
    obtain ⟨a1, a2, _, _, a3, a4, _⟩ := h.e a ha
    obtain ⟨b1, b2, _, _, b3, b4, _⟩ := h.e b hb
    cases a; cases b
    simp only [Ed.ren, Ed.mk.injEq] at e
    rw [Ed.mk.injEq]
    exact ⟨x.inj _ _ a1 a2 b1 b2 e.1, e.2.1, x.inj _ _ a3 a4 b3 b4 e.2.2.1, e.2.2.2⟩
  refine ⟨h.s, h.l, h.n, h.nb, fun m hm => ?_, fun m hm => ?_, fun m hm => ?_, ?_, ?_, ?_, sortM_asc (nd_map_of (asc_nd h.ab).1 (im h.b)), sortE_asc (nd_map_of (asc_nd h.ae).1 ie), sortM_asc (nd_map_of (asc_nd h.af).1 (im h.f))⟩
  · obtain ⟨m0, h0, rfl⟩ := List.mem_map.mp (mem_sortM.mp hm)
    obtain ⟨h1, h2, h3⟩ := h.b m0 h0
    exact ⟨x.lo _ h1 h2, x.hi _ h1 h2, h3⟩
  · obtain ⟨m0, h0, rfl⟩ := List.mem_map.mp (mem_sortE.mp hm)
    obtain ⟨h1, h2, h3, h4, h5, h6, h7⟩ := h.e m0 h0
    exact ⟨x.lo _ h1 h2, x.hi _ h1 h2, h3, h4, x.lo _ h5 h6, x.hi _ h5 h6, h7⟩
  · obtain ⟨m0, h0, rfl⟩ := List.mem_map.mp (mem_sortM.mp hm)
    obtain ⟨h1, h2, h3⟩ := h.f m0 h0
    exact ⟨x.lo _ h1 h2, x.hi _ h1 h2, h3⟩
  · show (sortM _).length ≤ _
    rw [sortM_perm.length_eq, List.length_map]; exact h.lb
  · show (sortE _).length ≤ _
    rw [sortE_perm.length_eq, List.length_map]; exact h.le
  · show (sortM _).length ≤ _
    rw [sortM_perm.length_eq, List.length_map]; exact h.lf
theorem pth_ren {t : Tn} {f : Int → Int} {p q : Int} {n : Nat} {g : Int} (a : Pth t.E p q n g) : Pth (t.ren f).E (f p) (f q) n g := by
  induction a with
  | nil => exact .nil _
  | @snoc q n g e a he ea ih =>
    have h1 : e.ren f ∈ (t.ren f).E := mem_sortE.mpr (List.mem_map.mpr ⟨e, he, rfl⟩)
    exact ih.snoc h1 (show f e.a = f q by rw [ea])
theorem pth_ren_back {t : Tn} {f : Int → Int} (ok : t.Ok) (x : Mixes t.N f) {p' q' : Int} {n : Nat} {g : Int} (a : Pth (t.ren f).E p' q' n g) : ∀ p, p' = f p → 0 ≤ p → p < t.N → ∃ q, q' = f q ∧ 0 ≤ q ∧ q < t.N ∧ Pth t.E p q n g := by
  induction a with
  | nil => exact fun p e h1 h2 => ⟨p, e, h1, h2, .nil _⟩
  | @snoc q n g e a he ea ih =>
    intro p ep h1 h2
    obtain ⟨q0, e1, h3, h4, b⟩ := ih p ep h1 h2
    obtain ⟨e0, he0, rfl⟩ := List.mem_map.mp (mem_sortE.mp he)
    obtain ⟨a1, a2, _, _, a3, a4, _⟩ := ok.e e0 he0
    have : e0.a = q0 := x.inj _ _ a1 a2 h3 h4 (by rw [← e1, ← ea]; rfl)
    exact ⟨e0.b, rfl, a3, a4, b.snoc he0 this⟩
theorem run_ren {t : Tn} {f : Int → Int} (ok : t.Ok) (x : Mixes t.N f) {n : Nat} {g : Int} : Run (t.ren f) n g ↔ Run t n g := by
  constructor
  · rintro ⟨b, hb, e, he, g', a, rfl⟩
    obtain ⟨b0, hb0, rfl⟩ := List.mem_map.mp (mem_sortM.mp hb)
    obtain ⟨e0, he0, rfl⟩ := List.mem_map.mp (mem_sortM.mp he)
    obtain ⟨h1, h2, _⟩ := ok.b b0 hb0
    obtain ⟨h3, h4, _⟩ := ok.f e0 he0
    obtain ⟨q, e1, h5, h6, a2⟩ := pth_ren_back ok x a b0.p rfl h1 h2
    have := x.inj _ _ h3 h4 h5 h6 e1
    exact ⟨b0, hb0, e0, he0, g', by rw [this]; exact a2, rfl⟩
  · rintro ⟨b, hb, e, he, g', a, rfl⟩
    exact ⟨b.ren f, mem_sortM.mpr (List.mem_map.mpr ⟨b, hb, rfl⟩), e.ren f, mem_sortM.mpr (List.mem_map.mpr ⟨e, he, rfl⟩), g', pth_ren a, rfl⟩
def atL (l : List Int) (p : Int) : Int := (l[p.toNat]?).getD 0
theorem mixes_of {l : List Int} {n : Nat} (h : l.Perm (upTo n)) : Mixes (n : Int) (atL l) := by
  have hl : l.length = n := by rw [h.length_eq]; simp [upTo]
  have nd : l.Nodup := by
    refine h.nodup_iff.mpr ?_
    unfold upTo
    refine nd_map_of List.nodup_range fun a _ b _ e => by omega
  have hm : ∀ i (hi : i < l.length), 0 ≤ l[i] ∧ l[i] < (n : Int) := fun i hi => by
    have : l[i] ∈ upTo n := h.mem_iff.mp (List.getElem_mem hi)
    obtain ⟨j, hj, e⟩ := List.mem_map.mp this
    rw [List.mem_range] at hj
    omega
  have at_ : ∀ p : Int, 0 ≤ p → p < n → ∃ h : p.toNat < l.length, atL l p = l[p.toNat] := fun p h1 h2 => by
    have : p.toNat < l.length := by omega
    exact ⟨this, by unfold atL; rw [List.getElem?_eq_getElem this]; rfl⟩
  refine ⟨fun p h1 h2 => ?_, fun p h1 h2 => ?_, fun p q h1 h2 h3 h4 e => ?_⟩
  · obtain ⟨i, e⟩ := at_ p h1 h2
    rw [e]; exact (hm _ i).1
  · obtain ⟨i, e⟩ := at_ p h1 h2
    rw [e]; exact (hm _ i).2
  · obtain ⟨i, e1⟩ := at_ p h1 h2
    obtain ⟨j, e2⟩ := at_ q h3 h4
    rw [e1, e2] at e
    have := (List.getElem_inj nd).mp e
    omega
def G_other : List TK.A → Mu → (TK.A → Mu → Prop) → Prop := fun xs μ R => ∃ (o : Addr) (t : Tn) (l : List Int), xs = [.dat t.d, .own o] ∧ μ = [(o, C.lst (intsL l))] ∧ t.Ok ∧ l.Perm (upTo t.N.toNat) ∧
  R = fun x μ' => x = .dat (t.ren (atL l)).d ∧ μ' = []
section
variable {P : Program} {w : World} {K : PySem.W.Frag} {mg : Str → Option Value} {base : Heap}
end
end T
set_option maxHeartbeats 2000000
namespace T
open PySem L2 NdefX LamX TK
variable [TC]
section
variable {δ : Dl} {pre post : Mu} {w : Addr} {te tw : TE} {ta : TA} {Pd : D → Prop} {Ps : List (D → Prop)}
theorem cw_pick (hw : ∀ c, TK.E δ (pre ++ (w, c) :: post) tw (.own w)) (h : CWA δ pre post w ta Ps) (h1 : Ps ≠ []) (h2 : Ps.length ≤ 1000) :
    CW δ pre post w (tCall (spM G_pick) [] E0 (tCons tw (tCons (tLst ta) tNil))) fun d => ∃ ds, Pl Ps ds ∧ d ∈ ds := fun c hc => by
  refine ex_callX (exa_XX (R := fun x μ' => x = .own w ∧ μ' = pre ++ (w, c) :: post) (S := fun _ _ y μ' => ∃ p xs μ1, (∃ (ds : List D) (c' : C), xs = ds.map .dat ∧ Pl Ps ds ∧ IsW c' ∧ μ1 = pre ++ (w, c') :: post) ∧ y = .own p ∧ μ' = (p, C.lst xs) :: μ1) (hw c).ex fun x μ' ⟨e1, e2⟩ => ?_) ?_
  · rw [e2]
    exact ex_lst (h c hc) fun xs μ' ⟨ds, c', e1, p1, _⟩ => by rw [e1, List.length_map, p1.len]; omega
  · rintro xs μ1 ⟨x, y, μ2, rfl, ⟨rfl, rfl⟩, p, _, _, ⟨ds, c', rfl, p1, hc', rfl⟩, rfl, rfl⟩
    have hne : ds ≠ [] := fun z => by
      subst z
      cases Ps with
      | nil => exact h1 rfl
      | cons a b => exact p1
    refine ⟨[(p, C.lst (ds.map .dat)), (w, c')], pre ++ post, _, List.Perm.cons _ List.perm_middle, ⟨w, p, c', ds, rfl, rfl, hc', hne, by rw [p1.len]; exact h2, rfl⟩, ?_⟩
    rintro x ν' ⟨d, c2, hd, rfl, hc2, rfl⟩
    exact ⟨pre ++ (w, c2) :: post, (show ((w, c2) :: (pre ++ post)).Perm (pre ++ (w, c2) :: post) from List.perm_middle.symm), d, c2, rfl, ⟨ds, p1, hd⟩, hc2, rfl⟩
theorem cw_neg (h : CW δ pre post w te fun d => ∃ r : Int, d = .int r) : CW δ pre post w (tUn (rU fun i => .int (-i)) te) fun d => ∃ r : Int, d = .int r := fun c hc =>
  ex_un (h c hc) fun x μ' ⟨d, c', e1, ⟨r, e3⟩, hc', e2⟩ => by
    subst e1 e2 e3
    exact ⟨.dat (.int (-r)), fun H v Q r1 k => by rw [rp_int r1]; exact ⟨r, rfl, k _ H (TK.Fr.refl _ _) (Rp.int _)⟩, _, c', rfl, ⟨-r, rfl⟩, hc', rfl⟩
theorem CW.imp {Pe : D → Prop} (h : CW δ pre post w te Pd) (k : ∀ d, Pd d → Pe d) : CW δ pre post w te Pe := fun c hc => (h c hc).mono fun x μ' ⟨d, c', e1, p, hc', e2⟩ => ⟨d, c', e1, k d p, hc', e2⟩
end
def valsA (vals : List (List (Option Int))) : List TK.A := vals.map fun v => .dat (pD v)
def G_values : List TK.A → Mu → (TK.A → Mu → Prop) → Prop := fun xs μ R => ∃ (w : Addr) (c : C) (t : Tn), xs = [.own w, .dat t.d] ∧ μ = [(w, c)] ∧ IsW c ∧ t.Ok ∧
  R = fun x μ' => ∃ (p : Addr) (c' : C) (vals : List (List (Option Int))), x = .own p ∧ IsW c' ∧ vals.length ≤ 7 ∧ (∀ v ∈ vals, v.length = t.N.toNat) ∧ μ' = [(p, C.lst (valsA vals)), (w, c')]
section
variable {P : Program} {w : World} {K : PySem.W.Frag} {mg : Str → Option Value} {base : Heap}
end
end T
set_option maxHeartbeats 2000000
namespace T
open TK
variable [TC]
theorem int_max {S : Int → Prop} {B : Int} (hb : ∀ g, S g → g ≤ B) : ∀ (k : Nat) (g0 : Int), S g0 → (B - g0).toNat ≤ k → ∃ m, S m ∧ ∀ g, S g → g ≤ m
  | 0, g0, h, hk => ⟨g0, h, fun g hg => by have := hb g hg; omega⟩
  | k + 1, g0, h, hk => by
    by_cases c : ∃ g, S g ∧ g0 < g
    · obtain ⟨g, h1, h2⟩ := c
      have := hb g h1
      exact int_max hb k g h1 (by omega)
    · exact ⟨g0, h, fun g hg => by
        by_cases q : g0 < g
        · exact absurd ⟨g, hg, q⟩ c
        · omega⟩
theorem pth_bd {t : Tn} (ok : t.Ok) {p q : Int} {n : Nat} {g : Int} (a : Pth t.E p q n g) : g ≤ 1000 * (n : Int) := by
  induction a with
  | nil => simp
  | @snoc q n g e a he ea ih =>
    obtain ⟨_, _, _, _, _, _, h1, _⟩ := ok.e e he
    omega
theorem run_bd {t : Tn} (ok : t.Ok) {n : Nat} {g : Int} (r : Run t n g) : g ≤ 1000 * (n : Int) + 2000 := by
  obtain ⟨b, hb, f, hf, g', a, rfl⟩ := r
  have := pth_bd ok a
  obtain ⟨_, _, h1, _⟩ := ok.b b hb
  obtain ⟨_, _, h2, _⟩ := ok.f f hf
  omega
theorem long_ex {t : Tn} (ok : t.Ok) (n : Nat) : ∃ r, IsLong t n r := by
  by_cases c : ∃ g, Run t n g
  · obtain ⟨g, r⟩ := c
    obtain ⟨m, h1, h2⟩ := int_max (S := fun g => Run t n g) (fun g r => run_bd ok r) _ g r (Nat.le_refl _)
    exact ⟨some (m + (n : Int)), ⟨m, h1, rfl⟩, fun g hg => by have := h2 g hg; omega⟩
  · exact ⟨none, fun g r => c ⟨g, r⟩⟩
theorem pth_cut {E : List Ed} {U : List Int} (hE : ∀ e ∈ E, e.b ∈ U) : ∀ (n : Nat) {p q g : Int}, p ∈ U → Pth E p q n g → ∃ n' g', n' < U.length ∧ Pth E p q n' g' := by
  intro n
  induction n using Nat.strongRecOn with
  | ind n ih =>
    intro p q g hp a
    by_cases hn : n < U.length
    · exact ⟨n, g, hn, a⟩
    · obtain ⟨c, n1, g1, k, gc, n2, g2, a1, a2, a3, e1, _⟩ := Pth.loop hp hE (by omega) a
      exact ih (n1 + n2) (by omega) hp (a1.trans a3)
theorem run_cut {t : Tn} (ok : t.Ok) {n : Nat} {g : Int} (r : Run t n g) : ∃ n' g', n' < t.N.toNat ∧ Run t n' g' := by
  obtain ⟨b, hb, f, hf, g', a, rfl⟩ := r
  have mem : ∀ p : Int, 0 ≤ p → p < t.N → p ∈ upTo t.N.toNat := fun p h1 h2 => List.mem_map.mpr ⟨p.toNat, List.mem_range.mpr (by omega), by omega⟩
  obtain ⟨h1, h2, _⟩ := ok.b b hb
  obtain ⟨n', g2, h3, h4⟩ := pth_cut (U := upTo t.N.toNat) (fun e he => by
    obtain ⟨_, _, _, _, a1, a2, _⟩ := ok.e e he
    exact mem _ a1 a2) n (mem _ h1 h2) a
  exact ⟨n', _, by simpa [upTo] using h3, b, hb, f, hf, g2, h4, rfl⟩
theorem pg_none {t : Tn} (h : ¬ ∃ n g, Run t n g) (n : Int) (k : Nat) : PG t n (List.replicate k none) := by
  have hv : ∀ p, vA (List.replicate k none) p = none := fun p => by
    unfold vA
    rw [List.getD_eq_getElem?_getD, List.getElem?_replicate]
    split <;> rfl
  refine ⟨fun b hb l => ?_, fun e he x hx => ?_, fun f hf x hx => ?_⟩
  · obtain ⟨f, hf, m, g, a⟩ := live_pth l
    exact absurd ⟨_, _, b, hb, f, hf, g, a, rfl⟩ h
  · rw [hv] at hx; cases hx
  · rw [hv] at hx; cases hx
theorem no_paper {t : Tn} (h : ∃ n g, Run t n g) (hg : IsGr t 1 none) (n : Int) (val : List (Option Int)) : ¬ PG t n val := fun x => by
  obtain ⟨k, g, r⟩ := h
  obtain ⟨m, ⟨k1, r1⟩, h2⟩ := int_max (S := fun g => ∃ k, Run t k g) (B := n) (fun g ⟨k, r⟩ => x.sound r) _ g ⟨k, r⟩ (Nat.le_refl _)
  exact hg ⟨m, ⟨k1, r1⟩, fun k' g' r' => by have := h2 g' ⟨k', r'⟩; omega⟩
theorem lower_paper {t : Tn} {m : Int} (hg : IsGr t 1 (some m)) (n : Int) (h : n < m) (val : List (Option Int)) : ¬ PG t n val := fun x => by
  obtain ⟨k, r⟩ := hg.1
  have := x.sound r
  omega
theorem gr_ex (t : Tn) (s : Int) : ∃ r, IsGr t s r := by
  by_cases c : ∃ m, IsTop t s m
  · obtain ⟨m, h⟩ := c
    exact ⟨some m, h⟩
  · exact ⟨none, c⟩
theorem gr_same {t u : Tn} {s : Int} (hs : s = 1 ∨ s = -1) {r r' : Option Int} (h : IsGr t s r) (h' : IsGr u s r') (e : ∀ g, (∃ n, Run t n g) ↔ ∃ n, Run u n g) : r = r' := by
  have tops : ∀ m, IsTop t s m ↔ IsTop u s m := fun m =>
    ⟨fun ⟨a, b⟩ => ⟨(e m).mp a, fun n g x => by obtain ⟨n', x'⟩ := (e g).mpr ⟨n, x⟩; exact b n' g x'⟩, fun ⟨a, b⟩ => ⟨(e m).mpr a, fun n g x => by obtain ⟨n', x'⟩ := (e g).mp ⟨n, x⟩; exact b n' g x'⟩⟩
  refine IsGr.uniq hs h ?_
  cases r' with
  | some m => exact (tops m).mpr h'
  | none => exact fun ⟨m, hm⟩ => h' ⟨m, (tops m).mp hm⟩
end T
set_option maxHeartbeats 2000000
namespace T
open PySem L2 NdefX LamX TK
variable [TC]
theorem kept_come {t : Tn} {ks : List Int} (G : Good t ks) {q : Int} (hq : q ∈ ks) : ∃ b ∈ (keptT t ks).B, ∃ n g, Pth (keptT t ks).E b.p (num ks q) n g := by
  obtain ⟨r, l⟩ := (G.2 _).mp hq
  obtain ⟨b, hb, n, g, a⟩ := rch_pth r
  have rb := beg_rch hb
  exact ⟨_, keptM_mem hb ((G.2 _).mpr ⟨rb, pth_live a l⟩), n, g, kept_fwd G a rb l⟩
theorem kept_ea {t : Tn} {ks : List Int} : ∀ e ∈ (keptT t ks).E, (0 ≤ e.a ∧ e.a < (((keptT t ks).N.toNat : Nat) : Int)) ∧ 0 ≤ e.b ∧ e.b < (((keptT t ks).N.toNat : Nat) : Int) := fun e he => by
  obtain ⟨e0, _, h1, h2, rfl⟩ := mem_keptE he
  have a := num_lt h1
  have b := num_lt h2
  have : (((keptT t ks).N.toNat : Nat) : Int) = max 1 (ks.length : Int) := by show (((max 1 (ks.length : Int)).toNat : Nat) : Int) = _; omega
  rw [this]
  exact ⟨⟨a.1, by show num ks e0.a < _; omega⟩, b.1, by show num ks e0.b < _; omega⟩
theorem kept_bp {t : Tn} {ks : List Int} : ∀ m ∈ (keptT t ks).B, 0 ≤ m.p ∧ m.p < (((keptT t ks).N.toNat : Nat) : Int) := fun e he => by
  obtain ⟨e0, _, h1, rfl⟩ := mem_keptM he
  have a := num_lt h1
  have : (((keptT t ks).N.toNat : Nat) : Int) = max 1 (ks.length : Int) := by show (((max 1 (ks.length : Int)).toNat : Nat) : Int) = _; omega
  rw [this]
  exact ⟨a.1, by show num ks e0.p < _; omega⟩
theorem up_mem {n : Nat} {p : Int} (h : 0 ≤ p ∧ p < (n : Int)) : p ∈ upTo n := List.mem_map.mpr ⟨p.toNat, List.mem_range.mpr (by omega), by omega⟩
theorem gr_loop {t : Tn} {ks : List Int} (G : Good t ks) {s : Int} {w : List Ed} (hw : w ∈ foundN (keptT t ks).E (keptT t ks).N.toNat) (hs : 0 < s * wt w) : IsGr t s none := by
  obtain ⟨h1, _, h3⟩ := found_wy hw
  have a2 := h1.pth
  rw [h3] at a2
  obtain ⟨e, he, ee⟩ : ∃ e ∈ (keptT t ks).E, firstA w = e.a := by
    cases w with
    | nil => exact absurd rfl h1.ne
    | cons e w => exact ⟨e, h1.mem e List.mem_cons_self, rfl⟩
  obtain ⟨e0, _, ha, _, rfl⟩ := mem_keptE he
  rw [ee] at a2
  obtain ⟨b, hb, n1, g1, a1⟩ := kept_come G ha
  obtain ⟨f, hf, n2, g2, a3⟩ := kept_go G ha
  have nt : ¬ ∃ m, IsTop (keptT t ks) s m := no_top hb hf a1 a2 a3 hs
  exact IsGr.congr (r := none) (fun g => ⟨fun ⟨n, r⟩ => ⟨n, (kept_run G).mp r⟩, fun ⟨n, r⟩ => ⟨n, (kept_run G).mpr r⟩⟩) nt
theorem gr_none {t : Tn} {s : Int} (h : ∀ n g, ¬ Run t n g) : IsGr t s none := fun ⟨m, ⟨n, r⟩, _⟩ => h n m r
theorem run_short {t : Tn} {ks : List Int} (G : Good t ks) {s : Int} (hs : s = 1 ∨ s = -1) (hl : ∀ w ∈ foundN (keptT t ks).E (keptT t ks).N.toNat, ¬ 0 < s * wt w) {n : Nat} {g : Int} (r : Run t n g) :
    ∃ n' g', n' < (keptT t ks).N.toNat ∧ Run t n' g' ∧ s * g ≤ s * g' := by
  obtain ⟨b, hb, f, hf, g', a, rfl⟩ := (kept_run G).mpr r
  rcases Pth.short (s := s) (U := upTo (keptT t ks).N.toNat) (fun e he => up_mem (kept_ea e he).2) n (up_mem (kept_bp b hb)) a with ⟨c, n1, g1, k, gc, a1, a2, hc⟩ | ⟨n', g2, h1, h2, h3⟩
  · obtain ⟨w, hw, hg⟩ := round_found (N := (keptT t ks).N.toNat) (fun e he => (kept_ea e he).1) (fun x => 0 < s * x) (by rw [Int.mul_zero]; decide) (fun x y h => by
      rw [Int.mul_add] at h
      by_cases c : 0 < s * x
      · exact .inl c
      · exact .inr (by omega)) (k + 1) a2 hc
    exact absurd hg (hl w hw)
  · refine ⟨n', _, by simpa [upTo] using h1, (kept_run G).mp ⟨b, hb, f, hf, g2, h2, rfl⟩, ?_⟩
    rw [Int.mul_add, Int.mul_add, Int.mul_add, Int.mul_add]
    omega
theorem gr_some {t : Tn} {ks : List Int} (G : Good t ks) {s : Int} (hs : s = 1 ∨ s = -1) (hl : ∀ w ∈ foundN (keptT t ks).E (keptT t ks).N.toNat, ¬ 0 < s * wt w) {m : Int} {k : Nat} (hm : Run t k m) (hx : ∀ k g, k ≤ (keptT t ks).N.toNat → Run t k g → s * g ≤ s * m) : IsGr t s (some m) := by
  refine ⟨⟨k, hm⟩, fun n g r => ?_⟩
  obtain ⟨n', g', h1, h2, h3⟩ := run_short G hs hl r
  exact Int.le_trans h3 (hx n' g' (by omega) h2)
def toldN (ws : List (Option (Int × Int))) : List Nat := (List.range ws.length).filter fun k => (ws.getD k none).isSome
def at2 (ws : List (Option (Int × Int))) (k : Nat) : Int × Int := (ws.getD k none).getD (0, 0)
def leastL (ws : List (Option (Int × Int))) (wl : List Int) : Option Int → Prop
  | none => toldN ws = [] ∨ ∃ x ∈ wl, x < 0
  | some m => toldN ws ≠ [] ∧ (∀ x ∈ wl, ¬ x < 0) ∧ m ∈ ((toldN ws).map fun k => (at2 ws k).1 - (k : Int)) ∧ ∀ y ∈ ((toldN ws).map fun k => (at2 ws k).1 - (k : Int)), m ≤ y
def mostL (ws : List (Option (Int × Int))) (wl : List Int) : Option Int → Prop
  | none => toldN ws = [] ∨ ∃ x ∈ wl, 0 < x
  | some m => toldN ws ≠ [] ∧ (∀ x ∈ wl, ¬ 0 < x) ∧ m ∈ ((toldN ws).map fun k => (at2 ws k).2 - (k : Int)) ∧ ∀ y ∈ ((toldN ws).map fun k => (at2 ws k).2 - (k : Int)), y ≤ m
theorem told_at {ws : List (Option (Int × Int))} {k : Nat} (h : k ∈ toldN ws) : k < ws.length ∧ ws[k]? = some (some (at2 ws k)) := by
  obtain ⟨h1, h2⟩ := List.mem_filter.mp h
  have h1 := List.mem_range.mp h1
  rw [List.getD_eq_getElem?_getD, List.getElem?_eq_getElem h1, Option.getD_some] at h2
  obtain ⟨x, hx⟩ := Option.isSome_iff_exists.mp h2
  refine ⟨h1, ?_⟩
  unfold at2
  rw [List.getD_eq_getElem?_getD, List.getElem?_eq_getElem h1, Option.getD_some, hx]
  rfl
theorem at_told {ws : List (Option (Int × Int))} {k : Nat} {x : Int × Int} (h : ws[k]? = some (some x)) : k ∈ toldN ws ∧ at2 ws k = x := by
  have hl := (List.getElem?_eq_some_iff.mp h).1
  have e : ws.getD k none = some x := by rw [List.getD_eq_getElem?_getD, h]; rfl
  exact ⟨List.mem_filter.mpr ⟨List.mem_range.mpr hl, by rw [e]; rfl⟩, by unfold at2; rw [e]; rfl⟩
theorem told_none {u : Tn} {n : Nat} {ws : List (Option (Int × Int))} (h : IsWholes u n ws) (e : toldN ws = []) {k : Nat} (hk : k ≤ n) (g : Int) : ¬ Run u k g := by
  have hl : k < ws.length := by rw [h.len]; omega
  have h1 : ws[k]? = some ws[k] := List.getElem?_eq_getElem hl
  have h2 := h.at_ k _ h1
  cases q : ws[k] with
  | none => rw [q] at h2; exact h2 g
  | some x =>
    rw [q] at h1
    have := (at_told h1).1
    rw [e] at this
    cases this
theorem lens_ex {ws : List (Option (Int × Int))} {wl : List Int} : (∃ r, leastL ws wl r) ∧ ∃ r, mostL ws wl r := by
  by_cases c : toldN ws = []
  · exact ⟨⟨none, .inl c⟩, none, .inl c⟩
  · refine ⟨?_, ?_⟩
    · by_cases d : ∃ x ∈ wl, x < 0
      · exact ⟨none, .inr d⟩
      · obtain ⟨m, h1, h2⟩ := ints_min (ns := (toldN ws).map fun k => (at2 ws k).1 - (k : Int)) (by rw [List.length_map]; exact List.length_pos_iff.mpr c)
        exact ⟨some m, c, fun x hx z => d ⟨x, hx, z⟩, h1, h2⟩
    · by_cases d : ∃ x ∈ wl, 0 < x
      · exact ⟨none, .inr d⟩
      · obtain ⟨m, h1, h2⟩ := ints_max (ns := (toldN ws).map fun k => (at2 ws k).2 - (k : Int)) (by rw [List.length_map]; exact List.length_pos_iff.mpr c)
        exact ⟨some m, c, fun x hx z => d ⟨x, hx, z⟩, h1, h2⟩
section
variable {t : Tn} {ks : List Int} {ws : List (Option (Int × Int))} {wl : List Int} {r : Option Int}
theorem norun_of (ok : t.Ok) (G : Good t ks) (hw : IsWholes (keptT t ks) (keptT t ks).N.toNat ws) (e : toldN ws = []) (n : Nat) (g : Int) : ¬ Run t n g := fun x => by
  have key : ∀ (n : Nat) (g : Int), ¬ Run (keptT t ks) n g := fun n g ⟨b, hb, f, hf, g', a, _⟩ => by
    obtain ⟨n', g2, h1, h2⟩ := pth_cut (U := upTo (keptT t ks).N.toNat) (fun e he => up_mem (kept_ea e he).2) n (up_mem (kept_bp b hb)) a
    exact told_none hw e (by simp [upTo] at h1; omega) _ ⟨b, hb, f, hf, g2, h2, rfl⟩
  exact key n g ((kept_run G).mpr x)
theorem least_gr (ok : t.Ok) (G : Good t ks) (hw : IsWholes (keptT t ks) (keptT t ks).N.toNat ws) (el : wl = (foundN (keptT t ks).E (keptT t ks).N.toNat).map wt) (h : leastL ws wl r) : IsGr t (-1) r := by
  cases r with
  | none =>
    rcases h with e | ⟨x, hx, h0⟩
    · exact gr_none (norun_of ok G hw e)
    · rw [el] at hx
      obtain ⟨w, hw, rfl⟩ := List.mem_map.mp hx
      exact gr_loop G hw (by omega)
  | some m =>
    obtain ⟨_, h1, h2, h3⟩ := h
    obtain ⟨k, hk, rfl⟩ := List.mem_map.mp h2
    obtain ⟨kl, e⟩ := told_at hk
    obtain ⟨⟨g, rg, eg⟩, _, _⟩ := hw.at_ k _ e
    refine gr_some G (.inr rfl) (fun w hw z => h1 (wt w) (by rw [el]; exact List.mem_map.mpr ⟨w, hw, rfl⟩) (by omega)) (k := k) ((kept_run G).mp (by
      have : (at2 ws k).1 - (k : Int) = g := by omega
      rw [this]; exact rg)) fun k' g' hk' rg' => ?_
    have hl : k' < ws.length := by rw [hw.len]; omega
    have e1 : ws[k']? = some ws[k'] := List.getElem?_eq_getElem hl
    have e2 := hw.at_ k' _ e1
    have rg2 := (kept_run G).mpr rg'
    cases q : ws[k'] with
    | none => rw [q] at e2; exact absurd rg2 (e2 g')
    | some x =>
      rw [q] at e1 e2
      obtain ⟨t1, t2⟩ := at_told e1
      have := h3 _ (List.mem_map.mpr ⟨k', t1, rfl⟩)
      rw [t2] at this
      have := (e2.2.2 g' rg2).1
      omega
theorem most_gr (ok : t.Ok) (G : Good t ks) (hw : IsWholes (keptT t ks) (keptT t ks).N.toNat ws) (el : wl = (foundN (keptT t ks).E (keptT t ks).N.toNat).map wt) (h : mostL ws wl r) : IsGr t 1 r := by
  cases r with
  | none =>
    rcases h with e | ⟨x, hx, h0⟩
    · exact gr_none (norun_of ok G hw e)
    · rw [el] at hx
      obtain ⟨w, hw, rfl⟩ := List.mem_map.mp hx
      exact gr_loop G hw (by omega)
  | some m =>
    obtain ⟨_, h1, h2, h3⟩ := h
    obtain ⟨k, hk, rfl⟩ := List.mem_map.mp h2
    obtain ⟨kl, e⟩ := told_at hk
    obtain ⟨_, ⟨g, rg, eg⟩, _⟩ := hw.at_ k _ e
    refine gr_some G (.inl rfl) (fun w hw z => h1 (wt w) (by rw [el]; exact List.mem_map.mpr ⟨w, hw, rfl⟩) (by omega)) (k := k) ((kept_run G).mp (by
      have : (at2 ws k).2 - (k : Int) = g := by omega
      rw [this]; exact rg)) fun k' g' hk' rg' => ?_
    have hl : k' < ws.length := by rw [hw.len]; omega
    have e1 : ws[k']? = some ws[k'] := List.getElem?_eq_getElem hl
    have e2 := hw.at_ k' _ e1
    have rg2 := (kept_run G).mpr rg'
    cases q : ws[k'] with
    | none => rw [q] at e2; exact absurd rg2 (e2 g')
    | some x =>
      rw [q] at e1 e2
      obtain ⟨t1, t2⟩ := at_told e1
      have := h3 _ (List.mem_map.mpr ⟨k', t1, rfl⟩)
      rw [t2] at this
      have := (e2.2.2 g' rg2).2
      omega
end
structure Tn.Few4 (t : Tn) : Prop where
  n : t.N ≤ 4
  e : t.E.length ≤ 8
  b : t.B.length ≤ 4
  f : t.F.length ≤ 4
theorem Tn.Few4.few {t : Tn} (h : t.Few4) : t.Few := ⟨by have := h.n; omega, by have := h.e; omega, h.b, h.f⟩
def G_growths : List D → D → Prop := fun ds d => ∃ (t : Tn) (r1 r2 : Option Int), ds = [t.d] ∧ t.Ok ∧ t.Few4 ∧ IsGr t 1 r1 ∧ IsGr t (-1) r2 ∧ d = .tup [optI r2, optI r1]
section
variable {P : Program} {w : World} {K : PySem.W.Frag} {mg : Str → Option Value} {base : Heap}
end
end T
set_option maxHeartbeats 2000000
namespace T
open TK
variable [TC]
theorem round_found2 {E : List Ed} {N : Nat} (hE : ∀ e ∈ E, 0 ≤ e.a ∧ e.a < (N : Int)) (good : Nat → Int → Prop) (h0 : ¬ good 0 0) (split : ∀ n m x y, good (n + m) (x + y) → good n x ∨ good m y) :
    ∀ (k : Nat) {c g : Int}, Pth E c c k g → good k g → ∃ w ∈ foundN E N, good w.length (wt w) := by
  intro k
  induction k using Nat.strongRecOn with
  | ind k ih =>
    intro c g a hg
    obtain ⟨pl, gl, p0, pn, g0, gn, hs⟩ := a.seq
    cases k with
    | zero =>
      rw [g0] at gn
      exact absurd (gn ▸ hg) h0
    | succ k =>
      by_cases hd : ∃ i j, i < j ∧ j ≤ k ∧ pl i = pl j
      · obtain ⟨i, j, hij, hj, e⟩ := hd
        have a1 := seq_pth hs 0 i (by omega)
        have a2 := seq_pth hs i (j - i) (by omega)
        have a3 := seq_pth hs j (k + 1 - j) (by omega)
        rw [Nat.zero_add, p0, g0] at a1
        rw [show i + (j - i) = j by omega, ← e] at a2
        rw [show j + (k + 1 - j) = k + 1 by omega, pn, gn, ← e] at a3
        have a13 := a1.trans a3
        have eg : g = (gl j - gl i) + (gl i - 0 + (g - gl j)) := by omega
        rw [eg, show k + 1 = (j - i) + (i + (k + 1 - j)) by omega] at hg
        rcases split _ _ _ _ hg with z | z
        · exact ih (j - i) (by omega) a2 z
        · exact ih (i + (k + 1 - j)) (by omega) a13 z
      · -- edges
        have hex : ∀ i, ∃ e : Ed, i ≤ k → e ∈ E ∧ e.a = pl i ∧ e.b = pl (i + 1) ∧ gl (i + 1) = gl i + ((e.w.length : Int) - 1) := fun i => by
          by_cases c : i ≤ k
          · obtain ⟨e, h1, h2, h3, h4⟩ := hs i (by omega)
            exact ⟨e, fun _ => ⟨h1, h2, h3, h4⟩⟩
          · exact ⟨⟨0, 0, 0, []⟩, fun h => absurd h c⟩
        have ed := fun i => Classical.choose (hex i)
        obtain ⟨ed, hed⟩ : ∃ ed : Nat → Ed, ∀ i, i ≤ k → ed i ∈ E ∧ (ed i).a = pl i ∧ (ed i).b = pl (i + 1) ∧ gl (i + 1) = gl i + (((ed i).w.length : Int) - 1) := ⟨fun i => Classical.choose (hex i), fun i => Classical.choose_spec (hex i)⟩
        have hd' : ∀ i j, i < j → j ≤ k → (ed i).a ≠ (ed j).a := fun i j h1 h2 e => hd ⟨i, j, h1, h2, by rw [← (hed i (by omega)).2.1, ← (hed j h2).2.1]; exact e⟩
        have hl := round_latest (E := E) (ed := ed) (k := k) (fun i hi => (hed i hi).1) (fun i hi => by rw [(hed i (by omega)).2.2.1, (hed (i + 1) hi).2.1]) hd' (by rw [(hed k (Nat.le_refl _)).2.2.1, (hed 0 (Nat.zero_le _)).2.1, pn, p0]) k (Nat.le_refl _)
        have hkN : k < N := by
          have := nodup_len (l := (List.range (k + 1)).map fun i => (ed i).a) (U := upTo N) (by
            rw [List.nodup_iff_pairwise_ne, List.pairwise_map, List.pairwise_iff_getElem]
            intro i j hi hj hij
            rw [List.getElem_range, List.getElem_range]
            rw [List.length_range] at hj
            exact hd' i j hij (by omega)) fun x hx => by
              obtain ⟨i, hi, rfl⟩ := List.mem_map.mp hx
              have hi := List.mem_range.mp hi
              obtain ⟨b1, b2⟩ := hE _ (hed i (by omega)).1
              exact List.mem_map.mpr ⟨((ed i).a).toNat, List.mem_range.mpr (by omega), by omega⟩
          rw [List.length_map, List.length_range] at this
          simp [upTo] at this
          omega
        have hw : ∀ n, n ≤ k + 1 → wt ((List.range n).map ed) = gl n := fun n => by
          induction n with
          | zero => intro _; rw [g0]; rfl
          | succ n ihn =>
            intro hn
            have e2 : wt ((List.range (n + 1)).map ed) = wt ((List.range n).map ed) + (((ed n).w.length : Int) - 1) := by
              rw [List.range_succ, List.map_append]
              simp [wt]
            rw [e2, ihn (by omega), (hed n (by omega)).2.2.2]
        refine ⟨_, found_mem hkN hl ?_, by rw [hw _ (Nat.le_refl _), gn, List.length_map, List.length_range]; exact hg⟩
        unfold closedB
        refine decide_eq_true ?_
        have e1 : lastB ((List.range (k + 1)).map ed) = (ed k).b := by
          rw [List.range_succ, List.map_append]
          exact lastB_snoc _ _
        have e2 : firstA ((List.range (k + 1)).map ed) = (ed 0).a := by
          rw [List.range_succ_eq_map]
          rfl
        rw [e1, e2, (hed k (Nat.le_refl _)).2.2.1, (hed 0 (Nat.zero_le _)).2.1, pn, p0]
def gn (T B : Int) (e : Ed) : Int := B * (e.w.length : Int) - T
structure RS where
  h : Int → Int
  l : Int → Option Ed
  r : Option Int
def updF {β : Type} (f : Int → β) (k : Int) (x : β) : Int → β := fun i => if i = k then x else f i
theorem updF_same {β : Type} {f : Int → β} {k : Int} {x : β} : updF f k x k = x := if_pos rfl
theorem updF_ne {β : Type} {f : Int → β} {k i : Int} {x : β} (h : i ≠ k) : updF f k x i = f i := if_neg h
def riseB (T B : Int) (s : RS) (e : Ed) : Bool := decide (s.h e.b < s.h e.a + gn T B e)
def stepE (T B : Int) (s : RS) (e : Ed) : RS := if riseB T B s e then ⟨updF s.h e.b (s.h e.a + gn T B e), updF s.l e.b (some e), some e.b⟩ else s
def turnR (T B : Int) (E : List Ed) (s : RS) : RS := E.foldl (stepE T B) ⟨s.h, s.l, none⟩
def afterR (T B : Int) (E : List Ed) : Nat → RS
  | 0 => ⟨fun _ => 0, fun _ => none, none⟩
  | n + 1 => turnR T B E (afterR T B E n)
section
variable {T B : Int} {E : List Ed}
theorem fold_keep : ∀ (D : List Ed) (s : RS), (D.foldl (stepE T B) s).r = none → s.r = none ∧ D.foldl (stepE T B) s = s ∧ ∀ e ∈ D, s.h e.a + gn T B e ≤ s.h e.b
  | [], s, h => ⟨h, rfl, fun e he => by cases he⟩
  | e :: D, s, h => by
    obtain ⟨h1, h2, h3⟩ := fold_keep D (stepE T B s e) h
    cases c : riseB T B s e with
    | true =>
      unfold stepE at h1
      rw [c] at h1
      cases h1
    | false =>
      have e1 : stepE T B s e = s := by unfold stepE; rw [c]; rfl
      rw [e1] at h1 h2 h3
      refine ⟨h1, by rw [List.foldl_cons, e1]; exact h2, fun x hx => ?_⟩
      rcases List.mem_cons.mp hx with rfl | hx
      · have := of_decide_eq_false c
        omega
      · exact h3 x hx
inductive Bk (T B : Int) (l : Int → Option Ed) : Int → Nat → Int → Int → Prop
  | nil (v : Int) : Bk T B l v 0 0 v
  | cons {v : Int} {e : Ed} {n : Nat} {g u : Int} : l v = some e → Bk T B l e.a n g u → Bk T B l v (n + 1) (gn T B e + g) u
theorem Bk.app {l : Int → Option Ed} {v u x g g' : Int} {n m : Nat} (a : Bk T B l v n g u) (b : Bk T B l u m g' x) : Bk T B l v (n + m) (g + g') x := by
  induction a with
  | nil v => rw [Nat.zero_add, Int.zero_add]; exact b
  | @cons v e n g u hl _ ih =>
    rw [show n + 1 + m = (n + m) + 1 by omega, Int.add_assoc]
    exact .cons hl (ih b)
theorem Bk.det {l : Int → Option Ed} {v u u' g g' : Int} {n : Nat} (a : Bk T B l v n g u) (b : Bk T B l v n g' u') : u = u' ∧ g = g' := by
  induction a generalizing g' u' with
  | nil v => cases b; exact ⟨rfl, rfl⟩
  | @cons v e n g u hl _ ih =>
    cases b with
    | @cons _ e' _ g2 _ hl' b =>
      rw [hl] at hl'
      cases hl'
      obtain ⟨rfl, rfl⟩ := ih b
      exact ⟨rfl, rfl⟩
theorem Bk.split {l : Int → Option Ed} : ∀ (n : Nat) {m : Nat} {v u g : Int}, Bk T B l v (n + m) g u → ∃ x g1 g2, Bk T B l v n g1 x ∧ Bk T B l x m g2 u ∧ g = g1 + g2
  | 0, m, v, u, g, a => ⟨v, 0, g, .nil v, by rw [Nat.zero_add] at a; exact a, by omega⟩
  | n + 1, m, v, u, g, a => by
    rw [show n + 1 + m = (n + m) + 1 by omega] at a
    cases a with
    | @cons _ e _ g' _ hl a =>
      obtain ⟨x, g1, g2, a1, a2, rfl⟩ := Bk.split n a
      exact ⟨x, _, g2, .cons hl a1, a2, by omega⟩
structure InvR (T B : Int) (E : List Ed) (s : RS) : Prop where
  le : ∀ v e, s.l v = some e → e ∈ E ∧ e.b = v ∧ s.h v ≤ s.h e.a + gn T B e
  pos : ∀ n v g, Bk T B s.l v n g v → 0 < n → 0 < g
theorem Bk.height {s : RS} (i : InvR T B E s) {v u g : Int} {n : Nat} (a : Bk T B s.l v n g u) : s.h v ≤ s.h u + g := by
  induction a with
  | nil v => omega
  | cons hl _ ih =>
    have := (i.le _ _ hl).2.2
    omega
theorem Bk.cases_upd {l : Int → Option Ed} {v0 : Int} {e : Ed} {x u g : Int} {n : Nat} (a : Bk T B (updF l v0 (some e)) x n g u) : Bk T B l x n g u ∨ ∃ n1 n2 g1 g2, Bk T B l x n1 g1 v0 ∧ Bk T B (updF l v0 (some e)) v0 n2 g2 u ∧ n = n1 + n2 ∧ 0 < n2 ∧ g = g1 + g2 := by
  induction a with
  | nil v => exact .inl (.nil v)
  | @cons v e' n g u hl a ih =>
    by_cases c : v = v0
    · subst c
      exact .inr ⟨0, n + 1, 0, _, .nil v, .cons hl a, by omega, by omega, by omega⟩
    · rw [updF_ne c] at hl
      rcases ih with h | ⟨n1, n2, g1, g2, a1, a2, rfl, h2, rfl⟩
      · exact .inl (.cons hl h)
      · exact .inr ⟨n1 + 1, n2, _, g2, .cons hl a1, a2, by omega, h2, by omega⟩
theorem InvR.step {s : RS} (i : InvR T B E s) {e : Ed} (he : e ∈ E) : InvR T B E (stepE T B s e) := by
  unfold stepE
  cases c : riseB T B s e with
  | false => exact i
  | true =>
    have hr := of_decide_eq_true c
    have up : ∀ v, s.h v ≤ updF s.h e.b (s.h e.a + gn T B e) v := fun v => by
      by_cases q : v = e.b
      · rw [q, updF_same]; omega
      · rw [updF_ne q]; omega
    refine ⟨fun v e' hl => ?_, ?_⟩
    · by_cases q : v = e.b
      · subst q
        have hl : updF s.l e.b (some e) e.b = some e' := hl
        rw [updF_same] at hl
        cases hl
        refine ⟨he, rfl, ?_⟩
        show updF s.h e.b _ e.b ≤ updF s.h e.b _ e.a + _
        rw [updF_same]
        have := up e.a
        omega
      · have hl : updF s.l e.b (some e) v = some e' := hl
        rw [updF_ne q] at hl
        obtain ⟨h1, h2, h3⟩ := i.le v e' hl
        refine ⟨h1, h2, ?_⟩
        show updF s.h e.b _ v ≤ updF s.h e.b _ e'.a + _
        rw [updF_ne q]
        have := up e'.a
        omega
    · -- rounds through the changed place
      have key : ∀ (n : Nat) (g : Int), Bk T B (updF s.l e.b (some e)) e.b n g e.b → 0 < n → 0 < g := by
        intro n
        induction n using Nat.strongRecOn with
        | ind n ih =>
          intro g a hn
          cases a with
          | nil => omega
          | @cons _ e' m g' _ hl a =>
            rw [updF_same] at hl
            cases hl
            rcases a.cases_upd with h | ⟨n1, n2, g1, g2, a1, a2, rfl, h2, rfl⟩
            · have := Bk.height i h
              omega
            · have := Bk.height i a1
              have := ih n2 (by omega) g2 a2 h2
              omega
      intro n v g a hn
      rcases Bk.cases_upd (show Bk T B (updF s.l e.b (some e)) v n g v from a) with h | ⟨n1, n2, g1, g2, a1, a2, rfl, h2, rfl⟩
      · exact i.pos n v g h hn
      · -- turned round: from the place to itself
        have a1' : ∀ {x u g : Int} {n : Nat}, Bk T B s.l x n g u → u = e.b → Bk T B (updF s.l e.b (some e)) x n g e.b ∨ ∃ m m' g' g'', n = m + m' ∧ g = g' + g'' ∧ Bk T B (updF s.l e.b (some e)) x m g' e.b ∧ Bk T B s.l e.b m' g'' e.b ∧ 0 < m' := by
          intro x u g n a hu
          induction a with
          | nil v => subst hu; exact .inl (.nil _)
          | @cons v e' n g u hl a ih =>
            subst hu
            by_cases c : v = e.b
            · subst c
              exact .inr ⟨0, n + 1, 0, _, by omega, by omega, .nil _, .cons hl a, by omega⟩
            · rcases ih rfl with h | ⟨m, m', g', g'', rfl, rfl, b1, b2, b3⟩
              · exact .inl (.cons (by rw [updF_ne c]; exact hl) h)
              · exact .inr ⟨m + 1, m', _, g'', by omega, by omega, .cons (by rw [updF_ne c]; exact hl) b1, b2, b3⟩
        rcases a1' a1 rfl with h | ⟨m, m', g', g'', rfl, rfl, b1, b2, b3⟩
        · have := key _ _ (a2.app h) (by omega)
          omega
        · have q1 := key _ _ (a2.app b1) (by omega)
          have q2 := i.pos _ _ _ b2 b3
          omega
theorem InvR.fold : ∀ (D : List Ed) (s : RS), (∀ e ∈ D, e ∈ E) → InvR T B E s → InvR T B E (D.foldl (stepE T B) s)
  | [], s, _, i => i
  | e :: D, s, h, i => InvR.fold D _ (fun x hx => h x (List.mem_cons_of_mem _ hx)) (i.step (h e List.mem_cons_self))
theorem InvR.after : ∀ n, InvR T B E (afterR T B E n)
  | 0 => by
    refine ⟨(fun v e z => by cases z), fun n v g a hn => ?_⟩
    cases a with
    | nil => omega
    | cons hl _ => cases hl
  | n + 1 => InvR.fold E _ (fun _ h => h) ⟨(InvR.after n).le, (InvR.after n).pos⟩
structure Stm (T B : Int) (E : List Ed) (s : RS) (k : Nat) (D : List Ed) (st : Int → Nat) : Prop where
  some_ : ∀ v, 0 < st v → ∃ e, s.l v = some e
  back : ∀ v e, s.l v = some e → st v ≤ st e.a + 1
  todo : ∀ e ∈ D, s.h e.b < s.h e.a + gn T B e → k ≤ st e.a
  all : ∀ e ∈ E, s.h e.b < s.h e.a + gn T B e → e ∈ D ∨ k + 1 ≤ st e.a
  le : ∀ v, st v ≤ k + 1
  last : ∀ v, s.r = some v → st v = k + 1
theorem Stm.step {s : RS} {k : Nat} {e : Ed} {D : List Ed} {st : Int → Nat} (i : Stm T B E s k (e :: D) st) : ∃ st', Stm T B E (stepE T B s e) k D st' := by
  cases c : riseB T B s e with
  | false =>
    have hr := of_decide_eq_false c
    have e1 : stepE T B s e = s := by unfold stepE; rw [c]; rfl
    rw [e1]
    refine ⟨st, i.some_, i.back, fun x hx => i.todo x (List.mem_cons_of_mem _ hx), fun x hx hv => ?_, i.le, i.last⟩
    rcases i.all x hx hv with h | h
    · rcases List.mem_cons.mp h with rfl | h
      · exact absurd hv hr
      · exact .inl h
    · exact .inr h
  | true =>
    have hr := of_decide_eq_true c
    have e1 : stepE T B s e = ⟨updF s.h e.b (s.h e.a + gn T B e), updF s.l e.b (some e), some e.b⟩ := by unfold stepE; rw [c]; rfl
    rw [e1]
    have ha := i.todo e List.mem_cons_self hr
    have up : ∀ v, st v ≤ updF st e.b (k + 1) v := fun v => by
      by_cases q : v = e.b
      · rw [q, updF_same]; exact i.le _
      · rw [updF_ne q]; omega
    have viol : ∀ x : Ed, updF s.h e.b (s.h e.a + gn T B e) x.b < updF s.h e.b (s.h e.a + gn T B e) x.a + gn T B x → x.a = e.b ∨ s.h x.b < s.h x.a + gn T B x := fun x hv => by
      by_cases q : x.a = e.b
      · exact .inl q
      · rw [updF_ne q] at hv
        right
        by_cases q2 : x.b = e.b
        · rw [q2, updF_same] at hv
          rw [q2]
          omega
        · rw [updF_ne q2] at hv
          exact hv
    refine ⟨updF st e.b (k + 1), fun v hv => ?_, fun v x hl => ?_, fun x hx hv => ?_, fun x hx hv => ?_, fun v => ?_, fun v hv => ?_⟩
    · by_cases q : v = e.b
      · exact ⟨e, by rw [q]; exact updF_same⟩
      · rw [updF_ne q] at hv
        obtain ⟨x, hx⟩ := i.some_ v hv
        exact ⟨x, by show updF s.l e.b (some e) v = _; rw [updF_ne q]; exact hx⟩
    · have hl : updF s.l e.b (some e) v = some x := hl
      have := up x.a
      by_cases q : v = e.b
      · subst q
        rw [updF_same] at hl
        cases hl
        rw [updF_same]
        omega
      · rw [updF_ne q] at hl
        rw [updF_ne q]
        have := i.back v x hl
        omega
    · rcases viol x hv with q | q
      · rw [q, updF_same]; omega
      · have := i.todo x (List.mem_cons_of_mem _ hx) q
        have := up x.a
        omega
    · rcases viol x hv with q | q
      · right; rw [q, updF_same]; omega
      · rcases i.all x hx q with h | h
        · rcases List.mem_cons.mp h with rfl | h
          · right
            by_cases q3 : x.a = x.b
            · rw [q3, updF_same]; omega
            · have hv : updF s.h x.b (s.h x.a + gn T B x) x.b < updF s.h x.b (s.h x.a + gn T B x) x.a + gn T B x := hv
              rw [updF_same, updF_ne q3] at hv
              omega
          · exact .inl h
        · right
          have := up x.a
          omega
    · by_cases q : v = e.b
      · rw [q, updF_same]; omega
      · rw [updF_ne q]; exact i.le v
    · have hv : some e.b = some v := hv
      cases hv
      exact updF_same
theorem Stm.fold : ∀ (D : List Ed) (s : RS) (k : Nat) (st : Int → Nat), Stm T B E s k D st → ∃ st', Stm T B E (D.foldl (stepE T B) s) k [] st'
  | [], s, k, st, i => ⟨st, i⟩
  | e :: D, s, k, st, i => by
    obtain ⟨st', i'⟩ := i.step
    exact Stm.fold D _ k st' i'
theorem Stm.after : ∀ k, ∃ st, Stm T B E (afterR T B E (k + 1)) k [] st
  | 0 => Stm.fold E _ 0 (fun _ => 0) ⟨(fun v h => absurd h (Nat.lt_irrefl 0)), (fun v e h => by cases h), fun e he hv => Nat.zero_le _, fun e he hv => .inl he, fun v => Nat.zero_le _, (fun v h => by cases h)⟩
  | k + 1 => by
    obtain ⟨st, i⟩ := Stm.after k
    exact Stm.fold E _ (k + 1) st ⟨i.some_, i.back, fun e he hv => (i.all e he hv).elim (fun h => by cases h) fun h => h, fun e he hv => .inl he, (fun v => by have := i.le v; omega), (fun v h => by cases h)⟩
theorem Stm.walk {s : RS} {k : Nat} {st : Int → Nat} (i : Stm T B E s k [] st) : ∀ (n : Nat) (v : Int), n ≤ st v → ∃ g u, Bk T B s.l v n g u
  | 0, v, _ => ⟨0, v, .nil v⟩
  | n + 1, v, h => by
    obtain ⟨e, he⟩ := i.some_ v (by omega)
    have := i.back v e he
    obtain ⟨g, u, a⟩ := Stm.walk i n e.a (by omega)
    exact ⟨_, u, .cons he a⟩
theorem back_walk {N : Nat} {v : Int} (hN : 0 < N) (h : (afterR T B E N).r = some v) : ∃ g u, Bk T B (afterR T B E N).l v N g u := by
  obtain ⟨k, rfl⟩ : ∃ k, N = k + 1 := ⟨N - 1, by omega⟩
  obtain ⟨st, i⟩ := Stm.after (T := T) (B := B) (E := E) k
  exact i.walk (k + 1) v (Nat.le_of_eq (i.last v h).symm)
theorem back_round {N : Nat} {s : RS} (i : InvR T B E s) (hE : ∀ e ∈ E, (0 ≤ e.a ∧ e.a < (N : Int)) ∧ 0 ≤ e.b ∧ e.b < (N : Int)) {v u g : Int} (hv : 0 ≤ v ∧ v < (N : Int)) (a : Bk T B s.l v N g u) : ∃ c g', 0 < c ∧ c ≤ N ∧ Bk T B s.l u c g' u := by
  have inR : ∀ {n : Nat} {x y g : Int}, Bk T B s.l x n g y → (0 ≤ x ∧ x < (N : Int)) → 0 ≤ y ∧ y < (N : Int) := fun a => by
    induction a with
    | nil v => exact fun h => h
    | cons hl _ ih => exact fun _ => ih (hE _ (i.le _ _ hl).1).1
  have hex : ∀ m, ∃ x, m ≤ N → ∃ g1, Bk T B s.l v m g1 x := fun m => by
    by_cases c : m ≤ N
    · rw [show N = m + (N - m) by omega] at a
      obtain ⟨x, g1, g2, a1, _, _⟩ := Bk.split m a
      exact ⟨x, fun _ => ⟨g1, a1⟩⟩
    · exact ⟨0, fun h => absurd h c⟩
  obtain ⟨nd, hnd⟩ : ∃ nd : Nat → Int, ∀ m, m ≤ N → ∃ g1, Bk T B s.l v m g1 (nd m) := ⟨fun m => Classical.choose (hex m), fun m => Classical.choose_spec (hex m)⟩
  obtain ⟨m1, m2, h1, h2, e⟩ : ∃ m1 m2, m1 < m2 ∧ m2 ≤ N ∧ nd m1 = nd m2 := by
    apply Classical.byContradiction
    intro no
    have := nodup_len (l := (List.range (N + 1)).map nd) (U := upTo N) (by
      rw [List.nodup_iff_pairwise_ne, List.pairwise_map, List.pairwise_iff_getElem]
      intro i j hi hj hij
      rw [List.getElem_range, List.getElem_range]
      rw [List.length_range] at hj
      exact fun e => no ⟨i, j, hij, by omega, e⟩) fun x hx => by
        obtain ⟨m, hm, rfl⟩ := List.mem_map.mp hx
        have hm := List.mem_range.mp hm
        obtain ⟨g1, a1⟩ := hnd m (by omega)
        obtain ⟨b1, b2⟩ := inR a1 hv
        exact List.mem_map.mpr ⟨(nd m).toNat, List.mem_range.mpr (by omega), by omega⟩
    rw [List.length_map, List.length_range] at this
    simp [upTo] at this
    omega
  obtain ⟨g1, a1⟩ := hnd m1 (by omega)
  obtain ⟨g2, a2⟩ := hnd m2 h2
  rw [← e] at a2
  have aN := a
  rw [show N = m2 + (N - m2) by omega] at aN
  obtain ⟨x, p1, p2, b1, b2, _⟩ := Bk.split m2 aN
  obtain ⟨e1, _⟩ := b1.det a2
  rw [e1] at b2
  have c1 := a1.app b2
  have aM := a
  rw [show N = (m1 + (N - m2)) + (m2 - m1) by omega] at aM
  obtain ⟨y, q1, q2, d1, d2, _⟩ := Bk.split (m1 + (N - m2)) aM
  obtain ⟨e2, _⟩ := d1.det c1
  rw [e2] at d2
  exact ⟨m2 - m1, q2, by omega, by omega, d2⟩
end
end T
set_option maxHeartbeats 2000000
namespace T
open TK
variable [TC]
theorem lets_rev (w : List Ed) : lets w.reverse = lets w := by
  unfold lets
  rw [List.map_reverse, List.sum_reverse]
theorem wt_rev (w : List Ed) : wt w.reverse = wt w := by rw [wt_lets, wt_lets, lets_rev, List.length_reverse]
theorem gn_sum {T B : Int} : ∀ w : List Ed, (w.map (gn T B)).sum = B * (lets w : Int) - T * (w.length : Int)
  | [] => by simp [lets]
  | e :: w => by
    have := gn_sum (T := T) (B := B) w
    unfold lets at this ⊢
    simp only [List.map_cons, List.sum_cons, List.length_cons] at this ⊢
    rw [this]
    unfold gn
    rw [Int.natCast_add, Int.mul_add, Int.natCast_add, Int.mul_add]
    simp
    omega
def red (m k : Nat) : Nat × Nat := (m / m.gcd k, k / m.gcd k)
section
variable {m k m' k' : Nat}
theorem gcd_posR (h : 0 < k) : 0 < m.gcd k := Nat.gcd_pos_of_pos_right m h
theorem red1 : (red m k).1 * m.gcd k = m := Nat.div_mul_cancel (Nat.gcd_dvd_left m k)
theorem red2 : (red m k).2 * m.gcd k = k := Nat.div_mul_cancel (Nat.gcd_dvd_right m k)
theorem red_pos (h : 0 < k) : 0 < (red m k).2 := by
  have e := red2 (m := m) (k := k)
  apply Classical.byContradiction
  intro z
  have : (red m k).2 = 0 := by omega
  rw [this] at e
  omega
theorem red_cop (h : 0 < k) : ((red m k).1).Coprime (red m k).2 := Nat.coprime_div_gcd_div_gcd (gcd_posR h)
theorem red_mul : m * (red m k).2 = (red m k).1 * k := by
  have e1 := red1 (m := m) (k := k)
  have e2 := red2 (m := m) (k := k)
  have : (red m k).1 * m.gcd k * (red m k).2 = (red m k).1 * ((red m k).2 * m.gcd k) := by ac_rfl
  rw [e1, e2] at this
  exact this
theorem red_uniq (hk : 0 < k) (hk' : 0 < k') (e : m * k' = m' * k) : red m k = red m' k' := by
  have p1 := red_pos (m := m) hk
  have p2 := red_pos (m := m') hk'
  have c1 := red_cop (m := m) hk
  have c2 := red_cop (m := m') hk'
  have g1 := gcd_posR (m := m) hk
  have g2 := gcd_posR (m := m') hk'
  have x : (red m k).1 * (red m' k').2 = (red m' k').1 * (red m k).2 := by
    have e2 : ((red m k).1 * (red m' k').2) * (m.gcd k * m'.gcd k') = ((red m' k').1 * (red m k).2) * (m.gcd k * m'.gcd k') := by
      have a1 : ((red m k).1 * (red m' k').2) * (m.gcd k * m'.gcd k') = ((red m k).1 * m.gcd k) * ((red m' k').2 * m'.gcd k') := by ac_rfl
      have a2 : ((red m' k').1 * (red m k).2) * (m.gcd k * m'.gcd k') = ((red m' k').1 * m'.gcd k') * ((red m k).2 * m.gcd k) := by ac_rfl
      rw [a1, a2, red1, red2, red1, red2, e]
    exact Nat.eq_of_mul_eq_mul_right (Nat.mul_pos g1 g2) e2
  have d1 : (red m k).2 ∣ (red m' k').2 := c1.symm.dvd_of_dvd_mul_left (n := (red m' k').2) (m := (red m k).1) ⟨(red m' k').1, by rw [x, Nat.mul_comm]⟩
  have d2 : (red m' k').2 ∣ (red m k).2 := c2.symm.dvd_of_dvd_mul_left (n := (red m k).2) (m := (red m' k').1) ⟨(red m k).1, by rw [← x, Nat.mul_comm]⟩
  have e2 := Nat.dvd_antisymm d1 d2
  rw [e2] at x
  exact Prod.ext (Nat.eq_of_mul_eq_mul_right p2 x) e2
end
def aboveN (E : List Ed) (T B : Int) : Prop := ∃ (c : Int) (n : Nat) (g : Int), Pth E c c n g ∧ 0 < B * (g + (n : Int)) - T * (n : Int)
section
variable {E : List Ed} {T B : Int} {N : Nat}
theorem fix_pth {h : Int → Int} (hf : ∀ e ∈ E, h e.a + gn T B e ≤ h e.b) {p q g : Int} {n : Nat} (a : Pth E p q n g) : h p + (B * (g + (n : Int)) - T * (n : Int)) ≤ h q := by
  induction a with
  | nil => simp
  | @snoc q n g e a he ea ih =>
    have := hf e he
    rw [ea] at this
    unfold gn at this
    have e1 : B * (g + ((e.w.length : Int) - 1) + ((n + 1 : Nat) : Int)) = B * (g + (n : Int)) + B * (e.w.length : Int) := by
      rw [← Int.mul_add]
      congr 1
      omega
    have e2 : T * ((n + 1 : Nat) : Int) = T * (n : Int) + T := by
      rw [Int.natCast_add, Int.mul_add]
      simp
    rw [e1, e2]
    omega
theorem fix_noAbove {h : Int → Int} (hf : ∀ e ∈ E, h e.a + gn T B e ≤ h e.b) : ¬ aboveN E T B := fun ⟨c, n, g, a, hg⟩ => by
  have := fix_pth hf a
  omega
structure RoundL (E W : List Ed) : Prop where
  ne : W ≠ []
  mem : ∀ e ∈ W, e ∈ E
  cyc : ∀ k e f, W[k]? = some e → W[k + 1]? = some f → e.b = f.a
  cl : lastB W = firstA W
  pth : ∃ c, Pth E c c W.length (wt W)
def BwL (l : Int → Option Ed) : Int → List Ed → Int → Prop
  | v, [], u => v = u
  | v, e :: es, u => l v = some e ∧ BwL l e.a es u
theorem BwL.snoc {l : Int → Option Ed} : ∀ {es : List Ed} {v x : Int} {e : Ed}, BwL l v es x → l x = some e → BwL l v (es ++ [e]) e.a
  | [], v, x, e, h, he => by
    have h : v = x := h
    rw [h]
    exact ⟨he, rfl⟩
  | e' :: es, v, x, e, h, he => ⟨h.1, BwL.snoc h.2 he⟩
theorem BwL.bk {l : Int → Option Ed} : ∀ {es : List Ed} {v u : Int}, BwL l v es u → Bk T B l v es.length (es.map (gn T B)).sum u
  | [], v, u, h => by
    have h : v = u := h
    rw [h]
    exact .nil u
  | e :: es, v, u, h => .cons h.1 (BwL.bk h.2)
theorem BwL.more {l : Int → Option Ed} {es : List Ed} {v x u g : Int} {c : Nat} (h : BwL l v es x) (a : Bk T B l v c g u) (hc : es.length < c) : ∃ e, l x = some e := by
  rw [show c = es.length + (c - es.length) by omega] at a
  obtain ⟨y, g1, g2, a1, a2, _⟩ := Bk.split es.length a
  obtain ⟨e1, _⟩ := a1.det (h.bk (T := T) (B := B))
  rw [e1] at a2
  obtain ⟨k, hk⟩ : ∃ k, c - es.length = k + 1 := ⟨c - es.length - 1, by omega⟩
  rw [hk] at a2
  cases a2 with
  | cons hl _ => exact ⟨_, hl⟩
theorem BwL.done {l : Int → Option Ed} {es : List Ed} {v x u g : Int} {c : Nat} (h : BwL l v es x) (a : Bk T B l v c g u) (hc : es.length = c) : x = u := ((h.bk (T := T) (B := B)).det (hc ▸ a)).1
theorem BwL.lastA {l : Int → Option Ed} : ∀ {es : List Ed} {v u : Int} {e : Ed}, BwL l v es u → es.getLast? = some e → e.a = u
  | [], v, u, e, _, z => by cases z
  | [e'], v, u, e, h, z => by
    cases z
    exact h.2
  | e1 :: e2 :: es, v, u, e, h, z => BwL.lastA (es := e2 :: es) h.2 (by rw [List.getLast?_cons_cons] at z; exact z)
section
variable {s : RS} (i : InvR T B E s)
include i
theorem BwL.mem : ∀ {es : List Ed} {v u : Int}, BwL s.l v es u → ∀ e ∈ es, e ∈ E
  | [], v, u, _, e, he => by cases he
  | e' :: es, v, u, h, e, he => by
    rcases List.mem_cons.mp he with rfl | he
    · exact (i.le _ _ h.1).1
    · exact BwL.mem h.2 e he
theorem BwL.next : ∀ {es : List Ed} {v u : Int}, BwL s.l v es u → ∀ j e f, es[j]? = some f → es[j + 1]? = some e → e.b = f.a
  | [], v, u, _, j, e, f, z, _ => by cases z
  | [e'], v, u, h, j, e, f, _, z => by simp at z
  | e1 :: e2 :: es, v, u, h, 0, e, f, z1, z2 => by
    cases z1
    cases z2
    exact (i.le _ _ h.2.1).2.1
  | e1 :: e2 :: es, v, u, h, j + 1, e, f, z1, z2 => BwL.next (es := e2 :: es) h.2 j e f z1 z2
theorem BwL.pthE : ∀ {es : List Ed} {v u : Int}, BwL s.l v es u → Pth E u v es.length (wt es)
  | [], v, u, h => by
    have h : v = u := h
    rw [h]
    exact .nil u
  | e :: es, v, u, h => by
    have a := BwL.pthE h.2
    obtain ⟨h1, h2, _⟩ := i.le _ _ h.1
    have b := a.snoc h1 rfl
    rw [h2] at b
    have : wt (e :: es) = wt es + ((e.w.length : Int) - 1) := by
      unfold wt
      rw [List.map_cons, List.sum_cons, Int.add_comm]
    rw [this]
    exact b
theorem bwl_round {es : List Ed} {u : Int} (h : BwL s.l u es u) (hne : es ≠ []) : RoundL E es.reverse ∧ 0 < B * (lets es.reverse : Int) - T * (es.reverse.length : Int) := by
  refine ⟨⟨fun z => hne (List.reverse_eq_nil_iff.mp z), fun e he => BwL.mem i h e (List.mem_reverse.mp he), fun k e f h1 h2 => ?_, ?_, ⟨u, ?_⟩⟩, ?_⟩
  · have l2 := (List.getElem?_eq_some_iff.mp h2).1
    rw [List.length_reverse] at l2
    rw [List.getElem?_reverse (by omega)] at h1 h2
    refine BwL.next i h (es.length - 1 - (k + 1)) e f h2 ?_
    rw [show es.length - 1 - (k + 1) + 1 = es.length - 1 - k by omega]
    exact h1
  · unfold lastB firstA
    rw [List.getLast?_reverse, List.head?_reverse]
    cases es with
    | nil => exact absurd rfl hne
    | cons e es =>
      obtain ⟨x, hx⟩ : ∃ x, (e :: es).getLast? = some x := ⟨_, List.getLast?_eq_getLast (by simp)⟩
      rw [hx]
      show e.b = x.a
      rw [BwL.lastA h hx]
      exact (i.le _ _ h.1).2.1
  · rw [List.length_reverse, wt_rev]
    exact BwL.pthE i h
  · rw [lets_rev, List.length_reverse, ← gn_sum]
    exact i.pos _ _ _ h.bk (List.length_pos_iff.mpr hne)
end
theorem RoundL.above {W : List Ed} (h : RoundL E W) (hg : 0 < B * (lets W : Int) - T * (W.length : Int)) : aboveN E T B := by
  obtain ⟨c, a⟩ := h.pth
  refine ⟨c, _, _, a, ?_⟩
  rw [wt_lets, show (lets W : Int) - (W.length : Int) + (W.length : Int) = (lets W : Int) by omega]
  exact hg
theorem above_found (hE : ∀ e ∈ E, 0 ≤ e.a ∧ e.a < (N : Int)) : aboveN E T B ↔ ∃ w ∈ foundN E N, 0 < B * (lets w : Int) - T * (w.length : Int) := by
  constructor
  · rintro ⟨c, n, g, a, hg⟩
    obtain ⟨w, hw, h⟩ := round_found2 hE (fun n g => 0 < B * (g + (n : Int)) - T * (n : Int)) (by simp) (fun n m x y h => by
      have e1 : B * (x + y + ((n + m : Nat) : Int)) = B * (x + (n : Int)) + B * (y + (m : Int)) := by
        rw [← Int.mul_add]
        congr 1
        omega
      have e2 : T * ((n + m : Nat) : Int) = T * (n : Int) + T * (m : Int) := by rw [Int.natCast_add, Int.mul_add]
      rw [e1, e2] at h
      by_cases c : 0 < B * (x + (n : Int)) - T * (n : Int)
      · exact .inl c
      · exact .inr (by omega)) n a hg
    refine ⟨w, hw, ?_⟩
    rw [wt_lets, show (lets w : Int) - (w.length : Int) + (w.length : Int) = (lets w : Int) by omega] at h
    exact h
  · rintro ⟨w, hw, hg⟩
    obtain ⟨h1, _, h3⟩ := found_wy hw
    have a := h1.pth
    rw [h3] at a
    refine ⟨_, _, _, a, ?_⟩
    rw [wt_lets, show (lets w : Int) - (w.length : Int) + (w.length : Int) = (lets w : Int) by omega]
    exact hg
theorem found_ne {w : List Ed} (h : w ∈ foundN E N) : 0 < w.length := List.length_pos_iff.mpr (found_wy h).1.ne
def rateL (W : List Ed) : Nat × Nat := red (lets W) W.length
def IsDue (E : List Ed) (N : Nat) : Option (Nat × Nat) → Prop
  | none => foundN E N = []
  | some p => (∃ w ∈ foundN E N, p = rateL w) ∧ ∀ w ∈ foundN E N, (lets w : Int) * (p.2 : Int) ≤ (p.1 : Int) * (w.length : Int)
def IsBest (E : List Ed) (N : Nat) : Option (List Ed) → Prop
  | none => ¬ aboveN E (-1) 0
  | some W => RoundL E W ∧ W.length ≤ N ∧ ¬ aboveN E ((rateL W).1 : Int) ((rateL W).2 : Int)
theorem rate_mul (W : List Ed) : (lets W : Int) * ((rateL W).2 : Int) = ((rateL W).1 : Int) * (W.length : Int) := by
  have := red_mul (m := lets W) (k := W.length)
  unfold rateL
  rw [← Int.natCast_mul, this, Int.natCast_mul]
theorem rate_pos {W : List Ed} (h : 0 < W.length) : (0 : Int) < ((rateL W).2 : Int) := by
  have := red_pos (m := lets W) h
  unfold rateL
  omega
theorem best_due (hE : ∀ e ∈ E, 0 ≤ e.a ∧ e.a < (N : Int)) {r : Option (List Ed)} {d : Option (Nat × Nat)} (hr : IsBest E N r) (hd : IsDue E N d) : (r = none ∧ d = none) ∨ ∃ W, r = some W ∧ d = some (rateL W) := by
  have some_of : ∀ w ∈ foundN E N, aboveN E (-1) 0 := fun w hw => (above_found hE).mpr ⟨w, hw, by have := found_ne hw; omega⟩
  cases r with
  | none =>
    cases d with
    | none => exact .inl ⟨rfl, rfl⟩
    | some p =>
      obtain ⟨⟨w, hw, _⟩, _⟩ := hd
      exact absurd (some_of w hw) hr
  | some W =>
    obtain ⟨h1, h2, h3⟩ := hr
    have hW : 0 < W.length := List.length_pos_iff.mpr h1.ne
    cases d with
    | none =>
      obtain ⟨w, hw, _⟩ := (above_found (T := -1) (B := 0) hE).mp (h1.above (by omega))
      have hd : foundN E N = [] := hd
      rw [hd] at hw
      cases hw
    | some p =>
      refine .inr ⟨W, rfl, ?_⟩
      obtain ⟨⟨w, hw, rfl⟩, hx⟩ := hd
      have hwl := found_ne hw
      have pw := rate_pos hwl
      have pW := rate_pos hW
      have q1 : ((rateL W).2 : Int) * (lets w : Int) ≤ ((rateL W).1 : Int) * (w.length : Int) := by
        apply Classical.byContradiction
        intro z
        exact h3 ((above_found hE).mpr ⟨w, hw, by omega⟩)
      have q2 : ((rateL w).2 : Int) * (lets W : Int) ≤ ((rateL w).1 : Int) * (W.length : Int) := by
        apply Classical.byContradiction
        intro z
        obtain ⟨w', hw', h'⟩ := (above_found hE).mp (h1.above (T := ((rateL w).1 : Int)) (B := ((rateL w).2 : Int)) (by omega))
        have := hx w' hw'
        rw [Int.mul_comm] at this
        omega
      have r1 : (lets w : Int) * (W.length : Int) ≤ (lets W : Int) * (w.length : Int) := by
        refine Int.le_of_mul_le_mul_right (a := ((rateL W).2 : Int)) ?_ pW
        have e1 : (lets w : Int) * (W.length : Int) * ((rateL W).2 : Int) = ((rateL W).2 : Int) * (lets w : Int) * (W.length : Int) := by ac_rfl
        have e2 : (lets W : Int) * (w.length : Int) * ((rateL W).2 : Int) = ((rateL W).1 : Int) * (w.length : Int) * (W.length : Int) := by
          rw [show (lets W : Int) * (w.length : Int) * ((rateL W).2 : Int) = ((lets W : Int) * ((rateL W).2 : Int)) * (w.length : Int) by ac_rfl, rate_mul]
          ac_rfl
        rw [e1, e2]
        exact Int.mul_le_mul_of_nonneg_right q1 (by omega)
      have r2 : (lets W : Int) * (w.length : Int) ≤ (lets w : Int) * (W.length : Int) := by
        refine Int.le_of_mul_le_mul_right (a := ((rateL w).2 : Int)) ?_ pw
        have e1 : (lets W : Int) * (w.length : Int) * ((rateL w).2 : Int) = ((rateL w).2 : Int) * (lets W : Int) * (w.length : Int) := by ac_rfl
        have e2 : (lets w : Int) * (W.length : Int) * ((rateL w).2 : Int) = ((rateL w).1 : Int) * (W.length : Int) * (w.length : Int) := by
          rw [show (lets w : Int) * (W.length : Int) * ((rateL w).2 : Int) = ((lets w : Int) * ((rateL w).2 : Int)) * (W.length : Int) by ac_rfl, rate_mul]
          ac_rfl
        rw [e1, e2]
        exact Int.mul_le_mul_of_nonneg_right q2 (by omega)
      have r3 : (lets w) * W.length = (lets W) * w.length := by
        have : ((lets w * W.length : Nat) : Int) = ((lets W * w.length : Nat) : Int) := by
          rw [Int.natCast_mul, Int.natCast_mul]
          omega
        omega
      exact congrArg some (red_uniq hwl hW r3)
theorem can_be (hE : ∀ e ∈ E, 0 ≤ e.a ∧ e.a < (N : Int)) {d : Option (Nat × Nat)} (hd : IsDue E N d) (hB : 0 ≤ B) : ¬ aboveN E T B ↔ ∀ p, d = some p → (p.1 : Int) * B ≤ T * (p.2 : Int) := by
  rw [above_found (N := N) hE]
  cases d with
  | none =>
    have hd : foundN E N = [] := hd
    exact ⟨(fun _ p z => by cases z), (fun _ ⟨w, hw, _⟩ => by rw [hd] at hw; cases hw)⟩
  | some p =>
    obtain ⟨⟨w0, hw0, rfl⟩, hx⟩ := hd
    have p0 := rate_pos (found_ne hw0)
    constructor
    · intro h p e
      cases e
      apply Classical.byContradiction
      intro z
      refine h ⟨w0, hw0, ?_⟩
      have k : T * (w0.length : Int) < B * (lets w0 : Int) := by
        refine Int.lt_of_mul_lt_mul_right (a := ((rateL w0).2 : Int)) ?_ (by omega)
        have e1 : T * (w0.length : Int) * ((rateL w0).2 : Int) = T * ((rateL w0).2 : Int) * (w0.length : Int) := by ac_rfl
        have e2 : B * (lets w0 : Int) * ((rateL w0).2 : Int) = ((rateL w0).1 : Int) * B * (w0.length : Int) := by
          rw [show B * (lets w0 : Int) * ((rateL w0).2 : Int) = B * ((lets w0 : Int) * ((rateL w0).2 : Int)) by ac_rfl, rate_mul]
          ac_rfl
        rw [e1, e2]
        exact Int.mul_lt_mul_of_pos_right (by omega) (by have := found_ne hw0; omega)
      omega
    · intro h ⟨w, hw, hg⟩
      have h1 := h _ rfl
      have h2 := hx w hw
      have k : B * (lets w : Int) ≤ T * (w.length : Int) := by
        refine Int.le_of_mul_le_mul_right (a := ((rateL w0).2 : Int)) ?_ p0
        have e1 : B * (lets w : Int) * ((rateL w0).2 : Int) = (lets w : Int) * ((rateL w0).2 : Int) * B := by ac_rfl
        have e2 : T * (w.length : Int) * ((rateL w0).2 : Int) = T * ((rateL w0).2 : Int) * (w.length : Int) := by ac_rfl
        rw [e1, e2]
        refine Int.le_trans (Int.mul_le_mul_of_nonneg_right h2 hB) ?_
        rw [show ((rateL w0).1 : Int) * (w.length : Int) * B = ((rateL w0).1 : Int) * B * (w.length : Int) by ac_rfl]
        exact Int.mul_le_mul_of_nonneg_right h1 (by omega)
      omega
end
end T
set_option maxHeartbeats 2000000
namespace TK
open PySem L2 NdefX LamX
variable [TC]
def spO (a b : Sp) : Sp := fun vs H Q E => a vs H Q E ∨ b vs H Q E
section
variable {P : Program} {w : World} {K : PySem.W.Frag} {mg : Str → Option Value} {base : Heap}
theorem FnOk.or {k : Nat} {f : Addr} {fd : FuncData} {ps : List Str} {a b : Sp} (F : FnOk P w K mg base CX0 k f fd ps a) (G : FnOk P w K mg base CX0 k f fd ps b) : FnOk P w K mg base CX0 k f fd ps (spO a b) :=
  ⟨fun vs H Q E q => q.elim (F.len vs H Q E) (G.len vs H Q E), fun A outer s H args us vs Q E hr he hb hv hs => hs.elim (F.run A outer s H args us vs Q E hr he hb hv) (G.run A outer s H args us vs Q E hr he hb hv)⟩
theorem Dn.or {x : Str} {ps : List Str} {k : Nat} {a b : Sp} (D : Dn P w K mg base x ps k a) (G : Dn P w K mg base x ps k b) : Dn P w K mg base x ps k (spO a b) := by
  obtain ⟨fd, F, b1, f1⟩ := D.ex
  obtain ⟨fd', F', _, f2⟩ := G.ex
  have e := f1.same f2
  subst e
  exact ⟨⟨fd, FnOk.or F F', b1, f1⟩, D.mg, D.kp⟩
theorem Dn.up {x : Str} {ps : List Str} {k j : Nat} {a : Sp} (D : Dn P w K mg base x ps k a) (h : k ≤ j) : Dn P w K mg base x ps j a := by
  obtain ⟨fd, F, b1, f1⟩ := D.ex
  exact ⟨⟨fd, F.mono h, b1, f1⟩, D.mg, D.kp⟩
end
section
variable {δ δ' : Dl} {μ μ' : Mu} {te ta tb tc tl td ty tx tk tv to ti : TE} {tt tu : TT} {tr ts : TA} {x y z : A} {d e : D} {b c : Bool} {g : TG} {wi : TI} {K : PySem.W.Frag} {w : World} {xs ys : List A} {a : Addr}
theorem e_callS {sp : Sp} {G : List D → D → Prop} (hsp : ∀ vs H Q E, spR G vs H Q E → sp vs H Q E) (ds : List D) (h : EA δ μ tr xs) (hx : xs = ds.map .dat) (hG : G ds d) : E δ μ (tCall sp [] E0 tr) (.dat d) := fun σ H s Q k =>
  h σ H s _ fun vs H1 f1 r1 => by
    subst hx
    rw [List.append_nil]
    exact hsp _ _ _ _ ⟨ds, d, (s.mem.step f1).tb, RpAL.dat.mp r1, hG, fun v H2 f2 r2 => k v H2 (f1.trans0 f2) r2⟩
theorem ex_callXS {sp : Sp} {G : List A → Mu → (A → Mu → Prop) → Prop} (hsp : ∀ vs H Q E, spM G vs H Q E → sp vs H Q E) {S : List A → Mu → Prop} {T : A → Mu → Prop} (h : EXA δ μ tr S) (hS : ∀ xs μ1, S xs μ1 → ∃ ν ρ R0, μ1.Perm (ν ++ ρ) ∧ G xs ν R0 ∧ ∀ x ν', R0 x ν' → ∃ μ', (ν' ++ ρ).Perm μ' ∧ T x μ') : EX δ μ (tCall sp [] E0 tr) T := fun σ H s Q k =>
  h σ H s _ fun xs μ1 vs H1 hs m1 f1 r1 => by
    obtain ⟨ν, ρ, R0, hp, hG, hT⟩ := hS xs μ1 hs
    rw [List.append_nil]
    have m1' := m1.perm hp
    refine hsp _ _ _ _ ⟨xs, ν, R0, r1, m1'.sub (List.sublist_append_left _ _), hG, fun x ν' v H2 h0 m2 f2 r2 => ?_⟩
    have hsub : ∀ a ∈ keys ν, a ∈ keys (ν ++ ρ) := fun a ha => by
      unfold keys
      rw [List.map_append]
      exact List.mem_append_left _ ha
    have m3 := m1'.frame hsub f2 m2
    rw [filt_app m1'.nd] at m3
    obtain ⟨μ', hp', ht⟩ := hT x ν' h0
    have f3 : FS (ν ++ ρ) H1 (ν' ++ ρ) H2 := ⟨f2.fr.weak hsub, fun a ha => by
      unfold keys at ha
      rw [List.map_append] at ha
      rcases List.mem_append.mp ha with q | q
      · rcases f2.new a q with z | z
        · exact .inl (hsub a z)
        · exact .inr z
      · refine .inl ?_
        unfold keys
        rw [List.map_append]
        exact List.mem_append_right _ q⟩
    exact k x _ v H2 ht (m3.perm hp') (f1.trans ((f3.permL hp.symm).permR hp')) r2
end
end TK
set_option maxHeartbeats 2000000
namespace TK
open PySem L2 NdefX LamX
variable [TC]
section
variable {δ δ' : Dl} {μ μ' : Mu} {te ta tb tc tl td ty tx tk tv to ti : TE} {tt tu : TT} {tr ts : TA} {x y z : A} {d e : D} {b c : Bool} {g : TG} {wi : TI} {K : PySem.W.Frag} {w : World} {xs ys : List A} {a : Addr}
theorem ex_notNX {R : A → Mu → Prop} (h : EX δ μ ta R) : EX δ μ (tOp rNotN0 ta (tC .non)) fun x μ' => ∃ y, R y μ' ∧ x = .dat (.bl (!isN y)) := fun σ H s Q k => h σ H s _ fun y μ1 v H1 r m f ry => ⟨rfl, by
  rw [isN_eq ry]
  exact k _ μ1 _ H1 ⟨y, r, rfl⟩ m f (Rp.bl _)⟩
theorem ex_andX {R S : A → Mu → Prop} (h : EX δ μ ta R) (k : ∀ x μ', R x μ' → ∃ b : Bool, x = .dat (.bl b) ∧ (b = false → S x μ') ∧ (b = true → EX δ μ' tb S)) : EX δ μ (tAndV ta tb) S := fun σ H s Q q => h σ H s _ fun x μ1 v H1 r m f rx => by
  obtain ⟨b, rfl, h0, h1⟩ := k x μ1 r
  refine ⟨b, rp_bl rx, ?_⟩
  cases b with
  | true => exact iteT (h1 rfl σ H1 (s.withM f.fr.tup m) Q fun x2 μ2 v2 H3 r2 m2 f2 rx2 => q x2 μ2 v2 H3 r2 m2 (f.trans f2) rx2)
  | false => exact iteF (q _ μ1 _ H1 (h0 rfl) m f (Rp.bl _))
end
theorem vals_app {vs zs : List V} {us ws : List Value} (r1 : Vals vs us) (r2 : Vals zs ws) : Vals (vs ++ zs) (us ++ ws) := by
  induction r1 with
  | nil => exact r2
  | cons h t ih => exact .cons h ih
def kjU (n m : Nat) (us ws : List Value) : List Value := if us.length = n ∧ ws.length = m then us ++ ws else []
def kjV (n m : Nat) (us ws : List V) : List V := if us.length = n ∧ ws.length = m then us ++ ws else []
theorem pe_defK2 {X : Cx} {x : Str} {st : Stmt} {ps ks : List Str} {k j n m : Nat} {sp : Sp} {p pos : Pos} {e : Expr} {es : List Expr} {kws : List Keyword} {t tk : TA} (D : Dn X.prog X.w X.K X.mg X.base x ps k sp) (R : Raw X.K X.mg x st) (hr : Room j X.A) (hk : k ≤ j) (hg : Gl X x)
    (h0 : ps.length ≠ 0) (hb : ∀ (kV doc pm : Value) (an : Option Addr) (cdv ct : Value) (us ws : List Value), us.length = n → ws.length = m → bindArgs (PySem.W.fnOf x x (defArgs st) (defBody st) (defScope st) .none kV doc pm an cdv ct) ⟨us, ks.zip ws⟩ = pure (ps.zip (us ++ ws)))
    (ha : PA X (e :: es) t) (hkw : PK X kws tk) (hall : (backToKw pos (keywordEach kws X.env)).all (·.1.isSome) = true := by rfl) (hks : (backToKw pos (keywordEach kws X.env)).filterMap (·.1) = ks := by rfl)
    (hdb : (x == ("__debug__" : Str)) = false := by decide) (he : starEach (e :: es) X.env = (false, eval e X.env) :: starEach es X.env := by rfl)
    (hpl : ((backTo pos (starEach (e :: es) X.env)).any (·.1) || (backToKw pos (keywordEach kws X.env)).any (·.1.isNone)) = false := by rfl) : PE X (.Call (.Name x p) (e :: es) kws pos) (tCallK sp (kjV n m) E0 t tk) := by
  obtain ⟨fd, F, b, fa⟩ := D.ex
  obtain ⟨fd', F'⟩ := R.fn
  have e1 := fa.same (fdAt F')
  subst e1
  refine pe_callK (g := kjU n m) (F.mono hk) hr hg D.mg D.kp ⟨fun s us ws _ hl => ?_, fun {vs us zs ws} r1 r2 => ?_⟩ pass0 ha hkw hall hks hdb he hpl
  · obtain ⟨oc, od, dV, kV, doc, pm, an, cdv, ct, osl, rfl, lk, hcd, hD, hK⟩ := F'.ex
    rcases hD with ⟨_, rfl⟩ | ⟨e, _⟩
    · unfold kjU at hl ⊢
      split at hl
      · next h => rw [if_pos h]; exact .of_eq (hb kV doc pm an cdv ct us ws h.1 h.2)
      · exact absurd hl.symm h0
    · exact absurd rfl e
  · have l1 := r1.length
    have l2 := r2.length
    unfold kjU kjV
    rw [l1, l2]
    split
    · exact vals_app r1 r2
    · exact .nil
section
variable {δ : Dl} {μ : Mu} {tr ts : TA} {xs ys : List A} {d : D}
theorem e_callK2 {n m : Nat} {G : List D → D → Prop} (ds es : List D) (h : EA δ μ tr xs) (hk : EA δ μ ts ys) (hx : xs = ds.map .dat) (hy : ys = es.map .dat) (h1 : ds.length = n) (h2 : es.length = m) (hG : G (ds ++ es) d) : E δ μ (tCallK (spR G) (kjV n m) E0 tr ts) (.dat d) := fun σ H s Q k =>
  h σ H s _ fun vs H1 f1 r1 => hk σ H1 (s.step f1) _ fun zs H2 f2 r2 => by
    subst hx hy
    have q1 := RpL.mono f2.tup (RpAL.dat.mp r1)
    have q2 := RpAL.dat.mp r2
    have l1 : vs.length = n := by rw [← h1]; exact q1.length
    have l2 : zs.length = m := by rw [← h2]; exact q2.length
    unfold kjV
    rw [if_pos ⟨l1, l2⟩]
    exact ⟨ds ++ es, d, ((s.mem.step f1).step f2).tb, q1.append q2, hG, fun v H3 f3 r3 => k v H3 ((f1.trans0 f2).trans0 f3) r3⟩
end
end TK
set_option maxHeartbeats 2000000
namespace TK
open PySem L2 NdefX LamX
variable [TC]
section
variable {δ δ' : Dl} {μ μ' : Mu} {te ta tb tc tl td ty tx tk tv to ti : TE} {tt tu : TT} {tr ts : TA} {x y z : A} {d e : D} {b c : Bool} {g : TG} {wi : TI} {K : PySem.W.Frag} {w : World} {xs ys : List A} {a : Addr}
theorem ex_if {R : A → Mu → Prop} (h : ET δ μ tt b) (h1 : b = true → EX δ μ ta R) (h2 : b = false → EX δ μ tb R) : EX δ μ (tIf tt ta tb) R := fun σ H s Q k => h σ H s _ fun H1 f1 => by
  cases b with
  | true => exact iteT (h1 rfl σ H1 (s.step f1) Q fun x μ' v H2 r m f => k x μ' v H2 r m ((FS.of f1).trans f))
  | false => exact iteF (h2 rfl σ H1 (s.step f1) Q fun x μ' v H2 r m f => k x μ' v H2 r m ((FS.of f1).trans f))
theorem cut_sub {α : Type} {l : List α} {lo hi : Option Int} {x : α} (h : x ∈ cutL l lo hi) : x ∈ l := List.mem_of_mem_drop (List.mem_of_mem_take h)
theorem cut_len {α : Type} {l : List α} {lo hi : Option Int} : (cutL l lo hi).length ≤ l.length := by
  unfold cutL
  rw [List.length_take, List.length_drop]
  omega
theorem e_callM {sp : Sp} {G : List A → Mu → (A → Mu → Prop) → Prop} {R : A → Mu → Prop} (hsp : ∀ vs H Q E, spM G vs H Q E → sp vs H Q E) (h : EA δ μ tr xs) (hG : G xs [] R) (hR : ∀ x ν', R x ν' → x = y ∧ ν' = []) : E δ μ (tCall sp [] E0 tr) y := fun σ H s Q k => h σ H s _ fun vs H1 f1 r1 => by
  rw [List.append_nil]
  refine hsp _ _ _ _ ⟨xs, [], R, r1, (s.step f1).mem.sub (List.nil_sublist _), hG, fun x ν' v H2 h0 m2 f2 r2 => ?_⟩
  obtain ⟨rfl, rfl⟩ := hR x ν' h0
  exact k v H2 (f1.trans0 f2.fr) r2
theorem ex_callRS {sp : Sp} {G : List D → D → Prop} (hsp : ∀ vs H Q E, spR G vs H Q E → sp vs H Q E) {S : List A → Mu → Prop} {T : A → Mu → Prop} (h : EXA δ μ tr S) (hS : ∀ xs μ1, S xs μ1 → ∃ ds d, xs = ds.map .dat ∧ G ds d ∧ T (.dat d) μ1) : EX δ μ (tCall sp [] E0 tr) T := fun σ H s Q k => h σ H s _ fun xs μ1 vs H1 hs m1 f1 r1 => by
  obtain ⟨ds, d, rfl, hG, hT⟩ := hS xs μ1 hs
  rw [List.append_nil]
  exact hsp _ _ _ _ ⟨ds, d, m1.tb, RpAL.dat.mp r1, hG, fun v H2 f2 r2 => k _ μ1 v H2 hT (m1.step f2) (f1.trans (FS.of f2)) r2⟩
end
end TK
namespace L2
open PySem PySem.Spec PyProof.Rows
theorem Room.units1 {k : Nat} {A : Around} (r : Room k A) : A.units + 65 < cLine := by have := r.un; omega
end L2
set_option maxHeartbeats 2000000
namespace L2
open PySem PySem.Spec PyProof.Rows TK
theorem bounds_rev (n : Nat) : sliceBounds none none (some (-1)) n = ((n : Int) - 1, -1, -1) := by
  unfold sliceBounds
  simp
theorem slicePick_rev (its : List Value) : slicePick its.toArray none none (some (-1)) = its.reverse.toArray := by
  unfold slicePick
  rw [List.size_toArray, bounds_rev]
  unfold sliceRange
  have e1 : (if (-1 : Int) > 0 then (if ((its.length : Int) - 1) < -1 then (-1 - ((its.length : Int) - 1) + -1 - 1) / -1 else 0) else (if ((its.length : Int) - 1) > -1 then (((its.length : Int) - 1) - -1 - -1 - 1) / (- -1) else 0)) = (its.length : Int) := by
    rw [if_neg (by decide)]
    split
    · rw [show (- -1 : Int) = 1 by decide, Int.ediv_one]; omega
    · omega
  simp only [e1]
  have := pick_rev its.toArray
  rw [List.size_toArray] at this
  rw [← this, Int.toNat_natCast, List.filterMap_map]
  congr 1
  refine fm_congr fun m hm => ?_
  show its.toArray[((its.length : Int) - 1 + -1 * (m : Int)).toNat]? = _
  rw [show ((its.length : Int) - 1 + -1 * (m : Int)) = ((its.length : Int) - 1 + (m : Int) * -1) by omega]
end L2
namespace TK
open PySem PySem.Spec PyProof.Rows L2
def tRevL (K : PySem.W.Frag) (te : TE) : TE := fun σ H Q => te σ H fun x H1 => ∃ a xs, x = .ref a ∧ SqL K H1 a xs ∧ ∀ p, H1 p = none → Q (.ref p) (upd H1 p (.lst xs.reverse))
theorem pe_revL {X : Cx} {K : PySem.W.Frag} {e : Expr} {te : TE} {k : Nat} {p1 p2 p3 pos : Pos} (hK : X.K = K) (he : PE X e te) : PE X (.Subscript e (.Slice none none (some (.UnaryOp .USub (.Constant (.int 1) k p1) p2)) p3) pos) (tRevL K te) := by
  subst hK
  constructor
  intro pins s σ H Q I h
  refine Subscript_ (thn (he.run pins s σ H _ I h) fun v s1 ⟨x, H1, I1, r1, a, xs, ex, hx, q⟩ => ?_)
  subst ex
  cases r1
  have hst : PO X (some (.UnaryOp .USub (.Constant (.int 1) k p1) p2)) (tPart (tUn (rU fun i => .int (-i)) (tC (.int 1)))) := po_some (pe_un un_neg pe_int)
  refine wpAny_Slice (thn (po_none.run pins s1 σ H1 (fun o G => o = none ∧ G = H1) I1 ⟨rfl, rfl⟩) fun vl s2 ⟨l, H2, I2, pl, el, e2⟩ => ?_)
  subst el e2
  refine thn (po_none.run pins s2 σ H2 (fun o G => o = none ∧ G = H2) I2 ⟨rfl, rfl⟩) fun vu s3 ⟨u, H3, I3, pu, eu, e3⟩ => ?_
  subst eu e3
  refine thn (hst.run pins s3 σ H3 (fun o G => o = some (-1) ∧ G = H3) I3 ⟨1, rfl, -1, rfl, rfl, rfl⟩) fun vs s4 ⟨o, H4, I4, ps, eo, e4⟩ => ?_
  subst eo e4
  have I5 : Inv X pins σ H4 { s4 with heap := s4.heap.push { cls := .type "slice", data := .fields #[vl, vu, vs] } } := I4.kept (t' := s4.toks) fun b ob q => Heap.get?_push_of_some _ q
  obtain ⟨its, r, ht, hz⟩ := I5.list hx
  have hle : its.length = xs.length := r.length.symm
  refine (show wpAny (model X.prog X.w) X.A (subscriptTail e (.Slice none none (some (.UnaryOp .USub (.Constant (.int 1) k p1) p2)) p3) (.ref a) (.ref s4.heap.objs.size)) (EP X pins σ Q) X.xe { s4 with heap := s4.heap.push { cls := .type "slice", data := .fields #[vl, vu, vs] } } from ?_)
  refine tail_any (ops := [.ref a, .ref s4.heap.objs.size]) ht.isList.typeIs slot_list_getitem.lookup (wpAny_getItem_list_slice ht.isList (Heap.IsSliceOf.new _ vl vu vs) pl pu ps (by simp) ?_ (by rw [List.size_toArray] <;> omega)) (by with_unfolding_all rfl)
  rw [slicePick_rev]
  refine ⟨.ref _, _, I5.laid (t' := s4.toks) (o := .lst xs.reverse) (fun b ob q => Heap.get?_push_of_some _ q) (Nat.le_refl _) ⟨by rw [List.length_reverse]; exact hz, _, 0, r.reverse, Heap.get?_push_size _ rfl⟩, rfl, q _ (I5.hok.fresh (Nat.le_refl _))⟩
variable [TC]
section
variable {δ δ' : Dl} {μ μ' : Mu} {te ta tb tc tl td ty tx tk tv to ti : TE} {tt tu : TT} {tr ts : TA} {x y z : A} {d e : D} {b c : Bool} {g : TG} {wi : TI} {K : PySem.W.Frag} {w : World} {xs ys : List A} {a : Addr}
theorem rpal_app {H : Hp} : ∀ {vs ws : List V} {xs ys : List A}, RpAL H vs xs → RpAL H ws ys → RpAL H (vs ++ ws) (xs ++ ys)
  | _, _, _, _, .nil, q => q
  | _, _, _, _, .cons r t, q => .cons r (rpal_app t q)
theorem rpal_rev {H : Hp} : ∀ {vs : List V} {xs : List A}, RpAL H vs xs → RpAL H vs.reverse xs.reverse
  | _, _, .nil => .nil
  | _, _, .cons r t => by
    rw [List.reverse_cons, List.reverse_cons]
    exact rpal_app (rpal_rev t) (.cons r .nil)
theorem en_revL (n : Nat) (h : E δ μ te (.own a)) (hm : μ[n]? = some (a, .lst xs)) : EN δ μ (tRevL K te) (.lst xs.reverse) := fun σ H s Q k =>
  h σ H s _ fun v H1 f1 r1 => by
    obtain ⟨vs, e1, q1⟩ := (s.step f1).mem.lst hm
    refine ⟨a, vs, r1, SqL.of e1, fun p hp => ?_⟩
    have f2 : Fr [] H1 (upd H1 p (.lst vs.reverse)) := Fr.new hp nt_lst
    exact k p _ (f1.trans0 f2) (f1.free _ hp) ⟨_, upd_same, (rpal_rev q1).mono f2.tup⟩ fun ps z => by rw [upd_same] at z; cases z
theorem en_repL {n : Int} (ha : EN δ μ ta (.lst [x])) (hb : ∀ p, E δ ((p, .lst [x]) :: μ) tb (.dat (.int n))) (h1 : 0 ≤ n) (h2 : n ≤ 1000) : EN δ μ (tOp rRep ta tb) (.lst (List.replicate n.toNat x)) := fun σ H s Q k =>
  ha σ H s _ fun p H1 f1 hn1 hc1 ht1 => by
    have s1 : SA δ ((p, .lst [x]) :: μ) σ H1 := s.withM f1.tup (s.mem.add f1 hn1 hc1 ht1)
    refine hb p σ H1 s1 _ fun v H2 f2 r2 => ?_
    obtain ⟨vs, e1, q1⟩ := (s1.step f2).mem.lst (i := 0) rfl
    cases q1 with
    | @cons u _ us _ r q =>
      cases q
      rw [rp_int r2]
      refine ⟨p, n, [u], rfl, rfl, e1, by omega, by omega, (by rw [List.length_singleton, Nat.one_mul]; exact Nat.le_trans (show n.toNat ≤ 1000 by omega) (show 1000 ≤ sizeLine by decide)), fun q hq => ?_⟩
      have f3 : Fr [] H2 (upd H2 q (.lst (List.replicate n.toNat [u]).flatten)) := Fr.new hq nt_lst
      have e2 : (List.replicate n.toNat [u]).flatten = List.replicate n.toNat u := by
        induction n.toNat with
        | zero => rfl
        | succ m ih => rw [List.replicate_succ, List.flatten_cons, ih]; rfl
      rw [e2] at f3 ⊢
      have e3 : ∀ m, RpAL (upd H2 q (.lst (List.replicate n.toNat u))) (List.replicate m u) (List.replicate m x) := fun m => by
        induction m with
        | zero => exact .nil
        | succ m ih => exact .cons (r.mono f3.tup) ih
      exact k q _ ((f1.trans0 f2).trans0 f3) (f1.free _ (f2.free _ hq)) ⟨_, upd_same, e3 _⟩ fun ps z => by rw [upd_same] at z; cases z
def tupC (xs : List A) : C := .gen fun H a => ∃ vs, H a = some (.tup vs) ∧ RpAL H vs xs
theorem tupC_at {H : Hp} {p : Addr} {vs : List V} (e : H p = some (.tup vs)) (r : RpAL H vs xs) : (tupC xs).at H p := ⟨⟨vs, e, r⟩, by rw [e]; simp, fun H1 H2 k o ⟨us, e1, r1⟩ => ⟨us, o _ e1, r1.mono k⟩⟩
theorem ex_tupO {S : List A → Mu → Prop} (h : EXA δ μ tr S) (hl : ∀ xs μ', S xs μ' → xs.length ≤ 100000) : EX δ μ (tTup tr) (fun x μ' => ∃ p xs μ1, S xs μ1 ∧ x = .own p ∧ μ' = (p, tupC xs) :: μ1) := fun σ H s Q k =>
  h σ H s _ fun xs μ1 vs H1 hs m f r => ⟨by rw [r.length]; exact szl (hl xs μ1 hs), fun p hp => k (.own p) _ _ _ ⟨p, xs, μ1, hs, rfl, rfl⟩ (m.add (Fr.new hp nt_tup) hp (tupC_at upd_same (r.mono (Fr.new hp nt_tup).tup)) fun ps z => by rw [upd_same] at z; cases z) (f.trans ⟨(Fr.new hp nt_tup).nil, fun b hb => (List.mem_cons.mp hb).elim (fun z => .inr (z ▸ hp)) .inl⟩) rfl⟩
theorem ht_asgO {n : Nat} {t : TGs} {R : A → Mu → Prop} {P : Po} (h : EX δ μ te R) (k : ∀ x μ', R x μ' → ∃ (a : Addr) (j : Nat) (xs : List A) (δ' : Dl) (js : List Nat), x = .own a ∧ μ'[j]? = some (a, tupC xs) ∧ Tgs δ t xs δ' js ∧ xs.length = n ∧ P.nx δ' μ') : HT δ μ (tAsg te (gTup K n t)) P := fun σ H D s go => h σ H s _ fun x μ' v H1 r m f rx => by
  obtain ⟨a, j, xs, δ', js, rfl, hm, hg, hl, hnx⟩ := k x μ' r
  obtain ⟨vs, e1, q1⟩ : ∃ vs, H1 a = some (.tup vs) ∧ RpAL H1 vs xs := (m.own _ (List.mem_of_getElem? hm)).1
  have s1 : SA δ μ' σ H1 := s.withM f.fr.tup m
  exact ⟨a, vs, rx, SqT.of e1, q1.length.trans hl, hg μ' σ H1 vs s1 q1 _ fun σ' s' _ => go.nx δ' μ' σ' _ hnx s' f⟩
def TgM (δ : Dl) (μ : Mu) (g : TG) (x : A) (δ' : Dl) (μ' : Mu) : Prop := ∀ σ H v, SA δ μ σ H → RpA H v x → ∀ Q : L2.St → Hp → Prop, (∀ σ' H', SA δ' μ' σ' H' → FS μ H μ' H' → Q σ' H') → g v σ H Q
def TgsM (δ : Dl) (μ : Mu) (g : TGs) (xs : List A) (δ' : Dl) (μ' : Mu) : Prop := ∀ σ H vs, SA δ μ σ H → RpAL H vs xs → ∀ Q : L2.St → Hp → Prop, (∀ σ' H', SA δ' μ' σ' H' → FS μ H μ' H' → Q σ' H') → g vs σ H Q
theorem tgm_name {i : Nat} : TgM δ μ (gName i) x (δ.set i (some x)) μ := fun σ H v s r Q k => k _ H (s.set i r) (FS.refl _ _)
theorem tgm_sub {k : Int} {j : Nat} (n : Nat) (ho : E δ μ to (.own a)) (hi : E δ μ ti (.dat (.int k))) (hm : μ[n]? = some (a, .lst xs)) (hj : ixN xs.length k = some j) : TgM δ μ (gSub to ti rSetL) x δ (μ.set n (a, .lst (xs.set j x))) := fun σ H v s r Q q =>
  ho σ H s _ fun o H2 f2 r2 => hi σ H2 (s.step f2) _ fun i H3 f3 r3 => by
    have f := f2.trans0 f3
    have s3 := s.step f
    obtain ⟨vs, e2, q2⟩ := s3.mem.lst hm
    have rx : RpA H3 v x := r.mono f.tup
    obtain ⟨m4, f4⟩ := s3.mem.putL n hm e2 (RpAL.set rx j q2)
    rw [show o = V.ref a from r2, rp_int r3]
    exact ⟨a, vs, k, j, rfl, rfl, e2, by rw [q2.length]; exact hj, q _ _ (s3.withM f4.fr.tup m4) ((FS.of f).trans f4)⟩
theorem tgsm_nil : TgsM δ μ gNil [] δ μ := fun σ H vs s r Q k => by
  cases r
  exact ⟨rfl, k σ H s (FS.refl _ _)⟩
theorem tgsm_cons {t : TG} {u : TGs} {δ1 δ2 : Dl} {μ1 μ2 : Mu} (h1 : TgM δ μ t x δ1 μ1) (h2 : TgsM δ1 μ1 u xs δ2 μ2) : TgsM δ μ (gCons t u) (x :: xs) δ2 μ2 := fun σ H vs s r Q k => by
  cases r with
  | cons r rr => exact ⟨_, _, rfl, h1 σ H _ s r _ fun σ1 H1 s1 f1 => h2 σ1 H1 _ s1 (rr.mono f1.fr.tup) Q fun σ2 H2 s2 f2 => k σ2 H2 s2 (f1.trans f2)⟩
theorem ht_asgTM {n : Nat} {t : TGs} {ds : List D} {P : Po} (h : E δ μ te (.dat (.tup ds))) (hg : TgsM δ μ t (ds.map .dat) δ' μ') (hn : ds.length = n) (k : P.nx δ' μ') : HT δ μ (tAsg te (gTup K n t)) P := fun σ H D s go => h σ H s _ fun v H1 f1 r1 => by
  obtain ⟨a, vs, rfl, ht, hr⟩ := rp_tup r1
  exact ⟨a, vs, rfl, SqT.of ht, hr.length.trans hn, hg σ H1 vs (s.step f1) (RpAL.dat.mpr hr) _ fun σ' H' s' f' => go.nx δ' μ' σ' H' k s' ((FS.of f1).trans f')⟩
theorem e_gcd {i j : Int} (ha : E δ μ ta (.dat (.int i))) (hb : E δ μ tb (.dat (.int j))) : E δ μ (tCB rGcd (tCons ta (tCons tb tNil))) (.dat (.int ((Nat.gcd i.natAbs j.natAbs : Nat) : Int))) := e_cb (ea_cons ha (ea_cons hb ea_nil)) fun H σ vs Q s r k => by
  cases r with
  | cons r1 r =>
    cases r with
    | cons r2 r =>
      cases r
      rw [rp_int r1, rp_int r2]
      exact ⟨i, j, rfl, k _ H (Fr.refl _ _) (Rp.int _)⟩
end
end TK
set_option maxHeartbeats 2000000
namespace T
open PySem L2 NdefX LamX TK
variable [TC]
def Tn.tr (t : Tn) : Tn := keptT t (lKept t)
theorem sortI_good {t : Tn} {ks ks' : List Int} (G : Good t ks) (G' : Good t ks') : sortI ks = sortI ks' := by
  have st : ∀ {ks : List Int}, ks.Nodup → (sortI ks).Pairwise (· < ·) := fun {ks} nd => by
    have h1 := sortI_le ks
    have h2 : (sortI ks).Nodup := (sortI_perm ks).nodup_iff.mpr nd
    exact (h1.and (List.nodup_iff_pairwise_ne.mp h2)).imp fun ⟨a, b⟩ => by omega
  exact lt_uniq (st G.1) (st G'.1) fun k => by rw [mem_sortI, mem_sortI, G.2, G'.2]
theorem trim_eq {t : Tn} {ks : List Int} (ok : t.Ok) (G : Good t ks) : keptT t ks = t.tr := by
  have G' := lKept_good ok
  have es := sortI_good G G'
  have en : ∀ p, num ks p = num (lKept t) p := fun p => by unfold num; rw [es]
  have em : ∀ p, p ∈ ks ↔ p ∈ lKept t := fun p => by rw [G.2, G'.2]
  have el : ks.length = (lKept t).length := by
    rw [← (sortI_perm ks).length_eq, es, (sortI_perm (lKept t)).length_eq]
  have eM : ∀ l, keptM ks l = keptM (lKept t) l := fun l => by
    unfold keptM
    rw [show (fun m : Mk => decide (m.p ∈ ks)) = fun m : Mk => decide (m.p ∈ lKept t) from funext fun m => by rw [decide_eq_decide]; exact em _, show (fun m : Mk => (⟨num ks m.p, m.w⟩ : Mk)) = fun m => ⟨num (lKept t) m.p, m.w⟩ from funext fun m => by rw [en]]
  have eE : ∀ l, keptE ks l = keptE (lKept t) l := fun l => by
    unfold keptE
    rw [show (fun e : Ed => decide (e.a ∈ ks) && decide (e.b ∈ ks)) = fun e : Ed => decide (e.a ∈ lKept t) && decide (e.b ∈ lKept t) from funext fun e => by rw [decide_eq_decide.mpr (em e.a), decide_eq_decide.mpr (em e.b)], show (fun e : Ed => (⟨num ks e.a, e.s, num ks e.b, e.w⟩ : Ed)) = fun e => ⟨num (lKept t) e.a, e.s, num (lKept t) e.b, e.w⟩ from funext fun e => by rw [en, en]]
  unfold Tn.tr keptT
  rw [eM, eM, eE, el]
structure Tn.Rt (u : Tn) : Prop where
  n : 1 ≤ u.N
  nb : u.N ≤ 1000
  sz : u.Sz
  ea : ∀ e ∈ u.E, (0 ≤ e.a ∧ e.a < ((u.N.toNat : Nat) : Int)) ∧ 0 ≤ e.b ∧ e.b < ((u.N.toNat : Nat) : Int)
theorem Tn.Ok.rt {t : Tn} (ok : t.Ok) : t.tr.Rt := by
  have hk := good_len ok (lKept_good ok)
  have := ok.nb
  have hN : t.tr.N = max 1 ((lKept t).length : Int) := rfl
  exact ⟨by omega, by omega, kept_sz ok.sz, kept_ea⟩
def hL (N : Nat) (h : Int → Int) : List TK.A := (List.range N).map fun (k : Nat) => .dat (.int (h (k : Int)))
def edO : Option Ed → D
  | none => .non
  | some e => e.d
def lL (N : Nat) (l : Int → Option Ed) : List TK.A := (List.range N).map fun (k : Nat) => .dat (edO (l (k : Int)))
section
variable {N : Nat} {β : Type}
theorem fl_at {f : Int → β} {q : β → TK.A} {p : Int} (h0 : 0 ≤ p) (h1 : p < (N : Int)) : atI ((List.range N).map fun (k : Nat) => q (f (k : Int))) p = some (q (f p)) := by
  obtain ⟨n, rfl⟩ := Int.eq_ofNat_of_zero_le h0
  exact atI_n (by rw [List.getElem?_map, List.getElem?_range (by omega)]; rfl)
theorem fl_set {f : Int → β} {q : β → TK.A} {p : Int} {v : β} (h0 : 0 ≤ p) (h1 : p < (N : Int)) : ((List.range N).map fun (k : Nat) => q (f (k : Int))).set p.toNat (q v) = (List.range N).map fun (k : Nat) => q (updF f p v (k : Int)) := by
  apply List.ext_getElem?
  intro i
  rw [List.getElem?_set, List.getElem?_map, List.getElem?_map, List.length_map, List.length_range]
  by_cases hi : i < N
  · rw [List.getElem?_range hi]
    by_cases c : p.toNat = i
    · rw [if_pos c, if_pos (by omega)]
      have : (i : Int) = p := by omega
      simp [this, updF_same]
    · rw [if_neg c]
      have : (i : Int) ≠ p := by omega
      simp [updF_ne this]
  · rw [List.getElem?_eq_none (by simp; omega)]
    by_cases c : p.toNat = i
    · omega
    · rw [if_neg c]
      rfl
theorem fl_ix {xs : List TK.A} {p : Int} (hl : xs.length = N) (h0 : 0 ≤ p) (h1 : p < (N : Int)) : ixN xs.length p = some p.toNat := by
  rw [hl]
  unfold ixN
  rw [if_pos h0, if_pos h1]
end
theorem hL_len {N : Nat} {h : Int → Int} : (hL N h).length = N := by simp [hL]
theorem lL_len {N : Nat} {l : Int → Option Ed} : (lL N l).length = N := by simp [lL]
def G_gain : List D → D → Prop := fun ds d => ∃ (e : Ed) (T B : Int), ds = [e.d, .int T, .int B] ∧ e.w.length ≤ 1000 ∧ d = .int (gn T B e)
def G_raised : List TK.A → Mu → (TK.A → Mu → Prop) → Prop := fun xs μ R => ∃ (u : Tn) (T B : Int), xs = [.dat u.d, .dat (.int T), .dat (.int B)] ∧ μ = [] ∧ u.Rt ∧
  R = fun x μ' => ∃ (p a b : Addr) (n : Nat), x = .own p ∧ μ' = [(p, tupC [.own a, .own b, .dat (optI (afterR T B u.E n).r)]), (b, C.lst (lL u.N.toNat (afterR T B u.E n).l)), (a, C.lst (hL u.N.toNat (afterR T B u.E n).h))] ∧
    ((0 < n ∧ (afterR T B u.E n).r = none) ∨ (n = u.N.toNat ∧ (afterR T B u.E n).r ≠ none))
section
variable {P : Program} {w : World} {K : PySem.W.Frag} {mg : Str → Option Value} {base : Heap}
abbrev N_gain : List Str := ["edge", "top", "bottom"]
abbrev P_gain : List Str := ["edge", "top", "bottom"]
theorem sc_gain : FnScope N_gain P_gain (defScope s_gain) := ⟨rfl, rfl, rfl, by decide +kernel, rfl, by decide +kernel, by decide +kernel⟩
theorem bd_gain (kV doc pm : Value) (an : Option Addr) (cdv ct : Value) (us : List Value) (hl : us.length = (P_gain : List Str).length) : bindArgs (PySem.W.fnOf "gain" "gain" (defArgs s_gain) (defBody s_gain) (defScope s_gain) .none kV doc pm an cdv ct) ⟨us, []⟩ = pure ((P_gain : List Str).zip us) := match us, hl with
  | [_, _, _], _ => rfl
theorem ok_gain (T : Bl mg) (R : Raw K mg "gain" s_gain) : Dn P w K mg base "gain" P_gain 1 (spR G_gain) := by
  refine R.dnR sc_gain (fun ds d ⟨e, T, B, q, _⟩ => by rw [q]; rfl) (by decide) bd_gain fun cdv Ao outer s H E hr => ⟨_, (pss_one (ps_ret (pe_op op_sub (pe_op op_times (pv 2) (pe_callB cr_len (by rfl) T.len bb_len (pa_cons (pe_ix ix_any (pv 0) pe_int (fun _ _ => rfl)) pa_nil))) (pv 1)))), ?_⟩
  rintro ds d ⟨e, T, B, rfl, hw, rfl⟩
  exact ht_ret (x := .dat (.int (gn T B e))) ((e_sub (e_timesI (e_var rfl) ((e_lenT (ds := e.w.map .int) (e_ixT (e_var rfl) e_int rfl)).is (by rw [List.length_map])) (.inr ⟨by omega, by omega⟩)) (e_var rfl)).is rfl) rfl
abbrev N_raised : List Str := ["turner", "top", "bottom", "heights", "last", "turn", "risen", "edge", "height"]
abbrev P_raised : List Str := ["turner", "top", "bottom"]
theorem sc_raised : FnScope N_raised P_raised (defScope s_raised) := ⟨rfl, rfl, rfl, by decide +kernel, rfl, by decide +kernel, by decide +kernel⟩
theorem bd_raised (kV doc pm : Value) (an : Option Addr) (cdv ct : Value) (us : List Value) (hl : us.length = (P_raised : List Str).length) : bindArgs (PySem.W.fnOf "raised" "raised" (defArgs s_raised) (defBody s_raised) (defScope s_raised) .none kV doc pm an cdv ct) ⟨us, []⟩ = pure ((P_raised : List Str).zip us) := match us, hl with
  | [_, _, _], _ => rfl
theorem ok_raised (T : Bl mg) (R : Raw K mg "raised" s_raised) (d_gain : Dn P w K mg base "gain" P_gain 1 (spR G_gain)) : Dn P w K mg base "raised" P_raised 2 (spM G_raised) := by
  refine R.dnM sc_raised (fun ds d R ⟨u, T, B, q, _⟩ => by rw [q]; rfl) (by decide) bd_raised fun cdv Ao outer s H E hr => ⟨_, (pss_cons (ps_par (i := 3) (j := 4) (by rfl) sc_raised.nd rfl rfl (by decide) rfl rfl (pa_cons (pe_op op_rep (pe_lst (pa_cons pe_int pa_nil)) (pe_ix ix_any (pv 0) pe_int (fun _ _ => rfl))) (pa_cons (pe_op op_rep (pe_lst (pa_cons pe_non pa_nil)) (pe_ix ix_any (pv 0) pe_int (fun _ _ => rfl))) pa_nil)) (by rfl))
      (pss_cons (ps_for PassesOwn.never rfl (pi_range1 rfl T.range (pa_cons (pe_ix ix_any (pv 0) pe_int (fun _ _ => rfl)) pa_nil)) (pg_name (i := 5) sc_raised.nd rfl (Or.inl rfl))
      (pss_cons (ps_set (i := 6) sc_raised.nd rfl (Or.inl rfl) pe_non)
      (pss_cons (ps_for PassesOwn.never rfl (pi_seq (pe_ix ix_any (pv 0) pe_int (fun _ _ => rfl))) (pg_name (i := 7) sc_raised.nd rfl (Or.inl rfl))
      (pss_cons (ps_set (i := 8) sc_raised.nd rfl (Or.inl rfl) (pe_op op_plus (pe_ix ix_any (pv 3) (pe_ix ix_any (pv 7) pe_int (fun _ _ => rfl)) (fun _ _ => rfl)) (pe_def d_gain hr (by decide) (by rfl) (pa_cons (pv 7) (pa_cons (pv 1) (pa_cons (pv 2) pa_nil))))))
      (pss_one (ps_if (pt_cmpR op_gt (pv 8) (pe_ix ix_any (pv 3) (pe_ix ix_any (pv 7) pe_int (fun _ _ => rfl)) (fun _ _ => rfl)) (nomark _)) (pss_one (ps_asg (pe_tup (pa_cons (pv 8) (pa_cons (pv 7) (pa_cons (pe_ix ix_any (pv 7) pe_int (fun _ _ => rfl)) pa_nil)))) (pg_tup rfl (pgs_cons (pg_sub (pv 3) (pe_ix ix_any (pv 7) pe_int (fun _ _ => rfl)) set_list) (pgs_cons (pg_sub (pv 4) (pe_ix ix_any (pv 7) pe_int (fun _ _ => rfl)) set_list) (pgs_cons (pg_name (i := 6) sc_raised.nd rfl (Or.inl rfl)) pgs_nil)))))) pss_nil))))
      (pss_one (ps_if (pt_cmpR op_isN0 (pv 6) pe_non (nomark _)) (pss_one (ps_ret (pe_tup (pa_cons (pv 3) (pa_cons (pv 4) (pa_cons pe_non pa_nil)))))) pss_nil)))))
      (pss_one (ps_ret (pe_tup (pa_cons (pv 3) (pa_cons (pv 4) (pa_cons (pv 6) pa_nil)))))))), ?_⟩
  rintro xs μ R ⟨u, T, B, rfl, rfl, rt, rfl⟩
  have hn1 := rt.n
  have hnb := rt.nb
  have hNn : ((u.N.toNat : Nat) : Int) = u.N := by omega
  have hN0 : 0 < u.N.toNat := by omega
  let M : Addr → Addr → RS → Mu := fun a b s => [(b, C.lst (lL u.N.toNat s.l)), (a, C.lst (hL u.N.toNat s.h))]
  refine ht_seq (ht_parX (R := fun xs μ' => ∃ a b, xs = [.own a, .own b] ∧ μ' = M a b (afterR T B u.E 0)) ((exa_NN (c1 := .lst (hL u.N.toNat fun _ => 0)) (c2 := .lst (lL u.N.toNat fun _ => none)) (en_is (en_repL (x := .dat (.int 0)) (en_lst (ea_cons e_int ea_nil) (by simp)) (fun p => e_ixT (d := .int u.N) (e_var rfl) e_int rfl) (by omega) (by omega)) ?_) fun q => en_is (en_repL (x := .dat .non) (en_lst (ea_cons e_non ea_nil) (by simp)) (fun p => e_ixT (d := .int u.N) (e_var rfl) e_int rfl) (by omega) (by omega)) ?_).mono ?_) fun xs μ2 hx => ?_)
  · simp [hL, List.map_const']
  · simp [lL, edO, List.map_const']
  · rintro xs μ' ⟨a, b, e1, e2⟩
    exact ⟨a, b, e1, e2⟩
  obtain ⟨a, b, rfl, rfl⟩ := hx
  refine ⟨_, _, rfl, ?_⟩
  let δr : Option Int → Dl := fun r => [some (.dat u.d), some (.dat (.int T)), some (.dat (.int B)), some (.own a), some (.own b), none, some (.dat (optI r)), none, none]
  let δ0 : Dl := [some (.dat u.d), some (.dat (.int T)), some (.dat (.int B)), some (.own a), some (.own b), none, none, none, none]
  have ret : ∀ (n : Nat) {δ : Dl} {te : TE} {P : Po}, (∀ x μ', (∃ p, x = .own p ∧ μ' = (p, tupC [.own a, .own b, .dat (optI (afterR T B u.E n).r)]) :: M a b (afterR T B u.E n)) → P.rt x μ') → δ[3]? = some (some (.own a)) → δ[4]? = some (some (.own b)) → TK.E δ (M a b (afterR T B u.E n)) te (.dat (optI (afterR T B u.E n).r)) → HT δ (M a b (afterR T B u.E n)) (tRet (tTup (tCons (tVar 3) (tCons (tVar 4) (tCons te tNil))))) P := fun n δ te P h h3 h4 he => by
    refine ht_retX (ex_tupO (S := fun xs μ' => xs = [.own a, .own b, .dat (optI (afterR T B u.E n).r)] ∧ μ' = M a b (afterR T B u.E n)) (ea_cons (e_var h3) (ea_cons (e_var h4) (ea_cons he ea_nil))).ex fun xs μ' ⟨e, _⟩ => by rw [e]; simp) ?_
    rintro x μ' ⟨p, xs, μ1, ⟨rfl, rfl⟩, rfl, rfl⟩
    exact h _ _ ⟨p, rfl, rfl⟩
  refine ht_cut (N := fun δ μ => μ = M a b (afterR T B u.E u.N.toNat) ∧ (afterR T B u.E u.N.toNat).r ≠ none ∧ LeD δ (δr (afterR T B u.E u.N.toNat).r)) (ht_forR (n := u.N) (ea_cons (e_ixT (d := .int u.N) (e_var rfl) e_int rfl) ea_nil) (by omega) (by omega) (fun i δ μ => μ = M a b (afterR T B u.E i) ∧ ((i = 0 ∧ LeD δ δ0) ∨ (0 < i ∧ (afterR T B u.E i).r ≠ none ∧ LeD δ (δr (afterR T B u.E i).r)))) ⟨rfl, .inl ⟨rfl, ?_⟩⟩ ?_ ?_) ?_
  · exact LeD.refl _
  · rintro i δ1 μ1 hi ⟨rfl, hle⟩
    have hle : LeD δ1 δ0 := by
      rcases hle with ⟨_, h⟩ | ⟨_, _, h⟩
      · exact h
      · refine h.trans ?_
        repeat (first | exact LeD.refl _ | refine led_cons (.inr rfl) ?_ | refine led_cons (.inl rfl) ?_)
    refine ⟨_, _, tg_name, HT.le (δ' := δ0) ?_ (hle.put.trans ((LeD.refl δ0).set rfl))⟩
    refine ht_seq (ht_set e_non ?_)
    let st : Nat → RS := fun j => (u.E.take j).foldl (stepE T B) ⟨(afterR T B u.E i).h, (afterR T B u.E i).l, none⟩
    have st_end : st u.E.length = afterR T B u.E (i + 1) := by
      show (u.E.take u.E.length).foldl _ _ = _
      rw [List.take_length]
      rfl
    refine ht_cut (N := fun δ μ => μ = M a b (afterR T B u.E (i + 1)) ∧ LeD δ (δr (afterR T B u.E (i + 1)).r)) (ht_forG (l := u.E) (q := fun e => .dat e.d) (ei_seqM (e_ixT (e_var rfl) e_int rfl)) (fun j δ μ => μ = M a b (st j) ∧ LeD δ (δr (st j).r)) ⟨rfl, LeD.refl _⟩ ?_ ?_) ?_
    · rintro j e δ2 μ2 he ⟨rfl, hle2⟩
      have hmem := List.mem_of_getElem? he
      obtain ⟨⟨a0, a1⟩, b0, b1⟩ := rt.ea e hmem
      have hs : st (j + 1) = stepE T B (st j) e := by
        show (u.E.take (j + 1)).foldl _ _ = _
        rw [List.take_succ, he, List.foldl_append]
        rfl
      refine ⟨_, _, tg_name, HT.le (δ' := (δr (st j).r).set 7 (some (.dat e.d))) ?_ hle2.put⟩
      generalize st j = s at hs ⊢
      have hx : ∀ {p : Int} {δ : Dl} {tp : TE}, δ[3]? = some (some (.own a)) → 0 ≤ p → p < ((u.N.toNat : Nat) : Int) → TK.E δ (M a b s) tp (.dat (.int p)) → TK.E δ (M a b s) (tOp (rIxA K) (tVar 3) tp) (.dat (.int (s.h p))) := fun h3 h0 h1 hp => e_ixA 1 (e_var h3) hp rfl (fl_at (f := s.h) (q := fun i => .dat (.int i)) h0 h1)
      refine ht_seq (ht_set (x := .dat (.int (s.h e.a + gn T B e))) (e_plusI (hx rfl a0 a1 (e_ixT (e_var rfl) e_int rfl)) (e_call [e.d, .int T, .int B] (ea_cons (e_var rfl) (ea_cons (e_var rfl) (ea_cons (e_var rfl) ea_nil))) rfl ⟨e, T, B, rfl, rt.sz.we e hmem, rfl⟩)) ?_)
      refine ht_if (b := riseB T B s e) ((et_test (e_gt (e_var rfl) (hx rfl b0 b1 (e_ixT (e_var rfl) e_int rfl)))).is rfl) (fun hb => ?_) fun hb => ht_next ⟨?_, ?_⟩
      · have e1 : st (j + 1) = ⟨updF s.h e.b (s.h e.a + gn T B e), updF s.l e.b (some e), some e.b⟩ := by rw [hs]; unfold stepE; rw [hb]; rfl
        refine ht_asgTM (ds := [.int (s.h e.a + gn T B e), e.d, .int e.b]) (e_tup (ds := [.int (s.h e.a + gn T B e), e.d, .int e.b]) (ea_cons (e_var rfl) (ea_cons (e_var rfl) (ea_cons (e_ixT (e_var rfl) e_int rfl) ea_nil))) (by simp)) (tgsm_cons (tgm_sub 1 (e_var rfl) (e_ixT (d := .int e.b) (e_var rfl) e_int rfl) rfl (fl_ix hL_len b0 b1)) (tgsm_cons (tgm_sub 0 (e_var rfl) (e_ixT (d := .int e.b) (e_var rfl) e_int rfl) rfl (fl_ix lL_len b0 b1)) (tgsm_cons tgm_name tgsm_nil))) rfl ⟨?_, ?_⟩
        · rw [e1]
          show [(b, C.lst ((lL u.N.toNat s.l).set e.b.toNat (.dat (edO (some e))))), (a, C.lst ((hL u.N.toNat s.h).set e.b.toNat (.dat (.int (s.h e.a + gn T B e)))))] = _
          unfold lL hL
          rw [fl_set (f := s.l) (q := fun o => .dat (edO o)) b0 b1, fl_set (f := s.h) (q := fun i => .dat (.int i)) b0 b1]
          rfl
        · rw [e1]
          repeat (first | exact LeD.refl _ | refine led_cons (.inr rfl) ?_ | refine led_cons (.inl rfl) ?_)
      · rw [hs]; unfold stepE; rw [hb]; rfl
      · have : st (j + 1) = s := by rw [hs]; unfold stepE; rw [hb]; rfl
        rw [this]
        repeat (first | exact LeD.refl _ | refine led_cons (.inr rfl) ?_ | refine led_cons (.inl rfl) ?_)
    · rintro δ2 μ2 ⟨rfl, hle2⟩
      rw [st_end] at hle2 ⊢
      exact ⟨rfl, hle2⟩
    · rintro δ2 μ2 ⟨rfl, hle2⟩
      refine HT.le (δ' := δr (afterR T B u.E (i + 1)).r) ?_ hle2
      refine ht_if (b := (afterR T B u.E (i + 1)).r.isNone) (et_test ((e_isN (x := .dat (optI (afterR T B u.E (i + 1)).r)) (e_var rfl)).is (by rw [optI_isN]))) (fun hb => ?_) fun hb => ht_next ⟨rfl, .inr ⟨by omega, ?_, LeD.refl _⟩⟩
      · have hb : (afterR T B u.E (i + 1)).r = none := Option.isNone_iff_eq_none.mp hb
        refine ret (i + 1) ?_ rfl rfl (by rw [hb]; exact e_non)
        rintro x μ' ⟨p, rfl, rfl⟩
        exact ⟨p, a, b, i + 1, rfl, rfl, .inl ⟨by omega, hb⟩⟩
      · intro z
        rw [z] at hb
        cases hb
  · rintro δ1 μ1 ⟨rfl, h⟩
    rcases h with ⟨h0, _⟩ | ⟨_, h1, h2⟩
    · omega
    · exact ⟨rfl, h1, h2⟩
  · rintro δ1 μ1 ⟨rfl, h1, h2⟩
    refine HT.le (δ' := δr (afterR T B u.E u.N.toNat).r) ?_ h2
    refine ret u.N.toNat ?_ rfl rfl (e_var rfl)
    rintro x μ' ⟨p, rfl, rfl⟩
    exact ⟨p, a, b, _, rfl, rfl, .inr ⟨rfl, h1⟩⟩
end
end T
set_option maxHeartbeats 2000000
namespace T
open PySem L2 NdefX LamX TK
variable [TC]
theorem fold_r {T B : Int} {v : Int} : ∀ (D : List Ed) (s : RS), (D.foldl (stepE T B) s).r = some v → s.r = some v ∨ ∃ e ∈ D, e.b = v
  | [], s, h => .inl h
  | e :: D, s, h => by
    rcases fold_r D _ h with h | ⟨x, hx, q⟩
    · unfold stepE at h
      split at h
      · cases h
        exact .inr ⟨e, List.mem_cons_self, rfl⟩
      · exact .inl h
    · exact .inr ⟨x, List.mem_cons_of_mem _ hx, q⟩
theorem after_r {T B : Int} {E : List Ed} {v : Int} {n : Nat} (h : (afterR T B E n).r = some v) : ∃ e ∈ E, e.b = v := by
  cases n with
  | zero => cases h
  | succ n =>
    rcases fold_r E _ h with h | h
    · cases h
    · exact h
theorem after_fix {T B : Int} {E : List Ed} {n : Nat} (h0 : 0 < n) (h : (afterR T B E n).r = none) : ∀ e ∈ E, (afterR T B E n).h e.a + gn T B e ≤ (afterR T B E n).h e.b := by
  obtain ⟨k, rfl⟩ : ∃ k, n = k + 1 := ⟨n - 1, by omega⟩
  obtain ⟨_, h2, h3⟩ := fold_keep E _ h
  have e : afterR T B E (k + 1) = ⟨(afterR T B E k).h, (afterR T B E k).l, none⟩ := h2
  rw [e]
  exact h3
def G_above : List TK.A → Mu → (TK.A → Mu → Prop) → Prop := fun xs μ R => ∃ (u : Tn) (T B : Int), xs = [.dat u.d, .dat (.int T), .dat (.int B)] ∧ μ = [] ∧ u.Rt ∧
  R = fun x μ' => μ' = [] ∧ ((x = .dat .non ∧ ¬ aboveN u.E T B) ∨ ∃ W : List Ed, x = .dat (.tup (W.map Ed.d)) ∧ RoundL u.E W ∧ W.length ≤ u.N.toNat ∧ 0 < B * (lets W : Int) - T * (W.length : Int))
def G_rate_of : List D → D → Prop := fun ds d => ∃ W : List Ed, ds = [.tup (W.map Ed.d)] ∧ W ≠ [] ∧ W.length ≤ 1000 ∧ (∀ e ∈ W, e.w.length ≤ 1000) ∧ d = .tup [.int ((rateL W).1 : Int), .int ((rateL W).2 : Int)]
def G_crate : List D → D → Prop := fun ds d => ∃ T B : Int, ds = [.int T, .int B] ∧ 0 ≤ T ∧ 1 ≤ B ∧ d = .non
section
variable {P : Program} {w : World} {K : PySem.W.Frag} {mg : Str → Option Value} {base : Heap}
abbrev N_loop_above : List Str := ["turner", "top", "bottom", "heights", "last", "place", "turn", "loop"]
abbrev P_loop_above : List Str := ["turner", "top", "bottom"]
theorem sc_loop_above : FnScope N_loop_above P_loop_above (defScope s_loop_above) := ⟨rfl, rfl, rfl, by decide +kernel, rfl, by decide +kernel, by decide +kernel⟩
theorem bd_loop_above (kV doc pm : Value) (an : Option Addr) (cdv ct : Value) (us : List Value) (hl : us.length = (P_loop_above : List Str).length) : bindArgs (PySem.W.fnOf "loop_above" "loop_above" (defArgs s_loop_above) (defBody s_loop_above) (defScope s_loop_above) .none kV doc pm an cdv ct) ⟨us, []⟩ = pure ((P_loop_above : List Str).zip us) := match us, hl with
  | [_, _, _], _ => rfl
theorem ok_loop_above (T : Bl mg) (R : Raw K mg "loop_above" s_loop_above) (d_raised : Dn P w K mg base "raised" P_raised 2 (spM G_raised)) : Dn P w K mg base "loop_above" P_loop_above 3 (spM G_above) := by
  refine R.dnM sc_loop_above (fun ds d R ⟨u, T, B, q, _⟩ => by rw [q]; rfl) (by decide) bd_loop_above fun cdv Ao outer s H E hr => ⟨_, (pss_cons (ps_asg (pe_def d_raised hr (by decide) (by rfl) (pa_cons (pv 0) (pa_cons (pv 1) (pa_cons (pv 2) pa_nil)))) (pg_tup rfl (pgs_cons (pg_name (i := 3) sc_loop_above.nd rfl (Or.inl rfl)) (pgs_cons (pg_name (i := 4) sc_loop_above.nd rfl (Or.inl rfl)) (pgs_cons (pg_name (i := 5) sc_loop_above.nd rfl (Or.inl rfl)) pgs_nil)))))
      (pss_cons (ps_if (pt_cmpR op_isN0 (pv 5) pe_non (nomark _)) (pss_one (ps_ret pe_non)) pss_nil)
      (pss_cons (ps_for PassesOwn.never rfl (pi_range1 rfl T.range (pa_cons (pe_ix ix_any (pv 0) pe_int (fun _ _ => rfl)) pa_nil)) (pg_name (i := 6) sc_loop_above.nd rfl (Or.inl rfl))
      (pss_one (ps_set (i := 5) sc_loop_above.nd rfl (Or.inl rfl) (pe_ix ix_any (pe_ix ix_any (pv 4) (pv 5) (fun _ _ => rfl)) pe_int (fun _ _ => rfl)))))
      (pss_cons (ps_set (i := 7) sc_loop_above.nd rfl (Or.inl rfl) (pe_lst (pa_cons (pe_ix ix_any (pv 4) (pv 5) (fun _ _ => rfl)) pa_nil)))
      (pss_cons (ps_while PassesOwn.never (pt_cmpR (op_neA hr) (pe_ix ix_any (pe_ix ix_any (pv 7) (pe_un un_neg pe_int) (fun _ _ => rfl)) pe_int (fun _ _ => rfl)) (pv 5) (nomark _))
      (pss_one (ps_expr (pe_bm PySem.F.plainAttrs_list PySem.F.slot_list_append PySem.F.type_list_append mt_append (pv 7) (pa_cons (pe_ix ix_any (pv 4) (pe_ix ix_any (pe_ix ix_any (pv 7) (pe_un un_neg pe_int) (fun _ _ => rfl)) pe_int (fun _ _ => rfl)) (fun _ _ => rfl)) pa_nil)))))
      (pss_one (ps_ret (pe_callTy call_tupleOf (by rfl) T.tuple bb_tuple (pa_cons (pe_revL (K := K) rfl (pv 7)) pa_nil))))))))), ?_⟩
  rintro xs μ R ⟨u, T, B, rfl, rfl, rt, rfl⟩
  have hn1 := rt.n
  have hnb := rt.nb
  have hNn : ((u.N.toNat : Nat) : Int) = u.N := by omega
  have hN0 : 0 < u.N.toNat := by omega
  refine ht_seq (ht_asgO (ex_callD (ea_cons (e_var rfl) (ea_cons (e_var rfl) (ea_cons (e_var rfl) ea_nil))) ⟨u, T, B, rfl, rfl, rt, rfl⟩) fun x μ' hx => ?_)
  obtain ⟨ν, ⟨p, a, b, n, rfl, rfl, hn⟩, rfl⟩ := hx
  refine ⟨p, 0, _, _, _, rfl, rfl, tgs_cons tg_name (tgs_cons tg_name (tgs_cons tg_name tgs_nil)), rfl, ?_⟩
  have i := InvR.after (T := T) (B := B) (E := u.E) n
  rcases hn with ⟨h0, hr⟩ | ⟨rfl, hr⟩
  · refine ht_seq (ht_if (b := true) (et_test ((e_isN (x := .dat (optI (afterR T B u.E n).r)) (e_var rfl)).is (by rw [optI_isN, hr]; rfl))) (fun _ => ?_) fun h => by cases h)
    exact ht_retS (TK.E.ex e_non) fun x μ' ⟨e1, _⟩ => ⟨[], ⟨rfl, .inl ⟨e1, fix_noAbove (after_fix h0 hr)⟩⟩, List.nil_sublist _⟩
  obtain ⟨v, hv⟩ := Option.ne_none_iff_exists'.mp hr
  obtain ⟨e0, he0, ev⟩ := after_r hv
  have hvr : 0 ≤ v ∧ v < ((u.N.toNat : Nat) : Int) := by rw [← ev]; exact (rt.ea e0 he0).2
  obtain ⟨gN, uN, aN⟩ := back_walk hN0 hv
  obtain ⟨c, gc, hc0, hcN, ac⟩ := back_round i rt.ea hvr aN
  refine ht_seq (ht_if (b := false) (et_test ((e_isN (x := .dat (optI (afterR T B u.E u.N.toNat).r)) (e_var rfl)).is (by rw [optI_isN, hv]; rfl))) (fun h => by cases h) fun _ => ht_next ?_)
  rw [hv]
  generalize afterR T B u.E u.N.toNat = s at i aN ac
  have hlE : ∀ {x : Int} {e : Ed}, s.l x = some e → (0 ≤ e.a ∧ e.a < ((u.N.toNat : Nat) : Int)) ∧ e ∈ u.E := fun h => ⟨(rt.ea _ (i.le _ _ h).1).1, (i.le _ _ h).1⟩
  let M : Mu := [(p, tupC [.own a, .own b, .dat (optI (some v))]), (b, C.lst (lL u.N.toNat s.l)), (a, C.lst (hL u.N.toNat s.h))]
  let δp : Int → Dl := fun x => [some (.dat u.d), some (.dat (.int T)), some (.dat (.int B)), some (.own a), some (.own b), some (.dat (.int x)), none, none]
  have hat : ∀ {x : Int} {e : Ed}, s.l x = some e → 0 ≤ x → x < ((u.N.toNat : Nat) : Int) → atI (lL u.N.toNat s.l) x = some (.dat e.d) := fun {x e} h h0 h1 => by
    have := fl_at (f := s.l) (q := fun o => TK.A.dat (edO o)) h0 h1
    rw [h] at this
    exact this
  refine ht_cut (N := fun δ μ => μ = M ∧ LeD δ (δp uN)) (ht_forR (n := u.N) (ea_cons (e_ixT (d := .int u.N) (e_var rfl) e_int rfl) ea_nil) (by omega) (by omega) (fun k δ μ => μ = M ∧ ∃ x g1 g2, Bk T B s.l v k g1 x ∧ Bk T B s.l x (u.N.toNat - k) g2 uN ∧ (0 ≤ x ∧ x < ((u.N.toNat : Nat) : Int)) ∧ LeD δ (δp x)) ⟨rfl, v, 0, gN, .nil v, aN, hvr, LeD.refl _⟩ ?_ ?_) ?_
  · rintro k δ1 μ1 hk ⟨rfl, x, g1, g2, a1, a2, hx, hle⟩
    obtain ⟨m, hm⟩ : ∃ m, u.N.toNat - k = m + 1 := ⟨u.N.toNat - k - 1, by omega⟩
    rw [hm] at a2
    cases a2 with
    | @cons _ e _ g3 _ hl a2 =>
      refine ⟨_, _, tg_name, HT.le (δ' := (δp x).set 6 (some (.dat (.int (k : Int))))) ?_ hle.put⟩
      refine ht_set (x := .dat (.int e.a)) (e_ixT (ds := [.int e.a, .int e.s, .int e.b, wD e.w]) (e_ixA (x := .dat e.d) 1 (e_var rfl) (e_var rfl) rfl (hat hl hx.1 hx.2)) e_int rfl) ⟨rfl, e.a, _, g3, a1.app (.cons hl (.nil _)), ?_, (hlE hl).1, ?_⟩
      · rw [show u.N.toNat - (k + 1) = m by omega]; exact a2
      · repeat (first | exact LeD.refl _ | refine led_cons (.inr rfl) ?_ | refine led_cons (.inl rfl) ?_)
  · rintro δ1 μ1 ⟨rfl, x, g1, g2, a1, a2, hx, hle⟩
    rw [Nat.sub_self] at a2
    cases a2
    exact ⟨rfl, hle⟩
  rintro δ1 μ1 ⟨rfl, hle⟩
  refine HT.le (δ' := δp uN) ?_ hle
  have huN : 0 ≤ uN ∧ uN < ((u.N.toNat : Nat) : Int) := by
    obtain ⟨m, hm⟩ : ∃ m, c = m + 1 := ⟨c - 1, by omega⟩
    rw [hm] at ac
    have inR : ∀ {n : Nat} {x y g : Int}, Bk T B s.l x n g y → (0 ≤ x ∧ x < ((u.N.toNat : Nat) : Int)) → 0 ≤ y ∧ y < ((u.N.toNat : Nat) : Int) := fun a => by
      induction a with
      | nil v => exact fun h => h
      | cons hl _ ih => exact fun _ => ih (hlE hl).1
    exact inR aN hvr
  obtain ⟨e1, he1⟩ : ∃ e1, s.l uN = some e1 := by
    obtain ⟨m, hm⟩ : ∃ m, c = m + 1 := ⟨c - 1, by omega⟩
    rw [hm] at ac
    cases ac with
    | cons hl _ => exact ⟨_, hl⟩
  refine ht_seq (ht_setN (en_lst (xs := [.dat e1.d]) (ea_cons (e_ixA (x := .dat e1.d) 1 (e_var rfl) (e_var rfl) rfl (hat he1 huN.1 huN.2)) ea_nil) (by simp)) fun lp => ?_)
  let δq : Dl := [some (.dat u.d), some (.dat (.int T)), some (.dat (.int B)), some (.own a), some (.own b), some (.dat (.int uN)), none, some (.own lp)]
  refine ht_cut (N := fun δ μ => ∃ es : List Ed, BwL s.l uN es uN ∧ es ≠ [] ∧ es.length ≤ c ∧ μ = (lp, C.lst ((es.map Ed.d).map .dat)) :: M ∧ LeD δ δq) (ht_while (fun m δ μ => ∃ (es : List Ed) (x : Int), m = c - es.length ∧ es.length ≤ c ∧ es ≠ [] ∧ BwL s.l uN es x ∧ μ = (lp, C.lst ((es.map Ed.d).map .dat)) :: M ∧ LeD δ δq) (c - 1) ⟨[e1], e1.a, rfl, by show 1 ≤ c; omega, by simp, ⟨he1, rfl⟩, rfl, LeD.refl _⟩ ?_) ?_
  · rintro m δ1 μ1 ⟨es, x, rfl, h1, h2, h3, rfl, hle⟩
    obtain ⟨f, hf⟩ : ∃ f, es.getLast? = some f := ⟨_, List.getLast?_eq_getLast h2⟩
    have hfa := h3.lastA hf
    have hlast : atI ((es.map Ed.d).map TK.A.dat) (-1) = some (.dat f.d) := atI_last (by rw [List.getLast?_map, List.getLast?_map, hf]; rfl)
    have hx : 0 ≤ x ∧ x < ((u.N.toNat : Nat) : Int) := by
      rw [← hfa]
      exact (rt.ea f (BwL.mem i h3 f (List.mem_of_getLast? hf))).1
    refine ⟨!decide (x = uN), ?_, fun hb => ?_, fun hb => ?_⟩
    · rw [← hfa]
      exact et_test (e_neAI (e_ixT (ds := [.int f.a, .int f.s, .int f.b, wD f.w]) (e_ixA (x := .dat f.d) 0 (e_var (hle.at_ 7 _ rfl)) (e_neg e_int) rfl hlast) e_int rfl) (e_var (hle.at_ 5 _ rfl)))
    · have hne : x ≠ uN := by simpa using hb
      have hlt : es.length < c := by
        apply Classical.byContradiction
        intro z
        exact hne (h3.done ac (by omega))
      obtain ⟨e, he⟩ := h3.more ac hlt
      refine HT.le (δ' := δq) ?_ hle
      refine ht_dropX (ex_app (x := .dat e.d) (xs := (es.map Ed.d).map .dat) 0 (e_var rfl) (e_ixA (x := .dat e.d) 2 (e_var rfl) (e_ixT (d := .int x) (ds := [.int f.a, .int f.s, .int f.b, wD f.w]) (e_ixA (x := .dat f.d) 0 (e_var rfl) (e_neg e_int) rfl hlast) e_int (by rw [← hfa]; rfl)) rfl (hat he hx.1 hx.2)) rfl (by rw [List.length_map, List.length_map]; omega)) fun y μ4 ⟨_, e4⟩ => ?_
      refine ⟨c - (es ++ [e]).length, by rw [List.length_append, List.length_singleton]; omega, es ++ [e], e.a, rfl, by rw [List.length_append, List.length_singleton]; omega, by simp, h3.snoc he, ?_, LeD.refl _⟩
      rw [e4]
      simp
    · have hxu : x = uN := by simpa using hb
      subst hxu
      exact ⟨es, h3, h2, h1, rfl, hle⟩
  rintro δ1 μ1 ⟨es, h3, h2, h1, rfl, hle⟩
  refine HT.le (δ' := δq) ?_ hle
  obtain ⟨hR, hg⟩ := bwl_round (T := T) (B := B) i h3 h2
  refine ht_retS (TK.E.ex (x := .dat (.tup (es.reverse.map Ed.d))) (e_tupleN (en_is (en_revL 0 (e_var rfl) rfl) (by rw [← List.map_reverse, ← List.map_reverse])))) fun x μ' ⟨e1, _⟩ => ⟨[], ⟨rfl, .inr ⟨es.reverse, e1, hR, by rw [List.length_reverse]; omega, hg⟩⟩, List.nil_sublist _⟩
abbrev N_rate_of : List Str := ["loop", "many", "shared", "edge"]
abbrev P_rate_of : List Str := ["loop"]
theorem sc_rate_of : FnScope N_rate_of P_rate_of (defScope s_rate_of) := ⟨rfl, rfl, rfl, by decide +kernel, rfl, by decide +kernel, by decide +kernel⟩
theorem bd_rate_of (kV doc pm : Value) (an : Option Addr) (cdv ct : Value) (us : List Value) (hl : us.length = (P_rate_of : List Str).length) : bindArgs (PySem.W.fnOf "rate_of" "rate_of" (defArgs s_rate_of) (defBody s_rate_of) (defScope s_rate_of) .none kV doc pm an cdv ct) ⟨us, []⟩ = pure ((P_rate_of : List Str).zip us) := match us, hl with
  | [_], _ => rfl
theorem ok_rate_of (T : Bl mg) (Tgcd : mg "gcd" = some (.builtin "math.gcd")) (R : Raw K mg "rate_of" s_rate_of) : Dn P w K mg base "rate_of" P_rate_of 1 (spR G_rate_of) := by
  refine R.dnR sc_rate_of (fun ds d ⟨W, q, _⟩ => by rw [q]; rfl) (by decide) bd_rate_of fun cdv Ao outer s H E hr => ⟨_, (pss_cons (ps_set (i := 1) sc_rate_of.nd rfl (Or.inl rfl) (pe_callB (cr_sum rfl) (by rfl) T.sum bb_sum (pa_cons (pe_lc rfl sc_rate_of.nd (pi_seq (pv 0)) (blkOk_by (own := [("edge", 3)]) (N := N_rate_of) (sc := defScope s_rate_of) (by decide +kernel)) (fun _ _ _ _ _ => (pg_name (i := 3) sc_rate_of.nd rfl (Or.inl rfl))) (fun _ _ _ _ _ => pts_nil) (fun _ _ _ _ _ => (pe_callB (crK (K := K) rfl cr_len) (by rfl) T.len bb_len (pa_cons (pe_ix (ixK (K := K) rfl ix_any) (pv 3) pe_int (fun _ _ => rfl)) pa_nil)))) pa_nil)))
      (pss_cons (ps_set (i := 2) sc_rate_of.nd rfl (Or.inl rfl) (pe_callBfun cr_gcd (by rfl) Tgcd (pa_cons (pv 1) (pa_cons (pe_callB cr_len (by rfl) T.len bb_len (pa_cons (pv 0) pa_nil)) pa_nil))))
      (pss_one (ps_ret (pe_tup (pa_cons (pe_op op_fdivA (pv 1) (pv 2)) (pa_cons (pe_op op_fdivA (pe_callB cr_len (by rfl) T.len bb_len (pa_cons (pv 0) pa_nil)) (pv 2)) pa_nil))))))), ?_⟩
  rintro ds d ⟨W, rfl, hne, hl, hw, rfl⟩
  have hpos : 0 < W.length := List.length_pos_iff.mpr hne
  have hg := gcd_posR (m := lets W) hpos
  have hgl : (lets W).gcd W.length ≤ W.length := Nat.gcd_le_right _ hpos
  have es : ((W.map fun e => (e.w.length : Int)).sum) = (lets W : Int) := by
    unfold lets
    induction W with
    | nil => rfl
    | cons e W ih =>
      rw [List.map_cons, List.sum_cons, List.map_cons, List.sum_cons, Int.natCast_add]
      by_cases c : W = []
      · rw [c]; rfl
      · rw [ih c (by rw [List.length_cons] at hl; omega) (fun x hx => hw x (List.mem_cons_of_mem _ hx)) (List.length_pos_iff.mpr c) (gcd_posR (List.length_pos_iff.mpr c)) (Nat.gcd_le_right _ (List.length_pos_iff.mpr c))]
  have hlen : ∀ {δ : Dl} {μ : Mu}, δ[0]? = some (some (.dat (.tup (W.map Ed.d)))) → TK.E δ μ (tCB (rLenA K) (tCons (tVar 0) tNil)) (.dat (.int (W.length : Int))) := fun h => (e_lenT (ds := W.map Ed.d) (e_var h)).is (by rw [List.length_map])
  refine ht_seq (ht_set (x := .dat (.int (lets W : Int))) ((e_sumQ (ns := W.map fun e => (e.w.length : Int)) (eq_new (en_is (en_lcGY (l := W) (q := fun e => .dat e.d) (ei_seqM (e_var rfl)).ei (by omega) (fun e => .dat (.int (e.w.length : Int))) fun e he => ?_) ?_))).is (by rw [es])) ?_)
  · exact ⟨_, _, tg_name, by simp, (e_lenT (ds := e.w.map .int) (e_ixT (e_var rfl) e_int rfl)).is (by rw [List.length_map])⟩
  · rw [List.map_map, List.map_map]
    rfl
  refine ht_seq (ht_set (x := .dat (.int ((lets W).gcd W.length : Nat))) ((e_gcd (e_var rfl) (hlen rfl)).is rfl) ?_)
  refine ht_ret (e_tup (ds := [.int ((rateL W).1 : Int), .int ((rateL W).2 : Int)]) (ea_cons ((e_fdiv (e_var rfl) (e_var rfl) ⟨by omega, by omega⟩).is ?_) (ea_cons ((e_fdiv (hlen rfl) (e_var rfl) ⟨by omega, by omega⟩).is ?_) ea_nil)) (by simp)) rfl
  · unfold rateL red
    rw [← Int.natCast_ediv]
  · unfold rateL red
    rw [← Int.natCast_ediv]
abbrev N_check_rate : List Str := ["top", "bottom"]
abbrev P_check_rate : List Str := ["top", "bottom"]
theorem sc_check_rate : FnScope N_check_rate P_check_rate (defScope s_check_rate) := ⟨rfl, rfl, rfl, by decide +kernel, rfl, by decide +kernel, by decide +kernel⟩
theorem bd_check_rate (kV doc pm : Value) (an : Option Addr) (cdv ct : Value) (us : List Value) (hl : us.length = (P_check_rate : List Str).length) : bindArgs (PySem.W.fnOf "check_rate" "check_rate" (defArgs s_check_rate) (defBody s_check_rate) (defScope s_check_rate) .none kV doc pm an cdv ct) ⟨us, []⟩ = pure ((P_check_rate : List Str).zip us) := match us, hl with
  | [_, _], _ => rfl
theorem ok_check_rate (T : Bl mg) (R : Raw K mg "check_rate" s_check_rate) (d_is_from : Dn P w K mg base "is_from" P_is_from 2 (spR G_is_from)) : Dn P w K mg base "check_rate" P_check_rate 3 (spR G_crate) := by
  refine R.dnR sc_check_rate (fun ds d ⟨l, m, e, _⟩ => by rw [e]; rfl) (by decide) bd_check_rate fun cdv A outer s H E hr => ⟨_, (pss_one (ps_if (PW.pt (pw_or (pt_not (pt_val (pe_def d_is_from hr (by decide) (by rfl) (pa_cons pe_int (pa_cons (pv 0) pa_nil))))) (pw_or1 (pt_not (pt_val (pe_def d_is_from hr (by decide) (by rfl) (pa_cons pe_int (pa_cons (pv 1) pa_nil)))))))) (pss_one ps_never) pss_nil)), ?_⟩
  rintro ds d ⟨l, m, rfl, hl, hm, rfl⟩
  refine ht_if (b := false) ?_ (fun h => by cases h) fun _ => ht_next rfl
  have h1 : isFrom 0 (.int l) = true := by simp [isFrom, isInt]; exact hl
  have h2 : isFrom 1 (.int m) = true := by simp [isFrom, isInt]; exact hm
  exact (et_or (b := false) (c := false) ((et_not (et_test (e_call [.int 0, .int l] (ea_cons e_int (ea_cons (e_var rfl) ea_nil)) rfl ⟨0, .int l, rfl, rfl⟩))).is (by rw [h1]; rfl)) fun _ => (et_not (et_test (e_call [.int 1, .int m] (ea_cons e_int (ea_cons (e_var rfl) ea_nil)) rfl ⟨1, .int m, rfl, rfl⟩))).is (by rw [h2]; rfl)).is rfl
end
end T
set_option maxHeartbeats 2000000
namespace T
open PySem L2 NdefX LamX TK
variable [TC]
def G_is_tupleL : List TK.A → Mu → (TK.A → Mu → Prop) → Prop := fun xs μ R => ∃ (l : Option Int) (a : Addr) (ys : List TK.A), xs = [.dat (optI l), .own a] ∧ μ = [(a, C.lst ys)] ∧ R = fun x μ' => x = .dat (.bl false) ∧ μ' = [(a, C.lst ys)]
section
variable {P : Program} {w : World} {K : PySem.W.Frag} {mg : Str → Option Value} {base : Heap}
theorem ok_is_tupleL (T : Bl mg) (R : Raw K mg "is_tuple" s_is_tuple) : Dn P w K mg base "is_tuple" P_is_tuple 1 (spM G_is_tupleL) := by
  refine R.dnM sc_is_tuple (fun ds d R ⟨l, a, ys, e, _⟩ => by rw [e]; rfl) (by decide) bd_is_tuple fun cdv A outer s H E hr => ⟨_, (pss_one (ps_ret (pe_and (pe_callB cr_isi (by rfl) T.isinstance bb_isinstance (pa_cons (pv 1) (pa_cons (pe_bltn (v := .ty "tuple") (by rfl) T.tuple bb_tuple rfl) pa_nil))) (pe_one (pe_or (pe_cmpR op_isN0 (pv 0) pe_non (nomark _)) (pe_one (pe_cmpR (op_eqA hr) (pe_callB cr_len (by rfl) T.len bb_len (pa_cons (pv 1) pa_nil)) (pv 0) (nomark _)))))))), ?_⟩
  rintro xs μ R ⟨l, a, ys, rfl, rfl, rfl⟩
  exact ht_ret (x := .dat (.bl false)) (e_andV (b := false) (c := false) ((e_isiL (T := "tuple") 0 (e_var rfl) rfl (by simp)).is rfl) fun h => by cases h) ⟨rfl, rfl⟩
theorem ok_is_tuple2 (d_is_tuple : Dn P w K mg base "is_tuple" P_is_tuple 1 (spR G_is_tuple)) (d_is_tupleL : Dn P w K mg base "is_tuple" P_is_tuple 1 (spM G_is_tupleL)) : Dn P w K mg base "is_tuple" P_is_tuple 1 (spO (spR G_is_tuple) (spM G_is_tupleL)) := by
  exact d_is_tuple.or d_is_tupleL
end
end T
set_option maxHeartbeats 2000000
namespace T
open PySem L2 NdefX LamX TK
variable [TC]
def wO : Option (List Ed) → D
  | none => .non
  | some W => .tup (W.map Ed.d)
theorem flt_le {α : Type} {p q : α → Bool} : ∀ {l : List α}, (∀ x ∈ l, p x = true → q x = true) → (l.filter p).length ≤ (l.filter q).length
  | [], _ => Nat.le_refl _
  | a :: l, h => by
    have ih := flt_le (l := l) fun x hx => h x (List.mem_cons_of_mem _ hx)
    have h0 := h a List.mem_cons_self
    rw [List.filter_cons, List.filter_cons]
    cases e : p a with
    | true => rw [h0 e]; simpa using ih
    | false =>
      cases q a with
      | true => simp; omega
      | false => simpa using ih
theorem flt_lt {α : Type} {p q : α → Bool} : ∀ {l : List α} {a : α}, (∀ x ∈ l, p x = true → q x = true) → a ∈ l → q a = true → p a = false → (l.filter p).length < (l.filter q).length
  | [], a, _, h, _, _ => by cases h
  | b :: l, a, h, ha, h1, h2 => by
    have ih := flt_le (l := l) fun x hx => h x (List.mem_cons_of_mem _ hx)
    rw [List.filter_cons, List.filter_cons]
    rcases List.mem_cons.mp ha with rfl | ha
    · rw [h1, h2]
      simp
      omega
    · have ih := flt_lt (l := l) (fun x hx => h x (List.mem_cons_of_mem _ hx)) ha h1 h2
      have h0 := h b List.mem_cons_self
      cases e : p b with
      | true => rw [h0 e]; simpa using ih
      | false =>
        cases q b with
        | true => simp; omega
        | false => simpa using ih
def pairsN (M N : Nat) : List (Nat × Nat) := (List.range (M + 1)).flatMap fun m => (List.range N).map fun k => (m, k + 1)
def cntR (M N : Nat) (T B : Int) : Nat := ((pairsN M N).filter fun p => decide (0 < B * (p.1 : Int) - T * (p.2 : Int))).length
theorem cnt_lt {M N : Nat} {T B : Int} {W : List Ed} (hB : 0 ≤ B) (h1 : lets W ≤ M) (h2 : W.length ≤ N) (h3 : 0 < W.length) (hg : 0 < B * (lets W : Int) - T * (W.length : Int)) : cntR M N ((rateL W).1 : Int) ((rateL W).2 : Int) < cntR M N T B := by
  have pW := rate_pos h3
  have rm := rate_mul W
  unfold cntR
  refine flt_lt (a := (lets W, W.length)) (fun p hp hq => ?_) ?_ (decide_eq_true hg) (decide_eq_false ?_)
  · have hq := of_decide_eq_true hq
    obtain ⟨m, hm, hp⟩ := List.mem_flatMap.mp hp
    obtain ⟨k, hk, rfl⟩ := List.mem_map.mp hp
    refine decide_eq_true ?_
    generalize ((rateL W).2 : Int) = B' at *
    generalize ((rateL W).1 : Int) = T' at *
    have hk0 : (0 : Int) < ((k + 1 : Nat) : Int) := by omega
    show 0 < B * (m : Int) - T * ((k + 1 : Nat) : Int)
    have hq : 0 < B' * (m : Int) - T' * ((k + 1 : Nat) : Int) := hq
    generalize ((k + 1 : Nat) : Int) = k' at *
    generalize (m : Int) = m' at *
    have a1 : T * B' < B * T' := by
      refine Int.lt_of_mul_lt_mul_right (a := (W.length : Int)) ?_ (by omega)
      have e1 : B * T' * (W.length : Int) = B * (lets W : Int) * B' := by
        rw [show B * T' * (W.length : Int) = B * (T' * (W.length : Int)) by ac_rfl, ← rm]
        ac_rfl
      rw [e1, show T * B' * (W.length : Int) = T * (W.length : Int) * B' by ac_rfl]
      exact Int.mul_lt_mul_of_pos_right (by omega) pW
    have a2 : T * k' < B * m' := by
      refine Int.lt_of_mul_lt_mul_right (a := B') ?_ (by omega)
      have b1 : T * B' * k' < B * T' * k' := Int.mul_lt_mul_of_pos_right a1 hk0
      have b2 : (T' * k') * B ≤ (B' * m') * B := Int.mul_le_mul_of_nonneg_right (by omega) hB
      rw [show T * k' * B' = T * B' * k' by ac_rfl, show B * m' * B' = (B' * m') * B by ac_rfl]
      rw [show (T' * k') * B = B * T' * k' by ac_rfl] at b2
      omega
    omega
  · refine List.mem_flatMap.mpr ⟨lets W, List.mem_range.mpr (by omega), List.mem_map.mpr ⟨W.length - 1, List.mem_range.mpr (by omega), ?_⟩⟩
    rw [show W.length - 1 + 1 = W.length by omega]
  · show ¬ 0 < ((rateL W).2 : Int) * (lets W : Int) - ((rateL W).1 : Int) * (W.length : Int)
    rw [Int.mul_comm, rm]
    omega
theorem lets_le {c : Nat} : ∀ {W : List Ed}, (∀ e ∈ W, e.w.length ≤ c) → lets W ≤ c * W.length
  | [], _ => by simp [lets]
  | e :: W, h => by
    have ih := lets_le (W := W) fun x hx => h x (List.mem_cons_of_mem _ hx)
    have h0 := h e List.mem_cons_self
    unfold lets at ih ⊢
    rw [List.map_cons, List.sum_cons, List.length_cons, Nat.mul_add]
    omega
def FF (E : List Ed) (N : Nat) : Option (List Ed) → Int → Int → Prop
  | none, T, B => T = -1 ∧ B = 0
  | some F, T, B => RoundL E F ∧ F.length ≤ N ∧ T = ((rateL F).1 : Int) ∧ B = ((rateL F).2 : Int)
def BBt (E : List Ed) (N : Nat) : Option (List Ed) → Int → Int → Prop
  | none, T, B => ¬ aboveN E T B
  | some W, T, B => RoundL E W ∧ W.length ≤ N ∧ 0 < B * (lets W : Int) - T * (W.length : Int)
theorem FF.pos {E : List Ed} {N : Nat} {F : Option (List Ed)} {T B : Int} (h : FF E N F T B) : 0 ≤ B := by
  cases F with
  | none => obtain ⟨_, rfl⟩ := h; omega
  | some F => obtain ⟨_, _, _, rfl⟩ := h; omega
theorem FF.best {E : List Ed} {N : Nat} {F : Option (List Ed)} {T B : Int} (h : FF E N F T B) (b : ¬ aboveN E T B) : IsBest E N F := by
  cases F with
  | none => obtain ⟨rfl, rfl⟩ := h; exact b
  | some F => obtain ⟨h1, h2, rfl, rfl⟩ := h; exact ⟨h1, h2, b⟩
def G_fastest : List TK.A → Mu → (TK.A → Mu → Prop) → Prop := fun xs μ R => ∃ t : Tn, xs = [.dat t.d] ∧ μ = [] ∧ t.Ok ∧ R = fun x μ' => μ' = [] ∧ ∃ r, IsBest t.tr.E t.tr.N.toNat r ∧ x = .dat (wO r)
def IsRate (t : Tn) (d : Option (Nat × Nat)) : Prop := IsDue t.tr.E t.tr.N.toNat d
def frO : Option (Nat × Nat) → D
  | none => .non
  | some p => .tup [.int (p.1 : Int), .int (p.2 : Int)]
def G_rate : List D → D → Prop := fun ds d => ∃ (t : Tn) (r : Option (Nat × Nat)), ds = [t.d] ∧ t.Ok ∧ IsRate t r ∧ d = frO r
theorem Tn.Rt.ea' {u : Tn} (h : u.Rt) : ∀ e ∈ u.E, 0 ≤ e.a ∧ e.a < ((u.N.toNat : Nat) : Int) := fun e he => (h.ea e he).1
section
variable {P : Program} {w : World} {K : PySem.W.Frag} {mg : Str → Option Value} {base : Heap}
abbrev N_fastest_in : List Str := ["turner", "own", "found", "better", "top", "bottom"]
abbrev P_fastest_in : List Str := ["turner"]
theorem sc_fastest_in : FnScope N_fastest_in P_fastest_in (defScope s_fastest_in) := ⟨rfl, rfl, rfl, by decide +kernel, rfl, by decide +kernel, by decide +kernel⟩
theorem bd_fastest_in (kV doc pm : Value) (an : Option Addr) (cdv ct : Value) (us : List Value) (hl : us.length = (P_fastest_in : List Str).length) : bindArgs (PySem.W.fnOf "fastest_in" "fastest_in" (defArgs s_fastest_in) (defBody s_fastest_in) (defScope s_fastest_in) .none kV doc pm an cdv ct) ⟨us, []⟩ = pure ((P_fastest_in : List Str).zip us) := match us, hl with
  | [_], _ => rfl
theorem ok_fastest_in (T : Bl mg) (R : Raw K mg "fastest_in" s_fastest_in) (d_trimmed_in : Dn P w K mg base "trimmed_in" P_trimmed_in 3 (spM G_trim)) (d_loop_above : Dn P w K mg base "loop_above" P_loop_above 3 (spM G_above)) (d_rate_of : Dn P w K mg base "rate_of" P_rate_of 1 (spR G_rate_of)) : Dn P w K mg base "fastest_in" P_fastest_in 4 (spM G_fastest) := by
  refine R.dnM sc_fastest_in (fun ds d R ⟨t, q, _⟩ => by rw [q]; rfl) (by decide) bd_fastest_in fun cdv Ao outer s H E hr => ⟨_, (pss_cons (ps_par (i := 1) (j := 2) (by rfl) sc_fastest_in.nd rfl rfl (by decide) rfl rfl (pa_cons (pe_def d_trimmed_in hr (by decide) (by rfl) (pa_cons (pv 0) pa_nil)) (pa_cons pe_non pa_nil)) (by rfl))
      (pss_cons (ps_set (i := 3) sc_fastest_in.nd rfl (Or.inl rfl) (pe_def d_loop_above hr (by decide) (by rfl) (pa_cons (pv 1) (pa_cons (pe_un un_neg pe_int) (pa_cons pe_int pa_nil)))))
      (pss_cons (ps_while PassesOwn.never (pt_cmpR op_notN0 (pv 3) pe_non (nomark _))
      (pss_cons (ps_set (i := 2) sc_fastest_in.nd rfl (Or.inl rfl) (pv 3))
      (pss_cons (ps_asg (pe_def d_rate_of hr (by decide) (by rfl) (pa_cons (pv 2) pa_nil)) (pg_tup rfl (pgs_cons (pg_name (i := 4) sc_fastest_in.nd rfl (Or.inl rfl)) (pgs_cons (pg_name (i := 5) sc_fastest_in.nd rfl (Or.inl rfl)) pgs_nil))))
      (pss_one (ps_set (i := 3) sc_fastest_in.nd rfl (Or.inl rfl) (pe_def d_loop_above hr (by decide) (by rfl) (pa_cons (pv 1) (pa_cons (pv 4) (pa_cons (pv 5) pa_nil)))))))))
      (pss_one (ps_ret (pv 2)))))), ?_⟩
  rintro xs μ R ⟨t, rfl, rfl, ok, rfl⟩
  have rt := ok.rt
  have hn1 := rt.n
  have hnb := rt.nb
  refine ht_seq (ht_parX (R := fun xs μ' => xs = [.dat t.tr.d, .dat .non] ∧ μ' = []) (EXA.mono (exa_XX (R := fun x μ' => x = .dat t.tr.d ∧ μ' = []) (S := fun _ _ y μ' => y = .dat .non ∧ μ' = []) (EX.mono (ex_callD (ea_cons (e_var rfl) ea_nil) ⟨t, rfl, rfl, ok, rfl⟩) ?_) fun x μ' ⟨_, e2⟩ => by subst e2; exact TK.E.ex e_non) ?_) fun xs μ2 hx => ?_)
  · rintro x μ' ⟨ν, ⟨ks, G, rfl, rfl⟩, rfl⟩
    rw [trim_eq ok G]
    exact ⟨rfl, rfl⟩
  · rintro xs μ' ⟨x, y, μ3, rfl, ⟨rfl, _⟩, rfl, rfl⟩
    exact ⟨rfl, rfl⟩
  obtain ⟨rfl, rfl⟩ := hx
  refine ⟨_, _, rfl, ?_⟩
  generalize hu : t.tr = u at rt hn1 hnb
  have look : ∀ {T B : Int} {δ : Dl} {tr : TA}, EA δ [] tr [.dat u.d, .dat (.int T), .dat (.int B)] → EX δ [] (tCall (spM G_above) [] E0 tr) fun x μ' => μ' = [] ∧ ∃ bt, BBt u.E u.N.toNat bt T B ∧ x = .dat (wO bt) := fun {T B δ tr} h => EX.mono (ex_callD h ⟨u, T, B, rfl, rfl, rt, rfl⟩) (by
    rintro x μ' ⟨ν, ⟨rfl, h⟩, rfl⟩
    refine ⟨rfl, ?_⟩
    rcases h with ⟨rfl, h⟩ | ⟨W, rfl, h⟩
    · exact ⟨none, h, rfl⟩
    · exact ⟨some W, h, rfl⟩)
  refine ht_seq (ht_setX (look (T := -1) (B := 0) (ea_cons (e_var rfl) (ea_cons (e_neg e_int) (ea_cons e_int ea_nil)))) fun x μ' hx => ?_)
  obtain ⟨rfl, bt0, hb0, rfl⟩ := hx
  obtain ⟨M, hMM⟩ : ∃ M : Nat, M = 1000 * 1000 := ⟨_, rfl⟩
  let δf : Option (List Ed) → Option (List Ed) → Dl := fun F bt => [some (.dat t.d), some (.dat u.d), some (.dat (wO F)), some (.dat (wO bt)), none, none]
  refine ht_cut (N := fun δ μ => μ = [] ∧ ∃ F, IsBest u.E u.N.toNat F ∧ LeD δ (δf F none)) (ht_while (fun m δ μ => μ = [] ∧ ∃ F T B bt, FF u.E u.N.toNat F T B ∧ BBt u.E u.N.toNat bt T B ∧ m = cntR M u.N.toNat T B ∧ LeD δ (δf F bt)) (cntR M u.N.toNat (-1) 0) ⟨rfl, none, -1, 0, bt0, ⟨rfl, rfl⟩, hb0, rfl, LeD.refl _⟩ ?_) ?_
  · rintro m δ1 μ1 ⟨rfl, F, T, B, bt, hF, hbt, rfl, hle⟩
    cases bt with
    | none => exact ⟨false, et_test ((e_notN (x := .dat .non) (e_var (hle.at_ 3 _ rfl))).is rfl), (fun h => by cases h), fun _ => ⟨rfl, F, hF.best hbt, hle⟩⟩
    | some W =>
      obtain ⟨h1, h2, h3⟩ := hbt
      have hWl : ∀ e ∈ W, e.w.length ≤ 1000 := fun e he => rt.sz.we e (h1.mem e he)
      have hW0 : 0 < W.length := List.length_pos_iff.mpr h1.ne
      have hM : lets W ≤ M := by
        have a := lets_le hWl
        have b : 1000 * W.length ≤ 1000 * 1000 := Nat.mul_le_mul_left _ (by omega)
        omega
      refine ⟨true, et_test ((e_notN (x := .dat (.tup (W.map Ed.d))) (e_var (hle.at_ 3 _ rfl))).is rfl), fun _ => ?_, fun h => by cases h⟩
      refine HT.le (δ' := δf F (some W)) ?_ hle
      refine ht_seq (ht_set (x := .dat (wO (some W))) (e_var rfl) ?_)
      refine ht_seq (ht_asg (x := .dat (.tup [.int ((rateL W).1 : Int), .int ((rateL W).2 : Int)])) (e_call [.tup (W.map Ed.d)] (ea_cons (e_var rfl) ea_nil) rfl ⟨W, rfl, h1.ne, by omega, hWl, rfl⟩) (tg_tup (ds := [.int ((rateL W).1 : Int), .int ((rateL W).2 : Int)]) (tgs_cons tg_name (tgs_cons tg_name tgs_nil)) rfl) ?_)
      refine ht_setX (look (T := ((rateL W).1 : Int)) (B := ((rateL W).2 : Int)) (ea_cons (e_var rfl) (ea_cons (e_var rfl) (ea_cons (e_var rfl) ea_nil)))) fun x μ' hx => ?_
      obtain ⟨rfl, bt, hb, rfl⟩ := hx
      refine ⟨_, cnt_lt hF.pos hM h2 hW0 h3, rfl, some W, _, _, bt, ⟨h1, h2, rfl, rfl⟩, hb, rfl, ?_⟩
      repeat (first | exact LeD.refl _ | refine led_cons (.inr rfl) ?_ | refine led_cons (.inl rfl) ?_)
  · rintro δ1 μ1 ⟨rfl, F, hF, hle⟩
    refine HT.le (δ' := δf F none) ?_ hle
    exact ht_ret (e_var rfl) ⟨rfl, F, hF, rfl⟩
abbrev N_rate_in : List Str := ["turner", "loop"]
abbrev P_rate_in : List Str := ["turner"]
theorem sc_rate_in : FnScope N_rate_in P_rate_in (defScope s_rate_in) := ⟨rfl, rfl, rfl, by decide +kernel, rfl, by decide +kernel, by decide +kernel⟩
theorem bd_rate_in (kV doc pm : Value) (an : Option Addr) (cdv ct : Value) (us : List Value) (hl : us.length = (P_rate_in : List Str).length) : bindArgs (PySem.W.fnOf "rate_in" "rate_in" (defArgs s_rate_in) (defBody s_rate_in) (defScope s_rate_in) .none kV doc pm an cdv ct) ⟨us, []⟩ = pure ((P_rate_in : List Str).zip us) := match us, hl with
  | [_], _ => rfl
theorem ok_rate_in (T : Bl mg) (R : Raw K mg "rate_in" s_rate_in) (d_fastest_in : Dn P w K mg base "fastest_in" P_fastest_in 4 (spM G_fastest)) (d_rate_of : Dn P w K mg base "rate_of" P_rate_of 1 (spR G_rate_of)) : Dn P w K mg base "rate_in" P_rate_in 5 (spR G_rate) := by
  refine R.dnR sc_rate_in (fun ds d ⟨t, r, q, _⟩ => by rw [q]; rfl) (by decide) bd_rate_in fun cdv Ao outer s H E hr => ⟨_, (pss_cons (ps_set (i := 1) sc_rate_in.nd rfl (Or.inl rfl) (pe_def d_fastest_in hr (by decide) (by rfl) (pa_cons (pv 0) pa_nil)))
      (pss_one (ps_ret (pe_ifExp (pt_cmpR op_isN0 (pv 1) pe_non (nomark _)) pe_non (pe_def d_rate_of hr (by decide) (by rfl) (pa_cons (pv 1) pa_nil)))))), ?_⟩
  rintro ds d ⟨t, r, rfl, ok, hr, rfl⟩
  have rt := ok.rt
  have hnb := rt.nb
  refine ht_seq (ht_setX (ex_callD (ea_cons (e_var rfl) ea_nil) ⟨t, rfl, rfl, ok, rfl⟩) fun x μ1 hx => ?_)
  obtain ⟨ν, ⟨rfl, F, hF, rfl⟩, rfl⟩ := hx
  rcases best_due rt.ea' hF hr with ⟨rfl, rfl⟩ | ⟨W, rfl, rfl⟩
  · exact ht_ret (e_if (b := true) (et_test ((e_isN (x := .dat .non) (e_var rfl)).is rfl)) (fun _ => e_non) fun h => by cases h) rfl
  · obtain ⟨h1, h2, h3⟩ := hF
    exact ht_ret (e_if (b := false) (et_test ((e_isN (x := .dat (.tup (W.map Ed.d))) (e_var rfl)).is rfl)) (fun h => by cases h) fun _ => e_call [.tup (W.map Ed.d)] (ea_cons (e_var rfl) ea_nil) rfl ⟨W, rfl, h1.ne, by omega, fun e he => rt.sz.we e (h1.mem e he), rfl⟩) rfl
abbrev N_rate : List Str := ["turner"]
abbrev P_rate : List Str := ["turner"]
theorem sc_rate : FnScope N_rate P_rate (defScope s_rate) := ⟨rfl, rfl, rfl, by decide +kernel, rfl, by decide +kernel, by decide +kernel⟩
theorem bd_rate (kV doc pm : Value) (an : Option Addr) (cdv ct : Value) (us : List Value) (hl : us.length = (P_rate : List Str).length) : bindArgs (PySem.W.fnOf "rate" "rate" (defArgs s_rate) (defBody s_rate) (defScope s_rate) .none kV doc pm an cdv ct) ⟨us, []⟩ = pure ((P_rate : List Str).zip us) := match us, hl with
  | [_], _ => rfl
theorem ok_rate (T : Bl mg) (R : Raw K mg "rate" s_rate) (d_check_turner : Dn P w K mg base "check_turner" P_check_turner 9 (spR G_turner_fault)) (d_rate_in : Dn P w K mg base "rate_in" P_rate_in 5 (spR G_rate)) : Dn P w K mg base "rate" P_rate 10 (spR G_rate) := by
  refine R.dnR sc_rate (fun ds d ⟨t, r, q, _⟩ => by rw [q]; rfl) (by decide) bd_rate fun cdv Ao outer s H E hr => ⟨_, (pss_cons (ps_expr (pe_def d_check_turner hr (by decide) (by rfl) (pa_cons (pv 0) pa_nil)))
      (pss_one (ps_ret (pe_def d_rate_in hr (by decide) (by rfl) (pa_cons (pv 0) pa_nil))))), ?_⟩
  rintro ds d ⟨t, r, rfl, ok, hr, rfl⟩
  refine ht_seq (ht_drop (e_call [t.d] (ea_cons (e_var rfl) ea_nil) rfl ⟨t, rfl, ok, rfl⟩) ?_)
  exact ht_ret (e_call [t.d] (ea_cons (e_var rfl) ea_nil) rfl ⟨t, r, rfl, ok, hr, rfl⟩) rfl
abbrev N_fastest_loop : List Str := ["turner"]
abbrev P_fastest_loop : List Str := ["turner"]
theorem sc_fastest_loop : FnScope N_fastest_loop P_fastest_loop (defScope s_fastest_loop) := ⟨rfl, rfl, rfl, by decide +kernel, rfl, by decide +kernel, by decide +kernel⟩
theorem bd_fastest_loop (kV doc pm : Value) (an : Option Addr) (cdv ct : Value) (us : List Value) (hl : us.length = (P_fastest_loop : List Str).length) : bindArgs (PySem.W.fnOf "fastest_loop" "fastest_loop" (defArgs s_fastest_loop) (defBody s_fastest_loop) (defScope s_fastest_loop) .none kV doc pm an cdv ct) ⟨us, []⟩ = pure ((P_fastest_loop : List Str).zip us) := match us, hl with
  | [_], _ => rfl
theorem ok_fastest_loop (T : Bl mg) (R : Raw K mg "fastest_loop" s_fastest_loop) (d_check_turner : Dn P w K mg base "check_turner" P_check_turner 9 (spR G_turner_fault)) (d_fastest_in : Dn P w K mg base "fastest_in" P_fastest_in 4 (spM G_fastest)) : Dn P w K mg base "fastest_loop" P_fastest_loop 10 (spM G_fastest) := by
  refine R.dnM sc_fastest_loop (fun ds d R ⟨t, q, _⟩ => by rw [q]; rfl) (by decide) bd_fastest_loop fun cdv Ao outer s H E hr => ⟨_, (pss_cons (ps_expr (pe_def d_check_turner hr (by decide) (by rfl) (pa_cons (pv 0) pa_nil)))
      (pss_one (ps_ret (pe_def d_fastest_in hr (by decide) (by rfl) (pa_cons (pv 0) pa_nil))))), ?_⟩
  rintro xs μ R ⟨t, rfl, rfl, ok, rfl⟩
  refine ht_seq (ht_drop (e_call [t.d] (ea_cons (e_var rfl) ea_nil) rfl ⟨t, rfl, ok, rfl⟩) ?_)
  refine ht_retX (ex_callD (ea_cons (e_var rfl) ea_nil) ⟨t, rfl, rfl, ok, rfl⟩) ?_
  rintro x μ1 ⟨ν, ⟨rfl, h⟩, rfl⟩
  exact ⟨rfl, h⟩
end
end T
set_option maxHeartbeats 2000000
namespace T
open PySem L2 NdefX LamX TK
variable [TC]
def LeafT (d : D) : Prop := (∀ l, d ≠ .tup l) ∨ ∃ l, d = .tup l ∧ l.length ≤ 1000 ∧ ∀ x ∈ l, (∀ k, x ≠ .tup k) ∧ x.py.canLay0 = true
def vI (vals : List Int) (p : Int) : Int := vals.getD p.toNat 0
def JR (u : Tn) (T B : Int) (d : D) : Prop := ∃ vals : List Int, d = .tup (vals.map .int) ∧ vals.length = u.N.toNat ∧ ∀ e ∈ u.E, gn T B e ≤ vI vals e.b - vI vals e.a
theorem vI_at {vals : List Int} {p : Int} (h0 : 0 ≤ p) (h1 : p < (vals.length : Int)) : atI (vals.map D.int) p = some (.int (vI vals p)) := by
  obtain ⟨n, rfl⟩ := Int.eq_ofNat_of_zero_le h0
  refine atI_n ?_
  unfold vI
  rw [List.getElem?_map, Int.toNat_natCast, List.getD_eq_getElem?_getD, List.getElem?_eq_getElem (by omega)]
  rfl
theorem ints_inj {a b : List Int} (h : D.tup (a.map D.int) = D.tup (b.map D.int)) : a = b := (List.map_inj_right (fun x y e => by cases e; rfl)).mp (D.tup.inj h)
theorem all_ints : ∀ {l : List D}, (∀ x ∈ l, isInt x = true) → ∃ vals : List Int, l = vals.map .int
  | [], _ => ⟨[], rfl⟩
  | x :: l, h => by
    obtain ⟨val, rfl⟩ := all_ints fun y hy => h y (List.mem_cons_of_mem _ hy)
    have h0 := h x List.mem_cons_self
    cases x with
    | int i => exact ⟨i :: val, rfl⟩
    | _ => cases h0
def JRes (J : D → Prop) (v : TK.A) (μ : Mu) (R : TK.A → Mu → Prop) : Prop :=
  (∃ d, v = .dat d ∧ LeafT d ∧ μ = [] ∧ R = fun x μ' => ∃ b : Bool, x = .dat (.bl b) ∧ (b = true ↔ J d) ∧ μ' = []) ∨ ∃ (a : Addr) (ys : List TK.A), v = .own a ∧ μ = [(a, C.lst ys)] ∧ R = fun x μ' => x = .dat (.bl false) ∧ μ' = [(a, C.lst ys)]
def G_shows : List TK.A → Mu → (TK.A → Mu → Prop) → Prop := fun xs μ R => ∃ (t : Tn) (T B : Int) (v : TK.A), xs = [.dat t.d, .dat (.int T), .dat (.int B), v] ∧ t.Ok ∧ 0 ≤ T ∧ 1 ≤ B ∧ JRes (JR t.tr T B) v μ R
def G_rpaper : List TK.A → Mu → (TK.A → Mu → Prop) → Prop := fun xs μ R => ∃ (t : Tn) (T B : Int), xs = [.dat t.d, .dat (.int T), .dat (.int B)] ∧ μ = [] ∧ t.Ok ∧ 0 ≤ T ∧ 1 ≤ B ∧
  R = fun x μ' => μ' = [] ∧ ((x = .dat .non ∧ aboveN t.tr.E T B) ∨ ∃ vals : List Int, x = .dat (.tup (vals.map .int)) ∧ JR t.tr T B (.tup (vals.map .int)))
theorem Bk.list {T B : Int} {l : Int → Option Ed} {v u g : Int} {n : Nat} (a : Bk T B l v n g u) : ∃ es, BwL l v es u ∧ es.length = n := by
  induction a with
  | nil v => exact ⟨[], rfl, rfl⟩
  | @cons v e n g u hl _ ih =>
    obtain ⟨es, h1, h2⟩ := ih
    exact ⟨e :: es, ⟨hl, h1⟩, by rw [List.length_cons, h2]⟩
theorem after_above {u : Tn} (rt : u.Rt) {T B : Int} (h : (afterR T B u.E u.N.toNat).r ≠ none) : aboveN u.E T B := by
  have hn1 := rt.n
  obtain ⟨v, hv⟩ := Option.ne_none_iff_exists'.mp h
  obtain ⟨e0, he0, ev⟩ := after_r hv
  have hvr : 0 ≤ v ∧ v < ((u.N.toNat : Nat) : Int) := by rw [← ev]; exact (rt.ea e0 he0).2
  obtain ⟨gN, uN, aN⟩ := back_walk (by omega) hv
  have i := InvR.after (T := T) (B := B) (E := u.E) u.N.toNat
  obtain ⟨c, gc, hc0, hcN, ac⟩ := back_round i rt.ea hvr aN
  obtain ⟨es, h1, h2⟩ := ac.list
  obtain ⟨hR, hg⟩ := bwl_round (T := T) (B := B) i h1 (fun z => by rw [z] at h2; simp at h2; omega)
  exact hR.above hg
section
variable {P : Program} {w : World} {K : PySem.W.Frag} {mg : Str → Option Value} {base : Heap}
theorem e_trim {δ : Dl} {μ : Mu} {tr : TA} {t : Tn} (ok : t.Ok) (h : EA δ μ tr [.dat t.d]) : TK.E δ μ (tCall (spM G_trim) [] E0 tr) (.dat t.tr.d) := e_callM (fun _ _ _ _ h => h) h ⟨t, rfl, rfl, ok, rfl⟩ (by
  rintro x ν' ⟨ks, G, rfl, rfl⟩
  rw [trim_eq ok G]
  exact ⟨rfl, rfl⟩)
abbrev N_rate_paper : List Str := ["turner", "top", "bottom", "heights", "last", "place"]
abbrev P_rate_paper : List Str := ["turner", "top", "bottom"]
theorem sc_rate_paper : FnScope N_rate_paper P_rate_paper (defScope s_rate_paper) := ⟨rfl, rfl, rfl, by decide +kernel, rfl, by decide +kernel, by decide +kernel⟩
theorem bd_rate_paper (kV doc pm : Value) (an : Option Addr) (cdv ct : Value) (us : List Value) (hl : us.length = (P_rate_paper : List Str).length) : bindArgs (PySem.W.fnOf "rate_paper" "rate_paper" (defArgs s_rate_paper) (defBody s_rate_paper) (defScope s_rate_paper) .none kV doc pm an cdv ct) ⟨us, []⟩ = pure ((P_rate_paper : List Str).zip us) := match us, hl with
  | [_, _, _], _ => rfl
theorem ok_rate_paper (T : Bl mg) (R : Raw K mg "rate_paper" s_rate_paper) (d_check_turner : Dn P w K mg base "check_turner" P_check_turner 9 (spR G_turner_fault)) (d_check_rate : Dn P w K mg base "check_rate" P_check_rate 3 (spR G_crate)) (d_trimmed_in : Dn P w K mg base "trimmed_in" P_trimmed_in 3 (spM G_trim)) (d_raised : Dn P w K mg base "raised" P_raised 2 (spM G_raised)) :
    Dn P w K mg base "rate_paper" P_rate_paper 10 (spM G_rpaper) := by
  refine R.dnM sc_rate_paper (fun ds d R ⟨t, T, B, q, _⟩ => by rw [q]; rfl) (by decide) bd_rate_paper fun cdv Ao outer s H E hr => ⟨_, (pss_cons (ps_expr (pe_def d_check_turner hr (by decide) (by rfl) (pa_cons (pv 0) pa_nil)))
      (pss_cons (ps_expr (pe_def d_check_rate hr (by decide) (by rfl) (pa_cons (pv 1) (pa_cons (pv 2) pa_nil))))
      (pss_cons (ps_asg (pe_def d_raised hr (by decide) (by rfl) (pa_cons (pe_def d_trimmed_in hr (by decide) (by rfl) (pa_cons (pv 0) pa_nil)) (pa_cons (pv 1) (pa_cons (pv 2) pa_nil)))) (pg_tup rfl (pgs_cons (pg_name (i := 3) sc_rate_paper.nd rfl (Or.inl rfl)) (pgs_cons (pg_name (i := 4) sc_rate_paper.nd rfl (Or.inl rfl)) (pgs_cons (pg_name (i := 5) sc_rate_paper.nd rfl (Or.inl rfl)) pgs_nil)))))
      (pss_one (ps_ret (pe_ifExp (pt_cmpR op_isN0 (pv 5) pe_non (nomark _)) (pe_callTy call_tupleOf (by rfl) T.tuple bb_tuple (pa_cons (pv 3) pa_nil)) pe_non)))))), ?_⟩
  rintro xs μ R ⟨t, T, B, rfl, rfl, ok, hT, hB, rfl⟩
  have rt := ok.rt
  refine ht_seq (ht_drop (e_call [t.d] (ea_cons (e_var rfl) ea_nil) rfl ⟨t, rfl, ok, rfl⟩) ?_)
  refine ht_seq (ht_drop (e_call [.int T, .int B] (ea_cons (e_var rfl) (ea_cons (e_var rfl) ea_nil)) rfl ⟨T, B, rfl, hT, hB, rfl⟩) ?_)
  refine ht_seq (ht_asgO (ex_callD (ea_cons (e_trim ok (ea_cons (e_var rfl) ea_nil)) (ea_cons (e_var rfl) (ea_cons (e_var rfl) ea_nil))) ⟨t.tr, T, B, rfl, rfl, rt, rfl⟩) fun x μ' hx => ?_)
  obtain ⟨ν, ⟨p, a, b, n, rfl, rfl, hn⟩, rfl⟩ := hx
  refine ⟨p, 0, _, _, _, rfl, rfl, tgs_cons tg_name (tgs_cons tg_name (tgs_cons tg_name tgs_nil)), rfl, ?_⟩
  rcases hn with ⟨h0, hr⟩ | ⟨rfl, hr⟩
  · let vals : List Int := (List.range t.tr.N.toNat).map fun (k : Nat) => (afterR T B t.tr.E n).h (k : Int)
    refine ht_retS (TK.E.ex (x := .dat (.tup (vals.map .int))) (e_if (b := true) (et_test ((e_isN (x := .dat (optI (afterR T B t.tr.E n).r)) (e_var rfl)).is (by rw [optI_isN, hr]; rfl))) (fun _ => e_tupleL (ds := vals.map .int) 2 (e_var rfl) ?_) fun h => by cases h)) fun x μ' ⟨e1, _⟩ => ⟨[], ⟨rfl, .inr ⟨vals, e1, vals, rfl, by simp [vals], fun e he => ?_⟩⟩, List.nil_sublist _⟩
    · show some (a, C.lst (hL _ _)) = _
      unfold hL
      rw [List.map_map, List.map_map]
      rfl
    · have fx := after_fix h0 hr e he
      have hv : ∀ {q : Int}, 0 ≤ q → q < ((t.tr.N.toNat : Nat) : Int) → vI vals q = (afterR T B t.tr.E n).h q := fun {q} h1 h2 => by
        obtain ⟨m, rfl⟩ := Int.eq_ofNat_of_zero_le h1
        unfold vI
        rw [Int.toNat_natCast, List.getD_eq_getElem?_getD, List.getElem?_map, List.getElem?_range (by omega)]
        rfl
      obtain ⟨⟨a0, a1⟩, b0, b1⟩ := rt.ea e he
      rw [hv a0 a1, hv b0 b1]
      omega
  · have hab := after_above rt hr
    obtain ⟨v, hv⟩ := Option.ne_none_iff_exists'.mp hr
    exact ht_retS (TK.E.ex (x := .dat .non) (e_if (b := false) (et_test ((e_isN (x := .dat (optI (afterR T B t.tr.E t.tr.N.toNat).r)) (e_var rfl)).is (by rw [optI_isN, hv]; rfl))) (fun h => by cases h) fun _ => e_non)) fun x μ' ⟨e1, _⟩ => ⟨[], ⟨rfl, .inl ⟨e1, hab⟩⟩, List.nil_sublist _⟩
abbrev N_shows_rate : List Str := ["turner", "top", "bottom", "value", "own", "one", "edge"]
abbrev P_shows_rate : List Str := ["turner", "top", "bottom", "value"]
theorem sc_shows_rate : FnScope N_shows_rate P_shows_rate (defScope s_shows_rate) := ⟨rfl, rfl, rfl, by decide +kernel, rfl, by decide +kernel, by decide +kernel⟩
theorem bd_shows_rate (kV doc pm : Value) (an : Option Addr) (cdv ct : Value) (us : List Value) (hl : us.length = (P_shows_rate : List Str).length) : bindArgs (PySem.W.fnOf "shows_rate" "shows_rate" (defArgs s_shows_rate) (defBody s_shows_rate) (defScope s_shows_rate) .none kV doc pm an cdv ct) ⟨us, []⟩ = pure ((P_shows_rate : List Str).zip us) := match us, hl with
  | [_, _, _, _], _ => rfl
theorem ok_shows_rate (T : Bl mg) (R : Raw K mg "shows_rate" s_shows_rate) (d_check_turner : Dn P w K mg base "check_turner" P_check_turner 9 (spR G_turner_fault)) (d_check_rate : Dn P w K mg base "check_rate" P_check_rate 3 (spR G_crate)) (d_trimmed_in : Dn P w K mg base "trimmed_in" P_trimmed_in 3 (spM G_trim)) (d_is_integer : Dn P w K mg base "is_integer" P_is_integer 1 (spR G_is_integer)) (d_is_tuple : Dn P w K mg base "is_tuple" P_is_tuple 1 (spO (spR G_is_tuple) (spM G_is_tupleL)))
    (d_gain : Dn P w K mg base "gain" P_gain 1 (spR G_gain)) : Dn P w K mg base "shows_rate" P_shows_rate 10 (spM G_shows) := by
  refine R.dnM sc_shows_rate (fun ds d R ⟨t, T, B, v, e, _⟩ => by rw [e]; rfl) (by decide) bd_shows_rate fun cdv Ao outer s H E hr => ⟨_, (pss_cons (ps_expr (pe_def d_check_turner hr (by decide) (by rfl) (pa_cons (pv 0) pa_nil)))
      (pss_cons (ps_expr (pe_def d_check_rate hr (by decide) (by rfl) (pa_cons (pv 1) (pa_cons (pv 2) pa_nil))))
      (pss_cons (ps_set (i := 4) sc_shows_rate.nd rfl (Or.inl rfl) (pe_def d_trimmed_in hr (by decide) (by rfl) (pa_cons (pv 0) pa_nil)))
      (pss_cons (ps_if (PW.pt (pw_or (pt_not (pt_val (pe_def d_is_tuple hr (by decide) (by rfl) (pa_cons (pe_ix ix_any (pv 4) pe_int (fun _ _ => rfl)) (pa_cons (pv 3) pa_nil))))) (pw_or1 (pt_not (pt_val (pe_callB (cr_all' rfl) (by rfl) T.all bb_all (pa_cons (pe_lc rfl sc_shows_rate.nd (pi_seq (pv 3)) (blkOk_by (own := [("one", 5)]) (N := N_shows_rate) (sc := defScope s_shows_rate) (by decide +kernel)) (fun _ _ _ _ _ => (pg_name (i := 5) sc_shows_rate.nd rfl (Or.inl rfl))) (fun _ _ _ _ _ => pts_nil) (fun _ _ _ _ _ => (pe_def d_is_integer hr (by decide) (by rfl) (pa_cons (pv 5) pa_nil)))) pa_nil))))))) (pss_one (ps_ret pe_bl)) pss_nil)
      (pss_one (ps_ret (pe_callB (cr_all' rfl) (by rfl) T.all bb_all (pa_cons (pe_lc rfl sc_shows_rate.nd (pi_seq (pe_ix ix_any (pv 4) pe_int (fun _ _ => rfl))) (blkOk_by (own := [("edge", 6)]) (N := N_shows_rate) (sc := defScope s_shows_rate) (by decide +kernel)) (fun _ _ _ _ _ => (pg_name (i := 6) sc_shows_rate.nd rfl (Or.inl rfl))) (fun _ _ _ _ _ => pts_nil) (fun _ _ _ _ _ => (pe_cmpR op_ge (pe_op op_sub (pe_ix (ixK (K := K) rfl ix_any) (pv 3) (pe_ix (ixK (K := K) rfl ix_any) (pv 6) pe_int (fun _ _ => rfl)) (fun _ _ => rfl)) (pe_ix (ixK (K := K) rfl ix_any) (pv 3) (pe_ix (ixK (K := K) rfl ix_any) (pv 6) pe_int (fun _ _ => rfl)) (fun _ _ => rfl))) (pe_def d_gain hr (by decide) (by rfl) (pa_cons (pv 6) (pa_cons (pv 1) (pa_cons (pv 2) pa_nil)))) (nomark _)))) pa_nil)))))))), ?_⟩
  have il : ∀ vs H Q E, spR G_is_tuple vs H Q E → spO (spR G_is_tuple) (spM G_is_tupleL) vs H Q E := fun _ _ _ _ h => .inl h
  have ir : ∀ vs H Q E, spM G_is_tupleL vs H Q E → spO (spR G_is_tuple) (spM G_is_tupleL) vs H Q E := fun _ _ _ _ h => .inr h
  rintro xs μ R ⟨t, T, B, v, rfl, ok, hT, hB, ⟨d, rfl, hd, rfl, rfl⟩ | ⟨a, ys, rfl, rfl, rfl⟩⟩
  rotate_left
  · refine ht_seq (ht_drop (e_call [t.d] (ea_cons (e_var rfl) ea_nil) rfl ⟨t, rfl, ok, rfl⟩) ?_)
    refine ht_seq (ht_drop (e_call [.int T, .int B] (ea_cons (e_var rfl) (ea_cons (e_var rfl) ea_nil)) rfl ⟨T, B, rfl, hT, hB, rfl⟩) ?_)
    refine ht_seq (ht_set (x := .dat t.tr.d) (e_trim ok (ea_cons (e_var rfl) ea_nil)) ?_)
    refine ht_seq (ht_ifX (R := fun b μ' => b = true ∧ μ' = [(a, C.lst ys)]) (ext_orT (R := fun b μ' => b = true ∧ μ' = [(a, C.lst ys)]) (EXT.imp (ext_not (R := fun b μ' => b = false ∧ μ' = [(a, C.lst ys)]) (ext_test (S := fun x μ' => x = .dat (.bl false) ∧ μ' = [(a, C.lst ys)]) (ex_callXS ir (ea_cons (e_ixT (d := .int t.tr.N) (e_var rfl) e_int rfl) (ea_cons (e_var rfl) ea_nil)).ex ?_) ?_)) ?_) fun b μ' h => h.1) (fun μ' h => ?_) fun μ' h => by cases h.1)
    · rintro xs μ1 ⟨rfl, rfl⟩
      exact ⟨[(a, C.lst ys)], [], _, .refl _, ⟨some t.tr.N, a, ys, rfl, rfl, rfl⟩, fun x ν' ⟨e1, e2⟩ => ⟨_, .refl _, e1, by rw [e2]; rfl⟩⟩
    · rintro x μ' ⟨rfl, rfl⟩
      exact ⟨false, rfl, rfl, rfl⟩
    · rintro b μ' ⟨h, e⟩
      refine ⟨?_, e⟩
      cases b with
      | true => rfl
      | false => cases h
    · obtain ⟨_, rfl⟩ := h
      exact ht_ret e_bl ⟨rfl, rfl⟩
  have rt := ok.rt
  have hn1 := rt.n
  have hnb := rt.nb
  refine ht_seq (ht_drop (e_call [t.d] (ea_cons (e_var rfl) ea_nil) rfl ⟨t, rfl, ok, rfl⟩) ?_)
  refine ht_seq (ht_drop (e_call [.int T, .int B] (ea_cons (e_var rfl) (ea_cons (e_var rfl) ea_nil)) rfl ⟨T, B, rfl, hT, hB, rfl⟩) ?_)
  refine ht_seq (ht_set (x := .dat t.tr.d) (e_trim ok (ea_cons (e_var rfl) ea_nil)) ?_)
  generalize t.tr = u at rt hn1 hnb ⊢
  have tup : ∀ {μ : Mu}, ET [some (.dat t.d), some (.dat (.int T)), some (.dat (.int B)), some (.dat d), some (.dat u.d), none, none] μ (tNot (tTest (tCall (spO (spR G_is_tuple) (spM G_is_tupleL)) [] E0 (tCons (tOp (rIxA K) (tVar 4) (tC (.int 2))) (tCons (tVar 3) tNil))))) (!isTuple (some u.N) d) := fun {μ} => et_not (et_test (e_callS il [.int u.N, d] (ea_cons (e_ixT (e_var rfl) e_int rfl) (ea_cons (e_var rfl) ea_nil)) rfl ⟨some u.N, d, rfl, rfl⟩))
  cases ht : isTuple (some u.N) d with
  | false =>
    refine ht_seq (ht_if (b := true) (et_or (b := true) (c := true) (tup.is (by rw [ht]; rfl)) fun q => by cases q) (fun _ => ht_ret e_bl ⟨false, rfl, ⟨(fun z => by cases z), fun ⟨val, e, hl, _⟩ => ?_⟩, rfl⟩) fun q => by cases q)
    rw [e] at ht
    simp [isTuple, hl] at ht
    omega
  | true =>
    obtain ⟨l, rfl, hl, hleaf⟩ : ∃ l, d = .tup l ∧ l.length ≤ 1000 ∧ ∀ x ∈ l, (∀ k, x ≠ .tup k) ∧ x.py.canLay0 = true := by
      rcases hd with hd | h
      · cases d with
        | tup l => exact absurd rfl (hd l)
        | _ => cases ht
      · exact h
    have hlN : (l.length : Int) = u.N := by simpa [isTuple] using ht
    have al : ∀ {μ : Mu}, TK.E [some (.dat t.d), some (.dat (.int T)), some (.dat (.int B)), some (.dat (.tup l)), some (.dat u.d), none, none] μ (tCB (rAll K) (tCons (tLc (iSeq K (tVar 3)) (gName 5) tYes (tCall (spR G_is_integer) [] E0 (tCons (tVar 5) tNil)) [5]) tNil)) (.dat (.bl (l.all fun x => isInt x))) := fun {μ} => e_allG (l := l) (q := fun x => .dat x) (ei_seqT (e_var rfl)).ei (by omega) (fun x => isInt x) fun x hx =>
      ⟨_, _, tg_name, by simp, e_call [x] (ea_cons (e_var rfl) ea_nil) rfl ⟨x, rfl, rfl⟩⟩
    refine ht_seq (ht_if (b := !l.all fun x => isInt x) ((et_or (b := false) (tup.is (by rw [ht]; rfl)) fun _ => et_not (et_test al)).is (Bool.false_or _)) (fun hb => ht_ret e_bl ⟨false, rfl, ⟨(fun z => by cases z), fun ⟨val, e, _⟩ => ?_⟩, rfl⟩) fun hb => ht_next ?_)
    · rw [D.tup.inj e] at hb
      have : ((val.map D.int).all fun x => isInt x) = true := List.all_eq_true.mpr fun x hx => by
        obtain ⟨i, _, rfl⟩ := List.mem_map.mp hx
        rfl
      rw [this] at hb
      cases hb
    · obtain ⟨vals, rfl⟩ := all_ints (l := l) fun x hx => by
        have hb : (l.all fun x => isInt x) = true := by simpa using hb
        simpa using List.all_eq_true.mp hb x hx
      have hvl : vals.length = u.N.toNat := by rw [List.length_map] at hlN; omega
      refine ht_ret (x := .dat (.bl (u.E.all fun e => decide (gn T B e ≤ vI vals e.b - vI vals e.a)))) (e_allG (l := u.E) (q := fun e => .dat e.d) (ei_seqM (e_ixT (e_var rfl) e_int rfl)).ei (by have := rt.sz.le; omega) (fun e => decide (gn T B e ≤ vI vals e.b - vI vals e.a)) fun e he => ?_) ⟨_, rfl, ?_, rfl⟩
      · obtain ⟨⟨a0, a1⟩, b0, b1⟩ := rt.ea e he
        exact ⟨_, _, tg_name, by simp, e_ge (e_sub (e_ixT (ds := vals.map .int) (e_var rfl) (e_ixT (d := .int e.b) (e_var rfl) e_int rfl) (vI_at b0 (by omega))) (e_ixT (ds := vals.map .int) (e_var rfl) (e_ixT (d := .int e.a) (e_var rfl) e_int rfl) (vI_at a0 (by omega)))) (e_call [e.d, .int T, .int B] (ea_cons (e_var rfl) (ea_cons (e_var rfl) (ea_cons (e_var rfl) ea_nil))) rfl ⟨e, T, B, rfl, rt.sz.we e he, rfl⟩)⟩
      · rw [List.all_eq_true]
        constructor
        · intro h
          exact ⟨vals, rfl, hvl, fun e he => of_decide_eq_true (h e he)⟩
        · rintro ⟨v2, e2, _, h⟩ e he
          rw [← ints_inj e2] at h
          exact decide_eq_true (h e he)
end
end T
set_option maxHeartbeats 2000000
namespace T
open PySem L2 NdefX LamX TK
variable [TC]
theorem shp_lv : ∀ {l : List D}, (∀ x ∈ l, (∀ k, x ≠ .tup k) ∧ x.py.canLay0 = true) → SeqAt.shaped (.list (D.pyL l)) = true := fun {l} h => by
  have h1 : ∀ l : List D, (∀ x ∈ l, (∀ k, x ≠ .tup k) ∧ x.py.canLay0 = true) → PyData.canLayAll0 (D.pyL l) = true ∧ PyData.depthAll (D.pyL l) ≤ 2 := fun l => by
    induction l with
    | nil => exact fun _ => ⟨rfl, by simp [D.pyL, PyData.depthAll]⟩
    | cons x l ih =>
      intro h
      obtain ⟨a, b⟩ := ih fun y hy => h y (List.mem_cons_of_mem _ hy)
      obtain ⟨c, d⟩ := h x List.mem_cons_self
      refine ⟨by simp [D.pyL, PyData.canLayAll0, a, d], ?_⟩
      have : x.py.depth ≤ 1 := by
        cases x with
        | tup k => exact absurd rfl (c k)
        | _ => simp [D.py, PyData.depth]
      simp only [D.pyL, PyData.depthAll]
      omega
  obtain ⟨a, b⟩ := h1 l h
  have hd : (PyData.list (D.pyL l)).depth ≤ 64 := by
    simp only [PyData.depth]
    omega
  unfold SeqAt.shaped
  rw [decide_eq_true hd]
  simp [PyData.canLay0, a]
theorem plain_es : ∀ {l : List Ed}, plainL (l.map Ed.d) = true := fun {l} => by
  induction l with
  | nil => rfl
  | cons m l ih => simp [plainL, Ed.d, plainD, plain_w, ih]
theorem dep_es {l : List Ed} : (D.tup (l.map Ed.d)).py.depth ≤ 64 := by
  simp only [D.py]
  induction l with
  | nil => simp [D.pyL, PyData.depth, PyData.depthAll]
  | cons x l ih =>
    have h2 := dep_w x.w
    simp only [List.map_cons, D.pyL, D.py, Ed.d, PyData.depth, PyData.depthAll] at ih h2 ⊢
    omega
theorem eqv_es {l : List Ed} : PyData.eqv (D.tup (l.map Ed.d)).py (D.tup []).py = l.isEmpty := by
  cases l <;> simp [D.py, D.pyL, PyData.eqv, PyData.eqvAll]
theorem eqv_wd (w : List Int) : PyData.eqv (wD w).py (wD w).py = true := by
  unfold wD
  simp only [D.py, PyData.eqv]
  induction w with
  | nil => rfl
  | cons x w ih => simp [D.pyL, D.py, PyData.eqv, PyData.eqvAll, ih]
theorem eqv_ed (e : Ed) : PyData.eqv e.d.py e.d.py = true := by
  have := eqv_wd e.w
  simp [Ed.d, D.py, D.pyL, PyData.eqv, PyData.eqvAll, this]
theorem any_ed {e : Ed} : ∀ {l : List Ed}, e ∈ l → ((D.pyL (l.map Ed.d)).any fun z => PyData.eqv z e.d.py) = true
  | [], h => by cases h
  | x :: l, h => by
    rw [List.map_cons]
    show (PyData.eqv x.d.py e.d.py || (D.pyL (l.map Ed.d)).any fun z => PyData.eqv z e.d.py) = true
    rcases List.mem_cons.mp h with rfl | h
    · rw [eqv_ed]; rfl
    · rw [any_ed h, Bool.or_true]
theorem shp_ed (e : Ed) : SeqAt.shaped e.d.py = true := shp_of (by simp [Ed.d, plainD, plainL, plain_w]) (by
  have h2 := dep_w e.w
  simp only [Ed.d, D.py, D.pyL, PyData.depth, PyData.depthAll] at h2 ⊢
  omega)
def frD (p : Nat × Nat) : D := .tup [.int (p.1 : Int), .int (p.2 : Int)]
theorem frO_some (p : Nat × Nat) : frO (some p) = frD p := rfl
def G_div : List D → D → Prop := fun ds d => ∃ m k : Nat, ds = [.int (m : Int), .int (k : Int)] ∧ d = .int ((m.gcd k : Nat) : Int)
def G_lrateL : List TK.A → Mu → (TK.A → Mu → Prop) → Prop := fun xs μ R => ∃ (a : Addr) (W : List Ed), xs = [.own a] ∧ μ = [(a, C.lst (edsA W))] ∧ W ≠ [] ∧ W.length ≤ 1000 ∧ (∀ e ∈ W, e.w.length ≤ 1000) ∧ R = fun x μ' => x = .dat (frD (rateL W)) ∧ μ' = [(a, C.lst (edsA W))]
def GrF (ps : List (Nat × Nat)) : Option (Nat × Nat) → Prop
  | none => ps = []
  | some p => p ∈ ps ∧ ∀ q ∈ ps, q.1 * p.2 ≤ p.1 * q.2
def G_great : List TK.A → Mu → (TK.A → Mu → Prop) → Prop := fun xs μ R => ∃ (a : Addr) (ps : List (Nat × Nat)), xs = [.own a] ∧ μ = [(a, C.lst ((ps.map frD).map .dat))] ∧ ps.length < 100000 ∧ (∀ p ∈ ps, 0 < p.2 ∧ p.1 < 1000000000 ∧ p.2 < 1000000000) ∧
  R = fun x μ' => ∃ r, GrF ps r ∧ x = .dat (frO r) ∧ μ' = [(a, C.lst ((ps.map frD).map .dat))]
theorem GrF.due {E : List Ed} {N : Nat} {r : Option (Nat × Nat)} (h : GrF ((foundN E N).map rateL) r) : IsDue E N r := by
  cases r with
  | none => exact List.map_eq_nil_iff.mp h
  | some p =>
    obtain ⟨h1, h2⟩ := h
    obtain ⟨w, hw, e⟩ := List.mem_map.mp h1
    refine ⟨⟨w, hw, e.symm⟩, fun x hx => ?_⟩
    have := h2 _ (List.mem_map.mpr ⟨x, hx, rfl⟩)
    have e1 := red1 (m := lets x) (k := x.length)
    have e2 := red2 (m := lets x) (k := x.length)
    have k : lets x * p.2 ≤ p.1 * x.length := by
      have a := Nat.mul_le_mul_right ((lets x).gcd x.length) this
      rw [show (rateL x).1 * p.2 * (lets x).gcd x.length = ((rateL x).1 * (lets x).gcd x.length) * p.2 by ac_rfl, show p.1 * (rateL x).2 * (lets x).gcd x.length = p.1 * ((rateL x).2 * (lets x).gcd x.length) by ac_rfl] at a
      unfold rateL at a
      rw [e1, e2] at a
      exact a
    exact_mod_cast k
theorem GrF.snoc {ps : List (Nat × Nat)} {r : Option (Nat × Nat)} {q : Nat × Nat} (h : GrF ps r) (hp : ∀ p ∈ ps, 0 < p.2) :
    (∀ p, r = some p → p.1 * q.2 < q.1 * p.2) → GrF (ps ++ [q]) (some q) := fun hq => by
  refine ⟨by simp, fun x hx => ?_⟩
  rcases List.mem_append.mp hx with hx | hx
  · cases r with
    | none =>
      have h : ps = [] := h
      rw [h] at hx
      cases hx
    | some p =>
      obtain ⟨h1, h2⟩ := h
      have a := h2 x hx
      have b := hq p rfl
      have p0 := hp p h1
      refine Nat.le_of_mul_le_mul_right (c := p.2) ?_ p0
      have c1 := Nat.mul_le_mul_right q.2 a
      have c2 := Nat.mul_le_mul_right x.2 (Nat.le_of_lt b)
      rw [show x.1 * q.2 * p.2 = x.1 * p.2 * q.2 by ac_rfl, show q.1 * x.2 * p.2 = q.1 * p.2 * x.2 by ac_rfl]
      rw [show p.1 * x.2 * q.2 = p.1 * q.2 * x.2 by ac_rfl] at c1
      omega
  · rw [List.mem_singleton.mp hx]
    exact Nat.le_refl _
theorem GrF.keep {ps : List (Nat × Nat)} {p q : Nat × Nat} (h : GrF ps (some p)) (hq : ¬ p.1 * q.2 < q.1 * p.2) : GrF (ps ++ [q]) (some p) := by
  obtain ⟨h1, h2⟩ := h
  refine ⟨List.mem_append_left _ h1, fun x hx => ?_⟩
  rcases List.mem_append.mp hx with hx | hx
  · exact h2 x hx
  · rw [List.mem_singleton.mp hx]
    omega
def G_isloop : List D → D → Prop := fun ds d => ∃ (u : Tn) (W : List Ed), ds = [u.d, .tup (W.map Ed.d)] ∧ RoundL u.E W ∧ W.length ≤ 1000 ∧ d = .bl true
def G_ljudge : List TK.A → Mu → (TK.A → Mu → Prop) → Prop := fun xs μ R => ∃ (u : Tn) (T B : Int) (v : TK.A), xs = [.dat u.d, .dat (.int T), .dat (.int B), v] ∧ u.Rt ∧ JRes (JR u T B) v μ R
section
variable {P : Program} {w : World} {K : PySem.W.Frag} {mg : Str → Option Value} {base : Heap}
abbrev N__law_divisor : List Str := ["one", "other"]
abbrev P__law_divisor : List Str := ["one", "other"]
theorem sc__law_divisor : FnScope N__law_divisor P__law_divisor (defScope s__law_divisor) := ⟨rfl, rfl, rfl, by decide +kernel, rfl, by decide +kernel, by decide +kernel⟩
theorem bd__law_divisor (kV doc pm : Value) (an : Option Addr) (cdv ct : Value) (us : List Value) (hl : us.length = (P__law_divisor : List Str).length) : bindArgs (PySem.W.fnOf "_law_divisor" "_law_divisor" (defArgs s__law_divisor) (defBody s__law_divisor) (defScope s__law_divisor) .none kV doc pm an cdv ct) ⟨us, []⟩ = pure ((P__law_divisor : List Str).zip us) := match us, hl with
  | [_, _], _ => rfl
theorem ok__law_divisor (T : Bl mg) (R : Raw K mg "_law_divisor" s__law_divisor) : Dn P w K mg base "_law_divisor" P__law_divisor 1 (spR G_div) := by
  refine R.dnR sc__law_divisor (fun ds d ⟨m, k, q, _⟩ => by rw [q]; rfl) (by decide) bd__law_divisor fun cdv Ao outer s H E hr => ⟨_, (pss_cons (ps_while PassesOwn.never (pt_cmpR op_gt (pv 1) pe_int (nomark _))
      (pss_one (ps_par (i := 0) (j := 1) (by rfl) sc__law_divisor.nd rfl rfl (by decide) rfl rfl (pa_cons (pv 1) (pa_cons (pe_op op_modA (pe_callTy call_int1 (by rfl) T.int bb_int (pa_cons (pv 0) pa_nil)) (pv 1)) pa_nil)) (by rfl))))
      (pss_one (ps_ret (pv 0)))), ?_⟩
  rintro ds d ⟨m, k, rfl, rfl⟩
  refine ht_cut (N := fun δ μ => δ = [some (.dat (.int ((m.gcd k : Nat) : Int))), some (.dat (.int 0))]) (ht_while (fun n δ μ => ∃ a b : Nat, n = b ∧ a.gcd b = m.gcd k ∧ δ = [some (.dat (.int (a : Int))), some (.dat (.int (b : Int)))]) k ⟨m, k, rfl, rfl, rfl⟩ ?_) ?_
  · rintro n δ1 μ1 ⟨a, b, hn, hg, rfl⟩
    refine ⟨decide ((0 : Int) < (b : Int)), et_test (e_gt (e_var rfl) e_int), fun hb => ?_, fun hb => ?_⟩
    · have hb := of_decide_eq_true hb
      refine ht_par (x := .dat (.int (b : Int))) (y := .dat (.int ((a : Int) % (b : Int)))) (ea_cons (e_var rfl) (ea_cons (e_mod (e_int1 (e_var rfl)) (e_var rfl) hb) ea_nil)) ⟨a % b, by rw [hn]; exact Nat.mod_lt _ (by omega), b, a % b, rfl, ?_, ?_⟩
      · rw [← hg, Nat.gcd_comm a b, Nat.gcd_rec b a, Nat.gcd_comm]
      · rw [← Int.natCast_emod]; rfl
    · have hb := of_decide_eq_false hb
      have : b = 0 := by omega
      subst this
      rw [Nat.gcd_zero_right] at hg
      show _ = _
      rw [← hg]
      rfl
  · rintro δ1 μ1 rfl
    exact ht_ret (e_var rfl) rfl
abbrev N__law_rate : List Str := ["way", "many", "shared", "edge"]
abbrev P__law_rate : List Str := ["way"]
theorem sc__law_rate : FnScope N__law_rate P__law_rate (defScope s__law_rate) := ⟨rfl, rfl, rfl, by decide +kernel, rfl, by decide +kernel, by decide +kernel⟩
theorem bd__law_rate (kV doc pm : Value) (an : Option Addr) (cdv ct : Value) (us : List Value) (hl : us.length = (P__law_rate : List Str).length) : bindArgs (PySem.W.fnOf "_law_rate" "_law_rate" (defArgs s__law_rate) (defBody s__law_rate) (defScope s__law_rate) .none kV doc pm an cdv ct) ⟨us, []⟩ = pure ((P__law_rate : List Str).zip us) := match us, hl with
  | [_], _ => rfl
theorem lrate_tail {W : List Ed} (hne : W ≠ []) (hl : W.length ≤ 1000) {x : TK.A} {μ : Mu} {Po' : Po} {tl : TA} (hlen : ∀ {δ : Dl}, δ[0]? = some (some x) → TK.E δ μ (tCB (rLenA K) tl) (.dat (.int (W.length : Int)))) (htl : ∀ {δ : Dl}, True) (hP : Po'.rt (.dat (frD (rateL W))) μ) :
    HT [some x, some (.dat (.int (lets W : Int))), some (.dat (.int ((lets W).gcd W.length : Nat))), none] μ (tRet (tTup (tCons (tOp (rI CDiv fun i j => .int (i / j)) (tVar 1) (tVar 2)) (tCons (tOp (rI CDiv fun i j => .int (i / j)) (tCB (rLenA K) tl) (tVar 2)) tNil)))) Po' := by
  have hpos : 0 < W.length := List.length_pos_iff.mpr hne
  have hg := gcd_posR (m := lets W) hpos
  have hgl : (lets W).gcd W.length ≤ W.length := Nat.gcd_le_right _ hpos
  refine ht_ret (e_tup (ds := [.int ((rateL W).1 : Int), .int ((rateL W).2 : Int)]) (ea_cons ((e_fdiv (e_var rfl) (e_var rfl) ⟨by omega, by omega⟩).is ?_) (ea_cons ((e_fdiv (hlen rfl) (e_var rfl) ⟨by omega, by omega⟩).is ?_) ea_nil)) (by simp)) hP
  · unfold rateL red
    rw [← Int.natCast_ediv]
  · unfold rateL red
    rw [← Int.natCast_ediv]
theorem sum_lets (W : List Ed) : ((W.map fun e => (e.w.length : Int)).sum) = (lets W : Int) := by
  unfold lets
  induction W with
  | nil => rfl
  | cons e W ih => rw [List.map_cons, List.sum_cons, List.map_cons, List.sum_cons, Int.natCast_add, ih]
theorem edsA_eq (W : List Ed) : edsA W = W.map fun e => TK.A.dat e.d := by unfold edsA; rw [List.map_map]; rfl
theorem ok__law_rate0 (T : Bl mg) (R : Raw K mg "_law_rate" s__law_rate) (d__law_divisor : Dn P w K mg base "_law_divisor" P__law_divisor 1 (spR G_div)) : Dn P w K mg base "_law_rate" P__law_rate 2 (spR G_rate_of) := by
  refine R.dnR sc__law_rate (fun ds d ⟨W, q, _⟩ => by rw [q]; rfl) (by decide) bd__law_rate fun cdv Ao outer s H E hr => ⟨_, (pss_cons (ps_set (i := 1) sc__law_rate.nd rfl (Or.inl rfl) (pe_callB (cr_sum rfl) (by rfl) T.sum bb_sum (pa_cons (pe_lc rfl sc__law_rate.nd (pi_seq (pv 0)) (blkOk_by (own := [("edge", 3)]) (N := N__law_rate) (sc := defScope s__law_rate) (by decide +kernel)) (fun _ _ _ _ _ => (pg_name (i := 3) sc__law_rate.nd rfl (Or.inl rfl))) (fun _ _ _ _ _ => pts_nil) (fun _ _ _ _ _ => (pe_callB (crK (K := K) rfl cr_len) (by rfl) T.len bb_len (pa_cons (pe_ix (ixK (K := K) rfl ix_any) (pv 3) pe_int (fun _ _ => rfl)) pa_nil)))) pa_nil)))
      (pss_cons (ps_set (i := 2) sc__law_rate.nd rfl (Or.inl rfl) (pe_def d__law_divisor hr (by decide) (by rfl) (pa_cons (pv 1) (pa_cons (pe_callB cr_len (by rfl) T.len bb_len (pa_cons (pv 0) pa_nil)) pa_nil))))
      (pss_one (ps_ret (pe_tup (pa_cons (pe_op op_fdivA (pv 1) (pv 2)) (pa_cons (pe_op op_fdivA (pe_callB cr_len (by rfl) T.len bb_len (pa_cons (pv 0) pa_nil)) (pv 2)) pa_nil))))))), ?_⟩
  rintro ds d ⟨W, rfl, hne, hl, hw, rfl⟩
  have hlen : ∀ {δ : Dl} {μ : Mu}, δ[0]? = some (some (.dat (.tup (W.map Ed.d)))) → TK.E δ μ (tCB (rLenA K) (tCons (tVar 0) tNil)) (.dat (.int (W.length : Int))) := fun h => (e_lenT (ds := W.map Ed.d) (e_var h)).is (by rw [List.length_map])
  refine ht_seq (ht_set (x := .dat (.int (lets W : Int))) ((e_sumQ (ns := W.map fun e => (e.w.length : Int)) (eq_new (en_is (en_lcGY (l := W) (q := fun e => .dat e.d) (ei_seqM (e_var rfl)).ei (by omega) (fun e => .dat (.int (e.w.length : Int))) fun e he => ?_) ?_))).is (by rw [sum_lets])) ?_)
  · exact ⟨_, _, tg_name, by simp, (e_lenT (ds := e.w.map .int) (e_ixT (e_var rfl) e_int rfl)).is (by rw [List.length_map])⟩
  · rw [List.map_map, List.map_map]
    rfl
  refine ht_seq (ht_set (x := .dat (.int ((lets W).gcd W.length : Nat))) (e_call [.int (lets W : Int), .int (W.length : Int)] (ea_cons (e_var rfl) (ea_cons (hlen rfl) ea_nil)) rfl ⟨lets W, W.length, rfl, rfl⟩) ?_)
  exact lrate_tail hne hl (fun h => hlen h) trivial rfl
theorem ok__law_rateL (T : Bl mg) (R : Raw K mg "_law_rate" s__law_rate) (d__law_divisor : Dn P w K mg base "_law_divisor" P__law_divisor 1 (spR G_div)) : Dn P w K mg base "_law_rate" P__law_rate 2 (spM G_lrateL) := by
  refine R.dnM sc__law_rate (fun ds d R ⟨a, W, q, _⟩ => by rw [q]; rfl) (by decide) bd__law_rate fun cdv Ao outer s H E hr => ⟨_, (pss_cons (ps_set (i := 1) sc__law_rate.nd rfl (Or.inl rfl) (pe_callB (cr_sum rfl) (by rfl) T.sum bb_sum (pa_cons (pe_lc rfl sc__law_rate.nd (pi_seq (pv 0)) (blkOk_by (own := [("edge", 3)]) (N := N__law_rate) (sc := defScope s__law_rate) (by decide +kernel)) (fun _ _ _ _ _ => (pg_name (i := 3) sc__law_rate.nd rfl (Or.inl rfl))) (fun _ _ _ _ _ => pts_nil) (fun _ _ _ _ _ => (pe_callB (crK (K := K) rfl cr_len) (by rfl) T.len bb_len (pa_cons (pe_ix (ixK (K := K) rfl ix_any) (pv 3) pe_int (fun _ _ => rfl)) pa_nil)))) pa_nil)))
      (pss_cons (ps_set (i := 2) sc__law_rate.nd rfl (Or.inl rfl) (pe_def d__law_divisor hr (by decide) (by rfl) (pa_cons (pv 1) (pa_cons (pe_callB cr_len (by rfl) T.len bb_len (pa_cons (pv 0) pa_nil)) pa_nil))))
      (pss_one (ps_ret (pe_tup (pa_cons (pe_op op_fdivA (pv 1) (pv 2)) (pa_cons (pe_op op_fdivA (pe_callB cr_len (by rfl) T.len bb_len (pa_cons (pv 0) pa_nil)) (pv 2)) pa_nil))))))), ?_⟩
  rintro xs μ R ⟨a, W, rfl, rfl, hne, hl, hw, rfl⟩
  have hlen : ∀ {δ : Dl}, δ[0]? = some (some (.own a)) → TK.E δ [(a, C.lst (edsA W))] (tCB (rLenA K) (tCons (tVar 0) tNil)) (.dat (.int (W.length : Int))) := fun h => (e_lenL 0 (e_var h) rfl).is (by rw [edsA_eq, List.length_map])
  refine ht_seq (ht_set (x := .dat (.int (lets W : Int))) ((e_sumQ (ns := W.map fun e => (e.w.length : Int)) (eq_new (en_is (en_lcGY (l := W) (q := fun e => .dat e.d) (ei_seqL 0 (e_var rfl) (by rw [edsA_eq]; rfl)) (by omega) (fun e => .dat (.int (e.w.length : Int))) fun e he => ?_) ?_))).is (by rw [sum_lets])) ?_)
  · exact ⟨_, _, tg_name, by simp, (e_lenT (ds := e.w.map .int) (e_ixT (e_var rfl) e_int rfl)).is (by rw [List.length_map])⟩
  · rw [List.map_map, List.map_map]
    rfl
  refine ht_seq (ht_set (x := .dat (.int ((lets W).gcd W.length : Nat))) (e_call [.int (lets W : Int), .int (W.length : Int)] (ea_cons (e_var rfl) (ea_cons (hlen rfl) ea_nil)) rfl ⟨lets W, W.length, rfl, rfl⟩) ?_)
  exact lrate_tail hne hl (fun h => hlen h) trivial ⟨rfl, rfl⟩
theorem ok__law_rate2 (d__law_rate0 : Dn P w K mg base "_law_rate" P__law_rate 2 (spR G_rate_of)) (d__law_rateL : Dn P w K mg base "_law_rate" P__law_rate 2 (spM G_lrateL)) : Dn P w K mg base "_law_rate" P__law_rate 2 (spO (spR G_rate_of) (spM G_lrateL)) := by
  exact d__law_rate0.or d__law_rateL
abbrev N__law_greatest : List Str := ["fractions", "found", "top", "bottom"]
abbrev P__law_greatest : List Str := ["fractions"]
theorem sc__law_greatest : FnScope N__law_greatest P__law_greatest (defScope s__law_greatest) := ⟨rfl, rfl, rfl, by decide +kernel, rfl, by decide +kernel, by decide +kernel⟩
theorem bd__law_greatest (kV doc pm : Value) (an : Option Addr) (cdv ct : Value) (us : List Value) (hl : us.length = (P__law_greatest : List Str).length) : bindArgs (PySem.W.fnOf "_law_greatest" "_law_greatest" (defArgs s__law_greatest) (defBody s__law_greatest) (defScope s__law_greatest) .none kV doc pm an cdv ct) ⟨us, []⟩ = pure ((P__law_greatest : List Str).zip us) := match us, hl with
  | [_], _ => rfl
theorem ok__law_greatest (T : Bl mg) (R : Raw K mg "_law_greatest" s__law_greatest) : Dn P w K mg base "_law_greatest" P__law_greatest 1 (spM G_great) := by
  refine R.dnM sc__law_greatest (fun ds d R ⟨a, ps, q, _⟩ => by rw [q]; rfl) (by decide) bd__law_greatest fun cdv Ao outer s H E hr => ⟨_, (pss_cons (ps_set (i := 1) sc__law_greatest.nd rfl (Or.inl rfl) pe_non)
      (pss_cons (ps_for PassesOwn.never rfl (pi_seq (pv 0)) (pg_tup rfl (pgs_cons (pg_name (i := 2) sc__law_greatest.nd rfl (Or.inl rfl)) (pgs_cons (pg_name (i := 3) sc__law_greatest.nd rfl (Or.inl rfl)) pgs_nil)))
      (pss_one (ps_if (PW.pt (pw_or (pt_cmpR op_isN0 (pv 1) pe_non (nomark _)) (pw_or1 (pt_cmpR op_gt (pe_op op_times (pv 2) (pe_ix ix_any (pv 1) pe_int (fun _ _ => rfl))) (pe_op op_times (pe_ix ix_any (pv 1) pe_int (fun _ _ => rfl)) (pv 3)) (nomark _))))) (pss_one (ps_set (i := 1) sc__law_greatest.nd rfl (Or.inl rfl) (pe_tup (pa_cons (pv 2) (pa_cons (pv 3) pa_nil))))) pss_nil)))
      (pss_one (ps_ret (pv 1))))), ?_⟩
  rintro xs μ R ⟨a, ps, rfl, rfl, hl, hp, rfl⟩
  refine ht_seq (ht_set e_non ?_)
  let δg : Option (Nat × Nat) → Dl := fun r => [some (.own a), some (.dat (frO r)), none, none]
  let M : Mu := [(a, C.lst ((ps.map frD).map .dat))]
  refine ht_cut (N := fun δ μ => μ = M ∧ ∃ r, GrF ps r ∧ LeD δ (δg r)) (ht_forLX (TK.E.ex (x := .own a) (e_var rfl)) fun x μ' ⟨e1, e2⟩ => ⟨a, e1, ?_⟩) ?_
  rotate_left
  · rintro δ1 μ1 ⟨rfl, r, hr, hle⟩
    exact ht_ret (e_var (hle.at_ 1 _ rfl)) ⟨r, hr, rfl, rfl⟩
  subst e1 e2
  refine ht_forL (a := a) (xs := (ps.map frD).map .dat) e_val (fun i δ μ => μ = M ∧ ∃ r, GrF (ps.take i) r ∧ LeD δ (δg r)) ⟨rfl, none, by simp [GrF], LeD.refl _⟩ (fun i δ1 μ1 ⟨e, _⟩ => ⟨0, by rw [e]; rfl⟩) ?_ ?_
  · rintro i x δ1 μ1 hx ⟨rfl, r, hr, hle⟩
    rw [List.getElem?_map, List.getElem?_map] at hx
    obtain ⟨y, hy, rfl⟩ := Option.map_eq_some_iff.mp hx
    obtain ⟨q, hq, rfl⟩ := Option.map_eq_some_iff.mp hy
    have hqm := List.mem_of_getElem? hq
    obtain ⟨q0, q1, q2⟩ := hp q hqm
    have tk : ps.take (i + 1) = ps.take i ++ [q] := by rw [List.take_succ, hq]; rfl
    have hpt : ∀ p ∈ ps.take i, 0 < p.2 := fun p h => (hp p (List.mem_of_mem_take h)).1
    refine ⟨_, _, tg_tup (ds := [.int (q.1 : Int), .int (q.2 : Int)]) (tgs_cons tg_name (tgs_cons tg_name tgs_nil)) rfl, ?_⟩
    refine HT.le (δ' := ((δg r).set 2 (some (.dat (.int (q.1 : Int))))).set 3 (some (.dat (.int (q.2 : Int))))) ?_ hle.put.put
    cases r with
    | none =>
      refine ht_if (b := true) (et_or (b := true) (c := true) (et_test ((e_isN (x := .dat .non) (e_var rfl)).is rfl)) fun h => by cases h) (fun _ => ht_set (x := .dat (frO (some q))) (e_tup (ds := [.int (q.1 : Int), .int (q.2 : Int)]) (ea_cons (e_var rfl) (ea_cons (e_var rfl) ea_nil)) (by simp)) ⟨rfl, some q, ?_, ?_⟩) fun h => by cases h
      · rw [tk]; exact hr.snoc hpt fun p z => by cases z
      · repeat (first | exact LeD.refl _ | refine led_cons (.inr rfl) ?_ | refine led_cons (.inl rfl) ?_)
    | some p =>
      obtain ⟨p0, p1, p2⟩ := hp p (List.mem_of_mem_take hr.1)
      have e1 : ((q.1 : Int) * (p.2 : Int)) = ((q.1 * p.2 : Nat) : Int) := (Int.natCast_mul _ _).symm
      have e2 : ((p.1 : Int) * (q.2 : Int)) = ((p.1 * q.2 : Nat) : Int) := (Int.natCast_mul _ _).symm
      refine ht_if (b := decide (((p.1 : Int) * (q.2 : Int)) < ((q.1 : Int) * (p.2 : Int)))) ((et_or (b := false) (et_test ((e_isN (x := .dat (frD p)) (e_var rfl)).is rfl)) fun _ => et_test (e_gt (e_timesI (e_var rfl) (e_ixT (d := .int (p.2 : Int)) (ds := [.int (p.1 : Int), .int (p.2 : Int)]) (e_var rfl) e_int rfl) (.inl ⟨by omega, by omega⟩)) (e_timesI (e_ixT (d := .int (p.1 : Int)) (ds := [.int (p.1 : Int), .int (p.2 : Int)]) (e_var rfl) e_int rfl) (e_var rfl) (.inl ⟨by omega, by omega⟩)))).is (Bool.false_or _)) (fun hb => ht_set (x := .dat (frO (some q))) (e_tup (ds := [.int (q.1 : Int), .int (q.2 : Int)]) (ea_cons (e_var rfl) (ea_cons (e_var rfl) ea_nil)) (by simp)) ⟨rfl, some q, ?_, ?_⟩) fun hb => ht_next ⟨rfl, some p, ?_, ?_⟩
      · have hb := of_decide_eq_true hb
        rw [tk]
        exact hr.snoc hpt fun p' z => by
          cases z
          rw [e1, e2] at hb
          omega
      · repeat (first | exact LeD.refl _ | refine led_cons (.inr rfl) ?_ | refine led_cons (.inl rfl) ?_)
      · have hb := of_decide_eq_false hb
        rw [tk]
        refine GrF.keep hr ?_
        rw [e1, e2] at hb
        omega
      · repeat (first | exact LeD.refl _ | refine led_cons (.inr rfl) ?_ | refine led_cons (.inl rfl) ?_)
  · rintro δ1 μ1 ⟨rfl, r, hr, hle⟩
    refine ⟨rfl, r, ?_, hle⟩
    rw [List.length_map, List.length_map, List.take_length] at hr
    exact hr
end
end T
set_option maxHeartbeats 2000000
namespace T
open PySem L2 NdefX LamX TK
variable [TC]
def G_sameT : List D → D → Prop := fun ds d => ∃ l : List D, ds = [.tup l, .tup l] ∧ l.length ≤ 1000 ∧ (∀ x ∈ l, LeafD x) ∧ d = .bl true
theorem round_at {E W : List Ed} (h : RoundL E W) {k : Nat} (hk : k < W.length) : ∃ e1 e2 : Ed, atI (W.map Ed.d) ((k : Int) - 1) = some e1.d ∧ atI (W.map Ed.d) (k : Int) = some e2.d ∧ e1.b = e2.a := by
  have e2 : W[k]? = some W[k] := List.getElem?_eq_getElem hk
  have a2 : atI (W.map Ed.d) (k : Int) = some (W[k]).d := atI_n (by rw [List.getElem?_map, e2]; rfl)
  cases k with
  | zero =>
    obtain ⟨x, hx⟩ : ∃ x, W.getLast? = some x := ⟨_, List.getLast?_eq_getLast h.ne⟩
    refine ⟨x, W[0], ?_, a2, ?_⟩
    · show atI (W.map Ed.d) (-1) = _
      exact atI_last (by rw [List.getLast?_map, hx]; rfl)
    · have c := h.cl
      unfold lastB firstA at c
      rw [hx] at c
      rw [List.head?_eq_getElem?, e2] at c
      exact c
  | succ j =>
    have e1 : W[j]? = some W[j] := List.getElem?_eq_getElem (by omega)
    refine ⟨W[j], W[j + 1], ?_, a2, h.cyc j _ _ e1 e2⟩
    rw [show (((j + 1 : Nat) : Int) - 1) = (j : Int) by omega]
    exact atI_n (by rw [List.getElem?_map, e1]; rfl)
section
variable {P : Program} {w : World} {K : PySem.W.Frag} {mg : Str → Option Value} {base : Heap}
abbrev N__law_is_loop : List Str := ["own", "value", "edge", "k"]
abbrev P__law_is_loop : List Str := ["own", "value"]
theorem sc__law_is_loop : FnScope N__law_is_loop P__law_is_loop (defScope s__law_is_loop) := ⟨rfl, rfl, rfl, by decide +kernel, rfl, by decide +kernel, by decide +kernel⟩
theorem bd__law_is_loop (kV doc pm : Value) (an : Option Addr) (cdv ct : Value) (us : List Value) (hl : us.length = (P__law_is_loop : List Str).length) : bindArgs (PySem.W.fnOf "_law_is_loop" "_law_is_loop" (defArgs s__law_is_loop) (defBody s__law_is_loop) (defScope s__law_is_loop) .none kV doc pm an cdv ct) ⟨us, []⟩ = pure ((P__law_is_loop : List Str).zip us) := match us, hl with
  | [_, _], _ => rfl
theorem ok__law_is_loop (T : Bl mg) (R : Raw K mg "_law_is_loop" s__law_is_loop) : Dn P w K mg base "_law_is_loop" P__law_is_loop 1 (spR G_isloop) := by
  refine R.dnR sc__law_is_loop (fun ds d ⟨u, W, q, _⟩ => by rw [q]; rfl) (by decide) bd__law_is_loop fun cdv Ao outer s H E hr => ⟨_, (pss_cons (ps_if (PW.pt (pw_or (pt_not (pt_val (pe_callB cr_isi (by rfl) T.isinstance bb_isinstance (pa_cons (pv 1) (pa_cons (pe_bltn (v := .ty "tuple") (by rfl) T.tuple bb_tuple rfl) pa_nil))))) (pw_or (pt_cmpR (op_eqA hr) (pv 1) (pe_tup pa_nil) (nomark _)) (pw_or1 (pt_cmpR (op_neA hr) (pe_lc rfl sc__law_is_loop.nd (pi_seq (pv 1)) (blkOk_by (own := [("edge", 2)]) (N := N__law_is_loop) (sc := defScope s__law_is_loop) (by decide +kernel)) (fun _ _ _ _ _ => (pg_name (i := 2) sc__law_is_loop.nd rfl (Or.inl rfl))) (fun _ _ _ _ _ => pts_one (pt_cmpR (opK (K := K) rfl (op_notInTD hr.units1)) (pv 2) (pe_ix (ixK (K := K) rfl ix_any) (pv 0) pe_int (fun _ _ => rfl)) (by rfl))) (fun _ _ _ _ _ => (pv 2))) (pe_lst pa_nil) (nomark _)))))) (pss_one (ps_ret pe_bl)) pss_nil)
      (pss_one (ps_ret (pe_cmpR (op_eqA hr) (pe_lc rfl sc__law_is_loop.nd (pi_range1 rfl T.range (pa_cons (pe_callB cr_len (by rfl) T.len bb_len (pa_cons (pv 1) pa_nil)) pa_nil)) (blkOk_by (own := [("k", 3)]) (N := N__law_is_loop) (sc := defScope s__law_is_loop) (by decide +kernel)) (fun _ _ _ _ _ => (pg_name (i := 3) sc__law_is_loop.nd rfl (Or.inl rfl))) (fun _ _ _ _ _ => pts_one (pt_cmpR (opK (K := K) rfl (op_neA hr)) (pe_ix (ixK (K := K) rfl ix_any) (pe_ix (ixK (K := K) rfl ix_any) (pv 1) (pe_op op_sub (pv 3) pe_int) (fun _ _ => rfl)) pe_int (fun _ _ => rfl)) (pe_ix (ixK (K := K) rfl ix_any) (pe_ix (ixK (K := K) rfl ix_any) (pv 1) (pv 3) (fun _ _ => rfl)) pe_int (fun _ _ => rfl)) (nomark _))) (fun _ _ _ _ _ => (pv 3))) (pe_lst pa_nil) (nomark _))))), ?_⟩
  rintro ds d ⟨u, W, rfl, hR, hl, rfl⟩
  have hW : W.isEmpty = false := by
    cases e : W with
    | nil => exact absurd e hR.ne
    | cons _ _ => rfl
  refine ht_seq (ht_if (b := false) (et_or (b := false) (c := false) ((et_not (et_test (e_isi (T := "tuple") (d := .tup (W.map Ed.d)) (e_var rfl) (by simp)))).is rfl) fun _ => (et_or (b := false) (c := false) (et_test ((e_eqT (ds := W.map Ed.d) (es := []) (e_var rfl) (e_tup (ds := []) ea_nil (by simp)) (shp_of (d := .tup _) plain_es dep_es) (by decide +kernel)).is (by rw [eqv_es, hW]))) fun _ => et_test ((e_neQ (ds := []) (es := []) (eq_new (en_is (en_lcG (l := W) (q := fun e => .dat e.d) (ei_seqM (e_var rfl)).ei (by omega) (fun _ => false) (fun e => .dat e.d) fun e he => ?_) ?_)) eq_nil (by decide +kernel) (by decide +kernel)).is rfl)).is rfl) (fun h => by cases h) fun _ => ht_next ?_)
  · exact ⟨_, _, tg_name, by simp, (et_test (e_ninTD (d := e.d) (ds := u.E.map Ed.d) (e_var rfl) (e_ixT (d := .tup (u.E.map Ed.d)) (e_var rfl) e_int rfl) (shp_ed e) (shp_of (d := .tup _) plain_es dep_es))).is (by rw [any_ed (hR.mem e he)]; rfl), fun h => by cases h⟩
  · congr 1
    rw [List.filter_eq_nil_iff.mpr (fun _ _ => by simp)]
    rfl
  have hlen : ∀ {δ : Dl} {μ : Mu}, δ[1]? = some (some (.dat (.tup (W.map Ed.d)))) → TK.E δ μ (tCB (rLenA K) (tCons (tVar 1) tNil)) (.dat (.int (W.length : Int))) := fun h => (e_lenT (ds := W.map Ed.d) (e_var h)).is (by rw [List.length_map])
  refine ht_ret (x := .dat (.bl true)) ((e_eqQ (ds := []) (es := []) (eq_new (en_is (en_lcR (n := (W.length : Int)) (ea_cons (hlen rfl) ea_nil) (by omega) (by omega) (fun _ => false) (fun (k : Nat) => .dat (.int (k : Int))) fun k hk => ?_) ?_)) eq_nil (by decide +kernel) (by decide +kernel)).is rfl) rfl
  · obtain ⟨e1, e2, a1, a2, e⟩ := round_at hR (k := k) (by omega)
    exact ⟨_, _, tg_name, by simp, (et_test (e_neAI (i := e1.b) (j := e2.a) (e_ixT (ds := [.int e1.a, .int e1.s, .int e1.b, wD e1.w]) (e_ixT (d := e1.d) (e_var rfl) (e_sub (e_var rfl) e_int) a1) e_int rfl) (e_ixT (ds := [.int e2.a, .int e2.s, .int e2.b, wD e2.w]) (e_ixT (d := e2.d) (e_var rfl) (e_var rfl) a2) e_int rfl))).is (by rw [e]; simp), fun h => by cases h⟩
  · congr 1
    rw [List.filter_eq_nil_iff.mpr (fun _ _ => by simp)]
    rfl
abbrev N__law_is_paper : List Str := ["own", "top", "bottom", "value", "one", "sign", "two", "word"]
abbrev P__law_is_paper : List Str := ["own", "top", "bottom", "value"]
theorem sc__law_is_paper : FnScope N__law_is_paper P__law_is_paper (defScope s__law_is_paper) := ⟨rfl, rfl, rfl, by decide +kernel, rfl, by decide +kernel, by decide +kernel⟩
theorem bd__law_is_paper (kV doc pm : Value) (an : Option Addr) (cdv ct : Value) (us : List Value) (hl : us.length = (P__law_is_paper : List Str).length) : bindArgs (PySem.W.fnOf "_law_is_paper" "_law_is_paper" (defArgs s__law_is_paper) (defBody s__law_is_paper) (defScope s__law_is_paper) .none kV doc pm an cdv ct) ⟨us, []⟩ = pure ((P__law_is_paper : List Str).zip us) := match us, hl with
  | [_, _, _, _], _ => rfl
theorem ok__law_is_paper (T : Bl mg) (R : Raw K mg "_law_is_paper" s__law_is_paper) : Dn P w K mg base "_law_is_paper" P__law_is_paper 1 (spM G_ljudge) := by
  refine R.dnM sc__law_is_paper (fun ds d R ⟨u, T, B, v, e, _⟩ => by rw [e]; rfl) (by decide) bd__law_is_paper fun cdv Ao outer s H E hr => ⟨_, (pss_cons (ps_if (PW.pt (pw_or (pt_not (pt_val (pe_callB cr_isi (by rfl) T.isinstance bb_isinstance (pa_cons (pv 3) (pa_cons (pe_bltn (v := .ty "tuple") (by rfl) T.tuple bb_tuple rfl) pa_nil))))) (pw_or1 (pt_cmpR (op_neA hr) (pe_callB cr_len (by rfl) T.len bb_len (pa_cons (pv 3) pa_nil)) (pe_ix ix_any (pv 0) pe_int (fun _ _ => rfl)) (nomark _))))) (pss_one (ps_ret pe_bl)) pss_nil)
      (pss_cons (ps_if (pt_cmpR (op_neA hr) (pe_lc rfl sc__law_is_paper.nd (pi_seq (pv 3)) (blkOk_by (own := [("one", 4)]) (N := N__law_is_paper) (sc := defScope s__law_is_paper) (by decide +kernel)) (fun _ _ _ _ _ => (pg_name (i := 4) sc__law_is_paper.nd rfl (Or.inl rfl))) (fun _ _ _ _ _ => pts_one (PW.pt (pw_or (pt_not (pt_val (pe_callB (crK (K := K) rfl cr_isi) (by rfl) T.isinstance bb_isinstance (pa_cons (pv 4) (pa_cons (pe_bltn (v := .ty "int") (by rfl) T.int bb_int rfl) pa_nil))))) (pw_or1 (pt_val (pe_callB (crK (K := K) rfl cr_isi) (by rfl) T.isinstance bb_isinstance (pa_cons (pv 4) (pa_cons (pe_bltn (v := .ty "bool") (by rfl) T.bool bb_bool rfl) pa_nil)))))))) (fun _ _ _ _ _ => (pv 4))) (pe_lst pa_nil) (nomark _)) (pss_one (ps_ret pe_bl)) pss_nil)
      (pss_one (ps_ret (pe_cmpR (op_eqA hr) (pe_lc rfl sc__law_is_paper.nd (pi_seq (pe_ix ix_any (pv 0) pe_int (fun _ _ => rfl))) (blkOk_by (own := [("one", 4), ("sign", 5), ("two", 6), ("word", 7)]) (N := N__law_is_paper) (sc := defScope s__law_is_paper) (by decide +kernel)) (fun _ _ _ _ _ => (pg_tupK (n := 4) (K := K) rfl rfl (pgs_cons (pg_name (i := 4) sc__law_is_paper.nd rfl (Or.inl rfl)) (pgs_cons (pg_name (i := 5) sc__law_is_paper.nd rfl (Or.inl rfl)) (pgs_cons (pg_name (i := 6) sc__law_is_paper.nd rfl (Or.inl rfl)) (pgs_cons (pg_name (i := 7) sc__law_is_paper.nd rfl (Or.inl rfl)) pgs_nil)))))) (fun _ _ _ _ _ => pts_one (pt_cmpR op_lt (pe_op op_sub (pe_ix (ixK (K := K) rfl ix_any) (pv 3) (pv 6) (fun _ _ => rfl)) (pe_ix (ixK (K := K) rfl ix_any) (pv 3) (pv 4) (fun _ _ => rfl))) (pe_op op_sub (pe_op (opK (K := K) rfl op_times) (pv 2) (pe_callB (crK (K := K) rfl cr_len) (by rfl) T.len bb_len (pa_cons (pv 7) pa_nil))) (pv 1)) (nomark _))) (fun _ _ _ _ _ => pe_int)) (pe_lst pa_nil) (nomark _)))))), ?_⟩
  rintro xs μ R ⟨u, T, B, v, rfl, rt, ⟨d, rfl, hd, rfl, rfl⟩ | ⟨a, ys, rfl, rfl, rfl⟩⟩
  rotate_left
  · exact ht_seq (ht_if (b := true) (et_or (b := true) (c := true) ((et_not (et_test (e_isiL (T := "tuple") 0 (e_var rfl) rfl (by simp)))).is rfl) fun h => by cases h) (fun _ => ht_ret e_bl ⟨rfl, rfl⟩) fun h => by cases h)
  have hn1 := rt.n
  have hnb := rt.nb
  have hle := rt.sz.le
  rcases hd with hd | ⟨l, rfl, hl, hleaf⟩
  · refine ht_seq (ht_if (b := true) (et_or (b := true) (c := true) ((et_not (et_test (e_isi (T := "tuple") (e_var rfl) (by simp)))).is ?_) fun h => by cases h) (fun _ => ht_ret e_bl ⟨false, rfl, ⟨(fun z => by cases z), fun ⟨val, z, _⟩ => absurd z (hd _)⟩, rfl⟩) fun h => by cases h)
    cases d with
    | tup l => exact absurd rfl (hd l)
    | _ => rfl
  refine ht_seq (ht_if (b := !decide ((l.length : Int) = u.N)) ((et_or (b := false) ((et_not (et_test (e_isi (T := "tuple") (d := .tup l) (e_var rfl) (by simp)))).is rfl) fun _ => et_test (e_neAI (e_lenT (e_var rfl)) (e_ixT (d := .int u.N) (e_var rfl) e_int rfl))).is (Bool.false_or _)) (fun hb => ht_ret e_bl ⟨false, rfl, ⟨(fun z => by cases z), fun ⟨val, z, h, _⟩ => ?_⟩, rfl⟩) fun hb => ht_next ?_)
  · have z := D.tup.inj z
    rw [z, List.length_map, h, show ((u.N.toNat : Nat) : Int) = u.N by omega] at hb
    simp at hb
  have hlN : (l.length : Int) = u.N := by simpa using hb
  refine ht_seq (ht_if (b := !(l.filter fun x => !isInt x).isEmpty) (et_test ((e_neQ (ds := l.filter fun x => !isInt x) (es := []) (eq_new (en_is (en_lcG (l := l) (q := fun x => .dat x) (ei_seqT (e_var rfl)).ei (by omega) (fun x => !isInt x) (fun x => .dat x) fun x hx => ?_) rfl)) eq_nil (shp_lv fun x hx => hleaf x (List.mem_filter.mp hx).1) (by decide +kernel)).is (by rw [eqv_nil]))) (fun hb => ht_ret e_bl ⟨false, rfl, ⟨(fun z => by cases z), fun ⟨val, z, _⟩ => ?_⟩, rfl⟩) fun hb => ht_next ?_)
  · refine ⟨_, _, tg_name, by simp, ?_, fun _ => e_var rfl⟩
    obtain ⟨h1, _⟩ := hleaf x hx
    cases x with
    | tup k => exact absurd rfl (h1 k)
    | non => exact (et_or (b := true) (c := true) ((et_not (et_test (e_isi (T := "int") (d := .non) (e_var rfl) (by simp)))).is rfl) fun h => by cases h).is rfl
    | int i => exact (et_or (b := false) (c := false) ((et_not (et_test (e_isi (T := "int") (d := .int i) (e_var rfl) (by simp)))).is rfl) fun _ => (et_test (e_isi (T := "bool") (d := .int i) (e_var rfl) (by simp))).is rfl).is rfl
    | bl i => exact (et_or (b := false) (c := true) ((et_not (et_test (e_isi (T := "int") (d := .bl i) (e_var rfl) (by simp)))).is rfl) fun _ => (et_test (e_isi (T := "bool") (d := .bl i) (e_var rfl) (by simp))).is rfl).is rfl
    | str i => exact (et_or (b := true) (c := true) ((et_not (et_test (e_isi (T := "int") (d := .str i) (e_var rfl) (by simp)))).is rfl) fun h => by cases h).is rfl
  · have z := D.tup.inj z
    have : (l.filter fun x => !isInt x) = [] := List.filter_eq_nil_iff.mpr fun x hx => by
      rw [z] at hx
      obtain ⟨i, _, rfl⟩ := List.mem_map.mp hx
      simp [isInt]
    rw [this] at hb
    cases hb
  have hb : (l.filter fun x => !isInt x) = [] := by simpa using hb
  obtain ⟨vals, rfl⟩ := all_ints (l := l) fun x hx => by
    have := List.filter_eq_nil_iff.mp hb x hx
    simpa using this
  have hvl : vals.length = u.N.toNat := by rw [List.length_map] at hlN; omega
  let bad : Ed → Bool := fun e => decide (vI vals e.b - vI vals e.a < gn T B e)
  refine ht_ret (x := .dat (.bl (u.E.filter bad).isEmpty)) ((e_eqQ (ds := ((u.E.filter bad).map fun _ => (1 : Int)).map .int) (es := []) (eq_newI (en_is (en_lcG (l := u.E) (q := fun m => .dat m.d) (ei_seqM (e_ixT (e_var rfl) e_int rfl)).ei (by omega) bad (fun _ => .dat (.int 1)) fun e he => ?_) (by simp [intsL]))) eq_nil shp_ints (by decide +kernel)).is (by rw [eqv_nil, List.isEmpty_map, List.isEmpty_map])) ⟨_, rfl, ?_, rfl⟩
  · obtain ⟨⟨a0, a1⟩, b0, b1⟩ := rt.ea e he
    refine ⟨_, _, tg_tup (ds := [.int e.a, .int e.s, .int e.b, wD e.w]) (tgs_cons tg_name (tgs_cons tg_name (tgs_cons tg_name (tgs_cons tg_name tgs_nil)))) rfl, by simp, ?_, fun _ => e_int⟩
    exact et_test (e_lt (e_sub (e_ixT (ds := vals.map .int) (e_var rfl) (e_var rfl) (vI_at b0 (by omega))) (e_ixT (ds := vals.map .int) (e_var rfl) (e_var rfl) (vI_at a0 (by omega)))) ((e_sub (e_timesI (e_var rfl) ((e_lenT (ds := e.w.map .int) (e_var rfl)).is (by rw [List.length_map])) (.inr ⟨by omega, by have := rt.sz.we e he; omega⟩)) (e_var rfl)).is rfl))
  · rw [List.isEmpty_iff, List.filter_eq_nil_iff]
    constructor
    · intro h
      exact ⟨vals, rfl, hvl, fun e he => by
        have := h e he
        simp only [bad, decide_eq_true_eq] at this
        omega⟩
    · rintro ⟨v2, e2, _, h⟩ e he z
      rw [← ints_inj e2] at h
      have := h e he
      have z := of_decide_eq_true z
      omega
theorem ok__law_sameL (T : Bl mg) (R : Raw K mg "_law_same" s__law_same) (d__law_same0 : Dn P w K mg base "_law_same" P__law_same 1 (spR G_same0)) : Dn P w K mg base "_law_same" P__law_same 2 (spR G_sameT) := by
  have d__law_same := d__law_same0
  refine R.dnR sc__law_same (fun ds d ⟨l, e, _⟩ => by rw [e]; rfl) (by decide) bd__law_same fun cdv Ao outer s H E hr => ⟨_, (pss_cons (ps_if (pt_val (pe_callB cr_isi (by rfl) T.isinstance bb_isinstance (pa_cons (pv 1) (pa_cons (pe_tup (pa_cons (pe_bltn (v := .ty "tuple") (by rfl) T.tuple bb_tuple rfl) (pa_cons (pe_bltn (v := .ty "list") (by rfl) T.list bb_list rfl) pa_nil))) pa_nil)))) (pss_cons (ps_if (PW.pt (pw_or (pt_cmpR (op_neA hr) (pe_callB cr_isi (by rfl) T.isinstance bb_isinstance (pa_cons (pv 1) (pa_cons (pe_bltn (v := .ty "tuple") (by rfl) T.tuple bb_tuple rfl) pa_nil))) (pe_callB cr_isi (by rfl) T.isinstance bb_isinstance (pa_cons (pv 0) (pa_cons (pe_bltn (v := .ty "tuple") (by rfl) T.tuple bb_tuple rfl) pa_nil))) (nomark _)) (pw_or1 (pt_cmpR (op_neA hr) (pe_callB cr_isi (by rfl) T.isinstance bb_isinstance (pa_cons (pv 1) (pa_cons (pe_bltn (v := .ty "list") (by rfl) T.list bb_list rfl) pa_nil))) (pe_callB cr_isi (by rfl) T.isinstance bb_isinstance (pa_cons (pv 0) (pa_cons (pe_bltn (v := .ty "list") (by rfl) T.list bb_list rfl) pa_nil))) (nomark _))))) (pss_one (ps_ret pe_bl)) pss_nil)
      (pss_one (ps_ret (pe_and (pe_cmpR (op_eqA hr) (pe_callB cr_len (by rfl) T.len bb_len (pa_cons (pv 0) pa_nil)) (pe_callB cr_len (by rfl) T.len bb_len (pa_cons (pv 1) pa_nil)) (nomark _)) (pe_one (pe_callB (cr_all' rfl) (by rfl) T.all bb_all (pa_cons (pe_lc rfl sc__law_same.nd (pi_range1 rfl T.range (pa_cons (pe_callB cr_len (by rfl) T.len bb_len (pa_cons (pv 1) pa_nil)) pa_nil)) (blkOk_by (own := [("k", 2)]) (N := N__law_same) (sc := defScope s__law_same) (by decide +kernel)) (fun _ _ _ _ _ => (pg_name (i := 2) sc__law_same.nd rfl (Or.inl rfl))) (fun _ _ _ _ _ => pts_nil) (fun _ _ _ _ _ => (pe_def d__law_same hr (by decide) (by rfl) (pa_cons (pe_ix (ixK (K := K) rfl ix_any) (pv 0) (pv 2) (fun _ _ => rfl)) (pa_cons (pe_ix (ixK (K := K) rfl ix_any) (pv 1) (pv 2) (fun _ _ => rfl)) pa_nil))))) pa_nil))))))) pss_nil)
      (pss_cons (ps_if (pt_cmpR op_isN0 (pv 1) pe_non (nomark _)) (pss_one (ps_ret (pe_cmpR op_isN0 (pv 0) pe_non (nomark _)))) pss_nil)
      (pss_cons (ps_if (PW.pt (pw_or (pt_val (pe_callB cr_isi (by rfl) T.isinstance bb_isinstance (pa_cons (pv 1) (pa_cons (pe_bltn (v := .ty "bool") (by rfl) T.bool bb_bool rfl) pa_nil)))) (pw_or1 (pt_val (pe_callB cr_isi (by rfl) T.isinstance bb_isinstance (pa_cons (pv 0) (pa_cons (pe_bltn (v := .ty "bool") (by rfl) T.bool bb_bool rfl) pa_nil))))))) (pss_one (ps_ret (pe_and (pe_callB cr_isi (by rfl) T.isinstance bb_isinstance (pa_cons (pv 1) (pa_cons (pe_bltn (v := .ty "bool") (by rfl) T.bool bb_bool rfl) pa_nil))) (pe_and (pe_callB cr_isi (by rfl) T.isinstance bb_isinstance (pa_cons (pv 0) (pa_cons (pe_bltn (v := .ty "bool") (by rfl) T.bool bb_bool rfl) pa_nil))) (pe_one (pe_cmpR (op_eqA hr) (pv 0) (pv 1) (nomark _))))))) pss_nil)
      (pss_one (ps_ret (pe_and (pe_cmpR (op_eqA hr) (pe_callB cr_isi (by rfl) T.isinstance bb_isinstance (pa_cons (pv 0) (pa_cons (pe_bltn (v := .ty "str") (by rfl) T.str bb_str rfl) pa_nil))) (pe_callB cr_isi (by rfl) T.isinstance bb_isinstance (pa_cons (pv 1) (pa_cons (pe_bltn (v := .ty "str") (by rfl) T.str bb_str rfl) pa_nil))) (nomark _)) (pe_and (pe_callB cr_isi (by rfl) T.isinstance bb_isinstance (pa_cons (pv 0) (pa_cons (pe_tup (pa_cons (pe_bltn (v := .ty "int") (by rfl) T.int bb_int rfl) (pa_cons (pe_bltn (v := .ty "str") (by rfl) T.str bb_str rfl) pa_nil))) pa_nil))) (pe_one (pe_cmpR (op_eqA hr) (pv 0) (pv 1) (nomark _)))))))))), ?_⟩
  rintro ds d ⟨l, rfl, hl, hx, rfl⟩
  refine ht_seq (ht_if (b := true) (et_test ((e_isi2 (d := .tup l) (e_var rfl) (by simp) (by simp)).is rfl)) (fun _ => ?_) fun h => by cases h)
  refine ht_seq (ht_if (b := false) (et_or (b := false) (c := false) (et_test ((e_neAB (i := true) (j := true) ((e_isi (d := .tup l) (e_var rfl) (by simp)).is rfl) ((e_isi (d := .tup l) (e_var rfl) (by simp)).is rfl)).is rfl)) fun _ => et_test ((e_neAB (i := false) (j := false) ((e_isi (d := .tup l) (e_var rfl) (by simp)).is rfl) ((e_isi (d := .tup l) (e_var rfl) (by simp)).is rfl)).is rfl)) (fun h => by cases h) fun _ => ht_next ?_)
  refine ht_ret (x := .dat (.bl true)) (e_andV (b := true) (c := true) ((e_eqAI (e_lenT (ds := l) (e_var rfl)) (e_lenT (ds := l) (e_var rfl))).is (by simp)) fun _ => (e_allN (bs := List.replicate l.length true) (en_is (en_lcR (n := (l.length : Int)) (ea_cons (e_lenT (ds := l) (e_var rfl)) ea_nil) (by omega) (by omega) (fun _ => true) (fun _ => .dat (.bl true)) fun i hi => ?_) ?_)).is (by simp)) rfl
  · have hi' : i < l.length := by omega
    have at_ : atI l (i : Int) = some l[i] := atI_n (List.getElem?_eq_getElem hi')
    exact ⟨_, _, tg_name, by simp, et_yes, fun _ => e_call [l[i], l[i]] (ea_cons (e_ixT (ds := l) (e_var rfl) (e_var rfl) at_) (ea_cons (e_ixT (ds := l) (e_var rfl) (e_var rfl) at_) ea_nil)) rfl ⟨_, rfl, hx _ (List.getElem_mem hi'), rfl⟩⟩
  · congr 1
    have e : (List.range l.length).filter (fun _ => true) = List.range l.length := List.filter_eq_self.mpr fun _ _ => rfl
    simp [e, List.map_const']
end
end T
set_option maxHeartbeats 2000000
namespace TK
open PySem L2 NdefX LamX
variable [TC]
section
variable {δ δ' : Dl} {μ μ' : Mu} {te ta tb tc tl td ty tx tk tv to ti : TE} {tt tu : TT} {tr ts : TA} {x y z : A} {d e : D} {b c : Bool} {g : TG} {wi : TI} {K : PySem.W.Frag} {w : World} {xs ys : List A} {a : Addr}
theorem ex_lcO {vs : List Nat} (h : E δ μ tl (.own a)) (hz : xs.length < 100000) (I : Nat → List A → Mu → Prop) (h0 : I 0 [] μ) (hl : ∀ i ys μ1, I i ys μ1 → ∃ n : Nat, μ1[n]? = some (a, .lst xs))
    (hb : ∀ (i : Nat) (x : A) (ys : List A) (μ1 : Mu), xs[i]? = some x → ys.length = i → I i ys μ1 → ∃ δ2 js, Tg (wipeD δ vs) g x δ2 js ∧ (∀ j ∈ js, j ∈ vs) ∧ EX δ2 μ1 te (fun y μ2 => I (i + 1) (ys ++ [y]) μ2)) :
    EX δ μ (tLc (iList K tl) g tYes te vs) (fun x μ' => ∃ p ys μ1, x = .own p ∧ μ' = (p, .lst ys) :: μ1 ∧ I xs.length ys μ1 ∧ ys.length = xs.length) := fun σ H s Q qq => h σ H s _ fun v H1 f1 r1 => by
  obtain ⟨n0, q0⟩ := hl 0 [] μ h0
  obtain ⟨vs0, ht0, hr0⟩ := (s.step f1).mem.lst q0
  refine ⟨a, r1, ⟨vs0, SqL.of ht0⟩, fun p hp => ⟨fun i m H' => m = xs.length - i ∧ i ≤ xs.length ∧ ∃ ys μ1 us, ys.length = i ∧ I i ys μ1 ∧ SM μ1 H' ∧ FS μ H1 μ1 H' ∧ p ∉ keys μ1 ∧ H' p = some (.lst us) ∧ RpAL H' us ys, ⟨xs.length, by simp, Nat.zero_le _, [], μ, [], rfl, h0, ?_, ?_, ?_, upd_same, .nil⟩, ?_⟩⟩
  · exact (s.mem.step f1).step (Fr.new hp nt_lst)
  · exact FS.of (Fr.new hp nt_lst)
  · intro z
    obtain ⟨x, hx, e⟩ := List.mem_map.mp z
    exact ((s.mem.step f1).own x hx).there (by rw [e]; exact hp)
  rintro i m H' ⟨rfl, hi, ys, μ1, us, hys, hI, m1, fs1, hpk, hpH, hru⟩
  obtain ⟨n, q⟩ := hl i ys μ1 hI
  obtain ⟨ws, ht, hr⟩ := m1.lst q
  by_cases hlt : i < xs.length
  · refine .inr ⟨⟨ws, ws[i]'(by rw [hr.length]; exact hlt), SqL.of ht, by simp⟩, fun H3 => i + 1 ≤ xs.length ∧ ∃ ys μ1 us, ys.length = i + 1 ∧ I (i + 1) ys μ1 ∧ SM μ1 H3 ∧ FS μ H1 μ1 H3 ∧ p ∉ keys μ1 ∧ H3 p = some (.lst us) ∧ RpAL H3 us ys, fun H3 ⟨c1, c2⟩ => ⟨xs.length - (i + 1), by omega, rfl, c1, c2⟩, fun w H2 yy => ?_⟩
    obtain ⟨e, yy⟩ := yy
    subst e
    obtain ⟨x, h3, h4⟩ := hr.getV (yy ws (SqL.of ht))
    obtain ⟨δ2, js, hg, hj, h5⟩ := hb i x ys μ1 h3 hys hI
    have s2 : SA δ μ1 σ H2 := (s.step f1).withM fs1.fr.tup m1
    refine hg μ1 _ H2 w (s2.wipe vs) h4 _ fun σ2 s3 hw => ⟨(hw vs hj).trans wipe_wipe, ?_⟩
    refine h5 σ2 H2 s3 _ fun x μ2 y H4 hI2 m4 f4 ry => ?_
    have p4 : H4 p = some (.lst us) := f4.fr.keep _ _ hpH hpk nt_lst
    have hpk2 : p ∉ keys μ2 := fun z => by
      rcases f4.new p z with q | q
      · exact hpk q
      · rw [hpH] at q; cases q
    have ru4 : RpAL H4 us ys := hru.mono f4.fr.tup
    have fw : Fr [p] H4 (upd H4 p (.lst (us ++ [y]))) := Fr.wr (by simp) p4 rfl
    refine ⟨us, p4, by rw [ru4.length, hys]; exact szt (Nat.lt_trans hlt hz), hlt, ys ++ [x], μ2, us ++ [y], by simp [hys], hI2, ?_, ?_, hpk2, upd_same, (ru4.mono fw.tup).append (.cons (ry.mono fw.tup) .nil)⟩
    · have nz : ∀ z ∈ μ2, z.1 ≠ p := fun z hz' c => hpk2 (by rw [← c]; exact List.mem_map.mpr ⟨z, hz', rfl⟩)
      refine ⟨m4.nd, fun z hz' => (m4.own z hz').keep fw.tup fun o e => (upd_ne (nz z hz')).trans e, fun z hz' ps e => m4.notbl z hz' ps ?_, fw.tabs m4.tb⟩
      rw [upd_ne (nz z hz')] at e
      exact e
    · have f5 := fs1.trans f4
      exact ⟨f5.fr.mut hp p4 rfl, f5.new⟩
  · have e : i = xs.length := by omega
    subst e
    refine .inl ⟨⟨ws, SqL.of ht, by rw [hr.length]; exact Nat.le_refl _⟩, qq (.own p) _ _ H' ⟨p, ys, μ1, rfl, rfl, hI, hys⟩ ?_ ((FS.of f1).trans ⟨fs1.fr, fun b hb => ?_⟩) rfl⟩
    · refine ⟨List.nodup_cons.mpr ⟨hpk, m1.nd⟩, fun z hz' => ?_, fun z hz' => ?_, m1.tb⟩
      · rcases List.mem_cons.mp hz' with c | c
        · rw [c]; exact ⟨us, hpH, hru⟩
        · exact m1.own z c
      · rcases List.mem_cons.mp hz' with c | c
        · rw [c]
          intro ps y
          rw [hpH] at y
          cases y
        · exact m1.notbl z c
    · rcases List.mem_cons.mp hb with c | c
      · exact .inr (c ▸ hp)
      · exact fs1.new b c
end
end TK
set_option maxHeartbeats 2000000
namespace T
open PySem L2 NdefX LamX TK
variable [TC]
def frI (p : Int × Int) : D := .tup [.int p.1, .int p.2]
section
variable {δ : Dl} {pre post : Mu} {w : Addr} {ta tb : TE} {K : PySem.W.Frag}
theorem cw_op {r : R2} {P1 P2 P3 : D → Prop} (h1 : CW δ pre post w ta P1) (h2 : CW δ pre post w tb P2) (hr : ∀ d1 d2, P1 d1 → P2 d2 → ∃ d, RV r (.dat d1) (.dat d2) (.dat d) ∧ P3 d) : CW δ pre post w (tOp r ta tb) P3 := fun c hc σ H s Q k =>
  h1 c hc σ H s _ fun x μ1 v H1 ⟨d1, c1, e1, p1, hc1, e2⟩ m1 f1 r1 => by
    subst e1 e2
    exact h2 c1 hc1 σ H1 (s.withM f1.fr.tup m1) _ fun y μ2 v2 H2 ⟨d2, c2, e3, p2, hc2, e4⟩ m2 f2 r2 => by
      subst e3 e4
      obtain ⟨d, rv, p3⟩ := hr d1 d2 p1 p2
      exact rv H2 v v2 Q (r1.mono f2.fr.tup) r2 fun u H3 f3 r3 => k (.dat d) _ u H3 ⟨d, c2, rfl, p3, hc2, rfl⟩ (m2.step f3) ((f1.trans f2).trans (FS.of f3)) r3
def pN (lo : Int) : D → Prop := fun d => ∃ r : Int, d = .int r ∧ lo ≤ r
theorem cw_plusN {lo lo' : Int} (h1 : CW δ pre post w ta (pN lo)) (h2 : CW δ pre post w tb (pN lo')) : CW δ pre post w (tOp (rPlus K) ta tb) (pN (lo + lo')) := cw_op h1 h2 fun d1 d2 ⟨i, e1, q1⟩ ⟨j, e2, q2⟩ => ⟨.int (i + j), by rw [e1, e2]; exact rv_orl (rv_int (g := fun i j => i + j)), i + j, rfl, by omega⟩
theorem cw_timesN {n : Int} (h1 : CW δ pre post w ta (pN 0)) (h2 : ∀ c, TK.E δ (pre ++ (w, c) :: post) tb (.dat (.int n))) (hn : 0 ≤ n) (hs : n < 2 ^ 64) : CW δ pre post w (tOp (rTimes K) ta tb) (pN 0) := cw_op h1 (cw_e h2) fun d1 d2 ⟨i, e1, q1⟩ e2 => ⟨.int (i * n), by rw [e1, e2]; exact rv_orl (rv_intC (g := fun i j => i * j) (.inr ⟨by omega, hs⟩)), i * n, rfl, Int.mul_nonneg q1 hn⟩
end
def G_fractions : List TK.A → Mu → (TK.A → Mu → Prop) → Prop := fun xs μ R => ∃ (w : Addr) (c : C) (r : Option (Nat × Nat)), xs = [.own w, .dat (frO r)] ∧ μ = [(w, c)] ∧ IsW c ∧ (∀ p, r = some p → 0 < p.2 ∧ p.1 < 1000000000 ∧ p.2 < 1000000000) ∧
  R = fun x μ' => ∃ (q : Addr) (ps : List (Int × Int)) (c' : C), x = .own q ∧ μ' = [(q, C.lst ((ps.map frI).map .dat)), (w, c')] ∧ IsW c' ∧ ps.length = 7 ∧ ∀ p ∈ ps, 0 ≤ p.1 ∧ 1 ≤ p.2
section
variable {P : Program} {w : World} {K : PySem.W.Frag} {mg : Str → Option Value} {base : Heap}
abbrev N__law_fractions : List Str := ["well", "due", "top", "bottom", "far", "rows"]
abbrev P__law_fractions : List Str := ["well", "due"]
theorem sc__law_fractions : FnScope N__law_fractions P__law_fractions (defScope s__law_fractions) := ⟨rfl, rfl, rfl, by decide +kernel, rfl, by decide +kernel, by decide +kernel⟩
theorem bd__law_fractions (kV doc pm : Value) (an : Option Addr) (cdv ct : Value) (us : List Value) (hl : us.length = (P__law_fractions : List Str).length) : bindArgs (PySem.W.fnOf "_law_fractions" "_law_fractions" (defArgs s__law_fractions) (defBody s__law_fractions) (defScope s__law_fractions) .none kV doc pm an cdv ct) ⟨us, []⟩ = pure ((P__law_fractions : List Str).zip us) := match us, hl with
  | [_, _], _ => rfl
theorem ok__law_fractions (T : Bl mg) (R : Raw K mg "_law_fractions" s__law_fractions) (d__law_dip : Dn P w K mg base "_law_dip" P__law_dip 1 (spM G_dip)) : Dn P w K mg base "_law_fractions" P__law_fractions 2 (spM G_fractions) := by
  refine R.dnM sc__law_fractions (fun ds d R ⟨w, c, r, e, _⟩ => by rw [e]; rfl) (by decide) bd__law_fractions fun cdv Ao outer s H E hr => ⟨_, (pss_cons (ps_asg (pe_ifExp (pt_cmpR op_isN0 (pv 1) pe_non (nomark _)) (pe_tup (pa_cons pe_int (pa_cons pe_int pa_nil))) (pv 1)) (pg_tup rfl (pgs_cons (pg_name (i := 2) sc__law_fractions.nd rfl (Or.inl rfl)) (pgs_cons (pg_name (i := 3) sc__law_fractions.nd rfl (Or.inl rfl)) pgs_nil))))
      (pss_cons (ps_set (i := 4) sc__law_fractions.nd rfl (Or.inl rfl) (pe_tup (pa_cons (pe_op op_plus (pe_op op_times (pe_def d__law_dip hr (by decide) (by rfl) (pa_cons (pv 0) (pa_cons (pe_op op_pow pe_int pe_int) pa_nil))) (pe_op op_pow pe_int pe_int)) (pe_def d__law_dip hr (by decide) (by rfl) (pa_cons (pv 0) (pa_cons (pe_op op_pow pe_int pe_int) pa_nil)))) (pa_cons (pe_op op_plus pe_int (pe_def d__law_dip hr (by decide) (by rfl) (pa_cons (pv 0) (pa_cons (pe_op op_pow pe_int pe_int) pa_nil)))) pa_nil))))
      (pss_cons (ps_set (i := 5) sc__law_fractions.nd rfl (Or.inl rfl) (pe_lst (pa_cons (pe_tup (pa_cons (pv 2) (pa_cons (pv 3) pa_nil))) (pa_cons (pe_tup (pa_cons (pe_op op_times (pv 2) pe_int) (pa_cons (pe_op op_times (pv 3) pe_int) pa_nil))) (pa_cons (pe_tup (pa_cons (pe_op op_plus (pe_op op_times (pv 2) pe_int) pe_int) (pa_cons (pe_op op_times (pv 3) pe_int) pa_nil))) (pa_cons (pe_tup (pa_cons (pe_callB (cr_max2 rfl) (by rfl) T.max bb_max (pa_cons pe_int (pa_cons (pe_op op_sub (pe_op op_times (pv 2) pe_int) pe_int) pa_nil))) (pa_cons (pe_op op_times (pv 3) pe_int) pa_nil))) (pa_cons (pe_tup (pa_cons pe_int (pa_cons pe_int pa_nil))) (pa_cons (pv 4) pa_nil))))))))
      (pss_one (ps_ret (pe_op op_plus (pv 5) (pe_lst (pa_cons (pe_tup (pa_cons (pe_def d__law_dip hr (by decide) (by rfl) (pa_cons (pv 0) (pa_cons pe_int pa_nil))) (pa_cons (pe_op op_plus pe_int (pe_def d__law_dip hr (by decide) (by rfl) (pa_cons (pv 0) (pa_cons pe_int pa_nil)))) pa_nil))) pa_nil)))))))), ?_⟩
  rintro xs μ R ⟨w', c, r, rfl, rfl, hc, hp, rfl⟩
  obtain ⟨m, k, hmk, hm, hk, hk0⟩ : ∃ m k : Nat, r.getD (1, 1) = (m, k) ∧ m < 1000000000 ∧ k < 1000000000 ∧ 0 < k := by
    cases r with
    | none => exact ⟨1, 1, rfl, by decide, by decide, by decide⟩
    | some p => exact ⟨p.1, p.2, rfl, (hp p rfl).2.1, (hp p rfl).2.2, (hp p rfl).1⟩
  refine ht_seq (ht_asg (x := .dat (.tup [.int (m : Int), .int (k : Int)])) ?_ (tg_tup (ds := [.int (m : Int), .int (k : Int)]) (tgs_cons tg_name (tgs_cons tg_name tgs_nil)) rfl) ?_)
  · cases r with
    | none =>
      cases hmk
      exact e_if (b := true) (et_test ((e_isN (x := .dat .non) (e_var rfl)).is rfl)) (fun _ => e_tup (ds := [.int 1, .int 1]) (ea_cons e_int (ea_cons e_int ea_nil)) (by simp)) fun h => by cases h
    | some p =>
      have hmk : p = (m, k) := hmk
      subst hmk
      exact e_if (b := false) (et_test ((e_isN (x := .dat (frD (m, k))) (e_var rfl)).is rfl)) (fun h => by cases h) fun _ => e_var rfl
  refine ht_seq (ht_setX ((cw_tup (cwa_cons (Pd := pN 0) (cw_plusN (lo := 0) (lo' := 0) (cw_timesN (n := 10 ^ (15 : Int).toNat) ((cw_dip (many := 10 ^ (15 : Int).toNat) (fun c => ea_cons (e_var rfl) (ea_cons (e_pow e_int e_int ⟨by decide, by decide, by decide⟩) ea_nil)) (by decide) (by decide)).imp fun d ⟨i, e, h1, _⟩ => ⟨i, e, h1⟩) (fun c => e_pow e_int e_int ⟨by decide, by decide, by decide⟩) (by decide) (by decide)) ((cw_dip (many := 10 ^ (15 : Int).toNat) (fun c => ea_cons (e_var rfl) (ea_cons (e_pow e_int e_int ⟨by decide, by decide, by decide⟩) ea_nil)) (by decide) (by decide)).imp fun d ⟨i, e, h1, _⟩ => ⟨i, e, h1⟩))
    (cwa_cons (Pd := pN 1) ((cw_1p (cw_dip (many := 10 ^ (15 : Int).toNat) (fun c => ea_cons (e_var rfl) (ea_cons (e_pow e_int e_int ⟨by decide, by decide, by decide⟩) ea_nil)) (by decide) (by decide))).imp fun d ⟨i, e, h1, _⟩ => ⟨i, e, h1⟩) cwa_nil)) (by decide) : CW _ [] [] w' _ _) c hc) fun x μ1 hx => ?_)
  obtain ⟨d, c1, rfl, ⟨ds, rfl, hds⟩, hc1, rfl⟩ := hx
  match ds, hds with
  | [d1, d2], ⟨⟨fm, e1, f1⟩, ⟨fk, e2, f2⟩, _⟩ =>
    subst e1 e2
    let ps6 : List (Int × Int) := [((m : Int), (k : Int)), ((m : Int) * 7, (k : Int) * 7), ((m : Int) * 100 + 1, (k : Int) * 100), (max 0 ((m : Int) * 100 - 1), (k : Int) * 100), (0, 1), (fm, fk)]
    refine ht_seq (ht_setN (o := .lst ((ps6.map frI).map .dat)) (en_lst (ea_cons (e_tup (ds := [.int (m : Int), .int (k : Int)]) (ea_cons (e_var rfl) (ea_cons (e_var rfl) ea_nil)) (by simp)) (ea_cons (e_tup (ds := [.int ((m : Int) * 7), .int ((k : Int) * 7)]) (ea_cons (e_timesI (e_var rfl) e_int (.inr (by decide))) (ea_cons (e_timesI (e_var rfl) e_int (.inr (by decide))) ea_nil)) (by simp))
      (ea_cons (e_tup (ds := [.int ((m : Int) * 100 + 1), .int ((k : Int) * 100)]) (ea_cons (e_plusI (e_timesI (e_var rfl) e_int (.inr (by decide))) e_int) (ea_cons (e_timesI (e_var rfl) e_int (.inr (by decide))) ea_nil)) (by simp)) (ea_cons (e_tup (ds := [.int (max 0 ((m : Int) * 100 - 1)), .int ((k : Int) * 100)]) (ea_cons (e_max2 e_int (e_sub (e_timesI (e_var rfl) e_int (.inr (by decide))) e_int)) (ea_cons (e_timesI (e_var rfl) e_int (.inr (by decide))) ea_nil)) (by simp))
      (ea_cons (e_tup (ds := [.int 0, .int 1]) (ea_cons e_int (ea_cons e_int ea_nil)) (by simp)) (ea_cons (e_var rfl) ea_nil)))))) (by simp [ps6])) fun rw' => ?_)
    refine ht_retS (ex_catX (R := fun y μ1 => ∃ (p : Addr) (g1 g2 : Int) (c2 : C), 0 ≤ g1 ∧ 1 ≤ g2 ∧ IsW c2 ∧ y = .own p ∧ μ1 = [(p, C.lst [.dat (frI (g1, g2))]), (rw', C.lst ((ps6.map frI).map .dat)), (w', c2)]) (S := fun x μ' => ∃ (q : Addr) (ps : List (Int × Int)) (c' : C) (ρ : Mu), x = .own q ∧ μ' = (q, C.lst ((ps.map frI).map .dat)) :: ρ ∧ List.Sublist [(w', c')] ρ ∧ IsW c' ∧ ps.length = 7 ∧ ∀ p ∈ ps, 0 ≤ p.1 ∧ 1 ≤ p.2) (a := rw') (e_var rfl) (EX.mono (ex_lst ((cwa_cons (cw_tup (cwa_cons (Pd := pN 0) ((cw_dip (many := 7) (fun c => ea_cons (e_var rfl) (ea_cons e_int ea_nil)) (by decide) (by decide)).imp fun d ⟨i, e, h1, _⟩ => ⟨i, e, h1⟩) (cwa_cons (Pd := pN 1) ((cw_1p (cw_dip (many := 4) (fun c => ea_cons (e_var rfl) (ea_cons e_int ea_nil)) (by decide) (by decide))).imp fun d ⟨i, e, h1, _⟩ => ⟨i, e, h1⟩) cwa_nil)) (by decide)) cwa_nil : CWA _ [(rw', C.lst ((ps6.map frI).map .dat))] [] w' _ _) c1 hc1) fun xs μ' ⟨ds, c2, e1, p1, _⟩ => by rw [e1, List.length_map, p1.len]; decide) ?_) ?_) fun x μ' hx => ?_
    · rintro x μ' ⟨p, xs, μ4, ⟨ds, c2, rfl, p1, hc2, rfl⟩, rfl, rfl⟩
      match ds, p1 with
      | [d], ⟨⟨es, ed, p2⟩, _⟩ =>
        match es, p2 with
        | [a1, a2], ⟨⟨g1, e1, h1⟩, ⟨g2, e2, h2⟩, _⟩ =>
          subst e1 e2 ed
          exact ⟨p, g1, g2, c2, h1, h2, hc2, rfl, rfl⟩
    · rintro y μ1 ⟨p, g1, g2, c2, h1, h2, hc2, rfl, rfl⟩
      refine ⟨1, 0, p, (ps6.map frI).map .dat, [.dat (frI (g1, g2))], rfl, rfl, rfl, by simp [ps6], fun l => ⟨l, ps6 ++ [(g1, g2)], c2, [(p, C.lst [.dat (frI (g1, g2))]), (rw', C.lst ((ps6.map frI).map .dat)), (w', c2)], rfl, ?_, .cons _ (.cons _ (List.Sublist.refl _)), hc2, by simp [ps6], fun q hq => ?_⟩⟩
      · rw [List.map_append, List.map_append]
        rfl
      · simp only [ps6, List.cons_append, List.nil_append, List.mem_cons, List.not_mem_nil, or_false] at hq
        rcases hq with rfl | rfl | rfl | rfl | rfl | rfl | rfl
        · exact ⟨by show (0 : Int) ≤ (m : Int); omega, by show (1 : Int) ≤ (k : Int); omega⟩
        · exact ⟨by show (0 : Int) ≤ (m : Int) * 7; omega, by show (1 : Int) ≤ (k : Int) * 7; omega⟩
        · exact ⟨by show (0 : Int) ≤ (m : Int) * 100 + 1; omega, by show (1 : Int) ≤ (k : Int) * 100; omega⟩
        · exact ⟨by show (0 : Int) ≤ max 0 ((m : Int) * 100 - 1); omega, by show (1 : Int) ≤ (k : Int) * 100; omega⟩
        · exact ⟨by decide, by decide⟩
        · exact ⟨f1, f2⟩
        · exact ⟨h1, h2⟩
    · obtain ⟨q, ps, c', ρ, rfl, rfl, h1, h2, h3, h4⟩ := hx
      exact ⟨_, ⟨q, ps, c', rfl, rfl, h2, h3, h4⟩, .cons₂ _ h1⟩
end
end T
set_option maxHeartbeats 2000000
namespace TK
open PySem L2 NdefX LamX
variable [TC]
section
variable {δ δ' : Dl} {μ μ' : Mu} {te ta tb : TE} {tr ts : TA} {x y z : A} {d e : D} {xs ys : List A}
theorem ex_callK2D {n m : Nat} {G : List A → Mu → (A → Mu → Prop) → Prop} {R : A → Mu → Prop} (h : EA δ μ tr xs) (hk : EA δ μ ts ys) (h1 : xs.length = n) (h2 : ys.length = m) (hG : G (xs ++ ys) [] R) : EX δ μ (tCallK (spM G) (kjV n m) E0 tr ts) fun x μ' => ∃ ν', R x ν' ∧ μ' = ν' ++ μ := fun σ H s Q k =>
  h σ H s _ fun vs H1 f1 r1 => hk σ H1 (s.step f1) _ fun zs H2 f2 r2 => by
    have q1 : RpAL H2 vs xs := r1.mono f2.tup
    have l1 : vs.length = n := q1.length.trans h1
    have l2 : zs.length = m := r2.length.trans h2
    have s2 := (s.step f1).step f2
    unfold kjV
    rw [if_pos ⟨l1, l2⟩]
    refine ⟨xs ++ ys, [], R, rpal_app q1 r2, s2.mem.sub (List.nil_sublist _), hG, fun x ν' v H3 h0 m3 f3 r3 => ?_⟩
    have m4 := s2.mem.frame (ν := []) (fun a h => by cases h) f3 m3
    have e : (μ.filter fun p => decide (p.1 ∉ keys ([] : Mu))) = μ := List.filter_eq_self.mpr fun p _ => by simp [keys]
    rw [e] at m4
    refine k x _ v H3 ⟨ν', h0, rfl⟩ m4 (((FS.of f1).trans (FS.of f2)).trans ⟨f3.fr.weak (fun a h => by cases h), fun a ha => ?_⟩) r3
    unfold keys at ha
    rw [List.map_append] at ha
    rcases List.mem_append.mp ha with q | q
    · rcases f3.new a q with z | z
      · cases z
      · exact .inr z
    · exact .inl q
end
end TK
set_option maxHeartbeats 4000000
namespace T
open PySem L2 NdefX LamX TK
variable [TC]
def pI (lo hi : Int) : D → Prop := fun d => ∃ r : Int, d = .int r ∧ lo ≤ r ∧ r ≤ hi
theorem jr_noAbove {u : Tn} {T B : Int} {d : D} (h : JR u T B d) : ¬ aboveN u.E T B := by
  obtain ⟨vals, _, _, h⟩ := h
  exact fix_noAbove (h := vI vals) fun e he => by have := h e he; omega
def cbB (r : Option (Nat × Nat)) (T B : Int) : Bool := match r with
  | none => true
  | some p => decide ((p.1 : Int) * B ≤ T * (p.2 : Int))
theorem cb_iff {u : Tn} {r : Option (Nat × Nat)} {T B : Int} (rt : u.Rt) (hd : IsDue u.E u.N.toNat r) (hB : 0 ≤ B) : cbB r T B = true ↔ ¬ aboveN u.E T B := by
  rw [can_be rt.ea' hd hB]
  cases r with
  | none => exact ⟨(fun _ p z => by cases z), fun _ => rfl⟩
  | some p =>
    unfold cbB
    rw [decide_eq_true_iff]
    exact ⟨(fun h q z => by cases z; exact h), fun h => h p rfl⟩
def Lf (x : D) : Prop := (∀ k, x ≠ .tup k) ∧ x.py.canLay0 = true
theorem lf_int (i : Int) : Lf (.int i) := ⟨(fun k z => by cases z), rfl⟩
theorem lf_non : Lf .non := ⟨(fun k z => by cases z), rfl⟩
theorem lf_bl (b : Bool) : Lf (.bl b) := ⟨(fun k z => by cases z), rfl⟩
theorem lf_ints {val : List Int} : ∀ x ∈ val.map D.int, Lf x := fun x hx => by
  obtain ⟨r, _, rfl⟩ := List.mem_map.mp hx
  exact lf_int r
theorem leafT_tup {l : List D} (h1 : l.length ≤ 1000) (h2 : ∀ x ∈ l, Lf x) : LeafT (.tup l) := .inr ⟨l, rfl, h1, h2⟩
theorem leafT_lf {d : D} (h : Lf d) : LeafT d := .inl h.1
def BV (a2 : Addr) (y : TK.A) : Prop := y = .own a2 ∨ ∃ d, y = .dat d ∧ LeafT d
theorem BV.d {a2 : Addr} {d : D} (h : LeafT d) : BV a2 (.dat d) := .inr ⟨d, rfl, h⟩
theorem same_fr {p : Nat × Nat} : G_sameT [frD p, frD p] (.bl true) := ⟨[.int (p.1 : Int), .int (p.2 : Int)], rfl, by simp, fun x hx => by
  simp only [List.mem_cons, List.not_mem_nil, or_false] at hx
  rcases hx with rfl | rfl <;> exact .inr (.inl ⟨_, rfl⟩), rfl⟩
theorem rate_small {W : List Ed} (h : 0 < W.length) (hl : W.length ≤ 1000) (hw : ∀ e ∈ W, e.w.length ≤ 1000) : 0 < (rateL W).2 ∧ (rateL W).1 < 1000000000 ∧ (rateL W).2 < 1000000000 := by
  have a := lets_le hw
  have b : 1000 * W.length ≤ 1000 * 1000 := Nat.mul_le_mul_left _ hl
  have c1 : (rateL W).1 ≤ lets W := Nat.div_le_self _ _
  have c2 : (rateL W).2 ≤ W.length := Nat.div_le_self _ _
  exact ⟨red_pos h, by omega, by omega⟩
section
variable {P : Program} {w : World} {K : PySem.W.Frag} {mg : Str → Option Value} {base : Heap}
theorem ok__law_same2 (d__law_same0 : Dn P w K mg base "_law_same" P__law_same 1 (spR G_same0)) (d__law_sameL : Dn P w K mg base "_law_same" P__law_same 2 (spR G_sameT)) : Dn P w K mg base "_law_same" P__law_same 2 (spO (spR G_same0) (spR G_sameT)) := by
  exact (d__law_same0.up (by decide)).or d__law_sameL
theorem bk_rate_paper (kV doc pm : Value) (an : Option Addr) (cdv ct : Value) (us ws : List Value) (h1 : us.length = 2) (h2 : ws.length = 1) : bindArgs (PySem.W.fnOf "rate_paper" "rate_paper" (defArgs s_rate_paper) (defBody s_rate_paper) (defScope s_rate_paper) .none kV doc pm an cdv ct) ⟨us, (["bottom"] : List Str).zip ws⟩ = pure ((P_rate_paper : List Str).zip (us ++ ws)) := match us, ws, h1, h2 with
  | [_, _], [_], _, _ => rfl
def G_law (K : PySem.W.Frag) : List TK.A → Mu → (TK.A → Mu → Prop) → Prop := fun xs μ R => ∃ (a : Addr) (ns : List Int), xs = [.own a] ∧ SC K μ a ns ∧ R = fun x _ => x = .dat (.bl true)
abbrev N_law : List Str := ["script", "at", "well", "turner", "own", "due", "told", "top", "bottom", "paper", "can_be", "base", "k", "values", "one", "value", "way", "place"]
abbrev P_law : List Str := ["script"]
theorem sc_law : FnScope N_law P_law (defScope s_law) := ⟨rfl, rfl, rfl, by decide +kernel, rfl, by decide +kernel, by decide +kernel⟩
theorem bd_law (kV doc pm : Value) (an : Option Addr) (cdv ct : Value) (us : List Value) (hl : us.length = (P_law : List Str).length) : bindArgs (PySem.W.fnOf "law" "law" (defArgs s_law) (defBody s_law) (defScope s_law) .none kV doc pm an cdv ct) ⟨us, []⟩ = pure ((P_law : List Str).zip us) := match us, hl with
  | [_], _ => rfl
theorem ok_law {f : Addr} {fd : FuncData} (T : Bl mg) (F : FunD K "law" "law" (defArgs s_law) (defBody s_law) (defScope s_law) [] [] f fd) (R_rate_paper : Raw K mg "rate_paper" s_rate_paper) (d__law_well : Dn P w K mg base "_law_well" P__law_well 1 (spM (G_well K))) (d__law_dip : Dn P w K mg base "_law_dip" P__law_dip 1 (spM G_dip)) (d__law_turner : Dn P w K mg base "_law_turner" P__law_turner 3 (spM G_lturner))
    (d__law_trimmed : Dn P w K mg base "_law_trimmed" P__law_trimmed 1 (spR G_ltrim)) (d__law_loops : Dn P w K mg base "_law_loops" P__law_loops 1 (spM G_loops)) (d__law_rate : Dn P w K mg base "_law_rate" P__law_rate 2 (spO (spR G_rate_of) (spM G_lrateL))) (d__law_greatest : Dn P w K mg base "_law_greatest" P__law_greatest 1 (spM G_great)) (d_fastest_loop : Dn P w K mg base "fastest_loop" P_fastest_loop 10 (spM G_fastest))
    (d__law_same : Dn P w K mg base "_law_same" P__law_same 2 (spO (spR G_same0) (spR G_sameT))) (d_rate : Dn P w K mg base "rate" P_rate 10 (spR G_rate)) (d__law_is_loop : Dn P w K mg base "_law_is_loop" P__law_is_loop 1 (spR G_isloop)) (d__law_fractions : Dn P w K mg base "_law_fractions" P__law_fractions 2 (spM G_fractions))
    (d_rate_paper : Dn P w K mg base "rate_paper" P_rate_paper 10 (spM G_rpaper)) (d__law_is_paper : Dn P w K mg base "_law_is_paper" P__law_is_paper 1 (spM G_ljudge)) (d_shows_rate : Dn P w K mg base "shows_rate" P_shows_rate 10 (spM G_shows)) : FnOk P w K mg base CX0 12 f fd P_law (spM (G_law K)) := by
  refine FunD.okM F sc_law (fun ds d R ⟨a, ns, e, _⟩ => by rw [e]; rfl) (by decide) fun cdv Ao outer s H E hr => ⟨_, (pss_cons (ps_for PassesOwn.never rfl (pi_range1 rfl T.range (pa_cons (pe_callB (cr_max2 rfl) (by rfl) T.max bb_max (pa_cons pe_int (pa_cons (pe_callB (cr_min2 rfl) (by rfl) T.min bb_min (pa_cons pe_int (pa_cons (pe_callB cr_len (by rfl) T.len bb_len (pa_cons (pv 0) pa_nil)) pa_nil))) pa_nil))) pa_nil)) (pg_name (i := 1) sc_law.nd rfl (Or.inl rfl))
      (pss_cons (ps_set (i := 2) sc_law.nd rfl (Or.inr rfl) (pe_def d__law_well hr (by decide) (by rfl) (pa_cons (pv 0) (pa_cons (pv 1) pa_nil))))
      (pss_cons (ps_set (i := 3) sc_law.nd rfl (Or.inl rfl) (pe_def d__law_turner hr (by decide) (by rfl) (pa_cons (pv 2) (pa_cons (pe_op op_plus pe_int (pe_def d__law_dip hr (by decide) (by rfl) (pa_cons (pv 2) (pa_cons pe_int pa_nil)))) (pa_cons (pe_op op_plus pe_int (pe_def d__law_dip hr (by decide) (by rfl) (pa_cons (pv 2) (pa_cons pe_int pa_nil)))) (pa_cons (pe_op op_plus pe_int (pe_def d__law_dip hr (by decide) (by rfl) (pa_cons (pv 2) (pa_cons pe_int pa_nil)))) (pa_cons pe_int (pa_cons pe_int pa_nil))))))))
      (pss_cons (ps_set (i := 4) sc_law.nd rfl (Or.inl rfl) (pe_def d__law_trimmed hr (by decide) (by rfl) (pa_cons (pv 3) pa_nil)))
      (pss_cons (ps_par (i := 5) (j := 6) (by rfl) sc_law.nd rfl rfl (by decide) rfl rfl (pa_cons (pe_def d__law_greatest hr (by decide) (by rfl) (pa_cons (pe_lc rfl sc_law.nd (pi_seq (pe_def d__law_loops hr (by decide) (by rfl) (pa_cons (pv 4) pa_nil))) (blkOk_by (own := [("way", 16)]) (N := N_law) (sc := defScope s_law) (by decide +kernel)) (fun _ _ _ _ _ => (pg_name (i := 16) sc_law.nd rfl (Or.inl rfl))) (fun _ _ _ _ _ => pts_nil) (fun _ _ _ _ _ => (pe_def d__law_rate hr (by decide) (by rfl) (pa_cons (pv 16) pa_nil)))) pa_nil)) (pa_cons (pe_def d_fastest_loop hr (by decide) (by rfl) (pa_cons (pv 3) pa_nil)) pa_nil)) (by rfl))
      (pss_cons (ps_if (PW.pt (pw_or (pt_not (pt_val (pe_def d__law_same hr (by decide) (by rfl) (pa_cons (pe_def d_rate hr (by decide) (by rfl) (pa_cons (pv 3) pa_nil)) (pa_cons (pv 5) pa_nil))))) (pw_or1 (pt_cmpR (op_neA hr) (pe_cmpR op_isN0 (pv 6) pe_non (nomark _)) (pe_cmpR op_isN0 (pv 5) pe_non (nomark _)) (nomark _))))) (pss_one (ps_ret pe_bl)) pss_nil)
      (pss_cons (ps_if (PW.pt (pw_and (pt_cmpR op_notN0 (pv 6) pe_non (nomark _)) (pw_and1 (PW.pt (pw_or (pt_not (pt_val (pe_def d__law_is_loop hr (by decide) (by rfl) (pa_cons (pv 4) (pa_cons (pv 6) pa_nil))))) (pw_or1 (pt_not (pt_val (pe_def d__law_same hr (by decide) (by rfl) (pa_cons (pe_def d__law_rate hr (by decide) (by rfl) (pa_cons (pv 6) pa_nil)) (pa_cons (pv 5) pa_nil))))))))))) (pss_one (ps_ret pe_bl)) pss_nil)
      (pss_one (ps_for PassesOwn.never rfl (pi_seq (pe_def d__law_fractions hr (by decide) (by rfl) (pa_cons (pv 2) (pa_cons (pv 5) pa_nil)))) (pg_tup rfl (pgs_cons (pg_name (i := 7) sc_law.nd rfl (Or.inl rfl)) (pgs_cons (pg_name (i := 8) sc_law.nd rfl (Or.inl rfl)) pgs_nil)))
      (pss_cons (ps_par (i := 9) (j := 10) (by rfl) sc_law.nd rfl rfl (by decide) rfl rfl (pa_cons (pe_defK2 (ks := ["bottom"]) (n := 2) (m := 1) d_rate_paper R_rate_paper hr (by decide) (by rfl) (by decide) bk_rate_paper (pa_cons (pv 3) (pa_cons (pv 7) pa_nil)) (pk_cons (pv 8) pk_nil)) (pa_cons (pe_or (pe_cmpR op_isN0 (pv 5) pe_non (nomark _)) (pe_one (pe_cmpR op_le (pe_op op_times (pe_ix ix_any (pv 5) pe_int (fun _ _ => rfl)) (pv 8)) (pe_op op_times (pv 7) (pe_ix ix_any (pv 5) pe_int (fun _ _ => rfl))) (nomark _)))) pa_nil)) (by rfl))
      (pss_cons (ps_if (PW.pt (pw_or (pt_cmpR (op_neA hr) (pe_cmpR op_notN0 (pv 9) pe_non (nomark _)) (pv 10) (nomark _)) (pw_or1 (PW.pt (pw_and (pt_val (pv 10)) (pw_and1 (pt_not (pt_val (pe_def d__law_is_paper hr (by decide) (by rfl) (pa_cons (pv 4) (pa_cons (pv 7) (pa_cons (pv 8) (pa_cons (pv 9) pa_nil))))))))))))) (pss_one (ps_ret pe_bl)) pss_nil)
      (pss_cons (ps_set (i := 11) sc_law.nd rfl (Or.inl rfl) (pe_ifExp (pt_val (pv 10)) (pv 9) (pe_callTy call_tupleOf (by rfl) T.tuple bb_tuple (pa_cons (pe_lc rfl sc_law.nd (pi_range1 rfl T.range (pa_cons (pe_ix ix_any (pv 4) pe_int (fun _ _ => rfl)) pa_nil)) (blkOk_by (own := [("place", 17)]) (N := N_law) (sc := defScope s_law) (by decide +kernel)) (fun _ _ _ _ _ => (pg_name (i := 17) sc_law.nd rfl (Or.inl rfl))) (fun _ _ _ _ _ => pts_nil) (fun _ _ _ _ _ => (pe_op op_sub (pe_def d__law_dip hr (by decide) (by rfl) (pa_cons (pv 2) (pa_cons pe_int pa_nil))) pe_int))) pa_nil))))
      (pss_cons (ps_par (i := 12) (j := 13) (by rfl) sc_law.nd rfl rfl (by decide) rfl rfl (pa_cons (pe_def d__law_dip hr (by decide) (by rfl) (pa_cons (pv 2) (pa_cons (pe_ix ix_any (pv 4) pe_int (fun _ _ => rfl)) pa_nil))) (pa_cons (pe_lst (pa_cons (pv 11) (pa_cons (pe_callTy (cr_lst rfl) (by rfl) T.list bb_list (pa_cons (pv 11) pa_nil)) (pa_cons (pe_op op_plus (pv 11) (pe_tup (pa_cons pe_int pa_nil))) (pa_cons (pe_slice sl_any (pv 11) (po_some pe_int) po_none) (pa_cons pe_non (pa_cons (pe_op op_timesV (pe_tup (pa_cons pe_int pa_nil)) (pe_ix ix_any (pv 4) pe_int (fun _ _ => rfl))) (pa_cons (pe_revA (K := K) rfl (pv 11)) (pa_cons pe_str (pa_cons (pe_op op_timesV (pe_tup (pa_cons pe_non pa_nil)) (pe_ix ix_any (pv 4) pe_int (fun _ _ => rfl))) pa_nil)))))))))) pa_nil)) (by rfl))
      (pss_cons (ps_for PassesOwn.never rfl (pi_seq (pe_lst (pa_cons (pe_op op_plus (pe_ix ix_any (pv 11) (pv 12) (fun _ _ => rfl)) pe_int) (pa_cons (pe_op op_sub (pe_ix ix_any (pv 11) (pv 12) (fun _ _ => rfl)) pe_int) (pa_cons (pe_op op_plus (pe_ix ix_any (pv 11) (pv 12) (fun _ _ => rfl)) (pv 8)) (pa_cons (pe_op op_sub (pe_ix ix_any (pv 11) (pv 12) (fun _ _ => rfl)) (pe_op op_pow pe_int pe_int)) (pa_cons pe_non (pa_cons pe_bl (pa_cons (pe_un un_neg (pe_ix ix_any (pv 11) (pv 12) (fun _ _ => rfl))) pa_nil))))))))) (pg_name (i := 14) sc_law.nd rfl (Or.inl rfl))
      (pss_one (ps_expr (pe_bm PySem.F.plainAttrs_list PySem.F.slot_list_append PySem.F.type_list_append mt_append (pv 13) (pa_cons (pe_op op_plus (pe_op op_plus (pe_slice sl_any (pv 11) po_none (po_some (pv 12))) (pe_tup (pa_cons (pv 14) pa_nil))) (pe_slice sl_any (pv 11) (po_some (pe_op op_plus (pv 12) pe_int)) po_none)) pa_nil)))))
      (pss_one (ps_for PassesOwn.never rfl (pi_seq (pv 13)) (pg_name (i := 15) sc_law.nd rfl (Or.inl rfl))
      (pss_one (ps_if (pt_not (pt_val (pe_def d__law_same hr (by decide) (by rfl) (pa_cons (pe_def d_shows_rate hr (by decide) (by rfl) (pa_cons (pv 3) (pa_cons (pv 7) (pa_cons (pv 8) (pa_cons (pv 15) pa_nil))))) (pa_cons (pe_def d__law_is_paper hr (by decide) (by rfl) (pa_cons (pv 4) (pa_cons (pv 7) (pa_cons (pv 8) (pa_cons (pv 15) pa_nil))))) pa_nil))))) (pss_one (ps_ret pe_bl)) pss_nil))))))))))))))))))
      (pss_one (ps_ret pe_bl))), ?_⟩
  have il : ∀ vs H Q E, spR G_same0 vs H Q E → spO (spR G_same0) (spR G_sameT) vs H Q E := fun _ _ _ _ h => .inl h
  have ir : ∀ vs H Q E, spR G_sameT vs H Q E → spO (spR G_same0) (spR G_sameT) vs H Q E := fun _ _ _ _ h => .inr h
  have jl : ∀ vs H Q E, spR G_rate_of vs H Q E → spO (spR G_rate_of) (spM G_lrateL) vs H Q E := fun _ _ _ _ h => .inl h
  have jr : ∀ vs H Q E, spM G_lrateL vs H Q E → spO (spR G_rate_of) (spM G_lrateL) vs H Q E := fun _ _ _ _ h => .inr h
  have i1 : ∀ vs H Q E, spM G_ljudge vs H Q E → spM G_ljudge vs H Q E := fun _ _ _ _ h => h
  have i2 : ∀ vs H Q E, spM G_shows vs H Q E → spM G_shows vs H Q E := fun _ _ _ _ h => h
  rintro xs μ R ⟨a, ns, rfl, sc, rfl⟩
  let δ0 : Dl := [some (.own a), none, none, none, none, none, none, none, none, none, none, none, none, none, none, none, none, none]
  refine ht_cut (N := fun _ _ => True) (ht_forR (n := max 2 (min 6 (ns.length : Int))) (ea_cons (e_max2 e_int (e_min2 e_int (e_lenS (e_var rfl) sc))) ea_nil) (by omega) (by omega) (fun i δ1 μ1 => μ1 = μ ∧ LeD δ1 δ0) ⟨rfl, LeD.refl _⟩ ?_ fun _ _ _ => trivial) fun _ _ _ => ht_ret e_bl rfl
  rintro i δ1 μ1 hi ⟨e, hle⟩
  subst e
  refine ⟨_, _, tg_name, ?_⟩
  refine HT.le (δ' := δ0.set 1 (some (.dat (.int (i : Int))))) ?_ hle.put
  refine HT.fgt ?_
  refine ht_seq (ht_setX (R := fun x μ' => ∃ (w' : Addr) (c : C), x = .own w' ∧ IsW c ∧ μ' = (w', c) :: μ1) (ex_callX (ea_cons (e_var rfl) (ea_cons (e_var rfl) ea_nil)).ex ?_) ?_)
  · rintro xs μ2 ⟨rfl, rfl⟩
    refine ⟨μ2, [], _, by simp, ⟨a, (i : Int), ns, rfl, by omega, by omega, sc, rfl⟩, ?_⟩
    rintro x ν' ⟨w', c, rfl, hc, rfl⟩
    exact ⟨_, by simp, w', c, rfl, hc, rfl⟩
  rintro x μ2 ⟨w', c, rfl, hc, rfl⟩
  refine ht_seq (ht_setX (R := fun x μ' => ∃ (t : Tn) (c' : C), t.Ok ∧ t.Few4 ∧ x = .dat t.d ∧ IsW c' ∧ μ' = (w', c') :: μ1)
    (ex_callX (exa_cons (TK.E.ex (x := .own w') (e_var rfl)) (S := fun _ _ ys μ'' => ∃ (ds : List D) (c' : C), ys = ds.map .dat ∧ Pl [pI 1 3, pI 1 3, pI 1 4, fun d => d = .int 8, fun d => d = .int 3] ds ∧ IsW c' ∧ μ'' = [] ++ (w', c') :: μ1) fun x μ' ⟨e1, e2⟩ => ?_) ?_) ?_)
  · subst e1 e2
    exact (cwa_cons (cw_1p (cw_dip (many := 3) (fun c => ea_cons (e_var rfl) (ea_cons e_int ea_nil)) (by decide) (by decide))) (cwa_cons (cw_1p (cw_dip (many := 3) (fun c => ea_cons (e_var rfl) (ea_cons e_int ea_nil)) (by decide) (by decide))) (cwa_cons (cw_1p (cw_dip (many := 4) (fun c => ea_cons (e_var rfl) (ea_cons e_int ea_nil)) (by decide) (by decide))) (cwa_cons (cw_e fun c => e_int) (cwa_cons (cw_e fun c => e_int) cwa_nil)))) : CWA _ [] μ1 w' _ _) c hc
  · rintro xs μ2 ⟨x, ys, μ3, rfl, ⟨rfl, rfl⟩, ds, c', rfl, hp, hc', rfl⟩
    match ds, hp with
    | [d1, d2, d3, d4, d5], ⟨⟨S, e1, s1, s2⟩, ⟨L, e2, l1, l2⟩, ⟨N, e3, n1, n2⟩, e4, e5, _⟩ =>
      subst e1 e2 e3 e4 e5
      refine ⟨[(w', c')], μ1, _, .refl _, ⟨w', c', S, L, N, 8, 3, rfl, rfl, hc', s1, by omega, l1, by omega, n1, by omega, by decide, by decide, by decide, by decide, rfl⟩, ?_⟩
      rintro x ν' ⟨t, c2, ok, ⟨rfl, rfl, rfl, hE, hB, hF⟩, rfl, hc2, rfl⟩
      exact ⟨_, .refl _, t, c2, ok, ⟨n2, by omega, by omega, by omega⟩, rfl, hc2, rfl⟩
  rintro x μ2 ⟨t, c1, ok, few, rfl, hc1, rfl⟩
  have rt := ok.rt
  have hn1 := rt.n
  have hk := good_len ok (lKept_good ok)
  have hn4 : t.tr.N ≤ 4 := by
    have := few.n
    have : t.tr.N = max 1 ((lKept t).length : Int) := rfl
    omega
  have hE8 : t.tr.E.length ≤ 8 := Nat.le_trans keptE_len few.e
  have hEl : ∀ {W : List Ed}, (∀ e ∈ W, e ∈ t.tr.E) → ∀ e ∈ W, e.w.length ≤ 1000 := fun h e he => rt.sz.we e (h e he)
  refine ht_seq (ht_set (x := .dat t.tr.d) (e_call [t.d] (ea_cons (e_var rfl) ea_nil) rfl ⟨t, rfl, ok, few.few, rfl⟩) ?_)
  refine ht_seq (ht_parX (R := fun xs μ' => ∃ (r : Option (Nat × Nat)) (F : Option (List Ed)), xs = [.dat (frO r), .dat (wO F)] ∧ IsDue t.tr.E t.tr.N.toNat r ∧ IsBest t.tr.E t.tr.N.toNat F ∧ (∀ p, r = some p → 0 < p.2 ∧ p.1 < 1000000000 ∧ p.2 < 1000000000) ∧ List.Sublist ((w', c1) :: μ1) μ')
    (EXA.mono (exa_XX (R := fun x μ' => ∃ r : Option (Nat × Nat), x = .dat (frO r) ∧ IsDue t.tr.E t.tr.N.toNat r ∧ (∀ p, r = some p → 0 < p.2 ∧ p.1 < 1000000000 ∧ p.2 < 1000000000) ∧ List.Sublist ((w', c1) :: μ1) μ') (S := fun _ μ3 y μ' => ∃ F, y = .dat (wO F) ∧ IsBest t.tr.E t.tr.N.toNat F ∧ μ' = μ3)
      (ex_callX (exa_cons (R := fun x μ' => ∃ (q : Addr) (Fs : Ways) (M : Mu), x = .own q ∧ Fs.map (·.2) = foundN t.tr.E t.tr.N.toNat ∧ Fs.length < 100000 ∧ List.Sublist ((w', c1) :: μ1) M ∧ μ' = (q, C.lst (((Fs.map fun p => rateL p.2).map frD).map .dat)) :: M) (S := fun _ μ3 ys μ' => ys = [] ∧ μ' = μ3) (ex_lcLX (R := fun x μ' => ∃ (f : Addr) (W Fs : Ways), x = .own f ∧ (∀ p ∈ Fs, p ∈ W) ∧ Fs.map (·.2) = foundN t.tr.E t.tr.N.toNat ∧ μ' = (f, C.lst (owns Fs)) :: (waysM W ++ (w', c1) :: μ1)) (ex_callX (ea_cons (e_var rfl) ea_nil).ex ?_) ?_) fun x μ' _ => exa_nil) ?_) fun x μ' hx => ?_) ?_) fun xs μ2 hx => ?_)
  · rintro xs μ2 ⟨rfl, rfl⟩
    refine ⟨[], (w', c1) :: μ1, _, .refl _, ⟨t.tr, rfl, rfl, by omega, hn4, hE8, rfl⟩, ?_⟩
    rintro x ν' ⟨f, W, Fs, rfl, h1, h2, rfl⟩
    exact ⟨_, .refl _, f, W, Fs, rfl, h1, h2, rfl⟩
  · rintro x μ' ⟨f, W, Fs, rfl, h1, h2, rfl⟩
    have fl : (foundN t.tr.E t.tr.N.toNat).length ≤ 4 * 4096 := Nat.le_trans (found_len t.tr.E 4096 t.tr.N.toNat fun k hk => Nat.le_trans (latest_len t.tr.E k) (Nat.le_trans (Nat.pow_le_pow_left hE8 _) (Nat.le_trans (Nat.pow_le_pow_right (by decide) (show k + 1 ≤ 4 by omega)) (by decide)))) (Nat.mul_le_mul_right _ (by omega))
    have fsl : Fs.length ≤ 4 * 4096 := by rw [← List.length_map (f := (·.2)), h2]; exact fl
    refine ⟨f, rfl, EX.mono (ex_lcO (a := f) (xs := owns Fs) e_val (by unfold owns; rw [List.length_map]; omega) (fun i ys μ2 => μ2 = (f, C.lst (owns Fs)) :: (waysM W ++ (w', c1) :: μ1) ∧ ys = (((Fs.take i).map fun p => rateL p.2).map frD).map .dat) ⟨rfl, rfl⟩ (fun i ys μ2 ⟨e, _⟩ => ⟨0, by rw [e]; rfl⟩) ?_) ?_⟩
    · rintro j x ys μ2 hx hlen ⟨rfl, rfl⟩
      unfold owns at hx
      rw [List.getElem?_map] at hx
      obtain ⟨p, hp, rfl⟩ := Option.map_eq_some_iff.mp hx
      have hpm := List.mem_of_getElem? hp
      have hf : p.2 ∈ foundN t.tr.E t.tr.N.toNat := by rw [← h2]; exact List.mem_map.mpr ⟨p, hpm, rfl⟩
      obtain ⟨hwy, hwl, _⟩ := found_wy hf
      obtain ⟨A1, A2, eW⟩ := List.append_of_mem (h1 p hpm)
      refine ⟨_, _, tg_name, by simp, EX.mono (ex_callXS (T := fun x μ' => x = .dat (frD (rateL p.2)) ∧ μ' = (f, C.lst (owns Fs)) :: (waysM W ++ (w', c1) :: μ1)) jr (ea_cons (e_var rfl) ea_nil).ex ?_) ?_⟩
      · rintro xs μ2 ⟨rfl, rfl⟩
        have pm : ((f, C.lst (owns Fs)) :: (waysM W ++ (w', c1) :: μ1)).Perm ([(p.1, C.lst (edsA p.2))] ++ ((f, C.lst (owns Fs)) :: (waysM A1 ++ (waysM A2 ++ (w', c1) :: μ1)))) := by
          rw [eW]
          unfold waysM
          rw [List.map_append, List.map_cons, List.append_assoc, List.cons_append]
          exact (List.Perm.cons _ List.perm_middle).trans (List.Perm.swap _ _ _)
        refine ⟨[(p.1, C.lst (edsA p.2))], _, _, pm, ⟨p.1, p.2, rfl, rfl, hwy.ne, by omega, hEl hwy.mem, rfl⟩, ?_⟩
        rintro x ν' ⟨rfl, rfl⟩
        exact ⟨_, pm.symm, rfl, rfl⟩
      · rintro x μ' ⟨rfl, rfl⟩
        refine ⟨rfl, ?_⟩
        rw [List.take_succ, hp, List.map_append, List.map_append, List.map_append]
        rfl
    · rintro x μ' ⟨q, ys, μ2, rfl, rfl, ⟨rfl, rfl⟩, hlen⟩
      refine ⟨q, Fs, (f, C.lst (owns Fs)) :: (waysM W ++ (w', c1) :: μ1), rfl, h2, by omega, .cons _ (List.sublist_append_right _ _), ?_⟩
      rw [List.take_of_length_le (by unfold owns; rw [List.length_map]; exact Nat.le_refl _)]
  · rintro xs μ2 ⟨x, ys, μ3, rfl, ⟨q, Fs, M, rfl, h2, hfl, hs, rfl⟩, rfl, rfl⟩
    have e2 : (Fs.map fun p => rateL p.2) = (foundN t.tr.E t.tr.N.toNat).map rateL := by rw [← h2, List.map_map]; rfl
    rw [e2]
    have sm : ∀ p ∈ (foundN t.tr.E t.tr.N.toNat).map rateL, 0 < p.2 ∧ p.1 < 1000000000 ∧ p.2 < 1000000000 := fun p hp => by
      obtain ⟨W, hW, rfl⟩ := List.mem_map.mp hp
      obtain ⟨hwy, hwl, _⟩ := found_wy hW
      exact rate_small (found_ne hW) (by omega) (hEl hwy.mem)
    refine ⟨[(q, C.lst ((((foundN t.tr.E t.tr.N.toNat).map rateL).map frD).map .dat))], M, _, .refl _, ⟨q, _, rfl, rfl, by rw [List.length_map, ← h2, List.length_map]; exact hfl, sm, rfl⟩, ?_⟩
    rintro x ν' ⟨r, hr, rfl, rfl⟩
    refine ⟨_, .refl _, r, rfl, hr.due, fun p z => ?_, .cons _ hs⟩
    cases z
    exact sm _ hr.1
  · refine EX.mono (ex_callD (ea_cons (e_var rfl) ea_nil) ⟨t, rfl, rfl, ok, rfl⟩) ?_
    rintro y μ4 ⟨ν, ⟨rfl, F, hF, rfl⟩, rfl⟩
    exact ⟨F, rfl, hF, rfl⟩
  · rintro xs μ' ⟨x, y, μ3, rfl, ⟨r, rfl, h1, h2, h3⟩, F, rfl, h4, rfl⟩
    exact ⟨r, F, rfl, h1, h4, h2, h3⟩
  obtain ⟨r, F, rfl, hdue, hF, hsm, hsub⟩ := hx
  refine ⟨_, _, rfl, ?_⟩
  refine HT.sub (μ' := (w', c1) :: μ1) ?_ hsub
  have hbd := best_due rt.ea' hF hdue
  have rate_ok : IsRate t r := hdue
  generalize hu : t.tr = u at rt hn1 hn4 hE8 hEl hdue hF hbd
  refine ht_seq (ht_if (b := false) ?_ (fun h => by cases h) fun _ => ht_next ?_)
  · rcases hbd with ⟨rfl, rfl⟩ | ⟨W, rfl, rfl⟩
    · exact (et_or (b := false) (c := false) ((et_not (et_test (e_callS il [.non, .non] (ea_cons (e_call [t.d] (ea_cons (e_var rfl) ea_nil) rfl ⟨t, none, rfl, ok, rate_ok, rfl⟩) (ea_cons (e_var rfl) ea_nil)) rfl ⟨.non, rfl, .inl rfl, rfl⟩))).is rfl) fun _ => et_test ((e_neAB (i := true) (j := true) ((e_isN (x := .dat .non) (e_var rfl)).is rfl) ((e_isN (x := .dat .non) (e_var rfl)).is rfl)).is rfl)).is rfl
    · exact (et_or (b := false) (c := false) ((et_not (et_test (e_callS ir [frD (rateL W), frD (rateL W)] (ea_cons (e_call [t.d] (ea_cons (e_var rfl) ea_nil) rfl ⟨t, some (rateL W), rfl, ok, rate_ok, rfl⟩) (ea_cons (e_var rfl) ea_nil)) rfl same_fr))).is rfl) fun _ => et_test ((e_neAB (i := false) (j := false) ((e_isN (x := .dat (.tup (W.map Ed.d))) (e_var rfl)).is rfl) ((e_isN (x := .dat (frD (rateL W))) (e_var rfl)).is rfl)).is rfl)).is rfl
  refine ht_seq (ht_if (b := false) ?_ (fun h => by cases h) fun _ => ht_next ?_)
  · rcases hbd with ⟨rfl, rfl⟩ | ⟨W, rfl, rfl⟩
    · exact (et_and (b := false) (c := false) (et_test ((e_notN (x := .dat .non) (e_var rfl)).is rfl)) fun h => by cases h).is rfl
    · obtain ⟨hR, hWl, _⟩ := hF
      exact (et_and (b := true) (c := false) (et_test ((e_notN (x := .dat (.tup (W.map Ed.d))) (e_var rfl)).is rfl)) fun _ => (et_or (b := false) (c := false) ((et_not (et_test (e_call [u.d, .tup (W.map Ed.d)] (ea_cons (e_var rfl) (ea_cons (e_var rfl) ea_nil)) rfl ⟨u, W, rfl, hR, by omega, rfl⟩))).is rfl) fun _ => (et_not (et_test (e_callS ir [frD (rateL W), frD (rateL W)] (ea_cons (e_callS jl [.tup (W.map Ed.d)] (ea_cons (e_var rfl) ea_nil) rfl ⟨W, rfl, hR.ne, by omega, hEl hR.mem, rfl⟩) (ea_cons (e_var rfl) ea_nil)) rfl same_fr))).is rfl).is rfl).is rfl
  let δ7 : Dl := [some (.own a), some (.dat (.int (i : Int))), some (.own w'), some (.dat t.d), some (.dat u.d), some (.dat (frO r)), some (.dat (wO F)), none, none, none, none, none, none, none, none, none, none, none]
  refine ht_forLX (R := fun x μ' => ∃ (q : Addr) (ps : List (Int × Int)) (c2 : C), x = .own q ∧ IsW c2 ∧ (∀ p ∈ ps, 0 ≤ p.1 ∧ 1 ≤ p.2) ∧ μ' = (q, C.lst ((ps.map frI).map .dat)) :: (w', c2) :: μ1) (ex_callX (ea_cons (e_var rfl) (ea_cons (e_var rfl) ea_nil)).ex ?_) fun x μ2 hx => ?_
  · rintro xs μ2 ⟨rfl, rfl⟩
    refine ⟨[(w', c1)], μ1, _, .refl _, ⟨w', c1, r, rfl, rfl, hc1, hsm, rfl⟩, ?_⟩
    rintro x ν' ⟨q, ps, c', rfl, rfl, h1, h2, h3⟩
    exact ⟨_, .refl _, q, ps, c', rfl, h1, h3, rfl⟩
  obtain ⟨q, ps, c2, rfl, hc2, hps, rfl⟩ := hx
  refine ⟨q, rfl, ?_⟩
  refine ht_forL (a := q) (xs := (ps.map frI).map .dat) e_val (fun j δ μ => ∃ c3, IsW c3 ∧ μ = (q, C.lst ((ps.map frI).map .dat)) :: (w', c3) :: μ1 ∧ LeD δ δ7) ⟨c2, hc2, rfl, LeD.refl _⟩ (fun j δ2 μ2 ⟨c3, _, e, _⟩ => ⟨0, by rw [e]; rfl⟩) ?_ ?_
  rotate_left
  · rintro δ2 μ2 ⟨c3, hc3, rfl, hle2⟩
    refine ⟨μ1, ⟨rfl, hle2.trans ?_⟩, .cons _ (.cons _ (List.Sublist.refl _))⟩
    repeat (first | exact LeD.refl _ | refine led_cons (.inr rfl) ?_ | refine led_cons (.inl rfl) ?_)
  rintro j x δ2 μ2 hx ⟨c3, hc3, rfl, hle2⟩
  obtain ⟨d, hd, rfl⟩ := List.mem_map.mp (List.mem_of_getElem? hx)
  obtain ⟨⟨T0, B0⟩, hp, rfl⟩ := List.mem_map.mp hd
  obtain ⟨hT, hB⟩ := hps _ hp
  have hT : 0 ≤ T0 := hT
  have hB : 1 ≤ B0 := hB
  refine ⟨_, _, tg_tup (ds := [.int T0, .int B0]) (tgs_cons tg_name (tgs_cons tg_name tgs_nil)) rfl, ?_⟩
  refine HT.le (δ' := (δ7.set 7 (some (.dat (.int T0)))).set 8 (some (.dat (.int B0)))) ?_ hle2.put.put
  refine HT.fgt ?_
  have hcb := cb_iff (T := T0) (B := B0) rt hdue (by omega)
  let Q : TK.A × Unit → Mu := fun _ => []
  refine ht_seq (ht_parX (R := fun xs μ' => ∃ d : D, xs = [.dat d, .dat (.bl (cbB r T0 B0))] ∧ μ' = (q, C.lst ((ps.map frI).map .dat)) :: (w', c3) :: μ1 ∧ (cbB r T0 B0 = false → d = .non) ∧ (cbB r T0 B0 = true → ∃ vals : List Int, d = .tup (vals.map .int) ∧ JR u T0 B0 (.tup (vals.map .int))))
    (EXA.mono (exa_XX (R := fun x μ' => μ' = (q, C.lst ((ps.map frI).map .dat)) :: (w', c3) :: μ1 ∧ ((x = .dat .non ∧ aboveN u.E T0 B0) ∨ ∃ vals : List Int, x = .dat (.tup (vals.map .int)) ∧ JR u T0 B0 (.tup (vals.map .int)))) (S := fun _ μ3 y μ' => y = .dat (.bl (cbB r T0 B0)) ∧ μ' = μ3) (EX.mono (ex_callK2D (ea_cons (e_var rfl) (ea_cons (e_var rfl) ea_nil)) (ea_cons (e_var rfl) ea_nil) rfl rfl ⟨t, T0, B0, rfl, rfl, ok, hT, hB, rfl⟩) ?_) fun x μ' hx => TK.E.ex ?_) ?_) fun xs μ2 hx => ?_)
  · rintro x μ' ⟨ν, ⟨rfl, h⟩, rfl⟩
    rw [hu] at h
    exact ⟨rfl, h⟩
  · cases r with
    | none => exact e_orV (b := true) (c := false) ((e_isN (x := .dat .non) (e_var rfl)).is rfl) fun h => by cases h
    | some p =>
      obtain ⟨p0, p1, p2⟩ := hsm p rfl
      exact (e_orV (b := false) ((e_isN (x := .dat (frD p)) (e_var rfl)).is rfl) fun _ => e_le (e_timesI (e_ixT (d := .int (p.1 : Int)) (ds := [.int (p.1 : Int), .int (p.2 : Int)]) (e_var rfl) e_int rfl) (e_var rfl) (.inl ⟨by omega, by omega⟩)) (e_timesI (e_var rfl) (e_ixT (d := .int (p.2 : Int)) (ds := [.int (p.1 : Int), .int (p.2 : Int)]) (e_var rfl) e_int rfl) (.inr ⟨by omega, by omega⟩))).is (by rw [Bool.false_or]; rfl)
  · rintro xs μ' ⟨x, y, μ3, rfl, ⟨rfl, h⟩, rfl, rfl⟩
    rcases h with ⟨rfl, h⟩ | ⟨vals, rfl, h⟩
    · have e : cbB r T0 B0 = false := by rw [Bool.eq_false_iff]; exact fun z => hcb.mp z h
      exact ⟨.non, rfl, rfl, (fun _ => rfl), fun z => by rw [e] at z; cases z⟩
    · have e : cbB r T0 B0 = true := hcb.mpr (jr_noAbove h)
      exact ⟨_, rfl, rfl, (fun z => by rw [e] at z; cases z), fun _ => ⟨vals, rfl, h⟩⟩
  obtain ⟨pd, rfl, rfl, hp0, hp1⟩ := hx
  refine ⟨_, _, rfl, ?_⟩
  clear hcb
  generalize cbB r T0 B0 = cb at hp0 hp1 ⊢
  refine ht_seq (ht_if (b := false) ?_ (fun h => by cases h) fun _ => ht_next ?_)
  · cases cb with
    | false =>
      obtain rfl := hp0 rfl
      exact (et_or (b := false) (c := false) (et_test ((e_neAB (i := false) (j := false) ((e_notN (x := .dat .non) (e_var rfl)).is rfl) (e_var rfl)).is rfl)) fun _ => (et_and (b := false) (c := false) (et_test (e_var rfl)) fun h => by cases h).is rfl).is rfl
    | true =>
      obtain ⟨vals, rfl, hj⟩ := hp1 rfl
      have hj2 := hj
      obtain ⟨v0, e0, hvl, _⟩ := hj2
      have hv0 := ints_inj e0
      exact (et_or (b := false) (c := false) (et_test ((e_neAB (i := true) (j := true) ((e_notN (x := .dat (.tup (vals.map .int))) (e_var rfl)).is rfl) (e_var rfl)).is rfl)) fun _ => (et_and (b := true) (c := false) (et_test (e_var rfl)) fun _ => (et_not (et_test (e_callM (y := .dat (.bl true)) i1 (ea_cons (e_var rfl) (ea_cons (e_var rfl) (ea_cons (e_var rfl) (ea_cons (e_var rfl) ea_nil)))) ⟨u, T0, B0, .dat (.tup (vals.map .int)), rfl, rt, .inl ⟨_, rfl, leafT_tup (by rw [List.length_map, hv0]; omega) lf_ints, rfl, rfl⟩⟩ (by
        rintro x ν' ⟨b, rfl, hb, rfl⟩
        have : b = true := hb.mpr hj
        rw [this]
        exact ⟨rfl, rfl⟩)))).is rfl).is rfl).is rfl
  refine ht_seq (ht_setX (R := fun x μ' => ∃ (vals : List Int) (c4 : C), x = .dat (.tup (vals.map .int)) ∧ vals.length = u.N.toNat ∧ IsW c4 ∧ μ' = (q, C.lst ((ps.map frI).map .dat)) :: (w', c4) :: μ1) ?_ fun x μ' hx => ?_)
  · cases cb with
    | true =>
      obtain ⟨vals, rfl, v0, e0, hvl, _⟩ := hp1 rfl
      have hv0 := ints_inj e0
      exact ex_if (b := true) (et_test (e_var rfl)) (fun _ => (TK.E.ex (x := .dat (.tup (vals.map .int))) (e_var rfl)).mono fun x μ' ⟨e1, e2⟩ => ⟨vals, c3, e1, by rw [hv0]; exact hvl, hc3, e2⟩) fun h => by cases h
    | false =>
      refine ex_if (b := false) (et_test (e_var rfl)) (fun h => by cases h) fun _ => ?_
      refine ex_tupleX (R := fun x μ' => ∃ (z : Addr) (v : List Int) (c4 : C), x = .own z ∧ μ' = (z, C.lst ((v.map D.int).map .dat)) :: (q, C.lst ((ps.map frI).map .dat)) :: (w', c4) :: μ1 ∧ v.length = u.N.toNat ∧ IsW c4) (EX.mono (ex_lcE (l := List.range u.N.toNat) (q := fun (i : Nat) => .dat (.int (i : Int))) (ei_rng (n := u.N) (ea_cons (e_ixT (d := .int u.N) (e_var rfl) e_int rfl) ea_nil) (by omega) (by omega)) (by simp; omega) (fun ys μ3 => ∃ (v : List Int) (c4 : C), ys = (v.map D.int).map .dat ∧ IsW c4 ∧ μ3 = (q, C.lst ((ps.map frI).map .dat)) :: (w', c4) :: μ1) ⟨[], c3, rfl, hc3, rfl⟩ ?_) ?_) ?_
      · rintro i d ys μ3 hi hy ⟨v, c4, rfl, q5, rfl⟩
        refine ⟨_, _, tg_name, by simp, EX.mono ((cw_op (P3 := fun d => ∃ i : Int, d = .int i) (cw_dip (pre := [(q, C.lst ((ps.map frI).map .dat))]) (post := μ1) (w := w') (many := 9) (fun c => ea_cons (e_var rfl) (ea_cons e_int ea_nil)) (by decide) (by decide)) (cw_e (d := .int 4) fun c => e_int) fun d1 d2 ⟨i, e1, _⟩ e2 => ⟨.int (i - 4), by rw [e1, e2]; exact rv_int (g := fun i j => i - j), i - 4, rfl⟩) c4 q5) ?_⟩
        rintro x μ2 ⟨d, c5, rfl, ⟨z, rfl⟩, hc5, rfl⟩
        exact ⟨v ++ [z], c5, by simp, hc5, rfl⟩
      · rintro x μ2 ⟨z, ys, μ3, rfl, rfl, ⟨v, c4, rfl, q5, rfl⟩, hlen⟩
        exact ⟨z, v, c4, rfl, rfl, by simpa using hlen, q5⟩
      · rintro x μ' ⟨z, v, c4, rfl, rfl, hl, hc4⟩
        exact ⟨z, v.map D.int, _, rfl, rfl, v, c4, rfl, hl, hc4, rfl⟩
  obtain ⟨vals, c4, rfl, hvl, hc4, rfl⟩ := hx
  have hml : (vals.map D.int).length = vals.length := List.length_map ..
  let rest : List D := [.tup (vals.map .int ++ [.int 0]), .tup (cutL (vals.map .int) (some 1) none), .non, .tup (List.replicate u.N.toNat (.int 0)), .tup (vals.map .int).reverse, .str "0", .tup (List.replicate u.N.toNat .non)]
  have hrest : ∀ d ∈ rest, LeafT d := fun d hd => by
    simp only [rest, List.mem_cons, List.not_mem_nil, or_false] at hd
    rcases hd with rfl | rfl | rfl | rfl | rfl | rfl | rfl
    · refine leafT_tup (by simp; omega) fun x hx => ?_
      rcases List.mem_append.mp hx with h | h
      · exact lf_ints x h
      · rw [List.mem_singleton.mp h]; exact lf_int 0
    · exact leafT_tup (by have := cut_len (l := vals.map D.int) (lo := some 1) (hi := none); omega) fun x hx => lf_ints x (cut_sub hx)
    · exact .inl fun l z => by cases z
    · exact leafT_tup (by simp; omega) fun x hx => by rw [(List.mem_replicate.mp hx).2]; exact lf_int 0
    · exact leafT_tup (by simp; omega) fun x hx => lf_ints x (List.mem_reverse.mp hx)
    · exact .inl fun l z => by cases z
    · exact leafT_tup (by simp; omega) fun x hx => by rw [(List.mem_replicate.mp hx).2]; exact lf_non
  refine ht_seq (ht_parX (R := fun xs μ' => ∃ (k : Int) (vp a2 : Addr) (c5 : C), xs = [.dat (.int k), .own vp] ∧ 0 ≤ k ∧ k < u.N ∧ IsW c5 ∧ μ' = (vp, C.lst (.dat (.tup (vals.map .int)) :: .own a2 :: rest.map .dat)) :: (a2, C.lst ((vals.map D.int).map .dat)) :: (q, C.lst ((ps.map frI).map .dat)) :: (w', c5) :: μ1)
    (EXA.mono (exa_XX (R := fun x μ' => ∃ (k : Int) (c5 : C), x = .dat (.int k) ∧ 0 ≤ k ∧ k < u.N ∧ IsW c5 ∧ μ' = (q, C.lst ((ps.map frI).map .dat)) :: (w', c5) :: μ1) (S := fun _ μ3 y μ' => ∃ (vp a2 : Addr), y = .own vp ∧ μ' = (vp, C.lst (.dat (.tup (vals.map .int)) :: .own a2 :: rest.map .dat)) :: (a2, C.lst ((vals.map D.int).map .dat)) :: μ3) (EX.mono ((cw_dip (pre := [(q, C.lst ((ps.map frI).map .dat))]) (post := μ1) (w := w') (many := u.N) (fun c => ea_cons (e_var rfl) (ea_cons (e_ixT (d := .int u.N) (e_var rfl) e_int rfl) ea_nil)) hn1 (by omega)) c4 hc4) ?_) fun x μ' hx => ?_) ?_) fun xs μ2 hx => ?_)
  · rintro x μ' ⟨d, c5, rfl, ⟨k, rfl, h0, h1⟩, hc5, rfl⟩
    exact ⟨k, c5, rfl, h0, h1, hc5, rfl⟩
  · refine EX.mono (ex_lst (exa_cons (R := fun x μ2 => x = .dat (.tup (vals.map .int)) ∧ μ2 = μ') (S := fun _ _ ys μ2 => ∃ a2, ys = .own a2 :: rest.map .dat ∧ μ2 = (a2, C.lst ((vals.map D.int).map .dat)) :: μ') (TK.E.ex (e_var rfl)) fun x μ2 ⟨e1, e2⟩ => ?_) fun xs μ2 ⟨x, ys, μ3, e1, _, a2, e2, _⟩ => by rw [e1, e2]; simp [rest]) ?_
    · subst e1 e2
      refine EXA.mono (exa_cons (R := fun x μ3 => ∃ a2, x = .own a2 ∧ μ3 = (a2, C.lst ((vals.map D.int).map .dat)) :: μ2) (S := fun _ μ1 ys μ' => ys = rest.map .dat ∧ μ' = μ1) (TK.EN.ex (en_lstT (ds := vals.map D.int) (e_var rfl))) fun x μ3 hx => ?_) ?_
      · exact (ea_cons (e_plusT (e_var rfl) (e_tup (ds := [.int 0]) (ea_cons e_int ea_nil) (by simp)) (by simp; omega)) (ea_cons (e_slT (e_var rfl) (eo_some e_int) eo_none) (ea_cons e_non (ea_cons ((e_timesV (e_tup (ds := [.int 0]) (ea_cons e_int ea_nil) (by simp)) (e_ixT (d := .int u.N) (e_var rfl) e_int rfl) (by omega) (by omega)).is rfl) (ea_cons (e_revA (e_var rfl)) (ea_cons e_str
          (ea_cons ((e_timesV (e_tup (ds := [.non]) (ea_cons e_non ea_nil) (by simp)) (e_ixT (d := .int u.N) (e_var rfl) e_int rfl) (by omega) (by omega)).is rfl) ea_nil))))))).ex
      · rintro xs μ3 ⟨x, ys, μ4, rfl, ⟨a2, rfl, rfl⟩, rfl, rfl⟩
        exact ⟨a2, rfl, rfl⟩
    · rintro x μ2 ⟨p, xs, μ3, ⟨x1, ys, μ4, rfl, ⟨rfl, _⟩, a2, rfl, rfl⟩, rfl, rfl⟩
      exact ⟨p, a2, rfl, rfl⟩
  · rintro xs μ' ⟨x, y, μ3, rfl, ⟨k, c5, rfl, h0, h1, h2, rfl⟩, vp, a2, rfl, rfl⟩
    exact ⟨k, vp, a2, c5, rfl, h0, h1, h2, rfl⟩
  obtain ⟨k, vp, a2, c5, rfl, hk0, hk1, hc5, rfl⟩ := hx
  refine ⟨_, _, rfl, ?_⟩
  have hk : atI (vals.map D.int) k = some (.int (vI vals k)) := vI_at hk0 (by omega)
  let zs : List TK.A := (vals.map D.int).map .dat
  let M9 : List TK.A → Mu := fun ys => (vp, C.lst ys) :: (a2, C.lst zs) :: (q, C.lst ((ps.map frI).map .dat)) :: (w', c5) :: μ1
  let δ9 : Dl := [some (.own a), some (.dat (.int (i : Int))), some (.own w'), some (.dat t.d), some (.dat u.d), some (.dat (frO r)), some (.dat (wO F)), some (.dat (.int T0)), some (.dat (.int B0)), some (.dat pd), some (.dat (.bl cb)), some (.dat (.tup (vals.map .int))), some (.dat (.int k)), some (.own vp), none, none, none, none]
  let ones : List D := [.int (vI vals k + 1), .int (vI vals k - 1), .int (vI vals k + B0), .int (vI vals k - 10 ^ (30 : Int).toNat), .non, .bl true, .int (-vI vals k)]
  have hones : ∀ d ∈ ones, Lf d := fun d hd => by
    simp only [ones, List.mem_cons, List.not_mem_nil, or_false] at hd
    rcases hd with rfl | rfl | rfl | rfl | rfl | rfl | rfl
    · exact lf_int _
    · exact lf_int _
    · exact lf_int _
    · exact lf_int _
    · exact lf_non
    · exact lf_bl _
    · exact lf_int _
  refine ht_cut (N := fun δ μ => ∃ (o : Addr) (co : C) (ys : List TK.A), μ = (o, co) :: M9 ys ∧ (∀ y ∈ ys, BV a2 y) ∧ LeD δ δ9) (ht_forLX (TK.EN.ex (o := .lst (ones.map .dat)) (en_lst (ea_cons (e_plusI (e_ixT (e_var rfl) (e_var rfl) hk) e_int) (ea_cons (e_sub (e_ixT (e_var rfl) (e_var rfl) hk) e_int) (ea_cons (e_plusI (e_ixT (e_var rfl) (e_var rfl) hk) (e_var rfl)) (ea_cons (e_sub (e_ixT (e_var rfl) (e_var rfl) hk) (e_pow e_int e_int ⟨by decide, by decide, by decide⟩)) (ea_cons e_non (ea_cons e_bl (ea_cons (e_neg (e_ixT (e_var rfl) (e_var rfl) hk)) ea_nil))))))) (by simp [ones]))) fun x μ' ⟨o, e1, e2⟩ => ⟨o, e1, ?_⟩) ?_
  · subst e1 e2
    refine ht_forL (a := o) (xs := ones.map .dat) e_val (fun j δ μ => ∃ ys : List TK.A, μ = (o, C.lst (ones.map .dat)) :: M9 ys ∧ ys.length ≤ 9 + j ∧ (∀ y ∈ ys, BV a2 y) ∧ LeD δ δ9) ⟨_, rfl, by simp [rest], fun y hy => ?_, LeD.refl _⟩ (fun i δ1 μ1 ⟨ys, e, _⟩ => ⟨0, by rw [e]; rfl⟩) ?_ ?_
    · rcases List.mem_cons.mp hy with rfl | hy
      · exact .d (leafT_tup (by omega) lf_ints)
      · rcases List.mem_cons.mp hy with rfl | hy
        · exact .inl rfl
        · obtain ⟨d, hd, rfl⟩ := List.mem_map.mp hy
          exact .d (hrest d hd)
    · rintro j x δ3 μ3 hx ⟨ys, rfl, hl, hb, hle⟩
      have hj : j < 7 := by
        have := (List.getElem?_eq_some_iff.mp hx).1
        rw [List.length_map] at this
        exact this
      obtain ⟨one, hone, rfl⟩ := List.mem_map.mp (List.mem_of_getElem? hx)
      refine ⟨_, _, tg_name, HT.le (δ' := δ9.set 14 (some (.dat one))) ?_ hle.put⟩
      refine ht_dropX (ex_app (xs := ys) 1 (e_var rfl) (e_plusT (e_plusT (e_slT (ds := vals.map D.int) (e_var rfl) eo_none (eo_some (e_var rfl))) (e_tup (ds := [one]) (ea_cons (e_var rfl) ea_nil) (by simp)) ?_) (e_slT (ds := vals.map D.int) (e_var rfl) (eo_some (e_plusI (e_var rfl) e_int)) eo_none) ?_) rfl (by omega)) fun x μ4 ⟨_, e4⟩ => ⟨_, e4, ?_, fun y hy => ?_, ?_⟩
      · have := cut_len (l := vals.map D.int) (lo := none) (hi := some k); simp; omega
      · have := cut_len (l := vals.map D.int) (lo := none) (hi := some k); have := cut_len (l := vals.map D.int) (lo := some (k + 1)) (hi := none); simp; omega
      · simp; omega
      · rcases List.mem_append.mp hy with h | h
        · exact hb y h
        · rw [List.mem_singleton.mp h]
          refine .d (leafT_tup ?_ fun x hx => ?_)
          · have := cut_len (l := vals.map D.int) (lo := none) (hi := some k); have := cut_len (l := vals.map D.int) (lo := some (k + 1)) (hi := none); simp; omega
          · rcases List.mem_append.mp hx with h | h
            · rcases List.mem_append.mp h with h | h
              · exact lf_ints x (cut_sub h)
              · rw [List.mem_singleton.mp h]; exact hones one hone
            · exact lf_ints x (cut_sub h)
      · exact (LeD.refl δ9).set rfl
    · rintro δ3 μ3 ⟨ys, rfl, hl, hb, hle⟩
      exact ⟨o, _, ys, rfl, hb, hle⟩
  rintro δ3 μ3 ⟨o, co, ys, rfl, hy2, hle3⟩
  refine HT.le (δ' := δ9) ?_ hle3
  refine HT.sub (μ' := M9 ys) ?_ (.cons _ (List.Sublist.refl _))
  refine ht_forLX (TK.E.ex (x := .own vp) (e_var rfl)) fun x μ' ⟨e1, e2⟩ => ⟨vp, e1, ?_⟩
  subst e1 e2
  refine ht_forL (a := vp) (xs := ys) e_val (fun i δ μ => μ = M9 ys ∧ LeD δ δ9) ⟨rfl, LeD.refl _⟩ (fun i δ2 μ2 ⟨e, _⟩ => ⟨0, by rw [e]; rfl⟩) ?_ ?_
  · rintro j y δ4 μ4 hx ⟨rfl, hle4⟩
    have hb := hy2 y (List.mem_of_getElem? hx)
    refine ⟨_, _, tg_name, HT.le (δ' := δ9.set 15 (some y)) ?_ hle4.put⟩
    have fin : LeD (δ9.set 15 (some y)) δ9 := (LeD.refl δ9).set rfl
    rcases hb with rfl | ⟨d, rfl, hd⟩
    · refine ht_ifX (R := fun b μ' => b = false ∧ μ' = M9 ys) (EXT.imp (ext_not (R := fun b μ' => b = true ∧ μ' = M9 ys) (ext_test (S := fun x μ' => x = .dat (.bl true) ∧ μ' = M9 ys)
        (ex_callRS il (exa_XX (R := fun x μ' => x = .dat (.bl false) ∧ μ' = M9 ys) (S := fun _ _ x μ' => x = .dat (.bl false) ∧ μ' = M9 ys) (ex_callX (ea_cons (e_var rfl) (ea_cons (e_var rfl) (ea_cons (e_var rfl) (ea_cons (e_var rfl) ea_nil)))).ex ?_) fun x μ' ⟨e1, e2⟩ => ?_) ?_) ?_)) ?_) (fun μ' h => by cases h.1) ?_
      · rintro xs μ2 ⟨rfl, rfl⟩
        refine ⟨[(a2, C.lst zs)], (vp, C.lst ys) :: (q, C.lst ((ps.map frI).map .dat)) :: (w', c5) :: μ1, _, List.Perm.swap _ _ _, ⟨t, T0, B0, .own a2, rfl, ok, hT, hB, .inr ⟨a2, zs, rfl, rfl, rfl⟩⟩, ?_⟩
        rintro x ν' ⟨rfl, rfl⟩
        exact ⟨_, List.Perm.swap _ _ _, rfl, rfl⟩
      · subst e1 e2
        refine ex_callX (ea_cons (e_var rfl) (ea_cons (e_var rfl) (ea_cons (e_var rfl) (ea_cons (e_var rfl) ea_nil)))).ex ?_
        rintro xs μ2 ⟨rfl, rfl⟩
        refine ⟨[(a2, C.lst zs)], (vp, C.lst ys) :: (q, C.lst ((ps.map frI).map .dat)) :: (w', c5) :: μ1, _, List.Perm.swap _ _ _, ⟨u, T0, B0, .own a2, rfl, rt, .inr ⟨a2, zs, rfl, rfl, rfl⟩⟩, ?_⟩
        rintro x ν' ⟨rfl, rfl⟩
        exact ⟨_, List.Perm.swap _ _ _, rfl, rfl⟩
      · rintro xs μ2 ⟨x, y, μ3, rfl, ⟨rfl, _⟩, rfl, rfl⟩
        exact ⟨[.bl false, .bl false], .bl true, rfl, ⟨.bl false, rfl, .inr (.inr ⟨false, rfl⟩), rfl⟩, rfl, rfl⟩
      · rintro x μ' ⟨rfl, h⟩
        exact ⟨true, rfl, rfl, h⟩
      · rintro b μ' ⟨h, e⟩
        refine ⟨?_, e⟩
        cases b with
        | true => cases h
        | false => rfl
      · rintro μ' ⟨_, rfl⟩
        exact ht_next ⟨rfl, fin⟩
    · obtain ⟨b, hb⟩ : ∃ b : Bool, b = true ↔ JR u T0 B0 d := by
        by_cases h : JR u T0 B0 d
        · exact ⟨true, fun _ => h, fun _ => rfl⟩
        · exact ⟨false, (fun z => by cases z), fun z => absurd z h⟩
      have res : ∀ (x : TK.A) (ν' : Mu), (∃ b : Bool, x = .dat (.bl b) ∧ (b = true ↔ JR u T0 B0 d) ∧ ν' = []) → x = .dat (.bl b) ∧ ν' = [] := by
        rintro x ν' ⟨b', rfl, hb', rfl⟩
        have : b' = b := by rw [Bool.eq_iff_iff, hb', hb]
        rw [this]
        exact ⟨rfl, rfl⟩
      have res2 : ∀ (x : TK.A) (ν' : Mu), (∃ b : Bool, x = .dat (.bl b) ∧ (b = true ↔ JR t.tr T0 B0 d) ∧ ν' = []) → x = .dat (.bl b) ∧ ν' = [] := by
        rw [hu]
        exact res
      exact ht_if (b := false) ((et_not (et_test (e_callS il [.bl b, .bl b] (ea_cons (e_callM i2 (ea_cons (e_var rfl) (ea_cons (e_var rfl) (ea_cons (e_var rfl) (ea_cons (e_var rfl) ea_nil)))) ⟨t, T0, B0, .dat d, rfl, ok, hT, hB, .inl ⟨d, rfl, hd, rfl, rfl⟩⟩ res2) (ea_cons (e_callM i1 (ea_cons (e_var rfl) (ea_cons (e_var rfl) (ea_cons (e_var rfl) (ea_cons (e_var rfl) ea_nil)))) ⟨u, T0, B0, .dat d, rfl, rt, .inl ⟨d, rfl, hd, rfl, rfl⟩⟩ res) ea_nil)) rfl ⟨.bl b, rfl, .inr (.inr ⟨b, rfl⟩), rfl⟩))).is rfl) (fun h => by cases h) fun _ => ht_next ⟨rfl, fin⟩
  · rintro δ4 μ4 ⟨rfl, hle4⟩
    refine ⟨_, ⟨c5, hc5, rfl, hle4.trans ?_⟩, .cons _ (.cons _ (List.Sublist.refl _))⟩
    repeat (first | exact LeD.refl _ | refine led_cons (.inr rfl) ?_ | refine led_cons (.inl rfl) ?_)
end
end T
set_option maxHeartbeats 0
namespace HD
open PySem PySem.Spec PyProof.Rows L2
def e_is_integer : He.DefD := ⟨("is_integer", none), "is_integer", "is_integer", defArgs T.s_is_integer, defBody T.s_is_integer, defScope T.s_is_integer, [], []⟩
def e_is_from : He.DefD := ⟨("is_from", none), "is_from", "is_from", defArgs T.s_is_from, defBody T.s_is_from, defScope T.s_is_from, [], []⟩
def e_is_below : He.DefD := ⟨("is_below", none), "is_below", "is_below", defArgs T.s_is_below, defBody T.s_is_below, defScope T.s_is_below, [], []⟩
def e_is_tuple : He.DefD := ⟨("is_tuple", none), "is_tuple", "is_tuple", defArgs T.s_is_tuple, defBody T.s_is_tuple, defScope T.s_is_tuple, [], []⟩
def e_is_row : He.DefD := ⟨("is_row", none), "is_row", "is_row", defArgs T.s_is_row, defBody T.s_is_row, defScope T.s_is_row, [], []⟩
def e_is_ascending : He.DefD := ⟨("is_ascending", none), "is_ascending", "is_ascending", defArgs T.s_is_ascending, defBody T.s_is_ascending, defScope T.s_is_ascending, [], []⟩
def e_is_marked_place : He.DefD := ⟨("is_marked_place", none), "is_marked_place", "is_marked_place", defArgs T.s_is_marked_place, defBody T.s_is_marked_place, defScope T.s_is_marked_place, [], []⟩
def e_is_edge : He.DefD := ⟨("is_edge", none), "is_edge", "is_edge", defArgs T.s_is_edge, defBody T.s_is_edge, defScope T.s_is_edge, [], []⟩
def e_members_fault : He.DefD := ⟨("members_fault", none), "members_fault", "members_fault", defArgs T.s_members_fault, defBody T.s_members_fault, defScope T.s_members_fault, [], []⟩
def e_turner_fault : He.DefD := ⟨("turner_fault", none), "turner_fault", "turner_fault", defArgs T.s_turner_fault, defBody T.s_turner_fault, defScope T.s_turner_fault, [], []⟩
def e_check_turner : He.DefD := ⟨("check_turner", none), "check_turner", "check_turner", defArgs T.s_check_turner, defBody T.s_check_turner, defScope T.s_check_turner, [], []⟩
def e_closed : He.DefD := ⟨("closed", none), "closed", "closed", defArgs T.s_closed, defBody T.s_closed, defScope T.s_closed, [], []⟩
def e_live_in : He.DefD := ⟨("live_in", none), "live_in", "live_in", defArgs T.s_live_in, defBody T.s_live_in, defScope T.s_live_in, [], []⟩
def e_reached_in : He.DefD := ⟨("reached_in", none), "reached_in", "reached_in", defArgs T.s_reached_in, defBody T.s_reached_in, defScope T.s_reached_in, [], []⟩
def e_kept_places : He.DefD := ⟨("kept_places", none), "kept_places", "kept_places", defArgs T.s_kept_places, defBody T.s_kept_places, defScope T.s_kept_places, [], []⟩
def e_trimmed_in : He.DefD := ⟨("trimmed_in", none), "trimmed_in", "trimmed_in", defArgs T.s_trimmed_in, defBody T.s_trimmed_in, defScope T.s_trimmed_in, [], []⟩
def e_gain : He.DefD := ⟨("gain", none), "gain", "gain", defArgs T.s_gain, defBody T.s_gain, defScope T.s_gain, [], []⟩
def e_raised : He.DefD := ⟨("raised", none), "raised", "raised", defArgs T.s_raised, defBody T.s_raised, defScope T.s_raised, [], []⟩
def e_loop_above : He.DefD := ⟨("loop_above", none), "loop_above", "loop_above", defArgs T.s_loop_above, defBody T.s_loop_above, defScope T.s_loop_above, [], []⟩
def e_rate_of : He.DefD := ⟨("rate_of", none), "rate_of", "rate_of", defArgs T.s_rate_of, defBody T.s_rate_of, defScope T.s_rate_of, [], []⟩
def e_fastest_in : He.DefD := ⟨("fastest_in", none), "fastest_in", "fastest_in", defArgs T.s_fastest_in, defBody T.s_fastest_in, defScope T.s_fastest_in, [], []⟩
def e_rate_in : He.DefD := ⟨("rate_in", none), "rate_in", "rate_in", defArgs T.s_rate_in, defBody T.s_rate_in, defScope T.s_rate_in, [], []⟩
def e_rate : He.DefD := ⟨("rate", none), "rate", "rate", defArgs T.s_rate, defBody T.s_rate, defScope T.s_rate, [], []⟩
def e_fastest_loop : He.DefD := ⟨("fastest_loop", none), "fastest_loop", "fastest_loop", defArgs T.s_fastest_loop, defBody T.s_fastest_loop, defScope T.s_fastest_loop, [], []⟩
def e_check_rate : He.DefD := ⟨("check_rate", none), "check_rate", "check_rate", defArgs T.s_check_rate, defBody T.s_check_rate, defScope T.s_check_rate, [], []⟩
def e_shows_rate : He.DefD := ⟨("shows_rate", none), "shows_rate", "shows_rate", defArgs T.s_shows_rate, defBody T.s_shows_rate, defScope T.s_shows_rate, [], []⟩
def e_rate_paper : He.DefD := ⟨("rate_paper", none), "rate_paper", "rate_paper", defArgs T.s_rate_paper, defBody T.s_rate_paper, defScope T.s_rate_paper, [], []⟩
def e__law_well : He.DefD := ⟨("_law_well", none), "_law_well", "_law_well", defArgs T.s__law_well, defBody T.s__law_well, defScope T.s__law_well, [], []⟩
def e__law_dip : He.DefD := ⟨("_law_dip", none), "_law_dip", "_law_dip", defArgs T.s__law_dip, defBody T.s__law_dip, defScope T.s__law_dip, [], []⟩
def e__law_pick : He.DefD := ⟨("_law_pick", none), "_law_pick", "_law_pick", defArgs T.s__law_pick, defBody T.s__law_pick, defScope T.s__law_pick, [], []⟩
def e__law_same : He.DefD := ⟨("_law_same", none), "_law_same", "_law_same", defArgs T.s__law_same, defBody T.s__law_same, defScope T.s__law_same, [], []⟩
def e__law_word : He.DefD := ⟨("_law_word", none), "_law_word", "_law_word", defArgs T.s__law_word, defBody T.s__law_word, defScope T.s__law_word, [], []⟩
def e__law_turner : He.DefD := ⟨("_law_turner", none), "_law_turner", "_law_turner", defArgs T.s__law_turner, defBody T.s__law_turner, defScope T.s__law_turner, [], []⟩
def e__law_trimmed : He.DefD := ⟨("_law_trimmed", none), "_law_trimmed", "_law_trimmed", defArgs T.s__law_trimmed, defBody T.s__law_trimmed, defScope T.s__law_trimmed, [], []⟩
def e__law_loops : He.DefD := ⟨("_law_loops", none), "_law_loops", "_law_loops", defArgs T.s__law_loops, defBody T.s__law_loops, defScope T.s__law_loops, [], []⟩
def e__law_divisor : He.DefD := ⟨("_law_divisor", none), "_law_divisor", "_law_divisor", defArgs T.s__law_divisor, defBody T.s__law_divisor, defScope T.s__law_divisor, [], []⟩
def e__law_rate : He.DefD := ⟨("_law_rate", none), "_law_rate", "_law_rate", defArgs T.s__law_rate, defBody T.s__law_rate, defScope T.s__law_rate, [], []⟩
def e__law_greatest : He.DefD := ⟨("_law_greatest", none), "_law_greatest", "_law_greatest", defArgs T.s__law_greatest, defBody T.s__law_greatest, defScope T.s__law_greatest, [], []⟩
def e__law_is_loop : He.DefD := ⟨("_law_is_loop", none), "_law_is_loop", "_law_is_loop", defArgs T.s__law_is_loop, defBody T.s__law_is_loop, defScope T.s__law_is_loop, [], []⟩
def e__law_is_paper : He.DefD := ⟨("_law_is_paper", none), "_law_is_paper", "_law_is_paper", defArgs T.s__law_is_paper, defBody T.s__law_is_paper, defScope T.s__law_is_paper, [], []⟩
def e__law_fractions : He.DefD := ⟨("_law_fractions", none), "_law_fractions", "_law_fractions", defArgs T.s__law_fractions, defBody T.s__law_fractions, defScope T.s__law_fractions, [], []⟩
def e_law : He.DefD := ⟨("law", none), "law", "law", defArgs T.s_law, defBody T.s_law, defScope T.s_law, [], []⟩
def fn : List He.DefD := [e_is_integer, e_is_from, e_is_below, e_is_tuple, e_is_row, e_is_ascending, e_is_marked_place, e_is_edge, e_members_fault, e_turner_fault, e_check_turner, e_closed, e_live_in, e_reached_in, e_kept_places, e_trimmed_in, e_gain, e_raised, e_loop_above, e_rate_of, e_fastest_in, e_rate_in, e_rate, e_fastest_loop, e_check_rate, e_shows_rate, e_rate_paper, e__law_well, e__law_dip, e__law_pick, e__law_same, e__law_word, e__law_turner, e__law_trimmed, e__law_loops, e__law_divisor, e__law_rate, e__law_greatest, e__law_is_loop, e__law_is_paper, e__law_fractions, e_law]
def fa : List He.Fa := [.glo "is_integer", .glo "is_from", .glo "is_below", .glo "is_tuple", .glo "is_row", .glo "is_ascending", .glo "is_marked_place", .glo "is_edge", .glo "members_fault", .glo "turner_fault", .glo "check_turner", .glo "closed", .glo "live_in", .glo "reached_in", .glo "kept_places", .glo "trimmed_in", .glo "gain", .glo "raised", .glo "loop_above", .glo "rate_of", .glo "fastest_in", .glo "rate_in", .glo "rate", .glo "fastest_loop", .glo "check_rate", .glo "shows_rate", .glo "rate_paper", .glo "_law_well", .glo "_law_dip", .glo "_law_pick", .glo "_law_same", .glo "_law_word", .glo "_law_turner", .glo "_law_trimmed", .glo "_law_loops", .glo "_law_divisor", .glo "_law_rate", .glo "_law_greatest", .glo "_law_is_loop", .glo "_law_is_paper", .glo "_law_fractions", .glo "law", .free "len", .free "max", .free "min", .free "sorted", .free "tuple", .free "list", .free "set", .free "isinstance", .free "int", .free "bool", .free "str", .free "range", .free "zip", .free "enumerate", .free "all", .free "any", .free "abs", .free "sum"]
def loose0 : List Str := ["is_integer", "is_from", "is_below", "is_tuple", "is_row", "is_ascending", "is_marked_place", "is_edge", "members_fault", "turner_fault", "check_turner", "closed", "live_in", "reached_in", "kept_places", "trimmed_in", "gain", "raised", "loop_above", "rate_of"]
def loose1 : List Str := ["fastest_in", "rate_in", "rate", "fastest_loop", "check_rate", "shows_rate", "rate_paper", "_law_well", "_law_dip", "_law_pick", "_law_same", "_law_word", "_law_turner", "_law_trimmed", "_law_loops", "_law_divisor", "_law_rate", "_law_greatest", "_law_is_loop", "_law_is_paper"]
def loose2 : List Str := ["_law_fractions", "TurnError", "InvalidNumber", "InvalidTurner"]
abbrev loose : List Str := loose0 ++ loose1 ++ loose2
def tf : List He.Defn := [("turner_fault", none)]
abbrev R : PySem.W.OpenRow := PySem.W.OpenLaw.row PySem.Challenge.rw_textsturned_k84_rates_of_loops
abbrev ex0 : PySem.W.Frag → Bool := fun K => He.eqO (PySem.W.nsIn K mainGlobals "gcd") (some (some (.builtin "math.gcd")))
abbrev hk : PySem.W.Hook := He.hookX 4 fa fn [] tf ex0
def ob (s : PySem.W.SharedT) : He.AlX := He.obsX 4 fa fn [] tf ex0 (HandSHeadRun.getT s)
theorem ob_eq (s : PySem.W.SharedT) : ob s = hk.obs s.abs := He.obsX_eq (HandSHeadRun.getT_eq s)
theorem run (w : World) : HandSHeadRun.RunEqI R (PySem.W.view R.prog [0, 50]) hk ob 4000 loose w := by
  unfold HandSHeadRun.RunEqI
  kernel_rfl
section
open TK NdefX LamX
theorem law_sp [TC] {K : PySem.W.Frag} {H : Hp} {a : Addr} {ns : List Int} {Q : VK} {E : XK} (hS : SqL K H a (ns.map V.int)) (tb : TabsN TC.T H) (hQ : ∀ H', Q (.bl true) H') : spM (T.G_law K) [.ref a] H Q E := by
  rcases hS with h | h
  · have ht : ∃ o, H a = some o ∧ ∀ ps, o ≠ .tbl ps := by
      rcases h with h | ⟨u, h⟩
      · exact ⟨_, h, fun ps z => by cases z⟩
      · exact ⟨_, h, fun ps z => by cases z⟩
    obtain ⟨o, ho, hn⟩ := ht
    refine ⟨[.own a], [(a, .gen fun H a => Rd H a (.lst (ns.map V.int)))], _, .cons rfl .nil, ⟨by simp [keys], fun p hp => ?_, fun p hp ps z => ?_, tb⟩, ⟨a, ns, rfl, fun δ σ H' s => .inl (s.mem.own _ List.mem_cons_self).1, rfl⟩, fun x μ' v H' hx _ _ r => ?_⟩
    · rw [List.mem_singleton.mp hp]
      exact ⟨h, by rw [ho]; simp, fun H1 H2 _ e q => q.imp (fun q => e _ q) fun ⟨u, q⟩ => ⟨u, e _ q⟩⟩
    · rw [List.mem_singleton.mp hp] at z
      rw [ho] at z
      exact hn ps (Option.some.inj z)
    · have hx : x = .dat (.bl true) := hx
      subst hx
      rw [rp_bl r]
      exact hQ H'
  · refine ⟨[.own a], [], _, .cons rfl .nil, sm_nil tb, ⟨a, ns, rfl, fun δ σ H' s => .inr h, rfl⟩, fun x μ' v H' hx _ _ r => ?_⟩
    have hx : x = .dat (.bl true) := hx
    subst hx
    rw [rp_bl r]
    exact hQ H'
theorem raw {K : PySem.W.Frag} {h : Heap} {mg : Str → Option Value} (c : He.SaysD fa fn K) (X : K.In h) (G : h.Ns mainGlobals mg) {x : Str} {st : Stmt} (i : Nat) (h1 : fn[i]? = some ⟨(x, none), x, x, defArgs st, defBody st, defScope st, [], []⟩) (h2 : fa[i]? = some (.glo x)) : Raw K mg x st := ⟨c.def_ i h1, He.glo_ok X G (c.fact i h2)⟩
theorem at_law (w : World) (mg : Str → Option Value) (fa' : Addr) (h : Heap) (K : PySem.W.Frag) (KX : K.In h) (c : He.SaysX fa fn [] tf ex0 w h K) (G : h.Ns mainGlobals mg) (hmg : mg ("law" : Str) = some (.ref fa')) :
    LamX.LawAtS PySem.Challenge.rw_textsturned_k84_rates_of_loops w K CX0 12 63 "script" mg fa' h := by
  letI : TC := ⟨[(He.tabOf K (He.codeOf K ("turner_fault", none)), fun _ _ => T.q_turner_fault)]⟩
  have cd := c.t.d
  obtain ⟨fd, F⟩ := cd.def_ 41 (d := e_law) rfl
  have e := hmg.symm.trans (He.glo_ok KX G (cd.fact 41 (f := .glo "law") rfl))
  cases e
  have hb : ∀ (s : Shared) (u : Value), BindsTo s fd ⟨[u], []⟩ [("script", u)] := fun s v => (FunD.bindsA (ps := ["script"]) F fun _ _ _ _ _ _ us hl => match us, hl with | [_], _ => rfl) s [v] rfl
  refine ⟨fd, [He.cT K ("turner_fault", none)], spM (T.G_law K), fun p hp => by rw [List.mem_singleton.mp hp]; exact c.empty _ (by simp [tf]), fun p hp => by rw [List.mem_singleton.mp hp]; exact c.out _ (by simp [tf]), fun p hp => by rw [List.mem_singleton.mp hp]; exact PySem.W.codeHd_of_K KX (c.hd _ (by simp [tf])),
    hb, fun H a ns _ _ hH hS => law_sp hS (fun p hp => ?_) fun H' => rfl, fun base KB GB hTB => ?_⟩
  · rw [List.mem_singleton.mp hp]
    exact ⟨#[], hH _ (List.mem_singleton.mpr rfl), by first | trivial | (simp [TriplesOk]) | exact .nil, fun pos cv z => by cases z⟩
  have lt : LT base mg (He.codeOf K ("turner_fault", none)) (He.tabOf K (He.codeOf K ("turner_fault", none))) T.q_turner_fault := ⟨hTB _ (List.mem_singleton.mpr rfl), List.mem_singleton.mpr rfl, fun p hp _ => by rw [List.mem_singleton.mp hp]⟩
  have Tb : Bl mg := ⟨He.free_ok KX G (cd.fact 42 (f := .free "len") rfl), He.free_ok KX G (cd.fact 43 (f := .free "max") rfl), He.free_ok KX G (cd.fact 44 (f := .free "min") rfl), He.free_ok KX G (cd.fact 45 (f := .free "sorted") rfl), He.free_ok KX G (cd.fact 46 (f := .free "tuple") rfl), He.free_ok KX G (cd.fact 47 (f := .free "list") rfl), He.free_ok KX G (cd.fact 48 (f := .free "set") rfl), He.free_ok KX G (cd.fact 49 (f := .free "isinstance") rfl), He.free_ok KX G (cd.fact 50 (f := .free "int") rfl), He.free_ok KX G (cd.fact 51 (f := .free "bool") rfl), He.free_ok KX G (cd.fact 52 (f := .free "str") rfl), He.free_ok KX G (cd.fact 53 (f := .free "range") rfl), He.free_ok KX G (cd.fact 54 (f := .free "zip") rfl), He.free_ok KX G (cd.fact 55 (f := .free "enumerate") rfl), He.free_ok KX G (cd.fact 56 (f := .free "all") rfl), He.free_ok KX G (cd.fact 57 (f := .free "any") rfl), He.free_ok KX G (cd.fact 58 (f := .free "abs") rfl), He.free_ok KX G (cd.fact 59 (f := .free "sum") rfl)⟩
  have gcdOk : mg ("gcd" : PySem.Str) = some (.builtin "math.gcd") := PySem.W.mg_of KX G (He.eqO_ok c.more)
  have k_is_integer := T.ok_is_integer (P := PySem.Challenge.rw_textsturned_k84_rates_of_loops.prog) (w := w) (base := base) Tb (raw (st := T.s_is_integer) cd KX G 0 rfl rfl)
  have k_is_from := T.ok_is_from (P := PySem.Challenge.rw_textsturned_k84_rates_of_loops.prog) (w := w) (base := base) Tb (raw (st := T.s_is_from) cd KX G 1 rfl rfl) k_is_integer
  have k_is_below := T.ok_is_below (P := PySem.Challenge.rw_textsturned_k84_rates_of_loops.prog) (w := w) (base := base) Tb (raw (st := T.s_is_below) cd KX G 2 rfl rfl) k_is_from
  have k_is_tuple := T.ok_is_tuple (P := PySem.Challenge.rw_textsturned_k84_rates_of_loops.prog) (w := w) (base := base) Tb (raw (st := T.s_is_tuple) cd KX G 3 rfl rfl)
  have k_is_row := T.ok_is_row (P := PySem.Challenge.rw_textsturned_k84_rates_of_loops.prog) (w := w) (base := base) Tb (raw (st := T.s_is_row) cd KX G 4 rfl rfl) k_is_below
  have k_is_ascending := T.ok_is_ascending (P := PySem.Challenge.rw_textsturned_k84_rates_of_loops.prog) (w := w) (base := base) Tb (raw (st := T.s_is_ascending) cd KX G 5 rfl rfl)
  have k_is_marked_place := T.ok_is_marked_place (P := PySem.Challenge.rw_textsturned_k84_rates_of_loops.prog) (w := w) (base := base) Tb (raw (st := T.s_is_marked_place) cd KX G 6 rfl rfl) k_is_tuple k_is_below k_is_row
  have k_is_edge := T.ok_is_edge (P := PySem.Challenge.rw_textsturned_k84_rates_of_loops.prog) (w := w) (base := base) Tb (raw (st := T.s_is_edge) cd KX G 7 rfl rfl) k_is_tuple k_is_below k_is_row
  have k_members_fault := T.ok_members_fault (P := PySem.Challenge.rw_textsturned_k84_rates_of_loops.prog) (w := w) (base := base) Tb (raw (st := T.s_members_fault) cd KX G 8 rfl rfl) k_is_ascending
  have k_turner_fault := T.ok_turner_fault (P := PySem.Challenge.rw_textsturned_k84_rates_of_loops.prog) (w := w) (base := base) Tb (raw (st := T.s_turner_fault) cd KX G 9 rfl rfl) lt k_is_tuple k_is_from k_is_marked_place k_is_edge k_members_fault
  have k_check_turner := T.ok_check_turner (P := PySem.Challenge.rw_textsturned_k84_rates_of_loops.prog) (w := w) (base := base) Tb (raw (st := T.s_check_turner) cd KX G 10 rfl rfl) k_turner_fault
  have k_closed := T.ok_closed (P := PySem.Challenge.rw_textsturned_k84_rates_of_loops.prog) (w := w) (base := base) Tb (raw (st := T.s_closed) cd KX G 11 rfl rfl)
  have k_live_in := T.ok_live_in (P := PySem.Challenge.rw_textsturned_k84_rates_of_loops.prog) (w := w) (base := base) Tb (raw (st := T.s_live_in) cd KX G 12 rfl rfl) k_closed
  have k_reached_in := T.ok_reached_in (P := PySem.Challenge.rw_textsturned_k84_rates_of_loops.prog) (w := w) (base := base) Tb (raw (st := T.s_reached_in) cd KX G 13 rfl rfl) k_closed
  have k_kept_places := T.ok_kept_places (P := PySem.Challenge.rw_textsturned_k84_rates_of_loops.prog) (w := w) (base := base) Tb (raw (st := T.s_kept_places) cd KX G 14 rfl rfl)
  have k_trimmed_in := T.ok_trimmed_in (P := PySem.Challenge.rw_textsturned_k84_rates_of_loops.prog) (w := w) (base := base) Tb (raw (st := T.s_trimmed_in) cd KX G 15 rfl rfl) k_live_in k_reached_in k_kept_places
  have k__law_dip := T.ok__law_dip (P := PySem.Challenge.rw_textsturned_k84_rates_of_loops.prog) (w := w) (base := base) Tb (raw (st := T.s__law_dip) cd KX G 28 rfl rfl)
  have k__law_pick := T.ok__law_pick (P := PySem.Challenge.rw_textsturned_k84_rates_of_loops.prog) (w := w) (base := base) Tb (raw (st := T.s__law_pick) cd KX G 29 rfl rfl) k__law_dip
  have k__law_word := T.ok__law_word (P := PySem.Challenge.rw_textsturned_k84_rates_of_loops.prog) (w := w) (base := base) Tb (raw (st := T.s__law_word) cd KX G 31 rfl rfl) k__law_dip
  have k__law_well := T.ok__law_well (P := PySem.Challenge.rw_textsturned_k84_rates_of_loops.prog) (w := w) (base := base) Tb (raw (st := T.s__law_well) cd KX G 27 rfl rfl)
  have k__law_turner := T.ok__law_turner (P := PySem.Challenge.rw_textsturned_k84_rates_of_loops.prog) (w := w) (base := base) Tb (raw (st := T.s__law_turner) cd KX G 32 rfl rfl) k__law_dip k__law_word
  have k__law_trimmed := T.ok__law_trimmed (P := PySem.Challenge.rw_textsturned_k84_rates_of_loops.prog) (w := w) (base := base) Tb (raw (st := T.s__law_trimmed) cd KX G 33 rfl rfl)
  have k__law_loops := T.ok__law_loops (P := PySem.Challenge.rw_textsturned_k84_rates_of_loops.prog) (w := w) (base := base) Tb (raw (st := T.s__law_loops) cd KX G 34 rfl rfl)
  have k__law_same0 := T.ok__law_same0 (P := PySem.Challenge.rw_textsturned_k84_rates_of_loops.prog) (w := w) (base := base) Tb (raw (st := T.s__law_same) cd KX G 30 rfl rfl)
  have k__law_same := T.ok__law_same (P := PySem.Challenge.rw_textsturned_k84_rates_of_loops.prog) (w := w) (base := base) Tb (raw (st := T.s__law_same) cd KX G 30 rfl rfl) k__law_same0
  have k_gain := T.ok_gain (P := PySem.Challenge.rw_textsturned_k84_rates_of_loops.prog) (w := w) (base := base) Tb (raw (st := T.s_gain) cd KX G 16 rfl rfl)
  have k_raised := T.ok_raised (P := PySem.Challenge.rw_textsturned_k84_rates_of_loops.prog) (w := w) (base := base) Tb (raw (st := T.s_raised) cd KX G 17 rfl rfl) k_gain
  have k_loop_above := T.ok_loop_above (P := PySem.Challenge.rw_textsturned_k84_rates_of_loops.prog) (w := w) (base := base) Tb (raw (st := T.s_loop_above) cd KX G 18 rfl rfl) k_raised
  have k_rate_of := T.ok_rate_of (P := PySem.Challenge.rw_textsturned_k84_rates_of_loops.prog) (w := w) (base := base) Tb gcdOk (raw (st := T.s_rate_of) cd KX G 19 rfl rfl)
  have k_check_rate := T.ok_check_rate (P := PySem.Challenge.rw_textsturned_k84_rates_of_loops.prog) (w := w) (base := base) Tb (raw (st := T.s_check_rate) cd KX G 24 rfl rfl) k_is_from
  have k_is_tupleL := T.ok_is_tupleL (P := PySem.Challenge.rw_textsturned_k84_rates_of_loops.prog) (w := w) (base := base) Tb (raw (st := T.s_is_tuple) cd KX G 3 rfl rfl)
  have k_is_tuple2 := T.ok_is_tuple2 (P := PySem.Challenge.rw_textsturned_k84_rates_of_loops.prog) (w := w) (base := base) k_is_tuple k_is_tupleL
  have k_fastest_in := T.ok_fastest_in (P := PySem.Challenge.rw_textsturned_k84_rates_of_loops.prog) (w := w) (base := base) Tb (raw (st := T.s_fastest_in) cd KX G 20 rfl rfl) k_trimmed_in k_loop_above k_rate_of
  have k_rate_in := T.ok_rate_in (P := PySem.Challenge.rw_textsturned_k84_rates_of_loops.prog) (w := w) (base := base) Tb (raw (st := T.s_rate_in) cd KX G 21 rfl rfl) k_fastest_in k_rate_of
  have k_rate := T.ok_rate (P := PySem.Challenge.rw_textsturned_k84_rates_of_loops.prog) (w := w) (base := base) Tb (raw (st := T.s_rate) cd KX G 22 rfl rfl) k_check_turner k_rate_in
  have k_fastest_loop := T.ok_fastest_loop (P := PySem.Challenge.rw_textsturned_k84_rates_of_loops.prog) (w := w) (base := base) Tb (raw (st := T.s_fastest_loop) cd KX G 23 rfl rfl) k_check_turner k_fastest_in
  have k_rate_paper := T.ok_rate_paper (P := PySem.Challenge.rw_textsturned_k84_rates_of_loops.prog) (w := w) (base := base) Tb (raw (st := T.s_rate_paper) cd KX G 26 rfl rfl) k_check_turner k_check_rate k_trimmed_in k_raised
  have k_shows_rate := T.ok_shows_rate (P := PySem.Challenge.rw_textsturned_k84_rates_of_loops.prog) (w := w) (base := base) Tb (raw (st := T.s_shows_rate) cd KX G 25 rfl rfl) k_check_turner k_check_rate k_trimmed_in k_is_integer k_is_tuple2 k_gain
  have k__law_divisor := T.ok__law_divisor (P := PySem.Challenge.rw_textsturned_k84_rates_of_loops.prog) (w := w) (base := base) Tb (raw (st := T.s__law_divisor) cd KX G 35 rfl rfl)
  have k__law_rate0 := T.ok__law_rate0 (P := PySem.Challenge.rw_textsturned_k84_rates_of_loops.prog) (w := w) (base := base) Tb (raw (st := T.s__law_rate) cd KX G 36 rfl rfl) k__law_divisor
  have k__law_rateL := T.ok__law_rateL (P := PySem.Challenge.rw_textsturned_k84_rates_of_loops.prog) (w := w) (base := base) Tb (raw (st := T.s__law_rate) cd KX G 36 rfl rfl) k__law_divisor
  have k__law_rate2 := T.ok__law_rate2 (P := PySem.Challenge.rw_textsturned_k84_rates_of_loops.prog) (w := w) (base := base) k__law_rate0 k__law_rateL
  have k__law_greatest := T.ok__law_greatest (P := PySem.Challenge.rw_textsturned_k84_rates_of_loops.prog) (w := w) (base := base) Tb (raw (st := T.s__law_greatest) cd KX G 37 rfl rfl)
  have k__law_is_loop := T.ok__law_is_loop (P := PySem.Challenge.rw_textsturned_k84_rates_of_loops.prog) (w := w) (base := base) Tb (raw (st := T.s__law_is_loop) cd KX G 38 rfl rfl)
  have k__law_is_paper := T.ok__law_is_paper (P := PySem.Challenge.rw_textsturned_k84_rates_of_loops.prog) (w := w) (base := base) Tb (raw (st := T.s__law_is_paper) cd KX G 39 rfl rfl)
  have k__law_sameL := T.ok__law_sameL (P := PySem.Challenge.rw_textsturned_k84_rates_of_loops.prog) (w := w) (base := base) Tb (raw (st := T.s__law_same) cd KX G 30 rfl rfl) k__law_same0
  have k__law_fractions := T.ok__law_fractions (P := PySem.Challenge.rw_textsturned_k84_rates_of_loops.prog) (w := w) (base := base) Tb (raw (st := T.s__law_fractions) cd KX G 40 rfl rfl) k__law_dip
  have k__law_same2 := T.ok__law_same2 (P := PySem.Challenge.rw_textsturned_k84_rates_of_loops.prog) (w := w) (base := base) k__law_same0 k__law_sameL
  exact T.ok_law (P := PySem.Challenge.rw_textsturned_k84_rates_of_loops.prog) (w := w) (base := base) Tb F (raw (st := T.s_rate_paper) cd KX G 26 rfl rfl) k__law_well k__law_dip k__law_turner k__law_trimmed k__law_loops k__law_rate2 k__law_greatest k_fastest_loop k__law_same2 k_rate k__law_is_loop k__law_fractions k_rate_paper k__law_is_paper k_shows_rate
end
end HD
open PySem PySem.W PySem.Calls PyProof.Rows
theorem PySem.Challenge.cw_textsturned_k84_rates_of_loops_holds : PySem.Challenge.rw_textsturned_k84_rates_of_loops.Holds := by
  w_on; o_law
  refine HandSHeadRun.head_imp (r := OpenLaw.row PySem.Challenge.rw_textsturned_k84_rates_of_loops) (q := view (OpenLaw.row PySem.Challenge.rw_textsturned_k84_rates_of_loops).prog [0, 50]) (H := HD.hk) (ob := HD.ob) (M := 4000) (loose := HD.loose) (d := HandSHeadRun.topDef (OpenLaw.row PySem.Challenge.rw_textsturned_k84_rates_of_loops).prog 50) (kwd := []) HD.ob_eq
    HD.run (by kernel_rfl) (by kernel_rfl) (by kernel_rfl) (by rfl) (by first | assumption | decide +kernel) (by decide +kernel) ⟨rfl, rfl, rfl, rfl, rfl, by decide +kernel⟩ ?hw ?hc
  case hw => w_witness2
  case hc =>
    refine LamX.walk_ofTsE (l := PySem.Challenge.rw_textsturned_k84_rates_of_loops) (n := 63) (k := 12) (x := "script") (CX := fun _ => L2.CX0) rfl (by decide) (by kernel_rfl) ⟨rfl, by decide, by decide⟩ ?F (fun _ _ _ _ _ z => z)
    intro w mg fa h Y G hmg0
    obtain ⟨K, KX, c⟩ := Y
    have hmg : mg ("law" : PySem.Str) = some (.ref fa) := by
      have e : (HandSHeadRun.topDef (OpenLaw.row PySem.Challenge.rw_textsturned_k84_rates_of_loops).prog 50).name = ("law" : PySem.Str) := by kernel_rfl
      rw [← e]
      exact hmg0
    exact ⟨K, KX, HD.at_law w mg fa h K KX c G hmg⟩
