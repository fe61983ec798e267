import PyProof.Rows.All
import Wide.All
import OpenK.AllK
import Wide.FinOn
import HandS.ForMost
import HandS.Defaults
import HandS.WordsExc
import HandS.IsInst
import HandS.Lambda
import HandS.HeadHook2
import HandS.DictComp
import KE.SortKeyHeap
import HandS.HeadHook4
import HandS.HeadWalk
import HandS.Comp
import HandS.Iter
import HandS.StrMore
import KE.KStateDown
import Lean
import HandS.Base
import HandS.Call
import HandS.Ends
import HandS.More
import HandS.Words
import HandS.Head0
import HandS.Head1
import HandS.Head2
import HandS.HeadEnd
import HandS.HeadHook1
import KE.KIntText
import PySem.Challenge.RW_unsaybook_k01_names_and_numbers
set_option Elab.async false
set_option linter.all false
set_option maxRecDepth 100000
set_option maxHeartbeats 4000000
/-! a pure reading of programs: data by value, mutable cells by number -/
namespace Tp
open PySem PySem.Spec PyProof.Rows L2
abbrev Slots := List (Option V)

/-- data: by value; ref n: the n-th mutable cell -/
inductive D where
  | non | bl (b : Bool) | int (i : Int) | str (s : Str) | tup (l : List D) | lst (l : List D) | dic (l : List (Key × D)) | ref (n : Nat) | sq (l : List D) | ty (n : String) | cls (C : Str)
inductive Cell where
  | lst (l : List D) | dic (l : List (Key × D)) | obj (C : Str) (fs : List (Str × D))

/-- what is frozen, what is not to be looked at, where the cells stand -/
structure Wd where
  F : Hp
  Pr : Hp
  A : List Addr

def Ex (H H' : Hp) : Prop := ∀ a o, H a = some o → H' a = some o
theorem Ex.refl (H : Hp) : Ex H H := fun _ _ h => h
theorem Ex.trans {H H1 H2 : Hp} (a : Ex H H1) (b : Ex H1 H2) : Ex H H2 := fun x o h => b x o (a x o h)
theorem Ex.new {H : Hp} {p : Addr} {o : HO} (h : H p = none) : Ex H (upd H p o) := fun a u e => by
  rw [upd_ne (ne_of_none e h)]; exact e
theorem Ex.both {F H : Hp} {p : Addr} {o : HO} (x : Ex F H) : Ex (upd F p o) (upd H p o) := fun a u e => by
  by_cases q : a = p
  · subst q; rw [upd_same] at e ⊢; exact e
  · rw [upd_ne q] at e ⊢; exact x a u e
theorem Ex.off {F H : Hp} {p : Addr} {o : HO} (x : Ex F H) (h : F p = none) : Ex F (upd H p o) := fun a u e => by
  rw [upd_ne (ne_of_none e h)]; exact x a u e
theorem Ex.none {F H : Hp} {p : Addr} (x : Ex F H) (h : H p = none) : F p = none := by
  cases q : F p with
  | none => rfl
  | some o => rw [x p o q] at h; cases h
def isTbl : HO → Bool
  | .tbl _ => true
  | .ext _ => true
  | _ => false
def NoT (F : Hp) : Prop := ∀ a o, F a = some o → isTbl o = false

mutual
def Rp (K : PySem.W.Frag) (w : Wd) : D → V → Prop
  | .non, v => v = .non
  | .bl b, v => v = .bl b
  | .int i, v => v = .int i
  | .str s, v => v = .str s
  | .tup ds, v => ∃ p vs, v = .ref p ∧ w.F p = some (.tup vs) ∧ RpL K w ds vs
  | .lst ds, v => ∃ p vs, v = .ref p ∧ w.F p = some (.lst vs) ∧ RpL K w ds vs
  | .dic ds, v => ∃ p kvs, v = .ref p ∧ w.F p = some (.dK kvs) ∧ RpK K w ds kvs
  | .sq ds, v => ∃ p vs, v = .ref p ∧ SqL K w.F p vs ∧ RpL K w ds vs
  | .ref n, v => ∃ p, v = .ref p ∧ w.A[n]? = some p
  | .ty n, v => v = .ty n
  | .cls C, v => v = .ref (He.ga K C)
def RpL (K : PySem.W.Frag) (w : Wd) : List D → List V → Prop
  | [], vs => vs = []
  | d :: ds, vs => ∃ v r, vs = v :: r ∧ Rp K w d v ∧ RpL K w ds r
def RpK (K : PySem.W.Frag) (w : Wd) : List (Key × D) → List (Key × V) → Prop
  | [], vs => vs = []
  | (k, d) :: ds, vs => ∃ v r, vs = (k, v) :: r ∧ Rp K w d v ∧ RpK K w ds r
end
def RpF (K : PySem.W.Frag) (w : Wd) : List (Str × D) → List (Str × V) → Prop
  | [], vs => vs = []
  | (k, d) :: ds, vs => ∃ v r, vs = (k, v) :: r ∧ Rp K w d v ∧ RpF K w ds r
def CRp (K : PySem.W.Frag) (w : Wd) : Cell → HO → Prop
  | .lst ds, o => ∃ vs, o = .lst vs ∧ RpL K w ds vs
  | .dic ds, o => ∃ kvs, o = .dK kvs ∧ RpK K w ds kvs
  | .obj C fs, o => ∃ dx vs, o = .ins (He.ga K C) dx vs ∧ RpF K w fs vs

structure Rel (K : PySem.W.Frag) (T : List (Addr × Str)) (w : Wd) (H : Hp) (h : List Cell) : Prop where
  fh : Ex w.F H
  ph : Ex w.Pr H
  ft : NoT w.F
  pt : NoT w.Pr
  dj : ∀ a o, w.Pr a = some o → w.F a = none
  nd : w.A.Nodup
  len : w.A.length = h.length
  cell : ∀ (n : Nat) c, h[n]? = some c → ∃ p o, w.A[n]? = some p ∧ H p = some o ∧ CRp K w c o
  free : ∀ p ∈ w.A, w.F p = none ∧ w.Pr p = none
  tb : LamX.Tabs T H
structure Wd.le (w w' : Wd) : Prop where
  f : Ex w.F w'.F
  p : w'.Pr = w.Pr
  a : w.A <+: w'.A
def EnvR (K : PySem.W.Frag) (w : Wd) (σ : Slots) (G : List (Option D)) : Prop := σ.length = G.length ∧ ∀ (i : Nat) d, G[i]? = some (some d) → ∃ v, σ[i]? = some (some v) ∧ Rp K w d v

theorem Wd.le.refl (w : Wd) : w.le w := ⟨Ex.refl _, rfl, List.prefix_refl _⟩
theorem Wd.le.trans {a b c : Wd} (x : a.le b) (y : b.le c) : a.le c := ⟨x.f.trans y.f, y.p.trans x.p, x.a.trans y.a⟩
section
variable {K : PySem.W.Frag} {T : List (Addr × Str)} {w w' : Wd} {H H' : Hp} {h h' : List Cell}
theorem Rd.mono {F F' : Hp} {a : Addr} {u : HO} (e : Ex F F') (r : Rd F a u) : Rd F' a u := by
  rcases r with r | ⟨o, r⟩
  · exact .inl (e _ _ r)
  · exact .inr ⟨o, e _ _ r⟩
theorem SqL.mono {F F' : Hp} {a : Addr} {xs : List V} (e : Ex F F') (r : SqL K F a xs) : SqL K F' a xs := by
  rcases r with r | r
  · exact .inl (Rd.mono e r)
  · exact .inr r
theorem SqT.mono {F F' : Hp} {a : Addr} {xs : List V} (e : Ex F F') (r : SqT K F a xs) : SqT K F' a xs := by
  rcases r with r | r
  · exact .inl (Rd.mono e r)
  · exact .inr r
theorem pre_get {α : Type} {l l' : List α} {n : Nat} {x : α} (p : l <+: l') (e : l[n]? = some x) : l'[n]? = some x := by
  obtain ⟨r, rfl⟩ := p
  rw [List.getElem?_append_left (List.getElem?_eq_some_iff.mp e).1]; exact e
mutual
theorem Rp.mono (x : w.le w') : ∀ (d : D) (v : V), Rp K w d v → Rp K w' d v
  | .non, _, r => r
  | .bl _, _, r => r
  | .int _, _, r => r
  | .str _, _, r => r
  | .tup ds, _, ⟨p, vs, e, s, l⟩ => ⟨p, vs, e, x.f _ _ s, RpL.mono x ds vs l⟩
  | .lst ds, _, ⟨p, vs, e, s, l⟩ => ⟨p, vs, e, x.f _ _ s, RpL.mono x ds vs l⟩
  | .dic ds, _, ⟨p, vs, e, s, l⟩ => ⟨p, vs, e, x.f _ _ s, RpK.mono x ds vs l⟩
  | .sq ds, _, ⟨p, vs, e, s, l⟩ => ⟨p, vs, e, SqL.mono x.f s, RpL.mono x ds vs l⟩
  | .ref n, _, ⟨p, e, a⟩ => ⟨p, e, pre_get x.a a⟩
  | .ty _, _, r => r
  | .cls _, _, r => r
theorem RpL.mono (x : w.le w') : ∀ (ds : List D) (vs : List V), RpL K w ds vs → RpL K w' ds vs
  | [], _, r => r
  | d :: ds, _, ⟨v, r, e, a, b⟩ => ⟨v, r, e, Rp.mono x d v a, RpL.mono x ds r b⟩
theorem RpK.mono (x : w.le w') : ∀ (ds : List (Key × D)) (vs : List (Key × V)), RpK K w ds vs → RpK K w' ds vs
  | [], _, r => r
  | (k, d) :: ds, _, ⟨v, r, e, a, b⟩ => ⟨v, r, e, Rp.mono x d v a, RpK.mono x ds r b⟩
end
theorem RpF.mono (x : w.le w') : ∀ (ds : List (Str × D)) (vs : List (Str × V)), RpF K w ds vs → RpF K w' ds vs
  | [], _, r => r
  | (k, d) :: ds, _, ⟨v, r, e, a, b⟩ => ⟨v, r, e, Rp.mono x d v a, RpF.mono x ds r b⟩
theorem CRp.mono (x : w.le w') : ∀ {c : Cell} {o : HO}, CRp K w c o → CRp K w' c o
  | .lst ds, _, ⟨vs, e, r⟩ => ⟨vs, e, RpL.mono x ds vs r⟩
  | .dic ds, _, ⟨vs, e, r⟩ => ⟨vs, e, RpK.mono x ds vs r⟩
  | .obj C fs, _, ⟨dx, vs, e, r⟩ => ⟨dx, vs, e, RpF.mono x fs vs r⟩
theorem EnvR.mono {σ : Slots} {G : List (Option D)} (x : w.le w') (e : EnvR K w σ G) : EnvR K w' σ G := ⟨e.1, fun i d q => let ⟨v, a, b⟩ := e.2 i d q; ⟨v, a, Rp.mono x d v b⟩⟩
theorem EnvR.set {σ : Slots} {G : List (Option D)} {i : Nat} {d : D} {v : V} (e : EnvR K w σ G) (r : Rp K w d v) : EnvR K w (σ.set i (some v)) (G.set i (some d)) := by
  refine ⟨by simp [e.1], fun j b q => ?_⟩
  by_cases hj : j = i
  · subst hj
    have hl : j < G.length := by
      have := (List.getElem?_eq_some_iff.mp q).1
      simpa using this
    rw [List.getElem?_set_self hl] at q
    cases q
    exact ⟨v, List.getElem?_set_self (by rw [e.1]; exact hl), r⟩
  · rw [List.getElem?_set_ne (Ne.symm hj)] at q
    obtain ⟨u, a, b⟩ := e.2 j b q
    exact ⟨u, by rw [List.getElem?_set_ne (Ne.symm hj)]; exact a, b⟩
theorem RpL.len : ∀ {ds : List D} {vs : List V}, RpL K w ds vs → ds.length = vs.length
  | [], _, rfl => rfl
  | d :: ds, _, ⟨v, r, e, a, b⟩ => by subst e; simp [RpL.len b]
theorem RpK.len : ∀ {ds : List (Key × D)} {vs : List (Key × V)}, RpK K w ds vs → ds.length = vs.length
  | [], _, rfl => rfl
  | (k, d) :: ds, _, ⟨v, r, e, a, b⟩ => by subst e; simp [RpK.len b]
theorem RpL.get : ∀ {ds : List D} {vs : List V} {i : Nat} {d : D}, RpL K w ds vs → ds[i]? = some d → ∃ v, vs[i]? = some v ∧ Rp K w d v
  | [], _, i, d, _, e => by simp at e
  | a :: ds, _, 0, d, ⟨v, r, e, x, b⟩, q => by subst e; simp at q; subst q; exact ⟨v, by simp, x⟩
  | a :: ds, _, i + 1, d, ⟨v, r, e, x, b⟩, q => by
    subst e
    obtain ⟨u, z, y⟩ := RpL.get (i := i) b (by simpa using q)
    exact ⟨u, by simpa using z, y⟩
theorem RpL.getV : ∀ {ds : List D} {vs : List V} {i : Nat} {v : V}, RpL K w ds vs → vs[i]? = some v → ∃ d, ds[i]? = some d ∧ Rp K w d v
  | [], _, i, v, rfl, e => by simp at e
  | a :: ds, _, 0, v, ⟨u, r, e, x, b⟩, q => by subst e; simp at q; subst q; exact ⟨a, by simp, x⟩
  | a :: ds, _, i + 1, v, ⟨u, r, e, x, b⟩, q => by
    subst e
    obtain ⟨u, z, y⟩ := RpL.getV (i := i) b (by simpa using q)
    exact ⟨u, by simpa using z, y⟩
theorem RpL.app : ∀ {ds es : List D} {vs us : List V}, RpL K w ds vs → RpL K w es us → RpL K w (ds ++ es) (vs ++ us)
  | [], _, _, _, rfl, q => q
  | d :: ds, _, _, us, ⟨v, r, e, a, b⟩, q => by subst e; exact ⟨v, r ++ us, rfl, a, RpL.app b q⟩
theorem RpL.set : ∀ {ds : List D} {vs : List V} {d : D} {v : V} (i : Nat), RpL K w ds vs → Rp K w d v → RpL K w (ds.set i d) (vs.set i v)
  | [], _, _, _, _, rfl, _ => rfl
  | a :: ds, _, d, v, 0, ⟨u, r, e, x, b⟩, q => by subst e; exact ⟨v, r, rfl, q, b⟩
  | a :: ds, _, d, v, i + 1, ⟨u, r, e, x, b⟩, q => by subst e; exact ⟨u, r.set i v, rfl, x, RpL.set i b q⟩
theorem RpL.take : ∀ {ds : List D} {vs : List V} (i : Nat), RpL K w ds vs → RpL K w (ds.take i) (vs.take i)
  | _, _, 0, _ => rfl
  | [], _, i + 1, rfl => rfl
  | a :: ds, _, i + 1, ⟨u, r, e, x, b⟩ => by subst e; exact ⟨u, r.take i, rfl, x, RpL.take i b⟩
theorem RpL.drop : ∀ {ds : List D} {vs : List V} (i : Nat), RpL K w ds vs → RpL K w (ds.drop i) (vs.drop i)
  | _, _, 0, r => r
  | [], _, i + 1, rfl => rfl
  | a :: ds, _, i + 1, ⟨u, r, e, x, b⟩ => by subst e; exact RpL.drop i b
theorem RpL.erase : ∀ {ds : List D} {vs : List V} (i : Nat), RpL K w ds vs → RpL K w (ds.eraseIdx i) (vs.eraseIdx i)
  | [], _, _, rfl => rfl
  | a :: ds, _, 0, ⟨u, r, e, x, b⟩ => by subst e; exact b
  | a :: ds, _, i + 1, ⟨u, r, e, x, b⟩ => by subst e; exact ⟨u, r.eraseIdx i, rfl, x, RpL.erase i b⟩
theorem RpL.ints (ns : List Int) : RpL K w (ns.map D.int) (ns.map V.int) := by
  induction ns with
  | nil => rfl
  | cons n r ih => exact ⟨_, _, rfl, rfl, ih⟩

/-! ### tables -/
theorem tabs_ex {H H' : Hp} (t : LamX.Tabs T H) (e : ∀ b o, H b = some o → isTbl o = true → H' b = some o) : LamX.Tabs T H' := fun p hp => by
  obtain ⟨ps, a, b, c⟩ := t p hp
  refine ⟨ps, e _ _ a rfl, b, fun pos cv q => ?_⟩
  obtain ⟨c1, e1, e2⟩ := c pos cv q
  exact ⟨c1, e1, e _ _ e2 rfl⟩
theorem tabs_new {p : Addr} {o : HO} (t : LamX.Tabs T H) (h : H p = none) : LamX.Tabs T (upd H p o) := tabs_ex t fun b u e _ => by
  rw [upd_ne (ne_of_none e h)]; exact e
theorem tabs_mut {p : Addr} {o u : HO} (t : LamX.Tabs T H) (h : H p = some u) (n : isTbl u = false) : LamX.Tabs T (upd H p o) := tabs_ex t fun b v e z => by
  have : b ≠ p := by
    rintro rfl
    rw [h] at e
    cases e
    rw [n] at z; cases z
  rw [upd_ne this]; exact e

/-! ### worlds that grow -/
/-- a frozen object more -/
def Wd.frz (w : Wd) (p : Addr) (o : HO) : Wd := ⟨upd w.F p o, w.Pr, w.A⟩
theorem Rel.at_ (r : Rel K T w H h) {p : Addr} (hp : p ∈ w.A) : ∃ (i : Nat) (c : Cell) (o : HO), w.A[i]? = some p ∧ h[i]? = some c ∧ H p = some o ∧ CRp K w c o := by
  obtain ⟨i, hi, e⟩ := List.mem_iff_getElem.mp hp
  have hl : i < h.length := by rw [← r.len]; exact hi
  obtain ⟨p', o, a, b, z⟩ := r.cell i _ (List.getElem?_eq_getElem hl)
  rw [List.getElem?_eq_getElem hi, e] at a
  cases a
  exact ⟨i, _, o, by rw [List.getElem?_eq_getElem hi, e], List.getElem?_eq_getElem hl, b, z⟩
theorem Rel.addr_ne (r : Rel K T w H h) {p q : Addr} (hp : p ∈ w.A) (n : H q = none) : q ≠ p := by
  rintro rfl
  obtain ⟨_, _, _, _, _, b, _⟩ := r.at_ hp
  rw [n] at b; cases b
theorem Rel.frz (r : Rel K T w H h) {p : Addr} {o : HO} (n : H p = none) (no : isTbl o = false) : w.le (w.frz p o) ∧ Rel K T (w.frz p o) (upd H p o) h := by
  have le : w.le (w.frz p o) := ⟨Ex.new (r.fh.none n), rfl, List.prefix_refl _⟩
  refine ⟨le, r.fh.both, r.ph.off (r.ph.none n), fun a u e => ?_, r.pt, fun a u e => ?_, r.nd, r.len, fun i c e => ?_, fun q hq => ?_, tabs_new r.tb n⟩
  · by_cases q : a = p
    · subst q
      have e2 : upd w.F a o a = some u := e
      rw [upd_same] at e2; cases e2; exact no
    · have e2 : upd w.F p o a = some u := e
      rw [upd_ne q] at e2; exact r.ft a u e2
  · have hq : a ≠ p := by
      rintro rfl
      have := r.ph a u e
      rw [n] at this; cases this
    show upd w.F p o a = none
    rw [upd_ne hq]; exact r.dj a u e
  · obtain ⟨q, u, a, b, z⟩ := r.cell i c e
    have hq : q ≠ p := (r.addr_ne (List.mem_of_getElem? a) n).symm
    exact ⟨q, u, a, by rw [upd_ne hq]; exact b, CRp.mono le z⟩
  · have := (r.addr_ne hq n).symm
    refine ⟨?_, (r.free q hq).2⟩
    show upd w.F p o q = none
    rw [upd_ne this]; exact (r.free q hq).1
theorem Wd.frz_at (w : Wd) (p : Addr) (o : HO) : (w.frz p o).F p = some o := upd_same
/-- a cell more -/
def Wd.cel (w : Wd) (p : Addr) : Wd := ⟨w.F, w.Pr, w.A ++ [p]⟩
theorem Rel.cel (r : Rel K T w H h) {p : Addr} {o : HO} {c : Cell} (n : H p = none) (z : CRp K w c o) : w.le (w.cel p) ∧ Rel K T (w.cel p) (upd H p o) (h ++ [c]) ∧ (w.cel p).A[h.length]? = some p := by
  have le : w.le (w.cel p) := ⟨Ex.refl _, rfl, List.prefix_append _ _⟩
  have hp : p ∉ w.A := fun q => r.addr_ne q n rfl
  have hz : (w.cel p).A[h.length]? = some p := by
    show (w.A ++ [p])[h.length]? = some p
    rw [← r.len]; simp
  refine ⟨le, ⟨r.fh.off (r.fh.none n), r.ph.off (r.ph.none n), r.ft, r.pt, r.dj, ?_, ?_, fun i c' e => ?_, fun q hq => ?_, tabs_new r.tb n⟩, hz⟩
  · exact List.nodup_append.mpr ⟨r.nd, by simp, by rintro a ha b hb rfl; simp at hb; subst hb; exact hp ha⟩
  · show (w.A ++ [p]).length = (h ++ [c]).length
    simp [r.len]
  · by_cases hi : i < h.length
    · rw [List.getElem?_append_left hi] at e
      obtain ⟨q, u, a, b, y⟩ := r.cell i c' e
      have hq : q ≠ p := (r.addr_ne (List.mem_of_getElem? a) n).symm
      exact ⟨q, u, pre_get le.a a, by rw [upd_ne hq]; exact b, CRp.mono le y⟩
    · have hl := (List.getElem?_eq_some_iff.mp e).1
      have : i = h.length := by simp at hl; omega
      subst this
      simp at e
      subst e
      exact ⟨p, o, hz, upd_same, CRp.mono le z⟩
  · rcases List.mem_append.mp hq with hq | hq
    · exact r.free q hq
    · simp at hq; subst hq; exact ⟨r.fh.none n, r.ph.none n⟩
/-- a cell is written -/
theorem Rel.put (r : Rel K T w H h) {p : Addr} {o u : HO} {c : Cell} {i : Nat} (a : w.A[i]? = some p) (hu : H p = some u) (nt : isTbl u = false) (z : CRp K w c o) : Rel K T w (upd H p o) (h.set i c) := by
  have fr := r.free p (List.mem_of_getElem? a)
  refine ⟨r.fh.off fr.1, r.ph.off fr.2, r.ft, r.pt, r.dj, r.nd, by simp [r.len], fun j c' e => ?_, r.free, tabs_mut r.tb hu nt⟩
  by_cases hj : j = i
  · subst hj
    have hl : j < h.length := by have := (List.getElem?_eq_some_iff.mp e).1; simpa using this
    rw [List.getElem?_set_self hl] at e
    cases e
    exact ⟨p, o, a, upd_same, z⟩
  · rw [List.getElem?_set_ne (Ne.symm hj)] at e
    obtain ⟨q, v, b, d, y⟩ := r.cell j c' e
    have hq : q ≠ p := by
      rintro rfl
      obtain ⟨h1, e1⟩ := List.getElem?_eq_some_iff.mp a
      obtain ⟨h2, e2⟩ := List.getElem?_eq_some_iff.mp b
      exact hj ((List.getElem_inj r.nd).mp (e2.trans e1.symm))
    exact ⟨q, v, b, by rw [upd_ne hq]; exact d, y⟩
end
end Tp
set_option Elab.async false
set_option linter.all false
set_option maxRecDepth 100000
set_option maxHeartbeats 4000000
namespace Tp
open PySem PySem.Spec PyProof.Rows L2

abbrev Env1 := List (Option D)
abbrev ME := Env1 → List Cell → Option (D × List Cell)
abbrev MT := Env1 → List Cell → Option (Bool × List Cell)
abbrev MA := Env1 → List Cell → Option (List D × List Cell)

/-- a cell looked at -/
def pk (h : List Cell) : D → D
  | .ref n => match h[n]? with
    | some (.lst l) => .lst l
    | some (.dic l) => .dic l
    | _ => .ref n
  | d => d
section
variable {K : PySem.W.Frag} {T : List (Addr × Str)} {w w' : Wd} {H H' : Hp} {h h' : List Cell} {d : D} {v : V}
theorem Rel.sub (r : Rel K T w H h) {a : Addr} {o : HO} (e : w.F a = some o) : H a = some o := r.fh a o e
/-- a list to be read -/
theorem pk_lst (r : Rel K T w H h) (x : Rp K w d v) {l : List D} (e : pk h d = .lst l) : ∃ p vs, v = .ref p ∧ H p = some (.lst vs) ∧ RpL K w l vs := by
  cases d with
  | lst m =>
    cases e
    obtain ⟨p, vs, e1, e2, e3⟩ := x
    exact ⟨p, vs, e1, r.sub e2, e3⟩
  | ref n =>
    obtain ⟨p, e1, e2⟩ := x
    unfold pk at e
    simp only at e
    split at e <;> try (cases e; done)
    rename_i m q
    cases e
    obtain ⟨p', o, a, b, c⟩ := r.cell n _ q
    rw [e2] at a; cases a
    obtain ⟨vs, e3, e4⟩ := c
    subst e3
    exact ⟨p, vs, e1, b, e4⟩
  | _ => cases e
theorem pk_tup (r : Rel K T w H h) (x : Rp K w d v) {l : List D} (e : pk h d = .tup l) : ∃ p vs, v = .ref p ∧ H p = some (.tup vs) ∧ RpL K w l vs := by
  cases d with
  | tup m =>
    cases e
    obtain ⟨p, vs, e1, e2, e3⟩ := x
    exact ⟨p, vs, e1, r.sub e2, e3⟩
  | ref n =>
    unfold pk at e
    simp only at e
    split at e <;> cases e
  | _ => cases e
theorem pk_sq (r : Rel K T w H h) (x : Rp K w d v) {l : List D} (e : pk h d = .sq l) : ∃ p vs, v = .ref p ∧ SqL K H p vs ∧ RpL K w l vs := by
  cases d with
  | sq m =>
    cases e
    obtain ⟨p, vs, e1, e2, e3⟩ := x
    exact ⟨p, vs, e1, SqL.mono r.fh e2, e3⟩
  | ref n =>
    unfold pk at e
    simp only at e
    split at e <;> cases e
  | _ => cases e
theorem pk_dic (r : Rel K T w H h) (x : Rp K w d v) {l : List (Key × D)} (e : pk h d = .dic l) : ∃ p vs, v = .ref p ∧ H p = some (.dK vs) ∧ RpK K w l vs := by
  cases d with
  | dic m =>
    cases e
    obtain ⟨p, vs, e1, e2, e3⟩ := x
    exact ⟨p, vs, e1, r.sub e2, e3⟩
  | ref n =>
    obtain ⟨p, e1, e2⟩ := x
    unfold pk at e
    simp only at e
    split at e <;> try (cases e; done)
    rename_i m q
    cases e
    obtain ⟨p', o, a, b, c⟩ := r.cell n _ q
    rw [e2] at a; cases a
    obtain ⟨vs, e3, e4⟩ := c
    subst e3
    exact ⟨p, vs, e1, b, e4⟩
  | _ => cases e
end

/-! ### judgements: a reading computes -/
section
variable (K : PySem.W.Frag) (T : List (Addr × Str))
def SE (t : TE) (m : ME) : Prop := ∀ (w : Wd) (σ : Slots) (H : Hp) (G : Env1) (h : List Cell) (d : D) (h' : List Cell), Rel K T w H h → EnvR K w σ G → m G h = some (d, h') →
  ∀ Q : VK, (∀ w' v H', w.le w' → Rel K T w' H' h' → Rp K w' d v → Q v H') → t σ H Q
def ST (t : TT) (m : MT) : Prop := ∀ (w : Wd) (σ : Slots) (H : Hp) (G : Env1) (h : List Cell) (b : Bool) (h' : List Cell), Rel K T w H h → EnvR K w σ G → m G h = some (b, h') →
  ∀ Q : Bool → Hp → Prop, (∀ w' H', w.le w' → Rel K T w' H' h' → Q b H') → t σ H Q
def SA (t : TA) (m : MA) : Prop := ∀ (w : Wd) (σ : Slots) (H : Hp) (G : Env1) (h : List Cell) (ds : List D) (h' : List Cell), Rel K T w H h → EnvR K w σ G → m G h = some (ds, h') →
  ∀ Q : List V → Hp → Prop, (∀ w' vs H', w.le w' → Rel K T w' H' h' → RpL K w' ds vs → Q vs H') → t σ H Q
/-- by values: a result, the cells as they are -/
def S2 (r : R2) (f : List Cell → D → D → Option D) : Prop := ∀ (w : Wd) (H : Hp) (h : List Cell) (x y : D) (v u : V) (d : D), Rel K T w H h → Rp K w x v → Rp K w y u → f h x y = some d →
  ∀ Q : VK, (∀ w' z H', w.le w' → Rel K T w' H' h → Rp K w' d z → Q z H') → r v u H Q
def SC (r : List V → Hp → VK → Prop) (f : List Cell → List D → Option (D × List Cell)) : Prop := ∀ (w : Wd) (H : Hp) (h : List Cell) (xs : List D) (vs : List V) (d : D) (h' : List Cell), Rel K T w H h → RpL K w xs vs → f h xs = some (d, h') →
  ∀ Q : VK, (∀ w' z H', w.le w' → Rel K T w' H' h' → Rp K w' d z → Q z H') → r vs H Q
end
def JE (T : List (Addr × Str)) (X : Cx) (e : Expr) (m : ME) : Prop := ∃ t, PE X e t ∧ SE X.K T t m
def JT (T : List (Addr × Str)) (X : Cx) (e : Expr) (m : MT) : Prop := ∃ t, PT X e t ∧ ST X.K T t m
def JW (T : List (Addr × Str)) (X : Cx) (e : Expr) (m : MT) : Prop := ∃ t, PW X e t ∧ ST X.K T t m
def JA (T : List (Addr × Str)) (X : Cx) (es : List Expr) (m : MA) : Prop := ∃ t, PA X es t ∧ SA X.K T t m
theorem JW.t {T X e m} (h : JW T X e m) : JT T X e m := let ⟨t, a, b⟩ := h; ⟨t, a.pt, b⟩

/-! ### what is computed -/
def mV (i : Nat) : ME := fun G h => match G[i]? with
  | some (some d) => some (d, h)
  | _ => none
def mC (d : D) : ME := fun _ h => some (d, h)
def mO2 (f : List Cell → D → D → Option D) (a b : ME) : ME := fun G h => match a G h with
  | none => none
  | some (x, h1) => match b G h1 with
    | none => none
    | some (y, h2) => (f h2 x y).map fun d => (d, h2)
def mNil : MA := fun _ h => some ([], h)
def mCons (a : ME) (r : MA) : MA := fun G h => match a G h with
  | none => none
  | some (x, h1) => match r G h1 with
    | none => none
    | some (xs, h2) => some (x :: xs, h2)
def mTup (a : MA) : ME := fun G h => match a G h with
  | none => none
  | some (xs, h1) => if xs.length ≤ 1000000 then some (.tup xs, h1) else none
/-- a list that is never changed; one that may be -/
def mLst (a : MA) : ME := fun G h => match a G h with
  | none => none
  | some (xs, h1) => if xs.length ≤ 1000000 then some (.lst xs, h1) else none
def mLstC (a : MA) : ME := fun G h => match a G h with
  | none => none
  | some (xs, h1) => if xs.length ≤ 1000000 then some (.ref h1.length, h1 ++ [.lst xs]) else none
def mDicC : ME := fun _ h => some (.ref h.length, h ++ [.dic []])
def mB (f : List Cell → List D → Option (D × List Cell)) (a : MA) : ME := fun G h => match a G h with
  | none => none
  | some (xs, h1) => f h1 xs
def mTest (a : ME) : MT := fun G h => match a G h with
  | some (.bl b, h1) => some (b, h1)
  | _ => none
def mAnd (a b : MT) : MT := fun G h => match a G h with
  | none => none
  | some (true, h1) => b G h1
  | some (false, h1) => some (false, h1)
def mOr (a b : MT) : MT := fun G h => match a G h with
  | none => none
  | some (true, h1) => some (true, h1)
  | some (false, h1) => b G h1
def mNot (a : MT) : MT := fun G h => match a G h with
  | none => none
  | some (b, h1) => some (!b, h1)
def mAndV (a b : ME) : ME := fun G h => match a G h with
  | some (.bl true, h1) => b G h1
  | some (.bl false, h1) => some (.bl false, h1)
  | _ => none
def mOrV (a b : ME) : ME := fun G h => match a G h with
  | some (.bl true, h1) => some (.bl true, h1)
  | some (.bl false, h1) => b G h1
  | _ => none
def mNotV (a : ME) : ME := fun G h => match a G h with
  | some (.bl b, h1) => some (.bl (!b), h1)
  | _ => none
def mIf (t : MT) (a b : ME) : ME := fun G h => match t G h with
  | none => none
  | some (true, h1) => a G h1
  | some (false, h1) => b G h1
/-- a < b < c -/
def mChain (f g : List Cell → D → D → Option D) (a b c : ME) : ME := fun G h => match a G h with
  | none => none
  | some (x, h1) => match b G h1 with
    | none => none
    | some (y, h2) => match f h2 x y with
      | some (.bl true) => (match c G h2 with
        | none => none
        | some (z, h3) => (match g h3 y z with
          | some (.bl k) => some (.bl k, h3)
          | _ => none))
      | some (.bl false) => some (.bl false, h2)
      | _ => none

section
variable {X : Cx} {T : List (Addr × Str)} {a b c e : Expr} {es : List Expr} {pos : Pos} {m n m1 m2 m3 : ME} {q q1 q2 : MT} {l : MA}
theorem je_var (i : Nat) {x : Str} (hN : X.N[i]? = some x := by rfl) (hv : Vis X.env.scope x := by first | exact Or.inl rfl | exact Or.inr (Or.inl rfl) | exact Or.inr (Or.inr rfl)) (hd : (x == ("__debug__" : Str)) = false := by decide)
    (hcd : (x == ("__classdict__" : Str)) = false := by decide) : JE T X (.Name x pos) (mV i) := by
  refine ⟨_, pe_var hN hv hd hcd, fun w σ H G h d h' r e0 hm Q k => ?_⟩
  unfold mV at hm
  split at hm
  · rename_i d' q
    cases hm
    obtain ⟨v, e1, e2⟩ := e0.2 i d q
    exact ⟨v, e1, k w v H (Wd.le.refl w) r e2⟩
  · cases hm
theorem se_c {K : PySem.W.Frag} {d : D} {v : V} (h : ∀ w, Rp K w d v) : SE K T (tC v) (mC d) := fun w σ H G g d' h' r _ hm Q k => by
  cases hm
  exact k w v H (Wd.le.refl w) r (h w)
theorem je_int {i j pos} : JE T X (.Constant (.int i) j pos) (mC (.int i)) := ⟨_, pe_int, se_c fun _ => rfl⟩
theorem je_bl {b j pos} : JE T X (.Constant (.bool b) j pos) (mC (.bl b)) := ⟨_, pe_bl, se_c fun _ => rfl⟩
theorem je_non {j pos} : JE T X (.Constant .none j pos) (mC .non) := ⟨_, pe_non, se_c fun _ => rfl⟩
theorem je_str {x j pos} : JE T X (.Constant (.str x) j pos) (mC (.str x)) := ⟨_, pe_str, se_c fun _ => rfl⟩
theorem je_glob {x : Str} {d : D} {v : V} {u : Value} {pos : Pos} (hg : Gl X x) (hm : X.mg x = some u) (r : RelV v u) (hr : ∀ w, Rp X.K w d v) (hd : (x == ("__debug__" : Str)) = false := by decide) : JE T X (.Name x pos) (mC d) := ⟨_, pe_glob hg hm r hd, se_c hr⟩
theorem se_op {K : PySem.W.Frag} {ta tb : TE} {r : R2} {f : List Cell → D → D → Option D} (ha : SE K T ta m) (hb : SE K T tb n) (hf : S2 K T r f) : SE K T (tOp r ta tb) (mO2 f m n) := by
  intro w σ H G h d h' R E hm Q k
  unfold mO2 at hm
  split at hm
  · cases hm
  · rename_i x h1 ea
    split at hm
    · cases hm
    · rename_i y h2 eb
      cases ef : f h2 x y with
      | none => rw [ef] at hm; cases hm
      | some d' =>
        rw [ef] at hm
        cases hm
        refine ha w σ H G h x h1 R E ea _ fun w1 v1 H1 l1 R1 x1 => ?_
        refine hb w1 σ H1 G h1 y h' R1 (E.mono l1) eb _ fun w2 v2 H2 l2 R2 x2 => ?_
        exact hf w2 H2 h' x y v1 v2 d R2 (Rp.mono l2 _ _ x1) x2 ef Q fun w3 z H3 l3 R3 x3 => k w3 z H3 ((l1.trans l2).trans l3) R3 x3
theorem je_op {op : Operator} {r : R2} {f : List Cell → D → D → Option D} (ho : OpR X (binaryOp op) r) (hf : S2 X.K T r f) (ha : JE T X a m) (hb : JE T X b n) : JE T X (.BinOp a op b pos) (mO2 f m n) := by
  obtain ⟨ta, pa, sa⟩ := ha
  obtain ⟨tb, pb, sb⟩ := hb
  exact ⟨_, pe_op ho pa pb, se_op sa sb hf⟩
theorem je_cmp {op : CmpOp} {r : R2} {f : List Cell → D → D → Option D} (ho : OpR X (compareOp op) r) (hf : S2 X.K T r f) (ha : JE T X a m) (hb : JE T X b n) (hm : behindInMarks op b = false) : JE T X (.Compare a [op] [b] pos) (mO2 f m n) := by
  obtain ⟨ta, pa, sa⟩ := ha
  obtain ⟨tb, pb, sb⟩ := hb
  exact ⟨_, pe_cmpR ho pa pb hm, se_op sa sb hf⟩
theorem st_test {K : PySem.W.Frag} {t : TE} (h : SE K T t m) : ST K T (tTest t) (mTest m) := by
  intro w σ H G g b h' R E hm Q k
  unfold mTest at hm
  split at hm
  · rename_i b' h1 e
    cases hm
    exact h w σ H G g _ _ R E e _ fun w1 v H1 l1 R1 x => ⟨b, x, k w1 H1 l1 R1⟩
  · cases hm
theorem jt_cmp {op : CmpOp} {r : R2} {f : List Cell → D → D → Option D} (ho : OpR X (compareOp op) r) (hf : S2 X.K T r f) (ha : JE T X a m) (hb : JE T X b n) (hm : behindInMarks op b = false) : JT T X (.Compare a [op] [b] pos) (mTest (mO2 f m n)) := by
  obtain ⟨ta, pa, sa⟩ := ha
  obtain ⟨tb, pb, sb⟩ := hb
  exact ⟨_, pt_cmpR ho pa pb hm, st_test (se_op sa sb hf)⟩
/-- an expression that gives a truth, as a test -/
theorem jt_val (h : JE T X e m) (he : ∀ whole, isTrue e X.env whole = (do let v ← whole; standAt e.pos; holding [v] (truthy v)) := by intro _; rfl) : JT T X e (mTest m) := by
  obtain ⟨t, p, s⟩ := h
  exact ⟨_, pt_val p he, st_test s⟩
theorem st_and {K : PySem.W.Frag} {t u : TT} (h1 : ST K T t q1) (h2 : ST K T u q2) : ST K T (tAnd t u) (mAnd q1 q2) := by
  intro w σ H G g b h' R E hm Q k
  unfold mAnd at hm
  split at hm
  · cases hm
  · rename_i h3 e
    refine h1 w σ H G g _ _ R E e _ fun w1 H1 l1 R1 => ?_
    show u σ H1 Q
    exact h2 w1 σ H1 G _ _ _ R1 (E.mono l1) hm Q fun w2 H2 l2 R2 => k w2 H2 (l1.trans l2) R2
  · rename_i h3 e
    cases hm
    refine h1 w σ H G g _ _ R E e _ fun w1 H1 l1 R1 => ?_
    exact k w1 H1 l1 R1
theorem st_or {K : PySem.W.Frag} {t u : TT} (h1 : ST K T t q1) (h2 : ST K T u q2) : ST K T (tOr t u) (mOr q1 q2) := by
  intro w σ H G g b h' R E hm Q k
  unfold mOr at hm
  split at hm
  · cases hm
  · rename_i h3 e
    cases hm
    refine h1 w σ H G g _ _ R E e _ fun w1 H1 l1 R1 => ?_
    exact k w1 H1 l1 R1
  · rename_i h3 e
    refine h1 w σ H G g _ _ R E e _ fun w1 H1 l1 R1 => ?_
    show u σ H1 Q
    exact h2 w1 σ H1 G _ _ _ R1 (E.mono l1) hm Q fun w2 H2 l2 R2 => k w2 H2 (l1.trans l2) R2
theorem jw_and (h1 : JT T X a q1) (h2 : JW T X (.BoolOp .And (b :: es) pos) q2) : JW T X (.BoolOp .And (a :: b :: es) pos) (mAnd q1 q2) := by
  obtain ⟨t, p, s⟩ := h1
  obtain ⟨t2, p2, s2⟩ := h2
  exact ⟨_, pw_and p p2, st_and s s2⟩
theorem jw_or (h1 : JT T X a q1) (h2 : JW T X (.BoolOp .Or (b :: es) pos) q2) : JW T X (.BoolOp .Or (a :: b :: es) pos) (mOr q1 q2) := by
  obtain ⟨t, p, s⟩ := h1
  obtain ⟨t2, p2, s2⟩ := h2
  exact ⟨_, pw_or p p2, st_or s s2⟩
theorem jw_and1 (h1 : JT T X a q1) : JW T X (.BoolOp .And [a] pos) q1 := let ⟨_, p, s⟩ := h1; ⟨_, pw_and1 p, s⟩
theorem jw_or1 (h1 : JT T X a q1) : JW T X (.BoolOp .Or [a] pos) q1 := let ⟨_, p, s⟩ := h1; ⟨_, pw_or1 p, s⟩
theorem jt_not (h1 : JT T X a q1) : JT T X (.UnaryOp .Not a pos) (mNot q1) := by
  obtain ⟨t, p, s⟩ := h1
  refine ⟨_, pt_not p, fun w σ H G g b h' R E hm Q k => ?_⟩
  unfold mNot at hm
  split at hm
  · cases hm
  · rename_i b' h1 e
    cases hm
    exact s w σ H G g _ _ R E e _ fun w1 H1 l1 R1 => k w1 H1 l1 R1
theorem je_and (h1 : JE T X a m1) (h2 : JE T X (.BoolOp .And (b :: es) pos) m2) : JE T X (.BoolOp .And (a :: b :: es) pos) (mAndV m1 m2) := by
  obtain ⟨t, p, s⟩ := h1
  obtain ⟨t2, p2, s2⟩ := h2
  refine ⟨_, pe_and p p2, fun w σ H G g d h' R E hm Q k => ?_⟩
  unfold mAndV at hm
  split at hm
  · rename_i h3 e
    refine s w σ H G g _ _ R E e _ fun w1 v H1 l1 R1 x => ⟨true, x, ?_⟩
    show t2 σ H1 Q
    exact s2 w1 σ H1 G _ _ _ R1 (E.mono l1) hm Q fun w2 v2 H2 l2 R2 x2 => k w2 v2 H2 (l1.trans l2) R2 x2
  · rename_i h3 e
    cases hm
    exact s w σ H G g _ _ R E e _ fun w1 v H1 l1 R1 x => ⟨false, x, k w1 _ H1 l1 R1 rfl⟩
  · cases hm
theorem je_or (h1 : JE T X a m1) (h2 : JE T X (.BoolOp .Or (b :: es) pos) m2) : JE T X (.BoolOp .Or (a :: b :: es) pos) (mOrV m1 m2) := by
  obtain ⟨t, p, s⟩ := h1
  obtain ⟨t2, p2, s2⟩ := h2
  refine ⟨_, pe_or p p2, fun w σ H G g d h' R E hm Q k => ?_⟩
  unfold mOrV at hm
  split at hm
  · rename_i h3 e
    cases hm
    exact s w σ H G g _ _ R E e _ fun w1 v H1 l1 R1 x => ⟨true, x, k w1 _ H1 l1 R1 rfl⟩
  · rename_i h3 e
    refine s w σ H G g _ _ R E e _ fun w1 v H1 l1 R1 x => ⟨false, x, ?_⟩
    show t2 σ H1 Q
    exact s2 w1 σ H1 G _ _ _ R1 (E.mono l1) hm Q fun w2 v2 H2 l2 R2 x2 => k w2 v2 H2 (l1.trans l2) R2 x2
  · cases hm
theorem je_one {op} (h1 : JE T X a m1) : JE T X (.BoolOp op [a] pos) m1 := let ⟨_, p, s⟩ := h1; ⟨_, pe_one p, s⟩
theorem je_not (h1 : JE T X a m1) : JE T X (.UnaryOp .Not a pos) (mNotV m1) := by
  obtain ⟨t, p, s⟩ := h1
  refine ⟨_, pe_not p, fun w σ H G g b h' R E hm Q k => ?_⟩
  unfold mNotV at hm
  split at hm
  · rename_i b' h1 e
    cases hm
    exact s w σ H G g _ _ R E e _ fun w1 v H1 l1 R1 x => ⟨b', x, k w1 _ H1 l1 R1 rfl⟩
  · cases hm
theorem je_ifExp (hc : JT T X c q) (ha : JE T X a m1) (hb : JE T X b m2) : JE T X (.IfExp c a b pos) (mIf q m1 m2) := by
  obtain ⟨t, p, s⟩ := hc
  obtain ⟨t1, p1, s1⟩ := ha
  obtain ⟨t2, p2, s2⟩ := hb
  refine ⟨_, pe_ifExp p p1 p2, fun w σ H G g d h' R E hm Q k => ?_⟩
  unfold mIf at hm
  split at hm
  · cases hm
  · rename_i h3 e
    refine s w σ H G g _ _ R E e _ fun w1 H1 l1 R1 => ?_
    show t1 σ H1 Q
    exact s1 w1 σ H1 G _ _ _ R1 (E.mono l1) hm Q fun w2 v2 H2 l2 R2 x2 => k w2 v2 H2 (l1.trans l2) R2 x2
  · rename_i h3 e
    refine s w σ H G g _ _ R E e _ fun w1 H1 l1 R1 => ?_
    show t2 σ H1 Q
    exact s2 w1 σ H1 G _ _ _ R1 (E.mono l1) hm Q fun w2 v2 H2 l2 R2 x2 => k w2 v2 H2 (l1.trans l2) R2 x2
theorem ja_nil : JA T X [] mNil := ⟨_, pa_nil, fun w σ H G g d h' R E hm Q k => by cases hm; exact k w [] H (Wd.le.refl w) R rfl⟩
theorem ja_cons (ha : JE T X e m) (hl : JA T X es l) (hs : starEach (e :: es) X.env = (false, eval e X.env) :: starEach es X.env := by rfl) : JA T X (e :: es) (mCons m l) := by
  obtain ⟨t, p, s⟩ := ha
  obtain ⟨t2, p2, s2⟩ := hl
  refine ⟨_, pa_cons p p2 hs, fun w σ H G g d h' R E hm Q k => ?_⟩
  unfold mCons at hm
  split at hm
  · cases hm
  · rename_i x h1 ea
    split at hm
    · cases hm
    · rename_i y h2 eb
      cases hm
      refine s w σ H G g x h1 R E ea _ fun w1 v1 H1 l1 R1 x1 => ?_
      refine s2 w1 σ H1 G h1 y _ R1 (E.mono l1) eb _ fun w2 v2 H2 l2 R2 x2 => ?_
      exact k w2 _ H2 (l1.trans l2) R2 ⟨v1, v2, rfl, Rp.mono l2 _ _ x1, x2⟩
theorem line_of {n : Nat} (h : n ≤ 1000000) : n ≤ sizeLine := Nat.le_trans h (by decide)
theorem line_lt {n : Nat} (h : n < 1000000) : n < sizeLine := Nat.lt_of_lt_of_le h (by decide)
/-- something new and frozen -/
theorem fin_frz {K : PySem.W.Frag} {w : Wd} {H : Hp} {h : List Cell} {Q : VK} {d : D} {o : HO} (R : Rel K T w H h) (no : isTbl o = false) (hd : ∀ (w' : Wd) (p : Addr), w.le w' → w'.F p = some o → Rp K w' d (.ref p))
    (k : ∀ w' v H', w.le w' → Rel K T w' H' h → Rp K w' d v → Q v H') : ∀ p, H p = none → Q (.ref p) (upd H p o) := fun p hp =>
  let ⟨a, b⟩ := R.frz hp no
  k _ _ _ a b (hd _ p a (Wd.frz_at w p o))
theorem je_tup {x1} (h : JA T X es l) : JE T X (.Tuple es x1 pos) (mTup l) := by
  obtain ⟨t, p, s⟩ := h
  refine ⟨_, pe_tup p, fun w σ H G g d h' R E hm Q k => ?_⟩
  unfold mTup at hm
  split at hm
  · cases hm
  · rename_i xs h1 e
    split at hm
    · rename_i hz
      cases hm
      refine s w σ H G g xs _ R E e _ fun w1 vs H1 l1 R1 x1 => ⟨by rw [← x1.len]; exact line_of hz, ?_⟩
      exact fin_frz (d := .tup xs) R1 rfl (fun w' p l2 e => ⟨p, vs, rfl, e, RpL.mono l2 _ _ x1⟩) fun w2 v H2 l2 R2 x2 => k w2 v H2 (l1.trans l2) R2 x2
    · cases hm
theorem je_lst (h : JA T X es l) : JE T X (.List es pos) (mLst l) := by
  obtain ⟨t, p, s⟩ := h
  refine ⟨_, pe_lst p, fun w σ H G g d h' R E hm Q k => ?_⟩
  unfold mLst at hm
  split at hm
  · cases hm
  · rename_i xs h1 e
    split at hm
    · rename_i hz
      cases hm
      refine s w σ H G g xs _ R E e _ fun w1 vs H1 l1 R1 x1 => ⟨by rw [← x1.len]; exact line_of hz, ?_⟩
      exact fin_frz (d := .lst xs) R1 rfl (fun w' p l2 e => ⟨p, vs, rfl, e, RpL.mono l2 _ _ x1⟩) fun w2 v H2 l2 R2 x2 => k w2 v H2 (l1.trans l2) R2 x2
    · cases hm
theorem je_lstC (h : JA T X es l) : JE T X (.List es pos) (mLstC l) := by
  obtain ⟨t, p, s⟩ := h
  refine ⟨_, pe_lst p, fun w σ H G g d h' R E hm Q k => ?_⟩
  unfold mLstC at hm
  split at hm
  · cases hm
  · rename_i xs h1 e
    split at hm
    · rename_i hz
      cases hm
      refine s w σ H G g xs _ R E e _ fun w1 vs H1 l1 R1 x1 => ⟨by rw [← x1.len]; exact line_of hz, fun p hp => ?_⟩
      obtain ⟨l2, R2, z⟩ := R1.cel (c := .lst xs) hp ⟨vs, rfl, x1⟩
      exact k _ _ _ (l1.trans l2) R2 ⟨p, rfl, z⟩
    · cases hm
theorem je_dicC : JE T X (.Dict [] [] pos) mDicC := by
  refine ⟨_, pe_dnewK, fun w σ H G g d h' R E hm Q k p hp => ?_⟩
  cases hm
  obtain ⟨l2, R2, z⟩ := R.cel (c := .dic []) hp ⟨[], rfl, rfl⟩
  exact k _ _ _ l2 R2 ⟨p, rfl, z⟩
theorem se_cb {K : PySem.W.Frag} {t : TA} {r : List V → Hp → VK → Prop} {f : List Cell → List D → Option (D × List Cell)} (h : SA K T t l) (hf : SC K T r f) : SE K T (tCB r t) (mB f l) := by
  intro w σ H G g d h' R E hm Q k
  unfold mB at hm
  split at hm
  · cases hm
  · rename_i xs h1 e
    exact h w σ H G g xs h1 R E e _ fun w1 vs H1 l1 R1 x1 => hf w1 H1 h1 xs vs d h' R1 x1 hm Q fun w2 z H2 l2 R2 x2 => k w2 z H2 (l1.trans l2) R2 x2
theorem je_callB {id : String} {r : List V → Hp → VK → Prop} {f : List Cell → List D → Option (D × List Cell)} {x : Str} {p : Pos} (hc : CallR X (.builtin id) r) (hf : SC X.K T r f) (hg : Gl X x) (hm : X.mg x = none) (hv : bootBuiltins x = some (.builtin id)) (ha : JA T X (e :: es) l) (hn : x ≠ "__name__" := by decide) (hdb : (x == ("__debug__" : Str)) = false := by decide)
    (he : starEach (e :: es) X.env = (false, eval e X.env) :: starEach es X.env := by rfl) (hpl : (backTo pos (starEach es X.env)).any (·.1) = false := by rfl) : JE T X (.Call (.Name x p) (e :: es) [] pos) (mB f l) := by
  obtain ⟨t, q, s⟩ := ha
  exact ⟨_, pe_callB hc hg hm hv q hn hdb he hpl, se_cb s hf⟩
theorem je_callTy {id : String} {r : List V → Hp → VK → Prop} {f : List Cell → List D → Option (D × List Cell)} {x : Str} {p : Pos} (hc : CallR X (.type id) r) (hf : SC X.K T r f) (hg : Gl X x) (hm : X.mg x = none) (hv : bootBuiltins x = some (.type id)) (ha : JA T X (e :: es) l) (hn : x ≠ "__name__" := by decide) (hdb : (x == ("__debug__" : Str)) = false := by decide)
    (he : starEach (e :: es) X.env = (false, eval e X.env) :: starEach es X.env := by rfl) (hpl : (backTo pos (starEach es X.env)).any (·.1) = false := by rfl) : JE T X (.Call (.Name x p) (e :: es) [] pos) (mB f l) := by
  obtain ⟨t, q, s⟩ := ha
  exact ⟨_, pe_callTy hc hg hm hv q hn hdb he hpl, se_cb s hf⟩
/-- a def's call -/
def spF (K : PySem.W.Frag) (T : List (Addr × Str)) (f : List Cell → List D → Option (D × List Cell)) : Sp := fun vs H Q _ => ∃ (w : Wd) (h : List Cell) (ds : List D) (d : D) (h' : List Cell), Rel K T w H h ∧ RpL K w ds vs ∧ f h ds = some (d, h') ∧
  ∀ w' v H', w.le w' → Rel K T w' H' h' → Rp K w' d v → Q v H'
theorem je_call {CX : CXT} {k : Nat} {f : Addr} {fd : FuncData} {ps : List Str} {F : List Cell → List D → Option (D × List Cell)} {ds : List Value} {E : XK} {x : Str} {p : Pos} (G : FnOk X.prog X.w X.K X.mg X.base CX k f fd ps (spF X.K T F)) (hr : Room k X.A) (hg : Gl X x) (hm : X.mg x = some (.ref f)) (hk : PySem.W.keepIn X.K (.ref f) = true) (hb : Binds X.K fd ps []) (hx : Passes CX X E)
    (ha : JA T X (e :: es) l) (hdb : (x == ("__debug__" : Str)) = false := by decide) (he : starEach (e :: es) X.env = (false, eval e X.env) :: starEach es X.env := by rfl) (hpl : (backTo pos (starEach es X.env)).any (·.1) = false := by rfl) :
    JE T X (.Call (.Name x p) (e :: es) [] pos) (mB F l) := by
  obtain ⟨t, q, s⟩ := ha
  refine ⟨_, pe_call G hr hg hm hk hb .nil hx q hdb he hpl, fun w σ H G1 g d h' R E1 hm1 Q k1 => ?_⟩
  unfold mB at hm1
  split at hm1
  · cases hm1
  · rename_i xs h1 e1
    refine s w σ H G1 g xs h1 R E1 e1 _ fun w1 vs H1 l1 R1 x1 => ?_
    show spF X.K T F (vs ++ []) H1 Q E
    rw [List.append_nil]
    exact ⟨w1, h1, xs, d, h', R1, x1, hm1, fun w2 z H2 l2 R2 x2 => k1 w2 z H2 (l1.trans l2) R2 x2⟩
end
end Tp
set_option Elab.async false
set_option linter.all false
set_option maxRecDepth 100000
set_option maxHeartbeats 4000000
namespace Tp
open PySem PySem.Spec PyProof.Rows L2

/-! ### operators -/
abbrev F2 := List Cell → D → D → Option D
def small (i : Int) : Bool := decide (-(2 ^ 64) < i) && decide (i < 2 ^ 64)
def fAdd : F2 := fun h x y => match x, y with
  | .int i, .int j => some (.int (i + j))
  | .str a, .str b => if a.length + b.length ≤ 1000000 then some (.str (a ++ b)) else none
  | x, y => match pk h x, pk h y with
    | .lst a, .lst b => if a.length + b.length ≤ 1000000 then some (.lst (a ++ b)) else none
    | _, _ => none
def fSub : F2 := fun _ x y => match x, y with
  | .int i, .int j => some (.int (i - j))
  | _, _ => none
def fMul : F2 := fun _ x y => match x, y with
  | .int i, .int j => if small i || small j then some (.int (i * j)) else none
  | _, _ => none
def fFdiv : F2 := fun _ x y => match x, y with
  | .int i, .int j => if 0 < j ∧ j < 1073741824 then some (.int (i / j)) else none
  | _, _ => none
def fMod : F2 := fun _ x y => match x, y with
  | .int i, .int j => if 0 < j then some (.int (i % j)) else none
  | _, _ => none
def fPow : F2 := fun _ x y => match x, y with
  | .int i, .int j => if 0 ≤ j ∧ j ≤ 1000000 ∧ i.natAbs < 2 ^ 64 then some (.int (i ^ j.toNat)) else none
  | _, _ => none
def fShr : F2 := fun _ x y => match x, y with
  | .int i, .int j => if 0 ≤ j then some (.int (i / 2 ^ j.toNat)) else none
  | _, _ => none
def fLt : F2 := fun _ x y => match x, y with
  | .int i, .int j => some (.bl (decide (i < j)))
  | .str a, .str b => some (.bl (decide (a.cps.toList < b.cps.toList)))
  | _, _ => none
def fLe : F2 := fun _ x y => match x, y with
  | .int i, .int j => some (.bl (decide (i ≤ j)))
  | .str i, .str j => some (.bl (!decide (j.cps.toList < i.cps.toList)))
  | _, _ => none
def fGt : F2 := fun _ x y => match x, y with
  | .int i, .int j => some (.bl (decide (j < i)))
  | _, _ => none
def fGe : F2 := fun _ x y => match x, y with
  | .int i, .int j => some (.bl (decide (j ≤ i)))
  | _, _ => none
def fIsN : F2 := fun _ x y => match x, y with
  | .non, .non => some (.bl true)
  | .ref _, .non => some (.bl false)
  | _, .non => some (.bl false)
  | _, _ => none
def fNotN : F2 := fun _ x y => match x, y with
  | .non, .non => some (.bl false)
  | _, .non => some (.bl true)
  | _, _ => none
section
variable {X : Cx} {K : PySem.W.Frag} {T : List (Addr × Str)}
/-- a flat answer, nothing new -/
theorem s2_flat {r : R2} {f : F2} (hh : ∀ (w : Wd) (H : Hp) (h : List Cell) (x y : D) (v u : V) (d : D), Rel K T w H h → Rp K w x v → Rp K w y u → f h x y = some d → ∀ Q : VK, (∀ z, (∀ w', Rp K w' d z) → Q z H) → r v u H Q) : S2 K T r f :=
  fun w H h x y v u d R a b e Q k => hh w H h x y v u d R a b e Q fun z hz => k w z H (Wd.le.refl w) R (hz w)
def rAddI : R2 := rI0 fun i j => .int (i + j)
def rAddS : R2 := fun x y H Q => ∃ i j, x = .str i ∧ y = .str j ∧ i.length + j.length ≤ sizeLine ∧ Q (.str (i ++ j)) H
theorem op_addU : OpR X (binaryOp .Add) (fun x y H Q => rAddI x y H Q ∨ (rAddS x y H Q ∨ rCat x y H Q)) := OpR.or op_add (OpR.or op_add_str op_cat)
theorem s_add : S2 K T (fun x y H Q => rAddI x y H Q ∨ (rAddS x y H Q ∨ rCat x y H Q)) fAdd := by
  intro w H h x y v u d R a b e Q k
  unfold fAdd at e
  split at e
  · cases e
    cases a; cases b
    exact .inl ⟨_, _, rfl, rfl, k w _ H (Wd.le.refl w) R rfl⟩
  · split at e
    · rename_i hz
      cases e
      cases a; cases b
      exact .inr (.inl ⟨_, _, rfl, rfl, line_of hz, k w _ H (Wd.le.refl w) R rfl⟩)
    · cases e
  · split at e
    · rename_i l1 l2 e1 e2
      split at e
      · rename_i hz
        cases e
        obtain ⟨p, vs, rfl, hp, x1⟩ := pk_lst R a e1
        obtain ⟨q, us, rfl, hq, x2⟩ := pk_lst R b e2
        refine .inr (.inr ⟨p, q, vs, us, rfl, rfl, hp, hq, by rw [← x1.len, ← x2.len]; exact line_of hz, ?_⟩)
        exact fin_frz (d := .lst (l1 ++ l2)) R rfl (fun w' p l e => ⟨p, _, rfl, e, (RpL.mono l _ _ x1).app (RpL.mono l _ _ x2)⟩) k
      · cases e
    · cases e
theorem s_sub : S2 K T (rI0 fun i j => .int (i - j)) fSub := s2_flat fun w H h x y v u d R a b e Q k => by
  unfold fSub at e
  split at e <;> cases e
  cases a; cases b
  exact ⟨_, _, rfl, rfl, k _ fun _ => rfl⟩
theorem small_ok {i : Int} (h : small i = true) : -(2 ^ 64) < i ∧ i < 2 ^ 64 := by
  unfold small at h
  rw [Bool.and_eq_true] at h
  exact ⟨of_decide_eq_true h.1, of_decide_eq_true h.2⟩
theorem s_mul : S2 K T (rI CMul fun i j => .int (i * j)) fMul := s2_flat fun w H h x y v u d R a b e Q k => by
  unfold fMul at e
  split at e
  · split at e
    · rename_i hz
      cases e
      cases a; cases b
      rw [Bool.or_eq_true] at hz
      exact ⟨_, _, rfl, rfl, hz.imp small_ok small_ok, k _ fun _ => rfl⟩
    · cases e
  · cases e
theorem s_fdiv : S2 K T (rI CDiv fun i j => .int (i / j)) fFdiv := s2_flat fun w H h x y v u d R a b e Q k => by
  unfold fFdiv at e
  split at e
  · split at e
    · rename_i hz
      cases e
      cases a; cases b
      exact ⟨_, _, rfl, rfl, hz, k _ fun _ => rfl⟩
    · cases e
  · cases e
theorem s_mod : S2 K T (rI (fun _ j => 0 < j) fun i j => .int (i % j)) fMod := s2_flat fun w H h x y v u d R a b e Q k => by
  unfold fMod at e
  split at e
  · split at e
    · rename_i hz
      cases e
      cases a; cases b
      exact ⟨_, _, rfl, rfl, hz, k _ fun _ => rfl⟩
    · cases e
  · cases e
theorem s_pow : S2 K T (rI CPow fun i j => .int (i ^ j.toNat)) fPow := s2_flat fun w H h x y v u d R a b e Q k => by
  unfold fPow at e
  split at e
  · split at e
    · rename_i hz
      cases e
      cases a; cases b
      exact ⟨_, _, rfl, rfl, hz, k _ fun _ => rfl⟩
    · cases e
  · cases e
theorem s_shr : S2 K T (rI (fun _ j => 0 ≤ j) fun i j => .int (i / 2 ^ j.toNat)) fShr := s2_flat fun w H h x y v u d R a b e Q k => by
  unfold fShr at e
  split at e
  · split at e
    · rename_i hz
      cases e
      cases a; cases b
      exact ⟨_, _, rfl, rfl, hz, k _ fun _ => rfl⟩
    · cases e
  · cases e
def rLtS : R2 := fun x y H Q => ∃ i j, x = .str i ∧ y = .str j ∧ Q (.bl (decide (i.cps.toList < j.cps.toList))) H
def rLeS : R2 := fun x y H Q => ∃ i j, x = .str i ∧ y = .str j ∧ Q (.bl (!decide (j.cps.toList < i.cps.toList))) H
theorem op_ltU : OpR X (compareOp .Lt) (fun x y H Q => rI0 (fun i j => .bl (decide (i < j))) x y H Q ∨ rLtS x y H Q) := OpR.or op_lt op_lt_str
theorem op_leU : OpR X (compareOp .LtE) (fun x y H Q => rI0 (fun i j => .bl (decide (i ≤ j))) x y H Q ∨ rLeS x y H Q) := OpR.or op_le op_le_str
theorem s_lt : S2 K T (fun x y H Q => rI0 (fun i j => .bl (decide (i < j))) x y H Q ∨ rLtS x y H Q) fLt := s2_flat fun w H h x y v u d R a b e Q k => by
  unfold fLt at e
  split at e <;> cases e
  · cases a; cases b
    exact .inl ⟨_, _, rfl, rfl, k _ fun _ => rfl⟩
  · cases a; cases b
    exact .inr ⟨_, _, rfl, rfl, k _ fun _ => rfl⟩
theorem s_le : S2 K T (fun x y H Q => rI0 (fun i j => .bl (decide (i ≤ j))) x y H Q ∨ rLeS x y H Q) fLe := s2_flat fun w H h x y v u d R a b e Q k => by
  unfold fLe at e
  split at e <;> cases e
  · cases a; cases b
    exact .inl ⟨_, _, rfl, rfl, k _ fun _ => rfl⟩
  · cases a; cases b
    exact .inr ⟨_, _, rfl, rfl, k _ fun _ => rfl⟩
theorem s_gt : S2 K T (rI0 fun i j => .bl (decide (j < i))) fGt := s2_flat fun w H h x y v u d R a b e Q k => by
  unfold fGt at e
  split at e <;> cases e
  cases a; cases b
  exact ⟨_, _, rfl, rfl, k _ fun _ => rfl⟩
theorem s_ge : S2 K T (rI0 fun i j => .bl (decide (j ≤ i))) fGe := s2_flat fun w H h x y v u d R a b e Q k => by
  unfold fGe at e
  split at e <;> cases e
  cases a; cases b
  exact ⟨_, _, rfl, rfl, k _ fun _ => rfl⟩
theorem Rp.not_non {w : Wd} {x : D} {v : V} (a : Rp K w x v) (h : x ≠ .non) : v ≠ .non := by
  cases x with
  | non => exact absurd rfl h
  | bl _ => cases a; exact fun z => by cases z
  | int _ => cases a; exact fun z => by cases z
  | str _ => cases a; exact fun z => by cases z
  | tup _ => obtain ⟨p, vs, rfl, _⟩ := a; exact fun z => by cases z
  | lst _ => obtain ⟨p, vs, rfl, _⟩ := a; exact fun z => by cases z
  | dic _ => obtain ⟨p, vs, rfl, _⟩ := a; exact fun z => by cases z
  | sq _ => obtain ⟨p, vs, rfl, _⟩ := a; exact fun z => by cases z
  | ref _ => obtain ⟨p, rfl, _⟩ := a; exact fun z => by cases z
  | ty _ => cases a; exact fun z => by cases z
  | cls _ => cases a; exact fun z => by cases z
def rIsN : R2 := fun x y H Q => y = .non ∧ Q (.bl (decide (x = .non))) H
def rNotN : R2 := fun x y H Q => y = .non ∧ Q (.bl (!decide (x = .non))) H
theorem op_isN' : OpR X (compareOp .Is) rIsN := op_isN
theorem op_notN' : OpR X (compareOp .IsNot) rNotN := op_notN
theorem s_isN : S2 K T rIsN fIsN := s2_flat fun w H h x y v u d R a b e Q k => by
  unfold fIsN at e
  split at e <;> cases e <;> cases b
  · cases a; exact ⟨rfl, by rw [decide_eq_true rfl]; exact k _ fun _ => rfl⟩
  · exact ⟨rfl, by rw [decide_eq_false (a.not_non (by simp))]; exact k _ fun _ => rfl⟩
  · rename_i hn _
    exact ⟨rfl, by rw [decide_eq_false (a.not_non (by assumption))]; exact k _ fun _ => rfl⟩
theorem s_notN : S2 K T rNotN fNotN := s2_flat fun w H h x y v u d R a b e Q k => by
  unfold fNotN at e
  split at e <;> cases e <;> cases b
  · cases a; exact ⟨rfl, by rw [decide_eq_true rfl]; exact k _ fun _ => rfl⟩
  · exact ⟨rfl, by rw [decide_eq_false (a.not_non (by assumption))]; exact k _ fun _ => rfl⟩
end
end Tp
set_option Elab.async false
set_option linter.all false
set_option maxRecDepth 100000
set_option maxHeartbeats 4000000
namespace Tp
open PySem PySem.Spec PyProof.Rows L2

/-! ### cells taken out: data alone -/
mutual
def mapR (r : Nat → Option D) : D → Option D
  | .non => some .non
  | .bl b => some (.bl b)
  | .int i => some (.int i)
  | .str s => some (.str s)
  | .tup l => (mapRL r l).map .tup
  | .lst l => (mapRL r l).map .lst
  | .dic l => (mapRK r l).map .dic
  | .sq l => (mapRL r l).map .sq
  | .ref n => r n
  | .ty n => some (.ty n)
  | .cls C => some (.cls C)
def mapRL (r : Nat → Option D) : List D → Option (List D)
  | [] => some []
  | d :: l => match mapR r d, mapRL r l with
    | some a, some b => some (a :: b)
    | _, _ => none
def mapRK (r : Nat → Option D) : List (Key × D) → Option (List (Key × D))
  | [] => some []
  | (k, d) :: l => match mapR r d, mapRK r l with
    | some a, some b => some ((k, a) :: b)
    | _, _ => none
end
def resN : Nat → List Cell → Nat → Option D
  | 0, _, _ => none
  | n + 1, h, k => match h[k]? with
    | some (.lst l) => (mapRL (resN n h) l).map .lst
    | some (.dic l) => (mapRK (resN n h) l).map .dic
    | _ => none
def frz (h : List Cell) (d : D) : Option D := mapR (resN 20 h) d

section
variable {K : PySem.W.Frag} {T : List (Addr × Str)} {w : Wd} {H : Hp} {h : List Cell}
/-- the heap as a world -/
abbrev Wd.all (w : Wd) (H : Hp) : Wd := ⟨H, w.Pr, []⟩
mutual
theorem mapR_ok (fh : Ex w.F H) {r : Nat → Option D} (hr : ∀ k d' p, r k = some d' → w.A[k]? = some p → Rp K (w.all H) d' (.ref p)) : ∀ (d : D) (v : V) (d' : D), Rp K w d v → mapR r d = some d' → Rp K (w.all H) d' v
  | .non, _, _, x, e => by cases e; exact x
  | .bl _, _, _, x, e => by cases e; exact x
  | .int _, _, _, x, e => by cases e; exact x
  | .str _, _, _, x, e => by cases e; exact x
  | .tup l, v, d', ⟨p, vs, ev, a, b⟩, e => by
    unfold mapR at e
    cases q : mapRL r l with
    | none => rw [q] at e; cases e
    | some l' => rw [q] at e; cases e; exact ⟨p, vs, ev, fh _ _ a, mapRL_ok fh hr l vs l' b q⟩
  | .lst l, v, d', ⟨p, vs, ev, a, b⟩, e => by
    unfold mapR at e
    cases q : mapRL r l with
    | none => rw [q] at e; cases e
    | some l' => rw [q] at e; cases e; exact ⟨p, vs, ev, fh _ _ a, mapRL_ok fh hr l vs l' b q⟩
  | .dic l, v, d', ⟨p, vs, ev, a, b⟩, e => by
    unfold mapR at e
    cases q : mapRK r l with
    | none => rw [q] at e; cases e
    | some l' => rw [q] at e; cases e; exact ⟨p, vs, ev, fh _ _ a, mapRK_ok fh hr l vs l' b q⟩
  | .sq l, v, d', ⟨p, vs, ev, a, b⟩, e => by
    unfold mapR at e
    cases q : mapRL r l with
    | none => rw [q] at e; cases e
    | some l' => rw [q] at e; cases e; exact ⟨p, vs, ev, SqL.mono fh a, mapRL_ok fh hr l vs l' b q⟩
  | .ref n, v, d', ⟨p, ev, a⟩, e => by subst ev; exact hr n d' p e a
  | .ty _, _, _, x, e => by cases e; exact x
  | .cls _, _, _, x, e => by cases e; exact x
theorem mapRL_ok (fh : Ex w.F H) {r : Nat → Option D} (hr : ∀ k d' p, r k = some d' → w.A[k]? = some p → Rp K (w.all H) d' (.ref p)) : ∀ (l : List D) (vs : List V) (l' : List D), RpL K w l vs → mapRL r l = some l' → RpL K (w.all H) l' vs
  | [], _, _, x, e => by cases e; exact x
  | d :: l, vs, l', ⟨v, r', ev, a, b⟩, e => by
    unfold mapRL at e
    split at e
    · rename_i a' b' e1 e2
      cases e
      exact ⟨v, r', ev, mapR_ok fh hr d v a' a e1, mapRL_ok fh hr l r' b' b e2⟩
    · cases e
theorem mapRK_ok (fh : Ex w.F H) {r : Nat → Option D} (hr : ∀ k d' p, r k = some d' → w.A[k]? = some p → Rp K (w.all H) d' (.ref p)) : ∀ (l : List (Key × D)) (vs : List (Key × V)) (l' : List (Key × D)), RpK K w l vs → mapRK r l = some l' → RpK K (w.all H) l' vs
  | [], _, _, x, e => by cases e; exact x
  | (k, d) :: l, vs, l', ⟨v, r', ev, a, b⟩, e => by
    unfold mapRK at e
    split at e
    · rename_i a' b' e1 e2
      cases e
      exact ⟨v, r', ev, mapR_ok fh hr d v a' a e1, mapRK_ok fh hr l r' b' b e2⟩
    · cases e
end
theorem resN_ok (R : Rel K T w H h) : ∀ (n k : Nat) (d' : D) (p : Addr), resN n h k = some d' → w.A[k]? = some p → Rp K (w.all H) d' (.ref p)
  | 0, _, _, _, e, _ => by cases e
  | n + 1, k, d', p, e, hp => by
    unfold resN at e
    split at e
    · rename_i l q
      cases q2 : mapRL (resN n h) l with
      | none => rw [q2] at e; cases e
      | some l' =>
        rw [q2] at e; cases e
        obtain ⟨p', o, a, b, vs, eo, x⟩ := R.cell k _ q
        rw [hp] at a; cases a
        subst eo
        exact ⟨p, vs, rfl, b, mapRL_ok R.fh (fun k d' p e a => resN_ok R n k d' p e a) l vs l' x q2⟩
    · rename_i l q
      cases q2 : mapRK (resN n h) l with
      | none => rw [q2] at e; cases e
      | some l' =>
        rw [q2] at e; cases e
        obtain ⟨p', o, a, b, vs, eo, x⟩ := R.cell k _ q
        rw [hp] at a; cases a
        subst eo
        exact ⟨p, vs, rfl, b, mapRK_ok R.fh (fun k d' p e a => resN_ok R n k d' p e a) l vs l' x q2⟩
    · cases e
theorem frz_ok (R : Rel K T w H h) {d d' : D} {v : V} (x : Rp K w d v) (e : frz h d = some d') : Rp K (w.all H) d' v := mapR_ok R.fh (fun k d' p e a => resN_ok R 20 k d' p e a) d v d' x e
end

/-! ### == -/
mutual
def okD : Nat → D → Bool
  | _, .non => true
  | _, .bl _ => true
  | _, .int _ => true
  | _, .str s => PyData.strOk s
  | 0, _ => false
  | n + 1, .tup l => okL n l
  | n + 1, .lst l => okL n l
  | n + 1, .sq l => okL n l
  | _, .dic _ => false
  | _, .ref _ => false
  | _, .ty _ => false
  | _, .cls _ => false
def okL : Nat → List D → Bool
  | _, [] => true
  | n, d :: l => okD n d && okL n l
end
mutual
def py : D → PyData
  | .non => .none
  | .bl b => .bool b
  | .int i => .int i
  | .str s => .str s
  | .tup l => .tuple (pyL l)
  | .lst l => .list (pyL l)
  | .sq l => .list (pyL l)
  | .dic _ => .none
  | .ref _ => .none
  | .ty _ => .none
  | .cls _ => .none
def pyL : List D → List PyData
  | [] => []
  | d :: l => py d :: pyL l
end
mutual
theorem py_ok : ∀ (n : Nat) (d : D), okD n d = true → (py d).canLay0 = true ∧ (py d).depth ≤ n
  | n, .non, _ => by simp [py, PyData.canLay0, PyData.depth]
  | n, .bl b, _ => by simp [py, PyData.canLay0, PyData.depth]
  | n, .int b, _ => by simp [py, PyData.canLay0, PyData.depth]
  | n, .str b, h => by
    have h2 : PyData.strOk b = true := by cases n <;> exact h
    simp [py, PyData.canLay0, PyData.depth, h2]
  | 0, .tup l, h => by simp [okD] at h
  | 0, .lst l, h => by simp [okD] at h
  | 0, .sq l, h => by simp [okD] at h
  | n + 1, .tup l, h => by
    have := pyL_ok n l (by simpa [okD] using h)
    simp [py, PyData.canLay0, PyData.depth, this.1]; omega
  | n + 1, .lst l, h => by
    have := pyL_ok n l (by simpa [okD] using h)
    simp [py, PyData.canLay0, PyData.depth, this.1]; omega
  | n + 1, .sq l, h => by
    have := pyL_ok n l (by simpa [okD] using h)
    simp [py, PyData.canLay0, PyData.depth, this.1]; omega
  | 0, .dic l, h => by simp [okD] at h
  | n + 1, .dic l, h => by simp [okD] at h
  | 0, .ref l, h => by simp [okD] at h
  | n + 1, .ref l, h => by simp [okD] at h
  | 0, .ty l, h => by simp [okD] at h
  | n + 1, .ty l, h => by simp [okD] at h
  | 0, .cls l, h => by simp [okD] at h
  | n + 1, .cls l, h => by simp [okD] at h
theorem pyL_ok : ∀ (n : Nat) (l : List D), okL n l = true → PyData.canLayAll0 (pyL l) = true ∧ PyData.depthAll (pyL l) ≤ n
  | n, [], _ => by simp [pyL, PyData.canLayAll0, PyData.depthAll]
  | n, d :: l, h => by
    have h2 : okD n d = true ∧ okL n l = true := by simpa [okL] using h
    have a := py_ok n d h2.1
    have b := pyL_ok n l h2.2
    simp [pyL, PyData.canLayAll0, PyData.depthAll, a.1, b.1]; omega
end
section
variable {K : PySem.W.Frag} {w : Wd}
mutual
theorem py_dp : ∀ (n : Nat) (d : D) (v : V), okD n d = true → Rp K w d v → Dp K w.F v (py d)
  | n, .non, _, _, x => by cases x; exact .non
  | n, .bl b, _, _, x => by cases x; exact .bl b
  | n, .int b, _, _, x => by cases x; exact .int b
  | n, .str b, _, _, x => by cases x; exact .str b
  | 0, .tup l, _, h, _ => by simp [okD] at h
  | 0, .lst l, _, h, _ => by simp [okD] at h
  | 0, .sq l, _, h, _ => by simp [okD] at h
  | n + 1, .tup l, v, h, ⟨p, vs, e, a, b⟩ => by subst e; exact .tup (SqT.of a) (pyL_dp n l vs (by simpa [okD] using h) b)
  | n + 1, .lst l, v, h, ⟨p, vs, e, a, b⟩ => by subst e; exact .lst (SqL.of a) (pyL_dp n l vs (by simpa [okD] using h) b)
  | n + 1, .sq l, v, h, ⟨p, vs, e, a, b⟩ => by subst e; exact .lst a (pyL_dp n l vs (by simpa [okD] using h) b)
  | 0, .dic l, _, h, _ => by simp [okD] at h
  | n + 1, .dic l, _, h, _ => by simp [okD] at h
  | 0, .ref l, _, h, _ => by simp [okD] at h
  | n + 1, .ref l, _, h, _ => by simp [okD] at h
  | 0, .ty l, _, h, _ => by simp [okD] at h
  | n + 1, .ty l, _, h, _ => by simp [okD] at h
  | 0, .cls l, _, h, _ => by simp [okD] at h
  | n + 1, .cls l, _, h, _ => by simp [okD] at h
theorem pyL_dp : ∀ (n : Nat) (l : List D) (vs : List V), okL n l = true → RpL K w l vs → DpAll K w.F vs (pyL l)
  | n, [], _, _, x => by cases x; exact .nil
  | n, d :: l, _, h, ⟨v, r, e, a, b⟩ => by
    have h2 : okD n d = true ∧ okL n l = true := by simpa [okL] using h
    subst e
    exact .cons (py_dp n d v h2.1 a) (pyL_dp n l r h2.2 b)
end
end
mutual
def eqD : D → D → Bool
  | .non, .non => true
  | .bl a, .bl b => a == b
  | .bl a, .int j => (if a then 1 else 0) == j
  | .int i, .bl b => i == (if b then 1 else 0)
  | .int i, .int j => i == j
  | .str x, .str y => x == y
  | .tup a, .tup b => eqDL a b
  | .lst a, .lst b => eqDL a b
  | .lst a, .sq b => eqDL a b
  | .sq a, .lst b => eqDL a b
  | .sq a, .sq b => eqDL a b
  | _, _ => false
def eqDL : List D → List D → Bool
  | [], [] => true
  | x :: xs, y :: ys => eqD x y && eqDL xs ys
  | _, _ => false
end
mutual
theorem eqv_eqD : ∀ (n m : Nat) (a b : D), okD n a = true → okD m b = true → PyData.eqv (py a) (py b) = eqD a b
  | n, m, a, b, ha, hb => by
    cases a <;> cases b <;> simp only [py, PyData.eqv, eqD] <;> first
      | rfl
      | (cases n <;> simp [okD] at ha; done)
      | (cases m <;> simp [okD] at hb; done)
      | (cases n with
         | zero => simp [okD] at ha
         | succ n => cases m with
           | zero => simp [okD] at hb
           | succ m => exact eqvL_eqD n m _ _ (by simpa [okD] using ha) (by simpa [okD] using hb))
theorem eqvL_eqD : ∀ (n m : Nat) (a b : List D), okL n a = true → okL m b = true → PyData.eqvAll (pyL a) (pyL b) = eqDL a b
  | n, m, [], [], _, _ => by simp [pyL, PyData.eqvAll, eqDL]
  | n, m, [], _ :: _, _, _ => by simp [pyL, PyData.eqvAll, eqDL]
  | n, m, _ :: _, [], _, _ => by simp [pyL, PyData.eqvAll, eqDL]
  | n, m, x :: xs, y :: ys, ha, hb => by
    have h1 : okD n x = true ∧ okL n xs = true := by simpa [okL] using ha
    have h2 : okD m y = true ∧ okL m ys = true := by simpa [okL] using hb
    simp only [pyL, PyData.eqvAll, eqDL]
    rw [eqv_eqD n m x y h1.1 h2.1, eqvL_eqD n m xs ys h1.2 h2.2]
end
end Tp
set_option Elab.async false
set_option linter.all false
set_option maxRecDepth 100000
set_option maxHeartbeats 4000000
namespace Tp
open PySem PySem.Spec PyProof.Rows L2

/-! ### == of data -/
def scD : D → D → Bool
  | .non, .non => true | .non, .int _ => true | .int _, .non => true | .non, .bl _ => true | .bl _, .non => true | .non, .str _ => true | .str _, .non => true
  | .int _, .int _ => true | .bl _, .bl _ => true | .str _, .str _ => true | .int _, .str _ => true | .str _, .int _ => true | .bl _, .str _ => true | .str _, .bl _ => true
  | _, _ => false
def valD {κ : Type} [DecidableEq κ] (l : List (κ × D)) (k : κ) : Option D := (l.find? fun kv => decide (kv.1 = k)).map (·.2)
/-- the very same plain value -/
def same1 : D → D → Bool
  | .non, .non => true | .bl a, .bl b => a == b | .int a, .int b => a == b | .str a, .str b => a == b
  | _, _ => false
def dicEq (a b : List (Key × D)) : Bool := a.length == b.length && a.all fun p => match valD b p.1 with
  | some d => same1 p.2 d
  | none => false
def fEq : F2 := fun h x y => if scD x y then some (.bl (eqD x y)) else match frz h x, frz h y with
  | some (.dic a), some (.dic b) => if dicEq a b then some (.bl true) else none
  | some a, some b => if okD 60 a && okD 60 b then some (.bl (eqD a b)) else none
  | _, _ => none
def fNe : F2 := fun h x y => match fEq h x y with
  | some (.bl b) => some (.bl (!b))
  | _ => none
section
variable {X : Cx} {K : PySem.W.Frag} {T : List (Addr × Str)} {w : Wd}
theorem sc_rp {x y : D} {v u : V} (s : scD x y = true) (a : Rp K w x v) (b : Rp K w y u) : scal v u = true ∧ decide (v = u) = eqD x y := by
  cases x <;> cases y <;> first
    | (simp [scD] at s; done)
    | (cases a; cases b; refine ⟨rfl, ?_⟩; simp only [eqD]; first | rfl | exact dec_int | exact dec_bl | exact dec_str | exact decide_eq_false (fun z => by cases z))
theorem valD_cons {κ : Type} [DecidableEq κ] {k j : κ} {d : D} {l : List (κ × D)} : valD ((k, d) :: l) j = if k = j then some d else valD l j := by
  unfold valD
  rw [List.find?_cons]
  by_cases e : k = j
  · simp [e]
  · simp [e]
theorem valD_rp : ∀ {l : List (Key × D)} {kvs : List (Key × V)} (k : Key), RpK K w l kvs → match valD l k with
    | some d => ∃ v, valV kvs k = some v ∧ Rp K w d v
    | none => valV kvs k = none
  | [], _, k, rfl => rfl
  | (j, d) :: l, _, k, ⟨v, r, e, a, b⟩ => by
    subst e
    rw [valD_cons]
    by_cases q : j = k
    · rw [if_pos q]
      exact ⟨v, valV_pos (p := (j, v)) q, a⟩
    · rw [if_neg q]
      have := valD_rp k b
      rw [valV_neg (p := (j, v)) q]
      exact this
theorem valD_some {l : List (Key × D)} {kvs : List (Key × V)} {k : Key} {d : D} (r : RpK K w l kvs) (e : valD l k = some d) : ∃ v, valV kvs k = some v ∧ Rp K w d v := by
  have := valD_rp k r
  rw [e] at this
  exact this
theorem valD_none {l : List (Key × D)} {kvs : List (Key × V)} {k : Key} (r : RpK K w l kvs) (e : valD l k = none) : valV kvs k = none := by
  have := valD_rp k r
  rw [e] at this
  exact this
theorem same1_rp {x y : D} {v u : V} (s : same1 x y = true) (a : Rp K w x v) (b : Rp K w y u) : u = v ∧ flatB v = true := by
  cases x <;> cases y <;> first
    | (simp [same1] at s; done)
    | (cases a; cases b; simp [same1] at s; subst s; exact ⟨rfl, rfl⟩)
    | (cases a; cases b; exact ⟨rfl, rfl⟩)
theorem dicEq_rp : ∀ {a b : List (Key × D)} {ks ls : List (Key × V)}, RpK K w a ks → RpK K w b ls → (a.all fun p => match valD b p.1 with
    | some d => same1 p.2 d
    | none => false) = true → ∀ p ∈ ks, valV ls p.1 = some p.2 ∧ flatB p.2 = true
  | [], b, _, ls, rfl, rb, h, p, hp => by simp at hp
  | (k, d) :: a, b, _, ls, ⟨v, r, e, x, y⟩, rb, h, p, hp => by
    subst e
    rw [List.all_cons, Bool.and_eq_true] at h
    obtain ⟨h1, h2⟩ := h
    rcases List.mem_cons.mp hp with rfl | hp
    · cases q : valD b k with
      | none => simp only [q] at h1; cases h1
      | some d' =>
        simp only [q] at h1
        obtain ⟨u, e1, e2⟩ := valD_some rb q
        obtain ⟨e3, e4⟩ := same1_rp h1 x e2
        exact ⟨by rw [e1, e3], e4⟩
    · exact dicEq_rp y rb h2 p hp
def rEqU (K : PySem.W.Frag) : R2 := fun x y H Q => rEq x y H Q ∨ (rEqD K x y H Q ∨ rEqDA x y H Q)
def rNeU (K : PySem.W.Frag) : R2 := fun x y H Q => rNe x y H Q ∨ (rNeD K x y H Q ∨ rNeDA x y H Q)
theorem op_eqU (hu : X.A.units + 64 < cLine) : OpR X (compareOp .Eq) (rEqU X.K) := OpR.or op_eq (OpR.or (op_eqD hu) (op_eq_dictA (by omega)))
theorem op_neU (hu : X.A.units + 64 < cLine) : OpR X (compareOp .NotEq) (rNeU X.K) := OpR.or op_ne (OpR.or (op_neD hu) (op_ne_dictA (by omega)))
theorem shaped_of {d : D} (h : okD 60 d = true) : SeqAt.shaped (py d) = true := by
  have := py_ok 60 d h
  unfold SeqAt.shaped
  rw [this.1, Bool.true_and]
  exact decide_eq_true (by omega)
theorem eq_cases {H : Hp} {h : List Cell} {x y : D} {v u : V} {b : Bool} (R : Rel K T w H h) (a1 : Rp K w x v) (b1 : Rp K w y u) (e : fEq h x y = some (.bl b)) :
    (scal v u = true ∧ decide (v = u) = b) ∨ (∃ d f, Dp K H v d ∧ Dp K H u f ∧ SeqAt.shaped d = true ∧ SeqAt.shaped f = true ∧ PyData.eqv d f = b) ∨
    (b = true ∧ ∃ p q ks ls, v = .ref p ∧ u = .ref q ∧ H p = some (.dK ks) ∧ H q = some (.dK ls) ∧ ks.length = ls.length ∧ (∀ p ∈ ks, valV ls p.1 = some p.2 ∧ flatB p.2 = true)) := by
  unfold fEq at e
  split at e
  · rename_i hs
    cases e
    exact .inl (sc_rp hs a1 b1)
  · split at e
    · rename_i ka kb ex ey
      split at e
      · rename_i hd
        cases e
        obtain ⟨p, ks, e1, e2, e3⟩ := frz_ok R a1 ex
        obtain ⟨q, ls, e4, e5, e6⟩ := frz_ok R b1 ey
        unfold dicEq at hd
        rw [Bool.and_eq_true] at hd
        refine .inr (.inr ⟨rfl, p, q, ks, ls, e1, e4, e2, e5, ?_, dicEq_rp e3 e6 hd.2⟩)
        rw [← e3.len, ← e6.len]
        exact eq_of_beq hd.1
      · cases e
    · rename_i da db _ ex ey
      split at e
      · rename_i ho
        cases e
        rw [Bool.and_eq_true] at ho
        exact .inr (.inl ⟨py da, py db, py_dp (w := w.all H) 60 da v ho.1 (frz_ok R a1 ex), py_dp (w := w.all H) 60 db u ho.2 (frz_ok R b1 ey), shaped_of ho.1, shaped_of ho.2, eqv_eqD 60 60 da db ho.1 ho.2⟩)
      · cases e
    · cases e
theorem fEq_bl {h : List Cell} {x y d : D} (e : fEq h x y = some d) : ∃ b, d = .bl b := by
  unfold fEq at e
  split at e
  · cases e; exact ⟨_, rfl⟩
  · split at e
    · split at e
      · cases e; exact ⟨_, rfl⟩
      · cases e
    · split at e
      · cases e; exact ⟨_, rfl⟩
      · cases e
    · cases e
theorem s_eq : S2 K T (rEqU K) fEq := s2_flat fun w H h x y v u d R a b e Q k => by
  obtain ⟨bb, rfl⟩ := fEq_bl e
  rcases eq_cases R a b e with ⟨h1, h2⟩ | ⟨d, f, h1, h2, h3, h4, h5⟩ | ⟨hb, p, q, ks, ls, e1, e2, e3, e4, e5, e6⟩
  · exact .inl ⟨h1, by rw [h2]; exact k _ fun _ => rfl⟩
  · exact .inr (.inl ⟨d, f, h1, h2, h3, h4, by rw [h5]; exact k _ fun _ => rfl⟩)
  · subst hb
    exact .inr (.inr ⟨p, q, ks, ls, e1, e2, e3, e4, e5, e6, k _ fun _ => rfl⟩)
theorem s_ne : S2 K T (rNeU K) fNe := s2_flat fun w H h x y v u d R a b e Q k => by
  unfold fNe at e
  split at e
  · rename_i bb e2
    cases e
    rcases eq_cases R a b e2 with ⟨h1, h2⟩ | ⟨d, f, h1, h2, h3, h4, h5⟩ | ⟨hb, p, q, ks, ls, e1, e22, e3, e4, e5, e6⟩
    · exact .inl ⟨h1, by rw [h2]; exact k _ fun _ => rfl⟩
    · exact .inr (.inl ⟨d, f, h1, h2, h3, h4, by rw [h5]; exact k _ fun _ => rfl⟩)
    · subst hb
      exact .inr (.inr ⟨p, q, ks, ls, e1, e22, e3, e4, e5, e6, k _ fun _ => rfl⟩)
  · cases e

/-! ### places -/
def fIx : F2 := fun h x y => match y with
  | .int i => (match pk h x with
    | .lst l => atI l i
    | .tup l => atI l i
    | .sq l => atI l i
    | .str s => if s.length ≤ 1000000 then (atI s.cps.toList i).map fun c => .str ⟨#[c]⟩ else none
    | _ => none)
  | _ => none
theorem atI_rp {l : List D} {vs : List V} {i : Int} {d : D} (r : RpL K w l vs) (e : atI l i = some d) : ∃ v, atI vs i = some v ∧ Rp K w d v := by
  unfold atI at e ⊢
  rw [← r.len]
  cases q : ixN l.length i with
  | none => rw [q] at e; cases e
  | some j =>
    rw [q] at e
    exact r.get e
theorem s_ix : S2 K T (rIx K) fIx := s2_flat' where
  s2_flat' := fun w H h x y v u d R a b e Q k => by
    unfold fIx at e
    split at e
    · rename_i i
      cases b
      split at e
      · rename_i l e1
        obtain ⟨p, vs, rfl, hp, x1⟩ := pk_lst R a e1
        obtain ⟨z, e2, e3⟩ := atI_rp x1 e
        exact .inl ⟨p, vs, i, z, rfl, rfl, SqL.of hp, e2, k w z H (Wd.le.refl w) R e3⟩
      · rename_i l e1
        obtain ⟨p, vs, rfl, hp, x1⟩ := pk_tup R a e1
        obtain ⟨z, e2, e3⟩ := atI_rp x1 e
        exact .inr (.inl ⟨p, vs, i, z, rfl, rfl, SqT.of hp, e2, k w z H (Wd.le.refl w) R e3⟩)
      · rename_i l e1
        obtain ⟨p, vs, rfl, hp, x1⟩ := pk_sq R a e1
        obtain ⟨z, e2, e3⟩ := atI_rp x1 e
        exact .inl ⟨p, vs, i, z, rfl, rfl, hp, e2, k w z H (Wd.le.refl w) R e3⟩
      · rename_i s e1
        have ex : x = .str s := by
          cases x with
          | str z => exact e1
          | ref n => unfold pk at e1; simp only at e1; split at e1 <;> cases e1
          | _ => cases e1
        subst ex
        cases a
        split at e
        · rename_i hz
          cases q : atI s.cps.toList i with
          | none => rw [q] at e; cases e
          | some c =>
            rw [q] at e
            cases e
            exact .inr (.inr ⟨s, i, c, rfl, rfl, line_of hz, q, k w _ H (Wd.le.refl w) R rfl⟩)
        · cases e
      · cases e
    · cases e
theorem je_ix {a b : Expr} {m n : ME} {pos : Pos} (ha : JE T X a m) (hb : JE T X b n) (hs : PlainIx b := by exact fun _ _ => rfl) : JE T X (.Subscript a b pos) (mO2 fIx m n) := by
  obtain ⟨ta, pa, sa⟩ := ha
  obtain ⟨tb, pb, sb⟩ := hb
  exact ⟨_, pe_ix ix_seq pa pb hs, se_op sa sb s_ix⟩

/-! ### dicts read -/
def keyD : D → Option Key
  | .int i => some (.inl i)
  | .str s => some (.inr s)
  | _ => none
theorem keyD_rp {d : D} {v : V} {k : Key} (a : Rp K w d v) (e : keyD d = some k) : v = kV k := by
  cases d <;> simp [keyD] at e <;> subst e <;> exact a
def fDGet : F2 := fun h x y => match pk h x, keyD y with
  | .dic l, some k => valD l k
  | _, _ => none
def fDIn : F2 := fun h y x => match pk h x, keyD y with
  | .dic l, some k => some (.bl (valD l k).isSome)
  | _, _ => none
def fDNotIn : F2 := fun h y x => match pk h x, keyD y with
  | .dic l, some k => some (.bl (!(valD l k).isSome))
  | _, _ => none
theorem isSome_rp {l : List (Key × D)} {kvs : List (Key × V)} (k : Key) (r : RpK K w l kvs) : (valV kvs k).isSome = (valD l k).isSome := by
  have := valD_rp k r
  cases q : valD l k with
  | none => rw [q] at this; rw [this]; rfl
  | some d => rw [q] at this; obtain ⟨v, e, _⟩ := this; rw [e]; rfl
theorem je_dget {a b : Expr} {m n : ME} {pos : Pos} (hu : X.A.units + 1 < cLine) (ha : JE T X a m) (hb : JE T X b n) (hs : NoSl b := by exact fun _ _ => rfl) : JE T X (.Subscript a b pos) (mO2 fDGet m n) := by
  obtain ⟨ta, pa, sa⟩ := ha
  obtain ⟨tb, pb, sb⟩ := hb
  refine ⟨_, pe_dget hu pa pb hs, ?_⟩
  refine se_op (r := fun x y H Q => ∃ a v, x = .ref a ∧ DGet H a y (some v) ∧ Q v H) sa sb fun w H h x y v u d R a b e Q k => ?_
  unfold fDGet at e
  split at e
  · rename_i l kk e1 e2
    obtain ⟨p, kvs, rfl, hp, x1⟩ := pk_dic R a e1
    obtain ⟨z, e3, e4⟩ := valD_some x1 e
    rw [keyD_rp b e2]
    exact ⟨p, z, rfl, by rw [← e3]; exact DGet.k hp, k w z H (Wd.le.refl w) R e4⟩
  · cases e
theorem je_din {a b : Expr} {m n : ME} {pos : Pos} (hu : X.A.units + 1 < cLine) (ha : JE T X a m) (hb : JE T X b n) (h1 : behindInMarks .In b = false := by rfl) : JE T X (.Compare a [.In] [b] pos) (mO2 fDIn m n) := by
  obtain ⟨ta, pa, sa⟩ := ha
  obtain ⟨tb, pb, sb⟩ := hb
  refine ⟨_, pe_cmp (pc_din hu pa pb) h1, ?_⟩
  refine se_op (r := fun y x H Q => ∃ a o, x = .ref a ∧ DGet H a y o ∧ Q (.bl o.isSome) H) sa sb fun w H h y x u v d R b a e Q k => ?_
  unfold fDIn at e
  split at e
  · rename_i l kk e1 e2
    cases e
    obtain ⟨p, kvs, rfl, hp, x1⟩ := pk_dic R a e1
    rw [keyD_rp b e2]
    exact ⟨p, _, rfl, DGet.k hp, k w _ H (Wd.le.refl w) R (by rw [isSome_rp kk x1]; exact rfl)⟩
  · cases e
theorem je_dnotin {a b : Expr} {m n : ME} {pos : Pos} (hu : X.A.units + 1 < cLine) (ha : JE T X a m) (hb : JE T X b n) (h1 : behindInMarks .NotIn b = false := by rfl) : JE T X (.Compare a [.NotIn] [b] pos) (mO2 fDNotIn m n) := by
  obtain ⟨ta, pa, sa⟩ := ha
  obtain ⟨tb, pb, sb⟩ := hb
  refine ⟨_, pe_cmp (pc_dnotin hu pa pb) h1, ?_⟩
  refine se_op (r := fun y x H Q => ∃ a o, x = .ref a ∧ DGet H a y o ∧ Q (.bl (!o.isSome)) H) sa sb fun w H h y x u v d R b a e Q k => ?_
  unfold fDNotIn at e
  split at e
  · rename_i l kk e1 e2
    cases e
    obtain ⟨p, kvs, rfl, hp, x1⟩ := pk_dic R a e1
    rw [keyD_rp b e2]
    exact ⟨p, _, rfl, DGet.k hp, k w _ H (Wd.le.refl w) R (by rw [isSome_rp kk x1]; exact rfl)⟩
  · cases e
/-- d.get(k) -/
def mDGet1 (a b : ME) : ME := fun G h => match a G h with
  | none => none
  | some (x, h1) => (match pk h1 x with
    | .dic _ => (match b G h1 with
      | none => none
      | some (y, h2) => (match pk h2 x, keyD y with
        | .dic l, some k => some ((valD l k).getD .non, h2)
        | _, _ => none))
    | _ => none)
theorem je_dget1 {o e : Expr} {m n : ME} {apos cpos : Pos} (hu : X.A.units + 1 < cLine) (ha : JE T X o m) (hb : JE T X e n) (mm : M1 X o "get" apos e cpos := by exact ⟨rfl, rfl, rfl, rfl⟩) : JE T X (.Call (.Attribute o "get" apos) [e] [] cpos) (mDGet1 m n) := by
  obtain ⟨ta, pa, sa⟩ := ha
  obtain ⟨tb, pb, sb⟩ := hb
  refine ⟨_, pe_dget1 hu pa pb mm, fun w σ H G g d h' R E hm Q k => ?_⟩
  unfold mDGet1 at hm
  split at hm
  · cases hm
  · rename_i x h1 ea
    split at hm
    · rename_i l0 ek0
      split at hm
      · cases hm
      · rename_i y h2 eb
        split at hm
        · rename_i l kk ek ey
          cases hm
          refine sa w σ H G g x h1 R E ea _ fun w1 v1 H1 l1 R1 x1 => ?_
          obtain ⟨p, kvs0, ev, hp, _⟩ := pk_dic R1 x1 ek0
          refine ⟨p, ev, .inl ⟨_, .inl hp⟩, ?_⟩
          refine sb w1 σ H1 G h1 y _ R1 (E.mono l1) eb _ fun w2 v2 H2 l2 R2 x2 => ?_
          obtain ⟨p', kvs, ev', hp', x3⟩ := pk_dic R2 (Rp.mono l2 _ _ x1) ek
          rw [ev] at ev'; cases ev'
          rw [keyD_rp x2 ey]
          refine ⟨_, DGet.k hp', k w2 _ H2 (l1.trans l2) R2 ?_⟩
          have := valD_rp kk x3
          cases q : valD l kk with
          | none => rw [q] at this; rw [this]; exact rfl
          | some d => rw [q] at this; obtain ⟨v, e1, e2⟩ := this; rw [e1]; exact e2
        · cases hm
    · cases hm

/-! ### built-in functions -/
def fLen : List Cell → List D → Option (D × List Cell) := fun h xs => match xs with
  | [x] => (match pk h x with
    | .lst l => some (.int l.length, h)
    | .tup l => some (.int l.length, h)
    | .sq l => some (.int l.length, h)
    | .str s => if s.length ≤ 1000000 then some (.int s.length, h) else none
    | _ => none)
  | _ => none
theorem pk_str {h : List Cell} {x : D} {s : Str} (e : pk h x = .str s) : x = .str s := by
  cases x with
  | str z => exact e
  | ref n => unfold pk at e; simp only at e; split at e <;> cases e
  | _ => cases e
theorem s_len : SC K T (fun xs H Q => ∃ x n, xs = [x] ∧ LenV K x H n ∧ Q (.int n) H) fLen := fun w H h xs vs d h' R r e Q k => by
  unfold fLen at e
  split at e
  · rename_i x
    obtain ⟨v, r', rfl, a, rfl⟩ := r
    split at e
    · rename_i l e1
      cases e
      obtain ⟨p, us, rfl, hp, x1⟩ := pk_lst R a e1
      exact ⟨_, _, rfl, .inl ⟨us, SqL.of hp, rfl⟩, by rw [← x1.len]; exact k w _ H (Wd.le.refl w) R rfl⟩
    · rename_i l e1
      cases e
      obtain ⟨p, us, rfl, hp, x1⟩ := pk_tup R a e1
      exact ⟨_, _, rfl, .inr ⟨us, SqT.of hp, rfl⟩, by rw [← x1.len]; exact k w _ H (Wd.le.refl w) R rfl⟩
    · rename_i l e1
      cases e
      obtain ⟨p, us, rfl, hp, x1⟩ := pk_sq R a e1
      exact ⟨_, _, rfl, .inl ⟨us, hp, rfl⟩, by rw [← x1.len]; exact k w _ H (Wd.le.refl w) R rfl⟩
    · rename_i s e1
      have := pk_str e1
      subst this
      cases a
      split at e
      · rename_i hz
        cases e
        exact ⟨_, _, rfl, ⟨line_of hz, rfl⟩, k w _ H (Wd.le.refl w) R rfl⟩
      · cases e
    · cases e
  · cases e
def fMax2 : List Cell → List D → Option (D × List Cell) := fun h xs => match xs with
  | [.int i, .int j] => some (.int (if j > i then j else i), h)
  | _ => none
def fMin2 : List Cell → List D → Option (D × List Cell) := fun h xs => match xs with
  | [.int i, .int j] => some (.int (if j < i then j else i), h)
  | _ => none
theorem s_max2 : SC K T (fun xs H Q => ∃ i j, xs = [.int i, .int j] ∧ Q (.int (if j > i then j else i)) H) fMax2 := fun w H h xs vs d h' R r e Q k => by
  unfold fMax2 at e
  split at e
  · cases e
    obtain ⟨v, r', rfl, a, v2, r2, rfl, b, rfl⟩ := r
    cases a; cases b
    exact ⟨_, _, rfl, k w _ H (Wd.le.refl w) R rfl⟩
  · cases e
theorem s_min2 : SC K T (fun xs H Q => ∃ i j, xs = [.int i, .int j] ∧ Q (.int (if j < i then j else i)) H) fMin2 := fun w H h xs vs d h' R r e Q k => by
  unfold fMin2 at e
  split at e
  · cases e
    obtain ⟨v, r', rfl, a, v2, r2, rfl, b, rfl⟩ := r
    cases a; cases b
    exact ⟨_, _, rfl, k w _ H (Wd.le.refl w) R rfl⟩
  · cases e
/-- list(x): frozen, a cell -/
def seqOf (h : List Cell) (x : D) : Option (List D) := match pk h x with
  | .lst l => some l
  | .tup l => some l
  | .sq l => some l
  | _ => none
def fList : List Cell → List D → Option (D × List Cell) := fun h xs => match xs with
  | [x] => (seqOf h x).map fun l => (.lst l, h)
  | _ => none
def fListC : List Cell → List D → Option (D × List Cell) := fun h xs => match xs with
  | [x] => (seqOf h x).map fun l => (.ref h.length, h ++ [.lst l])
  | _ => none
theorem seqOf_rp {H : Hp} {h : List Cell} {x : D} {v : V} {l : List D} (R : Rel K T w H h) (a : Rp K w x v) (e : seqOf h x = some l) : ∃ p vs, v = .ref p ∧ (SqL K H p vs ∨ SqT K H p vs) ∧ RpL K w l vs := by
  unfold seqOf at e
  split at e
  · rename_i l' e1
    cases e
    obtain ⟨p, vs, e2, hp, x1⟩ := pk_lst R a e1
    exact ⟨p, vs, e2, .inl (SqL.of hp), x1⟩
  · rename_i l' e1
    cases e
    obtain ⟨p, vs, e2, hp, x1⟩ := pk_tup R a e1
    exact ⟨p, vs, e2, .inr (SqT.of hp), x1⟩
  · rename_i l' e1
    cases e
    obtain ⟨p, vs, e2, hp, x1⟩ := pk_sq R a e1
    exact ⟨p, vs, e2, .inl hp, x1⟩
  · cases e
def rListV (K : PySem.W.Frag) : List V → Hp → VK → Prop := fun xs H Q => ∃ p ys, xs = [.ref p] ∧ (SqL K H p ys ∨ SqT K H p ys) ∧ ∀ l, H l = none → Q (.ref l) (upd H l (.lst ys))
theorem call_listV : CallR X (.type "list") (rListV X.K) := call_list_of
theorem s_list : SC K T (rListV K) fList := fun w H h xs vs d h' R r e Q k => by
  unfold fList at e
  split at e
  · rename_i x
    obtain ⟨v, r', rfl, a, rfl⟩ := r
    cases q : seqOf h x with
    | none => rw [q] at e; cases e
    | some l =>
      rw [q] at e; cases e
      obtain ⟨p, vs, rfl, hp, x1⟩ := seqOf_rp R a q
      exact ⟨p, vs, rfl, hp, fin_frz (d := .lst l) R rfl (fun w' p l2 e => ⟨p, vs, rfl, e, RpL.mono l2 _ _ x1⟩) k⟩
  · cases e
theorem s_listC : SC K T (rListV K) fListC := fun w H h xs vs d h' R r e Q k => by
  unfold fListC at e
  split at e
  · rename_i x
    obtain ⟨v, r', rfl, a, rfl⟩ := r
    cases q : seqOf h x with
    | none => rw [q] at e; cases e
    | some l =>
      rw [q] at e; cases e
      obtain ⟨p, vs, rfl, hp, x1⟩ := seqOf_rp R a q
      refine ⟨p, vs, rfl, hp, fun p2 hp2 => ?_⟩
      obtain ⟨l2, R2, z⟩ := R.cel (c := .lst l) hp2 ⟨vs, rfl, x1⟩
      exact k _ _ _ l2 R2 ⟨p2, rfl, z⟩
  · cases e
/-- isinstance with a built-in class -/
def tyN (h : List Cell) (x : D) : Option String := match pk h x with
  | .non => some "NoneType"
  | .bl _ => some "bool"
  | .int _ => some "int"
  | .str _ => some "str"
  | .lst _ => some "list"
  | .tup _ => some "tuple"
  | .dic _ => some "dict"
  | _ => none
def isTy (a b : String) : Option Bool := match b with
  | "int" => some (a == "int" || a == "bool")
  | "bool" => some (a == "bool")
  | "str" => some (a == "str")
  | "list" => some (a == "list")
  | "tuple" => some (a == "tuple")
  | "dict" => some (a == "dict")
  | _ => none
def fIsi : List Cell → List D → Option (D × List Cell) := fun h xs => match xs with
  | [x, .ty b] => (match tyN h x with
    | some a => (isTy a b).map fun r => (.bl r, h)
    | none => none)
  | _ => none
theorem isTy_ok {h : List Cell} {x : D} {a b : String} {r : Bool} (e1 : tyN h x = some a) (e : isTy a b = some r) : PySem.W.kitOne K (.type a) (.type b) = some r := by
  have hb : b = "int" ∨ b = "bool" ∨ b = "str" ∨ b = "list" ∨ b = "tuple" ∨ b = "dict" := by
    unfold isTy at e
    split at e <;> simp_all
  have ha : a = "NoneType" ∨ a = "bool" ∨ a = "int" ∨ a = "str" ∨ a = "list" ∨ a = "tuple" ∨ a = "dict" := by
    unfold tyN at e1
    split at e1 <;> simp_all
  apply kit_ty
  rcases ha with rfl | rfl | rfl | rfl | rfl | rfl | rfl <;> rcases hb with rfl | rfl | rfl | rfl | rfl | rfl <;> (cases r <;> first | (exact absurd e (by decide)) | decide +kernel)
theorem tyN_rp {H : Hp} {h : List Cell} {x : D} {v : V} {a : String} (R : Rel K T w H h) (r : Rp K w x v) (e : tyN h x = some a) : TyX K H v (.type a) := by
  unfold tyN at e
  split at e <;> first | cases e | skip
  · rename_i q
    have : x = .non := by
      cases x with
      | ref n => unfold pk at q; simp only at q; split at q <;> cases q
      | _ => first | rfl | cases q
    subst this; cases r; exact .base .non
  · rename_i b q
    have : x = .bl b := by
      cases x with
      | ref n => unfold pk at q; simp only at q; split at q <;> cases q
      | _ => first | exact q | cases q
    subst this; cases r; exact .base (.bl _)
  · rename_i b q
    have : x = .int b := by
      cases x with
      | ref n => unfold pk at q; simp only at q; split at q <;> cases q
      | _ => first | exact q | cases q
    subst this; cases r; exact .base (.int _)
  · rename_i b q
    have := pk_str q
    subst this; cases r; exact .base (.str _)
  · rename_i l q
    obtain ⟨p, vs, rfl, hp, _⟩ := pk_lst R r q
    exact .base (.lst hp)
  · rename_i l q
    obtain ⟨p, vs, rfl, hp, _⟩ := pk_tup R r q
    exact .base (.tup hp)
  · rename_i l q
    obtain ⟨p, vs, rfl, hp, _⟩ := pk_dic R r q
    exact .base (.dK hp)
theorem s_isi : SC K T (rIsi K) fIsi := fun w H h xs vs d h' R r e Q k => by
  unfold fIsi at e
  split at e
  · rename_i x b
    obtain ⟨v, r', rfl, a, v2, r2, rfl, b2, rfl⟩ := r
    cases b2
    split at e
    · rename_i a' e1
      cases q : isTy a' b with
      | none => rw [q] at e; cases e
      | some r =>
        rw [q] at e; cases e
        exact ⟨v, _, _, _, r, rfl, .ty b, tyN_rp R a e1, isTy_ok e1 q, k w _ H (Wd.le.refl w) R rfl⟩
    · cases e
  · cases e
theorem je_ty {x : Str} {n : String} {pos : Pos} (hg : Gl X x) (hm : X.mg x = none) (hv : bootBuiltins x = some (.type n)) (hn : x ≠ "__name__" := by decide) (hd : (x == ("__debug__" : Str)) = false := by decide) : JE T X (.Name x pos) (mC (.ty n)) :=
  ⟨_, pe_bltn hg hm hv (v := .ty n) rfl hn hd, se_c fun _ => rfl⟩
end
end Tp
set_option Elab.async false
set_option linter.all false
set_option maxRecDepth 100000
set_option maxHeartbeats 4000000
namespace Tp
open PySem PySem.Spec PyProof.Rows L2

inductive Out where
  | nx (G : Env1) | rt (d : D) | bk (G : Env1) | ct (G : Env1)
abbrev MS := Env1 → List Cell → Option (Out × List Cell)
abbrev MG := D → Env1 → List Cell → Option Env1

def Fin (K : PySem.W.Frag) (w : Wd) (H : Hp) (D : Ends) : Out → Prop
  | .nx G => ∀ σ, EnvR K w σ G → D.nx σ H
  | .rt d => ∀ v, Rp K w d v → D.rt v H
  | .bk G => ∀ σ, EnvR K w σ G → D.bk σ H
  | .ct G => ∀ σ, EnvR K w σ G → D.ct σ H
def SS (K : PySem.W.Frag) (T : List (Addr × Str)) (t : TS) (m : MS) : Prop := ∀ (w : Wd) (σ : Slots) (H : Hp) (G : Env1) (h : List Cell) (o : Out) (h' : List Cell), Rel K T w H h → EnvR K w σ G → m G h = some (o, h') →
  ∀ D : Ends, (∀ w' H', w.le w' → Rel K T w' H' h' → Fin K w' H' D o) → t D σ H
def SG (K : PySem.W.Frag) (T : List (Addr × Str)) (g : TG) (m : MG) : Prop := ∀ (w : Wd) (σ : Slots) (H : Hp) (G : Env1) (h : List Cell) (d : D) (v : V) (G' : Env1), Rel K T w H h → EnvR K w σ G → Rp K w d v → m d G h = some G' →
  ∀ Q : Slots → Hp → Prop, (∀ σ', EnvR K w σ' G' → Q σ' H) → g v σ H Q
def JS (T : List (Addr × Str)) (X : Cx) (s : Stmt) (m : MS) : Prop := ∃ t, PS X s t ∧ SS X.K T t m
def JSs (T : List (Addr × Str)) (X : Cx) (s : List Stmt) (m : MS) : Prop := ∃ t, PSs X s t ∧ SS X.K T t m
def JG (T : List (Addr × Str)) (X : Cx) (e : Expr) (m : MG) : Prop := ∃ t, PG X e t ∧ SG X.K T t m

/-! ### what statements do -/
def mNext : MS := fun G h => some (.nx G, h)
def mSeq (a b : MS) : MS := fun G h => match a G h with
  | some (.nx G1, h1) => b G1 h1
  | r => r
def mAsg (e : ME) (g : MG) : MS := fun G h => match e G h with
  | none => none
  | some (d, h1) => match g d G h1 with
    | none => none
    | some G1 => some (.nx G1, h1)
def gN (i : Nat) : MG := fun d G _ => some (G.set i (some d))
def gT (is : List Nat) : MG := fun d G h => match pk h d with
  | .tup l => if l.length = is.length then some ((is.zip l).foldl (fun G p => G.set p.1 (some p.2)) G) else none
  | _ => none
def mDrop (e : ME) : MS := fun G h => match e G h with
  | none => none
  | some (_, h1) => some (.nx G, h1)
def mRet (e : ME) : MS := fun G h => match e G h with
  | none => none
  | some (d, h1) => some (.rt d, h1)
def mIfS (t : MT) (a b : MS) : MS := fun G h => match t G h with
  | none => none
  | some (true, h1) => a G h1
  | some (false, h1) => b G h1
def mBreak : MS := fun G h => some (.bk G, h)
def mCont : MS := fun G h => some (.ct G, h)
def mNever : MS := fun _ _ => none
def mAug (i : Nat) (f : F2) (e : ME) : MS := fun G h => match G[i]? with
  | some (some x) => (match e G h with
    | none => none
    | some (y, h1) => (match f h1 x y with
      | none => none
      | some z => some (.nx (G.set i (some z)), h1)))
  | _ => none
/-- x[i] = v, of a list; of a dict -/
def mSetL (v o i : ME) : MS := fun G h => match v G h with
  | none => none
  | some (z, h1) => match o G h1 with
    | none => none
    | some (x, h2) => match i G h2 with
      | none => none
      | some (y, h3) => (match x, y with
        | .ref n, .int k => (match h3[n]? with
          | some (.lst l) => (match ixN l.length k with
            | some j => some (.nx G, h3.set n (.lst (l.set j z)))
            | none => none)
          | _ => none)
        | _, _ => none)
def putD {κ : Type} [DecidableEq κ] (l : List (κ × D)) (k : κ) (v : D) : List (κ × D) := if (l.any fun kv => decide (kv.1 = k)) = true then l.map (fun kv => if kv.1 = k then (kv.1, v) else kv) else l ++ [(k, v)]
def mSetD (v o i : ME) : MS := fun G h => match v G h with
  | none => none
  | some (z, h1) => match o G h1 with
    | none => none
    | some (x, h2) => match i G h2 with
      | none => none
      | some (y, h3) => (match x, keyD y with
        | .ref n, some k => (match h3[n]? with
          | some (.dic l) => if l.length < 1000000 then some (.nx G, h3.set n (.dic (putD l k z))) else none
          | _ => none)
        | _, _ => none)
/-- a loop over items that stay -/
def forL (g : MG) (b : MS) : List D → MS
  | [], G, h => some (.nx G, h)
  | d :: r, G, h => match g d G h with
    | none => none
    | some G1 => match b G1 h with
      | some (.nx G2, h2) => forL g b r G2 h2
      | some (.ct G2, h2) => forL g b r G2 h2
      | some (.bk G2, h2) => some (.nx G2, h2)
      | some (.rt d, h2) => some (.rt d, h2)
      | none => none
def frzOf (d : D) : Option (List D) := match d with
  | .lst l => some l
  | .sq l => some l
  | _ => none
def mForL (e : ME) (g : MG) (b : MS) : MS := fun G h => match e G h with
  | none => none
  | some (d, h1) => match frzOf d with
    | some l => forL g b l G h1
    | none => none
def mForT (e : ME) (g : MG) (b : MS) : MS := fun G h => match e G h with
  | some (.tup l, h1) => forL g b l G h1
  | _ => none
def rng (lo : Int) (n : Nat) : List D := (List.range n).map fun k => .int (lo + (k : Nat))
def in62 (i : Int) : Bool := decide (-(2 ^ 62) ≤ i) && decide (i < 2 ^ 62)
def mForR1 (a : MA) (g : MG) (b : MS) : MS := fun G h => match a G h with
  | some ([.int j], h1) => if in62 j then forL g b (rng 0 j.toNat) G h1 else none
  | _ => none
def mForR2 (a : MA) (g : MG) (b : MS) : MS := fun G h => match a G h with
  | some ([.int i, .int j], h1) => if in62 i && in62 j then forL g b (rng i (j - i).toNat) G h1 else none
  | _ => none
def whileD (t : MT) (b : MS) : Nat → MS
  | 0, _, _ => none
  | n + 1, G, h => match t G h with
    | none => none
    | some (false, h1) => some (.nx G, h1)
    | some (true, h1) => match b G h1 with
      | some (.nx G2, h2) => whileD t b n G2 h2
      | some (.ct G2, h2) => whileD t b n G2 h2
      | some (.bk G2, h2) => some (.nx G2, h2)
      | some (.rt d, h2) => some (.rt d, h2)
      | none => none
def mWhile (t : MT) (b : MS) : MS := whileD t b 1000000

section
variable {X : Cx} {T : List (Addr × Str)} {e e2 : Expr} {st : Stmt} {rest sts sts2 : List Stmt} {pos pos' : Pos} {m m1 m2 m3 : ME} {a b : MS} {g : MG} {q : MT} {l : MA}
theorem jss_nil : JSs T X [] mNext := ⟨_, pss_nil, fun w σ H G h o h' R E hm D k => by cases hm; exact k w H (Wd.le.refl w) R σ E⟩
theorem ss_seq {K : PySem.W.Frag} {t u : TS} (h1 : SS K T t a) (h2 : SS K T u b) : SS K T (tSeq t u) (mSeq a b) := by
  intro w σ H G h o h' R E hm D k
  unfold mSeq at hm
  split at hm
  · rename_i G1 h1' e1
    exact h1 w σ H G h _ _ R E e1 _ fun w1 H1 l1 R1 σ1 E1 => h2 w1 σ1 H1 G1 h1' o h' R1 E1 hm D fun w2 H2 l2 R2 => k w2 H2 (l1.trans l2) R2
  · rename_i hn
    refine h1 w σ H G h o h' R E hm _ fun w1 H1 l1 R1 => ?_
    have := k w1 H1 l1 R1
    cases o with
    | nx G1 => exact absurd hm (hn G1 h')
    | rt d => exact this
    | bk G1 => exact this
    | ct G1 => exact this
theorem jss_cons (h1 : JS T X st a) (h2 : JSs T X rest b) : JSs T X (st :: rest) (mSeq a b) := by
  obtain ⟨t, p, s⟩ := h1
  obtain ⟨t2, p2, s2⟩ := h2
  exact ⟨_, pss_cons p p2, ss_seq s s2⟩
theorem jss_one (h1 : JS T X st a) : JSs T X [st] a := let ⟨_, p, s⟩ := h1; ⟨_, pss_one p, s⟩
theorem js_pass : JS T X (.Pass pos) mNext := ⟨_, ps_pass, fun w σ H G h o h' R E hm D k => by cases hm; exact k w H (Wd.le.refl w) R σ E⟩
theorem js_break : JS T X (.Break pos) mBreak := ⟨_, ps_break, fun w σ H G h o h' R E hm D k => by cases hm; exact k w H (Wd.le.refl w) R σ E⟩
theorem js_continue : JS T X (.Continue pos) mCont := ⟨_, ps_continue, fun w σ H G h o h' R E hm D k => by cases hm; exact k w H (Wd.le.refl w) R σ E⟩
theorem js_never : JS T X st mNever := ⟨_, ps_never, fun w σ H G h o h' R E hm D k => by cases hm⟩
theorem js_expr (h : JE T X e m) (hs : swapsWith e none pos.line X.env = pure false := by rfl) : JS T X (.Expr e pos) (mDrop m) := by
  obtain ⟨t, p, s⟩ := h
  refine ⟨_, ps_expr p hs, fun w σ H G h o h' R E hm D k => ?_⟩
  unfold mDrop at hm
  split at hm
  · cases hm
  · rename_i d h1 e1
    cases hm
    exact s w σ H G h d _ R E e1 _ fun w1 v H1 l1 R1 _ => k w1 H1 l1 R1 σ (E.mono l1)
theorem js_ret (h : JE T X e m) : JS T X (.Return (some e) pos) (mRet m) := by
  obtain ⟨t, p, s⟩ := h
  refine ⟨_, ps_ret p, fun w σ H G h o h' R E hm D k => ?_⟩
  unfold mRet at hm
  split at hm
  · cases hm
  · rename_i d h1 e1
    cases hm
    exact s w σ H G h d _ R E e1 _ fun w1 v H1 l1 R1 x => k w1 H1 l1 R1 v x
theorem js_retN : JS T X (.Return none pos) (mRet (mC .non)) := ⟨_, ps_retN, fun w σ H G h o h' R E hm D k => by cases hm; exact k w H (Wd.le.refl w) R .non rfl⟩
theorem js_if {c : Expr} (hc : JT T X c q) (h1 : JSs T X sts a) (h2 : JSs T X sts2 b) : JS T X (.If c sts sts2 pos) (mIfS q a b) := by
  obtain ⟨t, p, s⟩ := hc
  obtain ⟨t1, p1, s1⟩ := h1
  obtain ⟨t2, p2, s2⟩ := h2
  refine ⟨_, ps_if p p1 p2, fun w σ H G h o h' R E hm D k => ?_⟩
  unfold mIfS at hm
  split at hm
  · cases hm
  · rename_i h1 e1
    refine s w σ H G h _ _ R E e1 _ fun w1 H1 l1 R1 => ?_
    show t1 D σ H1
    exact s1 w1 σ H1 G h1 o h' R1 (E.mono l1) hm D fun w2 H2 l2 R2 => k w2 H2 (l1.trans l2) R2
  · rename_i h1 e1
    refine s w σ H G h _ _ R E e1 _ fun w1 H1 l1 R1 => ?_
    show t2 D σ H1
    exact s2 w1 σ H1 G h1 o h' R1 (E.mono l1) hm D fun w2 H2 l2 R2 => k w2 H2 (l1.trans l2) R2
/-! ### targets -/
theorem sg_name {K : PySem.W.Frag} {i : Nat} : SG K T (gName i) (gN i) := fun w σ H G h d v G' R E r hm Q k => by
  cases hm
  exact k _ (E.set r)
theorem jg_name {i : Nat} {x : Str} (hN : X.N.Nodup) (hi : X.N[i]? = some x) (hx : Loc X.env.scope x) (hf : X.fn x = true ∨ X.env.scope.names.lookup x = some .local := by first | exact .inl rfl | exact .inr rfl | assumption) : JG T X (.Name x pos) (gN i) := ⟨_, pg_name hN hi hx hf, sg_name⟩
/-- names in a tuple -/
def gNs : List Nat → TGs
  | [] => gNil
  | i :: is => gCons (gName i) (gNs is)
theorem gNs_run {K : PySem.W.Frag} {w : Wd} {H : Hp} : ∀ (is : List Nat) (l : List D) (vs : List V) (σ : Slots) (G : Env1), l.length = is.length → RpL K w l vs → EnvR K w σ G → ∀ Q : Slots → Hp → Prop,
    (∀ σ', EnvR K w σ' ((is.zip l).foldl (fun G p => G.set p.1 (some p.2)) G) → Q σ' H) → gNs is vs σ H Q
  | [], [], vs, σ, G, _, r, E, Q, k => by
    cases r
    exact ⟨rfl, k σ E⟩
  | i :: is, d :: l, vs, σ, G, hl, ⟨v, r, e, x, y⟩, E, Q, k => by
    subst e
    exact ⟨v, r, rfl, gNs_run is l r (σ.set i (some v)) (G.set i (some d)) (by simpa using hl) y (E.set x) Q k⟩
  | [], _ :: _, _, _, _, hl, _, _, _, _ => by simp at hl
  | _ :: _, [], _, _, _, hl, _, _, _, _ => by simp at hl
theorem jg_tup {es : List Expr} {k : Nat} {is : List Nat} (hc : X.calm = true) (h : PGs X es (gNs is)) (hl : (assignEach es X.env).length = is.length := by rfl) (hst : (assignEach es X.env).findIdx? (·.1) = none := by rfl) : JG T X (.Tuple es k pos) (gT is) := by
  refine ⟨_, pg_tup hc h hl hst, fun w σ H G h d v G' R E r hm Q k => ?_⟩
  unfold gT at hm
  split at hm
  · rename_i l e1
    split at hm
    · rename_i hz
      cases hm
      obtain ⟨p, vs, e2, hp, x⟩ := pk_tup R r e1
      exact ⟨p, vs, e2, SqT.of hp, by rw [← x.len]; exact hz, gNs_run is l vs σ G hz x E Q k⟩
    · cases hm
  · cases hm
theorem js_asg {tg : Expr} (he : JE T X e m) (hg : JG T X tg g) (hs : swapsWithSole [tg] e pos.line X.env = pure false := by rfl) (hw : swappedStores [tg] e X.env = pure none := by rfl)
    (h1 : (assignEach [tg] X.env).map (·.2) = [assign tg X.env] := by rfl) : JS T X (.Assign [tg] e pos) (mAsg m g) := by
  obtain ⟨t, p, s⟩ := he
  obtain ⟨tg', p2, s2⟩ := hg
  refine ⟨_, ps_asg p p2 hs hw h1, fun w σ H G h o h' R E hm D k => ?_⟩
  unfold mAsg at hm
  split at hm
  · cases hm
  · rename_i d h1 e1
    split at hm
    · cases hm
    · rename_i G1 e2
      cases hm
      exact s w σ H G h d _ R E e1 _ fun w1 v H1 l1 R1 x => s2 w1 σ H1 G _ d v G1 R1 (E.mono l1) x e2 _ fun σ' E' => k w1 H1 l1 R1 σ' E'
theorem js_set {i : Nat} {x : Str} {pos' : Pos} (hN : X.N.Nodup) (hi : X.N[i]? = some x) (hx : Loc X.env.scope x) (he : JE T X e m) (hs : swapsWith e (some (.Name x pos')) pos.line X.env = pure false := by rfl) (hf : X.fn x = true ∨ X.env.scope.names.lookup x = some .local := by first | exact .inl rfl | exact .inr rfl | assumption) :
    JS T X (.Assign [.Name x pos'] e pos) (mAsg m (gN i)) := by
  obtain ⟨t, p, s⟩ := he
  refine ⟨_, ps_set hN hi hx p hs hf, fun w σ H G h o h' R E hm D k => ?_⟩
  unfold mAsg gN at hm
  split at hm
  · cases hm
  · rename_i d h1 e1
    cases hm
    exact s w σ H G h d _ R E e1 _ fun w1 v H1 l1 R1 x => k w1 H1 l1 R1 _ ((E.mono l1).set x)
/-! ### in place -/
def SI (K : PySem.W.Frag) (T : List (Addr × Str)) (t : TIp) (f : F2) : Prop := ∀ (w : Wd) (H : Hp) (h : List Cell) (x y : D) (v u : V) (d : D), Rel K T w H h → Rp K w x v → Rp K w y u → f h x y = some d →
  ∀ Q : VK, (∀ w' z H', w.le w' → Rel K T w' H' h → Rp K w' d z → Q z H') → t v u H Q
theorem js_aug {i : Nat} {x : Str} {op : Operator} {ti : TIp} {f : F2} {pos' : Pos} (hN : X.N.Nodup) (hi : X.N[i]? = some x) (hx : Loc X.env.scope x) (he : JE T X e m) (ho : PIp X op ti) (hf' : SI X.K T ti f) (hf : X.fn x = true ∨ X.env.scope.names.lookup x = some .local := by first | exact .inl rfl | exact .inr rfl | assumption) :
    JS T X (.AugAssign (.Name x pos') op e pos) (mAug i f m) := by
  obtain ⟨t, p, s⟩ := he
  refine ⟨_, ps_aug hN hi hx p ho hf, fun w σ H G h o h' R E hm D k => ?_⟩
  unfold mAug at hm
  split at hm
  · rename_i x0 ex
    obtain ⟨v0, ev, rv⟩ := E.2 i x0 ex
    split at hm
    · cases hm
    · rename_i y h1 e1
      split at hm
      · cases hm
      · rename_i z e2
        cases hm
        exact ⟨v0, ev, s w σ H G h y _ R E e1 _ fun w1 v H1 l1 R1 x => hf' w1 H1 _ x0 y v0 v z R1 (Rp.mono l1 _ _ rv) x e2 _ fun w2 u H2 l2 R2 x2 => k w2 H2 (l1.trans l2) R2 _ ((E.mono (l1.trans l2)).set x2)⟩
  · cases hm
def fIAdd : F2 := fun _ x y => match x, y with
  | .int i, .int j => some (.int (i + j))
  | _, _ => none
def fISub : F2 := fun _ x y => match x, y with
  | .int i, .int j => some (.int (i - j))
  | _, _ => none
theorem si_add {K : PySem.W.Frag} : SI K T (ipI fun i j => i + j) fIAdd := fun w H h x y v u d R a b e Q k => by
  unfold fIAdd at e
  split at e <;> cases e
  cases a; cases b
  exact ⟨_, _, rfl, rfl, k w _ H (Wd.le.refl w) R rfl⟩
theorem si_sub {K : PySem.W.Frag} : SI K T (ipI fun i j => i - j) fISub := fun w H h x y v u d R a b e Q k => by
  unfold fISub at e
  split at e <;> cases e
  cases a; cases b
  exact ⟨_, _, rfl, rfl, k w _ H (Wd.le.refl w) R rfl⟩
/-! ### stores into cells -/
theorem js_setL {o i : Expr} {opos : Pos} (hv : JE T X e m1) (ho : JE T X o m2) (hi : JE T X i m3)
    (ha : ∀ v, assign (.Subscript o i opos) X.env v = (do
      let ov ← holding [v] (eval o X.env)
      let iv ← holding [v, ov] (eval i X.env)
      standAt opos
      holding [v, ov, iv] (setItem ov iv v)
      release [v, ov, iv] []) := by intro _; rfl)
    (hs : swapsWithSole [.Subscript o i opos] e pos.line X.env = pure false := by rfl) (hw : swappedStores [.Subscript o i opos] e X.env = pure none := by rfl)
    (h1 : (assignEach [.Subscript o i opos] X.env).map (·.2) = [assign (.Subscript o i opos) X.env] := by rfl) : JS T X (.Assign [.Subscript o i opos] e pos) (mSetL m1 m2 m3) := by
  obtain ⟨t1, p1, s1⟩ := hv
  obtain ⟨t2, p2, s2⟩ := ho
  obtain ⟨t3, p3, s3⟩ := hi
  refine ⟨_, ps_asg p1 (pg_sub p2 p3 set_list ha) hs hw h1, fun w σ H G h o h' R E hm D k => ?_⟩
  unfold mSetL at hm
  split at hm
  · cases hm
  · rename_i z h1 e1
    split at hm
    · cases hm
    · rename_i x h2 e2
      split at hm
      · cases hm
      · rename_i y h3 e3
        split at hm
        · rename_i n kk
          split at hm
          · rename_i ll e4
            split at hm
            · rename_i j e5
              cases hm
              refine s1 w σ H G h z h1 R E e1 _ fun w1 v1 H1 l1 R1 x1 => ?_
              refine s2 w1 σ H1 G h1 _ h2 R1 (E.mono l1) e2 _ fun w2 v2 H2 l2 R2 x2 => ?_
              refine s3 w2 σ H2 G h2 _ h3 R2 (E.mono (l1.trans l2)) e3 _ fun w3 v3 H3 l3 R3 x3 => ?_
              obtain ⟨p, ev, hp⟩ := Rp.mono l3 _ _ x2
              cases x3
              obtain ⟨p', o', a1, a2, vs, eo, a3⟩ := R3.cell n _ e4
              rw [hp] at a1; cases a1
              subst eo
              have xz := Rp.mono (l2.trans l3) _ _ x1
              refine ⟨p, vs, kk, j, ev, rfl, a2, by rw [← a3.len]; exact e5, ?_⟩
              exact k w3 _ ((l1.trans l2).trans l3) (R3.put hp a2 rfl ⟨_, rfl, a3.set j xz⟩) σ (E.mono ((l1.trans l2).trans l3))
            · cases hm
          · cases hm
        · cases hm
theorem any_rp {K : PySem.W.Frag} {w : Wd} (k : Key) : ∀ {l : List (Key × D)} {kvs : List (Key × V)}, RpK K w l kvs → (kvs.any fun kv => decide (kv.1 = k)) = (l.any fun kv => decide (kv.1 = k))
  | [], _, rfl => rfl
  | (j, d) :: l, _, ⟨v, r, e, a, b⟩ => by subst e; simp only [List.any_cons, any_rp k b]
theorem map_rp {K : PySem.W.Frag} {w : Wd} {z : D} {u : V} (k : Key) (x : Rp K w z u) : ∀ {l : List (Key × D)} {kvs : List (Key × V)}, RpK K w l kvs → RpK K w (l.map fun kv => if kv.1 = k then (kv.1, z) else kv) (kvs.map fun kv => if kv.1 = k then (kv.1, u) else kv)
  | [], _, rfl => rfl
  | (j, d) :: l, _, ⟨v, r, e, a, b⟩ => by
    subst e
    simp only [List.map_cons]
    by_cases q : j = k
    · rw [if_pos q, if_pos q]; exact ⟨u, _, rfl, x, map_rp k x b⟩
    · rw [if_neg q, if_neg q]; exact ⟨v, _, rfl, a, map_rp k x b⟩
theorem appK_rp {K : PySem.W.Frag} {w : Wd} {z : D} {u : V} (k : Key) (x : Rp K w z u) : ∀ {l : List (Key × D)} {kvs : List (Key × V)}, RpK K w l kvs → RpK K w (l ++ [(k, z)]) (kvs ++ [(k, u)])
  | [], _, rfl => ⟨u, [], rfl, x, rfl⟩
  | (j, d) :: l, _, ⟨v, r, e, a, b⟩ => by subst e; exact ⟨v, _, rfl, a, appK_rp k x b⟩
theorem putD_rp {K : PySem.W.Frag} {w : Wd} {z : D} {u : V} {l : List (Key × D)} {kvs : List (Key × V)} (k : Key) (r : RpK K w l kvs) (x : Rp K w z u) : RpK K w (putD l k z) (putK kvs k u) := by
  unfold putD putK
  rw [any_rp k r]
  split
  · exact map_rp k x r
  · exact appK_rp k x r
theorem js_setD {o i : Expr} {opos : Pos} (hu : X.A.units + 1 < cLine) (hv : JE T X e m1) (ho : JE T X o m2) (hi : JE T X i m3) (hs : swapsWith e (some (.Subscript o i opos)) pos.line X.env = pure false := by rfl) : JS T X (.Assign [.Subscript o i opos] e pos) (mSetD m1 m2 m3) := by
  obtain ⟨t1, p1, s1⟩ := hv
  obtain ⟨t2, p2, s2⟩ := ho
  obtain ⟨t3, p3, s3⟩ := hi
  refine ⟨_, ps_dput hu p2 p3 p1 hs, fun w σ H G h o h' R E hm D k => ?_⟩
  unfold mSetD at hm
  split at hm
  · cases hm
  · rename_i z h1 e1
    split at hm
    · cases hm
    · rename_i x h2 e2
      split at hm
      · cases hm
      · rename_i y h3 e3
        split at hm
        · rename_i n kk ek
          split at hm
          · rename_i ll e4
            split at hm
            · rename_i hz
              cases hm
              refine s1 w σ H G h z h1 R E e1 _ fun w1 v1 H1 l1 R1 x1 => ?_
              refine s2 w1 σ H1 G h1 _ h2 R1 (E.mono l1) e2 _ fun w2 v2 H2 l2 R2 x2 => ?_
              refine s3 w2 σ H2 G h2 _ h3 R2 (E.mono (l1.trans l2)) e3 _ fun w3 v3 H3 l3 R3 x3 => ?_
              obtain ⟨p, ev, hp⟩ := Rp.mono l3 _ _ x2
              obtain ⟨p', o', a1, a2, vs, eo, a3⟩ := R3.cell n _ e4
              rw [hp] at a1; cases a1
              subst eo
              have xz := Rp.mono (l2.trans l3) _ _ x1
              rw [keyD_rp x3 ek]
              refine ⟨p, _, ev, DPut.k a2 (by rw [← a3.len]; exact line_lt hz), ?_⟩
              exact k w3 _ ((l1.trans l2).trans l3) (R3.put hp a2 rfl ⟨_, rfl, putD_rp kk a3 xz⟩) σ (E.mono ((l1.trans l2).trans l3))
            · cases hm
          · cases hm
        · cases hm
/-! ### loops -/
/-- what an iterator yields -/
def ItD (K : PySem.W.Frag) (T : List (Addr × Str)) (w0 : Wd) (J : It) (l : List D) : Prop := ∀ (w : Wd) (H : Hp) (h : List Cell) (i : Nat), w0.le w → Rel K T w H h →
  (∀ d, l[i]? = some d → J.go i H ∧ ∀ x H', J.yld i H x H' → ∃ w', w.le w' ∧ Rel K T w' H' h ∧ Rp K w' d x) ∧ (l.length ≤ i → J.stop i H)
theorem for_run {K : PySem.W.Frag} {tb : TS} {tg : TG} {w0 : Wd} {J : It} {l : List D} (hJ : ItD K T w0 J l) (hg : SG K T tg g) (hb : SS K T tb b) {D : Ends} {o : Out} {h' : List Cell} (k : ∀ w' H', w0.le w' → Rel K T w' H' h' → Fin K w' H' D o)
    {w : Wd} {σ : Slots} {H : Hp} {G : Env1} {h : List Cell} (l0 : w0.le w) (R : Rel K T w H h) (E : EnvR K w σ G) (hm : forL g b l G h = some (o, h')) :
    ∃ W : Nat → Nat → Slots → Hp → Prop, (∃ m, W 0 m σ H) ∧ ∀ i m σ H, W i m σ H → (J.stop i H ∧ D.nx σ H) ∨ (J.go i H ∧ ∃ N : Slots → Hp → Prop, (∀ σ' H', N σ' H' → ∃ m', m' < m ∧ W (i + 1) m' σ' H') ∧ ∀ x H', J.yld i H x H' → tg x σ H' fun σ2 H2 => tb { D with nx := N, ct := N, bk := D.nx } σ2 H2) := by
  refine ⟨fun i m σ H => m = l.length - i ∧ i ≤ l.length ∧ ∃ (w : Wd) (h : List Cell) (G : Env1), w0.le w ∧ Rel K T w H h ∧ EnvR K w σ G ∧ forL g b (l.drop i) G h = some (o, h'), ⟨l.length, rfl, Nat.zero_le _, w, h, G, l0, R, E, hm⟩, ?_⟩
  rintro i m σ H ⟨rfl, hi, w, h, G, l1, R, E, hm⟩
  obtain ⟨hgo, hst⟩ := hJ w H h i l1 R
  by_cases hlt : i < l.length
  · have ed : l.drop i = l[i] :: l.drop (i + 1) := List.drop_eq_getElem_cons hlt
    rw [ed] at hm
    obtain ⟨go, hy⟩ := hgo _ (List.getElem?_eq_getElem hlt)
    refine .inr ⟨go, fun σ' H' => i + 1 ≤ l.length ∧ ∃ (w : Wd) (h : List Cell) (G : Env1), w0.le w ∧ Rel K T w H' h ∧ EnvR K w σ' G ∧ forL g b (l.drop (i + 1)) G h = some (o, h'), fun σ' H' n => ⟨l.length - (i + 1), by omega, rfl, n.1, n.2⟩, fun x H' y => ?_⟩
    obtain ⟨w2, l2, R2, x2⟩ := hy x H' y
    unfold forL at hm
    split at hm
    · cases hm
    · rename_i G1 e1
      refine hg w2 σ H' G h _ x G1 R2 (E.mono l2) x2 e1 _ fun σ2 E2 => ?_
      split at hm
      · rename_i G2 h2 e2
        exact hb w2 σ2 H' G1 h _ _ R2 E2 e2 _ fun w3 H3 l3 R3 σ3 E3 => ⟨hlt, w3, h2, G2, (l1.trans l2).trans l3, R3, E3, hm⟩
      · rename_i G2 h2 e2
        exact hb w2 σ2 H' G1 h _ _ R2 E2 e2 _ fun w3 H3 l3 R3 σ3 E3 => ⟨hlt, w3, h2, G2, (l1.trans l2).trans l3, R3, E3, hm⟩
      · rename_i G2 h2 e2
        cases hm
        exact hb w2 σ2 H' G1 h _ _ R2 E2 e2 _ fun w3 H3 l3 R3 σ3 E3 => k w3 H3 ((l1.trans l2).trans l3) R3 σ3 E3
      · rename_i d h2 e2
        cases hm
        exact hb w2 σ2 H' G1 h _ _ R2 E2 e2 _ fun w3 H3 l3 R3 v x3 => k w3 H3 ((l1.trans l2).trans l3) R3 v x3
      · cases hm
  · have ei : i = l.length := by omega
    subst ei
    rw [List.drop_length] at hm
    cases hm
    exact .inl ⟨hst (Nat.le_refl _), k w H l1 R σ E⟩
theorem itl_ok {K : PySem.W.Frag} {w0 : Wd} {p : Addr} {vs : List V} {l : List D} (hp : SqL K w0.F p vs) (r : RpL K w0 l vs) : ItD K T w0 (Itl K p) l := by
  intro w H h i l0 R
  have hs : SqL K H p vs := SqL.mono R.fh (SqL.mono l0.f hp)
  refine ⟨fun d e => ?_, fun hi => ⟨vs, hs, by rw [← r.len]; exact hi⟩⟩
  obtain ⟨v, e1, e2⟩ := r.get e
  refine ⟨⟨vs, v, hs, e1⟩, fun x H' y => ?_⟩
  obtain ⟨rfl, y2⟩ := y
  have := y2 vs hs
  rw [e1] at this; cases this
  exact ⟨w, Wd.le.refl w, R, Rp.mono l0 _ _ e2⟩
theorem itt_ok {K : PySem.W.Frag} {w0 : Wd} {p : Addr} {vs : List V} {l : List D} (hp : w0.F p = some (.tup vs)) (r : RpL K w0 l vs) : ItD K T w0 (Itt K p) l := by
  intro w H h i l0 R
  have hs : SqT K H p vs := SqT.of (R.fh _ _ (l0.f _ _ hp))
  refine ⟨fun d e => ?_, fun hi => ⟨vs, hs, by rw [← r.len]; exact hi⟩⟩
  obtain ⟨v, e1, e2⟩ := r.get e
  refine ⟨⟨vs, v, hs, e1⟩, fun x H' y => ?_⟩
  obtain ⟨rfl, y2⟩ := y
  have := y2 vs hs
  rw [e1] at this; cases this
  exact ⟨w, Wd.le.refl w, R, Rp.mono l0 _ _ e2⟩
theorem rng_get {lo : Int} {n i : Nat} {d : D} (e : (rng lo n)[i]? = some d) : i < n ∧ d = .int (lo + (i : Nat)) := by
  unfold rng at e
  rw [List.getElem?_map] at e
  cases q : (List.range n)[i]? with
  | none => rw [q] at e; cases e
  | some j =>
    rw [q] at e
    obtain ⟨h1, h2⟩ := List.getElem?_eq_some_iff.mp q
    simp at h1 h2
    subst h2
    cases e
    exact ⟨h1, rfl⟩
theorem itr_ok {K : PySem.W.Frag} {w0 : Wd} {lo : Int} {n : Nat} : ItD K T w0 (Itr lo n) (rng lo n) := by
  intro w H h i l0 R
  refine ⟨fun d e => ?_, fun hi => by show n ≤ i; simpa [rng] using hi⟩
  obtain ⟨h1, rfl⟩ := rng_get e
  refine ⟨h1, fun x H' y => ?_⟩
  obtain ⟨rfl, rfl⟩ := y
  exact ⟨w, Wd.le.refl w, R, rfl⟩
theorem js_forL {tg : Expr} (hp : PassesOwn (model X.prog X.w) X.A X.env X.xe) (hc : X.calm = true) (hi : JE T X e m) (hg : JG T X tg g) (hb : JSs T X sts b) (hs : ∀ x, foldedSetIterable e X.env x = pure x := by intro _; rfl) : JS T X (.For tg e sts [] pos) (mForL m g b) := by
  obtain ⟨t, p, s⟩ := hi
  obtain ⟨tg', p2, s2⟩ := hg
  obtain ⟨tb, p3, s3⟩ := hb
  refine ⟨_, ps_for hp hc (pi_list p) p2 p3 hs, fun w σ H G h o h' R E hm D k => ?_⟩
  unfold mForL at hm
  split at hm
  · cases hm
  · rename_i d h1 e1
    split at hm
    · rename_i l e2
      refine s w σ H G h d h1 R E e1 _ fun w1 v H1 l1 R1 x => ?_
      obtain ⟨a, vs, rfl, hq, r⟩ : ∃ a vs, v = .ref a ∧ SqL X.K w1.F a vs ∧ RpL X.K w1 l vs := by
        cases d <;> cases e2
        · obtain ⟨a, vs, e, h, r⟩ := x; exact ⟨a, vs, e, SqL.of h, r⟩
        · exact x
      exact ⟨a, rfl, ⟨vs, SqL.mono R1.fh hq⟩, for_run (itl_ok hq r) s2 s3 (fun w' H' l' R' => k w' H' (l1.trans l') R') (Wd.le.refl w1) R1 (E.mono l1) hm⟩
    · cases hm
theorem js_forT {tg : Expr} (hp : PassesOwn (model X.prog X.w) X.A X.env X.xe) (hc : X.calm = true) (hi : JE T X e m) (hg : JG T X tg g) (hb : JSs T X sts b) (hs : ∀ x, foldedSetIterable e X.env x = pure x := by intro _; rfl) : JS T X (.For tg e sts [] pos) (mForT m g b) := by
  obtain ⟨t, p, s⟩ := hi
  obtain ⟨tg', p2, s2⟩ := hg
  obtain ⟨tb, p3, s3⟩ := hb
  refine ⟨_, ps_for hp hc (pi_tup p) p2 p3 hs, fun w σ H G h o h' R E hm D k => ?_⟩
  unfold mForT at hm
  split at hm
  · rename_i l h1 e1
    refine s w σ H G h _ h1 R E e1 _ fun w1 v H1 l1 R1 x => ?_
    obtain ⟨a, vs, rfl, hq, r⟩ := x
    exact ⟨a, rfl, ⟨vs, SqT.of (R1.fh _ _ hq)⟩, for_run (itt_ok hq r) s2 s3 (fun w' H' l' R' => k w' H' (l1.trans l') R') (Wd.le.refl w1) R1 (E.mono l1) hm⟩
  · cases hm
theorem in62_ok {i : Int} (h : in62 i = true) : -(2 ^ 62) ≤ i ∧ i < 2 ^ 62 := by
  unfold in62 at h
  rw [Bool.and_eq_true] at h
  exact ⟨of_decide_eq_true h.1, of_decide_eq_true h.2⟩
theorem js_forR1 {tg ea : Expr} {p0 pos2 : Pos} {l : MA} (hp : PassesOwn (model X.prog X.w) X.A X.env X.xe) (hc : X.calm = true) (hgl : Gl X "range") (hmg : X.mg "range" = none) (ha : JA T X [ea] l) (hg : JG T X tg g) (hb : JSs T X sts b) (hs1 : starEach [ea] X.env = [(false, eval ea X.env)] := by rfl)
    (hs : ∀ x, foldedSetIterable (.Call (.Name "range" p0) [ea] [] pos2) X.env x = pure x := by intro _; rfl) : JS T X (.For tg (.Call (.Name "range" p0) [ea] [] pos2) sts [] pos) (mForR1 l g b) := by
  obtain ⟨t, p, s⟩ := ha
  obtain ⟨tg', p2, s2⟩ := hg
  obtain ⟨tb, p3, s3⟩ := hb
  refine ⟨_, ps_for hp hc (pi_range1 hgl hmg p hs1) p2 p3 hs, fun w σ H G h o h' R E hm D k => ?_⟩
  unfold mForR1 at hm
  split at hm
  · rename_i j h1 e1
    split at hm
    · rename_i hz
      refine s w σ H G h _ h1 R E e1 _ fun w1 vs H1 l1 R1 x => ?_
      obtain ⟨v, r, rfl, x1, rfl⟩ := x
      cases x1
      exact ⟨j, rfl, (in62_ok hz).1, (in62_ok hz).2, for_run itr_ok s2 s3 (fun w' H' l' R' => k w' H' (l1.trans l') R') (Wd.le.refl w1) R1 (E.mono l1) hm⟩
    · cases hm
  · cases hm
theorem js_forR2 {tg ea eb : Expr} {p0 pos2 : Pos} {l : MA} (hp : PassesOwn (model X.prog X.w) X.A X.env X.xe) (hc : X.calm = true) (hgl : Gl X "range") (hmg : X.mg "range" = none) (ha : JA T X [ea, eb] l) (hg : JG T X tg g) (hb : JSs T X sts b) (hs1 : starEach [ea, eb] X.env = [(false, eval ea X.env), (false, eval eb X.env)] := by rfl) (hs2 : starEach [eb] X.env = [(false, eval eb X.env)] := by rfl)
    (hs : ∀ x, foldedSetIterable (.Call (.Name "range" p0) [ea, eb] [] pos2) X.env x = pure x := by intro _; rfl) : JS T X (.For tg (.Call (.Name "range" p0) [ea, eb] [] pos2) sts [] pos) (mForR2 l g b) := by
  obtain ⟨t, p, s⟩ := ha
  obtain ⟨tg', p2, s2⟩ := hg
  obtain ⟨tb, p3, s3⟩ := hb
  refine ⟨_, ps_for hp hc (pi_range2 hgl hmg p hs1 hs2) p2 p3 hs, fun w σ H G h o h' R E hm D k => ?_⟩
  unfold mForR2 at hm
  split at hm
  · rename_i i j h1 e1
    split at hm
    · rename_i hz
      rw [Bool.and_eq_true] at hz
      refine s w σ H G h _ h1 R E e1 _ fun w1 vs H1 l1 R1 x => ?_
      obtain ⟨v, r, rfl, x1, v2, r2, rfl, x2, rfl⟩ := x
      cases x1; cases x2
      exact ⟨i, j, rfl, ⟨(in62_ok hz.1).1, (in62_ok hz.1).2, (in62_ok hz.2).1, (in62_ok hz.2).2⟩, for_run itr_ok s2 s3 (fun w' H' l' R' => k w' H' (l1.trans l') R') (Wd.le.refl w1) R1 (E.mono l1) hm⟩
    · cases hm
  · cases hm
theorem js_while {c : Expr} (hp : PassesOwn (model X.prog X.w) X.A X.env X.xe) (hc : JT T X c q) (hb : JSs T X sts b) : JS T X (.While c sts [] pos) (mWhile q b) := by
  obtain ⟨t, p, s⟩ := hc
  obtain ⟨tb, p3, s3⟩ := hb
  refine ⟨_, ps_while hp p p3, fun w0 σ H G h o h' R E hm D k => ?_⟩
  refine ⟨fun n σ H => ∃ (w : Wd) (h : List Cell) (G : Env1), w0.le w ∧ Rel X.K T w H h ∧ EnvR X.K w σ G ∧ whileD q b n G h = some (o, h'), ⟨_, w0, h, G, Wd.le.refl w0, R, E, hm⟩, ?_⟩
  rintro n σ H ⟨w, h, G, l0, R, E, hm⟩
  cases n with
  | zero => cases hm
  | succ n =>
    unfold whileD at hm
    split at hm
    · cases hm
    · rename_i h1 e1
      cases hm
      refine s w σ H G h _ _ R E e1 _ fun w1 H1 l1 R1 => ?_
      show D.nx σ H1
      exact k w1 H1 (l0.trans l1) R1 σ (E.mono l1)
    · rename_i h1 e1
      refine s w σ H G h _ _ R E e1 _ fun w1 H1 l1 R1 => ?_
      refine ⟨fun σ' H' => ∃ (w : Wd) (h : List Cell) (G : Env1), w0.le w ∧ Rel X.K T w H' h ∧ EnvR X.K w σ' G ∧ whileD q b n G h = some (o, h'), fun σ' H' x => ⟨n, Nat.lt_succ_self n, x⟩, ?_⟩
      split at hm
      · rename_i G2 h2 e2
        exact s3 w1 σ H1 G h1 _ _ R1 (E.mono l1) e2 _ fun w3 H3 l3 R3 σ3 E3 => ⟨w3, h2, G2, (l0.trans l1).trans l3, R3, E3, hm⟩
      · rename_i G2 h2 e2
        exact s3 w1 σ H1 G h1 _ _ R1 (E.mono l1) e2 _ fun w3 H3 l3 R3 σ3 E3 => ⟨w3, h2, G2, (l0.trans l1).trans l3, R3, E3, hm⟩
      · rename_i G2 h2 e2
        cases hm
        exact s3 w1 σ H1 G h1 _ _ R1 (E.mono l1) e2 _ fun w3 H3 l3 R3 σ3 E3 => k w3 H3 ((l0.trans l1).trans l3) R3 σ3 E3
      · rename_i d h2 e2
        cases hm
        exact s3 w1 σ H1 G h1 _ _ R1 (E.mono l1) e2 _ fun w3 H3 l3 R3 v x3 => k w3 H3 ((l0.trans l1).trans l3) R3 v x3
      · cases hm
end
end Tp
set_option Elab.async false
set_option linter.all false
set_option maxRecDepth 100000
set_option maxHeartbeats 4000000
namespace Tp
open PySem PySem.Spec PyProof.Rows L2

/-! ### methods of built-in types -/
inductive Tn where
  | list | dict | str | tup
def Tn.s : Tn → String
  | .list => "list" | .dict => "dict" | .str => "str" | .tup => "tuple"
def hasT (h : List Cell) (x : D) : Tn → Bool
  | .list => match pk h x with
    | .lst _ => true
    | _ => false
  | .dict => match pk h x with
    | .dic _ => true
    | _ => false
  | .str => match pk h x with
    | .str _ => true
    | _ => false
  | .tup => false
abbrev FM := List Cell → D → List D → Option (D × List Cell)
def mMe (t : Tn) (f : FM) (o : ME) (a : MA) : ME := fun G h => match o G h with
  | none => none
  | some (x, h1) => if hasT h1 x t then (match a G h1 with
    | none => none
    | some (xs, h2) => f h2 x xs) else none
section
variable {X : Cx} {K : PySem.W.Frag} {T : List (Addr × Str)} {m : ME} {l : MA}
theorem hasT_ok {w : Wd} {H : Hp} {h : List Cell} {x : D} {v : V} {t : Tn} (R : Rel K T w H h) (r : Rp K w x v) (e : hasT h x t = true) : tyV K t.s v H := by
  cases t with
  | list =>
    unfold hasT at e
    dsimp only at e
    split at e
    · rename_i l q
      obtain ⟨p, vs, rfl, hp, _⟩ := pk_lst R r q
      exact .inl ⟨rfl, _, SqL.of hp⟩
    · cases e
  | dict =>
    unfold hasT at e
    dsimp only at e
    split at e
    · rename_i l q
      obtain ⟨p, vs, rfl, hp, _⟩ := pk_dic R r q
      exact .inr (.inr (.inl ⟨rfl, .inl ⟨_, hp⟩⟩))
    · cases e
  | str =>
    unfold hasT at e
    dsimp only at e
    split at e
    · rename_i l q
      have := pk_str q
      subst this
      cases r
      exact rfl
    · cases e
  | tup => cases e
def SM (K : PySem.W.Frag) (T : List (Addr × Str)) (r : V → List V → Hp → VK → Prop) (f : FM) : Prop := ∀ (w : Wd) (H : Hp) (h : List Cell) (x : D) (xs : List D) (v : V) (vs : List V) (d : D) (h' : List Cell), Rel K T w H h → Rp K w x v → RpL K w xs vs → f h x xs = some (d, h') →
  ∀ Q : VK, (∀ w' z H', w.le w' → Rel K T w' H' h' → Rp K w' d z → Q z H') → r v vs H Q
theorem je_me {t : Tn} {f : FM} {id : String} {r : V → List V → Hp → VK → Prop} {name : Str} {o e : Expr} {es : List Expr} {apos cpos : Pos} (pa : PlainAttrs t.s) (slot : Slot t.s name id) (hty : typeOf (.builtin id) = pure (.type "method_descriptor")) (hm : MtR X id r) (hf : SM X.K T r f) (ho : JE T X o m) (ha : JA T X (e :: es) l)
    (hx : ∀ to tt, PE X o to → PA X (e :: es) tt → PE X (.Call (.Attribute o name apos) (e :: es) [] cpos) (tBM X.K t.s r to tt)) : JE T X (.Call (.Attribute o name apos) (e :: es) [] cpos) (mMe t f m l) := by
  obtain ⟨to, p, s⟩ := ho
  obtain ⟨tt, p2, s2⟩ := ha
  refine ⟨_, hx to tt p p2, fun w σ H G h d h' R E hm Q k => ?_⟩
  unfold mMe at hm
  split at hm
  · cases hm
  · rename_i x h1 e1
    split at hm
    · rename_i ht
      split at hm
      · cases hm
      · rename_i xs h2 e2
        refine s w σ H G h x h1 R E e1 _ fun w1 v H1 l1 R1 x1 => ⟨hasT_ok R1 x1 ht, ?_⟩
        refine s2 w1 σ H1 G h1 xs h2 R1 (E.mono l1) e2 _ fun w2 vs H2 l2 R2 x2 => ?_
        exact hf w2 H2 h2 x xs v vs d h' R2 (Rp.mono l2 _ _ x1) x2 hm Q fun w3 z H3 l3 R3 x3 => k w3 z H3 ((l1.trans l2).trans l3) R3 x3
    · cases hm
def mMe0 (t : Tn) (f : FM) (o : ME) : ME := fun G h => match o G h with
  | none => none
  | some (x, h1) => if hasT h1 x t then f h1 x [] else none
theorem je_me0 {t : Tn} {f : FM} {r : V → List V → Hp → VK → Prop} {name : Str} {o : Expr} {apos cpos : Pos} (hf : SM X.K T r f) (ho : JE T X o m)
    (hx : ∀ to, PE X o to → PE X (.Call (.Attribute o name apos) [] [] cpos) (tBM0 X.K t.s r to)) : JE T X (.Call (.Attribute o name apos) [] [] cpos) (mMe0 t f m) := by
  obtain ⟨to, p, s⟩ := ho
  refine ⟨_, hx to p, fun w σ H G h d h' R E hm Q k => ?_⟩
  unfold mMe0 at hm
  split at hm
  · cases hm
  · rename_i x h1 e1
    split at hm
    · rename_i ht
      refine s w σ H G h x h1 R E e1 _ fun w1 v H1 l1 R1 x1 => ⟨hasT_ok R1 x1 ht, ?_⟩
      exact hf w1 H1 h1 x [] v [] d h' R1 x1 rfl hm Q fun w3 z H3 l3 R3 x3 => k w3 z H3 (l1.trans l3) R3 x3
    · cases hm
def fAppend : FM := fun h x xs => match x, xs with
  | .ref n, [y] => (match h[n]? with
    | some (.lst l) => if l.length < 1000000 then some (.non, h.set n (.lst (l ++ [y]))) else none
    | _ => none)
  | _, _ => none
theorem s_append : SM K T rAppend fAppend := fun w H h x xs v vs d h' R a b e Q k => by
  unfold fAppend at e
  split at e
  · rename_i n y
    split at e
    · rename_i l q
      split at e
      · rename_i hz
        cases e
        obtain ⟨p, rfl, hp⟩ := a
        obtain ⟨u, r, rfl, xu, rfl⟩ := b
        obtain ⟨p', o', a1, a2, us, eo, a3⟩ := R.cell n _ q
        rw [hp] at a1; cases a1
        subst eo
        refine ⟨p, us, u, rfl, rfl, a2, by rw [← a3.len]; exact line_lt hz, ?_⟩
        exact k w _ _ (Wd.le.refl w) (R.put hp a2 rfl ⟨_, rfl, a3.app ⟨u, [], rfl, xu, rfl⟩⟩) rfl
      · cases e
    · cases e
  · cases e
def fClear : FM := fun h x xs => match x, xs with
  | .ref n, [] => (match h[n]? with
    | some (.lst _) => some (.non, h.set n (.lst []))
    | _ => none)
  | _, _ => none
theorem s_clear : SM K T rClear fClear := fun w H h x xs v vs d h' R a b e Q k => by
  unfold fClear at e
  split at e
  · rename_i n
    split at e
    · rename_i l q
      cases e
      obtain ⟨p, rfl, hp⟩ := a
      cases b
      obtain ⟨p', o', a1, a2, us, eo, a3⟩ := R.cell n _ q
      rw [hp] at a1; cases a1
      subst eo
      exact ⟨p, us, rfl, rfl, a2, k w _ _ (Wd.le.refl w) (R.put hp a2 rfl ⟨_, rfl, rfl⟩) rfl⟩
    · cases e
  · cases e
theorem je_append {o e : Expr} {apos cpos : Pos} (ho : JE T X o m) (ha : JA T X [e] l)
    (hbase : attributeBase o "append" X.env (eval o X.env) = eval o X.env := by rfl) (hfew : ((backTo cpos (starEach [e] X.env)).all (fun x => !x.1) && (backToKw cpos (keywordEach [] X.env)).all (fun x => x.1.isSome)
    && decide (([e] : List Expr).length + ([] : List Keyword).length + (if ([] : List Keyword).isEmpty then 0 else 1) < 30)) = true := by rfl) (hline : (apos.endLine == cpos.line) = true := by rfl) (hx : ∀ to tt, PE X o to → PA X [e] tt → PE X (.Call (.Attribute o "append" apos) [e] [] cpos) (tBM X.K "list" rAppend to tt) := by
      exact fun to tt a b => pe_bm PySem.F.plainAttrs_list PySem.F.slot_list_append PySem.F.type_list_append mt_append a b) : JE T X (.Call (.Attribute o "append" apos) [e] [] cpos) (mMe .list fAppend m l) :=
  je_me (t := .list) PySem.F.plainAttrs_list PySem.F.slot_list_append PySem.F.type_list_append mt_append s_append ho ha hx
theorem je_clear {o : Expr} {apos cpos : Pos} (ho : JE T X o m) (hx : ∀ to, PE X o to → PE X (.Call (.Attribute o "clear" apos) [] [] cpos) (tBM0 X.K "list" rClear to) := by
      exact fun to a => pe_bm0 PySem.F.plainAttrs_list PySem.F.slot_list_clear PySem.F.type_list_clear mt_clear a) : JE T X (.Call (.Attribute o "clear" apos) [] [] cpos) (mMe0 .list fClear m) :=
  je_me0 (t := .list) s_clear ho hx
end

/-! ### defs -/
abbrev FD := List Cell → List D → Option (D × List Cell)
def runB (n N : Nat) (m : MS) : FD := fun h ds => if ds.length = n then (match m (ds.map some ++ List.replicate (N - n) none) h with
  | some (.rt d, h') => some (d, h')
  | some (.nx _, h') => some (.non, h')
  | _ => none) else none
section
variable {P : Program} {ww : World} {K : PySem.W.Frag} {mg : Str → Option Value} {base : Heap} {T : List (Addr × Str)}
theorem env_start {w : Wd} {N : List Str} {ds : List D} {vs : List V} (r : RpL K w ds vs) : EnvR K w (L2.start N vs) (ds.map some ++ List.replicate (N.length - ds.length) none) := by
  unfold L2.start
  rw [← r.len]
  refine ⟨by simp [r.len], fun i d e => ?_⟩
  by_cases hi : i < ds.length
  · rw [List.getElem?_append_left (by simpa using hi), List.getElem?_map] at e
    cases q : ds[i]? with
    | none => rw [q] at e; cases e
    | some d' =>
      rw [q] at e; cases e
      obtain ⟨v, e1, e2⟩ := r.get q
      refine ⟨v, ?_, e2⟩
      rw [List.getElem?_append_left (by rw [List.length_map, ← r.len]; exact hi), List.getElem?_map, e1]
      rfl
  · rw [List.getElem?_append_right (by simpa using hi)] at e
    rw [List.getElem?_replicate] at e
    split at e <;> cases e
theorem fn_ok {x qual : Str} {params : Arguments} {body : List Stmt} {scope : Scope} {dvs : List V} {kws : List (Str × V)} {f : Addr} {fd : FuncData} {N ps : List Str} {k : Nat} {m : MS} (F : FunD K x qual params body scope dvs kws f fd) (S : FnScope N ps scope)
    (hb : ∀ (cdv : Value) (A : Around) (outer : List Env) (s : Shared) (H : Hp) (E : XK), Room k (A.deeper (envOfC qual scope s.heap.objs.size f cdv)) → JSs T (cxOf (L2.CX P ww) P ww K mg base N qual scope f cdv A outer s H E).nox body m) :
    FnOk P ww K mg base (L2.CX P ww) (k + 1) f fd ps (spF K T (runB ps.length N.length m)) := by
  refine F.ok S (fun vs H Q E h => ?_) (fun cdv A outer s H vs Q E hr h => ?_)
  · obtain ⟨w, g, ds, d, h', R, r, e, _⟩ := h
    unfold runB at e
    split at e
    · rename_i hl; rw [← r.len]; exact hl
    · cases e
  · obtain ⟨w, g, ds, d, h', R, r, e, q⟩ := h
    obtain ⟨t, p, s2⟩ := hb cdv A outer s H E hr
    refine ⟨t, p.nox, ?_⟩
    unfold runB at e
    split at e
    · rename_i hl
      rw [← hl] at e
      split at e
      · rename_i d' h'' e2
        cases e
        exact s2 w _ H _ g _ _ R (env_start r) e2 _ fun w1 H1 l1 R1 v x => q w1 v H1 l1 R1 x
      · rename_i G' h'' e2
        cases e
        exact s2 w _ H _ g _ _ R (env_start r) e2 _ fun w1 H1 l1 R1 σ x => q w1 .non H1 l1 R1 rfl
      · cases e
    · cases e
end

/-! ### a def that changes nothing: its own cells are frozen behind it -/
mutual
def noRef : D → Bool
  | .ref _ => false
  | .tup l => noRefL l
  | .lst l => noRefL l
  | .sq l => noRefL l
  | .dic l => noRefK l
  | _ => true
def noRefL : List D → Bool
  | [] => true
  | d :: l => noRef d && noRefL l
def noRefK : List (Key × D) → Bool
  | [] => true
  | (_, d) :: l => noRef d && noRefK l
end
mutual
/-- no lists in it -/
def flatD : D → Bool
  | .ref _ => false
  | .lst _ => false
  | .sq _ => false
  | .dic _ => false
  | .tup l => flatL l
  | _ => true
def flatL : List D → Bool
  | [] => true
  | d :: l => flatD d && flatL l
end
def pureF (f : FD) : FD := fun h ds => match mapRL (resN 20 h) ds with
  | none => none
  | some ds' => match f [] ds' with
    | none => none
    | some (d, h1) => match frz h1 d with
      | none => none
      | some d' => if noRefL ds || flatD d' then some (d', h) else none
section
variable {K : PySem.W.Frag} {T : List (Addr × Str)} {w : Wd} {H : Hp} {h : List Cell}
/-- cells frozen -/
def Wd.mer (w : Wd) (H : Hp) : Wd := ⟨fun a => if a ∈ w.A then H a else w.F a, w.Pr, []⟩
theorem mer_F {a : Addr} (n : a ∉ w.A) : (w.mer H).F a = w.F a := if_neg n
theorem mer_A {a : Addr} (n : a ∈ w.A) : (w.mer H).F a = H a := if_pos n
theorem Rel.ex_mer (R : Rel K T w H h) : Ex w.F (w.mer H).F := fun a o e => by
  have : a ∉ w.A := fun z => by rw [(R.free a z).1] at e; cases e
  rw [mer_F this]; exact e
theorem Rel.mer_ex (R : Rel K T w H h) : Ex (w.mer H).F H := fun a o e => by
  by_cases z : a ∈ w.A
  · rw [mer_A z] at e; exact e
  · rw [mer_F z] at e; exact R.fh a o e
theorem CRp.not_tbl {c : Cell} {o : HO} (z : CRp K w c o) : isTbl o = false ∧ ∀ vs, o ≠ .tup vs := by
  cases c with
  | lst l => obtain ⟨vs, rfl, _⟩ := z; exact ⟨rfl, fun _ q => by cases q⟩
  | dic l => obtain ⟨vs, rfl, _⟩ := z; exact ⟨rfl, fun _ q => by cases q⟩
  | obj C l => obtain ⟨dx, vs, rfl, _⟩ := z; exact ⟨rfl, fun _ q => by cases q⟩
theorem Rel.mer_nt (R : Rel K T w H h) : NoT (w.mer H).F := fun a o e => by
  by_cases z : a ∈ w.A
  · rw [mer_A z] at e
    obtain ⟨i, c, u, _, _, e2, x⟩ := R.at_ z
    rw [e] at e2; cases e2
    exact x.not_tbl.1
  · rw [mer_F z] at e; exact R.ft a o e
mutual
theorem mapR_mer (R : Rel K T w H h) {r : Nat → Option D} (hr : ∀ k d' p, r k = some d' → w.A[k]? = some p → Rp K (w.mer H) d' (.ref p)) : ∀ (d : D) (v : V) (d' : D), Rp K w d v → mapR r d = some d' → Rp K (w.mer H) d' v
  | .non, _, _, x, e => by cases e; exact x
  | .bl _, _, _, x, e => by cases e; exact x
  | .int _, _, _, x, e => by cases e; exact x
  | .str _, _, _, x, e => by cases e; exact x
  | .tup l, v, d', ⟨p, vs, ev, a, b⟩, e => by
    unfold mapR at e
    cases q : mapRL r l with
    | none => rw [q] at e; cases e
    | some l' => rw [q] at e; cases e; exact ⟨p, vs, ev, R.ex_mer _ _ a, mapRL_mer R hr l vs l' b q⟩
  | .lst l, v, d', ⟨p, vs, ev, a, b⟩, e => by
    unfold mapR at e
    cases q : mapRL r l with
    | none => rw [q] at e; cases e
    | some l' => rw [q] at e; cases e; exact ⟨p, vs, ev, R.ex_mer _ _ a, mapRL_mer R hr l vs l' b q⟩
  | .dic l, v, d', ⟨p, vs, ev, a, b⟩, e => by
    unfold mapR at e
    cases q : mapRK r l with
    | none => rw [q] at e; cases e
    | some l' => rw [q] at e; cases e; exact ⟨p, vs, ev, R.ex_mer _ _ a, mapRK_mer R hr l vs l' b q⟩
  | .sq l, v, d', ⟨p, vs, ev, a, b⟩, e => by
    unfold mapR at e
    cases q : mapRL r l with
    | none => rw [q] at e; cases e
    | some l' => rw [q] at e; cases e; exact ⟨p, vs, ev, SqL.mono R.ex_mer a, mapRL_mer R hr l vs l' b q⟩
  | .ref n, v, d', ⟨p, ev, a⟩, e => by subst ev; exact hr n d' p e a
  | .ty _, _, _, x, e => by cases e; exact x
  | .cls _, _, _, x, e => by cases e; exact x
theorem mapRL_mer (R : Rel K T w H h) {r : Nat → Option D} (hr : ∀ k d' p, r k = some d' → w.A[k]? = some p → Rp K (w.mer H) d' (.ref p)) : ∀ (l : List D) (vs : List V) (l' : List D), RpL K w l vs → mapRL r l = some l' → RpL K (w.mer H) l' vs
  | [], _, _, x, e => by cases e; exact x
  | d :: l, vs, l', ⟨v, r', ev, a, b⟩, e => by
    unfold mapRL at e
    split at e
    · rename_i a' b' e1 e2
      cases e
      exact ⟨v, r', ev, mapR_mer R hr d v a' a e1, mapRL_mer R hr l r' b' b e2⟩
    · cases e
theorem mapRK_mer (R : Rel K T w H h) {r : Nat → Option D} (hr : ∀ k d' p, r k = some d' → w.A[k]? = some p → Rp K (w.mer H) d' (.ref p)) : ∀ (l : List (Key × D)) (vs : List (Key × V)) (l' : List (Key × D)), RpK K w l vs → mapRK r l = some l' → RpK K (w.mer H) l' vs
  | [], _, _, x, e => by cases e; exact x
  | (k, d) :: l, vs, l', ⟨v, r', ev, a, b⟩, e => by
    unfold mapRK at e
    split at e
    · rename_i a' b' e1 e2
      cases e
      exact ⟨v, r', ev, mapR_mer R hr d v a' a e1, mapRK_mer R hr l r' b' b e2⟩
    · cases e
end
theorem resN_mer (R : Rel K T w H h) : ∀ (n k : Nat) (d' : D) (p : Addr), resN n h k = some d' → w.A[k]? = some p → Rp K (w.mer H) d' (.ref p)
  | 0, _, _, _, e, _ => by cases e
  | n + 1, k, d', p, e, hp => by
    unfold resN at e
    split at e
    · rename_i l q
      cases q2 : mapRL (resN n h) l with
      | none => rw [q2] at e; cases e
      | some l' =>
        rw [q2] at e; cases e
        obtain ⟨p', o, a, b, vs, eo, x⟩ := R.cell k _ q
        rw [hp] at a; cases a
        subst eo
        exact ⟨p, vs, rfl, (mer_A (List.mem_of_getElem? hp)).trans b, mapRL_mer R (fun k d' p e a => resN_mer R n k d' p e a) l vs l' x q2⟩
    · rename_i l q
      cases q2 : mapRK (resN n h) l with
      | none => rw [q2] at e; cases e
      | some l' =>
        rw [q2] at e; cases e
        obtain ⟨p', o, a, b, vs, eo, x⟩ := R.cell k _ q
        rw [hp] at a; cases a
        subst eo
        exact ⟨p, vs, rfl, (mer_A (List.mem_of_getElem? hp)).trans b, mapRK_mer R (fun k d' p e a => resN_mer R n k d' p e a) l vs l' x q2⟩
    · cases e
theorem frz_mer (R : Rel K T w H h) {d d' : D} {v : V} (x : Rp K w d v) (e : frz h d = some d') : Rp K (w.mer H) d' v := mapR_mer R (fun k d' p e a => resN_mer R 20 k d' p e a) d v d' x e
theorem frzL_mer (R : Rel K T w H h) {d d' : List D} {v : List V} (x : RpL K w d v) (e : mapRL (resN 20 h) d = some d') : RpL K (w.mer H) d' v := mapRL_mer R (fun k d' p e a => resN_mer R 20 k d' p e a) d v d' x e
mutual
/-- what has no cells leans on F alone -/
theorem noRef_rp {w' : Wd} (x : Ex w.F w'.F) : ∀ (d : D) (v : V), noRef d = true → Rp K w d v → Rp K w' d v
  | .non, _, _, r => r
  | .bl _, _, _, r => r
  | .int _, _, _, r => r
  | .str _, _, _, r => r
  | .tup ds, _, n, ⟨p, vs, e, s, l⟩ => ⟨p, vs, e, x _ _ s, noRefL_rp x ds vs (by simpa [noRef] using n) l⟩
  | .lst ds, _, n, ⟨p, vs, e, s, l⟩ => ⟨p, vs, e, x _ _ s, noRefL_rp x ds vs (by simpa [noRef] using n) l⟩
  | .dic ds, _, n, ⟨p, vs, e, s, l⟩ => ⟨p, vs, e, x _ _ s, noRefK_rp x ds vs (by simpa [noRef] using n) l⟩
  | .sq ds, _, n, ⟨p, vs, e, s, l⟩ => ⟨p, vs, e, SqL.mono x s, noRefL_rp x ds vs (by simpa [noRef] using n) l⟩
  | .ref _, _, n, _ => by simp [noRef] at n
  | .ty _, _, _, r => r
  | .cls _, _, _, r => r
theorem noRefL_rp {w' : Wd} (x : Ex w.F w'.F) : ∀ (ds : List D) (vs : List V), noRefL ds = true → RpL K w ds vs → RpL K w' ds vs
  | [], _, _, r => r
  | d :: ds, _, n, ⟨v, r, e, a, b⟩ => by
    have n2 : noRef d = true ∧ noRefL ds = true := by simpa [noRefL] using n
    exact ⟨v, r, e, noRef_rp x d v n2.1 a, noRefL_rp x ds r n2.2 b⟩
theorem noRefK_rp {w' : Wd} (x : Ex w.F w'.F) : ∀ (ds : List (Key × D)) (vs : List (Key × V)), noRefK ds = true → RpK K w ds vs → RpK K w' ds vs
  | [], _, _, r => r
  | (k, d) :: ds, _, n, ⟨v, r, e, a, b⟩ => by
    have n2 : noRef d = true ∧ noRefK ds = true := by simpa [noRefK] using n
    exact ⟨v, r, e, noRef_rp x d v n2.1 a, noRefK_rp x ds r n2.2 b⟩
end
mutual
/-- what has no lists leans on tuples alone -/
theorem flat_rp {w' : Wd} (x : ∀ a vs, w.F a = some (.tup vs) → w'.F a = some (.tup vs)) : ∀ (d : D) (v : V), flatD d = true → Rp K w d v → Rp K w' d v
  | .non, _, _, r => r
  | .bl _, _, _, r => r
  | .int _, _, _, r => r
  | .str _, _, _, r => r
  | .tup ds, _, n, ⟨p, vs, e, s, l⟩ => ⟨p, vs, e, x _ _ s, flatL_rp x ds vs (by simpa [flatD] using n) l⟩
  | .lst ds, _, n, _ => by simp [flatD] at n
  | .dic ds, _, n, _ => by simp [flatD] at n
  | .sq ds, _, n, _ => by simp [flatD] at n
  | .ref _, _, n, _ => by simp [flatD] at n
  | .ty _, _, _, r => r
  | .cls _, _, _, r => r
theorem flatL_rp {w' : Wd} (x : ∀ a vs, w.F a = some (.tup vs) → w'.F a = some (.tup vs)) : ∀ (ds : List D) (vs : List V), flatL ds = true → RpL K w ds vs → RpL K w' ds vs
  | [], _, _, r => r
  | d :: ds, _, n, ⟨v, r, e, a, b⟩ => by
    have n2 : flatD d = true ∧ flatL ds = true := by simpa [flatL] using n
    exact ⟨v, r, e, flat_rp x d v n2.1 a, flatL_rp x ds r n2.2 b⟩
end
mutual
theorem mapR_noRef {r : Nat → Option D} : ∀ d : D, noRef d = true → mapR r d = some d
  | .non, _ => rfl
  | .bl _, _ => rfl
  | .int _, _ => rfl
  | .str _, _ => rfl
  | .tup l, n => by unfold mapR; rw [mapRL_noRef l (by simpa [noRef] using n)]; rfl
  | .lst l, n => by unfold mapR; rw [mapRL_noRef l (by simpa [noRef] using n)]; rfl
  | .sq l, n => by unfold mapR; rw [mapRL_noRef l (by simpa [noRef] using n)]; rfl
  | .dic l, n => by unfold mapR; rw [mapRK_noRef l (by simpa [noRef] using n)]; rfl
  | .ref _, n => by simp [noRef] at n
  | .ty _, _ => rfl
  | .cls _, _ => rfl
theorem mapRL_noRef {r : Nat → Option D} : ∀ l : List D, noRefL l = true → mapRL r l = some l
  | [], _ => rfl
  | d :: l, n => by
    have n2 : noRef d = true ∧ noRefL l = true := by simpa [noRefL] using n
    unfold mapRL
    rw [mapR_noRef d n2.1, mapRL_noRef l n2.2]
theorem mapRK_noRef {r : Nat → Option D} : ∀ l : List (Key × D), noRefK l = true → mapRK r l = some l
  | [], _ => rfl
  | (k, d) :: l, n => by
    have n2 : noRef d = true ∧ noRefK l = true := by simpa [noRefK] using n
    unfold mapRK
    rw [mapR_noRef d n2.1, mapRK_noRef l n2.2]
end
mutual
theorem noRef_mapR {r : Nat → Option D} (hr : ∀ k d', r k = some d' → noRef d' = true) : ∀ (d d' : D), mapR r d = some d' → noRef d' = true
  | .non, _, e => by cases e; rfl
  | .bl _, _, e => by cases e; rfl
  | .int _, _, e => by cases e; rfl
  | .str _, _, e => by cases e; rfl
  | .tup l, d', e => by
    unfold mapR at e
    cases q : mapRL r l with
    | none => rw [q] at e; cases e
    | some l' => rw [q] at e; cases e; simpa [noRef] using noRefL_mapR hr l l' q
  | .lst l, d', e => by
    unfold mapR at e
    cases q : mapRL r l with
    | none => rw [q] at e; cases e
    | some l' => rw [q] at e; cases e; simpa [noRef] using noRefL_mapR hr l l' q
  | .sq l, d', e => by
    unfold mapR at e
    cases q : mapRL r l with
    | none => rw [q] at e; cases e
    | some l' => rw [q] at e; cases e; simpa [noRef] using noRefL_mapR hr l l' q
  | .dic l, d', e => by
    unfold mapR at e
    cases q : mapRK r l with
    | none => rw [q] at e; cases e
    | some l' => rw [q] at e; cases e; simpa [noRef] using noRefK_mapR hr l l' q
  | .ref n, d', e => hr n d' e
  | .ty _, _, e => by cases e; rfl
  | .cls _, _, e => by cases e; rfl
theorem noRefL_mapR {r : Nat → Option D} (hr : ∀ k d', r k = some d' → noRef d' = true) : ∀ (l l' : List D), mapRL r l = some l' → noRefL l' = true
  | [], _, e => by cases e; rfl
  | d :: l, l', e => by
    unfold mapRL at e
    split at e
    · rename_i a' b' e1 e2
      cases e
      simp [noRefL, noRef_mapR hr d a' e1, noRefL_mapR hr l b' e2]
    · cases e
theorem noRefK_mapR {r : Nat → Option D} (hr : ∀ k d', r k = some d' → noRef d' = true) : ∀ (l l' : List (Key × D)), mapRK r l = some l' → noRefK l' = true
  | [], _, e => by cases e; rfl
  | (k, d) :: l, l', e => by
    unfold mapRK at e
    split at e
    · rename_i a' b' e1 e2
      cases e
      simp [noRefK, noRef_mapR hr d a' e1, noRefK_mapR hr l b' e2]
    · cases e
end
theorem noRef_resN (h : List Cell) : ∀ (n k : Nat) (d' : D), resN n h k = some d' → noRef d' = true
  | 0, _, _, e => by cases e
  | n + 1, k, d', e => by
    unfold resN at e
    split at e
    · rename_i l q
      cases q2 : mapRL (resN n h) l with
      | none => rw [q2] at e; cases e
      | some l' => rw [q2] at e; cases e; simpa [noRef] using noRefL_mapR (noRef_resN h n) l l' q2
    · rename_i l q
      cases q2 : mapRK (resN n h) l with
      | none => rw [q2] at e; cases e
      | some l' => rw [q2] at e; cases e; simpa [noRef] using noRefK_mapR (noRef_resN h n) l l' q2
    · cases e
theorem noRef_frz {h : List Cell} {d d' : D} (e : frz h d = some d') : noRef d' = true := noRef_mapR (noRef_resN h 20) d d' e
/-- the cells hidden -/
def Wd.hid (w : Wd) (H : Hp) : Wd := ⟨w.F, fun a => if a ∈ w.A then H a else w.Pr a, []⟩
theorem hid_rel (R : Rel K T w H h) : Rel K T (w.hid H) H [] := by
  have at_ : ∀ a o, (w.hid H).Pr a = some o → H a = some o ∧ isTbl o = false ∧ w.F a = none := fun a o e => by
    have e' : (if a ∈ w.A then H a else w.Pr a) = some o := e
    by_cases z : a ∈ w.A
    · rw [if_pos z] at e'
      obtain ⟨i, c, u, _, _, e4, x⟩ := R.at_ z
      rw [e'] at e4; cases e4
      exact ⟨e', x.not_tbl.1, (R.free a z).1⟩
    · rw [if_neg z] at e'
      exact ⟨R.ph a o e', R.pt a o e', R.dj a o e'⟩
  exact ⟨R.fh, fun a o e => (at_ a o e).1, R.ft, fun a o e => (at_ a o e).2.1, fun a o e => (at_ a o e).2.2, List.nodup_nil, rfl, fun n c e => (by simp at e), fun p hp => (by cases hp), R.tb⟩
theorem mer_rel (R : Rel K T w H h) : Rel K T (w.mer H) H [] :=
  have dj : ∀ a o, w.Pr a = some o → (w.mer H).F a = none := fun a o e => by
    have z : a ∉ w.A := fun z => by rw [(R.free a z).2] at e; cases e
    rw [mer_F z]; exact R.dj a o e
  ⟨R.mer_ex, R.ph, R.mer_nt, R.pt, dj, List.nodup_nil, rfl, fun n c e => (by simp at e), fun p hp => (by cases hp), R.tb⟩
/-- back from hidden cells -/
theorem hid_back (R : Rel K T w H h) {w2 : Wd} {H2 : Hp} {h2 : List Cell} (l2 : (w.hid H).le w2) (R2 : Rel K T w2 H2 h2) : ∃ w3 : Wd, w.le w3 ∧ Rel K T w3 H2 h ∧ w3.F = (w2.mer H2).F := by
  have hp : ∀ p, p ∈ w.A → ∀ o, H p = some o → w2.Pr p = some o := fun p hm o e => by
    rw [l2.p]
    show (if p ∈ w.A then H p else w.Pr p) = some o
    rw [if_pos hm]; exact e
  have hA : ∀ p, p ∈ w.A → p ∉ w2.A ∧ w2.F p = none ∧ w.Pr p = none := fun p hm => by
    obtain ⟨i, c, o, _, _, e, _⟩ := R.at_ hm
    have e2 := hp p hm o e
    exact ⟨fun z => (by rw [(R2.free p z).2] at e2; cases e2), R2.dj p o e2, (R.free p hm).2⟩
  have hPr : ∀ a o, w.Pr a = some o → w2.Pr a = some o := fun a o e => by
    rw [l2.p]
    show (if a ∈ w.A then H a else w.Pr a) = some o
    have : a ∉ w.A := fun z => by rw [(R.free a z).2] at e; cases e
    rw [if_neg this]; exact e
  let w3 : Wd := ⟨(w2.mer H2).F, w.Pr, w.A⟩
  have le : w.le w3 := ⟨fun a o e => R2.ex_mer a o (l2.f a o e), rfl, List.prefix_refl _⟩
  refine ⟨w3, le, ⟨R2.mer_ex, fun a o e => R2.ph a o (hPr a o e), R2.mer_nt, R.pt, fun a o e => ?_, R.nd, R.len, fun n c e => ?_, fun p hm => ?_, R2.tb⟩, rfl⟩
  · have e2 := hPr a o e
    have : a ∉ w2.A := fun z => by rw [(R2.free a z).2] at e2; cases e2
    exact (mer_F this).trans (R2.dj a o e2)
  · obtain ⟨p, o, a, b, x⟩ := R.cell n c e
    exact ⟨p, o, a, R2.ph p o (hp p (List.mem_of_getElem? a) o b), CRp.mono le x⟩
  · obtain ⟨z1, z2, z3⟩ := hA p hm
    exact ⟨(mer_F z1).trans z2, z3⟩
/-- back from frozen cells -/
theorem mer_back (R : Rel K T w H h) {w2 : Wd} {H2 : Hp} {h2 : List Cell} (l2 : (w.mer H).le w2) (R2 : Rel K T w2 H2 h2) : ∃ w3 : Wd, w.le w3 ∧ Rel K T w3 H2 h ∧ ∀ a vs, (w2.mer H2).F a = some (.tup vs) → w3.F a = some (.tup vs) := by
  have hF : ∀ p, p ∈ w.A → ∀ o, H p = some o → w2.F p = some o ∧ p ∉ w2.A := fun p hm o e => by
    have e2 := l2.f p o ((mer_A hm).trans e)
    exact ⟨e2, fun z => (by rw [(R2.free p z).1] at e2; cases e2)⟩
  let w3 : Wd := ⟨fun a => if a ∈ w.A then none else (w2.mer H2).F a, w.Pr, w.A⟩
  have h3 : ∀ a, a ∉ w.A → w3.F a = (w2.mer H2).F a := fun a z => if_neg z
  have h3n : ∀ a, a ∈ w.A → w3.F a = none := fun a z => if_pos z
  have e3 : Ex w3.F (w2.mer H2).F := fun a o e => by
    by_cases z : a ∈ w.A
    · rw [h3n a z] at e; cases e
    · rw [h3 a z] at e; exact e
  have le : w.le w3 := ⟨fun a o e => by
    have z : a ∉ w.A := fun z => by rw [(R.free a z).1] at e; cases e
    rw [h3 a z]
    exact R2.ex_mer a o (l2.f a o (R.ex_mer a o e)), rfl, List.prefix_refl _⟩
  have pr2 : w2.Pr = w.Pr := l2.p
  refine ⟨w3, le, ⟨e3.trans R2.mer_ex, fun a o e => R2.ph a o (by rw [pr2]; exact e), fun a o e => R2.mer_nt a o (e3 a o e), R.pt, fun a o e => ?_, R.nd, R.len, fun n c e => ?_, fun p hm => ?_, R2.tb⟩, fun a vs e => ?_⟩
  · by_cases z : a ∈ w.A
    · exact h3n a z
    · rw [h3 a z]
      have e2 : w2.Pr a = some o := by rw [pr2]; exact e
      have : a ∉ w2.A := fun z => by rw [(R2.free a z).2] at e2; cases e2
      exact (mer_F this).trans (R2.dj a o e2)
  · obtain ⟨p, o, a, b, x⟩ := R.cell n c e
    exact ⟨p, o, a, R2.fh p o (hF p (List.mem_of_getElem? a) o b).1, CRp.mono le x⟩
  · exact ⟨h3n p hm, (R.free p hm).2⟩
  · have z : a ∉ w.A := fun z => by
      obtain ⟨i, c, o, _, _, e4, x⟩ := R.at_ z
      obtain ⟨f1, f2⟩ := hF a z o e4
      rw [mer_F f2, f1] at e
      cases e
      exact x.not_tbl.2 vs rfl
    rw [h3 a z]; exact e
theorem pure_sp {f : FD} {vs : List V} {Q : VK} {E : XK} (x : spF K T (pureF f) vs H Q E) : spF K T f vs H Q E := by
  obtain ⟨w, h, ds, d', h', R, r, e, q⟩ := x
  unfold pureF at e
  split at e
  · cases e
  · rename_i ds' e1
    split at e
    · cases e
    · rename_i d h1 e2
      split at e
      · cases e
      · rename_i d'' e3
        split at e
        · rename_i hc
          cases e
          by_cases hn : noRefL ds = true
          · have eds : mapRL (resN 20 h) ds = some ds := mapRL_noRef ds hn
            rw [e1] at eds
            obtain rfl := Option.some.inj eds
            refine ⟨w.hid H, [], _, d, h1, hid_rel R, noRefL_rp (w := w) (w' := w.hid H) (Ex.refl _) _ vs hn r, e2, fun w2 v H2 l2 R2 x2 => ?_⟩
            obtain ⟨w3, l3, R3, f3⟩ := hid_back R l2 R2
            have x3 := frz_mer R2 x2 e3
            exact q w3 v H2 l3 R3 (noRef_rp (w := w2.mer H2) (by rw [f3]; exact Ex.refl _) _ v (noRef_frz e3) x3)
          · have hf : flatD d' = true := by
              rw [Bool.or_eq_true] at hc
              exact hc.resolve_left hn
            refine ⟨w.mer H, [], ds', d, h1, mer_rel R, frzL_mer R r e1, e2, fun w2 v H2 l2 R2 x2 => ?_⟩
            obtain ⟨w3, l3, R3, f3⟩ := mer_back R l2 R2
            exact q w3 v H2 l3 R3 (flat_rp (w := w2.mer H2) f3 _ v hf (frz_mer R2 x2 e3))
        · cases e
end
end Tp
set_option Elab.async false
set_option linter.all false
set_option maxRecDepth 100000
set_option maxHeartbeats 4000000
namespace Tp
open PySem PySem.Spec PyProof.Rows L2

/-- a def that hands back a list of its own making: a cell of the caller's from now on -/
def freshF (f : FD) : FD := fun h ds => match mapRL (resN 20 h) ds with
  | none => none
  | some ds' => match f [] ds' with
    | some (.ref n, h1) => (match h1[n]? with
      | some (.lst l) => if noRefL l && (noRefL ds || flatL l) then some (.ref h.length, h ++ [.lst l]) else none
      | _ => none)
    | _ => none
section
variable {K : PySem.W.Frag} {T : List (Addr × Str)} {w : Wd} {H : Hp} {h : List Cell}
theorem cell_on {A : List Addr} {p : Addr} {h : List Cell} {c0 : Cell} (hl : A.length = h.length) {n : Nat} {c : Cell} (e : (h ++ [c0])[n]? = some c) : (n < h.length ∧ h[n]? = some c) ∨ (n = h.length ∧ c = c0 ∧ (A ++ [p])[n]? = some p) := by
  by_cases hi : n < h.length
  · rw [List.getElem?_append_left hi] at e; exact .inl ⟨hi, e⟩
  · have h2 := (List.getElem?_eq_some_iff.mp e).1
    have : n = h.length := by simp at h2; omega
    subst this
    simp at e
    exact .inr ⟨rfl, e.symm, by rw [← hl]; simp⟩
theorem fresh_sp {f : FD} {vs : List V} {Q : VK} {E : XK} (x : spF K T (freshF f) vs H Q E) : spF K T f vs H Q E := by
  obtain ⟨w, h, ds, d', h', R, r, e, q⟩ := x
  unfold freshF at e
  split at e
  · cases e
  · rename_i ds' e1
    split at e
    · rename_i n h1 e2
      split at e
      · rename_i l e3
        split at e
        · rename_i hc
          cases e
          rw [Bool.and_eq_true] at hc
          obtain ⟨hnl, hc⟩ := hc
          by_cases hn : noRefL ds = true
          · have eds : mapRL (resN 20 h) ds = some ds := mapRL_noRef ds hn
            rw [e1] at eds
            obtain rfl := Option.some.inj eds
            refine ⟨w.hid H, [], _, _, h1, hid_rel R, noRefL_rp (w := w) (w' := w.hid H) (Ex.refl _) _ vs hn r, e2, fun w2 v H2 l2 R2 x2 => ?_⟩
            obtain ⟨p, rfl, hp2⟩ := x2
            obtain ⟨p', o, a1, a2, us, eo, a3⟩ := R2.cell n _ e3
            rw [hp2] at a1; cases a1
            subst eo
            obtain ⟨w3, l3, R3, f3⟩ := hid_back R l2 R2
            have pA : p ∈ w2.A := List.mem_of_getElem? hp2
            have hpw : p ∉ w.A := fun z => by
              obtain ⟨i, c, o, _, _, e4, _⟩ := R.at_ z
              have : w2.Pr p = some o := by
                rw [l2.p]; show (if p ∈ w.A then H p else w.Pr p) = some o; rw [if_pos z]; exact e4
              rw [(R2.free p pA).2] at this; cases this
            have hPr : ∀ a o, w.Pr a = some o → w2.Pr a = some o := fun a o e => by
              rw [l2.p]
              show (if a ∈ w.A then H a else w.Pr a) = some o
              have : a ∉ w.A := fun z => by rw [(R.free a z).2] at e; cases e
              rw [if_neg this]; exact e
            let w4 : Wd := ⟨w2.F, w.Pr, w.A ++ [p]⟩
            have le : w.le w4 := ⟨l2.f, rfl, List.prefix_append _ _⟩
            have hH : ∀ a, a ∈ w.A → ∀ o, H a = some o → w2.Pr a = some o := fun a hm o e => by
              rw [l2.p]; show (if a ∈ w.A then H a else w.Pr a) = some o; rw [if_pos hm]; exact e
            have R4 : Rel K T w4 H2 (h ++ [.lst l]) := by
              refine ⟨R2.fh, fun a o e => R2.ph a o (hPr a o e), R2.ft, R.pt, fun a o e => R2.dj a o (hPr a o e), ?_, ?_, fun i c e => ?_, fun a hm => ?_, R2.tb⟩
              · exact List.nodup_append.mpr ⟨R.nd, by simp, by rintro a ha b hb rfl; simp at hb; subst hb; exact hpw ha⟩
              · show (w.A ++ [p]).length = (h ++ [Cell.lst l]).length
                simp [R.len]
              · rcases cell_on (p := p) R.len e with ⟨_, e⟩ | ⟨_, rfl, e4⟩
                · obtain ⟨q, u, a, b, y⟩ := R.cell i c e
                  exact ⟨q, u, pre_get le.a a, R2.ph q u (hH q (List.mem_of_getElem? a) u b), CRp.mono le y⟩
                · exact ⟨p, _, e4, a2, us, rfl, noRefL_rp (w := w2) (w' := w4) (Ex.refl _) _ us hnl a3⟩
              · rcases List.mem_append.mp hm with hm | hm
                · obtain ⟨i, c, o, _, _, e4, _⟩ := R.at_ hm
                  exact ⟨R2.dj a o (hH a hm o e4), (R.free a hm).2⟩
                · simp at hm; subst hm
                  refine ⟨(R2.free a pA).1, ?_⟩
                  cases q : w.Pr a with
                  | none => rfl
                  | some o => have := hPr a o q; rw [(R2.free a pA).2] at this; cases this
            refine q w4 _ H2 le R4 ⟨p, rfl, ?_⟩
            show (w.A ++ [p])[h.length]? = some p
            rw [← R.len]; simp
          · have hf : flatL l = true := by
              rw [Bool.or_eq_true] at hc
              exact hc.resolve_left hn
            refine ⟨w.mer H, [], ds', _, h1, mer_rel R, frzL_mer R r e1, e2, fun w2 v H2 l2 R2 x2 => ?_⟩
            obtain ⟨p, rfl, hp2⟩ := x2
            obtain ⟨p', o, a1, a2, us, eo, a3⟩ := R2.cell n _ e3
            rw [hp2] at a1; cases a1
            subst eo
            have pA : p ∈ w2.A := List.mem_of_getElem? hp2
            have pr2 : w2.Pr = w.Pr := l2.p
            have hF : ∀ a, a ∈ w.A → ∀ o, H a = some o → w2.F a = some o := fun a hm o e => l2.f a o ((mer_A hm).trans e)
            have hpw : p ∉ w.A := fun z => by
              obtain ⟨i, c, o, _, _, e4, _⟩ := R.at_ z
              have := hF p z o e4
              rw [(R2.free p pA).1] at this; cases this
            let w4 : Wd := ⟨fun a => if a ∈ w.A then none else w2.F a, w.Pr, w.A ++ [p]⟩
            have h4 : ∀ a, a ∉ w.A → w4.F a = w2.F a := fun a z => if_neg z
            have h4n : ∀ a, a ∈ w.A → w4.F a = none := fun a z => if_pos z
            have e4 : Ex w4.F w2.F := fun a o e => by
              by_cases z : a ∈ w.A
              · rw [h4n a z] at e; cases e
              · rw [h4 a z] at e; exact e
            have le : w.le w4 := ⟨fun a o e => by
              have z : a ∉ w.A := fun z => by rw [(R.free a z).1] at e; cases e
              rw [h4 a z]; exact l2.f a o (R.ex_mer a o e), rfl, List.prefix_append _ _⟩
            have tu : ∀ a vs, w2.F a = some (.tup vs) → w4.F a = some (.tup vs) := fun a vs e => by
              have z : a ∉ w.A := fun z => by
                obtain ⟨i, c, o, _, _, e5, x⟩ := R.at_ z
                rw [hF a z o e5] at e; cases e
                exact x.not_tbl.2 vs rfl
              rw [h4 a z]; exact e
            have R4 : Rel K T w4 H2 (h ++ [.lst l]) := by
              refine ⟨e4.trans R2.fh, fun a o e => R2.ph a o (by rw [pr2]; exact e), fun a o e => R2.ft a o (e4 a o e), R.pt, fun a o e => ?_, ?_, ?_, fun i c e => ?_, fun a hm => ?_, R2.tb⟩
              · by_cases z : a ∈ w.A
                · exact h4n a z
                · rw [h4 a z]; exact R2.dj a o (by rw [pr2]; exact e)
              · exact List.nodup_append.mpr ⟨R.nd, by simp, by rintro a ha b hb rfl; simp at hb; subst hb; exact hpw ha⟩
              · show (w.A ++ [p]).length = (h ++ [Cell.lst l]).length
                simp [R.len]
              · rcases cell_on (p := p) R.len e with ⟨_, e⟩ | ⟨_, rfl, e5⟩
                · obtain ⟨q, u, a, b, y⟩ := R.cell i c e
                  exact ⟨q, u, pre_get le.a a, R2.fh q u (hF q (List.mem_of_getElem? a) u b), CRp.mono le y⟩
                · exact ⟨p, _, e5, a2, us, rfl, flatL_rp (w := w2) (w' := w4) tu _ us hf a3⟩
              · rcases List.mem_append.mp hm with hm | hm
                · exact ⟨h4n a hm, (R.free a hm).2⟩
                · simp at hm; subst hm
                  refine ⟨(h4 a hpw).trans (R2.free a pA).1, ?_⟩
                  have := (R2.free a pA).2
                  rw [pr2] at this; exact this
            refine q w4 _ H2 le R4 ⟨p, rfl, ?_⟩
            show (w.A ++ [p])[h.length]? = some p
            rw [← R.len]; simp
        · cases e
      · cases e
    · cases e
end

/-! ### defs by name -/
section
variable (P : Program) (ww : World) (K : PySem.W.Frag) (mg : Str → Option Value) (base : Heap) (T : List (Addr × Str))
/-- the module's def x keeps what f computes, at level k -/
def Dok (k : Nat) (x : Str) (ps : List Str) (f : FD) : Prop := ∃ fd, FnOk P ww K mg base (L2.CX P ww) k (He.ga K x) fd ps (spF K T f) ∧ Binds K fd ps [] ∧ PySem.W.keepIn K (.ref (He.ga K x)) = true ∧ mg x = some (.ref (He.ga K x)) ∧ ∃ oc od sl, K.lookup (He.ga K x) = some ⟨oc, od, .func fd, sl⟩
end
section
variable {P : Program} {ww : World} {K : PySem.W.Frag} {mg : Str → Option Value} {base : Heap} {T : List (Addr × Str)}
theorem Dok.pur {k : Nat} {x : Str} {ps : List Str} {f : FD} (d : Dok P ww K mg base T k x ps f) : Dok P ww K mg base T k x ps (pureF f) := by
  obtain ⟨fd, F, b, kp, m, lk⟩ := d
  exact ⟨fd, ⟨fun vs H Q E h => F.len vs H Q E (pure_sp h), fun A o s H a us vs Q E r e b v h => F.run A o s H a us vs Q E r e b v (pure_sp h)⟩, b, kp, m, lk⟩
theorem Dok.fre {k : Nat} {x : Str} {ps : List Str} {f : FD} (d : Dok P ww K mg base T k x ps f) : Dok P ww K mg base T k x ps (freshF f) := by
  obtain ⟨fd, F, b, kp, m, lk⟩ := d
  exact ⟨fd, ⟨fun vs H Q E h => F.len vs H Q E (fresh_sp h), fun A o s H a us vs Q E r e b v h => F.run A o s H a us vs Q E r e b v (fresh_sp h)⟩, b, kp, m, lk⟩
theorem Dok.mk {x : Str} {params : Arguments} {body : List Stmt} {scope : Scope} {N ps : List Str} {k : Nat} {m : MS} {kws : List (Str × V)} (F : ∃ fd, FunD K x x params body scope [] kws (He.ga K x) fd) (S : FnScope N ps scope) (hg : mg x = some (.ref (He.ga K x)))
    (hbi : ∀ (kV doc pm : Value) (an : Option Addr) (cdv ct : Value) (us : List Value), us.length = ps.length → bindArgs (PySem.W.fnOf x x params body scope .none kV doc pm an cdv ct) ⟨us, []⟩ = pure (ps.zip us))
    (hb : ∀ (cdv : Value) (A : Around) (outer : List Env) (s : Shared) (H : Hp) (E : XK), Room k (A.deeper (envOfC x scope s.heap.objs.size (He.ga K x) cdv)) → JSs T (cxOf (L2.CX P ww) P ww K mg base N x scope (He.ga K x) cdv A outer s H E).nox body m) :
    Dok P ww K mg base T (k + 1) x ps (runB ps.length N.length m) := by
  obtain ⟨fd, F⟩ := F
  obtain ⟨oc, od, _, _, _, _, _, _, _, osl, _, lk, _⟩ := F.ex
  exact ⟨fd, fn_ok F S hb, F.bindsN hbi, F.kp, hg, oc, od, osl, lk⟩
end
theorem pass0' {X : Cx} : Passes (L2.CX X.prog X.w) X E0 := passL
theorem je_callD {X : Cx} {T : List (Addr × Str)} {e : Expr} {es : List Expr} {pos p : Pos} {l : MA} {k : Nat} {x : Str} {ps : List Str} {f : FD} (G : Dok X.prog X.w X.K X.mg X.base T k x ps f) (hr : Room k X.A) (ha : JA T X (e :: es) l) (hg : Gl X x := by rfl)
    (hdb : (x == ("__debug__" : Str)) = false := by decide) (he : starEach (e :: es) X.env = (false, eval e X.env) :: starEach es X.env := by rfl) (hpl : (backTo pos (starEach es X.env)).any (·.1) = false := by rfl) : JE T X (.Call (.Name x p) (e :: es) [] pos) (mB f l) := by
  obtain ⟨fd, F, b, kp, m, _⟩ := G
  exact je_call (ds := []) F hr hg m kp b pass0' ha hdb he hpl
theorem fd_of {K : PySem.W.Frag} {a : Addr} {fd fd2 : FuncData} {x qual : Str} {params : Arguments} {body : List Stmt} {scope : Scope} {dvs : List V} {kws : List (Str × V)} (F : FunD K x qual params body scope dvs kws a fd) (h : ∃ oc od sl, K.lookup a = some ⟨oc, od, .func fd2, sl⟩) : fd2 = fd := by
  obtain ⟨oc, od, _, _, _, _, _, _, _, osl, _, lk, _⟩ := F.ex
  obtain ⟨oc2, od2, sl2, lk2⟩ := h
  rw [lk] at lk2
  cases lk2; rfl
/-- the law's def -/
def spLaw (T : List (Addr × Str)) (K : PySem.W.Frag) (H : Hp) (a : Addr) (ns : List Int) : Prop := SqL K H a (ns.map V.int)
end Tp
set_option Elab.async false
set_option linter.all false
set_option maxRecDepth 100000
set_option maxHeartbeats 4000000
namespace Tp
open PySem PySem.Spec PyProof.Rows L2
section
variable {X : Cx} {T : List (Addr × Str)} {a b c e : Expr} {pos : Pos} {m n m1 m2 m3 : ME}
def mNeg (a : ME) : ME := fun G h => match a G h with
  | some (.int i, h1) => some (.int (-i), h1)
  | _ => none
theorem je_neg (ha : JE T X a m) : JE T X (.UnaryOp .USub a pos) (mNeg m) := by
  obtain ⟨t, p, s⟩ := ha
  refine ⟨_, pe_un un_neg p, fun w σ H G h d h' R E hm Q k => ?_⟩
  unfold mNeg at hm
  split at hm
  · rename_i i h1 e1
    cases hm
    exact s w σ H G h _ _ R E e1 _ fun w1 v H1 l1 R1 x => ⟨i, x, k w1 _ H1 l1 R1 rfl⟩
  · cases hm
theorem je_gint {x : Str} {i : Int} (hg : Gl X x) (hm : ∃ t, X.mg x = some (.int i t)) (hd : (x == ("__debug__" : Str)) = false := by decide) : JE T X (.Name x pos) (mC (.int i)) :=
  let ⟨t, h⟩ := hm; je_glob (v := .int i) hg h ⟨t, rfl⟩ (fun _ => rfl) hd
theorem je_gstr {x z : Str} (hg : Gl X x) (hm : ∃ t, X.mg x = some (.str z t)) (hd : (x == ("__debug__" : Str)) = false := by decide) : JE T X (.Name x pos) (mC (.str z)) :=
  let ⟨t, h⟩ := hm; je_glob (v := .str z) hg h ⟨t, rfl⟩ (fun _ => rfl) hd
theorem jt_in (h : JE T X e m) (he : ∀ ta, PE X e ta → PT X e (tTest ta)) : JT T X e (mTest m) := by
  obtain ⟨t, p, s⟩ := h
  exact ⟨_, he _ p, st_test s⟩
end
section
variable {X : Cx} {T : List (Addr × Str)} {a b c e : Expr} {pos : Pos} {m n m1 m2 m3 : ME}
theorem se_chain {K : PySem.W.Frag} {ta tb tc : TE} {r r' : R2} {f g : F2} (ha : SE K T ta m1) (hb : SE K T tb m2) (hc : SE K T tc m3) (hf : S2 K T r f) (hg : S2 K T r' g) : SE K T (tChain r r' ta tb tc) (mChain f g m1 m2 m3) := by
  intro w σ H G h d h' R E hm Q k
  unfold mChain at hm
  split at hm
  · cases hm
  · rename_i x h1 e1
    split at hm
    · cases hm
    · rename_i y h2 e2
      refine ha w σ H G h x h1 R E e1 _ fun w1 v1 H1 l1 R1 x1 => ?_
      refine hb w1 σ H1 G h1 y h2 R1 (E.mono l1) e2 _ fun w2 v2 H2 l2 R2 x2 => ?_
      split at hm
      · rename_i e3
        refine hf w2 H2 h2 x y v1 v2 _ R2 (Rp.mono l2 _ _ x1) x2 e3 _ fun w3 z H3 l3 R3 x3 => ⟨true, x3, ?_⟩
        split at hm
        · cases hm
        · rename_i z' h3 e4
          split at hm
          · rename_i kk e5
            cases hm
            refine hc w3 σ H3 G h2 _ _ R3 (E.mono ((l1.trans l2).trans l3)) e4 _ fun w4 v4 H4 l4 R4 x4 => ?_
            refine hg w4 H4 _ y _ v2 v4 _ R4 (Rp.mono (l3.trans l4) _ _ x2) x4 e5 _ fun w5 z5 H5 l5 R5 x5 => ?_
            exact k w5 _ H5 ((((l1.trans l2).trans l3).trans l4).trans l5) R5 x5
          · cases hm
      · rename_i e3
        cases hm
        refine hf w2 H2 _ x y v1 v2 _ R2 (Rp.mono l2 _ _ x1) x2 e3 _ fun w3 z H3 l3 R3 x3 => ⟨false, x3, ?_⟩
        exact k w3 _ H3 ((l1.trans l2).trans l3) R3 rfl
      · cases hm
end
end Tp
namespace Tp
open PySem PySem.Spec PyProof.Rows L2
section
variable {X : Cx} {T : List (Addr × Str)} {a b c e : Expr} {pos : Pos} {m n m1 m2 m3 : ME}
theorem je_chain {op op' : CmpOp} {r r' : R2} {f g : F2} (ho : OpR X (compareOp op) r) (hf : S2 X.K T r f) (ho' : OpR X (compareOp op') r') (hg : S2 X.K T r' g) (ha : JE T X a m1) (hb : JE T X b m2) (hc : JE T X c m3)
    (hx : ∀ ta tb tc, PE X a ta → PE X b tb → PE X c tc → PE X (.Compare a [op, op'] [b, c] pos) (tChain r r' ta tb tc)) : JE T X (.Compare a [op, op'] [b, c] pos) (mChain f g m1 m2 m3) := by
  obtain ⟨ta, pa, sa⟩ := ha
  obtain ⟨tb, pb, sb⟩ := hb
  obtain ⟨tc, pc, sc⟩ := hc
  exact ⟨_, hx _ _ _ pa pb pc, se_chain sa sb sc hf hg⟩
theorem jt_chain {op op' : CmpOp} {r r' : R2} {f g : F2} (ho : OpR X (compareOp op) r) (hf : S2 X.K T r f) (ho' : OpR X (compareOp op') r') (hg : S2 X.K T r' g) (ha : JE T X a m1) (hb : JE T X b m2) (hc : JE T X c m3)
    (hx : ∀ ta tb tc, PE X a ta → PE X b tb → PE X c tc → PT X (.Compare a [op, op'] [b, c] pos) (tTest (tChain r r' ta tb tc))) : JT T X (.Compare a [op, op'] [b, c] pos) (mTest (mChain f g m1 m2 m3)) := by
  obtain ⟨ta, pa, sa⟩ := ha
  obtain ⟨tb, pb, sb⟩ := hb
  obtain ⟨tc, pc, sc⟩ := hc
  exact ⟨_, hx _ _ _ pa pb pc, st_test (se_chain sa sb sc hf hg)⟩
end
end Tp
namespace Tp
open PySem PySem.Spec PyProof.Rows L2
section
variable {X : Cx} {T : List (Addr × Str)} {a b c e : Expr} {pos : Pos} {m n m1 m2 m3 : ME}
theorem st_B {K : PySem.W.Frag} {t : TE} (h : SE K T t m) : ST K T (tB t) (mTest m) := by
  intro w σ H G g b h' R E hm Q k
  unfold mTest at hm
  split at hm
  · rename_i b' h1 e
    cases hm
    exact h w σ H G g _ _ R E e _ fun w1 v H1 l1 R1 x => ⟨b, x, k w1 H1 l1 R1⟩
  · cases hm
theorem jt_din (hu : X.A.units + 1 < cLine) (ha : JE T X a m) (hb : JE T X b n) (h1 : behindInMarks .In b = false := by rfl) : JT T X (.Compare a [.In] [b] pos) (mTest (mO2 fDIn m n)) := by
  obtain ⟨ta, pa, sa⟩ := ha
  obtain ⟨tb, pb, sb⟩ := hb
  refine ⟨_, pt_cmp (pc_din hu pa pb) h1, st_B ?_⟩
  refine se_op (r := fun y x H Q => ∃ a o, x = .ref a ∧ DGet H a y o ∧ Q (.bl o.isSome) H) sa sb fun w H h y x u v d R b a e Q k => ?_
  unfold fDIn at e
  split at e
  · rename_i l kk e1 e2
    cases e
    obtain ⟨p, kvs, rfl, hp, x1⟩ := pk_dic R a e1
    rw [keyD_rp b e2]
    exact ⟨p, _, rfl, DGet.k hp, k w _ H (Wd.le.refl w) R (by rw [isSome_rp kk x1]; exact rfl)⟩
  · cases e
theorem jt_dnotin (hu : X.A.units + 1 < cLine) (ha : JE T X a m) (hb : JE T X b n) (h1 : behindInMarks .NotIn b = false := by rfl) : JT T X (.Compare a [.NotIn] [b] pos) (mTest (mO2 fDNotIn m n)) := by
  obtain ⟨ta, pa, sa⟩ := ha
  obtain ⟨tb, pb, sb⟩ := hb
  refine ⟨_, pt_cmp (pc_dnotin hu pa pb) h1, st_B ?_⟩
  refine se_op (r := fun y x H Q => ∃ a o, x = .ref a ∧ DGet H a y o ∧ Q (.bl (!o.isSome)) H) sa sb fun w H h y x u v d R b a e Q k => ?_
  unfold fDNotIn at e
  split at e
  · rename_i l kk e1 e2
    cases e
    obtain ⟨p, kvs, rfl, hp, x1⟩ := pk_dic R a e1
    rw [keyD_rp b e2]
    exact ⟨p, _, rfl, DGet.k hp, k w _ H (Wd.le.refl w) R (by rw [isSome_rp kk x1]; exact rfl)⟩
  · cases e
theorem noCX {P : Program} {w : World} {H : Hp} {s : Shared} {e : Value} {s' : Shared} (z : L2.CX P w [] H s (fun _ _ _ => False) e s') : False := by
  obtain ⟨_, _, _, _, _, _, _, _, _, _, _, _, z⟩ := z
  exact z.elim
/-- the law's end -/
theorem law_end {K : PySem.W.Frag} {H : Hp} {a : Addr} {ns : List Int} {F : FD} {h' : List Cell} {E : XK} (hO : Only H) (hS : SqL K H a (ns.map V.int)) (e : F [] [.sq (ns.map D.int)] = some (.bl true, h')) :
    spF K [] F [.ref a] H (fun v _ => v = .bl true) E := by
  refine ⟨⟨H, fun _ => none, []⟩, [], [.sq (ns.map D.int)], .bl true, h', ?_, ⟨_, [], rfl, ⟨a, _, rfl, hS, RpL.ints ns⟩, rfl⟩, e, fun w' v H' _ _ x => x⟩
  refine ⟨Ex.refl _, fun a o e => (by cases e), fun b o e => ?_, fun a o e => (by cases e), fun a o e => (by cases e), List.nodup_nil, rfl, fun n c e => (by simp at e), fun p hp => (by cases hp), fun p hp => (by cases hp)⟩
  rcases hO b with h | ⟨o', xs, h⟩
  · have e : H b = some o := e
    rw [h] at e; cases e
  · have e : H b = some o := e
    rw [h] at e; cases e; rfl
end
end Tp
namespace Tp
open PySem PySem.Spec PyProof.Rows L2
theorem walk_w {l : PySem.W.OpenLaw} {n k : Nat} {q : Program} {loose : List Str} {XP : (Str → Option Value) → Heap → Prop} {YP : World → Heap → Prop} {d : DefRec} {CX : World → CXT} {x : Str}
    (hn : l.most = some n) (hn2 : n ≤ sizeLine) (hdf : d.params.defaults = []) (hr : Room k callerA)
    (F : ∀ (w : World) (mg : Str → Option Value) (fa : Addr) (h : Heap), YP w h → h.Ns mainGlobals mg → mg d.name = some (.ref fa) →
      ∃ (K : PySem.W.Frag) (fd : FuncData) (sp : Sp), K.In h ∧ (∀ (s : Shared) (u : Value), BindsTo s fd ⟨[u], []⟩ [(x, u)]) ∧
        (∀ (H : Hp) (a : Addr) (ns : List Int), ns.length ≤ n → Only H → SqL K H a (ns.map V.int) → sp [.ref a] H (fun v _ => v = .bl true) fun _ _ _ => False) ∧
        ∀ base : Heap, K.In base → base.Ns mainGlobals mg → FnOk l.prog w K mg base (CX w) k fa fd [x] sp)
    (hCX : ∀ (w : World) (H : Hp) (s : Shared) (e : Value) (s' : Shared), CX w [] H s (fun _ _ _ => False) e s' → False) :
    PySem.W.WalkO q loose XP YP l.row.toRowW d [] (fun f vs => PySem.call f vs) := by
  refine Att.attach_call hn hdf fun w s₀ s₁ mg mb fa o pm cd doc a vs ns G Y ho hd hcd hmg hobj hints hlen hg => ?_
  obtain ⟨K, fd, sp, KX, hb, hsp, hF⟩ := F w mg fa _ Y G.T.g hmg
  exact law_call KX G.T.g G.T.b G.T.builtins G.T.nolimit hg hobj hints (Nat.le_trans hlen hn2) hr hF hb (fun H hO hS => hsp H a ns hlen hO hS) fun H e s' => hCX w H s₁ e s'
end Tp
set_option Elab.async false
set_option linter.all false
set_option maxRecDepth 100000
set_option maxHeartbeats 4000000
/-! sorted(xs, key=lambda row: row[0]) -/
namespace Tp
open PySem PySem.Spec PyProof.Rows L2
def rowArgs (x : Str) (ap : Pos) : Arguments := { posonlyargs := [], args := [{ arg := x, annotation := none, pos := ap : PySem.Arg }], vararg := none, kwonlyargs := [], kw_defaults := [], kwarg := none, defaults := [] : PySem.Arguments }
def rowScope (x : Str) : Scope := { kind := PySem.ScopeKind.function, names := [(x, PySem.NameKind.local)], isGenerator := false, isCoroutine := false, more := [] : PySem.Scope }
section
variable {prog : Program} {w : World} {A : Around} {E : Value → Shared → Prop} {s : Shared}
/-- row[0] -/
theorem row_zero {env : Env} {x : Str} {m : Str → Option Value} {t : Addr} {its : List Value} {n : Int} {tk : Tok} {j : Nat} {p1 p2 p3 : Pos} (hk : env.scope.kind = .function) (hl : env.kindOf x = some .local) (hn : s.heap.Ns env.locals m) (hv : m x = some (.ref t))
    (ht : IsTup s.heap t (Value.int n tk :: its).toArray) (hz : its.length < sizeLine) (hd : (x == ("__debug__" : Str)) = false := by decide) :
    wpAny (model prog w) A (eval (.Subscript (.Name x p1) (.Constant (.int 0) j p2) p3) env) (fun v s' => v = .int n tk ∧ ∃ t', s' = { s with toks := t' }) E s := by
  refine Subscript_ (wpAny_Name (wpAny_loadName_local hk hl hn hv (wpAny_Constant_int ?_)) hd)
  refine subscriptTail_builtinR (T := "tuple") (x := .int n tk) ?_ slot_tuple_getitem.lookup (getItem_tuple (items := (Value.int n tk :: its).toArray) (j := 0) (x := .int n tk) (Q := fun r s' => r = .int n tk ∧ (r = .int n tk ∧ ∃ t', s' = { s with toks := t' })) ?_ (by omega) (by omega) ?_ ?_ ⟨rfl, rfl, _, rfl⟩) rfl
  · exact ht.typeIs
  · exact ht
  · have : seqIndex? 0 ((Value.int n tk :: its).toArray).size = some 0 := by
      rw [seqIndex_of (by omega) (by simp)]
      rfl
    exact this
  · simp
end
end Tp
namespace Tp
open PySem PySem.Spec PyProof.Rows L2
theorem rd_extN {H H' : Hp} {a : Addr} {u : HO} (e : LamX.ExtN H H') (n : ∀ ps, u ≠ .tbl ps) (n2 : ∀ o ps, HO.frz o u ≠ .tbl ps) (r : Rd H a u) : Rd H' a u := by
  rcases r with r | ⟨o, r⟩
  · exact .inl (e _ _ r n)
  · exact .inr ⟨o, e _ _ r (n2 o)⟩
theorem sqT_extN {K : PySem.W.Frag} {H H' : Hp} {a : Addr} {xs : List V} (e : LamX.ExtN H H') (r : SqT K H a xs) : SqT K H' a xs := by
  rcases r with r | r
  · exact .inl (rd_extN e (fun ps z => by cases z) (fun o ps z => by cases z) r)
  · exact .inr r
theorem sqL_extN {K : PySem.W.Frag} {H H' : Hp} {a : Addr} {xs : List V} (e : LamX.ExtN H H') (r : SqL K H a xs) : SqL K H' a xs := by
  rcases r with r | r
  · exact .inl (rd_extN e (fun ps z => by cases z) (fun o ps z => by cases z) r)
  · exact .inr r
/-- the rows vs with their first numbers -/
def Heads (K : PySem.W.Frag) (H : Hp) (bs : List (V × Int)) : Prop := ∀ b ∈ bs, ∃ t r, b.1 = .ref t ∧ SqT K H t (.int b.2 :: r)
def srt (bs : List (V × Int)) : List (V × Int) := bs.mergeSort fun a b => decide (a.2 ≤ b.2)
def tSk (K : PySem.W.Frag) (T : List (Addr × Str)) (ta : TE) : TE := fun σ H Q => ta σ H fun x H1 => LamX.Tabs T H1 ∧ ∃ l bs, x = .ref l ∧ SqL K H1 l (bs.map (·.1)) ∧ Heads K H1 bs ∧
  ∀ H2, LamX.ExtN H1 H2 → LamX.Tabs T H2 → ∀ p, H2 p = none → Q (.ref p) (upd H2 p (.lst ((srt bs).map (·.1))))
theorem each_vals : ∀ {vs : List Value} {bs : List (V × Int)}, PySem.W.EachIs (fun v b => RelV b.1 v) vs bs → Vals (bs.map (·.1)) vs
  | _, _, .nil => .nil
  | _, _, .cons h r => .cons h (each_vals r)
theorem vals_each : ∀ {bs : List (V × Int)} {vs : List Value}, Vals (bs.map (·.1)) vs → PySem.W.EachIs (fun v (b : V × Int) => RelV b.1 v) vs bs
  | [], vs, r => by cases r; exact .nil
  | b :: bs, vs, r => by
    cases r with
    | cons h r => exact .cons h (vals_each r)
theorem je_sort_ok {X : Cx} {T : List (Addr × Str)} {a : Expr} {ta : TE} {x : Str} {c P : Addr} {k j : Nat} {ap p p1 p2 p3 lpos kpos pos : Pos} (hg : Gl X "sorted") (hm : X.mg "sorted" = none) (ha : PE X a ta) (TB : LamX.TabB X.base X.mg c P) (hcode : X.env.code = .ref c) (hmT : (P, X.env.qual ++ "<lambda>") ∈ T) (hu : ∀ p ∈ T, p.1 = P → p.2 = X.env.qual ++ "<lambda>")
    (hr : Room k X.A) (hbind : ∀ (cl : List (Str × Addr)) (pm cv ctv v : Value), bindArgs (PySem.W.kla_fn "<lambda>" (X.env.qual ++ "<lambda>") (rowArgs x ap) (.Subscript (.Name x p1) (.Constant (.int 0) j p2) p3) (rowScope x) cl pm cv ctv) ⟨[v], []⟩ = pure [(x, v)])
    (hd : (x == ("__debug__" : Str)) = false)
    (hs0 : starEach [a] X.env = (false, eval a X.env) :: starEach [] X.env := by rfl) (he : backTo pos (starEach [a] X.env) = (false, eval a X.env) :: backTo pos (starEach [] X.env) := by rfl) (hpl : (backTo pos (starEach [a] X.env)).any (·.1) = false := by rfl) :
    PE X (.Call (.Name "sorted" p) [a] [⟨some "key", .Lambda (rowArgs x ap) (.Subscript (.Name x p1) (.Constant (.int 0) j p2) p3) (rowScope x) lpos, kpos⟩] pos) (tSk X.K T ta) := by
  refine ⟨fun pins s σ H Q I h => ?_⟩
  refine wpAny_Call_Name_kw (ld_blt I hg hm (u := .builtin "sorted") rfl ?_ (by decide) (by decide))
  refine PyProof.Rows.callWith_kw (thn ((pa_cons ha pa_nil hs0).run pos pins s σ H (fun vs H1 => match vs with
    | [x] => LamX.Tabs T H1 ∧ ∃ l bs, x = .ref l ∧ SqL X.K H1 l (bs.map (·.1)) ∧ Heads X.K H1 bs ∧ ∀ H2, LamX.ExtN H1 H2 → LamX.Tabs T H2 → ∀ p, H2 p = none → Q (.ref p) (upd H2 p (.lst ((srt bs).map (·.1))))
    | _ => False) I h) fun us s1 ⟨vs, H1, I1, r1, q1⟩ => ?_) he hpl rfl rfl
  cases vs with
  | nil => exact q1.elim
  | cons v0 vr =>
  cases vr with
  | cons _ _ => exact q1.elim
  | nil =>
  obtain ⟨hT, l, bs, rfl, hq, hh, fin⟩ := q1
  obtain rfl := Vals.ref1 r1
  refine wpAny_evalAll_cons (wpAny_bind (LamX.lam_make2 I1 TB hcode hmT hu hT rfl (fun y hy e => ?free) fun f c' pm' ctv H2 s2 I2 eN T2 hf hfn hfr hco => wpAny_bind (wpAny_standAt (wpAny_pure (wpAny_evalAll_nil ?_)))))
  case free =>
    rw [show (rowScope x).names = [(x, NameKind.local)] from rfl, List.mem_singleton] at hy
    rw [hy] at e; cases e
  show wpAny _ _ (call (.builtin "sorted") [.ref l] [(Str.ofString "key", .ref f)]) _ _ _
  have hq2 := sqL_extN eN hq
  obtain ⟨its, rv, hl, hz⟩ := I2.list hq2
  rw [List.length_map] at hz
  obtain ⟨⟨oc, cvs, ct, hoc, hdc, hvc⟩, _, _⟩ := I2.hok c' _ hco
  refine PySem.W.sorted_key_data (β := V × Int) (bs := bs) (b := false) (R := fun v b => RelV b.1 v) (fun b => .int b.2) hl.isList (vals_each rv) (PySem.W.AllAlike.of fun _ _ => by simp [PySem.W.alike]) (PySem.W.Sortable.others fun _ => ⟨by simp, by simp⟩) hz
    (fun b _ => ?un) (PyProof.Rows.ksk_s1 _ _) (fun _ => PyProof.Rows.ksk_l1 _ _) (fun _ => PyProof.Rows.ksk_t1 _ _) (fun v b hR hb h tk kp => ?turn) fun out c2 h' tk kp _ hD hlen eo => ?_
  case un =>
    have := hr.un
    simp only [PyData.depth]; omega
  case turn =>
    obtain ⟨t, r, e, hs⟩ := hh b hb
    have hR : RelV b.1 v := hR
    rw [e] at hR
    cases hR
    obtain ⟨tits, tv, ht, htz⟩ := I2.tuple (sqT_extN eN hs)
    cases tv with
    | cons h0 tr =>
    rename_i u0 ur
    obtain ⟨tk0, rfl⟩ := h0
    have rc : codeAny (model X.prog X.w) X.A.in1.in1 (.call (.ref f) ⟨[.ref t], []⟩) (fun r s'' => match r with | .ok (.ret v) => PySem.W.KeyPure (.int b.2) { s2 with heap := h, toks := tk } v s'' | _ => False) { s2 with heap := h, toks := tk } := by
      refine PySem.W.kla_callFunE (hr.depth) (kp f _ hf) rfl rfl rfl rfl ⟨c', oc, cvs, ct, rfl, kp _ _ hoc, hdc, hvc⟩ ?_
      rw [hbind]
      refine wpAny_pure (wpAny_newFunctionEnv (fun y hy => ?_) (fun y hy => ?_) (fun h₁ hns hsb => ⟨(I2.nolimit.keeps kp).fresh _ hsb, ?_⟩) rfl)
      · rw [show (rowScope x).names = [(x, NameKind.local)] from rfl, List.mem_singleton] at hy
        rw [hy]; simp
      · rw [List.mem_singleton] at hy
        rw [hy]
        show List.lookup x [(x, NameKind.local)] = _
        simp
      have k1 : ∀ b o, h.get? b = some o → h₁.get? b = some o := fun b o e => hsb.extBut b o (Nat.ne_of_lt (Heap.lt_size e)) (Heap.get?_push_of_some _ e)
      refine PySem.W.kla_codeExpr (wpAny_mono (row_zero (E := fun _ _ => False) (t := t) (n := b.2) (tk := tk0) (its := ur) rfl ?_ hns ?_ ?_ ?_ hd) (fun v s'' hq => ?_) fun _ _ x => x.elim)
      · show List.lookup x [(x, NameKind.local)] = _
        simp
      · simp
      · exact (ht.keeps kp).keeps k1
      · have := tr.length
        simp at htz; omega
      · obtain ⟨rfl, t', rfl⟩ := hq
        exact ⟨h₁, t', rfl, k1, .int _ _⟩
    refine wpAny_call (codeAny_mono rc fun r s'' hq => ?_)
    cases r with
    | error e => exact hq.elim
    | ok fl =>
      cases fl with
      | ret u => exact hq
      | next => exact hq.elim
      | brk => exact hq.elim
      | cont => exact hq.elim
  rw [PySem.W.dataLe_int (fun b : V × Int => b.2)] at eo
  refine ⟨.ref _, upd H2 _ (.lst ((srt bs).map (·.1))), I2.laid kp (Nat.le_succ _) ⟨?_, out, c2, each_vals eo, hD⟩, rfl, fin H2 eN T2 _ (I2.hok.fresh (Nat.le_succ _))⟩
  rw [List.length_map]
  unfold srt
  rw [List.length_mergeSort]; exact hz
end Tp
set_option Elab.async false
set_option linter.all false
set_option maxRecDepth 100000
set_option maxHeartbeats 4000000
namespace Tp
open PySem PySem.Spec PyProof.Rows L2
/-- the lambdas of the def x: its code object and table -/
def lamQ (x : Str) : Str := (x ++ ".<locals>.") ++ "<lambda>"
structure TabFor (K : PySem.W.Frag) (base : Heap) (mg : Str → Option Value) (T : List (Addr × Str)) (x : Str) : Prop where
  tb : LamX.TabB base mg (He.cT K (x, none)).1 (He.cT K (x, none)).2
  m : ((He.cT K (x, none)).2, lamQ x) ∈ T
  u : ∀ p ∈ T, p.1 = (He.cT K (x, none)).2 → p.2 = lamQ x
def CodeIs (K : PySem.W.Frag) (x : Str) (cdv : Value) : Prop := cdv = .ref (He.codeOf K (x, none))
section
variable {P : Program} {ww : World} {K : PySem.W.Frag} {mg : Str → Option Value} {base : Heap} {T : List (Addr × Str)}
theorem fn_okC {x : Str} {params : Arguments} {body : List Stmt} {scope : Scope} {dvs : List V} {kws : List (Str × V)} {fd : FuncData} {N ps : List Str} {k : Nat} {m : MS} (F : FunD K x x params body scope dvs kws (He.ga K x) fd) (S : FnScope N ps scope)
    (hb : ∀ (cdv : Value) (A : Around) (outer : List Env) (s : Shared) (H : Hp) (E : XK), CodeIs K x cdv → Room k (A.deeper (envOfC x scope s.heap.objs.size (He.ga K x) cdv)) → JSs T (cxOf (L2.CX P ww) P ww K mg base N x scope (He.ga K x) cdv A outer s H E).nox body m) :
    FnOk P ww K mg base (L2.CX P ww) (k + 1) (He.ga K x) fd ps (spF K T (runB ps.length N.length m)) := by
  have F0 := F
  obtain ⟨oc, od, dV, kV, doc, pm, an, cdv0, ct, osl, rfl, lk, hcd, _, _⟩ := F.ex
  have hc : CodeIs K x cdv0 := by
    obtain ⟨c, e⟩ := He.codeIn_ref hcd
    rw [e]
    exact congrArg Value.ref (He.codeOf_eq (p := (x, none)) lk e).symm
  refine fn_of lk hcd S (fun vs H Q E h => ?_) (fun A outer s H vs Q E hr h => ?_)
  · obtain ⟨w, g, ds, d, h', R, r, e, _⟩ := h
    unfold runB at e
    split at e
    · rename_i hl; rw [← r.len]; exact hl
    · cases e
  · obtain ⟨w, g, ds, d, h', R, r, e, q⟩ := h
    obtain ⟨t, p, s2⟩ := hb cdv0 A outer s H E hc hr
    refine ⟨t, p.nox, ?_⟩
    unfold runB at e
    split at e
    · rename_i hl
      rw [← hl] at e
      split at e
      · rename_i d' h'' e2
        cases e
        exact s2 w _ H _ g _ _ R (env_start r) e2 _ fun w1 H1 l1 R1 v x => q w1 v H1 l1 R1 x
      · rename_i G' h'' e2
        cases e
        exact s2 w _ H _ g _ _ R (env_start r) e2 _ fun w1 H1 l1 R1 σ x => q w1 .non H1 l1 R1 rfl
      · cases e
    · cases e
theorem Dok.mkC {x : Str} {params : Arguments} {body : List Stmt} {scope : Scope} {N ps : List Str} {k : Nat} {m : MS} {kws : List (Str × V)} (F : ∃ fd, FunD K x x params body scope [] kws (He.ga K x) fd) (S : FnScope N ps scope) (hg : mg x = some (.ref (He.ga K x)))
    (hbi : ∀ (kV doc pm : Value) (an : Option Addr) (cdv ct : Value) (us : List Value), us.length = ps.length → bindArgs (PySem.W.fnOf x x params body scope .none kV doc pm an cdv ct) ⟨us, []⟩ = pure (ps.zip us))
    (hb : ∀ (cdv : Value) (A : Around) (outer : List Env) (s : Shared) (H : Hp) (E : XK), CodeIs K x cdv → Room k (A.deeper (envOfC x scope s.heap.objs.size (He.ga K x) cdv)) → JSs T (cxOf (L2.CX P ww) P ww K mg base N x scope (He.ga K x) cdv A outer s H E).nox body m) :
    Dok P ww K mg base T (k + 1) x ps (runB ps.length N.length m) := by
  obtain ⟨fd, F⟩ := F
  obtain ⟨oc, od, _, _, _, _, _, _, _, osl, _, lk, _⟩ := F.ex
  exact ⟨fd, fn_okC F S hb, F.bindsN hbi, F.kp, hg, oc, od, osl, lk⟩
end
/-! sorted by the rows' first numbers -/
def hdI : D → Option Int
  | .tup (.int i :: _) => some i
  | _ => none
def hds (l : List D) : List (D × Int) := l.map fun d => (d, (hdI d).getD 0)
def srtD (l : List D) : List D := ((hds l).mergeSort fun a b => decide (a.2 ≤ b.2)).map (·.1)
def mSk (a : ME) : ME := fun G h => match a G h with
  | some (x, h1) => (match pk h1 x with
    | .lst l => if l.all fun d => (hdI d).isSome then some (.lst (srtD l), h1) else none
    | _ => none)
  | none => none
theorem Rel.extN {K : PySem.W.Frag} {T : List (Addr × Str)} {w : Wd} {H H2 : Hp} {h : List Cell} (R : Rel K T w H h) (e : LamX.ExtN H H2) (t : LamX.Tabs T H2) : Rel K T w H2 h := by
  have nt : ∀ {o : HO}, isTbl o = false → ∀ ps, o ≠ .tbl ps := fun {o} z ps q => by rw [q] at z; cases z
  refine ⟨fun a o q => e a o (R.fh a o q) (nt (R.ft a o q)), fun a o q => e a o (R.ph a o q) (nt (R.pt a o q)), R.ft, R.pt, R.dj, R.nd, R.len, fun n c q => ?_, R.free, t⟩
  obtain ⟨p, o, h1, h2, h3⟩ := R.cell n c q
  refine ⟨p, o, h1, e p o h2 (fun ps z => ?_), h3⟩
  subst z
  cases c with
  | lst _ => obtain ⟨_, z, _⟩ := h3; cases z
  | dic _ => obtain ⟨_, z, _⟩ := h3; cases z
  | obj _ _ => obtain ⟨_, _, z, _⟩ := h3; cases z
inductive HdR : (D × Int) → (V × Int) → Prop where
  | mk {a : D × Int} {b : V × Int} : a.2 = b.2 → HdR a b
section
variable {K : PySem.W.Frag} {w : Wd}
inductive All2 {α β : Type} (R : α → β → Prop) : List α → List β → Prop where
  | nil : All2 R [] []
  | cons {a : α} {b : β} {as : List α} {bs : List β} : R a b → All2 R as bs → All2 R (a :: as) (b :: bs)
/-- sorting goes by positions: two lists with like keys sort alike -/
theorem all2_zip {α β : Type} {R : α → β → Prop} : ∀ {as : List α} {bs : List β}, All2 R as bs → as = (as.zip bs).map (·.1) ∧ bs = (as.zip bs).map (·.2) ∧ ∀ p ∈ as.zip bs, R p.1 p.2
  | _, _, .nil => ⟨rfl, rfl, fun p hp => by cases hp⟩
  | _, _, .cons h r => by
    obtain ⟨h1, h2, h3⟩ := all2_zip r
    refine ⟨by simp only [List.zip_cons_cons, List.map_cons]; rw [← h1], by simp only [List.zip_cons_cons, List.map_cons]; rw [← h2], fun p hp => ?_⟩
    rw [List.zip_cons_cons, List.mem_cons] at hp
    rcases hp with rfl | hp
    · exact h
    · exact h3 p hp
theorem all2_of_zip {α β : Type} {R : α → β → Prop} : ∀ (l : List (α × β)), (∀ p ∈ l, R p.1 p.2) → All2 R (l.map (·.1)) (l.map (·.2))
  | [], _ => .nil
  | p :: l, h => .cons (h p List.mem_cons_self) (all2_of_zip l fun q hq => h q (List.mem_cons_of_mem _ hq))
theorem sort_all2 {α β : Type} {R : (α × Int) → (β × Int) → Prop} {as : List (α × Int)} {bs : List (β × Int)} (h : All2 (fun a b => a.2 = b.2 ∧ R a b) as bs) :
    All2 (fun a b => a.2 = b.2 ∧ R a b) (as.mergeSort fun a b => decide (a.2 ≤ b.2)) (bs.mergeSort fun a b => decide (a.2 ≤ b.2)) := by
  obtain ⟨h1, h2, h3⟩ := all2_zip h
  have e1 := List.map_mergeSort (r := fun (p q : (α × Int) × (β × Int)) => decide (p.1.2 ≤ q.1.2)) (s := fun (a b : α × Int) => decide (a.2 ≤ b.2)) (f := fun p => p.1) (l := as.zip bs) (fun a _ b _ => rfl)
  have e2 := List.map_mergeSort (r := fun (p q : (α × Int) × (β × Int)) => decide (p.1.2 ≤ q.1.2)) (s := fun (a b : β × Int) => decide (a.2 ≤ b.2)) (f := fun p => p.2) (l := as.zip bs) (fun a ha b hb => by
    rw [(h3 a ha).1, (h3 b hb).1])
  rw [← h1] at e1
  rw [← h2] at e2
  rw [← e1, ← e2]
  refine all2_of_zip _ fun p hp => h3 p ?_
  exact (List.mergeSort_perm _ _).mem_iff.1 hp
theorem heads_of : ∀ {l : List D} {vs : List V}, RpL K w l vs → (l.all fun d => (hdI d).isSome) = true → ∃ bs : List (V × Int), bs.map (·.1) = vs ∧ All2 (fun a b => a.2 = b.2 ∧ Rp K w a.1 b.1) (hds l) bs ∧ ∀ b ∈ bs, ∃ t r, b.1 = .ref t ∧ w.F t = some (.tup (.int b.2 :: r))
  | [], vs, r, _ => by
    have e : vs = [] := r
    subst e
    exact ⟨[], rfl, .nil, fun b hb => by cases hb⟩
  | d :: l, vs, r, a => by
    obtain ⟨v, vr, rfl, r1, r2⟩ := r
    simp only [List.all_cons, Bool.and_eq_true] at a
    obtain ⟨bs, h1, h2, h3⟩ := heads_of r2 a.2
    have key : ∃ i r0, d = .tup (.int i :: r0) := by
      have a1 := a.1
      unfold hdI at a1
      split at a1
      · exact ⟨_, _, rfl⟩
      · cases a1
    obtain ⟨i, r0, rfl⟩ := key
    have r1' := r1
    obtain ⟨p, vs2, rfl, hp, x⟩ := r1
    obtain ⟨v2, r3, rfl, e3, _⟩ := x
    have e3 : v2 = .int i := e3
    subst e3
    refine ⟨(.ref p, i) :: bs, by rw [List.map_cons, h1], .cons ⟨rfl, r1'⟩ h2, fun b hb => ?_⟩
    rcases List.mem_cons.1 hb with rfl | hb
    · exact ⟨p, r3, rfl, hp⟩
    · exact h3 b hb
theorem rpL_of : ∀ {as : List (D × Int)} {bs : List (V × Int)}, All2 (fun a b => a.2 = b.2 ∧ Rp K w a.1 b.1) as bs → RpL K w (as.map (·.1)) (bs.map (·.1))
  | _, _, .nil => rfl
  | _, _, .cons h r => ⟨_, _, rfl, h.2, rpL_of r⟩
end
theorem se_sk {K : PySem.W.Frag} {T : List (Addr × Str)} {ta : TE} {m : ME} (sa : SE K T ta m) : SE K T (tSk K T ta) (mSk m) := by
  intro w σ H G h d h' R E e Q k
  unfold mSk at e
  split at e
  · rename_i x h1 e1
    split at e
    · rename_i l e2
      split at e
      · rename_i hall
        cases e
        refine sa w σ H G h x _ R E e1 _ fun w1 v H1 l1 R1 x1 => ?_
        obtain ⟨p, vs, rfl, hp, x2⟩ := pk_lst R1 x1 e2
        obtain ⟨bs, b1, b2, b3⟩ := heads_of x2 hall
        refine ⟨R1.tb, p, bs, rfl, by rw [b1]; exact SqL.of hp, fun b hb => ?_, fun H2 eN T2 p2 hp2 => ?_⟩
        · obtain ⟨t, r, h3, h4⟩ := b3 b hb
          exact ⟨t, r, h3, SqT.of (R1.fh _ _ h4)⟩
        · have R2 := R1.extN eN T2
          obtain ⟨l3, R3⟩ := R2.frz (o := .lst ((srt bs).map (·.1))) hp2 rfl
          refine k _ _ _ (l1.trans l3) R3 ⟨p2, _, rfl, Wd.frz_at _ _ _, RpL.mono l3 _ _ ?_⟩
          exact rpL_of (sort_all2 b2)
      · cases e
    · cases e
  · cases e
theorem je_sorted0 {X : Cx} {T : List (Addr × Str)} {a : Expr} {m : ME} {x y : Str} {k j : Nat} {ap p p1 p2 p3 lpos kpos pos : Pos} (Y : TabFor X.K X.base X.mg T x) (hcode : CodeIs X.K x X.env.code) (hq : X.env.qual = x ++ ".<locals>.") (hg : Gl X "sorted") (hm : X.mg "sorted" = none) (ha : JE T X a m)
    (hr : Room k X.A) (hbind : ∀ (cl : List (Str × Addr)) (pm cv ctv v : Value), bindArgs (PySem.W.kla_fn "<lambda>" (X.env.qual ++ "<lambda>") (rowArgs y ap) (.Subscript (.Name y p1) (.Constant (.int 0) j p2) p3) (rowScope y) cl pm cv ctv) ⟨[v], []⟩ = pure [(y, v)])
    (hd : (y == ("__debug__" : Str)) = false := by decide) (hs0 : starEach [a] X.env = (false, eval a X.env) :: starEach [] X.env := by rfl)
    (he : backTo pos (starEach [a] X.env) = (false, eval a X.env) :: backTo pos (starEach [] X.env) := by rfl) (hpl : (backTo pos (starEach [a] X.env)).any (·.1) = false := by rfl) :
    JE T X (.Call (.Name "sorted" p) [a] [⟨some "key", .Lambda (rowArgs y ap) (.Subscript (.Name y p1) (.Constant (.int 0) j p2) p3) (rowScope y) lpos, kpos⟩] pos) (mSk m) := by
  obtain ⟨t, pe, se⟩ := ha
  have eq : X.env.qual ++ "<lambda>" = lamQ x := by rw [hq]; rfl
  exact ⟨_, je_sort_ok hg hm pe Y.tb hcode (by rw [eq]; exact Y.m) (by rw [eq]; exact Y.u) hr hbind hd hs0 he hpl, se_sk se⟩
/-! the end -/
theorem law_endT {K : PySem.W.Frag} {T : List (Addr × Str)} {H : Hp} {a : Addr} {ns : List Int} {F : FD} {h' : List Cell} {E : XK} (hT : ∀ p ∈ T, H p.1 = some (.tbl #[])) (hS : SqL K H a (ns.map V.int)) (e : F [] [.sq (ns.map D.int)] = some (.bl true, h')) :
    spF K T F [.ref a] H (fun v _ => v = .bl true) E := by
  let F0 : Hp := fun b => match H b with
    | some o => if isTbl o then none else some o
    | none => none
  have f0 : ∀ {b : Addr} {o : HO}, F0 b = some o → H b = some o ∧ isTbl o = false := by
    intro b o q
    have q : (match H b with | some o => if isTbl o then none else some o | none => none) = some o := q
    cases z : H b with
    | none => rw [z] at q; cases q
    | some u =>
      rw [z] at q
      cases t : isTbl u with
      | true => simp only [t, if_true] at q; cases q
      | false =>
        simp only [t, Bool.false_eq_true, if_false] at q
        cases q; exact ⟨rfl, t⟩
  have f1 : ∀ {b : Addr} {o : HO}, H b = some o → isTbl o = false → F0 b = some o := by
    intro b o q t
    show (match H b with | some o => if isTbl o then none else some o | none => none) = some o
    rw [q]; simp only [t, Bool.false_eq_true, if_false]
  have hS' : SqL K F0 a (ns.map V.int) := by
    rcases hS with (r | ⟨o, r⟩) | r
    · exact .inl (.inl (f1 r rfl))
    · exact .inl (.inr ⟨o, f1 r rfl⟩)
    · exact .inr r
  refine ⟨⟨F0, fun _ => none, []⟩, [], [.sq (ns.map D.int)], .bl true, h', ?_, ⟨_, [], rfl, ⟨a, _, rfl, hS', RpL.ints ns⟩, rfl⟩, e, fun w' v H' _ _ x => x⟩
  exact ⟨fun b o q => (f0 q).1, fun a o e => (by cases e), fun b o q => (f0 q).2, fun a o e => (by cases e), fun a o e => (by cases e), List.nodup_nil, rfl, fun n c e => (by simp at e), fun p hp => (by cases hp), fun p hp => LamX.TabS.nil (hT p hp)⟩
theorem tabFor_of {K : PySem.W.Frag} {base : Heap} {mg : Str → Option Value} {xs : List Str} (hn : (xs.map fun x => (He.cT K (x, none)).2).Nodup) (h : ∀ p ∈ xs.map (fun x => He.cT K (x, none)), LamX.TabB base mg p.1 p.2) :
    ∀ x ∈ xs, TabFor K base mg (xs.map fun x => ((He.cT K (x, none)).2, lamQ x)) x := by
  intro x hx
  refine ⟨h _ (List.mem_map.2 ⟨x, hx, rfl⟩), List.mem_map.2 ⟨x, hx, rfl⟩, fun p hp e => ?_⟩
  obtain ⟨y, hy, rfl⟩ := List.mem_map.1 hp
  have e : (He.cT K (y, none)).2 = (He.cT K (x, none)).2 := e
  have : y = x := by
    clear h hp
    induction xs with
    | nil => cases hx
    | cons z xs ih =>
      rw [List.map_cons, List.nodup_cons] at hn
      rcases List.mem_cons.1 hx with rfl | hx'
      · rcases List.mem_cons.1 hy with rfl | hy'
        · rfl
        · exact absurd (List.mem_map.2 ⟨y, hy', e⟩) hn.1
      · rcases List.mem_cons.1 hy with rfl | hy'
        · exact absurd (List.mem_map.2 ⟨x, hx', e.symm⟩) hn.1
        · exact ih hn.2 hx' hy'
  rw [this]
theorem walk_wT {l : PySem.W.OpenLaw} {n k : Nat} {q : Program} {loose : List Str} {XP : (Str → Option Value) → Heap → Prop} {YP : World → Heap → Prop} {d : DefRec} {CX : World → CXT} {x : Str}
    (hn : l.most = some n) (hn2 : n ≤ sizeLine) (hdf : d.params.defaults = []) (hr : Room k callerA)
    (F : ∀ (w : World) (mg : Str → Option Value) (fa : Addr) (h : Heap), YP w h → h.Ns mainGlobals mg → mg d.name = some (.ref fa) →
      ∃ (K : PySem.W.Frag) (fd : FuncData) (sp : Sp) (cs : List (Addr × Addr)), K.In h ∧ (∀ p ∈ cs, h.get? p.2 = some { cls := .none, data := .fields #[] }) ∧ (∀ p ∈ cs, K.lookup p.2 = none) ∧ (∀ p ∈ cs, PySem.W.CodeHd h p.1 p.2) ∧ (∀ (s : Shared) (u : Value), BindsTo s fd ⟨[u], []⟩ [(x, u)]) ∧
        (∀ (H : Hp) (a : Addr) (ns : List Int), ns.length ≤ n → (∀ p ∈ cs, H p.2 = some (.tbl #[])) → SqL K H a (ns.map V.int) → sp [.ref a] H (fun v _ => v = .bl true) fun _ _ _ => False) ∧
        ∀ base : Heap, K.In base → base.Ns mainGlobals mg → (∀ p ∈ cs, LamX.TabB base mg p.1 p.2) → FnOk l.prog w K mg base (CX w) k fa fd [x] sp)
    (hCX : ∀ (w : World) (H : Hp) (s : Shared) (e : Value) (s' : Shared), CX w [] H s (fun _ _ _ => False) e s' → False) :
    PySem.W.WalkO q loose XP YP l.row.toRowW d [] (fun f vs => PySem.call f vs) := by
  refine Att.attach_call hn hdf fun w s₀ s₁ mg mb fa o pm cd doc a vs ns G Y ho hd hcd hmg hobj hints hlen hg => ?_
  obtain ⟨K, fd, sp, cs, KX, hT, nT, C, hb, hsp, hF⟩ := F w mg fa _ Y G.T.g hmg
  exact LamX.law_callTs KX G.T.g G.T.b G.T.builtins G.T.nolimit hg hT nT C G.T.bmain hobj hints (Nat.le_trans hlen hn2) hr hF hb (fun H hH hS => hsp H a ns hlen hH hS) fun H e s' => hCX w H s₁ e s'
end Tp
set_option Elab.async false
set_option linter.all false
set_option maxRecDepth 100000
set_option maxHeartbeats 4000000
namespace Tp
open PySem PySem.Spec PyProof.Rows L2
section
variable {X : Cx} {K : PySem.W.Frag} {T : List (Addr × Str)} {m : ME} {l : MA} {w : Wd}
theorem RpL.at : ∀ {l : List D} {vs : List V} {k : Nat} {d : D}, RpL K w l vs → l[k]? = some d → ∃ v, vs[k]? = some v ∧ Rp K w d v
  | [], vs, k, d, r, e => by simp at e
  | x :: l, vs, 0, d, r, e => by
    obtain ⟨v, vr, rfl, r1, r2⟩ := r
    simp at e
    subst e
    exact ⟨v, rfl, r1⟩
  | x :: l, vs, k + 1, d, r, e => by
    obtain ⟨v, vr, rfl, r1, r2⟩ := r
    obtain ⟨u, h1, h2⟩ := RpL.at (k := k) r2 (by simpa using e)
    exact ⟨u, by simpa using h1, h2⟩
def fPopAt : FM := fun h x xs => match x, xs with
  | .ref n, [.int i] => (match h[n]? with
    | some (.lst l) => if 0 ≤ i ∧ l.length ≤ 1000000 then (match l[i.toNat]? with
      | some y => some (y, h.set n (.lst (l.eraseIdx i.toNat)))
      | none => none) else none
    | _ => none)
  | _, _ => none
theorem s_popAt : SM K T rPopAt fPopAt := fun w H h x xs v vs d h' R a b e Q k => by
  unfold fPopAt at e
  split at e
  · rename_i n i
    split at e
    · rename_i l q
      split at e
      · rename_i hz
        split at e
        · rename_i y ey
          cases e
          obtain ⟨p, rfl, hp⟩ := a
          obtain ⟨u, r, rfl, xu, rfl⟩ := b
          have xu : u = .int i := xu
          subst xu
          obtain ⟨p', o', a1, a2, us, eo, a3⟩ := R.cell n _ q
          rw [hp] at a1; cases a1
          subst eo
          obtain ⟨yv, h1, h2⟩ := a3.at ey
          have hlt : i.toNat < l.length := (List.getElem?_eq_some_iff.mp ey).1
          refine ⟨p, us, i, i.toNat, yv, rfl, rfl, a2, by omega, by omega, ?_, h1, ?_⟩
          · rw [seqIndex_of hz.1 (by rw [← a3.len]; omega)]
          · exact k w _ _ (Wd.le.refl w) (R.put hp a2 rfl ⟨_, rfl, a3.erase _⟩) h2
        · cases e
      · cases e
    · cases e
  · cases e
def fPop : FM := fun h x xs => match x, xs with
  | .ref n, [] => (match h[n]? with
    | some (.lst l) => (match l[l.length - 1]? with
      | some y => some (y, h.set n (.lst l.dropLast))
      | none => none)
    | _ => none)
  | _, _ => none
theorem RpL.dropLast : ∀ {l : List D} {vs : List V}, RpL K w l vs → RpL K w l.dropLast vs.dropLast
  | [], vs, r => by
    have e : vs = [] := r
    subst e; exact rfl
  | [d], vs, r => by
    obtain ⟨v, vr, rfl, r1, r2⟩ := r
    have e : vr = [] := r2
    subst e; exact rfl
  | d :: d2 :: l, vs, r => by
    obtain ⟨v, vr, rfl, r1, v2, vr2, rfl, r2, r3⟩ := r
    exact ⟨v, _, rfl, r1, RpL.dropLast (l := d2 :: l) (vs := v2 :: vr2) ⟨v2, vr2, rfl, r2, r3⟩⟩
theorem s_pop : SM K T rPop fPop := fun w H h x xs v vs d h' R a b e Q k => by
  unfold fPop at e
  split at e
  · rename_i n
    split at e
    · rename_i l q
      split at e
      · rename_i y ey
        cases e
        obtain ⟨p, rfl, hp⟩ := a
        cases b
        obtain ⟨p', o', a1, a2, us, eo, a3⟩ := R.cell n _ q
        rw [hp] at a1; cases a1
        subst eo
        obtain ⟨yv, h1, h2⟩ := a3.at ey
        refine ⟨p, us, yv, rfl, rfl, a2, by rw [← a3.len]; exact h1, ?_⟩
        exact k w _ _ (Wd.le.refl w) (R.put hp a2 rfl ⟨_, rfl, a3.dropLast⟩) h2
      · cases e
    · cases e
  · cases e
/-- xs.extend(ys), ys a list -/
def fExtend : FM := fun h x xs => match x, xs with
  | .ref n, [y] => (match h[n]?, pk h y with
    | some (.lst l), .lst l2 => if l.length + l2.length ≤ 1000000 then some (.non, h.set n (.lst (l ++ l2))) else none
    | _, _ => none)
  | _, _ => none
theorem s_extend : SM K T rExtend fExtend := fun w H h x xs v vs d h' R a b e Q k => by
  unfold fExtend at e
  split at e
  · rename_i n y
    split at e
    · rename_i l l2 q q2
      split at e
      · rename_i hz
        cases e
        obtain ⟨p, rfl, hp⟩ := a
        obtain ⟨u, r, rfl, xu, rfl⟩ := b
        obtain ⟨p2, us2, rfl, hp2, x2⟩ := pk_lst R xu q2
        obtain ⟨p', o', a1, a2, us, eo, a3⟩ := R.cell n _ q
        rw [hp] at a1; cases a1
        subst eo
        refine ⟨p, p2, us, us2, rfl, rfl, a2, hp2, ?_, ?_⟩
        · rw [← a3.len, ← x2.len]; exact Nat.le_trans hz (by decide)
        · exact k w _ _ (Wd.le.refl w) (R.put hp a2 rfl ⟨_, rfl, a3.app x2⟩) rfl
      · cases e
    · cases e
  · cases e
theorem je_extend {o e : Expr} {apos cpos : Pos} (ho : JE T X o m) (ha : JA T X [e] l) (hx : ∀ to tt, PE X o to → PA X [e] tt → PE X (.Call (.Attribute o "extend" apos) [e] [] cpos) (tBM X.K "list" rExtend to tt) := by
    exact fun to tt a b => pe_bm PySem.F.plainAttrs_list PySem.F.slot_list_extend PySem.F.type_list_extend mt_extend a b) : JE T X (.Call (.Attribute o "extend" apos) [e] [] cpos) (mMe .list fExtend m l) :=
  je_me (t := .list) PySem.F.plainAttrs_list PySem.F.slot_list_extend PySem.F.type_list_extend mt_extend s_extend ho ha hx
theorem je_popAt {o e : Expr} {apos cpos : Pos} (ho : JE T X o m) (ha : JA T X [e] l) (hx : ∀ to tt, PE X o to → PA X [e] tt → PE X (.Call (.Attribute o "pop" apos) [e] [] cpos) (tBM X.K "list" rPopAt to tt) := by
    exact fun to tt a b => pe_bm PySem.F.plainAttrs_list PySem.F.slot_list_pop PySem.F.type_list_pop mt_popAt a b) : JE T X (.Call (.Attribute o "pop" apos) [e] [] cpos) (mMe .list fPopAt m l) :=
  je_me (t := .list) PySem.F.plainAttrs_list PySem.F.slot_list_pop PySem.F.type_list_pop mt_popAt s_popAt ho ha hx
theorem je_pop0 {o : Expr} {apos cpos : Pos} (ho : JE T X o m) (hx : ∀ to, PE X o to → PE X (.Call (.Attribute o "pop" apos) [] [] cpos) (tBM0 X.K "list" rPop to) := by
    exact fun to a => pe_bm0 PySem.F.plainAttrs_list PySem.F.slot_list_pop PySem.F.type_list_pop mt_pop a) : JE T X (.Call (.Attribute o "pop" apos) [] [] cpos) (mMe0 .list fPop m) :=
  je_me0 (t := .list) s_pop ho hx
end
end Tp
set_option Elab.async false
set_option linter.all false
set_option maxRecDepth 100000
set_option maxHeartbeats 4000000
namespace Tp
open PySem PySem.Spec PyProof.Rows L2
/-! a def that hands back a dict of its own making -/
def flatK : List (Key × D) → Bool
  | [] => true
  | (_, d) :: l => flatD d && flatK l
def freshD (f : FD) : FD := fun h ds => match mapRL (resN 20 h) ds with
  | none => none
  | some ds' => match f [] ds' with
    | some (.ref n, h1) => (match h1[n]? with
      | some (.dic l) => if noRefK l && (noRefL ds || flatK l) then some (.ref h.length, h ++ [.dic l]) else none
      | _ => none)
    | _ => none
section
variable {K : PySem.W.Frag} {T : List (Addr × Str)} {w w' : Wd} {H : Hp} {h : List Cell}
theorem flatK_rp (e : ∀ a vs, w.F a = some (.tup vs) → w'.F a = some (.tup vs)) : ∀ (l : List (Key × D)) (vs : List (Key × V)), flatK l = true → RpK K w l vs → RpK K w' l vs
  | [], _, _, r => r
  | (k, d) :: l, vs, n, r => by
    obtain ⟨v, vr, rfl, r1, r2⟩ := r
    simp only [flatK, Bool.and_eq_true] at n
    exact ⟨v, vr, rfl, flat_rp e d v n.1 r1, flatK_rp e l vr n.2 r2⟩
theorem freshD_sp {f : FD} {vs : List V} {Q : VK} {E : XK} (x : spF K T (freshD f) vs H Q E) : spF K T f vs H Q E := by
  obtain ⟨w, h, ds, d', h', R, r, e, q⟩ := x
  unfold freshD at e
  split at e
  · cases e
  · rename_i ds' e1
    split at e
    · rename_i n h1 e2
      split at e
      · rename_i l e3
        split at e
        · rename_i hc
          cases e
          rw [Bool.and_eq_true] at hc
          obtain ⟨hnl, hc⟩ := hc
          by_cases hn : noRefL ds = true
          · have eds : mapRL (resN 20 h) ds = some ds := mapRL_noRef ds hn
            rw [e1] at eds
            obtain rfl := Option.some.inj eds
            refine ⟨w.hid H, [], _, _, h1, hid_rel R, noRefL_rp (w := w) (w' := w.hid H) (Ex.refl _) _ vs hn r, e2, fun w2 v H2 l2 R2 x2 => ?_⟩
            obtain ⟨p, rfl, hp2⟩ := x2
            obtain ⟨p', o, a1, a2, us, eo, a3⟩ := R2.cell n _ e3
            rw [hp2] at a1; cases a1
            subst eo
            obtain ⟨w3, l3, R3, f3⟩ := hid_back R l2 R2
            have pA : p ∈ w2.A := List.mem_of_getElem? hp2
            have hpw : p ∉ w.A := fun z => by
              obtain ⟨i, c, o, _, _, e4, _⟩ := R.at_ z
              have : w2.Pr p = some o := by
                rw [l2.p]; show (if p ∈ w.A then H p else w.Pr p) = some o; rw [if_pos z]; exact e4
              rw [(R2.free p pA).2] at this; cases this
            have hPr : ∀ a o, w.Pr a = some o → w2.Pr a = some o := fun a o e => by
              rw [l2.p]
              show (if a ∈ w.A then H a else w.Pr a) = some o
              have : a ∉ w.A := fun z => by rw [(R.free a z).2] at e; cases e
              rw [if_neg this]; exact e
            let w4 : Wd := ⟨w2.F, w.Pr, w.A ++ [p]⟩
            have le : w.le w4 := ⟨l2.f, rfl, List.prefix_append _ _⟩
            have hH : ∀ a, a ∈ w.A → ∀ o, H a = some o → w2.Pr a = some o := fun a hm o e => by
              rw [l2.p]; show (if a ∈ w.A then H a else w.Pr a) = some o; rw [if_pos hm]; exact e
            have R4 : Rel K T w4 H2 (h ++ [.dic l]) := by
              refine ⟨R2.fh, fun a o e => R2.ph a o (hPr a o e), R2.ft, R.pt, fun a o e => R2.dj a o (hPr a o e), ?_, ?_, fun i c e => ?_, fun a hm => ?_, R2.tb⟩
              · exact List.nodup_append.mpr ⟨R.nd, by simp, by rintro a ha b hb rfl; simp at hb; subst hb; exact hpw ha⟩
              · show (w.A ++ [p]).length = (h ++ [Cell.dic l]).length
                simp [R.len]
              · rcases cell_on (p := p) R.len e with ⟨_, e⟩ | ⟨_, rfl, e4⟩
                · obtain ⟨q, u, a, b, y⟩ := R.cell i c e
                  exact ⟨q, u, pre_get le.a a, R2.ph q u (hH q (List.mem_of_getElem? a) u b), CRp.mono le y⟩
                · exact ⟨p, _, e4, a2, us, rfl, noRefK_rp (w := w2) (w' := w4) (Ex.refl _) _ us hnl a3⟩
              · rcases List.mem_append.mp hm with hm | hm
                · obtain ⟨i, c, o, _, _, e4, _⟩ := R.at_ hm
                  exact ⟨R2.dj a o (hH a hm o e4), (R.free a hm).2⟩
                · simp at hm; subst hm
                  refine ⟨(R2.free a pA).1, ?_⟩
                  cases q : w.Pr a with
                  | none => rfl
                  | some o => have := hPr a o q; rw [(R2.free a pA).2] at this; cases this
            refine q w4 _ H2 le R4 ⟨p, rfl, ?_⟩
            show (w.A ++ [p])[h.length]? = some p
            rw [← R.len]; simp
          · have hf : flatK l = true := by
              rw [Bool.or_eq_true] at hc
              exact hc.resolve_left hn
            refine ⟨w.mer H, [], ds', _, h1, mer_rel R, frzL_mer R r e1, e2, fun w2 v H2 l2 R2 x2 => ?_⟩
            obtain ⟨p, rfl, hp2⟩ := x2
            obtain ⟨p', o, a1, a2, us, eo, a3⟩ := R2.cell n _ e3
            rw [hp2] at a1; cases a1
            subst eo
            have pA : p ∈ w2.A := List.mem_of_getElem? hp2
            have pr2 : w2.Pr = w.Pr := l2.p
            have hF : ∀ a, a ∈ w.A → ∀ o, H a = some o → w2.F a = some o := fun a hm o e => l2.f a o ((mer_A hm).trans e)
            have hpw : p ∉ w.A := fun z => by
              obtain ⟨i, c, o, _, _, e4, _⟩ := R.at_ z
              have := hF p z o e4
              rw [(R2.free p pA).1] at this; cases this
            let w4 : Wd := ⟨fun a => if a ∈ w.A then none else w2.F a, w.Pr, w.A ++ [p]⟩
            have h4 : ∀ a, a ∉ w.A → w4.F a = w2.F a := fun a z => if_neg z
            have h4n : ∀ a, a ∈ w.A → w4.F a = none := fun a z => if_pos z
            have e4 : Ex w4.F w2.F := fun a o e => by
              by_cases z : a ∈ w.A
              · rw [h4n a z] at e; cases e
              · rw [h4 a z] at e; exact e
            have le : w.le w4 := ⟨fun a o e => by
              have z : a ∉ w.A := fun z => by rw [(R.free a z).1] at e; cases e
              rw [h4 a z]; exact l2.f a o (R.ex_mer a o e), rfl, List.prefix_append _ _⟩
            have tu : ∀ a vs, w2.F a = some (.tup vs) → w4.F a = some (.tup vs) := fun a vs e => by
              have z : a ∉ w.A := fun z => by
                obtain ⟨i, c, o, _, _, e5, x⟩ := R.at_ z
                rw [hF a z o e5] at e; cases e
                exact x.not_tbl.2 vs rfl
              rw [h4 a z]; exact e
            have R4 : Rel K T w4 H2 (h ++ [.dic l]) := by
              refine ⟨e4.trans R2.fh, fun a o e => R2.ph a o (by rw [pr2]; exact e), fun a o e => R2.ft a o (e4 a o e), R.pt, fun a o e => ?_, ?_, ?_, fun i c e => ?_, fun a hm => ?_, R2.tb⟩
              · by_cases z : a ∈ w.A
                · exact h4n a z
                · rw [h4 a z]; exact R2.dj a o (by rw [pr2]; exact e)
              · exact List.nodup_append.mpr ⟨R.nd, by simp, by rintro a ha b hb rfl; simp at hb; subst hb; exact hpw ha⟩
              · show (w.A ++ [p]).length = (h ++ [Cell.dic l]).length
                simp [R.len]
              · rcases cell_on (p := p) R.len e with ⟨_, e⟩ | ⟨_, rfl, e5⟩
                · obtain ⟨q, u, a, b, y⟩ := R.cell i c e
                  exact ⟨q, u, pre_get le.a a, R2.fh q u (hF q (List.mem_of_getElem? a) u b), CRp.mono le y⟩
                · exact ⟨p, _, e5, a2, us, rfl, flatK_rp (w := w2) (w' := w4) tu _ us hf a3⟩
              · rcases List.mem_append.mp hm with hm | hm
                · exact ⟨h4n a hm, (R.free a hm).2⟩
                · simp at hm; subst hm
                  refine ⟨(h4 a hpw).trans (R2.free a pA).1, ?_⟩
                  have := (R2.free a pA).2
                  rw [pr2] at this; exact this
            refine q w4 _ H2 le R4 ⟨p, rfl, ?_⟩
            show (w.A ++ [p])[h.length]? = some p
            rw [← R.len]; simp
        · cases e
      · cases e
    · cases e
end
section
variable {P : Program} {ww : World} {K : PySem.W.Frag} {mg : Str → Option Value} {base : Heap} {T : List (Addr × Str)}
theorem Dok.freD {k : Nat} {x : Str} {ps : List Str} {f : FD} (d : Dok P ww K mg base T k x ps f) : Dok P ww K mg base T k x ps (freshD f) := by
  obtain ⟨fd, F, b, kp, m, lk⟩ := d
  exact ⟨fd, ⟨fun vs H Q E h => F.len vs H Q E (freshD_sp h), fun A o s H a us vs Q E r e b v h => F.run A o s H a us vs Q E r e b v (freshD_sp h)⟩, b, kp, m, lk⟩
end
end Tp
set_option Elab.async false
set_option linter.all false
set_option maxRecDepth 100000
set_option maxHeartbeats 4000000
/-! list comprehensions -/
namespace Tp
open PySem PySem.Spec PyProof.Rows L2
section
variable {K : PySem.W.Frag} {T : List (Addr × Str)}
mutual
theorem Rp.mono2 {w w' : Wd} (f : Ex w.F w'.F) (g : w.A <+: w'.A) : ∀ (d : D) (v : V), Rp K w d v → Rp K w' d v
  | .non, _, r => r
  | .bl _, _, r => r
  | .int _, _, r => r
  | .str _, _, r => r
  | .tup ds, _, ⟨p, vs, e, s, l⟩ => ⟨p, vs, e, f _ _ s, RpL.mono2 f g ds vs l⟩
  | .lst ds, _, ⟨p, vs, e, s, l⟩ => ⟨p, vs, e, f _ _ s, RpL.mono2 f g ds vs l⟩
  | .dic ds, _, ⟨p, vs, e, s, l⟩ => ⟨p, vs, e, f _ _ s, RpK.mono2 f g ds vs l⟩
  | .sq ds, _, ⟨p, vs, e, s, l⟩ => ⟨p, vs, e, SqL.mono f s, RpL.mono2 f g ds vs l⟩
  | .ref n, _, ⟨p, e, a⟩ => ⟨p, e, pre_get g a⟩
  | .ty _, _, r => r
  | .cls _, _, r => r
theorem RpL.mono2 {w w' : Wd} (f : Ex w.F w'.F) (g : w.A <+: w'.A) : ∀ (ds : List D) (vs : List V), RpL K w ds vs → RpL K w' ds vs
  | [], _, r => r
  | d :: ds, _, ⟨v, r, e, a, b⟩ => ⟨v, r, e, Rp.mono2 f g d v a, RpL.mono2 f g ds r b⟩
theorem RpK.mono2 {w w' : Wd} (f : Ex w.F w'.F) (g : w.A <+: w'.A) : ∀ (ds : List (Key × D)) (vs : List (Key × V)), RpK K w ds vs → RpK K w' ds vs
  | [], _, r => r
  | (k, d) :: ds, _, ⟨v, r, e, a, b⟩ => ⟨v, r, e, Rp.mono2 f g d v a, RpK.mono2 f g ds r b⟩
end
theorem RpF.mono2 {w w' : Wd} (f : Ex w.F w'.F) (g : w.A <+: w'.A) : ∀ (ds : List (Str × D)) (vs : List (Str × V)), RpF K w ds vs → RpF K w' ds vs
  | [], _, r => r
  | (k, d) :: ds, _, ⟨v, r, e, a, b⟩ => ⟨v, r, e, Rp.mono2 f g d v a, RpF.mono2 f g ds r b⟩
theorem CRp.mono2 {w w' : Wd} (f : Ex w.F w'.F) (g : w.A <+: w'.A) : ∀ {c : Cell} {o : HO}, CRp K w c o → CRp K w' c o
  | .lst ds, _, ⟨vs, e, l⟩ => ⟨vs, e, RpL.mono2 f g ds vs l⟩
  | .dic ds, _, ⟨vs, e, l⟩ => ⟨vs, e, RpK.mono2 f g ds vs l⟩
  | .obj _ fs, _, ⟨dx, vs, e, l⟩ => ⟨dx, vs, e, RpF.mono2 f g fs vs l⟩
theorem EnvR.mono2 {w w' : Wd} {σ : Slots} {G : Env1} (f : Ex w.F w'.F) (g : w.A <+: w'.A) (E : EnvR K w σ G) : EnvR K w' σ G := ⟨E.1, fun i d e => by
  obtain ⟨v, h1, h2⟩ := E.2 i d e
  exact ⟨v, h1, Rp.mono2 f g d v h2⟩⟩
/-- what an iterator yields, whatever is hidden -/
def ItP (K : PySem.W.Frag) (T : List (Addr × Str)) (w0 : Wd) (J : It) (l : List D) : Prop := ∀ (w : Wd) (H : Hp) (h : List Cell) (i : Nat), Ex w0.F w.F → w0.A <+: w.A → Rel K T w H h →
  (∀ d, l[i]? = some d → J.go i H ∧ ∀ x H', J.yld i H x H' → ∃ w', w.le w' ∧ Rel K T w' H' h ∧ Rp K w' d x) ∧ (l.length ≤ i → J.stop i H)
theorem itl_okP {w0 : Wd} {p : Addr} {vs : List V} {l : List D} (hp : SqL K w0.F p vs) (r : RpL K w0 l vs) : ItP K T w0 (Itl K p) l := by
  intro w H h i f a R
  have hs : SqL K H p vs := SqL.mono R.fh (SqL.mono f hp)
  refine ⟨fun d e => ?_, fun hi => ⟨vs, hs, by rw [← r.len]; exact hi⟩⟩
  obtain ⟨v, e1, e2⟩ := r.get e
  refine ⟨⟨vs, v, hs, e1⟩, fun x H' y => ?_⟩
  obtain ⟨rfl, y2⟩ := y
  have := y2 vs hs
  rw [e1] at this; cases this
  exact ⟨w, Wd.le.refl w, R, Rp.mono2 f a _ _ e2⟩
theorem itt_okP {w0 : Wd} {p : Addr} {vs : List V} {l : List D} (hp : w0.F p = some (.tup vs)) (r : RpL K w0 l vs) : ItP K T w0 (Itt K p) l := by
  intro w H h i f a R
  have hs : SqT K H p vs := SqT.of (R.fh _ _ (f _ _ hp))
  refine ⟨fun d e => ?_, fun hi => ⟨vs, hs, by rw [← r.len]; exact hi⟩⟩
  obtain ⟨v, e1, e2⟩ := r.get e
  refine ⟨⟨vs, v, hs, e1⟩, fun x H' y => ?_⟩
  obtain ⟨rfl, y2⟩ := y
  have := y2 vs hs
  rw [e1] at this; cases this
  exact ⟨w, Wd.le.refl w, R, Rp.mono2 f a _ _ e2⟩
theorem itr_okP {w0 : Wd} {lo : Int} {n : Nat} : ItP K T w0 (Itr lo n) (rng lo n) := by
  intro w H h i f a R
  refine ⟨fun d e => ?_, fun hi => by show n ≤ i; simpa [rng] using hi⟩
  obtain ⟨h1, rfl⟩ := rng_get e
  refine ⟨h1, fun x H' y => ?_⟩
  obtain ⟨rfl, rfl⟩ := y
  exact ⟨w, Wd.le.refl w, R, rfl⟩
abbrev MI := Env1 → List Cell → Option (List D × List Cell)
def SIt (K : PySem.W.Frag) (T : List (Addr × Str)) (wi : TI) (mi : MI) : Prop := ∀ (w : Wd) (σ : Slots) (H : Hp) (G : Env1) (h : List Cell) (l : List D) (h' : List Cell), Rel K T w H h → EnvR K w σ G → mi G h = some (l, h') →
  ∀ R : It → Hp → Prop, (∀ w' J H', w.le w' → Rel K T w' H' h' → ItP K T w' J l → R J H') → wi σ H R
def JI (T : List (Addr × Str)) (X : Cx) (tg e : Expr) (mi : MI) : Prop := ∃ wi, PI X tg e wi ∧ SIt X.K T wi mi
def iLst (a : ME) : MI := fun G h => match a G h with
  | some (d, h1) => (match frzOf d with
    | some l => some (l, h1)
    | none => none)
  | none => none
def iTp (a : ME) : MI := fun G h => match a G h with
  | some (.tup l, h1) => some (l, h1)
  | _ => none
def iR1 (a : MA) : MI := fun G h => match a G h with
  | some ([.int j], h1) => if in62 j then some (rng 0 j.toNat, h1) else none
  | _ => none
def iR2 (a : MA) : MI := fun G h => match a G h with
  | some ([.int i, .int j], h1) => if in62 i && in62 j then some (rng i (j - i).toNat, h1) else none
  | _ => none
variable {X : Cx} {tg e : Expr} {m : ME} {l : MA}
theorem ji_list (hi : JE T X e m) : JI T X tg e (iLst m) := by
  obtain ⟨t, p, s⟩ := hi
  refine ⟨_, pi_list p, fun w σ H G h l h' R E hm Q k => ?_⟩
  unfold iLst at hm
  split at hm
  · rename_i d h1 e1
    split at hm
    · rename_i l' e2
      cases hm
      refine s w σ H G h d _ R E e1 _ fun w1 v H1 l1 R1 x => ?_
      obtain ⟨a, vs, rfl, hq, r⟩ : ∃ a vs, v = .ref a ∧ SqL X.K w1.F a vs ∧ RpL X.K w1 l vs := by
        cases d <;> cases e2
        · obtain ⟨a, vs, e, h, r⟩ := x; exact ⟨a, vs, e, SqL.of h, r⟩
        · exact x
      exact ⟨a, rfl, ⟨vs, SqL.mono R1.fh hq⟩, k w1 _ H1 l1 R1 (itl_okP hq r)⟩
    · cases hm
  · cases hm
theorem ji_tup (hi : JE T X e m) : JI T X tg e (iTp m) := by
  obtain ⟨t, p, s⟩ := hi
  refine ⟨_, pi_tup p, fun w σ H G h l h' R E hm Q k => ?_⟩
  unfold iTp at hm
  split at hm
  · rename_i l' h1 e1
    cases hm
    refine s w σ H G h _ _ R E e1 _ fun w1 v H1 l1 R1 x => ?_
    obtain ⟨a, vs, rfl, hq, r⟩ := x
    exact ⟨a, rfl, ⟨vs, SqT.of (R1.fh _ _ hq)⟩, k w1 _ H1 l1 R1 (itt_okP hq r)⟩
  · cases hm
theorem ji_rng1 {ea : Expr} {p0 pos2 : Pos} (hgl : Gl X "range") (hmg : X.mg "range" = none) (ha : JA T X [ea] l) (hs1 : starEach [ea] X.env = [(false, eval ea X.env)] := by rfl) : JI T X tg (.Call (.Name "range" p0) [ea] [] pos2) (iR1 l) := by
  obtain ⟨t, p, s⟩ := ha
  refine ⟨_, pi_range1 hgl hmg p hs1, fun w σ H G h l h' R E hm Q k => ?_⟩
  unfold iR1 at hm
  split at hm
  · rename_i j h1 e1
    split at hm
    · rename_i hz
      cases hm
      refine s w σ H G h _ _ R E e1 _ fun w1 vs H1 l1 R1 x => ?_
      obtain ⟨v, r, rfl, x1, rfl⟩ := x
      cases x1
      exact ⟨j, rfl, (in62_ok hz).1, (in62_ok hz).2, k w1 _ H1 l1 R1 itr_okP⟩
    · cases hm
  · cases hm
/-! the loop -/
def wipeE (G : Env1) : List Nat → Env1
  | [] => G
  | v :: vs => (wipeE G vs).set v none
def lcL (g : MG) (t : MT) (e : ME) (G0 : Env1) : List D → List D → List Cell → Option (List D × List Cell)
  | [], acc, h => some (acc, h)
  | d :: r, acc, h => match g d G0 h with
    | none => none
    | some G1 => match t G1 h with
      | none => none
      | some (false, h1) => lcL g t e G0 r acc h1
      | some (true, h1) => match e G1 h1 with
        | none => none
        | some (y, h2) => if acc.length < 1000000 then lcL g t e G0 r (acc ++ [y]) h2 else none
def mLcC (mi : MI) (g : MG) (t : MT) (e : ME) (vs : List Nat) : ME := fun G h => match mi G h with
  | none => none
  | some (l, h1) => match lcL g t e (wipeE G vs) l [] h1 with
    | none => none
    | some (acc, h2) => some (.ref h2.length, h2 ++ [.lst acc])
def mLc (mi : MI) (g : MG) (t : MT) (e : ME) (vs : List Nat) : ME := fun G h => match mi G h with
  | none => none
  | some (l, h1) => match lcL g t e (wipeE G vs) l [] h1 with
    | none => none
    | some (acc, h2) => some (.lst acc, h2)
def mYes : MT := fun _ h => some (true, h)
/-! one reading for all blocks -/
def tOf (K : PySem.W.Frag) (T : List (Addr × Str)) (m : ME) : TE := fun σ H Q => ∃ (w : Wd) (G : Env1) (h : List Cell) (d : D) (h' : List Cell), Rel K T w H h ∧ EnvR K w σ G ∧ m G h = some (d, h') ∧ ∀ w' v H', w.le w' → Rel K T w' H' h' → Rp K w' d v → Q v H'
def ttOf (K : PySem.W.Frag) (T : List (Addr × Str)) (m : MT) : TT := fun σ H Q => ∃ (w : Wd) (G : Env1) (h : List Cell) (b : Bool) (h' : List Cell), Rel K T w H h ∧ EnvR K w σ G ∧ m G h = some (b, h') ∧ ∀ w' H', w.le w' → Rel K T w' H' h' → Q b H'
def gOf (K : PySem.W.Frag) (T : List (Addr × Str)) (m : MG) (vs : List Nat) : TG := fun v σ H Q => ∃ (w : Wd) (G : Env1) (h : List Cell) (d : D) (G' : Env1), Rel K T w H h ∧ EnvR K w σ G ∧ Rp K w d v ∧ m d G h = some G' ∧ ∀ σ', EnvR K w σ' G' → wipe σ' vs = wipe σ vs → Q σ' H
theorem JE.pe {X : Cx} {e : Expr} {m : ME} (j : JE T X e m) : PE X e (tOf X.K T m) := by
  obtain ⟨t, p, s⟩ := j
  refine ⟨fun pins s0 σ H Q I h => ?_⟩
  obtain ⟨w, G, h, d, h', R, E, em, k⟩ := h
  exact p.run pins s0 σ H Q I (s w σ H G h d h' R E em Q k)
theorem JT.pt {X : Cx} {e : Expr} {m : MT} (j : JT T X e m) : PT X e (ttOf X.K T m) := by
  obtain ⟨t, p, s⟩ := j
  refine ⟨fun pins s0 σ H Q I h => ?_⟩
  obtain ⟨w, G, h, b, h', R, E, em, k⟩ := h
  exact p.run pins s0 σ H Q I (s w σ H G h b h' R E em Q k)
theorem jts_nil {X : Cx} : PTs X [] (ttOf X.K T mYes) := by
  refine ⟨fun pins s0 σ H Q I h => ?_⟩
  obtain ⟨w, G, h, b, h', R, E, em, k⟩ := h
  cases em
  exact pts_nil.run pins s0 σ H Q I (k w H (Wd.le.refl w) R)
theorem jts_one {X : Cx} {c : Expr} {m : MT} (j : JT T X c m) : PTs X [c] (ttOf X.K T m) := pts_one j.pt
/-- a target that stores into the places vs alone -/
def JGW (T : List (Addr × Str)) (X : Cx) (e : Expr) (m : MG) (vs : List Nat) : Prop := PG X e (gOf X.K T m vs)
theorem wipe_at {σ : L2.St} {k : Nat} : ∀ {vs : List Nat}, (wipe σ vs)[k]? = if k ∈ vs then (σ[k]?).map (fun _ => none) else σ[k]?
  | [] => by simp [wipe]
  | v :: vs => by
    unfold wipe
    rw [List.getElem?_set]
    by_cases h : v = k
    · subst h
      rw [if_pos rfl, wipe_length, if_pos (List.mem_cons_self)]
      by_cases hl : v < σ.length
      · rw [if_pos hl, List.getElem?_eq_getElem hl]; rfl
      · rw [if_neg hl, List.getElem?_eq_none (by omega)]; rfl
    · rw [if_neg h, wipe_at]
      have : (k ∈ v :: vs) ↔ k ∈ vs := by simp [Ne.symm h]
      simp only [this]
theorem wipe_set {σ : L2.St} {i : Nat} {x : Option V} {vs : List Nat} (h : i ∈ vs) : wipe (σ.set i x) vs = wipe σ vs := by
  apply List.ext_getElem?
  intro k
  rw [wipe_at, wipe_at]
  by_cases hk : k ∈ vs
  · rw [if_pos hk, if_pos hk, List.getElem?_set]
    by_cases hi : i = k
    · subst hi
      rw [if_pos rfl]
      by_cases hl : i < σ.length
      · rw [if_pos hl, List.getElem?_eq_getElem hl]; rfl
      · rw [if_neg hl, List.getElem?_eq_none (by omega)]
    · rw [if_neg hi]
  · rw [if_neg hk, if_neg hk, List.getElem?_set, if_neg (fun e => hk (by rw [← e]; exact h))]
theorem wipe_wipe {σ : L2.St} {vs : List Nat} : wipe (wipe σ vs) vs = wipe σ vs := by
  apply List.ext_getElem?
  intro k
  rw [wipe_at, wipe_at]
  by_cases hk : k ∈ vs
  · rw [if_pos hk, if_pos hk]; cases σ[k]? <;> rfl
  · rw [if_neg hk, if_neg hk]
theorem jgw_name {X : Cx} {i : Nat} {x : Str} {pos : Pos} {vs : List Nat} (hN : X.N.Nodup) (hi : X.N[i]? = some x) (hx : Loc X.env.scope x) (hf : X.fn x = true ∨ X.env.scope.names.lookup x = some .local) (hv : i ∈ vs) : JGW T X (.Name x pos) (gN i) vs := by
  have p := pg_name (X := X) (pos := pos) hN hi hx hf
  refine ⟨fun pins s σ H v u Q I r h => ?_⟩
  obtain ⟨w, G, h, d, G', R, E, x1, em, k⟩ := h
  cases em
  exact p.run pins s σ H v u Q I r (k _ (E.set x1) (wipe_set hv))
theorem wipeE_rel {w : Wd} {σ : Slots} {G : Env1} (E : EnvR K w σ G) : ∀ vs : List Nat, EnvR K w (wipe σ vs) (wipeE G vs)
  | [] => E
  | v :: vs => by
    have ih := wipeE_rel E vs
    refine ⟨by show ((wipe σ vs).set v none).length = ((wipeE G vs).set v none).length; rw [List.length_set, List.length_set]; exact ih.1, fun i d e => ?_⟩
    have e : ((wipeE G vs).set v none)[i]? = some (some d) := e
    by_cases h : v = i
    · subst h
      rw [List.getElem?_set, if_pos rfl] at e
      split at e <;> cases e
    · rw [List.getElem?_set, if_neg h] at e
      obtain ⟨u, h1, h2⟩ := ih.2 i d e
      refine ⟨u, ?_, h2⟩
      show ((wipe σ vs).set v none)[i]? = _
      rw [List.getElem?_set, if_neg h]; exact h1
end
/-- the list that grows, hidden -/
def hidW (w : Wd) (P0 : Hp) (D : Addr) (vs : List V) : Wd := ⟨w.F, upd P0 D (.lst vs), w.A⟩
section
variable {K : PySem.W.Frag} {T : List (Addr × Str)} {w : Wd} {H : Hp} {h : List Cell}
theorem Rel.hid_new (R : Rel K T w H h) {D : Addr} {vs : List V} (n : H D = none) : Rel K T (hidW w w.Pr D vs) (upd H D (.lst vs)) h := by
  have nF := R.fh.none n
  refine ⟨R.fh.off nF, fun a o e => ?_, R.ft, fun a o e => ?_, fun a o e => ?_, R.nd, R.len, fun i c e => ?_, fun p hp => ?_, R.tb.ext fun b o e => ?_⟩
  · have e : upd w.Pr D (.lst vs) a = some o := e
    by_cases q : a = D
    · subst q; rw [upd_same] at e ⊢; exact e
    · rw [upd_ne q] at e ⊢; exact R.ph a o e
  · have e : upd w.Pr D (.lst vs) a = some o := e
    by_cases q : a = D
    · subst q; rw [upd_same] at e; cases e; rfl
    · rw [upd_ne q] at e; exact R.pt a o e
  · have e : upd w.Pr D (.lst vs) a = some o := e
    by_cases q : a = D
    · subst q; exact nF
    · rw [upd_ne q] at e; exact R.dj a o e
  · obtain ⟨p, o, h1, h2, h3⟩ := R.cell i c e
    refine ⟨p, o, h1, by rw [upd_ne (ne_of_none h2 n)]; exact h2, CRp.mono2 (w := w) (w' := hidW w w.Pr D vs) (fun _ _ z => z) (List.prefix_refl _) h3⟩
  · have hpD : p ≠ D := (R.addr_ne hp n).symm
    exact ⟨(R.free p hp).1, by show upd w.Pr D (.lst vs) p = none; rw [upd_ne hpD]; exact (R.free p hp).2⟩
  · rw [upd_ne (ne_of_none e n)]; exact e
theorem Rel.hid_put {P0 : Hp} {D : Addr} {vs us : List V} (R : Rel K T w H h) (hP : w.Pr = upd P0 D (.lst vs)) : Rel K T (hidW w P0 D us) (upd H D (.lst us)) h := by
  have hD : w.Pr D = some (.lst vs) := by rw [hP, upd_same]
  have nF := R.dj D _ hD
  have hH := R.ph D _ hD
  have P1 : ∀ a, a ≠ D → upd P0 D (.lst us) a = w.Pr a := fun a q => by rw [hP, upd_ne q, upd_ne q]
  refine ⟨R.fh.off nF, fun a o e => ?_, R.ft, fun a o e => ?_, fun a o e => ?_, R.nd, R.len, fun i c e => ?_, fun p hp => ?_, tabs_mut R.tb hH rfl⟩
  · have e : upd P0 D (.lst us) a = some o := e
    by_cases q : a = D
    · subst q; rw [upd_same] at e ⊢; exact e
    · rw [P1 a q] at e; rw [upd_ne q]; exact R.ph a o e
  · have e : upd P0 D (.lst us) a = some o := e
    by_cases q : a = D
    · subst q; rw [upd_same] at e; cases e; rfl
    · rw [P1 a q] at e; exact R.pt a o e
  · have e : upd P0 D (.lst us) a = some o := e
    by_cases q : a = D
    · subst q; exact nF
    · rw [P1 a q] at e; exact R.dj a o e
  · obtain ⟨p, o, h1, h2, h3⟩ := R.cell i c e
    have hp : p ∈ w.A := List.mem_of_getElem? h1
    have hpD : p ≠ D := fun z => by rw [z] at hp; rw [(R.free D hp).2] at hD; cases hD
    exact ⟨p, o, h1, by rw [upd_ne hpD]; exact h2, CRp.mono2 (w := w) (w' := hidW w P0 D us) (fun _ _ z => z) (List.prefix_refl _) h3⟩
  · have hpD : p ≠ D := fun z => by rw [z] at hp; rw [(R.free D hp).2] at hD; cases hD
    exact ⟨(R.free p hp).1, by show upd P0 D (.lst us) p = none; rw [P1 p hpD]; exact (R.free p hp).2⟩
/-- the list is done: frozen -/
theorem Rel.hid_frz {P0 : Hp} {D : Addr} {vs : List V} (R : Rel K T w H h) (hP : w.Pr = upd P0 D (.lst vs)) (n0 : P0 D = none) : Rel K T ⟨upd w.F D (.lst vs), P0, w.A⟩ H h := by
  have hD : w.Pr D = some (.lst vs) := by rw [hP, upd_same]
  have nF := R.dj D _ hD
  have hH := R.ph D _ hD
  have P1 : ∀ a, a ≠ D → P0 a = w.Pr a := fun a q => by rw [hP, upd_ne q]
  have hDA : D ∉ w.A := fun hp => by rw [(R.free D hp).2] at hD; cases hD
  refine ⟨fun a o e => ?_, fun a o e => ?_, fun a o e => ?_, fun a o e => ?_, fun a o e => ?_, R.nd, R.len, fun i c e => ?_, fun p hp => ?_, R.tb⟩
  · have e : upd w.F D (.lst vs) a = some o := e
    by_cases q : a = D
    · subst q; rw [upd_same] at e; cases e; exact hH
    · rw [upd_ne q] at e; exact R.fh a o e
  · have q : a ≠ D := fun z => by rw [z] at e; rw [show P0 D = some o from e] at n0; cases n0
    exact R.ph a o (by rw [← P1 a q]; exact e)
  · have e : upd w.F D (.lst vs) a = some o := e
    by_cases q : a = D
    · subst q; rw [upd_same] at e; cases e; rfl
    · rw [upd_ne q] at e; exact R.ft a o e
  · have q : a ≠ D := fun z => by rw [z] at e; rw [show P0 D = some o from e] at n0; cases n0
    exact R.pt a o (by rw [← P1 a q]; exact e)
  · have q : a ≠ D := fun z => by rw [z] at e; rw [show P0 D = some o from e] at n0; cases n0
    show upd w.F D (.lst vs) a = none
    rw [upd_ne q]; exact R.dj a o (by rw [← P1 a q]; exact e)
  · obtain ⟨p, o, h1, h2, h3⟩ := R.cell i c e
    exact ⟨p, o, h1, h2, CRp.mono2 (w := w) (w' := ⟨upd w.F D (.lst vs), P0, w.A⟩) (Ex.new nF) (List.prefix_refl _) h3⟩
  · have hp : p ∈ w.A := hp
    have hpD : p ≠ D := fun z => hDA (by rw [← z]; exact hp)
    refine ⟨?_, ?_⟩
    · show upd w.F D (.lst vs) p = none
      rw [upd_ne hpD]; exact (R.free p hp).1
    · show P0 p = none
      rw [P1 p hpD]; exact (R.free p hp).2
/-- the list is done: a cell -/
theorem Rel.hid_cel {P0 : Hp} {D : Addr} {vs : List V} {acc : List Tp.D} (R : Rel K T w H h) (hP : w.Pr = upd P0 D (.lst vs)) (n0 : P0 D = none) (r : RpL K w acc vs) : Rel K T ⟨w.F, P0, w.A ++ [D]⟩ H (h ++ [.lst acc]) := by
  have hD : w.Pr D = some (.lst vs) := by rw [hP, upd_same]
  have nF := R.dj D _ hD
  have hH := R.ph D _ hD
  have P1 : ∀ a, a ≠ D → P0 a = w.Pr a := fun a q => by rw [hP, upd_ne q]
  have hDA : D ∉ w.A := fun hp => by rw [(R.free D hp).2] at hD; cases hD
  have pre : w.A <+: w.A ++ [D] := List.prefix_append _ _
  have q0 : ∀ {a : Addr} {o : HO}, P0 a = some o → a ≠ D := fun e z => by rw [z, n0] at e; cases e
  refine ⟨R.fh, fun a o e => R.ph a o (by rw [← P1 a (q0 e)]; exact e), R.ft, fun a o e => R.pt a o (by rw [← P1 a (q0 e)]; exact e), fun a o e => R.dj a o (by rw [← P1 a (q0 e)]; exact e), ?_, ?_, fun i c e => ?_, fun p hp => ?_, R.tb⟩
  · exact List.nodup_append.mpr ⟨R.nd, by simp, by rintro a ha b hb rfl; simp at hb; subst hb; exact hDA ha⟩
  · show (w.A ++ [D]).length = (h ++ [Cell.lst acc]).length
    simp [R.len]
  · rcases cell_on (p := D) R.len e with ⟨_, e⟩ | ⟨_, rfl, e4⟩
    · obtain ⟨p, o, h1, h2, h3⟩ := R.cell i c e
      exact ⟨p, o, pre_get pre h1, h2, CRp.mono2 (w := w) (w' := ⟨w.F, P0, w.A ++ [D]⟩) (Ex.refl _) pre h3⟩
    · exact ⟨D, _, e4, hH, vs, rfl, RpL.mono2 (w := w) (w' := ⟨w.F, P0, w.A ++ [D]⟩) (Ex.refl _) pre _ _ r⟩
  · have hp : p ∈ w.A ++ [D] := hp
    rcases List.mem_append.mp hp with hp | hp
    · have hpD : p ≠ D := fun z => hDA (by rw [← z]; exact hp)
      exact ⟨(R.free p hp).1, by show P0 p = none; rw [P1 p hpD]; exact (R.free p hp).2⟩
    · rw [List.mem_singleton] at hp
      rw [hp]
      exact ⟨nF, n0⟩
/-- the reading of a comprehension -/
theorem lc_run {J : It} {g : MG} {t : MT} {e : ME} {vs : List Nat} {l accf : List Tp.D} {hf : List Cell} {w0 : Wd} {σ : L2.St} {G : Env1} {H1 : Hp} {h1 : List Cell} {Q : VK} (R0 : Rel K T w0 H1 h1) (E0 : EnvR K w0 σ G) (hJ : ItP K T w0 J l) (hm : lcL g t e (wipeE G vs) l [] h1 = some (accf, hf))
    (k : ∀ (w : Wd) (H : Hp) (D : Addr) (us : List V), Ex w0.F w.F → w0.A <+: w.A → Rel K T w H hf → w.Pr = upd w0.Pr D (.lst us) → w0.Pr D = none → RpL K w accf us → Q (.ref D) H) (D : Addr) (nD : H1 D = none) :
    ∃ W : Nat → Nat → Hp → Prop, (∃ m, W 0 m (upd H1 D (.lst []))) ∧ ∀ i m H, W i m H → (J.stop i H ∧ Q (.ref D) H) ∨ (J.go i H ∧ ∃ Nx : Hp → Prop, (∀ H', Nx H' → ∃ m', m' < m ∧ W (i + 1) m' H') ∧ ∀ x H', J.yld i H x H' →
      gOf K T g vs x (wipe σ vs) H' fun σ2 H2 => wipe σ2 vs = wipe σ vs ∧ ttOf K T t σ2 H2 fun b H3 => if b = true then tOf K T e σ2 H3 fun y H4 => ∃ acc, H4 D = some (.lst acc) ∧ acc.length < sizeLine ∧ Nx (upd H4 D (.lst (acc ++ [y]))) else Nx H3) := by
  have n0 : w0.Pr D = none := R0.ph.none nD
  let Inv0 : Nat → Hp → Prop := fun i H => i ≤ l.length ∧ ∃ (w : Wd) (h : List Cell) (acc : List Tp.D) (us : List V), Ex w0.F w.F ∧ w0.A <+: w.A ∧ Rel K T w H h ∧ w.Pr = upd w0.Pr D (.lst us) ∧ RpL K w acc us ∧ lcL g t e (wipeE G vs) (l.drop i) acc h = some (accf, hf)
  refine ⟨fun i m H => m = l.length - i ∧ Inv0 i H, ⟨l.length, rfl, Nat.zero_le _, hidW w0 w0.Pr D [], h1, [], [], Ex.refl _, List.prefix_refl _, R0.hid_new nD, rfl, rfl, hm⟩, ?_⟩
  rintro i m H ⟨rfl, hi, w, h, acc, us, f, a, R, hP, r, hm⟩
  obtain ⟨hgo, hst⟩ := hJ w H h i f a R
  by_cases hlt : i < l.length
  · have ed : l.drop i = l[i] :: l.drop (i + 1) := List.drop_eq_getElem_cons hlt
    rw [ed] at hm
    obtain ⟨go, hy⟩ := hgo _ (List.getElem?_eq_getElem hlt)
    refine .inr ⟨go, fun H' => Inv0 (i + 1) H', fun H' n => ⟨l.length - (i + 1), by omega, rfl, n⟩, fun x H' y => ?_⟩
    obtain ⟨w2, l2, R2, x2⟩ := hy x H' y
    unfold lcL at hm
    split at hm
    · cases hm
    · rename_i G1 e1
      have E2 : EnvR K w2 (wipe σ vs) (wipeE G vs) := EnvR.mono2 (fun b o z => l2.f b o (f b o z)) (a.trans l2.a) (wipeE_rel E0 vs)
      refine ⟨w2, wipeE G vs, h, _, G1, R2, E2, x2, e1, fun σ2 Eg hw => ⟨hw.trans wipe_wipe, ?_⟩⟩
      split at hm
      · cases hm
      · rename_i h3 e2
        refine ⟨w2, G1, h, false, h3, R2, Eg, e2, fun w3 H3 l3 R3 => ?_⟩
        simp only [Bool.false_eq_true, if_false]
        exact ⟨by omega, w3, h3, acc, us, fun b o z => l3.f b o (l2.f b o (f b o z)), (a.trans l2.a).trans l3.a, R3, by rw [l3.p, l2.p]; exact hP, RpL.mono l3 _ _ (RpL.mono l2 _ _ r), hm⟩
      · rename_i h3 e2
        refine ⟨w2, G1, h, true, h3, R2, Eg, e2, fun w3 H3 l3 R3 => ?_⟩
        simp only [if_true]
        split at hm
        · cases hm
        · rename_i y h4 e3
          split at hm
          · rename_i hz
            refine ⟨w3, G1, h3, y, h4, R3, Eg.mono l3, e3, fun w4 yv H4 l4 R4 x4 => ?_⟩
            have hP4 : w4.Pr = upd w0.Pr D (.lst us) := by rw [l4.p, l3.p, l2.p]; exact hP
            have rr : RpL K w4 acc us := RpL.mono l4 _ _ (RpL.mono l3 _ _ (RpL.mono l2 _ _ r))
            refine ⟨us, R4.ph D _ (by rw [hP4, upd_same]), by rw [← rr.len]; exact line_lt hz, by omega, hidW w4 w0.Pr D (us ++ [yv]), h4, acc ++ [y], us ++ [yv], fun b o z => l4.f b o (l3.f b o (l2.f b o (f b o z))), ((a.trans l2.a).trans l3.a).trans l4.a, R4.hid_put hP4, rfl, ?_, hm⟩
            exact RpL.mono2 (w := w4) (w' := hidW w4 w0.Pr D (us ++ [yv])) (Ex.refl _) (List.prefix_refl _) _ _ (rr.app ⟨yv, [], rfl, x4, rfl⟩)
          · cases hm
  · have ei : i = l.length := by omega
    subst ei
    rw [List.drop_length] at hm
    cases hm
    exact .inl ⟨hst (Nat.le_refl _), k w H D us f a R hP n0 r⟩
theorem se_lc {wi : TI} {mi : MI} {g : MG} {t : MT} {e : ME} {vs : List Nat} (si : SIt K T wi mi) : SE K T (tLc wi (gOf K T g vs) (ttOf K T t) (tOf K T e) vs) (mLc mi g t e vs) := by
  intro w σ H G h d h' R E hm Q k
  unfold mLc at hm
  split at hm
  · cases hm
  · rename_i l h1 e1
    split at hm
    · cases hm
    · rename_i acc h2 e2
      cases hm
      refine si w σ H G h l h1 R E e1 _ fun w1 J H1 l1 R1 hJ => fun D nD => ?_
      refine lc_run R1 (E.mono l1) hJ e2 (fun w2 H2 D us f a R2 hP n0 r => ?_) D nD
      have R3 := R2.hid_frz hP n0
      have nF : w2.F D = none := R2.dj D (.lst us) (by rw [hP, upd_same])
      refine k ⟨upd w2.F D (.lst us), w1.Pr, w2.A⟩ _ H2 (l1.trans ⟨fun b o z => Ex.new nF b o (f b o z), rfl, a⟩) R3 ⟨D, us, rfl, upd_same, ?_⟩
      exact RpL.mono2 (w := w2) (w' := ⟨upd w2.F D (.lst us), w1.Pr, w2.A⟩) (Ex.new nF) (List.prefix_refl _) _ _ r
theorem se_lcC {wi : TI} {mi : MI} {g : MG} {t : MT} {e : ME} {vs : List Nat} (si : SIt K T wi mi) : SE K T (tLc wi (gOf K T g vs) (ttOf K T t) (tOf K T e) vs) (mLcC mi g t e vs) := by
  intro w σ H G h d h' R E hm Q k
  unfold mLcC at hm
  split at hm
  · cases hm
  · rename_i l h1 e1
    split at hm
    · cases hm
    · rename_i acc h2 e2
      cases hm
      refine si w σ H G h l h1 R E e1 _ fun w1 J H1 l1 R1 hJ => fun D nD => ?_
      refine lc_run R1 (E.mono l1) hJ e2 (fun w2 H2 D us f a R2 hP n0 r => ?_) D nD
      have R3 := R2.hid_cel hP n0 r
      refine k ⟨w2.F, w1.Pr, w2.A ++ [D]⟩ _ H2 (l1.trans ⟨f, rfl, a.trans (List.prefix_append _ _)⟩) R3 ⟨D, rfl, ?_⟩
      show (w2.A ++ [D])[h2.length]? = some D
      rw [← R2.len]; simp
end
section
variable {X : Cx} {T : List (Addr × Str)} {elt tg iter : Expr} {ifs : List Expr} {scope : Scope} {own : List (Str × Nat)} {vs : List Nat} {pos : Pos} {mi : MI} {g : MG} {t : MT} {e : ME}
theorem je_lc (hc : X.calm = true) (hN : X.N.Nodup) (hi : JI T X tg iter mi) (ok : BlkOk X.N X.env.scope scope own) (hg : ∀ (s : Shared) (H : Hp) (C : Addr) (cl : List (Str × Addr)) (fp : List Addr), JGW T (X.blk s H scope (compEnvC scope cl C X.env) fp) tg g vs)
    (ht : ∀ (s : Shared) (H : Hp) (C : Addr) (cl : List (Str × Addr)) (fp : List Addr), PTs (X.blk s H scope (compEnvC scope cl C X.env) fp) ifs (ttOf X.K T t)) (he : ∀ (s : Shared) (H : Hp) (C : Addr) (cl : List (Str × Addr)) (fp : List Addr), JE T (X.blk s H scope (compEnvC scope cl C X.env) fp) elt e)
    (hv : own.map (·.2) = vs := by rfl) (hs : ∀ x, foldedSetIterable iter X.env x = pure x := by intro _; rfl) : JE T X (.ListComp elt [⟨tg, iter, ifs, 0⟩] scope pos) (mLc mi g t e vs) := by
  subst hv
  obtain ⟨wi, p, s⟩ := hi
  have hg' : ∀ (s : Shared) (H : Hp) (C : Addr) (cl : List (Str × Addr)) (fp : List Addr), PG (X.blk s H scope (compEnvC scope cl C X.env) fp) tg (gOf X.K T g (own.map (·.2))) := hg
  exact ⟨_, pe_lc hc hN p ok hg' ht (fun s H C cl fp => (he s H C cl fp).pe) hs, se_lc s⟩
theorem je_lcC (hc : X.calm = true) (hN : X.N.Nodup) (hi : JI T X tg iter mi) (ok : BlkOk X.N X.env.scope scope own) (hg : ∀ (s : Shared) (H : Hp) (C : Addr) (cl : List (Str × Addr)) (fp : List Addr), JGW T (X.blk s H scope (compEnvC scope cl C X.env) fp) tg g vs)
    (ht : ∀ (s : Shared) (H : Hp) (C : Addr) (cl : List (Str × Addr)) (fp : List Addr), PTs (X.blk s H scope (compEnvC scope cl C X.env) fp) ifs (ttOf X.K T t)) (he : ∀ (s : Shared) (H : Hp) (C : Addr) (cl : List (Str × Addr)) (fp : List Addr), JE T (X.blk s H scope (compEnvC scope cl C X.env) fp) elt e)
    (hv : own.map (·.2) = vs := by rfl) (hs : ∀ x, foldedSetIterable iter X.env x = pure x := by intro _; rfl) : JE T X (.ListComp elt [⟨tg, iter, ifs, 0⟩] scope pos) (mLcC mi g t e vs) := by
  subst hv
  obtain ⟨wi, p, s⟩ := hi
  have hg' : ∀ (s : Shared) (H : Hp) (C : Addr) (cl : List (Str × Addr)) (fp : List Addr), PG (X.blk s H scope (compEnvC scope cl C X.env) fp) tg (gOf X.K T g (own.map (·.2))) := hg
  exact ⟨_, pe_lc hc hN p ok hg' ht (fun s H C cl fp => (he s H C cl fp).pe) hs, se_lcC s⟩
end
end Tp
set_option Elab.async false
set_option linter.all false
set_option maxRecDepth 100000
set_option maxHeartbeats 4000000
/-! slices; all, any, sum; int; signs in texts -/
namespace Tp
open PySem PySem.Spec PyProof.Rows L2
abbrev MO := Env1 → List Cell → Option (Option Int × List Cell)
def SO (K : PySem.W.Frag) (T : List (Addr × Str)) (t : TO) (m : MO) : Prop := ∀ (w : Wd) (σ : Slots) (H : Hp) (G : Env1) (h : List Cell) (o : Option Int) (h' : List Cell), Rel K T w H h → EnvR K w σ G → m G h = some (o, h') →
  ∀ Q : Option Int → Hp → Prop, (∀ w' H', w.le w' → Rel K T w' H' h' → Q o H') → t σ H Q
def JO (T : List (Addr × Str)) (X : Cx) (e : Option Expr) (m : MO) : Prop := ∃ t, PO X e t ∧ SO X.K T t m
def oNone : MO := fun _ h => some (none, h)
def oSome (a : ME) : MO := fun G h => match a G h with
  | some (.int i, h1) => some (some i, h1)
  | _ => none
/-- the items from lo to hi -/
def cutD {α : Type} (l : List α) (lo hi : Option Int) : List α := (l.drop (HT.sIx l.length 0 lo)).take (HT.sIx l.length l.length hi - HT.sIx l.length 0 lo)
def fSl (h : List Cell) (x : D) (lo hi : Option Int) : Option D := match pk h x with
  | .str s => if s.length ≤ 1000000 then some (.str (cutS s lo hi)) else none
  | .tup l => if HT.sIx l.length 0 lo = 0 ∧ HT.sIx l.length l.length hi = l.length then none else some (.tup (cutD l lo hi))
  | .lst l => some (.lst (cutD l lo hi))
  | .sq l => some (.lst (cutD l lo hi))
  | _ => none
def mSl (a : ME) (lo hi : MO) : ME := fun G h => match a G h with
  | none => none
  | some (x, h1) => match lo G h1 with
    | none => none
    | some (l, h2) => match hi G h2 with
      | none => none
      | some (u, h3) => (fSl h3 x l u).map fun d => (d, h3)
/-- a slice of a list as a cell -/
def mSlC (a : ME) (lo hi : MO) : ME := fun G h => match a G h with
  | none => none
  | some (x, h1) => match lo G h1 with
    | none => none
    | some (l, h2) => match hi G h2 with
      | none => none
      | some (u, h3) => (match pk h3 x with
        | .lst xs => some (.ref h3.length, h3 ++ [.lst (cutD xs l u)])
        | .sq xs => some (.ref h3.length, h3 ++ [.lst (cutD xs l u)])
        | _ => none)
section
variable {X : Cx} {K : PySem.W.Frag} {T : List (Addr × Str)} {e : Expr} {lo hi : Option Expr} {m : ME} {a b : MO} {pos p2 : Pos} {w : Wd}
theorem jo_none : JO T X none oNone := ⟨_, po_none, fun w σ H G h o h' R E hm Q k => by cases hm; exact k w H (Wd.le.refl w) R⟩
theorem jo_some (j : JE T X e m) : JO T X (some e) (oSome m) := by
  obtain ⟨t, p, s⟩ := j
  refine ⟨_, po_some p, fun w σ H G h o h' R E hm Q k => ?_⟩
  unfold oSome at hm
  split at hm
  · rename_i i h1 e1
    cases hm
    exact s w σ H G h _ _ R E e1 _ fun w1 v H1 l1 R1 x => ⟨i, x, k w1 H1 l1 R1⟩
  · cases hm
theorem RpL.cut {l : List D} {vs : List V} (r : RpL K w l vs) (lo hi : Option Int) : RpL K w (cutD l lo hi) (cutV vs lo hi) := by
  unfold cutD cutV
  rw [r.len]
  exact RpL.take _ (RpL.drop _ r)
def rSlA (K : PySem.W.Frag) : V → Option Int → Option Int → Hp → VK → Prop := fun x lo hi H Q => rSlT K x lo hi H Q ∨ (rSlL K x lo hi H Q ∨ rSlS x lo hi H Q)
theorem sl_all : SlR X (rSlA X.K) := sl_tup.or (sl_list.or sl_str)
theorem sl_lst_run {H : Hp} {h : List Cell} {x : D} {v : V} {l : List D} {lo hi : Option Int} {Q : VK} (R : Rel K T w H h) (a : Rp K w x v) (e : pk h x = .lst l ∨ pk h x = .sq l) (k : ∀ p us vs, v = .ref p → SqL K H p us → us = vs → RpL K w l us → ∀ q, H q = none → Q (.ref q) (upd H q (.lst (cutV us lo hi)))) : rSlA K v lo hi H Q := by
  rcases e with e | e
  · obtain ⟨p, us, rfl, hp, x1⟩ := pk_lst R a e
    exact .inr (.inl ⟨p, us, rfl, SqL.of hp, k p us us rfl (SqL.of hp) rfl x1⟩)
  · obtain ⟨p, us, rfl, hp, x1⟩ := pk_sq R a e
    exact .inr (.inl ⟨p, us, rfl, hp, k p us us rfl hp rfl x1⟩)
theorem je_sl (ja : JE T X e m) (jl : JO T X lo a) (ju : JO T X hi b) : JE T X (.Subscript e (.Slice lo hi none p2) pos) (mSl m a b) := by
  obtain ⟨t1, p1, s1⟩ := ja
  obtain ⟨t2, q2, s2⟩ := jl
  obtain ⟨t3, q3, s3⟩ := ju
  refine ⟨_, pe_slice sl_all p1 q2 q3, fun w σ H G h d h' R E hm Q k => ?_⟩
  unfold mSl at hm
  split at hm
  · cases hm
  · rename_i x h1 e1
    split at hm
    · cases hm
    · rename_i l h2 e2
      split at hm
      · cases hm
      · rename_i u h3 e3
        refine s1 w σ H G h x h1 R E e1 _ fun w1 v H1 l1 R1 x1 => ?_
        refine s2 w1 σ H1 G h1 l h2 R1 (E.mono l1) e2 _ fun w2 H2 l2 R2 => ?_
        refine s3 w2 σ H2 G h2 u h3 R2 (E.mono (l1.trans l2)) e3 _ fun w3 H3 l3 R3 => ?_
        have x3 := Rp.mono (l2.trans l3) _ _ x1
        have l13 := (l1.trans l2).trans l3
        cases q : fSl h3 x l u with
        | none => rw [q] at hm; cases hm
        | some z =>
          rw [q] at hm
          cases hm
          unfold fSl at q
          split at q
          · rename_i z' e4
            have := pk_str e4
            subst this
            cases x3
            split at q
            · rename_i hz
              cases q
              exact .inr (.inr ⟨z', rfl, line_of hz, k w3 _ H3 l13 R3 rfl⟩)
            · cases q
          · rename_i ds e4
            split at q
            · cases q
            · rename_i hn
              cases q
              obtain ⟨p, us, rfl, hp, x4⟩ := pk_tup R3 x3 e4
              refine .inl ⟨p, us, rfl, SqT.of hp, by rw [← x4.len]; exact hn, ?_⟩
              exact fin_frz (d := .tup (cutD ds l u)) R3 rfl (fun w' p l2 e => ⟨p, _, rfl, e, RpL.mono l2 _ _ (x4.cut l u)⟩) fun w5 v5 H5 l5 R5 x5 => k w5 v5 H5 (l13.trans l5) R5 x5
          · rename_i ds e4
            cases q
            refine sl_lst_run R3 x3 (.inl e4) fun p us vs e5 hs e6 x4 => ?_
            exact fin_frz (d := .lst (cutD ds l u)) R3 rfl (fun w' p l2 e => ⟨p, _, rfl, e, RpL.mono l2 _ _ (x4.cut l u)⟩) fun w5 v5 H5 l5 R5 x5 => k w5 v5 H5 (l13.trans l5) R5 x5
          · rename_i ds e4
            cases q
            refine sl_lst_run R3 x3 (.inr e4) fun p us vs e5 hs e6 x4 => ?_
            exact fin_frz (d := .lst (cutD ds l u)) R3 rfl (fun w' p l2 e => ⟨p, _, rfl, e, RpL.mono l2 _ _ (x4.cut l u)⟩) fun w5 v5 H5 l5 R5 x5 => k w5 v5 H5 (l13.trans l5) R5 x5
          · cases q
theorem je_slC (ja : JE T X e m) (jl : JO T X lo a) (ju : JO T X hi b) : JE T X (.Subscript e (.Slice lo hi none p2) pos) (mSlC m a b) := by
  obtain ⟨t1, p1, s1⟩ := ja
  obtain ⟨t2, q2, s2⟩ := jl
  obtain ⟨t3, q3, s3⟩ := ju
  refine ⟨_, pe_slice sl_all p1 q2 q3, fun w σ H G h d h' R E hm Q k => ?_⟩
  unfold mSlC at hm
  split at hm
  · cases hm
  · rename_i x h1 e1
    split at hm
    · cases hm
    · rename_i l h2 e2
      split at hm
      · cases hm
      · rename_i u h3 e3
        refine s1 w σ H G h x h1 R E e1 _ fun w1 v H1 l1 R1 x1 => ?_
        refine s2 w1 σ H1 G h1 l h2 R1 (E.mono l1) e2 _ fun w2 H2 l2 R2 => ?_
        refine s3 w2 σ H2 G h2 u h3 R2 (E.mono (l1.trans l2)) e3 _ fun w3 H3 l3 R3 => ?_
        have x3 := Rp.mono (l2.trans l3) _ _ x1
        have l13 := (l1.trans l2).trans l3
        split at hm
        · rename_i ds e4
          cases hm
          refine sl_lst_run R3 x3 (.inl e4) fun p us vs e5 hs e6 x4 p2 hp2 => ?_
          obtain ⟨l5, R5, z⟩ := R3.cel (c := .lst (cutD ds l u)) hp2 ⟨_, rfl, x4.cut l u⟩
          exact k _ _ _ (l13.trans l5) R5 ⟨p2, rfl, z⟩
        · rename_i ds e4
          cases hm
          refine sl_lst_run R3 x3 (.inr e4) fun p us vs e5 hs e6 x4 p2 hp2 => ?_
          obtain ⟨l5, R5, z⟩ := R3.cel (c := .lst (cutD ds l u)) hp2 ⟨_, rfl, x4.cut l u⟩
          exact k _ _ _ (l13.trans l5) R5 ⟨p2, rfl, z⟩
        · cases hm
/-! all, any, sum -/
def blsOf : List D → Option (List Bool)
  | [] => some []
  | .bl b :: r => (blsOf r).map fun l => b :: l
  | _ :: _ => none
def intsOf : List D → Option (List Int)
  | [] => some []
  | .int b :: r => (intsOf r).map fun l => b :: l
  | _ :: _ => none
theorem bls_rp : ∀ {l : List D} {vs : List V} {bs : List Bool}, RpL K w l vs → blsOf l = some bs → vs = bs.map V.bl
  | [], vs, bs, r, e => by
    cases e
    exact r
  | d :: l, vs, bs, r, e => by
    obtain ⟨v, vr, rfl, r1, r2⟩ := r
    unfold blsOf at e
    split at e
    · cases e; rename_i h; cases h
    · rename_i b l' h
      cases h
      cases q : blsOf l with
      | none => rw [q] at e; cases e
      | some bs' =>
        rw [q] at e
        cases e
        have r1 : v = .bl b := r1
        rw [r1, bls_rp r2 q]; rfl
    · cases e
theorem ints_rp : ∀ {l : List D} {vs : List V} {bs : List Int}, RpL K w l vs → intsOf l = some bs → vs = bs.map V.int
  | [], vs, bs, r, e => by
    cases e
    exact r
  | d :: l, vs, bs, r, e => by
    obtain ⟨v, vr, rfl, r1, r2⟩ := r
    unfold intsOf at e
    split at e
    · cases e; rename_i h; cases h
    · rename_i b l' h
      cases h
      cases q : intsOf l with
      | none => rw [q] at e; cases e
      | some bs' =>
        rw [q] at e
        cases e
        have r1 : v = .int b := r1
        rw [r1, ints_rp r2 q]; rfl
    · cases e
def fAll : FD := fun h xs => match xs with
  | [x] => (match pk h x with
    | .lst l => (blsOf l).map fun bs => (.bl (bs.all id), h)
    | _ => none)
  | _ => none
def fAny : FD := fun h xs => match xs with
  | [x] => (match pk h x with
    | .lst l => (blsOf l).map fun bs => (.bl (bs.any id), h)
    | _ => none)
  | _ => none
def fSum : FD := fun h xs => match xs with
  | [x] => (match pk h x with
    | .lst l => (intsOf l).map fun bs => (.int bs.sum, h)
    | _ => none)
  | _ => none
theorem s_all : SC K T (rAll K) fAll := fun w H h xs vs d h' R r e Q k => by
  unfold fAll at e
  split at e
  · rename_i x
    obtain ⟨v, r', rfl, a, rfl⟩ := r
    split at e
    · rename_i l e1
      obtain ⟨p, us, rfl, hp, x1⟩ := pk_lst R a e1
      cases q : blsOf l with
      | none => rw [q] at e; cases e
      | some bs =>
        rw [q] at e; cases e
        have := bls_rp x1 q
        subst this
        exact ⟨p, bs, rfl, SqL.of hp, k w _ H (Wd.le.refl w) R rfl⟩
    · cases e
  · cases e
theorem s_any : SC K T (rAny K) fAny := fun w H h xs vs d h' R r e Q k => by
  unfold fAny at e
  split at e
  · rename_i x
    obtain ⟨v, r', rfl, a, rfl⟩ := r
    split at e
    · rename_i l e1
      obtain ⟨p, us, rfl, hp, x1⟩ := pk_lst R a e1
      cases q : blsOf l with
      | none => rw [q] at e; cases e
      | some bs =>
        rw [q] at e; cases e
        have := bls_rp x1 q
        subst this
        exact ⟨p, bs, rfl, SqL.of hp, k w _ H (Wd.le.refl w) R rfl⟩
    · cases e
  · cases e
theorem s_sum : SC K T (rSum K) fSum := fun w H h xs vs d h' R r e Q k => by
  unfold fSum at e
  split at e
  · rename_i x
    obtain ⟨v, r', rfl, a, rfl⟩ := r
    split at e
    · rename_i l e1
      obtain ⟨p, us, rfl, hp, x1⟩ := pk_lst R a e1
      cases q : intsOf l with
      | none => rw [q] at e; cases e
      | some bs =>
        rw [q] at e; cases e
        have := ints_rp x1 q
        subst this
        exact ⟨p, bs, rfl, SqL.of hp, k w _ H (Wd.le.refl w) R rfl⟩
    · cases e
  · cases e
/-! int(..) -/
def rIntU : List V → Hp → VK → Prop := fun xs H Q => ((∃ i, xs = [.int i] ∧ Q (.int i) H) ∨ ∃ k, xs = [.bl k] ∧ Q (.int (if k then 1 else 0)) H) ∨ (∃ a n, xs = [.str a] ∧ PySem.intText? a = some n ∧ a.length ≤ 640 ∧ Q (.int n) H)
theorem call_intU : CallR X (.type "int") rIntU := by
  intro pins s σ H vs us Q I r h
  rcases h with h | h
  · exact call_int1 pins s σ H vs us Q I r h
  · exact call_int_str pins s σ H vs us Q I r h
def fInt : FD := fun h xs => match xs with
  | [.int i] => some (.int i, h)
  | [.bl k] => some (.int (if k then 1 else 0), h)
  | [.str a] => if a.length ≤ 640 then (PySem.intText? a).map fun n => (.int n, h) else none
  | _ => none
theorem s_int : SC K T rIntU fInt := fun w H h xs vs d h' R r e Q k => by
  unfold fInt at e
  split at e
  · rename_i i
    obtain ⟨v, r', rfl, a, rfl⟩ := r
    cases a; cases e
    exact .inl (.inl ⟨i, rfl, k w _ H (Wd.le.refl w) R rfl⟩)
  · rename_i b
    obtain ⟨v, r', rfl, a, rfl⟩ := r
    cases a; cases e
    exact .inl (.inr ⟨b, rfl, k w _ H (Wd.le.refl w) R rfl⟩)
  · rename_i z
    obtain ⟨v, r', rfl, a, rfl⟩ := r
    cases a
    split at e
    · rename_i hz
      cases q : PySem.intText? z with
      | none => rw [q] at e; cases e
      | some n =>
        rw [q] at e; cases e
        exact .inr ⟨z, n, rfl, q, hz, k w _ H (Wd.le.refl w) R rfl⟩
    · cases e
  · cases e
/-! a sign in a text -/
def fSign : F2 := fun _ x y => match x, y with
  | .str a, .str z => if a.cps.size = 1 then some (.bl (decide (a.cps.getD 0 0 ∈ z.cps.toList))) else none
  | _, _ => none
def fNSign : F2 := fun _ x y => match x, y with
  | .str a, .str z => if a.cps.size = 1 then some (.bl (!decide (a.cps.getD 0 0 ∈ z.cps.toList))) else none
  | _, _ => none
theorem one_sign {a : Str} (h : a.cps.size = 1) : a = ⟨#[a.cps.getD 0 0]⟩ := by
  obtain ⟨c⟩ := a
  congr 1
  apply Array.ext
  · simpa using h
  · intro i h1 h2
    have : i = 0 := by simp at h2; omega
    subst this
    simp [Array.getD, h]
theorem s_sign : S2 K T (fun x y H Q => ∃ (c : Nat) (z : Str), x = .str ⟨#[c]⟩ ∧ y = .str z ∧ Q (.bl (decide (c ∈ z.cps.toList))) H) fSign := s2_flat fun w H h x y v u d R a b e Q k => by
  unfold fSign at e
  split at e
  · rename_i s1 s2
    cases a; cases b
    split at e
    · rename_i hz
      cases e
      exact ⟨s1.cps.getD 0 0, s2, by rw [← one_sign hz], rfl, k _ fun _ => rfl⟩
    · cases e
  · cases e
theorem s_nsign : S2 K T (fun x y H Q => ∃ (c : Nat) (z : Str), x = .str ⟨#[c]⟩ ∧ y = .str z ∧ Q (.bl (!decide (c ∈ z.cps.toList))) H) fNSign := s2_flat fun w H h x y v u d R a b e Q k => by
  unfold fNSign at e
  split at e
  · rename_i s1 s2
    cases a; cases b
    split at e
    · rename_i hz
      cases e
      exact ⟨s1.cps.getD 0 0, s2, by rw [← one_sign hz], rfl, k _ fun _ => rfl⟩
    · cases e
  · cases e
end
end Tp
set_option Elab.async false
set_option linter.all false
set_option maxRecDepth 100000
set_option maxHeartbeats 4000000
namespace Tp
open PySem PySem.Spec PyProof.Rows L2
section
variable {K : PySem.W.Frag} {T : List (Addr × Str)} {X : Cx} {tg e : Expr} {m : ME}
def signs (z : Str) : List D := z.cps.toList.map fun c => .str ⟨#[c]⟩
theorem its_okP {w0 : Wd} {z : Str} : ItP K T w0 (Its z) (signs z) := by
  intro w H h i f a R
  have hl : (signs z).length = z.cps.size := by simp [signs]
  refine ⟨fun d e => ?_, fun hi => by show z.cps.size ≤ i; rw [← hl]; exact hi⟩
  have hi : i < z.cps.size := by rw [← hl]; exact (List.getElem?_eq_some_iff.mp e).1
  refine ⟨hi, fun x H' y => ?_⟩
  obtain ⟨rfl, c, e1, rfl⟩ := y
  refine ⟨w, Wd.le.refl w, R, ?_⟩
  unfold signs at e
  rw [List.getElem?_map, Array.getElem?_toList, e1] at e
  cases e
  exact rfl
def iStrM (a : ME) : MI := fun G h => match a G h with
  | some (.str z, h1) => some (signs z, h1)
  | _ => none
theorem ji_str (hi : JE T X e m) : JI T X tg e (iStrM m) := by
  obtain ⟨t, p, s⟩ := hi
  refine ⟨_, pi_str p, fun w σ H G h l h' R E hm Q k => ?_⟩
  unfold iStrM at hm
  split at hm
  · rename_i z h1 e1
    cases hm
    exact s w σ H G h _ _ R E e1 _ fun w1 v H1 l1 R1 x => ⟨z, x, k w1 _ H1 l1 R1 its_okP⟩
  · cases hm
/-! a for over any iterator -/
def mForI (mi : MI) (g : MG) (b : MS) : MS := fun G h => match mi G h with
  | none => none
  | some (l, h1) => forL g b l G h1
theorem js_forI {tg : Expr} {sts : List Stmt} {pos : Pos} {mi : MI} {g : MG} {b : MS} (hp : PassesOwn (model X.prog X.w) X.A X.env X.xe) (hc : X.calm = true) (hi : JI T X tg e mi) (hg : JG T X tg g) (hb : JSs T X sts b) (hs : ∀ x, foldedSetIterable e X.env x = pure x := by intro _; rfl) : JS T X (.For tg e sts [] pos) (mForI mi g b) := by
  obtain ⟨wi, p, s⟩ := hi
  obtain ⟨tg', p2, s2⟩ := hg
  obtain ⟨tb, p3, s3⟩ := hb
  refine ⟨_, ps_for hp hc p p2 p3 hs, fun w σ H G h o h' R E hm D k => ?_⟩
  unfold mForI at hm
  split at hm
  · cases hm
  · rename_i l h1 e1
    exact s w σ H G h l h1 R E e1 _ fun w1 J H1 l1 R1 hJ => for_run (T := T) (K := X.K) (fun w H h i l1 R1 => hJ w H h i l1.f l1.a R1) s2 s3 (fun w' H' l' R' => k w' H' (l1.trans l') R') (Wd.le.refl w1) R1 (E.mono l1) hm
/-! name = [..] -/
theorem ss_asgN {t : TE} {m : ME} {i : Nat} (s : SE K T t m) : SS K T (tAsg t (L2.gName i)) (mAsg m (gN i)) := by
  intro w σ H G h o h' R E hm D k
  unfold mAsg gN at hm
  split at hm
  · cases hm
  · rename_i d h1 e1
    cases hm
    exact s w σ H G h d _ R E e1 _ fun w1 v H1 l1 R1 x => k w1 H1 l1 R1 _ ((E.mono l1).set x)
variable {elt iter : Expr} {ifs : List Expr} {scope : Scope} {own : List (Str × Nat)} {vs : List Nat} {pos spos py : Pos} {mi : MI} {g : MG} {t : MT} {e' : ME} {i : Nat} {y : Str}
theorem js_setLc (hc : X.calm = true) (hN : X.N.Nodup) (hy : X.N[i]? = some y) (hyl : X.env.scope.names.lookup y = some .local) (hsw : swapsWith (.ListComp elt [⟨tg, iter, ifs, 0⟩] scope pos) (some (.Name y py)) spos.line X.env = pure true)
    (hi : JI T X tg iter mi) (ok : BlkOk X.N X.env.scope scope own) (hg : ∀ (s : Shared) (H : Hp) (C : Addr) (cl : List (Str × Addr)) (fp : List Addr), JGW T (X.blk s H scope (compEnvC scope cl C X.env) fp) tg g vs)
    (ht : ∀ (s : Shared) (H : Hp) (C : Addr) (cl : List (Str × Addr)) (fp : List Addr), PTs (X.blk s H scope (compEnvC scope cl C X.env) fp) ifs (ttOf X.K T t)) (he : ∀ (s : Shared) (H : Hp) (C : Addr) (cl : List (Str × Addr)) (fp : List Addr), JE T (X.blk s H scope (compEnvC scope cl C X.env) fp) elt e')
    (hv : own.map (·.2) = vs := by rfl) (hs : ∀ x, foldedSetIterable iter X.env x = pure x := by intro _; rfl) : JS T X (.Assign [.Name y py] (.ListComp elt [⟨tg, iter, ifs, 0⟩] scope pos) spos) (mAsg (mLc mi g t e' vs) (gN i)) := by
  subst hv
  obtain ⟨wi, p, s⟩ := hi
  have hg' : ∀ (s : Shared) (H : Hp) (C : Addr) (cl : List (Str × Addr)) (fp : List Addr), PG (X.blk s H scope (compEnvC scope cl C X.env) fp) tg (gOf X.K T g (own.map (·.2))) := hg
  exact ⟨_, ps_setLc hc hN hy hyl hsw p ok hg' ht (fun s H C cl fp => (he s H C cl fp).pe) hs, ss_asgN (se_lc s)⟩
theorem js_setLcC (hc : X.calm = true) (hN : X.N.Nodup) (hy : X.N[i]? = some y) (hyl : X.env.scope.names.lookup y = some .local) (hsw : swapsWith (.ListComp elt [⟨tg, iter, ifs, 0⟩] scope pos) (some (.Name y py)) spos.line X.env = pure true)
    (hi : JI T X tg iter mi) (ok : BlkOk X.N X.env.scope scope own) (hg : ∀ (s : Shared) (H : Hp) (C : Addr) (cl : List (Str × Addr)) (fp : List Addr), JGW T (X.blk s H scope (compEnvC scope cl C X.env) fp) tg g vs)
    (ht : ∀ (s : Shared) (H : Hp) (C : Addr) (cl : List (Str × Addr)) (fp : List Addr), PTs (X.blk s H scope (compEnvC scope cl C X.env) fp) ifs (ttOf X.K T t)) (he : ∀ (s : Shared) (H : Hp) (C : Addr) (cl : List (Str × Addr)) (fp : List Addr), JE T (X.blk s H scope (compEnvC scope cl C X.env) fp) elt e')
    (hv : own.map (·.2) = vs := by rfl) (hs : ∀ x, foldedSetIterable iter X.env x = pure x := by intro _; rfl) : JS T X (.Assign [.Name y py] (.ListComp elt [⟨tg, iter, ifs, 0⟩] scope pos) spos) (mAsg (mLcC mi g t e' vs) (gN i)) := by
  subst hv
  obtain ⟨wi, p, s⟩ := hi
  have hg' : ∀ (s : Shared) (H : Hp) (C : Addr) (cl : List (Str × Addr)) (fp : List Addr), PG (X.blk s H scope (compEnvC scope cl C X.env) fp) tg (gOf X.K T g (own.map (·.2))) := hg
  exact ⟨_, ps_setLc hc hN hy hyl hsw p ok hg' ht (fun s H C cl fp => (he s H C cl fp).pe) hs, ss_asgN (se_lcC s)⟩
end
end Tp
set_option Elab.async false
set_option linter.all false
set_option maxRecDepth 100000
set_option maxHeartbeats 4000000
/-! loops and comprehensions over a list in a cell, which they leave as it is -/
namespace Tp
open PySem PySem.Spec PyProof.Rows L2
noncomputable def stayB (n : Nat) (l : List D) (h : List Cell) : Bool := @decide (h[n]? = some (.lst l)) (Classical.propDecidable _)
theorem stayB_iff {n : Nat} {l : List D} {h : List Cell} : stayB n l h = true ↔ h[n]? = some (.lst l) := by unfold stayB; exact @decide_eq_true_iff _ (Classical.propDecidable _)
noncomputable def forQ (n : Nat) (l0 : List D) (g : MG) (b : MS) : List D → MS
  | [], G, h => if stayB n l0 h = true then some (.nx G, h) else none
  | d :: r, G, h => if stayB n l0 h = true then (match g d G h with
    | none => none
    | some G1 => match b G1 h with
      | some (.nx G2, h2) => forQ n l0 g b r G2 h2
      | some (.ct G2, h2) => forQ n l0 g b r G2 h2
      | some (.bk G2, h2) => some (.nx G2, h2)
      | some (.rt d, h2) => some (.rt d, h2)
      | none => none) else none
abbrev MIq := Env1 → List Cell → Option (Nat × List D × List Cell)
def iCel (a : ME) : MIq := fun G h => match a G h with
  | some (.ref n, h1) => (match h1[n]? with
    | some (.lst l) => some (n, l, h1)
    | _ => none)
  | _ => none
noncomputable def mForQ (mi : MIq) (g : MG) (b : MS) : MS := fun G h => match mi G h with
  | none => none
  | some (n, l, h1) => forQ n l g b l G h1
noncomputable def lcQ (n : Nat) (l0 : List D) (g : MG) (t : MT) (e : ME) (G0 : Env1) : List D → List D → List Cell → Option (List D × List Cell)
  | [], acc, h => if stayB n l0 h = true then some (acc, h) else none
  | d :: r, acc, h => if stayB n l0 h = true then (match g d G0 h with
    | none => none
    | some G1 => match t G1 h with
      | none => none
      | some (false, h1) => lcQ n l0 g t e G0 r acc h1
      | some (true, h1) => match e G1 h1 with
        | none => none
        | some (y, h2) => if acc.length < 1000000 then lcQ n l0 g t e G0 r (acc ++ [y]) h2 else none) else none
noncomputable def mLcQ (mi : MIq) (g : MG) (t : MT) (e : ME) (vs : List Nat) : ME := fun G h => match mi G h with
  | none => none
  | some (n, l, h1) => match lcQ n l g t e (wipeE G vs) l [] h1 with
    | none => none
    | some (acc, h2) => some (.lst acc, h2)
noncomputable def mLcQC (mi : MIq) (g : MG) (t : MT) (e : ME) (vs : List Nat) : ME := fun G h => match mi G h with
  | none => none
  | some (n, l, h1) => match lcQ n l g t e (wipeE G vs) l [] h1 with
    | none => none
    | some (acc, h2) => some (.ref h2.length, h2 ++ [.lst acc])
section
variable {K : PySem.W.Frag} {T : List (Addr × Str)} {X : Cx} {tg e : Expr} {m : ME}
def ItQ (K : PySem.W.Frag) (T : List (Addr × Str)) (w0 : Wd) (J : It) (n : Nat) (l : List D) : Prop := ∀ (w : Wd) (H : Hp) (h : List Cell) (i : Nat), Ex w0.F w.F → w0.A <+: w.A → Rel K T w H h → h[n]? = some (.lst l) →
  (∀ d, l[i]? = some d → J.go i H ∧ ∀ x H', J.yld i H x H' → ∃ w', w.le w' ∧ Rel K T w' H' h ∧ Rp K w' d x) ∧ (l.length ≤ i → J.stop i H)
theorem itq_ok {w0 : Wd} {p : Addr} {n : Nat} {l : List D} (hp : w0.A[n]? = some p) : ItQ K T w0 (Itl K p) n l := by
  intro w H h i f a R hn
  obtain ⟨p', o, h1, h2, vs, eo, r⟩ := R.cell n _ hn
  rw [pre_get a hp] at h1
  cases h1
  subst eo
  have hs : SqL K H p vs := SqL.of h2
  refine ⟨fun d e => ?_, fun hi => ⟨vs, hs, by rw [← r.len]; exact hi⟩⟩
  obtain ⟨v, e1, e2⟩ := r.get e
  refine ⟨⟨vs, v, hs, e1⟩, fun x H' y => ?_⟩
  obtain ⟨rfl, y2⟩ := y
  have := y2 vs hs
  rw [e1] at this; cases this
  exact ⟨w, Wd.le.refl w, R, e2⟩
def SIq (K : PySem.W.Frag) (T : List (Addr × Str)) (wi : TI) (mi : MIq) : Prop := ∀ (w : Wd) (σ : Slots) (H : Hp) (G : Env1) (h : List Cell) (n : Nat) (l : List D) (h' : List Cell), Rel K T w H h → EnvR K w σ G → mi G h = some (n, l, h') →
  ∀ R : It → Hp → Prop, (∀ w' J H', w.le w' → Rel K T w' H' h' → ItQ K T w' J n l → R J H') → wi σ H R
def JIq (T : List (Addr × Str)) (X : Cx) (tg e : Expr) (mi : MIq) : Prop := ∃ wi, PI X tg e wi ∧ SIq X.K T wi mi
theorem ji_cel (hi : JE T X e m) : JIq T X tg e (iCel m) := by
  obtain ⟨t, p, s⟩ := hi
  refine ⟨_, pi_list p, fun w σ H G h n l h' R E hm Q k => ?_⟩
  unfold iCel at hm
  split at hm
  · rename_i n' h1 e1
    split at hm
    · rename_i l' e2
      cases hm
      refine s w σ H G h _ _ R E e1 _ fun w1 v H1 l1 R1 x => ?_
      obtain ⟨p0, rfl, hp⟩ := x
      obtain ⟨p', o, a1, a2, vs, eo, r⟩ := R1.cell _ _ e2
      rw [hp] at a1
      cases a1
      subst eo
      exact ⟨p0, rfl, ⟨vs, SqL.of a2⟩, k w1 _ H1 l1 R1 (itq_ok hp)⟩
    · cases hm
  · cases hm
end
section
variable {K : PySem.W.Frag} {T : List (Addr × Str)} {X : Cx} {g : MG} {b : MS}
theorem for_runQ {K : PySem.W.Frag} {tb : TS} {tg : TG} {w0 : Wd} {J : It} {n : Nat} {l : List D} (hJ : ItQ K T w0 J n l) (hg : SG K T tg g) (hb : SS K T tb b) {D : Ends} {o : Out} {h' : List Cell} (k : ∀ w' H', w0.le w' → Rel K T w' H' h' → Fin K w' H' D o)
    {w : Wd} {σ : Slots} {H : Hp} {G : Env1} {h : List Cell} (l0 : w0.le w) (R : Rel K T w H h) (E : EnvR K w σ G) (hm : forQ n l g b l G h = some (o, h')) :
    ∃ W : Nat → Nat → Slots → Hp → Prop, (∃ m, W 0 m σ H) ∧ ∀ i m σ H, W i m σ H → (J.stop i H ∧ D.nx σ H) ∨ (J.go i H ∧ ∃ N : Slots → Hp → Prop, (∀ σ' H', N σ' H' → ∃ m', m' < m ∧ W (i + 1) m' σ' H') ∧ ∀ x H', J.yld i H x H' → tg x σ H' fun σ2 H2 => tb { D with nx := N, ct := N, bk := D.nx } σ2 H2) := by
  refine ⟨fun i m σ H => m = l.length - i ∧ i ≤ l.length ∧ ∃ (w : Wd) (h : List Cell) (G : Env1), w0.le w ∧ Rel K T w H h ∧ EnvR K w σ G ∧ forQ n l g b (l.drop i) G h = some (o, h'), ⟨l.length, rfl, Nat.zero_le _, w, h, G, l0, R, E, hm⟩, ?_⟩
  rintro i m σ H ⟨rfl, hi, w, h, G, l1, R, E, hm⟩
  have hs : stayB n l h = true := by
    cases q : l.drop i with
    | nil =>
      rw [q] at hm; unfold forQ at hm
      split at hm
      · assumption
      · cases hm
    | cons _ _ =>
      rw [q] at hm; unfold forQ at hm
      split at hm
      · assumption
      · cases hm
  obtain ⟨hgo, hst⟩ := hJ w H h i l1.f l1.a R (stayB_iff.1 hs)
  by_cases hlt : i < l.length
  · have ed : l.drop i = l[i] :: l.drop (i + 1) := List.drop_eq_getElem_cons hlt
    rw [ed] at hm
    obtain ⟨go, hy⟩ := hgo _ (List.getElem?_eq_getElem hlt)
    refine .inr ⟨go, fun σ' H' => i + 1 ≤ l.length ∧ ∃ (w : Wd) (h : List Cell) (G : Env1), w0.le w ∧ Rel K T w H' h ∧ EnvR K w σ' G ∧ forQ n l g b (l.drop (i + 1)) G h = some (o, h'), fun σ' H' n => ⟨l.length - (i + 1), by omega, rfl, n.1, n.2⟩, fun x H' y => ?_⟩
    obtain ⟨w2, l2, R2, x2⟩ := hy x H' y
    unfold forQ at hm
    rw [if_pos hs] at hm
    split at hm
    · cases hm
    · rename_i G1 e1
      refine hg w2 σ H' G h _ x G1 R2 (E.mono l2) x2 e1 _ fun σ2 E2 => ?_
      split at hm
      · rename_i G2 h2 e2
        exact hb w2 σ2 H' G1 h _ _ R2 E2 e2 _ fun w3 H3 l3 R3 σ3 E3 => ⟨hlt, w3, h2, G2, (l1.trans l2).trans l3, R3, E3, hm⟩
      · rename_i G2 h2 e2
        exact hb w2 σ2 H' G1 h _ _ R2 E2 e2 _ fun w3 H3 l3 R3 σ3 E3 => ⟨hlt, w3, h2, G2, (l1.trans l2).trans l3, R3, E3, hm⟩
      · rename_i G2 h2 e2
        cases hm
        exact hb w2 σ2 H' G1 h _ _ R2 E2 e2 _ fun w3 H3 l3 R3 σ3 E3 => k w3 H3 ((l1.trans l2).trans l3) R3 σ3 E3
      · rename_i d h2 e2
        cases hm
        exact hb w2 σ2 H' G1 h _ _ R2 E2 e2 _ fun w3 H3 l3 R3 v x3 => k w3 H3 ((l1.trans l2).trans l3) R3 v x3
      · cases hm
  · have ei : i = l.length := by omega
    subst ei
    rw [List.drop_length] at hm
    unfold forQ at hm
    rw [if_pos hs] at hm
    cases hm
    exact .inl ⟨hst (Nat.le_refl _), k w H l1 R σ E⟩
theorem js_forQ {tg e : Expr} {sts : List Stmt} {pos : Pos} {mi : MIq} {g : MG} {b : MS} (hp : PassesOwn (model X.prog X.w) X.A X.env X.xe) (hc : X.calm = true) (hi : JIq T X tg e mi) (hg : JG T X tg g) (hb : JSs T X sts b) (hs : ∀ x, foldedSetIterable e X.env x = pure x := by intro _; rfl) : JS T X (.For tg e sts [] pos) (mForQ mi g b) := by
  obtain ⟨wi, p, s⟩ := hi
  obtain ⟨tg', p2, s2⟩ := hg
  obtain ⟨tb, p3, s3⟩ := hb
  refine ⟨_, ps_for hp hc p p2 p3 hs, fun w σ H G h o h' R E hm D k => ?_⟩
  unfold mForQ at hm
  split at hm
  · cases hm
  · rename_i n l h1 e1
    exact s w σ H G h n l h1 R E e1 _ fun w1 J H1 l1 R1 hJ => for_runQ hJ s2 s3 (fun w' H' l' R' => k w' H' (l1.trans l') R') (Wd.le.refl w1) R1 (E.mono l1) hm
end
section
variable {K : PySem.W.Frag} {T : List (Addr × Str)} {w : Wd} {H : Hp} {h : List Cell}
/-- the reading of a comprehension -/
theorem lc_runQ {J : It} {g : MG} {t : MT} {e : ME} {vs : List Nat} {n : Nat} {l accf : List Tp.D} {hf : List Cell} {w0 : Wd} {σ : L2.St} {G : Env1} {H1 : Hp} {h1 : List Cell} {Q : VK} (R0 : Rel K T w0 H1 h1) (E0 : EnvR K w0 σ G) (hJ : ItQ K T w0 J n l) (hm : lcQ n l g t e (wipeE G vs) l [] h1 = some (accf, hf))
    (k : ∀ (w : Wd) (H : Hp) (D : Addr) (us : List V), Ex w0.F w.F → w0.A <+: w.A → Rel K T w H hf → w.Pr = upd w0.Pr D (.lst us) → w0.Pr D = none → RpL K w accf us → Q (.ref D) H) (D : Addr) (nD : H1 D = none) :
    ∃ W : Nat → Nat → Hp → Prop, (∃ m, W 0 m (upd H1 D (.lst []))) ∧ ∀ i m H, W i m H → (J.stop i H ∧ Q (.ref D) H) ∨ (J.go i H ∧ ∃ Nx : Hp → Prop, (∀ H', Nx H' → ∃ m', m' < m ∧ W (i + 1) m' H') ∧ ∀ x H', J.yld i H x H' →
      gOf K T g vs x (wipe σ vs) H' fun σ2 H2 => wipe σ2 vs = wipe σ vs ∧ ttOf K T t σ2 H2 fun b H3 => if b = true then tOf K T e σ2 H3 fun y H4 => ∃ acc, H4 D = some (.lst acc) ∧ acc.length < sizeLine ∧ Nx (upd H4 D (.lst (acc ++ [y]))) else Nx H3) := by
  have n0 : w0.Pr D = none := R0.ph.none nD
  let Inv0 : Nat → Hp → Prop := fun i H => i ≤ l.length ∧ ∃ (w : Wd) (h : List Cell) (acc : List Tp.D) (us : List V), Ex w0.F w.F ∧ w0.A <+: w.A ∧ Rel K T w H h ∧ w.Pr = upd w0.Pr D (.lst us) ∧ RpL K w acc us ∧ lcQ n l g t e (wipeE G vs) (l.drop i) acc h = some (accf, hf)
  refine ⟨fun i m H => m = l.length - i ∧ Inv0 i H, ⟨l.length, rfl, Nat.zero_le _, hidW w0 w0.Pr D [], h1, [], [], Ex.refl _, List.prefix_refl _, R0.hid_new nD, rfl, rfl, hm⟩, ?_⟩
  rintro i m H ⟨rfl, hi, w, h, acc, us, f, a, R, hP, r, hm⟩
  have hs : stayB n l h = true := by
    cases q : l.drop i with
    | nil =>
      rw [q] at hm; unfold lcQ at hm
      split at hm
      · assumption
      · cases hm
    | cons _ _ =>
      rw [q] at hm; unfold lcQ at hm
      split at hm
      · assumption
      · cases hm
  obtain ⟨hgo, hst⟩ := hJ w H h i f a R (stayB_iff.1 hs)
  by_cases hlt : i < l.length
  · have ed : l.drop i = l[i] :: l.drop (i + 1) := List.drop_eq_getElem_cons hlt
    rw [ed] at hm
    obtain ⟨go, hy⟩ := hgo _ (List.getElem?_eq_getElem hlt)
    refine .inr ⟨go, fun H' => Inv0 (i + 1) H', fun H' n => ⟨l.length - (i + 1), by omega, rfl, n⟩, fun x H' y => ?_⟩
    obtain ⟨w2, l2, R2, x2⟩ := hy x H' y
    unfold lcQ at hm
    rw [if_pos hs] at hm
    split at hm
    · cases hm
    · rename_i G1 e1
      have E2 : EnvR K w2 (wipe σ vs) (wipeE G vs) := EnvR.mono2 (fun b o z => l2.f b o (f b o z)) (a.trans l2.a) (wipeE_rel E0 vs)
      refine ⟨w2, wipeE G vs, h, _, G1, R2, E2, x2, e1, fun σ2 Eg hw => ⟨hw.trans wipe_wipe, ?_⟩⟩
      split at hm
      · cases hm
      · rename_i h3 e2
        refine ⟨w2, G1, h, false, h3, R2, Eg, e2, fun w3 H3 l3 R3 => ?_⟩
        simp only [Bool.false_eq_true, if_false]
        exact ⟨by omega, w3, h3, acc, us, fun b o z => l3.f b o (l2.f b o (f b o z)), (a.trans l2.a).trans l3.a, R3, by rw [l3.p, l2.p]; exact hP, RpL.mono l3 _ _ (RpL.mono l2 _ _ r), hm⟩
      · rename_i h3 e2
        refine ⟨w2, G1, h, true, h3, R2, Eg, e2, fun w3 H3 l3 R3 => ?_⟩
        simp only [if_true]
        split at hm
        · cases hm
        · rename_i y h4 e3
          split at hm
          · rename_i hz
            refine ⟨w3, G1, h3, y, h4, R3, Eg.mono l3, e3, fun w4 yv H4 l4 R4 x4 => ?_⟩
            have hP4 : w4.Pr = upd w0.Pr D (.lst us) := by rw [l4.p, l3.p, l2.p]; exact hP
            have rr : RpL K w4 acc us := RpL.mono l4 _ _ (RpL.mono l3 _ _ (RpL.mono l2 _ _ r))
            refine ⟨us, R4.ph D _ (by rw [hP4, upd_same]), by rw [← rr.len]; exact line_lt hz, by omega, hidW w4 w0.Pr D (us ++ [yv]), h4, acc ++ [y], us ++ [yv], fun b o z => l4.f b o (l3.f b o (l2.f b o (f b o z))), ((a.trans l2.a).trans l3.a).trans l4.a, R4.hid_put hP4, rfl, ?_, hm⟩
            exact RpL.mono2 (w := w4) (w' := hidW w4 w0.Pr D (us ++ [yv])) (Ex.refl _) (List.prefix_refl _) _ _ (rr.app ⟨yv, [], rfl, x4, rfl⟩)
          · cases hm
  · have ei : i = l.length := by omega
    subst ei
    rw [List.drop_length] at hm
    unfold lcQ at hm
    rw [if_pos hs] at hm
    cases hm
    exact .inl ⟨hst (Nat.le_refl _), k w H D us f a R hP n0 r⟩
theorem se_lcQ {wi : TI} {mi : MIq} {g : MG} {t : MT} {e : ME} {vs : List Nat} (si : SIq K T wi mi) : SE K T (tLc wi (gOf K T g vs) (ttOf K T t) (tOf K T e) vs) (mLcQ mi g t e vs) := by
  intro w σ H G h d h' R E hm Q k
  unfold mLcQ at hm
  split at hm
  · cases hm
  · rename_i n l h1 e1
    split at hm
    · cases hm
    · rename_i acc h2 e2
      cases hm
      refine si w σ H G h n l h1 R E e1 _ fun w1 J H1 l1 R1 hJ => fun D nD => ?_
      refine lc_runQ R1 (E.mono l1) hJ e2 (fun w2 H2 D us f a R2 hP n0 r => ?_) D nD
      have R3 := R2.hid_frz hP n0
      have nF : w2.F D = none := R2.dj D (.lst us) (by rw [hP, upd_same])
      refine k ⟨upd w2.F D (.lst us), w1.Pr, w2.A⟩ _ H2 (l1.trans ⟨fun b o z => Ex.new nF b o (f b o z), rfl, a⟩) R3 ⟨D, us, rfl, upd_same, ?_⟩
      exact RpL.mono2 (w := w2) (w' := ⟨upd w2.F D (.lst us), w1.Pr, w2.A⟩) (Ex.new nF) (List.prefix_refl _) _ _ r
theorem se_lcQC {wi : TI} {mi : MIq} {g : MG} {t : MT} {e : ME} {vs : List Nat} (si : SIq K T wi mi) : SE K T (tLc wi (gOf K T g vs) (ttOf K T t) (tOf K T e) vs) (mLcQC mi g t e vs) := by
  intro w σ H G h d h' R E hm Q k
  unfold mLcQC at hm
  split at hm
  · cases hm
  · rename_i n l h1 e1
    split at hm
    · cases hm
    · rename_i acc h2 e2
      cases hm
      refine si w σ H G h n l h1 R E e1 _ fun w1 J H1 l1 R1 hJ => fun D nD => ?_
      refine lc_runQ R1 (E.mono l1) hJ e2 (fun w2 H2 D us f a R2 hP n0 r => ?_) D nD
      have R3 := R2.hid_cel hP n0 r
      refine k ⟨w2.F, w1.Pr, w2.A ++ [D]⟩ _ H2 (l1.trans ⟨f, rfl, a.trans (List.prefix_append _ _)⟩) R3 ⟨D, rfl, ?_⟩
      show (w2.A ++ [D])[h2.length]? = some D
      rw [← R2.len]; simp
end
section
variable {X : Cx} {T : List (Addr × Str)} {elt tg iter : Expr} {ifs : List Expr} {scope : Scope} {own : List (Str × Nat)} {vs : List Nat} {pos : Pos} {mi : MIq} {g : MG} {t : MT} {e : ME}
theorem je_lcQ (hc : X.calm = true) (hN : X.N.Nodup) (hi : JIq T X tg iter mi) (ok : BlkOk X.N X.env.scope scope own) (hg : ∀ (s : Shared) (H : Hp) (C : Addr) (cl : List (Str × Addr)) (fp : List Addr), JGW T (X.blk s H scope (compEnvC scope cl C X.env) fp) tg g vs)
    (ht : ∀ (s : Shared) (H : Hp) (C : Addr) (cl : List (Str × Addr)) (fp : List Addr), PTs (X.blk s H scope (compEnvC scope cl C X.env) fp) ifs (ttOf X.K T t)) (he : ∀ (s : Shared) (H : Hp) (C : Addr) (cl : List (Str × Addr)) (fp : List Addr), JE T (X.blk s H scope (compEnvC scope cl C X.env) fp) elt e)
    (hv : own.map (·.2) = vs := by rfl) (hs : ∀ x, foldedSetIterable iter X.env x = pure x := by intro _; rfl) : JE T X (.ListComp elt [⟨tg, iter, ifs, 0⟩] scope pos) (mLcQ mi g t e vs) := by
  subst hv
  obtain ⟨wi, p, s⟩ := hi
  have hg' : ∀ (s : Shared) (H : Hp) (C : Addr) (cl : List (Str × Addr)) (fp : List Addr), PG (X.blk s H scope (compEnvC scope cl C X.env) fp) tg (gOf X.K T g (own.map (·.2))) := hg
  exact ⟨_, pe_lc hc hN p ok hg' ht (fun s H C cl fp => (he s H C cl fp).pe) hs, se_lcQ s⟩
theorem je_lcQC (hc : X.calm = true) (hN : X.N.Nodup) (hi : JIq T X tg iter mi) (ok : BlkOk X.N X.env.scope scope own) (hg : ∀ (s : Shared) (H : Hp) (C : Addr) (cl : List (Str × Addr)) (fp : List Addr), JGW T (X.blk s H scope (compEnvC scope cl C X.env) fp) tg g vs)
    (ht : ∀ (s : Shared) (H : Hp) (C : Addr) (cl : List (Str × Addr)) (fp : List Addr), PTs (X.blk s H scope (compEnvC scope cl C X.env) fp) ifs (ttOf X.K T t)) (he : ∀ (s : Shared) (H : Hp) (C : Addr) (cl : List (Str × Addr)) (fp : List Addr), JE T (X.blk s H scope (compEnvC scope cl C X.env) fp) elt e)
    (hv : own.map (·.2) = vs := by rfl) (hs : ∀ x, foldedSetIterable iter X.env x = pure x := by intro _; rfl) : JE T X (.ListComp elt [⟨tg, iter, ifs, 0⟩] scope pos) (mLcQC mi g t e vs) := by
  subst hv
  obtain ⟨wi, p, s⟩ := hi
  have hg' : ∀ (s : Shared) (H : Hp) (C : Addr) (cl : List (Str × Addr)) (fp : List Addr), PG (X.blk s H scope (compEnvC scope cl C X.env) fp) tg (gOf X.K T g (own.map (·.2))) := hg
  exact ⟨_, pe_lc hc hN p ok hg' ht (fun s H C cl fp => (he s H C cl fp).pe) hs, se_lcQC s⟩
end

section
variable {K : PySem.W.Frag} {T : List (Addr × Str)} {X : Cx} {tg e : Expr} {m : ME}
variable {elt iter : Expr} {ifs : List Expr} {scope : Scope} {own : List (Str × Nat)} {vs : List Nat} {pos spos py : Pos} {mi : MIq} {g : MG} {t : MT} {e' : ME} {i : Nat} {y : Str}
theorem js_setLcQ (hc : X.calm = true) (hN : X.N.Nodup) (hy : X.N[i]? = some y) (hyl : X.env.scope.names.lookup y = some .local) (hsw : swapsWith (.ListComp elt [⟨tg, iter, ifs, 0⟩] scope pos) (some (.Name y py)) spos.line X.env = pure true)
    (hi : JIq T X tg iter mi) (ok : BlkOk X.N X.env.scope scope own) (hg : ∀ (s : Shared) (H : Hp) (C : Addr) (cl : List (Str × Addr)) (fp : List Addr), JGW T (X.blk s H scope (compEnvC scope cl C X.env) fp) tg g vs)
    (ht : ∀ (s : Shared) (H : Hp) (C : Addr) (cl : List (Str × Addr)) (fp : List Addr), PTs (X.blk s H scope (compEnvC scope cl C X.env) fp) ifs (ttOf X.K T t)) (he : ∀ (s : Shared) (H : Hp) (C : Addr) (cl : List (Str × Addr)) (fp : List Addr), JE T (X.blk s H scope (compEnvC scope cl C X.env) fp) elt e')
    (hv : own.map (·.2) = vs := by rfl) (hs : ∀ x, foldedSetIterable iter X.env x = pure x := by intro _; rfl) : JS T X (.Assign [.Name y py] (.ListComp elt [⟨tg, iter, ifs, 0⟩] scope pos) spos) (mAsg (mLcQ mi g t e' vs) (gN i)) := by
  subst hv
  obtain ⟨wi, p, s⟩ := hi
  have hg' : ∀ (s : Shared) (H : Hp) (C : Addr) (cl : List (Str × Addr)) (fp : List Addr), PG (X.blk s H scope (compEnvC scope cl C X.env) fp) tg (gOf X.K T g (own.map (·.2))) := hg
  exact ⟨_, ps_setLc hc hN hy hyl hsw p ok hg' ht (fun s H C cl fp => (he s H C cl fp).pe) hs, ss_asgN (se_lcQ s)⟩
theorem js_setLcQC (hc : X.calm = true) (hN : X.N.Nodup) (hy : X.N[i]? = some y) (hyl : X.env.scope.names.lookup y = some .local) (hsw : swapsWith (.ListComp elt [⟨tg, iter, ifs, 0⟩] scope pos) (some (.Name y py)) spos.line X.env = pure true)
    (hi : JIq T X tg iter mi) (ok : BlkOk X.N X.env.scope scope own) (hg : ∀ (s : Shared) (H : Hp) (C : Addr) (cl : List (Str × Addr)) (fp : List Addr), JGW T (X.blk s H scope (compEnvC scope cl C X.env) fp) tg g vs)
    (ht : ∀ (s : Shared) (H : Hp) (C : Addr) (cl : List (Str × Addr)) (fp : List Addr), PTs (X.blk s H scope (compEnvC scope cl C X.env) fp) ifs (ttOf X.K T t)) (he : ∀ (s : Shared) (H : Hp) (C : Addr) (cl : List (Str × Addr)) (fp : List Addr), JE T (X.blk s H scope (compEnvC scope cl C X.env) fp) elt e')
    (hv : own.map (·.2) = vs := by rfl) (hs : ∀ x, foldedSetIterable iter X.env x = pure x := by intro _; rfl) : JS T X (.Assign [.Name y py] (.ListComp elt [⟨tg, iter, ifs, 0⟩] scope pos) spos) (mAsg (mLcQC mi g t e' vs) (gN i)) := by
  subst hv
  obtain ⟨wi, p, s⟩ := hi
  have hg' : ∀ (s : Shared) (H : Hp) (C : Addr) (cl : List (Str × Addr)) (fp : List Addr), PG (X.blk s H scope (compEnvC scope cl C X.env) fp) tg (gOf X.K T g (own.map (·.2))) := hg
  exact ⟨_, ps_setLc hc hN hy hyl hsw p ok hg' ht (fun s H C cl fp => (he s H C cl fp).pe) hs, ss_asgN (se_lcQC s)⟩
end
end Tp
set_option Elab.async false
set_option linter.all false
set_option maxRecDepth 100000
set_option maxHeartbeats 4000000
/-! xs[a:b] = ys; xs * n -/
namespace Tp
open PySem PySem.Spec PyProof.Rows L2
def gSlP (to tl th : TE) : TG := fun v σ H Q => to σ H fun x H1 => tPart tl σ H1 fun ol H2 => tPart th σ H2 fun ou H3 => ∃ i j p b xs ys, ol = some i ∧ ou = some j ∧ x = .ref p ∧ v = .ref b ∧ H3 p = some (.lst xs) ∧ H3 b = some (.lst ys) ∧ p ≠ b ∧ 0 ≤ i ∧ i ≤ j ∧ j ≤ xs.length ∧ xs.length + ys.length ≤ sizeLine ∧
  Q σ (upd H3 p (.lst (xs.take i.toNat ++ ys ++ xs.drop j.toNat)))
/-- a store of a list into a cell's places -/
def mSetSl (v o lo hi : ME) : MS := fun G h => match v G h with
  | none => none
  | some (z, h1) => match o G h1 with
    | none => none
    | some (x, h2) => match lo G h2 with
      | none => none
      | some (l, h3) => match hi G h3 with
        | none => none
        | some (u, h4) => (match x, l, u, z with
          | .ref n, .int i, .int j, .lst ys => (match h4[n]? with
            | some (.lst xs) => if 0 ≤ i ∧ i ≤ j ∧ j ≤ xs.length ∧ xs.length + ys.length ≤ 1000000 then some (.nx G, h4.set n (.lst (xs.take i.toNat ++ ys ++ xs.drop j.toNat))) else none
            | _ => none)
          | _, _, _, _ => none)
section
variable {X : Cx} {K : PySem.W.Frag} {T : List (Addr × Str)} {o lo hi e : Expr} {to tl th : TE} {pos p2 opos : Pos} {m1 m2 m3 m4 : ME} {w : Wd}
theorem pg_slP (ho : PE X o to) (hl : PE X lo tl) (hh : PE X hi th)
    (ha : ∀ v, assign (.Subscript o (.Slice (some lo) (some hi) none p2) pos) X.env v = (do
      let ov ← holding [v] (eval o X.env)
      let iv ← holding [v, ov] (eval (.Slice (some lo) (some hi) none p2) X.env)
      standAt pos
      holding [v, ov, iv] (setItem ov iv v)
      release [iv, v, ov] []) := by intro _; rfl) : PG X (.Subscript o (.Slice (some lo) (some hi) none p2) pos) (gSlP to tl th) := by
  refine ⟨fun pins s σ H v u Q I r h => ?_⟩
  rw [ha]
  refine wpAny_bind (wpAny_holding (thn (ho.run pins s σ H _ I h) fun ov s1 ⟨x, H1, I1, r1, q1⟩ => ?_))
  refine wpAny_bind (wpAny_holding (wpAny_Slice (thn ((po_some hl).run pins s1 σ H1 _ I1 q1) fun vl s2 ⟨l, H2, I2, pl, q2⟩ => thn ((po_some hh).run pins s2 σ H2 _ I2 q2) fun vu s3 ⟨ou, H3, I3, pu, q3⟩ => ?_)))
  rw [evalPart_none]
  refine wpAny_pure ?_
  have I4 : Inv X pins σ H3 { s3 with heap := s3.heap.push { cls := .type "slice", data := .fields #[vl, vu, .none] } } := I3.kept (t' := s3.toks) fun b ob q => Heap.get?_push_of_some _ q
  obtain ⟨i, j, p, b, xs, ys, rfl, rfl, rfl, rfl, hp, hb, hne, h0, hij, hj, hz, q⟩ := q3
  cases r1
  cases r
  have rl : RelV (.int i) vl := by cases pl; exact ⟨_, rfl⟩
  have ru : RelV (.int j) vu := by cases pu; exact ⟨_, rfl⟩
  refine wpAny_bind (wpAny_standAt (wpAny_bind (wpAny_holding ?_)))
  refine set_slice I4 hp hb hne (Heap.IsSliceOf.new ..) rl ru h0 hij hj hz fun s5 I5 => ?_
  exact wpAny_release ⟨σ, _, I5, q⟩
theorem js_setSl (hv : JE T X e m1) (ho : JE T X o m2) (hl : JE T X lo m3) (hh : JE T X hi m4)
    (ha : ∀ v, assign (.Subscript o (.Slice (some lo) (some hi) none p2) opos) X.env v = (do
      let ov ← holding [v] (eval o X.env)
      let iv ← holding [v, ov] (eval (.Slice (some lo) (some hi) none p2) X.env)
      standAt opos
      holding [v, ov, iv] (setItem ov iv v)
      release [iv, v, ov] []) := by intro _; rfl)
    (hs : swapsWithSole [.Subscript o (.Slice (some lo) (some hi) none p2) opos] e pos.line X.env = pure false := by rfl) (hw : swappedStores [.Subscript o (.Slice (some lo) (some hi) none p2) opos] e X.env = pure none := by rfl)
    (h1 : (assignEach [.Subscript o (.Slice (some lo) (some hi) none p2) opos] X.env).map (·.2) = [assign (.Subscript o (.Slice (some lo) (some hi) none p2) opos) X.env] := by rfl) : JS T X (.Assign [.Subscript o (.Slice (some lo) (some hi) none p2) opos] e pos) (mSetSl m1 m2 m3 m4) := by
  obtain ⟨t1, p1, s1⟩ := hv
  obtain ⟨t2, q2, s2⟩ := ho
  obtain ⟨t3, q3, s3⟩ := hl
  obtain ⟨t4, q4, s4⟩ := hh
  refine ⟨_, ps_asg p1 (pg_slP q2 q3 q4 ha) hs hw h1, fun w σ H G h o h' R E hm D k => ?_⟩
  unfold mSetSl at hm
  split at hm
  · cases hm
  · rename_i z h1 e1
    split at hm
    · cases hm
    · rename_i x h2 e2
      split at hm
      · cases hm
      · rename_i l h3 e3
        split at hm
        · cases hm
        · rename_i u h4 e4
          split at hm
          · rename_i n i j ys
            split at hm
            · rename_i xs e5
              split at hm
              · rename_i hc
                cases hm
                refine s1 w σ H G h _ h1 R E e1 _ fun w1 v1 H1 l1 R1 x1 => ?_
                refine s2 w1 σ H1 G h1 _ h2 R1 (E.mono l1) e2 _ fun w2 v2 H2 l2 R2 x2 => ?_
                refine s3 w2 σ H2 G h2 _ h3 R2 (E.mono (l1.trans l2)) e3 _ fun w3 v3 H3 l3 R3 x3 => ?_
                cases x3
                refine ⟨i, rfl, ?_⟩
                refine s4 w3 σ H3 G h3 _ h4 R3 (E.mono ((l1.trans l2).trans l3)) e4 _ fun w4 v4 H4 l4 R4 x4 => ?_
                cases x4
                refine ⟨j, rfl, ?_⟩
                obtain ⟨p, rfl, hp⟩ := Rp.mono (l3.trans l4) _ _ x2
                obtain ⟨b, us, rfl, hb, rb⟩ := Rp.mono ((l2.trans l3).trans l4) _ _ x1
                obtain ⟨p', o', a1, a2, vs, eo, a3⟩ := R4.cell n _ e5
                rw [hp] at a1; cases a1
                subst eo
                have hne : p ≠ b := fun z => by
                  have := (R4.free p (List.mem_of_getElem? hp)).1
                  rw [z, hb] at this; cases this
                refine ⟨i, j, p, b, vs, us, rfl, rfl, rfl, rfl, a2, R4.fh _ _ hb, hne, hc.1, hc.2.1, by rw [← a3.len]; exact hc.2.2.1, by rw [← a3.len, ← rb.len]; exact Nat.le_trans hc.2.2.2 (by decide), ?_⟩
                have l14 := ((l1.trans l2).trans l3).trans l4
                exact k w4 _ l14 (R4.put hp a2 rfl ⟨_, rfl, ((RpL.take _ a3).app rb).app (RpL.drop _ a3)⟩) σ (E.mono l14)
              · cases hm
            · cases hm
          · cases hm
/-! xs * n -/
def fRep : F2 := fun _ x y => match x, y with
  | .lst l, .int k => if in62 k = true ∧ l.length * k.toNat ≤ 1000000 then some (.lst (List.replicate k.toNat l).flatten) else none
  | _, _ => none
theorem RpL.rep {l : List D} {vs : List V} (r : RpL K w l vs) : ∀ n : Nat, RpL K w (List.replicate n l).flatten (List.replicate n vs).flatten
  | 0 => rfl
  | n + 1 => by
    rw [List.replicate_succ, List.replicate_succ, List.flatten_cons, List.flatten_cons]
    exact r.app (RpL.rep r n)
theorem s_rep : S2 K T rRep fRep := fun w H h x y v u d R a b e Q k => by
  unfold fRep at e
  split at e
  · rename_i l i
    split at e
    · rename_i hc
      cases e
      cases b
      obtain ⟨p, vs, rfl, hp, x1⟩ := a
      have h62 := in62_ok hc.1
      refine ⟨p, i, vs, rfl, rfl, R.fh _ _ hp, by omega, by omega, by rw [← x1.len]; exact Nat.le_trans hc.2 (by decide), ?_⟩
      exact fin_frz (d := .lst (List.replicate i.toNat l).flatten) R rfl (fun w' p l2 e => ⟨p, _, rfl, e, RpL.mono l2 _ _ (x1.rep _)⟩) k
    · cases e
  · cases e
end
end Tp
namespace Tp
open PySem PySem.Spec PyProof.Rows L2
/-- xs * n as a cell -/
def mRepC (a b : ME) : ME := fun G h => match a G h with
  | none => none
  | some (x, h1) => match b G h1 with
    | none => none
    | some (y, h2) => (match x, y with
      | .lst l, .int k => if in62 k = true ∧ l.length * k.toNat ≤ 1000000 then some (.ref h2.length, h2 ++ [.lst (List.replicate k.toNat l).flatten]) else none
      | _, _ => none)
theorem je_repC {X : Cx} {T : List (Addr × Str)} {a b : Expr} {m n : ME} {pos : Pos} (ha : JE T X a m) (hb : JE T X b n) : JE T X (.BinOp a .Mult b pos) (mRepC m n) := by
  obtain ⟨ta, pa, sa⟩ := ha
  obtain ⟨tb, pb, sb⟩ := hb
  refine ⟨_, pe_op op_rep pa pb, fun w σ H G h d h' R E hm Q k => ?_⟩
  unfold mRepC at hm
  split at hm
  · cases hm
  · rename_i x h1 e1
    split at hm
    · cases hm
    · rename_i y h2 e2
      split at hm
      · rename_i l i
        split at hm
        · rename_i hc
          cases hm
          refine sa w σ H G h _ h1 R E e1 _ fun w1 v1 H1 l1 R1 x1 => ?_
          refine sb w1 σ H1 G h1 _ h2 R1 (E.mono l1) e2 _ fun w2 v2 H2 l2 R2 x2 => ?_
          cases x2
          obtain ⟨p, vs, rfl, hp, xx⟩ := Rp.mono l2 _ _ x1
          have h62 := in62_ok hc.1
          refine ⟨p, i, vs, rfl, rfl, R2.fh _ _ hp, by omega, by omega, by rw [← xx.len]; exact Nat.le_trans hc.2 (by decide), fun q hq => ?_⟩
          obtain ⟨l5, R5, z⟩ := R2.cel (c := .lst (List.replicate i.toNat l).flatten) hq ⟨_, rfl, xx.rep _⟩
          exact k _ _ _ ((l1.trans l2).trans l5) R5 ⟨q, rfl, z⟩
        · cases hm
      · cases hm
end Tp
set_option Elab.async false
set_option linter.all false
set_option maxRecDepth 100000
set_option maxHeartbeats 4000000
/-! dict displays; str(n); text.index(sign) -/
namespace Tp
open PySem PySem.Spec PyProof.Rows L2
def hidO (w : Wd) (P0 : Hp) (D : Addr) (o : HO) : Wd := ⟨w.F, upd P0 D o, w.A⟩
section
variable {K : PySem.W.Frag} {T : List (Addr × Str)} {w : Wd} {H : Hp} {h : List Cell}
theorem Rel.hidO_new (R : Rel K T w H h) {D : Addr} {vs : HO} (n : H D = none) (no : isTbl vs = false) : Rel K T (hidO w w.Pr D vs) (upd H D vs) h := by
  have nF := R.fh.none n
  refine ⟨R.fh.off nF, fun a o e => ?_, R.ft, fun a o e => ?_, fun a o e => ?_, R.nd, R.len, fun i c e => ?_, fun p hp => ?_, R.tb.ext fun b o e => ?_⟩
  · have e : upd w.Pr D vs a = some o := e
    by_cases q : a = D
    · subst q; rw [upd_same] at e ⊢; exact e
    · rw [upd_ne q] at e ⊢; exact R.ph a o e
  · have e : upd w.Pr D vs a = some o := e
    by_cases q : a = D
    · subst q; rw [upd_same] at e; cases e; first | exact no | exact no'
    · rw [upd_ne q] at e; exact R.pt a o e
  · have e : upd w.Pr D vs a = some o := e
    by_cases q : a = D
    · subst q; exact nF
    · rw [upd_ne q] at e; exact R.dj a o e
  · obtain ⟨p, o, h1, h2, h3⟩ := R.cell i c e
    refine ⟨p, o, h1, by rw [upd_ne (ne_of_none h2 n)]; exact h2, CRp.mono2 (w := w) (w' := hidO w w.Pr D vs) (fun _ _ z => z) (List.prefix_refl _) h3⟩
  · have hpD : p ≠ D := (R.addr_ne hp n).symm
    exact ⟨(R.free p hp).1, by show upd w.Pr D vs p = none; rw [upd_ne hpD]; exact (R.free p hp).2⟩
  · rw [upd_ne (ne_of_none e n)]; exact e
theorem Rel.hidO_put {P0 : Hp} {D : Addr} {vs us : HO} (R : Rel K T w H h) (hP : w.Pr = upd P0 D vs) (no : isTbl vs = false) (no' : isTbl us = false) : Rel K T (hidO w P0 D us) (upd H D us) h := by
  have hD : w.Pr D = some vs := by rw [hP, upd_same]
  have nF := R.dj D _ hD
  have hH := R.ph D _ hD
  have P1 : ∀ a, a ≠ D → upd P0 D us a = w.Pr a := fun a q => by rw [hP, upd_ne q, upd_ne q]
  refine ⟨R.fh.off nF, fun a o e => ?_, R.ft, fun a o e => ?_, fun a o e => ?_, R.nd, R.len, fun i c e => ?_, fun p hp => ?_, tabs_mut R.tb hH no⟩
  · have e : upd P0 D us a = some o := e
    by_cases q : a = D
    · subst q; rw [upd_same] at e ⊢; exact e
    · rw [P1 a q] at e; rw [upd_ne q]; exact R.ph a o e
  · have e : upd P0 D us a = some o := e
    by_cases q : a = D
    · subst q; rw [upd_same] at e; cases e; first | exact no | exact no'
    · rw [P1 a q] at e; exact R.pt a o e
  · have e : upd P0 D us a = some o := e
    by_cases q : a = D
    · subst q; exact nF
    · rw [P1 a q] at e; exact R.dj a o e
  · obtain ⟨p, o, h1, h2, h3⟩ := R.cell i c e
    have hp : p ∈ w.A := List.mem_of_getElem? h1
    have hpD : p ≠ D := fun z => by rw [z] at hp; rw [(R.free D hp).2] at hD; cases hD
    exact ⟨p, o, h1, by rw [upd_ne hpD]; exact h2, CRp.mono2 (w := w) (w' := hidO w P0 D us) (fun _ _ z => z) (List.prefix_refl _) h3⟩
  · have hpD : p ≠ D := fun z => by rw [z] at hp; rw [(R.free D hp).2] at hD; cases hD
    exact ⟨(R.free p hp).1, by show upd P0 D us p = none; rw [P1 p hpD]; exact (R.free p hp).2⟩
/-- the list is done: frozen -/
theorem Rel.hidO_frz {P0 : Hp} {D : Addr} {vs : HO} (R : Rel K T w H h) (hP : w.Pr = upd P0 D vs) (n0 : P0 D = none) (no : isTbl vs = false) : Rel K T ⟨upd w.F D vs, P0, w.A⟩ H h := by
  have hD : w.Pr D = some vs := by rw [hP, upd_same]
  have nF := R.dj D _ hD
  have hH := R.ph D _ hD
  have P1 : ∀ a, a ≠ D → P0 a = w.Pr a := fun a q => by rw [hP, upd_ne q]
  have hDA : D ∉ w.A := fun hp => by rw [(R.free D hp).2] at hD; cases hD
  refine ⟨fun a o e => ?_, fun a o e => ?_, fun a o e => ?_, fun a o e => ?_, fun a o e => ?_, R.nd, R.len, fun i c e => ?_, fun p hp => ?_, R.tb⟩
  · have e : upd w.F D vs a = some o := e
    by_cases q : a = D
    · subst q; rw [upd_same] at e; cases e; exact hH
    · rw [upd_ne q] at e; exact R.fh a o e
  · have q : a ≠ D := fun z => by rw [z] at e; rw [show P0 D = some o from e] at n0; cases n0
    exact R.ph a o (by rw [← P1 a q]; exact e)
  · have e : upd w.F D vs a = some o := e
    by_cases q : a = D
    · subst q; rw [upd_same] at e; cases e; first | exact no | exact no'
    · rw [upd_ne q] at e; exact R.ft a o e
  · have q : a ≠ D := fun z => by rw [z] at e; rw [show P0 D = some o from e] at n0; cases n0
    exact R.pt a o (by rw [← P1 a q]; exact e)
  · have q : a ≠ D := fun z => by rw [z] at e; rw [show P0 D = some o from e] at n0; cases n0
    show upd w.F D vs a = none
    rw [upd_ne q]; exact R.dj a o (by rw [← P1 a q]; exact e)
  · obtain ⟨p, o, h1, h2, h3⟩ := R.cell i c e
    exact ⟨p, o, h1, h2, CRp.mono2 (w := w) (w' := ⟨upd w.F D vs, P0, w.A⟩) (Ex.new nF) (List.prefix_refl _) h3⟩
  · have hp : p ∈ w.A := hp
    have hpD : p ≠ D := fun z => hDA (by rw [← z]; exact hp)
    refine ⟨?_, ?_⟩
    · show upd w.F D vs p = none
      rw [upd_ne hpD]; exact (R.free p hp).1
    · show P0 p = none
      rw [P1 p hpD]; exact (R.free p hp).2
end
def pairsD : List (ME × ME) → Env1 → List Cell → Option (List (Key × D) × List Cell)
  | [], _, h => some ([], h)
  | (a, b) :: r, G, h => match a G h with
    | none => none
    | some (x, h1) => match b G h1 with
      | none => none
      | some (y, h2) => match keyD x, pairsD r G h2 with
        | some k, some (l, h3) => some ((k, y) :: l, h3)
        | _, _ => none
def mergeD (l : List (Key × D)) (more : List (Key × D)) : List (Key × D) := more.foldl (fun acc kv => putD acc kv.1 kv.2) l
def mDisp (ps : List (ME × ME)) : ME := fun G h => match pairsD ps G h with
  | some (l, h1) => if l.length ≤ 15 then some (.dic (mergeD [] l), h1) else none
  | none => none
section
variable {X : Cx} {K : PySem.W.Frag} {T : List (Addr × Str)} {w : Wd}
def SPs (K : PySem.W.Frag) (T : List (Addr × Str)) (trs : List (TE × TE)) (ms : List (ME × ME)) : Prop := ∀ (w : Wd) (σ : Slots) (H : Hp) (G : Env1) (h : List Cell) (l : List (Key × D)) (h' : List Cell), Rel K T w H h → EnvR K w σ G → pairsD ms G h = some (l, h') →
  ∀ Q : List (V × V) → Hp → Prop, (∀ w' H' kvs, w.le w' → Rel K T w' H' h' → RpK K w' l kvs → Q (kvs.map fun kv => (kV kv.1, kv.2)) H') → tPairs trs σ H Q
def JPs (T : List (Addr × Str)) (X : Cx) (pos : Pos) (ks : List (Option Expr)) (vs : List Expr) (ms : List (ME × ME)) : Prop := ∃ trs, PPs X pos ks vs trs ∧ SPs X.K T trs ms
theorem jps_nil {pos : Pos} : JPs T X pos [] [] [] := ⟨[], pps_nil, fun w σ H G h l h' R E e Q k => by cases e; exact k w H [] (Wd.le.refl w) R rfl⟩
theorem jps_cons {pos : Pos} {k v : Expr} {ks : List (Option Expr)} {vs : List Expr} {a b : ME} {ms : List (ME × ME)} (hk : JE T X k a) (hv : JE T X v b) (hr : JPs T X pos ks vs ms) : JPs T X pos (some k :: ks) (v :: vs) ((a, b) :: ms) := by
  obtain ⟨t1, p1, s1⟩ := hk
  obtain ⟨t2, p2, s2⟩ := hv
  obtain ⟨trs, p3, s3⟩ := hr
  refine ⟨_, pps_cons p1 p2 p3, fun w σ H G h l h' R E e Q k => ?_⟩
  unfold pairsD at e
  split at e
  · cases e
  · rename_i x h1 e1
    split at e
    · cases e
    · rename_i y h2 e2
      split at e
      · rename_i kk l' h3 e3 e4
        cases e
        refine s1 w σ H G h x h1 R E e1 _ fun w1 v1 H1 l1 R1 x1 => ?_
        refine s2 w1 σ H1 G h1 y h2 R1 (E.mono l1) e2 _ fun w2 v2 H2 l2 R2 x2 => ?_
        refine s3 w2 σ H2 G h2 l' _ R2 (E.mono (l1.trans l2)) e4 _ fun w3 H3 kvs l3 R3 x3 => ?_
        have ek : v1 = kV kk := keyD_rp x1 e3
        subst ek
        exact k w3 H3 ((kk, v2) :: kvs) ((l1.trans l2).trans l3) R3 ⟨v2, kvs, rfl, Rp.mono l3 _ _ x2, x3⟩
      · cases e
theorem merge_rp : ∀ {more : List (Key × D)} {mv : List (Key × V)} {l : List (Key × D)} {lv : List (Key × V)}, RpK K w more mv → RpK K w l lv → RpK K w (mergeD l more) (mergeK lv mv)
  | [], mv, l, lv, r, r2 => by
    have e : mv = [] := r
    subst e; exact r2
  | (k, d) :: more, mv, l, lv, r, r2 => by
    obtain ⟨v, vr, rfl, r1, r3⟩ := r
    have h := merge_rp (more := more) r3 (putD_rp k r2 r1)
    exact h
theorem je_disp {pos : Pos} {ks : List (Option Expr)} {vs : List Expr} {ms : List (ME × ME)} (j : JPs T X pos ks vs ms) (hall : ks.all (·.isSome) = true := by rfl) (hl : ks.length = vs.length := by rfl) (h0 : ks ≠ [] := by simp) (h15 : ks.length ≤ 15 := by decide) : JE T X (.Dict ks vs pos) (mDisp ms) := by
  obtain ⟨trs, p, s⟩ := j
  refine ⟨_, pe_disp p hall hl h0 h15, fun w σ H G h d h' R E e Q k => ?_⟩
  unfold mDisp at e
  split at e
  · rename_i l h1 e1
    split at e
    · rename_i hz
      cases e
      intro p hp
      have R1 := R.hidO_new (vs := .dK []) hp rfl
      have n0 : w.Pr p = none := R.ph.none hp
      refine s (hidO w w.Pr p (.dK [])) σ _ G h l _ R1 (EnvR.mono2 (w := w) (w' := hidO w w.Pr p (.dK [])) (Ex.refl _) (List.prefix_refl _) E) e1 _ fun w2 H2 kvs l2 R2 x2 => ?_
      have hP : w2.Pr = upd w.Pr p (.dK []) := l2.p
      refine ⟨R2.ph p _ (by rw [hP, upd_same]), kvs, rfl, by rw [← RpK.len x2]; exact hz, ?_⟩
      have R3 := R2.hidO_put (us := .dK (mergeK [] kvs)) hP rfl rfl
      have R4 := R3.hidO_frz (vs := .dK (mergeK [] kvs)) rfl n0 rfl
      have nF : w2.F p = none := R2.dj p _ (by rw [hP, upd_same])
      refine k ⟨upd w2.F p (.dK (mergeK [] kvs)), w.Pr, w2.A⟩ _ _ ⟨fun b o z => Ex.new nF b o (l2.f b o z), rfl, l2.a⟩ R4 ⟨p, _, rfl, upd_same, ?_⟩
      exact RpK.mono2 (w := w2) (w' := ⟨upd w2.F p (.dK (mergeK [] kvs)), w.Pr, w2.A⟩) (Ex.new nF) (List.prefix_refl _) _ _ (merge_rp x2 rfl)
    · cases e
  · cases e
/-! str(n) -/
def fStr : FD := fun h xs => match xs with
  | [.int i] => if i.natAbs.log2 < 1920 then some (.str (toString i), h) else none
  | _ => none
theorem s_str : SC K T (fun xs H Q => ∃ i, xs = [.int i] ∧ i.natAbs.log2 < 1920 ∧ Q (.str (toString i)) H) fStr := fun w H h xs vs d h' R r e Q k => by
  unfold fStr at e
  split at e
  · rename_i i
    obtain ⟨v, r', rfl, a, rfl⟩ := r
    cases a
    split at e
    · rename_i hz
      cases e
      exact ⟨i, rfl, hz, k w _ H (Wd.le.refl w) R rfl⟩
    · cases e
  · cases e
/-! text.index(sign), the sign is there -/
def rIdx : V → List V → Hp → VK → Prop := fun x xs H Q => ∃ (a b : Str) (k : Nat), x = .str a ∧ xs = [.str b] ∧ Txt.index0 a b = some k ∧ Q (.int (k : Nat)) H
theorem mt_idx : MtR X "str.index" rIdx := by
  intro pins s σ H x xs v us Q I rx rs h
  obtain ⟨a, b, k, rfl, rfl, hy, w⟩ := h
  obtain ⟨t, rfl⟩ := rx
  cases rs with
  | cons r1 rs =>
    cases rs
    obtain ⟨u, rfl⟩ := r1
    cases q : Builtin.Str.occurrences a b 0 a.length 1 with
    | nil =>
      unfold Txt.index0 at hy
      rw [q] at hy; cases hy
    | cons k' rest =>
      unfold Txt.index0 at hy
      rw [q] at hy
      cases hy
      exact PySem.SC.index q ⟨.int (k : Nat), H, I.tok _, ⟨_, rfl⟩, w⟩
def fIdx : FM := fun h x xs => match x, xs with
  | .str a, [.str b] => (match Txt.index0 a b with
    | some k => some (.int (k : Nat), h)
    | none => none)
  | _, _ => none
theorem s_idx : SM K T rIdx fIdx := fun w H h x xs v vs d h' R a b e Q k => by
  unfold fIdx at e
  split at e
  · rename_i s1 s2
    split at e
    · rename_i kk q
      cases e
      cases a
      obtain ⟨u, r, rfl, xu, rfl⟩ := b
      cases xu
      exact ⟨s1, s2, kk, rfl, rfl, q, k w _ H (Wd.le.refl w) R rfl⟩
    · cases e
  · cases e
theorem je_idx {m : ME} {l : MA} {o e : Expr} {apos cpos : Pos} (ho : JE T X o m) (ha : JA T X [e] l) (hx : ∀ to tt, PE X o to → PA X [e] tt → PE X (.Call (.Attribute o "index" apos) [e] [] cpos) (tBM X.K "str" rIdx to tt) := by
    exact fun to tt a b => pe_bm PySem.F.plainAttrs_str PySem.F.slot_str_index PySem.F.type_str_index mt_idx a b) : JE T X (.Call (.Attribute o "index" apos) [e] [] cpos) (mMe .str fIdx m l) :=
  je_me (t := .str) PySem.F.plainAttrs_str PySem.F.slot_str_index PySem.F.type_str_index mt_idx s_idx ho ha hx
end
end Tp
set_option Elab.async false
set_option linter.all false
set_option maxRecDepth 100000
set_option maxHeartbeats 0
namespace Hk01
open PySem PySem.Spec PyProof.Rows L2
def top (i : Nat) : Stmt := PySem.Challenge.pw_unsaybook_k01_names_and_numbers.main.body.getD i (.Pass ⟨0, 0, 0, 0⟩)
abbrev s_is_whole : Stmt := top 3
abbrev s_is_name : Stmt := top 4
abbrev s_plain_figures : Stmt := top 5
abbrev s_number_of : Stmt := top 6
abbrev s_law_cell : Stmt := top 8
abbrev s_law_mixed : Stmt := top 9
abbrev s_law_text : Stmt := top 10
abbrev s_law_written : Stmt := top 11
abbrev s_law_read : Stmt := top 12
abbrev s_law_same : Stmt := top 13
abbrev s_law_names_right : Stmt := top 14
abbrev s_law : Stmt := top 15
def d_is_whole : He.DefD := ⟨("is_whole", none), "is_whole", "is_whole", defArgs s_is_whole, defBody s_is_whole, defScope s_is_whole, [], []⟩
def d_is_name : He.DefD := ⟨("is_name", none), "is_name", "is_name", defArgs s_is_name, defBody s_is_name, defScope s_is_name, [], []⟩
def d_plain_figures : He.DefD := ⟨("plain_figures", none), "plain_figures", "plain_figures", defArgs s_plain_figures, defBody s_plain_figures, defScope s_plain_figures, [], []⟩
def d_number_of : He.DefD := ⟨("number_of", none), "number_of", "number_of", defArgs s_number_of, defBody s_number_of, defScope s_number_of, [], []⟩
def d_law_cell : He.DefD := ⟨("_law_cell", none), "_law_cell", "_law_cell", defArgs s_law_cell, defBody s_law_cell, defScope s_law_cell, [], []⟩
def d_law_mixed : He.DefD := ⟨("_law_mixed", none), "_law_mixed", "_law_mixed", defArgs s_law_mixed, defBody s_law_mixed, defScope s_law_mixed, [], []⟩
def d_law_text : He.DefD := ⟨("_law_text", none), "_law_text", "_law_text", defArgs s_law_text, defBody s_law_text, defScope s_law_text, [], []⟩
def d_law_written : He.DefD := ⟨("_law_written", none), "_law_written", "_law_written", defArgs s_law_written, defBody s_law_written, defScope s_law_written, [], []⟩
def d_law_read : He.DefD := ⟨("_law_read", none), "_law_read", "_law_read", defArgs s_law_read, defBody s_law_read, defScope s_law_read, [], []⟩
def d_law_same : He.DefD := ⟨("_law_same", none), "_law_same", "_law_same", defArgs s_law_same, defBody s_law_same, defScope s_law_same, [], []⟩
def d_law_names_right : He.DefD := ⟨("_law_names_right", none), "_law_names_right", "_law_names_right", defArgs s_law_names_right, defBody s_law_names_right, defScope s_law_names_right, [], []⟩
def d_law : He.DefD := ⟨("law", none), "law", "law", defArgs s_law, defBody s_law, defScope s_law, [], []⟩
def fn : List He.DefD := ([d_is_whole, d_is_name, d_plain_figures, d_number_of, d_law_cell, d_law_mixed, d_law_text, d_law_written, d_law_read, d_law_same, d_law_names_right, d_law] : List He.DefD)
def fa : List He.Fa := ([.glo "is_whole", .glo "is_name", .glo "plain_figures", .glo "number_of", .glo "_law_cell", .glo "_law_mixed", .glo "_law_text", .glo "_law_written", .glo "_law_read", .glo "_law_same", .glo "_law_names_right", .glo "law", .str "LETTERS" "abcdefghijklmnopqrstuvwxyz", .str "FIGURES" "0123456789", .free "all", .free "bool", .free "int", .free "isinstance", .free "len", .free "max", .free "min", .free "range", .free "str"] : List He.Fa)
def names : List PySem.Str := (["LETTERS", "FIGURES", "is_whole", "is_name", "plain_figures", "number_of", "_law_cell", "_law_mixed", "_law_text", "_law_written", "_law_read", "_law_same", "_law_names_right"] : List PySem.Str)
abbrev R : PySem.W.OpenRow := PySem.W.OpenLaw.row PySem.Challenge.rw_unsaybook_k01_names_and_numbers
abbrev hk : PySem.W.Hook := He.hookD 6 fa fn
def ob (s : PySem.W.SharedT) : He.AlD := He.obsDG 6 fa fn (HandSHeadRun.getT s)
theorem ob_eq (s : PySem.W.SharedT) : ob s = hk.obs s.abs := He.obsDG_eq (HandSHeadRun.getT_eq s)
theorem run (w : World) : HandSHeadRun.RunEq R (PySem.W.view R.prog [15]) hk ob 30000 names w := by
  intro os
  kernel_rfl
end Hk01
set_option Elab.async false
set_option linter.all false
set_option maxRecDepth 100000
set_option maxHeartbeats 0
namespace Hk01
open PySem PySem.Spec PyProof.Rows L2 Tp
section
variable {P : Program} {ww : World} {K : PySem.W.Frag} {mg : Str → Option Value} {base h0 : Heap} {T : List (Addr × Str)}
theorem z_all (c : He.SaysD fa fn K) (X0 : K.In h0) (G0 : h0.Ns mainGlobals mg) : mg "all" = none := He.free_ok X0 G0 (c.fact 14 (f := .free "all") rfl)
theorem z_bool (c : He.SaysD fa fn K) (X0 : K.In h0) (G0 : h0.Ns mainGlobals mg) : mg "bool" = none := He.free_ok X0 G0 (c.fact 15 (f := .free "bool") rfl)
theorem z_int (c : He.SaysD fa fn K) (X0 : K.In h0) (G0 : h0.Ns mainGlobals mg) : mg "int" = none := He.free_ok X0 G0 (c.fact 16 (f := .free "int") rfl)
theorem z_isinstance (c : He.SaysD fa fn K) (X0 : K.In h0) (G0 : h0.Ns mainGlobals mg) : mg "isinstance" = none := He.free_ok X0 G0 (c.fact 17 (f := .free "isinstance") rfl)
theorem z_len (c : He.SaysD fa fn K) (X0 : K.In h0) (G0 : h0.Ns mainGlobals mg) : mg "len" = none := He.free_ok X0 G0 (c.fact 18 (f := .free "len") rfl)
theorem z_max (c : He.SaysD fa fn K) (X0 : K.In h0) (G0 : h0.Ns mainGlobals mg) : mg "max" = none := He.free_ok X0 G0 (c.fact 19 (f := .free "max") rfl)
theorem z_min (c : He.SaysD fa fn K) (X0 : K.In h0) (G0 : h0.Ns mainGlobals mg) : mg "min" = none := He.free_ok X0 G0 (c.fact 20 (f := .free "min") rfl)
theorem z_range (c : He.SaysD fa fn K) (X0 : K.In h0) (G0 : h0.Ns mainGlobals mg) : mg "range" = none := He.free_ok X0 G0 (c.fact 21 (f := .free "range") rfl)
theorem z_str (c : He.SaysD fa fn K) (X0 : K.In h0) (G0 : h0.Ns mainGlobals mg) : mg "str" = none := He.free_ok X0 G0 (c.fact 22 (f := .free "str") rfl)
theorem q_LETTERS (c : He.SaysD fa fn K) (X0 : K.In h0) (G0 : h0.Ns mainGlobals mg) : ∃ t, mg "LETTERS" = some (.str "abcdefghijklmnopqrstuvwxyz" t) := He.str_ok X0 G0 (c.fact 12 (f := .str "LETTERS" "abcdefghijklmnopqrstuvwxyz") rfl)
theorem q_FIGURES (c : He.SaysD fa fn K) (X0 : K.In h0) (G0 : h0.Ns mainGlobals mg) : ∃ t, mg "FIGURES" = some (.str "0123456789" t) := He.str_ok X0 G0 (c.fact 13 (f := .str "FIGURES" "0123456789") rfl)
def m_is_whole : MS := mRet ((mAndV (mB fIsi (mCons (mV 0) (mCons (mC (.ty "int")) (mNil)))) (mAndV (mNotV (mB fIsi (mCons (mV 0) (mCons (mC (.ty "bool")) (mNil))))) (mChain fLe fLe (mV 1) (mV 0) (mV 2)))))
def R_is_whole : FD := runB 3 3 m_is_whole
def F_is_whole : FD := pureF R_is_whole
def N_is_whole : FD := freshF R_is_whole
theorem sc_is_whole : FnScope ["thing", "low", "high"] ["thing", "low", "high"] (defScope s_is_whole) := ⟨rfl, rfl, rfl, by decide +kernel, rfl, by decide +kernel, by decide +kernel⟩
theorem ok_is_whole (c : He.SaysD fa fn K) (X0 : K.In h0) (G0 : h0.Ns mainGlobals mg) : Dok P ww K mg base T 1 "is_whole" ["thing", "low", "high"] R_is_whole := by
  refine Dok.mk (N := ["thing", "low", "high"]) (ps := ["thing", "low", "high"]) (m := m_is_whole) (c.def_ 0 (d := d_is_whole) rfl) sc_is_whole (He.glo_ok X0 G0 (c.fact 0 (f := .glo "is_whole") rfl)) (fun _ _ _ _ _ _ us hl => match us, hl with | [_, _, _], _ => rfl) (fun cdv A outer s H E hr => ?_)
  exact (jss_one (js_ret (je_and (je_callB call_isi s_isi (by rfl) (z_isinstance c X0 G0) (by decide +kernel) (ja_cons (je_var 0) (ja_cons (je_ty (by rfl) (z_int c X0 G0) (by decide +kernel)) ja_nil))) (je_and (je_not (je_callB call_isi s_isi (by rfl) (z_isinstance c X0 G0) (by decide +kernel) (ja_cons (je_var 0) (ja_cons (je_ty (by rfl) (z_bool c X0 G0) (by decide +kernel)) ja_nil)))) (je_one (je_chain op_leU s_le op_leU s_le (je_var 1) (je_var 0) (je_var 2) (fun _ _ _ a b c => pe_chain op_leU op_leU a b c)))))))
def m_is_name : MS := mSeq (mIfS ((mOr (mNot (mTest (mB fIsi (mCons (mV 0) (mCons (mC (.ty "str")) (mNil)))))) (mOr (mTest (mO2 fEq (mB fLen (mCons (mV 0) (mNil))) (mC (.int 0)))) (mTest (mO2 fGt (mB fLen (mCons (mV 0) (mNil))) (mC (.int 8))))))) (mRet (mC (.bl false))) (mNext)) (mRet (mB fAll (mCons (mLc (iStrM (mV 0)) (gN 1) (mYes) (mO2 fSign (mV 1) (mC (.str "abcdefghijklmnopqrstuvwxyz"))) [1]) (mNil))))
def R_is_name : FD := runB 1 2 m_is_name
def F_is_name : FD := pureF R_is_name
def N_is_name : FD := freshF R_is_name
theorem sc_is_name : FnScope ["thing", "sign"] ["thing"] (defScope s_is_name) := ⟨rfl, rfl, rfl, by decide +kernel, rfl, by decide +kernel, by decide +kernel⟩
theorem ok_is_name (c : He.SaysD fa fn K) (X0 : K.In h0) (G0 : h0.Ns mainGlobals mg) : Dok P ww K mg base T 1 "is_name" ["thing"] R_is_name := by
  refine Dok.mk (N := ["thing", "sign"]) (ps := ["thing"]) (m := m_is_name) (c.def_ 1 (d := d_is_name) rfl) sc_is_name (He.glo_ok X0 G0 (c.fact 1 (f := .glo "is_name") rfl)) (fun _ _ _ _ _ _ us hl => match us, hl with | [_], _ => rfl) (fun cdv A outer s H E hr => ?_)
  exact (jss_cons (js_if (JW.t (jw_or (jt_not (jt_val (je_callB call_isi s_isi (by rfl) (z_isinstance c X0 G0) (by decide +kernel) (ja_cons (je_var 0) (ja_cons (je_ty (by rfl) (z_str c X0 G0) (by decide +kernel)) ja_nil))))) (jw_or (jt_cmp (op_eqU hr.units) s_eq (je_callB call_len s_len (by rfl) (z_len c X0 G0) (by decide +kernel) (ja_cons (je_var 0) ja_nil)) je_int (nomark _)) (jw_or1 (jt_cmp op_gt s_gt (je_callB call_len s_len (by rfl) (z_len c X0 G0) (by decide +kernel) (ja_cons (je_var 0) ja_nil)) je_int (nomark _)))))) (jss_one (js_ret je_bl)) jss_nil)
      (jss_one (js_ret (je_callB (cr_all rfl) s_all (by rfl) (z_all c X0 G0) (by decide +kernel) (ja_cons (je_lc rfl sc_is_name.nd (ji_str (je_var 0)) (blkOk_by (N := ["thing", "sign"]) (sc := defScope s_is_name) (own := [("sign", 1)]) (by decide +kernel)) (fun _ _ _ _ _ => jgw_name sc_is_name.nd rfl (.inl rfl) (.inr rfl) (by decide)) (fun _ _ _ _ _ => jts_nil) (fun _ _ _ _ _ => (je_cmp op_in_sign s_sign (je_var 1) (je_gstr (by rfl) (q_LETTERS c X0 G0)) (by rfl)))) ja_nil)))))
def m_plain_figures : MS := mSeq (mIfS ((mOr (mTest (mO2 fEq (mB fLen (mCons (mV 0) (mNil))) (mC (.int 0)))) (mTest (mO2 fGt (mB fLen (mCons (mV 0) (mNil))) (mC (.int 12)))))) (mRet (mC (.bl false))) (mNext)) (mSeq (mIfS ((mAnd (mTest (mO2 fEq (mO2 fIx (mV 0) (mC (.int 0))) (mC (.str "0")))) (mTest (mO2 fGt (mB fLen (mCons (mV 0) (mNil))) (mC (.int 1)))))) (mRet (mC (.bl false))) (mNext)) (mRet (mB fAll (mCons (mLc (iStrM (mV 0)) (gN 1) (mYes) (mO2 fSign (mV 1) (mC (.str "0123456789"))) [1]) (mNil)))))
def R_plain_figures : FD := runB 1 2 m_plain_figures
def F_plain_figures : FD := pureF R_plain_figures
def N_plain_figures : FD := freshF R_plain_figures
theorem sc_plain_figures : FnScope ["text", "sign"] ["text"] (defScope s_plain_figures) := ⟨rfl, rfl, rfl, by decide +kernel, rfl, by decide +kernel, by decide +kernel⟩
theorem ok_plain_figures (c : He.SaysD fa fn K) (X0 : K.In h0) (G0 : h0.Ns mainGlobals mg) : Dok P ww K mg base T 1 "plain_figures" ["text"] R_plain_figures := by
  refine Dok.mk (N := ["text", "sign"]) (ps := ["text"]) (m := m_plain_figures) (c.def_ 2 (d := d_plain_figures) rfl) sc_plain_figures (He.glo_ok X0 G0 (c.fact 2 (f := .glo "plain_figures") rfl)) (fun _ _ _ _ _ _ us hl => match us, hl with | [_], _ => rfl) (fun cdv A outer s H E hr => ?_)
  exact (jss_cons (js_if (JW.t (jw_or (jt_cmp (op_eqU hr.units) s_eq (je_callB call_len s_len (by rfl) (z_len c X0 G0) (by decide +kernel) (ja_cons (je_var 0) ja_nil)) je_int (nomark _)) (jw_or1 (jt_cmp op_gt s_gt (je_callB call_len s_len (by rfl) (z_len c X0 G0) (by decide +kernel) (ja_cons (je_var 0) ja_nil)) je_int (nomark _))))) (jss_one (js_ret je_bl)) jss_nil)
      (jss_cons (js_if (JW.t (jw_and (jt_cmp (op_eqU hr.units) s_eq (je_ix (je_var 0) je_int) je_str (nomark _)) (jw_and1 (jt_cmp op_gt s_gt (je_callB call_len s_len (by rfl) (z_len c X0 G0) (by decide +kernel) (ja_cons (je_var 0) ja_nil)) je_int (nomark _))))) (jss_one (js_ret je_bl)) jss_nil)
      (jss_one (js_ret (je_callB (cr_all rfl) s_all (by rfl) (z_all c X0 G0) (by decide +kernel) (ja_cons (je_lc rfl sc_plain_figures.nd (ji_str (je_var 0)) (blkOk_by (N := ["text", "sign"]) (sc := defScope s_plain_figures) (own := [("sign", 1)]) (by decide +kernel)) (fun _ _ _ _ _ => jgw_name sc_plain_figures.nd rfl (.inl rfl) (.inr rfl) (by decide)) (fun _ _ _ _ _ => jts_nil) (fun _ _ _ _ _ => (je_cmp op_in_sign s_sign (je_var 1) (je_gstr (by rfl) (q_FIGURES c X0 G0)) (by rfl)))) ja_nil))))))
def m_number_of : MS := mSeq (mAsg (mC .non) (gN 3)) (mSeq (mIfS (mTest (mB F_plain_figures (mCons (mV 0) (mNil)))) (mAsg (mB fInt (mCons (mV 0) (mNil))) (gN 3)) (mIfS ((mAnd (mTest (mO2 fEq (mSl (mV 0) oNone (oSome (mC (.int 1)))) (mC (.str "-")))) (mAnd (mTest (mO2 fNe (mV 0) (mC (.str "-0")))) (mTest (mB F_plain_figures (mCons (mSl (mV 0) (oSome (mC (.int 1))) oNone) (mNil))))))) (mAsg (mO2 fSub (mC (.int 0)) (mB fInt (mCons (mSl (mV 0) (oSome (mC (.int 1))) oNone) (mNil)))) (gN 3)) (mNext))) (mSeq (mIfS ((mOr (mTest (mO2 fIsN (mV 3) (mC .non))) (mNot (mTest (mChain fLe fLe (mV 1) (mV 3) (mV 2)))))) (mRet (mC .non)) (mNext)) (mRet (mV 3))))
def R_number_of : FD := runB 3 4 m_number_of
def F_number_of : FD := pureF R_number_of
def N_number_of : FD := freshF R_number_of
theorem sc_number_of : FnScope ["text", "low", "high", "number"] ["text", "low", "high"] (defScope s_number_of) := ⟨rfl, rfl, rfl, by decide +kernel, rfl, by decide +kernel, by decide +kernel⟩
theorem ok_number_of (c : He.SaysD fa fn K) (X0 : K.In h0) (G0 : h0.Ns mainGlobals mg) : Dok P ww K mg base T 2 "number_of" ["text", "low", "high"] R_number_of := by
  refine Dok.mk (N := ["text", "low", "high", "number"]) (ps := ["text", "low", "high"]) (m := m_number_of) (c.def_ 3 (d := d_number_of) rfl) sc_number_of (He.glo_ok X0 G0 (c.fact 3 (f := .glo "number_of") rfl)) (fun _ _ _ _ _ _ us hl => match us, hl with | [_, _, _], _ => rfl) (fun cdv A outer s H E hr => ?_)
  exact (jss_cons (js_set (i := 3) sc_number_of.nd rfl (.inl rfl) je_non)
      (jss_cons (js_if (jt_val (je_callD (ok_plain_figures c X0 G0).pur (hr.mono (by decide)) (ja_cons (je_var 0) ja_nil))) (jss_one (js_set (i := 3) sc_number_of.nd rfl (.inl rfl) (je_callTy call_intU s_int (by rfl) (z_int c X0 G0) (by decide +kernel) (ja_cons (je_var 0) ja_nil)))) (jss_one (js_if (JW.t (jw_and (jt_cmp (op_eqU hr.units) s_eq (je_sl (je_var 0) jo_none (jo_some je_int)) je_str (nomark _)) (jw_and (jt_cmp (op_neU hr.units) s_ne (je_var 0) je_str (nomark _)) (jw_and1 (jt_val (je_callD (ok_plain_figures c X0 G0).pur (hr.mono (by decide)) (ja_cons (je_sl (je_var 0) (jo_some je_int) jo_none) ja_nil))))))) (jss_one (js_set (i := 3) sc_number_of.nd rfl (.inl rfl) (je_op op_sub s_sub je_int (je_callTy call_intU s_int (by rfl) (z_int c X0 G0) (by decide +kernel) (ja_cons (je_sl (je_var 0) (jo_some je_int) jo_none) ja_nil))))) jss_nil)))
      (jss_cons (js_if (JW.t (jw_or (jt_cmp op_isN' s_isN (je_var 3) je_non (nomark _)) (jw_or1 (jt_not (jt_chain op_leU s_le op_leU s_le (je_var 1) (je_var 3) (je_var 2) (fun _ _ _ a b c => pt_chain op_leU op_leU a b c)))))) (jss_one (js_ret je_non)) jss_nil)
      (jss_one (js_ret (je_var 3))))))
def m_law_cell : MS := mSeq (mIfS (mTest (mO2 fLt (mV 1) (mB fLen (mCons (mV 0) (mNil))))) (mRet (mO2 fIx (mV 0) (mV 1))) (mNext)) (mRet (mO2 fAdd (mO2 fMul (mC (.int 7919)) (mV 1)) (mC (.int 14))))
def R_law_cell : FD := runB 2 2 m_law_cell
def F_law_cell : FD := pureF R_law_cell
def N_law_cell : FD := freshF R_law_cell
theorem sc_law_cell : FnScope ["_law_script", "_law_k"] ["_law_script", "_law_k"] (defScope s_law_cell) := ⟨rfl, rfl, rfl, by decide +kernel, rfl, by decide +kernel, by decide +kernel⟩
theorem ok_law_cell (c : He.SaysD fa fn K) (X0 : K.In h0) (G0 : h0.Ns mainGlobals mg) : Dok P ww K mg base T 1 "_law_cell" ["_law_script", "_law_k"] R_law_cell := by
  refine Dok.mk (N := ["_law_script", "_law_k"]) (ps := ["_law_script", "_law_k"]) (m := m_law_cell) (c.def_ 4 (d := d_law_cell) rfl) sc_law_cell (He.glo_ok X0 G0 (c.fact 4 (f := .glo "_law_cell") rfl)) (fun _ _ _ _ _ _ us hl => match us, hl with | [_, _], _ => rfl) (fun cdv A outer s H E hr => ?_)
  exact (jss_cons (js_if (jt_cmp op_ltU s_lt (je_var 1) (je_callB call_len s_len (by rfl) (z_len c X0 G0) (by decide +kernel) (ja_cons (je_var 0) ja_nil)) (nomark _)) (jss_one (js_ret (je_ix (je_var 0) (je_var 1)))) jss_nil)
      (jss_one (js_ret (je_op op_addU s_add (je_op op_mul s_mul je_int (je_var 1)) je_int))))
def m_law_mixed : MS := mSeq (mIfS ((mAnd (mTest (mO2 fGe (mV 0) (mO2 fPow (mC (.int 10)) (mC (.int 18))))) (mTest (mO2 fGt (mO2 fShr (mV 0) (mO2 fMul (mC (.int 40)) (mV 1))) (mC (.int 0)))))) (mRet (mO2 fMod (mO2 fShr (mV 0) (mO2 fMul (mC (.int 40)) (mV 1))) (mO2 fPow (mC (.int 2)) (mC (.int 40))))) (mNext)) (mSeq (mAsg (mO2 fMod (mO2 fAdd (mV 0) (mO2 fMul (mC (.int 7919)) (mV 1))) (mC (.int 2147483647))) (gN 2)) (mSeq (mAsg (mO2 fMod (mO2 fAdd (mO2 fMul (mV 2) (mC (.int 48271))) (mV 1)) (mC (.int 2147483647))) (gN 2)) (mSeq (mAsg (mO2 fMod (mO2 fMul (mV 2) (mO2 fAdd (mV 2) (mC (.int 7)))) (mC (.int 2147483629))) (gN 2)) (mRet (mO2 fMod (mO2 fMul (mV 2) (mO2 fAdd (mV 2) (mC (.int 3)))) (mC (.int 2147483587)))))))
def R_law_mixed : FD := runB 2 3 m_law_mixed
def F_law_mixed : FD := pureF R_law_mixed
def N_law_mixed : FD := freshF R_law_mixed
theorem sc_law_mixed : FnScope ["_law_cell_here", "_law_k", "_law_number"] ["_law_cell_here", "_law_k"] (defScope s_law_mixed) := ⟨rfl, rfl, rfl, by decide +kernel, rfl, by decide +kernel, by decide +kernel⟩
theorem ok_law_mixed (c : He.SaysD fa fn K) (X0 : K.In h0) (G0 : h0.Ns mainGlobals mg) : Dok P ww K mg base T 1 "_law_mixed" ["_law_cell_here", "_law_k"] R_law_mixed := by
  refine Dok.mk (N := ["_law_cell_here", "_law_k", "_law_number"]) (ps := ["_law_cell_here", "_law_k"]) (m := m_law_mixed) (c.def_ 5 (d := d_law_mixed) rfl) sc_law_mixed (He.glo_ok X0 G0 (c.fact 5 (f := .glo "_law_mixed") rfl)) (fun _ _ _ _ _ _ us hl => match us, hl with | [_, _], _ => rfl) (fun cdv A outer s H E hr => ?_)
  exact (jss_cons (js_if (JW.t (jw_and (jt_cmp op_ge s_ge (je_var 0) (je_op op_pow s_pow je_int je_int) (nomark _)) (jw_and1 (jt_cmp op_gt s_gt (je_op op_shr s_shr (je_var 0) (je_op op_mul s_mul je_int (je_var 1))) je_int (nomark _))))) (jss_one (js_ret (je_op op_mod s_mod (je_op op_shr s_shr (je_var 0) (je_op op_mul s_mul je_int (je_var 1))) (je_op op_pow s_pow je_int je_int)))) jss_nil)
      (jss_cons (js_set (i := 2) sc_law_mixed.nd rfl (.inl rfl) (je_op op_mod s_mod (je_op op_addU s_add (je_var 0) (je_op op_mul s_mul je_int (je_var 1))) je_int))
      (jss_cons (js_set (i := 2) sc_law_mixed.nd rfl (.inl rfl) (je_op op_mod s_mod (je_op op_addU s_add (je_op op_mul s_mul (je_var 2) je_int) (je_var 1)) je_int))
      (jss_cons (js_set (i := 2) sc_law_mixed.nd rfl (.inl rfl) (je_op op_mod s_mod (je_op op_mul s_mul (je_var 2) (je_op op_addU s_add (je_var 2) je_int)) je_int))
      (jss_one (js_ret (je_op op_mod s_mod (je_op op_mul s_mul (je_var 2) (je_op op_addU s_add (je_var 2) je_int)) je_int)))))))
def m_law_text : MS := mSeq (mAsg (mC (.str " !#$&'()*+,-./0123456789:;<=>?@ABCXYZ[]^_{|}~")) (gN 1)) (mSeq (mAsg (mC (.str "")) (gN 2)) (mSeq (mAsg (mO2 fMod (mB F_law_mixed (mCons (mV 0) (mCons (mC (.int 1)) (mNil)))) (mC (.int 3))) (gN 3)) (mSeq (mForR1 (mCons (mO2 fMod (mB F_law_mixed (mCons (mV 0) (mCons (mC (.int 0)) (mNil)))) (mC (.int 10))) (mNil)) (gN 4) (mSeq (mAsg (mB F_law_mixed (mCons (mV 0) (mCons (mO2 fAdd (mC (.int 2)) (mV 4)) (mNil)))) (gN 5)) (mIfS ((mAnd (mTest (mO2 fEq (mV 3) (mC (.int 0)))) (mTest (mO2 fEq (mO2 fMod (mV 5) (mC (.int 4))) (mC (.int 0)))))) (mAsg (mO2 fAdd (mV 2) (mO2 fIx (mV 1) (mO2 fMod (mO2 fFdiv (mV 5) (mC (.int 4))) (mB fLen (mCons (mV 1) (mNil)))))) (gN 2)) (mAsg (mO2 fAdd (mV 2) (mO2 fIx (mC (.str "abcdefghijklmnopqrstuvwxyz")) (mO2 fMod (mO2 fFdiv (mV 5) (mC (.int 4))) (mC (.int 26))))) (gN 2))))) (mRet (mV 2)))))
def R_law_text : FD := runB 1 6 m_law_text
def F_law_text : FD := pureF R_law_text
def N_law_text : FD := freshF R_law_text
theorem sc_law_text : FnScope ["_law_cell_here", "_law_some", "_law_text_here", "_law_odd", "_law_j", "_law_number"] ["_law_cell_here"] (defScope s_law_text) := ⟨rfl, rfl, rfl, by decide +kernel, rfl, by decide +kernel, by decide +kernel⟩
theorem ok_law_text (c : He.SaysD fa fn K) (X0 : K.In h0) (G0 : h0.Ns mainGlobals mg) : Dok P ww K mg base T 2 "_law_text" ["_law_cell_here"] R_law_text := by
  refine Dok.mk (N := ["_law_cell_here", "_law_some", "_law_text_here", "_law_odd", "_law_j", "_law_number"]) (ps := ["_law_cell_here"]) (m := m_law_text) (c.def_ 6 (d := d_law_text) rfl) sc_law_text (He.glo_ok X0 G0 (c.fact 6 (f := .glo "_law_text") rfl)) (fun _ _ _ _ _ _ us hl => match us, hl with | [_], _ => rfl) (fun cdv A outer s H E hr => ?_)
  exact (jss_cons (js_set (i := 1) sc_law_text.nd rfl (.inl rfl) je_str)
      (jss_cons (js_set (i := 2) sc_law_text.nd rfl (.inl rfl) je_str)
      (jss_cons (js_set (i := 3) sc_law_text.nd rfl (.inl rfl) (je_op op_mod s_mod (je_callD (ok_law_mixed c X0 G0).pur (hr.mono (by decide)) (ja_cons (je_var 0) (ja_cons je_int ja_nil))) je_int))
      (jss_cons (js_forR1 PassesOwn.never rfl (by rfl) (z_range c X0 G0) (ja_cons (je_op op_mod s_mod (je_callD (ok_law_mixed c X0 G0).pur (hr.mono (by decide)) (ja_cons (je_var 0) (ja_cons je_int ja_nil))) je_int) ja_nil) (jg_name (i := 4) sc_law_text.nd rfl (.inl rfl)) (jss_cons (js_set (i := 5) sc_law_text.nd rfl (.inl rfl) (je_callD (ok_law_mixed c X0 G0).pur (hr.mono (by decide)) (ja_cons (je_var 0) (ja_cons (je_op op_addU s_add je_int (je_var 4)) ja_nil))))
      (jss_one (js_if (JW.t (jw_and (jt_cmp (op_eqU hr.units) s_eq (je_var 3) je_int (nomark _)) (jw_and1 (jt_cmp (op_eqU hr.units) s_eq (je_op op_mod s_mod (je_var 5) je_int) je_int (nomark _))))) (jss_one (js_set (i := 2) sc_law_text.nd rfl (.inl rfl) (je_op op_addU s_add (je_var 2) (je_ix (je_var 1) (je_op op_mod s_mod (je_op op_fdiv s_fdiv (je_var 5) je_int) (je_callB call_len s_len (by rfl) (z_len c X0 G0) (by decide +kernel) (ja_cons (je_var 1) ja_nil))))))) (jss_one (js_set (i := 2) sc_law_text.nd rfl (.inl rfl) (je_op op_addU s_add (je_var 2) (je_ix je_str (je_op op_mod s_mod (je_op op_fdiv s_fdiv (je_var 5) je_int) je_int)))))))))
      (jss_one (js_ret (je_var 2)))))))
def m_law_written : MS := mSeq (mAsg (mB F_law_mixed (mCons (mV 0) (mCons (mC (.int 12)) (mNil)))) (gN 1)) (mSeq (mAsg (mB fStr (mCons (mO2 fMod (mO2 fMul (mV 1) (mC (.int 1000003))) (mO2 fPow (mC (.int 10)) (mC (.int 13)))) (mNil))) (gN 2)) (mSeq (mAsg (mO2 fAdd (mO2 fIx (mLst (mCons (mC (.str "")) (mCons (mC (.str "-")) (mNil)))) (mO2 fFdiv (mO2 fMod (mV 1) (mC (.int 5))) (mC (.int 4)))) (mSl (mV 2) oNone (oSome (mO2 fAdd (mC (.int 1)) (mO2 fMod (mO2 fFdiv (mV 1) (mC (.int 5))) (mB fLen (mCons (mV 2) (mNil)))))))) (gN 2)) (mSeq (mAsg (mO2 fMod (mO2 fFdiv (mV 1) (mC (.int 100))) (mO2 fAdd (mB fLen (mCons (mV 2) (mNil))) (mC (.int 1)))) (gN 3)) (mSeq (mAsg (mO2 fIx (mC (.str "0019--+ .ax_")) (mO2 fMod (mO2 fFdiv (mV 1) (mC (.int 2000))) (mC (.int 12)))) (gN 4)) (mSeq (mAsg (mO2 fMod (mO2 fFdiv (mV 1) (mC (.int 65536))) (mC (.int 6))) (gN 5)) (mSeq (mIfS (mTest (mO2 fEq (mV 5) (mC (.int 0)))) (mRet (mO2 fAdd (mO2 fAdd (mSl (mV 2) oNone (oSome (mV 3))) (mV 4)) (mSl (mV 2) (oSome (mV 3)) oNone))) (mNext)) (mSeq (mIfS (mTest (mO2 fEq (mV 5) (mC (.int 1)))) (mRet (mO2 fAdd (mSl (mV 2) oNone (oSome (mV 3))) (mSl (mV 2) (oSome (mO2 fAdd (mV 3) (mC (.int 1)))) oNone))) (mNext)) (mSeq (mIfS (mTest (mO2 fEq (mV 5) (mC (.int 2)))) (mRet (mO2 fAdd (mO2 fAdd (mSl (mV 2) oNone (oSome (mV 3))) (mV 4)) (mSl (mV 2) (oSome (mO2 fAdd (mV 3) (mC (.int 1)))) oNone))) (mNext)) (mRet (mV 2))))))))))
def R_law_written : FD := runB 1 6 m_law_written
def F_law_written : FD := pureF R_law_written
def N_law_written : FD := freshF R_law_written
theorem sc_law_written : FnScope ["_law_cell_here", "_law_number", "_law_text_here", "_law_at", "_law_sign", "_law_way"] ["_law_cell_here"] (defScope s_law_written) := ⟨rfl, rfl, rfl, by decide +kernel, rfl, by decide +kernel, by decide +kernel⟩
theorem ok_law_written (c : He.SaysD fa fn K) (X0 : K.In h0) (G0 : h0.Ns mainGlobals mg) : Dok P ww K mg base T 2 "_law_written" ["_law_cell_here"] R_law_written := by
  refine Dok.mk (N := ["_law_cell_here", "_law_number", "_law_text_here", "_law_at", "_law_sign", "_law_way"]) (ps := ["_law_cell_here"]) (m := m_law_written) (c.def_ 7 (d := d_law_written) rfl) sc_law_written (He.glo_ok X0 G0 (c.fact 7 (f := .glo "_law_written") rfl)) (fun _ _ _ _ _ _ us hl => match us, hl with | [_], _ => rfl) (fun cdv A outer s H E hr => ?_)
  exact (jss_cons (js_set (i := 1) sc_law_written.nd rfl (.inl rfl) (je_callD (ok_law_mixed c X0 G0).pur (hr.mono (by decide)) (ja_cons (je_var 0) (ja_cons je_int ja_nil))))
      (jss_cons (js_set (i := 2) sc_law_written.nd rfl (.inl rfl) (je_callTy call_str_int s_str (by rfl) (z_str c X0 G0) (by decide +kernel) (ja_cons (je_op op_mod s_mod (je_op op_mul s_mul (je_var 1) je_int) (je_op op_pow s_pow je_int je_int)) ja_nil)))
      (jss_cons (js_set (i := 2) sc_law_written.nd rfl (.inl rfl) (je_op op_addU s_add (je_ix (je_lst (ja_cons je_str (ja_cons je_str ja_nil))) (je_op op_fdiv s_fdiv (je_op op_mod s_mod (je_var 1) je_int) je_int)) (je_sl (je_var 2) jo_none (jo_some (je_op op_addU s_add je_int (je_op op_mod s_mod (je_op op_fdiv s_fdiv (je_var 1) je_int) (je_callB call_len s_len (by rfl) (z_len c X0 G0) (by decide +kernel) (ja_cons (je_var 2) ja_nil))))))))
      (jss_cons (js_set (i := 3) sc_law_written.nd rfl (.inl rfl) (je_op op_mod s_mod (je_op op_fdiv s_fdiv (je_var 1) je_int) (je_op op_addU s_add (je_callB call_len s_len (by rfl) (z_len c X0 G0) (by decide +kernel) (ja_cons (je_var 2) ja_nil)) je_int)))
      (jss_cons (js_set (i := 4) sc_law_written.nd rfl (.inl rfl) (je_ix je_str (je_op op_mod s_mod (je_op op_fdiv s_fdiv (je_var 1) je_int) je_int)))
      (jss_cons (js_set (i := 5) sc_law_written.nd rfl (.inl rfl) (je_op op_mod s_mod (je_op op_fdiv s_fdiv (je_var 1) je_int) je_int))
      (jss_cons (js_if (jt_cmp (op_eqU hr.units) s_eq (je_var 5) je_int (nomark _)) (jss_one (js_ret (je_op op_addU s_add (je_op op_addU s_add (je_sl (je_var 2) jo_none (jo_some (je_var 3))) (je_var 4)) (je_sl (je_var 2) (jo_some (je_var 3)) jo_none)))) jss_nil)
      (jss_cons (js_if (jt_cmp (op_eqU hr.units) s_eq (je_var 5) je_int (nomark _)) (jss_one (js_ret (je_op op_addU s_add (je_sl (je_var 2) jo_none (jo_some (je_var 3))) (je_sl (je_var 2) (jo_some (je_op op_addU s_add (je_var 3) je_int)) jo_none)))) jss_nil)
      (jss_cons (js_if (jt_cmp (op_eqU hr.units) s_eq (je_var 5) je_int (nomark _)) (jss_one (js_ret (je_op op_addU s_add (je_op op_addU s_add (je_sl (je_var 2) jo_none (jo_some (je_var 3))) (je_var 4)) (je_sl (je_var 2) (jo_some (je_op op_addU s_add (je_var 3) je_int)) jo_none)))) jss_nil)
      (jss_one (js_ret (je_var 2))))))))))))
def m_law_read : MS := mSeq (mAsg (mV 0) (gN 1)) (mSeq (mIfS (mTest (mO2 fEq (mSl (mV 0) oNone (oSome (mC (.int 1)))) (mC (.str "-")))) (mAsg (mSl (mV 0) (oSome (mC (.int 1))) oNone) (gN 1)) (mNext)) (mSeq (mIfS ((mOr (mTest (mO2 fEq (mV 1) (mC (.str "")))) (mOr (mTest (mO2 fGt (mB fLen (mCons (mV 1) (mNil))) (mC (.int 12)))) (mTest (mO2 fNe (mLc (iStrM (mV 1)) (gN 3) (mNot (mTest (mChain fLe fLe (mC (.str "0")) (mV 3) (mC (.str "9"))))) (mV 3) [3]) (mLst (mNil))))))) (mRet (mC .non)) (mNext)) (mSeq (mAsg (mC (.int 0)) (gN 2)) (mSeq (mForI (iStrM (mV 1)) (gN 3) (mAsg (mO2 fAdd (mO2 fMul (mC (.int 10)) (mV 2)) (mMe .str fIdx (mC (.str "0123456789")) (mCons (mV 3) (mNil)))) (gN 2))) (mSeq (mIfS (mTest (mO2 fNe (mV 1) (mV 0))) (mAsg (mO2 fSub (mC (.int 0)) (mV 2)) (gN 2)) (mNext)) (mSeq (mIfS (mTest (mO2 fNe (mB fStr (mCons (mV 2) (mNil))) (mV 0))) (mRet (mC .non)) (mNext)) (mRet (mV 2))))))))
def R_law_read : FD := runB 1 4 m_law_read
def F_law_read : FD := pureF R_law_read
def N_law_read : FD := freshF R_law_read
theorem sc_law_read : FnScope ["_law_text_here", "_law_bare", "_law_found", "_law_sign"] ["_law_text_here"] (defScope s_law_read) := ⟨rfl, rfl, rfl, by decide +kernel, rfl, by decide +kernel, by decide +kernel⟩
theorem ok_law_read (c : He.SaysD fa fn K) (X0 : K.In h0) (G0 : h0.Ns mainGlobals mg) : Dok P ww K mg base T 1 "_law_read" ["_law_text_here"] R_law_read := by
  refine Dok.mk (N := ["_law_text_here", "_law_bare", "_law_found", "_law_sign"]) (ps := ["_law_text_here"]) (m := m_law_read) (c.def_ 8 (d := d_law_read) rfl) sc_law_read (He.glo_ok X0 G0 (c.fact 8 (f := .glo "_law_read") rfl)) (fun _ _ _ _ _ _ us hl => match us, hl with | [_], _ => rfl) (fun cdv A outer s H E hr => ?_)
  exact (jss_cons (js_set (i := 1) sc_law_read.nd rfl (.inl rfl) (je_var 0))
      (jss_cons (js_if (jt_cmp (op_eqU hr.units) s_eq (je_sl (je_var 0) jo_none (jo_some je_int)) je_str (nomark _)) (jss_one (js_set (i := 1) sc_law_read.nd rfl (.inl rfl) (je_sl (je_var 0) (jo_some je_int) jo_none))) jss_nil)
      (jss_cons (js_if (JW.t (jw_or (jt_cmp (op_eqU hr.units) s_eq (je_var 1) je_str (nomark _)) (jw_or (jt_cmp op_gt s_gt (je_callB call_len s_len (by rfl) (z_len c X0 G0) (by decide +kernel) (ja_cons (je_var 1) ja_nil)) je_int (nomark _)) (jw_or1 (jt_cmp (op_neU hr.units) s_ne (je_lc rfl sc_law_read.nd (ji_str (je_var 1)) (blkOk_by (N := ["_law_text_here", "_law_bare", "_law_found", "_law_sign"]) (sc := defScope s_law_read) (own := [("_law_sign", 3)]) (by decide +kernel)) (fun _ _ _ _ _ => jgw_name sc_law_read.nd rfl (.inl rfl) (.inr rfl) (by decide)) (fun _ _ _ _ _ => (jts_one (jt_not (jt_chain op_leU s_le op_leU s_le je_str (je_var 3) je_str (fun _ _ _ a b c => pt_chain op_leU op_leU a b c))))) (fun _ _ _ _ _ => (je_var 3))) (je_lst ja_nil) (nomark _)))))) (jss_one (js_ret je_non)) jss_nil)
      (jss_cons (js_set (i := 2) sc_law_read.nd rfl (.inl rfl) je_int)
      (jss_cons (js_forI PassesOwn.never rfl (ji_str (je_var 1)) (jg_name (i := 3) sc_law_read.nd rfl (.inl rfl)) (jss_one (js_set (i := 2) sc_law_read.nd rfl (.inl rfl) (je_op op_addU s_add (je_op op_mul s_mul je_int (je_var 2)) (je_idx je_str (ja_cons (je_var 3) ja_nil))))))
      (jss_cons (js_if (jt_cmp (op_neU hr.units) s_ne (je_var 1) (je_var 0) (nomark _)) (jss_one (js_set (i := 2) sc_law_read.nd rfl (.inl rfl) (je_op op_sub s_sub je_int (je_var 2)))) jss_nil)
      (jss_cons (js_if (jt_cmp (op_neU hr.units) s_ne (je_callTy call_str_int s_str (by rfl) (z_str c X0 G0) (by decide +kernel) (ja_cons (je_var 2) ja_nil)) (je_var 0) (nomark _)) (jss_one (js_ret je_non)) jss_nil)
      (jss_one (js_ret (je_var 2))))))))))
def m_law_same : MS := mSeq (mIfS (mTest (mO2 fIsN (mV 1) (mC .non))) (mRet (mO2 fIsN (mV 0) (mC .non))) (mNext)) (mRet ((mAndV (mO2 fEq (mB fIsi (mCons (mV 0) (mCons (mC (.ty "bool")) (mNil)))) (mB fIsi (mCons (mV 1) (mCons (mC (.ty "bool")) (mNil))))) (mO2 fEq (mV 0) (mV 1)))))
def R_law_same : FD := runB 2 2 m_law_same
def F_law_same : FD := pureF R_law_same
def N_law_same : FD := freshF R_law_same
theorem sc_law_same : FnScope ["_law_found", "_law_due"] ["_law_found", "_law_due"] (defScope s_law_same) := ⟨rfl, rfl, rfl, by decide +kernel, rfl, by decide +kernel, by decide +kernel⟩
theorem ok_law_same (c : He.SaysD fa fn K) (X0 : K.In h0) (G0 : h0.Ns mainGlobals mg) : Dok P ww K mg base T 1 "_law_same" ["_law_found", "_law_due"] R_law_same := by
  refine Dok.mk (N := ["_law_found", "_law_due"]) (ps := ["_law_found", "_law_due"]) (m := m_law_same) (c.def_ 9 (d := d_law_same) rfl) sc_law_same (He.glo_ok X0 G0 (c.fact 9 (f := .glo "_law_same") rfl)) (fun _ _ _ _ _ _ us hl => match us, hl with | [_, _], _ => rfl) (fun cdv A outer s H E hr => ?_)
  exact (jss_cons (js_if (jt_cmp op_isN' s_isN (je_var 1) je_non (nomark _)) (jss_one (js_ret (je_cmp op_isN' s_isN (je_var 0) je_non (nomark _)))) jss_nil)
      (jss_one (js_ret (je_and (je_cmp (op_eqU hr.units) s_eq (je_callB call_isi s_isi (by rfl) (z_isinstance c X0 G0) (by decide +kernel) (ja_cons (je_var 0) (ja_cons (je_ty (by rfl) (z_bool c X0 G0) (by decide +kernel)) ja_nil))) (je_callB call_isi s_isi (by rfl) (z_isinstance c X0 G0) (by decide +kernel) (ja_cons (je_var 1) (ja_cons (je_ty (by rfl) (z_bool c X0 G0) (by decide +kernel)) ja_nil))) (nomark _)) (je_one (je_cmp (op_eqU hr.units) s_eq (je_var 0) (je_var 1) (nomark _)))))))
def m_law_names_right : MS := mSeq (mAsg (mB F_law_text (mCons (mV 0) (mNil))) (gN 1)) (mSeq (mAsg ((mAndV (mChain fLt fLt (mC (.int 0)) (mB fLen (mCons (mV 1) (mNil))) (mC (.int 9))) (mO2 fEq (mLc (iStrM (mV 1)) (gN 7) (mNot (mTest (mChain fLe fLe (mC (.str "a")) (mV 7) (mC (.str "z"))))) (mV 7) [7]) (mLst (mNil))))) (gN 2)) (mSeq (mAsg (mO2 fSub (mO2 fMod (mB F_law_mixed (mCons (mV 0) (mCons (mC (.int 13)) (mNil)))) (mC (.int 40))) (mC (.int 20))) (gN 3)) (mSeq (mIfS (mTest (mO2 fEq (mO2 fMod (mO2 fFdiv (mB F_law_mixed (mCons (mV 0) (mCons (mC (.int 13)) (mNil)))) (mC (.int 40))) (mC (.int 4))) (mC (.int 1)))) (mAsg (mO2 fMul (mO2 fIx (mLst (mCons (mC (.int 1)) (mCons (mNeg (mC (.int 1))) (mNil)))) (mO2 fMod (mO2 fFdiv (mB F_law_mixed (mCons (mV 0) (mCons (mC (.int 13)) (mNil)))) (mC (.int 160))) (mC (.int 2)))) (mO2 fSub (mO2 fPow (mC (.int 10)) (mC (.int 29))) (mB F_law_mixed (mCons (mV 0) (mCons (mC (.int 14)) (mNil)))))) (gN 3)) (mNext)) (mSeq (mAsg (mO2 fSub (mO2 fAdd (mV 3) (mO2 fMod (mB F_law_mixed (mCons (mV 0) (mCons (mC (.int 15)) (mNil)))) (mC (.int 9)))) (mC (.int 2))) (gN 4)) (mSeq (mAsg (mO2 fSub (mO2 fAdd (mV 3) (mO2 fMod (mB F_law_mixed (mCons (mV 0) (mCons (mC (.int 16)) (mNil)))) (mC (.int 13)))) (mC (.int 3))) (gN 5)) (mSeq (mIfS ((mOr (mNot (mTest (mB F_law_same (mCons (mB F_is_name (mCons (mV 1) (mNil))) (mCons (mV 2) (mNil)))))) (mNot (mTest (mB F_law_same (mCons (mB F_is_whole (mCons (mV 5) (mCons (mV 3) (mCons (mV 4) (mNil))))) (mCons (mChain fLe fLe (mV 3) (mV 5) (mV 4)) (mNil)))))))) (mRet (mC (.bl false))) (mNext)) (mSeq (mForL (mLst (mCons (mC (.bl true)) (mCons (mC (.bl false)) (mCons (mC .non) (mCons (mLst (mCons (mV 1) (mNil))) (mCons (mTup (mCons (mV 1) (mNil))) (mCons (mDisp ((mV 1, mC (.int 1)) :: [])) (mNil)))))))) (gN 6) (mIfS ((mOr (mNot (mTest (mB F_law_same (mCons (mB F_is_name (mCons (mV 6) (mNil))) (mCons (mC (.bl false)) (mNil)))))) (mNot (mTest (mB F_law_same (mCons (mB F_is_whole (mCons (mV 6) (mCons (mNeg (mC (.int 5))) (mCons (mC (.int 5)) (mNil))))) (mCons (mC (.bl false)) (mNil)))))))) (mRet (mC (.bl false))) (mNext))) (mRet ((mAndV (mB F_law_same (mCons (mB F_is_whole (mCons (mV 1) (mCons (mV 3) (mCons (mV 4) (mNil))))) (mCons (mC (.bl false)) (mNil)))) (mB F_law_same (mCons (mB F_is_name (mCons (mV 5) (mNil))) (mCons (mC (.bl false)) (mNil))))))))))))))
def R_law_names_right : FD := runB 1 8 m_law_names_right
def F_law_names_right : FD := pureF R_law_names_right
def N_law_names_right : FD := freshF R_law_names_right
theorem sc_law_names_right : FnScope ["_law_cell_here", "_law_text_here", "_law_good", "_law_low", "_law_high", "_law_number", "_law_thing", "_law_sign"] ["_law_cell_here"] (defScope s_law_names_right) := ⟨rfl, rfl, rfl, by decide +kernel, rfl, by decide +kernel, by decide +kernel⟩
theorem ok_law_names_right (c : He.SaysD fa fn K) (X0 : K.In h0) (G0 : h0.Ns mainGlobals mg) : Dok P ww K mg base T 3 "_law_names_right" ["_law_cell_here"] R_law_names_right := by
  refine Dok.mk (N := ["_law_cell_here", "_law_text_here", "_law_good", "_law_low", "_law_high", "_law_number", "_law_thing", "_law_sign"]) (ps := ["_law_cell_here"]) (m := m_law_names_right) (c.def_ 10 (d := d_law_names_right) rfl) sc_law_names_right (He.glo_ok X0 G0 (c.fact 10 (f := .glo "_law_names_right") rfl)) (fun _ _ _ _ _ _ us hl => match us, hl with | [_], _ => rfl) (fun cdv A outer s H E hr => ?_)
  exact (jss_cons (js_set (i := 1) sc_law_names_right.nd rfl (.inl rfl) (je_callD (ok_law_text c X0 G0).pur (hr.mono (by decide)) (ja_cons (je_var 0) ja_nil)))
      (jss_cons (js_set (i := 2) sc_law_names_right.nd rfl (.inl rfl) (je_and (je_chain op_ltU s_lt op_ltU s_lt je_int (je_callB call_len s_len (by rfl) (z_len c X0 G0) (by decide +kernel) (ja_cons (je_var 1) ja_nil)) je_int (fun _ _ _ a b c => pe_chain op_ltU op_ltU a b c)) (je_one (je_cmp (op_eqU hr.units) s_eq (je_lc rfl sc_law_names_right.nd (ji_str (je_var 1)) (blkOk_by (N := ["_law_cell_here", "_law_text_here", "_law_good", "_law_low", "_law_high", "_law_number", "_law_thing", "_law_sign"]) (sc := defScope s_law_names_right) (own := [("_law_sign", 7)]) (by decide +kernel)) (fun _ _ _ _ _ => jgw_name sc_law_names_right.nd rfl (.inl rfl) (.inr rfl) (by decide)) (fun _ _ _ _ _ => (jts_one (jt_not (jt_chain op_leU s_le op_leU s_le je_str (je_var 7) je_str (fun _ _ _ a b c => pt_chain op_leU op_leU a b c))))) (fun _ _ _ _ _ => (je_var 7))) (je_lst ja_nil) (nomark _)))))
      (jss_cons (js_set (i := 3) sc_law_names_right.nd rfl (.inl rfl) (je_op op_sub s_sub (je_op op_mod s_mod (je_callD (ok_law_mixed c X0 G0).pur (hr.mono (by decide)) (ja_cons (je_var 0) (ja_cons je_int ja_nil))) je_int) je_int))
      (jss_cons (js_if (jt_cmp (op_eqU hr.units) s_eq (je_op op_mod s_mod (je_op op_fdiv s_fdiv (je_callD (ok_law_mixed c X0 G0).pur (hr.mono (by decide)) (ja_cons (je_var 0) (ja_cons je_int ja_nil))) je_int) je_int) je_int (nomark _)) (jss_one (js_set (i := 3) sc_law_names_right.nd rfl (.inl rfl) (je_op op_mul s_mul (je_ix (je_lst (ja_cons je_int (ja_cons (je_neg je_int) ja_nil))) (je_op op_mod s_mod (je_op op_fdiv s_fdiv (je_callD (ok_law_mixed c X0 G0).pur (hr.mono (by decide)) (ja_cons (je_var 0) (ja_cons je_int ja_nil))) je_int) je_int)) (je_op op_sub s_sub (je_op op_pow s_pow je_int je_int) (je_callD (ok_law_mixed c X0 G0).pur (hr.mono (by decide)) (ja_cons (je_var 0) (ja_cons je_int ja_nil))))))) jss_nil)
      (jss_cons (js_set (i := 4) sc_law_names_right.nd rfl (.inl rfl) (je_op op_sub s_sub (je_op op_addU s_add (je_var 3) (je_op op_mod s_mod (je_callD (ok_law_mixed c X0 G0).pur (hr.mono (by decide)) (ja_cons (je_var 0) (ja_cons je_int ja_nil))) je_int)) je_int))
      (jss_cons (js_set (i := 5) sc_law_names_right.nd rfl (.inl rfl) (je_op op_sub s_sub (je_op op_addU s_add (je_var 3) (je_op op_mod s_mod (je_callD (ok_law_mixed c X0 G0).pur (hr.mono (by decide)) (ja_cons (je_var 0) (ja_cons je_int ja_nil))) je_int)) je_int))
      (jss_cons (js_if (JW.t (jw_or (jt_not (jt_val (je_callD (ok_law_same c X0 G0).pur (hr.mono (by decide)) (ja_cons (je_callD (ok_is_name c X0 G0).pur (hr.mono (by decide)) (ja_cons (je_var 1) ja_nil)) (ja_cons (je_var 2) ja_nil))))) (jw_or1 (jt_not (jt_val (je_callD (ok_law_same c X0 G0).pur (hr.mono (by decide)) (ja_cons (je_callD (ok_is_whole c X0 G0).pur (hr.mono (by decide)) (ja_cons (je_var 5) (ja_cons (je_var 3) (ja_cons (je_var 4) ja_nil)))) (ja_cons (je_chain op_leU s_le op_leU s_le (je_var 3) (je_var 5) (je_var 4) (fun _ _ _ a b c => pe_chain op_leU op_leU a b c)) ja_nil)))))))) (jss_one (js_ret je_bl)) jss_nil)
      (jss_cons (js_forL PassesOwn.never rfl (je_lst (ja_cons je_bl (ja_cons je_bl (ja_cons je_non (ja_cons (je_lst (ja_cons (je_var 1) ja_nil)) (ja_cons (je_tup (ja_cons (je_var 1) ja_nil)) (ja_cons (je_disp (jps_cons (je_var 1) je_int jps_nil)) ja_nil))))))) (jg_name (i := 6) sc_law_names_right.nd rfl (.inl rfl)) (jss_one (js_if (JW.t (jw_or (jt_not (jt_val (je_callD (ok_law_same c X0 G0).pur (hr.mono (by decide)) (ja_cons (je_callD (ok_is_name c X0 G0).pur (hr.mono (by decide)) (ja_cons (je_var 6) ja_nil)) (ja_cons je_bl ja_nil))))) (jw_or1 (jt_not (jt_val (je_callD (ok_law_same c X0 G0).pur (hr.mono (by decide)) (ja_cons (je_callD (ok_is_whole c X0 G0).pur (hr.mono (by decide)) (ja_cons (je_var 6) (ja_cons (je_neg je_int) (ja_cons je_int ja_nil)))) (ja_cons je_bl ja_nil)))))))) (jss_one (js_ret je_bl)) jss_nil)))
      (jss_one (js_ret (je_and (je_callD (ok_law_same c X0 G0).pur (hr.mono (by decide)) (ja_cons (je_callD (ok_is_whole c X0 G0).pur (hr.mono (by decide)) (ja_cons (je_var 1) (ja_cons (je_var 3) (ja_cons (je_var 4) ja_nil)))) (ja_cons je_bl ja_nil))) (je_one (je_callD (ok_law_same c X0 G0).pur (hr.mono (by decide)) (ja_cons (je_callD (ok_is_name c X0 G0).pur (hr.mono (by decide)) (ja_cons (je_var 5) ja_nil)) (ja_cons je_bl ja_nil)))))))))))))))
def m_law : MS := mSeq (mForR1 (mCons (mB fMax2 (mCons (mC (.int 1)) (mCons (mB fMin2 (mCons (mC (.int 40)) (mCons (mB fLen (mCons (mV 0) (mNil))) (mNil)))) (mNil)))) (mNil)) (gN 1) (mSeq (mAsg (mB F_law_cell (mCons (mV 0) (mCons (mV 1) (mNil)))) (gN 2)) (mSeq (mIfS (mNot (mTest (mB F_law_names_right (mCons (mV 2) (mNil))))) (mRet (mC (.bl false))) (mNext)) (mSeq (mAsg (mB F_law_written (mCons (mV 2) (mNil))) (gN 3)) (mSeq (mAsg (mB F_law_read (mCons (mV 3) (mNil))) (gN 4)) (mSeq (mIfS (mNot (mTest (mB F_law_same (mCons (mB F_number_of (mCons (mV 3) (mCons (mO2 fSub (mC (.int 0)) (mO2 fPow (mC (.int 10)) (mC (.int 13)))) (mCons (mO2 fPow (mC (.int 10)) (mC (.int 13))) (mNil))))) (mCons (mV 4) (mNil)))))) (mRet (mC (.bl false))) (mNext)) (mSeq (mAsg (mO2 fMod (mB F_law_mixed (mCons (mV 2) (mCons (mC (.int 17)) (mNil)))) (mC (.int 100))) (gN 5)) (mSeq (mIfS (mTest (mO2 fNotN (mV 4) (mC .non))) (mAsg (mV 4) (gN 5)) (mNext)) (mSeq (mAsg (mO2 fSub (mV 5) (mO2 fMod (mB F_law_mixed (mCons (mV 2) (mCons (mC (.int 18)) (mNil)))) (mC (.int 3)))) (gN 6)) (mSeq (mAsg (mO2 fSub (mO2 fAdd (mV 5) (mO2 fMod (mB F_law_mixed (mCons (mV 2) (mCons (mC (.int 19)) (mNil)))) (mC (.int 4)))) (mC (.int 1))) (gN 7)) (mSeq (mIfS ((mAnd (mTest (mO2 fNotN (mV 4) (mC .non))) (mNot (mTest (mChain fLe fLe (mV 6) (mV 4) (mV 7)))))) (mAsg (mC .non) (gN 4)) (mNext)) (mIfS (mNot (mTest (mB F_law_same (mCons (mB F_number_of (mCons (mV 3) (mCons (mV 6) (mCons (mV 7) (mNil))))) (mCons (mV 4) (mNil)))))) (mRet (mC (.bl false))) (mNext))))))))))))) (mRet ((mAndV (mO2 fIsN (mB F_number_of (mCons (mC (.str "-0")) (mCons (mNeg (mC (.int 1))) (mCons (mC (.int 1)) (mNil))))) (mC .non)) (mAndV (mO2 fIsN (mB F_number_of (mCons (mC (.str "")) (mCons (mC (.int 0)) (mCons (mC (.int 9)) (mNil))))) (mC .non)) (mO2 fIsN (mB F_number_of (mCons (mC (.str "-")) (mCons (mNeg (mC (.int 9))) (mCons (mC (.int 9)) (mNil))))) (mC .non))))))
def R_law : FD := runB 1 8 m_law
def F_law : FD := pureF R_law
def N_law : FD := freshF R_law
theorem sc_law : FnScope ["_law_script", "_law_k", "_law_cell_here", "_law_text_here", "_law_due", "_law_near", "_law_low", "_law_high"] ["_law_script"] (defScope s_law) := ⟨rfl, rfl, rfl, by decide +kernel, rfl, by decide +kernel, by decide +kernel⟩
theorem ok_law (c : He.SaysD fa fn K) (X0 : K.In h0) (G0 : h0.Ns mainGlobals mg) : Dok P ww K mg base T 4 "law" ["_law_script"] R_law := by
  refine Dok.mk (N := ["_law_script", "_law_k", "_law_cell_here", "_law_text_here", "_law_due", "_law_near", "_law_low", "_law_high"]) (ps := ["_law_script"]) (m := m_law) (c.def_ 11 (d := d_law) rfl) sc_law (He.glo_ok X0 G0 (c.fact 11 (f := .glo "law") rfl)) (fun _ _ _ _ _ _ us hl => match us, hl with | [_], _ => rfl) (fun cdv A outer s H E hr => ?_)
  exact (jss_cons (js_forR1 PassesOwn.never rfl (by rfl) (z_range c X0 G0) (ja_cons (je_callB (call_max2 rfl) s_max2 (by rfl) (z_max c X0 G0) (by decide +kernel) (ja_cons je_int (ja_cons (je_callB (call_min2 rfl) s_min2 (by rfl) (z_min c X0 G0) (by decide +kernel) (ja_cons je_int (ja_cons (je_callB call_len s_len (by rfl) (z_len c X0 G0) (by decide +kernel) (ja_cons (je_var 0) ja_nil)) ja_nil))) ja_nil))) ja_nil) (jg_name (i := 1) sc_law.nd rfl (.inl rfl)) (jss_cons (js_set (i := 2) sc_law.nd rfl (.inl rfl) (je_callD (ok_law_cell c X0 G0).pur (hr.mono (by decide)) (ja_cons (je_var 0) (ja_cons (je_var 1) ja_nil))))
      (jss_cons (js_if (jt_not (jt_val (je_callD (ok_law_names_right c X0 G0).pur (hr.mono (by decide)) (ja_cons (je_var 2) ja_nil)))) (jss_one (js_ret je_bl)) jss_nil)
      (jss_cons (js_set (i := 3) sc_law.nd rfl (.inl rfl) (je_callD (ok_law_written c X0 G0).pur (hr.mono (by decide)) (ja_cons (je_var 2) ja_nil)))
      (jss_cons (js_set (i := 4) sc_law.nd rfl (.inl rfl) (je_callD (ok_law_read c X0 G0).pur (hr.mono (by decide)) (ja_cons (je_var 3) ja_nil)))
      (jss_cons (js_if (jt_not (jt_val (je_callD (ok_law_same c X0 G0).pur (hr.mono (by decide)) (ja_cons (je_callD (ok_number_of c X0 G0).pur (hr.mono (by decide)) (ja_cons (je_var 3) (ja_cons (je_op op_sub s_sub je_int (je_op op_pow s_pow je_int je_int)) (ja_cons (je_op op_pow s_pow je_int je_int) ja_nil)))) (ja_cons (je_var 4) ja_nil))))) (jss_one (js_ret je_bl)) jss_nil)
      (jss_cons (js_set (i := 5) sc_law.nd rfl (.inl rfl) (je_op op_mod s_mod (je_callD (ok_law_mixed c X0 G0).pur (hr.mono (by decide)) (ja_cons (je_var 2) (ja_cons je_int ja_nil))) je_int))
      (jss_cons (js_if (jt_cmp op_notN' s_notN (je_var 4) je_non (nomark _)) (jss_one (js_set (i := 5) sc_law.nd rfl (.inl rfl) (je_var 4))) jss_nil)
      (jss_cons (js_set (i := 6) sc_law.nd rfl (.inl rfl) (je_op op_sub s_sub (je_var 5) (je_op op_mod s_mod (je_callD (ok_law_mixed c X0 G0).pur (hr.mono (by decide)) (ja_cons (je_var 2) (ja_cons je_int ja_nil))) je_int)))
      (jss_cons (js_set (i := 7) sc_law.nd rfl (.inl rfl) (je_op op_sub s_sub (je_op op_addU s_add (je_var 5) (je_op op_mod s_mod (je_callD (ok_law_mixed c X0 G0).pur (hr.mono (by decide)) (ja_cons (je_var 2) (ja_cons je_int ja_nil))) je_int)) je_int))
      (jss_cons (js_if (JW.t (jw_and (jt_cmp op_notN' s_notN (je_var 4) je_non (nomark _)) (jw_and1 (jt_not (jt_chain op_leU s_le op_leU s_le (je_var 6) (je_var 4) (je_var 7) (fun _ _ _ a b c => pt_chain op_leU op_leU a b c)))))) (jss_one (js_set (i := 4) sc_law.nd rfl (.inl rfl) je_non)) jss_nil)
      (jss_one (js_if (jt_not (jt_val (je_callD (ok_law_same c X0 G0).pur (hr.mono (by decide)) (ja_cons (je_callD (ok_number_of c X0 G0).pur (hr.mono (by decide)) (ja_cons (je_var 3) (ja_cons (je_var 6) (ja_cons (je_var 7) ja_nil)))) (ja_cons (je_var 4) ja_nil))))) (jss_one (js_ret je_bl)) jss_nil)))))))))))))
      (jss_one (js_ret (je_and (je_cmp op_isN' s_isN (je_callD (ok_number_of c X0 G0).pur (hr.mono (by decide)) (ja_cons je_str (ja_cons (je_neg je_int) (ja_cons je_int ja_nil)))) je_non (nomark _)) (je_and (je_cmp op_isN' s_isN (je_callD (ok_number_of c X0 G0).pur (hr.mono (by decide)) (ja_cons je_str (ja_cons je_int (ja_cons je_int ja_nil)))) je_non (nomark _)) (je_one (je_cmp op_isN' s_isN (je_callD (ok_number_of c X0 G0).pur (hr.mono (by decide)) (ja_cons je_str (ja_cons (je_neg je_int) (ja_cons je_int ja_nil)))) je_non (nomark _))))))))
end
def lawLevel : Nat := 4
theorem facts {l : PySem.W.OpenLaw} {w : World} {K : PySem.W.Frag} {h : Heap} {mg : Str → Option Value} {f : Addr} (X : K.In h) (G : h.Ns mainGlobals mg) (hfa : mg ("law" : Str) = some (.ref f)) (c : He.SaysD fa fn K) :
    ∃ fd : FuncData, (∀ (s : Shared) (v : Value), BindsTo s fd ⟨[v], []⟩ [("_law_script", v)]) ∧ ∀ base : Heap, K.In base → base.Ns mainGlobals mg → FnOk l.prog w K mg base (L2.CX l.prog w) 4 f fd ["_law_script"] (spF K [] R_law) := by
  obtain ⟨fd0, F0⟩ := c.def_ 11 (d := d_law) rfl
  have e := hfa.symm.trans (He.glo_ok X G (c.fact 11 (f := .glo "law") rfl))
  cases e
  refine ⟨fd0, fun s v => FunD.bindsA (ps := ["_law_script"]) F0 (fun _ _ _ _ _ _ us hl => match us, hl with | [_], _ => rfl) s [v] rfl, fun base Kb Gb => ?_⟩
  obtain ⟨fd, F, _, _, _, lk⟩ := ok_law (P := l.prog) (ww := w) (K := K) (mg := mg) (base := base) (T := []) c X G
  cases fd_of F0 lk
  exact F
section
end
end Hk01
set_option Elab.async false
set_option linter.all false
set_option maxRecDepth 100000
namespace Tp
open PySem PySem.Spec PyProof.Rows L2
section
variable {a b : ME} {q1 q2 : MT} {s1 s2 : MS} {l : MA} {G : Env1} {h : List Cell} {g : MG} {f : F2}
@[simp] theorem mV_e {i : Nat} : mV i G h = match G[i]? with
  | some (some d) => some (d, h)
  | _ => none := rfl
@[simp] theorem mC_e {d : D} : mC d G h = some (d, h) := rfl
@[simp] theorem mO2_e : mO2 f a b G h = match a G h with
  | none => none
  | some (x, h1) => match b G h1 with
    | none => none
    | some (y, h2) => (f h2 x y).map fun d => (d, h2) := rfl
@[simp] theorem mNil_e : mNil G h = some ([], h) := rfl
@[simp] theorem mCons_e : mCons a l G h = match a G h with
  | none => none
  | some (x, h1) => match l G h1 with
    | none => none
    | some (xs, h2) => some (x :: xs, h2) := rfl
@[simp] theorem mTup_e : mTup l G h = match l G h with
  | none => none
  | some (xs, h1) => if xs.length ≤ 1000000 then some (.tup xs, h1) else none := rfl
@[simp] theorem mLst_e : mLst l G h = match l G h with
  | none => none
  | some (xs, h1) => if xs.length ≤ 1000000 then some (.lst xs, h1) else none := rfl
@[simp] theorem mLstC_e : mLstC l G h = match l G h with
  | none => none
  | some (xs, h1) => if xs.length ≤ 1000000 then some (.ref h1.length, h1 ++ [.lst xs]) else none := rfl
@[simp] theorem mDicC_e : mDicC G h = some (.ref h.length, h ++ [.dic []]) := rfl
@[simp] theorem mB_e {F : FD} : mB F l G h = match l G h with
  | none => none
  | some (xs, h1) => F h1 xs := rfl
@[simp] theorem mTest_e : mTest a G h = match a G h with
  | some (.bl b, h1) => some (b, h1)
  | _ => none := rfl
@[simp] theorem mAnd_e : mAnd q1 q2 G h = match q1 G h with
  | none => none
  | some (true, h1) => q2 G h1
  | some (false, h1) => some (false, h1) := rfl
@[simp] theorem mOr_e : mOr q1 q2 G h = match q1 G h with
  | none => none
  | some (true, h1) => some (true, h1)
  | some (false, h1) => q2 G h1 := rfl
@[simp] theorem mNot_e : mNot q1 G h = match q1 G h with
  | none => none
  | some (b, h1) => some (!b, h1) := rfl
@[simp] theorem mAndV_e : mAndV a b G h = match a G h with
  | some (.bl true, h1) => b G h1
  | some (.bl false, h1) => some (.bl false, h1)
  | _ => none := rfl
@[simp] theorem mOrV_e : mOrV a b G h = match a G h with
  | some (.bl true, h1) => some (.bl true, h1)
  | some (.bl false, h1) => b G h1
  | _ => none := rfl
@[simp] theorem mNotV_e : mNotV a G h = match a G h with
  | some (.bl b, h1) => some (.bl (!b), h1)
  | _ => none := rfl
@[simp] theorem mIf_e : mIf q1 a b G h = match q1 G h with
  | none => none
  | some (true, h1) => a G h1
  | some (false, h1) => b G h1 := rfl
@[simp] theorem mNeg_e : mNeg a G h = match a G h with
  | some (.int i, h1) => some (.int (-i), h1)
  | _ => none := rfl
@[simp] theorem mNext_e : mNext G h = some (.nx G, h) := rfl
@[simp] theorem mSeq_e : mSeq s1 s2 G h = match s1 G h with
  | some (.nx G1, h1) => s2 G1 h1
  | r => r := rfl
@[simp] theorem mAsg_e : mAsg a g G h = match a G h with
  | none => none
  | some (d, h1) => match g d G h1 with
    | none => none
    | some G1 => some (.nx G1, h1) := rfl
@[simp] theorem gN_e {i : Nat} {d : D} : gN i d G h = some (G.set i (some d)) := rfl
@[simp] theorem gT_e {is : List Nat} {d : D} : gT is d G h = match pk h d with
  | .tup l => if l.length = is.length then some ((is.zip l).foldl (fun G p => G.set p.1 (some p.2)) G) else none
  | _ => none := rfl
@[simp] theorem mDrop_e : mDrop a G h = match a G h with
  | none => none
  | some (_, h1) => some (.nx G, h1) := rfl
@[simp] theorem mRet_e : mRet a G h = match a G h with
  | none => none
  | some (d, h1) => some (.rt d, h1) := rfl
@[simp] theorem mIfS_e : mIfS q1 s1 s2 G h = match q1 G h with
  | none => none
  | some (true, h1) => s1 G h1
  | some (false, h1) => s2 G h1 := rfl
@[simp] theorem mBreak_e : mBreak G h = some (.bk G, h) := rfl
@[simp] theorem mCont_e : mCont G h = some (.ct G, h) := rfl
@[simp] theorem mAug_e {i : Nat} : mAug i f a G h = match G[i]? with
  | some (some x) => (match a G h with
    | none => none
    | some (y, h1) => (match f h1 x y with
      | none => none
      | some z => some (.nx (G.set i (some z)), h1)))
  | _ => none := rfl
@[simp] theorem mSetL_e {v o i : ME} : mSetL v o i G h = match v G h with
  | none => none
  | some (z, h1) => match o G h1 with
    | none => none
    | some (x, h2) => match i G h2 with
      | none => none
      | some (y, h3) => (match x, y with
        | .ref n, .int k => (match h3[n]? with
          | some (.lst l) => (match ixN l.length k with
            | some j => some (.nx G, h3.set n (.lst (l.set j z)))
            | none => none)
          | _ => none)
        | _, _ => none) := rfl
@[simp] theorem mSetD_e {v o i : ME} : mSetD v o i G h = match v G h with
  | none => none
  | some (z, h1) => match o G h1 with
    | none => none
    | some (x, h2) => match i G h2 with
      | none => none
      | some (y, h3) => (match x, keyD y with
        | .ref n, some k => (match h3[n]? with
          | some (.dic l) => if l.length < 1000000 then some (.nx G, h3.set n (.dic (putD l k z))) else none
          | _ => none)
        | _, _ => none) := rfl
@[simp] theorem mForL_e : mForL a g s1 G h = match a G h with
  | none => none
  | some (d, h1) => match frzOf d with
    | some l => forL g s1 l G h1
    | none => none := rfl
@[simp] theorem mForR1_e : mForR1 l g s1 G h = match l G h with
  | some ([.int j], h1) => if in62 j then forL g s1 (rng 0 j.toNat) G h1 else none
  | _ => none := rfl
@[simp] theorem mForR2_e : mForR2 l g s1 G h = match l G h with
  | some ([.int i, .int j], h1) => if in62 i && in62 j then forL g s1 (rng i (j - i).toNat) G h1 else none
  | _ => none := rfl
@[simp] theorem mMe_e {t : Tn} {m : FM} : mMe t m a l G h = match a G h with
  | none => none
  | some (x, h1) => if hasT h1 x t then (match l G h1 with
    | none => none
    | some (xs, h2) => m h2 x xs) else none := rfl
@[simp] theorem mMe0_e {t : Tn} {m : FM} : mMe0 t m a G h = match a G h with
  | none => none
  | some (x, h1) => if hasT h1 x t then m h1 x [] else none := rfl
@[simp] theorem mDGet1_e : mDGet1 a b G h = match a G h with
  | none => none
  | some (x, h1) => (match pk h1 x with
    | .dic _ => (match b G h1 with
      | none => none
      | some (y, h2) => (match pk h2 x, keyD y with
        | .dic l, some k => some ((valD l k).getD .non, h2)
        | _, _ => none))
    | _ => none) := rfl
@[simp] theorem forL_nil : forL g s1 [] G h = some (.nx G, h) := rfl
theorem forL_cons {d : D} {r : List D} : forL g s1 (d :: r) G h = match g d G h with
  | none => none
  | some G1 => match s1 G1 h with
    | some (.nx G2, h2) => forL g s1 r G2 h2
    | some (.ct G2, h2) => forL g s1 r G2 h2
    | some (.bk G2, h2) => some (.nx G2, h2)
    | some (.rt d, h2) => some (.rt d, h2)
    | none => none := rfl
/-! values -/
@[simp] theorem fAdd_i {i j : Int} : fAdd h (.int i) (.int j) = some (.int (i + j)) := rfl
@[simp] theorem fSub_i {i j : Int} : fSub h (.int i) (.int j) = some (.int (i - j)) := rfl
@[simp] theorem fLt_i {i j : Int} : fLt h (.int i) (.int j) = some (.bl (decide (i < j))) := rfl
@[simp] theorem fLe_i {i j : Int} : fLe h (.int i) (.int j) = some (.bl (decide (i ≤ j))) := rfl
@[simp] theorem fGt_i {i j : Int} : fGt h (.int i) (.int j) = some (.bl (decide (j < i))) := rfl
@[simp] theorem fGe_i {i j : Int} : fGe h (.int i) (.int j) = some (.bl (decide (j ≤ i))) := rfl
@[simp] theorem fIAdd_i {i j : Int} : fIAdd h (.int i) (.int j) = some (.int (i + j)) := rfl
@[simp] theorem fISub_i {i j : Int} : fISub h (.int i) (.int j) = some (.int (i - j)) := rfl
@[simp] theorem fMod_i {i j : Int} : fMod h (.int i) (.int j) = if 0 < j then some (.int (i % j)) else none := rfl
@[simp] theorem fFdiv_i {i j : Int} : fFdiv h (.int i) (.int j) = if 0 < j ∧ j < 1073741824 then some (.int (i / j)) else none := rfl
@[simp] theorem fMul_i {i j : Int} : fMul h (.int i) (.int j) = if small i || small j then some (.int (i * j)) else none := rfl
@[simp] theorem fPow_i {i j : Int} : fPow h (.int i) (.int j) = if 0 ≤ j ∧ j ≤ 1000000 ∧ i.natAbs < 2 ^ 64 then some (.int (i ^ j.toNat)) else none := rfl
@[simp] theorem fShr_i {i j : Int} : fShr h (.int i) (.int j) = if 0 ≤ j then some (.int (i / 2 ^ j.toNat)) else none := rfl
@[simp] theorem pk_int {i : Int} : pk h (.int i) = .int i := rfl
@[simp] theorem pk_bl {i : Bool} : pk h (.bl i) = .bl i := rfl
@[simp] theorem pk_non : pk h .non = .non := rfl
@[simp] theorem pk_st {i : Str} : pk h (.str i) = .str i := rfl
@[simp] theorem pk_ls {i : List D} : pk h (.lst i) = .lst i := rfl
@[simp] theorem pk_tu {i : List D} : pk h (.tup i) = .tup i := rfl
@[simp] theorem pk_s {i : List D} : pk h (.sq i) = .sq i := rfl
@[simp] theorem pk_di {i : List (Key × D)} : pk h (.dic i) = .dic i := rfl
theorem pk_ref {n : Nat} : pk h (.ref n) = match h[n]? with
  | some (.lst l) => .lst l
  | some (.dic l) => .dic l
  | _ => .ref n := rfl
@[simp] theorem frzOf_lst {l : List D} : frzOf (.lst l) = some l := rfl
@[simp] theorem frzOf_sq {l : List D} : frzOf (.sq l) = some l := rfl
@[simp] theorem fMax2_i {i j : Int} : fMax2 h [.int i, .int j] = some (.int (max i j), h) := by
  show some (D.int (if j > i then j else i), h) = _
  rw [show (if j > i then j else i) = max i j by simp only [Int.max_def]; split <;> split <;> omega]
@[simp] theorem fMin2_i {i j : Int} : fMin2 h [.int i, .int j] = some (.int (min i j), h) := by
  show some (D.int (if j < i then j else i), h) = _
  rw [show (if j < i then j else i) = min i j by simp only [Int.min_def]; split <;> split <;> omega]
@[simp] theorem fEq_i {i j : Int} : fEq h (.int i) (.int j) = some (.bl (decide (i = j))) := by
  show some (D.bl (i == j)) = _
  rw [Bool.beq_eq_decide_eq]
@[simp] theorem fNe_i {i j : Int} : fNe h (.int i) (.int j) = some (.bl (!decide (i = j))) := by
  show some (D.bl (!(i == j))) = _
  rw [Bool.beq_eq_decide_eq]
@[simp] theorem keyD_i {i : Int} : keyD (.int i) = some (.inl i) := rfl
@[simp] theorem keyD_s {i : Str} : keyD (.str i) = some (.inr i) := rfl
theorem noRefL_app : ∀ {a b : List D}, noRefL (a ++ b) = (noRefL a && noRefL b)
  | [], _ => by simp [noRefL]
  | x :: a, b => by simp [noRefL, noRefL_app, Bool.and_assoc]
theorem noRefL_all : ∀ {a : List D}, noRefL a = a.all noRef
  | [] => rfl
  | x :: a => by simp [noRefL, noRefL_all]
theorem flatL_all : ∀ {a : List D}, flatL a = a.all flatD
  | [] => rfl
  | x :: a => by simp [flatL, flatL_all]
theorem okL_all {n : Nat} : ∀ {a : List D}, okL n a = a.all (okD n)
  | [] => rfl
  | x :: a => by simp [okL, okL_all]
theorem noRefK_all : ∀ {a : List (Key × D)}, noRefK a = a.all fun p => noRef p.2
  | [] => rfl
  | (k, x) :: a => by simp [noRefK, noRefK_all]
/-- a pure call -/
theorem pureF_of {f : FD} {ds ds' : List D} {d d' : D} {h h1 : List Cell} (e1 : mapRL (resN 20 h) ds = some ds') (e2 : f [] ds' = some (d, h1)) (e3 : frz h1 d = some d') (hc : (noRefL ds || flatD d') = true) : pureF f h ds = some (d', h) := by
  unfold pureF
  simp only [e1, e2, e3, hc, if_true]
theorem pureF_no {f : FD} {ds : List D} {d d' : D} {h h1 : List Cell} (hn : noRefL ds = true) (e2 : f [] ds = some (d, h1)) (e3 : frz h1 d = some d') : pureF f h ds = some (d', h) := pureF_of (mapRL_noRef ds hn) e2 e3 (by rw [hn]; rfl)
theorem frz_noRef {h : List Cell} {d : D} (hn : noRef d = true) : frz h d = some d := mapR_noRef d hn
end
end Tp
set_option Elab.async false
set_option linter.all false
set_option maxRecDepth 100000
namespace Tp
open PySem PySem.Spec PyProof.Rows L2
section
variable {a b : ME} {t : MT} {s1 : MS} {l : MA} {G : Env1} {h : List Cell} {g : MG} {mi : MI} {mq : MIq} {lo hi : MO} {vs : List Nat}
@[simp] theorem mSl_e : mSl a lo hi G h = match a G h with
  | none => none
  | some (x, h1) => match lo G h1 with
    | none => none
    | some (l, h2) => match hi G h2 with
      | none => none
      | some (u, h3) => (fSl h3 x l u).map fun d => (d, h3) := rfl
@[simp] theorem oNone_e : oNone G h = some (none, h) := rfl
@[simp] theorem oSome_e : oSome a G h = match a G h with
  | some (.int i, h1) => some (some i, h1)
  | _ => none := rfl
@[simp] theorem iLst_e : iLst a G h = match a G h with
  | some (d, h1) => (match frzOf d with
    | some l => some (l, h1)
    | none => none)
  | none => none := rfl
@[simp] theorem iStrM_e : iStrM a G h = match a G h with
  | some (.str z, h1) => some (signs z, h1)
  | _ => none := rfl
@[simp] theorem iCel_e : iCel a G h = match a G h with
  | some (.ref n, h1) => (match h1[n]? with
    | some (.lst l) => some (n, l, h1)
    | _ => none)
  | _ => none := rfl
@[simp] theorem mYes_e : mYes G h = some (true, h) := rfl
@[simp] theorem mLc_e : mLc mi g t b vs G h = match mi G h with
  | none => none
  | some (l, h1) => match lcL g t b (wipeE G vs) l [] h1 with
    | none => none
    | some (acc, h2) => some (.lst acc, h2) := rfl
@[simp] theorem mLcC_e : mLcC mi g t b vs G h = match mi G h with
  | none => none
  | some (l, h1) => match lcL g t b (wipeE G vs) l [] h1 with
    | none => none
    | some (acc, h2) => some (.ref h2.length, h2 ++ [.lst acc]) := rfl
@[simp] theorem mLcQ_e : mLcQ mq g t b vs G h = match mq G h with
  | none => none
  | some (n, l, h1) => match lcQ n l g t b (wipeE G vs) l [] h1 with
    | none => none
    | some (acc, h2) => some (.lst acc, h2) := rfl
@[simp] theorem mForQ_e : mForQ mq g s1 G h = match mq G h with
  | none => none
  | some (n, l, h1) => forQ n l g s1 l G h1 := rfl
@[simp] theorem mForI_e : mForI mi g s1 G h = match mi G h with
  | none => none
  | some (l, h1) => forL g s1 l G h1 := rfl
theorem lcL_cons {d : D} {r acc : List D} : lcL g t b G (d :: r) acc h = match g d G h with
  | none => none
  | some G1 => match t G1 h with
    | none => none
    | some (false, h1) => lcL g t b G r acc h1
    | some (true, h1) => match b G1 h1 with
      | none => none
      | some (y, h2) => if acc.length < 1000000 then lcL g t b G r (acc ++ [y]) h2 else none := rfl
@[simp] theorem lcL_nil {acc : List D} : lcL g t b G [] acc h = some (acc, h) := rfl
/-- a pure, total comprehension -/
theorem lcL_map {f : D → D} (l : List D) : ∀ (acc : List D), acc.length + l.length ≤ 1000000 → (∀ d ∈ l, ∃ G1, g d G h = some G1 ∧ t G1 h = some (true, h) ∧ b G1 h = some (f d, h)) → lcL g t b G l acc h = some (acc ++ l.map f, h) := by
  induction l with
  | nil => intro acc _ _; simp
  | cons d l ih =>
    intro acc hz hd
    obtain ⟨G1, e1, e2, e3⟩ := hd d List.mem_cons_self
    have hz1 : acc.length < 1000000 := by simp at hz; omega
    rw [lcL_cons, e1]
    simp only [e2, e3, hz1, if_true]
    rw [ih (acc ++ [f d]) (by simp at hz ⊢; omega) (fun x hx => hd x (List.mem_cons_of_mem _ hx))]
    simp
theorem lcQ_map {n : Nat} {l0 : List D} {f : D → D} (hn : h[n]? = some (.lst l0)) (l : List D) : ∀ (acc : List D), acc.length + l.length ≤ 1000000 → (∀ d ∈ l, ∃ G1, g d G h = some G1 ∧ t G1 h = some (true, h) ∧ b G1 h = some (f d, h)) → lcQ n l0 g t b G l acc h = some (acc ++ l.map f, h) := by
  have hs : stayB n l0 h = true := stayB_iff.2 hn
  induction l with
  | nil => intro acc _ _; unfold lcQ; rw [if_pos hs]; simp
  | cons d l ih =>
    intro acc hz hd
    obtain ⟨G1, e1, e2, e3⟩ := hd d List.mem_cons_self
    have hz1 : acc.length < 1000000 := by simp at hz; omega
    unfold lcQ
    rw [if_pos hs, e1]
    simp only [e2, e3, hz1, if_true]
    rw [ih (acc ++ [f d]) (by simp at hz ⊢; omega) (fun x hx => hd x (List.mem_cons_of_mem _ hx))]
    simp
@[simp] theorem fInt_i {i : Int} : fInt h [.int i] = some (.int i, h) := rfl
@[simp] theorem fInt_b {k : Bool} : fInt h [.bl k] = some (.int (if k then 1 else 0), h) := rfl
end
end Tp
set_option Elab.async false
set_option linter.all false
set_option maxRecDepth 100000
set_option maxHeartbeats 0
namespace St
open PySem L2 Tp
def m_put_behind : MS := mIfS ((mAnd (mTest (mO2 fNe (mV 0) (mLst (mNil)))) (mAnd (mTest (mO2 fEq (mO2 fAdd (mO2 fIx (mO2 fIx (mV 0) (mNeg (mC (.int 1)))) (mC (.int 1))) (mC (.int 1))) (mV 1))) (mTest (mO2 fEq (mO2 fIx (mO2 fIx (mV 0) (mNeg (mC (.int 1)))) (mC (.int 2))) (mV 3)))))) (mSetL (mTup (mCons (mO2 fIx (mO2 fIx (mV 0) (mNeg (mC (.int 1)))) (mC (.int 0))) (mCons (mV 2) (mCons (mV 3) (mNil))))) (mV 0) (mNeg (mC (.int 1)))) (mDrop (mMe .list fAppend (mV 0) (mCons (mTup (mCons (mV 1) (mCons (mV 2) (mCons (mV 3) (mNil))))) (mNil))))
def R_put_behind : FD := runB 4 4 m_put_behind
def lb_cut_1 : MS := mIfS ((mAnd (mTest (mO2 fGe (mV 5) (mV 1))) (mTest (mO2 fLe (mV 4) (mV 2))))) (mDrop (mB R_put_behind (mCons (mV 3) (mCons (mB fMax2 (mCons (mV 4) (mCons (mV 1) (mNil)))) (mCons (mB fMin2 (mCons (mV 5) (mCons (mV 2) (mNil)))) (mCons (mV 6) (mNil))))))) (mNext)
def m_cut : MS := mSeq (mAsg (mLstC (mNil)) (gN 3)) (mSeq (mForL (mV 0) (gT [4, 5, 6]) (mIfS ((mAnd (mTest (mO2 fGe (mV 5) (mV 1))) (mTest (mO2 fLe (mV 4) (mV 2))))) (mDrop (mB R_put_behind (mCons (mV 3) (mCons (mB fMax2 (mCons (mV 4) (mCons (mV 1) (mNil)))) (mCons (mB fMin2 (mCons (mV 5) (mCons (mV 2) (mNil)))) (mCons (mV 6) (mNil))))))) (mNext))) (mRet (mV 3)))
def R_cut : FD := runB 3 7 m_cut
def F_cut : FD := pureF R_cut
def N_cut : FD := freshF R_cut
def lb_filled_1 : MS := mSeq (mIfS (mTest (mO2 fGt (mV 5) (mV 4))) (mDrop (mB R_put_behind (mCons (mV 3) (mCons (mV 4) (mCons (mO2 fSub (mV 5) (mC (.int 1))) (mCons (mC .non) (mNil))))))) (mNext)) (mSeq (mDrop (mB R_put_behind (mCons (mV 3) (mCons (mV 5) (mCons (mV 6) (mCons (mV 7) (mNil))))))) (mAsg (mO2 fAdd (mV 6) (mC (.int 1))) (gN 4)))
def m_filled : MS := mSeq (mAsg (mLstC (mNil)) (gN 3)) (mSeq (mAsg (mV 1) (gN 4)) (mSeq (mForL (mB F_cut (mCons (mV 0) (mCons (mV 1) (mCons (mV 2) (mNil))))) (gT [5, 6, 7]) (mSeq (mIfS (mTest (mO2 fGt (mV 5) (mV 4))) (mDrop (mB R_put_behind (mCons (mV 3) (mCons (mV 4) (mCons (mO2 fSub (mV 5) (mC (.int 1))) (mCons (mC .non) (mNil))))))) (mNext)) (mSeq (mDrop (mB R_put_behind (mCons (mV 3) (mCons (mV 5) (mCons (mV 6) (mCons (mV 7) (mNil))))))) (mAsg (mO2 fAdd (mV 6) (mC (.int 1))) (gN 4))))) (mSeq (mIfS (mTest (mO2 fLe (mV 4) (mV 2))) (mDrop (mB R_put_behind (mCons (mV 3) (mCons (mV 4) (mCons (mV 2) (mCons (mC .non) (mNil))))))) (mNext)) (mRet (mV 3)))))
def R_filled : FD := runB 3 8 m_filled
def F_filled : FD := pureF R_filled
def N_filled : FD := freshF R_filled
def m_law_cell : MS := mSeq (mIfS (mTest (mO2 fLt (mV 1) (mB fLen (mCons (mV 0) (mNil))))) (mRet (mO2 fIx (mV 0) (mV 1))) (mNext)) (mRet (mO2 fAdd (mO2 fMul (mC (.int 7919)) (mV 1)) (mC (.int 14))))
def R_law_cell : FD := runB 2 2 m_law_cell
def F_law_cell : FD := pureF R_law_cell
def N_law_cell : FD := freshF R_law_cell
def m_law_mixed : MS := mSeq (mIfS ((mAnd (mTest (mO2 fGe (mV 0) (mO2 fPow (mC (.int 10)) (mC (.int 18))))) (mTest (mO2 fGt (mO2 fShr (mV 0) (mO2 fMul (mC (.int 40)) (mV 1))) (mC (.int 0)))))) (mRet (mO2 fMod (mO2 fShr (mV 0) (mO2 fMul (mC (.int 40)) (mV 1))) (mO2 fPow (mC (.int 2)) (mC (.int 40))))) (mNext)) (mSeq (mAsg (mO2 fMod (mO2 fAdd (mV 0) (mO2 fMul (mC (.int 7919)) (mV 1))) (mC (.int 2147483647))) (gN 2)) (mSeq (mAsg (mO2 fMod (mO2 fAdd (mO2 fMul (mV 2) (mC (.int 48271))) (mV 1)) (mC (.int 2147483647))) (gN 2)) (mSeq (mAsg (mO2 fMod (mO2 fMul (mV 2) (mO2 fAdd (mV 2) (mC (.int 7)))) (mC (.int 2147483629))) (gN 2)) (mRet (mO2 fMod (mO2 fMul (mV 2) (mO2 fAdd (mV 2) (mC (.int 3)))) (mC (.int 2147483587)))))))
def R_law_mixed : FD := runB 2 3 m_law_mixed
def F_law_mixed : FD := pureF R_law_mixed
def N_law_mixed : FD := freshF R_law_mixed
def lb_law_rows_1 : MS := mSeq (mAsg (mB F_law_mixed (mCons (mV 0) (mCons (mO2 fAdd (mC (.int 2)) (mV 6)) (mNil)))) (gN 7)) (mSeq (mAsg (mO2 fAdd (mV 5) (mO2 fMul (mO2 fFdiv (mO2 fMod (mV 7) (mC (.int 4))) (mC (.int 2))) (mO2 fMod (mO2 fFdiv (mV 7) (mC (.int 4))) (mO2 fAdd (mC (.int 1)) (mO2 fFdiv (mV 3) (mC (.int 8))))))) (gN 8)) (mSeq (mAsg (mO2 fAdd (mV 8) (mO2 fMod (mO2 fFdiv (mV 7) (mC (.int 1024))) (mO2 fAdd (mC (.int 1)) (mO2 fFdiv (mV 3) (mC (.int 4)))))) (gN 9)) (mIfS (mTest (mO2 fLt (mV 9) (mV 3))) (mSeq (mAsg (mO2 fMod (mO2 fFdiv (mV 7) (mO2 fPow (mC (.int 2)) (mC (.int 20)))) (mO2 fAdd (mV 4) (mC (.int 1)))) (gN 10)) (mSeq (mIfS (mTest (mO2 fEq (mV 10) (mV 4))) (mAsg (mC .non) (gN 10)) (mIfS (mTest (mO2 fEq (mV 10) (mC (.int 1)))) (mAsg (mO2 fPow (mC (.int 10)) (mC (.int 9))) (gN 10)) (mNext))) (mSeq (mDrop (mMe .list fAppend (mV 2) (mCons (mTup (mCons (mV 8) (mCons (mV 9) (mCons (mV 10) (mNil))))) (mNil)))) (mAsg (mO2 fAdd (mV 9) (mC (.int 1))) (gN 5))))) (mNext))))
def m_law_rows : MS := mSeq (mAsg (mLstC (mNil)) (gN 2)) (mSeq (mAsg (mO2 fIx (mLst (mCons (mC (.int 40)) (mCons (mC (.int 400)) (mCons (mC (.int 7)) (mNil))))) (mO2 fMod (mB F_law_mixed (mCons (mV 0) (mCons (mC (.int 0)) (mNil)))) (mC (.int 3)))) (gN 3)) (mSeq (mAsg (mO2 fAdd (mC (.int 1)) (mO2 fMod (mB F_law_mixed (mCons (mV 0) (mCons (mC (.int 1)) (mNil)))) (mC (.int 4)))) (gN 4)) (mSeq (mAsg (mO2 fMod (mO2 fFdiv (mB F_law_mixed (mCons (mV 0) (mCons (mC (.int 0)) (mNil)))) (mC (.int 3))) (mV 3)) (gN 5)) (mSeq (mForR1 (mCons (mO2 fMod (mO2 fFdiv (mB F_law_mixed (mCons (mV 0) (mCons (mC (.int 1)) (mNil)))) (mC (.int 4))) (mO2 fAdd (mV 1) (mC (.int 1)))) (mNil)) (gN 6) (mSeq (mAsg (mB F_law_mixed (mCons (mV 0) (mCons (mO2 fAdd (mC (.int 2)) (mV 6)) (mNil)))) (gN 7)) (mSeq (mAsg (mO2 fAdd (mV 5) (mO2 fMul (mO2 fFdiv (mO2 fMod (mV 7) (mC (.int 4))) (mC (.int 2))) (mO2 fMod (mO2 fFdiv (mV 7) (mC (.int 4))) (mO2 fAdd (mC (.int 1)) (mO2 fFdiv (mV 3) (mC (.int 8))))))) (gN 8)) (mSeq (mAsg (mO2 fAdd (mV 8) (mO2 fMod (mO2 fFdiv (mV 7) (mC (.int 1024))) (mO2 fAdd (mC (.int 1)) (mO2 fFdiv (mV 3) (mC (.int 4)))))) (gN 9)) (mIfS (mTest (mO2 fLt (mV 9) (mV 3))) (mSeq (mAsg (mO2 fMod (mO2 fFdiv (mV 7) (mO2 fPow (mC (.int 2)) (mC (.int 20)))) (mO2 fAdd (mV 4) (mC (.int 1)))) (gN 10)) (mSeq (mIfS (mTest (mO2 fEq (mV 10) (mV 4))) (mAsg (mC .non) (gN 10)) (mIfS (mTest (mO2 fEq (mV 10) (mC (.int 1)))) (mAsg (mO2 fPow (mC (.int 10)) (mC (.int 9))) (gN 10)) (mNext))) (mSeq (mDrop (mMe .list fAppend (mV 2) (mCons (mTup (mCons (mV 8) (mCons (mV 9) (mCons (mV 10) (mNil))))) (mNil)))) (mAsg (mO2 fAdd (mV 9) (mC (.int 1))) (gN 5))))) (mNext)))))) (mRet (mV 2))))))
def R_law_rows : FD := runB 2 11 m_law_rows
def F_law_rows : FD := pureF R_law_rows
def N_law_rows : FD := freshF R_law_rows
def lb_law_days_1 : MS := mSetD (mO2 fIx (mV 2) (mC (.int 2))) (mV 1) (mV 3)
def lb_law_days_2 : MS := mForR2 (mCons (mO2 fIx (mV 2) (mC (.int 0))) (mCons (mO2 fAdd (mO2 fIx (mV 2) (mC (.int 1))) (mC (.int 1))) (mNil))) (gN 3) (mSetD (mO2 fIx (mV 2) (mC (.int 2))) (mV 1) (mV 3))
def m_law_days : MS := mSeq (mAsg (mDicC) (gN 1)) (mSeq (mForL (mV 0) (gN 2) (mForR2 (mCons (mO2 fIx (mV 2) (mC (.int 0))) (mCons (mO2 fAdd (mO2 fIx (mV 2) (mC (.int 1))) (mC (.int 1))) (mNil))) (gN 3) (mSetD (mO2 fIx (mV 2) (mC (.int 2))) (mV 1) (mV 3)))) (mRet (mV 1)))
def R_law_days : FD := runB 1 4 m_law_days
def F_law_days : FD := pureF R_law_days
def N_law_days : FD := freshF R_law_days
def lb_law_tidy_1 : MS := mSeq (mIfS ((mOr (mNot (mTest (mB fIsi (mCons (mV 3) (mCons (mC (.ty "tuple")) (mNil)))))) (mOr (mTest (mO2 fNe (mB fLen (mCons (mV 3) (mNil))) (mC (.int 3)))) (mOr (mTest (mB fIsi (mCons (mO2 fIx (mV 3) (mC (.int 0))) (mCons (mC (.ty "bool")) (mNil))))) (mTest (mO2 fGt (mO2 fIx (mV 3) (mC (.int 0))) (mO2 fIx (mV 3) (mC (.int 1))))))))) (mRet (mC (.bl false))) (mNext)) (mSeq (mIfS ((mAnd (mTest (mO2 fNotN (mV 2) (mC .non))) (mTest (mO2 fLe (mO2 fIx (mV 3) (mC (.int 0))) (mO2 fIx (mV 2) (mC (.int 1))))))) (mRet (mC (.bl false))) (mNext)) (mSeq (mIfS ((mAnd (mTest (mO2 fNotN (mV 2) (mC .non))) (mAnd (mTest (mO2 fEq (mO2 fIx (mV 3) (mC (.int 0))) (mO2 fAdd (mO2 fIx (mV 2) (mC (.int 1))) (mC (.int 1))))) (mTest (mO2 fEq (mO2 fIx (mV 3) (mC (.int 2))) (mO2 fIx (mV 2) (mC (.int 2)))))))) (mRet (mC (.bl false))) (mNext)) (mAsg (mV 3) (gN 2))))
def m_law_tidy : MS := mSeq (mIfS (mNot (mTest (mB fIsi (mCons (mV 0) (mCons (mC (.ty "list")) (mNil)))))) (mRet (mC (.bl false))) (mNext)) (mSeq (mAsg (mC .non) (gN 2)) (mSeq (mForL (mV 0) (gN 3) (mSeq (mIfS ((mOr (mNot (mTest (mB fIsi (mCons (mV 3) (mCons (mC (.ty "tuple")) (mNil)))))) (mOr (mTest (mO2 fNe (mB fLen (mCons (mV 3) (mNil))) (mC (.int 3)))) (mOr (mTest (mB fIsi (mCons (mO2 fIx (mV 3) (mC (.int 0))) (mCons (mC (.ty "bool")) (mNil))))) (mTest (mO2 fGt (mO2 fIx (mV 3) (mC (.int 0))) (mO2 fIx (mV 3) (mC (.int 1))))))))) (mRet (mC (.bl false))) (mNext)) (mSeq (mIfS ((mAnd (mTest (mO2 fNotN (mV 2) (mC .non))) (mTest (mO2 fLe (mO2 fIx (mV 3) (mC (.int 0))) (mO2 fIx (mV 2) (mC (.int 1))))))) (mRet (mC (.bl false))) (mNext)) (mSeq (mIfS ((mAnd (mTest (mO2 fNotN (mV 2) (mC .non))) (mAnd (mTest (mO2 fEq (mO2 fIx (mV 3) (mC (.int 0))) (mO2 fAdd (mO2 fIx (mV 2) (mC (.int 1))) (mC (.int 1))))) (mTest (mO2 fEq (mO2 fIx (mV 3) (mC (.int 2))) (mO2 fIx (mV 2) (mC (.int 2)))))))) (mRet (mC (.bl false))) (mNext)) (mAsg (mV 3) (gN 2)))))) (mRet (mO2 fEq (mB F_law_days (mCons (mV 0) (mNil))) (mV 1)))))
def R_law_tidy : FD := runB 2 4 m_law_tidy
def F_law_tidy : FD := pureF R_law_tidy
def N_law_tidy : FD := freshF R_law_tidy
end St
set_option Elab.async false
set_option linter.all false
set_option maxRecDepth 100000
namespace St
open PySem L2 Tp
/-! rows, strips -/
structure Row where
  f : Int
  l : Int
  m : Option Int
  deriving DecidableEq
def eO : Option Int → D
  | none => .non
  | some i => .int i
def Row.d (r : Row) : D := .tup [.int r.f, .int r.l, eO r.m]
def eS (s : List Row) : D := .lst (s.map Row.d)
theorem eO_noRef (o : Option Int) : noRef (eO o) = true := by cases o <;> rfl
theorem eO_flat (o : Option Int) : flatD (eO o) = true := by cases o <;> rfl
theorem eO_ok (o : Option Int) (n : Nat) : okD n (eO o) = true := by cases o <;> cases n <;> rfl
theorem d_noRef (r : Row) : noRef r.d = true := by simp [Row.d, noRef, noRefL, eO_noRef]
theorem d_flat (r : Row) : flatD r.d = true := by simp [Row.d, flatD, flatL, eO_flat]
theorem d_ok (r : Row) (n : Nat) : okD (n + 1) r.d = true := by
  have := eO_ok r.m n
  cases n <;> simp [Row.d, okD, okL, this]
theorem eS_noRefL (s : List Row) : noRefL (s.map Row.d) = true := by
  rw [noRefL_all, List.all_map, List.all_eq_true]
  intro r _; exact d_noRef r
theorem eS_flatL (s : List Row) : flatL (s.map Row.d) = true := by
  rw [flatL_all, List.all_map, List.all_eq_true]
  intro r _; exact d_flat r
theorem eS_noRef (s : List Row) : noRef (eS s) = true := by simp [eS, noRef, eS_noRefL]
theorem eS_okL (s : List Row) (n : Nat) : okL (n + 1) (s.map Row.d) = true := by
  rw [okL_all, List.all_map, List.all_eq_true]
  intro r _; exact d_ok r n
theorem eqD_eO (a b : Option Int) : eqD (eO a) (eO b) = decide (a = b) := by
  cases a <;> cases b <;> simp [eO, eqD]
  rename_i i j
  exact Bool.eq_iff_iff.mpr (by simp)
theorem eqD_row (a b : Row) : eqD a.d b.d = decide (a = b) := by
  cases a; cases b
  simp only [Row.d, eqD, eqDL, eqD_eO, Row.mk.injEq]
  rw [Bool.eq_iff_iff]
  simp
theorem eqDL_rows : ∀ a b : List Row, eqDL (a.map Row.d) (b.map Row.d) = decide (a = b)
  | [], [] => rfl
  | [], _ :: _ => rfl
  | _ :: _, [] => rfl
  | x :: a, y :: b => by
    simp only [List.map_cons, eqDL, eqD_row, eqDL_rows a b, List.cons.injEq]
    rw [Bool.eq_iff_iff]; simp
/-- a row behind a tidy strip -/
def pb (s : List Row) (r : Row) : List Row := match s.getLast? with
  | some q => if q.l + 1 = r.f ∧ q.m = r.m then s.dropLast ++ [⟨q.f, r.l, r.m⟩] else s ++ [r]
  | none => [r]
theorem pb_nil (r : Row) : pb [] r = [r] := rfl
theorem pb_snoc (s : List Row) (q r : Row) : pb (s ++ [q]) r = if q.l + 1 = r.f ∧ q.m = r.m then s ++ [⟨q.f, r.l, r.m⟩] else s ++ [q, r] := by
  unfold pb
  rw [List.getLast?_append, List.getLast?_singleton]
  simp
theorem frz_ref {h : List Cell} {n : Nat} {l : List D} (e : h[n]? = some (.lst l)) (hn : noRefL l = true) : frz h (.ref n) = some (.lst l) := by
  show resN 20 h n = some (.lst l)
  unfold resN
  rw [e]
  simp only [mapRL_noRef l hn]; rfl
theorem fEq_eO {h : List Cell} {a b : Option Int} : fEq h (eO a) (eO b) = some (.bl (decide (a = b))) := by
  have : scD (eO a) (eO b) = true := by cases a <;> cases b <;> rfl
  unfold fEq
  rw [if_pos this, eqD_eO]
theorem fNe_nil {h : List Cell} {n : Nat} {s : List Row} (e : h[n]? = some (.lst (s.map Row.d))) : fNe h (.ref n) (.lst []) = some (.bl (!decide (s = []))) := by
  unfold fNe fEq
  have h1 : scD (.ref n) (.lst []) = false := rfl
  have h2 : frz h (.lst []) = some (.lst []) := rfl
  rw [h1, frz_ref e (eS_noRefL s), h2]
  have h3 : okD 60 (.lst (s.map Row.d)) = true := by simp [okD, eS_okL s 58]
  have h4 : okD 60 (.lst []) = true := rfl
  simp only [Bool.false_eq_true, if_false, h3, h4, Bool.and_self, if_true]
  have := eqDL_rows s []
  simp only [List.map_nil] at this
  simp only [eqD, this]
theorem ixN_last {n : Nat} : ixN (n + 1) (-1) = some n := by
  unfold ixN
  rw [if_neg (by omega), if_pos (by omega)]
  congr 1; omega
theorem row_at0 (r : Row) {h : List Cell} : fIx h r.d (.int 0) = some (.int r.f) := rfl
theorem row_at1 (r : Row) {h : List Cell} : fIx h r.d (.int 1) = some (.int r.l) := rfl
theorem row_at2 (r : Row) {h : List Cell} : fIx h r.d (.int 2) = some (eO r.m) := rfl
theorem at_last {h : List Cell} {n : Nat} {s : List Row} {q : Row} (e : h[n]? = some (.lst ((s ++ [q]).map Row.d))) : fIx h (.ref n) (.int (-1)) = some q.d := by
  unfold fIx
  simp only [pk_ref, e]
  rw [List.map_append, List.map_singleton]
  exact atI_last _ _
theorem put_at {h : List Cell} {n : Nat} {s : List Row} {f l : Int} {m : Option Int} (e : h[n]? = some (.lst (s.map Row.d))) (hz : s.length < 1000000) (R : FD) (hR : R = runB 4 4 (mIfS ((mAnd (mTest (mO2 fNe (mV 0) (mLst (mNil)))) (mAnd (mTest (mO2 fEq (mO2 fAdd (mO2 fIx (mO2 fIx (mV 0) (mNeg (mC (.int 1)))) (mC (.int 1))) (mC (.int 1))) (mV 1))) (mTest (mO2 fEq (mO2 fIx (mO2 fIx (mV 0) (mNeg (mC (.int 1)))) (mC (.int 2))) (mV 3)))))) (mSetL (mTup (mCons (mO2 fIx (mO2 fIx (mV 0) (mNeg (mC (.int 1)))) (mC (.int 0))) (mCons (mV 2) (mCons (mV 3) (mNil))))) (mV 0) (mNeg (mC (.int 1)))) (mDrop (mMe .list fAppend (mV 0) (mCons (mTup (mCons (mV 1) (mCons (mV 2) (mCons (mV 3) (mNil))))) (mNil)))))) :
    R h [.ref n, .int f, .int l, eO m] = some (.non, h.set n (.lst ((pb s ⟨f, l, m⟩).map Row.d))) := by
  subst hR
  unfold runB
  rcases List.eq_nil_or_concat s with rfl | ⟨s, q, rfl⟩
  · simp [fNe_nil e, hasT, pk_ref, e, fAppend, pb_nil, Row.d]
  · simp only [List.concat_eq_append] at *
    have h1 : decide (s ++ [q] = []) = false := by simp
    have hz' : s.length + 1 < 1000000 := by simpa using hz
    by_cases hq : q.l + 1 = f
    · by_cases hm : q.m = m
      · simp [fNe_nil e, h1, at_last e, row_at0, row_at1, row_at2, fEq_eO, hq, hm, e, ixN_last, pb_snoc]
        rfl
      · simp [fNe_nil e, h1, at_last e, row_at0, row_at1, row_at2, fEq_eO, hq, hm, e, pb_snoc, hasT, pk_ref, fAppend, hz']
        rfl
    · simp [fNe_nil e, h1, at_last e, row_at0, row_at1, row_at2, fEq_eO, hq, e, pb_snoc, hasT, pk_ref, fAppend, hz']
      rfl
end St
set_option Elab.async false
set_option linter.all false
set_option maxRecDepth 100000
namespace St
open PySem L2 Tp
theorem put_ok {h : List Cell} {n : Nat} {s : List Row} {f l : Int} {m : Option Int} (e : h[n]? = some (.lst (s.map Row.d))) (hz : s.length < 1000000) : R_put_behind h [.ref n, .int f, .int l, eO m] = some (.non, h.set n (.lst ((pb s ⟨f, l, m⟩).map Row.d))) := put_at e hz _ rfl
theorem pb_len (s : List Row) (r : Row) : (pb s r).length ≤ s.length + 1 := by
  unfold pb
  split
  · split
    · simp <;> omega
    · simp
  · simp
/-! cut -/
def cstep (a b : Int) (acc : List Row) (r : Row) : List Row := if a ≤ r.l ∧ r.f ≤ b then pb acc ⟨max r.f a, min r.l b, r.m⟩ else acc
def cutL (s : List Row) (a b : Int) : List Row := s.foldl (cstep a b) []
theorem cstep_len (a b : Int) (acc : List Row) (r : Row) : (cstep a b acc r).length ≤ acc.length + 1 := by
  unfold cstep; split
  · exact pb_len _ _
  · omega
theorem foldl_len {f : List Row → Row → List Row} (hf : ∀ acc r, (f acc r).length ≤ acc.length + 1) : ∀ (s acc : List Row), (s.foldl f acc).length ≤ acc.length + s.length
  | [], acc => by simp
  | r :: s, acc => by
    have := foldl_len hf s (f acc r)
    have := hf acc r
    simp only [List.foldl_cons, List.length_cons]; omega
def cutBody : MS := mIfS ((mAnd (mTest (mO2 fGe (mV 5) (mV 1))) (mTest (mO2 fLe (mV 4) (mV 2))))) (mDrop (mB R_put_behind (mCons (mV 3) (mCons (mB fMax2 (mCons (mV 4) (mCons (mV 1) (mNil)))) (mCons (mB fMin2 (mCons (mV 5) (mCons (mV 2) (mNil)))) (mCons (mV 6) (mNil))))))) (mNext)
theorem cut_loop (x : D) (a b : Int) : ∀ (s acc : List Row) (g4 g5 g6 : Option D), acc.length + s.length < 1000000 →
    ∃ g4' g5' g6', forL (gT [4, 5, 6]) cutBody (s.map Row.d) [some x, some (.int a), some (.int b), some (.ref 0), g4, g5, g6] [.lst (acc.map Row.d)] = some (.nx [some x, some (.int a), some (.int b), some (.ref 0), g4', g5', g6'], [.lst ((s.foldl (cstep a b) acc).map Row.d)])
  | [], acc, g4, g5, g6, _ => ⟨g4, g5, g6, rfl⟩
  | r :: s, acc, g4, g5, g6, hz => by
    simp only [List.map_cons, forL_cons, List.foldl_cons]
    have hz1 : acc.length < 1000000 := by simp at hz; omega
    have hput := put_ok (h := [.lst (acc.map Row.d)]) (n := 0) (f := max r.f a) (l := min r.l b) (m := r.m) rfl hz1
    have hstep := cstep_len a b acc r
    have ih := cut_loop x a b s (cstep a b acc r) (some (.int r.f)) (some (.int r.l)) (some (eO r.m)) (by simp at hz; omega)
    by_cases c1 : a ≤ r.l
    · by_cases c2 : r.f ≤ b
      · have hc : cstep a b acc r = pb acc ⟨max r.f a, min r.l b, r.m⟩ := by unfold cstep; rw [if_pos ⟨c1, c2⟩]
        rw [hc] at ih ⊢
        simp [Row.d, cutBody, c1, c2, hput]
        exact ih
      · have hc : cstep a b acc r = acc := by unfold cstep; rw [if_neg (fun z => c2 z.2)]
        rw [hc] at ih ⊢
        simp [Row.d, cutBody, c1, c2]
        exact ih
    · have hc : cstep a b acc r = acc := by unfold cstep; rw [if_neg (fun z => c1 z.1)]
      rw [hc] at ih ⊢
      simp [Row.d, cutBody, c1]
      exact ih
theorem R_cut_ok (s : List Row) (a b : Int) (hz : s.length < 1000000) : R_cut [] [eS s, .int a, .int b] = some (.ref 0, [.lst ((cutL s a b).map Row.d)]) := by
  obtain ⟨g4, g5, g6, e⟩ := cut_loop (eS s) a b s [] none none none (by simpa using hz)
  unfold R_cut runB m_cut
  have e' : forL (gT [4, 5, 6]) cutBody (s.map Row.d) [some (eS s), some (.int a), some (.int b), some (.ref 0), none, none, none] [.lst []] = _ := e
  simp only [eS] at e' ⊢
  unfold cutBody at e'
  simp [e', cutL]
end St
set_option Elab.async false
set_option linter.all false
set_option maxRecDepth 100000
namespace St
open PySem L2 Tp
/-! calls: a strip by value, or one in a cell -/
/-- x stands for the strip s among the cells h -/
def IsS (h : List Cell) (x : D) (s : List Row) : Prop := x = eS s ∨ ∃ n, x = .ref n ∧ h[n]? = some (.lst (s.map Row.d))
theorem IsS.frz {h : List Cell} {x : D} {s : List Row} (i : IsS h x s) : mapR (resN 20 h) x = some (eS s) := by
  rcases i with rfl | ⟨n, rfl, e⟩
  · exact mapR_noRef _ (eS_noRef s)
  · exact frz_ref e (eS_noRefL s)
theorem frzR {h : List Cell} {n : Nat} {s : List Row} (e : h[n]? = some (.lst (s.map Row.d))) : Tp.frz h (.ref n) = some (eS s) := frz_ref e (eS_noRefL s)
theorem args3 {h : List Cell} {x : D} {s : List Row} {a b : Int} (i : IsS h x s) : mapRL (resN 20 h) [x, .int a, .int b] = some [eS s, .int a, .int b] := by
  simp only [mapRL, i.frz]; rfl
theorem cutL_len (s : List Row) (a b : Int) : (cutL s a b).length ≤ s.length := by
  have := foldl_len (cstep_len a b) s []
  simpa [cutL] using this
theorem F_cut_v {h : List Cell} (s : List Row) (a b : Int) (hz : s.length < 1000000) : F_cut h [eS s, .int a, .int b] = some (eS (cutL s a b), h) :=
  pureF_no (by simp [noRefL, eS_noRef, noRef]) (R_cut_ok s a b hz) (frzR rfl)
theorem N_cut_ok {h : List Cell} {x : D} {s : List Row} {a b : Int} (i : IsS h x s) (hz : s.length < 1000000) : N_cut h [x, .int a, .int b] = some (.ref h.length, h ++ [.lst ((cutL s a b).map Row.d)]) := by
  unfold N_cut freshF
  simp [args3 i, R_cut_ok s a b hz, eS_noRefL, eS_flatL]
/-! filled -/
def fstep (p : List Row × Int) (r : Row) : List Row × Int := (pb (if p.2 < r.f then pb p.1 ⟨p.2, r.f - 1, none⟩ else p.1) r, r.l + 1)
def fillG (c : List Row) (a b : Int) : List Row := let p := c.foldl fstep ([], a); if p.2 ≤ b then pb p.1 ⟨p.2, b, none⟩ else p.1
def filledL (s : List Row) (a b : Int) : List Row := fillG (cutL s a b) a b
theorem fstep_len (p : List Row × Int) (r : Row) : (fstep p r).1.length ≤ p.1.length + 2 := by
  unfold fstep
  simp only
  split
  · have h1 := pb_len p.1 ⟨p.2, r.f - 1, none⟩
    have h2 := pb_len (pb p.1 ⟨p.2, r.f - 1, none⟩) r
    omega
  · have h2 := pb_len p.1 r
    omega
theorem ffold_len : ∀ (c : List Row) (p : List Row × Int), (c.foldl fstep p).1.length ≤ p.1.length + 2 * c.length
  | [], p => by simp
  | r :: c, p => by
    have := ffold_len c (fstep p r)
    have := fstep_len p r
    simp only [List.foldl_cons, List.length_cons]; omega
theorem filledL_len (s : List Row) (a b : Int) : (filledL s a b).length ≤ 2 * s.length + 1 := by
  have h1 := ffold_len (cutL s a b) ([], a)
  have h2 := cutL_len s a b
  unfold filledL fillG
  simp only
  split
  · have h3 := pb_len ((cutL s a b).foldl fstep ([], a)).1 ⟨((cutL s a b).foldl fstep ([], a)).2, b, none⟩
    simp at h1; omega
  · simp at h1; omega
def fillBody : MS := mSeq (mIfS (mTest (mO2 fGt (mV 5) (mV 4))) (mDrop (mB R_put_behind (mCons (mV 3) (mCons (mV 4) (mCons (mO2 fSub (mV 5) (mC (.int 1))) (mCons (mC .non) (mNil))))))) (mNext)) (mSeq (mDrop (mB R_put_behind (mCons (mV 3) (mCons (mV 5) (mCons (mV 6) (mCons (mV 7) (mNil))))))) (mAsg (mO2 fAdd (mV 6) (mC (.int 1))) (gN 4)))
theorem fill_loop (x : D) (a b : Int) : ∀ (c : List Row) (acc : List Row) (day : Int) (g5 g6 g7 : Option D), acc.length + 2 * c.length < 900000 →
    ∃ g5' g6' g7', forL (gT [5, 6, 7]) fillBody (c.map Row.d) [some x, some (.int a), some (.int b), some (.ref 0), some (.int day), g5, g6, g7] [.lst (acc.map Row.d)] = some (.nx [some x, some (.int a), some (.int b), some (.ref 0), some (.int (c.foldl fstep (acc, day)).2), g5', g6', g7'], [.lst ((c.foldl fstep (acc, day)).1.map Row.d)])
  | [], acc, day, g5, g6, g7, _ => ⟨g5, g6, g7, rfl⟩
  | r :: c, acc, day, g5, g6, g7, hz => by
    simp only [List.map_cons, forL_cons, List.foldl_cons]
    have hz1 : acc.length < 1000000 := by simp at hz; omega
    have hs : (fstep (acc, day) r).1.length ≤ acc.length + 2 := fstep_len (acc, day) r
    have ih := fill_loop x a b c (fstep (acc, day) r).1 (fstep (acc, day) r).2 (some (.int r.f)) (some (.int r.l)) (some (eO r.m)) (by simp at hz; omega)
    by_cases c1 : day < r.f
    · have hput := put_ok (h := [.lst (acc.map Row.d)]) (n := 0) (f := day) (l := r.f - 1) (m := none) rfl hz1
      have hz2 : (pb acc ⟨day, r.f - 1, none⟩).length < 1000000 := by have := pb_len acc ⟨day, r.f - 1, none⟩; simp at hz; omega
      have hput2 := put_ok (h := [.lst ((pb acc ⟨day, r.f - 1, none⟩).map Row.d)]) (n := 0) (f := r.f) (l := r.l) (m := r.m) rfl hz2
      have hc : fstep (acc, day) r = (pb (pb acc ⟨day, r.f - 1, none⟩) r, r.l + 1) := by unfold fstep; simp [c1]
      rw [hc] at ih ⊢
      simp only [eO] at hput
      simp [Row.d, fillBody, c1, hput, hput2]
      exact ih
    · have hput2 := put_ok (h := [.lst (acc.map Row.d)]) (n := 0) (f := r.f) (l := r.l) (m := r.m) rfl hz1
      have hc : fstep (acc, day) r = (pb acc r, r.l + 1) := by unfold fstep; simp [c1]
      rw [hc] at ih ⊢
      simp [Row.d, fillBody, c1, hput2]
      exact ih
theorem R_filled_ok (s : List Row) (a b : Int) (hz : s.length < 400000) : R_filled [] [eS s, .int a, .int b] = some (.ref 0, [.lst ((filledL s a b).map Row.d)]) := by
  have hl := cutL_len s a b
  obtain ⟨g5, g6, g7, e⟩ := fill_loop (eS s) a b (cutL s a b) [] a none none none (by simp; omega)
  have e' : forL (gT [5, 6, 7]) fillBody ((cutL s a b).map Row.d) [some (eS s), some (.int a), some (.int b), some (.ref 0), some (.int a), none, none, none] [.lst []] = _ := e
  have hcut : F_cut [.lst []] [eS s, .int a, .int b] = some (.lst ((cutL s a b).map Row.d), [.lst []]) := F_cut_v s a b (by omega)
  unfold R_filled runB m_filled
  unfold fillBody at e'
  by_cases c1 : ((cutL s a b).foldl fstep ([], a)).2 ≤ b
  · have hf := ffold_len (cutL s a b) ([], a)
    have hz1 : ((cutL s a b).foldl fstep ([], a)).1.length < 1000000 := by simp at hf; omega
    have hput := put_ok (h := [.lst (((cutL s a b).foldl fstep ([], a)).1.map Row.d)]) (n := 0) (f := ((cutL s a b).foldl fstep ([], a)).2) (l := b) (m := none) rfl hz1
    simp only [eO] at hput
    simp [hcut, e', filledL, fillG, c1, hput]
  · simp [hcut, e', filledL, fillG, c1]
theorem F_filled_v {h : List Cell} (s : List Row) (a b : Int) (hz : s.length < 400000) : F_filled h [eS s, .int a, .int b] = some (eS (filledL s a b), h) :=
  pureF_no (by simp [noRefL, eS_noRef, noRef]) (R_filled_ok s a b hz) (frzR rfl)
theorem N_filled_ok {h : List Cell} {x : D} {s : List Row} {a b : Int} (i : IsS h x s) (hz : s.length < 400000) : N_filled h [x, .int a, .int b] = some (.ref h.length, h ++ [.lst ((filledL s a b).map Row.d)]) := by
  unfold N_filled freshF
  simp [args3 i, R_filled_ok s a b hz, eS_noRefL, eS_flatL]
end St
set_option Elab.async false
set_option linter.all false
set_option maxRecDepth 100000
namespace St
open PySem L2 Tp
/-! the days of a strip -/
abbrev DL := List (Int × Option Int)
def span (f : Int) (n : Nat) (m : Option Int) : DL := (List.range n).map fun i => (f + (i : Nat), m)
def rowDays (r : Row) : DL := span r.f (r.l + 1 - r.f).toNat r.m
def daysL (s : List Row) : DL := s.flatMap rowDays
def Asc (L : DL) : Prop := L.Pairwise fun p q => p.1 < q.1
def look (L : DL) (d : Int) : Option (Option Int) := (L.find? fun p => decide (p.1 = d)).map (·.2)
theorem mem_span {f : Int} {n : Nat} {m : Option Int} {p : Int × Option Int} : p ∈ span f n m ↔ f ≤ p.1 ∧ p.1 < f + n ∧ p.2 = m := by
  unfold span
  simp only [List.mem_map, List.mem_range]
  constructor
  · rintro ⟨i, hi, rfl⟩
    exact ⟨by simp; omega, by simp; omega, rfl⟩
  · rintro ⟨h1, h2, h3⟩
    refine ⟨(p.1 - f).toNat, by omega, ?_⟩
    ext1
    · simp; omega
    · exact h3.symm
theorem span_add (f : Int) (a b : Nat) (m : Option Int) : span f (a + b) m = span f a m ++ span (f + a) b m := by
  unfold span
  rw [List.range_add, List.map_append, List.map_map]
  congr 1
  apply List.map_congr_left
  intro i _
  simp; omega
theorem span_asc (f : Int) (n : Nat) (m : Option Int) : Asc (span f n m) := by
  unfold Asc span
  rw [List.pairwise_map]
  refine List.Pairwise.imp ?_ List.pairwise_lt_range
  intro a b h; simp only; omega
theorem mem_rowDays {r : Row} {p : Int × Option Int} : p ∈ rowDays r ↔ r.f ≤ p.1 ∧ p.1 ≤ r.l ∧ p.2 = r.m := by
  unfold rowDays
  rw [mem_span]
  constructor <;> rintro ⟨a, b, c⟩ <;> exact ⟨a, by omega, c⟩
theorem asc_ext : ∀ {a b : DL}, Asc a → Asc b → (∀ p, p ∈ a ↔ p ∈ b) → a = b
  | [], [], _, _, _ => rfl
  | [], y :: b, _, _, h => absurd ((h y).2 (List.mem_cons_self)) (by simp)
  | x :: a, [], _, _, h => absurd ((h x).1 (List.mem_cons_self)) (by simp)
  | x :: a, y :: b, ha, hb, h => by
    unfold Asc at ha hb
    rw [List.pairwise_cons] at ha hb
    have hxy : x = y := by
      have h1 := (h x).1 List.mem_cons_self
      have h2 := (h y).2 List.mem_cons_self
      rcases List.mem_cons.1 h1 with e | h1
      · exact e
      · rcases List.mem_cons.1 h2 with e | h2
        · exact e.symm
        · have := hb.1 x h1; have := ha.1 y h2; omega
    subst hxy
    congr 1
    refine asc_ext ha.2 hb.2 fun p => ?_
    constructor
    · intro hp
      rcases List.mem_cons.1 ((h p).1 (List.mem_cons_of_mem _ hp)) with e | hp'
      · have := ha.1 p hp; rw [e] at this; omega
      · exact hp'
    · intro hp
      rcases List.mem_cons.1 ((h p).2 (List.mem_cons_of_mem _ hp)) with e | hp'
      · have := hb.1 p hp; rw [e] at this; omega
      · exact hp'
theorem look_mem {L : DL} (ha : Asc L) {d : Int} {m : Option Int} : look L d = some m ↔ (d, m) ∈ L := by
  induction L with
  | nil => simp [look]
  | cons x L ih =>
    unfold Asc at ha
    rw [List.pairwise_cons] at ha
    have ih := ih ha.2
    unfold look at ih ⊢
    by_cases hx : x.1 = d
    · rw [List.find?_cons_of_pos (by simpa using hx)]
      simp only [Option.map_some, Option.some.injEq, List.mem_cons]
      constructor
      · intro e; left; ext1; exact hx.symm; exact e.symm
      · rintro (e | hm)
        · rw [← e]
        · have := ha.1 _ hm; simp only at this; omega
    · rw [List.find?_cons_of_neg (by simpa using hx), ih, List.mem_cons]
      constructor
      · exact Or.inr
      · rintro (e | hm)
        · rw [← e] at hx; exact absurd rfl hx
        · exact hm
theorem look_none {L : DL} {d : Int} : look L d = none ↔ ∀ m, (d, m) ∉ L := by
  unfold look
  rw [Option.map_eq_none_iff, List.find?_eq_none]
  constructor
  · intro h m hm; exact absurd (h _ hm) (by simp)
  · intro h p hp
    simp only [decide_eq_true_eq]
    intro e; exact h p.2 (by rw [← e]; exact hp)
/-! rising strips -/
def Ris : Int → List Row → Prop
  | _, [] => True
  | lo, r :: s => lo ≤ r.f ∧ r.f ≤ r.l ∧ Ris (r.l + 1) s
theorem Ris.low {lo lo' : Int} : ∀ {s : List Row}, Ris lo s → lo' ≤ lo → Ris lo' s
  | [], _, _ => trivial
  | r :: s, h, e => ⟨by have := h.1; omega, h.2⟩
theorem ris_mem : ∀ {s : List Row} {lo : Int}, Ris lo s → ∀ p ∈ daysL s, lo ≤ p.1
  | [], _, _, p, hp => by simp [daysL] at hp
  | r :: s, lo, h, p, hp => by
    unfold daysL at hp
    rw [List.flatMap_cons, List.mem_append] at hp
    rcases hp with hp | hp
    · have := (mem_rowDays.1 hp).1; have := h.1; omega
    · have := ris_mem h.2.2 p hp; have := h.1; have := h.2.1; omega
theorem ris_asc : ∀ {s : List Row} {lo : Int}, Ris lo s → Asc (daysL s)
  | [], _, _ => List.Pairwise.nil
  | r :: s, lo, h => by
    unfold daysL Asc
    rw [List.flatMap_cons, List.pairwise_append]
    refine ⟨span_asc _ _ _, ris_asc h.2.2, fun a ha b hb => ?_⟩
    have := (mem_rowDays.1 ha).2.1
    have := ris_mem h.2.2 b hb
    omega
theorem daysL_app (s t : List Row) : daysL (s ++ t) = daysL s ++ daysL t := List.flatMap_append
theorem daysL_one (r : Row) : daysL [r] = rowDays r := by simp [daysL]
theorem daysL_cons (r : Row) (s : List Row) : daysL (r :: s) = rowDays r ++ daysL s := List.flatMap_cons
/-! tidy strips -/
def nxt (q r : Row) : Prop := q.l < r.f ∧ ¬(q.l + 1 = r.f ∧ q.m = r.m)
def Tid : List Row → Prop
  | [] => True
  | [r] => r.f ≤ r.l
  | q :: r :: s => q.f ≤ q.l ∧ nxt q r ∧ Tid (r :: s)
theorem Tid.tail {r : Row} : ∀ {s : List Row}, Tid (r :: s) → Tid s
  | [], _ => trivial
  | _ :: _, h => h.2.2
theorem Tid.head {r : Row} : ∀ {s : List Row}, Tid (r :: s) → r.f ≤ r.l
  | [], h => h
  | _ :: _, h => h.1
theorem Tid.ris : ∀ {r : Row} {s : List Row}, Tid (r :: s) → Ris r.f (r :: s)
  | r, [], h => ⟨by omega, h, trivial⟩
  | q, r :: s, h => ⟨by omega, h.1, by have := h.2.1.1; exact (Tid.ris h.2.2).low (by omega)⟩
theorem Tid.asc : ∀ {s : List Row}, Tid s → Asc (daysL s)
  | [], _ => List.Pairwise.nil
  | _ :: _, h => ris_asc h.ris
theorem tid_snoc : ∀ {s : List Row} {q r : Row}, Tid (s ++ [q]) → nxt q r → r.f ≤ r.l → Tid (s ++ [q, r])
  | [], q, r, h, n, e => ⟨h, n, e⟩
  | [a], q, r, h, n, e => ⟨h.1, h.2.1, h.2.2, n, e⟩
  | a :: b :: s, q, r, h, n, e => ⟨h.1, h.2.1, tid_snoc (s := b :: s) h.2.2 n e⟩
theorem tid_ext : ∀ {s : List Row} {q : Row} {l : Int}, Tid (s ++ [q]) → q.l ≤ l → Tid (s ++ [⟨q.f, l, q.m⟩])
  | [], q, l, h, e => by show q.f ≤ l; have : q.f ≤ q.l := h; omega
  | [a], q, l, h, e => by
    refine ⟨h.1, ?_, ?_⟩
    · exact h.2.1
    · show q.f ≤ l; have : q.f ≤ q.l := h.2.2; omega
  | a :: b :: s, q, l, h, e => ⟨h.1, h.2.1, tid_ext (s := b :: s) h.2.2 e⟩
/-- the last day of a strip that is not empty -/
def Below (s : List Row) (d : Int) : Prop := ∀ q, s.getLast? = some q → q.l < d
theorem pb_tid {s : List Row} {r : Row} (h : Tid s) (hb : Below s r.f) (e : r.f ≤ r.l) : Tid (pb s r) ∧ Below (pb s r) (r.l + 1) ∧ daysL (pb s r) = daysL s ++ rowDays r := by
  rcases List.eq_nil_or_concat s with rfl | ⟨s, q, rfl⟩
  · refine ⟨e, ?_, by simp [pb_nil, daysL]⟩
    intro q hq
    simp [pb_nil] at hq
    subst hq; omega
  · simp only [List.concat_eq_append] at *
    have hq : q.l < r.f := hb q (by simp)
    rw [pb_snoc]
    split
    · rename_i hc
      refine ⟨?_, ?_, ?_⟩
      · rw [← hc.2]; exact tid_ext h (by omega)
      · intro q' hq'
        simp at hq'
        subst hq'; show r.l < r.l + 1; omega
      · have hf : q.f ≤ q.l := by
          clear hb hc hq e
          induction s with
          | nil => exact h
          | cons a s ih => exact ih h.tail
        rw [daysL_app, daysL_app, daysL_one, daysL_one, List.append_assoc]
        congr 1
        unfold rowDays
        rw [hc.2, ← hc.1]
        have e1 : (r.l + 1 - q.f).toNat = (q.l + 1 - q.f).toNat + (r.l + 1 - (q.l + 1)).toNat := by omega
        simp only
        rw [e1, span_add]
        congr 2
        omega
    · rename_i hc
      refine ⟨tid_snoc h ⟨hq, hc⟩ e, ?_, ?_⟩
      · intro q' hq'
        simp at hq'
        subst hq'; omega
      · rw [show s ++ [q, r] = (s ++ [q]) ++ [r] by simp, daysL_app, daysL_one]
/-- a tidy strip is what its days say -/
theorem tid_ext_days : ∀ {s t : List Row}, Tid s → Tid t → daysL s = daysL t → s = t
  | [], [], _, _, _ => rfl
  | [], r :: t, _, h, e => by
    have : (r.f, r.m) ∈ daysL ([] : List Row) := by rw [e, daysL_cons]; exact List.mem_append_left _ (mem_rowDays.2 ⟨by simp, h.head, rfl⟩)
    simp [daysL] at this
  | r :: s, [], h, _, e => by
    have : (r.f, r.m) ∈ daysL ([] : List Row) := by rw [← e, daysL_cons]; exact List.mem_append_left _ (mem_rowDays.2 ⟨by simp, h.head, rfl⟩)
    simp [daysL] at this
  | q :: s, r :: t, hs, ht, e => by
    have key : ∀ {q r : Row} {s t : List Row}, Tid (q :: s) → Tid (r :: t) → daysL (q :: s) = daysL (r :: t) → r.f ≤ q.f ∧ (q.f = r.f → q.m = r.m ∧ r.l ≤ q.l) := by
      intro q r s t hs ht e
      have m1 : (q.f, q.m) ∈ daysL (r :: t) := by rw [← e, daysL_cons]; exact List.mem_append_left _ (mem_rowDays.2 ⟨by simp, hs.head, rfl⟩)
      have h1 := ris_mem ht.ris _ m1
      refine ⟨h1, fun ef => ?_⟩
      have hm : q.m = r.m := by
        rw [daysL_cons, List.mem_append] at m1
        rcases m1 with m1 | m1
        · exact (mem_rowDays.1 m1).2.2
        · have := ris_mem ht.ris.2.2 _ m1
          have := ht.head
          simp only at *; omega
      refine ⟨hm, ?_⟩
      apply Classical.byContradiction
      intro hl
      have m2 : (q.l + 1, r.m) ∈ daysL (q :: s) := by
        rw [e, daysL_cons]
        refine List.mem_append_left _ (mem_rowDays.2 ⟨?_, ?_, rfl⟩)
        · have := hs.head; simp only; omega
        · simp only; omega
      rw [daysL_cons, List.mem_append] at m2
      rcases m2 with m2 | m2
      · have := (mem_rowDays.1 m2).2.1; simp only at this; omega
      · cases s with
        | nil => simp [daysL] at m2
        | cons a s =>
          have hn := hs.2.1
          rw [daysL_cons, List.mem_append] at m2
          rcases m2 with m2 | m2
          · have h3 := mem_rowDays.1 m2
            simp only at h3
            have := hn.1
            refine hn.2 ⟨by omega, ?_⟩
            rw [hm]; exact h3.2.2
          · have h4 := ris_mem hs.tail.ris.2.2 _ m2
            have := hs.tail.head
            have := hn.1
            simp only at h4; omega
    have k1 := key hs ht e
    have k2 := key ht hs e.symm
    have ef : q.f = r.f := by have := k1.1; have := k2.1; omega
    have em := (k1.2 ef).1
    have el : q.l = r.l := by have := (k1.2 ef).2; have := (k2.2 ef.symm).2; omega
    have eq : q = r := by cases q; cases r; simp only at ef em el; rw [ef, em, el]
    subst eq
    congr 1
    refine tid_ext_days hs.tail ht.tail ?_
    rw [daysL_cons, daysL_cons] at e
    exact List.append_cancel_left e
/-! cut -/
def inR (a b : Int) (p : Int × Option Int) : Bool := decide (a ≤ p.1) && decide (p.1 ≤ b)
theorem span_filter (f l a b : Int) (m : Option Int) (ha : a ≤ l) (hb : f ≤ b) : (rowDays ⟨f, l, m⟩).filter (inR a b) = rowDays ⟨max f a, min l b, m⟩ := by
  refine asc_ext ((span_asc _ _ _).filter _) (span_asc _ _ _) fun p => ?_
  rw [List.mem_filter, mem_rowDays, mem_rowDays]
  simp only [inR, Bool.and_eq_true, decide_eq_true_eq]
  constructor
  · rintro ⟨⟨h1, h2, h3⟩, h4, h5⟩; exact ⟨by omega, by omega, h3⟩
  · rintro ⟨h1, h2, h3⟩; exact ⟨⟨by omega, by omega, h3⟩, by omega, by omega⟩
theorem cut_fold (a b : Int) (hab : a ≤ b) : ∀ (s acc : List Row) (lo : Int), Ris lo s → Tid acc → Below acc lo →
    Tid (s.foldl (cstep a b) acc) ∧ daysL (s.foldl (cstep a b) acc) = daysL acc ++ (daysL s).filter (inR a b)
  | [], acc, lo, _, h, _ => ⟨h, by simp [daysL]⟩
  | r :: s, acc, lo, hr, h, hb => by
    simp only [List.foldl_cons]
    have h1 := hr.1
    have h2 := hr.2.1
    by_cases hc : a ≤ r.l ∧ r.f ≤ b
    · have hs : cstep a b acc r = pb acc ⟨max r.f a, min r.l b, r.m⟩ := by unfold cstep; rw [if_pos hc]
      rw [hs]
      have hp := pb_tid (r := ⟨max r.f a, min r.l b, r.m⟩) h (fun q hq => by have := hb q hq; simp only; omega) (by simp only; omega)
      have := cut_fold a b hab s _ (r.l + 1) hr.2.2 hp.1 (fun q hq => by have := hp.2.1 q hq; simp only at this; omega)
      refine ⟨this.1, ?_⟩
      rw [this.2, hp.2.2, daysL_cons, List.filter_append, List.append_assoc, span_filter r.f r.l a b r.m (by omega) (by omega)]
    · have hs : cstep a b acc r = acc := by unfold cstep; rw [if_neg hc]
      rw [hs]
      have := cut_fold a b hab s acc (r.l + 1) hr.2.2 h (fun q hq => by have := hb q hq; omega)
      refine ⟨this.1, ?_⟩
      rw [this.2, daysL_cons, List.filter_append]
      have : (rowDays r).filter (inR a b) = [] := by
        rw [List.filter_eq_nil_iff]
        intro p hp
        have := mem_rowDays.1 hp
        simp only [inR, Bool.and_eq_true, decide_eq_true_eq]
        omega
      rw [this]; rfl
theorem cut_tid {s : List Row} {lo a b : Int} (hab : a ≤ b) (h : Ris lo s) : Tid (cutL s a b) ∧ daysL (cutL s a b) = (daysL s).filter (inR a b) := by
  have := cut_fold a b hab s [] lo h trivial (fun q hq => by simp at hq)
  refine ⟨this.1, by simpa [daysL, cutL] using this.2⟩
/-! filled -/
def fillDays (L : DL) (a b : Int) : DL := (List.range (b + 1 - a).toNat).map fun i => (a + (i : Nat), (look L (a + (i : Nat))).getD none)
theorem mem_fill {L : DL} {a b : Int} {p : Int × Option Int} : p ∈ fillDays L a b ↔ a ≤ p.1 ∧ p.1 ≤ b ∧ p.2 = (look L p.1).getD none := by
  unfold fillDays
  simp only [List.mem_map, List.mem_range]
  constructor
  · rintro ⟨i, hi, rfl⟩; exact ⟨by simp; omega, by simp; omega, rfl⟩
  · rintro ⟨h1, h2, h3⟩
    refine ⟨(p.1 - a).toNat, by omega, ?_⟩
    have : a + ((p.1 - a).toNat : Int) = p.1 := by omega
    rw [this]
    ext1
    · rfl
    · exact h3.symm
theorem fill_asc (L : DL) (a b : Int) : Asc (fillDays L a b) := by
  unfold Asc fillDays
  rw [List.pairwise_map]
  refine List.Pairwise.imp ?_ List.pairwise_lt_range
  intro x y h; simp only; omega
/-- the rows c, from day on, with none between -/
def gaps : List Row → Int → Int → DL
  | [], day, b => rowDays ⟨day, b, none⟩
  | r :: c, day, b => rowDays ⟨day, r.f - 1, none⟩ ++ rowDays r ++ gaps c (r.l + 1) b
theorem rowDays_no {f l : Int} {m : Option Int} (h : l < f) : rowDays ⟨f, l, m⟩ = [] := by
  unfold rowDays
  have : (l + 1 - f).toNat = 0 := by omega
  simp only [this]; rfl
def fin (p : List Row × Int) (b : Int) : List Row := if p.2 ≤ b then pb p.1 ⟨p.2, b, none⟩ else p.1
theorem fill_fold (b : Int) : ∀ (c acc : List Row) (day : Int), Ris day c → Tid acc → Below acc day → (∀ p ∈ daysL c, p.1 ≤ b) →
    Tid (fin (c.foldl fstep (acc, day)) b) ∧ daysL (fin (c.foldl fstep (acc, day)) b) = daysL acc ++ gaps c day b
  | [], acc, day, _, h, hb, _ => by
    simp only [List.foldl_nil]
    by_cases hc : day ≤ b
    · have hp := pb_tid (r := ⟨day, b, none⟩) h hb hc
      have hs : fin (acc, day) b = pb acc ⟨day, b, none⟩ := by unfold fin; rw [if_pos hc]
      rw [hs]
      exact ⟨hp.1, hp.2.2⟩
    · have hs : fin (acc, day) b = acc := by unfold fin; rw [if_neg hc]
      rw [hs]
      refine ⟨h, ?_⟩
      unfold gaps
      rw [rowDays_no (by omega)]; simp
  | r :: c, acc, day, hr, h, hb, hin => by
    simp only [List.foldl_cons]
    have h1 := hr.1
    have h2 := hr.2.1
    have hin' : ∀ p ∈ daysL c, p.1 ≤ b := fun p hp => hin p (by rw [daysL_cons]; exact List.mem_append_right _ hp)
    by_cases hd : day < r.f
    · have hp := pb_tid (r := ⟨day, r.f - 1, none⟩) h hb (by simp only; omega)
      have hq := pb_tid (r := r) hp.1 (fun q hq => by have := hp.2.1 q hq; simp only at this; omega) h2
      have hf : fstep (acc, day) r = (pb (pb acc ⟨day, r.f - 1, none⟩) r, r.l + 1) := by unfold fstep; simp [hd]
      rw [hf]
      have := fill_fold b c _ (r.l + 1) hr.2.2 hq.1 hq.2.1 hin'
      refine ⟨this.1, ?_⟩
      rw [this.2, hq.2.2, hp.2.2]
      simp [gaps]
    · have hq := pb_tid (r := r) h (fun q hq => by have := hb q hq; omega) h2
      have hf : fstep (acc, day) r = (pb acc r, r.l + 1) := by unfold fstep; simp [hd]
      rw [hf]
      have := fill_fold b c _ (r.l + 1) hr.2.2 hq.1 hq.2.1 hin'
      refine ⟨this.1, ?_⟩
      rw [this.2, hq.2.2]
      have hg : gaps (r :: c) day b = rowDays ⟨day, r.f - 1, none⟩ ++ rowDays r ++ gaps c (r.l + 1) b := rfl
      rw [hg, rowDays_no (f := day) (by omega)]
      simp
theorem gaps_mem : ∀ (c : List Row) (day b : Int), Ris day c → (∀ p ∈ daysL c, p.1 ≤ b) → ∀ p, p ∈ gaps c day b ↔ day ≤ p.1 ∧ p.1 ≤ b ∧ (p ∈ daysL c ∨ ((∀ m, (p.1, m) ∉ daysL c) ∧ p.2 = none))
  | [], day, b, _, _, p => by
    unfold gaps
    rw [mem_rowDays]
    simp [daysL]
  | r :: c, day, b, hr, hin, p => by
    have h1 := hr.1
    have h2 := hr.2.1
    have hin' : ∀ p ∈ daysL c, p.1 ≤ b := fun p hp => hin p (by rw [daysL_cons]; exact List.mem_append_right _ hp)
    have hrb : r.l ≤ b := hin (r.l, r.m) (by rw [daysL_cons]; exact List.mem_append_left _ (mem_rowDays.2 ⟨h2, by simp, rfl⟩))
    have ih := gaps_mem c (r.l + 1) b hr.2.2 hin' p
    have hlow := fun m (hm : (p.1, m) ∈ daysL c) => ris_mem hr.2.2 _ hm
    have hlow' := fun (hm : p ∈ daysL c) => ris_mem hr.2.2 _ hm
    unfold gaps
    rw [List.mem_append, List.mem_append, mem_rowDays, mem_rowDays, ih, daysL_cons]
    simp only [List.mem_append, mem_rowDays]
    constructor
    · rintro ((⟨a1, a2, a3⟩ | ⟨a1, a2, a3⟩) | ⟨a1, a2, a3⟩)
      · refine ⟨a1, by omega, .inr ⟨fun m hm => ?_, a3⟩⟩
        rcases hm with ⟨b1, _, _⟩ | hm
        · omega
        · have := hlow m hm; simp only at this; omega
      · exact ⟨by omega, by omega, .inl (.inl ⟨a1, a2, a3⟩)⟩
      · refine ⟨by omega, a2, ?_⟩
        rcases a3 with a3 | ⟨a3, a4⟩
        · exact .inl (.inr a3)
        · refine .inr ⟨fun m hm => ?_, a4⟩
          rcases hm with ⟨_, b2, _⟩ | hm
          · omega
          · exact a3 m hm
    · rintro ⟨a1, a2, (a3 | a3) | ⟨a3, a4⟩⟩
      · exact .inl (.inr a3)
      · exact .inr ⟨hlow' a3, a2, .inl a3⟩
      · by_cases c1 : p.1 < r.f
        · exact .inl (.inl ⟨a1, by omega, a4⟩)
        · by_cases c2 : p.1 ≤ r.l
          · exact absurd (.inl ⟨by omega, c2, rfl⟩) (a3 r.m)
          · exact .inr ⟨by omega, a2, .inr ⟨fun m hm => a3 m (.inr hm), a4⟩⟩
theorem gaps_asc : ∀ (c : List Row) (day b : Int), Ris day c → (∀ p ∈ daysL c, p.1 ≤ b) → Asc (gaps c day b)
  | [], day, b, _, _ => span_asc _ _ _
  | r :: c, day, b, hr, hin => by
    have hin' : ∀ p ∈ daysL c, p.1 ≤ b := fun p hp => hin p (by rw [daysL_cons]; exact List.mem_append_right _ hp)
    have ih := gaps_asc c (r.l + 1) b hr.2.2 hin'
    have h2 := hr.2.1
    unfold gaps Asc
    rw [List.pairwise_append, List.pairwise_append]
    refine ⟨⟨span_asc _ _ _, span_asc _ _ _, fun x hx y hy => ?_⟩, ih, fun x hx y hy => ?_⟩
    · have h3 := mem_rowDays.1 hx; have h4 := mem_rowDays.1 hy; simp only at h3; omega
    · have hy := ((gaps_mem c (r.l + 1) b hr.2.2 hin' y).1 hy).1
      rcases List.mem_append.1 hx with hx | hx <;> (have h3 := mem_rowDays.1 hx; (try simp only at h3); omega)
theorem ris_of_tid {s : List Row} {a : Int} (h : Tid s) (hin : ∀ p ∈ daysL s, a ≤ p.1) : Ris a s := by
  cases s with
  | nil => trivial
  | cons r s =>
    have := hin (r.f, r.m) (by rw [daysL_cons]; exact List.mem_append_left _ (mem_rowDays.2 ⟨by simp, h.head, rfl⟩))
    exact h.ris.low this
theorem filled_tid {s : List Row} {lo a b : Int} (hab : a ≤ b) (h : Ris lo s) : Tid (filledL s a b) ∧ daysL (filledL s a b) = fillDays (daysL s) a b := by
  have hc := cut_tid hab h
  have hin : ∀ p ∈ daysL (cutL s a b), a ≤ p.1 ∧ p.1 ≤ b := by
    intro p hp
    rw [hc.2, List.mem_filter] at hp
    have := hp.2
    simpa [inR] using this
  have hr := ris_of_tid hc.1 (fun p hp => (hin p hp).1)
  have hf := fill_fold b (cutL s a b) [] a hr trivial (fun q hq => by simp at hq) (fun p hp => (hin p hp).2)
  refine ⟨hf.1, ?_⟩
  have e : daysL (filledL s a b) = gaps (cutL s a b) a b := by
    have := hf.2
    simpa [daysL, filledL, fillG, fin] using this
  rw [e]
  refine asc_ext (gaps_asc _ _ _ hr fun p hp => (hin p hp).2) (fill_asc _ _ _) fun p => ?_
  rw [gaps_mem _ _ _ hr (fun p hp => (hin p hp).2), mem_fill, hc.2]
  have hA := ris_asc h
  refine and_congr_right fun h1 => and_congr_right fun h2 => ?_
  have hi : ∀ m, ((p.1, m) ∈ (daysL s).filter (inR a b)) ↔ (p.1, m) ∈ daysL s := by
    intro m
    rw [List.mem_filter]
    simp [inR, h1, h2]
  constructor
  · rintro (hm | ⟨hm, e⟩)
    · rw [(look_mem hA).2 ((hi p.2).1 hm)]; rfl
    · rw [look_none.2 fun m hm' => hm m ((hi m).2 hm'), e]; rfl
  · intro e
    cases q : look (daysL s) p.1 with
    | none =>
      rw [q] at e
      refine .inr ⟨fun m hm => look_none.1 q m ((hi m).1 hm), e⟩
    | some m =>
      rw [q] at e
      left
      have := (hi m).2 ((look_mem hA).1 q)
      have e' : p = (p.1, m) := by ext1 <;> simp [e]
      rw [e']; exact this
end St
set_option Elab.async false
set_option linter.all false
set_option maxRecDepth 100000
set_option maxHeartbeats 0
namespace St
open PySem L2 Tp
/-! numbers that a cell is mixed to -/
theorem fLen_sq {h : List Cell} {l : List D} : fLen h [.sq l] = some (.int l.length, h) := rfl
theorem fIx_sq {h : List Cell} {l : List D} {i : Int} : fIx h (.sq l) (.int i) = atI l i := rfl
theorem atI_nat {l : List D} {k : Nat} {d : D} (e : l[k]? = some d) : atI l (k : Int) = some d := by
  have : k < l.length := by
    apply Classical.byContradiction
    intro hn
    rw [List.getElem?_eq_none (by omega)] at e
    cases e
  unfold atI ixN
  rw [if_pos (by omega), if_pos (by omega)]
  simpa using e
theorem cell_ex (ns : List Int) (k : Nat) : ∃ c, ∀ h, F_law_cell h [.sq (ns.map .int), .int k] = some (.int c, h) := by
  by_cases hk : k < ns.length
  · refine ⟨ns[k], fun h => pureF_no (h1 := []) (d := .int ns[k]) ?_ ?_ rfl⟩
    · simp [noRefL, noRef, noRefL_all]
    · have e := atI_nat (l := ns.map D.int) (k := k) (d := .int ns[k]) (by simp [hk])
      unfold R_law_cell runB m_law_cell
      simp [fLen_sq, fIx_sq, hk, e]
  · refine ⟨7919 * k + 14, fun h => pureF_no (h1 := []) (d := .int (7919 * k + 14)) ?_ ?_ rfl⟩
    · simp [noRefL, noRef, noRefL_all]
    · have hk' : ¬ (k : Int) < ns.length := by omega
      unfold R_law_cell runB m_law_cell
      simp [fLen_sq, hk, hk', small]
def mix1 (c k : Int) : Int := (c + 7919 * k) % 2147483647
def mix2 (c k : Int) : Int := (mix1 c k * 48271 + k) % 2147483647
def mix3 (c k : Int) : Int := mix2 c k * (mix2 c k + 7) % 2147483629
def mix4 (c k : Int) : Int := mix3 c k * (mix3 c k + 3) % 2147483587
theorem mixed_ex (c : Int) (k : Nat) (hk : k < 1000000) : ∃ v, 0 ≤ v ∧ ∀ h, F_law_mixed h [.int c, .int k] = some (.int v, h) := by
  have key : ∃ v, 0 ≤ v ∧ R_law_mixed [] [.int c, .int k] = some (.int v, []) := by
    have s1 : small 40 = true := by decide
    have s2 : small 7919 = true := by decide
    have s3 : small 48271 = true := by decide
    have s4 : ∀ x : Int, small (x % 2147483647) = true := by
      intro x
      have := Int.emod_nonneg x (show (2147483647 : Int) ≠ 0 by decide)
      have := Int.emod_lt_of_pos x (show (0 : Int) < 2147483647 by decide)
      simp [small]; omega
    have s5 : ∀ x : Int, small (x % 2147483629) = true := by
      intro x
      have := Int.emod_nonneg x (show (2147483629 : Int) ≠ 0 by decide)
      have := Int.emod_lt_of_pos x (show (0 : Int) < 2147483629 by decide)
      simp [small]; omega
    have h40 : (0 : Int) ≤ 40 * k := by omega
    unfold R_law_mixed runB m_law_mixed
    by_cases c1 : (10 : Int) ^ 18 ≤ c
    · by_cases c2 : 0 < c / 2 ^ (40 * (k : Int)).toNat
      · refine ⟨c / 2 ^ (40 * (k : Int)).toNat % 2 ^ 40, Int.emod_nonneg _ (by decide), ?_⟩
        have c1' : (1000000000000000000 : Int) ≤ c := by simpa using c1
        simp [c1, c1', c2, s1, h40]
      · refine ⟨mix4 c k, Int.emod_nonneg _ (by decide), ?_⟩
        have c1' : (1000000000000000000 : Int) ≤ c := by simpa using c1
        simp [c1, c1', c2, s1, s2, s3, s4, s5, h40, mix1, mix2, mix3, mix4]
    · refine ⟨mix4 c k, Int.emod_nonneg _ (by decide), ?_⟩
      have c1' : ¬ (1000000000000000000 : Int) ≤ c := by simpa using c1
      simp [c1, c1', s1, s2, s3, s4, s5, h40, mix1, mix2, mix3, mix4]
  obtain ⟨v, hv, e⟩ := key
  exact ⟨v, hv, fun h => pureF_no (by simp [noRefL, noRef]) e rfl⟩
/-! the rows of a script -/
theorem ris_snoc {r : Row} : ∀ {s : List Row} {lo : Int}, Ris lo s → Below s r.f → lo ≤ r.f → r.f ≤ r.l → Ris lo (s ++ [r])
  | [], lo, _, _, h1, h2 => ⟨h1, h2, trivial⟩
  | [q], lo, h, hb, _, h2 => ⟨h.1, h.2.1, by have := hb q rfl; omega, h2, trivial⟩
  | q :: q' :: s, lo, h, hb, _, h2 => by
    refine ⟨h.1, h.2.1, ris_snoc (s := q' :: s) h.2.2 (fun z hz => hb z (by simpa using hz)) ?_ h2⟩
    rcases List.eq_nil_or_concat (q' :: s) with e | ⟨t, z, e⟩
    · cases e
    · have hz := hb z (by rw [List.getLast?_cons_cons, e]; simp)
      have hm : (z.l, z.m) ∈ daysL (q' :: s) := by
        have hin : z ∈ q' :: s := by rw [e]; simp
        have hz2 : ∀ {s : List Row} {lo : Int}, Ris lo s → z ∈ s → z.f ≤ z.l := by
          intro s
          induction s with
          | nil => intro lo _ h; cases h
          | cons a s ih =>
            intro lo hr hm
            rcases List.mem_cons.1 hm with rfl | hm
            · exact hr.2.1
            · exact ih hr.2.2 hm
        exact List.mem_flatMap.2 ⟨z, hin, mem_rowDays.2 ⟨hz2 h.2.2 hin, by simp, rfl⟩⟩
      have := ris_mem h.2.2 _ hm
      simp only at this; omega
def mOk (m : Option Int) : Prop := ∀ i, m = some i → 0 ≤ i ∧ i ≤ 1000000000
theorem rows_loop (c most wide marks : Int) (hw : 0 < wide) (hw2 : wide ≤ 400) (hm : 0 < marks) (hm2 : marks ≤ 1000000000) : ∀ (ks : List Nat) (acc : List Row) (day : Int) (g6 g7 g8 g9 g10 : Option D), (∀ k ∈ ks, k < 1000) → Ris 0 acc → Below acc day → 0 ≤ day → (∀ r ∈ acc, r.l < wide ∧ mOk r.m) → acc.length + ks.length < 1000000 →
    ∃ acc' day' g6' g7' g8' g9' g10', forL (gN 6) lb_law_rows_1 (ks.map fun k => .int (0 + (k : Nat))) [some (.int c), some (.int most), some (.ref 0), some (.int wide), some (.int marks), some (.int day), g6, g7, g8, g9, g10] [.lst (acc.map Row.d)]
      = some (.nx [some (.int c), some (.int most), some (.ref 0), some (.int wide), some (.int marks), some (.int day'), g6', g7', g8', g9', g10'], [.lst (acc'.map Row.d)]) ∧ Ris 0 acc' ∧ (∀ r ∈ acc', r.l < wide ∧ mOk r.m) ∧ acc'.length ≤ acc.length + ks.length
  | [], acc, day, g6, g7, g8, g9, g10, _, h1, _, _, h4, _ => ⟨acc, day, g6, g7, g8, g9, g10, rfl, h1, h4, by simp⟩
  | k :: ks, acc, day, g6, g7, g8, g9, g10, hk, h1, h2, h3, h4, hz => by
    have hk' : ∀ k ∈ ks, k < 1000 := fun x hx => hk x (List.mem_cons_of_mem _ hx)
    have hz1 : acc.length < 1000000 := by simp at hz; omega
    have hz2 : acc.length + ks.length < 1000000 := by simp at hz; omega
    obtain ⟨v, hv, ev⟩ := mixed_ex c (k + 2) (by have := hk k List.mem_cons_self; omega)
    have ev' : ∀ h, F_law_mixed h [.int c, .int (2 + (k : Int))] = some (.int v, h) := by
      intro h
      have e0 : (2 + (k : Int)) = ((k + 2 : Nat) : Int) := by omega
      rw [e0]; exact ev h
    have p1 : 0 < 1 + wide / 8 := by omega
    have p2 : 0 < 1 + wide / 4 := by omega
    have p3 : 0 < marks + 1 := by omega
    have p4 : small (v % 4 / 2) = true := by simp [small]; omega
    have q1 := Int.emod_nonneg (v / 4) (show 1 + wide / 8 ≠ 0 by omega)
    have q2 := Int.emod_nonneg (v / 1024) (show 1 + wide / 4 ≠ 0 by omega)
    have q3 := Int.emod_nonneg (v / 1048576) (show marks + 1 ≠ 0 by omega)
    have q4 := Int.emod_lt_of_pos (v / 1048576) p3
    have q5 : 0 ≤ v % 4 / 2 * (v / 4 % (1 + wide / 8)) := Int.mul_nonneg (by omega) q1
    simp only [List.map_cons, forL_cons]
    generalize hF : day + v % 4 / 2 * (v / 4 % (1 + wide / 8)) = F
    generalize hL : F + v / 1024 % (1 + wide / 4) = L
    by_cases c1 : L < wide
    · have step : ∀ m, mOk m → _ := fun m hmo => rows_loop c most wide marks hw hw2 hm hm2 ks (acc ++ [⟨F, L, m⟩]) (L + 1) (some (.int k)) (some (.int v)) (some (.int F)) (some (.int L)) (some (eO m)) hk' (ris_snoc (r := ⟨F, L, m⟩) h1 (fun q hq => by have := h2 q hq; simp only; omega) (by simp only; omega) (by simp only; omega)) (fun q hq => by simp at hq; subst hq; simp only; omega) (by omega) (fun r hr => by
          rcases List.mem_append.1 hr with hr | hr
          · exact h4 r hr
          · rw [List.mem_singleton] at hr; subst hr; exact ⟨c1, hmo⟩) (by simp at hz ⊢; omega)
      by_cases c2 : v / 1048576 % (marks + 1) = marks
      · obtain ⟨acc', day', g6', g7', g8', g9', g10', e, f1, f2, f3⟩ := step none (fun i hi => by cases hi)
        refine ⟨acc', day', g6', g7', g8', g9', g10', ?_, f1, f2, by simp at f3 ⊢; omega⟩
        simp [lb_law_rows_1, ev', p1, p2, p3, p4, hF, hL, c1, c2, hasT, pk_ref, fAppend, hz1]
        simpa [Row.d, eO, lb_law_rows_1] using e
      · by_cases c3 : v / 1048576 % (marks + 1) = 1
        · obtain ⟨acc', day', g6', g7', g8', g9', g10', e, f1, f2, f3⟩ := step (some 1000000000) (fun i hi => by cases hi; omega)
          refine ⟨acc', day', g6', g7', g8', g9', g10', ?_, f1, f2, by simp at f3 ⊢; omega⟩
          have c2' : ¬ (1 : Int) = marks := by rw [c3] at c2; exact c2
          simp [lb_law_rows_1, ev', p1, p2, p3, p4, hF, hL, c1, c2', c3, hasT, pk_ref, fAppend, hz1]
          simpa [Row.d, eO, lb_law_rows_1] using e
        · obtain ⟨acc', day', g6', g7', g8', g9', g10', e, f1, f2, f3⟩ := step (some (v / 1048576 % (marks + 1))) (fun i hi => by cases hi; omega)
          refine ⟨acc', day', g6', g7', g8', g9', g10', ?_, f1, f2, by simp at f3 ⊢; omega⟩
          simp [lb_law_rows_1, ev', p1, p2, p3, p4, hF, hL, c1, c2, c3, hasT, pk_ref, fAppend, hz1]
          simpa [Row.d, eO, lb_law_rows_1] using e
    · obtain ⟨acc', day', g6', g7', g8', g9', g10', e, f1, f2, f3⟩ := rows_loop c most wide marks hw hw2 hm hm2 ks acc day (some (.int k)) (some (.int v)) (some (.int F)) (some (.int L)) g10 hk' h1 h2 h3 h4 hz2
      refine ⟨acc', day', g6', g7', g8', g9', g10', ?_, f1, f2, by simp at f3 ⊢; omega⟩
      simp [lb_law_rows_1, ev', p1, p2, p3, p4, hF, hL, c1, hasT, pk_ref, fAppend, hz1]
      simpa [Row.d, eO, lb_law_rows_1] using e
theorem rows_ex (c : Int) (most : Nat) (hmo : most < 1000) : ∃ s, Ris 0 s ∧ (∀ r ∈ s, r.l < 400 ∧ mOk r.m) ∧ s.length ≤ most ∧ ∀ h, F_law_rows h [.int c, .int most] = some (eS s, h) := by
  obtain ⟨v0, hv0, e0⟩ := mixed_ex c 0 (by omega)
  obtain ⟨v1, hv1, e1⟩ := mixed_ex c 1 (by omega)
  have e0' : ∀ h, F_law_mixed h [.int c, .int 0] = some (.int v0, h) := e0
  have e1' : ∀ h, F_law_mixed h [.int c, .int 1] = some (.int v1, h) := e1
  obtain ⟨wide, hw, hw2, ew⟩ : ∃ wide : Int, 0 < wide ∧ wide ≤ 400 ∧ ∀ h, fIx h (.lst [.int 40, .int 400, .int 7]) (.int (v0 % 3)) = some (.int wide) := by
    have : v0 % 3 = 0 ∨ v0 % 3 = 1 ∨ v0 % 3 = 2 := by omega
    rcases this with e | e | e <;> rw [e]
    · exact ⟨40, by decide, by decide, fun _ => rfl⟩
    · exact ⟨400, by decide, by decide, fun _ => rfl⟩
    · exact ⟨7, by decide, by decide, fun _ => rfl⟩
  have p1 : 0 < (most : Int) + 1 := by omega
  have q1 := Int.emod_nonneg (v1 / 4) (show (most : Int) + 1 ≠ 0 by omega)
  have q2 := Int.emod_lt_of_pos (v1 / 4) p1
  have q3 := Int.emod_nonneg (v0 / 3) (show wide ≠ 0 by omega)
  have q4 : in62 (v1 / 4 % ((most : Int) + 1)) = true := by simp [in62]; omega
  obtain ⟨acc', day', g6', g7', g8', g9', g10', e, f1, f2, f3⟩ := rows_loop c most wide (1 + v1 % 4) hw hw2 (by omega) (by omega) (List.range (v1 / 4 % ((most : Int) + 1)).toNat) [] (v0 / 3 % wide) none none none none none (fun k hk => by rw [List.mem_range] at hk; omega) trivial (fun q hq => by cases hq) q3 (fun r hr => by cases hr) (by simp; omega)
  refine ⟨acc', f1, fun r hr => ⟨by have := (f2 r hr).1; omega, (f2 r hr).2⟩, by simp at f3; omega, fun h => pureF_no (h1 := [.lst (acc'.map Row.d)]) (d := .ref 0) (by simp [noRefL, noRef]) ?_ (frzR rfl)⟩
  unfold lb_law_rows_1 at e
  unfold R_law_rows runB m_law_rows
  simp [e0', e1', ew, hw, p1, q4, rng]
  simp at e
  simp [e]
end St
set_option Elab.async false
set_option linter.all false
set_option maxRecDepth 100000
set_option maxHeartbeats 0
namespace K01
open PySem L2 Tp St
def m_is_whole : MS := mRet ((mAndV (mB fIsi (mCons (mV 0) (mCons (mC (.ty "int")) (mNil)))) (mAndV (mNotV (mB fIsi (mCons (mV 0) (mCons (mC (.ty "bool")) (mNil))))) (mChain fLe fLe (mV 1) (mV 0) (mV 2)))))
def R_is_whole : FD := runB 3 3 m_is_whole
def F_is_whole : FD := pureF R_is_whole
def N_is_whole : FD := freshF R_is_whole
def m_is_name : MS := mSeq (mIfS ((mOr (mNot (mTest (mB fIsi (mCons (mV 0) (mCons (mC (.ty "str")) (mNil)))))) (mOr (mTest (mO2 fEq (mB fLen (mCons (mV 0) (mNil))) (mC (.int 0)))) (mTest (mO2 fGt (mB fLen (mCons (mV 0) (mNil))) (mC (.int 8))))))) (mRet (mC (.bl false))) (mNext)) (mRet (mB fAll (mCons (mLc (iStrM (mV 0)) (gN 1) (mYes) (mO2 fSign (mV 1) (mC (.str "abcdefghijklmnopqrstuvwxyz"))) [1]) (mNil))))
def R_is_name : FD := runB 1 2 m_is_name
def F_is_name : FD := pureF R_is_name
def N_is_name : FD := freshF R_is_name
def m_plain_figures : MS := mSeq (mIfS ((mOr (mTest (mO2 fEq (mB fLen (mCons (mV 0) (mNil))) (mC (.int 0)))) (mTest (mO2 fGt (mB fLen (mCons (mV 0) (mNil))) (mC (.int 12)))))) (mRet (mC (.bl false))) (mNext)) (mSeq (mIfS ((mAnd (mTest (mO2 fEq (mO2 fIx (mV 0) (mC (.int 0))) (mC (.str "0")))) (mTest (mO2 fGt (mB fLen (mCons (mV 0) (mNil))) (mC (.int 1)))))) (mRet (mC (.bl false))) (mNext)) (mRet (mB fAll (mCons (mLc (iStrM (mV 0)) (gN 1) (mYes) (mO2 fSign (mV 1) (mC (.str "0123456789"))) [1]) (mNil)))))
def R_plain_figures : FD := runB 1 2 m_plain_figures
def F_plain_figures : FD := pureF R_plain_figures
def N_plain_figures : FD := freshF R_plain_figures
def m_number_of : MS := mSeq (mAsg (mC .non) (gN 3)) (mSeq (mIfS (mTest (mB F_plain_figures (mCons (mV 0) (mNil)))) (mAsg (mB fInt (mCons (mV 0) (mNil))) (gN 3)) (mIfS ((mAnd (mTest (mO2 fEq (mSl (mV 0) oNone (oSome (mC (.int 1)))) (mC (.str "-")))) (mAnd (mTest (mO2 fNe (mV 0) (mC (.str "-0")))) (mTest (mB F_plain_figures (mCons (mSl (mV 0) (oSome (mC (.int 1))) oNone) (mNil))))))) (mAsg (mO2 fSub (mC (.int 0)) (mB fInt (mCons (mSl (mV 0) (oSome (mC (.int 1))) oNone) (mNil)))) (gN 3)) (mNext))) (mSeq (mIfS ((mOr (mTest (mO2 fIsN (mV 3) (mC .non))) (mNot (mTest (mChain fLe fLe (mV 1) (mV 3) (mV 2)))))) (mRet (mC .non)) (mNext)) (mRet (mV 3))))
def R_number_of : FD := runB 3 4 m_number_of
def F_number_of : FD := pureF R_number_of
def N_number_of : FD := freshF R_number_of
def lb_law_text_1 : MS := mSeq (mAsg (mB F_law_mixed (mCons (mV 0) (mCons (mO2 fAdd (mC (.int 2)) (mV 4)) (mNil)))) (gN 5)) (mIfS ((mAnd (mTest (mO2 fEq (mV 3) (mC (.int 0)))) (mTest (mO2 fEq (mO2 fMod (mV 5) (mC (.int 4))) (mC (.int 0)))))) (mAsg (mO2 fAdd (mV 2) (mO2 fIx (mV 1) (mO2 fMod (mO2 fFdiv (mV 5) (mC (.int 4))) (mB fLen (mCons (mV 1) (mNil)))))) (gN 2)) (mAsg (mO2 fAdd (mV 2) (mO2 fIx (mC (.str "abcdefghijklmnopqrstuvwxyz")) (mO2 fMod (mO2 fFdiv (mV 5) (mC (.int 4))) (mC (.int 26))))) (gN 2)))
def m_law_text : MS := mSeq (mAsg (mC (.str " !#$&'()*+,-./0123456789:;<=>?@ABCXYZ[]^_{|}~")) (gN 1)) (mSeq (mAsg (mC (.str "")) (gN 2)) (mSeq (mAsg (mO2 fMod (mB F_law_mixed (mCons (mV 0) (mCons (mC (.int 1)) (mNil)))) (mC (.int 3))) (gN 3)) (mSeq (mForR1 (mCons (mO2 fMod (mB F_law_mixed (mCons (mV 0) (mCons (mC (.int 0)) (mNil)))) (mC (.int 10))) (mNil)) (gN 4) (mSeq (mAsg (mB F_law_mixed (mCons (mV 0) (mCons (mO2 fAdd (mC (.int 2)) (mV 4)) (mNil)))) (gN 5)) (mIfS ((mAnd (mTest (mO2 fEq (mV 3) (mC (.int 0)))) (mTest (mO2 fEq (mO2 fMod (mV 5) (mC (.int 4))) (mC (.int 0)))))) (mAsg (mO2 fAdd (mV 2) (mO2 fIx (mV 1) (mO2 fMod (mO2 fFdiv (mV 5) (mC (.int 4))) (mB fLen (mCons (mV 1) (mNil)))))) (gN 2)) (mAsg (mO2 fAdd (mV 2) (mO2 fIx (mC (.str "abcdefghijklmnopqrstuvwxyz")) (mO2 fMod (mO2 fFdiv (mV 5) (mC (.int 4))) (mC (.int 26))))) (gN 2))))) (mRet (mV 2)))))
def R_law_text : FD := runB 1 6 m_law_text
def F_law_text : FD := pureF R_law_text
def N_law_text : FD := freshF R_law_text
def m_law_written : MS := mSeq (mAsg (mB F_law_mixed (mCons (mV 0) (mCons (mC (.int 12)) (mNil)))) (gN 1)) (mSeq (mAsg (mB fStr (mCons (mO2 fMod (mO2 fMul (mV 1) (mC (.int 1000003))) (mO2 fPow (mC (.int 10)) (mC (.int 13)))) (mNil))) (gN 2)) (mSeq (mAsg (mO2 fAdd (mO2 fIx (mLst (mCons (mC (.str "")) (mCons (mC (.str "-")) (mNil)))) (mO2 fFdiv (mO2 fMod (mV 1) (mC (.int 5))) (mC (.int 4)))) (mSl (mV 2) oNone (oSome (mO2 fAdd (mC (.int 1)) (mO2 fMod (mO2 fFdiv (mV 1) (mC (.int 5))) (mB fLen (mCons (mV 2) (mNil)))))))) (gN 2)) (mSeq (mAsg (mO2 fMod (mO2 fFdiv (mV 1) (mC (.int 100))) (mO2 fAdd (mB fLen (mCons (mV 2) (mNil))) (mC (.int 1)))) (gN 3)) (mSeq (mAsg (mO2 fIx (mC (.str "0019--+ .ax_")) (mO2 fMod (mO2 fFdiv (mV 1) (mC (.int 2000))) (mC (.int 12)))) (gN 4)) (mSeq (mAsg (mO2 fMod (mO2 fFdiv (mV 1) (mC (.int 65536))) (mC (.int 6))) (gN 5)) (mSeq (mIfS (mTest (mO2 fEq (mV 5) (mC (.int 0)))) (mRet (mO2 fAdd (mO2 fAdd (mSl (mV 2) oNone (oSome (mV 3))) (mV 4)) (mSl (mV 2) (oSome (mV 3)) oNone))) (mNext)) (mSeq (mIfS (mTest (mO2 fEq (mV 5) (mC (.int 1)))) (mRet (mO2 fAdd (mSl (mV 2) oNone (oSome (mV 3))) (mSl (mV 2) (oSome (mO2 fAdd (mV 3) (mC (.int 1)))) oNone))) (mNext)) (mSeq (mIfS (mTest (mO2 fEq (mV 5) (mC (.int 2)))) (mRet (mO2 fAdd (mO2 fAdd (mSl (mV 2) oNone (oSome (mV 3))) (mV 4)) (mSl (mV 2) (oSome (mO2 fAdd (mV 3) (mC (.int 1)))) oNone))) (mNext)) (mRet (mV 2))))))))))
def R_law_written : FD := runB 1 6 m_law_written
def F_law_written : FD := pureF R_law_written
def N_law_written : FD := freshF R_law_written
def lb_law_read_1 : MS := mAsg (mO2 fAdd (mO2 fMul (mC (.int 10)) (mV 2)) (mMe .str fIdx (mC (.str "0123456789")) (mCons (mV 3) (mNil)))) (gN 2)
def m_law_read : MS := mSeq (mAsg (mV 0) (gN 1)) (mSeq (mIfS (mTest (mO2 fEq (mSl (mV 0) oNone (oSome (mC (.int 1)))) (mC (.str "-")))) (mAsg (mSl (mV 0) (oSome (mC (.int 1))) oNone) (gN 1)) (mNext)) (mSeq (mIfS ((mOr (mTest (mO2 fEq (mV 1) (mC (.str "")))) (mOr (mTest (mO2 fGt (mB fLen (mCons (mV 1) (mNil))) (mC (.int 12)))) (mTest (mO2 fNe (mLc (iStrM (mV 1)) (gN 3) (mNot (mTest (mChain fLe fLe (mC (.str "0")) (mV 3) (mC (.str "9"))))) (mV 3) [3]) (mLst (mNil))))))) (mRet (mC .non)) (mNext)) (mSeq (mAsg (mC (.int 0)) (gN 2)) (mSeq (mForI (iStrM (mV 1)) (gN 3) (mAsg (mO2 fAdd (mO2 fMul (mC (.int 10)) (mV 2)) (mMe .str fIdx (mC (.str "0123456789")) (mCons (mV 3) (mNil)))) (gN 2))) (mSeq (mIfS (mTest (mO2 fNe (mV 1) (mV 0))) (mAsg (mO2 fSub (mC (.int 0)) (mV 2)) (gN 2)) (mNext)) (mSeq (mIfS (mTest (mO2 fNe (mB fStr (mCons (mV 2) (mNil))) (mV 0))) (mRet (mC .non)) (mNext)) (mRet (mV 2))))))))
def R_law_read : FD := runB 1 4 m_law_read
def F_law_read : FD := pureF R_law_read
def N_law_read : FD := freshF R_law_read
def m_law_same : MS := mSeq (mIfS (mTest (mO2 fIsN (mV 1) (mC .non))) (mRet (mO2 fIsN (mV 0) (mC .non))) (mNext)) (mRet ((mAndV (mO2 fEq (mB fIsi (mCons (mV 0) (mCons (mC (.ty "bool")) (mNil)))) (mB fIsi (mCons (mV 1) (mCons (mC (.ty "bool")) (mNil))))) (mO2 fEq (mV 0) (mV 1)))))
def R_law_same : FD := runB 2 2 m_law_same
def F_law_same : FD := pureF R_law_same
def N_law_same : FD := freshF R_law_same
def lb_law_names_right_1 : MS := mIfS ((mOr (mNot (mTest (mB F_law_same (mCons (mB F_is_name (mCons (mV 6) (mNil))) (mCons (mC (.bl false)) (mNil)))))) (mNot (mTest (mB F_law_same (mCons (mB F_is_whole (mCons (mV 6) (mCons (mNeg (mC (.int 5))) (mCons (mC (.int 5)) (mNil))))) (mCons (mC (.bl false)) (mNil)))))))) (mRet (mC (.bl false))) (mNext)
def m_law_names_right : MS := mSeq (mAsg (mB F_law_text (mCons (mV 0) (mNil))) (gN 1)) (mSeq (mAsg ((mAndV (mChain fLt fLt (mC (.int 0)) (mB fLen (mCons (mV 1) (mNil))) (mC (.int 9))) (mO2 fEq (mLc (iStrM (mV 1)) (gN 7) (mNot (mTest (mChain fLe fLe (mC (.str "a")) (mV 7) (mC (.str "z"))))) (mV 7) [7]) (mLst (mNil))))) (gN 2)) (mSeq (mAsg (mO2 fSub (mO2 fMod (mB F_law_mixed (mCons (mV 0) (mCons (mC (.int 13)) (mNil)))) (mC (.int 40))) (mC (.int 20))) (gN 3)) (mSeq (mIfS (mTest (mO2 fEq (mO2 fMod (mO2 fFdiv (mB F_law_mixed (mCons (mV 0) (mCons (mC (.int 13)) (mNil)))) (mC (.int 40))) (mC (.int 4))) (mC (.int 1)))) (mAsg (mO2 fMul (mO2 fIx (mLst (mCons (mC (.int 1)) (mCons (mNeg (mC (.int 1))) (mNil)))) (mO2 fMod (mO2 fFdiv (mB F_law_mixed (mCons (mV 0) (mCons (mC (.int 13)) (mNil)))) (mC (.int 160))) (mC (.int 2)))) (mO2 fSub (mO2 fPow (mC (.int 10)) (mC (.int 29))) (mB F_law_mixed (mCons (mV 0) (mCons (mC (.int 14)) (mNil)))))) (gN 3)) (mNext)) (mSeq (mAsg (mO2 fSub (mO2 fAdd (mV 3) (mO2 fMod (mB F_law_mixed (mCons (mV 0) (mCons (mC (.int 15)) (mNil)))) (mC (.int 9)))) (mC (.int 2))) (gN 4)) (mSeq (mAsg (mO2 fSub (mO2 fAdd (mV 3) (mO2 fMod (mB F_law_mixed (mCons (mV 0) (mCons (mC (.int 16)) (mNil)))) (mC (.int 13)))) (mC (.int 3))) (gN 5)) (mSeq (mIfS ((mOr (mNot (mTest (mB F_law_same (mCons (mB F_is_name (mCons (mV 1) (mNil))) (mCons (mV 2) (mNil)))))) (mNot (mTest (mB F_law_same (mCons (mB F_is_whole (mCons (mV 5) (mCons (mV 3) (mCons (mV 4) (mNil))))) (mCons (mChain fLe fLe (mV 3) (mV 5) (mV 4)) (mNil)))))))) (mRet (mC (.bl false))) (mNext)) (mSeq (mForL (mLst (mCons (mC (.bl true)) (mCons (mC (.bl false)) (mCons (mC .non) (mCons (mLst (mCons (mV 1) (mNil))) (mCons (mTup (mCons (mV 1) (mNil))) (mCons (mDisp ((mV 1, mC (.int 1)) :: [])) (mNil)))))))) (gN 6) (mIfS ((mOr (mNot (mTest (mB F_law_same (mCons (mB F_is_name (mCons (mV 6) (mNil))) (mCons (mC (.bl false)) (mNil)))))) (mNot (mTest (mB F_law_same (mCons (mB F_is_whole (mCons (mV 6) (mCons (mNeg (mC (.int 5))) (mCons (mC (.int 5)) (mNil))))) (mCons (mC (.bl false)) (mNil)))))))) (mRet (mC (.bl false))) (mNext))) (mRet ((mAndV (mB F_law_same (mCons (mB F_is_whole (mCons (mV 1) (mCons (mV 3) (mCons (mV 4) (mNil))))) (mCons (mC (.bl false)) (mNil)))) (mB F_law_same (mCons (mB F_is_name (mCons (mV 5) (mNil))) (mCons (mC (.bl false)) (mNil))))))))))))))
def R_law_names_right : FD := runB 1 8 m_law_names_right
def F_law_names_right : FD := pureF R_law_names_right
def N_law_names_right : FD := freshF R_law_names_right
def lb_law_1 : MS := mSeq (mAsg (mB F_law_cell (mCons (mV 0) (mCons (mV 1) (mNil)))) (gN 2)) (mSeq (mIfS (mNot (mTest (mB F_law_names_right (mCons (mV 2) (mNil))))) (mRet (mC (.bl false))) (mNext)) (mSeq (mAsg (mB F_law_written (mCons (mV 2) (mNil))) (gN 3)) (mSeq (mAsg (mB F_law_read (mCons (mV 3) (mNil))) (gN 4)) (mSeq (mIfS (mNot (mTest (mB F_law_same (mCons (mB F_number_of (mCons (mV 3) (mCons (mO2 fSub (mC (.int 0)) (mO2 fPow (mC (.int 10)) (mC (.int 13)))) (mCons (mO2 fPow (mC (.int 10)) (mC (.int 13))) (mNil))))) (mCons (mV 4) (mNil)))))) (mRet (mC (.bl false))) (mNext)) (mSeq (mAsg (mO2 fMod (mB F_law_mixed (mCons (mV 2) (mCons (mC (.int 17)) (mNil)))) (mC (.int 100))) (gN 5)) (mSeq (mIfS (mTest (mO2 fNotN (mV 4) (mC .non))) (mAsg (mV 4) (gN 5)) (mNext)) (mSeq (mAsg (mO2 fSub (mV 5) (mO2 fMod (mB F_law_mixed (mCons (mV 2) (mCons (mC (.int 18)) (mNil)))) (mC (.int 3)))) (gN 6)) (mSeq (mAsg (mO2 fSub (mO2 fAdd (mV 5) (mO2 fMod (mB F_law_mixed (mCons (mV 2) (mCons (mC (.int 19)) (mNil)))) (mC (.int 4)))) (mC (.int 1))) (gN 7)) (mSeq (mIfS ((mAnd (mTest (mO2 fNotN (mV 4) (mC .non))) (mNot (mTest (mChain fLe fLe (mV 6) (mV 4) (mV 7)))))) (mAsg (mC .non) (gN 4)) (mNext)) (mIfS (mNot (mTest (mB F_law_same (mCons (mB F_number_of (mCons (mV 3) (mCons (mV 6) (mCons (mV 7) (mNil))))) (mCons (mV 4) (mNil)))))) (mRet (mC (.bl false))) (mNext)))))))))))
def m_law : MS := mSeq (mForR1 (mCons (mB fMax2 (mCons (mC (.int 1)) (mCons (mB fMin2 (mCons (mC (.int 40)) (mCons (mB fLen (mCons (mV 0) (mNil))) (mNil)))) (mNil)))) (mNil)) (gN 1) (mSeq (mAsg (mB F_law_cell (mCons (mV 0) (mCons (mV 1) (mNil)))) (gN 2)) (mSeq (mIfS (mNot (mTest (mB F_law_names_right (mCons (mV 2) (mNil))))) (mRet (mC (.bl false))) (mNext)) (mSeq (mAsg (mB F_law_written (mCons (mV 2) (mNil))) (gN 3)) (mSeq (mAsg (mB F_law_read (mCons (mV 3) (mNil))) (gN 4)) (mSeq (mIfS (mNot (mTest (mB F_law_same (mCons (mB F_number_of (mCons (mV 3) (mCons (mO2 fSub (mC (.int 0)) (mO2 fPow (mC (.int 10)) (mC (.int 13)))) (mCons (mO2 fPow (mC (.int 10)) (mC (.int 13))) (mNil))))) (mCons (mV 4) (mNil)))))) (mRet (mC (.bl false))) (mNext)) (mSeq (mAsg (mO2 fMod (mB F_law_mixed (mCons (mV 2) (mCons (mC (.int 17)) (mNil)))) (mC (.int 100))) (gN 5)) (mSeq (mIfS (mTest (mO2 fNotN (mV 4) (mC .non))) (mAsg (mV 4) (gN 5)) (mNext)) (mSeq (mAsg (mO2 fSub (mV 5) (mO2 fMod (mB F_law_mixed (mCons (mV 2) (mCons (mC (.int 18)) (mNil)))) (mC (.int 3)))) (gN 6)) (mSeq (mAsg (mO2 fSub (mO2 fAdd (mV 5) (mO2 fMod (mB F_law_mixed (mCons (mV 2) (mCons (mC (.int 19)) (mNil)))) (mC (.int 4)))) (mC (.int 1))) (gN 7)) (mSeq (mIfS ((mAnd (mTest (mO2 fNotN (mV 4) (mC .non))) (mNot (mTest (mChain fLe fLe (mV 6) (mV 4) (mV 7)))))) (mAsg (mC .non) (gN 4)) (mNext)) (mIfS (mNot (mTest (mB F_law_same (mCons (mB F_number_of (mCons (mV 3) (mCons (mV 6) (mCons (mV 7) (mNil))))) (mCons (mV 4) (mNil)))))) (mRet (mC (.bl false))) (mNext))))))))))))) (mRet ((mAndV (mO2 fIsN (mB F_number_of (mCons (mC (.str "-0")) (mCons (mNeg (mC (.int 1))) (mCons (mC (.int 1)) (mNil))))) (mC .non)) (mAndV (mO2 fIsN (mB F_number_of (mCons (mC (.str "")) (mCons (mC (.int 0)) (mCons (mC (.int 9)) (mNil))))) (mC .non)) (mO2 fIsN (mB F_number_of (mCons (mC (.str "-")) (mCons (mNeg (mC (.int 9))) (mCons (mC (.int 9)) (mNil))))) (mC .non))))))
def R_law : FD := runB 1 8 m_law
def F_law : FD := pureF R_law
def N_law : FD := freshF R_law
end K01
set_option Elab.async false
set_option linter.all false
set_option maxRecDepth 100000
set_option maxHeartbeats 0
namespace K01
open PySem L2 Tp St PySem.NumText
abbrev tx (cs : List Nat) : Str := ⟨cs.toArray⟩
theorem str_tx (z : Str) : z = tx z.cps.toList := by cases z; simp
theorem tx_inj {a b : List Nat} : tx a = tx b ↔ a = b := by
  constructor
  · intro h
    have := congrArg (fun z : Str => z.cps.toList) h
    simpa using this
  · rintro rfl; rfl
/-! digits -/
def dg (m : Nat) : List Nat := (Nat.toDigits 10 m).map Char.toNat
def canon (cs : List Nat) : Prop := AllDigits cs ∧ cs ≠ [] ∧ (1 < cs.length → cs.head? ≠ some 48)
theorem dgc : ∀ d : Nat, d < 10 → (Nat.digitChar d).toNat = 48 + d := by decide
theorem dg_small {m : Nat} (h : m < 10) : dg m = [48 + m] := by
  unfold dg
  rw [Nat.toDigits_of_lt_base h]
  simp [dgc m h]
theorem dg_big {q d : Nat} (hq : 0 < q) (hd : d < 10) : dg (10 * q + d) = dg q ++ [48 + d] := by
  unfold dg
  rw [← Nat.toDigits_append_toDigits (by decide) hq hd, List.map_append, Nat.toDigits_of_lt_base hd]
  simp [dgc d hd]
theorem dg_canon : ∀ (n m : Nat), m ≤ n → canon (dg m) ∧ (0 < m → (dg m).head? ≠ some 48)
  | n, m, hn => by
    by_cases h : m < 10
    · rw [dg_small h]
      refine ⟨⟨fun c hc => ?_, by simp, fun h => by simp at h⟩, fun h0 => ?_⟩
      · simp at hc; subst hc; omega
      · simp; omega
    · cases n with
      | zero => omega
      | succ n =>
        have e : m = 10 * (m / 10) + m % 10 := by omega
        obtain ⟨i1, i2⟩ := dg_canon n (m / 10) (by omega)
        rw [e, dg_big (by omega) (by omega)]
        have hh : (dg (m / 10) ++ [48 + m % 10]).head? = (dg (m / 10)).head? := by
          cases q : dg (m / 10) with
          | nil => exact absurd q i1.2.1
          | cons a b => rfl
        have h2 := i2 (by omega)
        refine ⟨⟨fun c hc => ?_, by simp, fun _ => by rw [hh]; exact h2⟩, fun _ => by rw [hh]; exact h2⟩
        rcases List.mem_append.1 hc with hc | hc
        · exact i1.1 c hc
        · simp at hc; subst hc; omega
theorem val_snoc (cs : List Nat) (c : Nat) : digitsVal (cs ++ [c]) = digitsVal cs * 10 + (c - 48) := by
  unfold digitsVal; rw [List.foldl_append]; rfl
theorem dg_of : ∀ (n : Nat) (cs : List Nat), cs.length ≤ n → canon cs → dg (digitsVal cs) = cs ∧ (cs ≠ [48] → 0 < digitsVal cs)
  | n, cs, hn, h => by
    rcases List.eq_nil_or_concat cs with rfl | ⟨l, c, rfl⟩
    · exact absurd rfl h.2.1
    · simp only [List.concat_eq_append] at *
      have hc := h.1 c (by simp)
      rw [val_snoc]
      cases l with
      | nil =>
        have : digitsVal ([] : List Nat) = 0 := rfl
        rw [this, Nat.zero_mul, Nat.zero_add, dg_small (by omega)]
        refine ⟨by simp; omega, fun hne => ?_⟩
        have : c ≠ 48 := fun z => hne (by simp [z])
        omega
      | cons a l =>
        cases n with
        | zero => simp at hn
        | succ n =>
          have ha : (a :: l).head? ≠ some 48 := by
            have := h.2.2 (by simp)
            simpa using this
          have hl : canon (a :: l) := ⟨fun x hx => h.1 x (List.mem_append_left _ hx), by simp, fun _ => ha⟩
          obtain ⟨i1, i2⟩ := dg_of n (a :: l) (by simp at hn ⊢; omega) hl
          have hpos := i2 (fun z => by simp at z; simp [z.1] at ha)
          have e : digitsVal (a :: l) * 10 + (c - 48) = 10 * digitsVal (a :: l) + (c - 48) := by omega
          rw [e, dg_big hpos (by omega), i1]
          refine ⟨by congr 2; omega, fun _ => by omega⟩
theorem canon_iff {cs : List Nat} (h : AllDigits cs) (h0 : cs ≠ []) : dg (digitsVal cs) = cs ↔ canon cs := by
  constructor
  · intro e; rw [← e]; exact (dg_canon _ _ (Nat.le_refl _)).1
  · intro c; exact (dg_of _ _ (Nat.le_refl _) c).1
theorem str_nat (m : Nat) : Str.ofString (toString ((m : Nat) : Int)) = tx (dg m) := by
  rw [str_tx (Str.ofString (toString ((m : Nat) : Int))), PySem.W.KIN.signs_num]; rfl
theorem str_neg (m : Nat) (h : 0 < m) : Str.ofString (toString (-((m : Nat) : Int))) = tx (45 :: dg m) := by
  obtain ⟨k, rfl⟩ : ∃ k, m = k + 1 := ⟨m - 1, by omega⟩
  rw [str_tx (Str.ofString (toString (-((k + 1 : Nat) : Int)))), tx_inj]
  have e : toString (-((k + 1 : Nat) : Int)) = "-" ++ Nat.repr (k + 1) := rfl
  have e2 : toString ((k + 1 : Nat) : Int) = Nat.repr (k + 1) := rfl
  have h1 := PySem.W.KIN.signs_num (k + 1)
  rw [e2, PyProof.Rows.signs_ofString] at h1
  rw [e, PyProof.Rows.signs_ofString, String.toList_append, List.map_append, h1]
  rfl
/-! the number of a text -/
def plain (cs : List Nat) : Bool := decide (1 ≤ cs.length) && decide (cs.length ≤ 12) && !(decide (cs.head? = some 48) && decide (1 < cs.length)) && cs.all fun c => decide (48 ≤ c) && decide (c ≤ 57)
theorem plain_iff {cs : List Nat} : plain cs = true ↔ canon cs ∧ cs.length ≤ 12 := by
  unfold plain canon AllDigits
  simp only [Bool.and_eq_true, decide_eq_true_eq, Bool.not_eq_true', Bool.and_eq_false_iff, decide_eq_false_iff_not, List.all_eq_true]
  constructor
  · rintro ⟨⟨⟨h1, h2⟩, h3⟩, h4⟩
    refine ⟨⟨h4, fun e => by subst e; simp at h1, fun hl => ?_⟩, h2⟩
    rcases h3 with h3 | h3
    · exact h3
    · omega
  · rintro ⟨⟨h1, h2, h3⟩, h4⟩
    have : 1 ≤ cs.length := by
      cases cs with
      | nil => exact absurd rfl h2
      | cons _ _ => simp
    refine ⟨⟨⟨this, h4⟩, ?_⟩, h1⟩
    by_cases hl : 1 < cs.length
    · exact .inl (h3 hl)
    · exact .inr hl
def num (cs : List Nat) : Option Int := if plain cs then some (digitsVal cs : Nat) else match cs with
  | 45 :: t => if plain t ∧ t ≠ [48] then some (-((digitsVal t : Nat) : Int)) else none
  | _ => none
/-- what the law reads -/
def readN (cs : List Nat) : Option Int :=
  let bare := if cs.take 1 = [45] then cs.drop 1 else cs
  if bare = [] ∨ 12 < bare.length ∨ ¬ (∀ c ∈ bare, 48 ≤ c ∧ c ≤ 57) then none
  else
    let f : Int := if bare = cs then ((digitsVal bare : Nat) : Int) else 0 - ((digitsVal bare : Nat) : Int)
    if Str.ofString (toString f) = tx cs then some f else none
theorem read_num (cs : List Nat) : readN cs = num cs := by
  unfold readN
  by_cases hm : cs.take 1 = [45]
  · obtain ⟨t, rfl⟩ : ∃ t, cs = 45 :: t := by
      cases cs with
      | nil => simp at hm
      | cons a t => simp at hm; exact ⟨t, by rw [hm]⟩
    have hnp : plain (45 :: t) = false := by
      cases q : plain (45 :: t) with
      | false => rfl
      | true =>
        have := (plain_iff.1 q).1.1 45 (by simp)
        omega
    have hnum : num (45 :: t) = if plain t ∧ t ≠ [48] then some (-((digitsVal t : Nat) : Int)) else none := by
      unfold num
      rw [hnp]
      simp
    rw [hnum]
    simp only [hm, if_true, List.drop_succ_cons, List.drop_zero]
    have hne : ¬ t = 45 :: t := fun e => by
      have := congrArg List.length e
      simp at this
    by_cases hb : t = [] ∨ 12 < t.length ∨ ¬ (∀ c ∈ t, 48 ≤ c ∧ c ≤ 57)
    · rw [if_pos hb, if_neg]
      rintro ⟨hp, _⟩
      have := plain_iff.1 hp
      rcases hb with hb | hb | hb
      · exact this.1.2.1 hb
      · omega
      · exact hb this.1.1
    · rw [if_neg hb, if_neg hne]
      have hb1 : t ≠ [] := fun e => hb (.inl e)
      have hb2 : ¬ 12 < t.length := fun e => hb (.inr (.inl e))
      have hb3 : AllDigits t := Classical.byContradiction fun e => hb (.inr (.inr e))
      rw [Int.zero_sub]
      by_cases hv : digitsVal t = 0
      · rw [hv]
        have e0 : Str.ofString (toString (-((0 : Nat) : Int))) = tx (dg 0) := str_nat 0
        rw [e0, if_neg (fun e => by rw [tx_inj] at e; rw [dg_small (by decide)] at e; simp at e), if_neg]
        rintro ⟨hp, h48⟩
        have := (dg_of _ _ (Nat.le_refl _) (plain_iff.1 hp).1).2 h48
        omega
      · rw [str_neg _ (by omega)]
        by_cases hc : canon t
        · have e1 := (dg_of _ _ (Nat.le_refl _) hc).1
          rw [if_pos (by rw [e1]), if_pos]
          refine ⟨plain_iff.2 ⟨hc, by omega⟩, fun e => hv (by rw [e]; rfl)⟩
        · rw [if_neg, if_neg]
          · rintro ⟨hp, _⟩; exact hc (plain_iff.1 hp).1
          · intro e
            rw [tx_inj] at e
            simp only [List.cons.injEq, true_and] at e
            exact hc ((canon_iff hb3 hb1).1 e)
  · simp only [hm, if_false, if_true]
    have hnum : num cs = if plain cs then some ((digitsVal cs : Nat) : Int) else none := by
      unfold num
      split
      · rfl
      · split
        · simp at hm
        · rfl
    rw [hnum]
    by_cases hb : cs = [] ∨ 12 < cs.length ∨ ¬ (∀ c ∈ cs, 48 ≤ c ∧ c ≤ 57)
    · rw [if_pos hb, if_neg]
      intro hp
      have := plain_iff.1 hp
      rcases hb with hb | hb | hb
      · exact this.1.2.1 hb
      · omega
      · exact hb this.1.1
    · rw [if_neg hb, str_nat]
      have hb1 : cs ≠ [] := fun e => hb (.inl e)
      have hb2 : ¬ 12 < cs.length := fun e => hb (.inr (.inl e))
      have hb3 : AllDigits cs := Classical.byContradiction fun e => hb (.inr (.inr e))
      by_cases hc : canon cs
      · have e1 := (dg_of _ _ (Nat.le_refl _) hc).1
        rw [if_pos (by rw [e1]), if_pos (plain_iff.2 ⟨hc, by omega⟩)]
      · rw [if_neg, if_neg]
        · intro hp; exact hc (plain_iff.1 hp).1
        · intro e
          rw [tx_inj] at e
          exact hc ((canon_iff hb3 hb1).1 e)
end K01
set_option Elab.async false
set_option linter.all false
set_option maxRecDepth 100000
set_option maxHeartbeats 0
namespace K01
open PySem L2 Tp St PySem.NumText
theorem txlen (cs : List Nat) : (tx cs).length = cs.length := by simp [Str.length]
theorem fEq_str {h : List Cell} (a b : List Nat) : fEq h (.str (tx a)) (.str (tx b)) = some (.bl (decide (a = b))) := by
  have : scD (.str (tx a)) (.str (tx b)) = true := rfl
  unfold fEq
  rw [if_pos this]
  simp only [eqD]
  congr 2
  rw [Bool.eq_iff_iff, beq_iff_eq, tx_inj, decide_eq_true_eq]
theorem fNe_str {h : List Cell} (a b : List Nat) : fNe h (.str (tx a)) (.str (tx b)) = some (.bl (!decide (a = b))) := by
  unfold fNe; rw [fEq_str]
theorem fLen_str {h : List Cell} {cs : List Nat} (hz : cs.length ≤ 1000000) : fLen h [.str (tx cs)] = some (.int cs.length, h) := by
  have : (tx cs).length ≤ 1000000 := by rw [txlen]; exact hz
  show (if (tx cs).length ≤ 1000000 then some (D.int (tx cs).length, h) else none) = _
  rw [if_pos this, txlen]
theorem fIx_str {h : List Cell} {cs : List Nat} {k : Nat} {c : Nat} (hz : cs.length ≤ 1000000) (e : cs[k]? = some c) : fIx h (.str (tx cs)) (.int (k : Int)) = some (.str (tx [c])) := by
  have h1 : (tx cs).length ≤ 1000000 := by rw [txlen]; exact hz
  show (if (tx cs).length ≤ 1000000 then (atI (tx cs).cps.toList (k : Int)).map fun c => D.str ⟨#[c]⟩ else none) = _
  rw [if_pos h1]
  have : atI (tx cs).cps.toList (k : Int) = some c := by
    have hk : k < cs.length := (List.getElem?_eq_some_iff.mp e).1
    unfold atI ixN
    rw [if_pos (by omega), if_pos (by simp; omega)]
    simpa using e
  rw [this]; rfl
theorem fAdd_str {h : List Cell} {a b : List Nat} (hz : a.length + b.length ≤ 1000000) : fAdd h (.str (tx a)) (.str (tx b)) = some (.str (tx (a ++ b))) := by
  have h1 : (tx a).length + (tx b).length ≤ 1000000 := by rw [txlen, txlen]; exact hz
  show (if (tx a).length + (tx b).length ≤ 1000000 then some (D.str (tx a ++ tx b)) else none) = _
  rw [if_pos h1]
  have : (tx a ++ tx b) = tx (a ++ b) := by
    show (⟨a.toArray ++ b.toArray⟩ : Str) = _
    simp
  rw [this]
theorem fSl_take {h : List Cell} {cs : List Nat} (k : Nat) (hz : cs.length ≤ 1000000) : fSl h (.str (tx cs)) none (some (k : Int)) = some (.str (tx (cs.take k))) := by
  have h1 : (tx cs).length ≤ 1000000 := by rw [txlen]; exact hz
  show (if (tx cs).length ≤ 1000000 then some (D.str (cutS (tx cs) none (some (k : Int)))) else none) = _
  rw [if_pos h1]
  unfold cutS
  rw [HT.sIx_none, HT.sIx_nat, txlen]
  have : List.take (min k cs.length - 0) (List.drop 0 (tx cs).cps.toList) = cs.take k := by
    rw [List.drop_zero, Nat.sub_zero]
    show List.take (min k cs.length) cs = _
    by_cases hk : k ≤ cs.length
    · rw [Nat.min_eq_left hk]
    · rw [Nat.min_eq_right (by omega), List.take_of_length_le (by omega), List.take_of_length_le (by omega)]
  rw [this]
theorem fSl_drop {h : List Cell} {cs : List Nat} (k : Nat) (hz : cs.length ≤ 1000000) : fSl h (.str (tx cs)) (some (k : Int)) none = some (.str (tx (cs.drop k))) := by
  have h1 : (tx cs).length ≤ 1000000 := by rw [txlen]; exact hz
  show (if (tx cs).length ≤ 1000000 then some (D.str (cutS (tx cs) (some (k : Int)) none)) else none) = _
  rw [if_pos h1]
  unfold cutS
  rw [HT.sIx_none, HT.sIx_nat, txlen]
  have : List.take (cs.length - min k cs.length) (List.drop (min k cs.length) (tx cs).cps.toList) = cs.drop k := by
    show List.take (cs.length - min k cs.length) (List.drop (min k cs.length) cs) = _
    by_cases hk : k ≤ cs.length
    · rw [Nat.min_eq_left hk, List.take_of_length_le (by simp)]
    · rw [Nat.min_eq_right (by omega)]
      simp; omega
  rw [this]
theorem fLe_sign {h : List Cell} (a c : Nat) : fLe h (.str (tx [a])) (.str (tx [c])) = some (.bl (decide (a ≤ c))) := by
  show some (D.bl (!decide ((tx [c]).cps.toList < (tx [a]).cps.toList))) = _
  have e : ((tx [c]).cps.toList < (tx [a]).cps.toList) ↔ c < a := by
    show ([c] : List Nat) < [a] ↔ c < a
    rw [List.cons_lt_cons_iff]
    simp
  congr 2
  rw [Bool.eq_iff_iff]
  simp only [Bool.not_eq_true', decide_eq_false_iff_not, decide_eq_true_eq, e]
  omega
theorem fSign_1 {h : List Cell} (c : Nat) (z : Str) : fSign h (.str (tx [c])) (.str z) = some (.bl (decide (c ∈ z.cps.toList))) := rfl
theorem signs_tx (cs : List Nat) : signs (tx cs) = cs.map fun c => .str (tx [c]) := rfl
theorem lcL_filter {g : MG} {t : MT} {b : ME} {G : Env1} {h : List Cell} {p : D → Bool} (l : List D) : ∀ (acc : List D), acc.length + l.length ≤ 1000000 → (∀ d ∈ l, ∃ G1, g d G h = some G1 ∧ t G1 h = some (p d, h) ∧ b G1 h = some (d, h)) → lcL g t b G l acc h = some (acc ++ l.filter p, h) := by
  induction l with
  | nil => intro acc _ _; simp
  | cons d l ih =>
    intro acc hz hd
    obtain ⟨G1, e1, e2, e3⟩ := hd d List.mem_cons_self
    have hz1 : acc.length < 1000000 := by simp at hz; omega
    rw [lcL_cons, e1]
    cases q : p d with
    | true =>
      rw [q] at e2
      simp only [e2, e3, hz1, if_true]
      rw [ih (acc ++ [d]) (by simp at hz ⊢; omega) (fun x hx => hd x (List.mem_cons_of_mem _ hx))]
      simp [q]
    | false =>
      rw [q] at e2
      simp only [e2]
      rw [ih acc (by simp at hz; omega) (fun x hx => hd x (List.mem_cons_of_mem _ hx))]
      simp [q]
theorem bls_map {α : Type} (f : α → Bool) : ∀ l : List α, blsOf (l.map fun x => D.bl (f x)) = some (l.map f)
  | [] => rfl
  | x :: l => by simp only [List.map_cons, blsOf, bls_map f l, Option.map_some]
/-! texts that may be asked -/
def asc (cs : List Nat) : Prop := ∀ c ∈ cs, c < 128
theorem strs_ok (cs : List Nat) (h : asc cs) (n : Nat) : okL n (cs.map fun c => .str (tx [c])) = true := by
  rw [okL_all, List.all_map, List.all_eq_true]
  intro c hc
  have := h c hc
  cases n <;> simp [okD, PyData.strOk] <;> omega
theorem strs_noRef (cs : List Nat) : noRefL (cs.map fun c => D.str (tx [c])) = true := by
  rw [noRefL_all, List.all_map, List.all_eq_true]
  intro c _; rfl
theorem fEq_empty {h : List Cell} (cs : List Nat) (ha : asc cs) : fEq h (.lst (cs.map fun c => .str (tx [c]))) (.lst []) = some (.bl (decide (cs = []))) := by
  have h1 : scD (.lst (cs.map fun c => D.str (tx [c]))) (.lst []) = false := rfl
  have h2 : frz h (.lst (cs.map fun c => D.str (tx [c]))) = some (.lst (cs.map fun c => .str (tx [c]))) := frz_noRef (by simp only [noRef]; exact strs_noRef cs)
  have h3 : frz h (.lst []) = some (.lst []) := rfl
  have h4 : okD 60 (.lst (cs.map fun c => D.str (tx [c]))) = true := strs_ok cs ha 59
  have h5 : okD 60 (.lst []) = true := rfl
  unfold fEq
  rw [h1, h2, h3]
  show (if (okD 60 (.lst (cs.map fun c => D.str (tx [c]))) && okD 60 (.lst [])) = true then some (D.bl (eqD (.lst (cs.map fun c => D.str (tx [c]))) (.lst []))) else none) = _
  rw [h4, h5]
  cases cs with
  | nil => rfl
  | cons c cs => simp [eqD, eqDL]
theorem isi_str {h : List Cell} {s : Str} {t : String} (e : isTy "str" t = some b) : fIsi h [.str s, .ty t] = some (.bl b, h) := by
  show (isTy "str" t).map (fun r => (D.bl r, h)) = _
  rw [e]; rfl
/-! is_name -/
def lettersL : List Nat := [97, 98, 99, 100, 101, 102, 103, 104, 105, 106, 107, 108, 109, 110, 111, 112, 113, 114, 115, 116, 117, 118, 119, 120, 121, 122]
theorem letters_eq : ("abcdefghijklmnopqrstuvwxyz" : Str) = tx lettersL := by decide +kernel
def figuresL : List Nat := [48, 49, 50, 51, 52, 53, 54, 55, 56, 57]
theorem figures_eq : ("0123456789" : Str) = tx figuresL := by decide +kernel
theorem mem_letters (c : Nat) : c ∈ lettersL ↔ 97 ≤ c ∧ c ≤ 122 := by
  unfold lettersL; simp; omega
theorem mem_figures (c : Nat) : c ∈ figuresL ↔ 48 ≤ c ∧ c ≤ 57 := by
  unfold figuresL; simp; omega
def nameB (cs : List Nat) : Bool := decide (1 ≤ cs.length) && decide (cs.length ≤ 8) && cs.all fun c => decide (97 ≤ c) && decide (c ≤ 122)
theorem all_map_id {α : Type} (f : α → Bool) (l : List α) : (l.map f).all id = l.all f := by rw [List.all_map]; rfl
theorem F_is_name_ok {h : List Cell} (cs : List Nat) (hz : cs.length ≤ 1000) : F_is_name h [.str (tx cs)] = some (.bl (nameB cs), h) := by
  have i1 : ∀ h, fIsi h [.str (tx cs), .ty "str"] = some (.bl true, h) := fun _ => rfl
  have l1 : ∀ h, fLen h [.str (tx cs)] = some (.int cs.length, h) := fun h => fLen_str (by omega)
  have c1 := lcL_map (h := []) (g := gN 1) (t := mYes) (b := mO2 fSign (mV 1) (mC (.str "abcdefghijklmnopqrstuvwxyz"))) (G := [some (.str (tx cs)), none]) (f := fun d => match d with | .str s => .bl (decide (s.cps.getD 0 0 ∈ lettersL)) | d => d) (cs.map fun c => .str (tx [c])) [] (by simp; omega) (fun d hd => by
    obtain ⟨c, _, rfl⟩ := List.mem_map.1 hd
    refine ⟨_, rfl, rfl, ?_⟩
    rw [letters_eq]
    simp [fSign_1])
  have e1 : (cs.map fun c => D.str (tx [c])).map (fun d => match d with | .str s => D.bl (decide (s.cps.getD 0 0 ∈ lettersL)) | d => d) = cs.map fun c => .bl (decide (c ∈ lettersL)) := by
    rw [List.map_map]; rfl
  rw [e1, List.nil_append] at c1
  have a1 : ∀ h, fAll h [.lst (cs.map fun c => .bl (decide (c ∈ lettersL)))] = some (.bl (cs.all fun c => decide (c ∈ lettersL)), h) := fun h => by
    show (blsOf (cs.map fun c => D.bl (decide (c ∈ lettersL)))).map (fun bs => (D.bl (bs.all id), h)) = _
    rw [bls_map]
    simp only [Option.map_some, all_map_id]
  have hv : nameB cs = (decide (1 ≤ cs.length) && decide (cs.length ≤ 8) && cs.all fun c => decide (c ∈ lettersL)) := by
    unfold nameB
    congr 2
    funext c
    rw [Bool.eq_iff_iff]
    simp [mem_letters]
  refine pureF_no (h1 := []) (d := .bl (nameB cs)) (by simp [noRefL, noRef]) ?_ rfl
  unfold R_is_name runB m_is_name
  by_cases k0 : cs.length = 0
  · have : cs = [] := List.length_eq_zero_iff.1 k0
    subst this
    simp -implicitDefEqProofs [i1, l1, nameB]
  · have k0' : ¬ cs = [] := fun e => k0 (by rw [e]; rfl)
    by_cases k1 : 8 < cs.length
    · have hn : nameB cs = false := by unfold nameB; simp; omega
      rw [hn]
      have k1' : (8 : Int) < cs.length := by omega
      simp -implicitDefEqProofs [i1, l1, k0, k0', k1, k1']
    · have hb : nameB cs = cs.all fun c => decide (c ∈ lettersL) := by
        rw [hv]
        have z1 : decide (1 ≤ cs.length) = true := decide_eq_true (by omega)
        have z2 : decide (cs.length ≤ 8) = true := decide_eq_true (by omega)
        rw [z1, z2]; rfl
      rw [hb]
      have k1' : ¬ (8 : Int) < cs.length := by omega
      simp -implicitDefEqProofs [i1, l1, k0, k0', k1, k1', wipeE, signs_tx, c1, a1]
theorem F_plain_ok {h : List Cell} (cs : List Nat) (hz : cs.length ≤ 1000) : F_plain_figures h [.str (tx cs)] = some (.bl (plain cs), h) := by
  have l1 : ∀ h, fLen h [.str (tx cs)] = some (.int cs.length, h) := fun h => fLen_str (by omega)
  have c1 := lcL_map (h := []) (g := gN 1) (t := mYes) (b := mO2 fSign (mV 1) (mC (.str "0123456789"))) (G := [some (.str (tx cs)), none]) (f := fun d => match d with | .str s => .bl (decide (s.cps.getD 0 0 ∈ figuresL)) | d => d) (cs.map fun c => .str (tx [c])) [] (by simp; omega) (fun d hd => by
    obtain ⟨c, _, rfl⟩ := List.mem_map.1 hd
    refine ⟨_, rfl, rfl, ?_⟩
    rw [figures_eq]
    simp [fSign_1])
  have e1 : (cs.map fun c => D.str (tx [c])).map (fun d => match d with | .str s => D.bl (decide (s.cps.getD 0 0 ∈ figuresL)) | d => d) = cs.map fun c => .bl (decide (c ∈ figuresL)) := by
    rw [List.map_map]; rfl
  rw [e1, List.nil_append] at c1
  have a1 : ∀ h, fAll h [.lst (cs.map fun c => .bl (decide (c ∈ figuresL)))] = some (.bl (cs.all fun c => decide (c ∈ figuresL)), h) := fun h => by
    show (blsOf (cs.map fun c => D.bl (decide (c ∈ figuresL)))).map (fun bs => (D.bl (bs.all id), h)) = _
    rw [bls_map]
    simp only [Option.map_some, all_map_id]
  have hv : (cs.all fun c => decide (48 ≤ c) && decide (c ≤ 57)) = cs.all fun c => decide (c ∈ figuresL) := by
    congr 1
    funext c
    rw [Bool.eq_iff_iff]
    simp [mem_figures]
  have z0 : ("0" : Str) = tx [48] := by decide +kernel
  refine pureF_no (h1 := []) (d := .bl (plain cs)) (by simp [noRefL, noRef]) ?_ rfl
  unfold R_plain_figures runB m_plain_figures
  cases cs with
  | nil => simp -implicitDefEqProofs [l1, plain]
  | cons c t =>
    have ix : ∀ h, fIx h (.str (tx (c :: t))) (.int 0) = some (.str (tx [c])) := fun h => fIx_str (k := 0) (by omega) rfl
    have k0 : ¬ (t.length : Int) + 1 = 0 := by omega
    by_cases k1 : 12 < (c :: t).length
    · have hn : plain (c :: t) = false := by unfold plain; simp at k1 ⊢; omega
      rw [hn]
      have k1' : (12 : Int) < t.length + 1 := by simp at k1; omega
      simp -implicitDefEqProofs [l1, k0, k1']
    · have k1' : ¬ (12 : Int) < t.length + 1 := by simp at k1; omega
      by_cases k2 : c = 48
      · subst k2
        by_cases k3 : 0 < t.length
        · have hn : plain (48 :: t) = false := by
            cases q : plain (48 :: t) with
            | false => rfl
            | true => exact absurd rfl ((plain_iff.1 q).1.2.2 (by simp; omega))
          rw [hn]
          have k3' : (1 : Int) < t.length + 1 := by omega
          simp -implicitDefEqProofs [l1, k0, k1', ix, z0, fEq_str, k3']
        · have : t = [] := List.length_eq_zero_iff.1 (by omega)
          subst this
          simp -implicitDefEqProofs only [List.map_cons, List.map_nil] at c1 a1
          have hp : plain [48] = true := by decide
          rw [hp]
          simp -implicitDefEqProofs [l1, ix, z0, fEq_str, wipeE, signs_tx]
          rw [show (D.str { cps := #[48] }) = D.str (tx [48]) from rfl] at *
          simp -implicitDefEqProofs [c1, a1]
          decide
      · have hp : plain (c :: t) = (c :: t).all fun c => decide (c ∈ figuresL) := by
          rw [← hv]
          unfold plain
          have z1 : decide (1 ≤ (c :: t).length) = true := decide_eq_true (by simp)
          have z2 : decide ((c :: t).length ≤ 12) = true := decide_eq_true (by omega)
          have z3 : decide ((c :: t).head? = some 48) = false := decide_eq_false (by simpa using k2)
          rw [z1, z2, z3]; rfl
        rw [hp]
        simp -implicitDefEqProofs only [List.map_cons] at c1 a1
        simp -implicitDefEqProofs [l1, k0, k1', ix, z0, fEq_str, k2, wipeE, signs_tx, c1, a1]
end K01
set_option Elab.async false
set_option linter.all false
set_option maxRecDepth 100000
set_option maxHeartbeats 0
namespace K01
open PySem L2 Tp St PySem.NumText
theorem fNe_strG {h : List Cell} (a b : Str) : fNe h (.str a) (.str b) = some (.bl (!decide (a = b))) := by
  have : scD (.str a) (.str b) = true := rfl
  unfold fNe fEq
  rw [if_pos this]
  simp only [eqD]
  have e : (a == b) = decide (a = b) := by rw [Bool.eq_iff_iff, beq_iff_eq, decide_eq_true_eq]
  rw [e]
theorem chain_int {a b c : ME} {G : Env1} {h : List Cell} {x y z : Int} (ea : a G h = some (.int x, h)) (eb : b G h = some (.int y, h)) (ec : c G h = some (.int z, h)) : mChain fLe fLe a b c G h = some (.bl (decide (x ≤ y) && decide (y ≤ z)), h) := by
  unfold mChain
  rw [ea]
  simp only [eb, fLe_i]
  by_cases k : x ≤ y
  · simp [k, ec]
  · simp [k]
theorem chain_sign {a b c : ME} {G : Env1} {h : List Cell} {x y z : Nat} (ea : a G h = some (.str (tx [x]), h)) (eb : b G h = some (.str (tx [y]), h)) (ec : c G h = some (.str (tx [z]), h)) : mChain fLe fLe a b c G h = some (.bl (decide (x ≤ y) && decide (y ≤ z)), h) := by
  unfold mChain
  rw [ea]
  simp only [eb, fLe_sign]
  by_cases k : x ≤ y
  · simp [k, ec, fLe_sign]
  · simp [k]
def bnd (o : Option Int) (lo hi : Int) : Option Int := match o with
  | some n => if lo ≤ n ∧ n ≤ hi then some n else none
  | none => none
theorem zm : ("-" : Str) = tx [45] := by decide +kernel
theorem zm0 : ("-0" : Str) = tx [45, 48] := by decide +kernel
theorem fInt_str {h : List Cell} {cs : List Nat} (hp : plain cs = true) : fInt h [.str (tx cs)] = some (.int ((digitsVal cs : Nat) : Int), h) := by
  have hc := plain_iff.1 hp
  have hl : (tx cs).length ≤ 640 := by rw [txlen]; omega
  show (if (tx cs).length ≤ 640 then (PySem.intText? (tx cs)).map fun n => (D.int n, h) else none) = _
  rw [if_pos hl, intText_digits (x := tx cs) (by simpa using hc.1.1) (by simpa using hc.1.2.1) (by rw [txlen]; omega)]
  simp
def tailN (lo hi : Int) : MS := mSeq (mIfS ((mOr (mTest (mO2 fIsN (mV 3) (mC .non))) (mNot (mTest (mChain fLe fLe (mV 1) (mV 3) (mV 2)))))) (mRet (mC .non)) (mNext)) (mRet (mV 3))
theorem tail_none {z : Option D} {lo hi : Int} : (tailN lo hi) [z, some (.int lo), some (.int hi), some .non] [] = some (.rt .non, []) := by
  have h1 : ∀ h, fIsN h .non .non = some (.bl true) := fun _ => rfl
  unfold tailN
  simp [h1]
theorem tail_some {z : Option D} {lo hi n : Int} : (tailN lo hi) [z, some (.int lo), some (.int hi), some (.int n)] [] = some (.rt (eO (bnd (some n) lo hi)), []) := by
  have h1 : ∀ h, fIsN h (.int n) .non = some (.bl false) := fun _ => rfl
  have h2 := chain_int (a := mV 1) (b := mV 3) (c := mV 2) (G := [z, some (.int lo), some (.int hi), some (.int n)]) (h := []) (x := lo) (y := n) (z := hi) rfl rfl rfl
  unfold tailN bnd
  by_cases k1 : lo ≤ n
  · by_cases k2 : n ≤ hi
    · simp [h1, h2, k1, k2, eO]
    · simp [h1, h2, k1, k2, eO]
  · simp [h1, h2, k1, eO]
theorem F_number_ok {h : List Cell} (cs : List Nat) (lo hi : Int) (hz : cs.length ≤ 500) : F_number_of h [.str (tx cs), .int lo, .int hi] = some (eO (bnd (num cs) lo hi), h) := by
  have p1 : ∀ h, F_plain_figures h [.str (tx cs)] = some (.bl (plain cs), h) := fun h => F_plain_ok cs (by omega)
  have p2 : ∀ h, F_plain_figures h [.str (tx (cs.drop 1))] = some (.bl (plain (cs.drop 1)), h) := fun h => F_plain_ok (cs.drop 1) (by simp; omega)
  have t1 : ∀ h, fSl h (.str (tx cs)) none (some 1) = some (.str (tx (cs.take 1))) := fun h => fSl_take 1 (by omega)
  have t2 : ∀ h, fSl h (.str (tx cs)) (some 1) none = some (.str (tx (cs.drop 1))) := fun h => fSl_drop 1 (by omega)
  have em : m_number_of = mSeq (mAsg (mC .non) (gN 3)) (mSeq (mIfS (mTest (mB F_plain_figures (mCons (mV 0) (mNil)))) (mAsg (mB fInt (mCons (mV 0) (mNil))) (gN 3)) (mIfS ((mAnd (mTest (mO2 fEq (mSl (mV 0) oNone (oSome (mC (.int 1)))) (mC (.str "-")))) (mAnd (mTest (mO2 fNe (mV 0) (mC (.str "-0")))) (mTest (mB F_plain_figures (mCons (mSl (mV 0) (oSome (mC (.int 1))) oNone) (mNil))))))) (mAsg (mO2 fSub (mC (.int 0)) (mB fInt (mCons (mSl (mV 0) (oSome (mC (.int 1))) oNone) (mNil)))) (gN 3)) (mNext))) (tailN lo hi)) := rfl
  refine pureF_no (h1 := []) (d := eO (bnd (num cs) lo hi)) (by simp [noRefL, noRef]) ?_ (frz_noRef (eO_noRef _))
  unfold R_number_of runB
  rw [em]
  by_cases k1 : plain cs = true
  · have hn : num cs = some ((digitsVal cs : Nat) : Int) := by unfold num; rw [if_pos k1]
    have i1 := fun h => fInt_str (h := h) k1
    rw [k1] at p1
    rw [hn]
    simp -implicitDefEqProofs [p1, i1, tail_some]
  · have k1' : plain cs = false := by simpa using k1
    rw [k1'] at p1
    by_cases k2 : cs.take 1 = [45]
    · obtain ⟨t, rfl⟩ : ∃ t, cs = 45 :: t := by
        cases cs with
        | nil => simp at k2
        | cons a t => simp at k2; exact ⟨t, by rw [k2]⟩
      have hn : num (45 :: t) = if plain t ∧ t ≠ [48] then some (-((digitsVal t : Nat) : Int)) else none := by
        unfold num; rw [k1']; simp
      simp only [List.drop_succ_cons, List.drop_zero, List.take_succ_cons, List.take_zero] at p2 t1 t2
      by_cases k3 : t = [48]
      · subst k3
        have q : ¬ (plain [48] = true ∧ [48] ≠ [48]) := fun z => z.2 rfl
        rw [if_neg q] at hn
        rw [hn]
        simp -implicitDefEqProofs [p1, t1, zm, zm0, fEq_str, fNe_str, tail_none, bnd, eO]
      · by_cases k4 : plain t = true
        · rw [if_pos ⟨k4, k3⟩] at hn
          rw [hn]
          have i1 := fun h => fInt_str (h := h) k4
          rw [k4] at p2
          simp -implicitDefEqProofs [p1, p2, t1, t2, zm, zm0, fEq_str, fNe_str, k3, i1, tail_some]
        · rw [if_neg (fun z => k4 z.1)] at hn
          rw [hn]
          have k4' : plain t = false := by simpa using k4
          rw [k4'] at p2
          simp -implicitDefEqProofs [p1, p2, t1, t2, zm, zm0, fEq_str, fNe_str, k3, tail_none, bnd, eO]
    · have hn : num cs = none := by
        unfold num
        rw [k1']
        split
        · rename_i h; cases h
        · split
          · simp at k2
          · rfl
      rw [hn]
      simp -implicitDefEqProofs [p1, t1, zm, fEq_str, k2, tail_none, bnd, eO]
/-! the law's reading -/
theorem val_lt : ∀ (n : Nat) (cs : List Nat), cs.length ≤ n → AllDigits cs → digitsVal cs < 10 ^ cs.length
  | n, cs, hn, h => by
    rcases List.eq_nil_or_concat cs with rfl | ⟨l, c, rfl⟩
    · decide
    · simp only [List.concat_eq_append] at *
      cases n with
      | zero => simp at hn
      | succ n =>
        have ih := val_lt n l (by simp at hn; omega) (fun x hx => h x (List.mem_append_left _ hx))
        have hc := h c (by simp)
        rw [val_snoc, List.length_append, List.length_singleton, Nat.pow_succ]
        omega
theorem idx_dig : ∀ d : Nat, d < 10 → Txt.index0 ("0123456789" : Str) ⟨#[48 + d]⟩ = some d := by decide +kernel
theorem read_loop (g0 g1 : Option D) : ∀ (cs : List Nat) (v : Nat) (g3 : Option D), AllDigits cs → ∃ g3', forL (gN 3) lb_law_read_1 (cs.map fun c => .str (tx [c])) [g0, g1, some (.int (v : Int)), g3] [] = some (.nx [g0, g1, some (.int ((cs.foldl (fun acc c => acc * 10 + (c - 48)) v : Nat) : Int)), g3'], [])
  | [], v, g3, _ => ⟨g3, rfl⟩
  | c :: cs, v, g3, h => by
    have hc := h.head
    obtain ⟨g3', e⟩ := read_loop g0 g1 cs (v * 10 + (c - 48)) (some (.str (tx [c]))) h.tail
    refine ⟨g3', ?_⟩
    have hi : fIdx [] (.str "0123456789") [.str (tx [c])] = some (.int ((c - 48 : Nat) : Int), []) := by
      have := idx_dig (c - 48) (by omega)
      have e1 : 48 + (c - 48) = c := by omega
      rw [e1] at this
      show (match Txt.index0 ("0123456789" : Str) (tx [c]) with | some k => some (D.int (k : Nat), []) | none => none) = _
      rw [this]
    have s10 : small 10 = true := by decide
    have ht : hasT [] (.str "0123456789") .str = true := rfl
    have ev : (10 : Int) * (v : Int) + ((c - 48 : Nat) : Int) = ((v * 10 + (c - 48) : Nat) : Int) := by omega
    have hb : lb_law_read_1 [g0, g1, some (.int (v : Int)), some (.str (tx [c]))] [] = some (.nx [g0, g1, some (.int ((v * 10 + (c - 48) : Nat) : Int)), some (.str (tx [c]))], []) := by
      unfold lb_law_read_1
      simp -implicitDefEqProofs only [mAsg_e, mO2_e, mC_e, mV_e, mMe_e, mCons_e, mNil_e, List.getElem?_cons_zero, List.getElem?_cons_succ, fMul_i, s10, Bool.true_or, if_true, ht, hi, fAdd_i, Option.map_some, gN_e, List.set_cons_succ, List.set_cons_zero, ev]
    have hg : gN 3 (.str (tx [c])) [g0, g1, some (.int (v : Int)), g3] [] = some [g0, g1, some (.int (v : Int)), some (.str (tx [c]))] := rfl
    simp only [List.map_cons, forL_cons, hg, hb, List.foldl_cons]
    exact e
end K01
set_option Elab.async false
set_option linter.all false
set_option maxRecDepth 100000
set_option maxHeartbeats 0
namespace K01
open PySem L2 Tp St PySem.NumText
theorem asc_sub {cs ds : List Nat} (h : asc cs) (s : ∀ c ∈ ds, c ∈ cs) : asc ds := fun c hc => h c (s c hc)
def outB (a b : Nat) (d : D) : Bool := match d with
  | .str s => !(decide (a ≤ s.cps.getD 0 0) && decide (s.cps.getD 0 0 ≤ b))
  | _ => false
theorem comp_out {G : Env1} {h : List Cell} {k a b : Nat} {x y : Str} (hx : x = tx [a]) (hy : y = tx [b]) (hk : k < G.length) (cs : List Nat) (hz : cs.length ≤ 1000) :
    lcL (gN k) (mNot (mTest (mChain fLe fLe (mC (.str x)) (mV k) (mC (.str y))))) (mV k) G (cs.map fun c => .str (tx [c])) [] h = some ((cs.filter fun c => !(decide (a ≤ c) && decide (c ≤ b))).map fun c => .str (tx [c]), h) := by
  subst hx hy
  have := lcL_filter (g := gN k) (t := mNot (mTest (mChain fLe fLe (mC (.str (tx [a]))) (mV k) (mC (.str (tx [b])))))) (b := mV k) (G := G) (h := h) (p := outB a b) (cs.map fun c => .str (tx [c])) [] (by simp; omega) (fun d hd => by
    obtain ⟨c, _, rfl⟩ := List.mem_map.1 hd
    have hv : mV k (G.set k (some (.str (tx [c])))) h = some (.str (tx [c]), h) := by simp [hk]
    refine ⟨_, rfl, ?_, hv⟩
    have := chain_sign (a := mC (.str (tx [a]))) (b := mV k) (c := mC (.str (tx [b]))) (G := G.set k (some (.str (tx [c])))) (h := h) rfl hv rfl
    simp only [mNot_e, mTest_e, this]
    rfl)
  rw [this, List.nil_append]
  congr 2
  rw [List.filter_map]; rfl
theorem fNe_empty {h : List Cell} (cs : List Nat) (ha : asc cs) : fNe h (.lst (cs.map fun c => .str (tx [c]))) (.lst []) = some (.bl (!decide (cs = []))) := by
  unfold fNe; rw [fEq_empty cs ha]
def readB (cs B : List Nat) : Option Int := if B = [] ∨ 12 < B.length ∨ ¬ (∀ c ∈ B, 48 ≤ c ∧ c ≤ 57) then none
  else
    let f : Int := if B = cs then ((digitsVal B : Nat) : Int) else 0 - ((digitsVal B : Nat) : Int)
    if Str.ofString (toString f) = tx cs then some f else none
theorem readN_B (cs : List Nat) : readN cs = readB cs (if cs.take 1 = [45] then cs.drop 1 else cs) := rfl
def tail1 : MS := mSeq (mIfS ((mOr (mTest (mO2 fEq (mV 1) (mC (.str "")))) (mOr (mTest (mO2 fGt (mB fLen (mCons (mV 1) (mNil))) (mC (.int 12)))) (mTest (mO2 fNe (mLc (iStrM (mV 1)) (gN 3) (mNot (mTest (mChain fLe fLe (mC (.str "0")) (mV 3) (mC (.str "9"))))) (mV 3) [3]) (mLst (mNil))))))) (mRet (mC .non)) (mNext)) (mSeq (mAsg (mC (.int 0)) (gN 2)) (mSeq (mForI (iStrM (mV 1)) (gN 3) lb_law_read_1) (mSeq (mIfS (mTest (mO2 fNe (mV 1) (mV 0))) (mAsg (mO2 fSub (mC (.int 0)) (mV 2)) (gN 2)) (mNext)) (mSeq (mIfS (mTest (mO2 fNe (mB fStr (mCons (mV 2) (mNil))) (mV 0))) (mRet (mC .non)) (mNext)) (mRet (mV 2))))))
theorem log_ok {m : Nat} (h : m < 10 ^ 12) : m.log2 < 1920 := by
  by_cases h0 : m = 0
  · subst h0; decide
  · rw [Nat.log2_lt h0]
    exact Nat.lt_of_lt_of_le h (Nat.le_trans (by decide : 10 ^ 12 ≤ 2 ^ 40) (Nat.pow_le_pow_right (by decide) (by decide)))
theorem fStr_ok {h : List Cell} {i : Int} (hi : i.natAbs < 10 ^ 12) : fStr h [.int i] = some (.str (Str.ofString (toString i)), h) := by
  show (if i.natAbs.log2 < 1920 then some (D.str (toString i), h) else none) = _
  rw [if_pos (log_ok hi)]
theorem tail1_ok (cs B : List Nat) (ha : asc B) (hz : B.length ≤ 500) (hz2 : cs.length ≤ 500) : tail1 [some (.str (tx cs)), some (.str (tx B)), none, none] [] = some (.rt (eO (readB cs B)), []) := by
  have ze : ("" : Str) = tx [] := by decide +kernel
  have z0 : ("0" : Str) = tx [48] := by decide +kernel
  have z9 : ("9" : Str) = tx [57] := by decide +kernel
  have l1 : ∀ h, fLen h [.str (tx B)] = some (.int B.length, h) := fun h => fLen_str (by omega)
  have c1 := comp_out (G := [some (.str (tx cs)), some (.str (tx B)), none, none]) (h := []) (k := 3) z0 z9 (by simp) B (by omega)
  have n1 := fNe_empty (h := []) (B.filter fun c => !(decide (48 ≤ c) && decide (c ≤ 57))) (asc_sub ha fun c hc => (List.mem_filter.1 hc).1)
  unfold tail1
  by_cases k1 : B = []
  · have hr : readB cs B = none := by unfold readB; rw [if_pos (.inl k1)]
    rw [hr]
    simp -implicitDefEqProofs [ze, fEq_str, k1, eO]
  · by_cases k2 : 12 < B.length
    · have hr : readB cs B = none := by unfold readB; rw [if_pos (.inr (.inl k2))]
      have k2' : (12 : Int) < B.length := by omega
      rw [hr]
      simp -implicitDefEqProofs [ze, fEq_str, k1, l1, k2, k2', eO]
    · have k2' : ¬ (12 : Int) < B.length := by omega
      by_cases k3 : ∀ c ∈ B, 48 ≤ c ∧ c ≤ 57
      · have hf : (B.filter fun c => !(decide (48 ≤ c) && decide (c ≤ 57))) = [] := by
          rw [List.filter_eq_nil_iff]
          intro c hc
          have := k3 c hc
          simp; omega
        rw [hf] at c1 n1
        have hr : readB cs B = (let f : Int := if B = cs then ((digitsVal B : Nat) : Int) else 0 - ((digitsVal B : Nat) : Int); if Str.ofString (toString f) = tx cs then some f else none) := by
          unfold readB; rw [if_neg]
          rintro (h | h | h)
          · exact k1 h
          · exact k2 h
          · exact h k3
        rw [hr]
        dsimp only
        obtain ⟨g3', e⟩ := read_loop (some (.str (tx cs))) (some (.str (tx B))) B 0 none k3
        have hv := val_lt _ B (Nat.le_refl _) k3
        have hv2 : digitsVal B < 10 ^ 12 := Nat.lt_of_lt_of_le hv (Nat.pow_le_pow_right (by decide) (by omega))
        have s1 := fun h => fStr_ok (h := h) (i := ((digitsVal B : Nat) : Int)) (by simpa using hv2)
        have s2 := fun h => fStr_ok (h := h) (i := -((digitsVal B : Nat) : Int)) (by simpa using hv2)
        have e' : forL (gN 3) lb_law_read_1 (B.map fun c => .str (tx [c])) [some (.str (tx cs)), some (.str (tx B)), some (.int 0), none] [] = some (.nx [some (.str (tx cs)), some (.str (tx B)), some (.int ((digitsVal B : Nat) : Int)), g3'], []) := e
        simp only [List.map_nil] at c1 n1
        generalize hV : ((digitsVal B : Nat) : Int) = V at s1 s2 e' ⊢
        generalize hL : lb_law_read_1 = LB at e' ⊢
        by_cases k4 : B = cs
        · subst k4
          rw [if_pos rfl]
          generalize Str.ofString (toString V) = SV at s1 ⊢
          by_cases k5 : SV = tx B
          · simp only [k5, if_true]
            simp -implicitDefEqProofs [ze, fEq_str, fNe_str, k1, l1, k2, k2', wipeE, signs_tx, c1, n1, e', s1, fNe_strG, k5, eO]
          · simp only [k5, if_false]
            simp -implicitDefEqProofs [ze, fEq_str, fNe_str, k1, l1, k2, k2', wipeE, signs_tx, c1, n1, e', s1, fNe_strG, k5, eO]
        · rw [if_neg k4, Int.zero_sub]
          generalize Str.ofString (toString (-V)) = SV at s2 ⊢
          by_cases k5 : SV = tx cs
          · simp only [k5, if_true]
            simp -implicitDefEqProofs [ze, fEq_str, fNe_str, k1, l1, k2, k2', wipeE, signs_tx, c1, n1, e', k4, s2, fNe_strG, k5, eO]
          · simp only [k5, if_false]
            simp -implicitDefEqProofs [ze, fEq_str, fNe_str, k1, l1, k2, k2', wipeE, signs_tx, c1, n1, e', k4, s2, fNe_strG, k5, eO]
      · have hf : ¬ (B.filter fun c => !(decide (48 ≤ c) && decide (c ≤ 57))) = [] := by
          intro h
          rw [List.filter_eq_nil_iff] at h
          apply k3
          intro c hc
          have := h c hc
          simp at this; exact this
        have hr : readB cs B = none := by unfold readB; rw [if_pos (.inr (.inr k3))]
        rw [hr]
        have hd : decide ((B.filter fun c => !(decide (48 ≤ c) && decide (c ≤ 57))) = []) = false := decide_eq_false hf
        rw [hd] at n1
        generalize (B.filter fun c => !(decide (48 ≤ c) && decide (c ≤ 57))).map (fun c => D.str (tx [c])) = FL at c1 n1
        simp -implicitDefEqProofs [ze, fEq_str, k1, l1, k2, k2', wipeE, signs_tx, c1, n1, eO]
theorem F_read_ok {h : List Cell} (cs : List Nat) (ha : asc cs) (hz : cs.length ≤ 500) : F_law_read h [.str (tx cs)] = some (eO (num cs), h) := by
  have t1 : ∀ h, fSl h (.str (tx cs)) none (some 1) = some (.str (tx (cs.take 1))) := fun h => fSl_take 1 (by omega)
  have t2 : ∀ h, fSl h (.str (tx cs)) (some 1) none = some (.str (tx (cs.drop 1))) := fun h => fSl_drop 1 (by omega)
  have em : m_law_read = mSeq (mAsg (mV 0) (gN 1)) (mSeq (mIfS (mTest (mO2 fEq (mSl (mV 0) oNone (oSome (mC (.int 1)))) (mC (.str "-")))) (mAsg (mSl (mV 0) (oSome (mC (.int 1))) oNone) (gN 1)) (mNext)) tail1) := rfl
  refine pureF_no (h1 := []) (d := eO (num cs)) (by simp [noRefL, noRef]) ?_ (frz_noRef (eO_noRef _))
  rw [← read_num, readN_B]
  unfold R_law_read runB
  rw [em]
  by_cases k : cs.take 1 = [45]
  · have e1 := tail1_ok cs (cs.drop 1) (asc_sub ha fun c hc => List.mem_of_mem_drop hc) (by simp; omega) hz
    simp only [k, if_true]
    generalize readB cs (cs.drop 1) = RB at e1
    simp only [List.drop_one] at e1
    simp -implicitDefEqProofs [t1, t2, zm, fEq_str, k, e1]
  · have e1 := tail1_ok cs cs ha hz hz
    simp only [k, if_false]
    generalize readB cs cs = RB at e1
    simp -implicitDefEqProofs [t1, zm, fEq_str, k, e1]
end K01
set_option Elab.async false
set_option linter.all false
set_option maxRecDepth 100000
set_option maxHeartbeats 0
namespace K01
open PySem L2 Tp St
theorem noRef_eO (o : Option Int) : noRef (eO o) = true := by cases o <;> rfl
theorem F_same_eO {h : List Cell} (a b : Option Int) : F_law_same h [eO a, eO b] = some (.bl (decide (a = b)), h) := by
  have r : R_law_same [] [eO a, eO b] = some (.bl (decide (a = b)), []) := by
    cases b with
    | none =>
      cases a with
      | none => rfl
      | some a => rfl
    | some b =>
      have i2 : fIsi [] [.int b, .ty "bool"] = some (.bl false, []) := rfl
      have e0 : fEq [] (.bl false) (.bl false) = some (.bl true) := rfl
      have n0 : fIsN [] (.int b) .non = some (.bl false) := rfl
      cases a with
      | none =>
        have i1 : fIsi [] [.non, .ty "bool"] = some (.bl false, []) := rfl
        have e1 : fEq [] .non (.int b) = some (.bl false) := rfl
        unfold R_law_same runB m_law_same
        simp -implicitDefEqProofs [eO, i1, i2, e0, e1, n0]
      | some a =>
        have i1 : fIsi [] [.int a, .ty "bool"] = some (.bl false, []) := rfl
        unfold R_law_same runB m_law_same
        simp -implicitDefEqProofs [eO, i1, i2, e0, n0]
  exact pureF_no (by simp [noRefL, noRef_eO]) r rfl
theorem F_same_bl {h : List Cell} (a b : Bool) : F_law_same h [.bl a, .bl b] = some (.bl (decide (a = b)), h) := by
  have r : R_law_same [] [.bl a, .bl b] = some (.bl (decide (a = b)), []) := by cases a <;> cases b <;> rfl
  exact pureF_no rfl r rfl
theorem F_whole_int {h : List Cell} (v lo hi : Int) : F_is_whole h [.int v, .int lo, .int hi] = some (.bl (decide (lo ≤ v) && decide (v ≤ hi)), h) := by
  have r : R_is_whole [] [.int v, .int lo, .int hi] = some (.bl (decide (lo ≤ v) && decide (v ≤ hi)), []) := by
    have i1 : fIsi [] [.int v, .ty "int"] = some (.bl true, []) := rfl
    have i2 : fIsi [] [.int v, .ty "bool"] = some (.bl false, []) := rfl
    have ch := chain_int (a := mV 1) (b := mV 0) (c := mV 2) (G := [some (.int v), some (.int lo), some (.int hi)]) (h := []) rfl rfl rfl
    unfold R_is_whole runB m_is_whole
    simp -implicitDefEqProofs [i1, i2, ch]
  exact pureF_no rfl r rfl
theorem F_whole_not {h : List Cell} (x : D) (lo hi : Int) (hn : noRef x = true) (e : fIsi [] [x, .ty "int"] = some (.bl false, [])) : F_is_whole h [x, .int lo, .int hi] = some (.bl false, h) := by
  have r : R_is_whole [] [x, .int lo, .int hi] = some (.bl false, []) := by
    unfold R_is_whole runB m_is_whole
    simp -implicitDefEqProofs [e]
  exact pureF_no (by simp [noRefL, noRef, hn]) r rfl
theorem F_whole_bl {h : List Cell} (x : Bool) (lo hi : Int) : F_is_whole h [.bl x, .int lo, .int hi] = some (.bl false, h) := by
  have r : R_is_whole [] [.bl x, .int lo, .int hi] = some (.bl false, []) := by
    have i1 : fIsi [] [.bl x, .ty "int"] = some (.bl true, []) := rfl
    have i2 : fIsi [] [.bl x, .ty "bool"] = some (.bl true, []) := rfl
    unfold R_is_whole runB m_is_whole
    simp -implicitDefEqProofs [i1, i2]
  exact pureF_no rfl r rfl
theorem F_name_not {h : List Cell} (x : D) (hn : noRef x = true) (e : fIsi [] [x, .ty "str"] = some (.bl false, [])) : F_is_name h [x] = some (.bl false, h) := by
  have r : R_is_name [] [x] = some (.bl false, []) := by
    unfold R_is_name runB m_is_name
    simp -implicitDefEqProofs [e]
  exact pureF_no (by simp [noRefL, hn]) r rfl
end K01
set_option Elab.async false
set_option linter.all false
set_option maxRecDepth 100000
set_option maxHeartbeats 0
namespace K01
open PySem L2 Tp St
theorem pick {P : List Nat} {i : Int} (h0 : 0 ≤ i) (h1 : i < P.length) (hz : P.length ≤ 1000000) (ha : asc P) : ∃ c, c < 128 ∧ ∀ h, fIx h (.str (tx P)) (.int i) = some (.str (tx [c])) := by
  obtain ⟨k, rfl⟩ := Int.eq_ofNat_of_zero_le h0
  have hk : k < P.length := by exact_mod_cast h1
  exact ⟨P[k], ha _ (List.getElem_mem hk), fun h => fIx_str hz (List.getElem?_eq_getElem hk)⟩
def marksL : List Nat := (" !#$&'()*+,-./0123456789:;<=>?@ABCXYZ[]^_{|}~" : Str).cps.toList
theorem marks_eq : (" !#$&'()*+,-./0123456789:;<=>?@ABCXYZ[]^_{|}~" : Str) = tx marksL := str_tx _
theorem marks_asc : asc marksL := by unfold asc; decide +kernel
theorem marks_len : marksL.length = 45 := by decide +kernel
theorem letters_asc : asc lettersL := by unfold asc; decide
theorem asc_app {a b : List Nat} (ha : asc a) (hb : asc b) : asc (a ++ b) := fun c hc => (List.mem_append.1 hc).elim (ha c) (hb c)
theorem asc_one {c : Nat} (h : c < 128) : asc [c] := fun x hx => by simp at hx; omega
theorem text_loop (c b : Int) : ∀ (ks : List Nat) (s : List Nat) (g4 g5 : Option D), asc s → s.length + ks.length ≤ 1000 → (∀ k ∈ ks, k < 1000) → ∃ s' g4' g5', asc s' ∧ s'.length = s.length + ks.length ∧ forL (gN 4) lb_law_text_1 (ks.map fun k => .int (0 + (k : Nat))) [some (.int c), some (.str (tx marksL)), some (.str (tx s)), some (.int b), g4, g5] [] = some (.nx [some (.int c), some (.str (tx marksL)), some (.str (tx s')), some (.int b), g4', g5'], [])
  | [], s, g4, g5, ha, _, _ => ⟨s, g4, g5, ha, by simp, rfl⟩
  | k :: ks, s, g4, g5, ha, hl, hk => by
    simp only [List.length_cons] at hl
    obtain ⟨v, hv, ev⟩ := mixed_ex c (2 + k) (by have := hk k (by simp); omega)
    have ev' : ∀ h, F_law_mixed h [.int c, .int (2 + (0 + (k : Int)))] = some (.int v, h) := by
      intro h; have := ev h; rw [Int.zero_add]; simpa using this
    have l1 : ∀ h, fLen h [.str (tx marksL)] = some (.int 45, h) := fun h => by have := fLen_str (h := h) (cs := marksL) (by rw [marks_len]; decide); rw [marks_len] at this; exact this
    obtain ⟨p, hp, ep⟩ := pick (P := marksL) (i := v / 4 % 45) (by omega) (by rw [marks_len]; omega) (by rw [marks_len]; decide) marks_asc
    obtain ⟨q, hq, eq⟩ := pick (P := lettersL) (i := v / 4 % 26) (by omega) (by show _ < ((26 : Nat) : Int); omega) (by decide) letters_asc
    have a1 := fun h => fAdd_str (h := h) (a := s) (b := [p]) (by simp; omega)
    have a2 := fun h => fAdd_str (h := h) (a := s) (b := [q]) (by simp; omega)
    obtain ⟨s1, g41, g51, h1, h2, h3⟩ := text_loop c b ks (s ++ [p]) (some (.int (0 + (k : Int)))) (some (.int v)) (asc_app ha (asc_one hp)) (by simp; omega) (fun k hk' => hk k (by simp [hk']))
    obtain ⟨s2, g42, g52, i1, i2, i3⟩ := text_loop c b ks (s ++ [q]) (some (.int (0 + (k : Int)))) (some (.int v)) (asc_app ha (asc_one hq)) (by simp; omega) (fun k hk' => hk k (by simp [hk']))
    simp only [List.map_cons, forL_cons]
    by_cases c1 : b = 0 ∧ v % 4 = 0
    · refine ⟨s1, g41, g51, h1, by rw [h2]; simp; omega, ?_⟩
      rw [← h3]
      have eb : lb_law_text_1 [some (.int c), some (.str (tx marksL)), some (.str (tx s)), some (.int b), some (.int (0 + (k : Int))), g5] [] = some (.nx [some (.int c), some (.str (tx marksL)), some (.str (tx (s ++ [p]))), some (.int b), some (.int (0 + (k : Int))), some (.int v)], []) := by
        have ev2 := ev' []
        generalize (0 + (k : Int)) = K at ev2 ⊢
        unfold lb_law_text_1
        simp -implicitDefEqProofs [ev2, c1.1, c1.2, l1, ep, a1]
      rw [show gN 4 (.int (0 + (k : Int))) [some (.int c), some (.str (tx marksL)), some (.str (tx s)), some (.int b), g4, g5] [] = some [some (.int c), some (.str (tx marksL)), some (.str (tx s)), some (.int b), some (.int (0 + (k : Int))), g5] from rfl]
      simp only [eb]
    · refine ⟨s2, g42, g52, i1, by rw [i2]; simp; omega, ?_⟩
      rw [← i3]
      have eb : lb_law_text_1 [some (.int c), some (.str (tx marksL)), some (.str (tx s)), some (.int b), some (.int (0 + (k : Int))), g5] [] = some (.nx [some (.int c), some (.str (tx marksL)), some (.str (tx (s ++ [q]))), some (.int b), some (.int (0 + (k : Int))), some (.int v)], []) := by
        have ev2 := ev' []
        generalize (0 + (k : Int)) = K at ev2 ⊢
        unfold lb_law_text_1
        by_cases c2 : b = 0
        · have c3 : ¬ v % 4 = 0 := fun z => c1 ⟨c2, z⟩
          simp -implicitDefEqProofs [ev2, c2, c3, letters_eq, eq, a2]
        · simp -implicitDefEqProofs [ev2, c2, letters_eq, eq, a2]
      rw [show gN 4 (.int (0 + (k : Int))) [some (.int c), some (.str (tx marksL)), some (.str (tx s)), some (.int b), g4, g5] [] = some [some (.int c), some (.str (tx marksL)), some (.str (tx s)), some (.int b), some (.int (0 + (k : Int))), g5] from rfl]
      simp only [eb]
theorem text_ex (c : Int) : ∃ s, asc s ∧ s.length ≤ 9 ∧ ∀ h, F_law_text h [.int c] = some (.str (tx s), h) := by
  obtain ⟨v0, hv0, e0⟩ := mixed_ex c 0 (by decide)
  obtain ⟨v1, hv1, e1⟩ := mixed_ex c 1 (by decide)
  have ze : ("" : Str) = tx [] := by decide +kernel
  obtain ⟨s, g4, g5, hs, hl, e⟩ := text_loop c (v1 % 3) (List.range (v0 % 10).toNat) [] none none (fun _ h => by cases h) (by simp; omega) (fun k hk => by simp at hk; omega)
  simp only [List.length_nil, List.length_range] at hl
  refine ⟨s, hs, by omega, fun h => pureF_no (h1 := []) (d := .str (tx s)) rfl ?_ rfl⟩
  have q : in62 (v0 % 10) = true := by simp [in62]; omega
  have e' : forL (gN 4) lb_law_text_1 (rng 0 (v0 % 10).toNat) [some (.int c), some (.str (tx marksL)), some (.str (tx [])), some (.int (v1 % 3)), none, none] [] = some (.nx [some (.int c), some (.str (tx marksL)), some (.str (tx s)), some (.int (v1 % 3)), g4, g5], []) := by rw [rng]; exact e
  unfold lb_law_text_1 at e'
  have e0' := e0 []
  have e1' := e1 []
  simp only [Int.natCast_zero, Int.natCast_one, Int.ofNat_eq_natCast, Int.cast_ofNat_Int] at e0' e1'
  unfold R_law_text runB m_law_text
  generalize hm : marksL = M at e'
  simp -implicitDefEqProofs [e0', e1', ze, marks_eq, hm, q, e']
end K01
set_option Elab.async false
set_option linter.all false
set_option maxRecDepth 100000
set_option maxHeartbeats 0
namespace K01
open PySem L2 Tp St
theorem asc_dg (m : Nat) : asc (dg m) := by
  intro c hc
  have := (dg_canon m m (Nat.le_refl _)).1.1 c hc
  omega
theorem asc_take {a : List Nat} (h : asc a) (k : Nat) : asc (a.take k) := fun c hc => h c (List.mem_of_mem_take hc)
theorem asc_drop {a : List Nat} (h : asc a) (k : Nat) : asc (a.drop k) := fun c hc => h c (List.mem_of_mem_drop hc)
def oddsL : List Nat := ("0019--+ .ax_" : Str).cps.toList
theorem odds_eq : ("0019--+ .ax_" : Str) = tx oddsL := str_tx _
theorem odds_asc : asc oddsL := by unfold asc; decide +kernel
theorem odds_len : oddsL.length = 12 := by decide +kernel
theorem fStr_nat {h : List Cell} {m : Nat} (hm : m < 10 ^ 13) : fStr h [.int (m : Int)] = some (.str (tx (dg m)), h) := by
  show (if (m : Int).natAbs.log2 < 1920 then some (D.str (toString (m : Int)), h) else none) = _
  have : (m : Int).natAbs.log2 < 1920 := by
    rw [Int.natAbs_natCast]
    by_cases h0 : m = 0
    · subst h0; decide
    · rw [Nat.log2_lt h0]
      exact Nat.lt_of_lt_of_le hm (Nat.le_trans (by decide : 10 ^ 13 ≤ 2 ^ 44) (Nat.pow_le_pow_right (by decide) (by decide)))
  rw [if_pos this]
  exact congrArg (fun s => some (D.str s, h)) (str_nat m)
theorem dg_len : ∀ (n m : Nat), m < 10 ^ (n + 1) → (dg m).length ≤ n + 1
  | 0, m, h => by rw [dg_small (by simpa using h)]; simp
  | n + 1, m, h => by
    by_cases h1 : m < 10
    · rw [dg_small h1]; simp
    · have e : m = 10 * (m / 10) + m % 10 := by omega
      rw [e, dg_big (by omega) (Nat.mod_lt _ (by decide))]
      have := dg_len n (m / 10) (by rw [Nat.pow_succ] at h; omega)
      simp; omega
theorem take_i {h : List Cell} {cs : List Nat} {i : Int} (h0 : 0 ≤ i) (hz : cs.length ≤ 1000000) : fSl h (.str (tx cs)) none (some i) = some (.str (tx (cs.take i.toNat))) := by
  have := fSl_take (h := h) i.toNat hz
  rwa [Int.toNat_of_nonneg h0] at this
theorem drop_i {h : List Cell} {cs : List Nat} {i : Int} (h0 : 0 ≤ i) (hz : cs.length ≤ 1000000) : fSl h (.str (tx cs)) (some i) none = some (.str (tx (cs.drop i.toNat))) := by
  have := fSl_drop (h := h) i.toNat hz
  rwa [Int.toNat_of_nonneg h0] at this
theorem written_ex (c : Int) : ∃ s, asc s ∧ s.length ≤ 100 ∧ ∀ h, F_law_written h [.int c] = some (.str (tx s), h) := by
  obtain ⟨v, hv, ev⟩ := mixed_ex c 12 (by decide)
  have ev' : F_law_mixed [] [.int c, .int 12] = some (.int v, []) := ev []
  have em : ((v * 1000003 % 10000000000000).toNat : Int) = v * 1000003 % 10000000000000 := Int.toNat_of_nonneg (by omega)
  have hm : (v * 1000003 % 10000000000000).toNat < 10 ^ 13 := by omega
  have es := fStr_nat (h := []) hm
  rw [em] at es
  have hA := asc_dg (v * 1000003 % 10000000000000).toNat
  have hA1 := dg_len 12 _ hm
  have hA0 := (dg_canon _ (v * 1000003 % 10000000000000).toNat (Nat.le_refl _)).1.2.1
  generalize dg (v * 1000003 % 10000000000000).toNat = A at es hA hA1 hA0
  have hA2 : 0 < A.length := by cases A with | nil => exact absurd rfl hA0 | cons => simp
  obtain ⟨L, hL⟩ : ∃ L : Int, (A.length : Int) = L := ⟨_, rfl⟩
  have hL0 : 0 < L := by omega
  have l1 : fLen [] [.str (tx A)] = some (.int L, []) := by rw [← hL]; exact fLen_str (by omega)
  obtain ⟨S, hS, hS1, eS⟩ : ∃ S : List Nat, asc S ∧ S.length ≤ 1 ∧ fIx [] (.lst [.str "", .str "-"]) (.int (v % 5 / 4)) = some (.str (tx S)) := by
    by_cases q : v % 5 / 4 = 0
    · rw [q]; exact ⟨[], fun _ h => (by cases h), by simp, (show fIx [] (.lst [.str "", .str "-"]) (.int 0) = some (.str "") from rfl).trans (by rw [show ("" : Str) = tx [] by decide +kernel])⟩
    · have q' : v % 5 / 4 = 1 := by omega
      rw [q']; exact ⟨[45], asc_one (by decide), by simp, (show fIx [] (.lst [.str "", .str "-"]) (.int 1) = some (.str "-") from rfl).trans (by rw [zm])⟩
  have t1 := take_i (h := []) (cs := A) (i := 1 + v / 5 % L) (by have := Int.emod_nonneg (v / 5) (b := L) (by omega); omega) (by omega)
  have hB := asc_take hA (1 + v / 5 % L).toNat
  have hB1 : (A.take (1 + v / 5 % L).toNat).length ≤ 13 := by simp; omega
  generalize A.take (1 + v / 5 % L).toNat = B at t1 hB hB1
  have a1 := fAdd_str (h := []) (a := S) (b := B) (by omega)
  have hT := asc_app hS hB
  have hT1 : (S ++ B).length ≤ 14 := by simp; omega
  generalize S ++ B = T at a1 hT hT1
  obtain ⟨M, hM⟩ : ∃ M : Int, (T.length : Int) = M := ⟨_, rfl⟩
  have hM0 : 0 < M + 1 := by omega
  have l2 : fLen [] [.str (tx T)] = some (.int M, []) := by rw [← hM]; exact fLen_str (by omega)
  obtain ⟨p, hp, ep⟩ := pick (P := oddsL) (i := v / 2000 % 12) (by omega) (by rw [odds_len]; omega) (by rw [odds_len]; decide) odds_asc
  have ep' := ep []
  obtain ⟨K, hK⟩ : ∃ K : Int, v / 100 % (M + 1) = K := ⟨_, rfl⟩
  have hK0 : 0 ≤ K := by rw [← hK]; exact Int.emod_nonneg _ (by omega)
  have t2 := take_i (h := []) (cs := T) (i := K) hK0 (by omega)
  have t3 := drop_i (h := []) (cs := T) (i := K) hK0 (by omega)
  have t4 := drop_i (h := []) (cs := T) (i := K + 1) (by omega) (by omega)
  have u2 := asc_take hT K.toNat
  have u3 := asc_drop hT K.toNat
  have u4 := asc_drop hT (K + 1).toNat
  have w2 : (T.take K.toNat).length ≤ 14 := by simp; omega
  have w3 : (T.drop K.toNat).length ≤ 14 := by simp; omega
  have w4 : (T.drop (K + 1).toNat).length ≤ 14 := by simp; omega
  generalize T.take K.toNat = X2 at t2 u2 w2
  generalize T.drop K.toNat = X3 at t3 u3 w3
  generalize T.drop (K + 1).toNat = X4 at t4 u4 w4
  have b1 := fAdd_str (h := []) (a := X2) (b := [p]) (by simp; omega)
  have b2 := fAdd_str (h := []) (a := X2 ++ [p]) (b := X3) (by simp; omega)
  have b3 := fAdd_str (h := []) (a := X2) (b := X4) (by omega)
  have b4 := fAdd_str (h := []) (a := X2 ++ [p]) (b := X4) (by simp; omega)
  have hp1 := asc_app u2 (asc_one hp)
  have hp2 : (X2 ++ [p]).length ≤ 15 := by simp; omega
  generalize X2 ++ [p] = Y at b1 b2 b4 hp1 hp2
  have s1 : small 1000003 = true := by decide
  have key : ∃ s, asc s ∧ s.length ≤ 100 ∧ R_law_written [] [.int c] = some (.str (tx s), []) := by
    by_cases c0 : v / 65536 % 6 = 0
    · refine ⟨Y ++ X3, asc_app hp1 u3, by simp; omega, ?_⟩
      unfold R_law_written runB m_law_written
      simp -implicitDefEqProofs [ev', s1, es, l1, hL0, eS, t1, a1, l2, hM0, hK, odds_eq, ep', c0, t2, t3, t4, b1, b2, b3, b4]
    · by_cases c1 : v / 65536 % 6 = 1
      · refine ⟨X2 ++ X4, asc_app u2 u4, by simp; omega, ?_⟩
        unfold R_law_written runB m_law_written
        simp -implicitDefEqProofs [ev', s1, es, l1, hL0, eS, t1, a1, l2, hM0, hK, odds_eq, ep', c0, c1, t2, t3, t4, b1, b2, b3, b4]
      · by_cases c2 : v / 65536 % 6 = 2
        · refine ⟨Y ++ X4, asc_app hp1 u4, by simp; omega, ?_⟩
          unfold R_law_written runB m_law_written
          simp -implicitDefEqProofs [ev', s1, es, l1, hL0, eS, t1, a1, l2, hM0, hK, odds_eq, ep', c0, c1, c2, t2, t3, t4, b1, b2, b3, b4]
        · refine ⟨T, hT, by omega, ?_⟩
          unfold R_law_written runB m_law_written
          simp -implicitDefEqProofs [ev', s1, es, l1, hL0, eS, t1, a1, l2, hM0, hK, odds_eq, ep', c0, c1, c2, t2, t3, t4, b1, b2, b3, b4]
  obtain ⟨s, h1, h2, h3⟩ := key
  exact ⟨s, h1, h2, fun h => pureF_no rfl h3 rfl⟩
end K01
set_option Elab.async false
set_option linter.all false
set_option maxRecDepth 100000
set_option maxHeartbeats 0
namespace K01
open PySem L2 Tp St
def tailR2 : MS := (mSeq (mIfS ((mOr (mNot (mTest (mB F_law_same (mCons (mB F_is_name (mCons (mV 1) (mNil))) (mCons (mV 2) (mNil)))))) (mNot (mTest (mB F_law_same (mCons (mB F_is_whole (mCons (mV 5) (mCons (mV 3) (mCons (mV 4) (mNil))))) (mCons (mChain fLe fLe (mV 3) (mV 5) (mV 4)) (mNil)))))))) (mRet (mC (.bl false))) (mNext)) (mSeq (mForL (mLst (mCons (mC (.bl true)) (mCons (mC (.bl false)) (mCons (mC .non) (mCons (mLst (mCons (mV 1) (mNil))) (mCons (mTup (mCons (mV 1) (mNil))) (mCons (mDisp ((mV 1, mC (.int 1)) :: [])) (mNil)))))))) (gN 6) (lb_law_names_right_1)) (mRet ((mAndV (mB F_law_same (mCons (mB F_is_whole (mCons (mV 1) (mCons (mV 3) (mCons (mV 4) (mNil))))) (mCons (mC (.bl false)) (mNil)))) (mB F_law_same (mCons (mB F_is_name (mCons (mV 5) (mNil))) (mCons (mC (.bl false)) (mNil)))))))))
def tailR1 : MS := (mSeq (mAsg (mO2 fSub (mO2 fAdd (mV 3) (mO2 fMod (mB F_law_mixed (mCons (mV 0) (mCons (mC (.int 15)) (mNil)))) (mC (.int 9)))) (mC (.int 2))) (gN 4)) (mSeq (mAsg (mO2 fSub (mO2 fAdd (mV 3) (mO2 fMod (mB F_law_mixed (mCons (mV 0) (mCons (mC (.int 16)) (mNil)))) (mC (.int 13)))) (mC (.int 3))) (gN 5)) tailR2))
def goodR : ME := ((mAndV (mChain fLt fLt (mC (.int 0)) (mB fLen (mCons (mV 1) (mNil))) (mC (.int 9))) (mO2 fEq (mLc (iStrM (mV 1)) (gN 7) (mNot (mTest (mChain fLe fLe (mC (.str "a")) (mV 7) (mC (.str "z"))))) (mV 7) [7]) (mLst (mNil)))))
theorem right_eq : m_law_names_right = mSeq (mAsg (mB F_law_text (mCons (mV 0) (mNil))) (gN 1)) (mSeq (mAsg goodR (gN 2)) (mSeq (mAsg (mO2 fSub (mO2 fMod (mB F_law_mixed (mCons (mV 0) (mCons (mC (.int 13)) (mNil)))) (mC (.int 40))) (mC (.int 20))) (gN 3)) (mSeq (mIfS (mTest (mO2 fEq (mO2 fMod (mO2 fFdiv (mB F_law_mixed (mCons (mV 0) (mCons (mC (.int 13)) (mNil)))) (mC (.int 40))) (mC (.int 4))) (mC (.int 1)))) (mAsg (mO2 fMul (mO2 fIx (mLst (mCons (mC (.int 1)) (mCons (mNeg (mC (.int 1))) (mNil)))) (mO2 fMod (mO2 fFdiv (mB F_law_mixed (mCons (mV 0) (mCons (mC (.int 13)) (mNil)))) (mC (.int 160))) (mC (.int 2)))) (mO2 fSub (mO2 fPow (mC (.int 10)) (mC (.int 29))) (mB F_law_mixed (mCons (mV 0) (mCons (mC (.int 14)) (mNil)))))) (gN 3)) (mNext)) tailR1))) := rfl
theorem chain_lt {a b c : ME} {G : Env1} {h : List Cell} {x y z : Int} (ea : a G h = some (.int x, h)) (eb : b G h = some (.int y, h)) (ec : c G h = some (.int z, h)) : mChain fLt fLt a b c G h = some (.bl (decide (x < y) && decide (y < z)), h) := by
  unfold mChain
  rw [ea]
  simp only [eb, fLt_i]
  by_cases k : x < y
  · simp [k, ec]
  · simp [k]
theorem good_ok (s : List Nat) (ha : asc s) (hz : s.length ≤ 9) (g0 : Option D) : goodR [g0, some (.str (tx s)), none, none, none, none, none, none] [] = some (.bl (nameB s), []) := by
  have za : ("a" : Str) = tx [97] := by decide +kernel
  have zz : ("z" : Str) = tx [122] := by decide +kernel
  have l1 : ∀ h, fLen h [.str (tx s)] = some (.int s.length, h) := fun h => fLen_str (by omega)
  have ch := chain_lt (a := mC (.int 0)) (b := mB fLen (mCons (mV 1) (mNil))) (c := mC (.int 9)) (G := [g0, some (.str (tx s)), none, none, none, none, none, none]) (h := []) (x := 0) (y := s.length) (z := 9) rfl (by simp [l1]) rfl
  have c1 := comp_out (G := [g0, some (.str (tx s)), none, none, none, none, none, none]) (h := []) (k := 7) za zz (by simp) s (by omega)
  have n1 := fEq_empty (h := []) (s.filter fun c => !(decide (97 ≤ c) && decide (c ≤ 122))) (asc_sub ha fun c hc => (List.mem_filter.1 hc).1)
  have key : nameB s = ((decide ((0 : Int) < s.length) && decide ((s.length : Int) < 9)) && decide ((s.filter fun c => !(decide (97 ≤ c) && decide (c ≤ 122))) = [])) := by
    unfold nameB
    rw [Bool.eq_iff_iff]
    simp only [Bool.and_eq_true, decide_eq_true_eq, List.all_eq_true, List.filter_eq_nil_iff, Bool.not_eq_true', Bool.not_eq_false]
    constructor
    · rintro ⟨⟨h1, h2⟩, h3⟩; exact ⟨⟨by omega, by omega⟩, fun c hc => by simpa using h3 c hc⟩
    · rintro ⟨⟨h1, h2⟩, h3⟩; exact ⟨⟨by omega, by omega⟩, fun c hc => by simpa using h3 c hc⟩
  rw [key]
  generalize (decide ((0 : Int) < s.length) && decide ((s.length : Int) < 9)) = B1 at ch
  generalize (s.filter fun c => !(decide (97 ≤ c) && decide (c ≤ 122))) = F at c1 n1
  generalize F.map (fun c => D.str (tx [c])) = FL at c1 n1
  generalize decide (F = []) = B2 at n1
  unfold goodR mAndV
  rw [ch]
  cases B1
  · rfl
  · simp -implicitDefEqProofs [signs_tx, wipeE, c1, n1]
theorem things_ok (g0 g1 g2 g3 g4 g5 g7 : Option D) : ∀ (ds : List D) (g6 : Option D), (∀ d ∈ ds, F_is_name [] [d] = some (.bl false, []) ∧ F_is_whole [] [d, .int (-5), .int 5] = some (.bl false, [])) → ∃ g6', forL (gN 6) lb_law_names_right_1 ds [g0, g1, g2, g3, g4, g5, g6, g7] [] = some (.nx [g0, g1, g2, g3, g4, g5, g6', g7], [])
  | [], g6, _ => ⟨g6, rfl⟩
  | d :: ds, g6, hd => by
    obtain ⟨g6', e⟩ := things_ok g0 g1 g2 g3 g4 g5 g7 ds (some d) (fun x hx => hd x (by simp [hx]))
    refine ⟨g6', ?_⟩
    obtain ⟨e1, e2⟩ := hd d (by simp)
    have e3 := F_same_bl (h := []) false false
    rw [forL_cons, show gN 6 d [g0, g1, g2, g3, g4, g5, g6, g7] [] = some [g0, g1, g2, g3, g4, g5, some d, g7] from rfl]
    have eb : lb_law_names_right_1 [g0, g1, g2, g3, g4, g5, some d, g7] [] = some (.nx [g0, g1, g2, g3, g4, g5, some d, g7], []) := by
      unfold lb_law_names_right_1
      simp -implicitDefEqProofs [e1, e2, e3]
    simp only [eb]
    exact e
theorem tailR2_ok (s : List Nat) (hz : s.length ≤ 9) (c lo hi n : Int) : tailR2 [some (.int c), some (.str (tx s)), some (.bl (nameB s)), some (.int lo), some (.int hi), some (.int n), none, none] [] = some (.rt (.bl true), []) := by
  have e1 := F_is_name_ok (h := []) s (by omega)
  have e2 := F_same_bl (h := []) (nameB s) (nameB s)
  have e3 := F_whole_int (h := []) n lo hi
  have e4 := chain_int (a := mV 3) (b := mV 5) (c := mV 4) (G := [some (.int c), some (.str (tx s)), some (.bl (nameB s)), some (.int lo), some (.int hi), some (.int n), none, none]) (h := []) (x := lo) (y := n) (z := hi) rfl rfl rfl
  have e5 := F_same_bl (h := []) (decide (lo ≤ n) && decide (n ≤ hi)) (decide (lo ≤ n) && decide (n ≤ hi))
  have e6 := F_whole_not (h := []) (.str (tx s)) lo hi rfl rfl
  have e7 := F_name_not (h := []) (.int n) rfl rfl
  have e8 := F_same_bl (h := []) false false
  obtain ⟨g6', el⟩ := things_ok (some (.int c)) (some (.str (tx s))) (some (.bl (nameB s))) (some (.int lo)) (some (.int hi)) (some (.int n)) none [.bl true, .bl false, .non, .lst [.str (tx s)], .tup [.str (tx s)], .dic [(.inr (tx s), .int 1)]] none (by
    intro d hd
    simp only [List.mem_cons, List.not_mem_nil, or_false] at hd
    rcases hd with rfl | rfl | rfl | rfl | rfl | rfl
    · exact ⟨F_name_not _ rfl rfl, F_whole_bl _ _ _⟩
    · exact ⟨F_name_not _ rfl rfl, F_whole_bl _ _ _⟩
    · exact ⟨F_name_not _ rfl rfl, F_whole_not _ _ _ rfl rfl⟩
    · exact ⟨F_name_not _ rfl rfl, F_whole_not _ _ _ rfl rfl⟩
    · exact ⟨F_name_not _ rfl rfl, F_whole_not _ _ _ rfl rfl⟩
    · exact ⟨F_name_not _ rfl rfl, F_whole_not _ _ _ rfl rfl⟩)
  generalize nameB s = NB at e1 e2 e4 el ⊢
  generalize (decide (lo ≤ n) && decide (n ≤ hi)) = WB at e3 e4 e5
  have dsp : mDisp ((mV 1, mC (.int 1)) :: []) [some (.int c), some (.str (tx s)), some (.bl NB), some (.int lo), some (.int hi), some (.int n), none, none] [] = some (.dic [(.inr (tx s), .int 1)], []) := rfl
  unfold tailR2
  generalize lb_law_names_right_1 = LB at el ⊢
  simp -implicitDefEqProofs [e1, e2, e3, e4, e5, e6, e7, e8, dsp, el]
theorem tailR1_ok (s : List Nat) (hz : s.length ≤ 9) (c lo : Int) : tailR1 [some (.int c), some (.str (tx s)), some (.bl (nameB s)), some (.int lo), none, none, none, none] [] = some (.rt (.bl true), []) := by
  obtain ⟨v1, _, e1⟩ := mixed_ex c 15 (by decide)
  obtain ⟨v2, _, e2⟩ := mixed_ex c 16 (by decide)
  have e1' : F_law_mixed [] [.int c, .int 15] = some (.int v1, []) := e1 []
  have e2' : F_law_mixed [] [.int c, .int 16] = some (.int v2, []) := e2 []
  have t := tailR2_ok s hz c lo (lo + v1 % 9 - 2) (lo + v2 % 13 - 3)
  unfold tailR1
  generalize tailR2 = TR at t ⊢
  simp -implicitDefEqProofs [e1', e2', t]
theorem F_right_ok (c : Int) {h : List Cell} : F_law_names_right h [.int c] = some (.bl true, h) := by
  obtain ⟨s, hs, hz, et⟩ := text_ex c
  obtain ⟨v1, _, e1⟩ := mixed_ex c 13 (by decide)
  obtain ⟨v2, _, e2⟩ := mixed_ex c 14 (by decide)
  have e1' : F_law_mixed [] [.int c, .int 13] = some (.int v1, []) := e1 []
  have e2' : F_law_mixed [] [.int c, .int 14] = some (.int v2, []) := e2 []
  have et' := et []
  have g := good_ok s hs hz (some (.int c))
  have t := fun lo => tailR1_ok s hz c lo
  have s1 : small 1 = true := by decide
  have s2 : small (-1) = true := by decide
  have r : R_law_names_right [] [.int c] = some (.bl true, []) := by
    unfold R_law_names_right runB
    rw [right_eq]
    generalize tailR1 = TR at t ⊢
    generalize goodR = GR at g ⊢
    by_cases k : v1 / 40 % 4 = 1
    · by_cases k2 : v1 / 160 % 2 = 0
      · have i1 : fIx [] (.lst [.int 1, .int (-1)]) (.int 0) = some (.int 1) := rfl
        simp -implicitDefEqProofs [et', g, e1', e2', k, k2, i1, s1, t]
      · have k3 : v1 / 160 % 2 = 1 := by omega
        have i1 : fIx [] (.lst [.int 1, .int (-1)]) (.int 1) = some (.int (-1)) := rfl
        simp -implicitDefEqProofs [et', g, e1', e2', k, k3, i1, s2, t]
    · simp -implicitDefEqProofs [et', g, e1', e2', k, t]
  exact pureF_no rfl r rfl
end K01
set_option Elab.async false
set_option linter.all false
set_option maxRecDepth 100000
set_option maxHeartbeats 0
namespace K01
open PySem L2 Tp St PySem.NumText
theorem bnd_big (s : List Nat) : bnd (num s) (-10000000000000) 10000000000000 = num s := by
  have hp : ∀ cs, plain cs = true → digitsVal cs < 10 ^ 12 := fun cs h => by
    have h' := (plain_iff.1 h)
    exact Nat.lt_of_lt_of_le (val_lt _ cs (Nat.le_refl _) h'.1.1) (Nat.pow_le_pow_right (by decide) h'.2)
  have key : ∀ n, num s = some n → -10000000000000 ≤ n ∧ n ≤ 10000000000000 := by
    intro n hn
    unfold num at hn
    split at hn
    · rename_i h
      have := hp s h
      injection hn with hn
      omega
    · split at hn
      · split at hn
        · rename_i h
          have := hp _ h.1
          injection hn with hn
          omega
        · cases hn
      · cases hn
  cases h : num s with
  | none => rfl
  | some n =>
    obtain ⟨h1, h2⟩ := key n h
    simp [bnd, h1, h2]
theorem body_ok (ns : List Int) (k : Nat) (g2 g3 g4 g5 g6 g7 : Option D) : ∃ g2' g3' g4' g5' g6' g7', lb_law_1 [some (.sq (ns.map .int)), some (.int (k : Int)), g2, g3, g4, g5, g6, g7] [] = some (.nx [some (.sq (ns.map .int)), some (.int (k : Int)), g2', g3', g4', g5', g6', g7'], []) := by
  obtain ⟨c, ec⟩ := cell_ex ns k
  have ec' := ec []
  have er := F_right_ok c (h := [])
  obtain ⟨s, hs, hz, ew⟩ := written_ex c
  have ew' := ew []
  have ed := F_read_ok (h := []) s hs (by omega)
  have en := F_number_ok (h := []) s (-10000000000000) 10000000000000 (by omega)
  rw [bnd_big] at en
  have en2 := fun lo hi => F_number_ok (h := []) s lo hi (by omega)
  obtain ⟨v1, _, e1⟩ := mixed_ex c 17 (by decide)
  obtain ⟨v2, _, e2⟩ := mixed_ex c 18 (by decide)
  obtain ⟨v3, _, e3⟩ := mixed_ex c 19 (by decide)
  have e1' : F_law_mixed [] [.int c, .int 17] = some (.int v1, []) := e1 []
  have e2' : F_law_mixed [] [.int c, .int 18] = some (.int v2, []) := e2 []
  have e3' : F_law_mixed [] [.int c, .int 19] = some (.int v3, []) := e3 []
  have sm := fun a b => F_same_eO (h := []) a b
  generalize num s = o at ed en en2
  have smo := sm o o
  cases o with
  | none =>
    have n0 : fNotN [] .non .non = some (.bl false) := rfl
    have sn : F_law_same [] [.non, .non] = some (.bl true, []) := by simpa [eO] using smo
    simp only [bnd, eO] at ed en en2
    refine ⟨some (.int c), some (.str (tx s)), some .non, some (.int (v1 % 100)), some (.int (v1 % 100 - v2 % 3)), some (.int (v1 % 100 + v3 % 4 - 1)), ?_⟩
    unfold lb_law_1
    simp -implicitDefEqProofs [ec', er, ew', ed, en, en2, e1', e2', e3', n0, sn]
  | some n =>
    have n0 : fNotN [] (.int n) .non = some (.bl true) := rfl
    have sn : F_law_same [] [.int n, .int n] = some (.bl true, []) := by simpa [eO] using smo
    have sn2 : F_law_same [] [.non, .non] = some (.bl true, []) := by simpa [eO] using sm none none
    simp only [eO] at ed en
    have en3 := en2 (n - v2 % 3) (n + v3 % 4 - 1)
    have ch := chain_int (a := mV 6) (b := mV 4) (c := mV 7) (G := [some (.sq (ns.map .int)), some (.int (k : Int)), some (.int c), some (.str (tx s)), some (.int n), some (.int n), some (.int (n - v2 % 3)), some (.int (n + v3 % 4 - 1))]) (h := []) rfl rfl rfl
    by_cases q : n - v2 % 3 ≤ n ∧ n ≤ n + v3 % 4 - 1
    · have hb : bnd (some n) (n - v2 % 3) (n + v3 % 4 - 1) = some n := by simp only [bnd]; rw [if_pos q]
      have hd : (decide (n - v2 % 3 ≤ n) && decide (n ≤ n + v3 % 4 - 1)) = true := by simp only [Bool.and_eq_true, decide_eq_true_eq]; exact q
      rw [hb] at en3
      rw [hd] at ch
      simp only [eO] at en3
      refine ⟨some (.int c), some (.str (tx s)), some (.int n), some (.int n), some (.int (n - v2 % 3)), some (.int (n + v3 % 4 - 1)), ?_⟩
      unfold lb_law_1
      simp -implicitDefEqProofs [ec', er, ew', ed, en, en3, e1', e2', e3', n0, sn, ch]
    · have hb : bnd (some n) (n - v2 % 3) (n + v3 % 4 - 1) = none := by simp only [bnd]; rw [if_neg q]
      have hd : (decide (n - v2 % 3 ≤ n) && decide (n ≤ n + v3 % 4 - 1)) = false := by
        rw [Bool.eq_false_iff]; intro z; simp only [Bool.and_eq_true, decide_eq_true_eq] at z; exact q z
      rw [hb] at en3
      rw [hd] at ch
      simp only [eO] at en3
      refine ⟨some (.int c), some (.str (tx s)), some .non, some (.int n), some (.int (n - v2 % 3)), some (.int (n + v3 % 4 - 1)), ?_⟩
      unfold lb_law_1
      simp -implicitDefEqProofs [ec', er, ew', ed, en, en3, e1', e2', e3', n0, sn, sn2, ch]
theorem law_loop (ns : List Int) : ∀ (ks : List Nat) (g1 g2 g3 g4 g5 g6 g7 : Option D), ∃ G, forL (gN 1) lb_law_1 (ks.map fun k => .int (0 + (k : Nat))) [some (.sq (ns.map .int)), g1, g2, g3, g4, g5, g6, g7] [] = some (.nx (some (.sq (ns.map .int)) :: G), [])
  | [], g1, g2, g3, g4, g5, g6, g7 => ⟨_, rfl⟩
  | k :: ks, g1, g2, g3, g4, g5, g6, g7 => by
    obtain ⟨g2', g3', g4', g5', g6', g7', eb⟩ := body_ok ns k g2 g3 g4 g5 g6 g7
    obtain ⟨G, e⟩ := law_loop ns ks (some (.int (k : Int))) g2' g3' g4' g5' g6' g7'
    refine ⟨G, ?_⟩
    rw [List.map_cons, forL_cons, Int.zero_add, show gN 1 (.int (k : Int)) [some (.sq (ns.map .int)), g1, g2, g3, g4, g5, g6, g7] [] = some [some (.sq (ns.map .int)), some (.int (k : Int)), g2, g3, g4, g5, g6, g7] from rfl]
    simp only [eb]
    exact e
theorem law_end0 (ns : List Int) (M : Int) (G : List (Option D)) (hM : max 1 (min 40 (ns.length : Int)) = M) (q : in62 M = true) (e : forL (gN 1) lb_law_1 (rng 0 M.toNat) [some (.sq (ns.map .int)), none, none, none, none, none, none, none] [] = some (.nx (some (.sq (ns.map .int)) :: G), [])) : R_law [] [.sq (ns.map .int)] = some (.bl true, []) := by
  have ze : ("" : Str) = tx [] := by decide +kernel
  have r3 : fIsN [] .non .non = some (.bl true) := rfl
  have a1 : F_number_of [] [.str "-0", .int (-1), .int 1] = some (.non, []) := by rw [zm0]; exact F_number_ok [45, 48] (-1) 1 (by decide)
  have a2 : F_number_of [] [.str "", .int 0, .int 9] = some (.non, []) := by rw [ze]; exact F_number_ok [] 0 9 (by decide)
  have a3 : F_number_of [] [.str "-", .int (-9), .int 9] = some (.non, []) := by rw [zm]; exact F_number_ok [45] (-9) 9 (by decide)
  unfold lb_law_1 at e
  unfold R_law runB m_law
  simp -implicitDefEqProofs [fLen_sq, hM, q, e, a1, a2, a3, r3]
theorem math01 (ns : List Int) (hl : ns.length ≤ 63) : ∃ h', R_law [] [.sq (ns.map .int)] = some (.bl true, h') := by
  obtain ⟨G, e⟩ := law_loop ns (List.range (max 1 (min 40 (ns.length : Int))).toNat) none none none none none none none
  have q1 : in62 (max 1 (min 40 (ns.length : Int))) = true := by simp [in62]; omega
  have e' : forL (gN 1) lb_law_1 (rng 0 (max 1 (min 40 (ns.length : Int))).toNat) [some (.sq (ns.map .int)), none, none, none, none, none, none, none] [] = some (.nx (some (.sq (ns.map .int)) :: G), []) := by rw [rng]; exact e
  exact ⟨[], law_end0 ns _ G rfl q1 e'⟩
end K01
set_option Elab.async false
set_option linter.all false
set_option maxRecDepth 100000
set_option maxHeartbeats 0
namespace Hk01
theorem math (ns : List Int) (hl : ns.length ≤ 63) : ∃ h', R_law [] [.sq (ns.map .int)] = some (.bl true, h') := K01.math01 ns hl
end Hk01
open PySem PySem.W PySem.Calls PyProof.Rows
set_option maxRecDepth 100000 in
set_option maxHeartbeats 0 in
theorem PySem.Challenge.cw_unsaybook_k01_names_and_numbers_holds : PySem.Challenge.rw_unsaybook_k01_names_and_numbers.Holds := by
  w_on; o_law
  refine HandSHeadRun.head_any (r := OpenLaw.row PySem.Challenge.rw_unsaybook_k01_names_and_numbers) (q := view (OpenLaw.row PySem.Challenge.rw_unsaybook_k01_names_and_numbers).prog [15]) (H := Hk01.hk) (ob := Hk01.ob) (M := 30000) (loose := Hk01.names) (d := HandSHeadRun.topDef (OpenLaw.row PySem.Challenge.rw_unsaybook_k01_names_and_numbers).prog 15) (kwd := []) Hk01.ob_eq
    (by kernel_rfl) (fun s => by kernel_rfl) Hk01.run (by kernel_rfl) (by kernel_rfl) (by kernel_rfl) (by rfl) (by first | assumption | decide +kernel) (by decide +kernel) ⟨rfl, rfl, rfl, rfl, rfl, by decide +kernel⟩ ?hw ?hc
  case hw => w_witness2
  case hc =>
    refine Tp.walk_w (l := PySem.Challenge.rw_unsaybook_k01_names_and_numbers) (n := 63) (k := Hk01.lawLevel) (x := "_law_script") (CX := fun w => L2.CX PySem.Challenge.rw_unsaybook_k01_names_and_numbers.prog w) rfl (by decide) (by kernel_rfl) ⟨rfl, by decide, by decide⟩ ?F (fun _ H s e s2 z => Tp.noCX z)
    intro w mg fa h Y G hmg0
    obtain ⟨K, KX, c⟩ := Y
    have hmg : mg ("law" : PySem.Str) = some (.ref fa) := by
      have e : (HandSHeadRun.topDef (OpenLaw.row PySem.Challenge.rw_unsaybook_k01_names_and_numbers).prog 15).name = ("law" : PySem.Str) := by kernel_rfl
      rw [← e]
      exact hmg0
    obtain ⟨fd, hb, hF⟩ := Hk01.facts (l := PySem.Challenge.rw_unsaybook_k01_names_and_numbers) (w := w) KX G hmg c
    exact ⟨K, fd, Tp.spF K [] Hk01.R_law, KX, hb, fun H a ns hl hO hS => let ⟨_, e⟩ := Hk01.math ns hl; Tp.law_end hO hS e, hF⟩
