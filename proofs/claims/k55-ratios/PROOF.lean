import PyProof.Rows.All
import Wide.All
import OpenK.AllK
import Wide.FinOn
import HandS.ForMost
import HandS.IsInst
import HandS.Style
import HandS.Gcd
import HandS.Wide
import HandS.Walk
import HandS.TupAny
import HandS.Flow
import PySem.Challenge.RW_stampsheets_k55_ratios

set_option Elab.async false
set_option linter.all false
set_option maxRecDepth 100000
set_option maxHeartbeats 4000000

namespace Pv
open PySem PySem.Spec L2

/-! ### data -/
inductive D where
  | non | bl (b : Bool) | int (i : Int) | str (x : List Nat)
  | lst (ds : List D) | tup (ds : List D) | dct (ks vs : List D) | ins (c : Nat) (vs : List D)
  /-- the law's script -/
  | scr (ns : List Int)
  deriving Inhabited

abbrev mkS (x : List Nat) : Str := ⟨x.toArray⟩
def D.key : D → Option Key
  | .int i => some (.inl i)
  | .str x => some (.inr (mkS x))
  | _ => none

mutual
def D.toP : D → PyData
  | .non => .none | .bl b => .bool b | .int i => .int i | .str x => .str (mkS x)
  | .lst ds => .list (D.toPL ds) | .tup ds => .tuple (D.toPL ds)
  | .dct _ _ => .none | .ins _ _ => .none | .scr ns => .list (ns.map .int)
def D.toPL : List D → List PyData
  | [] => [] | d :: ds => D.toP d :: D.toPL ds
end
mutual
def D.plain : D → Bool
  | .lst ds => D.plainL ds | .tup ds => D.plainL ds
  | .dct _ _ => false | .ins _ _ => false | .scr _ => false
  | .non => true | .bl _ => true | .int _ => true | .str _ => true
def D.plainL : List D → Bool
  | [] => true | d :: ds => D.plain d && D.plainL ds
end
/-- data that == compares as data -/
def D.shp (d : D) : Bool := D.plain d && SeqAt.shaped (D.toP d)
def D.eqb (a b : D) : Bool := PyData.eqv (D.toP a) (D.toP b)

mutual
/-- the value v stands for the datum -/
def Den (K : PySem.W.Frag) (G : Hp) : D → V → Prop
  | .non, v => v = .non
  | .bl b, v => v = .bl b
  | .int i, v => v = .int i
  | .str x, v => v = .str (mkS x)
  | .lst ds, v => ∃ a vs, v = .ref a ∧ G a = some (.lst vs) ∧ DenL K G ds vs
  | .tup ds, v => ∃ a vs, v = .ref a ∧ SqT K G a vs ∧ DenL K G ds vs
  | .dct ks ds, v => ∃ a kvs, v = .ref a ∧ G a = some (.dK kvs) ∧ ks.map D.key = kvs.map (fun p => some p.1) ∧ DenL K G ds (kvs.map (fun p => p.2))
  | .ins _ _, _ => False
  | .scr ns, v => ∃ a, v = .ref a ∧ SqL K G a (ns.map V.int)
def DenL (K : PySem.W.Frag) (G : Hp) : List D → List V → Prop
  | [], vs => vs = []
  | d :: ds, vs => ∃ v r, vs = v :: r ∧ Den K G d v ∧ DenL K G ds r
end

abbrev Sub (H H' : Hp) : Prop := ∀ a o, H a = some o → H' a = some o
theorem Sub.refl (H : Hp) : Sub H H := fun _ _ h => h
theorem Sub.trans {H H1 H2 : Hp} (a : Sub H H1) (b : Sub H1 H2) : Sub H H2 := fun x o h => b x o (a x o h)
theorem sub_rd {H H' : Hp} {a : Addr} {u : HO} (e : Sub H H') (h : Rd H a u) : Rd H' a u := by
  rcases h with h | ⟨o, h⟩
  · exact Or.inl (e a _ h)
  · exact Or.inr ⟨o, e a _ h⟩
theorem sub_l {K : PySem.W.Frag} {H H' : Hp} {a : Addr} {xs : List V} (e : Sub H H') (h : SqL K H a xs) : SqL K H' a xs := by
  rcases h with h | h
  · exact Or.inl (sub_rd e h)
  · exact Or.inr h
theorem sub_t {K : PySem.W.Frag} {H H' : Hp} {a : Addr} {xs : List V} (e : Sub H H') (h : SqT K H a xs) : SqT K H' a xs := by
  rcases h with h | h
  · exact Or.inl (sub_rd e h)
  · exact Or.inr h
mutual
theorem Den.mono {K : PySem.W.Frag} {G G' : Hp} (e : Sub G G') : ∀ (d : D) {v : V}, Den K G d v → Den K G' d v
  | .non, _, h => by simpa only [Den] using h
  | .bl _, _, h => by simpa only [Den] using h
  | .int _, _, h => by simpa only [Den] using h
  | .str _, _, h => by simpa only [Den] using h
  | .lst ds, _, h => by
    simp only [Den] at h ⊢
    obtain ⟨a, vs, r, s, t⟩ := h
    exact ⟨a, vs, r, e _ _ s, DenL.mono e ds t⟩
  | .tup ds, _, h => by
    simp only [Den] at h ⊢
    obtain ⟨a, vs, r, s, t⟩ := h
    exact ⟨a, vs, r, sub_t e s, DenL.mono e ds t⟩
  | .dct ks ds, _, h => by
    simp only [Den] at h ⊢
    obtain ⟨a, kvs, r, s, t, u⟩ := h
    exact ⟨a, kvs, r, e _ _ s, t, DenL.mono e ds u⟩
  | .ins _ _, _, h => by simp only [Den] at h
  | .scr _, _, h => by
    simp only [Den] at h ⊢
    obtain ⟨a, r, s⟩ := h
    exact ⟨a, r, sub_l e s⟩
theorem DenL.mono {K : PySem.W.Frag} {G G' : Hp} (e : Sub G G') : ∀ (ds : List D) {vs : List V}, DenL K G ds vs → DenL K G' ds vs
  | [], _, h => by simpa only [DenL] using h
  | d :: ds, _, h => by
    simp only [DenL] at h ⊢
    obtain ⟨v, r, e1, h1, h2⟩ := h
    exact ⟨v, r, e1, Den.mono e d h1, DenL.mono e ds h2⟩
end
theorem DenL.length {K : PySem.W.Frag} {G : Hp} : ∀ {ds : List D} {vs : List V}, DenL K G ds vs → ds.length = vs.length
  | [], _, h => by simp only [DenL] at h; subst h; rfl
  | d :: ds, _, h => by
    simp only [DenL] at h
    obtain ⟨v, r, e1, h1, h2⟩ := h
    subst e1
    simp [DenL.length h2]
theorem DenL.get {K : PySem.W.Frag} {G : Hp} : ∀ {ds : List D} {vs : List V} {i : Nat} {d : D}, DenL K G ds vs → ds[i]? = some d → ∃ v, vs[i]? = some v ∧ Den K G d v
  | [], _, _, _, _, e => by simp at e
  | x :: ds, _, i, d, h, e => by
    simp only [DenL] at h
    obtain ⟨v, r, e1, h1, h2⟩ := h
    subst e1
    cases i with
    | zero =>
      simp at e
      subst e
      exact ⟨v, rfl, h1⟩
    | succ i =>
      obtain ⟨w, a, b⟩ := DenL.get (i := i) (d := d) h2 (by simpa using e)
      exact ⟨w, by simpa using a, b⟩
theorem DenL.getV {K : PySem.W.Frag} {G : Hp} : ∀ {ds : List D} {vs : List V} {i : Nat} {v : V}, DenL K G ds vs → vs[i]? = some v → ∃ d, ds[i]? = some d ∧ Den K G d v
  | [], _, _, _, h, e => by simp only [DenL] at h; subst h; simp at e
  | x :: ds, _, i, d, h, e => by
    simp only [DenL] at h
    obtain ⟨v, r, e1, h1, h2⟩ := h
    subst e1
    cases i with
    | zero =>
      simp at e
      subst e
      exact ⟨x, rfl, h1⟩
    | succ i =>
      obtain ⟨w, a, b⟩ := DenL.getV (i := i) (v := d) h2 (by simpa using e)
      exact ⟨w, by simpa using a, b⟩
theorem DenL.append {K : PySem.W.Frag} {G : Hp} : ∀ {ds es : List D} {vs ws : List V}, DenL K G ds vs → DenL K G es ws → DenL K G (ds ++ es) (vs ++ ws)
  | [], _, _, _, h, h' => by simp only [DenL] at h; subst h; simpa using h'
  | d :: ds, es, _, ws, h, h' => by
    simp only [DenL] at h
    obtain ⟨v, r, e1, h1, h2⟩ := h
    subst e1
    simp only [List.cons_append, DenL]
    exact ⟨v, r ++ ws, rfl, h1, DenL.append h2 h'⟩
theorem DenL.snoc {K : PySem.W.Frag} {G : Hp} {ds : List D} {vs : List V} {d : D} {v : V} (h : DenL K G ds vs) (h' : Den K G d v) : DenL K G (ds ++ [d]) (vs ++ [v]) :=
  h.append (by simp only [DenL]; exact ⟨v, [], rfl, h', rfl⟩)
theorem DenL.take {K : PySem.W.Frag} {G : Hp} : ∀ {ds : List D} {vs : List V} (n : Nat), DenL K G ds vs → DenL K G (ds.take n) (vs.take n)
  | [], _, n, h => by simp only [DenL] at h; subst h; simp [DenL]
  | d :: ds, _, 0, h => by simp [DenL]
  | d :: ds, _, n + 1, h => by
    simp only [DenL] at h
    obtain ⟨v, r, e1, h1, h2⟩ := h
    subst e1
    simp only [List.take_succ_cons, DenL]
    exact ⟨v, r.take n, rfl, h1, DenL.take n h2⟩
theorem DenL.drop {K : PySem.W.Frag} {G : Hp} : ∀ {ds : List D} {vs : List V} (n : Nat), DenL K G ds vs → DenL K G (ds.drop n) (vs.drop n)
  | [], _, n, h => by simp only [DenL] at h; subst h; simp [DenL]
  | d :: ds, _, 0, h => by simpa using h
  | d :: ds, _, n + 1, h => by
    simp only [DenL] at h
    obtain ⟨v, r, e1, h1, h2⟩ := h
    subst e1
    simpa using DenL.drop n h2

/-! ### data to the library's -/
mutual
theorem Den.dp {K : PySem.W.Frag} {G : Hp} : ∀ (d : D) {v : V}, D.plain d = true → Den K G d v → Dp K G v (D.toP d)
  | .non, _, _, h => by simp only [Den] at h; subst h; exact .non
  | .bl _, _, _, h => by simp only [Den] at h; subst h; exact .bl _
  | .int _, _, _, h => by simp only [Den] at h; subst h; exact .int _
  | .str _, _, _, h => by simp only [Den] at h; subst h; exact .str _
  | .lst ds, _, p, h => by
    simp only [Den] at h
    simp only [D.plain] at p
    obtain ⟨a, vs, r, s, t⟩ := h
    subst r
    exact .lst (SqL.of s) (DenL.dp ds p t)
  | .tup ds, _, p, h => by
    simp only [Den] at h
    simp only [D.plain] at p
    obtain ⟨a, vs, r, s, t⟩ := h
    subst r
    exact .tup s (DenL.dp ds p t)
  | .dct _ _, _, p, _ => by simp [D.plain] at p
  | .ins _ _, _, p, _ => by simp [D.plain] at p
  | .scr _, _, p, _ => by simp [D.plain] at p
theorem DenL.dp {K : PySem.W.Frag} {G : Hp} : ∀ (ds : List D) {vs : List V}, D.plainL ds = true → DenL K G ds vs → DpAll K G vs (D.toPL ds)
  | [], _, _, h => by simp only [DenL] at h; subst h; exact .nil
  | d :: ds, _, p, h => by
    simp only [DenL] at h
    simp only [D.plainL, Bool.and_eq_true] at p
    obtain ⟨v, r, e1, h1, h2⟩ := h
    subst e1
    exact .cons (Den.dp d p.1 h1) (DenL.dp ds p.2 h2)
end
mutual
theorem dp_mono {K : PySem.W.Frag} {G H : Hp} (e : Sub G H) : ∀ (d : PyData) {v : V}, Dp K G v d → Dp K H v d
  | _, _, .non => .non
  | _, _, .bl b => .bl b
  | _, _, .int b => .int b
  | _, _, .str b => .str b
  | .list ds, _, .lst s a => .lst (sub_l e s) (dpAll_mono e ds a)
  | .tuple ds, _, .tup s a => .tup (sub_t e s) (dpAll_mono e ds a)
theorem dpAll_mono {K : PySem.W.Frag} {G H : Hp} (e : Sub G H) : ∀ (ds : List PyData) {vs : List V}, DpAll K G vs ds → DpAll K H vs ds
  | [], _, .nil => .nil
  | d :: ds, _, .cons h t => .cons (dp_mono e d h) (dpAll_mono e ds t)
end

/-! ### the world: H0, G0 at the entry; G what stands for good; W what the slots own; H the heap -/
structure Wd (H0 G0 G W H : Hp) : Prop where
  gh : Sub G H
  wh : ∀ a o, W a = some o → H a = some o ∧ G a = none
  g0 : Sub G0 G
  hg : ∀ a o, H0 a = some o → G a = G0 a
  h0 : ∀ a o, H0 a = some o → H a = some o ∧ W a = none
def noH : Hp := fun _ => none
theorem Wd.start {H0 G0 : Hp} (h : Sub G0 H0) : Wd H0 G0 G0 noH H0 :=
  ⟨h, fun _ _ e => by simp [noH] at e, fun _ _ e => e, fun _ _ _ => rfl, fun _ _ e => ⟨e, rfl⟩⟩
section
variable {H0 G0 G W H : Hp}
theorem Wd.wnone (w : Wd H0 G0 G W H) {p : Addr} (hp : H p = none) : W p = none := by
  cases e : W p with
  | none => rfl
  | some o => rw [(w.wh p o e).1] at hp; cases hp
theorem Wd.gnone (w : Wd H0 G0 G W H) {p : Addr} (hp : H p = none) : G p = none := by
  cases e : G p with
  | none => rfl
  | some o => rw [w.gh p o e] at hp; cases hp
theorem Wd.h0none (w : Wd H0 G0 G W H) {p : Addr} (hp : H p = none) : H0 p = none := by
  cases e : H0 p with
  | none => rfl
  | some o => rw [(w.h0 p o e).1] at hp; cases hp
theorem sub_upd {G : Hp} {p : Addr} {o : HO} (h : G p = none) : Sub G (upd G p o) := fun a u e => by
  rw [upd_ne (ne_of_none e h)]; exact e
/-- a new object that stands for good -/
theorem Wd.new (w : Wd H0 G0 G W H) {p : Addr} {o : HO} (hp : H p = none) : Wd H0 G0 (upd G p o) W (upd H p o) := by
  have hg := w.gnone hp
  have hw := w.wnone hp
  have h0 := w.h0none hp
  refine ⟨fun a u e => ?_, fun a u e => ?_, w.g0.trans (sub_upd hg), fun a u e => ?_, fun a u e => ?_⟩
  · by_cases z : a = p
    · subst z; rw [upd_same] at e ⊢; exact e
    · rw [upd_ne z] at e ⊢; exact w.gh a u e
  · have z := ne_of_none e hw
    rw [upd_ne z, upd_ne z]; exact w.wh a u e
  · have z := ne_of_none e h0
    rw [upd_ne z]; exact w.hg a u e
  · have z := ne_of_none e h0
    rw [upd_ne z]; exact w.h0 a u e
/-- a new object that is owned -/
theorem Wd.newO (w : Wd H0 G0 G W H) {p : Addr} {o : HO} (hp : H p = none) : Wd H0 G0 G (upd W p o) (upd H p o) := by
  have hg := w.gnone hp
  have hw := w.wnone hp
  have h0 := w.h0none hp
  refine ⟨fun a u e => ?_, fun a u e => ?_, w.g0, fun a u e => w.hg a u e, fun a u e => ?_⟩
  · have z := ne_of_none e hg
    rw [upd_ne z]; exact w.gh a u e
  · by_cases z : a = p
    · subst z; rw [upd_same] at e ⊢; exact ⟨e, hg⟩
    · rw [upd_ne z] at e ⊢; exact w.wh a u e
  · have z := ne_of_none e h0
    rw [upd_ne z, upd_ne z]; exact w.h0 a u e
/-- an owned object changes -/
theorem Wd.set (w : Wd H0 G0 G W H) {p : Addr} {o o' : HO} (hp : W p = some o) : Wd H0 G0 G (upd W p o') (upd H p o') := by
  obtain ⟨h1, h2⟩ := w.wh p o hp
  have h0 : H0 p = none := by
    cases e : H0 p with
    | none => rfl
    | some o => rw [(w.h0 p o e).2] at hp; cases hp
  refine ⟨fun a u e => ?_, fun a u e => ?_, w.g0, fun a u e => w.hg a u e, fun a u e => ?_⟩
  · have z := ne_of_none e h2
    rw [upd_ne z]; exact w.gh a u e
  · by_cases z : a = p
    · subst z; rw [upd_same] at e ⊢; exact ⟨e, h2⟩
    · rw [upd_ne z] at e ⊢; exact w.wh a u e
  · have z := ne_of_none e h0
    rw [upd_ne z, upd_ne z]; exact w.h0 a u e
def del (W : Hp) (p : Addr) : Hp := fun a => if a = p then none else W a
theorem del_same {W : Hp} {p : Addr} : del W p p = none := by simp [del]
theorem del_ne {W : Hp} {p a : Addr} (h : a ≠ p) : del W p a = W a := by simp [del, h]
/-- an owned object stands for good from here on -/
theorem Wd.give (w : Wd H0 G0 G W H) {p : Addr} {o : HO} (hp : W p = some o) : Wd H0 G0 (upd G p o) (del W p) H := by
  obtain ⟨h1, h2⟩ := w.wh p o hp
  have h0 : H0 p = none := by
    cases e : H0 p with
    | none => rfl
    | some o => rw [(w.h0 p o e).2] at hp; cases hp
  refine ⟨fun a u e => ?_, fun a u e => ?_, w.g0.trans (sub_upd h2), fun a u e => ?_, fun a u e => ?_⟩
  · by_cases z : a = p
    · subst z; rw [upd_same] at e; rw [h1]; exact e
    · rw [upd_ne z] at e; exact w.gh a u e
  · by_cases z : a = p
    · subst z; rw [del_same] at e; cases e
    · rw [del_ne z] at e; rw [upd_ne z]; exact w.wh a u e
  · have z := ne_of_none e h0
    rw [upd_ne z]; exact w.hg a u e
  · have z := ne_of_none e h0
    rw [del_ne z]; exact w.h0 a u e
/-- behind a call -/
theorem Wd.call (w : Wd H0 G0 G W H) {G' H' : Hp} (hh : Sub H H') (gg : Sub G G') (gh : Sub G' H') (hg : ∀ a o, H a = some o → G' a = G a) : Wd H0 G0 G' W H' :=
  ⟨gh, fun a o e => ⟨hh a o (w.wh a o e).1, by rw [hg a o (w.wh a o e).1]; exact (w.wh a o e).2⟩, w.g0.trans gg, fun a o e => (hg a o (w.h0 a o e).1).trans (w.hg a o e),
    fun a o e => ⟨hh a o (w.h0 a o e).1, (w.h0 a o e).2⟩⟩
end

/-! ### slots -/
inductive Sl where
  | no | v (d : D) | o (ds : List D)
structure SlOk (K : PySem.W.Frag) (G W : Hp) (τ : List Sl) (σ : St) : Prop where
  len : τ.length = σ.length
  val : ∀ (i : Nat) d, τ[i]? = some (.v d) → ∃ v, σ[i]? = some (some v) ∧ Den K G d v
  own : ∀ (i : Nat) ds, τ[i]? = some (.o ds) → ∃ a vs, σ[i]? = some (some (.ref a)) ∧ W a = some (.lst vs) ∧ DenL K G ds vs
  dis : ∀ (i j : Nat) ds es a, τ[i]? = some (.o ds) → τ[j]? = some (.o es) → σ[i]? = some (some (.ref a)) → σ[j]? = some (some (.ref a)) → i = j
theorem get_set {α : Type} {l : List α} {i j : Nat} {x y : α} (h : (l.set i x)[j]? = some y) : (j = i ∧ i < l.length ∧ y = x) ∨ (j ≠ i ∧ l[j]? = some y) := by
  by_cases e : j = i
  · subst e
    by_cases hl : j < l.length
    · rw [List.getElem?_set_self hl] at h
      exact .inl ⟨rfl, hl, (Option.some.inj h).symm⟩
    · rw [List.getElem?_eq_none (by simpa using hl)] at h
      cases h
  · rw [List.getElem?_set_ne (fun z => e z.symm)] at h
    exact .inr ⟨e, h⟩
theorem set_self {α : Type} {l : List α} {i : Nat} {x : α} (h : i < l.length) : (l.set i x)[i]? = some x := List.getElem?_set_self h
theorem set_ne {α : Type} {l : List α} {i j : Nat} {x : α} (h : j ≠ i) : (l.set i x)[j]? = l[j]? := List.getElem?_set_ne (fun z => h z.symm)
section
variable {K : PySem.W.Frag} {G G' W : Hp} {τ : List Sl} {σ : St}
theorem SlOk.mono (s : SlOk K G W τ σ) (e : Sub G G') : SlOk K G' W τ σ :=
  ⟨s.len, fun i d h => let ⟨v, a, b⟩ := s.val i d h; ⟨v, a, b.mono e⟩, fun i ds h => let ⟨a, vs, x, y, z⟩ := s.own i ds h; ⟨a, vs, x, y, z.mono e⟩, s.dis⟩
/-- a slot takes a value -/
theorem SlOk.put (s : SlOk K G W τ σ) {i : Nat} {d : D} {v : V} (h : Den K G d v) : SlOk K G W (τ.set i (.v d)) (σ.set i (some v)) := by
  refine ⟨by simp [s.len], fun j e hj => ?_, fun j es hj => ?_, fun j k es fs a hj hk ha hb => ?_⟩
  · rcases get_set hj with ⟨z, hl, e1⟩ | ⟨z, hj⟩
    · subst z
      cases e1
      exact ⟨v, set_self (by rw [← s.len]; exact hl), h⟩
    · rw [set_ne z]; exact s.val j e hj
  · rcases get_set hj with ⟨z, hl, e1⟩ | ⟨z, hj⟩
    · cases e1
    · rw [set_ne z]; exact s.own j es hj
  · rcases get_set hj with ⟨z, hl, e1⟩ | ⟨z, hj⟩
    · cases e1
    · rcases get_set hk with ⟨z', hl, e1⟩ | ⟨z', hk⟩
      · cases e1
      · rw [set_ne z] at ha
        rw [set_ne z'] at hb
        exact s.dis j k es fs a hj hk ha hb
theorem SlOk.wput (s : SlOk K G W τ σ) {i : Nat} {x : Option V} : SlOk K G W (τ.set i .no) (σ.set i x) := by
  refine ⟨by simp [s.len], fun j e hj => ?_, fun j es hj => ?_, fun j k es fs a hj hk ha hb => ?_⟩
  · rcases get_set hj with ⟨z, hl, e1⟩ | ⟨z, hj⟩
    · cases e1
    · rw [set_ne z]; exact s.val j e hj
  · rcases get_set hj with ⟨z, hl, e1⟩ | ⟨z, hj⟩
    · cases e1
    · rw [set_ne z]; exact s.own j es hj
  · rcases get_set hj with ⟨z, hl, e1⟩ | ⟨z, hj⟩
    · cases e1
    · rcases get_set hk with ⟨z', hl, e1⟩ | ⟨z', hk⟩
      · cases e1
      · rw [set_ne z] at ha
        rw [set_ne z'] at hb
        exact s.dis j k es fs a hj hk ha hb
/-- a slot takes a new list of its own -/
theorem SlOk.putO (s : SlOk K G W τ σ) {i : Nat} {ds : List D} {vs : List V} {p : Addr} (hp : W p = none) (h : DenL K G ds vs) : SlOk K G (upd W p (.lst vs)) (τ.set i (.o ds)) (σ.set i (some (.ref p))) := by
  have np : ∀ (j : Nat) es, j ≠ i → τ[j]? = some (.o es) → ∀ a, σ[j]? = some (some (.ref a)) → a ≠ p := fun j es z hj a ha e => by
    obtain ⟨b, ws, x, y, _⟩ := s.own j es hj
    rw [ha] at x
    cases x
    rw [e, hp] at y
    cases y
  refine ⟨by simp [s.len], fun j e hj => ?_, fun j es hj => ?_, fun j k es fs a hj hk ha hb => ?_⟩
  · rcases get_set hj with ⟨z, hl, e1⟩ | ⟨z, hj⟩
    · cases e1
    · rw [set_ne z]; exact s.val j e hj
  · rcases get_set hj with ⟨z, hl, e1⟩ | ⟨z, hj⟩
    · subst z
      cases e1
      exact ⟨p, vs, set_self (by rw [← s.len]; exact hl), upd_same, h⟩
    · obtain ⟨b, ws, x, y, q⟩ := s.own j es hj
      exact ⟨b, ws, by rw [set_ne z]; exact x, by rw [upd_ne (np j es z hj b x)]; exact y, q⟩
  · rcases get_set hj with ⟨z, hl, e1⟩ | ⟨z, hj2⟩
    · rcases get_set hk with ⟨z', hl', e1'⟩ | ⟨z', hk2⟩
      · rw [z, z']
      · rw [z, set_self (by rw [← s.len]; exact hl)] at ha
        cases ha
        rw [set_ne z'] at hb
        exact absurd rfl (np k fs z' hk2 _ hb)
    · rcases get_set hk with ⟨z', hl', e1'⟩ | ⟨z', hk2⟩
      · rw [z', set_self (by rw [← s.len]; exact hl')] at hb
        cases hb
        rw [set_ne z] at ha
        exact absurd rfl (np j es z hj2 _ ha)
      · rw [set_ne z] at ha
        rw [set_ne z'] at hb
        exact s.dis j k es fs a hj2 hk2 ha hb
/-- an owned list changes -/
theorem SlOk.chg (s : SlOk K G W τ σ) {i : Nat} {ds ds' : List D} {vs' : List V} {p : Addr} (hi : τ[i]? = some (.o ds)) (hp : σ[i]? = some (some (.ref p))) (h : DenL K G ds' vs') :
    SlOk K G (upd W p (.lst vs')) (τ.set i (.o ds')) σ := by
  have il : i < τ.length := (List.getElem?_eq_some_iff.mp hi).1
  refine ⟨by simp [s.len], fun j e hj => ?_, fun j es hj => ?_, fun j k es fs a hj hk ha hb => ?_⟩
  · rcases get_set hj with ⟨z, hl, e1⟩ | ⟨z, hj⟩
    · cases e1
    · exact s.val j e hj
  · rcases get_set hj with ⟨z, hl, e1⟩ | ⟨z, hj⟩
    · subst z
      cases e1
      exact ⟨p, vs', hp, upd_same, h⟩
    · obtain ⟨b, ws, x, y, q⟩ := s.own j es hj
      have nb : b ≠ p := fun e => z (s.dis j i es ds b hj hi x (by rw [e]; exact hp))
      exact ⟨b, ws, x, by rw [upd_ne nb]; exact y, q⟩
  · have old : ∀ (j : Nat) es, (τ.set i (.o ds'))[j]? = some (.o es) → ∃ es', τ[j]? = some (.o es') := fun j es hj => by
      rcases get_set hj with ⟨z, hl, e1⟩ | ⟨z, hj⟩
      · subst z; exact ⟨ds, hi⟩
      · exact ⟨es, hj⟩
    obtain ⟨es', hj'⟩ := old j es hj
    obtain ⟨fs', hk'⟩ := old k fs hk
    exact s.dis j k es' fs' a hj' hk' ha hb
/-- an owned list is given up: it stands for good -/
theorem SlOk.give (s : SlOk K G W τ σ) {i : Nat} {ds : List D} {vs : List V} {p : Addr} (hi : τ[i]? = some (.o ds)) (hp : σ[i]? = some (some (.ref p))) (hw : W p = some (.lst vs)) (hg : G p = none) (h : DenL K G ds vs) :
    SlOk K (upd G p (.lst vs)) (del W p) (τ.set i (.v (.lst ds))) σ := by
  have s' := s.mono (sub_upd (o := .lst vs) hg)
  refine ⟨by simp [s.len], fun j e hj => ?_, fun j es hj => ?_, fun j k es fs a hj hk ha hb => ?_⟩
  · rcases get_set hj with ⟨z, hl, e1⟩ | ⟨z, hj⟩
    · subst z
      cases e1
      refine ⟨_, hp, ?_⟩
      simp only [Den]
      exact ⟨p, vs, rfl, upd_same, h.mono (sub_upd hg)⟩
    · exact s'.val j e hj
  · rcases get_set hj with ⟨z, hl, e1⟩ | ⟨z, hj⟩
    · cases e1
    · obtain ⟨b, ws, x, y, q⟩ := s'.own j es hj
      have nb : b ≠ p := fun e => z (s.dis j i es ds b hj hi x (by rw [e]; exact hp))
      exact ⟨b, ws, x, by rw [del_ne nb]; exact y, q⟩
  · rcases get_set hj with ⟨z, hl, e1⟩ | ⟨z, hj⟩
    · cases e1
    · rcases get_set hk with ⟨z', hl', e1'⟩ | ⟨z', hk⟩
      · cases e1'
      · exact s.dis j k es fs a hj hk ha hb
end
end Pv

set_option Elab.async false
set_option linter.all false
set_option maxRecDepth 100000
set_option maxHeartbeats 4000000

namespace Pv
open PySem PySem.Spec L2

/-! ### the small language -/
inductive BO where | add | sub | mul | fdiv | mod | pow
inductive CO where | lt | le | gt | ge | eq | ne | is | isnot | isin | notin
inductive Ty where | int | bool | str | tuple | list | dict
inductive BF where | len | int | abs | max | min | gcd | tuple | list | sum | str
inductive T where | nm (i : Nat) | tp (is : List Nat)
inductive E where
  | c (d : D) | v (i : Nat) | g (k : Nat)
  | bin (o : BO) (a b : E) | neg (a : E) | not (a : E) | and (a b : E) | or (a b : E) | last (a : E) | nil
  | cmp (o : CO) (a b : E) | chain (o p : CO) (a b c : E)
  | ite (t a b : E)
  | tup (es : List E) | lst (es : List E) | dct (es : List E)
  | ix (a i : E) | sl (a lo hi : E)
  | call (f : Nat) (es : List E)
  | blt (f : BF) (es : List E)
  | isi (a : E) (ts : List Ty) (many : Bool)
  | ixo (i : Nat) (a : E) | leno (i : Nat)
  | lc (own : List (Str × Nat)) (t : T) (it : E) (c : E) (e : E)
  | seq (e : E) | r1 (a : E) | r2 (a b : E) | enum (a : E) | zip (a b : E)
inductive S where
  | asg (t : T) (e : E) | own (i : Nat) (es : List E) | frz (i : Nat) | app (i : Nat) (e : E)
  | ret (e : E) | retN | pass | brk | cont
  | ifs (t : E) (a b : List S)
  | for_ (t : T) (it : E) (b : List S)
  | whl (n : Nat) (t : E) (b : List S)

abbrev line : Nat := 16777216
def strD (x : List Nat) : D := .str x
def mulOk (i j : Int) : Bool := decide (i.natAbs.log2 + j.natAbs.log2 < 1000000)
def divOk (j : Int) : Bool := decide (j ≠ 0) && decide (j.natAbs.log2 < 9000)
def powOk (i j : Int) : Bool := decide (0 ≤ j) && decide (j ≤ 1000000) && decide (i.natAbs < 2 ^ 64)
def binD : BO → D → D → Option D
  | .add, .int i, .int j => some (.int (i + j))
  | .add, .str x, .str y => if x.length + y.length ≤ line then some (.str (x ++ y)) else none
  | .add, .lst x, .lst y => if x.length + y.length ≤ line then some (.lst (x ++ y)) else none
  | .add, .tup x, .tup y => if x.length + y.length ≤ line then some (.tup (x ++ y)) else none
  | .sub, .int i, .int j => some (.int (i - j))
  | .mul, .int i, .int j => if mulOk i j then some (.int (i * j)) else none
  | .fdiv, .int i, .int j => if divOk j then some (.int (i.fdiv j)) else none
  | .mod, .int i, .int j => if j ≠ 0 then some (.int (i.fmod j)) else none
  | .pow, .int i, .int j => if powOk i j then some (.int (i ^ j.toNat)) else none
  | _, _, _ => none
def scalD : D → D → Bool
  | .non, .non => true | .non, .int _ => true | .int _, .non => true | .non, .bl _ => true | .bl _, .non => true | .non, .str _ => true | .str _, .non => true
  | .int _, .int _ => true | .bl _, .bl _ => true | .str _, .str _ => true
  | .int _, .str _ => true | .str _, .int _ => true | .bl _, .str _ => true | .str _, .bl _ => true
  | _, _ => false
def eqD (x y : D) : Option Bool := if scalD x y || (D.shp x && D.shp y) then some (D.eqb x y) else none
def flatD : D → Bool
  | .non => true | .bl _ => true | .int _ => true | .str _ => true | _ => false
def inD (x : D) (ys : List D) : Option Bool := if flatD x && ys.all flatD then some (ys.any fun y => D.eqb y x) else none
def isInD (x : D) : D → Option Bool
  | .lst ys => inD x ys
  | .tup ys => inD x ys
  | .str ys => match x with | .str [c] => some (decide (c ∈ ys)) | _ => none
  | _ => none
def isD : D → D → Option Bool
  | .bl a, .bl b => some (decide (a = b))
  | .non, .non => some true
  | .bl _, .non => some false | .int _, .non => some false | .str _, .non => some false | .lst _, .non => some false | .tup _, .non => some false | .dct _ _, .non => some false
  | _, _ => none
def cmpD : CO → D → D → Option Bool
  | .lt, .int i, .int j => some (decide (i < j))
  | .le, .int i, .int j => some (decide (i ≤ j))
  | .gt, .int i, .int j => some (decide (j < i))
  | .ge, .int i, .int j => some (decide (j ≤ i))
  | .eq, x, y => eqD x y
  | .ne, x, y => (eqD x y).map not
  | .is, x, y => isD x y
  | .isnot, x, y => (isD x y).map not
  | .isin, x, y => isInD x y
  | .notin, x, y => (isInD x y).map not
  | _, _, _ => none
def truth : D → Option Bool
  | .non => some false
  | .bl b => some b
  | .int i => some (i != 0)
  | .str x => if x.length ≤ line then some (!x.isEmpty) else none
  | .lst x => some (!x.isEmpty)
  | .tup x => some (!x.isEmpty)
  | _ => none
def blD : D → Option Bool
  | .bl b => some b
  | _ => none
def intD : D → Option Int
  | .int i => some i
  | _ => none
def ixD : D → D → Option D
  | .lst xs, .int i => atI xs i
  | .scr xs, .int i => (atI xs i).map .int
  | .tup xs, .int i => atI xs i
  | .str x, .int i => if x.length ≤ line then (atI x i).map fun c => .str [c] else none
  | _, _ => none
def cutD {α : Type} (xs : List α) (lo hi : Option Int) : List α := (xs.drop (HT.sIx xs.length 0 lo)).take (HT.sIx xs.length xs.length hi - HT.sIx xs.length 0 lo)
def slD (lo hi : Option Int) : D → Option D
  | .lst xs => some (.lst (cutD xs lo hi))
  | .tup xs => some (.tup (cutD xs lo hi))
  | .str x => if x.length ≤ line then some (.str (cutD x lo hi)) else none
  | _ => none
def allInts : List D → Option (List Int)
  | [] => some []
  | .int i :: r => (allInts r).map (i :: ·)
  | _ => none
def bltD : BF → List D → Option D
  | .len, [.lst x] => some (.int x.length)
  | .len, [.tup x] => some (.int x.length)
  | .len, [.scr x] => some (.int x.length)
  | .len, [.str x] => if x.length ≤ line then some (.int x.length) else none
  | .int, [.int i] => some (.int i)
  | .int, [.bl b] => some (.int (if b then 1 else 0))
  | .abs, [.int i] => some (.int (if i < 0 then -i else i))
  | .max, [.int i, .int j] => some (.int (if j > i then j else i))
  | .min, [.int i, .int j] => some (.int (if j < i then j else i))
  | .gcd, [.int i, .int j] => some (.int (Nat.gcd i.natAbs j.natAbs : Nat))
  | .tuple, [.lst x] => some (.tup x)
  | .tuple, [.tup x] => some (.tup x)
  | .list, [.lst x] => some (.lst x)
  | .list, [.tup x] => some (.lst x)
  | .sum, [.lst x] => (allInts x).map fun ns => .int ns.sum
  | _, _ => none
def tyD : D → Option Ty
  | .int _ => some .int | .bl _ => some .bool | .str _ => some .str | .tup _ => some .tuple | .lst _ => some .list | .dct _ _ => some .dict
  | _ => none
def isi1 (d : D) : Ty → Bool
  | .int => match d with | .int _ => true | .bl _ => true | _ => false
  | .bool => match d with | .bl _ => true | _ => false
  | .str => match d with | .str _ => true | _ => false
  | .tuple => match d with | .tup _ => true | _ => false
  | .list => match d with | .lst _ => true | _ => false
  | .dict => match d with | .dct _ _ => true | _ => false
def isIns : D → Bool
  | .ins _ _ => true
  | .scr _ => true
  | _ => false
def setAll : List Nat → List D → List Sl → Option (List Sl)
  | [], [], σ => some σ
  | i :: is, d :: ds, σ => setAll is ds (σ.set i (.v d))
  | _, _, _ => none
def setT : T → D → List Sl → Option (List Sl)
  | .nm i, d, σ => some (σ.set i (.v d))
  | .tp is, .tup ds, σ => setAll is ds σ
  | _, _, _ => none
def wipeD (σ : List Sl) : List Nat → List Sl
  | [] => σ
  | v :: vs => (wipeD σ vs).set v .no
def seqD : D → Option (List D)
  | .lst xs => some xs
  | .scr xs => some (xs.map .int)
  | .tup xs => some xs
  | .str x => some (x.map fun c => .str [c])
  | _ => none
def rngD (lo : Int) : Nat → List D
  | 0 => []
  | n + 1 => .int lo :: rngD (lo + 1) n
def okR (i : Int) : Bool := decide (-(2 ^ 62) ≤ i) && decide (i < 2 ^ 62)
def enumD (k : Nat) : List D → List D
  | [] => []
  | d :: r => .tup [.int k, d] :: enumD (k + 1) r
def zipD : List D → List D → List D
  | a :: r, b :: s => .tup [a, b] :: zipD r s
  | _, _ => []
def getO (σ : List Sl) (i : Nat) : Option (List D) := match σ[i]? with | some (.o ds) => some ds | _ => none
def getV (σ : List Sl) (i : Nat) : Option D := match σ[i]? with | some (.v d) => some d | _ => none
def lcL (t : T) (c e : List Sl → Option D) (σ : List Sl) : List D → Option (List D)
  | [] => some []
  | d :: ds => (setT t d σ).bind fun σ1 => ((c σ1).bind truth).bind fun b =>
      bif b then (e σ1).bind fun x => (lcL t c e σ ds).map (x :: ·) else lcL t c e σ ds
def distinctK : List (Option Key) → Bool
  | [] => true
  | none :: _ => false
  | k :: r => (r.all fun j => decide (j ≠ k)) && distinctK r
def dctD (ks vs : List D) : Option D := if ks.length = vs.length && decide (ks.length ≤ 15) && distinctK (ks.map D.key) then some (.dct ks vs) else none

def evens : List D → List D
  | a :: _ :: r => a :: evens r
  | _ => []
def odds : List D → List D
  | _ :: b :: r => b :: odds r
  | _ => []
/-- what stands fast for a def: its callees by number, the module's constants by number -/
structure Sm where
  F : Nat → List D → Option D
  C : Nat → Option D

mutual
def evE (Z : Sm) : E → List Sl → Option D
  | .c d, _ => some d
  | .v i, σ => getV σ i
  | .g k, _ => Z.C k
  | .bin o a b, σ => (evE Z a σ).bind fun x => (evE Z b σ).bind fun y => binD o x y
  | .neg a, σ => (evE Z a σ).bind fun x => (intD x).map fun i => .int (-i)
  | .not a, σ => ((evE Z a σ).bind truth).map fun b => .bl (!b)
  | .and a b, σ => ((evE Z a σ).bind blD).bind fun k => bif k then evE Z b σ else some (.bl false)
  | .or a b, σ => ((evE Z a σ).bind blD).bind fun k => bif k then some (.bl true) else evE Z b σ
  | .last a, σ => evE Z a σ
  | .cmp o a b, σ => (evE Z a σ).bind fun x => (evE Z b σ).bind fun y => (cmpD o x y).map .bl
  | .chain o p a b c, σ => (evE Z a σ).bind fun x => (evE Z b σ).bind fun y => (cmpD o x y).bind fun k => bif k then (evE Z c σ).bind fun z => (cmpD p y z).map .bl else some (.bl false)
  | .ite t a b, σ => ((evE Z t σ).bind truth).bind fun k => bif k then evE Z a σ else evE Z b σ
  | .tup es, σ => (evL Z es σ).bind fun ds => if ds.length ≤ line then some (.tup ds) else none
  | .lst es, σ => (evL Z es σ).bind fun ds => if ds.length ≤ line then some (.lst ds) else none
  | .dct es, σ => (evL Z es σ).bind fun ds => dctD (evens ds) (odds ds)
  | .ix a b, σ => (evE Z a σ).bind fun x => (evE Z b σ).bind fun y => ixD x y
  | .nil, _ => none
  | .sl a lo hi, σ => (evE Z a σ).bind fun x => (evP Z lo σ).bind fun l => (evP Z hi σ).bind fun h => slD l h x
  | .call f es, σ => (evL Z es σ).bind fun ds => Z.F f ds
  | .blt f es, σ => (evL Z es σ).bind fun ds => bltD f ds
  | .isi a ts _, σ => (evE Z a σ).bind fun x => if isIns x then none else some (.bl (ts.any (isi1 x)))
  | .ixo i a, σ => (getO σ i).bind fun xs => ((evE Z a σ).bind intD).bind fun k => atI xs k
  | .leno i, σ => (getO σ i).map fun xs => .int xs.length
  | .lc own t it c e, σ => (evI Z it σ).bind fun ds => if ds.length ≤ line then (lcL t (evE Z c) (evE Z e) (wipeD σ (own.map fun p => p.2)) ds).map .lst else none
  | .seq _, _ => none
  | .r1 _, _ => none
  | .r2 _ _, _ => none
  | .enum _, _ => none
  | .zip _ _, _ => none
def evP (Z : Sm) : E → List Sl → Option (Option Int)
  | .nil, _ => some none
  | .last e, σ => (evE Z e σ).bind fun d => (intD d).map some
  | _, _ => none
def evI (Z : Sm) : E → List Sl → Option (List D)
  | .seq e, σ => (evE Z e σ).bind seqD
  | .r1 a, σ => ((evE Z a σ).bind intD).bind fun i => if okR i then some (rngD 0 i.toNat) else none
  | .r2 a b, σ => ((evE Z a σ).bind intD).bind fun i => ((evE Z b σ).bind intD).bind fun j => if okR i && okR j then some (rngD i (j - i).toNat) else none
  | .enum a, σ => (evE Z a σ).bind fun x => match x with | .lst ds => some (enumD 0 ds) | _ => none
  | .zip a b, σ => (evE Z a σ).bind fun x => (evE Z b σ).bind fun y => match x, y with | .lst ds, .lst es => some (zipD ds es) | _, _ => none
  | _, _ => none
def evL (Z : Sm) : List E → List Sl → Option (List D)
  | [], _ => some []
  | e :: es, σ => (evE Z e σ).bind fun d => (evL Z es σ).map (d :: ·)
end

inductive Out where
  | nx (σ : List Sl) | rt (d : D) | bk (σ : List Sl) | ct (σ : List Sl)
def frzD (σ : List Sl) (i : Nat) : List Sl := match σ[i]? with | some (.o ds) => σ.set i (.v (.lst ds)) | _ => σ
def forL (t : T) (f : List Sl → Option Out) : List D → List Sl → Option Out
  | [], σ => some (.nx σ)
  | d :: ds, σ => (setT t d σ).bind fun σ1 => (f σ1).bind fun o => match o with
    | .nx σ2 => forL t f ds σ2
    | .ct σ2 => forL t f ds σ2
    | .bk σ2 => some (.nx σ2)
    | .rt d => some (.rt d)
def whlL (c : List Sl → Option D) (f : List Sl → Option Out) : Nat → List Sl → Option Out
  | 0, _ => none
  | n + 1, σ => ((c σ).bind truth).bind fun b => bif b then (f σ).bind fun o => match o with
      | .nx σ2 => whlL c f n σ2
      | .ct σ2 => whlL c f n σ2
      | .bk σ2 => some (.nx σ2)
      | .rt d => some (.rt d)
    else some (.nx σ)
mutual
def evS (Z : Sm) : S → List Sl → Option Out
  | .asg t e, σ => (evE Z e σ).bind fun d => (setT t d σ).map .nx
  | .own i es, σ => (evL Z es σ).bind fun ds => if ds.length ≤ line then some (.nx (σ.set i (.o ds))) else none
  | .frz i, σ => some (.nx (frzD σ i))
  | .app i e, σ => (evE Z e σ).bind fun d => (getO σ i).bind fun xs => if xs.length < line then some (.nx (σ.set i (.o (xs ++ [d])))) else none
  | .ret e, σ => (evE Z e σ).map .rt
  | .retN, _ => some (.rt .non)
  | .pass, σ => some (.nx σ)
  | .brk, σ => some (.bk σ)
  | .cont, σ => some (.ct σ)
  | .ifs t a b, σ => ((evE Z t σ).bind truth).bind fun k => bif k then evSs Z a σ else evSs Z b σ
  | .for_ t it b, σ => (evI Z it σ).bind fun ds => forL t (evSs Z b) ds σ
  | .whl n t b, σ => whlL (evE Z t) (evSs Z b) n σ
def evSs (Z : Sm) : List S → List Sl → Option Out
  | [], σ => some (.nx σ)
  | s :: r, σ => (evS Z s σ).bind fun o => match o with
    | .nx σ2 => evSs Z r σ2
    | .rt d => some (.rt d)
    | .bk σ2 => some (.bk σ2)
    | .ct σ2 => some (.ct σ2)
end
def startD (m : Nat) (ds : List D) : List Sl := ds.map Sl.v ++ List.replicate (m - ds.length) Sl.no
def endD : Out → Option D
  | .rt d => some d
  | .nx _ => some .non
  | _ => none
/-- a def's value: k parameters, m slots -/
def evF (Z : Sm) (b : List S) (k m : Nat) (ds : List D) : Option D := if ds.length = k then (evSs Z b (startD m ds)).bind endD else none
end Pv

set_option Elab.async false
set_option linter.all false
set_option maxRecDepth 100000
set_option maxHeartbeats 4000000

namespace Pv
open PySem PySem.Spec L2

/-! ### what may be run: readings chosen where they are used -/
def TU (X : Cx) (e : Expr) : TE := fun σ H Q => ∃ t, PE X e t ∧ t σ H Q
def TUt (X : Cx) (e : Expr) : TT := fun σ H Q => ∃ t, PT X e t ∧ t σ H Q
def TUw (X : Cx) (e : Expr) : TT := fun σ H Q => ∃ t, PW X e t ∧ t σ H Q
def TUa (X : Cx) (es : List Expr) : TA := fun σ H Q => ∃ t, PA X es t ∧ t σ H Q
def TUi (X : Cx) (tg e : Expr) : TI := fun σ H R => ∃ t, PI X tg e t ∧ t σ H R
def TUg (X : Cx) (tg : Expr) : TG := fun v σ H Q => ∃ t, PG X tg t ∧ t v σ H Q
def TUgs (X : Cx) (tgs : List Expr) : TGs := fun vs σ H Q => ∃ t, PGs X tgs t ∧ t vs σ H Q
def TUts (X : Cx) (es : List Expr) : TT := fun σ H Q => ∃ t, PTs X es t ∧ t σ H Q
def TUs (X : Cx) (s : Stmt) : TS := fun D σ H => ∃ t, PS X s t ∧ t D σ H
def TUss (X : Cx) (s : List Stmt) : TS := fun D σ H => ∃ t, PSs X s t ∧ t D σ H
section
variable {X : Cx}
theorem pe_tu {e : Expr} : PE X e (TU X e) := ⟨fun pins s σ H Q I ⟨_, p, h⟩ => p.run pins s σ H Q I h⟩
theorem pt_tu {e : Expr} : PT X e (TUt X e) := ⟨fun pins s σ H Q I ⟨_, p, h⟩ => p.run pins s σ H Q I h⟩
theorem pw_tu {e : Expr} : PW X e (TUw X e) := ⟨fun w pins s σ H Q I ⟨_, p, h⟩ => p.run w pins s σ H Q I h⟩
theorem pa_tu {e : List Expr} : PA X e (TUa X e) := ⟨fun pos pins s σ H Q I ⟨_, p, h⟩ => p.run pos pins s σ H Q I h⟩
theorem pi_tu {tg e : Expr} : PI X tg e (TUi X tg e) := ⟨fun pins s σ H R I ⟨_, p, h⟩ => p.run pins s σ H R I h⟩
theorem pg_tu {e : Expr} : PG X e (TUg X e) := ⟨fun pins s σ H v u Q I r ⟨_, p, h⟩ => p.run pins s σ H v u Q I r h⟩
theorem pgs_tu {e : List Expr} : PGs X e (TUgs X e) := ⟨fun pins s σ H v u Q I r ⟨_, p, h⟩ => p.run pins s σ H v u Q I r h⟩
theorem pts_tu {e : List Expr} : PTs X e (TUts X e) := ⟨fun pins s σ H Q I ⟨_, p, h⟩ => p.run pins s σ H Q I h⟩
theorem ps_tu {e : Stmt} : PS X e (TUs X e) := ⟨fun pins s σ H D I ⟨_, p, h⟩ => p.run pins s σ H D I h⟩
theorem pss_tu {e : List Stmt} : PSs X e (TUss X e) := ⟨fun pins s σ H D I ⟨_, p, h⟩ => p.run pins s σ H D I h⟩
def UOp (X : Cx) (f : Value → Value → Sem Value) : R2 := fun x y H Q => ∃ r, OpR X f r ∧ r x y H Q
theorem opR_u {f : Value → Value → Sem Value} : OpR X f (UOp X f) := fun pins s σ H x y v u Q I rx ry ⟨_, p, h⟩ => p pins s σ H x y v u Q I rx ry h
def UIx (X : Cx) : R2 := fun x y H Q => ∃ r, IxR X r ∧ r x y H Q
theorem ixR_u : IxR X (UIx X) := fun value slice pins s σ H x y v u Q I rx ry ⟨_, p, h⟩ e => p value slice pins s σ H x y v u Q I rx ry h e
def UCall (X : Cx) (f : Value) : List V → Hp → VK → Prop := fun xs H Q => ∃ r, CallR X f r ∧ r xs H Q
theorem callR_u {f : Value} : CallR X f (UCall X f) := fun pins s σ H xs us Q I r ⟨_, p, h⟩ => p pins s σ H xs us Q I r h
def USl (X : Cx) : V → Option Int → Option Int → Hp → VK → Prop := fun x l h H Q => ∃ r, SlR X r ∧ r x l h H Q
theorem slR_u : SlR X (USl X) := fun pins s σ H x v vl vu lo hi sl Q I rx hs pl pu ⟨_, p, h⟩ => p pins s σ H x v vl vu lo hi sl Q I rx hs pl pu h
end

/-! ### what stands fast -/
structure Stat where
  N : List Str
  Z : Sm
  fns : List (Nat × Str)
  cns : List (Nat × Str)
  bl : List Str
  gcd : Bool
  lv : Nat
def spF (K : PySem.W.Frag) (F : List D → Option D) : Sp := fun vs H Q _ => ∃ ds d G, Sub G H ∧ DenL K G ds vs ∧ F ds = some d ∧
  ∀ v G' H', Sub H H' → Sub G G' → Sub G' H' → (∀ a o, H a = some o → G' a = G a) → Den K G' d v → Q v H'
structure FnAt (P : Program) (w : World) (K : PySem.W.Frag) (mg : Str → Option Value) (base : Heap) (lv : Nat) (x : Str) (F : List D → Option D) : Prop where
  ex : ∃ (f : Addr) (fd : FuncData) (ps : List Str), mg x = some (.ref f) ∧ PySem.W.keepIn K (.ref f) = true ∧ Binds K fd ps [] ∧ FnOk P w K mg base CX0 lv f fd ps (spF K F)
structure XOk (Y : Stat) (sc : Scope) (fc : Str → Bool) (X : Cx) : Prop where
  calm : X.calm = true
  nd : X.N.Nodup
  eN : X.N = Y.N
  sc : X.env.scope = sc
  room : Room Y.lv X.A
  xe : X.xe = fun _ _ => False
  fn : ∀ x, fc x = true → X.fn x = true
  fns : ∀ i x, (i, x) ∈ Y.fns → FnAt X.prog X.w X.K X.mg X.base Y.lv x (Y.Z.F i)
  cns : ∀ k x, (k, x) ∈ Y.cns → ∃ u v d, X.mg x = some u ∧ RelV v u ∧ Y.Z.C k = some d ∧ ∀ G, Den X.K G d v
  bl : ∀ x ∈ Y.bl, X.mg x = none
  gcd : Y.gcd = true → X.mg "gcd" = some (.builtin "math.gcd")
section
variable {Y : Stat} {sc : Scope} {fc : Str → Bool} {X : Cx}
theorem XOk.gl (ok : XOk Y sc fc X) {x : Str} (h : sc.names.lookup x = some .globalImplicit) : Gl X x := by
  show X.env.scope.names.lookup x = _
  rw [ok.sc]; exact h
theorem XOk.vis (ok : XOk Y sc fc X) {x : Str} (h : Vis sc x) : Vis X.env.scope x := by rw [ok.sc]; exact h
theorem XOk.loc (ok : XOk Y sc fc X) {x : Str} (h : Loc sc x) : Loc X.env.scope x := by rw [ok.sc]; exact h
theorem XOk.hf (ok : XOk Y sc fc X) {x : Str} (h : (fc x || decide (sc.names.lookup x = some .local)) = true) : X.fn x = true ∨ X.env.scope.names.lookup x = some .local := by
  rw [Bool.or_eq_true, decide_eq_true_eq] at h
  rcases h with h | h
  · exact .inl (ok.fn x h)
  · right; rw [ok.sc]; exact h
theorem XOk.never (ok : XOk Y sc fc X) : PassesOwn (model X.prog X.w) X.A X.env X.xe := by
  rw [ok.xe]; exact PassesOwn.never
theorem XOk.blk (ok : XOk Y sc fc X) {s : Shared} {H : Hp} {scope : Scope} {cl : List (Str × Addr)} {C : Addr} {fp : List Addr} :
    XOk Y (relS scope sc) (fun x => scope.names.lookup x == some .cell) (X.blk s H scope (compEnvC scope cl C X.env) fp) := by
  refine ⟨ok.calm, ok.nd, ok.eN, ?_, ok.room, rfl, fun x h => h, ok.fns, ok.cns, ok.bl, ok.gcd⟩
  show relS scope X.env.scope = relS scope sc
  rw [ok.sc]
end

/-! ### the judgements -/
section
variable (K : PySem.W.Frag) (H0 G0 G W : Hp)
def EQ (d : D) (Q : VK) : Prop := ∀ v G' H', Sub G G' → Wd H0 G0 G' W H' → Den K G' d v → Q v H'
def BQ (b : Bool) (Q : Bool → Hp → Prop) : Prop := ∀ G' H', Sub G G' → Wd H0 G0 G' W H' → Q b H'
def AQ (ds : List D) (Q : List V → Hp → Prop) : Prop := ∀ vs G' H', Sub G G' → Wd H0 G0 G' W H' → DenL K G' ds vs → Q vs H'
end
section
variable (Y : Stat) (sc : Scope) (fc : Str → Bool)
structure SE (e : Expr) (f : List Sl → Option D) : Prop where
  run : ∀ X, XOk Y sc fc X → ∀ H0 G0 G W H τ σ d, Wd H0 G0 G W H → SlOk X.K G W τ σ → f τ = some d → ∀ Q, EQ X.K H0 G0 G W d Q → TU X e σ H Q
structure ST (e : Expr) (f : List Sl → Option Bool) : Prop where
  run : ∀ X, XOk Y sc fc X → ∀ H0 G0 G W H τ σ b, Wd H0 G0 G W H → SlOk X.K G W τ σ → f τ = some b → ∀ Q, BQ H0 G0 G W b Q → TUt X e σ H Q
structure SW (e : Expr) (f : List Sl → Option Bool) : Prop where
  run : ∀ X, XOk Y sc fc X → ∀ H0 G0 G W H τ σ b, Wd H0 G0 G W H → SlOk X.K G W τ σ → f τ = some b → ∀ Q, BQ H0 G0 G W b Q → TUw X e σ H Q
structure SA (es : List Expr) (f : List Sl → Option (List D)) : Prop where
  run : ∀ X, XOk Y sc fc X → ∀ H0 G0 G W H τ σ ds, Wd H0 G0 G W H → SlOk X.K G W τ σ → f τ = some ds → ∀ Q, AQ X.K H0 G0 G W ds Q → TUa X es σ H Q
structure SI (tg e : Expr) (f : List Sl → Option (List D)) : Prop where
  run : ∀ X, XOk Y sc fc X → ∀ H0 G0 G W H τ σ ds, Wd H0 G0 G W H → SlOk X.K G W τ σ → f τ = some ds → ∀ R : L2.It → Hp → Prop,
    (∀ J n Gp Yp G' H', Sub G G' → Wd H0 G0 G' W H' → Walk J n Gp Yp → n = ds.length → (∀ H'', Sub G' H'' → Gp H'') →
      (∀ i H1 x H2 G1 W1, i < n → Sub G' G1 → Wd H0 G0 G1 W1 H1 → Yp i H1 x H2 → ∃ G2 d, Sub G1 G2 ∧ Wd H0 G0 G2 W1 H2 ∧ ds[i]? = some d ∧ Den X.K G2 d x) → R J H') → TUi X tg e σ H R
def tixs : T → List Nat
  | .nm i => [i]
  | .tp is => is
structure SG (tg : Expr) (t : T) : Prop where
  run : ∀ X, XOk Y sc fc X → ∀ H0 G0 G W H τ σ d v τ', Wd H0 G0 G W H → SlOk X.K G W τ σ → Den X.K G d v → setT t d τ = some τ' → ∀ Q : L2.St → Hp → Prop,
    (∀ σ', SlOk X.K G W τ' σ' → (∀ vs, (∀ i ∈ tixs t, i ∈ vs) → wipe σ' vs = wipe σ vs) → Q σ' H) → TUg X tg v σ H Q
def OQ (K : PySem.W.Frag) (H0 G0 G : Hp) (o : Out) (D : Ends) : Prop := match o with
  | .nx τ => ∀ σ G' W' H', Sub G G' → Wd H0 G0 G' W' H' → SlOk K G' W' τ σ → D.nx σ H'
  | .bk τ => ∀ σ G' W' H', Sub G G' → Wd H0 G0 G' W' H' → SlOk K G' W' τ σ → D.bk σ H'
  | .ct τ => ∀ σ G' W' H', Sub G G' → Wd H0 G0 G' W' H' → SlOk K G' W' τ σ → D.ct σ H'
  | .rt d => ∀ v G' W' H', Sub G G' → Wd H0 G0 G' W' H' → Den K G' d v → D.rt v H'
structure SS (s : Stmt) (f : List Sl → Option Out) : Prop where
  run : ∀ X, XOk Y sc fc X → ∀ H0 G0 G W H τ σ o, Wd H0 G0 G W H → SlOk X.K G W τ σ → f τ = some o → ∀ D, OQ X.K H0 G0 G o D → TUs X s D σ H
structure SSs (s : List Stmt) (f : List Sl → Option Out) : Prop where
  run : ∀ X, XOk Y sc fc X → ∀ H0 G0 G W H τ σ o, Wd H0 G0 G W H → SlOk X.K G W τ σ → f τ = some o → ∀ D, OQ X.K H0 G0 G o D → TUss X s D σ H
end

/-! ### syntax -/
def notStar : Expr → Bool
  | .Starred .. => false
  | _ => true
def notComp : Expr → Bool
  | .ListComp .. => false | .SetComp .. => false | .DictComp .. => false
  | _ => true
def notSet : Expr → Bool
  | .Set .. => false
  | _ => true
def notSlice : Expr → Bool
  | .Slice .. => false
  | _ => true
/-- its test is its value's truth -/
def plainTest : Expr → Bool
  | .UnaryOp .. => false | .BoolOp .. => false | .IfExp .. => false | .Compare .. => false
  | _ => true
theorem star_cons {e : Expr} {es : List Expr} {env : Env} (h : notStar e = true) : starEach (e :: es) env = (false, eval e env) :: starEach es env := by
  cases e <;> first | rfl | simp [notStar] at h
theorem star_any {env : Env} {pos : Pos} : ∀ {es : List Expr}, es.all notStar = true → (backTo pos (starEach es env)).any (·.1) = false
  | [], _ => rfl
  | e :: es, h => by
    simp only [List.all_cons, Bool.and_eq_true] at h
    rw [star_cons h.1]
    have := star_any (env := env) (pos := pos) h.2
    simpa [backTo] using this
theorem swaps_no {e : Expr} {t : Option Expr} {l : Nat} {env : Env} (h : notComp e = true) : swapsWith e t l env = pure false := by
  cases e <;> first | rfl | simp [notComp] at h
theorem behind_no {op : CmpOp} {e : Expr} (h : notSet e = true) : behindInMarks op e = false := by
  cases e <;> first | rfl | simp [notSet] at h
theorem folded_no {e : Expr} {env : Env} (h : notSet e = true) (x : Value) : foldedSetIterable e env x = pure x := by
  cases e <;> first | rfl | simp [notSet] at h
theorem plainIx_of {e : Expr} (h : notSlice e = true) : PlainIx e := by
  intro o i
  cases e <;> first | rfl | simp [notSlice] at h
theorem isTrue_of {e : Expr} {env : Env} (h : plainTest e = true) : ∀ whole, isTrue e env whole = (do let v ← whole; standAt e.pos; holding [v] (truthy v)) := by
  intro whole
  cases e <;> first | rfl | simp [plainTest] at h
end Pv

set_option Elab.async false
set_option linter.all false
set_option maxRecDepth 100000
set_option maxHeartbeats 4000000

namespace Pv
open PySem PySem.Spec L2

theorem mkS_len (x : List Nat) : (mkS x).length = x.length := by simp [Str.length]
theorem mkS_app (x y : List Nat) : mkS x ++ mkS y = mkS (x ++ y) := by
  show Str.append _ _ = _
  unfold Str.append
  simp
theorem line_eq : line = sizeLine := sizeLine_eq.symm
theorem le_line {n : Nat} (h : n ≤ line) : n ≤ sizeLine := by rw [← line_eq]; exact h
theorem lt_line {n : Nat} (h : n < line) : n < sizeLine := by rw [← line_eq]; exact h

def opB : BO → Operator
  | .add => .Add | .sub => .Sub | .mul => .Mult | .fdiv => .FloorDiv | .mod => .Mod | .pow => .Pow
def opC : CO → CmpOp
  | .lt => .Lt | .le => .LtE | .gt => .Gt | .ge => .GtE | .eq => .Eq | .ne => .NotEq | .is => .Is | .isnot => .IsNot | .isin => .In | .notin => .NotIn
def CDivA (_ j : Int) : Prop := j ≠ 0 ∧ j.natAbs.log2 < 9000
theorem op_fdivA {X : Cx} : OpR X (binaryOp .FloorDiv) (rI CDivA fun i j => .int (i.fdiv j)) := opI fun i j _ _ _ _ _ hc q => PyProof.Rows.floordiv_int hc.1 q (.inl (PyProof.noPylong_of_log2 hc.2))

section
variable {X : Cx} {K : PySem.W.Frag} {H0 G0 G W H : Hp}
theorem EQ.here {d : D} {Q : VK} {v : V} (q : EQ K H0 G0 G W d Q) (w : Wd H0 G0 G W H) (h : Den K G d v) : Q v H := q v G H (Sub.refl G) w h
theorem EQ.new {d : D} {Q : VK} {o : HO} (q : EQ K H0 G0 G W d Q) (w : Wd H0 G0 G W H) (h : ∀ p, Den K (upd G p o) d (.ref p)) : ∀ p, H p = none → Q (.ref p) (upd H p o) := fun p hp =>
  q _ _ _ (sub_upd (w.gnone hp)) (w.new hp) (h p)

theorem bin_run {o : BO} {x y d : D} {v u : V} {Q : VK} (h : binD o x y = some d) (hx : Den X.K G x v) (hy : Den X.K G y u) (w : Wd H0 G0 G W H) (q : EQ X.K H0 G0 G W d Q) : UOp X (binaryOp (opB o)) v u H Q := by
  unfold binD at h
  split at h
  · simp only [Den] at hx hy
    subst hx hy
    cases h
    exact ⟨_, op_add, _, _, rfl, rfl, q.here w (by simp only [Den])⟩
  · rename_i a b
    simp only [Den] at hx hy
    subst hx hy
    split at h
    · rename_i hl
      cases h
      refine ⟨_, op_add_str, _, _, rfl, rfl, le_line (by rw [mkS_len, mkS_len]; exact hl), q.here w ?_⟩
      simp only [Den]
      rw [mkS_app]
    · cases h
  · rename_i a b
    simp only [Den] at hx hy
    obtain ⟨p, vs, e1, hp, hvs⟩ := hx
    obtain ⟨p', vs', e2, hp', hvs'⟩ := hy
    subst e1 e2
    split at h
    · rename_i hl
      cases h
      refine ⟨_, op_cat, p, p', vs, vs', rfl, rfl, w.gh _ _ hp, w.gh _ _ hp', le_line (by rw [← hvs.length, ← hvs'.length]; exact hl), ?_⟩
      intro z hz
      refine q _ _ _ (sub_upd (w.gnone hz)) (w.new hz) ?_
      simp only [Den]
      exact ⟨z, _, rfl, upd_same, (hvs.append hvs').mono (sub_upd (w.gnone hz))⟩
    · cases h
  · rename_i a b
    simp only [Den] at hx hy
    obtain ⟨p, vs, e1, hp, hvs⟩ := hx
    obtain ⟨p', vs', e2, hp', hvs'⟩ := hy
    subst e1 e2
    split at h
    · rename_i hl
      cases h
      refine ⟨_, op_catA, p, p', vs, vs', rfl, rfl, sub_t w.gh hp, sub_t w.gh hp', le_line (by rw [← hvs.length, ← hvs'.length]; exact hl), fun e => ?_, fun _ e => ?_, fun _ _ z hz => ?_⟩
      · refine q.here w ?_
        subst e
        have : a = [] := List.eq_nil_of_length_eq_zero (by rw [hvs.length]; rfl)
        subst this
        simp only [Den, List.nil_append]
        exact ⟨_, _, rfl, hp', hvs'⟩
      · refine q.here w ?_
        subst e
        have : b = [] := List.eq_nil_of_length_eq_zero (by rw [hvs'.length]; rfl)
        subst this
        simp only [Den, List.append_nil]
        exact ⟨_, _, rfl, hp, hvs⟩
      · refine q _ _ _ (sub_upd (w.gnone hz)) (w.new hz) ?_
        simp only [Den]
        exact ⟨z, _, rfl, SqT.of upd_same, (hvs.append hvs').mono (sub_upd (w.gnone hz))⟩
    · cases h
  · simp only [Den] at hx hy
    subst hx hy
    cases h
    exact ⟨_, op_sub, _, _, rfl, rfl, q.here w (by simp only [Den])⟩
  · simp only [Den] at hx hy
    subst hx hy
    split at h
    · rename_i hl
      cases h
      exact ⟨_, op_mulW, _, _, rfl, rfl, by simpa [mulOk, CMulW] using hl, q.here w (by simp only [Den])⟩
    · cases h
  · simp only [Den] at hx hy
    subst hx hy
    split at h
    · rename_i hl
      cases h
      exact ⟨_, op_fdivA, _, _, rfl, rfl, by simpa [divOk, CDivA] using hl, q.here w (by simp only [Den])⟩
    · cases h
  · simp only [Den] at hx hy
    subst hx hy
    split at h
    · rename_i hl
      cases h
      exact ⟨_, op_modN, _, _, rfl, rfl, hl, q.here w (by simp only [Den])⟩
    · cases h
  · simp only [Den] at hx hy
    subst hx hy
    split at h
    · rename_i hl
      cases h
      refine ⟨_, op_pow, _, _, rfl, rfl, ?_, q.here w (by simp only [Den])⟩
      simpa [powOk, CPow, and_assoc] using hl
    · cases h
  · cases h

/-! ### comparing -/
theorem mkS_eq {x y : List Nat} : (mkS x = mkS y) ↔ x = y := by
  constructor
  · intro h
    have := congrArg (fun s : Str => s.cps.toList) h
    simpa using this
  · intro h; rw [h]
theorem eqb_str (x y : List Nat) : D.eqb (.str x) (.str y) = decide (x = y) := by
  simp only [D.eqb, D.toP, PyData.eqv]
  by_cases e : x = y
  · subst e; simp
  · rw [decide_eq_false e]
    exact beq_eq_false_iff_ne.mpr fun z => e (mkS_eq.mp z)
theorem scal_run {x y : D} {v u : V} (h : scalD x y = true) (hx : Den K G x v) (hy : Den K G y u) : scal v u = true ∧ decide (v = u) = D.eqb x y := by
  cases x <;> cases y <;> first
    | (simp only [Den] at hx hy; subst hx hy; exact ⟨rfl, by first | (simp [D.eqb, D.toP, PyData.eqv]; done) | (rw [eqb_str]; simp) | (rw [dec_int]; rfl) | (rw [dec_bl]; rfl)⟩)
    | (simp [scalD] at h; done)
theorem shp_dp {x : D} {v : V} (h : D.shp x = true) (hx : Den K G x v) (e : Sub G H) : Dp K H v (D.toP x) ∧ SeqAt.shaped (D.toP x) = true := by
  simp only [D.shp, Bool.and_eq_true] at h
  exact ⟨dp_mono e _ (Den.dp x h.1 hx), h.2⟩
theorem flat_run {x : D} {v : V} (h : flatD x = true) (hx : Den K G x v) : flatV v = true := by
  cases x <;> first
    | (simp only [Den] at hx; subst hx; rfl)
    | (simp [flatD] at h; done)
theorem flatL_run : ∀ {xs : List D} {vs : List V}, xs.all flatD = true → DenL K G xs vs → vs.all flatV = true
  | [], _, _, h => by simp only [DenL] at h; subst h; rfl
  | x :: xs, _, f, h => by
    simp only [DenL] at h
    simp only [List.all_cons, Bool.and_eq_true] at f
    obtain ⟨v, r, e, h1, h2⟩ := h
    subst e
    simp only [List.all_cons, Bool.and_eq_true]
    exact ⟨flat_run f.1 h1, flatL_run f.2 h2⟩
theorem eqV_run {y x : D} {u v : V} (hy : Den K G y u) (hx : Den K G x v) (fy : flatD y = true) (fx : flatD x = true) : eqV u v = D.eqb y x := by
  cases y <;> cases x <;> first
    | (simp only [Den] at hx hy; subst hx hy; first | rfl | (rw [eqb_str]; show ((mkS _) == (mkS _)) = _; rw [Bool.eq_iff_iff]; simp [mkS_eq]))
    | (simp [flatD] at fx; done)
    | (simp [flatD] at fy; done)
theorem inV_run {x : D} {v : V} (hx : Den K G x v) (fx : flatD x = true) : ∀ {ys : List D} {us : List V}, ys.all flatD = true → DenL K G ys us → inV v us = ys.any fun y => D.eqb y x
  | [], _, _, h => by simp only [DenL] at h; subst h; rfl
  | y :: ys, _, f, h => by
    simp only [DenL] at h
    simp only [List.all_cons, Bool.and_eq_true] at f
    obtain ⟨u, r, e, h1, h2⟩ := h
    subst e
    have ih := inV_run hx fx f.2 h2
    unfold inV at ih ⊢
    rw [List.any_cons, List.any_cons, ih, eqV_run h1 hx f.1 fx]
theorem eq_run (hu : X.A.units + 64 < cLine) {x y : D} {v u : V} {b : Bool} {Q : VK} (h : eqD x y = some b) (hx : Den X.K G x v) (hy : Den X.K G y u) (e : Sub G H) (q : Q (.bl b) H) : UOp X (compareOp .Eq) v u H Q := by
  unfold eqD at h
  split at h
  · rename_i hs
    cases h
    rw [Bool.or_eq_true, Bool.and_eq_true] at hs
    rcases hs with hs | ⟨h1, h2⟩
    · obtain ⟨a, c⟩ := scal_run hs hx hy
      exact ⟨_, op_eq, a, by rw [c]; exact q⟩
    · obtain ⟨a1, a2⟩ := shp_dp h1 hx e
      obtain ⟨b1, b2⟩ := shp_dp h2 hy e
      exact ⟨_, op_eqD hu, _, _, a1, b1, a2, b2, q⟩
  · cases h
theorem ne_run (hu : X.A.units + 64 < cLine) {x y : D} {v u : V} {b : Bool} {Q : VK} (h : (eqD x y).map not = some b) (hx : Den X.K G x v) (hy : Den X.K G y u) (e : Sub G H) (q : Q (.bl b) H) : UOp X (compareOp .NotEq) v u H Q := by
  unfold eqD at h
  split at h
  · rename_i hs
    cases h
    rw [Bool.or_eq_true, Bool.and_eq_true] at hs
    rcases hs with hs | ⟨h1, h2⟩
    · obtain ⟨a, c⟩ := scal_run hs hx hy
      exact ⟨_, op_ne, a, by rw [c]; exact q⟩
    · obtain ⟨a1, a2⟩ := shp_dp h1 hx e
      obtain ⟨b1, b2⟩ := shp_dp h2 hy e
      exact ⟨_, op_neD hu, _, _, a1, b1, a2, b2, q⟩
  · cases h
theorem is_run {x y : D} {v u : V} {b : Bool} {Q : VK} (h : isD x y = some b) (hx : Den X.K G x v) (hy : Den X.K G y u) (q : Q (.bl b) H) : UOp X (compareOp .Is) v u H Q := by
  unfold isD at h
  split at h <;> first
    | (simp only [Den] at hx hy; subst hx hy; cases h; first
        | exact ⟨_, op_isBl, _, _, rfl, rfl, q⟩
        | exact ⟨_, op_isN, rfl, q⟩)
    | (simp only [Den] at hx hy; obtain ⟨p, vs, e1, hp, hvs⟩ := hx; subst e1 hy; cases h; exact ⟨_, op_isN, rfl, q⟩)
    | cases h
theorem isnot_run {x y : D} {v u : V} {b : Bool} {Q : VK} (h : (isD x y).map not = some b) (hx : Den X.K G x v) (hy : Den X.K G y u) (q : Q (.bl b) H) : UOp X (compareOp .IsNot) v u H Q := by
  unfold isD at h
  split at h <;> first
    | (simp only [Den] at hx hy; subst hx hy; cases h; first
        | exact ⟨_, op_notBl, _, _, rfl, rfl, q⟩
        | exact ⟨_, op_notN, rfl, q⟩)
    | (simp only [Den] at hx hy; obtain ⟨p, vs, e1, hp, hvs⟩ := hx; subst e1 hy; cases h; exact ⟨_, op_notN, rfl, q⟩)
    | cases h
theorem in_run {x y : D} {v u : V} {b : Bool} {Q : VK} (h : isInD x y = some b) (hx : Den X.K G x v) (hy : Den X.K G y u) (e : Sub G H) (q : Q (.bl b) H) : UOp X (compareOp .In) v u H Q := by
  unfold isInD at h
  split at h
  · simp only [Den] at hy
    obtain ⟨p, vs, e1, hp, hvs⟩ := hy
    unfold inD at h
    split at h
    · rename_i hf
      cases h
      rw [Bool.and_eq_true] at hf
      subst e1
      exact ⟨_, op_in_seq, p, vs, rfl, .inl (SqL.of (e _ _ hp)), flat_run hf.1 hx, flatL_run hf.2 hvs, by rw [inV_run hx hf.1 hf.2 hvs]; exact q⟩
    · cases h
  · simp only [Den] at hy
    obtain ⟨p, vs, e1, hp, hvs⟩ := hy
    unfold inD at h
    split at h
    · rename_i hf
      cases h
      rw [Bool.and_eq_true] at hf
      subst e1
      exact ⟨_, op_in_seq, p, vs, rfl, .inr (sub_t e hp), flat_run hf.1 hx, flatL_run hf.2 hvs, by rw [inV_run hx hf.1 hf.2 hvs]; exact q⟩
    · cases h
  · split at h
    · simp only [Den] at hx hy
      subst hx hy
      cases h
      exact ⟨_, op_in_sign, _, _, rfl, rfl, by simpa using q⟩
    · cases h
  · cases h
theorem notin_run {x y : D} {v u : V} {b : Bool} {Q : VK} (h : (isInD x y).map not = some b) (hx : Den X.K G x v) (hy : Den X.K G y u) (e : Sub G H) (q : Q (.bl b) H) : UOp X (compareOp .NotIn) v u H Q := by
  unfold isInD at h
  split at h
  · simp only [Den] at hy
    obtain ⟨p, vs, e1, hp, hvs⟩ := hy
    unfold inD at h
    split at h
    · rename_i hf
      cases h
      rw [Bool.and_eq_true] at hf
      subst e1
      exact ⟨_, op_notIn_seq, p, vs, rfl, .inl (SqL.of (e _ _ hp)), flat_run hf.1 hx, flatL_run hf.2 hvs, by rw [inV_run hx hf.1 hf.2 hvs]; exact q⟩
    · cases h
  · simp only [Den] at hy
    obtain ⟨p, vs, e1, hp, hvs⟩ := hy
    unfold inD at h
    split at h
    · rename_i hf
      cases h
      rw [Bool.and_eq_true] at hf
      subst e1
      exact ⟨_, op_notIn_seq, p, vs, rfl, .inr (sub_t e hp), flat_run hf.1 hx, flatL_run hf.2 hvs, by rw [inV_run hx hf.1 hf.2 hvs]; exact q⟩
    · cases h
  · split at h
    · simp only [Den] at hx hy
      subst hx hy
      cases h
      exact ⟨_, op_notIn_sign, _, _, rfl, rfl, by simpa using q⟩
    · cases h
  · cases h
theorem cmp_run (hu : X.A.units + 64 < cLine) {o : CO} {x y : D} {v u : V} {b : Bool} {Q : VK} (h : cmpD o x y = some b) (hx : Den X.K G x v) (hy : Den X.K G y u) (e : Sub G H) (q : Q (.bl b) H) : UOp X (compareOp (opC o)) v u H Q := by
  unfold cmpD at h
  split at h
  · simp only [Den] at hx hy
    subst hx hy
    cases h
    exact ⟨_, op_lt, _, _, rfl, rfl, q⟩
  · simp only [Den] at hx hy
    subst hx hy
    cases h
    exact ⟨_, op_le, _, _, rfl, rfl, q⟩
  · simp only [Den] at hx hy
    subst hx hy
    cases h
    exact ⟨_, op_gt, _, _, rfl, rfl, q⟩
  · simp only [Den] at hx hy
    subst hx hy
    cases h
    exact ⟨_, op_ge, _, _, rfl, rfl, q⟩
  · exact eq_run hu h hx hy e q
  · exact ne_run hu h hx hy e q
  · exact is_run h hx hy q
  · exact isnot_run h hx hy q
  · exact in_run h hx hy e q
  · exact notin_run h hx hy e q
  · cases h

/-! ### truth, places, slices -/
theorem DenL.isEmpty {xs : List D} {vs : List V} (h : DenL K G xs vs) : vs.isEmpty = xs.isEmpty := by
  cases xs with
  | nil => simp only [DenL] at h; subst h; rfl
  | cons x xs => simp only [DenL] at h; obtain ⟨v, r, e, _⟩ := h; subst e; rfl
theorem tru_run {x : D} {v : V} {b : Bool} (h : truth x = some b) (hx : Den K G x v) (e : Sub G H) : TruV K v H b := by
  unfold truth at h
  split at h
  · simp only [Den] at hx; subst hx; cases h; rfl
  · simp only [Den] at hx; subst hx; cases h; rfl
  · simp only [Den] at hx; subst hx; cases h; rfl
  · rename_i z
    split at h
    · rename_i hl
      simp only [Den] at hx
      subst hx
      cases h
      refine ⟨le_line (by rw [mkS_len]; exact hl), ?_⟩
      rw [mkS_len]
      cases z with
      | nil => rfl
      | cons a r =>
        symm
        simp only [List.isEmpty_cons, Bool.not_false, bne_iff_ne, ne_eq, List.length_cons]
        omega
    · cases h
  · simp only [Den] at hx
    obtain ⟨p, vs, e1, hp, hvs⟩ := hx
    subst e1
    cases h
    exact .inl ⟨vs, SqL.of (e _ _ hp), by rw [hvs.isEmpty]⟩
  · simp only [Den] at hx
    obtain ⟨p, vs, e1, hp, hvs⟩ := hx
    subst e1
    cases h
    exact .inr (.inl ⟨vs, sub_t e hp, by rw [hvs.isEmpty]⟩)
  · cases h
theorem atI_den {xs : List D} {vs : List V} {i : Int} {d : D} (h : DenL K G xs vs) (e : atI xs i = some d) : ∃ v, atI vs i = some v ∧ Den K G d v := by
  unfold atI at e ⊢
  rw [← h.length]
  cases hx : ixN xs.length i with
  | none => rw [hx] at e; cases e
  | some j =>
    rw [hx] at e
    exact h.get (show xs[j]? = some d from e)
theorem atI_map {α β : Type} (f : α → β) (xs : List α) (i : Int) : atI (xs.map f) i = (atI xs i).map f := by
  unfold atI
  rw [List.length_map]
  cases ixN xs.length i with
  | none => rfl
  | some j => simp [Option.bind]
theorem ix_run {x y d : D} {v u : V} {Q : VK} (h : ixD x y = some d) (hx : Den X.K G x v) (hy : Den X.K G y u) (w : Wd H0 G0 G W H) (q : EQ X.K H0 G0 G W d Q) : UIx X v u H Q := by
  unfold ixD at h
  split at h
  · simp only [Den] at hx hy
    obtain ⟨p, vs, e1, hp, hvs⟩ := hx
    subst e1 hy
    obtain ⟨z, hz, dz⟩ := atI_den hvs h
    exact ⟨_, ix_list, p, vs, _, z, rfl, rfl, SqL.of (w.gh _ _ hp), hz, q.here w dz⟩
  · rename_i ns i
    simp only [Den] at hx hy
    obtain ⟨p, e1, hp⟩ := hx
    subst e1 hy
    cases hz : atI ns i with
    | none => rw [hz] at h; cases h
    | some n =>
      rw [hz] at h
      cases h
      exact ⟨_, ix_list, p, _, _, .int n, rfl, rfl, sub_l w.gh hp, by rw [atI_map, hz]; rfl, q.here w (by simp only [Den])⟩
  · simp only [Den] at hx hy
    obtain ⟨p, vs, e1, hp, hvs⟩ := hx
    subst e1 hy
    obtain ⟨z, hz, dz⟩ := atI_den hvs h
    exact ⟨_, ix_tup, p, vs, _, z, rfl, rfl, sub_t w.gh hp, hz, q.here w dz⟩
  · rename_i z i
    split at h
    · rename_i hl
      simp only [Den] at hx hy
      subst hx hy
      cases hz : atI z i with
      | none => rw [hz] at h; cases h
      | some c =>
        rw [hz] at h
        cases h
        exact ⟨_, ix_str, mkS z, i, c, rfl, rfl, le_line (by rw [mkS_len]; exact hl), by simpa using hz, q.here w (by simp only [Den])⟩
    · cases h
  · cases h
theorem cutV_den {xs : List D} {vs : List V} {lo hi : Option Int} (h : DenL K G xs vs) : DenL K G (cutD xs lo hi) (cutV vs lo hi) := by
  unfold cutD cutV
  rw [h.length]
  exact (h.drop _).take _
theorem cut_whole {α : Type} {xs : List α} {lo hi : Option Int} (h : HT.sIx xs.length 0 lo = 0 ∧ HT.sIx xs.length xs.length hi = xs.length) : cutD xs lo hi = xs := by
  unfold cutD
  rw [h.1, h.2]
  simp
theorem sl_run {lo hi : Option Int} {x d : D} {v : V} {Q : VK} (h : slD lo hi x = some d) (hx : Den X.K G x v) (w : Wd H0 G0 G W H) (q : EQ X.K H0 G0 G W d Q) : USl X v lo hi H Q := by
  unfold slD at h
  split at h
  · simp only [Den] at hx
    obtain ⟨p, vs, e1, hp, hvs⟩ := hx
    subst e1
    cases h
    refine ⟨_, sl_list, p, vs, rfl, SqL.of (w.gh _ _ hp), fun z hz => q _ _ _ (sub_upd (w.gnone hz)) (w.new hz) ?_⟩
    simp only [Den]
    exact ⟨z, _, rfl, upd_same, (cutV_den hvs).mono (sub_upd (w.gnone hz))⟩
  · simp only [Den] at hx
    obtain ⟨p, vs, e1, hp, hvs⟩ := hx
    subst e1
    cases h
    refine ⟨_, sl_tupA, p, vs, rfl, sub_t w.gh hp, fun hw => q.here w ?_, fun _ z hz => q _ _ _ (sub_upd (w.gnone hz)) (w.new hz) ?_⟩
    · rw [← hvs.length] at hw
      rw [cut_whole hw]
      simp only [Den]
      exact ⟨_, _, rfl, hp, hvs⟩
    · simp only [Den]
      exact ⟨z, _, rfl, SqT.of upd_same, (cutV_den hvs).mono (sub_upd (w.gnone hz))⟩
  · rename_i z
    split at h
    · rename_i hl
      simp only [Den] at hx
      subst hx
      cases h
      refine ⟨_, sl_str, mkS z, rfl, le_line (by rw [mkS_len]; exact hl), q.here w ?_⟩
      simp only [Den]
      congr 1
    · cases h
  · cases h
end
end Pv

set_option Elab.async false
set_option linter.all false
set_option maxRecDepth 100000
set_option maxHeartbeats 4000000

namespace Pv
open PySem PySem.Spec L2

theorem bnd {α β : Type} {o : Option α} {f : α → Option β} {b : β} (h : o.bind f = some b) : ∃ a, o = some a ∧ f a = some b := by
  cases o with
  | none => cases h
  | some a => exact ⟨a, rfl, h⟩
theorem mpd {α β : Type} {o : Option α} {f : α → β} {b : β} (h : o.map f = some b) : ∃ a, o = some a ∧ f a = b := by
  cases o with
  | none => cases h
  | some a => exact ⟨a, rfl, Option.some.inj h⟩

/-! ### built-in functions -/
def nmF : BF → Str
  | .len => "len" | .int => "int" | .abs => "abs" | .max => "max" | .min => "min" | .gcd => "gcd" | .tuple => "tuple" | .list => "list" | .sum => "sum" | .str => "str"
def tyF : BF → Option String
  | .int => some "int" | .tuple => some "tuple" | .list => some "list" | .str => some "str" | _ => none
def idF : BF → String
  | .len => "len" | .abs => "abs" | .max => "max" | .min => "min" | .sum => "sum" | .gcd => "math.gcd" | _ => ""
def valF (f : BF) : Value := match tyF f with | some t => .type t | none => .builtin (idF f)
theorem bootF {f : BF} (h : f ≠ .gcd) : bootBuiltins (nmF f) = some (valF f) := by
  cases f <;> first | exact absurd rfl h | decide +kernel
theorem nameF {f : BF} (h : f ≠ .gcd) : nmF f ≠ "__name__" ∧ (nmF f == ("__debug__" : Str)) = false := by
  cases f <;> first | exact absurd rfl h | (constructor <;> decide +kernel)
def nmT : Ty → Str
  | .int => "int" | .bool => "bool" | .str => "str" | .tuple => "tuple" | .list => "list" | .dict => "dict"
def sT : Ty → String
  | .int => "int" | .bool => "bool" | .str => "str" | .tuple => "tuple" | .list => "list" | .dict => "dict"
theorem bootT (t : Ty) : bootBuiltins (nmT t) = some (.type (sT t)) := by cases t <;> decide +kernel
theorem nameT (t : Ty) : nmT t ≠ "__name__" ∧ (nmT t == ("__debug__" : Str)) = false := by cases t <;> (constructor <;> decide +kernel)

section
variable {X : Cx} {K : PySem.W.Frag} {H0 G0 G W H : Hp}
theorem ints_den {ns : List Int} : ∀ {xs : List D} {vs : List V}, allInts xs = some ns → DenL K G xs vs → vs = ns.map V.int := by
  induction ns with
  | nil =>
    intro xs vs h hd
    cases xs with
    | nil => simp only [DenL] at hd; subst hd; rfl
    | cons x r => cases x <;> first | (simp [allInts] at h; done) | skip
  | cons n ns ih =>
    intro xs vs h hd
    cases xs with
    | nil => simp [allInts] at h
    | cons x r =>
      cases x <;> first | (simp [allInts] at h; done) | skip
      rename_i i
      simp only [allInts] at h
      obtain ⟨a, h1, h2⟩ := mpd h
      cases h2
      simp only [DenL, Den] at hd
      obtain ⟨v, r', e, e1, e2⟩ := hd
      subst e e1
      rw [ih h1 e2]
      rfl
theorem den1 {x : D} {vs : List V} (h : DenL K G [x] vs) : ∃ v, vs = [v] ∧ Den K G x v := by
  simp only [DenL] at h
  obtain ⟨v, r, e, h1, h2⟩ := h
  subst h2
  exact ⟨v, e, h1⟩
theorem den2 {x y : D} {vs : List V} (h : DenL K G [x, y] vs) : ∃ v u, vs = [v, u] ∧ Den K G x v ∧ Den K G y u := by
  simp only [DenL] at h
  obtain ⟨v, r, e, h1, u, r', e', h2, h3⟩ := h
  subst h3 e'
  exact ⟨v, u, e, h1, h2⟩
theorem blt_run (hc : X.calm = true) {f : BF} {ds : List D} {d : D} {vs : List V} {Q : VK} (h : bltD f ds = some d) (hx : DenL X.K G ds vs) (w : Wd H0 G0 G W H) (q : EQ X.K H0 G0 G W d Q) : UCall X (valF f) vs H Q := by
  unfold bltD at h
  split at h
  · obtain ⟨v, rfl, hv⟩ := den1 hx
    simp only [Den] at hv
    obtain ⟨p, us, rfl, hp, hu⟩ := hv
    cases h
    exact ⟨_, call_len_seq, p, us, rfl, .inl (SqL.of (w.gh _ _ hp)), q.here w (by simp only [Den]; rw [hu.length])⟩
  · obtain ⟨v, rfl, hv⟩ := den1 hx
    simp only [Den] at hv
    obtain ⟨p, us, rfl, hp, hu⟩ := hv
    cases h
    exact ⟨_, call_len_seq, p, us, rfl, .inr (sub_t w.gh hp), q.here w (by simp only [Den]; rw [hu.length])⟩
  · obtain ⟨v, rfl, hv⟩ := den1 hx
    simp only [Den] at hv
    obtain ⟨p, rfl, hp⟩ := hv
    cases h
    exact ⟨_, call_len_seq, p, _, rfl, .inl (sub_l w.gh hp), q.here w (by simp only [Den]; rw [List.length_map])⟩
  · obtain ⟨v, rfl, hv⟩ := den1 hx
    simp only [Den] at hv
    subst hv
    split at h
    · rename_i hl
      cases h
      exact ⟨_, call_len_str, _, rfl, le_line (by rw [mkS_len]; exact hl), q.here w (by simp only [Den]; rw [mkS_len])⟩
    · cases h
  · obtain ⟨v, rfl, hv⟩ := den1 hx
    simp only [Den] at hv
    subst hv
    cases h
    exact ⟨_, call_int1, .inl ⟨_, rfl, q.here w (by simp only [Den])⟩⟩
  · obtain ⟨v, rfl, hv⟩ := den1 hx
    simp only [Den] at hv
    subst hv
    cases h
    exact ⟨_, call_int1, .inr ⟨_, rfl, q.here w (by simp only [Den])⟩⟩
  · obtain ⟨v, rfl, hv⟩ := den1 hx
    simp only [Den] at hv
    subst hv
    cases h
    exact ⟨_, call_abs, _, rfl, q.here w (by simp only [Den])⟩
  · obtain ⟨v, u, rfl, hv, hu⟩ := den2 hx
    simp only [Den] at hv hu
    subst hv hu
    cases h
    exact ⟨_, call_max2 hc, _, _, rfl, q.here w (by simp only [Den])⟩
  · obtain ⟨v, u, rfl, hv, hu⟩ := den2 hx
    simp only [Den] at hv hu
    subst hv hu
    cases h
    exact ⟨_, call_min2 hc, _, _, rfl, q.here w (by simp only [Den])⟩
  · obtain ⟨v, u, rfl, hv, hu⟩ := den2 hx
    simp only [Den] at hv hu
    subst hv hu
    cases h
    exact ⟨_, cr_gcd, _, _, rfl, q.here w (by simp only [Den])⟩
  · obtain ⟨v, rfl, hv⟩ := den1 hx
    simp only [Den] at hv
    obtain ⟨p, us, rfl, hp, hu⟩ := hv
    cases h
    refine ⟨_, call_tuple_of, p, us, rfl, .inl ⟨SqL.of (w.gh _ _ hp), fun z hz => q _ _ _ (sub_upd (w.gnone hz)) (w.new hz) ?_⟩⟩
    simp only [Den]
    exact ⟨z, _, rfl, SqT.of upd_same, hu.mono (sub_upd (w.gnone hz))⟩
  · obtain ⟨v, rfl, hv⟩ := den1 hx
    cases h
    have hv' := hv
    simp only [Den] at hv'
    obtain ⟨p, us, rfl, hp, hu⟩ := hv'
    exact ⟨_, call_tuple_of, p, us, rfl, .inr ⟨sub_t w.gh hp, q.here w hv⟩⟩
  · obtain ⟨v, rfl, hv⟩ := den1 hx
    simp only [Den] at hv
    obtain ⟨p, us, rfl, hp, hu⟩ := hv
    cases h
    refine ⟨_, call_list_of, p, us, rfl, .inl (SqL.of (w.gh _ _ hp)), fun z hz => q _ _ _ (sub_upd (w.gnone hz)) (w.new hz) ?_⟩
    simp only [Den]
    exact ⟨z, _, rfl, upd_same, hu.mono (sub_upd (w.gnone hz))⟩
  · obtain ⟨v, rfl, hv⟩ := den1 hx
    simp only [Den] at hv
    obtain ⟨p, us, rfl, hp, hu⟩ := hv
    cases h
    refine ⟨_, call_list_of, p, us, rfl, .inr (sub_t w.gh hp), fun z hz => q _ _ _ (sub_upd (w.gnone hz)) (w.new hz) ?_⟩
    simp only [Den]
    exact ⟨z, _, rfl, upd_same, hu.mono (sub_upd (w.gnone hz))⟩
  · obtain ⟨v, rfl, hv⟩ := den1 hx
    simp only [Den] at hv
    obtain ⟨p, us, rfl, hp, hu⟩ := hv
    obtain ⟨ns, hns, rfl⟩ := mpd h
    have e := ints_den hns hu
    subst e
    exact ⟨_, cr_sum hc, p, ns, rfl, SqL.of (w.gh _ _ hp), q.here w (by simp only [Den])⟩
  · cases h

/-! ### isinstance -/
def isiN (n t : Ty) : Bool := match n, t with
  | .int, .int => true | .bool, .int => true | .bool, .bool => true | .str, .str => true | .tuple, .tuple => true | .list, .list => true | .dict, .dict => true | _, _ => false
theorem kit0 (n t : Ty) : kitB (sT n) (sT t) = some (isiN n t) := by cases n <;> cases t <;> decide +kernel
theorem kit1 (x : D) (t : Ty) {n : Ty} (h : tyD x = some n) : kitB (sT n) (sT t) = some (isi1 x t) := by
  rw [kit0]
  cases x <;> simp [tyD] at h <;> subst h <;> cases t <;> rfl
theorem kitN {t : Ty} : kitB "NoneType" (sT t) = some false := by cases t <;> decide +kernel
theorem tupX {G : Hp} {a : Addr} {vs : List V} (h : SqT X.K G a vs) : TyX X.K G (.ref a) (.type "tuple") := by
  rcases h with (h | ⟨o, h⟩) | ⟨o, its, n, h1, h2, _⟩
  · exact .base (.tup h)
  · exact .fTuple h
  · exact .kTuple h1 h2
theorem isi_ty {x : D} {v : V} (hi : isIns x = false) (hx : Den X.K G x v) (e : Sub G H) : ∃ s, TyX X.K H v (.type s) ∧ ∀ t : Ty, PySem.W.kitOne X.K (.type s) (.type (sT t)) = some (isi1 x t) := by
  cases x with
  | non => simp only [Den] at hx; subst hx; exact ⟨_, .base .non, fun t => kit_ty (by rw [kitN]; cases t <;> rfl)⟩
  | bl b => simp only [Den] at hx; subst hx; exact ⟨_, .base (.bl _), fun t => kit_ty (kit1 (.bl b) t (n := .bool) rfl)⟩
  | int b => simp only [Den] at hx; subst hx; exact ⟨_, .base (.int _), fun t => kit_ty (kit1 (.int b) t (n := .int) rfl)⟩
  | str b => simp only [Den] at hx; subst hx; exact ⟨_, .base (.str _), fun t => kit_ty (kit1 (.str b) t (n := .str) rfl)⟩
  | lst b =>
    simp only [Den] at hx
    obtain ⟨p, us, rfl, hp, hu⟩ := hx
    exact ⟨_, .base (.lst (e _ _ hp)), fun t => kit_ty (kit1 (.lst b) t (n := .list) rfl)⟩
  | tup b =>
    simp only [Den] at hx
    obtain ⟨p, us, rfl, hp, hu⟩ := hx
    exact ⟨_, tupX (sub_t e hp), fun t => kit_ty (kit1 (.tup b) t (n := .tuple) rfl)⟩
  | dct a b =>
    simp only [Den] at hx
    obtain ⟨p, us, rfl, hp, hu⟩ := hx
    exact ⟨_, .base (.dK (e _ _ hp)), fun t => kit_ty (kit1 (.dct a b) t (n := .dict) rfl)⟩
  | ins a b => simp [isIns] at hi
  | scr a => simp [isIns] at hi
theorem kitAll {K : PySem.W.Frag} {s : String} {x : D} (h : ∀ t : Ty, PySem.W.kitOne K (.type s) (.type (sT t)) = some (isi1 x t)) : ∀ ts : List Ty, PySem.W.kitAny K (.type s) (ts.map fun t => Value.type (sT t)) = some (ts.any (isi1 x))
  | [] => kitAny_nil
  | t :: ts => by
    refine kitAny_cons (h t) (fun hb => ?_) (fun hb => ?_)
    · rw [List.any_cons, hb, Bool.false_or]; exact kitAll h ts
    · rw [List.any_cons, hb, Bool.true_or]
end

section
variable {Y : Stat} {sc : Scope} {fc : Str → Bool} {pos p p1 p2 : Pos}

/-! ### names, constants -/
theorem getV_some {τ : List Sl} {i : Nat} {d : D} (h : getV τ i = some d) : τ[i]? = some (.v d) := by
  unfold getV at h
  split at h
  · rename_i e; cases h; exact e
  · cases h
theorem getO_some {τ : List Sl} {i : Nat} {ds : List D} (h : getO τ i = some ds) : τ[i]? = some (.o ds) := by
  unfold getO at h
  split at h
  · rename_i e; cases h; exact e
  · cases h
theorem se_var {i : Nat} {x : Str} (hN : Y.N[i]? = some x) (hv : Vis sc x) (hd : (x == ("__debug__" : Str)) = false) (hcd : (x == ("__classdict__" : Str)) = false) : SE Y sc fc (.Name x pos) (fun τ => getV τ i) := by
  refine ⟨fun X ok H0 G0 G W H τ σ d w s h Q q => ?_⟩
  obtain ⟨v, hv', dv⟩ := s.val i d (getV_some h)
  exact ⟨_, pe_var (by rw [ok.eN]; exact hN) (ok.vis hv) hd hcd, v, hv', q.here w dv⟩
theorem se_glob {k : Nat} {x : Str} (hk : (k, x) ∈ Y.cns) (hg : sc.names.lookup x = some .globalImplicit) (hd : (x == ("__debug__" : Str)) = false) : SE Y sc fc (.Name x pos) (fun _ => Y.Z.C k) := by
  refine ⟨fun X ok H0 G0 G W H τ σ d w s h Q q => ?_⟩
  obtain ⟨u, v, d', hm, r, hc, dv⟩ := ok.cns k x hk
  rw [hc] at h
  cases h
  exact ⟨_, pe_glob (ok.gl hg) hm r hd, q.here w (dv G)⟩
theorem se_int {n : Int} {j : Nat} : SE Y sc fc (.Constant (.int n) j pos) (fun _ => some (.int n)) :=
  ⟨fun X ok H0 G0 G W H τ σ d w s h Q q => by cases h; exact ⟨_, pe_int, q.here w (by simp only [Den])⟩⟩
theorem se_bl {n : Bool} {j : Nat} : SE Y sc fc (.Constant (.bool n) j pos) (fun _ => some (.bl n)) :=
  ⟨fun X ok H0 G0 G W H τ σ d w s h Q q => by cases h; exact ⟨_, pe_bl, q.here w (by simp only [Den])⟩⟩
theorem se_non {j : Nat} : SE Y sc fc (.Constant .none j pos) (fun _ => some .non) :=
  ⟨fun X ok H0 G0 G W H τ σ d w s h Q q => by cases h; exact ⟨_, pe_non, q.here w (by simp only [Den])⟩⟩
theorem se_str {x : List Nat} {j : Nat} : SE Y sc fc (.Constant (.str (mkS x)) j pos) (fun _ => some (.str x)) :=
  ⟨fun X ok H0 G0 G W H τ σ d w s h Q q => by cases h; exact ⟨_, pe_str, q.here w (by simp only [Den])⟩⟩

/-! ### operators -/
variable {a b c : Expr} {fa fb fd : List Sl → Option D}
theorem se_bin {o : BO} (ha : SE Y sc fc a fa) (hb : SE Y sc fc b fb) : SE Y sc fc (.BinOp a (opB o) b pos) (fun τ => (fa τ).bind fun x => (fb τ).bind fun y => binD o x y) := by
  refine ⟨fun X ok H0 G0 G W H τ σ d w s h Q q => ?_⟩
  obtain ⟨x, hx, h⟩ := bnd h
  obtain ⟨y, hy, h⟩ := bnd h
  refine ⟨_, pe_op opR_u pe_tu pe_tu, ?_⟩
  refine ha.run X ok _ _ _ _ _ _ _ _ w s hx _ fun v G1 H1 e1 w1 dv => ?_
  refine hb.run X ok _ _ _ _ _ _ _ _ w1 (s.mono e1) hy _ fun u G2 H2 e2 w2 du => ?_
  exact bin_run h (dv.mono e2) du w2 fun z G' H' e' w' dz => q z G' H' ((e1.trans e2).trans e') w' dz
theorem se_neg (ha : SE Y sc fc a fa) : SE Y sc fc (.UnaryOp .USub a pos) (fun τ => (fa τ).bind fun x => (intD x).map fun i => .int (-i)) := by
  refine ⟨fun X ok H0 G0 G W H τ σ d w s h Q q => ?_⟩
  obtain ⟨x, hx, h⟩ := bnd h
  refine ⟨_, pe_un un_neg pe_tu, ?_⟩
  refine ha.run X ok _ _ _ _ _ _ _ _ w s hx _ fun v G1 H1 e1 w1 dv => ?_
  cases x <;> simp only [intD] at h <;> try cases h
  simp only [Den] at dv
  exact ⟨_, dv, q _ _ _ e1 w1 (by simp only [Den])⟩
theorem se_cmp {o : CO} (ha : SE Y sc fc a fa) (hb : SE Y sc fc b fb) (hs : notSet b = true) : SE Y sc fc (.Compare a [opC o] [b] pos) (fun τ => (fa τ).bind fun x => (fb τ).bind fun y => (cmpD o x y).map .bl) := by
  refine ⟨fun X ok H0 G0 G W H τ σ d w s h Q q => ?_⟩
  obtain ⟨x, hx, h⟩ := bnd h
  obtain ⟨y, hy, h⟩ := bnd h
  obtain ⟨k, hk, rfl⟩ := mpd h
  refine ⟨_, pe_cmpR opR_u pe_tu pe_tu (behind_no hs), ?_⟩
  refine ha.run X ok _ _ _ _ _ _ _ _ w s hx _ fun v G1 H1 e1 w1 dv => ?_
  refine hb.run X ok _ _ _ _ _ _ _ _ w1 (s.mono e1) hy _ fun u G2 H2 e2 w2 du => ?_
  exact cmp_run ok.room.units hk (dv.mono e2) du w2.gh (q _ _ _ (e1.trans e2) w2 (by simp only [Den]))
theorem st_cmp {o : CO} (ha : SE Y sc fc a fa) (hb : SE Y sc fc b fb) (hs : notSet b = true) : ST Y sc fc (.Compare a [opC o] [b] pos) (fun τ => (fa τ).bind fun x => (fb τ).bind fun y => cmpD o x y) := by
  refine ⟨fun X ok H0 G0 G W H τ σ d w s h Q q => ?_⟩
  obtain ⟨x, hx, h⟩ := bnd h
  obtain ⟨y, hy, hk⟩ := bnd h
  refine ⟨_, pt_cmpR opR_u pe_tu pe_tu (behind_no hs), ?_⟩
  refine ha.run X ok _ _ _ _ _ _ _ _ w s hx _ fun v G1 H1 e1 w1 dv => ?_
  refine hb.run X ok _ _ _ _ _ _ _ _ w1 (s.mono e1) hy _ fun u G2 H2 e2 w2 du => ?_
  exact cmp_run ok.room.units hk (dv.mono e2) du w2.gh ⟨_, rfl, q _ _ (e1.trans e2) w2⟩
theorem last_no {o p : CmpOp} {b c : Expr} (h : notSet c = true) : lastMarks [o, p] [b, c] = false := by
  show behindInMarks p c = false
  exact behind_no h
theorem se_chain {o r : CO} (ha : SE Y sc fc a fa) (hb : SE Y sc fc b fb) (hc : SE Y sc fc c fd) (hs : notSet c = true) : SE Y sc fc (.Compare a [opC o, opC r] [b, c] pos)
    (fun τ => (fa τ).bind fun x => (fb τ).bind fun y => (cmpD o x y).bind fun k => bif k then (fd τ).bind fun z => (cmpD r y z).map .bl else some (.bl false)) := by
  refine ⟨fun X ok H0 G0 G W H τ σ d w s h Q q => ?_⟩
  obtain ⟨x, hx, h⟩ := bnd h
  obtain ⟨y, hy, h⟩ := bnd h
  obtain ⟨k, hk, h⟩ := bnd h
  refine ⟨_, pe_chain opR_u opR_u pe_tu pe_tu pe_tu (last_no hs), ?_⟩
  refine ha.run X ok _ _ _ _ _ _ _ _ w s hx _ fun v G1 H1 e1 w1 dv => ?_
  refine hb.run X ok _ _ _ _ _ _ _ _ w1 (s.mono e1) hy _ fun u G2 H2 e2 w2 du => ?_
  refine cmp_run ok.room.units hk (dv.mono e2) du w2.gh ⟨_, rfl, ?_⟩
  cases k with
  | false => cases h; exact iteF (q _ _ _ (e1.trans e2) w2 (by simp only [Den]))
  | true =>
    obtain ⟨z, hz, h⟩ := bnd h
    obtain ⟨m, hm, rfl⟩ := mpd h
    refine iteT ?_
    refine hc.run X ok _ _ _ _ _ _ _ _ w2 (s.mono (e1.trans e2)) hz _ fun z' G3 H3 e3 w3 dz => ?_
    exact cmp_run ok.room.units hm (du.mono e3) dz w3.gh (q _ _ _ ((e1.trans e2).trans e3) w3 (by simp only [Den]))
theorem st_chain {o r : CO} (ha : SE Y sc fc a fa) (hb : SE Y sc fc b fb) (hc : SE Y sc fc c fd) (hs : notSet c = true) : ST Y sc fc (.Compare a [opC o, opC r] [b, c] pos)
    (fun τ => (fa τ).bind fun x => (fb τ).bind fun y => (cmpD o x y).bind fun k => bif k then (fd τ).bind fun z => cmpD r y z else some false) := by
  refine ⟨fun X ok H0 G0 G W H τ σ d w s h Q q => ?_⟩
  obtain ⟨x, hx, h⟩ := bnd h
  obtain ⟨y, hy, h⟩ := bnd h
  obtain ⟨k, hk, h⟩ := bnd h
  refine ⟨_, pt_chain opR_u opR_u pe_tu pe_tu pe_tu (last_no hs), ?_⟩
  refine ha.run X ok _ _ _ _ _ _ _ _ w s hx _ fun v G1 H1 e1 w1 dv => ?_
  refine hb.run X ok _ _ _ _ _ _ _ _ w1 (s.mono e1) hy _ fun u G2 H2 e2 w2 du => ?_
  refine cmp_run ok.room.units hk (dv.mono e2) du w2.gh ⟨_, rfl, ?_⟩
  cases k with
  | false => cases h; exact iteF ⟨_, rfl, q _ _ (e1.trans e2) w2⟩
  | true =>
    obtain ⟨z, hz, hm⟩ := bnd h
    refine iteT ?_
    refine hc.run X ok _ _ _ _ _ _ _ _ w2 (s.mono (e1.trans e2)) hz _ fun z' G3 H3 e3 w3 dz => ?_
    exact cmp_run ok.room.units hm (du.mono e3) dz w3.gh ⟨_, rfl, q _ _ ((e1.trans e2).trans e3) w3⟩

/-! ### truth -/
theorem st_of (ha : SE Y sc fc a fa) (hp : plainTest a = true) : ST Y sc fc a (fun τ => (fa τ).bind truth) := by
  refine ⟨fun X ok H0 G0 G W H τ σ d w s h Q q => ?_⟩
  obtain ⟨x, hx, h⟩ := bnd h
  refine ⟨_, pt_truth pe_tu (isTrue_of hp), ?_⟩
  refine ha.run X ok _ _ _ _ _ _ _ _ w s hx _ fun v G1 H1 e1 w1 dv => ?_
  exact ⟨_, tru_run h dv w1.gh, q _ _ e1 w1⟩
theorem ST.imp {f g : List Sl → Option Bool} (h : ST Y sc fc a f) (e : ∀ τ b, g τ = some b → f τ = some b) : ST Y sc fc a g :=
  ⟨fun X ok H0 G0 G W H τ σ b w s hg Q q => h.run X ok H0 G0 G W H τ σ b w s (e τ b hg) Q q⟩
theorem SE.imp {f g : List Sl → Option D} (h : SE Y sc fc a f) (e : ∀ τ b, g τ = some b → f τ = some b) : SE Y sc fc a g :=
  ⟨fun X ok H0 G0 G W H τ σ b w s hg Q q => h.run X ok H0 G0 G W H τ σ b w s (e τ b hg) Q q⟩
variable {es : List Expr} {ga gb : List Sl → Option Bool}
theorem st_not (ha : ST Y sc fc a ga) : ST Y sc fc (.UnaryOp .Not a pos) (fun τ => (ga τ).map not) := by
  refine ⟨fun X ok H0 G0 G W H τ σ d w s h Q q => ?_⟩
  obtain ⟨x, hx, rfl⟩ := mpd h
  exact ⟨_, pt_not pt_tu, ha.run X ok _ _ _ _ _ _ _ _ w s hx _ fun G1 H1 e1 w1 => q _ _ e1 w1⟩
theorem se_not (ha : SE Y sc fc a fa) : SE Y sc fc (.UnaryOp .Not a pos) (fun τ => ((fa τ).bind truth).map fun b => .bl (!b)) := by
  refine ⟨fun X ok H0 G0 G W H τ σ d w s h Q q => ?_⟩
  obtain ⟨x, hx, rfl⟩ := mpd h
  obtain ⟨y, hy, hx⟩ := bnd hx
  refine ⟨_, pe_notT pe_tu, ?_⟩
  refine ha.run X ok _ _ _ _ _ _ _ _ w s hy _ fun v G1 H1 e1 w1 dv => ?_
  exact ⟨x, tru_run hx dv w1.gh, q _ _ _ e1 w1 (by simp only [Den])⟩
/-- and, or: as values and as tests -/
theorem blD_some {d : D} {b : Bool} (h : blD d = some b) : d = .bl b := by
  cases d <;> simp [blD] at h
  subst h; rfl
theorem se_one {op : BoolOp} (ha : SE Y sc fc a fa) : SE Y sc fc (.BoolOp op [a] pos) fa := by
  refine ⟨fun X ok H0 G0 G W H τ σ d w s h Q q => ⟨_, pe_one pe_tu, ha.run X ok _ _ _ _ _ _ _ _ w s h _ q⟩⟩
theorem se_and (ha : SE Y sc fc a fa) (hb : SE Y sc fc (.BoolOp .And (b :: es) pos) fb) : SE Y sc fc (.BoolOp .And (a :: b :: es) pos) (fun τ => ((fa τ).bind blD).bind fun k => bif k then fb τ else some (.bl false)) := by
  refine ⟨fun X ok H0 G0 G W H τ σ d w s h Q q => ?_⟩
  obtain ⟨k, hk, h⟩ := bnd h
  obtain ⟨x, hx, hk⟩ := bnd hk
  have := blD_some hk
  subst this
  refine ⟨_, pe_and pe_tu pe_tu, ?_⟩
  refine ha.run X ok _ _ _ _ _ _ _ _ w s hx _ fun v G1 H1 e1 w1 dv => ?_
  simp only [Den] at dv
  refine ⟨k, dv, ?_⟩
  cases k with
  | true => exact iteT (hb.run X ok _ _ _ _ _ _ _ _ w1 (s.mono e1) h _ fun v G2 H2 e2 w2 dv => q _ _ _ (e1.trans e2) w2 dv)
  | false => cases h; exact iteF (q _ _ _ e1 w1 (by simp only [Den]))
theorem se_or (ha : SE Y sc fc a fa) (hb : SE Y sc fc (.BoolOp .Or (b :: es) pos) fb) : SE Y sc fc (.BoolOp .Or (a :: b :: es) pos) (fun τ => ((fa τ).bind blD).bind fun k => bif k then some (.bl true) else fb τ) := by
  refine ⟨fun X ok H0 G0 G W H τ σ d w s h Q q => ?_⟩
  obtain ⟨k, hk, h⟩ := bnd h
  obtain ⟨x, hx, hk⟩ := bnd hk
  have := blD_some hk
  subst this
  refine ⟨_, pe_or pe_tu pe_tu, ?_⟩
  refine ha.run X ok _ _ _ _ _ _ _ _ w s hx _ fun v G1 H1 e1 w1 dv => ?_
  simp only [Den] at dv
  refine ⟨k, dv, ?_⟩
  cases k with
  | true => cases h; exact iteT (q _ _ _ e1 w1 (by simp only [Den]))
  | false => exact iteF (hb.run X ok _ _ _ _ _ _ _ _ w1 (s.mono e1) h _ fun v G2 H2 e2 w2 dv => q _ _ _ (e1.trans e2) w2 dv)
theorem SW.st {f : List Sl → Option Bool} (h : SW Y sc fc a f) : ST Y sc fc a f :=
  ⟨fun X ok H0 G0 G W H τ σ b w s hg Q q => by
    obtain ⟨t, p, r⟩ := h.run X ok H0 G0 G W H τ σ b w s hg Q q
    exact ⟨t, p.pt, r⟩⟩
theorem sw_and1 (ha : ST Y sc fc a ga) : SW Y sc fc (.BoolOp .And [a] pos) ga :=
  ⟨fun X ok H0 G0 G W H τ σ b w s h Q q => ⟨_, pw_and1 pt_tu, ha.run X ok _ _ _ _ _ _ _ _ w s h _ q⟩⟩
theorem sw_or1 (ha : ST Y sc fc a ga) : SW Y sc fc (.BoolOp .Or [a] pos) ga :=
  ⟨fun X ok H0 G0 G W H τ σ b w s h Q q => ⟨_, pw_or1 pt_tu, ha.run X ok _ _ _ _ _ _ _ _ w s h _ q⟩⟩
theorem sw_and (ha : ST Y sc fc a ga) (hb : SW Y sc fc (.BoolOp .And (b :: es) pos) gb) : SW Y sc fc (.BoolOp .And (a :: b :: es) pos) (fun τ => (ga τ).bind fun k => bif k then gb τ else some false) := by
  refine ⟨fun X ok H0 G0 G W H τ σ d w s h Q q => ?_⟩
  obtain ⟨k, hk, h⟩ := bnd h
  refine ⟨_, pw_and pt_tu pw_tu, ?_⟩
  refine ha.run X ok _ _ _ _ _ _ _ _ w s hk _ fun G1 H1 e1 w1 => ?_
  cases k with
  | true => exact iteT (hb.run X ok _ _ _ _ _ _ _ _ w1 (s.mono e1) h _ fun G2 H2 e2 w2 => q _ _ (e1.trans e2) w2)
  | false => cases h; exact iteF (q _ _ e1 w1)
theorem sw_or (ha : ST Y sc fc a ga) (hb : SW Y sc fc (.BoolOp .Or (b :: es) pos) gb) : SW Y sc fc (.BoolOp .Or (a :: b :: es) pos) (fun τ => (ga τ).bind fun k => bif k then some true else gb τ) := by
  refine ⟨fun X ok H0 G0 G W H τ σ d w s h Q q => ?_⟩
  obtain ⟨k, hk, h⟩ := bnd h
  refine ⟨_, pw_or pt_tu pw_tu, ?_⟩
  refine ha.run X ok _ _ _ _ _ _ _ _ w s hk _ fun G1 H1 e1 w1 => ?_
  cases k with
  | true => cases h; exact iteT (q _ _ e1 w1)
  | false => exact iteF (hb.run X ok _ _ _ _ _ _ _ _ w1 (s.mono e1) h _ fun G2 H2 e2 w2 => q _ _ (e1.trans e2) w2)
theorem se_ite (hc : ST Y sc fc c ga) (ha : SE Y sc fc a fa) (hb : SE Y sc fc b fb) : SE Y sc fc (.IfExp c a b pos) (fun τ => (ga τ).bind fun k => bif k then fa τ else fb τ) := by
  refine ⟨fun X ok H0 G0 G W H τ σ d w s h Q q => ?_⟩
  obtain ⟨k, hk, h⟩ := bnd h
  refine ⟨_, pe_ifExp pt_tu pe_tu pe_tu, ?_⟩
  refine hc.run X ok _ _ _ _ _ _ _ _ w s hk _ fun G1 H1 e1 w1 => ?_
  cases k with
  | true => exact iteT (ha.run X ok _ _ _ _ _ _ _ _ w1 (s.mono e1) h _ fun v G2 H2 e2 w2 dv => q _ _ _ (e1.trans e2) w2 dv)
  | false => exact iteF (hb.run X ok _ _ _ _ _ _ _ _ w1 (s.mono e1) h _ fun v G2 H2 e2 w2 dv => q _ _ _ (e1.trans e2) w2 dv)

/-! ### lists of expressions, displays -/
variable {fL : List Sl → Option (List D)}
theorem sa_nil : SA Y sc fc [] (fun _ => some []) :=
  ⟨fun X ok H0 G0 G W H τ σ d w s h Q q => by cases h; exact ⟨_, pa_nil, q [] G H (Sub.refl G) w (by simp only [DenL])⟩⟩
theorem sa_cons (hn : notStar a = true) (ha : SE Y sc fc a fa) (hL : SA Y sc fc es fL) : SA Y sc fc (a :: es) (fun τ => (fa τ).bind fun d => (fL τ).map (d :: ·)) := by
  refine ⟨fun X ok H0 G0 G W H τ σ ds w s h Q q => ?_⟩
  obtain ⟨x, hx, h⟩ := bnd h
  obtain ⟨xs, hxs, rfl⟩ := mpd h
  refine ⟨_, pa_cons pe_tu pa_tu (star_cons hn), ?_⟩
  refine ha.run X ok _ _ _ _ _ _ _ _ w s hx _ fun v G1 H1 e1 w1 dv => ?_
  refine hL.run X ok _ _ _ _ _ _ _ _ w1 (s.mono e1) hxs _ fun vs G2 H2 e2 w2 dvs => ?_
  exact q _ _ _ (e1.trans e2) w2 (by simp only [DenL]; exact ⟨v, vs, rfl, dv.mono e2, dvs⟩)
theorem se_tup {k : Nat} (hL : SA Y sc fc es fL) : SE Y sc fc (.Tuple es k pos) (fun τ => (fL τ).bind fun ds => if ds.length ≤ line then some (.tup ds) else none) := by
  refine ⟨fun X ok H0 G0 G W H τ σ d w s h Q q => ?_⟩
  obtain ⟨xs, hxs, h⟩ := bnd h
  split at h
  · rename_i hl
    cases h
    refine ⟨_, pe_tup pa_tu, ?_⟩
    refine hL.run X ok _ _ _ _ _ _ _ _ w s hxs _ fun vs G1 H1 e1 w1 dvs => ?_
    refine ⟨le_line (by rw [← dvs.length]; exact hl), fun p hp => q _ _ _ (e1.trans (sub_upd (w1.gnone hp))) (w1.new hp) ?_⟩
    simp only [Den]
    exact ⟨p, vs, rfl, SqT.of upd_same, dvs.mono (sub_upd (w1.gnone hp))⟩
  · cases h
theorem se_lst (hL : SA Y sc fc es fL) : SE Y sc fc (.List es pos) (fun τ => (fL τ).bind fun ds => if ds.length ≤ line then some (.lst ds) else none) := by
  refine ⟨fun X ok H0 G0 G W H τ σ d w s h Q q => ?_⟩
  obtain ⟨xs, hxs, h⟩ := bnd h
  split at h
  · rename_i hl
    cases h
    refine ⟨_, pe_lst pa_tu, ?_⟩
    refine hL.run X ok _ _ _ _ _ _ _ _ w s hxs _ fun vs G1 H1 e1 w1 dvs => ?_
    refine ⟨le_line (by rw [← dvs.length]; exact hl), fun p hp => q _ _ _ (e1.trans (sub_upd (w1.gnone hp))) (w1.new hp) ?_⟩
    simp only [Den]
    exact ⟨p, vs, rfl, upd_same, dvs.mono (sub_upd (w1.gnone hp))⟩
  · cases h

/-! ### places, slices -/
theorem se_ix (ha : SE Y sc fc a fa) (hb : SE Y sc fc b fb) (hs : notSlice b = true) : SE Y sc fc (.Subscript a b pos) (fun τ => (fa τ).bind fun x => (fb τ).bind fun y => ixD x y) := by
  refine ⟨fun X ok H0 G0 G W H τ σ d w s h Q q => ?_⟩
  obtain ⟨x, hx, h⟩ := bnd h
  obtain ⟨y, hy, h⟩ := bnd h
  refine ⟨_, pe_ix ixR_u pe_tu pe_tu (plainIx_of hs), ?_⟩
  refine ha.run X ok _ _ _ _ _ _ _ _ w s hx _ fun v G1 H1 e1 w1 dv => ?_
  refine hb.run X ok _ _ _ _ _ _ _ _ w1 (s.mono e1) hy _ fun u G2 H2 e2 w2 du => ?_
  exact ix_run h (dv.mono e2) du w2 fun z G' H' e' w' dz => q z G' H' ((e1.trans e2).trans e') w' dz
structure SO (Y : Stat) (sc : Scope) (fc : Str → Bool) (e : Option Expr) (f : List Sl → Option (Option Int)) : Prop where
  run : ∀ X, XOk Y sc fc X → ∀ H0 G0 G W H τ σ o, Wd H0 G0 G W H → SlOk X.K G W τ σ → f τ = some o → ∀ Q : Option Int → Hp → Prop, (∀ G' H', Sub G G' → Wd H0 G0 G' W H' → Q o H') → ∃ t, PO X e t ∧ t σ H Q
theorem so_none : SO Y sc fc none (fun _ => some none) :=
  ⟨fun X ok H0 G0 G W H τ σ o w s h Q q => by cases h; exact ⟨_, po_none, q G H (Sub.refl G) w⟩⟩
theorem so_some (ha : SE Y sc fc a fa) : SO Y sc fc (some a) (fun τ => (fa τ).bind fun d => (intD d).map some) := by
  refine ⟨fun X ok H0 G0 G W H τ σ o w s h Q q => ?_⟩
  obtain ⟨x, hx, h⟩ := bnd h
  obtain ⟨i, hi, rfl⟩ := mpd h
  cases x <;> simp [intD] at hi
  subst hi
  refine ⟨_, po_some pe_tu, ?_⟩
  refine ha.run X ok _ _ _ _ _ _ _ _ w s hx _ fun v G1 H1 e1 w1 dv => ?_
  simp only [Den] at dv
  exact ⟨_, dv, q _ _ e1 w1⟩
def TUo (X : Cx) (e : Option Expr) : TO := fun σ H Q => ∃ t, PO X e t ∧ t σ H Q
theorem po_tu {X : Cx} {e : Option Expr} : PO X e (TUo X e) := ⟨fun pins s σ H Q I ⟨_, p, h⟩ => p.run pins s σ H Q I h⟩
theorem se_sl {lo hi : Option Expr} {f1 f2 : List Sl → Option (Option Int)} (ha : SE Y sc fc a fa) (hl : SO Y sc fc lo f1) (hh : SO Y sc fc hi f2) : SE Y sc fc (.Subscript a (.Slice lo hi none p2) pos)
    (fun τ => (fa τ).bind fun x => (f1 τ).bind fun l => (f2 τ).bind fun h => slD l h x) := by
  refine ⟨fun X ok H0 G0 G W H τ σ d w s h Q q => ?_⟩
  obtain ⟨x, hx, h⟩ := bnd h
  obtain ⟨l, hl', h⟩ := bnd h
  obtain ⟨u, hu', h⟩ := bnd h
  refine ⟨_, pe_slice slR_u pe_tu po_tu po_tu, ?_⟩
  refine ha.run X ok _ _ _ _ _ _ _ _ w s hx _ fun v G1 H1 e1 w1 dv => ?_
  refine hl.run X ok _ _ _ _ _ _ _ _ w1 (s.mono e1) hl' _ fun G2 H2 e2 w2 => ?_
  refine hh.run X ok _ _ _ _ _ _ _ _ w2 (s.mono (e1.trans e2)) hu' _ fun G3 H3 e3 w3 => ?_
  exact sl_run h (dv.mono (e2.trans e3)) w3 fun z G' H' e' w' dz => q z G' H' (((e1.trans e2).trans e3).trans e') w' dz

/-! ### calls -/
theorem dbg_of {x : Str} (h : decide (x = ("__debug__" : Str)) = false) : (x == ("__debug__" : Str)) = false := by simpa using h
theorem call_run {X : Cx} (ok : XOk Y sc fc X) {i : Nat} {x : Str} (hi : (i, x) ∈ Y.fns) {H0 G0 G W H : Hp} {ds : List D} {d : D} {vs : List V} {Q : VK} (w : Wd H0 G0 G W H) (hd : DenL X.K G ds vs) (hF : Y.Z.F i ds = some d) (q : EQ X.K H0 G0 G W d Q) (E : XK) :
    spF X.K (Y.Z.F i) vs H Q E := ⟨ds, d, G, w.gh, hd, hF, fun v G' H' a b c e dv => q v G' H' b (w.call a b c e) dv⟩
theorem se_call {i : Nat} {x : Str} (hi : (i, x) ∈ Y.fns) (hg : sc.names.lookup x = some .globalImplicit) (hd : (x == ("__debug__" : Str)) = false) (hn : (a :: es).all notStar = true) (hL : SA Y sc fc (a :: es) fL) :
    SE Y sc fc (.Call (.Name x p) (a :: es) [] pos) (fun τ => (fL τ).bind fun ds => Y.Z.F i ds) := by
  refine ⟨fun X ok H0 G0 G W H τ σ d w s h Q q => ?_⟩
  obtain ⟨xs, hxs, h⟩ := bnd h
  obtain ⟨f, fd, ps, hm, hk, hb, hF⟩ := (ok.fns i x hi).ex
  simp only [List.all_cons, Bool.and_eq_true] at hn
  refine ⟨_, pe_call hF ok.room (ok.gl hg) hm hk hb .nil pass0 pa_tu hd (star_cons hn.1) (star_any hn.2), ?_⟩
  refine hL.run X ok _ _ _ _ _ _ _ _ w s hxs _ fun vs G1 H1 e1 w1 dvs => ?_
  rw [List.append_nil]
  exact call_run ok hi w1 dvs h (fun z G' H' e' w' dz => q z G' H' (e1.trans e') w' dz) _
theorem se_call0 {i : Nat} {x : Str} (hi : (i, x) ∈ Y.fns) (hg : sc.names.lookup x = some .globalImplicit) (hd : (x == ("__debug__" : Str)) = false) :
    SE Y sc fc (.Call (.Name x p) [] [] pos) (fun τ => Y.Z.F i []) := by
  refine ⟨fun X ok H0 G0 G W H τ σ d w s h Q q => ?_⟩
  obtain ⟨f, fd, ps, hm, hk, hb, hF⟩ := (ok.fns i x hi).ex
  refine ⟨_, pe_call0 hF ok.room (ok.gl hg) hm hk hb .nil pass0 hd, ?_⟩
  show spF X.K (Y.Z.F i) ([] : List V) H Q E0
  exact call_run ok hi w (by simp only [DenL]) h q _
theorem se_blt {f : BF} (hf : f = .gcd → Y.gcd = true) (hbl : f ≠ .gcd → nmF f ∈ Y.bl) (hg : sc.names.lookup (nmF f) = some .globalImplicit) (hn : (a :: es).all notStar = true) (hL : SA Y sc fc (a :: es) fL) :
    SE Y sc fc (.Call (.Name (nmF f) p) (a :: es) [] pos) (fun τ => (fL τ).bind fun ds => bltD f ds) := by
  refine ⟨fun X ok H0 G0 G W H τ σ d w s h Q q => ?_⟩
  obtain ⟨xs, hxs, h⟩ := bnd h
  simp only [List.all_cons, Bool.and_eq_true] at hn
  have key : PE X (.Call (.Name (nmF f) p) (a :: es) [] pos) (tCB (UCall X (valF f)) (TUa X (a :: es))) → TU X (.Call (.Name (nmF f) p) (a :: es) [] pos) σ H Q := fun hp => by
    refine ⟨_, hp, ?_⟩
    refine hL.run X ok _ _ _ _ _ _ _ _ w s hxs _ fun vs G1 H1 e1 w1 dvs => ?_
    exact blt_run ok.calm h dvs w1 fun z G' H' e' w' dz => q z G' H' (e1.trans e') w' dz
  refine key ?_
  by_cases hgc : f = .gcd
  · subst hgc
    exact pe_callBfun callR_u (ok.gl hg) (ok.gcd (hf rfl)) pa_tu (by decide +kernel) (star_cons hn.1) (star_any hn.2)
  · have hm := ok.bl _ (hbl hgc)
    have hb := bootF hgc
    obtain ⟨n1, n2⟩ := nameF hgc
    cases ht : tyF f with
    | none =>
      have ev : valF f = .builtin (idF f) := by unfold valF; rw [ht]
      rw [ev] at hb ⊢
      exact pe_callB callR_u (ok.gl hg) hm hb pa_tu n1 n2 (star_cons hn.1) (star_any hn.2)
    | some t =>
      have ev : valF f = .type t := by unfold valF; rw [ht]
      rw [ev] at hb ⊢
      exact pe_callTy callR_u (ok.gl hg) hm hb pa_tu n1 n2 (star_cons hn.1) (star_any hn.2)
end
end Pv

set_option Elab.async false
set_option linter.all false
set_option maxRecDepth 100000
set_option maxHeartbeats 4000000

namespace Pv
open PySem PySem.Spec L2

section
variable {Y : Stat} {sc : Scope} {fc : Str → Bool} {pos p p1 p2 : Pos} {a b c : Expr} {es : List Expr} {fa fb fd : List Sl → Option D} {fL fK : List Sl → Option (List D)}

/-! ### isinstance -/
theorem pe_ty {X : Cx} (ok : XOk Y sc fc X) {t : Ty} (hb : nmT t ∈ Y.bl) (hg : sc.names.lookup (nmT t) = some .globalImplicit) : PE X (.Name (nmT t) pos) (tC (.ty (sT t))) :=
  pe_bltn (ok.gl hg) (ok.bl _ hb) (bootT t) rfl (nameT t).1 (nameT t).2
theorem boot_isi : bootBuiltins "isinstance" = some (.builtin "isinstance") := by decide +kernel
theorem se_isi {t : Ty} (hi : ("isinstance" : Str) ∈ Y.bl) (hgi : sc.names.lookup ("isinstance" : Str) = some .globalImplicit) (hb : nmT t ∈ Y.bl) (hg : sc.names.lookup (nmT t) = some .globalImplicit) (hn : notStar a = true) (ha : SE Y sc fc a fa) :
    SE Y sc fc (.Call (.Name "isinstance" p) [a, .Name (nmT t) p1] [] pos) (fun τ => (fa τ).bind fun x => if isIns x then none else some (.bl ([t].any (isi1 x)))) := by
  refine ⟨fun X ok H0 G0 G W H τ σ d w s h Q q => ?_⟩
  obtain ⟨x, hx, h⟩ := bnd h
  split at h
  · cases h
  · rename_i hins
    cases h
    refine ⟨_, pe_callB call_isi (ok.gl hgi) (ok.bl _ hi) boot_isi (pa_cons pe_tu (pa_cons (pe_ty ok hb hg) pa_nil (star_cons rfl)) (star_cons hn)) (by decide +kernel) (by decide +kernel) (star_cons hn) (star_any (by rfl)), ?_⟩
    refine ha.run X ok _ _ _ _ _ _ _ _ w s hx _ fun v G1 H1 e1 w1 dv => ?_
    obtain ⟨n, ty, hk⟩ := isi_ty (by simpa using hins) dv w1.gh
    exact ⟨v, .ty (sT t), .type n, .type (sT t), isi1 x t, rfl, .ty _, ty, hk t, by rw [← Bool.or_false (isi1 x t)]; exact q _ _ _ e1 w1 (by simp only [Den]; rfl)⟩
/-- the tuple of the classes -/
theorem pa_tys {X : Cx} (ok : XOk Y sc fc X) : ∀ {ts : List Ty} {ns : List Expr}, ns.length = ts.length → (∀ (i : Nat) n t, ns[i]? = some n → ts[i]? = some t → ∃ q, n = Expr.Name (nmT t) q ∧ nmT t ∈ Y.bl ∧ sc.names.lookup (nmT t) = some .globalImplicit) →
    PA X ns (fun _ H Q => Q (ts.map fun t => V.ty (sT t)) H)
  | [], [], _, _ => ⟨fun pos pins s σ H Q I h => pa_nil.run pos pins s σ H Q I h⟩
  | [], _ :: _, h, _ => by simp at h
  | _ :: _, [], h, _ => by simp at h
  | t :: ts, n :: ns, hl, hh => by
    obtain ⟨q, rfl, hb, hg⟩ := hh 0 n t rfl rfl
    have ih := pa_tys ok (ts := ts) (ns := ns) (by simpa using hl) fun i n t h1 h2 => hh (i + 1) n t (by simpa using h1) (by simpa using h2)
    exact ⟨fun pos pins s σ H Q I h => (pa_cons (pe_ty ok hb hg) ih (star_cons rfl)).run pos pins s σ H Q I h⟩
theorem cls_all : ∀ ts : List Ty, Paired ClsV (ts.map fun t => V.ty (sT t)) (ts.map fun t => Value.type (sT t))
  | [] => .nil
  | t :: ts => .cons (.ty _) (cls_all ts)
theorem se_isit {ts : List Ty} {ns : List Expr} {k : Nat} (hi : ("isinstance" : Str) ∈ Y.bl) (hgi : sc.names.lookup ("isinstance" : Str) = some .globalImplicit) (hl : ns.length = ts.length) (hz : ts.length ≤ 100)
    (hh : ∀ (i : Nat) n t, ns[i]? = some n → ts[i]? = some t → ∃ q, n = Expr.Name (nmT t) q ∧ nmT t ∈ Y.bl ∧ sc.names.lookup (nmT t) = some .globalImplicit) (hn : notStar a = true) (ha : SE Y sc fc a fa) :
    SE Y sc fc (.Call (.Name "isinstance" p) [a, .Tuple ns k p1] [] pos) (fun τ => (fa τ).bind fun x => if isIns x then none else some (.bl (ts.any (isi1 x)))) := by
  refine ⟨fun X ok H0 G0 G W H τ σ d w s h Q q => ?_⟩
  obtain ⟨x, hx, h⟩ := bnd h
  split at h
  · cases h
  · rename_i hins
    cases h
    refine ⟨_, pe_callB call_isiT (ok.gl hgi) (ok.bl _ hi) boot_isi (pa_cons pe_tu (pa_cons (pe_tup (pa_tys ok hl hh)) pa_nil (star_cons rfl)) (star_cons hn)) (by decide +kernel) (by decide +kernel) (star_cons hn) (star_any (by rfl)), ?_⟩
    refine ha.run X ok _ _ _ _ _ _ _ _ w s hx _ fun v G1 H1 e1 w1 dv => ?_
    refine ⟨by rw [List.length_map, sizeLine_eq]; omega, fun z hz' => ?_⟩
    have w2 := w1.new (o := .tup (ts.map fun t => V.ty (sT t))) hz'
    have e2 : Sub _ _ := sub_upd (o := .tup (ts.map fun t => V.ty (sT t))) (w1.gnone hz')
    obtain ⟨n, ty, hk⟩ := isi_ty (X := X) (by simpa using hins) (dv.mono e2) w2.gh
    exact ⟨v, z, _, .type n, _, _, rfl, upd_same, cls_all ts, ty, kitAll hk ts, q _ _ _ (e1.trans e2) w2 (by simp only [Den])⟩

/-! ### dicts written -/
end
/-- the pairs' readings, chosen where they are used -/
def SD (Y : Stat) (sc : Scope) (fc : Str → Bool) (pos : Pos) (ks : List (Option Expr)) (vs : List Expr) (g : List Sl → Option (List D)) : Prop :=
  ∀ X, XOk Y sc fc X → ∃ trs, PPs X pos ks vs trs ∧ ∀ H0 G0 G W H τ σ ds, Wd H0 G0 G W H → SlOk X.K G W τ σ → g τ = some ds → ∀ Q : List (V × V) → Hp → Prop,
    (∀ us ws G' H', Sub G G' → Wd H0 G0 G' W H' → DenL X.K G' (evens ds) us → DenL X.K G' (odds ds) ws → us.length = ws.length → Q (us.zip ws) H') → tPairs trs σ H Q
section
variable {Y : Stat} {sc : Scope} {fc : Str → Bool} {pos p p1 p2 : Pos} {a b c : Expr} {es : List Expr} {fa fb fd : List Sl → Option D} {fL fK : List Sl → Option (List D)} {ks : List (Option Expr)} {vs : List Expr}
theorem sd_nil : SD Y sc fc pos [] [] (fun _ => some []) :=
  fun X ok => ⟨_, pps_nil, fun H0 G0 G W H τ σ ds w s h Q q => by cases h; exact q [] [] G H (Sub.refl G) w (by simp only [evens, DenL]) (by simp only [odds, DenL]) rfl⟩
theorem sd_cons (ha : SE Y sc fc a fa) (hb : SE Y sc fc b fb) (hL : SD Y sc fc pos ks vs fL) :
    SD Y sc fc pos (some a :: ks) (b :: vs) (fun τ => (fa τ).bind fun d => ((fb τ).bind fun e => (fL τ).map (e :: ·)).map (d :: ·)) := by
  intro X ok
  obtain ⟨trs, hp, hr⟩ := hL X ok
  refine ⟨(TU X a, TU X b) :: trs, pps_cons pe_tu pe_tu hp, fun H0 G0 G W H τ σ ds w s h Q q => ?_⟩
  obtain ⟨x, hx, h1⟩ := bnd h
  obtain ⟨ds', h2, rfl⟩ := mpd h1
  obtain ⟨y, hy, h3⟩ := bnd h2
  obtain ⟨ds, hds, rfl⟩ := mpd h3
  show TU X a σ H fun x H1 => TU X b σ H1 fun y H2 => tPairs trs σ H2 fun ps H3 => Q ((x, y) :: ps) H3
  refine ha.run X ok _ _ _ _ _ _ _ _ w s hx _ fun v G1 H1 e1 w1 dv => ?_
  refine hb.run X ok _ _ _ _ _ _ _ _ w1 (s.mono e1) hy _ fun u G2 H2 e2 w2 du => ?_
  refine hr _ _ _ _ _ _ _ _ w2 (s.mono (e1.trans e2)) hds _ fun us ws G3 H3 e3 w3 dus dws hl => ?_
  exact q (v :: us) (u :: ws) _ _ ((e1.trans e2).trans e3) w3 (by simp only [evens, DenL]; exact ⟨v, us, rfl, dv.mono (e2.trans e3), dus⟩) (by simp only [odds, DenL]; exact ⟨u, ws, rfl, du.mono e3, dws⟩) (by simp [hl])
theorem se_dct0 : SE Y sc fc (.Dict [] [] pos) (fun _ => some (.dct [] [])) := by
  refine ⟨fun X ok H0 G0 G W H τ σ d w s h Q q => ?_⟩
  cases h
  refine ⟨_, pe_dnewK, fun z hz => q _ _ _ (sub_upd (w.gnone hz)) (w.new hz) ?_⟩
  simp only [Den]
  exact ⟨z, [], rfl, upd_same, rfl, by simp [DenL]⟩
theorem key_den {K : PySem.W.Frag} {G : Hp} {x : D} {v : V} {k : Key} (h : D.key x = some k) (hx : Den K G x v) : v = kV k := by
  cases x <;> simp only [D.key] at h <;> cases h <;> (simp only [Den] at hx; exact hx)
theorem keys_den {K : PySem.W.Frag} {G : Hp} : ∀ {xs : List D} {us ws : List V}, distinctK (xs.map D.key) = true → DenL K G xs us → us.length = ws.length →
    ∃ kvs : List (Key × V), us.zip ws = kvs.map (fun kv => (kV kv.1, kv.2)) ∧ xs.map D.key = kvs.map (fun p => some p.1) ∧ kvs.map (fun p => p.2) = ws ∧ kvs.length = us.length
  | [], _, ws, _, h, hl => by
    simp only [DenL] at h
    subst h
    have : ws = [] := List.eq_nil_of_length_eq_zero (by simpa using hl.symm)
    subst this
    exact ⟨[], rfl, rfl, rfl, rfl⟩
  | x :: xs, _, ws, hd, h, hl => by
    simp only [DenL] at h
    obtain ⟨v, r, e, h1, h2⟩ := h
    subst e
    cases ws with
    | nil => simp at hl
    | cons y ws =>
      cases hk : D.key x with
      | none => simp [hk, distinctK] at hd
      | some k =>
        simp only [List.map_cons, hk, distinctK, Bool.and_eq_true] at hd
        obtain ⟨kvs, a1, a2, a3, a4⟩ := keys_den hd.2 h2 (by simpa using hl)
        exact ⟨(k, y) :: kvs, by simp [a1, key_den hk h1], by simp [hk, a2], by simp [a3], by simp [a4]⟩
theorem valV_none {kvs : List (Key × V)} {k : Key} (h : some k ∉ kvs.map fun p => some p.1) : valV kvs k = none := by
  unfold valV
  rw [Option.map_eq_none_iff, List.find?_eq_none]
  intro p hp z
  have e : p.1 = k := by simpa using z
  exact h (List.mem_map.mpr ⟨p, hp, by rw [e]⟩)
theorem distinct_snoc : ∀ {l : List (Option Key)} {k : Key}, distinctK (l ++ [some k]) = true → some k ∉ l ∧ distinctK l = true
  | [], k, _ => ⟨by simp, rfl⟩
  | none :: r, k, h => by simp [distinctK] at h
  | some j :: r, k, h => by
    simp only [List.cons_append, distinctK, Bool.and_eq_true, List.all_eq_true, decide_eq_true_eq] at h
    obtain ⟨h1, h2⟩ := h
    obtain ⟨a, b⟩ := distinct_snoc h2
    have hj : ¬ (some k = some j) := h1 (some k) (by simp)
    refine ⟨?_, ?_⟩
    · rw [List.mem_cons, not_or]
      exact ⟨hj, a⟩
    · simp only [distinctK, Bool.and_eq_true, List.all_eq_true, decide_eq_true_eq]
      exact ⟨fun x z => h1 x (List.mem_append_left _ z), b⟩
theorem distinct_app : ∀ {l m : List (Option Key)}, distinctK (l ++ m) = true → distinctK l = true
  | [], _, _ => rfl
  | none :: r, m, h => by simp [distinctK] at h
  | some j :: r, m, h => by
    simp only [List.cons_append, distinctK, Bool.and_eq_true, List.all_eq_true, decide_eq_true_eq] at h ⊢
    exact ⟨fun x z => h.1 x (List.mem_append_left _ z), distinct_app h.2⟩
theorem merge_new : ∀ {more kvs : List (Key × V)}, distinctK ((kvs ++ more).map fun p => some p.1) = true → mergeK kvs more = kvs ++ more
  | [], kvs, _ => by simp [mergeK]
  | p :: more, kvs, h => by
    have h1 : distinctK ((kvs.map fun p => some p.1) ++ [some p.1]) = true := by
      refine distinct_app (m := more.map fun p => some p.1) ?_
      simpa using h
    obtain ⟨a, _⟩ := distinct_snoc h1
    show mergeK (putK kvs p.1 p.2) more = _
    rw [putK_new _ (valV_none a)]
    have ih := merge_new (more := more) (kvs := kvs ++ [p]) (by simpa using h)
    simpa using ih
theorem se_dct (h0 : ks ≠ []) (hall : ks.all (·.isSome) = true) (hlen : ks.length = vs.length) (h15 : ks.length ≤ 15) (hL : SD Y sc fc pos ks vs fL) :
    SE Y sc fc (.Dict ks vs pos) (fun τ => (fL τ).bind fun ds => dctD (evens ds) (odds ds)) := by
  refine ⟨fun X ok H0 G0 G W H τ σ d w s h Q q => ?_⟩
  obtain ⟨ds, hds, h⟩ := bnd h
  unfold dctD at h
  split at h
  · rename_i hc
    cases h
    simp only [Bool.and_eq_true, decide_eq_true_eq] at hc
    obtain ⟨⟨c1, c2⟩, c3⟩ := hc
    obtain ⟨trs, hp, hr⟩ := hL X ok
    refine ⟨_, pe_disp hp hall hlen h0 h15, fun z hz => ?_⟩
    have w1 := w.newO (o := .dK []) hz
    have s1 : SlOk X.K G (upd W z (.dK [])) τ σ := ⟨s.len, s.val, fun i ds hi => let ⟨a, us, x, y, t⟩ := s.own i ds hi; ⟨a, us, x, by rw [upd_ne (ne_of_none y (w.wnone hz))]; exact y, t⟩, s.dis⟩
    refine hr _ _ _ _ _ _ _ _ w1 s1 hds _ fun us ws G1 H1 e1 w2 dus dws hl => ?_
    obtain ⟨kvs, a1, a2, a3, a4⟩ := keys_den c3 dus hl
    refine ⟨(w2.wh z _ upd_same).1, kvs, a1, by rw [a4, ← dus.length]; exact c2, ?_⟩
    have hm : mergeK [] kvs = kvs := by
      have := merge_new (more := kvs) (kvs := []) (by rw [List.nil_append, ← a2]; exact c3)
      simpa using this
    rw [hm]
    have hzG : G1 z = none := (w2.wh z _ upd_same).2
    have w3 := (w2.set (o' := .dK kvs) upd_same).give (o := .dK kvs) upd_same
    refine q _ _ _ (e1.trans (sub_upd hzG)) (?_ : Wd H0 G0 (upd G1 z (.dK kvs)) W (upd H1 z (.dK kvs))) ?_
    · have ew : del (upd (upd W z (.dK [])) z (.dK kvs)) z = W := by
        funext a
        by_cases ha : a = z
        · subst ha; rw [del_same]; exact (w.wnone hz).symm
        · rw [del_ne ha, upd_ne ha, upd_ne ha]
      rw [ew] at w3
      exact w3
    · simp only [Den]
      refine ⟨z, kvs, rfl, upd_same, a2, ?_⟩
      rw [a3]
      exact dws.mono (sub_upd hzG)
  · cases h

/-! ### reading a list of one's own -/
theorem se_ixo {i : Nat} {x : Str} (hN : Y.N[i]? = some x) (hv : Vis sc x) (hd : (x == ("__debug__" : Str)) = false) (hcd : (x == ("__classdict__" : Str)) = false) (hb : SE Y sc fc b fb) (hs : notSlice b = true) :
    SE Y sc fc (.Subscript (.Name x p) b pos) (fun τ => (getO τ i).bind fun xs => ((fb τ).bind intD).bind fun k => atI xs k) := by
  refine ⟨fun X ok H0 G0 G W H τ σ d w s h Q q => ?_⟩
  obtain ⟨xs, hxs, h⟩ := bnd h
  obtain ⟨k, hk, h⟩ := bnd h
  obtain ⟨y, hy, hk⟩ := bnd hk
  cases y <;> simp [intD] at hk
  subst hk
  obtain ⟨a, us, h1, h2, h3⟩ := s.own i xs (getO_some hxs)
  refine ⟨_, pe_ix ix_list (pe_var (by rw [ok.eN]; exact hN) (ok.vis hv) hd hcd) pe_tu (plainIx_of hs), ?_⟩
  refine ⟨_, h1, ?_⟩
  refine hb.run X ok _ _ _ _ _ _ _ _ w s hy _ fun v G1 H1 e1 w1 dv => ?_
  simp only [Den] at dv
  obtain ⟨z, hz, dz⟩ := atI_den (h3.mono e1) h
  exact ⟨a, us, _, z, rfl, dv, SqL.of (w1.wh _ _ h2).1, hz, q _ _ _ e1 w1 dz⟩
theorem se_leno {i : Nat} {x : Str} (hN : Y.N[i]? = some x) (hv : Vis sc x) (hd : (x == ("__debug__" : Str)) = false) (hcd : (x == ("__classdict__" : Str)) = false) (hl : ("len" : Str) ∈ Y.bl) (hg : sc.names.lookup ("len" : Str) = some .globalImplicit) :
    SE Y sc fc (.Call (.Name "len" p1) [.Name x p] [] pos) (fun τ => (getO τ i).map fun xs => .int xs.length) := by
  refine ⟨fun X ok H0 G0 G W H τ σ d w s h Q q => ?_⟩
  obtain ⟨xs, hxs, rfl⟩ := mpd h
  obtain ⟨a, us, h1, h2, h3⟩ := s.own i xs (getO_some hxs)
  refine ⟨_, pe_callB call_len_seq (ok.gl hg) (ok.bl _ hl) PySem.boot_len (pa_cons (pe_var (by rw [ok.eN]; exact hN) (ok.vis hv) hd hcd) pa_nil (star_cons rfl)) (by decide +kernel) (by decide +kernel) (star_cons rfl) (star_any rfl), ?_⟩
  exact ⟨_, h1, a, us, rfl, .inl (SqL.of (w.wh _ _ h2).1), q.here w (by simp only [Den]; rw [h3.length])⟩

/-! ### targets -/
theorem wipe_set {σ : St} {i : Nat} {x : Option V} : ∀ {vs : List Nat}, i ∈ vs → wipe (σ.set i x) vs = wipe σ vs
  | [], h => by cases h
  | v :: vs, h => by
    show (wipe (σ.set i x) vs).set v none = (wipe σ vs).set v none
    by_cases hv : i ∈ vs
    · rw [wipe_set hv]
    · have e : i = v := by
        rcases List.mem_cons.mp h with e | e
        · exact e
        · exact absurd e hv
      subst e
      have : ∀ (ws : List Nat), i ∉ ws → wipe (σ.set i x) ws = (wipe σ ws).set i x := by
        intro ws
        induction ws with
        | nil => intro _; rfl
        | cons u us ih =>
          intro hu
          show (wipe (σ.set i x) us).set u none = ((wipe σ us).set u none).set i x
          rw [ih (fun z => hu (List.mem_cons_of_mem _ z)), List.set_comm]
          intro z
          exact hu (by rw [z]; exact List.mem_cons_self)
      rw [this vs hv, List.set_set]
theorem wipe_wipe (σ : St) (vs : List Nat) : wipe (wipe σ vs) vs = wipe σ vs := by
  have key : ∀ ws : List Nat, (∀ w ∈ ws, w ∈ vs) → wipe (wipe σ ws) vs = wipe σ vs := by
    intro ws
    induction ws with
    | nil => intro _; rfl
    | cons u us ih =>
      intro h
      show wipe ((wipe σ us).set u none) vs = _
      rw [wipe_set (h u List.mem_cons_self), ih fun w hw => h w (List.mem_cons_of_mem _ hw)]
  exact key vs fun _ h => h
theorem sg_nm {i : Nat} {x : Str} (hN : Y.N[i]? = some x) (hx : Loc sc x) (hf : (fc x || decide (sc.names.lookup x = some .local)) = true) : SG Y sc fc (.Name x pos) (.nm i) := by
  refine ⟨fun X ok H0 G0 G W H τ σ d v τ' w s dv h Q q => ?_⟩
  cases h
  refine ⟨_, pg_name ok.nd (by rw [ok.eN]; exact hN) (ok.loc hx) (ok.hf hf), ?_⟩
  exact q _ (s.put dv) fun vs hv => wipe_set (hv i (by simp [tixs]))
structure SGs (Y : Stat) (sc : Scope) (fc : Str → Bool) (tgs : List Expr) (is : List Nat) : Prop where
  run : ∀ X, XOk Y sc fc X → ∀ G W H τ σ ds vs τ', SlOk X.K G W τ σ → DenL X.K G ds vs → setAll is ds τ = some τ' → ∀ Q : L2.St → Hp → Prop,
    (∀ σ', SlOk X.K G W τ' σ' → (∀ ws, (∀ i ∈ is, i ∈ ws) → wipe σ' ws = wipe σ ws) → Q σ' H) → TUgs X tgs vs σ H Q
theorem sgs_nil : SGs Y sc fc [] [] := by
  refine ⟨fun X ok G W H τ σ ds vs τ' s dv h Q q => ?_⟩
  cases ds with
  | nil =>
    cases h
    simp only [DenL] at dv
    subst dv
    exact ⟨_, pgs_nil, rfl, q _ s fun _ _ => rfl⟩
  | cons d ds => simp [setAll] at h
theorem assign_star {e : Expr} {es : List Expr} {env : Env} (h : notStar e = true) : assignEach (e :: es) env = (false, assign e env) :: assignEach es env := by
  cases e <;> first | rfl | simp [notStar] at h
theorem sgs_cons {i : Nat} {x : Str} {tgs : List Expr} {is : List Nat} (hN : Y.N[i]? = some x) (hx : Loc sc x) (hf : (fc x || decide (sc.names.lookup x = some .local)) = true) (hr : SGs Y sc fc tgs is) : SGs Y sc fc (.Name x pos :: tgs) (i :: is) := by
  refine ⟨fun X ok G W H τ σ ds vs τ' s dv h Q q => ?_⟩
  cases ds with
  | nil => simp [setAll] at h
  | cons d ds =>
    simp only [setAll] at h
    simp only [DenL] at dv
    obtain ⟨v, r, rfl, d1, d2⟩ := dv
    refine ⟨_, pgs_cons (pg_name ok.nd (by rw [ok.eN]; exact hN) (ok.loc hx) (ok.hf hf)) pgs_tu (by rw [assign_star rfl]; rfl), v, r, rfl, ?_⟩
    refine hr.run X ok _ _ _ _ _ _ _ _ (s.put d1) d2 h _ fun σ' s' hw => q _ s' fun ws hi => ?_
    rw [hw ws fun j hj => hi j (List.mem_cons_of_mem _ hj)]
    exact wipe_set (hi i List.mem_cons_self)
theorem setAll_len : ∀ {is : List Nat} {ds : List D} {τ τ' : List Sl}, setAll is ds τ = some τ' → is.length = ds.length
  | [], [], _, _, _ => rfl
  | [], _ :: _, _, _, h => by simp [setAll] at h
  | _ :: _, [], _, _, h => by simp [setAll] at h
  | i :: is, d :: ds, τ, τ', h => by simp only [setAll] at h; simp [setAll_len h]
theorem assign_len {env : Env} : ∀ {tgs : List Expr}, tgs.all notStar = true → (assignEach tgs env).length = tgs.length ∧ (assignEach tgs env).findIdx? (·.1) = none
  | [], _ => ⟨rfl, rfl⟩
  | e :: es, h => by
    simp only [List.all_cons, Bool.and_eq_true] at h
    obtain ⟨a, b⟩ := assign_len (env := env) h.2
    rw [assign_star h.1]
    refine ⟨by simp [a], ?_⟩
    rw [List.findIdx?_cons, b]
    rfl
theorem sg_tp {tgs : List Expr} {is : List Nat} {k : Nat} (hn : tgs.all notStar = true) (hl : tgs.length = is.length) (hr : SGs Y sc fc tgs is) : SG Y sc fc (.Tuple tgs k pos) (.tp is) := by
  refine ⟨fun X ok H0 G0 G W H τ σ d v τ' w s dv h Q q => ?_⟩
  cases d <;> simp only [setT] at h <;> try cases h
  rename_i ds
  simp only [Den] at dv
  obtain ⟨a, us, rfl, h1, h2⟩ := dv
  obtain ⟨l1, l2⟩ := assign_len (env := X.env) hn
  refine ⟨_, pg_tup ok.calm pgs_tu l1 l2, a, us, rfl, sub_t w.gh h1, ?_, ?_⟩
  · rw [← h2.length, ← setAll_len h, hl]
  · exact hr.run X ok _ _ _ _ _ _ _ _ s h2 h _ fun σ' s' hw => q _ s' hw
end
end Pv

set_option Elab.async false
set_option linter.all false
set_option maxRecDepth 100000
set_option maxHeartbeats 4000000

namespace Pv
open PySem PySem.Spec L2

section
variable {Y : Stat} {sc : Scope} {fc : Str → Bool} {pos p p1 p2 : Pos} {a b c tg : Expr} {es : List Expr} {fa fb fd : List Sl → Option D} {fL fK : List Sl → Option (List D)}

/-! ### what is walked -/
theorem den_strs {K : PySem.W.Frag} {G : Hp} (z : List Nat) (i : Nat) (c : Nat) (h : z[i]? = some c) : (z.map fun c => D.str [c])[i]? = some (.str [c]) := by simp [h]
theorem si_seq (ha : SE Y sc fc a fa) : SI Y sc fc tg a (fun τ => (fa τ).bind seqD) := by
  refine ⟨fun X ok H0 G0 G W H τ σ ds w s h R q => ?_⟩
  obtain ⟨x, hx, h⟩ := bnd h
  unfold seqD at h
  split at h
  · cases h
    refine ⟨_, pi_list pe_tu, ?_⟩
    refine ha.run X ok _ _ _ _ _ _ _ _ w s hx _ fun v G1 H1 e1 w1 dv => ?_
    simp only [Den] at dv
    obtain ⟨p, us, rfl, hp, hu⟩ := dv
    refine ⟨p, rfl, ⟨us, SqL.of (w1.gh _ _ hp)⟩, q _ _ _ _ _ _ e1 w1 (walk_list (xs := us)) hu.length.symm (fun H'' e => SqL.of (e _ _ hp)) fun i H2 x H3 G2 W2 hi e2 w2 y => ?_⟩
    obtain ⟨rfl, hxi⟩ := y
    obtain ⟨d, h1, h2⟩ := hu.getV hxi
    exact ⟨G2, d, Sub.refl _, w2, h1, h2.mono e2⟩
  · rename_i ns
    cases h
    refine ⟨_, pi_list pe_tu, ?_⟩
    refine ha.run X ok _ _ _ _ _ _ _ _ w s hx _ fun v G1 H1 e1 w1 dv => ?_
    simp only [Den] at dv
    obtain ⟨p, rfl, hp⟩ := dv
    refine ⟨p, rfl, ⟨_, sub_l w1.gh hp⟩, q _ _ _ _ _ _ e1 w1 (walk_list (xs := ns.map V.int)) (by simp) (fun H'' e => sub_l e hp) fun i H2 x H3 G2 W2 hi e2 w2 y => ?_⟩
    obtain ⟨rfl, hxi⟩ := y
    rw [List.getElem?_map] at hxi
    obtain ⟨n, hn, rfl⟩ := mpd hxi
    exact ⟨G2, .int n, Sub.refl _, w2, by rw [List.getElem?_map, hn]; rfl, by simp only [Den]⟩
  · cases h
    refine ⟨_, pi_tup pe_tu, ?_⟩
    refine ha.run X ok _ _ _ _ _ _ _ _ w s hx _ fun v G1 H1 e1 w1 dv => ?_
    simp only [Den] at dv
    obtain ⟨p, us, rfl, hp, hu⟩ := dv
    refine ⟨p, rfl, ⟨us, sub_t w1.gh hp⟩, q _ _ _ _ _ _ e1 w1 (walk_tup (xs := us)) hu.length.symm (fun H'' e => sub_t e hp) fun i H2 x H3 G2 W2 hi e2 w2 y => ?_⟩
    obtain ⟨rfl, hxi⟩ := y
    obtain ⟨d, h1, h2⟩ := hu.getV hxi
    exact ⟨G2, d, Sub.refl _, w2, h1, h2.mono e2⟩
  · rename_i z
    cases h
    refine ⟨_, pi_str pe_tu, ?_⟩
    refine ha.run X ok _ _ _ _ _ _ _ _ w s hx _ fun v G1 H1 e1 w1 dv => ?_
    simp only [Den] at dv
    subst dv
    refine ⟨mkS z, rfl, q _ _ _ _ _ _ e1 w1 (walk_str (z := mkS z)) (by simp) (fun H'' e => trivial) fun i H2 x H3 G2 W2 hi e2 w2 y => ?_⟩
    obtain ⟨rfl, c, hc, rfl⟩ := y
    refine ⟨G2, .str [c], Sub.refl _, w2, by simp at hc ⊢; exact hc, by simp only [Den]⟩
  · cases h
theorem rng_get : ∀ (n : Nat) (lo : Int) (i : Nat), i < n → (rngD lo n)[i]? = some (.int (lo + i))
  | 0, _, _, h => by omega
  | n + 1, lo, 0, _ => by simp [rngD]
  | n + 1, lo, i + 1, h => by
    have := rng_get n (lo + 1) i (by omega)
    simp only [rngD, List.getElem?_cons_succ, this]
    congr 2
    omega
theorem rng_len : ∀ (n : Nat) (lo : Int), (rngD lo n).length = n
  | 0, _ => rfl
  | n + 1, lo => by simp [rngD, rng_len n]
theorem okR_of {i : Int} (h : okR i = true) : -(2 ^ 62) ≤ i ∧ i < 2 ^ 62 := by simpa [okR] using h
theorem si_r1 (hg : sc.names.lookup ("range" : Str) = some .globalImplicit) (hb : ("range" : Str) ∈ Y.bl) (hn : notStar a = true) (ha : SE Y sc fc a fa) :
    SI Y sc fc tg (.Call (.Name "range" p) [a] [] pos) (fun τ => ((fa τ).bind intD).bind fun i => if okR i then some (rngD 0 i.toNat) else none) := by
  refine ⟨fun X ok H0 G0 G W H τ σ ds w s h R q => ?_⟩
  obtain ⟨i, hi, h⟩ := bnd h
  obtain ⟨x, hx, hi⟩ := bnd hi
  split at h
  · rename_i hr
    cases h
    cases x <;> simp [intD] at hi
    subst hi
    refine ⟨_, pi_range1 (ok.gl hg) (ok.bl _ hb) (pa_cons pe_tu pa_nil (star_cons hn)) (star_cons hn), ?_⟩
    refine ha.run X ok _ _ _ _ _ _ _ _ w s hx _ fun v G1 H1 e1 w1 dv => ?_
    simp only [Den] at dv
    subst dv
    obtain ⟨r1, r2⟩ := okR_of hr
    refine ⟨_, rfl, r1, r2, q _ _ _ _ _ _ e1 w1 walk_range (rng_len _ _).symm (fun H'' e => trivial) fun j H2 x H3 G2 W2 hj e2 w2 y => ?_⟩
    obtain ⟨rfl, rfl⟩ := y
    exact ⟨G2, _, Sub.refl _, w2, rng_get _ _ _ hj, by simp only [Den]⟩
  · cases h
theorem si_r2 (hg : sc.names.lookup ("range" : Str) = some .globalImplicit) (hb : ("range" : Str) ∈ Y.bl) (hn : notStar a = true) (hn2 : notStar b = true) (ha : SE Y sc fc a fa) (hb' : SE Y sc fc b fb) :
    SI Y sc fc tg (.Call (.Name "range" p) [a, b] [] pos) (fun τ => ((fa τ).bind intD).bind fun i => ((fb τ).bind intD).bind fun j => if okR i && okR j then some (rngD i (j - i).toNat) else none) := by
  refine ⟨fun X ok H0 G0 G W H τ σ ds w s h R q => ?_⟩
  obtain ⟨i, hi, h⟩ := bnd h
  obtain ⟨x, hx, hi⟩ := bnd hi
  obtain ⟨j, hj, h⟩ := bnd h
  obtain ⟨y, hy, hj⟩ := bnd hj
  split at h
  · rename_i hr
    cases h
    rw [Bool.and_eq_true] at hr
    cases x <;> simp [intD] at hi
    subst hi
    cases y <;> simp [intD] at hj
    subst hj
    refine ⟨_, pi_range2 (ok.gl hg) (ok.bl _ hb) (pa_cons pe_tu (pa_cons pe_tu pa_nil (star_cons hn2)) (star_cons hn)) (by rw [star_cons hn, star_cons hn2]; rfl) (star_cons hn2), ?_⟩
    refine ha.run X ok _ _ _ _ _ _ _ _ w s hx _ fun v G1 H1 e1 w1 dv => ?_
    refine hb'.run X ok _ _ _ _ _ _ _ _ w1 (s.mono e1) hy _ fun u G2 H2 e2 w2 du => ?_
    simp only [Den] at dv du
    subst dv du
    obtain ⟨r1, r2⟩ := okR_of hr.1
    obtain ⟨r3, r4⟩ := okR_of hr.2
    refine ⟨_, _, rfl, ⟨r1, r2, r3, r4⟩, q _ _ _ _ _ _ (e1.trans e2) w2 walk_range (rng_len _ _).symm (fun H'' e => trivial) fun j H2 x H3 G2 W2 hj e2 w2 y => ?_⟩
    obtain ⟨rfl, rfl⟩ := y
    exact ⟨G2, _, Sub.refl _, w2, rng_get _ _ _ hj, by simp only [Den]⟩
  · cases h
theorem enum_get : ∀ (ds : List D) (k i : Nat) (d : D), ds[i]? = some d → (enumD k ds)[i]? = some (.tup [.int ((k + i : Nat) : Int), d])
  | [], _, _, _, h => by simp at h
  | x :: ds, k, 0, d, h => by simp at h; subst h; simp [enumD]
  | x :: ds, k, i + 1, d, h => by
    have := enum_get ds (k + 1) i d (by simpa using h)
    simp only [enumD, List.getElem?_cons_succ, this]
    congr 5
    omega
theorem enum_len : ∀ (ds : List D) (k : Nat), (enumD k ds).length = ds.length
  | [], _ => rfl
  | x :: ds, k => by simp [enumD, enum_len ds]
theorem pair_new {K : PySem.W.Frag} {H0 G0 G W H : Hp} {T : Addr} {x y : V} {d e : D} (w : Wd H0 G0 G W H) (hT : H T = none) (h1 : Den K G d x) (h2 : Den K G e y) :
    ∃ G2, Sub G G2 ∧ Wd H0 G0 G2 W (upd H T (.tup [x, y])) ∧ Den K G2 (.tup [d, e]) (.ref T) := by
  have e1 : Sub G (upd G T (.tup [x, y])) := sub_upd (w.gnone hT)
  refine ⟨_, e1, w.new hT, ?_⟩
  simp only [Den, DenL]
  exact ⟨T, [x, y], rfl, SqT.of upd_same, x, [y], rfl, h1.mono e1, y, [], rfl, h2.mono e1, rfl⟩
theorem si_enum {k : Nat} {tp : Pos} (hg : sc.names.lookup ("enumerate" : Str) = some .globalImplicit) (hb : ("enumerate" : Str) ∈ Y.bl) (hn : notStar a = true) (ha : SE Y sc fc a fa) :
    SI Y sc fc (.Tuple es k tp) (.Call (.Name "enumerate" p) [a] [] pos) (fun τ => (fa τ).bind fun x => match x with | .lst ds => some (enumD 0 ds) | _ => none) := by
  refine ⟨fun X ok H0 G0 G W H τ σ ds w s h R q => ?_⟩
  obtain ⟨x, hx, h⟩ := bnd h
  split at h
  · cases h
    refine ⟨_, pi_enum (ok.gl hg) (ok.bl _ hb) (pa_cons pe_tu pa_nil (star_cons hn)) (star_cons hn), ?_⟩
    refine ha.run X ok _ _ _ _ _ _ _ _ w s hx _ fun v G1 H1 e1 w1 dv => ?_
    simp only [Den] at dv
    obtain ⟨p, us, rfl, hp, hu⟩ := dv
    refine ⟨p, us, rfl, SqL.of (w1.gh _ _ hp), q _ _ _ _ _ _ e1 w1 (walk_enum (xs := us)) (by rw [enum_len, hu.length]) (fun H'' e => SqL.of (e _ _ hp)) fun i H2 x H3 G2 W2 hi e2 w2 y => ?_⟩
    obtain ⟨T, x, z, rfl, hT, rfl, hx', hz⟩ := y
    cases hx'
    obtain ⟨d, h1, h2⟩ := hu.getV hz
    obtain ⟨G3, a1, a2, a3⟩ := pair_new (K := X.K) (d := .int (i : Nat)) (x := .int (i : Nat)) w2 hT (by simp only [Den]) (h2.mono e2)
    exact ⟨G3, _, a1, a2, by rw [enum_get _ 0 i d h1, Nat.zero_add], a3⟩
  · cases h
theorem zip_get : ∀ (ds es : List D) (i : Nat) (d e : D), ds[i]? = some d → es[i]? = some e → (zipD ds es)[i]? = some (.tup [d, e])
  | [], _, _, _, _, h, _ => by simp at h
  | _ :: _, [], _, _, _, _, h => by simp at h
  | x :: ds, y :: es, 0, d, e, h, h' => by simp at h h'; subst h h'; simp [zipD]
  | x :: ds, y :: es, i + 1, d, e, h, h' => by
    have := zip_get ds es i d e (by simpa using h) (by simpa using h')
    simpa only [zipD, List.getElem?_cons_succ] using this
theorem zip_len : ∀ (ds es : List D), (zipD ds es).length = min ds.length es.length
  | [], _ => by simp [zipD]
  | _ :: _, [] => by simp [zipD]
  | x :: ds, y :: es => by simp [zipD, zip_len ds es]
theorem si_zip {k : Nat} {tp : Pos} (hg : sc.names.lookup ("zip" : Str) = some .globalImplicit) (hb : ("zip" : Str) ∈ Y.bl) (hn : notStar a = true) (hn2 : notStar b = true) (ha : SE Y sc fc a fa) (hb' : SE Y sc fc b fb) :
    SI Y sc fc (.Tuple es k tp) (.Call (.Name "zip" p) [a, b] [] pos) (fun τ => (fa τ).bind fun x => (fb τ).bind fun y => match x, y with | .lst ds, .lst es => some (zipD ds es) | _, _ => none) := by
  refine ⟨fun X ok H0 G0 G W H τ σ ds w s h R q => ?_⟩
  obtain ⟨x, hx, h⟩ := bnd h
  obtain ⟨y, hy, h⟩ := bnd h
  split at h
  · cases h
    refine ⟨_, pi_zip (ok.gl hg) (ok.bl _ hb) (pa_cons pe_tu (pa_cons pe_tu pa_nil (star_cons hn2)) (star_cons hn)) (star_cons hn) (star_any (by simp [hn2])), ?_⟩
    refine ha.run X ok _ _ _ _ _ _ _ _ w s hx _ fun v G1 H1 e1 w1 dv => ?_
    refine hb'.run X ok _ _ _ _ _ _ _ _ w1 (s.mono e1) hy _ fun u G2 H2 e2 w2 du => ?_
    replace dv := dv.mono e2
    simp only [Den] at dv du
    obtain ⟨p, us, rfl, hp, hu⟩ := dv
    obtain ⟨p', us', rfl, hp', hu'⟩ := du
    refine ⟨p, p', us, us', rfl, SqL.of (w2.gh _ _ hp), SqL.of (w2.gh _ _ hp'), q _ _ _ _ _ _ (e1.trans e2) w2 (walk_zip (xs := us) (ys := us') rfl) (by rw [zip_len, hu.length, hu'.length]) (fun H'' e => ⟨SqL.of (e _ _ hp), SqL.of (e _ _ hp')⟩) fun i H3 x H4 G3 W2 hi e3 w3 y => ?_⟩
    obtain ⟨T, x, z, rfl, hT, rfl, hx', hz⟩ := y
    obtain ⟨d, h1, h2⟩ := hu.getV hx'
    obtain ⟨d', h1', h2'⟩ := hu'.getV hz
    obtain ⟨G4, a1, a2, a3⟩ := pair_new (K := X.K) w3 hT (h2.mono e3) (h2'.mono e3)
    exact ⟨G4, _, a1, a2, zip_get _ _ _ _ _ h1 h1', a3⟩
  · cases h

/-! ### comprehensions -/
structure SCs (Y : Stat) (sc : Scope) (fc : Str → Bool) (ifs : List Expr) (f : List Sl → Option Bool) : Prop where
  run : ∀ X, XOk Y sc fc X → ∀ H0 G0 G W H τ σ b, Wd H0 G0 G W H → SlOk X.K G W τ σ → f τ = some b → ∀ Q, BQ H0 G0 G W b Q → TUts X ifs σ H Q
theorem scs_nil : SCs Y sc fc [] (fun _ => some true) :=
  ⟨fun X ok H0 G0 G W H τ σ b w s h Q q => by cases h; exact ⟨_, pts_nil, q G H (Sub.refl G) w⟩⟩
theorem scs_one {f : List Sl → Option Bool} (h : ST Y sc fc a f) : SCs Y sc fc [a] f :=
  ⟨fun X ok H0 G0 G W H τ σ b w s hf Q q => ⟨_, pts_one pt_tu, h.run X ok _ _ _ _ _ _ _ _ w s hf _ q⟩⟩
theorem wipe_ok {K : PySem.W.Frag} {G W : Hp} {τ : List Sl} {σ : St} (s : SlOk K G W τ σ) : ∀ vs : List Nat, SlOk K G W (wipeD τ vs) (wipe σ vs)
  | [] => s
  | v :: vs => (wipe_ok s vs).wput
theorem SlOk.wmono {K : PySem.W.Frag} {G W W' : Hp} {τ : List Sl} {σ : St} (s : SlOk K G W τ σ) (e : Sub W W') : SlOk K G W' τ σ :=
  ⟨s.len, s.val, fun i ds h => let ⟨a, vs, x, y, z⟩ := s.own i ds h; ⟨a, vs, x, e _ _ y, z⟩, s.dis⟩
theorem lcL_len {t : T} {c e : List Sl → Option D} {τ : List Sl} : ∀ {ds xs : List D}, lcL t c e τ ds = some xs → xs.length ≤ ds.length
  | [], xs, h => by simp [lcL] at h; subst h; simp
  | d :: ds, xs, h => by
    simp only [lcL] at h
    obtain ⟨σ1, h1, h⟩ := bnd h
    obtain ⟨b, h2, h⟩ := bnd h
    cases b with
    | true =>
      obtain ⟨x, h3, h⟩ := bnd h
      obtain ⟨ys, h4, rfl⟩ := mpd h
      have := lcL_len h4
      simp; omega
    | false =>
      have := lcL_len (show lcL t c e τ ds = some xs from h)
      simp; omega
def bG (X : Cx) (scope : Scope) (tg : Expr) : TG := fun v σ H Q => ∀ s1 H1 C cl fp, TUg (X.blk s1 H1 scope (compEnvC scope cl C X.env) fp) tg v σ H Q
def bT (X : Cx) (scope : Scope) (ifs : List Expr) : TT := fun σ H Q => ∀ s1 H1 C cl fp, TUts (X.blk s1 H1 scope (compEnvC scope cl C X.env) fp) ifs σ H Q
def bE (X : Cx) (scope : Scope) (elt : Expr) : TE := fun σ H Q => ∀ s1 H1 C cl fp, TU (X.blk s1 H1 scope (compEnvC scope cl C X.env) fp) elt σ H Q
/-- the reading of a comprehension -/
theorem lc_read {scope : Scope} {own : List (Str × Nat)} {t : T} {iter elt : Expr} {ifs : List Expr} (hi : SI Y sc fc tg iter fL)
    (hg : SG Y (relS scope sc) (fun x => scope.names.lookup x == some .cell) tg t) (ht : SCs Y (relS scope sc) (fun x => scope.names.lookup x == some .cell) ifs (fun τ => (fb τ).bind truth)) (he : SE Y (relS scope sc) (fun x => scope.names.lookup x == some .cell) elt fd)
    (hv : ∀ i ∈ tixs t, i ∈ own.map (·.2)) {X : Cx} (ok : XOk Y sc fc X) {H0 G0 G W H : Hp} {τ : List Sl} {σ : St} {ds xs : List D} (w : Wd H0 G0 G W H) (s : SlOk X.K G W τ σ) (hds : fL τ = some ds) (hlen : ds.length ≤ line)
    (hxs : lcL t fb fd (wipeD τ (own.map (·.2))) ds = some xs) {Q : VK} (q : ∀ p vs G' H', H' p = some (.lst vs) → Sub G G' → Wd H0 G0 G' (upd W p (.lst vs)) H' → W p = none → DenL X.K G' xs vs → Q (.ref p) H') :
    tLc (TUi X tg iter) (bG X scope tg) (bT X scope ifs) (bE X scope elt) (own.map (·.2)) σ H Q := by
  refine hi.run X ok _ _ _ _ _ _ _ _ w s hds _ fun J n Gp Yp G1 H1 e1 w1 wk hn hgp hy => ?_
  intro Dl hD
  have wD : W Dl = none := w1.wnone hD
  refine lc_it (g := bG X scope tg) (tt := bT X scope ifs) (te := bE X scope elt) (vs := own.map (·.2)) (σ := σ) (H1 := H1) (D := Dl) (Qd := fun H => Q (.ref Dl) H) wk (fun i H' => ∃ G' acc accD, Sub G1 G' ∧ Wd H0 G0 G' (upd W Dl (.lst acc)) H' ∧ DenL X.K G' accD acc ∧ acc.length ≤ i ∧ ∃ rest, lcL t fb fd (wipeD τ (own.map (·.2))) (ds.drop i) = some rest ∧ xs = accD ++ rest) ?_ ?_ ?_ ?_
  · exact ⟨G1, [], [], Sub.refl _, w1.newO hD, by simp only [DenL], Nat.le_refl _, xs, by simpa using hxs, rfl⟩
  · rintro i H' _ ⟨G', acc, accD, e', w', _⟩
    exact hgp H' (e'.trans w'.gh)
  · rintro i x H' H'' hin ⟨G', acc, accD, e', w', dacc, hacc, rest, hrest, hxr⟩ hyi
    obtain ⟨G2, d, e2, w2, hd, dx⟩ := hy i H' x H'' G' _ hin e' w' hyi
    have hdrop : ds.drop i = d :: ds.drop (i + 1) := by
      obtain ⟨hlt, hget⟩ := List.getElem?_eq_some_iff.mp hd
      rw [List.drop_eq_getElem_cons hlt, hget]
    rw [hdrop] at hrest
    simp only [lcL] at hrest
    obtain ⟨τ1, hτ1, hrest⟩ := bnd hrest
    obtain ⟨k, hk, hrest⟩ := bnd hrest
    intro s1 HH C cl fp
    have okb := ok.blk (s := s1) (H := HH) (scope := scope) (cl := cl) (C := C) (fp := fp)
    have sw : SlOk X.K G2 (upd W Dl (.lst acc)) (wipeD τ (own.map (·.2))) (wipe σ (own.map (·.2))) := (wipe_ok (s.mono (e1.trans (e'.trans e2))) _).wmono (sub_upd wD)
    refine hg.run _ okb _ _ _ _ _ _ _ _ _ _ w2 sw dx hτ1 _ fun σ' sσ' hw => ⟨?_, ?_⟩
    · rw [hw _ hv]; exact wipe_wipe _ _
    · intro s2 HH2 C2 cl2 fp2
      have okb2 := ok.blk (s := s2) (H := HH2) (scope := scope) (cl := cl2) (C := C2) (fp := fp2)
      refine ht.run _ okb2 _ _ _ _ _ _ _ _ w2 sσ' hk _ fun G3 H3 e3 w3 => ?_
      cases k with
      | false =>
        refine iteF ?_
        exact ⟨G3, acc, accD, (e'.trans e2).trans e3, w3, dacc.mono (e2.trans e3), by omega, rest, hrest, hxr⟩
      | true =>
        obtain ⟨y, hyv, hrest⟩ := bnd hrest
        obtain ⟨rest', hrest', rfl⟩ := mpd hrest
        refine iteT ?_
        intro s3 HH3 C3 cl3 fp3
        have okb3 := ok.blk (s := s3) (H := HH3) (scope := scope) (cl := cl3) (C := C3) (fp := fp3)
        refine he.run _ okb3 _ _ _ _ _ _ _ _ w3 (sσ'.mono e3) hyv _ fun v G4 H4 e4 w4 dv => ?_
        refine ⟨acc, (w4.wh Dl _ upd_same).1, lt_line (by omega), G4, acc ++ [v], accD ++ [y], ((e'.trans e2).trans e3).trans e4, ?_, (dacc.mono ((e2.trans e3).trans e4)).snoc dv, by simp; omega, rest', hrest', by simp [hxr]⟩
        have w5 := w4.set (o' := .lst (acc ++ [v])) (p := Dl) upd_same
        rwa [upd_upd] at w5
  · rintro H' ⟨G', acc, accD, e', w', dacc, hacc, rest, hrest, hxr⟩
    rw [hn, List.drop_length] at hrest
    cases hrest
    rw [List.append_nil] at hxr
    subst hxr
    exact q Dl acc G' H' (w'.wh Dl _ upd_same).1 (e1.trans e') w' wD dacc
section
variable {scope : Scope} {own : List (Str × Nat)} {t : T} {iter elt : Expr} {ifs : List Expr}
theorem se_lc (hi : SI Y sc fc tg iter fL) (hs : notSet iter = true) (hbk : blkC Y.N sc scope own = true)
    (hg : SG Y (relS scope sc) (fun x => scope.names.lookup x == some .cell) tg t) (ht : SCs Y (relS scope sc) (fun x => scope.names.lookup x == some .cell) ifs (fun τ => (fb τ).bind truth)) (he : SE Y (relS scope sc) (fun x => scope.names.lookup x == some .cell) elt fd)
    (hv : ∀ i ∈ tixs t, i ∈ own.map (·.2)) :
    SE Y sc fc (.ListComp elt [⟨tg, iter, ifs, 0⟩] scope pos) (fun τ => (fL τ).bind fun ds => if ds.length ≤ line then (lcL t fb fd (wipeD τ (own.map fun p => p.2)) ds).map .lst else none) := by
  refine ⟨fun X ok H0 G0 G W H τ σ d w s h Q q => ?_⟩
  obtain ⟨ds, hds, h⟩ := bnd h
  split at h
  · rename_i hlen
    obtain ⟨xs, hxs, rfl⟩ := mpd h
    refine ⟨_, pe_lc (own := own) ok.calm ok.nd pi_tu (blkOk_by (by rw [ok.eN, ok.sc]; exact hbk)) (fun s1 H1 C cl fp => ⟨fun pins s2 σ2 H2 v u Q2 I r h2 => pg_tu.run pins s2 σ2 H2 v u Q2 I r (h2 s1 H1 C cl fp)⟩)
      (fun s1 H1 C cl fp => ⟨fun pins s2 σ2 H2 Q2 I h2 => pts_tu.run pins s2 σ2 H2 Q2 I (h2 s1 H1 C cl fp)⟩) (fun s1 H1 C cl fp => ⟨fun pins s2 σ2 H2 Q2 I h2 => pe_tu.run pins s2 σ2 H2 Q2 I (h2 s1 H1 C cl fp)⟩) (folded_no hs),
      lc_read hi hg ht he hv ok w s hds hlen hxs fun p vs G' H' hp e' w' hW dxs => ?_⟩
    have hG := (w'.wh p _ upd_same).2
    have w2 := w'.give (o := .lst vs) upd_same
    have ew : del (upd W p (.lst vs)) p = W := by
      funext a
      by_cases ha : a = p
      · subst ha; rw [del_same]; exact hW.symm
      · rw [del_ne ha, upd_ne ha]
    rw [ew] at w2
    refine q _ _ _ (e'.trans (sub_upd hG)) w2 ?_
    simp only [Den]
    exact ⟨p, vs, rfl, upd_same, dxs.mono (sub_upd hG)⟩
  · cases h
end

/-! ### statements -/
def notTup : Expr → Bool
  | .Tuple .. => false
  | _ => true
theorem OQ.mono {K : PySem.W.Frag} {H0 G0 G G' : Hp} {o : Out} {Dn : Ends} (q : OQ K H0 G0 G o Dn) (e : Sub G G') : OQ K H0 G0 G' o Dn := by
  cases o with
  | nx τ => exact fun σ G2 W2 H2 e2 => q σ G2 W2 H2 (e.trans e2)
  | bk τ => exact fun σ G2 W2 H2 e2 => q σ G2 W2 H2 (e.trans e2)
  | ct τ => exact fun σ G2 W2 H2 e2 => q σ G2 W2 H2 (e.trans e2)
  | rt d => exact fun v G2 W2 H2 e2 => q v G2 W2 H2 (e.trans e2)
section
variable {t : T} {ga gb : List Sl → Option Bool} {fs gs : List Sl → Option Out} {st : Stmt} {sts us : List Stmt}
theorem ss_asg {i : Nat} {x : Str} (hN : Y.N[i]? = some x) (hx : Loc sc x) (hf : (fc x || decide (sc.names.lookup x = some .local)) = true) (hc : notComp a = true) (ha : SE Y sc fc a fa) :
    SS Y sc fc (.Assign [.Name x p] a pos) (fun τ => (fa τ).bind fun d => (setT (.nm i) d τ).map .nx) := by
  refine ⟨fun X ok H0 G0 G W H τ σ o w s h Dn q => ?_⟩
  obtain ⟨d, hd, h⟩ := bnd h
  cases h
  refine ⟨_, ps_set ok.nd (by rw [ok.eN]; exact hN) (ok.loc hx) pe_tu (swaps_no hc) (ok.hf hf), ?_⟩
  refine ha.run X ok _ _ _ _ _ _ _ _ w s hd _ fun v G1 H1 e1 w1 dv => ?_
  exact q _ _ _ _ e1 w1 ((s.mono e1).put dv)
theorem swaps_sole {tg : Expr} {l : Nat} {env : Env} (h : notComp a = true) : swapsWithSole [tg] a l env = pure false := swaps_no h
theorem stores_no {tg : Expr} {env : Env} (h : notTup a = true) : swappedStores [tg] a env = pure none := by
  cases a <;> first | (cases tg <;> rfl) | simp [notTup] at h
theorem ss_asgT {tgs : List Expr} {is : List Nat} {k : Nat} (hg : SG Y sc fc (.Tuple tgs k p) (.tp is)) (hc : notComp a = true) (hnt : notTup a = true) (ha : SE Y sc fc a fa) :
    SS Y sc fc (.Assign [.Tuple tgs k p] a pos) (fun τ => (fa τ).bind fun d => (setT (.tp is) d τ).map .nx) := by
  refine ⟨fun X ok H0 G0 G W H τ σ o w s h Dn q => ?_⟩
  obtain ⟨d, hd, h⟩ := bnd h
  obtain ⟨τ', hτ', rfl⟩ := mpd h
  refine ⟨_, ps_asg pe_tu pg_tu (swaps_sole hc) (stores_no hnt), ?_⟩
  refine ha.run X ok _ _ _ _ _ _ _ _ w s hd _ fun v G1 H1 e1 w1 dv => ?_
  exact hg.run X ok _ _ _ _ _ _ _ _ _ _ w1 (s.mono e1) dv hτ' _ fun σ' s' _ => q _ _ _ _ e1 w1 s'
/-- x = [..], the list the slot's own -/
theorem ss_own {i : Nat} {x : Str} (hN : Y.N[i]? = some x) (hx : Loc sc x) (hf : (fc x || decide (sc.names.lookup x = some .local)) = true) (hL : SA Y sc fc es fL) :
    SS Y sc fc (.Assign [.Name x p] (.List es p1) pos) (fun τ => (fL τ).bind fun ds => if ds.length ≤ line then some (.nx (τ.set i (.o ds))) else none) := by
  refine ⟨fun X ok H0 G0 G W H τ σ o w s h Dn q => ?_⟩
  obtain ⟨ds, hds, h⟩ := bnd h
  split at h
  · rename_i hl
    cases h
    refine ⟨_, ps_set ok.nd (by rw [ok.eN]; exact hN) (ok.loc hx) (pe_lst pa_tu) (swaps_no rfl) (ok.hf hf), ?_⟩
    refine hL.run X ok _ _ _ _ _ _ _ _ w s hds _ fun vs G1 H1 e1 w1 dvs => ?_
    refine ⟨le_line (by rw [← dvs.length]; exact hl), fun z hz => ?_⟩
    exact q _ _ _ _ e1 (w1.newO hz) ((s.mono e1).putO (w1.wnone hz) dvs)
  · cases h
theorem frz_ok {K : PySem.W.Frag} {H0 G0 G W H : Hp} {τ : List Sl} {σ : St} (i : Nat) (w : Wd H0 G0 G W H) (s : SlOk K G W τ σ) : ∃ G' W', Sub G G' ∧ Wd H0 G0 G' W' H ∧ SlOk K G' W' (frzD τ i) σ := by
  unfold frzD
  split
  · rename_i ds h
    obtain ⟨a, vs, h1, h2, h3⟩ := s.own i ds h
    have hG := (w.wh _ _ h2).2
    exact ⟨_, _, sub_upd hG, w.give h2, s.give h h1 h2 hG h3⟩
  · exact ⟨G, W, Sub.refl _, w, s⟩
theorem attr_base {x m : Str} {env : Env} : attributeBase (.Name x p) m env (eval (.Name x p) env) = eval (.Name x p) env := rfl
theorem ss_app {i : Nat} {x : Str} {ap : Pos} (hN : Y.N[i]? = some x) (hv : Vis sc x) (hd : (x == ("__debug__" : Str)) = false) (hcd : (x == ("__classdict__" : Str)) = false) (hn : notStar a = true) (ha : SE Y sc fc a fa)
    (hline : (ap.endLine == p1.line) = true) :
    SS Y sc fc (.Expr (.Call (.Attribute (.Name x p) "append" ap) [a] [] p1) pos) (fun τ => (fa τ).bind fun d => (getO τ i).bind fun xs => if xs.length < line then some (.nx (τ.set i (.o (xs ++ [d])))) else none) := by
  refine ⟨fun X ok H0 G0 G W H τ σ o w s h Dn q => ?_⟩
  obtain ⟨d, hd', h⟩ := bnd h
  obtain ⟨xs, hxs, h⟩ := bnd h
  split at h
  · rename_i hl
    cases h
    have ho := getO_some hxs
    obtain ⟨b, vs, h1, h2, h3⟩ := s.own i xs ho
    refine ⟨_, ps_expr (pe_bm PySem.F.plainAttrs_list PySem.F.slot_list_append PySem.F.type_list_append mt_append (pe_var (by rw [ok.eN]; exact hN) (ok.vis hv) hd hcd) (pa_cons pe_tu pa_nil (star_cons hn)) attr_base
      (by rw [star_cons hn]; rfl) hline (star_cons hn) rfl) (by rfl), ?_⟩
    refine ⟨_, h1, .inl ⟨rfl, vs, SqL.of (w.wh _ _ h2).1⟩, ?_⟩
    refine ha.run X ok _ _ _ _ _ _ _ _ w s hd' _ fun v G1 H1 e1 w1 dv => ?_
    refine ⟨b, vs, v, rfl, rfl, (w1.wh _ _ h2).1, lt_line (by rw [← h3.length]; exact hl), ?_⟩
    exact q _ _ _ _ e1 (w1.set h2) ((s.mono e1).chg ho h1 ((h3.mono e1).snoc dv))
  · cases h
theorem ss_ret (ha : SE Y sc fc a fa) : SS Y sc fc (.Return (some a) pos) (fun τ => (fa τ).map .rt) := by
  refine ⟨fun X ok H0 G0 G W H τ σ o w s h Dn q => ?_⟩
  obtain ⟨d, hd, rfl⟩ := mpd h
  refine ⟨_, ps_ret pe_tu, ?_⟩
  exact ha.run X ok _ _ _ _ _ _ _ _ w s hd _ fun v G1 H1 e1 w1 dv => q v G1 _ H1 e1 w1 dv
theorem ss_retN : SS Y sc fc (.Return none pos) (fun _ => some (.rt .non)) :=
  ⟨fun X ok H0 G0 G W H τ σ o w s h Dn q => by cases h; exact ⟨_, ps_retN, q .non G W H (Sub.refl _) w (by simp only [Den])⟩⟩
theorem ss_pass : SS Y sc fc (.Pass pos) (fun τ => some (.nx τ)) :=
  ⟨fun X ok H0 G0 G W H τ σ o w s h Dn q => by cases h; exact ⟨_, ps_pass, q σ G W H (Sub.refl _) w s⟩⟩
theorem ss_brk : SS Y sc fc (.Break pos) (fun τ => some (.bk τ)) :=
  ⟨fun X ok H0 G0 G W H τ σ o w s h Dn q => by cases h; exact ⟨_, ps_break, q σ G W H (Sub.refl _) w s⟩⟩
theorem ss_cont : SS Y sc fc (.Continue pos) (fun τ => some (.ct τ)) :=
  ⟨fun X ok H0 G0 G W H τ σ o w s h Dn q => by cases h; exact ⟨_, ps_continue, q σ G W H (Sub.refl _) w s⟩⟩
theorem ss_if (hc : ST Y sc fc a ga) (h1 : SSs Y sc fc sts fs) (h2 : SSs Y sc fc us gs) : SS Y sc fc (.If a sts us pos) (fun τ => (ga τ).bind fun k => bif k then fs τ else gs τ) := by
  refine ⟨fun X ok H0 G0 G W H τ σ o w s h Dn q => ?_⟩
  obtain ⟨k, hk, h⟩ := bnd h
  refine ⟨_, ps_if pt_tu pss_tu pss_tu, ?_⟩
  refine hc.run X ok _ _ _ _ _ _ _ _ w s hk _ fun G1 H1 e1 w1 => ?_
  cases k with
  | true => exact iteT (h1.run X ok _ _ _ _ _ _ _ _ w1 (s.mono e1) h _ (q.mono e1))
  | false => exact iteF (h2.run X ok _ _ _ _ _ _ _ _ w1 (s.mono e1) h _ (q.mono e1))
theorem ss_for {iter : Expr} (hi : SI Y sc fc tg iter fL) (hs : notSet iter = true) (hg : SG Y sc fc tg t) (hb : SSs Y sc fc sts fs) : SS Y sc fc (.For tg iter sts [] pos) (fun τ => (fL τ).bind fun ds => forL t fs ds τ) := by
  refine ⟨fun X ok H0 G0 G W H τ σ o w s h Dn q => ?_⟩
  obtain ⟨ds, hds, h⟩ := bnd h
  refine ⟨_, ps_for ok.never ok.calm pi_tu pg_tu pss_tu (folded_no hs), ?_⟩
  refine hi.run X ok _ _ _ _ _ _ _ _ w s hds _ fun J n Gp Yp G1 H1 e1 w1 wk hn hgp hy => ?_
  refine for_it wk (fun i σ' H' => ∃ G' W' τ', Sub G1 G' ∧ Wd H0 G0 G' W' H' ∧ SlOk X.K G' W' τ' σ' ∧ forL t fs (ds.drop i) τ' = some o) ⟨G1, W, τ, Sub.refl _, w1, s.mono e1, by simpa using h⟩ ?_ ?_ ?_
  · rintro i σ' H' _ ⟨G', W', τ', e', w', _⟩
    exact hgp H' (e'.trans w'.gh)
  · rintro i x σ' H' H'' hin ⟨G', W', τ', e', w', s', hrest⟩ hyi
    obtain ⟨G2, d, e2, w2, hd, dx⟩ := hy i H' x H'' G' _ hin e' w' hyi
    have hdrop : ds.drop i = d :: ds.drop (i + 1) := by
      obtain ⟨hlt, hget⟩ := List.getElem?_eq_some_iff.mp hd
      rw [List.drop_eq_getElem_cons hlt, hget]
    rw [hdrop] at hrest
    simp only [forL] at hrest
    obtain ⟨τ1, hτ1, hrest⟩ := bnd hrest
    obtain ⟨o1, ho1, hrest⟩ := bnd hrest
    refine hg.run X ok _ _ _ _ _ _ _ _ _ _ w2 (s'.mono e2) dx hτ1 _ fun σ2 s2 _ => ?_
    refine hb.run X ok _ _ _ _ _ _ _ _ w2 s2 ho1 _ ?_
    cases o1 with
    | nx τ2 => exact fun σ3 G3 W3 H3 e3 w3 s3 => ⟨G3, W3, τ2, (e'.trans e2).trans e3, w3, s3, hrest⟩
    | ct τ2 => exact fun σ3 G3 W3 H3 e3 w3 s3 => ⟨G3, W3, τ2, (e'.trans e2).trans e3, w3, s3, hrest⟩
    | bk τ2 =>
      cases hrest
      exact fun σ3 G3 W3 H3 e3 w3 s3 => q σ3 G3 W3 H3 (((e1.trans e').trans e2).trans e3) w3 s3
    | rt d2 =>
      cases hrest
      exact fun v G3 W3 H3 e3 w3 d3 => q v G3 W3 H3 (((e1.trans e').trans e2).trans e3) w3 d3
  · rintro σ' H' ⟨G', W', τ', e', w', s', hrest⟩
    rw [hn, List.drop_length] at hrest
    cases hrest
    exact q σ' G' W' H' (e1.trans e') w' s'
theorem ss_whl {n : Nat} (hc : ST Y sc fc a (fun τ => (fa τ).bind truth)) (hb : SSs Y sc fc sts fs) : SS Y sc fc (.While a sts [] pos) (fun τ => whlL fa fs n τ) := by
  refine ⟨fun X ok H0 G0 G W H τ σ o w s h Dn q => ?_⟩
  refine ⟨_, ps_while ok.never pt_tu pss_tu, ?_⟩
  refine ⟨fun m σ' H' => ∃ G' W' τ', Sub G G' ∧ Wd H0 G0 G' W' H' ∧ SlOk X.K G' W' τ' σ' ∧ whlL fa fs m τ' = some o, ⟨n, G, W, τ, Sub.refl _, w, s, h⟩, ?_⟩
  rintro m σ' H' ⟨G', W', τ', e', w', s', hm⟩
  cases m with
  | zero => cases hm
  | succ m =>
    simp only [whlL] at hm
    obtain ⟨k, hk, hm⟩ := bnd hm
    refine hc.run X ok _ _ _ _ _ _ _ _ w' s' hk _ fun G1 H1 e1 w1 => ?_
    cases k with
    | false =>
      cases hm
      exact iteF (q σ' G1 W' H1 (e'.trans e1) w1 (s'.mono e1))
    | true =>
      obtain ⟨o1, ho1, hm⟩ := bnd hm
      refine iteT ⟨fun σ2 H2 => ∃ G2 W2 τ2, Sub G G2 ∧ Wd H0 G0 G2 W2 H2 ∧ SlOk X.K G2 W2 τ2 σ2 ∧ whlL fa fs m τ2 = some o, fun σ2 H2 h2 => ⟨m, Nat.lt_succ_self m, h2⟩, ?_⟩
      refine hb.run X ok _ _ _ _ _ _ _ _ w1 (s'.mono e1) ho1 _ ?_
      cases o1 with
      | nx τ2 => exact fun σ3 G3 W3 H3 e3 w3 s3 => ⟨G3, W3, τ2, (e'.trans e1).trans e3, w3, s3, hm⟩
      | ct τ2 => exact fun σ3 G3 W3 H3 e3 w3 s3 => ⟨G3, W3, τ2, (e'.trans e1).trans e3, w3, s3, hm⟩
      | bk τ2 =>
        cases hm
        exact fun σ3 G3 W3 H3 e3 w3 s3 => q σ3 G3 W3 H3 ((e'.trans e1).trans e3) w3 s3
      | rt d2 =>
        cases hm
        exact fun v G3 W3 H3 e3 w3 d3 => q v G3 W3 H3 ((e'.trans e1).trans e3) w3 d3
theorem sss_nil : SSs Y sc fc [] (fun τ => some (.nx τ)) :=
  ⟨fun X ok H0 G0 G W H τ σ o w s h Dn q => by cases h; exact ⟨_, pss_nil, q σ G W H (Sub.refl _) w s⟩⟩
theorem sss_cons (h1 : SS Y sc fc st fs) (h2 : SSs Y sc fc sts gs) : SSs Y sc fc (st :: sts) (fun τ => (fs τ).bind fun o => match o with
    | .nx τ2 => gs τ2
    | .rt d => some (.rt d)
    | .bk τ2 => some (.bk τ2)
    | .ct τ2 => some (.ct τ2)) := by
  refine ⟨fun X ok H0 G0 G W H τ σ o w s h Dn q => ?_⟩
  obtain ⟨o1, ho1, h⟩ := bnd h
  refine ⟨_, pss_cons ps_tu pss_tu, ?_⟩
  refine h1.run X ok _ _ _ _ _ _ _ _ w s ho1 _ ?_
  cases o1 with
  | nx τ2 => exact fun σ3 G3 W3 H3 e3 w3 s3 => h2.run X ok _ _ _ _ _ _ _ _ w3 s3 h _ (q.mono e3)
  | ct τ2 => cases h; exact q
  | bk τ2 => cases h; exact q
  | rt d2 => cases h; exact q
theorem sss_frz {i : Nat} (h2 : SSs Y sc fc sts gs) : SSs Y sc fc sts (fun τ => gs (frzD τ i)) := by
  refine ⟨fun X ok H0 G0 G W H τ σ o w s h Dn q => ?_⟩
  obtain ⟨G', W', e', w', s'⟩ := frz_ok i w s
  exact h2.run X ok _ _ _ _ _ _ _ _ w' s' h _ (q.mono e')
/-- x = [.. for ..] -/
theorem ss_lc {i : Nat} {x : Str} {scope : Scope} {own : List (Str × Nat)} {iter elt : Expr} {ifs : List Expr} (hN : Y.N[i]? = some x) (hx : Loc sc x) (hf : (fc x || decide (sc.names.lookup x = some .local)) = true)
    (hi : SI Y sc fc tg iter fL) (hs : notSet iter = true) (hbk : blkC Y.N sc scope own = true)
    (hg : SG Y (relS scope sc) (fun x => scope.names.lookup x == some .cell) tg t) (ht : SCs Y (relS scope sc) (fun x => scope.names.lookup x == some .cell) ifs (fun τ => (fb τ).bind truth)) (he : SE Y (relS scope sc) (fun x => scope.names.lookup x == some .cell) elt fd)
    (hv : ∀ i ∈ tixs t, i ∈ own.map (·.2)) :
    SS Y sc fc (.Assign [.Name x p] (.ListComp elt [⟨tg, iter, ifs, 0⟩] scope p1) pos) (fun τ => ((fL τ).bind fun ds => if ds.length ≤ line then (lcL t fb fd (wipeD τ (own.map fun p => p.2)) ds).map .lst else none).bind fun d => (setT (.nm i) d τ).map .nx) := by
  refine ⟨fun X ok H0 G0 G W H τ σ o w s h Dn q => ?_⟩
  obtain ⟨d, hd, h⟩ := bnd h
  have he' := se_lc (pos := p1) hi hs hbk hg ht he hv
  cases hsw : (X.env.blockKind == .function && X.env.kindOf x == some .local && p.line == p1.line && !(scope.names.any fun (n, k) => n == x && (k == .local || k == .cell))) with
  | false =>
    cases h
    have e : swapsWith (.ListComp elt [⟨tg, iter, ifs, 0⟩] scope p1) (some (.Name x p)) pos.line X.env = pure false := by
      show (pure (X.env.blockKind == .function && X.env.kindOf x == some .local && p.line == p1.line && !(scope.names.any fun (n, k) => n == x && (k == .local || k == .cell))) : PySem.Sem Bool) = _
      rw [hsw]
    refine ⟨_, ps_set ok.nd (by rw [ok.eN]; exact hN) (ok.loc hx) pe_tu e (ok.hf hf), ?_⟩
    refine he'.run X ok _ _ _ _ _ _ _ _ w s hd _ fun v G1 H1 e1 w1 dv => ?_
    exact q _ _ _ _ e1 w1 ((s.mono e1).put dv)
  | true =>
    cases h
    obtain ⟨ds, hds, hd⟩ := bnd hd
    split at hd
    · rename_i hlen
      obtain ⟨xs, hxs, rfl⟩ := mpd hd
      have e : swapsWith (.ListComp elt [⟨tg, iter, ifs, 0⟩] scope p1) (some (.Name x p)) pos.line X.env = pure true := by
        show (pure (X.env.blockKind == .function && X.env.kindOf x == some .local && p.line == p1.line && !(scope.names.any fun (n, k) => n == x && (k == .local || k == .cell))) : PySem.Sem Bool) = _
        rw [hsw]
      have hloc : X.env.scope.names.lookup x = some .local := by
        simp only [Bool.and_eq_true] at hsw
        have := hsw.1.1.2
        simpa [Env.kindOf] using this
      refine ⟨_, ps_setLc (own := own) ok.calm ok.nd (by rw [ok.eN]; exact hN) hloc e pi_tu (blkOk_by (by rw [ok.eN, ok.sc]; exact hbk)) (fun s1 H1 C cl fp => ⟨fun pins s2 σ2 H2 v u Q2 I r h2 => pg_tu.run pins s2 σ2 H2 v u Q2 I r (h2 s1 H1 C cl fp)⟩)
        (fun s1 H1 C cl fp => ⟨fun pins s2 σ2 H2 Q2 I h2 => pts_tu.run pins s2 σ2 H2 Q2 I (h2 s1 H1 C cl fp)⟩) (fun s1 H1 C cl fp => ⟨fun pins s2 σ2 H2 Q2 I h2 => pe_tu.run pins s2 σ2 H2 Q2 I (h2 s1 H1 C cl fp)⟩) (folded_no hs),
        lc_read hi hg ht he hv ok w s hds hlen hxs fun p vs G' H' hp e' w' hW dxs => ?_⟩
      have hG := (w'.wh p _ upd_same).2
      have w2 := w'.give (o := .lst vs) upd_same
      have ew : del (upd W p (.lst vs)) p = W := by
        funext a
        by_cases ha : a = p
        · subst ha; rw [del_same]; exact hW.symm
        · rw [del_ne ha, upd_ne ha]
      rw [ew] at w2
      refine q _ _ _ _ (e'.trans (sub_upd hG)) w2 ((s.mono (e'.trans (sub_upd hG))).put ?_)
      simp only [Den]
      exact ⟨p, vs, rfl, upd_same, dxs.mono (sub_upd hG)⟩
    · cases hd
end
end
end Pv

set_option Elab.async false
set_option linter.all false
set_option maxRecDepth 100000
set_option maxHeartbeats 4000000

namespace Pv
open PySem PySem.Spec L2

/-! ### the checker: the text's tree against the small language -/
def visB (sc : Scope) (x : Str) : Bool := match sc.names.lookup x with
  | some .local => true | some .cell => true | some .free => true | _ => false
def locB (sc : Scope) (x : Str) : Bool := match sc.names.lookup x with
  | some .local => true | some .cell => true | _ => false
def glB (sc : Scope) (x : Str) : Bool := match sc.names.lookup x with
  | some .globalImplicit => true | _ => false
def nmB (x : Str) : Bool := !(x == ("__debug__" : Str)) && !(x == ("__classdict__" : Str))
def memP (l : List (Nat × Str)) (k : Nat) (x : Str) : Bool := l.any fun p => decide (p.1 = k) && decide (p.2 = x)
def memS (l : List Str) (x : Str) : Bool := l.any fun y => decide (y = x)
def hfB (sc : Scope) (fc : Str → Bool) (x : Str) : Bool := fc x || decide (sc.names.lookup x = some .local)
def notIf : Expr → Bool
  | .IfExp .. => false
  | _ => true
theorem visB_ok {sc : Scope} {x : Str} (h : visB sc x = true) : Vis sc x := by
  unfold visB at h
  split at h <;> first | exact .inl ‹_› | exact .inr (.inl ‹_›) | exact .inr (.inr ‹_›) | cases h
theorem locB_ok {sc : Scope} {x : Str} (h : locB sc x = true) : Loc sc x := by
  unfold locB at h
  split at h <;> first | exact .inl ‹_› | exact .inr ‹_› | cases h
theorem glB_ok {sc : Scope} {x : Str} (h : glB sc x = true) : sc.names.lookup x = some .globalImplicit := by
  unfold glB at h
  split at h <;> first | assumption | cases h
theorem nmB_ok {x : Str} (h : nmB x = true) : (x == ("__debug__" : Str)) = false ∧ (x == ("__classdict__" : Str)) = false := by
  simpa [nmB] using h
theorem memP_ok {l : List (Nat × Str)} {k : Nat} {x : Str} (h : memP l k x = true) : (k, x) ∈ l := by
  unfold memP at h
  rw [List.any_eq_true] at h
  obtain ⟨p, hp, e⟩ := h
  simp only [Bool.and_eq_true, decide_eq_true_eq] at e
  obtain ⟨e1, e2⟩ := e
  rw [← e1, ← e2]
  exact hp
theorem memS_ok {l : List Str} {x : Str} (h : memS l x = true) : x ∈ l := by
  unfold memS at h
  rw [List.any_eq_true] at h
  obtain ⟨p, hp, e⟩ := h
  rw [decide_eq_true_eq] at e
  rw [← e]
  exact hp

def ckC (d : D) (c : Const) : Bool := match d, c with
  | .int n, .int m => decide (n = m)
  | .bl b, .bool c => b == c
  | .non, .none => true
  | .str x, .str s => decide (s = mkS x)
  | _, _ => false
def ckTy (Y : Stat) (sc : Scope) : List Ty → List Expr → Bool
  | [], [] => true
  | t :: ts, .Name x _ :: ns => decide (x = nmT t) && memS Y.bl x && glB sc x && ckTy Y sc ts ns
  | _, _ => false
def ckGs (Y : Stat) (sc : Scope) (fc : Str → Bool) : List Nat → List Expr → Bool
  | [], [] => true
  | i :: is, .Name x _ :: ns => decide (Y.N[i]? = some x) && locB sc x && hfB sc fc x && ckGs Y sc fc is ns
  | _, _ => false
def ckG (Y : Stat) (sc : Scope) (fc : Str → Bool) (t : T) (e : Expr) : Bool := match t, e with
  | .nm i, .Name x _ => decide (Y.N[i]? = some x) && locB sc x && hfB sc fc x
  | .tp is, .Tuple es _ _ => ckGs Y sc fc is es
  | _, _ => false
def isTupE : Expr → Bool
  | .Tuple .. => true
  | _ => false
def bfOk (Y : Stat) (f : BF) : Bool := match f with
  | .gcd => Y.gcd
  | f => memS Y.bl (nmF f)
mutual
def ckE (Y : Stat) : E → Scope → (Str → Bool) → Expr → Bool
  | .c d, _, _, e => match e with
    | .Constant c _ _ => ckC d c
    | _ => false
  | .v i, sc, _, e => match e with
    | .Name x _ => decide (Y.N[i]? = some x) && visB sc x && nmB x
    | _ => false
  | .g k, sc, _, e => match e with
    | .Name x _ => memP Y.cns k x && glB sc x && nmB x
    | _ => false
  | .bin o x y, sc, fc, e => match e with
    | .BinOp a op b _ => decide (op = opB o) && ckE Y x sc fc a && ckE Y y sc fc b
    | _ => false
  | .neg x, sc, fc, e => match e with
    | .UnaryOp .USub a _ => ckE Y x sc fc a
    | _ => false
  | .not x, sc, fc, e => match e with
    | .UnaryOp .Not a _ => notIf a && ckE Y x sc fc a
    | _ => false
  | .and x y, sc, fc, e => match e with
    | .BoolOp .And (a :: b :: r) _ => notIf a && ckE Y x sc fc a && ckB Y true y sc fc (b :: r)
    | _ => false
  | .or x y, sc, fc, e => match e with
    | .BoolOp .Or (a :: b :: r) _ => notIf a && ckE Y x sc fc a && ckB Y false y sc fc (b :: r)
    | _ => false
  | .last _, _, _, _ => false
  | .nil, _, _, _ => false
  | .cmp o x y, sc, fc, e => match e with
    | .Compare a [op] [b] _ => decide (op = opC o) && notSet b && ckE Y x sc fc a && ckE Y y sc fc b
    | _ => false
  | .chain o q x y z, sc, fc, e => match e with
    | .Compare a [op, oq] [b, c] _ => decide (op = opC o) && decide (oq = opC q) && notSet c && ckE Y x sc fc a && ckE Y y sc fc b && ckE Y z sc fc c
    | _ => false
  | .ite t x y, sc, fc, e => match e with
    | .IfExp c a b _ => notIf c && ckE Y t sc fc c && ckE Y x sc fc a && ckE Y y sc fc b
    | _ => false
  | .tup es, sc, fc, e => match e with
    | .Tuple ns _ _ => ckL Y es sc fc ns
    | _ => false
  | .lst es, sc, fc, e => match e with
    | .List ns _ => ckL Y es sc fc ns
    | _ => false
  | .dct es, sc, fc, e => match e with
    | .Dict [] [] _ => es.isEmpty
    | .Dict (k :: kr) ns _ => decide ((k :: kr).length = ns.length) && decide ((k :: kr).length ≤ 15) && (k :: kr).all (·.isSome) && ckD Y es sc fc (k :: kr) ns
    | _ => false
  | .ix x y, sc, fc, e => match e with
    | .Subscript a b _ => notSlice b && ckE Y x sc fc a && ckE Y y sc fc b
    | _ => false
  | .sl x l h, sc, fc, e => match e with
    | .Subscript a (.Slice lo hi none _) _ => ckE Y x sc fc a && ckP Y l sc fc lo && ckP Y h sc fc hi
    | _ => false
  | .call f es, sc, fc, e => match e with
    | .Call (.Name x _) ns [] _ => memP Y.fns f x && glB sc x && nmB x && ckL Y es sc fc ns
    | _ => false
  | .blt f es, sc, fc, e => match e with
    | .Call (.Name x _) (n :: ns) [] _ => decide (x = nmF f) && bfOk Y f && glB sc x && ckL Y es sc fc (n :: ns)
    | _ => false
  | .isi x ts many, sc, fc, e => match e with
    | .Call (.Name f _) [a, b] [] _ => decide (f = ("isinstance" : Str)) && memS Y.bl "isinstance" && glB sc "isinstance" && notStar a && ckE Y x sc fc a && (match b with
        | .Tuple ns _ _ => many && decide (ts.length ≤ 100) && ckTy Y sc ts ns
        | b => !many && decide (ts.length = 1) && ckTy Y sc ts [b])
    | _ => false
  | .ixo i y, sc, fc, e => match e with
    | .Subscript (.Name x _) b _ => decide (Y.N[i]? = some x) && visB sc x && nmB x && notSlice b && ckE Y y sc fc b
    | _ => false
  | .leno i, sc, _, e => match e with
    | .Call (.Name f _) [.Name x _] [] _ => decide (f = ("len" : Str)) && memS Y.bl "len" && glB sc "len" && decide (Y.N[i]? = some x) && visB sc x && nmB x
    | _ => false
  | .lc own t it c el, sc, fc, e => match e with
    | .ListComp elt [⟨tg, iter, ifs, 0⟩] scope _ => notSet iter && blkC Y.N sc scope own && ckI Y it sc fc tg iter && ckG Y (relS scope sc) (fun x => scope.names.lookup x == some .cell) t tg &&
        (match ifs with | [] => (match c with | .c (.bl true) => true | _ => false) | [n] => notIf n && ckE Y c (relS scope sc) (fun x => scope.names.lookup x == some .cell) n | _ => false) &&
        ckE Y el (relS scope sc) (fun x => scope.names.lookup x == some .cell) elt && (tixs t).all (fun i => (own.map (·.2)).contains i)
    | _ => false
  | .seq _, _, _, _ => false
  | .r1 _, _, _, _ => false
  | .r2 _ _, _, _, _ => false
  | .enum _, _, _, _ => false
  | .zip _ _, _, _, _ => false
def ckB (Y : Stat) (isAnd : Bool) : E → Scope → (Str → Bool) → List Expr → Bool
  | .last x, sc, fc, es => match es with
    | [a] => notIf a && ckE Y x sc fc a
    | _ => false
  | .and x y, sc, fc, es => match es with
    | a :: b :: r => isAnd && notIf a && ckE Y x sc fc a && ckB Y isAnd y sc fc (b :: r)
    | _ => false
  | .or x y, sc, fc, es => match es with
    | a :: b :: r => !isAnd && notIf a && ckE Y x sc fc a && ckB Y isAnd y sc fc (b :: r)
    | _ => false
  | _, _, _, _ => false
def ckP (Y : Stat) : E → Scope → (Str → Bool) → Option Expr → Bool
  | .nil, _, _, o => o.isNone
  | .last x, sc, fc, o => match o with
    | some n => ckE Y x sc fc n
    | none => false
  | _, _, _, _ => false
def ckI (Y : Stat) : E → Scope → (Str → Bool) → Expr → Expr → Bool
  | .seq x, sc, fc, _, e => ckE Y x sc fc e
  | .r1 x, sc, fc, _, e => match e with
    | .Call (.Name f _) [a] [] _ => decide (f = ("range" : Str)) && memS Y.bl "range" && glB sc "range" && notStar a && ckE Y x sc fc a
    | _ => false
  | .r2 x y, sc, fc, _, e => match e with
    | .Call (.Name f _) [a, b] [] _ => decide (f = ("range" : Str)) && memS Y.bl "range" && glB sc "range" && notStar a && notStar b && ckE Y x sc fc a && ckE Y y sc fc b
    | _ => false
  | .enum x, sc, fc, tg, e => match e with
    | .Call (.Name f _) [a] [] _ => isTupE tg && decide (f = ("enumerate" : Str)) && memS Y.bl "enumerate" && glB sc "enumerate" && notStar a && ckE Y x sc fc a
    | _ => false
  | .zip x y, sc, fc, tg, e => match e with
    | .Call (.Name f _) [a, b] [] _ => isTupE tg && decide (f = ("zip" : Str)) && memS Y.bl "zip" && glB sc "zip" && notStar a && notStar b && ckE Y x sc fc a && ckE Y y sc fc b
    | _ => false
  | _, _, _, _, _ => false
def ckL (Y : Stat) : List E → Scope → (Str → Bool) → List Expr → Bool
  | [], _, _, ns => ns.isEmpty
  | x :: xs, sc, fc, ns => match ns with
    | n :: r => notStar n && ckE Y x sc fc n && ckL Y xs sc fc r
    | [] => false
def ckD (Y : Stat) : List E → Scope → (Str → Bool) → List (Option Expr) → List Expr → Bool
  | [], _, _, kn, ns => kn.isEmpty && ns.isEmpty
  | [_], _, _, _, _ => false
  | x :: y :: xs, sc, fc, kn, ns => match kn, ns with
    | some k :: kr, n :: r => ckE Y x sc fc k && ckE Y y sc fc n && ckD Y xs sc fc kr r
    | _, _ => false
end
section
variable {Y : Stat} {sc : Scope} {fc : Str → Bool}
theorem ckGs_ok : ∀ {is : List Nat} {ns : List Expr}, ckGs Y sc fc is ns = true → SGs Y sc fc ns is ∧ ns.all notStar = true ∧ ns.length = is.length
  | [], [], _ => ⟨sgs_nil, rfl, rfl⟩
  | [], _ :: _, h => by simp [ckGs] at h
  | i :: is, [], h => by simp [ckGs] at h
  | i :: is, n :: ns, h => by
    unfold ckGs at h
    split at h
    · cases ‹_ = []›
    · rename_i i' is' x p ns' e1 e2
      cases e1
      cases e2
      simp only [Bool.and_eq_true, decide_eq_true_eq] at h
      obtain ⟨⟨⟨h1, h2⟩, h3⟩, h4⟩ := h
      obtain ⟨a1, a2, a3⟩ := ckGs_ok h4
      exact ⟨sgs_cons h1 (locB_ok h2) h3 a1, by simp [a2, notStar], by simp [a3]⟩
    · cases h
theorem ckG_ok {t : T} {e : Expr} (h : ckG Y sc fc t e = true) : SG Y sc fc e t := by
  unfold ckG at h
  split at h
  · simp only [Bool.and_eq_true, decide_eq_true_eq] at h
    exact sg_nm h.1.1 (locB_ok h.1.2) h.2
  · obtain ⟨a1, a2, a3⟩ := ckGs_ok h
    exact sg_tp a2 a3 a1
  · cases h
theorem ckTy_ok : ∀ {ts : List Ty} {ns : List Expr}, ckTy Y sc ts ns = true → ns.length = ts.length ∧ ∀ (i : Nat) n t, ns[i]? = some n → ts[i]? = some t → ∃ q, n = Expr.Name (nmT t) q ∧ nmT t ∈ Y.bl ∧ sc.names.lookup (nmT t) = some .globalImplicit
  | [], [], _ => ⟨rfl, fun i n t h => by simp at h⟩
  | [], _ :: _, h => by simp [ckTy] at h
  | t :: ts, [], h => by simp [ckTy] at h
  | t :: ts, n :: ns, h => by
    unfold ckTy at h
    split at h
    · cases ‹_ = []›
    · rename_i t' ts' x p ns' e1 e2
      cases e1
      cases e2
      simp only [Bool.and_eq_true, decide_eq_true_eq] at h
      obtain ⟨⟨⟨h1, h2⟩, h3⟩, h4⟩ := h
      subst h1
      obtain ⟨a1, a2⟩ := ckTy_ok h4
      refine ⟨by simp [a1], fun i n t hn ht => ?_⟩
      cases i with
      | zero =>
        simp at hn ht
        subst hn ht
        exact ⟨p, rfl, memS_ok h2, glB_ok h3⟩
      | succ i => exact a2 i n t (by simpa using hn) (by simpa using ht)
    · cases h
end
end Pv

set_option Elab.async false
set_option linter.all false
set_option maxRecDepth 100000
set_option maxHeartbeats 4000000

namespace Pv
open PySem PySem.Spec L2

/-! ### what the checker says is so -/
section
variable (Y : Stat)
def OkE (ir : E) : Prop := ∀ sc fc e, ckE Y ir sc fc e = true → SE Y sc fc e (evE Y.Z ir) ∧ (notIf e = true → ST Y sc fc e (fun τ => (evE Y.Z ir τ).bind truth))
end
theorem tr_bl {o : Option Bool} : (o.map D.bl).bind truth = o := by cases o <;> rfl
theorem ckC_ok {Y : Stat} {sc : Scope} {fc : Str → Bool} {d : D} {c : Const} {k : Nat} {p : Pos} (h : ckC d c = true) : SE Y sc fc (.Constant c k p) (fun _ => some d) := by
  unfold ckC at h
  split at h
  · have := of_decide_eq_true h; subst this; exact se_int
  · rename_i b b'
    have : b = b' := by simpa using h
    subst this; exact se_bl
  · exact se_non
  · have := of_decide_eq_true h; subst this; exact se_str
  · cases h
theorem bf_ok {Y : Stat} {f : BF} (h : bfOk Y f = true) : (f = .gcd → Y.gcd = true) ∧ (f ≠ .gcd → nmF f ∈ Y.bl) := by
  cases f <;> first
    | exact ⟨fun _ => h, fun z => absurd rfl z⟩
    | exact ⟨fun z => (by cases z), fun _ => memS_ok h⟩
section
variable {Y : Stat} {sc : Scope} {fc : Str → Bool}
/-- a name, a call .. : its test is its value's truth -/
theorem both {e : Expr} {f : List Sl → Option D} (h : SE Y sc fc e f) (hp : plainTest e = true) : SE Y sc fc e f ∧ (notIf e = true → ST Y sc fc e (fun τ => (f τ).bind truth)) := ⟨h, fun _ => st_of h hp⟩
theorem and_imp {x y : Option D} {b : Bool} (h : ((x.bind blD).bind fun k => bif k then y else some (D.bl false)).bind truth = some b) : ((x.bind truth).bind fun k => bif k then y.bind truth else some false) = some b := by
  obtain ⟨d, h1, h2⟩ := bnd h
  obtain ⟨k, h3, h4⟩ := bnd h1
  obtain ⟨z, h5, h6⟩ := bnd h3
  have := blD_some h6
  subst this
  rw [h5]
  cases k with
  | true =>
    have h4' : y = some d := h4
    show y.bind truth = some b
    rw [h4']; exact h2
  | false =>
    cases h4
    exact h2
theorem or_imp {x y : Option D} {b : Bool} (h : ((x.bind blD).bind fun k => bif k then some (D.bl true) else y).bind truth = some b) : ((x.bind truth).bind fun k => bif k then some true else y.bind truth) = some b := by
  obtain ⟨d, h1, h2⟩ := bnd h
  obtain ⟨k, h3, h4⟩ := bnd h1
  obtain ⟨z, h5, h6⟩ := bnd h3
  have := blD_some h6
  subst this
  rw [h5]
  cases k with
  | false =>
    have h4' : y = some d := h4
    show y.bind truth = some b
    rw [h4']; exact h2
  | true =>
    cases h4
    exact h2
end
section
variable {Y : Stat} {sc : Scope} {fc : Str → Bool} {a : Expr} {pos : Pos} {f : List Sl → Option D}
theorem st_neg (ha : SE Y sc fc (.UnaryOp .USub a pos) f) : ST Y sc fc (.UnaryOp .USub a pos) (fun τ => (f τ).bind truth) := by
  refine ⟨fun X ok H0 G0 G W H τ σ d w s h Q q => ?_⟩
  obtain ⟨x, hx, h⟩ := bnd h
  refine ⟨_, pt_truth pe_tu (fun _ => rfl), ?_⟩
  refine ha.run X ok _ _ _ _ _ _ _ _ w s hx _ fun v G1 H1 e1 w1 dv => ?_
  exact ⟨_, tru_run h dv w1.gh, q _ _ e1 w1⟩
end
mutual
theorem ckE_ok (Y : Stat) : ∀ (ir : E) (sc : Scope) (fc : Str → Bool) (e : Expr), ckE Y ir sc fc e = true → SE Y sc fc e (evE Y.Z ir) ∧ (notIf e = true → ST Y sc fc e (fun τ => (evE Y.Z ir τ).bind truth))
  | .c d, sc, fc, e, h => by
    unfold ckE at h
    split at h
    · exact both (by exact ckC_ok h) rfl
    · cases h
  | .v i, sc, fc, e, h => by
    unfold ckE at h
    split at h
    · simp only [Bool.and_eq_true, decide_eq_true_eq] at h
      exact both (by exact se_var h.1.1 (visB_ok h.1.2) (nmB_ok h.2).1 (nmB_ok h.2).2) rfl
    · cases h
  | .g k, sc, fc, e, h => by
    unfold ckE at h
    split at h
    · simp only [Bool.and_eq_true] at h
      exact both (by exact se_glob (memP_ok h.1.1) (glB_ok h.1.2) (nmB_ok h.2).1) rfl
    · cases h
  | .bin o x y, sc, fc, e, h => by
    unfold ckE at h
    split at h
    · simp only [Bool.and_eq_true, decide_eq_true_eq] at h
      obtain ⟨⟨h1, h2⟩, h3⟩ := h
      subst h1
      exact both (by exact se_bin (ckE_ok Y x _ _ _ h2).1 (ckE_ok Y y _ _ _ h3).1) rfl
    · cases h
  | .neg x, sc, fc, e, h => by
    unfold ckE at h
    split at h
    · exact ⟨by exact se_neg (ckE_ok Y x _ _ _ h).1, fun _ => st_neg (by exact se_neg (ckE_ok Y x _ _ _ h).1)⟩
    · cases h
  | .not x, sc, fc, e, h => by
    unfold ckE at h
    split at h
    · simp only [Bool.and_eq_true] at h
      have ih := ckE_ok Y x _ _ _ h.2
      refine ⟨by exact se_not ih.1, fun _ => (st_not (ih.2 h.1)).imp fun τ b hb => ?_⟩
      unfold evE at hb
      cases hx : (evE Y.Z x τ).bind truth with
      | none => rw [hx] at hb; cases hb
      | some k => rw [hx] at hb; exact hb
    · cases h
  | .and x y, sc, fc, e, h => by
    unfold ckE at h
    split at h
    · simp only [Bool.and_eq_true] at h
      have i1 := ckE_ok Y x _ _ _ h.1.2
      have i2 := ckBa_ok Y y _ _ _ h.2
      refine ⟨by exact se_and i1.1 (i2.1 _), fun _ => (sw_and (i1.2 h.1.1) (i2.2 _)).st.imp fun τ b hb => ?_⟩
      unfold evE at hb
      exact and_imp hb
    · cases h
  | .or x y, sc, fc, e, h => by
    unfold ckE at h
    split at h
    · simp only [Bool.and_eq_true] at h
      have i1 := ckE_ok Y x _ _ _ h.1.2
      have i2 := ckBo_ok Y y _ _ _ h.2
      refine ⟨by exact se_or i1.1 (i2.1 _), fun _ => (sw_or (i1.2 h.1.1) (i2.2 _)).st.imp fun τ b hb => ?_⟩
      unfold evE at hb
      exact or_imp hb
    · cases h
  | .last x, sc, fc, e, h => by unfold ckE at h; cases h
  | .nil, sc, fc, e, h => by unfold ckE at h; cases h
  | .cmp o x y, sc, fc, e, h => by
    unfold ckE at h
    split at h
    · simp only [Bool.and_eq_true, decide_eq_true_eq] at h
      obtain ⟨⟨⟨h1, h2⟩, h3⟩, h4⟩ := h
      subst h1
      have i1 := (ckE_ok Y x _ _ _ h3).1
      have i2 := (ckE_ok Y y _ _ _ h4).1
      refine ⟨by exact se_cmp i1 i2 h2, fun _ => (st_cmp i1 i2 h2).imp fun τ b hb => ?_⟩
      unfold evE at hb
      obtain ⟨d, hb, ht⟩ := bnd hb
      obtain ⟨u, hu, hb⟩ := bnd hb
      obtain ⟨v, hv, hb⟩ := bnd hb
      obtain ⟨k, hk, rfl⟩ := mpd hb
      cases ht
      rw [hu, hv]; exact hk
    · cases h
  | .chain o q x y z, sc, fc, e, h => by
    unfold ckE at h
    split at h
    · simp only [Bool.and_eq_true, decide_eq_true_eq] at h
      obtain ⟨⟨⟨⟨⟨h1, h2⟩, h3⟩, h4⟩, h5⟩, h6⟩ := h
      subst h1 h2
      have i1 := (ckE_ok Y x _ _ _ h4).1
      have i2 := (ckE_ok Y y _ _ _ h5).1
      have i3 := (ckE_ok Y z _ _ _ h6).1
      refine ⟨by exact se_chain i1 i2 i3 h3, fun _ => (st_chain i1 i2 i3 h3).imp fun τ b hb => ?_⟩
      unfold evE at hb
      obtain ⟨d, hb, ht⟩ := bnd hb
      obtain ⟨u, hu, hb⟩ := bnd hb
      obtain ⟨v, hv, hb⟩ := bnd hb
      obtain ⟨k, hk, hb⟩ := bnd hb
      rw [hu, hv]
      show ((cmpD o u v).bind _) = _
      rw [hk]
      cases k with
      | false => cases hb; exact ht
      | true =>
        obtain ⟨w, hw, hb⟩ := bnd hb
        obtain ⟨m, hm, rfl⟩ := mpd hb
        cases ht
        show ((evE Y.Z z τ).bind _) = _
        rw [hw]; exact hm
    · cases h
  | .ite t x y, sc, fc, e, h => by
    unfold ckE at h
    split at h
    · simp only [Bool.and_eq_true] at h
      obtain ⟨⟨⟨h1, h2⟩, h3⟩, h4⟩ := h
      exact ⟨by exact se_ite ((ckE_ok Y t _ _ _ h2).2 h1) (ckE_ok Y x _ _ _ h3).1 (ckE_ok Y y _ _ _ h4).1, fun z => by simp [notIf] at z⟩
    · cases h
  | .tup es, sc, fc, e, h => by
    unfold ckE at h
    split at h
    · exact both (by exact se_tup (ckL_ok Y es _ _ _ h).1) rfl
    · cases h
  | .lst es, sc, fc, e, h => by
    unfold ckE at h
    split at h
    · exact both (by exact se_lst (ckL_ok Y es _ _ _ h).1) rfl
    · cases h
  | .dct es, sc, fc, e, h => by
    unfold ckE at h
    split at h
    · have : es = [] := by simpa using h
      subst this
      exact both (by exact se_dct0) rfl
    · simp only [Bool.and_eq_true, decide_eq_true_eq] at h
      obtain ⟨⟨⟨h1, h2⟩, h3⟩, h4⟩ := h
      exact both (by exact se_dct (by simp) h3 h1 h2 (ckD_ok Y es _ _ _ _ _ h4)) rfl
    · cases h
  | .ix x y, sc, fc, e, h => by
    unfold ckE at h
    split at h
    · simp only [Bool.and_eq_true] at h
      exact both (by exact se_ix (ckE_ok Y x _ _ _ h.1.2).1 (ckE_ok Y y _ _ _ h.2).1 h.1.1) rfl
    · cases h
  | .sl x l u, sc, fc, e, h => by
    unfold ckE at h
    split at h
    · simp only [Bool.and_eq_true] at h
      obtain ⟨⟨h1, h2⟩, h3⟩ := h
      exact both (by exact se_sl (ckE_ok Y x _ _ _ h1).1 (ckP_ok Y l _ _ _ h2) (ckP_ok Y u _ _ _ h3)) rfl
    · cases h
  | .call f es, sc, fc, e, h => by
    unfold ckE at h
    split at h
    · rename_i x p ns pos
      simp only [Bool.and_eq_true] at h
      obtain ⟨⟨⟨h1, h2⟩, h3⟩, h4⟩ := h
      have ih := ckL_ok Y es _ _ _ h4
      cases ns with
      | nil =>
        refine both ((se_call0 (memP_ok h1) (glB_ok h2) (nmB_ok h3).1).imp fun τ b hb => ?_) rfl
        have : es = [] := by
          cases es with
          | nil => rfl
          | cons x r => unfold ckL at h4; cases h4
        subst this
        unfold evE evL at hb
        exact hb
      | cons a r => exact both (by exact se_call (memP_ok h1) (glB_ok h2) (nmB_ok h3).1 ih.2 ih.1) rfl
    · cases h
  | .blt f es, sc, fc, e, h => by
    unfold ckE at h
    split at h
    · simp only [Bool.and_eq_true, decide_eq_true_eq] at h
      obtain ⟨⟨⟨h1, h2⟩, h3⟩, h4⟩ := h
      subst h1
      have ih := ckL_ok Y es _ _ _ h4
      exact both (by exact se_blt (bf_ok h2).1 (bf_ok h2).2 (glB_ok h3) ih.2 ih.1) rfl
    · cases h
  | .isi x ts many, sc, fc, e, h => by
    unfold ckE at h
    split at h
    · simp only [Bool.and_eq_true, decide_eq_true_eq] at h
      obtain ⟨⟨⟨⟨⟨h1, h2⟩, h3⟩, h4⟩, h5⟩, h6⟩ := h
      subst h1
      have ih := (ckE_ok Y x _ _ _ h5).1
      refine both ?_ rfl
      split at h6
      · simp only [Bool.and_eq_true, decide_eq_true_eq] at h6
        obtain ⟨⟨_, l1⟩, l2⟩ := h6
        obtain ⟨m1, m2⟩ := ckTy_ok l2
        exact se_isit (memS_ok h2) (glB_ok h3) m1 l1 m2 h4 ih
      · simp only [Bool.and_eq_true, decide_eq_true_eq] at h6
        obtain ⟨⟨_, l1⟩, l2⟩ := h6
        obtain ⟨m1, m2⟩ := ckTy_ok l2
        match ts, l1 with
        | [t], _ =>
          obtain ⟨q, rfl, hb, hg⟩ := m2 0 _ t rfl rfl
          exact se_isi (memS_ok h2) (glB_ok h3) hb hg h4 ih
    · cases h
  | .ixo i y, sc, fc, e, h => by
    unfold ckE at h
    split at h
    · simp only [Bool.and_eq_true, decide_eq_true_eq] at h
      obtain ⟨⟨⟨⟨h1, h2⟩, h3⟩, h4⟩, h5⟩ := h
      exact both (by exact se_ixo h1 (visB_ok h2) (nmB_ok h3).1 (nmB_ok h3).2 (ckE_ok Y y _ _ _ h5).1 h4) rfl
    · cases h
  | .leno i, sc, fc, e, h => by
    unfold ckE at h
    split at h
    · simp only [Bool.and_eq_true, decide_eq_true_eq] at h
      obtain ⟨⟨⟨⟨⟨h0, h1⟩, h2⟩, h3⟩, h4⟩, h5⟩ := h
      subst h0
      exact both (by exact se_leno h3 (visB_ok h4) (nmB_ok h5).1 (nmB_ok h5).2 (memS_ok h1) (glB_ok h2)) rfl
    · cases h
  | .lc own t it c el, sc, fc, e, h => by
    unfold ckE at h
    split at h
    · simp only [Bool.and_eq_true] at h
      obtain ⟨⟨⟨⟨⟨⟨h1, h2⟩, h3⟩, h4⟩, h5⟩, h6⟩, h7⟩ := h
      refine both ?_ rfl
      refine se_lc (ckI_ok Y it _ _ _ _ h3) h1 h2 (ckG_ok h4) ?_ (ckE_ok Y el _ _ _ h6).1 (by simpa using h7)
      split at h5
      · split at h5
        · exact scs_nil
        · cases h5
      · simp only [Bool.and_eq_true] at h5
        exact scs_one ((ckE_ok Y c _ _ _ h5.2).2 h5.1)
      · cases h5
    · cases h
  | .seq _, sc, fc, e, h => by unfold ckE at h; cases h
  | .r1 _, sc, fc, e, h => by unfold ckE at h; cases h
  | .r2 _ _, sc, fc, e, h => by unfold ckE at h; cases h
  | .enum _, sc, fc, e, h => by unfold ckE at h; cases h
  | .zip _ _, sc, fc, e, h => by unfold ckE at h; cases h
theorem ckBa_ok (Y : Stat) : ∀ (ir : E) (sc : Scope) (fc : Str → Bool) (es : List Expr), ckB Y true ir sc fc es = true → (∀ pos, SE Y sc fc (.BoolOp .And es pos) (evE Y.Z ir)) ∧ (∀ pos, SW Y sc fc (.BoolOp .And es pos) (fun τ => (evE Y.Z ir τ).bind truth))
  | .last x, sc, fc, es, h => by
    unfold ckB at h
    split at h
    · simp only [Bool.and_eq_true] at h
      have ih := ckE_ok Y x _ _ _ h.2
      exact ⟨fun pos => by exact se_one ih.1, fun pos => by exact sw_and1 (ih.2 h.1)⟩
    · cases h
  | .and x y, sc, fc, es, h => by
    unfold ckB at h
    split at h
    · simp only [Bool.and_eq_true] at h
      have i1 := ckE_ok Y x _ _ _ h.1.2
      have i2 := ckBa_ok Y y _ _ _ h.2
      refine ⟨fun pos => by exact se_and i1.1 (i2.1 _), fun pos => ?_⟩
      have := sw_and (pos := pos) (i1.2 h.1.1.2) (i2.2 pos)
      exact ⟨fun X ok H0 G0 G W H τ σ b w s hg Q q => this.run X ok H0 G0 G W H τ σ b w s (by unfold evE at hg; exact and_imp hg) Q q⟩
    · cases h
  | .or x y, sc, fc, es, h => by
    unfold ckB at h
    split at h
    · simp at h
    · cases h
  | .nil, sc, fc, es, h => by unfold ckB at h; cases h
  | .c _, sc, fc, es, h => by unfold ckB at h; cases h
  | .v _, sc, fc, es, h => by unfold ckB at h; cases h
  | .g _, sc, fc, es, h => by unfold ckB at h; cases h
  | .bin _ _ _, sc, fc, es, h => by unfold ckB at h; cases h
  | .neg _, sc, fc, es, h => by unfold ckB at h; cases h
  | .not _, sc, fc, es, h => by unfold ckB at h; cases h
  | .cmp _ _ _, sc, fc, es, h => by unfold ckB at h; cases h
  | .chain _ _ _ _ _, sc, fc, es, h => by unfold ckB at h; cases h
  | .ite _ _ _, sc, fc, es, h => by unfold ckB at h; cases h
  | .tup _, sc, fc, es, h => by unfold ckB at h; cases h
  | .lst _, sc, fc, es, h => by unfold ckB at h; cases h
  | .dct _, sc, fc, es, h => by unfold ckB at h; cases h
  | .ix _ _, sc, fc, es, h => by unfold ckB at h; cases h
  | .sl _ _ _, sc, fc, es, h => by unfold ckB at h; cases h
  | .call _ _, sc, fc, es, h => by unfold ckB at h; cases h
  | .blt _ _, sc, fc, es, h => by unfold ckB at h; cases h
  | .isi _ _ _, sc, fc, es, h => by unfold ckB at h; cases h
  | .ixo _ _, sc, fc, es, h => by unfold ckB at h; cases h
  | .leno _, sc, fc, es, h => by unfold ckB at h; cases h
  | .lc _ _ _ _ _, sc, fc, es, h => by unfold ckB at h; cases h
  | .seq _, sc, fc, es, h => by unfold ckB at h; cases h
  | .r1 _, sc, fc, es, h => by unfold ckB at h; cases h
  | .r2 _ _, sc, fc, es, h => by unfold ckB at h; cases h
  | .enum _, sc, fc, es, h => by unfold ckB at h; cases h
  | .zip _ _, sc, fc, es, h => by unfold ckB at h; cases h
theorem ckBo_ok (Y : Stat) : ∀ (ir : E) (sc : Scope) (fc : Str → Bool) (es : List Expr), ckB Y false ir sc fc es = true → (∀ pos, SE Y sc fc (.BoolOp .Or es pos) (evE Y.Z ir)) ∧ (∀ pos, SW Y sc fc (.BoolOp .Or es pos) (fun τ => (evE Y.Z ir τ).bind truth))
  | .last x, sc, fc, es, h => by
    unfold ckB at h
    split at h
    · simp only [Bool.and_eq_true] at h
      have ih := ckE_ok Y x _ _ _ h.2
      exact ⟨fun pos => by exact se_one ih.1, fun pos => by exact sw_or1 (ih.2 h.1)⟩
    · cases h
  | .or x y, sc, fc, es, h => by
    unfold ckB at h
    split at h
    · simp only [Bool.and_eq_true] at h
      have i1 := ckE_ok Y x _ _ _ h.1.2
      have i2 := ckBo_ok Y y _ _ _ h.2
      refine ⟨fun pos => by exact se_or i1.1 (i2.1 _), fun pos => ?_⟩
      have := sw_or (pos := pos) (i1.2 h.1.1.2) (i2.2 pos)
      exact ⟨fun X ok H0 G0 G W H τ σ b w s hg Q q => this.run X ok H0 G0 G W H τ σ b w s (by unfold evE at hg; exact or_imp hg) Q q⟩
    · cases h
  | .and x y, sc, fc, es, h => by
    unfold ckB at h
    split at h
    · simp at h
    · cases h
  | .nil, sc, fc, es, h => by unfold ckB at h; cases h
  | .c _, sc, fc, es, h => by unfold ckB at h; cases h
  | .v _, sc, fc, es, h => by unfold ckB at h; cases h
  | .g _, sc, fc, es, h => by unfold ckB at h; cases h
  | .bin _ _ _, sc, fc, es, h => by unfold ckB at h; cases h
  | .neg _, sc, fc, es, h => by unfold ckB at h; cases h
  | .not _, sc, fc, es, h => by unfold ckB at h; cases h
  | .cmp _ _ _, sc, fc, es, h => by unfold ckB at h; cases h
  | .chain _ _ _ _ _, sc, fc, es, h => by unfold ckB at h; cases h
  | .ite _ _ _, sc, fc, es, h => by unfold ckB at h; cases h
  | .tup _, sc, fc, es, h => by unfold ckB at h; cases h
  | .lst _, sc, fc, es, h => by unfold ckB at h; cases h
  | .dct _, sc, fc, es, h => by unfold ckB at h; cases h
  | .ix _ _, sc, fc, es, h => by unfold ckB at h; cases h
  | .sl _ _ _, sc, fc, es, h => by unfold ckB at h; cases h
  | .call _ _, sc, fc, es, h => by unfold ckB at h; cases h
  | .blt _ _, sc, fc, es, h => by unfold ckB at h; cases h
  | .isi _ _ _, sc, fc, es, h => by unfold ckB at h; cases h
  | .ixo _ _, sc, fc, es, h => by unfold ckB at h; cases h
  | .leno _, sc, fc, es, h => by unfold ckB at h; cases h
  | .lc _ _ _ _ _, sc, fc, es, h => by unfold ckB at h; cases h
  | .seq _, sc, fc, es, h => by unfold ckB at h; cases h
  | .r1 _, sc, fc, es, h => by unfold ckB at h; cases h
  | .r2 _ _, sc, fc, es, h => by unfold ckB at h; cases h
  | .enum _, sc, fc, es, h => by unfold ckB at h; cases h
  | .zip _ _, sc, fc, es, h => by unfold ckB at h; cases h
theorem ckP_ok (Y : Stat) : ∀ (ir : E) (sc : Scope) (fc : Str → Bool) (o : Option Expr), ckP Y ir sc fc o = true → SO Y sc fc o (evP Y.Z ir)
  | .nil, sc, fc, o, h => by
    unfold ckP at h
    cases o with
    | none => exact so_none
    | some n => cases h
  | .last x, sc, fc, o, h => by
    unfold ckP at h
    cases o with
    | none => cases h
    | some n => exact so_some (ckE_ok Y x _ _ _ h).1
  | .c _, sc, fc, o, h => by unfold ckP at h; cases h
  | .v _, sc, fc, o, h => by unfold ckP at h; cases h
  | .g _, sc, fc, o, h => by unfold ckP at h; cases h
  | .bin _ _ _, sc, fc, o, h => by unfold ckP at h; cases h
  | .neg _, sc, fc, o, h => by unfold ckP at h; cases h
  | .not _, sc, fc, o, h => by unfold ckP at h; cases h
  | .and _ _, sc, fc, o, h => by unfold ckP at h; cases h
  | .or _ _, sc, fc, o, h => by unfold ckP at h; cases h
  | .cmp _ _ _, sc, fc, o, h => by unfold ckP at h; cases h
  | .chain _ _ _ _ _, sc, fc, o, h => by unfold ckP at h; cases h
  | .ite _ _ _, sc, fc, o, h => by unfold ckP at h; cases h
  | .tup _, sc, fc, o, h => by unfold ckP at h; cases h
  | .lst _, sc, fc, o, h => by unfold ckP at h; cases h
  | .dct _, sc, fc, o, h => by unfold ckP at h; cases h
  | .ix _ _, sc, fc, o, h => by unfold ckP at h; cases h
  | .sl _ _ _, sc, fc, o, h => by unfold ckP at h; cases h
  | .call _ _, sc, fc, o, h => by unfold ckP at h; cases h
  | .blt _ _, sc, fc, o, h => by unfold ckP at h; cases h
  | .isi _ _ _, sc, fc, o, h => by unfold ckP at h; cases h
  | .ixo _ _, sc, fc, o, h => by unfold ckP at h; cases h
  | .leno _, sc, fc, o, h => by unfold ckP at h; cases h
  | .lc _ _ _ _ _, sc, fc, o, h => by unfold ckP at h; cases h
  | .seq _, sc, fc, o, h => by unfold ckP at h; cases h
  | .r1 _, sc, fc, o, h => by unfold ckP at h; cases h
  | .r2 _ _, sc, fc, o, h => by unfold ckP at h; cases h
  | .enum _, sc, fc, o, h => by unfold ckP at h; cases h
  | .zip _ _, sc, fc, o, h => by unfold ckP at h; cases h
theorem ckI_ok (Y : Stat) : ∀ (ir : E) (sc : Scope) (fc : Str → Bool) (tg e : Expr), ckI Y ir sc fc tg e = true → SI Y sc fc tg e (evI Y.Z ir)
  | .seq x, sc, fc, tg, e, h => by
    unfold ckI at h
    exact si_seq (ckE_ok Y x _ _ _ h).1
  | .r1 x, sc, fc, tg, e, h => by
    unfold ckI at h
    split at h
    · simp only [Bool.and_eq_true, decide_eq_true_eq] at h
      obtain ⟨⟨⟨⟨h0, h1⟩, h2⟩, h3⟩, h4⟩ := h
      subst h0
      exact si_r1 (glB_ok h2) (memS_ok h1) h3 (ckE_ok Y x _ _ _ h4).1
    · cases h
  | .r2 x y, sc, fc, tg, e, h => by
    unfold ckI at h
    split at h
    · simp only [Bool.and_eq_true, decide_eq_true_eq] at h
      obtain ⟨⟨⟨⟨⟨⟨h0, h1⟩, h2⟩, h3⟩, h4⟩, h5⟩, h6⟩ := h
      subst h0
      exact si_r2 (glB_ok h2) (memS_ok h1) h3 h4 (ckE_ok Y x _ _ _ h5).1 (ckE_ok Y y _ _ _ h6).1
    · cases h
  | .enum x, sc, fc, tg, e, h => by
    unfold ckI at h
    split at h
    · simp only [Bool.and_eq_true, decide_eq_true_eq] at h
      obtain ⟨⟨⟨⟨⟨h9, h0⟩, h1⟩, h2⟩, h3⟩, h4⟩ := h
      subst h0
      cases tg <;> simp only [isTupE] at h9 <;> try cases h9
      exact si_enum (glB_ok h2) (memS_ok h1) h3 (ckE_ok Y x _ _ _ h4).1
    · cases h
  | .zip x y, sc, fc, tg, e, h => by
    unfold ckI at h
    split at h
    · simp only [Bool.and_eq_true, decide_eq_true_eq] at h
      obtain ⟨⟨⟨⟨⟨⟨⟨h9, h0⟩, h1⟩, h2⟩, h3⟩, h4⟩, h5⟩, h6⟩ := h
      subst h0
      cases tg <;> simp only [isTupE] at h9 <;> try cases h9
      exact si_zip (glB_ok h2) (memS_ok h1) h3 h4 (ckE_ok Y x _ _ _ h5).1 (ckE_ok Y y _ _ _ h6).1
    · cases h
  | .nil, sc, fc, tg, es, h => by unfold ckI at h; cases h
  | .c _, sc, fc, tg, es, h => by unfold ckI at h; cases h
  | .v _, sc, fc, tg, es, h => by unfold ckI at h; cases h
  | .g _, sc, fc, tg, es, h => by unfold ckI at h; cases h
  | .bin _ _ _, sc, fc, tg, es, h => by unfold ckI at h; cases h
  | .neg _, sc, fc, tg, es, h => by unfold ckI at h; cases h
  | .not _, sc, fc, tg, es, h => by unfold ckI at h; cases h
  | .and _ _, sc, fc, tg, es, h => by unfold ckI at h; cases h
  | .or _ _, sc, fc, tg, es, h => by unfold ckI at h; cases h
  | .last _, sc, fc, tg, es, h => by unfold ckI at h; cases h
  | .cmp _ _ _, sc, fc, tg, es, h => by unfold ckI at h; cases h
  | .chain _ _ _ _ _, sc, fc, tg, es, h => by unfold ckI at h; cases h
  | .ite _ _ _, sc, fc, tg, es, h => by unfold ckI at h; cases h
  | .tup _, sc, fc, tg, es, h => by unfold ckI at h; cases h
  | .lst _, sc, fc, tg, es, h => by unfold ckI at h; cases h
  | .dct _, sc, fc, tg, es, h => by unfold ckI at h; cases h
  | .ix _ _, sc, fc, tg, es, h => by unfold ckI at h; cases h
  | .sl _ _ _, sc, fc, tg, es, h => by unfold ckI at h; cases h
  | .call _ _, sc, fc, tg, es, h => by unfold ckI at h; cases h
  | .blt _ _, sc, fc, tg, es, h => by unfold ckI at h; cases h
  | .isi _ _ _, sc, fc, tg, es, h => by unfold ckI at h; cases h
  | .ixo _ _, sc, fc, tg, es, h => by unfold ckI at h; cases h
  | .leno _, sc, fc, tg, es, h => by unfold ckI at h; cases h
  | .lc _ _ _ _ _, sc, fc, tg, es, h => by unfold ckI at h; cases h
theorem ckL_ok (Y : Stat) : ∀ (xs : List E) (sc : Scope) (fc : Str → Bool) (ns : List Expr), ckL Y xs sc fc ns = true → SA Y sc fc ns (evL Y.Z xs) ∧ ns.all notStar = true
  | [], sc, fc, ns, h => by
    unfold ckL at h
    have : ns = [] := by simpa using h
    subst this
    exact ⟨by exact sa_nil, rfl⟩
  | x :: xs, sc, fc, ns, h => by
    unfold ckL at h
    split at h
    · simp only [Bool.and_eq_true] at h
      obtain ⟨⟨h1, h2⟩, h3⟩ := h
      have ih := ckL_ok Y xs _ _ _ h3
      exact ⟨by exact sa_cons h1 (ckE_ok Y x _ _ _ h2).1 ih.1, by simp [h1, ih.2]⟩
    · cases h
theorem ckD_ok (Y : Stat) : ∀ (xs : List E) (sc : Scope) (fc : Str → Bool) (pos : Pos) (kn : List (Option Expr)) (ns : List Expr), ckD Y xs sc fc kn ns = true → SD Y sc fc pos kn ns (evL Y.Z xs)
  | [], sc, fc, pos, kn, ns, h => by
    unfold ckD at h
    simp only [Bool.and_eq_true, List.isEmpty_iff] at h
    obtain ⟨h1, h2⟩ := h
    subst h1 h2
    exact sd_nil
  | [x], sc, fc, pos, kn, ns, h => by unfold ckD at h; cases h
  | x :: y :: xs, sc, fc, pos, kn, ns, h => by
    unfold ckD at h
    split at h
    · simp only [Bool.and_eq_true] at h
      obtain ⟨⟨h1, h2⟩, h3⟩ := h
      exact sd_cons (ckE_ok Y x _ _ _ h1).1 (ckE_ok Y y _ _ _ h2).1 (ckD_ok Y xs _ _ pos _ _ h3)
    · cases h
end
end Pv

set_option Elab.async false
set_option linter.all false
set_option maxRecDepth 100000
set_option maxHeartbeats 4000000

namespace Pv
open PySem PySem.Spec L2

theorem lc_parts {Y : Stat} {own : List (Str × Nat)} {t : T} {it c el : E} {sc : Scope} {fc : Str → Bool} {elt : Expr} {gs : List Comprehension} {scope : Scope} {p : Pos} (h : ckE Y (.lc own t it c el) sc fc (.ListComp elt gs scope p) = true) :
    ∃ tg iter ifs, gs = [⟨tg, iter, ifs, 0⟩] ∧ SI Y sc fc tg iter (evI Y.Z it) ∧ notSet iter = true ∧ blkC Y.N sc scope own = true ∧ SG Y (relS scope sc) (fun x => scope.names.lookup x == some .cell) tg t ∧
      SCs Y (relS scope sc) (fun x => scope.names.lookup x == some .cell) ifs (fun τ => (evE Y.Z c τ).bind truth) ∧ SE Y (relS scope sc) (fun x => scope.names.lookup x == some .cell) elt (evE Y.Z el) ∧ ∀ i ∈ tixs t, i ∈ own.map (·.2) := by
  unfold ckE at h
  split at h
  · rename_i e1
    cases e1
    simp only [Bool.and_eq_true] at h
    obtain ⟨⟨⟨⟨⟨⟨h1, h2⟩, h3⟩, h4⟩, h5⟩, h6⟩, h7⟩ := h
    refine ⟨_, _, _, rfl, ckI_ok Y it _ _ _ _ h3, h1, h2, ckG_ok h4, ?_, (ckE_ok Y el _ _ _ h6).1, by simpa using h7⟩
    split at h5
    · split at h5
      · exact scs_nil
      · cases h5
    · simp only [Bool.and_eq_true] at h5
      exact scs_one ((ckE_ok Y c _ _ _ h5.2).2 h5.1)
    · cases h5
  · cases h
def isLcE : Expr → Bool
  | .ListComp .. => true
  | _ => false
def isLc : E → Bool
  | .lc .. => true
  | _ => false
def ckAsg (Y : Stat) (t : T) (e : E) (sc : Scope) (fc : Str → Bool) (st : Stmt) : Bool := match st with
  | .Assign [.Name x _] a _ => (match t with
    | .nm i => decide (Y.N[i]? = some x) && locB sc x && hfB sc fc x && ckE Y e sc fc a && (notComp a || (isLcE a && isLc e))
    | _ => false)
  | .Assign [.Tuple tgs _ _] a _ => (match t with
    | .tp is => ckGs Y sc fc is tgs && ckE Y e sc fc a && notComp a && notTup a
    | _ => false)
  | _ => false
mutual
def ckS (Y : Stat) : S → Scope → (Str → Bool) → Stmt → Bool
  | .asg t e, sc, fc, st => ckAsg Y t e sc fc st
  | .own i es, sc, fc, st => match st with
    | .Assign [.Name x _] (.List ns _) _ => decide (Y.N[i]? = some x) && locB sc x && hfB sc fc x && ckL Y es sc fc ns
    | _ => false
  | .frz _, _, _, _ => false
  | .app i e, sc, fc, st => match st with
    | .Expr (.Call (.Attribute (.Name x _) m ap) [a] [] p1) _ => decide (m = ("append" : Str)) && decide (Y.N[i]? = some x) && visB sc x && nmB x && notStar a && ckE Y e sc fc a && (ap.endLine == p1.line)
    | _ => false
  | .ret e, sc, fc, st => match st with
    | .Return (some a) _ => ckE Y e sc fc a
    | _ => false
  | .retN, _, _, st => match st with
    | .Return none _ => true
    | _ => false
  | .pass, _, _, st => match st with
    | .Pass _ => true
    | _ => false
  | .brk, _, _, st => match st with
    | .Break _ => true
    | _ => false
  | .cont, _, _, st => match st with
    | .Continue _ => true
    | _ => false
  | .ifs t a b, sc, fc, st => match st with
    | .If c x y _ => notIf c && ckE Y t sc fc c && ckSs Y a sc fc x && ckSs Y b sc fc y
    | _ => false
  | .for_ t it b, sc, fc, st => match st with
    | .For tg iter x [] _ => notSet iter && ckI Y it sc fc tg iter && ckG Y sc fc t tg && ckSs Y b sc fc x
    | _ => false
  | .whl _ t b, sc, fc, st => match st with
    | .While c x [] _ => notIf c && ckE Y t sc fc c && ckSs Y b sc fc x
    | _ => false
def ckSs (Y : Stat) : List S → Scope → (Str → Bool) → List Stmt → Bool
  | [], _, _, sts => sts.isEmpty
  | .frz _ :: r, sc, fc, sts => ckSs Y r sc fc sts
  | s :: r, sc, fc, sts => match sts with
    | st :: str => ckS Y s sc fc st && ckSs Y r sc fc str
    | [] => false
end
theorem ckAsg_ok {Y : Stat} {t : T} {e : E} {sc : Scope} {fc : Str → Bool} {st : Stmt} (h : ckAsg Y t e sc fc st = true) : SS Y sc fc st (evS Y.Z (.asg t e)) := by
  unfold ckAsg at h
  split at h
  · split at h
    · simp only [Bool.and_eq_true, Bool.or_eq_true, decide_eq_true_eq] at h
      obtain ⟨⟨⟨⟨h1, h2⟩, h3⟩, h4⟩, h5⟩ := h
      rcases h5 with h5 | ⟨h5, h6⟩
      · exact ss_asg h1 (locB_ok h2) h3 h5 (ckE_ok Y e _ _ _ h4).1
      · rename_i a _ _ _
        cases a <;> simp only [isLcE] at h5 <;> try cases h5
        cases e <;> simp only [isLc] at h6 <;> try cases h6
        obtain ⟨tg, iter, ifs, rfl, a1, a2, a3, a4, a5, a6, a7⟩ := lc_parts h4
        exact ss_lc h1 (locB_ok h2) h3 a1 a2 a3 a4 a5 a6 a7
    · cases h
  · split at h
    · simp only [Bool.and_eq_true] at h
      obtain ⟨⟨⟨h1, h2⟩, h3⟩, h4⟩ := h
      obtain ⟨a1, a2, a3⟩ := ckGs_ok h1
      exact ss_asgT (sg_tp a2 a3 a1) h3 h4 (ckE_ok Y e _ _ _ h2).1
    · cases h
  · cases h
mutual
theorem ckS_ok (Y : Stat) : ∀ (ir : S) (sc : Scope) (fc : Str → Bool) (st : Stmt), ckS Y ir sc fc st = true → SS Y sc fc st (evS Y.Z ir)
  | .asg t e, sc, fc, st, h => by
    unfold ckS at h
    exact ckAsg_ok h
  | .own i es, sc, fc, st, h => by
    unfold ckS at h
    split at h
    · simp only [Bool.and_eq_true, decide_eq_true_eq] at h
      obtain ⟨⟨⟨h1, h2⟩, h3⟩, h4⟩ := h
      exact ss_own h1 (locB_ok h2) h3 (ckL_ok Y es _ _ _ h4).1
    · cases h
  | .frz _, sc, fc, st, h => by unfold ckS at h; cases h
  | .app i e, sc, fc, st, h => by
    unfold ckS at h
    split at h
    · simp only [Bool.and_eq_true, decide_eq_true_eq] at h
      obtain ⟨⟨⟨⟨⟨⟨h0, h1⟩, h2⟩, h3⟩, h4⟩, h5⟩, h6⟩ := h
      subst h0
      exact ss_app h1 (visB_ok h2) (nmB_ok h3).1 (nmB_ok h3).2 h4 (ckE_ok Y e _ _ _ h5).1 h6
    · cases h
  | .ret e, sc, fc, st, h => by
    unfold ckS at h
    split at h
    · exact ss_ret (ckE_ok Y e _ _ _ h).1
    · cases h
  | .retN, sc, fc, st, h => by
    unfold ckS at h
    split at h
    · exact ss_retN
    · cases h
  | .pass, sc, fc, st, h => by
    unfold ckS at h
    split at h
    · exact ss_pass
    · cases h
  | .brk, sc, fc, st, h => by
    unfold ckS at h
    split at h
    · exact ss_brk
    · cases h
  | .cont, sc, fc, st, h => by
    unfold ckS at h
    split at h
    · exact ss_cont
    · cases h
  | .ifs t a b, sc, fc, st, h => by
    unfold ckS at h
    split at h
    · simp only [Bool.and_eq_true] at h
      obtain ⟨⟨⟨h1, h2⟩, h3⟩, h4⟩ := h
      exact ss_if ((ckE_ok Y t _ _ _ h2).2 h1) (ckSs_ok Y a _ _ _ h3) (ckSs_ok Y b _ _ _ h4)
    · cases h
  | .for_ t it b, sc, fc, st, h => by
    unfold ckS at h
    split at h
    · simp only [Bool.and_eq_true] at h
      obtain ⟨⟨⟨h1, h2⟩, h3⟩, h4⟩ := h
      exact ss_for (ckI_ok Y it _ _ _ _ h2) h1 (ckG_ok h3) (ckSs_ok Y b _ _ _ h4)
    · cases h
  | .whl n t b, sc, fc, st, h => by
    unfold ckS at h
    split at h
    · simp only [Bool.and_eq_true] at h
      obtain ⟨⟨h1, h2⟩, h3⟩ := h
      exact ss_whl ((ckE_ok Y t _ _ _ h2).2 h1) (ckSs_ok Y b _ _ _ h3)
    · cases h
theorem ckSs_ok (Y : Stat) : ∀ (ir : List S) (sc : Scope) (fc : Str → Bool) (sts : List Stmt), ckSs Y ir sc fc sts = true → SSs Y sc fc sts (evSs Y.Z ir)
  | [], sc, fc, sts, h => by
    unfold ckSs at h
    have : sts = [] := by simpa using h
    subst this
    exact sss_nil
  | s :: r, sc, fc, sts, h => by
    unfold ckSs at h
    split at h
    · cases ‹_ = []›
    · rename_i e1
      cases e1
      exact sss_frz (ckSs_ok Y r _ _ _ h)
    · rename_i hne e1
      cases e1
      split at h
      · simp only [Bool.and_eq_true] at h
        exact sss_cons (ckS_ok Y s _ _ _ h.1) (ckSs_ok Y r _ _ _ h.2)
      · cases h
end

/-! ### a def -/
/-- a docstring ahead is left out -/
theorem start_ok {K : PySem.W.Frag} {G : Hp} {m : Nat} {ds : List D} {vs : List V} (N : List Str) (hm : N.length = m) (h : DenL K G ds vs) (hl : ds.length ≤ m) : SlOk K G noH (startD m ds) (L2.start N vs) := by
  have hlen := h.length
  refine ⟨?_, fun i d hi => ?_, fun i es hi => ?_, fun i j es fs a hi hj _ _ => ?_⟩
  · simp [startD, L2.start, hm, ← hlen]
  · unfold startD at hi
    unfold L2.start
    by_cases hlt : i < ds.length
    · rw [List.getElem?_append_left (by simpa using hlt), List.getElem?_map] at hi
      obtain ⟨d', hd, e⟩ := mpd hi
      cases e
      obtain ⟨v, hv, dv⟩ := h.get hd
      exact ⟨v, by rw [List.getElem?_append_left (by simpa using (by omega : i < vs.length)), List.getElem?_map, hv]; rfl, dv⟩
    · rw [List.getElem?_append_right (by simpa using hlt), List.getElem?_replicate] at hi
      split at hi <;> cases hi
  · unfold startD at hi
    by_cases hlt : i < ds.length
    · rw [List.getElem?_append_left (by simpa using hlt), List.getElem?_map] at hi
      obtain ⟨d', hd, e⟩ := mpd hi
      cases e
    · rw [List.getElem?_append_right (by simpa using hlt), List.getElem?_replicate] at hi
      split at hi <;> cases hi
  · unfold startD at hi
    by_cases hlt : i < ds.length
    · rw [List.getElem?_append_left (by simpa using hlt), List.getElem?_map] at hi
      obtain ⟨d', hd, e⟩ := mpd hi
      cases e
    · rw [List.getElem?_append_right (by simpa using hlt), List.getElem?_replicate] at hi
      split at hi <;> cases hi
/-- what stands fast outside the def: the same for all contexts of a law -/
structure Env1 (P : Program) (w : World) (K : PySem.W.Frag) (mg : Str → Option Value) (base : Heap) (Y : Stat) : Prop where
  fns : ∀ i x, (i, x) ∈ Y.fns → FnAt P w K mg base Y.lv x (Y.Z.F i)
  cns : ∀ k x, (k, x) ∈ Y.cns → ∃ u v d, mg x = some u ∧ RelV v u ∧ Y.Z.C k = some d ∧ ∀ G, Den K G d v
  bl : ∀ x ∈ Y.bl, mg x = none
  gcd : Y.gcd = true → mg "gcd" = some (.builtin "math.gcd")
theorem evF_len {Z : Sm} {b : List S} {k m : Nat} {ds : List D} {d : D} (h : evF Z b k m ds = some d) : ds.length = k := by
  unfold evF at h
  split at h
  · assumption
  · cases h
/-- THE RULE for a def: its text is checked, its promise is its value by the small language -/
theorem fn_ok {P : Program} {w : World} {K : PySem.W.Frag} {mg : Str → Option Value} {base : Heap} {Y : Stat} {x qual : Str} {st : Stmt} {f : Addr} {fd : FuncData} {ps : List Str} {b : List S} {F : List D → Option D}
    (Fn : Fun K x qual st f fd) (S : FnScope Y.N ps (defScope st)) (En : Env1 P w K mg base Y) (hc : ckSs Y b (defScope st) (fun _ => true) (defBody st) = true) (hle : ps.length ≤ Y.N.length)
    (hF : ∀ ds d, F ds = some d → evF Y.Z b ps.length Y.N.length ds = some d) : FnOk P w K mg base CX0 (Y.lv + 1) f fd ps (spF K F) := by
  refine Fn.ok S (fun vs H Q E h => ?_) (fun cdv A outer s H vs Q E hr h => ?_)
  · obtain ⟨ds, d, G, _, h1, h2, _⟩ := h
    rw [← h1.length]
    exact evF_len (hF ds d h2)
  · obtain ⟨ds, d, G, hs, h1, h2, q⟩ := h
    have hv := hF ds d h2
    have hl := evF_len hv
    unfold evF at hv
    rw [if_pos hl] at hv
    obtain ⟨o, ho, he⟩ := bnd hv
    have ok : XOk Y (defScope st) (fun _ => true) (cxOf CX0 P w K mg base Y.N qual (defScope st) f cdv A outer s H E).nox :=
      ⟨rfl, S.nd, rfl, rfl, hr, rfl, fun _ _ => rfl, En.fns, En.cns, En.bl, En.gcd⟩
    have run := (ckSs_ok Y b _ _ _ hc).run _ ok H G G noH H _ _ o (Wd.start hs) (start_ok Y.N rfl h1 (by omega)) ho { nx := fun _ H' => Q .non H', rt := Q }
    refine ⟨_, pss_tu, run ?_⟩
    cases o with
    | nx τ =>
      cases he
      exact fun σ G' W' H' e' w' s' => q .non G' H' (fun a o e => (w'.h0 a o e).1) w'.g0 w'.gh w'.hg (by simp only [Den])
    | rt d' =>
      cases he
      exact fun v G' W' H' e' w' dv => q v G' H' (fun a o e => (w'.h0 a o e).1) w'.g0 w'.gh w'.hg dv
    | bk τ => cases he
    | ct τ => cases he
end Pv

set_option Elab.async false
set_option linter.all false
set_option maxRecDepth 100000
set_option maxHeartbeats 4000000

namespace Pv
open PySem L2

/-! ### reckoning (no lemma here is closed by rfl itself: the kernel is not to unfold what stands behind) -/
@[simp high] theorem bind_someX {α β : Type} (a : α) (f : α → Option β) : (some a).bind f = f a := id rfl
@[simp high] theorem map_someX {α β : Type} (a : α) (f : α → β) : (some a).map f = some (f a) := id rfl
@[simp high] theorem bind_noneX {α β : Type} (f : α → Option β) : (none : Option α).bind f = none := id rfl
@[simp high] theorem map_noneX {α β : Type} (f : α → β) : (none : Option α).map f = none := id rfl
section
variable (Z : Sm) (σ : List Sl)
@[simp] theorem evE_c (d : D) : evE Z (.c d) σ = some d := id rfl
@[simp] theorem evE_v (i : Nat) : evE Z (.v i) σ = getV σ i := id rfl
@[simp] theorem evE_g (k : Nat) : evE Z (.g k) σ = Z.C k := id rfl
@[simp] theorem evE_bin (o : BO) (a b : E) : evE Z (.bin o a b) σ = (evE Z a σ).bind fun x => (evE Z b σ).bind fun y => binD o x y := id rfl
@[simp] theorem evE_neg (a : E) : evE Z (.neg a) σ = (evE Z a σ).bind fun x => (intD x).map fun i => .int (-i) := id rfl
@[simp] theorem evE_not (a : E) : evE Z (.not a) σ = ((evE Z a σ).bind truth).map fun b => .bl (!b) := id rfl
@[simp] theorem evE_and (a b : E) : evE Z (.and a b) σ = ((evE Z a σ).bind blD).bind fun k => bif k then evE Z b σ else some (.bl false) := id rfl
@[simp] theorem evE_or (a b : E) : evE Z (.or a b) σ = ((evE Z a σ).bind blD).bind fun k => bif k then some (.bl true) else evE Z b σ := id rfl
@[simp] theorem evE_last (a : E) : evE Z (.last a) σ = evE Z a σ := id rfl
@[simp] theorem evE_cmp (o : CO) (a b : E) : evE Z (.cmp o a b) σ = (evE Z a σ).bind fun x => (evE Z b σ).bind fun y => (cmpD o x y).map .bl := id rfl
@[simp] theorem evE_chain (o p : CO) (a b c : E) : evE Z (.chain o p a b c) σ = (evE Z a σ).bind fun x => (evE Z b σ).bind fun y => (cmpD o x y).bind fun k => bif k then (evE Z c σ).bind fun z => (cmpD p y z).map .bl else some (.bl false) := id rfl
@[simp] theorem evE_ite (t a b : E) : evE Z (.ite t a b) σ = ((evE Z t σ).bind truth).bind fun k => bif k then evE Z a σ else evE Z b σ := id rfl
@[simp] theorem evE_tup (es : List E) : evE Z (.tup es) σ = (evL Z es σ).bind fun ds => if ds.length ≤ line then some (.tup ds) else none := id rfl
@[simp] theorem evE_lst (es : List E) : evE Z (.lst es) σ = (evL Z es σ).bind fun ds => if ds.length ≤ line then some (.lst ds) else none := id rfl
@[simp] theorem evE_dct (es : List E) : evE Z (.dct es) σ = (evL Z es σ).bind fun ds => dctD (evens ds) (odds ds) := id rfl
@[simp] theorem evE_ix (a b : E) : evE Z (.ix a b) σ = (evE Z a σ).bind fun x => (evE Z b σ).bind fun y => ixD x y := id rfl
@[simp] theorem evE_sl (a lo hi : E) : evE Z (.sl a lo hi) σ = (evE Z a σ).bind fun x => (evP Z lo σ).bind fun l => (evP Z hi σ).bind fun h => slD l h x := id rfl
@[simp] theorem evP_nil : evP Z .nil σ = some none := id rfl
@[simp] theorem evP_last (e : E) : evP Z (.last e) σ = (evE Z e σ).bind fun d => (intD d).map some := id rfl
@[simp] theorem evE_call (f : Nat) (es : List E) : evE Z (.call f es) σ = (evL Z es σ).bind fun ds => Z.F f ds := id rfl
@[simp] theorem evE_blt (f : BF) (es : List E) : evE Z (.blt f es) σ = (evL Z es σ).bind fun ds => bltD f ds := id rfl
@[simp] theorem evE_isi (a : E) (ts : List Ty) (m : Bool) : evE Z (.isi a ts m) σ = (evE Z a σ).bind fun x => if isIns x then none else some (.bl (ts.any (isi1 x))) := id rfl
@[simp] theorem evE_ixo (i : Nat) (a : E) : evE Z (.ixo i a) σ = (getO σ i).bind fun xs => ((evE Z a σ).bind intD).bind fun k => atI xs k := id rfl
@[simp] theorem evE_leno (i : Nat) : evE Z (.leno i) σ = (getO σ i).map fun xs => .int xs.length := id rfl
@[simp] theorem evE_lc (own : List (Str × Nat)) (t : T) (it c e : E) : evE Z (.lc own t it c e) σ = (evI Z it σ).bind fun ds => if ds.length ≤ line then (lcL t (evE Z c) (evE Z e) (wipeD σ (own.map fun p => p.2)) ds).map .lst else none := id rfl
@[simp] theorem evI_seq (e : E) : evI Z (.seq e) σ = (evE Z e σ).bind seqD := id rfl
@[simp] theorem evI_r1 (a : E) : evI Z (.r1 a) σ = ((evE Z a σ).bind intD).bind fun i => if okR i then some (rngD 0 i.toNat) else none := id rfl
@[simp] theorem evI_r2 (a b : E) : evI Z (.r2 a b) σ = ((evE Z a σ).bind intD).bind fun i => ((evE Z b σ).bind intD).bind fun j => if okR i && okR j then some (rngD i (j - i).toNat) else none := id rfl
@[simp] theorem evL_nil : evL Z [] σ = some [] := id rfl
@[simp] theorem evL_cons (e : E) (es : List E) : evL Z (e :: es) σ = (evE Z e σ).bind fun d => (evL Z es σ).map (d :: ·) := id rfl
@[simp] theorem evS_asg (t : T) (e : E) : evS Z (.asg t e) σ = (evE Z e σ).bind fun d => (setT t d σ).map .nx := id rfl
@[simp] theorem evS_own (i : Nat) (es : List E) : evS Z (.own i es) σ = (evL Z es σ).bind fun ds => if ds.length ≤ line then some (.nx (σ.set i (.o ds))) else none := id rfl
@[simp] theorem evS_frz (i : Nat) : evS Z (.frz i) σ = some (.nx (frzD σ i)) := id rfl
@[simp] theorem evS_app (i : Nat) (e : E) : evS Z (.app i e) σ = (evE Z e σ).bind fun d => (getO σ i).bind fun xs => if xs.length < line then some (.nx (σ.set i (.o (xs ++ [d])))) else none := id rfl
@[simp] theorem evS_ret (e : E) : evS Z (.ret e) σ = (evE Z e σ).map .rt := id rfl
@[simp] theorem evS_retN : evS Z .retN σ = some (.rt .non) := id rfl
@[simp] theorem evS_pass : evS Z .pass σ = some (.nx σ) := id rfl
@[simp] theorem evS_brk : evS Z .brk σ = some (.bk σ) := id rfl
@[simp] theorem evS_cont : evS Z .cont σ = some (.ct σ) := id rfl
@[simp] theorem evS_ifs (t : E) (a b : List S) : evS Z (.ifs t a b) σ = ((evE Z t σ).bind truth).bind fun k => bif k then evSs Z a σ else evSs Z b σ := id rfl
@[simp] theorem evS_for (t : T) (it : E) (b : List S) : evS Z (.for_ t it b) σ = (evI Z it σ).bind fun ds => forL t (evSs Z b) ds σ := id rfl
@[simp] theorem evS_whl (n : Nat) (t : E) (b : List S) : evS Z (.whl n t b) σ = whlL (evE Z t) (evSs Z b) n σ := id rfl
@[simp] theorem evSs_nil : evSs Z [] σ = some (.nx σ) := id rfl
/-- what follows a statement -/
def thenS (Z : Sm) (r : List S) : Out → Option Out
  | .nx σ2 => evSs Z r σ2
  | .rt d => some (.rt d)
  | .bk σ2 => some (.bk σ2)
  | .ct σ2 => some (.ct σ2)
@[simp] theorem evSs_cons (s : S) (r : List S) : evSs Z (s :: r) σ = (evS Z s σ).bind (thenS Z r) := by
  show (evS Z s σ).bind _ = _
  congr 1
@[simp] theorem thenS_nx (r : List S) : thenS Z r (.nx σ) = evSs Z r σ := id rfl
@[simp] theorem thenS_rt (r : List S) (d : D) : thenS Z r (.rt d) = some (.rt d) := id rfl
@[simp] theorem thenS_bk (r : List S) : thenS Z r (.bk σ) = some (.bk σ) := id rfl
@[simp] theorem thenS_ct (r : List S) : thenS Z r (.ct σ) = some (.ct σ) := id rfl
end
@[simp] theorem line_val : line = 16777216 := id rfl
@[simp] theorem endD_rt (d : D) : endD (.rt d) = some d := id rfl
@[simp] theorem endD_nx (σ : List Sl) : endD (.nx σ) = some .non := id rfl
@[simp] theorem getV_zero (d : D) (r : List Sl) : getV (.v d :: r) 0 = some d := id rfl
@[simp] theorem getV_succ (s : Sl) (r : List Sl) (i : Nat) : getV (s :: r) (i + 1) = getV r i := by simp [getV]
@[simp] theorem getO_zero (d : List D) (r : List Sl) : getO (.o d :: r) 0 = some d := id rfl
@[simp] theorem getO_succ (s : Sl) (r : List Sl) (i : Nat) : getO (s :: r) (i + 1) = getO r i := by simp [getO]
@[simp] theorem setT_nm (i : Nat) (d : D) (σ : List Sl) : setT (.nm i) d σ = some (σ.set i (.v d)) := id rfl
@[simp] theorem setT_tp (is : List Nat) (ds : List D) (σ : List Sl) : setT (.tp is) (.tup ds) σ = setAll is ds σ := id rfl
@[simp] theorem setAll_nil (σ : List Sl) : setAll [] [] σ = some σ := id rfl
@[simp] theorem setAll_cons (i : Nat) (is : List Nat) (d : D) (ds : List D) (σ : List Sl) : setAll (i :: is) (d :: ds) σ = setAll is ds (σ.set i (.v d)) := id rfl
@[simp] theorem frz_zero (d : List D) (r : List Sl) : frzD (.o d :: r) 0 = .v (.lst d) :: r := id rfl
@[simp] theorem frz_zeroV (d : D) (r : List Sl) : frzD (.v d :: r) 0 = .v d :: r := id rfl
@[simp] theorem frz_succ (s : Sl) (r : List Sl) (i : Nat) : frzD (s :: r) (i + 1) = s :: frzD r i := by
  simp only [frzD, List.getElem?_cons_succ]
  split <;> simp
@[simp] theorem forL_nil (t : T) (f : List Sl → Option Out) (σ : List Sl) : forL t f [] σ = some (.nx σ) := id rfl
/-- what follows a turn -/
def turnO (k : List Sl → Option Out) : Out → Option Out
  | .nx σ2 => k σ2
  | .ct σ2 => k σ2
  | .bk σ2 => some (.nx σ2)
  | .rt d => some (.rt d)
@[simp] theorem turnO_nx (k : List Sl → Option Out) (σ : List Sl) : turnO k (.nx σ) = k σ := id rfl
@[simp] theorem turnO_ct (k : List Sl → Option Out) (σ : List Sl) : turnO k (.ct σ) = k σ := id rfl
@[simp] theorem turnO_bk (k : List Sl → Option Out) (σ : List Sl) : turnO k (.bk σ) = some (.nx σ) := id rfl
@[simp] theorem turnO_rt (k : List Sl → Option Out) (d : D) : turnO k (.rt d) = some (.rt d) := id rfl
theorem forL_cons (t : T) (f : List Sl → Option Out) (d : D) (ds : List D) (σ : List Sl) : forL t f (d :: ds) σ = (setT t d σ).bind fun σ1 => (f σ1).bind (turnO (forL t f ds)) := by
  show (setT t d σ).bind _ = _
  congr 1
@[simp] theorem bin_add (i j : Int) : binD .add (.int i) (.int j) = some (.int (i + j)) := id rfl
@[simp] theorem bin_sub (i j : Int) : binD .sub (.int i) (.int j) = some (.int (i - j)) := id rfl
@[simp] theorem bin_mul (i j : Int) : binD .mul (.int i) (.int j) = if mulOk i j then some (.int (i * j)) else none := id rfl
@[simp] theorem bin_fdiv (i j : Int) : binD .fdiv (.int i) (.int j) = if divOk j then some (.int (i.fdiv j)) else none := id rfl
@[simp] theorem bin_mod (i j : Int) : binD .mod (.int i) (.int j) = if j ≠ 0 then some (.int (i.fmod j)) else none := id rfl
@[simp] theorem bin_pow (i j : Int) : binD .pow (.int i) (.int j) = if powOk i j then some (.int (i ^ j.toNat)) else none := id rfl
@[simp] theorem bin_addL (x y : List D) : binD .add (.lst x) (.lst y) = if x.length + y.length ≤ line then some (.lst (x ++ y)) else none := id rfl
@[simp] theorem bin_addT (x y : List D) : binD .add (.tup x) (.tup y) = if x.length + y.length ≤ line then some (.tup (x ++ y)) else none := id rfl
@[simp] theorem bin_addS (x y : List Nat) : binD .add (.str x) (.str y) = if x.length + y.length ≤ line then some (.str (x ++ y)) else none := id rfl
@[simp] theorem intD_int (i : Int) : intD (.int i) = some i := id rfl
@[simp] theorem blD_bl (b : Bool) : blD (.bl b) = some b := id rfl
@[simp] theorem truth_bl (b : Bool) : truth (.bl b) = some b := id rfl
@[simp] theorem truth_non : truth .non = some false := id rfl
@[simp] theorem cmp_lt (i j : Int) : cmpD .lt (.int i) (.int j) = some (decide (i < j)) := id rfl
@[simp] theorem cmp_le (i j : Int) : cmpD .le (.int i) (.int j) = some (decide (i ≤ j)) := id rfl
@[simp] theorem cmp_gt (i j : Int) : cmpD .gt (.int i) (.int j) = some (decide (j < i)) := id rfl
@[simp] theorem cmp_ge (i j : Int) : cmpD .ge (.int i) (.int j) = some (decide (j ≤ i)) := id rfl
theorem eqb_int (i j : Int) : D.eqb (.int i) (.int j) = decide (i = j) := by
  simp only [D.eqb, D.toP, PyData.eqv]; rfl
@[simp] theorem cmp_eqI (i j : Int) : cmpD .eq (.int i) (.int j) = some (decide (i = j)) := by
  simp [cmpD, eqD, scalD, eqb_int]
@[simp] theorem cmp_neI (i j : Int) : cmpD .ne (.int i) (.int j) = some (!decide (i = j)) := by
  simp [cmpD, eqD, scalD, eqb_int]
@[simp] theorem cmp_eqS (x y : List Nat) : cmpD .eq (.str x) (.str y) = some (decide (x = y)) := by
  simp [cmpD, eqD, scalD, eqb_str]
@[simp] theorem cmp_neS (x y : List Nat) : cmpD .ne (.str x) (.str y) = some (!decide (x = y)) := by
  simp [cmpD, eqD, scalD, eqb_str]
@[simp] theorem cmp_eqB (x y : Bool) : cmpD .eq (.bl x) (.bl y) = some (decide (x = y)) := by
  simp only [cmpD, eqD, scalD, Bool.true_or, if_true]
  cases x <;> cases y <;> rfl
@[simp] theorem cmp_isB (x y : Bool) : cmpD .is (.bl x) (.bl y) = some (decide (x = y)) := id rfl
@[simp] theorem cmp_isnotB (x y : Bool) : cmpD .isnot (.bl x) (.bl y) = some (!decide (x = y)) := id rfl
@[simp] theorem len_lst (x : List D) : bltD .len [.lst x] = some (.int x.length) := id rfl
@[simp] theorem len_tup (x : List D) : bltD .len [.tup x] = some (.int x.length) := id rfl
@[simp] theorem len_scr (x : List Int) : bltD .len [.scr x] = some (.int x.length) := id rfl
@[simp] theorem int_int (i : Int) : bltD .int [.int i] = some (.int i) := id rfl
@[simp] theorem int_bl (b : Bool) : bltD .int [.bl b] = some (.int (if b then 1 else 0)) := id rfl
@[simp] theorem abs_int (i : Int) : bltD .abs [.int i] = some (.int (if i < 0 then -i else i)) := id rfl
@[simp] theorem gcd_int (i j : Int) : bltD .gcd [.int i, .int j] = some (.int (Nat.gcd i.natAbs j.natAbs : Nat)) := id rfl
@[simp] theorem max_int (i j : Int) : bltD .max [.int i, .int j] = some (.int (if j > i then j else i)) := id rfl
@[simp] theorem min_int (i j : Int) : bltD .min [.int i, .int j] = some (.int (if j < i then j else i)) := id rfl
@[simp] theorem ix_lst (xs : List D) (i : Int) : ixD (.lst xs) (.int i) = atI xs i := id rfl
@[simp] theorem ix_tupD (xs : List D) (i : Int) : ixD (.tup xs) (.int i) = atI xs i := id rfl
@[simp] theorem ix_scr (xs : List Int) (i : Int) : ixD (.scr xs) (.int i) = (atI xs i).map .int := id rfl
@[simp] theorem ix_strD (xs : List Nat) (i : Int) : ixD (.str xs) (.int i) = if xs.length ≤ line then (atI xs i).map fun c => .str [c] else none := id rfl
theorem atI_of {α : Type} {xs : List α} {i : Int} {x : α} (h0 : 0 ≤ i) (h : xs[i.toNat]? = some x) : atI xs i = some x := by
  have : i = (i.toNat : Int) := by omega
  rw [this]; exact atI_nat h
@[simp] theorem atI_0 {α : Type} (x : α) (xs : List α) : atI (x :: xs) 0 = some x := atI_of (by decide) rfl
@[simp] theorem atI_1 {α : Type} (x y : α) (xs : List α) : atI (x :: y :: xs) 1 = some y := atI_of (by decide) rfl
@[simp] theorem atI_2 {α : Type} (x y z : α) (xs : List α) : atI (x :: y :: z :: xs) 2 = some z := atI_of (by decide) rfl
@[simp] theorem atI_3 {α : Type} (x y z u : α) (xs : List α) : atI (x :: y :: z :: u :: xs) 3 = some u := atI_of (by decide) rfl
@[simp] theorem atI_4 {α : Type} (x y z u v : α) (xs : List α) : atI (x :: y :: z :: u :: v :: xs) 4 = some v := atI_of (by decide) rfl
@[simp] theorem atI_5 {α : Type} (x y z u v w : α) (xs : List α) : atI (x :: y :: z :: u :: v :: w :: xs) 5 = some w := atI_of (by decide) rfl
@[simp] theorem seq_lst (xs : List D) : seqD (.lst xs) = some xs := id rfl
@[simp] theorem seq_tup (xs : List D) : seqD (.tup xs) = some xs := id rfl
@[simp] theorem seq_scr (xs : List Int) : seqD (.scr xs) = some (xs.map .int) := id rfl
@[simp] theorem seq_str (xs : List Nat) : seqD (.str xs) = some (xs.map fun c => .str [c]) := id rfl
@[simp] theorem startD_nil (m : Nat) : startD m [] = List.replicate m .no := by simp [startD]
/-- a loop that is never left early -/
theorem forL_inv {t : T} {f : List Sl → Option Out} (I : Nat → List Sl → Prop) : ∀ {ds : List D} {k : Nat} {σ : List Sl}, I k σ →
    (∀ (i : Nat) d σ, ds[i]? = some d → I (k + i) σ → ∃ σ1 σ2, setT t d σ = some σ1 ∧ (f σ1 = some (.nx σ2) ∨ f σ1 = some (.ct σ2)) ∧ I (k + i + 1) σ2) → ∃ σ', forL t f ds σ = some (.nx σ') ∧ I (k + ds.length) σ'
  | [], k, σ, h, _ => ⟨σ, rfl, h⟩
  | d :: ds, k, σ, h, hs => by
    obtain ⟨σ1, σ2, h1, h2, h3⟩ := hs 0 d σ rfl h
    obtain ⟨σ', h4, h5⟩ := forL_inv I (ds := ds) (k := k + 1) (σ := σ2) h3 fun i d' σ' hd hi => by
      have := hs (i + 1) d' σ' (by simpa using hd) (by rw [show k + (i + 1) = k + 1 + i by omega]; exact hi)
      rw [show k + (i + 1) + 1 = k + 1 + i + 1 by omega] at this
      exact this
    refine ⟨σ', ?_, by rw [List.length_cons, show k + (ds.length + 1) = k + 1 + ds.length by omega]; exact h5⟩
    rw [forL_cons, h1]
    rcases h2 with h2 | h2
    · simp [h2, h4]
    · simp [h2, h4]
/-- .. and what follows it -/
theorem loop_then {β : Type} {t : T} {f : List Sl → Option Out} {ds : List D} {σ : List Sl} {k : Out → Option β} {b : β} (I : Nat → List Sl → Prop) (h0 : I 0 σ)
    (hs : ∀ (i : Nat) d σ, ds[i]? = some d → I i σ → ∃ σ1 σ2, setT t d σ = some σ1 ∧ (f σ1 = some (.nx σ2) ∨ f σ1 = some (.ct σ2)) ∧ I (i + 1) σ2) (hk : ∀ σ', I ds.length σ' → k (.nx σ') = some b) : (forL t f ds σ).bind k = some b := by
  obtain ⟨σ', h1, h2⟩ := forL_inv I (k := 0) h0 (t := t) (f := f) (ds := ds) fun i d σ hd hi => by
    rw [Nat.zero_add] at hi ⊢
    exact hs i d σ hd hi
  rw [h1]
  rw [Nat.zero_add] at h2
  exact hk σ' h2
/-- .. where something is to be found of the result -/
theorem loop_thenE {t : T} {f : List Sl → Option Out} {ds : List D} {σ : List Sl} {β : Type} {k : Out → Option β} {P : Option β → Prop} (I : Nat → List Sl → Prop) (h0 : I 0 σ)
    (hs : ∀ (i : Nat) d σ, ds[i]? = some d → I i σ → ∃ σ1 σ2, setT t d σ = some σ1 ∧ (f σ1 = some (.nx σ2) ∨ f σ1 = some (.ct σ2)) ∧ I (i + 1) σ2) (hk : ∀ σ', I ds.length σ' → P (k (.nx σ'))) : P ((forL t f ds σ).bind k) := by
  obtain ⟨σ', h1, h2⟩ := forL_inv I (k := 0) h0 (t := t) (f := f) (ds := ds) fun i d σ hd hi => by
    rw [Nat.zero_add] at hi ⊢
    exact hs i d σ hd hi
  rw [h1]
  rw [Nat.zero_add] at h2
  exact hk σ' h2
theorem mulOk_of {i j : Int} {a b : Nat} (ha : i.natAbs < 2 ^ a) (hb : j.natAbs < 2 ^ b) (h0 : 0 < a) (h1 : 0 < b) (h : a + b ≤ 1000000) : mulOk i j = true := by
  have := wide_mul ha hb h0 h1 h
  simpa [mulOk, CMulW] using this
theorem divOk_of {j : Int} {b : Nat} (h0 : j ≠ 0) (hb : j.natAbs < 2 ^ b) (hb0 : 0 < b) (h9 : b ≤ 9000) : divOk j = true := by
  have := PySem.Flt.log2_lt_of hb0 hb
  simp [divOk, h0]
  omega
end Pv

set_option Elab.async false
set_option linter.all false
set_option maxRecDepth 100000
set_option maxHeartbeats 4000000
namespace K55
open PySem L2 Pv
def top (i : Nat) : Stmt := PySem.Challenge.pw_stampsheets_k55_ratios.main.body.getD i (.Pass ⟨0, 0, 0, 0⟩)
def blts : List Str := ["abs", "bool", "int", "isinstance", "len", "list", "range", "tuple"]
def cval : Nat → Option D := fun _ => none
/-! ### is_whole -/
abbrev s_is_whole : Stmt := top 2
def N_is_whole : List Str := ["value"]
def ir_is_whole : List S := [.ret (.and (.isi (.v 0) [.int] false) (.last (.not (.isi (.v 0) [.bool] false))))]
def T_is_whole : Nat → List D → Option D := fun _ _ => none
def Y_is_whole : Stat := { N := N_is_whole, Z := ⟨T_is_whole, cval⟩, fns := [], cns := [], bl := blts, gcd := false, lv := 0 }
def F_is_whole (ds : List D) : Option D := evF ⟨T_is_whole, cval⟩ ir_is_whole 1 1 ds
theorem ck_is_whole : ckSs Y_is_whole ir_is_whole (defScope s_is_whole) (fun _ => true) (defBody s_is_whole) = true := by decide +kernel
theorem sc_is_whole : FnScope N_is_whole ["value"] (defScope s_is_whole) := ⟨rfl, rfl, rfl, by decide +kernel, rfl, by decide +kernel, by decide +kernel⟩
/-! ### is_ratio -/
abbrev s_is_ratio : Stmt := top 3
def N_is_ratio : List Str := ["value"]
def ir_is_ratio : List S := [.ifs (.or (.not (.isi (.v 0) [.tuple, .list] true)) (.last (.cmp .ne (.blt .len [.v 0]) (.c (.int 2))))) [.ret (.c (.bl false))] [],
    .ifs (.or (.not (.call 0 [.ix (.v 0) (.c (.int 0))])) (.last (.not (.call 0 [.ix (.v 0) (.c (.int 1))])))) [.ret (.c (.bl false))] [],
    .ret (.and (.cmp .ge (.ix (.v 0) (.c (.int 1))) (.c (.int 1))) (.last (.cmp .eq (.blt .gcd [.ix (.v 0) (.c (.int 0)), .ix (.v 0) (.c (.int 1))]) (.c (.int 1)))))]
def T_is_ratio : Nat → List D → Option D
  | 0 => F_is_whole
  | _ => fun _ => none
def Y_is_ratio : Stat := { N := N_is_ratio, Z := ⟨T_is_ratio, cval⟩, fns := [(0, "is_whole")], cns := [], bl := blts, gcd := true, lv := 1 }
def F_is_ratio (ds : List D) : Option D := evF ⟨T_is_ratio, cval⟩ ir_is_ratio 1 1 ds
theorem ck_is_ratio : ckSs Y_is_ratio ir_is_ratio (defScope s_is_ratio) (fun _ => true) (defBody s_is_ratio) = true := by decide +kernel
theorem sc_is_ratio : FnScope N_is_ratio ["value"] (defScope s_is_ratio) := ⟨rfl, rfl, rfl, by decide +kernel, rfl, by decide +kernel, by decide +kernel⟩
/-! ### ratio -/
abbrev s_ratio : Stmt := top 4
def N_ratio : List Str := ["top", "bottom", "common"]
def ir_ratio : List S := [.asg (.nm 2) (.blt .gcd [.v 0, .v 1]),
    .ifs (.cmp .lt (.v 1) (.c (.int 0))) [.asg (.nm 2) (.neg (.v 2))] [],
    .ret (.tup [.bin .fdiv (.v 0) (.v 2), .bin .fdiv (.v 1) (.v 2)])]
def T_ratio : Nat → List D → Option D := fun _ _ => none
def Y_ratio : Stat := { N := N_ratio, Z := ⟨T_ratio, cval⟩, fns := [], cns := [], bl := blts, gcd := true, lv := 0 }
def F_ratio (ds : List D) : Option D := evF ⟨T_ratio, cval⟩ ir_ratio 2 3 ds
theorem ck_ratio : ckSs Y_ratio ir_ratio (defScope s_ratio) (fun _ => true) (defBody s_ratio) = true := by decide +kernel
theorem sc_ratio : FnScope N_ratio ["top", "bottom"] (defScope s_ratio) := ⟨rfl, rfl, rfl, by decide +kernel, rfl, by decide +kernel, by decide +kernel⟩
/-! ### plus -/
abbrev s_plus : Stmt := top 5
def N_plus : List Str := ["one", "two"]
def ir_plus : List S := [.ret (.call 2 [.bin .add (.bin .mul (.ix (.v 0) (.c (.int 0))) (.ix (.v 1) (.c (.int 1)))) (.bin .mul (.ix (.v 1) (.c (.int 0))) (.ix (.v 0) (.c (.int 1)))), .bin .mul (.ix (.v 0) (.c (.int 1))) (.ix (.v 1) (.c (.int 1)))])]
def T_plus : Nat → List D → Option D
  | 2 => F_ratio
  | _ => fun _ => none
def Y_plus : Stat := { N := N_plus, Z := ⟨T_plus, cval⟩, fns := [(2, "ratio")], cns := [], bl := blts, gcd := false, lv := 1 }
def F_plus (ds : List D) : Option D := evF ⟨T_plus, cval⟩ ir_plus 2 2 ds
theorem ck_plus : ckSs Y_plus ir_plus (defScope s_plus) (fun _ => true) (defBody s_plus) = true := by decide +kernel
theorem sc_plus : FnScope N_plus ["one", "two"] (defScope s_plus) := ⟨rfl, rfl, rfl, by decide +kernel, rfl, by decide +kernel, by decide +kernel⟩
/-! ### minus -/
abbrev s_minus : Stmt := top 6
def N_minus : List Str := ["one", "two"]
def ir_minus : List S := [.ret (.call 2 [.bin .sub (.bin .mul (.ix (.v 0) (.c (.int 0))) (.ix (.v 1) (.c (.int 1)))) (.bin .mul (.ix (.v 1) (.c (.int 0))) (.ix (.v 0) (.c (.int 1)))), .bin .mul (.ix (.v 0) (.c (.int 1))) (.ix (.v 1) (.c (.int 1)))])]
def T_minus : Nat → List D → Option D
  | 2 => F_ratio
  | _ => fun _ => none
def Y_minus : Stat := { N := N_minus, Z := ⟨T_minus, cval⟩, fns := [(2, "ratio")], cns := [], bl := blts, gcd := false, lv := 1 }
def F_minus (ds : List D) : Option D := evF ⟨T_minus, cval⟩ ir_minus 2 2 ds
theorem ck_minus : ckSs Y_minus ir_minus (defScope s_minus) (fun _ => true) (defBody s_minus) = true := by decide +kernel
theorem sc_minus : FnScope N_minus ["one", "two"] (defScope s_minus) := ⟨rfl, rfl, rfl, by decide +kernel, rfl, by decide +kernel, by decide +kernel⟩
/-! ### times -/
abbrev s_times : Stmt := top 7
def N_times : List Str := ["one", "two"]
def ir_times : List S := [.ret (.call 2 [.bin .mul (.ix (.v 0) (.c (.int 0))) (.ix (.v 1) (.c (.int 0))), .bin .mul (.ix (.v 0) (.c (.int 1))) (.ix (.v 1) (.c (.int 1)))])]
def T_times : Nat → List D → Option D
  | 2 => F_ratio
  | _ => fun _ => none
def Y_times : Stat := { N := N_times, Z := ⟨T_times, cval⟩, fns := [(2, "ratio")], cns := [], bl := blts, gcd := false, lv := 1 }
def F_times (ds : List D) : Option D := evF ⟨T_times, cval⟩ ir_times 2 2 ds
theorem ck_times : ckSs Y_times ir_times (defScope s_times) (fun _ => true) (defBody s_times) = true := by decide +kernel
theorem sc_times : FnScope N_times ["one", "two"] (defScope s_times) := ⟨rfl, rfl, rfl, by decide +kernel, rfl, by decide +kernel, by decide +kernel⟩
/-! ### divided -/
abbrev s_divided : Stmt := top 8
def N_divided : List Str := ["one", "two"]
def ir_divided : List S := [.ret (.call 2 [.bin .mul (.ix (.v 0) (.c (.int 0))) (.ix (.v 1) (.c (.int 1))), .bin .mul (.ix (.v 0) (.c (.int 1))) (.ix (.v 1) (.c (.int 0)))])]
def T_divided : Nat → List D → Option D
  | 2 => F_ratio
  | _ => fun _ => none
def Y_divided : Stat := { N := N_divided, Z := ⟨T_divided, cval⟩, fns := [(2, "ratio")], cns := [], bl := blts, gcd := false, lv := 1 }
def F_divided (ds : List D) : Option D := evF ⟨T_divided, cval⟩ ir_divided 2 2 ds
theorem ck_divided : ckSs Y_divided ir_divided (defScope s_divided) (fun _ => true) (defBody s_divided) = true := by decide +kernel
theorem sc_divided : FnScope N_divided ["one", "two"] (defScope s_divided) := ⟨rfl, rfl, rfl, by decide +kernel, rfl, by decide +kernel, by decide +kernel⟩
/-! ### less -/
abbrev s_less : Stmt := top 9
def N_less : List Str := ["one", "two"]
def ir_less : List S := [.ret (.cmp .lt (.bin .mul (.ix (.v 0) (.c (.int 0))) (.ix (.v 1) (.c (.int 1)))) (.bin .mul (.ix (.v 1) (.c (.int 0))) (.ix (.v 0) (.c (.int 1)))))]
def T_less : Nat → List D → Option D := fun _ _ => none
def Y_less : Stat := { N := N_less, Z := ⟨T_less, cval⟩, fns := [], cns := [], bl := blts, gcd := false, lv := 0 }
def F_less (ds : List D) : Option D := evF ⟨T_less, cval⟩ ir_less 2 2 ds
theorem ck_less : ckSs Y_less ir_less (defScope s_less) (fun _ => true) (defBody s_less) = true := by decide +kernel
theorem sc_less : FnScope N_less ["one", "two"] (defScope s_less) := ⟨rfl, rfl, rfl, by decide +kernel, rfl, by decide +kernel, by decide +kernel⟩
/-! ### power -/
abbrev s_power : Stmt := top 10
def N_power : List Str := ["one", "count", "top", "bottom", "_"]
def ir_power : List S := [.asg (.nm 2) (.c (.int 1)),
    .asg (.nm 3) (.c (.int 1)),
    .for_ (.nm 4) (.r1 (.v 1)) [.asg (.nm 2) (.bin .mul (.v 2) (.ix (.v 0) (.c (.int 0)))), .asg (.nm 3) (.bin .mul (.v 3) (.ix (.v 0) (.c (.int 1))))],
    .ret (.tup [.v 2, .v 3])]
def T_power : Nat → List D → Option D := fun _ _ => none
def Y_power : Stat := { N := N_power, Z := ⟨T_power, cval⟩, fns := [], cns := [], bl := blts, gcd := false, lv := 0 }
def F_power (ds : List D) : Option D := evF ⟨T_power, cval⟩ ir_power 2 5 ds
theorem ck_power : ckSs Y_power ir_power (defScope s_power) (fun _ => true) (defBody s_power) = true := by decide +kernel
theorem sc_power : FnScope N_power ["one", "count"] (defScope s_power) := ⟨rfl, rfl, rfl, by decide +kernel, rfl, by decide +kernel, by decide +kernel⟩
/-! ### _law_whole -/
abbrev s_L_whole : Stmt := top 12
def N_L_whole : List Str := ["_law_value"]
def ir_L_whole : List S := [.ret (.and (.isi (.v 0) [.int] false) (.last (.not (.isi (.v 0) [.bool] false))))]
def T_L_whole : Nat → List D → Option D := fun _ _ => none
def Y_L_whole : Stat := { N := N_L_whole, Z := ⟨T_L_whole, cval⟩, fns := [], cns := [], bl := blts, gcd := false, lv := 0 }
def F_L_whole (ds : List D) : Option D := evF ⟨T_L_whole, cval⟩ ir_L_whole 1 1 ds
theorem ck_L_whole : ckSs Y_L_whole ir_L_whole (defScope s_L_whole) (fun _ => true) (defBody s_L_whole) = true := by decide +kernel
theorem sc_L_whole : FnScope N_L_whole ["_law_value"] (defScope s_L_whole) := ⟨rfl, rfl, rfl, by decide +kernel, rfl, by decide +kernel, by decide +kernel⟩
/-! ### _law_cell -/
abbrev s_L_cell : Stmt := top 13
def N_L_cell : List Str := ["_law_script", "_law_k", "_law_seed", "_law_cell_here"]
def ir_L_cell : List S := [.ifs (.cmp .lt (.v 1) (.blt .len [.v 0])) [.ret (.ix (.v 0) (.v 1))] [],
    .asg (.nm 2) (.c (.int 17)),
    .for_ (.nm 3) (.seq (.v 0)) [.asg (.nm 2) (.bin .mod (.blt .int [.bin .add (.bin .mul (.v 2) (.c (.int 31))) (.bin .mod (.blt .int [.v 3]) (.c (.int 1000003)))]) (.c (.int 1000003)))],
    .ret (.bin .mod (.blt .int [.bin .mul (.bin .mul (.bin .add (.v 2) (.c (.int 7))) (.bin .add (.v 1) (.c (.int 3)))) (.c (.int 69621))]) (.c (.int 2147483647)))]
def T_L_cell : Nat → List D → Option D := fun _ _ => none
def Y_L_cell : Stat := { N := N_L_cell, Z := ⟨T_L_cell, cval⟩, fns := [], cns := [], bl := blts, gcd := false, lv := 0 }
def F_L_cell (ds : List D) : Option D := evF ⟨T_L_cell, cval⟩ ir_L_cell 2 4 ds
theorem ck_L_cell : ckSs Y_L_cell ir_L_cell (defScope s_L_cell) (fun _ => true) (defBody s_L_cell) = true := by decide +kernel
theorem sc_L_cell : FnScope N_L_cell ["_law_script", "_law_k"] (defScope s_L_cell) := ⟨rfl, rfl, rfl, by decide +kernel, rfl, by decide +kernel, by decide +kernel⟩
/-! ### _law_digits -/
abbrev s_L_digits : Stmt := top 14
def N_L_digits : List Str := ["_law_cell_here", "_law_sizes", "_law_row", "_law_rest", "_law_seed", "_law_k", "_law_size", "_law_twice"]
def ir_L_digits : List S := [.own 2 [],
    .asg (.nm 3) (.blt .int [.v 0]),
    .ifs (.cmp .ge (.v 3) (.bin .pow (.c (.int 10)) (.c (.int 18)))) [.asg (.nm 3) (.bin .sub (.v 3) (.bin .pow (.c (.int 10)) (.c (.int 18)))), .for_ (.nm 6) (.seq (.v 1)) [.app 2 (.bin .mod (.blt .int [.v 3]) (.v 6)), .asg (.nm 3) (.bin .fdiv (.blt .int [.v 3]) (.v 6))], .frz 2, .ret (.v 2)] [],
    .asg (.nm 4) (.bin .mod (.blt .int [.v 3]) (.c (.int 2147483629))),
    .for_ (.nm 5) (.r1 (.blt .len [.v 1])) [.asg (.nm 4) (.bin .mod (.blt .int [.bin .add (.bin .add (.bin .mul (.v 4) (.c (.int 48271))) (.bin .mul (.c (.int 974711)) (.v 5))) (.c (.int 12345))]) (.c (.int 2147483647))), .asg (.nm 7) (.bin .mod (.blt .int [.bin .mul (.v 4) (.bin .add (.bin .fdiv (.v 4) (.c (.int 65537))) (.c (.int 3)))]) (.c (.int 2147483629))), .app 2 (.bin .mod (.bin .fdiv (.v 7) (.c (.int 19))) (.ix (.v 1) (.v 5)))],
    .frz 2,
    .ret (.v 2)]
def T_L_digits : Nat → List D → Option D := fun _ _ => none
def Y_L_digits : Stat := { N := N_L_digits, Z := ⟨T_L_digits, cval⟩, fns := [], cns := [], bl := blts, gcd := false, lv := 0 }
def F_L_digits (ds : List D) : Option D := evF ⟨T_L_digits, cval⟩ ir_L_digits 2 8 ds
theorem ck_L_digits : ckSs Y_L_digits ir_L_digits (defScope s_L_digits) (fun _ => true) (defBody s_L_digits) = true := by decide +kernel
theorem sc_L_digits : FnScope N_L_digits ["_law_cell_here", "_law_sizes"] (defScope s_L_digits) := ⟨rfl, rfl, rfl, by decide +kernel, rfl, by decide +kernel, by decide +kernel⟩
/-! ### _law_gcd -/
abbrev s_L_gcd : Stmt := top 15
def N_L_gcd : List Str := ["_law_one", "_law_two", "_law_first", "_law_second", "_law_turn", "_law_rest"]
def ir_L_gcd : List S := [.asg (.nm 2) (.blt .abs [.blt .int [.v 0]]),
    .asg (.nm 3) (.blt .abs [.blt .int [.v 1]]),
    .for_ (.nm 4) (.r1 (.c (.int 1000000))) [.ifs (.cmp .eq (.v 3) (.c (.int 0))) [.brk] [], .asg (.nm 5) (.bin .mod (.blt .int [.v 2]) (.v 3)), .asg (.nm 2) (.v 3), .asg (.nm 3) (.v 5)],
    .ret (.v 2)]
def T_L_gcd : Nat → List D → Option D := fun _ _ => none
def Y_L_gcd : Stat := { N := N_L_gcd, Z := ⟨T_L_gcd, cval⟩, fns := [], cns := [], bl := blts, gcd := false, lv := 0 }
def F_L_gcd (ds : List D) : Option D := evF ⟨T_L_gcd, cval⟩ ir_L_gcd 2 6 ds
theorem ck_L_gcd : ckSs Y_L_gcd ir_L_gcd (defScope s_L_gcd) (fun _ => true) (defBody s_L_gcd) = true := by decide +kernel
theorem sc_L_gcd : FnScope N_L_gcd ["_law_one", "_law_two"] (defScope s_L_gcd) := ⟨rfl, rfl, rfl, by decide +kernel, rfl, by decide +kernel, by decide +kernel⟩
/-! ### _law_is_ratio -/
abbrev s_L_is_ratio : Stmt := top 16
def N_L_is_ratio : List Str := ["_law_value"]
def ir_L_is_ratio : List S := [.ifs (.or (.not (.isi (.v 0) [.tuple] false)) (.last (.cmp .ne (.blt .len [.v 0]) (.c (.int 2))))) [.ret (.c (.bl false))] [],
    .ifs (.or (.not (.call 9 [.ix (.v 0) (.c (.int 0))])) (.or (.not (.call 9 [.ix (.v 0) (.c (.int 1))])) (.last (.cmp .lt (.ix (.v 0) (.c (.int 1))) (.c (.int 1)))))) [.ret (.c (.bl false))] [],
    .ret (.cmp .eq (.call 12 [.ix (.v 0) (.c (.int 0)), .ix (.v 0) (.c (.int 1))]) (.c (.int 1)))]
def T_L_is_ratio : Nat → List D → Option D
  | 9 => F_L_whole
  | 12 => F_L_gcd
  | _ => fun _ => none
def Y_L_is_ratio : Stat := { N := N_L_is_ratio, Z := ⟨T_L_is_ratio, cval⟩, fns := [(9, "_law_whole"), (12, "_law_gcd")], cns := [], bl := blts, gcd := false, lv := 1 }
def F_L_is_ratio (ds : List D) : Option D := evF ⟨T_L_is_ratio, cval⟩ ir_L_is_ratio 1 1 ds
theorem ck_L_is_ratio : ckSs Y_L_is_ratio ir_L_is_ratio (defScope s_L_is_ratio) (fun _ => true) (defBody s_L_is_ratio) = true := by decide +kernel
theorem sc_L_is_ratio : FnScope N_L_is_ratio ["_law_value"] (defScope s_L_is_ratio) := ⟨rfl, rfl, rfl, by decide +kernel, rfl, by decide +kernel, by decide +kernel⟩
/-! ### _law_same -/
abbrev s_L_same : Stmt := top 17
def N_L_same : List Str := ["_law_value", "_law_top", "_law_bottom"]
def ir_L_same : List S := [.ret (.and (.call 13 [.v 0]) (.last (.cmp .eq (.bin .mul (.ix (.v 0) (.c (.int 0))) (.v 2)) (.bin .mul (.v 1) (.ix (.v 0) (.c (.int 1)))))))]
def T_L_same : Nat → List D → Option D
  | 13 => F_L_is_ratio
  | _ => fun _ => none
def Y_L_same : Stat := { N := N_L_same, Z := ⟨T_L_same, cval⟩, fns := [(13, "_law_is_ratio")], cns := [], bl := blts, gcd := false, lv := 2 }
def F_L_same (ds : List D) : Option D := evF ⟨T_L_same, cval⟩ ir_L_same 3 3 ds
theorem ck_L_same : ckSs Y_L_same ir_L_same (defScope s_L_same) (fun _ => true) (defBody s_L_same) = true := by decide +kernel
theorem sc_L_same : FnScope N_L_same ["_law_value", "_law_top", "_law_bottom"] (defScope s_L_same) := ⟨rfl, rfl, rfl, by decide +kernel, rfl, by decide +kernel, by decide +kernel⟩
/-! ### _law_truth -/
abbrev s_L_truth : Stmt := top 18
def N_L_truth : List Str := ["_law_value", "_law_due"]
def ir_L_truth : List S := [.ret (.and (.isi (.v 0) [.bool] false) (.last (.cmp .eq (.v 0) (.v 1))))]
def T_L_truth : Nat → List D → Option D := fun _ _ => none
def Y_L_truth : Stat := { N := N_L_truth, Z := ⟨T_L_truth, cval⟩, fns := [], cns := [], bl := blts, gcd := false, lv := 0 }
def F_L_truth (ds : List D) : Option D := evF ⟨T_L_truth, cval⟩ ir_L_truth 2 2 ds
theorem ck_L_truth : ckSs Y_L_truth ir_L_truth (defScope s_L_truth) (fun _ => true) (defBody s_L_truth) = true := by decide +kernel
theorem sc_L_truth : FnScope N_L_truth ["_law_value", "_law_due"] (defScope s_L_truth) := ⟨rfl, rfl, rfl, by decide +kernel, rfl, by decide +kernel, by decide +kernel⟩
/-! ### _law_raw -/
abbrev s_L_raw : Stmt := top 19
def N_L_raw : List Str := ["_law_script", "_law_at", "_law_head", "_law_one", "_law_two", "_law_top", "_law_bottom", "_law_factor"]
def ir_L_raw : List S := [.asg (.nm 2) (.call 11 [.call 10 [.v 0, .bin .mul (.c (.int 3)) (.v 1)], .lst [.c (.int 6), .c (.int 13), .c (.int 12), .c (.int 9)]]),
    .asg (.nm 3) (.call 11 [.call 10 [.v 0, .bin .add (.bin .mul (.c (.int 3)) (.v 1)) (.c (.int 1))], .lst [.bin .pow (.c (.int 10)) (.c (.int 12)), .bin .pow (.c (.int 10)) (.c (.int 12)), .c (.int 2)]]),
    .asg (.nm 4) (.call 11 [.call 10 [.v 0, .bin .add (.bin .mul (.c (.int 3)) (.v 1)) (.c (.int 2))], .lst [.bin .pow (.c (.int 10)) (.c (.int 12)), .bin .pow (.c (.int 10)) (.c (.int 12))]]),
    .asg (.nm 5) (.bin .sub (.ix (.v 2) (.c (.int 1))) (.c (.int 6))),
    .asg (.nm 6) (.bin .add (.ix (.v 2) (.c (.int 2))) (.c (.int 1))),
    .ifs (.cmp .eq (.ix (.v 2) (.c (.int 0))) (.c (.int 0))) [.asg (.nm 5) (.bin .mul (.bin .mul (.ix (.v 3) (.c (.int 0))) (.ix (.v 3) (.c (.int 1)))) (.bin .sub (.c (.int 1)) (.bin .mul (.c (.int 2)) (.ix (.v 3) (.c (.int 2)))))), .asg (.nm 6) (.bin .add (.c (.int 1)) (.bin .mul (.ix (.v 4) (.c (.int 0))) (.ix (.v 4) (.c (.int 1)))))] [],
    .ifs (.cmp .eq (.ix (.v 2) (.c (.int 0))) (.c (.int 1))) [.asg (.nm 6) (.bin .add (.c (.int 1)) (.ix (.v 4) (.c (.int 0))))] [],
    .ifs (.cmp .eq (.ix (.v 2) (.c (.int 0))) (.c (.int 2))) [.asg (.nm 5) (.bin .mul (.ix (.v 3) (.c (.int 0))) (.bin .sub (.c (.int 1)) (.bin .mul (.c (.int 2)) (.ix (.v 3) (.c (.int 2))))))] [],
    .asg (.nm 7) (.ix (.lst [.c (.int 1), .neg (.c (.int 1)), .c (.int 2), .neg (.c (.int 3)), .c (.int 1), .c (.int 12), .neg (.c (.int 1)), .c (.int 1000003), .c (.int 6)]) (.ix (.v 2) (.c (.int 3)))),
    .ret (.lst [.bin .mul (.v 5) (.v 7), .bin .mul (.v 6) (.v 7)])]
def T_L_raw : Nat → List D → Option D
  | 10 => F_L_cell
  | 11 => F_L_digits
  | _ => fun _ => none
def Y_L_raw : Stat := { N := N_L_raw, Z := ⟨T_L_raw, cval⟩, fns := [(10, "_law_cell"), (11, "_law_digits")], cns := [], bl := blts, gcd := false, lv := 1 }
def F_L_raw (ds : List D) : Option D := evF ⟨T_L_raw, cval⟩ ir_L_raw 2 8 ds
theorem ck_L_raw : ckSs Y_L_raw ir_L_raw (defScope s_L_raw) (fun _ => true) (defBody s_L_raw) = true := by decide +kernel
theorem sc_L_raw : FnScope N_L_raw ["_law_script", "_law_at"] (defScope s_L_raw) := ⟨rfl, rfl, rfl, by decide +kernel, rfl, by decide +kernel, by decide +kernel⟩
/-! ### _law_bad -/
abbrev s_L_bad : Stmt := top 20
def N_L_bad : List Str := ["_law_one", "_law_factor", "_law_spoilt"]
def ir_L_bad : List S := [.asg (.nm 2) (.lst [.tup [.bin .mul (.ix (.v 0) (.c (.int 0))) (.v 1), .bin .mul (.ix (.v 0) (.c (.int 1))) (.v 1)], .lst [.bin .mul (.ix (.v 0) (.c (.int 0))) (.v 1), .bin .mul (.ix (.v 0) (.c (.int 1))) (.v 1)]]),
    .asg (.nm 2) (.bin .add (.v 2) (.lst [.tup [.ix (.v 0) (.c (.int 0)), .neg (.ix (.v 0) (.c (.int 1)))], .tup [.neg (.ix (.v 0) (.c (.int 0))), .neg (.ix (.v 0) (.c (.int 1)))], .lst [.ix (.v 0) (.c (.int 0)), .c (.int 0)], .tup [.ix (.v 0) (.c (.int 0))], .lst [.ix (.v 0) (.c (.int 1))]])),
    .asg (.nm 2) (.bin .add (.v 2) (.lst [.tup [.ix (.v 0) (.c (.int 0)), .ix (.v 0) (.c (.int 1)), .c (.int 1)], .lst [.ix (.v 0) (.c (.int 0)), .ix (.v 0) (.c (.int 1)), .ix (.v 0) (.c (.int 1))], .tup [.v 0, .c (.int 1)], .tup [.ix (.v 0) (.c (.int 0)), .v 0], .tup [.ix (.v 0) (.c (.int 0)), .lst [.ix (.v 0) (.c (.int 1))]]])),
    .asg (.nm 2) (.bin .add (.v 2) (.lst [.tup [.c (.bl true), .ix (.v 0) (.c (.int 1))], .tup [.c (.bl false), .c (.int 1)], .lst [.ix (.v 0) (.c (.int 0)), .c (.bl true)], .tup [.ix (.v 0) (.c (.int 0)), .c .non], .tup [.c .non, .ix (.v 0) (.c (.int 1))], .tup [.c (.str [49]), .c (.int 1)], .tup [.c (.int 1), .c (.str [50])]])),
    .ret (.bin .add (.v 2) (.lst [.ix (.v 0) (.c (.int 0)), .ix (.v 0) (.c (.int 1)), .c .non, .c (.bl true), .c (.bl false), .tup [], .lst [], .c (.str []), .c (.str [49, 50]), .c (.str [49, 47, 50]), .dct [], .dct [.c (.int 1), .c (.int 2), .c (.int 3), .c (.int 5)]]))]
def T_L_bad : Nat → List D → Option D := fun _ _ => none
def Y_L_bad : Stat := { N := N_L_bad, Z := ⟨T_L_bad, cval⟩, fns := [], cns := [], bl := blts, gcd := false, lv := 0 }
def F_L_bad (ds : List D) : Option D := evF ⟨T_L_bad, cval⟩ ir_L_bad 2 3 ds
theorem ck_L_bad : ckSs Y_L_bad ir_L_bad (defScope s_L_bad) (fun _ => true) (defBody s_L_bad) = true := by decide +kernel
theorem sc_L_bad : FnScope N_L_bad ["_law_one", "_law_factor"] (defScope s_L_bad) := ⟨rfl, rfl, rfl, by decide +kernel, rfl, by decide +kernel, by decide +kernel⟩
/-! ### _law_sums -/
abbrev s_L_sums : Stmt := top 21
def N_L_sums : List Str := ["_law_one", "_law_two", "_law_lists", "_law_over"]
def ir_L_sums : List S := [.asg (.nm 2) (.lst [.lst [.ix (.v 0) (.c (.int 0)), .ix (.v 0) (.c (.int 1))], .lst [.ix (.v 1) (.c (.int 0)), .ix (.v 1) (.c (.int 1))]]),
    .asg (.nm 3) (.bin .mul (.ix (.v 0) (.c (.int 1))) (.ix (.v 1) (.c (.int 1)))),
    .ifs (.not (.call 14 [.call 3 [.ix (.v 2) (.c (.int 0)), .v 1], .bin .add (.bin .mul (.ix (.v 0) (.c (.int 0))) (.ix (.v 1) (.c (.int 1)))) (.bin .mul (.ix (.v 1) (.c (.int 0))) (.ix (.v 0) (.c (.int 1)))), .v 3])) [.ret (.c (.bl false))] [],
    .ifs (.not (.call 14 [.call 4 [.v 0, .ix (.v 2) (.c (.int 1))], .bin .sub (.bin .mul (.ix (.v 0) (.c (.int 0))) (.ix (.v 1) (.c (.int 1)))) (.bin .mul (.ix (.v 1) (.c (.int 0))) (.ix (.v 0) (.c (.int 1)))), .v 3])) [.ret (.c (.bl false))] [],
    .ifs (.not (.call 14 [.call 5 [.ix (.v 2) (.c (.int 0)), .ix (.v 2) (.c (.int 1))], .bin .mul (.ix (.v 0) (.c (.int 0))) (.ix (.v 1) (.c (.int 0))), .v 3])) [.ret (.c (.bl false))] [],
    .ifs (.not (.call 14 [.call 3 [.v 0, .v 1], .bin .add (.bin .mul (.ix (.v 0) (.c (.int 0))) (.ix (.v 1) (.c (.int 1)))) (.bin .mul (.ix (.v 1) (.c (.int 0))) (.ix (.v 0) (.c (.int 1)))), .v 3])) [.ret (.c (.bl false))] [],
    .ifs (.and (.cmp .ne (.ix (.v 1) (.c (.int 0))) (.c (.int 0))) (.last (.not (.call 14 [.call 6 [.v 0, .v 1], .bin .mul (.ix (.v 0) (.c (.int 0))) (.ix (.v 1) (.c (.int 1))), .bin .mul (.ix (.v 0) (.c (.int 1))) (.ix (.v 1) (.c (.int 0)))])))) [.ret (.c (.bl false))] [],
    .ifs (.and (.cmp .ne (.ix (.v 1) (.c (.int 0))) (.c (.int 0))) (.last (.not (.call 14 [.call 6 [.ix (.v 2) (.c (.int 0)), .ix (.v 2) (.c (.int 1))], .bin .mul (.ix (.v 0) (.c (.int 0))) (.ix (.v 1) (.c (.int 1))), .bin .mul (.ix (.v 0) (.c (.int 1))) (.ix (.v 1) (.c (.int 0)))])))) [.ret (.c (.bl false))] [],
    .ifs (.not (.call 15 [.call 7 [.ix (.v 2) (.c (.int 0)), .ix (.v 2) (.c (.int 1))], .cmp .lt (.bin .mul (.ix (.v 0) (.c (.int 0))) (.ix (.v 1) (.c (.int 1)))) (.bin .mul (.ix (.v 1) (.c (.int 0))) (.ix (.v 0) (.c (.int 1))))])) [.ret (.c (.bl false))] [],
    .ret (.cmp .eq (.v 2) (.lst [.lst [.ix (.v 0) (.c (.int 0)), .ix (.v 0) (.c (.int 1))], .lst [.ix (.v 1) (.c (.int 0)), .ix (.v 1) (.c (.int 1))]]))]
def T_L_sums : Nat → List D → Option D
  | 3 => F_plus
  | 4 => F_minus
  | 5 => F_times
  | 6 => F_divided
  | 7 => F_less
  | 14 => F_L_same
  | 15 => F_L_truth
  | _ => fun _ => none
def Y_L_sums : Stat := { N := N_L_sums, Z := ⟨T_L_sums, cval⟩, fns := [(3, "plus"), (4, "minus"), (5, "times"), (6, "divided"), (7, "less"), (14, "_law_same"), (15, "_law_truth")], cns := [], bl := blts, gcd := false, lv := 3 }
def F_L_sums (ds : List D) : Option D := evF ⟨T_L_sums, cval⟩ ir_L_sums 2 4 ds
theorem ck_L_sums : ckSs Y_L_sums ir_L_sums (defScope s_L_sums) (fun _ => true) (defBody s_L_sums) = true := by decide +kernel
theorem sc_L_sums : FnScope N_L_sums ["_law_one", "_law_two"] (defScope s_L_sums) := ⟨rfl, rfl, rfl, by decide +kernel, rfl, by decide +kernel, by decide +kernel⟩
/-! ### _law_power -/
abbrev s_L_power : Stmt := top 22
def N_L_power : List Str := ["_law_one", "_law_count", "_law_top", "_law_bottom", "_law_turn", "_law_made"]
def ir_L_power : List S := [.asg (.nm 2) (.c (.int 1)),
    .asg (.nm 3) (.c (.int 1)),
    .for_ (.nm 4) (.r1 (.v 1)) [.asg (.nm 2) (.bin .mul (.v 2) (.ix (.v 0) (.c (.int 0)))), .asg (.nm 3) (.bin .mul (.v 3) (.ix (.v 0) (.c (.int 1))))],
    .asg (.nm 5) (.call 8 [.v 0, .v 1]),
    .ifs (.or (.not (.isi (.v 5) [.tuple] false)) (.or (.cmp .ne (.blt .len [.v 5]) (.c (.int 2))) (.or (.not (.call 9 [.ix (.v 5) (.c (.int 0))])) (.last (.not (.call 9 [.ix (.v 5) (.c (.int 1))])))))) [.ret (.c (.bl false))] [],
    .ret (.and (.cmp .eq (.v 5) (.tup [.v 2, .v 3])) (.last (.cmp .eq (.call 8 [.lst [.ix (.v 0) (.c (.int 0)), .ix (.v 0) (.c (.int 1))], .v 1]) (.v 5))))]
def T_L_power : Nat → List D → Option D
  | 8 => F_power
  | 9 => F_L_whole
  | _ => fun _ => none
def Y_L_power : Stat := { N := N_L_power, Z := ⟨T_L_power, cval⟩, fns := [(8, "power"), (9, "_law_whole")], cns := [], bl := blts, gcd := false, lv := 1 }
def F_L_power (ds : List D) : Option D := evF ⟨T_L_power, cval⟩ ir_L_power 2 6 ds
theorem ck_L_power : ckSs Y_L_power ir_L_power (defScope s_L_power) (fun _ => true) (defBody s_L_power) = true := by decide +kernel
theorem sc_L_power : FnScope N_L_power ["_law_one", "_law_count"] (defScope s_L_power) := ⟨rfl, rfl, rfl, by decide +kernel, rfl, by decide +kernel, by decide +kernel⟩
/-! ### law -/
abbrev s_law : Stmt := top 23
def N_law : List Str := ["_law_script", "_law_raw_here", "_law_other", "_law_head", "_law_one", "_law_two", "_law_count", "_law_value", "_law_pair", "_law_lowest", "_law_step"]
def ir_law : List S := [.asg (.nm 1) (.call 16 [.v 0, .c (.int 0)]),
    .asg (.nm 2) (.call 16 [.v 0, .c (.int 1)]),
    .asg (.nm 3) (.call 11 [.call 10 [.v 0, .c (.int 6)], .lst [.c (.int 3), .c (.int 3), .c (.int 8), .c (.int 19), .c (.int 9), .c (.int 11)]]),
    .ifs (.cmp .eq (.ix (.v 3) (.c (.int 0))) (.c (.int 0))) [.asg (.nm 10) (.bin .add (.c (.int 1)) (.ix (.call 11 [.call 10 [.v 0, .c (.int 7)], .lst [.bin .pow (.c (.int 10)) (.c (.int 15))]]) (.c (.int 0)))), .asg (.nm 2) (.lst [.bin .sub (.bin .add (.bin .mul (.ix (.v 1) (.c (.int 0))) (.v 10)) (.ix (.v 3) (.c (.int 1)))) (.c (.int 1)), .bin .mul (.ix (.v 1) (.c (.int 1))) (.v 10)])] [],
    .asg (.nm 4) (.call 2 [.ix (.v 1) (.c (.int 0)), .ix (.v 1) (.c (.int 1))]),
    .asg (.nm 5) (.call 2 [.ix (.v 2) (.c (.int 0)), .ix (.v 2) (.c (.int 1))]),
    .ifs (.or (.not (.call 14 [.v 4, .ix (.v 1) (.c (.int 0)), .ix (.v 1) (.c (.int 1))])) (.last (.not (.call 14 [.v 5, .ix (.v 2) (.c (.int 0)), .ix (.v 2) (.c (.int 1))])))) [.ret (.c (.bl false))] [],
    .ifs (.or (.not (.call 18 [.v 4, .v 5])) (.or (.not (.call 18 [.v 5, .v 4])) (.last (.not (.call 18 [.v 4, .v 4]))))) [.ret (.c (.bl false))] [],
    .asg (.nm 6) (.ix (.lst [.c (.int 0), .c (.int 1), .c (.int 2), .c (.int 3), .c (.int 5), .c (.int 17), .c (.int 199), .c (.int 200)]) (.ix (.v 3) (.c (.int 2)))),
    .ifs (.or (.not (.call 19 [.v 4, .v 6])) (.or (.not (.call 19 [.tup [.c (.int 0), .c (.int 1)], .v 6])) (.last (.not (.call 19 [.v 5, .bin .fdiv (.v 6) (.c (.int 2))]))))) [.ret (.c (.bl false))] [],
    .for_ (.nm 7) (.seq (.lst [.v 4, .v 5, .lst [.ix (.v 4) (.c (.int 0)), .ix (.v 4) (.c (.int 1))], .lst [.ix (.v 5) (.c (.int 0)), .ix (.v 5) (.c (.int 1))], .tup [.c (.int 0), .c (.int 1)], .lst [.c (.int 0), .c (.int 1)]])) [.ifs (.cmp .isnot (.call 1 [.v 7]) (.c (.bl true))) [.ret (.c (.bl false))] []],
    .for_ (.nm 7) (.seq (.bin .add (.call 17 [.v 4, .bin .add (.c (.int 2)) (.ix (.v 3) (.c (.int 5)))]) (.call 17 [.v 5, .bin .add (.c (.int 2)) (.ix (.v 3) (.c (.int 5)))]))) [.ifs (.cmp .isnot (.call 1 [.v 7]) (.c (.bl false))) [.ret (.c (.bl false))] []],
    .asg (.nm 8) (.tup [.bin .sub (.ix (.v 3) (.c (.int 3))) (.c (.int 9)), .bin .sub (.ix (.v 3) (.c (.int 4))) (.c (.int 2))]),
    .asg (.nm 9) (.and (.cmp .ge (.ix (.v 8) (.c (.int 1))) (.c (.int 1))) (.last (.cmp .eq (.call 12 [.ix (.v 8) (.c (.int 0)), .ix (.v 8) (.c (.int 1))]) (.c (.int 1))))),
    .ifs (.or (.not (.call 15 [.call 1 [.v 8], .v 9])) (.last (.not (.call 15 [.call 1 [.lst [.ix (.v 8) (.c (.int 0)), .ix (.v 8) (.c (.int 1))]], .v 9])))) [.ret (.c (.bl false))] [],
    .ret (.and (.cmp .eq (.call 2 [.ix (.v 1) (.c (.int 0)), .ix (.v 1) (.c (.int 1))]) (.v 4)) (.last (.cmp .eq (.call 2 [.ix (.v 2) (.c (.int 0)), .ix (.v 2) (.c (.int 1))]) (.v 5))))]
def T_law : Nat → List D → Option D
  | 1 => F_is_ratio
  | 2 => F_ratio
  | 10 => F_L_cell
  | 11 => F_L_digits
  | 12 => F_L_gcd
  | 14 => F_L_same
  | 15 => F_L_truth
  | 16 => F_L_raw
  | 17 => F_L_bad
  | 18 => F_L_sums
  | 19 => F_L_power
  | _ => fun _ => none
def Y_law : Stat := { N := N_law, Z := ⟨T_law, cval⟩, fns := [(1, "is_ratio"), (2, "ratio"), (10, "_law_cell"), (11, "_law_digits"), (12, "_law_gcd"), (14, "_law_same"), (15, "_law_truth"), (16, "_law_raw"), (17, "_law_bad"), (18, "_law_sums"), (19, "_law_power")], cns := [], bl := blts, gcd := false, lv := 4 }
def F_law (ds : List D) : Option D := evF ⟨T_law, cval⟩ ir_law 1 11 ds
theorem ck_law : ckSs Y_law ir_law (defScope s_law) (fun _ => true) (defBody s_law) = true := by decide +kernel
theorem sc_law : FnScope N_law ["_law_script"] (defScope s_law) := ⟨rfl, rfl, rfl, by decide +kernel, rfl, by decide +kernel, by decide +kernel⟩
end K55

set_option linter.all false
set_option maxRecDepth 100000
set_option maxHeartbeats 4000000
namespace K55
open PySem L2 Pv
def IsI (o : Option D) : Prop := ∃ z, o = some (.int z)
theorem fmodp (a b : Int) (h : 0 < b) : 0 ≤ a.fmod b ∧ a.fmod b < b := by
  rw [Int.fmod_eq_emod_of_nonneg _ (by omega)]
  exact ⟨Int.emod_nonneg _ (by omega), Int.emod_lt_of_pos _ h⟩
theorem fdivp (a b : Int) (ha : 0 ≤ a) (h : 0 < b) : 0 ≤ a.fdiv b ∧ a.fdiv b ≤ a := by
  rw [Int.fdiv_eq_ediv_of_nonneg _ (by omega)]
  exact ⟨Int.ediv_nonneg ha (by omega), Int.ediv_le_self b ha⟩
theorem cell_ok (ns : List Int) (k : Nat) (hk : k < 1000) : IsI (F_L_cell [.scr ns, .int k]) := by
  by_cases h : (k : Int) < ns.length
  · have hk2 : k < ns.length := by omega
    have e : atI ns (k : Int) = some ns[k] := atI_nat (by simp [hk2])
    simp [F_L_cell, evF, ir_L_cell, startD, h, e, IsI]
  · simp [F_L_cell, evF, ir_L_cell, startD, h]
    refine loop_thenE (P := fun o => IsI (o.bind endD)) (fun i σ => ∃ s x, σ = [.v (.scr ns), .v (.int k), .v (.int s), x] ∧ 0 ≤ s ∧ s < 1000003) ⟨17, .no, rfl, by decide, by decide⟩ ?_ ?_
    · rintro i d σ hd ⟨s, x, rfl, h1, h2⟩
      rw [List.getElem?_map] at hd
      obtain ⟨z, hz, rfl⟩ := mpd hd
      have m1 : mulOk s 31 = true := mulOk_of (a := 20) (b := 5) (by omega) (by decide) (by decide) (by decide) (by decide)
      obtain ⟨a1, a2⟩ := fmodp (s * 31 + z.fmod 1000003) 1000003 (by decide)
      exact ⟨_, [.v (.scr ns), .v (.int k), .v (.int ((s * 31 + z.fmod 1000003).fmod 1000003)), .v (.int z)], rfl, .inl (by simp [m1]), _, _, rfl, a1, a2⟩
    · rintro σ ⟨s, x, rfl, h1, h2⟩
      have m1 : mulOk (s + 7) (k + 3) = true := mulOk_of (a := 21) (b := 11) (by omega) (by omega) (by decide) (by decide) (by decide)
      have m2 : mulOk ((s + 7) * (k + 3)) 69621 = true := mulOk_of (a := 32) (b := 17) (wide_lt (a := 21) (b := 11) (by omega) (by omega)) (by decide) (by decide) (by decide) (by decide)
      simp [m1, m2, IsI]
/-- digits below their sizes -/
def Dg : List Int → List Int → Prop
  | [], [] => True
  | d :: ds, s :: ss => (0 ≤ d ∧ d < s) ∧ Dg ds ss
  | _, _ => False
theorem Dg.snoc : ∀ {ds ss : List Int} {d s : Int}, Dg ds ss → 0 ≤ d → d < s → Dg (ds ++ [d]) (ss ++ [s])
  | [], [], d, s, _, h1, h2 => ⟨⟨h1, h2⟩, trivial⟩
  | [], _ :: _, _, _, h, _, _ => h.elim
  | _ :: _, [], _, _, h, _, _ => h.elim
  | a :: ds, b :: ss, d, s, h, h1, h2 => ⟨h.1, Dg.snoc h.2 h1 h2⟩
theorem Dg.len : ∀ {ds ss : List Int}, Dg ds ss → ds.length = ss.length
  | [], [], _ => rfl
  | [], _ :: _, h => h.elim
  | _ :: _, [], h => h.elim
  | a :: ds, b :: ss, h => by simp [Dg.len h.2]
theorem take_snoc {ss : List Int} {i : Nat} {s : Int} (h : ss[i]? = some s) : ss.take (i + 1) = ss.take i ++ [s] := by
  rw [List.take_add_one, h]; rfl
theorem digits_ok (z : Int) (ss : List Int) (hl : ss.length < 1000) (hs : ∀ s ∈ ss, 0 < s ∧ s < 2 ^ 60) : ∃ ds, F_L_digits [.int z, .lst (ss.map .int)] = some (.lst (ds.map .int)) ∧ Dg ds ss := by
  have p1 : powOk 10 18 = true := by decide
  by_cases h : (1000000000000000000 : Int) ≤ z
  · simp [F_L_digits, evF, ir_L_digits, startD, h, p1]
    refine loop_thenE (P := fun o => ∃ ds, ((o.bind _).bind endD) = some (.lst (ds.map D.int)) ∧ Dg ds ss) (fun i σ => ∃ acc r x, σ = [.v (.int z), .v (.lst (ss.map .int)), .o (acc.map .int), .v (.int r), .no, .no, x, .no] ∧ Dg acc (ss.take i)) ⟨[], _, _, rfl, trivial⟩ ?_ ?_
    · rintro i d σ hd ⟨acc, r, x, rfl, hD⟩
      rw [List.getElem?_map] at hd
      obtain ⟨s, hz, rfl⟩ := mpd hd
      obtain ⟨s0, s1⟩ := hs s (List.mem_of_getElem? hz)
      have hlen : acc.length < 16777216 := by
        have := hD.len
        have h9 : (ss.take i).length ≤ ss.length := by rw [List.length_take]; omega
        omega
      have s2 : ¬ s = 0 := by omega
      have d1 : divOk s = true := divOk_of (b := 60) (by omega) (by omega) (by decide) (by decide)
      obtain ⟨a1, a2⟩ := fmodp r s s0
      refine ⟨_, [.v (.int z), .v (.lst (ss.map .int)), .o ((acc ++ [r.fmod s]).map .int), .v (.int (r.fdiv s)), .no, .no, .v (.int s), .no], rfl, .inl (by simp [s2, d1, hlen]), _, _, _, rfl, ?_⟩
      rw [take_snoc hz]
      exact hD.snoc a1 a2
    · rintro σ ⟨acc, r, x, rfl, hD⟩
      refine ⟨acc, by simp, ?_⟩
      rw [List.length_map, List.take_length] at hD
      exact hD
  · have r1 : okR (ss.length : Int) = true := by simp [okR]; omega
    obtain ⟨b1, b2⟩ := fmodp z 2147483629 (by decide)
    simp [F_L_digits, evF, ir_L_digits, startD, h, p1, r1]
    refine loop_thenE (P := fun o => ∃ ds, (o.bind endD) = some (.lst (ds.map D.int)) ∧ Dg ds ss) (fun i σ => ∃ acc s r x5 x6 x7, σ = [.v (.int z), .v (.lst (ss.map .int)), .o (acc.map .int), .v (.int r), .v (.int s), x5, x6, x7] ∧ Dg acc (ss.take i) ∧ 0 ≤ s ∧ s < 2147483647) ⟨[], _, _, _, _, _, rfl, trivial, b1, by omega⟩ ?_ ?_
    · rintro i d σ hd ⟨acc, s, r, x5, x6, x7, rfl, hD, h1, h2⟩
      have hi : i < ss.length := by
        have := (List.getElem?_eq_some_iff.mp hd).1
        rw [rng_len] at this; exact this
      rw [rng_get _ _ _ hi] at hd
      cases hd
      have hz : ss[i]? = some ss[i] := by simp [hi]
      obtain ⟨s0, s1⟩ := hs ss[i] (List.getElem_mem hi)
      have hlen : acc.length < 16777216 := by
        have := hD.len
        have h9 : (ss.take i).length ≤ ss.length := by rw [List.length_take]; omega
        omega
      have s2 : ¬ ss[i] = 0 := by omega
      have m1 : mulOk s 48271 = true := mulOk_of (a := 31) (b := 16) (by omega) (by decide) (by decide) (by decide) (by decide)
      have m2 : mulOk 974711 (i : Int) = true := mulOk_of (a := 20) (b := 10) (by decide) (by omega) (by decide) (by decide) (by decide)
      obtain ⟨a1, a2⟩ := fmodp (s * 48271 + 974711 * i + 12345) 2147483647 (by decide)
      generalize hs' : (s * 48271 + 974711 * (i : Int) + 12345).fmod 2147483647 = s' at a1 a2
      obtain ⟨c1, c2⟩ := fdivp s' 65537 a1 (by decide)
      have d1 : divOk 65537 = true := by decide
      have d2 : divOk 19 = true := by decide
      have m3 : mulOk s' (s'.fdiv 65537 + 3) = true := mulOk_of (a := 31) (b := 32) (by omega) (by omega) (by decide) (by decide) (by decide)
      obtain ⟨e1, e2⟩ := fmodp (((s' * (s'.fdiv 65537 + 3)).fmod 2147483629).fdiv 19) ss[i] s0
      have hat : atI (ss.map D.int) (i : Int) = some (.int ss[i]) := atI_nat (by simp [hi])
      refine ⟨_, [.v (.int z), .v (.lst (ss.map .int)), .o ((acc ++ [(((s' * (s'.fdiv 65537 + 3)).fmod 2147483629).fdiv 19).fmod ss[i]]).map .int), .v (.int r), .v (.int s'), .v (.int i), x6, .v (.int ((s' * (s'.fdiv 65537 + 3)).fmod 2147483629))], rfl, .inl (by simp [m1, m2, hs', d1, d2, m3, hat, s2, hlen]), _, _, _, _, _, _, rfl, ?_, a1, a2⟩
      rw [take_snoc hz]
      exact hD.snoc e1 e2
    · rintro σ ⟨acc, s, r, x5, x6, x7, rfl, hD, h1, h2⟩
      refine ⟨acc, by simp, ?_⟩
      rw [rng_len, List.take_length] at hD
      exact hD
end K55

set_option linter.all false
set_option maxRecDepth 100000
set_option maxHeartbeats 4000000
namespace K55
open PySem L2 Pv
theorem whole_int (i : Int) : F_L_whole [.int i] = some (.bl true) := by
  simp [F_L_whole, evF, ir_L_whole, startD, isi1, isIns]
theorem pwhole_int (i : Int) : F_is_whole [.int i] = some (.bl true) := by
  simp [F_is_whole, evF, ir_is_whole, startD, isi1, isIns]
/-- lowest terms -/
structure R (n d : Int) : Prop where
  pos : 1 ≤ d
  low : Nat.gcd n.natAbs d.natAbs = 1
theorem ratio_ok (a b : Int) (hb : b ≠ 0) (k : Nat) (hk : b.natAbs < 2 ^ k) (k0 : 0 < k) (k9 : k ≤ 9000) :
    ∃ n d, F_ratio [.int a, .int b] = some (.tup [.int n, .int d]) ∧ R n d ∧ n * b = a * d ∧ n.natAbs ≤ a.natAbs ∧ d.natAbs ≤ b.natAbs := by
  have hbp : 0 < b.natAbs := by omega
  have g0 : 0 < Nat.gcd a.natAbs b.natAbs := Nat.gcd_pos_of_pos_right _ hbp
  have gb : Nat.gcd a.natAbs b.natAbs ≤ b.natAbs := Nat.gcd_le_right _ hbp
  obtain ⟨c, hc, hcs⟩ : ∃ c : Int, c.natAbs = Nat.gcd a.natAbs b.natAbs ∧ ((b < 0 ∧ c = -((Nat.gcd a.natAbs b.natAbs : Nat) : Int)) ∨ (¬ b < 0 ∧ c = ((Nat.gcd a.natAbs b.natAbs : Nat) : Int))) := by
    by_cases h : b < 0
    · exact ⟨_, by omega, .inl ⟨h, rfl⟩⟩
    · exact ⟨_, by omega, .inr ⟨h, rfl⟩⟩
  have c0 : c ≠ 0 := by omega
  have ca : c ∣ a := by rw [← Int.natAbs_dvd_natAbs, hc]; exact Nat.gcd_dvd_left _ _
  have cb : c ∣ b := by rw [← Int.natAbs_dvd_natAbs, hc]; exact Nat.gcd_dvd_right _ _
  obtain ⟨n, hn⟩ := ca
  obtain ⟨d, hd⟩ := cb
  have fa : a.fdiv c = n := by rw [hn]; exact Int.mul_fdiv_cancel_left n c0
  have fb : b.fdiv c = d := by rw [hd]; exact Int.mul_fdiv_cancel_left d c0
  have dv : divOk c = true := divOk_of (b := k) c0 (by omega) k0 k9
  have low : Nat.gcd n.natAbs d.natAbs = 1 := by
    have e : Nat.gcd a.natAbs b.natAbs = c.natAbs * Nat.gcd n.natAbs d.natAbs := by
      rw [← Nat.gcd_mul_left, ← Int.natAbs_mul, ← Int.natAbs_mul, ← hn, ← hd]
    rw [← hc] at e
    have : c.natAbs * Nat.gcd n.natAbs d.natAbs = c.natAbs * 1 := by omega
    exact Nat.eq_of_mul_eq_mul_left (by omega) this
  have dpos : 1 ≤ d := by
    have : ¬ d ≤ 0 := fun hle => by
      rcases hcs with ⟨h, e⟩ | ⟨h, e⟩
      · have hcn : c ≤ 0 := by omega
        have := Int.mul_nonneg_of_nonpos_of_nonpos hcn hle
        omega
      · have hcp : 0 ≤ c := by omega
        have := Int.mul_nonpos_of_nonneg_of_nonpos hcp hle
        omega
    omega
  refine ⟨n, d, ?_, ⟨dpos, low⟩, ?_, ?_, ?_⟩
  · rcases hcs with ⟨h, e⟩ | ⟨h, e⟩
    · rw [e] at fa fb dv
      simp [F_ratio, evF, ir_ratio, startD, h, fa, fb, dv]
    · rw [e] at fa fb dv
      simp [F_ratio, evF, ir_ratio, startD, h, fa, fb, dv]
  · rw [hd]
    conv => rhs; rw [hn]
    rw [← Int.mul_assoc, Int.mul_comm n c]
  · rw [hn, Int.natAbs_mul]
    exact Nat.le_mul_of_pos_left _ (by omega)
  · rw [hd, Int.natAbs_mul]
    exact Nat.le_mul_of_pos_left _ (by omega)

/-! ### the law's own gcd -/
abbrev bodyG : List S := [.ifs (.cmp .eq (.v 3) (.c (.int 0))) [.brk] [], .asg (.nm 5) (.bin .mod (.blt .int [.v 2]) (.v 3)), .asg (.nm 2) (.v 3), .asg (.nm 3) (.v 5)]
theorem gcd_zero (Z : Sm) (n : Nat) (lo : Int) (a : Int) (x0 x1 x4 x5 : Sl) : ∃ y3 y4 y5, forL (.nm 4) (evSs Z bodyG) (rngD lo n) [x0, x1, .v (.int a), .v (.int 0), x4, x5] = some (.nx [x0, x1, .v (.int a), y3, y4, y5]) := by
  cases n with
  | zero => exact ⟨_, _, _, rfl⟩
  | succ n => exact ⟨.v (.int 0), .v (.int lo), x5, by rw [rngD, forL_cons]; simp⟩
theorem gcd_step (Z : Sm) (n : Nat) (lo : Int) (a b : Nat) (hb : b ≠ 0) (x0 x1 x4 x5 : Sl) : forL (.nm 4) (evSs Z bodyG) (rngD lo (n + 1)) [x0, x1, .v (.int a), .v (.int b), x4, x5] =
    forL (.nm 4) (evSs Z bodyG) (rngD (lo + 1) n) [x0, x1, .v (.int b), .v (.int (a % b : Nat)), .v (.int lo), .v (.int (a % b : Nat))] := by
  have e : (a : Int).fmod (b : Int) = ((a % b : Nat) : Int) := by
    rw [Int.fmod_eq_emod_of_nonneg _ (by omega)]; rfl
  rw [rngD, forL_cons]
  simp [hb, e]
theorem gcd_loop (Z : Sm) : ∀ (k n : Nat) (lo : Int) (a b : Nat) (x0 x1 x4 x5 : Sl), b < 2 ^ k → 2 * k ≤ n → ∃ y3 y4 y5, forL (.nm 4) (evSs Z bodyG) (rngD lo n) [x0, x1, .v (.int a), .v (.int b), x4, x5] = some (.nx [x0, x1, .v (.int (Nat.gcd a b : Nat)), y3, y4, y5])
  | 0, n, lo, a, b, x0, x1, x4, x5, hb, hn => by
    have : b = 0 := by simpa using hb
    subst this
    rw [Nat.gcd_zero_right]
    exact gcd_zero Z n lo a x0 x1 x4 x5
  | k + 1, n, lo, a, b, x0, x1, x4, x5, hb, hn => by
    by_cases h0 : b = 0
    · subst h0
      rw [Nat.gcd_zero_right]
      exact gcd_zero Z n lo a x0 x1 x4 x5
    · obtain ⟨m, rfl⟩ : ∃ m, n = m + 1 + 1 := ⟨n - 2, by omega⟩
      rw [gcd_step Z _ lo a b h0]
      have g1 : Nat.gcd a b = Nat.gcd b (a % b) := by rw [Nat.gcd_comm a b, Nat.gcd_rec, Nat.gcd_comm]
      rw [g1]
      by_cases h1 : a % b = 0
      · rw [h1, Nat.gcd_zero_right]
        exact gcd_zero Z _ _ b x0 x1 _ _
      · rw [gcd_step Z _ _ b (a % b) h1]
        have g2 : Nat.gcd b (a % b) = Nat.gcd (a % b) (b % (a % b)) := by rw [Nat.gcd_comm b (a % b), Nat.gcd_rec, Nat.gcd_comm]
        rw [g2]
        refine gcd_loop Z k m _ (a % b) (b % (a % b)) x0 x1 _ _ ?_ (by omega)
        have r1 : a % b < b := Nat.mod_lt _ (by omega)
        have r2 : b % (a % b) < a % b := Nat.mod_lt _ (by omega)
        have r3 : b % (a % b) + a % b ≤ b := by
          have := Nat.mod_add_div b (a % b)
          have q : 1 ≤ b / (a % b) := Nat.div_pos (by omega) (by omega)
          have : a % b * 1 ≤ a % b * (b / (a % b)) := Nat.mul_le_mul_left _ q
          omega
        rw [Nat.pow_succ] at hb
        omega
theorem abs_eq (a : Int) : (if a < 0 then -a else a) = ((a.natAbs : Nat) : Int) := by
  split <;> omega
theorem gcd_ok (a b : Int) (k : Nat) (hk : b.natAbs < 2 ^ k) (h : 2 * k ≤ 1000000) : F_L_gcd [.int a, .int b] = some (.int (Nat.gcd a.natAbs b.natAbs : Nat)) := by
  have r1 : okR 1000000 = true := by simp [okR]
  obtain ⟨y3, y4, y5, e⟩ := gcd_loop ⟨T_L_gcd, cval⟩ k 1000000 0 a.natAbs b.natAbs (.v (.int a)) (.v (.int b)) .no .no hk h
  simp only [F_L_gcd, evF, ir_L_gcd]
  simp [startD, abs_eq, r1]
  have e' := e
  simp only [bodyG] at e'
  have t : Int.toNat 1000000 = 1000000 := rfl
  first
    | rw [e']
    | (rw [t]; rw [e'])
  simp
theorem same_ok {n d t b : Int} (h : R n d) (e : n * b = t * d) (hn : n.natAbs < 2 ^ 2000) (hd : d.natAbs < 2 ^ 2000) (hb : b.natAbs < 2 ^ 2000) (ht : t.natAbs < 2 ^ 2000) :
    F_L_same [.tup [.int n, .int d], .int t, .int b] = some (.bl true) := by
  have g := gcd_ok n d 2000 hd (by decide)
  rw [h.low] at g
  have d1 : ¬ d < 1 := by have := h.pos; omega
  have r : F_L_is_ratio [.tup [.int n, .int d]] = some (.bl true) := by
    simp [F_L_is_ratio, evF, ir_L_is_ratio, startD, isi1, isIns, T_L_is_ratio, whole_int, g, d1]
  have m1 : mulOk n b = true := mulOk_of hn hb (by decide) (by decide) (by decide)
  have m2 : mulOk t d = true := mulOk_of ht hd (by decide) (by decide) (by decide)
  simp [F_L_same, evF, ir_L_same, startD, T_L_same, r, m1, m2, e]
theorem truth_ok (a b : Bool) : F_L_truth [.bl a, .bl b] = some (.bl (decide (a = b))) := by
  simp [F_L_truth, evF, ir_L_truth, startD, isi1, isIns]
end K55

set_option linter.all false
set_option maxRecDepth 100000
set_option maxHeartbeats 4000000
set_option exponentiation.threshold 3000
namespace K55
open PySem L2 Pv
/-- a pair as a tuple or as a list -/
def Pr (x : D) (n d : Int) : Prop := x = .tup [.int n, .int d] ∨ x = .lst [.int n, .int d]
theorem big {x : Int} {a : Nat} (b : Nat) (h : x.natAbs < 2 ^ a) (hab : a ≤ b) : x.natAbs < 2 ^ b := Nat.lt_of_lt_of_le h (Nat.pow_le_pow_right (by decide) hab)
theorem addb {x y : Int} {a : Nat} (h : x.natAbs < 2 ^ a) (h' : y.natAbs < 2 ^ a) : (x + y).natAbs < 2 ^ (a + 1) := by
  rw [Nat.pow_succ]; omega
theorem subb {x y : Int} {a : Nat} (h : x.natAbs < 2 ^ a) (h' : y.natAbs < 2 ^ a) : (x - y).natAbs < 2 ^ (a + 1) := by
  rw [Nat.pow_succ]; omega
section
variable {n d m e : Int} {x y : D}
theorem plus_eq (hx : Pr x n d) (hy : Pr y m e) (h1 : mulOk n e = true) (h2 : mulOk m d = true) (h3 : mulOk d e = true) : F_plus [x, y] = F_ratio [.int (n * e + m * d), .int (d * e)] := by
  rcases hx with rfl | rfl <;> rcases hy with rfl | rfl <;> (simp [F_plus, evF, ir_plus, startD, T_plus, h1, h2, h3]; cases F_ratio [.int (n * e + m * d), .int (d * e)] <;> simp)
theorem minus_eq (hx : Pr x n d) (hy : Pr y m e) (h1 : mulOk n e = true) (h2 : mulOk m d = true) (h3 : mulOk d e = true) : F_minus [x, y] = F_ratio [.int (n * e - m * d), .int (d * e)] := by
  rcases hx with rfl | rfl <;> rcases hy with rfl | rfl <;> (simp [F_minus, evF, ir_minus, startD, T_minus, h1, h2, h3]; cases F_ratio [.int (n * e - m * d), .int (d * e)] <;> simp)
theorem times_eq (hx : Pr x n d) (hy : Pr y m e) (h1 : mulOk n m = true) (h3 : mulOk d e = true) : F_times [x, y] = F_ratio [.int (n * m), .int (d * e)] := by
  rcases hx with rfl | rfl <;> rcases hy with rfl | rfl <;> (simp [F_times, evF, ir_times, startD, T_times, h1, h3]; cases F_ratio [.int (n * m), .int (d * e)] <;> simp)
theorem divided_eq (hx : Pr x n d) (hy : Pr y m e) (h1 : mulOk n e = true) (h3 : mulOk d m = true) : F_divided [x, y] = F_ratio [.int (n * e), .int (d * m)] := by
  rcases hx with rfl | rfl <;> rcases hy with rfl | rfl <;> (simp [F_divided, evF, ir_divided, startD, T_divided, h1, h3]; cases F_ratio [.int (n * e), .int (d * m)] <;> simp)
theorem less_eq (hx : Pr x n d) (hy : Pr y m e) (h1 : mulOk n e = true) (h2 : mulOk m d = true) : F_less [x, y] = some (.bl (decide (n * e < m * d))) := by
  rcases hx with rfl | rfl <;> rcases hy with rfl | rfl <;> simp [F_less, evF, ir_less, startD, h1, h2]
end
/-- == of pairs of pairs -/
theorem eq_pairs (a b c e : Int) : cmpD .eq (.lst [.lst [.int a, .int b], .lst [.int c, .int e]]) (.lst [.lst [.int a, .int b], .lst [.int c, .int e]]) = some true := by
  simp [cmpD, eqD, scalD, D.shp, D.plain, D.plainL, D.toP, D.toPL, SeqAt.shaped, PyData.canLay0, PyData.canLayAll0, PyData.depth, PyData.depthAll, D.eqb, PyData.eqv, PyData.eqvAll]
theorem eq_tup (a b c e : Int) : cmpD .eq (.tup [.int a, .int b]) (.tup [.int c, .int e]) = some (decide (a = c) && decide (b = e)) := by
  simp [cmpD, eqD, scalD, D.shp, D.plain, D.plainL, D.toP, D.toPL, SeqAt.shaped, PyData.canLay0, PyData.canLayAll0, PyData.depth, PyData.depthAll, D.eqb, PyData.eqv, PyData.eqvAll]
  congr 1
theorem sums_ok {n d m e : Int} (h : R n d) (h' : R m e) (hn : n.natAbs < 2 ^ 400) (hd : d.natAbs < 2 ^ 400) (hm : m.natAbs < 2 ^ 400) (he : e.natAbs < 2 ^ 400) :
    F_L_sums [.tup [.int n, .int d], .tup [.int m, .int e]] = some (.bl true) := by
  have m1 : mulOk n e = true := mulOk_of hn he (by decide) (by decide) (by decide)
  have m2 : mulOk m d = true := mulOk_of hm hd (by decide) (by decide) (by decide)
  have m3 : mulOk d e = true := mulOk_of hd he (by decide) (by decide) (by decide)
  have m4 : mulOk n m = true := mulOk_of hn hm (by decide) (by decide) (by decide)
  have m5 : mulOk d m = true := mulOk_of hd hm (by decide) (by decide) (by decide)
  have w1 := wide_lt hn he
  have w2 := wide_lt hm hd
  have w3 := wide_lt hd he
  have w4 := wide_lt hn hm
  have w5 := wide_lt hd hm
  have de0 : d * e ≠ 0 := Int.mul_ne_zero (by have := h.pos; omega) (by have := h'.pos; omega)
  have p1 := plus_eq (x := .lst [.int n, .int d]) (y := .tup [.int m, .int e]) (.inr rfl) (.inl rfl) m1 m2 m3
  have p2 := minus_eq (x := .tup [.int n, .int d]) (y := .lst [.int m, .int e]) (.inl rfl) (.inr rfl) m1 m2 m3
  have p3 := times_eq (x := .lst [.int n, .int d]) (y := .lst [.int m, .int e]) (.inr rfl) (.inr rfl) m4 m3
  have p4 := plus_eq (x := .tup [.int n, .int d]) (y := .tup [.int m, .int e]) (.inl rfl) (.inl rfl) m1 m2 m3
  have p5 := divided_eq (x := .tup [.int n, .int d]) (y := .tup [.int m, .int e]) (.inl rfl) (.inl rfl) m1 m5
  have p6 := divided_eq (x := .lst [.int n, .int d]) (y := .lst [.int m, .int e]) (.inr rfl) (.inr rfl) m1 m5
  have p7 := less_eq (x := .lst [.int n, .int d]) (y := .lst [.int m, .int e]) (.inr rfl) (.inr rfl) m1 m2
  obtain ⟨a1, b1, q1, r1, s1, t1, u1⟩ := ratio_ok (n * e + m * d) (d * e) de0 1000 (big 1000 w3 (by decide)) (by decide) (by decide)
  obtain ⟨a2, b2, q2, r2, s2, t2, u2⟩ := ratio_ok (n * e - m * d) (d * e) de0 1000 (big 1000 w3 (by decide)) (by decide) (by decide)
  obtain ⟨a3, b3, q3, r3, s3, t3, u3⟩ := ratio_ok (n * m) (d * e) de0 1000 (big 1000 w3 (by decide)) (by decide) (by decide)
  have B3 : (d * e).natAbs < 2 ^ 2000 := big _ w3 (by decide)
  have sm := addb w1 w2
  have sd := subb w1 w2
  have f1 := same_ok r1 s1 (Nat.lt_of_le_of_lt t1 (big 2000 sm (by decide))) (Nat.lt_of_le_of_lt u1 B3) B3 (big 2000 sm (by decide))
  have f2 := same_ok r2 s2 (Nat.lt_of_le_of_lt t2 (big 2000 sd (by decide))) (Nat.lt_of_le_of_lt u2 B3) B3 (big 2000 sd (by decide))
  have f3 := same_ok r3 s3 (Nat.lt_of_le_of_lt t3 (big 2000 w4 (by decide))) (Nat.lt_of_le_of_lt u3 B3) B3 (big 2000 w4 (by decide))
  rw [q1] at p1 p4
  rw [q2] at p2
  rw [q3] at p3
  by_cases hm0 : m = 0
  · have dm : decide (m = 0) = true := decide_eq_true hm0
    clear hm0
    simp [dm, F_L_sums, evF, ir_L_sums, startD, T_L_sums, m1, m2, m3, m4, m5, p1, p2, p3, p4, p7, f1, f2, f3, truth_ok, eq_pairs]
  · have dm0 : d * m ≠ 0 := Int.mul_ne_zero (by have := h.pos; omega) hm0
    obtain ⟨a5, b5, q5, r5, s5, t5, u5⟩ := ratio_ok (n * e) (d * m) dm0 1000 (big 1000 w5 (by decide)) (by decide) (by decide)
    have B5 : (d * m).natAbs < 2 ^ 2000 := big _ w5 (by decide)
    have f5 := same_ok r5 s5 (Nat.lt_of_le_of_lt t5 (big 2000 w1 (by decide))) (Nat.lt_of_le_of_lt u5 B5) B5 (big 2000 w1 (by decide))
    rw [q5] at p5 p6
    simp [F_L_sums, evF, ir_L_sums, startD, T_L_sums, m1, m2, m3, m4, m5, p1, p2, p3, p4, p5, p6, p7, f1, f2, f3, f5, truth_ok, eq_pairs, hm0]

/-! ### powers -/
theorem powb {n : Int} {k : Nat} (h : n.natAbs < 2 ^ k) : ∀ i : Nat, (n ^ i).natAbs < 2 ^ (k * i + 1)
  | 0 => by simp
  | i + 1 => by
    have ih := powb h i
    rw [Int.pow_succ, Int.natAbs_mul, show k * (i + 1) + 1 = (k * i + 1) + k by rw [Nat.mul_succ]; omega, Nat.pow_add]
    exact Nat.mul_lt_mul'' ih h
theorem pow_mul {n : Int} {k i : Nat} (h : n.natAbs < 2 ^ k) (k0 : 0 < k) (hi : k * i + 1 + k ≤ 1000000) : mulOk (n ^ i) n = true := mulOk_of (powb h i) h (by omega) k0 hi
theorem power_ok {x : D} {n d : Int} (hx : Pr x n d) (hn : n.natAbs < 2 ^ 400) (hd : d.natAbs < 2 ^ 400) (c : Nat) (hc : c ≤ 200) : F_power [x, .int c] = some (.tup [.int (n ^ c), .int (d ^ c)]) := by
  have r1 : okR (c : Int) = true := by simp [okR]; omega
  have i0 : ixD x (.int 0) = some (.int n) := by rcases hx with rfl | rfl <;> simp
  have i1 : ixD x (.int 1) = some (.int d) := by rcases hx with rfl | rfl <;> simp
  simp [F_power, evF, ir_power, startD, r1]
  refine loop_thenE (P := fun o => (o.bind endD) = some (.tup [.int (n ^ c), .int (d ^ c)])) (fun i σ => ∃ y, σ = [.v x, .v (.int c), .v (.int (n ^ i)), .v (.int (d ^ i)), y]) ⟨.no, by simp⟩ ?_ ?_
  · rintro i z σ hz ⟨y, rfl⟩
    have hi : i < c := by
      have := (List.getElem?_eq_some_iff.mp hz).1
      rw [rng_len] at this; exact this
    have m1 : mulOk (n ^ i) n = true := pow_mul hn (by decide) (by omega)
    have m2 : mulOk (d ^ i) d = true := pow_mul hd (by decide) (by omega)
    refine ⟨_, [.v x, .v (.int c), .v (.int (n ^ (i + 1))), .v (.int (d ^ (i + 1))), .v z], rfl, .inl ?_, _, rfl⟩
    simp [i0, i1, m1, m2, Int.pow_succ]
  · rintro σ ⟨y, rfl⟩
    rw [rng_len]
    simp
theorem eq_self_tup (a b : Int) : cmpD .eq (.tup [.int a, .int b]) (.tup [.int a, .int b]) = some true := by rw [eq_tup]; simp
theorem lpower_ok {n d : Int} (hn : n.natAbs < 2 ^ 400) (hd : d.natAbs < 2 ^ 400) (c : Nat) (hc : c ≤ 200) : F_L_power [.tup [.int n, .int d], .int c] = some (.bl true) := by
  have r1 : okR (c : Int) = true := by simp [okR]; omega
  have q1 := power_ok (x := .tup [.int n, .int d]) (.inl rfl) hn hd c hc
  have q2 := power_ok (x := .lst [.int n, .int d]) (.inr rfl) hn hd c hc
  simp [F_L_power, evF, ir_L_power, startD, r1]
  refine loop_thenE (P := fun o => (o.bind endD) = some (.bl true)) (fun i σ => ∃ y, σ = [.v (.tup [.int n, .int d]), .v (.int c), .v (.int (n ^ i)), .v (.int (d ^ i)), y, .no]) ⟨.no, by simp⟩ ?_ ?_
  · rintro i z σ hz ⟨y, rfl⟩
    have hi : i < c := by
      have := (List.getElem?_eq_some_iff.mp hz).1
      rw [rng_len] at this; exact this
    have m1 : mulOk (n ^ i) n = true := pow_mul hn (by decide) (by omega)
    have m2 : mulOk (d ^ i) d = true := pow_mul hd (by decide) (by omega)
    refine ⟨_, [.v (.tup [.int n, .int d]), .v (.int c), .v (.int (n ^ (i + 1))), .v (.int (d ^ (i + 1))), .v z, .no], rfl, .inl ?_, _, rfl⟩
    simp [m1, m2, Int.pow_succ]
  · rintro σ ⟨y, rfl⟩
    rw [rng_len]
    simp [T_L_power, q1, q2, whole_int, isi1, isIns, eq_self_tup]
end K55

set_option linter.all false
set_option maxRecDepth 100000
set_option maxHeartbeats 4000000
set_option exponentiation.threshold 3000
namespace K55
open PySem L2 Pv
theorem evSs_step {Z : Sm} {s : S} {r : List S} {σ σ' : List Sl} (h : evS Z s σ = some (.nx σ')) : evSs Z (s :: r) σ = evSs Z r σ' := by
  rw [evSs_cons, h]; simp
theorem dg4 {ds : List Int} {a b c d : Int} (h : Dg ds [a, b, c, d]) : ∃ x y z u, ds = [x, y, z, u] ∧ (0 ≤ x ∧ x < a) ∧ (0 ≤ y ∧ y < b) ∧ (0 ≤ z ∧ z < c) ∧ (0 ≤ u ∧ u < d) := by
  match ds, h with
  | [x, y, z, u], h => exact ⟨x, y, z, u, rfl, h.1, h.2.1, h.2.2.1, h.2.2.2.1⟩
theorem dg3 {ds : List Int} {a b c : Int} (h : Dg ds [a, b, c]) : ∃ x y z, ds = [x, y, z] ∧ (0 ≤ x ∧ x < a) ∧ (0 ≤ y ∧ y < b) ∧ (0 ≤ z ∧ z < c) := by
  match ds, h with
  | [x, y, z], h => exact ⟨x, y, z, rfl, h.1, h.2.1, h.2.2.1⟩
theorem dg2 {ds : List Int} {a b : Int} (h : Dg ds [a, b]) : ∃ x y, ds = [x, y] ∧ (0 ≤ x ∧ x < a) ∧ (0 ≤ y ∧ y < b) := by
  match ds, h with
  | [x, y], h => exact ⟨x, y, rfl, h.1, h.2.1⟩
theorem dg1 {ds : List Int} {a : Int} (h : Dg ds [a]) : ∃ x, ds = [x] ∧ (0 ≤ x ∧ x < a) := by
  match ds, h with
  | [x], h => exact ⟨x, rfl, h.1⟩
theorem dg6 {ds : List Int} {a b c d e f : Int} (h : Dg ds [a, b, c, d, e, f]) : ∃ x y z u v w, ds = [x, y, z, u, v, w] ∧ (0 ≤ x ∧ x < a) ∧ (0 ≤ y ∧ y < b) ∧ (0 ≤ z ∧ z < c) ∧ (0 ≤ u ∧ u < d) ∧ (0 ≤ v ∧ v < e) ∧ (0 ≤ w ∧ w < f) := by
  match ds, h with
  | [x, y, z, u, v, w], h => exact ⟨x, y, z, u, v, w, rfl, h.1, h.2.1, h.2.2.1, h.2.2.2.1, h.2.2.2.2.1, h.2.2.2.2.2.1⟩
theorem atI_ex {α : Type} {xs : List α} {i : Int} (h0 : 0 ≤ i) (h1 : i < xs.length) : ∃ x, atI xs i = some x ∧ x ∈ xs := by
  have hk : i.toNat < xs.length := by omega
  exact ⟨xs[i.toNat], atI_of h0 (by simp [hk]), List.getElem_mem hk⟩
theorem mulb {x y : Int} {a b c : Nat} (h : x.natAbs < 2 ^ a) (h' : y.natAbs < 2 ^ b) (hc : a + b ≤ c) : (x * y).natAbs < 2 ^ c := big c (wide_lt h h') hc
theorem raw_ok (ns : List Int) (t : Int) (ht : t.natAbs < 2 ^ 10) (c0 : IsI (F_L_cell [.scr ns, .int (3 * t)])) (c1 : IsI (F_L_cell [.scr ns, .int (3 * t + 1)])) (c2 : IsI (F_L_cell [.scr ns, .int (3 * t + 2)])) :
    ∃ a b, F_L_raw [.scr ns, .int t] = some (.lst [.int a, .int b]) ∧ b ≠ 0 ∧ a.natAbs < 2 ^ 160 ∧ b.natAbs < 2 ^ 160 := by
  obtain ⟨z0, c0⟩ := c0
  obtain ⟨z1, c1⟩ := c1
  obtain ⟨z2, c2⟩ := c2
  obtain ⟨e0, d0, g0⟩ := digits_ok z0 [6, 13, 12, 9] (by decide) (by decide)
  obtain ⟨e1, d1, g1⟩ := digits_ok z1 [1000000000000, 1000000000000, 2] (by decide) (by decide)
  obtain ⟨e2, d2, g2⟩ := digits_ok z2 [1000000000000, 1000000000000] (by decide) (by decide)
  obtain ⟨h0, h1, h2, h3, rfl, b0, b1, b2, b3⟩ := dg4 g0
  obtain ⟨o0, o1, o2, rfl, q0, q1, q2⟩ := dg3 g1
  obtain ⟨u0, u1, rfl, v0, v1⟩ := dg2 g2
  simp only [List.map_cons, List.map_nil] at d0 d1 d2
  have m1 : mulOk 3 t = true := mulOk_of (a := 2) (b := 10) (by decide) ht (by decide) (by decide) (by decide)
  have pw : powOk 10 12 = true := by decide
  obtain ⟨f', hf, hfm⟩ := atI_ex (xs := [D.int 1, .int (-1), .int 2, .int (-3), .int 1, .int 12, .int (-1), .int 1000003, .int 6]) (i := h3) b3.1 (by simpa using b3.2)
  obtain ⟨f, rfl, f0, fb⟩ : ∃ f, f' = .int f ∧ f ≠ 0 ∧ f.natAbs < 2 ^ 20 := by
    simp only [List.mem_cons, List.not_mem_nil, or_false] at hfm
    rcases hfm with rfl | rfl | rfl | rfl | rfl | rfl | rfl | rfl | rfl <;> exact ⟨_, rfl, by decide, by decide⟩
  have s1 : o0.natAbs < 2 ^ 40 := by omega
  have s2 : o1.natAbs < 2 ^ 40 := by omega
  have s3 : (1 - 2 * o2).natAbs < 2 ^ 2 := by omega
  have s4 : u0.natAbs < 2 ^ 40 := by omega
  have s5 : u1.natAbs < 2 ^ 40 := by omega
  have w1 : (o0 * o1).natAbs < 2 ^ 80 := wide_lt s1 s2
  have w2 : (u0 * u1).natAbs < 2 ^ 80 := wide_lt s4 s5
  have u0n : 0 ≤ u0 * u1 := Int.mul_nonneg v0.1 v1.1
  have w3 : (o0 * o1 * (1 - 2 * o2)).natAbs < 2 ^ 82 := wide_lt w1 s3
  have w4 : (o0 * (1 - 2 * o2)).natAbs < 2 ^ 42 := wide_lt s1 s3
  have k1 : mulOk o0 o1 = true := mulOk_of s1 s2 (by decide) (by decide) (by decide)
  have k2 : mulOk 2 o2 = true := mulOk_of (a := 2) (b := 2) (by decide) (by omega) (by decide) (by decide) (by decide)
  have k3 : mulOk (o0 * o1) (1 - 2 * o2) = true := mulOk_of w1 s3 (by decide) (by decide) (by decide)
  have k4 : mulOk u0 u1 = true := mulOk_of s4 s5 (by decide) (by decide) (by decide)
  have k5 : mulOk o0 (1 - 2 * o2) = true := mulOk_of s1 s3 (by decide) (by decide) (by decide)
  have fin : ∀ T B : Int, T.natAbs < 2 ^ 90 → B.natAbs < 2 ^ 90 → B ≠ 0 → mulOk T f = true ∧ mulOk B f = true ∧ B * f ≠ 0 ∧ (T * f).natAbs < 2 ^ 160 ∧ (B * f).natAbs < 2 ^ 160 := fun T B hT hB hB0 =>
    ⟨mulOk_of hT fb (by decide) (by decide) (by decide), mulOk_of hB fb (by decide) (by decide) (by decide), Int.mul_ne_zero hB0 f0, mulb hT fb (by decide), mulb hB fb (by decide)⟩
  by_cases a0 : h0 = 0
  · obtain ⟨x1, x2, x3, x4, x5⟩ := fin (o0 * o1 * (1 - 2 * o2)) (1 + u0 * u1) (big 90 w3 (by decide)) (by omega) (by omega)
    exact ⟨_, _, by simp [F_L_raw, evF, ir_L_raw, startD, T_L_raw, m1, c0, c1, c2, d0, d1, d2, pw, a0, k1, k2, k3, k4, k5, hf, x1, x2], x3, x4, x5⟩
  · by_cases a1 : h0 = 1
    · obtain ⟨x1, x2, x3, x4, x5⟩ := fin (h1 - 6) (1 + u0) (by omega) (by omega) (by omega)
      exact ⟨_, _, by simp [F_L_raw, evF, ir_L_raw, startD, T_L_raw, m1, c0, c1, c2, d0, d1, d2, pw, a0, a1, k1, k2, k3, k4, k5, hf, x1, x2], x3, x4, x5⟩
    · by_cases a2 : h0 = 2
      · obtain ⟨x1, x2, x3, x4, x5⟩ := fin (o0 * (1 - 2 * o2)) (h2 + 1) (big 90 w4 (by decide)) (by omega) (by omega)
        exact ⟨_, _, by simp [F_L_raw, evF, ir_L_raw, startD, T_L_raw, m1, c0, c1, c2, d0, d1, d2, pw, a0, a1, a2, k1, k2, k3, k4, k5, hf, x1, x2], x3, x4, x5⟩
      · obtain ⟨x1, x2, x3, x4, x5⟩ := fin (h1 - 6) (h2 + 1) (by omega) (by omega) (by omega)
        exact ⟨_, _, by simp [F_L_raw, evF, ir_L_raw, startD, T_L_raw, m1, c0, c1, c2, d0, d1, d2, pw, a0, a1, a2, k1, k2, k3, k4, k5, hf, x1, x2], x3, x4, x5⟩

/-! ### what is a ratio -/
theorem isr_pair {x : D} {n d : Int} (hx : Pr x n d) : F_is_ratio [x] = some (.bl (decide (1 ≤ d) && decide (Nat.gcd n.natAbs d.natAbs = 1))) := by
  by_cases h : 1 ≤ d
  · rcases hx with rfl | rfl <;> (simp [F_is_ratio, evF, ir_is_ratio, startD, T_is_ratio, isi1, isIns, pwhole_int, h]; try omega)
  · rcases hx with rfl | rfl <;> simp [F_is_ratio, evF, ir_is_ratio, startD, T_is_ratio, isi1, isIns, pwhole_int, h]
theorem isr_ok {x : D} {n d : Int} (hx : Pr x n d) (h : R n d) : F_is_ratio [x] = some (.bl true) := by
  rw [isr_pair hx]; simp [h.pos, h.low]
theorem pw_bl (b : Bool) : F_is_whole [.bl b] = some (.bl false) := by simp [F_is_whole, evF, ir_is_whole, startD, isi1, isIns]
theorem pw_non : F_is_whole [.non] = some (.bl false) := by simp [F_is_whole, evF, ir_is_whole, startD, isi1, isIns]
theorem pw_str (s : List Nat) : F_is_whole [.str s] = some (.bl false) := by simp [F_is_whole, evF, ir_is_whole, startD, isi1, isIns]
theorem pw_tup (s : List D) : F_is_whole [.tup s] = some (.bl false) := by simp [F_is_whole, evF, ir_is_whole, startD, isi1, isIns]
theorem pw_lst (s : List D) : F_is_whole [.lst s] = some (.bl false) := by simp [F_is_whole, evF, ir_is_whole, startD, isi1, isIns]
def badL (n d f : Int) : List D := [.tup [.int (n * f), .int (d * f)], .lst [.int (n * f), .int (d * f)], .tup [.int n, .int (-d)], .tup [.int (-n), .int (-d)], .lst [.int n, .int 0], .tup [.int n], .lst [.int d],
  .tup [.int n, .int d, .int 1], .lst [.int n, .int d, .int d], .tup [.tup [.int n, .int d], .int 1], .tup [.int n, .tup [.int n, .int d]], .tup [.int n, .lst [.int d]],
  .tup [.bl true, .int d], .tup [.bl false, .int 1], .lst [.int n, .bl true], .tup [.int n, .non], .tup [.non, .int d], .tup [.str [49], .int 1], .tup [.int 1, .str [50]],
  .int n, .int d, .non, .bl true, .bl false, .tup [], .lst [], .str [], .str [49, 50], .str [49, 47, 50], .dct [] [], .dct [.int 1, .int 3] [.int 2, .int 5]]
theorem bad_eq {n d f : Int} (h1 : mulOk n f = true) (h2 : mulOk d f = true) : F_L_bad [.tup [.int n, .int d], .int f] = some (.lst (badL n d f)) := by
  have k : dctD (evens [D.int 1, .int 2, .int 3, .int 5]) (odds [D.int 1, .int 2, .int 3, .int 5]) = some (.dct [.int 1, .int 3] [.int 2, .int 5]) := by
    simp [dctD, evens, odds, distinctK, D.key]
  have k0 : dctD (evens []) (odds []) = some (.dct [] []) := by simp [dctD, evens, odds, distinctK]
  simp [F_L_bad, evF, ir_L_bad, startD, h1, h2, k, k0, badL]
theorem bad_false {n d f : Int} (h : R n d) (hf : 2 ≤ f) : ∀ x ∈ badL n d f, F_is_ratio [x] = some (.bl false) := by
  have dp := h.pos
  have g : ¬ Nat.gcd (n * f).natAbs (d * f).natAbs = 1 := by
    rw [Int.natAbs_mul, Int.natAbs_mul, Nat.gcd_mul_right, h.low]
    omega
  have dn : ¬ 1 ≤ -d := by omega
  intro x hx
  simp only [badL, List.mem_cons, List.not_mem_nil, or_false] at hx
  rcases hx with rfl | rfl | rfl | rfl | rfl | rfl | rfl | rfl | rfl | rfl | rfl | rfl | rfl | rfl | rfl | rfl | rfl | rfl | rfl | rfl | rfl | rfl | rfl | rfl | rfl | rfl | rfl | rfl | rfl | rfl | rfl
  · rw [isr_pair (.inl rfl)]; simp [g]
  · rw [isr_pair (.inr rfl)]; simp [g]
  · rw [isr_pair (.inl rfl)]; simp [dn]
  · rw [isr_pair (.inl rfl)]; simp [dn]
  · rw [isr_pair (.inr rfl)]; simp
  all_goals simp [F_is_ratio, evF, ir_is_ratio, startD, T_is_ratio, isi1, isIns, pwhole_int, pw_bl, pw_non, pw_str, pw_tup, pw_lst]

/-- a stretch of statements, then the rest -/
theorem main (ns : List Int) (hl : ns.length ≤ 63) : F_law [.scr ns] = some (.bl true) := by
  obtain ⟨a, b, ra, b0, ab, bb⟩ := raw_ok ns 0 (by decide) (by simpa using cell_ok ns 0 (by decide)) (by simpa using cell_ok ns 1 (by decide)) (by simpa using cell_ok ns 2 (by decide))
  obtain ⟨a', b', ra', b0', ab', bb'⟩ := raw_ok ns 1 (by decide) (by simpa using cell_ok ns 3 (by decide)) (by simpa using cell_ok ns 4 (by decide)) (by simpa using cell_ok ns 5 (by decide))
  obtain ⟨z6, c6⟩ := cell_ok ns 6 (by decide)
  obtain ⟨z7, c7⟩ := cell_ok ns 7 (by decide)
  have c6 : F_L_cell [.scr ns, .int 6] = some (.int z6) := c6
  have c7 : F_L_cell [.scr ns, .int 7] = some (.int z7) := c7
  obtain ⟨e6, d6, g6⟩ := digits_ok z6 [3, 3, 8, 19, 9, 11] (by decide) (by decide)
  obtain ⟨e7, d7, g7⟩ := digits_ok z7 [1000000000000000] (by decide) (by decide)
  obtain ⟨h0, h1, h2, h3, h4, h5, rfl, t0, t1, t2, t3, t4, t5⟩ := dg6 g6
  obtain ⟨st, rfl, st0⟩ := dg1 g7
  simp only [List.map_cons, List.map_nil] at d6 d7
  have pw : powOk 10 15 = true := by decide
  -- behind the first four statements
  have key : ∀ (a2 b2 : Int) (x10 : Sl), b2 ≠ 0 → a2.natAbs < 2 ^ 300 → b2.natAbs < 2 ^ 300 →
      evSs ⟨T_law, cval⟩ (ir_law.drop 4) [.v (.scr ns), .v (.lst [.int a, .int b]), .v (.lst [.int a2, .int b2]), .v (.lst [.int h0, .int h1, .int h2, .int h3, .int h4, .int h5]), .no, .no, .no, .no, .no, .no, x10] = some (.rt (.bl true)) := by
    intro a2 b2 x10 b20 ab2 bb2
    obtain ⟨n, d, r1, R1, s1, n1, dd1⟩ := ratio_ok a b b0 300 (big 300 bb (by decide)) (by decide) (by decide)
    obtain ⟨m, e, r2, R2, s2, n2, dd2⟩ := ratio_ok a2 b2 b20 300 bb2 (by decide) (by decide)
    have nb : n.natAbs < 2 ^ 400 := Nat.lt_of_le_of_lt n1 (big 400 ab (by decide))
    have db : d.natAbs < 2 ^ 400 := Nat.lt_of_le_of_lt dd1 (big 400 bb (by decide))
    have mb : m.natAbs < 2 ^ 400 := Nat.lt_of_le_of_lt n2 (big 400 ab2 (by decide))
    have eb : e.natAbs < 2 ^ 400 := Nat.lt_of_le_of_lt dd2 (big 400 bb2 (by decide))
    have f1 := same_ok R1 s1 (big 2000 nb (by decide)) (big 2000 db (by decide)) (big 2000 bb (by decide)) (big 2000 ab (by decide))
    have f2 := same_ok R2 s2 (big 2000 mb (by decide)) (big 2000 eb (by decide)) (big 2000 bb2 (by decide)) (big 2000 ab2 (by decide))
    have u1 := sums_ok R1 R2 nb db mb eb
    have u2 := sums_ok R2 R1 mb eb nb db
    have u3 := sums_ok R1 R1 nb db nb db
    obtain ⟨c', hc, hcm⟩ := atI_ex (xs := [D.int 0, .int 1, .int 2, .int 3, .int 5, .int 17, .int 199, .int 200]) (i := h2) t2.1 (by simpa using t2.2)
    obtain ⟨c, rfl, cb⟩ : ∃ c : Nat, c' = .int c ∧ c ≤ 200 := by
      simp only [List.mem_cons, List.not_mem_nil, or_false] at hcm
      rcases hcm with rfl | rfl | rfl | rfl | rfl | rfl | rfl | rfl
      · exact ⟨0, rfl, by decide⟩
      · exact ⟨1, rfl, by decide⟩
      · exact ⟨2, rfl, by decide⟩
      · exact ⟨3, rfl, by decide⟩
      · exact ⟨5, rfl, by decide⟩
      · exact ⟨17, rfl, by decide⟩
      · exact ⟨199, rfl, by decide⟩
      · exact ⟨200, rfl, by decide⟩
    have v1 := lpower_ok nb db c cb
    have v2 := lpower_ok (n := 0) (d := 1) (by decide) (by decide) c cb
    have cd : (c : Int).fdiv 2 = (c : Int) / 2 := Int.fdiv_eq_ediv_of_nonneg _ (by decide)
    have v3 : F_L_power [.tup [.int m, .int e], .int ((c : Int) / 2)] = some (.bl true) := by
      simpa using lpower_ok mb eb (c / 2) (by omega)
    have dv2 : divOk 2 = true := by decide
    have R0 : R 0 1 := ⟨by decide, by decide⟩
    have i1 := isr_ok (x := .tup [.int n, .int d]) (.inl rfl) R1
    have i2 := isr_ok (x := .tup [.int m, .int e]) (.inl rfl) R2
    have i3 := isr_ok (x := .lst [.int n, .int d]) (.inr rfl) R1
    have i4 := isr_ok (x := .lst [.int m, .int e]) (.inr rfl) R2
    have i5 := isr_ok (x := .tup [.int 0, .int 1]) (.inl rfl) R0
    have i6 := isr_ok (x := .lst [.int 0, .int 1]) (.inr rfl) R0
    have mf : (2 + h5).natAbs < 2 ^ 10 := by omega
    have y1 := bad_eq (n := n) (d := d) (f := 2 + h5) (mulOk_of nb mf (by decide) (by decide) (by decide)) (mulOk_of db mf (by decide) (by decide) (by decide))
    have y2 := bad_eq (n := m) (d := e) (f := 2 + h5) (mulOk_of mb mf (by decide) (by decide) (by decide)) (mulOk_of eb mf (by decide) (by decide) (by decide))
    have z1 := bad_false (f := 2 + h5) R1 (by omega)
    have z2 := bad_false (f := 2 + h5) R2 (by omega)
    have l1 : (badL n d (2 + h5)).length + (badL m e (2 + h5)).length ≤ 16777216 := by simp [badL]
    have gk := gcd_ok (h3 - 9) (h4 - 2) 10 (by omega) (by decide)
    have p1 := isr_pair (x := .tup [.int (h3 - 9), .int (h4 - 2)]) (.inl rfl)
    have p2 := isr_pair (x := .lst [.int (h3 - 9), .int (h4 - 2)]) (.inr rfl)
    generalize hS : [Sl.v (D.scr ns), .v (.lst [.int a, .int b]), .v (.lst [.int a2, .int b2]), .v (.lst [.int h0, .int h1, .int h2, .int h3, .int h4, .int h5]), .no, .no, .no, .no, .no, .no, x10] = S0
    simp only [ir_law, List.drop_succ_cons, List.drop_zero]
    subst hS
    rw [evSs_step (σ' := [Sl.v (D.scr ns), .v (.lst [.int a, .int b]), .v (.lst [.int a2, .int b2]), .v (.lst [.int h0, .int h1, .int h2, .int h3, .int h4, .int h5]), .v (.tup [.int n, .int d]), .no, .no, .no, .no, .no, x10]) (by simp [T_law, r1])]
    rw [evSs_step (σ' := [Sl.v (D.scr ns), .v (.lst [.int a, .int b]), .v (.lst [.int a2, .int b2]), .v (.lst [.int h0, .int h1, .int h2, .int h3, .int h4, .int h5]), .v (.tup [.int n, .int d]), .v (.tup [.int m, .int e]), .no, .no, .no, .no, x10]) (by simp [T_law, r2])]
    rw [evSs_step (σ' := [Sl.v (D.scr ns), .v (.lst [.int a, .int b]), .v (.lst [.int a2, .int b2]), .v (.lst [.int h0, .int h1, .int h2, .int h3, .int h4, .int h5]), .v (.tup [.int n, .int d]), .v (.tup [.int m, .int e]), .no, .no, .no, .no, x10]) (by simp [T_law, f1, f2])]
    rw [evSs_step (σ' := [Sl.v (D.scr ns), .v (.lst [.int a, .int b]), .v (.lst [.int a2, .int b2]), .v (.lst [.int h0, .int h1, .int h2, .int h3, .int h4, .int h5]), .v (.tup [.int n, .int d]), .v (.tup [.int m, .int e]), .no, .no, .no, .no, x10]) (by simp [T_law, u1, u2, u3])]
    rw [evSs_step (σ' := [Sl.v (D.scr ns), .v (.lst [.int a, .int b]), .v (.lst [.int a2, .int b2]), .v (.lst [.int h0, .int h1, .int h2, .int h3, .int h4, .int h5]), .v (.tup [.int n, .int d]), .v (.tup [.int m, .int e]), .v (.int c), .no, .no, .no, x10]) (by simp [hc])]
    rw [evSs_step (σ' := [Sl.v (D.scr ns), .v (.lst [.int a, .int b]), .v (.lst [.int a2, .int b2]), .v (.lst [.int h0, .int h1, .int h2, .int h3, .int h4, .int h5]), .v (.tup [.int n, .int d]), .v (.tup [.int m, .int e]), .v (.int c), .no, .no, .no, x10]) (by simp [T_law, v1, v2, cd, v3, dv2])]
    rw [evSs_step (σ' := [Sl.v (D.scr ns), .v (.lst [.int a, .int b]), .v (.lst [.int a2, .int b2]), .v (.lst [.int h0, .int h1, .int h2, .int h3, .int h4, .int h5]), .v (.tup [.int n, .int d]), .v (.tup [.int m, .int e]), .v (.int c), .v (.lst [.int 0, .int 1]), .no, .no, x10]) (by
      simp [forL_cons, T_law, i1, i2, i3, i4, i5, i6])]
    obtain ⟨x7, hx7⟩ : ∃ x7, evS ⟨T_law, cval⟩ (.for_ (.nm 7) (.seq (.bin .add (.call 17 [.v 4, .bin .add (.c (.int 2)) (.ix (.v 3) (.c (.int 5)))]) (.call 17 [.v 5, .bin .add (.c (.int 2)) (.ix (.v 3) (.c (.int 5)))]))) [.ifs (.cmp .isnot (.call 1 [.v 7]) (.c (.bl false))) [.ret (.c (.bl false))] []])
        [Sl.v (D.scr ns), .v (.lst [.int a, .int b]), .v (.lst [.int a2, .int b2]), .v (.lst [.int h0, .int h1, .int h2, .int h3, .int h4, .int h5]), .v (.tup [.int n, .int d]), .v (.tup [.int m, .int e]), .v (.int c), .v (.lst [.int 0, .int 1]), .no, .no, x10]
        = some (.nx [Sl.v (D.scr ns), .v (.lst [.int a, .int b]), .v (.lst [.int a2, .int b2]), .v (.lst [.int h0, .int h1, .int h2, .int h3, .int h4, .int h5]), .v (.tup [.int n, .int d]), .v (.tup [.int m, .int e]), .v (.int c), x7, .no, .no, x10]) := by
      simp [T_law, y1, y2, l1]
      obtain ⟨σ', q1, q2⟩ := forL_inv (t := .nm 7) (f := evSs ⟨T_law, cval⟩ [.ifs (.cmp .isnot (.call 1 [.v 7]) (.c (.bl false))) [.ret (.c (.bl false))] []]) (ds := badL n d (2 + h5) ++ badL m e (2 + h5)) (k := 0)
        (fun _ σ => ∃ x7, σ = [Sl.v (D.scr ns), .v (.lst [.int a, .int b]), .v (.lst [.int a2, .int b2]), .v (.lst [.int h0, .int h1, .int h2, .int h3, .int h4, .int h5]), .v (.tup [.int n, .int d]), .v (.tup [.int m, .int e]), .v (.int c), x7, .no, .no, x10])
        ⟨.v (.lst [.int 0, .int 1]), rfl⟩ (by
          rintro i x σ hx ⟨x7, rfl⟩
          have hm : x ∈ badL n d (2 + h5) ++ badL m e (2 + h5) := List.mem_of_getElem? hx
          have hx0 : F_is_ratio [x] = some (.bl false) := by
            rcases List.mem_append.mp hm with hm | hm
            · exact z1 x hm
            · exact z2 x hm
          exact ⟨_, _, rfl, .inl (by simp [T_law, hx0]; rfl), _, rfl⟩)
      obtain ⟨x7, rfl⟩ := q2
      exact ⟨x7, q1⟩
    rw [evSs_step hx7]
    rw [evSs_step (σ' := [Sl.v (D.scr ns), .v (.lst [.int a, .int b]), .v (.lst [.int a2, .int b2]), .v (.lst [.int h0, .int h1, .int h2, .int h3, .int h4, .int h5]), .v (.tup [.int n, .int d]), .v (.tup [.int m, .int e]), .v (.int c), x7, .v (.tup [.int (h3 - 9), .int (h4 - 2)]), .no, x10]) (by simp)]
    rw [evSs_step (σ' := [Sl.v (D.scr ns), .v (.lst [.int a, .int b]), .v (.lst [.int a2, .int b2]), .v (.lst [.int h0, .int h1, .int h2, .int h3, .int h4, .int h5]), .v (.tup [.int n, .int d]), .v (.tup [.int m, .int e]), .v (.int c), x7, .v (.tup [.int (h3 - 9), .int (h4 - 2)]), .v (.bl (decide (1 ≤ h4 - 2) && decide (Nat.gcd (h3 - 9).natAbs (h4 - 2).natAbs = 1))), x10]) (by
      by_cases hq : 1 ≤ h4 - 2
      · simp [T_law, gk, hq]; omega
      · simp [T_law, gk, hq])]
    rw [evSs_step (σ' := [Sl.v (D.scr ns), .v (.lst [.int a, .int b]), .v (.lst [.int a2, .int b2]), .v (.lst [.int h0, .int h1, .int h2, .int h3, .int h4, .int h5]), .v (.tup [.int n, .int d]), .v (.tup [.int m, .int e]), .v (.int c), x7, .v (.tup [.int (h3 - 9), .int (h4 - 2)]), .v (.bl (decide (1 ≤ h4 - 2) && decide (Nat.gcd (h3 - 9).natAbs (h4 - 2).natAbs = 1))), x10]) (by
      generalize hgb : (decide (1 ≤ h4 - 2) && decide (Nat.gcd (h3 - 9).natAbs (h4 - 2).natAbs = 1)) = gb at p1 p2
      simp [T_law, p1, p2, truth_ok])]
    simp [T_law, r1, r2, eq_self_tup]
  have start0 : F_law [.scr ns] = (evSs ⟨T_law, cval⟩ ir_law [.v (.scr ns), .no, .no, .no, .no, .no, .no, .no, .no, .no, .no]).bind endD := by simp [F_law, evF, startD]
  rw [start0]
  have split4 : ir_law = ir_law.take 4 ++ ir_law.drop 4 := (List.take_append_drop 4 ir_law).symm
  have goal : evSs ⟨T_law, cval⟩ ir_law [.v (.scr ns), .no, .no, .no, .no, .no, .no, .no, .no, .no, .no] = some (.rt (.bl true)) := by
    rw [split4]
    generalize hr : ir_law.drop 4 = rest at key
    simp only [ir_law, List.take_succ_cons, List.take_zero, List.cons_append, List.nil_append]
    rw [evSs_step (σ' := [.v (.scr ns), .v (.lst [.int a, .int b]), .no, .no, .no, .no, .no, .no, .no, .no, .no]) (by simp [T_law, ra])]
    rw [evSs_step (σ' := [.v (.scr ns), .v (.lst [.int a, .int b]), .v (.lst [.int a', .int b']), .no, .no, .no, .no, .no, .no, .no, .no]) (by simp [T_law, ra'])]
    rw [evSs_step (σ' := [.v (.scr ns), .v (.lst [.int a, .int b]), .v (.lst [.int a', .int b']), .v (.lst [.int h0, .int h1, .int h2, .int h3, .int h4, .int h5]), .no, .no, .no, .no, .no, .no, .no]) (by simp [T_law, c6, d6])]
    by_cases hh : h0 = 0
    · have sb : (1 + st).natAbs < 2 ^ 60 := by omega
      have k1 : mulOk a (1 + st) = true := mulOk_of ab sb (by decide) (by decide) (by decide)
      have k2 : mulOk b (1 + st) = true := mulOk_of bb sb (by decide) (by decide) (by decide)
      have w1 : (a * (1 + st)).natAbs < 2 ^ 220 := wide_lt ab sb
      have w2 : (b * (1 + st)).natAbs < 2 ^ 220 := wide_lt bb sb
      rw [evSs_step (σ' := [.v (.scr ns), .v (.lst [.int a, .int b]), .v (.lst [.int (a * (1 + st) + h1 - 1), .int (b * (1 + st))]), .v (.lst [.int h0, .int h1, .int h2, .int h3, .int h4, .int h5]), .no, .no, .no, .no, .no, .no, .v (.int (1 + st))]) (by simp [T_law, c7, d7, pw, hh, k1, k2])]
      refine key _ _ _ (Int.mul_ne_zero b0 (by omega)) ?_ (big 300 w2 (by decide))
      have w3 : (a * (1 + st)).natAbs < 2 ^ 299 := big 299 w1 (by decide)
      have w4 : (h1 - 1).natAbs < 2 ^ 299 := big (a := 10) 299 (by omega) (by decide)
      have := addb w3 w4
      rwa [show a * (1 + st) + h1 - 1 = a * (1 + st) + (h1 - 1) by omega]
    · rw [evSs_step (σ' := [.v (.scr ns), .v (.lst [.int a, .int b]), .v (.lst [.int a', .int b']), .v (.lst [.int h0, .int h1, .int h2, .int h3, .int h4, .int h5]), .no, .no, .no, .no, .no, .no, .no]) (by simp [hh])]
      exact key _ _ _ b0' (big 300 ab' (by decide)) (big 300 bb' (by decide))
  rw [goal]
  simp
end K55

set_option Elab.async false
set_option linter.all false
set_option maxRecDepth 100000
set_option maxHeartbeats 4000000
namespace K55
open PySem L2 Pv
theorem all_mk {P : Program} {w : World} {K : PySem.W.Frag} {h : Heap} {mg : Str → Option Value} {fa : Addr} (X : K.In h) (G : h.Ns mainGlobals mg) (hfa : mg "law" = some (.ref fa))
    {f0 : Addr} {oc0 kV0 doc0 pm0 cd0 ct0 : Value} {od0 an0 : Option Addr} {sl0 : Array (Option Value)}
    {f1 : Addr} {oc1 kV1 doc1 pm1 cd1 ct1 : Value} {od1 an1 : Option Addr} {sl1 : Array (Option Value)}
    {f2 : Addr} {oc2 kV2 doc2 pm2 cd2 ct2 : Value} {od2 an2 : Option Addr} {sl2 : Array (Option Value)}
    {f3 : Addr} {oc3 kV3 doc3 pm3 cd3 ct3 : Value} {od3 an3 : Option Addr} {sl3 : Array (Option Value)}
    {f4 : Addr} {oc4 kV4 doc4 pm4 cd4 ct4 : Value} {od4 an4 : Option Addr} {sl4 : Array (Option Value)}
    {f5 : Addr} {oc5 kV5 doc5 pm5 cd5 ct5 : Value} {od5 an5 : Option Addr} {sl5 : Array (Option Value)}
    {f6 : Addr} {oc6 kV6 doc6 pm6 cd6 ct6 : Value} {od6 an6 : Option Addr} {sl6 : Array (Option Value)}
    {f7 : Addr} {oc7 kV7 doc7 pm7 cd7 ct7 : Value} {od7 an7 : Option Addr} {sl7 : Array (Option Value)}
    {f8 : Addr} {oc8 kV8 doc8 pm8 cd8 ct8 : Value} {od8 an8 : Option Addr} {sl8 : Array (Option Value)}
    {f9 : Addr} {oc9 kV9 doc9 pm9 cd9 ct9 : Value} {od9 an9 : Option Addr} {sl9 : Array (Option Value)}
    {f10 : Addr} {oc10 kV10 doc10 pm10 cd10 ct10 : Value} {od10 an10 : Option Addr} {sl10 : Array (Option Value)}
    {f11 : Addr} {oc11 kV11 doc11 pm11 cd11 ct11 : Value} {od11 an11 : Option Addr} {sl11 : Array (Option Value)}
    {f12 : Addr} {oc12 kV12 doc12 pm12 cd12 ct12 : Value} {od12 an12 : Option Addr} {sl12 : Array (Option Value)}
    {f13 : Addr} {oc13 kV13 doc13 pm13 cd13 ct13 : Value} {od13 an13 : Option Addr} {sl13 : Array (Option Value)}
    {f14 : Addr} {oc14 kV14 doc14 pm14 cd14 ct14 : Value} {od14 an14 : Option Addr} {sl14 : Array (Option Value)}
    {f15 : Addr} {oc15 kV15 doc15 pm15 cd15 ct15 : Value} {od15 an15 : Option Addr} {sl15 : Array (Option Value)}
    {f16 : Addr} {oc16 kV16 doc16 pm16 cd16 ct16 : Value} {od16 an16 : Option Addr} {sl16 : Array (Option Value)}
    {f17 : Addr} {oc17 kV17 doc17 pm17 cd17 ct17 : Value} {od17 an17 : Option Addr} {sl17 : Array (Option Value)}
    {f18 : Addr} {oc18 kV18 doc18 pm18 cd18 ct18 : Value} {od18 an18 : Option Addr} {sl18 : Array (Option Value)}
    {f19 : Addr} {oc19 kV19 doc19 pm19 cd19 ct19 : Value} {od19 an19 : Option Addr} {sl19 : Array (Option Value)}
    {f20 : Addr} {oc20 kV20 doc20 pm20 cd20 ct20 : Value} {od20 an20 : Option Addr} {sl20 : Array (Option Value)}
    (a0 : PySem.W.nsIn K mainGlobals "is_whole" = some (some (.ref f0)))
    (l0 : K.lookup f0 = some ⟨oc0, od0, .func (PySem.W.fnOf "is_whole" "is_whole" (defArgs s_is_whole) (defBody s_is_whole) (defScope s_is_whole) .none kV0 doc0 pm0 an0 cd0 ct0), sl0⟩)
    (c0 : PySem.W.codeIn K cd0 "is_whole" = true)
    (k0 : PySem.W.keepIn K (.ref f0) = true)
    (a1 : PySem.W.nsIn K mainGlobals "is_ratio" = some (some (.ref f1)))
    (l1 : K.lookup f1 = some ⟨oc1, od1, .func (PySem.W.fnOf "is_ratio" "is_ratio" (defArgs s_is_ratio) (defBody s_is_ratio) (defScope s_is_ratio) .none kV1 doc1 pm1 an1 cd1 ct1), sl1⟩)
    (c1 : PySem.W.codeIn K cd1 "is_ratio" = true)
    (k1 : PySem.W.keepIn K (.ref f1) = true)
    (a2 : PySem.W.nsIn K mainGlobals "ratio" = some (some (.ref f2)))
    (l2 : K.lookup f2 = some ⟨oc2, od2, .func (PySem.W.fnOf "ratio" "ratio" (defArgs s_ratio) (defBody s_ratio) (defScope s_ratio) .none kV2 doc2 pm2 an2 cd2 ct2), sl2⟩)
    (c2 : PySem.W.codeIn K cd2 "ratio" = true)
    (k2 : PySem.W.keepIn K (.ref f2) = true)
    (a3 : PySem.W.nsIn K mainGlobals "plus" = some (some (.ref f3)))
    (l3 : K.lookup f3 = some ⟨oc3, od3, .func (PySem.W.fnOf "plus" "plus" (defArgs s_plus) (defBody s_plus) (defScope s_plus) .none kV3 doc3 pm3 an3 cd3 ct3), sl3⟩)
    (c3 : PySem.W.codeIn K cd3 "plus" = true)
    (k3 : PySem.W.keepIn K (.ref f3) = true)
    (a4 : PySem.W.nsIn K mainGlobals "minus" = some (some (.ref f4)))
    (l4 : K.lookup f4 = some ⟨oc4, od4, .func (PySem.W.fnOf "minus" "minus" (defArgs s_minus) (defBody s_minus) (defScope s_minus) .none kV4 doc4 pm4 an4 cd4 ct4), sl4⟩)
    (c4 : PySem.W.codeIn K cd4 "minus" = true)
    (k4 : PySem.W.keepIn K (.ref f4) = true)
    (a5 : PySem.W.nsIn K mainGlobals "times" = some (some (.ref f5)))
    (l5 : K.lookup f5 = some ⟨oc5, od5, .func (PySem.W.fnOf "times" "times" (defArgs s_times) (defBody s_times) (defScope s_times) .none kV5 doc5 pm5 an5 cd5 ct5), sl5⟩)
    (c5 : PySem.W.codeIn K cd5 "times" = true)
    (k5 : PySem.W.keepIn K (.ref f5) = true)
    (a6 : PySem.W.nsIn K mainGlobals "divided" = some (some (.ref f6)))
    (l6 : K.lookup f6 = some ⟨oc6, od6, .func (PySem.W.fnOf "divided" "divided" (defArgs s_divided) (defBody s_divided) (defScope s_divided) .none kV6 doc6 pm6 an6 cd6 ct6), sl6⟩)
    (c6 : PySem.W.codeIn K cd6 "divided" = true)
    (k6 : PySem.W.keepIn K (.ref f6) = true)
    (a7 : PySem.W.nsIn K mainGlobals "less" = some (some (.ref f7)))
    (l7 : K.lookup f7 = some ⟨oc7, od7, .func (PySem.W.fnOf "less" "less" (defArgs s_less) (defBody s_less) (defScope s_less) .none kV7 doc7 pm7 an7 cd7 ct7), sl7⟩)
    (c7 : PySem.W.codeIn K cd7 "less" = true)
    (k7 : PySem.W.keepIn K (.ref f7) = true)
    (a8 : PySem.W.nsIn K mainGlobals "power" = some (some (.ref f8)))
    (l8 : K.lookup f8 = some ⟨oc8, od8, .func (PySem.W.fnOf "power" "power" (defArgs s_power) (defBody s_power) (defScope s_power) .none kV8 doc8 pm8 an8 cd8 ct8), sl8⟩)
    (c8 : PySem.W.codeIn K cd8 "power" = true)
    (k8 : PySem.W.keepIn K (.ref f8) = true)
    (a9 : PySem.W.nsIn K mainGlobals "_law_whole" = some (some (.ref f9)))
    (l9 : K.lookup f9 = some ⟨oc9, od9, .func (PySem.W.fnOf "_law_whole" "_law_whole" (defArgs s_L_whole) (defBody s_L_whole) (defScope s_L_whole) .none kV9 doc9 pm9 an9 cd9 ct9), sl9⟩)
    (c9 : PySem.W.codeIn K cd9 "_law_whole" = true)
    (k9 : PySem.W.keepIn K (.ref f9) = true)
    (a10 : PySem.W.nsIn K mainGlobals "_law_cell" = some (some (.ref f10)))
    (l10 : K.lookup f10 = some ⟨oc10, od10, .func (PySem.W.fnOf "_law_cell" "_law_cell" (defArgs s_L_cell) (defBody s_L_cell) (defScope s_L_cell) .none kV10 doc10 pm10 an10 cd10 ct10), sl10⟩)
    (c10 : PySem.W.codeIn K cd10 "_law_cell" = true)
    (k10 : PySem.W.keepIn K (.ref f10) = true)
    (a11 : PySem.W.nsIn K mainGlobals "_law_digits" = some (some (.ref f11)))
    (l11 : K.lookup f11 = some ⟨oc11, od11, .func (PySem.W.fnOf "_law_digits" "_law_digits" (defArgs s_L_digits) (defBody s_L_digits) (defScope s_L_digits) .none kV11 doc11 pm11 an11 cd11 ct11), sl11⟩)
    (c11 : PySem.W.codeIn K cd11 "_law_digits" = true)
    (k11 : PySem.W.keepIn K (.ref f11) = true)
    (a12 : PySem.W.nsIn K mainGlobals "_law_gcd" = some (some (.ref f12)))
    (l12 : K.lookup f12 = some ⟨oc12, od12, .func (PySem.W.fnOf "_law_gcd" "_law_gcd" (defArgs s_L_gcd) (defBody s_L_gcd) (defScope s_L_gcd) .none kV12 doc12 pm12 an12 cd12 ct12), sl12⟩)
    (c12 : PySem.W.codeIn K cd12 "_law_gcd" = true)
    (k12 : PySem.W.keepIn K (.ref f12) = true)
    (a13 : PySem.W.nsIn K mainGlobals "_law_is_ratio" = some (some (.ref f13)))
    (l13 : K.lookup f13 = some ⟨oc13, od13, .func (PySem.W.fnOf "_law_is_ratio" "_law_is_ratio" (defArgs s_L_is_ratio) (defBody s_L_is_ratio) (defScope s_L_is_ratio) .none kV13 doc13 pm13 an13 cd13 ct13), sl13⟩)
    (c13 : PySem.W.codeIn K cd13 "_law_is_ratio" = true)
    (k13 : PySem.W.keepIn K (.ref f13) = true)
    (a14 : PySem.W.nsIn K mainGlobals "_law_same" = some (some (.ref f14)))
    (l14 : K.lookup f14 = some ⟨oc14, od14, .func (PySem.W.fnOf "_law_same" "_law_same" (defArgs s_L_same) (defBody s_L_same) (defScope s_L_same) .none kV14 doc14 pm14 an14 cd14 ct14), sl14⟩)
    (c14 : PySem.W.codeIn K cd14 "_law_same" = true)
    (k14 : PySem.W.keepIn K (.ref f14) = true)
    (a15 : PySem.W.nsIn K mainGlobals "_law_truth" = some (some (.ref f15)))
    (l15 : K.lookup f15 = some ⟨oc15, od15, .func (PySem.W.fnOf "_law_truth" "_law_truth" (defArgs s_L_truth) (defBody s_L_truth) (defScope s_L_truth) .none kV15 doc15 pm15 an15 cd15 ct15), sl15⟩)
    (c15 : PySem.W.codeIn K cd15 "_law_truth" = true)
    (k15 : PySem.W.keepIn K (.ref f15) = true)
    (a16 : PySem.W.nsIn K mainGlobals "_law_raw" = some (some (.ref f16)))
    (l16 : K.lookup f16 = some ⟨oc16, od16, .func (PySem.W.fnOf "_law_raw" "_law_raw" (defArgs s_L_raw) (defBody s_L_raw) (defScope s_L_raw) .none kV16 doc16 pm16 an16 cd16 ct16), sl16⟩)
    (c16 : PySem.W.codeIn K cd16 "_law_raw" = true)
    (k16 : PySem.W.keepIn K (.ref f16) = true)
    (a17 : PySem.W.nsIn K mainGlobals "_law_bad" = some (some (.ref f17)))
    (l17 : K.lookup f17 = some ⟨oc17, od17, .func (PySem.W.fnOf "_law_bad" "_law_bad" (defArgs s_L_bad) (defBody s_L_bad) (defScope s_L_bad) .none kV17 doc17 pm17 an17 cd17 ct17), sl17⟩)
    (c17 : PySem.W.codeIn K cd17 "_law_bad" = true)
    (k17 : PySem.W.keepIn K (.ref f17) = true)
    (a18 : PySem.W.nsIn K mainGlobals "_law_sums" = some (some (.ref f18)))
    (l18 : K.lookup f18 = some ⟨oc18, od18, .func (PySem.W.fnOf "_law_sums" "_law_sums" (defArgs s_L_sums) (defBody s_L_sums) (defScope s_L_sums) .none kV18 doc18 pm18 an18 cd18 ct18), sl18⟩)
    (c18 : PySem.W.codeIn K cd18 "_law_sums" = true)
    (k18 : PySem.W.keepIn K (.ref f18) = true)
    (a19 : PySem.W.nsIn K mainGlobals "_law_power" = some (some (.ref f19)))
    (l19 : K.lookup f19 = some ⟨oc19, od19, .func (PySem.W.fnOf "_law_power" "_law_power" (defArgs s_L_power) (defBody s_L_power) (defScope s_L_power) .none kV19 doc19 pm19 an19 cd19 ct19), sl19⟩)
    (c19 : PySem.W.codeIn K cd19 "_law_power" = true)
    (k19 : PySem.W.keepIn K (.ref f19) = true)
    (a20 : PySem.W.nsIn K mainGlobals "law" = some (some (.ref f20)))
    (l20 : K.lookup f20 = some ⟨oc20, od20, .func (PySem.W.fnOf "law" "law" (defArgs s_law) (defBody s_law) (defScope s_law) .none kV20 doc20 pm20 an20 cd20 ct20), sl20⟩)
    (c20 : PySem.W.codeIn K cd20 "law" = true)
    (k20 : PySem.W.keepIn K (.ref f20) = true)
    (z0 : PySem.W.nsIn K mainGlobals "abs" = some none)
    (z1 : PySem.W.nsIn K mainGlobals "bool" = some none)
    (z2 : PySem.W.nsIn K mainGlobals "int" = some none)
    (z3 : PySem.W.nsIn K mainGlobals "isinstance" = some none)
    (z4 : PySem.W.nsIn K mainGlobals "len" = some none)
    (z5 : PySem.W.nsIn K mainGlobals "list" = some none)
    (z6 : PySem.W.nsIn K mainGlobals "range" = some none)
    (z7 : PySem.W.nsIn K mainGlobals "tuple" = some none)
    (zg : PySem.W.nsIn K mainGlobals "gcd" = some (some (.builtin "math.gcd")))
    : ∃ fd : FuncData, (∀ (s : Shared) (v : Value), BindsTo s fd ⟨[v], []⟩ [("_law_script", v)]) ∧ ∀ base : Heap, K.In base → base.Ns mainGlobals mg → FnOk P w K mg base CX0 5 fa fd ["_law_script"] (spF K F_law) := by
  have e := hfa.symm.trans (PySem.W.mg_of X G a20)
  cases e
  have hb : ∀ x ∈ blts, mg x = none := by
    intro x hx
    simp only [blts, List.mem_cons, List.not_mem_nil, or_false] at hx
    rcases hx with rfl | rfl | rfl | rfl | rfl | rfl | rfl | rfl
    · exact PySem.W.mg_none_of X G z0
    · exact PySem.W.mg_none_of X G z1
    · exact PySem.W.mg_none_of X G z2
    · exact PySem.W.mg_none_of X G z3
    · exact PySem.W.mg_none_of X G z4
    · exact PySem.W.mg_none_of X G z5
    · exact PySem.W.mg_none_of X G z6
    · exact PySem.W.mg_none_of X G z7
  have Fn0 := fun_mk (st := s_is_whole) l0 c0 k0
  have b0 := Fn0.binds (ps := ["value"]) fun _ _ _ _ _ _ us hl => match us, hl with | [_], _ => rfl
  have Fn1 := fun_mk (st := s_is_ratio) l1 c1 k1
  have b1 := Fn1.binds (ps := ["value"]) fun _ _ _ _ _ _ us hl => match us, hl with | [_], _ => rfl
  have Fn2 := fun_mk (st := s_ratio) l2 c2 k2
  have b2 := Fn2.binds (ps := ["top", "bottom"]) fun _ _ _ _ _ _ us hl => match us, hl with | [_, _], _ => rfl
  have Fn3 := fun_mk (st := s_plus) l3 c3 k3
  have b3 := Fn3.binds (ps := ["one", "two"]) fun _ _ _ _ _ _ us hl => match us, hl with | [_, _], _ => rfl
  have Fn4 := fun_mk (st := s_minus) l4 c4 k4
  have b4 := Fn4.binds (ps := ["one", "two"]) fun _ _ _ _ _ _ us hl => match us, hl with | [_, _], _ => rfl
  have Fn5 := fun_mk (st := s_times) l5 c5 k5
  have b5 := Fn5.binds (ps := ["one", "two"]) fun _ _ _ _ _ _ us hl => match us, hl with | [_, _], _ => rfl
  have Fn6 := fun_mk (st := s_divided) l6 c6 k6
  have b6 := Fn6.binds (ps := ["one", "two"]) fun _ _ _ _ _ _ us hl => match us, hl with | [_, _], _ => rfl
  have Fn7 := fun_mk (st := s_less) l7 c7 k7
  have b7 := Fn7.binds (ps := ["one", "two"]) fun _ _ _ _ _ _ us hl => match us, hl with | [_, _], _ => rfl
  have Fn8 := fun_mk (st := s_power) l8 c8 k8
  have b8 := Fn8.binds (ps := ["one", "count"]) fun _ _ _ _ _ _ us hl => match us, hl with | [_, _], _ => rfl
  have Fn9 := fun_mk (st := s_L_whole) l9 c9 k9
  have b9 := Fn9.binds (ps := ["_law_value"]) fun _ _ _ _ _ _ us hl => match us, hl with | [_], _ => rfl
  have Fn10 := fun_mk (st := s_L_cell) l10 c10 k10
  have b10 := Fn10.binds (ps := ["_law_script", "_law_k"]) fun _ _ _ _ _ _ us hl => match us, hl with | [_, _], _ => rfl
  have Fn11 := fun_mk (st := s_L_digits) l11 c11 k11
  have b11 := Fn11.binds (ps := ["_law_cell_here", "_law_sizes"]) fun _ _ _ _ _ _ us hl => match us, hl with | [_, _], _ => rfl
  have Fn12 := fun_mk (st := s_L_gcd) l12 c12 k12
  have b12 := Fn12.binds (ps := ["_law_one", "_law_two"]) fun _ _ _ _ _ _ us hl => match us, hl with | [_, _], _ => rfl
  have Fn13 := fun_mk (st := s_L_is_ratio) l13 c13 k13
  have b13 := Fn13.binds (ps := ["_law_value"]) fun _ _ _ _ _ _ us hl => match us, hl with | [_], _ => rfl
  have Fn14 := fun_mk (st := s_L_same) l14 c14 k14
  have b14 := Fn14.binds (ps := ["_law_value", "_law_top", "_law_bottom"]) fun _ _ _ _ _ _ us hl => match us, hl with | [_, _, _], _ => rfl
  have Fn15 := fun_mk (st := s_L_truth) l15 c15 k15
  have b15 := Fn15.binds (ps := ["_law_value", "_law_due"]) fun _ _ _ _ _ _ us hl => match us, hl with | [_, _], _ => rfl
  have Fn16 := fun_mk (st := s_L_raw) l16 c16 k16
  have b16 := Fn16.binds (ps := ["_law_script", "_law_at"]) fun _ _ _ _ _ _ us hl => match us, hl with | [_, _], _ => rfl
  have Fn17 := fun_mk (st := s_L_bad) l17 c17 k17
  have b17 := Fn17.binds (ps := ["_law_one", "_law_factor"]) fun _ _ _ _ _ _ us hl => match us, hl with | [_, _], _ => rfl
  have Fn18 := fun_mk (st := s_L_sums) l18 c18 k18
  have b18 := Fn18.binds (ps := ["_law_one", "_law_two"]) fun _ _ _ _ _ _ us hl => match us, hl with | [_, _], _ => rfl
  have Fn19 := fun_mk (st := s_L_power) l19 c19 k19
  have b19 := Fn19.binds (ps := ["_law_one", "_law_count"]) fun _ _ _ _ _ _ us hl => match us, hl with | [_, _], _ => rfl
  have Fn20 := fun_mk (st := s_law) l20 c20 k20
  have b20 := Fn20.binds (ps := ["_law_script"]) fun _ _ _ _ _ _ us hl => match us, hl with | [_], _ => rfl
  refine ⟨_, fun s v => (.of_eq rfl : BindsTo s (PySem.W.fnOf "law" "law" (defArgs s_law) (defBody s_law) (defScope s_law) .none kV20 doc20 pm20 an20 cd20 ct20) ⟨[v], []⟩ [("_law_script", v)]), fun base KB GB => ?_⟩
  have ok0 : FnOk P w K mg base CX0 1 f0 _ ["value"] (spF K F_is_whole) :=
    fn_ok (Y := Y_is_whole) Fn0 sc_is_whole ⟨fun i x hx => by
      simp only [Y_is_whole, List.mem_cons, List.not_mem_nil, or_false, Prod.mk.injEq] at hx,
      fun k x hx => by
      simp only [Y_is_whole, List.mem_cons, List.not_mem_nil, or_false, Prod.mk.injEq] at hx,
      hb, fun hz => by simp [Y_is_whole] at hz⟩ ck_is_whole (by decide) (fun _ _ z => z)
  have ok1 : FnOk P w K mg base CX0 2 f1 _ ["value"] (spF K F_is_ratio) :=
    fn_ok (Y := Y_is_ratio) Fn1 sc_is_ratio ⟨fun i x hx => by
      simp only [Y_is_ratio, List.mem_cons, List.not_mem_nil, or_false, Prod.mk.injEq] at hx
      obtain ⟨rfl, rfl⟩ := hx
      · exact ⟨f0, _, _, PySem.W.mg_of X G a0, k0, b0, ok0.mono (by decide)⟩,
      fun k x hx => by
      simp only [Y_is_ratio, List.mem_cons, List.not_mem_nil, or_false, Prod.mk.injEq] at hx,
      hb, fun _ => PySem.W.mg_of X G zg⟩ ck_is_ratio (by decide) (fun _ _ z => z)
  have ok2 : FnOk P w K mg base CX0 1 f2 _ ["top", "bottom"] (spF K F_ratio) :=
    fn_ok (Y := Y_ratio) Fn2 sc_ratio ⟨fun i x hx => by
      simp only [Y_ratio, List.mem_cons, List.not_mem_nil, or_false, Prod.mk.injEq] at hx,
      fun k x hx => by
      simp only [Y_ratio, List.mem_cons, List.not_mem_nil, or_false, Prod.mk.injEq] at hx,
      hb, fun _ => PySem.W.mg_of X G zg⟩ ck_ratio (by decide) (fun _ _ z => z)
  have ok10 : FnOk P w K mg base CX0 1 f10 _ ["_law_script", "_law_k"] (spF K F_L_cell) :=
    fn_ok (Y := Y_L_cell) Fn10 sc_L_cell ⟨fun i x hx => by
      simp only [Y_L_cell, List.mem_cons, List.not_mem_nil, or_false, Prod.mk.injEq] at hx,
      fun k x hx => by
      simp only [Y_L_cell, List.mem_cons, List.not_mem_nil, or_false, Prod.mk.injEq] at hx,
      hb, fun hz => by simp [Y_L_cell] at hz⟩ ck_L_cell (by decide) (fun _ _ z => z)
  have ok11 : FnOk P w K mg base CX0 1 f11 _ ["_law_cell_here", "_law_sizes"] (spF K F_L_digits) :=
    fn_ok (Y := Y_L_digits) Fn11 sc_L_digits ⟨fun i x hx => by
      simp only [Y_L_digits, List.mem_cons, List.not_mem_nil, or_false, Prod.mk.injEq] at hx,
      fun k x hx => by
      simp only [Y_L_digits, List.mem_cons, List.not_mem_nil, or_false, Prod.mk.injEq] at hx,
      hb, fun hz => by simp [Y_L_digits] at hz⟩ ck_L_digits (by decide) (fun _ _ z => z)
  have ok12 : FnOk P w K mg base CX0 1 f12 _ ["_law_one", "_law_two"] (spF K F_L_gcd) :=
    fn_ok (Y := Y_L_gcd) Fn12 sc_L_gcd ⟨fun i x hx => by
      simp only [Y_L_gcd, List.mem_cons, List.not_mem_nil, or_false, Prod.mk.injEq] at hx,
      fun k x hx => by
      simp only [Y_L_gcd, List.mem_cons, List.not_mem_nil, or_false, Prod.mk.injEq] at hx,
      hb, fun hz => by simp [Y_L_gcd] at hz⟩ ck_L_gcd (by decide) (fun _ _ z => z)
  have ok9 : FnOk P w K mg base CX0 1 f9 _ ["_law_value"] (spF K F_L_whole) :=
    fn_ok (Y := Y_L_whole) Fn9 sc_L_whole ⟨fun i x hx => by
      simp only [Y_L_whole, List.mem_cons, List.not_mem_nil, or_false, Prod.mk.injEq] at hx,
      fun k x hx => by
      simp only [Y_L_whole, List.mem_cons, List.not_mem_nil, or_false, Prod.mk.injEq] at hx,
      hb, fun hz => by simp [Y_L_whole] at hz⟩ ck_L_whole (by decide) (fun _ _ z => z)
  have ok13 : FnOk P w K mg base CX0 2 f13 _ ["_law_value"] (spF K F_L_is_ratio) :=
    fn_ok (Y := Y_L_is_ratio) Fn13 sc_L_is_ratio ⟨fun i x hx => by
      simp only [Y_L_is_ratio, List.mem_cons, List.not_mem_nil, or_false, Prod.mk.injEq] at hx
      rcases hx with ⟨rfl, rfl⟩ | ⟨rfl, rfl⟩
      · exact ⟨f9, _, _, PySem.W.mg_of X G a9, k9, b9, ok9.mono (by decide)⟩
      · exact ⟨f12, _, _, PySem.W.mg_of X G a12, k12, b12, ok12.mono (by decide)⟩,
      fun k x hx => by
      simp only [Y_L_is_ratio, List.mem_cons, List.not_mem_nil, or_false, Prod.mk.injEq] at hx,
      hb, fun hz => by simp [Y_L_is_ratio] at hz⟩ ck_L_is_ratio (by decide) (fun _ _ z => z)
  have ok14 : FnOk P w K mg base CX0 3 f14 _ ["_law_value", "_law_top", "_law_bottom"] (spF K F_L_same) :=
    fn_ok (Y := Y_L_same) Fn14 sc_L_same ⟨fun i x hx => by
      simp only [Y_L_same, List.mem_cons, List.not_mem_nil, or_false, Prod.mk.injEq] at hx
      obtain ⟨rfl, rfl⟩ := hx
      · exact ⟨f13, _, _, PySem.W.mg_of X G a13, k13, b13, ok13.mono (by decide)⟩,
      fun k x hx => by
      simp only [Y_L_same, List.mem_cons, List.not_mem_nil, or_false, Prod.mk.injEq] at hx,
      hb, fun hz => by simp [Y_L_same] at hz⟩ ck_L_same (by decide) (fun _ _ z => z)
  have ok15 : FnOk P w K mg base CX0 1 f15 _ ["_law_value", "_law_due"] (spF K F_L_truth) :=
    fn_ok (Y := Y_L_truth) Fn15 sc_L_truth ⟨fun i x hx => by
      simp only [Y_L_truth, List.mem_cons, List.not_mem_nil, or_false, Prod.mk.injEq] at hx,
      fun k x hx => by
      simp only [Y_L_truth, List.mem_cons, List.not_mem_nil, or_false, Prod.mk.injEq] at hx,
      hb, fun hz => by simp [Y_L_truth] at hz⟩ ck_L_truth (by decide) (fun _ _ z => z)
  have ok16 : FnOk P w K mg base CX0 2 f16 _ ["_law_script", "_law_at"] (spF K F_L_raw) :=
    fn_ok (Y := Y_L_raw) Fn16 sc_L_raw ⟨fun i x hx => by
      simp only [Y_L_raw, List.mem_cons, List.not_mem_nil, or_false, Prod.mk.injEq] at hx
      rcases hx with ⟨rfl, rfl⟩ | ⟨rfl, rfl⟩
      · exact ⟨f10, _, _, PySem.W.mg_of X G a10, k10, b10, ok10.mono (by decide)⟩
      · exact ⟨f11, _, _, PySem.W.mg_of X G a11, k11, b11, ok11.mono (by decide)⟩,
      fun k x hx => by
      simp only [Y_L_raw, List.mem_cons, List.not_mem_nil, or_false, Prod.mk.injEq] at hx,
      hb, fun hz => by simp [Y_L_raw] at hz⟩ ck_L_raw (by decide) (fun _ _ z => z)
  have ok17 : FnOk P w K mg base CX0 1 f17 _ ["_law_one", "_law_factor"] (spF K F_L_bad) :=
    fn_ok (Y := Y_L_bad) Fn17 sc_L_bad ⟨fun i x hx => by
      simp only [Y_L_bad, List.mem_cons, List.not_mem_nil, or_false, Prod.mk.injEq] at hx,
      fun k x hx => by
      simp only [Y_L_bad, List.mem_cons, List.not_mem_nil, or_false, Prod.mk.injEq] at hx,
      hb, fun hz => by simp [Y_L_bad] at hz⟩ ck_L_bad (by decide) (fun _ _ z => z)
  have ok3 : FnOk P w K mg base CX0 2 f3 _ ["one", "two"] (spF K F_plus) :=
    fn_ok (Y := Y_plus) Fn3 sc_plus ⟨fun i x hx => by
      simp only [Y_plus, List.mem_cons, List.not_mem_nil, or_false, Prod.mk.injEq] at hx
      obtain ⟨rfl, rfl⟩ := hx
      · exact ⟨f2, _, _, PySem.W.mg_of X G a2, k2, b2, ok2.mono (by decide)⟩,
      fun k x hx => by
      simp only [Y_plus, List.mem_cons, List.not_mem_nil, or_false, Prod.mk.injEq] at hx,
      hb, fun hz => by simp [Y_plus] at hz⟩ ck_plus (by decide) (fun _ _ z => z)
  have ok4 : FnOk P w K mg base CX0 2 f4 _ ["one", "two"] (spF K F_minus) :=
    fn_ok (Y := Y_minus) Fn4 sc_minus ⟨fun i x hx => by
      simp only [Y_minus, List.mem_cons, List.not_mem_nil, or_false, Prod.mk.injEq] at hx
      obtain ⟨rfl, rfl⟩ := hx
      · exact ⟨f2, _, _, PySem.W.mg_of X G a2, k2, b2, ok2.mono (by decide)⟩,
      fun k x hx => by
      simp only [Y_minus, List.mem_cons, List.not_mem_nil, or_false, Prod.mk.injEq] at hx,
      hb, fun hz => by simp [Y_minus] at hz⟩ ck_minus (by decide) (fun _ _ z => z)
  have ok5 : FnOk P w K mg base CX0 2 f5 _ ["one", "two"] (spF K F_times) :=
    fn_ok (Y := Y_times) Fn5 sc_times ⟨fun i x hx => by
      simp only [Y_times, List.mem_cons, List.not_mem_nil, or_false, Prod.mk.injEq] at hx
      obtain ⟨rfl, rfl⟩ := hx
      · exact ⟨f2, _, _, PySem.W.mg_of X G a2, k2, b2, ok2.mono (by decide)⟩,
      fun k x hx => by
      simp only [Y_times, List.mem_cons, List.not_mem_nil, or_false, Prod.mk.injEq] at hx,
      hb, fun hz => by simp [Y_times] at hz⟩ ck_times (by decide) (fun _ _ z => z)
  have ok6 : FnOk P w K mg base CX0 2 f6 _ ["one", "two"] (spF K F_divided) :=
    fn_ok (Y := Y_divided) Fn6 sc_divided ⟨fun i x hx => by
      simp only [Y_divided, List.mem_cons, List.not_mem_nil, or_false, Prod.mk.injEq] at hx
      obtain ⟨rfl, rfl⟩ := hx
      · exact ⟨f2, _, _, PySem.W.mg_of X G a2, k2, b2, ok2.mono (by decide)⟩,
      fun k x hx => by
      simp only [Y_divided, List.mem_cons, List.not_mem_nil, or_false, Prod.mk.injEq] at hx,
      hb, fun hz => by simp [Y_divided] at hz⟩ ck_divided (by decide) (fun _ _ z => z)
  have ok7 : FnOk P w K mg base CX0 1 f7 _ ["one", "two"] (spF K F_less) :=
    fn_ok (Y := Y_less) Fn7 sc_less ⟨fun i x hx => by
      simp only [Y_less, List.mem_cons, List.not_mem_nil, or_false, Prod.mk.injEq] at hx,
      fun k x hx => by
      simp only [Y_less, List.mem_cons, List.not_mem_nil, or_false, Prod.mk.injEq] at hx,
      hb, fun hz => by simp [Y_less] at hz⟩ ck_less (by decide) (fun _ _ z => z)
  have ok18 : FnOk P w K mg base CX0 4 f18 _ ["_law_one", "_law_two"] (spF K F_L_sums) :=
    fn_ok (Y := Y_L_sums) Fn18 sc_L_sums ⟨fun i x hx => by
      simp only [Y_L_sums, List.mem_cons, List.not_mem_nil, or_false, Prod.mk.injEq] at hx
      rcases hx with ⟨rfl, rfl⟩ | ⟨rfl, rfl⟩ | ⟨rfl, rfl⟩ | ⟨rfl, rfl⟩ | ⟨rfl, rfl⟩ | ⟨rfl, rfl⟩ | ⟨rfl, rfl⟩
      · exact ⟨f3, _, _, PySem.W.mg_of X G a3, k3, b3, ok3.mono (by decide)⟩
      · exact ⟨f4, _, _, PySem.W.mg_of X G a4, k4, b4, ok4.mono (by decide)⟩
      · exact ⟨f5, _, _, PySem.W.mg_of X G a5, k5, b5, ok5.mono (by decide)⟩
      · exact ⟨f6, _, _, PySem.W.mg_of X G a6, k6, b6, ok6.mono (by decide)⟩
      · exact ⟨f7, _, _, PySem.W.mg_of X G a7, k7, b7, ok7.mono (by decide)⟩
      · exact ⟨f14, _, _, PySem.W.mg_of X G a14, k14, b14, ok14.mono (by decide)⟩
      · exact ⟨f15, _, _, PySem.W.mg_of X G a15, k15, b15, ok15.mono (by decide)⟩,
      fun k x hx => by
      simp only [Y_L_sums, List.mem_cons, List.not_mem_nil, or_false, Prod.mk.injEq] at hx,
      hb, fun hz => by simp [Y_L_sums] at hz⟩ ck_L_sums (by decide) (fun _ _ z => z)
  have ok8 : FnOk P w K mg base CX0 1 f8 _ ["one", "count"] (spF K F_power) :=
    fn_ok (Y := Y_power) Fn8 sc_power ⟨fun i x hx => by
      simp only [Y_power, List.mem_cons, List.not_mem_nil, or_false, Prod.mk.injEq] at hx,
      fun k x hx => by
      simp only [Y_power, List.mem_cons, List.not_mem_nil, or_false, Prod.mk.injEq] at hx,
      hb, fun hz => by simp [Y_power] at hz⟩ ck_power (by decide) (fun _ _ z => z)
  have ok19 : FnOk P w K mg base CX0 2 f19 _ ["_law_one", "_law_count"] (spF K F_L_power) :=
    fn_ok (Y := Y_L_power) Fn19 sc_L_power ⟨fun i x hx => by
      simp only [Y_L_power, List.mem_cons, List.not_mem_nil, or_false, Prod.mk.injEq] at hx
      rcases hx with ⟨rfl, rfl⟩ | ⟨rfl, rfl⟩
      · exact ⟨f8, _, _, PySem.W.mg_of X G a8, k8, b8, ok8.mono (by decide)⟩
      · exact ⟨f9, _, _, PySem.W.mg_of X G a9, k9, b9, ok9.mono (by decide)⟩,
      fun k x hx => by
      simp only [Y_L_power, List.mem_cons, List.not_mem_nil, or_false, Prod.mk.injEq] at hx,
      hb, fun hz => by simp [Y_L_power] at hz⟩ ck_L_power (by decide) (fun _ _ z => z)
  have ok20 : FnOk P w K mg base CX0 5 fa _ ["_law_script"] (spF K F_law) :=
    fn_ok (Y := Y_law) Fn20 sc_law ⟨fun i x hx => by
      simp only [Y_law, List.mem_cons, List.not_mem_nil, or_false, Prod.mk.injEq] at hx
      rcases hx with ⟨rfl, rfl⟩ | ⟨rfl, rfl⟩ | ⟨rfl, rfl⟩ | ⟨rfl, rfl⟩ | ⟨rfl, rfl⟩ | ⟨rfl, rfl⟩ | ⟨rfl, rfl⟩ | ⟨rfl, rfl⟩ | ⟨rfl, rfl⟩ | ⟨rfl, rfl⟩ | ⟨rfl, rfl⟩
      · exact ⟨f1, _, _, PySem.W.mg_of X G a1, k1, b1, ok1.mono (by decide)⟩
      · exact ⟨f2, _, _, PySem.W.mg_of X G a2, k2, b2, ok2.mono (by decide)⟩
      · exact ⟨f10, _, _, PySem.W.mg_of X G a10, k10, b10, ok10.mono (by decide)⟩
      · exact ⟨f11, _, _, PySem.W.mg_of X G a11, k11, b11, ok11.mono (by decide)⟩
      · exact ⟨f12, _, _, PySem.W.mg_of X G a12, k12, b12, ok12.mono (by decide)⟩
      · exact ⟨f14, _, _, PySem.W.mg_of X G a14, k14, b14, ok14.mono (by decide)⟩
      · exact ⟨f15, _, _, PySem.W.mg_of X G a15, k15, b15, ok15.mono (by decide)⟩
      · exact ⟨f16, _, _, PySem.W.mg_of X G a16, k16, b16, ok16.mono (by decide)⟩
      · exact ⟨f17, _, _, PySem.W.mg_of X G a17, k17, b17, ok17.mono (by decide)⟩
      · exact ⟨f18, _, _, PySem.W.mg_of X G a18, k18, b18, ok18.mono (by decide)⟩
      · exact ⟨f19, _, _, PySem.W.mg_of X G a19, k19, b19, ok19.mono (by decide)⟩,
      fun k x hx => by
      simp only [Y_law, List.mem_cons, List.not_mem_nil, or_false, Prod.mk.injEq] at hx,
      hb, fun hz => by simp [Y_law] at hz⟩ ck_law (by decide) (fun _ _ z => z)
  exact ok20
theorem walk {l : PySem.W.OpenLaw} {q : Program} {loose : List Str} {XP : (Str → Option Value) → Heap → Prop} {YP : World → Heap → Prop} {d : DefRec} {K : Params → PySem.W.Frag} (hn : l.most = some 63) (hdf : d.params.defaults = [])
    (hY : ∀ (w : World) (h : Heap), YP w h → (K w.params).In h)
    (F : ∀ (w : World) (mg : Str → Option Value) (fa : Addr) (h : Heap), (K w.params).In h → h.Ns mainGlobals mg → mg d.name = some (.ref fa) →
      ∃ fd : FuncData, (∀ (s : Shared) (u : Value), BindsTo s fd ⟨[u], []⟩ [("_law_script", u)]) ∧ ∀ base : Heap, (K w.params).In base → base.Ns mainGlobals mg → FnOk l.prog w (K w.params) mg base CX0 5 fa fd ["_law_script"] (spF (K w.params) F_law)) :
    PySem.W.WalkO q loose XP YP l.row.toRowW d [] (fun f vs => PySem.call f vs) :=
  L2.walk_of (n := 63) (k := 5) (x := "_law_script") (CX := fun _ => CX0) (sp := fun w => spF (K w.params) F_law) hn (by decide) hdf ⟨rfl, by decide, by decide⟩ hY F
    (fun _ H a ns hl _ hS => ⟨[.scr ns], .bl true, H, Sub.refl H, by simp only [DenL, Den]; exact ⟨_, _, rfl, ⟨a, rfl, hS⟩, rfl⟩, main ns hl, fun v G' H' _ _ _ _ dv => by simpa only [Den] using dv⟩) fun _ _ _ _ _ z => z
end K55
open PySem PySem.W PyProof.Rows
set_option maxRecDepth 100000 in
set_option maxHeartbeats 0 in
theorem PySem.Challenge.cw_stampsheets_k55_ratios_holds : PySem.Challenge.rw_stampsheets_k55_ratios.Holds := by
  w_on; o_law; k_head; (case hw => w_witness2)
  k_fill
  refine K55.walk (l := PySem.Challenge.rw_stampsheets_k55_ratios) rfl rfl (fun w h Y => PySem.W.kIn_of Y) ?F
  case F =>
    intro w mg fa h KX G hmg
    refine' K55.all_mk KX G hmg ?a0 ?l0 ?c0 ?k0 ?a1 ?l1 ?c1 ?k1 ?a2 ?l2 ?c2 ?k2 ?a3 ?l3 ?c3 ?k3 ?a4 ?l4 ?c4 ?k4 ?a5 ?l5 ?c5 ?k5 ?a6 ?l6 ?c6 ?k6 ?a7 ?l7 ?c7 ?k7 ?a8 ?l8 ?c8 ?k8 ?a9 ?l9 ?c9 ?k9 ?a10 ?l10 ?c10 ?k10 ?a11 ?l11 ?c11 ?k11 ?a12 ?l12 ?c12 ?k12 ?a13 ?l13 ?c13 ?k13 ?a14 ?l14 ?c14 ?k14 ?a15 ?l15 ?c15 ?k15 ?a16 ?l16 ?c16 ?k16 ?a17 ?l17 ?c17 ?k17 ?a18 ?l18 ?c18 ?k18 ?a19 ?l19 ?c19 ?k19 ?a20 ?l20 ?c20 ?k20 ?z0 ?z1 ?z2 ?z3 ?z4 ?z5 ?z6 ?z7 ?zg
    (case a0 => k_is)
    (case l0 => k_is)
    (case c0 => k_is)
    (case k0 => k_is)
    (case a1 => k_is)
    (case l1 => k_is)
    (case c1 => k_is)
    (case k1 => k_is)
    (case a2 => k_is)
    (case l2 => k_is)
    (case c2 => k_is)
    (case k2 => k_is)
    (case a3 => k_is)
    (case l3 => k_is)
    (case c3 => k_is)
    (case k3 => k_is)
    (case a4 => k_is)
    (case l4 => k_is)
    (case c4 => k_is)
    (case k4 => k_is)
    (case a5 => k_is)
    (case l5 => k_is)
    (case c5 => k_is)
    (case k5 => k_is)
    (case a6 => k_is)
    (case l6 => k_is)
    (case c6 => k_is)
    (case k6 => k_is)
    (case a7 => k_is)
    (case l7 => k_is)
    (case c7 => k_is)
    (case k7 => k_is)
    (case a8 => k_is)
    (case l8 => k_is)
    (case c8 => k_is)
    (case k8 => k_is)
    (case a9 => k_is)
    (case l9 => k_is)
    (case c9 => k_is)
    (case k9 => k_is)
    (case a10 => k_is)
    (case l10 => k_is)
    (case c10 => k_is)
    (case k10 => k_is)
    (case a11 => k_is)
    (case l11 => k_is)
    (case c11 => k_is)
    (case k11 => k_is)
    (case a12 => k_is)
    (case l12 => k_is)
    (case c12 => k_is)
    (case k12 => k_is)
    (case a13 => k_is)
    (case l13 => k_is)
    (case c13 => k_is)
    (case k13 => k_is)
    (case a14 => k_is)
    (case l14 => k_is)
    (case c14 => k_is)
    (case k14 => k_is)
    (case a15 => k_is)
    (case l15 => k_is)
    (case c15 => k_is)
    (case k15 => k_is)
    (case a16 => k_is)
    (case l16 => k_is)
    (case c16 => k_is)
    (case k16 => k_is)
    (case a17 => k_is)
    (case l17 => k_is)
    (case c17 => k_is)
    (case k17 => k_is)
    (case a18 => k_is)
    (case l18 => k_is)
    (case c18 => k_is)
    (case k18 => k_is)
    (case a19 => k_is)
    (case l19 => k_is)
    (case c19 => k_is)
    (case k19 => k_is)
    (case a20 => k_is)
    (case l20 => k_is)
    (case c20 => k_is)
    (case k20 => k_is)
    (case z0 => k_is)
    (case z1 => k_is)
    (case z2 => k_is)
    (case z3 => k_is)
    (case z4 => k_is)
    (case z5 => k_is)
    (case z6 => k_is)
    (case z7 => k_is)
    (case zg => k_is)
#print axioms PySem.Challenge.cw_stampsheets_k55_ratios_holds
