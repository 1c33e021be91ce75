import PyProof.Rows.All
import Wide.All
import OpenK.AllK
import Wide.FinOn
import HandS.ForMost
import HandS.IsInst
import HandS.Style
import HandS.Gcd
import HandS.Wide
import HandS.Walk
import HandS.TupAny
import HandS.Flow
import HandS.Property
import HandS.Zip
import HandS.Replace
import HandS.Defaults
import KE.GoesEnum
import HandS.Codes
import KE.KEqNest
import HandS.DeepEq
import KE.KDictLaw
import HandS.Text
import HandS.SetFor
import HandS.Set
import KE.KRevSl
import HandS.Strs
import PySem.Challenge.RW_stampsheets_k10_making_whole

set_option Elab.async false
set_option linter.all false
set_option maxRecDepth 100000
set_option maxHeartbeats 4000000

namespace Pv
open PySem PySem.Spec L2

/-! ### data -/
inductive D where
  | non | bl (b : Bool) | int (i : Int) | str (x : List Nat)
  | lst (ds : List D) | tup (ds : List D) | dct (ks vs : List D) | ins (c : Str) (ns : List Str) (vs : List D)
  /-- the law's script -/
  | scr (ns : List Int)
  deriving Inhabited

abbrev mkS (x : List Nat) : Str := ⟨x.toArray⟩
def D.key : D → Option Key
  | .int i => some (.inl i)
  | .str x => some (.inr (mkS x))
  | _ => none

mutual
def D.toP : D → PyData
  | .non => .none | .bl b => .bool b | .int i => .int i | .str x => .str (mkS x)
  | .lst ds => .list (D.toPL ds) | .tup ds => .tuple (D.toPL ds)
  | .dct _ _ => .none | .ins _ _ _ => .none | .scr ns => .list (ns.map .int)
def D.toPL : List D → List PyData
  | [] => [] | d :: ds => D.toP d :: D.toPL ds
end
mutual
def D.plain : D → Bool
  | .lst ds => D.plainL ds | .tup ds => D.plainL ds
  | .dct _ _ => false | .ins _ _ _ => false | .scr _ => false
  | .non => true | .bl _ => true | .int _ => true | .str _ => true
def D.plainL : List D → Bool
  | [] => true | d :: ds => D.plain d && D.plainL ds
end
/-- data that == compares as data -/
def D.shp (d : D) : Bool := D.plain d && SeqAt.shaped (D.toP d)
def D.eqb (a b : D) : Bool := PyData.eqv (D.toP a) (D.toP b)

mutual
/-- the value v stands for the datum -/
def Den (K : PySem.W.Frag) (G : Hp) : D → V → Prop
  | .non, v => v = .non
  | .bl b, v => v = .bl b
  | .int i, v => v = .int i
  | .str x, v => v = .str (mkS x)
  | .lst ds, v => ∃ a vs, v = .ref a ∧ G a = some (.lst vs) ∧ DenL K G ds vs
  | .tup ds, v => ∃ a vs, v = .ref a ∧ SqT K G a vs ∧ DenL K G ds vs
  | .dct ks ds, v => ∃ a kvs, v = .ref a ∧ G a = some (.dK kvs) ∧ ks.map D.key = kvs.map (fun p => some p.1) ∧ DenL K G ds (kvs.map (fun p => p.2))
  | .ins c ns ds, v => ∃ a C dx nvs, v = .ref a ∧ G a = some (.ins C dx nvs) ∧ PySem.W.nsIn K mainGlobals c = some (some (.ref C)) ∧ ns = nvs.map (fun p => p.1) ∧ DenL K G ds (nvs.map (fun p => p.2))
  | .scr ns, v => ∃ a, v = .ref a ∧ SqL K G a (ns.map V.int)
def DenL (K : PySem.W.Frag) (G : Hp) : List D → List V → Prop
  | [], vs => vs = []
  | d :: ds, vs => ∃ v r, vs = v :: r ∧ Den K G d v ∧ DenL K G ds r
end

abbrev Sub (H H' : Hp) : Prop := ∀ a o, H a = some o → H' a = some o
theorem Sub.refl (H : Hp) : Sub H H := fun _ _ h => h
theorem Sub.trans {H H1 H2 : Hp} (a : Sub H H1) (b : Sub H1 H2) : Sub H H2 := fun x o h => b x o (a x o h)
theorem sub_rd {H H' : Hp} {a : Addr} {u : HO} (e : Sub H H') (h : Rd H a u) : Rd H' a u := by
  rcases h with h | ⟨o, h⟩
  · exact Or.inl (e a _ h)
  · exact Or.inr ⟨o, e a _ h⟩
theorem sub_l {K : PySem.W.Frag} {H H' : Hp} {a : Addr} {xs : List V} (e : Sub H H') (h : SqL K H a xs) : SqL K H' a xs := by
  rcases h with h | h
  · exact Or.inl (sub_rd e h)
  · exact Or.inr h
theorem sub_t {K : PySem.W.Frag} {H H' : Hp} {a : Addr} {xs : List V} (e : Sub H H') (h : SqT K H a xs) : SqT K H' a xs := by
  rcases h with h | h
  · exact Or.inl (sub_rd e h)
  · exact Or.inr h
mutual
theorem Den.mono {K : PySem.W.Frag} {G G' : Hp} (e : Sub G G') : ∀ (d : D) {v : V}, Den K G d v → Den K G' d v
  | .non, _, h => by simpa only [Den] using h
  | .bl _, _, h => by simpa only [Den] using h
  | .int _, _, h => by simpa only [Den] using h
  | .str _, _, h => by simpa only [Den] using h
  | .lst ds, _, h => by
    simp only [Den] at h ⊢
    obtain ⟨a, vs, r, s, t⟩ := h
    exact ⟨a, vs, r, e _ _ s, DenL.mono e ds t⟩
  | .tup ds, _, h => by
    simp only [Den] at h ⊢
    obtain ⟨a, vs, r, s, t⟩ := h
    exact ⟨a, vs, r, sub_t e s, DenL.mono e ds t⟩
  | .dct ks ds, _, h => by
    simp only [Den] at h ⊢
    obtain ⟨a, kvs, r, s, t, u⟩ := h
    exact ⟨a, kvs, r, e _ _ s, t, DenL.mono e ds u⟩
  | .ins c ns ds, _, h => by
    simp only [Den] at h ⊢
    obtain ⟨a, C, dx, nvs, r, s, t, u, z⟩ := h
    exact ⟨a, C, dx, nvs, r, e _ _ s, t, u, DenL.mono e ds z⟩
  | .scr _, _, h => by
    simp only [Den] at h ⊢
    obtain ⟨a, r, s⟩ := h
    exact ⟨a, r, sub_l e s⟩
theorem DenL.mono {K : PySem.W.Frag} {G G' : Hp} (e : Sub G G') : ∀ (ds : List D) {vs : List V}, DenL K G ds vs → DenL K G' ds vs
  | [], _, h => by simpa only [DenL] using h
  | d :: ds, _, h => by
    simp only [DenL] at h ⊢
    obtain ⟨v, r, e1, h1, h2⟩ := h
    exact ⟨v, r, e1, Den.mono e d h1, DenL.mono e ds h2⟩
end
theorem DenL.length {K : PySem.W.Frag} {G : Hp} : ∀ {ds : List D} {vs : List V}, DenL K G ds vs → ds.length = vs.length
  | [], _, h => by simp only [DenL] at h; subst h; rfl
  | d :: ds, _, h => by
    simp only [DenL] at h
    obtain ⟨v, r, e1, h1, h2⟩ := h
    subst e1
    simp [DenL.length h2]
theorem DenL.get {K : PySem.W.Frag} {G : Hp} : ∀ {ds : List D} {vs : List V} {i : Nat} {d : D}, DenL K G ds vs → ds[i]? = some d → ∃ v, vs[i]? = some v ∧ Den K G d v
  | [], _, _, _, _, e => by simp at e
  | x :: ds, _, i, d, h, e => by
    simp only [DenL] at h
    obtain ⟨v, r, e1, h1, h2⟩ := h
    subst e1
    cases i with
    | zero =>
      simp at e
      subst e
      exact ⟨v, rfl, h1⟩
    | succ i =>
      obtain ⟨w, a, b⟩ := DenL.get (i := i) (d := d) h2 (by simpa using e)
      exact ⟨w, by simpa using a, b⟩
theorem DenL.getV {K : PySem.W.Frag} {G : Hp} : ∀ {ds : List D} {vs : List V} {i : Nat} {v : V}, DenL K G ds vs → vs[i]? = some v → ∃ d, ds[i]? = some d ∧ Den K G d v
  | [], _, _, _, h, e => by simp only [DenL] at h; subst h; simp at e
  | x :: ds, _, i, d, h, e => by
    simp only [DenL] at h
    obtain ⟨v, r, e1, h1, h2⟩ := h
    subst e1
    cases i with
    | zero =>
      simp at e
      subst e
      exact ⟨x, rfl, h1⟩
    | succ i =>
      obtain ⟨w, a, b⟩ := DenL.getV (i := i) (v := d) h2 (by simpa using e)
      exact ⟨w, by simpa using a, b⟩
theorem DenL.append {K : PySem.W.Frag} {G : Hp} : ∀ {ds es : List D} {vs ws : List V}, DenL K G ds vs → DenL K G es ws → DenL K G (ds ++ es) (vs ++ ws)
  | [], _, _, _, h, h' => by simp only [DenL] at h; subst h; simpa using h'
  | d :: ds, es, _, ws, h, h' => by
    simp only [DenL] at h
    obtain ⟨v, r, e1, h1, h2⟩ := h
    subst e1
    simp only [List.cons_append, DenL]
    exact ⟨v, r ++ ws, rfl, h1, DenL.append h2 h'⟩
theorem DenL.snoc {K : PySem.W.Frag} {G : Hp} {ds : List D} {vs : List V} {d : D} {v : V} (h : DenL K G ds vs) (h' : Den K G d v) : DenL K G (ds ++ [d]) (vs ++ [v]) :=
  h.append (by simp only [DenL]; exact ⟨v, [], rfl, h', rfl⟩)
theorem DenL.take {K : PySem.W.Frag} {G : Hp} : ∀ {ds : List D} {vs : List V} (n : Nat), DenL K G ds vs → DenL K G (ds.take n) (vs.take n)
  | [], _, n, h => by simp only [DenL] at h; subst h; simp [DenL]
  | d :: ds, _, 0, h => by simp [DenL]
  | d :: ds, _, n + 1, h => by
    simp only [DenL] at h
    obtain ⟨v, r, e1, h1, h2⟩ := h
    subst e1
    simp only [List.take_succ_cons, DenL]
    exact ⟨v, r.take n, rfl, h1, DenL.take n h2⟩
theorem DenL.drop {K : PySem.W.Frag} {G : Hp} : ∀ {ds : List D} {vs : List V} (n : Nat), DenL K G ds vs → DenL K G (ds.drop n) (vs.drop n)
  | [], _, n, h => by simp only [DenL] at h; subst h; simp [DenL]
  | d :: ds, _, 0, h => by simpa using h
  | d :: ds, _, n + 1, h => by
    simp only [DenL] at h
    obtain ⟨v, r, e1, h1, h2⟩ := h
    subst e1
    simpa using DenL.drop n h2

/-! ### data to the library's -/
mutual
theorem Den.dp {K : PySem.W.Frag} {G : Hp} : ∀ (d : D) {v : V}, D.plain d = true → Den K G d v → Dp K G v (D.toP d)
  | .non, _, _, h => by simp only [Den] at h; subst h; exact .non
  | .bl _, _, _, h => by simp only [Den] at h; subst h; exact .bl _
  | .int _, _, _, h => by simp only [Den] at h; subst h; exact .int _
  | .str _, _, _, h => by simp only [Den] at h; subst h; exact .str _
  | .lst ds, _, p, h => by
    simp only [Den] at h
    simp only [D.plain] at p
    obtain ⟨a, vs, r, s, t⟩ := h
    subst r
    exact .lst (SqL.of s) (DenL.dp ds p t)
  | .tup ds, _, p, h => by
    simp only [Den] at h
    simp only [D.plain] at p
    obtain ⟨a, vs, r, s, t⟩ := h
    subst r
    exact .tup s (DenL.dp ds p t)
  | .dct _ _, _, p, _ => by simp [D.plain] at p
  | .ins _ _ _, _, p, _ => by simp [D.plain] at p
  | .scr _, _, p, _ => by simp [D.plain] at p
theorem DenL.dp {K : PySem.W.Frag} {G : Hp} : ∀ (ds : List D) {vs : List V}, D.plainL ds = true → DenL K G ds vs → DpAll K G vs (D.toPL ds)
  | [], _, _, h => by simp only [DenL] at h; subst h; exact .nil
  | d :: ds, _, p, h => by
    simp only [DenL] at h
    simp only [D.plainL, Bool.and_eq_true] at p
    obtain ⟨v, r, e1, h1, h2⟩ := h
    subst e1
    exact .cons (Den.dp d p.1 h1) (DenL.dp ds p.2 h2)
end
mutual
theorem dp_mono {K : PySem.W.Frag} {G H : Hp} (e : Sub G H) : ∀ (d : PyData) {v : V}, Dp K G v d → Dp K H v d
  | _, _, .non => .non
  | _, _, .bl b => .bl b
  | _, _, .int b => .int b
  | _, _, .str b => .str b
  | .list ds, _, .lst s a => .lst (sub_l e s) (dpAll_mono e ds a)
  | .tuple ds, _, .tup s a => .tup (sub_t e s) (dpAll_mono e ds a)
theorem dpAll_mono {K : PySem.W.Frag} {G H : Hp} (e : Sub G H) : ∀ (ds : List PyData) {vs : List V}, DpAll K G vs ds → DpAll K H vs ds
  | [], _, .nil => .nil
  | d :: ds, _, .cons h t => .cons (dp_mono e d h) (dpAll_mono e ds t)
end

def del (W : Hp) (p : Addr) : Hp := fun a => if a = p then none else W a
theorem del_same {W : Hp} {p : Addr} : del W p p = none := by simp [del]
theorem del_ne {W : Hp} {p a : Addr} (h : a ≠ p) : del W p a = W a := by simp [del, h]
abbrev WI (G0 W : Hp) : Prop := ∀ a C dx n, W a = some (.ins C dx n) → ∃ b, G0 a = some (.own b)
theorem wi_upd {G0 W : Hp} (h : WI G0 W) {p : Addr} {o : HO} (hi : ∀ C dx n, o ≠ .ins C dx n) : WI G0 (upd W p o) := fun a C dx n e => by
  by_cases z : a = p
  · subst z; rw [upd_same] at e; exact absurd (Option.some.inj e) (hi C dx n)
  · rw [upd_ne z] at e; exact h a C dx n e
theorem wi_set {G0 W : Hp} (h : WI G0 W) {p : Addr} {o o' : HO} (hp : W p = some o) (hi : ∀ C dx n, o' = .ins C dx n → ∃ C0 dx0 n0, o = .ins C0 dx0 n0) : WI G0 (upd W p o') := fun a C dx n e => by
  by_cases z : a = p
  · subst z; rw [upd_same] at e; obtain ⟨C0, dx0, n0, e0⟩ := hi C dx n (Option.some.inj e); rw [e0] at hp; exact h a C0 dx0 n0 hp
  · rw [upd_ne z] at e; exact h a C dx n e
theorem wi_del {G0 W : Hp} (h : WI G0 W) {p : Addr} : WI G0 (del W p) := fun a C dx n e => by
  by_cases z : a = p
  · subst z; rw [del_same] at e; cases e
  · rw [del_ne z] at e; exact h a C dx n e
/-! ### the world: H0, G0 at the entry; G what stands for good; W what the slots own; H the heap -/
structure Wd (H0 G0 G W H : Hp) : Prop where
  gh : Sub G H
  wh : ∀ a o, W a = some o → H a = some o ∧ G a = none
  wi : WI G0 W
  hg : ∀ a o, H0 a = some o → G a = G0 a
  h0 : ∀ a o, H0 a = some o → H a = some o ∧ W a = none
def noH : Hp := fun _ => none
theorem Wd.start {H0 G0 : Hp} (h : Sub G0 H0) : Wd H0 G0 G0 noH H0 :=
  ⟨h, fun _ _ e => by simp [noH] at e, fun _ _ _ _ e => by simp [noH] at e, fun _ _ _ => rfl, fun _ _ e => ⟨e, rfl⟩⟩
section
variable {H0 G0 G W H : Hp}
theorem Wd.wnone (w : Wd H0 G0 G W H) {p : Addr} (hp : H p = none) : W p = none := by
  cases e : W p with
  | none => rfl
  | some o => rw [(w.wh p o e).1] at hp; cases hp
theorem Wd.gnone (w : Wd H0 G0 G W H) {p : Addr} (hp : H p = none) : G p = none := by
  cases e : G p with
  | none => rfl
  | some o => rw [w.gh p o e] at hp; cases hp
theorem Wd.h0none (w : Wd H0 G0 G W H) {p : Addr} (hp : H p = none) : H0 p = none := by
  cases e : H0 p with
  | none => rfl
  | some o => rw [(w.h0 p o e).1] at hp; cases hp
theorem sub_upd {G : Hp} {p : Addr} {o : HO} (h : G p = none) : Sub G (upd G p o) := fun a u e => by
  rw [upd_ne (ne_of_none e h)]; exact e
/-- a new object that stands for good -/
theorem Wd.new (w : Wd H0 G0 G W H) {p : Addr} {o : HO} (hp : H p = none) : Wd H0 G0 (upd G p o) W (upd H p o) := by
  have hg := w.gnone hp
  have hw := w.wnone hp
  have h0 := w.h0none hp
  refine ⟨fun a u e => ?_, fun a u e => ?_, w.wi, fun a u e => ?_, fun a u e => ?_⟩
  · by_cases z : a = p
    · subst z; rw [upd_same] at e ⊢; exact e
    · rw [upd_ne z] at e ⊢; exact w.gh a u e
  · have z := ne_of_none e hw
    rw [upd_ne z, upd_ne z]; exact w.wh a u e
  · have z := ne_of_none e h0
    rw [upd_ne z]; exact w.hg a u e
  · have z := ne_of_none e h0
    rw [upd_ne z]; exact w.h0 a u e
/-- a new object that is owned -/
theorem Wd.newO (w : Wd H0 G0 G W H) {p : Addr} {o : HO} (hp : H p = none) (hi : ∀ C dx n, o ≠ .ins C dx n := by (intro _ _ _ z; cases z)) : Wd H0 G0 G (upd W p o) (upd H p o) := by
  have hg := w.gnone hp
  have hw := w.wnone hp
  have h0 := w.h0none hp
  refine ⟨fun a u e => ?_, fun a u e => ?_, wi_upd w.wi hi, fun a u e => w.hg a u e, fun a u e => ?_⟩
  · have z := ne_of_none e hg
    rw [upd_ne z]; exact w.gh a u e
  · by_cases z : a = p
    · subst z; rw [upd_same] at e ⊢; exact ⟨e, hg⟩
    · rw [upd_ne z] at e ⊢; exact w.wh a u e
  · have z := ne_of_none e h0
    rw [upd_ne z, upd_ne z]; exact w.h0 a u e
/-- an owned object changes -/
theorem Wd.set (w : Wd H0 G0 G W H) {p : Addr} {o o' : HO} (hp : W p = some o) (hi : ∀ C dx n, o' = .ins C dx n → ∃ C0 dx0 n0, o = .ins C0 dx0 n0 := by (intro _ _ _ z; cases z)) : Wd H0 G0 G (upd W p o') (upd H p o') := by
  obtain ⟨h1, h2⟩ := w.wh p o hp
  have h0 : H0 p = none := by
    cases e : H0 p with
    | none => rfl
    | some o => rw [(w.h0 p o e).2] at hp; cases hp
  refine ⟨fun a u e => ?_, fun a u e => ?_, wi_set w.wi hp hi, fun a u e => w.hg a u e, fun a u e => ?_⟩
  · have z := ne_of_none e h2
    rw [upd_ne z]; exact w.gh a u e
  · by_cases z : a = p
    · subst z; rw [upd_same] at e ⊢; exact ⟨e, h2⟩
    · rw [upd_ne z] at e ⊢; exact w.wh a u e
  · have z := ne_of_none e h0
    rw [upd_ne z, upd_ne z]; exact w.h0 a u e
/-- an owned object stands for good from here on -/
theorem Wd.give (w : Wd H0 G0 G W H) {p : Addr} {o : HO} (hp : W p = some o) : Wd H0 G0 (upd G p o) (del W p) H := by
  obtain ⟨h1, h2⟩ := w.wh p o hp
  have h0 : H0 p = none := by
    cases e : H0 p with
    | none => rfl
    | some o => rw [(w.h0 p o e).2] at hp; cases hp
  refine ⟨fun a u e => ?_, fun a u e => ?_, wi_del w.wi, fun a u e => ?_, fun a u e => ?_⟩
  · by_cases z : a = p
    · subst z; rw [upd_same] at e; rw [h1]; exact e
    · rw [upd_ne z] at e; exact w.gh a u e
  · by_cases z : a = p
    · subst z; rw [del_same] at e; cases e
    · rw [del_ne z] at e; rw [upd_ne z]; exact w.wh a u e
  · have z := ne_of_none e h0
    rw [upd_ne z]; exact w.hg a u e
  · have z := ne_of_none e h0
    rw [del_ne z]; exact w.h0 a u e
/-- an entry that is of no concern -/
theorem Wd.junk (w : Wd H0 G0 G W H) {p : Addr} {o : HO} (hp : H p = none) : Wd H0 G0 G W (upd H p o) :=
  ⟨fun a u e => by rw [upd_ne (ne_of_none e (w.gnone hp))]; exact w.gh a u e, fun a u e => ⟨by rw [upd_ne (ne_of_none e (w.wnone hp))]; exact (w.wh a u e).1, (w.wh a u e).2⟩, w.wi, w.hg,
    fun a u e => ⟨by rw [upd_ne (ne_of_none e (w.h0none hp))]; exact (w.h0 a u e).1, (w.h0 a u e).2⟩⟩
/-- behind a call -/
theorem Wd.call (w : Wd H0 G0 G W H) {G' H' : Hp} (hh : Sub H H') (gg : Sub G G') (gh : Sub G' H') (hg : ∀ a o, H a = some o → G' a = G a) : Wd H0 G0 G' W H' :=
  ⟨gh, fun a o e => ⟨hh a o (w.wh a o e).1, by rw [hg a o (w.wh a o e).1]; exact (w.wh a o e).2⟩, w.wi, fun a o e => (hg a o (w.h0 a o e).1).trans (w.hg a o e),
    fun a o e => ⟨hh a o (w.h0 a o e).1, (w.h0 a o e).2⟩⟩
end

/-! ### slots -/
/-- what an object holds, without its address -/
def DenO (K : PySem.W.Frag) (G : Hp) : D → HO → Prop
  | .lst ds, o => ∃ vs, o = .lst vs ∧ DenL K G ds vs
  | .dct ks ds, o => ∃ kvs, o = .dK kvs ∧ ks.map D.key = kvs.map (fun p => some p.1) ∧ DenL K G ds (kvs.map (fun p => p.2))
  | .ins c ns ds, o => ∃ C dx nvs, o = .ins C dx nvs ∧ PySem.W.nsIn K mainGlobals c = some (some (.ref C)) ∧ ns = nvs.map (fun p => p.1) ∧ DenL K G ds (nvs.map (fun p => p.2))
  | _, _ => False
theorem DenO.mono {K : PySem.W.Frag} {G G' : Hp} (e : Sub G G') : ∀ (d : D) {o : HO}, DenO K G d o → DenO K G' d o
  | .lst ds, _, h => by
    simp only [DenO] at h ⊢
    obtain ⟨vs, s, t⟩ := h
    exact ⟨vs, s, DenL.mono e ds t⟩
  | .dct ks ds, _, h => by
    simp only [DenO] at h ⊢
    obtain ⟨kvs, s, t, u⟩ := h
    exact ⟨kvs, s, t, DenL.mono e ds u⟩
  | .ins c ns ds, _, h => by
    simp only [DenO] at h ⊢
    obtain ⟨C, dx, nvs, s, t, u, z⟩ := h
    exact ⟨C, dx, nvs, s, t, u, DenL.mono e ds z⟩
  | .non, _, h => by simp only [DenO] at h
  | .bl _, _, h => by simp only [DenO] at h
  | .int _, _, h => by simp only [DenO] at h
  | .str _, _, h => by simp only [DenO] at h
  | .tup _, _, h => by simp only [DenO] at h
  | .scr _, _, h => by simp only [DenO] at h
theorem DenO.den {K : PySem.W.Frag} {G : Hp} {p : Addr} {o : HO} (hp : G p = some o) : ∀ (d : D), DenO K G d o → Den K G d (.ref p)
  | .lst ds, h => by
    simp only [DenO] at h
    obtain ⟨vs, s, t⟩ := h
    subst s
    simp only [Den]
    exact ⟨p, vs, rfl, hp, t⟩
  | .dct ks ds, h => by
    simp only [DenO] at h
    obtain ⟨kvs, s, t, u⟩ := h
    subst s
    simp only [Den]
    exact ⟨p, kvs, rfl, hp, t, u⟩
  | .ins c ns ds, h => by
    simp only [DenO] at h
    obtain ⟨C, dx, nvs, s, t, u, z⟩ := h
    subst s
    simp only [Den]
    exact ⟨p, C, dx, nvs, rfl, hp, t, u, z⟩
  | .non, h => by simp only [DenO] at h
  | .bl _, h => by simp only [DenO] at h
  | .int _, h => by simp only [DenO] at h
  | .str _, h => by simp only [DenO] at h
  | .tup _, h => by simp only [DenO] at h
  | .scr _, h => by simp only [DenO] at h
inductive Sl where
  | no | v (d : D) | o (d : D)
structure SlOk (K : PySem.W.Frag) (G W : Hp) (τ : List Sl) (σ : St) : Prop where
  len : τ.length = σ.length
  val : ∀ (i : Nat) d, τ[i]? = some (.v d) → ∃ v, σ[i]? = some (some v) ∧ Den K G d v
  own : ∀ (i : Nat) d, τ[i]? = some (.o d) → ∃ a o, σ[i]? = some (some (.ref a)) ∧ W a = some o ∧ DenO K G d o
  dis : ∀ (i j : Nat) ds es a, τ[i]? = some (.o ds) → τ[j]? = some (.o es) → σ[i]? = some (some (.ref a)) → σ[j]? = some (some (.ref a)) → i = j
theorem get_set {α : Type} {l : List α} {i j : Nat} {x y : α} (h : (l.set i x)[j]? = some y) : (j = i ∧ i < l.length ∧ y = x) ∨ (j ≠ i ∧ l[j]? = some y) := by
  by_cases e : j = i
  · subst e
    by_cases hl : j < l.length
    · rw [List.getElem?_set_self hl] at h
      exact .inl ⟨rfl, hl, (Option.some.inj h).symm⟩
    · rw [List.getElem?_eq_none (by simpa using hl)] at h
      cases h
  · rw [List.getElem?_set_ne (fun z => e z.symm)] at h
    exact .inr ⟨e, h⟩
theorem set_self {α : Type} {l : List α} {i : Nat} {x : α} (h : i < l.length) : (l.set i x)[i]? = some x := List.getElem?_set_self h
theorem set_ne {α : Type} {l : List α} {i j : Nat} {x : α} (h : j ≠ i) : (l.set i x)[j]? = l[j]? := List.getElem?_set_ne (fun z => h z.symm)
section
variable {K : PySem.W.Frag} {G G' W : Hp} {τ : List Sl} {σ : St}
theorem SlOk.mono (s : SlOk K G W τ σ) (e : Sub G G') : SlOk K G' W τ σ :=
  ⟨s.len, fun i d h => let ⟨v, a, b⟩ := s.val i d h; ⟨v, a, b.mono e⟩, fun i ds h => let ⟨a, vs, x, y, z⟩ := s.own i ds h; ⟨a, vs, x, y, DenO.mono e _ z⟩, s.dis⟩
/-- a slot takes a value -/
theorem SlOk.put (s : SlOk K G W τ σ) {i : Nat} {d : D} {v : V} (h : Den K G d v) : SlOk K G W (τ.set i (.v d)) (σ.set i (some v)) := by
  refine ⟨by simp [s.len], fun j e hj => ?_, fun j es hj => ?_, fun j k es fs a hj hk ha hb => ?_⟩
  · rcases get_set hj with ⟨z, hl, e1⟩ | ⟨z, hj⟩
    · subst z
      cases e1
      exact ⟨v, set_self (by rw [← s.len]; exact hl), h⟩
    · rw [set_ne z]; exact s.val j e hj
  · rcases get_set hj with ⟨z, hl, e1⟩ | ⟨z, hj⟩
    · cases e1
    · rw [set_ne z]; exact s.own j es hj
  · rcases get_set hj with ⟨z, hl, e1⟩ | ⟨z, hj⟩
    · cases e1
    · rcases get_set hk with ⟨z', hl, e1⟩ | ⟨z', hk⟩
      · cases e1
      · rw [set_ne z] at ha
        rw [set_ne z'] at hb
        exact s.dis j k es fs a hj hk ha hb
theorem SlOk.wput (s : SlOk K G W τ σ) {i : Nat} {x : Option V} : SlOk K G W (τ.set i .no) (σ.set i x) := by
  refine ⟨by simp [s.len], fun j e hj => ?_, fun j es hj => ?_, fun j k es fs a hj hk ha hb => ?_⟩
  · rcases get_set hj with ⟨z, hl, e1⟩ | ⟨z, hj⟩
    · cases e1
    · rw [set_ne z]; exact s.val j e hj
  · rcases get_set hj with ⟨z, hl, e1⟩ | ⟨z, hj⟩
    · cases e1
    · rw [set_ne z]; exact s.own j es hj
  · rcases get_set hj with ⟨z, hl, e1⟩ | ⟨z, hj⟩
    · cases e1
    · rcases get_set hk with ⟨z', hl, e1⟩ | ⟨z', hk⟩
      · cases e1
      · rw [set_ne z] at ha
        rw [set_ne z'] at hb
        exact s.dis j k es fs a hj hk ha hb
/-- a slot takes a new list of its own -/
theorem SlOk.putO (s : SlOk K G W τ σ) {i : Nat} {ds : D} {ob : HO} {p : Addr} (hp : W p = none) (h : DenO K G ds ob) : SlOk K G (upd W p ob) (τ.set i (.o ds)) (σ.set i (some (.ref p))) := by
  have np : ∀ (j : Nat) es, j ≠ i → τ[j]? = some (.o es) → ∀ a, σ[j]? = some (some (.ref a)) → a ≠ p := fun j es z hj a ha e => by
    obtain ⟨b, ws, x, y, _⟩ := s.own j es hj
    rw [ha] at x
    cases x
    rw [e, hp] at y
    cases y
  refine ⟨by simp [s.len], fun j e hj => ?_, fun j es hj => ?_, fun j k es fs a hj hk ha hb => ?_⟩
  · rcases get_set hj with ⟨z, hl, e1⟩ | ⟨z, hj⟩
    · cases e1
    · rw [set_ne z]; exact s.val j e hj
  · rcases get_set hj with ⟨z, hl, e1⟩ | ⟨z, hj⟩
    · subst z
      cases e1
      exact ⟨p, ob, set_self (by rw [← s.len]; exact hl), upd_same, h⟩
    · obtain ⟨b, ws, x, y, q⟩ := s.own j es hj
      exact ⟨b, ws, by rw [set_ne z]; exact x, by rw [upd_ne (np j es z hj b x)]; exact y, q⟩
  · rcases get_set hj with ⟨z, hl, e1⟩ | ⟨z, hj2⟩
    · rcases get_set hk with ⟨z', hl', e1'⟩ | ⟨z', hk2⟩
      · rw [z, z']
      · rw [z, set_self (by rw [← s.len]; exact hl)] at ha
        cases ha
        rw [set_ne z'] at hb
        exact absurd rfl (np k fs z' hk2 _ hb)
    · rcases get_set hk with ⟨z', hl', e1'⟩ | ⟨z', hk2⟩
      · rw [z', set_self (by rw [← s.len]; exact hl')] at hb
        cases hb
        rw [set_ne z] at ha
        exact absurd rfl (np j es z hj2 _ ha)
      · rw [set_ne z] at ha
        rw [set_ne z'] at hb
        exact s.dis j k es fs a hj2 hk2 ha hb
/-- an owned list changes -/
theorem SlOk.chg (s : SlOk K G W τ σ) {i : Nat} {ds ds' : D} {ob' : HO} {p : Addr} (hi : τ[i]? = some (.o ds)) (hp : σ[i]? = some (some (.ref p))) (h : DenO K G ds' ob') :
    SlOk K G (upd W p ob') (τ.set i (.o ds')) σ := by
  have il : i < τ.length := (List.getElem?_eq_some_iff.mp hi).1
  refine ⟨by simp [s.len], fun j e hj => ?_, fun j es hj => ?_, fun j k es fs a hj hk ha hb => ?_⟩
  · rcases get_set hj with ⟨z, hl, e1⟩ | ⟨z, hj⟩
    · cases e1
    · exact s.val j e hj
  · rcases get_set hj with ⟨z, hl, e1⟩ | ⟨z, hj⟩
    · subst z
      cases e1
      exact ⟨p, ob', hp, upd_same, h⟩
    · obtain ⟨b, ws, x, y, q⟩ := s.own j es hj
      have nb : b ≠ p := fun e => z (s.dis j i es ds b hj hi x (by rw [e]; exact hp))
      exact ⟨b, ws, x, by rw [upd_ne nb]; exact y, q⟩
  · have old : ∀ (j : Nat) es, (τ.set i (.o ds'))[j]? = some (.o es) → ∃ es', τ[j]? = some (.o es') := fun j es hj => by
      rcases get_set hj with ⟨z, hl, e1⟩ | ⟨z, hj⟩
      · subst z; exact ⟨ds, hi⟩
      · exact ⟨es, hj⟩
    obtain ⟨es', hj'⟩ := old j es hj
    obtain ⟨fs', hk'⟩ := old k fs hk
    exact s.dis j k es' fs' a hj' hk' ha hb
/-- an owned list is given up: it stands for good -/
theorem SlOk.give (s : SlOk K G W τ σ) {i : Nat} {ds : D} {ob : HO} {p : Addr} (hi : τ[i]? = some (.o ds)) (hp : σ[i]? = some (some (.ref p))) (hw : W p = some ob) (hg : G p = none) (h : DenO K G ds ob) :
    SlOk K (upd G p ob) (del W p) (τ.set i (.v ds)) σ := by
  have s' := s.mono (sub_upd (o := ob) hg)
  refine ⟨by simp [s.len], fun j e hj => ?_, fun j es hj => ?_, fun j k es fs a hj hk ha hb => ?_⟩
  · rcases get_set hj with ⟨z, hl, e1⟩ | ⟨z, hj⟩
    · subst z
      cases e1
      exact ⟨_, hp, DenO.den upd_same _ (h.mono (sub_upd hg))⟩
    · exact s'.val j e hj
  · rcases get_set hj with ⟨z, hl, e1⟩ | ⟨z, hj⟩
    · cases e1
    · obtain ⟨b, ws, x, y, q⟩ := s'.own j es hj
      have nb : b ≠ p := fun e => z (s.dis j i es ds b hj hi x (by rw [e]; exact hp))
      exact ⟨b, ws, x, by rw [del_ne nb]; exact y, q⟩
  · rcases get_set hj with ⟨z, hl, e1⟩ | ⟨z, hj⟩
    · cases e1
    · rcases get_set hk with ⟨z', hl', e1'⟩ | ⟨z', hk⟩
      · cases e1'
      · exact s.dis j k es fs a hj hk ha hb
end
end Pv

set_option Elab.async false
set_option linter.all false
set_option maxRecDepth 100000
set_option maxHeartbeats 4000000

namespace Pv
open PySem PySem.Spec L2

/-! ### the small language -/
inductive BO where | add | sub | mul | fdiv | mod | pow
inductive CO where | lt | le | gt | ge | eq | ne | is | isnot | isin | notin
inductive Ty where | int | bool | str | tuple | list | dict
inductive BF where | len | int | abs | max | min | gcd | tuple | list | sum | str
/-- what takes one value: text.upper(), x[::-1], sorted(set(x)) -/
inductive U1 where | upper | rev | sset
inductive T where | nm (i : Nat) | tp (is : List Nat)
inductive E where
  | c (d : D) | v (i : Nat) | g (k : Nat)
  | bin (o : BO) (a b : E) | neg (a : E) | not (a : E) | and (a b : E) | or (a b : E) | last (a : E) | nil
  | cmp (o : CO) (a b : E) | chain (o p : CO) (a b c : E)
  | ite (t a b : E)
  | tup (es : List E) | lst (es : List E) | dct (es : List E)
  | ix (a i : E) | sl (a lo hi : E)
  | call (f : Nat) (es : List E)
  | blt (f : BF) (es : List E)
  | isi (a : E) (ts : List Ty) (many : Bool)
  | ixo (i : Nat) (a : E) | leno (i : Nat)
  | lc (own : List (Str × Nat)) (t : T) (it : E) (c : E) (e : E)
  | callK (f : Nat) (ks : List Str) (perm : List Nat) (es : List E) | mk (f : Nat) (es : List E)
  | fld (a : E) (f : Str) | mth (a : E) (m : Str) (es : List E) | prp (a : E) (f : Str)
  | join (a b : E) | sidx (a b : E) | dget (a b : E) | ino (neg : Bool) (a : E) (i : Nat)
  | same (a b : E) | u1 (o : U1) (a : E)
  | seq (e : E) | r1 (a : E) | r2 (a b : E) | enum (a : E) | zip (a b : E)
inductive S where
  | asg (t : T) (e : E) | own (i : Nat) (es : List E) | frz (i : Nat) | app (i : Nat) (e : E)
  | ret (e : E) | retN | pass | brk | cont
  | ifs (t : E) (a b : List S)
  | for_ (t : T) (it : E) (b : List S)
  | whl (n : Nat) (t : E) (b : List S)
  | never | setf (i : Nat) (f : Str) (e : E) | newd (i : Nat) | put (i : Nat) (k e : E) | seti (i : Nat) (k e : E)

abbrev line : Nat := 16777216
def strD (x : List Nat) : D := .str x
def mulOk (i j : Int) : Bool := decide (i.natAbs.log2 + j.natAbs.log2 < 1000000)
def divOk (j : Int) : Bool := decide (j ≠ 0) && decide (j.natAbs.log2 < 9000)
def powOk (i j : Int) : Bool := decide (0 ≤ j) && decide (j ≤ 1000000) && decide (i.natAbs < 2 ^ 64)
def repOk (n : Nat) (k : Int) : Bool := decide (-(2 ^ 62) ≤ k) && decide (k < 2 ^ 62) && decide (n * k.toNat ≤ line)
def binD : BO → D → D → Option D
  | .add, .int i, .int j => some (.int (i + j))
  | .add, .str x, .str y => if x.length + y.length ≤ line then some (.str (x ++ y)) else none
  | .add, .lst x, .lst y => if x.length + y.length ≤ line then some (.lst (x ++ y)) else none
  | .add, .tup x, .tup y => if x.length + y.length ≤ line then some (.tup (x ++ y)) else none
  | .mul, .lst x, .int k => if repOk x.length k then some (.lst (List.replicate k.toNat x).flatten) else none
  | .mul, .str x, .int k => if repOk x.length k then some (.str (List.replicate k.toNat x).flatten) else none
  | .sub, .int i, .int j => some (.int (i - j))
  | .mul, .int i, .int j => if mulOk i j then some (.int (i * j)) else none
  | .fdiv, .int i, .int j => if divOk j then some (.int (i.fdiv j)) else none
  | .mod, .int i, .int j => if j ≠ 0 then some (.int (i.fmod j)) else none
  | .pow, .int i, .int j => if powOk i j then some (.int (i ^ j.toNat)) else none
  | _, _, _ => none
def scalD : D → D → Bool
  | .non, .non => true | .non, .int _ => true | .int _, .non => true | .non, .bl _ => true | .bl _, .non => true | .non, .str _ => true | .str _, .non => true
  | .int _, .int _ => true | .bl _, .bl _ => true | .str _, .str _ => true
  | .int _, .str _ => true | .str _, .int _ => true | .bl _, .str _ => true | .str _, .bl _ => true
  | _, _ => false
def eqD (x y : D) : Option Bool := if scalD x y || (D.shp x && D.shp y) then some (D.eqb x y) else none
def flatD : D → Bool
  | .non => true | .bl _ => true | .int _ => true | .str _ => true | _ => false
def inD (x : D) (ys : List D) : Option Bool := if flatD x && ys.all flatD then some (ys.any fun y => D.eqb y x) else none
def dlook : List D → List D → Key → Option D
  | k :: ks, v :: vs, q => if D.key k = some q then some v else dlook ks vs q
  | _, _, _ => none
def hasK (ks : List D) (q : Key) : Bool := ks.any fun k => decide (D.key k = some q)
def dputK (ks : List D) (q : Key) (x : D) : List D := if hasK ks q then ks else ks ++ [x]
def dputV (ks vs : List D) (q : Key) (y : D) : List D := if hasK ks q then List.zipWith (fun k v => if D.key k = some q then y else v) ks vs else vs ++ [y]
def isInD (x : D) : D → Option Bool
  | .lst ys => inD x ys
  | .tup ys => inD x ys
  | .str ys => match x with | .str [c] => some (decide (c ∈ ys)) | _ => none
  | _ => none
def isD : D → D → Option Bool
  | .bl a, .bl b => some (decide (a = b))
  | .non, .non => some true
  | .bl _, .non => some false | .int _, .non => some false | .str _, .non => some false | .lst _, .non => some false | .tup _, .non => some false | .dct _ _, .non => some false | .ins _ _ _, .non => some false
  | _, _ => none
def cmpD : CO → D → D → Option Bool
  | .lt, .int i, .int j => some (decide (i < j))
  | .le, .int i, .int j => some (decide (i ≤ j))
  | .gt, .int i, .int j => some (decide (j < i))
  | .ge, .int i, .int j => some (decide (j ≤ i))
  | .eq, x, y => eqD x y
  | .ne, x, y => (eqD x y).map not
  | .is, x, y => isD x y
  | .isnot, x, y => (isD x y).map not
  | .isin, x, y => isInD x y
  | .notin, x, y => (isInD x y).map not
  | _, _, _ => none
/-- comparing, with in over dicts -/
def cmpX (o : CO) (x : D) : D → Option Bool
  | .dct ks vs => match o with
    | .isin => (D.key x).map fun q => (dlook ks vs q).isSome
    | .notin => (D.key x).map fun q => !(dlook ks vs q).isSome
    | _ => cmpD o x (.dct ks vs)
  | y => cmpD o x y
def truth : D → Option Bool
  | .non => some false
  | .bl b => some b
  | .int i => some (i != 0)
  | .str x => if x.length ≤ line then some (!x.isEmpty) else none
  | .lst x => some (!x.isEmpty)
  | .tup x => some (!x.isEmpty)
  | _ => none
def blD : D → Option Bool
  | .bl b => some b
  | _ => none
def intD : D → Option Int
  | .int i => some i
  | _ => none
def ixD : D → D → Option D
  | .lst xs, .int i => atI xs i
  | .scr xs, .int i => (atI xs i).map .int
  | .tup xs, .int i => atI xs i
  | .str x, .int i => if x.length ≤ line then (atI x i).map fun c => .str [c] else none
  | _, _ => none
/-- an item, of a dict too -/
def ixX : D → D → Option D
  | .dct ks vs, k => (D.key k).bind fun q => dlook ks vs q
  | x, y => ixD x y
def getD' : D → D → Option D
  | .dct ks vs, k => (D.key k).map fun q => (dlook ks vs q).getD .non
  | _, _ => none
def fldOf : List Str → List D → Str → Option D
  | n :: ns, v :: vs, f => if n = f then some v else fldOf ns vs f
  | _, _, _ => none
def putN : List Str → List D → Str → List Str
  | n :: ns, _ :: vs, f => if n = f then n :: ns else n :: putN ns vs f
  | _, _, f => [f]
def putV : List Str → List D → Str → D → List D
  | n :: ns, v :: vs, f, x => if n = f then x :: vs else v :: putV ns vs f x
  | _, _, _, x => [x]
def strsD : List D → Option (List (List Nat))
  | [] => some []
  | .str x :: r => (strsD r).map (x :: ·)
  | _ => none
def joinN (s : List Nat) : List (List Nat) → List Nat
  | [] => []
  | [p] => p
  | p :: q :: r => p ++ (s ++ joinN s (q :: r))
def joinOk (s : List Nat) (ps : List (List Nat)) : Bool := decide ((ps.map (·.length)).sum + ps.length * s.length ≤ line)
def joinD : D → D → Option D
  | .str s, .lst ds => (strsD ds).bind fun ps => if joinOk s ps then some (.str (joinN s ps)) else none
  | .str s, .tup ds => (strsD ds).bind fun ps => if joinOk s ps then some (.str (joinN s ps)) else none
  | _, _ => none
def sidxD : D → D → Option D
  | .str x, .str [c] => (x.findIdx? (· == c)).map fun i => .int (i : Nat)
  | _, _ => none
def permL (perm : List Nat) (ds : List D) : List D := perm.filterMap (ds[·]?)
def cutD {α : Type} (xs : List α) (lo hi : Option Int) : List α := (xs.drop (HT.sIx xs.length 0 lo)).take (HT.sIx xs.length xs.length hi - HT.sIx xs.length 0 lo)
def slD (lo hi : Option Int) : D → Option D
  | .lst xs => some (.lst (cutD xs lo hi))
  | .tup xs => some (.tup (cutD xs lo hi))
  | .str x => if x.length ≤ line then some (.str (cutD x lo hi)) else none
  | _ => none
def allInts : List D → Option (List Int)
  | [] => some []
  | .int i :: r => (allInts r).map (i :: ·)
  | _ => none
def intS (i : Int) : List Nat := (Str.ofString (toString i)).cps.toList
def bltD : BF → List D → Option D
  | .len, [.lst x] => some (.int x.length)
  | .len, [.tup x] => some (.int x.length)
  | .len, [.scr x] => some (.int x.length)
  | .len, [.str x] => if x.length ≤ line then some (.int x.length) else none
  | .int, [.int i] => some (.int i)
  | .int, [.bl b] => some (.int (if b then 1 else 0))
  | .abs, [.int i] => some (.int (if i < 0 then -i else i))
  | .max, [.int i, .int j] => some (.int (if j > i then j else i))
  | .min, [.int i, .int j] => some (.int (if j < i then j else i))
  | .gcd, [.int i, .int j] => some (.int (Nat.gcd i.natAbs j.natAbs : Nat))
  | .tuple, [.lst x] => some (.tup x)
  | .tuple, [.tup x] => some (.tup x)
  | .list, [.lst x] => some (.lst x)
  | .list, [.tup x] => some (.lst x)
  | .sum, [.lst x] => (allInts x).map fun ns => .int ns.sum
  | .str, [.int i] => if i.natAbs.log2 < 1920 then some (.str (intS i)) else none
  | _, _ => none
def tyD : D → Option Ty
  | .int _ => some .int | .bl _ => some .bool | .str _ => some .str | .tup _ => some .tuple | .lst _ => some .list | .dct _ _ => some .dict
  | _ => none
def isi1 (d : D) : Ty → Bool
  | .int => match d with | .int _ => true | .bl _ => true | _ => false
  | .bool => match d with | .bl _ => true | _ => false
  | .str => match d with | .str _ => true | _ => false
  | .tuple => match d with | .tup _ => true | _ => false
  | .list => match d with | .lst _ => true | _ => false
  | .dict => match d with | .dct _ _ => true | _ => false
def isIns : D → Bool
  | .ins _ _ _ => true
  | .scr _ => true
  | _ => false
def insI (K : List Str) : D → Option D
  | .ins c _ _ => if c ∈ K then some (.bl false) else none
  | _ => none
mutual
/-- the same tree -/
def D.beq : D → D → Bool
  | .non, b => (match b with | .non => true | _ => false)
  | .bl a, b => (match b with | .bl b => decide (a = b) | _ => false)
  | .int a, b => (match b with | .int b => decide (a = b) | _ => false)
  | .str a, b => (match b with | .str b => decide (a = b) | _ => false)
  | .lst a, b => (match b with | .lst b => D.beqL a b | _ => false)
  | .tup a, b => (match b with | .tup b => D.beqL a b | _ => false)
  | .dct a c, b => (match b with | .dct b d => D.beqL a b && D.beqL c d | _ => false)
  | .ins _ _ _, _ => false
  | .scr _, _ => false
def D.beqL : List D → List D → Bool
  | [], b => b.isEmpty
  | a :: r, b => (match b with | b :: s => D.beq a b && D.beqL r s | [] => false)
end
def putI (k : Int) : List Int → List Int
  | [] => [k]
  | j :: r => if k < j then k :: j :: r else if k = j then j :: r else j :: putI k r
/-- in order, each once -/
def ssetI (ns : List Int) : List Int := ns.foldr putI []
def u1D : U1 → D → Option D
  | .upper, .str x => if x.length ≤ 5592405 then some (.str (Txt.upper (mkS x)).cps.toList) else none
  | .rev, .lst x => some (.lst x.reverse)
  | .rev, .tup x => some (.tup x.reverse)
  | .rev, .str x => if x.length ≤ line then some (.str x.reverse) else none
  | .sset, .lst x => (allInts x).bind fun ns => if ns.length < 60 then some (.lst ((ssetI ns).map .int)) else none
  | .sset, .tup x => (allInts x).bind fun ns => if ns.length < 60 then some (.lst ((ssetI ns).map .int)) else none
  | _, _ => none
def setAll : List Nat → List D → List Sl → Option (List Sl)
  | [], [], σ => some σ
  | i :: is, d :: ds, σ => setAll is ds (σ.set i (.v d))
  | _, _, _ => none
def setT : T → D → List Sl → Option (List Sl)
  | .nm i, d, σ => some (σ.set i (.v d))
  | .tp is, .tup ds, σ => setAll is ds σ
  | _, _, _ => none
def wipeD (σ : List Sl) : List Nat → List Sl
  | [] => σ
  | v :: vs => (wipeD σ vs).set v .no
def seqD : D → Option (List D)
  | .lst xs => some xs
  | .scr xs => some (xs.map .int)
  | .tup xs => some xs
  | .str x => some (x.map fun c => .str [c])
  | _ => none
def rngD (lo : Int) : Nat → List D
  | 0 => []
  | n + 1 => .int lo :: rngD (lo + 1) n
def okR (i : Int) : Bool := decide (-(2 ^ 62) ≤ i) && decide (i < 2 ^ 62)
def enumD (k : Nat) : List D → List D
  | [] => []
  | d :: r => .tup [.int k, d] :: enumD (k + 1) r
def zipD : List D → List D → List D
  | a :: r, b :: s => .tup [a, b] :: zipD r s
  | _, _ => []
def getO (σ : List Sl) (i : Nat) : Option (List D) := match σ[i]? with | some (.o (.lst ds)) => some ds | _ => none
def getOd (σ : List Sl) (i : Nat) : Option (List D × List D) := match σ[i]? with | some (.o (.dct ks vs)) => some (ks, vs) | _ => none
def getOi (σ : List Sl) (i : Nat) : Option (Str × List Str × List D) := match σ[i]? with | some (.o (.ins c ns vs)) => some (c, ns, vs) | _ => none
def getV (σ : List Sl) (i : Nat) : Option D := match σ[i]? with | some (.v d) => some d | _ => none
def lcL (t : T) (c e : List Sl → Option D) (σ : List Sl) : List D → Option (List D)
  | [] => some []
  | d :: ds => (setT t d σ).bind fun σ1 => ((c σ1).bind truth).bind fun b =>
      bif b then (e σ1).bind fun x => (lcL t c e σ ds).map (x :: ·) else lcL t c e σ ds
def distinctK : List (Option Key) → Bool
  | [] => true
  | none :: _ => false
  | k :: r => (r.all fun j => decide (j ≠ k)) && distinctK r
mutual
/-- lists, tuples, dicts of flat items, nested less than n deep -/
def D.deep : D → Nat → Bool
  | .non, _ => true
  | .bl _, _ => true
  | .int _, _ => true
  | .str _, _ => true
  | .lst ds, n => (match n with | 0 => false | n + 1 => D.deepL ds n)
  | .tup ds, n => (match n with | 0 => false | n + 1 => D.deepL ds n)
  | .dct ks ds, n => (match n with | 0 => false | n + 1 => distinctK (ks.map D.key) && D.deepL ds n)
  | .ins _ _ _, _ => false
  | .scr _, _ => false
def D.deepL : List D → Nat → Bool
  | [], _ => true
  | d :: ds, n => D.deep d n && D.deepL ds n
end
def sameD : D → D → Option D
  | .lst xs, .lst ys => if D.beqL xs ys && D.deepL xs 40 then some (.bl true) else none
  | _, _ => none
def dctD (ks vs : List D) : Option D := if ks.length = vs.length && decide (ks.length ≤ 15) && distinctK (ks.map D.key) then some (.dct ks vs) else none

def evens : List D → List D
  | a :: _ :: r => a :: evens r
  | _ => []
def odds : List D → List D
  | _ :: b :: r => b :: odds r
  | _ => []
/-- what stands fast for a def: its callees by number, the module's constants by number -/
structure Sm where
  F : Nat → List D → Option D
  C : Nat → Option D
  /-- fields that no class has as its own, methods, properties (by class) -/
  L : List (Str × Str) := []
  M : List (Str × Str × Nat) := []
  P : List (Str × Str × Nat) := []
  /-- classes whose instances may be asked for a built-in type -/
  K : List Str := []
def findM : List (Str × Str × Nat) → Str → Str → Option Nat
  | (c, m, k) :: r, c', m' => if c = c' ∧ m = m' then some k else findM r c' m'
  | [], _, _ => none

mutual
def evE (Z : Sm) : E → List Sl → Option D
  | .c d, _ => some d
  | .v i, σ => getV σ i
  | .g k, _ => Z.C k
  | .bin o a b, σ => (evE Z a σ).bind fun x => (evE Z b σ).bind fun y => binD o x y
  | .neg a, σ => (evE Z a σ).bind fun x => (intD x).map fun i => .int (-i)
  | .not a, σ => ((evE Z a σ).bind truth).map fun b => .bl (!b)
  | .and a b, σ => ((evE Z a σ).bind blD).bind fun k => bif k then evE Z b σ else some (.bl false)
  | .or a b, σ => ((evE Z a σ).bind blD).bind fun k => bif k then some (.bl true) else evE Z b σ
  | .last a, σ => evE Z a σ
  | .cmp o a b, σ => (evE Z a σ).bind fun x => (evE Z b σ).bind fun y => (cmpX o x y).map .bl
  | .chain o p a b c, σ => (evE Z a σ).bind fun x => (evE Z b σ).bind fun y => (cmpD o x y).bind fun k => bif k then (evE Z c σ).bind fun z => (cmpD p y z).map .bl else some (.bl false)
  | .ite t a b, σ => ((evE Z t σ).bind truth).bind fun k => bif k then evE Z a σ else evE Z b σ
  | .tup es, σ => (evL Z es σ).bind fun ds => if ds.length ≤ line then some (.tup ds) else none
  | .lst es, σ => (evL Z es σ).bind fun ds => if ds.length ≤ line then some (.lst ds) else none
  | .dct es, σ => (evL Z es σ).bind fun ds => dctD (evens ds) (odds ds)
  | .ix a b, σ => (evE Z a σ).bind fun x => (evE Z b σ).bind fun y => ixX x y
  | .nil, _ => none
  | .sl a lo hi, σ => (evE Z a σ).bind fun x => (evP Z lo σ).bind fun l => (evP Z hi σ).bind fun h => slD l h x
  | .call f es, σ => (evL Z es σ).bind fun ds => Z.F f ds
  | .blt f es, σ => (evL Z es σ).bind fun ds => bltD f ds
  | .isi a ts _, σ => (evE Z a σ).bind fun x => if isIns x then insI Z.K x else some (.bl (ts.any (isi1 x)))
  | .ixo i a, σ => (getO σ i).bind fun xs => ((evE Z a σ).bind intD).bind fun k => atI xs k
  | .leno i, σ => (getO σ i).map fun xs => .int xs.length
  | .lc own t it c e, σ => (evI Z it σ).bind fun ds => if ds.length ≤ line then (lcL t (evE Z c) (evE Z e) (wipeD σ (own.map fun p => p.2)) ds).map .lst else none
  | .callK f _ perm es, σ => (evL Z es σ).bind fun ds => Z.F f (permL perm ds)
  | .mk f es, σ => (evL Z es σ).bind fun ds => Z.F f ds
  | .fld a f, σ => (evE Z a σ).bind fun x => match x with
    | .ins c ns vs => if (c, f) ∈ Z.L then fldOf ns vs f else none
    | _ => none
  | .mth a m es, σ => (evE Z a σ).bind fun x => (evL Z es σ).bind fun ds => match x with
    | .ins c ns vs => if m ∈ ns then none else (findM Z.M c m).bind fun k => Z.F k (x :: ds)
    | _ => none
  | .prp a f, σ => (evE Z a σ).bind fun x => match x with
    | .ins c _ _ => (findM Z.P c f).bind fun k => Z.F k [x]
    | _ => none
  | .join a b, σ => (evE Z a σ).bind fun x => (evE Z b σ).bind fun y => joinD x y
  | .sidx a b, σ => (evE Z a σ).bind fun x => (evE Z b σ).bind fun y => sidxD x y
  | .dget a b, σ => (evE Z a σ).bind fun x => (evE Z b σ).bind fun y => getD' x y
  | .ino neg a i, σ => (evE Z a σ).bind fun x => (D.key x).bind fun q => (getOd σ i).map fun kv => .bl ((dlook kv.1 kv.2 q).isSome != neg)
  | .same a b, σ => (evE Z a σ).bind fun x => (evE Z b σ).bind fun y => sameD x y
  | .u1 o a, σ => (evE Z a σ).bind fun x => u1D o x
  | .seq _, _ => none
  | .r1 _, _ => none
  | .r2 _ _, _ => none
  | .enum _, _ => none
  | .zip _ _, _ => none
def evP (Z : Sm) : E → List Sl → Option (Option Int)
  | .nil, _ => some none
  | .last e, σ => (evE Z e σ).bind fun d => (intD d).map some
  | _, _ => none
def evI (Z : Sm) : E → List Sl → Option (List D)
  | .seq e, σ => (evE Z e σ).bind seqD
  | .r1 a, σ => ((evE Z a σ).bind intD).bind fun i => if okR i then some (rngD 0 i.toNat) else none
  | .r2 a b, σ => ((evE Z a σ).bind intD).bind fun i => ((evE Z b σ).bind intD).bind fun j => if okR i && okR j then some (rngD i (j - i).toNat) else none
  | .enum a, σ => (evE Z a σ).bind fun x => match x with | .lst ds => some (enumD 0 ds) | .tup ds => some (enumD 0 ds) | .str ds => some (enumD 0 (ds.map fun c => .str [c])) | _ => none
  | .zip a b, σ => (evE Z a σ).bind fun x => (evE Z b σ).bind fun y => match x, y with | .lst ds, .lst es => some (zipD ds es) | .tup ds, .tup es => some (zipD ds es) | .str ds, .str es => some (zipD (ds.map fun c => .str [c]) (es.map fun c => .str [c])) | _, _ => none
  | _, _ => none
def evL (Z : Sm) : List E → List Sl → Option (List D)
  | [], _ => some []
  | e :: es, σ => (evE Z e σ).bind fun d => (evL Z es σ).map (d :: ·)
end

inductive Out where
  | nx (σ : List Sl) | rt (d : D) | bk (σ : List Sl) | ct (σ : List Sl)
def frzD (σ : List Sl) (i : Nat) : List Sl := match σ[i]? with | some (.o d) => σ.set i (.v d) | _ => σ
def forL (t : T) (f : List Sl → Option Out) : List D → List Sl → Option Out
  | [], σ => some (.nx σ)
  | d :: ds, σ => (setT t d σ).bind fun σ1 => (f σ1).bind fun o => match o with
    | .nx σ2 => forL t f ds σ2
    | .ct σ2 => forL t f ds σ2
    | .bk σ2 => some (.nx σ2)
    | .rt d => some (.rt d)
def whlL (c : List Sl → Option D) (f : List Sl → Option Out) : Nat → List Sl → Option Out
  | 0, _ => none
  | n + 1, σ => ((c σ).bind truth).bind fun b => bif b then (f σ).bind fun o => match o with
      | .nx σ2 => whlL c f n σ2
      | .ct σ2 => whlL c f n σ2
      | .bk σ2 => some (.nx σ2)
      | .rt d => some (.rt d)
    else some (.nx σ)
mutual
def evS (Z : Sm) : S → List Sl → Option Out
  | .asg t e, σ => (evE Z e σ).bind fun d => (setT t d σ).map .nx
  | .own i es, σ => (evL Z es σ).bind fun ds => if ds.length ≤ line then some (.nx (σ.set i (.o (.lst ds)))) else none
  | .frz i, σ => some (.nx (frzD σ i))
  | .app i e, σ => (evE Z e σ).bind fun d => (getO σ i).bind fun xs => if xs.length < line then some (.nx (σ.set i (.o (.lst (xs ++ [d]))))) else none
  | .ret e, σ => (evE Z e σ).map .rt
  | .retN, _ => some (.rt .non)
  | .pass, σ => some (.nx σ)
  | .brk, σ => some (.bk σ)
  | .cont, σ => some (.ct σ)
  | .ifs t a b, σ => ((evE Z t σ).bind truth).bind fun k => bif k then evSs Z a σ else evSs Z b σ
  | .for_ t it b, σ => (evI Z it σ).bind fun ds => forL t (evSs Z b) ds σ
  | .whl n t b, σ => whlL (evE Z t) (evSs Z b) n σ
  | .never, _ => none
  | .setf i f e, σ => (evE Z e σ).bind fun d => (getOi σ i).bind fun o => if (o.1, f) ∈ Z.L ∧ o.2.1.length < 1000 then some (.nx (σ.set i (.o (.ins o.1 (putN o.2.1 o.2.2 f) (putV o.2.1 o.2.2 f d))))) else none
  | .newd i, σ => some (.nx (σ.set i (.o (.dct [] []))))
  | .put i k e, σ => (evE Z e σ).bind fun d => (evE Z k σ).bind fun x => (D.key x).bind fun q => (getOd σ i).bind fun kv => if kv.1.length < line then some (.nx (σ.set i (.o (.dct (dputK kv.1 q x) (dputV kv.1 kv.2 q d))))) else none
  | .seti i k e, σ => (evE Z e σ).bind fun d => ((evE Z k σ).bind intD).bind fun j => (getO σ i).bind fun xs => (ixN xs.length j).map fun n => .nx (σ.set i (.o (.lst (xs.set n d))))
def evSs (Z : Sm) : List S → List Sl → Option Out
  | [], σ => some (.nx σ)
  | s :: r, σ => (evS Z s σ).bind fun o => match o with
    | .nx σ2 => evSs Z r σ2
    | .rt d => some (.rt d)
    | .bk σ2 => some (.bk σ2)
    | .ct σ2 => some (.ct σ2)
end
def startD (m : Nat) (ds : List D) : List Sl := ds.map Sl.v ++ List.replicate (m - ds.length) Sl.no
def endD : Out → Option D
  | .rt d => some d
  | .nx _ => some .non
  | _ => none
/-- a def's value: k parameters, m slots -/
def evF (Z : Sm) (b : List S) (k m : Nat) (ds : List D) : Option D := if ds.length = k then (evSs Z b (startD m ds)).bind endD else none
/-- an __init__'s value: the instance (class c) that it makes -/
def evI0 (c : Str) (Z : Sm) (b : List S) (k m : Nat) (ds : List D) : Option D := if ds.length + 1 = k then (evSs Z b (.o (.ins c [] []) :: startD (m - 1) ds)).bind fun o => match o with
  | .nx (.o d :: _) => some d
  | _ => none
  else none
end Pv

set_option Elab.async false
set_option linter.all false
set_option maxRecDepth 100000
set_option maxHeartbeats 4000000

namespace Pv
open PySem PySem.Spec L2

/-! ### what may be run: readings chosen where they are used -/
def TU (X : Cx) (e : Expr) : TE := fun σ H Q => ∃ t, PE X e t ∧ t σ H Q
def TUt (X : Cx) (e : Expr) : TT := fun σ H Q => ∃ t, PT X e t ∧ t σ H Q
def TUw (X : Cx) (e : Expr) : TT := fun σ H Q => ∃ t, PW X e t ∧ t σ H Q
def TUa (X : Cx) (es : List Expr) : TA := fun σ H Q => ∃ t, PA X es t ∧ t σ H Q
def TUi (X : Cx) (tg e : Expr) : TI := fun σ H R => ∃ t, PI X tg e t ∧ t σ H R
def TUg (X : Cx) (tg : Expr) : TG := fun v σ H Q => ∃ t, PG X tg t ∧ t v σ H Q
def TUgs (X : Cx) (tgs : List Expr) : TGs := fun vs σ H Q => ∃ t, PGs X tgs t ∧ t vs σ H Q
def TUts (X : Cx) (es : List Expr) : TT := fun σ H Q => ∃ t, PTs X es t ∧ t σ H Q
def TUs (X : Cx) (s : Stmt) : TS := fun D σ H => ∃ t, PS X s t ∧ t D σ H
def TUss (X : Cx) (s : List Stmt) : TS := fun D σ H => ∃ t, PSs X s t ∧ t D σ H
section
variable {X : Cx}
theorem pe_tu {e : Expr} : PE X e (TU X e) := ⟨fun pins s σ H Q I ⟨_, p, h⟩ => p.run pins s σ H Q I h⟩
theorem pt_tu {e : Expr} : PT X e (TUt X e) := ⟨fun pins s σ H Q I ⟨_, p, h⟩ => p.run pins s σ H Q I h⟩
theorem pw_tu {e : Expr} : PW X e (TUw X e) := ⟨fun w pins s σ H Q I ⟨_, p, h⟩ => p.run w pins s σ H Q I h⟩
theorem pa_tu {e : List Expr} : PA X e (TUa X e) := ⟨fun pos pins s σ H Q I ⟨_, p, h⟩ => p.run pos pins s σ H Q I h⟩
theorem pi_tu {tg e : Expr} : PI X tg e (TUi X tg e) := ⟨fun pins s σ H R I ⟨_, p, h⟩ => p.run pins s σ H R I h⟩
theorem pg_tu {e : Expr} : PG X e (TUg X e) := ⟨fun pins s σ H v u Q I r ⟨_, p, h⟩ => p.run pins s σ H v u Q I r h⟩
theorem pgs_tu {e : List Expr} : PGs X e (TUgs X e) := ⟨fun pins s σ H v u Q I r ⟨_, p, h⟩ => p.run pins s σ H v u Q I r h⟩
theorem pts_tu {e : List Expr} : PTs X e (TUts X e) := ⟨fun pins s σ H Q I ⟨_, p, h⟩ => p.run pins s σ H Q I h⟩
theorem ps_tu {e : Stmt} : PS X e (TUs X e) := ⟨fun pins s σ H D I ⟨_, p, h⟩ => p.run pins s σ H D I h⟩
theorem pss_tu {e : List Stmt} : PSs X e (TUss X e) := ⟨fun pins s σ H D I ⟨_, p, h⟩ => p.run pins s σ H D I h⟩
def UOp (X : Cx) (f : Value → Value → Sem Value) : R2 := fun x y H Q => ∃ r, OpR X f r ∧ r x y H Q
theorem opR_u {f : Value → Value → Sem Value} : OpR X f (UOp X f) := fun pins s σ H x y v u Q I rx ry ⟨_, p, h⟩ => p pins s σ H x y v u Q I rx ry h
def UIx (X : Cx) : R2 := fun x y H Q => ∃ r, IxR X r ∧ r x y H Q
theorem ixR_u : IxR X (UIx X) := fun value slice pins s σ H x y v u Q I rx ry ⟨_, p, h⟩ e => p value slice pins s σ H x y v u Q I rx ry h e
def UCall (X : Cx) (f : Value) : List V → Hp → VK → Prop := fun xs H Q => ∃ r, CallR X f r ∧ r xs H Q
theorem callR_u {f : Value} : CallR X f (UCall X f) := fun pins s σ H xs us Q I r ⟨_, p, h⟩ => p pins s σ H xs us Q I r h
def USl (X : Cx) : V → Option Int → Option Int → Hp → VK → Prop := fun x l h H Q => ∃ r, SlR X r ∧ r x l h H Q
theorem slR_u : SlR X (USl X) := fun pins s σ H x v vl vu lo hi sl Q I rx hs pl pu ⟨_, p, h⟩ => p pins s σ H x v vl vu lo hi sl Q I rx hs pl pu h
end

/-! ### what stands fast -/
structure Stat where
  N : List Str
  Z : Sm
  fns : List (Nat × Str)
  cns : List (Nat × Str)
  bl : List Str
  gcd : Bool
  lv : Nat
  /-- calls by keywords alone: callee, its name, the keywords, the places of the parameters among them -/
  kws : List (Nat × Str × List Str × List Nat) := []
  /-- classes made -/
  mks : List (Nat × Str) := []
def spF (K : PySem.W.Frag) (F : List D → Option D) : Sp := fun vs H Q _ => ∃ ds d G, Sub G H ∧ DenL K G ds vs ∧ F ds = some d ∧
  ∀ v G' H', Sub H H' → Sub G G' → Sub G' H' → (∀ a o, H a = some o → G' a = G a) → Den K G' d v → Q v H'
structure FnAt (P : Program) (w : World) (K : PySem.W.Frag) (mg : Str → Option Value) (base : Heap) (lv : Nat) (x : Str) (F : List D → Option D) : Prop where
  ex : ∃ (f : Addr) (fd : FuncData) (ps : List Str), mg x = some (.ref f) ∧ PySem.W.keepIn K (.ref f) = true ∧ Binds K fd ps [] ∧ FnOk P w K mg base CX0 lv f fd ps (spF K F)
/-- the promise of an __init__ of the class c: from data to the instance -/
def spI (K : PySem.W.Frag) (c : Str) (F : List D → Option D) : Sp := fun vs H Q _ => ∃ x C dx us ds ns fs G, vs = .ref x :: us ∧ H x = some (.ins C dx []) ∧ PySem.W.nsIn K mainGlobals c = some (some (.ref C)) ∧ Sub G H ∧ G x = none ∧ DenL K G ds us ∧ F ds = some (.ins c ns fs) ∧
  ∀ o G' H', (∀ a u, a ≠ x → H a = some u → H' a = some u) → H' x = some o → Sub G G' → Sub G' H' → (∀ a u, a ≠ x → H a = some u → G' a = G a) → G' x = some o → DenO K G' (.ins c ns fs) o → Q .non H'
structure MtAt (P : Program) (w : World) (K : PySem.W.Frag) (mg : Str → Option Value) (base : Heap) (lv : Nat) (c m : Str) (F : List D → Option D) : Prop where
  ex : ∃ (C f : Addr) (fd : FuncData) (ps : List Str), PySem.W.nsIn K mainGlobals c = some (some (.ref C)) ∧ Cls K C ∧ Meth K C m f ∧ Binds K fd ps [] ∧ FnOk P w K mg base CX0 lv f fd ps (spF K F)
structure PrAt (P : Program) (w : World) (K : PySem.W.Frag) (mg : Str → Option Value) (base : Heap) (lv : Nat) (c m : Str) (F : List D → Option D) : Prop where
  ex : ∃ (C p f : Addr) (fd : FuncData) (ps : List Str) (k : Nat), k + 1 ≤ lv ∧ PySem.W.nsIn K mainGlobals c = some (some (.ref C)) ∧ Cls K C ∧ PropOf K C m p f ∧ Binds K fd ps [] ∧ FnOk P w K mg base CX0 k f fd ps (spF K F)
structure MkAt (P : Program) (w : World) (K : PySem.W.Frag) (mg : Str → Option Value) (base : Heap) (lv : Nat) (c : Str) (F : List D → Option D) : Prop where
  ex : ∃ (C f : Addr) (fd : FuncData) (ps : List Str) (k : Nat), k + 1 ≤ lv ∧ PySem.W.nsIn K mainGlobals c = some (some (.ref C)) ∧ mg c = some (.ref C) ∧ Mk K C f ∧ Binds K fd ps [] ∧ FnOk P w K mg base CX0 k f fd ps (spI K c F) ∧ ∀ ds d, F ds = some d → ∃ ns fs, d = .ins c ns fs
structure KwAt (P : Program) (w : World) (K : PySem.W.Frag) (mg : Str → Option Value) (base : Heap) (lv : Nat) (x : Str) (ks : List Str) (perm : List Nat) (F : List D → Option D) : Prop where
  ex : ∃ (f : Addr) (fd : FuncData) (ps : List Str) (g : List Value → List Value → List Value) (gV : List V → List V → List V), mg x = some (.ref f) ∧ PySem.W.keepIn K (.ref f) = true ∧ KBn K fd ps 0 ks g gV ∧ (∀ zs, gV [] zs = perm.filterMap (zs[·]?)) ∧ FnOk P w K mg base CX0 lv f fd ps (spF K F)
structure FdAt (K : PySem.W.Frag) (c f : Str) : Prop where
  ex : ∃ C, PySem.W.nsIn K mainGlobals c = some (some (.ref C)) ∧ Cls K C ∧ NoAttr K C f
/-- an own class, no built-in type among its bases but object -/
structure ClAt (K : PySem.W.Frag) (c : Str) : Prop where
  ex : ∃ C, PySem.W.nsIn K mainGlobals c = some (some (.ref C)) ∧ Cls K C ∧ PySem.W.findIn K (.ref C) "__class__" = some (some (.builtin "object.__class__")) ∧ PySem.W.specialIn K (.builtin "object.__class__") "__get__" = some (some (.builtin "getset_descriptor.__get__")) ∧
    PySem.W.takesIn K (.builtin "object.__class__") = some true ∧ PySem.W.mroIn K C (.type "object") = some true ∧ PySem.W.kitOne K (.ref C) (.type "int") = some false ∧ PySem.W.kitOne K (.ref C) (.type "bool") = some false ∧ PySem.W.kitOne K (.ref C) (.type "str") = some false ∧
    PySem.W.kitOne K (.ref C) (.type "tuple") = some false ∧ PySem.W.kitOne K (.ref C) (.type "list") = some false ∧ PySem.W.kitOne K (.ref C) (.type "dict") = some false
structure XOk (Y : Stat) (sc : Scope) (fc : Str → Bool) (X : Cx) : Prop where
  calm : X.calm = true
  nd : X.N.Nodup
  eN : X.N = Y.N
  sc : X.env.scope = sc
  room : Room Y.lv X.A
  xe : X.xe = fun _ _ => False
  fn : ∀ x, fc x = true → X.fn x = true
  fns : ∀ i x, (i, x) ∈ Y.fns → FnAt X.prog X.w X.K X.mg X.base Y.lv x (Y.Z.F i)
  cns : ∀ k x, (k, x) ∈ Y.cns → ∃ u v d, X.mg x = some u ∧ RelV v u ∧ Y.Z.C k = some d ∧ ∀ G, Den X.K G d v
  bl : ∀ x ∈ Y.bl, X.mg x = none
  gcd : Y.gcd = true → X.mg "gcd" = some (.builtin "math.gcd")
  fld : ∀ c f, (c, f) ∈ Y.Z.L → FdAt X.K c f
  mth : ∀ c m k, findM Y.Z.M c m = some k → MtAt X.prog X.w X.K X.mg X.base Y.lv c m (Y.Z.F k)
  prp : ∀ c m k, findM Y.Z.P c m = some k → PrAt X.prog X.w X.K X.mg X.base Y.lv c m (Y.Z.F k)
  mks : ∀ k c, (k, c) ∈ Y.mks → MkAt X.prog X.w X.K X.mg X.base Y.lv c (Y.Z.F k)
  cl : ∀ c ∈ Y.Z.K, ClAt X.K c
  kws : ∀ k x ks perm, (k, x, ks, perm) ∈ Y.kws → KwAt X.prog X.w X.K X.mg X.base Y.lv x ks perm (Y.Z.F k)
section
variable {Y : Stat} {sc : Scope} {fc : Str → Bool} {X : Cx}
theorem XOk.gl (ok : XOk Y sc fc X) {x : Str} (h : sc.names.lookup x = some .globalImplicit) : Gl X x := by
  show X.env.scope.names.lookup x = _
  rw [ok.sc]; exact h
theorem XOk.vis (ok : XOk Y sc fc X) {x : Str} (h : Vis sc x) : Vis X.env.scope x := by rw [ok.sc]; exact h
theorem XOk.loc (ok : XOk Y sc fc X) {x : Str} (h : Loc sc x) : Loc X.env.scope x := by rw [ok.sc]; exact h
theorem XOk.hf (ok : XOk Y sc fc X) {x : Str} (h : (fc x || decide (sc.names.lookup x = some .local)) = true) : X.fn x = true ∨ X.env.scope.names.lookup x = some .local := by
  rw [Bool.or_eq_true, decide_eq_true_eq] at h
  rcases h with h | h
  · exact .inl (ok.fn x h)
  · right; rw [ok.sc]; exact h
theorem XOk.never (ok : XOk Y sc fc X) : PassesOwn (model X.prog X.w) X.A X.env X.xe := by
  rw [ok.xe]; exact PassesOwn.never
theorem XOk.blk (ok : XOk Y sc fc X) {s : Shared} {H : Hp} {scope : Scope} {cl : List (Str × Addr)} {C : Addr} {fp : List Addr} :
    XOk Y (relS scope sc) (fun x => scope.names.lookup x == some .cell) (X.blk s H scope (compEnvC scope cl C X.env) fp) := by
  refine ⟨ok.calm, ok.nd, ok.eN, ?_, ok.room, rfl, fun x h => h, ok.fns, ok.cns, ok.bl, ok.gcd, ok.fld, ok.mth, ok.prp, ok.mks, ok.cl, ok.kws⟩
  show relS scope X.env.scope = relS scope sc
  rw [ok.sc]
end

/-! ### the judgements -/
section
variable (K : PySem.W.Frag) (H0 G0 G W : Hp)
def EQ (d : D) (Q : VK) : Prop := ∀ v G' H', Sub G G' → Wd H0 G0 G' W H' → Den K G' d v → Q v H'
def BQ (b : Bool) (Q : Bool → Hp → Prop) : Prop := ∀ G' H', Sub G G' → Wd H0 G0 G' W H' → Q b H'
def AQ (ds : List D) (Q : List V → Hp → Prop) : Prop := ∀ vs G' H', Sub G G' → Wd H0 G0 G' W H' → DenL K G' ds vs → Q vs H'
end
section
variable (Y : Stat) (sc : Scope) (fc : Str → Bool)
structure SE (e : Expr) (f : List Sl → Option D) : Prop where
  run : ∀ X, XOk Y sc fc X → ∀ H0 G0 G W H τ σ d, Wd H0 G0 G W H → SlOk X.K G W τ σ → f τ = some d → ∀ Q, EQ X.K H0 G0 G W d Q → TU X e σ H Q
structure ST (e : Expr) (f : List Sl → Option Bool) : Prop where
  run : ∀ X, XOk Y sc fc X → ∀ H0 G0 G W H τ σ b, Wd H0 G0 G W H → SlOk X.K G W τ σ → f τ = some b → ∀ Q, BQ H0 G0 G W b Q → TUt X e σ H Q
structure SW (e : Expr) (f : List Sl → Option Bool) : Prop where
  run : ∀ X, XOk Y sc fc X → ∀ H0 G0 G W H τ σ b, Wd H0 G0 G W H → SlOk X.K G W τ σ → f τ = some b → ∀ Q, BQ H0 G0 G W b Q → TUw X e σ H Q
structure SA (es : List Expr) (f : List Sl → Option (List D)) : Prop where
  run : ∀ X, XOk Y sc fc X → ∀ H0 G0 G W H τ σ ds, Wd H0 G0 G W H → SlOk X.K G W τ σ → f τ = some ds → ∀ Q, AQ X.K H0 G0 G W ds Q → TUa X es σ H Q
structure SI (tg e : Expr) (f : List Sl → Option (List D)) : Prop where
  run : ∀ X, XOk Y sc fc X → ∀ H0 G0 G W H τ σ ds, Wd H0 G0 G W H → SlOk X.K G W τ σ → f τ = some ds → ∀ R : L2.It → Hp → Prop,
    (∀ J n Gp Yp G' H', Sub G G' → Wd H0 G0 G' W H' → Walk J n Gp Yp → n = ds.length → (∀ H'', Sub G' H'' → Gp H'') →
      (∀ i H1 x H2 G1 W1, i < n → Sub G' G1 → Wd H0 G0 G1 W1 H1 → Yp i H1 x H2 → ∃ G2 d, Sub G1 G2 ∧ Wd H0 G0 G2 W1 H2 ∧ ds[i]? = some d ∧ Den X.K G2 d x) → R J H') → TUi X tg e σ H R
def tixs : T → List Nat
  | .nm i => [i]
  | .tp is => is
structure SG (tg : Expr) (t : T) : Prop where
  run : ∀ X, XOk Y sc fc X → ∀ H0 G0 G W H τ σ d v τ', Wd H0 G0 G W H → SlOk X.K G W τ σ → Den X.K G d v → setT t d τ = some τ' → ∀ Q : L2.St → Hp → Prop,
    (∀ σ', SlOk X.K G W τ' σ' → (∀ vs, (∀ i ∈ tixs t, i ∈ vs) → wipe σ' vs = wipe σ vs) → Q σ' H) → TUg X tg v σ H Q
def OQ (K : PySem.W.Frag) (H0 G0 G : Hp) (o : Out) (D : Ends) : Prop := match o with
  | .nx τ => ∀ σ G' W' H', Sub G G' → Wd H0 G0 G' W' H' → SlOk K G' W' τ σ → D.nx σ H'
  | .bk τ => ∀ σ G' W' H', Sub G G' → Wd H0 G0 G' W' H' → SlOk K G' W' τ σ → D.bk σ H'
  | .ct τ => ∀ σ G' W' H', Sub G G' → Wd H0 G0 G' W' H' → SlOk K G' W' τ σ → D.ct σ H'
  | .rt d => ∀ v G' W' H', Sub G G' → Wd H0 G0 G' W' H' → Den K G' d v → D.rt v H'
structure SS (s : Stmt) (f : List Sl → Option Out) : Prop where
  run : ∀ X, XOk Y sc fc X → ∀ H0 G0 G W H τ σ o, Wd H0 G0 G W H → SlOk X.K G W τ σ → f τ = some o → ∀ D, OQ X.K H0 G0 G o D → TUs X s D σ H
structure SSs (s : List Stmt) (f : List Sl → Option Out) : Prop where
  run : ∀ X, XOk Y sc fc X → ∀ H0 G0 G W H τ σ o, Wd H0 G0 G W H → SlOk X.K G W τ σ → f τ = some o → ∀ D, OQ X.K H0 G0 G o D → TUss X s D σ H
end

/-! ### syntax -/
def notStar : Expr → Bool
  | .Starred .. => false
  | _ => true
def notComp : Expr → Bool
  | .ListComp .. => false | .SetComp .. => false | .DictComp .. => false
  | _ => true
def notSet : Expr → Bool
  | .Set .. => false
  | _ => true
def notSlice : Expr → Bool
  | .Slice .. => false
  | _ => true
/-- its test is its value's truth -/
def plainTest : Expr → Bool
  | .UnaryOp .. => false | .BoolOp .. => false | .IfExp .. => false | .Compare .. => false
  | _ => true
theorem star_cons {e : Expr} {es : List Expr} {env : Env} (h : notStar e = true) : starEach (e :: es) env = (false, eval e env) :: starEach es env := by
  cases e <;> first | rfl | simp [notStar] at h
theorem star_any {env : Env} {pos : Pos} : ∀ {es : List Expr}, es.all notStar = true → (backTo pos (starEach es env)).any (·.1) = false
  | [], _ => rfl
  | e :: es, h => by
    simp only [List.all_cons, Bool.and_eq_true] at h
    rw [star_cons h.1]
    have := star_any (env := env) (pos := pos) h.2
    simpa [backTo] using this
theorem swaps_no {e : Expr} {t : Option Expr} {l : Nat} {env : Env} (h : notComp e = true) : swapsWith e t l env = pure false := by
  cases e <;> first | rfl | simp [notComp] at h
theorem behind_no {op : CmpOp} {e : Expr} (h : notSet e = true) : behindInMarks op e = false := by
  cases e <;> first | rfl | simp [notSet] at h
theorem folded_no {e : Expr} {env : Env} (h : notSet e = true) (x : Value) : foldedSetIterable e env x = pure x := by
  cases e <;> first | rfl | simp [notSet] at h
theorem plainIx_of {e : Expr} (h : notSlice e = true) : PlainIx e := by
  intro o i
  cases e <;> first | rfl | simp [notSlice] at h
theorem isTrue_of {e : Expr} {env : Env} (h : plainTest e = true) : ∀ whole, isTrue e env whole = (do let v ← whole; standAt e.pos; holding [v] (truthy v)) := by
  intro whole
  cases e <;> first | rfl | simp [plainTest] at h
end Pv

set_option Elab.async false
set_option linter.all false
set_option maxRecDepth 100000
set_option maxHeartbeats 4000000

namespace Pv
open PySem PySem.Spec L2

theorem mkS_len (x : List Nat) : (mkS x).length = x.length := by simp [Str.length]
theorem mkS_app (x y : List Nat) : mkS x ++ mkS y = mkS (x ++ y) := by
  show Str.append _ _ = _
  unfold Str.append
  simp
theorem line_eq : line = sizeLine := sizeLine_eq.symm
theorem le_line {n : Nat} (h : n ≤ line) : n ≤ sizeLine := by rw [← line_eq]; exact h
theorem lt_line {n : Nat} (h : n < line) : n < sizeLine := by rw [← line_eq]; exact h

def opB : BO → Operator
  | .add => .Add | .sub => .Sub | .mul => .Mult | .fdiv => .FloorDiv | .mod => .Mod | .pow => .Pow
def opC : CO → CmpOp
  | .lt => .Lt | .le => .LtE | .gt => .Gt | .ge => .GtE | .eq => .Eq | .ne => .NotEq | .is => .Is | .isnot => .IsNot | .isin => .In | .notin => .NotIn
def CDivA (_ j : Int) : Prop := j ≠ 0 ∧ j.natAbs.log2 < 9000
theorem op_fdivA {X : Cx} : OpR X (binaryOp .FloorDiv) (rI CDivA fun i j => .int (i.fdiv j)) := opI fun i j _ _ _ _ _ hc q => PyProof.Rows.floordiv_int hc.1 q (.inl (PyProof.noPylong_of_log2 hc.2))

theorem repOk_of {n : Nat} {k : Int} (h : repOk n k = true) : -(2 ^ 62) ≤ k ∧ k < 2 ^ 62 ∧ n * k.toNat ≤ line := by simpa [repOk, and_assoc] using h
theorem DenL.rep {K : PySem.W.Frag} {G : Hp} {ds : List D} {vs : List V} (h : DenL K G ds vs) : ∀ n : Nat, DenL K G (List.replicate n ds).flatten (List.replicate n vs).flatten
  | 0 => by simp only [List.replicate_zero, List.flatten_nil, DenL]
  | n + 1 => by
    rw [List.replicate_succ, List.replicate_succ, List.flatten_cons, List.flatten_cons]
    exact h.append (DenL.rep h n)
theorem fold_app {α : Type} (x : Array α) : ∀ (n : Nat) (a : Array α), ((List.replicate n x).foldl (· ++ ·) a).toList = a.toList ++ (List.replicate n x.toList).flatten
  | 0, a => by simp
  | n + 1, a => by
    rw [List.replicate_succ, List.foldl_cons, fold_app x n, List.replicate_succ, List.flatten_cons]
    simp
/-- text * int -/
theorem op_repS {X : Cx} : OpR X (binaryOp .Mult) (fun x y H Q => ∃ (a : List Nat) (k : Int), x = .str (mkS a) ∧ y = .int k ∧ -(2 ^ 62) ≤ k ∧ k < 2 ^ 62 ∧ a.length * k.toNat ≤ line ∧ Q (.str (mkS (List.replicate k.toNat a).flatten)) H) := by
  intro pins s σ H x y v u Q I rx ry h
  obtain ⟨a, k, rfl, rfl, h1, h2, h3, q⟩ := h
  obtain ⟨t, rfl⟩ := rx
  obtain ⟨t', rfl⟩ := ry
  have hl3 : (mkS a).length * k.toNat ≤ sizeLine := le_line (by rw [mkS_len]; exact h3)
  have hz := sizeLine_eq
  have hb : ¬ k < 1 → (k == 1 || (mkS a).length == 0) = false → ¬ (((mkS a).length : Int) > (2 ^ 63 - 1) / k) := by
    intro hk hz'
    have e1 : (mkS a).length ≤ (mkS a).length * k.toNat := Nat.le_mul_of_pos_right _ (by omega)
    have e2 : k.toNat ≤ (mkS a).length * k.toNat := Nat.le_mul_of_pos_left _ (by
      rw [Bool.or_eq_false_iff] at hz'
      have := hz'.2
      simp at this
      omega)
    intro hgt
    have h6 : k ≤ 16777216 := by omega
    have h7 : (2 ^ 63 - 1 : Int) / 16777216 ≤ (2 ^ 63 - 1) / k := by
      have e8 : (2 ^ 63 - 1 : Int) / 16777216 * 16777216 ≤ 2 ^ 63 - 1 := by decide
      rw [Int.le_ediv_iff_mul_le (by omega)]
      exact Int.le_trans (Int.mul_le_mul_of_nonneg_left h6 (by decide)) e8
    omega
  refine PySem.P.mul_str (by rw [decide_eq_false (by omega), decide_eq_false (by omega)]; rfl) hb (fun _ _ => by
      exact decide_eq_false (by omega)) ?_
  by_cases hk : k < 1
  · rw [if_pos hk]
    have e : k.toNat = 0 := by omega
    have e2 : mkS (List.replicate k.toNat a).flatten = Str.empty := by rw [e]; rfl
    rw [e2] at q
    exact ⟨by decide, .str Str.empty, H, I.tok _, ⟨_, rfl⟩, q⟩
  · rw [if_neg hk]
    by_cases hc : (k == 1 || (mkS a).length == 0) = true
    · rw [if_pos hc]
      refine ⟨.str (mkS (List.replicate k.toNat a).flatten), H, I, ⟨t, ?_⟩, q⟩
      rw [Bool.or_eq_true] at hc
      rcases hc with hc | hc
      · have e : k = 1 := by simpa using hc
        subst e
        simp
      · have e : a = [] := by
          have : (mkS a).length = 0 := by simpa using hc
          rw [mkS_len] at this
          exact List.eq_nil_of_length_eq_zero this
        subst e
        simp
    · rw [if_neg hc]
      have e : (⟨(List.replicate k.toNat (mkS a).cps).foldl (· ++ ·) #[]⟩ : Str) = mkS (List.replicate k.toNat a).flatten := by
        congr 1
        apply Array.ext'
        rw [fold_app]
        simp
      rw [e]
      exact ⟨le_line (by rw [mkS_len]; simpa [Nat.mul_comm] using h3), .str (mkS (List.replicate k.toNat a).flatten), H, I.tok _, ⟨_, rfl⟩, q⟩
section
variable {X : Cx} {K : PySem.W.Frag} {H0 G0 G W H : Hp}
theorem EQ.here {d : D} {Q : VK} {v : V} (q : EQ K H0 G0 G W d Q) (w : Wd H0 G0 G W H) (h : Den K G d v) : Q v H := q v G H (Sub.refl G) w h
theorem EQ.new {d : D} {Q : VK} {o : HO} (q : EQ K H0 G0 G W d Q) (w : Wd H0 G0 G W H) (h : ∀ p, Den K (upd G p o) d (.ref p)) : ∀ p, H p = none → Q (.ref p) (upd H p o) := fun p hp =>
  q _ _ _ (sub_upd (w.gnone hp)) (w.new hp) (h p)

theorem bin_run {o : BO} {x y d : D} {v u : V} {Q : VK} (h : binD o x y = some d) (hx : Den X.K G x v) (hy : Den X.K G y u) (w : Wd H0 G0 G W H) (q : EQ X.K H0 G0 G W d Q) : UOp X (binaryOp (opB o)) v u H Q := by
  unfold binD at h
  split at h
  · simp only [Den] at hx hy
    subst hx hy
    cases h
    exact ⟨_, op_add, _, _, rfl, rfl, q.here w (by simp only [Den])⟩
  · rename_i a b
    simp only [Den] at hx hy
    subst hx hy
    split at h
    · rename_i hl
      cases h
      refine ⟨_, op_add_str, _, _, rfl, rfl, le_line (by rw [mkS_len, mkS_len]; exact hl), q.here w ?_⟩
      simp only [Den]
      rw [mkS_app]
    · cases h
  · rename_i a b
    simp only [Den] at hx hy
    obtain ⟨p, vs, e1, hp, hvs⟩ := hx
    obtain ⟨p', vs', e2, hp', hvs'⟩ := hy
    subst e1 e2
    split at h
    · rename_i hl
      cases h
      refine ⟨_, op_cat, p, p', vs, vs', rfl, rfl, w.gh _ _ hp, w.gh _ _ hp', le_line (by rw [← hvs.length, ← hvs'.length]; exact hl), ?_⟩
      intro z hz
      refine q _ _ _ (sub_upd (w.gnone hz)) (w.new hz) ?_
      simp only [Den]
      exact ⟨z, _, rfl, upd_same, (hvs.append hvs').mono (sub_upd (w.gnone hz))⟩
    · cases h
  · rename_i a b
    simp only [Den] at hx hy
    obtain ⟨p, vs, e1, hp, hvs⟩ := hx
    obtain ⟨p', vs', e2, hp', hvs'⟩ := hy
    subst e1 e2
    split at h
    · rename_i hl
      cases h
      refine ⟨_, op_catA, p, p', vs, vs', rfl, rfl, sub_t w.gh hp, sub_t w.gh hp', le_line (by rw [← hvs.length, ← hvs'.length]; exact hl), fun e => ?_, fun _ e => ?_, fun _ _ z hz => ?_⟩
      · refine q.here w ?_
        subst e
        have : a = [] := List.eq_nil_of_length_eq_zero (by rw [hvs.length]; rfl)
        subst this
        simp only [Den, List.nil_append]
        exact ⟨_, _, rfl, hp', hvs'⟩
      · refine q.here w ?_
        subst e
        have : b = [] := List.eq_nil_of_length_eq_zero (by rw [hvs'.length]; rfl)
        subst this
        simp only [Den, List.append_nil]
        exact ⟨_, _, rfl, hp, hvs⟩
      · refine q _ _ _ (sub_upd (w.gnone hz)) (w.new hz) ?_
        simp only [Den]
        exact ⟨z, _, rfl, SqT.of upd_same, (hvs.append hvs').mono (sub_upd (w.gnone hz))⟩
    · cases h
  · rename_i a k
    simp only [Den] at hx hy
    obtain ⟨p, vs, e1, hp, hvs⟩ := hx
    subst e1 hy
    split at h
    · rename_i hl
      cases h
      obtain ⟨r1, r2, r3⟩ := repOk_of hl
      refine ⟨_, op_rep, p, k, vs, rfl, rfl, w.gh _ _ hp, by omega, by omega, le_line (by rw [← hvs.length]; exact r3), ?_⟩
      intro z hz
      refine q _ _ _ (sub_upd (w.gnone hz)) (w.new hz) ?_
      simp only [Den]
      exact ⟨z, _, rfl, upd_same, (hvs.rep _).mono (sub_upd (w.gnone hz))⟩
    · cases h
  · rename_i a k
    simp only [Den] at hx hy
    subst hx hy
    split at h
    · rename_i hl
      cases h
      obtain ⟨r1, r2, r3⟩ := repOk_of hl
      exact ⟨_, op_repS, a, k, rfl, rfl, r1, r2, r3, q.here w (by simp only [Den])⟩
    · cases h
  · simp only [Den] at hx hy
    subst hx hy
    cases h
    exact ⟨_, op_sub, _, _, rfl, rfl, q.here w (by simp only [Den])⟩
  · simp only [Den] at hx hy
    subst hx hy
    split at h
    · rename_i hl
      cases h
      exact ⟨_, op_mulW, _, _, rfl, rfl, by simpa [mulOk, CMulW] using hl, q.here w (by simp only [Den])⟩
    · cases h
  · simp only [Den] at hx hy
    subst hx hy
    split at h
    · rename_i hl
      cases h
      exact ⟨_, op_fdivA, _, _, rfl, rfl, by simpa [divOk, CDivA] using hl, q.here w (by simp only [Den])⟩
    · cases h
  · simp only [Den] at hx hy
    subst hx hy
    split at h
    · rename_i hl
      cases h
      exact ⟨_, op_modN, _, _, rfl, rfl, hl, q.here w (by simp only [Den])⟩
    · cases h
  · simp only [Den] at hx hy
    subst hx hy
    split at h
    · rename_i hl
      cases h
      refine ⟨_, op_pow, _, _, rfl, rfl, ?_, q.here w (by simp only [Den])⟩
      simpa [powOk, CPow, and_assoc] using hl
    · cases h
  · cases h

/-! ### comparing -/
theorem mkS_eq {x y : List Nat} : (mkS x = mkS y) ↔ x = y := by
  constructor
  · intro h
    have := congrArg (fun s : Str => s.cps.toList) h
    simpa using this
  · intro h; rw [h]
theorem eqb_str (x y : List Nat) : D.eqb (.str x) (.str y) = decide (x = y) := by
  simp only [D.eqb, D.toP, PyData.eqv]
  by_cases e : x = y
  · subst e; simp
  · rw [decide_eq_false e]
    exact beq_eq_false_iff_ne.mpr fun z => e (mkS_eq.mp z)
theorem scal_run {x y : D} {v u : V} (h : scalD x y = true) (hx : Den K G x v) (hy : Den K G y u) : scal v u = true ∧ decide (v = u) = D.eqb x y := by
  cases x <;> cases y <;> first
    | (simp only [Den] at hx hy; subst hx hy; exact ⟨rfl, by first | (simp [D.eqb, D.toP, PyData.eqv]; done) | (rw [eqb_str]; simp) | (rw [dec_int]; rfl) | (rw [dec_bl]; rfl)⟩)
    | (simp [scalD] at h; done)
theorem shp_dp {x : D} {v : V} (h : D.shp x = true) (hx : Den K G x v) (e : Sub G H) : Dp K H v (D.toP x) ∧ SeqAt.shaped (D.toP x) = true := by
  simp only [D.shp, Bool.and_eq_true] at h
  exact ⟨dp_mono e _ (Den.dp x h.1 hx), h.2⟩
theorem flat_run {x : D} {v : V} (h : flatD x = true) (hx : Den K G x v) : flatV v = true := by
  cases x <;> first
    | (simp only [Den] at hx; subst hx; rfl)
    | (simp [flatD] at h; done)
theorem flatL_run : ∀ {xs : List D} {vs : List V}, xs.all flatD = true → DenL K G xs vs → vs.all flatV = true
  | [], _, _, h => by simp only [DenL] at h; subst h; rfl
  | x :: xs, _, f, h => by
    simp only [DenL] at h
    simp only [List.all_cons, Bool.and_eq_true] at f
    obtain ⟨v, r, e, h1, h2⟩ := h
    subst e
    simp only [List.all_cons, Bool.and_eq_true]
    exact ⟨flat_run f.1 h1, flatL_run f.2 h2⟩
theorem eqV_run {y x : D} {u v : V} (hy : Den K G y u) (hx : Den K G x v) (fy : flatD y = true) (fx : flatD x = true) : eqV u v = D.eqb y x := by
  cases y <;> cases x <;> first
    | (simp only [Den] at hx hy; subst hx hy; first | rfl | (rw [eqb_str]; show ((mkS _) == (mkS _)) = _; rw [Bool.eq_iff_iff]; simp [mkS_eq]))
    | (simp [flatD] at fx; done)
    | (simp [flatD] at fy; done)
theorem inV_run {x : D} {v : V} (hx : Den K G x v) (fx : flatD x = true) : ∀ {ys : List D} {us : List V}, ys.all flatD = true → DenL K G ys us → inV v us = ys.any fun y => D.eqb y x
  | [], _, _, h => by simp only [DenL] at h; subst h; rfl
  | y :: ys, _, f, h => by
    simp only [DenL] at h
    simp only [List.all_cons, Bool.and_eq_true] at f
    obtain ⟨u, r, e, h1, h2⟩ := h
    subst e
    have ih := inV_run hx fx f.2 h2
    unfold inV at ih ⊢
    rw [List.any_cons, List.any_cons, ih, eqV_run h1 hx f.1 fx]
theorem eq_run (hu : X.A.units + 64 < cLine) {x y : D} {v u : V} {b : Bool} {Q : VK} (h : eqD x y = some b) (hx : Den X.K G x v) (hy : Den X.K G y u) (e : Sub G H) (q : Q (.bl b) H) : UOp X (compareOp .Eq) v u H Q := by
  unfold eqD at h
  split at h
  · rename_i hs
    cases h
    rw [Bool.or_eq_true, Bool.and_eq_true] at hs
    rcases hs with hs | ⟨h1, h2⟩
    · obtain ⟨a, c⟩ := scal_run hs hx hy
      exact ⟨_, op_eq, a, by rw [c]; exact q⟩
    · obtain ⟨a1, a2⟩ := shp_dp h1 hx e
      obtain ⟨b1, b2⟩ := shp_dp h2 hy e
      exact ⟨_, op_eqD hu, _, _, a1, b1, a2, b2, q⟩
  · cases h
theorem ne_run (hu : X.A.units + 64 < cLine) {x y : D} {v u : V} {b : Bool} {Q : VK} (h : (eqD x y).map not = some b) (hx : Den X.K G x v) (hy : Den X.K G y u) (e : Sub G H) (q : Q (.bl b) H) : UOp X (compareOp .NotEq) v u H Q := by
  unfold eqD at h
  split at h
  · rename_i hs
    cases h
    rw [Bool.or_eq_true, Bool.and_eq_true] at hs
    rcases hs with hs | ⟨h1, h2⟩
    · obtain ⟨a, c⟩ := scal_run hs hx hy
      exact ⟨_, op_ne, a, by rw [c]; exact q⟩
    · obtain ⟨a1, a2⟩ := shp_dp h1 hx e
      obtain ⟨b1, b2⟩ := shp_dp h2 hy e
      exact ⟨_, op_neD hu, _, _, a1, b1, a2, b2, q⟩
  · cases h
theorem is_run {x y : D} {v u : V} {b : Bool} {Q : VK} (h : isD x y = some b) (hx : Den X.K G x v) (hy : Den X.K G y u) (q : Q (.bl b) H) : UOp X (compareOp .Is) v u H Q := by
  unfold isD at h
  split at h <;> first
    | (simp only [Den] at hx hy; subst hx hy; cases h; first
        | exact ⟨_, op_isBl, _, _, rfl, rfl, q⟩
        | exact ⟨_, op_isN, rfl, q⟩)
    | (simp only [Den] at hx hy; obtain ⟨p, vs, e1, hp, hvs⟩ := hx; subst e1 hy; cases h; exact ⟨_, op_isN, rfl, q⟩)
    | (simp only [Den] at hx hy; obtain ⟨p, C, dx, nvs, e1, hp, hvs⟩ := hx; subst e1 hy; cases h; exact ⟨_, op_isN, rfl, q⟩)
    | cases h
theorem isnot_run {x y : D} {v u : V} {b : Bool} {Q : VK} (h : (isD x y).map not = some b) (hx : Den X.K G x v) (hy : Den X.K G y u) (q : Q (.bl b) H) : UOp X (compareOp .IsNot) v u H Q := by
  unfold isD at h
  split at h <;> first
    | (simp only [Den] at hx hy; subst hx hy; cases h; first
        | exact ⟨_, op_notBl, _, _, rfl, rfl, q⟩
        | exact ⟨_, op_notN, rfl, q⟩)
    | (simp only [Den] at hx hy; obtain ⟨p, vs, e1, hp, hvs⟩ := hx; subst e1 hy; cases h; exact ⟨_, op_notN, rfl, q⟩)
    | (simp only [Den] at hx hy; obtain ⟨p, C, dx, nvs, e1, hp, hvs⟩ := hx; subst e1 hy; cases h; exact ⟨_, op_notN, rfl, q⟩)
    | cases h
theorem in_run {x y : D} {v u : V} {b : Bool} {Q : VK} (h : isInD x y = some b) (hx : Den X.K G x v) (hy : Den X.K G y u) (e : Sub G H) (q : Q (.bl b) H) : UOp X (compareOp .In) v u H Q := by
  unfold isInD at h
  split at h
  · simp only [Den] at hy
    obtain ⟨p, vs, e1, hp, hvs⟩ := hy
    unfold inD at h
    split at h
    · rename_i hf
      cases h
      rw [Bool.and_eq_true] at hf
      subst e1
      exact ⟨_, op_in_seq, p, vs, rfl, .inl (SqL.of (e _ _ hp)), flat_run hf.1 hx, flatL_run hf.2 hvs, by rw [inV_run hx hf.1 hf.2 hvs]; exact q⟩
    · cases h
  · simp only [Den] at hy
    obtain ⟨p, vs, e1, hp, hvs⟩ := hy
    unfold inD at h
    split at h
    · rename_i hf
      cases h
      rw [Bool.and_eq_true] at hf
      subst e1
      exact ⟨_, op_in_seq, p, vs, rfl, .inr (sub_t e hp), flat_run hf.1 hx, flatL_run hf.2 hvs, by rw [inV_run hx hf.1 hf.2 hvs]; exact q⟩
    · cases h
  · split at h
    · simp only [Den] at hx hy
      subst hx hy
      cases h
      exact ⟨_, op_in_sign, _, _, rfl, rfl, by simpa using q⟩
    · cases h
  · cases h
theorem notin_run {x y : D} {v u : V} {b : Bool} {Q : VK} (h : (isInD x y).map not = some b) (hx : Den X.K G x v) (hy : Den X.K G y u) (e : Sub G H) (q : Q (.bl b) H) : UOp X (compareOp .NotIn) v u H Q := by
  unfold isInD at h
  split at h
  · simp only [Den] at hy
    obtain ⟨p, vs, e1, hp, hvs⟩ := hy
    unfold inD at h
    split at h
    · rename_i hf
      cases h
      rw [Bool.and_eq_true] at hf
      subst e1
      exact ⟨_, op_notIn_seq, p, vs, rfl, .inl (SqL.of (e _ _ hp)), flat_run hf.1 hx, flatL_run hf.2 hvs, by rw [inV_run hx hf.1 hf.2 hvs]; exact q⟩
    · cases h
  · simp only [Den] at hy
    obtain ⟨p, vs, e1, hp, hvs⟩ := hy
    unfold inD at h
    split at h
    · rename_i hf
      cases h
      rw [Bool.and_eq_true] at hf
      subst e1
      exact ⟨_, op_notIn_seq, p, vs, rfl, .inr (sub_t e hp), flat_run hf.1 hx, flatL_run hf.2 hvs, by rw [inV_run hx hf.1 hf.2 hvs]; exact q⟩
    · cases h
  · split at h
    · simp only [Den] at hx hy
      subst hx hy
      cases h
      exact ⟨_, op_notIn_sign, _, _, rfl, rfl, by simpa using q⟩
    · cases h
  · cases h
theorem cmp_run (hu : X.A.units + 64 < cLine) {o : CO} {x y : D} {v u : V} {b : Bool} {Q : VK} (h : cmpD o x y = some b) (hx : Den X.K G x v) (hy : Den X.K G y u) (e : Sub G H) (q : Q (.bl b) H) : UOp X (compareOp (opC o)) v u H Q := by
  unfold cmpD at h
  split at h
  · simp only [Den] at hx hy
    subst hx hy
    cases h
    exact ⟨_, op_lt, _, _, rfl, rfl, q⟩
  · simp only [Den] at hx hy
    subst hx hy
    cases h
    exact ⟨_, op_le, _, _, rfl, rfl, q⟩
  · simp only [Den] at hx hy
    subst hx hy
    cases h
    exact ⟨_, op_gt, _, _, rfl, rfl, q⟩
  · simp only [Den] at hx hy
    subst hx hy
    cases h
    exact ⟨_, op_ge, _, _, rfl, rfl, q⟩
  · exact eq_run hu h hx hy e q
  · exact ne_run hu h hx hy e q
  · exact is_run h hx hy q
  · exact isnot_run h hx hy q
  · exact in_run h hx hy e q
  · exact notin_run h hx hy e q
  · cases h

/-! ### truth, places, slices -/
theorem DenL.isEmpty {xs : List D} {vs : List V} (h : DenL K G xs vs) : vs.isEmpty = xs.isEmpty := by
  cases xs with
  | nil => simp only [DenL] at h; subst h; rfl
  | cons x xs => simp only [DenL] at h; obtain ⟨v, r, e, _⟩ := h; subst e; rfl
theorem tru_run {x : D} {v : V} {b : Bool} (h : truth x = some b) (hx : Den K G x v) (e : Sub G H) : TruV K v H b := by
  unfold truth at h
  split at h
  · simp only [Den] at hx; subst hx; cases h; rfl
  · simp only [Den] at hx; subst hx; cases h; rfl
  · simp only [Den] at hx; subst hx; cases h; rfl
  · rename_i z
    split at h
    · rename_i hl
      simp only [Den] at hx
      subst hx
      cases h
      refine ⟨le_line (by rw [mkS_len]; exact hl), ?_⟩
      rw [mkS_len]
      cases z with
      | nil => rfl
      | cons a r =>
        symm
        simp only [List.isEmpty_cons, Bool.not_false, bne_iff_ne, ne_eq, List.length_cons]
        omega
    · cases h
  · simp only [Den] at hx
    obtain ⟨p, vs, e1, hp, hvs⟩ := hx
    subst e1
    cases h
    exact .inl ⟨vs, SqL.of (e _ _ hp), by rw [hvs.isEmpty]⟩
  · simp only [Den] at hx
    obtain ⟨p, vs, e1, hp, hvs⟩ := hx
    subst e1
    cases h
    exact .inr (.inl ⟨vs, sub_t e hp, by rw [hvs.isEmpty]⟩)
  · cases h
theorem atI_den {xs : List D} {vs : List V} {i : Int} {d : D} (h : DenL K G xs vs) (e : atI xs i = some d) : ∃ v, atI vs i = some v ∧ Den K G d v := by
  unfold atI at e ⊢
  rw [← h.length]
  cases hx : ixN xs.length i with
  | none => rw [hx] at e; cases e
  | some j =>
    rw [hx] at e
    exact h.get (show xs[j]? = some d from e)
theorem atI_map {α β : Type} (f : α → β) (xs : List α) (i : Int) : atI (xs.map f) i = (atI xs i).map f := by
  unfold atI
  rw [List.length_map]
  cases ixN xs.length i with
  | none => rfl
  | some j => simp [Option.bind]
theorem ix_run {x y d : D} {v u : V} {Q : VK} (h : ixD x y = some d) (hx : Den X.K G x v) (hy : Den X.K G y u) (w : Wd H0 G0 G W H) (q : EQ X.K H0 G0 G W d Q) : UIx X v u H Q := by
  unfold ixD at h
  split at h
  · simp only [Den] at hx hy
    obtain ⟨p, vs, e1, hp, hvs⟩ := hx
    subst e1 hy
    obtain ⟨z, hz, dz⟩ := atI_den hvs h
    exact ⟨_, ix_list, p, vs, _, z, rfl, rfl, SqL.of (w.gh _ _ hp), hz, q.here w dz⟩
  · rename_i ns i
    simp only [Den] at hx hy
    obtain ⟨p, e1, hp⟩ := hx
    subst e1 hy
    cases hz : atI ns i with
    | none => rw [hz] at h; cases h
    | some n =>
      rw [hz] at h
      cases h
      exact ⟨_, ix_list, p, _, _, .int n, rfl, rfl, sub_l w.gh hp, by rw [atI_map, hz]; rfl, q.here w (by simp only [Den])⟩
  · simp only [Den] at hx hy
    obtain ⟨p, vs, e1, hp, hvs⟩ := hx
    subst e1 hy
    obtain ⟨z, hz, dz⟩ := atI_den hvs h
    exact ⟨_, ix_tup, p, vs, _, z, rfl, rfl, sub_t w.gh hp, hz, q.here w dz⟩
  · rename_i z i
    split at h
    · rename_i hl
      simp only [Den] at hx hy
      subst hx hy
      cases hz : atI z i with
      | none => rw [hz] at h; cases h
      | some c =>
        rw [hz] at h
        cases h
        exact ⟨_, ix_str, mkS z, i, c, rfl, rfl, le_line (by rw [mkS_len]; exact hl), by simpa using hz, q.here w (by simp only [Den])⟩
    · cases h
  · cases h
theorem cutV_den {xs : List D} {vs : List V} {lo hi : Option Int} (h : DenL K G xs vs) : DenL K G (cutD xs lo hi) (cutV vs lo hi) := by
  unfold cutD cutV
  rw [h.length]
  exact (h.drop _).take _
theorem cut_whole {α : Type} {xs : List α} {lo hi : Option Int} (h : HT.sIx xs.length 0 lo = 0 ∧ HT.sIx xs.length xs.length hi = xs.length) : cutD xs lo hi = xs := by
  unfold cutD
  rw [h.1, h.2]
  simp
theorem sl_run {lo hi : Option Int} {x d : D} {v : V} {Q : VK} (h : slD lo hi x = some d) (hx : Den X.K G x v) (w : Wd H0 G0 G W H) (q : EQ X.K H0 G0 G W d Q) : USl X v lo hi H Q := by
  unfold slD at h
  split at h
  · simp only [Den] at hx
    obtain ⟨p, vs, e1, hp, hvs⟩ := hx
    subst e1
    cases h
    refine ⟨_, sl_list, p, vs, rfl, SqL.of (w.gh _ _ hp), fun z hz => q _ _ _ (sub_upd (w.gnone hz)) (w.new hz) ?_⟩
    simp only [Den]
    exact ⟨z, _, rfl, upd_same, (cutV_den hvs).mono (sub_upd (w.gnone hz))⟩
  · simp only [Den] at hx
    obtain ⟨p, vs, e1, hp, hvs⟩ := hx
    subst e1
    cases h
    refine ⟨_, sl_tupA, p, vs, rfl, sub_t w.gh hp, fun hw => q.here w ?_, fun _ z hz => q _ _ _ (sub_upd (w.gnone hz)) (w.new hz) ?_⟩
    · rw [← hvs.length] at hw
      rw [cut_whole hw]
      simp only [Den]
      exact ⟨_, _, rfl, hp, hvs⟩
    · simp only [Den]
      exact ⟨z, _, rfl, SqT.of upd_same, (cutV_den hvs).mono (sub_upd (w.gnone hz))⟩
  · rename_i z
    split at h
    · rename_i hl
      simp only [Den] at hx
      subst hx
      cases h
      refine ⟨_, sl_str, mkS z, rfl, le_line (by rw [mkS_len]; exact hl), q.here w ?_⟩
      simp only [Den]
      congr 1
    · cases h
  · cases h
end
end Pv

set_option Elab.async false
set_option linter.all false
set_option maxRecDepth 100000
set_option maxHeartbeats 4000000

namespace Pv
open PySem PySem.Spec L2

theorem bnd {α β : Type} {o : Option α} {f : α → Option β} {b : β} (h : o.bind f = some b) : ∃ a, o = some a ∧ f a = some b := by
  cases o with
  | none => cases h
  | some a => exact ⟨a, rfl, h⟩
theorem mpd {α β : Type} {o : Option α} {f : α → β} {b : β} (h : o.map f = some b) : ∃ a, o = some a ∧ f a = b := by
  cases o with
  | none => cases h
  | some a => exact ⟨a, rfl, Option.some.inj h⟩

/-! ### built-in functions -/
def nmF : BF → Str
  | .len => "len" | .int => "int" | .abs => "abs" | .max => "max" | .min => "min" | .gcd => "gcd" | .tuple => "tuple" | .list => "list" | .sum => "sum" | .str => "str"
def tyF : BF → Option String
  | .int => some "int" | .tuple => some "tuple" | .list => some "list" | .str => some "str" | _ => none
def idF : BF → String
  | .len => "len" | .abs => "abs" | .max => "max" | .min => "min" | .sum => "sum" | .gcd => "math.gcd" | _ => ""
def valF (f : BF) : Value := match tyF f with | some t => .type t | none => .builtin (idF f)
theorem bootF {f : BF} (h : f ≠ .gcd) : bootBuiltins (nmF f) = some (valF f) := by
  cases f <;> first | exact absurd rfl h | decide +kernel
theorem nameF {f : BF} (h : f ≠ .gcd) : nmF f ≠ "__name__" ∧ (nmF f == ("__debug__" : Str)) = false := by
  cases f <;> first | exact absurd rfl h | (constructor <;> decide +kernel)
def nmT : Ty → Str
  | .int => "int" | .bool => "bool" | .str => "str" | .tuple => "tuple" | .list => "list" | .dict => "dict"
def sT : Ty → String
  | .int => "int" | .bool => "bool" | .str => "str" | .tuple => "tuple" | .list => "list" | .dict => "dict"
theorem bootT (t : Ty) : bootBuiltins (nmT t) = some (.type (sT t)) := by cases t <;> decide +kernel
theorem nameT (t : Ty) : nmT t ≠ "__name__" ∧ (nmT t == ("__debug__" : Str)) = false := by cases t <;> (constructor <;> decide +kernel)

section
variable {X : Cx} {K : PySem.W.Frag} {H0 G0 G W H : Hp}
theorem ints_den {ns : List Int} : ∀ {xs : List D} {vs : List V}, allInts xs = some ns → DenL K G xs vs → vs = ns.map V.int := by
  induction ns with
  | nil =>
    intro xs vs h hd
    cases xs with
    | nil => simp only [DenL] at hd; subst hd; rfl
    | cons x r => cases x <;> first | (simp [allInts] at h; done) | skip
  | cons n ns ih =>
    intro xs vs h hd
    cases xs with
    | nil => simp [allInts] at h
    | cons x r =>
      cases x <;> first | (simp [allInts] at h; done) | skip
      rename_i i
      simp only [allInts] at h
      obtain ⟨a, h1, h2⟩ := mpd h
      cases h2
      simp only [DenL, Den] at hd
      obtain ⟨v, r', e, e1, e2⟩ := hd
      subst e e1
      rw [ih h1 e2]
      rfl
theorem den1 {x : D} {vs : List V} (h : DenL K G [x] vs) : ∃ v, vs = [v] ∧ Den K G x v := by
  simp only [DenL] at h
  obtain ⟨v, r, e, h1, h2⟩ := h
  subst h2
  exact ⟨v, e, h1⟩
theorem den2 {x y : D} {vs : List V} (h : DenL K G [x, y] vs) : ∃ v u, vs = [v, u] ∧ Den K G x v ∧ Den K G y u := by
  simp only [DenL] at h
  obtain ⟨v, r, e, h1, u, r', e', h2, h3⟩ := h
  subst h3 e'
  exact ⟨v, u, e, h1, h2⟩
theorem blt_run (hc : X.calm = true) {f : BF} {ds : List D} {d : D} {vs : List V} {Q : VK} (h : bltD f ds = some d) (hx : DenL X.K G ds vs) (w : Wd H0 G0 G W H) (q : EQ X.K H0 G0 G W d Q) : UCall X (valF f) vs H Q := by
  unfold bltD at h
  split at h
  · obtain ⟨v, rfl, hv⟩ := den1 hx
    simp only [Den] at hv
    obtain ⟨p, us, rfl, hp, hu⟩ := hv
    cases h
    exact ⟨_, call_len_seq, p, us, rfl, .inl (SqL.of (w.gh _ _ hp)), q.here w (by simp only [Den]; rw [hu.length])⟩
  · obtain ⟨v, rfl, hv⟩ := den1 hx
    simp only [Den] at hv
    obtain ⟨p, us, rfl, hp, hu⟩ := hv
    cases h
    exact ⟨_, call_len_seq, p, us, rfl, .inr (sub_t w.gh hp), q.here w (by simp only [Den]; rw [hu.length])⟩
  · obtain ⟨v, rfl, hv⟩ := den1 hx
    simp only [Den] at hv
    obtain ⟨p, rfl, hp⟩ := hv
    cases h
    exact ⟨_, call_len_seq, p, _, rfl, .inl (sub_l w.gh hp), q.here w (by simp only [Den]; rw [List.length_map])⟩
  · obtain ⟨v, rfl, hv⟩ := den1 hx
    simp only [Den] at hv
    subst hv
    split at h
    · rename_i hl
      cases h
      exact ⟨_, call_len_str, _, rfl, le_line (by rw [mkS_len]; exact hl), q.here w (by simp only [Den]; rw [mkS_len])⟩
    · cases h
  · obtain ⟨v, rfl, hv⟩ := den1 hx
    simp only [Den] at hv
    subst hv
    cases h
    exact ⟨_, call_int1, .inl ⟨_, rfl, q.here w (by simp only [Den])⟩⟩
  · obtain ⟨v, rfl, hv⟩ := den1 hx
    simp only [Den] at hv
    subst hv
    cases h
    exact ⟨_, call_int1, .inr ⟨_, rfl, q.here w (by simp only [Den])⟩⟩
  · obtain ⟨v, rfl, hv⟩ := den1 hx
    simp only [Den] at hv
    subst hv
    cases h
    exact ⟨_, call_abs, _, rfl, q.here w (by simp only [Den])⟩
  · obtain ⟨v, u, rfl, hv, hu⟩ := den2 hx
    simp only [Den] at hv hu
    subst hv hu
    cases h
    exact ⟨_, call_max2 hc, _, _, rfl, q.here w (by simp only [Den])⟩
  · obtain ⟨v, u, rfl, hv, hu⟩ := den2 hx
    simp only [Den] at hv hu
    subst hv hu
    cases h
    exact ⟨_, call_min2 hc, _, _, rfl, q.here w (by simp only [Den])⟩
  · obtain ⟨v, u, rfl, hv, hu⟩ := den2 hx
    simp only [Den] at hv hu
    subst hv hu
    cases h
    exact ⟨_, cr_gcd, _, _, rfl, q.here w (by simp only [Den])⟩
  · obtain ⟨v, rfl, hv⟩ := den1 hx
    simp only [Den] at hv
    obtain ⟨p, us, rfl, hp, hu⟩ := hv
    cases h
    refine ⟨_, call_tuple_of, p, us, rfl, .inl ⟨SqL.of (w.gh _ _ hp), fun z hz => q _ _ _ (sub_upd (w.gnone hz)) (w.new hz) ?_⟩⟩
    simp only [Den]
    exact ⟨z, _, rfl, SqT.of upd_same, hu.mono (sub_upd (w.gnone hz))⟩
  · obtain ⟨v, rfl, hv⟩ := den1 hx
    cases h
    have hv' := hv
    simp only [Den] at hv'
    obtain ⟨p, us, rfl, hp, hu⟩ := hv'
    exact ⟨_, call_tuple_of, p, us, rfl, .inr ⟨sub_t w.gh hp, q.here w hv⟩⟩
  · obtain ⟨v, rfl, hv⟩ := den1 hx
    simp only [Den] at hv
    obtain ⟨p, us, rfl, hp, hu⟩ := hv
    cases h
    refine ⟨_, call_list_of, p, us, rfl, .inl (SqL.of (w.gh _ _ hp)), fun z hz => q _ _ _ (sub_upd (w.gnone hz)) (w.new hz) ?_⟩
    simp only [Den]
    exact ⟨z, _, rfl, upd_same, hu.mono (sub_upd (w.gnone hz))⟩
  · obtain ⟨v, rfl, hv⟩ := den1 hx
    simp only [Den] at hv
    obtain ⟨p, us, rfl, hp, hu⟩ := hv
    cases h
    refine ⟨_, call_list_of, p, us, rfl, .inr (sub_t w.gh hp), fun z hz => q _ _ _ (sub_upd (w.gnone hz)) (w.new hz) ?_⟩
    simp only [Den]
    exact ⟨z, _, rfl, upd_same, hu.mono (sub_upd (w.gnone hz))⟩
  · obtain ⟨v, rfl, hv⟩ := den1 hx
    simp only [Den] at hv
    obtain ⟨p, us, rfl, hp, hu⟩ := hv
    obtain ⟨ns, hns, rfl⟩ := mpd h
    have e := ints_den hns hu
    subst e
    exact ⟨_, cr_sum hc, p, ns, rfl, SqL.of (w.gh _ _ hp), q.here w (by simp only [Den])⟩
  · obtain ⟨v, rfl, hv⟩ := den1 hx
    simp only [Den] at hv
    subst hv
    split at h
    · rename_i hl
      cases h
      refine ⟨_, call_str_int, _, rfl, hl, q.here w ?_⟩
      simp only [Den, intS]
    · cases h
  · cases h

/-! ### isinstance -/
def isiN (n t : Ty) : Bool := match n, t with
  | .int, .int => true | .bool, .int => true | .bool, .bool => true | .str, .str => true | .tuple, .tuple => true | .list, .list => true | .dict, .dict => true | _, _ => false
theorem kit0 (n t : Ty) : kitB (sT n) (sT t) = some (isiN n t) := by cases n <;> cases t <;> decide +kernel
theorem kit1 (x : D) (t : Ty) {n : Ty} (h : tyD x = some n) : kitB (sT n) (sT t) = some (isi1 x t) := by
  rw [kit0]
  cases x <;> simp [tyD] at h <;> subst h <;> cases t <;> rfl
theorem kitN {t : Ty} : kitB "NoneType" (sT t) = some false := by cases t <;> decide +kernel
theorem tupX {G : Hp} {a : Addr} {vs : List V} (h : SqT X.K G a vs) : TyX X.K G (.ref a) (.type "tuple") := by
  rcases h with (h | ⟨o, h⟩) | ⟨o, its, n, h1, h2, _⟩
  · exact .base (.tup h)
  · exact .fTuple h
  · exact .kTuple h1 h2
theorem isi_ty {x : D} {v : V} (hi : isIns x = false) (hx : Den X.K G x v) (e : Sub G H) : ∃ s, TyX X.K H v (.type s) ∧ ∀ t : Ty, PySem.W.kitOne X.K (.type s) (.type (sT t)) = some (isi1 x t) := by
  cases x with
  | non => simp only [Den] at hx; subst hx; exact ⟨_, .base .non, fun t => kit_ty (by rw [kitN]; cases t <;> rfl)⟩
  | bl b => simp only [Den] at hx; subst hx; exact ⟨_, .base (.bl _), fun t => kit_ty (kit1 (.bl b) t (n := .bool) rfl)⟩
  | int b => simp only [Den] at hx; subst hx; exact ⟨_, .base (.int _), fun t => kit_ty (kit1 (.int b) t (n := .int) rfl)⟩
  | str b => simp only [Den] at hx; subst hx; exact ⟨_, .base (.str _), fun t => kit_ty (kit1 (.str b) t (n := .str) rfl)⟩
  | lst b =>
    simp only [Den] at hx
    obtain ⟨p, us, rfl, hp, hu⟩ := hx
    exact ⟨_, .base (.lst (e _ _ hp)), fun t => kit_ty (kit1 (.lst b) t (n := .list) rfl)⟩
  | tup b =>
    simp only [Den] at hx
    obtain ⟨p, us, rfl, hp, hu⟩ := hx
    exact ⟨_, tupX (sub_t e hp), fun t => kit_ty (kit1 (.tup b) t (n := .tuple) rfl)⟩
  | dct a b =>
    simp only [Den] at hx
    obtain ⟨p, us, rfl, hp, hu⟩ := hx
    exact ⟨_, .base (.dK (e _ _ hp)), fun t => kit_ty (kit1 (.dct a b) t (n := .dict) rfl)⟩
  | ins a b c => simp [isIns] at hi
  | scr a => simp [isIns] at hi
/-- .. an own class's instance too -/
theorem isi_tyX {N : List Str} (hK : ∀ c ∈ N, ClAt X.K c) {x d : D} {v : V} {ts : List Ty} (h : (if isIns x then insI N x else some (.bl (ts.any (isi1 x)))) = some d) (hx : Den X.K G x v) (e : Sub G H) :
    d = .bl (ts.any (isi1 x)) ∧ ∃ ty : Value, TyX X.K H v ty ∧ ∀ t : Ty, PySem.W.kitOne X.K ty (.type (sT t)) = some (isi1 x t) := by
  split at h
  · unfold insI at h
    split at h
    · split at h
      · rename_i hc
        cases h
        obtain ⟨C, hC, cl, a1, a2, a3, a4, k1, k2, k3, k4, k5, k6⟩ := (hK _ hc).ex
        simp only [Den] at hx
        obtain ⟨a, C', dx, nvs, rfl, hp, hC', _⟩ := hx
        rw [hC] at hC'
        cases hC'
        refine ⟨?_, .ref C, .base (.ins (e _ _ hp) cl a1 a2 a3 a4), fun t => ?_⟩
        · congr 1
          symm
          rw [List.any_eq_false]
          intro t _
          cases t <;> simp [isi1]
        · cases t <;> first | exact k1 | exact k2 | exact k3 | exact k4 | exact k5 | exact k6
      · cases h
    · cases h
  · rename_i hi
    cases h
    obtain ⟨s, ty, hk⟩ := isi_ty (by simpa using hi) hx e
    exact ⟨rfl, _, ty, hk⟩
theorem kitAll {K : PySem.W.Frag} {s : Value} {x : D} (h : ∀ t : Ty, PySem.W.kitOne K s (.type (sT t)) = some (isi1 x t)) : ∀ ts : List Ty, PySem.W.kitAny K s (ts.map fun t => Value.type (sT t)) = some (ts.any (isi1 x))
  | [] => kitAny_nil
  | t :: ts => by
    refine kitAny_cons (h t) (fun hb => ?_) (fun hb => ?_)
    · rw [List.any_cons, hb, Bool.false_or]; exact kitAll h ts
    · rw [List.any_cons, hb, Bool.true_or]
end

section
variable {Y : Stat} {sc : Scope} {fc : Str → Bool} {pos p p1 p2 : Pos}

/-! ### names, constants -/
theorem getV_some {τ : List Sl} {i : Nat} {d : D} (h : getV τ i = some d) : τ[i]? = some (.v d) := by
  unfold getV at h
  split at h
  · rename_i e; cases h; exact e
  · cases h
theorem getO_some {τ : List Sl} {i : Nat} {ds : List D} (h : getO τ i = some ds) : τ[i]? = some (.o (.lst ds)) := by
  unfold getO at h
  split at h
  · rename_i e; cases h; exact e
  · cases h
theorem se_var {i : Nat} {x : Str} (hN : Y.N[i]? = some x) (hv : Vis sc x) (hd : (x == ("__debug__" : Str)) = false) (hcd : (x == ("__classdict__" : Str)) = false) : SE Y sc fc (.Name x pos) (fun τ => getV τ i) := by
  refine ⟨fun X ok H0 G0 G W H τ σ d w s h Q q => ?_⟩
  obtain ⟨v, hv', dv⟩ := s.val i d (getV_some h)
  exact ⟨_, pe_var (by rw [ok.eN]; exact hN) (ok.vis hv) hd hcd, v, hv', q.here w dv⟩
theorem se_glob {k : Nat} {x : Str} (hk : (k, x) ∈ Y.cns) (hg : sc.names.lookup x = some .globalImplicit) (hd : (x == ("__debug__" : Str)) = false) : SE Y sc fc (.Name x pos) (fun _ => Y.Z.C k) := by
  refine ⟨fun X ok H0 G0 G W H τ σ d w s h Q q => ?_⟩
  obtain ⟨u, v, d', hm, r, hc, dv⟩ := ok.cns k x hk
  rw [hc] at h
  cases h
  exact ⟨_, pe_glob (ok.gl hg) hm r hd, q.here w (dv G)⟩
theorem se_int {n : Int} {j : Nat} : SE Y sc fc (.Constant (.int n) j pos) (fun _ => some (.int n)) :=
  ⟨fun X ok H0 G0 G W H τ σ d w s h Q q => by cases h; exact ⟨_, pe_int, q.here w (by simp only [Den])⟩⟩
theorem se_bl {n : Bool} {j : Nat} : SE Y sc fc (.Constant (.bool n) j pos) (fun _ => some (.bl n)) :=
  ⟨fun X ok H0 G0 G W H τ σ d w s h Q q => by cases h; exact ⟨_, pe_bl, q.here w (by simp only [Den])⟩⟩
theorem se_non {j : Nat} : SE Y sc fc (.Constant .none j pos) (fun _ => some .non) :=
  ⟨fun X ok H0 G0 G W H τ σ d w s h Q q => by cases h; exact ⟨_, pe_non, q.here w (by simp only [Den])⟩⟩
theorem se_str {x : List Nat} {j : Nat} : SE Y sc fc (.Constant (.str (mkS x)) j pos) (fun _ => some (.str x)) :=
  ⟨fun X ok H0 G0 G W H τ σ d w s h Q q => by cases h; exact ⟨_, pe_str, q.here w (by simp only [Den])⟩⟩

/-! ### operators -/
variable {a b c : Expr} {fa fb fd : List Sl → Option D}
theorem se_bin {o : BO} (ha : SE Y sc fc a fa) (hb : SE Y sc fc b fb) : SE Y sc fc (.BinOp a (opB o) b pos) (fun τ => (fa τ).bind fun x => (fb τ).bind fun y => binD o x y) := by
  refine ⟨fun X ok H0 G0 G W H τ σ d w s h Q q => ?_⟩
  obtain ⟨x, hx, h⟩ := bnd h
  obtain ⟨y, hy, h⟩ := bnd h
  refine ⟨_, pe_op opR_u pe_tu pe_tu, ?_⟩
  refine ha.run X ok _ _ _ _ _ _ _ _ w s hx _ fun v G1 H1 e1 w1 dv => ?_
  refine hb.run X ok _ _ _ _ _ _ _ _ w1 (s.mono e1) hy _ fun u G2 H2 e2 w2 du => ?_
  exact bin_run h (dv.mono e2) du w2 fun z G' H' e' w' dz => q z G' H' ((e1.trans e2).trans e') w' dz
theorem se_neg (ha : SE Y sc fc a fa) : SE Y sc fc (.UnaryOp .USub a pos) (fun τ => (fa τ).bind fun x => (intD x).map fun i => .int (-i)) := by
  refine ⟨fun X ok H0 G0 G W H τ σ d w s h Q q => ?_⟩
  obtain ⟨x, hx, h⟩ := bnd h
  refine ⟨_, pe_un un_neg pe_tu, ?_⟩
  refine ha.run X ok _ _ _ _ _ _ _ _ w s hx _ fun v G1 H1 e1 w1 dv => ?_
  cases x <;> simp only [intD] at h <;> try cases h
  simp only [Den] at dv
  exact ⟨_, dv, q _ _ _ e1 w1 (by simp only [Den])⟩
theorem dlook_den {K : PySem.W.Frag} {G : Hp} : ∀ {ks vs : List D} {kvs : List (Key × V)} (q : Key), ks.map D.key = kvs.map (fun p => some p.1) → DenL K G vs (kvs.map (fun p => p.2)) →
    (∃ d v, dlook ks vs q = some d ∧ valV kvs q = some v ∧ Den K G d v) ∨ (dlook ks vs q = none ∧ valV kvs q = none)
  | [], vs, kvs, q, h1, h2 => by
    cases kvs with
    | nil => exact .inr ⟨by simp [dlook], rfl⟩
    | cons p r => simp at h1
  | k :: ks, vs, [], q, h1, h2 => by simp at h1
  | k :: ks, [], p :: r, q, h1, h2 => by simp [DenL] at h2
  | k :: ks, d :: vs, p :: r, q, h1, h2 => by
    simp only [List.map_cons, List.cons.injEq] at h1
    simp only [List.map_cons, DenL] at h2
    obtain ⟨v, r', e, d1, d2⟩ := h2
    simp only [List.cons.injEq] at e
    obtain ⟨e1, e2⟩ := e
    subst e1 e2
    by_cases hq : p.1 = q
    · left
      refine ⟨d, p.2, ?_, valV_pos hq, d1⟩
      simp [dlook, h1.1, hq]
    · have hk : ¬ D.key k = some q := by rw [h1.1]; intro z; exact hq (Option.some.inj z)
      rw [valV_neg hq]
      simp only [dlook, if_neg hk]
      exact dlook_den q h1.2 d2
theorem key_den0 {K : PySem.W.Frag} {G : Hp} {x : D} {v : V} {k : Key} (h : D.key x = some k) (hx : Den K G x v) : v = kV k := by
  cases x <;> simp only [D.key] at h <;> cases h <;> (simp only [Den] at hx; exact hx)
theorem dget_den {K : PySem.W.Frag} {G H : Hp} {ks vs : List D} {u : V} {x : D} {v : V} {q : Key} (hx : Den K G x v) (hq : D.key x = some q) (hy : Den K G (.dct ks vs) u) (e : Sub G H) :
    ∃ a o, u = .ref a ∧ (∃ kvs, H a = some (.dK kvs)) ∧ DGet H a v o ∧ ((∃ d w, dlook ks vs q = some d ∧ o = some w ∧ Den K G d w) ∨ (dlook ks vs q = none ∧ o = none)) := by
  simp only [Den] at hy
  obtain ⟨a, kvs, rfl, ha, h1, h2⟩ := hy
  rw [key_den0 hq hx]
  refine ⟨a, valV kvs q, rfl, ⟨kvs, e _ _ ha⟩, DGet.k (e _ _ ha), ?_⟩
  rcases dlook_den q h1 h2 with ⟨d, w, a1, a2, a3⟩ | ⟨a1, a2⟩
  · exact .inl ⟨d, w, a1, a2, a3⟩
  · exact .inr ⟨a1, a2⟩
theorem cmpX_or {o : CO} {x y : D} {k : Bool} (h : cmpX o x y = some k) : cmpD o x y = some k ∨ ∃ ks vs q, y = .dct ks vs ∧ D.key x = some q ∧ ((o = .isin ∧ k = (dlook ks vs q).isSome) ∨ (o = .notin ∧ k = !(dlook ks vs q).isSome)) := by
  cases y <;> try exact .inl h
  rename_i ks vs
  cases o <;> first
    | exact .inl h
    | (right
       simp only [cmpX, Option.map_eq_some_iff] at h
       obtain ⟨q, h1, h2⟩ := h
       first
         | exact ⟨ks, vs, q, rfl, h1, .inl ⟨rfl, h2.symm⟩⟩
         | exact ⟨ks, vs, q, rfl, h1, .inr ⟨rfl, h2.symm⟩⟩)
theorem isSome_of {α β : Type} {P : α → β → Prop} {a : Option α} {b : Option β} (h : (∃ d w, a = some d ∧ b = some w ∧ P d w) ∨ (a = none ∧ b = none)) : a.isSome = b.isSome := by
  rcases h with ⟨d, w, rfl, rfl, _⟩ | ⟨rfl, rfl⟩ <;> rfl
theorem se_cmp {o : CO} (ha : SE Y sc fc a fa) (hb : SE Y sc fc b fb) (hs : notSet b = true) : SE Y sc fc (.Compare a [opC o] [b] pos) (fun τ => (fa τ).bind fun x => (fb τ).bind fun y => (cmpX o x y).map .bl) := by
  refine ⟨fun X ok H0 G0 G W H τ σ d w s h Q q => ?_⟩
  obtain ⟨x, hx, h⟩ := bnd h
  obtain ⟨y, hy, h⟩ := bnd h
  obtain ⟨k, hk, rfl⟩ := mpd h
  have hu : X.A.units + 1 < cLine := by have := ok.room.units; omega
  rcases cmpX_or hk with hk | ⟨ks, vs, q', rfl, hq, ⟨rfl, rfl⟩ | ⟨rfl, rfl⟩⟩
  · refine ⟨_, pe_cmpR opR_u pe_tu pe_tu (behind_no hs), ?_⟩
    refine ha.run X ok _ _ _ _ _ _ _ _ w s hx _ fun v G1 H1 e1 w1 dv => ?_
    refine hb.run X ok _ _ _ _ _ _ _ _ w1 (s.mono e1) hy _ fun u G2 H2 e2 w2 du => ?_
    exact cmp_run ok.room.units hk (dv.mono e2) du w2.gh (q _ _ _ (e1.trans e2) w2 (by simp only [Den]))
  · refine ⟨_, pe_cmp (pc_din hu pe_tu pe_tu) (behind_no hs), ?_⟩
    refine ha.run X ok _ _ _ _ _ _ _ _ w s hx _ fun v G1 H1 e1 w1 dv => ?_
    refine hb.run X ok _ _ _ _ _ _ _ _ w1 (s.mono e1) hy _ fun u G2 H2 e2 w2 du => ?_
    obtain ⟨p, ob, eu, _, g, hh⟩ := dget_den (dv.mono e2) hq du w2.gh
    refine ⟨p, ob, eu, g, ?_⟩
    rw [← isSome_of hh]
    exact q _ _ _ (e1.trans e2) w2 (by simp only [Den])
  · refine ⟨_, pe_cmp (pc_dnotin hu pe_tu pe_tu) (behind_no hs), ?_⟩
    refine ha.run X ok _ _ _ _ _ _ _ _ w s hx _ fun v G1 H1 e1 w1 dv => ?_
    refine hb.run X ok _ _ _ _ _ _ _ _ w1 (s.mono e1) hy _ fun u G2 H2 e2 w2 du => ?_
    obtain ⟨p, ob, eu, _, g, hh⟩ := dget_den (dv.mono e2) hq du w2.gh
    refine ⟨p, ob, eu, g, ?_⟩
    rw [← isSome_of hh]
    exact q _ _ _ (e1.trans e2) w2 (by simp only [Den])
theorem st_cmp {o : CO} (ha : SE Y sc fc a fa) (hb : SE Y sc fc b fb) (hs : notSet b = true) : ST Y sc fc (.Compare a [opC o] [b] pos) (fun τ => (fa τ).bind fun x => (fb τ).bind fun y => cmpX o x y) := by
  refine ⟨fun X ok H0 G0 G W H τ σ d w s h Q q => ?_⟩
  obtain ⟨x, hx, h⟩ := bnd h
  obtain ⟨y, hy, hk⟩ := bnd h
  have hu : X.A.units + 1 < cLine := by have := ok.room.units; omega
  rcases cmpX_or hk with hk | ⟨ks, vs, q', rfl, hq, ⟨rfl, rfl⟩ | ⟨rfl, rfl⟩⟩
  · refine ⟨_, pt_cmpR opR_u pe_tu pe_tu (behind_no hs), ?_⟩
    refine ha.run X ok _ _ _ _ _ _ _ _ w s hx _ fun v G1 H1 e1 w1 dv => ?_
    refine hb.run X ok _ _ _ _ _ _ _ _ w1 (s.mono e1) hy _ fun u G2 H2 e2 w2 du => ?_
    exact cmp_run ok.room.units hk (dv.mono e2) du w2.gh ⟨_, rfl, q _ _ (e1.trans e2) w2⟩
  · refine ⟨_, pt_cmp (pc_din hu pe_tu pe_tu) (behind_no hs), ?_⟩
    refine ha.run X ok _ _ _ _ _ _ _ _ w s hx _ fun v G1 H1 e1 w1 dv => ?_
    refine hb.run X ok _ _ _ _ _ _ _ _ w1 (s.mono e1) hy _ fun u G2 H2 e2 w2 du => ?_
    obtain ⟨p, ob, eu, _, g, hh⟩ := dget_den (dv.mono e2) hq du w2.gh
    refine ⟨p, ob, eu, g, ?_⟩
    rw [← isSome_of hh]
    exact ⟨_, rfl, q _ _ (e1.trans e2) w2⟩
  · refine ⟨_, pt_cmp (pc_dnotin hu pe_tu pe_tu) (behind_no hs), ?_⟩
    refine ha.run X ok _ _ _ _ _ _ _ _ w s hx _ fun v G1 H1 e1 w1 dv => ?_
    refine hb.run X ok _ _ _ _ _ _ _ _ w1 (s.mono e1) hy _ fun u G2 H2 e2 w2 du => ?_
    obtain ⟨p, ob, eu, _, g, hh⟩ := dget_den (dv.mono e2) hq du w2.gh
    refine ⟨p, ob, eu, g, ?_⟩
    rw [← isSome_of hh]
    exact ⟨_, rfl, q _ _ (e1.trans e2) w2⟩
theorem last_no {o p : CmpOp} {b c : Expr} (h : notSet c = true) : lastMarks [o, p] [b, c] = false := by
  show behindInMarks p c = false
  exact behind_no h
theorem se_chain {o r : CO} (ha : SE Y sc fc a fa) (hb : SE Y sc fc b fb) (hc : SE Y sc fc c fd) (hs : notSet c = true) : SE Y sc fc (.Compare a [opC o, opC r] [b, c] pos)
    (fun τ => (fa τ).bind fun x => (fb τ).bind fun y => (cmpD o x y).bind fun k => bif k then (fd τ).bind fun z => (cmpD r y z).map .bl else some (.bl false)) := by
  refine ⟨fun X ok H0 G0 G W H τ σ d w s h Q q => ?_⟩
  obtain ⟨x, hx, h⟩ := bnd h
  obtain ⟨y, hy, h⟩ := bnd h
  obtain ⟨k, hk, h⟩ := bnd h
  refine ⟨_, pe_chain opR_u opR_u pe_tu pe_tu pe_tu (last_no hs), ?_⟩
  refine ha.run X ok _ _ _ _ _ _ _ _ w s hx _ fun v G1 H1 e1 w1 dv => ?_
  refine hb.run X ok _ _ _ _ _ _ _ _ w1 (s.mono e1) hy _ fun u G2 H2 e2 w2 du => ?_
  refine cmp_run ok.room.units hk (dv.mono e2) du w2.gh ⟨_, rfl, ?_⟩
  cases k with
  | false => cases h; exact iteF (q _ _ _ (e1.trans e2) w2 (by simp only [Den]))
  | true =>
    obtain ⟨z, hz, h⟩ := bnd h
    obtain ⟨m, hm, rfl⟩ := mpd h
    refine iteT ?_
    refine hc.run X ok _ _ _ _ _ _ _ _ w2 (s.mono (e1.trans e2)) hz _ fun z' G3 H3 e3 w3 dz => ?_
    exact cmp_run ok.room.units hm (du.mono e3) dz w3.gh (q _ _ _ ((e1.trans e2).trans e3) w3 (by simp only [Den]))
theorem st_chain {o r : CO} (ha : SE Y sc fc a fa) (hb : SE Y sc fc b fb) (hc : SE Y sc fc c fd) (hs : notSet c = true) : ST Y sc fc (.Compare a [opC o, opC r] [b, c] pos)
    (fun τ => (fa τ).bind fun x => (fb τ).bind fun y => (cmpD o x y).bind fun k => bif k then (fd τ).bind fun z => cmpD r y z else some false) := by
  refine ⟨fun X ok H0 G0 G W H τ σ d w s h Q q => ?_⟩
  obtain ⟨x, hx, h⟩ := bnd h
  obtain ⟨y, hy, h⟩ := bnd h
  obtain ⟨k, hk, h⟩ := bnd h
  refine ⟨_, pt_chain opR_u opR_u pe_tu pe_tu pe_tu (last_no hs), ?_⟩
  refine ha.run X ok _ _ _ _ _ _ _ _ w s hx _ fun v G1 H1 e1 w1 dv => ?_
  refine hb.run X ok _ _ _ _ _ _ _ _ w1 (s.mono e1) hy _ fun u G2 H2 e2 w2 du => ?_
  refine cmp_run ok.room.units hk (dv.mono e2) du w2.gh ⟨_, rfl, ?_⟩
  cases k with
  | false => cases h; exact iteF ⟨_, rfl, q _ _ (e1.trans e2) w2⟩
  | true =>
    obtain ⟨z, hz, hm⟩ := bnd h
    refine iteT ?_
    refine hc.run X ok _ _ _ _ _ _ _ _ w2 (s.mono (e1.trans e2)) hz _ fun z' G3 H3 e3 w3 dz => ?_
    exact cmp_run ok.room.units hm (du.mono e3) dz w3.gh ⟨_, rfl, q _ _ ((e1.trans e2).trans e3) w3⟩

/-! ### truth -/
theorem st_of (ha : SE Y sc fc a fa) (hp : plainTest a = true) : ST Y sc fc a (fun τ => (fa τ).bind truth) := by
  refine ⟨fun X ok H0 G0 G W H τ σ d w s h Q q => ?_⟩
  obtain ⟨x, hx, h⟩ := bnd h
  refine ⟨_, pt_truth pe_tu (isTrue_of hp), ?_⟩
  refine ha.run X ok _ _ _ _ _ _ _ _ w s hx _ fun v G1 H1 e1 w1 dv => ?_
  exact ⟨_, tru_run h dv w1.gh, q _ _ e1 w1⟩
theorem ST.imp {f g : List Sl → Option Bool} (h : ST Y sc fc a f) (e : ∀ τ b, g τ = some b → f τ = some b) : ST Y sc fc a g :=
  ⟨fun X ok H0 G0 G W H τ σ b w s hg Q q => h.run X ok H0 G0 G W H τ σ b w s (e τ b hg) Q q⟩
theorem SE.imp {f g : List Sl → Option D} (h : SE Y sc fc a f) (e : ∀ τ b, g τ = some b → f τ = some b) : SE Y sc fc a g :=
  ⟨fun X ok H0 G0 G W H τ σ b w s hg Q q => h.run X ok H0 G0 G W H τ σ b w s (e τ b hg) Q q⟩
variable {es : List Expr} {ga gb : List Sl → Option Bool}
theorem st_not (ha : ST Y sc fc a ga) : ST Y sc fc (.UnaryOp .Not a pos) (fun τ => (ga τ).map not) := by
  refine ⟨fun X ok H0 G0 G W H τ σ d w s h Q q => ?_⟩
  obtain ⟨x, hx, rfl⟩ := mpd h
  exact ⟨_, pt_not pt_tu, ha.run X ok _ _ _ _ _ _ _ _ w s hx _ fun G1 H1 e1 w1 => q _ _ e1 w1⟩
theorem se_not (ha : SE Y sc fc a fa) : SE Y sc fc (.UnaryOp .Not a pos) (fun τ => ((fa τ).bind truth).map fun b => .bl (!b)) := by
  refine ⟨fun X ok H0 G0 G W H τ σ d w s h Q q => ?_⟩
  obtain ⟨x, hx, rfl⟩ := mpd h
  obtain ⟨y, hy, hx⟩ := bnd hx
  refine ⟨_, pe_notT pe_tu, ?_⟩
  refine ha.run X ok _ _ _ _ _ _ _ _ w s hy _ fun v G1 H1 e1 w1 dv => ?_
  exact ⟨x, tru_run hx dv w1.gh, q _ _ _ e1 w1 (by simp only [Den])⟩
/-- and, or: as values and as tests -/
theorem blD_some {d : D} {b : Bool} (h : blD d = some b) : d = .bl b := by
  cases d <;> simp [blD] at h
  subst h; rfl
theorem se_one {op : BoolOp} (ha : SE Y sc fc a fa) : SE Y sc fc (.BoolOp op [a] pos) fa := by
  refine ⟨fun X ok H0 G0 G W H τ σ d w s h Q q => ⟨_, pe_one pe_tu, ha.run X ok _ _ _ _ _ _ _ _ w s h _ q⟩⟩
theorem se_and (ha : SE Y sc fc a fa) (hb : SE Y sc fc (.BoolOp .And (b :: es) pos) fb) : SE Y sc fc (.BoolOp .And (a :: b :: es) pos) (fun τ => ((fa τ).bind blD).bind fun k => bif k then fb τ else some (.bl false)) := by
  refine ⟨fun X ok H0 G0 G W H τ σ d w s h Q q => ?_⟩
  obtain ⟨k, hk, h⟩ := bnd h
  obtain ⟨x, hx, hk⟩ := bnd hk
  have := blD_some hk
  subst this
  refine ⟨_, pe_and pe_tu pe_tu, ?_⟩
  refine ha.run X ok _ _ _ _ _ _ _ _ w s hx _ fun v G1 H1 e1 w1 dv => ?_
  simp only [Den] at dv
  refine ⟨k, dv, ?_⟩
  cases k with
  | true => exact iteT (hb.run X ok _ _ _ _ _ _ _ _ w1 (s.mono e1) h _ fun v G2 H2 e2 w2 dv => q _ _ _ (e1.trans e2) w2 dv)
  | false => cases h; exact iteF (q _ _ _ e1 w1 (by simp only [Den]))
theorem se_or (ha : SE Y sc fc a fa) (hb : SE Y sc fc (.BoolOp .Or (b :: es) pos) fb) : SE Y sc fc (.BoolOp .Or (a :: b :: es) pos) (fun τ => ((fa τ).bind blD).bind fun k => bif k then some (.bl true) else fb τ) := by
  refine ⟨fun X ok H0 G0 G W H τ σ d w s h Q q => ?_⟩
  obtain ⟨k, hk, h⟩ := bnd h
  obtain ⟨x, hx, hk⟩ := bnd hk
  have := blD_some hk
  subst this
  refine ⟨_, pe_or pe_tu pe_tu, ?_⟩
  refine ha.run X ok _ _ _ _ _ _ _ _ w s hx _ fun v G1 H1 e1 w1 dv => ?_
  simp only [Den] at dv
  refine ⟨k, dv, ?_⟩
  cases k with
  | true => cases h; exact iteT (q _ _ _ e1 w1 (by simp only [Den]))
  | false => exact iteF (hb.run X ok _ _ _ _ _ _ _ _ w1 (s.mono e1) h _ fun v G2 H2 e2 w2 dv => q _ _ _ (e1.trans e2) w2 dv)
theorem SW.st {f : List Sl → Option Bool} (h : SW Y sc fc a f) : ST Y sc fc a f :=
  ⟨fun X ok H0 G0 G W H τ σ b w s hg Q q => by
    obtain ⟨t, p, r⟩ := h.run X ok H0 G0 G W H τ σ b w s hg Q q
    exact ⟨t, p.pt, r⟩⟩
theorem sw_and1 (ha : ST Y sc fc a ga) : SW Y sc fc (.BoolOp .And [a] pos) ga :=
  ⟨fun X ok H0 G0 G W H τ σ b w s h Q q => ⟨_, pw_and1 pt_tu, ha.run X ok _ _ _ _ _ _ _ _ w s h _ q⟩⟩
theorem sw_or1 (ha : ST Y sc fc a ga) : SW Y sc fc (.BoolOp .Or [a] pos) ga :=
  ⟨fun X ok H0 G0 G W H τ σ b w s h Q q => ⟨_, pw_or1 pt_tu, ha.run X ok _ _ _ _ _ _ _ _ w s h _ q⟩⟩
theorem sw_and (ha : ST Y sc fc a ga) (hb : SW Y sc fc (.BoolOp .And (b :: es) pos) gb) : SW Y sc fc (.BoolOp .And (a :: b :: es) pos) (fun τ => (ga τ).bind fun k => bif k then gb τ else some false) := by
  refine ⟨fun X ok H0 G0 G W H τ σ d w s h Q q => ?_⟩
  obtain ⟨k, hk, h⟩ := bnd h
  refine ⟨_, pw_and pt_tu pw_tu, ?_⟩
  refine ha.run X ok _ _ _ _ _ _ _ _ w s hk _ fun G1 H1 e1 w1 => ?_
  cases k with
  | true => exact iteT (hb.run X ok _ _ _ _ _ _ _ _ w1 (s.mono e1) h _ fun G2 H2 e2 w2 => q _ _ (e1.trans e2) w2)
  | false => cases h; exact iteF (q _ _ e1 w1)
theorem sw_or (ha : ST Y sc fc a ga) (hb : SW Y sc fc (.BoolOp .Or (b :: es) pos) gb) : SW Y sc fc (.BoolOp .Or (a :: b :: es) pos) (fun τ => (ga τ).bind fun k => bif k then some true else gb τ) := by
  refine ⟨fun X ok H0 G0 G W H τ σ d w s h Q q => ?_⟩
  obtain ⟨k, hk, h⟩ := bnd h
  refine ⟨_, pw_or pt_tu pw_tu, ?_⟩
  refine ha.run X ok _ _ _ _ _ _ _ _ w s hk _ fun G1 H1 e1 w1 => ?_
  cases k with
  | true => cases h; exact iteT (q _ _ e1 w1)
  | false => exact iteF (hb.run X ok _ _ _ _ _ _ _ _ w1 (s.mono e1) h _ fun G2 H2 e2 w2 => q _ _ (e1.trans e2) w2)
theorem se_ite (hc : ST Y sc fc c ga) (ha : SE Y sc fc a fa) (hb : SE Y sc fc b fb) : SE Y sc fc (.IfExp c a b pos) (fun τ => (ga τ).bind fun k => bif k then fa τ else fb τ) := by
  refine ⟨fun X ok H0 G0 G W H τ σ d w s h Q q => ?_⟩
  obtain ⟨k, hk, h⟩ := bnd h
  refine ⟨_, pe_ifExp pt_tu pe_tu pe_tu, ?_⟩
  refine hc.run X ok _ _ _ _ _ _ _ _ w s hk _ fun G1 H1 e1 w1 => ?_
  cases k with
  | true => exact iteT (ha.run X ok _ _ _ _ _ _ _ _ w1 (s.mono e1) h _ fun v G2 H2 e2 w2 dv => q _ _ _ (e1.trans e2) w2 dv)
  | false => exact iteF (hb.run X ok _ _ _ _ _ _ _ _ w1 (s.mono e1) h _ fun v G2 H2 e2 w2 dv => q _ _ _ (e1.trans e2) w2 dv)

/-! ### lists of expressions, displays -/
variable {fL : List Sl → Option (List D)}
theorem sa_nil : SA Y sc fc [] (fun _ => some []) :=
  ⟨fun X ok H0 G0 G W H τ σ d w s h Q q => by cases h; exact ⟨_, pa_nil, q [] G H (Sub.refl G) w (by simp only [DenL])⟩⟩
theorem sa_cons (hn : notStar a = true) (ha : SE Y sc fc a fa) (hL : SA Y sc fc es fL) : SA Y sc fc (a :: es) (fun τ => (fa τ).bind fun d => (fL τ).map (d :: ·)) := by
  refine ⟨fun X ok H0 G0 G W H τ σ ds w s h Q q => ?_⟩
  obtain ⟨x, hx, h⟩ := bnd h
  obtain ⟨xs, hxs, rfl⟩ := mpd h
  refine ⟨_, pa_cons pe_tu pa_tu (star_cons hn), ?_⟩
  refine ha.run X ok _ _ _ _ _ _ _ _ w s hx _ fun v G1 H1 e1 w1 dv => ?_
  refine hL.run X ok _ _ _ _ _ _ _ _ w1 (s.mono e1) hxs _ fun vs G2 H2 e2 w2 dvs => ?_
  exact q _ _ _ (e1.trans e2) w2 (by simp only [DenL]; exact ⟨v, vs, rfl, dv.mono e2, dvs⟩)
theorem se_tup {k : Nat} (hL : SA Y sc fc es fL) : SE Y sc fc (.Tuple es k pos) (fun τ => (fL τ).bind fun ds => if ds.length ≤ line then some (.tup ds) else none) := by
  refine ⟨fun X ok H0 G0 G W H τ σ d w s h Q q => ?_⟩
  obtain ⟨xs, hxs, h⟩ := bnd h
  split at h
  · rename_i hl
    cases h
    refine ⟨_, pe_tup pa_tu, ?_⟩
    refine hL.run X ok _ _ _ _ _ _ _ _ w s hxs _ fun vs G1 H1 e1 w1 dvs => ?_
    refine ⟨le_line (by rw [← dvs.length]; exact hl), fun p hp => q _ _ _ (e1.trans (sub_upd (w1.gnone hp))) (w1.new hp) ?_⟩
    simp only [Den]
    exact ⟨p, vs, rfl, SqT.of upd_same, dvs.mono (sub_upd (w1.gnone hp))⟩
  · cases h
theorem se_lst (hL : SA Y sc fc es fL) : SE Y sc fc (.List es pos) (fun τ => (fL τ).bind fun ds => if ds.length ≤ line then some (.lst ds) else none) := by
  refine ⟨fun X ok H0 G0 G W H τ σ d w s h Q q => ?_⟩
  obtain ⟨xs, hxs, h⟩ := bnd h
  split at h
  · rename_i hl
    cases h
    refine ⟨_, pe_lst pa_tu, ?_⟩
    refine hL.run X ok _ _ _ _ _ _ _ _ w s hxs _ fun vs G1 H1 e1 w1 dvs => ?_
    refine ⟨le_line (by rw [← dvs.length]; exact hl), fun p hp => q _ _ _ (e1.trans (sub_upd (w1.gnone hp))) (w1.new hp) ?_⟩
    simp only [Den]
    exact ⟨p, vs, rfl, upd_same, dvs.mono (sub_upd (w1.gnone hp))⟩
  · cases h

/-! ### places, slices -/
theorem noSl_of {e : Expr} (h : notSlice e = true) : NoSl e := by
  intro o i
  cases e <;> first | rfl | simp [notSlice] at h
theorem ixX_or {x y d : D} (h : ixX x y = some d) : ixD x y = some d ∨ ∃ ks vs q, x = .dct ks vs ∧ D.key y = some q ∧ dlook ks vs q = some d := by
  cases x <;> try exact .inl h
  right
  obtain ⟨q, h1, h2⟩ := bnd h
  exact ⟨_, _, q, rfl, h1, h2⟩
theorem se_ix (ha : SE Y sc fc a fa) (hb : SE Y sc fc b fb) (hs : notSlice b = true) : SE Y sc fc (.Subscript a b pos) (fun τ => (fa τ).bind fun x => (fb τ).bind fun y => ixX x y) := by
  refine ⟨fun X ok H0 G0 G W H τ σ d w s h Q q => ?_⟩
  obtain ⟨x, hx, h⟩ := bnd h
  obtain ⟨y, hy, h⟩ := bnd h
  have hu : X.A.units + 1 < cLine := by have := ok.room.units; omega
  rcases ixX_or h with h | ⟨ks, vs, q', rfl, hq, hl⟩
  · refine ⟨_, pe_ix ixR_u pe_tu pe_tu (plainIx_of hs), ?_⟩
    refine ha.run X ok _ _ _ _ _ _ _ _ w s hx _ fun v G1 H1 e1 w1 dv => ?_
    refine hb.run X ok _ _ _ _ _ _ _ _ w1 (s.mono e1) hy _ fun u G2 H2 e2 w2 du => ?_
    exact ix_run h (dv.mono e2) du w2 fun z G' H' e' w' dz => q z G' H' ((e1.trans e2).trans e') w' dz
  · refine ⟨_, pe_dget hu pe_tu pe_tu (noSl_of hs), ?_⟩
    refine ha.run X ok _ _ _ _ _ _ _ _ w s hx _ fun v G1 H1 e1 w1 dv => ?_
    refine hb.run X ok _ _ _ _ _ _ _ _ w1 (s.mono e1) hy _ fun u G2 H2 e2 w2 du => ?_
    obtain ⟨p, ob, eu, _, g, hh⟩ := dget_den du hq (dv.mono e2) w2.gh
    rcases hh with ⟨d', z, a1, a2, a3⟩ | ⟨a1, a2⟩
    · rw [hl] at a1
      cases a1
      subst a2
      exact ⟨p, z, eu, g, q _ _ _ (e1.trans e2) w2 a3⟩
    · rw [hl] at a1; cases a1
structure SO (Y : Stat) (sc : Scope) (fc : Str → Bool) (e : Option Expr) (f : List Sl → Option (Option Int)) : Prop where
  run : ∀ X, XOk Y sc fc X → ∀ H0 G0 G W H τ σ o, Wd H0 G0 G W H → SlOk X.K G W τ σ → f τ = some o → ∀ Q : Option Int → Hp → Prop, (∀ G' H', Sub G G' → Wd H0 G0 G' W H' → Q o H') → ∃ t, PO X e t ∧ t σ H Q
theorem so_none : SO Y sc fc none (fun _ => some none) :=
  ⟨fun X ok H0 G0 G W H τ σ o w s h Q q => by cases h; exact ⟨_, po_none, q G H (Sub.refl G) w⟩⟩
theorem so_some (ha : SE Y sc fc a fa) : SO Y sc fc (some a) (fun τ => (fa τ).bind fun d => (intD d).map some) := by
  refine ⟨fun X ok H0 G0 G W H τ σ o w s h Q q => ?_⟩
  obtain ⟨x, hx, h⟩ := bnd h
  obtain ⟨i, hi, rfl⟩ := mpd h
  cases x <;> simp [intD] at hi
  subst hi
  refine ⟨_, po_some pe_tu, ?_⟩
  refine ha.run X ok _ _ _ _ _ _ _ _ w s hx _ fun v G1 H1 e1 w1 dv => ?_
  simp only [Den] at dv
  exact ⟨_, dv, q _ _ e1 w1⟩
def TUo (X : Cx) (e : Option Expr) : TO := fun σ H Q => ∃ t, PO X e t ∧ t σ H Q
theorem po_tu {X : Cx} {e : Option Expr} : PO X e (TUo X e) := ⟨fun pins s σ H Q I ⟨_, p, h⟩ => p.run pins s σ H Q I h⟩
theorem se_sl {lo hi : Option Expr} {f1 f2 : List Sl → Option (Option Int)} (ha : SE Y sc fc a fa) (hl : SO Y sc fc lo f1) (hh : SO Y sc fc hi f2) : SE Y sc fc (.Subscript a (.Slice lo hi none p2) pos)
    (fun τ => (fa τ).bind fun x => (f1 τ).bind fun l => (f2 τ).bind fun h => slD l h x) := by
  refine ⟨fun X ok H0 G0 G W H τ σ d w s h Q q => ?_⟩
  obtain ⟨x, hx, h⟩ := bnd h
  obtain ⟨l, hl', h⟩ := bnd h
  obtain ⟨u, hu', h⟩ := bnd h
  refine ⟨_, pe_slice slR_u pe_tu po_tu po_tu, ?_⟩
  refine ha.run X ok _ _ _ _ _ _ _ _ w s hx _ fun v G1 H1 e1 w1 dv => ?_
  refine hl.run X ok _ _ _ _ _ _ _ _ w1 (s.mono e1) hl' _ fun G2 H2 e2 w2 => ?_
  refine hh.run X ok _ _ _ _ _ _ _ _ w2 (s.mono (e1.trans e2)) hu' _ fun G3 H3 e3 w3 => ?_
  exact sl_run h (dv.mono (e2.trans e3)) w3 fun z G' H' e' w' dz => q z G' H' (((e1.trans e2).trans e3).trans e') w' dz

/-! ### calls -/
theorem dbg_of {x : Str} (h : decide (x = ("__debug__" : Str)) = false) : (x == ("__debug__" : Str)) = false := by simpa using h
theorem call_run {X : Cx} (ok : XOk Y sc fc X) {i : Nat} {x : Str} (hi : (i, x) ∈ Y.fns) {H0 G0 G W H : Hp} {ds : List D} {d : D} {vs : List V} {Q : VK} (w : Wd H0 G0 G W H) (hd : DenL X.K G ds vs) (hF : Y.Z.F i ds = some d) (q : EQ X.K H0 G0 G W d Q) (E : XK) :
    spF X.K (Y.Z.F i) vs H Q E := ⟨ds, d, G, w.gh, hd, hF, fun v G' H' a b c e dv => q v G' H' b (w.call a b c e) dv⟩
theorem se_call {i : Nat} {x : Str} (hi : (i, x) ∈ Y.fns) (hg : sc.names.lookup x = some .globalImplicit) (hd : (x == ("__debug__" : Str)) = false) (hn : (a :: es).all notStar = true) (hL : SA Y sc fc (a :: es) fL) :
    SE Y sc fc (.Call (.Name x p) (a :: es) [] pos) (fun τ => (fL τ).bind fun ds => Y.Z.F i ds) := by
  refine ⟨fun X ok H0 G0 G W H τ σ d w s h Q q => ?_⟩
  obtain ⟨xs, hxs, h⟩ := bnd h
  obtain ⟨f, fd, ps, hm, hk, hb, hF⟩ := (ok.fns i x hi).ex
  simp only [List.all_cons, Bool.and_eq_true] at hn
  refine ⟨_, pe_call hF ok.room (ok.gl hg) hm hk hb .nil pass0 pa_tu hd (star_cons hn.1) (star_any hn.2), ?_⟩
  refine hL.run X ok _ _ _ _ _ _ _ _ w s hxs _ fun vs G1 H1 e1 w1 dvs => ?_
  rw [List.append_nil]
  exact call_run ok hi w1 dvs h (fun z G' H' e' w' dz => q z G' H' (e1.trans e') w' dz) _
theorem se_call0 {i : Nat} {x : Str} (hi : (i, x) ∈ Y.fns) (hg : sc.names.lookup x = some .globalImplicit) (hd : (x == ("__debug__" : Str)) = false) :
    SE Y sc fc (.Call (.Name x p) [] [] pos) (fun τ => Y.Z.F i []) := by
  refine ⟨fun X ok H0 G0 G W H τ σ d w s h Q q => ?_⟩
  obtain ⟨f, fd, ps, hm, hk, hb, hF⟩ := (ok.fns i x hi).ex
  refine ⟨_, pe_call0 hF ok.room (ok.gl hg) hm hk hb .nil pass0 hd, ?_⟩
  show spF X.K (Y.Z.F i) ([] : List V) H Q E0
  exact call_run ok hi w (by simp only [DenL]) h q _
theorem se_blt {f : BF} (hf : f = .gcd → Y.gcd = true) (hbl : f ≠ .gcd → nmF f ∈ Y.bl) (hg : sc.names.lookup (nmF f) = some .globalImplicit) (hn : (a :: es).all notStar = true) (hL : SA Y sc fc (a :: es) fL) :
    SE Y sc fc (.Call (.Name (nmF f) p) (a :: es) [] pos) (fun τ => (fL τ).bind fun ds => bltD f ds) := by
  refine ⟨fun X ok H0 G0 G W H τ σ d w s h Q q => ?_⟩
  obtain ⟨xs, hxs, h⟩ := bnd h
  simp only [List.all_cons, Bool.and_eq_true] at hn
  have key : PE X (.Call (.Name (nmF f) p) (a :: es) [] pos) (tCB (UCall X (valF f)) (TUa X (a :: es))) → TU X (.Call (.Name (nmF f) p) (a :: es) [] pos) σ H Q := fun hp => by
    refine ⟨_, hp, ?_⟩
    refine hL.run X ok _ _ _ _ _ _ _ _ w s hxs _ fun vs G1 H1 e1 w1 dvs => ?_
    exact blt_run ok.calm h dvs w1 fun z G' H' e' w' dz => q z G' H' (e1.trans e') w' dz
  refine key ?_
  by_cases hgc : f = .gcd
  · subst hgc
    exact pe_callBfun callR_u (ok.gl hg) (ok.gcd (hf rfl)) pa_tu (by decide +kernel) (star_cons hn.1) (star_any hn.2)
  · have hm := ok.bl _ (hbl hgc)
    have hb := bootF hgc
    obtain ⟨n1, n2⟩ := nameF hgc
    cases ht : tyF f with
    | none =>
      have ev : valF f = .builtin (idF f) := by unfold valF; rw [ht]
      rw [ev] at hb ⊢
      exact pe_callB callR_u (ok.gl hg) hm hb pa_tu n1 n2 (star_cons hn.1) (star_any hn.2)
    | some t =>
      have ev : valF f = .type t := by unfold valF; rw [ht]
      rw [ev] at hb ⊢
      exact pe_callTy callR_u (ok.gl hg) hm hb pa_tu n1 n2 (star_cons hn.1) (star_any hn.2)
end
end Pv

set_option Elab.async false
set_option linter.all false
set_option maxRecDepth 100000
set_option maxHeartbeats 4000000

namespace Pv
open PySem PySem.Spec L2

section
variable {Y : Stat} {sc : Scope} {fc : Str → Bool} {pos p p1 p2 : Pos} {a b c : Expr} {es : List Expr} {fa fb fd : List Sl → Option D} {fL fK : List Sl → Option (List D)}

/-! ### isinstance -/
theorem pe_ty {X : Cx} (ok : XOk Y sc fc X) {t : Ty} (hb : nmT t ∈ Y.bl) (hg : sc.names.lookup (nmT t) = some .globalImplicit) : PE X (.Name (nmT t) pos) (tC (.ty (sT t))) :=
  pe_bltn (ok.gl hg) (ok.bl _ hb) (bootT t) rfl (nameT t).1 (nameT t).2
theorem boot_isi : bootBuiltins "isinstance" = some (.builtin "isinstance") := by decide +kernel
theorem se_isi {t : Ty} (hi : ("isinstance" : Str) ∈ Y.bl) (hgi : sc.names.lookup ("isinstance" : Str) = some .globalImplicit) (hb : nmT t ∈ Y.bl) (hg : sc.names.lookup (nmT t) = some .globalImplicit) (hn : notStar a = true) (ha : SE Y sc fc a fa) :
    SE Y sc fc (.Call (.Name "isinstance" p) [a, .Name (nmT t) p1] [] pos) (fun τ => (fa τ).bind fun x => if isIns x then insI Y.Z.K x else some (.bl ([t].any (isi1 x)))) := by
  refine ⟨fun X ok H0 G0 G W H τ σ d w s h Q q => ?_⟩
  obtain ⟨x, hx, h⟩ := bnd h
  · refine ⟨_, pe_callB call_isi (ok.gl hgi) (ok.bl _ hi) boot_isi (pa_cons pe_tu (pa_cons (pe_ty ok hb hg) pa_nil (star_cons rfl)) (star_cons hn)) (by decide +kernel) (by decide +kernel) (star_cons hn) (star_any (by rfl)), ?_⟩
    refine ha.run X ok _ _ _ _ _ _ _ _ w s hx _ fun v G1 H1 e1 w1 dv => ?_
    obtain ⟨rfl, n, ty, hk⟩ := isi_tyX ok.cl h dv w1.gh
    exact ⟨v, .ty (sT t), n, .type (sT t), isi1 x t, rfl, .ty _, ty, hk t, by rw [← Bool.or_false (isi1 x t)]; exact q _ _ _ e1 w1 (by simp only [Den]; rfl)⟩
/-- the tuple of the classes -/
theorem pa_tys {X : Cx} (ok : XOk Y sc fc X) : ∀ {ts : List Ty} {ns : List Expr}, ns.length = ts.length → (∀ (i : Nat) n t, ns[i]? = some n → ts[i]? = some t → ∃ q, n = Expr.Name (nmT t) q ∧ nmT t ∈ Y.bl ∧ sc.names.lookup (nmT t) = some .globalImplicit) →
    PA X ns (fun _ H Q => Q (ts.map fun t => V.ty (sT t)) H)
  | [], [], _, _ => ⟨fun pos pins s σ H Q I h => pa_nil.run pos pins s σ H Q I h⟩
  | [], _ :: _, h, _ => by simp at h
  | _ :: _, [], h, _ => by simp at h
  | t :: ts, n :: ns, hl, hh => by
    obtain ⟨q, rfl, hb, hg⟩ := hh 0 n t rfl rfl
    have ih := pa_tys ok (ts := ts) (ns := ns) (by simpa using hl) fun i n t h1 h2 => hh (i + 1) n t (by simpa using h1) (by simpa using h2)
    exact ⟨fun pos pins s σ H Q I h => (pa_cons (pe_ty ok hb hg) ih (star_cons rfl)).run pos pins s σ H Q I h⟩
theorem cls_all : ∀ ts : List Ty, Paired ClsV (ts.map fun t => V.ty (sT t)) (ts.map fun t => Value.type (sT t))
  | [] => .nil
  | t :: ts => .cons (.ty _) (cls_all ts)
theorem se_isit {ts : List Ty} {ns : List Expr} {k : Nat} (hi : ("isinstance" : Str) ∈ Y.bl) (hgi : sc.names.lookup ("isinstance" : Str) = some .globalImplicit) (hl : ns.length = ts.length) (hz : ts.length ≤ 100)
    (hh : ∀ (i : Nat) n t, ns[i]? = some n → ts[i]? = some t → ∃ q, n = Expr.Name (nmT t) q ∧ nmT t ∈ Y.bl ∧ sc.names.lookup (nmT t) = some .globalImplicit) (hn : notStar a = true) (ha : SE Y sc fc a fa) :
    SE Y sc fc (.Call (.Name "isinstance" p) [a, .Tuple ns k p1] [] pos) (fun τ => (fa τ).bind fun x => if isIns x then insI Y.Z.K x else some (.bl (ts.any (isi1 x)))) := by
  refine ⟨fun X ok H0 G0 G W H τ σ d w s h Q q => ?_⟩
  obtain ⟨x, hx, h⟩ := bnd h
  · refine ⟨_, pe_callB call_isiT (ok.gl hgi) (ok.bl _ hi) boot_isi (pa_cons pe_tu (pa_cons (pe_tup (pa_tys ok hl hh)) pa_nil (star_cons rfl)) (star_cons hn)) (by decide +kernel) (by decide +kernel) (star_cons hn) (star_any (by rfl)), ?_⟩
    refine ha.run X ok _ _ _ _ _ _ _ _ w s hx _ fun v G1 H1 e1 w1 dv => ?_
    refine ⟨by rw [List.length_map, sizeLine_eq]; omega, fun z hz' => ?_⟩
    have w2 := w1.new (o := .tup (ts.map fun t => V.ty (sT t))) hz'
    have e2 : Sub _ _ := sub_upd (o := .tup (ts.map fun t => V.ty (sT t))) (w1.gnone hz')
    obtain ⟨rfl, n, ty, hk⟩ := isi_tyX (X := X) ok.cl h (dv.mono e2) w2.gh
    exact ⟨v, z, _, n, _, _, rfl, upd_same, cls_all ts, ty, kitAll hk ts, q _ _ _ (e1.trans e2) w2 (by simp only [Den])⟩

/-! ### dicts written -/
end
/-- the pairs' readings, chosen where they are used -/
def SD (Y : Stat) (sc : Scope) (fc : Str → Bool) (pos : Pos) (ks : List (Option Expr)) (vs : List Expr) (g : List Sl → Option (List D)) : Prop :=
  ∀ X, XOk Y sc fc X → ∃ trs, PPs X pos ks vs trs ∧ ∀ H0 G0 G W H τ σ ds, Wd H0 G0 G W H → SlOk X.K G W τ σ → g τ = some ds → ∀ Q : List (V × V) → Hp → Prop,
    (∀ us ws G' H', Sub G G' → Wd H0 G0 G' W H' → DenL X.K G' (evens ds) us → DenL X.K G' (odds ds) ws → us.length = ws.length → Q (us.zip ws) H') → tPairs trs σ H Q
section
variable {Y : Stat} {sc : Scope} {fc : Str → Bool} {pos p p1 p2 : Pos} {a b c : Expr} {es : List Expr} {fa fb fd : List Sl → Option D} {fL fK : List Sl → Option (List D)} {ks : List (Option Expr)} {vs : List Expr}
theorem sd_nil : SD Y sc fc pos [] [] (fun _ => some []) :=
  fun X ok => ⟨_, pps_nil, fun H0 G0 G W H τ σ ds w s h Q q => by cases h; exact q [] [] G H (Sub.refl G) w (by simp only [evens, DenL]) (by simp only [odds, DenL]) rfl⟩
theorem sd_cons (ha : SE Y sc fc a fa) (hb : SE Y sc fc b fb) (hL : SD Y sc fc pos ks vs fL) :
    SD Y sc fc pos (some a :: ks) (b :: vs) (fun τ => (fa τ).bind fun d => ((fb τ).bind fun e => (fL τ).map (e :: ·)).map (d :: ·)) := by
  intro X ok
  obtain ⟨trs, hp, hr⟩ := hL X ok
  refine ⟨(TU X a, TU X b) :: trs, pps_cons pe_tu pe_tu hp, fun H0 G0 G W H τ σ ds w s h Q q => ?_⟩
  obtain ⟨x, hx, h1⟩ := bnd h
  obtain ⟨ds', h2, rfl⟩ := mpd h1
  obtain ⟨y, hy, h3⟩ := bnd h2
  obtain ⟨ds, hds, rfl⟩ := mpd h3
  show TU X a σ H fun x H1 => TU X b σ H1 fun y H2 => tPairs trs σ H2 fun ps H3 => Q ((x, y) :: ps) H3
  refine ha.run X ok _ _ _ _ _ _ _ _ w s hx _ fun v G1 H1 e1 w1 dv => ?_
  refine hb.run X ok _ _ _ _ _ _ _ _ w1 (s.mono e1) hy _ fun u G2 H2 e2 w2 du => ?_
  refine hr _ _ _ _ _ _ _ _ w2 (s.mono (e1.trans e2)) hds _ fun us ws G3 H3 e3 w3 dus dws hl => ?_
  exact q (v :: us) (u :: ws) _ _ ((e1.trans e2).trans e3) w3 (by simp only [evens, DenL]; exact ⟨v, us, rfl, dv.mono (e2.trans e3), dus⟩) (by simp only [odds, DenL]; exact ⟨u, ws, rfl, du.mono e3, dws⟩) (by simp [hl])
theorem se_dct0 : SE Y sc fc (.Dict [] [] pos) (fun _ => some (.dct [] [])) := by
  refine ⟨fun X ok H0 G0 G W H τ σ d w s h Q q => ?_⟩
  cases h
  refine ⟨_, pe_dnewK, fun z hz => q _ _ _ (sub_upd (w.gnone hz)) (w.new hz) ?_⟩
  simp only [Den]
  exact ⟨z, [], rfl, upd_same, rfl, by simp [DenL]⟩
theorem key_den {K : PySem.W.Frag} {G : Hp} {x : D} {v : V} {k : Key} (h : D.key x = some k) (hx : Den K G x v) : v = kV k := by
  cases x <;> simp only [D.key] at h <;> cases h <;> (simp only [Den] at hx; exact hx)
theorem keys_den {K : PySem.W.Frag} {G : Hp} : ∀ {xs : List D} {us ws : List V}, distinctK (xs.map D.key) = true → DenL K G xs us → us.length = ws.length →
    ∃ kvs : List (Key × V), us.zip ws = kvs.map (fun kv => (kV kv.1, kv.2)) ∧ xs.map D.key = kvs.map (fun p => some p.1) ∧ kvs.map (fun p => p.2) = ws ∧ kvs.length = us.length
  | [], _, ws, _, h, hl => by
    simp only [DenL] at h
    subst h
    have : ws = [] := List.eq_nil_of_length_eq_zero (by simpa using hl.symm)
    subst this
    exact ⟨[], rfl, rfl, rfl, rfl⟩
  | x :: xs, _, ws, hd, h, hl => by
    simp only [DenL] at h
    obtain ⟨v, r, e, h1, h2⟩ := h
    subst e
    cases ws with
    | nil => simp at hl
    | cons y ws =>
      cases hk : D.key x with
      | none => simp [hk, distinctK] at hd
      | some k =>
        simp only [List.map_cons, hk, distinctK, Bool.and_eq_true] at hd
        obtain ⟨kvs, a1, a2, a3, a4⟩ := keys_den hd.2 h2 (by simpa using hl)
        exact ⟨(k, y) :: kvs, by simp [a1, key_den hk h1], by simp [hk, a2], by simp [a3], by simp [a4]⟩
theorem valV_none {kvs : List (Key × V)} {k : Key} (h : some k ∉ kvs.map fun p => some p.1) : valV kvs k = none := by
  unfold valV
  rw [Option.map_eq_none_iff, List.find?_eq_none]
  intro p hp z
  have e : p.1 = k := by simpa using z
  exact h (List.mem_map.mpr ⟨p, hp, by rw [e]⟩)
theorem distinct_snoc : ∀ {l : List (Option Key)} {k : Key}, distinctK (l ++ [some k]) = true → some k ∉ l ∧ distinctK l = true
  | [], k, _ => ⟨by simp, rfl⟩
  | none :: r, k, h => by simp [distinctK] at h
  | some j :: r, k, h => by
    simp only [List.cons_append, distinctK, Bool.and_eq_true, List.all_eq_true, decide_eq_true_eq] at h
    obtain ⟨h1, h2⟩ := h
    obtain ⟨a, b⟩ := distinct_snoc h2
    have hj : ¬ (some k = some j) := h1 (some k) (by simp)
    refine ⟨?_, ?_⟩
    · rw [List.mem_cons, not_or]
      exact ⟨hj, a⟩
    · simp only [distinctK, Bool.and_eq_true, List.all_eq_true, decide_eq_true_eq]
      exact ⟨fun x z => h1 x (List.mem_append_left _ z), b⟩
theorem distinct_app : ∀ {l m : List (Option Key)}, distinctK (l ++ m) = true → distinctK l = true
  | [], _, _ => rfl
  | none :: r, m, h => by simp [distinctK] at h
  | some j :: r, m, h => by
    simp only [List.cons_append, distinctK, Bool.and_eq_true, List.all_eq_true, decide_eq_true_eq] at h ⊢
    exact ⟨fun x z => h.1 x (List.mem_append_left _ z), distinct_app h.2⟩
theorem merge_new : ∀ {more kvs : List (Key × V)}, distinctK ((kvs ++ more).map fun p => some p.1) = true → mergeK kvs more = kvs ++ more
  | [], kvs, _ => by simp [mergeK]
  | p :: more, kvs, h => by
    have h1 : distinctK ((kvs.map fun p => some p.1) ++ [some p.1]) = true := by
      refine distinct_app (m := more.map fun p => some p.1) ?_
      simpa using h
    obtain ⟨a, _⟩ := distinct_snoc h1
    show mergeK (putK kvs p.1 p.2) more = _
    rw [putK_new _ (valV_none a)]
    have ih := merge_new (more := more) (kvs := kvs ++ [p]) (by simpa using h)
    simpa using ih
theorem se_dct (h0 : ks ≠ []) (hall : ks.all (·.isSome) = true) (hlen : ks.length = vs.length) (h15 : ks.length ≤ 15) (hL : SD Y sc fc pos ks vs fL) :
    SE Y sc fc (.Dict ks vs pos) (fun τ => (fL τ).bind fun ds => dctD (evens ds) (odds ds)) := by
  refine ⟨fun X ok H0 G0 G W H τ σ d w s h Q q => ?_⟩
  obtain ⟨ds, hds, h⟩ := bnd h
  unfold dctD at h
  split at h
  · rename_i hc
    cases h
    simp only [Bool.and_eq_true, decide_eq_true_eq] at hc
    obtain ⟨⟨c1, c2⟩, c3⟩ := hc
    obtain ⟨trs, hp, hr⟩ := hL X ok
    refine ⟨_, pe_disp hp hall hlen h0 h15, fun z hz => ?_⟩
    have w1 := w.newO (o := .dK []) hz
    have s1 : SlOk X.K G (upd W z (.dK [])) τ σ := ⟨s.len, s.val, fun i ds hi => let ⟨a, us, x, y, t⟩ := s.own i ds hi; ⟨a, us, x, by rw [upd_ne (ne_of_none y (w.wnone hz))]; exact y, t⟩, s.dis⟩
    refine hr _ _ _ _ _ _ _ _ w1 s1 hds _ fun us ws G1 H1 e1 w2 dus dws hl => ?_
    obtain ⟨kvs, a1, a2, a3, a4⟩ := keys_den c3 dus hl
    refine ⟨(w2.wh z _ upd_same).1, kvs, a1, by rw [a4, ← dus.length]; exact c2, ?_⟩
    have hm : mergeK [] kvs = kvs := by
      have := merge_new (more := kvs) (kvs := []) (by rw [List.nil_append, ← a2]; exact c3)
      simpa using this
    rw [hm]
    have hzG : G1 z = none := (w2.wh z _ upd_same).2
    have w3 := (w2.set (o' := .dK kvs) upd_same).give (o := .dK kvs) upd_same
    refine q _ _ _ (e1.trans (sub_upd hzG)) (?_ : Wd H0 G0 (upd G1 z (.dK kvs)) W (upd H1 z (.dK kvs))) ?_
    · have ew : del (upd (upd W z (.dK [])) z (.dK kvs)) z = W := by
        funext a
        by_cases ha : a = z
        · subst ha; rw [del_same]; exact (w.wnone hz).symm
        · rw [del_ne ha, upd_ne ha, upd_ne ha]
      rw [ew] at w3
      exact w3
    · simp only [Den]
      refine ⟨z, kvs, rfl, upd_same, a2, ?_⟩
      rw [a3]
      exact dws.mono (sub_upd hzG)
  · cases h

/-! ### reading a list of one's own -/
theorem se_ixo {i : Nat} {x : Str} (hN : Y.N[i]? = some x) (hv : Vis sc x) (hd : (x == ("__debug__" : Str)) = false) (hcd : (x == ("__classdict__" : Str)) = false) (hb : SE Y sc fc b fb) (hs : notSlice b = true) :
    SE Y sc fc (.Subscript (.Name x p) b pos) (fun τ => (getO τ i).bind fun xs => ((fb τ).bind intD).bind fun k => atI xs k) := by
  refine ⟨fun X ok H0 G0 G W H τ σ d w s h Q q => ?_⟩
  obtain ⟨xs, hxs, h⟩ := bnd h
  obtain ⟨k, hk, h⟩ := bnd h
  obtain ⟨y, hy, hk⟩ := bnd hk
  cases y <;> simp [intD] at hk
  subst hk
  obtain ⟨a, ob, h1, h2, h3⟩ := s.own i _ (getO_some hxs)
  simp only [DenO] at h3
  obtain ⟨us, rfl, h3⟩ := h3
  refine ⟨_, pe_ix ix_list (pe_var (by rw [ok.eN]; exact hN) (ok.vis hv) hd hcd) pe_tu (plainIx_of hs), ?_⟩
  refine ⟨_, h1, ?_⟩
  refine hb.run X ok _ _ _ _ _ _ _ _ w s hy _ fun v G1 H1 e1 w1 dv => ?_
  simp only [Den] at dv
  obtain ⟨z, hz, dz⟩ := atI_den (h3.mono e1) h
  exact ⟨a, us, _, z, rfl, dv, SqL.of (w1.wh _ _ h2).1, hz, q _ _ _ e1 w1 dz⟩
theorem se_leno {i : Nat} {x : Str} (hN : Y.N[i]? = some x) (hv : Vis sc x) (hd : (x == ("__debug__" : Str)) = false) (hcd : (x == ("__classdict__" : Str)) = false) (hl : ("len" : Str) ∈ Y.bl) (hg : sc.names.lookup ("len" : Str) = some .globalImplicit) :
    SE Y sc fc (.Call (.Name "len" p1) [.Name x p] [] pos) (fun τ => (getO τ i).map fun xs => .int xs.length) := by
  refine ⟨fun X ok H0 G0 G W H τ σ d w s h Q q => ?_⟩
  obtain ⟨xs, hxs, rfl⟩ := mpd h
  obtain ⟨a, ob, h1, h2, h3⟩ := s.own i _ (getO_some hxs)
  simp only [DenO] at h3
  obtain ⟨us, rfl, h3⟩ := h3
  refine ⟨_, pe_callB call_len_seq (ok.gl hg) (ok.bl _ hl) PySem.boot_len (pa_cons (pe_var (by rw [ok.eN]; exact hN) (ok.vis hv) hd hcd) pa_nil (star_cons rfl)) (by decide +kernel) (by decide +kernel) (star_cons rfl) (star_any rfl), ?_⟩
  exact ⟨_, h1, a, us, rfl, .inl (SqL.of (w.wh _ _ h2).1), q.here w (by simp only [Den]; rw [h3.length])⟩

/-! ### targets -/
theorem wipe_set {σ : St} {i : Nat} {x : Option V} : ∀ {vs : List Nat}, i ∈ vs → wipe (σ.set i x) vs = wipe σ vs
  | [], h => by cases h
  | v :: vs, h => by
    show (wipe (σ.set i x) vs).set v none = (wipe σ vs).set v none
    by_cases hv : i ∈ vs
    · rw [wipe_set hv]
    · have e : i = v := by
        rcases List.mem_cons.mp h with e | e
        · exact e
        · exact absurd e hv
      subst e
      have : ∀ (ws : List Nat), i ∉ ws → wipe (σ.set i x) ws = (wipe σ ws).set i x := by
        intro ws
        induction ws with
        | nil => intro _; rfl
        | cons u us ih =>
          intro hu
          show (wipe (σ.set i x) us).set u none = ((wipe σ us).set u none).set i x
          rw [ih (fun z => hu (List.mem_cons_of_mem _ z)), List.set_comm]
          intro z
          exact hu (by rw [z]; exact List.mem_cons_self)
      rw [this vs hv, List.set_set]
theorem wipe_wipe (σ : St) (vs : List Nat) : wipe (wipe σ vs) vs = wipe σ vs := by
  have key : ∀ ws : List Nat, (∀ w ∈ ws, w ∈ vs) → wipe (wipe σ ws) vs = wipe σ vs := by
    intro ws
    induction ws with
    | nil => intro _; rfl
    | cons u us ih =>
      intro h
      show wipe ((wipe σ us).set u none) vs = _
      rw [wipe_set (h u List.mem_cons_self), ih fun w hw => h w (List.mem_cons_of_mem _ hw)]
  exact key vs fun _ h => h
theorem sg_nm {i : Nat} {x : Str} (hN : Y.N[i]? = some x) (hx : Loc sc x) (hf : (fc x || decide (sc.names.lookup x = some .local)) = true) : SG Y sc fc (.Name x pos) (.nm i) := by
  refine ⟨fun X ok H0 G0 G W H τ σ d v τ' w s dv h Q q => ?_⟩
  cases h
  refine ⟨_, pg_name ok.nd (by rw [ok.eN]; exact hN) (ok.loc hx) (ok.hf hf), ?_⟩
  exact q _ (s.put dv) fun vs hv => wipe_set (hv i (by simp [tixs]))
structure SGs (Y : Stat) (sc : Scope) (fc : Str → Bool) (tgs : List Expr) (is : List Nat) : Prop where
  run : ∀ X, XOk Y sc fc X → ∀ G W H τ σ ds vs τ', SlOk X.K G W τ σ → DenL X.K G ds vs → setAll is ds τ = some τ' → ∀ Q : L2.St → Hp → Prop,
    (∀ σ', SlOk X.K G W τ' σ' → (∀ ws, (∀ i ∈ is, i ∈ ws) → wipe σ' ws = wipe σ ws) → Q σ' H) → TUgs X tgs vs σ H Q
theorem sgs_nil : SGs Y sc fc [] [] := by
  refine ⟨fun X ok G W H τ σ ds vs τ' s dv h Q q => ?_⟩
  cases ds with
  | nil =>
    cases h
    simp only [DenL] at dv
    subst dv
    exact ⟨_, pgs_nil, rfl, q _ s fun _ _ => rfl⟩
  | cons d ds => simp [setAll] at h
theorem assign_star {e : Expr} {es : List Expr} {env : Env} (h : notStar e = true) : assignEach (e :: es) env = (false, assign e env) :: assignEach es env := by
  cases e <;> first | rfl | simp [notStar] at h
theorem sgs_cons {i : Nat} {x : Str} {tgs : List Expr} {is : List Nat} (hN : Y.N[i]? = some x) (hx : Loc sc x) (hf : (fc x || decide (sc.names.lookup x = some .local)) = true) (hr : SGs Y sc fc tgs is) : SGs Y sc fc (.Name x pos :: tgs) (i :: is) := by
  refine ⟨fun X ok G W H τ σ ds vs τ' s dv h Q q => ?_⟩
  cases ds with
  | nil => simp [setAll] at h
  | cons d ds =>
    simp only [setAll] at h
    simp only [DenL] at dv
    obtain ⟨v, r, rfl, d1, d2⟩ := dv
    refine ⟨_, pgs_cons (pg_name ok.nd (by rw [ok.eN]; exact hN) (ok.loc hx) (ok.hf hf)) pgs_tu (by rw [assign_star rfl]; rfl), v, r, rfl, ?_⟩
    refine hr.run X ok _ _ _ _ _ _ _ _ (s.put d1) d2 h _ fun σ' s' hw => q _ s' fun ws hi => ?_
    rw [hw ws fun j hj => hi j (List.mem_cons_of_mem _ hj)]
    exact wipe_set (hi i List.mem_cons_self)
theorem setAll_len : ∀ {is : List Nat} {ds : List D} {τ τ' : List Sl}, setAll is ds τ = some τ' → is.length = ds.length
  | [], [], _, _, _ => rfl
  | [], _ :: _, _, _, h => by simp [setAll] at h
  | _ :: _, [], _, _, h => by simp [setAll] at h
  | i :: is, d :: ds, τ, τ', h => by simp only [setAll] at h; simp [setAll_len h]
theorem assign_len {env : Env} : ∀ {tgs : List Expr}, tgs.all notStar = true → (assignEach tgs env).length = tgs.length ∧ (assignEach tgs env).findIdx? (·.1) = none
  | [], _ => ⟨rfl, rfl⟩
  | e :: es, h => by
    simp only [List.all_cons, Bool.and_eq_true] at h
    obtain ⟨a, b⟩ := assign_len (env := env) h.2
    rw [assign_star h.1]
    refine ⟨by simp [a], ?_⟩
    rw [List.findIdx?_cons, b]
    rfl
theorem sg_tp {tgs : List Expr} {is : List Nat} {k : Nat} (hn : tgs.all notStar = true) (hl : tgs.length = is.length) (hr : SGs Y sc fc tgs is) : SG Y sc fc (.Tuple tgs k pos) (.tp is) := by
  refine ⟨fun X ok H0 G0 G W H τ σ d v τ' w s dv h Q q => ?_⟩
  cases d <;> simp only [setT] at h <;> try cases h
  rename_i ds
  simp only [Den] at dv
  obtain ⟨a, us, rfl, h1, h2⟩ := dv
  obtain ⟨l1, l2⟩ := assign_len (env := X.env) hn
  refine ⟨_, pg_tup ok.calm pgs_tu l1 l2, a, us, rfl, sub_t w.gh h1, ?_, ?_⟩
  · rw [← h2.length, ← setAll_len h, hl]
  · exact hr.run X ok _ _ _ _ _ _ _ _ s h2 h _ fun σ' s' hw => q _ s' hw
end
end Pv

set_option Elab.async false
set_option linter.all false
set_option maxRecDepth 100000
set_option maxHeartbeats 4000000

namespace Pv
open PySem PySem.Spec PyProof.Rows L2

/-! ### zip of two texts -/
/-- the signs of the two texts, in new pairs -/
def ItzS (x y : Str) : It :=
  ⟨fun i _ => i < x.cps.size ∧ i < y.cps.size,
    fun i H v H' => ∃ (T : Addr) (c d : Nat), v = V.ref T ∧ H T = none ∧ H' = upd H T (.tup [V.str ⟨#[c]⟩, V.str ⟨#[d]⟩]) ∧ x.cps[i]? = some c ∧ y.cps[i]? = some d,
    fun i _ => i = min x.cps.size y.cps.size⟩
theorem turn_zipS {P : Program} {w : World} {K : PySem.W.Frag} {elts : List Expr} {kk : Nat} {tpos : Pos} {x y : Str} {t u : Tok} {z TI TO i1 i2 : Addr} (S : ZipSep2 z TI TO i1 i2 [i1] [i2]) :
    Turn P w K (.Tuple elts kk tpos) (ItzS x y) [z, TI, TO, i1, i2] z (fun i h => IsZip h z TI TO .none ∧ IsTupOf2 h TI (.ref i1) (.ref i2) ∧ (∃ a b, IsTupOf2 h TO a b) ∧ h.IsStrIter i1 (strIterType x) x t i ∧ h.IsStrIter i2 (strIterType y) y u i) where
  mem := by simp
  obj := fun i h st c hc => by
    obtain ⟨hz, hTI, ⟨a, b, hTO⟩, ⟨o1, e1, _, d1⟩, ⟨o2, e2, _, d2⟩⟩ := st
    have e' : c = z ∨ c = TI ∨ c = TO ∨ c = i1 ∨ c = i2 := by simpa using hc
    rcases e' with q | q | q | q | q
    · rw [q]; exact ⟨_, hz, fun v q => nomatch q⟩
    · rw [q]; exact ⟨_, hTI, fun v q => nomatch q⟩
    · rw [q]; exact ⟨_, hTO, fun v q => nomatch q⟩
    · rw [q]; exact ⟨o1, e1, fun v q => by rw [d1] at q; cases q⟩
    · rw [q]; exact ⟨o2, e2, fun v q => by rw [d2] at q; cases q⟩
  keep := fun i h h' st k => by
    obtain ⟨hz, hTI, ⟨a, b, hTO⟩, ⟨o1, e1, r1⟩, ⟨o2, e2, r2⟩⟩ := st
    exact ⟨k z (by simp) _ hz, k TI (by simp) _ hTI, ⟨a, b, k TO (by simp) _ hTO⟩, ⟨o1, k i1 (by simp) _ e1, r1⟩, ⟨o2, k i2 (by simp) _ e2, r2⟩⟩
  item := by
    intro X hP hw hK hc i pins s σ H E I hf st hg
    subst hP hw hK
    obtain ⟨hz, hTI, ⟨a0, b0, hTO⟩, h1, h2⟩ := st
    have hzl : z < s.heap.objs.size := Heap.lt_size hz
    have hh : X.A.in1.handled = none := I.ok.hd hc
    refine wpAny_pyNext_zipD2_item S (Draws.text hh i1 x t) (Draws.text hh i2 y u) hz hTI hTO h1 h2 hg.1 hg.2 fun x1 x2 h' tk p1 p2 hz' hTO' h1' h2' hT hsz hk => ?_
    obtain ⟨c, t1, hc1, rfl⟩ := p1
    obtain ⟨d, t2, hd1, rfl⟩ := p2
    refine ⟨_, rfl, wpAny_letOwnedTupleGo_zip (s := { s with heap := h', toks := tk }) hz' fun h'' z'' sb => ?_⟩
    have hT2 : h''.get? s.heap.objs.size = some { cls := .type "tuple", data := .seq #[.str ⟨#[c]⟩ t1, .str ⟨#[d]⟩ t2] } := (sb.2 _ (Nat.ne_of_gt hzl)).trans hT
    have new : ObjOk X.prog X.w (upd H s.heap.objs.size (.tup [V.str ⟨#[c]⟩, V.str ⟨#[d]⟩])) h'' s.heap.objs.size (.tup [V.str ⟨#[c]⟩, V.str ⟨#[d]⟩]) :=
      ⟨by show 2 ≤ sizeLine; decide, [.str ⟨#[c]⟩ t1, .str ⟨#[d]⟩ t2], .cons ⟨_, rfl⟩ (.cons ⟨_, rfl⟩ .nil), ⟨_, hT2, rfl, _, rfl⟩⟩
    have I1 : Inv X pins σ (upd H s.heap.objs.size (.tup [V.str ⟨#[c]⟩, V.str ⟨#[d]⟩])) { s with heap := h'', toks := tk } :=
      I.turnedNew (t' := tk) (ch := [z, TI, TO, i1, i2]) (fun c o hb q => (sb.2 c (fun q' => hb (by simp [q']))).trans (hk c o (fun q' => hb (by simp [q'])) (fun q' => hb (by simp [q'])) (fun q' => hb (by simp [q'])) (fun q' => hb (by simp [q'])) q)) hf (Nat.le_refl _) new
    have s1 : h''.IsStrIter i1 (strIterType x) x t (i + 1) := let ⟨o, e, r⟩ := h1'; ⟨o, (sb.2 _ (fun q => S.zi1 q.symm)).trans e, r⟩
    have s2 : h''.IsStrIter i2 (strIterType y) y u (i + 1) := let ⟨o, e, r⟩ := h2'; ⟨o, (sb.2 _ (fun q => S.zi2 q.symm)).trans e, r⟩
    refine ⟨.ref s.heap.objs.size, _, I1, rfl, ⟨_, c, d, rfl, I.hok.fresh (Nat.le_refl _), rfl, hc1, hd1⟩, ⟨z'', ?_, ⟨.str ⟨#[c]⟩ t1, .str ⟨#[d]⟩ t2, ?_⟩, s1, s2⟩, fun c hcm => ?_⟩
    · exact (sb.2 _ S.TIz).trans (hk _ _ S.TIz S.TITO S.TIi1 S.TIi2 hTI)
    · exact (sb.2 _ S.TOz).trans hTO'
    · have hlt : c < s.heap.objs.size := by
        have e' : c = z ∨ c = TI ∨ c = TO ∨ c = i1 ∨ c = i2 := by simpa using hcm
        rcases e' with q | q | q | q | q
        · rw [q]; exact hzl
        · rw [q]; exact Heap.lt_size hTI
        · rw [q]; exact Heap.lt_size hTO
        · rw [q]; obtain ⟨_, e1, _⟩ := h1; exact Heap.lt_size e1
        · rw [q]; obtain ⟨_, e2, _⟩ := h2; exact Heap.lt_size e2
      rw [upd_ne (Nat.ne_of_lt hlt)]
      exact (hf c hcm).1
  done := by
    intro X hP hw hK hc i pins s σ H E I hf st hg
    subst hP hw hK
    obtain ⟨hz, hTI, ⟨a0, b0, hTO⟩, h1, h2⟩ := st
    have hh : X.A.in1.handled = none := I.ok.hd hc
    have hg' : i = min x.cps.size y.cps.size := hg
    exact wpAny_pyNext_zipD2_end S (Draws.text hh i1 x t) (Draws.text hh i2 y u) hz hTI hTO h1 h2 (by omega) (by omega) (by omega) fun h' tk hk => ⟨rfl, I.turnedL (t' := tk) (ch := [z, TI, TO, i1, i2]) (fun c o hb q =>
      hk c o (fun q' => hb (by simp [q'])) (fun q' => hb (by simp [q'])) (fun q' => hb (by simp [q'])) (fun q' => hb (by simp [q'])) q) hf⟩
  self := fun A i s Q E st h => wpAny_pyIter_zip st.1 h
def iZipS (ta : TA) : TI := fun σ H R => ta σ H fun vs H1 => ∃ x y, vs = [V.str x, V.str y] ∧ R (ItzS x y) H1
theorem pi_zipS {X : Cx} {e e2 : Expr} {ta : TA} {p pos tpos : Pos} {elts : List Expr} {kk : Nat} (hg : Gl X "zip") (hm : X.mg "zip" = none) (ha : PA X [e, e2] ta)
    (hs : starEach [e, e2] X.env = (false, eval e X.env) :: starEach [e2] X.env := by rfl) (hpl : (backTo pos (starEach [e2] X.env)).any (·.1) = false := by rfl) :
    PI X (.Tuple elts kk tpos) (.Call (.Name "zip" p) [e, e2] [] pos) (iZipS ta) := by
  refine ⟨fun pins s σ H R I h => ?_⟩
  refine Call_ (ld_blt I hg hm PyProof.Rows.boot_zip (PyProof.Rows.callWith_type1 (thn (ha.run pos pins s σ H _ I h) fun us s1 ⟨vs, H1, I1, r1, q1⟩ => ?_) hs hpl))
  obtain ⟨x, y, ex, q⟩ := q1
  subst ex
  cases r1 with
  | cons r rr =>
    cases rr with
    | cons r' rr =>
      cases rr
      obtain ⟨t, rfl⟩ := r
      obtain ⟨u, rfl⟩ := r'
      refine zip_begins2 (begins_text x t) (begins_text y u) trivial trivial fun h' hz hTI hTO g1 g2 hsz hk => wpAny_pyIter_zip hz ?_
      have I2 : Inv X pins σ H1 { s1 with heap := h' } := I1.kept (t' := s1.toks) hk
      have S : ZipSep2 (s1.heap.objs.size + 4) (s1.heap.objs.size + 2) (s1.heap.objs.size + 3) s1.heap.objs.size (s1.heap.objs.size + 1) [s1.heap.objs.size] [s1.heap.objs.size + 1] := zip_sep2 (N := s1.heap.objs.size) (fp1 := []) (fp2 := []) (by simp) (by simp)
      refine ⟨s1.heap.objs.size + 4, [s1.heap.objs.size + 4, s1.heap.objs.size + 2, s1.heap.objs.size + 3, s1.heap.objs.size, s1.heap.objs.size + 1], _, _, H1, rfl, I2, turn_zipS (x := x) (y := y) (t := t) (u := u) S, ⟨hz, hTI, ⟨_, _, hTO⟩, ⟨_, g1, rfl, rfl⟩, ⟨_, g2, rfl, rfl⟩⟩, fun c hcm => ?_, q⟩
      have e' : c = s1.heap.objs.size + 4 ∨ c = s1.heap.objs.size + 2 ∨ c = s1.heap.objs.size + 3 ∨ c = s1.heap.objs.size ∨ c = s1.heap.objs.size + 1 := by simpa using hcm
      have hle : s1.heap.objs.size ≤ c := by
        rcases e' with z | z | z | z | z
        · rw [z]; exact Nat.le_add_right _ _
        · rw [z]; exact Nat.le_add_right _ _
        · rw [z]; exact Nat.le_add_right _ _
        · rw [z]; exact Nat.le_refl _
        · rw [z]; exact Nat.le_add_right _ _
      exact I1.fpOk hle (I1.hok.fresh hle)
theorem walk_zipS {x y : Str} {n : Nat} (hn : n = min x.cps.size y.cps.size) : Walk (ItzS x y) n (fun _ => True) (fun i H v H' => ∃ (T : Addr) (c d : Nat), v = V.ref T ∧ H T = none ∧ H' = upd H T (.tup [V.str ⟨#[c]⟩, V.str ⟨#[d]⟩]) ∧ x.cps[i]? = some c ∧ y.cps[i]? = some d) := by
  subst hn
  exact ⟨fun i _ hi _ => ⟨by omega, by omega⟩, fun _ _ => rfl, fun _ _ _ _ _ _ y => y⟩

/-! ### enumerate of a tuple -/
def IteT (K : PySem.W.Frag) (a : Addr) : It :=
  ⟨fun i H => ∃ (xs : List V) (x : V), SqT K H a xs ∧ xs[i]? = some x, fun i H v H' => ∃ T x, v = .ref T ∧ H T = none ∧ H' = upd H T (.tup [.int (i : Nat), x]) ∧ ∀ xs, SqT K H a xs → xs[i]? = some x, fun i H => ∃ xs : List V, SqT K H a xs ∧ xs.length = i⟩
theorem turn_enumT {P : Program} {w : World} {K : PySem.W.Frag} {elts : List Expr} {kk : Nat} {tpos : Pos} (a e it : Addr) (hea : e ≠ a) (hia : it ≠ a) :
    Turn P w K (.Tuple elts kk tpos) (IteT K a) [e, it] e (fun i h => (∃ old, IsEnum h e it ((i : Nat) : Int) old) ∧ h.IsTupleIter it a i ∧ e ≠ it) where
  mem := by simp
  obj := fun i h st b hb => by
    obtain ⟨⟨old, he⟩, ⟨o, ho, hc, hd⟩, _⟩ := st
    have e' : b = e ∨ b = it := by simpa using hb
    rcases e' with z | z
    · rw [z]; exact ⟨_, he, fun v q => nomatch q⟩
    · rw [z]; exact ⟨o, ho, fun v q => by rw [hd] at q; cases q⟩
  keep := fun i h h' st k => let ⟨⟨old, he⟩, hi, hne⟩ := st; ⟨⟨old, k e (by simp) _ he⟩, hi.at fun o q => k it (by simp) o q, hne⟩
  item := by
    intro X hP hw hK hc i pins s σ H E I hf st hg
    subst hP hw hK
    obtain ⟨⟨old, he⟩, hit, hne⟩ := st
    obtain ⟨xs, x, hq, hx⟩ := hg
    obtain ⟨its, rv, p, hz⟩ := I.tuple hq
    obtain ⟨u, hu, ru⟩ := rv.get hx
    have hel : e < s.heap.objs.size := Heap.lt_size he
    have hil : it < s.heap.objs.size := by obtain ⟨_, q, _⟩ := hit; exact Heap.lt_size q
    have hh : X.A.in1.handled = none := I.ok.hd hc
    have hlt : i < its.toArray.size := by
      have := (List.getElem?_eq_some_iff.mp hu).1
      simpa using this
    refine wpAny_pyNext_enum_itemD (Draws.tuple hh it a hia.symm its.toArray) he ⟨hit, p⟩ hlt hne (by simp [hne, hea]) fun x' h' tk hP ho hst hT hsz hk => ?_
    have ex : x' = u := by
      have : its.toArray[i]? = some u := by simpa using hu
      rw [this] at hP
      exact (Option.some.inj hP).symm
    subst ex
    refine ⟨_, rfl, wpAny_letOwnedTupleGo_enum (s := { s with heap := h', toks := tk + 1 }) ho fun h'' he' sb => ?_⟩
    have hT2 : h''.get? s.heap.objs.size = some { cls := .type "tuple", data := .seq #[.int i tk, x'] } := (sb.2 _ (Nat.ne_of_gt hel)).trans hT
    have new : ObjOk X.prog X.w (upd H s.heap.objs.size (.tup [.int (i : Nat), x])) h'' s.heap.objs.size (.tup [.int (i : Nat), x]) :=
      ⟨by show 2 ≤ sizeLine; decide, [.int i tk, x'], .cons ⟨_, rfl⟩ (.cons ru .nil), ⟨_, hT2, rfl, _, rfl⟩⟩
    have I1 : Inv X pins σ (upd H s.heap.objs.size (.tup [.int (i : Nat), x])) { s with heap := h'', toks := tk + 1 } :=
      I.turnedNew (t' := tk + 1) (ch := [e, it]) (fun b ob hb q => (sb.2 b (fun z => hb (by simp [z]))).trans (hk b ob (fun z => hb (by simp [z])) (fun z => hb (by simp [z])) q)) hf (Nat.le_refl _) new
    refine ⟨.ref s.heap.objs.size, _, I1, rfl, ⟨_, x, rfl, I.hok.fresh (Nat.le_refl _), rfl, fun ys hy => by rw [I.tuple_inj hy hq]; exact hx⟩, ⟨⟨x', ?_⟩, hst.1.at fun o q => (sb.2 it (Ne.symm hne)).trans q, hne⟩, fun b hb => ?_⟩
    · have e1 : ((i + 1 : Nat) : Int) = (i : Int) + 1 := by omega
      rw [e1]; exact he'
    · have hb' : b < s.heap.objs.size := by
        have e' : b = e ∨ b = it := by simpa using hb
        rcases e' with z | z
        · rw [z]; exact hel
        · rw [z]; exact hil
      rw [upd_ne (Nat.ne_of_lt hb')]
      exact (hf b hb).1
  done := by
    intro X hP hw hK hc i pins s σ H E I hf st hg
    subst hP hw hK
    obtain ⟨⟨old, he⟩, hit, hne⟩ := st
    obtain ⟨xs, hq, hx⟩ := hg
    obtain ⟨its, rv, p, hz⟩ := I.tuple hq
    obtain ⟨f0, f1, f2, f3, f4, f5⟩ := hf it (by simp)
    have hh : X.A.in1.handled = none := I.ok.hd hc
    have hl := rv.length
    have hi : i = its.toArray.size := by simp; omega
    subst hi
    exact wpAny_pyNext_enum_endD (Draws.tuple hh it a hia.symm its.toArray) he ⟨hit, p⟩ fun h' eb => ⟨rfl, I.turned (t' := s.toks) (fun b o hb q => eb b o hb q) f0 f1 f3 f4 f5⟩
  self := fun A i s Q E st h => let ⟨⟨_, he⟩, _⟩ := st; wpAny_pyIter_enum he h
set_option maxHeartbeats 1000000 in
theorem meets_enumerate_newB1 {v : Value} {o : Obj} {H : Heap → Prop} (B : Begins v o H) :
    Meets (Builtin.«enumerate.__new__» ⟨[.type "enumerate", v], []⟩) (fun _ R s => H s.heap ∧
      R (.ok (.ret (.ref (s.heap.push o).objs.size))) { s with heap := (s.heap.push o).push { cls := .type "enumerate", data := .fields #[.none, .bool false, .ref s.heap.objs.size, rawInt 0, .none, .none] } }) :=
  .of_wp fun prog w A R s h => by
    obtain ⟨hp, g, d, tk, os⟩ := s; obtain ⟨h1, h⟩ := h
    have hsub := sub_enumerate
    have q1 : ∀ {A' : Around} {E : Value → Shared → Prop} {Q : Value → Shared → Prop}, Q (.ref hp.objs.size) ⟨hp.push o, g, d, tk, os⟩ → wpAny (model prog w) A' (pyIter v) Q E ⟨hp, g, d, tk, os⟩ :=
      fun q => B.iter prog w _ _ ⟨hp, g, d, tk, os⟩ _ h1 q
    wp_walk using q1
    refine wpAny_stack_any fun st => wpAny_pure ?_
    split
    · rename_i c _ _ _ _ _
      cases (c == Value.type "enumerate")
      · wp_walk using q1
        exact ⟨_, rfl, h⟩
      · wp_walk using q1
        exact ⟨_, rfl, h⟩
    · wp_walk using q1
      exact ⟨_, rfl, h⟩
section
variable {prog : Program} {w : World} {A : Around} {E : Value → Shared → Prop} {s : Shared}
theorem enum_begins1 {v : Value} {o : Obj} {H : Heap → Prop} {Q : Value → Shared → Prop} (B : Begins v o H) (h1 : H s.heap)
    (h : ∀ h', IsEnum h' (s.heap.objs.size + 1) s.heap.objs.size 0 .none → h'.get? s.heap.objs.size = some o → h'.objs.size = s.heap.objs.size + 2 →
      (∀ b o, s.heap.get? b = some o → h'.get? b = some o) → Q (.ref (s.heap.objs.size + 1)) { s with heap := h' }) :
    wpAny (model prog w) A (call (.type "enumerate") [v]) Q E s := by
  refine callType_new F.called_enumerate (by decide) (F.typeCall_enumerate_1 _) (F.newCall_enumerate_1 _) (fun obj => F.args_object_init_2 obj _) F.entry_enumerate_new
    (meets_enumerate_newB1 B) ⟨h1, ?_⟩
  have hz : (s.heap.push o).objs.size = s.heap.objs.size + 1 := Heap.size_push ..
  show _ ∧ _
  rw [hz]
  have he : IsEnum ((s.heap.push o).push { cls := .type "enumerate", data := .fields #[.none, .bool false, .ref s.heap.objs.size, rawInt 0, .none, .none] }) (s.heap.objs.size + 1) s.heap.objs.size 0 .none := by
    have := Heap.get?_push_size (s.heap.push o) (o := { cls := .type "enumerate", data := .fields #[.none, .bool false, .ref s.heap.objs.size, rawInt 0, .none, .none] }) rfl
    rw [hz] at this; exact this
  refine ⟨⟨_, he, rfl⟩, h _ he (Heap.get?_push_of_some _ (Heap.get?_push_size _ B.free)) (by rw [Heap.size_push, hz]) fun b o x => Heap.get?_push_of_some _ (Heap.get?_push_of_some _ x)⟩
end
def iEnumT (K : PySem.W.Frag) (ta : TA) : TI := fun σ H R => ta σ H fun vs H1 => ∃ a xs, vs = [.ref a] ∧ SqT K H1 a xs ∧ R (IteT K a) H1
theorem pi_enumT {X : Cx} {e : Expr} {ta : TA} {p pos tpos : Pos} {elts : List Expr} {kk : Nat} (hg : Gl X "enumerate") (hm : X.mg "enumerate" = none) (ha : PA X [e] ta) (hs : starEach [e] X.env = [(false, eval e X.env)] := by rfl) :
    PI X (.Tuple elts kk tpos) (.Call (.Name "enumerate" p) [e] [] pos) (iEnumT X.K ta) := by
  refine ⟨fun pins s σ H R I h => ?_⟩
  refine Call_ (ld_blt I hg hm boot_enumerate (PyProof.Rows.callWith_type1 (thn (ha.run pos pins s σ H _ I h) fun us s1 ⟨vs, H1, I1, r1, q1⟩ => ?_) hs rfl))
  obtain ⟨a, xs, ex, hq, q⟩ := q1
  subst ex
  cases r1 with
  | cons r rr =>
    cases rr
    cases r
    obtain ⟨its, rv, p', hz⟩ := I1.tuple hq
    have hal : a < s1.heap.objs.size := by obtain ⟨o, ho, _⟩ := p'; exact Heap.lt_size ho
    refine enum_begins1 (begins_tuple a its.toArray) p' fun h' he hit hsz hk => wpAny_pyIter_enum he ?_
    have I2 : Inv X pins σ H1 { s1 with heap := h' } := I1.kept (t' := s1.toks) hk
    refine ⟨s1.heap.objs.size + 1, [s1.heap.objs.size + 1, s1.heap.objs.size], _, _, H1, rfl, I2, turn_enumT a (s1.heap.objs.size + 1) s1.heap.objs.size (Nat.ne_of_gt (Nat.lt_succ_of_lt hal)) (Nat.ne_of_gt hal), ⟨⟨.none, he⟩, ⟨_, hit, rfl, rfl⟩, Nat.succ_ne_self _⟩, fun b hb => ?_, q⟩
    have e' : b = s1.heap.objs.size + 1 ∨ b = s1.heap.objs.size := by simpa using hb
    have hle : s1.heap.objs.size ≤ b := by
      rcases e' with z | z
      · rw [z]; exact Nat.le_add_right _ _
      · rw [z]; exact Nat.le_refl _
    exact I1.fpOk hle (I1.hok.fresh hle)
theorem walk_enumT {K : PySem.W.Frag} {a : Addr} {xs : List V} : Walk (IteT K a) xs.length (fun H => SqT K H a xs) (YPair (fun i => some (.int (i : Nat))) (fun i => xs[i]?)) := by
  refine ⟨fun i _ hi q => ⟨xs, xs[i], q, by simp [hi]⟩, fun _ q => ⟨xs, q, rfl⟩, fun i H v H' _ q y => ?_⟩
  obtain ⟨T, x, h1, h2, h3, h4⟩ := y
  exact ⟨T, .int (i : Nat), x, h1, h2, h3, rfl, h4 xs q⟩
theorem walk_zipT {K : PySem.W.Frag} {a b : Addr} {xs ys : List V} {n : Nat} (hn : n = min xs.length ys.length) : Walk (RZ.ItzT K a b) n (fun H => SqT K H a xs ∧ SqT K H b ys) (YPair (fun i => xs[i]?) (fun i => ys[i]?)) := by
  subst hn
  refine ⟨fun i _ hi q => ?_, fun _ q => ⟨xs, ys, q.1, q.2, by omega⟩, fun i H v H' _ q y => ?_⟩
  · have h1 : i < xs.length := by omega
    have h2 : i < ys.length := by omega
    exact ⟨xs, ys, xs[i], ys[i], q.1, q.2, by simp [h1], by simp [h2]⟩
  · obtain ⟨T, x, z, h1, h2, h3, h4, h5⟩ := y
    exact ⟨T, x, z, h1, h2, h3, h4 xs q.1, h5 ys q.2⟩
/-! ### enumerate of a text -/
def IteS (x : Str) : It :=
  ⟨fun i _ => i < x.cps.size, fun i H v H' => ∃ (T : Addr) (c : Nat), v = .ref T ∧ H T = none ∧ H' = upd H T (.tup [.int (i : Nat), .str ⟨#[c]⟩]) ∧ x.cps[i]? = some c, fun i _ => i = x.cps.size⟩
theorem turn_enumS {P : Program} {w : World} {K : PySem.W.Frag} {elts : List Expr} {kk : Nat} {tpos : Pos} {x : Str} {t : Tok} (e it : Addr) :
    Turn P w K (.Tuple elts kk tpos) (IteS x) [e, it] e (fun i h => (∃ old, IsEnum h e it ((i : Nat) : Int) old) ∧ h.IsStrIter it (strIterType x) x t i ∧ e ≠ it) where
  mem := by simp
  obj := fun i h st b hb => by
    obtain ⟨⟨old, he⟩, ⟨o, ho, hc, hd⟩, _⟩ := st
    rcases (show b = e ∨ b = it by simpa using hb) with z | z
    · rw [z]; exact ⟨_, he, fun v q => nomatch q⟩
    · rw [z]; exact ⟨o, ho, fun v q => by rw [hd] at q; cases q⟩
  keep := fun i h h' st k => let ⟨⟨old, he⟩, ⟨o, q, r⟩, hne⟩ := st; ⟨⟨old, k e (by simp) _ he⟩, ⟨o, k it (by simp) _ q, r⟩, hne⟩
  item := by
    intro X hP hw hK hc i pins s σ H E I hf st hg
    subst hP hw hK
    obtain ⟨⟨old, he⟩, hit, hne⟩ := st
    have hel : e < s.heap.objs.size := Heap.lt_size he
    have hil : it < s.heap.objs.size := by obtain ⟨_, q, _⟩ := hit; exact Heap.lt_size q
    have hh : X.A.in1.handled = none := I.ok.hd hc
    refine wpAny_pyNext_enum_itemD (Draws.text hh it x t) he hit hg hne (by simp [hne]) fun x' h' tk hP ho hst hT hsz hk => ?_
    obtain ⟨c, t1, hc1, rfl⟩ := hP
    refine ⟨_, rfl, wpAny_letOwnedTupleGo_enum (s := { s with heap := h', toks := tk + 1 }) ho fun h'' he' sb => ?_⟩
    have hT2 : h''.get? s.heap.objs.size = some { cls := .type "tuple", data := .seq #[.int i tk, .str ⟨#[c]⟩ t1] } := (sb.2 _ (Nat.ne_of_gt hel)).trans hT
    have new : ObjOk X.prog X.w (upd H s.heap.objs.size (.tup [.int (i : Nat), .str ⟨#[c]⟩])) h'' s.heap.objs.size (.tup [.int (i : Nat), .str ⟨#[c]⟩]) :=
      ⟨by show 2 ≤ sizeLine; decide, [.int i tk, .str ⟨#[c]⟩ t1], .cons ⟨_, rfl⟩ (.cons ⟨_, rfl⟩ .nil), ⟨_, hT2, rfl, _, rfl⟩⟩
    have I1 : Inv X pins σ (upd H s.heap.objs.size (.tup [.int (i : Nat), .str ⟨#[c]⟩])) { s with heap := h'', toks := tk + 1 } :=
      I.turnedNew (t' := tk + 1) (ch := [e, it]) (fun b ob hb q => (sb.2 b (fun z => hb (by simp [z]))).trans (hk b ob (fun z => hb (by simp [z])) (fun z => hb (by simp [z])) q)) hf (Nat.le_refl _) new
    refine ⟨.ref s.heap.objs.size, _, I1, rfl, ⟨_, c, rfl, I.hok.fresh (Nat.le_refl _), rfl, hc1⟩, ⟨⟨.str ⟨#[c]⟩ t1, ?_⟩, let ⟨o, q, r⟩ := hst; ⟨o, (sb.2 it (Ne.symm hne)).trans q, r⟩, hne⟩, fun b hb => ?_⟩
    · have e1 : ((i + 1 : Nat) : Int) = (i : Int) + 1 := by omega
      rw [e1]; exact he'
    · have hb' : b < s.heap.objs.size := by
        rcases (show b = e ∨ b = it by simpa using hb) with z | z
        · rw [z]; exact hel
        · rw [z]; exact hil
      rw [upd_ne (Nat.ne_of_lt hb')]
      exact (hf b hb).1
  done := by
    intro X hP hw hK hc i pins s σ H E I hf st hg
    subst hP hw hK
    obtain ⟨⟨old, he⟩, hit, hne⟩ := st
    obtain ⟨f0, f1, f2, f3, f4, f5⟩ := hf it (by simp)
    have hh : X.A.in1.handled = none := I.ok.hd hc
    have hi : i = x.cps.size := hg
    subst hi
    exact wpAny_pyNext_enum_endD (Draws.text hh it x t) he hit fun h' eb => ⟨rfl, I.turned (t' := s.toks) (fun b o hb q => eb b o hb q) f0 f1 f3 f4 f5⟩
  self := fun A i s Q E st h => let ⟨⟨_, he⟩, _⟩ := st; wpAny_pyIter_enum he h
def iEnumS (ta : TA) : TI := fun σ H R => ta σ H fun vs H1 => ∃ x, vs = [V.str x] ∧ R (IteS x) H1
theorem pi_enumS {X : Cx} {e : Expr} {ta : TA} {p pos tpos : Pos} {elts : List Expr} {kk : Nat} (hg : Gl X "enumerate") (hm : X.mg "enumerate" = none) (ha : PA X [e] ta) (hs : starEach [e] X.env = [(false, eval e X.env)] := by rfl) :
    PI X (.Tuple elts kk tpos) (.Call (.Name "enumerate" p) [e] [] pos) (iEnumS ta) := by
  refine ⟨fun pins s σ H R I h => ?_⟩
  refine Call_ (ld_blt I hg hm boot_enumerate (PyProof.Rows.callWith_type1 (thn (ha.run pos pins s σ H _ I h) fun us s1 ⟨vs, H1, I1, r1, q1⟩ => ?_) hs rfl))
  obtain ⟨x, ex, q⟩ := q1
  subst ex
  cases r1 with
  | cons r rr =>
    cases rr
    obtain ⟨t, rfl⟩ := r
    refine enum_begins1 (begins_text x t) trivial fun h' he hit hsz hk => wpAny_pyIter_enum he ?_
    have I2 : Inv X pins σ H1 { s1 with heap := h' } := I1.kept (t' := s1.toks) hk
    refine ⟨s1.heap.objs.size + 1, [s1.heap.objs.size + 1, s1.heap.objs.size], _, _, H1, rfl, I2, turn_enumS (x := x) (t := t) (s1.heap.objs.size + 1) s1.heap.objs.size, ⟨⟨.none, he⟩, ⟨_, hit, rfl, rfl⟩, Nat.succ_ne_self _⟩, fun b hb => ?_, q⟩
    have hle : s1.heap.objs.size ≤ b := by
      rcases (show b = s1.heap.objs.size + 1 ∨ b = s1.heap.objs.size by simpa using hb) with z | z
      · rw [z]; exact Nat.le_add_right _ _
      · rw [z]; exact Nat.le_refl _
    exact I1.fpOk hle (I1.hok.fresh hle)
theorem walk_enumS {x : Str} {n : Nat} (hn : n = x.cps.size) : Walk (IteS x) n (fun _ => True) (fun i H v H' => ∃ (T : Addr) (c : Nat), v = .ref T ∧ H T = none ∧ H' = upd H T (.tup [.int (i : Nat), .str ⟨#[c]⟩]) ∧ x.cps[i]? = some c) := by
  subst hn
  exact ⟨fun i _ hi _ => hi, fun _ _ => rfl, fun _ _ _ _ _ _ y => y⟩
end Pv

set_option Elab.async false
set_option linter.all false
set_option maxRecDepth 100000
set_option maxHeartbeats 4000000

namespace Pv
open PySem PySem.Spec L2

section
variable {Y : Stat} {sc : Scope} {fc : Str → Bool} {pos p p1 p2 : Pos} {a b c tg : Expr} {es : List Expr} {fa fb fd : List Sl → Option D} {fL fK : List Sl → Option (List D)}

/-! ### what is walked -/
theorem den_strs {K : PySem.W.Frag} {G : Hp} (z : List Nat) (i : Nat) (c : Nat) (h : z[i]? = some c) : (z.map fun c => D.str [c])[i]? = some (.str [c]) := by simp [h]
theorem si_seq (ha : SE Y sc fc a fa) : SI Y sc fc tg a (fun τ => (fa τ).bind seqD) := by
  refine ⟨fun X ok H0 G0 G W H τ σ ds w s h R q => ?_⟩
  obtain ⟨x, hx, h⟩ := bnd h
  unfold seqD at h
  split at h
  · cases h
    refine ⟨_, pi_list pe_tu, ?_⟩
    refine ha.run X ok _ _ _ _ _ _ _ _ w s hx _ fun v G1 H1 e1 w1 dv => ?_
    simp only [Den] at dv
    obtain ⟨p, us, rfl, hp, hu⟩ := dv
    refine ⟨p, rfl, ⟨us, SqL.of (w1.gh _ _ hp)⟩, q _ _ _ _ _ _ e1 w1 (walk_list (xs := us)) hu.length.symm (fun H'' e => SqL.of (e _ _ hp)) fun i H2 x H3 G2 W2 hi e2 w2 y => ?_⟩
    obtain ⟨rfl, hxi⟩ := y
    obtain ⟨d, h1, h2⟩ := hu.getV hxi
    exact ⟨G2, d, Sub.refl _, w2, h1, h2.mono e2⟩
  · rename_i ns
    cases h
    refine ⟨_, pi_list pe_tu, ?_⟩
    refine ha.run X ok _ _ _ _ _ _ _ _ w s hx _ fun v G1 H1 e1 w1 dv => ?_
    simp only [Den] at dv
    obtain ⟨p, rfl, hp⟩ := dv
    refine ⟨p, rfl, ⟨_, sub_l w1.gh hp⟩, q _ _ _ _ _ _ e1 w1 (walk_list (xs := ns.map V.int)) (by simp) (fun H'' e => sub_l e hp) fun i H2 x H3 G2 W2 hi e2 w2 y => ?_⟩
    obtain ⟨rfl, hxi⟩ := y
    rw [List.getElem?_map] at hxi
    obtain ⟨n, hn, rfl⟩ := mpd hxi
    exact ⟨G2, .int n, Sub.refl _, w2, by rw [List.getElem?_map, hn]; rfl, by simp only [Den]⟩
  · cases h
    refine ⟨_, pi_tup pe_tu, ?_⟩
    refine ha.run X ok _ _ _ _ _ _ _ _ w s hx _ fun v G1 H1 e1 w1 dv => ?_
    simp only [Den] at dv
    obtain ⟨p, us, rfl, hp, hu⟩ := dv
    refine ⟨p, rfl, ⟨us, sub_t w1.gh hp⟩, q _ _ _ _ _ _ e1 w1 (walk_tup (xs := us)) hu.length.symm (fun H'' e => sub_t e hp) fun i H2 x H3 G2 W2 hi e2 w2 y => ?_⟩
    obtain ⟨rfl, hxi⟩ := y
    obtain ⟨d, h1, h2⟩ := hu.getV hxi
    exact ⟨G2, d, Sub.refl _, w2, h1, h2.mono e2⟩
  · rename_i z
    cases h
    refine ⟨_, pi_str pe_tu, ?_⟩
    refine ha.run X ok _ _ _ _ _ _ _ _ w s hx _ fun v G1 H1 e1 w1 dv => ?_
    simp only [Den] at dv
    subst dv
    refine ⟨mkS z, rfl, q _ _ _ _ _ _ e1 w1 (walk_str (z := mkS z)) (by simp) (fun H'' e => trivial) fun i H2 x H3 G2 W2 hi e2 w2 y => ?_⟩
    obtain ⟨rfl, c, hc, rfl⟩ := y
    refine ⟨G2, .str [c], Sub.refl _, w2, by simp at hc ⊢; exact hc, by simp only [Den]⟩
  · cases h
theorem rng_get : ∀ (n : Nat) (lo : Int) (i : Nat), i < n → (rngD lo n)[i]? = some (.int (lo + i))
  | 0, _, _, h => by omega
  | n + 1, lo, 0, _ => by simp [rngD]
  | n + 1, lo, i + 1, h => by
    have := rng_get n (lo + 1) i (by omega)
    simp only [rngD, List.getElem?_cons_succ, this]
    congr 2
    omega
theorem rng_len : ∀ (n : Nat) (lo : Int), (rngD lo n).length = n
  | 0, _ => rfl
  | n + 1, lo => by simp [rngD, rng_len n]
theorem okR_of {i : Int} (h : okR i = true) : -(2 ^ 62) ≤ i ∧ i < 2 ^ 62 := by simpa [okR] using h
theorem si_r1 (hg : sc.names.lookup ("range" : Str) = some .globalImplicit) (hb : ("range" : Str) ∈ Y.bl) (hn : notStar a = true) (ha : SE Y sc fc a fa) :
    SI Y sc fc tg (.Call (.Name "range" p) [a] [] pos) (fun τ => ((fa τ).bind intD).bind fun i => if okR i then some (rngD 0 i.toNat) else none) := by
  refine ⟨fun X ok H0 G0 G W H τ σ ds w s h R q => ?_⟩
  obtain ⟨i, hi, h⟩ := bnd h
  obtain ⟨x, hx, hi⟩ := bnd hi
  split at h
  · rename_i hr
    cases h
    cases x <;> simp [intD] at hi
    subst hi
    refine ⟨_, pi_range1 (ok.gl hg) (ok.bl _ hb) (pa_cons pe_tu pa_nil (star_cons hn)) (star_cons hn), ?_⟩
    refine ha.run X ok _ _ _ _ _ _ _ _ w s hx _ fun v G1 H1 e1 w1 dv => ?_
    simp only [Den] at dv
    subst dv
    obtain ⟨r1, r2⟩ := okR_of hr
    refine ⟨_, rfl, r1, r2, q _ _ _ _ _ _ e1 w1 walk_range (rng_len _ _).symm (fun H'' e => trivial) fun j H2 x H3 G2 W2 hj e2 w2 y => ?_⟩
    obtain ⟨rfl, rfl⟩ := y
    exact ⟨G2, _, Sub.refl _, w2, rng_get _ _ _ hj, by simp only [Den]⟩
  · cases h
theorem si_r2 (hg : sc.names.lookup ("range" : Str) = some .globalImplicit) (hb : ("range" : Str) ∈ Y.bl) (hn : notStar a = true) (hn2 : notStar b = true) (ha : SE Y sc fc a fa) (hb' : SE Y sc fc b fb) :
    SI Y sc fc tg (.Call (.Name "range" p) [a, b] [] pos) (fun τ => ((fa τ).bind intD).bind fun i => ((fb τ).bind intD).bind fun j => if okR i && okR j then some (rngD i (j - i).toNat) else none) := by
  refine ⟨fun X ok H0 G0 G W H τ σ ds w s h R q => ?_⟩
  obtain ⟨i, hi, h⟩ := bnd h
  obtain ⟨x, hx, hi⟩ := bnd hi
  obtain ⟨j, hj, h⟩ := bnd h
  obtain ⟨y, hy, hj⟩ := bnd hj
  split at h
  · rename_i hr
    cases h
    rw [Bool.and_eq_true] at hr
    cases x <;> simp [intD] at hi
    subst hi
    cases y <;> simp [intD] at hj
    subst hj
    refine ⟨_, pi_range2 (ok.gl hg) (ok.bl _ hb) (pa_cons pe_tu (pa_cons pe_tu pa_nil (star_cons hn2)) (star_cons hn)) (by rw [star_cons hn, star_cons hn2]; rfl) (star_cons hn2), ?_⟩
    refine ha.run X ok _ _ _ _ _ _ _ _ w s hx _ fun v G1 H1 e1 w1 dv => ?_
    refine hb'.run X ok _ _ _ _ _ _ _ _ w1 (s.mono e1) hy _ fun u G2 H2 e2 w2 du => ?_
    simp only [Den] at dv du
    subst dv du
    obtain ⟨r1, r2⟩ := okR_of hr.1
    obtain ⟨r3, r4⟩ := okR_of hr.2
    refine ⟨_, _, rfl, ⟨r1, r2, r3, r4⟩, q _ _ _ _ _ _ (e1.trans e2) w2 walk_range (rng_len _ _).symm (fun H'' e => trivial) fun j H2 x H3 G2 W2 hj e2 w2 y => ?_⟩
    obtain ⟨rfl, rfl⟩ := y
    exact ⟨G2, _, Sub.refl _, w2, rng_get _ _ _ hj, by simp only [Den]⟩
  · cases h
theorem enum_get : ∀ (ds : List D) (k i : Nat) (d : D), ds[i]? = some d → (enumD k ds)[i]? = some (.tup [.int ((k + i : Nat) : Int), d])
  | [], _, _, _, h => by simp at h
  | x :: ds, k, 0, d, h => by simp at h; subst h; simp [enumD]
  | x :: ds, k, i + 1, d, h => by
    have := enum_get ds (k + 1) i d (by simpa using h)
    simp only [enumD, List.getElem?_cons_succ, this]
    congr 5
    omega
theorem enum_len : ∀ (ds : List D) (k : Nat), (enumD k ds).length = ds.length
  | [], _ => rfl
  | x :: ds, k => by simp [enumD, enum_len ds]
theorem pair_new {K : PySem.W.Frag} {H0 G0 G W H : Hp} {T : Addr} {x y : V} {d e : D} (w : Wd H0 G0 G W H) (hT : H T = none) (h1 : Den K G d x) (h2 : Den K G e y) :
    ∃ G2, Sub G G2 ∧ Wd H0 G0 G2 W (upd H T (.tup [x, y])) ∧ Den K G2 (.tup [d, e]) (.ref T) := by
  have e1 : Sub G (upd G T (.tup [x, y])) := sub_upd (w.gnone hT)
  refine ⟨_, e1, w.new hT, ?_⟩
  simp only [Den, DenL]
  exact ⟨T, [x, y], rfl, SqT.of upd_same, x, [y], rfl, h1.mono e1, y, [], rfl, h2.mono e1, rfl⟩
theorem si_enum {k : Nat} {tp : Pos} (hg : sc.names.lookup ("enumerate" : Str) = some .globalImplicit) (hb : ("enumerate" : Str) ∈ Y.bl) (hn : notStar a = true) (ha : SE Y sc fc a fa) :
    SI Y sc fc (.Tuple es k tp) (.Call (.Name "enumerate" p) [a] [] pos) (fun τ => (fa τ).bind fun x => match x with | .lst ds => some (enumD 0 ds) | .tup ds => some (enumD 0 ds) | .str ds => some (enumD 0 (ds.map fun c => .str [c])) | _ => none) := by
  refine ⟨fun X ok H0 G0 G W H τ σ ds w s h R q => ?_⟩
  obtain ⟨x, hx, h⟩ := bnd h
  split at h
  · cases h
    refine ⟨_, pi_enum (ok.gl hg) (ok.bl _ hb) (pa_cons pe_tu pa_nil (star_cons hn)) (star_cons hn), ?_⟩
    refine ha.run X ok _ _ _ _ _ _ _ _ w s hx _ fun v G1 H1 e1 w1 dv => ?_
    simp only [Den] at dv
    obtain ⟨p, us, rfl, hp, hu⟩ := dv
    refine ⟨p, us, rfl, SqL.of (w1.gh _ _ hp), q _ _ _ _ _ _ e1 w1 (walk_enum (xs := us)) (by rw [enum_len, hu.length]) (fun H'' e => SqL.of (e _ _ hp)) fun i H2 x H3 G2 W2 hi e2 w2 y => ?_⟩
    obtain ⟨T, x, z, rfl, hT, rfl, hx', hz⟩ := y
    cases hx'
    obtain ⟨d, h1, h2⟩ := hu.getV hz
    obtain ⟨G3, a1, a2, a3⟩ := pair_new (K := X.K) (d := .int (i : Nat)) (x := .int (i : Nat)) w2 hT (by simp only [Den]) (h2.mono e2)
    exact ⟨G3, _, a1, a2, by rw [enum_get _ 0 i d h1, Nat.zero_add], a3⟩
  · cases h
    refine ⟨_, pi_enumT (ok.gl hg) (ok.bl _ hb) (pa_cons pe_tu pa_nil (star_cons hn)) (star_cons hn), ?_⟩
    refine ha.run X ok _ _ _ _ _ _ _ _ w s hx _ fun v G1 H1 e1 w1 dv => ?_
    simp only [Den] at dv
    obtain ⟨p, us, rfl, hp, hu⟩ := dv
    refine ⟨p, us, rfl, sub_t w1.gh hp, q _ _ _ _ _ _ e1 w1 (walk_enumT (xs := us)) (by rw [enum_len, hu.length]) (fun H'' e => sub_t e hp) fun i H2 x H3 G2 W2 hi e2 w2 y => ?_⟩
    obtain ⟨T, x, z, rfl, hT, rfl, hx', hz⟩ := y
    cases hx'
    obtain ⟨d, h1, h2⟩ := hu.getV hz
    obtain ⟨G3, a1, a2, a3⟩ := pair_new (K := X.K) (d := .int (i : Nat)) (x := .int (i : Nat)) w2 hT (by simp only [Den]) (h2.mono e2)
    exact ⟨G3, _, a1, a2, by rw [enum_get _ 0 i d h1, Nat.zero_add], a3⟩
  · rename_i cs
    cases h
    refine ⟨_, pi_enumS (ok.gl hg) (ok.bl _ hb) (pa_cons pe_tu pa_nil (star_cons hn)) (star_cons hn), ?_⟩
    refine ha.run X ok _ _ _ _ _ _ _ _ w s hx _ fun v G1 H1 e1 w1 dv => ?_
    simp only [Den] at dv
    subst dv
    refine ⟨_, rfl, q _ _ _ _ _ _ e1 w1 (walk_enumS rfl) (by rw [enum_len]; simp [mkS]) (fun H'' e => trivial) fun i H2 x H3 G2 W2 hi e2 w2 y => ?_⟩
    obtain ⟨T, c, rfl, hT, rfl, hc⟩ := y
    obtain ⟨G3, a1, a2, a3⟩ := pair_new (K := X.K) (d := .int (i : Nat)) (e := .str [c]) (x := .int (i : Nat)) (y := .str ⟨#[c]⟩) w2 hT (by simp only [Den]) (by simp only [Den])
    refine ⟨G3, _, a1, a2, ?_, a3⟩
    have h1 : (cs.map fun c => D.str [c])[i]? = some (.str [c]) := by
      have hc' : cs[i]? = some c := by simpa [mkS] using hc
      simp [hc']
    rw [enum_get _ 0 i _ h1, Nat.zero_add]
  · cases h
theorem zip_get : ∀ (ds es : List D) (i : Nat) (d e : D), ds[i]? = some d → es[i]? = some e → (zipD ds es)[i]? = some (.tup [d, e])
  | [], _, _, _, _, h, _ => by simp at h
  | _ :: _, [], _, _, _, _, h => by simp at h
  | x :: ds, y :: es, 0, d, e, h, h' => by simp at h h'; subst h h'; simp [zipD]
  | x :: ds, y :: es, i + 1, d, e, h, h' => by
    have := zip_get ds es i d e (by simpa using h) (by simpa using h')
    simpa only [zipD, List.getElem?_cons_succ] using this
theorem zip_len : ∀ (ds es : List D), (zipD ds es).length = min ds.length es.length
  | [], _ => by simp [zipD]
  | _ :: _, [] => by simp [zipD]
  | x :: ds, y :: es => by simp [zipD, zip_len ds es]
theorem si_zip {k : Nat} {tp : Pos} (hg : sc.names.lookup ("zip" : Str) = some .globalImplicit) (hb : ("zip" : Str) ∈ Y.bl) (hn : notStar a = true) (hn2 : notStar b = true) (ha : SE Y sc fc a fa) (hb' : SE Y sc fc b fb) :
    SI Y sc fc (.Tuple es k tp) (.Call (.Name "zip" p) [a, b] [] pos) (fun τ => (fa τ).bind fun x => (fb τ).bind fun y => match x, y with | .lst ds, .lst es => some (zipD ds es) | .tup ds, .tup es => some (zipD ds es) | .str ds, .str es => some (zipD (ds.map fun c => .str [c]) (es.map fun c => .str [c])) | _, _ => none) := by
  refine ⟨fun X ok H0 G0 G W H τ σ ds w s h R q => ?_⟩
  obtain ⟨x, hx, h⟩ := bnd h
  obtain ⟨y, hy, h⟩ := bnd h
  split at h
  · cases h
    refine ⟨_, pi_zip (ok.gl hg) (ok.bl _ hb) (pa_cons pe_tu (pa_cons pe_tu pa_nil (star_cons hn2)) (star_cons hn)) (star_cons hn) (star_any (by simp [hn2])), ?_⟩
    refine ha.run X ok _ _ _ _ _ _ _ _ w s hx _ fun v G1 H1 e1 w1 dv => ?_
    refine hb'.run X ok _ _ _ _ _ _ _ _ w1 (s.mono e1) hy _ fun u G2 H2 e2 w2 du => ?_
    replace dv := dv.mono e2
    simp only [Den] at dv du
    obtain ⟨p, us, rfl, hp, hu⟩ := dv
    obtain ⟨p', us', rfl, hp', hu'⟩ := du
    refine ⟨p, p', us, us', rfl, SqL.of (w2.gh _ _ hp), SqL.of (w2.gh _ _ hp'), q _ _ _ _ _ _ (e1.trans e2) w2 (walk_zip (xs := us) (ys := us') rfl) (by rw [zip_len, hu.length, hu'.length]) (fun H'' e => ⟨SqL.of (e _ _ hp), SqL.of (e _ _ hp')⟩) fun i H3 x H4 G3 W2 hi e3 w3 y => ?_⟩
    obtain ⟨T, x, z, rfl, hT, rfl, hx', hz⟩ := y
    obtain ⟨d, h1, h2⟩ := hu.getV hx'
    obtain ⟨d', h1', h2'⟩ := hu'.getV hz
    obtain ⟨G4, a1, a2, a3⟩ := pair_new (K := X.K) w3 hT (h2.mono e3) (h2'.mono e3)
    exact ⟨G4, _, a1, a2, zip_get _ _ _ _ _ h1 h1', a3⟩
  · cases h
    refine ⟨_, RZ.pi_zipA (ok.gl hg) (ok.bl _ hb) (pa_cons pe_tu (pa_cons pe_tu pa_nil (star_cons hn2)) (star_cons hn)) (star_cons hn) (star_any (by simp [hn2])), ?_⟩
    refine ha.run X ok _ _ _ _ _ _ _ _ w s hx _ fun v G1 H1 e1 w1 dv => ?_
    refine hb'.run X ok _ _ _ _ _ _ _ _ w1 (s.mono e1) hy _ fun u G2 H2 e2 w2 du => ?_
    replace dv := dv.mono e2
    simp only [Den] at dv du
    obtain ⟨p, us, rfl, hp, hu⟩ := dv
    obtain ⟨p', us', rfl, hp', hu'⟩ := du
    refine ⟨p, p', us, us', rfl, .inr ⟨sub_t w2.gh hp, sub_t w2.gh hp', q _ _ _ _ _ _ (e1.trans e2) w2 (walk_zipT (xs := us) (ys := us') rfl) (by rw [zip_len, hu.length, hu'.length]) (fun H'' e => ⟨sub_t e hp, sub_t e hp'⟩) fun i H3 x H4 G3 W2 hi e3 w3 y => ?_⟩⟩
    obtain ⟨T, x, z, rfl, hT, rfl, hx', hz⟩ := y
    obtain ⟨d, h1, h2⟩ := hu.getV hx'
    obtain ⟨d', h1', h2'⟩ := hu'.getV hz
    obtain ⟨G4, a1, a2, a3⟩ := pair_new (K := X.K) w3 hT (h2.mono e3) (h2'.mono e3)
    exact ⟨G4, _, a1, a2, zip_get _ _ _ _ _ h1 h1', a3⟩
  · rename_i xs ys _
    cases h
    refine ⟨_, pi_zipS (ok.gl hg) (ok.bl _ hb) (pa_cons pe_tu (pa_cons pe_tu pa_nil (star_cons hn2)) (star_cons hn)) (star_cons hn) (star_any (by simp [hn2])), ?_⟩
    refine ha.run X ok _ _ _ _ _ _ _ _ w s hx _ fun v G1 H1 e1 w1 dv => ?_
    refine hb'.run X ok _ _ _ _ _ _ _ _ w1 (s.mono e1) hy _ fun u G2 H2 e2 w2 du => ?_
    simp only [Den] at dv du
    subst dv du
    refine ⟨mkS xs, mkS ys, rfl, q _ _ _ _ _ _ (e1.trans e2) w2 (walk_zipS (x := mkS xs) (y := mkS ys) rfl) (by rw [zip_len]; simp) (fun H'' e => trivial) fun i H3 x H4 G3 W2 hi e3 w3 y => ?_⟩
    obtain ⟨T, c, d, rfl, hT, rfl, hc, hd⟩ := y
    obtain ⟨G4, a1, a2, a3⟩ := pair_new (K := X.K) (d := .str [c]) (e := .str [d]) (x := V.str ⟨#[c]⟩) (y := V.str ⟨#[d]⟩) w3 hT (by simp only [Den]) (by simp only [Den])
    exact ⟨G4, _, a1, a2, zip_get _ _ _ _ _ (by simp at hc ⊢; exact hc) (by simp at hd ⊢; exact hd), a3⟩
  · cases h

/-! ### comprehensions -/
structure SCs (Y : Stat) (sc : Scope) (fc : Str → Bool) (ifs : List Expr) (f : List Sl → Option Bool) : Prop where
  run : ∀ X, XOk Y sc fc X → ∀ H0 G0 G W H τ σ b, Wd H0 G0 G W H → SlOk X.K G W τ σ → f τ = some b → ∀ Q, BQ H0 G0 G W b Q → TUts X ifs σ H Q
theorem scs_nil : SCs Y sc fc [] (fun _ => some true) :=
  ⟨fun X ok H0 G0 G W H τ σ b w s h Q q => by cases h; exact ⟨_, pts_nil, q G H (Sub.refl G) w⟩⟩
theorem scs_one {f : List Sl → Option Bool} (h : ST Y sc fc a f) : SCs Y sc fc [a] f :=
  ⟨fun X ok H0 G0 G W H τ σ b w s hf Q q => ⟨_, pts_one pt_tu, h.run X ok _ _ _ _ _ _ _ _ w s hf _ q⟩⟩
theorem wipe_ok {K : PySem.W.Frag} {G W : Hp} {τ : List Sl} {σ : St} (s : SlOk K G W τ σ) : ∀ vs : List Nat, SlOk K G W (wipeD τ vs) (wipe σ vs)
  | [] => s
  | v :: vs => (wipe_ok s vs).wput
theorem SlOk.wmono {K : PySem.W.Frag} {G W W' : Hp} {τ : List Sl} {σ : St} (s : SlOk K G W τ σ) (e : Sub W W') : SlOk K G W' τ σ :=
  ⟨s.len, s.val, fun i ds h => let ⟨a, vs, x, y, z⟩ := s.own i ds h; ⟨a, vs, x, e _ _ y, z⟩, s.dis⟩
theorem lcL_len {t : T} {c e : List Sl → Option D} {τ : List Sl} : ∀ {ds xs : List D}, lcL t c e τ ds = some xs → xs.length ≤ ds.length
  | [], xs, h => by simp [lcL] at h; subst h; simp
  | d :: ds, xs, h => by
    simp only [lcL] at h
    obtain ⟨σ1, h1, h⟩ := bnd h
    obtain ⟨b, h2, h⟩ := bnd h
    cases b with
    | true =>
      obtain ⟨x, h3, h⟩ := bnd h
      obtain ⟨ys, h4, rfl⟩ := mpd h
      have := lcL_len h4
      simp; omega
    | false =>
      have := lcL_len (show lcL t c e τ ds = some xs from h)
      simp; omega
def bG (X : Cx) (scope : Scope) (tg : Expr) : TG := fun v σ H Q => ∀ s1 H1 C cl fp, TUg (X.blk s1 H1 scope (compEnvC scope cl C X.env) fp) tg v σ H Q
def bT (X : Cx) (scope : Scope) (ifs : List Expr) : TT := fun σ H Q => ∀ s1 H1 C cl fp, TUts (X.blk s1 H1 scope (compEnvC scope cl C X.env) fp) ifs σ H Q
def bE (X : Cx) (scope : Scope) (elt : Expr) : TE := fun σ H Q => ∀ s1 H1 C cl fp, TU (X.blk s1 H1 scope (compEnvC scope cl C X.env) fp) elt σ H Q
/-- the reading of a comprehension -/
theorem lc_read {scope : Scope} {own : List (Str × Nat)} {t : T} {iter elt : Expr} {ifs : List Expr} (hi : SI Y sc fc tg iter fL)
    (hg : SG Y (relS scope sc) (fun x => scope.names.lookup x == some .cell) tg t) (ht : SCs Y (relS scope sc) (fun x => scope.names.lookup x == some .cell) ifs (fun τ => (fb τ).bind truth)) (he : SE Y (relS scope sc) (fun x => scope.names.lookup x == some .cell) elt fd)
    (hv : ∀ i ∈ tixs t, i ∈ own.map (·.2)) {X : Cx} (ok : XOk Y sc fc X) {H0 G0 G W H : Hp} {τ : List Sl} {σ : St} {ds xs : List D} (w : Wd H0 G0 G W H) (s : SlOk X.K G W τ σ) (hds : fL τ = some ds) (hlen : ds.length ≤ line)
    (hxs : lcL t fb fd (wipeD τ (own.map (·.2))) ds = some xs) {Q : VK} (q : ∀ p vs G' H', H' p = some (.lst vs) → Sub G G' → Wd H0 G0 G' (upd W p (.lst vs)) H' → W p = none → DenL X.K G' xs vs → Q (.ref p) H') :
    tLc (TUi X tg iter) (bG X scope tg) (bT X scope ifs) (bE X scope elt) (own.map (·.2)) σ H Q := by
  refine hi.run X ok _ _ _ _ _ _ _ _ w s hds _ fun J n Gp Yp G1 H1 e1 w1 wk hn hgp hy => ?_
  intro Dl hD
  have wD : W Dl = none := w1.wnone hD
  refine lc_it (g := bG X scope tg) (tt := bT X scope ifs) (te := bE X scope elt) (vs := own.map (·.2)) (σ := σ) (H1 := H1) (D := Dl) (Qd := fun H => Q (.ref Dl) H) wk (fun i H' => ∃ G' acc accD, Sub G1 G' ∧ Wd H0 G0 G' (upd W Dl (.lst acc)) H' ∧ DenL X.K G' accD acc ∧ acc.length ≤ i ∧ ∃ rest, lcL t fb fd (wipeD τ (own.map (·.2))) (ds.drop i) = some rest ∧ xs = accD ++ rest) ?_ ?_ ?_ ?_
  · exact ⟨G1, [], [], Sub.refl _, w1.newO hD, by simp only [DenL], Nat.le_refl _, xs, by simpa using hxs, rfl⟩
  · rintro i H' _ ⟨G', acc, accD, e', w', _⟩
    exact hgp H' (e'.trans w'.gh)
  · rintro i x H' H'' hin ⟨G', acc, accD, e', w', dacc, hacc, rest, hrest, hxr⟩ hyi
    obtain ⟨G2, d, e2, w2, hd, dx⟩ := hy i H' x H'' G' _ hin e' w' hyi
    have hdrop : ds.drop i = d :: ds.drop (i + 1) := by
      obtain ⟨hlt, hget⟩ := List.getElem?_eq_some_iff.mp hd
      rw [List.drop_eq_getElem_cons hlt, hget]
    rw [hdrop] at hrest
    simp only [lcL] at hrest
    obtain ⟨τ1, hτ1, hrest⟩ := bnd hrest
    obtain ⟨k, hk, hrest⟩ := bnd hrest
    intro s1 HH C cl fp
    have okb := ok.blk (s := s1) (H := HH) (scope := scope) (cl := cl) (C := C) (fp := fp)
    have sw : SlOk X.K G2 (upd W Dl (.lst acc)) (wipeD τ (own.map (·.2))) (wipe σ (own.map (·.2))) := (wipe_ok (s.mono (e1.trans (e'.trans e2))) _).wmono (sub_upd wD)
    refine hg.run _ okb _ _ _ _ _ _ _ _ _ _ w2 sw dx hτ1 _ fun σ' sσ' hw => ⟨?_, ?_⟩
    · rw [hw _ hv]; exact wipe_wipe _ _
    · intro s2 HH2 C2 cl2 fp2
      have okb2 := ok.blk (s := s2) (H := HH2) (scope := scope) (cl := cl2) (C := C2) (fp := fp2)
      refine ht.run _ okb2 _ _ _ _ _ _ _ _ w2 sσ' hk _ fun G3 H3 e3 w3 => ?_
      cases k with
      | false =>
        refine iteF ?_
        exact ⟨G3, acc, accD, (e'.trans e2).trans e3, w3, dacc.mono (e2.trans e3), by omega, rest, hrest, hxr⟩
      | true =>
        obtain ⟨y, hyv, hrest⟩ := bnd hrest
        obtain ⟨rest', hrest', rfl⟩ := mpd hrest
        refine iteT ?_
        intro s3 HH3 C3 cl3 fp3
        have okb3 := ok.blk (s := s3) (H := HH3) (scope := scope) (cl := cl3) (C := C3) (fp := fp3)
        refine he.run _ okb3 _ _ _ _ _ _ _ _ w3 (sσ'.mono e3) hyv _ fun v G4 H4 e4 w4 dv => ?_
        refine ⟨acc, (w4.wh Dl _ upd_same).1, lt_line (by omega), G4, acc ++ [v], accD ++ [y], ((e'.trans e2).trans e3).trans e4, ?_, (dacc.mono ((e2.trans e3).trans e4)).snoc dv, by simp; omega, rest', hrest', by simp [hxr]⟩
        have w5 := w4.set (o' := .lst (acc ++ [v])) (p := Dl) upd_same
        rwa [upd_upd] at w5
  · rintro H' ⟨G', acc, accD, e', w', dacc, hacc, rest, hrest, hxr⟩
    rw [hn, List.drop_length] at hrest
    cases hrest
    rw [List.append_nil] at hxr
    subst hxr
    exact q Dl acc G' H' (w'.wh Dl _ upd_same).1 (e1.trans e') w' wD dacc
section
variable {scope : Scope} {own : List (Str × Nat)} {t : T} {iter elt : Expr} {ifs : List Expr}
theorem se_lc (hi : SI Y sc fc tg iter fL) (hs : notSet iter = true) (hbk : blkC Y.N sc scope own = true)
    (hg : SG Y (relS scope sc) (fun x => scope.names.lookup x == some .cell) tg t) (ht : SCs Y (relS scope sc) (fun x => scope.names.lookup x == some .cell) ifs (fun τ => (fb τ).bind truth)) (he : SE Y (relS scope sc) (fun x => scope.names.lookup x == some .cell) elt fd)
    (hv : ∀ i ∈ tixs t, i ∈ own.map (·.2)) :
    SE Y sc fc (.ListComp elt [⟨tg, iter, ifs, 0⟩] scope pos) (fun τ => (fL τ).bind fun ds => if ds.length ≤ line then (lcL t fb fd (wipeD τ (own.map fun p => p.2)) ds).map .lst else none) := by
  refine ⟨fun X ok H0 G0 G W H τ σ d w s h Q q => ?_⟩
  obtain ⟨ds, hds, h⟩ := bnd h
  split at h
  · rename_i hlen
    obtain ⟨xs, hxs, rfl⟩ := mpd h
    refine ⟨_, pe_lc (own := own) ok.calm ok.nd pi_tu (blkOk_by (by rw [ok.eN, ok.sc]; exact hbk)) (fun s1 H1 C cl fp => ⟨fun pins s2 σ2 H2 v u Q2 I r h2 => pg_tu.run pins s2 σ2 H2 v u Q2 I r (h2 s1 H1 C cl fp)⟩)
      (fun s1 H1 C cl fp => ⟨fun pins s2 σ2 H2 Q2 I h2 => pts_tu.run pins s2 σ2 H2 Q2 I (h2 s1 H1 C cl fp)⟩) (fun s1 H1 C cl fp => ⟨fun pins s2 σ2 H2 Q2 I h2 => pe_tu.run pins s2 σ2 H2 Q2 I (h2 s1 H1 C cl fp)⟩) (folded_no hs),
      lc_read hi hg ht he hv ok w s hds hlen hxs fun p vs G' H' hp e' w' hW dxs => ?_⟩
    have hG := (w'.wh p _ upd_same).2
    have w2 := w'.give (o := .lst vs) upd_same
    have ew : del (upd W p (.lst vs)) p = W := by
      funext a
      by_cases ha : a = p
      · subst ha; rw [del_same]; exact hW.symm
      · rw [del_ne ha, upd_ne ha]
    rw [ew] at w2
    refine q _ _ _ (e'.trans (sub_upd hG)) w2 ?_
    simp only [Den]
    exact ⟨p, vs, rfl, upd_same, dxs.mono (sub_upd hG)⟩
  · cases h
end

/-! ### statements -/
def notTup : Expr → Bool
  | .Tuple .. => false
  | _ => true
theorem OQ.mono {K : PySem.W.Frag} {H0 G0 G G' : Hp} {o : Out} {Dn : Ends} (q : OQ K H0 G0 G o Dn) (e : Sub G G') : OQ K H0 G0 G' o Dn := by
  cases o with
  | nx τ => exact fun σ G2 W2 H2 e2 => q σ G2 W2 H2 (e.trans e2)
  | bk τ => exact fun σ G2 W2 H2 e2 => q σ G2 W2 H2 (e.trans e2)
  | ct τ => exact fun σ G2 W2 H2 e2 => q σ G2 W2 H2 (e.trans e2)
  | rt d => exact fun v G2 W2 H2 e2 => q v G2 W2 H2 (e.trans e2)
section
variable {t : T} {ga gb : List Sl → Option Bool} {fs gs : List Sl → Option Out} {st : Stmt} {sts us : List Stmt}
theorem ss_asg {i : Nat} {x : Str} (hN : Y.N[i]? = some x) (hx : Loc sc x) (hf : (fc x || decide (sc.names.lookup x = some .local)) = true) (hc : notComp a = true) (ha : SE Y sc fc a fa) :
    SS Y sc fc (.Assign [.Name x p] a pos) (fun τ => (fa τ).bind fun d => (setT (.nm i) d τ).map .nx) := by
  refine ⟨fun X ok H0 G0 G W H τ σ o w s h Dn q => ?_⟩
  obtain ⟨d, hd, h⟩ := bnd h
  cases h
  refine ⟨_, ps_set ok.nd (by rw [ok.eN]; exact hN) (ok.loc hx) pe_tu (swaps_no hc) (ok.hf hf), ?_⟩
  refine ha.run X ok _ _ _ _ _ _ _ _ w s hd _ fun v G1 H1 e1 w1 dv => ?_
  exact q _ _ _ _ e1 w1 ((s.mono e1).put dv)
theorem swaps_sole {tg : Expr} {l : Nat} {env : Env} (h : notComp a = true) : swapsWithSole [tg] a l env = pure false := swaps_no h
theorem stores_no {tg : Expr} {env : Env} (h : notTup a = true) : swappedStores [tg] a env = pure none := by
  cases a <;> first | (cases tg <;> rfl) | simp [notTup] at h
theorem ss_asgT {tgs : List Expr} {is : List Nat} {k : Nat} (hg : SG Y sc fc (.Tuple tgs k p) (.tp is)) (hc : notComp a = true) (hnt : notTup a = true) (ha : SE Y sc fc a fa) :
    SS Y sc fc (.Assign [.Tuple tgs k p] a pos) (fun τ => (fa τ).bind fun d => (setT (.tp is) d τ).map .nx) := by
  refine ⟨fun X ok H0 G0 G W H τ σ o w s h Dn q => ?_⟩
  obtain ⟨d, hd, h⟩ := bnd h
  obtain ⟨τ', hτ', rfl⟩ := mpd h
  refine ⟨_, ps_asg pe_tu pg_tu (swaps_sole hc) (stores_no hnt), ?_⟩
  refine ha.run X ok _ _ _ _ _ _ _ _ w s hd _ fun v G1 H1 e1 w1 dv => ?_
  exact hg.run X ok _ _ _ _ _ _ _ _ _ _ w1 (s.mono e1) dv hτ' _ fun σ' s' _ => q _ _ _ _ e1 w1 s'
/-- x = [..], the list the slot's own -/
theorem ss_own {i : Nat} {x : Str} (hN : Y.N[i]? = some x) (hx : Loc sc x) (hf : (fc x || decide (sc.names.lookup x = some .local)) = true) (hL : SA Y sc fc es fL) :
    SS Y sc fc (.Assign [.Name x p] (.List es p1) pos) (fun τ => (fL τ).bind fun ds => if ds.length ≤ line then some (.nx (τ.set i (.o (.lst ds)))) else none) := by
  refine ⟨fun X ok H0 G0 G W H τ σ o w s h Dn q => ?_⟩
  obtain ⟨ds, hds, h⟩ := bnd h
  split at h
  · rename_i hl
    cases h
    refine ⟨_, ps_set ok.nd (by rw [ok.eN]; exact hN) (ok.loc hx) (pe_lst pa_tu) (swaps_no rfl) (ok.hf hf), ?_⟩
    refine hL.run X ok _ _ _ _ _ _ _ _ w s hds _ fun vs G1 H1 e1 w1 dvs => ?_
    refine ⟨le_line (by rw [← dvs.length]; exact hl), fun z hz => ?_⟩
    exact q _ _ _ _ e1 (w1.newO hz) ((s.mono e1).putO (w1.wnone hz) (by simp only [DenO]; exact ⟨vs, rfl, dvs⟩))
  · cases h
theorem frz_ok {K : PySem.W.Frag} {H0 G0 G W H : Hp} {τ : List Sl} {σ : St} (i : Nat) (w : Wd H0 G0 G W H) (s : SlOk K G W τ σ) : ∃ G' W', Sub G G' ∧ Wd H0 G0 G' W' H ∧ SlOk K G' W' (frzD τ i) σ := by
  unfold frzD
  split
  · rename_i ds h
    obtain ⟨a, vs, h1, h2, h3⟩ := s.own i ds h
    have hG := (w.wh _ _ h2).2
    exact ⟨_, _, sub_upd hG, w.give h2, s.give h h1 h2 hG h3⟩
  · exact ⟨G, W, Sub.refl _, w, s⟩
theorem attr_base {x m : Str} {env : Env} : attributeBase (.Name x p) m env (eval (.Name x p) env) = eval (.Name x p) env := rfl
theorem ss_app {i : Nat} {x : Str} {ap : Pos} (hN : Y.N[i]? = some x) (hv : Vis sc x) (hd : (x == ("__debug__" : Str)) = false) (hcd : (x == ("__classdict__" : Str)) = false) (hn : notStar a = true) (ha : SE Y sc fc a fa)
    (hline : (ap.endLine == p1.line) = true) :
    SS Y sc fc (.Expr (.Call (.Attribute (.Name x p) "append" ap) [a] [] p1) pos) (fun τ => (fa τ).bind fun d => (getO τ i).bind fun xs => if xs.length < line then some (.nx (τ.set i (.o (.lst (xs ++ [d]))))) else none) := by
  refine ⟨fun X ok H0 G0 G W H τ σ o w s h Dn q => ?_⟩
  obtain ⟨d, hd', h⟩ := bnd h
  obtain ⟨xs, hxs, h⟩ := bnd h
  split at h
  · rename_i hl
    cases h
    have ho := getO_some hxs
    obtain ⟨b, ob, h1, h2, h3⟩ := s.own i _ ho
    simp only [DenO] at h3
    obtain ⟨vs, rfl, h3⟩ := h3
    refine ⟨_, ps_expr (pe_bm PySem.F.plainAttrs_list PySem.F.slot_list_append PySem.F.type_list_append mt_append (pe_var (by rw [ok.eN]; exact hN) (ok.vis hv) hd hcd) (pa_cons pe_tu pa_nil (star_cons hn)) attr_base
      (by rw [star_cons hn]; rfl) hline (star_cons hn) rfl) (by rfl), ?_⟩
    refine ⟨_, h1, .inl ⟨rfl, vs, SqL.of (w.wh _ _ h2).1⟩, ?_⟩
    refine ha.run X ok _ _ _ _ _ _ _ _ w s hd' _ fun v G1 H1 e1 w1 dv => ?_
    refine ⟨b, vs, v, rfl, rfl, (w1.wh _ _ h2).1, lt_line (by rw [← h3.length]; exact hl), ?_⟩
    exact q _ _ _ _ e1 (w1.set h2) ((s.mono e1).chg ho h1 (by simp only [DenO]; exact ⟨_, rfl, (h3.mono e1).snoc dv⟩))
  · cases h
theorem ss_ret (ha : SE Y sc fc a fa) : SS Y sc fc (.Return (some a) pos) (fun τ => (fa τ).map .rt) := by
  refine ⟨fun X ok H0 G0 G W H τ σ o w s h Dn q => ?_⟩
  obtain ⟨d, hd, rfl⟩ := mpd h
  refine ⟨_, ps_ret pe_tu, ?_⟩
  exact ha.run X ok _ _ _ _ _ _ _ _ w s hd _ fun v G1 H1 e1 w1 dv => q v G1 _ H1 e1 w1 dv
theorem ss_retN : SS Y sc fc (.Return none pos) (fun _ => some (.rt .non)) :=
  ⟨fun X ok H0 G0 G W H τ σ o w s h Dn q => by cases h; exact ⟨_, ps_retN, q .non G W H (Sub.refl _) w (by simp only [Den])⟩⟩
theorem ss_pass : SS Y sc fc (.Pass pos) (fun τ => some (.nx τ)) :=
  ⟨fun X ok H0 G0 G W H τ σ o w s h Dn q => by cases h; exact ⟨_, ps_pass, q σ G W H (Sub.refl _) w s⟩⟩
theorem ss_brk : SS Y sc fc (.Break pos) (fun τ => some (.bk τ)) :=
  ⟨fun X ok H0 G0 G W H τ σ o w s h Dn q => by cases h; exact ⟨_, ps_break, q σ G W H (Sub.refl _) w s⟩⟩
theorem ss_cont : SS Y sc fc (.Continue pos) (fun τ => some (.ct τ)) :=
  ⟨fun X ok H0 G0 G W H τ σ o w s h Dn q => by cases h; exact ⟨_, ps_continue, q σ G W H (Sub.refl _) w s⟩⟩
theorem ss_if (hc : ST Y sc fc a ga) (h1 : SSs Y sc fc sts fs) (h2 : SSs Y sc fc us gs) : SS Y sc fc (.If a sts us pos) (fun τ => (ga τ).bind fun k => bif k then fs τ else gs τ) := by
  refine ⟨fun X ok H0 G0 G W H τ σ o w s h Dn q => ?_⟩
  obtain ⟨k, hk, h⟩ := bnd h
  refine ⟨_, ps_if pt_tu pss_tu pss_tu, ?_⟩
  refine hc.run X ok _ _ _ _ _ _ _ _ w s hk _ fun G1 H1 e1 w1 => ?_
  cases k with
  | true => exact iteT (h1.run X ok _ _ _ _ _ _ _ _ w1 (s.mono e1) h _ (q.mono e1))
  | false => exact iteF (h2.run X ok _ _ _ _ _ _ _ _ w1 (s.mono e1) h _ (q.mono e1))
theorem ss_for {iter : Expr} (hi : SI Y sc fc tg iter fL) (hs : notSet iter = true) (hg : SG Y sc fc tg t) (hb : SSs Y sc fc sts fs) : SS Y sc fc (.For tg iter sts [] pos) (fun τ => (fL τ).bind fun ds => forL t fs ds τ) := by
  refine ⟨fun X ok H0 G0 G W H τ σ o w s h Dn q => ?_⟩
  obtain ⟨ds, hds, h⟩ := bnd h
  refine ⟨_, ps_for ok.never ok.calm pi_tu pg_tu pss_tu (folded_no hs), ?_⟩
  refine hi.run X ok _ _ _ _ _ _ _ _ w s hds _ fun J n Gp Yp G1 H1 e1 w1 wk hn hgp hy => ?_
  refine for_it wk (fun i σ' H' => ∃ G' W' τ', Sub G1 G' ∧ Wd H0 G0 G' W' H' ∧ SlOk X.K G' W' τ' σ' ∧ forL t fs (ds.drop i) τ' = some o) ⟨G1, W, τ, Sub.refl _, w1, s.mono e1, by simpa using h⟩ ?_ ?_ ?_
  · rintro i σ' H' _ ⟨G', W', τ', e', w', _⟩
    exact hgp H' (e'.trans w'.gh)
  · rintro i x σ' H' H'' hin ⟨G', W', τ', e', w', s', hrest⟩ hyi
    obtain ⟨G2, d, e2, w2, hd, dx⟩ := hy i H' x H'' G' _ hin e' w' hyi
    have hdrop : ds.drop i = d :: ds.drop (i + 1) := by
      obtain ⟨hlt, hget⟩ := List.getElem?_eq_some_iff.mp hd
      rw [List.drop_eq_getElem_cons hlt, hget]
    rw [hdrop] at hrest
    simp only [forL] at hrest
    obtain ⟨τ1, hτ1, hrest⟩ := bnd hrest
    obtain ⟨o1, ho1, hrest⟩ := bnd hrest
    refine hg.run X ok _ _ _ _ _ _ _ _ _ _ w2 (s'.mono e2) dx hτ1 _ fun σ2 s2 _ => ?_
    refine hb.run X ok _ _ _ _ _ _ _ _ w2 s2 ho1 _ ?_
    cases o1 with
    | nx τ2 => exact fun σ3 G3 W3 H3 e3 w3 s3 => ⟨G3, W3, τ2, (e'.trans e2).trans e3, w3, s3, hrest⟩
    | ct τ2 => exact fun σ3 G3 W3 H3 e3 w3 s3 => ⟨G3, W3, τ2, (e'.trans e2).trans e3, w3, s3, hrest⟩
    | bk τ2 =>
      cases hrest
      exact fun σ3 G3 W3 H3 e3 w3 s3 => q σ3 G3 W3 H3 (((e1.trans e').trans e2).trans e3) w3 s3
    | rt d2 =>
      cases hrest
      exact fun v G3 W3 H3 e3 w3 d3 => q v G3 W3 H3 (((e1.trans e').trans e2).trans e3) w3 d3
  · rintro σ' H' ⟨G', W', τ', e', w', s', hrest⟩
    rw [hn, List.drop_length] at hrest
    cases hrest
    exact q σ' G' W' H' (e1.trans e') w' s'
theorem ss_whl {n : Nat} (hc : ST Y sc fc a (fun τ => (fa τ).bind truth)) (hb : SSs Y sc fc sts fs) : SS Y sc fc (.While a sts [] pos) (fun τ => whlL fa fs n τ) := by
  refine ⟨fun X ok H0 G0 G W H τ σ o w s h Dn q => ?_⟩
  refine ⟨_, ps_while ok.never pt_tu pss_tu, ?_⟩
  refine ⟨fun m σ' H' => ∃ G' W' τ', Sub G G' ∧ Wd H0 G0 G' W' H' ∧ SlOk X.K G' W' τ' σ' ∧ whlL fa fs m τ' = some o, ⟨n, G, W, τ, Sub.refl _, w, s, h⟩, ?_⟩
  rintro m σ' H' ⟨G', W', τ', e', w', s', hm⟩
  cases m with
  | zero => cases hm
  | succ m =>
    simp only [whlL] at hm
    obtain ⟨k, hk, hm⟩ := bnd hm
    refine hc.run X ok _ _ _ _ _ _ _ _ w' s' hk _ fun G1 H1 e1 w1 => ?_
    cases k with
    | false =>
      cases hm
      exact iteF (q σ' G1 W' H1 (e'.trans e1) w1 (s'.mono e1))
    | true =>
      obtain ⟨o1, ho1, hm⟩ := bnd hm
      refine iteT ⟨fun σ2 H2 => ∃ G2 W2 τ2, Sub G G2 ∧ Wd H0 G0 G2 W2 H2 ∧ SlOk X.K G2 W2 τ2 σ2 ∧ whlL fa fs m τ2 = some o, fun σ2 H2 h2 => ⟨m, Nat.lt_succ_self m, h2⟩, ?_⟩
      refine hb.run X ok _ _ _ _ _ _ _ _ w1 (s'.mono e1) ho1 _ ?_
      cases o1 with
      | nx τ2 => exact fun σ3 G3 W3 H3 e3 w3 s3 => ⟨G3, W3, τ2, (e'.trans e1).trans e3, w3, s3, hm⟩
      | ct τ2 => exact fun σ3 G3 W3 H3 e3 w3 s3 => ⟨G3, W3, τ2, (e'.trans e1).trans e3, w3, s3, hm⟩
      | bk τ2 =>
        cases hm
        exact fun σ3 G3 W3 H3 e3 w3 s3 => q σ3 G3 W3 H3 ((e'.trans e1).trans e3) w3 s3
      | rt d2 =>
        cases hm
        exact fun v G3 W3 H3 e3 w3 d3 => q v G3 W3 H3 ((e'.trans e1).trans e3) w3 d3
theorem sss_nil : SSs Y sc fc [] (fun τ => some (.nx τ)) :=
  ⟨fun X ok H0 G0 G W H τ σ o w s h Dn q => by cases h; exact ⟨_, pss_nil, q σ G W H (Sub.refl _) w s⟩⟩
theorem sss_cons (h1 : SS Y sc fc st fs) (h2 : SSs Y sc fc sts gs) : SSs Y sc fc (st :: sts) (fun τ => (fs τ).bind fun o => match o with
    | .nx τ2 => gs τ2
    | .rt d => some (.rt d)
    | .bk τ2 => some (.bk τ2)
    | .ct τ2 => some (.ct τ2)) := by
  refine ⟨fun X ok H0 G0 G W H τ σ o w s h Dn q => ?_⟩
  obtain ⟨o1, ho1, h⟩ := bnd h
  refine ⟨_, pss_cons ps_tu pss_tu, ?_⟩
  refine h1.run X ok _ _ _ _ _ _ _ _ w s ho1 _ ?_
  cases o1 with
  | nx τ2 => exact fun σ3 G3 W3 H3 e3 w3 s3 => h2.run X ok _ _ _ _ _ _ _ _ w3 s3 h _ (q.mono e3)
  | ct τ2 => cases h; exact q
  | bk τ2 => cases h; exact q
  | rt d2 => cases h; exact q
theorem sss_frz {i : Nat} (h2 : SSs Y sc fc sts gs) : SSs Y sc fc sts (fun τ => gs (frzD τ i)) := by
  refine ⟨fun X ok H0 G0 G W H τ σ o w s h Dn q => ?_⟩
  obtain ⟨G', W', e', w', s'⟩ := frz_ok i w s
  exact h2.run X ok _ _ _ _ _ _ _ _ w' s' h _ (q.mono e')
/-- x = [.. for ..] -/
theorem ss_lc {i : Nat} {x : Str} {scope : Scope} {own : List (Str × Nat)} {iter elt : Expr} {ifs : List Expr} (hN : Y.N[i]? = some x) (hx : Loc sc x) (hf : (fc x || decide (sc.names.lookup x = some .local)) = true)
    (hi : SI Y sc fc tg iter fL) (hs : notSet iter = true) (hbk : blkC Y.N sc scope own = true)
    (hg : SG Y (relS scope sc) (fun x => scope.names.lookup x == some .cell) tg t) (ht : SCs Y (relS scope sc) (fun x => scope.names.lookup x == some .cell) ifs (fun τ => (fb τ).bind truth)) (he : SE Y (relS scope sc) (fun x => scope.names.lookup x == some .cell) elt fd)
    (hv : ∀ i ∈ tixs t, i ∈ own.map (·.2)) :
    SS Y sc fc (.Assign [.Name x p] (.ListComp elt [⟨tg, iter, ifs, 0⟩] scope p1) pos) (fun τ => ((fL τ).bind fun ds => if ds.length ≤ line then (lcL t fb fd (wipeD τ (own.map fun p => p.2)) ds).map .lst else none).bind fun d => (setT (.nm i) d τ).map .nx) := by
  refine ⟨fun X ok H0 G0 G W H τ σ o w s h Dn q => ?_⟩
  obtain ⟨d, hd, h⟩ := bnd h
  have he' := se_lc (pos := p1) hi hs hbk hg ht he hv
  cases hsw : (X.env.blockKind == .function && X.env.kindOf x == some .local && p.line == p1.line && !(scope.names.any fun (n, k) => n == x && (k == .local || k == .cell))) with
  | false =>
    cases h
    have e : swapsWith (.ListComp elt [⟨tg, iter, ifs, 0⟩] scope p1) (some (.Name x p)) pos.line X.env = pure false := by
      show (pure (X.env.blockKind == .function && X.env.kindOf x == some .local && p.line == p1.line && !(scope.names.any fun (n, k) => n == x && (k == .local || k == .cell))) : PySem.Sem Bool) = _
      rw [hsw]
    refine ⟨_, ps_set ok.nd (by rw [ok.eN]; exact hN) (ok.loc hx) pe_tu e (ok.hf hf), ?_⟩
    refine he'.run X ok _ _ _ _ _ _ _ _ w s hd _ fun v G1 H1 e1 w1 dv => ?_
    exact q _ _ _ _ e1 w1 ((s.mono e1).put dv)
  | true =>
    cases h
    obtain ⟨ds, hds, hd⟩ := bnd hd
    split at hd
    · rename_i hlen
      obtain ⟨xs, hxs, rfl⟩ := mpd hd
      have e : swapsWith (.ListComp elt [⟨tg, iter, ifs, 0⟩] scope p1) (some (.Name x p)) pos.line X.env = pure true := by
        show (pure (X.env.blockKind == .function && X.env.kindOf x == some .local && p.line == p1.line && !(scope.names.any fun (n, k) => n == x && (k == .local || k == .cell))) : PySem.Sem Bool) = _
        rw [hsw]
      have hloc : X.env.scope.names.lookup x = some .local := by
        simp only [Bool.and_eq_true] at hsw
        have := hsw.1.1.2
        simpa [Env.kindOf] using this
      refine ⟨_, ps_setLc (own := own) ok.calm ok.nd (by rw [ok.eN]; exact hN) hloc e pi_tu (blkOk_by (by rw [ok.eN, ok.sc]; exact hbk)) (fun s1 H1 C cl fp => ⟨fun pins s2 σ2 H2 v u Q2 I r h2 => pg_tu.run pins s2 σ2 H2 v u Q2 I r (h2 s1 H1 C cl fp)⟩)
        (fun s1 H1 C cl fp => ⟨fun pins s2 σ2 H2 Q2 I h2 => pts_tu.run pins s2 σ2 H2 Q2 I (h2 s1 H1 C cl fp)⟩) (fun s1 H1 C cl fp => ⟨fun pins s2 σ2 H2 Q2 I h2 => pe_tu.run pins s2 σ2 H2 Q2 I (h2 s1 H1 C cl fp)⟩) (folded_no hs),
        lc_read hi hg ht he hv ok w s hds hlen hxs fun p vs G' H' hp e' w' hW dxs => ?_⟩
      have hG := (w'.wh p _ upd_same).2
      have w2 := w'.give (o := .lst vs) upd_same
      have ew : del (upd W p (.lst vs)) p = W := by
        funext a
        by_cases ha : a = p
        · subst ha; rw [del_same]; exact hW.symm
        · rw [del_ne ha, upd_ne ha]
      rw [ew] at w2
      refine q _ _ _ _ (e'.trans (sub_upd hG)) w2 ((s.mono (e'.trans (sub_upd hG))).put ?_)
      simp only [Den]
      exact ⟨p, vs, rfl, upd_same, dxs.mono (sub_upd hG)⟩
    · cases hd
end
end
end Pv

set_option Elab.async false
set_option linter.all false
set_option maxRecDepth 100000
set_option maxHeartbeats 4000000

namespace Pv
open PySem PySem.Spec L2

/-! ### syntax -/
def plainBase : Expr → Bool
  | .Call .. => false
  | _ => true
theorem base_no {o : Expr} {m : Str} {env : Env} {whole : Sem Value} (h : plainBase o = true) : attributeBase o m env whole = whole := by
  cases o <;> first | rfl | simp [plainBase] at h
theorem all_bk {es : List Expr} {env : Env} {pos : Pos} (h : es.all notStar = true) : (backTo pos (starEach es env)).all (fun x => !x.1) = true := by
  induction es with
  | nil => rfl
  | cons e es ih =>
    simp only [List.all_cons, Bool.and_eq_true] at h
    rw [star_cons h.1]
    have := ih h.2
    simpa [backTo] using this
theorem form_ok {es : List Expr} {env : Env} {pos : Pos} (h : es.all notStar = true) (hl : es.length < 30) : methodCallForm (es.length + ([] : List Keyword).length) (backTo pos (starEach es env)) (backToKw pos (keywordEach [] env)) = true := by
  unfold methodCallForm
  have : (backTo pos (starEach es env)).all (!·.1) = true := all_bk h
  rw [this]
  simp [keywordEach, backToKw, hl]
theorem meth_eq {o : Expr} {m : Str} {apos pos : Pos} {es : List Expr} {env : Env} (hb : plainBase o = true) (hn : es.all notStar = true) (hl : es.length < 30) (hline : (apos.endLine == pos.line) = true) :
    eval (.Call (.Attribute o m apos) es [] pos) env = (do
      let ov ← eval o env
      standAt apos.atName
      let (f, first) ← holding [ov] (getMethod ov m (do return (← importBound o env).getD true))
      callWith pos f first (backTo pos (starEach es env)) (backToKw pos (keywordEach [] env))) := by
  rw [arm_eval_Call, base_no hb]
  have hp : methodCallPos true o env apos pos = pure pos := by unfold methodCallPos; simp [hline]
  unfold methodCall
  rw [form_ok hn hl, hp]
  rfl

/-! ### keywords -/
def TUk (X : Cx) (kws : List Keyword) : TA := fun σ H Q => ∃ t, PK X kws t ∧ t σ H Q
theorem pk_tu {X : Cx} {kws : List Keyword} : PK X kws (TUk X kws) := ⟨fun pos pins s σ H Q I ⟨_, p, h⟩ => p.run pos pins s σ H Q I h⟩
structure SK (Y : Stat) (sc : Scope) (fc : Str → Bool) (kws : List Keyword) (f : List Sl → Option (List D)) : Prop where
  run : ∀ X, XOk Y sc fc X → ∀ H0 G0 G W H τ σ ds, Wd H0 G0 G W H → SlOk X.K G W τ σ → f τ = some ds → ∀ Q, AQ X.K H0 G0 G W ds Q → TUk X kws σ H Q
theorem kw_names {env : Env} {pos : Pos} : ∀ kws : List Keyword, (backToKw pos (keywordEach kws env)).filterMap (·.1) = kws.filterMap (·.arg)
  | [] => rfl
  | ⟨n, e, p⟩ :: r => by
    have ih := kw_names (env := env) (pos := pos) r
    show List.filterMap _ ((n, _) :: _) = _
    rw [List.filterMap_cons, List.filterMap_cons]
    cases n with
    | none => exact ih
    | some n => exact congrArg (List.cons n) ih
theorem kw_all {env : Env} {pos : Pos} : ∀ {kws : List Keyword}, kws.all (fun k => k.arg.isSome) = true → (backToKw pos (keywordEach kws env)).all (·.1.isSome) = true ∧ (backToKw pos (keywordEach kws env)).any (·.1.isNone) = false
  | [], _ => ⟨rfl, rfl⟩
  | ⟨n, e, p⟩ :: r, h => by
    simp only [List.all_cons, Bool.and_eq_true] at h
    obtain ⟨i1, i2⟩ := kw_all (env := env) (pos := pos) h.2
    cases n with
    | none => simp at h
    | some n =>
      constructor
      · show ((some n).isSome && (backToKw pos (keywordEach r env)).all _) = true
        rw [i1]; rfl
      · show ((some n).isNone || (backToKw pos (keywordEach r env)).any _) = false
        rw [i2]; rfl
section
variable {X : Cx} {CX : CXT} {k : Nat} {f : Addr} {fd : FuncData} {ps ks : List Str} {sp : Sp} {E : XK} {x : Str} {p pos : Pos} {kws : List Keyword} {tk : TA} {g : List Value → List Value → List Value} {gV : List V → List V → List V}
theorem pe_callN0 (F : FnOk X.prog X.w X.K X.mg X.base CX k f fd ps sp) (hr : Room k X.A) (hg : Gl X x) (hm : X.mg x = some (.ref f)) (hk : PySem.W.keepIn X.K (.ref f) = true) (hb : KBn X.K fd ps 0 ks g gV) (hx : Passes CX X E)
    (hkw : PK X kws tk) (hall : (backToKw pos (keywordEach kws X.env)).all (·.1.isSome) = true) (hks : (backToKw pos (keywordEach kws X.env)).filterMap (·.1) = ks)
    (hdb : (x == ("__debug__" : Str)) = false) (hpl : ((backTo pos (starEach [] X.env)).any (·.1) || (backToKw pos (keywordEach kws X.env)).any (·.1.isNone)) = false) :
    PE X (.Call (.Name x p) [] kws pos) (tCallN 0 ks.length sp gV E tNil tk) := by
  refine ⟨fun pins s σ H Q I h => ?_⟩
  refine wpAny_Call_Name_kw (ld_glob I hg hm ?_ hdb)
  refine PySem.W.callWith_KW0 (h₀ := X.base) I.ok.mod.kin hk hall ?_ hpl
  refine thn (hkw.run pos pins s σ H _ I h) fun ws s2 ⟨zs, H2, I2, rz, l1, l2, q2⟩ => ⟨I2.kIn, ?_⟩
  rw [hks]
  exact run_fnN (us := []) (vs := []) F hr hb hx I2 .nil rz rfl l2 q2
end

section
variable {K : PySem.W.Frag} {G : Hp}
theorem permL_den {ds : List D} {vs : List V} (h : DenL K G ds vs) : ∀ perm : List Nat, DenL K G (permL perm ds) (perm.filterMap (vs[·]?))
  | [] => by simp [permL, DenL]
  | i :: perm => by
    have ih := permL_den h perm
    unfold permL at ih ⊢
    rw [List.filterMap_cons, List.filterMap_cons]
    cases hd : ds[i]? with
    | none =>
      have : vs[i]? = none := by
        rw [List.getElem?_eq_none_iff] at hd ⊢
        rw [← h.length]; exact hd
      rw [this]
      exact ih
    | some d =>
      obtain ⟨v, hv, dv⟩ := h.get hd
      rw [hv]
      simp only [DenL]
      exact ⟨v, _, rfl, dv, ih⟩
theorem fldOf_den : ∀ {ns : List Str} {ds : List D} {nvs : List (Str × V)} {f : Str} {d : D}, fldOf ns ds f = some d → ns = nvs.map (fun p => p.1) → DenL K G ds (nvs.map (fun p => p.2)) → ∃ v, nvs.lookup f = some v ∧ Den K G d v
  | [], ds, nvs, f, d, h, _, _ => by simp [fldOf] at h
  | n :: ns, [], nvs, f, d, h, _, _ => by simp [fldOf] at h
  | n :: ns, x :: ds, [], f, d, h, e, _ => by simp at e
  | n :: ns, x :: ds, p :: nvs, f, d, h, e, hd => by
    simp only [List.map_cons, List.cons.injEq] at e
    simp only [List.map_cons, DenL] at hd
    obtain ⟨v, r, e2, d1, d2⟩ := hd
    simp only [List.cons.injEq] at e2
    obtain ⟨e3, e4⟩ := e2
    subst e3 e4
    simp only [fldOf] at h
    obtain ⟨n', v'⟩ := p
    by_cases hn : n = f
    · rw [if_pos hn] at h
      cases h
      refine ⟨v', ?_, d1⟩
      have : (f == n') = true := by rw [← hn, e.1]; simp
      simp [List.lookup, this]
    · rw [if_neg hn] at h
      obtain ⟨w, h1, h2⟩ := fldOf_den h e.2 d2
      refine ⟨w, ?_, h2⟩
      have : (f == n') = false := by
        rw [beq_eq_false_iff_ne]
        intro z
        exact hn (by rw [e.1, z])
      simp [List.lookup, this, h1]
theorem lookup_none {nvs : List (Str × V)} {m : Str} (h : ¬ m ∈ nvs.map (fun p => p.1)) : nvs.lookup m = none := by
  induction nvs with
  | nil => rfl
  | cons p r ih =>
    simp only [List.map_cons, List.mem_cons, not_or] at h
    have : (m == p.1) = false := by rw [beq_eq_false_iff_ne]; exact h.1
    obtain ⟨a, b⟩ := p
    simp only [List.lookup, this]
    exact ih h.2
theorem putN_den : ∀ {ns : List Str} {ds : List D} {nvs : List (Str × V)} {f : Str} {d : D} {v : V}, ns = nvs.map (fun p => p.1) → DenL K G ds (nvs.map (fun p => p.2)) → Den K G d v →
    putN ns ds f = (putF f v nvs).map (fun p => p.1) ∧ DenL K G (putV ns ds f d) ((putF f v nvs).map (fun p => p.2))
  | [], ds, [], f, d, v, _, hd, dv => by
    cases ds with
    | nil =>
      simp only [putN, putV, putF, List.map_cons, List.map_nil, DenL]
      exact ⟨trivial, v, [], rfl, dv, rfl⟩
    | cons y ys => simp [DenL] at hd
  | [], ds, p :: nvs, f, d, v, e, _, _ => by simp at e
  | n :: ns, ds, [], f, d, v, e, _, _ => by simp at e
  | n :: ns, [], p :: nvs, f, d, v, _, hd, _ => by simp [DenL] at hd
  | n :: ns, x :: ds, p :: nvs, f, d, v, e, hd, dv => by
    simp only [List.map_cons, List.cons.injEq] at e
    simp only [List.map_cons, DenL] at hd
    obtain ⟨u, r, e2, d1, d2⟩ := hd
    simp only [List.cons.injEq] at e2
    obtain ⟨e3, e4⟩ := e2
    subst e4
    obtain ⟨n', v'⟩ := p
    obtain ⟨i1, i2⟩ := putN_den (f := f) (d := d) (v := v) e.2 d2 dv
    have en : n = n' := e.1
    subst en
    by_cases hn : n = f
    · simp only [putN, putV, putF, if_pos hn, List.map_cons, DenL]
      refine ⟨?_, v, _, rfl, dv, d2⟩
      rw [e.2]
    · simp only [putN, putV, putF, if_neg hn, List.map_cons, DenL]
      refine ⟨by rw [i1], v', _, rfl, ?_, i2⟩
      rw [show v' = u from e3]
      exact d1
theorem hasK_any {ks : List D} {kvs : List (Key × V)} (q : Key) (h : ks.map D.key = kvs.map (fun p => some p.1)) : hasK ks q = kvs.any fun kv => decide (kv.1 = q) := by
  unfold hasK
  have : (ks.any fun k => decide (D.key k = some q)) = (ks.map D.key).any fun z => decide (z = some q) := by rw [List.any_map]; rfl
  rw [this, h, List.any_map]
  congr 1
  funext p
  simp
theorem dput_den {ks vs : List D} {kvs : List (Key × V)} {q : Key} {x d : D} {v : V} (h1 : ks.map D.key = kvs.map (fun p => some p.1)) (h2 : DenL K G vs (kvs.map (fun p => p.2))) (hx : D.key x = some q) (dv : Den K G d v) :
    (dputK ks q x).map D.key = (putK kvs q v).map (fun p => some p.1) ∧ DenL K G (dputV ks vs q d) ((putK kvs q v).map (fun p => p.2)) := by
  unfold dputK dputV putK
  rw [hasK_any q h1]
  cases hc : kvs.any fun kv => decide (kv.1 = q)
  · simp only [Bool.false_eq_true, if_false, List.map_append, List.map_cons, List.map_nil]
    exact ⟨by rw [h1, hx], h2.snoc dv⟩
  · simp only [if_true]
    refine ⟨?_, ?_⟩
    · rw [h1, List.map_map]
      apply List.map_congr_left
      intro p _
      simp only [Function.comp]
      split <;> rfl
    · clear hc
      induction ks generalizing vs kvs with
      | nil =>
        cases kvs with
        | nil => simp [DenL]
        | cons p r => simp at h1
      | cons k ks ih =>
        cases kvs with
        | nil => simp at h1
        | cons p r =>
          cases vs with
          | nil => simp [DenL] at h2
          | cons y vs =>
            simp only [List.map_cons, List.cons.injEq] at h1
            simp only [List.map_cons, DenL] at h2
            obtain ⟨u, r', e, d1, d2⟩ := h2
            simp only [List.cons.injEq] at e
            obtain ⟨e1, e2⟩ := e
            subst e2
            have := ih h1.2 d2
            simp only [List.zipWith_cons_cons, List.map_cons, DenL]
            refine ⟨_, _, rfl, ?_, this⟩
            by_cases hq : p.1 = q
            · have : D.key k = some q := by rw [h1.1, hq]
              rw [if_pos this, if_pos hq]
              exact dv
            · have : ¬ D.key k = some q := by rw [h1.1]; intro z; exact hq (Option.some.inj z)
              rw [if_neg this, if_neg hq, e1]
              exact d1
theorem strsD_den : ∀ {ds : List D} {ps : List (List Nat)} {vs : List V}, strsD ds = some ps → DenL K G ds vs → vs = (ps.map mkS).map V.str
  | [], ps, vs, h, hd => by simp [strsD] at h; subst h; simp only [DenL] at hd; subst hd; rfl
  | x :: r, ps, vs, h, hd => by
    cases x <;> first | (simp [strsD] at h; done) | skip
    rename_i z
    simp only [strsD] at h
    obtain ⟨qs, h1, rfl⟩ := mpd h
    simp only [DenL, Den] at hd
    obtain ⟨v, r', rfl, rfl, d2⟩ := hd
    rw [strsD_den h1 d2]
    rfl
theorem joinN_eq (s : List Nat) : ∀ ps : List (List Nat), TL.joinL s ps = joinN s ps
  | [] => rfl
  | [p] => rfl
  | p :: q :: r => by
    show p ++ (s ++ TL.joinL s (q :: r)) = p ++ (s ++ joinN s (q :: r))
    rw [joinN_eq s (q :: r)]
end

section
variable {Y : Stat} {sc : Scope} {fc : Str → Bool} {pos p p1 p2 apos : Pos} {a b c o : Expr} {es : List Expr} {fa fb fd : List Sl → Option D} {fL fK : List Sl → Option (List D)} {kws : List Keyword}
theorem sk_nil : SK Y sc fc [] (fun _ => some []) :=
  ⟨fun X ok H0 G0 G W H τ σ ds w s h Q q => by cases h; exact ⟨_, pk_nil, q [] G H (Sub.refl G) w (by simp only [DenL])⟩⟩
theorem sk_cons {nm : Option Str} (ha : SE Y sc fc a fa) (hL : SK Y sc fc kws fL) : SK Y sc fc (⟨nm, a, p⟩ :: kws) (fun τ => (fa τ).bind fun d => (fL τ).map (d :: ·)) := by
  refine ⟨fun X ok H0 G0 G W H τ σ ds w s h Q q => ?_⟩
  obtain ⟨x, hx, h⟩ := bnd h
  obtain ⟨xs, hxs, rfl⟩ := mpd h
  refine ⟨_, pk_cons pe_tu pk_tu, ?_⟩
  refine ha.run X ok _ _ _ _ _ _ _ _ w s hx _ fun v G1 H1 e1 w1 dv => ?_
  refine hL.run X ok _ _ _ _ _ _ _ _ w1 (s.mono e1) hxs _ fun vs G2 H2 e2 w2 dvs => ?_
  exact q _ _ _ (e1.trans e2) w2 (by simp only [DenL]; exact ⟨v, vs, rfl, dv.mono e2, dvs⟩)
theorem se_callK {i : Nat} {x : Str} {ks : List Str} {perm : List Nat} (hi : (i, x, ks, perm) ∈ Y.kws) (hg : sc.names.lookup x = some .globalImplicit) (hd : (x == ("__debug__" : Str)) = false) (hks : kws.filterMap (·.arg) = ks) (hall : kws.all (fun k => k.arg.isSome) = true)
    (hL : SK Y sc fc kws fL) (hlen : ∀ τ ds, fL τ = some ds → ds.length = ks.length) : SE Y sc fc (.Call (.Name x p) [] kws pos) (fun τ => (fL τ).bind fun ds => Y.Z.F i (permL perm ds)) := by
  refine ⟨fun X ok H0 G0 G W H τ σ d w s h Q q => ?_⟩
  obtain ⟨xs, hxs, h⟩ := bnd h
  obtain ⟨f, fd, ps, g, gV, hm, hk, hb, hgV, hF⟩ := (ok.kws i x ks perm hi).ex
  obtain ⟨k1, k2⟩ := kw_all (env := X.env) (pos := pos) hall
  refine ⟨_, pe_callN0 hF ok.room (ok.gl hg) hm hk hb pass0 pk_tu k1 (by rw [kw_names, hks]) hd (by rw [k2]; rfl), ?_⟩
  refine hL.run X ok _ _ _ _ _ _ _ _ w s hxs _ fun vs G1 H1 e1 w1 dvs => ?_
  refine ⟨rfl, by rw [← dvs.length]; exact hlen _ _ hxs, ?_⟩
  rw [hgV]
  exact ⟨_, d, G1, w1.gh, permL_den dvs perm, h, fun v G' H' a b c e dv => q v G' H' (e1.trans b) (w1.call a b c e) dv⟩
/-- C(args) -/
theorem se_mk {i : Nat} {x : Str} (hi : (i, x) ∈ Y.mks) (hg : sc.names.lookup x = some .globalImplicit) (hd : (x == ("__debug__" : Str)) = false) (hn : (a :: es).all notStar = true) (hL : SA Y sc fc (a :: es) fL) :
    SE Y sc fc (.Call (.Name x p) (a :: es) [] pos) (fun τ => (fL τ).bind fun ds => Y.Z.F i ds) := by
  refine ⟨fun X ok H0 G0 G W H τ σ d w s h Q q => ?_⟩
  obtain ⟨xs, hxs, h⟩ := bnd h
  obtain ⟨C, f, fd, ps, k, hk, hC, hm, M, hb, hF, hv⟩ := (ok.mks i x hi).ex
  obtain ⟨ns, fs, rfl⟩ := hv _ _ h
  simp only [List.all_cons, Bool.and_eq_true] at hn
  refine ⟨_, pe_make M hF (ok.room.mono hk) (ok.gl hg) hm hb .nil pass0 pa_tu hd (star_cons hn.1) (star_any hn.2), ?_⟩
  refine hL.run X ok _ _ _ _ _ _ _ _ w s hxs _ fun vs G1 H1 e1 w1 dvs => ?_
  intro z dz hz hdz hne
  rw [List.append_nil]
  refine ⟨z, C, dz, vs, xs, ns, fs, G1, rfl, upd_same, hC, ?_, w1.gnone hz, dvs, h, ?_⟩
  · intro a u e
    rw [upd_ne (ne_of_none e (w1.gnone hz)), upd_ne (ne_of_none e (w1.gnone hdz))]
    exact w1.gh a u e
  · intro ob G' H' k1 k2 k3 k4 k5 k6 k7
    have big : ∀ a u, H1 a = some u → a ≠ z ∧ upd (upd H1 dz (.own z)) z (.ins C dz []) a = some u := fun a u e => by
      have n1 := ne_of_none e hz
      exact ⟨n1, by rw [upd_ne n1, upd_ne (ne_of_none e hdz)]; exact e⟩
    refine ⟨rfl, q _ G' H' (e1.trans k3) ⟨k4, fun a u e => ?_, w1.wi, fun a u e => ?_, fun a u e => ?_⟩ (DenO.den k6 _ k7)⟩
    · obtain ⟨n1, e2⟩ := big a u (w1.wh a u e).1
      exact ⟨k1 a u n1 e2, by rw [k5 a u n1 e2]; exact (w1.wh a u e).2⟩
    · obtain ⟨n1, e2⟩ := big a u (w1.h0 a u e).1
      rw [k5 a u n1 e2]
      exact w1.hg a u e
    · obtain ⟨n1, e2⟩ := big a u (w1.h0 a u e).1
      exact ⟨k1 a u n1 e2, (w1.h0 a u e).2⟩
/-- o.f, a field -/
theorem se_fld {f : Str} (hb : plainBase a = true) (ha : SE Y sc fc a fa) : SE Y sc fc (.Attribute a f pos) (fun τ => (fa τ).bind fun x => match x with
    | .ins c ns vs => if (c, f) ∈ Y.Z.L then fldOf ns vs f else none
    | _ => none) := by
  refine ⟨fun X ok H0 G0 G W H τ σ d w s h Q q => ?_⟩
  obtain ⟨x, hx, h⟩ := bnd h
  split at h
  · rename_i c ns vs
    split at h
    · rename_i hm
      obtain ⟨C, h1, h2, h3⟩ := (ok.fld c f hm).ex
      refine ⟨_, pe_fld pe_tu (base_no hb), ?_⟩
      refine ha.run X ok _ _ _ _ _ _ _ _ w s hx _ fun v G1 H1 e1 w1 dv => ?_
      simp only [Den] at dv
      obtain ⟨p, C', dx, nvs, rfl, hp, hC, hns, dvs⟩ := dv
      rw [h1] at hC
      cases hC
      obtain ⟨v, hl, dv⟩ := fldOf_den h hns dvs
      exact ⟨p, _, dx, nvs, v, rfl, w1.gh _ _ hp, h2, h3, hl, q _ _ _ e1 w1 dv⟩
    · cases h
  · cases h
/-- o.m(..) -/
theorem se_mth {m : Str} (hb : plainBase o = true) (hline : (apos.endLine == pos.line) = true) (hlen : es.length < 30) (ho : SE Y sc fc o fa) (hn : es.all notStar = true) (hL : SA Y sc fc es fL) (h0 : es = [] → ∀ τ ds, fL τ = some ds → ds = []) :
    SE Y sc fc (.Call (.Attribute o m apos) es [] pos) (fun τ => (fa τ).bind fun x => (fL τ).bind fun ds => match x with
    | .ins c ns vs => if m ∈ ns then none else (findM Y.Z.M c m).bind fun k => Y.Z.F k (x :: ds)
    | _ => none) := by
  refine ⟨fun X ok H0 G0 G W H τ σ d w s h Q q => ?_⟩
  obtain ⟨x, hx, h⟩ := bnd h
  obtain ⟨xs, hxs, h⟩ := bnd h
  split at h
  · rename_i c ns vs _
    split at h
    · cases h
    · rename_i hnm
      obtain ⟨k, hk, h⟩ := bnd h
      obtain ⟨C, f, fd, ps, h1, h2, h3, hbi, hF⟩ := (ok.mth c m k hk).ex
      have fin : ∀ (us : List V) (G1 H1 G2 H2 : Hp) (v : V), Sub G G1 → Sub G1 G2 → Wd H0 G0 G2 W H2 → Den X.K G1 (.ins c ns vs) v → DenL X.K G2 xs us → spF X.K (Y.Z.F k) (v :: (us ++ [])) H2 Q E0 := by
        intro us G1 H1 G2 H2 v e1 e2 w2 dv dus
        rw [List.append_nil]
        exact ⟨_, d, G2, w2.gh, by simp only [DenL]; exact ⟨v, us, rfl, dv.mono e2, dus⟩, h, fun v G' H' a b c e dv => q v G' H' ((e1.trans e2).trans b) (w2.call a b c e) dv⟩
      cases es with
      | nil =>
        refine ⟨_, pe_meth0 pe_tu h2 h3 hF ok.room hbi .nil pass0 (meth_eq hb hn (by simp) hline), ?_⟩
        refine ho.run X ok _ _ _ _ _ _ _ _ w s hx _ fun v G1 H1 e1 w1 dv => ?_
        have dv' := dv
        simp only [Den] at dv'
        obtain ⟨p, C', dx, nvs, rfl, hp, hC, hns, dvs⟩ := dv'
        rw [h1] at hC
        cases hC
        refine ⟨p, dx, nvs, rfl, w1.gh _ _ hp, lookup_none (by rw [← hns]; exact hnm), ?_⟩
        have e0 : xs = [] := h0 rfl _ _ hxs
        subst e0
        exact fin [] G1 H1 G1 H1 _ e1 (Sub.refl _) w1 dv (by simp only [DenL])
      | cons e1' er =>
        simp only [List.all_cons, Bool.and_eq_true] at hn
        refine ⟨_, pe_meth pe_tu h2 h3 hF ok.room hbi .nil pass0 pa_tu (star_cons hn.1) (star_any hn.2) (meth_eq hb (by simp [hn]) hlen hline), ?_⟩
        refine ho.run X ok _ _ _ _ _ _ _ _ w s hx _ fun v G1 H1 e1 w1 dv => ?_
        have dv' := dv
        simp only [Den] at dv'
        obtain ⟨p, C', dx, nvs, rfl, hp, hC, hns, dvs⟩ := dv'
        rw [h1] at hC
        cases hC
        refine ⟨p, dx, nvs, rfl, w1.gh _ _ hp, lookup_none (by rw [← hns]; exact hnm), ?_⟩
        refine hL.run X ok _ _ _ _ _ _ _ _ w1 (s.mono e1) hxs _ fun us G2 H2 e2 w2 dus => ?_
        exact fin us G1 H1 G2 H2 _ e1 e2 w2 dv dus
  · cases h
end
end Pv

set_option Elab.async false
set_option linter.all false
set_option maxRecDepth 100000
set_option maxHeartbeats 4000000

namespace Pv
open PySem PySem.Spec L2

section
variable {Y : Stat} {sc : Scope} {fc : Str → Bool} {pos p p1 p2 apos : Pos} {a b c o : Expr} {es : List Expr} {fa fb fd : List Sl → Option D} {fL fK : List Sl → Option (List D)} {kws : List Keyword}
/-- o.f, a property -/
theorem se_prp {f : Str} (hb : plainBase a = true) (ha : SE Y sc fc a fa) : SE Y sc fc (.Attribute a f pos) (fun τ => (fa τ).bind fun x => match x with
    | .ins c _ _ => (findM Y.Z.P c f).bind fun k => Y.Z.F k [x]
    | _ => none) := by
  refine ⟨fun X ok H0 G0 G W H τ σ d w s h Q q => ?_⟩
  obtain ⟨x, hx, h⟩ := bnd h
  split at h
  · rename_i c ns vs
    obtain ⟨k, hk, h⟩ := bnd h
    obtain ⟨C, p, f, fd, ps, lv, hlv, h1, h2, h3, hbi, hF⟩ := (ok.prp c f k hk).ex
    refine ⟨_, pe_prop pe_tu h2 h3 hF (ok.room.mono hlv) hbi .nil pass0 (base_no hb), ?_⟩
    refine ha.run X ok _ _ _ _ _ _ _ _ w s hx _ fun v G1 H1 e1 w1 dv => ?_
    have dv' := dv
    simp only [Den] at dv'
    obtain ⟨p, C', dx, nvs, rfl, hp, hC, hns, dvs⟩ := dv'
    rw [h1] at hC
    cases hC
    refine ⟨p, dx, nvs, rfl, w1.gh _ _ hp, ?_⟩
    exact ⟨_, d, G1, w1.gh, by simp only [DenL]; exact ⟨_, [], rfl, dv, rfl⟩, h, fun v G' H' a b c e dv => q v G' H' (e1.trans b) (w1.call a b c e) dv⟩
  · cases h
/-- sep.join(texts) -/
theorem joinOk_of {s : List Nat} {ps : List (List Nat)} (h : joinOk s ps = true) : ((ps.map mkS).map (·.length)).sum + (ps.map mkS).length * (mkS s).length ≤ 16777216 := by
  have := of_decide_eq_true h
  have e : (ps.map mkS).map (·.length) = ps.map (·.length) := by
    rw [List.map_map]
    apply List.map_congr_left
    intro x _
    exact mkS_len x
  rw [e, mkS_len, List.length_map]
  exact this
theorem se_join (hb : plainBase a = true) (hline : (apos.endLine == pos.line) = true) (hn : notStar b = true) (ha : SE Y sc fc a fa) (hb' : SE Y sc fc b fb) :
    SE Y sc fc (.Call (.Attribute a "join" apos) [b] [] pos) (fun τ => (fa τ).bind fun x => (fb τ).bind fun y => joinD x y) := by
  refine ⟨fun X ok H0 G0 G W H τ σ d w s h Q q => ?_⟩
  obtain ⟨x, hx, h⟩ := bnd h
  obtain ⟨y, hy, h⟩ := bnd h
  refine ⟨_, pe_join pe_tu pe_tu (star_cons hn) (base_no hb) hline, ?_⟩
  refine ha.run X ok _ _ _ _ _ _ _ _ w s hx _ fun v G1 H1 e1 w1 dv => ?_
  unfold joinD at h
  split at h
  · rename_i z ds _
    simp only [Den] at dv
    subst dv
    refine ⟨⟨_, rfl⟩, ?_⟩
    refine hb'.run X ok _ _ _ _ _ _ _ _ w1 (s.mono e1) hy _ fun u G2 H2 e2 w2 du => ?_
    simp only [Den] at du
    obtain ⟨p, us, rfl, hp, hu⟩ := du
    obtain ⟨ps, hps, h⟩ := bnd h
    split at h
    · rename_i hj
      cases h
      rw [strsD_den hps hu] at hp
      refine ⟨mkS z, p, ps.map mkS, rfl, rfl, .inl (SqL.of (w2.gh _ _ hp)), joinOk_of hj, ?_⟩
      refine q _ _ _ (e1.trans e2) w2 ?_
      have := SX.join_S z ps
      simp only [Den]
      congr 1
      rw [← joinN_eq]
      exact this
    · cases h
  · rename_i z ds _
    simp only [Den] at dv
    subst dv
    refine ⟨⟨_, rfl⟩, ?_⟩
    refine hb'.run X ok _ _ _ _ _ _ _ _ w1 (s.mono e1) hy _ fun u G2 H2 e2 w2 du => ?_
    simp only [Den] at du
    obtain ⟨p, us, rfl, hp, hu⟩ := du
    obtain ⟨ps, hps, h⟩ := bnd h
    split at h
    · rename_i hj
      cases h
      rw [strsD_den hps hu] at hp
      refine ⟨mkS z, p, ps.map mkS, rfl, rfl, .inr (sub_t w2.gh hp), joinOk_of hj, ?_⟩
      refine q _ _ _ (e1.trans e2) w2 ?_
      have := SX.join_S z ps
      simp only [Den]
      congr 1
      rw [← joinN_eq]
      exact this
    · cases h
  · cases h
/-- d.get(k) -/
theorem se_dget (hb : plainBase a = true) (hline : (apos.endLine == pos.line) = true) (hn : notStar b = true) (ha : SE Y sc fc a fa) (hb' : SE Y sc fc b fb) :
    SE Y sc fc (.Call (.Attribute a "get" apos) [b] [] pos) (fun τ => (fa τ).bind fun x => (fb τ).bind fun y => getD' x y) := by
  refine ⟨fun X ok H0 G0 G W H τ σ d w s h Q q => ?_⟩
  obtain ⟨x, hx, h⟩ := bnd h
  obtain ⟨y, hy, h⟩ := bnd h
  have hu : X.A.units + 1 < cLine := by have := ok.room.units; omega
  cases x <;> simp only [getD'] at h <;> try cases h
  obtain ⟨q', hq, rfl⟩ := mpd h
  have hst : starEach [b] X.env = [(false, eval b X.env)] := star_cons hn
  refine ⟨_, pe_dget1 hu pe_tu pe_tu ⟨base_no hb, form_ok (es := [b]) (by simp [hn]) (by simp), hline, by rw [hst]; rfl⟩, ?_⟩
  refine ha.run X ok _ _ _ _ _ _ _ _ w s hx _ fun v G1 H1 e1 w1 dv => ?_
  have dv' := dv
  simp only [Den] at dv'
  obtain ⟨p, kvs, rfl, hp, _⟩ := dv'
  refine ⟨p, rfl, .inl ⟨kvs, .inl (w1.gh _ _ hp)⟩, ?_⟩
  refine hb'.run X ok _ _ _ _ _ _ _ _ w1 (s.mono e1) hy _ fun u G2 H2 e2 w2 du => ?_
  obtain ⟨p', ob, eu, _, g, hh⟩ := dget_den du hq (dv.mono e2) w2.gh
  cases eu
  refine ⟨ob, g, ?_⟩
  rcases hh with ⟨d', z, a1, a2, a3⟩ | ⟨a1, a2⟩
  · rw [a1] at q
    subst a2
    exact q _ _ _ (e1.trans e2) w2 a3
  · rw [a1] at q
    subst a2
    exact q _ _ _ (e1.trans e2) w2 (by simp only [Option.getD_none, Den])
theorem getOd_some {τ : List Sl} {i : Nat} {kv : List D × List D} (h : getOd τ i = some kv) : τ[i]? = some (.o (.dct kv.1 kv.2)) := by
  unfold getOd at h
  split at h
  · rename_i e; cases h; exact e
  · cases h
theorem getOi_some {τ : List Sl} {i : Nat} {o : Str × List Str × List D} (h : getOi τ i = some o) : τ[i]? = some (.o (.ins o.1 o.2.1 o.2.2)) := by
  unfold getOi at h
  split at h
  · rename_i e; cases h; exact e
  · cases h
/-- e in x, x the slot's own dict -/
theorem own_dict {K : PySem.W.Frag} {G W H H0 G0 : Hp} {τ : List Sl} {σ : St} {i : Nat} {kv : List D × List D} (w : Wd H0 G0 G W H) (s : SlOk K G W τ σ) (h : getOd τ i = some kv) :
    ∃ p kvs, σ[i]? = some (some (.ref p)) ∧ W p = some (.dK kvs) ∧ H p = some (.dK kvs) ∧ kv.1.map D.key = kvs.map (fun p => some p.1) ∧ DenL K G kv.2 (kvs.map (fun p => p.2)) := by
  obtain ⟨p, ob, h1, h2, h3⟩ := s.own i _ (getOd_some h)
  simp only [DenO] at h3
  obtain ⟨kvs, rfl, h4, h5⟩ := h3
  exact ⟨p, kvs, h1, h2, (w.wh _ _ h2).1, h4, h5⟩
theorem se_ino {i : Nat} {x : Str} (hN : Y.N[i]? = some x) (hv : Vis sc x) (hd : (x == ("__debug__" : Str)) = false) (hcd : (x == ("__classdict__" : Str)) = false) (ha : SE Y sc fc a fa) :
    SE Y sc fc (.Compare a [.In] [.Name x p] pos) (fun τ => (fa τ).bind fun x => (D.key x).bind fun q => (getOd τ i).map fun kv => .bl ((dlook kv.1 kv.2 q).isSome != false)) := by
  refine ⟨fun X ok H0 G0 G W H τ σ d w s h Q q => ?_⟩
  obtain ⟨y, hx, h⟩ := bnd h
  obtain ⟨q', hq, h⟩ := bnd h
  obtain ⟨kv, hkv, rfl⟩ := mpd h
  have hu : X.A.units + 1 < cLine := by have := ok.room.units; omega
  refine ⟨_, pe_cmp (pc_din hu pe_tu (pe_var (by rw [ok.eN]; exact hN) (ok.vis hv) hd hcd)) rfl, ?_⟩
  refine ha.run X ok _ _ _ _ _ _ _ _ w s hx _ fun v G1 H1 e1 w1 dv => ?_
  obtain ⟨p, kvs, h1, h2, h3, h4, h5⟩ := own_dict w1 (s.mono e1) hkv
  refine ⟨_, h1, p, valV kvs q', rfl, by rw [key_den0 hq dv]; exact DGet.k h3, ?_⟩
  rw [← isSome_of (dlook_den q' h4 h5)]
  refine q _ _ _ e1 w1 ?_
  simp only [Den]
  cases (dlook kv.1 kv.2 q').isSome <;> rfl
theorem se_nino {i : Nat} {x : Str} (hN : Y.N[i]? = some x) (hv : Vis sc x) (hd : (x == ("__debug__" : Str)) = false) (hcd : (x == ("__classdict__" : Str)) = false) (ha : SE Y sc fc a fa) :
    SE Y sc fc (.Compare a [.NotIn] [.Name x p] pos) (fun τ => (fa τ).bind fun x => (D.key x).bind fun q => (getOd τ i).map fun kv => .bl ((dlook kv.1 kv.2 q).isSome != true)) := by
  refine ⟨fun X ok H0 G0 G W H τ σ d w s h Q q => ?_⟩
  obtain ⟨y, hx, h⟩ := bnd h
  obtain ⟨q', hq, h⟩ := bnd h
  obtain ⟨kv, hkv, rfl⟩ := mpd h
  have hu : X.A.units + 1 < cLine := by have := ok.room.units; omega
  refine ⟨_, pe_cmp (pc_dnotin hu pe_tu (pe_var (by rw [ok.eN]; exact hN) (ok.vis hv) hd hcd)) rfl, ?_⟩
  refine ha.run X ok _ _ _ _ _ _ _ _ w s hx _ fun v G1 H1 e1 w1 dv => ?_
  obtain ⟨p, kvs, h1, h2, h3, h4, h5⟩ := own_dict w1 (s.mono e1) hkv
  refine ⟨_, h1, p, valV kvs q', rfl, by rw [key_den0 hq dv]; exact DGet.k h3, ?_⟩
  rw [← isSome_of (dlook_den q' h4 h5)]
  refine q _ _ _ e1 w1 ?_
  simp only [Den]
  cases (dlook kv.1 kv.2 q').isSome <;> rfl
theorem st_ino {i : Nat} {x : Str} (hN : Y.N[i]? = some x) (hv : Vis sc x) (hd : (x == ("__debug__" : Str)) = false) (hcd : (x == ("__classdict__" : Str)) = false) (ha : SE Y sc fc a fa) :
    ST Y sc fc (.Compare a [.In] [.Name x p] pos) (fun τ => ((fa τ).bind fun x => (D.key x).bind fun q => (getOd τ i).map fun kv => D.bl ((dlook kv.1 kv.2 q).isSome != false)).bind truth) := by
  refine ⟨fun X ok H0 G0 G W H τ σ d w s h Q q => ?_⟩
  obtain ⟨dd, h, ht⟩ := bnd h
  obtain ⟨y, hx, h⟩ := bnd h
  obtain ⟨q', hq, h⟩ := bnd h
  obtain ⟨kv, hkv, rfl⟩ := mpd h
  cases ht
  have hu : X.A.units + 1 < cLine := by have := ok.room.units; omega
  refine ⟨_, pt_cmp (pc_din hu pe_tu (pe_var (by rw [ok.eN]; exact hN) (ok.vis hv) hd hcd)) rfl, ?_⟩
  refine ha.run X ok _ _ _ _ _ _ _ _ w s hx _ fun v G1 H1 e1 w1 dv => ?_
  obtain ⟨p, kvs, h1, h2, h3, h4, h5⟩ := own_dict w1 (s.mono e1) hkv
  refine ⟨_, h1, p, valV kvs q', rfl, by rw [key_den0 hq dv]; exact DGet.k h3, ?_⟩
  rw [← isSome_of (dlook_den q' h4 h5)]
  refine ⟨_, rfl, ?_⟩
  have := q _ _ e1 w1
  cases hz : (dlook kv.1 kv.2 q').isSome <;> rw [hz] at this <;> exact this
theorem st_nino {i : Nat} {x : Str} (hN : Y.N[i]? = some x) (hv : Vis sc x) (hd : (x == ("__debug__" : Str)) = false) (hcd : (x == ("__classdict__" : Str)) = false) (ha : SE Y sc fc a fa) :
    ST Y sc fc (.Compare a [.NotIn] [.Name x p] pos) (fun τ => ((fa τ).bind fun x => (D.key x).bind fun q => (getOd τ i).map fun kv => D.bl ((dlook kv.1 kv.2 q).isSome != true)).bind truth) := by
  refine ⟨fun X ok H0 G0 G W H τ σ d w s h Q q => ?_⟩
  obtain ⟨dd, h, ht⟩ := bnd h
  obtain ⟨y, hx, h⟩ := bnd h
  obtain ⟨q', hq, h⟩ := bnd h
  obtain ⟨kv, hkv, rfl⟩ := mpd h
  cases ht
  have hu : X.A.units + 1 < cLine := by have := ok.room.units; omega
  refine ⟨_, pt_cmp (pc_dnotin hu pe_tu (pe_var (by rw [ok.eN]; exact hN) (ok.vis hv) hd hcd)) rfl, ?_⟩
  refine ha.run X ok _ _ _ _ _ _ _ _ w s hx _ fun v G1 H1 e1 w1 dv => ?_
  obtain ⟨p, kvs, h1, h2, h3, h4, h5⟩ := own_dict w1 (s.mono e1) hkv
  refine ⟨_, h1, p, valV kvs q', rfl, by rw [key_den0 hq dv]; exact DGet.k h3, ?_⟩
  rw [← isSome_of (dlook_den q' h4 h5)]
  refine ⟨_, rfl, ?_⟩
  have := q _ _ e1 w1
  cases hz : (dlook kv.1 kv.2 q').isSome <;> rw [hz] at this <;> exact this

/-! ### statements -/
theorem ss_never {st : Stmt} : SS Y sc fc st (fun _ => none) := ⟨fun X ok H0 G0 G W H τ σ o w s h Dn q => by cases h⟩
/-- x = {}, the dict the slot's own -/
theorem ss_newd {i : Nat} {x : Str} (hN : Y.N[i]? = some x) (hx : Loc sc x) (hf : (fc x || decide (sc.names.lookup x = some .local)) = true) :
    SS Y sc fc (.Assign [.Name x p] (.Dict [] [] p1) pos) (fun τ => some (.nx (τ.set i (.o (.dct [] []))))) := by
  refine ⟨fun X ok H0 G0 G W H τ σ o w s h Dn q => ?_⟩
  cases h
  refine ⟨_, ps_set ok.nd (by rw [ok.eN]; exact hN) (ok.loc hx) pe_dnewK (swaps_no rfl) (ok.hf hf), ?_⟩
  intro z hz
  exact q _ _ _ _ (Sub.refl _) (w.newO hz) (s.putO (w.wnone hz) (by simp only [DenO]; exact ⟨[], rfl, rfl, by simp [DenL]⟩))
/-- x[k] = e, x the slot's own dict -/
theorem ss_put {i : Nat} {x : Str} (hN : Y.N[i]? = some x) (hv : Vis sc x) (hd : (x == ("__debug__" : Str)) = false) (hcd : (x == ("__classdict__" : Str)) = false) (hc : notComp a = true) (ha : SE Y sc fc a fa) (hb : SE Y sc fc b fb) :
    SS Y sc fc (.Assign [.Subscript (.Name x p) b p1] a pos) (fun τ => (fa τ).bind fun d => (fb τ).bind fun x => (D.key x).bind fun q => (getOd τ i).bind fun kv => if kv.1.length < line then some (.nx (τ.set i (.o (.dct (dputK kv.1 q x) (dputV kv.1 kv.2 q d))))) else none) := by
  refine ⟨fun X ok H0 G0 G W H τ σ o w s h Dn q => ?_⟩
  obtain ⟨d, hd', h⟩ := bnd h
  obtain ⟨y, hy, h⟩ := bnd h
  obtain ⟨q', hq, h⟩ := bnd h
  obtain ⟨kv, hkv, h⟩ := bnd h
  split at h
  · rename_i hl
    cases h
    have hu : X.A.units + 1 < cLine := by have := ok.room.units; omega
    refine ⟨_, ps_dput hu (pe_var (by rw [ok.eN]; exact hN) (ok.vis hv) hd hcd) pe_tu pe_tu (swaps_no hc), ?_⟩
    refine ha.run X ok _ _ _ _ _ _ _ _ w s hd' _ fun v G1 H1 e1 w1 dv => ?_
    obtain ⟨p, kvs, h1, _, _, _, _⟩ := own_dict w1 (s.mono e1) hkv
    refine ⟨_, h1, ?_⟩
    refine hb.run X ok _ _ _ _ _ _ _ _ w1 (s.mono e1) hy _ fun u G2 H2 e2 w2 du => ?_
    obtain ⟨p', kvs', h1', h2, h3, h4, h5⟩ := own_dict w2 ((s.mono e1).mono e2) hkv
    rw [h1] at h1'
    cases h1'
    have hlen : kvs'.length < sizeLine := by
      have := congrArg List.length h4
      simp only [List.length_map] at this
      rw [← this]
      exact lt_line hl
    refine ⟨p, _, rfl, by rw [key_den0 hq du]; exact DPut.k h3 hlen, ?_⟩
    refine q _ _ _ _ (e1.trans e2) (w2.set h2) (((s.mono e1).mono e2).chg (getOd_some hkv) h1 ?_)
    simp only [DenO]
    obtain ⟨r1, r2⟩ := dput_den h4 h5 hq (dv.mono e2)
    exact ⟨_, rfl, r1, r2⟩
  · cases h
/-- o.f = e, o the slot's own instance -/
theorem ss_setf {i : Nat} {x f : Str} (hN : Y.N[i]? = some x) (hv : Vis sc x) (hd : (x == ("__debug__" : Str)) = false) (hcd : (x == ("__classdict__" : Str)) = false) (hc : notComp a = true) (ha : SE Y sc fc a fa) :
    SS Y sc fc (.Assign [.Attribute (.Name x p) f p1] a pos) (fun τ => (fa τ).bind fun d => (getOi τ i).bind fun o => if (o.1, f) ∈ Y.Z.L ∧ o.2.1.length < 1000 then some (.nx (τ.set i (.o (.ins o.1 (putN o.2.1 o.2.2 f) (putV o.2.1 o.2.2 f d))))) else none) := by
  refine ⟨fun X ok H0 G0 G W H τ σ o w s h Dn q => ?_⟩
  obtain ⟨d, hd', h⟩ := bnd h
  obtain ⟨oi, hoi, h⟩ := bnd h
  split at h
  · rename_i hl
    cases h
    obtain ⟨C, c1, c2, c3⟩ := (ok.fld _ _ hl.1).ex
    refine ⟨_, ps_fld (pe_var (by rw [ok.eN]; exact hN) (ok.vis hv) hd hcd) pe_tu (swaps_no hc), ?_⟩
    refine ha.run X ok _ _ _ _ _ _ _ _ w s hd' _ fun v G1 H1 e1 w1 dv => ?_
    obtain ⟨p, ob, h1, h2, h3⟩ := (s.mono e1).own i _ (getOi_some hoi)
    simp only [DenO] at h3
    obtain ⟨C', dx, nvs, rfl, hC, hns, dvs⟩ := h3
    rw [c1] at hC
    cases hC
    refine ⟨_, h1, p, _, dx, nvs, rfl, (w1.wh _ _ h2).1, c2, c3, ?_, ?_⟩
    · have := congrArg List.length hns
      simp only [List.length_map] at this
      omega
    · obtain ⟨r1, r2⟩ := putN_den (f := f) hns dvs dv
      exact q _ _ _ _ e1 (w1.set h2 (fun _ _ _ _ => ⟨_, _, _, rfl⟩)) ((s.mono e1).chg (getOi_some hoi) h1 (by simp only [DenO]; exact ⟨_, dx, _, rfl, c1, r1, r2⟩))
  · cases h
theorem DenL.set {K : PySem.W.Frag} {G : Hp} : ∀ {ds : List D} {vs : List V} (n : Nat) {d : D} {v : V}, DenL K G ds vs → Den K G d v → DenL K G (ds.set n d) (vs.set n v)
  | [], _, n, d, v, h, _ => by simp only [DenL] at h; subst h; simp [DenL]
  | x :: ds, _, 0, d, v, h, h' => by
    simp only [DenL] at h
    obtain ⟨u, r, rfl, h1, h2⟩ := h
    simp only [List.set_cons_zero, DenL]
    exact ⟨v, r, rfl, h', h2⟩
  | x :: ds, _, n + 1, d, v, h, h' => by
    simp only [DenL] at h
    obtain ⟨u, r, rfl, h1, h2⟩ := h
    simp only [List.set_cons_succ, DenL]
    exact ⟨u, _, rfl, h1, DenL.set n h2 h'⟩
theorem assign_sub {o i : Expr} {q : Pos} {env : Env} (h : notSlice i = true) : ∀ v, assign (.Subscript o i q) env v = (do
      let ov ← holding [v] (eval o env)
      let iv ← holding [v, ov] (eval i env)
      standAt q
      holding [v, ov, iv] (setItem ov iv v)
      release [v, ov, iv] []) := by
  intro v
  cases i <;> first | rfl | simp [notSlice] at h
/-- x[k] = e, x the slot's own list -/
theorem ss_seti {i : Nat} {x : Str} (hN : Y.N[i]? = some x) (hv : Vis sc x) (hd : (x == ("__debug__" : Str)) = false) (hcd : (x == ("__classdict__" : Str)) = false) (hc : notComp a = true) (hnt : notTup a = true) (hs : notSlice b = true) (ha : SE Y sc fc a fa) (hb : SE Y sc fc b fb) :
    SS Y sc fc (.Assign [.Subscript (.Name x p) b p1] a pos) (fun τ => (fa τ).bind fun d => ((fb τ).bind intD).bind fun j => (getO τ i).bind fun xs => (ixN xs.length j).map fun n => .nx (τ.set i (.o (.lst (xs.set n d))))) := by
  refine ⟨fun X ok H0 G0 G W H τ σ o w s h Dn q => ?_⟩
  obtain ⟨d, hd', h⟩ := bnd h
  obtain ⟨j, hj, h⟩ := bnd h
  obtain ⟨y, hy, hj⟩ := bnd hj
  obtain ⟨xs, hxs, h⟩ := bnd h
  obtain ⟨n, hn, rfl⟩ := mpd h
  cases y <;> simp [intD] at hj
  subst hj
  refine ⟨_, ps_asg pe_tu (pg_sub (pe_var (by rw [ok.eN]; exact hN) (ok.vis hv) hd hcd) pe_tu set_list (assign_sub hs)) (swaps_sole hc) (stores_no hnt) rfl, ?_⟩
  refine ha.run X ok _ _ _ _ _ _ _ _ w s hd' _ fun v G1 H1 e1 w1 dv => ?_
  obtain ⟨p, ob, h1, h2, h3⟩ := (s.mono e1).own i _ (getO_some hxs)
  refine ⟨_, h1, ?_⟩
  refine hb.run X ok _ _ _ _ _ _ _ _ w1 (s.mono e1) hy _ fun u G2 H2 e2 w2 du => ?_
  simp only [Den] at du
  obtain ⟨p', ob', h1', h2', h3'⟩ := ((s.mono e1).mono e2).own i _ (getO_some hxs)
  rw [h1] at h1'
  cases h1'
  simp only [DenO] at h3'
  obtain ⟨us, rfl, h4⟩ := h3'
  refine ⟨p, us, _, n, rfl, du, (w2.wh _ _ h2').1, by rw [← h4.length]; exact hn, ?_⟩
  exact q _ _ _ _ (e1.trans e2) (w2.set h2') (((s.mono e1).mono e2).chg (getO_some hxs) h1 (by simp only [DenO]; exact ⟨_, rfl, h4.set n (dv.mono e2)⟩))
end
end Pv

set_option Elab.async false
set_option linter.all false
set_option maxRecDepth 100000
set_option maxHeartbeats 4000000

namespace Pv
open PySem PySem.Spec L2

/-! ### the same tree -/
mutual
theorem beq_eq : ∀ (a b : D), D.beq a b = true → a = b
  | .non, b, h => by cases b <;> simp [D.beq] at h <;> rfl
  | .bl a, b, h => by cases b <;> simp [D.beq] at h; rw [h]
  | .int a, b, h => by cases b <;> simp [D.beq] at h; rw [h]
  | .str a, b, h => by cases b <;> simp [D.beq] at h; rw [h]
  | .lst a, b, h => by cases b <;> simp [D.beq] at h; rw [beqL_eq _ _ h]
  | .tup a, b, h => by cases b <;> simp [D.beq] at h; rw [beqL_eq _ _ h]
  | .dct a c, b, h => by cases b <;> simp [D.beq] at h; rw [beqL_eq _ _ h.1, beqL_eq _ _ h.2]
  | .ins _ _ _, b, h => by simp [D.beq] at h
  | .scr _, b, h => by simp [D.beq] at h
theorem beqL_eq : ∀ (a b : List D), D.beqL a b = true → a = b
  | [], b, h => by cases b <;> simp [D.beqL] at h; rfl
  | a :: r, b, h => by
    cases b with
    | nil => simp [D.beqL] at h
    | cons b s =>
      simp [D.beqL] at h
      rw [beq_eq _ _ h.1, beqL_eq _ _ h.2]
end
section
variable {X : Cx} {pins : List (Addr × Obj)} {σ : L2.St} {H G : Hp} {s : Shared}
theorem valsAt {P : Value → Value → Prop} : ∀ {us ws : List Value} (j : Nat) (h1 : j < us.toArray.size) (h2 : j < ws.toArray.size), (∀ (h1 : j < us.length) (h2 : j < ws.length), P us[j] ws[j]) → P us.toArray[j] ws.toArray[j] := fun j h1 h2 h => by
  simpa using h (by simpa using h1) (by simpa using h2)
theorem key_in : ∀ {q : List (Key × V)} {va : List (Key × Value)} {k : Key} {v : Value}, KV q va → (k, v) ∈ va → ∃ (i : Nat) (z : V), q[i]? = some (k, z) ∧ RelV z v
  | _, _, _, _, .nil, h => by cases h
  | _, _, k, v, .cons (a := p) (b := b) h t, hm => by
    rcases List.mem_cons.mp hm with e | hm
    · subst e
      obtain ⟨h1, h2⟩ := h
      exact ⟨0, p.2, by rw [List.getElem?_cons_zero]; congr 1; exact Prod.ext h1 rfl, h2⟩
    · obtain ⟨i, z, a, c⟩ := key_in t hm
      exact ⟨i + 1, z, by rw [List.getElem?_cons_succ]; exact a, c⟩
theorem len_all {n : Nat} : ((List.range n).all fun _ => true) = true := List.all_eq_true.mpr fun _ _ => rfl
theorem keysV : ∀ {q : List (Key × V)} {va : List (Key × Value)}, KV q va → va.map (fun p => p.1) = q.map (fun p => p.1)
  | _, _, .nil => rfl
  | _, _, .cons h t => by rw [List.map_cons, List.map_cons, keysV t, h.1]
theorem valsV : ∀ {q : List (Key × V)} {va : List (Key × Value)}, KV q va → Vals (q.map fun p => p.2) (va.map fun p => p.2)
  | _, _, .nil => .nil
  | _, _, .cons h t => .cons h.2 (valsV t)
theorem distinct_ix : ∀ {ks : List (Option Key)}, distinctK ks = true → ∀ {i j : Nat} {k : Option Key}, ks[i]? = some k → ks[j]? = some k → i = j
  | [], _, i, _, _, h, _ => by simp at h
  | none :: r, h, _, _, _, _, _ => by simp [distinctK] at h
  | some k0 :: r, h, i, j, k, hi, hj => by
    simp only [distinctK, Bool.and_eq_true, List.all_eq_true, decide_eq_true_eq] at h
    cases i with
    | zero =>
      cases j with
      | zero => rfl
      | succ j =>
        simp at hi hj
        exact absurd hi.symm (h.1 k (List.mem_of_getElem? hj))
    | succ i =>
      cases j with
      | zero =>
        simp at hi hj
        exact absurd hj.symm (h.1 k (List.mem_of_getElem? hi))
      | succ j =>
        have hi' : r[i]? = some k := by simpa using hi
        have hj' : r[j]? = some k := by simpa using hj
        rw [distinct_ix h.2 hi' hj']
theorem key_at {ks : List D} {vs : List (Key × V)} {va : List (Key × Value)} (h : ks.map D.key = vs.map (fun p => some p.1)) (r : KV vs va) {k : Key} {x : Value} (hm : (k, x) ∈ va) : ∃ i : Nat, (ks.map D.key)[i]? = some (some k) ∧ (va.map fun p => p.2)[i]? = some x := by
  obtain ⟨i, hi⟩ := List.getElem?_of_mem hm
  refine ⟨i, ?_, by rw [List.getElem?_map, hi]; rfl⟩
  have e : vs.map (fun p => some p.1) = (va.map fun p => p.1).map some := by rw [keysV r, List.map_map]; rfl
  rw [h, e, List.getElem?_map, List.getElem?_map, hi]
  rfl
mutual
theorem tree_same (I : Inv X pins σ H s) (e : Sub G H) : ∀ (d : D) (n : Nat), D.deep d n = true → ∀ {v u : V} {v' u' : Value}, Den X.K G d v → Den X.K G d u → RelV v v' → RelV u u' → PySem.W.EqTree X.prog X.w s n v' u' true
  | .non, n, _, v, u, v', u', hv, hu, rv, ru => by
    simp only [Den] at hv hu; subst hv hu
    exact .leaf fun _ _ => eqAt_same rv ru rfl
  | .bl b, n, _, v, u, v', u', hv, hu, rv, ru => by
    simp only [Den] at hv hu; subst hv hu
    exact .leaf fun _ _ => eqAt_same rv ru rfl
  | .int b, n, _, v, u, v', u', hv, hu, rv, ru => by
    simp only [Den] at hv hu; subst hv hu
    exact .leaf fun _ _ => eqAt_same rv ru rfl
  | .str b, n, _, v, u, v', u', hv, hu, rv, ru => by
    simp only [Den] at hv hu; subst hv hu
    exact .leaf fun _ _ => eqAt_same rv ru rfl
  | .lst ds, n, h, v, u, v', u', hv, hu, rv, ru => by
    cases n with
    | zero => simp [D.deep] at h
    | succ n =>
      simp only [D.deep] at h
      simp only [Den] at hv hu
      obtain ⟨a, vs, rfl, ha, hvs⟩ := hv
      obtain ⟨b, us, rfl, hb, hus⟩ := hu
      cases (show v' = Value.ref a from rv)
      cases (show u' = Value.ref b from ru)
      by_cases ab : a = b
      · subst ab; exact .same
      · obtain ⟨va, r1, p1, _⟩ := I.list (SqL.of (e _ _ ha))
        obtain ⟨ub, r2, p2, _⟩ := I.list (SqL.of (e _ _ hb))
        have l : va.length = ub.length := by rw [← r1.length, ← r2.length, ← hvs.length, ← hus.length]
        have := PySem.W.EqTree.lists (prog := X.prog) (w := X.w) (n := n) (e := fun _ => true) ab p1.isList p2.isList (by simpa using l) (fun j h1 h2 => valsAt (P := fun x y => PySem.W.EqTree X.prog X.w s n x y true) j h1 h2 (treeL_same I e ds n h hvs hus r1 r2 j))
        rw [len_all] at this
        exact this
  | .tup ds, n, h, v, u, v', u', hv, hu, rv, ru => by
    cases n with
    | zero => simp [D.deep] at h
    | succ n =>
      simp only [D.deep] at h
      simp only [Den] at hv hu
      obtain ⟨a, vs, rfl, ha, hvs⟩ := hv
      obtain ⟨b, us, rfl, hb, hus⟩ := hu
      cases (show v' = Value.ref a from rv)
      cases (show u' = Value.ref b from ru)
      by_cases ab : a = b
      · subst ab; exact .same
      · obtain ⟨va, r1, p1, _⟩ := I.tuple (sub_t e ha)
        obtain ⟨ub, r2, p2, _⟩ := I.tuple (sub_t e hb)
        have l : va.length = ub.length := by rw [← r1.length, ← r2.length, ← hvs.length, ← hus.length]
        have := PySem.W.EqTree.tuples (prog := X.prog) (w := X.w) (n := n) (e := fun _ => true) ab p1 p2 (fun j h1 h2 => valsAt (P := fun x y => PySem.W.EqTree X.prog X.w s n x y true) j h1 h2 (treeL_same I e ds n h hvs hus r1 r2 j))
        rw [len_all] at this
        have l' : (va.toArray.size == ub.toArray.size) = true := by simpa using l
        rw [l'] at this
        exact this
  | .dct ks ds, n, h, v, u, v', u', hv, hu, rv, ru => by
    cases n with
    | zero => simp [D.deep] at h
    | succ n =>
      simp only [D.deep, Bool.and_eq_true] at h
      simp only [Den] at hv hu
      obtain ⟨a, vs, rfl, ha, hk1, hvs⟩ := hv
      obtain ⟨b, us, rfl, hb, hk2, hus⟩ := hu
      cases (show v' = Value.ref a from rv)
      cases (show u' = Value.ref b from ru)
      by_cases ab : a = b
      · subst ab; exact .same
      · obtain ⟨_, ya, va, ra, da⟩ := (show ObjOk X.prog X.w H s.heap a (.dK vs) from I.hok a _ (e _ _ ha))
        obtain ⟨_, yb, vb, rb, db⟩ := (show ObjOk X.prog X.w H s.heap b (.dK us) from I.hok b _ (e _ _ hb))
        have := PySem.W.EqTree.dicts (prog := X.prog) (w := X.w) (knd := mixKind X.prog X.w) (n := n) (e := fun _ => true) ab ya yb da db (fun k x y hm hy => by
          obtain ⟨i, i1, i2⟩ := key_at hk1 ra hm
          obtain ⟨j, j1, j2⟩ := key_at hk2 rb (valueAt_mem hy)
          have ij := distinct_ix h.1 i1 j1
          subst ij
          have b1 := (List.getElem?_eq_some_iff.mp i2).1
          have b2 := (List.getElem?_eq_some_iff.mp j2).1
          have t := treeL_same I e ds n h.2 hvs hus (valsV ra) (valsV rb) i b1 b2
          rw [(List.getElem?_eq_some_iff.mp i2).2, (List.getElem?_eq_some_iff.mp j2).2] at t
          exact t)
        have q : (va.length == vb.length && va.all fun p => (valueAt vb p.1).isSome && true) = true := by
          have kk : va.map (fun p => p.1) = vb.map (fun p => p.1) := by
            have : (vs.map (fun p => p.1)).map some = (us.map (fun p => p.1)).map some := by rw [List.map_map, List.map_map]; exact hk1.symm.trans hk2
            have inj : vs.map (fun p => p.1) = us.map (fun p => p.1) := (by
              have e : ∀ l : List Key, (l.map some).filterMap id = l := fun l => by induction l with | nil => rfl | cons a r ih => simpa using ih
              rw [← e (vs.map (fun p => p.1)), this, e])
            rw [keysV ra, keysV rb, inj]
          have hl := congrArg List.length kk
          rw [List.length_map, List.length_map] at hl
          simp only [Bool.and_eq_true, beq_iff_eq, List.all_eq_true, Bool.and_true]
          refine ⟨hl, fun p hp => ?_⟩
          rw [valueAt_isSome]
          have : p.1 ∈ va.map (fun p => p.1) := List.mem_map.mpr ⟨p, hp, rfl⟩
          rw [kk] at this
          exact this
        rw [q] at this
        exact this
  | .ins _ _ _, n, h, _, _, _, _, _, _, _, _ => by simp [D.deep] at h
  | .scr _, n, h, _, _, _, _, _, _, _, _ => by simp [D.deep] at h
theorem treeL_same (I : Inv X pins σ H s) (e : Sub G H) : ∀ (ds : List D) (n : Nat), D.deepL ds n = true → ∀ {vs us : List V} {vs' us' : List Value}, DenL X.K G ds vs → DenL X.K G ds us → Vals vs vs' → Vals us us' → ∀ (j : Nat) (h1 : j < vs'.length) (h2 : j < us'.length), PySem.W.EqTree X.prog X.w s n vs'[j] us'[j] true
  | [], n, _, vs, us, vs', us', hv, hu, rv, ru => by
    simp only [DenL] at hv hu; subst hv hu
    cases rv
    intro j h1; simp at h1
  | d :: ds, n, h, vs, us, vs', us', hv, hu, rv, ru => by
    simp only [D.deepL, Bool.and_eq_true] at h
    simp only [DenL] at hv hu
    obtain ⟨v, r, rfl, hv1, hv2⟩ := hv
    obtain ⟨u, r2, rfl, hu1, hu2⟩ := hu
    cases rv with
    | cons rv1 rv2 =>
      cases ru with
      | cons ru1 ru2 =>
        intro j h1 h2
        cases j with
        | zero => exact tree_same I e d n h.1 hv1 hu1 rv1 ru1
        | succ j => exact treeL_same I e ds n h.2 hv2 hu2 rv2 ru2 j (by simpa using h1) (by simpa using h2)
end
def rSameV (K : PySem.W.Frag) : R2 := fun x y H Q => ∃ (G : Hp) (ds : List D), Sub G H ∧ Den K G (.lst ds) x ∧ Den K G (.lst ds) y ∧ D.deepL ds 40 = true ∧ Q (.bl true) H
theorem op_same (hu : X.A.units + 64 < cLine) : OpR X (compareOp .Eq) (rSameV X.K) := by
  intro pins s σ H x y v u Q I rx ry h
  obtain ⟨G, ds, e, hv, hw, hd, q⟩ := h
  simp only [Den] at hv hw
  obtain ⟨a, vs, rfl, ha, hvs⟩ := hv
  obtain ⟨b, us, rfl, hb, hus⟩ := hw
  cases (show v = Value.ref a from rx)
  cases (show u = Value.ref b from ry)
  obtain ⟨va, r1, p1, _⟩ := I.list (SqL.of (e _ _ ha))
  obtain ⟨ub, r2, p2, _⟩ := I.list (SqL.of (e _ _ hb))
  have l : va.length = ub.length := by rw [← r1.length, ← r2.length, ← hvs.length, ← hus.length]
  refine PySem.SeqAt.rcIn_lists (e := fun _ => true) p1.isList p2.isList (by simpa using l) (by omega) (fun j h1 h2 => PySem.W.EqTree.at (n := 40) (valsAt (P := fun x y => PySem.W.EqTree X.prog X.w s 40 x y true) j h1 h2 (treeL_same I e ds 40 hd hvs hus r1 r2 j)) _ (by show X.A.units + 1 + 40 < cLine; omega)) ?_
  rw [len_all]
  exact ⟨.bl true, H, I, rfl, q⟩
end
section
variable {Y : Stat} {sc : Scope} {fc : Str → Bool} {pos apos : Pos} {a b : Expr} {fa fb : List Sl → Option D}
theorem sameD_some {x y d : D} (h : sameD x y = some d) : ∃ ds, x = .lst ds ∧ y = .lst ds ∧ D.deepL ds 40 = true ∧ d = .bl true := by
  unfold sameD at h
  split at h
  · split at h
    · rename_i hb
      cases h
      rw [Bool.and_eq_true] at hb
      have := beqL_eq _ _ hb.1
      subst this
      exact ⟨_, rfl, rfl, hb.2, rfl⟩
    · cases h
  · cases h
theorem se_same (ha : SE Y sc fc a fa) (hb : SE Y sc fc b fb) (hs : notSet b = true) : SE Y sc fc (.Compare a [.Eq] [b] pos) (fun τ => (fa τ).bind fun x => (fb τ).bind fun y => sameD x y) := by
  refine ⟨fun X ok H0 G0 G W H τ σ d w s h Q q => ?_⟩
  obtain ⟨x, hx, h⟩ := bnd h
  obtain ⟨y, hy, h⟩ := bnd h
  obtain ⟨ds, rfl, rfl, hd, rfl⟩ := sameD_some h
  refine ⟨_, pe_cmpR opR_u pe_tu pe_tu (behind_no hs), ?_⟩
  refine ha.run X ok _ _ _ _ _ _ _ _ w s hx _ fun v G1 H1 e1 w1 dv => ?_
  refine hb.run X ok _ _ _ _ _ _ _ _ w1 (s.mono e1) hy _ fun u G2 H2 e2 w2 du => ?_
  exact ⟨_, op_same ok.room.units, G2, ds, w2.gh, dv.mono e2, du, hd, q _ _ _ (e1.trans e2) w2 (by simp only [Den])⟩
theorem st_same (ha : SE Y sc fc a fa) (hb : SE Y sc fc b fb) (hs : notSet b = true) : ST Y sc fc (.Compare a [.Eq] [b] pos) (fun τ => ((fa τ).bind fun x => (fb τ).bind fun y => sameD x y).bind truth) := by
  refine ⟨fun X ok H0 G0 G W H τ σ d w s h Q q => ?_⟩
  obtain ⟨k, h, ht⟩ := bnd h
  obtain ⟨x, hx, h⟩ := bnd h
  obtain ⟨y, hy, h⟩ := bnd h
  obtain ⟨ds, rfl, rfl, hd, rfl⟩ := sameD_some h
  cases ht
  refine ⟨_, pt_cmpR opR_u pe_tu pe_tu (behind_no hs), ?_⟩
  refine ha.run X ok _ _ _ _ _ _ _ _ w s hx _ fun v G1 H1 e1 w1 dv => ?_
  refine hb.run X ok _ _ _ _ _ _ _ _ w1 (s.mono e1) hy _ fun u G2 H2 e2 w2 du => ?_
  exact ⟨_, op_same ok.room.units, G2, ds, w2.gh, dv.mono e2, du, hd, ⟨_, rfl, q _ _ (e1.trans e2) w2⟩⟩
theorem se_upper (hb : plainBase a = true) (hline : (apos.endLine == pos.line) = true) (ha : SE Y sc fc a fa) : SE Y sc fc (.Call (.Attribute a "upper" apos) [] [] pos) (fun τ => (fa τ).bind fun x => u1D .upper x) := by
  refine ⟨fun X ok H0 G0 G W H τ σ d w s h Q q => ?_⟩
  obtain ⟨x, hx, h⟩ := bnd h
  refine ⟨_, pe_upper pe_tu (base_no hb) hline, ?_⟩
  refine ha.run X ok _ _ _ _ _ _ _ _ w s hx _ fun v G1 H1 e1 w1 dv => ?_
  cases x with
  | str x =>
    simp only [u1D] at h
    split at h
    · rename_i hl
      cases h
      simp only [Den] at dv
      subst dv
      refine ⟨⟨_, rfl⟩, _, rfl, rfl, by rw [mkS_len]; exact hl, q _ _ _ e1 w1 ?_⟩
      simp only [Den]
    · cases h
  | _ => simp [u1D] at h
end
end Pv

set_option Elab.async false
set_option linter.all false
set_option maxRecDepth 100000
set_option maxHeartbeats 4000000

/-! ### x[::-1] of tuples and texts -/
namespace PvR
open PySem PySem.Spec PyProof.Rows L2
section
variable {prog : Program} {w : World} {A : Around} {E : Value → Shared → Prop} {s : Shared}
theorem adjust_rev (n : Nat) : Builtin.Slice.sliceAdjust none none (-1) (n : Int) = ((n : Int) - 1, -1) := by
  unfold Builtin.Slice.sliceAdjust
  simp
theorem places_rev (n : Nat) : Builtin.Slice.slicePlaces ((n : Int) - 1) (-1) (-1) = n := by
  unfold Builtin.Slice.slicePlaces
  by_cases h : n = 0
  · subst h; decide
  · simp
    omega
theorem sliceApplied_rev {sl : Addr} {vs : Value} {n : Nat} {Q : Int × Int × Nat → Shared → Prop} (hs : s.heap.IsSliceOf sl .none .none vs) (ps : IsPart vs (some (-1)))
    (h : Q ((n : Int) - 1, -1, n) s) : wpAny (model prog w) A (Builtin.Slice.sliceApplied (.ref sl) (pure (n : Int))) Q E s := by
  obtain ⟨os, hos, hcs, hds⟩ := id hs
  unfold Builtin.Slice.sliceApplied Builtin.Slice.sliceFields
  refine wpAny_bind (wpAny_bind (wpAny_field hos hds (x := .none) rfl (wpAny_bind (wpAny_field hos hds (x := .none) rfl (wpAny_bind (wpAny_field hos hds (x := vs) rfl (wpAny_pure ?_)))))))
  refine wpAny_bind (HT.slicePart_ ps ?_)
  show wpAny _ _ (if ((-1 : Int) == 0) = true then _ else _) _ _ s
  rw [if_neg (by decide)]
  refine wpAny_bind (HT.slicePart_ .none (wpAny_bind (HT.slicePart_ .none (wpAny_bind (wpAny_pure ?_)))))
  show wpAny _ _ (match Builtin.Slice.sliceAdjust none none (-1) (n : Int) with | (lo, hi) => pure (lo, (-1 : Int), Builtin.Slice.slicePlaces lo hi (-1))) _ _ s
  rw [adjust_rev n]
  show wpAny _ _ (pure ((n : Int) - 1, (-1 : Int), Builtin.Slice.slicePlaces ((n : Int) - 1) (-1) (-1))) _ _ s
  rw [places_rev]
  exact wpAny_pure h
theorem fm_congr {α β : Type} {f g : α → Option β} : ∀ l : List α, (∀ a ∈ l, f a = g a) → l.filterMap f = l.filterMap g
  | [], _ => rfl
  | a :: l, h => by
    rw [List.filterMap_cons, List.filterMap_cons, h a List.mem_cons_self, fm_congr l fun b hb => h b (List.mem_cons_of_mem _ hb)]
theorem pick_rev {α : Type} (xs : Array α) : ((List.range xs.size).filterMap fun (m : Nat) => xs[((xs.size : Int) - 1 + (m : Int) * (-1)).toNat]?).toArray = xs.toList.reverse.toArray := by
  have h := PySem.W.krv_range xs.size
  have e : ((List.range xs.size).filterMap fun (m : Nat) => xs[((xs.size : Int) - 1 + (m : Int) * (-1)).toNat]?) = (((List.range xs.size).map fun k => xs.size - 1 - k).filterMap (xs[·]?)) := by
    rw [List.filterMap_map]
    apply fm_congr
    intro m hm
    have := List.mem_range.mp hm
    have : ((xs.size : Int) - 1 + (m : Int) * (-1)).toNat = xs.size - 1 - m := by omega
    rw [this]
    rfl
  rw [e, h, List.filterMap_reverse, PySem.W.krv_all]
/-- t[::-1], t a tuple -/
theorem tuple_back {t sl : Addr} {items : Array Value} {vs : Value} {Q : Value → Shared → Prop} (ht : IsTup s.heap t items) (hs : s.heap.IsSliceOf sl .none .none vs) (ps : IsPart vs (some (-1))) (hl : items.size ≤ sizeLine)
    (h : Q (.ref s.heap.objs.size) { s with heap := s.heap.push { cls := .type "tuple", data := .seq items.toList.reverse.toArray } }) : wpAny (model prog w) A (getItem (.ref t) (.ref sl)) Q E s := by
  have big : sizeOk (.seq items.toList.reverse.toArray) := by
    show items.toList.reverse.toArray.size ≤ sizeLine
    simpa using hl
  have isl : s.TypeIs (.ref sl) "slice" := by
    obtain ⟨o, e, c, _⟩ := id hs
    exact ⟨o, e, c⟩
  have part : ¬ ((((items.size : Int) - 1) == 0 && (-1 : Int) == 1 && items.size == items.size) = true) := by simp
  unfold getItem
  try with_reducible refine wpAny_holding ?_
  first | refine wpAny_bind (wpAny_pure ?_) | skip
  refine wpAny_bind (wpAny_sequenceKey ht.typeIs (by decide) (wpAny_bind (wpAny_callSpecial?_slot (name := Str.ofString "__getitem__") ht.typeIs PyProof.Rows.slot_tuple_getitem
    (wpAny_call_entry PyProof.Rows.slot_tuple_getitem ht.typeIs entry_tuple_getitem ?_ (args_tuple_getitem _ _)))))
  show wpAny _ _ (Builtin.Tuple.tupleItemsOf (.ref t) >>= _) _ _ s
  refine wpAny_bind (tupleItemsOf_ ht (wpAny_bind (wpAny_typeOf isl ?_)))
  rw [if_pos (by decide)]
  refine wpAny_bind (sliceApplied_rev hs ps ?_)
  show wpAny _ _ (if (((items.size : Int) - 1) == 0 && (-1 : Int) == 1 && items.size == items.size) = true then _ else _) _ _ s
  rw [if_neg part, pick_rev]
  exact wpAny_bind (m := Builtin.Tuple.tupleExact _) (wpAny_newObj_type (by first | exact wpAny_pure ⟨_, rfl, wpAny_pure h⟩ | exact wpAny_bind (wpAny_pure (wpAny_pure ⟨_, rfl, wpAny_pure h⟩))) big)
end
section
variable {X : Cx}
/-- x[::-1]: a list, a tuple, a text -/
def tRevA (K : PySem.W.Frag) (te : TE) : TE := fun σ H Q => te σ H fun x H1 => (∃ a xs, x = .ref a ∧ SqL K H1 a xs ∧ ∀ p, H1 p = none → Q (.ref p) (upd H1 p (.lst xs.reverse))) ∨
  (∃ a xs, x = .ref a ∧ SqT K H1 a xs ∧ ∀ p, H1 p = none → Q (.ref p) (upd H1 p (.tup xs.reverse))) ∨ (∃ z : Str, x = .str z ∧ z.length ≤ sizeLine ∧ Q (.str ⟨z.cps.toList.reverse.toArray⟩) H1)
theorem rev_places (n : Nat) : Builtin.Str.strSliceIndices none none (-1) n = (List.range n).reverse := by
  show sliceRange ((n : Int) - 1) (-1) (-1) = _
  rw [PySem.W.krv_sliceRange, PySem.W.krv_range]
theorem pe_revA {e : Expr} {te : TE} {k : Nat} {p1 p2 p3 pos : Pos} (he : PE X e te) : PE X (.Subscript e (.Slice none none (some (.UnaryOp .USub (.Constant (.int 1) k p1) p2)) p3) pos) (tRevA X.K te) := by
  refine ⟨fun pins s σ H Q I h => ?_⟩
  refine Subscript_ (thn (he.run pins s σ H _ I h) fun v s1 ⟨x, H1, I1, r1, q1⟩ => ?_)
  have hst : PO X (some (.UnaryOp .USub (.Constant (.int 1) k p1) p2)) (tPart (tUn (rU fun i => .int (-i)) (tC (.int 1)))) := po_some (pe_un un_neg pe_int)
  refine wpAny_Slice (thn (po_none.run pins s1 σ H1 (fun o H2 => o = none ∧ H2 = H1) I1 ⟨rfl, rfl⟩) fun vl s2 ⟨l, H2, I2, pl, el, e2⟩ => ?_)
  subst el e2
  refine thn (po_none.run pins s2 σ H2 (fun o H3 => o = none ∧ H3 = H2) I2 ⟨rfl, rfl⟩) fun vu s3 ⟨u, H3, I3, pu, eu, e3⟩ => ?_
  subst eu e3
  refine thn (hst.run pins s3 σ H3 (fun o H4 => o = some (-1) ∧ H4 = H3) I3 ⟨1, rfl, -1, rfl, rfl, rfl⟩) fun vs s4 ⟨o, H4, I4, ps, eo, e4⟩ => ?_
  subst eo e4
  have I5 : Inv X pins σ H4 { s4 with heap := s4.heap.push { cls := .type "slice", data := .fields #[vl, vu, vs] } } := I4.kept (t' := s4.toks) fun b ob q => Heap.get?_push_of_some _ q
  show wpAny (model X.prog X.w) X.A (subscriptTail e (.Slice none none (some (.UnaryOp .USub (.Constant (.int 1) k p1) p2)) p3) v (.ref s4.heap.objs.size)) (EP X pins σ Q) X.xe { s4 with heap := s4.heap.push { cls := .type "slice", data := .fields #[vl, vu, vs] } }
  rcases q1 with ⟨a, xs, ex, hx, q⟩ | ⟨a, xs, ex, hx, q⟩ | ⟨z, ex, hz, q⟩
  · subst ex
    cases r1
    obtain ⟨its, r, ht, hz⟩ := I5.list hx
    have hlen := r.length
    refine tail_any (ops := [.ref a, .ref s4.heap.objs.size]) ht.isList.typeIs (PySem.slot_list_getitem.lookup) ?_ (by with_unfolding_all rfl)
    refine wpAny_getItem_list_slice ht.isList (Heap.IsSliceOf.new _ vl vu vs) pl pu ps (by decide) ?_ (by rw [List.size_toArray]; omega)
    rw [PySem.W.krv_pick]
    refine ⟨.ref _, _, I5.laid (t' := s4.toks) (o := .lst xs.reverse) (fun b ob q => Heap.get?_push_of_some _ q) (Nat.le_refl _) ?_, rfl, q _ (I5.hok.fresh (Nat.le_refl _))⟩
    exact ⟨by rw [List.length_reverse]; exact hz, _, 0, r.reverse, Heap.get?_push_size _ rfl⟩
  · subst ex
    cases r1
    cases pl
    cases pu
    obtain ⟨its, r, ht, hz⟩ := I5.tuple hx
    have hlen := r.length
    refine tail_any (ops := [.ref a, .ref s4.heap.objs.size]) ht.typeIs (PyProof.Rows.slot_tuple_getitem.lookup) ?_ (by with_unfolding_all rfl)
    refine tuple_back ht (Heap.IsSliceOf.new _ _ _ vs) ps (by rw [List.size_toArray]; omega) ?_
    refine ⟨.ref _, _, I5.laid (t' := s4.toks) (o := .tup xs.reverse) (fun b ob q => Heap.get?_push_of_some _ q) (Nat.le_refl _) ?_, rfl, q _ (I5.hok.fresh (Nat.le_refl _))⟩
    exact ⟨by rw [List.length_reverse]; exact hz, _, r.reverse, IsTup.new _ _⟩
  · subst ex
    obtain ⟨t, rfl⟩ := r1
    cases pl
    cases pu
    obtain ⟨st, hst1, hst2⟩ := IsPart.raw ps
    obtain ⟨⟨i, tk⟩, rfl, hi⟩ : ∃ p, st = some p ∧ p.1 = -1 := by
      cases st with
      | none => cases hst2
      | some p => exact ⟨p, rfl, Option.some.inj hst2⟩
    simp only at hi
    subst hi hst1
    refine tail_any (ops := [.str z t, .ref s4.heap.objs.size]) (typeIs_str _ _ _) (F.slot_str_getitem.lookup) ?_ (by with_unfolding_all rfl)
    refine wpAny_getItem_str_slice (l := none) (u := none) (st := some (-1, tk)) ⟨_, Heap.get?_push_size _ rfl, rfl, rfl⟩ rfl ?_
    have hl : (⟨((Builtin.Str.strSliceIndices none none (-1) z.length).filterMap (z.cps[·]?)).toArray⟩ : Str) = ⟨z.cps.toList.reverse.toArray⟩ := by
      rw [show z.length = z.cps.size from rfl, rev_places, List.filterMap_reverse, PySem.W.krv_all]
    show Made.post (if ((-1 : Int) == 1 && (Builtin.Str.strSliceIndices none none (-1) z.length).length == z.length) = true then Made.val (.str z t)
      else Made.str ⟨((Builtin.Str.strSliceIndices none none (-1) z.length).filterMap (z.cps[·]?)).toArray⟩) (EP X pins σ Q) _
    rw [if_neg (by simp), hl]
    refine ⟨?_, .str _, _, I5.tok _, ⟨_, rfl⟩, q⟩
    show (z.cps.toList.reverse.toArray).size ≤ sizeLine
    simpa [Str.length] using hz
end
end PvR

set_option Elab.async false
set_option linter.all false
set_option maxRecDepth 100000
/-! a set of the integers of a list -/
namespace PvR
open PySem PySem.Spec PyProof.Rows L2
section
variable {P : Program} {w : World} {A : Around} {E : Value → Shared → Prop} {s : Shared}
/-- a set that holds nothing yet -/
abbrev bareS (w : World) : Obj := { cls := .type "set", dict := none, data := .set #[] 0 (.fresh 0 0 (!w.params.followText "set-order")) }
set_option maxHeartbeats 3200000 in
/-- the filling of a bare set -/
theorem filled {a l : Addr} {items : Array Value} (ns : List Int) {R : Result → Shared → Prop} (hh : A.handled = none) (ha : s.heap.get? a = some (bareS w)) (hl : s.heap.IsList l items) (hne : l ≠ a)
    (hit : IntsAre items.toList ns) (hb : ns.length + 1 < scanBound)
    (h : ∀ (h' : Heap) (tk c : Nat), SetR w h' a (fun j => decide (j ∈ ns)) c → c ≤ ns.length → (∀ b o, b ≠ a → s.heap.get? b = some o → h'.get? b = some o) → R (.ok (.ret .none)) { s with heap := h', toks := tk }) :
    codeAny (model P w) A (.call (.builtin "set.__init__") ⟨[.ref a, .ref l], []⟩) R s := by
  have hn : items.size = ns.length := by rw [← IntsAre.length hit, Array.length_toList]
  have hal : a < s.heap.objs.size := Heap.lt_size ha
  have ty : s.TypeIs (.ref a) "set" := ⟨_, ha, rfl⟩
  obtain ⟨ol, e1, e2, nl, e3⟩ := id hl
  have hll : l < s.heap.objs.size := Heap.lt_size e1
  obtain ⟨c0, d0, x0, sl0⟩ := ol
  simp only at e2 e3
  subst e2; subst e3
  have q1 := F.sub_list_set
  have q2 := F.sub_list_frozenset
  have q3 : (Value.type "list" == Value.type "dict") = false := by decide
  refine codeAny_call_builtin F.called_set.init.plain F.entry_set_init (check_set_init_1 ty ?_)
  unfold Builtin.«set.__init__» noKeywords Builtin.Frozenset.updateFrom
  generalize hPI : pyIter = PI
  wp_walk
  subst hPI
  refine wpAny_pyIter_list hl (wpAny_bind (wpAny_runValue ?_))
  have at_ : ∀ (i : Nat) (v : Value), items[i]? = some v → ∃ k t, ns[i]? = some k ∧ v = .int k t := fun i v hv => by
    have hi : i < ns.length := hn ▸ (Array.getElem?_eq_some_iff.mp hv).1
    obtain ⟨t, e⟩ := PyProof.Rows.IntsAre.int_at hit i v (by rw [Array.getElem?_toList]; exact hv)
    exact ⟨ns[i], t, List.getElem?_eq_getElem hi, by rw [e, List.getD_eq_getElem?_getD, List.getElem?_eq_getElem hi] <;> rfl⟩
  refine set_update_ints ((Walks.list (by simp [hh]) _ l (Nat.ne_of_lt hll) items).toS) a ?_ ns hn hb at_ (items.size - 0) 0 _ (by omega) (Nat.zero_le _) ⟨⟨_, Heap.get?_push_size _ rfl, rfl, rfl⟩, hl.push _⟩
    ⟨0, Nat.le_refl 0, setR_new_at (Heap.get?_push_of_some _ ha)⟩ fun s' c' hm hc' hS' => ?_
  · simp only [List.mem_cons, List.mem_singleton, List.not_mem_nil, or_false, not_or]
    exact ⟨Nat.ne_of_lt hal, fun z => hne z.symm⟩
  · obtain ⟨h', g2, d', tk', os'⟩ := s'
    cases show g2 = s.gens from hm.gens
    cases show d' = s.drawn from hm.drawn
    cases show os' = s.os from hm.os
    refine wpAny_pure ?_
    refine wpAny_pure (h h' tk' c' hS' (hn ▸ hc') fun b o hba e => ?_)
    exact hm.heap b o (by simp only [List.mem_cons, List.mem_singleton, List.not_mem_nil, or_false, not_or]; exact ⟨hba, Nat.ne_of_lt (Heap.lt_size e)⟩) (Heap.get?_push_of_some _ e)
set_option maxHeartbeats 3200000 in
/-- set(ints) -/
theorem set_listI {l : Addr} {items : Array Value} (ns : List Int) {Q : Value → Shared → Prop} (hh : A.handled = none) (hl : s.heap.IsList l items) (hit : IntsAre items.toList ns) (hb : ns.length + 1 < scanBound)
    (h : ∀ (h' : Heap) (tk c : Nat), SetR w h' s.heap.objs.size (fun j => decide (j ∈ ns)) c → c ≤ ns.length → (∀ b o, s.heap.get? b = some o → h'.get? b = some o) → Q (.ref s.heap.objs.size) { s with heap := h', toks := tk }) :
    wpAny (model P w) A (call (.type "set") [.ref l]) Q E s := by
  obtain ⟨_, _, m1⟩ := F.called_set.mro
  have m2 := F.called_set.made
  have m3 := F.called_set.sub
  have m4 := F.called_set.notType
  have m5 := F.called_set.canCreate
  have m6 := F.typeCall_set_1 (.ref l)
  refine wpAny_call (codeAny_of_tree ?_)
  show wpAny _ _ (callAny (.type "set") _) _ _ _
  refine wpAny_pure ⟨Code.quiet_builtin _ (by decide +kernel), codeAny_builtin F.entry_type_call ?_⟩
  rw [Around.under_plain (weight_type_call_type "set" [.ref l] []) rfl]
  repeat (any_goals (first | assumption | wp_step))
  refine codeAny_mono (code_set_led1 (.ref l) (E := E) (Q₁ := fun obj s₁ => obj = .ref s.heap.objs.size ∧ s₁ = { s with heap := s.heap.push (bareS w) }) ⟨rfl, rfl⟩) fun r s₁ hr => ?_
  cases r with
  | error e => exact hr
  | ok fl =>
    cases fl with
    | ret obj =>
      obtain ⟨rfl, rfl⟩ := hr
      have hS : (s.heap.push (bareS w)).get? s.heap.objs.size = some (bareS w) := Heap.get?_push_size _ rfl
      have m7 := F.called_set.init.lookup
      have m8 := F.called_set.init.bind (.ref s.heap.objs.size)
      have ty : Shared.TypeIs { s with heap := s.heap.push (bareS w) } (.ref s.heap.objs.size) "set" := ⟨_, hS, rfl⟩
      have hll : l < s.heap.objs.size := by
        obtain ⟨_, e, _⟩ := hl
        exact Heap.lt_size e
      repeat (any_goals (first | assumption | wp_step))
      refine codeAny_mono (filled (s := { s with heap := s.heap.push (bareS w) }) ns (by simp [hh]) hS (hl.push _) (Nat.ne_of_lt hll) hit hb (R := wants (fun r s₂ => r = .none ∧ ∃ h' tk c, s₂ = { s with heap := h', toks := tk } ∧ SetR w h' s.heap.objs.size (fun j => decide (j ∈ ns)) c ∧ c ≤ ns.length ∧
          (∀ b o, s.heap.get? b = some o → h'.get? b = some o)) E) fun h' tk c R1 R2 R3 => ⟨rfl, h', tk, c, rfl, R1, R2, fun b o e => R3 b o (Nat.ne_of_lt (Heap.lt_size e)) (Heap.get?_push_of_some _ e)⟩) fun r₂ s₂ hr₂ => ?_
      cases r₂ with
      | error e => exact hr₂
      | ok fl₂ =>
        cases fl₂ with
        | ret r =>
          obtain ⟨rfl, h', tk, c', rfl, hS', hc', hk'⟩ := hr₂
          repeat (any_goals (first | assumption | wp_step))
          exact h _ _ _ hS' hc' hk'
        | _ => exact hr₂.elim
    | _ => exact hr.elim
end
end PvR

set_option Elab.async false
set_option linter.all false
set_option maxRecDepth 100000
set_option maxHeartbeats 4000000

/-! ### set(ints), in order; x[::-1] -/
namespace Pv
open PySem PySem.Spec PyProof.Rows L2
section
variable {X : Cx}
def rSetI (K : PySem.W.Frag) (w : World) : List V → Hp → VK → Prop := fun xs H Q => ∃ (a : Addr) (ns : List Int), xs = [.ref a] ∧ (SqL K H a (ns.map V.int) ∨ SqT K H a (ns.map V.int)) ∧ ns.length ≤ 1000 ∧
  ∀ p c, c ≤ ns.length → H p = none → Q (.ref p) (upd H p (SetO w p (fun j => decide (j ∈ ns)) c))
theorem cr_setI (hc : X.calm = true) : CallR X (.type "set") (rSetI X.K X.w) := by
  intro pins s σ H xs us Q I r h
  obtain ⟨a, ns, rfl, hq, hl, q⟩ := h
  rw [Vals.ref1 r]
  have fin : ∀ (h' : Heap) (tk c : Nat), SetR X.w h' s.heap.objs.size (fun j => decide (j ∈ ns)) c → c ≤ ns.length → (∀ b o, s.heap.get? b = some o → h'.get? b = some o) → EP X pins σ Q (.ref s.heap.objs.size) { s with heap := h', toks := tk } :=
    fun h' tk c R1 hcn k => ⟨.ref _, _, I.laid (t' := tk) k (Nat.le_refl _) (setO_new R1), rfl, q _ c hcn (I.hok.fresh (Nat.le_refl _))⟩
  rcases hq with hq | hq
  · obtain ⟨its, rv, pt, hz⟩ := I.list hq
    exact PvR.set_listI ns (I.ok.hd hc) pt.isList (ints_of_vals rv) (by unfold scanBound; omega) fin
  · obtain ⟨its, rv, pt, hz⟩ := I.tuple hq
    exact call_set_tupI ns (I.ok.hd hc) (show s.heap.IsTuple a its.toArray from pt) (ints_of_vals rv) (by unfold scanBound; omega) fin
end
theorem putI_mem (k : Int) : ∀ (l : List Int) (j : Int), j ∈ putI k l ↔ j = k ∨ j ∈ l
  | [], j => by simp [putI]
  | a :: r, j => by
    unfold putI
    split
    · simp
    · split
      · rename_i h
        subst h
        simp
      · simp only [List.mem_cons, putI_mem k r]
        constructor <;> (intro h; rcases h with h | h | h <;> simp [h])
theorem putI_sorted (k : Int) : ∀ {l : List Int}, l.Pairwise (· < ·) → (putI k l).Pairwise (· < ·)
  | [], _ => by simp [putI]
  | a :: r, h => by
    obtain ⟨h1, h2⟩ := List.pairwise_cons.mp h
    unfold putI
    split
    · rename_i hk
      refine List.pairwise_cons.mpr ⟨fun j hj => ?_, h⟩
      rcases List.mem_cons.mp hj with e | e
      · rw [e]; exact hk
      · exact Int.lt_trans hk (h1 j e)
    · split
      · exact h
      · rename_i hk1 hk2
        refine List.pairwise_cons.mpr ⟨fun j hj => ?_, putI_sorted k h2⟩
        rcases (putI_mem k r j).mp hj with e | e
        · rw [e]; omega
        · exact h1 j e
theorem ssetI_mem : ∀ (l : List Int) (j : Int), j ∈ ssetI l ↔ j ∈ l
  | [], j => by simp [ssetI]
  | a :: r, j => by
    show j ∈ putI a (ssetI r) ↔ _
    rw [putI_mem, ssetI_mem r, List.mem_cons]
theorem ssetI_sorted : ∀ (l : List Int), (ssetI l).Pairwise (· < ·)
  | [] => by simp [ssetI]
  | a :: r => putI_sorted a (ssetI_sorted r)
theorem sorted_uniq : ∀ {l m : List Int}, l.Pairwise (· < ·) → m.Pairwise (· < ·) → (∀ k, k ∈ l ↔ k ∈ m) → l = m
  | [], [], _, _, _ => rfl
  | [], b :: m, _, _, h => absurd ((h b).mpr List.mem_cons_self) (by simp)
  | a :: l, [], _, _, h => absurd ((h a).mp List.mem_cons_self) (by simp)
  | a :: l, b :: m, hl, hm, h => by
    obtain ⟨l1, l2⟩ := List.pairwise_cons.mp hl
    obtain ⟨m1, m2⟩ := List.pairwise_cons.mp hm
    have e : a = b := by
      rcases List.mem_cons.mp ((h a).mp List.mem_cons_self) with e | e
      · exact e
      · rcases List.mem_cons.mp ((h b).mpr List.mem_cons_self) with e' | e'
        · exact e'.symm
        · have := m1 a e
          have := l1 b e'
          omega
    subst e
    rw [sorted_uniq l2 m2 fun k => ⟨fun hk => by
      rcases List.mem_cons.mp ((h k).mp (List.mem_cons_of_mem _ hk)) with e | e
      · subst e; exact absurd (l1 k hk) (Int.lt_irrefl _)
      · exact e, fun hk => by
      rcases List.mem_cons.mp ((h k).mpr (List.mem_cons_of_mem _ hk)) with e | e
      · subst e; exact absurd (m1 k hk) (Int.lt_irrefl _)
      · exact e⟩]
theorem ints_back {K : PySem.W.Frag} {G : Hp} : ∀ (ns : List Int), DenL K G (ns.map D.int) (ns.map V.int)
  | [] => by simp [DenL]
  | k :: ns => by
    simp only [List.map_cons, DenL]
    exact ⟨_, _, rfl, by simp only [Den], ints_back ns⟩
theorem denL_rev {K : PySem.W.Frag} {G : Hp} : ∀ {ds : List D} {vs : List V}, DenL K G ds vs → DenL K G ds.reverse vs.reverse
  | [], _, h => by simp only [DenL] at h; subst h; simp [DenL]
  | d :: ds, _, h => by
    simp only [DenL] at h
    obtain ⟨v, r, e, h1, h2⟩ := h
    subst e
    rw [List.reverse_cons, List.reverse_cons]
    exact (denL_rev h2).snoc h1
section
variable {Y : Stat} {sc : Scope} {fc : Str → Bool} {a : Expr} {fa : List Sl → Option D} {p p2 pos pos2 p3 : Pos} {k : Nat}
theorem se_rev (ha : SE Y sc fc a fa) : SE Y sc fc (.Subscript a (.Slice none none (some (.UnaryOp .USub (.Constant (.int 1) k p) p2)) p3) pos) (fun τ => (fa τ).bind fun x => u1D .rev x) := by
  refine ⟨fun X ok H0 G0 G W H τ σ d w s h Q q => ?_⟩
  obtain ⟨x, hx, h⟩ := bnd h
  refine ⟨_, PvR.pe_revA pe_tu, ?_⟩
  refine ha.run X ok _ _ _ _ _ _ _ _ w s hx _ fun v G1 H1 e1 w1 dv => ?_
  cases x with
  | lst xs =>
    simp only [u1D] at h
    cases h
    simp only [Den] at dv
    obtain ⟨b, us, rfl, hb, hu⟩ := dv
    refine .inl ⟨b, us, rfl, SqL.of (w1.gh _ _ hb), fun z hz => ?_⟩
    refine q _ _ _ (e1.trans (sub_upd (w1.gnone hz))) (w1.new hz) ?_
    simp only [Den]
    exact ⟨z, _, rfl, upd_same, (denL_rev hu).mono (sub_upd (w1.gnone hz))⟩
  | tup xs =>
    simp only [u1D] at h
    cases h
    simp only [Den] at dv
    obtain ⟨b, us, rfl, hb, hu⟩ := dv
    refine .inr (.inl ⟨b, us, rfl, sub_t w1.gh hb, fun z hz => ?_⟩)
    refine q _ _ _ (e1.trans (sub_upd (w1.gnone hz))) (w1.new hz) ?_
    simp only [Den]
    exact ⟨z, _, rfl, SqT.of upd_same, (denL_rev hu).mono (sub_upd (w1.gnone hz))⟩
  | str x =>
    simp only [u1D] at h
    split at h
    · rename_i hl
      cases h
      simp only [Den] at dv
      subst dv
      refine .inr (.inr ⟨_, rfl, le_line (by rw [mkS_len]; exact hl), q _ _ _ e1 w1 ?_⟩)
      simp only [Den]
    · cases h
  | _ => simp [u1D] at h
theorem se_sset (h1 : ("sorted" : Str) ∈ Y.bl) (h2 : ("set" : Str) ∈ Y.bl) (g1 : sc.names.lookup ("sorted" : Str) = some .globalImplicit) (g2 : sc.names.lookup ("set" : Str) = some .globalImplicit) (hn : notStar a = true) (ha : SE Y sc fc a fa) :
    SE Y sc fc (.Call (.Name "sorted" p) [.Call (.Name "set" p2) [a] [] pos2] [] pos) (fun τ => (fa τ).bind fun x => u1D .sset x) := by
  refine ⟨fun X ok H0 G0 G W H τ σ d w s h Q q => ?_⟩
  obtain ⟨x, hx, h⟩ := bnd h
  refine ⟨_, pe_callB (cr_sortedSet ok.calm) (ok.gl g1) (ok.bl _ h1) PyProof.Rows.boot_sorted (pa_cons (pe_callTy (cr_setI ok.calm) (ok.gl g2) (ok.bl _ h2) PyProof.Rows.boot_set (pa_cons pe_tu pa_nil (star_cons hn)) (by decide) (by decide) (star_cons hn) rfl) pa_nil) (by decide) (by decide) rfl rfl, ?_⟩
  have key : ∀ (xs : List D) (ns : List Int) (b : Addr) (us : List V) (G1 H1 : Hp), Sub G G1 → Wd H0 G0 G1 W H1 → allInts xs = some ns → ns.length < 60 → DenL X.K G1 xs us → (SqL X.K H1 b us ∨ SqT X.K H1 b us) → d = .lst ((ssetI ns).map .int) →
      rSetI X.K X.w [.ref b] H1 fun v H2 => rSortedSet X.w [v] H2 Q := fun xs ns b us G1 H1 e1 w1 hi hl hu hb hd => by
    have ev := ints_den hi hu
    subst ev
    refine ⟨b, ns, rfl, hb, by omega, fun z c hc hz => ?_⟩
    refine ⟨z, _, c, rfl, upd_same, by omega, fun ms y hs hm hml hy => ?_⟩
    have em : ms = ssetI ns := sorted_uniq hs (ssetI_sorted ns) fun j => by rw [hm j, ssetI_mem, decide_eq_true_eq]
    subst em
    have w2 := w1.junk (o := SetO X.w z (fun j => decide (j ∈ ns)) c) hz
    refine q _ _ _ (e1.trans (sub_upd (w2.gnone hy))) (w2.new hy) ?_
    subst hd
    simp only [Den]
    exact ⟨y, _, rfl, upd_same, ints_back _⟩
  refine ha.run X ok _ _ _ _ _ _ _ _ w s hx _ fun v G1 H1 e1 w1 dv => ?_
  cases x with
  | lst xs =>
    simp only [u1D] at h
    obtain ⟨ns, hi, h⟩ := bnd h
    split at h
    · cases h
      simp only [Den] at dv
      obtain ⟨b, us, rfl, hb, hu⟩ := dv
      exact key _ ns b us G1 H1 e1 w1 hi (by assumption) hu (.inl (SqL.of (w1.gh _ _ hb))) rfl
    · cases h
  | tup xs =>
    simp only [u1D] at h
    obtain ⟨ns, hi, h⟩ := bnd h
    split at h
    · cases h
      simp only [Den] at dv
      obtain ⟨b, us, rfl, hb, hu⟩ := dv
      exact key _ ns b us G1 H1 e1 w1 hi (by assumption) hu (.inr (sub_t w1.gh hb)) rfl
    · cases h
  | _ => simp [u1D] at h
end
end Pv

set_option Elab.async false
set_option linter.all false
set_option maxRecDepth 100000
set_option maxHeartbeats 4000000

namespace Pv
open PySem PySem.Spec L2

/-! ### the checker: the text's tree against the small language -/
def visB (sc : Scope) (x : Str) : Bool := match sc.names.lookup x with
  | some .local => true | some .cell => true | some .free => true | _ => false
def locB (sc : Scope) (x : Str) : Bool := match sc.names.lookup x with
  | some .local => true | some .cell => true | _ => false
def glB (sc : Scope) (x : Str) : Bool := match sc.names.lookup x with
  | some .globalImplicit => true | _ => false
def nmB (x : Str) : Bool := !(x == ("__debug__" : Str)) && !(x == ("__classdict__" : Str))
def memP (l : List (Nat × Str)) (k : Nat) (x : Str) : Bool := l.any fun p => decide (p.1 = k) && decide (p.2 = x)
def memS (l : List Str) (x : Str) : Bool := l.any fun y => decide (y = x)
def hfB (sc : Scope) (fc : Str → Bool) (x : Str) : Bool := fc x || decide (sc.names.lookup x = some .local)
def notIf : Expr → Bool
  | .IfExp .. => false
  | _ => true
theorem visB_ok {sc : Scope} {x : Str} (h : visB sc x = true) : Vis sc x := by
  unfold visB at h
  split at h <;> first | exact .inl ‹_› | exact .inr (.inl ‹_›) | exact .inr (.inr ‹_›) | cases h
theorem locB_ok {sc : Scope} {x : Str} (h : locB sc x = true) : Loc sc x := by
  unfold locB at h
  split at h <;> first | exact .inl ‹_› | exact .inr ‹_› | cases h
theorem glB_ok {sc : Scope} {x : Str} (h : glB sc x = true) : sc.names.lookup x = some .globalImplicit := by
  unfold glB at h
  split at h <;> first | assumption | cases h
theorem nmB_ok {x : Str} (h : nmB x = true) : (x == ("__debug__" : Str)) = false ∧ (x == ("__classdict__" : Str)) = false := by
  simpa [nmB] using h
theorem memP_ok {l : List (Nat × Str)} {k : Nat} {x : Str} (h : memP l k x = true) : (k, x) ∈ l := by
  unfold memP at h
  rw [List.any_eq_true] at h
  obtain ⟨p, hp, e⟩ := h
  simp only [Bool.and_eq_true, decide_eq_true_eq] at e
  obtain ⟨e1, e2⟩ := e
  rw [← e1, ← e2]
  exact hp
theorem memS_ok {l : List Str} {x : Str} (h : memS l x = true) : x ∈ l := by
  unfold memS at h
  rw [List.any_eq_true] at h
  obtain ⟨p, hp, e⟩ := h
  rw [decide_eq_true_eq] at e
  rw [← e]
  exact hp

def ckC (d : D) (c : Const) : Bool := match d, c with
  | .int n, .int m => decide (n = m)
  | .bl b, .bool c => b == c
  | .non, .none => true
  | .str x, .str s => decide (s = mkS x)
  | _, _ => false
def ckTy (Y : Stat) (sc : Scope) : List Ty → List Expr → Bool
  | [], [] => true
  | t :: ts, .Name x _ :: ns => decide (x = nmT t) && memS Y.bl x && glB sc x && ckTy Y sc ts ns
  | _, _ => false
def ckGs (Y : Stat) (sc : Scope) (fc : Str → Bool) : List Nat → List Expr → Bool
  | [], [] => true
  | i :: is, .Name x _ :: ns => decide (Y.N[i]? = some x) && locB sc x && hfB sc fc x && ckGs Y sc fc is ns
  | _, _ => false
def ckG (Y : Stat) (sc : Scope) (fc : Str → Bool) (t : T) (e : Expr) : Bool := match t, e with
  | .nm i, .Name x _ => decide (Y.N[i]? = some x) && locB sc x && hfB sc fc x
  | .tp is, .Tuple es _ _ => ckGs Y sc fc is es
  | _, _ => false
def isTupE : Expr → Bool
  | .Tuple .. => true
  | _ => false
def bfOk (Y : Stat) (f : BF) : Bool := match f with
  | .gcd => Y.gcd
  | f => memS Y.bl (nmF f)
def memK (l : List (Nat × Str × List Str × List Nat)) (k : Nat) (x : Str) (ks : List Str) (pm : List Nat) : Bool := l.any fun p => decide (p = (k, x, ks, pm))
mutual
def ckE (Y : Stat) : E → Scope → (Str → Bool) → Expr → Bool
  | .c d, _, _, e => match e with
    | .Constant c _ _ => ckC d c
    | _ => false
  | .v i, sc, _, e => match e with
    | .Name x _ => decide (Y.N[i]? = some x) && visB sc x && nmB x
    | _ => false
  | .g k, sc, _, e => match e with
    | .Name x _ => memP Y.cns k x && glB sc x && nmB x
    | _ => false
  | .bin o x y, sc, fc, e => match e with
    | .BinOp a op b _ => decide (op = opB o) && ckE Y x sc fc a && ckE Y y sc fc b
    | _ => false
  | .neg x, sc, fc, e => match e with
    | .UnaryOp .USub a _ => ckE Y x sc fc a
    | _ => false
  | .not x, sc, fc, e => match e with
    | .UnaryOp .Not a _ => notIf a && ckE Y x sc fc a
    | _ => false
  | .and x y, sc, fc, e => match e with
    | .BoolOp .And (a :: b :: r) _ => notIf a && ckE Y x sc fc a && ckB Y true y sc fc (b :: r)
    | _ => false
  | .or x y, sc, fc, e => match e with
    | .BoolOp .Or (a :: b :: r) _ => notIf a && ckE Y x sc fc a && ckB Y false y sc fc (b :: r)
    | _ => false
  | .last _, _, _, _ => false
  | .nil, _, _, _ => false
  | .cmp o x y, sc, fc, e => match e with
    | .Compare a [op] [b] _ => decide (op = opC o) && notSet b && ckE Y x sc fc a && ckE Y y sc fc b
    | _ => false
  | .chain o q x y z, sc, fc, e => match e with
    | .Compare a [op, oq] [b, c] _ => decide (op = opC o) && decide (oq = opC q) && notSet c && ckE Y x sc fc a && ckE Y y sc fc b && ckE Y z sc fc c
    | _ => false
  | .ite t x y, sc, fc, e => match e with
    | .IfExp c a b _ => notIf c && ckE Y t sc fc c && ckE Y x sc fc a && ckE Y y sc fc b
    | _ => false
  | .tup es, sc, fc, e => match e with
    | .Tuple ns _ _ => ckL Y es sc fc ns
    | _ => false
  | .lst es, sc, fc, e => match e with
    | .List ns _ => ckL Y es sc fc ns
    | _ => false
  | .dct es, sc, fc, e => match e with
    | .Dict [] [] _ => es.isEmpty
    | .Dict (k :: kr) ns _ => decide ((k :: kr).length = ns.length) && decide ((k :: kr).length ≤ 15) && (k :: kr).all (·.isSome) && ckD Y es sc fc (k :: kr) ns
    | _ => false
  | .ix x y, sc, fc, e => match e with
    | .Subscript a b _ => notSlice b && ckE Y x sc fc a && ckE Y y sc fc b
    | _ => false
  | .sl x l h, sc, fc, e => match e with
    | .Subscript a (.Slice lo hi none _) _ => ckE Y x sc fc a && ckP Y l sc fc lo && ckP Y h sc fc hi
    | _ => false
  | .call f es, sc, fc, e => match e with
    | .Call (.Name x _) ns [] _ => memP Y.fns f x && glB sc x && nmB x && ckL Y es sc fc ns
    | _ => false
  | .blt f es, sc, fc, e => match e with
    | .Call (.Name x _) (n :: ns) [] _ => decide (x = nmF f) && bfOk Y f && glB sc x && ckL Y es sc fc (n :: ns)
    | _ => false
  | .isi x ts many, sc, fc, e => match e with
    | .Call (.Name f _) [a, b] [] _ => decide (f = ("isinstance" : Str)) && memS Y.bl "isinstance" && glB sc "isinstance" && notStar a && ckE Y x sc fc a && (match b with
        | .Tuple ns _ _ => many && decide (ts.length ≤ 100) && ckTy Y sc ts ns
        | b => !many && decide (ts.length = 1) && ckTy Y sc ts [b])
    | _ => false
  | .ixo i y, sc, fc, e => match e with
    | .Subscript (.Name x _) b _ => decide (Y.N[i]? = some x) && visB sc x && nmB x && notSlice b && ckE Y y sc fc b
    | _ => false
  | .leno i, sc, _, e => match e with
    | .Call (.Name f _) [.Name x _] [] _ => decide (f = ("len" : Str)) && memS Y.bl "len" && glB sc "len" && decide (Y.N[i]? = some x) && visB sc x && nmB x
    | _ => false
  | .lc own t it c el, sc, fc, e => match e with
    | .ListComp elt [⟨tg, iter, ifs, 0⟩] scope _ => notSet iter && blkC Y.N sc scope own && ckI Y it sc fc tg iter && ckG Y (relS scope sc) (fun x => scope.names.lookup x == some .cell) t tg &&
        (match ifs with | [] => (match c with | .c (.bl true) => true | _ => false) | [n] => notIf n && ckE Y c (relS scope sc) (fun x => scope.names.lookup x == some .cell) n | _ => false) &&
        ckE Y el (relS scope sc) (fun x => scope.names.lookup x == some .cell) elt && (tixs t).all (fun i => (own.map (·.2)).contains i)
    | _ => false
  | .callK f ks pm es, sc, fc, e => match e with
    | .Call (.Name x _) [] kws _ => memK Y.kws f x ks pm && glB sc x && nmB x && decide (kws.filterMap (·.arg) = ks) && kws.all (fun k => k.arg.isSome) && ckK Y es sc fc kws
    | _ => false
  | .mk f es, sc, fc, e => match e with
    | .Call (.Name x _) (n :: ns) [] _ => memP Y.mks f x && glB sc x && nmB x && ckL Y es sc fc (n :: ns)
    | _ => false
  | .fld a f, sc, fc, e => match e with
    | .Attribute n g _ => decide (g = f) && plainBase n && ckE Y a sc fc n
    | _ => false
  | .mth a m es, sc, fc, e => match e with
    | .Call (.Attribute n g ap) ns [] pos => decide (g = m) && plainBase n && (ap.endLine == pos.line) && decide (ns.length < 30) && ckE Y a sc fc n && ckL Y es sc fc ns
    | _ => false
  | .prp a f, sc, fc, e => match e with
    | .Attribute n g _ => decide (g = f) && plainBase n && ckE Y a sc fc n
    | _ => false
  | .join a b, sc, fc, e => match e with
    | .Call (.Attribute n g ap) [m] [] pos => decide (g = ("join" : Str)) && plainBase n && (ap.endLine == pos.line) && notStar m && ckE Y a sc fc n && ckE Y b sc fc m
    | _ => false
  | .sidx _ _, _, _, _ => false
  | .same x y, sc, fc, e => match e with
    | .Compare a [.Eq] [b] _ => notSet b && ckE Y x sc fc a && ckE Y y sc fc b
    | _ => false
  | .u1 o a, sc, fc, e => match o with
    | .upper => (match e with
      | .Call (.Attribute n g ap) [] [] pos => decide (g = ("upper" : Str)) && plainBase n && (ap.endLine == pos.line) && ckE Y a sc fc n
      | _ => false)
    | .rev => (match e with
      | .Subscript n (.Slice none none (some (.UnaryOp .USub (.Constant (.int 1) _ _) _)) _) _ => ckE Y a sc fc n
      | _ => false)
    | .sset => (match e with
      | .Call (.Name x _) [.Call (.Name y _) [n] [] _] [] _ => decide (x = ("sorted" : Str)) && decide (y = ("set" : Str)) && decide (x ∈ Y.bl) && decide (y ∈ Y.bl) && glB sc x && glB sc y && notStar n && ckE Y a sc fc n
      | _ => false)
  | .dget a b, sc, fc, e => match e with
    | .Call (.Attribute n g ap) [m] [] pos => decide (g = ("get" : Str)) && plainBase n && (ap.endLine == pos.line) && notStar m && ckE Y a sc fc n && ckE Y b sc fc m
    | _ => false
  | .ino neg a i, sc, fc, e => match e with
    | .Compare n [op] [.Name x _] _ => decide (op = if neg then .NotIn else .In) && decide (Y.N[i]? = some x) && visB sc x && nmB x && ckE Y a sc fc n
    | _ => false
  | .seq _, _, _, _ => false
  | .r1 _, _, _, _ => false
  | .r2 _ _, _, _, _ => false
  | .enum _, _, _, _ => false
  | .zip _ _, _, _, _ => false
def ckB (Y : Stat) (isAnd : Bool) : E → Scope → (Str → Bool) → List Expr → Bool
  | .last x, sc, fc, es => match es with
    | [a] => notIf a && ckE Y x sc fc a
    | _ => false
  | .and x y, sc, fc, es => match es with
    | a :: b :: r => isAnd && notIf a && ckE Y x sc fc a && ckB Y isAnd y sc fc (b :: r)
    | _ => false
  | .or x y, sc, fc, es => match es with
    | a :: b :: r => !isAnd && notIf a && ckE Y x sc fc a && ckB Y isAnd y sc fc (b :: r)
    | _ => false
  | _, _, _, _ => false
def ckP (Y : Stat) : E → Scope → (Str → Bool) → Option Expr → Bool
  | .nil, _, _, o => o.isNone
  | .last x, sc, fc, o => match o with
    | some n => ckE Y x sc fc n
    | none => false
  | _, _, _, _ => false
def ckI (Y : Stat) : E → Scope → (Str → Bool) → Expr → Expr → Bool
  | .seq x, sc, fc, _, e => ckE Y x sc fc e
  | .r1 x, sc, fc, _, e => match e with
    | .Call (.Name f _) [a] [] _ => decide (f = ("range" : Str)) && memS Y.bl "range" && glB sc "range" && notStar a && ckE Y x sc fc a
    | _ => false
  | .r2 x y, sc, fc, _, e => match e with
    | .Call (.Name f _) [a, b] [] _ => decide (f = ("range" : Str)) && memS Y.bl "range" && glB sc "range" && notStar a && notStar b && ckE Y x sc fc a && ckE Y y sc fc b
    | _ => false
  | .enum x, sc, fc, tg, e => match e with
    | .Call (.Name f _) [a] [] _ => isTupE tg && decide (f = ("enumerate" : Str)) && memS Y.bl "enumerate" && glB sc "enumerate" && notStar a && ckE Y x sc fc a
    | _ => false
  | .zip x y, sc, fc, tg, e => match e with
    | .Call (.Name f _) [a, b] [] _ => isTupE tg && decide (f = ("zip" : Str)) && memS Y.bl "zip" && glB sc "zip" && notStar a && notStar b && ckE Y x sc fc a && ckE Y y sc fc b
    | _ => false
  | _, _, _, _, _ => false
def ckL (Y : Stat) : List E → Scope → (Str → Bool) → List Expr → Bool
  | [], _, _, ns => ns.isEmpty
  | x :: xs, sc, fc, ns => match ns with
    | n :: r => notStar n && ckE Y x sc fc n && ckL Y xs sc fc r
    | [] => false
def ckK (Y : Stat) : List E → Scope → (Str → Bool) → List Keyword → Bool
  | [], _, _, ns => ns.isEmpty
  | x :: xs, sc, fc, ns => match ns with
    | n :: r => ckE Y x sc fc n.value && ckK Y xs sc fc r
    | [] => false
def ckD (Y : Stat) : List E → Scope → (Str → Bool) → List (Option Expr) → List Expr → Bool
  | [], _, _, kn, ns => kn.isEmpty && ns.isEmpty
  | [_], _, _, _, _ => false
  | x :: y :: xs, sc, fc, kn, ns => match kn, ns with
    | some k :: kr, n :: r => ckE Y x sc fc k && ckE Y y sc fc n && ckD Y xs sc fc kr r
    | _, _ => false
end
section
variable {Y : Stat} {sc : Scope} {fc : Str → Bool}
theorem ckGs_ok : ∀ {is : List Nat} {ns : List Expr}, ckGs Y sc fc is ns = true → SGs Y sc fc ns is ∧ ns.all notStar = true ∧ ns.length = is.length
  | [], [], _ => ⟨sgs_nil, rfl, rfl⟩
  | [], _ :: _, h => by simp [ckGs] at h
  | i :: is, [], h => by simp [ckGs] at h
  | i :: is, n :: ns, h => by
    unfold ckGs at h
    split at h
    · cases ‹_ = []›
    · rename_i i' is' x p ns' e1 e2
      cases e1
      cases e2
      simp only [Bool.and_eq_true, decide_eq_true_eq] at h
      obtain ⟨⟨⟨h1, h2⟩, h3⟩, h4⟩ := h
      obtain ⟨a1, a2, a3⟩ := ckGs_ok h4
      exact ⟨sgs_cons h1 (locB_ok h2) h3 a1, by simp [a2, notStar], by simp [a3]⟩
    · cases h
theorem ckG_ok {t : T} {e : Expr} (h : ckG Y sc fc t e = true) : SG Y sc fc e t := by
  unfold ckG at h
  split at h
  · simp only [Bool.and_eq_true, decide_eq_true_eq] at h
    exact sg_nm h.1.1 (locB_ok h.1.2) h.2
  · obtain ⟨a1, a2, a3⟩ := ckGs_ok h
    exact sg_tp a2 a3 a1
  · cases h
theorem ckTy_ok : ∀ {ts : List Ty} {ns : List Expr}, ckTy Y sc ts ns = true → ns.length = ts.length ∧ ∀ (i : Nat) n t, ns[i]? = some n → ts[i]? = some t → ∃ q, n = Expr.Name (nmT t) q ∧ nmT t ∈ Y.bl ∧ sc.names.lookup (nmT t) = some .globalImplicit
  | [], [], _ => ⟨rfl, fun i n t h => by simp at h⟩
  | [], _ :: _, h => by simp [ckTy] at h
  | t :: ts, [], h => by simp [ckTy] at h
  | t :: ts, n :: ns, h => by
    unfold ckTy at h
    split at h
    · cases ‹_ = []›
    · rename_i t' ts' x p ns' e1 e2
      cases e1
      cases e2
      simp only [Bool.and_eq_true, decide_eq_true_eq] at h
      obtain ⟨⟨⟨h1, h2⟩, h3⟩, h4⟩ := h
      subst h1
      obtain ⟨a1, a2⟩ := ckTy_ok h4
      refine ⟨by simp [a1], fun i n t hn ht => ?_⟩
      cases i with
      | zero =>
        simp at hn ht
        subst hn ht
        exact ⟨p, rfl, memS_ok h2, glB_ok h3⟩
      | succ i => exact a2 i n t (by simpa using hn) (by simpa using ht)
    · cases h
end
end Pv

set_option Elab.async false
set_option linter.all false
set_option maxRecDepth 100000
set_option maxHeartbeats 4000000

namespace Pv
open PySem PySem.Spec L2

/-! ### what the checker says is so -/
section
variable (Y : Stat)
def OkE (ir : E) : Prop := ∀ sc fc e, ckE Y ir sc fc e = true → SE Y sc fc e (evE Y.Z ir) ∧ (notIf e = true → ST Y sc fc e (fun τ => (evE Y.Z ir τ).bind truth))
end
theorem tr_bl {o : Option Bool} : (o.map D.bl).bind truth = o := by cases o <;> rfl
theorem ckC_ok {Y : Stat} {sc : Scope} {fc : Str → Bool} {d : D} {c : Const} {k : Nat} {p : Pos} (h : ckC d c = true) : SE Y sc fc (.Constant c k p) (fun _ => some d) := by
  unfold ckC at h
  split at h
  · have := of_decide_eq_true h; subst this; exact se_int
  · rename_i b b'
    have : b = b' := by simpa using h
    subst this; exact se_bl
  · exact se_non
  · have := of_decide_eq_true h; subst this; exact se_str
  · cases h
theorem bf_ok {Y : Stat} {f : BF} (h : bfOk Y f = true) : (f = .gcd → Y.gcd = true) ∧ (f ≠ .gcd → nmF f ∈ Y.bl) := by
  cases f <;> first
    | exact ⟨fun _ => h, fun z => absurd rfl z⟩
    | exact ⟨fun z => (by cases z), fun _ => memS_ok h⟩
section
variable {Y : Stat} {sc : Scope} {fc : Str → Bool}
/-- a name, a call .. : its test is its value's truth -/
theorem both {e : Expr} {f : List Sl → Option D} (h : SE Y sc fc e f) (hp : plainTest e = true) : SE Y sc fc e f ∧ (notIf e = true → ST Y sc fc e (fun τ => (f τ).bind truth)) := ⟨h, fun _ => st_of h hp⟩
theorem and_imp {x y : Option D} {b : Bool} (h : ((x.bind blD).bind fun k => bif k then y else some (D.bl false)).bind truth = some b) : ((x.bind truth).bind fun k => bif k then y.bind truth else some false) = some b := by
  obtain ⟨d, h1, h2⟩ := bnd h
  obtain ⟨k, h3, h4⟩ := bnd h1
  obtain ⟨z, h5, h6⟩ := bnd h3
  have := blD_some h6
  subst this
  rw [h5]
  cases k with
  | true =>
    have h4' : y = some d := h4
    show y.bind truth = some b
    rw [h4']; exact h2
  | false =>
    cases h4
    exact h2
theorem or_imp {x y : Option D} {b : Bool} (h : ((x.bind blD).bind fun k => bif k then some (D.bl true) else y).bind truth = some b) : ((x.bind truth).bind fun k => bif k then some true else y.bind truth) = some b := by
  obtain ⟨d, h1, h2⟩ := bnd h
  obtain ⟨k, h3, h4⟩ := bnd h1
  obtain ⟨z, h5, h6⟩ := bnd h3
  have := blD_some h6
  subst this
  rw [h5]
  cases k with
  | false =>
    have h4' : y = some d := h4
    show y.bind truth = some b
    rw [h4']; exact h2
  | true =>
    cases h4
    exact h2
end
section
variable {Y : Stat} {sc : Scope} {fc : Str → Bool} {a : Expr} {pos : Pos} {f : List Sl → Option D}
theorem st_neg (ha : SE Y sc fc (.UnaryOp .USub a pos) f) : ST Y sc fc (.UnaryOp .USub a pos) (fun τ => (f τ).bind truth) := by
  refine ⟨fun X ok H0 G0 G W H τ σ d w s h Q q => ?_⟩
  obtain ⟨x, hx, h⟩ := bnd h
  refine ⟨_, pt_truth pe_tu (fun _ => rfl), ?_⟩
  refine ha.run X ok _ _ _ _ _ _ _ _ w s hx _ fun v G1 H1 e1 w1 dv => ?_
  exact ⟨_, tru_run h dv w1.gh, q _ _ e1 w1⟩
end
theorem memK_ok {l : List (Nat × Str × List Str × List Nat)} {k : Nat} {x : Str} {ks : List Str} {pm : List Nat} (h : memK l k x ks pm = true) : (k, x, ks, pm) ∈ l := by
  unfold memK at h
  rw [List.any_eq_true] at h
  obtain ⟨p, hp, e⟩ := h
  rw [decide_eq_true_eq] at e
  rw [← e]
  exact hp
theorem evL_len {Z : Sm} : ∀ {es : List E} {τ : List Sl} {ds : List D}, evL Z es τ = some ds → ds.length = es.length
  | [], τ, ds, h => by unfold evL at h; cases h; rfl
  | e :: es, τ, ds, h => by
    unfold evL at h
    obtain ⟨d, _, h⟩ := bnd h
    obtain ⟨ds', h2, rfl⟩ := mpd h
    simp [evL_len h2]
theorem kw_count : ∀ {kws : List Keyword}, kws.all (fun k => k.arg.isSome) = true → (kws.filterMap (·.arg)).length = kws.length
  | [], _ => rfl
  | ⟨n, e, p⟩ :: r, h => by
    simp only [List.all_cons, Bool.and_eq_true] at h
    cases n with
    | none => simp at h
    | some n => simp [kw_count h.2]
theorem ckL_len (Y : Stat) : ∀ (xs : List E) (sc : Scope) (fc : Str → Bool) (ns : List Expr), ckL Y xs sc fc ns = true → xs.length = ns.length
  | [], sc, fc, ns, h => by
    unfold ckL at h
    have : ns = [] := by simpa using h
    subst this
    rfl
  | x :: xs, sc, fc, ns, h => by
    unfold ckL at h
    split at h
    · simp only [Bool.and_eq_true] at h
      simp [ckL_len Y xs _ _ _ h.2]
    · cases h
mutual
theorem ckE_ok (Y : Stat) : ∀ (ir : E) (sc : Scope) (fc : Str → Bool) (e : Expr), ckE Y ir sc fc e = true → SE Y sc fc e (evE Y.Z ir) ∧ (notIf e = true → ST Y sc fc e (fun τ => (evE Y.Z ir τ).bind truth))
  | .c d, sc, fc, e, h => by
    unfold ckE at h
    split at h
    · exact both (by exact ckC_ok h) rfl
    · cases h
  | .v i, sc, fc, e, h => by
    unfold ckE at h
    split at h
    · simp only [Bool.and_eq_true, decide_eq_true_eq] at h
      exact both (by exact se_var h.1.1 (visB_ok h.1.2) (nmB_ok h.2).1 (nmB_ok h.2).2) rfl
    · cases h
  | .g k, sc, fc, e, h => by
    unfold ckE at h
    split at h
    · simp only [Bool.and_eq_true] at h
      exact both (by exact se_glob (memP_ok h.1.1) (glB_ok h.1.2) (nmB_ok h.2).1) rfl
    · cases h
  | .bin o x y, sc, fc, e, h => by
    unfold ckE at h
    split at h
    · simp only [Bool.and_eq_true, decide_eq_true_eq] at h
      obtain ⟨⟨h1, h2⟩, h3⟩ := h
      subst h1
      exact both (by exact se_bin (ckE_ok Y x _ _ _ h2).1 (ckE_ok Y y _ _ _ h3).1) rfl
    · cases h
  | .neg x, sc, fc, e, h => by
    unfold ckE at h
    split at h
    · exact ⟨by exact se_neg (ckE_ok Y x _ _ _ h).1, fun _ => st_neg (by exact se_neg (ckE_ok Y x _ _ _ h).1)⟩
    · cases h
  | .not x, sc, fc, e, h => by
    unfold ckE at h
    split at h
    · simp only [Bool.and_eq_true] at h
      have ih := ckE_ok Y x _ _ _ h.2
      refine ⟨by exact se_not ih.1, fun _ => (st_not (ih.2 h.1)).imp fun τ b hb => ?_⟩
      unfold evE at hb
      cases hx : (evE Y.Z x τ).bind truth with
      | none => rw [hx] at hb; cases hb
      | some k => rw [hx] at hb; exact hb
    · cases h
  | .and x y, sc, fc, e, h => by
    unfold ckE at h
    split at h
    · simp only [Bool.and_eq_true] at h
      have i1 := ckE_ok Y x _ _ _ h.1.2
      have i2 := ckBa_ok Y y _ _ _ h.2
      refine ⟨by exact se_and i1.1 (i2.1 _), fun _ => (sw_and (i1.2 h.1.1) (i2.2 _)).st.imp fun τ b hb => ?_⟩
      unfold evE at hb
      exact and_imp hb
    · cases h
  | .or x y, sc, fc, e, h => by
    unfold ckE at h
    split at h
    · simp only [Bool.and_eq_true] at h
      have i1 := ckE_ok Y x _ _ _ h.1.2
      have i2 := ckBo_ok Y y _ _ _ h.2
      refine ⟨by exact se_or i1.1 (i2.1 _), fun _ => (sw_or (i1.2 h.1.1) (i2.2 _)).st.imp fun τ b hb => ?_⟩
      unfold evE at hb
      exact or_imp hb
    · cases h
  | .last x, sc, fc, e, h => by unfold ckE at h; cases h
  | .nil, sc, fc, e, h => by unfold ckE at h; cases h
  | .cmp o x y, sc, fc, e, h => by
    unfold ckE at h
    split at h
    · simp only [Bool.and_eq_true, decide_eq_true_eq] at h
      obtain ⟨⟨⟨h1, h2⟩, h3⟩, h4⟩ := h
      subst h1
      have i1 := (ckE_ok Y x _ _ _ h3).1
      have i2 := (ckE_ok Y y _ _ _ h4).1
      refine ⟨by exact se_cmp i1 i2 h2, fun _ => (st_cmp i1 i2 h2).imp fun τ b hb => ?_⟩
      unfold evE at hb
      obtain ⟨d, hb, ht⟩ := bnd hb
      obtain ⟨u, hu, hb⟩ := bnd hb
      obtain ⟨v, hv, hb⟩ := bnd hb
      obtain ⟨k, hk, rfl⟩ := mpd hb
      cases ht
      rw [hu, hv]; exact hk
    · cases h
  | .chain o q x y z, sc, fc, e, h => by
    unfold ckE at h
    split at h
    · simp only [Bool.and_eq_true, decide_eq_true_eq] at h
      obtain ⟨⟨⟨⟨⟨h1, h2⟩, h3⟩, h4⟩, h5⟩, h6⟩ := h
      subst h1 h2
      have i1 := (ckE_ok Y x _ _ _ h4).1
      have i2 := (ckE_ok Y y _ _ _ h5).1
      have i3 := (ckE_ok Y z _ _ _ h6).1
      refine ⟨by exact se_chain i1 i2 i3 h3, fun _ => (st_chain i1 i2 i3 h3).imp fun τ b hb => ?_⟩
      unfold evE at hb
      obtain ⟨d, hb, ht⟩ := bnd hb
      obtain ⟨u, hu, hb⟩ := bnd hb
      obtain ⟨v, hv, hb⟩ := bnd hb
      obtain ⟨k, hk, hb⟩ := bnd hb
      rw [hu, hv]
      show ((cmpD o u v).bind _) = _
      rw [hk]
      cases k with
      | false => cases hb; exact ht
      | true =>
        obtain ⟨w, hw, hb⟩ := bnd hb
        obtain ⟨m, hm, rfl⟩ := mpd hb
        cases ht
        show ((evE Y.Z z τ).bind _) = _
        rw [hw]; exact hm
    · cases h
  | .ite t x y, sc, fc, e, h => by
    unfold ckE at h
    split at h
    · simp only [Bool.and_eq_true] at h
      obtain ⟨⟨⟨h1, h2⟩, h3⟩, h4⟩ := h
      exact ⟨by exact se_ite ((ckE_ok Y t _ _ _ h2).2 h1) (ckE_ok Y x _ _ _ h3).1 (ckE_ok Y y _ _ _ h4).1, fun z => by simp [notIf] at z⟩
    · cases h
  | .tup es, sc, fc, e, h => by
    unfold ckE at h
    split at h
    · exact both (by exact se_tup (ckL_ok Y es _ _ _ h).1) rfl
    · cases h
  | .lst es, sc, fc, e, h => by
    unfold ckE at h
    split at h
    · exact both (by exact se_lst (ckL_ok Y es _ _ _ h).1) rfl
    · cases h
  | .dct es, sc, fc, e, h => by
    unfold ckE at h
    split at h
    · have : es = [] := by simpa using h
      subst this
      exact both (by exact se_dct0) rfl
    · simp only [Bool.and_eq_true, decide_eq_true_eq] at h
      obtain ⟨⟨⟨h1, h2⟩, h3⟩, h4⟩ := h
      exact both (by exact se_dct (by simp) h3 h1 h2 (ckD_ok Y es _ _ _ _ _ h4)) rfl
    · cases h
  | .ix x y, sc, fc, e, h => by
    unfold ckE at h
    split at h
    · simp only [Bool.and_eq_true] at h
      exact both (by exact se_ix (ckE_ok Y x _ _ _ h.1.2).1 (ckE_ok Y y _ _ _ h.2).1 h.1.1) rfl
    · cases h
  | .sl x l u, sc, fc, e, h => by
    unfold ckE at h
    split at h
    · simp only [Bool.and_eq_true] at h
      obtain ⟨⟨h1, h2⟩, h3⟩ := h
      exact both (by exact se_sl (ckE_ok Y x _ _ _ h1).1 (ckP_ok Y l _ _ _ h2) (ckP_ok Y u _ _ _ h3)) rfl
    · cases h
  | .call f es, sc, fc, e, h => by
    unfold ckE at h
    split at h
    · rename_i x p ns pos
      simp only [Bool.and_eq_true] at h
      obtain ⟨⟨⟨h1, h2⟩, h3⟩, h4⟩ := h
      have ih := ckL_ok Y es _ _ _ h4
      cases ns with
      | nil =>
        refine both ((se_call0 (memP_ok h1) (glB_ok h2) (nmB_ok h3).1).imp fun τ b hb => ?_) rfl
        have : es = [] := by
          cases es with
          | nil => rfl
          | cons x r => unfold ckL at h4; cases h4
        subst this
        unfold evE evL at hb
        exact hb
      | cons a r => exact both (by exact se_call (memP_ok h1) (glB_ok h2) (nmB_ok h3).1 ih.2 ih.1) rfl
    · cases h
  | .blt f es, sc, fc, e, h => by
    unfold ckE at h
    split at h
    · simp only [Bool.and_eq_true, decide_eq_true_eq] at h
      obtain ⟨⟨⟨h1, h2⟩, h3⟩, h4⟩ := h
      subst h1
      have ih := ckL_ok Y es _ _ _ h4
      exact both (by exact se_blt (bf_ok h2).1 (bf_ok h2).2 (glB_ok h3) ih.2 ih.1) rfl
    · cases h
  | .isi x ts many, sc, fc, e, h => by
    unfold ckE at h
    split at h
    · simp only [Bool.and_eq_true, decide_eq_true_eq] at h
      obtain ⟨⟨⟨⟨⟨h1, h2⟩, h3⟩, h4⟩, h5⟩, h6⟩ := h
      subst h1
      have ih := (ckE_ok Y x _ _ _ h5).1
      refine both ?_ rfl
      split at h6
      · simp only [Bool.and_eq_true, decide_eq_true_eq] at h6
        obtain ⟨⟨_, l1⟩, l2⟩ := h6
        obtain ⟨m1, m2⟩ := ckTy_ok l2
        exact se_isit (memS_ok h2) (glB_ok h3) m1 l1 m2 h4 ih
      · simp only [Bool.and_eq_true, decide_eq_true_eq] at h6
        obtain ⟨⟨_, l1⟩, l2⟩ := h6
        obtain ⟨m1, m2⟩ := ckTy_ok l2
        match ts, l1 with
        | [t], _ =>
          obtain ⟨q, rfl, hb, hg⟩ := m2 0 _ t rfl rfl
          exact se_isi (memS_ok h2) (glB_ok h3) hb hg h4 ih
    · cases h
  | .ixo i y, sc, fc, e, h => by
    unfold ckE at h
    split at h
    · simp only [Bool.and_eq_true, decide_eq_true_eq] at h
      obtain ⟨⟨⟨⟨h1, h2⟩, h3⟩, h4⟩, h5⟩ := h
      exact both (by exact se_ixo h1 (visB_ok h2) (nmB_ok h3).1 (nmB_ok h3).2 (ckE_ok Y y _ _ _ h5).1 h4) rfl
    · cases h
  | .leno i, sc, fc, e, h => by
    unfold ckE at h
    split at h
    · simp only [Bool.and_eq_true, decide_eq_true_eq] at h
      obtain ⟨⟨⟨⟨⟨h0, h1⟩, h2⟩, h3⟩, h4⟩, h5⟩ := h
      subst h0
      exact both (by exact se_leno h3 (visB_ok h4) (nmB_ok h5).1 (nmB_ok h5).2 (memS_ok h1) (glB_ok h2)) rfl
    · cases h
  | .lc own t it c el, sc, fc, e, h => by
    unfold ckE at h
    split at h
    · simp only [Bool.and_eq_true] at h
      obtain ⟨⟨⟨⟨⟨⟨h1, h2⟩, h3⟩, h4⟩, h5⟩, h6⟩, h7⟩ := h
      refine both ?_ rfl
      refine se_lc (ckI_ok Y it _ _ _ _ h3) h1 h2 (ckG_ok h4) ?_ (ckE_ok Y el _ _ _ h6).1 (by simpa using h7)
      split at h5
      · split at h5
        · exact scs_nil
        · cases h5
      · simp only [Bool.and_eq_true] at h5
        exact scs_one ((ckE_ok Y c _ _ _ h5.2).2 h5.1)
      · cases h5
    · cases h
  | .callK f ks pm es, sc, fc, e, h => by
    unfold ckE at h
    split at h
    · simp only [Bool.and_eq_true, decide_eq_true_eq] at h
      obtain ⟨⟨⟨⟨⟨h1, h2⟩, h3⟩, h4⟩, h5⟩, h6⟩ := h
      obtain ⟨i1, i2⟩ := ckK_ok Y es _ _ _ h6
      have hl : ∀ τ ds, evL Y.Z es τ = some ds → ds.length = ks.length := fun τ ds hd => by rw [evL_len hd, i2, ← h4, kw_count h5]
      exact both (by exact se_callK (memK_ok h1) (glB_ok h2) (nmB_ok h3).1 h4 h5 i1 hl) rfl
    · cases h
  | .mk f es, sc, fc, e, h => by
    unfold ckE at h
    split at h
    · simp only [Bool.and_eq_true] at h
      obtain ⟨⟨⟨h1, h2⟩, h3⟩, h4⟩ := h
      have ih := ckL_ok Y es _ _ _ h4
      exact both (by exact se_mk (memP_ok h1) (glB_ok h2) (nmB_ok h3).1 ih.2 ih.1) rfl
    · cases h
  | .fld a f, sc, fc, e, h => by
    unfold ckE at h
    split at h
    · simp only [Bool.and_eq_true, decide_eq_true_eq] at h
      obtain ⟨⟨h1, h2⟩, h3⟩ := h
      subst h1
      exact both (by exact se_fld h2 (ckE_ok Y a _ _ _ h3).1) rfl
    · cases h
  | .mth a m es, sc, fc, e, h => by
    unfold ckE at h
    split at h
    · simp only [Bool.and_eq_true, decide_eq_true_eq] at h
      obtain ⟨⟨⟨⟨⟨h1, h2⟩, h3⟩, h4⟩, h5⟩, h6⟩ := h
      subst h1
      have ih := ckL_ok Y es _ _ _ h6
      have hl : ∀ ns' : List Expr, ckL Y es sc fc ns' = true → ns' = [] → ∀ τ ds, evL Y.Z es τ = some ds → ds = [] := fun ns' h' e0 τ ds hd => by
        have l := evL_len hd
        have l2 := ckL_len Y es _ _ _ h'
        rw [e0] at l2
        rw [l2] at l
        exact List.eq_nil_of_length_eq_zero l
      exact both (by exact se_mth h2 h3 h4 (ckE_ok Y a _ _ _ h5).1 ih.2 ih.1 (hl _ h6)) rfl
    · cases h
  | .prp a f, sc, fc, e, h => by
    unfold ckE at h
    split at h
    · simp only [Bool.and_eq_true, decide_eq_true_eq] at h
      obtain ⟨⟨h1, h2⟩, h3⟩ := h
      subst h1
      exact both (by exact se_prp h2 (ckE_ok Y a _ _ _ h3).1) rfl
    · cases h
  | .join a b, sc, fc, e, h => by
    unfold ckE at h
    split at h
    · simp only [Bool.and_eq_true, decide_eq_true_eq] at h
      obtain ⟨⟨⟨⟨⟨h1, h2⟩, h3⟩, h4⟩, h5⟩, h6⟩ := h
      subst h1
      exact both (by exact se_join h2 h3 h4 (ckE_ok Y a _ _ _ h5).1 (ckE_ok Y b _ _ _ h6).1) rfl
    · cases h
  | .sidx _ _, sc, fc, e, h => by unfold ckE at h; cases h
  | .same x y, sc, fc, e, h => by
    unfold ckE at h
    split at h
    · simp only [Bool.and_eq_true] at h
      obtain ⟨⟨h1, h2⟩, h3⟩ := h
      have i1 := (ckE_ok Y x _ _ _ h2).1
      have i2 := (ckE_ok Y y _ _ _ h3).1
      refine ⟨by exact se_same i1 i2 h1, fun _ => (st_same i1 i2 h1).imp fun τ b hb => ?_⟩
      unfold evE at hb
      exact hb
    · cases h
  | .u1 o x, sc, fc, e, h => by
    unfold ckE at h
    split at h
    · split at h
      · simp only [Bool.and_eq_true, decide_eq_true_eq] at h
        obtain ⟨⟨⟨h1, h2⟩, h3⟩, h4⟩ := h
        subst h1
        exact both (by exact se_upper h2 h3 (ckE_ok Y x _ _ _ h4).1) rfl
      · cases h
    · split at h
      · exact both (by exact se_rev (ckE_ok Y x _ _ _ h).1) rfl
      · cases h
    · split at h
      · simp only [Bool.and_eq_true, decide_eq_true_eq] at h
        obtain ⟨⟨⟨⟨⟨⟨⟨h1, h2⟩, h3⟩, h4⟩, h5⟩, h6⟩, h7⟩, h8⟩ := h
        subst h1
        subst h2
        exact both (by exact se_sset h3 h4 (glB_ok h5) (glB_ok h6) h7 (ckE_ok Y x _ _ _ h8).1) rfl
      · cases h
  | .dget a b, sc, fc, e, h => by
    unfold ckE at h
    split at h
    · simp only [Bool.and_eq_true, decide_eq_true_eq] at h
      obtain ⟨⟨⟨⟨⟨h1, h2⟩, h3⟩, h4⟩, h5⟩, h6⟩ := h
      subst h1
      exact both (by exact se_dget h2 h3 h4 (ckE_ok Y a _ _ _ h5).1 (ckE_ok Y b _ _ _ h6).1) rfl
    · cases h
  | .ino neg a i, sc, fc, e, h => by
    unfold ckE at h
    split at h
    · simp only [Bool.and_eq_true, decide_eq_true_eq] at h
      obtain ⟨⟨⟨⟨h1, h2⟩, h3⟩, h4⟩, h5⟩ := h
      have ih := (ckE_ok Y a _ _ _ h5).1
      cases neg with
      | false =>
        subst h1
        exact ⟨by exact se_ino h2 (visB_ok h3) (nmB_ok h4).1 (nmB_ok h4).2 ih, fun _ => by exact st_ino h2 (visB_ok h3) (nmB_ok h4).1 (nmB_ok h4).2 ih⟩
      | true =>
        subst h1
        exact ⟨by exact se_nino h2 (visB_ok h3) (nmB_ok h4).1 (nmB_ok h4).2 ih, fun _ => by exact st_nino h2 (visB_ok h3) (nmB_ok h4).1 (nmB_ok h4).2 ih⟩
    · cases h
  | .seq _, sc, fc, e, h => by unfold ckE at h; cases h
  | .r1 _, sc, fc, e, h => by unfold ckE at h; cases h
  | .r2 _ _, sc, fc, e, h => by unfold ckE at h; cases h
  | .enum _, sc, fc, e, h => by unfold ckE at h; cases h
  | .zip _ _, sc, fc, e, h => by unfold ckE at h; cases h
theorem ckBa_ok (Y : Stat) : ∀ (ir : E) (sc : Scope) (fc : Str → Bool) (es : List Expr), ckB Y true ir sc fc es = true → (∀ pos, SE Y sc fc (.BoolOp .And es pos) (evE Y.Z ir)) ∧ (∀ pos, SW Y sc fc (.BoolOp .And es pos) (fun τ => (evE Y.Z ir τ).bind truth))
  | .last x, sc, fc, es, h => by
    unfold ckB at h
    split at h
    · simp only [Bool.and_eq_true] at h
      have ih := ckE_ok Y x _ _ _ h.2
      exact ⟨fun pos => by exact se_one ih.1, fun pos => by exact sw_and1 (ih.2 h.1)⟩
    · cases h
  | .and x y, sc, fc, es, h => by
    unfold ckB at h
    split at h
    · simp only [Bool.and_eq_true] at h
      have i1 := ckE_ok Y x _ _ _ h.1.2
      have i2 := ckBa_ok Y y _ _ _ h.2
      refine ⟨fun pos => by exact se_and i1.1 (i2.1 _), fun pos => ?_⟩
      have := sw_and (pos := pos) (i1.2 h.1.1.2) (i2.2 pos)
      exact ⟨fun X ok H0 G0 G W H τ σ b w s hg Q q => this.run X ok H0 G0 G W H τ σ b w s (by unfold evE at hg; exact and_imp hg) Q q⟩
    · cases h
  | .or x y, sc, fc, es, h => by
    unfold ckB at h
    split at h
    · simp at h
    · cases h
  | .nil, sc, fc, es, h => by unfold ckB at h; cases h
  | .c _, sc, fc, es, h => by unfold ckB at h; cases h
  | .v _, sc, fc, es, h => by unfold ckB at h; cases h
  | .g _, sc, fc, es, h => by unfold ckB at h; cases h
  | .bin _ _ _, sc, fc, es, h => by unfold ckB at h; cases h
  | .neg _, sc, fc, es, h => by unfold ckB at h; cases h
  | .not _, sc, fc, es, h => by unfold ckB at h; cases h
  | .cmp _ _ _, sc, fc, es, h => by unfold ckB at h; cases h
  | .chain _ _ _ _ _, sc, fc, es, h => by unfold ckB at h; cases h
  | .ite _ _ _, sc, fc, es, h => by unfold ckB at h; cases h
  | .tup _, sc, fc, es, h => by unfold ckB at h; cases h
  | .lst _, sc, fc, es, h => by unfold ckB at h; cases h
  | .dct _, sc, fc, es, h => by unfold ckB at h; cases h
  | .ix _ _, sc, fc, es, h => by unfold ckB at h; cases h
  | .sl _ _ _, sc, fc, es, h => by unfold ckB at h; cases h
  | .call _ _, sc, fc, es, h => by unfold ckB at h; cases h
  | .blt _ _, sc, fc, es, h => by unfold ckB at h; cases h
  | .isi _ _ _, sc, fc, es, h => by unfold ckB at h; cases h
  | .ixo _ _, sc, fc, es, h => by unfold ckB at h; cases h
  | .leno _, sc, fc, es, h => by unfold ckB at h; cases h
  | .lc _ _ _ _ _, sc, fc, es, h => by unfold ckB at h; cases h
  | .callK _ _ _ _, sc, fc, es, h => by unfold ckB at h; cases h
  | .mk _ _, sc, fc, es, h => by unfold ckB at h; cases h
  | .fld _ _, sc, fc, es, h => by unfold ckB at h; cases h
  | .mth _ _ _, sc, fc, es, h => by unfold ckB at h; cases h
  | .prp _ _, sc, fc, es, h => by unfold ckB at h; cases h
  | .join _ _, sc, fc, es, h => by unfold ckB at h; cases h
  | .sidx _ _, sc, fc, es, h => by unfold ckB at h; cases h
  | .same _ _, sc, fc, es, h => by unfold ckB at h; cases h
  | .u1 _ _, sc, fc, es, h => by unfold ckB at h; cases h
  | .dget _ _, sc, fc, es, h => by unfold ckB at h; cases h
  | .ino _ _ _, sc, fc, es, h => by unfold ckB at h; cases h
  | .seq _, sc, fc, es, h => by unfold ckB at h; cases h
  | .r1 _, sc, fc, es, h => by unfold ckB at h; cases h
  | .r2 _ _, sc, fc, es, h => by unfold ckB at h; cases h
  | .enum _, sc, fc, es, h => by unfold ckB at h; cases h
  | .zip _ _, sc, fc, es, h => by unfold ckB at h; cases h
theorem ckBo_ok (Y : Stat) : ∀ (ir : E) (sc : Scope) (fc : Str → Bool) (es : List Expr), ckB Y false ir sc fc es = true → (∀ pos, SE Y sc fc (.BoolOp .Or es pos) (evE Y.Z ir)) ∧ (∀ pos, SW Y sc fc (.BoolOp .Or es pos) (fun τ => (evE Y.Z ir τ).bind truth))
  | .last x, sc, fc, es, h => by
    unfold ckB at h
    split at h
    · simp only [Bool.and_eq_true] at h
      have ih := ckE_ok Y x _ _ _ h.2
      exact ⟨fun pos => by exact se_one ih.1, fun pos => by exact sw_or1 (ih.2 h.1)⟩
    · cases h
  | .or x y, sc, fc, es, h => by
    unfold ckB at h
    split at h
    · simp only [Bool.and_eq_true] at h
      have i1 := ckE_ok Y x _ _ _ h.1.2
      have i2 := ckBo_ok Y y _ _ _ h.2
      refine ⟨fun pos => by exact se_or i1.1 (i2.1 _), fun pos => ?_⟩
      have := sw_or (pos := pos) (i1.2 h.1.1.2) (i2.2 pos)
      exact ⟨fun X ok H0 G0 G W H τ σ b w s hg Q q => this.run X ok H0 G0 G W H τ σ b w s (by unfold evE at hg; exact or_imp hg) Q q⟩
    · cases h
  | .and x y, sc, fc, es, h => by
    unfold ckB at h
    split at h
    · simp at h
    · cases h
  | .nil, sc, fc, es, h => by unfold ckB at h; cases h
  | .c _, sc, fc, es, h => by unfold ckB at h; cases h
  | .v _, sc, fc, es, h => by unfold ckB at h; cases h
  | .g _, sc, fc, es, h => by unfold ckB at h; cases h
  | .bin _ _ _, sc, fc, es, h => by unfold ckB at h; cases h
  | .neg _, sc, fc, es, h => by unfold ckB at h; cases h
  | .not _, sc, fc, es, h => by unfold ckB at h; cases h
  | .cmp _ _ _, sc, fc, es, h => by unfold ckB at h; cases h
  | .chain _ _ _ _ _, sc, fc, es, h => by unfold ckB at h; cases h
  | .ite _ _ _, sc, fc, es, h => by unfold ckB at h; cases h
  | .tup _, sc, fc, es, h => by unfold ckB at h; cases h
  | .lst _, sc, fc, es, h => by unfold ckB at h; cases h
  | .dct _, sc, fc, es, h => by unfold ckB at h; cases h
  | .ix _ _, sc, fc, es, h => by unfold ckB at h; cases h
  | .sl _ _ _, sc, fc, es, h => by unfold ckB at h; cases h
  | .call _ _, sc, fc, es, h => by unfold ckB at h; cases h
  | .blt _ _, sc, fc, es, h => by unfold ckB at h; cases h
  | .isi _ _ _, sc, fc, es, h => by unfold ckB at h; cases h
  | .ixo _ _, sc, fc, es, h => by unfold ckB at h; cases h
  | .leno _, sc, fc, es, h => by unfold ckB at h; cases h
  | .lc _ _ _ _ _, sc, fc, es, h => by unfold ckB at h; cases h
  | .callK _ _ _ _, sc, fc, es, h => by unfold ckB at h; cases h
  | .mk _ _, sc, fc, es, h => by unfold ckB at h; cases h
  | .fld _ _, sc, fc, es, h => by unfold ckB at h; cases h
  | .mth _ _ _, sc, fc, es, h => by unfold ckB at h; cases h
  | .prp _ _, sc, fc, es, h => by unfold ckB at h; cases h
  | .join _ _, sc, fc, es, h => by unfold ckB at h; cases h
  | .sidx _ _, sc, fc, es, h => by unfold ckB at h; cases h
  | .same _ _, sc, fc, es, h => by unfold ckB at h; cases h
  | .u1 _ _, sc, fc, es, h => by unfold ckB at h; cases h
  | .dget _ _, sc, fc, es, h => by unfold ckB at h; cases h
  | .ino _ _ _, sc, fc, es, h => by unfold ckB at h; cases h
  | .seq _, sc, fc, es, h => by unfold ckB at h; cases h
  | .r1 _, sc, fc, es, h => by unfold ckB at h; cases h
  | .r2 _ _, sc, fc, es, h => by unfold ckB at h; cases h
  | .enum _, sc, fc, es, h => by unfold ckB at h; cases h
  | .zip _ _, sc, fc, es, h => by unfold ckB at h; cases h
theorem ckP_ok (Y : Stat) : ∀ (ir : E) (sc : Scope) (fc : Str → Bool) (o : Option Expr), ckP Y ir sc fc o = true → SO Y sc fc o (evP Y.Z ir)
  | .nil, sc, fc, o, h => by
    unfold ckP at h
    cases o with
    | none => exact so_none
    | some n => cases h
  | .last x, sc, fc, o, h => by
    unfold ckP at h
    cases o with
    | none => cases h
    | some n => exact so_some (ckE_ok Y x _ _ _ h).1
  | .c _, sc, fc, o, h => by unfold ckP at h; cases h
  | .v _, sc, fc, o, h => by unfold ckP at h; cases h
  | .g _, sc, fc, o, h => by unfold ckP at h; cases h
  | .bin _ _ _, sc, fc, o, h => by unfold ckP at h; cases h
  | .neg _, sc, fc, o, h => by unfold ckP at h; cases h
  | .not _, sc, fc, o, h => by unfold ckP at h; cases h
  | .and _ _, sc, fc, o, h => by unfold ckP at h; cases h
  | .or _ _, sc, fc, o, h => by unfold ckP at h; cases h
  | .cmp _ _ _, sc, fc, o, h => by unfold ckP at h; cases h
  | .chain _ _ _ _ _, sc, fc, o, h => by unfold ckP at h; cases h
  | .ite _ _ _, sc, fc, o, h => by unfold ckP at h; cases h
  | .tup _, sc, fc, o, h => by unfold ckP at h; cases h
  | .lst _, sc, fc, o, h => by unfold ckP at h; cases h
  | .dct _, sc, fc, o, h => by unfold ckP at h; cases h
  | .ix _ _, sc, fc, o, h => by unfold ckP at h; cases h
  | .sl _ _ _, sc, fc, o, h => by unfold ckP at h; cases h
  | .call _ _, sc, fc, o, h => by unfold ckP at h; cases h
  | .blt _ _, sc, fc, o, h => by unfold ckP at h; cases h
  | .isi _ _ _, sc, fc, o, h => by unfold ckP at h; cases h
  | .ixo _ _, sc, fc, o, h => by unfold ckP at h; cases h
  | .leno _, sc, fc, o, h => by unfold ckP at h; cases h
  | .lc _ _ _ _ _, sc, fc, o, h => by unfold ckP at h; cases h
  | .callK _ _ _ _, sc, fc, o, h => by unfold ckP at h; cases h
  | .mk _ _, sc, fc, o, h => by unfold ckP at h; cases h
  | .fld _ _, sc, fc, o, h => by unfold ckP at h; cases h
  | .mth _ _ _, sc, fc, o, h => by unfold ckP at h; cases h
  | .prp _ _, sc, fc, o, h => by unfold ckP at h; cases h
  | .join _ _, sc, fc, o, h => by unfold ckP at h; cases h
  | .sidx _ _, sc, fc, o, h => by unfold ckP at h; cases h
  | .same _ _, sc, fc, o, h => by unfold ckP at h; cases h
  | .u1 _ _, sc, fc, o, h => by unfold ckP at h; cases h
  | .dget _ _, sc, fc, o, h => by unfold ckP at h; cases h
  | .ino _ _ _, sc, fc, o, h => by unfold ckP at h; cases h
  | .seq _, sc, fc, o, h => by unfold ckP at h; cases h
  | .r1 _, sc, fc, o, h => by unfold ckP at h; cases h
  | .r2 _ _, sc, fc, o, h => by unfold ckP at h; cases h
  | .enum _, sc, fc, o, h => by unfold ckP at h; cases h
  | .zip _ _, sc, fc, o, h => by unfold ckP at h; cases h
theorem ckI_ok (Y : Stat) : ∀ (ir : E) (sc : Scope) (fc : Str → Bool) (tg e : Expr), ckI Y ir sc fc tg e = true → SI Y sc fc tg e (evI Y.Z ir)
  | .seq x, sc, fc, tg, e, h => by
    unfold ckI at h
    exact si_seq (ckE_ok Y x _ _ _ h).1
  | .r1 x, sc, fc, tg, e, h => by
    unfold ckI at h
    split at h
    · simp only [Bool.and_eq_true, decide_eq_true_eq] at h
      obtain ⟨⟨⟨⟨h0, h1⟩, h2⟩, h3⟩, h4⟩ := h
      subst h0
      exact si_r1 (glB_ok h2) (memS_ok h1) h3 (ckE_ok Y x _ _ _ h4).1
    · cases h
  | .r2 x y, sc, fc, tg, e, h => by
    unfold ckI at h
    split at h
    · simp only [Bool.and_eq_true, decide_eq_true_eq] at h
      obtain ⟨⟨⟨⟨⟨⟨h0, h1⟩, h2⟩, h3⟩, h4⟩, h5⟩, h6⟩ := h
      subst h0
      exact si_r2 (glB_ok h2) (memS_ok h1) h3 h4 (ckE_ok Y x _ _ _ h5).1 (ckE_ok Y y _ _ _ h6).1
    · cases h
  | .enum x, sc, fc, tg, e, h => by
    unfold ckI at h
    split at h
    · simp only [Bool.and_eq_true, decide_eq_true_eq] at h
      obtain ⟨⟨⟨⟨⟨h9, h0⟩, h1⟩, h2⟩, h3⟩, h4⟩ := h
      subst h0
      cases tg <;> simp only [isTupE] at h9 <;> try cases h9
      exact si_enum (glB_ok h2) (memS_ok h1) h3 (ckE_ok Y x _ _ _ h4).1
    · cases h
  | .zip x y, sc, fc, tg, e, h => by
    unfold ckI at h
    split at h
    · simp only [Bool.and_eq_true, decide_eq_true_eq] at h
      obtain ⟨⟨⟨⟨⟨⟨⟨h9, h0⟩, h1⟩, h2⟩, h3⟩, h4⟩, h5⟩, h6⟩ := h
      subst h0
      cases tg <;> simp only [isTupE] at h9 <;> try cases h9
      exact si_zip (glB_ok h2) (memS_ok h1) h3 h4 (ckE_ok Y x _ _ _ h5).1 (ckE_ok Y y _ _ _ h6).1
    · cases h
  | .callK _ _ _ _, sc, fc, tg, es, h => by unfold ckI at h; cases h
  | .mk _ _, sc, fc, tg, es, h => by unfold ckI at h; cases h
  | .fld _ _, sc, fc, tg, es, h => by unfold ckI at h; cases h
  | .mth _ _ _, sc, fc, tg, es, h => by unfold ckI at h; cases h
  | .prp _ _, sc, fc, tg, es, h => by unfold ckI at h; cases h
  | .join _ _, sc, fc, tg, es, h => by unfold ckI at h; cases h
  | .sidx _ _, sc, fc, tg, es, h => by unfold ckI at h; cases h
  | .same _ _, sc, fc, tg, es, h => by unfold ckI at h; cases h
  | .u1 _ _, sc, fc, tg, es, h => by unfold ckI at h; cases h
  | .dget _ _, sc, fc, tg, es, h => by unfold ckI at h; cases h
  | .ino _ _ _, sc, fc, tg, es, h => by unfold ckI at h; cases h
  | .nil, sc, fc, tg, es, h => by unfold ckI at h; cases h
  | .c _, sc, fc, tg, es, h => by unfold ckI at h; cases h
  | .v _, sc, fc, tg, es, h => by unfold ckI at h; cases h
  | .g _, sc, fc, tg, es, h => by unfold ckI at h; cases h
  | .bin _ _ _, sc, fc, tg, es, h => by unfold ckI at h; cases h
  | .neg _, sc, fc, tg, es, h => by unfold ckI at h; cases h
  | .not _, sc, fc, tg, es, h => by unfold ckI at h; cases h
  | .and _ _, sc, fc, tg, es, h => by unfold ckI at h; cases h
  | .or _ _, sc, fc, tg, es, h => by unfold ckI at h; cases h
  | .last _, sc, fc, tg, es, h => by unfold ckI at h; cases h
  | .cmp _ _ _, sc, fc, tg, es, h => by unfold ckI at h; cases h
  | .chain _ _ _ _ _, sc, fc, tg, es, h => by unfold ckI at h; cases h
  | .ite _ _ _, sc, fc, tg, es, h => by unfold ckI at h; cases h
  | .tup _, sc, fc, tg, es, h => by unfold ckI at h; cases h
  | .lst _, sc, fc, tg, es, h => by unfold ckI at h; cases h
  | .dct _, sc, fc, tg, es, h => by unfold ckI at h; cases h
  | .ix _ _, sc, fc, tg, es, h => by unfold ckI at h; cases h
  | .sl _ _ _, sc, fc, tg, es, h => by unfold ckI at h; cases h
  | .call _ _, sc, fc, tg, es, h => by unfold ckI at h; cases h
  | .blt _ _, sc, fc, tg, es, h => by unfold ckI at h; cases h
  | .isi _ _ _, sc, fc, tg, es, h => by unfold ckI at h; cases h
  | .ixo _ _, sc, fc, tg, es, h => by unfold ckI at h; cases h
  | .leno _, sc, fc, tg, es, h => by unfold ckI at h; cases h
  | .lc _ _ _ _ _, sc, fc, tg, es, h => by unfold ckI at h; cases h
theorem ckL_ok (Y : Stat) : ∀ (xs : List E) (sc : Scope) (fc : Str → Bool) (ns : List Expr), ckL Y xs sc fc ns = true → SA Y sc fc ns (evL Y.Z xs) ∧ ns.all notStar = true
  | [], sc, fc, ns, h => by
    unfold ckL at h
    have : ns = [] := by simpa using h
    subst this
    exact ⟨by exact sa_nil, rfl⟩
  | x :: xs, sc, fc, ns, h => by
    unfold ckL at h
    split at h
    · simp only [Bool.and_eq_true] at h
      obtain ⟨⟨h1, h2⟩, h3⟩ := h
      have ih := ckL_ok Y xs _ _ _ h3
      exact ⟨by exact sa_cons h1 (ckE_ok Y x _ _ _ h2).1 ih.1, by simp [h1, ih.2]⟩
    · cases h
theorem ckK_ok (Y : Stat) : ∀ (xs : List E) (sc : Scope) (fc : Str → Bool) (ns : List Keyword), ckK Y xs sc fc ns = true → SK Y sc fc ns (evL Y.Z xs) ∧ xs.length = ns.length
  | [], sc, fc, ns, h => by
    unfold ckK at h
    have : ns = [] := by simpa using h
    subst this
    exact ⟨by exact sk_nil, rfl⟩
  | x :: xs, sc, fc, ns, h => by
    unfold ckK at h
    split at h
    · rename_i n r
      simp only [Bool.and_eq_true] at h
      have ih := ckK_ok Y xs _ _ _ h.2
      obtain ⟨nm, v, p⟩ := n
      exact ⟨by exact sk_cons (ckE_ok Y x _ _ _ h.1).1 ih.1, by simp [ih.2]⟩
    · cases h
theorem ckD_ok (Y : Stat) : ∀ (xs : List E) (sc : Scope) (fc : Str → Bool) (pos : Pos) (kn : List (Option Expr)) (ns : List Expr), ckD Y xs sc fc kn ns = true → SD Y sc fc pos kn ns (evL Y.Z xs)
  | [], sc, fc, pos, kn, ns, h => by
    unfold ckD at h
    simp only [Bool.and_eq_true, List.isEmpty_iff] at h
    obtain ⟨h1, h2⟩ := h
    subst h1 h2
    exact sd_nil
  | [x], sc, fc, pos, kn, ns, h => by unfold ckD at h; cases h
  | x :: y :: xs, sc, fc, pos, kn, ns, h => by
    unfold ckD at h
    split at h
    · simp only [Bool.and_eq_true] at h
      obtain ⟨⟨h1, h2⟩, h3⟩ := h
      exact sd_cons (ckE_ok Y x _ _ _ h1).1 (ckE_ok Y y _ _ _ h2).1 (ckD_ok Y xs _ _ pos _ _ h3)
    · cases h
end
end Pv

set_option Elab.async false
set_option linter.all false
set_option maxRecDepth 100000
set_option maxHeartbeats 4000000

namespace Pv
open PySem PySem.Spec L2

theorem lc_parts {Y : Stat} {own : List (Str × Nat)} {t : T} {it c el : E} {sc : Scope} {fc : Str → Bool} {elt : Expr} {gs : List Comprehension} {scope : Scope} {p : Pos} (h : ckE Y (.lc own t it c el) sc fc (.ListComp elt gs scope p) = true) :
    ∃ tg iter ifs, gs = [⟨tg, iter, ifs, 0⟩] ∧ SI Y sc fc tg iter (evI Y.Z it) ∧ notSet iter = true ∧ blkC Y.N sc scope own = true ∧ SG Y (relS scope sc) (fun x => scope.names.lookup x == some .cell) tg t ∧
      SCs Y (relS scope sc) (fun x => scope.names.lookup x == some .cell) ifs (fun τ => (evE Y.Z c τ).bind truth) ∧ SE Y (relS scope sc) (fun x => scope.names.lookup x == some .cell) elt (evE Y.Z el) ∧ ∀ i ∈ tixs t, i ∈ own.map (·.2) := by
  unfold ckE at h
  split at h
  · rename_i e1
    cases e1
    simp only [Bool.and_eq_true] at h
    obtain ⟨⟨⟨⟨⟨⟨h1, h2⟩, h3⟩, h4⟩, h5⟩, h6⟩, h7⟩ := h
    refine ⟨_, _, _, rfl, ckI_ok Y it _ _ _ _ h3, h1, h2, ckG_ok h4, ?_, (ckE_ok Y el _ _ _ h6).1, by simpa using h7⟩
    split at h5
    · split at h5
      · exact scs_nil
      · cases h5
    · simp only [Bool.and_eq_true] at h5
      exact scs_one ((ckE_ok Y c _ _ _ h5.2).2 h5.1)
    · cases h5
  · cases h
def isLcE : Expr → Bool
  | .ListComp .. => true
  | _ => false
def isLc : E → Bool
  | .lc .. => true
  | _ => false
def ckAsg (Y : Stat) (t : T) (e : E) (sc : Scope) (fc : Str → Bool) (st : Stmt) : Bool := match st with
  | .Assign [.Name x _] a _ => (match t with
    | .nm i => decide (Y.N[i]? = some x) && locB sc x && hfB sc fc x && ckE Y e sc fc a && (notComp a || (isLcE a && isLc e))
    | _ => false)
  | .Assign [.Tuple tgs _ _] a _ => (match t with
    | .tp is => ckGs Y sc fc is tgs && ckE Y e sc fc a && notComp a && notTup a
    | _ => false)
  | _ => false
mutual
def ckS (Y : Stat) : S → Scope → (Str → Bool) → Stmt → Bool
  | .asg t e, sc, fc, st => ckAsg Y t e sc fc st
  | .own i es, sc, fc, st => match st with
    | .Assign [.Name x _] (.List ns _) _ => decide (Y.N[i]? = some x) && locB sc x && hfB sc fc x && ckL Y es sc fc ns
    | _ => false
  | .frz _, _, _, _ => false
  | .app i e, sc, fc, st => match st with
    | .Expr (.Call (.Attribute (.Name x _) m ap) [a] [] p1) _ => decide (m = ("append" : Str)) && decide (Y.N[i]? = some x) && visB sc x && nmB x && notStar a && ckE Y e sc fc a && (ap.endLine == p1.line)
    | _ => false
  | .ret e, sc, fc, st => match st with
    | .Return (some a) _ => ckE Y e sc fc a
    | _ => false
  | .retN, _, _, st => match st with
    | .Return none _ => true
    | _ => false
  | .pass, _, _, st => match st with
    | .Pass _ => true
    | _ => false
  | .brk, _, _, st => match st with
    | .Break _ => true
    | _ => false
  | .cont, _, _, st => match st with
    | .Continue _ => true
    | _ => false
  | .ifs t a b, sc, fc, st => match st with
    | .If c x y _ => notIf c && ckE Y t sc fc c && ckSs Y a sc fc x && ckSs Y b sc fc y
    | _ => false
  | .for_ t it b, sc, fc, st => match st with
    | .For tg iter x [] _ => notSet iter && ckI Y it sc fc tg iter && ckG Y sc fc t tg && ckSs Y b sc fc x
    | _ => false
  | .whl _ t b, sc, fc, st => match st with
    | .While c x [] _ => notIf c && ckE Y t sc fc c && ckSs Y b sc fc x
    | _ => false
  | .never, _, _, _ => true
  | .newd i, sc, fc, st => match st with
    | .Assign [.Name x _] (.Dict [] [] _) _ => decide (Y.N[i]? = some x) && locB sc x && hfB sc fc x
    | _ => false
  | .put i k e, sc, fc, st => match st with
    | .Assign [.Subscript (.Name x _) b _] a _ => decide (Y.N[i]? = some x) && visB sc x && nmB x && notComp a && ckE Y e sc fc a && ckE Y k sc fc b
    | _ => false
  | .setf i f e, sc, fc, st => match st with
    | .Assign [.Attribute (.Name x _) g _] a _ => decide (g = f) && decide (Y.N[i]? = some x) && visB sc x && nmB x && notComp a && ckE Y e sc fc a
    | _ => false
  | .seti i k e, sc, fc, st => match st with
    | .Assign [.Subscript (.Name x _) b _] a _ => decide (Y.N[i]? = some x) && visB sc x && nmB x && notComp a && notTup a && notSlice b && ckE Y e sc fc a && ckE Y k sc fc b
    | _ => false
def ckSs (Y : Stat) : List S → Scope → (Str → Bool) → List Stmt → Bool
  | [], _, _, sts => sts.isEmpty
  | .frz _ :: r, sc, fc, sts => ckSs Y r sc fc sts
  | s :: r, sc, fc, sts => match sts with
    | st :: str => ckS Y s sc fc st && ckSs Y r sc fc str
    | [] => false
end
theorem ckAsg_ok {Y : Stat} {t : T} {e : E} {sc : Scope} {fc : Str → Bool} {st : Stmt} (h : ckAsg Y t e sc fc st = true) : SS Y sc fc st (evS Y.Z (.asg t e)) := by
  unfold ckAsg at h
  split at h
  · split at h
    · simp only [Bool.and_eq_true, Bool.or_eq_true, decide_eq_true_eq] at h
      obtain ⟨⟨⟨⟨h1, h2⟩, h3⟩, h4⟩, h5⟩ := h
      rcases h5 with h5 | ⟨h5, h6⟩
      · exact ss_asg h1 (locB_ok h2) h3 h5 (ckE_ok Y e _ _ _ h4).1
      · rename_i a _ _ _
        cases a <;> simp only [isLcE] at h5 <;> try cases h5
        cases e <;> simp only [isLc] at h6 <;> try cases h6
        obtain ⟨tg, iter, ifs, rfl, a1, a2, a3, a4, a5, a6, a7⟩ := lc_parts h4
        exact ss_lc h1 (locB_ok h2) h3 a1 a2 a3 a4 a5 a6 a7
    · cases h
  · split at h
    · simp only [Bool.and_eq_true] at h
      obtain ⟨⟨⟨h1, h2⟩, h3⟩, h4⟩ := h
      obtain ⟨a1, a2, a3⟩ := ckGs_ok h1
      exact ss_asgT (sg_tp a2 a3 a1) h3 h4 (ckE_ok Y e _ _ _ h2).1
    · cases h
  · cases h
mutual
theorem ckS_ok (Y : Stat) : ∀ (ir : S) (sc : Scope) (fc : Str → Bool) (st : Stmt), ckS Y ir sc fc st = true → SS Y sc fc st (evS Y.Z ir)
  | .asg t e, sc, fc, st, h => by
    unfold ckS at h
    exact ckAsg_ok h
  | .own i es, sc, fc, st, h => by
    unfold ckS at h
    split at h
    · simp only [Bool.and_eq_true, decide_eq_true_eq] at h
      obtain ⟨⟨⟨h1, h2⟩, h3⟩, h4⟩ := h
      exact ss_own h1 (locB_ok h2) h3 (ckL_ok Y es _ _ _ h4).1
    · cases h
  | .frz _, sc, fc, st, h => by unfold ckS at h; cases h
  | .app i e, sc, fc, st, h => by
    unfold ckS at h
    split at h
    · simp only [Bool.and_eq_true, decide_eq_true_eq] at h
      obtain ⟨⟨⟨⟨⟨⟨h0, h1⟩, h2⟩, h3⟩, h4⟩, h5⟩, h6⟩ := h
      subst h0
      exact ss_app h1 (visB_ok h2) (nmB_ok h3).1 (nmB_ok h3).2 h4 (ckE_ok Y e _ _ _ h5).1 h6
    · cases h
  | .ret e, sc, fc, st, h => by
    unfold ckS at h
    split at h
    · exact ss_ret (ckE_ok Y e _ _ _ h).1
    · cases h
  | .retN, sc, fc, st, h => by
    unfold ckS at h
    split at h
    · exact ss_retN
    · cases h
  | .pass, sc, fc, st, h => by
    unfold ckS at h
    split at h
    · exact ss_pass
    · cases h
  | .brk, sc, fc, st, h => by
    unfold ckS at h
    split at h
    · exact ss_brk
    · cases h
  | .cont, sc, fc, st, h => by
    unfold ckS at h
    split at h
    · exact ss_cont
    · cases h
  | .ifs t a b, sc, fc, st, h => by
    unfold ckS at h
    split at h
    · simp only [Bool.and_eq_true] at h
      obtain ⟨⟨⟨h1, h2⟩, h3⟩, h4⟩ := h
      exact ss_if ((ckE_ok Y t _ _ _ h2).2 h1) (ckSs_ok Y a _ _ _ h3) (ckSs_ok Y b _ _ _ h4)
    · cases h
  | .for_ t it b, sc, fc, st, h => by
    unfold ckS at h
    split at h
    · simp only [Bool.and_eq_true] at h
      obtain ⟨⟨⟨h1, h2⟩, h3⟩, h4⟩ := h
      exact ss_for (ckI_ok Y it _ _ _ _ h2) h1 (ckG_ok h3) (ckSs_ok Y b _ _ _ h4)
    · cases h
  | .whl n t b, sc, fc, st, h => by
    unfold ckS at h
    split at h
    · simp only [Bool.and_eq_true] at h
      obtain ⟨⟨h1, h2⟩, h3⟩ := h
      exact ss_whl ((ckE_ok Y t _ _ _ h2).2 h1) (ckSs_ok Y b _ _ _ h3)
    · cases h
  | .never, sc, fc, st, h => by exact ss_never
  | .newd i, sc, fc, st, h => by
    unfold ckS at h
    split at h
    · simp only [Bool.and_eq_true, decide_eq_true_eq] at h
      exact ss_newd h.1.1 (locB_ok h.1.2) h.2
    · cases h
  | .put i k e, sc, fc, st, h => by
    unfold ckS at h
    split at h
    · simp only [Bool.and_eq_true, decide_eq_true_eq] at h
      obtain ⟨⟨⟨⟨⟨h1, h2⟩, h3⟩, h4⟩, h5⟩, h6⟩ := h
      exact ss_put h1 (visB_ok h2) (nmB_ok h3).1 (nmB_ok h3).2 h4 (ckE_ok Y e _ _ _ h5).1 (ckE_ok Y k _ _ _ h6).1
    · cases h
  | .setf i f e, sc, fc, st, h => by
    unfold ckS at h
    split at h
    · simp only [Bool.and_eq_true, decide_eq_true_eq] at h
      obtain ⟨⟨⟨⟨⟨h0, h1⟩, h2⟩, h3⟩, h4⟩, h5⟩ := h
      subst h0
      exact ss_setf h1 (visB_ok h2) (nmB_ok h3).1 (nmB_ok h3).2 h4 (ckE_ok Y e _ _ _ h5).1
    · cases h
  | .seti i k e, sc, fc, st, h => by
    unfold ckS at h
    split at h
    · simp only [Bool.and_eq_true, decide_eq_true_eq] at h
      obtain ⟨⟨⟨⟨⟨⟨⟨h1, h2⟩, h3⟩, h4⟩, h5⟩, h6⟩, h7⟩, h8⟩ := h
      exact ss_seti h1 (visB_ok h2) (nmB_ok h3).1 (nmB_ok h3).2 h4 h5 h6 (ckE_ok Y e _ _ _ h7).1 (ckE_ok Y k _ _ _ h8).1
    · cases h
theorem ckSs_ok (Y : Stat) : ∀ (ir : List S) (sc : Scope) (fc : Str → Bool) (sts : List Stmt), ckSs Y ir sc fc sts = true → SSs Y sc fc sts (evSs Y.Z ir)
  | [], sc, fc, sts, h => by
    unfold ckSs at h
    have : sts = [] := by simpa using h
    subst this
    exact sss_nil
  | s :: r, sc, fc, sts, h => by
    unfold ckSs at h
    split at h
    · cases ‹_ = []›
    · rename_i e1
      cases e1
      exact sss_frz (ckSs_ok Y r _ _ _ h)
    · rename_i hne e1
      cases e1
      split at h
      · simp only [Bool.and_eq_true] at h
        exact sss_cons (ckS_ok Y s _ _ _ h.1) (ckSs_ok Y r _ _ _ h.2)
      · cases h
end

/-! ### a def -/
/-- a docstring ahead is left out -/
theorem start_ok {K : PySem.W.Frag} {G : Hp} {m : Nat} {ds : List D} {vs : List V} (N : List Str) (hm : N.length = m) (h : DenL K G ds vs) (hl : ds.length ≤ m) : SlOk K G noH (startD m ds) (L2.start N vs) := by
  have hlen := h.length
  refine ⟨?_, fun i d hi => ?_, fun i es hi => ?_, fun i j es fs a hi hj _ _ => ?_⟩
  · simp [startD, L2.start, hm, ← hlen]
  · unfold startD at hi
    unfold L2.start
    by_cases hlt : i < ds.length
    · rw [List.getElem?_append_left (by simpa using hlt), List.getElem?_map] at hi
      obtain ⟨d', hd, e⟩ := mpd hi
      cases e
      obtain ⟨v, hv, dv⟩ := h.get hd
      exact ⟨v, by rw [List.getElem?_append_left (by simpa using (by omega : i < vs.length)), List.getElem?_map, hv]; rfl, dv⟩
    · rw [List.getElem?_append_right (by simpa using hlt), List.getElem?_replicate] at hi
      split at hi <;> cases hi
  · unfold startD at hi
    by_cases hlt : i < ds.length
    · rw [List.getElem?_append_left (by simpa using hlt), List.getElem?_map] at hi
      obtain ⟨d', hd, e⟩ := mpd hi
      cases e
    · rw [List.getElem?_append_right (by simpa using hlt), List.getElem?_replicate] at hi
      split at hi <;> cases hi
  · unfold startD at hi
    by_cases hlt : i < ds.length
    · rw [List.getElem?_append_left (by simpa using hlt), List.getElem?_map] at hi
      obtain ⟨d', hd, e⟩ := mpd hi
      cases e
    · rw [List.getElem?_append_right (by simpa using hlt), List.getElem?_replicate] at hi
      split at hi <;> cases hi
/-- what stands fast outside the def: the same for all contexts of a law -/
structure Env1 (P : Program) (w : World) (K : PySem.W.Frag) (mg : Str → Option Value) (base : Heap) (Y : Stat) : Prop where
  fns : ∀ i x, (i, x) ∈ Y.fns → FnAt P w K mg base Y.lv x (Y.Z.F i)
  cns : ∀ k x, (k, x) ∈ Y.cns → ∃ u v d, mg x = some u ∧ RelV v u ∧ Y.Z.C k = some d ∧ ∀ G, Den K G d v
  bl : ∀ x ∈ Y.bl, mg x = none
  gcd : Y.gcd = true → mg "gcd" = some (.builtin "math.gcd")
  fld : ∀ c f, (c, f) ∈ Y.Z.L → FdAt K c f
  mth : ∀ c m k, findM Y.Z.M c m = some k → MtAt P w K mg base Y.lv c m (Y.Z.F k)
  prp : ∀ c m k, findM Y.Z.P c m = some k → PrAt P w K mg base Y.lv c m (Y.Z.F k)
  mks : ∀ k c, (k, c) ∈ Y.mks → MkAt P w K mg base Y.lv c (Y.Z.F k)
  cl : ∀ c ∈ Y.Z.K, ClAt K c
  kws : ∀ k x ks perm, (k, x, ks, perm) ∈ Y.kws → KwAt P w K mg base Y.lv x ks perm (Y.Z.F k)
theorem evF_len {Z : Sm} {b : List S} {k m : Nat} {ds : List D} {d : D} (h : evF Z b k m ds = some d) : ds.length = k := by
  unfold evF at h
  split at h
  · assumption
  · cases h
/-- THE RULE for a def: its text is checked, its promise is its value by the small language -/
theorem fn_ok {P : Program} {w : World} {K : PySem.W.Frag} {mg : Str → Option Value} {base : Heap} {Y : Stat} {x qual : Str} {st : Stmt} {f : Addr} {fd : FuncData} {ps : List Str} {b : List S} {F : List D → Option D}
    (Fn : Fun K x qual st f fd) (S : FnScope Y.N ps (defScope st)) (En : Env1 P w K mg base Y) (hc : ckSs Y b (defScope st) (fun _ => true) (defBody st) = true) (hle : ps.length ≤ Y.N.length)
    (hF : ∀ ds d, F ds = some d → evF Y.Z b ps.length Y.N.length ds = some d) : FnOk P w K mg base CX0 (Y.lv + 1) f fd ps (spF K F) := by
  refine Fn.ok S (fun vs H Q E h => ?_) (fun cdv A outer s H vs Q E hr h => ?_)
  · obtain ⟨ds, d, G, _, h1, h2, _⟩ := h
    rw [← h1.length]
    exact evF_len (hF ds d h2)
  · obtain ⟨ds, d, G, hs, h1, h2, q⟩ := h
    have hv := hF ds d h2
    have hl := evF_len hv
    unfold evF at hv
    rw [if_pos hl] at hv
    obtain ⟨o, ho, he⟩ := bnd hv
    have ok : XOk Y (defScope st) (fun _ => true) (cxOf CX0 P w K mg base Y.N qual (defScope st) f cdv A outer s H E).nox :=
      ⟨rfl, S.nd, rfl, rfl, hr, rfl, fun _ _ => rfl, En.fns, En.cns, En.bl, En.gcd, En.fld, En.mth, En.prp, En.mks, En.cl, En.kws⟩
    have run := (ckSs_ok Y b _ _ _ hc).run _ ok H G G noH H _ _ o (Wd.start hs) (start_ok Y.N rfl h1 (by omega)) ho { nx := fun _ H' => Q .non H', rt := Q }
    refine ⟨_, pss_tu, run ?_⟩
    cases o with
    | nx τ =>
      cases he
      exact fun σ G' W' H' e' w' s' => q .non G' H' (fun a o e => (w'.h0 a o e).1) (fun a o e => (w'.hg a o (hs a o e)).trans e) w'.gh w'.hg (by simp only [Den])
    | rt d' =>
      cases he
      exact fun v G' W' H' e' w' dv => q v G' H' (fun a o e => (w'.h0 a o e).1) (fun a o e => (w'.hg a o (hs a o e)).trans e) w'.gh w'.hg dv
    | bk τ => cases he
    | ct τ => cases he
/-- an __init__: the text is checked, the instance made is its value -/
theorem init_ok {P : Program} {w : World} {K : PySem.W.Frag} {mg : Str → Option Value} {base : Heap} {Y : Stat} {x qual c : Str} {st : Stmt} {f : Addr} {fd : FuncData} {ps : List Str} {b : List S} {F : List D → Option D}
    (Fn : Fun K x qual st f fd) (S : FnScope Y.N ps (defScope st)) (En : Env1 P w K mg base Y) (hc : ckSs Y b (defScope st) (fun _ => true) (defBody st) = true) (hle : ps.length ≤ Y.N.length)
    (hF : ∀ ds d, F ds = some d → evI0 c Y.Z b ps.length Y.N.length ds = some d) : FnOk P w K mg base CX0 (Y.lv + 1) f fd ps (spI K c F) := by
  refine Fn.ok S (fun vs H Q E h => ?_) (fun cdv A outer s H vs Q E hr h => ?_)
  · obtain ⟨z, C, dx, us, ds, ns, fs, G, rfl, _, _, _, _, h1, h2, _⟩ := h
    rw [List.length_cons, ← h1.length]
    have := hF _ _ h2
    unfold evI0 at this
    split at this
    · assumption
    · cases this
  · obtain ⟨z, C, dx, us, ds, ns, fs, G, rfl, hz, hC, hs, hGz, h1, h2, q⟩ := h
    have hv := hF _ _ h2
    unfold evI0 at hv
    split at hv
    · rename_i hl
      obtain ⟨o, ho, he⟩ := bnd hv
      have ok : XOk Y (defScope st) (fun _ => true) (cxOf CX0 P w K mg base Y.N qual (defScope st) f cdv A outer s H E).nox :=
        ⟨rfl, S.nd, rfl, rfl, hr, rfl, fun _ _ => rfl, En.fns, En.cns, En.bl, En.gcd, En.fld, En.mth, En.prp, En.mks, En.cl, En.kws⟩
      have hN : 1 ≤ Y.N.length := by omega
      -- the world: all but the new instance is as it was
      have w0 : Wd (del H z) (upd G z (.own z)) G (upd noH z (.ins C dx [])) H := by
        refine ⟨hs, fun a u e => ?_, fun a C dx n e => ?_, fun a u e => ?_, fun a u e => ?_⟩
        · by_cases ha : a = z
          · subst ha
            rw [upd_same] at e
            cases e
            exact ⟨hz, hGz⟩
          · rw [upd_ne ha] at e; cases e
        · by_cases ha : a = z
          · subst ha
            exact ⟨_, upd_same⟩
          · rw [upd_ne ha] at e; cases e
        · have ha : a ≠ z := by
            intro ha
            subst ha
            rw [del_same] at e
            cases e
          rw [upd_ne ha]
        · have ha : a ≠ z := by
            intro ha
            subst ha
            rw [del_same] at e
            cases e
          rw [del_ne ha] at e
          exact ⟨e, by rw [upd_ne ha]; rfl⟩
      have s0 : SlOk K G (upd noH z (.ins C dx [])) (.o (.ins c [] []) :: startD (Y.N.length - 1) ds) (L2.start Y.N (.ref z :: us)) := by
        have s1 := start_ok (Y.N.drop 1) (m := Y.N.length - 1) (by simp) h1 (by omega)
        have e1 : L2.start Y.N (.ref z :: us) = some (.ref z) :: L2.start (Y.N.drop 1) us := by
          simp [L2.start]
          omega
        rw [e1]
        refine ⟨by simp [s1.len], fun i d hi => ?_, fun i d hi => ?_, fun i k d d' a hi hk ha hb => ?_⟩
        · cases i with
          | zero => cases hi
          | succ i => exact s1.val i d (by simpa using hi)
        · cases i with
          | zero =>
            cases hi
            refine ⟨z, _, rfl, upd_same, ?_⟩
            simp only [DenO]
            exact ⟨C, dx, [], rfl, hC, rfl, by simp [DenL]⟩
          | succ i =>
            obtain ⟨a, u, _, e, _⟩ := s1.own i d (by simpa using hi)
            cases e
        · cases i with
          | zero =>
            cases k with
            | zero => rfl
            | succ k =>
              obtain ⟨a, u, _, e, _⟩ := s1.own k _ (by simpa using hk)
              cases e
          | succ i =>
            obtain ⟨a, u, _, e, _⟩ := s1.own i _ (by simpa using hi)
            cases e
      have run := (ckSs_ok Y b _ _ _ hc).run _ ok (del H z) (upd G z (.own z)) G (upd noH z (.ins C dx [])) H _ _ o w0 s0 ho { nx := fun _ H' => Q .non H', rt := Q }
      refine ⟨_, pss_tu, run ?_⟩
      split at he
      · rename_i d' r
        cases he
        intro σ G' W' H' e' w' s'
        obtain ⟨a, ob, o1, o2, o3⟩ := s'.own 0 _ rfl
        have o3' := o3
        simp only [DenO] at o3
        obtain ⟨C', dx', nvs, rfl, _, _, _⟩ := o3
        have ez : a = z := by
          by_cases ha : a = z
          · exact ha
          · obtain ⟨b', hb'⟩ := w'.wi a _ _ _ o2
            rw [upd_ne ha] at hb'
            have hHa : del H z a = some (.own b') := by rw [del_ne ha]; exact hs _ _ hb'
            rw [(w'.h0 _ _ hHa).2] at o2
            cases o2
        subst ez
        have hG' := (w'.wh _ _ o2).2
        have old : ∀ b u, b ≠ a → H b = some u → H' b = some u ∧ G' b = G b := fun b u hb e => by
          have e0 : del H a b = some u := by rw [del_ne hb]; exact e
          exact ⟨(w'.h0 _ _ e0).1, by rw [w'.hg _ _ e0, upd_ne hb]⟩
        refine q _ (upd G' a _) H' (fun b u hb e => (old b u hb e).1) (w'.wh _ _ o2).1 (fun b u e => ?_) (w'.give o2).gh (fun b u hb e => ?_) upd_same (DenO.mono (sub_upd hG') _ o3')
        · have hb := ne_of_none e hGz
          rw [upd_ne hb, (old b u hb (hs _ _ e)).2]
          exact e
        · rw [upd_ne hb]
          exact (old b u hb e).2
      · cases he
    · cases hv
end Pv

set_option Elab.async false
set_option linter.all false
set_option maxRecDepth 100000
set_option maxHeartbeats 4000000

namespace Pv
open PySem L2

/-! ### reckoning (no lemma here is closed by rfl itself: the kernel is not to unfold what stands behind) -/
@[simp high] theorem bind_someX {α β : Type} (a : α) (f : α → Option β) : (some a).bind f = f a := id rfl
@[simp high] theorem map_someX {α β : Type} (a : α) (f : α → β) : (some a).map f = some (f a) := id rfl
@[simp high] theorem bind_noneX {α β : Type} (f : α → Option β) : (none : Option α).bind f = none := id rfl
@[simp high] theorem map_noneX {α β : Type} (f : α → β) : (none : Option α).map f = none := id rfl
section
variable (Z : Sm) (σ : List Sl)
@[simp] theorem evE_c (d : D) : evE Z (.c d) σ = some d := id rfl
@[simp] theorem evE_v (i : Nat) : evE Z (.v i) σ = getV σ i := id rfl
@[simp] theorem evE_g (k : Nat) : evE Z (.g k) σ = Z.C k := id rfl
@[simp] theorem evE_bin (o : BO) (a b : E) : evE Z (.bin o a b) σ = (evE Z a σ).bind fun x => (evE Z b σ).bind fun y => binD o x y := id rfl
@[simp] theorem evE_neg (a : E) : evE Z (.neg a) σ = (evE Z a σ).bind fun x => (intD x).map fun i => .int (-i) := id rfl
@[simp] theorem evE_not (a : E) : evE Z (.not a) σ = ((evE Z a σ).bind truth).map fun b => .bl (!b) := id rfl
@[simp] theorem evE_and (a b : E) : evE Z (.and a b) σ = ((evE Z a σ).bind blD).bind fun k => bif k then evE Z b σ else some (.bl false) := id rfl
@[simp] theorem evE_or (a b : E) : evE Z (.or a b) σ = ((evE Z a σ).bind blD).bind fun k => bif k then some (.bl true) else evE Z b σ := id rfl
@[simp] theorem evE_last (a : E) : evE Z (.last a) σ = evE Z a σ := id rfl
@[simp] theorem evE_cmp (o : CO) (a b : E) : evE Z (.cmp o a b) σ = (evE Z a σ).bind fun x => (evE Z b σ).bind fun y => (cmpX o x y).map .bl := id rfl
@[simp] theorem evE_chain (o p : CO) (a b c : E) : evE Z (.chain o p a b c) σ = (evE Z a σ).bind fun x => (evE Z b σ).bind fun y => (cmpD o x y).bind fun k => bif k then (evE Z c σ).bind fun z => (cmpD p y z).map .bl else some (.bl false) := id rfl
@[simp] theorem evE_ite (t a b : E) : evE Z (.ite t a b) σ = ((evE Z t σ).bind truth).bind fun k => bif k then evE Z a σ else evE Z b σ := id rfl
@[simp] theorem evE_tup (es : List E) : evE Z (.tup es) σ = (evL Z es σ).bind fun ds => if ds.length ≤ line then some (.tup ds) else none := id rfl
@[simp] theorem evE_lst (es : List E) : evE Z (.lst es) σ = (evL Z es σ).bind fun ds => if ds.length ≤ line then some (.lst ds) else none := id rfl
@[simp] theorem evE_dct (es : List E) : evE Z (.dct es) σ = (evL Z es σ).bind fun ds => dctD (evens ds) (odds ds) := id rfl
@[simp] theorem evE_ix (a b : E) : evE Z (.ix a b) σ = (evE Z a σ).bind fun x => (evE Z b σ).bind fun y => ixX x y := id rfl
@[simp] theorem evE_sl (a lo hi : E) : evE Z (.sl a lo hi) σ = (evE Z a σ).bind fun x => (evP Z lo σ).bind fun l => (evP Z hi σ).bind fun h => slD l h x := id rfl
@[simp] theorem evP_nil : evP Z .nil σ = some none := id rfl
@[simp] theorem evP_last (e : E) : evP Z (.last e) σ = (evE Z e σ).bind fun d => (intD d).map some := id rfl
@[simp] theorem evE_call (f : Nat) (es : List E) : evE Z (.call f es) σ = (evL Z es σ).bind fun ds => Z.F f ds := id rfl
@[simp] theorem evE_blt (f : BF) (es : List E) : evE Z (.blt f es) σ = (evL Z es σ).bind fun ds => bltD f ds := id rfl
@[simp] theorem evE_isi (a : E) (ts : List Ty) (m : Bool) : evE Z (.isi a ts m) σ = (evE Z a σ).bind fun x => if isIns x then insI Z.K x else some (.bl (ts.any (isi1 x))) := id rfl
@[simp] theorem evE_same (a b : E) : evE Z (.same a b) σ = (evE Z a σ).bind fun x => (evE Z b σ).bind fun y => sameD x y := id rfl
@[simp] theorem evE_u1 (o : U1) (a : E) : evE Z (.u1 o a) σ = (evE Z a σ).bind fun x => u1D o x := id rfl
@[simp] theorem evE_ixo (i : Nat) (a : E) : evE Z (.ixo i a) σ = (getO σ i).bind fun xs => ((evE Z a σ).bind intD).bind fun k => atI xs k := id rfl
@[simp] theorem evE_leno (i : Nat) : evE Z (.leno i) σ = (getO σ i).map fun xs => .int xs.length := id rfl
@[simp] theorem evE_lc (own : List (Str × Nat)) (t : T) (it c e : E) : evE Z (.lc own t it c e) σ = (evI Z it σ).bind fun ds => if ds.length ≤ line then (lcL t (evE Z c) (evE Z e) (wipeD σ (own.map fun p => p.2)) ds).map .lst else none := id rfl
@[simp] theorem evE_callK (f : Nat) (ks : List Str) (pm : List Nat) (es : List E) : evE Z (.callK f ks pm es) σ = (evL Z es σ).bind fun ds => Z.F f (permL pm ds) := id rfl
@[simp] theorem evE_mk (f : Nat) (es : List E) : evE Z (.mk f es) σ = (evL Z es σ).bind fun ds => Z.F f ds := id rfl
/-- o.f, o.m(..), o.p by the object -/
def fldX (L : List (Str × Str)) (f : Str) : D → Option D
  | .ins c ns vs => if (c, f) ∈ L then fldOf ns vs f else none
  | _ => none
def mthX (M : List (Str × Str × Nat)) (F : Nat → List D → Option D) (m : Str) (ds : List D) : D → Option D
  | .ins c ns vs => if m ∈ ns then none else (findM M c m).bind fun k => F k (.ins c ns vs :: ds)
  | _ => none
def prpX (P : List (Str × Str × Nat)) (F : Nat → List D → Option D) (f : Str) : D → Option D
  | .ins c ns vs => (findM P c f).bind fun k => F k [.ins c ns vs]
  | _ => none
@[simp] theorem evE_fld (a : E) (f : Str) : evE Z (.fld a f) σ = (evE Z a σ).bind (fldX Z.L f) := by
  show (evE Z a σ).bind _ = _
  congr 1
@[simp] theorem evE_mth (a : E) (m : Str) (es : List E) : evE Z (.mth a m es) σ = (evE Z a σ).bind fun x => (evL Z es σ).bind fun ds => mthX Z.M Z.F m ds x := by
  show (evE Z a σ).bind _ = _
  congr 1
  funext x
  congr 1
  funext ds
  cases x <;> first | rfl | (simp only [mthX])
@[simp] theorem evE_prp (a : E) (f : Str) : evE Z (.prp a f) σ = (evE Z a σ).bind (prpX Z.P Z.F f) := by
  show (evE Z a σ).bind _ = _
  congr 1
  funext x
  cases x <;> first | rfl | (simp only [prpX])
@[simp] theorem evE_join (a b : E) : evE Z (.join a b) σ = (evE Z a σ).bind fun x => (evE Z b σ).bind fun y => joinD x y := id rfl
@[simp] theorem evE_dget (a b : E) : evE Z (.dget a b) σ = (evE Z a σ).bind fun x => (evE Z b σ).bind fun y => getD' x y := id rfl
@[simp] theorem evE_ino (n : Bool) (a : E) (i : Nat) : evE Z (.ino n a i) σ = (evE Z a σ).bind fun x => (D.key x).bind fun q => (getOd σ i).map fun kv => .bl ((dlook kv.1 kv.2 q).isSome != n) := id rfl
/-- enumerate, zip by what is walked -/
def enumX : D → Option (List D)
  | .lst ds => some (enumD 0 ds)
  | .tup ds => some (enumD 0 ds)
  | .str ds => some (enumD 0 (ds.map fun c => .str [c]))
  | _ => none
def zipX : D → D → Option (List D)
  | .lst ds, .lst es => some (zipD ds es)
  | .tup ds, .tup es => some (zipD ds es)
  | .str ds, .str es => some (zipD (ds.map fun c => .str [c]) (es.map fun c => .str [c]))
  | _, _ => none
@[simp] theorem evI_enum (a : E) : evI Z (.enum a) σ = (evE Z a σ).bind enumX := by
  show (evE Z a σ).bind _ = _
  congr 1
@[simp] theorem evI_zip (a b : E) : evI Z (.zip a b) σ = (evE Z a σ).bind fun x => (evE Z b σ).bind fun y => zipX x y := by
  show (evE Z a σ).bind _ = _
  congr 1
@[simp] theorem evI_seq (e : E) : evI Z (.seq e) σ = (evE Z e σ).bind seqD := id rfl
@[simp] theorem evI_r1 (a : E) : evI Z (.r1 a) σ = ((evE Z a σ).bind intD).bind fun i => if okR i then some (rngD 0 i.toNat) else none := id rfl
@[simp] theorem evI_r2 (a b : E) : evI Z (.r2 a b) σ = ((evE Z a σ).bind intD).bind fun i => ((evE Z b σ).bind intD).bind fun j => if okR i && okR j then some (rngD i (j - i).toNat) else none := id rfl
@[simp] theorem evL_nil : evL Z [] σ = some [] := id rfl
@[simp] theorem evL_cons (e : E) (es : List E) : evL Z (e :: es) σ = (evE Z e σ).bind fun d => (evL Z es σ).map (d :: ·) := id rfl
@[simp] theorem evS_asg (t : T) (e : E) : evS Z (.asg t e) σ = (evE Z e σ).bind fun d => (setT t d σ).map .nx := id rfl
@[simp] theorem evS_own (i : Nat) (es : List E) : evS Z (.own i es) σ = (evL Z es σ).bind fun ds => if ds.length ≤ line then some (.nx (σ.set i (.o (.lst ds)))) else none := id rfl
@[simp] theorem evS_frz (i : Nat) : evS Z (.frz i) σ = some (.nx (frzD σ i)) := id rfl
@[simp] theorem evS_app (i : Nat) (e : E) : evS Z (.app i e) σ = (evE Z e σ).bind fun d => (getO σ i).bind fun xs => if xs.length < line then some (.nx (σ.set i (.o (.lst (xs ++ [d]))))) else none := id rfl
@[simp] theorem evS_ret (e : E) : evS Z (.ret e) σ = (evE Z e σ).map .rt := id rfl
@[simp] theorem evS_retN : evS Z .retN σ = some (.rt .non) := id rfl
@[simp] theorem evS_pass : evS Z .pass σ = some (.nx σ) := id rfl
@[simp] theorem evS_brk : evS Z .brk σ = some (.bk σ) := id rfl
@[simp] theorem evS_cont : evS Z .cont σ = some (.ct σ) := id rfl
@[simp] theorem evS_ifs (t : E) (a b : List S) : evS Z (.ifs t a b) σ = ((evE Z t σ).bind truth).bind fun k => bif k then evSs Z a σ else evSs Z b σ := id rfl
@[simp] theorem evS_for (t : T) (it : E) (b : List S) : evS Z (.for_ t it b) σ = (evI Z it σ).bind fun ds => forL t (evSs Z b) ds σ := id rfl
@[simp] theorem evS_whl (n : Nat) (t : E) (b : List S) : evS Z (.whl n t b) σ = whlL (evE Z t) (evSs Z b) n σ := id rfl
@[simp] theorem evS_never : evS Z .never σ = none := id rfl
@[simp] theorem evS_newd (i : Nat) : evS Z (.newd i) σ = some (.nx (σ.set i (.o (.dct [] [])))) := id rfl
@[simp] theorem evS_put (i : Nat) (k e : E) : evS Z (.put i k e) σ = (evE Z e σ).bind fun d => (evE Z k σ).bind fun x => (D.key x).bind fun q => (getOd σ i).bind fun kv => if kv.1.length < line then some (.nx (σ.set i (.o (.dct (dputK kv.1 q x) (dputV kv.1 kv.2 q d))))) else none := id rfl
@[simp] theorem evS_setf (i : Nat) (f : Str) (e : E) : evS Z (.setf i f e) σ = (evE Z e σ).bind fun d => (getOi σ i).bind fun o => if (o.1, f) ∈ Z.L ∧ o.2.1.length < 1000 then some (.nx (σ.set i (.o (.ins o.1 (putN o.2.1 o.2.2 f) (putV o.2.1 o.2.2 f d))))) else none := id rfl
@[simp] theorem evS_seti (i : Nat) (k e : E) : evS Z (.seti i k e) σ = (evE Z e σ).bind fun d => ((evE Z k σ).bind intD).bind fun j => (getO σ i).bind fun xs => (ixN xs.length j).map fun n => .nx (σ.set i (.o (.lst (xs.set n d)))) := id rfl
@[simp] theorem evSs_nil : evSs Z [] σ = some (.nx σ) := id rfl
/-- what follows a statement -/
def thenS (Z : Sm) (r : List S) : Out → Option Out
  | .nx σ2 => evSs Z r σ2
  | .rt d => some (.rt d)
  | .bk σ2 => some (.bk σ2)
  | .ct σ2 => some (.ct σ2)
@[simp] theorem evSs_cons (s : S) (r : List S) : evSs Z (s :: r) σ = (evS Z s σ).bind (thenS Z r) := by
  show (evS Z s σ).bind _ = _
  congr 1
@[simp] theorem thenS_nx (r : List S) : thenS Z r (.nx σ) = evSs Z r σ := id rfl
@[simp] theorem thenS_rt (r : List S) (d : D) : thenS Z r (.rt d) = some (.rt d) := id rfl
@[simp] theorem thenS_bk (r : List S) : thenS Z r (.bk σ) = some (.bk σ) := id rfl
@[simp] theorem thenS_ct (r : List S) : thenS Z r (.ct σ) = some (.ct σ) := id rfl
end
@[simp] theorem line_val : line = 16777216 := id rfl
@[simp] theorem endD_rt (d : D) : endD (.rt d) = some d := id rfl
@[simp] theorem endD_nx (σ : List Sl) : endD (.nx σ) = some .non := id rfl
@[simp] theorem getV_zero (d : D) (r : List Sl) : getV (.v d :: r) 0 = some d := id rfl
@[simp] theorem getV_succ (s : Sl) (r : List Sl) (i : Nat) : getV (s :: r) (i + 1) = getV r i := by simp [getV]
@[simp] theorem getO_zero (d : List D) (r : List Sl) : getO (.o (.lst d) :: r) 0 = some d := id rfl
@[simp] theorem getOd_zero (ks vs : List D) (r : List Sl) : getOd (.o (.dct ks vs) :: r) 0 = some (ks, vs) := id rfl
@[simp] theorem getOd_succ (s : Sl) (r : List Sl) (i : Nat) : getOd (s :: r) (i + 1) = getOd r i := by simp [getOd]
@[simp] theorem getOi_zero (c : Str) (ns : List Str) (vs : List D) (r : List Sl) : getOi (.o (.ins c ns vs) :: r) 0 = some (c, ns, vs) := id rfl
@[simp] theorem getOi_succ (s : Sl) (r : List Sl) (i : Nat) : getOi (s :: r) (i + 1) = getOi r i := by simp [getOi]
@[simp] theorem getO_succ (s : Sl) (r : List Sl) (i : Nat) : getO (s :: r) (i + 1) = getO r i := by simp [getO]
@[simp] theorem setT_nm (i : Nat) (d : D) (σ : List Sl) : setT (.nm i) d σ = some (σ.set i (.v d)) := id rfl
@[simp] theorem setT_tp (is : List Nat) (ds : List D) (σ : List Sl) : setT (.tp is) (.tup ds) σ = setAll is ds σ := id rfl
@[simp] theorem setAll_nil (σ : List Sl) : setAll [] [] σ = some σ := id rfl
@[simp] theorem setAll_cons (i : Nat) (is : List Nat) (d : D) (ds : List D) (σ : List Sl) : setAll (i :: is) (d :: ds) σ = setAll is ds (σ.set i (.v d)) := id rfl
@[simp] theorem frz_zero (d : D) (r : List Sl) : frzD (.o d :: r) 0 = .v d :: r := id rfl
@[simp] theorem frz_zeroV (d : D) (r : List Sl) : frzD (.v d :: r) 0 = .v d :: r := id rfl
@[simp] theorem frz_succ (s : Sl) (r : List Sl) (i : Nat) : frzD (s :: r) (i + 1) = s :: frzD r i := by
  simp only [frzD, List.getElem?_cons_succ]
  split <;> simp
@[simp] theorem forL_nil (t : T) (f : List Sl → Option Out) (σ : List Sl) : forL t f [] σ = some (.nx σ) := id rfl
/-- what follows a turn -/
def turnO (k : List Sl → Option Out) : Out → Option Out
  | .nx σ2 => k σ2
  | .ct σ2 => k σ2
  | .bk σ2 => some (.nx σ2)
  | .rt d => some (.rt d)
@[simp] theorem turnO_nx (k : List Sl → Option Out) (σ : List Sl) : turnO k (.nx σ) = k σ := id rfl
@[simp] theorem turnO_ct (k : List Sl → Option Out) (σ : List Sl) : turnO k (.ct σ) = k σ := id rfl
@[simp] theorem turnO_bk (k : List Sl → Option Out) (σ : List Sl) : turnO k (.bk σ) = some (.nx σ) := id rfl
@[simp] theorem turnO_rt (k : List Sl → Option Out) (d : D) : turnO k (.rt d) = some (.rt d) := id rfl
theorem forL_cons (t : T) (f : List Sl → Option Out) (d : D) (ds : List D) (σ : List Sl) : forL t f (d :: ds) σ = (setT t d σ).bind fun σ1 => (f σ1).bind (turnO (forL t f ds)) := by
  show (setT t d σ).bind _ = _
  congr 1
@[simp] theorem bin_add (i j : Int) : binD .add (.int i) (.int j) = some (.int (i + j)) := id rfl
@[simp] theorem bin_sub (i j : Int) : binD .sub (.int i) (.int j) = some (.int (i - j)) := id rfl
@[simp] theorem bin_mul (i j : Int) : binD .mul (.int i) (.int j) = if mulOk i j then some (.int (i * j)) else none := id rfl
@[simp] theorem bin_fdiv (i j : Int) : binD .fdiv (.int i) (.int j) = if divOk j then some (.int (i.fdiv j)) else none := id rfl
@[simp] theorem bin_mod (i j : Int) : binD .mod (.int i) (.int j) = if j ≠ 0 then some (.int (i.fmod j)) else none := id rfl
@[simp] theorem bin_pow (i j : Int) : binD .pow (.int i) (.int j) = if powOk i j then some (.int (i ^ j.toNat)) else none := id rfl
@[simp] theorem bin_mulL (x : List D) (k : Int) : binD .mul (.lst x) (.int k) = if repOk x.length k then some (.lst (List.replicate k.toNat x).flatten) else none := id rfl
@[simp] theorem bin_mulS (x : List Nat) (k : Int) : binD .mul (.str x) (.int k) = if repOk x.length k then some (.str (List.replicate k.toNat x).flatten) else none := id rfl
@[simp] theorem bin_addL (x y : List D) : binD .add (.lst x) (.lst y) = if x.length + y.length ≤ line then some (.lst (x ++ y)) else none := id rfl
@[simp] theorem bin_addT (x y : List D) : binD .add (.tup x) (.tup y) = if x.length + y.length ≤ line then some (.tup (x ++ y)) else none := id rfl
@[simp] theorem bin_addS (x y : List Nat) : binD .add (.str x) (.str y) = if x.length + y.length ≤ line then some (.str (x ++ y)) else none := id rfl
@[simp] theorem intD_int (i : Int) : intD (.int i) = some i := id rfl
@[simp] theorem blD_bl (b : Bool) : blD (.bl b) = some b := id rfl
@[simp] theorem truth_bl (b : Bool) : truth (.bl b) = some b := id rfl
@[simp] theorem truth_non : truth .non = some false := id rfl
@[simp] theorem cmpX_int (o : CO) (x : D) (j : Int) : cmpX o x (.int j) = cmpD o x (.int j) := id rfl
@[simp] theorem cmpX_bl (o : CO) (x : D) (j : Bool) : cmpX o x (.bl j) = cmpD o x (.bl j) := id rfl
@[simp] theorem cmpX_str (o : CO) (x : D) (j : List Nat) : cmpX o x (.str j) = cmpD o x (.str j) := id rfl
@[simp] theorem cmpX_lst (o : CO) (x : D) (j : List D) : cmpX o x (.lst j) = cmpD o x (.lst j) := id rfl
@[simp] theorem cmpX_tup (o : CO) (x : D) (j : List D) : cmpX o x (.tup j) = cmpD o x (.tup j) := id rfl
@[simp] theorem cmpX_non (o : CO) (x : D) : cmpX o x .non = cmpD o x .non := id rfl
@[simp] theorem cmpX_ins (o : CO) (x : D) (c : Str) (ns : List Str) (vs : List D) : cmpX o x (.ins c ns vs) = cmpD o x (.ins c ns vs) := id rfl
@[simp] theorem cmpX_in (x : D) (ks vs : List D) : cmpX .isin x (.dct ks vs) = (D.key x).map fun q => (dlook ks vs q).isSome := id rfl
@[simp] theorem cmpX_nin (x : D) (ks vs : List D) : cmpX .notin x (.dct ks vs) = (D.key x).map fun q => !(dlook ks vs q).isSome := id rfl
@[simp] theorem cmp_inT (x : D) (ys : List D) : cmpD .isin x (.tup ys) = inD x ys := id rfl
@[simp] theorem cmp_inL (x : D) (ys : List D) : cmpD .isin x (.lst ys) = inD x ys := id rfl
@[simp] theorem cmp_ninT (x : D) (ys : List D) : cmpD .notin x (.tup ys) = (inD x ys).map not := id rfl
@[simp] theorem cmp_ninL (x : D) (ys : List D) : cmpD .notin x (.lst ys) = (inD x ys).map not := id rfl
@[simp] theorem cmp_inS (c : Nat) (ys : List Nat) : cmpD .isin (.str [c]) (.str ys) = some (decide (c ∈ ys)) := id rfl
@[simp] theorem cmp_ninS (c : Nat) (ys : List Nat) : cmpD .notin (.str [c]) (.str ys) = some (!decide (c ∈ ys)) := id rfl
@[simp] theorem cmp_eq (x y : D) : cmpD .eq x y = eqD x y := id rfl
@[simp] theorem cmp_ne (x y : D) : cmpD .ne x y = (eqD x y).map not := id rfl
theorem eqD_non (x : D) (h : scalD x .non = true) : eqD x .non = some (D.eqb x .non) := by simp [eqD, h]
@[simp] theorem ixX_lst (xs : List D) (y : D) : ixX (.lst xs) y = ixD (.lst xs) y := id rfl
@[simp] theorem ixX_tup (xs : List D) (y : D) : ixX (.tup xs) y = ixD (.tup xs) y := id rfl
@[simp] theorem ixX_str (xs : List Nat) (y : D) : ixX (.str xs) y = ixD (.str xs) y := id rfl
@[simp] theorem ixX_scr (xs : List Int) (y : D) : ixX (.scr xs) y = ixD (.scr xs) y := id rfl
@[simp] theorem ixX_dct (ks vs : List D) (y : D) : ixX (.dct ks vs) y = (D.key y).bind fun q => dlook ks vs q := id rfl
@[simp] theorem key_str (x : List Nat) : D.key (.str x) = some (.inr (mkS x)) := id rfl
@[simp] theorem key_int (i : Int) : D.key (.int i) = some (.inl i) := id rfl
@[simp] theorem enumX_lst (xs : List D) : enumX (.lst xs) = some (enumD 0 xs) := id rfl
@[simp] theorem enumX_tup (xs : List D) : enumX (.tup xs) = some (enumD 0 xs) := id rfl
@[simp] theorem enumX_str (xs : List Nat) : enumX (.str xs) = some (enumD 0 (xs.map fun c => .str [c])) := id rfl
@[simp] theorem zipX_str (xs ys : List Nat) : zipX (.str xs) (.str ys) = some (zipD (xs.map fun c => .str [c]) (ys.map fun c => .str [c])) := id rfl
@[simp] theorem zipX_lst (xs ys : List D) : zipX (.lst xs) (.lst ys) = some (zipD xs ys) := id rfl
@[simp] theorem fldX_ins (L : List (Str × Str)) (f c : Str) (ns : List Str) (vs : List D) : fldX L f (.ins c ns vs) = if (c, f) ∈ L then fldOf ns vs f else none := id rfl
@[simp] theorem joinD_lst (s : List Nat) (ds : List D) : joinD (.str s) (.lst ds) = (strsD ds).bind fun ps => if joinOk s ps then some (.str (joinN s ps)) else none := id rfl
@[simp] theorem tuple_lst (x : List D) : bltD .tuple [.lst x] = some (.tup x) := id rfl
@[simp] theorem tuple_tup (x : List D) : bltD .tuple [.tup x] = some (.tup x) := id rfl
@[simp] theorem list_lst (x : List D) : bltD .list [.lst x] = some (.lst x) := id rfl
@[simp] theorem list_tup (x : List D) : bltD .list [.tup x] = some (.lst x) := id rfl
@[simp] theorem len_str (x : List Nat) : bltD .len [.str x] = if x.length ≤ line then some (.int x.length) else none := id rfl
/-- sep.join of texts that are all there -/
theorem strsD_map {α : Type} (f : α → List Nat) (l : List α) : strsD (l.map fun a => .str (f a)) = some (l.map f) := by
  induction l with
  | nil => rfl
  | cons a l ih => simp [strsD, ih]
theorem joinN_nil (ps : List (List Nat)) : joinN [] ps = ps.flatten := by
  induction ps with
  | nil => rfl
  | cons p r ih =>
    cases r with
    | nil => simp [joinN]
    | cons q r => simp only [joinN, List.nil_append, List.flatten_cons] at ih ⊢; rw [ih]
@[simp] theorem cmp_lt (i j : Int) : cmpD .lt (.int i) (.int j) = some (decide (i < j)) := id rfl
@[simp] theorem cmp_le (i j : Int) : cmpD .le (.int i) (.int j) = some (decide (i ≤ j)) := id rfl
@[simp] theorem cmp_gt (i j : Int) : cmpD .gt (.int i) (.int j) = some (decide (j < i)) := id rfl
@[simp] theorem cmp_ge (i j : Int) : cmpD .ge (.int i) (.int j) = some (decide (j ≤ i)) := id rfl
theorem eqb_int (i j : Int) : D.eqb (.int i) (.int j) = decide (i = j) := by
  simp only [D.eqb, D.toP, PyData.eqv]; rfl
@[simp] theorem eqD_int (i j : Int) : eqD (.int i) (.int j) = some (decide (i = j)) := by
  simp [eqD, scalD, eqb_int]
theorem cmp_eqI (i j : Int) : cmpD .eq (.int i) (.int j) = some (decide (i = j)) := by
  simp [cmpD, eqD, scalD, eqb_int]
theorem cmp_neI (i j : Int) : cmpD .ne (.int i) (.int j) = some (!decide (i = j)) := by
  simp [cmpD, eqD, scalD, eqb_int]
@[simp] theorem eqD_str (x y : List Nat) : eqD (.str x) (.str y) = some (decide (x = y)) := by
  simp [eqD, scalD, eqb_str]
theorem cmp_eqS (x y : List Nat) : cmpD .eq (.str x) (.str y) = some (decide (x = y)) := by
  simp [cmpD, eqD, scalD, eqb_str]
theorem cmp_neS (x y : List Nat) : cmpD .ne (.str x) (.str y) = some (!decide (x = y)) := by
  simp [cmpD, eqD, scalD, eqb_str]
@[simp] theorem eqD_bl (x y : Bool) : eqD (.bl x) (.bl y) = some (decide (x = y)) := by
  simp only [eqD, scalD, Bool.true_or, if_true]
  cases x <;> cases y <;> rfl
theorem cmp_eqB (x y : Bool) : cmpD .eq (.bl x) (.bl y) = some (decide (x = y)) := by
  simp only [cmpD, eqD, scalD, Bool.true_or, if_true]
  cases x <;> cases y <;> rfl
@[simp] theorem cmp_isB (x y : Bool) : cmpD .is (.bl x) (.bl y) = some (decide (x = y)) := id rfl
@[simp] theorem cmp_isnotB (x y : Bool) : cmpD .isnot (.bl x) (.bl y) = some (!decide (x = y)) := id rfl
@[simp] theorem len_lst (x : List D) : bltD .len [.lst x] = some (.int x.length) := id rfl
@[simp] theorem len_tup (x : List D) : bltD .len [.tup x] = some (.int x.length) := id rfl
@[simp] theorem len_scr (x : List Int) : bltD .len [.scr x] = some (.int x.length) := id rfl
@[simp] theorem int_int (i : Int) : bltD .int [.int i] = some (.int i) := id rfl
@[simp] theorem int_bl (b : Bool) : bltD .int [.bl b] = some (.int (if b then 1 else 0)) := id rfl
@[simp] theorem abs_int (i : Int) : bltD .abs [.int i] = some (.int (if i < 0 then -i else i)) := id rfl
@[simp] theorem gcd_int (i j : Int) : bltD .gcd [.int i, .int j] = some (.int (Nat.gcd i.natAbs j.natAbs : Nat)) := id rfl
@[simp] theorem max_int (i j : Int) : bltD .max [.int i, .int j] = some (.int (if j > i then j else i)) := id rfl
@[simp] theorem min_int (i j : Int) : bltD .min [.int i, .int j] = some (.int (if j < i then j else i)) := id rfl
@[simp] theorem ix_lst (xs : List D) (i : Int) : ixD (.lst xs) (.int i) = atI xs i := id rfl
@[simp] theorem ix_tupD (xs : List D) (i : Int) : ixD (.tup xs) (.int i) = atI xs i := id rfl
@[simp] theorem ix_scr (xs : List Int) (i : Int) : ixD (.scr xs) (.int i) = (atI xs i).map .int := id rfl
@[simp] theorem ix_strD (xs : List Nat) (i : Int) : ixD (.str xs) (.int i) = if xs.length ≤ line then (atI xs i).map fun c => .str [c] else none := id rfl
theorem atI_of {α : Type} {xs : List α} {i : Int} {x : α} (h0 : 0 ≤ i) (h : xs[i.toNat]? = some x) : atI xs i = some x := by
  have : i = (i.toNat : Int) := by omega
  rw [this]; exact atI_nat h
@[simp] theorem atI_0 {α : Type} (x : α) (xs : List α) : atI (x :: xs) 0 = some x := atI_of (by decide) rfl
@[simp] theorem atI_1 {α : Type} (x y : α) (xs : List α) : atI (x :: y :: xs) 1 = some y := atI_of (by decide) rfl
@[simp] theorem atI_2 {α : Type} (x y z : α) (xs : List α) : atI (x :: y :: z :: xs) 2 = some z := atI_of (by decide) rfl
@[simp] theorem atI_3 {α : Type} (x y z u : α) (xs : List α) : atI (x :: y :: z :: u :: xs) 3 = some u := atI_of (by decide) rfl
@[simp] theorem atI_4 {α : Type} (x y z u v : α) (xs : List α) : atI (x :: y :: z :: u :: v :: xs) 4 = some v := atI_of (by decide) rfl
@[simp] theorem atI_5 {α : Type} (x y z u v w : α) (xs : List α) : atI (x :: y :: z :: u :: v :: w :: xs) 5 = some w := atI_of (by decide) rfl
@[simp] theorem seq_lst (xs : List D) : seqD (.lst xs) = some xs := id rfl
@[simp] theorem seq_tup (xs : List D) : seqD (.tup xs) = some xs := id rfl
@[simp] theorem seq_scr (xs : List Int) : seqD (.scr xs) = some (xs.map .int) := id rfl
@[simp] theorem seq_str (xs : List Nat) : seqD (.str xs) = some (xs.map fun c => .str [c]) := id rfl
@[simp] theorem startD_nil (m : Nat) : startD m [] = List.replicate m .no := by simp [startD]
/-- a loop that is never left early -/
theorem forL_inv {t : T} {f : List Sl → Option Out} (I : Nat → List Sl → Prop) : ∀ {ds : List D} {k : Nat} {σ : List Sl}, I k σ →
    (∀ (i : Nat) d σ, ds[i]? = some d → I (k + i) σ → ∃ σ1 σ2, setT t d σ = some σ1 ∧ (f σ1 = some (.nx σ2) ∨ f σ1 = some (.ct σ2)) ∧ I (k + i + 1) σ2) → ∃ σ', forL t f ds σ = some (.nx σ') ∧ I (k + ds.length) σ'
  | [], k, σ, h, _ => ⟨σ, rfl, h⟩
  | d :: ds, k, σ, h, hs => by
    obtain ⟨σ1, σ2, h1, h2, h3⟩ := hs 0 d σ rfl h
    obtain ⟨σ', h4, h5⟩ := forL_inv I (ds := ds) (k := k + 1) (σ := σ2) h3 fun i d' σ' hd hi => by
      have := hs (i + 1) d' σ' (by simpa using hd) (by rw [show k + (i + 1) = k + 1 + i by omega]; exact hi)
      rw [show k + (i + 1) + 1 = k + 1 + i + 1 by omega] at this
      exact this
    refine ⟨σ', ?_, by rw [List.length_cons, show k + (ds.length + 1) = k + 1 + ds.length by omega]; exact h5⟩
    rw [forL_cons, h1]
    rcases h2 with h2 | h2
    · simp [h2, h4]
    · simp [h2, h4]
/-- .. and what follows it -/
theorem loop_then {β : Type} {t : T} {f : List Sl → Option Out} {ds : List D} {σ : List Sl} {k : Out → Option β} {b : β} (I : Nat → List Sl → Prop) (h0 : I 0 σ)
    (hs : ∀ (i : Nat) d σ, ds[i]? = some d → I i σ → ∃ σ1 σ2, setT t d σ = some σ1 ∧ (f σ1 = some (.nx σ2) ∨ f σ1 = some (.ct σ2)) ∧ I (i + 1) σ2) (hk : ∀ σ', I ds.length σ' → k (.nx σ') = some b) : (forL t f ds σ).bind k = some b := by
  obtain ⟨σ', h1, h2⟩ := forL_inv I (k := 0) h0 (t := t) (f := f) (ds := ds) fun i d σ hd hi => by
    rw [Nat.zero_add] at hi ⊢
    exact hs i d σ hd hi
  rw [h1]
  rw [Nat.zero_add] at h2
  exact hk σ' h2
/-- .. where something is to be found of the result -/
theorem loop_thenE {t : T} {f : List Sl → Option Out} {ds : List D} {σ : List Sl} {β : Type} {k : Out → Option β} {P : Option β → Prop} (I : Nat → List Sl → Prop) (h0 : I 0 σ)
    (hs : ∀ (i : Nat) d σ, ds[i]? = some d → I i σ → ∃ σ1 σ2, setT t d σ = some σ1 ∧ (f σ1 = some (.nx σ2) ∨ f σ1 = some (.ct σ2)) ∧ I (i + 1) σ2) (hk : ∀ σ', I ds.length σ' → P (k (.nx σ'))) : P ((forL t f ds σ).bind k) := by
  obtain ⟨σ', h1, h2⟩ := forL_inv I (k := 0) h0 (t := t) (f := f) (ds := ds) fun i d σ hd hi => by
    rw [Nat.zero_add] at hi ⊢
    exact hs i d σ hd hi
  rw [h1]
  rw [Nat.zero_add] at h2
  exact hk σ' h2
theorem mulOk_of {i j : Int} {a b : Nat} (ha : i.natAbs < 2 ^ a) (hb : j.natAbs < 2 ^ b) (h0 : 0 < a) (h1 : 0 < b) (h : a + b ≤ 1000000) : mulOk i j = true := by
  have := wide_mul ha hb h0 h1 h
  simpa [mulOk, CMulW] using this
theorem divOk_of {j : Int} {b : Nat} (h0 : j ≠ 0) (hb : j.natAbs < 2 ^ b) (hb0 : 0 < b) (h9 : b ≤ 9000) : divOk j = true := by
  have := PySem.Flt.log2_lt_of hb0 hb
  simp [divOk, h0]
  omega
end Pv

set_option Elab.async false
set_option linter.all false
set_option maxRecDepth 100000
set_option maxHeartbeats 4000000

namespace Pv
open PySem PySem.Spec L2

/-! ### for the printed texts -/
def insC (c : Str) : D → Option D
  | .ins c' ns fs => if c' = c then some (.ins c' ns fs) else none
  | _ => none
/-- a class's making: its __init__'s value -/
def valI (c : Str) (Z : Sm) (b : List S) (k m : Nat) (ds : List D) : Option D := (evI0 c Z b k m ds).bind (insC c)
theorem valI_ins {c : Str} {Z : Sm} {b : List S} {k m : Nat} {ds : List D} {d : D} (h : valI c Z b k m ds = some d) : ∃ ns fs, d = .ins c ns fs := by
  obtain ⟨x, h1, h2⟩ := bnd h
  cases x <;> simp only [insC] at h2 <;> try cases h2
  split at h2
  · rename_i hc
    cases h2
    exact ⟨_, _, by rw [hc]⟩
  · cases h2
theorem valI_spec {c : Str} {Z : Sm} {b : List S} {k m : Nat} {ds : List D} {d : D} (h : valI c Z b k m ds = some d) : evI0 c Z b k m ds = some d := by
  obtain ⟨x, h1, h2⟩ := bnd h
  cases x <;> simp only [insC] at h2 <;> try cases h2
  split at h2
  · cases h2; exact h1
  · cases h2
theorem fn_no {P : Program} {w : World} {K : PySem.W.Frag} {mg : Str → Option Value} {base : Heap} {x qual : Str} {st : Stmt} {f : Addr} {fd : FuncData} {ps : List Str} {k : Nat} (Fn : Fun K x qual st f fd) :
    FnOk P w K mg base CX0 k f fd ps (spF K fun _ => none) :=
  ⟨fun vs H Q E ⟨ds, d, G, _, _, h, _⟩ => (by cases h), fun A outer s H args us vs Q E hr he hb hv ⟨ds, d, G, _, _, h, _⟩ => (by cases h)⟩
theorem vals_get : ∀ {zs : List V} {ws : List Value} (i : Nat), Vals zs ws → (zs[i]? = none ∧ ws[i]? = none) ∨ ∃ z w, zs[i]? = some z ∧ ws[i]? = some w ∧ RelV z w
  | _, _, _, .nil => .inl ⟨by simp, by simp⟩
  | _, _, 0, .cons r t => .inr ⟨_, _, rfl, rfl, r⟩
  | _, _, i + 1, .cons r t => by
    rcases vals_get i t with ⟨a, b⟩ | ⟨z, w, a, b, c⟩
    · exact .inl ⟨by simpa using a, by simpa using b⟩
    · exact .inr ⟨z, w, by simpa using a, by simpa using b, c⟩
theorem vals_perm {zs : List V} {ws : List Value} (r : Vals zs ws) : ∀ pm : List Nat, Vals (pm.filterMap (zs[·]?)) (pm.filterMap (ws[·]?))
  | [] => .nil
  | i :: pm => by
    have ih := vals_perm r pm
    rw [List.filterMap_cons, List.filterMap_cons]
    rcases vals_get i r with ⟨a, b⟩ | ⟨z, w, a, b, c⟩
    · rw [a, b]; exact ih
    · rw [a, b]; exact .cons c ih
theorem kw_at {P : Program} {w : World} {K : PySem.W.Frag} {mg : Str → Option Value} {base : Heap} {lv : Nat} {x : Str} {ks : List Str} {pm : List Nat} {F : List D → Option D} {f : Addr} {fd : FuncData} {ps : List Str}
    (hm : mg x = some (.ref f)) (hk : PySem.W.keepIn K (.ref f) = true) (hb : ∀ (s : Shared) (ws : List Value), ws.length = ks.length → BindsTo s fd ⟨[], ks.zip ws⟩ (ps.zip (pm.filterMap (ws[·]?)))) (hF : FnOk P w K mg base CX0 lv f fd ps (spF K F)) :
    KwAt P w K mg base lv x ks pm F :=
  ⟨f, fd, ps, fun _ ws => pm.filterMap (ws[·]?), fun _ zs => pm.filterMap (zs[·]?), hm, hk, ⟨fun s us ws _ l1 l2 => by
    have : us = [] := List.eq_nil_of_length_eq_zero l1
    subst this
    exact hb s ws l2, fun _ r => vals_perm r pm⟩, fun _ => rfl, hF⟩
/-- isinstance of an own class's instance and a built-in type -/
theorem kit_sub {K : PySem.W.Frag} {C : Addr} (t : Ty) (h : PySem.W.subIn K (.ref C) (.type (sT t)) = some false) : PySem.W.kitOne K (.ref C) (.type (sT t)) = some false := by
  have m : PySem.W.kitMeta (sT t) = true := by cases t <;> decide +kernel
  have b : (Value.ref C == Value.type (sT t)) = false := by cases t <;> rfl
  unfold PySem.W.kitOne PySem.W.kitCls
  rw [b]
  simp only [Bool.false_eq_true, if_false, m, if_true]
  exact h
theorem findM_mem : ∀ {l : List (Str × Str × Nat)} {c m : Str} {k : Nat}, findM l c m = some k → (c, m, k) ∈ l
  | [], _, _, _, h => by simp [findM] at h
  | (c', m', k') :: r, c, m, k, h => by
    simp only [findM] at h
    split at h
    · rename_i e
      cases h
      rw [e.1, e.2]
      exact List.mem_cons_self
    · exact List.mem_cons_of_mem _ (findM_mem h)
end Pv

set_option Elab.async false
set_option linter.all false
set_option maxRecDepth 100000
set_option maxHeartbeats 4000000

namespace Pv
open PySem PySem.Spec L2

/-! ### == of data with itself -/
mutual
theorem eqv_self : ∀ d : D, D.plain d = true → PyData.eqv (D.toP d) (D.toP d) = true
  | .non, _ => by simp [D.toP, PyData.eqv]
  | .bl _, _ => by simp [D.toP, PyData.eqv]
  | .int _, _ => by simp [D.toP, PyData.eqv]
  | .str _, _ => by simp [D.toP, PyData.eqv]
  | .lst ds, h => by
    simp only [D.plain] at h
    simp only [D.toP, PyData.eqv]
    exact eqvAll_self ds h
  | .tup ds, h => by
    simp only [D.plain] at h
    simp only [D.toP, PyData.eqv]
    exact eqvAll_self ds h
  | .dct _ _, h => by simp [D.plain] at h
  | .ins _ _ _, h => by simp [D.plain] at h
  | .scr _, h => by simp [D.plain] at h
theorem eqvAll_self : ∀ ds : List D, D.plainL ds = true → PyData.eqvAll (D.toPL ds) (D.toPL ds) = true
  | [], _ => by simp [D.toPL, PyData.eqvAll]
  | d :: ds, h => by
    simp only [D.plainL, Bool.and_eq_true] at h
    simp only [D.toPL, PyData.eqvAll, Bool.and_eq_true]
    exact ⟨eqv_self d h.1, eqvAll_self ds h.2⟩
end
theorem eqD_self {d : D} (h : D.shp d = true) : eqD d d = some true := by
  have hp : D.plain d = true := by
    simp only [D.shp, Bool.and_eq_true] at h
    exact h.1
  unfold eqD
  rw [h]
  simp only [Bool.and_self, Bool.or_true, if_true]
  exact congrArg some (eqv_self d hp)
/-! ### plain data that may be laid: its depth by a number -/
mutual
def D.layB : Nat → D → Bool
  | _, .non => true | _, .bl _ => true | _, .int _ => true
  | _, .str x => PyData.strOk (mkS x)
  | n + 1, .lst ds => D.layL n ds
  | n + 1, .tup ds => D.layL n ds
  | _, _ => false
def D.layL : Nat → List D → Bool
  | _, [] => true
  | n, d :: ds => D.layB n d && D.layL n ds
end
mutual
theorem layB_ok : ∀ (n : Nat) (d : D), D.layB n d = true → D.plain d = true ∧ (D.toP d).canLay0 = true ∧ (D.toP d).depth ≤ n
  | _, .non, _ => by simp [D.plain, D.toP, PyData.canLay0, PyData.depth]
  | _, .bl _, _ => by simp [D.plain, D.toP, PyData.canLay0, PyData.depth]
  | _, .int _, _ => by simp [D.plain, D.toP, PyData.canLay0, PyData.depth]
  | _, .str x, h => by
    simp only [D.layB] at h
    simp [D.plain, D.toP, PyData.canLay0, PyData.depth, h]
  | n + 1, .lst ds, h => by
    simp only [D.layB] at h
    obtain ⟨a, b, c⟩ := layL_ok n ds h
    simp only [D.plain, D.toP, PyData.canLay0, PyData.depth]
    exact ⟨a, b, by omega⟩
  | n + 1, .tup ds, h => by
    simp only [D.layB] at h
    obtain ⟨a, b, c⟩ := layL_ok n ds h
    simp only [D.plain, D.toP, PyData.canLay0, PyData.depth]
    exact ⟨a, b, by omega⟩
  | 0, .lst ds, h => by simp [D.layB] at h
  | 0, .tup ds, h => by simp [D.layB] at h
  | _, .dct _ _, h => by simp [D.layB] at h
  | _, .ins _ _ _, h => by simp [D.layB] at h
  | _, .scr _, h => by simp [D.layB] at h
theorem layL_ok : ∀ (n : Nat) (ds : List D), D.layL n ds = true → D.plainL ds = true ∧ PyData.canLayAll0 (D.toPL ds) = true ∧ PyData.depthAll (D.toPL ds) ≤ n
  | n, [], _ => by simp [D.plainL, D.toPL, PyData.canLayAll0, PyData.depthAll]
  | n, d :: ds, h => by
    simp only [D.layL, Bool.and_eq_true] at h
    obtain ⟨a, b, c⟩ := layB_ok n d h.1
    obtain ⟨a', b', c'⟩ := layL_ok n ds h.2
    simp only [D.plainL, D.toPL, PyData.canLayAll0, PyData.depthAll, Bool.and_eq_true]
    exact ⟨⟨a, a'⟩, ⟨b, b'⟩, by omega⟩
end
theorem shp_of {d : D} {n : Nat} (h : D.layB n d = true) (hn : n ≤ 64) : D.shp d = true := by
  obtain ⟨a, b, c⟩ := layB_ok n d h
  simp only [D.shp, SeqAt.shaped, Bool.and_eq_true, decide_eq_true_eq]
  exact ⟨a, b, by omega⟩
theorem layL_all {n : Nat} : ∀ {ds : List D}, (∀ d ∈ ds, D.layB n d = true) → D.layL n ds = true
  | [], _ => rfl
  | d :: ds, h => by
    simp only [D.layL, Bool.and_eq_true]
    exact ⟨h d List.mem_cons_self, layL_all fun x hx => h x (List.mem_cons_of_mem _ hx)⟩
end Pv

set_option Elab.async false
set_option linter.all false
set_option maxRecDepth 100000
set_option maxHeartbeats 4000000
namespace Pv
open PySem L2
/-! ### one statement after the other -/
/-- what follows a statement, kept shut -/
def rest (Z : Sm) (r : List S) (o : Out) : Option Out := thenS Z r o
theorem rest_nx (Z : Sm) (r : List S) (σ : List Sl) : rest Z r (.nx σ) = evSs Z r σ := id rfl
@[simp] theorem rest_rt (Z : Sm) (r : List S) (d : D) : rest Z r (.rt d) = some (.rt d) := id rfl
@[simp] theorem rest_bk (Z : Sm) (r : List S) (σ : List Sl) : rest Z r (.bk σ) = some (.bk σ) := id rfl
@[simp] theorem rest_ct (Z : Sm) (r : List S) (σ : List Sl) : rest Z r (.ct σ) = some (.ct σ) := id rfl
theorem evSs_consR (Z : Sm) (s : S) (r : List S) (σ : List Sl) : evSs Z (s :: r) σ = (evS Z s σ).bind (rest Z r) := by
  rw [evSs_cons]
  congr 1
theorem getV_ne {σ : List Sl} {i j : Nat} {x : Sl} (h : i ≠ j) : getV (σ.set i x) j = getV σ j := by
  unfold getV
  rw [List.getElem?_set_ne h]
theorem getV_eq {σ : List Sl} {i : Nat} {d : D} (h : i < σ.length) : getV (σ.set i (.v d)) i = some d := by
  unfold getV
  rw [List.getElem?_set_self h]
end Pv

set_option Elab.async false
set_option linter.all false
set_option maxRecDepth 100000
set_option maxHeartbeats 4000000
namespace Pv
open PySem PySem.Spec L2
/-! ### of use in all laws (first written for k08) -/
theorem lcL_eq {t : T} {c e : List Sl → Option D} {σ : List Sl} (p : D → Bool) (g : D → D) : ∀ ds : List D, (∀ d ∈ ds, ∃ σ1, setT t d σ = some σ1 ∧ (c σ1).bind truth = some (p d) ∧ (p d = true → e σ1 = some (g d))) → lcL t c e σ ds = some ((ds.filter p).map g)
  | [], _ => rfl
  | d :: ds, h => by
    obtain ⟨σ1, h1, h2, h3⟩ := h d List.mem_cons_self
    have ih := lcL_eq p g ds fun x hx => h x (List.mem_cons_of_mem _ hx)
    simp only [lcL, h1, bind_someX, h2]
    cases hp : p d
    · rw [List.filter_cons_of_neg (by simp [hp])]
      exact ih
    · rw [List.filter_cons_of_pos hp]
      show ((e σ1).bind _) = _
      rw [h3 hp, bind_someX, ih]
      rfl
/-- all items are kept -/
theorem lcL_map {t : T} {c e : List Sl → Option D} {σ : List Sl} (g : D → D) (ds : List D) (h : ∀ d ∈ ds, ∃ σ1, setT t d σ = some σ1 ∧ (c σ1).bind truth = some true ∧ e σ1 = some (g d)) : lcL t c e σ ds = some (ds.map g) := by
  have := lcL_eq (t := t) (c := c) (e := e) (σ := σ) (fun _ => true) g ds fun d hd => let ⟨σ1, a, b, f⟩ := h d hd; ⟨σ1, a, b, fun _ => f⟩
  rw [List.filter_eq_self.mpr (by simp)] at this
  exact this
theorem rng_eq : ∀ (n : Nat) (lo : Int), rngD lo n = (List.range n).map fun k => D.int (lo + (k : Nat))
  | 0, _ => rfl
  | n + 1, lo => by
    rw [List.range_succ_eq_map, List.map_cons, List.map_map]
    simp only [rngD, rng_eq n (lo + 1)]
    congr 1
    · simp
    · apply List.map_congr_left
      intro k _
      simp only [Function.comp]
      congr 1
      omega
/-- over range(n), by place -/
theorem lcL_rng {i : Nat} {c e : List Sl → Option D} {σ : List Sl} {n : Nat} (g : Nat → D) (h : ∀ k, k < n → (c (σ.set i (.v (.int (k : Nat))))).bind truth = some true ∧ e (σ.set i (.v (.int (k : Nat)))) = some (g k)) :
    lcL (.nm i) c e σ (rngD 0 n) = some ((List.range n).map g) := by
  rw [rng_eq]
  have key : ∀ l : List Nat, (∀ k ∈ l, k < n) → lcL (.nm i) c e σ (l.map fun k => D.int (0 + (k : Nat))) = some (l.map g) := by
    intro l
    induction l with
    | nil => intro _; rfl
    | cons k l ih =>
      intro hl
      obtain ⟨h1, h2⟩ := h k (hl k List.mem_cons_self)
      rw [List.map_cons, Int.zero_add]
      simp only [lcL, setT_nm, bind_someX, h1]
      show ((e _).bind _) = _
      rw [h2, bind_someX, ih fun j hj => hl j (List.mem_cons_of_mem _ hj)]
      rfl
  exact key _ fun k hk => List.mem_range.mp hk
theorem range_zip {α : Type} (f : Nat → Nat → α) (x y : List Nat) (h : x.length = y.length) : ((List.range x.length).map fun k => f (x[k]?.getD 0) (y[k]?.getD 0)) = List.zipWith f x y := by
  apply List.ext_getElem?
  intro k
  rw [List.getElem?_map, List.getElem?_zipWith]
  by_cases hk : k < x.length
  · have hk2 : k < y.length := by omega
    rw [List.getElem?_range hk, List.getElem?_eq_getElem hk, List.getElem?_eq_getElem hk2]
    simp [hk, hk2]
  · rw [List.getElem?_eq_none (by simpa using hk)]
    have : x[k]? = none := List.getElem?_eq_none (by omega)
    rw [this]
    rfl
/-- ''.join of single signs -/
theorem join_signs {α : Type} (f : α → Nat) (l : List α) (h : l.length ≤ 16777216) : joinD (.str []) (.lst (l.map fun a => D.str [f a])) = some (.str (l.map f)) := by
  have e : (l.map fun a => D.str [f a]) = l.map fun a => D.str ((fun a => [f a]) a) := rfl
  rw [joinD_lst, e, strsD_map, bind_someX, joinN_nil]
  have h1 : (l.map fun a => [f a]).flatten = l.map f := by
    clear h e
    induction l with
    | nil => rfl
    | cons a l ih => simpa using ih
  have h2 : joinOk [] (l.map fun a => [f a]) = true := by
    unfold joinOk
    rw [decide_eq_true_eq]
    have : ((l.map fun a => [f a]).map (·.length)).sum = l.length := by
      clear h e h1
      induction l with
      | nil => rfl
      | cons a l ih => simp only [List.map_cons, List.sum_cons, List.length_cons, List.length_nil] at ih ⊢; omega
    rw [this]
    simpa using h
  rw [h2, h1]
  rfl
theorem atI_k {α : Type} {x : List α} {k : Nat} (h : k < x.length) : atI x ((k : Nat) : Int) = some x[k] := atI_of (by omega) (by simp [h])
/-- a loop that is left early where something is found, else goes through -/
theorem forL_find {t : T} {f : List Sl → Option Out} (p : D → Bool) (r : D) (I : List Sl → Prop) : ∀ {ds : List D} {σ : List Sl}, I σ →
    (∀ d ∈ ds, ∀ σ, I σ → ∃ σ1, setT t d σ = some σ1 ∧ ((p d = true ∧ f σ1 = some (.rt r)) ∨ (p d = false ∧ ∃ σ2, f σ1 = some (.nx σ2) ∧ I σ2))) →
    (ds.any p = true ∧ forL t f ds σ = some (.rt r)) ∨ (ds.any p = false ∧ ∃ σ', forL t f ds σ = some (.nx σ') ∧ I σ')
  | [], σ, h, _ => .inr ⟨rfl, σ, rfl, h⟩
  | d :: ds, σ, h, hs => by
    obtain ⟨σ1, h1, h2⟩ := hs d List.mem_cons_self σ h
    rw [List.any_cons, forL_cons, h1]
    rcases h2 with ⟨hp, hf⟩ | ⟨hp, σ2, hf, hI⟩
    · left
      rw [hp]
      exact ⟨rfl, by simp [hf]⟩
    · rw [hp, Bool.false_or]
      simp only [bind_someX, hf, turnO_nx]
      exact forL_find p r I hI fun d' hd => hs d' (List.mem_cons_of_mem _ hd)
theorem zip_any (P : Nat → Nat → Bool) : ∀ x y : List Nat, (x.zip y).any (fun p => P p.1 p.2) = (List.zipWith P x y).any id
  | [], _ => by simp
  | _ :: _, [] => by simp
  | a :: x, b :: y => by simp [zip_any P x y]
theorem range_any (P : Nat → Nat → Bool) (x y : List Nat) (h : x.length = y.length) : ((List.range x.length).any fun k => P (x[k]?.getD 0) (y[k]?.getD 0)) = (x.zip y).any fun p => P p.1 p.2 := by
  have := range_zip P x y h
  rw [zip_any, ← this, List.any_map]
  rfl
theorem lcL_rngF {i : Nat} {c e : List Sl → Option D} {σ : List Sl} {n : Nat} (p : Nat → Bool) (g : Nat → D) (h : ∀ k, k < n → (c (σ.set i (.v (.int (k : Nat))))).bind truth = some (p k) ∧ (p k = true → e (σ.set i (.v (.int (k : Nat)))) = some (g k))) :
    lcL (.nm i) c e σ (rngD 0 n) = some (((List.range n).filter p).map g) := by
  rw [rng_eq]
  have key : ∀ l : List Nat, (∀ k ∈ l, k < n) → lcL (.nm i) c e σ (l.map fun k => D.int (0 + (k : Nat))) = some ((l.filter p).map g) := by
    intro l
    induction l with
    | nil => intro _; rfl
    | cons k l ih =>
      intro hl
      obtain ⟨h1, h2⟩ := h k (hl k List.mem_cons_self)
      have ih := ih fun j hj => hl j (List.mem_cons_of_mem _ hj)
      rw [List.map_cons, Int.zero_add]
      simp only [lcL, setT_nm, bind_someX, h1]
      cases hp : p k
      · rw [List.filter_cons_of_neg (by simp [hp])]
        exact ih
      · rw [List.filter_cons_of_pos hp]
        show ((e _).bind _) = _
        rw [h2 hp, bind_someX, ih]
        rfl
  exact key _ fun k hk => List.mem_range.mp hk
theorem inD_ints (k : Nat) : ∀ l : List Nat, inD (.int (k : Nat)) (l.map fun j => D.int (j : Nat)) = some (decide (k ∈ l)) := by
  intro l
  have hf : (flatD (.int (k : Nat)) && (l.map fun j => D.int (j : Nat)).all flatD) = true := by
    rw [Bool.and_eq_true]
    refine ⟨rfl, ?_⟩
    rw [List.all_map, List.all_eq_true]
    intro a _
    rfl
  unfold inD
  rw [if_pos hf, List.any_map]
  congr 1
  rw [Bool.eq_iff_iff]
  simp [eqb_int]
  constructor
  · rintro ⟨a, h1, h2⟩
    have : a = k := by omega
    rw [← this]; exact h1
  · intro h
    exact ⟨k, h, rfl⟩
theorem zipD_str (x y : List Nat) : zipD (x.map fun c => D.str [c]) (y.map fun c => D.str [c]) = (x.zip y).map fun p => D.tup [.str [p.1], .str [p.2]] := by
  induction x generalizing y with
  | nil => simp [zipD]
  | cons a x ih =>
    cases y with
    | nil => simp [zipD]
    | cons b y => simp [zipD, ih]
def low (x : List Nat) : Prop := ∀ c ∈ x, c < 128
theorem low_ok {x : List Nat} (h : low x) : PyData.strOk (mkS x) = true := by
  unfold PyData.strOk
  rw [← Array.all_toList, List.all_eq_true]
  intro c hc
  have := h c (by simpa using hc)
  simp
  omega
theorem lcL_of {α : Type} {t : T} {c e : List Sl → Option D} {σ : List Sl} (mk : α → D) (p : α → Bool) (g : α → D) : ∀ as : List α, (∀ a ∈ as, ∃ σ1, setT t (mk a) σ = some σ1 ∧ (c σ1).bind truth = some (p a) ∧ (p a = true → e σ1 = some (g a))) → lcL t c e σ (as.map mk) = some ((as.filter p).map g)
  | [], _ => rfl
  | a :: as, h => by
    obtain ⟨σ1, h1, h2, h3⟩ := h a List.mem_cons_self
    have ih := lcL_of mk p g as fun x hx => h x (List.mem_cons_of_mem _ hx)
    rw [List.map_cons]
    simp only [lcL, h1, bind_someX, h2]
    cases hp : p a
    · rw [List.filter_cons_of_neg (by simp [hp])]
      exact ih
    · rw [List.filter_cons_of_pos hp]
      show ((e σ1).bind _) = _
      rw [h3 hp, bind_someX, ih]
      rfl
theorem lay_strs {l : List (List Nat)} (h : ∀ x ∈ l, low x) : D.layL 0 (l.map D.str) = true := by
  apply layL_all
  intro d hd
  rw [List.mem_map] at hd
  obtain ⟨x, hx, rfl⟩ := hd
  exact low_ok (h x hx)
theorem eq_strs {l : List (List Nat)} (h : ∀ x ∈ l, low x) : eqD (.lst (l.map D.str)) (.lst (l.map D.str)) = some true :=
  eqD_self (shp_of (n := 1) (by simp only [D.layB]; exact lay_strs h) (by decide))
theorem eq_strsT {l : List (List Nat)} (h : ∀ x ∈ l, low x) : eqD (.tup (l.map D.str)) (.tup (l.map D.str)) = some true :=
  eqD_self (shp_of (n := 1) (by simp only [D.layB]; exact lay_strs h) (by decide))
theorem forL_okE {β : Type} {t : T} {f : List Sl → Option Out} {k : Out → Option β} {P : Option β → Prop} (I : List Sl → Prop) : ∀ {ds : List D} {σ : List Sl}, I σ →
    (∀ d ∈ ds, ∀ σ, I σ → ∃ σ1 σ2, setT t d σ = some σ1 ∧ f σ1 = some (.nx σ2) ∧ I σ2) → (∀ σ', I σ' → P (k (.nx σ'))) → P ((forL t f ds σ).bind k)
  | [], σ, h, _, hk => by simpa using hk σ h
  | d :: ds, σ, h, hs, hk => by
    obtain ⟨σ1, σ2, h1, h2, h3⟩ := hs d List.mem_cons_self σ h
    have ih := forL_okE I (ds := ds) h3 (fun d' hd => hs d' (List.mem_cons_of_mem _ hd)) hk
    rw [forL_cons, h1]
    simp only [bind_someX, h2, turnO_nx]
    exact ih
def IsI (o : Option D) : Prop := ∃ z, o = some (.int z)
theorem fmodp (a b : Int) (h : 0 < b) : 0 ≤ a.fmod b ∧ a.fmod b < b := by
  rw [Int.fmod_eq_emod_of_nonneg _ (by omega)]
  exact ⟨Int.emod_nonneg _ (by omega), Int.emod_lt_of_pos _ h⟩
theorem fdivp (a b : Int) (ha : 0 ≤ a) (h : 0 < b) : 0 ≤ a.fdiv b ∧ a.fdiv b ≤ a := by
  rw [Int.fdiv_eq_ediv_of_nonneg _ (by omega)]
  exact ⟨Int.ediv_nonneg ha (by omega), Int.ediv_le_self b ha⟩
/-- digits below their sizes -/
def Dg : List Int → List Int → Prop
  | [], [] => True
  | d :: ds, s :: ss => (0 ≤ d ∧ d < s) ∧ Dg ds ss
  | _, _ => False
theorem Dg.snoc : ∀ {ds ss : List Int} {d s : Int}, Dg ds ss → 0 ≤ d → d < s → Dg (ds ++ [d]) (ss ++ [s])
  | [], [], d, s, _, h1, h2 => ⟨⟨h1, h2⟩, trivial⟩
  | [], _ :: _, _, _, h, _, _ => h.elim
  | _ :: _, [], _, _, h, _, _ => h.elim
  | a :: ds, b :: ss, d, s, h, h1, h2 => ⟨h.1, Dg.snoc h.2 h1 h2⟩
theorem Dg.len : ∀ {ds ss : List Int}, Dg ds ss → ds.length = ss.length
  | [], [], _ => rfl
  | [], _ :: _, h => h.elim
  | _ :: _, [], h => h.elim
  | a :: ds, b :: ss, h => by simp [Dg.len h.2]
theorem take_snoc {ss : List Int} {i : Nat} {s : Int} (h : ss[i]? = some s) : ss.take (i + 1) = ss.take i ++ [s] := by
  rw [List.take_add_one, h]; rfl
theorem atI_in {α : Type} {xs : List α} {i : Int} (h0 : 0 ≤ i) (h1 : i < xs.length) : ∃ x, atI xs i = some x ∧ x ∈ xs := by
  have : i.toNat < xs.length := by omega
  exact ⟨xs[i.toNat], atI_of h0 (by simp [this]), List.getElem_mem this⟩
def pick {α : Type} [Inhabited α] (menu : List α) (z : Int) : α := menu.getD (z.fmod menu.length).toNat default
theorem pick_at {α : Type} [Inhabited α] {menu : List α} (h : menu ≠ []) (z : Int) : atI menu (z.fmod menu.length) = some (pick menu z) ∧ pick menu z ∈ menu := by
  have hp : 0 < menu.length := List.length_pos_iff.mpr h
  obtain ⟨a, b⟩ := fmodp z menu.length (by omega)
  have hb : (z.fmod menu.length).toNat < menu.length := by omega
  have e : menu[(z.fmod menu.length).toNat]? = some (pick menu z) := by
    unfold pick
    rw [List.getD_eq_getElem?_getD, List.getElem?_eq_getElem hb]
    rfl
  exact ⟨atI_of a e, List.mem_of_getElem? e⟩
theorem pick_w {α : Type} [Inhabited α] {menu : List α} {w : Int} (hw : (menu.length : Int) = w) (h0 : 0 < w) (z : Int) : atI menu (z.fmod w) = some (pick menu z) ∧ pick menu z ∈ menu := by
  rw [← hw]
  exact pick_at (by rintro rfl; simp at hw; omega) z
theorem cut_to {α : Type} (xs : List α) (k : Int) (h0 : 0 ≤ k) : cutD xs none (some k) = xs.take k.toNat := by
  obtain ⟨n, rfl⟩ := Int.eq_ofNat_of_zero_le h0
  unfold cutD
  rw [HT.sIx_none, HT.sIx_nat, Nat.sub_zero, List.drop_zero]
  by_cases h : n ≤ xs.length
  · rw [Nat.min_eq_left h]; rfl
  · rw [Nat.min_eq_right (by omega), List.take_length]
    exact (List.take_of_length_le (by simp; omega)).symm
theorem cut_from {α : Type} (xs : List α) (k : Int) (h0 : 0 ≤ k) : cutD xs (some k) none = xs.drop k.toNat := by
  obtain ⟨n, rfl⟩ := Int.eq_ofNat_of_zero_le h0
  unfold cutD
  rw [HT.sIx_none, HT.sIx_nat]
  by_cases h : n ≤ xs.length
  · rw [Nat.min_eq_left h]
    exact List.take_of_length_le (by simp)
  · rw [Nat.min_eq_right (by omega)]
    simp
    omega
theorem cut_mid {α : Type} (xs : List α) (a b : Int) (h0 : 0 ≤ a) (h1 : 0 ≤ b) : cutD xs (some a) (some b) = (xs.drop a.toNat).take (b.toNat - a.toNat) := by
  obtain ⟨n, rfl⟩ := Int.eq_ofNat_of_zero_le h0
  obtain ⟨m, rfl⟩ := Int.eq_ofNat_of_zero_le h1
  unfold cutD
  rw [HT.sIx_nat, HT.sIx_nat]
  simp only [Int.toNat_natCast]
  by_cases h : n ≤ xs.length
  · rw [Nat.min_eq_left h]
    by_cases h' : m ≤ xs.length
    · rw [Nat.min_eq_left h']
    · rw [Nat.min_eq_right (by omega)]
      rw [List.take_of_length_le (by simp), List.take_of_length_le (by simp; omega)]
  · rw [Nat.min_eq_right (by omega : xs.length ≤ n)]
    rw [List.drop_of_length_le (Nat.le_refl _), List.drop_of_length_le (by omega)]
    simp
theorem nodup_of_inj {α β : Type} (f : α → β) : ∀ {l : List α}, l.Nodup → (∀ a ∈ l, ∀ b ∈ l, f a = f b → a = b) → (l.map f).Nodup
  | [], _, _ => List.nodup_nil
  | a :: l, h, hf => by
    rw [List.nodup_cons] at h
    rw [List.map_cons, List.nodup_cons]
    refine ⟨?_, nodup_of_inj f h.2 fun x hx y hy => hf x (List.mem_cons_of_mem _ hx) y (List.mem_cons_of_mem _ hy)⟩
    intro hm
    obtain ⟨b, hb, e⟩ := List.mem_map.mp hm
    have := hf a List.mem_cons_self b (List.mem_cons_of_mem _ hb) e.symm
    rw [this] at h
    exact h.1 hb
theorem nodup_range {β : Type} (f : Nat → β) (n : Nat) (hf : ∀ a, a < n → ∀ b, b < n → f a = f b → a = b) : ((List.range n).map f).Nodup :=
  nodup_of_inj f List.nodup_range fun a ha b hb => hf a (List.mem_range.mp ha) b (List.mem_range.mp hb)
theorem atG (ds : List Int) (k : Nat) (h : k < ds.length) : atI (ds.map D.int) ((k : Nat) : Int) = some (.int (ds.getD k 0)) := by
  refine atI_nat ?_
  rw [List.getElem?_map, List.getD_eq_getElem?_getD, List.getElem?_eq_getElem h]
  rfl
theorem join_signsC (f : Nat → Nat) (n : Nat) (h : n ≤ 1000) : joinD (.str []) (.lst ((List.range n).map fun k => D.str [f k])) = some (.str ((List.range n).map f)) := join_signs f (List.range n) (by simp; omega)
/-- the comprehension over range(many) -/
theorem lcL_names {c e : List Sl → Option D} {σ : List Sl} {i : Nat} {many : Nat} (g : Nat → List Nat) (h : ∀ k, k < many → (c (σ.set i (.v (.int (k : Nat))))).bind truth = some true ∧ e (σ.set i (.v (.int (k : Nat)))) = some (.str (g k))) :
    lcL (.nm i) c e σ (rngD 0 many) = some (((List.range many).map g).map D.str) := by
  rw [lcL_rng (fun k => D.str (g k)) h, List.map_map]
  rfl
theorem fmE (z w : Int) (h : 0 < w) : z.fmod w = z % w := Int.fmod_eq_emod_of_nonneg z (by omega)
theorem pick_inj {α : Type} [Inhabited α] {menu : List α} {w : Nat} (hw : menu.length = w) (hinj : ∀ i j : Fin w, menu[i.val]? = menu[j.val]? → i = j) (hw0 : 0 < w) {x y : Int} (h : pick menu x = pick menu y) : x.fmod w = y.fmod w := by
  obtain ⟨a0, a1⟩ := fmodp x w (by omega)
  obtain ⟨b0, b1⟩ := fmodp y w (by omega)
  unfold pick at h
  rw [hw] at h
  have ha : (x.fmod w).toNat < menu.length := by omega
  have hb : (y.fmod w).toNat < menu.length := by omega
  rw [List.getD_eq_getElem?_getD, List.getD_eq_getElem?_getD, List.getElem?_eq_getElem ha, List.getElem?_eq_getElem hb] at h
  simp only [Option.getD_some] at h
  have := hinj ⟨(x.fmod w).toNat, by omega⟩ ⟨(y.fmod w).toNat, by omega⟩ (by simp only [List.getElem?_eq_getElem ha, List.getElem?_eq_getElem hb, h])
  have := congrArg Fin.val this
  simp only at this
  omega
theorem allInts_map (ds : List Int) : allInts (ds.map D.int) = some ds := by
  induction ds with
  | nil => rfl
  | cons a r ih => simp [allInts, ih]
theorem cutS_to (w : List Nat) (k : Nat) : cutD w none (some (k : Int)) = w.take k := by
  have := cut_to w (k : Int) (by omega)
  simpa using this
theorem cutS_from (w : List Nat) (k : Nat) : cutD w (some (k : Int)) none = w.drop k := by
  have := cut_from w (k : Int) (by omega)
  simpa using this
theorem atI_lit {α : Type} (xs : List α) (k : Nat) : atI xs (no_index (OfNat.ofNat k) : Int) = xs[k]? := by
  have e : (OfNat.ofNat k : Int) = (k : Int) := rfl
  rw [e]
  cases h : xs[k]? with
  | none =>
    have hk : xs.length ≤ k := List.getElem?_eq_none_iff.mp h
    unfold atI ixN
    rw [if_pos (by omega), if_neg (by omega)]
    rfl
  | some x => exact atI_nat h
theorem Dg.get : ∀ {ds ss : List Int} {k : Nat} {s : Int}, Dg ds ss → ss[k]? = some s → ∃ d, ds[k]? = some d ∧ 0 ≤ d ∧ d < s
  | [], [], _, _, _, h => by simp at h
  | [], _ :: _, _, _, h, _ => h.elim
  | _ :: _, [], _, _, h, _ => h.elim
  | d :: ds, s :: ss, 0, _, h, e => by
    simp at e
    subst e
    exact ⟨d, rfl, h.1⟩
  | d :: ds, s :: ss, k + 1, _, h, e => by
    simp at e
    obtain ⟨d', a, b⟩ := Dg.get h.2 e
    exact ⟨d', by simpa using a, b⟩
theorem lcL_ints {c e : List Sl → Option D} {σ : List Sl} {i : Nat} {many : Nat} (g : Nat → Int) (h : ∀ k, k < many → (c (σ.set i (.v (.int (k : Nat))))).bind truth = some true ∧ e (σ.set i (.v (.int (k : Nat)))) = some (.int (g k))) :
    lcL (.nm i) c e σ (rngD 0 many) = some (((List.range many).map g).map D.int) := by
  rw [lcL_rng (fun k => D.int (g k)) h, List.map_map]
  rfl
theorem fil1 (a : Nat) : ∀ l : List Nat, l.Nodup → l.length ≤ (l.filter fun x => !(x == a)).length + 1
  | [], _ => by simp
  | x :: l, h => by
    rw [List.nodup_cons] at h
    by_cases e : x = a
    · subst e
      have : (l.filter fun y => !(y == x)) = l := by
        rw [List.filter_eq_self]
        intro y hy
        simp
        rintro rfl
        exact h.1 hy
      rw [List.filter_cons_of_neg (by simp), this]
      simp
    · rw [List.filter_cons_of_pos (by simp [e])]
      have := fil1 a l h.2
      simp only [List.length_cons]
      omega
theorem fil3 (a b c : Nat) (l : List Nat) (h : l.Nodup) : l.length ≤ (l.filter fun x => !decide (x ∈ [a, b, c])).length + 3 := by
  have h1 := fil1 a l h
  have n1 : (l.filter fun x => !(x == a)).Nodup := h.filter _
  have h2 := fil1 b _ n1
  have n2 : ((l.filter fun x => !(x == a)).filter fun x => !(x == b)).Nodup := n1.filter _
  have h3 := fil1 c _ n2
  rw [List.filter_filter, List.filter_filter] at h3
  have e : (l.filter fun x => !decide (x ∈ [a, b, c])) = (l.filter fun x => !(x == c) && (!(x == b) && !(x == a))) := by
    congr 1
    funext x
    simp only [List.mem_cons, List.not_mem_nil, or_false]
    by_cases ha : x = a <;> by_cases hb : x = b <;> by_cases hc : x = c <;> simp [ha, hb, hc]
  rw [e]
  simp only [List.filter_filter] at h2
  omega
theorem dlook_none {ks vs : List D} {x : List Nat} (h : ∀ k ∈ ks, ∃ y, k = .str y ∧ y ≠ x) : dlook ks vs (.inr (mkS x)) = none := by
  induction ks generalizing vs with
  | nil => simp [dlook]
  | cons k ks ih =>
    cases vs with
    | nil => simp [dlook]
    | cons v vs =>
      obtain ⟨y, rfl, hy⟩ := h k List.mem_cons_self
      have : ¬ D.key (.str y) = some (.inr (mkS x)) := by
        simp only [D.key]
        intro z
        have := Sum.inr.inj (Option.some.inj z)
        exact hy (mkS_eq.mp this)
      simp only [dlook, if_neg this]
      exact ih fun k hk => h k (List.mem_cons_of_mem _ hk)
theorem hasK_none {ks : List D} {x : List Nat} (h : ∀ k ∈ ks, ∃ y, k = .str y ∧ y ≠ x) : hasK ks (.inr (mkS x)) = false := by
  unfold hasK
  rw [List.any_eq_false]
  intro k hk
  obtain ⟨y, rfl, hy⟩ := h k hk
  intro z
  exact hy (mkS_eq.mp (Sum.inr.inj (Option.some.inj (of_decide_eq_true z))))
theorem forL_ex {t : T} {f : List Sl → Option Out} (I : List Sl → Prop) {ds : List D} {σ : List Sl} (h : I σ) (hs : ∀ d ∈ ds, ∀ σ, I σ → ∃ σ1 σ2, setT t d σ = some σ1 ∧ f σ1 = some (.nx σ2) ∧ I σ2) : ∃ σ', forL t f ds σ = some (.nx σ') ∧ I σ' := by
  induction ds generalizing σ with
  | nil => exact ⟨σ, rfl, h⟩
  | cons d ds ih =>
    obtain ⟨σ1, σ2, h1, h2, h3⟩ := hs d List.mem_cons_self σ h
    obtain ⟨σ', h4, h5⟩ := ih h3 fun d' hd => hs d' (List.mem_cons_of_mem _ hd)
    refine ⟨σ', ?_, h5⟩
    rw [forL_cons, h1]
    simp only [bind_someX, h2, turnO_nx]
    exact h4
end Pv

set_option Elab.async false
set_option linter.all false
set_option maxRecDepth 100000
set_option maxHeartbeats 4000000
namespace K10
open PySem L2 Pv
def top (i : Nat) : Stmt := PySem.Challenge.pw_stampsheets_k10_making_whole.main.body.getD i (.Pass ⟨0, 0, 0, 0⟩)
def mtd (i j : Nat) : Stmt := match top i with | .ClassDef _ _ _ b _ _ _ _ _ _ _ => b.getD j (.Pass ⟨0, 0, 0, 0⟩) | _ => .Pass ⟨0, 0, 0, 0⟩
def blts : List Str := ["bool", "enumerate", "int", "isinstance", "len", "list", "max", "min", "range", "set", "sorted", "str", "sum", "tuple", "zip"]
def cval : Nat → Option D
  | 0 => some (.str [45, 46, 97, 98, 99, 100, 101, 102, 103, 104, 105, 106, 107, 108, 109, 110, 111, 112, 113, 114, 115, 116, 117, 118, 119, 120, 121, 122])
  | 1 => some (.int 30)
  | 2 => some (.str [97, 98, 99, 100, 101, 102, 103, 104, 105, 106, 107, 108, 109, 110, 111, 112, 113, 114, 115, 116, 117, 118, 119, 120, 121, 122])
  | 3 => some (.str [48, 49, 50, 51, 52, 53, 54, 55, 56, 57])
  | 4 => some (.int 8)
  | _ => none
/-! ### _law_digits -/
abbrev s_L_digits : Stmt := top 45
def N_L_digits : List Str := ["_law_cell_here", "_law_sizes", "_law_line", "_law_rest", "_law_seed", "_law_k", "_law_size", "_law_twice"]
def ir_L_digits : List S := [.own 2 [],
    .asg (.nm 3) (.blt .int [.v 0]),
    .ifs (.cmp .ge (.v 3) (.bin .pow (.c (.int 10)) (.c (.int 18)))) [.asg (.nm 3) (.bin .sub (.v 3) (.bin .pow (.c (.int 10)) (.c (.int 18)))), .for_ (.nm 6) (.seq (.v 1)) [.app 2 (.bin .mod (.blt .int [.v 3]) (.v 6)), .asg (.nm 3) (.bin .fdiv (.blt .int [.v 3]) (.v 6))], .frz 2, .ret (.v 2)] [],
    .asg (.nm 4) (.bin .mod (.blt .int [.v 3]) (.c (.int 2147483629))),
    .for_ (.nm 5) (.r1 (.blt .len [.v 1])) [.asg (.nm 4) (.bin .mod (.blt .int [.bin .add (.bin .add (.bin .mul (.v 4) (.c (.int 48271))) (.bin .mul (.c (.int 974711)) (.v 5))) (.c (.int 12345))]) (.c (.int 2147483647))), .asg (.nm 7) (.bin .mod (.blt .int [.bin .mul (.v 4) (.bin .add (.bin .fdiv (.v 4) (.c (.int 65537))) (.c (.int 3)))]) (.c (.int 2147483629))), .app 2 (.bin .mod (.bin .fdiv (.v 7) (.c (.int 19))) (.ix (.v 1) (.v 5)))],
    .frz 2,
    .ret (.v 2)]
def T_L_digits : Nat → List D → Option D := fun _ _ => none
def Z_L_digits : Sm := { F := T_L_digits, C := cval, L := [], M := [], P := [], K := [] }
def Y_L_digits : Stat := { N := N_L_digits, Z := Z_L_digits, fns := [], cns := [], bl := blts, gcd := false, lv := 0, kws := [], mks := [] }
def F_L_digits (ds : List D) : Option D := evF Z_L_digits ir_L_digits 2 8 ds
theorem ck_L_digits : ckSs Y_L_digits ir_L_digits (defScope s_L_digits) (fun _ => true) (defBody s_L_digits) = true := by decide +kernel
theorem sc_L_digits : FnScope N_L_digits ["_law_cell_here", "_law_sizes"] (defScope s_L_digits) := ⟨rfl, rfl, rfl, by decide +kernel, rfl, by decide +kernel, by decide +kernel⟩
/-! ### _law_cell -/
abbrev s_L_cell : Stmt := top 44
def N_L_cell : List Str := ["_law_script", "_law_k", "_law_seed", "_law_cell_here"]
def ir_L_cell : List S := [.ifs (.cmp .lt (.v 1) (.blt .len [.v 0])) [.ret (.ix (.v 0) (.v 1))] [],
    .asg (.nm 2) (.c (.int 3541)),
    .for_ (.nm 3) (.seq (.v 0)) [.asg (.nm 2) (.bin .mod (.blt .int [.bin .add (.bin .mul (.v 2) (.c (.int 31))) (.bin .mod (.blt .int [.v 3]) (.c (.int 1000003)))]) (.c (.int 1000003)))],
    .ret (.bin .mod (.blt .int [.bin .mul (.bin .mul (.bin .add (.v 2) (.c (.int 7))) (.bin .add (.v 1) (.c (.int 3)))) (.c (.int 69621))]) (.c (.int 2147483647)))]
def T_L_cell : Nat → List D → Option D := fun _ _ => none
def Z_L_cell : Sm := { F := T_L_cell, C := cval, L := [], M := [], P := [], K := [] }
def Y_L_cell : Stat := { N := N_L_cell, Z := Z_L_cell, fns := [], cns := [], bl := blts, gcd := false, lv := 0, kws := [], mks := [] }
def F_L_cell (ds : List D) : Option D := evF Z_L_cell ir_L_cell 2 4 ds
theorem ck_L_cell : ckSs Y_L_cell ir_L_cell (defScope s_L_cell) (fun _ => true) (defBody s_L_cell) = true := by decide +kernel
theorem sc_L_cell : FnScope N_L_cell ["_law_script", "_law_k"] (defScope s_L_cell) := ⟨rfl, rfl, rfl, by decide +kernel, rfl, by decide +kernel, by decide +kernel⟩
/-! ### _law_inks -/
abbrev s_L_inks : Stmt := top 46
def N_L_inks : List Str := ["_law_line", "_law_alls", "_law_first_here", "_law_second", "_law_third"]
def ir_L_inks : List S := [.asg (.nm 1) (.c (.str [46, 97, 98, 99, 100, 101, 102, 103, 104, 105, 106, 107, 108, 109, 110, 111, 112, 113, 114, 115, 116, 117, 118, 119, 120, 121, 122])),
    .asg (.nm 2) (.bin .mul (.blt .int [.ix (.v 0) (.c (.int 1))]) (.blt .int [.cmp .lt (.ix (.v 0) (.c (.int 0))) (.c (.int 2))])),
    .asg (.nm 3) (.bin .mod (.bin .add (.bin .add (.v 2) (.c (.int 1))) (.blt .int [.ix (.v 0) (.c (.int 2))])) (.c (.int 27))),
    .asg (.nm 4) (.bin .mod (.bin .add (.bin .add (.v 2) (.c (.int 1))) (.blt .int [.ix (.v 0) (.c (.int 3))])) (.c (.int 27))),
    .ifs (.cmp .eq (.v 4) (.v 3)) [.asg (.nm 4) (.bin .mod (.bin .add (.v 2) (.c (.int 26))) (.c (.int 27)))] [],
    .ret (.bin .add (.bin .add (.ix (.v 1) (.v 2)) (.ix (.v 1) (.v 3))) (.ix (.v 1) (.v 4)))]
def T_L_inks : Nat → List D → Option D := fun _ _ => none
def Z_L_inks : Sm := { F := T_L_inks, C := cval, L := [], M := [], P := [], K := [] }
def Y_L_inks : Stat := { N := N_L_inks, Z := Z_L_inks, fns := [], cns := [], bl := blts, gcd := false, lv := 0, kws := [], mks := [] }
def F_L_inks (ds : List D) : Option D := evF Z_L_inks ir_L_inks 1 5 ds
theorem ck_L_inks : ckSs Y_L_inks ir_L_inks (defScope s_L_inks) (fun _ => true) (defBody s_L_inks) = true := by decide +kernel
theorem sc_L_inks : FnScope N_L_inks ["_law_line"] (defScope s_L_inks) := ⟨rfl, rfl, rfl, by decide +kernel, rfl, by decide +kernel, by decide +kernel⟩
/-! ### _law_names -/
abbrev s_L_names : Stmt := top 47
def N_L_names : List Str := ["_law_line", "_law_many", "_law_letters", "_law_signs", "_law_word", "_law_size", "_law_spot", "_law_menu", "_law_k"]
def ir_L_names : List S := [.asg (.nm 2) (.c (.str [97, 98, 99, 100, 101, 102, 103, 104, 105, 106, 107, 108, 109, 110, 111, 112, 113, 114, 115, 116, 117, 118, 119, 120, 121, 122])),
    .asg (.nm 3) (.bin .add (.v 2) (.c (.str [48, 49, 50, 51, 52, 53, 54, 55, 56, 57]))),
    .asg (.nm 4) (.bin .add (.ix (.v 2) (.bin .mod (.blt .int [.ix (.v 0) (.c (.int 1))]) (.c (.int 26)))) (.join (.c (.str [])) (.lc [("_law_k", 8)] (.nm 8) (.r1 (.c (.int 7))) (.c (.bl true)) (.ix (.v 3) (.bin .mod (.blt .int [.ix (.v 0) (.bin .add (.c (.int 2)) (.v 8))]) (.c (.int 36))))))),
    .ifs (.and (.cmp .lt (.ix (.v 0) (.c (.int 0))) (.c (.int 2))) (.last (.cmp .le (.v 1) (.c (.int 8))))) [.ret (.lc [("_law_k", 8)] (.nm 8) (.r1 (.v 1)) (.c (.bl true)) (.sl (.v 4) .nil (.last (.bin .add (.bin .mod (.blt .int [.bin .add (.ix (.v 0) (.c (.int 9))) (.bin .mul (.c (.int 3)) (.v 8))]) (.c (.int 8))) (.c (.int 1))))))] [],
    .ifs (.and (.cmp .gt (.ix (.v 0) (.c (.int 0))) (.c (.int 3))) (.last (.cmp .le (.v 1) (.c (.int 8))))) [.asg (.nm 7) (.lst [.c (.str [120]), .c (.str [98, 101, 116, 97]), .c (.str [121, 50]), .c (.str [109, 115]), .c (.str [113]), .c (.str [99, 111, 112, 121, 49, 48]), .c (.str [122]), .c (.str [97, 108, 112, 104, 97, 49])]), .ret (.lc [("_law_k", 8)] (.nm 8) (.r1 (.v 1)) (.c (.bl true)) (.ix (.v 7) (.bin .mod (.blt .int [.bin .add (.ix (.v 0) (.c (.int 9))) (.v 8)]) (.c (.int 8)))))] [],
    .asg (.nm 5) (.bin .add (.c (.int 1)) (.bin .mod (.blt .int [.ix (.v 0) (.c (.int 9))]) (.c (.int 8)))),
    .asg (.nm 6) (.bin .mod (.blt .int [.ix (.v 0) (.c (.int 2))]) (.v 5)),
    .ifs (.cmp .eq (.v 6) (.c (.int 0))) [.asg (.nm 3) (.v 2)] [],
    .ret (.lc [("_law_k", 8)] (.nm 8) (.r1 (.v 1)) (.c (.bl true)) (.bin .add (.bin .add (.sl (.v 4) .nil (.last (.v 6))) (.ix (.v 3) (.bin .mod (.blt .int [.bin .add (.ix (.v 0) (.c (.int 3))) (.bin .mul (.c (.int 7)) (.v 8))]) (.blt .len [.v 3])))) (.sl (.v 4) (.last (.bin .add (.v 6) (.c (.int 1)))) (.last (.v 5)))))]
def T_L_names : Nat → List D → Option D := fun _ _ => none
def Z_L_names : Sm := { F := T_L_names, C := cval, L := [], M := [], P := [], K := [] }
def Y_L_names : Stat := { N := N_L_names, Z := Z_L_names, fns := [], cns := [], bl := blts, gcd := false, lv := 0, kws := [], mks := [] }
def F_L_names (ds : List D) : Option D := evF Z_L_names ir_L_names 2 9 ds
theorem ck_L_names : ckSs Y_L_names ir_L_names (defScope s_L_names) (fun _ => true) (defBody s_L_names) = true := by decide +kernel
theorem sc_L_names : FnScope N_L_names ["_law_line", "_law_many"] (defScope s_L_names) := ⟨rfl, rfl, rfl, by decide +kernel, rfl, by decide +kernel, by decide +kernel⟩
/-! ### _law_text -/
abbrev s_L_text : Stmt := top 48
def N_L_text : List Str := ["_law_menu", "_law_line", "_law_size", "_law_text_here", "_law_at", "_law_k"]
def ir_L_text : List S := [.asg (.nm 3) (.join (.c (.str [])) (.lc [("_law_k", 5)] (.nm 5) (.r1 (.v 2)) (.c (.bl true)) (.ix (.v 0) (.bin .mod (.blt .int [.ix (.v 1) (.v 5)]) (.c (.int 8)))))),
    .ifs (.cmp .eq (.v 3) (.bin .mul (.c (.str [45])) (.v 2))) [.asg (.nm 4) (.bin .mod (.blt .int [.blt .sum [.v 1]]) (.v 2)), .asg (.nm 3) (.bin .add (.bin .add (.sl (.v 3) .nil (.last (.v 4))) (.ix (.v 0) (.c (.int 7)))) (.sl (.v 3) (.last (.bin .add (.v 4) (.c (.int 1)))) .nil))] [],
    .ret (.v 3)]
def T_L_text : Nat → List D → Option D := fun _ _ => none
def Z_L_text : Sm := { F := T_L_text, C := cval, L := [], M := [], P := [], K := [] }
def Y_L_text : Stat := { N := N_L_text, Z := Z_L_text, fns := [], cns := [], bl := blts, gcd := false, lv := 0, kws := [], mks := [] }
def F_L_text (ds : List D) : Option D := evF Z_L_text ir_L_text 3 6 ds
theorem ck_L_text : ckSs Y_L_text ir_L_text (defScope s_L_text) (fun _ => true) (defBody s_L_text) = true := by decide +kernel
theorem sc_L_text : FnScope N_L_text ["_law_menu", "_law_line", "_law_size"] (defScope s_L_text) := ⟨rfl, rfl, rfl, by decide +kernel, rfl, by decide +kernel, by decide +kernel⟩
/-! ### _law_lot -/
abbrev s_L_lot : Stmt := top 49
def N_L_lot : List Str := ["_law_script", "_law_at", "_law_upto", "_law_widest", "_law_head", "_law_alls", "_law_size", "_law_many", "_law_inks_here", "_law_last", "_law_menu", "_law_names_here", "_law_stamps", "_law_k", "_law_j"]
def ir_L_lot : List S := [.asg (.nm 4) (.call 43 [.call 42 [.v 0, .v 1], .bin .add (.bin .add (.lst [.c (.int 16), .c (.int 16), .c (.int 4), .c (.int 27), .c (.int 26), .c (.int 25), .c (.int 3), .c (.int 2), .c (.int 8), .c (.int 6), .c (.int 26)]) (.bin .mul (.lst [.c (.int 36)]) (.c (.int 7)))) (.lst [.c (.int 8), .c (.int 25), .c (.int 19), .c (.int 8), .c (.int 27)])]),
    .asg (.nm 5) (.c (.str [46, 97, 98, 99, 100, 101, 102, 103, 104, 105, 106, 107, 108, 109, 110, 111, 112, 113, 114, 115, 116, 117, 118, 119, 120, 121, 122])),
    .asg (.nm 6) (.blt .min [.v 3, .ix (.lst [.c (.int 4), .c (.int 5), .c (.int 3), .c (.int 4), .c (.int 5), .c (.int 2), .c (.int 5), .c (.int 4), .c (.int 1), .c (.int 3), .c (.int 5), .c (.int 4), .c (.int 5), .c (.int 3), .bin .add (.c (.int 6)) (.ix (.v 4) (.c (.int 19))), .c (.int 30)]) (.ix (.v 4) (.c (.int 0)))]),
    .asg (.nm 7) (.blt .min [.v 2, .ix (.lst [.c (.int 4), .c (.int 5), .c (.int 3), .c (.int 5), .c (.int 4), .c (.int 2), .c (.int 5), .c (.int 3), .c (.int 1), .c (.int 4), .c (.int 5), .c (.int 4), .c (.int 3), .c (.int 0), .bin .add (.c (.int 6)) (.ix (.v 4) (.c (.int 20))), .c (.int 24)]) (.ix (.v 4) (.c (.int 1)))]),
    .asg (.nm 8) (.call 44 [.sl (.v 4) (.last (.c (.int 2))) (.last (.c (.int 6)))]),
    .asg (.nm 9) (.ix (.v 8) (.bin .mul (.c (.int 2)) (.blt .int [.ix (.v 4) (.c (.int 7))]))),
    .asg (.nm 10) (.ix (.lst [.bin .add (.bin .add (.bin .add (.bin .add (.c (.str [45, 45, 45, 45])) (.ix (.v 8) (.c (.int 0)))) (.ix (.v 8) (.c (.int 0)))) (.ix (.v 8) (.c (.int 1)))) (.v 9), .bin .add (.bin .add (.bin .add (.c (.str [45, 45, 45, 45, 45])) (.ix (.v 8) (.c (.int 0)))) (.ix (.v 8) (.c (.int 1)))) (.v 9), .bin .add (.bin .add (.bin .add (.c (.str [45, 45, 45, 45, 45])) (.ix (.v 8) (.c (.int 0)))) (.ix (.v 8) (.c (.int 0)))) (.ix (.v 8) (.c (.int 1))), .bin .add (.bin .add (.c (.str [45, 45, 45, 45, 45, 45])) (.ix (.v 8) (.c (.int 0)))) (.v 9)]) (.blt .max [.blt .int [.ix (.v 4) (.c (.int 6))], .bin .mul (.c (.int 3)) (.blt .int [.cmp .gt (.v 6) (.c (.int 5))])])),
    .asg (.nm 11) (.call 45 [.sl (.v 4) (.last (.c (.int 9))) .nil, .v 7]),
    .own 12 [],
    .for_ (.nm 13) (.r1 (.v 7)) [.ifs (.cmp .eq (.ix (.v 4) (.c (.int 21))) (.c (.int 0))) [.asg (.nm 10) (.bin .add (.c (.str [45, 45, 45, 45, 45])) (.join (.c (.str [])) (.lc [("_law_j", 14)] (.nm 14) (.r1 (.c (.int 3))) (.c (.bl true)) (.ix (.v 5) (.bin .mod (.blt .int [.bin .add (.bin .add (.ix (.v 4) (.c (.int 22))) (.bin .mul (.c (.int 3)) (.v 13))) (.v 14)]) (.c (.int 27)))))))] [], .app 12 (.lst [.ix (.v 11) (.v 13), .call 46 [.v 10, .call 43 [.call 42 [.v 0, .bin .add (.bin .add (.v 1) (.c (.int 1))) (.v 13)], .bin .mul (.lst [.c (.int 8)]) (.v 6)], .v 6]])],
    .ifs (.and (.cmp .eq (.ix (.v 4) (.c (.int 8))) (.c (.int 0))) (.last (.cmp .gt (.v 7) (.c (.int 1))))) [.seti 12 (.bin .sub (.v 7) (.c (.int 1))) (.lst [.ix (.v 11) (.bin .sub (.v 7) (.c (.int 1))), .ix (.ixo 12 (.c (.int 0))) (.c (.int 1))])] [],
    .frz 12,
    .ret (.lst [.v 6, .v 8, .v 12])]
def T_L_lot : Nat → List D → Option D
  | 42 => F_L_cell
  | 43 => F_L_digits
  | 44 => F_L_inks
  | 45 => F_L_names
  | 46 => F_L_text
  | _ => fun _ => none
def Z_L_lot : Sm := { F := T_L_lot, C := cval, L := [], M := [], P := [], K := [] }
def Y_L_lot : Stat := { N := N_L_lot, Z := Z_L_lot, fns := [(42, "_law_cell"), (43, "_law_digits"), (44, "_law_inks"), (45, "_law_names"), (46, "_law_text")], cns := [], bl := blts, gcd := false, lv := 1, kws := [], mks := [] }
def F_L_lot (ds : List D) : Option D := evF Z_L_lot ir_L_lot 4 15 ds
theorem ck_L_lot : ckSs Y_L_lot ir_L_lot (defScope s_L_lot) (fun _ => true) (defBody s_L_lot) = true := by decide +kernel
theorem sc_L_lot : FnScope N_L_lot ["_law_script", "_law_at", "_law_upto", "_law_widest"] (defScope s_L_lot) := ⟨rfl, rfl, rfl, by decide +kernel, rfl, by decide +kernel, by decide +kernel⟩
/-! ### _law_chain -/
abbrev s_L_chain : Stmt := top 57
def N_L_chain : List Str := ["_law_script", "_law_at", "_law_sizes", "_law_head", "_law_line", "_law_signs", "_law_inks_here", "_law_many", "_law_other", "_law_texts", "_law_k", "_law_shown", "_law_low", "_law_base", "_law_spot", "_law_turn", "_law_names_here", "_law_second", "_law_sign", "_law_text_here"]
def ir_L_chain : List S := [.asg (.nm 2) (.bin .add (.bin .add (.lst [.c (.int 4), .c (.int 27), .c (.int 26), .c (.int 25), .c (.int 18), .c (.int 2), .c (.int 4), .c (.int 30), .c (.int 24), .c (.int 24), .c (.int 2), .c (.int 30), .c (.int 2), .c (.int 6), .c (.int 26)]) (.bin .mul (.lst [.c (.int 36)]) (.c (.int 7)))) (.lst [.c (.int 8), .c (.int 24)])),
    .asg (.nm 3) (.call 43 [.call 42 [.v 0, .v 1], .v 2]),
    .asg (.nm 4) (.call 43 [.call 42 [.v 0, .bin .add (.v 1) (.c (.int 1))], .bin .add (.bin .mul (.lst [.c (.int 3)]) (.c (.int 24))) (.bin .mul (.lst [.c (.int 2)]) (.c (.int 24)))]),
    .asg (.nm 5) (.call 43 [.call 42 [.v 0, .bin .add (.v 1) (.c (.int 2))], .bin .mul (.lst [.c (.int 3)]) (.c (.int 25))]),
    .asg (.nm 6) (.call 44 [.sl (.v 3) .nil (.last (.c (.int 4)))]),
    .asg (.nm 7) (.bin .add (.c (.int 6)) (.bin .mod (.blt .int [.ix (.v 3) (.c (.int 4))]) (.ix (.lst [.c (.int 7), .c (.int 18)]) (.blt .int [.cmp .gt (.ix (.v 3) (.c (.int 6))) (.c (.int 0))])))),
    .asg (.nm 8) (.ix (.lc [("_law_sign", 18)] (.nm 18) (.seq (.c (.str [46, 97, 98, 99, 100, 101, 102, 103, 104, 105, 106, 107, 108, 109, 110, 111, 112, 113, 114, 115, 116, 117, 118, 119, 120, 121, 122]))) (.cmp .notin (.v 18) (.v 6)) (.v 18)) (.ix (.v 3) (.c (.int 23)))),
    .own 9 [],
    .for_ (.nm 10) (.r1 (.v 7)) [.asg (.nm 17) (.ix (.v 6) (.blt .int [.ix (.v 4) (.bin .add (.c (.int 24)) (.v 10))])), .ifs (.cmp .lt (.bin .add (.v 10) (.c (.int 1))) (.v 7)) [.asg (.nm 17) (.ix (.v 6) (.bin .mod (.blt .int [.bin .add (.bin .add (.ix (.v 4) (.bin .add (.v 10) (.c (.int 1)))) (.c (.int 1))) (.ix (.v 4) (.bin .add (.c (.int 24)) (.v 10)))]) (.c (.int 3))))] [], .app 9 (.bin .add (.bin .add (.bin .add (.bin .mul (.c (.str [45])) (.v 10)) (.ix (.v 6) (.blt .int [.ix (.v 4) (.v 10)]))) (.v 17)) (.bin .mul (.c (.str [45])) (.bin .sub (.bin .sub (.v 7) (.c (.int 1))) (.v 10))))],
    .asg (.nm 11) (.bin .add (.join (.c (.str [])) (.lc [("_law_k", 10)] (.nm 10) (.r1 (.v 7)) (.c (.bl true)) (.ix (.ixo 9 (.v 10)) (.v 10)))) (.ix (.ixo 9 (.bin .sub (.v 7) (.c (.int 1)))) (.v 7))),
    .asg (.nm 12) (.bin .mul (.blt .int [.ix (.v 3) (.c (.int 10))]) (.bin .mod (.blt .int [.ix (.v 3) (.c (.int 11))]) (.bin .add (.v 7) (.c (.int 1))))),
    .asg (.nm 13) (.join (.c (.str [])) (.lc [("_law_k", 10)] (.nm 10) (.r1 (.bin .add (.v 7) (.c (.int 1)))) (.c (.bl true)) (.ix (.lst [.ix (.v 11) (.v 10), .v 8]) (.blt .int [.and (.cmp .ge (.v 10) (.v 12)) (.last (.cmp .eq (.ix (.v 5) (.v 10)) (.c (.int 0))))])))),
    .asg (.nm 14) (.bin .mod (.blt .int [.ix (.v 3) (.c (.int 8))]) (.v 7)),
    .ifs (.cmp .eq (.ix (.v 3) (.c (.int 6))) (.c (.int 0))) [.asg (.nm 14) (.bin .mod (.blt .int [.ix (.v 3) (.c (.int 7))]) (.bin .add (.v 7) (.c (.int 1)))), .asg (.nm 11) (.bin .add (.bin .add (.sl (.v 11) .nil (.last (.v 14))) (.c (.str [45]))) (.sl (.v 11) (.last (.bin .add (.v 14) (.c (.int 1)))) .nil))] [],
    .ifs (.cmp .eq (.ix (.v 3) (.c (.int 6))) (.c (.int 1))) [.frz 9, .asg (.nm 9) (.bin .add (.sl (.v 9) .nil (.last (.v 14))) (.sl (.v 9) (.last (.bin .add (.v 14) (.c (.int 1)))) .nil))] [.frz 9],
    .ifs (.cmp .eq (.ix (.v 3) (.c (.int 6))) (.c (.int 2))) [.asg (.nm 9) (.bin .add (.v 9) (.lst [.ix (.v 9) (.v 14)]))] [],
    .ifs (.cmp .eq (.ix (.v 3) (.c (.int 5))) (.c (.int 1))) [.asg (.nm 9) (.lc [("_law_text_here", 19)] (.nm 19) (.seq (.v 9)) (.c (.bl true)) (.u1 .rev (.v 19))), .asg (.nm 11) (.u1 .rev (.v 11)), .asg (.nm 13) (.u1 .rev (.v 13))] [],
    .asg (.nm 15) (.bin .mod (.blt .int [.ix (.v 3) (.c (.int 9))]) (.blt .len [.v 9])),
    .asg (.nm 9) (.bin .add (.sl (.v 9) (.last (.v 15)) .nil) (.sl (.v 9) .nil (.last (.v 15)))),
    .ifs (.cmp .eq (.ix (.v 3) (.c (.int 12))) (.c (.int 1))) [.asg (.nm 9) (.u1 .rev (.v 9))] [],
    .asg (.nm 16) (.call 45 [.sl (.v 3) (.last (.c (.int 13))) .nil, .blt .len [.v 9]]),
    .ret (.lst [.bin .add (.v 7) (.c (.int 1)), .v 6, .lc [("_law_k", 10)] (.nm 10) (.r1 (.blt .len [.v 9])) (.c (.bl true)) (.lst [.ix (.v 16) (.v 10), .ix (.v 9) (.v 10)]), .v 13, .v 11])]
def T_L_chain : Nat → List D → Option D
  | 42 => F_L_cell
  | 43 => F_L_digits
  | 44 => F_L_inks
  | 45 => F_L_names
  | _ => fun _ => none
def Z_L_chain : Sm := { F := T_L_chain, C := cval, L := [], M := [], P := [], K := [] }
def Y_L_chain : Stat := { N := N_L_chain, Z := Z_L_chain, fns := [(42, "_law_cell"), (43, "_law_digits"), (44, "_law_inks"), (45, "_law_names")], cns := [], bl := blts, gcd := false, lv := 1, kws := [], mks := [] }
def F_L_chain (ds : List D) : Option D := evF Z_L_chain ir_L_chain 2 20 ds
theorem ck_L_chain : ckSs Y_L_chain ir_L_chain (defScope s_L_chain) (fun _ => true) (defBody s_L_chain) = true := by decide +kernel
theorem sc_L_chain : FnScope N_L_chain ["_law_script", "_law_at"] (defScope s_L_chain) := ⟨rfl, rfl, rfl, by decide +kernel, rfl, by decide +kernel, by decide +kernel⟩
/-! ### _law_numbers -/
abbrev s_L_numbers : Stmt := top 53
def N_L_numbers : List Str := ["_law_many", "_law_line", "_law_count", "_law_k"]
def ir_L_numbers : List S := [.asg (.nm 2) (.bin .mul (.ix (.lst [.c (.int 3), .c (.int 4), .c (.int 5), .c (.int 2), .c (.int 6), .c (.int 1), .c (.int 7), .c (.int 0)]) (.ix (.v 1) (.c (.int 0)))) (.blt .int [.cmp .gt (.v 0) (.c (.int 0))])),
    .ifs (.cmp .eq (.ix (.v 1) (.c (.int 1))) (.c (.int 0))) [.ret (.lc [("_law_k", 3)] (.nm 3) (.r1 (.v 2)) (.c (.bl true)) (.bin .mod (.blt .int [.bin .add (.ix (.v 1) (.c (.int 2))) (.v 3)]) (.v 0)))] [],
    .ret (.lc [("_law_k", 3)] (.nm 3) (.r1 (.v 2)) (.c (.bl true)) (.bin .mod (.blt .int [.ix (.v 1) (.bin .add (.c (.int 2)) (.v 3))]) (.v 0)))]
def T_L_numbers : Nat → List D → Option D := fun _ _ => none
def Z_L_numbers : Sm := { F := T_L_numbers, C := cval, L := [], M := [], P := [], K := [] }
def Y_L_numbers : Stat := { N := N_L_numbers, Z := Z_L_numbers, fns := [], cns := [], bl := blts, gcd := false, lv := 0, kws := [], mks := [] }
def F_L_numbers (ds : List D) : Option D := evF Z_L_numbers ir_L_numbers 2 4 ds
theorem ck_L_numbers : ckSs Y_L_numbers ir_L_numbers (defScope s_L_numbers) (fun _ => true) (defBody s_L_numbers) = true := by decide +kernel
theorem sc_L_numbers : FnScope N_L_numbers ["_law_many", "_law_line"] (defScope s_L_numbers) := ⟨rfl, rfl, rfl, by decide +kernel, rfl, by decide +kernel, by decide +kernel⟩
/-! ### _law_sheet -/
abbrev s_L_sheet : Stmt := top 54
def N_L_sheet : List Str := ["_law_menu", "_law_line", "_law_size", "_law_k"]
def ir_L_sheet : List S := [.ret (.join (.c (.str [])) (.lc [("_law_k", 3)] (.nm 3) (.r1 (.v 2)) (.c (.bl true)) (.ix (.v 0) (.bin .mod (.blt .int [.ix (.v 1) (.v 3)]) (.c (.int 4))))))]
def T_L_sheet : Nat → List D → Option D := fun _ _ => none
def Z_L_sheet : Sm := { F := T_L_sheet, C := cval, L := [], M := [], P := [], K := [] }
def Y_L_sheet : Stat := { N := N_L_sheet, Z := Z_L_sheet, fns := [], cns := [], bl := blts, gcd := false, lv := 0, kws := [], mks := [] }
def F_L_sheet (ds : List D) : Option D := evF Z_L_sheet ir_L_sheet 3 4 ds
theorem ck_L_sheet : ckSs Y_L_sheet ir_L_sheet (defScope s_L_sheet) (fun _ => true) (defBody s_L_sheet) = true := by decide +kernel
theorem sc_L_sheet : FnScope N_L_sheet ["_law_menu", "_law_line", "_law_size"] (defScope s_L_sheet) := ⟨rfl, rfl, rfl, by decide +kernel, rfl, by decide +kernel, by decide +kernel⟩
/-! ### _law_press -/
abbrev s_L_press : Stmt := top 50
def N_L_press : List Str := ["_law_one", "_law_two", "_law_k"]
def ir_L_press : List S := [.ret (.join (.c (.str [])) (.lc [("_law_k", 2)] (.nm 2) (.r1 (.blt .len [.v 0])) (.c (.bl true)) (.ix (.lst [.ix (.v 1) (.v 2), .ix (.v 0) (.v 2)]) (.blt .int [.cmp .eq (.ix (.v 1) (.v 2)) (.c (.str [45]))]))))]
def T_L_press : Nat → List D → Option D := fun _ _ => none
def Z_L_press : Sm := { F := T_L_press, C := cval, L := [], M := [], P := [], K := [] }
def Y_L_press : Stat := { N := N_L_press, Z := Z_L_press, fns := [], cns := [], bl := blts, gcd := false, lv := 0, kws := [], mks := [] }
def F_L_press (ds : List D) : Option D := evF Z_L_press ir_L_press 2 3 ds
theorem ck_L_press : ckSs Y_L_press ir_L_press (defScope s_L_press) (fun _ => true) (defBody s_L_press) = true := by decide +kernel
theorem sc_L_press : FnScope N_L_press ["_law_one", "_law_two"] (defScope s_L_press) := ⟨rfl, rfl, rfl, by decide +kernel, rfl, by decide +kernel, by decide +kernel⟩
/-! ### _law_dashed -/
abbrev s_L_dashed : Stmt := top 55
def N_L_dashed : List Str := ["_law_layer", "_law_line", "_law_much", "_law_low", "_law_k"]
def ir_L_dashed : List S := [.asg (.nm 3) (.ix (.lst [.c (.int 1), .c (.int 3)]) (.blt .int [.v 2])),
    .ret (.join (.c (.str [])) (.lc [("_law_k", 4)] (.nm 4) (.r1 (.blt .len [.v 0])) (.c (.bl true)) (.ix (.lst [.c (.str [45]), .ix (.v 0) (.v 4)]) (.blt .int [.cmp .ge (.bin .mod (.blt .int [.ix (.v 1) (.v 4)]) (.c (.int 6))) (.v 3)]))))]
def T_L_dashed : Nat → List D → Option D := fun _ _ => none
def Z_L_dashed : Sm := { F := T_L_dashed, C := cval, L := [], M := [], P := [], K := [] }
def Y_L_dashed : Stat := { N := N_L_dashed, Z := Z_L_dashed, fns := [], cns := [], bl := blts, gcd := false, lv := 0, kws := [], mks := [] }
def F_L_dashed (ds : List D) : Option D := evF Z_L_dashed ir_L_dashed 3 5 ds
theorem ck_L_dashed : ckSs Y_L_dashed ir_L_dashed (defScope s_L_dashed) (fun _ => true) (defBody s_L_dashed) = true := by decide +kernel
theorem sc_L_dashed : FnScope N_L_dashed ["_law_layer", "_law_line", "_law_much"] (defScope s_L_dashed) := ⟨rfl, rfl, rfl, by decide +kernel, rfl, by decide +kernel, by decide +kernel⟩
/-! ### _law_scene -/
abbrev s_L_scene : Stmt := top 56
def N_L_scene : List Str := ["_law_script", "_law_at", "_law_lot_here", "_law_size", "_law_head", "_law_numbers_here", "_law_pool", "_law_menu", "_law_base", "_law_shown", "_law_number", "_law_spot", "_law_other", "_law_sign"]
def ir_L_scene : List S := [.asg (.nm 3) (.ix (.v 2) (.c (.int 0))),
    .asg (.nm 4) (.call 43 [.call 42 [.v 0, .v 1], .bin .add (.lst [.c (.int 8), .c (.int 8), .c (.int 6), .c (.int 6), .c (.int 30), .c (.int 3), .c (.int 3), .c (.int 24)]) (.bin .mul (.lst [.c (.int 4)]) (.c (.int 60)))]),
    .asg (.nm 5) (.call 51 [.blt .len [.ix (.v 2) (.c (.int 2))], .call 43 [.call 42 [.v 0, .bin .add (.v 1) (.c (.int 1))], .bin .add (.lst [.c (.int 8), .c (.int 2)]) (.bin .mul (.lst [.c (.int 60)]) (.c (.int 7)))]]),
    .asg (.nm 6) (.bin .add (.ix (.v 2) (.c (.int 1))) (.ix (.lc [("_law_sign", 13)] (.nm 13) (.seq (.c (.str [46, 97, 98, 99, 100, 101, 102, 103, 104, 105, 106, 107, 108, 109, 110, 111, 112, 113, 114, 115, 116, 117, 118, 119, 120, 121, 122]))) (.cmp .notin (.v 13) (.ix (.v 2) (.c (.int 1)))) (.v 13)) (.ix (.v 4) (.c (.int 7))))),
    .asg (.nm 7) (.ix (.lst [.bin .add (.ix (.v 6) (.c (.int 0))) (.sl (.v 6) .nil (.last (.c (.int 3)))), .bin .add (.bin .add (.bin .add (.ix (.v 6) (.c (.int 3))) (.ix (.v 6) (.c (.int 3)))) (.ix (.v 6) (.c (.int 3)))) (.ix (.v 6) (.c (.int 0))), .bin .add (.bin .add (.bin .add (.ix (.v 6) (.c (.int 3))) (.ix (.v 6) (.c (.int 3)))) (.ix (.v 6) (.c (.int 3)))) (.ix (.v 6) (.c (.int 1)))]) (.ix (.v 4) (.c (.int 6)))),
    .asg (.nm 8) (.call 52 [.v 7, .sl (.v 4) (.last (.c (.int 8))) (.last (.c (.int 38))), .v 3]),
    .asg (.nm 9) (.v 8),
    .for_ (.nm 10) (.seq (.v 5)) [.asg (.nm 9) (.call 48 [.v 9, .ix (.ix (.ix (.v 2) (.c (.int 2))) (.v 10)) (.c (.int 1))])],
    .ifs (.cmp .lt (.ix (.v 4) (.c (.int 0))) (.c (.int 2))) [.asg (.nm 11) (.bin .mod (.blt .int [.ix (.v 4) (.c (.int 4))]) (.v 3)), .asg (.nm 12) (.ix (.lc [("_law_sign", 13)] (.nm 13) (.seq (.v 6)) (.cmp .ne (.v 13) (.ix (.v 9) (.v 11))) (.v 13)) (.ix (.v 4) (.c (.int 5)))), .asg (.nm 9) (.bin .add (.bin .add (.sl (.v 9) .nil (.last (.v 11))) (.v 12)) (.sl (.v 9) (.last (.bin .add (.v 11) (.c (.int 1)))) .nil))] [],
    .ifs (.cmp .lt (.ix (.v 4) (.c (.int 1))) (.c (.int 2))) [.asg (.nm 8) (.call 52 [.v 7, .sl (.v 4) (.last (.c (.int 38))) .nil, .v 3])] [],
    .ifs (.cmp .lt (.ix (.v 4) (.c (.int 2))) (.c (.int 2))) [.asg (.nm 9) (.call 53 [.v 9, .call 43 [.call 42 [.v 0, .bin .add (.v 1) (.c (.int 2))], .bin .mul (.lst [.c (.int 6)]) (.v 3)], .cmp .eq (.ix (.v 4) (.c (.int 2))) (.c (.int 0))])] [],
    .ifs (.cmp .lt (.ix (.v 4) (.c (.int 3))) (.c (.int 2))) [.asg (.nm 8) (.call 53 [.v 8, .call 43 [.call 42 [.v 0, .bin .add (.v 1) (.c (.int 3))], .bin .mul (.lst [.c (.int 6)]) (.v 3)], .cmp .eq (.ix (.v 4) (.c (.int 3))) (.c (.int 0))])] [],
    .ret (.lst [.v 8, .v 9, .v 5])]
def T_L_scene : Nat → List D → Option D
  | 42 => F_L_cell
  | 43 => F_L_digits
  | 48 => F_L_press
  | 51 => F_L_numbers
  | 52 => F_L_sheet
  | 53 => F_L_dashed
  | _ => fun _ => none
def Z_L_scene : Sm := { F := T_L_scene, C := cval, L := [], M := [], P := [], K := [] }
def Y_L_scene : Stat := { N := N_L_scene, Z := Z_L_scene, fns := [(42, "_law_cell"), (43, "_law_digits"), (48, "_law_press"), (51, "_law_numbers"), (52, "_law_sheet"), (53, "_law_dashed")], cns := [], bl := blts, gcd := false, lv := 1, kws := [], mks := [] }
def F_L_scene (ds : List D) : Option D := evF Z_L_scene ir_L_scene 3 14 ds
theorem ck_L_scene : ckSs Y_L_scene ir_L_scene (defScope s_L_scene) (fun _ => true) (defBody s_L_scene) = true := by decide +kernel
theorem sc_L_scene : FnScope N_L_scene ["_law_script", "_law_at", "_law_lot_here"] (defScope s_L_scene) := ⟨rfl, rfl, rfl, by decide +kernel, rfl, by decide +kernel, by decide +kernel⟩
/-! ### _law_drawn -/
abbrev s_L_drawn : Stmt := top 73
def N_L_drawn : List Str := ["_law_script", "_law_lot_here", "_law_chain_here"]
def ir_L_drawn : List S := [.asg (.nm 1) (.call 47 [.v 0, .c (.int 0), .c (.int 24), .c (.int 30)]),
    .ifs (.cmp .eq (.bin .mod (.blt .int [.call 42 [.v 0, .c (.int 36)]]) (.c (.int 8))) (.c (.int 0))) [.asg (.nm 2) (.call 55 [.v 0, .c (.int 33)]), .ret (.lst [.ix (.v 2) (.c (.int 0)), .ix (.v 2) (.c (.int 2)), .ix (.v 2) (.c (.int 3)), .ix (.v 2) (.c (.int 4))])] [],
    .ret (.bin .add (.lst [.ix (.v 1) (.c (.int 0)), .ix (.v 1) (.c (.int 2))]) (.sl (.call 54 [.v 0, .c (.int 25), .v 1]) .nil (.last (.c (.int 2)))))]
def T_L_drawn : Nat → List D → Option D
  | 42 => F_L_cell
  | 47 => F_L_lot
  | 54 => F_L_scene
  | 55 => F_L_chain
  | _ => fun _ => none
def Z_L_drawn : Sm := { F := T_L_drawn, C := cval, L := [], M := [], P := [], K := [] }
def Y_L_drawn : Stat := { N := N_L_drawn, Z := Z_L_drawn, fns := [(42, "_law_cell"), (47, "_law_lot"), (54, "_law_scene"), (55, "_law_chain")], cns := [], bl := blts, gcd := false, lv := 2, kws := [], mks := [] }
def F_L_drawn (ds : List D) : Option D := evF Z_L_drawn ir_L_drawn 1 3 ds
theorem ck_L_drawn : ckSs Y_L_drawn ir_L_drawn (defScope s_L_drawn) (fun _ => true) (defBody s_L_drawn) = true := by decide +kernel
theorem sc_L_drawn : FnScope N_L_drawn ["_law_script"] (defScope s_L_drawn) := ⟨rfl, rfl, rfl, by decide +kernel, rfl, by decide +kernel, by decide +kernel⟩
/-! ### frozen -/
abbrev s_frozen : Stmt := top 9
def N_frozen : List Str := ["value", "part"]
def ir_frozen : List S := [.ifs (.isi (.v 0) [.list, .tuple] true) [.ret (.blt .tuple [.lc [("part", 1)] (.nm 1) (.seq (.v 0)) (.c (.bl true)) (.call 6 [.v 1])])] [],
    .ret (.v 0)]
def F_frozen_0 : List D → Option D := fun _ => none
def T_frozen_1 : Nat → List D → Option D
  | 6 => F_frozen_0
  | _ => fun _ => none
def Z_frozen_1 : Sm := { F := T_frozen_1, C := cval, L := [], M := [], P := [], K := [] }
def Y_frozen_1 : Stat := { N := N_frozen, Z := Z_frozen_1, fns := [(6, "frozen")], cns := [], bl := blts, gcd := false, lv := 1, kws := [], mks := [] }
def F_frozen_1 (ds : List D) : Option D := evF Z_frozen_1 ir_frozen 1 2 ds
theorem ck_frozen_1 : ckSs Y_frozen_1 ir_frozen (defScope s_frozen) (fun _ => true) (defBody s_frozen) = true := by decide +kernel
theorem sc_frozen : FnScope N_frozen ["value"] (defScope s_frozen) := ⟨rfl, rfl, rfl, by decide +kernel, rfl, by decide +kernel, by decide +kernel⟩
def T_frozen_2 : Nat → List D → Option D
  | 6 => F_frozen_1
  | _ => fun _ => none
def Z_frozen_2 : Sm := { F := T_frozen_2, C := cval, L := [], M := [], P := [], K := [] }
def Y_frozen_2 : Stat := { N := N_frozen, Z := Z_frozen_2, fns := [(6, "frozen")], cns := [], bl := blts, gcd := false, lv := 2, kws := [], mks := [] }
def F_frozen_2 (ds : List D) : Option D := evF Z_frozen_2 ir_frozen 1 2 ds
theorem ck_frozen_2 : ckSs Y_frozen_2 ir_frozen (defScope s_frozen) (fun _ => true) (defBody s_frozen) = true := by decide +kernel
def T_frozen_3 : Nat → List D → Option D
  | 6 => F_frozen_2
  | _ => fun _ => none
def Z_frozen_3 : Sm := { F := T_frozen_3, C := cval, L := [], M := [], P := [], K := [] }
def Y_frozen_3 : Stat := { N := N_frozen, Z := Z_frozen_3, fns := [(6, "frozen")], cns := [], bl := blts, gcd := false, lv := 3, kws := [], mks := [] }
def F_frozen_3 (ds : List D) : Option D := evF Z_frozen_3 ir_frozen 1 2 ds
theorem ck_frozen_3 : ckSs Y_frozen_3 ir_frozen (defScope s_frozen) (fun _ => true) (defBody s_frozen) = true := by decide +kernel
def T_frozen_4 : Nat → List D → Option D
  | 6 => F_frozen_3
  | _ => fun _ => none
def Z_frozen_4 : Sm := { F := T_frozen_4, C := cval, L := [], M := [], P := [], K := [] }
def Y_frozen_4 : Stat := { N := N_frozen, Z := Z_frozen_4, fns := [(6, "frozen")], cns := [], bl := blts, gcd := false, lv := 4, kws := [], mks := [] }
def F_frozen_4 (ds : List D) : Option D := evF Z_frozen_4 ir_frozen 1 2 ds
theorem ck_frozen_4 : ckSs Y_frozen_4 ir_frozen (defScope s_frozen) (fun _ => true) (defBody s_frozen) = true := by decide +kernel
def T_frozen_5 : Nat → List D → Option D
  | 6 => F_frozen_4
  | _ => fun _ => none
def Z_frozen_5 : Sm := { F := T_frozen_5, C := cval, L := [], M := [], P := [], K := [] }
def Y_frozen_5 : Stat := { N := N_frozen, Z := Z_frozen_5, fns := [(6, "frozen")], cns := [], bl := blts, gcd := false, lv := 5, kws := [], mks := [] }
def F_frozen_5 (ds : List D) : Option D := evF Z_frozen_5 ir_frozen 1 2 ds
theorem ck_frozen_5 : ckSs Y_frozen_5 ir_frozen (defScope s_frozen) (fun _ => true) (defBody s_frozen) = true := by decide +kernel
/-! ### is_name -/
abbrev s_is_name : Stmt := top 34
def N_is_name : List Str := ["value", "sign"]
def ir_is_name : List S := [.ifs (.not (.isi (.v 0) [.str] false)) [.ret (.c (.bl false))] [],
    .ifs (.or (.not (.chain .le .le (.c (.int 1)) (.blt .len [.v 0]) (.g 4))) (.last (.cmp .notin (.ix (.v 0) (.c (.int 0))) (.g 2)))) [.ret (.c (.bl false))] [],
    .for_ (.nm 1) (.seq (.v 0)) [.ifs (.and (.cmp .notin (.v 1) (.g 2)) (.last (.cmp .notin (.v 1) (.g 3)))) [.ret (.c (.bl false))] []],
    .ret (.c (.bl true))]
def T_is_name : Nat → List D → Option D := fun _ _ => none
def Z_is_name : Sm := { F := T_is_name, C := cval, L := [], M := [], P := [], K := [] }
def Y_is_name : Stat := { N := N_is_name, Z := Z_is_name, fns := [], cns := [(4, "LONGEST_NAME"), (2, "LETTERS"), (3, "DIGITS")], bl := blts, gcd := false, lv := 0, kws := [], mks := [] }
def F_is_name (ds : List D) : Option D := evF Z_is_name ir_is_name 1 2 ds
theorem ck_is_name : ckSs Y_is_name ir_is_name (defScope s_is_name) (fun _ => true) (defBody s_is_name) = true := by decide +kernel
theorem sc_is_name : FnScope N_is_name ["value"] (defScope s_is_name) := ⟨rfl, rfl, rfl, by decide +kernel, rfl, by decide +kernel, by decide +kernel⟩
/-! ### is_layer -/
abbrev s_is_layer : Stmt := top 4
def N_is_layer : List Str := ["value", "sign"]
def ir_is_layer : List S := [.ifs (.not (.isi (.v 0) [.str] false)) [.ret (.c (.bl false))] [],
    .ifs (.not (.chain .le .le (.c (.int 1)) (.blt .len [.v 0]) (.g 1))) [.ret (.c (.bl false))] [],
    .for_ (.nm 1) (.seq (.v 0)) [.ifs (.cmp .notin (.v 1) (.g 0)) [.ret (.c (.bl false))] []],
    .ret (.c (.bl true))]
def T_is_layer : Nat → List D → Option D := fun _ _ => none
def Z_is_layer : Sm := { F := T_is_layer, C := cval, L := [], M := [], P := [], K := [] }
def Y_is_layer : Stat := { N := N_is_layer, Z := Z_is_layer, fns := [], cns := [(1, "MOST_CELLS"), (0, "SIGNS")], bl := blts, gcd := false, lv := 0, kws := [], mks := [] }
def F_is_layer (ds : List D) : Option D := evF Z_is_layer ir_is_layer 1 2 ds
theorem ck_is_layer : ckSs Y_is_layer ir_is_layer (defScope s_is_layer) (fun _ => true) (defBody s_is_layer) = true := by decide +kernel
theorem sc_is_layer : FnScope N_is_layer ["value"] (defScope s_is_layer) := ⟨rfl, rfl, rfl, by decide +kernel, rfl, by decide +kernel, by decide +kernel⟩
/-! ### empty_layer -/
abbrev s_empty_layer : Stmt := top 8
def N_empty_layer : List Str := ["size"]
def ir_empty_layer : List S := [.ret (.bin .mul (.c (.str [45])) (.v 0))]
def T_empty_layer : Nat → List D → Option D := fun _ _ => none
def Z_empty_layer : Sm := { F := T_empty_layer, C := cval, L := [], M := [], P := [], K := [] }
def Y_empty_layer : Stat := { N := N_empty_layer, Z := Z_empty_layer, fns := [], cns := [], bl := blts, gcd := false, lv := 0, kws := [], mks := [] }
def F_empty_layer (ds : List D) : Option D := evF Z_empty_layer ir_empty_layer 1 1 ds
theorem ck_empty_layer : ckSs Y_empty_layer ir_empty_layer (defScope s_empty_layer) (fun _ => true) (defBody s_empty_layer) = true := by decide +kernel
theorem sc_empty_layer : FnScope N_empty_layer ["size"] (defScope s_empty_layer) := ⟨rfl, rfl, rfl, by decide +kernel, rfl, by decide +kernel, by decide +kernel⟩
/-! ### is_stamp -/
abbrev s_is_stamp : Stmt := top 35
def N_is_stamp : List Str := ["value", "size"]
def ir_is_stamp : List S := [.ret (.and (.call 1 [.v 0]) (.and (.cmp .eq (.blt .len [.v 0]) (.v 1)) (.last (.cmp .ne (.v 0) (.call 5 [.v 1])))))]
def T_is_stamp : Nat → List D → Option D
  | 1 => F_is_layer
  | 5 => F_empty_layer
  | _ => fun _ => none
def Z_is_stamp : Sm := { F := T_is_stamp, C := cval, L := [], M := [], P := [], K := [] }
def Y_is_stamp : Stat := { N := N_is_stamp, Z := Z_is_stamp, fns := [(1, "is_layer"), (5, "empty_layer")], cns := [], bl := blts, gcd := false, lv := 1, kws := [], mks := [] }
def F_is_stamp (ds : List D) : Option D := evF Z_is_stamp ir_is_stamp 2 2 ds
theorem ck_is_stamp : ckSs Y_is_stamp ir_is_stamp (defScope s_is_stamp) (fun _ => true) (defBody s_is_stamp) = true := by decide +kernel
theorem sc_is_stamp : FnScope N_is_stamp ["value", "size"] (defScope s_is_stamp) := ⟨rfl, rfl, rfl, by decide +kernel, rfl, by decide +kernel, by decide +kernel⟩
/-! ### Stock.__init__ -/
abbrev s_Stock___init__ : Stmt := mtd 36 0
def N_Stock___init__ : List Str := ["self", "size", "stamps", "pairs", "numbers", "index", "pair"]
def ir_Stock___init__ : List S := [.asg (.nm 3) (.call 6 [.v 2]),
    .newd 4,
    .for_ (.tp [5, 6]) (.enum (.v 3)) [.ifs (.not (.call 23 [.ix (.v 6) (.c (.int 0))])) [.never] [], .ifs (.not (.call 24 [.ix (.v 6) (.c (.int 1)), .v 1])) [.never] [], .ifs (.ino false (.ix (.v 6) (.c (.int 0))) 4) [.never] [], .put 4 (.ix (.v 6) (.c (.int 0))) (.v 5)],
    .setf 0 "size" (.v 1),
    .setf 0 "stamps" (.v 3),
    .setf 0 "layers" (.blt .tuple [.lc [("pair", 6)] (.nm 6) (.seq (.v 3)) (.c (.bl true)) (.ix (.v 6) (.c (.int 1)))]),
    .frz 4,
    .setf 0 "numbers" (.v 4)]
def T_Stock___init__ : Nat → List D → Option D
  | 6 => F_frozen_5
  | 23 => F_is_name
  | 24 => F_is_stamp
  | _ => fun _ => none
def Z_Stock___init__ : Sm := { F := T_Stock___init__, C := cval, L := [("Stock", "layers"), ("Stock", "numbers"), ("Stock", "size"), ("Stock", "stamps")], M := [], P := [], K := [] }
def Y_Stock___init__ : Stat := { N := N_Stock___init__, Z := Z_Stock___init__, fns := [(6, "frozen"), (23, "is_name"), (24, "is_stamp")], cns := [], bl := blts, gcd := false, lv := 6, kws := [], mks := [] }
def F_Stock___init__ (ds : List D) : Option D := valI "Stock" Z_Stock___init__ ir_Stock___init__ 3 7 ds
theorem ck_Stock___init__ : ckSs Y_Stock___init__ ir_Stock___init__ (defScope s_Stock___init__) (fun _ => true) (defBody s_Stock___init__) = true := by decide +kernel
theorem sc_Stock___init__ : FnScope N_Stock___init__ ["self", "size", "stamps"] (defScope s_Stock___init__) := ⟨rfl, rfl, rfl, by decide +kernel, rfl, by decide +kernel, by decide +kernel⟩
/-! ### agree -/
abbrev s_agree : Stmt := top 6
def N_agree : List Str := ["one", "two", "first", "second"]
def ir_agree : List S := [.for_ (.tp [2, 3]) (.zip (.v 0) (.v 1)) [.ifs (.and (.cmp .ne (.v 2) (.c (.str [45]))) (.and (.cmp .ne (.v 3) (.c (.str [45]))) (.last (.cmp .ne (.v 2) (.v 3))))) [.ret (.c (.bl false))] []],
    .ret (.c (.bl true))]
def T_agree : Nat → List D → Option D := fun _ _ => none
def Z_agree : Sm := { F := T_agree, C := cval, L := [], M := [], P := [], K := [] }
def Y_agree : Stat := { N := N_agree, Z := Z_agree, fns := [], cns := [], bl := blts, gcd := false, lv := 0, kws := [], mks := [] }
def F_agree (ds : List D) : Option D := evF Z_agree ir_agree 2 4 ds
theorem ck_agree : ckSs Y_agree ir_agree (defScope s_agree) (fun _ => true) (defBody s_agree) = true := by decide +kernel
theorem sc_agree : FnScope N_agree ["one", "two"] (defScope s_agree) := ⟨rfl, rfl, rfl, by decide +kernel, rfl, by decide +kernel, by decide +kernel⟩
/-! ### freed -/
abbrev s_freed : Stmt := top 7
def N_freed : List Str := ["one", "chosen", "cell"]
def ir_freed : List S := [.ret (.join (.c (.str [])) (.lc [("cell", 2)] (.nm 2) (.r1 (.blt .len [.v 0])) (.c (.bl true)) (.ite (.cmp .isin (.v 2) (.v 1)) (.c (.str [45])) (.ix (.v 0) (.v 2)))))]
def T_freed : Nat → List D → Option D := fun _ _ => none
def Z_freed : Sm := { F := T_freed, C := cval, L := [], M := [], P := [], K := [] }
def Y_freed : Stat := { N := N_freed, Z := Z_freed, fns := [], cns := [], bl := blts, gcd := false, lv := 0, kws := [], mks := [] }
def F_freed (ds : List D) : Option D := evF Z_freed ir_freed 2 3 ds
theorem ck_freed : ckSs Y_freed ir_freed (defScope s_freed) (fun _ => true) (defBody s_freed) = true := by decide +kernel
theorem sc_freed : FnScope N_freed ["one", "chosen"] (defScope s_freed) := ⟨rfl, rfl, rfl, by decide +kernel, rfl, by decide +kernel, by decide +kernel⟩
/-! ### cells_of -/
abbrev s_cells_of : Stmt := top 5
def N_cells_of : List Str := ["one", "cell"]
def ir_cells_of : List S := [.ret (.blt .tuple [.lc [("cell", 1)] (.nm 1) (.r1 (.blt .len [.v 0])) (.cmp .ne (.ix (.v 0) (.v 1)) (.c (.str [45]))) (.v 1)])]
def T_cells_of : Nat → List D → Option D := fun _ _ => none
def Z_cells_of : Sm := { F := T_cells_of, C := cval, L := [], M := [], P := [], K := [] }
def Y_cells_of : Stat := { N := N_cells_of, Z := Z_cells_of, fns := [], cns := [], bl := blts, gcd := false, lv := 0, kws := [], mks := [] }
def F_cells_of (ds : List D) : Option D := evF Z_cells_of ir_cells_of 1 2 ds
theorem ck_cells_of : ckSs Y_cells_of ir_cells_of (defScope s_cells_of) (fun _ => true) (defBody s_cells_of) = true := by decide +kernel
theorem sc_cells_of : FnScope N_cells_of ["one"] (defScope s_cells_of) := ⟨rfl, rfl, rfl, by decide +kernel, rfl, by decide +kernel, by decide +kernel⟩
/-! ### peeled -/
abbrev s_peeled : Stmt := top 13
def N_peeled : List Str := ["left", "stamp"]
def ir_peeled : List S := [.ret (.call 4 [.v 0, .call 2 [.v 1]])]
def T_peeled : Nat → List D → Option D
  | 2 => F_cells_of
  | 4 => F_freed
  | _ => fun _ => none
def Z_peeled : Sm := { F := T_peeled, C := cval, L := [], M := [], P := [], K := [] }
def Y_peeled : Stat := { N := N_peeled, Z := Z_peeled, fns := [(2, "cells_of"), (4, "freed")], cns := [], bl := blts, gcd := false, lv := 1, kws := [], mks := [] }
def F_peeled (ds : List D) : Option D := evF Z_peeled ir_peeled 2 2 ds
theorem ck_peeled : ckSs Y_peeled ir_peeled (defScope s_peeled) (fun _ => true) (defBody s_peeled) = true := by decide +kernel
theorem sc_peeled : FnScope N_peeled ["left", "stamp"] (defScope s_peeled) := ⟨rfl, rfl, rfl, by decide +kernel, rfl, by decide +kernel, by decide +kernel⟩
/-! ### frees_marks -/
abbrev s_frees_marks : Stmt := top 14
def N_frees_marks : List Str := ["stamp", "left"]
def ir_frees_marks : List S := [.ret (.and (.call 3 [.v 0, .v 1]) (.last (.cmp .ne (.call 9 [.v 1, .v 0]) (.v 1))))]
def T_frees_marks : Nat → List D → Option D
  | 3 => F_agree
  | 9 => F_peeled
  | _ => fun _ => none
def Z_frees_marks : Sm := { F := T_frees_marks, C := cval, L := [], M := [], P := [], K := [] }
def Y_frees_marks : Stat := { N := N_frees_marks, Z := Z_frees_marks, fns := [(3, "agree"), (9, "peeled")], cns := [], bl := blts, gcd := false, lv := 2, kws := [], mks := [] }
def F_frees_marks (ds : List D) : Option D := evF Z_frees_marks ir_frees_marks 2 2 ds
theorem ck_frees_marks : ckSs Y_frees_marks ir_frees_marks (defScope s_frees_marks) (fun _ => true) (defBody s_frees_marks) = true := by decide +kernel
theorem sc_frees_marks : FnScope N_frees_marks ["stamp", "left"] (defScope s_frees_marks) := ⟨rfl, rfl, rfl, by decide +kernel, rfl, by decide +kernel, by decide +kernel⟩
/-! ### first_to_peel -/
abbrev s_first_to_peel : Stmt := top 15
def N_first_to_peel : List Str := ["layers", "left", "number", "stamp"]
def ir_first_to_peel : List S := [.for_ (.tp [2, 3]) (.enum (.v 0)) [.ifs (.call 10 [.v 3, .v 1]) [.ret (.v 2)] []],
    .ret (.c .non)]
def T_first_to_peel : Nat → List D → Option D
  | 10 => F_frees_marks
  | _ => fun _ => none
def Z_first_to_peel : Sm := { F := T_first_to_peel, C := cval, L := [], M := [], P := [], K := [] }
def Y_first_to_peel : Stat := { N := N_first_to_peel, Z := Z_first_to_peel, fns := [(10, "frees_marks")], cns := [], bl := blts, gcd := false, lv := 3, kws := [], mks := [] }
def F_first_to_peel (ds : List D) : Option D := evF Z_first_to_peel ir_first_to_peel 2 4 ds
theorem ck_first_to_peel : ckSs Y_first_to_peel ir_first_to_peel (defScope s_first_to_peel) (fun _ => true) (defBody s_first_to_peel) = true := by decide +kernel
theorem sc_first_to_peel : FnScope N_first_to_peel ["layers", "left"] (defScope s_first_to_peel) := ⟨rfl, rfl, rfl, by decide +kernel, rfl, by decide +kernel, by decide +kernel⟩
/-! ### peel_by -/
abbrev s_peel_by : Stmt := top 16
def N_peel_by : List Str := ["layers", "left", "order", "rest", "number"]
def ir_peel_by : List S := [.own 2 [],
    .asg (.nm 3) (.v 1),
    .asg (.nm 4) (.call 11 [.v 0, .v 3]),
    .whl 1000000 (.cmp .isnot (.v 4) (.c .non)) [.app 2 (.v 4), .asg (.nm 3) (.call 9 [.v 3, .ix (.v 0) (.v 4)]), .asg (.nm 4) (.call 11 [.v 0, .v 3])],
    .frz 2,
    .ret (.tup [.blt .tuple [.v 2], .v 3])]
def T_peel_by : Nat → List D → Option D
  | 9 => F_peeled
  | 11 => F_first_to_peel
  | _ => fun _ => none
def Z_peel_by : Sm := { F := T_peel_by, C := cval, L := [], M := [], P := [], K := [] }
def Y_peel_by : Stat := { N := N_peel_by, Z := Z_peel_by, fns := [(9, "peeled"), (11, "first_to_peel")], cns := [], bl := blts, gcd := false, lv := 4, kws := [], mks := [] }
def F_peel_by (ds : List D) : Option D := evF Z_peel_by ir_peel_by 2 5 ds
theorem ck_peel_by : ckSs Y_peel_by ir_peel_by (defScope s_peel_by) (fun _ => true) (defBody s_peel_by) = true := by decide +kernel
theorem sc_peel_by : FnScope N_peel_by ["layers", "left"] (defScope s_peel_by) := ⟨rfl, rfl, rfl, by decide +kernel, rfl, by decide +kernel, by decide +kernel⟩
/-! ### Stock.names -/
abbrev s_Stock_names : Stmt := mtd 36 1
def N_Stock_names : List Str := ["self", "pair"]
def ir_Stock_names : List S := [.ret (.blt .tuple [.lc [("pair", 1)] (.nm 1) (.seq (.fld (.v 0) "stamps")) (.c (.bl true)) (.ix (.v 1) (.c (.int 0)))])]
def T_Stock_names : Nat → List D → Option D := fun _ _ => none
def Z_Stock_names : Sm := { F := T_Stock_names, C := cval, L := [("Stock", "stamps")], M := [], P := [], K := [] }
def Y_Stock_names : Stat := { N := N_Stock_names, Z := Z_Stock_names, fns := [], cns := [], bl := blts, gcd := false, lv := 0, kws := [], mks := [] }
def F_Stock_names (ds : List D) : Option D := evF Z_Stock_names ir_Stock_names 1 2 ds
theorem ck_Stock_names : ckSs Y_Stock_names ir_Stock_names (defScope s_Stock_names) (fun _ => true) (defBody s_Stock_names) = true := by decide +kernel
theorem sc_Stock_names : FnScope N_Stock_names ["self"] (defScope s_Stock_names) := ⟨rfl, rfl, rfl, by decide +kernel, rfl, by decide +kernel, by decide +kernel⟩
/-! ### Peeling.__init__ -/
abbrev s_Peeling___init__ : Stmt := mtd 12 0
def N_Peeling___init__ : List Str := ["self", "seen", "order", "left"]
def ir_Peeling___init__ : List S := [.setf 0 "seen" (.v 1),
    .setf 0 "order" (.v 2),
    .setf 0 "left" (.v 3)]
def T_Peeling___init__ : Nat → List D → Option D := fun _ _ => none
def Z_Peeling___init__ : Sm := { F := T_Peeling___init__, C := cval, L := [("Peeling", "left"), ("Peeling", "order"), ("Peeling", "seen")], M := [], P := [], K := [] }
def Y_Peeling___init__ : Stat := { N := N_Peeling___init__, Z := Z_Peeling___init__, fns := [], cns := [], bl := blts, gcd := false, lv := 0, kws := [], mks := [] }
def F_Peeling___init__ (ds : List D) : Option D := valI "Peeling" Z_Peeling___init__ ir_Peeling___init__ 4 4 ds
theorem ck_Peeling___init__ : ckSs Y_Peeling___init__ ir_Peeling___init__ (defScope s_Peeling___init__) (fun _ => true) (defBody s_Peeling___init__) = true := by decide +kernel
theorem sc_Peeling___init__ : FnScope N_Peeling___init__ ["self", "seen", "order", "left"] (defScope s_Peeling___init__) := ⟨rfl, rfl, rfl, by decide +kernel, rfl, by decide +kernel, by decide +kernel⟩
/-! ### peeling -/
abbrev s_peeling : Stmt := top 17
def N_peeling : List Str := ["stock", "seen", "names", "order", "left", "number"]
def ir_peeling : List S := [.asg (.tp [3, 4]) (.call 12 [.fld (.v 0) "layers", .v 1]),
    .asg (.nm 2) (.prp (.v 0) "names"),
    .ret (.mk 8 [.v 1, .blt .tuple [.lc [("number", 5)] (.nm 5) (.seq (.v 3)) (.c (.bl true)) (.ix (.v 2) (.v 5))], .v 4])]
def T_peeling : Nat → List D → Option D
  | 8 => F_Peeling___init__
  | 12 => F_peel_by
  | 26 => F_Stock_names
  | _ => fun _ => none
def Z_peeling : Sm := { F := T_peeling, C := cval, L := [("Stock", "layers")], M := [], P := [("Stock", "names", 26)], K := [] }
def Y_peeling : Stat := { N := N_peeling, Z := Z_peeling, fns := [(12, "peel_by")], cns := [], bl := blts, gcd := false, lv := 5, kws := [], mks := [(8, "Peeling")] }
def F_peeling (ds : List D) : Option D := evF Z_peeling ir_peeling 2 6 ds
theorem ck_peeling : ckSs Y_peeling ir_peeling (defScope s_peeling) (fun _ => true) (defBody s_peeling) = true := by decide +kernel
theorem sc_peeling : FnScope N_peeling ["stock", "seen"] (defScope s_peeling) := ⟨rfl, rfl, rfl, by decide +kernel, rfl, by decide +kernel, by decide +kernel⟩
/-! ### first_clash -/
abbrev s_first_clash : Stmt := top 39
def N_first_clash : List Str := ["one", "two", "cell", "mark"]
def ir_first_clash : List S := [.for_ (.tp [2, 3]) (.enum (.v 0)) [.ifs (.and (.cmp .ne (.v 3) (.c (.str [45]))) (.and (.cmp .ne (.ix (.v 1) (.v 2)) (.c (.str [45]))) (.last (.cmp .ne (.v 3) (.ix (.v 1) (.v 2)))))) [.ret (.v 2)] []],
    .ret (.c .non)]
def T_first_clash : Nat → List D → Option D := fun _ _ => none
def Z_first_clash : Sm := { F := T_first_clash, C := cval, L := [], M := [], P := [], K := [] }
def Y_first_clash : Stat := { N := N_first_clash, Z := Z_first_clash, fns := [], cns := [], bl := blts, gcd := false, lv := 0, kws := [], mks := [] }
def F_first_clash (ds : List D) : Option D := evF Z_first_clash ir_first_clash 2 4 ds
theorem ck_first_clash : ckSs Y_first_clash ir_first_clash (defScope s_first_clash) (fun _ => true) (defBody s_first_clash) = true := by decide +kernel
theorem sc_first_clash : FnScope N_first_clash ["one", "two"] (defScope s_first_clash) := ⟨rfl, rfl, rfl, by decide +kernel, rfl, by decide +kernel, by decide +kernel⟩
/-! ### Making.__init__ -/
abbrev s_Making___init__ : Stmt := mtd 38 0
def N_Making___init__ : List Str := ["self", "made", "row", "cells", "cell"]
def ir_Making___init__ : List S := [.setf 0 "made" (.v 1),
    .setf 0 "row" (.v 2),
    .setf 0 "cells" (.v 3),
    .setf 0 "cell" (.v 4)]
def T_Making___init__ : Nat → List D → Option D := fun _ _ => none
def Z_Making___init__ : Sm := { F := T_Making___init__, C := cval, L := [("Making", "cell"), ("Making", "cells"), ("Making", "made"), ("Making", "row")], M := [], P := [], K := [] }
def Y_Making___init__ : Stat := { N := N_Making___init__, Z := Z_Making___init__, fns := [], cns := [], bl := blts, gcd := false, lv := 0, kws := [], mks := [] }
def F_Making___init__ (ds : List D) : Option D := valI "Making" Z_Making___init__ ir_Making___init__ 5 5 ds
theorem ck_Making___init__ : ckSs Y_Making___init__ ir_Making___init__ (defScope s_Making___init__) (fun _ => true) (defBody s_Making___init__) = true := by decide +kernel
theorem sc_Making___init__ : FnScope N_Making___init__ ["self", "made", "row", "cells", "cell"] (defScope s_Making___init__) := ⟨rfl, rfl, rfl, by decide +kernel, rfl, by decide +kernel, by decide +kernel⟩
/-! ### making -/
abbrev s_making : Stmt := top 40
def N_making : List Str := ["stock", "start", "seen", "found", "cell"]
def ir_making : List S := [.asg (.nm 3) (.call 13 [.v 0, .v 2]),
    .asg (.nm 4) (.call 38 [.v 1, .fld (.v 3) "left"]),
    .ifs (.cmp .is (.v 4) (.c .non)) [.ret (.mk 37 [.c (.bl true), .u1 .rev (.fld (.v 3) "order"), .tup [], .c .non])] [],
    .ret (.mk 37 [.c (.bl false), .c .non, .call 2 [.fld (.v 3) "left"], .v 4])]
def T_making : Nat → List D → Option D
  | 2 => F_cells_of
  | 13 => F_peeling
  | 37 => F_Making___init__
  | 38 => F_first_clash
  | _ => fun _ => none
def Z_making : Sm := { F := T_making, C := cval, L := [("Peeling", "left"), ("Peeling", "order")], M := [], P := [], K := [] }
def Y_making : Stat := { N := N_making, Z := Z_making, fns := [(2, "cells_of"), (13, "peeling"), (38, "first_clash")], cns := [], bl := blts, gcd := false, lv := 6, kws := [], mks := [(37, "Making")] }
def F_making (ds : List D) : Option D := evF Z_making ir_making 3 5 ds
theorem ck_making : ckSs Y_making ir_making (defScope s_making) (fun _ => true) (defBody s_making) = true := by decide +kernel
theorem sc_making : FnScope N_making ["stock", "start", "seen"] (defScope s_making) := ⟨rfl, rfl, rfl, by decide +kernel, rfl, by decide +kernel, by decide +kernel⟩
/-! ### _law_layer_of -/
abbrev s_L_layer_of : Stmt := top 58
def N_L_layer_of : List Str := ["_law_stamps", "_law_name", "_law_pair"]
def ir_L_layer_of : List S := [.for_ (.nm 2) (.seq (.v 0)) [.ifs (.cmp .eq (.ix (.v 2) (.c (.int 0))) (.v 1)) [.ret (.ix (.v 2) (.c (.int 1)))] []],
    .ret (.c .non)]
def T_L_layer_of : Nat → List D → Option D := fun _ _ => none
def Z_L_layer_of : Sm := { F := T_L_layer_of, C := cval, L := [], M := [], P := [], K := [] }
def Y_L_layer_of : Stat := { N := N_L_layer_of, Z := Z_L_layer_of, fns := [], cns := [], bl := blts, gcd := false, lv := 0, kws := [], mks := [] }
def F_L_layer_of (ds : List D) : Option D := evF Z_L_layer_of ir_L_layer_of 2 3 ds
theorem ck_L_layer_of : ckSs Y_L_layer_of ir_L_layer_of (defScope s_L_layer_of) (fun _ => true) (defBody s_L_layer_of) = true := by decide +kernel
theorem sc_L_layer_of : FnScope N_L_layer_of ["_law_stamps", "_law_name"] (defScope s_L_layer_of) := ⟨rfl, rfl, rfl, by decide +kernel, rfl, by decide +kernel, by decide +kernel⟩
/-! ### _law_agree -/
abbrev s_L_agree : Stmt := top 51
def N_L_agree : List Str := ["_law_one", "_law_two", "_law_k"]
def ir_L_agree : List S := [.for_ (.nm 2) (.r1 (.blt .len [.v 0])) [.ifs (.and (.cmp .ne (.ix (.v 0) (.v 2)) (.c (.str [45]))) (.and (.cmp .ne (.ix (.v 1) (.v 2)) (.c (.str [45]))) (.last (.cmp .ne (.ix (.v 0) (.v 2)) (.ix (.v 1) (.v 2)))))) [.ret (.c (.bl false))] []],
    .ret (.c (.bl true))]
def T_L_agree : Nat → List D → Option D := fun _ _ => none
def Z_L_agree : Sm := { F := T_L_agree, C := cval, L := [], M := [], P := [], K := [] }
def Y_L_agree : Stat := { N := N_L_agree, Z := Z_L_agree, fns := [], cns := [], bl := blts, gcd := false, lv := 0, kws := [], mks := [] }
def F_L_agree (ds : List D) : Option D := evF Z_L_agree ir_L_agree 2 3 ds
theorem ck_L_agree : ckSs Y_L_agree ir_L_agree (defScope s_L_agree) (fun _ => true) (defBody s_L_agree) = true := by decide +kernel
theorem sc_L_agree : FnScope N_L_agree ["_law_one", "_law_two"] (defScope s_L_agree) := ⟨rfl, rfl, rfl, by decide +kernel, rfl, by decide +kernel, by decide +kernel⟩
/-! ### _law_free -/
abbrev s_L_free : Stmt := top 52
def N_L_free : List Str := ["_law_one", "_law_two", "_law_k"]
def ir_L_free : List S := [.ret (.join (.c (.str [])) (.lc [("_law_k", 2)] (.nm 2) (.r1 (.blt .len [.v 0])) (.c (.bl true)) (.ix (.lst [.c (.str [45]), .ix (.v 0) (.v 2)]) (.blt .int [.cmp .eq (.ix (.v 1) (.v 2)) (.c (.str [45]))]))))]
def T_L_free : Nat → List D → Option D := fun _ _ => none
def Z_L_free : Sm := { F := T_L_free, C := cval, L := [], M := [], P := [], K := [] }
def Y_L_free : Stat := { N := N_L_free, Z := Z_L_free, fns := [], cns := [], bl := blts, gcd := false, lv := 0, kws := [], mks := [] }
def F_L_free (ds : List D) : Option D := evF Z_L_free ir_L_free 2 3 ds
theorem ck_L_free : ckSs Y_L_free ir_L_free (defScope s_L_free) (fun _ => true) (defBody s_L_free) = true := by decide +kernel
theorem sc_L_free : FnScope N_L_free ["_law_one", "_law_two"] (defScope s_L_free) := ⟨rfl, rfl, rfl, by decide +kernel, rfl, by decide +kernel, by decide +kernel⟩
/-! ### _law_first -/
abbrev s_L_first : Stmt := top 62
def N_L_first : List Str := ["_law_stamps", "_law_stay", "_law_k"]
def ir_L_first : List S := [.for_ (.nm 2) (.r1 (.blt .len [.v 0])) [.ifs (.and (.call 49 [.ix (.ix (.v 0) (.v 2)) (.c (.int 1)), .v 1]) (.last (.cmp .ne (.call 50 [.v 1, .ix (.ix (.v 0) (.v 2)) (.c (.int 1))]) (.v 1)))) [.ret (.v 2)] []],
    .ret (.c .non)]
def T_L_first : Nat → List D → Option D
  | 49 => F_L_agree
  | 50 => F_L_free
  | _ => fun _ => none
def Z_L_first : Sm := { F := T_L_first, C := cval, L := [], M := [], P := [], K := [] }
def Y_L_first : Stat := { N := N_L_first, Z := Z_L_first, fns := [(49, "_law_agree"), (50, "_law_free")], cns := [], bl := blts, gcd := false, lv := 1, kws := [], mks := [] }
def F_L_first (ds : List D) : Option D := evF Z_L_first ir_L_first 2 3 ds
theorem ck_L_first : ckSs Y_L_first ir_L_first (defScope s_L_first) (fun _ => true) (defBody s_L_first) = true := by decide +kernel
theorem sc_L_first : FnScope N_L_first ["_law_stamps", "_law_stay"] (defScope s_L_first) := ⟨rfl, rfl, rfl, by decide +kernel, rfl, by decide +kernel, by decide +kernel⟩
/-! ### _law_peel -/
abbrev s_L_peel : Stmt := top 63
def N_L_peel : List Str := ["_law_stamps", "_law_shown", "_law_order", "_law_stay", "_law_turn", "_law_number"]
def ir_L_peel : List S := [.own 2 [],
    .asg (.nm 3) (.v 1),
    .for_ (.nm 4) (.r1 (.bin .add (.blt .len [.v 0]) (.c (.int 1)))) [.asg (.nm 5) (.call 60 [.v 0, .v 3]), .ifs (.cmp .is (.v 5) (.c .non)) [.brk] [], .app 2 (.v 5), .asg (.nm 3) (.call 50 [.v 3, .ix (.ix (.v 0) (.v 5)) (.c (.int 1))])],
    .frz 2,
    .ret (.lst [.v 2, .v 3])]
def T_L_peel : Nat → List D → Option D
  | 50 => F_L_free
  | 60 => F_L_first
  | _ => fun _ => none
def Z_L_peel : Sm := { F := T_L_peel, C := cval, L := [], M := [], P := [], K := [] }
def Y_L_peel : Stat := { N := N_L_peel, Z := Z_L_peel, fns := [(50, "_law_free"), (60, "_law_first")], cns := [], bl := blts, gcd := false, lv := 2, kws := [], mks := [] }
def F_L_peel (ds : List D) : Option D := evF Z_L_peel ir_L_peel 2 6 ds
theorem ck_L_peel : ckSs Y_L_peel ir_L_peel (defScope s_L_peel) (fun _ => true) (defBody s_L_peel) = true := by decide +kernel
theorem sc_L_peel : FnScope N_L_peel ["_law_stamps", "_law_shown"] (defScope s_L_peel) := ⟨rfl, rfl, rfl, by decide +kernel, rfl, by decide +kernel, by decide +kernel⟩
/-! ### _law_ground -/
abbrev s_L_ground : Stmt := top 65
def N_L_ground : List Str := ["_law_base", "_law_stay", "_law_both", "_law_k"]
def ir_L_ground : List S := [.asg (.nm 2) (.call 48 [.v 0, .v 1]),
    .ret (.join (.c (.str [])) (.lc [("_law_k", 3)] (.nm 3) (.r1 (.blt .len [.v 2])) (.c (.bl true)) (.ix (.lst [.ix (.v 2) (.v 3), .c (.str [46])]) (.blt .int [.cmp .eq (.ix (.v 2) (.v 3)) (.c (.str [45]))]))))]
def T_L_ground : Nat → List D → Option D
  | 48 => F_L_press
  | _ => fun _ => none
def Z_L_ground : Sm := { F := T_L_ground, C := cval, L := [], M := [], P := [], K := [] }
def Y_L_ground : Stat := { N := N_L_ground, Z := Z_L_ground, fns := [(48, "_law_press")], cns := [], bl := blts, gcd := false, lv := 1, kws := [], mks := [] }
def F_L_ground (ds : List D) : Option D := evF Z_L_ground ir_L_ground 2 4 ds
theorem ck_L_ground : ckSs Y_L_ground ir_L_ground (defScope s_L_ground) (fun _ => true) (defBody s_L_ground) = true := by decide +kernel
theorem sc_L_ground : FnScope N_L_ground ["_law_base", "_law_stay"] (defScope s_L_ground) := ⟨rfl, rfl, rfl, by decide +kernel, rfl, by decide +kernel, by decide +kernel⟩
/-! ### _law_fits -/
abbrev s_L_fits : Stmt := top 59
def N_L_fits : List Str := ["_law_sheet_here", "_law_layer"]
def ir_L_fits : List S := [.ret (.and (.cmp .eq (.blt .len [.v 0]) (.blt .len [.v 1])) (.and (.cmp .notin (.c (.str [45])) (.v 0)) (.last (.call 49 [.v 0, .v 1]))))]
def T_L_fits : Nat → List D → Option D
  | 49 => F_L_agree
  | _ => fun _ => none
def Z_L_fits : Sm := { F := T_L_fits, C := cval, L := [], M := [], P := [], K := [] }
def Y_L_fits : Stat := { N := N_L_fits, Z := Z_L_fits, fns := [(49, "_law_agree")], cns := [], bl := blts, gcd := false, lv := 1, kws := [], mks := [] }
def F_L_fits (ds : List D) : Option D := evF Z_L_fits ir_L_fits 2 2 ds
theorem ck_L_fits : ckSs Y_L_fits ir_L_fits (defScope s_L_fits) (fun _ => true) (defBody s_L_fits) = true := by decide +kernel
theorem sc_L_fits : FnScope N_L_fits ["_law_sheet_here", "_law_layer"] (defScope s_L_fits) := ⟨rfl, rfl, rfl, by decide +kernel, rfl, by decide +kernel, by decide +kernel⟩
/-! ### _law_pressed -/
abbrev s_L_pressed : Stmt := top 64
def N_L_pressed : List Str := ["_law_stamps", "_law_layer", "_law_presses", "_law_after", "_law_name"]
def ir_L_pressed : List S := [.asg (.nm 3) (.v 1),
    .for_ (.nm 4) (.seq (.v 2)) [.asg (.nm 3) (.call 48 [.v 3, .call 56 [.v 0, .v 4]])],
    .ret (.v 3)]
def T_L_pressed : Nat → List D → Option D
  | 48 => F_L_press
  | 56 => F_L_layer_of
  | _ => fun _ => none
def Z_L_pressed : Sm := { F := T_L_pressed, C := cval, L := [], M := [], P := [], K := [] }
def Y_L_pressed : Stat := { N := N_L_pressed, Z := Z_L_pressed, fns := [(48, "_law_press"), (56, "_law_layer_of")], cns := [], bl := blts, gcd := false, lv := 1, kws := [], mks := [] }
def F_L_pressed (ds : List D) : Option D := evF Z_L_pressed ir_L_pressed 3 5 ds
theorem ck_L_pressed : ckSs Y_L_pressed ir_L_pressed (defScope s_L_pressed) (fun _ => true) (defBody s_L_pressed) = true := by decide +kernel
theorem sc_L_pressed : FnScope N_L_pressed ["_law_stamps", "_law_layer", "_law_presses"] (defScope s_L_pressed) := ⟨rfl, rfl, rfl, by decide +kernel, rfl, by decide +kernel, by decide +kernel⟩
/-! ### _law_leads -/
abbrev s_L_leads : Stmt := top 66
def N_L_leads : List Str := ["_law_stamps", "_law_base", "_law_shown", "_law_actual", "_law_walk", "_law_ground_here", "_law_name", "_law_number"]
def ir_L_leads : List S := [.ifs (.or (.not (.isi (.fld (.v 3) "row") [.tuple] false)) (.or (.cmp .ne (.fld (.v 3) "cells") (.tup [])) (.last (.not (.isi (.fld (.v 3) "cells") [.tuple] false))))) [.ret (.c (.bl false))] [],
    .ifs (.or (.cmp .isnot (.fld (.v 3) "cell") (.c .non)) (.last (.cmp .ne (.lc [("_law_name", 6)] (.nm 6) (.seq (.fld (.v 3) "row")) (.cmp .is (.call 56 [.v 0, .v 6]) (.c .non)) (.v 6)) (.lst [])))) [.ret (.c (.bl false))] [],
    .asg (.nm 4) (.call 61 [.v 0, .v 2]),
    .asg (.nm 5) (.call 63 [.v 1, .ix (.v 4) (.c (.int 1))]),
    .ifs (.or (.not (.call 57 [.v 5, .v 1])) (.last (.cmp .ne (.blt .list [.fld (.v 3) "row"]) (.lc [("_law_number", 7)] (.nm 7) (.seq (.u1 .rev (.ix (.v 4) (.c (.int 0))))) (.c (.bl true)) (.ix (.ix (.v 0) (.v 7)) (.c (.int 0))))))) [.ret (.c (.bl false))] [],
    .ret (.call 57 [.call 62 [.v 0, .v 5, .fld (.v 3) "row"], .v 2])]
def T_L_leads : Nat → List D → Option D
  | 56 => F_L_layer_of
  | 57 => F_L_fits
  | 61 => F_L_peel
  | 62 => F_L_pressed
  | 63 => F_L_ground
  | _ => fun _ => none
def Z_L_leads : Sm := { F := T_L_leads, C := cval, L := [("Making", "cell"), ("Making", "cells"), ("Making", "row")], M := [], P := [], K := [] }
def Y_L_leads : Stat := { N := N_L_leads, Z := Z_L_leads, fns := [(56, "_law_layer_of"), (57, "_law_fits"), (61, "_law_peel"), (62, "_law_pressed"), (63, "_law_ground")], cns := [], bl := blts, gcd := false, lv := 3, kws := [], mks := [] }
def F_L_leads (ds : List D) : Option D := evF Z_L_leads ir_L_leads 4 8 ds
theorem ck_L_leads : ckSs Y_L_leads ir_L_leads (defScope s_L_leads) (fun _ => true) (defBody s_L_leads) = true := by decide +kernel
theorem sc_L_leads : FnScope N_L_leads ["_law_stamps", "_law_base", "_law_shown", "_law_actual"] (defScope s_L_leads) := ⟨rfl, rfl, rfl, by decide +kernel, rfl, by decide +kernel, by decide +kernel⟩
/-! ### _law_whole -/
abbrev s_L_whole : Stmt := top 43
def N_L_whole : List Str := ["_law_value"]
def ir_L_whole : List S := [.ret (.and (.isi (.v 0) [.int] false) (.last (.not (.isi (.v 0) [.bool] false))))]
def T_L_whole : Nat → List D → Option D := fun _ _ => none
def Z_L_whole : Sm := { F := T_L_whole, C := cval, L := [], M := [], P := [], K := [] }
def Y_L_whole : Stat := { N := N_L_whole, Z := Z_L_whole, fns := [], cns := [], bl := blts, gcd := false, lv := 0, kws := [], mks := [] }
def F_L_whole (ds : List D) : Option D := evF Z_L_whole ir_L_whole 1 1 ds
theorem ck_L_whole : ckSs Y_L_whole ir_L_whole (defScope s_L_whole) (fun _ => true) (defBody s_L_whole) = true := by decide +kernel
theorem sc_L_whole : FnScope N_L_whole ["_law_value"] (defScope s_L_whole) := ⟨rfl, rfl, rfl, by decide +kernel, rfl, by decide +kernel, by decide +kernel⟩
/-! ### _law_fast -/
abbrev s_L_fast : Stmt := top 60
def N_L_fast : List Str := ["_law_stamps", "_law_shown", "_law_cells", "_law_cell_here", "_law_pair", "_law_covered", "_law_wrong"]
def ir_L_fast : List S := [.for_ (.nm 3) (.seq (.v 2)) [.ifs (.cmp .eq (.ix (.v 1) (.v 3)) (.c (.str [45]))) [.ret (.c (.bl false))] []],
    .for_ (.nm 4) (.seq (.v 0)) [.asg (.nm 5) (.lc [("_law_cell_here", 3)] (.nm 3) (.seq (.v 2)) (.cmp .ne (.ix (.ix (.v 4) (.c (.int 1))) (.v 3)) (.c (.str [45]))) (.v 3)), .asg (.nm 6) (.lc [("_law_cell_here", 3)] (.nm 3) (.seq (.v 5)) (.cmp .ne (.ix (.ix (.v 4) (.c (.int 1))) (.v 3)) (.ix (.v 1) (.v 3))) (.v 3)), .ifs (.and (.cmp .gt (.blt .len [.v 5]) (.c (.int 0))) (.last (.cmp .eq (.blt .len [.v 6]) (.c (.int 0))))) [.ret (.c (.bl false))] []],
    .ret (.c (.bl true))]
def T_L_fast : Nat → List D → Option D := fun _ _ => none
def Z_L_fast : Sm := { F := T_L_fast, C := cval, L := [], M := [], P := [], K := [] }
def Y_L_fast : Stat := { N := N_L_fast, Z := Z_L_fast, fns := [], cns := [], bl := blts, gcd := false, lv := 0, kws := [], mks := [] }
def F_L_fast (ds : List D) : Option D := evF Z_L_fast ir_L_fast 3 7 ds
theorem ck_L_fast : ckSs Y_L_fast ir_L_fast (defScope s_L_fast) (fun _ => true) (defBody s_L_fast) = true := by decide +kernel
theorem sc_L_fast : FnScope N_L_fast ["_law_stamps", "_law_shown", "_law_cells"] (defScope s_L_fast) := ⟨rfl, rfl, rfl, by decide +kernel, rfl, by decide +kernel, by decide +kernel⟩
/-! ### _law_barred -/
abbrev s_L_barred : Stmt := top 67
def N_L_barred : List Str := ["_law_stamps", "_law_base", "_law_shown", "_law_actual", "_law_stay", "_law_stuck", "_law_wrong", "_law_cell_here"]
def ir_L_barred : List S := [.asg (.nm 4) (.ix (.call 61 [.v 0, .v 2]) (.c (.int 1))),
    .asg (.nm 5) (.lc [("_law_cell_here", 7)] (.nm 7) (.r1 (.blt .len [.v 2])) (.cmp .ne (.ix (.v 4) (.v 7)) (.c (.str [45]))) (.v 7)),
    .asg (.nm 6) (.lc [("_law_cell_here", 7)] (.nm 7) (.seq (.v 5)) (.and (.cmp .ne (.ix (.v 1) (.v 7)) (.c (.str [45]))) (.last (.cmp .ne (.ix (.v 1) (.v 7)) (.ix (.v 4) (.v 7))))) (.v 7)),
    .ifs (.or (.cmp .isnot (.fld (.v 3) "row") (.c .non)) (.or (.not (.isi (.fld (.v 3) "cells") [.tuple] false)) (.or (.cmp .ne (.blt .list [.fld (.v 3) "cells"]) (.v 5)) (.last (.cmp .eq (.blt .len [.v 6]) (.c (.int 0))))))) [.ret (.c (.bl false))] [],
    .ifs (.or (.cmp .ne (.lc [("_law_cell_here", 7)] (.nm 7) (.seq (.fld (.v 3) "cells")) (.not (.call 41 [.v 7])) (.v 7)) (.lst [])) (.last (.not (.call 41 [.fld (.v 3) "cell"])))) [.ret (.c (.bl false))] [],
    .ret (.and (.call 58 [.v 0, .v 2, .v 5]) (.last (.cmp .eq (.fld (.v 3) "cell") (.ix (.v 6) (.c (.int 0))))))]
def T_L_barred : Nat → List D → Option D
  | 41 => F_L_whole
  | 58 => F_L_fast
  | 61 => F_L_peel
  | _ => fun _ => none
def Z_L_barred : Sm := { F := T_L_barred, C := cval, L := [("Making", "cell"), ("Making", "cells"), ("Making", "row")], M := [], P := [], K := [] }
def Y_L_barred : Stat := { N := N_L_barred, Z := Z_L_barred, fns := [(41, "_law_whole"), (58, "_law_fast"), (61, "_law_peel")], cns := [], bl := blts, gcd := false, lv := 3, kws := [], mks := [] }
def F_L_barred (ds : List D) : Option D := evF Z_L_barred ir_L_barred 4 8 ds
theorem ck_L_barred : ckSs Y_L_barred ir_L_barred (defScope s_L_barred) (fun _ => true) (defBody s_L_barred) = true := by decide +kernel
theorem sc_L_barred : FnScope N_L_barred ["_law_stamps", "_law_base", "_law_shown", "_law_actual"] (defScope s_L_barred) := ⟨rfl, rfl, rfl, by decide +kernel, rfl, by decide +kernel, by decide +kernel⟩
/-! ### _law_shows -/
abbrev s_L_shows : Stmt := top 68
def N_L_shows : List Str := ["_law_stamps", "_law_base", "_law_shown", "_law_actual"]
def ir_L_shows : List S := [.ifs (.not (.isi (.fld (.v 3) "made") [.bool] false)) [.ret (.c (.bl false))] [],
    .ifs (.fld (.v 3) "made") [.ret (.call 64 [.v 0, .v 1, .v 2, .v 3])] [],
    .ret (.call 65 [.v 0, .v 1, .v 2, .v 3])]
def T_L_shows : Nat → List D → Option D
  | 64 => F_L_leads
  | 65 => F_L_barred
  | _ => fun _ => none
def Z_L_shows : Sm := { F := T_L_shows, C := cval, L := [("Making", "made")], M := [], P := [], K := [] }
def Y_L_shows : Stat := { N := N_L_shows, Z := Z_L_shows, fns := [(64, "_law_leads"), (65, "_law_barred")], cns := [], bl := blts, gcd := false, lv := 4, kws := [], mks := [] }
def F_L_shows (ds : List D) : Option D := evF Z_L_shows ir_L_shows 4 4 ds
theorem ck_L_shows : ckSs Y_L_shows ir_L_shows (defScope s_L_shows) (fun _ => true) (defBody s_L_shows) = true := by decide +kernel
theorem sc_L_shows : FnScope N_L_shows ["_law_stamps", "_law_base", "_law_shown", "_law_actual"] (defScope s_L_shows) := ⟨rfl, rfl, rfl, by decide +kernel, rfl, by decide +kernel, by decide +kernel⟩
/-! ### _law_bars -/
abbrev s_L_bars : Stmt := top 69
def N_L_bars : List Str := ["_law_stamps", "_law_base", "_law_shown", "_law_cells", "_law_wrong", "_law_cell_here"]
def ir_L_bars : List S := [.asg (.nm 4) (.lc [("_law_cell_here", 5)] (.nm 5) (.seq (.v 3)) (.and (.cmp .ne (.ix (.v 1) (.v 5)) (.c (.str [45]))) (.last (.cmp .ne (.ix (.v 1) (.v 5)) (.ix (.v 2) (.v 5))))) (.v 5)),
    .ret (.and (.cmp .gt (.blt .len [.v 4]) (.c (.int 0))) (.last (.call 58 [.v 0, .v 2, .v 3])))]
def T_L_bars : Nat → List D → Option D
  | 58 => F_L_fast
  | _ => fun _ => none
def Z_L_bars : Sm := { F := T_L_bars, C := cval, L := [], M := [], P := [], K := [] }
def Y_L_bars : Stat := { N := N_L_bars, Z := Z_L_bars, fns := [(58, "_law_fast")], cns := [], bl := blts, gcd := false, lv := 1, kws := [], mks := [] }
def F_L_bars (ds : List D) : Option D := evF Z_L_bars ir_L_bars 4 6 ds
theorem ck_L_bars : ckSs Y_L_bars ir_L_bars (defScope s_L_bars) (fun _ => true) (defBody s_L_bars) = true := by decide +kernel
theorem sc_L_bars : FnScope N_L_bars ["_law_stamps", "_law_base", "_law_shown", "_law_cells"] (defScope s_L_bars) := ⟨rfl, rfl, rfl, by decide +kernel, rfl, by decide +kernel, by decide +kernel⟩
/-! ### cell_set -/
abbrev s_cell_set : Stmt := top 10
def N_cell_set : List Str := ["chosen"]
def ir_cell_set : List S := [.ret (.blt .tuple [.u1 .sset (.v 0)])]
def T_cell_set : Nat → List D → Option D := fun _ _ => none
def Z_cell_set : Sm := { F := T_cell_set, C := cval, L := [], M := [], P := [], K := [] }
def Y_cell_set : Stat := { N := N_cell_set, Z := Z_cell_set, fns := [], cns := [], bl := blts, gcd := false, lv := 0, kws := [], mks := [] }
def F_cell_set (ds : List D) : Option D := evF Z_cell_set ir_cell_set 1 1 ds
theorem ck_cell_set : ckSs Y_cell_set ir_cell_set (defScope s_cell_set) (fun _ => true) (defBody s_cell_set) = true := by decide +kernel
theorem sc_cell_set : FnScope N_cell_set ["chosen"] (defScope s_cell_set) := ⟨rfl, rfl, rfl, by decide +kernel, rfl, by decide +kernel, by decide +kernel⟩
/-! ### covers_some -/
abbrev s_covers_some : Stmt := top 19
def N_covers_some : List Str := ["stamp", "cells", "cell"]
def ir_covers_some : List S := [.for_ (.nm 2) (.seq (.v 1)) [.ifs (.cmp .ne (.ix (.v 0) (.v 2)) (.c (.str [45]))) [.ret (.c (.bl true))] []],
    .ret (.c (.bl false))]
def T_covers_some : Nat → List D → Option D := fun _ _ => none
def Z_covers_some : Sm := { F := T_covers_some, C := cval, L := [], M := [], P := [], K := [] }
def Y_covers_some : Stat := { N := N_covers_some, Z := Z_covers_some, fns := [], cns := [], bl := blts, gcd := false, lv := 0, kws := [], mks := [] }
def F_covers_some (ds : List D) : Option D := evF Z_covers_some ir_covers_some 2 3 ds
theorem ck_covers_some : ckSs Y_covers_some ir_covers_some (defScope s_covers_some) (fun _ => true) (defBody s_covers_some) = true := by decide +kernel
theorem sc_covers_some : FnScope N_covers_some ["stamp", "cells"] (defScope s_covers_some) := ⟨rfl, rfl, rfl, by decide +kernel, rfl, by decide +kernel, by decide +kernel⟩
/-! ### contradicts -/
abbrev s_contradicts : Stmt := top 20
def N_contradicts : List Str := ["stamp", "seen", "cells", "cell"]
def ir_contradicts : List S := [.for_ (.nm 3) (.seq (.v 2)) [.ifs (.and (.cmp .ne (.ix (.v 0) (.v 3)) (.c (.str [45]))) (.last (.cmp .ne (.ix (.v 0) (.v 3)) (.ix (.v 1) (.v 3))))) [.ret (.c (.bl true))] []],
    .ret (.c (.bl false))]
def T_contradicts : Nat → List D → Option D := fun _ _ => none
def Z_contradicts : Sm := { F := T_contradicts, C := cval, L := [], M := [], P := [], K := [] }
def Y_contradicts : Stat := { N := N_contradicts, Z := Z_contradicts, fns := [], cns := [], bl := blts, gcd := false, lv := 0, kws := [], mks := [] }
def F_contradicts (ds : List D) : Option D := evF Z_contradicts ir_contradicts 3 4 ds
theorem ck_contradicts : ckSs Y_contradicts ir_contradicts (defScope s_contradicts) (fun _ => true) (defBody s_contradicts) = true := by decide +kernel
theorem sc_contradicts : FnScope N_contradicts ["stamp", "seen", "cells"] (defScope s_contradicts) := ⟨rfl, rfl, rfl, by decide +kernel, rfl, by decide +kernel, by decide +kernel⟩
/-! ### fast_for -/
abbrev s_fast_for : Stmt := top 21
def N_fast_for : List Str := ["layers", "seen", "chosen", "cells", "cell", "stamp"]
def ir_fast_for : List S := [.asg (.nm 3) (.call 7 [.v 2]),
    .for_ (.nm 4) (.seq (.v 3)) [.ifs (.cmp .eq (.ix (.v 1) (.v 4)) (.c (.str [45]))) [.ret (.c (.bl false))] []],
    .for_ (.nm 5) (.seq (.v 0)) [.ifs (.and (.call 14 [.v 5, .v 3]) (.last (.not (.call 15 [.v 5, .v 1, .v 3])))) [.ret (.c (.bl false))] []],
    .ret (.c (.bl true))]
def T_fast_for : Nat → List D → Option D
  | 7 => F_cell_set
  | 14 => F_covers_some
  | 15 => F_contradicts
  | _ => fun _ => none
def Z_fast_for : Sm := { F := T_fast_for, C := cval, L := [], M := [], P := [], K := [] }
def Y_fast_for : Stat := { N := N_fast_for, Z := Z_fast_for, fns := [(7, "cell_set"), (14, "covers_some"), (15, "contradicts")], cns := [], bl := blts, gcd := false, lv := 1, kws := [], mks := [] }
def F_fast_for (ds : List D) : Option D := evF Z_fast_for ir_fast_for 3 6 ds
theorem ck_fast_for : ckSs Y_fast_for ir_fast_for (defScope s_fast_for) (fun _ => true) (defBody s_fast_for) = true := by decide +kernel
theorem sc_fast_for : FnScope N_fast_for ["layers", "seen", "chosen"] (defScope s_fast_for) := ⟨rfl, rfl, rfl, by decide +kernel, rfl, by decide +kernel, by decide +kernel⟩
/-! ### is_fast -/
abbrev s_is_fast : Stmt := top 22
def N_is_fast : List Str := ["stock", "seen", "chosen"]
def ir_is_fast : List S := [.ret (.call 16 [.fld (.v 0) "layers", .v 1, .v 2])]
def T_is_fast : Nat → List D → Option D
  | 16 => F_fast_for
  | _ => fun _ => none
def Z_is_fast : Sm := { F := T_is_fast, C := cval, L := [("Stock", "layers")], M := [], P := [], K := [] }
def Y_is_fast : Stat := { N := N_is_fast, Z := Z_is_fast, fns := [(16, "fast_for")], cns := [], bl := blts, gcd := false, lv := 2, kws := [], mks := [] }
def F_is_fast (ds : List D) : Option D := evF Z_is_fast ir_is_fast 3 3 ds
theorem ck_is_fast : ckSs Y_is_fast ir_is_fast (defScope s_is_fast) (fun _ => true) (defBody s_is_fast) = true := by decide +kernel
theorem sc_is_fast : FnScope N_is_fast ["stock", "seen", "chosen"] (defScope s_is_fast) := ⟨rfl, rfl, rfl, by decide +kernel, rfl, by decide +kernel, by decide +kernel⟩
/-! ### is_refusal -/
abbrev s_is_refusal : Stmt := top 41
def N_is_refusal : List Str := ["stock", "start", "seen", "chosen", "cell"]
def ir_is_refusal : List S := [.ifs (.not (.call 17 [.v 0, .v 2, .v 3])) [.ret (.c (.bl false))] [],
    .for_ (.nm 4) (.seq (.v 3)) [.ifs (.and (.cmp .ne (.ix (.v 1) (.v 4)) (.c (.str [45]))) (.last (.cmp .ne (.ix (.v 1) (.v 4)) (.ix (.v 2) (.v 4))))) [.ret (.c (.bl true))] []],
    .ret (.c (.bl false))]
def T_is_refusal : Nat → List D → Option D
  | 17 => F_is_fast
  | _ => fun _ => none
def Z_is_refusal : Sm := { F := T_is_refusal, C := cval, L := [], M := [], P := [], K := [] }
def Y_is_refusal : Stat := { N := N_is_refusal, Z := Z_is_refusal, fns := [(17, "is_fast")], cns := [], bl := blts, gcd := false, lv := 3, kws := [], mks := [] }
def F_is_refusal (ds : List D) : Option D := evF Z_is_refusal ir_is_refusal 4 5 ds
theorem ck_is_refusal : ckSs Y_is_refusal ir_is_refusal (defScope s_is_refusal) (fun _ => true) (defBody s_is_refusal) = true := by decide +kernel
theorem sc_is_refusal : FnScope N_is_refusal ["stock", "start", "seen", "chosen"] (defScope s_is_refusal) := ⟨rfl, rfl, rfl, by decide +kernel, rfl, by decide +kernel, by decide +kernel⟩
/-! ### _law_subsets -/
abbrev s_L_subsets : Stmt := top 61
def N_L_subsets : List Str := ["_law_cells", "_law_sets", "_law_cell_here", "_law_some"]
def ir_L_subsets : List S := [.asg (.nm 1) (.lst [.lst []]),
    .for_ (.nm 2) (.seq (.v 0)) [.asg (.nm 1) (.bin .add (.v 1) (.lc [("_law_some", 3)] (.nm 3) (.seq (.v 1)) (.c (.bl true)) (.bin .add (.v 3) (.lst [.v 2]))))],
    .ret (.v 1)]
def T_L_subsets : Nat → List D → Option D := fun _ _ => none
def Z_L_subsets : Sm := { F := T_L_subsets, C := cval, L := [], M := [], P := [], K := [] }
def Y_L_subsets : Stat := { N := N_L_subsets, Z := Z_L_subsets, fns := [], cns := [], bl := blts, gcd := false, lv := 0, kws := [], mks := [] }
def F_L_subsets (ds : List D) : Option D := evF Z_L_subsets ir_L_subsets 1 4 ds
theorem ck_L_subsets : ckSs Y_L_subsets ir_L_subsets (defScope s_L_subsets) (fun _ => true) (defBody s_L_subsets) = true := by decide +kernel
theorem sc_L_subsets : FnScope N_L_subsets ["_law_cells"] (defScope s_L_subsets) := ⟨rfl, rfl, rfl, by decide +kernel, rfl, by decide +kernel, by decide +kernel⟩
/-! ### _law_tried -/
abbrev s_L_tried : Stmt := top 70
def N_L_tried : List Str := ["_law_script", "_law_size", "_law_stuck", "_law_spots", "_law_digit", "_law_cell_here"]
def ir_L_tried : List S := [.ifs (.cmp .le (.v 1) (.c (.int 5))) [.ret (.call 59 [.lc [("_law_cell_here", 5)] (.nm 5) (.r1 (.v 1)) (.c (.bl true)) (.v 5)])] [],
    .asg (.nm 3) (.lc [("_law_digit", 4)] (.nm 4) (.seq (.call 43 [.call 42 [.v 0, .c (.int 29)], .bin .mul (.lst [.c (.int 30)]) (.c (.int 5))])) (.c (.bl true)) (.bin .mod (.blt .int [.v 4]) (.v 1))),
    .ret (.bin .add (.bin .add (.call 59 [.sl (.v 2) .nil (.last (.c (.int 5)))]) (.call 59 [.lc [("_law_cell_here", 5)] (.nm 5) (.r1 (.v 1)) (.cmp .isin (.v 5) (.v 3)) (.v 5)])) (.lst [.v 2]))]
def T_L_tried : Nat → List D → Option D
  | 42 => F_L_cell
  | 43 => F_L_digits
  | 59 => F_L_subsets
  | _ => fun _ => none
def Z_L_tried : Sm := { F := T_L_tried, C := cval, L := [], M := [], P := [], K := [] }
def Y_L_tried : Stat := { N := N_L_tried, Z := Z_L_tried, fns := [(42, "_law_cell"), (43, "_law_digits"), (59, "_law_subsets")], cns := [], bl := blts, gcd := false, lv := 1, kws := [], mks := [] }
def F_L_tried (ds : List D) : Option D := evF Z_L_tried ir_L_tried 3 6 ds
theorem ck_L_tried : ckSs Y_L_tried ir_L_tried (defScope s_L_tried) (fun _ => true) (defBody s_L_tried) = true := by decide +kernel
theorem sc_L_tried : FnScope N_L_tried ["_law_script", "_law_size", "_law_stuck"] (defScope s_L_tried) := ⟨rfl, rfl, rfl, by decide +kernel, rfl, by decide +kernel, by decide +kernel⟩
/-! ### _law_judged -/
abbrev s_L_judged : Stmt := top 71
def N_L_judged : List Str := ["_law_script", "_law_built", "_law_stamps", "_law_base", "_law_shown", "_law_stuck", "_law_bars_here", "_law_head", "_law_some", "_law_passed", "_law_given", "_law_due", "_law_answer"]
def ir_L_judged : List S := [.asg (.nm 6) (.call 67 [.v 2, .v 3, .v 4, .v 5]),
    .asg (.nm 7) (.call 43 [.call 42 [.v 0, .c (.int 30)], .lst [.c (.int 2), .c (.int 3)]]),
    .for_ (.nm 8) (.seq (.call 68 [.v 0, .blt .len [.v 4], .v 5])) [.asg (.nm 9) (.bin .add (.u1 .rev (.v 8)) (.sl (.v 8) .nil (.last (.blt .int [.ix (.v 7) (.c (.int 1))])))), .asg (.nm 10) (.blt .list [.v 9]), .ifs (.cmp .eq (.ix (.v 7) (.c (.int 0))) (.c (.int 0))) [.asg (.nm 12) (.call 40 [.v 1, .v 3, .v 4, .v 10])] [.asg (.nm 12) (.callK 40 ["chosen", "seen", "start", "stock"] [3, 2, 1, 0] [.blt .tuple [.v 10], .v 4, .v 3, .v 1])], .asg (.nm 11) (.call 67 [.v 2, .v 3, .v 4, .v 8]), .ifs (.or (.not (.isi (.v 12) [.bool] false)) (.or (.cmp .ne (.v 12) (.v 11)) (.or (.cmp .ne (.v 10) (.v 9)) (.last (.and (.v 11) (.last (.not (.v 6)))))))) [.ret (.c (.bl false))] []],
    .ret (.c (.bl true))]
def T_L_judged : Nat → List D → Option D
  | 40 => F_is_refusal
  | 42 => F_L_cell
  | 43 => F_L_digits
  | 67 => F_L_bars
  | 68 => F_L_tried
  | _ => fun _ => none
def Z_L_judged : Sm := { F := T_L_judged, C := cval, L := [], M := [], P := [], K := [] }
def Y_L_judged : Stat := { N := N_L_judged, Z := Z_L_judged, fns := [(40, "is_refusal"), (42, "_law_cell"), (43, "_law_digits"), (67, "_law_bars"), (68, "_law_tried")], cns := [], bl := blts, gcd := false, lv := 4, kws := [(40, "is_refusal", ["chosen", "seen", "start", "stock"], [3, 2, 1, 0])], mks := [] }
def F_L_judged (ds : List D) : Option D := evF Z_L_judged ir_L_judged 6 13 ds
theorem ck_L_judged : ckSs Y_L_judged ir_L_judged (defScope s_L_judged) (fun _ => true) (defBody s_L_judged) = true := by decide +kernel
theorem sc_L_judged : FnScope N_L_judged ["_law_script", "_law_built", "_law_stamps", "_law_base", "_law_shown", "_law_stuck"] (defScope s_L_judged) := ⟨rfl, rfl, rfl, by decide +kernel, rfl, by decide +kernel, by decide +kernel⟩
/-! ### _law_told -/
abbrev s_L_told : Stmt := top 72
def N_L_told : List Str := ["_law_script", "_law_built", "_law_stamps", "_law_base", "_law_shown", "_law_actual", "_law_stay", "_law_stuck", "_law_cell_here"]
def ir_L_told : List S := [.asg (.nm 5) (.call 39 [.v 1, .v 3, .v 4]),
    .ifs (.not (.call 66 [.v 2, .v 3, .v 4, .v 5])) [.ret (.c (.bl false))] [],
    .ifs (.not (.call 66 [.v 2, .v 3, .v 4, .callK 39 ["seen", "start", "stock"] [2, 1, 0] [.v 4, .v 3, .v 1]])) [.ret (.c (.bl false))] [],
    .asg (.nm 6) (.ix (.call 61 [.v 2, .v 4]) (.c (.int 1))),
    .asg (.nm 7) (.lc [("_law_cell_here", 8)] (.nm 8) (.r1 (.blt .len [.v 4])) (.cmp .ne (.ix (.v 6) (.v 8)) (.c (.str [45]))) (.v 8)),
    .ifs (.cmp .eq (.fld (.v 5) "made") (.call 67 [.v 2, .v 3, .v 4, .v 7])) [.ret (.c (.bl false))] [],
    .ifs (.and (.not (.fld (.v 5) "made")) (.last (.cmp .isnot (.call 40 [.v 1, .v 3, .v 4, .fld (.v 5) "cells"]) (.c (.bl true))))) [.ret (.c (.bl false))] [],
    .ret (.call 69 [.v 0, .v 1, .v 2, .v 3, .v 4, .v 7])]
def T_L_told : Nat → List D → Option D
  | 39 => F_making
  | 40 => F_is_refusal
  | 61 => F_L_peel
  | 66 => F_L_shows
  | 67 => F_L_bars
  | 69 => F_L_judged
  | _ => fun _ => none
def Z_L_told : Sm := { F := T_L_told, C := cval, L := [("Making", "cells"), ("Making", "made")], M := [], P := [], K := [] }
def Y_L_told : Stat := { N := N_L_told, Z := Z_L_told, fns := [(39, "making"), (40, "is_refusal"), (61, "_law_peel"), (66, "_law_shows"), (67, "_law_bars"), (69, "_law_judged")], cns := [], bl := blts, gcd := false, lv := 7, kws := [(39, "making", ["seen", "start", "stock"], [2, 1, 0])], mks := [] }
def F_L_told (ds : List D) : Option D := evF Z_L_told ir_L_told 5 9 ds
theorem ck_L_told : ckSs Y_L_told ir_L_told (defScope s_L_told) (fun _ => true) (defBody s_L_told) = true := by decide +kernel
theorem sc_L_told : FnScope N_L_told ["_law_script", "_law_built", "_law_stamps", "_law_base", "_law_shown"] (defScope s_L_told) := ⟨rfl, rfl, rfl, by decide +kernel, rfl, by decide +kernel, by decide +kernel⟩
/-! ### law -/
abbrev s_law : Stmt := top 74
def N_law : List Str := ["_law_script", "_law_drawn_here", "_law_stamps", "_law_base", "_law_shown", "_law_built", "_law_kept", "_law_pair"]
def ir_law : List S := [.asg (.nm 1) (.call 71 [.v 0]),
    .asg (.nm 2) (.ix (.v 1) (.c (.int 1))),
    .asg (.nm 3) (.ix (.v 1) (.c (.int 2))),
    .asg (.nm 4) (.ix (.v 1) (.c (.int 3))),
    .asg (.nm 5) (.mk 25 [.ix (.v 1) (.c (.int 0)), .lc [("_law_pair", 7)] (.nm 7) (.seq (.v 2)) (.c (.bl true)) (.blt .list [.v 7])]),
    .asg (.nm 6) (.lst [.call 39 [.v 5, .v 3, .v 4], .call 39 [.v 5, .v 4, .v 3], .call 39 [.v 5, .v 4, .v 4]]),
    .ifs (.or (.not (.call 70 [.v 0, .v 5, .v 2, .v 3, .v 4])) (.last (.not (.call 70 [.v 0, .v 5, .v 2, .v 4, .v 3])))) [.ret (.c (.bl false))] [],
    .ifs (.not (.call 70 [.v 0, .v 5, .v 2, .v 4, .v 4])) [.ret (.c (.bl false))] [],
    .ifs (.or (.not (.call 66 [.v 2, .v 3, .v 4, .ix (.v 6) (.c (.int 0))])) (.last (.not (.call 66 [.v 2, .v 4, .v 3, .ix (.v 6) (.c (.int 1))])))) [.ret (.c (.bl false))] [],
    .ifs (.not (.call 66 [.v 2, .v 4, .v 4, .ix (.v 6) (.c (.int 2))])) [.ret (.c (.bl false))] [],
    .ifs (.cmp .ne (.fld (.v 5) "stamps") (.blt .tuple [.lc [("_law_pair", 7)] (.nm 7) (.seq (.v 2)) (.c (.bl true)) (.blt .tuple [.v 7])])) [.ret (.c (.bl false))] [],
    .ret (.call 66 [.v 2, .v 3, .v 4, .call 39 [.v 5, .v 3, .v 4]])]
def T_law : Nat → List D → Option D
  | 25 => F_Stock___init__
  | 39 => F_making
  | 66 => F_L_shows
  | 70 => F_L_told
  | 71 => F_L_drawn
  | _ => fun _ => none
def Z_law : Sm := { F := T_law, C := cval, L := [("Stock", "stamps")], M := [], P := [], K := [] }
def Y_law : Stat := { N := N_law, Z := Z_law, fns := [(39, "making"), (66, "_law_shows"), (70, "_law_told"), (71, "_law_drawn")], cns := [], bl := blts, gcd := false, lv := 8, kws := [], mks := [(25, "Stock")] }
def F_law (ds : List D) : Option D := evF Z_law ir_law 1 8 ds
theorem ck_law : ckSs Y_law ir_law (defScope s_law) (fun _ => true) (defBody s_law) = true := by decide +kernel
theorem sc_law : FnScope N_law ["_law_script"] (defScope s_law) := ⟨rfl, rfl, rfl, by decide +kernel, rfl, by decide +kernel, by decide +kernel⟩
end K10

set_option Elab.async false
set_option linter.all false
set_option maxRecDepth 100000
set_option maxHeartbeats 4000000
namespace K10
open PySem L2 Pv
theorem lcL_congr {t : T} {c e : List Sl → Option D} {σ : List Sl} {ds : List D} {r : Option (List D)} (h : lcL t c e σ ds = r) : lcL t c e σ ds = r := h
def agreeN (x y : List Nat) : Bool := (x.zip y).all fun p => p.1 == 45 || p.2 == 45 || p.1 == p.2
def freeN (x y : List Nat) : List Nat := List.zipWith (fun a b => if b = 45 then a else 45) x y
def pressN (x y : List Nat) : List Nat := List.zipWith (fun a b => if b = 45 then a else b) x y
theorem by_place (F : Nat → Nat → Nat) (x y : List Nat) (h : x.length = y.length) (hx : x.length ≤ 16777216) :
    joinD (.str []) (.lst ((List.range x.length).map fun k => D.str [F (x[k]?.getD 0) (y[k]?.getD 0)])) = some (.str (List.zipWith F x y)) := by
  have := join_signs (fun k => F (x[k]?.getD 0) (y[k]?.getD 0)) (List.range x.length) (by simpa using hx)
  rw [this, range_zip F x y h]
theorem L_press_ok (x y : List Nat) (h : x.length = y.length) (hx : x.length ≤ 1000) : F_L_press [.str x, .str y] = some (.str (pressN x y)) := by
  have hl : x.length ≤ 16777216 := by omega
  have hl' : y.length ≤ 16777216 := by omega
  have hr : okR (x.length : Int) = true := by unfold okR; simp; omega
  simp [F_L_press, evF, ir_L_press, startD, Z_L_press, hl, hr]
  rw [rng_len, if_pos hl, lcL_rng (g := fun k => D.str [(fun a b => if b = 45 then a else b) (x[k]?.getD 0) (y[k]?.getD 0)])]
  · simp only [map_someX, bind_someX, Function.comp_apply]
    have := by_place (fun a b => if b = 45 then a else b) x y h hl
    rw [this]
    simp [pressN]
  · intro k hk
    have hk2 : k < y.length := by omega
    simp [wipeD, atI_k hk, atI_k hk2, hl, hl', hk, hk2]
    by_cases hd : y[k] = 45
    · simp [hd]
    · simp [hd]
theorem L_free_ok (x y : List Nat) (h : x.length = y.length) (hx : x.length ≤ 1000) : F_L_free [.str x, .str y] = some (.str (freeN x y)) := by
  have hl : x.length ≤ 16777216 := by omega
  have hl' : y.length ≤ 16777216 := by omega
  have hr : okR (x.length : Int) = true := by unfold okR; simp; omega
  simp [F_L_free, evF, ir_L_free, startD, Z_L_free, hl, hr]
  rw [rng_len, if_pos hl, lcL_rng (g := fun k => D.str [(fun a b => if b = 45 then a else 45) (x[k]?.getD 0) (y[k]?.getD 0)])]
  · simp only [map_someX, bind_someX, Function.comp_apply]
    have := by_place (fun a b => if b = 45 then a else 45) x y h hl
    rw [this]
    simp [freeN]
  · intro k hk
    have hk2 : k < y.length := by omega
    simp [wipeD, atI_k hk, atI_k hk2, hl, hl', hk, hk2]
    by_cases hd : y[k] = 45
    · simp [hd]
    · simp [hd]
def badP (a b : Nat) : Bool := !(a == 45) && (!(b == 45) && !(a == b))
theorem agreeN_any (x y : List Nat) : agreeN x y = !((x.zip y).any fun p => badP p.1 p.2) := by
  unfold agreeN
  rw [List.not_any_eq_all_not]
  congr 1
  funext p
  unfold badP
  cases p.1 == 45 <;> cases p.2 == 45 <;> cases p.1 == p.2 <;> rfl
theorem L_agree_ok (x y : List Nat) (h : x.length = y.length) (hx : x.length ≤ 1000) : F_L_agree [.str x, .str y] = some (.bl (agreeN x y)) := by
  have hl : x.length ≤ 16777216 := by omega
  have hl' : y.length ≤ 16777216 := by omega
  have hr : okR (x.length : Int) = true := by unfold okR; simp; omega
  simp only [F_L_agree, evF, ir_L_agree]
  rw [if_pos (show [D.str x, D.str y].length = 2 from rfl), evSs_cons]
  have key := forL_find (t := .nm 2) (f := evSs Z_L_agree [.ifs (.and (.cmp .ne (.ix (.v 0) (.v 2)) (.c (.str [45]))) (.and (.cmp .ne (.ix (.v 1) (.v 2)) (.c (.str [45]))) (.last (.cmp .ne (.ix (.v 0) (.v 2)) (.ix (.v 1) (.v 2)))))) [.ret (.c (.bl false))] []])
    (fun d => match d with | .int k => badP (x[k.toNat]?.getD 0) (y[k.toNat]?.getD 0) | _ => false) (.bl false) (fun σ => ∃ z, σ = [.v (.str x), .v (.str y), z]) (ds := rngD 0 x.length) (σ := [.v (.str x), .v (.str y), .no]) ⟨_, rfl⟩ (by
      rintro d hd σ ⟨z, rfl⟩
      rw [rng_eq, List.mem_map] at hd
      obtain ⟨k, hk, rfl⟩ := hd
      have hk : k < x.length := List.mem_range.mp hk
      have hk2 : k < y.length := by omega
      refine ⟨_, rfl, ?_⟩
      simp [atI_k hk, atI_k hk2, hl, hl', hk, hk2, badP]
      by_cases h1 : x[k] = 45
      · simp [h1]
      · by_cases h2 : y[k] = 45
        · simp [h1, h2]
        · by_cases h3 : x[k] = y[k]
          · simp [h1, h2, h3]
          · simp [h1, h2, h3])
  have e : (rngD 0 x.length).any (fun d => match d with | .int k => badP (x[k.toNat]?.getD 0) (y[k.toNat]?.getD 0) | _ => false) = (x.zip y).any fun p => badP p.1 p.2 := by
    have e3 : ((fun d : D => match d with | .int k => badP (x[k.toNat]?.getD 0) (y[k.toNat]?.getD 0) | _ => false) ∘ fun k : Nat => D.int (0 + (k : Nat))) = fun k => badP (x[k]?.getD 0) (y[k]?.getD 0) := by
      funext k
      simp
    rw [rng_eq, List.any_map, ← range_any badP x y h, e3]
  have e2 : evS Z_L_agree (.for_ (.nm 2) (.r1 (.blt .len [.v 0])) [.ifs (.and (.cmp .ne (.ix (.v 0) (.v 2)) (.c (.str [45]))) (.and (.cmp .ne (.ix (.v 1) (.v 2)) (.c (.str [45]))) (.last (.cmp .ne (.ix (.v 0) (.v 2)) (.ix (.v 1) (.v 2)))))) [.ret (.c (.bl false))] []]) (startD 3 [.str x, .str y]) = forL (.nm 2) (evSs Z_L_agree [.ifs (.and (.cmp .ne (.ix (.v 0) (.v 2)) (.c (.str [45]))) (.and (.cmp .ne (.ix (.v 1) (.v 2)) (.c (.str [45]))) (.last (.cmp .ne (.ix (.v 0) (.v 2)) (.ix (.v 1) (.v 2)))))) [.ret (.c (.bl false))] []]) (rngD 0 x.length) [.v (.str x), .v (.str y), .no] := by
    simp [startD, hl, hr]
  rw [e2, agreeN_any]
  rcases key with ⟨h1, h2⟩ | ⟨h1, σ', h2, _⟩
  · rw [h2, ← e, h1]; simp only [bind_someX, thenS_rt, endD_rt, Bool.not_true]
  · rw [h2, ← e, h1]; simp only [bind_someX, thenS_nx, evSs_cons, evS_ret, evE_c, map_someX, thenS_rt, endD_rt, Bool.not_false]
theorem agree_ok (x y : List Nat) : F_agree [.str x, .str y] = some (.bl (agreeN x y)) := by
  simp only [F_agree, evF, ir_agree]
  rw [if_pos (show [D.str x, D.str y].length = 2 from rfl), evSs_cons]
  have key := forL_find (t := .tp [2, 3]) (f := evSs Z_agree [.ifs (.and (.cmp .ne (.v 2) (.c (.str [45]))) (.and (.cmp .ne (.v 3) (.c (.str [45]))) (.last (.cmp .ne (.v 2) (.v 3))))) [.ret (.c (.bl false))] []])
    (fun d => match d with | .tup [.str [a], .str [b]] => badP a b | _ => false) (.bl false) (fun σ => ∃ z u, σ = [.v (.str x), .v (.str y), z, u]) (ds := (x.zip y).map fun p => D.tup [.str [p.1], .str [p.2]]) (σ := [.v (.str x), .v (.str y), .no, .no]) ⟨_, _, rfl⟩ (by
      rintro d hd σ ⟨z, u, rfl⟩
      rw [List.mem_map] at hd
      obtain ⟨⟨a, b⟩, _, rfl⟩ := hd
      refine ⟨_, rfl, ?_⟩
      simp [badP]
      by_cases h1 : a = 45
      · simp [h1]
      · by_cases h2 : b = 45
        · simp [h1, h2]
        · by_cases h3 : a = b
          · simp [h1, h2, h3]
          · simp [h1, h2, h3])
  have e : ((x.zip y).map fun p => D.tup [.str [p.1], .str [p.2]]).any (fun d => match d with | .tup [.str [a], .str [b]] => badP a b | _ => false) = (x.zip y).any fun p => badP p.1 p.2 := by
    rw [List.any_map]
    rfl
  have e2 : evS Z_agree (.for_ (.tp [2, 3]) (.zip (.v 0) (.v 1)) [.ifs (.and (.cmp .ne (.v 2) (.c (.str [45]))) (.and (.cmp .ne (.v 3) (.c (.str [45]))) (.last (.cmp .ne (.v 2) (.v 3))))) [.ret (.c (.bl false))] []]) (startD 4 [.str x, .str y]) = forL (.tp [2, 3]) (evSs Z_agree [.ifs (.and (.cmp .ne (.v 2) (.c (.str [45]))) (.and (.cmp .ne (.v 3) (.c (.str [45]))) (.last (.cmp .ne (.v 2) (.v 3))))) [.ret (.c (.bl false))] []]) ((x.zip y).map fun p => D.tup [.str [p.1], .str [p.2]]) [.v (.str x), .v (.str y), .no, .no] := by
    simp [startD, zipD_str]
  rw [e2, agreeN_any]
  rcases key with ⟨h1, h2⟩ | ⟨h1, σ', h2, _⟩
  · rw [h2, ← e, h1]; simp only [bind_someX, thenS_rt, endD_rt, Bool.not_true]
  · rw [h2, ← e, h1]; simp only [bind_someX, thenS_nx, evSs_cons, evS_ret, evE_c, map_someX, thenS_rt, endD_rt, Bool.not_false]
/-- the cells with marks -/
def cellsN (x : List Nat) : List Nat := (List.range x.length).filter fun k => !(x[k]?.getD 0 == 45)
theorem cells_of_ok (x : List Nat) (hx : x.length ≤ 1000) : F_cells_of [.str x] = some (.tup ((cellsN x).map fun k => D.int (k : Nat))) := by
  have hl : x.length ≤ 16777216 := by omega
  have hr : okR (x.length : Int) = true := by unfold okR; simp; omega
  simp [F_cells_of, evF, ir_cells_of, startD, Z_cells_of, hl, hr]
  rw [rng_len, if_pos hl, lcL_rngF (p := fun k => !(x[k]?.getD 0 == 45)) (g := fun k => D.int (k : Nat))]
  · simp [cellsN]
  · intro k hk
    simp [wipeD, atI_k hk, hl, hk]
    rfl
theorem freed_ok (x : List Nat) (cs : List Nat) (hx : x.length ≤ 1000) : F_freed [.str x, .tup (cs.map fun k => D.int (k : Nat))] = some (.str ((List.range x.length).map fun k => if k ∈ cs then 45 else x[k]?.getD 0)) := by
  have hl : x.length ≤ 16777216 := by omega
  have hr : okR (x.length : Int) = true := by unfold okR; simp; omega
  simp [F_freed, evF, ir_freed, startD, Z_freed, hl, hr]
  rw [rng_len, if_pos hl, lcL_rng (g := fun k => D.str [if k ∈ cs then 45 else x[k]?.getD 0])]
  · simp only [map_someX, bind_someX, Function.comp_apply]
    have := join_signs (fun k => if k ∈ cs then 45 else x[k]?.getD 0) (List.range x.length) (by simpa using hl)
    rw [this]
    simp
  · intro k hk
    simp [wipeD, atI_k hk, hl, hk, inD_ints]
    by_cases h : k ∈ cs
    · simp [h]
    · simp [h]
theorem peeled_ok (x y : List Nat) (h : x.length = y.length) (hx : x.length ≤ 1000) : F_peeled [.str x, .str y] = some (.str (freeN x y)) := by
  simp [F_peeled, evF, ir_peeled, startD, Z_peeled, T_peeled, cells_of_ok y (by omega), freed_ok x _ hx]
  have := range_zip (fun a b => if b = 45 then a else 45) x y h
  unfold freeN
  rw [← this]
  apply List.map_congr_left
  intro k hk
  have hk := List.mem_range.mp hk
  have hk2 : k < y.length := by omega
  simp [cellsN, hk, hk2]
end K10

set_option Elab.async false
set_option linter.all false
set_option maxRecDepth 100000
set_option maxHeartbeats 4000000
namespace K10
open PySem L2 Pv
abbrev Pr := List Nat × List Nat
def LL (ps : List Pr) : D := .lst (ps.map fun p => .lst [.str p.1, .str p.2])
def TT (ps : List Pr) : D := .tup (ps.map fun p => .tup [.str p.1, .str p.2])
theorem agree_comm : ∀ x y : List Nat, agreeN x y = agreeN y x := by
  intro x y
  unfold agreeN
  induction x generalizing y with
  | nil => cases y <;> rfl
  | cons a x ih =>
    cases y with
    | nil => rfl
    | cons b y =>
      simp only [List.zip_cons_cons, List.all_cons, ih y]
      congr 1
      have : (a == b) = (b == a) := by rw [Bool.eq_iff_iff, beq_iff_eq, beq_iff_eq]; exact ⟨Eq.symm, Eq.symm⟩
      rw [this]
      cases a == 45 <;> cases b == 45 <;> cases b == a <;> rfl
theorem press_len (x y : List Nat) (h : x.length = y.length) : (pressN x y).length = x.length := by simp [pressN]; omega
theorem free_len (x y : List Nat) (h : x.length = y.length) : (freeN x y).length = x.length := by simp [freeN]; omega
theorem fits_ok (x y : List Nat) (hx : x.length ≤ 1000) (h : x.length = y.length) (h5 : 45 ∉ x) : F_L_fits [.str x, .str y] = some (.bl (agreeN x y)) := by
  have h1 : x.length ≤ 16777216 := by omega
  have h2 : y.length ≤ 16777216 := by omega
  simp [F_L_fits, evF, ir_L_fits, startD, Z_L_fits, T_L_fits, h1, h2, h5, h, L_agree_ok x y h hx]
end K10

set_option Elab.async false
set_option linter.all false
set_option maxRecDepth 100000
set_option maxHeartbeats 4000000
namespace K10
open PySem L2 Pv
def sgnL : List Nat := [45, 46, 97, 98, 99, 100, 101, 102, 103, 104, 105, 106, 107, 108, 109, 110, 111, 112, 113, 114, 115, 116, 117, 118, 119, 120, 121, 122]
def letL : List Nat := [97, 98, 99, 100, 101, 102, 103, 104, 105, 106, 107, 108, 109, 110, 111, 112, 113, 114, 115, 116, 117, 118, 119, 120, 121, 122]
def digL : List Nat := [48, 49, 50, 51, 52, 53, 54, 55, 56, 57]
theorem cval0 : cval 0 = some (.str sgnL) := id rfl
theorem cval1 : cval 1 = some (.int 30) := id rfl
theorem cval2 : cval 2 = some (.str letL) := id rfl
theorem cval3 : cval 3 = some (.str digL) := id rfl
theorem cval4 : cval 4 = some (.int 8) := id rfl
theorem sgn_low {c : Nat} (h : c ∈ sgnL) : c < 128 := by revert c; decide
structure Lay (n : Nat) (x : List Nat) : Prop where
  len : x.length = n
  sg : ∀ c ∈ x, c ∈ sgnL
theorem Lay.low {n : Nat} {x : List Nat} (h : Lay n x) : low x := fun c hc => sgn_low (h.sg c hc)
theorem is_layer_ok {n : Nat} {x : List Nat} (h : Lay n x) (h1 : 1 ≤ n) (h2 : n ≤ 30) : F_is_layer [.str x] = some (.bl true) := by
  have hl := h.len
  have hl' : x.length ≤ 16777216 := by omega
  have g1 : (1 : Int) ≤ x.length := by omega
  have g2 : (x.length : Int) ≤ 30 := by omega
  simp [F_is_layer, evF, ir_is_layer, startD, Z_is_layer, cval1, hl', g1, g2, isi1, isIns]
  refine forL_okE (P := fun o => (o.bind endD) = some (.bl true)) (fun σ => ∃ z, σ = [.v (.str x), z]) ⟨_, rfl⟩ ?_ ?_
  · rintro d hd σ ⟨z, rfl⟩
    rw [List.mem_map] at hd
    obtain ⟨c, hc, rfl⟩ := hd
    refine ⟨_, [.v (.str x), .v (.str [c])], rfl, ?_, _, rfl⟩
    simp [cval0, h.sg c hc]
  · rintro σ ⟨z, rfl⟩
    simp
theorem empty_ok (n : Nat) (h : n ≤ 1000) : F_empty_layer [.int (n : Nat)] = some (.str (List.replicate n 45)) := by
  have r1 : repOk 1 (n : Int) = true := by unfold repOk; simp; omega
  simp [F_empty_layer, evF, ir_empty_layer, startD, Z_empty_layer, r1]
theorem is_stamp_ok {n : Nat} {x : List Nat} (h : Lay n x) (h1 : 1 ≤ n) (h2 : n ≤ 30) (hx : x ≠ List.replicate n 45) : F_is_stamp [.str x, .int (n : Nat)] = some (.bl true) := by
  have hl := h.len
  have hl' : n ≤ 16777216 := by omega
  simp [F_is_stamp, evF, ir_is_stamp, startD, Z_is_stamp, T_is_stamp, is_layer_ok h h1 h2, empty_ok n (by omega), hl, hl', hx]
structure Nam (x : List Nat) : Prop where
  len : 1 ≤ x.length ∧ x.length ≤ 8
  fst : ∀ c, x[0]? = some c → c ∈ letL
  sg : ∀ c ∈ x, c ∈ letL ∨ c ∈ digL
theorem let_low {c : Nat} (h : c ∈ letL) : c < 128 := by revert c; decide
theorem dig_low {c : Nat} (h : c ∈ digL) : c < 128 := by revert c; decide
theorem Nam.low {x : List Nat} (h : Nam x) : low x := fun c hc => by
  rcases h.sg c hc with z | z
  · exact let_low z
  · exact dig_low z
theorem is_name_ok {x : List Nat} (h : Nam x) : F_is_name [.str x] = some (.bl true) := by
  obtain ⟨h1, h2⟩ := h.len
  have hl' : x.length ≤ 16777216 := by omega
  have g1 : (1 : Int) ≤ x.length := by omega
  have g2 : (x.length : Int) ≤ 8 := by omega
  obtain ⟨c, r, rfl⟩ : ∃ c r, x = c :: r := by
    cases x with
    | nil => simp at h1
    | cons c r => exact ⟨c, r, rfl⟩
  have hc := h.fst c rfl
  have e1 : (c :: r).length = r.length + 1 := rfl
  have q1 : r.length ≤ 16777215 := by omega
  have q2 : (1 : Int) ≤ (r.length : Int) + 1 := by omega
  have q3 : (r.length : Int) + 1 ≤ 8 := by omega
  simp [F_is_name, evF, ir_is_name, startD, Z_is_name, cval4, cval2, q1, q2, q3, isi1, isIns, hc]
  refine forL_okE (P := fun o => (o.bind endD) = some (.bl true)) (fun σ => ∃ z, σ = [.v (.str (c :: r)), z]) ⟨_, rfl⟩ ?_ ?_
  · rintro d hd σ ⟨z, rfl⟩
    have hd : d ∈ (c :: r).map fun c => D.str [c] := by simpa using hd
    rw [List.mem_map] at hd
    obtain ⟨e, he, rfl⟩ := hd
    refine ⟨_, [.v (.str (c :: r)), .v (.str [e])], rfl, ?_, _, rfl⟩
    rcases h.sg e he with z | z
    · simp [cval2, cval3, z]
    · by_cases z2 : e ∈ letL
      · simp [cval2, cval3, z2]
      · simp [cval2, cval3, z, z2]
  · rintro σ ⟨z, rfl⟩
    simp
end K10

set_option Elab.async false
set_option linter.all false
set_option maxRecDepth 100000
set_option maxHeartbeats 4000000
namespace K10
open PySem L2 Pv
theorem frozen_str (x : List Nat) : F_frozen_3 [.str x] = some (.str x) := by
  simp [F_frozen_3, evF, ir_frozen, startD, Z_frozen_3, isi1, isIns]
theorem frozen_pair (a b : List Nat) : F_frozen_4 [.lst [.str a, .str b]] = some (.tup [.str a, .str b]) := by
  simp [F_frozen_4, evF, ir_frozen, startD, Z_frozen_4, isi1, isIns]
  rw [lcL_map (fun d => d)]
  · simp
  · intro d hd
    refine ⟨_, rfl, rfl, ?_⟩
    rcases List.mem_cons.mp hd with rfl | hd
    · simp [wipeD, T_frozen_4, frozen_str]
    · have : d = .str b := by simpa using hd
      subst this
      simp [wipeD, T_frozen_4, frozen_str]
theorem frozen_LL (ps : List Pr) (hp : ps.length ≤ 1000) : F_frozen_5 [LL ps] = some (TT ps) := by
  have h1 : ps.length ≤ 16777216 := by omega
  simp [F_frozen_5, evF, ir_frozen, startD, Z_frozen_5, isi1, isIns, LL, h1]
  rw [lcL_of (fun p : Pr => D.lst [.str p.1, .str p.2]) (fun _ => true) (fun p => .tup [.str p.1, .str p.2])]
  · rw [List.filter_eq_self.mpr (by simp)]
    simp [TT]
  · intro p _
    refine ⟨_, rfl, rfl, fun _ => ?_⟩
    simp [wipeD, T_frozen_5, frozen_pair]
/-- the lot: names, stamps as they should be -/
structure Lot (n : Nat) (ps : List Pr) : Prop where
  n1 : 1 ≤ n
  n30 : n ≤ 30
  many : ps.length ≤ 24
  nam : ∀ p ∈ ps, Nam p.1
  lay : ∀ p ∈ ps, Lay n p.2
  full : ∀ p ∈ ps, p.2 ≠ List.replicate n 45
  dis : (ps.map fun p => p.1).Nodup
def numL (k : Nat) : List Pr → List D
  | [] => []
  | _ :: r => .int (k : Nat) :: numL (k + 1) r
theorem numL_len : ∀ (k : Nat) (ps : List Pr), (numL k ps).length = ps.length
  | _, [] => rfl
  | k, _ :: r => by simp [numL, numL_len (k + 1) r]
/-- the loop of Stock's __init__ -/
theorem init_loop {n : Nat} (X A B C : Sl) : ∀ (ps : List Pr) (k : Nat) (ks vs : List D) (z u : Sl), (∀ p ∈ ps, Nam p.1) → (∀ p ∈ ps, Lay n p.2) → (∀ p ∈ ps, p.2 ≠ List.replicate n 45) → 1 ≤ n → n ≤ 30 → (ps.map fun p => p.1).Nodup →
    (∀ k ∈ ks, ∃ y, k = D.str y ∧ ∀ p ∈ ps, y ≠ p.1) → ks.length + ps.length ≤ 1000 →
    ∃ z' u', forL (.tp [5, 6]) (evSs Z_Stock___init__ [.ifs (.not (.call 23 [.ix (.v 6) (.c (.int 0))])) [.never] [], .ifs (.not (.call 24 [.ix (.v 6) (.c (.int 1)), .v 1])) [.never] [], .ifs (.ino false (.ix (.v 6) (.c (.int 0))) 4) [.never] [], .put 4 (.ix (.v 6) (.c (.int 0))) (.v 5)])
      (enumD k (ps.map fun p => D.tup [.str p.1, .str p.2])) [X, .v (.int (n : Nat)), A, B, .o (.dct ks vs), z, u] = some (.nx [X, .v (.int (n : Nat)), A, B, .o (.dct (ks ++ ps.map fun p => D.str p.1) (vs ++ numL k ps)), z', u'])
  | [], k, ks, vs, z, u, _, _, _, _, _, _, _, _ => ⟨z, u, by simp [enumD, numL]⟩
  | p :: ps, k, ks, vs, z, u, h1, h2, h3, n1, n2, h4, h5, h6 => by
    have a1 := is_name_ok (h1 p List.mem_cons_self)
    have a2 := is_stamp_ok (h2 p List.mem_cons_self) n1 n2 (h3 p List.mem_cons_self)
    have hks : ∀ k ∈ ks, ∃ y, k = D.str y ∧ y ≠ p.1 := fun k hk => let ⟨y, e, q⟩ := h5 k hk; ⟨y, e, q p List.mem_cons_self⟩
    have a3 := dlook_none (vs := vs) hks
    have a4 := hasK_none hks
    rw [List.map_cons, List.nodup_cons] at h4
    have hl : ks.length < 16777216 := by omega
    obtain ⟨z', u', ih⟩ := init_loop X A B C ps (k + 1) (ks ++ [.str p.1]) (vs ++ [.int (k : Nat)]) (.v (.int (k : Nat))) (.v (.tup [.str p.1, .str p.2])) (fun q hq => h1 q (List.mem_cons_of_mem _ hq)) (fun q hq => h2 q (List.mem_cons_of_mem _ hq)) (fun q hq => h3 q (List.mem_cons_of_mem _ hq)) n1 n2 h4.2 (by
      intro e he
      rcases List.mem_append.mp he with he | he
      · obtain ⟨y, e1, q⟩ := h5 e he
        exact ⟨y, e1, fun q' hq' => q q' (List.mem_cons_of_mem _ hq')⟩
      · have : e = .str p.1 := by simpa using he
        subst this
        exact ⟨p.1, rfl, fun q hq z => h4.1 (by rw [z]; exact List.mem_map.mpr ⟨q, hq, rfl⟩)⟩) (by simp at h6 ⊢; omega)
    refine ⟨z', u', ?_⟩
    simp only [List.map_cons, enumD]
    rw [forL_cons]
    have step : evSs Z_Stock___init__ [.ifs (.not (.call 23 [.ix (.v 6) (.c (.int 0))])) [.never] [], .ifs (.not (.call 24 [.ix (.v 6) (.c (.int 1)), .v 1])) [.never] [], .ifs (.ino false (.ix (.v 6) (.c (.int 0))) 4) [.never] [], .put 4 (.ix (.v 6) (.c (.int 0))) (.v 5)]
        [X, .v (.int (n : Nat)), A, B, .o (.dct ks vs), .v (.int (k : Nat)), .v (.tup [.str p.1, .str p.2])] = some (.nx [X, .v (.int (n : Nat)), A, B, .o (.dct (ks ++ [.str p.1]) (vs ++ [.int (k : Nat)])), .v (.int (k : Nat)), .v (.tup [.str p.1, .str p.2])]) := by
      simp [Z_Stock___init__, T_Stock___init__, a1, a2, a3, dputK, dputV, a4, hl]
    have st : setT (.tp [5, 6]) (.tup [.int (k : Nat), .tup [.str p.1, .str p.2]]) [X, .v (.int (n : Nat)), A, B, .o (.dct ks vs), z, u] = some [X, .v (.int (n : Nat)), A, B, .o (.dct ks vs), .v (.int (k : Nat)), .v (.tup [.str p.1, .str p.2])] := by simp
    rw [st, bind_someX, step, bind_someX, turnO_nx, ih]
    simp [numL]
def stockF : List Str := ["size", "stamps", "layers", "numbers"]
def stockV (n : Nat) (ps : List Pr) : List D := [.int (n : Nat), TT ps, .tup (ps.map fun p => D.str p.2), .dct (ps.map fun p => D.str p.1) (numL 0 ps)]
theorem stock_ok {n : Nat} {ps : List Pr} (h : Lot n ps) : F_Stock___init__ [.int (n : Nat), LL ps] = some (.ins "Stock" stockF (stockV n ps)) := by
  have hm := h.many
  have h1 : ps.length ≤ 16777216 := by omega
  obtain ⟨z', u', key⟩ := init_loop (n := n) (.o (.ins "Stock" [] [])) (.v (LL ps)) (.v (TT ps)) .no ps 0 [] [] .no .no h.nam h.lay h.full h.n1 h.n30 h.dis (by simp) (by simp; omega)
  have fr := frozen_LL ps (by omega)
  have comp : lcL (.nm 6) (evE Z_Stock___init__ (.c (.bl true))) (evE Z_Stock___init__ (.ix (.v 6) (.c (.int 1)))) (wipeD [.o (.ins "Stock" ["size", "stamps"] [.int (n : Nat), TT ps]), .v (.int (n : Nat)), .v (LL ps), .v (TT ps), .o (.dct (ps.map fun p => D.str p.1) (numL 0 ps)), z', u'] [6]) (ps.map fun p => D.tup [.str p.1, .str p.2]) = some (ps.map fun p => D.str p.2) := by
    rw [lcL_of (fun p : Pr => D.tup [.str p.1, .str p.2]) (fun _ => true) (fun p => .str p.2)]
    · rw [List.filter_eq_self.mpr (by simp)]
    · intro p _
      refine ⟨_, rfl, rfl, fun _ => ?_⟩
      simp [wipeD]
  unfold F_Stock___init__ valI evI0
  rw [if_pos (show [D.int (n : Nat), LL ps].length + 1 = 3 from rfl)]
  have go : evSs Z_Stock___init__ ir_Stock___init__ (.o (.ins "Stock" [] []) :: startD (7 - 1) [.int (n : Nat), LL ps]) = some (.nx [.o (.ins "Stock" stockF (stockV n ps)), .v (.int (n : Nat)), .v (LL ps), .v (TT ps), .v (.dct (ps.map fun p => D.str p.1) (numL 0 ps)), z', u']) := by
    have f6 : Z_Stock___init__.F 6 = F_frozen_5 := id rfl
    have m1 : ((("Stock" : Str), ("size" : Str)) ∈ Z_Stock___init__.L) := by simp [Z_Stock___init__]
    have m2 : ((("Stock" : Str), ("stamps" : Str)) ∈ Z_Stock___init__.L) := by simp [Z_Stock___init__]
    have m3 : ((("Stock" : Str), ("layers" : Str)) ∈ Z_Stock___init__.L) := by simp [Z_Stock___init__]
    have m4 : ((("Stock" : Str), ("numbers" : Str)) ∈ Z_Stock___init__.L) := by simp [Z_Stock___init__]
    have n1 : ¬ (("size" : Str) = "stamps") := by decide +kernel
    have n2 : ¬ (("size" : Str) = "layers") := by decide +kernel
    have n3 : ¬ (("stamps" : Str) = "layers") := by decide +kernel
    have n4 : ¬ (("size" : Str) = "numbers") := by decide +kernel
    have n5 : ¬ (("stamps" : Str) = "numbers") := by decide +kernel
    have n6 : ¬ (("layers" : Str) = "numbers") := by decide +kernel
    have e0 : enumX (TT ps) = some (enumD 0 (ps.map fun p => D.tup [.str p.1, .str p.2])) := by simp [TT]
    have e1 : seqD (TT ps) = some (ps.map fun p => D.tup [.str p.1, .str p.2]) := by simp [TT]
    simp only [List.nil_append] at key
    simp [ir_Stock___init__, startD, f6, fr, e0, key]
    simp [m1, m2, putN, putV, e1, n1, h1]
    rw [comp]
    simp [m3, m4, putN, putV, stockF, stockV, n2, n3, n4, n5, n6]
  rw [go]
  simp [insC]
end K10

set_option Elab.async false
set_option linter.all false
set_option maxRecDepth 100000
set_option maxHeartbeats 4000000
namespace K10
open PySem L2 Pv

/-! ### peeling, as lists -/
abbrev g (x : List Nat) (k : Nat) : Nat := x[k]?.getD 0
theorem g_eq {x : List Nat} {k : Nat} (h : k < x.length) : g x k = x[k] := by simp [g, h]
theorem ext_g {x y : List Nat} (h : x.length = y.length) (e : ∀ k, k < x.length → g x k = g y k) : x = y := by
  apply List.ext_getElem h
  intro k h1 h2
  have := e k h1
  rwa [g_eq h1, g_eq h2] at this
theorem agree_iff : ∀ (x y : List Nat), x.length = y.length → (agreeN x y = true ↔ ∀ k, k < x.length → g x k = 45 ∨ g y k = 45 ∨ g x k = g y k)
  | [], y, _ => by simp [agreeN]
  | a :: x, [], h => by simp at h
  | a :: x, b :: y, h => by
    have ih := agree_iff x y (by simpa using h)
    have e : agreeN (a :: x) (b :: y) = ((a == 45 || b == 45 || a == b) && agreeN x y) := by simp [agreeN]
    rw [e, Bool.and_eq_true, ih]
    constructor
    · rintro ⟨h1, h2⟩ k hk
      cases k with
      | zero => simpa [g, or_assoc] using h1
      | succ k => simpa [g] using h2 k (by simpa using hk)
    · intro h1
      refine ⟨by simpa [g, or_assoc] using h1 0 (by simp), fun k hk => ?_⟩
      simpa [g] using h1 (k + 1) (by simpa using hk)
theorem g_free {x y : List Nat} {k : Nat} (h : x.length = y.length) (hk : k < x.length) : g (freeN x y) k = if g y k = 45 then g x k else 45 := by
  rw [g_eq (by rw [free_len x y h]; exact hk), g_eq hk, g_eq (h ▸ hk)]
  simp [freeN]
theorem g_press {x y : List Nat} {k : Nat} (h : x.length = y.length) (hk : k < x.length) : g (pressN x y) k = if g y k = 45 then g x k else g y k := by
  rw [g_eq (by rw [press_len x y h]; exact hk), g_eq hk, g_eq (h ▸ hk)]
  simp [pressN]
/-- p may be peeled from l, and frees something -/
def hit (l : List Nat) (p : Pr) : Bool := agreeN p.2 l && !decide (freeN l p.2 = l)
def firstN (ps : List Pr) (l : List Nat) : Option Nat := ps.findIdx? (hit l)
inductive Peel (ps : List Pr) : List Nat → List Nat → List Nat → Prop
  | stop {l : List Nat} : firstN ps l = none → Peel ps l [] l
  | step {l o r : List Nat} {i : Nat} {p : Pr} : firstN ps l = some i → ps[i]? = some p → hit l p = true → Peel ps (freeN l p.2) o r → Peel ps l (i :: o) r
/-- how many stamps free something -/
def cnt (ps : List Pr) (l : List Nat) : Nat := ps.countP fun p => !decide (freeN l p.2 = l)
theorem free_free {l s : List Nat} (h : l.length = s.length) : freeN (freeN l s) s = freeN l s := by
  have hl := free_len l s h
  refine ext_g (free_len _ _ (hl.trans h)) fun k hk => ?_
  have hk1 : k < (freeN l s).length := by rw [free_len _ _ (hl.trans h)] at hk; exact hk
  have hk2 : k < l.length := by omega
  rw [g_free (hl.trans h) hk1, g_free h hk2]
  split <;> rfl
theorem free_stays {l s q : List Nat} (h : l.length = s.length) (hq : l.length = q.length) (e : freeN l q = l) : freeN (freeN l s) q = freeN l s := by
  have hl := free_len l s h
  refine ext_g (free_len _ _ (hl.trans hq)) fun k hk => ?_
  have hk1 : k < (freeN l s).length := by rw [free_len _ _ (hl.trans hq)] at hk; exact hk
  have hk2 : k < l.length := by omega
  have := congrArg (fun z => g z k) e
  simp only [g_free hq hk2] at this
  rw [g_free (hl.trans hq) hk1, g_free h hk2]
  by_cases a : g q k = 45
  · rw [if_pos a]
  · rw [if_neg a] at this ⊢
    rw [← this]
    split <;> rfl
theorem count_lt {α : Type} (P Q : α → Bool) : ∀ (l : List α), (∀ a ∈ l, Q a = true → P a = true) → (∃ a ∈ l, P a = true ∧ Q a = false) → l.countP Q < l.countP P
  | [], _, ⟨a, h, _⟩ => by simp at h
  | b :: l, h, ⟨a, ha, h1, h2⟩ => by
    have mono : l.countP Q ≤ l.countP P := List.countP_mono_left fun a ha q => h a (List.mem_cons_of_mem _ ha) q
    rcases List.mem_cons.mp ha with e | e
    · subst e
      rw [List.countP_cons_of_pos h1, List.countP_cons_of_neg (by simp [h2])]
      omega
    · have ih := count_lt P Q l (fun a ha => h a (List.mem_cons_of_mem _ ha)) ⟨a, e, h1, h2⟩
      by_cases hb : Q b = true
      · rw [List.countP_cons_of_pos hb, List.countP_cons_of_pos (h b List.mem_cons_self hb)]
        omega
      · rw [List.countP_cons_of_neg hb]
        by_cases hp : P b = true
        · rw [List.countP_cons_of_pos hp]; omega
        · rw [List.countP_cons_of_neg hp]; exact ih
theorem first_some {ps : List Pr} {l : List Nat} {i : Nat} (h : firstN ps l = some i) : ∃ p, ps[i]? = some p ∧ hit l p = true ∧ p ∈ ps := by
  obtain ⟨hi, hp, _⟩ := List.findIdx?_eq_some_iff_getElem.mp h
  exact ⟨ps[i], List.getElem?_eq_getElem hi, hp, List.getElem_mem hi⟩
theorem peel_ex (ps : List Pr) : ∀ (m : Nat) (l : List Nat), (∀ p ∈ ps, l.length = p.2.length) → cnt ps l ≤ m → ∃ o r, Peel ps l o r ∧ o.length ≤ m := by
  intro m
  induction m with
  | zero =>
    intro l hl hc
    cases e : firstN ps l with
    | none => exact ⟨[], l, .stop e, by simp⟩
    | some i =>
      obtain ⟨p, hp, hh, hm⟩ := first_some e
      unfold cnt at hc
      have := List.countP_eq_zero.mp (Nat.le_zero.mp hc) p hm
      unfold hit at hh
      rw [Bool.and_eq_true] at hh
      exact absurd hh.2 this
  | succ m ih =>
    intro l hl hc
    cases e : firstN ps l with
    | none => exact ⟨[], l, .stop e, by simp⟩
    | some i =>
      obtain ⟨p, hp, hh, hm⟩ := first_some e
      have hlp := hl p hm
      have lt : cnt ps (freeN l p.2) < cnt ps l := by
        refine count_lt _ _ _ (fun q hq hQ => ?_) ⟨p, hm, ?_, ?_⟩
        · by_cases z : freeN l q.2 = l
          · rw [decide_eq_true (free_stays hlp (hl q hq) z)] at hQ
            cases hQ
          · simp [z]
        · unfold hit at hh
          rw [Bool.and_eq_true] at hh
          exact hh.2
        · simp [free_free hlp]
      obtain ⟨o, r, h1, h2⟩ := ih (freeN l p.2) (fun q hq => by rw [free_len l p.2 hlp]; exact hl q hq) (by omega)
      exact ⟨i :: o, r, .step e hp hh h1, by simpa using h2⟩
section
variable {ps : List Pr} {n : Nat} (hn : ∀ p ∈ ps, p.2.length = n)
include hn
theorem Peel.len {l o r : List Nat} (h : Peel ps l o r) (hl : l.length = n) : r.length = n := by
  induction h with
  | stop _ => exact hl
  | step e hp hh h ih =>
    have hm := List.mem_of_getElem? hp
    exact ih (by rw [free_len _ _ (by rw [hl, hn _ hm]), hl])
omit hn in
theorem Peel.done {l o r : List Nat} (h : Peel ps l o r) : firstN ps r = none := by
  induction h with
  | stop e => exact e
  | step e hp hh h ih => exact ih
omit hn in
theorem Peel.lt {l o r : List Nat} (h : Peel ps l o r) : ∀ i ∈ o, i < ps.length := by
  induction h with
  | stop e => simp
  | step e hp hh h ih =>
    intro j hj
    rcases List.mem_cons.mp hj with z | z
    · rw [z]; exact (List.getElem?_eq_some_iff.mp hp).1
    · exact ih j z
theorem Peel.cell {l o r : List Nat} (h : Peel ps l o r) (hl : l.length = n) : ∀ k, k < n → g r k = 45 ∨ g r k = g l k := by
  induction h with
  | stop e => exact fun k _ => .inr rfl
  | @step l o r i p e hp hh h ih =>
    intro k hk
    have hm := List.mem_of_getElem? hp
    have hlp : l.length = p.2.length := by rw [hl, hn _ hm]
    rcases ih (by rw [free_len _ _ hlp, hl]) k hk with z | z
    · exact .inl z
    · rw [g_free hlp (by omega)] at z
      split at z
      · exact .inr z
      · exact .inl z
/-- fast cells: marks, and no stamp that covers one of them fits all of them -/
def fastB (ps : List Pr) (l : List Nat) (S : List Nat) : Bool := (!S.any fun k => g l k == 45) && !ps.any fun p => (S.any fun k => !(g p.2 k == 45)) && !S.any fun k => !(g p.2 k == 45) && !(g p.2 k == g l k)
omit hn in
theorem fastB_iff {l : List Nat} {S : List Nat} : fastB ps l S = true ↔ (∀ k ∈ S, g l k ≠ 45) ∧ ∀ p ∈ ps, (∃ k ∈ S, g p.2 k ≠ 45) → ∃ k ∈ S, g p.2 k ≠ 45 ∧ g p.2 k ≠ g l k := by
  unfold fastB
  simp only [Bool.and_eq_true, Bool.not_eq_true', List.any_eq_false, List.any_eq_true, Bool.and_eq_false_iff, beq_iff_eq, beq_eq_false_iff_ne, ne_eq]
  constructor
  · rintro ⟨h1, h2⟩
    refine ⟨h1, fun p hp ⟨k, hk, hk2⟩ => ?_⟩
    have := h2 p hp
    by_cases z : ∃ k ∈ S, g p.2 k ≠ 45 ∧ g p.2 k ≠ g l k
    · exact z
    · exfalso
      refine this ⟨⟨k, hk, hk2⟩, fun j hj hh => z ⟨j, hj, hh⟩⟩
  · rintro ⟨h1, h2⟩
    refine ⟨h1, fun p hp ⟨⟨k, hk, hk2⟩, h3⟩ => ?_⟩
    obtain ⟨j, hj, hh⟩ := h2 p hp ⟨k, hk, hk2⟩
    exact h3 j hj hh
/-- fast cells are not freed -/
theorem Peel.fast {l o r : List Nat} (h : Peel ps l o r) (hl : l.length = n) {S : List Nat} (hS : ∀ k ∈ S, k < n) (f : fastB ps l S = true) : ∀ k ∈ S, g r k = g l k := by
  induction h with
  | stop e => exact fun k _ => rfl
  | @step l o r i p e hp hh h ih =>
    have hm := List.mem_of_getElem? hp
    have hlp : l.length = p.2.length := by rw [hl, hn _ hm]
    obtain ⟨f1, f2⟩ := fastB_iff.mp f
    unfold hit at hh
    rw [Bool.and_eq_true] at hh
    have ag := (agree_iff p.2 l hlp.symm).mp hh.1
    have no : ∀ k ∈ S, g p.2 k = 45 := fun k hk => by
      by_cases z : g p.2 k = 45
      · exact z
      · obtain ⟨j, hj, a, b⟩ := f2 p hm ⟨k, hk, z⟩
        rcases ag j (by have := hS j hj; omega) with c | c | c
        · exact absurd c a
        · exact absurd c (f1 j hj)
        · exact absurd c b
    have same : ∀ k ∈ S, g (freeN l p.2) k = g l k := fun k hk => by rw [g_free hlp (by have := hS k hk; omega), if_pos (no k hk)]
    have f' : fastB ps (freeN l p.2) S = true := fastB_iff.mpr ⟨fun k hk => by rw [same k hk]; exact f1 k hk, fun q hq hc => by
      obtain ⟨j, hj, a, b⟩ := f2 q hq hc
      exact ⟨j, hj, a, by rw [same j hj]; exact b⟩⟩
    intro k hk
    rw [ih (by rw [free_len _ _ hlp, hl]) f' k hk, same k hk]
/-- what is left is fast -/
theorem Peel.stuck {l o r : List Nat} (h : Peel ps l o r) (hl : l.length = n) {S : List Nat} (hS : ∀ k, k ∈ S ↔ k < n ∧ g r k ≠ 45) : fastB ps l S = true := by
  have hr := h.len hn hl
  have hc := h.cell hn hl
  have eq : ∀ k ∈ S, g r k = g l k := fun k hk => by
    obtain ⟨a, b⟩ := (hS k).mp hk
    rcases hc k a with z | z
    · exact absurd z b
    · exact z
  refine fastB_iff.mpr ⟨fun k hk => by rw [← eq k hk]; exact ((hS k).mp hk).2, fun p hp ⟨k, hk, hk2⟩ => ?_⟩
  by_cases z : ∃ k ∈ S, g p.2 k ≠ 45 ∧ g p.2 k ≠ g l k
  · exact z
  · exfalso
    have hrp : r.length = p.2.length := by rw [hr, hn p hp]
    have no := List.findIdx?_eq_none_iff.mp h.done p hp
    have : hit r p = true := by
      unfold hit
      rw [Bool.and_eq_true]
      constructor
      · refine (agree_iff p.2 r hrp.symm).mpr fun j hj => ?_
        by_cases a : g p.2 j = 45
        · exact .inl a
        · by_cases b : g r j = 45
          · exact .inr (.inl b)
          · have hj' : j ∈ S := (hS j).mpr ⟨by rw [← hn p hp]; exact hj, b⟩
            refine .inr (.inr ?_)
            by_cases c : g p.2 j = g l j
            · rw [eq j hj']; exact c
            · exact absurd ⟨j, hj', a, c⟩ z
      · rw [Bool.not_eq_true', decide_eq_false_iff_not]
        intro e
        have e' := congrArg (fun y => g y k) e
        obtain ⟨k1, k2⟩ := (hS k).mp hk
        simp only [g_free hrp (by omega : k < r.length)] at e'
        rw [if_neg hk2] at e'
        exact k2 e'.symm
    rw [this] at no
    cases no
/-- pressing the peeled stamps in turn, the last one first -/
theorem Peel.leads {l o r : List Nat} (h : Peel ps l o r) (hl : l.length = n) {s : List Nat} (hs : s.length = n) (h45 : ∀ k, k < n → g s k ≠ 45) (ha : agreeN s r = true) :
    ∃ s', (o.reverse.map fun i => ((ps[i]?).getD ([], [])).2).foldl pressN s = s' ∧ s'.length = n ∧ (∀ k, k < n → g s' k ≠ 45) ∧ agreeN s' l = true := by
  induction h with
  | stop e => exact ⟨s, rfl, hs, h45, ha⟩
  | @step l o r i p e hp hh h ih =>
    have hm := List.mem_of_getElem? hp
    have hlp : l.length = p.2.length := by rw [hl, hn _ hm]
    obtain ⟨s', e1, e2, e3, e4⟩ := ih (by rw [free_len _ _ hlp, hl]) ha
    have hsp : s'.length = p.2.length := by rw [e2, hn _ hm]
    refine ⟨pressN s' p.2, ?_, by rw [press_len _ _ hsp, e2], fun k hk => ?_, ?_⟩
    · rw [List.reverse_cons, List.map_append, List.foldl_append, e1]
      simp [hp]
    · rw [g_press hsp (by omega)]
      split
      · exact e3 k hk
      · assumption
    · unfold hit at hh
      rw [Bool.and_eq_true] at hh
      have ag := (agree_iff p.2 l hlp.symm).mp hh.1
      have a4 := (agree_iff s' _ (by rw [free_len _ _ hlp, hl, e2])).mp e4
      refine (agree_iff _ _ (by rw [press_len _ _ hsp, e2, hl])).mpr fun k hk => ?_
      have hk' : k < n := by rw [press_len _ _ hsp, e2] at hk; exact hk
      rw [g_press hsp (by omega)]
      split
      · rename_i z
        have := a4 k (by omega)
        rw [g_free hlp (by omega), if_pos z] at this
        exact this
      · rename_i z
        exact (ag k (by rw [← hlp, hl]; exact hk')).imp id id
end
end K10

set_option Elab.async false
set_option linter.all false
set_option maxRecDepth 100000
set_option maxHeartbeats 4000000
namespace K10
open PySem L2 Pv

/-! ### values: peeling, by the program and by the law -/
theorem isnot_non : cmpD .isnot .non .non = some false := id rfl
theorem isnot_int (k : Int) : cmpD .isnot (.int k) .non = some true := id rfl
theorem isnot_str (k : List Nat) : cmpD .isnot (.str k) .non = some true := id rfl
theorem is_non : cmpD .is .non .non = some true := id rfl
theorem is_int (k : Int) : cmpD .is (.int k) .non = some false := id rfl
theorem is_str (k : List Nat) : cmpD .is (.str k) .non = some false := id rfl
def natO : Option Nat → D
  | none => .non
  | some i => .int (i : Nat)
theorem frees_ok (s l : List Nat) (h : l.length = s.length) (hl : l.length ≤ 1000) : F_frees_marks [.str s, .str l] = some (.bl (agreeN s l && !decide (freeN l s = l))) := by
  have a1 := agree_ok s l
  have a2 := peeled_ok l s h hl
  unfold F_frees_marks evF ir_frees_marks
  rw [if_pos (show [D.str s, .str l].length = 2 from rfl)]
  cases e : agreeN s l
  · simp [Z_frees_marks, T_frees_marks, startD, a1, e]
  · simp [Z_frees_marks, T_frees_marks, startD, a1, a2, e]
theorem first_loop (A : Sl) (l : List Nat) (hl : l.length ≤ 1000) : ∀ (qs : List Pr) (k : Nat) (z u : Sl), (∀ p ∈ qs, l.length = p.2.length) →
    (∃ i, qs.findIdx? (hit l) = some i ∧ forL (.tp [2, 3]) (evSs Z_first_to_peel [.ifs (.call 10 [.v 3, .v 1]) [.ret (.v 2)] []]) (enumD k (qs.map fun p => D.str p.2)) [A, .v (.str l), z, u] = some (.rt (.int ((k + i : Nat) : Int)))) ∨
    (qs.findIdx? (hit l) = none ∧ ∃ z' u', forL (.tp [2, 3]) (evSs Z_first_to_peel [.ifs (.call 10 [.v 3, .v 1]) [.ret (.v 2)] []]) (enumD k (qs.map fun p => D.str p.2)) [A, .v (.str l), z, u] = some (.nx [A, .v (.str l), z', u']))
  | [], k, z, u, _ => .inr ⟨rfl, z, u, by simp [enumD]⟩
  | p :: qs, k, z, u, h => by
    have a1 := frees_ok p.2 l (h p List.mem_cons_self) hl
    have st : setT (.tp [2, 3]) (.tup [.int (k : Nat), .str p.2]) [A, .v (.str l), z, u] = some [A, .v (.str l), .v (.int (k : Nat)), .v (.str p.2)] := by simp
    have f10 : Z_first_to_peel.F 10 = F_frees_marks := id rfl
    simp only [List.map_cons, enumD]
    rw [forL_cons, st, bind_someX]
    cases e : hit l p
    · have a2 : F_frees_marks [.str p.2, .str l] = some (.bl false) := by rw [a1]; unfold hit at e; rw [e]
      have step : evSs Z_first_to_peel [.ifs (.call 10 [.v 3, .v 1]) [.ret (.v 2)] []] [A, .v (.str l), .v (.int (k : Nat)), .v (.str p.2)] = some (.nx [A, .v (.str l), .v (.int (k : Nat)), .v (.str p.2)]) := by simp [f10, a2]
      rw [step, bind_someX, turnO_nx]
      rcases first_loop A l hl qs (k + 1) (.v (.int (k : Nat))) (.v (.str p.2)) (fun q hq => h q (List.mem_cons_of_mem _ hq)) with ⟨i, e1, e2⟩ | ⟨e1, e2⟩
      · refine .inl ⟨i + 1, ?_, ?_⟩
        · rw [List.findIdx?_cons, e, e1]; rfl
        · rw [e2]; congr 4; omega
      · refine .inr ⟨?_, e2⟩
        rw [List.findIdx?_cons, e, e1]; rfl
    · have a2 : F_frees_marks [.str p.2, .str l] = some (.bl true) := by rw [a1]; unfold hit at e; rw [e]
      have step : evSs Z_first_to_peel [.ifs (.call 10 [.v 3, .v 1]) [.ret (.v 2)] []] [A, .v (.str l), .v (.int (k : Nat)), .v (.str p.2)] = some (.rt (.int (k : Nat))) := by simp [f10, a2]
      refine .inl ⟨0, ?_, ?_⟩
      · rw [List.findIdx?_cons, e]; rfl
      · rw [step, bind_someX, turnO_rt]; rfl
theorem first_ok (ps : List Pr) (l : List Nat) (hl : l.length ≤ 1000) (h : ∀ p ∈ ps, l.length = p.2.length) : F_first_to_peel [.tup (ps.map fun p => D.str p.2), .str l] = some (natO (firstN ps l)) := by
  have e0 : enumX (.tup (ps.map fun p => D.str p.2)) = some (enumD 0 (ps.map fun p => D.str p.2)) := by simp
  unfold F_first_to_peel evF ir_first_to_peel firstN
  rw [if_pos (show [D.tup (ps.map fun p => D.str p.2), .str l].length = 2 from rfl)]
  rcases first_loop (.v (.tup (ps.map fun p => D.str p.2))) l hl ps 0 .no .no h with ⟨i, e1, e2⟩ | ⟨e1, z', u', e2⟩
  · simp only [Nat.zero_add] at e2
    simp [startD, e0]
    rw [e2, e1]
    rfl
  · simp [startD, e0]
    rw [e2, e1]
    rfl
/-- the order so far, and the rest -/
theorem peel_loop {ps : List Pr} {n : Nat} (hn : ∀ p ∈ ps, p.2.length = n) (h1000 : n ≤ 1000) (A B : Sl) : ∀ {l o r : List Nat}, Peel ps l o r → l.length = n → ∀ (m : Nat) (acc : List D), o.length < m → acc.length + o.length ≤ 1000 →
    whlL (evE Z_peel_by (.cmp .isnot (.v 4) (.c .non))) (evSs Z_peel_by [.app 2 (.v 4), .asg (.nm 3) (.call 9 [.v 3, .ix (.v 0) (.v 4)]), .asg (.nm 4) (.call 11 [.v 0, .v 3])]) m
      [.v (.tup (ps.map fun p => D.str p.2)), B, .o (.lst acc), .v (.str l), .v (natO (firstN ps l))] = some (.nx [.v (.tup (ps.map fun p => D.str p.2)), B, .o (.lst (acc ++ o.map fun i => D.int (i : Nat))), .v (.str r), .v .non]) := by
  intro l o r h
  induction h with
  | @stop l e =>
    intro hl m acc hm ha
    obtain ⟨m, rfl⟩ : ∃ k, m = k + 1 := ⟨m - 1, by simp at hm; omega⟩
    rw [e]
    unfold whlL
    simp [natO, isnot_non]
  | @step l o r i p e hp hh h ih =>
    intro hl m acc hm ha
    obtain ⟨m, rfl⟩ : ∃ k, m = k + 1 := ⟨m - 1, by simp at hm; omega⟩
    have hmem := List.mem_of_getElem? hp
    have hlp : l.length = p.2.length := by rw [hl, hn _ hmem]
    have hfl := free_len l p.2 hlp
    have a1 := peeled_ok l p.2 hlp (by omega)
    have a2 := first_ok ps (freeN l p.2) (by omega) (fun q hq => by rw [hfl, hl, hn q hq])
    have hat : atI (ps.map fun p => D.str p.2) ((i : Nat) : Int) = some (.str p.2) := atI_of (by omega) (by simp [hp])
    have lim : acc.length < 16777216 := by omega
    have f9 : Z_peel_by.F 9 = F_peeled := id rfl
    have f11 : Z_peel_by.F 11 = F_first_to_peel := id rfl
    have step : evSs Z_peel_by [.app 2 (.v 4), .asg (.nm 3) (.call 9 [.v 3, .ix (.v 0) (.v 4)]), .asg (.nm 4) (.call 11 [.v 0, .v 3])] [.v (.tup (ps.map fun p => D.str p.2)), B, .o (.lst acc), .v (.str l), .v (.int (i : Nat))] =
        some (.nx [.v (.tup (ps.map fun p => D.str p.2)), B, .o (.lst (acc ++ [.int (i : Nat)])), .v (.str (freeN l p.2)), .v (natO (firstN ps (freeN l p.2)))]) := by
      simp [f9, f11, hat, a1, a2, lim]
    rw [e]
    unfold whlL
    have ce : evE Z_peel_by (.cmp .isnot (.v 4) (.c .non)) [.v (.tup (ps.map fun p => D.str p.2)), B, .o (.lst acc), .v (.str l), .v (natO (some i))] = some (.bl true) := by simp [natO, isnot_int]
    rw [ce]
    show (evSs Z_peel_by _ [_, B, _, _, .v (.int (i : Nat))]).bind _ = _
    rw [step]
    show whlL _ _ m _ = _
    have ih' := ih (by rw [hfl, hl]) m (acc ++ [D.int ((i : Nat) : Int)]) (by simp at hm; omega) (by simp at ha ⊢; omega)
    rw [ih']
    simp
theorem peel_by_ok {ps : List Pr} {n : Nat} (hn : ∀ p ∈ ps, p.2.length = n) (h1000 : n ≤ 1000) {l o r : List Nat} (h : Peel ps l o r) (hl : l.length = n) (ho : o.length ≤ 500) :
    F_peel_by [.tup (ps.map fun p => D.str p.2), .str l] = some (.tup [.tup (o.map fun i => D.int (i : Nat)), .str r]) := by
  have a1 := first_ok ps l (by omega) (fun q hq => by rw [hl, hn q hq])
  have a2 := peel_loop hn h1000 (.v (.tup (ps.map fun p => D.str p.2))) (.v (.str l)) h hl 1000000 [] (by omega) (by simp; omega)
  have f11 : Z_peel_by.F 11 = F_first_to_peel := id rfl
  simp only [List.nil_append] at a2
  unfold F_peel_by evF ir_peel_by
  rw [if_pos (show [D.tup (ps.map fun p => D.str p.2), .str l].length = 2 from rfl)]
  simp [startD, f11, a1]
  rw [a2]
  simp
end K10

set_option Elab.async false
set_option linter.all false
set_option maxRecDepth 100000
set_option maxHeartbeats 4000000
namespace K10
open PySem L2 Pv

/-! ### values: the stock's fields, peeling, making -/
abbrev stk (n : Nat) (ps : List Pr) : D := .ins "Stock" stockF (stockV n ps)
theorem sn12 : ¬ (("size" : Str) = "layers") := by decide +kernel
theorem sn13 : ¬ (("size" : Str) = "stamps") := by decide +kernel
theorem sn32 : ¬ (("stamps" : Str) = "layers") := by decide +kernel
theorem fld_layers (n : Nat) (ps : List Pr) : fldOf stockF (stockV n ps) "layers" = some (.tup (ps.map fun p => D.str p.2)) := by simp [stockF, stockV, fldOf, sn12, sn32]
theorem fld_stamps (n : Nat) (ps : List Pr) : fldOf stockF (stockV n ps) "stamps" = some (TT ps) := by simp [stockF, stockV, fldOf, sn13]
theorem names_of (n : Nat) (ps : List Pr) (h : ps.length ≤ 1000) : F_Stock_names [stk n ps] = some (.tup (ps.map fun p => D.str p.1)) := by
  have e1 : seqD (TT ps) = some (ps.map fun p => D.tup [.str p.1, .str p.2]) := by simp [TT]
  have hl : ps.length ≤ 16777216 := by omega
  have m1 : ((("Stock" : Str), ("stamps" : Str)) ∈ Z_Stock_names.L) := by simp [Z_Stock_names]
  unfold F_Stock_names evF ir_Stock_names
  rw [if_pos (show [stk n ps].length = 1 from rfl)]
  simp [startD, fld_stamps, m1, e1, hl]
  rw [lcL_of (fun p : Pr => D.tup [.str p.1, .str p.2]) (fun _ => true) (fun p => .str p.1)]
  · rw [List.filter_eq_self.mpr (by simp)]; simp
  · intro p _
    refine ⟨_, rfl, rfl, fun _ => ?_⟩
    simp [wipeD]
def peeF : List Str := ["seen", "order", "left"]
theorem pn1 : ¬ (("seen" : Str) = "order") := by decide +kernel
theorem pn2 : ¬ (("seen" : Str) = "left") := by decide +kernel
theorem pn3 : ¬ (("order" : Str) = "left") := by decide +kernel
theorem peeling0 (a b c : D) : F_Peeling___init__ [a, b, c] = some (.ins "Peeling" peeF [a, b, c]) := by
  have m1 : ((("Peeling" : Str), ("seen" : Str)) ∈ Z_Peeling___init__.L) := by simp [Z_Peeling___init__]
  have m2 : ((("Peeling" : Str), ("order" : Str)) ∈ Z_Peeling___init__.L) := by simp [Z_Peeling___init__]
  have m3 : ((("Peeling" : Str), ("left" : Str)) ∈ Z_Peeling___init__.L) := by simp [Z_Peeling___init__]
  unfold F_Peeling___init__ valI evI0
  rw [if_pos (show [a, b, c].length + 1 = 4 from rfl)]
  have go : evSs Z_Peeling___init__ ir_Peeling___init__ (.o (.ins "Peeling" [] []) :: startD (4 - 1) [a, b, c]) = some (.nx [.o (.ins "Peeling" peeF [a, b, c]), .v a, .v b, .v c]) := by
    simp [ir_Peeling___init__, startD, m1, m2, m3, putN, putV, pn1, pn2, pn3, peeF]
  rw [go]
  simp [insC]
def makF : List Str := ["made", "row", "cells", "cell"]
theorem mn1 : ¬ (("made" : Str) = "row") := by decide +kernel
theorem mn2 : ¬ (("made" : Str) = "cells") := by decide +kernel
theorem mn3 : ¬ (("made" : Str) = "cell") := by decide +kernel
theorem mn4 : ¬ (("row" : Str) = "cells") := by decide +kernel
theorem mn5 : ¬ (("row" : Str) = "cell") := by decide +kernel
theorem mn6 : ¬ (("cells" : Str) = "cell") := by decide +kernel
theorem making0 (a b c d : D) : F_Making___init__ [a, b, c, d] = some (.ins "Making" makF [a, b, c, d]) := by
  have m1 : ((("Making" : Str), ("made" : Str)) ∈ Z_Making___init__.L) := by simp [Z_Making___init__]
  have m2 : ((("Making" : Str), ("row" : Str)) ∈ Z_Making___init__.L) := by simp [Z_Making___init__]
  have m3 : ((("Making" : Str), ("cells" : Str)) ∈ Z_Making___init__.L) := by simp [Z_Making___init__]
  have m4 : ((("Making" : Str), ("cell" : Str)) ∈ Z_Making___init__.L) := by simp [Z_Making___init__]
  unfold F_Making___init__ valI evI0
  rw [if_pos (show [a, b, c, d].length + 1 = 5 from rfl)]
  have go : evSs Z_Making___init__ ir_Making___init__ (.o (.ins "Making" [] []) :: startD (5 - 1) [a, b, c, d]) = some (.nx [.o (.ins "Making" makF [a, b, c, d]), .v a, .v b, .v c, .v d]) := by
    simp [ir_Making___init__, startD, m1, m2, m3, m4, putN, putV, mn1, mn2, mn3, mn4, mn5, mn6, makF]
  rw [go]
  simp [insC]
abbrev nm (ps : List Pr) (i : Nat) : List Nat := ((ps[i]?).getD ([], [])).1
theorem peeling_ok {ps : List Pr} {n : Nat} (hL : Lot n ps) {l o r : List Nat} (h : Peel ps l o r) (hl : Lay n l) (ho : o.length ≤ 500) :
    F_peeling [stk n ps, .str l] = some (.ins "Peeling" peeF [.str l, .tup (o.map fun i => D.str (nm ps i)), .str r]) := by
  have hn : ∀ p ∈ ps, p.2.length = n := fun p hp => (hL.lay p hp).len
  have a1 := peel_by_ok hn (by have := hL.n30; omega) h hl.len ho
  have a2 := names_of n ps (by have := hL.many; omega)
  have f8 : Z_peeling.F 8 = F_Peeling___init__ := id rfl
  have f12 : Z_peeling.F 12 = F_peel_by := id rfl
  have f26 : Z_peeling.F 26 = F_Stock_names := id rfl
  have m1 : ((("Stock" : Str), ("layers" : Str)) ∈ Z_peeling.L) := by simp [Z_peeling]
  have fm : findM Z_peeling.P "Stock" "names" = some 26 := by simp [Z_peeling, findM]
  have lim : o.length ≤ 16777216 := by omega
  have comp : ∀ A B E F G : Sl, lcL (.nm 5) (evE Z_peeling (.c (.bl true))) (evE Z_peeling (.ix (.v 2) (.v 5))) [A, B, .v (.tup (ps.map fun p => D.str p.1)), E, F, G] (o.map fun i => D.int ((i : Nat) : Int)) = some (o.map fun i => D.str (nm ps i)) := by
    intro A B E F G
    rw [lcL_of (fun i : Nat => D.int ((i : Nat) : Int)) (fun _ => true) (fun i => D.str (nm ps i))]
    · rw [List.filter_eq_self.mpr (by simp)]
    · intro i hi
      have hlt := h.lt i hi
      have hat : atI (ps.map fun p => D.str p.1) ((i : Nat) : Int) = some (.str (nm ps i)) := atI_of (by omega) (by simp [hlt, nm])
      refine ⟨_, rfl, rfl, fun _ => ?_⟩
      simp [hat]
  unfold F_peeling evF ir_peeling
  rw [if_pos (show [stk n ps, .str l].length = 2 from rfl)]
  have p1 : prpX Z_peeling.P Z_peeling.F "names" (stk n ps) = some (.tup (ps.map fun p => D.str p.1)) := by
    show (findM Z_peeling.P "Stock" "names").bind (fun k => Z_peeling.F k [stk n ps]) = _
    rw [fm]
    exact a2
  simp [startD, f12, fld_layers, m1, a1, p1, lim, wipeD]
  rw [comp]
  simp [f8, peeling0]
/-- the first cell of which the marks differ -/
def clashN (b r : List Nat) : Option Nat := (List.range b.length).find? fun k => badP (g b k) (g r k)
theorem clash_loop (A : Sl) (b r : List Nat) (hl : b.length = r.length) (hb : b.length ≤ 1000) : ∀ (m k : Nat) (z u : Sl), k + m = b.length →
    (∃ i, (List.range' k m).find? (fun k => badP (g b k) (g r k)) = some i ∧ forL (.tp [2, 3]) (evSs Z_first_clash [.ifs (.and (.cmp .ne (.v 3) (.c (.str [45]))) (.and (.cmp .ne (.ix (.v 1) (.v 2)) (.c (.str [45]))) (.last (.cmp .ne (.v 3) (.ix (.v 1) (.v 2)))))) [.ret (.v 2)] []]) (enumD k ((b.drop k).map fun c => D.str [c])) [A, .v (.str r), z, u] = some (.rt (.int ((i : Nat) : Int)))) ∨
    ((List.range' k m).find? (fun k => badP (g b k) (g r k)) = none ∧ ∃ z' u', forL (.tp [2, 3]) (evSs Z_first_clash [.ifs (.and (.cmp .ne (.v 3) (.c (.str [45]))) (.and (.cmp .ne (.ix (.v 1) (.v 2)) (.c (.str [45]))) (.last (.cmp .ne (.v 3) (.ix (.v 1) (.v 2)))))) [.ret (.v 2)] []]) (enumD k ((b.drop k).map fun c => D.str [c])) [A, .v (.str r), z, u] = some (.nx [A, .v (.str r), z', u'])) := by
  intro m
  induction m with
  | zero =>
    intro k z u hk
    refine .inr ⟨rfl, z, u, ?_⟩
    rw [List.drop_eq_nil_of_le (by omega)]
    simp [enumD]
  | succ m ih =>
    intro k z u hk
    have hkb : k < b.length := by omega
    have hkr : k < r.length := by omega
    have hr1 : r.length ≤ 16777216 := by omega
    rw [List.drop_eq_getElem_cons hkb, List.map_cons, List.range'_succ]
    simp only [enumD]
    have st : setT (.tp [2, 3]) (.tup [.int (k : Nat), .str [b[k]]]) [A, .v (.str r), z, u] = some [A, .v (.str r), .v (.int (k : Nat)), .v (.str [b[k]])] := by simp
    have hat := atI_k hkr
    rw [forL_cons, st, bind_someX, List.find?_cons]
    have step : evSs Z_first_clash [.ifs (.and (.cmp .ne (.v 3) (.c (.str [45]))) (.and (.cmp .ne (.ix (.v 1) (.v 2)) (.c (.str [45]))) (.last (.cmp .ne (.v 3) (.ix (.v 1) (.v 2)))))) [.ret (.v 2)] []] [A, .v (.str r), .v (.int (k : Nat)), .v (.str [b[k]])] =
        if badP (g b k) (g r k) then some (.rt (.int (k : Nat))) else some (.nx [A, .v (.str r), .v (.int (k : Nat)), .v (.str [b[k]])]) := by
      rw [g_eq hkb, g_eq hkr]
      by_cases c1 : b[k] = 45
      · simp [badP, c1]
      · by_cases c2 : r[k] = 45
        · simp [badP, c1, c2, hat, hr1]
        · by_cases c3 : b[k] = r[k]
          · simp [badP, c1, c2, c3, hat, hr1]
          · simp [badP, c1, c2, c3, hat, hr1]
    rw [step]
    cases e : badP (g b k) (g r k)
    · rw [if_neg (by simp), bind_someX, turnO_nx]
      exact ih (k + 1) _ _ (by omega)
    · rw [if_pos rfl, bind_someX, turnO_rt]
      exact .inl ⟨k, rfl, rfl⟩
theorem clash_ok (b r : List Nat) (hl : b.length = r.length) (hb : b.length ≤ 1000) : F_first_clash [.str b, .str r] = some (natO (clashN b r)) := by
  have e0 : enumX (.str b) = some (enumD 0 (b.map fun c => D.str [c])) := id rfl
  unfold F_first_clash evF ir_first_clash clashN
  rw [if_pos (show [D.str b, .str r].length = 2 from rfl), List.range_eq_range']
  rcases clash_loop (.v (.str b)) b r hl hb b.length 0 .no .no (by omega) with ⟨i, e1, e2⟩ | ⟨e1, z', u', e2⟩
  · rw [List.drop_zero] at e2
    simp [startD]
    rw [e2, e1]
    rfl
  · rw [List.drop_zero] at e2
    simp [startD]
    rw [e2, e1]
    rfl
/-- what making gives -/
def mak (ps : List Pr) (b o r : List Nat) : D := match clashN b r with
  | none => .ins "Making" makF [.bl true, .tup (o.reverse.map fun i => D.str (nm ps i)), .tup [], .non]
  | some c => .ins "Making" makF [.bl false, .non, .tup ((cellsN r).map fun k => D.int ((k : Nat) : Int)), .int ((c : Nat) : Int)]
theorem making_ok {ps : List Pr} {n : Nat} (hL : Lot n ps) {b l o r : List Nat} (h : Peel ps l o r) (hl : Lay n l) (hb : Lay n b) (ho : o.length ≤ 500) : F_making [stk n ps, .str b, .str l] = some (mak ps b o r) := by
  have hn : ∀ p ∈ ps, p.2.length = n := fun p hp => (hL.lay p hp).len
  have n30 := hL.n30
  have hr := h.len hn hl.len
  have a1 := peeling_ok hL h hl ho
  have a2 := clash_ok b r (by rw [hb.len, hr]) (by rw [hb.len]; omega)
  have a3 := cells_of_ok r (by omega)
  have f2 : Z_making.F 2 = F_cells_of := id rfl
  have f13 : Z_making.F 13 = F_peeling := id rfl
  have f37 : Z_making.F 37 = F_Making___init__ := id rfl
  have f38 : Z_making.F 38 = F_first_clash := id rfl
  have m1 : ((("Peeling" : Str), ("left" : Str)) ∈ Z_making.L) := by simp [Z_making]
  have m2 : ((("Peeling" : Str), ("order" : Str)) ∈ Z_making.L) := by simp [Z_making]
  have g1 : ∀ x y z : D, fldOf peeF [x, y, z] "left" = some z := fun x y z => by simp [peeF, fldOf, pn2, pn3]
  have g2 : ∀ x y z : D, fldOf peeF [x, y, z] "order" = some y := fun x y z => by simp [peeF, fldOf, pn1]
  have rv : ∀ xs : List D, u1D .rev (.tup xs) = some (.tup xs.reverse) := fun _ => id rfl
  unfold F_making evF ir_making mak
  rw [if_pos (show [stk n ps, .str b, .str l].length = 3 from rfl)]
  cases e : clashN b r with
  | none =>
    rw [e] at a2
    simp [startD, f13, a1, f38, g1, m1, a2, natO, is_non, g2, m2, rv, f37, making0, List.map_reverse]
  | some c =>
    rw [e] at a2
    simp [startD, f13, a1, f38, g1, m1, a2, natO, is_int, f2, a3, f37, making0]
end K10

set_option Elab.async false
set_option linter.all false
set_option maxRecDepth 100000
set_option maxHeartbeats 4000000
namespace K10
open PySem L2 Pv

/-! ### values: the law's own peeling -/
theorem at_pair {ps : List Pr} {k : Nat} {p : Pr} (h : ps[k]? = some p) : atI (ps.map fun p => D.lst [.str p.1, .str p.2]) ((k : Nat) : Int) = some (.lst [.str p.1, .str p.2]) := atI_of (by omega) (by simp [h])
theorem LL_ix {ps : List Pr} {k : Nat} {p : Pr} (h : ps[k]? = some p) : ixX (LL ps) (.int ((k : Nat) : Int)) = some (.lst [.str p.1, .str p.2]) := by
  unfold LL
  simp [at_pair h]
theorem lfirst_loop (ps : List Pr) (l : List Nat) (hl : l.length ≤ 1000) (hn : ∀ p ∈ ps, l.length = p.2.length) : ∀ (m k : Nat) (z : Sl), k + m = ps.length →
    (∃ i, (ps.drop k).findIdx? (hit l) = some i ∧ forL (.nm 2) (evSs Z_L_first [.ifs (.and (.call 49 [.ix (.ix (.v 0) (.v 2)) (.c (.int 1)), .v 1]) (.last (.cmp .ne (.call 50 [.v 1, .ix (.ix (.v 0) (.v 2)) (.c (.int 1))]) (.v 1)))) [.ret (.v 2)] []]) (rngD ((k : Nat) : Int) m) [.v (LL ps), .v (.str l), z] = some (.rt (.int ((k + i : Nat) : Int)))) ∨
    ((ps.drop k).findIdx? (hit l) = none ∧ ∃ z', forL (.nm 2) (evSs Z_L_first [.ifs (.and (.call 49 [.ix (.ix (.v 0) (.v 2)) (.c (.int 1)), .v 1]) (.last (.cmp .ne (.call 50 [.v 1, .ix (.ix (.v 0) (.v 2)) (.c (.int 1))]) (.v 1)))) [.ret (.v 2)] []]) (rngD ((k : Nat) : Int) m) [.v (LL ps), .v (.str l), z] = some (.nx [.v (LL ps), .v (.str l), z'])) := by
  intro m
  induction m with
  | zero =>
    intro k z hk
    refine .inr ⟨by rw [List.drop_eq_nil_of_le (by omega)]; rfl, z, by simp [rngD]⟩
  | succ m ih =>
    intro k z hk
    have hkp : k < ps.length := by omega
    obtain ⟨p, hp⟩ : ∃ p, ps[k]? = some p := ⟨ps[k], by simp [hkp]⟩
    have hat := at_pair hp
    have hm := List.mem_of_getElem? hp
    have a1 := L_agree_ok p.2 l (hn p hm).symm (by rw [← hn p hm]; exact hl)
    have a2 := L_free_ok l p.2 (hn p hm) hl
    have f49 : Z_L_first.F 49 = F_L_agree := id rfl
    have f50 : Z_L_first.F 50 = F_L_free := id rfl
    have hd : ps.drop k = p :: ps.drop (k + 1) := by
      rw [List.drop_eq_getElem_cons hkp]
      congr 1
      rw [List.getElem?_eq_getElem hkp] at hp
      exact Option.some.inj hp
    have st : setT (.nm 2) (.int ((k : Nat) : Int)) [.v (LL ps), .v (.str l), z] = some [.v (LL ps), .v (.str l), .v (.int ((k : Nat) : Int))] := by simp
    have ec : ((k : Nat) : Int) + 1 = ((k + 1 : Nat) : Int) := by omega
    have hx : ixD (LL ps) (.int ((k : Nat) : Int)) = some (.lst [.str p.1, .str p.2]) := by
      unfold LL
      rw [ixD]
      exact hat
    simp only [rngD]
    rw [forL_cons, st, bind_someX, hd, List.findIdx?_cons, ec]
    have step : evSs Z_L_first [.ifs (.and (.call 49 [.ix (.ix (.v 0) (.v 2)) (.c (.int 1)), .v 1]) (.last (.cmp .ne (.call 50 [.v 1, .ix (.ix (.v 0) (.v 2)) (.c (.int 1))]) (.v 1)))) [.ret (.v 2)] []] [.v (LL ps), .v (.str l), .v (.int ((k : Nat) : Int))] =
        if hit l p then some (.rt (.int (k : Nat))) else some (.nx [.v (LL ps), .v (.str l), .v (.int ((k : Nat) : Int))]) := by
      unfold hit
      cases e1 : agreeN p.2 l
      · simp [f49, f50, LL, hat, a1, a2, e1]
      · by_cases e2 : freeN l p.2 = l
        · simp [f49, f50, LL, hat, a1, a2, e1, e2]
        · simp [f49, f50, LL, hat, a1, a2, e1, e2]
    rw [step]
    cases e : hit l p
    · simp only [Bool.false_eq_true, if_false, bind_someX, turnO_nx]
      rcases ih (k + 1) (.v (.int ((k : Nat) : Int))) (by omega) with ⟨i, e1, e2⟩ | ⟨e1, e2⟩
      · refine .inl ⟨i + 1, by rw [e1]; rfl, ?_⟩
        rw [e2]
        congr 4
        omega
      · exact .inr ⟨by rw [e1]; rfl, e2⟩
    · simp only [if_true, bind_someX, turnO_rt]
      exact .inl ⟨0, rfl, by simp⟩
theorem L_first_ok (ps : List Pr) (hps : ps.length ≤ 1000) (l : List Nat) (hl : l.length ≤ 1000) (hn : ∀ p ∈ ps, l.length = p.2.length) : F_L_first [LL ps, .str l] = some (natO (firstN ps l)) := by
  have hr : okR (ps.length : Int) = true := by simp [okR]; omega
  unfold F_L_first evF ir_L_first firstN
  rw [if_pos (show [LL ps, D.str l].length = 2 from rfl)]
  have len : bltD .len [LL ps] = some (.int ps.length) := by simp [LL]
  rcases lfirst_loop ps l hl hn ps.length 0 .no (by omega) with ⟨i, e1, e2⟩ | ⟨e1, z', e2⟩
  · simp only [Nat.zero_add, List.drop_zero] at e1 e2
    simp [startD, len, hr]
    rw [show ((0 : Nat) : Int) = 0 from rfl] at e2
    rw [e2, e1]
    rfl
  · simp only [List.drop_zero] at e1 e2
    simp [startD, len, hr]
    rw [show ((0 : Nat) : Int) = 0 from rfl] at e2
    rw [e2, e1]
    rfl
theorem lpeel_loop {ps : List Pr} {n : Nat} (hps : ps.length ≤ 1000) (hn : ∀ p ∈ ps, p.2.length = n) (h1000 : n ≤ 1000) (B : Sl) : ∀ {l o r : List Nat}, Peel ps l o r → l.length = n → ∀ (m : Nat) (lo : Int) (acc : List D) (z u : Sl), o.length < m → acc.length + o.length ≤ 1000 →
    ∃ z' u', forL (.nm 4) (evSs Z_L_peel [.asg (.nm 5) (.call 60 [.v 0, .v 3]), .ifs (.cmp .is (.v 5) (.c .non)) [.brk] [], .app 2 (.v 5), .asg (.nm 3) (.call 50 [.v 3, .ix (.ix (.v 0) (.v 5)) (.c (.int 1))])]) (rngD lo m)
      [.v (LL ps), B, .o (.lst acc), .v (.str l), z, u] = some (.nx [.v (LL ps), B, .o (.lst (acc ++ o.map fun i => D.int ((i : Nat) : Int))), .v (.str r), z', u']) := by
  intro l o r h
  have f60 : Z_L_peel.F 60 = F_L_first := id rfl
  have f50 : Z_L_peel.F 50 = F_L_free := id rfl
  induction h with
  | @stop l e =>
    intro hl m lo acc z u hm ha
    obtain ⟨m, rfl⟩ : ∃ k, m = k + 1 := ⟨m - 1, by simp at hm; omega⟩
    have a1 := L_first_ok ps hps l (by omega) (fun q hq => by rw [hl, hn q hq])
    rw [e] at a1
    refine ⟨.v (.int lo), .v .non, ?_⟩
    simp only [rngD]
    rw [forL_cons]
    simp [f60, a1, natO, is_non]
  | @step l o r i p e hp hh h ih =>
    intro hl m lo acc z u hm ha
    obtain ⟨m, rfl⟩ : ∃ k, m = k + 1 := ⟨m - 1, by simp at hm; omega⟩
    have hmem := List.mem_of_getElem? hp
    have hlp : l.length = p.2.length := by rw [hl, hn _ hmem]
    have hfl := free_len l p.2 hlp
    have a1 := L_first_ok ps hps l (by omega) (fun q hq => by rw [hl, hn q hq])
    rw [e] at a1
    have a2 := L_free_ok l p.2 hlp (by omega)
    have hat := at_pair hp
    have lim : acc.length < 16777216 := by omega
    obtain ⟨z', u', ih'⟩ := ih (by rw [hfl, hl]) m (lo + 1) (acc ++ [D.int ((i : Nat) : Int)]) (.v (.int lo)) (.v (.int (i : Nat))) (by simp at hm; omega) (by simp at ha ⊢; omega)
    refine ⟨z', u', ?_⟩
    simp only [rngD]
    rw [forL_cons]
    have st : setT (.nm 4) (.int lo) [.v (LL ps), B, .o (.lst acc), .v (.str l), z, u] = some [.v (LL ps), B, .o (.lst acc), .v (.str l), .v (.int lo), u] := by simp
    have step : evSs Z_L_peel [.asg (.nm 5) (.call 60 [.v 0, .v 3]), .ifs (.cmp .is (.v 5) (.c .non)) [.brk] [], .app 2 (.v 5), .asg (.nm 3) (.call 50 [.v 3, .ix (.ix (.v 0) (.v 5)) (.c (.int 1))])] [.v (LL ps), B, .o (.lst acc), .v (.str l), .v (.int lo), u] =
        some (.nx [.v (LL ps), B, .o (.lst (acc ++ [D.int ((i : Nat) : Int)])), .v (.str (freeN l p.2)), .v (.int lo), .v (.int (i : Nat))]) := by
      simp [f60, f50, a1, natO, is_int, lim, LL_ix hp, a2]
    rw [st, bind_someX, step, bind_someX, turnO_nx, ih']
    simp
theorem L_peel_ok {ps : List Pr} {n : Nat} (hps : ps.length ≤ 400) (hn : ∀ p ∈ ps, p.2.length = n) (h1000 : n ≤ 1000) {l o r : List Nat} (h : Peel ps l o r) (hl : l.length = n) (ho : o.length ≤ ps.length) :
    F_L_peel [LL ps, .str l] = some (.lst [.lst (o.map fun i => D.int ((i : Nat) : Int)), .str r]) := by
  obtain ⟨z', u', key⟩ := lpeel_loop (by omega) hn h1000 (.v (.str l)) h hl (ps.length + 1) 0 [] .no .no (by omega) (by simp; omega)
  simp only [List.nil_append] at key
  have len : bltD .len [LL ps] = some (.int ps.length) := by simp [LL]
  have hr : okR ((ps.length : Int) + 1) = true := by simp [okR]; omega
  have ht : ((ps.length : Int) + 1).toNat = ps.length + 1 := by omega
  unfold F_L_peel evF ir_L_peel
  rw [if_pos (show [LL ps, D.str l].length = 2 from rfl)]
  simp [startD, len, hr, ht]
  rw [key]
  simp
end K10

set_option Elab.async false
set_option linter.all false
set_option maxRecDepth 100000
set_option maxHeartbeats 4000000
namespace K10
open PySem L2 Pv

/-! ### values: what leads -/
theorem layer_loop (A : Sl) (p : Pr) : ∀ (qs : List Pr) (z : Sl), p ∈ qs → (qs.map fun p => p.1).Nodup → forL (.nm 2) (evSs Z_L_layer_of [.ifs (.cmp .eq (.ix (.v 2) (.c (.int 0))) (.v 1)) [.ret (.ix (.v 2) (.c (.int 1)))] []]) (qs.map fun p => D.lst [.str p.1, .str p.2]) [A, .v (.str p.1), z] = some (.rt (.str p.2))
  | [], _, h, _ => by simp at h
  | q :: qs, z, h, hd => by
    rw [List.map_cons, List.nodup_cons] at hd
    rw [List.map_cons, forL_cons]
    rcases List.mem_cons.mp h with e | e
    · subst e
      simp
    · have ne : ¬ q.1 = p.1 := fun z => hd.1 (by rw [z]; exact List.mem_map.mpr ⟨p, e, rfl⟩)
      have ih := layer_loop A p qs (.v (.lst [.str q.1, .str q.2])) e hd.2
      simp [ne]
      exact ih
theorem layer_of_ok {ps : List Pr} (hd : (ps.map fun p => p.1).Nodup) {p : Pr} (h : p ∈ ps) : F_L_layer_of [LL ps, .str p.1] = some (.str p.2) := by
  have e1 : seqD (LL ps) = some (ps.map fun p => D.lst [.str p.1, .str p.2]) := by simp [LL]
  simp [F_L_layer_of, evF, ir_L_layer_of, startD, e1]
  rw [layer_loop _ p ps .no h hd]
  simp
abbrev ly (ps : List Pr) (i : Nat) : List Nat := ((ps[i]?).getD ([], [])).2
theorem layer_at {ps : List Pr} (hd : (ps.map fun p => p.1).Nodup) {i : Nat} (h : i < ps.length) : F_L_layer_of [LL ps, .str (nm ps i)] = some (.str (ly ps i)) := by
  have hm : ps[i] ∈ ps := List.getElem_mem h
  have := layer_of_ok hd hm
  simpa [nm, ly, h] using this
def groundN (b r : List Nat) : List Nat := (List.range b.length).map fun k => if g (pressN b r) k = 45 then 46 else g (pressN b r) k
theorem ground_len (b r : List Nat) : (groundN b r).length = b.length := by simp [groundN]
theorem g_ground {b r : List Nat} {k : Nat} (h : k < b.length) : g (groundN b r) k = if g (pressN b r) k = 45 then 46 else g (pressN b r) k := by
  rw [g_eq (by rw [ground_len]; exact h)]
  simp [groundN]
theorem ground_ok (b r : List Nat) (h : b.length = r.length) (hb : b.length ≤ 1000) : F_L_ground [.str b, .str r] = some (.str (groundN b r)) := by
  have hl := press_len b r h
  have h1 : (pressN b r).length ≤ 16777216 := by omega
  have hr : okR ((pressN b r).length : Int) = true := by unfold okR; simp; omega
  have f48 : Z_L_ground.F 48 = F_L_press := id rfl
  have a1 := L_press_ok b r h hb
  simp [F_L_ground, evF, ir_L_ground, startD, f48, a1, h1, hr]
  rw [rng_len, if_pos h1, lcL_rng (g := fun k => D.str [(fun k => if g (pressN b r) k = 45 then 46 else g (pressN b r) k) k])]
  · have := join_signs (fun k => if g (pressN b r) k = 45 then 46 else g (pressN b r) k) (List.range (pressN b r).length) (by simp; omega)
    simp only [map_someX, bind_someX, Function.comp_apply, this]
    simp [groundN, hl]
  · intro k hk
    have e := g_eq hk
    simp [wipeD, atI_k hk, h1, hk]
    by_cases hd : (pressN b r)[k] = 45
    · simp [hd, e]
    · simp [hd, e]
theorem pressed_loop {ps : List Pr} {n : Nat} (hd : (ps.map fun p => p.1).Nodup) (hn : ∀ p ∈ ps, p.2.length = n) (h1000 : n ≤ 1000) (B C : Sl) : ∀ (is : List Nat) (s : List Nat) (z : Sl), (∀ i ∈ is, i < ps.length) → s.length = n →
    ∃ z', forL (.nm 4) (evSs Z_L_pressed [.asg (.nm 3) (.call 48 [.v 3, .call 56 [.v 0, .v 4]])]) (is.map fun i => D.str (nm ps i)) [.v (LL ps), B, C, .v (.str s), z] = some (.nx [.v (LL ps), B, C, .v (.str ((is.map (ly ps)).foldl pressN s)), z'])
  | [], s, z, _, _ => ⟨z, by simp⟩
  | i :: is, s, z, h, hs => by
    have hi := h i List.mem_cons_self
    have a1 := layer_at hd hi
    have hly : (ly ps i).length = n := by
      have : ly ps i = (ps[i]).2 := by simp [ly, hi]
      rw [this]
      exact hn _ (List.getElem_mem hi)
    have a2 := L_press_ok s (ly ps i) (by rw [hs, hly]) (by omega)
    have f48 : Z_L_pressed.F 48 = F_L_press := id rfl
    have f56 : Z_L_pressed.F 56 = F_L_layer_of := id rfl
    obtain ⟨z', ih⟩ := pressed_loop hd hn h1000 B C is (pressN s (ly ps i)) (.v (.str (nm ps i))) (fun j hj => h j (List.mem_cons_of_mem _ hj)) (by rw [press_len _ _ (by rw [hs, hly]), hs])
    refine ⟨z', ?_⟩
    rw [List.map_cons, forL_cons]
    have st : setT (.nm 4) (.str (nm ps i)) [.v (LL ps), B, C, .v (.str s), z] = some [.v (LL ps), B, C, .v (.str s), .v (.str (nm ps i))] := by simp
    have step : evSs Z_L_pressed [.asg (.nm 3) (.call 48 [.v 3, .call 56 [.v 0, .v 4]])] [.v (LL ps), B, C, .v (.str s), .v (.str (nm ps i))] = some (.nx [.v (LL ps), B, C, .v (.str (pressN s (ly ps i))), .v (.str (nm ps i))]) := by
      simp [f48, f56, a1, a2]
    rw [st, bind_someX, step, bind_someX, turnO_nx, ih]
    rfl
theorem pressed_ok {ps : List Pr} {n : Nat} (hd : (ps.map fun p => p.1).Nodup) (hn : ∀ p ∈ ps, p.2.length = n) (h1000 : n ≤ 1000) (is : List Nat) (s : List Nat) (h : ∀ i ∈ is, i < ps.length) (hs : s.length = n) :
    F_L_pressed [LL ps, .str s, .tup (is.map fun i => D.str (nm ps i))] = some (.str ((is.map (ly ps)).foldl pressN s)) := by
  obtain ⟨z', key⟩ := pressed_loop hd hn h1000 (.v (.str s)) (.v (.tup (is.map fun i => D.str (nm ps i)))) is s .no h hs
  simp [F_L_pressed, evF, ir_L_pressed, startD]
  rw [key]
  simp
theorem mk_made (a b c d : D) : fldOf makF [a, b, c, d] "made" = some a := by simp [makF, fldOf]
theorem mk_row (a b c d : D) : fldOf makF [a, b, c, d] "row" = some b := by simp [makF, fldOf, mn1]
theorem mk_cells (a b c d : D) : fldOf makF [a, b, c, d] "cells" = some c := by simp [makF, fldOf, mn2, mn4]
theorem mk_cell (a b c d : D) : fldOf makF [a, b, c, d] "cell" = some d := by simp [makF, fldOf, mn3, mn5, mn6]
theorem eq_tup0 : eqD (.tup []) (.tup []) = some true := by decide +kernel
theorem eq_lst0 : eqD (.lst []) (.lst []) = some true := by decide +kernel
theorem rev_tup (xs : List D) : u1D .rev (.tup xs) = some (.tup xs.reverse) := id rfl
theorem rev_lst (xs : List D) : u1D .rev (.lst xs) = some (.lst xs.reverse) := id rfl
theorem clash_none {b r : List Nat} (h : b.length = r.length) (e : clashN b r = none) : ∀ k, k < b.length → g b k = 45 ∨ g r k = 45 ∨ g b k = g r k := by
  intro k hk
  unfold clashN at e
  have := List.find?_eq_none.mp e k (List.mem_range.mpr hk)
  simp only [badP, Bool.and_eq_true, Bool.not_eq_true', beq_eq_false_iff_ne, not_and, Decidable.not_not, ne_eq] at this
  by_cases h1 : g b k = 45
  · exact .inl h1
  · by_cases h2 : g r k = 45
    · exact .inr (.inl h2)
    · exact .inr (.inr (this h1 h2))
theorem not_mem_of_g {x : List Nat} {n : Nat} (hx : x.length = n) (h : ∀ k, k < n → g x k ≠ 45) : 45 ∉ x := by
  intro hm
  obtain ⟨k, hk, e⟩ := List.getElem_of_mem hm
  exact h k (by omega) (by rw [g_eq hk, e])
theorem leads_ok {ps : List Pr} {n : Nat} (hL : Lot n ps) {b l o r : List Nat} (h : Peel ps l o r) (hl : Lay n l) (hb : Lay n b) (ho : o.length ≤ ps.length) (hc : clashN b r = none) :
    F_L_leads [LL ps, .str b, .str l, .ins "Making" makF [.bl true, .tup (o.reverse.map fun i => D.str (nm ps i)), .tup [], .non]] = some (.bl true) := by
  have hn : ∀ p ∈ ps, p.2.length = n := fun p hp => (hL.lay p hp).len
  have n30 := hL.n30
  have hm := hL.many
  have hr := h.len hn hl.len
  have hlt := h.lt
  have hltr : ∀ i ∈ o.reverse, i < ps.length := fun i hi => hlt i (List.mem_reverse.mp hi)
  have hbr : b.length = r.length := by rw [hb.len, hr]
  have hpl := press_len b r hbr
  have a1 := L_peel_ok (by omega) hn (by omega) h hl.len ho
  have a2 := ground_ok b r hbr (by rw [hb.len]; omega)
  have gl := ground_len b r
  have cn := clash_none hbr hc
  have g45 : ∀ k, k < n → g (groundN b r) k ≠ 45 := fun k hk => by
    rw [g_ground (by rw [hb.len]; exact hk)]
    split
    · decide
    · assumption
  have gb : agreeN (groundN b r) b = true := (agree_iff _ _ gl).mpr fun k hk => by
    have hk' : k < b.length := by omega
    rw [g_ground hk', g_press hbr hk']
    rcases cn k hk' with c | c | c
    · exact .inr (.inl c)
    · rw [if_pos c]
      split
      · rename_i z; exact .inr (.inl z)
      · exact .inr (.inr rfl)
    · by_cases z : g r k = 45
      · rw [if_pos z]
        split
        · rename_i y; exact .inr (.inl y)
        · exact .inr (.inr rfl)
      · rw [if_neg z, if_neg z]
        exact .inr (.inr c.symm)
  have gr : agreeN (groundN b r) r = true := (agree_iff _ _ (by rw [gl, hbr])).mpr fun k hk => by
    have hk' : k < b.length := by omega
    rw [g_ground hk', g_press hbr hk']
    by_cases z : g r k = 45
    · exact .inr (.inl z)
    · rw [if_neg z, if_neg z]
      exact .inr (.inr rfl)
  obtain ⟨s', e1, e2, e3, e4⟩ := h.leads hn hl.len (by rw [gl, hb.len]) g45 gr
  have a3 := pressed_ok hL.dis hn (by omega) o.reverse (groundN b r) hltr (by rw [gl, hb.len])
  have e1' : (o.reverse.map (ly ps)).foldl pressN (groundN b r) = s' := e1
  rw [e1'] at a3
  have a4 := fits_ok (groundN b r) b (by rw [gl, hb.len]; omega) gl (not_mem_of_g (by rw [gl, hb.len]) g45)
  rw [gb] at a4
  have a5 := fits_ok s' l (by omega) (by rw [e2, hl.len]) (not_mem_of_g e2 e3)
  rw [e4] at a5
  have f56 : Z_L_leads.F 56 = F_L_layer_of := id rfl
  have f57 : Z_L_leads.F 57 = F_L_fits := id rfl
  have f61 : Z_L_leads.F 61 = F_L_peel := id rfl
  have f62 : Z_L_leads.F 62 = F_L_pressed := id rfl
  have f63 : Z_L_leads.F 63 = F_L_ground := id rfl
  have m1 : ((("Making" : Str), ("row" : Str)) ∈ Z_L_leads.L) := by simp [Z_L_leads]
  have m2 : ((("Making" : Str), ("cells" : Str)) ∈ Z_L_leads.L) := by simp [Z_L_leads]
  have m3 : ((("Making" : Str), ("cell" : Str)) ∈ Z_L_leads.L) := by simp [Z_L_leads]
  have lim : o.length ≤ 16777216 := by omega
  have c1 : ∀ B C E F G H I : Sl, lcL (.nm 6) (evE Z_L_leads (.cmp .is (.call 56 [.v 0, .v 6]) (.c .non))) (evE Z_L_leads (.v 6)) [.v (LL ps), B, C, E, F, G, H, I] (o.reverse.map fun i => D.str (nm ps i)) = some [] := by
    intro B C E F G H I
    rw [lcL_of (fun i : Nat => D.str (nm ps i)) (fun _ => false) (fun i => D.str (nm ps i))]
    · simp
    · intro i hi
      have := layer_at hL.dis (hltr i hi)
      refine ⟨_, rfl, ?_, by simp⟩
      simp [f56, this, is_str]
  have c2 : ∀ B C E F G H I : Sl, lcL (.nm 7) (evE Z_L_leads (.c (.bl true))) (evE Z_L_leads (.ix (.ix (.v 0) (.v 7)) (.c (.int 0)))) [.v (LL ps), B, C, E, F, G, H, I] ((o.map fun i => D.int ((i : Nat) : Int)).reverse) = some (o.reverse.map fun i => D.str (nm ps i)) := by
    intro B C E F G H I
    rw [← List.map_reverse, lcL_of (fun i : Nat => D.int ((i : Nat) : Int)) (fun _ => true) (fun i => D.str (nm ps i))]
    · rw [List.filter_eq_self.mpr (by simp)]
    · intro i hi
      have hlt' := hltr i hi
      have hat := LL_ix (show ps[i]? = some ps[i] by simp [hlt'])
      refine ⟨_, rfl, rfl, fun _ => ?_⟩
      simp [hat, nm, hlt']
  have eqn : eqD (.lst (o.reverse.map fun i => D.str (nm ps i))) (.lst (o.reverse.map fun i => D.str (nm ps i))) = some true := by
    have := eq_strs (l := o.reverse.map (nm ps)) (fun x hx => by
      obtain ⟨i, hi, rfl⟩ := List.mem_map.mp hx
      have hlt' := hltr i hi
      have : nm ps i = (ps[i]).1 := by simp [nm, hlt']
      rw [this]
      exact (hL.nam _ (List.getElem_mem hlt')).low)
    rw [List.map_map] at this
    exact this
  unfold F_L_leads evF ir_L_leads
  rw [if_pos (show [LL ps, D.str b, .str l, .ins "Making" makF [.bl true, .tup (o.reverse.map fun i => D.str (nm ps i)), .tup [], .non]].length = 4 from rfl)]
  generalize hrow : (o.reverse.map fun i => D.str (nm ps i)) = row at *
  have rl : row.length ≤ 16777216 := by rw [← hrow]; simp; omega
  have c2' : ∀ B C E F G H I : Sl, lcL (.nm 7) (evE Z_L_leads (.c (.bl true))) (evE Z_L_leads (.ix (.ix (.v 0) (.v 7)) (.c (.int 0)))) [.v (LL ps), B, C, E, F, G, H, I] ((o.map fun i => D.int ((i : Nat) : Int)).reverse) = some row := c2
  simp only [startD, List.map_cons, List.map_nil, List.length_cons, List.length_nil, List.cons_append, List.nil_append]
  rw [evSs_consR]
  generalize hR : Pv.rest _ _ = R
  simp [mk_row, mk_cells, m1, m2, isi1, isIns, eq_tup0]
  subst hR
  rw [rest_nx, evSs_consR]
  generalize hR : Pv.rest _ _ = R
  simp [mk_row, mk_cell, m1, m3, isnot_non, rl, wipeD, c1, eq_lst0]
  subst hR
  rw [rest_nx, evSs_consR]
  generalize hR : Pv.rest _ _ = R
  simp [f61, a1]
  subst hR
  rw [rest_nx, evSs_consR]
  generalize hR : Pv.rest _ _ = R
  simp [f63, a2]
  subst hR
  rw [rest_nx, evSs_consR]
  generalize hR : Pv.rest _ _ = R
  simp [f57, a4, mk_row, m1, rev_lst, lim, wipeD]
  rw [c2']
  simp [eqn]
  subst hR
  rw [rest_nx]
  simp [f62, f57, mk_row, m1, a3, a5]
end K10

set_option Elab.async false
set_option linter.all false
set_option maxRecDepth 100000
set_option maxHeartbeats 4000000
namespace K10
open PySem L2 Pv

/-! ### values: fast cells, refusals -/
theorem forL_fA {α : Type} {t : T} {f : List Sl → Option Out} (mk : α → D) (p : α → Bool) (r : D) (I : List Sl → Prop) : ∀ {as : List α} {σ : List Sl}, I σ →
    (∀ a ∈ as, ∀ σ, I σ → ∃ σ1 σ2, setT t (mk a) σ = some σ1 ∧ f σ1 = (if p a = true then some (.rt r) else some (.nx σ2)) ∧ I σ2) →
    (as.any p = true ∧ forL t f (as.map mk) σ = some (.rt r)) ∨ (as.any p = false ∧ ∃ σ', forL t f (as.map mk) σ = some (.nx σ') ∧ I σ')
  | [], σ, h, _ => .inr ⟨rfl, σ, rfl, h⟩
  | a :: as, σ, h, hs => by
    obtain ⟨σ1, σ2, h1, h2, h3⟩ := hs a List.mem_cons_self σ h
    rw [List.map_cons, forL_cons, h1, bind_someX, h2, List.any_cons]
    cases e : p a
    · simp only [Bool.false_eq_true, if_false, bind_someX, turnO_nx, Bool.false_or]
      exact forL_fA mk p r I h3 fun b hb => hs b (List.mem_cons_of_mem _ hb)
    · exact .inl ⟨by simp, by simp⟩
abbrev NI (S : List Nat) : List D := S.map fun k => D.int ((k : Nat) : Int)
theorem covers_ok (s : List Nat) (hs : s.length ≤ 1000) (S : List Nat) (hS : ∀ k ∈ S, k < s.length) : F_covers_some [.str s, .tup (NI S)] = some (.bl (S.any fun k => !(g s k == 45))) := by
  have hl : s.length ≤ 16777216 := by omega
  have key := forL_fA (t := .nm 2) (f := evSs Z_covers_some [.ifs (.cmp .ne (.ix (.v 0) (.v 2)) (.c (.str [45]))) [.ret (.c (.bl true))] []]) (fun k : Nat => D.int ((k : Nat) : Int)) (fun k => !(g s k == 45)) (.bl true)
    (fun σ => ∃ z, σ = [.v (.str s), .v (.tup (NI S)), z]) (as := S) (σ := [.v (.str s), .v (.tup (NI S)), .no]) ⟨_, rfl⟩ (by
      rintro k hk σ ⟨z, rfl⟩
      have hk' := hS k hk
      refine ⟨_, [.v (.str s), .v (.tup (NI S)), .v (.int ((k : Nat) : Int))], rfl, ?_, ⟨_, rfl⟩⟩
      rw [g_eq hk']
      by_cases h1 : s[k] = 45
      · simp [atI_k hk', hl, h1]
      · simp [atI_k hk', hl, h1])
  unfold F_covers_some evF ir_covers_some
  rw [if_pos (show [D.str s, .tup (NI S)].length = 2 from rfl)]
  simp [startD]
  rcases key with ⟨h1, h2⟩ | ⟨h1, σ', h2, z, rfl⟩
  · rw [h2, h1]; simp
  · rw [h2, h1]; simp
theorem contra_ok (s l : List Nat) (hsl : s.length = l.length) (hs : s.length ≤ 1000) (S : List Nat) (hS : ∀ k ∈ S, k < s.length) : F_contradicts [.str s, .str l, .tup (NI S)] = some (.bl (S.any fun k => !(g s k == 45) && !(g s k == g l k))) := by
  have hl : s.length ≤ 16777216 := by omega
  have hl2 : l.length ≤ 16777216 := by omega
  have key := forL_fA (t := .nm 3) (f := evSs Z_contradicts [.ifs (.and (.cmp .ne (.ix (.v 0) (.v 3)) (.c (.str [45]))) (.last (.cmp .ne (.ix (.v 0) (.v 3)) (.ix (.v 1) (.v 3))))) [.ret (.c (.bl true))] []]) (fun k : Nat => D.int ((k : Nat) : Int)) (fun k => !(g s k == 45) && !(g s k == g l k)) (.bl true)
    (fun σ => ∃ z, σ = [.v (.str s), .v (.str l), .v (.tup (NI S)), z]) (as := S) (σ := [.v (.str s), .v (.str l), .v (.tup (NI S)), .no]) ⟨_, rfl⟩ (by
      rintro k hk σ ⟨z, rfl⟩
      have hk' := hS k hk
      have hk2 : k < l.length := by omega
      refine ⟨_, [.v (.str s), .v (.str l), .v (.tup (NI S)), .v (.int ((k : Nat) : Int))], rfl, ?_, ⟨_, rfl⟩⟩
      rw [g_eq hk', g_eq hk2]
      by_cases h1 : s[k] = 45
      · simp [atI_k hk', hl, h1]
      · by_cases h2 : s[k] = l[k]
        · simp [atI_k hk', atI_k hk2, hl, hl2, h1, h2]
        · simp [atI_k hk', atI_k hk2, hl, hl2, h1, h2])
  unfold F_contradicts evF ir_contradicts
  rw [if_pos (show [D.str s, .str l, .tup (NI S)].length = 3 from rfl)]
  simp [startD]
  rcases key with ⟨h1, h2⟩ | ⟨h1, σ', h2, z, rfl⟩
  · rw [h2, h1]; simp
  · rw [h2, h1]; simp
theorem fastB_congr {ps : List Pr} {l S S' : List Nat} (h : ∀ k, k ∈ S ↔ k ∈ S') : fastB ps l S = fastB ps l S' := by
  rw [Bool.eq_iff_iff, fastB_iff, fastB_iff]
  simp only [h]
/-- the cells, in order -/
theorem cell_set_ok (S : List Nat) (h : S.length < 60) (tp : Bool) : ∃ S', F_cell_set [if tp then .tup (NI S) else .lst (NI S)] = some (.tup (NI S')) ∧ (∀ k, k ∈ S' ↔ k ∈ S) := by
  have ai : allInts (NI S) = some (S.map fun k => ((k : Nat) : Int)) := by
    have := allInts_map (S.map fun k => ((k : Nat) : Int))
    rwa [List.map_map] at this
  refine ⟨(ssetI (S.map fun k => ((k : Nat) : Int))).map Int.toNat, ?_, fun k => ?_⟩
  · have e : NI ((ssetI (S.map fun k => ((k : Nat) : Int))).map Int.toNat) = (ssetI (S.map fun k => ((k : Nat) : Int))).map .int := by
      unfold NI
      rw [List.map_map]
      apply List.map_congr_left
      intro j hj
      rw [ssetI_mem] at hj
      obtain ⟨k, _, rfl⟩ := List.mem_map.mp hj
      simp
    have u1 : ∀ b : Bool, u1D .sset (if b then .tup (NI S) else .lst (NI S)) = some (.lst ((ssetI (S.map fun k => ((k : Nat) : Int))).map .int)) := by
      intro b
      cases b
      · show (allInts (NI S)).bind _ = _
        rw [ai]
        show (if (S.map fun k => ((k : Nat) : Int)).length < 60 then _ else _) = _
        rw [if_pos (by simpa using h)]
      · show (allInts (NI S)).bind _ = _
        rw [ai]
        show (if (S.map fun k => ((k : Nat) : Int)).length < 60 then _ else _) = _
        rw [if_pos (by simpa using h)]
    unfold F_cell_set evF ir_cell_set
    rw [if_pos (show [if tp = true then D.tup (NI S) else D.lst (NI S)].length = 1 from rfl), e]
    simp only [startD, List.map_cons, List.map_nil]
    simp [u1 tp]
  · rw [List.mem_map]
    constructor
    · rintro ⟨j, hj, e⟩
      rw [ssetI_mem] at hj
      obtain ⟨m, hm, rfl⟩ := List.mem_map.mp hj
      simp at e
      subst e
      exact hm
    · intro hk
      exact ⟨(k : Int), (ssetI_mem _ _).mpr (List.mem_map.mpr ⟨k, hk, rfl⟩), by simp⟩
theorem fast_for_ok {ps : List Pr} {n : Nat} (hn : ∀ p ∈ ps, p.2.length = n) (hn1 : n ≤ 1000) (l : List Nat) (hl : l.length = n) (S : List Nat) (hS : ∀ k ∈ S, k < n) (h60 : S.length < 60) (tp : Bool) :
    F_fast_for [.tup (ps.map fun p => D.str p.2), .str l, if tp then .tup (NI S) else .lst (NI S)] = some (.bl (fastB ps l S)) := by
  obtain ⟨S', c1, c2⟩ := cell_set_ok S h60 tp
  have hS' : ∀ k ∈ S', k < n := fun k hk => hS k ((c2 k).mp hk)
  rw [← fastB_congr c2]
  generalize (if tp = true then D.tup (NI S) else D.lst (NI S)) = ch at *
  have hl1 : l.length ≤ 16777216 := by omega
  have f7 : Z_fast_for.F 7 = F_cell_set := id rfl
  have f14 : Z_fast_for.F 14 = F_covers_some := id rfl
  have f15 : Z_fast_for.F 15 = F_contradicts := id rfl
  have k1 := forL_fA (t := .nm 4) (f := evSs Z_fast_for [.ifs (.cmp .eq (.ix (.v 1) (.v 4)) (.c (.str [45]))) [.ret (.c (.bl false))] []]) (fun k : Nat => D.int ((k : Nat) : Int)) (fun k => g l k == 45) (.bl false)
    (fun σ => ∃ z, σ = [.v (.tup (ps.map fun p => D.str p.2)), .v (.str l), .v ch, .v (.tup (NI S')), z, .no]) (as := S') (σ := [.v (.tup (ps.map fun p => D.str p.2)), .v (.str l), .v ch, .v (.tup (NI S')), .no, .no]) ⟨_, rfl⟩ (by
      rintro k hk σ ⟨z, rfl⟩
      have hk' : k < l.length := by rw [hl]; exact hS' k hk
      refine ⟨_, [.v (.tup (ps.map fun p => D.str p.2)), .v (.str l), .v ch, .v (.tup (NI S')), .v (.int ((k : Nat) : Int)), .no], rfl, ?_, ⟨_, rfl⟩⟩
      rw [g_eq hk']
      by_cases h1 : l[k] = 45
      · simp [atI_k hk', hl1, h1]
      · simp [atI_k hk', hl1, h1])
  have k2 : ∀ z : Sl, _ := fun z => forL_fA (t := .nm 5) (f := evSs Z_fast_for [.ifs (.and (.call 14 [.v 5, .v 3]) (.last (.not (.call 15 [.v 5, .v 1, .v 3])))) [.ret (.c (.bl false))] []]) (fun p : Pr => D.str p.2) (fun p => (S'.any fun k => !(g p.2 k == 45)) && !S'.any fun k => !(g p.2 k == 45) && !(g p.2 k == g l k)) (.bl false)
    (fun σ => ∃ u, σ = [.v (.tup (ps.map fun p => D.str p.2)), .v (.str l), .v ch, .v (.tup (NI S')), z, u]) (as := ps) (σ := [.v (.tup (ps.map fun p => D.str p.2)), .v (.str l), .v ch, .v (.tup (NI S')), z, .no]) ⟨_, rfl⟩ (by
      rintro p hp σ ⟨u, rfl⟩
      have a1 := covers_ok p.2 (by rw [hn p hp]; exact hn1) S' (fun k hk => by rw [hn p hp]; exact hS' k hk)
      have a2 := contra_ok p.2 l (by rw [hn p hp, hl]) (by rw [hn p hp]; exact hn1) S' (fun k hk => by rw [hn p hp]; exact hS' k hk)
      refine ⟨_, [.v (.tup (ps.map fun p => D.str p.2)), .v (.str l), .v ch, .v (.tup (NI S')), z, .v (.str p.2)], rfl, ?_, ⟨_, rfl⟩⟩
      cases h1 : (S'.any fun k => !(g p.2 k == 45))
      · rw [h1] at a1
        simp [f14, f15, a1]
      · rw [h1] at a1
        cases h2 : (S'.any fun k => !(g p.2 k == 45) && !(g p.2 k == g l k))
        · rw [h2] at a2
          simp [f14, f15, a1, a2]
        · rw [h2] at a2
          simp [f14, f15, a1, a2])
  unfold F_fast_for evF ir_fast_for
  rw [if_pos (show [D.tup (ps.map fun p => D.str p.2), .str l, ch].length = 3 from rfl)]
  simp only [startD, List.map_cons, List.map_nil]
  simp [f7, c1]
  unfold fastB
  rcases k1 with ⟨h1, h2⟩ | ⟨h1, σ', h2, z, rfl⟩
  · rw [h2, h1]; simp
  · rw [h2, h1]
    simp
    rcases k2 z with ⟨h3, h4⟩ | ⟨h3, σ', h4, u, rfl⟩
    · rw [h4, h3]; simp
    · rw [h4, h3]; simp
/-- cells that refuse -/
def barsB (ps : List Pr) (b l S : List Nat) : Bool := fastB ps l S && S.any fun k => !(g b k == 45) && !(g b k == g l k)
theorem is_fast_ok {ps : List Pr} {n : Nat} (hn : ∀ p ∈ ps, p.2.length = n) (hn1 : n ≤ 1000) (l : List Nat) (hl : l.length = n) (S : List Nat) (hS : ∀ k ∈ S, k < n) (h60 : S.length < 60) (tp : Bool) :
    F_is_fast [stk n ps, .str l, if tp then .tup (NI S) else .lst (NI S)] = some (.bl (fastB ps l S)) := by
  have a1 := fast_for_ok hn hn1 l hl S hS h60 tp
  have f16 : Z_is_fast.F 16 = F_fast_for := id rfl
  have m1 : ((("Stock" : Str), ("layers" : Str)) ∈ Z_is_fast.L) := by simp [Z_is_fast]
  unfold F_is_fast evF ir_is_fast
  rw [if_pos (show [stk n ps, .str l, if tp = true then D.tup (NI S) else D.lst (NI S)].length = 3 from rfl)]
  simp only [startD, List.map_cons, List.map_nil]
  generalize (if tp = true then D.tup (NI S) else D.lst (NI S)) = ch at *
  simp [fld_layers, m1, f16, a1]
theorem refusal_ok {ps : List Pr} {n : Nat} (hn : ∀ p ∈ ps, p.2.length = n) (hn1 : n ≤ 1000) (b l : List Nat) (hb : b.length = n) (hl : l.length = n) (S : List Nat) (hS : ∀ k ∈ S, k < n) (h60 : S.length < 60) (tp : Bool) :
    F_is_refusal [stk n ps, .str b, .str l, if tp then .tup (NI S) else .lst (NI S)] = some (.bl (barsB ps b l S)) := by
  have a1 := is_fast_ok hn hn1 l hl S hS h60 tp
  have hl1 : l.length ≤ 16777216 := by omega
  have hb1 : b.length ≤ 16777216 := by omega
  have sq : seqD (if tp then .tup (NI S) else .lst (NI S)) = some (NI S) := by cases tp <;> rfl
  have f17 : Z_is_refusal.F 17 = F_is_fast := id rfl
  generalize (if tp = true then D.tup (NI S) else D.lst (NI S)) = ch at *
  have k1 := forL_fA (t := .nm 4) (f := evSs Z_is_refusal [.ifs (.and (.cmp .ne (.ix (.v 1) (.v 4)) (.c (.str [45]))) (.last (.cmp .ne (.ix (.v 1) (.v 4)) (.ix (.v 2) (.v 4))))) [.ret (.c (.bl true))] []]) (fun k : Nat => D.int ((k : Nat) : Int)) (fun k => !(g b k == 45) && !(g b k == g l k)) (.bl true)
    (fun σ => ∃ z, σ = [.v (stk n ps), .v (.str b), .v (.str l), .v ch, z]) (as := S) (σ := [.v (stk n ps), .v (.str b), .v (.str l), .v ch, .no]) ⟨_, rfl⟩ (by
      rintro k hk σ ⟨z, rfl⟩
      have hk' : k < b.length := by rw [hb]; exact hS k hk
      have hk2 : k < l.length := by rw [hl]; exact hS k hk
      refine ⟨_, [.v (stk n ps), .v (.str b), .v (.str l), .v ch, .v (.int ((k : Nat) : Int))], rfl, ?_, ⟨_, rfl⟩⟩
      rw [g_eq hk', g_eq hk2]
      by_cases h1 : b[k] = 45
      · simp [atI_k hk', hb1, h1]
      · by_cases h2 : b[k] = l[k]
        · simp [atI_k hk', atI_k hk2, hb1, hl1, h1, h2]
        · simp [atI_k hk', atI_k hk2, hb1, hl1, h1, h2])
  unfold F_is_refusal evF ir_is_refusal barsB
  rw [if_pos (show [stk n ps, .str b, .str l, ch].length = 4 from rfl)]
  simp only [startD, List.map_cons, List.map_nil]
  cases h0 : fastB ps l S
  · rw [h0] at a1
    simp [f17, a1]
  · rw [h0] at a1
    simp [f17, a1, sq]
    rcases k1 with ⟨h1, h2⟩ | ⟨h1, σ', h2, z, rfl⟩
    · rw [h2, h1]; simp
    · rw [h2, h1]; simp
end K10

set_option Elab.async false
set_option linter.all false
set_option maxRecDepth 100000
set_option maxHeartbeats 4000000
namespace K10
open PySem L2 Pv

/-! ### values: the law's words for fast cells, bars, refusals -/
theorem eq_ints (S : List Nat) : eqD (.lst (NI S)) (.lst (NI S)) = some true :=
  eqD_self (shp_of (n := 1) (by
    simp only [D.layB]
    apply layL_all
    intro d hd
    obtain ⟨k, _, rfl⟩ := List.mem_map.mp hd
    rfl) (by decide))
theorem gt_any {α : Type} (p : α → Bool) (S : List α) : decide (0 < (((S.filter p).length : Nat) : Int)) = S.any p := by
  rw [Bool.eq_iff_iff, decide_eq_true_eq, List.any_eq_true]
  constructor
  · intro h
    have : 0 < (S.filter p).length := by omega
    obtain ⟨a, ha⟩ := List.exists_mem_of_length_pos this
    exact ⟨a, (List.mem_filter.mp ha).1, (List.mem_filter.mp ha).2⟩
  · rintro ⟨a, h1, h2⟩
    have := List.length_pos_of_mem (List.mem_filter.mpr ⟨h1, h2⟩)
    omega
theorem eq_any {α : Type} (p : α → Bool) (S : List α) : decide ((((S.filter p).length : Nat) : Int) = 0) = !S.any p := by
  rw [← gt_any]
  by_cases h : (((S.filter p).length : Nat) : Int) = 0
  · rw [decide_eq_true h, decide_eq_false (by omega)]; rfl
  · rw [decide_eq_false h, decide_eq_true (by omega)]; rfl
theorem L_fast_ok {ps : List Pr} {n : Nat} (hn : ∀ p ∈ ps, p.2.length = n) (hn1 : n ≤ 1000) (l : List Nat) (hl : l.length = n) (S : List Nat) (hS : ∀ k ∈ S, k < n) (h60 : S.length ≤ 1000) :
    F_L_fast [LL ps, .str l, .lst (NI S)] = some (.bl (fastB ps l S)) := by
  have hl1 : l.length ≤ 16777216 := by omega
  have k1 := forL_fA (t := .nm 3) (f := evSs Z_L_fast [.ifs (.cmp .eq (.ix (.v 1) (.v 3)) (.c (.str [45]))) [.ret (.c (.bl false))] []]) (fun k : Nat => D.int ((k : Nat) : Int)) (fun k => g l k == 45) (.bl false)
    (fun σ => ∃ z, σ = [.v (LL ps), .v (.str l), .v (.lst (NI S)), z, .no, .no, .no]) (as := S) (σ := [.v (LL ps), .v (.str l), .v (.lst (NI S)), .no, .no, .no, .no]) ⟨_, rfl⟩ (by
      rintro k hk σ ⟨z, rfl⟩
      have hk' : k < l.length := by rw [hl]; exact hS k hk
      refine ⟨_, [.v (LL ps), .v (.str l), .v (.lst (NI S)), .v (.int ((k : Nat) : Int)), .no, .no, .no], rfl, ?_, ⟨_, rfl⟩⟩
      rw [g_eq hk']
      by_cases h1 : l[k] = 45
      · simp [atI_k hk', hl1, h1]
      · simp [atI_k hk', hl1, h1])
  have k2 : ∀ z : Sl, _ := fun z => forL_fA (t := .nm 4) (f := evSs Z_L_fast [.asg (.nm 5) (.lc [("_law_cell_here", 3)] (.nm 3) (.seq (.v 2)) (.cmp .ne (.ix (.ix (.v 4) (.c (.int 1))) (.v 3)) (.c (.str [45]))) (.v 3)), .asg (.nm 6) (.lc [("_law_cell_here", 3)] (.nm 3) (.seq (.v 5)) (.cmp .ne (.ix (.ix (.v 4) (.c (.int 1))) (.v 3)) (.ix (.v 1) (.v 3))) (.v 3)), .ifs (.and (.cmp .gt (.blt .len [.v 5]) (.c (.int 0))) (.last (.cmp .eq (.blt .len [.v 6]) (.c (.int 0))))) [.ret (.c (.bl false))] []])
    (fun p : Pr => D.lst [.str p.1, .str p.2]) (fun p => (S.any fun k => !(g p.2 k == 45)) && !S.any fun k => !(g p.2 k == 45) && !(g p.2 k == g l k)) (.bl false)
    (fun σ => ∃ u x y, σ = [.v (LL ps), .v (.str l), .v (.lst (NI S)), z, u, x, y]) (as := ps) (σ := [.v (LL ps), .v (.str l), .v (.lst (NI S)), z, .no, .no, .no]) ⟨_, _, _, rfl⟩ (by
      rintro p hp σ ⟨u, x, y, rfl⟩
      have hpn := hn p hp
      have hp1 : p.2.length ≤ 16777216 := by omega
      have lim : S.length ≤ 16777216 := by omega
      have c1 : ∀ A B : Sl, lcL (.nm 3) (evE Z_L_fast (.cmp .ne (.ix (.ix (.v 4) (.c (.int 1))) (.v 3)) (.c (.str [45])))) (evE Z_L_fast (.v 3)) [.v (LL ps), .v (.str l), .v (.lst (NI S)), .no, .v (.lst [.str p.1, .str p.2]), A, B] (NI S) = some (NI (S.filter fun k => !(g p.2 k == 45))) := by
        intro A B
        rw [lcL_of (fun k : Nat => D.int ((k : Nat) : Int)) (fun k => !(g p.2 k == 45)) (fun k => D.int ((k : Nat) : Int))]
        intro k hk
        have hk' : k < p.2.length := by rw [hpn]; exact hS k hk
        refine ⟨_, rfl, ?_, fun _ => by simp⟩
        rw [g_eq hk']
        by_cases h1 : p.2[k] = 45
        · simp [atI_k hk', hp1, h1]
        · simp [atI_k hk', hp1, h1]
      have c2 : ∀ B : Sl, lcL (.nm 3) (evE Z_L_fast (.cmp .ne (.ix (.ix (.v 4) (.c (.int 1))) (.v 3)) (.ix (.v 1) (.v 3)))) (evE Z_L_fast (.v 3)) [.v (LL ps), .v (.str l), .v (.lst (NI S)), .no, .v (.lst [.str p.1, .str p.2]), .v (.lst (NI (S.filter fun k => !(g p.2 k == 45)))), B] (NI (S.filter fun k => !(g p.2 k == 45))) =
          some (NI (S.filter fun k => !(g p.2 k == 45) && !(g p.2 k == g l k))) := by
        intro B
        rw [lcL_of (fun k : Nat => D.int ((k : Nat) : Int)) (fun k => !(g p.2 k == g l k)) (fun k => D.int ((k : Nat) : Int))]
        · rw [List.filter_filter]
          congr 3
          funext k
          rw [Bool.and_comm]
        · intro k hk
          have hk0 := hS k (List.mem_filter.mp hk).1
          have hk' : k < p.2.length := by rw [hpn]; exact hk0
          have hk2 : k < l.length := by rw [hl]; exact hk0
          refine ⟨_, rfl, ?_, fun _ => by simp⟩
          rw [g_eq hk', g_eq hk2]
          by_cases h1 : p.2[k] = l[k]
          · simp [atI_k hk', atI_k hk2, hp1, hl1, h1]
          · simp [atI_k hk', atI_k hk2, hp1, hl1, h1]
      have l1 : (S.filter fun k => !(g p.2 k == 45)).length ≤ 16777216 := Nat.le_trans (List.length_filter_le _ _) lim
      refine ⟨_, [.v (LL ps), .v (.str l), .v (.lst (NI S)), z, .v (.lst [.str p.1, .str p.2]), .v (.lst (NI (S.filter fun k => !(g p.2 k == 45)))), .v (.lst (NI (S.filter fun k => !(g p.2 k == 45) && !(g p.2 k == g l k))))], rfl, ?_, ⟨_, _, _, rfl⟩⟩
      generalize hq : (if ((S.any fun k => !(g p.2 k == 45)) && !S.any fun k => !(g p.2 k == 45) && !(g p.2 k == g l k)) = true then some (Out.rt (.bl false)) else some (Out.nx [.v (LL ps), .v (.str l), .v (.lst (NI S)), z, .v (.lst [.str p.1, .str p.2]), .v (.lst (NI (S.filter fun k => !(g p.2 k == 45)))), .v (.lst (NI (S.filter fun k => !(g p.2 k == 45) && !(g p.2 k == g l k))))])) = qq
      rw [evSs_consR]
      generalize hR : Pv.rest _ _ = R
      simp [lim, wipeD]
      rw [c1]
      subst hR
      simp only [map_someX, bind_someX]
      rw [rest_nx, evSs_consR]
      generalize hR : Pv.rest _ _ = R
      simp [l1, wipeD]
      rw [c2]
      subst hR
      simp only [map_someX, bind_someX]
      rw [rest_nx]
      subst hq
      have e1 := gt_any (fun k => !(g p.2 k == 45)) S
      have e2 := eq_any (fun k => !(g p.2 k == 45) && !(g p.2 k == g l k)) S
      generalize hC : (S.filter fun k => !(g p.2 k == 45)) = C at *
      generalize hW : (S.filter fun k => !(g p.2 k == 45) && !(g p.2 k == g l k)) = W at *
      cases h1 : (S.any fun k => !(g p.2 k == 45))
      · rw [h1] at e1
        have z1 : C = [] := List.eq_nil_of_length_eq_zero (by have := of_decide_eq_false e1; omega)
        subst z1
        simp
      · rw [h1] at e1
        have z1 : 0 < C.length := by have := of_decide_eq_true e1; omega
        have z3 : C ≠ [] := by rintro rfl; simp at z1
        cases h2 : (S.any fun k => !(g p.2 k == 45) && !(g p.2 k == g l k))
        · rw [h2] at e2
          have z2 : W = [] := List.eq_nil_of_length_eq_zero (by have := of_decide_eq_true e2; omega)
          subst z2
          simp [z1, z3]
        · rw [h2] at e2
          have z2 : W ≠ [] := by rintro rfl; simp at e2
          simp [z1, z2, z3])
  unfold F_L_fast evF ir_L_fast
  rw [if_pos (show [LL ps, D.str l, .lst (NI S)].length = 3 from rfl)]
  have sq : seqD (LL ps) = some (ps.map fun p => D.lst [.str p.1, .str p.2]) := by simp [LL]
  simp [startD]
  unfold fastB
  rcases k1 with ⟨h1, h2⟩ | ⟨h1, σ', h2, z, rfl⟩
  · rw [h2, h1]; simp
  · rw [h2, h1]
    simp [sq]
    rcases k2 z with ⟨h3, h4⟩ | ⟨h3, σ', h4, u, x, y, rfl⟩
    · rw [h4, h3]; simp
    · rw [h4, h3]; simp
theorem L_bars_ok {ps : List Pr} {n : Nat} (hn : ∀ p ∈ ps, p.2.length = n) (hn1 : n ≤ 1000) (b l : List Nat) (hb : b.length = n) (hl : l.length = n) (S : List Nat) (hS : ∀ k ∈ S, k < n) (h60 : S.length ≤ 1000) :
    F_L_bars [LL ps, .str b, .str l, .lst (NI S)] = some (.bl (barsB ps b l S)) := by
  have a1 := L_fast_ok hn hn1 l hl S hS h60
  have hl1 : l.length ≤ 16777216 := by omega
  have hb1 : b.length ≤ 16777216 := by omega
  have lim : S.length ≤ 16777216 := by omega
  have f58 : Z_L_bars.F 58 = F_L_fast := id rfl
  have c1 : ∀ A : Sl, lcL (.nm 5) (evE Z_L_bars (.and (.cmp .ne (.ix (.v 1) (.v 5)) (.c (.str [45]))) (.last (.cmp .ne (.ix (.v 1) (.v 5)) (.ix (.v 2) (.v 5)))))) (evE Z_L_bars (.v 5)) [.v (LL ps), .v (.str b), .v (.str l), .v (.lst (NI S)), A, .no] (NI S) = some (NI (S.filter fun k => !(g b k == 45) && !(g b k == g l k))) := by
    intro A
    rw [lcL_of (fun k : Nat => D.int ((k : Nat) : Int)) (fun k => !(g b k == 45) && !(g b k == g l k)) (fun k => D.int ((k : Nat) : Int))]
    intro k hk
    have hk' : k < b.length := by rw [hb]; exact hS k hk
    have hk2 : k < l.length := by rw [hl]; exact hS k hk
    refine ⟨_, rfl, ?_, fun _ => by simp⟩
    rw [g_eq hk', g_eq hk2]
    by_cases h1 : b[k] = 45
    · simp [atI_k hk', hb1, h1]
    · by_cases h2 : b[k] = l[k]
      · simp [atI_k hk', atI_k hk2, hb1, hl1, h1, h2]
      · simp [atI_k hk', atI_k hk2, hb1, hl1, h1, h2]
  have e1 := gt_any (fun k => !(g b k == 45) && !(g b k == g l k)) S
  unfold F_L_bars evF ir_L_bars barsB
  rw [if_pos (show [LL ps, D.str b, .str l, .lst (NI S)].length = 4 from rfl)]
  simp only [startD, List.map_cons, List.map_nil, List.length_cons, List.length_nil, List.cons_append, List.nil_append]
  generalize hq : some (D.bl (fastB ps l S && S.any fun k => !(g b k == 45) && !(g b k == g l k))) = qq
  rw [evSs_consR]
  generalize hR : Pv.rest _ _ = R
  simp [lim, wipeD]
  rw [c1]
  subst hR
  simp only [map_someX, bind_someX]
  rw [rest_nx]
  subst hq
  generalize hC : (S.filter fun k => !(g b k == 45) && !(g b k == g l k)) = C at *
  cases h1 : (S.any fun k => !(g b k == 45) && !(g b k == g l k))
  · rw [h1] at e1
    have z1 : C = [] := List.eq_nil_of_length_eq_zero (by have := of_decide_eq_false e1; omega)
    subst z1
    simp
  · rw [h1] at e1
    have z1 : 0 < C.length := by have := of_decide_eq_true e1; omega
    have z3 : C ≠ [] := by rintro rfl; simp at z1
    simp [z1, z3, f58, a1]
theorem whole_ok (k : Int) : F_L_whole [.int k] = some (.bl true) := by
  simp [F_L_whole, evF, ir_L_whole, startD, isi1, isIns]
theorem head_filter {α : Type} (p : α → Bool) : ∀ (l : List α) (a : α), l.find? p = some a → ∃ t, l.filter p = a :: t
  | [], _, h => by simp at h
  | b :: l, a, h => by
    rw [List.find?_cons] at h
    cases e : p b
    · rw [e] at h
      rw [List.filter_cons_of_neg (by simp [e])]
      exact head_filter p l a h
    · rw [e] at h
      cases h
      exact ⟨_, List.filter_cons_of_pos e⟩
theorem cellsN_mem {r : List Nat} {k : Nat} : k ∈ cellsN r ↔ k < r.length ∧ g r k ≠ 45 := by
  unfold cellsN
  rw [List.mem_filter, List.mem_range]
  simp [g]
theorem barred_ok {ps : List Pr} {n : Nat} (hL : Lot n ps) {b l o r : List Nat} (h : Peel ps l o r) (hl : Lay n l) (hb : Lay n b) (ho : o.length ≤ ps.length) {c : Nat} (hc : clashN b r = some c) :
    F_L_barred [LL ps, .str b, .str l, .ins "Making" makF [.bl false, .non, .tup (NI (cellsN r)), .int ((c : Nat) : Int)]] = some (.bl true) := by
  have hn : ∀ p ∈ ps, p.2.length = n := fun p hp => (hL.lay p hp).len
  have n30 := hL.n30
  have hm := hL.many
  have hr := h.len hn hl.len
  have hbl := hb.len
  have hll := hl.len
  have a1 := L_peel_ok (by omega) hn (by omega) h hl.len ho
  have fst := h.stuck hn hl.len (S := cellsN r) (fun k => by rw [cellsN_mem, hr])
  have cl : (cellsN r).length ≤ 30 := by
    have := List.length_filter_le (fun k => !(r[k]?.getD 0 == 45)) (List.range r.length)
    rw [List.length_range] at this
    unfold cellsN
    omega
  have a2 := L_fast_ok hn (by omega) l hl.len (cellsN r) (fun k hk => by rw [← hr]; exact (cellsN_mem.mp hk).1) (by omega)
  rw [fst] at a2
  obtain ⟨t, ht⟩ := head_filter _ _ _ hc
  have wr : (cellsN r).filter (fun k => !(g b k == 45) && !(g b k == g r k)) = c :: t := by
    unfold cellsN
    rw [List.filter_filter, ← ht, hr, hbl]
    apply List.filter_congr
    intro k hk
    simp only [badP, g]
    cases b[k]?.getD 0 == 45 <;> cases r[k]?.getD 0 == 45 <;> simp
  have hl1 : l.length ≤ 16777216 := by omega
  have hb1 : b.length ≤ 16777216 := by omega
  have hr1 : r.length ≤ 16777216 := by omega
  have okr : okR (l.length : Int) = true := by unfold okR; simp; omega
  have lim : (cellsN r).length ≤ 16777216 := by omega
  have f41 : Z_L_barred.F 41 = F_L_whole := id rfl
  have f58 : Z_L_barred.F 58 = F_L_fast := id rfl
  have f61 : Z_L_barred.F 61 = F_L_peel := id rfl
  have m1 : ((("Making" : Str), ("row" : Str)) ∈ Z_L_barred.L) := by simp [Z_L_barred]
  have m2 : ((("Making" : Str), ("cells" : Str)) ∈ Z_L_barred.L) := by simp [Z_L_barred]
  have m3 : ((("Making" : Str), ("cell" : Str)) ∈ Z_L_barred.L) := by simp [Z_L_barred]
  have c1 : ∀ A B C : Sl, lcL (.nm 7) (evE Z_L_barred (.cmp .ne (.ix (.v 4) (.v 7)) (.c (.str [45])))) (evE Z_L_barred (.v 7)) [.v (LL ps), .v (.str b), .v (.str l), A, .v (.str r), B, C, .no] (rngD 0 l.length) = some (NI (cellsN r)) := by
    intro A B C
    rw [lcL_rngF (p := fun k => !(r[k]?.getD 0 == 45)) (g := fun k => D.int (k : Nat))]
    · unfold cellsN; rw [hll, hr]
    · intro k hk
      have hk' : k < r.length := by omega
      simp [atI_k hk', hr1, hk']
      rfl
  have c2 : ∀ A C : Sl, lcL (.nm 7) (evE Z_L_barred (.and (.cmp .ne (.ix (.v 1) (.v 7)) (.c (.str [45]))) (.last (.cmp .ne (.ix (.v 1) (.v 7)) (.ix (.v 4) (.v 7)))))) (evE Z_L_barred (.v 7)) [.v (LL ps), .v (.str b), .v (.str l), A, .v (.str r), .v (.lst (NI (cellsN r))), C, .no] (NI (cellsN r)) = some (NI (c :: t)) := by
    intro A C
    rw [lcL_of (fun k : Nat => D.int ((k : Nat) : Int)) (fun k => !(g b k == 45) && !(g b k == g r k)) (fun k => D.int ((k : Nat) : Int)), wr]
    intro k hk
    have hk0 := (cellsN_mem.mp hk).1
    have hk' : k < b.length := by omega
    refine ⟨_, rfl, ?_, fun _ => by simp⟩
    rw [g_eq hk', g_eq hk0]
    by_cases h1 : b[k] = 45
    · simp [atI_k hk', hb1, h1]
    · by_cases h2 : b[k] = r[k]
      · simp [atI_k hk', atI_k hk0, hb1, hr1, h1, h2]
      · simp [atI_k hk', atI_k hk0, hb1, hr1, h1, h2]
  have c3 : ∀ A B C E F G H : Sl, lcL (.nm 7) (evE Z_L_barred (.not (.call 41 [.v 7]))) (evE Z_L_barred (.v 7)) [A, B, C, E, F, G, H, .no] (NI (cellsN r)) = some [] := by
    intro A B C E F G H
    rw [lcL_of (fun k : Nat => D.int ((k : Nat) : Int)) (fun _ => false) (fun k => D.int ((k : Nat) : Int))]
    · simp
    · intro k _
      refine ⟨_, rfl, ?_, by simp⟩
      simp [f41, whole_ok]
  have eqc := eq_ints (cellsN r)
  generalize hK : cellsN r = K at *
  unfold F_L_barred evF ir_L_barred
  rw [if_pos (show [LL ps, D.str b, .str l, .ins "Making" makF [.bl false, .non, .tup (NI K), .int ((c : Nat) : Int)]].length = 4 from rfl)]
  simp only [startD, List.map_cons, List.map_nil, List.length_cons, List.length_nil, List.cons_append, List.nil_append]
  rw [evSs_consR]
  generalize hR : Pv.rest _ _ = R
  simp [f61, a1]
  subst hR
  rw [rest_nx, evSs_consR]
  generalize hR : Pv.rest _ _ = R
  simp [hl1, okr, wipeD]
  rw [rng_len, if_pos hl1, c1]
  subst hR
  simp only [map_someX, bind_someX]
  rw [rest_nx, evSs_consR]
  generalize hR : Pv.rest _ _ = R
  simp [lim, wipeD]
  rw [c2]
  subst hR
  simp only [map_someX, bind_someX]
  rw [rest_nx, evSs_consR]
  generalize hR : Pv.rest _ _ = R
  simp [mk_row, mk_cells, m1, m2, isnot_non, isi1, isIns]
  have eqc' : eqD (.lst (K.map fun k => D.int ((k : Nat) : Int))) (.lst (K.map fun k => D.int ((k : Nat) : Int))) = some true := eqc
  have tn : decide (((t.length : Nat) : Int) + 1 = 0) = false := decide_eq_false (by omega)
  simp [eqc', tn]
  subst hR
  rw [rest_nx, evSs_consR]
  generalize hR : Pv.rest _ _ = R
  simp [mk_cells, mk_cell, m2, m3, lim, wipeD]
  rw [c3]
  simp [eq_lst0, f41, whole_ok]
  subst hR
  rw [rest_nx]
  simp [f58, a2, mk_cell, m3]
end K10

set_option Elab.async false
set_option linter.all false
set_option maxRecDepth 100000
set_option maxHeartbeats 4000000
namespace K10
open PySem L2 Pv
theorem cell_ok (ns : List Int) (k : Nat) (hk : k < 1000) : IsI (F_L_cell [.scr ns, .int k]) := by
  by_cases h : (k : Int) < ns.length
  · have hk2 : k < ns.length := by omega
    have e : atI ns (k : Int) = some ns[k] := atI_nat (by simp [hk2])
    simp [F_L_cell, evF, ir_L_cell, Z_L_cell, startD, h, e, IsI]
  · simp [F_L_cell, evF, ir_L_cell, Z_L_cell, startD, h]
    refine loop_thenE (P := fun o => IsI (o.bind endD)) (fun i σ => ∃ s x, σ = [.v (.scr ns), .v (.int k), .v (.int s), x] ∧ 0 ≤ s ∧ s < 1000003) ⟨3541, .no, rfl, by decide, by decide⟩ ?_ ?_
    · rintro i d σ hd ⟨s, x, rfl, h1, h2⟩
      rw [List.getElem?_map] at hd
      obtain ⟨z, hz, rfl⟩ := mpd hd
      have m1 : mulOk s 31 = true := mulOk_of (a := 20) (b := 5) (by omega) (by decide) (by decide) (by decide) (by decide)
      obtain ⟨a1, a2⟩ := fmodp (s * 31 + z.fmod 1000003) 1000003 (by decide)
      exact ⟨_, [.v (.scr ns), .v (.int k), .v (.int ((s * 31 + z.fmod 1000003).fmod 1000003)), .v (.int z)], rfl, .inl (by simp [m1]), _, _, rfl, a1, a2⟩
    · rintro σ ⟨s, x, rfl, h1, h2⟩
      have m1 : mulOk (s + 7) (k + 3) = true := mulOk_of (a := 21) (b := 11) (by omega) (by omega) (by decide) (by decide) (by decide)
      have m2 : mulOk ((s + 7) * (k + 3)) 69621 = true := mulOk_of (a := 32) (b := 17) (wide_lt (a := 21) (b := 11) (by omega) (by omega)) (by decide) (by decide) (by decide) (by decide)
      simp [m1, m2, IsI]
theorem digits_ok (z : Int) (ss : List Int) (hl : ss.length < 1000) (hs : ∀ s ∈ ss, 0 < s ∧ s < 2 ^ 60) : ∃ ds, F_L_digits [.int z, .lst (ss.map .int)] = some (.lst (ds.map .int)) ∧ Dg ds ss := by
  have p1 : powOk 10 18 = true := by decide
  by_cases h : (1000000000000000000 : Int) ≤ z
  · simp [F_L_digits, evF, ir_L_digits, Z_L_digits, startD, h, p1]
    refine loop_thenE (P := fun o => ∃ ds, ((o.bind _).bind endD) = some (.lst (ds.map D.int)) ∧ Dg ds ss) (fun i σ => ∃ acc r x, σ = [.v (.int z), .v (.lst (ss.map .int)), .o (.lst (acc.map .int)), .v (.int r), .no, .no, x, .no] ∧ Dg acc (ss.take i)) ⟨[], _, _, rfl, trivial⟩ ?_ ?_
    · rintro i d σ hd ⟨acc, r, x, rfl, hD⟩
      rw [List.getElem?_map] at hd
      obtain ⟨s, hz, rfl⟩ := mpd hd
      obtain ⟨s0, s1⟩ := hs s (List.mem_of_getElem? hz)
      have hlen : acc.length < 16777216 := by
        have := hD.len
        have h9 : (ss.take i).length ≤ ss.length := by rw [List.length_take]; omega
        omega
      have s2 : ¬ s = 0 := by omega
      have d1 : divOk s = true := divOk_of (b := 60) (by omega) (by omega) (by decide) (by decide)
      obtain ⟨a1, a2⟩ := fmodp r s s0
      refine ⟨_, [.v (.int z), .v (.lst (ss.map .int)), .o (.lst ((acc ++ [r.fmod s]).map .int)), .v (.int (r.fdiv s)), .no, .no, .v (.int s), .no], rfl, .inl (by simp [s2, d1, hlen]), _, _, _, rfl, ?_⟩
      rw [take_snoc hz]
      exact hD.snoc a1 a2
    · rintro σ ⟨acc, r, x, rfl, hD⟩
      refine ⟨acc, by simp, ?_⟩
      rw [List.length_map, List.take_length] at hD
      exact hD
  · have r1 : okR (ss.length : Int) = true := by simp [okR]; omega
    obtain ⟨b1, b2⟩ := fmodp z 2147483629 (by decide)
    simp [F_L_digits, evF, ir_L_digits, Z_L_digits, startD, h, p1, r1]
    refine loop_thenE (P := fun o => ∃ ds, (o.bind endD) = some (.lst (ds.map D.int)) ∧ Dg ds ss) (fun i σ => ∃ acc s r x5 x6 x7, σ = [.v (.int z), .v (.lst (ss.map .int)), .o (.lst (acc.map .int)), .v (.int r), .v (.int s), x5, x6, x7] ∧ Dg acc (ss.take i) ∧ 0 ≤ s ∧ s < 2147483647) ⟨[], _, _, _, _, _, rfl, trivial, b1, by omega⟩ ?_ ?_
    · rintro i d σ hd ⟨acc, s, r, x5, x6, x7, rfl, hD, h1, h2⟩
      have hi : i < ss.length := by
        have := (List.getElem?_eq_some_iff.mp hd).1
        rw [rng_len] at this; exact this
      rw [rng_get _ _ _ hi] at hd
      cases hd
      have hz : ss[i]? = some ss[i] := by simp [hi]
      obtain ⟨s0, s1⟩ := hs ss[i] (List.getElem_mem hi)
      have hlen : acc.length < 16777216 := by
        have := hD.len
        have h9 : (ss.take i).length ≤ ss.length := by rw [List.length_take]; omega
        omega
      have s2 : ¬ ss[i] = 0 := by omega
      have m1 : mulOk s 48271 = true := mulOk_of (a := 31) (b := 16) (by omega) (by decide) (by decide) (by decide) (by decide)
      have m2 : mulOk 974711 (i : Int) = true := mulOk_of (a := 20) (b := 10) (by decide) (by omega) (by decide) (by decide) (by decide)
      obtain ⟨a1, a2⟩ := fmodp (s * 48271 + 974711 * i + 12345) 2147483647 (by decide)
      generalize hs' : (s * 48271 + 974711 * (i : Int) + 12345).fmod 2147483647 = s' at a1 a2
      obtain ⟨c1, c2⟩ := fdivp s' 65537 a1 (by decide)
      have d1 : divOk 65537 = true := by decide
      have d2 : divOk 19 = true := by decide
      have m3 : mulOk s' (s'.fdiv 65537 + 3) = true := mulOk_of (a := 31) (b := 32) (by omega) (by omega) (by decide) (by decide) (by decide)
      obtain ⟨e1, e2⟩ := fmodp (((s' * (s'.fdiv 65537 + 3)).fmod 2147483629).fdiv 19) ss[i] s0
      have hat : atI (ss.map D.int) (i : Int) = some (.int ss[i]) := atI_nat (by simp [hi])
      refine ⟨_, [.v (.int z), .v (.lst (ss.map .int)), .o (.lst ((acc ++ [(((s' * (s'.fdiv 65537 + 3)).fmod 2147483629).fdiv 19).fmod ss[i]]).map .int)), .v (.int r), .v (.int s'), .v (.int i), x6, .v (.int ((s' * (s'.fdiv 65537 + 3)).fmod 2147483629))], rfl, .inl (by simp [m1, m2, hs', d1, d2, m3, hat, s2, hlen]), _, _, _, _, _, _, rfl, ?_, a1, a2⟩
      rw [take_snoc hz]
      exact hD.snoc e1 e2
    · rintro σ ⟨acc, s, r, x5, x6, x7, rfl, hD, h1, h2⟩
      refine ⟨acc, by simp, ?_⟩
      rw [rng_len, List.take_length] at hD
      exact hD
end K10

set_option Elab.async false
set_option linter.all false
set_option maxRecDepth 100000
set_option maxHeartbeats 4000000
namespace K10
open PySem L2 Pv
def mrkL : List Nat := [46, 97, 98, 99, 100, 101, 102, 103, 104, 105, 106, 107, 108, 109, 110, 111, 112, 113, 114, 115, 116, 117, 118, 119, 120, 121, 122]
theorem mrk_sgn {c : Nat} (h : c ∈ mrkL) : c ∈ sgnL ∧ c ≠ 45 := by revert c; decide
theorem inks_ok (d0 d1 d2 d3 : Int) (h1 : 0 ≤ d1 ∧ d1 < 27) : ∃ a b c, a ∈ mrkL ∧ b ∈ mrkL ∧ c ∈ mrkL ∧ F_L_inks [.lst [.int d0, .int d1, .int d2, .int d3]] = some (.str [a, b, c]) := by
  have hm : ([46, 97, 98, 99, 100, 101, 102, 103, 104, 105, 106, 107, 108, 109, 110, 111, 112, 113, 114, 115, 116, 117, 118, 119, 120, 121, 122] : List Nat) = mrkL := rfl
  have hl : mrkL.length ≤ 16777216 := by decide
  have hl27 : (mrkL.length : Int) = 27 := by decide
  obtain ⟨f, hf, f0, f1⟩ : ∃ f : Int, (d1 * (if d0 < 2 then 1 else 0)) = f ∧ 0 ≤ f ∧ f < 27 := by
    refine ⟨_, rfl, ?_, ?_⟩ <;> split <;> omega
  have mo : mulOk d1 (if d0 < 2 then 1 else 0) = true := by
    refine mulOk_of (a := 5) (b := 1) (by omega) ?_ (by decide) (by decide) (by decide)
    split <;> decide
  obtain ⟨a, ha, ha'⟩ := atI_in (xs := mrkL) f0 (by omega)
  have p1 := fmodp (f + 1 + d2) 27 (by decide)
  have p2 := fmodp (f + 1 + d3) 27 (by decide)
  have p3 := fmodp (f + 26) 27 (by decide)
  obtain ⟨b, hb, hb'⟩ := atI_in (xs := mrkL) p1.1 (by omega)
  by_cases e : (f + 1 + d3).fmod 27 = (f + 1 + d2).fmod 27
  · obtain ⟨c, hc, hc'⟩ := atI_in (xs := mrkL) p3.1 (by omega)
    refine ⟨a, b, c, ha', hb', hc', ?_⟩
    simp [F_L_inks, evF, ir_L_inks, startD, Z_L_inks, hm, hl, mo, hf, ha, hb, hc, e]
  · obtain ⟨c, hc, hc'⟩ := atI_in (xs := mrkL) p2.1 (by omega)
    refine ⟨a, b, c, ha', hb', hc', ?_⟩
    simp [F_L_inks, evF, ir_L_inks, startD, Z_L_inks, hm, hl, mo, hf, ha, hb, hc, e]
end K10

set_option Elab.async false
set_option linter.all false
set_option maxRecDepth 100000
set_option maxHeartbeats 4000000
namespace K10
open PySem L2 Pv
/-- a text drawn sign by sign out of a menu of w signs -/
theorem draw_text {menu : List Nat} {ds : List Int} {w : Nat} {n : Nat} (hw : menu.length = w) (hw0 : 0 < w) : ∀ k, k < n → n ≤ ds.length → ∃ d c, ds[k]? = some d ∧ menu[(d.fmod w).toNat]? = some c ∧ atI menu (d.fmod w) = some c ∧ c ∈ menu := by
  intro k hk hn
  have hk2 : k < ds.length := by omega
  obtain ⟨h0, h1⟩ := fmodp ds[k] w (by omega)
  obtain ⟨c, hc, hc'⟩ := atI_in (xs := menu) h0 (by omega)
  have e : menu[(ds[k].fmod w).toNat]? = some c := by
    have : atI menu (((ds[k].fmod w).toNat : Nat) : Int) = some c := by rw [Int.toNat_of_nonneg h0]; exact hc
    have hb : (ds[k].fmod (w : Int)).toNat < menu.length := by omega
    obtain ⟨x, hx⟩ : ∃ x, menu[(ds[k].fmod w).toNat]? = some x := ⟨_, List.getElem?_eq_getElem hb⟩
    rw [atI_nat hx] at this
    rw [hx]; exact this
  exact ⟨ds[k], c, by simp [hk2], e, hc, hc'⟩
def drawN (menu : List Nat) (w : Int) (ds : List Int) (n : Nat) : List Nat := (List.range n).map fun k => (menu[((ds[k]?.getD 0).fmod w).toNat]?).getD 0
theorem drawN_mem {menu : List Nat} {ds : List Int} {w n : Nat} (hw : menu.length = w) (hw0 : 0 < w) (hn : n ≤ ds.length) : ∀ c ∈ drawN menu w ds n, c ∈ menu := by
  intro c hc
  obtain ⟨k, hk, rfl⟩ := List.mem_map.mp hc
  obtain ⟨d, c, h1, h2, _, h4⟩ := draw_text (ds := ds) (n := n) hw hw0 k (List.mem_range.mp hk) hn
  rw [h1]
  simp only [Option.getD_some]
  rw [h2]
  exact h4
theorem sheet_ok {menu : List Nat} {ds : List Int} {n : Nat} (hw : menu.length = 4) (hn : n ≤ ds.length) (h1 : n ≤ 1000) : F_L_sheet [.str menu, .lst (ds.map .int), .int (n : Nat)] = some (.str (drawN menu 4 ds n)) := by
  have hr : okR (n : Int) = true := by unfold okR; simp; omega
  have hl : n ≤ 16777216 := by omega
  have hl4 : menu.length ≤ 16777216 := by omega
  simp [F_L_sheet, evF, ir_L_sheet, startD, Z_L_sheet, hr]
  rw [rng_len, if_pos hl, lcL_rng (g := fun k => D.str [(menu[((ds[k]?.getD 0).fmod 4).toNat]?).getD 0])]
  · simp only [map_someX, bind_someX, Function.comp_apply]
    have := join_signs (fun k => (menu[((ds[k]?.getD 0).fmod 4).toNat]?).getD 0) (List.range n) (by simpa using hl)
    rw [this]
    simp [drawN]
  · intro k hk
    obtain ⟨d, c, e1, e2, e3, _⟩ := draw_text (ds := ds) (n := n) hw (by decide) k hk hn
    have e4 : atI (ds.map D.int) (k : Int) = some (.int d) := atI_nat (by simp [e1])
    have e3' : atI menu (d.fmod 4) = some c := by simpa using e3
    have e2' : menu[(d.fmod 4).toNat]? = some c := by simpa using e2
    simp [wipeD, e4, e3', e1, e2', hl4]
end K10

set_option Elab.async false
set_option linter.all false
set_option maxRecDepth 100000
set_option maxHeartbeats 4000000
namespace K10
open PySem L2 Pv
theorem mrk_inj : ∀ i : Fin 27, ∀ j : Fin 27, mrkL[i.val]? = mrkL[j.val]? → i = j := by decide
theorem mrk_at {i : Int} (h0 : 0 ≤ i) (h1 : i < 27) : ∃ c, atI mrkL i = some c ∧ c ∈ mrkL ∧ mrkL[i.toNat]? = some c := by
  have : i.toNat < mrkL.length := by simp [mrkL]; omega
  exact ⟨mrkL[i.toNat], atI_of h0 (by simp [this]), List.getElem_mem this, by simp [this]⟩
theorem mrk_ne {i j : Int} {a b : Nat} (h0 : 0 ≤ i) (h1 : i < 27) (h2 : 0 ≤ j) (h3 : j < 27) (ha : mrkL[i.toNat]? = some a) (hb : mrkL[j.toNat]? = some b) (hn : i ≠ j) : a ≠ b := by
  rintro rfl
  have := mrk_inj ⟨i.toNat, by omega⟩ ⟨j.toNat, by omega⟩ (by rw [ha, hb])
  have := congrArg Fin.val this
  simp only at this
  omega
theorem fm27 (z : Int) : z.fmod 27 = z % 27 := Int.fmod_eq_emod_of_nonneg z (by decide)
theorem inks_ok2 (d0 d1 d2 d3 : Int) (h1 : 0 ≤ d1 ∧ d1 < 27) (h2 : 0 ≤ d2 ∧ d2 < 26) (h3 : 0 ≤ d3 ∧ d3 < 25) : ∃ a b c, a ∈ mrkL ∧ b ∈ mrkL ∧ c ∈ mrkL ∧ [a, b, c].Nodup ∧ F_L_inks [.lst [.int d0, .int d1, .int d2, .int d3]] = some (.str [a, b, c]) := by
  have hm : ([46, 97, 98, 99, 100, 101, 102, 103, 104, 105, 106, 107, 108, 109, 110, 111, 112, 113, 114, 115, 116, 117, 118, 119, 120, 121, 122] : List Nat) = mrkL := rfl
  have hl : mrkL.length ≤ 16777216 := by decide
  have hl27 : (mrkL.length : Int) = 27 := by decide
  obtain ⟨f, hf, f0, f1⟩ : ∃ f : Int, (d1 * (if d0 < 2 then 1 else 0)) = f ∧ 0 ≤ f ∧ f < 27 := by
    refine ⟨_, rfl, ?_, ?_⟩ <;> split <;> omega
  have mo : mulOk d1 (if d0 < 2 then 1 else 0) = true := by
    refine mulOk_of (a := 5) (b := 1) (by omega) ?_ (by decide) (by decide) (by decide)
    split <;> decide
  obtain ⟨a, ha, ha', ha2⟩ := mrk_at f0 f1
  have p1 := fmodp (f + 1 + d2) 27 (by decide)
  have p2 := fmodp (f + 1 + d3) 27 (by decide)
  have p3 := fmodp (f + 26) 27 (by decide)
  obtain ⟨b, hb, hb', hb2⟩ := mrk_at p1.1 p1.2
  have nab : a ≠ b := mrk_ne f0 f1 p1.1 p1.2 ha2 hb2 (by rw [fm27]; omega)
  by_cases e : (f + 1 + d3).fmod 27 = (f + 1 + d2).fmod 27
  · obtain ⟨c, hc, hc', hc2⟩ := mrk_at p3.1 p3.2
    have nac : a ≠ c := mrk_ne f0 f1 p3.1 p3.2 ha2 hc2 (by rw [fm27]; omega)
    have nbc : b ≠ c := mrk_ne p1.1 p1.2 p3.1 p3.2 hb2 hc2 (by rw [fm27] at e ⊢; rw [fm27] at e ⊢; omega)
    refine ⟨a, b, c, ha', hb', hc', by simp [nab, nac, nbc], ?_⟩
    simp [F_L_inks, evF, ir_L_inks, startD, Z_L_inks, hm, hl, mo, hf, ha, hb, hc, e]
  · obtain ⟨c, hc, hc', hc2⟩ := mrk_at p2.1 p2.2
    have nac : a ≠ c := mrk_ne f0 f1 p2.1 p2.2 ha2 hc2 (by rw [fm27]; omega)
    have nbc : b ≠ c := mrk_ne p1.1 p1.2 p2.1 p2.2 hb2 hc2 (fun z => e z.symm)
    refine ⟨a, b, c, ha', hb', hc', by simp [nab, nac, nbc], ?_⟩
    simp [F_L_inks, evF, ir_L_inks, startD, Z_L_inks, hm, hl, mo, hf, ha, hb, hc, e]
theorem at6 {α : Type} (a b c d e f x : α) (xs : List α) : atI (a :: b :: c :: d :: e :: f :: x :: xs) 6 = some x := atI_of (by decide) rfl
theorem at7 {α : Type} (a b c d e f g x : α) (xs : List α) : atI (a :: b :: c :: d :: e :: f :: g :: x :: xs) 7 = some x := atI_of (by decide) rfl
theorem at8 {α : Type} (a b c d e f g h x : α) (xs : List α) : atI (a :: b :: c :: d :: e :: f :: g :: h :: x :: xs) 8 = some x := atI_of (by decide) rfl
theorem at9 {α : Type} (a b c d e f g h i x : α) (xs : List α) : atI (a :: b :: c :: d :: e :: f :: g :: h :: i :: x :: xs) 9 = some x := atI_of (by decide) rfl
def ldL : List Nat := letL ++ digL
theorem ld_mem {c : Nat} (h : c ∈ ldL) : c ∈ letL ∨ c ∈ digL := List.mem_append.mp h
/-- the drawn word -/
def word (ds : List Int) : List Nat := pick letL (ds.getD 1 0) :: (List.range 7).map fun k => pick ldL (ds.getD (2 + k) 0)
theorem word_len (ds : List Int) : (word ds).length = 8 := by simp [word]
theorem word_fst (ds : List Int) : ∃ c r, word ds = c :: r ∧ c ∈ letL := ⟨_, _, rfl, (pick_at (menu := letL) (by decide) _).2⟩
theorem word_sg (ds : List Int) : ∀ c ∈ word ds, c ∈ letL ∨ c ∈ digL := by
  intro c hc
  unfold word at hc
  rcases List.mem_cons.mp hc with rfl | hc
  · exact .inl (pick_at (menu := letL) (by decide) _).2
  · obtain ⟨k, _, rfl⟩ := List.mem_map.mp hc
    exact ld_mem (pick_at (menu := ldL) (by decide) _).2
/-- a name out of the word with one sign exchanged -/
theorem nam_take {ds : List Int} {k : Nat} (h1 : 1 ≤ k) (h8 : k ≤ 8) : Nam ((word ds).take k) := by
  have hw := word_len ds
  refine ⟨by rw [List.length_take]; omega, ?_, fun c hc => word_sg ds c (List.mem_of_mem_take hc)⟩
  intro c hc
  rw [List.getElem?_take] at hc
  split at hc
  · obtain ⟨c', r, e, hc'⟩ := word_fst ds
    rw [e] at hc
    simp at hc
    rw [← hc]; exact hc'
  · cases hc
theorem word_expr (ds : List Int) (hd : 10 ≤ ds.length) (B C E F G H : Sl) :
    lcL (.nm 8) (evE Z_L_names (.c (.bl true))) (evE Z_L_names (.ix (.v 3) (.bin .mod (.blt .int [.ix (.v 0) (.bin .add (.c (.int 2)) (.v 8))]) (.c (.int 36))))) (wipeD [.v (.lst (ds.map .int)), B, .v (.str letL), .v (.str ldL), C, E, F, G, H] [8]) (rngD 0 7) = some ((List.range 7).map fun k => D.str [pick ldL (ds.getD (2 + k) 0)]) := by
  refine lcL_rng (n := 7) (g := fun k => D.str [pick ldL (ds.getD (2 + k) 0)]) fun k hk => ?_
  have hl : ldL.length ≤ 16777216 := by decide
  have h2 : 2 + k < ds.length := by omega
  have e1 : atI (ds.map D.int) (2 + (k : Int)) = some (.int (ds.getD (2 + k) 0)) := by
    refine atI_of (by omega) ?_
    have : (2 + (k : Int)).toNat = 2 + k := by omega
    rw [this, List.getElem?_map, List.getD_eq_getElem?_getD, List.getElem?_eq_getElem h2]
    rfl
  have e2 := (pick_w (menu := ldL) (w := 36) (by decide) (by decide) (ds.getD (2 + k) 0)).1
  simp [wipeD, e1, hl]
  rw [List.getD_eq_getElem?_getD] at e2
  simp [e2]
end K10

set_option Elab.async false
set_option linter.all false
set_option maxRecDepth 100000
set_option maxHeartbeats 4000000
namespace K10
open PySem L2 Pv
theorem atI_map {α β : Type} (f : α → β) (xs : List α) (i : Int) : atI (xs.map f) i = (atI xs i).map f := by
  unfold atI
  rw [List.length_map]
  cases ixN xs.length i with
  | none => rfl
  | some j => simp
def menuN : List (List Nat) := [[120], [98, 101, 116, 97], [121, 50], [109, 115], [113], [99, 111, 112, 121, 49, 48], [122], [97, 108, 112, 104, 97, 49]]
theorem menuN_inj : ∀ i j : Fin 8, menuN[i.val]? = menuN[j.val]? → i = j := by decide
theorem menuN_nam : ∀ x ∈ menuN, Nam x := by
  have h : ∀ x ∈ menuN, (1 ≤ x.length ∧ x.length ≤ 8) ∧ (∀ c ∈ x.head?, c ∈ letL) ∧ ∀ c ∈ x, c ∈ letL ∨ c ∈ digL := by decide
  intro x hx
  obtain ⟨h1, h2, h3⟩ := h x hx
  exact ⟨h1, fun c hc => h2 c (by rw [List.head?_eq_getElem?]; exact hc), h3⟩
/-- case A -/
def lenA (d : Int) (k : Nat) : Nat := ((d + 3 * (k : Int)).fmod 8 + 1).toNat
theorem lenA_in (d : Int) (k : Nat) : 1 ≤ lenA d k ∧ lenA d k ≤ 8 := by
  unfold lenA
  rw [fmE _ _ (by decide)]
  omega
theorem lenA_inj (d : Int) (a b : Nat) (ha : a < 8) (hb : b < 8) (h : lenA d a = lenA d b) : a = b := by
  unfold lenA at h
  rw [fmE _ _ (by decide), fmE _ _ (by decide)] at h
  omega
theorem list_menu : D.lst (menuN.map D.str) = .lst [.str [120], .str [98, 101, 116, 97], .str [121, 50], .str [109, 115], .str [113], .str [99, 111, 112, 121, 49, 48], .str [122], .str [97, 108, 112, 104, 97, 49]] := rfl
theorem letL_inj : ∀ i j : Fin 26, letL[i.val]? = letL[j.val]? → i = j := by decide
theorem ldL_inj : ∀ i j : Fin 36, ldL[i.val]? = ldL[j.val]? → i = j := by decide
/-- case C -/
def nameC (w sg : List Nat) (d : Int) (spot size : Nat) (k : Nat) : List Nat := w.take spot ++ [pick sg (d + 7 * (k : Int))] ++ (w.drop (spot + 1)).take (size - (spot + 1))
theorem nameC_inj (w sg : List Nat) (d : Int) (spot size : Nat) (a b : Nat) (h : nameC w sg d spot size a = nameC w sg d spot size b) : pick sg (d + 7 * (a : Int)) = pick sg (d + 7 * (b : Int)) := by
  unfold nameC at h
  rw [List.append_assoc, List.append_assoc] at h
  have := List.append_cancel_left h
  simpa using this
theorem nameC_nam {ds : List Int} {sg : List Nat} {d : Int} {spot size k : Nat} (h1 : spot < size) (h2 : size ≤ 8) (hs : sg = letL ∨ (sg = ldL ∧ spot ≠ 0)) : Nam (nameC (word ds) sg d spot size k) := by
  have hw := word_len ds
  have hm : pick sg (d + 7 * (k : Int)) ∈ sg := by
    rcases hs with rfl | ⟨rfl, _⟩
    · exact (pick_at (by decide) _).2
    · exact (pick_at (by decide) _).2
  have hsg : ∀ c ∈ sg, c ∈ letL ∨ c ∈ digL := by
    rcases hs with rfl | ⟨rfl, _⟩
    · exact fun c h => .inl h
    · exact fun c h => ld_mem h
  refine ⟨?_, ?_, ?_⟩
  · unfold nameC
    simp only [List.length_append, List.length_take, List.length_drop, List.length_cons, List.length_nil, hw]
    omega
  · intro c hc
    unfold nameC at hc
    cases spot with
    | zero =>
      rcases hs with rfl | ⟨_, z⟩
      · simp at hc
        rw [← hc]; exact hm
      · exact absurd rfl z
    | succ s =>
      obtain ⟨c', r, e, hc'⟩ := word_fst ds
      rw [e] at hc
      simp at hc
      rw [← hc]; exact hc'
  · intro c hc
    unfold nameC at hc
    rcases List.mem_append.mp hc with hc | hc
    · rcases List.mem_append.mp hc with hc | hc
      · exact word_sg ds c (List.mem_of_mem_take hc)
      · have : c = pick sg (d + 7 * (k : Int)) := by simpa using hc
        rw [this]; exact hsg _ hm
    · exact word_sg ds c (List.mem_of_mem_drop (List.mem_of_mem_take hc))
theorem names_ok (ds : List Int) (hd : 10 ≤ ds.length) (many : Nat) (hm : many ≤ 24) : ∃ xs : List (List Nat), F_L_names [.lst (ds.map .int), .int (many : Nat)] = some (.lst (xs.map .str)) ∧ xs.length = many ∧ xs.Nodup ∧ ∀ x ∈ xs, Nam x := by
  have e0 : atI (ds.map D.int) 0 = some (.int (ds.getD 0 0)) := atG ds 0 (by omega)
  have e1 : atI (ds.map D.int) 1 = some (.int (ds.getD 1 0)) := atG ds 1 (by omega)
  have e2 : atI (ds.map D.int) 2 = some (.int (ds.getD 2 0)) := atG ds 2 (by omega)
  have e3 : atI (ds.map D.int) 3 = some (.int (ds.getD 3 0)) := atG ds 3 (by omega)
  have e9 : atI (ds.map D.int) 9 = some (.int (ds.getD 9 0)) := atG ds 9 (by omega)
  have hL : ([97, 98, 99, 100, 101, 102, 103, 104, 105, 106, 107, 108, 109, 110, 111, 112, 113, 114, 115, 116, 117, 118, 119, 120, 121, 122] : List Nat) = letL := rfl
  have hLD : letL ++ [48, 49, 50, 51, 52, 53, 54, 55, 56, 57] = ldL := rfl
  have l1 : letL.length ≤ 16777216 := by decide
  have l2 : letL.length + 10 ≤ 16777216 := by decide
  have w1 := (pick_w (menu := letL) (w := 26) (by decide) (by decide) (ds.getD 1 0)).1
  have r7 : okR 7 = true := by decide
  have rm : okR (many : Int) = true := by unfold okR; simp; omega
  have hw := word_len ds
  have hw16 : (word ds).length ≤ 16777216 := by omega
  have hm16 : many ≤ 16777216 := by omega
  have jw : joinD (.str []) (.lst ((List.range 7).map fun k => D.str [pick ldL (ds.getD (2 + k) 0)])) = some (.str ((List.range 7).map fun k => pick ldL (ds.getD (2 + k) 0))) := join_signsC _ 7 (by decide)
  have hword : pick letL (ds.getD 1 0) :: ((List.range 7).map fun k => pick ldL (ds.getD (2 + k) 0)) = word ds := rfl
  generalize hx0 : ds.getD 0 0 = x0 at e0
  generalize hx2 : ds.getD 2 0 = x2 at e2
  generalize hx3 : ds.getD 3 0 = x3 at e3
  generalize hx9 : ds.getD 9 0 = x9 at e9
  generalize hx1 : ds.getD 1 0 = x1 at e1 w1 hword
  have wk : ∀ σ : List Sl, getV σ 0 = some (.lst (ds.map .int)) → getV σ 3 = some (.str ldL) → 8 < σ.length → lcL (.nm 8) (evE Z_L_names (.c (.bl true))) (evE Z_L_names (.ix (.v 3) (.bin .mod (.blt .int [.ix (.v 0) (.bin .add (.c (.int 2)) (.v 8))]) (.c (.int 36))))) σ (rngD 0 7) = some ((List.range 7).map fun k => D.str [pick ldL (ds.getD (2 + k) 0)]) := by
    intro σ s0 s3 sl
    refine lcL_rng (n := 7) (g := fun k => D.str [pick ldL (ds.getD (2 + k) 0)]) fun k hk => ?_
    have hl : ldL.length ≤ 16777216 := by decide
    have h2 : 2 + k < ds.length := by omega
    have q1 : atI (ds.map D.int) (2 + (k : Int)) = some (.int (ds.getD (2 + k) 0)) := by
      have := atG ds (2 + k) h2
      rw [show ((2 + k : Nat) : Int) = 2 + (k : Int) by omega] at this
      exact this
    have q2 := (pick_w (menu := ldL) (w := 36) (by decide) (by decide) (ds.getD (2 + k) 0)).1
    rw [List.getD_eq_getElem?_getD] at q1 q2
    simp [getV_ne, getV_eq sl, s0, s3, q1, q2, hl]
  have hwordD : (word ds).drop 0 = word ds := rfl
  have case_a : ∀ σ : List Sl, getV σ 0 = some (.lst (ds.map .int)) → getV σ 4 = some (.str (word ds)) → 8 < σ.length → lcL (.nm 8) (evE Z_L_names (.c (.bl true))) (evE Z_L_names (.sl (.v 4) .nil (.last (.bin .add (.bin .mod (.blt .int [.bin .add (.ix (.v 0) (.c (.int 9))) (.bin .mul (.c (.int 3)) (.v 8))]) (.c (.int 8))) (.c (.int 1)))))) σ (rngD 0 many) = some (((List.range many).map fun k => (word ds).take (lenA x9 k)).map D.str) := by
    intro σ s0 s4 sl
    refine lcL_names _ fun k hk => ?_
    have m3 : mulOk 3 (k : Int) = true := mulOk_of (a := 2) (b := 10) (by decide) (by omega) (by decide) (by decide) (by decide)
    have p := fmodp (x9 + 3 * (k : Int)) 8 (by decide)
    have ct := cut_to (word ds) ((x9 + 3 * (k : Int)).fmod 8 + 1) (by omega)
    simp [getV_ne, getV_eq sl, s0, s4, e9, m3, slD, hw16, ct, lenA]
  have case_b : ∀ σ : List Sl, getV σ 0 = some (.lst (ds.map .int)) → getV σ 7 = some (.lst (menuN.map D.str)) → 8 < σ.length → lcL (.nm 8) (evE Z_L_names (.c (.bl true))) (evE Z_L_names (.ix (.v 7) (.bin .mod (.blt .int [.bin .add (.ix (.v 0) (.c (.int 9))) (.v 8)]) (.c (.int 8))))) σ (rngD 0 many) = some (((List.range many).map fun k : Nat => pick menuN (x9 + (k : Int))).map D.str) := by
    intro σ s0 s7 sl
    refine lcL_names _ fun k hk => ?_
    have p := (pick_w (menu := menuN) (w := 8) (by decide) (by decide) (x9 + (k : Int))).1
    have p' : atI (menuN.map D.str) ((x9 + (k : Int)).fmod 8) = some (.str (pick menuN (x9 + (k : Int)))) := by
      rw [atI_map, p]; rfl
    simp [getV_ne, getV_eq sl, s0, s7, e9, p']
  have case_c : ∀ (sg : List Nat) (spot size : Nat) (σ : List Sl), sg ≠ [] → sg.length ≤ 1000 → spot < size → size ≤ 8 → getV σ 0 = some (.lst (ds.map .int)) → getV σ 3 = some (.str sg) → getV σ 4 = some (.str (word ds)) → getV σ 5 = some (.int (size : Nat)) → getV σ 6 = some (.int (spot : Nat)) → 8 < σ.length →
      lcL (.nm 8) (evE Z_L_names (.c (.bl true))) (evE Z_L_names (.bin .add (.bin .add (.sl (.v 4) .nil (.last (.v 6))) (.ix (.v 3) (.bin .mod (.blt .int [.bin .add (.ix (.v 0) (.c (.int 3))) (.bin .mul (.c (.int 7)) (.v 8))]) (.blt .len [.v 3])))) (.sl (.v 4) (.last (.bin .add (.v 6) (.c (.int 1)))) (.last (.v 5))))) σ (rngD 0 many) = some (((List.range many).map fun k => nameC (word ds) sg x3 spot size k).map D.str) := by
    intro sg spot size σ n0 n1 h1 h2 s0 s3 s4 s5 s6 sl
    refine lcL_names _ fun k hk => ?_
    have m3 : mulOk 7 (k : Int) = true := mulOk_of (a := 3) (b := 10) (by decide) (by omega) (by decide) (by decide) (by decide)
    have p := (pick_at n0 (x3 + 7 * (k : Int))).1
    have ct := cut_to (word ds) (spot : Int) (by omega)
    have cm := cut_mid (word ds) ((spot : Int) + 1) (size : Int) (by omega) (by omega)
    have l0 : sg.length ≤ 16777216 := by omega
    have l00 : sg ≠ [] := n0
    have t1 : (spot : Int) + 1 = ((spot + 1 : Nat) : Int) := by omega
    have t2 : ((spot : Int) + 1).toNat = spot + 1 := by omega
    have la : min spot (word ds).length + 1 ≤ 16777216 := by omega
    have lb : min spot (word ds).length + 1 + min (size - (spot + 1)) ((word ds).length - (spot + 1)) ≤ 16777216 := by omega
    simp [getV_ne, getV_eq sl, s0, s3, s4, s5, s6, e3, m3, slD, hw16, ct, cm, p, l0, n0, t2, la, lb, nameC]
  have done : ∀ xs : List (List Nat), xs.length = many → xs.Nodup → (∀ x ∈ xs, Nam x) → F_L_names [.lst (ds.map .int), .int (many : Nat)] = some (.lst (xs.map .str)) → ∃ xs : List (List Nat), F_L_names [.lst (ds.map .int), .int (many : Nat)] = some (.lst (xs.map .str)) ∧ xs.length = many ∧ xs.Nodup ∧ ∀ x ∈ xs, Nam x := fun xs a b c d => ⟨xs, d, a, b, c⟩
  simp only [List.getD_eq_getElem?_getD] at wk jw hword
  have go : ∀ r, (evSs Z_L_names (ir_L_names.drop 3) [.v (.lst (ds.map .int)), .v (.int (many : Nat)), .v (.str letL), .v (.str ldL), .v (.str (word ds)), .no, .no, .no, .no]).bind endD = r → F_L_names [.lst (ds.map .int), .int (many : Nat)] = r := by
    intro r hr
    unfold F_L_names evF ir_L_names
    rw [if_pos (show [D.lst (ds.map .int), .int (many : Nat)].length = 2 from rfl)]
    simp only [startD]
    (rw [evSs_consR]; generalize hRx : Pv.rest _ _ = Rx; simp [hL] <;> (subst hRx; first | rw [rest_nx] | (simp only [rest_rt, rest_bk, rest_ct, bind_someX, endD_rt]) | skip))
    (rw [evSs_consR]; generalize hRx : Pv.rest _ _ = Rx; simp [hLD, l2] <;> (subst hRx; first | rw [rest_nx] | (simp only [rest_rt, rest_bk, rest_ct, bind_someX, endD_rt]) | skip))
    (rw [evSs_consR]; generalize hRx : Pv.rest _ _ = Rx; simp [l1, e1, w1, r7, rng_len, wipeD, wk, jw, hword, -joinD_lst] <;> (subst hRx; first | rw [rest_nx] | (simp only [rest_rt, rest_bk, rest_ct, bind_someX, endD_rt]) | skip))
    exact hr
  by_cases hA : x0 < 2 ∧ many ≤ 8
  · obtain ⟨a1, a2⟩ := hA
    have a2' : (many : Int) ≤ 8 := by omega
    refine done ((List.range many).map fun k => (word ds).take (lenA x9 k)) (by simp) ?_ ?_ ?_
    · refine nodup_range _ many fun a ha b hb h => ?_
      have h := congrArg List.length h
      have i1 := lenA_in x9 a
      have i2 := lenA_in x9 b
      rw [List.length_take, List.length_take, hw, Nat.min_eq_left i1.2, Nat.min_eq_left i2.2] at h
      exact lenA_inj x9 a b (by omega) (by omega) h
    · intro x hx
      obtain ⟨k, _, rfl⟩ := List.mem_map.mp hx
      exact nam_take (lenA_in x9 k).1 (lenA_in x9 k).2
    · apply go
      unfold ir_L_names
      simp only [List.drop]
      (rw [evSs_consR]; generalize hRx : Pv.rest _ _ = Rx; simp [e0, a1, a2', rm, rng_len, hm16, wipeD, case_a] <;> (subst hRx; first | rw [rest_nx] | (simp only [rest_rt, rest_bk, rest_ct, bind_someX, endD_rt]) | skip))
  · by_cases hB : 3 < x0 ∧ many ≤ 8
    · obtain ⟨a1, a2⟩ := hB
      have a2' : (many : Int) ≤ 8 := by omega
      have a3 : ¬ x0 < 2 := by omega
      refine done ((List.range many).map fun k : Nat => pick menuN (x9 + (k : Int))) (by simp) ?_ ?_ ?_
      · refine nodup_range _ many fun a ha b hb h => ?_
        have := pick_inj (menu := menuN) (w := 8) rfl menuN_inj (by decide) h
        rw [fmE _ _ (by decide), fmE _ _ (by decide)] at this
        omega
      · intro x hx
        obtain ⟨k, _, rfl⟩ := List.mem_map.mp hx
        exact menuN_nam _ (pick_at (menu := menuN) (by decide) _).2
      · apply go
        unfold ir_L_names
        simp only [List.drop]
        (rw [evSs_consR]; generalize hRx : Pv.rest _ _ = Rx; simp [e0, a1, a3] <;> (subst hRx; first | rw [rest_nx] | (simp only [rest_rt, rest_bk, rest_ct, bind_someX, endD_rt]) | skip))
        have cb := fun σ h0 h7 h8 => case_b σ h0 h7 h8
        rw [list_menu] at cb
        (rw [evSs_consR]; generalize hRx : Pv.rest _ _ = Rx; simp [e0, a1, a2', rm, rng_len, hm16, wipeD, cb] <;> (subst hRx; first | rw [rest_nx] | (simp only [rest_rt, rest_bk, rest_ct, bind_someX, endD_rt]) | skip))
    · have d8 : divOk 8 = true := by decide
      obtain ⟨p0, p1⟩ := fmodp x9 8 (by decide)
      obtain ⟨size, hsize⟩ : ∃ size : Nat, (size : Int) = 1 + x9.fmod 8 := ⟨(1 + x9.fmod 8).toNat, by omega⟩
      obtain ⟨q0, q1⟩ := fmodp x2 size (by omega)
      obtain ⟨spot, hspot⟩ : ∃ spot : Nat, (spot : Int) = x2.fmod size := ⟨(x2.fmod size).toNat, by omega⟩
      have n0 : ¬ (1 + x9.fmod 8 = 0) := by omega
      have n1 : ¬ ((size : Int) = 0) := by omega
      have n2 : ¬ (size = 0) := by omega
      have cond : ¬ (x0 < 2) ∧ ¬ (3 < x0) ∨ 8 < many := by
        by_cases h : many ≤ 8
        · left
          exact ⟨fun z => hA ⟨z, h⟩, fun z => hB ⟨z, h⟩⟩
        · right; omega
      have st1 : ∀ (q : Option D) r, ((evSs Z_L_names (ir_L_names.drop 4) [.v (.lst (ds.map .int)), .v (.int (many : Nat)), .v (.str letL), .v (.str ldL), .v (.str (word ds)), .no, .no, .no, .no]).bind endD = q) → (evSs Z_L_names (.ifs (.and (.cmp .lt (.ix (.v 0) (.c (.int 0))) (.c (.int 2))) (.last (.cmp .le (.v 1) (.c (.int 8))))) r [] :: ir_L_names.drop 4) [.v (.lst (ds.map .int)), .v (.int (many : Nat)), .v (.str letL), .v (.str ldL), .v (.str (word ds)), .no, .no, .no, .no]).bind endD = q := by
        intro q r hq
        rcases cond with ⟨c1, c2⟩ | c
        · (rw [evSs_consR]; generalize hRx : Pv.rest _ _ = Rx; simp [e0, c1] <;> (subst hRx; first | rw [rest_nx] | (simp only [rest_rt, rest_bk, rest_ct, bind_someX, endD_rt]) | skip))
          exact hq
        · have c' : ¬ ((many : Int) ≤ 8) := by omega
          by_cases c1 : x0 < 2
          · (rw [evSs_consR]; generalize hRx : Pv.rest _ _ = Rx; simp [e0, c1, c'] <;> (subst hRx; first | rw [rest_nx] | (simp only [rest_rt, rest_bk, rest_ct, bind_someX, endD_rt]) | skip))
            exact hq
          · (rw [evSs_consR]; generalize hRx : Pv.rest _ _ = Rx; simp [e0, c1] <;> (subst hRx; first | rw [rest_nx] | (simp only [rest_rt, rest_bk, rest_ct, bind_someX, endD_rt]) | skip))
            exact hq
      have st2 : ∀ (q : Option D) r, ((evSs Z_L_names (ir_L_names.drop 5) [.v (.lst (ds.map .int)), .v (.int (many : Nat)), .v (.str letL), .v (.str ldL), .v (.str (word ds)), .no, .no, .no, .no]).bind endD = q) → (evSs Z_L_names (.ifs (.and (.cmp .gt (.ix (.v 0) (.c (.int 0))) (.c (.int 3))) (.last (.cmp .le (.v 1) (.c (.int 8))))) r [] :: ir_L_names.drop 5) [.v (.lst (ds.map .int)), .v (.int (many : Nat)), .v (.str letL), .v (.str ldL), .v (.str (word ds)), .no, .no, .no, .no]).bind endD = q := by
        intro q r hq
        rcases cond with ⟨c1, c2⟩ | c
        · (rw [evSs_consR]; generalize hRx : Pv.rest _ _ = Rx; simp [e0, c2] <;> (subst hRx; first | rw [rest_nx] | (simp only [rest_rt, rest_bk, rest_ct, bind_someX, endD_rt]) | skip))
          exact hq
        · have c' : ¬ ((many : Int) ≤ 8) := by omega
          by_cases c1 : 3 < x0
          · (rw [evSs_consR]; generalize hRx : Pv.rest _ _ = Rx; simp [e0, c1, c'] <;> (subst hRx; first | rw [rest_nx] | (simp only [rest_rt, rest_bk, rest_ct, bind_someX, endD_rt]) | skip))
            exact hq
          · (rw [evSs_consR]; generalize hRx : Pv.rest _ _ = Rx; simp [e0, c1] <;> (subst hRx; first | rw [rest_nx] | (simp only [rest_rt, rest_bk, rest_ct, bind_someX, endD_rt]) | skip))
            exact hq
      have go2 : ∀ r, (evSs Z_L_names (ir_L_names.drop 7) [.v (.lst (ds.map .int)), .v (.int (many : Nat)), .v (.str letL), .v (.str ldL), .v (.str (word ds)), .v (.int (size : Nat)), .v (.int (spot : Nat)), .no, .no]).bind endD = r → F_L_names [.lst (ds.map .int), .int (many : Nat)] = r := by
        intro r hr
        apply go
        refine st1 _ _ ?_
        refine st2 _ _ ?_
        unfold ir_L_names
        simp only [List.drop]
        (rw [evSs_consR]; generalize hRx : Pv.rest _ _ = Rx; simp [e9, ← hsize] <;> (subst hRx; first | rw [rest_nx] | (simp only [rest_rt, rest_bk, rest_ct, bind_someX, endD_rt]) | skip))
        (rw [evSs_consR]; generalize hRx : Pv.rest _ _ = Rx; simp [e2, n2, ← hspot] <;> (subst hRx; first | rw [rest_nx] | (simp only [rest_rt, rest_bk, rest_ct, bind_someX, endD_rt]) | skip))
        exact hr
      have cc : ∀ sg : List Nat, sg = letL ∨ (sg = ldL ∧ spot ≠ 0) → (∀ i j : Fin sg.length, sg[i.val]? = sg[j.val]? → i = j) → ∃ xs : List (List Nat), xs = ((List.range many).map fun k => nameC (word ds) sg x3 spot size k) ∧ xs.length = many ∧ xs.Nodup ∧ ∀ x ∈ xs, Nam x := by
        intro sg hs hinj
        refine ⟨_, rfl, by simp, ?_, ?_⟩
        · refine nodup_range _ many fun a ha b hb h => ?_
          have h := nameC_inj _ _ _ _ _ a b h
          have h26 : sg.length = 26 ∨ sg.length = 36 := by
            rcases hs with rfl | ⟨rfl, _⟩
            · left; rfl
            · right; rfl
          have := pick_inj (menu := sg) rfl hinj (by omega) h
          rcases h26 with h26 | h26 <;> (rw [h26] at this; rw [fmE _ _ (by decide), fmE _ _ (by decide)] at this; omega)
        · intro x hx
          obtain ⟨k, _, rfl⟩ := List.mem_map.mp hx
          exact nameC_nam (by omega) (by omega) hs
      by_cases hz : spot = 0
      · obtain ⟨xs, hxs, h1, h2, h3⟩ := cc letL (.inl rfl) letL_inj
        refine done xs h1 h2 h3 ?_
        apply go2
        rw [hxs]
        unfold ir_L_names
        simp only [List.drop]
        subst hz
        (rw [evSs_consR]; generalize hRx : Pv.rest _ _ = Rx; simp [] <;> (subst hRx; first | rw [rest_nx] | (simp only [rest_rt, rest_bk, rest_ct, bind_someX, endD_rt]) | skip))
        have c3 := fun σ => case_c letL 0 size σ (by decide) (by decide) (by omega) (by omega)
        (rw [evSs_consR]; generalize hRx : Pv.rest _ _ = Rx; simp [rm, rng_len, hm16, wipeD, c3] <;> (subst hRx; first | rw [rest_nx] | (simp only [rest_rt, rest_bk, rest_ct, bind_someX, endD_rt]) | skip))
      · obtain ⟨xs, hxs, h1, h2, h3⟩ := cc ldL (.inr ⟨rfl, hz⟩) ldL_inj
        refine done xs h1 h2 h3 ?_
        apply go2
        rw [hxs]
        unfold ir_L_names
        simp only [List.drop]
        (rw [evSs_consR]; generalize hRx : Pv.rest _ _ = Rx; simp [hz] <;> (subst hRx; first | rw [rest_nx] | (simp only [rest_rt, rest_bk, rest_ct, bind_someX, endD_rt]) | skip))
        have c3 := fun σ => case_c ldL spot size σ (by decide) (by decide) (by omega) (by omega)
        (rw [evSs_consR]; generalize hRx : Pv.rest _ _ = Rx; simp [rm, rng_len, hm16, wipeD, c3] <;> (subst hRx; first | rw [rest_nx] | (simp only [rest_rt, rest_bk, rest_ct, bind_someX, endD_rt]) | skip))
end K10

set_option Elab.async false
set_option linter.all false
set_option maxRecDepth 100000
set_option maxHeartbeats 4000000
namespace K10
open PySem L2 Pv
theorem text_ok (menu : List Nat) (hm8 : menu.length = 8) (hs : ∀ c ∈ menu, c ∈ sgnL) (h7 : menu[7]? ≠ some 45) (ds : List Int) (n : Nat) (hd : ds.length = n) (n1 : 1 ≤ n) (n30 : n ≤ 30) :
    ∃ x, F_L_text [.str menu, .lst (ds.map .int), .int (n : Nat)] = some (.str x) ∧ Lay n x ∧ x ≠ List.replicate n 45 := by
  have rn : okR (n : Int) = true := by unfold okR; simp; omega
  have l8 : menu.length ≤ 16777216 := by omega
  have ln : n ≤ 16777216 := by omega
  have pick8 : ∀ z : Int, atI menu (z.fmod 8) = some (pick menu z) ∧ pick menu z ∈ menu := fun z => pick_w (by rw [hm8]; rfl) (by decide) z
  have comp : ∀ σ : List Sl, getV σ 0 = some (.str menu) → getV σ 1 = some (.lst (ds.map .int)) → 5 < σ.length → lcL (.nm 5) (evE Z_L_text (.c (.bl true))) (evE Z_L_text (.ix (.v 0) (.bin .mod (.blt .int [.ix (.v 1) (.v 5)]) (.c (.int 8))))) σ (rngD 0 n) = some ((List.range n).map fun k => D.str [pick menu (ds[k]?.getD 0)]) := by
    intro σ s0 s1 sl
    refine lcL_rng (fun k => D.str [pick menu (ds[k]?.getD 0)]) fun k hk => ?_
    have q1 := atG ds k (by omega)
    rw [List.getD_eq_getElem?_getD] at q1
    have q2 := (pick8 (ds[k]?.getD 0)).1
    simp [getV_ne, getV_eq sl, s0, s1, q1, q2, l8]
  have jn : joinD (.str []) (.lst ((List.range n).map fun k => D.str [pick menu (ds[k]?.getD 0)])) = some (.str ((List.range n).map fun k => pick menu (ds[k]?.getD 0))) := join_signsC _ n (by omega)
  generalize ht : ((List.range n).map fun k => pick menu (ds[k]?.getD 0)) = t at jn
  have tl : t.length = n := by rw [← ht]; simp
  have ts : ∀ c ∈ t, c ∈ sgnL := by
    intro c hc
    rw [← ht] at hc
    obtain ⟨k, _, rfl⟩ := List.mem_map.mp hc
    exact hs _ (pick8 _).2
  have r1 : repOk 1 (n : Int) = true := by unfold repOk; simp; omega
  by_cases he : t = List.replicate n 45
  · obtain ⟨p0, p1⟩ := fmodp ds.sum (n : Int) (by omega)
    obtain ⟨a, ha⟩ : ∃ a : Nat, ds.sum.fmod (n : Int) = (a : Int) := ⟨(ds.sum.fmod (n : Int)).toNat, by omega⟩
    have han : a < n := by omega
    obtain ⟨m, hm⟩ : ∃ m, menu[7]? = some m := ⟨menu[7], List.getElem?_eq_getElem (by omega)⟩
    have m45 : m ≠ 45 := fun z => h7 (by rw [hm, z])
    have hm7 : atI menu 7 = some m := atI_of (by decide) hm
    have hmm : m ∈ sgnL := hs m (List.mem_of_getElem? hm)
    have n0 : ¬ n = 0 := by omega
    have tl16 : t.length ≤ 16777216 := by omega
    have c1 := cutS_to t a
    have c2 := cut_from t ((a : Int) + 1) (by omega)
    have e2 : ((a : Int) + 1).toNat = a + 1 := by omega
    rw [e2] at c2
    have la : min a n + 1 ≤ 16777216 := by omega
    have lb : min a n + 1 + (n - (a + 1)) ≤ 16777216 := by omega
    refine ⟨t.take a ++ [m] ++ t.drop (a + 1), ?_, ⟨?_, ?_⟩, ?_⟩
    · unfold F_L_text evF ir_L_text
      rw [if_pos (show [D.str menu, .lst (ds.map .int), .int (n : Nat)].length = 3 from rfl)]
      simp only [startD]
      (rw [evSs_consR]; generalize hRx : Pv.rest _ _ = Rx; simp [rn, rng_len, ln, wipeD, comp, jn, -joinD_lst] <;> (subst hRx; first | rw [rest_nx] | (simp only [rest_rt, rest_bk, rest_ct, bind_someX, endD_rt]) | skip))
      have tl45 : List.replicate n 45 = t := he.symm
      have lt16 : (List.replicate n 45).length ≤ 16777216 := by simp; omega
      (rw [evSs_consR]; generalize hRx : Pv.rest _ _ = Rx; simp [r1, tl45, allInts_map, bltD, n0, ha, slD, ln, tl, c1, c2, hm7, l8, la, lb] <;> (subst hRx; first | rw [rest_nx] | (simp only [rest_rt, rest_bk, rest_ct, bind_someX, endD_rt]) | skip))
      (rw [evSs_consR]; generalize hRx : Pv.rest _ _ = Rx; simp [] <;> (subst hRx; first | rw [rest_nx] | (simp only [rest_rt, rest_bk, rest_ct, bind_someX, endD_rt]) | skip))
    · simp [tl]; omega
    · intro c hc
      rcases List.mem_append.mp hc with hc | hc
      · rcases List.mem_append.mp hc with hc | hc
        · exact ts c (List.mem_of_mem_take hc)
        · have : c = m := by simpa using hc
          rw [this]; exact hmm
      · exact ts c (List.mem_of_mem_drop hc)
    · intro z
      have : m ∈ List.replicate n 45 := by rw [← z]; simp
      exact m45 (List.eq_of_mem_replicate this)
  · refine ⟨t, ?_, ⟨tl, ts⟩, he⟩
    unfold F_L_text evF ir_L_text
    rw [if_pos (show [D.str menu, .lst (ds.map .int), .int (n : Nat)].length = 3 from rfl)]
    simp only [startD]
    (rw [evSs_consR]; generalize hRx : Pv.rest _ _ = Rx; simp [rn, rng_len, ln, wipeD, comp, jn, -joinD_lst] <;> (subst hRx; first | rw [rest_nx] | (simp only [rest_rt, rest_bk, rest_ct, bind_someX, endD_rt]) | skip))
    (rw [evSs_consR]; generalize hRx : Pv.rest _ _ = Rx; simp [r1, he] <;> (subst hRx; first | rw [rest_nx] | (simp only [rest_rt, rest_bk, rest_ct, bind_someX, endD_rt]) | skip))
    (rw [evSs_consR]; generalize hRx : Pv.rest _ _ = Rx; simp [] <;> (subst hRx; first | rw [rest_nx] | (simp only [rest_rt, rest_bk, rest_ct, bind_someX, endD_rt]) | skip))
end K10

set_option Elab.async false
set_option linter.all false
set_option maxRecDepth 100000
set_option maxHeartbeats 4000000
namespace K10
open PySem L2 Pv
theorem list23 {ds : List Int} (h : ds.length = 23) : ∃ d0 d1 d2 d3 d4 d5 d6 d7 d8 d9 d10 d11 d12 d13 d14 d15 d16 d17 d18 d19 d20 d21 d22, ds = [d0, d1, d2, d3, d4, d5, d6, d7, d8, d9, d10, d11, d12, d13, d14, d15, d16, d17, d18, d19, d20, d21, d22] := by
  rcases ds with _ | ⟨d0, _ | ⟨d1, _ | ⟨d2, _ | ⟨d3, _ | ⟨d4, _ | ⟨d5, _ | ⟨d6, _ | ⟨d7, _ | ⟨d8, _ | ⟨d9, _ | ⟨d10, _ | ⟨d11, _ | ⟨d12, _ | ⟨d13, _ | ⟨d14, _ | ⟨d15, _ | ⟨d16, _ | ⟨d17, _ | ⟨d18, _ | ⟨d19, _ | ⟨d20, _ | ⟨d21, _ | ⟨d22, _ | ⟨dx, dr⟩⟩⟩⟩⟩⟩⟩⟩⟩⟩⟩⟩⟩⟩⟩⟩⟩⟩⟩⟩⟩⟩⟩⟩
  · simp at h
  · simp at h
  · simp at h
  · simp at h
  · simp at h
  · simp at h
  · simp at h
  · simp at h
  · simp at h
  · simp at h
  · simp at h
  · simp at h
  · simp at h
  · simp at h
  · simp at h
  · simp at h
  · simp at h
  · simp at h
  · simp at h
  · simp at h
  · simp at h
  · simp at h
  · simp at h
  · exact ⟨d0, d1, d2, d3, d4, d5, d6, d7, d8, d9, d10, d11, d12, d13, d14, d15, d16, d17, d18, d19, d20, d21, d22, rfl⟩
  · simp at h
def headS : List Int := [16, 16, 4, 27, 26, 25, 3, 2, 8, 6, 26, 36, 36, 36, 36, 36, 36, 36, 8, 25, 19, 8, 27]
/-- a menu as it should be -/
structure Men (m : List Nat) : Prop where
  len : m.length = 8
  sg : ∀ c ∈ m, c ∈ sgnL
  lst : m[7]? ≠ some 45
theorem mrk_not {c : Nat} (h : c ∈ mrkL) : c ≠ 45 := (mrk_sgn h).2
theorem men_of {xs : List Nat} {l : Nat} (h7 : xs.length = 7) (hs : ∀ c ∈ xs, c = 45 ∨ c ∈ mrkL) (hl : l ∈ mrkL) : Men (xs ++ [l]) := by
  refine ⟨by simp [h7], ?_, ?_⟩
  · intro c hc
    rcases List.mem_append.mp hc with hc | hc
    · rcases hs c hc with rfl | h
      · decide
      · exact (mrk_sgn h).1
    · have : c = l := by simpa using hc
      rw [this]; exact (mrk_sgn hl).1
  · rw [List.getElem?_append_right (by omega), h7]
    simp
    exact mrk_not hl
/-- the size, the number of stamps: out of the menu of numbers -/
theorem sizes_ok (x0 x19 : Int) (h0 : 0 ≤ x0 ∧ x0 < 16) (h : 0 ≤ x19 ∧ x19 < 25) : ∃ v : Int, atI [D.int 4, .int 5, .int 3, .int 4, .int 5, .int 2, .int 5, .int 4, .int 1, .int 3, .int 5, .int 4, .int 5, .int 3, .int (6 + x19), .int 30] x0 = some (.int v) ∧ 1 ≤ v ∧ v ≤ 30 := by
  have := atI_in (xs := [(4 : Int), 5, 3, 4, 5, 2, 5, 4, 1, 3, 5, 4, 5, 3, 6 + x19, 30]) h0.1 (by simp; omega)
  obtain ⟨v, hv, hm⟩ := this
  refine ⟨v, ?_, ?_⟩
  · have := atI_map D.int [(4 : Int), 5, 3, 4, 5, 2, 5, 4, 1, 3, 5, 4, 5, 3, 6 + x19, 30] x0
    rw [hv] at this
    simpa using this
  · simp at hm
    omega
theorem manys_ok (x0 x19 : Int) (h0 : 0 ≤ x0 ∧ x0 < 16) (h : 0 ≤ x19 ∧ x19 < 19) : ∃ v : Int, atI [D.int 4, .int 5, .int 3, .int 5, .int 4, .int 2, .int 5, .int 3, .int 1, .int 4, .int 5, .int 4, .int 3, .int 0, .int (6 + x19), .int 24] x0 = some (.int v) ∧ 0 ≤ v ∧ v ≤ 24 := by
  have := atI_in (xs := [(4 : Int), 5, 3, 5, 4, 2, 5, 3, 1, 4, 5, 4, 3, 0, 6 + x19, 24]) h0.1 (by simp; omega)
  obtain ⟨v, hv, hm⟩ := this
  refine ⟨v, ?_, ?_⟩
  · have := atI_map D.int [(4 : Int), 5, 3, 5, 4, 2, 5, 3, 1, 4, 5, 4, 3, 0, 6 + x19, 24] x0
    rw [hv] at this
    simpa using this
  · simp at hm
    omega
theorem menu_ok {a b c : Nat} (ha : a ∈ mrkL) (hb : b ∈ mrkL) (hc : c ∈ mrkL) (x : Int) (h : 0 ≤ x ∧ x < 4) : ∃ m, atI [D.str [45, 45, 45, 45, a, a, b, c], .str [45, 45, 45, 45, 45, a, b, c], .str [45, 45, 45, 45, 45, a, a, b], .str [45, 45, 45, 45, 45, 45, a, c]] x = some (.str m) ∧ Men m := by
  have := atI_in (xs := [[45, 45, 45, 45, a, a, b, c], [45, 45, 45, 45, 45, a, b, c], [45, 45, 45, 45, 45, a, a, b], [45, 45, 45, 45, 45, 45, a, c]]) h.1 (by simp; omega)
  obtain ⟨v, hv, hm⟩ := this
  refine ⟨v, ?_, ?_⟩
  · have := atI_map D.str [[45, 45, 45, 45, a, a, b, c], [45, 45, 45, 45, 45, a, b, c], [45, 45, 45, 45, 45, a, a, b], [45, 45, 45, 45, 45, 45, a, c]] x
    rw [hv] at this
    simpa using this
  · have g1 : Men ([45, 45, 45, 45, a, a, b] ++ [c]) := men_of rfl (by simp [ha, hb]) hc
    have g2 : Men ([45, 45, 45, 45, 45, a, b] ++ [c]) := men_of rfl (by simp [ha, hb]) hc
    have g3 : Men ([45, 45, 45, 45, 45, a, a] ++ [b]) := men_of rfl (by simp [ha, hb]) hb
    have g4 : Men ([45, 45, 45, 45, 45, 45, a] ++ [c]) := men_of rfl (by simp [ha, hb]) hc
    rcases List.mem_cons.mp hm with rfl | hm
    · exact g1
    rcases List.mem_cons.mp hm with rfl | hm
    · exact g2
    rcases List.mem_cons.mp hm with rfl | hm
    · exact g3
    rcases List.mem_cons.mp hm with rfl | hm
    · exact g4
    cases hm
end K10

set_option Elab.async false
set_option linter.all false
set_option maxRecDepth 100000
set_option maxHeartbeats 4000000
namespace K10
open PySem L2 Pv
/-- what stands after i turns -/
structure Acc (n : Nat) (xs : List (List Nat)) (i : Nat) (ps : List Pr) : Prop where
  fst : ps.map (fun p => p.1) = xs.take i
  lay : ∀ p ∈ ps, Lay n p.2
  full : ∀ p ∈ ps, p.2 ≠ List.replicate n 45
def prL (ps : List Pr) : List D := ps.map fun p => D.lst [.str p.1, .str p.2]
theorem men_drawn {a b c : Nat} (ha : a ∈ mrkL) (hb : b ∈ mrkL) (hc : c ∈ mrkL) : Men [45, 45, 45, 45, 45, a, b, c] := men_of (xs := [45, 45, 45, 45, 45, a, b]) rfl (by simp [ha, hb]) hc
def lotB : List S := [.ifs (.cmp .eq (.ix (.v 4) (.c (.int 21))) (.c (.int 0))) [.asg (.nm 10) (.bin .add (.c (.str [45, 45, 45, 45, 45])) (.join (.c (.str [])) (.lc [("_law_j", 14)] (.nm 14) (.r1 (.c (.int 3))) (.c (.bl true)) (.ix (.v 5) (.bin .mod (.blt .int [.bin .add (.bin .add (.ix (.v 4) (.c (.int 22))) (.bin .mul (.c (.int 3)) (.v 13))) (.v 14)]) (.c (.int 27)))))))] [], .app 12 (.lst [.ix (.v 11) (.v 13), .call 46 [.v 10, .call 43 [.call 42 [.v 0, .bin .add (.bin .add (.v 1) (.c (.int 1))) (.v 13)], .bin .mul (.lst [.c (.int 8)]) (.v 6)], .v 6]])]
theorem lot_turn (ns : List Int) (at' n many : Nat) (h3 : at' ≤ 500) (n1 : 1 ≤ n) (n30 : n ≤ 30) (hmany : many ≤ 24) (hd : List Int) (h23 : hd.length = 23) (xs : List (List Nat)) (hxs : xs.length = many) (i : Nat) (hi : i < many) (m : List Nat) (hm : Men m) (ps : List Pr) (hp : Acc n xs i ps) (A B C E : Sl) (E' : D) (z14 : Sl) :
    ∃ m' ps' z14', Men m' ∧ Acc n xs (i + 1) ps' ∧ evSs Z_L_lot lotB [.v (.scr ns), .v (.int (at' : Nat)), A, B, .v (.lst (hd.map .int)), .v (.str mrkL), .v (.int (n : Nat)), C, .v E', E, .v (.str m), .v (.lst (xs.map .str)), .o (.lst (prL ps)), .v (.int (i : Nat)), z14]
      = some (.nx [.v (.scr ns), .v (.int (at' : Nat)), A, B, .v (.lst (hd.map .int)), .v (.str mrkL), .v (.int (n : Nat)), C, .v E', E, .v (.str m'), .v (.lst (xs.map .str)), .o (.lst (prL ps')), .v (.int (i : Nat)), z14']) := by
  have f28 : Z_L_lot.F 42 = F_L_cell := id rfl
  have f29 : Z_L_lot.F 43 = F_L_digits := id rfl
  have f32 : Z_L_lot.F 46 = F_L_text := id rfl
  have e21 := atG hd 21 (by omega)
  have e22 := atG hd 22 (by omega)
  generalize hd.getD 21 0 = x21 at e21
  generalize hd.getD 22 0 = x22 at e22
  have e21' : atI (hd.map D.int) 21 = some (.int x21) := e21
  have e22' : atI (hd.map D.int) 22 = some (.int x22) := e22
  -- the text
  obtain ⟨z, hz⟩ := cell_ok ns (at' + 1 + i) (by omega)
  have hz' : F_L_cell [.scr ns, .int ((at' : Int) + 1 + (i : Int))] = some (.int z) := by
    have : ((at' + 1 + i : Nat) : Int) = (at' : Int) + 1 + (i : Int) := by omega
    rw [this] at hz; exact hz
  obtain ⟨ds, hds, hD⟩ := digits_ok z (List.replicate n 8) (by simp; omega) (by intro s hs; rw [List.eq_of_mem_replicate hs]; decide)
  have dl : ds.length = n := by rw [hD.len]; simp
  have hds' : F_L_digits [.int z, .lst (List.replicate n (.int 8))] = some (.lst (ds.map .int)) := by simpa using hds
  have r1 : repOk 1 (n : Int) = true := by unfold repOk; simp; omega
  have hx : atI (xs.map D.str) (i : Int) = some (.str (xs[i]'(by omega))) := by
    rw [atI_map, atI_nat (List.getElem?_eq_getElem (by omega : i < xs.length))]
    rfl
  have tk : xs.take (i + 1) = xs.take i ++ [xs[i]'(by omega)] := by rw [List.take_add_one, List.getElem?_eq_getElem (by omega : i < xs.length)]; rfl
  have pl : ps.length < 16777216 := by
    have := congrArg List.length hp.fst
    rw [List.length_map, List.length_take] at this
    omega
  have core : ∀ (m' : List Nat), Men m' → ∀ z14' : Sl, ∃ m'' ps' z14'', Men m'' ∧ Acc n xs (i + 1) ps' ∧ evSs Z_L_lot (lotB.drop 1) [.v (.scr ns), .v (.int (at' : Nat)), A, B, .v (.lst (hd.map .int)), .v (.str mrkL), .v (.int (n : Nat)), C, .v E', E, .v (.str m'), .v (.lst (xs.map .str)), .o (.lst (prL ps)), .v (.int (i : Nat)), z14']
      = some (.nx [.v (.scr ns), .v (.int (at' : Nat)), A, B, .v (.lst (hd.map .int)), .v (.str mrkL), .v (.int (n : Nat)), C, .v E', E, .v (.str m''), .v (.lst (xs.map .str)), .o (.lst (prL ps')), .v (.int (i : Nat)), z14'']) := by
    intro m' hm' z14'
    obtain ⟨x, hx1, hx2, hx3⟩ := text_ok m' hm'.len hm'.sg hm'.lst ds n dl n1 n30
    refine ⟨m', ps ++ [(xs[i]'(by omega), x)], z14', hm', ⟨?_, ?_, ?_⟩, ?_⟩
    · rw [List.map_append, hp.fst, tk]; rfl
    · intro p hp'
      rcases List.mem_append.mp hp' with hp' | hp'
      · exact hp.lay p hp'
      · have : p = (xs[i]'(by omega), x) := by simpa using hp'
        rw [this]; exact hx2
    · intro p hp'
      rcases List.mem_append.mp hp' with hp' | hp'
      · exact hp.full p hp'
      · have : p = (xs[i]'(by omega), x) := by simpa using hp'
        rw [this]; exact hx3
    · unfold lotB
      simp only [List.drop]
      (rw [evSs_consR]; generalize hRx : Pv.rest _ _ = Rx; simp [f28, f29, f32, hx, hz', r1, hds', hx1, prL, pl] <;> (subst hRx; first | rw [rest_nx] | (simp only [rest_rt, rest_bk, rest_ct, bind_someX, endD_rt]) | skip))
      simp
  by_cases h0 : x21 = 0
  · have w : ∀ k : Nat, k < 3 → mulOk 3 (i : Int) = true := fun _ _ => mulOk_of (a := 2) (b := 10) (by decide) (by omega) (by decide) (by decide) (by decide)
    have m3 := w 0 (by decide)
    have lm : mrkL.length ≤ 16777216 := by decide
    have comp : ∀ σ : List Sl, getV σ 4 = some (.lst (hd.map .int)) → getV σ 5 = some (.str mrkL) → getV σ 13 = some (.int (i : Nat)) → 14 < σ.length → lcL (.nm 14) (evE Z_L_lot (.c (.bl true))) (evE Z_L_lot (.ix (.v 5) (.bin .mod (.blt .int [.bin .add (.bin .add (.ix (.v 4) (.c (.int 22))) (.bin .mul (.c (.int 3)) (.v 13))) (.v 14)]) (.c (.int 27))))) σ (rngD 0 3) = some ((List.range 3).map fun k => D.str [pick mrkL (x22 + 3 * (i : Int) + (k : Nat))]) := by
      intro σ s4 s5 s13 sl
      refine lcL_rng (fun k => D.str [pick mrkL (x22 + 3 * (i : Int) + (k : Nat))]) fun k hk => ?_
      have q2 := (pick_w (menu := mrkL) (w := 27) (by decide) (by decide) (x22 + 3 * (i : Int) + (k : Nat))).1
      simp [getV_ne, getV_eq sl, s4, s5, s13, e22', m3, q2, lm]
    have jn : joinD (.str []) (.lst ((List.range 3).map fun k => D.str [pick mrkL (x22 + 3 * (i : Int) + (k : Nat))])) = some (.str ((List.range 3).map fun k : Nat => pick mrkL (x22 + 3 * (i : Int) + (k : Nat)))) := join_signsC (fun k => pick mrkL (x22 + 3 * (i : Int) + (k : Nat))) 3 (by decide)
    have rr : (List.range 3).map (fun k : Nat => pick mrkL (x22 + 3 * (i : Int) + (k : Nat))) = [pick mrkL (x22 + 3 * (i : Int) + (0 : Nat)), pick mrkL (x22 + 3 * (i : Int) + (1 : Nat)), pick mrkL (x22 + 3 * (i : Int) + (2 : Nat))] := rfl
    rw [rr] at jn
    have hmen : Men [45, 45, 45, 45, 45, pick mrkL (x22 + 3 * (i : Int) + (0 : Nat)), pick mrkL (x22 + 3 * (i : Int) + (1 : Nat)), pick mrkL (x22 + 3 * (i : Int) + (2 : Nat))] :=
      men_drawn (pick_at (menu := mrkL) (by decide) _).2 (pick_at (menu := mrkL) (by decide) _).2 (pick_at (menu := mrkL) (by decide) _).2
    generalize pick mrkL (x22 + 3 * (i : Int) + (0 : Nat)) = q0 at jn hmen
    generalize pick mrkL (x22 + 3 * (i : Int) + (1 : Nat)) = q1 at jn hmen
    generalize pick mrkL (x22 + 3 * (i : Int) + (2 : Nat)) = q2 at jn hmen
    obtain ⟨m'', ps', z14'', c1, c2, c3⟩ := core _ hmen z14
    refine ⟨m'', ps', z14'', c1, c2, ?_⟩
    refine Eq.trans ?_ c3
    have ok3 : okR 3 = true := by decide
    unfold lotB
    rw [evSs_consR]
    have : evS Z_L_lot (.ifs (.cmp .eq (.ix (.v 4) (.c (.int 21))) (.c (.int 0))) [.asg (.nm 10) (.bin .add (.c (.str [45, 45, 45, 45, 45])) (.join (.c (.str [])) (.lc [("_law_j", 14)] (.nm 14) (.r1 (.c (.int 3))) (.c (.bl true)) (.ix (.v 5) (.bin .mod (.blt .int [.bin .add (.bin .add (.ix (.v 4) (.c (.int 22))) (.bin .mul (.c (.int 3)) (.v 13))) (.v 14)]) (.c (.int 27)))))))] []) [.v (.scr ns), .v (.int (at' : Nat)), A, B, .v (.lst (hd.map .int)), .v (.str mrkL), .v (.int (n : Nat)), C, .v E', E, .v (.str m), .v (.lst (xs.map .str)), .o (.lst (prL ps)), .v (.int (i : Nat)), z14] = some (.nx [.v (.scr ns), .v (.int (at' : Nat)), A, B, .v (.lst (hd.map .int)), .v (.str mrkL), .v (.int (n : Nat)), C, .v E', E, .v (.str [45, 45, 45, 45, 45, q0, q1, q2]), .v (.lst (xs.map .str)), .o (.lst (prL ps)), .v (.int (i : Nat)), z14]) := by
      simp [e21', h0, ok3, rng_len, wipeD, comp, jn, -joinD_lst]
    rw [this, bind_someX, rest_nx]
    rfl
  · obtain ⟨m'', ps', z14'', c1, c2, c3⟩ := core m hm z14
    refine ⟨m'', ps', z14'', c1, c2, ?_⟩
    refine Eq.trans ?_ c3
    generalize hq : evSs Z_L_lot (lotB.drop 1) _ = q
    unfold lotB at hq ⊢
    (rw [evSs_consR]; generalize hRx : Pv.rest _ _ = Rx; simp [e21', h0] <;> (subst hRx; first | rw [rest_nx] | (simp only [rest_rt, rest_bk, rest_ct, bind_someX, endD_rt]) | skip))
    exact hq
end K10

set_option Elab.async false
set_option linter.all false
set_option maxRecDepth 100000
set_option maxHeartbeats 4000000
namespace K10
open PySem L2 Pv
theorem acc_len {n : Nat} {xs : List (List Nat)} {i : Nat} {ps : List Pr} (h : Acc n xs i ps) (hi : i ≤ xs.length) : ps.length = i := by
  have := congrArg List.length h.fst
  rw [List.length_map, List.length_take] at this
  omega
/-- the last stamp gets the first one's text -/
theorem acc_twin {n : Nat} {xs : List (List Nat)} {ps : List Pr} {many : Nat} (hm : xs.length = many) (h : Acc n xs many ps) (h1 : 1 < many) : ∃ p0 ps', ps[0]? = some p0 ∧ Acc n xs many ps' ∧ ∃ x, xs[many - 1]? = some x ∧ (prL ps).set (many - 1) (.lst [.str x, .str p0.2]) = prL ps' := by
  have pl := acc_len h (by omega)
  have h0 : 0 < ps.length := by omega
  obtain ⟨x, hx⟩ : ∃ x, xs[many - 1]? = some x := ⟨_, List.getElem?_eq_getElem (by omega)⟩
  have hk : ps[0]? = some ps[0] := by simp [h0]
  refine ⟨ps[0], ps.set (many - 1) (x, ps[0].2), hk, ⟨?_, ?_, ?_⟩, x, hx, ?_⟩
  · rw [List.map_set, h.fst, List.take_of_length_le (by omega)]
    apply List.ext_getElem?
    intro k
    rw [List.getElem?_set]
    split
    · rename_i e
      subst e
      rw [if_pos (by omega), hx]
    · rfl
  · intro p hp
    rcases List.mem_or_eq_of_mem_set hp with hp | rfl
    · exact h.lay p hp
    · exact h.lay ps[0] (List.getElem_mem h0)
  · intro p hp
    rcases List.mem_or_eq_of_mem_set hp with hp | rfl
    · exact h.full p hp
    · exact h.full ps[0] (List.getElem_mem h0)
  · unfold prL
    rw [List.map_set]
theorem lot_ok (ns : List Int) (at' upto wide : Nat) (h3 : at' ≤ 400) (hu : upto ≤ 24) (hw : 1 ≤ wide) (hw30 : wide ≤ 30) : ∃ n ps a b c, a ∈ mrkL ∧ b ∈ mrkL ∧ c ∈ mrkL ∧ [a, b, c].Nodup ∧ Lot n ps ∧ n ≤ wide ∧ ps.length ≤ upto ∧
    F_L_lot [.scr ns, .int (at' : Nat), .int (upto : Nat), .int (wide : Nat)] = some (.lst [.int (n : Nat), .str [a, b, c], LL ps]) := by
  have f28 : Z_L_lot.F 42 = F_L_cell := id rfl
  have f29 : Z_L_lot.F 43 = F_L_digits := id rfl
  have f30 : Z_L_lot.F 44 = F_L_inks := id rfl
  have f31 : Z_L_lot.F 45 = F_L_names := id rfl
  obtain ⟨z, hz⟩ := cell_ok ns at' (by omega)
  obtain ⟨hd, hds, hD⟩ := digits_ok z headS (by decide) (by decide)
  have h23 : hd.length = 23 := hD.len
  have hds' : F_L_digits [.int z, .lst [.int 16, .int 16, .int 4, .int 27, .int 26, .int 25, .int 3, .int 2, .int 8, .int 6, .int 26, .int 36, .int 36, .int 36, .int 36, .int 36, .int 36, .int 36, .int 8, .int 25, .int 19, .int 8, .int 27]] = some (.lst (hd.map .int)) := hds
  have dg : ∀ k s, headS[k]? = some s → atI (hd.map D.int) ((k : Nat) : Int) = some (.int (hd.getD k 0)) ∧ 0 ≤ hd.getD k 0 ∧ hd.getD k 0 < s := by
    intro k s hs
    obtain ⟨d, h1, h2, h3⟩ := hD.get hs
    have hk : k < hd.length := (List.getElem?_eq_some_iff.mp h1).1
    have e : hd.getD k 0 = d := by rw [List.getD_eq_getElem?_getD, h1]; rfl
    refine ⟨atG hd k hk, ?_, ?_⟩ <;> rw [e] <;> assumption
  obtain ⟨e0, p0, q0⟩ := dg 0 16 rfl
  obtain ⟨e1, p1, q1⟩ := dg 1 16 rfl
  obtain ⟨e2, p2, q2⟩ := dg 2 4 rfl
  obtain ⟨e3, p3, q3⟩ := dg 3 27 rfl
  obtain ⟨e4, p4, q4⟩ := dg 4 26 rfl
  obtain ⟨e5, p5, q5⟩ := dg 5 25 rfl
  obtain ⟨e6, p6, q6⟩ := dg 6 3 rfl
  obtain ⟨e7, p7, q7⟩ := dg 7 2 rfl
  obtain ⟨e8, p8, q8⟩ := dg 8 8 rfl
  obtain ⟨e19, p19, q19⟩ := dg 19 25 rfl
  obtain ⟨e20, p20, q20⟩ := dg 20 19 rfl
  have sl26 : cutD (hd.map D.int) (some 2) (some 6) = [.int (hd.getD 2 0), .int (hd.getD 3 0), .int (hd.getD 4 0), .int (hd.getD 5 0)] := by
    rw [cut_mid _ _ _ (by decide) (by decide)]
    obtain ⟨d0, d1, d2, d3, d4, d5, d6, d7, d8, d9, d10, d11, d12, d13, d14, d15, d16, d17, d18, d19, d20, d21, d22, rfl⟩ := list23 h23
    rfl
  have sl9 : cutD (hd.map D.int) (some 9) none = (hd.drop 9).map D.int := by
    rw [cut_from _ _ (by decide), List.map_drop]
    rfl
  obtain ⟨a, b, c, ha, hb, hc, nd, hink⟩ := inks_ok2 (hd.getD 2 0) (hd.getD 3 0) (hd.getD 4 0) (hd.getD 5 0) ⟨p3, q3⟩ ⟨p4, q4⟩ ⟨p5, q5⟩
  obtain ⟨v, hv, v1, v2⟩ := sizes_ok (hd.getD 0 0) (hd.getD 19 0) ⟨p0, q0⟩ ⟨p19, q19⟩
  obtain ⟨u, hu', u1, u2⟩ := manys_ok (hd.getD 1 0) (hd.getD 20 0) ⟨p1, q1⟩ ⟨p20, q20⟩
  obtain ⟨n, hn⟩ : ∃ n : Nat, (if v < (wide : Int) then v else (wide : Int)) = (n : Int) := ⟨(if v < (wide : Int) then v else (wide : Int)).toNat, by split <;> omega⟩
  obtain ⟨many, hmany⟩ : ∃ n : Nat, (if u < (upto : Int) then u else (upto : Int)) = (n : Int) := ⟨(if u < (upto : Int) then u else (upto : Int)).toNat, by split <;> omega⟩
  have n1 : 1 ≤ n := by split at hn <;> omega
  have n30 : n ≤ 30 := by split at hn <;> omega
  have nw : n ≤ wide := by split at hn <;> omega
  have m24 : many ≤ 24 := by split at hmany <;> omega
  have mu : many ≤ upto := by split at hmany <;> omega
  obtain ⟨xs, hx1, hx2, hx3, hx4⟩ := names_ok (hd.drop 9) (by rw [List.length_drop]; omega) many m24
  have hM : (97 : Nat) ∈ mrkL := by decide
  have mL : ([46, 97, 98, 99, 100, 101, 102, 103, 104, 105, 106, 107, 108, 109, 110, 111, 112, 113, 114, 115, 116, 117, 118, 119, 120, 121, 122] : List Nat) = mrkL := rfl
  -- the last ink
  obtain ⟨l, hl1, hl2⟩ : ∃ l, atI [a, b, c] (2 * hd.getD 7 0) = some l ∧ l ∈ mrkL := by
    have : hd.getD 7 0 = 0 ∨ hd.getD 7 0 = 1 := by omega
    rcases this with h | h
    · exact ⟨a, by rw [h]; exact atI_of (by decide) rfl, ha⟩
    · exact ⟨c, by rw [h]; exact atI_of (by decide) rfl, hc⟩
  have m27 : mulOk 2 (hd.getD 7 0) = true := mulOk_of (a := 2) (b := 2) (by decide) (by omega) (by decide) (by decide) (by decide)
  clear dg hds
  have len14 : (hd.drop 9).length ≤ 1000 := by rw [List.length_drop]; omega
  generalize hd.getD 0 0 = g0 at *
  generalize hd.getD 1 0 = g1 at *
  generalize hd.getD 2 0 = g2 at *
  generalize hd.getD 3 0 = g3 at *
  generalize hd.getD 4 0 = g4 at *
  generalize hd.getD 5 0 = g5 at *
  generalize hd.getD 6 0 = g6 at *
  generalize hd.getD 7 0 = g7 at *
  generalize hd.getD 8 0 = g8 at *
  generalize hd.getD 19 0 = g19 at *
  generalize hd.getD 20 0 = g20 at *
  have e0' : atI (hd.map D.int) 0 = some (.int g0) := e0
  have e1' : atI (hd.map D.int) 1 = some (.int g1) := e1
  have e6' : atI (hd.map D.int) 6 = some (.int g6) := e6
  have e7' : atI (hd.map D.int) 7 = some (.int g7) := e7
  have e8' : atI (hd.map D.int) 8 = some (.int g8) := e8
  have e19' : atI (hd.map D.int) 19 = some (.int g19) := e19
  have e20' : atI (hd.map D.int) 20 = some (.int g20) := e20
  have start : ∃ m, Men m ∧ ∀ r, (evSs Z_L_lot (ir_L_lot.drop 8) [.v (.scr ns), .v (.int (at' : Nat)), .v (.int (upto : Nat)), .v (.int (wide : Nat)), .v (.lst (hd.map .int)), .v (.str mrkL), .v (.int (n : Nat)), .v (.int (many : Nat)), .v (.str [a, b, c]), .v (.str [l]), .v (.str m), .v (.lst (xs.map .str)), .no, .no, .no]).bind endD = r → F_L_lot [.scr ns, .int (at' : Nat), .int (upto : Nat), .int (wide : Nat)] = r := by
    have m31 : mulOk 3 1 = true := by decide
    have m30 : mulOk 3 0 = true := by decide
    have ng : ¬ g6 < 0 := by omega
    have up : ∀ m, (evS Z_L_lot (ir_L_lot.getD 6 .pass) [.v (.scr ns), .v (.int (at' : Nat)), .v (.int (upto : Nat)), .v (.int (wide : Nat)), .v (.lst (hd.map .int)), .v (.str mrkL), .v (.int (n : Nat)), .v (.int (many : Nat)), .v (.str [a, b, c]), .v (.str [l]), .no, .no, .no, .no, .no] = some (.nx [.v (.scr ns), .v (.int (at' : Nat)), .v (.int (upto : Nat)), .v (.int (wide : Nat)), .v (.lst (hd.map .int)), .v (.str mrkL), .v (.int (n : Nat)), .v (.int (many : Nat)), .v (.str [a, b, c]), .v (.str [l]), .v (.str m), .no, .no, .no, .no])) → ∀ r, (evSs Z_L_lot (ir_L_lot.drop 8) [.v (.scr ns), .v (.int (at' : Nat)), .v (.int (upto : Nat)), .v (.int (wide : Nat)), .v (.lst (hd.map .int)), .v (.str mrkL), .v (.int (n : Nat)), .v (.int (many : Nat)), .v (.str [a, b, c]), .v (.str [l]), .v (.str m), .v (.lst (xs.map .str)), .no, .no, .no]).bind endD = r → F_L_lot [.scr ns, .int (at' : Nat), .int (upto : Nat), .int (wide : Nat)] = r := by
      intro m hm r hr
      unfold F_L_lot evF ir_L_lot
      rw [if_pos (show [D.scr ns, .int (at' : Nat), .int (upto : Nat), .int (wide : Nat)].length = 4 from rfl)]
      simp only [startD]
      (rw [evSs_consR]; generalize hRx : Pv.rest _ _ = Rx; simp [f28, f29, hz, List.replicate_succ, repOk, hds'] <;> (subst hRx; first | rw [rest_nx] | (simp only [rest_rt, rest_bk, rest_ct, bind_someX, endD_rt]) | skip))
      (rw [evSs_consR]; generalize hRx : Pv.rest _ _ = Rx; simp [mL] <;> (subst hRx; first | rw [rest_nx] | (simp only [rest_rt, rest_bk, rest_ct, bind_someX, endD_rt]) | skip))
      (rw [evSs_consR]; generalize hRx : Pv.rest _ _ = Rx; simp [e0', e19', hv, hn] <;> (subst hRx; first | rw [rest_nx] | (simp only [rest_rt, rest_bk, rest_ct, bind_someX, endD_rt]) | skip))
      (rw [evSs_consR]; generalize hRx : Pv.rest _ _ = Rx; simp [e1', e20', hu', hmany] <;> (subst hRx; first | rw [rest_nx] | (simp only [rest_rt, rest_bk, rest_ct, bind_someX, endD_rt]) | skip))
      (rw [evSs_consR]; generalize hRx : Pv.rest _ _ = Rx; simp [f30, slD, sl26, hink] <;> (subst hRx; first | rw [rest_nx] | (simp only [rest_rt, rest_bk, rest_ct, bind_someX, endD_rt]) | skip))
      (rw [evSs_consR]; generalize hRx : Pv.rest _ _ = Rx; simp [e7', hl1, m27] <;> (subst hRx; first | rw [rest_nx] | (simp only [rest_rt, rest_bk, rest_ct, bind_someX, endD_rt]) | skip))
      unfold ir_L_lot at hm
      simp only [List.getD_cons_succ, List.getD_cons_zero] at hm
      rw [evSs_consR, hm, bind_someX, rest_nx]
      have hx1' := hx1
      rw [List.map_drop] at hx1'
      (rw [evSs_consR]; generalize hRx : Pv.rest _ _ = Rx; simp [f31, slD, sl9, hx1'] <;> (subst hRx; first | rw [rest_nx] | (simp only [rest_rt, rest_bk, rest_ct, bind_someX, endD_rt]) | skip))
      exact hr
    by_cases h5 : 5 < n
    · obtain ⟨m, hm1, hm2⟩ := menu_ok ha hb hl2 3 (by decide)
      have h5' : (5 : Int) < n := by omega
      refine ⟨m, hm2, up m ?_⟩
      simp [ir_L_lot, e6', h5', m31, q6, hm1]
    · obtain ⟨m, hm1, hm2⟩ := menu_ok ha hb hl2 g6 (by omega)
      have h5' : ¬ (5 : Int) < n := by omega
      refine ⟨m, hm2, up m ?_⟩
      simp [ir_L_lot, e6', h5', m30, ng, hm1]
  obtain ⟨m, hmen, start⟩ := start
  have hr : okR (many : Int) = true := by unfold okR; simp; omega
  have fin : ∃ ps m' z13 z14, Men m' ∧ Acc n xs many ps ∧ forL (.nm 13) (evSs Z_L_lot lotB) (rngD 0 many) [.v (.scr ns), .v (.int (at' : Nat)), .v (.int (upto : Nat)), .v (.int (wide : Nat)), .v (.lst (hd.map .int)), .v (.str mrkL), .v (.int (n : Nat)), .v (.int (many : Nat)), .v (.str [a, b, c]), .v (.str [l]), .v (.str m), .v (.lst (xs.map .str)), .o (.lst []), .no, .no] = some (.nx [.v (.scr ns), .v (.int (at' : Nat)), .v (.int (upto : Nat)), .v (.int (wide : Nat)), .v (.lst (hd.map .int)), .v (.str mrkL), .v (.int (n : Nat)), .v (.int (many : Nat)), .v (.str [a, b, c]), .v (.str [l]), .v (.str m'), .v (.lst (xs.map .str)), .o (.lst (prL ps)), z13, z14]) := by
    obtain ⟨σ', h1, m', ps, z13, z14, rfl, h2, h4⟩ := forL_inv (t := .nm 13) (f := evSs Z_L_lot lotB) (ds := rngD 0 many) (k := 0) (σ := [.v (.scr ns), .v (.int (at' : Nat)), .v (.int (upto : Nat)), .v (.int (wide : Nat)), .v (.lst (hd.map .int)), .v (.str mrkL), .v (.int (n : Nat)), .v (.int (many : Nat)), .v (.str [a, b, c]), .v (.str [l]), .v (.str m), .v (.lst (xs.map .str)), .o (.lst []), .no, .no])
      (fun i σ => ∃ m' ps z13 z14, σ = [.v (.scr ns), .v (.int (at' : Nat)), .v (.int (upto : Nat)), .v (.int (wide : Nat)), .v (.lst (hd.map .int)), .v (.str mrkL), .v (.int (n : Nat)), .v (.int (many : Nat)), .v (.str [a, b, c]), .v (.str [l]), .v (.str m'), .v (.lst (xs.map .str)), .o (.lst (prL ps)), z13, z14] ∧ Men m' ∧ Acc n xs i ps)
      ⟨m, [], _, _, rfl, hmen, ⟨rfl, by simp, by simp⟩⟩ (by
        rintro i d σ hd' ⟨m', ps, z13, z14, rfl, h2, h4⟩
        have hi : i < many := by
          have := (List.getElem?_eq_some_iff.mp hd').1
          rw [rng_len] at this; exact this
        rw [rng_get _ _ _ hi] at hd'
        cases hd'
        rw [Nat.zero_add] at h4 ⊢
        obtain ⟨m'', ps', z14', k1, k2, k3⟩ := lot_turn ns at' n many (by omega) n1 n30 m24 hd h23 xs hx2 i hi m' h2 ps h4 (.v (.int (upto : Nat))) (.v (.int (wide : Nat))) (.v (.int (many : Nat))) (.v (.str [l])) (.str [a, b, c]) z14
        rw [Int.zero_add]
        exact ⟨_, _, rfl, .inl k3, _, _, _, _, rfl, k1, k2⟩)
    rw [rng_len, Nat.zero_add] at h4
    exact ⟨ps, m', z13, z14, h2, h4, h1⟩
  obtain ⟨ps, m', z13, z14, hm', hacc, hloop⟩ := fin
  have pl := acc_len hacc (by omega)
  have mkLot : ∀ ps : List Pr, Acc n xs many ps → Lot n ps := by
    intro ps hp
    have pl := acc_len hp (by omega)
    have hf := hp.fst
    rw [List.take_of_length_le (by omega)] at hf
    refine ⟨n1, n30, by omega, ?_, hp.lay, hp.full, ?_⟩
    · intro p hp'
      refine hx4 _ ?_
      rw [← hf]
      exact List.mem_map.mpr ⟨p, hp', rfl⟩
    · rw [hf]; exact hx3
  by_cases hc8 : g8 = 0 ∧ 1 < many
  · obtain ⟨c1, c2⟩ := hc8
    obtain ⟨p0, ps', k0, k1, x, k2, k3⟩ := acc_twin hx2 hacc c2
    have pl' := acc_len k1 (by omega)
    refine ⟨n, ps', a, b, c, ha, hb, hc, nd, mkLot _ k1, nw, by omega, start _ ?_⟩
    unfold ir_L_lot
    simp only [List.drop]
    have hm1 : ((many : Int) - 1).toNat = many - 1 := by omega
    have c2' : (1 : Int) < many := by omega
    have hxa : atI (xs.map D.str) ((many : Int) - 1) = some (.str x) := by
      rw [atI_map]
      have := atI_of (xs := xs) (i := (many : Int) - 1) (x := x) (by omega) (by rw [hm1]; exact k2)
      rw [this]; rfl
    have hp0 : atI (prL ps) 0 = some (.lst [.str p0.1, .str p0.2]) := by
      refine atI_of (by decide) ?_
      show (prL ps)[0]? = _
      unfold prL
      rw [List.getElem?_map, k0]; rfl
    have hix : ixN (prL ps).length ((many : Int) - 1) = some (many - 1) := by
      unfold prL ixN
      rw [List.length_map, if_pos (by omega), if_pos (by omega), hm1]
    (rw [evSs_consR]; generalize hRx : Pv.rest _ _ = Rx; simp [] <;> (subst hRx; first | rw [rest_nx] | (simp only [rest_rt, rest_bk, rest_ct, bind_someX, endD_rt]) | skip))
    have hb1 : evS Z_L_lot (.for_ (.nm 13) (.r1 (.v 7)) lotB) [.v (.scr ns), .v (.int (at' : Nat)), .v (.int (upto : Nat)), .v (.int (wide : Nat)), .v (.lst (hd.map .int)), .v (.str mrkL), .v (.int (n : Nat)), .v (.int (many : Nat)), .v (.str [a, b, c]), .v (.str [l]), .v (.str m), .v (.lst (xs.map .str)), .o (.lst []), .no, .no] = some (.nx [.v (.scr ns), .v (.int (at' : Nat)), .v (.int (upto : Nat)), .v (.int (wide : Nat)), .v (.lst (hd.map .int)), .v (.str mrkL), .v (.int (n : Nat)), .v (.int (many : Nat)), .v (.str [a, b, c]), .v (.str [l]), .v (.str m'), .v (.lst (xs.map .str)), .o (.lst (prL ps)), z13, z14]) := by
      simp [hr, hloop]
    unfold lotB at hb1
    rw [evSs_consR, hb1, bind_someX, rest_nx]
    (rw [evSs_consR]; generalize hRx : Pv.rest _ _ = Rx; simp [e8', c1, c2', hxa, hp0, hix, k3] <;> (subst hRx; first | rw [rest_nx] | (simp only [rest_rt, rest_bk, rest_ct, bind_someX, endD_rt]) | skip))
    (rw [evSs_consR]; generalize hRx : Pv.rest _ _ = Rx; simp [] <;> (subst hRx; first | rw [rest_nx] | (simp only [rest_rt, rest_bk, rest_ct, bind_someX, endD_rt]) | skip))
    (rw [evSs_consR]; generalize hRx : Pv.rest _ _ = Rx; simp [] <;> (subst hRx; first | rw [rest_nx] | (simp only [rest_rt, rest_bk, rest_ct, bind_someX, endD_rt]) | skip))
    rfl
  · refine ⟨n, ps, a, b, c, ha, hb, hc, nd, mkLot _ hacc, nw, by omega, start _ ?_⟩
    unfold ir_L_lot
    simp only [List.drop]
    (rw [evSs_consR]; generalize hRx : Pv.rest _ _ = Rx; simp [] <;> (subst hRx; first | rw [rest_nx] | (simp only [rest_rt, rest_bk, rest_ct, bind_someX, endD_rt]) | skip))
    have hb1 : evS Z_L_lot (.for_ (.nm 13) (.r1 (.v 7)) lotB) [.v (.scr ns), .v (.int (at' : Nat)), .v (.int (upto : Nat)), .v (.int (wide : Nat)), .v (.lst (hd.map .int)), .v (.str mrkL), .v (.int (n : Nat)), .v (.int (many : Nat)), .v (.str [a, b, c]), .v (.str [l]), .v (.str m), .v (.lst (xs.map .str)), .o (.lst []), .no, .no] = some (.nx [.v (.scr ns), .v (.int (at' : Nat)), .v (.int (upto : Nat)), .v (.int (wide : Nat)), .v (.lst (hd.map .int)), .v (.str mrkL), .v (.int (n : Nat)), .v (.int (many : Nat)), .v (.str [a, b, c]), .v (.str [l]), .v (.str m'), .v (.lst (xs.map .str)), .o (.lst (prL ps)), z13, z14]) := by
      simp [hr, hloop]
    unfold lotB at hb1
    rw [evSs_consR, hb1, bind_someX, rest_nx]
    have last : ∀ r, ((evSs Z_L_lot [.frz 12, .ret (.lst [.v 6, .v 8, .v 12])] [.v (.scr ns), .v (.int (at' : Nat)), .v (.int (upto : Nat)), .v (.int (wide : Nat)), .v (.lst (hd.map .int)), .v (.str mrkL), .v (.int (n : Nat)), .v (.int (many : Nat)), .v (.str [a, b, c]), .v (.str [l]), .v (.str m'), .v (.lst (xs.map .str)), .o (.lst (prL ps)), z13, z14]).bind endD = r) → r = some (.lst [.int (n : Nat), .str [a, b, c], LL ps]) := by
      intro r hr
      rw [← hr]
      (rw [evSs_consR]; generalize hRx : Pv.rest _ _ = Rx; simp [] <;> (subst hRx; first | rw [rest_nx] | (simp only [rest_rt, rest_bk, rest_ct, bind_someX, endD_rt]) | skip))
      (rw [evSs_consR]; generalize hRx : Pv.rest _ _ = Rx; simp [] <;> (subst hRx; first | rw [rest_nx] | (simp only [rest_rt, rest_bk, rest_ct, bind_someX, endD_rt]) | skip))
      rfl
    refine last _ ?_
    by_cases h8 : g8 = 0
    · have c2' : ¬ (1 : Int) < many := fun z => hc8 ⟨h8, by omega⟩
      symm
      (rw [evSs_consR]; generalize hRx : Pv.rest _ _ = Rx; simp [e8', h8, c2'] <;> (subst hRx; first | rw [rest_nx] | (simp only [rest_rt, rest_bk, rest_ct, bind_someX, endD_rt]) | skip))
      rfl
    · symm
      (rw [evSs_consR]; generalize hRx : Pv.rest _ _ = Rx; simp [e8', h8] <;> (subst hRx; first | rw [rest_nx] | (simp only [rest_rt, rest_bk, rest_ct, bind_someX, endD_rt]) | skip))
      rfl
end K10

set_option Elab.async false
set_option linter.all false
set_option maxRecDepth 100000
set_option maxHeartbeats 4000000
namespace K10
open PySem L2 Pv
theorem counts_ok (x : Int) (h : 0 ≤ x ∧ x < 8) : ∃ v : Nat, atI [D.int 3, .int 4, .int 5, .int 2, .int 6, .int 1, .int 7, .int 0] x = some (.int (v : Nat)) ∧ v ≤ 7 := by
  obtain ⟨v, hv, hm⟩ := atI_in (xs := [(3 : Nat), 4, 5, 2, 6, 1, 7, 0]) h.1 (by simp; omega)
  refine ⟨v, ?_, ?_⟩
  · have := atI_map (fun k : Nat => D.int (k : Nat)) [(3 : Nat), 4, 5, 2, 6, 1, 7, 0] x
    rw [hv] at this
    simpa using this
  · simp at hm
    omega
theorem numbers_ok (many : Nat) (hm : many ≤ 1000) (ds : List Int) (h9 : 9 ≤ ds.length) (h0 : 0 ≤ ds.getD 0 0 ∧ ds.getD 0 0 < 8) : ∃ ks : List Nat, F_L_numbers [.int (many : Nat), .lst (ds.map .int)] = some (.lst (ks.map fun k => .int (k : Nat))) ∧ (∀ k ∈ ks, k < many) ∧ ks.length ≤ 7 := by
  have e0 : atI (ds.map D.int) 0 = some (.int (ds.getD 0 0)) := atG ds 0 (by omega)
  have e1 : atI (ds.map D.int) 1 = some (.int (ds.getD 1 0)) := atG ds 1 (by omega)
  have e2 : atI (ds.map D.int) 2 = some (.int (ds.getD 2 0)) := atG ds 2 (by omega)
  obtain ⟨v, hv, hv7⟩ := counts_ok _ h0
  generalize ds.getD 0 0 = x0 at *
  generalize ds.getD 1 0 = x1 at *
  generalize ds.getD 2 0 = x2 at *
  by_cases hz : many = 0
  · subst hz
    refine ⟨[], ?_, by simp, by simp⟩
    have m0 : mulOk (v : Int) 0 = true := mulOk_of (a := 4) (b := 1) (by omega) (by decide) (by decide) (by decide) (by decide)
    have ok0 : okR 0 = true := by decide
    have r0 : rngD 0 0 = [] := rfl
    unfold F_L_numbers evF ir_L_numbers
    rw [if_pos (show [D.int ((0 : Nat) : Int), .lst (ds.map .int)].length = 2 from rfl)]
    simp only [startD]
    (rw [evSs_consR]; generalize hRx : Pv.rest _ _ = Rx; simp [e0, hv, m0] <;> (subst hRx; first | rw [rest_nx] | (simp only [rest_rt, rest_bk, rest_ct, bind_someX, endD_rt]) | skip))
    by_cases h1 : x1 = 0
    · (rw [evSs_consR]; generalize hRx : Pv.rest _ _ = Rx; simp [e1, h1, ok0, r0, lcL] <;> (subst hRx; first | rw [rest_nx] | (simp only [rest_rt, rest_bk, rest_ct, bind_someX, endD_rt]) | skip))
    · (rw [evSs_consR]; generalize hRx : Pv.rest _ _ = Rx; simp [e1, h1] <;> (subst hRx; first | rw [rest_nx] | (simp only [rest_rt, rest_bk, rest_ct, bind_someX, endD_rt]) | skip))
      (rw [evSs_consR]; generalize hRx : Pv.rest _ _ = Rx; simp [ok0, r0, lcL] <;> (subst hRx; first | rw [rest_nx] | (simp only [rest_rt, rest_bk, rest_ct, bind_someX, endD_rt]) | skip))
  · have m1 : mulOk (v : Int) 1 = true := mulOk_of (a := 4) (b := 1) (by omega) (by decide) (by decide) (by decide) (by decide)
    have okv : okR (v : Int) = true := by unfold okR; simp; omega
    have lv : v ≤ 16777216 := by omega
    have hz' : ¬ ((many : Int) = 0) := by omega
    have hpos : (0 : Int) < many := by omega
    have hposN : 0 < many := by omega
    have gOk : ∀ g : Nat → Int, (∀ k ∈ (List.range v).map (fun k => ((g k).fmod many).toNat), k < many) ∧ (((List.range v).map fun k => (g k).fmod many).map D.int = ((List.range v).map (fun k => ((g k).fmod many).toNat)).map fun k => D.int (k : Nat)) := by
      intro g
      constructor
      · intro k hk
        obtain ⟨j, _, rfl⟩ := List.mem_map.mp hk
        have := fmodp (g j) many (by omega)
        omega
      · rw [List.map_map, List.map_map]
        apply List.map_congr_left
        intro j _
        have := fmodp (g j) many (by omega)
        simp only [Function.comp, Int.toNat_of_nonneg this.1]
    by_cases h1 : x1 = 0
    · obtain ⟨q1, q2⟩ := gOk fun k => x2 + (k : Int)
      refine ⟨(List.range v).map (fun k : Nat => ((x2 + (k : Int)).fmod many).toNat), ?_, q1, by simp; omega⟩
      rw [← q2]
      have comp : ∀ σ : List Sl, getV σ 0 = some (.int (many : Nat)) → getV σ 1 = some (.lst (ds.map .int)) → 3 < σ.length → lcL (.nm 3) (evE Z_L_numbers (.c (.bl true))) (evE Z_L_numbers (.bin .mod (.blt .int [.bin .add (.ix (.v 1) (.c (.int 2))) (.v 3)]) (.v 0))) σ (rngD 0 v) = some (((List.range v).map fun k : Nat => (x2 + (k : Int)).fmod many).map D.int) := by
        intro σ s0 s1 sl
        refine lcL_ints (fun k => (x2 + (k : Int)).fmod many) fun k hk => ?_
        have := fmodp (x2 + (k : Int)) many (by omega)
        generalize hw : (x2 + (k : Int)).fmod many = w
        simp [getV_ne, getV_eq sl, s0, s1, e2, hz', hw]
        exact hz
      unfold F_L_numbers evF ir_L_numbers
      rw [if_pos (show [D.int (many : Int), .lst (ds.map .int)].length = 2 from rfl)]
      simp only [startD]
      (rw [evSs_consR]; generalize hRx : Pv.rest _ _ = Rx; simp [e0, hv, m1, hpos, hposN] <;> (subst hRx; first | rw [rest_nx] | (simp only [rest_rt, rest_bk, rest_ct, bind_someX, endD_rt]) | skip))
      (rw [evSs_consR]; generalize hRx : Pv.rest _ _ = Rx; simp [e1, h1, okv, rng_len, lv, wipeD, comp] <;> (subst hRx; first | rw [rest_nx] | (simp only [rest_rt, rest_bk, rest_ct, bind_someX, endD_rt]) | skip))
    · obtain ⟨q1, q2⟩ := gOk fun k => ds.getD (2 + k) 0
      refine ⟨(List.range v).map (fun k : Nat => ((ds.getD (2 + k) 0).fmod many).toNat), ?_, q1, by simp; omega⟩
      rw [← q2]
      have comp : ∀ σ : List Sl, getV σ 0 = some (.int (many : Nat)) → getV σ 1 = some (.lst (ds.map .int)) → 3 < σ.length → lcL (.nm 3) (evE Z_L_numbers (.c (.bl true))) (evE Z_L_numbers (.bin .mod (.blt .int [.ix (.v 1) (.bin .add (.c (.int 2)) (.v 3))]) (.v 0))) σ (rngD 0 v) = some (((List.range v).map fun k : Nat => (ds.getD (2 + k) 0).fmod many).map D.int) := by
        intro σ s0 s1 sl
        refine lcL_ints (fun k => (ds.getD (2 + k) 0).fmod many) fun k hk => ?_
        have q1 : atI (ds.map D.int) (2 + (k : Int)) = some (.int (ds.getD (2 + k) 0)) := by
          have := atG ds (2 + k) (by omega)
          rw [show ((2 + k : Nat) : Int) = 2 + (k : Int) by omega] at this
          exact this
        rw [List.getD_eq_getElem?_getD] at q1
        simp [getV_ne, getV_eq sl, s0, s1, q1, hz]
      unfold F_L_numbers evF ir_L_numbers
      rw [if_pos (show [D.int (many : Int), .lst (ds.map .int)].length = 2 from rfl)]
      simp only [startD]
      (rw [evSs_consR]; generalize hRx : Pv.rest _ _ = Rx; simp [e0, hv, m1, hpos, hposN] <;> (subst hRx; first | rw [rest_nx] | (simp only [rest_rt, rest_bk, rest_ct, bind_someX, endD_rt]) | skip))
      (rw [evSs_consR]; generalize hRx : Pv.rest _ _ = Rx; simp [e1, h1] <;> (subst hRx; first | rw [rest_nx] | (simp only [rest_rt, rest_bk, rest_ct, bind_someX, endD_rt]) | skip))
      (rw [evSs_consR]; generalize hRx : Pv.rest _ _ = Rx; simp [okv, rng_len, lv, wipeD, comp] <;> (subst hRx; first | rw [rest_nx] | (simp only [rest_rt, rest_bk, rest_ct, bind_someX, endD_rt]) | skip))
/-- dashes put in by number -/
theorem dashed_ok {n : Nat} {x : List Nat} (hx : Lay n x) (n30 : n ≤ 30) (ds : List Int) (hd : ds.length = n) (b : Bool) : ∃ y, F_L_dashed [.str x, .lst (ds.map .int), .bl b] = some (.str y) ∧ Lay n y := by
  obtain ⟨low, hlow⟩ : ∃ low : Int, atI [D.int 1, .int 3] (if b then 1 else 0) = some (.int low) := by
    cases b
    · exact ⟨1, by simp⟩
    · exact ⟨3, by simp⟩
  have hl := hx.len
  have hl16 : x.length ≤ 16777216 := by omega
  have n16 : n ≤ 16777216 := by omega
  have okn : okR (n : Int) = true := by unfold okR; simp; omega
  have comp : ∀ σ : List Sl, getV σ 0 = some (.str x) → getV σ 1 = some (.lst (ds.map .int)) → getV σ 3 = some (.int low) → 4 < σ.length → lcL (.nm 4) (evE Z_L_dashed (.c (.bl true))) (evE Z_L_dashed (.ix (.lst [.c (.str [45]), .ix (.v 0) (.v 4)]) (.blt .int [.cmp .ge (.bin .mod (.blt .int [.ix (.v 1) (.v 4)]) (.c (.int 6))) (.v 3)]))) σ (rngD 0 n) = some ((List.range n).map fun k => D.str [if low ≤ (ds[k]?.getD 0).fmod 6 then x[k]?.getD 0 else 45]) := by
    intro σ s0 s1 s3 sl
    refine lcL_rng (fun k => D.str [if low ≤ (ds[k]?.getD 0).fmod 6 then x[k]?.getD 0 else 45]) fun k hk => ?_
    have q1 := atG ds k (by omega)
    rw [List.getD_eq_getElem?_getD] at q1
    have q2 : atI x (k : Int) = some (x[k]?.getD 0) := by
      have hkx : k < x.length := by omega
      rw [atI_k hkx, List.getElem?_eq_getElem hkx]; rfl
    by_cases h : low ≤ (ds[k]?.getD 0).fmod 6
    · simp [getV_ne, getV_eq sl, s0, s1, s3, q1, q2, hl16, h]
    · simp [getV_ne, getV_eq sl, s0, s1, s3, q1, q2, hl16, h]
  have jn : joinD (.str []) (.lst ((List.range n).map fun k => D.str [if low ≤ (ds[k]?.getD 0).fmod 6 then x[k]?.getD 0 else 45])) = some (.str ((List.range n).map fun k => if low ≤ (ds[k]?.getD 0).fmod 6 then x[k]?.getD 0 else 45)) := join_signsC _ n (by omega)
  refine ⟨(List.range n).map fun k => if low ≤ (ds[k]?.getD 0).fmod 6 then x[k]?.getD 0 else 45, ?_, by simp, ?_⟩
  · unfold F_L_dashed evF ir_L_dashed
    rw [if_pos (show [D.str x, .lst (ds.map .int), .bl b].length = 3 from rfl)]
    simp only [startD]
    (rw [evSs_consR]; generalize hRx : Pv.rest _ _ = Rx; simp [hlow] <;> (subst hRx; first | rw [rest_nx] | (simp only [rest_rt, rest_bk, rest_ct, bind_someX, endD_rt]) | skip))
    (rw [evSs_consR]; generalize hRx : Pv.rest _ _ = Rx; simp [hl, n16, okn, rng_len, wipeD, comp, jn, -joinD_lst] <;> (subst hRx; first | rw [rest_nx] | (simp only [rest_rt, rest_bk, rest_ct, bind_someX, endD_rt]) | skip))
  · intro c hc
    obtain ⟨k, hk, rfl⟩ := List.mem_map.mp hc
    have hkx : k < x.length := by rw [hl]; exact List.mem_range.mp hk
    split
    · rw [List.getElem?_eq_getElem hkx]
      exact hx.sg _ (List.getElem_mem hkx)
    · decide
end K10

set_option Elab.async false
set_option linter.all false
set_option maxRecDepth 100000
set_option maxHeartbeats 4000000
namespace K10
open PySem L2 Pv
theorem mrk_nodup : mrkL.Nodup := by decide
theorem press_lay {n : Nat} {x y : List Nat} (hx : Lay n x) (hy : Lay n y) : Lay n (pressN x y) := by
  refine ⟨by rw [press_len x y (by rw [hx.len, hy.len]), hx.len], ?_⟩
  intro c hc
  unfold pressN at hc
  obtain ⟨i, hi, rfl⟩ := List.getElem_of_mem hc
  rw [List.getElem_zipWith]
  split
  · exact hx.sg _ (List.getElem_mem _)
  · exact hy.sg _ (List.getElem_mem _)
theorem free_lay {n : Nat} {x y : List Nat} (hx : Lay n x) (hy : Lay n y) : Lay n (freeN x y) := by
  refine ⟨by rw [free_len x y (by rw [hx.len, hy.len]), hx.len], ?_⟩
  intro c hc
  unfold freeN at hc
  obtain ⟨i, hi, rfl⟩ := List.getElem_of_mem hc
  rw [List.getElem_zipWith]
  split
  · exact hx.sg _ (List.getElem_mem _)
  · decide
theorem draw_lay {menu : List Nat} {ds : List Int} {n : Nat} (hw : menu.length = 4) (hn : n ≤ ds.length) (hm : ∀ c ∈ menu, c ∈ mrkL) : Lay n (drawN menu 4 ds n) :=
  ⟨by simp [drawN], fun c hc => (mrk_sgn (hm c (drawN_mem (w := 4) hw (by decide) hn c hc))).1⟩
def sceneS : List Int := [8, 8, 6, 6, 30, 3, 3, 24] ++ List.replicate 60 4
theorem scene_ok (ns : List Int) (at' : Nat) (h3 : at' ≤ 400) {n : Nat} {ps : List Pr} (hL : Lot n ps) {a b c : Nat} (ha : a ∈ mrkL) (hb : b ∈ mrkL) (hc : c ∈ mrkL) (nd : [a, b, c].Nodup) :
    ∃ (base shown : List Nat) (ks : List Nat), Lay n base ∧ Lay n shown ∧ (∀ k ∈ ks, k < ps.length) ∧ ks.length ≤ 7 ∧
      F_L_scene [.scr ns, .int (at' : Nat), .lst [.int (n : Nat), .str [a, b, c], LL ps]] = some (.lst [.str base, .str shown, .lst (ks.map fun k => .int (k : Nat))]) := by
  have f28 : Z_L_scene.F 42 = F_L_cell := id rfl
  have f29 : Z_L_scene.F 43 = F_L_digits := id rfl
  have f34 : Z_L_scene.F 48 = F_L_press := id rfl
  have f37 : Z_L_scene.F 51 = F_L_numbers := id rfl
  have f38 : Z_L_scene.F 52 = F_L_sheet := id rfl
  have f39 : Z_L_scene.F 53 = F_L_dashed := id rfl
  have n1 := hL.n1
  have n30 := hL.n30
  have many := hL.many
  obtain ⟨z, hz⟩ := cell_ok ns at' (by omega)
  obtain ⟨hd, hds, hD⟩ := digits_ok z sceneS (by decide) (by decide)
  have hlen : hd.length = 68 := hD.len
  have dg : ∀ k s, sceneS[k]? = some s → atI (hd.map D.int) ((k : Nat) : Int) = some (.int (hd.getD k 0)) ∧ 0 ≤ hd.getD k 0 ∧ hd.getD k 0 < s := by
    intro k s hs
    obtain ⟨d, h1, h2, h3⟩ := hD.get hs
    have hk : k < hd.length := (List.getElem?_eq_some_iff.mp h1).1
    have e : hd.getD k 0 = d := by rw [List.getD_eq_getElem?_getD, h1]; rfl
    refine ⟨atG hd k hk, ?_, ?_⟩ <;> rw [e] <;> assumption
  have hds' := hds
  simp [sceneS] at hds'
  obtain ⟨e0, p0, q0⟩ := dg 0 8 rfl
  obtain ⟨e1, p1, q1⟩ := dg 1 8 rfl
  obtain ⟨e2, p2, q2⟩ := dg 2 6 rfl
  obtain ⟨e3, p3, q3⟩ := dg 3 6 rfl
  obtain ⟨e4, p4, q4⟩ := dg 4 30 rfl
  obtain ⟨e5, p5, q5⟩ := dg 5 3 rfl
  obtain ⟨e6, p6, q6⟩ := dg 6 3 rfl
  obtain ⟨e7, p7, q7⟩ := dg 7 24 rfl
  have sl1 : cutD (hd.map D.int) (some 8) (some 38) = ((hd.drop 8).take 30).map D.int := by
    rw [cut_mid _ _ _ (by decide) (by decide), List.map_take, List.map_drop]
    rfl
  have sl2 : cutD (hd.map D.int) (some 38) none = (hd.drop 38).map D.int := by
    rw [cut_from _ _ (by decide), List.map_drop]
    rfl
  have l1 : n ≤ ((hd.drop 8).take 30).length := by rw [List.length_take, List.length_drop]; omega
  have l2 : n ≤ (hd.drop 38).length := by rw [List.length_drop]; omega
  -- numbers
  obtain ⟨y, hy⟩ := cell_ok ns (at' + 1) (by omega)
  obtain ⟨nd9, hnd9, hD9⟩ := digits_ok y ([8, 2] ++ List.replicate 7 60) (by decide) (by decide)
  have hy' : F_L_cell [.scr ns, .int ((at' : Int) + 1)] = some (.int y) := hy
  have hnd9' := hnd9
  simp at hnd9'
  have h09 : 0 ≤ nd9.getD 0 0 ∧ nd9.getD 0 0 < 8 := by
    obtain ⟨d, h1, h2, h3⟩ := hD9.get (k := 0) (s := 8) rfl
    rw [List.getD_eq_getElem?_getD, h1]; exact ⟨h2, h3⟩
  obtain ⟨ks, hks, hks1, hks2⟩ := numbers_ok ps.length (by omega) nd9 (by rw [hD9.len]; decide) h09
  -- the pool
  obtain ⟨d, hdI, hdM⟩ : ∃ d, atI ((mrkL.filter fun x => !decide (x ∈ [a, b, c])).map fun x => D.str [x]) (hd.getD 7 0) = some (.str [d]) ∧ d ∈ mrkL.filter fun x => !decide (x ∈ [a, b, c]) := by
    have hl := fil3 a b c mrkL mrk_nodup
    have h27 : mrkL.length = 27 := rfl
    obtain ⟨d, h1, h2⟩ := atI_in (xs := mrkL.filter fun x => !decide (x ∈ [a, b, c])) p7 (by omega)
    refine ⟨d, ?_, h2⟩
    rw [atI_map, h1]; rfl
  obtain ⟨hd1, hd2⟩ := List.mem_filter.mp hdM
  have ndP : [a, b, c, d].Nodup := by
    have : d ∉ [a, b, c] := by simpa using hd2
    simp only [List.nodup_cons, List.mem_cons, List.not_mem_nil, or_false, not_or] at nd this ⊢
    simp
    exact ⟨⟨nd.1.1, nd.1.2, fun z => this.1 z.symm⟩, ⟨nd.2.1, fun z => this.2.1 z.symm⟩, fun z => this.2.2 z.symm⟩
  clear dg hds
  have lsz : ps.length ≤ 16777216 := by omega
  generalize hd.getD 0 0 = g0 at *
  generalize hd.getD 1 0 = g1 at *
  generalize hd.getD 2 0 = g2 at *
  generalize hd.getD 3 0 = g3 at *
  generalize hd.getD 4 0 = g4 at *
  generalize hd.getD 5 0 = g5 at *
  generalize hd.getD 6 0 = g6 at *
  generalize hd.getD 7 0 = g7 at *
  have e0' : atI (hd.map D.int) 0 = some (.int g0) := e0
  have e1' : atI (hd.map D.int) 1 = some (.int g1) := e1
  have e2' : atI (hd.map D.int) 2 = some (.int g2) := e2
  have e3' : atI (hd.map D.int) 3 = some (.int g3) := e3
  have e4' : atI (hd.map D.int) 4 = some (.int g4) := e4
  have e5' : atI (hd.map D.int) 5 = some (.int g5) := e5
  have e6' : atI (hd.map D.int) 6 = some (.int g6) := e6
  have e7' : atI (hd.map D.int) 7 = some (.int g7) := e7
  have pool : ∀ σ : List Sl, getV σ 2 = some (.lst [.int (n : Nat), .str [a, b, c], LL ps]) → 13 < σ.length → lcL (.nm 13) (evE Z_L_scene (.cmp .notin (.v 13) (.ix (.v 2) (.c (.int 1))))) (evE Z_L_scene (.v 13)) σ (mrkL.map fun x => D.str [x]) = some ((mrkL.filter fun x => !decide (x ∈ [a, b, c])).map fun x => D.str [x]) := by
    intro σ s2 sl
    rw [lcL_of (fun x => D.str [x]) (fun x => !decide (x ∈ [a, b, c])) (fun x => D.str [x])]
    intro x _
    refine ⟨_, rfl, ?_, fun _ => ?_⟩
    · simp [getV_ne, getV_eq sl, s2]
    · simp [getV_eq sl]
  generalize hF : (mrkL.filter fun x => !decide (x ∈ [a, b, c])) = Fl at hdI hdM pool
  have mL : ([46, 97, 98, 99, 100, 101, 102, 103, 104, 105, 106, 107, 108, 109, 110, 111, 112, 113, 114, 115, 116, 117, 118, 119, 120, 121, 122] : List Nat) = mrkL := rfl
  have hmL : mrkL.length ≤ 16777216 := by decide
  have seqM : seqD (.str [46, 97, 98, 99, 100, 101, 102, 103, 104, 105, 106, 107, 108, 109, 110, 111, 112, 113, 114, 115, 116, 117, 118, 119, 120, 121, 122]) = some (mrkL.map fun x => D.str [x]) := rfl
  have lenM : (mrkL.map fun x => D.str [x]).length ≤ 16777216 := by decide
  have s3 : cutD [a, b, c, d] none (some 3) = [a, b, c] := by rw [cut_to _ _ (by decide)]; rfl
  obtain ⟨M, hM1, hM2, hM3⟩ : ∃ M, atI [D.str [a, a, b, c], .str [d, d, d, a], .str [d, d, d, b]] g6 = some (.str M) ∧ M.length = 4 ∧ ∀ x ∈ M, x ∈ mrkL := by
    obtain ⟨v, hv, hm⟩ := atI_in (xs := [[a, a, b, c], [d, d, d, a], [d, d, d, b]]) p6 (by simp; omega)
    refine ⟨v, ?_, ?_⟩
    · have := atI_map D.str [[a, a, b, c], [d, d, d, a], [d, d, d, b]] g6
      rw [hv] at this
      simpa using this
    · simp at hm
      rcases hm with rfl | rfl | rfl <;> simp [ha, hb, hc, hd1]
  have sh1 := sheet_ok hM2 l1 (by omega)
  have sh2 := sheet_ok hM2 l2 (by omega)
  have y1 := draw_lay hM2 l1 hM3
  have y2 := draw_lay hM2 l2 hM3
  generalize drawN M 4 ((hd.drop 8).take 30) n = b1 at sh1 y1
  generalize drawN M 4 (hd.drop 38) n = b2 at sh2 y2
  have start : ∀ r, (evSs Z_L_scene (ir_L_scene.drop 7) [.v (.scr ns), .v (.int (at' : Nat)), .v (.lst [.int (n : Nat), .str [a, b, c], LL ps]), .v (.int (n : Nat)), .v (.lst (hd.map .int)), .v (.lst (ks.map fun k => .int (k : Nat))), .v (.str [a, b, c, d]), .v (.str M), .v (.str b1), .v (.str b1), .no, .no, .no, .no]).bind endD = r → F_L_scene [.scr ns, .int (at' : Nat), .lst [.int (n : Nat), .str [a, b, c], LL ps]] = r := by
    intro r hr
    unfold F_L_scene evF ir_L_scene
    rw [if_pos (show [D.scr ns, .int (at' : Nat), .lst [.int (n : Nat), .str [a, b, c], LL ps]].length = 3 from rfl)]
    simp only [startD]
    have rp : repOk 1 60 = true := by decide
    have rp7 : repOk 1 7 = true := by decide
    have eL : bltD .len [LL ps] = some (.int ps.length) := by unfold LL; simp
    (rw [evSs_consR]; generalize hRx : Pv.rest _ _ = Rx; simp [] <;> (subst hRx; first | rw [rest_nx] | (simp only [rest_rt, rest_bk, rest_ct, bind_someX, endD_rt]) | skip))
    (rw [evSs_consR]; generalize hRx : Pv.rest _ _ = Rx; simp [f28, f29, hz, rp, hds'] <;> (subst hRx; first | rw [rest_nx] | (simp only [rest_rt, rest_bk, rest_ct, bind_someX, endD_rt]) | skip))
    (rw [evSs_consR]; generalize hRx : Pv.rest _ _ = Rx; simp [f28, f29, f37, hy', rp7, hnd9', eL, hks] <;> (subst hRx; first | rw [rest_nx] | (simp only [rest_rt, rest_bk, rest_ct, bind_someX, endD_rt]) | skip))
    (rw [evSs_consR]; generalize hRx : Pv.rest _ _ = Rx; simp [seqM, hmL, wipeD, pool, e7', hdI, -seq_str] <;> (subst hRx; first | rw [rest_nx] | (simp only [rest_rt, rest_bk, rest_ct, bind_someX, endD_rt]) | skip))
    (rw [evSs_consR]; generalize hRx : Pv.rest _ _ = Rx; simp [slD, s3, e6', hM1] <;> (subst hRx; first | rw [rest_nx] | (simp only [rest_rt, rest_bk, rest_ct, bind_someX, endD_rt]) | skip))
    rw [List.map_take, List.map_drop] at sl1 sh1
    (rw [evSs_consR]; generalize hRx : Pv.rest _ _ = Rx; simp [f38, slD, sl1, sh1] <;> (subst hRx; first | rw [rest_nx] | (simp only [rest_rt, rest_bk, rest_ct, bind_someX, endD_rt]) | skip))
    (rw [evSs_consR]; generalize hRx : Pv.rest _ _ = Rx; simp [] <;> (subst hRx; first | rw [rest_nx] | (simp only [rest_rt, rest_bk, rest_ct, bind_someX, endD_rt]) | skip))
    exact hr
  have sCN : ∀ (x y : List Nat), pressN x y = pressN x y := fun _ _ => rfl
  -- the states from here on
  let SC : List Nat → List Nat → Sl → Sl → Sl → Sl → List Sl := fun bs sh z10 z11 z12 z13 => [.v (.scr ns), .v (.int (at' : Nat)), .v (.lst [.int (n : Nat), .str [a, b, c], LL ps]), .v (.int (n : Nat)), .v (.lst (hd.map .int)), .v (.lst (ks.map fun k => .int (k : Nat))), .v (.str [a, b, c, d]), .v (.str M), .v (.str bs), .v (.str sh), z10, z11, z12, z13]
  have loop : ∃ sh z10, Lay n sh ∧ evS Z_L_scene (ir_L_scene.getD 7 .pass) (SC b1 b1 .no .no .no .no) = some (.nx (SC b1 sh z10 .no .no .no)) := by
    obtain ⟨σ', h1, sh, z10, rfl, h2⟩ := forL_inv (t := .nm 10) (f := evSs Z_L_scene [.asg (.nm 9) (.call 48 [.v 9, .ix (.ix (.ix (.v 2) (.c (.int 2))) (.v 10)) (.c (.int 1))])]) (ds := ks.map fun k => D.int (k : Nat)) (k := 0) (σ := SC b1 b1 .no .no .no .no)
      (fun i σ => ∃ sh z10, σ = SC b1 sh z10 .no .no .no ∧ Lay n sh) ⟨b1, _, rfl, y1⟩ (by
        rintro i dd σ hd' ⟨sh, z10, rfl, h2⟩
        rw [List.getElem?_map] at hd'
        obtain ⟨k, hk, rfl⟩ := mpd hd'
        have hk2 := hks1 k (List.mem_of_getElem? hk)
        have hp : ps[k]? = some (ps[k]'hk2) := by simp [hk2]
        have q1 : ixX (LL ps) (.int (k : Nat)) = some (.lst [.str (ps[k]'hk2).1, .str (ps[k]'hk2).2]) := by
          unfold LL
          rw [ixX_lst, ix_lst, atI_map (fun p : Pr => D.lst [.str p.1, .str p.2]), atI_nat hp]; rfl
        have q2 := hL.lay _ (List.getElem_mem hk2)
        have q3 := L_press_ok sh (ps[k]'hk2).2 (by rw [h2.len, q2.len]) (by rw [h2.len]; omega)
        refine ⟨_, SC b1 (pressN sh (ps[k]'hk2).2) (.v (.int (k : Nat))) .no .no .no, rfl, .inl ?_, _, _, rfl, press_lay h2 q2⟩
        simp [SC, f34, q1, q3])
    refine ⟨sh, z10, h2, ?_⟩
    have : evS Z_L_scene (ir_L_scene.getD 7 .pass) (SC b1 b1 .no .no .no .no) = forL (.nm 10) (evSs Z_L_scene [.asg (.nm 9) (.call 48 [.v 9, .ix (.ix (.ix (.v 2) (.c (.int 2))) (.v 10)) (.c (.int 1))])]) (ks.map fun k => D.int (k : Nat)) (SC b1 b1 .no .no .no .no) := by
      simp [ir_L_scene, SC]
    rw [this, h1]
  obtain ⟨w0, z10, yw0, loop⟩ := loop
  have if1 : ∃ sh z11 z12, Lay n sh ∧ evS Z_L_scene (ir_L_scene.getD 8 .pass) (SC b1 w0 z10 .no .no .no) = some (.nx (SC b1 sh z10 z11 z12 .no)) := by
    by_cases h : g0 < 2
    · obtain ⟨r0, r1⟩ := fmodp g4 n (by omega)
      obtain ⟨sp, hsp⟩ : ∃ sp : Nat, g4.fmod n = (sp : Int) := ⟨(g4.fmod n).toNat, by omega⟩
      have hspn : sp < n := by omega
      have hw0 : sp < w0.length := by rw [yw0.len]; exact hspn
      have at1 : atI w0 (sp : Int) = some w0[sp] := atI_k hw0
      have n0 : ¬ n = 0 := by omega
      have l0 : w0.length ≤ 16777216 := by rw [yw0.len]; omega
      have other : ∀ σ : List Sl, getV σ 9 = some (.str w0) → getV σ 11 = some (.int (sp : Nat)) → 13 < σ.length → lcL (.nm 13) (evE Z_L_scene (.cmp .ne (.v 13) (.ix (.v 9) (.v 11)))) (evE Z_L_scene (.v 13)) σ [.str [a], .str [b], .str [c], .str [d]] = some (([a, b, c, d].filter fun x => !(x == w0[sp])).map fun x => D.str [x]) := by
        intro σ s9 s11 sl
        have := lcL_of (t := .nm 13) (c := evE Z_L_scene (.cmp .ne (.v 13) (.ix (.v 9) (.v 11)))) (e := evE Z_L_scene (.v 13)) (σ := σ) (fun x => D.str [x]) (fun x => !(x == w0[sp])) (fun x => D.str [x]) [a, b, c, d] (by
          intro x _
          refine ⟨_, rfl, ?_, fun _ => ?_⟩
          · by_cases e : x = w0[sp]
            · simp [getV_ne, getV_eq sl, s9, s11, at1, l0, e]
            · simp [getV_ne, getV_eq sl, s9, s11, at1, l0, e]
          · simp [getV_eq sl])
        exact this
      obtain ⟨o, ho1, ho2⟩ : ∃ o, atI (([a, b, c, d].filter fun x => !(x == w0[sp])).map fun x => D.str [x]) g5 = some (.str [o]) ∧ o ∈ mrkL := by
        have hl := fil1 w0[sp] [a, b, c, d] ndP
        simp only [List.length_cons, List.length_nil] at hl
        obtain ⟨o, h1, h2⟩ := atI_in (xs := [a, b, c, d].filter fun x => !(x == w0[sp])) p5 (by omega)
        refine ⟨o, ?_, ?_⟩
        · rw [atI_map, h1]; rfl
        · have := (List.mem_filter.mp h2).1
          simp at this
          rcases this with rfl | rfl | rfl | rfl
          · exact ha
          · exact hb
          · exact hc
          · exact hd1
      generalize (([a, b, c, d].filter fun x => !(x == w0[sp])).map fun x => D.str [x]) = Fo at other ho1
      have c1 := cutS_to w0 sp
      have c2 := cut_from w0 ((sp : Int) + 1) (by omega)
      have e2 : ((sp : Int) + 1).toNat = sp + 1 := by omega
      rw [e2] at c2
      have la : min sp n + 1 ≤ 16777216 := by omega
      have lb : min sp n + 1 + (n - (sp + 1)) ≤ 16777216 := by omega
      refine ⟨w0.take sp ++ [o] ++ w0.drop (sp + 1), .v (.int (sp : Nat)), .v (.str [o]), ⟨?_, ?_⟩, ?_⟩
      · simp [yw0.len]; omega
      · intro x hx
        rcases List.mem_append.mp hx with hx | hx
        · rcases List.mem_append.mp hx with hx | hx
          · exact yw0.sg x (List.mem_of_mem_take hx)
          · have : x = o := by simpa using hx
            rw [this]; exact (mrk_sgn ho2).1
        · exact yw0.sg x (List.mem_of_mem_drop hx)
      · simp [ir_L_scene, SC, e0', h, e4', n0, hsp, wipeD, other, e5', ho1, slD, yw0.len, (show n ≤ 16777216 by omega), c1, c2, la, lb]
    · refine ⟨w0, .no, .no, yw0, ?_⟩
      simp [ir_L_scene, SC, e0', h]
  obtain ⟨w1, z11, z12, yw1, if1⟩ := if1
  have if2 : ∃ bs, Lay n bs ∧ evS Z_L_scene (ir_L_scene.getD 9 .pass) (SC b1 w1 z10 z11 z12 .no) = some (.nx (SC bs w1 z10 z11 z12 .no)) := by
    by_cases h : g1 < 2
    · refine ⟨b2, y2, ?_⟩
      rw [List.map_drop] at sl2 sh2
      simp [ir_L_scene, SC, e1', h, f38, slD, sl2, sh2]
    · refine ⟨b1, y1, ?_⟩
      simp [ir_L_scene, SC, e1', h]
  obtain ⟨bs, ybs, if2⟩ := if2
  have r1 : repOk 1 (n : Int) = true := by unfold repOk; simp; omega
  have dash : ∀ (x : List Nat) (bb : Bool) (j : Nat), Lay n x → j ≤ 10 → ∃ y dd, F_L_cell [.scr ns, .int ((at' : Int) + (j : Nat))] = some (.int dd) ∧ ∃ ds : List Int, F_L_digits [.int dd, .lst (List.replicate n (.int 6))] = some (.lst (ds.map .int)) ∧ F_L_dashed [.str x, .lst (ds.map .int), .bl bb] = some (.str y) ∧ Lay n y := by
    intro x bb j hx hj
    obtain ⟨dd, h1⟩ := cell_ok ns (at' + j) (by omega)
    obtain ⟨ds, h2, hD⟩ := digits_ok dd (List.replicate n 6) (by simp; omega) (by intro s hs; rw [List.eq_of_mem_replicate hs]; decide)
    obtain ⟨y, h4, h5⟩ := dashed_ok hx n30 ds (by rw [hD.len]; simp) bb
    exact ⟨y, dd, by rw [← h1]; congr 1, ds, by simpa using h2, h4, h5⟩
  have if3 : ∃ sh, Lay n sh ∧ evS Z_L_scene (ir_L_scene.getD 10 .pass) (SC bs w1 z10 z11 z12 .no) = some (.nx (SC bs sh z10 z11 z12 .no)) := by
    by_cases h : g2 < 2
    · obtain ⟨y, dd, k1, ds, k2, k3, k4⟩ := dash w1 (decide (g2 = 0)) 2 yw1 (by decide)
      have k1' : F_L_cell [.scr ns, .int ((at' : Int) + 2)] = some (.int dd) := k1
      refine ⟨y, k4, ?_⟩
      simp [ir_L_scene, SC, e2', h, f28, f29, f39, k1', r1, k2, k3]
    · refine ⟨w1, yw1, ?_⟩
      simp [ir_L_scene, SC, e2', h]
  obtain ⟨w2, yw2, if3⟩ := if3
  have if4 : ∃ bs', Lay n bs' ∧ evS Z_L_scene (ir_L_scene.getD 11 .pass) (SC bs w2 z10 z11 z12 .no) = some (.nx (SC bs' w2 z10 z11 z12 .no)) := by
    by_cases h : g3 < 2
    · obtain ⟨y, dd, k1, ds, k2, k3, k4⟩ := dash bs (decide (g3 = 0)) 3 ybs (by decide)
      have k1' : F_L_cell [.scr ns, .int ((at' : Int) + 3)] = some (.int dd) := k1
      refine ⟨y, k4, ?_⟩
      simp [ir_L_scene, SC, e3', h, f28, f29, f39, k1', r1, k2, k3]
    · refine ⟨bs, ybs, ?_⟩
      simp [ir_L_scene, SC, e3', h]
  obtain ⟨bs', ybs', if4⟩ := if4
  refine ⟨bs', w2, ks, ybs', yw2, hks1, hks2, start _ ?_⟩
  have spl : ir_L_scene.drop 7 = [ir_L_scene.getD 7 .pass, ir_L_scene.getD 8 .pass, ir_L_scene.getD 9 .pass, ir_L_scene.getD 10 .pass, ir_L_scene.getD 11 .pass, .ret (.lst [.v 8, .v 9, .v 5])] := rfl
  rw [spl]
  show (evSs Z_L_scene _ (SC b1 b1 .no .no .no .no)).bind endD = _
  rw [evSs_consR, loop, bind_someX, rest_nx, evSs_consR, if1, bind_someX, rest_nx, evSs_consR, if2, bind_someX, rest_nx, evSs_consR, if3, bind_someX, rest_nx, evSs_consR, if4, bind_someX, rest_nx]
  (rw [evSs_consR]; generalize hRx : Pv.rest _ _ = Rx; simp [SC] <;> (subst hRx; first | rw [rest_nx] | (simp only [rest_rt, rest_bk, rest_ct, bind_someX, endD_rt]) | skip))
end K10

set_option Elab.async false
set_option linter.all false
set_option maxRecDepth 100000
set_option maxHeartbeats 4000000
namespace K10
open PySem L2 Pv

/-! ### values: shows, the sets tried -/
theorem shows_ok {ps : List Pr} {n : Nat} (hL : Lot n ps) {b l o r : List Nat} (h : Peel ps l o r) (hl : Lay n l) (hb : Lay n b) (ho : o.length ≤ ps.length) : F_L_shows [LL ps, .str b, .str l, mak ps b o r] = some (.bl true) := by
  have f64 : Z_L_shows.F 64 = F_L_leads := id rfl
  have f65 : Z_L_shows.F 65 = F_L_barred := id rfl
  have m1 : ((("Making" : Str), ("made" : Str)) ∈ Z_L_shows.L) := by simp [Z_L_shows]
  unfold F_L_shows evF ir_L_shows
  rw [if_pos (show [LL ps, D.str b, .str l, mak ps b o r].length = 4 from rfl)]
  cases hc : clashN b r with
  | none =>
    have a1 := leads_ok hL h hl hb ho hc
    have e : mak ps b o r = .ins "Making" makF [.bl true, .tup (o.reverse.map fun i => D.str (nm ps i)), .tup [], .non] := by unfold mak; rw [hc]
    rw [e]
    generalize (o.reverse.map fun i => D.str (nm ps i)) = row at *
    simp [startD, mk_made, m1, isi1, isIns, f64, a1]
  | some c =>
    have a1 := barred_ok hL h hl hb ho hc
    have e : mak ps b o r = .ins "Making" makF [.bl false, .non, .tup (NI (cellsN r)), .int ((c : Nat) : Int)] := by unfold mak; rw [hc]
    rw [e]
    generalize NI (cellsN r) = row at *
    simp [startD, mk_made, m1, isi1, isIns, f65, a1]
abbrev dL (X : List (List Nat)) : List D := X.map fun S => D.lst (NI S)
def subsN (X : List (List Nat)) (C : List Nat) : List (List Nat) := C.foldl (fun X c => X ++ X.map fun S => S ++ [c]) X
theorem subsN_cons (X : List (List Nat)) (c : Nat) (C : List Nat) : subsN X (c :: C) = subsN (X ++ X.map fun S => S ++ [c]) C := rfl
theorem subs_loop (A : Sl) : ∀ (C : List Nat) (X : List (List Nat)) (m : Nat) (z : Sl), X.length * 2 ^ C.length ≤ 1000 → (∀ S ∈ X, S.length + C.length ≤ 1000) →
    ∃ z', forL (.nm 2) (evSs Z_L_subsets [.asg (.nm 1) (.bin .add (.v 1) (.lc [("_law_some", 3)] (.nm 3) (.seq (.v 1)) (.c (.bl true)) (.bin .add (.v 3) (.lst [.v 2]))))]) (NI C) [A, .v (.lst (dL X)), z, .no] = some (.nx [A, .v (.lst (dL (subsN X C))), z', .no])
  | [], X, m, z, _, _ => ⟨z, by simp [subsN]⟩
  | c :: C, X, m, z, h1, h2 => by
    have hX : X.length * 2 ≤ 1000 := by
      have : X.length * 2 ≤ X.length * 2 ^ (C.length + 1) := Nat.mul_le_mul_left _ (by rw [Nat.pow_succ]; have := Nat.one_le_two_pow (n := C.length); omega)
      simp only [List.length_cons] at h1
      omega
    have lim : X.length ≤ 16777216 := by omega
    obtain ⟨z', ih⟩ := subs_loop A C (X ++ X.map fun S => S ++ [c]) m (.v (.int ((c : Nat) : Int))) (by
      rw [List.length_append, List.length_map]
      simp only [List.length_cons, Nat.pow_succ] at h1
      have : (X.length + X.length) * 2 ^ C.length = X.length * (2 ^ C.length * 2) := by
        rw [← Nat.mul_two, Nat.mul_assoc, Nat.mul_comm 2]
      omega) (fun S hS => by
      rcases List.mem_append.mp hS with h | h
      · have := h2 S h; simp only [List.length_cons] at this; omega
      · obtain ⟨S', hS', rfl⟩ := List.mem_map.mp h
        have := h2 S' hS'
        simp only [List.length_cons, List.length_append, List.length_nil] at this ⊢
        omega)
    refine ⟨z', ?_⟩
    have comp : lcL (.nm 3) (evE Z_L_subsets (.c (.bl true))) (evE Z_L_subsets (.bin .add (.v 3) (.lst [.v 2]))) [A, .v (.lst (dL X)), .v (.int ((c : Nat) : Int)), .no] (dL X) = some (dL (X.map fun S => S ++ [c])) := by
      rw [lcL_of (fun S : List Nat => D.lst (NI S)) (fun _ => true) (fun S => D.lst (NI (S ++ [c])))]
      · rw [List.filter_eq_self.mpr (by simp)]
        simp [List.map_map]
      · intro S hS
        have := h2 S hS
        simp only [List.length_cons] at this
        have l1 : S.length + 1 ≤ 16777216 := by omega
        refine ⟨_, rfl, rfl, fun _ => ?_⟩
        simp [binD, l1]
    have st : setT (.nm 2) (.int ((c : Nat) : Int)) [A, .v (.lst (dL X)), z, .no] = some [A, .v (.lst (dL X)), .v (.int ((c : Nat) : Int)), .no] := by simp
    have l2 : X.length + X.length ≤ 16777216 := by omega
    have step : evSs Z_L_subsets [.asg (.nm 1) (.bin .add (.v 1) (.lc [("_law_some", 3)] (.nm 3) (.seq (.v 1)) (.c (.bl true)) (.bin .add (.v 3) (.lst [.v 2]))))] [A, .v (.lst (dL X)), .v (.int ((c : Nat) : Int)), .no] =
        some (.nx [A, .v (.lst (dL (X ++ X.map fun S => S ++ [c]))), .v (.int ((c : Nat) : Int)), .no]) := by
      generalize hY : dL (X ++ X.map fun S => S ++ [c]) = Y
      simp [lim, wipeD]
      rw [comp]
      simp [binD, l2]
      rw [← hY]
      simp [dL]
    have e0 : NI (c :: C) = D.int ((c : Nat) : Int) :: NI C := rfl
    rw [e0, forL_cons, st, bind_someX, step, bind_someX, turnO_nx, ih]
    rfl
theorem subs_in : ∀ (C : List Nat) (X : List (List Nat)) (B : List Nat) (m : Nat), (∀ S ∈ X, (∀ k ∈ S, k ∈ B) ∧ S.length ≤ m) → (∀ c ∈ C, c ∈ B) → ∀ S ∈ subsN X C, (∀ k ∈ S, k ∈ B) ∧ S.length ≤ m + C.length
  | [], X, B, m, h, _ => fun S hS => h S hS
  | c :: C, X, B, m, h, hc => by
    rw [subsN_cons]
    intro S hS
    have ih := subs_in C _ B (m + 1) (fun S hS => by
      rcases List.mem_append.mp hS with z | z
      · exact ⟨(h S z).1, by have := (h S z).2; omega⟩
      · obtain ⟨S', hS', rfl⟩ := List.mem_map.mp z
        refine ⟨fun k hk => ?_, by have := (h S' hS').2; simp; omega⟩
        rcases List.mem_append.mp hk with y | y
        · exact (h S' hS').1 k y
        · rw [List.mem_singleton.mp y]; exact hc c List.mem_cons_self) (fun c' h' => hc c' (List.mem_cons_of_mem _ h')) S hS
    refine ⟨ih.1, ?_⟩
    have := ih.2
    simp only [List.length_cons]
    omega
theorem subs_len : ∀ (C : List Nat) (X : List (List Nat)), (subsN X C).length = X.length * 2 ^ C.length
  | [], X => by simp [subsN]
  | c :: C, X => by
    rw [subsN_cons, subs_len C]
    simp only [List.length_append, List.length_map, List.length_cons, Nat.pow_succ]
    rw [← Nat.mul_two, Nat.mul_assoc, Nat.mul_comm 2]
theorem subsets_ok (C : List Nat) (h : C.length ≤ 5) : ∃ X, F_L_subsets [.lst (NI C)] = some (.lst (dL X)) ∧ X.length ≤ 32 ∧ ∀ S ∈ X, (∀ k ∈ S, k ∈ C) ∧ S.length ≤ 5 := by
  have p32 : 2 ^ C.length ≤ 2 ^ 5 := Nat.pow_le_pow_right (by decide) h
  obtain ⟨z', key⟩ := subs_loop (.v (.lst (NI C))) C [[]] 0 .no (by simp; omega) (by simp; omega)
  refine ⟨subsN [[]] C, ?_, by rw [subs_len]; simp; omega, fun S hS => ?_⟩
  · unfold F_L_subsets evF ir_L_subsets
    rw [if_pos (show [D.lst (NI C)].length = 1 from rfl)]
    simp [startD]
    have e : (D.lst [D.lst []]) = .lst (dL [[]]) := rfl
    rw [e, key]
    simp
  · have := subs_in C [[]] C 0 (by simp) (fun c h => h) S hS
    exact ⟨this.1, by omega⟩
theorem nodup_len : ∀ (sp l : List Nat), l.Nodup → (∀ k ∈ l, k ∈ sp) → l.length ≤ sp.length
  | [], l, _, h => by
    cases l with
    | nil => simp
    | cons a l => exact absurd (h a List.mem_cons_self) (by simp)
  | a :: sp, l, hd, h => by
    have h1 := fil1 a l hd
    have h2 := nodup_len sp (l.filter fun x => !(x == a)) (hd.filter _) (fun k hk => by
      obtain ⟨h3, h4⟩ := List.mem_filter.mp hk
      rcases List.mem_cons.mp (h k h3) with z | z
      · subst z; simp at h4
      · exact z)
    simp only [List.length_cons]
    omega
end K10

set_option Elab.async false
set_option linter.all false
set_option maxRecDepth 100000
set_option maxHeartbeats 4000000
namespace K10
open PySem L2 Pv

/-! ### values: tried, judged, told -/
theorem tried_ok (ns : List Int) (n : Nat) (n1 : 1 ≤ n) (n30 : n ≤ 30) (K : List Nat) (hK : ∀ k ∈ K, k < n) (hK30 : K.length ≤ 30) : ∃ X, F_L_tried [.scr ns, .int (n : Nat), .lst (NI K)] = some (.lst (dL X)) ∧ X.length ≤ 100 ∧ ∀ S ∈ X, (∀ k ∈ S, k < n) ∧ S.length ≤ 30 := by
  have f42 : Z_L_tried.F 42 = F_L_cell := id rfl
  have f43 : Z_L_tried.F 43 = F_L_digits := id rfl
  have f59 : Z_L_tried.F 59 = F_L_subsets := id rfl
  have okn : okR (n : Int) = true := by unfold okR; simp; omega
  have lim : n ≤ 16777216 := by omega
  by_cases h5 : n ≤ 5
  · obtain ⟨X, x1, x2, x3⟩ := subsets_ok (List.range n) (by simpa using h5)
    refine ⟨X, ?_, by omega, fun S hS => ⟨fun k hk => List.mem_range.mp ((x3 S hS).1 k hk), by have := (x3 S hS).2; omega⟩⟩
    have h5' : ((n : Nat) : Int) ≤ 5 := by omega
    have comp : ∀ A B C E F G : Sl, lcL (.nm 5) (evE Z_L_tried (.c (.bl true))) (evE Z_L_tried (.v 5)) [A, B, C, E, F, G] (rngD 0 n) = some (NI (List.range n)) := by
      intro A B C E F G
      rw [lcL_rng (g := fun k => D.int ((k : Nat) : Int))]
      intro k hk
      exact ⟨rfl, by simp⟩
    unfold F_L_tried evF ir_L_tried
    rw [if_pos (show [D.scr ns, .int (n : Nat), .lst (NI K)].length = 3 from rfl)]
    generalize hq : some (D.lst (dL X)) = qq at *
    simp [startD, h5, h5', okn, rng_len, lim, wipeD]
    rw [comp]
    simp [f59]
    rw [show (D.lst (List.map (fun k : Nat => D.int ((k : Nat) : Int)) (List.range n))) = .lst (NI (List.range n)) from rfl, x1]
    rw [← hq]
    simp
  · obtain ⟨z, hz⟩ := cell_ok ns 29 (by omega)
    obtain ⟨ds, d1, d2⟩ := digits_ok z [30, 30, 30, 30, 30] (by decide) (by decide)
    have dl : ds.length = 5 := d2.len
    have hz' : F_L_cell [.scr ns, .int 29] = some (.int z) := hz
    have rep : binD .mul (.lst [.int 30]) (.int 5) = some (.lst ([30, 30, 30, 30, 30].map .int)) := by simp [binD, repOk, List.replicate]
    have h5' : ¬ ((n : Nat) : Int) ≤ 5 := by omega
    have n0 : ¬ ((n : Nat) : Int) = 0 := by omega
    have n0' : ¬ n = 0 := by omega
    let sp : List Nat := ds.map fun d => (d.fmod n).toNat
    have spl : sp.length = 5 := by simp [sp, dl]
    have c1 : ∀ A C E F G : Sl, lcL (.nm 4) (evE Z_L_tried (.c (.bl true))) (evE Z_L_tried (.bin .mod (.blt .int [.v 4]) (.v 1))) [A, .v (.int ((n : Nat) : Int)), C, E, F, G] (ds.map D.int) = some (NI sp) := by
      intro A C E F G
      rw [lcL_of (fun d : Int => D.int d) (fun _ => true) (fun d => D.int (((d.fmod n).toNat : Nat) : Int))]
      · rw [List.filter_eq_self.mpr (by simp)]
        simp [sp, List.map_map]
      · intro d hd
        have := fmodp d n (by omega)
        refine ⟨_, rfl, rfl, fun _ => ?_⟩
        simp [binD, n0, n0', Int.toNat_of_nonneg this.1]
    have c2 : ∀ A B C F G : Sl, lcL (.nm 5) (evE Z_L_tried (.cmp .isin (.v 5) (.v 3))) (evE Z_L_tried (.v 5)) [A, B, C, .v (.lst (NI sp)), F, G] (rngD 0 n) = some (NI ((List.range n).filter fun k => decide (k ∈ sp))) := by
      intro A B C F G
      rw [lcL_rngF (p := fun k => decide (k ∈ sp)) (g := fun k => D.int ((k : Nat) : Int))]
      intro k hk
      have := inD_ints k sp
      have e : cmpX .isin (.int ((k : Nat) : Int)) (.lst (NI sp)) = some (decide (k ∈ sp)) := this
      refine ⟨?_, fun _ => by simp⟩
      simp only [List.set_cons_succ, List.set_cons_zero, evE_cmp, evE_v, getV_succ, getV_zero, bind_someX]
      rw [e]
      rfl
    obtain ⟨X1, x1, x2, x3⟩ := subsets_ok (K.take 5) (by simp; omega)
    have l5 : ((List.range n).filter fun k => decide (k ∈ sp)).length ≤ 5 := by
      rw [← spl]
      exact nodup_len sp _ (List.nodup_range.filter _) fun k hk => by simpa using (List.mem_filter.mp hk).2
    obtain ⟨X2, y1, y2, y3⟩ := subsets_ok _ l5
    have sl : slD none (some 5) (.lst (NI K)) = some (.lst (NI (K.take 5))) := by
      show some (D.lst (cutD (NI K) none (some 5))) = _
      rw [cut_to _ _ (by decide)]
      simp [NI, List.map_take]
    refine ⟨X1 ++ X2 ++ [K], ?_, by simp; omega, fun S hS => ?_⟩
    · unfold F_L_tried evF ir_L_tried
      rw [if_pos (show [D.scr ns, .int (n : Nat), .lst (NI K)].length = 3 from rfl)]
      have e9 : some (D.lst (dL (X1 ++ X2 ++ [K]))) = some (.lst (dL X1 ++ dL X2 ++ [.lst (NI K)])) := by simp [dL]
      rw [e9]
      generalize hq : some (D.lst (dL X1 ++ dL X2 ++ [.lst (NI K)])) = qq at *
      have lx : (dL X1).length ≤ 32 := by simpa using x2
      have ly : (dL X2).length ≤ 32 := by simpa using y2
      generalize dL X1 = L1 at *
      generalize dL X2 = L2 at *
      generalize hKK : NI K = KK at *
      generalize hK5 : NI (K.take 5) = K5 at *
      generalize hSP : NI ((List.range n).filter fun k => decide (k ∈ sp)) = SP at *
      have dlim : ds.length ≤ 16777216 := by omega
      simp only [startD, List.map_cons, List.map_nil, List.length_cons, List.length_nil, List.cons_append, List.nil_append]
      (rw [evSs_consR]; generalize hRx : Pv.rest _ _ = Rx; simp [h5, h5'] <;> (subst hRx; first | rw [rest_nx] | (simp only [rest_rt, rest_bk, rest_ct, bind_someX, endD_rt]) | skip))
      rw [evSs_consR]
      generalize hR : Pv.rest _ _ = R
      simp [f42, hz', rep]
      rw [show Z_L_tried.F 43 [D.int z, .lst ([D.int 30, .int 30, .int 30, .int 30, .int 30])] = some (.lst (ds.map D.int)) from d1]
      simp [dlim, wipeD]
      rw [c1]
      subst hR
      simp only [map_someX, bind_someX]
      rw [rest_nx]
      have b1 : binD .add (.lst L1) (.lst L2) = some (.lst (L1 ++ L2)) := by
        show (if L1.length + L2.length ≤ line then _ else _) = _
        rw [if_pos (by show _ ≤ 16777216; omega)]
      generalize hNS : NI sp = NS at *
      simp [sl, f59, x1, okn, rng_len, lim, wipeD]
      rw [c2]
      have l7 : L1.length + L2.length ≤ 16777215 := by omega
      simp [y1, b1, l7]
      rw [← hq]
      simp
    · rcases List.mem_append.mp hS with z | z
      · rcases List.mem_append.mp z with z | z
        · exact ⟨fun k hk => hK k (List.mem_of_mem_take ((x3 S z).1 k hk)), by have := (x3 S z).2; omega⟩
        · exact ⟨fun k hk => List.mem_range.mp (List.mem_filter.mp ((y3 S z).1 k hk)).1, by have := (y3 S z).2; omega⟩
      · rw [List.mem_singleton.mp z]
        exact ⟨hK, hK30⟩
theorem bars_up {ps : List Pr} {n : Nat} (hn : ∀ p ∈ ps, p.2.length = n) {b l o r S : List Nat} (h : Peel ps l o r) (hl : l.length = n) (hS : ∀ k ∈ S, k < n) (e : barsB ps b l S = true) : barsB ps b l (cellsN r) = true := by
  have hr := h.len hn hl
  unfold barsB at e ⊢
  rw [Bool.and_eq_true] at e ⊢
  refine ⟨h.stuck hn hl fun k => by rw [cellsN_mem, hr], ?_⟩
  obtain ⟨k, hk, hb⟩ := List.any_eq_true.mp e.2
  have fs := h.fast hn hl hS e.1 k hk
  refine List.any_eq_true.mpr ⟨k, cellsN_mem.mpr ⟨by rw [hr]; exact hS k hk, ?_⟩, hb⟩
  rw [fs]
  exact (fastB_iff.mp e.1).1 k hk
theorem bars_clash {ps : List Pr} {n : Nat} (hn : ∀ p ∈ ps, p.2.length = n) {b l o r : List Nat} (h : Peel ps l o r) (hl : l.length = n) (hb : b.length = n) : barsB ps b l (cellsN r) = (clashN b r).isSome := by
  have hr := h.len hn hl
  unfold barsB
  rw [h.stuck hn hl fun k => by rw [cellsN_mem, hr], Bool.true_and, Bool.eq_iff_iff, List.any_eq_true]
  unfold clashN
  rw [List.find?_isSome]
  constructor
  · rintro ⟨k, hk, hc⟩
    obtain ⟨k1, k2⟩ := cellsN_mem.mp hk
    have fs : g r k = g l k := by
      rcases h.cell hn hl k (by omega) with z | z
      · exact absurd z k2
      · exact z
    refine ⟨k, List.mem_range.mpr (by omega), ?_⟩
    rw [← fs] at hc
    simp only [badP]
    simp only [Bool.and_eq_true, Bool.not_eq_true', beq_eq_false_iff_ne, ne_eq] at hc ⊢
    exact ⟨hc.1, k2, hc.2⟩
  · rintro ⟨k, hk, hc⟩
    have hk' := List.mem_range.mp hk
    simp only [badP, Bool.and_eq_true, Bool.not_eq_true', beq_eq_false_iff_ne, ne_eq] at hc
    have fs : g r k = g l k := by
      rcases h.cell hn hl k (by omega) with z | z
      · exact absurd z hc.2.1
      · exact z
    refine ⟨k, cellsN_mem.mpr ⟨by omega, hc.2.1⟩, ?_⟩
    rw [← fs]
    simp only [Bool.and_eq_true, Bool.not_eq_true', beq_eq_false_iff_ne, ne_eq]
    exact ⟨hc.1, hc.2.2⟩
theorem bars_congr {ps : List Pr} {b l S S' : List Nat} (h : ∀ k, k ∈ S ↔ k ∈ S') : barsB ps b l S = barsB ps b l S' := by
  unfold barsB
  rw [fastB_congr h, Bool.eq_iff_iff, Bool.and_eq_true, Bool.and_eq_true, List.any_eq_true, List.any_eq_true]
  simp only [h]
theorem judged_ok (ns : List Int) {ps : List Pr} {n : Nat} (hL : Lot n ps) {b l o r : List Nat} (h : Peel ps l o r) (hl : Lay n l) (hb : Lay n b) :
    F_L_judged [.scr ns, stk n ps, LL ps, .str b, .str l, .lst (NI (cellsN r))] = some (.bl true) := by
  have hn : ∀ p ∈ ps, p.2.length = n := fun p hp => (hL.lay p hp).len
  have n30 := hL.n30
  have n1 := hL.n1
  have hr := h.len hn hl.len
  have hll := hl.len
  have hbl := hb.len
  have cl : (cellsN r).length ≤ 30 := by
    have := List.length_filter_le (fun k => !(r[k]?.getD 0 == 45)) (List.range r.length)
    rw [List.length_range] at this
    unfold cellsN
    omega
  have hK : ∀ k ∈ cellsN r, k < n := fun k hk => by rw [← hr]; exact (cellsN_mem.mp hk).1
  have up : ∀ S : List Nat, (∀ k ∈ S, k < n) → barsB ps b l S = true → barsB ps b l (cellsN r) = true := fun S hS e => bars_up hn h hll hS e
  have a1 := L_bars_ok hn (by omega) b l hbl hll (cellsN r) hK (by omega)
  obtain ⟨X, x1, x2, x3⟩ := tried_ok ns n n1 n30 (cellsN r) hK cl
  generalize cellsN r = K at *
  obtain ⟨z, hz⟩ := cell_ok ns 30 (by omega)
  have hz' : F_L_cell [.scr ns, .int 30] = some (.int z) := hz
  obtain ⟨ds, d1, d2⟩ := digits_ok z [2, 3] (by decide) (by decide)
  obtain ⟨d0, e0, p0, q0⟩ := d2.get (k := 0) rfl
  obtain ⟨dd, e1, p1, q1⟩ := d2.get (k := 1) rfl
  have dl : ds.length = 2 := d2.len
  have dse : ds = [d0, dd] := by
    match ds, dl, e0, e1 with
    | [x, y], _, e0, e1 => simp at e0 e1; rw [e0, e1]
  subst dse
  have f40 : Z_L_judged.F 40 = F_is_refusal := id rfl
  have f42 : Z_L_judged.F 42 = F_L_cell := id rfl
  have f43 : Z_L_judged.F 43 = F_L_digits := id rfl
  have f67 : Z_L_judged.F 67 = F_L_bars := id rfl
  have f68 : Z_L_judged.F 68 = F_L_tried := id rfl
  have hl1 : l.length ≤ 16777216 := by omega
  generalize hsk : stk n ps = sk at *
  generalize hLP : LL ps = LP at *
  generalize hKK : NI K = KK at *
  generalize hbk : barsB ps b l K = bk at *
  obtain ⟨σ', l1, l2⟩ := forL_ex (t := .nm 8) (f := evSs Z_L_judged [.asg (.nm 9) (.bin .add (.u1 .rev (.v 8)) (.sl (.v 8) .nil (.last (.blt .int [.ix (.v 7) (.c (.int 1))])))), .asg (.nm 10) (.blt .list [.v 9]), .ifs (.cmp .eq (.ix (.v 7) (.c (.int 0))) (.c (.int 0))) [.asg (.nm 12) (.call 40 [.v 1, .v 3, .v 4, .v 10])] [.asg (.nm 12) (.callK 40 ["chosen", "seen", "start", "stock"] [3, 2, 1, 0] [.blt .tuple [.v 10], .v 4, .v 3, .v 1])], .asg (.nm 11) (.call 67 [.v 2, .v 3, .v 4, .v 8]), .ifs (.or (.not (.isi (.v 12) [.bool] false)) (.or (.cmp .ne (.v 12) (.v 11)) (.or (.cmp .ne (.v 10) (.v 9)) (.last (.and (.v 11) (.last (.not (.v 6)))))))) [.ret (.c (.bl false))] []])
    (fun σ => ∃ A B C E F, σ = [.v (.scr ns), .v sk, .v LP, .v (.str b), .v (.str l), .v (.lst KK), .v (.bl bk), .v (.lst [.int d0, .int dd]), A, B, C, E, F]) (ds := dL X) (σ := [.v (.scr ns), .v sk, .v LP, .v (.str b), .v (.str l), .v (.lst KK), .v (.bl bk), .v (.lst [.int d0, .int dd]), .no, .no, .no, .no, .no]) ⟨_, _, _, _, _, rfl⟩ (by
      rintro d hd σ ⟨A, B, C, E, F, rfl⟩
      obtain ⟨S, hS, rfl⟩ := List.mem_map.mp hd
      obtain ⟨s1, s2⟩ := x3 S hS
      have pm : ∀ k, k ∈ S.reverse ++ S.take dd.toNat ↔ k ∈ S := fun k => by
        rw [List.mem_append, List.mem_reverse]
        exact ⟨fun h => h.elim id List.mem_of_mem_take, .inl⟩
      have pn : ∀ k ∈ S.reverse ++ S.take dd.toNat, k < n := fun k hk => s1 k ((pm k).mp hk)
      have pl : (S.reverse ++ S.take dd.toNat).length < 60 := by
        rw [List.length_append, List.length_reverse, List.length_take]
        omega
      have r1 : F_is_refusal [sk, .str b, .str l, .lst (NI (S.reverse ++ S.take dd.toNat))] = some (.bl (barsB ps b l S)) := by
        rw [← hsk, ← bars_congr pm]
        exact refusal_ok hn (by omega) b l hbl hll _ pn pl false
      have r2 : F_is_refusal [sk, .str b, .str l, .tup (NI (S.reverse ++ S.take dd.toNat))] = some (.bl (barsB ps b l S)) := by
        rw [← hsk, ← bars_congr pm]
        exact refusal_ok hn (by omega) b l hbl hll _ pn pl true
      have r3 : F_L_bars [LP, .str b, .str l, .lst (NI S)] = some (.bl (barsB ps b l S)) := by
        rw [← hLP]
        exact L_bars_ok hn (by omega) b l hbl hll S s1 (by omega)
      have eqp := eq_ints (S.reverse ++ S.take dd.toNat)
      have sl : slD none (some dd) (.lst (NI S)) = some (.lst (NI (S.take dd.toNat))) := by
        show some (D.lst (cutD (NI S) none (some dd))) = _
        rw [cut_to _ _ p1]
        simp [NI, List.map_take]
      have rv : u1D .rev (.lst (NI S)) = some (.lst (NI S.reverse)) := by
        show some (D.lst (NI S).reverse) = _
        simp [NI]
      have ad : binD .add (.lst (NI S.reverse)) (.lst (NI (S.take dd.toNat))) = some (.lst (NI (S.reverse ++ S.take dd.toNat))) := by
        show (if (NI S.reverse).length + (NI (S.take dd.toNat)).length ≤ line then _ else _) = _
        rw [if_pos (by show _ ≤ 16777216; simp [List.length_take]; omega)]
        simp [NI]
      have ups := up S s1
      generalize NI (S.reverse ++ S.take dd.toNat) = P at *
      generalize NI (S.take dd.toNat) = P1 at *
      generalize NI S.reverse = P2 at *
      generalize NI S = SS at *
      generalize barsB ps b l S = bs at *
      refine ⟨_, [.v (.scr ns), .v sk, .v LP, .v (.str b), .v (.str l), .v (.lst KK), .v (.bl bk), .v (.lst [.int d0, .int dd]), .v (.lst SS), .v (.lst P), .v (.lst P), .v (.bl bs), .v (.bl bs)], rfl, ?_, ⟨_, _, _, _, _, rfl⟩⟩
      simp only [List.set_cons_succ, List.set_cons_zero]
      (rw [evSs_consR]; generalize hRx : Pv.rest _ _ = Rx; simp [rv, sl, ad] <;> (subst hRx; first | rw [rest_nx] | (simp only [rest_rt, rest_bk, rest_ct, bind_someX, endD_rt]) | skip))
      (rw [evSs_consR]; generalize hRx : Pv.rest _ _ = Rx; simp [] <;> (subst hRx; first | rw [rest_nx] | (simp only [rest_rt, rest_bk, rest_ct, bind_someX, endD_rt]) | skip))
      have tailP : evSs Z_L_judged [.asg (.nm 11) (.call 67 [.v 2, .v 3, .v 4, .v 8]), .ifs (.or (.not (.isi (.v 12) [.bool] false)) (.or (.cmp .ne (.v 12) (.v 11)) (.or (.cmp .ne (.v 10) (.v 9)) (.last (.and (.v 11) (.last (.not (.v 6)))))))) [.ret (.c (.bl false))] []]
          [.v (.scr ns), .v sk, .v LP, .v (.str b), .v (.str l), .v (.lst KK), .v (.bl bk), .v (.lst [.int d0, .int dd]), .v (.lst SS), .v (.lst P), .v (.lst P), E, .v (.bl bs)] = some (.nx [.v (.scr ns), .v sk, .v LP, .v (.str b), .v (.str l), .v (.lst KK), .v (.bl bk), .v (.lst [.int d0, .int dd]), .v (.lst SS), .v (.lst P), .v (.lst P), .v (.bl bs), .v (.bl bs)]) := by
        (rw [evSs_consR]; generalize hRx : Pv.rest _ _ = Rx; simp [f67, r3] <;> (subst hRx; first | rw [rest_nx] | (simp only [rest_rt, rest_bk, rest_ct, bind_someX, endD_rt]) | skip))
        cases bs
        · simp [isi1, isIns, eqp]
        · rw [ups rfl]
          simp [isi1, isIns, eqp]
      rw [evSs_consR]
      generalize hR : Pv.rest _ _ = R
      by_cases h0 : d0 = 0
      · simp [h0, f40, r1]
        subst hR
        rw [rest_nx]
        rw [h0] at tailP
        exact tailP
      · simp [h0, f40, permL, r2]
        subst hR
        rw [rest_nx]
        exact tailP)
  obtain ⟨A, B, C, E, F, rfl⟩ := l2
  unfold F_L_judged evF ir_L_judged
  rw [if_pos (show [D.scr ns, sk, LP, .str b, .str l, .lst KK].length = 6 from rfl)]
  simp only [startD, List.map_cons, List.map_nil, List.length_cons, List.length_nil, List.cons_append, List.nil_append]
  (rw [evSs_consR]; generalize hRx : Pv.rest _ _ = Rx; simp [f67, a1] <;> (subst hRx; first | rw [rest_nx] | (simp only [rest_rt, rest_bk, rest_ct, bind_someX, endD_rt]) | skip))
  rw [evSs_consR]
  generalize hR : Pv.rest _ _ = R
  simp [f42, hz']
  rw [show Z_L_judged.F 43 [D.int z, .lst [D.int 2, .int 3]] = some (.lst [D.int d0, .int dd]) from d1]
  subst hR
  simp only [bind_someX, map_someX]
  rw [rest_nx]
  have x1' : F_L_tried [.scr ns, .int (l.length : Nat), .lst KK] = some (.lst (dL X)) := by rw [hll]; exact x1
  generalize dL X = XX at *
  simp [hl1, f68, x1']
  rw [l1]
  simp
end K10

set_option Elab.async false
set_option linter.all false
set_option maxRecDepth 100000
set_option maxHeartbeats 4000000
namespace K10
open PySem L2 Pv

/-! ### the law's core -/
theorem mak_ins (ps : List Pr) (b o r : List Nat) : ∃ R C E, mak ps b o r = .ins "Making" makF [.bl (clashN b r).isNone, R, C, E] ∧ ((clashN b r).isNone = false → C = .tup (NI (cellsN r))) := by
  unfold mak
  cases clashN b r with
  | none => exact ⟨_, _, _, rfl, fun h => by cases h⟩
  | some c => exact ⟨_, _, _, rfl, fun _ => rfl⟩
theorem told_ok (ns : List Int) {ps : List Pr} {n : Nat} (hL : Lot n ps) {b l o r : List Nat} (h : Peel ps l o r) (hl : Lay n l) (hb : Lay n b) (ho : o.length ≤ ps.length) :
    F_L_told [.scr ns, stk n ps, LL ps, .str b, .str l] = some (.bl true) := by
  have hn : ∀ p ∈ ps, p.2.length = n := fun p hp => (hL.lay p hp).len
  have n30 := hL.n30
  have hm := hL.many
  have hr := h.len hn hl.len
  have hll := hl.len
  have hbl := hb.len
  have cl : (cellsN r).length ≤ 30 := by
    have := List.length_filter_le (fun k => !(r[k]?.getD 0 == 45)) (List.range r.length)
    rw [List.length_range] at this
    unfold cellsN
    omega
  have hK : ∀ k ∈ cellsN r, k < n := fun k hk => by rw [← hr]; exact (cellsN_mem.mp hk).1
  have a1 := making_ok hL h hl hb (by omega)
  have a2 := shows_ok hL h hl hb ho
  have a3 := L_peel_ok (by omega) hn (by omega) h hll ho
  have a4 := L_bars_ok hn (by omega) b l hbl hll (cellsN r) hK (by omega)
  have a5 := refusal_ok hn (by omega) b l hbl hll (cellsN r) hK (by omega) true
  rw [if_pos rfl] at a5
  rw [bars_clash hn h hll hbl] at a4 a5
  have a6 := judged_ok ns hL h hl hb
  have hl1 : l.length ≤ 16777216 := by omega
  have hr1 : r.length ≤ 16777216 := by omega
  have okr : okR (l.length : Int) = true := by unfold okR; simp; omega
  have f39 : Z_L_told.F 39 = F_making := id rfl
  have f40 : Z_L_told.F 40 = F_is_refusal := id rfl
  have f61 : Z_L_told.F 61 = F_L_peel := id rfl
  have f66 : Z_L_told.F 66 = F_L_shows := id rfl
  have f67 : Z_L_told.F 67 = F_L_bars := id rfl
  have f69 : Z_L_told.F 69 = F_L_judged := id rfl
  have m1 : ((("Making" : Str), ("made" : Str)) ∈ Z_L_told.L) := by simp [Z_L_told]
  have m2 : ((("Making" : Str), ("cells" : Str)) ∈ Z_L_told.L) := by simp [Z_L_told]
  obtain ⟨R0, C0, E0, em, ec⟩ := mak_ins ps b o r
  rw [em] at a1 a2
  have hcs : (clashN b r).isSome = !(clashN b r).isNone := by cases clashN b r <;> rfl
  rw [hcs] at a4 a5
  have c1 : ∀ A B C E F G H : Sl, lcL (.nm 8) (evE Z_L_told (.cmp .ne (.ix (.v 6) (.v 8)) (.c (.str [45])))) (evE Z_L_told (.v 8)) [A, B, C, E, F, G, .v (.str r), H, .no] (rngD 0 l.length) = some (NI (cellsN r)) := by
    intro A B C E F G H
    rw [lcL_rngF (p := fun k => !(r[k]?.getD 0 == 45)) (g := fun k => D.int (k : Nat))]
    · unfold cellsN; rw [hll, hr]
    · intro k hk
      have hk' : k < r.length := by omega
      simp [atI_k hk', hr1, hk']
      rfl
  have isb : cmpD .isnot (.bl true) (.bl true) = some false := id rfl
  generalize stk n ps = sk at *
  generalize LL ps = LP at *
  generalize NI (cellsN r) = K at *
  generalize (clashN b r).isNone = cn at *
  unfold F_L_told evF ir_L_told
  rw [if_pos (show [D.scr ns, sk, LP, .str b, .str l].length = 5 from rfl)]
  simp only [startD, List.map_cons, List.map_nil, List.length_cons, List.length_nil, List.cons_append, List.nil_append]
  (rw [evSs_consR]; generalize hRx : Pv.rest _ _ = Rx; simp [f39, a1] <;> (subst hRx; first | rw [rest_nx] | (simp only [rest_rt, rest_bk, rest_ct, bind_someX, endD_rt]) | skip))
  (rw [evSs_consR]; generalize hRx : Pv.rest _ _ = Rx; simp [f66, a2] <;> (subst hRx; first | rw [rest_nx] | (simp only [rest_rt, rest_bk, rest_ct, bind_someX, endD_rt]) | skip))
  (rw [evSs_consR]; generalize hRx : Pv.rest _ _ = Rx; simp [f66, f39, permL, a1, a2] <;> (subst hRx; first | rw [rest_nx] | (simp only [rest_rt, rest_bk, rest_ct, bind_someX, endD_rt]) | skip))
  (rw [evSs_consR]; generalize hRx : Pv.rest _ _ = Rx; simp [f61, a3] <;> (subst hRx; first | rw [rest_nx] | (simp only [rest_rt, rest_bk, rest_ct, bind_someX, endD_rt]) | skip))
  rw [evSs_consR]
  generalize hR : Pv.rest _ _ = R
  simp [hl1, okr, wipeD]
  rw [rng_len, if_pos hl1, c1]
  subst hR
  simp only [map_someX, bind_someX]
  rw [rest_nx]
  cases cn
  · have eC := ec rfl
    subst eC
    (rw [evSs_consR]; generalize hRx : Pv.rest _ _ = Rx; simp [mk_made, m1, f67, a4] <;> (subst hRx; first | rw [rest_nx] | (simp only [rest_rt, rest_bk, rest_ct, bind_someX, endD_rt]) | skip))
    (rw [evSs_consR]; generalize hRx : Pv.rest _ _ = Rx; simp [mk_made, mk_cells, m1, m2, f40, a5, isb] <;> (subst hRx; first | rw [rest_nx] | (simp only [rest_rt, rest_bk, rest_ct, bind_someX, endD_rt]) | skip))
    simp [f69, a6]
  · (rw [evSs_consR]; generalize hRx : Pv.rest _ _ = Rx; simp [mk_made, m1, f67, a4] <;> (subst hRx; first | rw [rest_nx] | (simp only [rest_rt, rest_bk, rest_ct, bind_someX, endD_rt]) | skip))
    (rw [evSs_consR]; generalize hRx : Pv.rest _ _ = Rx; simp [mk_made, m1] <;> (subst hRx; first | rw [rest_nx] | (simp only [rest_rt, rest_bk, rest_ct, bind_someX, endD_rt]) | skip))
    simp [f69, a6]
theorem TT_self {n : Nat} {ps : List Pr} (h : Lot n ps) : eqD (TT ps) (TT ps) = some true := by
  refine eqD_self (shp_of (n := 2) ?_ (by decide))
  simp only [TT, D.layB]
  apply layL_all
  intro d hd
  obtain ⟨p, hp, rfl⟩ := List.mem_map.mp hd
  simp only [D.layB, D.layL, Bool.and_true, Bool.and_eq_true]
  exact ⟨low_ok (h.nam p hp).low, low_ok (h.lay p hp).low⟩
theorem law_core {ns : List Int} {n : Nat} {ps : List Pr} (hL : Lot n ps) {b s : List Nat} (hb : Lay n b) (hs : Lay n s) (hd : F_L_drawn [.scr ns] = some (.lst [.int (n : Nat), LL ps, .str b, .str s])) : F_law [.scr ns] = some (.bl true) := by
  have hn : ∀ p ∈ ps, p.2.length = n := fun p hp => (hL.lay p hp).len
  obtain ⟨o, r, h, ho⟩ := peel_ex ps ps.length s (fun p hp => by rw [hs.len, hn p hp]) List.countP_le_length
  obtain ⟨o', r', h', ho'⟩ := peel_ex ps ps.length b (fun p hp => by rw [hb.len, hn p hp]) List.countP_le_length
  have hp : ps.length ≤ 16777216 := by have := hL.many; omega
  have hm := hL.many
  have k1 := making_ok hL h hs hb (by omega)
  have k2 := making_ok hL h' hb hs (by omega)
  have k3 := making_ok hL h hs hs (by omega)
  have s1 := shows_ok hL h hs hb ho
  have s2 := shows_ok hL h' hb hs ho'
  have s3 := shows_ok hL h hs hs ho
  have t1 := told_ok ns hL h hs hb ho
  have t2 := told_ok ns hL h' hb hs ho'
  have t3 := told_ok ns hL h hs hs ho
  have f25 : Z_law.F 25 = F_Stock___init__ := id rfl
  have f39 : Z_law.F 39 = F_making := id rfl
  have f66 : Z_law.F 66 = F_L_shows := id rfl
  have f70 : Z_law.F 70 = F_L_told := id rfl
  have f71 : Z_law.F 71 = F_L_drawn := id rfl
  have sm : ((("Stock" : Str), ("stamps" : Str)) ∈ Z_law.L) := by simp [Z_law]
  have sk := stock_ok hL
  have fst := fld_stamps n ps
  have tt := TT_self hL
  have e1 : seqD (LL ps) = some (ps.map fun p => D.lst [.str p.1, .str p.2]) := by simp [LL]
  have c1 : ∀ A B C E F G H : Sl, lcL (.nm 7) (evE Z_law (.c (.bl true))) (evE Z_law (.blt .list [.v 7])) [A, B, C, E, F, G, H, .no] (ps.map fun p => D.lst [.str p.1, .str p.2]) = some (ps.map fun p => D.lst [.str p.1, .str p.2]) := by
    intro A B C E F G H
    rw [lcL_of (fun p : Pr => D.lst [.str p.1, .str p.2]) (fun _ => true) (fun p => D.lst [.str p.1, .str p.2])]
    · rw [List.filter_eq_self.mpr (by simp)]
    · intro p _
      refine ⟨_, rfl, rfl, fun _ => ?_⟩
      simp
  have c2 : ∀ A B C E F G H : Sl, lcL (.nm 7) (evE Z_law (.c (.bl true))) (evE Z_law (.blt .tuple [.v 7])) [A, B, C, E, F, G, H, .no] (ps.map fun p => D.lst [.str p.1, .str p.2]) = some (ps.map fun p => D.tup [.str p.1, .str p.2]) := by
    intro A B C E F G H
    rw [lcL_of (fun p : Pr => D.lst [.str p.1, .str p.2]) (fun _ => true) (fun p => D.tup [.str p.1, .str p.2])]
    · rw [List.filter_eq_self.mpr (by simp)]
    · intro p _
      refine ⟨_, rfl, rfl, fun _ => ?_⟩
      simp
  have eL : D.lst (ps.map fun p => D.lst [.str p.1, .str p.2]) = LL ps := id rfl
  have eT : D.tup (ps.map fun p => D.tup [.str p.1, .str p.2]) = TT ps := id rfl
  have eT' : ∀ xs, xs = (ps.map fun p => D.tup [.str p.1, .str p.2]) → D.tup xs = TT ps := fun xs h => by rw [h]; rfl
  have ce : cmpX .ne (TT ps) (TT ps) = some false := by
    show (eqD (TT ps) (TT ps)).map not = some false
    rw [tt]; rfl
  unfold stk at t1 t2 t3 k1 k2 k3
  generalize hF : stockV n ps = SV at *
  generalize hx : (ps.map fun p => D.lst [.str p.1, .str p.2]) = xs at *
  have hxl : xs.length ≤ 16777216 := by rw [← hx]; simpa using hp
  generalize hy : (ps.map fun p => D.tup [.str p.1, .str p.2]) = ys at *
  generalize LL ps = LP at *
  generalize TT ps = TP at *
  generalize mak ps b o r = M1 at *
  generalize mak ps s o' r' = M2 at *
  generalize mak ps s o r = M3 at *
  unfold F_law evF ir_law
  rw [if_pos (show [D.scr ns].length = 1 from rfl)]
  simp only [startD, List.map_cons, List.map_nil, List.length_cons, List.length_nil, List.cons_append, List.nil_append]
  rw [evSs_consR]
  generalize hR : Pv.rest _ _ = R
  simp [f71, hd]
  subst hR
  rw [rest_nx]
  (rw [evSs_consR]; generalize hRx : Pv.rest _ _ = Rx; simp [] <;> (subst hRx; first | rw [rest_nx] | (simp only [rest_rt, rest_bk, rest_ct, bind_someX, endD_rt]) | skip))
  (rw [evSs_consR]; generalize hRx : Pv.rest _ _ = Rx; simp [] <;> (subst hRx; first | rw [rest_nx] | (simp only [rest_rt, rest_bk, rest_ct, bind_someX, endD_rt]) | skip))
  (rw [evSs_consR]; generalize hRx : Pv.rest _ _ = Rx; simp [] <;> (subst hRx; first | rw [rest_nx] | (simp only [rest_rt, rest_bk, rest_ct, bind_someX, endD_rt]) | skip))
  rw [evSs_consR]
  generalize hR : Pv.rest _ _ = R
  simp [e1, hxl, wipeD]
  rw [c1]
  simp only [map_someX, bind_someX, Function.comp_apply]
  rw [eL, f25]
  simp only [map_someX, bind_someX, Function.comp_apply, sk]
  subst hR
  rw [rest_nx]
  (rw [evSs_consR]; generalize hRx : Pv.rest _ _ = Rx; simp [f39, k1, k2, k3] <;> (subst hRx; first | rw [rest_nx] | (simp only [rest_rt, rest_bk, rest_ct, bind_someX, endD_rt]) | skip))
  (rw [evSs_consR]; generalize hRx : Pv.rest _ _ = Rx; simp [f70, t1, t2] <;> (subst hRx; first | rw [rest_nx] | (simp only [rest_rt, rest_bk, rest_ct, bind_someX, endD_rt]) | skip))
  (rw [evSs_consR]; generalize hRx : Pv.rest _ _ = Rx; simp [f70, t3] <;> (subst hRx; first | rw [rest_nx] | (simp only [rest_rt, rest_bk, rest_ct, bind_someX, endD_rt]) | skip))
  (rw [evSs_consR]; generalize hRx : Pv.rest _ _ = Rx; simp [f66, s1, s2] <;> (subst hRx; first | rw [rest_nx] | (simp only [rest_rt, rest_bk, rest_ct, bind_someX, endD_rt]) | skip))
  (rw [evSs_consR]; generalize hRx : Pv.rest _ _ = Rx; simp [f66, s3] <;> (subst hRx; first | rw [rest_nx] | (simp only [rest_rt, rest_bk, rest_ct, bind_someX, endD_rt]) | skip))
  rw [evSs_consR]
  generalize hR : Pv.rest _ _ = R
  simp [fst, sm, e1, hxl, wipeD]
  rw [c2]
  simp [eT, ce]
  subst hR
  rw [rest_nx]
  simp [f66, f39, k1, s1]
end K10

set_option Elab.async false
set_option linter.all false
set_option maxRecDepth 100000
set_option maxHeartbeats 4000000
namespace K10
open PySem L2 Pv

/-! ### the chain: from its texts on -/
structure Tx (N : Nat) (t : List Nat) : Prop where
  lay : Lay (N + 1) t
  full : t ≠ List.replicate (N + 1) 45
def Good (o : Option D) : Prop := ∃ (n : Nat) (x : D) (ps : List Pr) (b s : List Nat), o = some (.lst [.int (n : Nat), x, LL ps, .str b, .str s]) ∧ Lot n ps ∧ Lay n b ∧ Lay n s
abbrev TL (T : List (List Nat)) : List D := T.map D.str
abbrev CH (A0 A1 A2 : Sl) (hd : List Int) (A4 A5 : Sl) (ik : List Nat) (N : Nat) (A8 T9 x10 : Sl) (sh : List Nat) (x12 : Sl) (bs : List Nat) (x14 x15 x16 x17 x18 x19 : Sl) : List Sl :=
  [A0, A1, A2, .v (.lst (hd.map D.int)), A4, A5, .v (.str ik), .v (.int (N : Nat)), A8, T9, x10, .v (.str sh), x12, .v (.str bs), x14, x15, x16, x17, x18, x19]
theorem Tx.lt {N : Nat} {t : List Nat} (h : Tx N t) : t.length = N + 1 := h.lay.len
theorem Tx.rev {N : Nat} {t : List Nat} (h : Tx N t) : Tx N t.reverse :=
  ⟨⟨by rw [List.length_reverse]; exact h.lay.len, fun c hc => h.lay.sg c (List.mem_reverse.mp hc)⟩, fun e => h.full (by
    have := congrArg List.reverse e
    rwa [List.reverse_reverse, List.reverse_replicate] at this)⟩
theorem Lay.rev {n : Nat} {x : List Nat} (h : Lay n x) : Lay n x.reverse := ⟨by rw [List.length_reverse]; exact h.len, fun c hc => h.sg c (List.mem_reverse.mp hc)⟩
section
variable {A0 A1 A2 A4 A5 A8 x10 x12 x14 x15 x16 x17 x18 x19 : Sl} {hd : List Int} {ik : List Nat} {N : Nat}
theorem ch_20 (h24 : hd.length = 24) (hN : 1 ≤ N) (hN2 : N ≤ 23) {T : List (List Nat)} (hT : ∀ t ∈ T, Tx N t) (hl : T.length ≤ 24) {sh bs : List Nat} (h1 : Lay (N + 1) sh) (h2 : Lay (N + 1) bs) :
    Good ((evSs Z_L_chain (ir_L_chain.drop 20) (CH A0 A1 A2 hd A4 A5 ik N A8 (.v (.lst (TL T))) x10 sh x12 bs x14 x15 x16 x17 x18 x19)).bind endD) := by
  obtain ⟨xs, n1, n2, n3, n4⟩ := names_ok (hd.drop 13) (by rw [List.length_drop]; omega) T.length hl
  have f45 : Z_L_chain.F 45 = F_L_names := id rfl
  have lim : T.length ≤ 16777216 := by omega
  have okT : okR (T.length : Int) = true := by unfold okR; simp; omega
  have sl : slD (some 13) none (.lst (hd.map D.int)) = some (.lst ((hd.drop 13).map D.int)) := by
    show some (D.lst (cutD (hd.map D.int) (some 13) none)) = _
    rw [cut_from _ _ (by decide), List.map_drop]
    rfl
  have ez : (List.range T.length).map (fun k => D.lst [.str (xs[k]?.getD []), .str (T[k]?.getD [])]) = (List.zip xs T).map fun p => D.lst [.str p.1, .str p.2] := by
    apply List.ext_getElem
    · simp only [List.length_map, List.length_range, List.length_zip]
      omega
    · intro k k1 k2
      simp only [List.length_map, List.length_range] at k1
      have hk2 : k < xs.length := by omega
      simp [k1, hk2]
  have comp : ∀ B0 B1 B2 B3 B4 B5 B6 B7 B8 B10 B11 B12 B13 B14 B15 B17 B18 B19 : Sl, lcL (.nm 10) (evE Z_L_chain (.c (.bl true))) (evE Z_L_chain (.lst [.ix (.v 16) (.v 10), .ix (.v 9) (.v 10)])) [B0, B1, B2, B3, B4, B5, B6, B7, B8, .v (.lst (TL T)), B10, B11, B12, B13, B14, B15, .v (.lst (xs.map D.str)), B17, B18, B19] (rngD 0 T.length) = some ((List.zip xs T).map fun p => D.lst [.str p.1, .str p.2]) := by
    intro B0 B1 B2 B3 B4 B5 B6 B7 B8 B10 B11 B12 B13 B14 B15 B17 B18 B19
    rw [lcL_rng (g := fun k => D.lst [.str (xs[k]?.getD []), .str (T[k]?.getD [])])]
    · rw [ez]
    · intro k hk
      have hk2 : k < xs.length := by omega
      have e1 : atI (xs.map D.str) ((k : Nat) : Int) = some (.str (xs[k]?.getD [])) := atI_of (by omega) (by simp [hk2])
      have e2 : atI (TL T) ((k : Nat) : Int) = some (.str (T[k]?.getD [])) := atI_of (by omega) (by simp [hk])
      refine ⟨rfl, ?_⟩
      simp [e1, e2]
  have eL : D.lst ((List.zip xs T).map fun p => D.lst [.str p.1, .str p.2]) = LL (List.zip xs T) := rfl
  have m1 : ∀ p ∈ List.zip xs T, p.1 ∈ xs ∧ p.2 ∈ T := fun p hp => ⟨(List.of_mem_zip hp).1, (List.of_mem_zip hp).2⟩
  refine ⟨N + 1, .str ik, List.zip xs T, bs, sh, ?_, ?_, h2, h1⟩
  · have d20 : ir_L_chain.drop 20 = [.asg (.nm 16) (.call 45 [.sl (.v 3) (.last (.c (.int 13))) .nil, .blt .len [.v 9]]),
        .ret (.lst [.bin .add (.v 7) (.c (.int 1)), .v 6, .lc [("_law_k", 10)] (.nm 10) (.r1 (.blt .len [.v 9])) (.c (.bl true)) (.lst [.ix (.v 16) (.v 10), .ix (.v 9) (.v 10)]), .v 13, .v 11])] := rfl
    rw [d20]
    generalize hZ : LL (List.zip xs T) = ZZ at *
    generalize hY : ((List.zip xs T).map fun p => D.lst [.str p.1, .str p.2]) = YY at *
    have n1' : F_L_names [.lst ((hd.drop 13).map D.int), .int ((TL T).length : Nat)] = some (.lst (xs.map D.str)) := by simpa using n1
    have okT' : okR ((TL T).length : Int) = true := by simpa using okT
    have lim' : (TL T).length ≤ 16777216 := by simpa using lim
    have comp' : ∀ B0 B1 B2 B3 B4 B5 B6 B7 B8 B10 B11 B12 B13 B14 B15 B17 B18 B19 : Sl, lcL (.nm 10) (evE Z_L_chain (.c (.bl true))) (evE Z_L_chain (.lst [.ix (.v 16) (.v 10), .ix (.v 9) (.v 10)])) [B0, B1, B2, B3, B4, B5, B6, B7, B8, .v (.lst (TL T)), B10, B11, B12, B13, B14, B15, .v (.lst (xs.map D.str)), B17, B18, B19] (rngD 0 (TL T).length) = some YY := by
      rw [List.length_map]; exact comp
    generalize TL T = TT' at *
    generalize (hd.drop 13).map D.int = HD at *
    generalize xs.map D.str = XX at *
    (rw [evSs_consR]; generalize hRx : Pv.rest _ _ = Rx; simp [sl, f45, n1'] <;> (subst hRx; first | rw [rest_nx] | (simp only [rest_rt, rest_bk, rest_ct, bind_someX, endD_rt]) | skip))
    simp [okT', wipeD]
    rw [rng_len, if_pos lim', comp']
    simp [eL]
  · refine ⟨by omega, by omega, by rw [List.length_zip]; omega, fun p hp => n4 _ (m1 p hp).1, fun p hp => (hT _ (m1 p hp).2).lay, fun p hp => (hT _ (m1 p hp).2).full, ?_⟩
    rw [List.map_fst_zip (by omega)]
    exact n3
end
end K10

set_option Elab.async false
set_option linter.all false
set_option maxRecDepth 100000
set_option maxHeartbeats 4000000
namespace K10
open PySem L2 Pv
section
variable {A0 A1 A2 A4 A5 A8 x10 x12 x14 x15 x16 x17 x18 x19 : Sl} {hd : List Int} {ik : List Nat} {N : Nat}
theorem ch_19 (h24 : hd.length = 24) (hN : 1 ≤ N) (hN2 : N ≤ 23) {h12 : Int} (e12 : atI (hd.map D.int) 12 = some (.int h12)) {T : List (List Nat)} (hT : ∀ t ∈ T, Tx N t) (hl : T.length ≤ 24) {sh bs : List Nat} (h1 : Lay (N + 1) sh) (h2 : Lay (N + 1) bs) :
    Good ((evSs Z_L_chain (ir_L_chain.drop 19) (CH A0 A1 A2 hd A4 A5 ik N A8 (.v (.lst (TL T))) x10 sh x12 bs x14 x15 x16 x17 x18 x19)).bind endD) := by
  have d : ir_L_chain.drop 19 = .ifs (.cmp .eq (.ix (.v 3) (.c (.int 12))) (.c (.int 1))) [.asg (.nm 9) (.u1 .rev (.v 9))] [] :: ir_L_chain.drop 20 := rfl
  rw [d, evSs_consR]
  generalize hR : Pv.rest Z_L_chain (ir_L_chain.drop 20) = R
  have rv : u1D .rev (.lst (TL T)) = some (.lst (TL T.reverse)) := by
    show some (D.lst (TL T).reverse) = _
    simp [TL]
  by_cases h : h12 = 1
  · have g := ch_20 (A0 := A0) (A1 := A1) (A2 := A2) (A4 := A4) (A5 := A5) (A8 := A8) (x10 := x10) (x12 := x12) (x14 := x14) (x15 := x15) (x16 := x16) (x17 := x17) (x18 := x18) (x19 := x19) (ik := ik) h24 hN hN2 (T := T.reverse) (fun t ht => hT t (List.mem_reverse.mp ht)) (by simpa using hl) h1 h2
    generalize TL T.reverse = TR at *
    simp [e12, h, rv]
    subst hR
    rw [rest_nx]
    exact g
  · have g := ch_20 (A0 := A0) (A1 := A1) (A2 := A2) (A4 := A4) (A5 := A5) (A8 := A8) (x10 := x10) (x12 := x12) (x14 := x14) (x15 := x15) (x16 := x16) (x17 := x17) (x18 := x18) (x19 := x19) (ik := ik) h24 hN hN2 hT hl h1 h2
    simp [e12, h]
    subst hR
    rw [rest_nx]
    exact g
theorem ch_17 (h24 : hd.length = 24) (hN : 1 ≤ N) (hN2 : N ≤ 23) {h9 h12 : Int} (e9 : atI (hd.map D.int) 9 = some (.int h9)) (e12 : atI (hd.map D.int) 12 = some (.int h12)) {T : List (List Nat)} (hT : ∀ t ∈ T, Tx N t) (hl0 : 1 ≤ T.length) (hl : T.length ≤ 24) {sh bs : List Nat} (h1 : Lay (N + 1) sh) (h2 : Lay (N + 1) bs) :
    Good ((evSs Z_L_chain (ir_L_chain.drop 17) (CH A0 A1 A2 hd A4 A5 ik N A8 (.v (.lst (TL T))) x10 sh x12 bs x14 x15 x16 x17 x18 x19)).bind endD) := by
  have d : ir_L_chain.drop 17 = .asg (.nm 15) (.bin .mod (.blt .int [.ix (.v 3) (.c (.int 9))]) (.blt .len [.v 9])) :: .asg (.nm 9) (.bin .add (.sl (.v 9) (.last (.v 15)) .nil) (.sl (.v 9) .nil (.last (.v 15)))) :: ir_L_chain.drop 19 := rfl
  have fp := fmodp h9 T.length (by omega)
  have n0 : ¬ ((T.length : Nat) : Int) = 0 := by omega
  have n0' : ¬ T = [] := by rintro rfl; simp at hl0
  generalize hu : h9.fmod T.length = u at *
  have s1 : slD (some u) none (.lst (TL T)) = some (.lst (TL (T.drop u.toNat))) := by
    show some (D.lst (cutD (TL T) (some u) none)) = _
    rw [cut_from _ _ fp.1]
    simp [TL, List.map_drop]
  have s2 : slD none (some u) (.lst (TL T)) = some (.lst (TL (T.take u.toNat))) := by
    show some (D.lst (cutD (TL T) none (some u))) = _
    rw [cut_to _ _ fp.1]
    simp [TL, List.map_take]
  have ad : binD .add (.lst (TL (T.drop u.toNat))) (.lst (TL (T.take u.toNat))) = some (.lst (TL (T.drop u.toNat ++ T.take u.toNat))) := by
    show (if (TL (T.drop u.toNat)).length + (TL (T.take u.toNat)).length ≤ line then _ else _) = _
    rw [if_pos (by show _ ≤ 16777216; simp [List.length_take, List.length_drop]; omega)]
    simp [TL]
  have hu' : h9.fmod (((TL T).length : Nat) : Int) = u := by rw [List.length_map]; exact hu
  have tn : ¬ TL T = [] := by simp [TL, n0']
  have g := fun (y15 : Sl) => ch_19 (A0 := A0) (A1 := A1) (A2 := A2) (A4 := A4) (A5 := A5) (A8 := A8) (x10 := x10) (x12 := x12) (x14 := x14) (x15 := y15) (x16 := x16) (x17 := x17) (x18 := x18) (x19 := x19) (ik := ik) h24 hN hN2 e12 (T := T.drop u.toNat ++ T.take u.toNat) (fun t ht => by
    rcases List.mem_append.mp ht with z | z
    · exact hT t (List.mem_of_mem_drop z)
    · exact hT t (List.mem_of_mem_take z)) (by simp [List.length_take, List.length_drop]; omega) h1 h2
  rw [d, evSs_consR]
  generalize hR : Pv.rest Z_L_chain _ = R
  generalize TL (T.drop u.toNat ++ T.take u.toNat) = TR at *
  generalize TL (T.drop u.toNat) = TD at *
  generalize TL (T.take u.toNat) = TK at *
  generalize TL T = TT' at *
  have e : evS Z_L_chain (.asg (.nm 15) (.bin .mod (.blt .int [.ix (.v 3) (.c (.int 9))]) (.blt .len [.v 9]))) (CH A0 A1 A2 hd A4 A5 ik N A8 (.v (.lst TT')) x10 sh x12 bs x14 x15 x16 x17 x18 x19) = some (.nx (CH A0 A1 A2 hd A4 A5 ik N A8 (.v (.lst TT')) x10 sh x12 bs x14 (.v (.int u)) x16 x17 x18 x19)) := by
    simp only [evS_asg, evE_bin, evE_blt, evL_cons, evL_nil, evE_ix]
    simp [e9, tn, hu']
  rw [e, bind_someX]
  subst hR
  rw [rest_nx, evSs_consR]
  generalize hR : Pv.rest Z_L_chain _ = R
  simp [s1, s2, ad]
  subst hR
  rw [rest_nx]
  exact g _
theorem ch_16 (h24 : hd.length = 24) (hN : 1 ≤ N) (hN2 : N ≤ 23) {h5 h9 h12 : Int} (e5 : atI (hd.map D.int) 5 = some (.int h5)) (e9 : atI (hd.map D.int) 9 = some (.int h9)) (e12 : atI (hd.map D.int) 12 = some (.int h12)) {T : List (List Nat)} (hT : ∀ t ∈ T, Tx N t) (hl0 : 1 ≤ T.length) (hl : T.length ≤ 24) {sh bs : List Nat} (h1 : Lay (N + 1) sh) (h2 : Lay (N + 1) bs) :
    Good ((evSs Z_L_chain (ir_L_chain.drop 16) (CH A0 A1 A2 hd A4 A5 ik N A8 (.v (.lst (TL T))) x10 sh x12 bs x14 x15 x16 x17 x18 x19)).bind endD) := by
  have d : ir_L_chain.drop 16 = .ifs (.cmp .eq (.ix (.v 3) (.c (.int 5))) (.c (.int 1))) [.asg (.nm 9) (.lc [("_law_text_here", 19)] (.nm 19) (.seq (.v 9)) (.c (.bl true)) (.u1 .rev (.v 19))), .asg (.nm 11) (.u1 .rev (.v 11)), .asg (.nm 13) (.u1 .rev (.v 13))] [] :: ir_L_chain.drop 17 := rfl
  rw [d, evSs_consR]
  generalize hR : Pv.rest Z_L_chain (ir_L_chain.drop 17) = R
  by_cases h : h5 = 1
  · have g := fun (y19 : Sl) => ch_17 (A0 := A0) (A1 := A1) (A2 := A2) (A4 := A4) (A5 := A5) (A8 := A8) (x10 := x10) (x12 := x12) (x14 := x14) (x15 := x15) (x16 := x16) (x17 := x17) (x18 := x18) (x19 := y19) (ik := ik) h24 hN hN2 e9 e12 (T := T.map List.reverse) (fun t ht => by
      obtain ⟨t', ht', rfl⟩ := List.mem_map.mp ht
      exact (hT t' ht').rev) (by simpa using hl0) (by simpa using hl) h1.rev h2.rev
    have comp : ∀ B0 B1 B2 B3 B4 B5 B6 B7 B8 B9 B10 B11 B12 B13 B14 B15 B16 B17 B18 : Sl, lcL (.nm 19) (evE Z_L_chain (.c (.bl true))) (evE Z_L_chain (.u1 .rev (.v 19))) [B0, B1, B2, B3, B4, B5, B6, B7, B8, B9, B10, B11, B12, B13, B14, B15, B16, B17, B18, .no] (TL T) = some (TL (T.map List.reverse)) := by
      intro B0 B1 B2 B3 B4 B5 B6 B7 B8 B9 B10 B11 B12 B13 B14 B15 B16 B17 B18
      rw [lcL_of (fun t : List Nat => D.str t) (fun _ => true) (fun t => D.str t.reverse)]
      · rw [List.filter_eq_self.mpr (by simp)]
        simp [TL]
      · intro t ht
        have lt : t.length ≤ 16777216 := by have := (hT t ht).lt; omega
        refine ⟨_, rfl, rfl, fun _ => ?_⟩
        simp [u1D, lt]
    have r1 : u1D .rev (.str sh) = some (.str sh.reverse) := by
      show (if sh.length ≤ line then _ else _) = _
      rw [if_pos (by show _ ≤ 16777216; have := h1.len; omega)]
    have r2 : u1D .rev (.str bs) = some (.str bs.reverse) := by
      show (if bs.length ≤ line then _ else _) = _
      rw [if_pos (by show _ ≤ 16777216; have := h2.len; omega)]
    have lt : (TL T).length ≤ 16777216 := by simp; omega
    generalize TL (T.map List.reverse) = TR at *
    generalize TL T = TT' at *
    generalize sh.reverse = sr at *
    generalize bs.reverse = br at *
    simp [e5, h, lt, wipeD]
    rw [comp]
    simp [r1, r2]
    subst hR
    rw [rest_nx]
    exact g _
  · have g := ch_17 (A0 := A0) (A1 := A1) (A2 := A2) (A4 := A4) (A5 := A5) (A8 := A8) (x10 := x10) (x12 := x12) (x14 := x14) (x15 := x15) (x16 := x16) (x17 := x17) (x18 := x18) (x19 := x19) (ik := ik) h24 hN hN2 e9 e12 hT hl0 hl h1 h2
    simp [e5, h]
    subst hR
    rw [rest_nx]
    exact g
theorem ch_15 (h24 : hd.length = 24) (hN : 1 ≤ N) (hN2 : N ≤ 23) {h5 h6 h9 h12 : Int} (e5 : atI (hd.map D.int) 5 = some (.int h5)) (e6 : atI (hd.map D.int) 6 = some (.int h6)) (e9 : atI (hd.map D.int) 9 = some (.int h9)) (e12 : atI (hd.map D.int) 12 = some (.int h12)) {T : List (List Nat)} (hT : ∀ t ∈ T, Tx N t) (hl0 : 1 ≤ T.length) (hl : T.length ≤ 23) {p : Nat} (hp : h6 = 2 → p < T.length) {sh bs : List Nat} (h1 : Lay (N + 1) sh) (h2 : Lay (N + 1) bs) :
    Good ((evSs Z_L_chain (ir_L_chain.drop 15) (CH A0 A1 A2 hd A4 A5 ik N A8 (.v (.lst (TL T))) x10 sh x12 bs (.v (.int (p : Nat))) x15 x16 x17 x18 x19)).bind endD) := by
  have d : ir_L_chain.drop 15 = .ifs (.cmp .eq (.ix (.v 3) (.c (.int 6))) (.c (.int 2))) [.asg (.nm 9) (.bin .add (.v 9) (.lst [.ix (.v 9) (.v 14)]))] [] :: ir_L_chain.drop 16 := rfl
  rw [d, evSs_consR]
  generalize hR : Pv.rest Z_L_chain (ir_L_chain.drop 16) = R
  by_cases h : h6 = 2
  · have hp' := hp h
    have hm : T[p] ∈ T := List.getElem_mem hp'
    have g := ch_16 (A0 := A0) (A1 := A1) (A2 := A2) (A4 := A4) (A5 := A5) (A8 := A8) (x10 := x10) (x12 := x12) (x14 := .v (.int (p : Nat))) (x15 := x15) (x16 := x16) (x17 := x17) (x18 := x18) (x19 := x19) (ik := ik) h24 hN hN2 e5 e9 e12 (T := T ++ [T[p]]) (fun t ht => by
      rcases List.mem_append.mp ht with z | z
      · exact hT t z
      · rw [List.mem_singleton.mp z]; exact hT _ hm) (by simp) (by simp; omega) h1 h2
    have hat : atI (TL T) ((p : Nat) : Int) = some (.str T[p]) := atI_of (by omega) (by simp [hp'])
    have ad : binD .add (.lst (TL T)) (.lst [.str T[p]]) = some (.lst (TL (T ++ [T[p]]))) := by
      show (if (TL T).length + [D.str T[p]].length ≤ line then _ else _) = _
      rw [if_pos (by show _ ≤ 16777216; simp; omega)]
      simp [TL]
    have lt : (TL T).length ≤ 16777215 := by simp; omega
    have eq : TL (T ++ [T[p]]) = TL T ++ [.str T[p]] := by simp [TL]
    rw [eq] at g
    generalize TL T = TT' at *
    generalize T[p] = tp at *
    simp [e6, h, hat, lt]
    subst hR
    rw [rest_nx]
    exact g
  · have g := ch_16 (A0 := A0) (A1 := A1) (A2 := A2) (A4 := A4) (A5 := A5) (A8 := A8) (x10 := x10) (x12 := x12) (x14 := .v (.int (p : Nat))) (x15 := x15) (x16 := x16) (x17 := x17) (x18 := x18) (x19 := x19) (ik := ik) h24 hN hN2 e5 e9 e12 hT hl0 (by omega) h1 h2
    simp [e6, h]
    subst hR
    rw [rest_nx]
    exact g
theorem ch_14 (h24 : hd.length = 24) (hN : 2 ≤ N) (hN2 : N ≤ 23) {h5 h6 h9 h12 : Int} (e5 : atI (hd.map D.int) 5 = some (.int h5)) (e6 : atI (hd.map D.int) 6 = some (.int h6)) (e9 : atI (hd.map D.int) 9 = some (.int h9)) (e12 : atI (hd.map D.int) 12 = some (.int h12)) {T : List (List Nat)} (hT : ∀ t ∈ T, Tx N t) (hl : T.length = N) {p : Nat} (hp : h6 ≠ 0 → p < N) {sh bs : List Nat} (h1 : Lay (N + 1) sh) (h2 : Lay (N + 1) bs) :
    Good ((evSs Z_L_chain (ir_L_chain.drop 14) (CH A0 A1 A2 hd A4 A5 ik N A8 (.o (.lst (TL T))) x10 sh x12 bs (.v (.int (p : Nat))) x15 x16 x17 x18 x19)).bind endD) := by
  have d : ir_L_chain.drop 14 = .ifs (.cmp .eq (.ix (.v 3) (.c (.int 6))) (.c (.int 1))) [.frz 9, .asg (.nm 9) (.bin .add (.sl (.v 9) .nil (.last (.v 14))) (.sl (.v 9) (.last (.bin .add (.v 14) (.c (.int 1)))) .nil))] [.frz 9] :: ir_L_chain.drop 15 := rfl
  rw [d, evSs_consR]
  generalize hR : Pv.rest Z_L_chain (ir_L_chain.drop 15) = R
  by_cases h : h6 = 1
  · have hp' := hp (by omega)
    have g := ch_15 (A0 := A0) (A1 := A1) (A2 := A2) (A4 := A4) (A5 := A5) (A8 := A8) (x10 := x10) (x12 := x12) (x15 := x15) (x16 := x16) (x17 := x17) (x18 := x18) (x19 := x19) (ik := ik) h24 (by omega) hN2 e5 e6 e9 e12 (T := T.take p ++ T.drop (p + 1)) (p := p) (fun t ht => by
      rcases List.mem_append.mp ht with z | z
      · exact hT t (List.mem_of_mem_take z)
      · exact hT t (List.mem_of_mem_drop z)) (by simp [List.length_take, List.length_drop]; omega) (by simp [List.length_take, List.length_drop]; omega) (fun z => by omega) h1 h2
    have s1 : slD none (some ((p : Nat) : Int)) (.lst (TL T)) = some (.lst (TL (T.take p))) := by
      show some (D.lst (cutD (TL T) none (some ((p : Nat) : Int)))) = _
      rw [cut_to _ _ (by omega)]
      simp [TL, List.map_take]
    have s2 : slD (some (((p : Nat) : Int) + 1)) none (.lst (TL T)) = some (.lst (TL (T.drop (p + 1)))) := by
      show some (D.lst (cutD (TL T) (some (((p : Nat) : Int) + 1)) none)) = _
      rw [cut_from _ _ (by omega), show (((p : Nat) : Int) + 1).toNat = p + 1 by omega]
      simp [TL, List.map_drop]
    have ad : binD .add (.lst (TL (T.take p))) (.lst (TL (T.drop (p + 1)))) = some (.lst (TL (T.take p ++ T.drop (p + 1)))) := by
      show (if (TL (T.take p)).length + (TL (T.drop (p + 1))).length ≤ line then _ else _) = _
      rw [if_pos (by show _ ≤ 16777216; simp [List.length_take, List.length_drop]; omega)]
      simp [TL]
    generalize TL (T.take p ++ T.drop (p + 1)) = TR at *
    generalize TL (T.take p) = TK at *
    generalize TL (T.drop (p + 1)) = TD at *
    generalize TL T = TT' at *
    simp [e6, h, frzD, s1, s2, ad]
    subst hR
    rw [rest_nx]
    exact g
  · have g := ch_15 (A0 := A0) (A1 := A1) (A2 := A2) (A4 := A4) (A5 := A5) (A8 := A8) (x10 := x10) (x12 := x12) (x15 := x15) (x16 := x16) (x17 := x17) (x18 := x18) (x19 := x19) (ik := ik) h24 (by omega) hN2 e5 e6 e9 e12 hT (p := p) (by omega) (by omega) (fun z => by rw [hl]; exact hp (by omega)) h1 h2
    generalize TL T = TT' at *
    simp [e6, h, frzD]
    subst hR
    rw [rest_nx]
    exact g
end
end K10

set_option Elab.async false
set_option linter.all false
set_option maxRecDepth 100000
set_option maxHeartbeats 4000000
namespace K10
open PySem L2 Pv
section
variable {A0 A1 A2 A4 A5 A8 x10 x11 x12 x13 x14 x15 x16 x17 x18 x19 : Sl} {hd : List Int} {ik : List Nat} {N : Nat}
theorem lay_cut {n : Nat} {x : List Nat} (h : Lay (n + 1) x) {q : Nat} (hq : q ≤ n) : Lay (n + 1) (x.take q ++ ([45] ++ x.drop (q + 1))) := by
  have := h.len
  refine ⟨by simp [List.length_take, List.length_drop]; omega, fun c hc => ?_⟩
  rcases List.mem_append.mp hc with z | z
  · exact h.sg c (List.mem_of_mem_take z)
  · rcases List.mem_append.mp z with z | z
    · rw [List.mem_singleton.mp z]; decide
    · exact h.sg c (List.mem_of_mem_drop z)
theorem ch_12 (h24 : hd.length = 24) (hN : 2 ≤ N) (hN2 : N ≤ 23) {h5 h6 h7 h8 h9 h12 : Int} (e5 : atI (hd.map D.int) 5 = some (.int h5)) (e6 : atI (hd.map D.int) 6 = some (.int h6)) (e7 : atI (hd.map D.int) 7 = some (.int h7)) (e8 : atI (hd.map D.int) 8 = some (.int h8)) (e9 : atI (hd.map D.int) 9 = some (.int h9)) (e12 : atI (hd.map D.int) 12 = some (.int h12))
    {T : List (List Nat)} (hT : ∀ t ∈ T, Tx N t) (hl : T.length = N) {sh bs : List Nat} (h1 : Lay (N + 1) sh) (h2 : Lay (N + 1) bs) :
    Good ((evSs Z_L_chain (ir_L_chain.drop 12) (CH A0 A1 A2 hd A4 A5 ik N A8 (.o (.lst (TL T))) x10 sh x12 bs x14 x15 x16 x17 x18 x19)).bind endD) := by
  have d : ir_L_chain.drop 12 = .asg (.nm 14) (.bin .mod (.blt .int [.ix (.v 3) (.c (.int 8))]) (.v 7)) :: .ifs (.cmp .eq (.ix (.v 3) (.c (.int 6))) (.c (.int 0))) [.asg (.nm 14) (.bin .mod (.blt .int [.ix (.v 3) (.c (.int 7))]) (.bin .add (.v 7) (.c (.int 1)))), .asg (.nm 11) (.bin .add (.bin .add (.sl (.v 11) .nil (.last (.v 14))) (.c (.str [45]))) (.sl (.v 11) (.last (.bin .add (.v 14) (.c (.int 1)))) .nil))] [] :: ir_L_chain.drop 14 := rfl
  have f8 := fmodp h8 N (by omega)
  have f7 := fmodp h7 ((N : Int) + 1) (by omega)
  have n0 : ¬ ((N : Nat) : Int) = 0 := by omega
  have n0' : ¬ N = 0 := by omega
  have n1 : ¬ ((N : Nat) : Int) + 1 = 0 := by omega
  obtain ⟨p, hp⟩ : ∃ p : Nat, h8.fmod N = (p : Int) := ⟨(h8.fmod N).toNat, by omega⟩
  obtain ⟨q, hq⟩ : ∃ q : Nat, h7.fmod ((N : Int) + 1) = (q : Int) := ⟨(h7.fmod ((N : Int) + 1)).toNat, by omega⟩
  have pN : p < N := by omega
  have qN : q ≤ N := by omega
  have shl := h1.len
  rw [d, evSs_consR]
  generalize hR : Pv.rest Z_L_chain _ = R
  generalize hTT : TL T = TT' at *
  simp [e8, n0, n0', hp]
  subst hR
  rw [rest_nx, evSs_consR]
  generalize hR : Pv.rest Z_L_chain _ = R
  by_cases h : h6 = 0
  · have g := ch_14 (A0 := A0) (A1 := A1) (A2 := A2) (A4 := A4) (A5 := A5) (A8 := A8) (x10 := x10) (x12 := x12) (x15 := x15) (x16 := x16) (x17 := x17) (x18 := x18) (x19 := x19) (ik := ik) h24 hN hN2 e5 e6 e9 e12 hT hl (p := q) (fun z => absurd h z) (lay_cut h1 qN) h2
    have s1 : slD none (some ((q : Nat) : Int)) (.str sh) = some (.str (sh.take q)) := by
      show (if sh.length ≤ line then some (D.str (cutD sh none (some ((q : Nat) : Int)))) else none) = _
      rw [if_pos (by show _ ≤ 16777216; omega), cut_to _ _ (by omega)]
      rfl
    have s2 : slD (some (((q : Nat) : Int) + 1)) none (.str sh) = some (.str (sh.drop (q + 1))) := by
      show (if sh.length ≤ line then some (D.str (cutD sh (some (((q : Nat) : Int) + 1)) none)) else none) = _
      rw [if_pos (by show _ ≤ 16777216; omega), cut_from _ _ (by omega), show (((q : Nat) : Int) + 1).toNat = q + 1 by omega]
    have a1 : binD .add (.str (sh.take q)) (.str [45]) = some (.str (sh.take q ++ [45])) := by
      show (if (sh.take q).length + [45].length ≤ line then _ else _) = _
      rw [if_pos (by show _ ≤ 16777216; simp [List.length_take]; omega)]
    have a2 : binD .add (.str (sh.take q ++ [45])) (.str (sh.drop (q + 1))) = some (.str (sh.take q ++ ([45] ++ sh.drop (q + 1)))) := by
      show (if (sh.take q ++ [45]).length + (sh.drop (q + 1)).length ≤ line then some (D.str (sh.take q ++ [45] ++ sh.drop (q + 1))) else none) = _
      rw [if_pos (by show _ ≤ 16777216; simp [List.length_take, List.length_drop]; omega), List.append_assoc]
    rw [hTT] at g
    have lS : (sh.take q).length + (sh.drop (q + 1)).length ≤ 1000 := by simp [List.length_take, List.length_drop]; omega
    have lA : (sh.take q).length ≤ 16777215 := by omega
    have lB : (sh.take q).length + ((sh.drop (q + 1)).length + 1) ≤ 16777216 := by omega
    have lC : (sh.take q).length + 1 + (sh.drop (q + 1)).length ≤ 16777216 := by omega
    generalize sh.take q = S1 at *
    generalize sh.drop (q + 1) = S0 at *
    have key : evS Z_L_chain (.ifs (.cmp .eq (.ix (.v 3) (.c (.int 6))) (.c (.int 0))) [.asg (.nm 14) (.bin .mod (.blt .int [.ix (.v 3) (.c (.int 7))]) (.bin .add (.v 7) (.c (.int 1)))), .asg (.nm 11) (.bin .add (.bin .add (.sl (.v 11) .nil (.last (.v 14))) (.c (.str [45]))) (.sl (.v 11) (.last (.bin .add (.v 14) (.c (.int 1)))) .nil))] [])
        (CH A0 A1 A2 hd A4 A5 ik N A8 (.o (.lst TT')) x10 sh x12 bs (.v (.int (p : Nat))) x15 x16 x17 x18 x19) = some (.nx (CH A0 A1 A2 hd A4 A5 ik N A8 (.o (.lst TT')) x10 (S1 ++ ([45] ++ S0)) x12 bs (.v (.int (q : Nat))) x15 x16 x17 x18 x19)) := by
      simp [e6, h, e7, n1, hq, s1, s2, lA]
      simp [lA, lB, lC]
    have key' := key
    rw [key', bind_someX]
    subst hR
    rw [rest_nx]
    exact g
  · have g := ch_14 (A0 := A0) (A1 := A1) (A2 := A2) (A4 := A4) (A5 := A5) (A8 := A8) (x10 := x10) (x12 := x12) (x15 := x15) (x16 := x16) (x17 := x17) (x18 := x18) (x19 := x19) (ik := ik) h24 hN hN2 e5 e6 e9 e12 hT hl (p := p) (fun _ => pN) h1 h2
    rw [hTT] at g
    simp [e6, h]
    subst hR
    rw [rest_nx]
    exact g
end
end K10

set_option Elab.async false
set_option linter.all false
set_option maxRecDepth 100000
set_option maxHeartbeats 4000000
namespace K10
open PySem L2 Pv
section
variable {A0 A1 A2 A4 A5 A8 x10 x11 x12 x13 x14 x15 x16 x17 x18 x19 : Sl} {hd : List Int} {ik : List Nat} {N : Nat}
theorem g_sg {n : Nat} {x : List Nat} (h : Lay n x) {k : Nat} (hk : k < n) : g x k ∈ sgnL := by
  have hk' : k < x.length := by rw [h.len]; exact hk
  rw [g_eq hk']
  exact h.sg _ (List.getElem_mem hk')
theorem ch_9 (h24 : hd.length = 24) (hN : 2 ≤ N) (hN2 : N ≤ 23) {h5 h6 h7 h8 h9 h10 h11 h12 : Int} (e5 : atI (hd.map D.int) 5 = some (.int h5)) (e6 : atI (hd.map D.int) 6 = some (.int h6)) (e7 : atI (hd.map D.int) 7 = some (.int h7)) (e8 : atI (hd.map D.int) 8 = some (.int h8)) (e9 : atI (hd.map D.int) 9 = some (.int h9))
    (e10 : atI (hd.map D.int) 10 = some (.int h10)) (p10 : 0 ≤ h10 ∧ h10 < 2) (e11 : atI (hd.map D.int) 11 = some (.int h11)) (e12 : atI (hd.map D.int) 12 = some (.int h12))
    {T : List (List Nat)} (hT : ∀ t ∈ T, Tx N t) (hl : T.length = N) {sg : List Int} (hsg : sg.length = 25) {oc : Nat} (hoc : oc ∈ sgnL) :
    Good ((evSs Z_L_chain (ir_L_chain.drop 9) [A0, A1, A2, .v (.lst (hd.map D.int)), A4, .v (.lst (sg.map D.int)), .v (.str ik), .v (.int (N : Nat)), .v (.str [oc]), .o (.lst (TL T)), x10, x11, x12, x13, x14, x15, x16, x17, x18, x19]).bind endD) := by
  have d : ir_L_chain.drop 9 = .asg (.nm 11) (.bin .add (.join (.c (.str [])) (.lc [("_law_k", 10)] (.nm 10) (.r1 (.v 7)) (.c (.bl true)) (.ix (.ixo 9 (.v 10)) (.v 10)))) (.ix (.ixo 9 (.bin .sub (.v 7) (.c (.int 1)))) (.v 7))) ::
    .asg (.nm 12) (.bin .mul (.blt .int [.ix (.v 3) (.c (.int 10))]) (.bin .mod (.blt .int [.ix (.v 3) (.c (.int 11))]) (.bin .add (.v 7) (.c (.int 1))))) ::
    .asg (.nm 13) (.join (.c (.str [])) (.lc [("_law_k", 10)] (.nm 10) (.r1 (.bin .add (.v 7) (.c (.int 1)))) (.c (.bl true)) (.ix (.lst [.ix (.v 11) (.v 10), .v 8]) (.blt .int [.and (.cmp .ge (.v 10) (.v 12)) (.last (.cmp .eq (.ix (.v 5) (.v 10)) (.c (.int 0))))])))) :: ir_L_chain.drop 12 := rfl
  have tx : ∀ k, (hk : k < N) → Tx N (T[k]'(by omega)) := fun k hk => hT _ (List.getElem_mem _)
  have atT : ∀ k, (hk : k < N) → atI (TL T) ((k : Nat) : Int) = some (.str (T[k]'(by omega))) := fun k hk => atI_of (by omega) (by simp [hl, hk])
  have okN : okR (N : Int) = true := by unfold okR; simp; omega
  have okN1 : okR ((N : Int) + 1) = true := by unfold okR; simp; omega
  have limN : N ≤ 16777216 := by omega
  let fT : Nat → Nat := fun k => if h : k < N then g (T[k]'(by omega)) k else 45
  have fTs : ∀ k, fT k ∈ sgnL := fun k => by
    by_cases h : k < N
    · simp only [fT, dif_pos h]
      exact g_sg (tx k h).lay (by omega)
    · simp only [fT, dif_neg h]; decide
  have c1 : ∀ B0 B1 B2 B3 B4 B5 B6 B7 B8 B11 B12 B13 B14 B15 B16 B17 B18 B19 : Sl, lcL (.nm 10) (evE Z_L_chain (.c (.bl true))) (evE Z_L_chain (.ix (.ixo 9 (.v 10)) (.v 10))) [B0, B1, B2, B3, B4, B5, B6, B7, B8, .o (.lst (TL T)), .no, B11, B12, B13, B14, B15, B16, B17, B18, B19] (rngD 0 N) = some ((List.range N).map fun k => D.str [fT k]) := by
    intro B0 B1 B2 B3 B4 B5 B6 B7 B8 B11 B12 B13 B14 B15 B16 B17 B18 B19
    rw [lcL_rng (g := fun k => D.str [fT k])]
    intro k hk
    have e1 := atT k hk
    have ln := (tx k hk).lt
    have hk' : k < (T[k]'(by omega)).length := by omega
    have l16 : (T[k]'(by omega)).length ≤ 16777216 := by omega
    refine ⟨rfl, ?_⟩
    simp only [fT, dif_pos hk]
    rw [g_eq hk']
    simp [e1, atI_k hk', l16]
  have jn := join_signsC fT N (by omega)
  have lastk : N - 1 < N := by omega
  have eL1 : ((N : Nat) : Int) - 1 = ((N - 1 : Nat) : Int) := by omega
  have eL2 := atT (N - 1) lastk
  have ln := (tx (N - 1) lastk).lt
  have hkN : N < (T[N - 1]'(by omega)).length := by omega
  have l16 : (T[N - 1]'(by omega)).length ≤ 16777216 := by omega
  have eL3 := atI_k hkN
  have sg3 : (T[N - 1]'(by omega))[N] ∈ sgnL := by
    have := g_sg (tx (N - 1) lastk).lay (k := N) (by omega)
    rwa [g_eq hkN] at this
  generalize hlast : (T[N - 1]'(by omega))[N] = cl at *
  have shL : Lay (N + 1) ((List.range N).map fT ++ [cl]) := by
    refine ⟨by simp, fun c hc => ?_⟩
    rcases List.mem_append.mp hc with z | z
    · obtain ⟨k, _, rfl⟩ := List.mem_map.mp z
      exact fTs k
    · rw [List.mem_singleton.mp z]; exact sg3
  have shlen := shL.len
  have sl16 : ((List.range N).map fT).length + 1 ≤ 16777216 := by simp; omega
  have fp := fmodp h11 ((N : Int) + 1) (by omega)
  have n1 : ¬ ((N : Nat) : Int) + 1 = 0 := by omega
  generalize hv : h11.fmod ((N : Int) + 1) = v at *
  have mo : mulOk h10 v = true := mulOk_of (a := 4) (b := 8) (by omega) (by omega) (by decide) (by decide) (by decide)
  generalize hlw : h10 * v = lw at *
  let fB : List Nat → Nat → Nat := fun sh k => if lw ≤ (k : Int) ∧ sg.getD k 0 = 0 then oc else g sh k
  have c2 : ∀ (sh : List Nat), Lay (N + 1) sh → ∀ B0 B1 B2 B3 B4 B6 B7 B9 B13 B14 B15 B16 B17 B18 B19 : Sl, lcL (.nm 10) (evE Z_L_chain (.c (.bl true))) (evE Z_L_chain (.ix (.lst [.ix (.v 11) (.v 10), .v 8]) (.blt .int [.and (.cmp .ge (.v 10) (.v 12)) (.last (.cmp .eq (.ix (.v 5) (.v 10)) (.c (.int 0))))]))) [B0, B1, B2, B3, B4, .v (.lst (sg.map D.int)), B6, B7, .v (.str [oc]), B9, .no, .v (.str sh), .v (.int lw), B13, B14, B15, B16, B17, B18, B19] (rngD 0 (N + 1)) = some ((List.range (N + 1)).map fun k => D.str [fB sh k]) := by
    intro sh hsh B0 B1 B2 B3 B4 B6 B7 B9 B13 B14 B15 B16 B17 B18 B19
    rw [lcL_rng (g := fun k => D.str [fB sh k])]
    intro k hk
    have hk' : k < sh.length := by rw [hsh.len]; exact hk
    have s16 : sh.length ≤ 16777216 := by rw [hsh.len]; omega
    have e1 := atG sg k (by omega)
    refine ⟨rfl, ?_⟩
    simp only [fB]
    rw [g_eq hk']
    generalize sg.getD k 0 = sk at *
    by_cases c1 : lw ≤ (k : Int)
    · by_cases c2 : sk = 0
      · simp [atI_k hk', s16, e1, c1, c2]
      · simp [atI_k hk', s16, e1, c1, c2]
    · simp [atI_k hk', s16, e1, c1]
  have bsL : ∀ (sh : List Nat), Lay (N + 1) sh → Lay (N + 1) ((List.range (N + 1)).map (fB sh)) := fun sh hsh => by
    refine ⟨by simp, fun c hc => ?_⟩
    obtain ⟨k, hk, rfl⟩ := List.mem_map.mp hc
    have hk' := List.mem_range.mp hk
    simp only [fB]
    split
    · exact hoc
    · exact g_sg hsh hk'
  have jn2 := fun sh => join_signsC (fB sh) (N + 1) (by omega)
  rw [d, evSs_consR]
  generalize hR : Pv.rest Z_L_chain _ = R
  generalize hsh : (List.range N).map fT ++ [cl] = sh at *
  have hjn : ∀ X : List D, X = ((List.range N).map fun k => D.str [fT k]) → joinD (.str []) (.lst X) = some (.str ((List.range N).map fT)) := fun X h => by rw [h]; exact jn
  generalize hTT : TL T = TT' at *
  generalize hfl : (List.range N).map fT = fl at *
  generalize hfd : ((List.range N).map fun k => D.str [fT k]) = fd at *
  have hjn' := hjn _ rfl
  simp [okN, wipeD]
  rw [rng_len, if_pos limN, c1]
  have l15 : fl.length ≤ 16777215 := by omega
  simp [hjn', eL1, eL2, l16, eL3, l15, hsh]
  subst hR
  rw [rest_nx, evSs_consR]
  generalize hR : Pv.rest Z_L_chain _ = R
  simp [e10, e11, n1, hv, mo, hlw]
  subst hR
  rw [rest_nx, evSs_consR]
  generalize hR : Pv.rest Z_L_chain _ = R
  have tn : (((N : Nat) : Int) + 1).toNat = N + 1 := by omega
  have limN1 : N + 1 ≤ 16777216 := by omega
  have c2' := c2 sh shL
  have jn2' := jn2 sh
  have g12 := fun (y10 : Sl) => ch_12 (A0 := A0) (A1 := A1) (A2 := A2) (A4 := A4) (A5 := .v (.lst (sg.map D.int))) (A8 := .v (.str [oc])) (x10 := y10) (x12 := .v (.int lw)) (x14 := x14) (x15 := x15) (x16 := x16) (x17 := x17) (x18 := x18) (x19 := x19) (ik := ik) h24 hN hN2 e5 e6 e7 e8 e9 e12 hT hl shL (bsL sh shL)
  rw [hTT] at g12
  generalize hfb : (List.range (N + 1)).map (fB sh) = bs at *
  generalize hfd2 : ((List.range (N + 1)).map fun k => D.str [fB sh k]) = fd2 at *
  simp [okN1, wipeD, tn]
  rw [rng_len, if_pos limN1, c2']
  simp [jn2']
  subst hR
  rw [rest_nx]
  exact g12 _
end
end K10

set_option Elab.async false
set_option linter.all false
set_option maxRecDepth 100000
set_option maxHeartbeats 4000000
namespace K10
open PySem L2 Pv
theorem str_add (x y : List Nat) (h : x.length + y.length ≤ 1000) : binD .add (.str x) (.str y) = some (.str (x ++ y)) := by
  show (if x.length + y.length ≤ line then _ else _) = _
  rw [if_pos (by show _ ≤ 16777216; omega)]
theorem mul_dash (k : Nat) (h : k ≤ 1000) : binD .mul (.str [45]) (.int ((k : Nat) : Int)) = some (.str (List.replicate k 45)) := by
  have h1 : repOk 1 ((k : Nat) : Int) = true := by simp [repOk]; omega
  simp only [binD]
  rw [if_pos (show repOk [45].length ((k : Nat) : Int) = true from h1), Int.toNat_natCast]
  rw [List.flatten_replicate_singleton]
def chB : List S := [.asg (.nm 17) (.ix (.v 6) (.blt .int [.ix (.v 4) (.bin .add (.c (.int 24)) (.v 10))])), .ifs (.cmp .lt (.bin .add (.v 10) (.c (.int 1))) (.v 7)) [.asg (.nm 17) (.ix (.v 6) (.bin .mod (.blt .int [.bin .add (.bin .add (.ix (.v 4) (.bin .add (.v 10) (.c (.int 1)))) (.c (.int 1))) (.ix (.v 4) (.bin .add (.c (.int 24)) (.v 10)))]) (.c (.int 3))))] [], .app 9 (.bin .add (.bin .add (.bin .add (.bin .mul (.c (.str [45])) (.v 10)) (.ix (.v 6) (.blt .int [.ix (.v 4) (.v 10)]))) (.v 17)) (.bin .mul (.c (.str [45])) (.bin .sub (.bin .sub (.v 7) (.c (.int 1))) (.v 10))))]
theorem tx_made {N k m s : Nat} (hk : k < N) (hm : m ∈ mrkL) (hs : s ∈ mrkL) : Tx N (List.replicate k 45 ++ [m] ++ [s] ++ List.replicate (N - 1 - k) 45) := by
  refine ⟨⟨by simp; omega, fun c hc => ?_⟩, fun e => ?_⟩
  · simp only [List.mem_append, List.mem_replicate, List.mem_singleton] at hc
    rcases hc with ((⟨_, rfl⟩ | rfl) | rfl) | ⟨_, rfl⟩
    · decide
    · exact (mrk_sgn hm).1
    · exact (mrk_sgn hs).1
    · decide
  · have h1 : m ∈ List.replicate (N + 1) 45 := by rw [← e]; simp
    exact (mrk_sgn hm).2 (List.mem_replicate.mp h1).2
section
variable {A0 A1 A2 A3 A5 A8 A11 A12 A13 A14 A15 A16 A18 A19 : Sl}
theorem ch_loop {a b c : Nat} (ha : a ∈ mrkL) (hb : b ∈ mrkL) (hc : c ∈ mrkL) {ln : List Int} (h48 : ln.length = 48) (b1 : ∀ k, k < 24 → 0 ≤ ln.getD k 0 ∧ ln.getD k 0 < 3) (b2 : ∀ k, k < 24 → 0 ≤ ln.getD (24 + k) 0 ∧ ln.getD (24 + k) 0 < 2) {N : Nat} (hN2 : N ≤ 23) :
    ∀ (m k : Nat) (T : List (List Nat)) (x10 x17 : Sl), k + m = N → T.length = k → (∀ t ∈ T, Tx N t) →
      ∃ T' y10 y17, forL (.nm 10) (evSs Z_L_chain chB) (rngD ((k : Nat) : Int) m) [A0, A1, A2, A3, .v (.lst (ln.map D.int)), A5, .v (.str [a, b, c]), .v (.int (N : Nat)), A8, .o (.lst (TL T)), x10, A11, A12, A13, A14, A15, A16, x17, A18, A19] =
        some (.nx [A0, A1, A2, A3, .v (.lst (ln.map D.int)), A5, .v (.str [a, b, c]), .v (.int (N : Nat)), A8, .o (.lst (TL T')), y10, A11, A12, A13, A14, A15, A16, y17, A18, A19]) ∧ T'.length = N ∧ ∀ t ∈ T', Tx N t := by
  intro m
  induction m with
  | zero => exact fun k T x10 x17 hk hl hT => ⟨T, x10, x17, by simp [rngD], by omega, hT⟩
  | succ m ih =>
    intro k T x10 x17 hk hl hT
    have hkN : k < N := by omega
    have pickI : ∀ i : Int, 0 ≤ i → i < 3 → ∃ x, atI [a, b, c] i = some x ∧ x ∈ mrkL := fun i i0 i3 => by
      obtain ⟨x, h1, h2⟩ := atI_in (xs := [a, b, c]) i0 (by simpa using i3)
      refine ⟨x, h1, ?_⟩
      simp only [List.mem_cons, List.not_mem_nil, or_false] at h2
      rcases h2 with rfl | rfl | rfl <;> assumption
    have l0 := atG ln k (by omega)
    have l1 := atG ln (24 + k) (by omega)
    have l1' : atI (ln.map D.int) (24 + ((k : Nat) : Int)) = some (.int (ln.getD (24 + k) 0)) := by
      have : ((24 + k : Nat) : Int) = 24 + ((k : Nat) : Int) := by omega
      rw [← this]; exact l1
    have p0 := b1 k (by omega)
    have p1 := b2 k (by omega)
    generalize ln.getD k 0 = d0 at *
    generalize ln.getD (24 + k) 0 = d1 at *
    obtain ⟨mk, m1, m2⟩ := pickI d0 p0.1 p0.2
    obtain ⟨s1, s2, s3⟩ := pickI d1 p1.1 (by omega)
    have ec : ((k : Nat) : Int) + 1 = ((k + 1 : Nat) : Int) := by omega
    -- the second mark
    obtain ⟨sd, hsd, e2⟩ : ∃ sd, sd ∈ mrkL ∧ evS Z_L_chain (.ifs (.cmp .lt (.bin .add (.v 10) (.c (.int 1))) (.v 7)) [.asg (.nm 17) (.ix (.v 6) (.bin .mod (.blt .int [.bin .add (.bin .add (.ix (.v 4) (.bin .add (.v 10) (.c (.int 1)))) (.c (.int 1))) (.ix (.v 4) (.bin .add (.c (.int 24)) (.v 10)))]) (.c (.int 3))))] [])
        [A0, A1, A2, A3, .v (.lst (ln.map D.int)), A5, .v (.str [a, b, c]), .v (.int (N : Nat)), A8, .o (.lst (TL T)), .v (.int ((k : Nat) : Int)), A11, A12, A13, A14, A15, A16, .v (.str [s1]), A18, A19] = some (.nx [A0, A1, A2, A3, .v (.lst (ln.map D.int)), A5, .v (.str [a, b, c]), .v (.int (N : Nat)), A8, .o (.lst (TL T)), .v (.int ((k : Nat) : Int)), A11, A12, A13, A14, A15, A16, .v (.str [sd]), A18, A19]) := by
      by_cases h : k + 1 < N
      · have l2 := atG ln (k + 1) (by omega)
        have l2' : atI (ln.map D.int) (((k : Nat) : Int) + 1) = some (.int (ln.getD (k + 1) 0)) := by rw [ec]; exact l2
        generalize ln.getD (k + 1) 0 = d2 at *
        have fp := fmodp (d2 + 1 + d1) 3 (by omega)
        obtain ⟨x, q1, q2⟩ := pickI _ fp.1 fp.2
        have h' : ((k : Nat) : Int) + 1 < (N : Nat) := by omega
        refine ⟨x, q2, ?_⟩
        generalize TL T = TT' at *
        simp [h', l2', l1', q1, h]
      · have h' : ¬ ((k : Nat) : Int) + 1 < (N : Nat) := by omega
        refine ⟨s1, s3, ?_⟩
        generalize TL T = TT' at *
        simp [h', h]
    have tx := tx_made hkN m2 hsd
    obtain ⟨T', y10, y17, i1, i2, i3⟩ := ih (k + 1) (T ++ [List.replicate k 45 ++ [mk] ++ [sd] ++ List.replicate (N - 1 - k) 45]) (.v (.int ((k : Nat) : Int))) (.v (.str [sd])) (by omega) (by simp; omega) (fun t ht => by
      rcases List.mem_append.mp ht with z | z
      · exact hT t z
      · rw [List.mem_singleton.mp z]; exact tx)
    refine ⟨T', y10, y17, ?_, i2, i3⟩
    have tl : TL (T ++ [List.replicate k 45 ++ [mk] ++ [sd] ++ List.replicate (N - 1 - k) 45]) = TL T ++ [.str (List.replicate k 45 ++ [mk] ++ [sd] ++ List.replicate (N - 1 - k) 45)] := by simp only [TL, List.map_append, List.map_cons, List.map_nil]
    rw [tl] at i1
    have txl := tx.lt
    generalize ht : List.replicate k 45 ++ [mk] ++ [sd] ++ List.replicate (N - 1 - k) 45 = t at *
    have lT : (TL T).length < 16777216 := by simp; omega
    have m3 := mul_dash k (by omega)
    have m4 := mul_dash (N - 1 - k) (by omega)
    have eN : ((N : Nat) : Int) - 1 - ((k : Nat) : Int) = ((N - 1 - k : Nat) : Int) := by omega
    have a1 := str_add (List.replicate k 45) [mk] (by simp; omega)
    have a2 := str_add (List.replicate k 45 ++ [mk]) [sd] (by simp; omega)
    have a3 := str_add (List.replicate k 45 ++ [mk] ++ [sd]) (List.replicate (N - 1 - k) 45) (by simp; omega)
    rw [ht] at a3
    have n3 : ([a, b, c] : List Nat).length ≤ 16777216 := by simp
    rw [← ec] at i1
    generalize TL T = TT' at *
    simp only [rngD]
    rw [forL_cons]
    have st : setT (.nm 10) (.int ((k : Nat) : Int)) [A0, A1, A2, A3, .v (.lst (ln.map D.int)), A5, .v (.str [a, b, c]), .v (.int (N : Nat)), A8, .o (.lst TT'), x10, A11, A12, A13, A14, A15, A16, x17, A18, A19] = some [A0, A1, A2, A3, .v (.lst (ln.map D.int)), A5, .v (.str [a, b, c]), .v (.int (N : Nat)), A8, .o (.lst TT'), .v (.int ((k : Nat) : Int)), A11, A12, A13, A14, A15, A16, x17, A18, A19] := by simp
    rw [st, bind_someX]
    have step : evSs Z_L_chain chB [A0, A1, A2, A3, .v (.lst (ln.map D.int)), A5, .v (.str [a, b, c]), .v (.int (N : Nat)), A8, .o (.lst TT'), .v (.int ((k : Nat) : Int)), A11, A12, A13, A14, A15, A16, x17, A18, A19] =
        some (.nx [A0, A1, A2, A3, .v (.lst (ln.map D.int)), A5, .v (.str [a, b, c]), .v (.int (N : Nat)), A8, .o (.lst (TT' ++ [.str t])), .v (.int ((k : Nat) : Int)), A11, A12, A13, A14, A15, A16, .v (.str [sd]), A18, A19]) := by
      unfold chB
      rw [evSs_consR]
      generalize hR : Pv.rest Z_L_chain _ = R
      simp [l1', s2]
      subst hR
      rw [rest_nx, evSs_consR, e2, bind_someX, rest_nx]
      have x1 : evE Z_L_chain (.bin .mul (.c (.str [45])) (.v 10)) [A0, A1, A2, A3, .v (.lst (ln.map D.int)), A5, .v (.str [a, b, c]), .v (.int (N : Nat)), A8, .o (.lst TT'), .v (.int ((k : Nat) : Int)), A11, A12, A13, A14, A15, A16, .v (.str [sd]), A18, A19] = some (.str (List.replicate k 45)) := by
        rw [evE_bin, evE_c, bind_someX]
        refine Eq.trans (congrArg (Option.bind · _) (show evE Z_L_chain (.v 10) _ = some (.int ((k : Nat) : Int)) from by simp)) ?_
        rw [bind_someX]
        exact m3
      have x2 : evE Z_L_chain (.ix (.v 6) (.blt .int [.ix (.v 4) (.v 10)])) [A0, A1, A2, A3, .v (.lst (ln.map D.int)), A5, .v (.str [a, b, c]), .v (.int (N : Nat)), A8, .o (.lst TT'), .v (.int ((k : Nat) : Int)), A11, A12, A13, A14, A15, A16, .v (.str [sd]), A18, A19] = some (.str [mk]) := by simp [l0, m1]
      have x4 : evE Z_L_chain (.bin .mul (.c (.str [45])) (.bin .sub (.bin .sub (.v 7) (.c (.int 1))) (.v 10))) [A0, A1, A2, A3, .v (.lst (ln.map D.int)), A5, .v (.str [a, b, c]), .v (.int (N : Nat)), A8, .o (.lst TT'), .v (.int ((k : Nat) : Int)), A11, A12, A13, A14, A15, A16, .v (.str [sd]), A18, A19] = some (.str (List.replicate (N - 1 - k) 45)) := by
        rw [evE_bin, evE_c, bind_someX]
        refine Eq.trans (congrArg (Option.bind · _) (show evE Z_L_chain (.bin .sub (.bin .sub (.v 7) (.c (.int 1))) (.v 10)) _ = some (.int (((N - 1 - k : Nat) : Nat) : Int)) from by simp [eN])) ?_
        rw [bind_someX]
        exact m4
      have x3 : evE Z_L_chain (.v 17) [A0, A1, A2, A3, .v (.lst (ln.map D.int)), A5, .v (.str [a, b, c]), .v (.int (N : Nat)), A8, .o (.lst TT'), .v (.int ((k : Nat) : Int)), A11, A12, A13, A14, A15, A16, .v (.str [sd]), A18, A19] = some (.str [sd]) := rfl
      have big : evE Z_L_chain (.bin .add (.bin .add (.bin .add (.bin .mul (.c (.str [45])) (.v 10)) (.ix (.v 6) (.blt .int [.ix (.v 4) (.v 10)]))) (.v 17)) (.bin .mul (.c (.str [45])) (.bin .sub (.bin .sub (.v 7) (.c (.int 1))) (.v 10)))) [A0, A1, A2, A3, .v (.lst (ln.map D.int)), A5, .v (.str [a, b, c]), .v (.int (N : Nat)), A8, .o (.lst TT'), .v (.int ((k : Nat) : Int)), A11, A12, A13, A14, A15, A16, .v (.str [sd]), A18, A19] = some (.str t) := by
        rw [evE_bin, evE_bin, evE_bin, x1, bind_someX, x2, bind_someX, a1, bind_someX, x3, bind_someX, a2, bind_someX, x4, bind_someX]
        exact a3
      rw [evSs_cons, evS_app, big]
      simp [lT]
    rw [step, bind_someX, turnO_nx, i1]
end
end K10

set_option Elab.async false
set_option linter.all false
set_option maxRecDepth 100000
set_option maxHeartbeats 4000000
namespace K10
open PySem L2 Pv
theorem rep_int (v : Int) (n : Nat) (h : n ≤ 1000) : binD .mul (.lst [.int v]) (.int ((n : Nat) : Int)) = some (.lst (List.replicate n (.int v))) := by
  have h1 : repOk 1 ((n : Nat) : Int) = true := by simp [repOk]; omega
  simp only [binD]
  rw [if_pos (show repOk [D.int v].length ((n : Nat) : Int) = true from h1), Int.toNat_natCast, List.flatten_replicate_singleton]
theorem chain_ok (ns : List Int) : Good (F_L_chain [.scr ns, .int 33]) := by
  have f42 : Z_L_chain.F 42 = F_L_cell := id rfl
  have f43 : Z_L_chain.F 43 = F_L_digits := id rfl
  have f44 : Z_L_chain.F 44 = F_L_inks := id rfl
  obtain ⟨z0, hz0⟩ := cell_ok ns 33 (by omega)
  obtain ⟨z1, hz1⟩ := cell_ok ns 34 (by omega)
  obtain ⟨z2, hz2⟩ := cell_ok ns 35 (by omega)
  have hz0' : F_L_cell [.scr ns, .int 33] = some (.int z0) := hz0
  have hz1' : F_L_cell [.scr ns, .int 34] = some (.int z1) := hz1
  have hz2' : F_L_cell [.scr ns, .int 35] = some (.int z2) := hz2
  obtain ⟨hd, h0, D0⟩ := digits_ok z0 [4, 27, 26, 25, 18, 2, 4, 30, 24, 24, 2, 30, 2, 6, 26, 36, 36, 36, 36, 36, 36, 36, 8, 24] (by decide) (by decide)
  obtain ⟨ln, l0, D1⟩ := digits_ok z1 (List.replicate 24 3 ++ List.replicate 24 2) (by decide) (by decide)
  obtain ⟨sg, s0, D2⟩ := digits_ok z2 (List.replicate 25 3) (by decide) (by decide)
  have hlen : hd.length = 24 := D0.len
  have llen : ln.length = 48 := D1.len
  have slen : sg.length = 25 := D2.len
  rw [List.map_append, List.map_replicate, List.map_replicate] at l0
  rw [List.map_replicate] at s0
  have dg : ∀ k s, ([4, 27, 26, 25, 18, 2, 4, 30, 24, 24, 2, 30, 2, 6, 26, 36, 36, 36, 36, 36, 36, 36, 8, 24] : List Int)[k]? = some s → atI (hd.map D.int) ((k : Nat) : Int) = some (.int (hd.getD k 0)) ∧ 0 ≤ hd.getD k 0 ∧ hd.getD k 0 < s := by
    intro k s hs
    obtain ⟨d, h1, h2, h3⟩ := D0.get hs
    have hk : k < hd.length := (List.getElem?_eq_some_iff.mp h1).1
    have e : hd.getD k 0 = d := by rw [List.getD_eq_getElem?_getD, h1]; rfl
    refine ⟨atG hd k hk, ?_, ?_⟩ <;> rw [e] <;> assumption
  have b1 : ∀ k, k < 24 → 0 ≤ ln.getD k 0 ∧ ln.getD k 0 < 3 := fun k hk => by
    have hs : (List.replicate 24 (3 : Int) ++ List.replicate 24 2)[k]? = some 3 := by
      rw [List.getElem?_append_left (by simpa using hk), List.getElem?_replicate, if_pos hk]
    obtain ⟨d, h1, h2, h3⟩ := D1.get hs
    rw [List.getD_eq_getElem?_getD, h1]; exact ⟨h2, h3⟩
  have b2 : ∀ k, k < 24 → 0 ≤ ln.getD (24 + k) 0 ∧ ln.getD (24 + k) 0 < 2 := fun k hk => by
    have hs : (List.replicate 24 (3 : Int) ++ List.replicate 24 2)[24 + k]? = some 2 := by
      rw [List.getElem?_append_right (by simp), List.getElem?_replicate, if_pos (by simp; omega)]
    obtain ⟨d, h1, h2, h3⟩ := D1.get hs
    rw [List.getD_eq_getElem?_getD, h1]; exact ⟨h2, h3⟩
  have t4 : hd.take 4 = [hd.getD 0 0, hd.getD 1 0, hd.getD 2 0, hd.getD 3 0] := by
    match hd, hlen with
    | a :: b :: c :: d :: r, _ => rfl
  have sl4 : slD none (some 4) (.lst (hd.map D.int)) = some (.lst [.int (hd.getD 0 0), .int (hd.getD 1 0), .int (hd.getD 2 0), .int (hd.getD 3 0)]) := by
    show some (D.lst (cutD (hd.map D.int) none (some 4))) = _
    rw [cut_to _ _ (by decide), ← List.map_take, show (4 : Int).toNat = 4 from rfl, t4]
    rfl
  obtain ⟨_, p1⟩ := dg 1 27 rfl
  obtain ⟨_, p2⟩ := dg 2 26 rfl
  obtain ⟨_, p3⟩ := dg 3 25 rfl
  obtain ⟨e4, p4⟩ := dg 4 18 rfl
  obtain ⟨e5, _⟩ := dg 5 2 rfl
  obtain ⟨e6, p6⟩ := dg 6 4 rfl
  obtain ⟨e7, _⟩ := dg 7 30 rfl
  obtain ⟨e8, _⟩ := dg 8 24 rfl
  obtain ⟨e9, _⟩ := dg 9 24 rfl
  obtain ⟨e10, p10⟩ := dg 10 2 rfl
  obtain ⟨e11, _⟩ := dg 11 30 rfl
  obtain ⟨e12, _⟩ := dg 12 2 rfl
  obtain ⟨e23, p23⟩ := dg 23 24 rfl
  obtain ⟨a, b, c, ha, hb, hc, nd, hi⟩ := inks_ok2 (hd.getD 0 0) (hd.getD 1 0) (hd.getD 2 0) (hd.getD 3 0) p1 p2 p3
  rw [show ((4 : Nat) : Int) = 4 from rfl] at e4
  rw [show ((5 : Nat) : Int) = 5 from rfl] at e5
  rw [show ((6 : Nat) : Int) = 6 from rfl] at e6
  rw [show ((7 : Nat) : Int) = 7 from rfl] at e7
  rw [show ((8 : Nat) : Int) = 8 from rfl] at e8
  rw [show ((9 : Nat) : Int) = 9 from rfl] at e9
  rw [show ((10 : Nat) : Int) = 10 from rfl] at e10
  rw [show ((11 : Nat) : Int) = 11 from rfl] at e11
  rw [show ((12 : Nat) : Int) = 12 from rfl] at e12
  rw [show ((23 : Nat) : Int) = 23 from rfl] at e23
  generalize hd.getD 0 0 = g0 at *
  generalize hd.getD 1 0 = g1 at *
  generalize hd.getD 2 0 = g2 at *
  generalize hd.getD 3 0 = g3 at *
  generalize hd.getD 4 0 = g4 at *
  generalize hd.getD 5 0 = g5 at *
  generalize hd.getD 6 0 = g6 at *
  generalize hd.getD 7 0 = g7 at *
  generalize hd.getD 8 0 = g8 at *
  generalize hd.getD 9 0 = g9 at *
  generalize hd.getD 10 0 = g10 at *
  generalize hd.getD 11 0 = g11 at *
  generalize hd.getD 12 0 = g12 at *
  generalize hd.getD 23 0 = g23 at *
  -- how many
  obtain ⟨N, N6, N23, eN⟩ : ∃ N : Nat, 6 ≤ N ∧ N ≤ 23 ∧ ∀ B0 B1 B2 B4 B5 B6 B7 B8 B9 B10 B11 B12 B13 B14 B15 B16 B17 B18 B19 : Sl, evE Z_L_chain (.bin .add (.c (.int 6)) (.bin .mod (.blt .int [.ix (.v 3) (.c (.int 4))]) (.ix (.lst [.c (.int 7), .c (.int 18)]) (.blt .int [.cmp .gt (.ix (.v 3) (.c (.int 6))) (.c (.int 0))])))) [B0, B1, B2, .v (.lst (hd.map D.int)), B4, B5, B6, B7, B8, B9, B10, B11, B12, B13, B14, B15, B16, B17, B18, B19] = some (.int ((N : Nat) : Int)) := by
    by_cases h : 0 < g6
    · have fp := fmodp g4 18 (by omega)
      refine ⟨(6 + g4.fmod 18).toNat, by omega, by omega, ?_⟩
      intros
      simp [e4, e6, h, Int.toNat_of_nonneg (show 0 ≤ 6 + g4.fmod 18 by omega)]
    · have fp := fmodp g4 7 (by omega)
      refine ⟨(6 + g4.fmod 7).toNat, by omega, by omega, ?_⟩
      intros
      simp [e4, e6, h, Int.toNat_of_nonneg (show 0 ≤ 6 + g4.fmod 7 by omega)]
  -- the other mark
  obtain ⟨oc, hoI, hoM⟩ : ∃ d, atI ((mrkL.filter fun x => !decide (x ∈ [a, b, c])).map fun x => D.str [x]) g23 = some (.str [d]) ∧ d ∈ mrkL.filter fun x => !decide (x ∈ [a, b, c]) := by
    have hl := fil3 a b c mrkL mrk_nodup
    have h27 : mrkL.length = 27 := rfl
    obtain ⟨d, h1, h2⟩ := atI_in (xs := mrkL.filter fun x => !decide (x ∈ [a, b, c])) p23.1 (by omega)
    refine ⟨d, ?_, h2⟩
    rw [atI_map, h1]; rfl
  have hoc : oc ∈ sgnL := (mrk_sgn (List.mem_filter.mp hoM).1).1
  have pool : ∀ B0 B1 B2 B3 B4 B5 B7 B8 B9 B10 B11 B12 B13 B14 B15 B16 B17 B19 : Sl, lcL (.nm 18) (evE Z_L_chain (.cmp .notin (.v 18) (.v 6))) (evE Z_L_chain (.v 18)) [B0, B1, B2, B3, B4, B5, .v (.str [a, b, c]), B7, B8, B9, B10, B11, B12, B13, B14, B15, B16, B17, .no, B19] (mrkL.map fun x => D.str [x]) = some ((mrkL.filter fun x => !decide (x ∈ [a, b, c])).map fun x => D.str [x]) := by
    intro B0 B1 B2 B3 B4 B5 B7 B8 B9 B10 B11 B12 B13 B14 B15 B16 B17 B19
    rw [lcL_of (fun x => D.str [x]) (fun x => !decide (x ∈ [a, b, c])) (fun x => D.str [x])]
    intro x _
    refine ⟨_, rfl, ?_, fun _ => by simp⟩
    simp
  have seqM : seqD (.str [46, 97, 98, 99, 100, 101, 102, 103, 104, 105, 106, 107, 108, 109, 110, 111, 112, 113, 114, 115, 116, 117, 118, 119, 120, 121, 122]) = some (mrkL.map fun x => D.str [x]) := rfl
  have lenM : (mrkL.map fun x => D.str [x]).length ≤ 16777216 := by decide
  have okN : okR (N : Int) = true := by unfold okR; simp; omega
  have m36 : binD .mul (.lst [.int 36]) (.int 7) = some (.lst (List.replicate 7 (.int 36))) := rep_int 36 7 (by omega)
  have m3a : binD .mul (.lst [.int 3]) (.int 24) = some (.lst (List.replicate 24 (.int 3))) := rep_int 3 24 (by omega)
  have m2a : binD .mul (.lst [.int 2]) (.int 24) = some (.lst (List.replicate 24 (.int 2))) := rep_int 2 24 (by omega)
  have m3b : binD .mul (.lst [.int 3]) (.int 25) = some (.lst (List.replicate 25 (.int 3))) := rep_int 3 25 (by omega)
  have adL : binD .add (.lst (List.replicate 24 (.int 3))) (.lst (List.replicate 24 (.int 2))) = some (.lst (List.replicate 24 (.int 3) ++ List.replicate 24 (.int 2))) := by
    simp only [binD]
    rw [if_pos (by simp)]
  obtain ⟨T', y10, y17, i1, i2, i3⟩ := ch_loop (A0 := .v (.scr ns)) (A1 := .v (.int 33)) (A2 := .v (.lst ([D.int 4, .int 27, .int 26, .int 25, .int 18, .int 2, .int 4, .int 30, .int 24, .int 24, .int 2, .int 30, .int 2, .int 6, .int 26] ++ (List.replicate 7 (.int 36) ++ [.int 8, .int 24])))) (A3 := .v (.lst (hd.map D.int))) (A5 := .v (.lst (sg.map D.int))) (A8 := .v (.str [oc])) (A11 := .no) (A12 := .no) (A13 := .no) (A14 := .no) (A15 := .no) (A16 := .no) (A18 := .no) (A19 := .no) ha hb hc llen b1 b2 N23 N 0 [] .no .no (by omega) rfl (by simp)
  have fin := ch_9 (A0 := .v (.scr ns)) (A1 := .v (.int 33)) (A2 := .v (.lst ([D.int 4, .int 27, .int 26, .int 25, .int 18, .int 2, .int 4, .int 30, .int 24, .int 24, .int 2, .int 30, .int 2, .int 6, .int 26] ++ (List.replicate 7 (.int 36) ++ [.int 8, .int 24])))) (A4 := .v (.lst (ln.map D.int))) (x10 := y10) (x11 := .no) (x12 := .no) (x13 := .no) (x14 := .no) (x15 := .no) (x16 := .no) (x17 := y17) (x18 := .no) (x19 := .no) (ik := [a, b, c]) hlen (by omega) N23 e5 e6 e7 e8 e9 e10 p10 e11 e12 i3 i2 slen hoc
  have d : ir_L_chain = .asg (.nm 2) (.bin .add (.bin .add (.lst [.c (.int 4), .c (.int 27), .c (.int 26), .c (.int 25), .c (.int 18), .c (.int 2), .c (.int 4), .c (.int 30), .c (.int 24), .c (.int 24), .c (.int 2), .c (.int 30), .c (.int 2), .c (.int 6), .c (.int 26)]) (.bin .mul (.lst [.c (.int 36)]) (.c (.int 7)))) (.lst [.c (.int 8), .c (.int 24)])) ::
    .asg (.nm 3) (.call 43 [.call 42 [.v 0, .v 1], .v 2]) ::
    .asg (.nm 4) (.call 43 [.call 42 [.v 0, .bin .add (.v 1) (.c (.int 1))], .bin .add (.bin .mul (.lst [.c (.int 3)]) (.c (.int 24))) (.bin .mul (.lst [.c (.int 2)]) (.c (.int 24)))]) ::
    .asg (.nm 5) (.call 43 [.call 42 [.v 0, .bin .add (.v 1) (.c (.int 2))], .bin .mul (.lst [.c (.int 3)]) (.c (.int 25))]) ::
    .asg (.nm 6) (.call 44 [.sl (.v 3) .nil (.last (.c (.int 4)))]) ::
    .asg (.nm 7) (.bin .add (.c (.int 6)) (.bin .mod (.blt .int [.ix (.v 3) (.c (.int 4))]) (.ix (.lst [.c (.int 7), .c (.int 18)]) (.blt .int [.cmp .gt (.ix (.v 3) (.c (.int 6))) (.c (.int 0))])))) ::
    .asg (.nm 8) (.ix (.lc [("_law_sign", 18)] (.nm 18) (.seq (.c (.str [46, 97, 98, 99, 100, 101, 102, 103, 104, 105, 106, 107, 108, 109, 110, 111, 112, 113, 114, 115, 116, 117, 118, 119, 120, 121, 122]))) (.cmp .notin (.v 18) (.v 6)) (.v 18)) (.ix (.v 3) (.c (.int 23)))) ::
    .own 9 [] ::
    .for_ (.nm 10) (.r1 (.v 7)) chB :: ir_L_chain.drop 9 := rfl
  have h0' : F_L_digits [.int z0, .lst ([D.int 4, .int 27, .int 26, .int 25, .int 18, .int 2, .int 4, .int 30, .int 24, .int 24, .int 2, .int 30, .int 2, .int 6, .int 26] ++ (List.replicate 7 (.int 36) ++ [.int 8, .int 24]))] = some (.lst (hd.map D.int)) := h0
  have add1 : binD .add (.lst [D.int 4, .int 27, .int 26, .int 25, .int 18, .int 2, .int 4, .int 30, .int 24, .int 24, .int 2, .int 30, .int 2, .int 6, .int 26]) (.lst (List.replicate 7 (.int 36))) = some (.lst ([D.int 4, .int 27, .int 26, .int 25, .int 18, .int 2, .int 4, .int 30, .int 24, .int 24, .int 2, .int 30, .int 2, .int 6, .int 26] ++ List.replicate 7 (.int 36))) := by
    simp only [binD]
    rw [if_pos (by simp)]
  have add2 : binD .add (.lst ([D.int 4, .int 27, .int 26, .int 25, .int 18, .int 2, .int 4, .int 30, .int 24, .int 24, .int 2, .int 30, .int 2, .int 6, .int 26] ++ List.replicate 7 (.int 36))) (.lst [.int 8, .int 24]) = some (.lst ([D.int 4, .int 27, .int 26, .int 25, .int 18, .int 2, .int 4, .int 30, .int 24, .int 24, .int 2, .int 30, .int 2, .int 6, .int 26] ++ (List.replicate 7 (.int 36) ++ [.int 8, .int 24]))) := by
    simp only [binD]
    rw [if_pos (by simp), List.append_assoc]
  generalize hSZ : [D.int 4, .int 27, .int 26, .int 25, .int 18, .int 2, .int 4, .int 30, .int 24, .int 24, .int 2, .int 30, .int 2, .int 6, .int 26] ++ (List.replicate 7 (.int 36) ++ [.int 8, .int 24]) = SZ at *
  generalize hS2 : [D.int 4, .int 27, .int 26, .int 25, .int 18, .int 2, .int 4, .int 30, .int 24, .int 24, .int 2, .int 30, .int 2, .int 6, .int 26] ++ List.replicate 7 (.int 36) = S2 at *
  generalize hS7 : List.replicate 7 (D.int 36) = S7 at *
  generalize hLS : List.replicate 24 (D.int 3) ++ List.replicate 24 (.int 2) = LS at *
  generalize hL3 : List.replicate 24 (D.int 3) = L3 at *
  generalize hL2 : List.replicate 24 (D.int 2) = L2 at *
  generalize hL5 : List.replicate 25 (D.int 3) = L5 at *
  unfold F_L_chain evF
  rw [if_pos (show [D.scr ns, .int 33].length = 2 from rfl), d]
  simp only [startD, List.map_cons, List.map_nil, List.length_cons, List.length_nil, List.cons_append, List.nil_append, Nat.reduceSub, Nat.reduceAdd, List.replicate_succ, List.replicate_zero]
  rw [evSs_consR]
  generalize hR : Pv.rest Z_L_chain _ = R
  have q0 : ∀ σ : List Sl, evE Z_L_chain (.bin .add (.bin .add (.lst [.c (.int 4), .c (.int 27), .c (.int 26), .c (.int 25), .c (.int 18), .c (.int 2), .c (.int 4), .c (.int 30), .c (.int 24), .c (.int 24), .c (.int 2), .c (.int 30), .c (.int 2), .c (.int 6), .c (.int 26)]) (.bin .mul (.lst [.c (.int 36)]) (.c (.int 7)))) (.lst [.c (.int 8), .c (.int 24)])) σ = some (.lst SZ) := by
    intro σ
    rw [evE_bin, evE_bin]
    have w1 : evE Z_L_chain (.lst [.c (.int 4), .c (.int 27), .c (.int 26), .c (.int 25), .c (.int 18), .c (.int 2), .c (.int 4), .c (.int 30), .c (.int 24), .c (.int 24), .c (.int 2), .c (.int 30), .c (.int 2), .c (.int 6), .c (.int 26)]) σ = some (.lst [D.int 4, .int 27, .int 26, .int 25, .int 18, .int 2, .int 4, .int 30, .int 24, .int 24, .int 2, .int 30, .int 2, .int 6, .int 26]) := by simp
    have w2 : evE Z_L_chain (.bin .mul (.lst [.c (.int 36)]) (.c (.int 7))) σ = some (.lst S7) := by
      rw [evE_bin, show evE Z_L_chain (.lst [.c (.int 36)]) σ = some (.lst [.int 36]) from by simp, bind_someX, evE_c, bind_someX]
      exact m36
    have w3 : evE Z_L_chain (.lst [.c (.int 8), .c (.int 24)]) σ = some (.lst [.int 8, .int 24]) := by simp
    rw [w1, bind_someX, w2, bind_someX, add1, bind_someX, w3, bind_someX]
    exact add2
  rw [evS_asg, q0, bind_someX, setT_nm, map_someX, bind_someX]
  subst hR
  simp only [List.set_cons_succ, List.set_cons_zero]
  rw [rest_nx, evSs_consR]
  generalize hR : Pv.rest Z_L_chain _ = R
  simp [f42, hz0', f43, h0']
  subst hR
  rw [rest_nx, evSs_consR]
  generalize hR : Pv.rest Z_L_chain _ = R
  have q2 : ∀ σ : List Sl, evE Z_L_chain (.bin .add (.bin .mul (.lst [.c (.int 3)]) (.c (.int 24))) (.bin .mul (.lst [.c (.int 2)]) (.c (.int 24)))) σ = some (.lst LS) := by
    intro σ
    rw [evE_bin, evE_bin, show evE Z_L_chain (.lst [.c (.int 3)]) σ = some (.lst [.int 3]) from by simp, bind_someX, evE_c, bind_someX, m3a, bind_someX, evE_bin, show evE Z_L_chain (.lst [.c (.int 2)]) σ = some (.lst [.int 2]) from by simp, bind_someX, evE_c, bind_someX, m2a, bind_someX]
    exact adL
  have q3 : ∀ σ : List Sl, evE Z_L_chain (.bin .mul (.lst [.c (.int 3)]) (.c (.int 25))) σ = some (.lst L5) := by
    intro σ
    rw [evE_bin, show evE Z_L_chain (.lst [.c (.int 3)]) σ = some (.lst [.int 3]) from by simp, bind_someX, evE_c, bind_someX]
    exact m3b
  have q4 : ∀ (A : Sl) (r : List Sl), evE Z_L_chain (.bin .add (.v 1) (.c (.int 1))) (A :: .v (.int 33) :: r) = some (.int 34) := fun A r => by simp
  have q5 : ∀ (A : Sl) (r : List Sl), evE Z_L_chain (.bin .add (.v 1) (.c (.int 2))) (A :: .v (.int 33) :: r) = some (.int 35) := fun A r => by simp
  simp [-evE_bin, q2, q4, f42, hz1', f43, l0]
  subst hR
  rw [rest_nx, evSs_consR]
  generalize hR : Pv.rest Z_L_chain _ = R
  simp [-evE_bin, q3, q5, f42, hz2', f43, s0]
  subst hR
  rw [rest_nx, evSs_consR]
  generalize hR : Pv.rest Z_L_chain _ = R
  simp [sl4, f44, hi]
  subst hR
  rw [rest_nx, evSs_consR]
  generalize hR : Pv.rest Z_L_chain _ = R
  rw [evS_asg, eN, bind_someX, setT_nm, map_someX, bind_someX]
  subst hR
  simp only [List.set_cons_succ, List.set_cons_zero]
  rw [rest_nx, evSs_consR]
  generalize hR : Pv.rest Z_L_chain _ = R
  have q8 : ∀ B0 B1 B2 B4 B5 B7 B8 B9 B10 B11 B12 B13 B14 B15 B16 B17 B19 : Sl, evE Z_L_chain (.ix (.lc [("_law_sign", 18)] (.nm 18) (.seq (.c (.str [46, 97, 98, 99, 100, 101, 102, 103, 104, 105, 106, 107, 108, 109, 110, 111, 112, 113, 114, 115, 116, 117, 118, 119, 120, 121, 122]))) (.cmp .notin (.v 18) (.v 6)) (.v 18)) (.ix (.v 3) (.c (.int 23)))) [B0, B1, B2, .v (.lst (hd.map D.int)), B4, B5, .v (.str [a, b, c]), B7, B8, B9, B10, B11, B12, B13, B14, B15, B16, B17, .no, B19] = some (.str [oc]) := by
    intro B0 B1 B2 B4 B5 B7 B8 B9 B10 B11 B12 B13 B14 B15 B16 B17 B19
    have lcv : evE Z_L_chain (.lc [("_law_sign", 18)] (.nm 18) (.seq (.c (.str [46, 97, 98, 99, 100, 101, 102, 103, 104, 105, 106, 107, 108, 109, 110, 111, 112, 113, 114, 115, 116, 117, 118, 119, 120, 121, 122]))) (.cmp .notin (.v 18) (.v 6)) (.v 18)) [B0, B1, B2, .v (.lst (hd.map D.int)), B4, B5, .v (.str [a, b, c]), B7, B8, B9, B10, B11, B12, B13, B14, B15, B16, B17, .no, B19] = some (.lst ((mrkL.filter fun x => !decide (x ∈ [a, b, c])).map fun x => D.str [x])) := by
      rw [evE_lc, evI_seq, evE_c, bind_someX, seqM, bind_someX, if_pos (show (mrkL.map fun x => D.str [x]).length ≤ line from lenM)]
      show Option.map D.lst (lcL _ _ _ [B0, B1, B2, .v (.lst (hd.map D.int)), B4, B5, .v (.str [a, b, c]), B7, B8, B9, B10, B11, B12, B13, B14, B15, B16, B17, .no, B19] _) = _
      rw [pool]
      rfl
    rw [evE_ix, lcv, bind_someX]
    generalize (mrkL.filter fun x => !decide (x ∈ [a, b, c])).map (fun x => D.str [x]) = PL at *
    simp [e23, hoI]
  rw [evS_asg, q8, bind_someX, setT_nm, map_someX, bind_someX]
  subst hR
  simp only [List.set_cons_succ, List.set_cons_zero]
  rw [rest_nx, evSs_consR]
  generalize hR : Pv.rest Z_L_chain _ = R
  simp
  subst hR
  rw [rest_nx, evSs_consR]
  generalize hR : Pv.rest Z_L_chain _ = R
  rw [show ((0 : Nat) : Int) = 0 from rfl] at i1
  rw [show TL [] = [] from rfl] at i1
  generalize chB = CB at *
  simp [okN]
  rw [i1]
  simp only [bind_someX]
  subst hR
  rw [rest_nx]
  exact fin
end K10

set_option Elab.async false
set_option linter.all false
set_option maxRecDepth 100000
set_option maxHeartbeats 4000000
namespace K10
open PySem L2 Pv
theorem drawn_ok (ns : List Int) : ∃ (n : Nat) (ps : List Pr) (b s : List Nat), F_L_drawn [.scr ns] = some (.lst [.int (n : Nat), LL ps, .str b, .str s]) ∧ Lot n ps ∧ Lay n b ∧ Lay n s := by
  have f42 : Z_L_drawn.F 42 = F_L_cell := id rfl
  have f47 : Z_L_drawn.F 47 = F_L_lot := id rfl
  have f54 : Z_L_drawn.F 54 = F_L_scene := id rfl
  have f55 : Z_L_drawn.F 55 = F_L_chain := id rfl
  obtain ⟨n, ps, a, b, c, ha, hb, hc, nd, hL, _, _, hlot⟩ := lot_ok ns 0 24 30 (by omega) (by omega) (by omega) (by omega)
  have hlot' : F_L_lot [.scr ns, .int 0, .int 24, .int 30] = some (.lst [.int (n : Nat), .str [a, b, c], LL ps]) := hlot
  obtain ⟨z, hz⟩ := cell_ok ns 36 (by omega)
  have hz' : F_L_cell [.scr ns, .int 36] = some (.int z) := hz
  by_cases h8 : z.fmod 8 = 0
  · obtain ⟨m, x, qs, b', s', h1, h2, h3, h4⟩ := chain_ok ns
    refine ⟨m, qs, b', s', ?_, h2, h3, h4⟩
    generalize LL ps = L1 at *
    generalize LL qs = L2' at *
    unfold F_L_drawn evF ir_L_drawn
    rw [if_pos (show [D.scr ns].length = 1 from rfl)]
    simp only [startD, List.map_cons, List.map_nil, List.length_cons, List.length_nil, List.cons_append, List.nil_append]
    rw [evSs_consR]
    generalize hR : Pv.rest Z_L_drawn _ = R
    simp [f47, hlot']
    subst hR
    rw [rest_nx, evSs_consR]
    generalize hR : Pv.rest Z_L_drawn _ = R
    simp [f42, hz', h8, f55, h1]
    subst hR
    simp
  · obtain ⟨base, shown, ks, h2, h3, _, h5, h1⟩ := scene_ok ns 25 (by omega) hL ha hb hc nd
    have h1' : F_L_scene [.scr ns, .int 25, .lst [.int (n : Nat), .str [a, b, c], LL ps]] = some (.lst [.str base, .str shown, .lst (ks.map fun k => .int (k : Nat))]) := h1
    refine ⟨n, ps, base, shown, ?_, hL, h2, h3⟩
    have sl : ∀ y : D, slD none (some 2) (.lst [.str base, .str shown, y]) = some (.lst [.str base, .str shown]) := fun y => by
      show some (D.lst (cutD [D.str base, .str shown, y] none (some 2))) = _
      rw [cut_to _ _ (by decide)]
      rfl
    generalize (ks.map fun k => D.int (k : Nat)) = KS at *
    generalize LL ps = L1 at *
    unfold F_L_drawn evF ir_L_drawn
    rw [if_pos (show [D.scr ns].length = 1 from rfl)]
    simp only [startD, List.map_cons, List.map_nil, List.length_cons, List.length_nil, List.cons_append, List.nil_append]
    rw [evSs_consR]
    generalize hR : Pv.rest Z_L_drawn _ = R
    simp [f47, hlot']
    subst hR
    rw [rest_nx, evSs_consR]
    generalize hR : Pv.rest Z_L_drawn _ = R
    simp [f42, hz', h8]
    subst hR
    rw [rest_nx]
    simp [f54, h1', sl]
end K10

set_option linter.all false
namespace K10
open PySem L2 Pv
theorem main (ns : List Int) (hl : ns.length ≤ 63) : F_law [.scr ns] = some (.bl true) := by
  obtain ⟨n, ps, b, s, h1, h2, h3, h4⟩ := drawn_ok ns
  exact law_core h2 h3 h4 h1
end K10

set_option Elab.async false
set_option linter.all false
set_option maxRecDepth 100000
set_option maxHeartbeats 4000000
namespace K10
open PySem L2 Pv
theorem all_mk {P : Program} {w : World} {K : PySem.W.Frag} {h : Heap} {mg : Str → Option Value} {fa : Addr} (X : K.In h) (G : h.Ns mainGlobals mg) (hfa : mg "law" = some (.ref fa))
    {f43 : Addr} {oc43 kV43 doc43 pm43 cd43 ct43 : Value} {od43 an43 : Option Addr} {sl43 : Array (Option Value)}
    {f42 : Addr} {oc42 kV42 doc42 pm42 cd42 ct42 : Value} {od42 an42 : Option Addr} {sl42 : Array (Option Value)}
    {f44 : Addr} {oc44 kV44 doc44 pm44 cd44 ct44 : Value} {od44 an44 : Option Addr} {sl44 : Array (Option Value)}
    {f45 : Addr} {oc45 kV45 doc45 pm45 cd45 ct45 : Value} {od45 an45 : Option Addr} {sl45 : Array (Option Value)}
    {f46 : Addr} {oc46 kV46 doc46 pm46 cd46 ct46 : Value} {od46 an46 : Option Addr} {sl46 : Array (Option Value)}
    {f47 : Addr} {oc47 kV47 doc47 pm47 cd47 ct47 : Value} {od47 an47 : Option Addr} {sl47 : Array (Option Value)}
    {f55 : Addr} {oc55 kV55 doc55 pm55 cd55 ct55 : Value} {od55 an55 : Option Addr} {sl55 : Array (Option Value)}
    {f51 : Addr} {oc51 kV51 doc51 pm51 cd51 ct51 : Value} {od51 an51 : Option Addr} {sl51 : Array (Option Value)}
    {f52 : Addr} {oc52 kV52 doc52 pm52 cd52 ct52 : Value} {od52 an52 : Option Addr} {sl52 : Array (Option Value)}
    {f48 : Addr} {oc48 kV48 doc48 pm48 cd48 ct48 : Value} {od48 an48 : Option Addr} {sl48 : Array (Option Value)}
    {f53 : Addr} {oc53 kV53 doc53 pm53 cd53 ct53 : Value} {od53 an53 : Option Addr} {sl53 : Array (Option Value)}
    {f54 : Addr} {oc54 kV54 doc54 pm54 cd54 ct54 : Value} {od54 an54 : Option Addr} {sl54 : Array (Option Value)}
    {f71 : Addr} {oc71 kV71 doc71 pm71 cd71 ct71 : Value} {od71 an71 : Option Addr} {sl71 : Array (Option Value)}
    {f6 : Addr} {oc6 kV6 doc6 pm6 cd6 ct6 : Value} {od6 an6 : Option Addr} {sl6 : Array (Option Value)}
    {f23 : Addr} {oc23 kV23 doc23 pm23 cd23 ct23 : Value} {od23 an23 : Option Addr} {sl23 : Array (Option Value)}
    {f1 : Addr} {oc1 kV1 doc1 pm1 cd1 ct1 : Value} {od1 an1 : Option Addr} {sl1 : Array (Option Value)}
    {f5 : Addr} {oc5 kV5 doc5 pm5 cd5 ct5 : Value} {od5 an5 : Option Addr} {sl5 : Array (Option Value)}
    {f24 : Addr} {oc24 kV24 doc24 pm24 cd24 ct24 : Value} {od24 an24 : Option Addr} {sl24 : Array (Option Value)}
    {f25 : Addr} {oc25 kV25 doc25 pm25 cd25 ct25 : Value} {od25 an25 : Option Addr} {sl25 : Array (Option Value)}
    {f3 : Addr} {oc3 kV3 doc3 pm3 cd3 ct3 : Value} {od3 an3 : Option Addr} {sl3 : Array (Option Value)}
    {f4 : Addr} {oc4 kV4 doc4 pm4 cd4 ct4 : Value} {od4 an4 : Option Addr} {sl4 : Array (Option Value)}
    {f2 : Addr} {oc2 kV2 doc2 pm2 cd2 ct2 : Value} {od2 an2 : Option Addr} {sl2 : Array (Option Value)}
    {f9 : Addr} {oc9 kV9 doc9 pm9 cd9 ct9 : Value} {od9 an9 : Option Addr} {sl9 : Array (Option Value)}
    {f10 : Addr} {oc10 kV10 doc10 pm10 cd10 ct10 : Value} {od10 an10 : Option Addr} {sl10 : Array (Option Value)}
    {f11 : Addr} {oc11 kV11 doc11 pm11 cd11 ct11 : Value} {od11 an11 : Option Addr} {sl11 : Array (Option Value)}
    {f12 : Addr} {oc12 kV12 doc12 pm12 cd12 ct12 : Value} {od12 an12 : Option Addr} {sl12 : Array (Option Value)}
    {f26 : Addr} {oc26 kV26 doc26 pm26 cd26 ct26 : Value} {od26 an26 : Option Addr} {sl26 : Array (Option Value)}
    {p26 : Addr} {rest26 : List Value}
    {f8 : Addr} {oc8 kV8 doc8 pm8 cd8 ct8 : Value} {od8 an8 : Option Addr} {sl8 : Array (Option Value)}
    {f13 : Addr} {oc13 kV13 doc13 pm13 cd13 ct13 : Value} {od13 an13 : Option Addr} {sl13 : Array (Option Value)}
    {f38 : Addr} {oc38 kV38 doc38 pm38 cd38 ct38 : Value} {od38 an38 : Option Addr} {sl38 : Array (Option Value)}
    {f37 : Addr} {oc37 kV37 doc37 pm37 cd37 ct37 : Value} {od37 an37 : Option Addr} {sl37 : Array (Option Value)}
    {f39 : Addr} {oc39 kV39 doc39 pm39 cd39 ct39 : Value} {od39 an39 : Option Addr} {sl39 : Array (Option Value)}
    {f56 : Addr} {oc56 kV56 doc56 pm56 cd56 ct56 : Value} {od56 an56 : Option Addr} {sl56 : Array (Option Value)}
    {f49 : Addr} {oc49 kV49 doc49 pm49 cd49 ct49 : Value} {od49 an49 : Option Addr} {sl49 : Array (Option Value)}
    {f50 : Addr} {oc50 kV50 doc50 pm50 cd50 ct50 : Value} {od50 an50 : Option Addr} {sl50 : Array (Option Value)}
    {f60 : Addr} {oc60 kV60 doc60 pm60 cd60 ct60 : Value} {od60 an60 : Option Addr} {sl60 : Array (Option Value)}
    {f61 : Addr} {oc61 kV61 doc61 pm61 cd61 ct61 : Value} {od61 an61 : Option Addr} {sl61 : Array (Option Value)}
    {f63 : Addr} {oc63 kV63 doc63 pm63 cd63 ct63 : Value} {od63 an63 : Option Addr} {sl63 : Array (Option Value)}
    {f57 : Addr} {oc57 kV57 doc57 pm57 cd57 ct57 : Value} {od57 an57 : Option Addr} {sl57 : Array (Option Value)}
    {f62 : Addr} {oc62 kV62 doc62 pm62 cd62 ct62 : Value} {od62 an62 : Option Addr} {sl62 : Array (Option Value)}
    {f64 : Addr} {oc64 kV64 doc64 pm64 cd64 ct64 : Value} {od64 an64 : Option Addr} {sl64 : Array (Option Value)}
    {f41 : Addr} {oc41 kV41 doc41 pm41 cd41 ct41 : Value} {od41 an41 : Option Addr} {sl41 : Array (Option Value)}
    {f58 : Addr} {oc58 kV58 doc58 pm58 cd58 ct58 : Value} {od58 an58 : Option Addr} {sl58 : Array (Option Value)}
    {f65 : Addr} {oc65 kV65 doc65 pm65 cd65 ct65 : Value} {od65 an65 : Option Addr} {sl65 : Array (Option Value)}
    {f66 : Addr} {oc66 kV66 doc66 pm66 cd66 ct66 : Value} {od66 an66 : Option Addr} {sl66 : Array (Option Value)}
    {f67 : Addr} {oc67 kV67 doc67 pm67 cd67 ct67 : Value} {od67 an67 : Option Addr} {sl67 : Array (Option Value)}
    {f7 : Addr} {oc7 kV7 doc7 pm7 cd7 ct7 : Value} {od7 an7 : Option Addr} {sl7 : Array (Option Value)}
    {f14 : Addr} {oc14 kV14 doc14 pm14 cd14 ct14 : Value} {od14 an14 : Option Addr} {sl14 : Array (Option Value)}
    {f15 : Addr} {oc15 kV15 doc15 pm15 cd15 ct15 : Value} {od15 an15 : Option Addr} {sl15 : Array (Option Value)}
    {f16 : Addr} {oc16 kV16 doc16 pm16 cd16 ct16 : Value} {od16 an16 : Option Addr} {sl16 : Array (Option Value)}
    {f17 : Addr} {oc17 kV17 doc17 pm17 cd17 ct17 : Value} {od17 an17 : Option Addr} {sl17 : Array (Option Value)}
    {f40 : Addr} {oc40 kV40 doc40 pm40 cd40 ct40 : Value} {od40 an40 : Option Addr} {sl40 : Array (Option Value)}
    {f59 : Addr} {oc59 kV59 doc59 pm59 cd59 ct59 : Value} {od59 an59 : Option Addr} {sl59 : Array (Option Value)}
    {f68 : Addr} {oc68 kV68 doc68 pm68 cd68 ct68 : Value} {od68 an68 : Option Addr} {sl68 : Array (Option Value)}
    {f69 : Addr} {oc69 kV69 doc69 pm69 cd69 ct69 : Value} {od69 an69 : Option Addr} {sl69 : Array (Option Value)}
    {f70 : Addr} {oc70 kV70 doc70 pm70 cd70 ct70 : Value} {od70 an70 : Option Addr} {sl70 : Array (Option Value)}
    {f72 : Addr} {oc72 kV72 doc72 pm72 cd72 ct72 : Value} {od72 an72 : Option Addr} {sl72 : Array (Option Value)}
    {C0 : Addr}
    {C7 : Addr}
    {C8 : Addr}
    {tk0 : Tok}
    {tk1 : Tok}
    {tk2 : Tok}
    {tk3 : Tok}
    {tk4 : Tok}
    (ac0 : PySem.W.nsIn K mainGlobals "Peeling" = some (some (.ref C0)))
    (pg0 : PySem.W.plainGet K C0 Str.empty = true)
    (hd0 : PySem.W.hasDictIn K C0 = true)
    (po0 : PySem.W.plainOver K C0 = true)
    (sa0 : PySem.W.findIn K (.ref C0) "__setattr__" = some (some (.builtin "object.__setattr__")))
    (kc0 : PySem.W.keepIn K (.ref C0) = true)
    (nf4 : PySem.W.findIn K (.ref C0) "left" = some none)
    (nf5 : PySem.W.findIn K (.ref C0) "order" = some none)
    (nf6 : PySem.W.findIn K (.ref C0) "seen" = some none)
    (m8 : PySem.W.findIn K (.ref C0) "__init__" = some (some (.ref f8)))
    (i8 : PySem.W.isFn K (.ref f8) = true)
    (mk8 : PySem.W.makesIn K C0 = true)
    (ac7 : PySem.W.nsIn K mainGlobals "Stock" = some (some (.ref C7)))
    (pg7 : PySem.W.plainGet K C7 Str.empty = true)
    (hd7 : PySem.W.hasDictIn K C7 = true)
    (po7 : PySem.W.plainOver K C7 = true)
    (sa7 : PySem.W.findIn K (.ref C7) "__setattr__" = some (some (.builtin "object.__setattr__")))
    (kc7 : PySem.W.keepIn K (.ref C7) = true)
    (nf7 : PySem.W.findIn K (.ref C7) "layers" = some none)
    (nf8 : PySem.W.findIn K (.ref C7) "numbers" = some none)
    (nf9 : PySem.W.findIn K (.ref C7) "size" = some none)
    (nf10 : PySem.W.findIn K (.ref C7) "stamps" = some none)
    (m25 : PySem.W.findIn K (.ref C7) "__init__" = some (some (.ref f25)))
    (i25 : PySem.W.isFn K (.ref f25) = true)
    (mk25 : PySem.W.makesIn K C7 = true)
    (m26 : PySem.W.findIn K (.ref C7) "names" = some (some (.ref p26)))
    (pga26 : PySem.W.specialIn K (.ref p26) "__get__" = some (some (.builtin "property.__get__")))
    (pt26 : PySem.W.takesIn K (.ref p26) = some true)
    (pr26 : PySem.W.recIn K p26 "property" = some (.ref f26 :: rest26))
    (ac8 : PySem.W.nsIn K mainGlobals "Making" = some (some (.ref C8)))
    (pg8 : PySem.W.plainGet K C8 Str.empty = true)
    (hd8 : PySem.W.hasDictIn K C8 = true)
    (po8 : PySem.W.plainOver K C8 = true)
    (sa8 : PySem.W.findIn K (.ref C8) "__setattr__" = some (some (.builtin "object.__setattr__")))
    (kc8 : PySem.W.keepIn K (.ref C8) = true)
    (nf0 : PySem.W.findIn K (.ref C8) "cell" = some none)
    (nf1 : PySem.W.findIn K (.ref C8) "cells" = some none)
    (nf2 : PySem.W.findIn K (.ref C8) "made" = some none)
    (nf3 : PySem.W.findIn K (.ref C8) "row" = some none)
    (m37 : PySem.W.findIn K (.ref C8) "__init__" = some (some (.ref f37)))
    (i37 : PySem.W.isFn K (.ref f37) = true)
    (mk37 : PySem.W.makesIn K C8 = true)
    (a43 : PySem.W.nsIn K mainGlobals "_law_digits" = some (some (.ref f43)))
    (l43 : K.lookup f43 = some ⟨oc43, od43, .func (PySem.W.fnOf "_law_digits" "_law_digits" (defArgs s_L_digits) (defBody s_L_digits) (defScope s_L_digits) .none kV43 doc43 pm43 an43 cd43 ct43), sl43⟩)
    (c43 : PySem.W.codeIn K cd43 "_law_digits" = true)
    (k43 : PySem.W.keepIn K (.ref f43) = true)
    (a42 : PySem.W.nsIn K mainGlobals "_law_cell" = some (some (.ref f42)))
    (l42 : K.lookup f42 = some ⟨oc42, od42, .func (PySem.W.fnOf "_law_cell" "_law_cell" (defArgs s_L_cell) (defBody s_L_cell) (defScope s_L_cell) .none kV42 doc42 pm42 an42 cd42 ct42), sl42⟩)
    (c42 : PySem.W.codeIn K cd42 "_law_cell" = true)
    (k42 : PySem.W.keepIn K (.ref f42) = true)
    (a44 : PySem.W.nsIn K mainGlobals "_law_inks" = some (some (.ref f44)))
    (l44 : K.lookup f44 = some ⟨oc44, od44, .func (PySem.W.fnOf "_law_inks" "_law_inks" (defArgs s_L_inks) (defBody s_L_inks) (defScope s_L_inks) .none kV44 doc44 pm44 an44 cd44 ct44), sl44⟩)
    (c44 : PySem.W.codeIn K cd44 "_law_inks" = true)
    (k44 : PySem.W.keepIn K (.ref f44) = true)
    (a45 : PySem.W.nsIn K mainGlobals "_law_names" = some (some (.ref f45)))
    (l45 : K.lookup f45 = some ⟨oc45, od45, .func (PySem.W.fnOf "_law_names" "_law_names" (defArgs s_L_names) (defBody s_L_names) (defScope s_L_names) .none kV45 doc45 pm45 an45 cd45 ct45), sl45⟩)
    (c45 : PySem.W.codeIn K cd45 "_law_names" = true)
    (k45 : PySem.W.keepIn K (.ref f45) = true)
    (a46 : PySem.W.nsIn K mainGlobals "_law_text" = some (some (.ref f46)))
    (l46 : K.lookup f46 = some ⟨oc46, od46, .func (PySem.W.fnOf "_law_text" "_law_text" (defArgs s_L_text) (defBody s_L_text) (defScope s_L_text) .none kV46 doc46 pm46 an46 cd46 ct46), sl46⟩)
    (c46 : PySem.W.codeIn K cd46 "_law_text" = true)
    (k46 : PySem.W.keepIn K (.ref f46) = true)
    (a47 : PySem.W.nsIn K mainGlobals "_law_lot" = some (some (.ref f47)))
    (l47 : K.lookup f47 = some ⟨oc47, od47, .func (PySem.W.fnOf "_law_lot" "_law_lot" (defArgs s_L_lot) (defBody s_L_lot) (defScope s_L_lot) .none kV47 doc47 pm47 an47 cd47 ct47), sl47⟩)
    (c47 : PySem.W.codeIn K cd47 "_law_lot" = true)
    (k47 : PySem.W.keepIn K (.ref f47) = true)
    (a55 : PySem.W.nsIn K mainGlobals "_law_chain" = some (some (.ref f55)))
    (l55 : K.lookup f55 = some ⟨oc55, od55, .func (PySem.W.fnOf "_law_chain" "_law_chain" (defArgs s_L_chain) (defBody s_L_chain) (defScope s_L_chain) .none kV55 doc55 pm55 an55 cd55 ct55), sl55⟩)
    (c55 : PySem.W.codeIn K cd55 "_law_chain" = true)
    (k55 : PySem.W.keepIn K (.ref f55) = true)
    (a51 : PySem.W.nsIn K mainGlobals "_law_numbers" = some (some (.ref f51)))
    (l51 : K.lookup f51 = some ⟨oc51, od51, .func (PySem.W.fnOf "_law_numbers" "_law_numbers" (defArgs s_L_numbers) (defBody s_L_numbers) (defScope s_L_numbers) .none kV51 doc51 pm51 an51 cd51 ct51), sl51⟩)
    (c51 : PySem.W.codeIn K cd51 "_law_numbers" = true)
    (k51 : PySem.W.keepIn K (.ref f51) = true)
    (a52 : PySem.W.nsIn K mainGlobals "_law_sheet" = some (some (.ref f52)))
    (l52 : K.lookup f52 = some ⟨oc52, od52, .func (PySem.W.fnOf "_law_sheet" "_law_sheet" (defArgs s_L_sheet) (defBody s_L_sheet) (defScope s_L_sheet) .none kV52 doc52 pm52 an52 cd52 ct52), sl52⟩)
    (c52 : PySem.W.codeIn K cd52 "_law_sheet" = true)
    (k52 : PySem.W.keepIn K (.ref f52) = true)
    (a48 : PySem.W.nsIn K mainGlobals "_law_press" = some (some (.ref f48)))
    (l48 : K.lookup f48 = some ⟨oc48, od48, .func (PySem.W.fnOf "_law_press" "_law_press" (defArgs s_L_press) (defBody s_L_press) (defScope s_L_press) .none kV48 doc48 pm48 an48 cd48 ct48), sl48⟩)
    (c48 : PySem.W.codeIn K cd48 "_law_press" = true)
    (k48 : PySem.W.keepIn K (.ref f48) = true)
    (a53 : PySem.W.nsIn K mainGlobals "_law_dashed" = some (some (.ref f53)))
    (l53 : K.lookup f53 = some ⟨oc53, od53, .func (PySem.W.fnOf "_law_dashed" "_law_dashed" (defArgs s_L_dashed) (defBody s_L_dashed) (defScope s_L_dashed) .none kV53 doc53 pm53 an53 cd53 ct53), sl53⟩)
    (c53 : PySem.W.codeIn K cd53 "_law_dashed" = true)
    (k53 : PySem.W.keepIn K (.ref f53) = true)
    (a54 : PySem.W.nsIn K mainGlobals "_law_scene" = some (some (.ref f54)))
    (l54 : K.lookup f54 = some ⟨oc54, od54, .func (PySem.W.fnOf "_law_scene" "_law_scene" (defArgs s_L_scene) (defBody s_L_scene) (defScope s_L_scene) .none kV54 doc54 pm54 an54 cd54 ct54), sl54⟩)
    (c54 : PySem.W.codeIn K cd54 "_law_scene" = true)
    (k54 : PySem.W.keepIn K (.ref f54) = true)
    (a71 : PySem.W.nsIn K mainGlobals "_law_drawn" = some (some (.ref f71)))
    (l71 : K.lookup f71 = some ⟨oc71, od71, .func (PySem.W.fnOf "_law_drawn" "_law_drawn" (defArgs s_L_drawn) (defBody s_L_drawn) (defScope s_L_drawn) .none kV71 doc71 pm71 an71 cd71 ct71), sl71⟩)
    (c71 : PySem.W.codeIn K cd71 "_law_drawn" = true)
    (k71 : PySem.W.keepIn K (.ref f71) = true)
    (a6 : PySem.W.nsIn K mainGlobals "frozen" = some (some (.ref f6)))
    (l6 : K.lookup f6 = some ⟨oc6, od6, .func (PySem.W.fnOf "frozen" "frozen" (defArgs s_frozen) (defBody s_frozen) (defScope s_frozen) .none kV6 doc6 pm6 an6 cd6 ct6), sl6⟩)
    (c6 : PySem.W.codeIn K cd6 "frozen" = true)
    (k6 : PySem.W.keepIn K (.ref f6) = true)
    (a23 : PySem.W.nsIn K mainGlobals "is_name" = some (some (.ref f23)))
    (l23 : K.lookup f23 = some ⟨oc23, od23, .func (PySem.W.fnOf "is_name" "is_name" (defArgs s_is_name) (defBody s_is_name) (defScope s_is_name) .none kV23 doc23 pm23 an23 cd23 ct23), sl23⟩)
    (c23 : PySem.W.codeIn K cd23 "is_name" = true)
    (k23 : PySem.W.keepIn K (.ref f23) = true)
    (a1 : PySem.W.nsIn K mainGlobals "is_layer" = some (some (.ref f1)))
    (l1 : K.lookup f1 = some ⟨oc1, od1, .func (PySem.W.fnOf "is_layer" "is_layer" (defArgs s_is_layer) (defBody s_is_layer) (defScope s_is_layer) .none kV1 doc1 pm1 an1 cd1 ct1), sl1⟩)
    (c1 : PySem.W.codeIn K cd1 "is_layer" = true)
    (k1 : PySem.W.keepIn K (.ref f1) = true)
    (a5 : PySem.W.nsIn K mainGlobals "empty_layer" = some (some (.ref f5)))
    (l5 : K.lookup f5 = some ⟨oc5, od5, .func (PySem.W.fnOf "empty_layer" "empty_layer" (defArgs s_empty_layer) (defBody s_empty_layer) (defScope s_empty_layer) .none kV5 doc5 pm5 an5 cd5 ct5), sl5⟩)
    (c5 : PySem.W.codeIn K cd5 "empty_layer" = true)
    (k5 : PySem.W.keepIn K (.ref f5) = true)
    (a24 : PySem.W.nsIn K mainGlobals "is_stamp" = some (some (.ref f24)))
    (l24 : K.lookup f24 = some ⟨oc24, od24, .func (PySem.W.fnOf "is_stamp" "is_stamp" (defArgs s_is_stamp) (defBody s_is_stamp) (defScope s_is_stamp) .none kV24 doc24 pm24 an24 cd24 ct24), sl24⟩)
    (c24 : PySem.W.codeIn K cd24 "is_stamp" = true)
    (k24 : PySem.W.keepIn K (.ref f24) = true)
    (l25 : K.lookup f25 = some ⟨oc25, od25, .func (PySem.W.fnOf "__init__" "Stock.__init__" (defArgs s_Stock___init__) (defBody s_Stock___init__) (defScope s_Stock___init__) .none kV25 doc25 pm25 an25 cd25 ct25), sl25⟩)
    (c25 : PySem.W.codeIn K cd25 "Stock.__init__" = true)
    (k25 : PySem.W.keepIn K (.ref f25) = true)
    (a3 : PySem.W.nsIn K mainGlobals "agree" = some (some (.ref f3)))
    (l3 : K.lookup f3 = some ⟨oc3, od3, .func (PySem.W.fnOf "agree" "agree" (defArgs s_agree) (defBody s_agree) (defScope s_agree) .none kV3 doc3 pm3 an3 cd3 ct3), sl3⟩)
    (c3 : PySem.W.codeIn K cd3 "agree" = true)
    (k3 : PySem.W.keepIn K (.ref f3) = true)
    (a4 : PySem.W.nsIn K mainGlobals "freed" = some (some (.ref f4)))
    (l4 : K.lookup f4 = some ⟨oc4, od4, .func (PySem.W.fnOf "freed" "freed" (defArgs s_freed) (defBody s_freed) (defScope s_freed) .none kV4 doc4 pm4 an4 cd4 ct4), sl4⟩)
    (c4 : PySem.W.codeIn K cd4 "freed" = true)
    (k4 : PySem.W.keepIn K (.ref f4) = true)
    (a2 : PySem.W.nsIn K mainGlobals "cells_of" = some (some (.ref f2)))
    (l2 : K.lookup f2 = some ⟨oc2, od2, .func (PySem.W.fnOf "cells_of" "cells_of" (defArgs s_cells_of) (defBody s_cells_of) (defScope s_cells_of) .none kV2 doc2 pm2 an2 cd2 ct2), sl2⟩)
    (c2 : PySem.W.codeIn K cd2 "cells_of" = true)
    (k2 : PySem.W.keepIn K (.ref f2) = true)
    (a9 : PySem.W.nsIn K mainGlobals "peeled" = some (some (.ref f9)))
    (l9 : K.lookup f9 = some ⟨oc9, od9, .func (PySem.W.fnOf "peeled" "peeled" (defArgs s_peeled) (defBody s_peeled) (defScope s_peeled) .none kV9 doc9 pm9 an9 cd9 ct9), sl9⟩)
    (c9 : PySem.W.codeIn K cd9 "peeled" = true)
    (k9 : PySem.W.keepIn K (.ref f9) = true)
    (a10 : PySem.W.nsIn K mainGlobals "frees_marks" = some (some (.ref f10)))
    (l10 : K.lookup f10 = some ⟨oc10, od10, .func (PySem.W.fnOf "frees_marks" "frees_marks" (defArgs s_frees_marks) (defBody s_frees_marks) (defScope s_frees_marks) .none kV10 doc10 pm10 an10 cd10 ct10), sl10⟩)
    (c10 : PySem.W.codeIn K cd10 "frees_marks" = true)
    (k10 : PySem.W.keepIn K (.ref f10) = true)
    (a11 : PySem.W.nsIn K mainGlobals "first_to_peel" = some (some (.ref f11)))
    (l11 : K.lookup f11 = some ⟨oc11, od11, .func (PySem.W.fnOf "first_to_peel" "first_to_peel" (defArgs s_first_to_peel) (defBody s_first_to_peel) (defScope s_first_to_peel) .none kV11 doc11 pm11 an11 cd11 ct11), sl11⟩)
    (c11 : PySem.W.codeIn K cd11 "first_to_peel" = true)
    (k11 : PySem.W.keepIn K (.ref f11) = true)
    (a12 : PySem.W.nsIn K mainGlobals "peel_by" = some (some (.ref f12)))
    (l12 : K.lookup f12 = some ⟨oc12, od12, .func (PySem.W.fnOf "peel_by" "peel_by" (defArgs s_peel_by) (defBody s_peel_by) (defScope s_peel_by) .none kV12 doc12 pm12 an12 cd12 ct12), sl12⟩)
    (c12 : PySem.W.codeIn K cd12 "peel_by" = true)
    (k12 : PySem.W.keepIn K (.ref f12) = true)
    (l26 : K.lookup f26 = some ⟨oc26, od26, .func (PySem.W.fnOf "names" "Stock.names" (defArgs s_Stock_names) (defBody s_Stock_names) (defScope s_Stock_names) .none kV26 doc26 pm26 an26 cd26 ct26), sl26⟩)
    (c26 : PySem.W.codeIn K cd26 "Stock.names" = true)
    (k26 : PySem.W.keepIn K (.ref f26) = true)
    (l8 : K.lookup f8 = some ⟨oc8, od8, .func (PySem.W.fnOf "__init__" "Peeling.__init__" (defArgs s_Peeling___init__) (defBody s_Peeling___init__) (defScope s_Peeling___init__) .none kV8 doc8 pm8 an8 cd8 ct8), sl8⟩)
    (c8 : PySem.W.codeIn K cd8 "Peeling.__init__" = true)
    (k8 : PySem.W.keepIn K (.ref f8) = true)
    (a13 : PySem.W.nsIn K mainGlobals "peeling" = some (some (.ref f13)))
    (l13 : K.lookup f13 = some ⟨oc13, od13, .func (PySem.W.fnOf "peeling" "peeling" (defArgs s_peeling) (defBody s_peeling) (defScope s_peeling) .none kV13 doc13 pm13 an13 cd13 ct13), sl13⟩)
    (c13 : PySem.W.codeIn K cd13 "peeling" = true)
    (k13 : PySem.W.keepIn K (.ref f13) = true)
    (a38 : PySem.W.nsIn K mainGlobals "first_clash" = some (some (.ref f38)))
    (l38 : K.lookup f38 = some ⟨oc38, od38, .func (PySem.W.fnOf "first_clash" "first_clash" (defArgs s_first_clash) (defBody s_first_clash) (defScope s_first_clash) .none kV38 doc38 pm38 an38 cd38 ct38), sl38⟩)
    (c38 : PySem.W.codeIn K cd38 "first_clash" = true)
    (k38 : PySem.W.keepIn K (.ref f38) = true)
    (l37 : K.lookup f37 = some ⟨oc37, od37, .func (PySem.W.fnOf "__init__" "Making.__init__" (defArgs s_Making___init__) (defBody s_Making___init__) (defScope s_Making___init__) .none kV37 doc37 pm37 an37 cd37 ct37), sl37⟩)
    (c37 : PySem.W.codeIn K cd37 "Making.__init__" = true)
    (k37 : PySem.W.keepIn K (.ref f37) = true)
    (a39 : PySem.W.nsIn K mainGlobals "making" = some (some (.ref f39)))
    (l39 : K.lookup f39 = some ⟨oc39, od39, .func (PySem.W.fnOf "making" "making" (defArgs s_making) (defBody s_making) (defScope s_making) .none kV39 doc39 pm39 an39 cd39 ct39), sl39⟩)
    (c39 : PySem.W.codeIn K cd39 "making" = true)
    (k39 : PySem.W.keepIn K (.ref f39) = true)
    (a56 : PySem.W.nsIn K mainGlobals "_law_layer_of" = some (some (.ref f56)))
    (l56 : K.lookup f56 = some ⟨oc56, od56, .func (PySem.W.fnOf "_law_layer_of" "_law_layer_of" (defArgs s_L_layer_of) (defBody s_L_layer_of) (defScope s_L_layer_of) .none kV56 doc56 pm56 an56 cd56 ct56), sl56⟩)
    (c56 : PySem.W.codeIn K cd56 "_law_layer_of" = true)
    (k56 : PySem.W.keepIn K (.ref f56) = true)
    (a49 : PySem.W.nsIn K mainGlobals "_law_agree" = some (some (.ref f49)))
    (l49 : K.lookup f49 = some ⟨oc49, od49, .func (PySem.W.fnOf "_law_agree" "_law_agree" (defArgs s_L_agree) (defBody s_L_agree) (defScope s_L_agree) .none kV49 doc49 pm49 an49 cd49 ct49), sl49⟩)
    (c49 : PySem.W.codeIn K cd49 "_law_agree" = true)
    (k49 : PySem.W.keepIn K (.ref f49) = true)
    (a50 : PySem.W.nsIn K mainGlobals "_law_free" = some (some (.ref f50)))
    (l50 : K.lookup f50 = some ⟨oc50, od50, .func (PySem.W.fnOf "_law_free" "_law_free" (defArgs s_L_free) (defBody s_L_free) (defScope s_L_free) .none kV50 doc50 pm50 an50 cd50 ct50), sl50⟩)
    (c50 : PySem.W.codeIn K cd50 "_law_free" = true)
    (k50 : PySem.W.keepIn K (.ref f50) = true)
    (a60 : PySem.W.nsIn K mainGlobals "_law_first" = some (some (.ref f60)))
    (l60 : K.lookup f60 = some ⟨oc60, od60, .func (PySem.W.fnOf "_law_first" "_law_first" (defArgs s_L_first) (defBody s_L_first) (defScope s_L_first) .none kV60 doc60 pm60 an60 cd60 ct60), sl60⟩)
    (c60 : PySem.W.codeIn K cd60 "_law_first" = true)
    (k60 : PySem.W.keepIn K (.ref f60) = true)
    (a61 : PySem.W.nsIn K mainGlobals "_law_peel" = some (some (.ref f61)))
    (l61 : K.lookup f61 = some ⟨oc61, od61, .func (PySem.W.fnOf "_law_peel" "_law_peel" (defArgs s_L_peel) (defBody s_L_peel) (defScope s_L_peel) .none kV61 doc61 pm61 an61 cd61 ct61), sl61⟩)
    (c61 : PySem.W.codeIn K cd61 "_law_peel" = true)
    (k61 : PySem.W.keepIn K (.ref f61) = true)
    (a63 : PySem.W.nsIn K mainGlobals "_law_ground" = some (some (.ref f63)))
    (l63 : K.lookup f63 = some ⟨oc63, od63, .func (PySem.W.fnOf "_law_ground" "_law_ground" (defArgs s_L_ground) (defBody s_L_ground) (defScope s_L_ground) .none kV63 doc63 pm63 an63 cd63 ct63), sl63⟩)
    (c63 : PySem.W.codeIn K cd63 "_law_ground" = true)
    (k63 : PySem.W.keepIn K (.ref f63) = true)
    (a57 : PySem.W.nsIn K mainGlobals "_law_fits" = some (some (.ref f57)))
    (l57 : K.lookup f57 = some ⟨oc57, od57, .func (PySem.W.fnOf "_law_fits" "_law_fits" (defArgs s_L_fits) (defBody s_L_fits) (defScope s_L_fits) .none kV57 doc57 pm57 an57 cd57 ct57), sl57⟩)
    (c57 : PySem.W.codeIn K cd57 "_law_fits" = true)
    (k57 : PySem.W.keepIn K (.ref f57) = true)
    (a62 : PySem.W.nsIn K mainGlobals "_law_pressed" = some (some (.ref f62)))
    (l62 : K.lookup f62 = some ⟨oc62, od62, .func (PySem.W.fnOf "_law_pressed" "_law_pressed" (defArgs s_L_pressed) (defBody s_L_pressed) (defScope s_L_pressed) .none kV62 doc62 pm62 an62 cd62 ct62), sl62⟩)
    (c62 : PySem.W.codeIn K cd62 "_law_pressed" = true)
    (k62 : PySem.W.keepIn K (.ref f62) = true)
    (a64 : PySem.W.nsIn K mainGlobals "_law_leads" = some (some (.ref f64)))
    (l64 : K.lookup f64 = some ⟨oc64, od64, .func (PySem.W.fnOf "_law_leads" "_law_leads" (defArgs s_L_leads) (defBody s_L_leads) (defScope s_L_leads) .none kV64 doc64 pm64 an64 cd64 ct64), sl64⟩)
    (c64 : PySem.W.codeIn K cd64 "_law_leads" = true)
    (k64 : PySem.W.keepIn K (.ref f64) = true)
    (a41 : PySem.W.nsIn K mainGlobals "_law_whole" = some (some (.ref f41)))
    (l41 : K.lookup f41 = some ⟨oc41, od41, .func (PySem.W.fnOf "_law_whole" "_law_whole" (defArgs s_L_whole) (defBody s_L_whole) (defScope s_L_whole) .none kV41 doc41 pm41 an41 cd41 ct41), sl41⟩)
    (c41 : PySem.W.codeIn K cd41 "_law_whole" = true)
    (k41 : PySem.W.keepIn K (.ref f41) = true)
    (a58 : PySem.W.nsIn K mainGlobals "_law_fast" = some (some (.ref f58)))
    (l58 : K.lookup f58 = some ⟨oc58, od58, .func (PySem.W.fnOf "_law_fast" "_law_fast" (defArgs s_L_fast) (defBody s_L_fast) (defScope s_L_fast) .none kV58 doc58 pm58 an58 cd58 ct58), sl58⟩)
    (c58 : PySem.W.codeIn K cd58 "_law_fast" = true)
    (k58 : PySem.W.keepIn K (.ref f58) = true)
    (a65 : PySem.W.nsIn K mainGlobals "_law_barred" = some (some (.ref f65)))
    (l65 : K.lookup f65 = some ⟨oc65, od65, .func (PySem.W.fnOf "_law_barred" "_law_barred" (defArgs s_L_barred) (defBody s_L_barred) (defScope s_L_barred) .none kV65 doc65 pm65 an65 cd65 ct65), sl65⟩)
    (c65 : PySem.W.codeIn K cd65 "_law_barred" = true)
    (k65 : PySem.W.keepIn K (.ref f65) = true)
    (a66 : PySem.W.nsIn K mainGlobals "_law_shows" = some (some (.ref f66)))
    (l66 : K.lookup f66 = some ⟨oc66, od66, .func (PySem.W.fnOf "_law_shows" "_law_shows" (defArgs s_L_shows) (defBody s_L_shows) (defScope s_L_shows) .none kV66 doc66 pm66 an66 cd66 ct66), sl66⟩)
    (c66 : PySem.W.codeIn K cd66 "_law_shows" = true)
    (k66 : PySem.W.keepIn K (.ref f66) = true)
    (a67 : PySem.W.nsIn K mainGlobals "_law_bars" = some (some (.ref f67)))
    (l67 : K.lookup f67 = some ⟨oc67, od67, .func (PySem.W.fnOf "_law_bars" "_law_bars" (defArgs s_L_bars) (defBody s_L_bars) (defScope s_L_bars) .none kV67 doc67 pm67 an67 cd67 ct67), sl67⟩)
    (c67 : PySem.W.codeIn K cd67 "_law_bars" = true)
    (k67 : PySem.W.keepIn K (.ref f67) = true)
    (a7 : PySem.W.nsIn K mainGlobals "cell_set" = some (some (.ref f7)))
    (l7 : K.lookup f7 = some ⟨oc7, od7, .func (PySem.W.fnOf "cell_set" "cell_set" (defArgs s_cell_set) (defBody s_cell_set) (defScope s_cell_set) .none kV7 doc7 pm7 an7 cd7 ct7), sl7⟩)
    (c7 : PySem.W.codeIn K cd7 "cell_set" = true)
    (k7 : PySem.W.keepIn K (.ref f7) = true)
    (a14 : PySem.W.nsIn K mainGlobals "covers_some" = some (some (.ref f14)))
    (l14 : K.lookup f14 = some ⟨oc14, od14, .func (PySem.W.fnOf "covers_some" "covers_some" (defArgs s_covers_some) (defBody s_covers_some) (defScope s_covers_some) .none kV14 doc14 pm14 an14 cd14 ct14), sl14⟩)
    (c14 : PySem.W.codeIn K cd14 "covers_some" = true)
    (k14 : PySem.W.keepIn K (.ref f14) = true)
    (a15 : PySem.W.nsIn K mainGlobals "contradicts" = some (some (.ref f15)))
    (l15 : K.lookup f15 = some ⟨oc15, od15, .func (PySem.W.fnOf "contradicts" "contradicts" (defArgs s_contradicts) (defBody s_contradicts) (defScope s_contradicts) .none kV15 doc15 pm15 an15 cd15 ct15), sl15⟩)
    (c15 : PySem.W.codeIn K cd15 "contradicts" = true)
    (k15 : PySem.W.keepIn K (.ref f15) = true)
    (a16 : PySem.W.nsIn K mainGlobals "fast_for" = some (some (.ref f16)))
    (l16 : K.lookup f16 = some ⟨oc16, od16, .func (PySem.W.fnOf "fast_for" "fast_for" (defArgs s_fast_for) (defBody s_fast_for) (defScope s_fast_for) .none kV16 doc16 pm16 an16 cd16 ct16), sl16⟩)
    (c16 : PySem.W.codeIn K cd16 "fast_for" = true)
    (k16 : PySem.W.keepIn K (.ref f16) = true)
    (a17 : PySem.W.nsIn K mainGlobals "is_fast" = some (some (.ref f17)))
    (l17 : K.lookup f17 = some ⟨oc17, od17, .func (PySem.W.fnOf "is_fast" "is_fast" (defArgs s_is_fast) (defBody s_is_fast) (defScope s_is_fast) .none kV17 doc17 pm17 an17 cd17 ct17), sl17⟩)
    (c17 : PySem.W.codeIn K cd17 "is_fast" = true)
    (k17 : PySem.W.keepIn K (.ref f17) = true)
    (a40 : PySem.W.nsIn K mainGlobals "is_refusal" = some (some (.ref f40)))
    (l40 : K.lookup f40 = some ⟨oc40, od40, .func (PySem.W.fnOf "is_refusal" "is_refusal" (defArgs s_is_refusal) (defBody s_is_refusal) (defScope s_is_refusal) .none kV40 doc40 pm40 an40 cd40 ct40), sl40⟩)
    (c40 : PySem.W.codeIn K cd40 "is_refusal" = true)
    (k40 : PySem.W.keepIn K (.ref f40) = true)
    (a59 : PySem.W.nsIn K mainGlobals "_law_subsets" = some (some (.ref f59)))
    (l59 : K.lookup f59 = some ⟨oc59, od59, .func (PySem.W.fnOf "_law_subsets" "_law_subsets" (defArgs s_L_subsets) (defBody s_L_subsets) (defScope s_L_subsets) .none kV59 doc59 pm59 an59 cd59 ct59), sl59⟩)
    (c59 : PySem.W.codeIn K cd59 "_law_subsets" = true)
    (k59 : PySem.W.keepIn K (.ref f59) = true)
    (a68 : PySem.W.nsIn K mainGlobals "_law_tried" = some (some (.ref f68)))
    (l68 : K.lookup f68 = some ⟨oc68, od68, .func (PySem.W.fnOf "_law_tried" "_law_tried" (defArgs s_L_tried) (defBody s_L_tried) (defScope s_L_tried) .none kV68 doc68 pm68 an68 cd68 ct68), sl68⟩)
    (c68 : PySem.W.codeIn K cd68 "_law_tried" = true)
    (k68 : PySem.W.keepIn K (.ref f68) = true)
    (a69 : PySem.W.nsIn K mainGlobals "_law_judged" = some (some (.ref f69)))
    (l69 : K.lookup f69 = some ⟨oc69, od69, .func (PySem.W.fnOf "_law_judged" "_law_judged" (defArgs s_L_judged) (defBody s_L_judged) (defScope s_L_judged) .none kV69 doc69 pm69 an69 cd69 ct69), sl69⟩)
    (c69 : PySem.W.codeIn K cd69 "_law_judged" = true)
    (k69 : PySem.W.keepIn K (.ref f69) = true)
    (a70 : PySem.W.nsIn K mainGlobals "_law_told" = some (some (.ref f70)))
    (l70 : K.lookup f70 = some ⟨oc70, od70, .func (PySem.W.fnOf "_law_told" "_law_told" (defArgs s_L_told) (defBody s_L_told) (defScope s_L_told) .none kV70 doc70 pm70 an70 cd70 ct70), sl70⟩)
    (c70 : PySem.W.codeIn K cd70 "_law_told" = true)
    (k70 : PySem.W.keepIn K (.ref f70) = true)
    (a72 : PySem.W.nsIn K mainGlobals "law" = some (some (.ref f72)))
    (l72 : K.lookup f72 = some ⟨oc72, od72, .func (PySem.W.fnOf "law" "law" (defArgs s_law) (defBody s_law) (defScope s_law) .none kV72 doc72 pm72 an72 cd72 ct72), sl72⟩)
    (c72 : PySem.W.codeIn K cd72 "law" = true)
    (k72 : PySem.W.keepIn K (.ref f72) = true)
    (z0 : PySem.W.nsIn K mainGlobals "bool" = some none)
    (z1 : PySem.W.nsIn K mainGlobals "enumerate" = some none)
    (z2 : PySem.W.nsIn K mainGlobals "int" = some none)
    (z3 : PySem.W.nsIn K mainGlobals "isinstance" = some none)
    (z4 : PySem.W.nsIn K mainGlobals "len" = some none)
    (z5 : PySem.W.nsIn K mainGlobals "list" = some none)
    (z6 : PySem.W.nsIn K mainGlobals "max" = some none)
    (z7 : PySem.W.nsIn K mainGlobals "min" = some none)
    (z8 : PySem.W.nsIn K mainGlobals "range" = some none)
    (z9 : PySem.W.nsIn K mainGlobals "set" = some none)
    (z10 : PySem.W.nsIn K mainGlobals "sorted" = some none)
    (z11 : PySem.W.nsIn K mainGlobals "str" = some none)
    (z12 : PySem.W.nsIn K mainGlobals "sum" = some none)
    (z13 : PySem.W.nsIn K mainGlobals "tuple" = some none)
    (z14 : PySem.W.nsIn K mainGlobals "zip" = some none)
    (gk0 : PySem.W.nsIn K mainGlobals "SIGNS" = some (some (.str (mkS [45, 46, 97, 98, 99, 100, 101, 102, 103, 104, 105, 106, 107, 108, 109, 110, 111, 112, 113, 114, 115, 116, 117, 118, 119, 120, 121, 122]) tk0)))
    (gk1 : PySem.W.nsIn K mainGlobals "MOST_CELLS" = some (some (.int 30 tk1)))
    (gk2 : PySem.W.nsIn K mainGlobals "LETTERS" = some (some (.str (mkS [97, 98, 99, 100, 101, 102, 103, 104, 105, 106, 107, 108, 109, 110, 111, 112, 113, 114, 115, 116, 117, 118, 119, 120, 121, 122]) tk2)))
    (gk3 : PySem.W.nsIn K mainGlobals "DIGITS" = some (some (.str (mkS [48, 49, 50, 51, 52, 53, 54, 55, 56, 57]) tk3)))
    (gk4 : PySem.W.nsIn K mainGlobals "LONGEST_NAME" = some (some (.int 8 tk4)))
    : ∃ fd : FuncData, (∀ (s : Shared) (v : Value), BindsTo s fd ⟨[v], []⟩ [("_law_script", v)]) ∧ ∀ base : Heap, K.In base → base.Ns mainGlobals mg → FnOk P w K mg base CX0 9 fa fd ["_law_script"] (spF K F_law) := by
  have e := hfa.symm.trans (PySem.W.mg_of X G a72)
  cases e
  have hb : ∀ x ∈ blts, mg x = none := by
    intro x hx
    simp only [blts, List.mem_cons, List.not_mem_nil, or_false] at hx
    rcases hx with rfl | rfl | rfl | rfl | rfl | rfl | rfl | rfl | rfl | rfl | rfl | rfl | rfl | rfl | rfl
    · exact PySem.W.mg_none_of X G z0
    · exact PySem.W.mg_none_of X G z1
    · exact PySem.W.mg_none_of X G z2
    · exact PySem.W.mg_none_of X G z3
    · exact PySem.W.mg_none_of X G z4
    · exact PySem.W.mg_none_of X G z5
    · exact PySem.W.mg_none_of X G z6
    · exact PySem.W.mg_none_of X G z7
    · exact PySem.W.mg_none_of X G z8
    · exact PySem.W.mg_none_of X G z9
    · exact PySem.W.mg_none_of X G z10
    · exact PySem.W.mg_none_of X G z11
    · exact PySem.W.mg_none_of X G z12
    · exact PySem.W.mg_none_of X G z13
    · exact PySem.W.mg_none_of X G z14
  have cl0 : Cls K C0 := ⟨pg0, hd0, po0, sa0⟩
  have cl7 : Cls K C7 := ⟨pg7, hd7, po7, sa7⟩
  have cl8 : Cls K C8 := ⟨pg8, hd8, po8, sa8⟩
  have Fn43 := fun_mk (st := s_L_digits) l43 c43 k43
  have b43 := Fn43.binds (ps := ["_law_cell_here", "_law_sizes"]) fun _ _ _ _ _ _ us hl => match us, hl with | [_, _], _ => rfl
  have Fn42 := fun_mk (st := s_L_cell) l42 c42 k42
  have b42 := Fn42.binds (ps := ["_law_script", "_law_k"]) fun _ _ _ _ _ _ us hl => match us, hl with | [_, _], _ => rfl
  have Fn44 := fun_mk (st := s_L_inks) l44 c44 k44
  have b44 := Fn44.binds (ps := ["_law_line"]) fun _ _ _ _ _ _ us hl => match us, hl with | [_], _ => rfl
  have Fn45 := fun_mk (st := s_L_names) l45 c45 k45
  have b45 := Fn45.binds (ps := ["_law_line", "_law_many"]) fun _ _ _ _ _ _ us hl => match us, hl with | [_, _], _ => rfl
  have Fn46 := fun_mk (st := s_L_text) l46 c46 k46
  have b46 := Fn46.binds (ps := ["_law_menu", "_law_line", "_law_size"]) fun _ _ _ _ _ _ us hl => match us, hl with | [_, _, _], _ => rfl
  have Fn47 := fun_mk (st := s_L_lot) l47 c47 k47
  have b47 := Fn47.binds (ps := ["_law_script", "_law_at", "_law_upto", "_law_widest"]) fun _ _ _ _ _ _ us hl => match us, hl with | [_, _, _, _], _ => rfl
  have Fn55 := fun_mk (st := s_L_chain) l55 c55 k55
  have b55 := Fn55.binds (ps := ["_law_script", "_law_at"]) fun _ _ _ _ _ _ us hl => match us, hl with | [_, _], _ => rfl
  have Fn51 := fun_mk (st := s_L_numbers) l51 c51 k51
  have b51 := Fn51.binds (ps := ["_law_many", "_law_line"]) fun _ _ _ _ _ _ us hl => match us, hl with | [_, _], _ => rfl
  have Fn52 := fun_mk (st := s_L_sheet) l52 c52 k52
  have b52 := Fn52.binds (ps := ["_law_menu", "_law_line", "_law_size"]) fun _ _ _ _ _ _ us hl => match us, hl with | [_, _, _], _ => rfl
  have Fn48 := fun_mk (st := s_L_press) l48 c48 k48
  have b48 := Fn48.binds (ps := ["_law_one", "_law_two"]) fun _ _ _ _ _ _ us hl => match us, hl with | [_, _], _ => rfl
  have Fn53 := fun_mk (st := s_L_dashed) l53 c53 k53
  have b53 := Fn53.binds (ps := ["_law_layer", "_law_line", "_law_much"]) fun _ _ _ _ _ _ us hl => match us, hl with | [_, _, _], _ => rfl
  have Fn54 := fun_mk (st := s_L_scene) l54 c54 k54
  have b54 := Fn54.binds (ps := ["_law_script", "_law_at", "_law_lot_here"]) fun _ _ _ _ _ _ us hl => match us, hl with | [_, _, _], _ => rfl
  have Fn71 := fun_mk (st := s_L_drawn) l71 c71 k71
  have b71 := Fn71.binds (ps := ["_law_script"]) fun _ _ _ _ _ _ us hl => match us, hl with | [_], _ => rfl
  have Fn6 := fun_mk (st := s_frozen) l6 c6 k6
  have b6 := Fn6.binds (ps := ["value"]) fun _ _ _ _ _ _ us hl => match us, hl with | [_], _ => rfl
  have Fn23 := fun_mk (st := s_is_name) l23 c23 k23
  have b23 := Fn23.binds (ps := ["value"]) fun _ _ _ _ _ _ us hl => match us, hl with | [_], _ => rfl
  have Fn1 := fun_mk (st := s_is_layer) l1 c1 k1
  have b1 := Fn1.binds (ps := ["value"]) fun _ _ _ _ _ _ us hl => match us, hl with | [_], _ => rfl
  have Fn5 := fun_mk (st := s_empty_layer) l5 c5 k5
  have b5 := Fn5.binds (ps := ["size"]) fun _ _ _ _ _ _ us hl => match us, hl with | [_], _ => rfl
  have Fn24 := fun_mk (st := s_is_stamp) l24 c24 k24
  have b24 := Fn24.binds (ps := ["value", "size"]) fun _ _ _ _ _ _ us hl => match us, hl with | [_, _], _ => rfl
  have Fn25 := fun_mk (st := s_Stock___init__) l25 c25 k25
  have b25 := Fn25.binds (ps := ["self", "size", "stamps"]) fun _ _ _ _ _ _ us hl => match us, hl with | [_, _, _], _ => rfl
  have Fn3 := fun_mk (st := s_agree) l3 c3 k3
  have b3 := Fn3.binds (ps := ["one", "two"]) fun _ _ _ _ _ _ us hl => match us, hl with | [_, _], _ => rfl
  have Fn4 := fun_mk (st := s_freed) l4 c4 k4
  have b4 := Fn4.binds (ps := ["one", "chosen"]) fun _ _ _ _ _ _ us hl => match us, hl with | [_, _], _ => rfl
  have Fn2 := fun_mk (st := s_cells_of) l2 c2 k2
  have b2 := Fn2.binds (ps := ["one"]) fun _ _ _ _ _ _ us hl => match us, hl with | [_], _ => rfl
  have Fn9 := fun_mk (st := s_peeled) l9 c9 k9
  have b9 := Fn9.binds (ps := ["left", "stamp"]) fun _ _ _ _ _ _ us hl => match us, hl with | [_, _], _ => rfl
  have Fn10 := fun_mk (st := s_frees_marks) l10 c10 k10
  have b10 := Fn10.binds (ps := ["stamp", "left"]) fun _ _ _ _ _ _ us hl => match us, hl with | [_, _], _ => rfl
  have Fn11 := fun_mk (st := s_first_to_peel) l11 c11 k11
  have b11 := Fn11.binds (ps := ["layers", "left"]) fun _ _ _ _ _ _ us hl => match us, hl with | [_, _], _ => rfl
  have Fn12 := fun_mk (st := s_peel_by) l12 c12 k12
  have b12 := Fn12.binds (ps := ["layers", "left"]) fun _ _ _ _ _ _ us hl => match us, hl with | [_, _], _ => rfl
  have Fn26 := fun_mk (st := s_Stock_names) l26 c26 k26
  have b26 := Fn26.binds (ps := ["self"]) fun _ _ _ _ _ _ us hl => match us, hl with | [_], _ => rfl
  have Fn8 := fun_mk (st := s_Peeling___init__) l8 c8 k8
  have b8 := Fn8.binds (ps := ["self", "seen", "order", "left"]) fun _ _ _ _ _ _ us hl => match us, hl with | [_, _, _, _], _ => rfl
  have Fn13 := fun_mk (st := s_peeling) l13 c13 k13
  have b13 := Fn13.binds (ps := ["stock", "seen"]) fun _ _ _ _ _ _ us hl => match us, hl with | [_, _], _ => rfl
  have Fn38 := fun_mk (st := s_first_clash) l38 c38 k38
  have b38 := Fn38.binds (ps := ["one", "two"]) fun _ _ _ _ _ _ us hl => match us, hl with | [_, _], _ => rfl
  have Fn37 := fun_mk (st := s_Making___init__) l37 c37 k37
  have b37 := Fn37.binds (ps := ["self", "made", "row", "cells", "cell"]) fun _ _ _ _ _ _ us hl => match us, hl with | [_, _, _, _, _], _ => rfl
  have Fn39 := fun_mk (st := s_making) l39 c39 k39
  have b39 := Fn39.binds (ps := ["stock", "start", "seen"]) fun _ _ _ _ _ _ us hl => match us, hl with | [_, _, _], _ => rfl
  have Fn56 := fun_mk (st := s_L_layer_of) l56 c56 k56
  have b56 := Fn56.binds (ps := ["_law_stamps", "_law_name"]) fun _ _ _ _ _ _ us hl => match us, hl with | [_, _], _ => rfl
  have Fn49 := fun_mk (st := s_L_agree) l49 c49 k49
  have b49 := Fn49.binds (ps := ["_law_one", "_law_two"]) fun _ _ _ _ _ _ us hl => match us, hl with | [_, _], _ => rfl
  have Fn50 := fun_mk (st := s_L_free) l50 c50 k50
  have b50 := Fn50.binds (ps := ["_law_one", "_law_two"]) fun _ _ _ _ _ _ us hl => match us, hl with | [_, _], _ => rfl
  have Fn60 := fun_mk (st := s_L_first) l60 c60 k60
  have b60 := Fn60.binds (ps := ["_law_stamps", "_law_stay"]) fun _ _ _ _ _ _ us hl => match us, hl with | [_, _], _ => rfl
  have Fn61 := fun_mk (st := s_L_peel) l61 c61 k61
  have b61 := Fn61.binds (ps := ["_law_stamps", "_law_shown"]) fun _ _ _ _ _ _ us hl => match us, hl with | [_, _], _ => rfl
  have Fn63 := fun_mk (st := s_L_ground) l63 c63 k63
  have b63 := Fn63.binds (ps := ["_law_base", "_law_stay"]) fun _ _ _ _ _ _ us hl => match us, hl with | [_, _], _ => rfl
  have Fn57 := fun_mk (st := s_L_fits) l57 c57 k57
  have b57 := Fn57.binds (ps := ["_law_sheet_here", "_law_layer"]) fun _ _ _ _ _ _ us hl => match us, hl with | [_, _], _ => rfl
  have Fn62 := fun_mk (st := s_L_pressed) l62 c62 k62
  have b62 := Fn62.binds (ps := ["_law_stamps", "_law_layer", "_law_presses"]) fun _ _ _ _ _ _ us hl => match us, hl with | [_, _, _], _ => rfl
  have Fn64 := fun_mk (st := s_L_leads) l64 c64 k64
  have b64 := Fn64.binds (ps := ["_law_stamps", "_law_base", "_law_shown", "_law_actual"]) fun _ _ _ _ _ _ us hl => match us, hl with | [_, _, _, _], _ => rfl
  have Fn41 := fun_mk (st := s_L_whole) l41 c41 k41
  have b41 := Fn41.binds (ps := ["_law_value"]) fun _ _ _ _ _ _ us hl => match us, hl with | [_], _ => rfl
  have Fn58 := fun_mk (st := s_L_fast) l58 c58 k58
  have b58 := Fn58.binds (ps := ["_law_stamps", "_law_shown", "_law_cells"]) fun _ _ _ _ _ _ us hl => match us, hl with | [_, _, _], _ => rfl
  have Fn65 := fun_mk (st := s_L_barred) l65 c65 k65
  have b65 := Fn65.binds (ps := ["_law_stamps", "_law_base", "_law_shown", "_law_actual"]) fun _ _ _ _ _ _ us hl => match us, hl with | [_, _, _, _], _ => rfl
  have Fn66 := fun_mk (st := s_L_shows) l66 c66 k66
  have b66 := Fn66.binds (ps := ["_law_stamps", "_law_base", "_law_shown", "_law_actual"]) fun _ _ _ _ _ _ us hl => match us, hl with | [_, _, _, _], _ => rfl
  have Fn67 := fun_mk (st := s_L_bars) l67 c67 k67
  have b67 := Fn67.binds (ps := ["_law_stamps", "_law_base", "_law_shown", "_law_cells"]) fun _ _ _ _ _ _ us hl => match us, hl with | [_, _, _, _], _ => rfl
  have Fn7 := fun_mk (st := s_cell_set) l7 c7 k7
  have b7 := Fn7.binds (ps := ["chosen"]) fun _ _ _ _ _ _ us hl => match us, hl with | [_], _ => rfl
  have Fn14 := fun_mk (st := s_covers_some) l14 c14 k14
  have b14 := Fn14.binds (ps := ["stamp", "cells"]) fun _ _ _ _ _ _ us hl => match us, hl with | [_, _], _ => rfl
  have Fn15 := fun_mk (st := s_contradicts) l15 c15 k15
  have b15 := Fn15.binds (ps := ["stamp", "seen", "cells"]) fun _ _ _ _ _ _ us hl => match us, hl with | [_, _, _], _ => rfl
  have Fn16 := fun_mk (st := s_fast_for) l16 c16 k16
  have b16 := Fn16.binds (ps := ["layers", "seen", "chosen"]) fun _ _ _ _ _ _ us hl => match us, hl with | [_, _, _], _ => rfl
  have Fn17 := fun_mk (st := s_is_fast) l17 c17 k17
  have b17 := Fn17.binds (ps := ["stock", "seen", "chosen"]) fun _ _ _ _ _ _ us hl => match us, hl with | [_, _, _], _ => rfl
  have Fn40 := fun_mk (st := s_is_refusal) l40 c40 k40
  have b40 := Fn40.binds (ps := ["stock", "start", "seen", "chosen"]) fun _ _ _ _ _ _ us hl => match us, hl with | [_, _, _, _], _ => rfl
  have Fn59 := fun_mk (st := s_L_subsets) l59 c59 k59
  have b59 := Fn59.binds (ps := ["_law_cells"]) fun _ _ _ _ _ _ us hl => match us, hl with | [_], _ => rfl
  have Fn68 := fun_mk (st := s_L_tried) l68 c68 k68
  have b68 := Fn68.binds (ps := ["_law_script", "_law_size", "_law_stuck"]) fun _ _ _ _ _ _ us hl => match us, hl with | [_, _, _], _ => rfl
  have Fn69 := fun_mk (st := s_L_judged) l69 c69 k69
  have b69 := Fn69.binds (ps := ["_law_script", "_law_built", "_law_stamps", "_law_base", "_law_shown", "_law_stuck"]) fun _ _ _ _ _ _ us hl => match us, hl with | [_, _, _, _, _, _], _ => rfl
  have Fn70 := fun_mk (st := s_L_told) l70 c70 k70
  have b70 := Fn70.binds (ps := ["_law_script", "_law_built", "_law_stamps", "_law_base", "_law_shown"]) fun _ _ _ _ _ _ us hl => match us, hl with | [_, _, _, _, _], _ => rfl
  have Fn72 := fun_mk (st := s_law) l72 c72 k72
  have b72 := Fn72.binds (ps := ["_law_script"]) fun _ _ _ _ _ _ us hl => match us, hl with | [_], _ => rfl
  refine ⟨_, fun s v => (.of_eq rfl : BindsTo s (PySem.W.fnOf "law" "law" (defArgs s_law) (defBody s_law) (defScope s_law) .none kV72 doc72 pm72 an72 cd72 ct72) ⟨[v], []⟩ [("_law_script", v)]), fun base KB GB => ?_⟩
  have ok43 : FnOk P w K mg base CX0 1 f43 _ ["_law_cell_here", "_law_sizes"] (spF K F_L_digits) :=
    fn_ok (Y := Y_L_digits) Fn43 sc_L_digits ⟨fun i x hx => by simp [Y_L_digits, Z_L_digits, findM] at hx,
      fun k x hx => by simp [Y_L_digits, Z_L_digits, findM] at hx,
      hb, fun hz => by simp [Y_L_digits] at hz,
      fun c f hx => by simp [Y_L_digits, Z_L_digits, findM] at hx,
      fun c m k hx => by simp [Y_L_digits, Z_L_digits, findM] at hx,
      fun c m k hx => by simp [Y_L_digits, Z_L_digits, findM] at hx,
      fun k c hx => by simp [Y_L_digits, Z_L_digits, findM] at hx,
      fun c hx => by simp [Y_L_digits, Z_L_digits] at hx,
      fun k x ks pm hx => by simp [Y_L_digits, Z_L_digits, findM] at hx⟩ ck_L_digits (by decide) (fun _ _ z => z)
  have ok42 : FnOk P w K mg base CX0 1 f42 _ ["_law_script", "_law_k"] (spF K F_L_cell) :=
    fn_ok (Y := Y_L_cell) Fn42 sc_L_cell ⟨fun i x hx => by simp [Y_L_cell, Z_L_cell, findM] at hx,
      fun k x hx => by simp [Y_L_cell, Z_L_cell, findM] at hx,
      hb, fun hz => by simp [Y_L_cell] at hz,
      fun c f hx => by simp [Y_L_cell, Z_L_cell, findM] at hx,
      fun c m k hx => by simp [Y_L_cell, Z_L_cell, findM] at hx,
      fun c m k hx => by simp [Y_L_cell, Z_L_cell, findM] at hx,
      fun k c hx => by simp [Y_L_cell, Z_L_cell, findM] at hx,
      fun c hx => by simp [Y_L_cell, Z_L_cell] at hx,
      fun k x ks pm hx => by simp [Y_L_cell, Z_L_cell, findM] at hx⟩ ck_L_cell (by decide) (fun _ _ z => z)
  have ok44 : FnOk P w K mg base CX0 1 f44 _ ["_law_line"] (spF K F_L_inks) :=
    fn_ok (Y := Y_L_inks) Fn44 sc_L_inks ⟨fun i x hx => by simp [Y_L_inks, Z_L_inks, findM] at hx,
      fun k x hx => by simp [Y_L_inks, Z_L_inks, findM] at hx,
      hb, fun hz => by simp [Y_L_inks] at hz,
      fun c f hx => by simp [Y_L_inks, Z_L_inks, findM] at hx,
      fun c m k hx => by simp [Y_L_inks, Z_L_inks, findM] at hx,
      fun c m k hx => by simp [Y_L_inks, Z_L_inks, findM] at hx,
      fun k c hx => by simp [Y_L_inks, Z_L_inks, findM] at hx,
      fun c hx => by simp [Y_L_inks, Z_L_inks] at hx,
      fun k x ks pm hx => by simp [Y_L_inks, Z_L_inks, findM] at hx⟩ ck_L_inks (by decide) (fun _ _ z => z)
  have ok45 : FnOk P w K mg base CX0 1 f45 _ ["_law_line", "_law_many"] (spF K F_L_names) :=
    fn_ok (Y := Y_L_names) Fn45 sc_L_names ⟨fun i x hx => by simp [Y_L_names, Z_L_names, findM] at hx,
      fun k x hx => by simp [Y_L_names, Z_L_names, findM] at hx,
      hb, fun hz => by simp [Y_L_names] at hz,
      fun c f hx => by simp [Y_L_names, Z_L_names, findM] at hx,
      fun c m k hx => by simp [Y_L_names, Z_L_names, findM] at hx,
      fun c m k hx => by simp [Y_L_names, Z_L_names, findM] at hx,
      fun k c hx => by simp [Y_L_names, Z_L_names, findM] at hx,
      fun c hx => by simp [Y_L_names, Z_L_names] at hx,
      fun k x ks pm hx => by simp [Y_L_names, Z_L_names, findM] at hx⟩ ck_L_names (by decide) (fun _ _ z => z)
  have ok46 : FnOk P w K mg base CX0 1 f46 _ ["_law_menu", "_law_line", "_law_size"] (spF K F_L_text) :=
    fn_ok (Y := Y_L_text) Fn46 sc_L_text ⟨fun i x hx => by simp [Y_L_text, Z_L_text, findM] at hx,
      fun k x hx => by simp [Y_L_text, Z_L_text, findM] at hx,
      hb, fun hz => by simp [Y_L_text] at hz,
      fun c f hx => by simp [Y_L_text, Z_L_text, findM] at hx,
      fun c m k hx => by simp [Y_L_text, Z_L_text, findM] at hx,
      fun c m k hx => by simp [Y_L_text, Z_L_text, findM] at hx,
      fun k c hx => by simp [Y_L_text, Z_L_text, findM] at hx,
      fun c hx => by simp [Y_L_text, Z_L_text] at hx,
      fun k x ks pm hx => by simp [Y_L_text, Z_L_text, findM] at hx⟩ ck_L_text (by decide) (fun _ _ z => z)
  have ok47 : FnOk P w K mg base CX0 2 f47 _ ["_law_script", "_law_at", "_law_upto", "_law_widest"] (spF K F_L_lot) :=
    fn_ok (Y := Y_L_lot) Fn47 sc_L_lot ⟨fun i x hx => by
      simp only [Y_L_lot, Z_L_lot, List.mem_cons, List.not_mem_nil, or_false, Prod.mk.injEq] at hx
      rcases hx with ⟨rfl, rfl⟩ | ⟨rfl, rfl⟩ | ⟨rfl, rfl⟩ | ⟨rfl, rfl⟩ | ⟨rfl, rfl⟩
      · exact ⟨f42, _, _, PySem.W.mg_of X G a42, k42, b42, ok42.mono (by decide)⟩
      · exact ⟨f43, _, _, PySem.W.mg_of X G a43, k43, b43, ok43.mono (by decide)⟩
      · exact ⟨f44, _, _, PySem.W.mg_of X G a44, k44, b44, ok44.mono (by decide)⟩
      · exact ⟨f45, _, _, PySem.W.mg_of X G a45, k45, b45, ok45.mono (by decide)⟩
      · exact ⟨f46, _, _, PySem.W.mg_of X G a46, k46, b46, ok46.mono (by decide)⟩,
      fun k x hx => by simp [Y_L_lot, Z_L_lot, findM] at hx,
      hb, fun hz => by simp [Y_L_lot] at hz,
      fun c f hx => by simp [Y_L_lot, Z_L_lot, findM] at hx,
      fun c m k hx => by simp [Y_L_lot, Z_L_lot, findM] at hx,
      fun c m k hx => by simp [Y_L_lot, Z_L_lot, findM] at hx,
      fun k c hx => by simp [Y_L_lot, Z_L_lot, findM] at hx,
      fun c hx => by simp [Y_L_lot, Z_L_lot] at hx,
      fun k x ks pm hx => by simp [Y_L_lot, Z_L_lot, findM] at hx⟩ ck_L_lot (by decide) (fun _ _ z => z)
  have ok55 : FnOk P w K mg base CX0 2 f55 _ ["_law_script", "_law_at"] (spF K F_L_chain) :=
    fn_ok (Y := Y_L_chain) Fn55 sc_L_chain ⟨fun i x hx => by
      simp only [Y_L_chain, Z_L_chain, List.mem_cons, List.not_mem_nil, or_false, Prod.mk.injEq] at hx
      rcases hx with ⟨rfl, rfl⟩ | ⟨rfl, rfl⟩ | ⟨rfl, rfl⟩ | ⟨rfl, rfl⟩
      · exact ⟨f42, _, _, PySem.W.mg_of X G a42, k42, b42, ok42.mono (by decide)⟩
      · exact ⟨f43, _, _, PySem.W.mg_of X G a43, k43, b43, ok43.mono (by decide)⟩
      · exact ⟨f44, _, _, PySem.W.mg_of X G a44, k44, b44, ok44.mono (by decide)⟩
      · exact ⟨f45, _, _, PySem.W.mg_of X G a45, k45, b45, ok45.mono (by decide)⟩,
      fun k x hx => by simp [Y_L_chain, Z_L_chain, findM] at hx,
      hb, fun hz => by simp [Y_L_chain] at hz,
      fun c f hx => by simp [Y_L_chain, Z_L_chain, findM] at hx,
      fun c m k hx => by simp [Y_L_chain, Z_L_chain, findM] at hx,
      fun c m k hx => by simp [Y_L_chain, Z_L_chain, findM] at hx,
      fun k c hx => by simp [Y_L_chain, Z_L_chain, findM] at hx,
      fun c hx => by simp [Y_L_chain, Z_L_chain] at hx,
      fun k x ks pm hx => by simp [Y_L_chain, Z_L_chain, findM] at hx⟩ ck_L_chain (by decide) (fun _ _ z => z)
  have ok51 : FnOk P w K mg base CX0 1 f51 _ ["_law_many", "_law_line"] (spF K F_L_numbers) :=
    fn_ok (Y := Y_L_numbers) Fn51 sc_L_numbers ⟨fun i x hx => by simp [Y_L_numbers, Z_L_numbers, findM] at hx,
      fun k x hx => by simp [Y_L_numbers, Z_L_numbers, findM] at hx,
      hb, fun hz => by simp [Y_L_numbers] at hz,
      fun c f hx => by simp [Y_L_numbers, Z_L_numbers, findM] at hx,
      fun c m k hx => by simp [Y_L_numbers, Z_L_numbers, findM] at hx,
      fun c m k hx => by simp [Y_L_numbers, Z_L_numbers, findM] at hx,
      fun k c hx => by simp [Y_L_numbers, Z_L_numbers, findM] at hx,
      fun c hx => by simp [Y_L_numbers, Z_L_numbers] at hx,
      fun k x ks pm hx => by simp [Y_L_numbers, Z_L_numbers, findM] at hx⟩ ck_L_numbers (by decide) (fun _ _ z => z)
  have ok52 : FnOk P w K mg base CX0 1 f52 _ ["_law_menu", "_law_line", "_law_size"] (spF K F_L_sheet) :=
    fn_ok (Y := Y_L_sheet) Fn52 sc_L_sheet ⟨fun i x hx => by simp [Y_L_sheet, Z_L_sheet, findM] at hx,
      fun k x hx => by simp [Y_L_sheet, Z_L_sheet, findM] at hx,
      hb, fun hz => by simp [Y_L_sheet] at hz,
      fun c f hx => by simp [Y_L_sheet, Z_L_sheet, findM] at hx,
      fun c m k hx => by simp [Y_L_sheet, Z_L_sheet, findM] at hx,
      fun c m k hx => by simp [Y_L_sheet, Z_L_sheet, findM] at hx,
      fun k c hx => by simp [Y_L_sheet, Z_L_sheet, findM] at hx,
      fun c hx => by simp [Y_L_sheet, Z_L_sheet] at hx,
      fun k x ks pm hx => by simp [Y_L_sheet, Z_L_sheet, findM] at hx⟩ ck_L_sheet (by decide) (fun _ _ z => z)
  have ok48 : FnOk P w K mg base CX0 1 f48 _ ["_law_one", "_law_two"] (spF K F_L_press) :=
    fn_ok (Y := Y_L_press) Fn48 sc_L_press ⟨fun i x hx => by simp [Y_L_press, Z_L_press, findM] at hx,
      fun k x hx => by simp [Y_L_press, Z_L_press, findM] at hx,
      hb, fun hz => by simp [Y_L_press] at hz,
      fun c f hx => by simp [Y_L_press, Z_L_press, findM] at hx,
      fun c m k hx => by simp [Y_L_press, Z_L_press, findM] at hx,
      fun c m k hx => by simp [Y_L_press, Z_L_press, findM] at hx,
      fun k c hx => by simp [Y_L_press, Z_L_press, findM] at hx,
      fun c hx => by simp [Y_L_press, Z_L_press] at hx,
      fun k x ks pm hx => by simp [Y_L_press, Z_L_press, findM] at hx⟩ ck_L_press (by decide) (fun _ _ z => z)
  have ok53 : FnOk P w K mg base CX0 1 f53 _ ["_law_layer", "_law_line", "_law_much"] (spF K F_L_dashed) :=
    fn_ok (Y := Y_L_dashed) Fn53 sc_L_dashed ⟨fun i x hx => by simp [Y_L_dashed, Z_L_dashed, findM] at hx,
      fun k x hx => by simp [Y_L_dashed, Z_L_dashed, findM] at hx,
      hb, fun hz => by simp [Y_L_dashed] at hz,
      fun c f hx => by simp [Y_L_dashed, Z_L_dashed, findM] at hx,
      fun c m k hx => by simp [Y_L_dashed, Z_L_dashed, findM] at hx,
      fun c m k hx => by simp [Y_L_dashed, Z_L_dashed, findM] at hx,
      fun k c hx => by simp [Y_L_dashed, Z_L_dashed, findM] at hx,
      fun c hx => by simp [Y_L_dashed, Z_L_dashed] at hx,
      fun k x ks pm hx => by simp [Y_L_dashed, Z_L_dashed, findM] at hx⟩ ck_L_dashed (by decide) (fun _ _ z => z)
  have ok54 : FnOk P w K mg base CX0 2 f54 _ ["_law_script", "_law_at", "_law_lot_here"] (spF K F_L_scene) :=
    fn_ok (Y := Y_L_scene) Fn54 sc_L_scene ⟨fun i x hx => by
      simp only [Y_L_scene, Z_L_scene, List.mem_cons, List.not_mem_nil, or_false, Prod.mk.injEq] at hx
      rcases hx with ⟨rfl, rfl⟩ | ⟨rfl, rfl⟩ | ⟨rfl, rfl⟩ | ⟨rfl, rfl⟩ | ⟨rfl, rfl⟩ | ⟨rfl, rfl⟩
      · exact ⟨f42, _, _, PySem.W.mg_of X G a42, k42, b42, ok42.mono (by decide)⟩
      · exact ⟨f43, _, _, PySem.W.mg_of X G a43, k43, b43, ok43.mono (by decide)⟩
      · exact ⟨f48, _, _, PySem.W.mg_of X G a48, k48, b48, ok48.mono (by decide)⟩
      · exact ⟨f51, _, _, PySem.W.mg_of X G a51, k51, b51, ok51.mono (by decide)⟩
      · exact ⟨f52, _, _, PySem.W.mg_of X G a52, k52, b52, ok52.mono (by decide)⟩
      · exact ⟨f53, _, _, PySem.W.mg_of X G a53, k53, b53, ok53.mono (by decide)⟩,
      fun k x hx => by simp [Y_L_scene, Z_L_scene, findM] at hx,
      hb, fun hz => by simp [Y_L_scene] at hz,
      fun c f hx => by simp [Y_L_scene, Z_L_scene, findM] at hx,
      fun c m k hx => by simp [Y_L_scene, Z_L_scene, findM] at hx,
      fun c m k hx => by simp [Y_L_scene, Z_L_scene, findM] at hx,
      fun k c hx => by simp [Y_L_scene, Z_L_scene, findM] at hx,
      fun c hx => by simp [Y_L_scene, Z_L_scene] at hx,
      fun k x ks pm hx => by simp [Y_L_scene, Z_L_scene, findM] at hx⟩ ck_L_scene (by decide) (fun _ _ z => z)
  have ok71 : FnOk P w K mg base CX0 3 f71 _ ["_law_script"] (spF K F_L_drawn) :=
    fn_ok (Y := Y_L_drawn) Fn71 sc_L_drawn ⟨fun i x hx => by
      simp only [Y_L_drawn, Z_L_drawn, List.mem_cons, List.not_mem_nil, or_false, Prod.mk.injEq] at hx
      rcases hx with ⟨rfl, rfl⟩ | ⟨rfl, rfl⟩ | ⟨rfl, rfl⟩ | ⟨rfl, rfl⟩
      · exact ⟨f42, _, _, PySem.W.mg_of X G a42, k42, b42, ok42.mono (by decide)⟩
      · exact ⟨f47, _, _, PySem.W.mg_of X G a47, k47, b47, ok47.mono (by decide)⟩
      · exact ⟨f54, _, _, PySem.W.mg_of X G a54, k54, b54, ok54.mono (by decide)⟩
      · exact ⟨f55, _, _, PySem.W.mg_of X G a55, k55, b55, ok55.mono (by decide)⟩,
      fun k x hx => by simp [Y_L_drawn, Z_L_drawn, findM] at hx,
      hb, fun hz => by simp [Y_L_drawn] at hz,
      fun c f hx => by simp [Y_L_drawn, Z_L_drawn, findM] at hx,
      fun c m k hx => by simp [Y_L_drawn, Z_L_drawn, findM] at hx,
      fun c m k hx => by simp [Y_L_drawn, Z_L_drawn, findM] at hx,
      fun k c hx => by simp [Y_L_drawn, Z_L_drawn, findM] at hx,
      fun c hx => by simp [Y_L_drawn, Z_L_drawn] at hx,
      fun k x ks pm hx => by simp [Y_L_drawn, Z_L_drawn, findM] at hx⟩ ck_L_drawn (by decide) (fun _ _ z => z)
  have ok6_0 : FnOk P w K mg base CX0 1 f6 _ ["value"] (spF K F_frozen_0) := fn_no Fn6
  have ok6_1 : FnOk P w K mg base CX0 2 f6 _ ["value"] (spF K F_frozen_1) :=
    fn_ok (Y := Y_frozen_1) Fn6 sc_frozen ⟨fun i x hx => by
      simp only [Y_frozen_1, Z_frozen_1, List.mem_cons, List.not_mem_nil, or_false, Prod.mk.injEq] at hx
      obtain ⟨rfl, rfl⟩ := hx
      · exact ⟨f6, _, _, PySem.W.mg_of X G a6, k6, b6, ok6_0.mono (by decide)⟩,
      fun k x hx => by simp [Y_frozen_1, Z_frozen_1, findM] at hx,
      hb, fun hz => by simp [Y_frozen_1] at hz,
      fun c f hx => by simp [Y_frozen_1, Z_frozen_1, findM] at hx,
      fun c m k hx => by simp [Y_frozen_1, Z_frozen_1, findM] at hx,
      fun c m k hx => by simp [Y_frozen_1, Z_frozen_1, findM] at hx,
      fun k c hx => by simp [Y_frozen_1, Z_frozen_1, findM] at hx,
      fun c hx => by simp [Y_frozen_1, Z_frozen_1] at hx,
      fun k x ks pm hx => by simp [Y_frozen_1, Z_frozen_1, findM] at hx⟩ ck_frozen_1 (by decide) (fun _ _ z => z)
  have ok6_2 : FnOk P w K mg base CX0 3 f6 _ ["value"] (spF K F_frozen_2) :=
    fn_ok (Y := Y_frozen_2) Fn6 sc_frozen ⟨fun i x hx => by
      simp only [Y_frozen_2, Z_frozen_2, List.mem_cons, List.not_mem_nil, or_false, Prod.mk.injEq] at hx
      obtain ⟨rfl, rfl⟩ := hx
      · exact ⟨f6, _, _, PySem.W.mg_of X G a6, k6, b6, ok6_1.mono (by decide)⟩,
      fun k x hx => by simp [Y_frozen_2, Z_frozen_2, findM] at hx,
      hb, fun hz => by simp [Y_frozen_2] at hz,
      fun c f hx => by simp [Y_frozen_2, Z_frozen_2, findM] at hx,
      fun c m k hx => by simp [Y_frozen_2, Z_frozen_2, findM] at hx,
      fun c m k hx => by simp [Y_frozen_2, Z_frozen_2, findM] at hx,
      fun k c hx => by simp [Y_frozen_2, Z_frozen_2, findM] at hx,
      fun c hx => by simp [Y_frozen_2, Z_frozen_2] at hx,
      fun k x ks pm hx => by simp [Y_frozen_2, Z_frozen_2, findM] at hx⟩ ck_frozen_2 (by decide) (fun _ _ z => z)
  have ok6_3 : FnOk P w K mg base CX0 4 f6 _ ["value"] (spF K F_frozen_3) :=
    fn_ok (Y := Y_frozen_3) Fn6 sc_frozen ⟨fun i x hx => by
      simp only [Y_frozen_3, Z_frozen_3, List.mem_cons, List.not_mem_nil, or_false, Prod.mk.injEq] at hx
      obtain ⟨rfl, rfl⟩ := hx
      · exact ⟨f6, _, _, PySem.W.mg_of X G a6, k6, b6, ok6_2.mono (by decide)⟩,
      fun k x hx => by simp [Y_frozen_3, Z_frozen_3, findM] at hx,
      hb, fun hz => by simp [Y_frozen_3] at hz,
      fun c f hx => by simp [Y_frozen_3, Z_frozen_3, findM] at hx,
      fun c m k hx => by simp [Y_frozen_3, Z_frozen_3, findM] at hx,
      fun c m k hx => by simp [Y_frozen_3, Z_frozen_3, findM] at hx,
      fun k c hx => by simp [Y_frozen_3, Z_frozen_3, findM] at hx,
      fun c hx => by simp [Y_frozen_3, Z_frozen_3] at hx,
      fun k x ks pm hx => by simp [Y_frozen_3, Z_frozen_3, findM] at hx⟩ ck_frozen_3 (by decide) (fun _ _ z => z)
  have ok6_4 : FnOk P w K mg base CX0 5 f6 _ ["value"] (spF K F_frozen_4) :=
    fn_ok (Y := Y_frozen_4) Fn6 sc_frozen ⟨fun i x hx => by
      simp only [Y_frozen_4, Z_frozen_4, List.mem_cons, List.not_mem_nil, or_false, Prod.mk.injEq] at hx
      obtain ⟨rfl, rfl⟩ := hx
      · exact ⟨f6, _, _, PySem.W.mg_of X G a6, k6, b6, ok6_3.mono (by decide)⟩,
      fun k x hx => by simp [Y_frozen_4, Z_frozen_4, findM] at hx,
      hb, fun hz => by simp [Y_frozen_4] at hz,
      fun c f hx => by simp [Y_frozen_4, Z_frozen_4, findM] at hx,
      fun c m k hx => by simp [Y_frozen_4, Z_frozen_4, findM] at hx,
      fun c m k hx => by simp [Y_frozen_4, Z_frozen_4, findM] at hx,
      fun k c hx => by simp [Y_frozen_4, Z_frozen_4, findM] at hx,
      fun c hx => by simp [Y_frozen_4, Z_frozen_4] at hx,
      fun k x ks pm hx => by simp [Y_frozen_4, Z_frozen_4, findM] at hx⟩ ck_frozen_4 (by decide) (fun _ _ z => z)
  have ok6_5 : FnOk P w K mg base CX0 6 f6 _ ["value"] (spF K F_frozen_5) :=
    fn_ok (Y := Y_frozen_5) Fn6 sc_frozen ⟨fun i x hx => by
      simp only [Y_frozen_5, Z_frozen_5, List.mem_cons, List.not_mem_nil, or_false, Prod.mk.injEq] at hx
      obtain ⟨rfl, rfl⟩ := hx
      · exact ⟨f6, _, _, PySem.W.mg_of X G a6, k6, b6, ok6_4.mono (by decide)⟩,
      fun k x hx => by simp [Y_frozen_5, Z_frozen_5, findM] at hx,
      hb, fun hz => by simp [Y_frozen_5] at hz,
      fun c f hx => by simp [Y_frozen_5, Z_frozen_5, findM] at hx,
      fun c m k hx => by simp [Y_frozen_5, Z_frozen_5, findM] at hx,
      fun c m k hx => by simp [Y_frozen_5, Z_frozen_5, findM] at hx,
      fun k c hx => by simp [Y_frozen_5, Z_frozen_5, findM] at hx,
      fun c hx => by simp [Y_frozen_5, Z_frozen_5] at hx,
      fun k x ks pm hx => by simp [Y_frozen_5, Z_frozen_5, findM] at hx⟩ ck_frozen_5 (by decide) (fun _ _ z => z)
  have ok23 : FnOk P w K mg base CX0 1 f23 _ ["value"] (spF K F_is_name) :=
    fn_ok (Y := Y_is_name) Fn23 sc_is_name ⟨fun i x hx => by simp [Y_is_name, Z_is_name, findM] at hx,
      fun k x hx => by
      simp only [Y_is_name, Z_is_name, List.mem_cons, List.not_mem_nil, or_false, Prod.mk.injEq] at hx
      rcases hx with ⟨rfl, rfl⟩ | ⟨rfl, rfl⟩ | ⟨rfl, rfl⟩
      · exact ⟨_, .int 8, _, PySem.W.mg_of X G gk4, ⟨_, rfl⟩, rfl, fun G => by simp only [Den]⟩
      · exact ⟨_, .str (mkS [97, 98, 99, 100, 101, 102, 103, 104, 105, 106, 107, 108, 109, 110, 111, 112, 113, 114, 115, 116, 117, 118, 119, 120, 121, 122]), _, PySem.W.mg_of X G gk2, ⟨_, rfl⟩, rfl, fun G => by simp only [Den]⟩
      · exact ⟨_, .str (mkS [48, 49, 50, 51, 52, 53, 54, 55, 56, 57]), _, PySem.W.mg_of X G gk3, ⟨_, rfl⟩, rfl, fun G => by simp only [Den]⟩,
      hb, fun hz => by simp [Y_is_name] at hz,
      fun c f hx => by simp [Y_is_name, Z_is_name, findM] at hx,
      fun c m k hx => by simp [Y_is_name, Z_is_name, findM] at hx,
      fun c m k hx => by simp [Y_is_name, Z_is_name, findM] at hx,
      fun k c hx => by simp [Y_is_name, Z_is_name, findM] at hx,
      fun c hx => by simp [Y_is_name, Z_is_name] at hx,
      fun k x ks pm hx => by simp [Y_is_name, Z_is_name, findM] at hx⟩ ck_is_name (by decide) (fun _ _ z => z)
  have ok1 : FnOk P w K mg base CX0 1 f1 _ ["value"] (spF K F_is_layer) :=
    fn_ok (Y := Y_is_layer) Fn1 sc_is_layer ⟨fun i x hx => by simp [Y_is_layer, Z_is_layer, findM] at hx,
      fun k x hx => by
      simp only [Y_is_layer, Z_is_layer, List.mem_cons, List.not_mem_nil, or_false, Prod.mk.injEq] at hx
      rcases hx with ⟨rfl, rfl⟩ | ⟨rfl, rfl⟩
      · exact ⟨_, .int 30, _, PySem.W.mg_of X G gk1, ⟨_, rfl⟩, rfl, fun G => by simp only [Den]⟩
      · exact ⟨_, .str (mkS [45, 46, 97, 98, 99, 100, 101, 102, 103, 104, 105, 106, 107, 108, 109, 110, 111, 112, 113, 114, 115, 116, 117, 118, 119, 120, 121, 122]), _, PySem.W.mg_of X G gk0, ⟨_, rfl⟩, rfl, fun G => by simp only [Den]⟩,
      hb, fun hz => by simp [Y_is_layer] at hz,
      fun c f hx => by simp [Y_is_layer, Z_is_layer, findM] at hx,
      fun c m k hx => by simp [Y_is_layer, Z_is_layer, findM] at hx,
      fun c m k hx => by simp [Y_is_layer, Z_is_layer, findM] at hx,
      fun k c hx => by simp [Y_is_layer, Z_is_layer, findM] at hx,
      fun c hx => by simp [Y_is_layer, Z_is_layer] at hx,
      fun k x ks pm hx => by simp [Y_is_layer, Z_is_layer, findM] at hx⟩ ck_is_layer (by decide) (fun _ _ z => z)
  have ok5 : FnOk P w K mg base CX0 1 f5 _ ["size"] (spF K F_empty_layer) :=
    fn_ok (Y := Y_empty_layer) Fn5 sc_empty_layer ⟨fun i x hx => by simp [Y_empty_layer, Z_empty_layer, findM] at hx,
      fun k x hx => by simp [Y_empty_layer, Z_empty_layer, findM] at hx,
      hb, fun hz => by simp [Y_empty_layer] at hz,
      fun c f hx => by simp [Y_empty_layer, Z_empty_layer, findM] at hx,
      fun c m k hx => by simp [Y_empty_layer, Z_empty_layer, findM] at hx,
      fun c m k hx => by simp [Y_empty_layer, Z_empty_layer, findM] at hx,
      fun k c hx => by simp [Y_empty_layer, Z_empty_layer, findM] at hx,
      fun c hx => by simp [Y_empty_layer, Z_empty_layer] at hx,
      fun k x ks pm hx => by simp [Y_empty_layer, Z_empty_layer, findM] at hx⟩ ck_empty_layer (by decide) (fun _ _ z => z)
  have ok24 : FnOk P w K mg base CX0 2 f24 _ ["value", "size"] (spF K F_is_stamp) :=
    fn_ok (Y := Y_is_stamp) Fn24 sc_is_stamp ⟨fun i x hx => by
      simp only [Y_is_stamp, Z_is_stamp, List.mem_cons, List.not_mem_nil, or_false, Prod.mk.injEq] at hx
      rcases hx with ⟨rfl, rfl⟩ | ⟨rfl, rfl⟩
      · exact ⟨f1, _, _, PySem.W.mg_of X G a1, k1, b1, ok1.mono (by decide)⟩
      · exact ⟨f5, _, _, PySem.W.mg_of X G a5, k5, b5, ok5.mono (by decide)⟩,
      fun k x hx => by simp [Y_is_stamp, Z_is_stamp, findM] at hx,
      hb, fun hz => by simp [Y_is_stamp] at hz,
      fun c f hx => by simp [Y_is_stamp, Z_is_stamp, findM] at hx,
      fun c m k hx => by simp [Y_is_stamp, Z_is_stamp, findM] at hx,
      fun c m k hx => by simp [Y_is_stamp, Z_is_stamp, findM] at hx,
      fun k c hx => by simp [Y_is_stamp, Z_is_stamp, findM] at hx,
      fun c hx => by simp [Y_is_stamp, Z_is_stamp] at hx,
      fun k x ks pm hx => by simp [Y_is_stamp, Z_is_stamp, findM] at hx⟩ ck_is_stamp (by decide) (fun _ _ z => z)
  have ok25 : FnOk P w K mg base CX0 7 f25 _ ["self", "size", "stamps"] (spI K "Stock" F_Stock___init__) :=
    init_ok (Y := Y_Stock___init__) Fn25 sc_Stock___init__ ⟨fun i x hx => by
      simp only [Y_Stock___init__, Z_Stock___init__, List.mem_cons, List.not_mem_nil, or_false, Prod.mk.injEq] at hx
      rcases hx with ⟨rfl, rfl⟩ | ⟨rfl, rfl⟩ | ⟨rfl, rfl⟩
      · exact ⟨f6, _, _, PySem.W.mg_of X G a6, k6, b6, ok6_5.mono (by decide)⟩
      · exact ⟨f23, _, _, PySem.W.mg_of X G a23, k23, b23, ok23.mono (by decide)⟩
      · exact ⟨f24, _, _, PySem.W.mg_of X G a24, k24, b24, ok24.mono (by decide)⟩,
      fun k x hx => by simp [Y_Stock___init__, Z_Stock___init__, findM] at hx,
      hb, fun hz => by simp [Y_Stock___init__] at hz,
      fun c f hx => by
      simp only [Y_Stock___init__, Z_Stock___init__, List.mem_cons, List.not_mem_nil, or_false, Prod.mk.injEq] at hx
      rcases hx with ⟨rfl, rfl⟩ | ⟨rfl, rfl⟩ | ⟨rfl, rfl⟩ | ⟨rfl, rfl⟩
      · exact ⟨C7, ac7, cl7, nf7⟩
      · exact ⟨C7, ac7, cl7, nf8⟩
      · exact ⟨C7, ac7, cl7, nf9⟩
      · exact ⟨C7, ac7, cl7, nf10⟩,
      fun c m k hx => by simp [Y_Stock___init__, Z_Stock___init__, findM] at hx,
      fun c m k hx => by simp [Y_Stock___init__, Z_Stock___init__, findM] at hx,
      fun k c hx => by simp [Y_Stock___init__, Z_Stock___init__, findM] at hx,
      fun c hx => by simp [Y_Stock___init__, Z_Stock___init__] at hx,
      fun k x ks pm hx => by simp [Y_Stock___init__, Z_Stock___init__, findM] at hx⟩ ck_Stock___init__ (by decide) (fun _ _ z => valI_spec z)
  have ok3 : FnOk P w K mg base CX0 1 f3 _ ["one", "two"] (spF K F_agree) :=
    fn_ok (Y := Y_agree) Fn3 sc_agree ⟨fun i x hx => by simp [Y_agree, Z_agree, findM] at hx,
      fun k x hx => by simp [Y_agree, Z_agree, findM] at hx,
      hb, fun hz => by simp [Y_agree] at hz,
      fun c f hx => by simp [Y_agree, Z_agree, findM] at hx,
      fun c m k hx => by simp [Y_agree, Z_agree, findM] at hx,
      fun c m k hx => by simp [Y_agree, Z_agree, findM] at hx,
      fun k c hx => by simp [Y_agree, Z_agree, findM] at hx,
      fun c hx => by simp [Y_agree, Z_agree] at hx,
      fun k x ks pm hx => by simp [Y_agree, Z_agree, findM] at hx⟩ ck_agree (by decide) (fun _ _ z => z)
  have ok4 : FnOk P w K mg base CX0 1 f4 _ ["one", "chosen"] (spF K F_freed) :=
    fn_ok (Y := Y_freed) Fn4 sc_freed ⟨fun i x hx => by simp [Y_freed, Z_freed, findM] at hx,
      fun k x hx => by simp [Y_freed, Z_freed, findM] at hx,
      hb, fun hz => by simp [Y_freed] at hz,
      fun c f hx => by simp [Y_freed, Z_freed, findM] at hx,
      fun c m k hx => by simp [Y_freed, Z_freed, findM] at hx,
      fun c m k hx => by simp [Y_freed, Z_freed, findM] at hx,
      fun k c hx => by simp [Y_freed, Z_freed, findM] at hx,
      fun c hx => by simp [Y_freed, Z_freed] at hx,
      fun k x ks pm hx => by simp [Y_freed, Z_freed, findM] at hx⟩ ck_freed (by decide) (fun _ _ z => z)
  have ok2 : FnOk P w K mg base CX0 1 f2 _ ["one"] (spF K F_cells_of) :=
    fn_ok (Y := Y_cells_of) Fn2 sc_cells_of ⟨fun i x hx => by simp [Y_cells_of, Z_cells_of, findM] at hx,
      fun k x hx => by simp [Y_cells_of, Z_cells_of, findM] at hx,
      hb, fun hz => by simp [Y_cells_of] at hz,
      fun c f hx => by simp [Y_cells_of, Z_cells_of, findM] at hx,
      fun c m k hx => by simp [Y_cells_of, Z_cells_of, findM] at hx,
      fun c m k hx => by simp [Y_cells_of, Z_cells_of, findM] at hx,
      fun k c hx => by simp [Y_cells_of, Z_cells_of, findM] at hx,
      fun c hx => by simp [Y_cells_of, Z_cells_of] at hx,
      fun k x ks pm hx => by simp [Y_cells_of, Z_cells_of, findM] at hx⟩ ck_cells_of (by decide) (fun _ _ z => z)
  have ok9 : FnOk P w K mg base CX0 2 f9 _ ["left", "stamp"] (spF K F_peeled) :=
    fn_ok (Y := Y_peeled) Fn9 sc_peeled ⟨fun i x hx => by
      simp only [Y_peeled, Z_peeled, List.mem_cons, List.not_mem_nil, or_false, Prod.mk.injEq] at hx
      rcases hx with ⟨rfl, rfl⟩ | ⟨rfl, rfl⟩
      · exact ⟨f2, _, _, PySem.W.mg_of X G a2, k2, b2, ok2.mono (by decide)⟩
      · exact ⟨f4, _, _, PySem.W.mg_of X G a4, k4, b4, ok4.mono (by decide)⟩,
      fun k x hx => by simp [Y_peeled, Z_peeled, findM] at hx,
      hb, fun hz => by simp [Y_peeled] at hz,
      fun c f hx => by simp [Y_peeled, Z_peeled, findM] at hx,
      fun c m k hx => by simp [Y_peeled, Z_peeled, findM] at hx,
      fun c m k hx => by simp [Y_peeled, Z_peeled, findM] at hx,
      fun k c hx => by simp [Y_peeled, Z_peeled, findM] at hx,
      fun c hx => by simp [Y_peeled, Z_peeled] at hx,
      fun k x ks pm hx => by simp [Y_peeled, Z_peeled, findM] at hx⟩ ck_peeled (by decide) (fun _ _ z => z)
  have ok10 : FnOk P w K mg base CX0 3 f10 _ ["stamp", "left"] (spF K F_frees_marks) :=
    fn_ok (Y := Y_frees_marks) Fn10 sc_frees_marks ⟨fun i x hx => by
      simp only [Y_frees_marks, Z_frees_marks, List.mem_cons, List.not_mem_nil, or_false, Prod.mk.injEq] at hx
      rcases hx with ⟨rfl, rfl⟩ | ⟨rfl, rfl⟩
      · exact ⟨f3, _, _, PySem.W.mg_of X G a3, k3, b3, ok3.mono (by decide)⟩
      · exact ⟨f9, _, _, PySem.W.mg_of X G a9, k9, b9, ok9.mono (by decide)⟩,
      fun k x hx => by simp [Y_frees_marks, Z_frees_marks, findM] at hx,
      hb, fun hz => by simp [Y_frees_marks] at hz,
      fun c f hx => by simp [Y_frees_marks, Z_frees_marks, findM] at hx,
      fun c m k hx => by simp [Y_frees_marks, Z_frees_marks, findM] at hx,
      fun c m k hx => by simp [Y_frees_marks, Z_frees_marks, findM] at hx,
      fun k c hx => by simp [Y_frees_marks, Z_frees_marks, findM] at hx,
      fun c hx => by simp [Y_frees_marks, Z_frees_marks] at hx,
      fun k x ks pm hx => by simp [Y_frees_marks, Z_frees_marks, findM] at hx⟩ ck_frees_marks (by decide) (fun _ _ z => z)
  have ok11 : FnOk P w K mg base CX0 4 f11 _ ["layers", "left"] (spF K F_first_to_peel) :=
    fn_ok (Y := Y_first_to_peel) Fn11 sc_first_to_peel ⟨fun i x hx => by
      simp only [Y_first_to_peel, Z_first_to_peel, List.mem_cons, List.not_mem_nil, or_false, Prod.mk.injEq] at hx
      obtain ⟨rfl, rfl⟩ := hx
      · exact ⟨f10, _, _, PySem.W.mg_of X G a10, k10, b10, ok10.mono (by decide)⟩,
      fun k x hx => by simp [Y_first_to_peel, Z_first_to_peel, findM] at hx,
      hb, fun hz => by simp [Y_first_to_peel] at hz,
      fun c f hx => by simp [Y_first_to_peel, Z_first_to_peel, findM] at hx,
      fun c m k hx => by simp [Y_first_to_peel, Z_first_to_peel, findM] at hx,
      fun c m k hx => by simp [Y_first_to_peel, Z_first_to_peel, findM] at hx,
      fun k c hx => by simp [Y_first_to_peel, Z_first_to_peel, findM] at hx,
      fun c hx => by simp [Y_first_to_peel, Z_first_to_peel] at hx,
      fun k x ks pm hx => by simp [Y_first_to_peel, Z_first_to_peel, findM] at hx⟩ ck_first_to_peel (by decide) (fun _ _ z => z)
  have ok12 : FnOk P w K mg base CX0 5 f12 _ ["layers", "left"] (spF K F_peel_by) :=
    fn_ok (Y := Y_peel_by) Fn12 sc_peel_by ⟨fun i x hx => by
      simp only [Y_peel_by, Z_peel_by, List.mem_cons, List.not_mem_nil, or_false, Prod.mk.injEq] at hx
      rcases hx with ⟨rfl, rfl⟩ | ⟨rfl, rfl⟩
      · exact ⟨f9, _, _, PySem.W.mg_of X G a9, k9, b9, ok9.mono (by decide)⟩
      · exact ⟨f11, _, _, PySem.W.mg_of X G a11, k11, b11, ok11.mono (by decide)⟩,
      fun k x hx => by simp [Y_peel_by, Z_peel_by, findM] at hx,
      hb, fun hz => by simp [Y_peel_by] at hz,
      fun c f hx => by simp [Y_peel_by, Z_peel_by, findM] at hx,
      fun c m k hx => by simp [Y_peel_by, Z_peel_by, findM] at hx,
      fun c m k hx => by simp [Y_peel_by, Z_peel_by, findM] at hx,
      fun k c hx => by simp [Y_peel_by, Z_peel_by, findM] at hx,
      fun c hx => by simp [Y_peel_by, Z_peel_by] at hx,
      fun k x ks pm hx => by simp [Y_peel_by, Z_peel_by, findM] at hx⟩ ck_peel_by (by decide) (fun _ _ z => z)
  have ok26 : FnOk P w K mg base CX0 1 f26 _ ["self"] (spF K F_Stock_names) :=
    fn_ok (Y := Y_Stock_names) Fn26 sc_Stock_names ⟨fun i x hx => by simp [Y_Stock_names, Z_Stock_names, findM] at hx,
      fun k x hx => by simp [Y_Stock_names, Z_Stock_names, findM] at hx,
      hb, fun hz => by simp [Y_Stock_names] at hz,
      fun c f hx => by
      simp only [Y_Stock_names, Z_Stock_names, List.mem_cons, List.not_mem_nil, or_false, Prod.mk.injEq] at hx
      obtain ⟨rfl, rfl⟩ := hx
      · exact ⟨C7, ac7, cl7, nf10⟩,
      fun c m k hx => by simp [Y_Stock_names, Z_Stock_names, findM] at hx,
      fun c m k hx => by simp [Y_Stock_names, Z_Stock_names, findM] at hx,
      fun k c hx => by simp [Y_Stock_names, Z_Stock_names, findM] at hx,
      fun c hx => by simp [Y_Stock_names, Z_Stock_names] at hx,
      fun k x ks pm hx => by simp [Y_Stock_names, Z_Stock_names, findM] at hx⟩ ck_Stock_names (by decide) (fun _ _ z => z)
  have ok8 : FnOk P w K mg base CX0 1 f8 _ ["self", "seen", "order", "left"] (spI K "Peeling" F_Peeling___init__) :=
    init_ok (Y := Y_Peeling___init__) Fn8 sc_Peeling___init__ ⟨fun i x hx => by simp [Y_Peeling___init__, Z_Peeling___init__, findM] at hx,
      fun k x hx => by simp [Y_Peeling___init__, Z_Peeling___init__, findM] at hx,
      hb, fun hz => by simp [Y_Peeling___init__] at hz,
      fun c f hx => by
      simp only [Y_Peeling___init__, Z_Peeling___init__, List.mem_cons, List.not_mem_nil, or_false, Prod.mk.injEq] at hx
      rcases hx with ⟨rfl, rfl⟩ | ⟨rfl, rfl⟩ | ⟨rfl, rfl⟩
      · exact ⟨C0, ac0, cl0, nf4⟩
      · exact ⟨C0, ac0, cl0, nf5⟩
      · exact ⟨C0, ac0, cl0, nf6⟩,
      fun c m k hx => by simp [Y_Peeling___init__, Z_Peeling___init__, findM] at hx,
      fun c m k hx => by simp [Y_Peeling___init__, Z_Peeling___init__, findM] at hx,
      fun k c hx => by simp [Y_Peeling___init__, Z_Peeling___init__, findM] at hx,
      fun c hx => by simp [Y_Peeling___init__, Z_Peeling___init__] at hx,
      fun k x ks pm hx => by simp [Y_Peeling___init__, Z_Peeling___init__, findM] at hx⟩ ck_Peeling___init__ (by decide) (fun _ _ z => valI_spec z)
  have ok13 : FnOk P w K mg base CX0 6 f13 _ ["stock", "seen"] (spF K F_peeling) :=
    fn_ok (Y := Y_peeling) Fn13 sc_peeling ⟨fun i x hx => by
      simp only [Y_peeling, Z_peeling, List.mem_cons, List.not_mem_nil, or_false, Prod.mk.injEq] at hx
      obtain ⟨rfl, rfl⟩ := hx
      · exact ⟨f12, _, _, PySem.W.mg_of X G a12, k12, b12, ok12.mono (by decide)⟩,
      fun k x hx => by simp [Y_peeling, Z_peeling, findM] at hx,
      hb, fun hz => by simp [Y_peeling] at hz,
      fun c f hx => by
      simp only [Y_peeling, Z_peeling, List.mem_cons, List.not_mem_nil, or_false, Prod.mk.injEq] at hx
      obtain ⟨rfl, rfl⟩ := hx
      · exact ⟨C7, ac7, cl7, nf7⟩,
      fun c m k hx => by simp [Y_peeling, Z_peeling, findM] at hx,
      fun c m k hx => by
      have hx := findM_mem hx
      simp only [Y_peeling, Z_peeling, List.mem_cons, List.not_mem_nil, or_false, Prod.mk.injEq] at hx
      obtain ⟨rfl, rfl, rfl⟩ := hx
      · exact ⟨C7, p26, f26, _, _, 1, by decide, ac7, cl7, ⟨m26, pga26, pt26, ⟨_, pr26⟩⟩, b26, ok26⟩,
      fun k c hx => by
      simp only [Y_peeling, Z_peeling, List.mem_cons, List.not_mem_nil, or_false, Prod.mk.injEq] at hx
      obtain ⟨rfl, rfl⟩ := hx
      · exact ⟨C0, f8, _, _, 1, by decide, ac0, PySem.W.mg_of X G ac0, ⟨mk8, m8, i8, kc0⟩, b8, ok8, fun ds d h => valI_ins h⟩,
      fun c hx => by simp [Y_peeling, Z_peeling] at hx,
      fun k x ks pm hx => by simp [Y_peeling, Z_peeling, findM] at hx⟩ ck_peeling (by decide) (fun _ _ z => z)
  have ok38 : FnOk P w K mg base CX0 1 f38 _ ["one", "two"] (spF K F_first_clash) :=
    fn_ok (Y := Y_first_clash) Fn38 sc_first_clash ⟨fun i x hx => by simp [Y_first_clash, Z_first_clash, findM] at hx,
      fun k x hx => by simp [Y_first_clash, Z_first_clash, findM] at hx,
      hb, fun hz => by simp [Y_first_clash] at hz,
      fun c f hx => by simp [Y_first_clash, Z_first_clash, findM] at hx,
      fun c m k hx => by simp [Y_first_clash, Z_first_clash, findM] at hx,
      fun c m k hx => by simp [Y_first_clash, Z_first_clash, findM] at hx,
      fun k c hx => by simp [Y_first_clash, Z_first_clash, findM] at hx,
      fun c hx => by simp [Y_first_clash, Z_first_clash] at hx,
      fun k x ks pm hx => by simp [Y_first_clash, Z_first_clash, findM] at hx⟩ ck_first_clash (by decide) (fun _ _ z => z)
  have ok37 : FnOk P w K mg base CX0 1 f37 _ ["self", "made", "row", "cells", "cell"] (spI K "Making" F_Making___init__) :=
    init_ok (Y := Y_Making___init__) Fn37 sc_Making___init__ ⟨fun i x hx => by simp [Y_Making___init__, Z_Making___init__, findM] at hx,
      fun k x hx => by simp [Y_Making___init__, Z_Making___init__, findM] at hx,
      hb, fun hz => by simp [Y_Making___init__] at hz,
      fun c f hx => by
      simp only [Y_Making___init__, Z_Making___init__, List.mem_cons, List.not_mem_nil, or_false, Prod.mk.injEq] at hx
      rcases hx with ⟨rfl, rfl⟩ | ⟨rfl, rfl⟩ | ⟨rfl, rfl⟩ | ⟨rfl, rfl⟩
      · exact ⟨C8, ac8, cl8, nf0⟩
      · exact ⟨C8, ac8, cl8, nf1⟩
      · exact ⟨C8, ac8, cl8, nf2⟩
      · exact ⟨C8, ac8, cl8, nf3⟩,
      fun c m k hx => by simp [Y_Making___init__, Z_Making___init__, findM] at hx,
      fun c m k hx => by simp [Y_Making___init__, Z_Making___init__, findM] at hx,
      fun k c hx => by simp [Y_Making___init__, Z_Making___init__, findM] at hx,
      fun c hx => by simp [Y_Making___init__, Z_Making___init__] at hx,
      fun k x ks pm hx => by simp [Y_Making___init__, Z_Making___init__, findM] at hx⟩ ck_Making___init__ (by decide) (fun _ _ z => valI_spec z)
  have ok39 : FnOk P w K mg base CX0 7 f39 _ ["stock", "start", "seen"] (spF K F_making) :=
    fn_ok (Y := Y_making) Fn39 sc_making ⟨fun i x hx => by
      simp only [Y_making, Z_making, List.mem_cons, List.not_mem_nil, or_false, Prod.mk.injEq] at hx
      rcases hx with ⟨rfl, rfl⟩ | ⟨rfl, rfl⟩ | ⟨rfl, rfl⟩
      · exact ⟨f2, _, _, PySem.W.mg_of X G a2, k2, b2, ok2.mono (by decide)⟩
      · exact ⟨f13, _, _, PySem.W.mg_of X G a13, k13, b13, ok13.mono (by decide)⟩
      · exact ⟨f38, _, _, PySem.W.mg_of X G a38, k38, b38, ok38.mono (by decide)⟩,
      fun k x hx => by simp [Y_making, Z_making, findM] at hx,
      hb, fun hz => by simp [Y_making] at hz,
      fun c f hx => by
      simp only [Y_making, Z_making, List.mem_cons, List.not_mem_nil, or_false, Prod.mk.injEq] at hx
      rcases hx with ⟨rfl, rfl⟩ | ⟨rfl, rfl⟩
      · exact ⟨C0, ac0, cl0, nf4⟩
      · exact ⟨C0, ac0, cl0, nf5⟩,
      fun c m k hx => by simp [Y_making, Z_making, findM] at hx,
      fun c m k hx => by simp [Y_making, Z_making, findM] at hx,
      fun k c hx => by
      simp only [Y_making, Z_making, List.mem_cons, List.not_mem_nil, or_false, Prod.mk.injEq] at hx
      obtain ⟨rfl, rfl⟩ := hx
      · exact ⟨C8, f37, _, _, 1, by decide, ac8, PySem.W.mg_of X G ac8, ⟨mk37, m37, i37, kc8⟩, b37, ok37, fun ds d h => valI_ins h⟩,
      fun c hx => by simp [Y_making, Z_making] at hx,
      fun k x ks pm hx => by simp [Y_making, Z_making, findM] at hx⟩ ck_making (by decide) (fun _ _ z => z)
  have ok56 : FnOk P w K mg base CX0 1 f56 _ ["_law_stamps", "_law_name"] (spF K F_L_layer_of) :=
    fn_ok (Y := Y_L_layer_of) Fn56 sc_L_layer_of ⟨fun i x hx => by simp [Y_L_layer_of, Z_L_layer_of, findM] at hx,
      fun k x hx => by simp [Y_L_layer_of, Z_L_layer_of, findM] at hx,
      hb, fun hz => by simp [Y_L_layer_of] at hz,
      fun c f hx => by simp [Y_L_layer_of, Z_L_layer_of, findM] at hx,
      fun c m k hx => by simp [Y_L_layer_of, Z_L_layer_of, findM] at hx,
      fun c m k hx => by simp [Y_L_layer_of, Z_L_layer_of, findM] at hx,
      fun k c hx => by simp [Y_L_layer_of, Z_L_layer_of, findM] at hx,
      fun c hx => by simp [Y_L_layer_of, Z_L_layer_of] at hx,
      fun k x ks pm hx => by simp [Y_L_layer_of, Z_L_layer_of, findM] at hx⟩ ck_L_layer_of (by decide) (fun _ _ z => z)
  have ok49 : FnOk P w K mg base CX0 1 f49 _ ["_law_one", "_law_two"] (spF K F_L_agree) :=
    fn_ok (Y := Y_L_agree) Fn49 sc_L_agree ⟨fun i x hx => by simp [Y_L_agree, Z_L_agree, findM] at hx,
      fun k x hx => by simp [Y_L_agree, Z_L_agree, findM] at hx,
      hb, fun hz => by simp [Y_L_agree] at hz,
      fun c f hx => by simp [Y_L_agree, Z_L_agree, findM] at hx,
      fun c m k hx => by simp [Y_L_agree, Z_L_agree, findM] at hx,
      fun c m k hx => by simp [Y_L_agree, Z_L_agree, findM] at hx,
      fun k c hx => by simp [Y_L_agree, Z_L_agree, findM] at hx,
      fun c hx => by simp [Y_L_agree, Z_L_agree] at hx,
      fun k x ks pm hx => by simp [Y_L_agree, Z_L_agree, findM] at hx⟩ ck_L_agree (by decide) (fun _ _ z => z)
  have ok50 : FnOk P w K mg base CX0 1 f50 _ ["_law_one", "_law_two"] (spF K F_L_free) :=
    fn_ok (Y := Y_L_free) Fn50 sc_L_free ⟨fun i x hx => by simp [Y_L_free, Z_L_free, findM] at hx,
      fun k x hx => by simp [Y_L_free, Z_L_free, findM] at hx,
      hb, fun hz => by simp [Y_L_free] at hz,
      fun c f hx => by simp [Y_L_free, Z_L_free, findM] at hx,
      fun c m k hx => by simp [Y_L_free, Z_L_free, findM] at hx,
      fun c m k hx => by simp [Y_L_free, Z_L_free, findM] at hx,
      fun k c hx => by simp [Y_L_free, Z_L_free, findM] at hx,
      fun c hx => by simp [Y_L_free, Z_L_free] at hx,
      fun k x ks pm hx => by simp [Y_L_free, Z_L_free, findM] at hx⟩ ck_L_free (by decide) (fun _ _ z => z)
  have ok60 : FnOk P w K mg base CX0 2 f60 _ ["_law_stamps", "_law_stay"] (spF K F_L_first) :=
    fn_ok (Y := Y_L_first) Fn60 sc_L_first ⟨fun i x hx => by
      simp only [Y_L_first, Z_L_first, List.mem_cons, List.not_mem_nil, or_false, Prod.mk.injEq] at hx
      rcases hx with ⟨rfl, rfl⟩ | ⟨rfl, rfl⟩
      · exact ⟨f49, _, _, PySem.W.mg_of X G a49, k49, b49, ok49.mono (by decide)⟩
      · exact ⟨f50, _, _, PySem.W.mg_of X G a50, k50, b50, ok50.mono (by decide)⟩,
      fun k x hx => by simp [Y_L_first, Z_L_first, findM] at hx,
      hb, fun hz => by simp [Y_L_first] at hz,
      fun c f hx => by simp [Y_L_first, Z_L_first, findM] at hx,
      fun c m k hx => by simp [Y_L_first, Z_L_first, findM] at hx,
      fun c m k hx => by simp [Y_L_first, Z_L_first, findM] at hx,
      fun k c hx => by simp [Y_L_first, Z_L_first, findM] at hx,
      fun c hx => by simp [Y_L_first, Z_L_first] at hx,
      fun k x ks pm hx => by simp [Y_L_first, Z_L_first, findM] at hx⟩ ck_L_first (by decide) (fun _ _ z => z)
  have ok61 : FnOk P w K mg base CX0 3 f61 _ ["_law_stamps", "_law_shown"] (spF K F_L_peel) :=
    fn_ok (Y := Y_L_peel) Fn61 sc_L_peel ⟨fun i x hx => by
      simp only [Y_L_peel, Z_L_peel, List.mem_cons, List.not_mem_nil, or_false, Prod.mk.injEq] at hx
      rcases hx with ⟨rfl, rfl⟩ | ⟨rfl, rfl⟩
      · exact ⟨f50, _, _, PySem.W.mg_of X G a50, k50, b50, ok50.mono (by decide)⟩
      · exact ⟨f60, _, _, PySem.W.mg_of X G a60, k60, b60, ok60.mono (by decide)⟩,
      fun k x hx => by simp [Y_L_peel, Z_L_peel, findM] at hx,
      hb, fun hz => by simp [Y_L_peel] at hz,
      fun c f hx => by simp [Y_L_peel, Z_L_peel, findM] at hx,
      fun c m k hx => by simp [Y_L_peel, Z_L_peel, findM] at hx,
      fun c m k hx => by simp [Y_L_peel, Z_L_peel, findM] at hx,
      fun k c hx => by simp [Y_L_peel, Z_L_peel, findM] at hx,
      fun c hx => by simp [Y_L_peel, Z_L_peel] at hx,
      fun k x ks pm hx => by simp [Y_L_peel, Z_L_peel, findM] at hx⟩ ck_L_peel (by decide) (fun _ _ z => z)
  have ok63 : FnOk P w K mg base CX0 2 f63 _ ["_law_base", "_law_stay"] (spF K F_L_ground) :=
    fn_ok (Y := Y_L_ground) Fn63 sc_L_ground ⟨fun i x hx => by
      simp only [Y_L_ground, Z_L_ground, List.mem_cons, List.not_mem_nil, or_false, Prod.mk.injEq] at hx
      obtain ⟨rfl, rfl⟩ := hx
      · exact ⟨f48, _, _, PySem.W.mg_of X G a48, k48, b48, ok48.mono (by decide)⟩,
      fun k x hx => by simp [Y_L_ground, Z_L_ground, findM] at hx,
      hb, fun hz => by simp [Y_L_ground] at hz,
      fun c f hx => by simp [Y_L_ground, Z_L_ground, findM] at hx,
      fun c m k hx => by simp [Y_L_ground, Z_L_ground, findM] at hx,
      fun c m k hx => by simp [Y_L_ground, Z_L_ground, findM] at hx,
      fun k c hx => by simp [Y_L_ground, Z_L_ground, findM] at hx,
      fun c hx => by simp [Y_L_ground, Z_L_ground] at hx,
      fun k x ks pm hx => by simp [Y_L_ground, Z_L_ground, findM] at hx⟩ ck_L_ground (by decide) (fun _ _ z => z)
  have ok57 : FnOk P w K mg base CX0 2 f57 _ ["_law_sheet_here", "_law_layer"] (spF K F_L_fits) :=
    fn_ok (Y := Y_L_fits) Fn57 sc_L_fits ⟨fun i x hx => by
      simp only [Y_L_fits, Z_L_fits, List.mem_cons, List.not_mem_nil, or_false, Prod.mk.injEq] at hx
      obtain ⟨rfl, rfl⟩ := hx
      · exact ⟨f49, _, _, PySem.W.mg_of X G a49, k49, b49, ok49.mono (by decide)⟩,
      fun k x hx => by simp [Y_L_fits, Z_L_fits, findM] at hx,
      hb, fun hz => by simp [Y_L_fits] at hz,
      fun c f hx => by simp [Y_L_fits, Z_L_fits, findM] at hx,
      fun c m k hx => by simp [Y_L_fits, Z_L_fits, findM] at hx,
      fun c m k hx => by simp [Y_L_fits, Z_L_fits, findM] at hx,
      fun k c hx => by simp [Y_L_fits, Z_L_fits, findM] at hx,
      fun c hx => by simp [Y_L_fits, Z_L_fits] at hx,
      fun k x ks pm hx => by simp [Y_L_fits, Z_L_fits, findM] at hx⟩ ck_L_fits (by decide) (fun _ _ z => z)
  have ok62 : FnOk P w K mg base CX0 2 f62 _ ["_law_stamps", "_law_layer", "_law_presses"] (spF K F_L_pressed) :=
    fn_ok (Y := Y_L_pressed) Fn62 sc_L_pressed ⟨fun i x hx => by
      simp only [Y_L_pressed, Z_L_pressed, List.mem_cons, List.not_mem_nil, or_false, Prod.mk.injEq] at hx
      rcases hx with ⟨rfl, rfl⟩ | ⟨rfl, rfl⟩
      · exact ⟨f48, _, _, PySem.W.mg_of X G a48, k48, b48, ok48.mono (by decide)⟩
      · exact ⟨f56, _, _, PySem.W.mg_of X G a56, k56, b56, ok56.mono (by decide)⟩,
      fun k x hx => by simp [Y_L_pressed, Z_L_pressed, findM] at hx,
      hb, fun hz => by simp [Y_L_pressed] at hz,
      fun c f hx => by simp [Y_L_pressed, Z_L_pressed, findM] at hx,
      fun c m k hx => by simp [Y_L_pressed, Z_L_pressed, findM] at hx,
      fun c m k hx => by simp [Y_L_pressed, Z_L_pressed, findM] at hx,
      fun k c hx => by simp [Y_L_pressed, Z_L_pressed, findM] at hx,
      fun c hx => by simp [Y_L_pressed, Z_L_pressed] at hx,
      fun k x ks pm hx => by simp [Y_L_pressed, Z_L_pressed, findM] at hx⟩ ck_L_pressed (by decide) (fun _ _ z => z)
  have ok64 : FnOk P w K mg base CX0 4 f64 _ ["_law_stamps", "_law_base", "_law_shown", "_law_actual"] (spF K F_L_leads) :=
    fn_ok (Y := Y_L_leads) Fn64 sc_L_leads ⟨fun i x hx => by
      simp only [Y_L_leads, Z_L_leads, List.mem_cons, List.not_mem_nil, or_false, Prod.mk.injEq] at hx
      rcases hx with ⟨rfl, rfl⟩ | ⟨rfl, rfl⟩ | ⟨rfl, rfl⟩ | ⟨rfl, rfl⟩ | ⟨rfl, rfl⟩
      · exact ⟨f56, _, _, PySem.W.mg_of X G a56, k56, b56, ok56.mono (by decide)⟩
      · exact ⟨f57, _, _, PySem.W.mg_of X G a57, k57, b57, ok57.mono (by decide)⟩
      · exact ⟨f61, _, _, PySem.W.mg_of X G a61, k61, b61, ok61.mono (by decide)⟩
      · exact ⟨f62, _, _, PySem.W.mg_of X G a62, k62, b62, ok62.mono (by decide)⟩
      · exact ⟨f63, _, _, PySem.W.mg_of X G a63, k63, b63, ok63.mono (by decide)⟩,
      fun k x hx => by simp [Y_L_leads, Z_L_leads, findM] at hx,
      hb, fun hz => by simp [Y_L_leads] at hz,
      fun c f hx => by
      simp only [Y_L_leads, Z_L_leads, List.mem_cons, List.not_mem_nil, or_false, Prod.mk.injEq] at hx
      rcases hx with ⟨rfl, rfl⟩ | ⟨rfl, rfl⟩ | ⟨rfl, rfl⟩
      · exact ⟨C8, ac8, cl8, nf0⟩
      · exact ⟨C8, ac8, cl8, nf1⟩
      · exact ⟨C8, ac8, cl8, nf3⟩,
      fun c m k hx => by simp [Y_L_leads, Z_L_leads, findM] at hx,
      fun c m k hx => by simp [Y_L_leads, Z_L_leads, findM] at hx,
      fun k c hx => by simp [Y_L_leads, Z_L_leads, findM] at hx,
      fun c hx => by simp [Y_L_leads, Z_L_leads] at hx,
      fun k x ks pm hx => by simp [Y_L_leads, Z_L_leads, findM] at hx⟩ ck_L_leads (by decide) (fun _ _ z => z)
  have ok41 : FnOk P w K mg base CX0 1 f41 _ ["_law_value"] (spF K F_L_whole) :=
    fn_ok (Y := Y_L_whole) Fn41 sc_L_whole ⟨fun i x hx => by simp [Y_L_whole, Z_L_whole, findM] at hx,
      fun k x hx => by simp [Y_L_whole, Z_L_whole, findM] at hx,
      hb, fun hz => by simp [Y_L_whole] at hz,
      fun c f hx => by simp [Y_L_whole, Z_L_whole, findM] at hx,
      fun c m k hx => by simp [Y_L_whole, Z_L_whole, findM] at hx,
      fun c m k hx => by simp [Y_L_whole, Z_L_whole, findM] at hx,
      fun k c hx => by simp [Y_L_whole, Z_L_whole, findM] at hx,
      fun c hx => by simp [Y_L_whole, Z_L_whole] at hx,
      fun k x ks pm hx => by simp [Y_L_whole, Z_L_whole, findM] at hx⟩ ck_L_whole (by decide) (fun _ _ z => z)
  have ok58 : FnOk P w K mg base CX0 1 f58 _ ["_law_stamps", "_law_shown", "_law_cells"] (spF K F_L_fast) :=
    fn_ok (Y := Y_L_fast) Fn58 sc_L_fast ⟨fun i x hx => by simp [Y_L_fast, Z_L_fast, findM] at hx,
      fun k x hx => by simp [Y_L_fast, Z_L_fast, findM] at hx,
      hb, fun hz => by simp [Y_L_fast] at hz,
      fun c f hx => by simp [Y_L_fast, Z_L_fast, findM] at hx,
      fun c m k hx => by simp [Y_L_fast, Z_L_fast, findM] at hx,
      fun c m k hx => by simp [Y_L_fast, Z_L_fast, findM] at hx,
      fun k c hx => by simp [Y_L_fast, Z_L_fast, findM] at hx,
      fun c hx => by simp [Y_L_fast, Z_L_fast] at hx,
      fun k x ks pm hx => by simp [Y_L_fast, Z_L_fast, findM] at hx⟩ ck_L_fast (by decide) (fun _ _ z => z)
  have ok65 : FnOk P w K mg base CX0 4 f65 _ ["_law_stamps", "_law_base", "_law_shown", "_law_actual"] (spF K F_L_barred) :=
    fn_ok (Y := Y_L_barred) Fn65 sc_L_barred ⟨fun i x hx => by
      simp only [Y_L_barred, Z_L_barred, List.mem_cons, List.not_mem_nil, or_false, Prod.mk.injEq] at hx
      rcases hx with ⟨rfl, rfl⟩ | ⟨rfl, rfl⟩ | ⟨rfl, rfl⟩
      · exact ⟨f41, _, _, PySem.W.mg_of X G a41, k41, b41, ok41.mono (by decide)⟩
      · exact ⟨f58, _, _, PySem.W.mg_of X G a58, k58, b58, ok58.mono (by decide)⟩
      · exact ⟨f61, _, _, PySem.W.mg_of X G a61, k61, b61, ok61.mono (by decide)⟩,
      fun k x hx => by simp [Y_L_barred, Z_L_barred, findM] at hx,
      hb, fun hz => by simp [Y_L_barred] at hz,
      fun c f hx => by
      simp only [Y_L_barred, Z_L_barred, List.mem_cons, List.not_mem_nil, or_false, Prod.mk.injEq] at hx
      rcases hx with ⟨rfl, rfl⟩ | ⟨rfl, rfl⟩ | ⟨rfl, rfl⟩
      · exact ⟨C8, ac8, cl8, nf0⟩
      · exact ⟨C8, ac8, cl8, nf1⟩
      · exact ⟨C8, ac8, cl8, nf3⟩,
      fun c m k hx => by simp [Y_L_barred, Z_L_barred, findM] at hx,
      fun c m k hx => by simp [Y_L_barred, Z_L_barred, findM] at hx,
      fun k c hx => by simp [Y_L_barred, Z_L_barred, findM] at hx,
      fun c hx => by simp [Y_L_barred, Z_L_barred] at hx,
      fun k x ks pm hx => by simp [Y_L_barred, Z_L_barred, findM] at hx⟩ ck_L_barred (by decide) (fun _ _ z => z)
  have ok66 : FnOk P w K mg base CX0 5 f66 _ ["_law_stamps", "_law_base", "_law_shown", "_law_actual"] (spF K F_L_shows) :=
    fn_ok (Y := Y_L_shows) Fn66 sc_L_shows ⟨fun i x hx => by
      simp only [Y_L_shows, Z_L_shows, List.mem_cons, List.not_mem_nil, or_false, Prod.mk.injEq] at hx
      rcases hx with ⟨rfl, rfl⟩ | ⟨rfl, rfl⟩
      · exact ⟨f64, _, _, PySem.W.mg_of X G a64, k64, b64, ok64.mono (by decide)⟩
      · exact ⟨f65, _, _, PySem.W.mg_of X G a65, k65, b65, ok65.mono (by decide)⟩,
      fun k x hx => by simp [Y_L_shows, Z_L_shows, findM] at hx,
      hb, fun hz => by simp [Y_L_shows] at hz,
      fun c f hx => by
      simp only [Y_L_shows, Z_L_shows, List.mem_cons, List.not_mem_nil, or_false, Prod.mk.injEq] at hx
      obtain ⟨rfl, rfl⟩ := hx
      · exact ⟨C8, ac8, cl8, nf2⟩,
      fun c m k hx => by simp [Y_L_shows, Z_L_shows, findM] at hx,
      fun c m k hx => by simp [Y_L_shows, Z_L_shows, findM] at hx,
      fun k c hx => by simp [Y_L_shows, Z_L_shows, findM] at hx,
      fun c hx => by simp [Y_L_shows, Z_L_shows] at hx,
      fun k x ks pm hx => by simp [Y_L_shows, Z_L_shows, findM] at hx⟩ ck_L_shows (by decide) (fun _ _ z => z)
  have ok67 : FnOk P w K mg base CX0 2 f67 _ ["_law_stamps", "_law_base", "_law_shown", "_law_cells"] (spF K F_L_bars) :=
    fn_ok (Y := Y_L_bars) Fn67 sc_L_bars ⟨fun i x hx => by
      simp only [Y_L_bars, Z_L_bars, List.mem_cons, List.not_mem_nil, or_false, Prod.mk.injEq] at hx
      obtain ⟨rfl, rfl⟩ := hx
      · exact ⟨f58, _, _, PySem.W.mg_of X G a58, k58, b58, ok58.mono (by decide)⟩,
      fun k x hx => by simp [Y_L_bars, Z_L_bars, findM] at hx,
      hb, fun hz => by simp [Y_L_bars] at hz,
      fun c f hx => by simp [Y_L_bars, Z_L_bars, findM] at hx,
      fun c m k hx => by simp [Y_L_bars, Z_L_bars, findM] at hx,
      fun c m k hx => by simp [Y_L_bars, Z_L_bars, findM] at hx,
      fun k c hx => by simp [Y_L_bars, Z_L_bars, findM] at hx,
      fun c hx => by simp [Y_L_bars, Z_L_bars] at hx,
      fun k x ks pm hx => by simp [Y_L_bars, Z_L_bars, findM] at hx⟩ ck_L_bars (by decide) (fun _ _ z => z)
  have ok7 : FnOk P w K mg base CX0 1 f7 _ ["chosen"] (spF K F_cell_set) :=
    fn_ok (Y := Y_cell_set) Fn7 sc_cell_set ⟨fun i x hx => by simp [Y_cell_set, Z_cell_set, findM] at hx,
      fun k x hx => by simp [Y_cell_set, Z_cell_set, findM] at hx,
      hb, fun hz => by simp [Y_cell_set] at hz,
      fun c f hx => by simp [Y_cell_set, Z_cell_set, findM] at hx,
      fun c m k hx => by simp [Y_cell_set, Z_cell_set, findM] at hx,
      fun c m k hx => by simp [Y_cell_set, Z_cell_set, findM] at hx,
      fun k c hx => by simp [Y_cell_set, Z_cell_set, findM] at hx,
      fun c hx => by simp [Y_cell_set, Z_cell_set] at hx,
      fun k x ks pm hx => by simp [Y_cell_set, Z_cell_set, findM] at hx⟩ ck_cell_set (by decide) (fun _ _ z => z)
  have ok14 : FnOk P w K mg base CX0 1 f14 _ ["stamp", "cells"] (spF K F_covers_some) :=
    fn_ok (Y := Y_covers_some) Fn14 sc_covers_some ⟨fun i x hx => by simp [Y_covers_some, Z_covers_some, findM] at hx,
      fun k x hx => by simp [Y_covers_some, Z_covers_some, findM] at hx,
      hb, fun hz => by simp [Y_covers_some] at hz,
      fun c f hx => by simp [Y_covers_some, Z_covers_some, findM] at hx,
      fun c m k hx => by simp [Y_covers_some, Z_covers_some, findM] at hx,
      fun c m k hx => by simp [Y_covers_some, Z_covers_some, findM] at hx,
      fun k c hx => by simp [Y_covers_some, Z_covers_some, findM] at hx,
      fun c hx => by simp [Y_covers_some, Z_covers_some] at hx,
      fun k x ks pm hx => by simp [Y_covers_some, Z_covers_some, findM] at hx⟩ ck_covers_some (by decide) (fun _ _ z => z)
  have ok15 : FnOk P w K mg base CX0 1 f15 _ ["stamp", "seen", "cells"] (spF K F_contradicts) :=
    fn_ok (Y := Y_contradicts) Fn15 sc_contradicts ⟨fun i x hx => by simp [Y_contradicts, Z_contradicts, findM] at hx,
      fun k x hx => by simp [Y_contradicts, Z_contradicts, findM] at hx,
      hb, fun hz => by simp [Y_contradicts] at hz,
      fun c f hx => by simp [Y_contradicts, Z_contradicts, findM] at hx,
      fun c m k hx => by simp [Y_contradicts, Z_contradicts, findM] at hx,
      fun c m k hx => by simp [Y_contradicts, Z_contradicts, findM] at hx,
      fun k c hx => by simp [Y_contradicts, Z_contradicts, findM] at hx,
      fun c hx => by simp [Y_contradicts, Z_contradicts] at hx,
      fun k x ks pm hx => by simp [Y_contradicts, Z_contradicts, findM] at hx⟩ ck_contradicts (by decide) (fun _ _ z => z)
  have ok16 : FnOk P w K mg base CX0 2 f16 _ ["layers", "seen", "chosen"] (spF K F_fast_for) :=
    fn_ok (Y := Y_fast_for) Fn16 sc_fast_for ⟨fun i x hx => by
      simp only [Y_fast_for, Z_fast_for, List.mem_cons, List.not_mem_nil, or_false, Prod.mk.injEq] at hx
      rcases hx with ⟨rfl, rfl⟩ | ⟨rfl, rfl⟩ | ⟨rfl, rfl⟩
      · exact ⟨f7, _, _, PySem.W.mg_of X G a7, k7, b7, ok7.mono (by decide)⟩
      · exact ⟨f14, _, _, PySem.W.mg_of X G a14, k14, b14, ok14.mono (by decide)⟩
      · exact ⟨f15, _, _, PySem.W.mg_of X G a15, k15, b15, ok15.mono (by decide)⟩,
      fun k x hx => by simp [Y_fast_for, Z_fast_for, findM] at hx,
      hb, fun hz => by simp [Y_fast_for] at hz,
      fun c f hx => by simp [Y_fast_for, Z_fast_for, findM] at hx,
      fun c m k hx => by simp [Y_fast_for, Z_fast_for, findM] at hx,
      fun c m k hx => by simp [Y_fast_for, Z_fast_for, findM] at hx,
      fun k c hx => by simp [Y_fast_for, Z_fast_for, findM] at hx,
      fun c hx => by simp [Y_fast_for, Z_fast_for] at hx,
      fun k x ks pm hx => by simp [Y_fast_for, Z_fast_for, findM] at hx⟩ ck_fast_for (by decide) (fun _ _ z => z)
  have ok17 : FnOk P w K mg base CX0 3 f17 _ ["stock", "seen", "chosen"] (spF K F_is_fast) :=
    fn_ok (Y := Y_is_fast) Fn17 sc_is_fast ⟨fun i x hx => by
      simp only [Y_is_fast, Z_is_fast, List.mem_cons, List.not_mem_nil, or_false, Prod.mk.injEq] at hx
      obtain ⟨rfl, rfl⟩ := hx
      · exact ⟨f16, _, _, PySem.W.mg_of X G a16, k16, b16, ok16.mono (by decide)⟩,
      fun k x hx => by simp [Y_is_fast, Z_is_fast, findM] at hx,
      hb, fun hz => by simp [Y_is_fast] at hz,
      fun c f hx => by
      simp only [Y_is_fast, Z_is_fast, List.mem_cons, List.not_mem_nil, or_false, Prod.mk.injEq] at hx
      obtain ⟨rfl, rfl⟩ := hx
      · exact ⟨C7, ac7, cl7, nf7⟩,
      fun c m k hx => by simp [Y_is_fast, Z_is_fast, findM] at hx,
      fun c m k hx => by simp [Y_is_fast, Z_is_fast, findM] at hx,
      fun k c hx => by simp [Y_is_fast, Z_is_fast, findM] at hx,
      fun c hx => by simp [Y_is_fast, Z_is_fast] at hx,
      fun k x ks pm hx => by simp [Y_is_fast, Z_is_fast, findM] at hx⟩ ck_is_fast (by decide) (fun _ _ z => z)
  have ok40 : FnOk P w K mg base CX0 4 f40 _ ["stock", "start", "seen", "chosen"] (spF K F_is_refusal) :=
    fn_ok (Y := Y_is_refusal) Fn40 sc_is_refusal ⟨fun i x hx => by
      simp only [Y_is_refusal, Z_is_refusal, List.mem_cons, List.not_mem_nil, or_false, Prod.mk.injEq] at hx
      obtain ⟨rfl, rfl⟩ := hx
      · exact ⟨f17, _, _, PySem.W.mg_of X G a17, k17, b17, ok17.mono (by decide)⟩,
      fun k x hx => by simp [Y_is_refusal, Z_is_refusal, findM] at hx,
      hb, fun hz => by simp [Y_is_refusal] at hz,
      fun c f hx => by simp [Y_is_refusal, Z_is_refusal, findM] at hx,
      fun c m k hx => by simp [Y_is_refusal, Z_is_refusal, findM] at hx,
      fun c m k hx => by simp [Y_is_refusal, Z_is_refusal, findM] at hx,
      fun k c hx => by simp [Y_is_refusal, Z_is_refusal, findM] at hx,
      fun c hx => by simp [Y_is_refusal, Z_is_refusal] at hx,
      fun k x ks pm hx => by simp [Y_is_refusal, Z_is_refusal, findM] at hx⟩ ck_is_refusal (by decide) (fun _ _ z => z)
  have ok59 : FnOk P w K mg base CX0 1 f59 _ ["_law_cells"] (spF K F_L_subsets) :=
    fn_ok (Y := Y_L_subsets) Fn59 sc_L_subsets ⟨fun i x hx => by simp [Y_L_subsets, Z_L_subsets, findM] at hx,
      fun k x hx => by simp [Y_L_subsets, Z_L_subsets, findM] at hx,
      hb, fun hz => by simp [Y_L_subsets] at hz,
      fun c f hx => by simp [Y_L_subsets, Z_L_subsets, findM] at hx,
      fun c m k hx => by simp [Y_L_subsets, Z_L_subsets, findM] at hx,
      fun c m k hx => by simp [Y_L_subsets, Z_L_subsets, findM] at hx,
      fun k c hx => by simp [Y_L_subsets, Z_L_subsets, findM] at hx,
      fun c hx => by simp [Y_L_subsets, Z_L_subsets] at hx,
      fun k x ks pm hx => by simp [Y_L_subsets, Z_L_subsets, findM] at hx⟩ ck_L_subsets (by decide) (fun _ _ z => z)
  have ok68 : FnOk P w K mg base CX0 2 f68 _ ["_law_script", "_law_size", "_law_stuck"] (spF K F_L_tried) :=
    fn_ok (Y := Y_L_tried) Fn68 sc_L_tried ⟨fun i x hx => by
      simp only [Y_L_tried, Z_L_tried, List.mem_cons, List.not_mem_nil, or_false, Prod.mk.injEq] at hx
      rcases hx with ⟨rfl, rfl⟩ | ⟨rfl, rfl⟩ | ⟨rfl, rfl⟩
      · exact ⟨f42, _, _, PySem.W.mg_of X G a42, k42, b42, ok42.mono (by decide)⟩
      · exact ⟨f43, _, _, PySem.W.mg_of X G a43, k43, b43, ok43.mono (by decide)⟩
      · exact ⟨f59, _, _, PySem.W.mg_of X G a59, k59, b59, ok59.mono (by decide)⟩,
      fun k x hx => by simp [Y_L_tried, Z_L_tried, findM] at hx,
      hb, fun hz => by simp [Y_L_tried] at hz,
      fun c f hx => by simp [Y_L_tried, Z_L_tried, findM] at hx,
      fun c m k hx => by simp [Y_L_tried, Z_L_tried, findM] at hx,
      fun c m k hx => by simp [Y_L_tried, Z_L_tried, findM] at hx,
      fun k c hx => by simp [Y_L_tried, Z_L_tried, findM] at hx,
      fun c hx => by simp [Y_L_tried, Z_L_tried] at hx,
      fun k x ks pm hx => by simp [Y_L_tried, Z_L_tried, findM] at hx⟩ ck_L_tried (by decide) (fun _ _ z => z)
  have ok69 : FnOk P w K mg base CX0 5 f69 _ ["_law_script", "_law_built", "_law_stamps", "_law_base", "_law_shown", "_law_stuck"] (spF K F_L_judged) :=
    fn_ok (Y := Y_L_judged) Fn69 sc_L_judged ⟨fun i x hx => by
      simp only [Y_L_judged, Z_L_judged, List.mem_cons, List.not_mem_nil, or_false, Prod.mk.injEq] at hx
      rcases hx with ⟨rfl, rfl⟩ | ⟨rfl, rfl⟩ | ⟨rfl, rfl⟩ | ⟨rfl, rfl⟩ | ⟨rfl, rfl⟩
      · exact ⟨f40, _, _, PySem.W.mg_of X G a40, k40, b40, ok40.mono (by decide)⟩
      · exact ⟨f42, _, _, PySem.W.mg_of X G a42, k42, b42, ok42.mono (by decide)⟩
      · exact ⟨f43, _, _, PySem.W.mg_of X G a43, k43, b43, ok43.mono (by decide)⟩
      · exact ⟨f67, _, _, PySem.W.mg_of X G a67, k67, b67, ok67.mono (by decide)⟩
      · exact ⟨f68, _, _, PySem.W.mg_of X G a68, k68, b68, ok68.mono (by decide)⟩,
      fun k x hx => by simp [Y_L_judged, Z_L_judged, findM] at hx,
      hb, fun hz => by simp [Y_L_judged] at hz,
      fun c f hx => by simp [Y_L_judged, Z_L_judged, findM] at hx,
      fun c m k hx => by simp [Y_L_judged, Z_L_judged, findM] at hx,
      fun c m k hx => by simp [Y_L_judged, Z_L_judged, findM] at hx,
      fun k c hx => by simp [Y_L_judged, Z_L_judged, findM] at hx,
      fun c hx => by simp [Y_L_judged, Z_L_judged] at hx,
      fun k x ks pm hx => by
      simp only [Y_L_judged, Z_L_judged, List.mem_cons, List.not_mem_nil, or_false, Prod.mk.injEq] at hx
      obtain ⟨rfl, rfl, rfl, rfl⟩ := hx
      · exact kw_at (PySem.W.mg_of X G a40) k40 (fun s ws hl => match ws, hl with | [_, _, _, _], _ => .of_eq rfl) (ok40.mono (by decide))⟩ ck_L_judged (by decide) (fun _ _ z => z)
  have ok70 : FnOk P w K mg base CX0 8 f70 _ ["_law_script", "_law_built", "_law_stamps", "_law_base", "_law_shown"] (spF K F_L_told) :=
    fn_ok (Y := Y_L_told) Fn70 sc_L_told ⟨fun i x hx => by
      simp only [Y_L_told, Z_L_told, List.mem_cons, List.not_mem_nil, or_false, Prod.mk.injEq] at hx
      rcases hx with ⟨rfl, rfl⟩ | ⟨rfl, rfl⟩ | ⟨rfl, rfl⟩ | ⟨rfl, rfl⟩ | ⟨rfl, rfl⟩ | ⟨rfl, rfl⟩
      · exact ⟨f39, _, _, PySem.W.mg_of X G a39, k39, b39, ok39.mono (by decide)⟩
      · exact ⟨f40, _, _, PySem.W.mg_of X G a40, k40, b40, ok40.mono (by decide)⟩
      · exact ⟨f61, _, _, PySem.W.mg_of X G a61, k61, b61, ok61.mono (by decide)⟩
      · exact ⟨f66, _, _, PySem.W.mg_of X G a66, k66, b66, ok66.mono (by decide)⟩
      · exact ⟨f67, _, _, PySem.W.mg_of X G a67, k67, b67, ok67.mono (by decide)⟩
      · exact ⟨f69, _, _, PySem.W.mg_of X G a69, k69, b69, ok69.mono (by decide)⟩,
      fun k x hx => by simp [Y_L_told, Z_L_told, findM] at hx,
      hb, fun hz => by simp [Y_L_told] at hz,
      fun c f hx => by
      simp only [Y_L_told, Z_L_told, List.mem_cons, List.not_mem_nil, or_false, Prod.mk.injEq] at hx
      rcases hx with ⟨rfl, rfl⟩ | ⟨rfl, rfl⟩
      · exact ⟨C8, ac8, cl8, nf1⟩
      · exact ⟨C8, ac8, cl8, nf2⟩,
      fun c m k hx => by simp [Y_L_told, Z_L_told, findM] at hx,
      fun c m k hx => by simp [Y_L_told, Z_L_told, findM] at hx,
      fun k c hx => by simp [Y_L_told, Z_L_told, findM] at hx,
      fun c hx => by simp [Y_L_told, Z_L_told] at hx,
      fun k x ks pm hx => by
      simp only [Y_L_told, Z_L_told, List.mem_cons, List.not_mem_nil, or_false, Prod.mk.injEq] at hx
      obtain ⟨rfl, rfl, rfl, rfl⟩ := hx
      · exact kw_at (PySem.W.mg_of X G a39) k39 (fun s ws hl => match ws, hl with | [_, _, _], _ => .of_eq rfl) (ok39.mono (by decide))⟩ ck_L_told (by decide) (fun _ _ z => z)
  have ok72 : FnOk P w K mg base CX0 9 fa _ ["_law_script"] (spF K F_law) :=
    fn_ok (Y := Y_law) Fn72 sc_law ⟨fun i x hx => by
      simp only [Y_law, Z_law, List.mem_cons, List.not_mem_nil, or_false, Prod.mk.injEq] at hx
      rcases hx with ⟨rfl, rfl⟩ | ⟨rfl, rfl⟩ | ⟨rfl, rfl⟩ | ⟨rfl, rfl⟩
      · exact ⟨f39, _, _, PySem.W.mg_of X G a39, k39, b39, ok39.mono (by decide)⟩
      · exact ⟨f66, _, _, PySem.W.mg_of X G a66, k66, b66, ok66.mono (by decide)⟩
      · exact ⟨f70, _, _, PySem.W.mg_of X G a70, k70, b70, ok70.mono (by decide)⟩
      · exact ⟨f71, _, _, PySem.W.mg_of X G a71, k71, b71, ok71.mono (by decide)⟩,
      fun k x hx => by simp [Y_law, Z_law, findM] at hx,
      hb, fun hz => by simp [Y_law] at hz,
      fun c f hx => by
      simp only [Y_law, Z_law, List.mem_cons, List.not_mem_nil, or_false, Prod.mk.injEq] at hx
      obtain ⟨rfl, rfl⟩ := hx
      · exact ⟨C7, ac7, cl7, nf10⟩,
      fun c m k hx => by simp [Y_law, Z_law, findM] at hx,
      fun c m k hx => by simp [Y_law, Z_law, findM] at hx,
      fun k c hx => by
      simp only [Y_law, Z_law, List.mem_cons, List.not_mem_nil, or_false, Prod.mk.injEq] at hx
      obtain ⟨rfl, rfl⟩ := hx
      · exact ⟨C7, f25, _, _, 7, by decide, ac7, PySem.W.mg_of X G ac7, ⟨mk25, m25, i25, kc7⟩, b25, ok25, fun ds d h => valI_ins h⟩,
      fun c hx => by simp [Y_law, Z_law] at hx,
      fun k x ks pm hx => by simp [Y_law, Z_law, findM] at hx⟩ ck_law (by decide) (fun _ _ z => z)
  exact ok72
theorem walk {l : PySem.W.OpenLaw} {q : Program} {loose : List Str} {XP : (Str → Option Value) → Heap → Prop} {YP : World → Heap → Prop} {d : DefRec} {K : Params → PySem.W.Frag} (hn : l.most = some 63) (hdf : d.params.defaults = [])
    (hY : ∀ (w : World) (h : Heap), YP w h → (K w.params).In h)
    (F : ∀ (w : World) (mg : Str → Option Value) (fa : Addr) (h : Heap), (K w.params).In h → h.Ns mainGlobals mg → mg d.name = some (.ref fa) →
      ∃ fd : FuncData, (∀ (s : Shared) (u : Value), BindsTo s fd ⟨[u], []⟩ [("_law_script", u)]) ∧ ∀ base : Heap, (K w.params).In base → base.Ns mainGlobals mg → FnOk l.prog w (K w.params) mg base CX0 9 fa fd ["_law_script"] (spF (K w.params) F_law)) :
    PySem.W.WalkO q loose XP YP l.row.toRowW d [] (fun f vs => PySem.call f vs) :=
  L2.walk_of (n := 63) (k := 9) (x := "_law_script") (CX := fun _ => CX0) (sp := fun w => spF (K w.params) F_law) hn (by decide) hdf ⟨rfl, by decide, by decide⟩ hY F
    (fun _ H a ns hl _ hS => ⟨[.scr ns], .bl true, H, Sub.refl H, by simp only [DenL, Den]; exact ⟨_, _, rfl, ⟨a, rfl, hS⟩, rfl⟩, main ns hl, fun v G' H' _ _ _ _ dv => by simpa only [Den] using dv⟩) fun _ _ _ _ _ z => z
end K10
open PySem PySem.W PyProof.Rows
set_option maxRecDepth 100000 in
set_option maxHeartbeats 0 in
theorem PySem.Challenge.cw_stampsheets_k10_making_whole_holds : PySem.Challenge.rw_stampsheets_k10_making_whole.Holds := by
  w_on; o_law; k_head; (case hw => w_witness2)
  k_fill
  refine K10.walk (l := PySem.Challenge.rw_stampsheets_k10_making_whole) rfl rfl (fun w h Y => PySem.W.kIn_of Y) ?F
  case F =>
    intro w mg fa h KX G hmg
    refine' K10.all_mk KX G hmg ?ac0 ?pg0 ?hd0 ?po0 ?sa0 ?kc0 ?nf4 ?nf5 ?nf6 ?m8 ?i8 ?mk8 ?ac7 ?pg7 ?hd7 ?po7 ?sa7 ?kc7 ?nf7 ?nf8 ?nf9 ?nf10 ?m25 ?i25 ?mk25 ?m26 ?pga26 ?pt26 ?pr26 ?ac8 ?pg8 ?hd8 ?po8 ?sa8 ?kc8 ?nf0 ?nf1 ?nf2 ?nf3 ?m37 ?i37 ?mk37 ?a43 ?l43 ?c43 ?k43 ?a42 ?l42 ?c42 ?k42 ?a44 ?l44 ?c44 ?k44 ?a45 ?l45 ?c45 ?k45 ?a46 ?l46 ?c46 ?k46 ?a47 ?l47 ?c47 ?k47 ?a55 ?l55 ?c55 ?k55 ?a51 ?l51 ?c51 ?k51 ?a52 ?l52 ?c52 ?k52 ?a48 ?l48 ?c48 ?k48 ?a53 ?l53 ?c53 ?k53 ?a54 ?l54 ?c54 ?k54 ?a71 ?l71 ?c71 ?k71 ?a6 ?l6 ?c6 ?k6 ?a23 ?l23 ?c23 ?k23 ?a1 ?l1 ?c1 ?k1 ?a5 ?l5 ?c5 ?k5 ?a24 ?l24 ?c24 ?k24 ?l25 ?c25 ?k25 ?a3 ?l3 ?c3 ?k3 ?a4 ?l4 ?c4 ?k4 ?a2 ?l2 ?c2 ?k2 ?a9 ?l9 ?c9 ?k9 ?a10 ?l10 ?c10 ?k10 ?a11 ?l11 ?c11 ?k11 ?a12 ?l12 ?c12 ?k12 ?l26 ?c26 ?k26 ?l8 ?c8 ?k8 ?a13 ?l13 ?c13 ?k13 ?a38 ?l38 ?c38 ?k38 ?l37 ?c37 ?k37 ?a39 ?l39 ?c39 ?k39 ?a56 ?l56 ?c56 ?k56 ?a49 ?l49 ?c49 ?k49 ?a50 ?l50 ?c50 ?k50 ?a60 ?l60 ?c60 ?k60 ?a61 ?l61 ?c61 ?k61 ?a63 ?l63 ?c63 ?k63 ?a57 ?l57 ?c57 ?k57 ?a62 ?l62 ?c62 ?k62 ?a64 ?l64 ?c64 ?k64 ?a41 ?l41 ?c41 ?k41 ?a58 ?l58 ?c58 ?k58 ?a65 ?l65 ?c65 ?k65 ?a66 ?l66 ?c66 ?k66 ?a67 ?l67 ?c67 ?k67 ?a7 ?l7 ?c7 ?k7 ?a14 ?l14 ?c14 ?k14 ?a15 ?l15 ?c15 ?k15 ?a16 ?l16 ?c16 ?k16 ?a17 ?l17 ?c17 ?k17 ?a40 ?l40 ?c40 ?k40 ?a59 ?l59 ?c59 ?k59 ?a68 ?l68 ?c68 ?k68 ?a69 ?l69 ?c69 ?k69 ?a70 ?l70 ?c70 ?k70 ?a72 ?l72 ?c72 ?k72 ?z0 ?z1 ?z2 ?z3 ?z4 ?z5 ?z6 ?z7 ?z8 ?z9 ?z10 ?z11 ?z12 ?z13 ?z14 ?gk0 ?gk1 ?gk2 ?gk3 ?gk4
    (case ac0 => k_is)
    (case pg0 => k_is)
    (case hd0 => k_is)
    (case po0 => k_is)
    (case sa0 => k_is)
    (case kc0 => k_is)
    (case nf4 => k_is)
    (case nf5 => k_is)
    (case nf6 => k_is)
    (case m8 => k_is)
    (case i8 => k_is)
    (case mk8 => k_is)
    (case ac7 => k_is)
    (case pg7 => k_is)
    (case hd7 => k_is)
    (case po7 => k_is)
    (case sa7 => k_is)
    (case kc7 => k_is)
    (case nf7 => k_is)
    (case nf8 => k_is)
    (case nf9 => k_is)
    (case nf10 => k_is)
    (case m25 => k_is)
    (case i25 => k_is)
    (case mk25 => k_is)
    (case m26 => k_is)
    (case pga26 => k_is)
    (case pt26 => k_is)
    (case pr26 => k_is)
    (case ac8 => k_is)
    (case pg8 => k_is)
    (case hd8 => k_is)
    (case po8 => k_is)
    (case sa8 => k_is)
    (case kc8 => k_is)
    (case nf0 => k_is)
    (case nf1 => k_is)
    (case nf2 => k_is)
    (case nf3 => k_is)
    (case m37 => k_is)
    (case i37 => k_is)
    (case mk37 => k_is)
    (case a43 => k_is)
    (case l43 => k_is)
    (case c43 => k_is)
    (case k43 => k_is)
    (case a42 => k_is)
    (case l42 => k_is)
    (case c42 => k_is)
    (case k42 => k_is)
    (case a44 => k_is)
    (case l44 => k_is)
    (case c44 => k_is)
    (case k44 => k_is)
    (case a45 => k_is)
    (case l45 => k_is)
    (case c45 => k_is)
    (case k45 => k_is)
    (case a46 => k_is)
    (case l46 => k_is)
    (case c46 => k_is)
    (case k46 => k_is)
    (case a47 => k_is)
    (case l47 => k_is)
    (case c47 => k_is)
    (case k47 => k_is)
    (case a55 => k_is)
    (case l55 => k_is)
    (case c55 => k_is)
    (case k55 => k_is)
    (case a51 => k_is)
    (case l51 => k_is)
    (case c51 => k_is)
    (case k51 => k_is)
    (case a52 => k_is)
    (case l52 => k_is)
    (case c52 => k_is)
    (case k52 => k_is)
    (case a48 => k_is)
    (case l48 => k_is)
    (case c48 => k_is)
    (case k48 => k_is)
    (case a53 => k_is)
    (case l53 => k_is)
    (case c53 => k_is)
    (case k53 => k_is)
    (case a54 => k_is)
    (case l54 => k_is)
    (case c54 => k_is)
    (case k54 => k_is)
    (case a71 => k_is)
    (case l71 => k_is)
    (case c71 => k_is)
    (case k71 => k_is)
    (case a6 => k_is)
    (case l6 => k_is)
    (case c6 => k_is)
    (case k6 => k_is)
    (case a23 => k_is)
    (case l23 => k_is)
    (case c23 => k_is)
    (case k23 => k_is)
    (case a1 => k_is)
    (case l1 => k_is)
    (case c1 => k_is)
    (case k1 => k_is)
    (case a5 => k_is)
    (case l5 => k_is)
    (case c5 => k_is)
    (case k5 => k_is)
    (case a24 => k_is)
    (case l24 => k_is)
    (case c24 => k_is)
    (case k24 => k_is)
    (case l25 => k_is)
    (case c25 => k_is)
    (case k25 => k_is)
    (case a3 => k_is)
    (case l3 => k_is)
    (case c3 => k_is)
    (case k3 => k_is)
    (case a4 => k_is)
    (case l4 => k_is)
    (case c4 => k_is)
    (case k4 => k_is)
    (case a2 => k_is)
    (case l2 => k_is)
    (case c2 => k_is)
    (case k2 => k_is)
    (case a9 => k_is)
    (case l9 => k_is)
    (case c9 => k_is)
    (case k9 => k_is)
    (case a10 => k_is)
    (case l10 => k_is)
    (case c10 => k_is)
    (case k10 => k_is)
    (case a11 => k_is)
    (case l11 => k_is)
    (case c11 => k_is)
    (case k11 => k_is)
    (case a12 => k_is)
    (case l12 => k_is)
    (case c12 => k_is)
    (case k12 => k_is)
    (case l26 => k_is)
    (case c26 => k_is)
    (case k26 => k_is)
    (case l8 => k_is)
    (case c8 => k_is)
    (case k8 => k_is)
    (case a13 => k_is)
    (case l13 => k_is)
    (case c13 => k_is)
    (case k13 => k_is)
    (case a38 => k_is)
    (case l38 => k_is)
    (case c38 => k_is)
    (case k38 => k_is)
    (case l37 => k_is)
    (case c37 => k_is)
    (case k37 => k_is)
    (case a39 => k_is)
    (case l39 => k_is)
    (case c39 => k_is)
    (case k39 => k_is)
    (case a56 => k_is)
    (case l56 => k_is)
    (case c56 => k_is)
    (case k56 => k_is)
    (case a49 => k_is)
    (case l49 => k_is)
    (case c49 => k_is)
    (case k49 => k_is)
    (case a50 => k_is)
    (case l50 => k_is)
    (case c50 => k_is)
    (case k50 => k_is)
    (case a60 => k_is)
    (case l60 => k_is)
    (case c60 => k_is)
    (case k60 => k_is)
    (case a61 => k_is)
    (case l61 => k_is)
    (case c61 => k_is)
    (case k61 => k_is)
    (case a63 => k_is)
    (case l63 => k_is)
    (case c63 => k_is)
    (case k63 => k_is)
    (case a57 => k_is)
    (case l57 => k_is)
    (case c57 => k_is)
    (case k57 => k_is)
    (case a62 => k_is)
    (case l62 => k_is)
    (case c62 => k_is)
    (case k62 => k_is)
    (case a64 => k_is)
    (case l64 => k_is)
    (case c64 => k_is)
    (case k64 => k_is)
    (case a41 => k_is)
    (case l41 => k_is)
    (case c41 => k_is)
    (case k41 => k_is)
    (case a58 => k_is)
    (case l58 => k_is)
    (case c58 => k_is)
    (case k58 => k_is)
    (case a65 => k_is)
    (case l65 => k_is)
    (case c65 => k_is)
    (case k65 => k_is)
    (case a66 => k_is)
    (case l66 => k_is)
    (case c66 => k_is)
    (case k66 => k_is)
    (case a67 => k_is)
    (case l67 => k_is)
    (case c67 => k_is)
    (case k67 => k_is)
    (case a7 => k_is)
    (case l7 => k_is)
    (case c7 => k_is)
    (case k7 => k_is)
    (case a14 => k_is)
    (case l14 => k_is)
    (case c14 => k_is)
    (case k14 => k_is)
    (case a15 => k_is)
    (case l15 => k_is)
    (case c15 => k_is)
    (case k15 => k_is)
    (case a16 => k_is)
    (case l16 => k_is)
    (case c16 => k_is)
    (case k16 => k_is)
    (case a17 => k_is)
    (case l17 => k_is)
    (case c17 => k_is)
    (case k17 => k_is)
    (case a40 => k_is)
    (case l40 => k_is)
    (case c40 => k_is)
    (case k40 => k_is)
    (case a59 => k_is)
    (case l59 => k_is)
    (case c59 => k_is)
    (case k59 => k_is)
    (case a68 => k_is)
    (case l68 => k_is)
    (case c68 => k_is)
    (case k68 => k_is)
    (case a69 => k_is)
    (case l69 => k_is)
    (case c69 => k_is)
    (case k69 => k_is)
    (case a70 => k_is)
    (case l70 => k_is)
    (case c70 => k_is)
    (case k70 => k_is)
    (case a72 => k_is)
    (case l72 => k_is)
    (case c72 => k_is)
    (case k72 => k_is)
    (case z0 => k_is)
    (case z1 => k_is)
    (case z2 => k_is)
    (case z3 => k_is)
    (case z4 => k_is)
    (case z5 => k_is)
    (case z6 => k_is)
    (case z7 => k_is)
    (case z8 => k_is)
    (case z9 => k_is)
    (case z10 => k_is)
    (case z11 => k_is)
    (case z12 => k_is)
    (case z13 => k_is)
    (case z14 => k_is)
    (case gk0 => k_is)
    (case gk1 => k_is)
    (case gk2 => k_is)
    (case gk3 => k_is)
    (case gk4 => k_is)
#print axioms PySem.Challenge.cw_stampsheets_k10_making_whole_holds
