import PyProof.Rows.All
import Wide.All
import OpenK.AllK
import Wide.FinOn
import HandS.ForMost
import HandS.IsInst
import HandS.Style
import HandS.Gcd
import HandS.Wide
import HandS.Walk
import HandS.TupAny
import HandS.Flow
import HandS.Property
import HandS.Zip
import HandS.Replace
import HandS.Defaults
import KE.GoesEnum
import HandS.Codes
import KE.KEqNest
import HandS.DeepEq
import KE.KDictLaw
import PySem.Challenge.RW_stampsheets_k00_layers_judged

set_option Elab.async false
set_option linter.all false
set_option maxRecDepth 100000
set_option maxHeartbeats 4000000

namespace Pv
open PySem PySem.Spec L2

/-! ### data -/
inductive D where
  | non | bl (b : Bool) | int (i : Int) | str (x : List Nat)
  | lst (ds : List D) | tup (ds : List D) | dct (ks vs : List D) | ins (c : Str) (ns : List Str) (vs : List D)
  /-- the law's script -/
  | scr (ns : List Int)
  deriving Inhabited

abbrev mkS (x : List Nat) : Str := ⟨x.toArray⟩
def D.key : D → Option Key
  | .int i => some (.inl i)
  | .str x => some (.inr (mkS x))
  | _ => none

mutual
def D.toP : D → PyData
  | .non => .none | .bl b => .bool b | .int i => .int i | .str x => .str (mkS x)
  | .lst ds => .list (D.toPL ds) | .tup ds => .tuple (D.toPL ds)
  | .dct _ _ => .none | .ins _ _ _ => .none | .scr ns => .list (ns.map .int)
def D.toPL : List D → List PyData
  | [] => [] | d :: ds => D.toP d :: D.toPL ds
end
mutual
def D.plain : D → Bool
  | .lst ds => D.plainL ds | .tup ds => D.plainL ds
  | .dct _ _ => false | .ins _ _ _ => false | .scr _ => false
  | .non => true | .bl _ => true | .int _ => true | .str _ => true
def D.plainL : List D → Bool
  | [] => true | d :: ds => D.plain d && D.plainL ds
end
/-- data that == compares as data -/
def D.shp (d : D) : Bool := D.plain d && SeqAt.shaped (D.toP d)
def D.eqb (a b : D) : Bool := PyData.eqv (D.toP a) (D.toP b)

mutual
/-- the value v stands for the datum -/
def Den (K : PySem.W.Frag) (G : Hp) : D → V → Prop
  | .non, v => v = .non
  | .bl b, v => v = .bl b
  | .int i, v => v = .int i
  | .str x, v => v = .str (mkS x)
  | .lst ds, v => ∃ a vs, v = .ref a ∧ G a = some (.lst vs) ∧ DenL K G ds vs
  | .tup ds, v => ∃ a vs, v = .ref a ∧ SqT K G a vs ∧ DenL K G ds vs
  | .dct ks ds, v => ∃ a kvs, v = .ref a ∧ G a = some (.dK kvs) ∧ ks.map D.key = kvs.map (fun p => some p.1) ∧ DenL K G ds (kvs.map (fun p => p.2))
  | .ins c ns ds, v => ∃ a C dx nvs, v = .ref a ∧ G a = some (.ins C dx nvs) ∧ PySem.W.nsIn K mainGlobals c = some (some (.ref C)) ∧ ns = nvs.map (fun p => p.1) ∧ DenL K G ds (nvs.map (fun p => p.2))
  | .scr ns, v => ∃ a, v = .ref a ∧ SqL K G a (ns.map V.int)
def DenL (K : PySem.W.Frag) (G : Hp) : List D → List V → Prop
  | [], vs => vs = []
  | d :: ds, vs => ∃ v r, vs = v :: r ∧ Den K G d v ∧ DenL K G ds r
end

abbrev Sub (H H' : Hp) : Prop := ∀ a o, H a = some o → H' a = some o
theorem Sub.refl (H : Hp) : Sub H H := fun _ _ h => h
theorem Sub.trans {H H1 H2 : Hp} (a : Sub H H1) (b : Sub H1 H2) : Sub H H2 := fun x o h => b x o (a x o h)
theorem sub_rd {H H' : Hp} {a : Addr} {u : HO} (e : Sub H H') (h : Rd H a u) : Rd H' a u := by
  rcases h with h | ⟨o, h⟩
  · exact Or.inl (e a _ h)
  · exact Or.inr ⟨o, e a _ h⟩
theorem sub_l {K : PySem.W.Frag} {H H' : Hp} {a : Addr} {xs : List V} (e : Sub H H') (h : SqL K H a xs) : SqL K H' a xs := by
  rcases h with h | h
  · exact Or.inl (sub_rd e h)
  · exact Or.inr h
theorem sub_t {K : PySem.W.Frag} {H H' : Hp} {a : Addr} {xs : List V} (e : Sub H H') (h : SqT K H a xs) : SqT K H' a xs := by
  rcases h with h | h
  · exact Or.inl (sub_rd e h)
  · exact Or.inr h
mutual
theorem Den.mono {K : PySem.W.Frag} {G G' : Hp} (e : Sub G G') : ∀ (d : D) {v : V}, Den K G d v → Den K G' d v
  | .non, _, h => by simpa only [Den] using h
  | .bl _, _, h => by simpa only [Den] using h
  | .int _, _, h => by simpa only [Den] using h
  | .str _, _, h => by simpa only [Den] using h
  | .lst ds, _, h => by
    simp only [Den] at h ⊢
    obtain ⟨a, vs, r, s, t⟩ := h
    exact ⟨a, vs, r, e _ _ s, DenL.mono e ds t⟩
  | .tup ds, _, h => by
    simp only [Den] at h ⊢
    obtain ⟨a, vs, r, s, t⟩ := h
    exact ⟨a, vs, r, sub_t e s, DenL.mono e ds t⟩
  | .dct ks ds, _, h => by
    simp only [Den] at h ⊢
    obtain ⟨a, kvs, r, s, t, u⟩ := h
    exact ⟨a, kvs, r, e _ _ s, t, DenL.mono e ds u⟩
  | .ins c ns ds, _, h => by
    simp only [Den] at h ⊢
    obtain ⟨a, C, dx, nvs, r, s, t, u, z⟩ := h
    exact ⟨a, C, dx, nvs, r, e _ _ s, t, u, DenL.mono e ds z⟩
  | .scr _, _, h => by
    simp only [Den] at h ⊢
    obtain ⟨a, r, s⟩ := h
    exact ⟨a, r, sub_l e s⟩
theorem DenL.mono {K : PySem.W.Frag} {G G' : Hp} (e : Sub G G') : ∀ (ds : List D) {vs : List V}, DenL K G ds vs → DenL K G' ds vs
  | [], _, h => by simpa only [DenL] using h
  | d :: ds, _, h => by
    simp only [DenL] at h ⊢
    obtain ⟨v, r, e1, h1, h2⟩ := h
    exact ⟨v, r, e1, Den.mono e d h1, DenL.mono e ds h2⟩
end
theorem DenL.length {K : PySem.W.Frag} {G : Hp} : ∀ {ds : List D} {vs : List V}, DenL K G ds vs → ds.length = vs.length
  | [], _, h => by simp only [DenL] at h; subst h; rfl
  | d :: ds, _, h => by
    simp only [DenL] at h
    obtain ⟨v, r, e1, h1, h2⟩ := h
    subst e1
    simp [DenL.length h2]
theorem DenL.get {K : PySem.W.Frag} {G : Hp} : ∀ {ds : List D} {vs : List V} {i : Nat} {d : D}, DenL K G ds vs → ds[i]? = some d → ∃ v, vs[i]? = some v ∧ Den K G d v
  | [], _, _, _, _, e => by simp at e
  | x :: ds, _, i, d, h, e => by
    simp only [DenL] at h
    obtain ⟨v, r, e1, h1, h2⟩ := h
    subst e1
    cases i with
    | zero =>
      simp at e
      subst e
      exact ⟨v, rfl, h1⟩
    | succ i =>
      obtain ⟨w, a, b⟩ := DenL.get (i := i) (d := d) h2 (by simpa using e)
      exact ⟨w, by simpa using a, b⟩
theorem DenL.getV {K : PySem.W.Frag} {G : Hp} : ∀ {ds : List D} {vs : List V} {i : Nat} {v : V}, DenL K G ds vs → vs[i]? = some v → ∃ d, ds[i]? = some d ∧ Den K G d v
  | [], _, _, _, h, e => by simp only [DenL] at h; subst h; simp at e
  | x :: ds, _, i, d, h, e => by
    simp only [DenL] at h
    obtain ⟨v, r, e1, h1, h2⟩ := h
    subst e1
    cases i with
    | zero =>
      simp at e
      subst e
      exact ⟨x, rfl, h1⟩
    | succ i =>
      obtain ⟨w, a, b⟩ := DenL.getV (i := i) (v := d) h2 (by simpa using e)
      exact ⟨w, by simpa using a, b⟩
theorem DenL.append {K : PySem.W.Frag} {G : Hp} : ∀ {ds es : List D} {vs ws : List V}, DenL K G ds vs → DenL K G es ws → DenL K G (ds ++ es) (vs ++ ws)
  | [], _, _, _, h, h' => by simp only [DenL] at h; subst h; simpa using h'
  | d :: ds, es, _, ws, h, h' => by
    simp only [DenL] at h
    obtain ⟨v, r, e1, h1, h2⟩ := h
    subst e1
    simp only [List.cons_append, DenL]
    exact ⟨v, r ++ ws, rfl, h1, DenL.append h2 h'⟩
theorem DenL.snoc {K : PySem.W.Frag} {G : Hp} {ds : List D} {vs : List V} {d : D} {v : V} (h : DenL K G ds vs) (h' : Den K G d v) : DenL K G (ds ++ [d]) (vs ++ [v]) :=
  h.append (by simp only [DenL]; exact ⟨v, [], rfl, h', rfl⟩)
theorem DenL.take {K : PySem.W.Frag} {G : Hp} : ∀ {ds : List D} {vs : List V} (n : Nat), DenL K G ds vs → DenL K G (ds.take n) (vs.take n)
  | [], _, n, h => by simp only [DenL] at h; subst h; simp [DenL]
  | d :: ds, _, 0, h => by simp [DenL]
  | d :: ds, _, n + 1, h => by
    simp only [DenL] at h
    obtain ⟨v, r, e1, h1, h2⟩ := h
    subst e1
    simp only [List.take_succ_cons, DenL]
    exact ⟨v, r.take n, rfl, h1, DenL.take n h2⟩
theorem DenL.drop {K : PySem.W.Frag} {G : Hp} : ∀ {ds : List D} {vs : List V} (n : Nat), DenL K G ds vs → DenL K G (ds.drop n) (vs.drop n)
  | [], _, n, h => by simp only [DenL] at h; subst h; simp [DenL]
  | d :: ds, _, 0, h => by simpa using h
  | d :: ds, _, n + 1, h => by
    simp only [DenL] at h
    obtain ⟨v, r, e1, h1, h2⟩ := h
    subst e1
    simpa using DenL.drop n h2

/-! ### data to the library's -/
mutual
theorem Den.dp {K : PySem.W.Frag} {G : Hp} : ∀ (d : D) {v : V}, D.plain d = true → Den K G d v → Dp K G v (D.toP d)
  | .non, _, _, h => by simp only [Den] at h; subst h; exact .non
  | .bl _, _, _, h => by simp only [Den] at h; subst h; exact .bl _
  | .int _, _, _, h => by simp only [Den] at h; subst h; exact .int _
  | .str _, _, _, h => by simp only [Den] at h; subst h; exact .str _
  | .lst ds, _, p, h => by
    simp only [Den] at h
    simp only [D.plain] at p
    obtain ⟨a, vs, r, s, t⟩ := h
    subst r
    exact .lst (SqL.of s) (DenL.dp ds p t)
  | .tup ds, _, p, h => by
    simp only [Den] at h
    simp only [D.plain] at p
    obtain ⟨a, vs, r, s, t⟩ := h
    subst r
    exact .tup s (DenL.dp ds p t)
  | .dct _ _, _, p, _ => by simp [D.plain] at p
  | .ins _ _ _, _, p, _ => by simp [D.plain] at p
  | .scr _, _, p, _ => by simp [D.plain] at p
theorem DenL.dp {K : PySem.W.Frag} {G : Hp} : ∀ (ds : List D) {vs : List V}, D.plainL ds = true → DenL K G ds vs → DpAll K G vs (D.toPL ds)
  | [], _, _, h => by simp only [DenL] at h; subst h; exact .nil
  | d :: ds, _, p, h => by
    simp only [DenL] at h
    simp only [D.plainL, Bool.and_eq_true] at p
    obtain ⟨v, r, e1, h1, h2⟩ := h
    subst e1
    exact .cons (Den.dp d p.1 h1) (DenL.dp ds p.2 h2)
end
mutual
theorem dp_mono {K : PySem.W.Frag} {G H : Hp} (e : Sub G H) : ∀ (d : PyData) {v : V}, Dp K G v d → Dp K H v d
  | _, _, .non => .non
  | _, _, .bl b => .bl b
  | _, _, .int b => .int b
  | _, _, .str b => .str b
  | .list ds, _, .lst s a => .lst (sub_l e s) (dpAll_mono e ds a)
  | .tuple ds, _, .tup s a => .tup (sub_t e s) (dpAll_mono e ds a)
theorem dpAll_mono {K : PySem.W.Frag} {G H : Hp} (e : Sub G H) : ∀ (ds : List PyData) {vs : List V}, DpAll K G vs ds → DpAll K H vs ds
  | [], _, .nil => .nil
  | d :: ds, _, .cons h t => .cons (dp_mono e d h) (dpAll_mono e ds t)
end

def del (W : Hp) (p : Addr) : Hp := fun a => if a = p then none else W a
theorem del_same {W : Hp} {p : Addr} : del W p p = none := by simp [del]
theorem del_ne {W : Hp} {p a : Addr} (h : a ≠ p) : del W p a = W a := by simp [del, h]
abbrev WI (G0 W : Hp) : Prop := ∀ a C dx n, W a = some (.ins C dx n) → ∃ b, G0 a = some (.own b)
theorem wi_upd {G0 W : Hp} (h : WI G0 W) {p : Addr} {o : HO} (hi : ∀ C dx n, o ≠ .ins C dx n) : WI G0 (upd W p o) := fun a C dx n e => by
  by_cases z : a = p
  · subst z; rw [upd_same] at e; exact absurd (Option.some.inj e) (hi C dx n)
  · rw [upd_ne z] at e; exact h a C dx n e
theorem wi_set {G0 W : Hp} (h : WI G0 W) {p : Addr} {o o' : HO} (hp : W p = some o) (hi : ∀ C dx n, o' = .ins C dx n → ∃ C0 dx0 n0, o = .ins C0 dx0 n0) : WI G0 (upd W p o') := fun a C dx n e => by
  by_cases z : a = p
  · subst z; rw [upd_same] at e; obtain ⟨C0, dx0, n0, e0⟩ := hi C dx n (Option.some.inj e); rw [e0] at hp; exact h a C0 dx0 n0 hp
  · rw [upd_ne z] at e; exact h a C dx n e
theorem wi_del {G0 W : Hp} (h : WI G0 W) {p : Addr} : WI G0 (del W p) := fun a C dx n e => by
  by_cases z : a = p
  · subst z; rw [del_same] at e; cases e
  · rw [del_ne z] at e; exact h a C dx n e
/-! ### the world: H0, G0 at the entry; G what stands for good; W what the slots own; H the heap -/
structure Wd (H0 G0 G W H : Hp) : Prop where
  gh : Sub G H
  wh : ∀ a o, W a = some o → H a = some o ∧ G a = none
  wi : WI G0 W
  hg : ∀ a o, H0 a = some o → G a = G0 a
  h0 : ∀ a o, H0 a = some o → H a = some o ∧ W a = none
def noH : Hp := fun _ => none
theorem Wd.start {H0 G0 : Hp} (h : Sub G0 H0) : Wd H0 G0 G0 noH H0 :=
  ⟨h, fun _ _ e => by simp [noH] at e, fun _ _ _ _ e => by simp [noH] at e, fun _ _ _ => rfl, fun _ _ e => ⟨e, rfl⟩⟩
section
variable {H0 G0 G W H : Hp}
theorem Wd.wnone (w : Wd H0 G0 G W H) {p : Addr} (hp : H p = none) : W p = none := by
  cases e : W p with
  | none => rfl
  | some o => rw [(w.wh p o e).1] at hp; cases hp
theorem Wd.gnone (w : Wd H0 G0 G W H) {p : Addr} (hp : H p = none) : G p = none := by
  cases e : G p with
  | none => rfl
  | some o => rw [w.gh p o e] at hp; cases hp
theorem Wd.h0none (w : Wd H0 G0 G W H) {p : Addr} (hp : H p = none) : H0 p = none := by
  cases e : H0 p with
  | none => rfl
  | some o => rw [(w.h0 p o e).1] at hp; cases hp
theorem sub_upd {G : Hp} {p : Addr} {o : HO} (h : G p = none) : Sub G (upd G p o) := fun a u e => by
  rw [upd_ne (ne_of_none e h)]; exact e
/-- a new object that stands for good -/
theorem Wd.new (w : Wd H0 G0 G W H) {p : Addr} {o : HO} (hp : H p = none) : Wd H0 G0 (upd G p o) W (upd H p o) := by
  have hg := w.gnone hp
  have hw := w.wnone hp
  have h0 := w.h0none hp
  refine ⟨fun a u e => ?_, fun a u e => ?_, w.wi, fun a u e => ?_, fun a u e => ?_⟩
  · by_cases z : a = p
    · subst z; rw [upd_same] at e ⊢; exact e
    · rw [upd_ne z] at e ⊢; exact w.gh a u e
  · have z := ne_of_none e hw
    rw [upd_ne z, upd_ne z]; exact w.wh a u e
  · have z := ne_of_none e h0
    rw [upd_ne z]; exact w.hg a u e
  · have z := ne_of_none e h0
    rw [upd_ne z]; exact w.h0 a u e
/-- a new object that is owned -/
theorem Wd.newO (w : Wd H0 G0 G W H) {p : Addr} {o : HO} (hp : H p = none) (hi : ∀ C dx n, o ≠ .ins C dx n := by (intro _ _ _ z; cases z)) : Wd H0 G0 G (upd W p o) (upd H p o) := by
  have hg := w.gnone hp
  have hw := w.wnone hp
  have h0 := w.h0none hp
  refine ⟨fun a u e => ?_, fun a u e => ?_, wi_upd w.wi hi, fun a u e => w.hg a u e, fun a u e => ?_⟩
  · have z := ne_of_none e hg
    rw [upd_ne z]; exact w.gh a u e
  · by_cases z : a = p
    · subst z; rw [upd_same] at e ⊢; exact ⟨e, hg⟩
    · rw [upd_ne z] at e ⊢; exact w.wh a u e
  · have z := ne_of_none e h0
    rw [upd_ne z, upd_ne z]; exact w.h0 a u e
/-- an owned object changes -/
theorem Wd.set (w : Wd H0 G0 G W H) {p : Addr} {o o' : HO} (hp : W p = some o) (hi : ∀ C dx n, o' = .ins C dx n → ∃ C0 dx0 n0, o = .ins C0 dx0 n0 := by (intro _ _ _ z; cases z)) : Wd H0 G0 G (upd W p o') (upd H p o') := by
  obtain ⟨h1, h2⟩ := w.wh p o hp
  have h0 : H0 p = none := by
    cases e : H0 p with
    | none => rfl
    | some o => rw [(w.h0 p o e).2] at hp; cases hp
  refine ⟨fun a u e => ?_, fun a u e => ?_, wi_set w.wi hp hi, fun a u e => w.hg a u e, fun a u e => ?_⟩
  · have z := ne_of_none e h2
    rw [upd_ne z]; exact w.gh a u e
  · by_cases z : a = p
    · subst z; rw [upd_same] at e ⊢; exact ⟨e, h2⟩
    · rw [upd_ne z] at e ⊢; exact w.wh a u e
  · have z := ne_of_none e h0
    rw [upd_ne z, upd_ne z]; exact w.h0 a u e
/-- an owned object stands for good from here on -/
theorem Wd.give (w : Wd H0 G0 G W H) {p : Addr} {o : HO} (hp : W p = some o) : Wd H0 G0 (upd G p o) (del W p) H := by
  obtain ⟨h1, h2⟩ := w.wh p o hp
  have h0 : H0 p = none := by
    cases e : H0 p with
    | none => rfl
    | some o => rw [(w.h0 p o e).2] at hp; cases hp
  refine ⟨fun a u e => ?_, fun a u e => ?_, wi_del w.wi, fun a u e => ?_, fun a u e => ?_⟩
  · by_cases z : a = p
    · subst z; rw [upd_same] at e; rw [h1]; exact e
    · rw [upd_ne z] at e; exact w.gh a u e
  · by_cases z : a = p
    · subst z; rw [del_same] at e; cases e
    · rw [del_ne z] at e; rw [upd_ne z]; exact w.wh a u e
  · have z := ne_of_none e h0
    rw [upd_ne z]; exact w.hg a u e
  · have z := ne_of_none e h0
    rw [del_ne z]; exact w.h0 a u e
/-- an entry that is of no concern -/
theorem Wd.junk (w : Wd H0 G0 G W H) {p : Addr} {o : HO} (hp : H p = none) : Wd H0 G0 G W (upd H p o) :=
  ⟨fun a u e => by rw [upd_ne (ne_of_none e (w.gnone hp))]; exact w.gh a u e, fun a u e => ⟨by rw [upd_ne (ne_of_none e (w.wnone hp))]; exact (w.wh a u e).1, (w.wh a u e).2⟩, w.wi, w.hg,
    fun a u e => ⟨by rw [upd_ne (ne_of_none e (w.h0none hp))]; exact (w.h0 a u e).1, (w.h0 a u e).2⟩⟩
/-- behind a call -/
theorem Wd.call (w : Wd H0 G0 G W H) {G' H' : Hp} (hh : Sub H H') (gg : Sub G G') (gh : Sub G' H') (hg : ∀ a o, H a = some o → G' a = G a) : Wd H0 G0 G' W H' :=
  ⟨gh, fun a o e => ⟨hh a o (w.wh a o e).1, by rw [hg a o (w.wh a o e).1]; exact (w.wh a o e).2⟩, w.wi, fun a o e => (hg a o (w.h0 a o e).1).trans (w.hg a o e),
    fun a o e => ⟨hh a o (w.h0 a o e).1, (w.h0 a o e).2⟩⟩
end

/-! ### slots -/
/-- what an object holds, without its address -/
def DenO (K : PySem.W.Frag) (G : Hp) : D → HO → Prop
  | .lst ds, o => ∃ vs, o = .lst vs ∧ DenL K G ds vs
  | .dct ks ds, o => ∃ kvs, o = .dK kvs ∧ ks.map D.key = kvs.map (fun p => some p.1) ∧ DenL K G ds (kvs.map (fun p => p.2))
  | .ins c ns ds, o => ∃ C dx nvs, o = .ins C dx nvs ∧ PySem.W.nsIn K mainGlobals c = some (some (.ref C)) ∧ ns = nvs.map (fun p => p.1) ∧ DenL K G ds (nvs.map (fun p => p.2))
  | _, _ => False
theorem DenO.mono {K : PySem.W.Frag} {G G' : Hp} (e : Sub G G') : ∀ (d : D) {o : HO}, DenO K G d o → DenO K G' d o
  | .lst ds, _, h => by
    simp only [DenO] at h ⊢
    obtain ⟨vs, s, t⟩ := h
    exact ⟨vs, s, DenL.mono e ds t⟩
  | .dct ks ds, _, h => by
    simp only [DenO] at h ⊢
    obtain ⟨kvs, s, t, u⟩ := h
    exact ⟨kvs, s, t, DenL.mono e ds u⟩
  | .ins c ns ds, _, h => by
    simp only [DenO] at h ⊢
    obtain ⟨C, dx, nvs, s, t, u, z⟩ := h
    exact ⟨C, dx, nvs, s, t, u, DenL.mono e ds z⟩
  | .non, _, h => by simp only [DenO] at h
  | .bl _, _, h => by simp only [DenO] at h
  | .int _, _, h => by simp only [DenO] at h
  | .str _, _, h => by simp only [DenO] at h
  | .tup _, _, h => by simp only [DenO] at h
  | .scr _, _, h => by simp only [DenO] at h
theorem DenO.den {K : PySem.W.Frag} {G : Hp} {p : Addr} {o : HO} (hp : G p = some o) : ∀ (d : D), DenO K G d o → Den K G d (.ref p)
  | .lst ds, h => by
    simp only [DenO] at h
    obtain ⟨vs, s, t⟩ := h
    subst s
    simp only [Den]
    exact ⟨p, vs, rfl, hp, t⟩
  | .dct ks ds, h => by
    simp only [DenO] at h
    obtain ⟨kvs, s, t, u⟩ := h
    subst s
    simp only [Den]
    exact ⟨p, kvs, rfl, hp, t, u⟩
  | .ins c ns ds, h => by
    simp only [DenO] at h
    obtain ⟨C, dx, nvs, s, t, u, z⟩ := h
    subst s
    simp only [Den]
    exact ⟨p, C, dx, nvs, rfl, hp, t, u, z⟩
  | .non, h => by simp only [DenO] at h
  | .bl _, h => by simp only [DenO] at h
  | .int _, h => by simp only [DenO] at h
  | .str _, h => by simp only [DenO] at h
  | .tup _, h => by simp only [DenO] at h
  | .scr _, h => by simp only [DenO] at h
inductive Sl where
  | no | v (d : D) | o (d : D)
structure SlOk (K : PySem.W.Frag) (G W : Hp) (τ : List Sl) (σ : St) : Prop where
  len : τ.length = σ.length
  val : ∀ (i : Nat) d, τ[i]? = some (.v d) → ∃ v, σ[i]? = some (some v) ∧ Den K G d v
  own : ∀ (i : Nat) d, τ[i]? = some (.o d) → ∃ a o, σ[i]? = some (some (.ref a)) ∧ W a = some o ∧ DenO K G d o
  dis : ∀ (i j : Nat) ds es a, τ[i]? = some (.o ds) → τ[j]? = some (.o es) → σ[i]? = some (some (.ref a)) → σ[j]? = some (some (.ref a)) → i = j
theorem get_set {α : Type} {l : List α} {i j : Nat} {x y : α} (h : (l.set i x)[j]? = some y) : (j = i ∧ i < l.length ∧ y = x) ∨ (j ≠ i ∧ l[j]? = some y) := by
  by_cases e : j = i
  · subst e
    by_cases hl : j < l.length
    · rw [List.getElem?_set_self hl] at h
      exact .inl ⟨rfl, hl, (Option.some.inj h).symm⟩
    · rw [List.getElem?_eq_none (by simpa using hl)] at h
      cases h
  · rw [List.getElem?_set_ne (fun z => e z.symm)] at h
    exact .inr ⟨e, h⟩
theorem set_self {α : Type} {l : List α} {i : Nat} {x : α} (h : i < l.length) : (l.set i x)[i]? = some x := List.getElem?_set_self h
theorem set_ne {α : Type} {l : List α} {i j : Nat} {x : α} (h : j ≠ i) : (l.set i x)[j]? = l[j]? := List.getElem?_set_ne (fun z => h z.symm)
section
variable {K : PySem.W.Frag} {G G' W : Hp} {τ : List Sl} {σ : St}
theorem SlOk.mono (s : SlOk K G W τ σ) (e : Sub G G') : SlOk K G' W τ σ :=
  ⟨s.len, fun i d h => let ⟨v, a, b⟩ := s.val i d h; ⟨v, a, b.mono e⟩, fun i ds h => let ⟨a, vs, x, y, z⟩ := s.own i ds h; ⟨a, vs, x, y, DenO.mono e _ z⟩, s.dis⟩
/-- a slot takes a value -/
theorem SlOk.put (s : SlOk K G W τ σ) {i : Nat} {d : D} {v : V} (h : Den K G d v) : SlOk K G W (τ.set i (.v d)) (σ.set i (some v)) := by
  refine ⟨by simp [s.len], fun j e hj => ?_, fun j es hj => ?_, fun j k es fs a hj hk ha hb => ?_⟩
  · rcases get_set hj with ⟨z, hl, e1⟩ | ⟨z, hj⟩
    · subst z
      cases e1
      exact ⟨v, set_self (by rw [← s.len]; exact hl), h⟩
    · rw [set_ne z]; exact s.val j e hj
  · rcases get_set hj with ⟨z, hl, e1⟩ | ⟨z, hj⟩
    · cases e1
    · rw [set_ne z]; exact s.own j es hj
  · rcases get_set hj with ⟨z, hl, e1⟩ | ⟨z, hj⟩
    · cases e1
    · rcases get_set hk with ⟨z', hl, e1⟩ | ⟨z', hk⟩
      · cases e1
      · rw [set_ne z] at ha
        rw [set_ne z'] at hb
        exact s.dis j k es fs a hj hk ha hb
theorem SlOk.wput (s : SlOk K G W τ σ) {i : Nat} {x : Option V} : SlOk K G W (τ.set i .no) (σ.set i x) := by
  refine ⟨by simp [s.len], fun j e hj => ?_, fun j es hj => ?_, fun j k es fs a hj hk ha hb => ?_⟩
  · rcases get_set hj with ⟨z, hl, e1⟩ | ⟨z, hj⟩
    · cases e1
    · rw [set_ne z]; exact s.val j e hj
  · rcases get_set hj with ⟨z, hl, e1⟩ | ⟨z, hj⟩
    · cases e1
    · rw [set_ne z]; exact s.own j es hj
  · rcases get_set hj with ⟨z, hl, e1⟩ | ⟨z, hj⟩
    · cases e1
    · rcases get_set hk with ⟨z', hl, e1⟩ | ⟨z', hk⟩
      · cases e1
      · rw [set_ne z] at ha
        rw [set_ne z'] at hb
        exact s.dis j k es fs a hj hk ha hb
/-- a slot takes a new list of its own -/
theorem SlOk.putO (s : SlOk K G W τ σ) {i : Nat} {ds : D} {ob : HO} {p : Addr} (hp : W p = none) (h : DenO K G ds ob) : SlOk K G (upd W p ob) (τ.set i (.o ds)) (σ.set i (some (.ref p))) := by
  have np : ∀ (j : Nat) es, j ≠ i → τ[j]? = some (.o es) → ∀ a, σ[j]? = some (some (.ref a)) → a ≠ p := fun j es z hj a ha e => by
    obtain ⟨b, ws, x, y, _⟩ := s.own j es hj
    rw [ha] at x
    cases x
    rw [e, hp] at y
    cases y
  refine ⟨by simp [s.len], fun j e hj => ?_, fun j es hj => ?_, fun j k es fs a hj hk ha hb => ?_⟩
  · rcases get_set hj with ⟨z, hl, e1⟩ | ⟨z, hj⟩
    · cases e1
    · rw [set_ne z]; exact s.val j e hj
  · rcases get_set hj with ⟨z, hl, e1⟩ | ⟨z, hj⟩
    · subst z
      cases e1
      exact ⟨p, ob, set_self (by rw [← s.len]; exact hl), upd_same, h⟩
    · obtain ⟨b, ws, x, y, q⟩ := s.own j es hj
      exact ⟨b, ws, by rw [set_ne z]; exact x, by rw [upd_ne (np j es z hj b x)]; exact y, q⟩
  · rcases get_set hj with ⟨z, hl, e1⟩ | ⟨z, hj2⟩
    · rcases get_set hk with ⟨z', hl', e1'⟩ | ⟨z', hk2⟩
      · rw [z, z']
      · rw [z, set_self (by rw [← s.len]; exact hl)] at ha
        cases ha
        rw [set_ne z'] at hb
        exact absurd rfl (np k fs z' hk2 _ hb)
    · rcases get_set hk with ⟨z', hl', e1'⟩ | ⟨z', hk2⟩
      · rw [z', set_self (by rw [← s.len]; exact hl')] at hb
        cases hb
        rw [set_ne z] at ha
        exact absurd rfl (np j es z hj2 _ ha)
      · rw [set_ne z] at ha
        rw [set_ne z'] at hb
        exact s.dis j k es fs a hj2 hk2 ha hb
/-- an owned list changes -/
theorem SlOk.chg (s : SlOk K G W τ σ) {i : Nat} {ds ds' : D} {ob' : HO} {p : Addr} (hi : τ[i]? = some (.o ds)) (hp : σ[i]? = some (some (.ref p))) (h : DenO K G ds' ob') :
    SlOk K G (upd W p ob') (τ.set i (.o ds')) σ := by
  have il : i < τ.length := (List.getElem?_eq_some_iff.mp hi).1
  refine ⟨by simp [s.len], fun j e hj => ?_, fun j es hj => ?_, fun j k es fs a hj hk ha hb => ?_⟩
  · rcases get_set hj with ⟨z, hl, e1⟩ | ⟨z, hj⟩
    · cases e1
    · exact s.val j e hj
  · rcases get_set hj with ⟨z, hl, e1⟩ | ⟨z, hj⟩
    · subst z
      cases e1
      exact ⟨p, ob', hp, upd_same, h⟩
    · obtain ⟨b, ws, x, y, q⟩ := s.own j es hj
      have nb : b ≠ p := fun e => z (s.dis j i es ds b hj hi x (by rw [e]; exact hp))
      exact ⟨b, ws, x, by rw [upd_ne nb]; exact y, q⟩
  · have old : ∀ (j : Nat) es, (τ.set i (.o ds'))[j]? = some (.o es) → ∃ es', τ[j]? = some (.o es') := fun j es hj => by
      rcases get_set hj with ⟨z, hl, e1⟩ | ⟨z, hj⟩
      · subst z; exact ⟨ds, hi⟩
      · exact ⟨es, hj⟩
    obtain ⟨es', hj'⟩ := old j es hj
    obtain ⟨fs', hk'⟩ := old k fs hk
    exact s.dis j k es' fs' a hj' hk' ha hb
/-- an owned list is given up: it stands for good -/
theorem SlOk.give (s : SlOk K G W τ σ) {i : Nat} {ds : D} {ob : HO} {p : Addr} (hi : τ[i]? = some (.o ds)) (hp : σ[i]? = some (some (.ref p))) (hw : W p = some ob) (hg : G p = none) (h : DenO K G ds ob) :
    SlOk K (upd G p ob) (del W p) (τ.set i (.v ds)) σ := by
  have s' := s.mono (sub_upd (o := ob) hg)
  refine ⟨by simp [s.len], fun j e hj => ?_, fun j es hj => ?_, fun j k es fs a hj hk ha hb => ?_⟩
  · rcases get_set hj with ⟨z, hl, e1⟩ | ⟨z, hj⟩
    · subst z
      cases e1
      exact ⟨_, hp, DenO.den upd_same _ (h.mono (sub_upd hg))⟩
    · exact s'.val j e hj
  · rcases get_set hj with ⟨z, hl, e1⟩ | ⟨z, hj⟩
    · cases e1
    · obtain ⟨b, ws, x, y, q⟩ := s'.own j es hj
      have nb : b ≠ p := fun e => z (s.dis j i es ds b hj hi x (by rw [e]; exact hp))
      exact ⟨b, ws, x, by rw [del_ne nb]; exact y, q⟩
  · rcases get_set hj with ⟨z, hl, e1⟩ | ⟨z, hj⟩
    · cases e1
    · rcases get_set hk with ⟨z', hl', e1'⟩ | ⟨z', hk⟩
      · cases e1'
      · exact s.dis j k es fs a hj hk ha hb
end
end Pv

set_option Elab.async false
set_option linter.all false
set_option maxRecDepth 100000
set_option maxHeartbeats 4000000

namespace Pv
open PySem PySem.Spec L2

/-! ### the small language -/
inductive BO where | add | sub | mul | fdiv | mod | pow
inductive CO where | lt | le | gt | ge | eq | ne | is | isnot | isin | notin
inductive Ty where | int | bool | str | tuple | list | dict
inductive BF where | len | int | abs | max | min | gcd | tuple | list | sum | str
/-- what takes one value: text.upper(), x[::-1], sorted(set(x)) -/
inductive U1 where | upper | rev | sset
inductive T where | nm (i : Nat) | tp (is : List Nat)
inductive E where
  | c (d : D) | v (i : Nat) | g (k : Nat)
  | bin (o : BO) (a b : E) | neg (a : E) | not (a : E) | and (a b : E) | or (a b : E) | last (a : E) | nil
  | cmp (o : CO) (a b : E) | chain (o p : CO) (a b c : E)
  | ite (t a b : E)
  | tup (es : List E) | lst (es : List E) | dct (es : List E)
  | ix (a i : E) | sl (a lo hi : E)
  | call (f : Nat) (es : List E)
  | blt (f : BF) (es : List E)
  | isi (a : E) (ts : List Ty) (many : Bool)
  | ixo (i : Nat) (a : E) | leno (i : Nat)
  | lc (own : List (Str × Nat)) (t : T) (it : E) (c : E) (e : E)
  | callK (f : Nat) (ks : List Str) (perm : List Nat) (es : List E) | mk (f : Nat) (es : List E)
  | fld (a : E) (f : Str) | mth (a : E) (m : Str) (es : List E) | prp (a : E) (f : Str)
  | join (a b : E) | sidx (a b : E) | dget (a b : E) | ino (neg : Bool) (a : E) (i : Nat)
  | same (a b : E) | u1 (o : U1) (a : E)
  | seq (e : E) | r1 (a : E) | r2 (a b : E) | enum (a : E) | zip (a b : E)
inductive S where
  | asg (t : T) (e : E) | own (i : Nat) (es : List E) | frz (i : Nat) | app (i : Nat) (e : E)
  | ret (e : E) | retN | pass | brk | cont
  | ifs (t : E) (a b : List S)
  | for_ (t : T) (it : E) (b : List S)
  | whl (n : Nat) (t : E) (b : List S)
  | never | setf (i : Nat) (f : Str) (e : E) | newd (i : Nat) | put (i : Nat) (k e : E) | seti (i : Nat) (k e : E)

abbrev line : Nat := 16777216
def strD (x : List Nat) : D := .str x
def mulOk (i j : Int) : Bool := decide (i.natAbs.log2 + j.natAbs.log2 < 1000000)
def divOk (j : Int) : Bool := decide (j ≠ 0) && decide (j.natAbs.log2 < 9000)
def powOk (i j : Int) : Bool := decide (0 ≤ j) && decide (j ≤ 1000000) && decide (i.natAbs < 2 ^ 64)
def repOk (n : Nat) (k : Int) : Bool := decide (-(2 ^ 62) ≤ k) && decide (k < 2 ^ 62) && decide (n * k.toNat ≤ line)
def binD : BO → D → D → Option D
  | .add, .int i, .int j => some (.int (i + j))
  | .add, .str x, .str y => if x.length + y.length ≤ line then some (.str (x ++ y)) else none
  | .add, .lst x, .lst y => if x.length + y.length ≤ line then some (.lst (x ++ y)) else none
  | .add, .tup x, .tup y => if x.length + y.length ≤ line then some (.tup (x ++ y)) else none
  | .mul, .lst x, .int k => if repOk x.length k then some (.lst (List.replicate k.toNat x).flatten) else none
  | .mul, .str x, .int k => if repOk x.length k then some (.str (List.replicate k.toNat x).flatten) else none
  | .sub, .int i, .int j => some (.int (i - j))
  | .mul, .int i, .int j => if mulOk i j then some (.int (i * j)) else none
  | .fdiv, .int i, .int j => if divOk j then some (.int (i.fdiv j)) else none
  | .mod, .int i, .int j => if j ≠ 0 then some (.int (i.fmod j)) else none
  | .pow, .int i, .int j => if powOk i j then some (.int (i ^ j.toNat)) else none
  | _, _, _ => none
def scalD : D → D → Bool
  | .non, .non => true | .non, .int _ => true | .int _, .non => true | .non, .bl _ => true | .bl _, .non => true | .non, .str _ => true | .str _, .non => true
  | .int _, .int _ => true | .bl _, .bl _ => true | .str _, .str _ => true
  | .int _, .str _ => true | .str _, .int _ => true | .bl _, .str _ => true | .str _, .bl _ => true
  | _, _ => false
def eqD (x y : D) : Option Bool := if scalD x y || (D.shp x && D.shp y) then some (D.eqb x y) else none
def flatD : D → Bool
  | .non => true | .bl _ => true | .int _ => true | .str _ => true | _ => false
def inD (x : D) (ys : List D) : Option Bool := if flatD x && ys.all flatD then some (ys.any fun y => D.eqb y x) else none
def dlook : List D → List D → Key → Option D
  | k :: ks, v :: vs, q => if D.key k = some q then some v else dlook ks vs q
  | _, _, _ => none
def hasK (ks : List D) (q : Key) : Bool := ks.any fun k => decide (D.key k = some q)
def dputK (ks : List D) (q : Key) (x : D) : List D := if hasK ks q then ks else ks ++ [x]
def dputV (ks vs : List D) (q : Key) (y : D) : List D := if hasK ks q then List.zipWith (fun k v => if D.key k = some q then y else v) ks vs else vs ++ [y]
def isInD (x : D) : D → Option Bool
  | .lst ys => inD x ys
  | .tup ys => inD x ys
  | .str ys => match x with | .str [c] => some (decide (c ∈ ys)) | _ => none
  | _ => none
def isD : D → D → Option Bool
  | .bl a, .bl b => some (decide (a = b))
  | .non, .non => some true
  | .bl _, .non => some false | .int _, .non => some false | .str _, .non => some false | .lst _, .non => some false | .tup _, .non => some false | .dct _ _, .non => some false | .ins _ _ _, .non => some false
  | _, _ => none
def cmpD : CO → D → D → Option Bool
  | .lt, .int i, .int j => some (decide (i < j))
  | .le, .int i, .int j => some (decide (i ≤ j))
  | .gt, .int i, .int j => some (decide (j < i))
  | .ge, .int i, .int j => some (decide (j ≤ i))
  | .eq, x, y => eqD x y
  | .ne, x, y => (eqD x y).map not
  | .is, x, y => isD x y
  | .isnot, x, y => (isD x y).map not
  | .isin, x, y => isInD x y
  | .notin, x, y => (isInD x y).map not
  | _, _, _ => none
/-- comparing, with in over dicts -/
def cmpX (o : CO) (x : D) : D → Option Bool
  | .dct ks vs => match o with
    | .isin => (D.key x).map fun q => (dlook ks vs q).isSome
    | .notin => (D.key x).map fun q => !(dlook ks vs q).isSome
    | _ => cmpD o x (.dct ks vs)
  | y => cmpD o x y
def truth : D → Option Bool
  | .non => some false
  | .bl b => some b
  | .int i => some (i != 0)
  | .str x => if x.length ≤ line then some (!x.isEmpty) else none
  | .lst x => some (!x.isEmpty)
  | .tup x => some (!x.isEmpty)
  | _ => none
def blD : D → Option Bool
  | .bl b => some b
  | _ => none
def intD : D → Option Int
  | .int i => some i
  | _ => none
def ixD : D → D → Option D
  | .lst xs, .int i => atI xs i
  | .scr xs, .int i => (atI xs i).map .int
  | .tup xs, .int i => atI xs i
  | .str x, .int i => if x.length ≤ line then (atI x i).map fun c => .str [c] else none
  | _, _ => none
/-- an item, of a dict too -/
def ixX : D → D → Option D
  | .dct ks vs, k => (D.key k).bind fun q => dlook ks vs q
  | x, y => ixD x y
def getD' : D → D → Option D
  | .dct ks vs, k => (D.key k).map fun q => (dlook ks vs q).getD .non
  | _, _ => none
def fldOf : List Str → List D → Str → Option D
  | n :: ns, v :: vs, f => if n = f then some v else fldOf ns vs f
  | _, _, _ => none
def putN : List Str → List D → Str → List Str
  | n :: ns, _ :: vs, f => if n = f then n :: ns else n :: putN ns vs f
  | _, _, f => [f]
def putV : List Str → List D → Str → D → List D
  | n :: ns, v :: vs, f, x => if n = f then x :: vs else v :: putV ns vs f x
  | _, _, _, x => [x]
def strsD : List D → Option (List (List Nat))
  | [] => some []
  | .str x :: r => (strsD r).map (x :: ·)
  | _ => none
def joinN (s : List Nat) : List (List Nat) → List Nat
  | [] => []
  | [p] => p
  | p :: q :: r => p ++ (s ++ joinN s (q :: r))
def joinOk (s : List Nat) (ps : List (List Nat)) : Bool := decide ((ps.map (·.length)).sum + ps.length * s.length ≤ line)
def joinD : D → D → Option D
  | .str s, .lst ds => (strsD ds).bind fun ps => if joinOk s ps then some (.str (joinN s ps)) else none
  | .str s, .tup ds => (strsD ds).bind fun ps => if joinOk s ps then some (.str (joinN s ps)) else none
  | _, _ => none
def sidxD : D → D → Option D
  | .str x, .str [c] => (x.findIdx? (· == c)).map fun i => .int (i : Nat)
  | _, _ => none
def permL (perm : List Nat) (ds : List D) : List D := perm.filterMap (ds[·]?)
def cutD {α : Type} (xs : List α) (lo hi : Option Int) : List α := (xs.drop (HT.sIx xs.length 0 lo)).take (HT.sIx xs.length xs.length hi - HT.sIx xs.length 0 lo)
def slD (lo hi : Option Int) : D → Option D
  | .lst xs => some (.lst (cutD xs lo hi))
  | .tup xs => some (.tup (cutD xs lo hi))
  | .str x => if x.length ≤ line then some (.str (cutD x lo hi)) else none
  | _ => none
def allInts : List D → Option (List Int)
  | [] => some []
  | .int i :: r => (allInts r).map (i :: ·)
  | _ => none
def intS (i : Int) : List Nat := (Str.ofString (toString i)).cps.toList
def bltD : BF → List D → Option D
  | .len, [.lst x] => some (.int x.length)
  | .len, [.tup x] => some (.int x.length)
  | .len, [.scr x] => some (.int x.length)
  | .len, [.str x] => if x.length ≤ line then some (.int x.length) else none
  | .int, [.int i] => some (.int i)
  | .int, [.bl b] => some (.int (if b then 1 else 0))
  | .abs, [.int i] => some (.int (if i < 0 then -i else i))
  | .max, [.int i, .int j] => some (.int (if j > i then j else i))
  | .min, [.int i, .int j] => some (.int (if j < i then j else i))
  | .gcd, [.int i, .int j] => some (.int (Nat.gcd i.natAbs j.natAbs : Nat))
  | .tuple, [.lst x] => some (.tup x)
  | .tuple, [.tup x] => some (.tup x)
  | .list, [.lst x] => some (.lst x)
  | .list, [.tup x] => some (.lst x)
  | .sum, [.lst x] => (allInts x).map fun ns => .int ns.sum
  | .str, [.int i] => if i.natAbs.log2 < 1920 then some (.str (intS i)) else none
  | _, _ => none
def tyD : D → Option Ty
  | .int _ => some .int | .bl _ => some .bool | .str _ => some .str | .tup _ => some .tuple | .lst _ => some .list | .dct _ _ => some .dict
  | _ => none
def isi1 (d : D) : Ty → Bool
  | .int => match d with | .int _ => true | .bl _ => true | _ => false
  | .bool => match d with | .bl _ => true | _ => false
  | .str => match d with | .str _ => true | _ => false
  | .tuple => match d with | .tup _ => true | _ => false
  | .list => match d with | .lst _ => true | _ => false
  | .dict => match d with | .dct _ _ => true | _ => false
def isIns : D → Bool
  | .ins _ _ _ => true
  | .scr _ => true
  | _ => false
def insI (K : List Str) : D → Option D
  | .ins c _ _ => if c ∈ K then some (.bl false) else none
  | _ => none
mutual
/-- the same tree -/
def D.beq : D → D → Bool
  | .non, b => (match b with | .non => true | _ => false)
  | .bl a, b => (match b with | .bl b => decide (a = b) | _ => false)
  | .int a, b => (match b with | .int b => decide (a = b) | _ => false)
  | .str a, b => (match b with | .str b => decide (a = b) | _ => false)
  | .lst a, b => (match b with | .lst b => D.beqL a b | _ => false)
  | .tup a, b => (match b with | .tup b => D.beqL a b | _ => false)
  | .dct a c, b => (match b with | .dct b d => D.beqL a b && D.beqL c d | _ => false)
  | .ins _ _ _, _ => false
  | .scr _, _ => false
def D.beqL : List D → List D → Bool
  | [], b => b.isEmpty
  | a :: r, b => (match b with | b :: s => D.beq a b && D.beqL r s | [] => false)
end
def u1D : U1 → D → Option D
  | .upper, .str x => if x.length ≤ 5592405 then some (.str (Txt.upper (mkS x)).cps.toList) else none
  | _, _ => none
def setAll : List Nat → List D → List Sl → Option (List Sl)
  | [], [], σ => some σ
  | i :: is, d :: ds, σ => setAll is ds (σ.set i (.v d))
  | _, _, _ => none
def setT : T → D → List Sl → Option (List Sl)
  | .nm i, d, σ => some (σ.set i (.v d))
  | .tp is, .tup ds, σ => setAll is ds σ
  | _, _, _ => none
def wipeD (σ : List Sl) : List Nat → List Sl
  | [] => σ
  | v :: vs => (wipeD σ vs).set v .no
def seqD : D → Option (List D)
  | .lst xs => some xs
  | .scr xs => some (xs.map .int)
  | .tup xs => some xs
  | .str x => some (x.map fun c => .str [c])
  | _ => none
def rngD (lo : Int) : Nat → List D
  | 0 => []
  | n + 1 => .int lo :: rngD (lo + 1) n
def okR (i : Int) : Bool := decide (-(2 ^ 62) ≤ i) && decide (i < 2 ^ 62)
def enumD (k : Nat) : List D → List D
  | [] => []
  | d :: r => .tup [.int k, d] :: enumD (k + 1) r
def zipD : List D → List D → List D
  | a :: r, b :: s => .tup [a, b] :: zipD r s
  | _, _ => []
def getO (σ : List Sl) (i : Nat) : Option (List D) := match σ[i]? with | some (.o (.lst ds)) => some ds | _ => none
def getOd (σ : List Sl) (i : Nat) : Option (List D × List D) := match σ[i]? with | some (.o (.dct ks vs)) => some (ks, vs) | _ => none
def getOi (σ : List Sl) (i : Nat) : Option (Str × List Str × List D) := match σ[i]? with | some (.o (.ins c ns vs)) => some (c, ns, vs) | _ => none
def getV (σ : List Sl) (i : Nat) : Option D := match σ[i]? with | some (.v d) => some d | _ => none
def lcL (t : T) (c e : List Sl → Option D) (σ : List Sl) : List D → Option (List D)
  | [] => some []
  | d :: ds => (setT t d σ).bind fun σ1 => ((c σ1).bind truth).bind fun b =>
      bif b then (e σ1).bind fun x => (lcL t c e σ ds).map (x :: ·) else lcL t c e σ ds
def distinctK : List (Option Key) → Bool
  | [] => true
  | none :: _ => false
  | k :: r => (r.all fun j => decide (j ≠ k)) && distinctK r
mutual
/-- lists, tuples, dicts of flat items, nested less than n deep -/
def D.deep : D → Nat → Bool
  | .non, _ => true
  | .bl _, _ => true
  | .int _, _ => true
  | .str _, _ => true
  | .lst ds, n => (match n with | 0 => false | n + 1 => D.deepL ds n)
  | .tup ds, n => (match n with | 0 => false | n + 1 => D.deepL ds n)
  | .dct ks ds, n => (match n with | 0 => false | n + 1 => distinctK (ks.map D.key) && D.deepL ds n)
  | .ins _ _ _, _ => false
  | .scr _, _ => false
def D.deepL : List D → Nat → Bool
  | [], _ => true
  | d :: ds, n => D.deep d n && D.deepL ds n
end
def sameD : D → D → Option D
  | .lst xs, .lst ys => if D.beqL xs ys && D.deepL xs 40 then some (.bl true) else none
  | _, _ => none
def dctD (ks vs : List D) : Option D := if ks.length = vs.length && decide (ks.length ≤ 15) && distinctK (ks.map D.key) then some (.dct ks vs) else none

def evens : List D → List D
  | a :: _ :: r => a :: evens r
  | _ => []
def odds : List D → List D
  | _ :: b :: r => b :: odds r
  | _ => []
/-- what stands fast for a def: its callees by number, the module's constants by number -/
structure Sm where
  F : Nat → List D → Option D
  C : Nat → Option D
  /-- fields that no class has as its own, methods, properties (by class) -/
  L : List (Str × Str) := []
  M : List (Str × Str × Nat) := []
  P : List (Str × Str × Nat) := []
  /-- classes whose instances may be asked for a built-in type -/
  K : List Str := []
def findM : List (Str × Str × Nat) → Str → Str → Option Nat
  | (c, m, k) :: r, c', m' => if c = c' ∧ m = m' then some k else findM r c' m'
  | [], _, _ => none

mutual
def evE (Z : Sm) : E → List Sl → Option D
  | .c d, _ => some d
  | .v i, σ => getV σ i
  | .g k, _ => Z.C k
  | .bin o a b, σ => (evE Z a σ).bind fun x => (evE Z b σ).bind fun y => binD o x y
  | .neg a, σ => (evE Z a σ).bind fun x => (intD x).map fun i => .int (-i)
  | .not a, σ => ((evE Z a σ).bind truth).map fun b => .bl (!b)
  | .and a b, σ => ((evE Z a σ).bind blD).bind fun k => bif k then evE Z b σ else some (.bl false)
  | .or a b, σ => ((evE Z a σ).bind blD).bind fun k => bif k then some (.bl true) else evE Z b σ
  | .last a, σ => evE Z a σ
  | .cmp o a b, σ => (evE Z a σ).bind fun x => (evE Z b σ).bind fun y => (cmpX o x y).map .bl
  | .chain o p a b c, σ => (evE Z a σ).bind fun x => (evE Z b σ).bind fun y => (cmpD o x y).bind fun k => bif k then (evE Z c σ).bind fun z => (cmpD p y z).map .bl else some (.bl false)
  | .ite t a b, σ => ((evE Z t σ).bind truth).bind fun k => bif k then evE Z a σ else evE Z b σ
  | .tup es, σ => (evL Z es σ).bind fun ds => if ds.length ≤ line then some (.tup ds) else none
  | .lst es, σ => (evL Z es σ).bind fun ds => if ds.length ≤ line then some (.lst ds) else none
  | .dct es, σ => (evL Z es σ).bind fun ds => dctD (evens ds) (odds ds)
  | .ix a b, σ => (evE Z a σ).bind fun x => (evE Z b σ).bind fun y => ixX x y
  | .nil, _ => none
  | .sl a lo hi, σ => (evE Z a σ).bind fun x => (evP Z lo σ).bind fun l => (evP Z hi σ).bind fun h => slD l h x
  | .call f es, σ => (evL Z es σ).bind fun ds => Z.F f ds
  | .blt f es, σ => (evL Z es σ).bind fun ds => bltD f ds
  | .isi a ts _, σ => (evE Z a σ).bind fun x => if isIns x then insI Z.K x else some (.bl (ts.any (isi1 x)))
  | .ixo i a, σ => (getO σ i).bind fun xs => ((evE Z a σ).bind intD).bind fun k => atI xs k
  | .leno i, σ => (getO σ i).map fun xs => .int xs.length
  | .lc own t it c e, σ => (evI Z it σ).bind fun ds => if ds.length ≤ line then (lcL t (evE Z c) (evE Z e) (wipeD σ (own.map fun p => p.2)) ds).map .lst else none
  | .callK f _ perm es, σ => (evL Z es σ).bind fun ds => Z.F f (permL perm ds)
  | .mk f es, σ => (evL Z es σ).bind fun ds => Z.F f ds
  | .fld a f, σ => (evE Z a σ).bind fun x => match x with
    | .ins c ns vs => if (c, f) ∈ Z.L then fldOf ns vs f else none
    | _ => none
  | .mth a m es, σ => (evE Z a σ).bind fun x => (evL Z es σ).bind fun ds => match x with
    | .ins c ns vs => if m ∈ ns then none else (findM Z.M c m).bind fun k => Z.F k (x :: ds)
    | _ => none
  | .prp a f, σ => (evE Z a σ).bind fun x => match x with
    | .ins c _ _ => (findM Z.P c f).bind fun k => Z.F k [x]
    | _ => none
  | .join a b, σ => (evE Z a σ).bind fun x => (evE Z b σ).bind fun y => joinD x y
  | .sidx a b, σ => (evE Z a σ).bind fun x => (evE Z b σ).bind fun y => sidxD x y
  | .dget a b, σ => (evE Z a σ).bind fun x => (evE Z b σ).bind fun y => getD' x y
  | .ino neg a i, σ => (evE Z a σ).bind fun x => (D.key x).bind fun q => (getOd σ i).map fun kv => .bl ((dlook kv.1 kv.2 q).isSome != neg)
  | .same a b, σ => (evE Z a σ).bind fun x => (evE Z b σ).bind fun y => sameD x y
  | .u1 o a, σ => (evE Z a σ).bind fun x => u1D o x
  | .seq _, _ => none
  | .r1 _, _ => none
  | .r2 _ _, _ => none
  | .enum _, _ => none
  | .zip _ _, _ => none
def evP (Z : Sm) : E → List Sl → Option (Option Int)
  | .nil, _ => some none
  | .last e, σ => (evE Z e σ).bind fun d => (intD d).map some
  | _, _ => none
def evI (Z : Sm) : E → List Sl → Option (List D)
  | .seq e, σ => (evE Z e σ).bind seqD
  | .r1 a, σ => ((evE Z a σ).bind intD).bind fun i => if okR i then some (rngD 0 i.toNat) else none
  | .r2 a b, σ => ((evE Z a σ).bind intD).bind fun i => ((evE Z b σ).bind intD).bind fun j => if okR i && okR j then some (rngD i (j - i).toNat) else none
  | .enum a, σ => (evE Z a σ).bind fun x => match x with | .lst ds => some (enumD 0 ds) | .tup ds => some (enumD 0 ds) | _ => none
  | .zip a b, σ => (evE Z a σ).bind fun x => (evE Z b σ).bind fun y => match x, y with | .lst ds, .lst es => some (zipD ds es) | .tup ds, .tup es => some (zipD ds es) | .str ds, .str es => some (zipD (ds.map fun c => .str [c]) (es.map fun c => .str [c])) | _, _ => none
  | _, _ => none
def evL (Z : Sm) : List E → List Sl → Option (List D)
  | [], _ => some []
  | e :: es, σ => (evE Z e σ).bind fun d => (evL Z es σ).map (d :: ·)
end

inductive Out where
  | nx (σ : List Sl) | rt (d : D) | bk (σ : List Sl) | ct (σ : List Sl)
def frzD (σ : List Sl) (i : Nat) : List Sl := match σ[i]? with | some (.o d) => σ.set i (.v d) | _ => σ
def forL (t : T) (f : List Sl → Option Out) : List D → List Sl → Option Out
  | [], σ => some (.nx σ)
  | d :: ds, σ => (setT t d σ).bind fun σ1 => (f σ1).bind fun o => match o with
    | .nx σ2 => forL t f ds σ2
    | .ct σ2 => forL t f ds σ2
    | .bk σ2 => some (.nx σ2)
    | .rt d => some (.rt d)
def whlL (c : List Sl → Option D) (f : List Sl → Option Out) : Nat → List Sl → Option Out
  | 0, _ => none
  | n + 1, σ => ((c σ).bind truth).bind fun b => bif b then (f σ).bind fun o => match o with
      | .nx σ2 => whlL c f n σ2
      | .ct σ2 => whlL c f n σ2
      | .bk σ2 => some (.nx σ2)
      | .rt d => some (.rt d)
    else some (.nx σ)
mutual
def evS (Z : Sm) : S → List Sl → Option Out
  | .asg t e, σ => (evE Z e σ).bind fun d => (setT t d σ).map .nx
  | .own i es, σ => (evL Z es σ).bind fun ds => if ds.length ≤ line then some (.nx (σ.set i (.o (.lst ds)))) else none
  | .frz i, σ => some (.nx (frzD σ i))
  | .app i e, σ => (evE Z e σ).bind fun d => (getO σ i).bind fun xs => if xs.length < line then some (.nx (σ.set i (.o (.lst (xs ++ [d]))))) else none
  | .ret e, σ => (evE Z e σ).map .rt
  | .retN, _ => some (.rt .non)
  | .pass, σ => some (.nx σ)
  | .brk, σ => some (.bk σ)
  | .cont, σ => some (.ct σ)
  | .ifs t a b, σ => ((evE Z t σ).bind truth).bind fun k => bif k then evSs Z a σ else evSs Z b σ
  | .for_ t it b, σ => (evI Z it σ).bind fun ds => forL t (evSs Z b) ds σ
  | .whl n t b, σ => whlL (evE Z t) (evSs Z b) n σ
  | .never, _ => none
  | .setf i f e, σ => (evE Z e σ).bind fun d => (getOi σ i).bind fun o => if (o.1, f) ∈ Z.L ∧ o.2.1.length < 1000 then some (.nx (σ.set i (.o (.ins o.1 (putN o.2.1 o.2.2 f) (putV o.2.1 o.2.2 f d))))) else none
  | .newd i, σ => some (.nx (σ.set i (.o (.dct [] []))))
  | .put i k e, σ => (evE Z e σ).bind fun d => (evE Z k σ).bind fun x => (D.key x).bind fun q => (getOd σ i).bind fun kv => if kv.1.length < line then some (.nx (σ.set i (.o (.dct (dputK kv.1 q x) (dputV kv.1 kv.2 q d))))) else none
  | .seti i k e, σ => (evE Z e σ).bind fun d => ((evE Z k σ).bind intD).bind fun j => (getO σ i).bind fun xs => (ixN xs.length j).map fun n => .nx (σ.set i (.o (.lst (xs.set n d))))
def evSs (Z : Sm) : List S → List Sl → Option Out
  | [], σ => some (.nx σ)
  | s :: r, σ => (evS Z s σ).bind fun o => match o with
    | .nx σ2 => evSs Z r σ2
    | .rt d => some (.rt d)
    | .bk σ2 => some (.bk σ2)
    | .ct σ2 => some (.ct σ2)
end
def startD (m : Nat) (ds : List D) : List Sl := ds.map Sl.v ++ List.replicate (m - ds.length) Sl.no
def endD : Out → Option D
  | .rt d => some d
  | .nx _ => some .non
  | _ => none
/-- a def's value: k parameters, m slots -/
def evF (Z : Sm) (b : List S) (k m : Nat) (ds : List D) : Option D := if ds.length = k then (evSs Z b (startD m ds)).bind endD else none
/-- an __init__'s value: the instance (class c) that it makes -/
def evI0 (c : Str) (Z : Sm) (b : List S) (k m : Nat) (ds : List D) : Option D := if ds.length + 1 = k then (evSs Z b (.o (.ins c [] []) :: startD (m - 1) ds)).bind fun o => match o with
  | .nx (.o d :: _) => some d
  | _ => none
  else none
end Pv

set_option Elab.async false
set_option linter.all false
set_option maxRecDepth 100000
set_option maxHeartbeats 4000000

namespace Pv
open PySem PySem.Spec L2

/-! ### what may be run: readings chosen where they are used -/
def TU (X : Cx) (e : Expr) : TE := fun σ H Q => ∃ t, PE X e t ∧ t σ H Q
def TUt (X : Cx) (e : Expr) : TT := fun σ H Q => ∃ t, PT X e t ∧ t σ H Q
def TUw (X : Cx) (e : Expr) : TT := fun σ H Q => ∃ t, PW X e t ∧ t σ H Q
def TUa (X : Cx) (es : List Expr) : TA := fun σ H Q => ∃ t, PA X es t ∧ t σ H Q
def TUi (X : Cx) (tg e : Expr) : TI := fun σ H R => ∃ t, PI X tg e t ∧ t σ H R
def TUg (X : Cx) (tg : Expr) : TG := fun v σ H Q => ∃ t, PG X tg t ∧ t v σ H Q
def TUgs (X : Cx) (tgs : List Expr) : TGs := fun vs σ H Q => ∃ t, PGs X tgs t ∧ t vs σ H Q
def TUts (X : Cx) (es : List Expr) : TT := fun σ H Q => ∃ t, PTs X es t ∧ t σ H Q
def TUs (X : Cx) (s : Stmt) : TS := fun D σ H => ∃ t, PS X s t ∧ t D σ H
def TUss (X : Cx) (s : List Stmt) : TS := fun D σ H => ∃ t, PSs X s t ∧ t D σ H
section
variable {X : Cx}
theorem pe_tu {e : Expr} : PE X e (TU X e) := ⟨fun pins s σ H Q I ⟨_, p, h⟩ => p.run pins s σ H Q I h⟩
theorem pt_tu {e : Expr} : PT X e (TUt X e) := ⟨fun pins s σ H Q I ⟨_, p, h⟩ => p.run pins s σ H Q I h⟩
theorem pw_tu {e : Expr} : PW X e (TUw X e) := ⟨fun w pins s σ H Q I ⟨_, p, h⟩ => p.run w pins s σ H Q I h⟩
theorem pa_tu {e : List Expr} : PA X e (TUa X e) := ⟨fun pos pins s σ H Q I ⟨_, p, h⟩ => p.run pos pins s σ H Q I h⟩
theorem pi_tu {tg e : Expr} : PI X tg e (TUi X tg e) := ⟨fun pins s σ H R I ⟨_, p, h⟩ => p.run pins s σ H R I h⟩
theorem pg_tu {e : Expr} : PG X e (TUg X e) := ⟨fun pins s σ H v u Q I r ⟨_, p, h⟩ => p.run pins s σ H v u Q I r h⟩
theorem pgs_tu {e : List Expr} : PGs X e (TUgs X e) := ⟨fun pins s σ H v u Q I r ⟨_, p, h⟩ => p.run pins s σ H v u Q I r h⟩
theorem pts_tu {e : List Expr} : PTs X e (TUts X e) := ⟨fun pins s σ H Q I ⟨_, p, h⟩ => p.run pins s σ H Q I h⟩
theorem ps_tu {e : Stmt} : PS X e (TUs X e) := ⟨fun pins s σ H D I ⟨_, p, h⟩ => p.run pins s σ H D I h⟩
theorem pss_tu {e : List Stmt} : PSs X e (TUss X e) := ⟨fun pins s σ H D I ⟨_, p, h⟩ => p.run pins s σ H D I h⟩
def UOp (X : Cx) (f : Value → Value → Sem Value) : R2 := fun x y H Q => ∃ r, OpR X f r ∧ r x y H Q
theorem opR_u {f : Value → Value → Sem Value} : OpR X f (UOp X f) := fun pins s σ H x y v u Q I rx ry ⟨_, p, h⟩ => p pins s σ H x y v u Q I rx ry h
def UIx (X : Cx) : R2 := fun x y H Q => ∃ r, IxR X r ∧ r x y H Q
theorem ixR_u : IxR X (UIx X) := fun value slice pins s σ H x y v u Q I rx ry ⟨_, p, h⟩ e => p value slice pins s σ H x y v u Q I rx ry h e
def UCall (X : Cx) (f : Value) : List V → Hp → VK → Prop := fun xs H Q => ∃ r, CallR X f r ∧ r xs H Q
theorem callR_u {f : Value} : CallR X f (UCall X f) := fun pins s σ H xs us Q I r ⟨_, p, h⟩ => p pins s σ H xs us Q I r h
def USl (X : Cx) : V → Option Int → Option Int → Hp → VK → Prop := fun x l h H Q => ∃ r, SlR X r ∧ r x l h H Q
theorem slR_u : SlR X (USl X) := fun pins s σ H x v vl vu lo hi sl Q I rx hs pl pu ⟨_, p, h⟩ => p pins s σ H x v vl vu lo hi sl Q I rx hs pl pu h
end

/-! ### what stands fast -/
structure Stat where
  N : List Str
  Z : Sm
  fns : List (Nat × Str)
  cns : List (Nat × Str)
  bl : List Str
  gcd : Bool
  lv : Nat
  /-- calls by keywords alone: callee, its name, the keywords, the places of the parameters among them -/
  kws : List (Nat × Str × List Str × List Nat) := []
  /-- classes made -/
  mks : List (Nat × Str) := []
def spF (K : PySem.W.Frag) (F : List D → Option D) : Sp := fun vs H Q _ => ∃ ds d G, Sub G H ∧ DenL K G ds vs ∧ F ds = some d ∧
  ∀ v G' H', Sub H H' → Sub G G' → Sub G' H' → (∀ a o, H a = some o → G' a = G a) → Den K G' d v → Q v H'
structure FnAt (P : Program) (w : World) (K : PySem.W.Frag) (mg : Str → Option Value) (base : Heap) (lv : Nat) (x : Str) (F : List D → Option D) : Prop where
  ex : ∃ (f : Addr) (fd : FuncData) (ps : List Str), mg x = some (.ref f) ∧ PySem.W.keepIn K (.ref f) = true ∧ Binds K fd ps [] ∧ FnOk P w K mg base CX0 lv f fd ps (spF K F)
/-- the promise of an __init__ of the class c: from data to the instance -/
def spI (K : PySem.W.Frag) (c : Str) (F : List D → Option D) : Sp := fun vs H Q _ => ∃ x C dx us ds ns fs G, vs = .ref x :: us ∧ H x = some (.ins C dx []) ∧ PySem.W.nsIn K mainGlobals c = some (some (.ref C)) ∧ Sub G H ∧ G x = none ∧ DenL K G ds us ∧ F ds = some (.ins c ns fs) ∧
  ∀ o G' H', (∀ a u, a ≠ x → H a = some u → H' a = some u) → H' x = some o → Sub G G' → Sub G' H' → (∀ a u, a ≠ x → H a = some u → G' a = G a) → G' x = some o → DenO K G' (.ins c ns fs) o → Q .non H'
structure MtAt (P : Program) (w : World) (K : PySem.W.Frag) (mg : Str → Option Value) (base : Heap) (lv : Nat) (c m : Str) (F : List D → Option D) : Prop where
  ex : ∃ (C f : Addr) (fd : FuncData) (ps : List Str), PySem.W.nsIn K mainGlobals c = some (some (.ref C)) ∧ Cls K C ∧ Meth K C m f ∧ Binds K fd ps [] ∧ FnOk P w K mg base CX0 lv f fd ps (spF K F)
structure PrAt (P : Program) (w : World) (K : PySem.W.Frag) (mg : Str → Option Value) (base : Heap) (lv : Nat) (c m : Str) (F : List D → Option D) : Prop where
  ex : ∃ (C p f : Addr) (fd : FuncData) (ps : List Str) (k : Nat), k + 1 ≤ lv ∧ PySem.W.nsIn K mainGlobals c = some (some (.ref C)) ∧ Cls K C ∧ PropOf K C m p f ∧ Binds K fd ps [] ∧ FnOk P w K mg base CX0 k f fd ps (spF K F)
structure MkAt (P : Program) (w : World) (K : PySem.W.Frag) (mg : Str → Option Value) (base : Heap) (lv : Nat) (c : Str) (F : List D → Option D) : Prop where
  ex : ∃ (C f : Addr) (fd : FuncData) (ps : List Str) (k : Nat), k + 1 ≤ lv ∧ PySem.W.nsIn K mainGlobals c = some (some (.ref C)) ∧ mg c = some (.ref C) ∧ Mk K C f ∧ Binds K fd ps [] ∧ FnOk P w K mg base CX0 k f fd ps (spI K c F) ∧ ∀ ds d, F ds = some d → ∃ ns fs, d = .ins c ns fs
structure KwAt (P : Program) (w : World) (K : PySem.W.Frag) (mg : Str → Option Value) (base : Heap) (lv : Nat) (x : Str) (ks : List Str) (perm : List Nat) (F : List D → Option D) : Prop where
  ex : ∃ (f : Addr) (fd : FuncData) (ps : List Str) (g : List Value → List Value → List Value) (gV : List V → List V → List V), mg x = some (.ref f) ∧ PySem.W.keepIn K (.ref f) = true ∧ KBn K fd ps 0 ks g gV ∧ (∀ zs, gV [] zs = perm.filterMap (zs[·]?)) ∧ FnOk P w K mg base CX0 lv f fd ps (spF K F)
structure FdAt (K : PySem.W.Frag) (c f : Str) : Prop where
  ex : ∃ C, PySem.W.nsIn K mainGlobals c = some (some (.ref C)) ∧ Cls K C ∧ NoAttr K C f
/-- an own class, no built-in type among its bases but object -/
structure ClAt (K : PySem.W.Frag) (c : Str) : Prop where
  ex : ∃ C, PySem.W.nsIn K mainGlobals c = some (some (.ref C)) ∧ Cls K C ∧ PySem.W.findIn K (.ref C) "__class__" = some (some (.builtin "object.__class__")) ∧ PySem.W.specialIn K (.builtin "object.__class__") "__get__" = some (some (.builtin "getset_descriptor.__get__")) ∧
    PySem.W.takesIn K (.builtin "object.__class__") = some true ∧ PySem.W.mroIn K C (.type "object") = some true ∧ PySem.W.kitOne K (.ref C) (.type "int") = some false ∧ PySem.W.kitOne K (.ref C) (.type "bool") = some false ∧ PySem.W.kitOne K (.ref C) (.type "str") = some false ∧
    PySem.W.kitOne K (.ref C) (.type "tuple") = some false ∧ PySem.W.kitOne K (.ref C) (.type "list") = some false ∧ PySem.W.kitOne K (.ref C) (.type "dict") = some false
structure XOk (Y : Stat) (sc : Scope) (fc : Str → Bool) (X : Cx) : Prop where
  calm : X.calm = true
  nd : X.N.Nodup
  eN : X.N = Y.N
  sc : X.env.scope = sc
  room : Room Y.lv X.A
  xe : X.xe = fun _ _ => False
  fn : ∀ x, fc x = true → X.fn x = true
  fns : ∀ i x, (i, x) ∈ Y.fns → FnAt X.prog X.w X.K X.mg X.base Y.lv x (Y.Z.F i)
  cns : ∀ k x, (k, x) ∈ Y.cns → ∃ u v d, X.mg x = some u ∧ RelV v u ∧ Y.Z.C k = some d ∧ ∀ G, Den X.K G d v
  bl : ∀ x ∈ Y.bl, X.mg x = none
  gcd : Y.gcd = true → X.mg "gcd" = some (.builtin "math.gcd")
  fld : ∀ c f, (c, f) ∈ Y.Z.L → FdAt X.K c f
  mth : ∀ c m k, findM Y.Z.M c m = some k → MtAt X.prog X.w X.K X.mg X.base Y.lv c m (Y.Z.F k)
  prp : ∀ c m k, findM Y.Z.P c m = some k → PrAt X.prog X.w X.K X.mg X.base Y.lv c m (Y.Z.F k)
  mks : ∀ k c, (k, c) ∈ Y.mks → MkAt X.prog X.w X.K X.mg X.base Y.lv c (Y.Z.F k)
  cl : ∀ c ∈ Y.Z.K, ClAt X.K c
  kws : ∀ k x ks perm, (k, x, ks, perm) ∈ Y.kws → KwAt X.prog X.w X.K X.mg X.base Y.lv x ks perm (Y.Z.F k)
section
variable {Y : Stat} {sc : Scope} {fc : Str → Bool} {X : Cx}
theorem XOk.gl (ok : XOk Y sc fc X) {x : Str} (h : sc.names.lookup x = some .globalImplicit) : Gl X x := by
  show X.env.scope.names.lookup x = _
  rw [ok.sc]; exact h
theorem XOk.vis (ok : XOk Y sc fc X) {x : Str} (h : Vis sc x) : Vis X.env.scope x := by rw [ok.sc]; exact h
theorem XOk.loc (ok : XOk Y sc fc X) {x : Str} (h : Loc sc x) : Loc X.env.scope x := by rw [ok.sc]; exact h
theorem XOk.hf (ok : XOk Y sc fc X) {x : Str} (h : (fc x || decide (sc.names.lookup x = some .local)) = true) : X.fn x = true ∨ X.env.scope.names.lookup x = some .local := by
  rw [Bool.or_eq_true, decide_eq_true_eq] at h
  rcases h with h | h
  · exact .inl (ok.fn x h)
  · right; rw [ok.sc]; exact h
theorem XOk.never (ok : XOk Y sc fc X) : PassesOwn (model X.prog X.w) X.A X.env X.xe := by
  rw [ok.xe]; exact PassesOwn.never
theorem XOk.blk (ok : XOk Y sc fc X) {s : Shared} {H : Hp} {scope : Scope} {cl : List (Str × Addr)} {C : Addr} {fp : List Addr} :
    XOk Y (relS scope sc) (fun x => scope.names.lookup x == some .cell) (X.blk s H scope (compEnvC scope cl C X.env) fp) := by
  refine ⟨ok.calm, ok.nd, ok.eN, ?_, ok.room, rfl, fun x h => h, ok.fns, ok.cns, ok.bl, ok.gcd, ok.fld, ok.mth, ok.prp, ok.mks, ok.cl, ok.kws⟩
  show relS scope X.env.scope = relS scope sc
  rw [ok.sc]
end

/-! ### the judgements -/
section
variable (K : PySem.W.Frag) (H0 G0 G W : Hp)
def EQ (d : D) (Q : VK) : Prop := ∀ v G' H', Sub G G' → Wd H0 G0 G' W H' → Den K G' d v → Q v H'
def BQ (b : Bool) (Q : Bool → Hp → Prop) : Prop := ∀ G' H', Sub G G' → Wd H0 G0 G' W H' → Q b H'
def AQ (ds : List D) (Q : List V → Hp → Prop) : Prop := ∀ vs G' H', Sub G G' → Wd H0 G0 G' W H' → DenL K G' ds vs → Q vs H'
end
section
variable (Y : Stat) (sc : Scope) (fc : Str → Bool)
structure SE (e : Expr) (f : List Sl → Option D) : Prop where
  run : ∀ X, XOk Y sc fc X → ∀ H0 G0 G W H τ σ d, Wd H0 G0 G W H → SlOk X.K G W τ σ → f τ = some d → ∀ Q, EQ X.K H0 G0 G W d Q → TU X e σ H Q
structure ST (e : Expr) (f : List Sl → Option Bool) : Prop where
  run : ∀ X, XOk Y sc fc X → ∀ H0 G0 G W H τ σ b, Wd H0 G0 G W H → SlOk X.K G W τ σ → f τ = some b → ∀ Q, BQ H0 G0 G W b Q → TUt X e σ H Q
structure SW (e : Expr) (f : List Sl → Option Bool) : Prop where
  run : ∀ X, XOk Y sc fc X → ∀ H0 G0 G W H τ σ b, Wd H0 G0 G W H → SlOk X.K G W τ σ → f τ = some b → ∀ Q, BQ H0 G0 G W b Q → TUw X e σ H Q
structure SA (es : List Expr) (f : List Sl → Option (List D)) : Prop where
  run : ∀ X, XOk Y sc fc X → ∀ H0 G0 G W H τ σ ds, Wd H0 G0 G W H → SlOk X.K G W τ σ → f τ = some ds → ∀ Q, AQ X.K H0 G0 G W ds Q → TUa X es σ H Q
structure SI (tg e : Expr) (f : List Sl → Option (List D)) : Prop where
  run : ∀ X, XOk Y sc fc X → ∀ H0 G0 G W H τ σ ds, Wd H0 G0 G W H → SlOk X.K G W τ σ → f τ = some ds → ∀ R : L2.It → Hp → Prop,
    (∀ J n Gp Yp G' H', Sub G G' → Wd H0 G0 G' W H' → Walk J n Gp Yp → n = ds.length → (∀ H'', Sub G' H'' → Gp H'') →
      (∀ i H1 x H2 G1 W1, i < n → Sub G' G1 → Wd H0 G0 G1 W1 H1 → Yp i H1 x H2 → ∃ G2 d, Sub G1 G2 ∧ Wd H0 G0 G2 W1 H2 ∧ ds[i]? = some d ∧ Den X.K G2 d x) → R J H') → TUi X tg e σ H R
def tixs : T → List Nat
  | .nm i => [i]
  | .tp is => is
structure SG (tg : Expr) (t : T) : Prop where
  run : ∀ X, XOk Y sc fc X → ∀ H0 G0 G W H τ σ d v τ', Wd H0 G0 G W H → SlOk X.K G W τ σ → Den X.K G d v → setT t d τ = some τ' → ∀ Q : L2.St → Hp → Prop,
    (∀ σ', SlOk X.K G W τ' σ' → (∀ vs, (∀ i ∈ tixs t, i ∈ vs) → wipe σ' vs = wipe σ vs) → Q σ' H) → TUg X tg v σ H Q
def OQ (K : PySem.W.Frag) (H0 G0 G : Hp) (o : Out) (D : Ends) : Prop := match o with
  | .nx τ => ∀ σ G' W' H', Sub G G' → Wd H0 G0 G' W' H' → SlOk K G' W' τ σ → D.nx σ H'
  | .bk τ => ∀ σ G' W' H', Sub G G' → Wd H0 G0 G' W' H' → SlOk K G' W' τ σ → D.bk σ H'
  | .ct τ => ∀ σ G' W' H', Sub G G' → Wd H0 G0 G' W' H' → SlOk K G' W' τ σ → D.ct σ H'
  | .rt d => ∀ v G' W' H', Sub G G' → Wd H0 G0 G' W' H' → Den K G' d v → D.rt v H'
structure SS (s : Stmt) (f : List Sl → Option Out) : Prop where
  run : ∀ X, XOk Y sc fc X → ∀ H0 G0 G W H τ σ o, Wd H0 G0 G W H → SlOk X.K G W τ σ → f τ = some o → ∀ D, OQ X.K H0 G0 G o D → TUs X s D σ H
structure SSs (s : List Stmt) (f : List Sl → Option Out) : Prop where
  run : ∀ X, XOk Y sc fc X → ∀ H0 G0 G W H τ σ o, Wd H0 G0 G W H → SlOk X.K G W τ σ → f τ = some o → ∀ D, OQ X.K H0 G0 G o D → TUss X s D σ H
end

/-! ### syntax -/
def notStar : Expr → Bool
  | .Starred .. => false
  | _ => true
def notComp : Expr → Bool
  | .ListComp .. => false | .SetComp .. => false | .DictComp .. => false
  | _ => true
def notSet : Expr → Bool
  | .Set .. => false
  | _ => true
def notSlice : Expr → Bool
  | .Slice .. => false
  | _ => true
/-- its test is its value's truth -/
def plainTest : Expr → Bool
  | .UnaryOp .. => false | .BoolOp .. => false | .IfExp .. => false | .Compare .. => false
  | _ => true
theorem star_cons {e : Expr} {es : List Expr} {env : Env} (h : notStar e = true) : starEach (e :: es) env = (false, eval e env) :: starEach es env := by
  cases e <;> first | rfl | simp [notStar] at h
theorem star_any {env : Env} {pos : Pos} : ∀ {es : List Expr}, es.all notStar = true → (backTo pos (starEach es env)).any (·.1) = false
  | [], _ => rfl
  | e :: es, h => by
    simp only [List.all_cons, Bool.and_eq_true] at h
    rw [star_cons h.1]
    have := star_any (env := env) (pos := pos) h.2
    simpa [backTo] using this
theorem swaps_no {e : Expr} {t : Option Expr} {l : Nat} {env : Env} (h : notComp e = true) : swapsWith e t l env = pure false := by
  cases e <;> first | rfl | simp [notComp] at h
theorem behind_no {op : CmpOp} {e : Expr} (h : notSet e = true) : behindInMarks op e = false := by
  cases e <;> first | rfl | simp [notSet] at h
theorem folded_no {e : Expr} {env : Env} (h : notSet e = true) (x : Value) : foldedSetIterable e env x = pure x := by
  cases e <;> first | rfl | simp [notSet] at h
theorem plainIx_of {e : Expr} (h : notSlice e = true) : PlainIx e := by
  intro o i
  cases e <;> first | rfl | simp [notSlice] at h
theorem isTrue_of {e : Expr} {env : Env} (h : plainTest e = true) : ∀ whole, isTrue e env whole = (do let v ← whole; standAt e.pos; holding [v] (truthy v)) := by
  intro whole
  cases e <;> first | rfl | simp [plainTest] at h
end Pv

set_option Elab.async false
set_option linter.all false
set_option maxRecDepth 100000
set_option maxHeartbeats 4000000

namespace Pv
open PySem PySem.Spec L2

theorem mkS_len (x : List Nat) : (mkS x).length = x.length := by simp [Str.length]
theorem mkS_app (x y : List Nat) : mkS x ++ mkS y = mkS (x ++ y) := by
  show Str.append _ _ = _
  unfold Str.append
  simp
theorem line_eq : line = sizeLine := sizeLine_eq.symm
theorem le_line {n : Nat} (h : n ≤ line) : n ≤ sizeLine := by rw [← line_eq]; exact h
theorem lt_line {n : Nat} (h : n < line) : n < sizeLine := by rw [← line_eq]; exact h

def opB : BO → Operator
  | .add => .Add | .sub => .Sub | .mul => .Mult | .fdiv => .FloorDiv | .mod => .Mod | .pow => .Pow
def opC : CO → CmpOp
  | .lt => .Lt | .le => .LtE | .gt => .Gt | .ge => .GtE | .eq => .Eq | .ne => .NotEq | .is => .Is | .isnot => .IsNot | .isin => .In | .notin => .NotIn
def CDivA (_ j : Int) : Prop := j ≠ 0 ∧ j.natAbs.log2 < 9000
theorem op_fdivA {X : Cx} : OpR X (binaryOp .FloorDiv) (rI CDivA fun i j => .int (i.fdiv j)) := opI fun i j _ _ _ _ _ hc q => PyProof.Rows.floordiv_int hc.1 q (.inl (PyProof.noPylong_of_log2 hc.2))

theorem repOk_of {n : Nat} {k : Int} (h : repOk n k = true) : -(2 ^ 62) ≤ k ∧ k < 2 ^ 62 ∧ n * k.toNat ≤ line := by simpa [repOk, and_assoc] using h
theorem DenL.rep {K : PySem.W.Frag} {G : Hp} {ds : List D} {vs : List V} (h : DenL K G ds vs) : ∀ n : Nat, DenL K G (List.replicate n ds).flatten (List.replicate n vs).flatten
  | 0 => by simp only [List.replicate_zero, List.flatten_nil, DenL]
  | n + 1 => by
    rw [List.replicate_succ, List.replicate_succ, List.flatten_cons, List.flatten_cons]
    exact h.append (DenL.rep h n)
theorem fold_app {α : Type} (x : Array α) : ∀ (n : Nat) (a : Array α), ((List.replicate n x).foldl (· ++ ·) a).toList = a.toList ++ (List.replicate n x.toList).flatten
  | 0, a => by simp
  | n + 1, a => by
    rw [List.replicate_succ, List.foldl_cons, fold_app x n, List.replicate_succ, List.flatten_cons]
    simp
/-- text * int -/
theorem op_repS {X : Cx} : OpR X (binaryOp .Mult) (fun x y H Q => ∃ (a : List Nat) (k : Int), x = .str (mkS a) ∧ y = .int k ∧ -(2 ^ 62) ≤ k ∧ k < 2 ^ 62 ∧ a.length * k.toNat ≤ line ∧ Q (.str (mkS (List.replicate k.toNat a).flatten)) H) := by
  intro pins s σ H x y v u Q I rx ry h
  obtain ⟨a, k, rfl, rfl, h1, h2, h3, q⟩ := h
  obtain ⟨t, rfl⟩ := rx
  obtain ⟨t', rfl⟩ := ry
  have hl3 : (mkS a).length * k.toNat ≤ sizeLine := le_line (by rw [mkS_len]; exact h3)
  have hz := sizeLine_eq
  have hb : ¬ k < 1 → (k == 1 || (mkS a).length == 0) = false → ¬ (((mkS a).length : Int) > (2 ^ 63 - 1) / k) := by
    intro hk hz'
    have e1 : (mkS a).length ≤ (mkS a).length * k.toNat := Nat.le_mul_of_pos_right _ (by omega)
    have e2 : k.toNat ≤ (mkS a).length * k.toNat := Nat.le_mul_of_pos_left _ (by
      rw [Bool.or_eq_false_iff] at hz'
      have := hz'.2
      simp at this
      omega)
    intro hgt
    have h6 : k ≤ 16777216 := by omega
    have h7 : (2 ^ 63 - 1 : Int) / 16777216 ≤ (2 ^ 63 - 1) / k := by
      have e8 : (2 ^ 63 - 1 : Int) / 16777216 * 16777216 ≤ 2 ^ 63 - 1 := by decide
      rw [Int.le_ediv_iff_mul_le (by omega)]
      exact Int.le_trans (Int.mul_le_mul_of_nonneg_left h6 (by decide)) e8
    omega
  refine PySem.P.mul_str (by rw [decide_eq_false (by omega), decide_eq_false (by omega)]; rfl) hb (fun _ _ => by
      exact decide_eq_false (by omega)) ?_
  by_cases hk : k < 1
  · rw [if_pos hk]
    have e : k.toNat = 0 := by omega
    have e2 : mkS (List.replicate k.toNat a).flatten = Str.empty := by rw [e]; rfl
    rw [e2] at q
    exact ⟨by decide, .str Str.empty, H, I.tok _, ⟨_, rfl⟩, q⟩
  · rw [if_neg hk]
    by_cases hc : (k == 1 || (mkS a).length == 0) = true
    · rw [if_pos hc]
      refine ⟨.str (mkS (List.replicate k.toNat a).flatten), H, I, ⟨t, ?_⟩, q⟩
      rw [Bool.or_eq_true] at hc
      rcases hc with hc | hc
      · have e : k = 1 := by simpa using hc
        subst e
        simp
      · have e : a = [] := by
          have : (mkS a).length = 0 := by simpa using hc
          rw [mkS_len] at this
          exact List.eq_nil_of_length_eq_zero this
        subst e
        simp
    · rw [if_neg hc]
      have e : (⟨(List.replicate k.toNat (mkS a).cps).foldl (· ++ ·) #[]⟩ : Str) = mkS (List.replicate k.toNat a).flatten := by
        congr 1
        apply Array.ext'
        rw [fold_app]
        simp
      rw [e]
      exact ⟨le_line (by rw [mkS_len]; simpa [Nat.mul_comm] using h3), .str (mkS (List.replicate k.toNat a).flatten), H, I.tok _, ⟨_, rfl⟩, q⟩
section
variable {X : Cx} {K : PySem.W.Frag} {H0 G0 G W H : Hp}
theorem EQ.here {d : D} {Q : VK} {v : V} (q : EQ K H0 G0 G W d Q) (w : Wd H0 G0 G W H) (h : Den K G d v) : Q v H := q v G H (Sub.refl G) w h
theorem EQ.new {d : D} {Q : VK} {o : HO} (q : EQ K H0 G0 G W d Q) (w : Wd H0 G0 G W H) (h : ∀ p, Den K (upd G p o) d (.ref p)) : ∀ p, H p = none → Q (.ref p) (upd H p o) := fun p hp =>
  q _ _ _ (sub_upd (w.gnone hp)) (w.new hp) (h p)

theorem bin_run {o : BO} {x y d : D} {v u : V} {Q : VK} (h : binD o x y = some d) (hx : Den X.K G x v) (hy : Den X.K G y u) (w : Wd H0 G0 G W H) (q : EQ X.K H0 G0 G W d Q) : UOp X (binaryOp (opB o)) v u H Q := by
  unfold binD at h
  split at h
  · simp only [Den] at hx hy
    subst hx hy
    cases h
    exact ⟨_, op_add, _, _, rfl, rfl, q.here w (by simp only [Den])⟩
  · rename_i a b
    simp only [Den] at hx hy
    subst hx hy
    split at h
    · rename_i hl
      cases h
      refine ⟨_, op_add_str, _, _, rfl, rfl, le_line (by rw [mkS_len, mkS_len]; exact hl), q.here w ?_⟩
      simp only [Den]
      rw [mkS_app]
    · cases h
  · rename_i a b
    simp only [Den] at hx hy
    obtain ⟨p, vs, e1, hp, hvs⟩ := hx
    obtain ⟨p', vs', e2, hp', hvs'⟩ := hy
    subst e1 e2
    split at h
    · rename_i hl
      cases h
      refine ⟨_, op_cat, p, p', vs, vs', rfl, rfl, w.gh _ _ hp, w.gh _ _ hp', le_line (by rw [← hvs.length, ← hvs'.length]; exact hl), ?_⟩
      intro z hz
      refine q _ _ _ (sub_upd (w.gnone hz)) (w.new hz) ?_
      simp only [Den]
      exact ⟨z, _, rfl, upd_same, (hvs.append hvs').mono (sub_upd (w.gnone hz))⟩
    · cases h
  · rename_i a b
    simp only [Den] at hx hy
    obtain ⟨p, vs, e1, hp, hvs⟩ := hx
    obtain ⟨p', vs', e2, hp', hvs'⟩ := hy
    subst e1 e2
    split at h
    · rename_i hl
      cases h
      refine ⟨_, op_catA, p, p', vs, vs', rfl, rfl, sub_t w.gh hp, sub_t w.gh hp', le_line (by rw [← hvs.length, ← hvs'.length]; exact hl), fun e => ?_, fun _ e => ?_, fun _ _ z hz => ?_⟩
      · refine q.here w ?_
        subst e
        have : a = [] := List.eq_nil_of_length_eq_zero (by rw [hvs.length]; rfl)
        subst this
        simp only [Den, List.nil_append]
        exact ⟨_, _, rfl, hp', hvs'⟩
      · refine q.here w ?_
        subst e
        have : b = [] := List.eq_nil_of_length_eq_zero (by rw [hvs'.length]; rfl)
        subst this
        simp only [Den, List.append_nil]
        exact ⟨_, _, rfl, hp, hvs⟩
      · refine q _ _ _ (sub_upd (w.gnone hz)) (w.new hz) ?_
        simp only [Den]
        exact ⟨z, _, rfl, SqT.of upd_same, (hvs.append hvs').mono (sub_upd (w.gnone hz))⟩
    · cases h
  · rename_i a k
    simp only [Den] at hx hy
    obtain ⟨p, vs, e1, hp, hvs⟩ := hx
    subst e1 hy
    split at h
    · rename_i hl
      cases h
      obtain ⟨r1, r2, r3⟩ := repOk_of hl
      refine ⟨_, op_rep, p, k, vs, rfl, rfl, w.gh _ _ hp, by omega, by omega, le_line (by rw [← hvs.length]; exact r3), ?_⟩
      intro z hz
      refine q _ _ _ (sub_upd (w.gnone hz)) (w.new hz) ?_
      simp only [Den]
      exact ⟨z, _, rfl, upd_same, (hvs.rep _).mono (sub_upd (w.gnone hz))⟩
    · cases h
  · rename_i a k
    simp only [Den] at hx hy
    subst hx hy
    split at h
    · rename_i hl
      cases h
      obtain ⟨r1, r2, r3⟩ := repOk_of hl
      exact ⟨_, op_repS, a, k, rfl, rfl, r1, r2, r3, q.here w (by simp only [Den])⟩
    · cases h
  · simp only [Den] at hx hy
    subst hx hy
    cases h
    exact ⟨_, op_sub, _, _, rfl, rfl, q.here w (by simp only [Den])⟩
  · simp only [Den] at hx hy
    subst hx hy
    split at h
    · rename_i hl
      cases h
      exact ⟨_, op_mulW, _, _, rfl, rfl, by simpa [mulOk, CMulW] using hl, q.here w (by simp only [Den])⟩
    · cases h
  · simp only [Den] at hx hy
    subst hx hy
    split at h
    · rename_i hl
      cases h
      exact ⟨_, op_fdivA, _, _, rfl, rfl, by simpa [divOk, CDivA] using hl, q.here w (by simp only [Den])⟩
    · cases h
  · simp only [Den] at hx hy
    subst hx hy
    split at h
    · rename_i hl
      cases h
      exact ⟨_, op_modN, _, _, rfl, rfl, hl, q.here w (by simp only [Den])⟩
    · cases h
  · simp only [Den] at hx hy
    subst hx hy
    split at h
    · rename_i hl
      cases h
      refine ⟨_, op_pow, _, _, rfl, rfl, ?_, q.here w (by simp only [Den])⟩
      simpa [powOk, CPow, and_assoc] using hl
    · cases h
  · cases h

/-! ### comparing -/
theorem mkS_eq {x y : List Nat} : (mkS x = mkS y) ↔ x = y := by
  constructor
  · intro h
    have := congrArg (fun s : Str => s.cps.toList) h
    simpa using this
  · intro h; rw [h]
theorem eqb_str (x y : List Nat) : D.eqb (.str x) (.str y) = decide (x = y) := by
  simp only [D.eqb, D.toP, PyData.eqv]
  by_cases e : x = y
  · subst e; simp
  · rw [decide_eq_false e]
    exact beq_eq_false_iff_ne.mpr fun z => e (mkS_eq.mp z)
theorem scal_run {x y : D} {v u : V} (h : scalD x y = true) (hx : Den K G x v) (hy : Den K G y u) : scal v u = true ∧ decide (v = u) = D.eqb x y := by
  cases x <;> cases y <;> first
    | (simp only [Den] at hx hy; subst hx hy; exact ⟨rfl, by first | (simp [D.eqb, D.toP, PyData.eqv]; done) | (rw [eqb_str]; simp) | (rw [dec_int]; rfl) | (rw [dec_bl]; rfl)⟩)
    | (simp [scalD] at h; done)
theorem shp_dp {x : D} {v : V} (h : D.shp x = true) (hx : Den K G x v) (e : Sub G H) : Dp K H v (D.toP x) ∧ SeqAt.shaped (D.toP x) = true := by
  simp only [D.shp, Bool.and_eq_true] at h
  exact ⟨dp_mono e _ (Den.dp x h.1 hx), h.2⟩
theorem flat_run {x : D} {v : V} (h : flatD x = true) (hx : Den K G x v) : flatV v = true := by
  cases x <;> first
    | (simp only [Den] at hx; subst hx; rfl)
    | (simp [flatD] at h; done)
theorem flatL_run : ∀ {xs : List D} {vs : List V}, xs.all flatD = true → DenL K G xs vs → vs.all flatV = true
  | [], _, _, h => by simp only [DenL] at h; subst h; rfl
  | x :: xs, _, f, h => by
    simp only [DenL] at h
    simp only [List.all_cons, Bool.and_eq_true] at f
    obtain ⟨v, r, e, h1, h2⟩ := h
    subst e
    simp only [List.all_cons, Bool.and_eq_true]
    exact ⟨flat_run f.1 h1, flatL_run f.2 h2⟩
theorem eqV_run {y x : D} {u v : V} (hy : Den K G y u) (hx : Den K G x v) (fy : flatD y = true) (fx : flatD x = true) : eqV u v = D.eqb y x := by
  cases y <;> cases x <;> first
    | (simp only [Den] at hx hy; subst hx hy; first | rfl | (rw [eqb_str]; show ((mkS _) == (mkS _)) = _; rw [Bool.eq_iff_iff]; simp [mkS_eq]))
    | (simp [flatD] at fx; done)
    | (simp [flatD] at fy; done)
theorem inV_run {x : D} {v : V} (hx : Den K G x v) (fx : flatD x = true) : ∀ {ys : List D} {us : List V}, ys.all flatD = true → DenL K G ys us → inV v us = ys.any fun y => D.eqb y x
  | [], _, _, h => by simp only [DenL] at h; subst h; rfl
  | y :: ys, _, f, h => by
    simp only [DenL] at h
    simp only [List.all_cons, Bool.and_eq_true] at f
    obtain ⟨u, r, e, h1, h2⟩ := h
    subst e
    have ih := inV_run hx fx f.2 h2
    unfold inV at ih ⊢
    rw [List.any_cons, List.any_cons, ih, eqV_run h1 hx f.1 fx]
theorem eq_run (hu : X.A.units + 64 < cLine) {x y : D} {v u : V} {b : Bool} {Q : VK} (h : eqD x y = some b) (hx : Den X.K G x v) (hy : Den X.K G y u) (e : Sub G H) (q : Q (.bl b) H) : UOp X (compareOp .Eq) v u H Q := by
  unfold eqD at h
  split at h
  · rename_i hs
    cases h
    rw [Bool.or_eq_true, Bool.and_eq_true] at hs
    rcases hs with hs | ⟨h1, h2⟩
    · obtain ⟨a, c⟩ := scal_run hs hx hy
      exact ⟨_, op_eq, a, by rw [c]; exact q⟩
    · obtain ⟨a1, a2⟩ := shp_dp h1 hx e
      obtain ⟨b1, b2⟩ := shp_dp h2 hy e
      exact ⟨_, op_eqD hu, _, _, a1, b1, a2, b2, q⟩
  · cases h
theorem ne_run (hu : X.A.units + 64 < cLine) {x y : D} {v u : V} {b : Bool} {Q : VK} (h : (eqD x y).map not = some b) (hx : Den X.K G x v) (hy : Den X.K G y u) (e : Sub G H) (q : Q (.bl b) H) : UOp X (compareOp .NotEq) v u H Q := by
  unfold eqD at h
  split at h
  · rename_i hs
    cases h
    rw [Bool.or_eq_true, Bool.and_eq_true] at hs
    rcases hs with hs | ⟨h1, h2⟩
    · obtain ⟨a, c⟩ := scal_run hs hx hy
      exact ⟨_, op_ne, a, by rw [c]; exact q⟩
    · obtain ⟨a1, a2⟩ := shp_dp h1 hx e
      obtain ⟨b1, b2⟩ := shp_dp h2 hy e
      exact ⟨_, op_neD hu, _, _, a1, b1, a2, b2, q⟩
  · cases h
theorem is_run {x y : D} {v u : V} {b : Bool} {Q : VK} (h : isD x y = some b) (hx : Den X.K G x v) (hy : Den X.K G y u) (q : Q (.bl b) H) : UOp X (compareOp .Is) v u H Q := by
  unfold isD at h
  split at h <;> first
    | (simp only [Den] at hx hy; subst hx hy; cases h; first
        | exact ⟨_, op_isBl, _, _, rfl, rfl, q⟩
        | exact ⟨_, op_isN, rfl, q⟩)
    | (simp only [Den] at hx hy; obtain ⟨p, vs, e1, hp, hvs⟩ := hx; subst e1 hy; cases h; exact ⟨_, op_isN, rfl, q⟩)
    | (simp only [Den] at hx hy; obtain ⟨p, C, dx, nvs, e1, hp, hvs⟩ := hx; subst e1 hy; cases h; exact ⟨_, op_isN, rfl, q⟩)
    | cases h
theorem isnot_run {x y : D} {v u : V} {b : Bool} {Q : VK} (h : (isD x y).map not = some b) (hx : Den X.K G x v) (hy : Den X.K G y u) (q : Q (.bl b) H) : UOp X (compareOp .IsNot) v u H Q := by
  unfold isD at h
  split at h <;> first
    | (simp only [Den] at hx hy; subst hx hy; cases h; first
        | exact ⟨_, op_notBl, _, _, rfl, rfl, q⟩
        | exact ⟨_, op_notN, rfl, q⟩)
    | (simp only [Den] at hx hy; obtain ⟨p, vs, e1, hp, hvs⟩ := hx; subst e1 hy; cases h; exact ⟨_, op_notN, rfl, q⟩)
    | (simp only [Den] at hx hy; obtain ⟨p, C, dx, nvs, e1, hp, hvs⟩ := hx; subst e1 hy; cases h; exact ⟨_, op_notN, rfl, q⟩)
    | cases h
theorem in_run {x y : D} {v u : V} {b : Bool} {Q : VK} (h : isInD x y = some b) (hx : Den X.K G x v) (hy : Den X.K G y u) (e : Sub G H) (q : Q (.bl b) H) : UOp X (compareOp .In) v u H Q := by
  unfold isInD at h
  split at h
  · simp only [Den] at hy
    obtain ⟨p, vs, e1, hp, hvs⟩ := hy
    unfold inD at h
    split at h
    · rename_i hf
      cases h
      rw [Bool.and_eq_true] at hf
      subst e1
      exact ⟨_, op_in_seq, p, vs, rfl, .inl (SqL.of (e _ _ hp)), flat_run hf.1 hx, flatL_run hf.2 hvs, by rw [inV_run hx hf.1 hf.2 hvs]; exact q⟩
    · cases h
  · simp only [Den] at hy
    obtain ⟨p, vs, e1, hp, hvs⟩ := hy
    unfold inD at h
    split at h
    · rename_i hf
      cases h
      rw [Bool.and_eq_true] at hf
      subst e1
      exact ⟨_, op_in_seq, p, vs, rfl, .inr (sub_t e hp), flat_run hf.1 hx, flatL_run hf.2 hvs, by rw [inV_run hx hf.1 hf.2 hvs]; exact q⟩
    · cases h
  · split at h
    · simp only [Den] at hx hy
      subst hx hy
      cases h
      exact ⟨_, op_in_sign, _, _, rfl, rfl, by simpa using q⟩
    · cases h
  · cases h
theorem notin_run {x y : D} {v u : V} {b : Bool} {Q : VK} (h : (isInD x y).map not = some b) (hx : Den X.K G x v) (hy : Den X.K G y u) (e : Sub G H) (q : Q (.bl b) H) : UOp X (compareOp .NotIn) v u H Q := by
  unfold isInD at h
  split at h
  · simp only [Den] at hy
    obtain ⟨p, vs, e1, hp, hvs⟩ := hy
    unfold inD at h
    split at h
    · rename_i hf
      cases h
      rw [Bool.and_eq_true] at hf
      subst e1
      exact ⟨_, op_notIn_seq, p, vs, rfl, .inl (SqL.of (e _ _ hp)), flat_run hf.1 hx, flatL_run hf.2 hvs, by rw [inV_run hx hf.1 hf.2 hvs]; exact q⟩
    · cases h
  · simp only [Den] at hy
    obtain ⟨p, vs, e1, hp, hvs⟩ := hy
    unfold inD at h
    split at h
    · rename_i hf
      cases h
      rw [Bool.and_eq_true] at hf
      subst e1
      exact ⟨_, op_notIn_seq, p, vs, rfl, .inr (sub_t e hp), flat_run hf.1 hx, flatL_run hf.2 hvs, by rw [inV_run hx hf.1 hf.2 hvs]; exact q⟩
    · cases h
  · split at h
    · simp only [Den] at hx hy
      subst hx hy
      cases h
      exact ⟨_, op_notIn_sign, _, _, rfl, rfl, by simpa using q⟩
    · cases h
  · cases h
theorem cmp_run (hu : X.A.units + 64 < cLine) {o : CO} {x y : D} {v u : V} {b : Bool} {Q : VK} (h : cmpD o x y = some b) (hx : Den X.K G x v) (hy : Den X.K G y u) (e : Sub G H) (q : Q (.bl b) H) : UOp X (compareOp (opC o)) v u H Q := by
  unfold cmpD at h
  split at h
  · simp only [Den] at hx hy
    subst hx hy
    cases h
    exact ⟨_, op_lt, _, _, rfl, rfl, q⟩
  · simp only [Den] at hx hy
    subst hx hy
    cases h
    exact ⟨_, op_le, _, _, rfl, rfl, q⟩
  · simp only [Den] at hx hy
    subst hx hy
    cases h
    exact ⟨_, op_gt, _, _, rfl, rfl, q⟩
  · simp only [Den] at hx hy
    subst hx hy
    cases h
    exact ⟨_, op_ge, _, _, rfl, rfl, q⟩
  · exact eq_run hu h hx hy e q
  · exact ne_run hu h hx hy e q
  · exact is_run h hx hy q
  · exact isnot_run h hx hy q
  · exact in_run h hx hy e q
  · exact notin_run h hx hy e q
  · cases h

/-! ### truth, places, slices -/
theorem DenL.isEmpty {xs : List D} {vs : List V} (h : DenL K G xs vs) : vs.isEmpty = xs.isEmpty := by
  cases xs with
  | nil => simp only [DenL] at h; subst h; rfl
  | cons x xs => simp only [DenL] at h; obtain ⟨v, r, e, _⟩ := h; subst e; rfl
theorem tru_run {x : D} {v : V} {b : Bool} (h : truth x = some b) (hx : Den K G x v) (e : Sub G H) : TruV K v H b := by
  unfold truth at h
  split at h
  · simp only [Den] at hx; subst hx; cases h; rfl
  · simp only [Den] at hx; subst hx; cases h; rfl
  · simp only [Den] at hx; subst hx; cases h; rfl
  · rename_i z
    split at h
    · rename_i hl
      simp only [Den] at hx
      subst hx
      cases h
      refine ⟨le_line (by rw [mkS_len]; exact hl), ?_⟩
      rw [mkS_len]
      cases z with
      | nil => rfl
      | cons a r =>
        symm
        simp only [List.isEmpty_cons, Bool.not_false, bne_iff_ne, ne_eq, List.length_cons]
        omega
    · cases h
  · simp only [Den] at hx
    obtain ⟨p, vs, e1, hp, hvs⟩ := hx
    subst e1
    cases h
    exact .inl ⟨vs, SqL.of (e _ _ hp), by rw [hvs.isEmpty]⟩
  · simp only [Den] at hx
    obtain ⟨p, vs, e1, hp, hvs⟩ := hx
    subst e1
    cases h
    exact .inr (.inl ⟨vs, sub_t e hp, by rw [hvs.isEmpty]⟩)
  · cases h
theorem atI_den {xs : List D} {vs : List V} {i : Int} {d : D} (h : DenL K G xs vs) (e : atI xs i = some d) : ∃ v, atI vs i = some v ∧ Den K G d v := by
  unfold atI at e ⊢
  rw [← h.length]
  cases hx : ixN xs.length i with
  | none => rw [hx] at e; cases e
  | some j =>
    rw [hx] at e
    exact h.get (show xs[j]? = some d from e)
theorem atI_map {α β : Type} (f : α → β) (xs : List α) (i : Int) : atI (xs.map f) i = (atI xs i).map f := by
  unfold atI
  rw [List.length_map]
  cases ixN xs.length i with
  | none => rfl
  | some j => simp [Option.bind]
theorem ix_run {x y d : D} {v u : V} {Q : VK} (h : ixD x y = some d) (hx : Den X.K G x v) (hy : Den X.K G y u) (w : Wd H0 G0 G W H) (q : EQ X.K H0 G0 G W d Q) : UIx X v u H Q := by
  unfold ixD at h
  split at h
  · simp only [Den] at hx hy
    obtain ⟨p, vs, e1, hp, hvs⟩ := hx
    subst e1 hy
    obtain ⟨z, hz, dz⟩ := atI_den hvs h
    exact ⟨_, ix_list, p, vs, _, z, rfl, rfl, SqL.of (w.gh _ _ hp), hz, q.here w dz⟩
  · rename_i ns i
    simp only [Den] at hx hy
    obtain ⟨p, e1, hp⟩ := hx
    subst e1 hy
    cases hz : atI ns i with
    | none => rw [hz] at h; cases h
    | some n =>
      rw [hz] at h
      cases h
      exact ⟨_, ix_list, p, _, _, .int n, rfl, rfl, sub_l w.gh hp, by rw [atI_map, hz]; rfl, q.here w (by simp only [Den])⟩
  · simp only [Den] at hx hy
    obtain ⟨p, vs, e1, hp, hvs⟩ := hx
    subst e1 hy
    obtain ⟨z, hz, dz⟩ := atI_den hvs h
    exact ⟨_, ix_tup, p, vs, _, z, rfl, rfl, sub_t w.gh hp, hz, q.here w dz⟩
  · rename_i z i
    split at h
    · rename_i hl
      simp only [Den] at hx hy
      subst hx hy
      cases hz : atI z i with
      | none => rw [hz] at h; cases h
      | some c =>
        rw [hz] at h
        cases h
        exact ⟨_, ix_str, mkS z, i, c, rfl, rfl, le_line (by rw [mkS_len]; exact hl), by simpa using hz, q.here w (by simp only [Den])⟩
    · cases h
  · cases h
theorem cutV_den {xs : List D} {vs : List V} {lo hi : Option Int} (h : DenL K G xs vs) : DenL K G (cutD xs lo hi) (cutV vs lo hi) := by
  unfold cutD cutV
  rw [h.length]
  exact (h.drop _).take _
theorem cut_whole {α : Type} {xs : List α} {lo hi : Option Int} (h : HT.sIx xs.length 0 lo = 0 ∧ HT.sIx xs.length xs.length hi = xs.length) : cutD xs lo hi = xs := by
  unfold cutD
  rw [h.1, h.2]
  simp
theorem sl_run {lo hi : Option Int} {x d : D} {v : V} {Q : VK} (h : slD lo hi x = some d) (hx : Den X.K G x v) (w : Wd H0 G0 G W H) (q : EQ X.K H0 G0 G W d Q) : USl X v lo hi H Q := by
  unfold slD at h
  split at h
  · simp only [Den] at hx
    obtain ⟨p, vs, e1, hp, hvs⟩ := hx
    subst e1
    cases h
    refine ⟨_, sl_list, p, vs, rfl, SqL.of (w.gh _ _ hp), fun z hz => q _ _ _ (sub_upd (w.gnone hz)) (w.new hz) ?_⟩
    simp only [Den]
    exact ⟨z, _, rfl, upd_same, (cutV_den hvs).mono (sub_upd (w.gnone hz))⟩
  · simp only [Den] at hx
    obtain ⟨p, vs, e1, hp, hvs⟩ := hx
    subst e1
    cases h
    refine ⟨_, sl_tupA, p, vs, rfl, sub_t w.gh hp, fun hw => q.here w ?_, fun _ z hz => q _ _ _ (sub_upd (w.gnone hz)) (w.new hz) ?_⟩
    · rw [← hvs.length] at hw
      rw [cut_whole hw]
      simp only [Den]
      exact ⟨_, _, rfl, hp, hvs⟩
    · simp only [Den]
      exact ⟨z, _, rfl, SqT.of upd_same, (cutV_den hvs).mono (sub_upd (w.gnone hz))⟩
  · rename_i z
    split at h
    · rename_i hl
      simp only [Den] at hx
      subst hx
      cases h
      refine ⟨_, sl_str, mkS z, rfl, le_line (by rw [mkS_len]; exact hl), q.here w ?_⟩
      simp only [Den]
      congr 1
    · cases h
  · cases h
end
end Pv

set_option Elab.async false
set_option linter.all false
set_option maxRecDepth 100000
set_option maxHeartbeats 4000000

namespace Pv
open PySem PySem.Spec L2

theorem bnd {α β : Type} {o : Option α} {f : α → Option β} {b : β} (h : o.bind f = some b) : ∃ a, o = some a ∧ f a = some b := by
  cases o with
  | none => cases h
  | some a => exact ⟨a, rfl, h⟩
theorem mpd {α β : Type} {o : Option α} {f : α → β} {b : β} (h : o.map f = some b) : ∃ a, o = some a ∧ f a = b := by
  cases o with
  | none => cases h
  | some a => exact ⟨a, rfl, Option.some.inj h⟩

/-! ### built-in functions -/
def nmF : BF → Str
  | .len => "len" | .int => "int" | .abs => "abs" | .max => "max" | .min => "min" | .gcd => "gcd" | .tuple => "tuple" | .list => "list" | .sum => "sum" | .str => "str"
def tyF : BF → Option String
  | .int => some "int" | .tuple => some "tuple" | .list => some "list" | .str => some "str" | _ => none
def idF : BF → String
  | .len => "len" | .abs => "abs" | .max => "max" | .min => "min" | .sum => "sum" | .gcd => "math.gcd" | _ => ""
def valF (f : BF) : Value := match tyF f with | some t => .type t | none => .builtin (idF f)
theorem bootF {f : BF} (h : f ≠ .gcd) : bootBuiltins (nmF f) = some (valF f) := by
  cases f <;> first | exact absurd rfl h | decide +kernel
theorem nameF {f : BF} (h : f ≠ .gcd) : nmF f ≠ "__name__" ∧ (nmF f == ("__debug__" : Str)) = false := by
  cases f <;> first | exact absurd rfl h | (constructor <;> decide +kernel)
def nmT : Ty → Str
  | .int => "int" | .bool => "bool" | .str => "str" | .tuple => "tuple" | .list => "list" | .dict => "dict"
def sT : Ty → String
  | .int => "int" | .bool => "bool" | .str => "str" | .tuple => "tuple" | .list => "list" | .dict => "dict"
theorem bootT (t : Ty) : bootBuiltins (nmT t) = some (.type (sT t)) := by cases t <;> decide +kernel
theorem nameT (t : Ty) : nmT t ≠ "__name__" ∧ (nmT t == ("__debug__" : Str)) = false := by cases t <;> (constructor <;> decide +kernel)

section
variable {X : Cx} {K : PySem.W.Frag} {H0 G0 G W H : Hp}
theorem ints_den {ns : List Int} : ∀ {xs : List D} {vs : List V}, allInts xs = some ns → DenL K G xs vs → vs = ns.map V.int := by
  induction ns with
  | nil =>
    intro xs vs h hd
    cases xs with
    | nil => simp only [DenL] at hd; subst hd; rfl
    | cons x r => cases x <;> first | (simp [allInts] at h; done) | skip
  | cons n ns ih =>
    intro xs vs h hd
    cases xs with
    | nil => simp [allInts] at h
    | cons x r =>
      cases x <;> first | (simp [allInts] at h; done) | skip
      rename_i i
      simp only [allInts] at h
      obtain ⟨a, h1, h2⟩ := mpd h
      cases h2
      simp only [DenL, Den] at hd
      obtain ⟨v, r', e, e1, e2⟩ := hd
      subst e e1
      rw [ih h1 e2]
      rfl
theorem den1 {x : D} {vs : List V} (h : DenL K G [x] vs) : ∃ v, vs = [v] ∧ Den K G x v := by
  simp only [DenL] at h
  obtain ⟨v, r, e, h1, h2⟩ := h
  subst h2
  exact ⟨v, e, h1⟩
theorem den2 {x y : D} {vs : List V} (h : DenL K G [x, y] vs) : ∃ v u, vs = [v, u] ∧ Den K G x v ∧ Den K G y u := by
  simp only [DenL] at h
  obtain ⟨v, r, e, h1, u, r', e', h2, h3⟩ := h
  subst h3 e'
  exact ⟨v, u, e, h1, h2⟩
theorem blt_run (hc : X.calm = true) {f : BF} {ds : List D} {d : D} {vs : List V} {Q : VK} (h : bltD f ds = some d) (hx : DenL X.K G ds vs) (w : Wd H0 G0 G W H) (q : EQ X.K H0 G0 G W d Q) : UCall X (valF f) vs H Q := by
  unfold bltD at h
  split at h
  · obtain ⟨v, rfl, hv⟩ := den1 hx
    simp only [Den] at hv
    obtain ⟨p, us, rfl, hp, hu⟩ := hv
    cases h
    exact ⟨_, call_len_seq, p, us, rfl, .inl (SqL.of (w.gh _ _ hp)), q.here w (by simp only [Den]; rw [hu.length])⟩
  · obtain ⟨v, rfl, hv⟩ := den1 hx
    simp only [Den] at hv
    obtain ⟨p, us, rfl, hp, hu⟩ := hv
    cases h
    exact ⟨_, call_len_seq, p, us, rfl, .inr (sub_t w.gh hp), q.here w (by simp only [Den]; rw [hu.length])⟩
  · obtain ⟨v, rfl, hv⟩ := den1 hx
    simp only [Den] at hv
    obtain ⟨p, rfl, hp⟩ := hv
    cases h
    exact ⟨_, call_len_seq, p, _, rfl, .inl (sub_l w.gh hp), q.here w (by simp only [Den]; rw [List.length_map])⟩
  · obtain ⟨v, rfl, hv⟩ := den1 hx
    simp only [Den] at hv
    subst hv
    split at h
    · rename_i hl
      cases h
      exact ⟨_, call_len_str, _, rfl, le_line (by rw [mkS_len]; exact hl), q.here w (by simp only [Den]; rw [mkS_len])⟩
    · cases h
  · obtain ⟨v, rfl, hv⟩ := den1 hx
    simp only [Den] at hv
    subst hv
    cases h
    exact ⟨_, call_int1, .inl ⟨_, rfl, q.here w (by simp only [Den])⟩⟩
  · obtain ⟨v, rfl, hv⟩ := den1 hx
    simp only [Den] at hv
    subst hv
    cases h
    exact ⟨_, call_int1, .inr ⟨_, rfl, q.here w (by simp only [Den])⟩⟩
  · obtain ⟨v, rfl, hv⟩ := den1 hx
    simp only [Den] at hv
    subst hv
    cases h
    exact ⟨_, call_abs, _, rfl, q.here w (by simp only [Den])⟩
  · obtain ⟨v, u, rfl, hv, hu⟩ := den2 hx
    simp only [Den] at hv hu
    subst hv hu
    cases h
    exact ⟨_, call_max2 hc, _, _, rfl, q.here w (by simp only [Den])⟩
  · obtain ⟨v, u, rfl, hv, hu⟩ := den2 hx
    simp only [Den] at hv hu
    subst hv hu
    cases h
    exact ⟨_, call_min2 hc, _, _, rfl, q.here w (by simp only [Den])⟩
  · obtain ⟨v, u, rfl, hv, hu⟩ := den2 hx
    simp only [Den] at hv hu
    subst hv hu
    cases h
    exact ⟨_, cr_gcd, _, _, rfl, q.here w (by simp only [Den])⟩
  · obtain ⟨v, rfl, hv⟩ := den1 hx
    simp only [Den] at hv
    obtain ⟨p, us, rfl, hp, hu⟩ := hv
    cases h
    refine ⟨_, call_tuple_of, p, us, rfl, .inl ⟨SqL.of (w.gh _ _ hp), fun z hz => q _ _ _ (sub_upd (w.gnone hz)) (w.new hz) ?_⟩⟩
    simp only [Den]
    exact ⟨z, _, rfl, SqT.of upd_same, hu.mono (sub_upd (w.gnone hz))⟩
  · obtain ⟨v, rfl, hv⟩ := den1 hx
    cases h
    have hv' := hv
    simp only [Den] at hv'
    obtain ⟨p, us, rfl, hp, hu⟩ := hv'
    exact ⟨_, call_tuple_of, p, us, rfl, .inr ⟨sub_t w.gh hp, q.here w hv⟩⟩
  · obtain ⟨v, rfl, hv⟩ := den1 hx
    simp only [Den] at hv
    obtain ⟨p, us, rfl, hp, hu⟩ := hv
    cases h
    refine ⟨_, call_list_of, p, us, rfl, .inl (SqL.of (w.gh _ _ hp)), fun z hz => q _ _ _ (sub_upd (w.gnone hz)) (w.new hz) ?_⟩
    simp only [Den]
    exact ⟨z, _, rfl, upd_same, hu.mono (sub_upd (w.gnone hz))⟩
  · obtain ⟨v, rfl, hv⟩ := den1 hx
    simp only [Den] at hv
    obtain ⟨p, us, rfl, hp, hu⟩ := hv
    cases h
    refine ⟨_, call_list_of, p, us, rfl, .inr (sub_t w.gh hp), fun z hz => q _ _ _ (sub_upd (w.gnone hz)) (w.new hz) ?_⟩
    simp only [Den]
    exact ⟨z, _, rfl, upd_same, hu.mono (sub_upd (w.gnone hz))⟩
  · obtain ⟨v, rfl, hv⟩ := den1 hx
    simp only [Den] at hv
    obtain ⟨p, us, rfl, hp, hu⟩ := hv
    obtain ⟨ns, hns, rfl⟩ := mpd h
    have e := ints_den hns hu
    subst e
    exact ⟨_, cr_sum hc, p, ns, rfl, SqL.of (w.gh _ _ hp), q.here w (by simp only [Den])⟩
  · obtain ⟨v, rfl, hv⟩ := den1 hx
    simp only [Den] at hv
    subst hv
    split at h
    · rename_i hl
      cases h
      refine ⟨_, call_str_int, _, rfl, hl, q.here w ?_⟩
      simp only [Den, intS]
    · cases h
  · cases h

/-! ### isinstance -/
def isiN (n t : Ty) : Bool := match n, t with
  | .int, .int => true | .bool, .int => true | .bool, .bool => true | .str, .str => true | .tuple, .tuple => true | .list, .list => true | .dict, .dict => true | _, _ => false
theorem kit0 (n t : Ty) : kitB (sT n) (sT t) = some (isiN n t) := by cases n <;> cases t <;> decide +kernel
theorem kit1 (x : D) (t : Ty) {n : Ty} (h : tyD x = some n) : kitB (sT n) (sT t) = some (isi1 x t) := by
  rw [kit0]
  cases x <;> simp [tyD] at h <;> subst h <;> cases t <;> rfl
theorem kitN {t : Ty} : kitB "NoneType" (sT t) = some false := by cases t <;> decide +kernel
theorem tupX {G : Hp} {a : Addr} {vs : List V} (h : SqT X.K G a vs) : TyX X.K G (.ref a) (.type "tuple") := by
  rcases h with (h | ⟨o, h⟩) | ⟨o, its, n, h1, h2, _⟩
  · exact .base (.tup h)
  · exact .fTuple h
  · exact .kTuple h1 h2
theorem isi_ty {x : D} {v : V} (hi : isIns x = false) (hx : Den X.K G x v) (e : Sub G H) : ∃ s, TyX X.K H v (.type s) ∧ ∀ t : Ty, PySem.W.kitOne X.K (.type s) (.type (sT t)) = some (isi1 x t) := by
  cases x with
  | non => simp only [Den] at hx; subst hx; exact ⟨_, .base .non, fun t => kit_ty (by rw [kitN]; cases t <;> rfl)⟩
  | bl b => simp only [Den] at hx; subst hx; exact ⟨_, .base (.bl _), fun t => kit_ty (kit1 (.bl b) t (n := .bool) rfl)⟩
  | int b => simp only [Den] at hx; subst hx; exact ⟨_, .base (.int _), fun t => kit_ty (kit1 (.int b) t (n := .int) rfl)⟩
  | str b => simp only [Den] at hx; subst hx; exact ⟨_, .base (.str _), fun t => kit_ty (kit1 (.str b) t (n := .str) rfl)⟩
  | lst b =>
    simp only [Den] at hx
    obtain ⟨p, us, rfl, hp, hu⟩ := hx
    exact ⟨_, .base (.lst (e _ _ hp)), fun t => kit_ty (kit1 (.lst b) t (n := .list) rfl)⟩
  | tup b =>
    simp only [Den] at hx
    obtain ⟨p, us, rfl, hp, hu⟩ := hx
    exact ⟨_, tupX (sub_t e hp), fun t => kit_ty (kit1 (.tup b) t (n := .tuple) rfl)⟩
  | dct a b =>
    simp only [Den] at hx
    obtain ⟨p, us, rfl, hp, hu⟩ := hx
    exact ⟨_, .base (.dK (e _ _ hp)), fun t => kit_ty (kit1 (.dct a b) t (n := .dict) rfl)⟩
  | ins a b c => simp [isIns] at hi
  | scr a => simp [isIns] at hi
/-- .. an own class's instance too -/
theorem isi_tyX {N : List Str} (hK : ∀ c ∈ N, ClAt X.K c) {x d : D} {v : V} {ts : List Ty} (h : (if isIns x then insI N x else some (.bl (ts.any (isi1 x)))) = some d) (hx : Den X.K G x v) (e : Sub G H) :
    d = .bl (ts.any (isi1 x)) ∧ ∃ ty : Value, TyX X.K H v ty ∧ ∀ t : Ty, PySem.W.kitOne X.K ty (.type (sT t)) = some (isi1 x t) := by
  split at h
  · unfold insI at h
    split at h
    · split at h
      · rename_i hc
        cases h
        obtain ⟨C, hC, cl, a1, a2, a3, a4, k1, k2, k3, k4, k5, k6⟩ := (hK _ hc).ex
        simp only [Den] at hx
        obtain ⟨a, C', dx, nvs, rfl, hp, hC', _⟩ := hx
        rw [hC] at hC'
        cases hC'
        refine ⟨?_, .ref C, .base (.ins (e _ _ hp) cl a1 a2 a3 a4), fun t => ?_⟩
        · congr 1
          symm
          rw [List.any_eq_false]
          intro t _
          cases t <;> simp [isi1]
        · cases t <;> first | exact k1 | exact k2 | exact k3 | exact k4 | exact k5 | exact k6
      · cases h
    · cases h
  · rename_i hi
    cases h
    obtain ⟨s, ty, hk⟩ := isi_ty (by simpa using hi) hx e
    exact ⟨rfl, _, ty, hk⟩
theorem kitAll {K : PySem.W.Frag} {s : Value} {x : D} (h : ∀ t : Ty, PySem.W.kitOne K s (.type (sT t)) = some (isi1 x t)) : ∀ ts : List Ty, PySem.W.kitAny K s (ts.map fun t => Value.type (sT t)) = some (ts.any (isi1 x))
  | [] => kitAny_nil
  | t :: ts => by
    refine kitAny_cons (h t) (fun hb => ?_) (fun hb => ?_)
    · rw [List.any_cons, hb, Bool.false_or]; exact kitAll h ts
    · rw [List.any_cons, hb, Bool.true_or]
end

section
variable {Y : Stat} {sc : Scope} {fc : Str → Bool} {pos p p1 p2 : Pos}

/-! ### names, constants -/
theorem getV_some {τ : List Sl} {i : Nat} {d : D} (h : getV τ i = some d) : τ[i]? = some (.v d) := by
  unfold getV at h
  split at h
  · rename_i e; cases h; exact e
  · cases h
theorem getO_some {τ : List Sl} {i : Nat} {ds : List D} (h : getO τ i = some ds) : τ[i]? = some (.o (.lst ds)) := by
  unfold getO at h
  split at h
  · rename_i e; cases h; exact e
  · cases h
theorem se_var {i : Nat} {x : Str} (hN : Y.N[i]? = some x) (hv : Vis sc x) (hd : (x == ("__debug__" : Str)) = false) (hcd : (x == ("__classdict__" : Str)) = false) : SE Y sc fc (.Name x pos) (fun τ => getV τ i) := by
  refine ⟨fun X ok H0 G0 G W H τ σ d w s h Q q => ?_⟩
  obtain ⟨v, hv', dv⟩ := s.val i d (getV_some h)
  exact ⟨_, pe_var (by rw [ok.eN]; exact hN) (ok.vis hv) hd hcd, v, hv', q.here w dv⟩
theorem se_glob {k : Nat} {x : Str} (hk : (k, x) ∈ Y.cns) (hg : sc.names.lookup x = some .globalImplicit) (hd : (x == ("__debug__" : Str)) = false) : SE Y sc fc (.Name x pos) (fun _ => Y.Z.C k) := by
  refine ⟨fun X ok H0 G0 G W H τ σ d w s h Q q => ?_⟩
  obtain ⟨u, v, d', hm, r, hc, dv⟩ := ok.cns k x hk
  rw [hc] at h
  cases h
  exact ⟨_, pe_glob (ok.gl hg) hm r hd, q.here w (dv G)⟩
theorem se_int {n : Int} {j : Nat} : SE Y sc fc (.Constant (.int n) j pos) (fun _ => some (.int n)) :=
  ⟨fun X ok H0 G0 G W H τ σ d w s h Q q => by cases h; exact ⟨_, pe_int, q.here w (by simp only [Den])⟩⟩
theorem se_bl {n : Bool} {j : Nat} : SE Y sc fc (.Constant (.bool n) j pos) (fun _ => some (.bl n)) :=
  ⟨fun X ok H0 G0 G W H τ σ d w s h Q q => by cases h; exact ⟨_, pe_bl, q.here w (by simp only [Den])⟩⟩
theorem se_non {j : Nat} : SE Y sc fc (.Constant .none j pos) (fun _ => some .non) :=
  ⟨fun X ok H0 G0 G W H τ σ d w s h Q q => by cases h; exact ⟨_, pe_non, q.here w (by simp only [Den])⟩⟩
theorem se_str {x : List Nat} {j : Nat} : SE Y sc fc (.Constant (.str (mkS x)) j pos) (fun _ => some (.str x)) :=
  ⟨fun X ok H0 G0 G W H τ σ d w s h Q q => by cases h; exact ⟨_, pe_str, q.here w (by simp only [Den])⟩⟩

/-! ### operators -/
variable {a b c : Expr} {fa fb fd : List Sl → Option D}
theorem se_bin {o : BO} (ha : SE Y sc fc a fa) (hb : SE Y sc fc b fb) : SE Y sc fc (.BinOp a (opB o) b pos) (fun τ => (fa τ).bind fun x => (fb τ).bind fun y => binD o x y) := by
  refine ⟨fun X ok H0 G0 G W H τ σ d w s h Q q => ?_⟩
  obtain ⟨x, hx, h⟩ := bnd h
  obtain ⟨y, hy, h⟩ := bnd h
  refine ⟨_, pe_op opR_u pe_tu pe_tu, ?_⟩
  refine ha.run X ok _ _ _ _ _ _ _ _ w s hx _ fun v G1 H1 e1 w1 dv => ?_
  refine hb.run X ok _ _ _ _ _ _ _ _ w1 (s.mono e1) hy _ fun u G2 H2 e2 w2 du => ?_
  exact bin_run h (dv.mono e2) du w2 fun z G' H' e' w' dz => q z G' H' ((e1.trans e2).trans e') w' dz
theorem se_neg (ha : SE Y sc fc a fa) : SE Y sc fc (.UnaryOp .USub a pos) (fun τ => (fa τ).bind fun x => (intD x).map fun i => .int (-i)) := by
  refine ⟨fun X ok H0 G0 G W H τ σ d w s h Q q => ?_⟩
  obtain ⟨x, hx, h⟩ := bnd h
  refine ⟨_, pe_un un_neg pe_tu, ?_⟩
  refine ha.run X ok _ _ _ _ _ _ _ _ w s hx _ fun v G1 H1 e1 w1 dv => ?_
  cases x <;> simp only [intD] at h <;> try cases h
  simp only [Den] at dv
  exact ⟨_, dv, q _ _ _ e1 w1 (by simp only [Den])⟩
theorem dlook_den {K : PySem.W.Frag} {G : Hp} : ∀ {ks vs : List D} {kvs : List (Key × V)} (q : Key), ks.map D.key = kvs.map (fun p => some p.1) → DenL K G vs (kvs.map (fun p => p.2)) →
    (∃ d v, dlook ks vs q = some d ∧ valV kvs q = some v ∧ Den K G d v) ∨ (dlook ks vs q = none ∧ valV kvs q = none)
  | [], vs, kvs, q, h1, h2 => by
    cases kvs with
    | nil => exact .inr ⟨by simp [dlook], rfl⟩
    | cons p r => simp at h1
  | k :: ks, vs, [], q, h1, h2 => by simp at h1
  | k :: ks, [], p :: r, q, h1, h2 => by simp [DenL] at h2
  | k :: ks, d :: vs, p :: r, q, h1, h2 => by
    simp only [List.map_cons, List.cons.injEq] at h1
    simp only [List.map_cons, DenL] at h2
    obtain ⟨v, r', e, d1, d2⟩ := h2
    simp only [List.cons.injEq] at e
    obtain ⟨e1, e2⟩ := e
    subst e1 e2
    by_cases hq : p.1 = q
    · left
      refine ⟨d, p.2, ?_, valV_pos hq, d1⟩
      simp [dlook, h1.1, hq]
    · have hk : ¬ D.key k = some q := by rw [h1.1]; intro z; exact hq (Option.some.inj z)
      rw [valV_neg hq]
      simp only [dlook, if_neg hk]
      exact dlook_den q h1.2 d2
theorem key_den0 {K : PySem.W.Frag} {G : Hp} {x : D} {v : V} {k : Key} (h : D.key x = some k) (hx : Den K G x v) : v = kV k := by
  cases x <;> simp only [D.key] at h <;> cases h <;> (simp only [Den] at hx; exact hx)
theorem dget_den {K : PySem.W.Frag} {G H : Hp} {ks vs : List D} {u : V} {x : D} {v : V} {q : Key} (hx : Den K G x v) (hq : D.key x = some q) (hy : Den K G (.dct ks vs) u) (e : Sub G H) :
    ∃ a o, u = .ref a ∧ (∃ kvs, H a = some (.dK kvs)) ∧ DGet H a v o ∧ ((∃ d w, dlook ks vs q = some d ∧ o = some w ∧ Den K G d w) ∨ (dlook ks vs q = none ∧ o = none)) := by
  simp only [Den] at hy
  obtain ⟨a, kvs, rfl, ha, h1, h2⟩ := hy
  rw [key_den0 hq hx]
  refine ⟨a, valV kvs q, rfl, ⟨kvs, e _ _ ha⟩, DGet.k (e _ _ ha), ?_⟩
  rcases dlook_den q h1 h2 with ⟨d, w, a1, a2, a3⟩ | ⟨a1, a2⟩
  · exact .inl ⟨d, w, a1, a2, a3⟩
  · exact .inr ⟨a1, a2⟩
theorem cmpX_or {o : CO} {x y : D} {k : Bool} (h : cmpX o x y = some k) : cmpD o x y = some k ∨ ∃ ks vs q, y = .dct ks vs ∧ D.key x = some q ∧ ((o = .isin ∧ k = (dlook ks vs q).isSome) ∨ (o = .notin ∧ k = !(dlook ks vs q).isSome)) := by
  cases y <;> try exact .inl h
  rename_i ks vs
  cases o <;> first
    | exact .inl h
    | (right
       simp only [cmpX, Option.map_eq_some_iff] at h
       obtain ⟨q, h1, h2⟩ := h
       first
         | exact ⟨ks, vs, q, rfl, h1, .inl ⟨rfl, h2.symm⟩⟩
         | exact ⟨ks, vs, q, rfl, h1, .inr ⟨rfl, h2.symm⟩⟩)
theorem isSome_of {α β : Type} {P : α → β → Prop} {a : Option α} {b : Option β} (h : (∃ d w, a = some d ∧ b = some w ∧ P d w) ∨ (a = none ∧ b = none)) : a.isSome = b.isSome := by
  rcases h with ⟨d, w, rfl, rfl, _⟩ | ⟨rfl, rfl⟩ <;> rfl
theorem se_cmp {o : CO} (ha : SE Y sc fc a fa) (hb : SE Y sc fc b fb) (hs : notSet b = true) : SE Y sc fc (.Compare a [opC o] [b] pos) (fun τ => (fa τ).bind fun x => (fb τ).bind fun y => (cmpX o x y).map .bl) := by
  refine ⟨fun X ok H0 G0 G W H τ σ d w s h Q q => ?_⟩
  obtain ⟨x, hx, h⟩ := bnd h
  obtain ⟨y, hy, h⟩ := bnd h
  obtain ⟨k, hk, rfl⟩ := mpd h
  have hu : X.A.units + 1 < cLine := by have := ok.room.units; omega
  rcases cmpX_or hk with hk | ⟨ks, vs, q', rfl, hq, ⟨rfl, rfl⟩ | ⟨rfl, rfl⟩⟩
  · refine ⟨_, pe_cmpR opR_u pe_tu pe_tu (behind_no hs), ?_⟩
    refine ha.run X ok _ _ _ _ _ _ _ _ w s hx _ fun v G1 H1 e1 w1 dv => ?_
    refine hb.run X ok _ _ _ _ _ _ _ _ w1 (s.mono e1) hy _ fun u G2 H2 e2 w2 du => ?_
    exact cmp_run ok.room.units hk (dv.mono e2) du w2.gh (q _ _ _ (e1.trans e2) w2 (by simp only [Den]))
  · refine ⟨_, pe_cmp (pc_din hu pe_tu pe_tu) (behind_no hs), ?_⟩
    refine ha.run X ok _ _ _ _ _ _ _ _ w s hx _ fun v G1 H1 e1 w1 dv => ?_
    refine hb.run X ok _ _ _ _ _ _ _ _ w1 (s.mono e1) hy _ fun u G2 H2 e2 w2 du => ?_
    obtain ⟨p, ob, eu, _, g, hh⟩ := dget_den (dv.mono e2) hq du w2.gh
    refine ⟨p, ob, eu, g, ?_⟩
    rw [← isSome_of hh]
    exact q _ _ _ (e1.trans e2) w2 (by simp only [Den])
  · refine ⟨_, pe_cmp (pc_dnotin hu pe_tu pe_tu) (behind_no hs), ?_⟩
    refine ha.run X ok _ _ _ _ _ _ _ _ w s hx _ fun v G1 H1 e1 w1 dv => ?_
    refine hb.run X ok _ _ _ _ _ _ _ _ w1 (s.mono e1) hy _ fun u G2 H2 e2 w2 du => ?_
    obtain ⟨p, ob, eu, _, g, hh⟩ := dget_den (dv.mono e2) hq du w2.gh
    refine ⟨p, ob, eu, g, ?_⟩
    rw [← isSome_of hh]
    exact q _ _ _ (e1.trans e2) w2 (by simp only [Den])
theorem st_cmp {o : CO} (ha : SE Y sc fc a fa) (hb : SE Y sc fc b fb) (hs : notSet b = true) : ST Y sc fc (.Compare a [opC o] [b] pos) (fun τ => (fa τ).bind fun x => (fb τ).bind fun y => cmpX o x y) := by
  refine ⟨fun X ok H0 G0 G W H τ σ d w s h Q q => ?_⟩
  obtain ⟨x, hx, h⟩ := bnd h
  obtain ⟨y, hy, hk⟩ := bnd h
  have hu : X.A.units + 1 < cLine := by have := ok.room.units; omega
  rcases cmpX_or hk with hk | ⟨ks, vs, q', rfl, hq, ⟨rfl, rfl⟩ | ⟨rfl, rfl⟩⟩
  · refine ⟨_, pt_cmpR opR_u pe_tu pe_tu (behind_no hs), ?_⟩
    refine ha.run X ok _ _ _ _ _ _ _ _ w s hx _ fun v G1 H1 e1 w1 dv => ?_
    refine hb.run X ok _ _ _ _ _ _ _ _ w1 (s.mono e1) hy _ fun u G2 H2 e2 w2 du => ?_
    exact cmp_run ok.room.units hk (dv.mono e2) du w2.gh ⟨_, rfl, q _ _ (e1.trans e2) w2⟩
  · refine ⟨_, pt_cmp (pc_din hu pe_tu pe_tu) (behind_no hs), ?_⟩
    refine ha.run X ok _ _ _ _ _ _ _ _ w s hx _ fun v G1 H1 e1 w1 dv => ?_
    refine hb.run X ok _ _ _ _ _ _ _ _ w1 (s.mono e1) hy _ fun u G2 H2 e2 w2 du => ?_
    obtain ⟨p, ob, eu, _, g, hh⟩ := dget_den (dv.mono e2) hq du w2.gh
    refine ⟨p, ob, eu, g, ?_⟩
    rw [← isSome_of hh]
    exact ⟨_, rfl, q _ _ (e1.trans e2) w2⟩
  · refine ⟨_, pt_cmp (pc_dnotin hu pe_tu pe_tu) (behind_no hs), ?_⟩
    refine ha.run X ok _ _ _ _ _ _ _ _ w s hx _ fun v G1 H1 e1 w1 dv => ?_
    refine hb.run X ok _ _ _ _ _ _ _ _ w1 (s.mono e1) hy _ fun u G2 H2 e2 w2 du => ?_
    obtain ⟨p, ob, eu, _, g, hh⟩ := dget_den (dv.mono e2) hq du w2.gh
    refine ⟨p, ob, eu, g, ?_⟩
    rw [← isSome_of hh]
    exact ⟨_, rfl, q _ _ (e1.trans e2) w2⟩
theorem last_no {o p : CmpOp} {b c : Expr} (h : notSet c = true) : lastMarks [o, p] [b, c] = false := by
  show behindInMarks p c = false
  exact behind_no h
theorem se_chain {o r : CO} (ha : SE Y sc fc a fa) (hb : SE Y sc fc b fb) (hc : SE Y sc fc c fd) (hs : notSet c = true) : SE Y sc fc (.Compare a [opC o, opC r] [b, c] pos)
    (fun τ => (fa τ).bind fun x => (fb τ).bind fun y => (cmpD o x y).bind fun k => bif k then (fd τ).bind fun z => (cmpD r y z).map .bl else some (.bl false)) := by
  refine ⟨fun X ok H0 G0 G W H τ σ d w s h Q q => ?_⟩
  obtain ⟨x, hx, h⟩ := bnd h
  obtain ⟨y, hy, h⟩ := bnd h
  obtain ⟨k, hk, h⟩ := bnd h
  refine ⟨_, pe_chain opR_u opR_u pe_tu pe_tu pe_tu (last_no hs), ?_⟩
  refine ha.run X ok _ _ _ _ _ _ _ _ w s hx _ fun v G1 H1 e1 w1 dv => ?_
  refine hb.run X ok _ _ _ _ _ _ _ _ w1 (s.mono e1) hy _ fun u G2 H2 e2 w2 du => ?_
  refine cmp_run ok.room.units hk (dv.mono e2) du w2.gh ⟨_, rfl, ?_⟩
  cases k with
  | false => cases h; exact iteF (q _ _ _ (e1.trans e2) w2 (by simp only [Den]))
  | true =>
    obtain ⟨z, hz, h⟩ := bnd h
    obtain ⟨m, hm, rfl⟩ := mpd h
    refine iteT ?_
    refine hc.run X ok _ _ _ _ _ _ _ _ w2 (s.mono (e1.trans e2)) hz _ fun z' G3 H3 e3 w3 dz => ?_
    exact cmp_run ok.room.units hm (du.mono e3) dz w3.gh (q _ _ _ ((e1.trans e2).trans e3) w3 (by simp only [Den]))
theorem st_chain {o r : CO} (ha : SE Y sc fc a fa) (hb : SE Y sc fc b fb) (hc : SE Y sc fc c fd) (hs : notSet c = true) : ST Y sc fc (.Compare a [opC o, opC r] [b, c] pos)
    (fun τ => (fa τ).bind fun x => (fb τ).bind fun y => (cmpD o x y).bind fun k => bif k then (fd τ).bind fun z => cmpD r y z else some false) := by
  refine ⟨fun X ok H0 G0 G W H τ σ d w s h Q q => ?_⟩
  obtain ⟨x, hx, h⟩ := bnd h
  obtain ⟨y, hy, h⟩ := bnd h
  obtain ⟨k, hk, h⟩ := bnd h
  refine ⟨_, pt_chain opR_u opR_u pe_tu pe_tu pe_tu (last_no hs), ?_⟩
  refine ha.run X ok _ _ _ _ _ _ _ _ w s hx _ fun v G1 H1 e1 w1 dv => ?_
  refine hb.run X ok _ _ _ _ _ _ _ _ w1 (s.mono e1) hy _ fun u G2 H2 e2 w2 du => ?_
  refine cmp_run ok.room.units hk (dv.mono e2) du w2.gh ⟨_, rfl, ?_⟩
  cases k with
  | false => cases h; exact iteF ⟨_, rfl, q _ _ (e1.trans e2) w2⟩
  | true =>
    obtain ⟨z, hz, hm⟩ := bnd h
    refine iteT ?_
    refine hc.run X ok _ _ _ _ _ _ _ _ w2 (s.mono (e1.trans e2)) hz _ fun z' G3 H3 e3 w3 dz => ?_
    exact cmp_run ok.room.units hm (du.mono e3) dz w3.gh ⟨_, rfl, q _ _ ((e1.trans e2).trans e3) w3⟩

/-! ### truth -/
theorem st_of (ha : SE Y sc fc a fa) (hp : plainTest a = true) : ST Y sc fc a (fun τ => (fa τ).bind truth) := by
  refine ⟨fun X ok H0 G0 G W H τ σ d w s h Q q => ?_⟩
  obtain ⟨x, hx, h⟩ := bnd h
  refine ⟨_, pt_truth pe_tu (isTrue_of hp), ?_⟩
  refine ha.run X ok _ _ _ _ _ _ _ _ w s hx _ fun v G1 H1 e1 w1 dv => ?_
  exact ⟨_, tru_run h dv w1.gh, q _ _ e1 w1⟩
theorem ST.imp {f g : List Sl → Option Bool} (h : ST Y sc fc a f) (e : ∀ τ b, g τ = some b → f τ = some b) : ST Y sc fc a g :=
  ⟨fun X ok H0 G0 G W H τ σ b w s hg Q q => h.run X ok H0 G0 G W H τ σ b w s (e τ b hg) Q q⟩
theorem SE.imp {f g : List Sl → Option D} (h : SE Y sc fc a f) (e : ∀ τ b, g τ = some b → f τ = some b) : SE Y sc fc a g :=
  ⟨fun X ok H0 G0 G W H τ σ b w s hg Q q => h.run X ok H0 G0 G W H τ σ b w s (e τ b hg) Q q⟩
variable {es : List Expr} {ga gb : List Sl → Option Bool}
theorem st_not (ha : ST Y sc fc a ga) : ST Y sc fc (.UnaryOp .Not a pos) (fun τ => (ga τ).map not) := by
  refine ⟨fun X ok H0 G0 G W H τ σ d w s h Q q => ?_⟩
  obtain ⟨x, hx, rfl⟩ := mpd h
  exact ⟨_, pt_not pt_tu, ha.run X ok _ _ _ _ _ _ _ _ w s hx _ fun G1 H1 e1 w1 => q _ _ e1 w1⟩
theorem se_not (ha : SE Y sc fc a fa) : SE Y sc fc (.UnaryOp .Not a pos) (fun τ => ((fa τ).bind truth).map fun b => .bl (!b)) := by
  refine ⟨fun X ok H0 G0 G W H τ σ d w s h Q q => ?_⟩
  obtain ⟨x, hx, rfl⟩ := mpd h
  obtain ⟨y, hy, hx⟩ := bnd hx
  refine ⟨_, pe_notT pe_tu, ?_⟩
  refine ha.run X ok _ _ _ _ _ _ _ _ w s hy _ fun v G1 H1 e1 w1 dv => ?_
  exact ⟨x, tru_run hx dv w1.gh, q _ _ _ e1 w1 (by simp only [Den])⟩
/-- and, or: as values and as tests -/
theorem blD_some {d : D} {b : Bool} (h : blD d = some b) : d = .bl b := by
  cases d <;> simp [blD] at h
  subst h; rfl
theorem se_one {op : BoolOp} (ha : SE Y sc fc a fa) : SE Y sc fc (.BoolOp op [a] pos) fa := by
  refine ⟨fun X ok H0 G0 G W H τ σ d w s h Q q => ⟨_, pe_one pe_tu, ha.run X ok _ _ _ _ _ _ _ _ w s h _ q⟩⟩
theorem se_and (ha : SE Y sc fc a fa) (hb : SE Y sc fc (.BoolOp .And (b :: es) pos) fb) : SE Y sc fc (.BoolOp .And (a :: b :: es) pos) (fun τ => ((fa τ).bind blD).bind fun k => bif k then fb τ else some (.bl false)) := by
  refine ⟨fun X ok H0 G0 G W H τ σ d w s h Q q => ?_⟩
  obtain ⟨k, hk, h⟩ := bnd h
  obtain ⟨x, hx, hk⟩ := bnd hk
  have := blD_some hk
  subst this
  refine ⟨_, pe_and pe_tu pe_tu, ?_⟩
  refine ha.run X ok _ _ _ _ _ _ _ _ w s hx _ fun v G1 H1 e1 w1 dv => ?_
  simp only [Den] at dv
  refine ⟨k, dv, ?_⟩
  cases k with
  | true => exact iteT (hb.run X ok _ _ _ _ _ _ _ _ w1 (s.mono e1) h _ fun v G2 H2 e2 w2 dv => q _ _ _ (e1.trans e2) w2 dv)
  | false => cases h; exact iteF (q _ _ _ e1 w1 (by simp only [Den]))
theorem se_or (ha : SE Y sc fc a fa) (hb : SE Y sc fc (.BoolOp .Or (b :: es) pos) fb) : SE Y sc fc (.BoolOp .Or (a :: b :: es) pos) (fun τ => ((fa τ).bind blD).bind fun k => bif k then some (.bl true) else fb τ) := by
  refine ⟨fun X ok H0 G0 G W H τ σ d w s h Q q => ?_⟩
  obtain ⟨k, hk, h⟩ := bnd h
  obtain ⟨x, hx, hk⟩ := bnd hk
  have := blD_some hk
  subst this
  refine ⟨_, pe_or pe_tu pe_tu, ?_⟩
  refine ha.run X ok _ _ _ _ _ _ _ _ w s hx _ fun v G1 H1 e1 w1 dv => ?_
  simp only [Den] at dv
  refine ⟨k, dv, ?_⟩
  cases k with
  | true => cases h; exact iteT (q _ _ _ e1 w1 (by simp only [Den]))
  | false => exact iteF (hb.run X ok _ _ _ _ _ _ _ _ w1 (s.mono e1) h _ fun v G2 H2 e2 w2 dv => q _ _ _ (e1.trans e2) w2 dv)
theorem SW.st {f : List Sl → Option Bool} (h : SW Y sc fc a f) : ST Y sc fc a f :=
  ⟨fun X ok H0 G0 G W H τ σ b w s hg Q q => by
    obtain ⟨t, p, r⟩ := h.run X ok H0 G0 G W H τ σ b w s hg Q q
    exact ⟨t, p.pt, r⟩⟩
theorem sw_and1 (ha : ST Y sc fc a ga) : SW Y sc fc (.BoolOp .And [a] pos) ga :=
  ⟨fun X ok H0 G0 G W H τ σ b w s h Q q => ⟨_, pw_and1 pt_tu, ha.run X ok _ _ _ _ _ _ _ _ w s h _ q⟩⟩
theorem sw_or1 (ha : ST Y sc fc a ga) : SW Y sc fc (.BoolOp .Or [a] pos) ga :=
  ⟨fun X ok H0 G0 G W H τ σ b w s h Q q => ⟨_, pw_or1 pt_tu, ha.run X ok _ _ _ _ _ _ _ _ w s h _ q⟩⟩
theorem sw_and (ha : ST Y sc fc a ga) (hb : SW Y sc fc (.BoolOp .And (b :: es) pos) gb) : SW Y sc fc (.BoolOp .And (a :: b :: es) pos) (fun τ => (ga τ).bind fun k => bif k then gb τ else some false) := by
  refine ⟨fun X ok H0 G0 G W H τ σ d w s h Q q => ?_⟩
  obtain ⟨k, hk, h⟩ := bnd h
  refine ⟨_, pw_and pt_tu pw_tu, ?_⟩
  refine ha.run X ok _ _ _ _ _ _ _ _ w s hk _ fun G1 H1 e1 w1 => ?_
  cases k with
  | true => exact iteT (hb.run X ok _ _ _ _ _ _ _ _ w1 (s.mono e1) h _ fun G2 H2 e2 w2 => q _ _ (e1.trans e2) w2)
  | false => cases h; exact iteF (q _ _ e1 w1)
theorem sw_or (ha : ST Y sc fc a ga) (hb : SW Y sc fc (.BoolOp .Or (b :: es) pos) gb) : SW Y sc fc (.BoolOp .Or (a :: b :: es) pos) (fun τ => (ga τ).bind fun k => bif k then some true else gb τ) := by
  refine ⟨fun X ok H0 G0 G W H τ σ d w s h Q q => ?_⟩
  obtain ⟨k, hk, h⟩ := bnd h
  refine ⟨_, pw_or pt_tu pw_tu, ?_⟩
  refine ha.run X ok _ _ _ _ _ _ _ _ w s hk _ fun G1 H1 e1 w1 => ?_
  cases k with
  | true => cases h; exact iteT (q _ _ e1 w1)
  | false => exact iteF (hb.run X ok _ _ _ _ _ _ _ _ w1 (s.mono e1) h _ fun G2 H2 e2 w2 => q _ _ (e1.trans e2) w2)
theorem se_ite (hc : ST Y sc fc c ga) (ha : SE Y sc fc a fa) (hb : SE Y sc fc b fb) : SE Y sc fc (.IfExp c a b pos) (fun τ => (ga τ).bind fun k => bif k then fa τ else fb τ) := by
  refine ⟨fun X ok H0 G0 G W H τ σ d w s h Q q => ?_⟩
  obtain ⟨k, hk, h⟩ := bnd h
  refine ⟨_, pe_ifExp pt_tu pe_tu pe_tu, ?_⟩
  refine hc.run X ok _ _ _ _ _ _ _ _ w s hk _ fun G1 H1 e1 w1 => ?_
  cases k with
  | true => exact iteT (ha.run X ok _ _ _ _ _ _ _ _ w1 (s.mono e1) h _ fun v G2 H2 e2 w2 dv => q _ _ _ (e1.trans e2) w2 dv)
  | false => exact iteF (hb.run X ok _ _ _ _ _ _ _ _ w1 (s.mono e1) h _ fun v G2 H2 e2 w2 dv => q _ _ _ (e1.trans e2) w2 dv)

/-! ### lists of expressions, displays -/
variable {fL : List Sl → Option (List D)}
theorem sa_nil : SA Y sc fc [] (fun _ => some []) :=
  ⟨fun X ok H0 G0 G W H τ σ d w s h Q q => by cases h; exact ⟨_, pa_nil, q [] G H (Sub.refl G) w (by simp only [DenL])⟩⟩
theorem sa_cons (hn : notStar a = true) (ha : SE Y sc fc a fa) (hL : SA Y sc fc es fL) : SA Y sc fc (a :: es) (fun τ => (fa τ).bind fun d => (fL τ).map (d :: ·)) := by
  refine ⟨fun X ok H0 G0 G W H τ σ ds w s h Q q => ?_⟩
  obtain ⟨x, hx, h⟩ := bnd h
  obtain ⟨xs, hxs, rfl⟩ := mpd h
  refine ⟨_, pa_cons pe_tu pa_tu (star_cons hn), ?_⟩
  refine ha.run X ok _ _ _ _ _ _ _ _ w s hx _ fun v G1 H1 e1 w1 dv => ?_
  refine hL.run X ok _ _ _ _ _ _ _ _ w1 (s.mono e1) hxs _ fun vs G2 H2 e2 w2 dvs => ?_
  exact q _ _ _ (e1.trans e2) w2 (by simp only [DenL]; exact ⟨v, vs, rfl, dv.mono e2, dvs⟩)
theorem se_tup {k : Nat} (hL : SA Y sc fc es fL) : SE Y sc fc (.Tuple es k pos) (fun τ => (fL τ).bind fun ds => if ds.length ≤ line then some (.tup ds) else none) := by
  refine ⟨fun X ok H0 G0 G W H τ σ d w s h Q q => ?_⟩
  obtain ⟨xs, hxs, h⟩ := bnd h
  split at h
  · rename_i hl
    cases h
    refine ⟨_, pe_tup pa_tu, ?_⟩
    refine hL.run X ok _ _ _ _ _ _ _ _ w s hxs _ fun vs G1 H1 e1 w1 dvs => ?_
    refine ⟨le_line (by rw [← dvs.length]; exact hl), fun p hp => q _ _ _ (e1.trans (sub_upd (w1.gnone hp))) (w1.new hp) ?_⟩
    simp only [Den]
    exact ⟨p, vs, rfl, SqT.of upd_same, dvs.mono (sub_upd (w1.gnone hp))⟩
  · cases h
theorem se_lst (hL : SA Y sc fc es fL) : SE Y sc fc (.List es pos) (fun τ => (fL τ).bind fun ds => if ds.length ≤ line then some (.lst ds) else none) := by
  refine ⟨fun X ok H0 G0 G W H τ σ d w s h Q q => ?_⟩
  obtain ⟨xs, hxs, h⟩ := bnd h
  split at h
  · rename_i hl
    cases h
    refine ⟨_, pe_lst pa_tu, ?_⟩
    refine hL.run X ok _ _ _ _ _ _ _ _ w s hxs _ fun vs G1 H1 e1 w1 dvs => ?_
    refine ⟨le_line (by rw [← dvs.length]; exact hl), fun p hp => q _ _ _ (e1.trans (sub_upd (w1.gnone hp))) (w1.new hp) ?_⟩
    simp only [Den]
    exact ⟨p, vs, rfl, upd_same, dvs.mono (sub_upd (w1.gnone hp))⟩
  · cases h

/-! ### places, slices -/
theorem noSl_of {e : Expr} (h : notSlice e = true) : NoSl e := by
  intro o i
  cases e <;> first | rfl | simp [notSlice] at h
theorem ixX_or {x y d : D} (h : ixX x y = some d) : ixD x y = some d ∨ ∃ ks vs q, x = .dct ks vs ∧ D.key y = some q ∧ dlook ks vs q = some d := by
  cases x <;> try exact .inl h
  right
  obtain ⟨q, h1, h2⟩ := bnd h
  exact ⟨_, _, q, rfl, h1, h2⟩
theorem se_ix (ha : SE Y sc fc a fa) (hb : SE Y sc fc b fb) (hs : notSlice b = true) : SE Y sc fc (.Subscript a b pos) (fun τ => (fa τ).bind fun x => (fb τ).bind fun y => ixX x y) := by
  refine ⟨fun X ok H0 G0 G W H τ σ d w s h Q q => ?_⟩
  obtain ⟨x, hx, h⟩ := bnd h
  obtain ⟨y, hy, h⟩ := bnd h
  have hu : X.A.units + 1 < cLine := by have := ok.room.units; omega
  rcases ixX_or h with h | ⟨ks, vs, q', rfl, hq, hl⟩
  · refine ⟨_, pe_ix ixR_u pe_tu pe_tu (plainIx_of hs), ?_⟩
    refine ha.run X ok _ _ _ _ _ _ _ _ w s hx _ fun v G1 H1 e1 w1 dv => ?_
    refine hb.run X ok _ _ _ _ _ _ _ _ w1 (s.mono e1) hy _ fun u G2 H2 e2 w2 du => ?_
    exact ix_run h (dv.mono e2) du w2 fun z G' H' e' w' dz => q z G' H' ((e1.trans e2).trans e') w' dz
  · refine ⟨_, pe_dget hu pe_tu pe_tu (noSl_of hs), ?_⟩
    refine ha.run X ok _ _ _ _ _ _ _ _ w s hx _ fun v G1 H1 e1 w1 dv => ?_
    refine hb.run X ok _ _ _ _ _ _ _ _ w1 (s.mono e1) hy _ fun u G2 H2 e2 w2 du => ?_
    obtain ⟨p, ob, eu, _, g, hh⟩ := dget_den du hq (dv.mono e2) w2.gh
    rcases hh with ⟨d', z, a1, a2, a3⟩ | ⟨a1, a2⟩
    · rw [hl] at a1
      cases a1
      subst a2
      exact ⟨p, z, eu, g, q _ _ _ (e1.trans e2) w2 a3⟩
    · rw [hl] at a1; cases a1
structure SO (Y : Stat) (sc : Scope) (fc : Str → Bool) (e : Option Expr) (f : List Sl → Option (Option Int)) : Prop where
  run : ∀ X, XOk Y sc fc X → ∀ H0 G0 G W H τ σ o, Wd H0 G0 G W H → SlOk X.K G W τ σ → f τ = some o → ∀ Q : Option Int → Hp → Prop, (∀ G' H', Sub G G' → Wd H0 G0 G' W H' → Q o H') → ∃ t, PO X e t ∧ t σ H Q
theorem so_none : SO Y sc fc none (fun _ => some none) :=
  ⟨fun X ok H0 G0 G W H τ σ o w s h Q q => by cases h; exact ⟨_, po_none, q G H (Sub.refl G) w⟩⟩
theorem so_some (ha : SE Y sc fc a fa) : SO Y sc fc (some a) (fun τ => (fa τ).bind fun d => (intD d).map some) := by
  refine ⟨fun X ok H0 G0 G W H τ σ o w s h Q q => ?_⟩
  obtain ⟨x, hx, h⟩ := bnd h
  obtain ⟨i, hi, rfl⟩ := mpd h
  cases x <;> simp [intD] at hi
  subst hi
  refine ⟨_, po_some pe_tu, ?_⟩
  refine ha.run X ok _ _ _ _ _ _ _ _ w s hx _ fun v G1 H1 e1 w1 dv => ?_
  simp only [Den] at dv
  exact ⟨_, dv, q _ _ e1 w1⟩
def TUo (X : Cx) (e : Option Expr) : TO := fun σ H Q => ∃ t, PO X e t ∧ t σ H Q
theorem po_tu {X : Cx} {e : Option Expr} : PO X e (TUo X e) := ⟨fun pins s σ H Q I ⟨_, p, h⟩ => p.run pins s σ H Q I h⟩
theorem se_sl {lo hi : Option Expr} {f1 f2 : List Sl → Option (Option Int)} (ha : SE Y sc fc a fa) (hl : SO Y sc fc lo f1) (hh : SO Y sc fc hi f2) : SE Y sc fc (.Subscript a (.Slice lo hi none p2) pos)
    (fun τ => (fa τ).bind fun x => (f1 τ).bind fun l => (f2 τ).bind fun h => slD l h x) := by
  refine ⟨fun X ok H0 G0 G W H τ σ d w s h Q q => ?_⟩
  obtain ⟨x, hx, h⟩ := bnd h
  obtain ⟨l, hl', h⟩ := bnd h
  obtain ⟨u, hu', h⟩ := bnd h
  refine ⟨_, pe_slice slR_u pe_tu po_tu po_tu, ?_⟩
  refine ha.run X ok _ _ _ _ _ _ _ _ w s hx _ fun v G1 H1 e1 w1 dv => ?_
  refine hl.run X ok _ _ _ _ _ _ _ _ w1 (s.mono e1) hl' _ fun G2 H2 e2 w2 => ?_
  refine hh.run X ok _ _ _ _ _ _ _ _ w2 (s.mono (e1.trans e2)) hu' _ fun G3 H3 e3 w3 => ?_
  exact sl_run h (dv.mono (e2.trans e3)) w3 fun z G' H' e' w' dz => q z G' H' (((e1.trans e2).trans e3).trans e') w' dz

/-! ### calls -/
theorem dbg_of {x : Str} (h : decide (x = ("__debug__" : Str)) = false) : (x == ("__debug__" : Str)) = false := by simpa using h
theorem call_run {X : Cx} (ok : XOk Y sc fc X) {i : Nat} {x : Str} (hi : (i, x) ∈ Y.fns) {H0 G0 G W H : Hp} {ds : List D} {d : D} {vs : List V} {Q : VK} (w : Wd H0 G0 G W H) (hd : DenL X.K G ds vs) (hF : Y.Z.F i ds = some d) (q : EQ X.K H0 G0 G W d Q) (E : XK) :
    spF X.K (Y.Z.F i) vs H Q E := ⟨ds, d, G, w.gh, hd, hF, fun v G' H' a b c e dv => q v G' H' b (w.call a b c e) dv⟩
theorem se_call {i : Nat} {x : Str} (hi : (i, x) ∈ Y.fns) (hg : sc.names.lookup x = some .globalImplicit) (hd : (x == ("__debug__" : Str)) = false) (hn : (a :: es).all notStar = true) (hL : SA Y sc fc (a :: es) fL) :
    SE Y sc fc (.Call (.Name x p) (a :: es) [] pos) (fun τ => (fL τ).bind fun ds => Y.Z.F i ds) := by
  refine ⟨fun X ok H0 G0 G W H τ σ d w s h Q q => ?_⟩
  obtain ⟨xs, hxs, h⟩ := bnd h
  obtain ⟨f, fd, ps, hm, hk, hb, hF⟩ := (ok.fns i x hi).ex
  simp only [List.all_cons, Bool.and_eq_true] at hn
  refine ⟨_, pe_call hF ok.room (ok.gl hg) hm hk hb .nil pass0 pa_tu hd (star_cons hn.1) (star_any hn.2), ?_⟩
  refine hL.run X ok _ _ _ _ _ _ _ _ w s hxs _ fun vs G1 H1 e1 w1 dvs => ?_
  rw [List.append_nil]
  exact call_run ok hi w1 dvs h (fun z G' H' e' w' dz => q z G' H' (e1.trans e') w' dz) _
theorem se_call0 {i : Nat} {x : Str} (hi : (i, x) ∈ Y.fns) (hg : sc.names.lookup x = some .globalImplicit) (hd : (x == ("__debug__" : Str)) = false) :
    SE Y sc fc (.Call (.Name x p) [] [] pos) (fun τ => Y.Z.F i []) := by
  refine ⟨fun X ok H0 G0 G W H τ σ d w s h Q q => ?_⟩
  obtain ⟨f, fd, ps, hm, hk, hb, hF⟩ := (ok.fns i x hi).ex
  refine ⟨_, pe_call0 hF ok.room (ok.gl hg) hm hk hb .nil pass0 hd, ?_⟩
  show spF X.K (Y.Z.F i) ([] : List V) H Q E0
  exact call_run ok hi w (by simp only [DenL]) h q _
theorem se_blt {f : BF} (hf : f = .gcd → Y.gcd = true) (hbl : f ≠ .gcd → nmF f ∈ Y.bl) (hg : sc.names.lookup (nmF f) = some .globalImplicit) (hn : (a :: es).all notStar = true) (hL : SA Y sc fc (a :: es) fL) :
    SE Y sc fc (.Call (.Name (nmF f) p) (a :: es) [] pos) (fun τ => (fL τ).bind fun ds => bltD f ds) := by
  refine ⟨fun X ok H0 G0 G W H τ σ d w s h Q q => ?_⟩
  obtain ⟨xs, hxs, h⟩ := bnd h
  simp only [List.all_cons, Bool.and_eq_true] at hn
  have key : PE X (.Call (.Name (nmF f) p) (a :: es) [] pos) (tCB (UCall X (valF f)) (TUa X (a :: es))) → TU X (.Call (.Name (nmF f) p) (a :: es) [] pos) σ H Q := fun hp => by
    refine ⟨_, hp, ?_⟩
    refine hL.run X ok _ _ _ _ _ _ _ _ w s hxs _ fun vs G1 H1 e1 w1 dvs => ?_
    exact blt_run ok.calm h dvs w1 fun z G' H' e' w' dz => q z G' H' (e1.trans e') w' dz
  refine key ?_
  by_cases hgc : f = .gcd
  · subst hgc
    exact pe_callBfun callR_u (ok.gl hg) (ok.gcd (hf rfl)) pa_tu (by decide +kernel) (star_cons hn.1) (star_any hn.2)
  · have hm := ok.bl _ (hbl hgc)
    have hb := bootF hgc
    obtain ⟨n1, n2⟩ := nameF hgc
    cases ht : tyF f with
    | none =>
      have ev : valF f = .builtin (idF f) := by unfold valF; rw [ht]
      rw [ev] at hb ⊢
      exact pe_callB callR_u (ok.gl hg) hm hb pa_tu n1 n2 (star_cons hn.1) (star_any hn.2)
    | some t =>
      have ev : valF f = .type t := by unfold valF; rw [ht]
      rw [ev] at hb ⊢
      exact pe_callTy callR_u (ok.gl hg) hm hb pa_tu n1 n2 (star_cons hn.1) (star_any hn.2)
end
end Pv

set_option Elab.async false
set_option linter.all false
set_option maxRecDepth 100000
set_option maxHeartbeats 4000000

namespace Pv
open PySem PySem.Spec L2

section
variable {Y : Stat} {sc : Scope} {fc : Str → Bool} {pos p p1 p2 : Pos} {a b c : Expr} {es : List Expr} {fa fb fd : List Sl → Option D} {fL fK : List Sl → Option (List D)}

/-! ### isinstance -/
theorem pe_ty {X : Cx} (ok : XOk Y sc fc X) {t : Ty} (hb : nmT t ∈ Y.bl) (hg : sc.names.lookup (nmT t) = some .globalImplicit) : PE X (.Name (nmT t) pos) (tC (.ty (sT t))) :=
  pe_bltn (ok.gl hg) (ok.bl _ hb) (bootT t) rfl (nameT t).1 (nameT t).2
theorem boot_isi : bootBuiltins "isinstance" = some (.builtin "isinstance") := by decide +kernel
theorem se_isi {t : Ty} (hi : ("isinstance" : Str) ∈ Y.bl) (hgi : sc.names.lookup ("isinstance" : Str) = some .globalImplicit) (hb : nmT t ∈ Y.bl) (hg : sc.names.lookup (nmT t) = some .globalImplicit) (hn : notStar a = true) (ha : SE Y sc fc a fa) :
    SE Y sc fc (.Call (.Name "isinstance" p) [a, .Name (nmT t) p1] [] pos) (fun τ => (fa τ).bind fun x => if isIns x then insI Y.Z.K x else some (.bl ([t].any (isi1 x)))) := by
  refine ⟨fun X ok H0 G0 G W H τ σ d w s h Q q => ?_⟩
  obtain ⟨x, hx, h⟩ := bnd h
  · refine ⟨_, pe_callB call_isi (ok.gl hgi) (ok.bl _ hi) boot_isi (pa_cons pe_tu (pa_cons (pe_ty ok hb hg) pa_nil (star_cons rfl)) (star_cons hn)) (by decide +kernel) (by decide +kernel) (star_cons hn) (star_any (by rfl)), ?_⟩
    refine ha.run X ok _ _ _ _ _ _ _ _ w s hx _ fun v G1 H1 e1 w1 dv => ?_
    obtain ⟨rfl, n, ty, hk⟩ := isi_tyX ok.cl h dv w1.gh
    exact ⟨v, .ty (sT t), n, .type (sT t), isi1 x t, rfl, .ty _, ty, hk t, by rw [← Bool.or_false (isi1 x t)]; exact q _ _ _ e1 w1 (by simp only [Den]; rfl)⟩
/-- the tuple of the classes -/
theorem pa_tys {X : Cx} (ok : XOk Y sc fc X) : ∀ {ts : List Ty} {ns : List Expr}, ns.length = ts.length → (∀ (i : Nat) n t, ns[i]? = some n → ts[i]? = some t → ∃ q, n = Expr.Name (nmT t) q ∧ nmT t ∈ Y.bl ∧ sc.names.lookup (nmT t) = some .globalImplicit) →
    PA X ns (fun _ H Q => Q (ts.map fun t => V.ty (sT t)) H)
  | [], [], _, _ => ⟨fun pos pins s σ H Q I h => pa_nil.run pos pins s σ H Q I h⟩
  | [], _ :: _, h, _ => by simp at h
  | _ :: _, [], h, _ => by simp at h
  | t :: ts, n :: ns, hl, hh => by
    obtain ⟨q, rfl, hb, hg⟩ := hh 0 n t rfl rfl
    have ih := pa_tys ok (ts := ts) (ns := ns) (by simpa using hl) fun i n t h1 h2 => hh (i + 1) n t (by simpa using h1) (by simpa using h2)
    exact ⟨fun pos pins s σ H Q I h => (pa_cons (pe_ty ok hb hg) ih (star_cons rfl)).run pos pins s σ H Q I h⟩
theorem cls_all : ∀ ts : List Ty, Paired ClsV (ts.map fun t => V.ty (sT t)) (ts.map fun t => Value.type (sT t))
  | [] => .nil
  | t :: ts => .cons (.ty _) (cls_all ts)
theorem se_isit {ts : List Ty} {ns : List Expr} {k : Nat} (hi : ("isinstance" : Str) ∈ Y.bl) (hgi : sc.names.lookup ("isinstance" : Str) = some .globalImplicit) (hl : ns.length = ts.length) (hz : ts.length ≤ 100)
    (hh : ∀ (i : Nat) n t, ns[i]? = some n → ts[i]? = some t → ∃ q, n = Expr.Name (nmT t) q ∧ nmT t ∈ Y.bl ∧ sc.names.lookup (nmT t) = some .globalImplicit) (hn : notStar a = true) (ha : SE Y sc fc a fa) :
    SE Y sc fc (.Call (.Name "isinstance" p) [a, .Tuple ns k p1] [] pos) (fun τ => (fa τ).bind fun x => if isIns x then insI Y.Z.K x else some (.bl (ts.any (isi1 x)))) := by
  refine ⟨fun X ok H0 G0 G W H τ σ d w s h Q q => ?_⟩
  obtain ⟨x, hx, h⟩ := bnd h
  · refine ⟨_, pe_callB call_isiT (ok.gl hgi) (ok.bl _ hi) boot_isi (pa_cons pe_tu (pa_cons (pe_tup (pa_tys ok hl hh)) pa_nil (star_cons rfl)) (star_cons hn)) (by decide +kernel) (by decide +kernel) (star_cons hn) (star_any (by rfl)), ?_⟩
    refine ha.run X ok _ _ _ _ _ _ _ _ w s hx _ fun v G1 H1 e1 w1 dv => ?_
    refine ⟨by rw [List.length_map, sizeLine_eq]; omega, fun z hz' => ?_⟩
    have w2 := w1.new (o := .tup (ts.map fun t => V.ty (sT t))) hz'
    have e2 : Sub _ _ := sub_upd (o := .tup (ts.map fun t => V.ty (sT t))) (w1.gnone hz')
    obtain ⟨rfl, n, ty, hk⟩ := isi_tyX (X := X) ok.cl h (dv.mono e2) w2.gh
    exact ⟨v, z, _, n, _, _, rfl, upd_same, cls_all ts, ty, kitAll hk ts, q _ _ _ (e1.trans e2) w2 (by simp only [Den])⟩

/-! ### dicts written -/
end
/-- the pairs' readings, chosen where they are used -/
def SD (Y : Stat) (sc : Scope) (fc : Str → Bool) (pos : Pos) (ks : List (Option Expr)) (vs : List Expr) (g : List Sl → Option (List D)) : Prop :=
  ∀ X, XOk Y sc fc X → ∃ trs, PPs X pos ks vs trs ∧ ∀ H0 G0 G W H τ σ ds, Wd H0 G0 G W H → SlOk X.K G W τ σ → g τ = some ds → ∀ Q : List (V × V) → Hp → Prop,
    (∀ us ws G' H', Sub G G' → Wd H0 G0 G' W H' → DenL X.K G' (evens ds) us → DenL X.K G' (odds ds) ws → us.length = ws.length → Q (us.zip ws) H') → tPairs trs σ H Q
section
variable {Y : Stat} {sc : Scope} {fc : Str → Bool} {pos p p1 p2 : Pos} {a b c : Expr} {es : List Expr} {fa fb fd : List Sl → Option D} {fL fK : List Sl → Option (List D)} {ks : List (Option Expr)} {vs : List Expr}
theorem sd_nil : SD Y sc fc pos [] [] (fun _ => some []) :=
  fun X ok => ⟨_, pps_nil, fun H0 G0 G W H τ σ ds w s h Q q => by cases h; exact q [] [] G H (Sub.refl G) w (by simp only [evens, DenL]) (by simp only [odds, DenL]) rfl⟩
theorem sd_cons (ha : SE Y sc fc a fa) (hb : SE Y sc fc b fb) (hL : SD Y sc fc pos ks vs fL) :
    SD Y sc fc pos (some a :: ks) (b :: vs) (fun τ => (fa τ).bind fun d => ((fb τ).bind fun e => (fL τ).map (e :: ·)).map (d :: ·)) := by
  intro X ok
  obtain ⟨trs, hp, hr⟩ := hL X ok
  refine ⟨(TU X a, TU X b) :: trs, pps_cons pe_tu pe_tu hp, fun H0 G0 G W H τ σ ds w s h Q q => ?_⟩
  obtain ⟨x, hx, h1⟩ := bnd h
  obtain ⟨ds', h2, rfl⟩ := mpd h1
  obtain ⟨y, hy, h3⟩ := bnd h2
  obtain ⟨ds, hds, rfl⟩ := mpd h3
  show TU X a σ H fun x H1 => TU X b σ H1 fun y H2 => tPairs trs σ H2 fun ps H3 => Q ((x, y) :: ps) H3
  refine ha.run X ok _ _ _ _ _ _ _ _ w s hx _ fun v G1 H1 e1 w1 dv => ?_
  refine hb.run X ok _ _ _ _ _ _ _ _ w1 (s.mono e1) hy _ fun u G2 H2 e2 w2 du => ?_
  refine hr _ _ _ _ _ _ _ _ w2 (s.mono (e1.trans e2)) hds _ fun us ws G3 H3 e3 w3 dus dws hl => ?_
  exact q (v :: us) (u :: ws) _ _ ((e1.trans e2).trans e3) w3 (by simp only [evens, DenL]; exact ⟨v, us, rfl, dv.mono (e2.trans e3), dus⟩) (by simp only [odds, DenL]; exact ⟨u, ws, rfl, du.mono e3, dws⟩) (by simp [hl])
theorem se_dct0 : SE Y sc fc (.Dict [] [] pos) (fun _ => some (.dct [] [])) := by
  refine ⟨fun X ok H0 G0 G W H τ σ d w s h Q q => ?_⟩
  cases h
  refine ⟨_, pe_dnewK, fun z hz => q _ _ _ (sub_upd (w.gnone hz)) (w.new hz) ?_⟩
  simp only [Den]
  exact ⟨z, [], rfl, upd_same, rfl, by simp [DenL]⟩
theorem key_den {K : PySem.W.Frag} {G : Hp} {x : D} {v : V} {k : Key} (h : D.key x = some k) (hx : Den K G x v) : v = kV k := by
  cases x <;> simp only [D.key] at h <;> cases h <;> (simp only [Den] at hx; exact hx)
theorem keys_den {K : PySem.W.Frag} {G : Hp} : ∀ {xs : List D} {us ws : List V}, distinctK (xs.map D.key) = true → DenL K G xs us → us.length = ws.length →
    ∃ kvs : List (Key × V), us.zip ws = kvs.map (fun kv => (kV kv.1, kv.2)) ∧ xs.map D.key = kvs.map (fun p => some p.1) ∧ kvs.map (fun p => p.2) = ws ∧ kvs.length = us.length
  | [], _, ws, _, h, hl => by
    simp only [DenL] at h
    subst h
    have : ws = [] := List.eq_nil_of_length_eq_zero (by simpa using hl.symm)
    subst this
    exact ⟨[], rfl, rfl, rfl, rfl⟩
  | x :: xs, _, ws, hd, h, hl => by
    simp only [DenL] at h
    obtain ⟨v, r, e, h1, h2⟩ := h
    subst e
    cases ws with
    | nil => simp at hl
    | cons y ws =>
      cases hk : D.key x with
      | none => simp [hk, distinctK] at hd
      | some k =>
        simp only [List.map_cons, hk, distinctK, Bool.and_eq_true] at hd
        obtain ⟨kvs, a1, a2, a3, a4⟩ := keys_den hd.2 h2 (by simpa using hl)
        exact ⟨(k, y) :: kvs, by simp [a1, key_den hk h1], by simp [hk, a2], by simp [a3], by simp [a4]⟩
theorem valV_none {kvs : List (Key × V)} {k : Key} (h : some k ∉ kvs.map fun p => some p.1) : valV kvs k = none := by
  unfold valV
  rw [Option.map_eq_none_iff, List.find?_eq_none]
  intro p hp z
  have e : p.1 = k := by simpa using z
  exact h (List.mem_map.mpr ⟨p, hp, by rw [e]⟩)
theorem distinct_snoc : ∀ {l : List (Option Key)} {k : Key}, distinctK (l ++ [some k]) = true → some k ∉ l ∧ distinctK l = true
  | [], k, _ => ⟨by simp, rfl⟩
  | none :: r, k, h => by simp [distinctK] at h
  | some j :: r, k, h => by
    simp only [List.cons_append, distinctK, Bool.and_eq_true, List.all_eq_true, decide_eq_true_eq] at h
    obtain ⟨h1, h2⟩ := h
    obtain ⟨a, b⟩ := distinct_snoc h2
    have hj : ¬ (some k = some j) := h1 (some k) (by simp)
    refine ⟨?_, ?_⟩
    · rw [List.mem_cons, not_or]
      exact ⟨hj, a⟩
    · simp only [distinctK, Bool.and_eq_true, List.all_eq_true, decide_eq_true_eq]
      exact ⟨fun x z => h1 x (List.mem_append_left _ z), b⟩
theorem distinct_app : ∀ {l m : List (Option Key)}, distinctK (l ++ m) = true → distinctK l = true
  | [], _, _ => rfl
  | none :: r, m, h => by simp [distinctK] at h
  | some j :: r, m, h => by
    simp only [List.cons_append, distinctK, Bool.and_eq_true, List.all_eq_true, decide_eq_true_eq] at h ⊢
    exact ⟨fun x z => h.1 x (List.mem_append_left _ z), distinct_app h.2⟩
theorem merge_new : ∀ {more kvs : List (Key × V)}, distinctK ((kvs ++ more).map fun p => some p.1) = true → mergeK kvs more = kvs ++ more
  | [], kvs, _ => by simp [mergeK]
  | p :: more, kvs, h => by
    have h1 : distinctK ((kvs.map fun p => some p.1) ++ [some p.1]) = true := by
      refine distinct_app (m := more.map fun p => some p.1) ?_
      simpa using h
    obtain ⟨a, _⟩ := distinct_snoc h1
    show mergeK (putK kvs p.1 p.2) more = _
    rw [putK_new _ (valV_none a)]
    have ih := merge_new (more := more) (kvs := kvs ++ [p]) (by simpa using h)
    simpa using ih
theorem se_dct (h0 : ks ≠ []) (hall : ks.all (·.isSome) = true) (hlen : ks.length = vs.length) (h15 : ks.length ≤ 15) (hL : SD Y sc fc pos ks vs fL) :
    SE Y sc fc (.Dict ks vs pos) (fun τ => (fL τ).bind fun ds => dctD (evens ds) (odds ds)) := by
  refine ⟨fun X ok H0 G0 G W H τ σ d w s h Q q => ?_⟩
  obtain ⟨ds, hds, h⟩ := bnd h
  unfold dctD at h
  split at h
  · rename_i hc
    cases h
    simp only [Bool.and_eq_true, decide_eq_true_eq] at hc
    obtain ⟨⟨c1, c2⟩, c3⟩ := hc
    obtain ⟨trs, hp, hr⟩ := hL X ok
    refine ⟨_, pe_disp hp hall hlen h0 h15, fun z hz => ?_⟩
    have w1 := w.newO (o := .dK []) hz
    have s1 : SlOk X.K G (upd W z (.dK [])) τ σ := ⟨s.len, s.val, fun i ds hi => let ⟨a, us, x, y, t⟩ := s.own i ds hi; ⟨a, us, x, by rw [upd_ne (ne_of_none y (w.wnone hz))]; exact y, t⟩, s.dis⟩
    refine hr _ _ _ _ _ _ _ _ w1 s1 hds _ fun us ws G1 H1 e1 w2 dus dws hl => ?_
    obtain ⟨kvs, a1, a2, a3, a4⟩ := keys_den c3 dus hl
    refine ⟨(w2.wh z _ upd_same).1, kvs, a1, by rw [a4, ← dus.length]; exact c2, ?_⟩
    have hm : mergeK [] kvs = kvs := by
      have := merge_new (more := kvs) (kvs := []) (by rw [List.nil_append, ← a2]; exact c3)
      simpa using this
    rw [hm]
    have hzG : G1 z = none := (w2.wh z _ upd_same).2
    have w3 := (w2.set (o' := .dK kvs) upd_same).give (o := .dK kvs) upd_same
    refine q _ _ _ (e1.trans (sub_upd hzG)) (?_ : Wd H0 G0 (upd G1 z (.dK kvs)) W (upd H1 z (.dK kvs))) ?_
    · have ew : del (upd (upd W z (.dK [])) z (.dK kvs)) z = W := by
        funext a
        by_cases ha : a = z
        · subst ha; rw [del_same]; exact (w.wnone hz).symm
        · rw [del_ne ha, upd_ne ha, upd_ne ha]
      rw [ew] at w3
      exact w3
    · simp only [Den]
      refine ⟨z, kvs, rfl, upd_same, a2, ?_⟩
      rw [a3]
      exact dws.mono (sub_upd hzG)
  · cases h

/-! ### reading a list of one's own -/
theorem se_ixo {i : Nat} {x : Str} (hN : Y.N[i]? = some x) (hv : Vis sc x) (hd : (x == ("__debug__" : Str)) = false) (hcd : (x == ("__classdict__" : Str)) = false) (hb : SE Y sc fc b fb) (hs : notSlice b = true) :
    SE Y sc fc (.Subscript (.Name x p) b pos) (fun τ => (getO τ i).bind fun xs => ((fb τ).bind intD).bind fun k => atI xs k) := by
  refine ⟨fun X ok H0 G0 G W H τ σ d w s h Q q => ?_⟩
  obtain ⟨xs, hxs, h⟩ := bnd h
  obtain ⟨k, hk, h⟩ := bnd h
  obtain ⟨y, hy, hk⟩ := bnd hk
  cases y <;> simp [intD] at hk
  subst hk
  obtain ⟨a, ob, h1, h2, h3⟩ := s.own i _ (getO_some hxs)
  simp only [DenO] at h3
  obtain ⟨us, rfl, h3⟩ := h3
  refine ⟨_, pe_ix ix_list (pe_var (by rw [ok.eN]; exact hN) (ok.vis hv) hd hcd) pe_tu (plainIx_of hs), ?_⟩
  refine ⟨_, h1, ?_⟩
  refine hb.run X ok _ _ _ _ _ _ _ _ w s hy _ fun v G1 H1 e1 w1 dv => ?_
  simp only [Den] at dv
  obtain ⟨z, hz, dz⟩ := atI_den (h3.mono e1) h
  exact ⟨a, us, _, z, rfl, dv, SqL.of (w1.wh _ _ h2).1, hz, q _ _ _ e1 w1 dz⟩
theorem se_leno {i : Nat} {x : Str} (hN : Y.N[i]? = some x) (hv : Vis sc x) (hd : (x == ("__debug__" : Str)) = false) (hcd : (x == ("__classdict__" : Str)) = false) (hl : ("len" : Str) ∈ Y.bl) (hg : sc.names.lookup ("len" : Str) = some .globalImplicit) :
    SE Y sc fc (.Call (.Name "len" p1) [.Name x p] [] pos) (fun τ => (getO τ i).map fun xs => .int xs.length) := by
  refine ⟨fun X ok H0 G0 G W H τ σ d w s h Q q => ?_⟩
  obtain ⟨xs, hxs, rfl⟩ := mpd h
  obtain ⟨a, ob, h1, h2, h3⟩ := s.own i _ (getO_some hxs)
  simp only [DenO] at h3
  obtain ⟨us, rfl, h3⟩ := h3
  refine ⟨_, pe_callB call_len_seq (ok.gl hg) (ok.bl _ hl) PySem.boot_len (pa_cons (pe_var (by rw [ok.eN]; exact hN) (ok.vis hv) hd hcd) pa_nil (star_cons rfl)) (by decide +kernel) (by decide +kernel) (star_cons rfl) (star_any rfl), ?_⟩
  exact ⟨_, h1, a, us, rfl, .inl (SqL.of (w.wh _ _ h2).1), q.here w (by simp only [Den]; rw [h3.length])⟩

/-! ### targets -/
theorem wipe_set {σ : St} {i : Nat} {x : Option V} : ∀ {vs : List Nat}, i ∈ vs → wipe (σ.set i x) vs = wipe σ vs
  | [], h => by cases h
  | v :: vs, h => by
    show (wipe (σ.set i x) vs).set v none = (wipe σ vs).set v none
    by_cases hv : i ∈ vs
    · rw [wipe_set hv]
    · have e : i = v := by
        rcases List.mem_cons.mp h with e | e
        · exact e
        · exact absurd e hv
      subst e
      have : ∀ (ws : List Nat), i ∉ ws → wipe (σ.set i x) ws = (wipe σ ws).set i x := by
        intro ws
        induction ws with
        | nil => intro _; rfl
        | cons u us ih =>
          intro hu
          show (wipe (σ.set i x) us).set u none = ((wipe σ us).set u none).set i x
          rw [ih (fun z => hu (List.mem_cons_of_mem _ z)), List.set_comm]
          intro z
          exact hu (by rw [z]; exact List.mem_cons_self)
      rw [this vs hv, List.set_set]
theorem wipe_wipe (σ : St) (vs : List Nat) : wipe (wipe σ vs) vs = wipe σ vs := by
  have key : ∀ ws : List Nat, (∀ w ∈ ws, w ∈ vs) → wipe (wipe σ ws) vs = wipe σ vs := by
    intro ws
    induction ws with
    | nil => intro _; rfl
    | cons u us ih =>
      intro h
      show wipe ((wipe σ us).set u none) vs = _
      rw [wipe_set (h u List.mem_cons_self), ih fun w hw => h w (List.mem_cons_of_mem _ hw)]
  exact key vs fun _ h => h
theorem sg_nm {i : Nat} {x : Str} (hN : Y.N[i]? = some x) (hx : Loc sc x) (hf : (fc x || decide (sc.names.lookup x = some .local)) = true) : SG Y sc fc (.Name x pos) (.nm i) := by
  refine ⟨fun X ok H0 G0 G W H τ σ d v τ' w s dv h Q q => ?_⟩
  cases h
  refine ⟨_, pg_name ok.nd (by rw [ok.eN]; exact hN) (ok.loc hx) (ok.hf hf), ?_⟩
  exact q _ (s.put dv) fun vs hv => wipe_set (hv i (by simp [tixs]))
structure SGs (Y : Stat) (sc : Scope) (fc : Str → Bool) (tgs : List Expr) (is : List Nat) : Prop where
  run : ∀ X, XOk Y sc fc X → ∀ G W H τ σ ds vs τ', SlOk X.K G W τ σ → DenL X.K G ds vs → setAll is ds τ = some τ' → ∀ Q : L2.St → Hp → Prop,
    (∀ σ', SlOk X.K G W τ' σ' → (∀ ws, (∀ i ∈ is, i ∈ ws) → wipe σ' ws = wipe σ ws) → Q σ' H) → TUgs X tgs vs σ H Q
theorem sgs_nil : SGs Y sc fc [] [] := by
  refine ⟨fun X ok G W H τ σ ds vs τ' s dv h Q q => ?_⟩
  cases ds with
  | nil =>
    cases h
    simp only [DenL] at dv
    subst dv
    exact ⟨_, pgs_nil, rfl, q _ s fun _ _ => rfl⟩
  | cons d ds => simp [setAll] at h
theorem assign_star {e : Expr} {es : List Expr} {env : Env} (h : notStar e = true) : assignEach (e :: es) env = (false, assign e env) :: assignEach es env := by
  cases e <;> first | rfl | simp [notStar] at h
theorem sgs_cons {i : Nat} {x : Str} {tgs : List Expr} {is : List Nat} (hN : Y.N[i]? = some x) (hx : Loc sc x) (hf : (fc x || decide (sc.names.lookup x = some .local)) = true) (hr : SGs Y sc fc tgs is) : SGs Y sc fc (.Name x pos :: tgs) (i :: is) := by
  refine ⟨fun X ok G W H τ σ ds vs τ' s dv h Q q => ?_⟩
  cases ds with
  | nil => simp [setAll] at h
  | cons d ds =>
    simp only [setAll] at h
    simp only [DenL] at dv
    obtain ⟨v, r, rfl, d1, d2⟩ := dv
    refine ⟨_, pgs_cons (pg_name ok.nd (by rw [ok.eN]; exact hN) (ok.loc hx) (ok.hf hf)) pgs_tu (by rw [assign_star rfl]; rfl), v, r, rfl, ?_⟩
    refine hr.run X ok _ _ _ _ _ _ _ _ (s.put d1) d2 h _ fun σ' s' hw => q _ s' fun ws hi => ?_
    rw [hw ws fun j hj => hi j (List.mem_cons_of_mem _ hj)]
    exact wipe_set (hi i List.mem_cons_self)
theorem setAll_len : ∀ {is : List Nat} {ds : List D} {τ τ' : List Sl}, setAll is ds τ = some τ' → is.length = ds.length
  | [], [], _, _, _ => rfl
  | [], _ :: _, _, _, h => by simp [setAll] at h
  | _ :: _, [], _, _, h => by simp [setAll] at h
  | i :: is, d :: ds, τ, τ', h => by simp only [setAll] at h; simp [setAll_len h]
theorem assign_len {env : Env} : ∀ {tgs : List Expr}, tgs.all notStar = true → (assignEach tgs env).length = tgs.length ∧ (assignEach tgs env).findIdx? (·.1) = none
  | [], _ => ⟨rfl, rfl⟩
  | e :: es, h => by
    simp only [List.all_cons, Bool.and_eq_true] at h
    obtain ⟨a, b⟩ := assign_len (env := env) h.2
    rw [assign_star h.1]
    refine ⟨by simp [a], ?_⟩
    rw [List.findIdx?_cons, b]
    rfl
theorem sg_tp {tgs : List Expr} {is : List Nat} {k : Nat} (hn : tgs.all notStar = true) (hl : tgs.length = is.length) (hr : SGs Y sc fc tgs is) : SG Y sc fc (.Tuple tgs k pos) (.tp is) := by
  refine ⟨fun X ok H0 G0 G W H τ σ d v τ' w s dv h Q q => ?_⟩
  cases d <;> simp only [setT] at h <;> try cases h
  rename_i ds
  simp only [Den] at dv
  obtain ⟨a, us, rfl, h1, h2⟩ := dv
  obtain ⟨l1, l2⟩ := assign_len (env := X.env) hn
  refine ⟨_, pg_tup ok.calm pgs_tu l1 l2, a, us, rfl, sub_t w.gh h1, ?_, ?_⟩
  · rw [← h2.length, ← setAll_len h, hl]
  · exact hr.run X ok _ _ _ _ _ _ _ _ s h2 h _ fun σ' s' hw => q _ s' hw
end
end Pv

set_option Elab.async false
set_option linter.all false
set_option maxRecDepth 100000
set_option maxHeartbeats 4000000

namespace Pv
open PySem PySem.Spec PyProof.Rows L2

/-! ### zip of two texts -/
/-- the signs of the two texts, in new pairs -/
def ItzS (x y : Str) : It :=
  ⟨fun i _ => i < x.cps.size ∧ i < y.cps.size,
    fun i H v H' => ∃ (T : Addr) (c d : Nat), v = V.ref T ∧ H T = none ∧ H' = upd H T (.tup [V.str ⟨#[c]⟩, V.str ⟨#[d]⟩]) ∧ x.cps[i]? = some c ∧ y.cps[i]? = some d,
    fun i _ => i = min x.cps.size y.cps.size⟩
theorem turn_zipS {P : Program} {w : World} {K : PySem.W.Frag} {elts : List Expr} {kk : Nat} {tpos : Pos} {x y : Str} {t u : Tok} {z TI TO i1 i2 : Addr} (S : ZipSep2 z TI TO i1 i2 [i1] [i2]) :
    Turn P w K (.Tuple elts kk tpos) (ItzS x y) [z, TI, TO, i1, i2] z (fun i h => IsZip h z TI TO .none ∧ IsTupOf2 h TI (.ref i1) (.ref i2) ∧ (∃ a b, IsTupOf2 h TO a b) ∧ h.IsStrIter i1 (strIterType x) x t i ∧ h.IsStrIter i2 (strIterType y) y u i) where
  mem := by simp
  obj := fun i h st c hc => by
    obtain ⟨hz, hTI, ⟨a, b, hTO⟩, ⟨o1, e1, _, d1⟩, ⟨o2, e2, _, d2⟩⟩ := st
    have e' : c = z ∨ c = TI ∨ c = TO ∨ c = i1 ∨ c = i2 := by simpa using hc
    rcases e' with q | q | q | q | q
    · rw [q]; exact ⟨_, hz, fun v q => nomatch q⟩
    · rw [q]; exact ⟨_, hTI, fun v q => nomatch q⟩
    · rw [q]; exact ⟨_, hTO, fun v q => nomatch q⟩
    · rw [q]; exact ⟨o1, e1, fun v q => by rw [d1] at q; cases q⟩
    · rw [q]; exact ⟨o2, e2, fun v q => by rw [d2] at q; cases q⟩
  keep := fun i h h' st k => by
    obtain ⟨hz, hTI, ⟨a, b, hTO⟩, ⟨o1, e1, r1⟩, ⟨o2, e2, r2⟩⟩ := st
    exact ⟨k z (by simp) _ hz, k TI (by simp) _ hTI, ⟨a, b, k TO (by simp) _ hTO⟩, ⟨o1, k i1 (by simp) _ e1, r1⟩, ⟨o2, k i2 (by simp) _ e2, r2⟩⟩
  item := by
    intro X hP hw hK hc i pins s σ H E I hf st hg
    subst hP hw hK
    obtain ⟨hz, hTI, ⟨a0, b0, hTO⟩, h1, h2⟩ := st
    have hzl : z < s.heap.objs.size := Heap.lt_size hz
    have hh : X.A.in1.handled = none := I.ok.hd hc
    refine wpAny_pyNext_zipD2_item S (Draws.text hh i1 x t) (Draws.text hh i2 y u) hz hTI hTO h1 h2 hg.1 hg.2 fun x1 x2 h' tk p1 p2 hz' hTO' h1' h2' hT hsz hk => ?_
    obtain ⟨c, t1, hc1, rfl⟩ := p1
    obtain ⟨d, t2, hd1, rfl⟩ := p2
    refine ⟨_, rfl, wpAny_letOwnedTupleGo_zip (s := { s with heap := h', toks := tk }) hz' fun h'' z'' sb => ?_⟩
    have hT2 : h''.get? s.heap.objs.size = some { cls := .type "tuple", data := .seq #[.str ⟨#[c]⟩ t1, .str ⟨#[d]⟩ t2] } := (sb.2 _ (Nat.ne_of_gt hzl)).trans hT
    have new : ObjOk X.prog X.w (upd H s.heap.objs.size (.tup [V.str ⟨#[c]⟩, V.str ⟨#[d]⟩])) h'' s.heap.objs.size (.tup [V.str ⟨#[c]⟩, V.str ⟨#[d]⟩]) :=
      ⟨by show 2 ≤ sizeLine; decide, [.str ⟨#[c]⟩ t1, .str ⟨#[d]⟩ t2], .cons ⟨_, rfl⟩ (.cons ⟨_, rfl⟩ .nil), ⟨_, hT2, rfl, _, rfl⟩⟩
    have I1 : Inv X pins σ (upd H s.heap.objs.size (.tup [V.str ⟨#[c]⟩, V.str ⟨#[d]⟩])) { s with heap := h'', toks := tk } :=
      I.turnedNew (t' := tk) (ch := [z, TI, TO, i1, i2]) (fun c o hb q => (sb.2 c (fun q' => hb (by simp [q']))).trans (hk c o (fun q' => hb (by simp [q'])) (fun q' => hb (by simp [q'])) (fun q' => hb (by simp [q'])) (fun q' => hb (by simp [q'])) q)) hf (Nat.le_refl _) new
    have s1 : h''.IsStrIter i1 (strIterType x) x t (i + 1) := let ⟨o, e, r⟩ := h1'; ⟨o, (sb.2 _ (fun q => S.zi1 q.symm)).trans e, r⟩
    have s2 : h''.IsStrIter i2 (strIterType y) y u (i + 1) := let ⟨o, e, r⟩ := h2'; ⟨o, (sb.2 _ (fun q => S.zi2 q.symm)).trans e, r⟩
    refine ⟨.ref s.heap.objs.size, _, I1, rfl, ⟨_, c, d, rfl, I.hok.fresh (Nat.le_refl _), rfl, hc1, hd1⟩, ⟨z'', ?_, ⟨.str ⟨#[c]⟩ t1, .str ⟨#[d]⟩ t2, ?_⟩, s1, s2⟩, fun c hcm => ?_⟩
    · exact (sb.2 _ S.TIz).trans (hk _ _ S.TIz S.TITO S.TIi1 S.TIi2 hTI)
    · exact (sb.2 _ S.TOz).trans hTO'
    · have hlt : c < s.heap.objs.size := by
        have e' : c = z ∨ c = TI ∨ c = TO ∨ c = i1 ∨ c = i2 := by simpa using hcm
        rcases e' with q | q | q | q | q
        · rw [q]; exact hzl
        · rw [q]; exact Heap.lt_size hTI
        · rw [q]; exact Heap.lt_size hTO
        · rw [q]; obtain ⟨_, e1, _⟩ := h1; exact Heap.lt_size e1
        · rw [q]; obtain ⟨_, e2, _⟩ := h2; exact Heap.lt_size e2
      rw [upd_ne (Nat.ne_of_lt hlt)]
      exact (hf c hcm).1
  done := by
    intro X hP hw hK hc i pins s σ H E I hf st hg
    subst hP hw hK
    obtain ⟨hz, hTI, ⟨a0, b0, hTO⟩, h1, h2⟩ := st
    have hh : X.A.in1.handled = none := I.ok.hd hc
    have hg' : i = min x.cps.size y.cps.size := hg
    exact wpAny_pyNext_zipD2_end S (Draws.text hh i1 x t) (Draws.text hh i2 y u) hz hTI hTO h1 h2 (by omega) (by omega) (by omega) fun h' tk hk => ⟨rfl, I.turnedL (t' := tk) (ch := [z, TI, TO, i1, i2]) (fun c o hb q =>
      hk c o (fun q' => hb (by simp [q'])) (fun q' => hb (by simp [q'])) (fun q' => hb (by simp [q'])) (fun q' => hb (by simp [q'])) q) hf⟩
  self := fun A i s Q E st h => wpAny_pyIter_zip st.1 h
def iZipS (ta : TA) : TI := fun σ H R => ta σ H fun vs H1 => ∃ x y, vs = [V.str x, V.str y] ∧ R (ItzS x y) H1
theorem pi_zipS {X : Cx} {e e2 : Expr} {ta : TA} {p pos tpos : Pos} {elts : List Expr} {kk : Nat} (hg : Gl X "zip") (hm : X.mg "zip" = none) (ha : PA X [e, e2] ta)
    (hs : starEach [e, e2] X.env = (false, eval e X.env) :: starEach [e2] X.env := by rfl) (hpl : (backTo pos (starEach [e2] X.env)).any (·.1) = false := by rfl) :
    PI X (.Tuple elts kk tpos) (.Call (.Name "zip" p) [e, e2] [] pos) (iZipS ta) := by
  refine ⟨fun pins s σ H R I h => ?_⟩
  refine Call_ (ld_blt I hg hm PyProof.Rows.boot_zip (PyProof.Rows.callWith_type1 (thn (ha.run pos pins s σ H _ I h) fun us s1 ⟨vs, H1, I1, r1, q1⟩ => ?_) hs hpl))
  obtain ⟨x, y, ex, q⟩ := q1
  subst ex
  cases r1 with
  | cons r rr =>
    cases rr with
    | cons r' rr =>
      cases rr
      obtain ⟨t, rfl⟩ := r
      obtain ⟨u, rfl⟩ := r'
      refine zip_begins2 (begins_text x t) (begins_text y u) trivial trivial fun h' hz hTI hTO g1 g2 hsz hk => wpAny_pyIter_zip hz ?_
      have I2 : Inv X pins σ H1 { s1 with heap := h' } := I1.kept (t' := s1.toks) hk
      have S : ZipSep2 (s1.heap.objs.size + 4) (s1.heap.objs.size + 2) (s1.heap.objs.size + 3) s1.heap.objs.size (s1.heap.objs.size + 1) [s1.heap.objs.size] [s1.heap.objs.size + 1] := zip_sep2 (N := s1.heap.objs.size) (fp1 := []) (fp2 := []) (by simp) (by simp)
      refine ⟨s1.heap.objs.size + 4, [s1.heap.objs.size + 4, s1.heap.objs.size + 2, s1.heap.objs.size + 3, s1.heap.objs.size, s1.heap.objs.size + 1], _, _, H1, rfl, I2, turn_zipS (x := x) (y := y) (t := t) (u := u) S, ⟨hz, hTI, ⟨_, _, hTO⟩, ⟨_, g1, rfl, rfl⟩, ⟨_, g2, rfl, rfl⟩⟩, fun c hcm => ?_, q⟩
      have e' : c = s1.heap.objs.size + 4 ∨ c = s1.heap.objs.size + 2 ∨ c = s1.heap.objs.size + 3 ∨ c = s1.heap.objs.size ∨ c = s1.heap.objs.size + 1 := by simpa using hcm
      have hle : s1.heap.objs.size ≤ c := by
        rcases e' with z | z | z | z | z
        · rw [z]; exact Nat.le_add_right _ _
        · rw [z]; exact Nat.le_add_right _ _
        · rw [z]; exact Nat.le_add_right _ _
        · rw [z]; exact Nat.le_refl _
        · rw [z]; exact Nat.le_add_right _ _
      exact I1.fpOk hle (I1.hok.fresh hle)
theorem walk_zipS {x y : Str} {n : Nat} (hn : n = min x.cps.size y.cps.size) : Walk (ItzS x y) n (fun _ => True) (fun i H v H' => ∃ (T : Addr) (c d : Nat), v = V.ref T ∧ H T = none ∧ H' = upd H T (.tup [V.str ⟨#[c]⟩, V.str ⟨#[d]⟩]) ∧ x.cps[i]? = some c ∧ y.cps[i]? = some d) := by
  subst hn
  exact ⟨fun i _ hi _ => ⟨by omega, by omega⟩, fun _ _ => rfl, fun _ _ _ _ _ _ y => y⟩

/-! ### enumerate of a tuple -/
def IteT (K : PySem.W.Frag) (a : Addr) : It :=
  ⟨fun i H => ∃ (xs : List V) (x : V), SqT K H a xs ∧ xs[i]? = some x, fun i H v H' => ∃ T x, v = .ref T ∧ H T = none ∧ H' = upd H T (.tup [.int (i : Nat), x]) ∧ ∀ xs, SqT K H a xs → xs[i]? = some x, fun i H => ∃ xs : List V, SqT K H a xs ∧ xs.length = i⟩
theorem turn_enumT {P : Program} {w : World} {K : PySem.W.Frag} {elts : List Expr} {kk : Nat} {tpos : Pos} (a e it : Addr) (hea : e ≠ a) (hia : it ≠ a) :
    Turn P w K (.Tuple elts kk tpos) (IteT K a) [e, it] e (fun i h => (∃ old, IsEnum h e it ((i : Nat) : Int) old) ∧ h.IsTupleIter it a i ∧ e ≠ it) where
  mem := by simp
  obj := fun i h st b hb => by
    obtain ⟨⟨old, he⟩, ⟨o, ho, hc, hd⟩, _⟩ := st
    have e' : b = e ∨ b = it := by simpa using hb
    rcases e' with z | z
    · rw [z]; exact ⟨_, he, fun v q => nomatch q⟩
    · rw [z]; exact ⟨o, ho, fun v q => by rw [hd] at q; cases q⟩
  keep := fun i h h' st k => let ⟨⟨old, he⟩, hi, hne⟩ := st; ⟨⟨old, k e (by simp) _ he⟩, hi.at fun o q => k it (by simp) o q, hne⟩
  item := by
    intro X hP hw hK hc i pins s σ H E I hf st hg
    subst hP hw hK
    obtain ⟨⟨old, he⟩, hit, hne⟩ := st
    obtain ⟨xs, x, hq, hx⟩ := hg
    obtain ⟨its, rv, p, hz⟩ := I.tuple hq
    obtain ⟨u, hu, ru⟩ := rv.get hx
    have hel : e < s.heap.objs.size := Heap.lt_size he
    have hil : it < s.heap.objs.size := by obtain ⟨_, q, _⟩ := hit; exact Heap.lt_size q
    have hh : X.A.in1.handled = none := I.ok.hd hc
    have hlt : i < its.toArray.size := by
      have := (List.getElem?_eq_some_iff.mp hu).1
      simpa using this
    refine wpAny_pyNext_enum_itemD (Draws.tuple hh it a hia.symm its.toArray) he ⟨hit, p⟩ hlt hne (by simp [hne, hea]) fun x' h' tk hP ho hst hT hsz hk => ?_
    have ex : x' = u := by
      have : its.toArray[i]? = some u := by simpa using hu
      rw [this] at hP
      exact (Option.some.inj hP).symm
    subst ex
    refine ⟨_, rfl, wpAny_letOwnedTupleGo_enum (s := { s with heap := h', toks := tk + 1 }) ho fun h'' he' sb => ?_⟩
    have hT2 : h''.get? s.heap.objs.size = some { cls := .type "tuple", data := .seq #[.int i tk, x'] } := (sb.2 _ (Nat.ne_of_gt hel)).trans hT
    have new : ObjOk X.prog X.w (upd H s.heap.objs.size (.tup [.int (i : Nat), x])) h'' s.heap.objs.size (.tup [.int (i : Nat), x]) :=
      ⟨by show 2 ≤ sizeLine; decide, [.int i tk, x'], .cons ⟨_, rfl⟩ (.cons ru .nil), ⟨_, hT2, rfl, _, rfl⟩⟩
    have I1 : Inv X pins σ (upd H s.heap.objs.size (.tup [.int (i : Nat), x])) { s with heap := h'', toks := tk + 1 } :=
      I.turnedNew (t' := tk + 1) (ch := [e, it]) (fun b ob hb q => (sb.2 b (fun z => hb (by simp [z]))).trans (hk b ob (fun z => hb (by simp [z])) (fun z => hb (by simp [z])) q)) hf (Nat.le_refl _) new
    refine ⟨.ref s.heap.objs.size, _, I1, rfl, ⟨_, x, rfl, I.hok.fresh (Nat.le_refl _), rfl, fun ys hy => by rw [I.tuple_inj hy hq]; exact hx⟩, ⟨⟨x', ?_⟩, hst.1.at fun o q => (sb.2 it (Ne.symm hne)).trans q, hne⟩, fun b hb => ?_⟩
    · have e1 : ((i + 1 : Nat) : Int) = (i : Int) + 1 := by omega
      rw [e1]; exact he'
    · have hb' : b < s.heap.objs.size := by
        have e' : b = e ∨ b = it := by simpa using hb
        rcases e' with z | z
        · rw [z]; exact hel
        · rw [z]; exact hil
      rw [upd_ne (Nat.ne_of_lt hb')]
      exact (hf b hb).1
  done := by
    intro X hP hw hK hc i pins s σ H E I hf st hg
    subst hP hw hK
    obtain ⟨⟨old, he⟩, hit, hne⟩ := st
    obtain ⟨xs, hq, hx⟩ := hg
    obtain ⟨its, rv, p, hz⟩ := I.tuple hq
    obtain ⟨f0, f1, f2, f3, f4, f5⟩ := hf it (by simp)
    have hh : X.A.in1.handled = none := I.ok.hd hc
    have hl := rv.length
    have hi : i = its.toArray.size := by simp; omega
    subst hi
    exact wpAny_pyNext_enum_endD (Draws.tuple hh it a hia.symm its.toArray) he ⟨hit, p⟩ fun h' eb => ⟨rfl, I.turned (t' := s.toks) (fun b o hb q => eb b o hb q) f0 f1 f3 f4 f5⟩
  self := fun A i s Q E st h => let ⟨⟨_, he⟩, _⟩ := st; wpAny_pyIter_enum he h
set_option maxHeartbeats 1000000 in
theorem meets_enumerate_newB1 {v : Value} {o : Obj} {H : Heap → Prop} (B : Begins v o H) :
    Meets (Builtin.«enumerate.__new__» ⟨[.type "enumerate", v], []⟩) (fun _ R s => H s.heap ∧
      R (.ok (.ret (.ref (s.heap.push o).objs.size))) { s with heap := (s.heap.push o).push { cls := .type "enumerate", data := .fields #[.none, .bool false, .ref s.heap.objs.size, rawInt 0, .none, .none] } }) :=
  .of_wp fun prog w A R s h => by
    obtain ⟨hp, g, d, tk, os⟩ := s; obtain ⟨h1, h⟩ := h
    have hsub := sub_enumerate
    have q1 : ∀ {A' : Around} {E : Value → Shared → Prop} {Q : Value → Shared → Prop}, Q (.ref hp.objs.size) ⟨hp.push o, g, d, tk, os⟩ → wpAny (model prog w) A' (pyIter v) Q E ⟨hp, g, d, tk, os⟩ :=
      fun q => B.iter prog w _ _ ⟨hp, g, d, tk, os⟩ _ h1 q
    wp_walk using q1
    refine wpAny_stack_any fun st => wpAny_pure ?_
    split
    · rename_i c _ _ _ _ _
      cases (c == Value.type "enumerate")
      · wp_walk using q1
        exact ⟨_, rfl, h⟩
      · wp_walk using q1
        exact ⟨_, rfl, h⟩
    · wp_walk using q1
      exact ⟨_, rfl, h⟩
section
variable {prog : Program} {w : World} {A : Around} {E : Value → Shared → Prop} {s : Shared}
theorem enum_begins1 {v : Value} {o : Obj} {H : Heap → Prop} {Q : Value → Shared → Prop} (B : Begins v o H) (h1 : H s.heap)
    (h : ∀ h', IsEnum h' (s.heap.objs.size + 1) s.heap.objs.size 0 .none → h'.get? s.heap.objs.size = some o → h'.objs.size = s.heap.objs.size + 2 →
      (∀ b o, s.heap.get? b = some o → h'.get? b = some o) → Q (.ref (s.heap.objs.size + 1)) { s with heap := h' }) :
    wpAny (model prog w) A (call (.type "enumerate") [v]) Q E s := by
  refine callType_new F.called_enumerate (by decide) (F.typeCall_enumerate_1 _) (F.newCall_enumerate_1 _) (fun obj => F.args_object_init_2 obj _) F.entry_enumerate_new
    (meets_enumerate_newB1 B) ⟨h1, ?_⟩
  have hz : (s.heap.push o).objs.size = s.heap.objs.size + 1 := Heap.size_push ..
  show _ ∧ _
  rw [hz]
  have he : IsEnum ((s.heap.push o).push { cls := .type "enumerate", data := .fields #[.none, .bool false, .ref s.heap.objs.size, rawInt 0, .none, .none] }) (s.heap.objs.size + 1) s.heap.objs.size 0 .none := by
    have := Heap.get?_push_size (s.heap.push o) (o := { cls := .type "enumerate", data := .fields #[.none, .bool false, .ref s.heap.objs.size, rawInt 0, .none, .none] }) rfl
    rw [hz] at this; exact this
  refine ⟨⟨_, he, rfl⟩, h _ he (Heap.get?_push_of_some _ (Heap.get?_push_size _ B.free)) (by rw [Heap.size_push, hz]) fun b o x => Heap.get?_push_of_some _ (Heap.get?_push_of_some _ x)⟩
end
def iEnumT (K : PySem.W.Frag) (ta : TA) : TI := fun σ H R => ta σ H fun vs H1 => ∃ a xs, vs = [.ref a] ∧ SqT K H1 a xs ∧ R (IteT K a) H1
theorem pi_enumT {X : Cx} {e : Expr} {ta : TA} {p pos tpos : Pos} {elts : List Expr} {kk : Nat} (hg : Gl X "enumerate") (hm : X.mg "enumerate" = none) (ha : PA X [e] ta) (hs : starEach [e] X.env = [(false, eval e X.env)] := by rfl) :
    PI X (.Tuple elts kk tpos) (.Call (.Name "enumerate" p) [e] [] pos) (iEnumT X.K ta) := by
  refine ⟨fun pins s σ H R I h => ?_⟩
  refine Call_ (ld_blt I hg hm boot_enumerate (PyProof.Rows.callWith_type1 (thn (ha.run pos pins s σ H _ I h) fun us s1 ⟨vs, H1, I1, r1, q1⟩ => ?_) hs rfl))
  obtain ⟨a, xs, ex, hq, q⟩ := q1
  subst ex
  cases r1 with
  | cons r rr =>
    cases rr
    cases r
    obtain ⟨its, rv, p', hz⟩ := I1.tuple hq
    have hal : a < s1.heap.objs.size := by obtain ⟨o, ho, _⟩ := p'; exact Heap.lt_size ho
    refine enum_begins1 (begins_tuple a its.toArray) p' fun h' he hit hsz hk => wpAny_pyIter_enum he ?_
    have I2 : Inv X pins σ H1 { s1 with heap := h' } := I1.kept (t' := s1.toks) hk
    refine ⟨s1.heap.objs.size + 1, [s1.heap.objs.size + 1, s1.heap.objs.size], _, _, H1, rfl, I2, turn_enumT a (s1.heap.objs.size + 1) s1.heap.objs.size (Nat.ne_of_gt (Nat.lt_succ_of_lt hal)) (Nat.ne_of_gt hal), ⟨⟨.none, he⟩, ⟨_, hit, rfl, rfl⟩, Nat.succ_ne_self _⟩, fun b hb => ?_, q⟩
    have e' : b = s1.heap.objs.size + 1 ∨ b = s1.heap.objs.size := by simpa using hb
    have hle : s1.heap.objs.size ≤ b := by
      rcases e' with z | z
      · rw [z]; exact Nat.le_add_right _ _
      · rw [z]; exact Nat.le_refl _
    exact I1.fpOk hle (I1.hok.fresh hle)
theorem walk_enumT {K : PySem.W.Frag} {a : Addr} {xs : List V} : Walk (IteT K a) xs.length (fun H => SqT K H a xs) (YPair (fun i => some (.int (i : Nat))) (fun i => xs[i]?)) := by
  refine ⟨fun i _ hi q => ⟨xs, xs[i], q, by simp [hi]⟩, fun _ q => ⟨xs, q, rfl⟩, fun i H v H' _ q y => ?_⟩
  obtain ⟨T, x, h1, h2, h3, h4⟩ := y
  exact ⟨T, .int (i : Nat), x, h1, h2, h3, rfl, h4 xs q⟩
theorem walk_zipT {K : PySem.W.Frag} {a b : Addr} {xs ys : List V} {n : Nat} (hn : n = min xs.length ys.length) : Walk (RZ.ItzT K a b) n (fun H => SqT K H a xs ∧ SqT K H b ys) (YPair (fun i => xs[i]?) (fun i => ys[i]?)) := by
  subst hn
  refine ⟨fun i _ hi q => ?_, fun _ q => ⟨xs, ys, q.1, q.2, by omega⟩, fun i H v H' _ q y => ?_⟩
  · have h1 : i < xs.length := by omega
    have h2 : i < ys.length := by omega
    exact ⟨xs, ys, xs[i], ys[i], q.1, q.2, by simp [h1], by simp [h2]⟩
  · obtain ⟨T, x, z, h1, h2, h3, h4, h5⟩ := y
    exact ⟨T, x, z, h1, h2, h3, h4 xs q.1, h5 ys q.2⟩
end Pv

set_option Elab.async false
set_option linter.all false
set_option maxRecDepth 100000
set_option maxHeartbeats 4000000

namespace Pv
open PySem PySem.Spec L2

section
variable {Y : Stat} {sc : Scope} {fc : Str → Bool} {pos p p1 p2 : Pos} {a b c tg : Expr} {es : List Expr} {fa fb fd : List Sl → Option D} {fL fK : List Sl → Option (List D)}

/-! ### what is walked -/
theorem den_strs {K : PySem.W.Frag} {G : Hp} (z : List Nat) (i : Nat) (c : Nat) (h : z[i]? = some c) : (z.map fun c => D.str [c])[i]? = some (.str [c]) := by simp [h]
theorem si_seq (ha : SE Y sc fc a fa) : SI Y sc fc tg a (fun τ => (fa τ).bind seqD) := by
  refine ⟨fun X ok H0 G0 G W H τ σ ds w s h R q => ?_⟩
  obtain ⟨x, hx, h⟩ := bnd h
  unfold seqD at h
  split at h
  · cases h
    refine ⟨_, pi_list pe_tu, ?_⟩
    refine ha.run X ok _ _ _ _ _ _ _ _ w s hx _ fun v G1 H1 e1 w1 dv => ?_
    simp only [Den] at dv
    obtain ⟨p, us, rfl, hp, hu⟩ := dv
    refine ⟨p, rfl, ⟨us, SqL.of (w1.gh _ _ hp)⟩, q _ _ _ _ _ _ e1 w1 (walk_list (xs := us)) hu.length.symm (fun H'' e => SqL.of (e _ _ hp)) fun i H2 x H3 G2 W2 hi e2 w2 y => ?_⟩
    obtain ⟨rfl, hxi⟩ := y
    obtain ⟨d, h1, h2⟩ := hu.getV hxi
    exact ⟨G2, d, Sub.refl _, w2, h1, h2.mono e2⟩
  · rename_i ns
    cases h
    refine ⟨_, pi_list pe_tu, ?_⟩
    refine ha.run X ok _ _ _ _ _ _ _ _ w s hx _ fun v G1 H1 e1 w1 dv => ?_
    simp only [Den] at dv
    obtain ⟨p, rfl, hp⟩ := dv
    refine ⟨p, rfl, ⟨_, sub_l w1.gh hp⟩, q _ _ _ _ _ _ e1 w1 (walk_list (xs := ns.map V.int)) (by simp) (fun H'' e => sub_l e hp) fun i H2 x H3 G2 W2 hi e2 w2 y => ?_⟩
    obtain ⟨rfl, hxi⟩ := y
    rw [List.getElem?_map] at hxi
    obtain ⟨n, hn, rfl⟩ := mpd hxi
    exact ⟨G2, .int n, Sub.refl _, w2, by rw [List.getElem?_map, hn]; rfl, by simp only [Den]⟩
  · cases h
    refine ⟨_, pi_tup pe_tu, ?_⟩
    refine ha.run X ok _ _ _ _ _ _ _ _ w s hx _ fun v G1 H1 e1 w1 dv => ?_
    simp only [Den] at dv
    obtain ⟨p, us, rfl, hp, hu⟩ := dv
    refine ⟨p, rfl, ⟨us, sub_t w1.gh hp⟩, q _ _ _ _ _ _ e1 w1 (walk_tup (xs := us)) hu.length.symm (fun H'' e => sub_t e hp) fun i H2 x H3 G2 W2 hi e2 w2 y => ?_⟩
    obtain ⟨rfl, hxi⟩ := y
    obtain ⟨d, h1, h2⟩ := hu.getV hxi
    exact ⟨G2, d, Sub.refl _, w2, h1, h2.mono e2⟩
  · rename_i z
    cases h
    refine ⟨_, pi_str pe_tu, ?_⟩
    refine ha.run X ok _ _ _ _ _ _ _ _ w s hx _ fun v G1 H1 e1 w1 dv => ?_
    simp only [Den] at dv
    subst dv
    refine ⟨mkS z, rfl, q _ _ _ _ _ _ e1 w1 (walk_str (z := mkS z)) (by simp) (fun H'' e => trivial) fun i H2 x H3 G2 W2 hi e2 w2 y => ?_⟩
    obtain ⟨rfl, c, hc, rfl⟩ := y
    refine ⟨G2, .str [c], Sub.refl _, w2, by simp at hc ⊢; exact hc, by simp only [Den]⟩
  · cases h
theorem rng_get : ∀ (n : Nat) (lo : Int) (i : Nat), i < n → (rngD lo n)[i]? = some (.int (lo + i))
  | 0, _, _, h => by omega
  | n + 1, lo, 0, _ => by simp [rngD]
  | n + 1, lo, i + 1, h => by
    have := rng_get n (lo + 1) i (by omega)
    simp only [rngD, List.getElem?_cons_succ, this]
    congr 2
    omega
theorem rng_len : ∀ (n : Nat) (lo : Int), (rngD lo n).length = n
  | 0, _ => rfl
  | n + 1, lo => by simp [rngD, rng_len n]
theorem okR_of {i : Int} (h : okR i = true) : -(2 ^ 62) ≤ i ∧ i < 2 ^ 62 := by simpa [okR] using h
theorem si_r1 (hg : sc.names.lookup ("range" : Str) = some .globalImplicit) (hb : ("range" : Str) ∈ Y.bl) (hn : notStar a = true) (ha : SE Y sc fc a fa) :
    SI Y sc fc tg (.Call (.Name "range" p) [a] [] pos) (fun τ => ((fa τ).bind intD).bind fun i => if okR i then some (rngD 0 i.toNat) else none) := by
  refine ⟨fun X ok H0 G0 G W H τ σ ds w s h R q => ?_⟩
  obtain ⟨i, hi, h⟩ := bnd h
  obtain ⟨x, hx, hi⟩ := bnd hi
  split at h
  · rename_i hr
    cases h
    cases x <;> simp [intD] at hi
    subst hi
    refine ⟨_, pi_range1 (ok.gl hg) (ok.bl _ hb) (pa_cons pe_tu pa_nil (star_cons hn)) (star_cons hn), ?_⟩
    refine ha.run X ok _ _ _ _ _ _ _ _ w s hx _ fun v G1 H1 e1 w1 dv => ?_
    simp only [Den] at dv
    subst dv
    obtain ⟨r1, r2⟩ := okR_of hr
    refine ⟨_, rfl, r1, r2, q _ _ _ _ _ _ e1 w1 walk_range (rng_len _ _).symm (fun H'' e => trivial) fun j H2 x H3 G2 W2 hj e2 w2 y => ?_⟩
    obtain ⟨rfl, rfl⟩ := y
    exact ⟨G2, _, Sub.refl _, w2, rng_get _ _ _ hj, by simp only [Den]⟩
  · cases h
theorem si_r2 (hg : sc.names.lookup ("range" : Str) = some .globalImplicit) (hb : ("range" : Str) ∈ Y.bl) (hn : notStar a = true) (hn2 : notStar b = true) (ha : SE Y sc fc a fa) (hb' : SE Y sc fc b fb) :
    SI Y sc fc tg (.Call (.Name "range" p) [a, b] [] pos) (fun τ => ((fa τ).bind intD).bind fun i => ((fb τ).bind intD).bind fun j => if okR i && okR j then some (rngD i (j - i).toNat) else none) := by
  refine ⟨fun X ok H0 G0 G W H τ σ ds w s h R q => ?_⟩
  obtain ⟨i, hi, h⟩ := bnd h
  obtain ⟨x, hx, hi⟩ := bnd hi
  obtain ⟨j, hj, h⟩ := bnd h
  obtain ⟨y, hy, hj⟩ := bnd hj
  split at h
  · rename_i hr
    cases h
    rw [Bool.and_eq_true] at hr
    cases x <;> simp [intD] at hi
    subst hi
    cases y <;> simp [intD] at hj
    subst hj
    refine ⟨_, pi_range2 (ok.gl hg) (ok.bl _ hb) (pa_cons pe_tu (pa_cons pe_tu pa_nil (star_cons hn2)) (star_cons hn)) (by rw [star_cons hn, star_cons hn2]; rfl) (star_cons hn2), ?_⟩
    refine ha.run X ok _ _ _ _ _ _ _ _ w s hx _ fun v G1 H1 e1 w1 dv => ?_
    refine hb'.run X ok _ _ _ _ _ _ _ _ w1 (s.mono e1) hy _ fun u G2 H2 e2 w2 du => ?_
    simp only [Den] at dv du
    subst dv du
    obtain ⟨r1, r2⟩ := okR_of hr.1
    obtain ⟨r3, r4⟩ := okR_of hr.2
    refine ⟨_, _, rfl, ⟨r1, r2, r3, r4⟩, q _ _ _ _ _ _ (e1.trans e2) w2 walk_range (rng_len _ _).symm (fun H'' e => trivial) fun j H2 x H3 G2 W2 hj e2 w2 y => ?_⟩
    obtain ⟨rfl, rfl⟩ := y
    exact ⟨G2, _, Sub.refl _, w2, rng_get _ _ _ hj, by simp only [Den]⟩
  · cases h
theorem enum_get : ∀ (ds : List D) (k i : Nat) (d : D), ds[i]? = some d → (enumD k ds)[i]? = some (.tup [.int ((k + i : Nat) : Int), d])
  | [], _, _, _, h => by simp at h
  | x :: ds, k, 0, d, h => by simp at h; subst h; simp [enumD]
  | x :: ds, k, i + 1, d, h => by
    have := enum_get ds (k + 1) i d (by simpa using h)
    simp only [enumD, List.getElem?_cons_succ, this]
    congr 5
    omega
theorem enum_len : ∀ (ds : List D) (k : Nat), (enumD k ds).length = ds.length
  | [], _ => rfl
  | x :: ds, k => by simp [enumD, enum_len ds]
theorem pair_new {K : PySem.W.Frag} {H0 G0 G W H : Hp} {T : Addr} {x y : V} {d e : D} (w : Wd H0 G0 G W H) (hT : H T = none) (h1 : Den K G d x) (h2 : Den K G e y) :
    ∃ G2, Sub G G2 ∧ Wd H0 G0 G2 W (upd H T (.tup [x, y])) ∧ Den K G2 (.tup [d, e]) (.ref T) := by
  have e1 : Sub G (upd G T (.tup [x, y])) := sub_upd (w.gnone hT)
  refine ⟨_, e1, w.new hT, ?_⟩
  simp only [Den, DenL]
  exact ⟨T, [x, y], rfl, SqT.of upd_same, x, [y], rfl, h1.mono e1, y, [], rfl, h2.mono e1, rfl⟩
theorem si_enum {k : Nat} {tp : Pos} (hg : sc.names.lookup ("enumerate" : Str) = some .globalImplicit) (hb : ("enumerate" : Str) ∈ Y.bl) (hn : notStar a = true) (ha : SE Y sc fc a fa) :
    SI Y sc fc (.Tuple es k tp) (.Call (.Name "enumerate" p) [a] [] pos) (fun τ => (fa τ).bind fun x => match x with | .lst ds => some (enumD 0 ds) | .tup ds => some (enumD 0 ds) | _ => none) := by
  refine ⟨fun X ok H0 G0 G W H τ σ ds w s h R q => ?_⟩
  obtain ⟨x, hx, h⟩ := bnd h
  split at h
  · cases h
    refine ⟨_, pi_enum (ok.gl hg) (ok.bl _ hb) (pa_cons pe_tu pa_nil (star_cons hn)) (star_cons hn), ?_⟩
    refine ha.run X ok _ _ _ _ _ _ _ _ w s hx _ fun v G1 H1 e1 w1 dv => ?_
    simp only [Den] at dv
    obtain ⟨p, us, rfl, hp, hu⟩ := dv
    refine ⟨p, us, rfl, SqL.of (w1.gh _ _ hp), q _ _ _ _ _ _ e1 w1 (walk_enum (xs := us)) (by rw [enum_len, hu.length]) (fun H'' e => SqL.of (e _ _ hp)) fun i H2 x H3 G2 W2 hi e2 w2 y => ?_⟩
    obtain ⟨T, x, z, rfl, hT, rfl, hx', hz⟩ := y
    cases hx'
    obtain ⟨d, h1, h2⟩ := hu.getV hz
    obtain ⟨G3, a1, a2, a3⟩ := pair_new (K := X.K) (d := .int (i : Nat)) (x := .int (i : Nat)) w2 hT (by simp only [Den]) (h2.mono e2)
    exact ⟨G3, _, a1, a2, by rw [enum_get _ 0 i d h1, Nat.zero_add], a3⟩
  · cases h
    refine ⟨_, pi_enumT (ok.gl hg) (ok.bl _ hb) (pa_cons pe_tu pa_nil (star_cons hn)) (star_cons hn), ?_⟩
    refine ha.run X ok _ _ _ _ _ _ _ _ w s hx _ fun v G1 H1 e1 w1 dv => ?_
    simp only [Den] at dv
    obtain ⟨p, us, rfl, hp, hu⟩ := dv
    refine ⟨p, us, rfl, sub_t w1.gh hp, q _ _ _ _ _ _ e1 w1 (walk_enumT (xs := us)) (by rw [enum_len, hu.length]) (fun H'' e => sub_t e hp) fun i H2 x H3 G2 W2 hi e2 w2 y => ?_⟩
    obtain ⟨T, x, z, rfl, hT, rfl, hx', hz⟩ := y
    cases hx'
    obtain ⟨d, h1, h2⟩ := hu.getV hz
    obtain ⟨G3, a1, a2, a3⟩ := pair_new (K := X.K) (d := .int (i : Nat)) (x := .int (i : Nat)) w2 hT (by simp only [Den]) (h2.mono e2)
    exact ⟨G3, _, a1, a2, by rw [enum_get _ 0 i d h1, Nat.zero_add], a3⟩
  · cases h
theorem zip_get : ∀ (ds es : List D) (i : Nat) (d e : D), ds[i]? = some d → es[i]? = some e → (zipD ds es)[i]? = some (.tup [d, e])
  | [], _, _, _, _, h, _ => by simp at h
  | _ :: _, [], _, _, _, _, h => by simp at h
  | x :: ds, y :: es, 0, d, e, h, h' => by simp at h h'; subst h h'; simp [zipD]
  | x :: ds, y :: es, i + 1, d, e, h, h' => by
    have := zip_get ds es i d e (by simpa using h) (by simpa using h')
    simpa only [zipD, List.getElem?_cons_succ] using this
theorem zip_len : ∀ (ds es : List D), (zipD ds es).length = min ds.length es.length
  | [], _ => by simp [zipD]
  | _ :: _, [] => by simp [zipD]
  | x :: ds, y :: es => by simp [zipD, zip_len ds es]
theorem si_zip {k : Nat} {tp : Pos} (hg : sc.names.lookup ("zip" : Str) = some .globalImplicit) (hb : ("zip" : Str) ∈ Y.bl) (hn : notStar a = true) (hn2 : notStar b = true) (ha : SE Y sc fc a fa) (hb' : SE Y sc fc b fb) :
    SI Y sc fc (.Tuple es k tp) (.Call (.Name "zip" p) [a, b] [] pos) (fun τ => (fa τ).bind fun x => (fb τ).bind fun y => match x, y with | .lst ds, .lst es => some (zipD ds es) | .tup ds, .tup es => some (zipD ds es) | .str ds, .str es => some (zipD (ds.map fun c => .str [c]) (es.map fun c => .str [c])) | _, _ => none) := by
  refine ⟨fun X ok H0 G0 G W H τ σ ds w s h R q => ?_⟩
  obtain ⟨x, hx, h⟩ := bnd h
  obtain ⟨y, hy, h⟩ := bnd h
  split at h
  · cases h
    refine ⟨_, pi_zip (ok.gl hg) (ok.bl _ hb) (pa_cons pe_tu (pa_cons pe_tu pa_nil (star_cons hn2)) (star_cons hn)) (star_cons hn) (star_any (by simp [hn2])), ?_⟩
    refine ha.run X ok _ _ _ _ _ _ _ _ w s hx _ fun v G1 H1 e1 w1 dv => ?_
    refine hb'.run X ok _ _ _ _ _ _ _ _ w1 (s.mono e1) hy _ fun u G2 H2 e2 w2 du => ?_
    replace dv := dv.mono e2
    simp only [Den] at dv du
    obtain ⟨p, us, rfl, hp, hu⟩ := dv
    obtain ⟨p', us', rfl, hp', hu'⟩ := du
    refine ⟨p, p', us, us', rfl, SqL.of (w2.gh _ _ hp), SqL.of (w2.gh _ _ hp'), q _ _ _ _ _ _ (e1.trans e2) w2 (walk_zip (xs := us) (ys := us') rfl) (by rw [zip_len, hu.length, hu'.length]) (fun H'' e => ⟨SqL.of (e _ _ hp), SqL.of (e _ _ hp')⟩) fun i H3 x H4 G3 W2 hi e3 w3 y => ?_⟩
    obtain ⟨T, x, z, rfl, hT, rfl, hx', hz⟩ := y
    obtain ⟨d, h1, h2⟩ := hu.getV hx'
    obtain ⟨d', h1', h2'⟩ := hu'.getV hz
    obtain ⟨G4, a1, a2, a3⟩ := pair_new (K := X.K) w3 hT (h2.mono e3) (h2'.mono e3)
    exact ⟨G4, _, a1, a2, zip_get _ _ _ _ _ h1 h1', a3⟩
  · cases h
    refine ⟨_, RZ.pi_zipA (ok.gl hg) (ok.bl _ hb) (pa_cons pe_tu (pa_cons pe_tu pa_nil (star_cons hn2)) (star_cons hn)) (star_cons hn) (star_any (by simp [hn2])), ?_⟩
    refine ha.run X ok _ _ _ _ _ _ _ _ w s hx _ fun v G1 H1 e1 w1 dv => ?_
    refine hb'.run X ok _ _ _ _ _ _ _ _ w1 (s.mono e1) hy _ fun u G2 H2 e2 w2 du => ?_
    replace dv := dv.mono e2
    simp only [Den] at dv du
    obtain ⟨p, us, rfl, hp, hu⟩ := dv
    obtain ⟨p', us', rfl, hp', hu'⟩ := du
    refine ⟨p, p', us, us', rfl, .inr ⟨sub_t w2.gh hp, sub_t w2.gh hp', q _ _ _ _ _ _ (e1.trans e2) w2 (walk_zipT (xs := us) (ys := us') rfl) (by rw [zip_len, hu.length, hu'.length]) (fun H'' e => ⟨sub_t e hp, sub_t e hp'⟩) fun i H3 x H4 G3 W2 hi e3 w3 y => ?_⟩⟩
    obtain ⟨T, x, z, rfl, hT, rfl, hx', hz⟩ := y
    obtain ⟨d, h1, h2⟩ := hu.getV hx'
    obtain ⟨d', h1', h2'⟩ := hu'.getV hz
    obtain ⟨G4, a1, a2, a3⟩ := pair_new (K := X.K) w3 hT (h2.mono e3) (h2'.mono e3)
    exact ⟨G4, _, a1, a2, zip_get _ _ _ _ _ h1 h1', a3⟩
  · rename_i xs ys _
    cases h
    refine ⟨_, pi_zipS (ok.gl hg) (ok.bl _ hb) (pa_cons pe_tu (pa_cons pe_tu pa_nil (star_cons hn2)) (star_cons hn)) (star_cons hn) (star_any (by simp [hn2])), ?_⟩
    refine ha.run X ok _ _ _ _ _ _ _ _ w s hx _ fun v G1 H1 e1 w1 dv => ?_
    refine hb'.run X ok _ _ _ _ _ _ _ _ w1 (s.mono e1) hy _ fun u G2 H2 e2 w2 du => ?_
    simp only [Den] at dv du
    subst dv du
    refine ⟨mkS xs, mkS ys, rfl, q _ _ _ _ _ _ (e1.trans e2) w2 (walk_zipS (x := mkS xs) (y := mkS ys) rfl) (by rw [zip_len]; simp) (fun H'' e => trivial) fun i H3 x H4 G3 W2 hi e3 w3 y => ?_⟩
    obtain ⟨T, c, d, rfl, hT, rfl, hc, hd⟩ := y
    obtain ⟨G4, a1, a2, a3⟩ := pair_new (K := X.K) (d := .str [c]) (e := .str [d]) (x := V.str ⟨#[c]⟩) (y := V.str ⟨#[d]⟩) w3 hT (by simp only [Den]) (by simp only [Den])
    exact ⟨G4, _, a1, a2, zip_get _ _ _ _ _ (by simp at hc ⊢; exact hc) (by simp at hd ⊢; exact hd), a3⟩
  · cases h

/-! ### comprehensions -/
structure SCs (Y : Stat) (sc : Scope) (fc : Str → Bool) (ifs : List Expr) (f : List Sl → Option Bool) : Prop where
  run : ∀ X, XOk Y sc fc X → ∀ H0 G0 G W H τ σ b, Wd H0 G0 G W H → SlOk X.K G W τ σ → f τ = some b → ∀ Q, BQ H0 G0 G W b Q → TUts X ifs σ H Q
theorem scs_nil : SCs Y sc fc [] (fun _ => some true) :=
  ⟨fun X ok H0 G0 G W H τ σ b w s h Q q => by cases h; exact ⟨_, pts_nil, q G H (Sub.refl G) w⟩⟩
theorem scs_one {f : List Sl → Option Bool} (h : ST Y sc fc a f) : SCs Y sc fc [a] f :=
  ⟨fun X ok H0 G0 G W H τ σ b w s hf Q q => ⟨_, pts_one pt_tu, h.run X ok _ _ _ _ _ _ _ _ w s hf _ q⟩⟩
theorem wipe_ok {K : PySem.W.Frag} {G W : Hp} {τ : List Sl} {σ : St} (s : SlOk K G W τ σ) : ∀ vs : List Nat, SlOk K G W (wipeD τ vs) (wipe σ vs)
  | [] => s
  | v :: vs => (wipe_ok s vs).wput
theorem SlOk.wmono {K : PySem.W.Frag} {G W W' : Hp} {τ : List Sl} {σ : St} (s : SlOk K G W τ σ) (e : Sub W W') : SlOk K G W' τ σ :=
  ⟨s.len, s.val, fun i ds h => let ⟨a, vs, x, y, z⟩ := s.own i ds h; ⟨a, vs, x, e _ _ y, z⟩, s.dis⟩
theorem lcL_len {t : T} {c e : List Sl → Option D} {τ : List Sl} : ∀ {ds xs : List D}, lcL t c e τ ds = some xs → xs.length ≤ ds.length
  | [], xs, h => by simp [lcL] at h; subst h; simp
  | d :: ds, xs, h => by
    simp only [lcL] at h
    obtain ⟨σ1, h1, h⟩ := bnd h
    obtain ⟨b, h2, h⟩ := bnd h
    cases b with
    | true =>
      obtain ⟨x, h3, h⟩ := bnd h
      obtain ⟨ys, h4, rfl⟩ := mpd h
      have := lcL_len h4
      simp; omega
    | false =>
      have := lcL_len (show lcL t c e τ ds = some xs from h)
      simp; omega
def bG (X : Cx) (scope : Scope) (tg : Expr) : TG := fun v σ H Q => ∀ s1 H1 C cl fp, TUg (X.blk s1 H1 scope (compEnvC scope cl C X.env) fp) tg v σ H Q
def bT (X : Cx) (scope : Scope) (ifs : List Expr) : TT := fun σ H Q => ∀ s1 H1 C cl fp, TUts (X.blk s1 H1 scope (compEnvC scope cl C X.env) fp) ifs σ H Q
def bE (X : Cx) (scope : Scope) (elt : Expr) : TE := fun σ H Q => ∀ s1 H1 C cl fp, TU (X.blk s1 H1 scope (compEnvC scope cl C X.env) fp) elt σ H Q
/-- the reading of a comprehension -/
theorem lc_read {scope : Scope} {own : List (Str × Nat)} {t : T} {iter elt : Expr} {ifs : List Expr} (hi : SI Y sc fc tg iter fL)
    (hg : SG Y (relS scope sc) (fun x => scope.names.lookup x == some .cell) tg t) (ht : SCs Y (relS scope sc) (fun x => scope.names.lookup x == some .cell) ifs (fun τ => (fb τ).bind truth)) (he : SE Y (relS scope sc) (fun x => scope.names.lookup x == some .cell) elt fd)
    (hv : ∀ i ∈ tixs t, i ∈ own.map (·.2)) {X : Cx} (ok : XOk Y sc fc X) {H0 G0 G W H : Hp} {τ : List Sl} {σ : St} {ds xs : List D} (w : Wd H0 G0 G W H) (s : SlOk X.K G W τ σ) (hds : fL τ = some ds) (hlen : ds.length ≤ line)
    (hxs : lcL t fb fd (wipeD τ (own.map (·.2))) ds = some xs) {Q : VK} (q : ∀ p vs G' H', H' p = some (.lst vs) → Sub G G' → Wd H0 G0 G' (upd W p (.lst vs)) H' → W p = none → DenL X.K G' xs vs → Q (.ref p) H') :
    tLc (TUi X tg iter) (bG X scope tg) (bT X scope ifs) (bE X scope elt) (own.map (·.2)) σ H Q := by
  refine hi.run X ok _ _ _ _ _ _ _ _ w s hds _ fun J n Gp Yp G1 H1 e1 w1 wk hn hgp hy => ?_
  intro Dl hD
  have wD : W Dl = none := w1.wnone hD
  refine lc_it (g := bG X scope tg) (tt := bT X scope ifs) (te := bE X scope elt) (vs := own.map (·.2)) (σ := σ) (H1 := H1) (D := Dl) (Qd := fun H => Q (.ref Dl) H) wk (fun i H' => ∃ G' acc accD, Sub G1 G' ∧ Wd H0 G0 G' (upd W Dl (.lst acc)) H' ∧ DenL X.K G' accD acc ∧ acc.length ≤ i ∧ ∃ rest, lcL t fb fd (wipeD τ (own.map (·.2))) (ds.drop i) = some rest ∧ xs = accD ++ rest) ?_ ?_ ?_ ?_
  · exact ⟨G1, [], [], Sub.refl _, w1.newO hD, by simp only [DenL], Nat.le_refl _, xs, by simpa using hxs, rfl⟩
  · rintro i H' _ ⟨G', acc, accD, e', w', _⟩
    exact hgp H' (e'.trans w'.gh)
  · rintro i x H' H'' hin ⟨G', acc, accD, e', w', dacc, hacc, rest, hrest, hxr⟩ hyi
    obtain ⟨G2, d, e2, w2, hd, dx⟩ := hy i H' x H'' G' _ hin e' w' hyi
    have hdrop : ds.drop i = d :: ds.drop (i + 1) := by
      obtain ⟨hlt, hget⟩ := List.getElem?_eq_some_iff.mp hd
      rw [List.drop_eq_getElem_cons hlt, hget]
    rw [hdrop] at hrest
    simp only [lcL] at hrest
    obtain ⟨τ1, hτ1, hrest⟩ := bnd hrest
    obtain ⟨k, hk, hrest⟩ := bnd hrest
    intro s1 HH C cl fp
    have okb := ok.blk (s := s1) (H := HH) (scope := scope) (cl := cl) (C := C) (fp := fp)
    have sw : SlOk X.K G2 (upd W Dl (.lst acc)) (wipeD τ (own.map (·.2))) (wipe σ (own.map (·.2))) := (wipe_ok (s.mono (e1.trans (e'.trans e2))) _).wmono (sub_upd wD)
    refine hg.run _ okb _ _ _ _ _ _ _ _ _ _ w2 sw dx hτ1 _ fun σ' sσ' hw => ⟨?_, ?_⟩
    · rw [hw _ hv]; exact wipe_wipe _ _
    · intro s2 HH2 C2 cl2 fp2
      have okb2 := ok.blk (s := s2) (H := HH2) (scope := scope) (cl := cl2) (C := C2) (fp := fp2)
      refine ht.run _ okb2 _ _ _ _ _ _ _ _ w2 sσ' hk _ fun G3 H3 e3 w3 => ?_
      cases k with
      | false =>
        refine iteF ?_
        exact ⟨G3, acc, accD, (e'.trans e2).trans e3, w3, dacc.mono (e2.trans e3), by omega, rest, hrest, hxr⟩
      | true =>
        obtain ⟨y, hyv, hrest⟩ := bnd hrest
        obtain ⟨rest', hrest', rfl⟩ := mpd hrest
        refine iteT ?_
        intro s3 HH3 C3 cl3 fp3
        have okb3 := ok.blk (s := s3) (H := HH3) (scope := scope) (cl := cl3) (C := C3) (fp := fp3)
        refine he.run _ okb3 _ _ _ _ _ _ _ _ w3 (sσ'.mono e3) hyv _ fun v G4 H4 e4 w4 dv => ?_
        refine ⟨acc, (w4.wh Dl _ upd_same).1, lt_line (by omega), G4, acc ++ [v], accD ++ [y], ((e'.trans e2).trans e3).trans e4, ?_, (dacc.mono ((e2.trans e3).trans e4)).snoc dv, by simp; omega, rest', hrest', by simp [hxr]⟩
        have w5 := w4.set (o' := .lst (acc ++ [v])) (p := Dl) upd_same
        rwa [upd_upd] at w5
  · rintro H' ⟨G', acc, accD, e', w', dacc, hacc, rest, hrest, hxr⟩
    rw [hn, List.drop_length] at hrest
    cases hrest
    rw [List.append_nil] at hxr
    subst hxr
    exact q Dl acc G' H' (w'.wh Dl _ upd_same).1 (e1.trans e') w' wD dacc
section
variable {scope : Scope} {own : List (Str × Nat)} {t : T} {iter elt : Expr} {ifs : List Expr}
theorem se_lc (hi : SI Y sc fc tg iter fL) (hs : notSet iter = true) (hbk : blkC Y.N sc scope own = true)
    (hg : SG Y (relS scope sc) (fun x => scope.names.lookup x == some .cell) tg t) (ht : SCs Y (relS scope sc) (fun x => scope.names.lookup x == some .cell) ifs (fun τ => (fb τ).bind truth)) (he : SE Y (relS scope sc) (fun x => scope.names.lookup x == some .cell) elt fd)
    (hv : ∀ i ∈ tixs t, i ∈ own.map (·.2)) :
    SE Y sc fc (.ListComp elt [⟨tg, iter, ifs, 0⟩] scope pos) (fun τ => (fL τ).bind fun ds => if ds.length ≤ line then (lcL t fb fd (wipeD τ (own.map fun p => p.2)) ds).map .lst else none) := by
  refine ⟨fun X ok H0 G0 G W H τ σ d w s h Q q => ?_⟩
  obtain ⟨ds, hds, h⟩ := bnd h
  split at h
  · rename_i hlen
    obtain ⟨xs, hxs, rfl⟩ := mpd h
    refine ⟨_, pe_lc (own := own) ok.calm ok.nd pi_tu (blkOk_by (by rw [ok.eN, ok.sc]; exact hbk)) (fun s1 H1 C cl fp => ⟨fun pins s2 σ2 H2 v u Q2 I r h2 => pg_tu.run pins s2 σ2 H2 v u Q2 I r (h2 s1 H1 C cl fp)⟩)
      (fun s1 H1 C cl fp => ⟨fun pins s2 σ2 H2 Q2 I h2 => pts_tu.run pins s2 σ2 H2 Q2 I (h2 s1 H1 C cl fp)⟩) (fun s1 H1 C cl fp => ⟨fun pins s2 σ2 H2 Q2 I h2 => pe_tu.run pins s2 σ2 H2 Q2 I (h2 s1 H1 C cl fp)⟩) (folded_no hs),
      lc_read hi hg ht he hv ok w s hds hlen hxs fun p vs G' H' hp e' w' hW dxs => ?_⟩
    have hG := (w'.wh p _ upd_same).2
    have w2 := w'.give (o := .lst vs) upd_same
    have ew : del (upd W p (.lst vs)) p = W := by
      funext a
      by_cases ha : a = p
      · subst ha; rw [del_same]; exact hW.symm
      · rw [del_ne ha, upd_ne ha]
    rw [ew] at w2
    refine q _ _ _ (e'.trans (sub_upd hG)) w2 ?_
    simp only [Den]
    exact ⟨p, vs, rfl, upd_same, dxs.mono (sub_upd hG)⟩
  · cases h
end

/-! ### statements -/
def notTup : Expr → Bool
  | .Tuple .. => false
  | _ => true
theorem OQ.mono {K : PySem.W.Frag} {H0 G0 G G' : Hp} {o : Out} {Dn : Ends} (q : OQ K H0 G0 G o Dn) (e : Sub G G') : OQ K H0 G0 G' o Dn := by
  cases o with
  | nx τ => exact fun σ G2 W2 H2 e2 => q σ G2 W2 H2 (e.trans e2)
  | bk τ => exact fun σ G2 W2 H2 e2 => q σ G2 W2 H2 (e.trans e2)
  | ct τ => exact fun σ G2 W2 H2 e2 => q σ G2 W2 H2 (e.trans e2)
  | rt d => exact fun v G2 W2 H2 e2 => q v G2 W2 H2 (e.trans e2)
section
variable {t : T} {ga gb : List Sl → Option Bool} {fs gs : List Sl → Option Out} {st : Stmt} {sts us : List Stmt}
theorem ss_asg {i : Nat} {x : Str} (hN : Y.N[i]? = some x) (hx : Loc sc x) (hf : (fc x || decide (sc.names.lookup x = some .local)) = true) (hc : notComp a = true) (ha : SE Y sc fc a fa) :
    SS Y sc fc (.Assign [.Name x p] a pos) (fun τ => (fa τ).bind fun d => (setT (.nm i) d τ).map .nx) := by
  refine ⟨fun X ok H0 G0 G W H τ σ o w s h Dn q => ?_⟩
  obtain ⟨d, hd, h⟩ := bnd h
  cases h
  refine ⟨_, ps_set ok.nd (by rw [ok.eN]; exact hN) (ok.loc hx) pe_tu (swaps_no hc) (ok.hf hf), ?_⟩
  refine ha.run X ok _ _ _ _ _ _ _ _ w s hd _ fun v G1 H1 e1 w1 dv => ?_
  exact q _ _ _ _ e1 w1 ((s.mono e1).put dv)
theorem swaps_sole {tg : Expr} {l : Nat} {env : Env} (h : notComp a = true) : swapsWithSole [tg] a l env = pure false := swaps_no h
theorem stores_no {tg : Expr} {env : Env} (h : notTup a = true) : swappedStores [tg] a env = pure none := by
  cases a <;> first | (cases tg <;> rfl) | simp [notTup] at h
theorem ss_asgT {tgs : List Expr} {is : List Nat} {k : Nat} (hg : SG Y sc fc (.Tuple tgs k p) (.tp is)) (hc : notComp a = true) (hnt : notTup a = true) (ha : SE Y sc fc a fa) :
    SS Y sc fc (.Assign [.Tuple tgs k p] a pos) (fun τ => (fa τ).bind fun d => (setT (.tp is) d τ).map .nx) := by
  refine ⟨fun X ok H0 G0 G W H τ σ o w s h Dn q => ?_⟩
  obtain ⟨d, hd, h⟩ := bnd h
  obtain ⟨τ', hτ', rfl⟩ := mpd h
  refine ⟨_, ps_asg pe_tu pg_tu (swaps_sole hc) (stores_no hnt), ?_⟩
  refine ha.run X ok _ _ _ _ _ _ _ _ w s hd _ fun v G1 H1 e1 w1 dv => ?_
  exact hg.run X ok _ _ _ _ _ _ _ _ _ _ w1 (s.mono e1) dv hτ' _ fun σ' s' _ => q _ _ _ _ e1 w1 s'
/-- x = [..], the list the slot's own -/
theorem ss_own {i : Nat} {x : Str} (hN : Y.N[i]? = some x) (hx : Loc sc x) (hf : (fc x || decide (sc.names.lookup x = some .local)) = true) (hL : SA Y sc fc es fL) :
    SS Y sc fc (.Assign [.Name x p] (.List es p1) pos) (fun τ => (fL τ).bind fun ds => if ds.length ≤ line then some (.nx (τ.set i (.o (.lst ds)))) else none) := by
  refine ⟨fun X ok H0 G0 G W H τ σ o w s h Dn q => ?_⟩
  obtain ⟨ds, hds, h⟩ := bnd h
  split at h
  · rename_i hl
    cases h
    refine ⟨_, ps_set ok.nd (by rw [ok.eN]; exact hN) (ok.loc hx) (pe_lst pa_tu) (swaps_no rfl) (ok.hf hf), ?_⟩
    refine hL.run X ok _ _ _ _ _ _ _ _ w s hds _ fun vs G1 H1 e1 w1 dvs => ?_
    refine ⟨le_line (by rw [← dvs.length]; exact hl), fun z hz => ?_⟩
    exact q _ _ _ _ e1 (w1.newO hz) ((s.mono e1).putO (w1.wnone hz) (by simp only [DenO]; exact ⟨vs, rfl, dvs⟩))
  · cases h
theorem frz_ok {K : PySem.W.Frag} {H0 G0 G W H : Hp} {τ : List Sl} {σ : St} (i : Nat) (w : Wd H0 G0 G W H) (s : SlOk K G W τ σ) : ∃ G' W', Sub G G' ∧ Wd H0 G0 G' W' H ∧ SlOk K G' W' (frzD τ i) σ := by
  unfold frzD
  split
  · rename_i ds h
    obtain ⟨a, vs, h1, h2, h3⟩ := s.own i ds h
    have hG := (w.wh _ _ h2).2
    exact ⟨_, _, sub_upd hG, w.give h2, s.give h h1 h2 hG h3⟩
  · exact ⟨G, W, Sub.refl _, w, s⟩
theorem attr_base {x m : Str} {env : Env} : attributeBase (.Name x p) m env (eval (.Name x p) env) = eval (.Name x p) env := rfl
theorem ss_app {i : Nat} {x : Str} {ap : Pos} (hN : Y.N[i]? = some x) (hv : Vis sc x) (hd : (x == ("__debug__" : Str)) = false) (hcd : (x == ("__classdict__" : Str)) = false) (hn : notStar a = true) (ha : SE Y sc fc a fa)
    (hline : (ap.endLine == p1.line) = true) :
    SS Y sc fc (.Expr (.Call (.Attribute (.Name x p) "append" ap) [a] [] p1) pos) (fun τ => (fa τ).bind fun d => (getO τ i).bind fun xs => if xs.length < line then some (.nx (τ.set i (.o (.lst (xs ++ [d]))))) else none) := by
  refine ⟨fun X ok H0 G0 G W H τ σ o w s h Dn q => ?_⟩
  obtain ⟨d, hd', h⟩ := bnd h
  obtain ⟨xs, hxs, h⟩ := bnd h
  split at h
  · rename_i hl
    cases h
    have ho := getO_some hxs
    obtain ⟨b, ob, h1, h2, h3⟩ := s.own i _ ho
    simp only [DenO] at h3
    obtain ⟨vs, rfl, h3⟩ := h3
    refine ⟨_, ps_expr (pe_bm PySem.F.plainAttrs_list PySem.F.slot_list_append PySem.F.type_list_append mt_append (pe_var (by rw [ok.eN]; exact hN) (ok.vis hv) hd hcd) (pa_cons pe_tu pa_nil (star_cons hn)) attr_base
      (by rw [star_cons hn]; rfl) hline (star_cons hn) rfl) (by rfl), ?_⟩
    refine ⟨_, h1, .inl ⟨rfl, vs, SqL.of (w.wh _ _ h2).1⟩, ?_⟩
    refine ha.run X ok _ _ _ _ _ _ _ _ w s hd' _ fun v G1 H1 e1 w1 dv => ?_
    refine ⟨b, vs, v, rfl, rfl, (w1.wh _ _ h2).1, lt_line (by rw [← h3.length]; exact hl), ?_⟩
    exact q _ _ _ _ e1 (w1.set h2) ((s.mono e1).chg ho h1 (by simp only [DenO]; exact ⟨_, rfl, (h3.mono e1).snoc dv⟩))
  · cases h
theorem ss_ret (ha : SE Y sc fc a fa) : SS Y sc fc (.Return (some a) pos) (fun τ => (fa τ).map .rt) := by
  refine ⟨fun X ok H0 G0 G W H τ σ o w s h Dn q => ?_⟩
  obtain ⟨d, hd, rfl⟩ := mpd h
  refine ⟨_, ps_ret pe_tu, ?_⟩
  exact ha.run X ok _ _ _ _ _ _ _ _ w s hd _ fun v G1 H1 e1 w1 dv => q v G1 _ H1 e1 w1 dv
theorem ss_retN : SS Y sc fc (.Return none pos) (fun _ => some (.rt .non)) :=
  ⟨fun X ok H0 G0 G W H τ σ o w s h Dn q => by cases h; exact ⟨_, ps_retN, q .non G W H (Sub.refl _) w (by simp only [Den])⟩⟩
theorem ss_pass : SS Y sc fc (.Pass pos) (fun τ => some (.nx τ)) :=
  ⟨fun X ok H0 G0 G W H τ σ o w s h Dn q => by cases h; exact ⟨_, ps_pass, q σ G W H (Sub.refl _) w s⟩⟩
theorem ss_brk : SS Y sc fc (.Break pos) (fun τ => some (.bk τ)) :=
  ⟨fun X ok H0 G0 G W H τ σ o w s h Dn q => by cases h; exact ⟨_, ps_break, q σ G W H (Sub.refl _) w s⟩⟩
theorem ss_cont : SS Y sc fc (.Continue pos) (fun τ => some (.ct τ)) :=
  ⟨fun X ok H0 G0 G W H τ σ o w s h Dn q => by cases h; exact ⟨_, ps_continue, q σ G W H (Sub.refl _) w s⟩⟩
theorem ss_if (hc : ST Y sc fc a ga) (h1 : SSs Y sc fc sts fs) (h2 : SSs Y sc fc us gs) : SS Y sc fc (.If a sts us pos) (fun τ => (ga τ).bind fun k => bif k then fs τ else gs τ) := by
  refine ⟨fun X ok H0 G0 G W H τ σ o w s h Dn q => ?_⟩
  obtain ⟨k, hk, h⟩ := bnd h
  refine ⟨_, ps_if pt_tu pss_tu pss_tu, ?_⟩
  refine hc.run X ok _ _ _ _ _ _ _ _ w s hk _ fun G1 H1 e1 w1 => ?_
  cases k with
  | true => exact iteT (h1.run X ok _ _ _ _ _ _ _ _ w1 (s.mono e1) h _ (q.mono e1))
  | false => exact iteF (h2.run X ok _ _ _ _ _ _ _ _ w1 (s.mono e1) h _ (q.mono e1))
theorem ss_for {iter : Expr} (hi : SI Y sc fc tg iter fL) (hs : notSet iter = true) (hg : SG Y sc fc tg t) (hb : SSs Y sc fc sts fs) : SS Y sc fc (.For tg iter sts [] pos) (fun τ => (fL τ).bind fun ds => forL t fs ds τ) := by
  refine ⟨fun X ok H0 G0 G W H τ σ o w s h Dn q => ?_⟩
  obtain ⟨ds, hds, h⟩ := bnd h
  refine ⟨_, ps_for ok.never ok.calm pi_tu pg_tu pss_tu (folded_no hs), ?_⟩
  refine hi.run X ok _ _ _ _ _ _ _ _ w s hds _ fun J n Gp Yp G1 H1 e1 w1 wk hn hgp hy => ?_
  refine for_it wk (fun i σ' H' => ∃ G' W' τ', Sub G1 G' ∧ Wd H0 G0 G' W' H' ∧ SlOk X.K G' W' τ' σ' ∧ forL t fs (ds.drop i) τ' = some o) ⟨G1, W, τ, Sub.refl _, w1, s.mono e1, by simpa using h⟩ ?_ ?_ ?_
  · rintro i σ' H' _ ⟨G', W', τ', e', w', _⟩
    exact hgp H' (e'.trans w'.gh)
  · rintro i x σ' H' H'' hin ⟨G', W', τ', e', w', s', hrest⟩ hyi
    obtain ⟨G2, d, e2, w2, hd, dx⟩ := hy i H' x H'' G' _ hin e' w' hyi
    have hdrop : ds.drop i = d :: ds.drop (i + 1) := by
      obtain ⟨hlt, hget⟩ := List.getElem?_eq_some_iff.mp hd
      rw [List.drop_eq_getElem_cons hlt, hget]
    rw [hdrop] at hrest
    simp only [forL] at hrest
    obtain ⟨τ1, hτ1, hrest⟩ := bnd hrest
    obtain ⟨o1, ho1, hrest⟩ := bnd hrest
    refine hg.run X ok _ _ _ _ _ _ _ _ _ _ w2 (s'.mono e2) dx hτ1 _ fun σ2 s2 _ => ?_
    refine hb.run X ok _ _ _ _ _ _ _ _ w2 s2 ho1 _ ?_
    cases o1 with
    | nx τ2 => exact fun σ3 G3 W3 H3 e3 w3 s3 => ⟨G3, W3, τ2, (e'.trans e2).trans e3, w3, s3, hrest⟩
    | ct τ2 => exact fun σ3 G3 W3 H3 e3 w3 s3 => ⟨G3, W3, τ2, (e'.trans e2).trans e3, w3, s3, hrest⟩
    | bk τ2 =>
      cases hrest
      exact fun σ3 G3 W3 H3 e3 w3 s3 => q σ3 G3 W3 H3 (((e1.trans e').trans e2).trans e3) w3 s3
    | rt d2 =>
      cases hrest
      exact fun v G3 W3 H3 e3 w3 d3 => q v G3 W3 H3 (((e1.trans e').trans e2).trans e3) w3 d3
  · rintro σ' H' ⟨G', W', τ', e', w', s', hrest⟩
    rw [hn, List.drop_length] at hrest
    cases hrest
    exact q σ' G' W' H' (e1.trans e') w' s'
theorem ss_whl {n : Nat} (hc : ST Y sc fc a (fun τ => (fa τ).bind truth)) (hb : SSs Y sc fc sts fs) : SS Y sc fc (.While a sts [] pos) (fun τ => whlL fa fs n τ) := by
  refine ⟨fun X ok H0 G0 G W H τ σ o w s h Dn q => ?_⟩
  refine ⟨_, ps_while ok.never pt_tu pss_tu, ?_⟩
  refine ⟨fun m σ' H' => ∃ G' W' τ', Sub G G' ∧ Wd H0 G0 G' W' H' ∧ SlOk X.K G' W' τ' σ' ∧ whlL fa fs m τ' = some o, ⟨n, G, W, τ, Sub.refl _, w, s, h⟩, ?_⟩
  rintro m σ' H' ⟨G', W', τ', e', w', s', hm⟩
  cases m with
  | zero => cases hm
  | succ m =>
    simp only [whlL] at hm
    obtain ⟨k, hk, hm⟩ := bnd hm
    refine hc.run X ok _ _ _ _ _ _ _ _ w' s' hk _ fun G1 H1 e1 w1 => ?_
    cases k with
    | false =>
      cases hm
      exact iteF (q σ' G1 W' H1 (e'.trans e1) w1 (s'.mono e1))
    | true =>
      obtain ⟨o1, ho1, hm⟩ := bnd hm
      refine iteT ⟨fun σ2 H2 => ∃ G2 W2 τ2, Sub G G2 ∧ Wd H0 G0 G2 W2 H2 ∧ SlOk X.K G2 W2 τ2 σ2 ∧ whlL fa fs m τ2 = some o, fun σ2 H2 h2 => ⟨m, Nat.lt_succ_self m, h2⟩, ?_⟩
      refine hb.run X ok _ _ _ _ _ _ _ _ w1 (s'.mono e1) ho1 _ ?_
      cases o1 with
      | nx τ2 => exact fun σ3 G3 W3 H3 e3 w3 s3 => ⟨G3, W3, τ2, (e'.trans e1).trans e3, w3, s3, hm⟩
      | ct τ2 => exact fun σ3 G3 W3 H3 e3 w3 s3 => ⟨G3, W3, τ2, (e'.trans e1).trans e3, w3, s3, hm⟩
      | bk τ2 =>
        cases hm
        exact fun σ3 G3 W3 H3 e3 w3 s3 => q σ3 G3 W3 H3 ((e'.trans e1).trans e3) w3 s3
      | rt d2 =>
        cases hm
        exact fun v G3 W3 H3 e3 w3 d3 => q v G3 W3 H3 ((e'.trans e1).trans e3) w3 d3
theorem sss_nil : SSs Y sc fc [] (fun τ => some (.nx τ)) :=
  ⟨fun X ok H0 G0 G W H τ σ o w s h Dn q => by cases h; exact ⟨_, pss_nil, q σ G W H (Sub.refl _) w s⟩⟩
theorem sss_cons (h1 : SS Y sc fc st fs) (h2 : SSs Y sc fc sts gs) : SSs Y sc fc (st :: sts) (fun τ => (fs τ).bind fun o => match o with
    | .nx τ2 => gs τ2
    | .rt d => some (.rt d)
    | .bk τ2 => some (.bk τ2)
    | .ct τ2 => some (.ct τ2)) := by
  refine ⟨fun X ok H0 G0 G W H τ σ o w s h Dn q => ?_⟩
  obtain ⟨o1, ho1, h⟩ := bnd h
  refine ⟨_, pss_cons ps_tu pss_tu, ?_⟩
  refine h1.run X ok _ _ _ _ _ _ _ _ w s ho1 _ ?_
  cases o1 with
  | nx τ2 => exact fun σ3 G3 W3 H3 e3 w3 s3 => h2.run X ok _ _ _ _ _ _ _ _ w3 s3 h _ (q.mono e3)
  | ct τ2 => cases h; exact q
  | bk τ2 => cases h; exact q
  | rt d2 => cases h; exact q
theorem sss_frz {i : Nat} (h2 : SSs Y sc fc sts gs) : SSs Y sc fc sts (fun τ => gs (frzD τ i)) := by
  refine ⟨fun X ok H0 G0 G W H τ σ o w s h Dn q => ?_⟩
  obtain ⟨G', W', e', w', s'⟩ := frz_ok i w s
  exact h2.run X ok _ _ _ _ _ _ _ _ w' s' h _ (q.mono e')
/-- x = [.. for ..] -/
theorem ss_lc {i : Nat} {x : Str} {scope : Scope} {own : List (Str × Nat)} {iter elt : Expr} {ifs : List Expr} (hN : Y.N[i]? = some x) (hx : Loc sc x) (hf : (fc x || decide (sc.names.lookup x = some .local)) = true)
    (hi : SI Y sc fc tg iter fL) (hs : notSet iter = true) (hbk : blkC Y.N sc scope own = true)
    (hg : SG Y (relS scope sc) (fun x => scope.names.lookup x == some .cell) tg t) (ht : SCs Y (relS scope sc) (fun x => scope.names.lookup x == some .cell) ifs (fun τ => (fb τ).bind truth)) (he : SE Y (relS scope sc) (fun x => scope.names.lookup x == some .cell) elt fd)
    (hv : ∀ i ∈ tixs t, i ∈ own.map (·.2)) :
    SS Y sc fc (.Assign [.Name x p] (.ListComp elt [⟨tg, iter, ifs, 0⟩] scope p1) pos) (fun τ => ((fL τ).bind fun ds => if ds.length ≤ line then (lcL t fb fd (wipeD τ (own.map fun p => p.2)) ds).map .lst else none).bind fun d => (setT (.nm i) d τ).map .nx) := by
  refine ⟨fun X ok H0 G0 G W H τ σ o w s h Dn q => ?_⟩
  obtain ⟨d, hd, h⟩ := bnd h
  have he' := se_lc (pos := p1) hi hs hbk hg ht he hv
  cases hsw : (X.env.blockKind == .function && X.env.kindOf x == some .local && p.line == p1.line && !(scope.names.any fun (n, k) => n == x && (k == .local || k == .cell))) with
  | false =>
    cases h
    have e : swapsWith (.ListComp elt [⟨tg, iter, ifs, 0⟩] scope p1) (some (.Name x p)) pos.line X.env = pure false := by
      show (pure (X.env.blockKind == .function && X.env.kindOf x == some .local && p.line == p1.line && !(scope.names.any fun (n, k) => n == x && (k == .local || k == .cell))) : PySem.Sem Bool) = _
      rw [hsw]
    refine ⟨_, ps_set ok.nd (by rw [ok.eN]; exact hN) (ok.loc hx) pe_tu e (ok.hf hf), ?_⟩
    refine he'.run X ok _ _ _ _ _ _ _ _ w s hd _ fun v G1 H1 e1 w1 dv => ?_
    exact q _ _ _ _ e1 w1 ((s.mono e1).put dv)
  | true =>
    cases h
    obtain ⟨ds, hds, hd⟩ := bnd hd
    split at hd
    · rename_i hlen
      obtain ⟨xs, hxs, rfl⟩ := mpd hd
      have e : swapsWith (.ListComp elt [⟨tg, iter, ifs, 0⟩] scope p1) (some (.Name x p)) pos.line X.env = pure true := by
        show (pure (X.env.blockKind == .function && X.env.kindOf x == some .local && p.line == p1.line && !(scope.names.any fun (n, k) => n == x && (k == .local || k == .cell))) : PySem.Sem Bool) = _
        rw [hsw]
      have hloc : X.env.scope.names.lookup x = some .local := by
        simp only [Bool.and_eq_true] at hsw
        have := hsw.1.1.2
        simpa [Env.kindOf] using this
      refine ⟨_, ps_setLc (own := own) ok.calm ok.nd (by rw [ok.eN]; exact hN) hloc e pi_tu (blkOk_by (by rw [ok.eN, ok.sc]; exact hbk)) (fun s1 H1 C cl fp => ⟨fun pins s2 σ2 H2 v u Q2 I r h2 => pg_tu.run pins s2 σ2 H2 v u Q2 I r (h2 s1 H1 C cl fp)⟩)
        (fun s1 H1 C cl fp => ⟨fun pins s2 σ2 H2 Q2 I h2 => pts_tu.run pins s2 σ2 H2 Q2 I (h2 s1 H1 C cl fp)⟩) (fun s1 H1 C cl fp => ⟨fun pins s2 σ2 H2 Q2 I h2 => pe_tu.run pins s2 σ2 H2 Q2 I (h2 s1 H1 C cl fp)⟩) (folded_no hs),
        lc_read hi hg ht he hv ok w s hds hlen hxs fun p vs G' H' hp e' w' hW dxs => ?_⟩
      have hG := (w'.wh p _ upd_same).2
      have w2 := w'.give (o := .lst vs) upd_same
      have ew : del (upd W p (.lst vs)) p = W := by
        funext a
        by_cases ha : a = p
        · subst ha; rw [del_same]; exact hW.symm
        · rw [del_ne ha, upd_ne ha]
      rw [ew] at w2
      refine q _ _ _ _ (e'.trans (sub_upd hG)) w2 ((s.mono (e'.trans (sub_upd hG))).put ?_)
      simp only [Den]
      exact ⟨p, vs, rfl, upd_same, dxs.mono (sub_upd hG)⟩
    · cases hd
end
end
end Pv

set_option Elab.async false
set_option linter.all false
set_option maxRecDepth 100000
set_option maxHeartbeats 4000000

namespace Pv
open PySem PySem.Spec L2

/-! ### syntax -/
def plainBase : Expr → Bool
  | .Call .. => false
  | _ => true
theorem base_no {o : Expr} {m : Str} {env : Env} {whole : Sem Value} (h : plainBase o = true) : attributeBase o m env whole = whole := by
  cases o <;> first | rfl | simp [plainBase] at h
theorem all_bk {es : List Expr} {env : Env} {pos : Pos} (h : es.all notStar = true) : (backTo pos (starEach es env)).all (fun x => !x.1) = true := by
  induction es with
  | nil => rfl
  | cons e es ih =>
    simp only [List.all_cons, Bool.and_eq_true] at h
    rw [star_cons h.1]
    have := ih h.2
    simpa [backTo] using this
theorem form_ok {es : List Expr} {env : Env} {pos : Pos} (h : es.all notStar = true) (hl : es.length < 30) : methodCallForm (es.length + ([] : List Keyword).length) (backTo pos (starEach es env)) (backToKw pos (keywordEach [] env)) = true := by
  unfold methodCallForm
  have : (backTo pos (starEach es env)).all (!·.1) = true := all_bk h
  rw [this]
  simp [keywordEach, backToKw, hl]
theorem meth_eq {o : Expr} {m : Str} {apos pos : Pos} {es : List Expr} {env : Env} (hb : plainBase o = true) (hn : es.all notStar = true) (hl : es.length < 30) (hline : (apos.endLine == pos.line) = true) :
    eval (.Call (.Attribute o m apos) es [] pos) env = (do
      let ov ← eval o env
      standAt apos.atName
      let (f, first) ← holding [ov] (getMethod ov m (do return (← importBound o env).getD true))
      callWith pos f first (backTo pos (starEach es env)) (backToKw pos (keywordEach [] env))) := by
  rw [arm_eval_Call, base_no hb]
  have hp : methodCallPos true o env apos pos = pure pos := by unfold methodCallPos; simp [hline]
  unfold methodCall
  rw [form_ok hn hl, hp]
  rfl

/-! ### keywords -/
def TUk (X : Cx) (kws : List Keyword) : TA := fun σ H Q => ∃ t, PK X kws t ∧ t σ H Q
theorem pk_tu {X : Cx} {kws : List Keyword} : PK X kws (TUk X kws) := ⟨fun pos pins s σ H Q I ⟨_, p, h⟩ => p.run pos pins s σ H Q I h⟩
structure SK (Y : Stat) (sc : Scope) (fc : Str → Bool) (kws : List Keyword) (f : List Sl → Option (List D)) : Prop where
  run : ∀ X, XOk Y sc fc X → ∀ H0 G0 G W H τ σ ds, Wd H0 G0 G W H → SlOk X.K G W τ σ → f τ = some ds → ∀ Q, AQ X.K H0 G0 G W ds Q → TUk X kws σ H Q
theorem kw_names {env : Env} {pos : Pos} : ∀ kws : List Keyword, (backToKw pos (keywordEach kws env)).filterMap (·.1) = kws.filterMap (·.arg)
  | [] => rfl
  | ⟨n, e, p⟩ :: r => by
    have ih := kw_names (env := env) (pos := pos) r
    show List.filterMap _ ((n, _) :: _) = _
    rw [List.filterMap_cons, List.filterMap_cons]
    cases n with
    | none => exact ih
    | some n => exact congrArg (List.cons n) ih
theorem kw_all {env : Env} {pos : Pos} : ∀ {kws : List Keyword}, kws.all (fun k => k.arg.isSome) = true → (backToKw pos (keywordEach kws env)).all (·.1.isSome) = true ∧ (backToKw pos (keywordEach kws env)).any (·.1.isNone) = false
  | [], _ => ⟨rfl, rfl⟩
  | ⟨n, e, p⟩ :: r, h => by
    simp only [List.all_cons, Bool.and_eq_true] at h
    obtain ⟨i1, i2⟩ := kw_all (env := env) (pos := pos) h.2
    cases n with
    | none => simp at h
    | some n =>
      constructor
      · show ((some n).isSome && (backToKw pos (keywordEach r env)).all _) = true
        rw [i1]; rfl
      · show ((some n).isNone || (backToKw pos (keywordEach r env)).any _) = false
        rw [i2]; rfl
section
variable {X : Cx} {CX : CXT} {k : Nat} {f : Addr} {fd : FuncData} {ps ks : List Str} {sp : Sp} {E : XK} {x : Str} {p pos : Pos} {kws : List Keyword} {tk : TA} {g : List Value → List Value → List Value} {gV : List V → List V → List V}
theorem pe_callN0 (F : FnOk X.prog X.w X.K X.mg X.base CX k f fd ps sp) (hr : Room k X.A) (hg : Gl X x) (hm : X.mg x = some (.ref f)) (hk : PySem.W.keepIn X.K (.ref f) = true) (hb : KBn X.K fd ps 0 ks g gV) (hx : Passes CX X E)
    (hkw : PK X kws tk) (hall : (backToKw pos (keywordEach kws X.env)).all (·.1.isSome) = true) (hks : (backToKw pos (keywordEach kws X.env)).filterMap (·.1) = ks)
    (hdb : (x == ("__debug__" : Str)) = false) (hpl : ((backTo pos (starEach [] X.env)).any (·.1) || (backToKw pos (keywordEach kws X.env)).any (·.1.isNone)) = false) :
    PE X (.Call (.Name x p) [] kws pos) (tCallN 0 ks.length sp gV E tNil tk) := by
  refine ⟨fun pins s σ H Q I h => ?_⟩
  refine wpAny_Call_Name_kw (ld_glob I hg hm ?_ hdb)
  refine PySem.W.callWith_KW0 (h₀ := X.base) I.ok.mod.kin hk hall ?_ hpl
  refine thn (hkw.run pos pins s σ H _ I h) fun ws s2 ⟨zs, H2, I2, rz, l1, l2, q2⟩ => ⟨I2.kIn, ?_⟩
  rw [hks]
  exact run_fnN (us := []) (vs := []) F hr hb hx I2 .nil rz rfl l2 q2
end

section
variable {K : PySem.W.Frag} {G : Hp}
theorem permL_den {ds : List D} {vs : List V} (h : DenL K G ds vs) : ∀ perm : List Nat, DenL K G (permL perm ds) (perm.filterMap (vs[·]?))
  | [] => by simp [permL, DenL]
  | i :: perm => by
    have ih := permL_den h perm
    unfold permL at ih ⊢
    rw [List.filterMap_cons, List.filterMap_cons]
    cases hd : ds[i]? with
    | none =>
      have : vs[i]? = none := by
        rw [List.getElem?_eq_none_iff] at hd ⊢
        rw [← h.length]; exact hd
      rw [this]
      exact ih
    | some d =>
      obtain ⟨v, hv, dv⟩ := h.get hd
      rw [hv]
      simp only [DenL]
      exact ⟨v, _, rfl, dv, ih⟩
theorem fldOf_den : ∀ {ns : List Str} {ds : List D} {nvs : List (Str × V)} {f : Str} {d : D}, fldOf ns ds f = some d → ns = nvs.map (fun p => p.1) → DenL K G ds (nvs.map (fun p => p.2)) → ∃ v, nvs.lookup f = some v ∧ Den K G d v
  | [], ds, nvs, f, d, h, _, _ => by simp [fldOf] at h
  | n :: ns, [], nvs, f, d, h, _, _ => by simp [fldOf] at h
  | n :: ns, x :: ds, [], f, d, h, e, _ => by simp at e
  | n :: ns, x :: ds, p :: nvs, f, d, h, e, hd => by
    simp only [List.map_cons, List.cons.injEq] at e
    simp only [List.map_cons, DenL] at hd
    obtain ⟨v, r, e2, d1, d2⟩ := hd
    simp only [List.cons.injEq] at e2
    obtain ⟨e3, e4⟩ := e2
    subst e3 e4
    simp only [fldOf] at h
    obtain ⟨n', v'⟩ := p
    by_cases hn : n = f
    · rw [if_pos hn] at h
      cases h
      refine ⟨v', ?_, d1⟩
      have : (f == n') = true := by rw [← hn, e.1]; simp
      simp [List.lookup, this]
    · rw [if_neg hn] at h
      obtain ⟨w, h1, h2⟩ := fldOf_den h e.2 d2
      refine ⟨w, ?_, h2⟩
      have : (f == n') = false := by
        rw [beq_eq_false_iff_ne]
        intro z
        exact hn (by rw [e.1, z])
      simp [List.lookup, this, h1]
theorem lookup_none {nvs : List (Str × V)} {m : Str} (h : ¬ m ∈ nvs.map (fun p => p.1)) : nvs.lookup m = none := by
  induction nvs with
  | nil => rfl
  | cons p r ih =>
    simp only [List.map_cons, List.mem_cons, not_or] at h
    have : (m == p.1) = false := by rw [beq_eq_false_iff_ne]; exact h.1
    obtain ⟨a, b⟩ := p
    simp only [List.lookup, this]
    exact ih h.2
theorem putN_den : ∀ {ns : List Str} {ds : List D} {nvs : List (Str × V)} {f : Str} {d : D} {v : V}, ns = nvs.map (fun p => p.1) → DenL K G ds (nvs.map (fun p => p.2)) → Den K G d v →
    putN ns ds f = (putF f v nvs).map (fun p => p.1) ∧ DenL K G (putV ns ds f d) ((putF f v nvs).map (fun p => p.2))
  | [], ds, [], f, d, v, _, hd, dv => by
    cases ds with
    | nil =>
      simp only [putN, putV, putF, List.map_cons, List.map_nil, DenL]
      exact ⟨trivial, v, [], rfl, dv, rfl⟩
    | cons y ys => simp [DenL] at hd
  | [], ds, p :: nvs, f, d, v, e, _, _ => by simp at e
  | n :: ns, ds, [], f, d, v, e, _, _ => by simp at e
  | n :: ns, [], p :: nvs, f, d, v, _, hd, _ => by simp [DenL] at hd
  | n :: ns, x :: ds, p :: nvs, f, d, v, e, hd, dv => by
    simp only [List.map_cons, List.cons.injEq] at e
    simp only [List.map_cons, DenL] at hd
    obtain ⟨u, r, e2, d1, d2⟩ := hd
    simp only [List.cons.injEq] at e2
    obtain ⟨e3, e4⟩ := e2
    subst e4
    obtain ⟨n', v'⟩ := p
    obtain ⟨i1, i2⟩ := putN_den (f := f) (d := d) (v := v) e.2 d2 dv
    have en : n = n' := e.1
    subst en
    by_cases hn : n = f
    · simp only [putN, putV, putF, if_pos hn, List.map_cons, DenL]
      refine ⟨?_, v, _, rfl, dv, d2⟩
      rw [e.2]
    · simp only [putN, putV, putF, if_neg hn, List.map_cons, DenL]
      refine ⟨by rw [i1], v', _, rfl, ?_, i2⟩
      rw [show v' = u from e3]
      exact d1
theorem hasK_any {ks : List D} {kvs : List (Key × V)} (q : Key) (h : ks.map D.key = kvs.map (fun p => some p.1)) : hasK ks q = kvs.any fun kv => decide (kv.1 = q) := by
  unfold hasK
  have : (ks.any fun k => decide (D.key k = some q)) = (ks.map D.key).any fun z => decide (z = some q) := by rw [List.any_map]; rfl
  rw [this, h, List.any_map]
  congr 1
  funext p
  simp
theorem dput_den {ks vs : List D} {kvs : List (Key × V)} {q : Key} {x d : D} {v : V} (h1 : ks.map D.key = kvs.map (fun p => some p.1)) (h2 : DenL K G vs (kvs.map (fun p => p.2))) (hx : D.key x = some q) (dv : Den K G d v) :
    (dputK ks q x).map D.key = (putK kvs q v).map (fun p => some p.1) ∧ DenL K G (dputV ks vs q d) ((putK kvs q v).map (fun p => p.2)) := by
  unfold dputK dputV putK
  rw [hasK_any q h1]
  cases hc : kvs.any fun kv => decide (kv.1 = q)
  · simp only [Bool.false_eq_true, if_false, List.map_append, List.map_cons, List.map_nil]
    exact ⟨by rw [h1, hx], h2.snoc dv⟩
  · simp only [if_true]
    refine ⟨?_, ?_⟩
    · rw [h1, List.map_map]
      apply List.map_congr_left
      intro p _
      simp only [Function.comp]
      split <;> rfl
    · clear hc
      induction ks generalizing vs kvs with
      | nil =>
        cases kvs with
        | nil => simp [DenL]
        | cons p r => simp at h1
      | cons k ks ih =>
        cases kvs with
        | nil => simp at h1
        | cons p r =>
          cases vs with
          | nil => simp [DenL] at h2
          | cons y vs =>
            simp only [List.map_cons, List.cons.injEq] at h1
            simp only [List.map_cons, DenL] at h2
            obtain ⟨u, r', e, d1, d2⟩ := h2
            simp only [List.cons.injEq] at e
            obtain ⟨e1, e2⟩ := e
            subst e2
            have := ih h1.2 d2
            simp only [List.zipWith_cons_cons, List.map_cons, DenL]
            refine ⟨_, _, rfl, ?_, this⟩
            by_cases hq : p.1 = q
            · have : D.key k = some q := by rw [h1.1, hq]
              rw [if_pos this, if_pos hq]
              exact dv
            · have : ¬ D.key k = some q := by rw [h1.1]; intro z; exact hq (Option.some.inj z)
              rw [if_neg this, if_neg hq, e1]
              exact d1
theorem strsD_den : ∀ {ds : List D} {ps : List (List Nat)} {vs : List V}, strsD ds = some ps → DenL K G ds vs → vs = (ps.map mkS).map V.str
  | [], ps, vs, h, hd => by simp [strsD] at h; subst h; simp only [DenL] at hd; subst hd; rfl
  | x :: r, ps, vs, h, hd => by
    cases x <;> first | (simp [strsD] at h; done) | skip
    rename_i z
    simp only [strsD] at h
    obtain ⟨qs, h1, rfl⟩ := mpd h
    simp only [DenL, Den] at hd
    obtain ⟨v, r', rfl, rfl, d2⟩ := hd
    rw [strsD_den h1 d2]
    rfl
theorem joinN_eq (s : List Nat) : ∀ ps : List (List Nat), TL.joinL s ps = joinN s ps
  | [] => rfl
  | [p] => rfl
  | p :: q :: r => by
    show p ++ (s ++ TL.joinL s (q :: r)) = p ++ (s ++ joinN s (q :: r))
    rw [joinN_eq s (q :: r)]
end

section
variable {Y : Stat} {sc : Scope} {fc : Str → Bool} {pos p p1 p2 apos : Pos} {a b c o : Expr} {es : List Expr} {fa fb fd : List Sl → Option D} {fL fK : List Sl → Option (List D)} {kws : List Keyword}
theorem sk_nil : SK Y sc fc [] (fun _ => some []) :=
  ⟨fun X ok H0 G0 G W H τ σ ds w s h Q q => by cases h; exact ⟨_, pk_nil, q [] G H (Sub.refl G) w (by simp only [DenL])⟩⟩
theorem sk_cons {nm : Option Str} (ha : SE Y sc fc a fa) (hL : SK Y sc fc kws fL) : SK Y sc fc (⟨nm, a, p⟩ :: kws) (fun τ => (fa τ).bind fun d => (fL τ).map (d :: ·)) := by
  refine ⟨fun X ok H0 G0 G W H τ σ ds w s h Q q => ?_⟩
  obtain ⟨x, hx, h⟩ := bnd h
  obtain ⟨xs, hxs, rfl⟩ := mpd h
  refine ⟨_, pk_cons pe_tu pk_tu, ?_⟩
  refine ha.run X ok _ _ _ _ _ _ _ _ w s hx _ fun v G1 H1 e1 w1 dv => ?_
  refine hL.run X ok _ _ _ _ _ _ _ _ w1 (s.mono e1) hxs _ fun vs G2 H2 e2 w2 dvs => ?_
  exact q _ _ _ (e1.trans e2) w2 (by simp only [DenL]; exact ⟨v, vs, rfl, dv.mono e2, dvs⟩)
theorem se_callK {i : Nat} {x : Str} {ks : List Str} {perm : List Nat} (hi : (i, x, ks, perm) ∈ Y.kws) (hg : sc.names.lookup x = some .globalImplicit) (hd : (x == ("__debug__" : Str)) = false) (hks : kws.filterMap (·.arg) = ks) (hall : kws.all (fun k => k.arg.isSome) = true)
    (hL : SK Y sc fc kws fL) (hlen : ∀ τ ds, fL τ = some ds → ds.length = ks.length) : SE Y sc fc (.Call (.Name x p) [] kws pos) (fun τ => (fL τ).bind fun ds => Y.Z.F i (permL perm ds)) := by
  refine ⟨fun X ok H0 G0 G W H τ σ d w s h Q q => ?_⟩
  obtain ⟨xs, hxs, h⟩ := bnd h
  obtain ⟨f, fd, ps, g, gV, hm, hk, hb, hgV, hF⟩ := (ok.kws i x ks perm hi).ex
  obtain ⟨k1, k2⟩ := kw_all (env := X.env) (pos := pos) hall
  refine ⟨_, pe_callN0 hF ok.room (ok.gl hg) hm hk hb pass0 pk_tu k1 (by rw [kw_names, hks]) hd (by rw [k2]; rfl), ?_⟩
  refine hL.run X ok _ _ _ _ _ _ _ _ w s hxs _ fun vs G1 H1 e1 w1 dvs => ?_
  refine ⟨rfl, by rw [← dvs.length]; exact hlen _ _ hxs, ?_⟩
  rw [hgV]
  exact ⟨_, d, G1, w1.gh, permL_den dvs perm, h, fun v G' H' a b c e dv => q v G' H' (e1.trans b) (w1.call a b c e) dv⟩
/-- C(args) -/
theorem se_mk {i : Nat} {x : Str} (hi : (i, x) ∈ Y.mks) (hg : sc.names.lookup x = some .globalImplicit) (hd : (x == ("__debug__" : Str)) = false) (hn : (a :: es).all notStar = true) (hL : SA Y sc fc (a :: es) fL) :
    SE Y sc fc (.Call (.Name x p) (a :: es) [] pos) (fun τ => (fL τ).bind fun ds => Y.Z.F i ds) := by
  refine ⟨fun X ok H0 G0 G W H τ σ d w s h Q q => ?_⟩
  obtain ⟨xs, hxs, h⟩ := bnd h
  obtain ⟨C, f, fd, ps, k, hk, hC, hm, M, hb, hF, hv⟩ := (ok.mks i x hi).ex
  obtain ⟨ns, fs, rfl⟩ := hv _ _ h
  simp only [List.all_cons, Bool.and_eq_true] at hn
  refine ⟨_, pe_make M hF (ok.room.mono hk) (ok.gl hg) hm hb .nil pass0 pa_tu hd (star_cons hn.1) (star_any hn.2), ?_⟩
  refine hL.run X ok _ _ _ _ _ _ _ _ w s hxs _ fun vs G1 H1 e1 w1 dvs => ?_
  intro z dz hz hdz hne
  rw [List.append_nil]
  refine ⟨z, C, dz, vs, xs, ns, fs, G1, rfl, upd_same, hC, ?_, w1.gnone hz, dvs, h, ?_⟩
  · intro a u e
    rw [upd_ne (ne_of_none e (w1.gnone hz)), upd_ne (ne_of_none e (w1.gnone hdz))]
    exact w1.gh a u e
  · intro ob G' H' k1 k2 k3 k4 k5 k6 k7
    have big : ∀ a u, H1 a = some u → a ≠ z ∧ upd (upd H1 dz (.own z)) z (.ins C dz []) a = some u := fun a u e => by
      have n1 := ne_of_none e hz
      exact ⟨n1, by rw [upd_ne n1, upd_ne (ne_of_none e hdz)]; exact e⟩
    refine ⟨rfl, q _ G' H' (e1.trans k3) ⟨k4, fun a u e => ?_, w1.wi, fun a u e => ?_, fun a u e => ?_⟩ (DenO.den k6 _ k7)⟩
    · obtain ⟨n1, e2⟩ := big a u (w1.wh a u e).1
      exact ⟨k1 a u n1 e2, by rw [k5 a u n1 e2]; exact (w1.wh a u e).2⟩
    · obtain ⟨n1, e2⟩ := big a u (w1.h0 a u e).1
      rw [k5 a u n1 e2]
      exact w1.hg a u e
    · obtain ⟨n1, e2⟩ := big a u (w1.h0 a u e).1
      exact ⟨k1 a u n1 e2, (w1.h0 a u e).2⟩
/-- o.f, a field -/
theorem se_fld {f : Str} (hb : plainBase a = true) (ha : SE Y sc fc a fa) : SE Y sc fc (.Attribute a f pos) (fun τ => (fa τ).bind fun x => match x with
    | .ins c ns vs => if (c, f) ∈ Y.Z.L then fldOf ns vs f else none
    | _ => none) := by
  refine ⟨fun X ok H0 G0 G W H τ σ d w s h Q q => ?_⟩
  obtain ⟨x, hx, h⟩ := bnd h
  split at h
  · rename_i c ns vs
    split at h
    · rename_i hm
      obtain ⟨C, h1, h2, h3⟩ := (ok.fld c f hm).ex
      refine ⟨_, pe_fld pe_tu (base_no hb), ?_⟩
      refine ha.run X ok _ _ _ _ _ _ _ _ w s hx _ fun v G1 H1 e1 w1 dv => ?_
      simp only [Den] at dv
      obtain ⟨p, C', dx, nvs, rfl, hp, hC, hns, dvs⟩ := dv
      rw [h1] at hC
      cases hC
      obtain ⟨v, hl, dv⟩ := fldOf_den h hns dvs
      exact ⟨p, _, dx, nvs, v, rfl, w1.gh _ _ hp, h2, h3, hl, q _ _ _ e1 w1 dv⟩
    · cases h
  · cases h
/-- o.m(..) -/
theorem se_mth {m : Str} (hb : plainBase o = true) (hline : (apos.endLine == pos.line) = true) (hlen : es.length < 30) (ho : SE Y sc fc o fa) (hn : es.all notStar = true) (hL : SA Y sc fc es fL) (h0 : es = [] → ∀ τ ds, fL τ = some ds → ds = []) :
    SE Y sc fc (.Call (.Attribute o m apos) es [] pos) (fun τ => (fa τ).bind fun x => (fL τ).bind fun ds => match x with
    | .ins c ns vs => if m ∈ ns then none else (findM Y.Z.M c m).bind fun k => Y.Z.F k (x :: ds)
    | _ => none) := by
  refine ⟨fun X ok H0 G0 G W H τ σ d w s h Q q => ?_⟩
  obtain ⟨x, hx, h⟩ := bnd h
  obtain ⟨xs, hxs, h⟩ := bnd h
  split at h
  · rename_i c ns vs _
    split at h
    · cases h
    · rename_i hnm
      obtain ⟨k, hk, h⟩ := bnd h
      obtain ⟨C, f, fd, ps, h1, h2, h3, hbi, hF⟩ := (ok.mth c m k hk).ex
      have fin : ∀ (us : List V) (G1 H1 G2 H2 : Hp) (v : V), Sub G G1 → Sub G1 G2 → Wd H0 G0 G2 W H2 → Den X.K G1 (.ins c ns vs) v → DenL X.K G2 xs us → spF X.K (Y.Z.F k) (v :: (us ++ [])) H2 Q E0 := by
        intro us G1 H1 G2 H2 v e1 e2 w2 dv dus
        rw [List.append_nil]
        exact ⟨_, d, G2, w2.gh, by simp only [DenL]; exact ⟨v, us, rfl, dv.mono e2, dus⟩, h, fun v G' H' a b c e dv => q v G' H' ((e1.trans e2).trans b) (w2.call a b c e) dv⟩
      cases es with
      | nil =>
        refine ⟨_, pe_meth0 pe_tu h2 h3 hF ok.room hbi .nil pass0 (meth_eq hb hn (by simp) hline), ?_⟩
        refine ho.run X ok _ _ _ _ _ _ _ _ w s hx _ fun v G1 H1 e1 w1 dv => ?_
        have dv' := dv
        simp only [Den] at dv'
        obtain ⟨p, C', dx, nvs, rfl, hp, hC, hns, dvs⟩ := dv'
        rw [h1] at hC
        cases hC
        refine ⟨p, dx, nvs, rfl, w1.gh _ _ hp, lookup_none (by rw [← hns]; exact hnm), ?_⟩
        have e0 : xs = [] := h0 rfl _ _ hxs
        subst e0
        exact fin [] G1 H1 G1 H1 _ e1 (Sub.refl _) w1 dv (by simp only [DenL])
      | cons e1' er =>
        simp only [List.all_cons, Bool.and_eq_true] at hn
        refine ⟨_, pe_meth pe_tu h2 h3 hF ok.room hbi .nil pass0 pa_tu (star_cons hn.1) (star_any hn.2) (meth_eq hb (by simp [hn]) hlen hline), ?_⟩
        refine ho.run X ok _ _ _ _ _ _ _ _ w s hx _ fun v G1 H1 e1 w1 dv => ?_
        have dv' := dv
        simp only [Den] at dv'
        obtain ⟨p, C', dx, nvs, rfl, hp, hC, hns, dvs⟩ := dv'
        rw [h1] at hC
        cases hC
        refine ⟨p, dx, nvs, rfl, w1.gh _ _ hp, lookup_none (by rw [← hns]; exact hnm), ?_⟩
        refine hL.run X ok _ _ _ _ _ _ _ _ w1 (s.mono e1) hxs _ fun us G2 H2 e2 w2 dus => ?_
        exact fin us G1 H1 G2 H2 _ e1 e2 w2 dv dus
  · cases h
end
end Pv

set_option Elab.async false
set_option linter.all false
set_option maxRecDepth 100000
set_option maxHeartbeats 4000000

namespace Pv
open PySem PySem.Spec L2

section
variable {Y : Stat} {sc : Scope} {fc : Str → Bool} {pos p p1 p2 apos : Pos} {a b c o : Expr} {es : List Expr} {fa fb fd : List Sl → Option D} {fL fK : List Sl → Option (List D)} {kws : List Keyword}
/-- o.f, a property -/
theorem se_prp {f : Str} (hb : plainBase a = true) (ha : SE Y sc fc a fa) : SE Y sc fc (.Attribute a f pos) (fun τ => (fa τ).bind fun x => match x with
    | .ins c _ _ => (findM Y.Z.P c f).bind fun k => Y.Z.F k [x]
    | _ => none) := by
  refine ⟨fun X ok H0 G0 G W H τ σ d w s h Q q => ?_⟩
  obtain ⟨x, hx, h⟩ := bnd h
  split at h
  · rename_i c ns vs
    obtain ⟨k, hk, h⟩ := bnd h
    obtain ⟨C, p, f, fd, ps, lv, hlv, h1, h2, h3, hbi, hF⟩ := (ok.prp c f k hk).ex
    refine ⟨_, pe_prop pe_tu h2 h3 hF (ok.room.mono hlv) hbi .nil pass0 (base_no hb), ?_⟩
    refine ha.run X ok _ _ _ _ _ _ _ _ w s hx _ fun v G1 H1 e1 w1 dv => ?_
    have dv' := dv
    simp only [Den] at dv'
    obtain ⟨p, C', dx, nvs, rfl, hp, hC, hns, dvs⟩ := dv'
    rw [h1] at hC
    cases hC
    refine ⟨p, dx, nvs, rfl, w1.gh _ _ hp, ?_⟩
    exact ⟨_, d, G1, w1.gh, by simp only [DenL]; exact ⟨_, [], rfl, dv, rfl⟩, h, fun v G' H' a b c e dv => q v G' H' (e1.trans b) (w1.call a b c e) dv⟩
  · cases h
/-- sep.join(texts) -/
theorem joinOk_of {s : List Nat} {ps : List (List Nat)} (h : joinOk s ps = true) : ((ps.map mkS).map (·.length)).sum + (ps.map mkS).length * (mkS s).length ≤ 16777216 := by
  have := of_decide_eq_true h
  have e : (ps.map mkS).map (·.length) = ps.map (·.length) := by
    rw [List.map_map]
    apply List.map_congr_left
    intro x _
    exact mkS_len x
  rw [e, mkS_len, List.length_map]
  exact this
theorem se_join (hb : plainBase a = true) (hline : (apos.endLine == pos.line) = true) (hn : notStar b = true) (ha : SE Y sc fc a fa) (hb' : SE Y sc fc b fb) :
    SE Y sc fc (.Call (.Attribute a "join" apos) [b] [] pos) (fun τ => (fa τ).bind fun x => (fb τ).bind fun y => joinD x y) := by
  refine ⟨fun X ok H0 G0 G W H τ σ d w s h Q q => ?_⟩
  obtain ⟨x, hx, h⟩ := bnd h
  obtain ⟨y, hy, h⟩ := bnd h
  refine ⟨_, pe_join pe_tu pe_tu (star_cons hn) (base_no hb) hline, ?_⟩
  refine ha.run X ok _ _ _ _ _ _ _ _ w s hx _ fun v G1 H1 e1 w1 dv => ?_
  unfold joinD at h
  split at h
  · rename_i z ds _
    simp only [Den] at dv
    subst dv
    refine ⟨⟨_, rfl⟩, ?_⟩
    refine hb'.run X ok _ _ _ _ _ _ _ _ w1 (s.mono e1) hy _ fun u G2 H2 e2 w2 du => ?_
    simp only [Den] at du
    obtain ⟨p, us, rfl, hp, hu⟩ := du
    obtain ⟨ps, hps, h⟩ := bnd h
    split at h
    · rename_i hj
      cases h
      rw [strsD_den hps hu] at hp
      refine ⟨mkS z, p, ps.map mkS, rfl, rfl, .inl (SqL.of (w2.gh _ _ hp)), joinOk_of hj, ?_⟩
      refine q _ _ _ (e1.trans e2) w2 ?_
      have := SX.join_S z ps
      simp only [Den]
      congr 1
      rw [← joinN_eq]
      exact this
    · cases h
  · rename_i z ds _
    simp only [Den] at dv
    subst dv
    refine ⟨⟨_, rfl⟩, ?_⟩
    refine hb'.run X ok _ _ _ _ _ _ _ _ w1 (s.mono e1) hy _ fun u G2 H2 e2 w2 du => ?_
    simp only [Den] at du
    obtain ⟨p, us, rfl, hp, hu⟩ := du
    obtain ⟨ps, hps, h⟩ := bnd h
    split at h
    · rename_i hj
      cases h
      rw [strsD_den hps hu] at hp
      refine ⟨mkS z, p, ps.map mkS, rfl, rfl, .inr (sub_t w2.gh hp), joinOk_of hj, ?_⟩
      refine q _ _ _ (e1.trans e2) w2 ?_
      have := SX.join_S z ps
      simp only [Den]
      congr 1
      rw [← joinN_eq]
      exact this
    · cases h
  · cases h
/-- d.get(k) -/
theorem se_dget (hb : plainBase a = true) (hline : (apos.endLine == pos.line) = true) (hn : notStar b = true) (ha : SE Y sc fc a fa) (hb' : SE Y sc fc b fb) :
    SE Y sc fc (.Call (.Attribute a "get" apos) [b] [] pos) (fun τ => (fa τ).bind fun x => (fb τ).bind fun y => getD' x y) := by
  refine ⟨fun X ok H0 G0 G W H τ σ d w s h Q q => ?_⟩
  obtain ⟨x, hx, h⟩ := bnd h
  obtain ⟨y, hy, h⟩ := bnd h
  have hu : X.A.units + 1 < cLine := by have := ok.room.units; omega
  cases x <;> simp only [getD'] at h <;> try cases h
  obtain ⟨q', hq, rfl⟩ := mpd h
  have hst : starEach [b] X.env = [(false, eval b X.env)] := star_cons hn
  refine ⟨_, pe_dget1 hu pe_tu pe_tu ⟨base_no hb, form_ok (es := [b]) (by simp [hn]) (by simp), hline, by rw [hst]; rfl⟩, ?_⟩
  refine ha.run X ok _ _ _ _ _ _ _ _ w s hx _ fun v G1 H1 e1 w1 dv => ?_
  have dv' := dv
  simp only [Den] at dv'
  obtain ⟨p, kvs, rfl, hp, _⟩ := dv'
  refine ⟨p, rfl, .inl ⟨kvs, .inl (w1.gh _ _ hp)⟩, ?_⟩
  refine hb'.run X ok _ _ _ _ _ _ _ _ w1 (s.mono e1) hy _ fun u G2 H2 e2 w2 du => ?_
  obtain ⟨p', ob, eu, _, g, hh⟩ := dget_den du hq (dv.mono e2) w2.gh
  cases eu
  refine ⟨ob, g, ?_⟩
  rcases hh with ⟨d', z, a1, a2, a3⟩ | ⟨a1, a2⟩
  · rw [a1] at q
    subst a2
    exact q _ _ _ (e1.trans e2) w2 a3
  · rw [a1] at q
    subst a2
    exact q _ _ _ (e1.trans e2) w2 (by simp only [Option.getD_none, Den])
theorem getOd_some {τ : List Sl} {i : Nat} {kv : List D × List D} (h : getOd τ i = some kv) : τ[i]? = some (.o (.dct kv.1 kv.2)) := by
  unfold getOd at h
  split at h
  · rename_i e; cases h; exact e
  · cases h
theorem getOi_some {τ : List Sl} {i : Nat} {o : Str × List Str × List D} (h : getOi τ i = some o) : τ[i]? = some (.o (.ins o.1 o.2.1 o.2.2)) := by
  unfold getOi at h
  split at h
  · rename_i e; cases h; exact e
  · cases h
/-- e in x, x the slot's own dict -/
theorem own_dict {K : PySem.W.Frag} {G W H H0 G0 : Hp} {τ : List Sl} {σ : St} {i : Nat} {kv : List D × List D} (w : Wd H0 G0 G W H) (s : SlOk K G W τ σ) (h : getOd τ i = some kv) :
    ∃ p kvs, σ[i]? = some (some (.ref p)) ∧ W p = some (.dK kvs) ∧ H p = some (.dK kvs) ∧ kv.1.map D.key = kvs.map (fun p => some p.1) ∧ DenL K G kv.2 (kvs.map (fun p => p.2)) := by
  obtain ⟨p, ob, h1, h2, h3⟩ := s.own i _ (getOd_some h)
  simp only [DenO] at h3
  obtain ⟨kvs, rfl, h4, h5⟩ := h3
  exact ⟨p, kvs, h1, h2, (w.wh _ _ h2).1, h4, h5⟩
theorem se_ino {i : Nat} {x : Str} (hN : Y.N[i]? = some x) (hv : Vis sc x) (hd : (x == ("__debug__" : Str)) = false) (hcd : (x == ("__classdict__" : Str)) = false) (ha : SE Y sc fc a fa) :
    SE Y sc fc (.Compare a [.In] [.Name x p] pos) (fun τ => (fa τ).bind fun x => (D.key x).bind fun q => (getOd τ i).map fun kv => .bl ((dlook kv.1 kv.2 q).isSome != false)) := by
  refine ⟨fun X ok H0 G0 G W H τ σ d w s h Q q => ?_⟩
  obtain ⟨y, hx, h⟩ := bnd h
  obtain ⟨q', hq, h⟩ := bnd h
  obtain ⟨kv, hkv, rfl⟩ := mpd h
  have hu : X.A.units + 1 < cLine := by have := ok.room.units; omega
  refine ⟨_, pe_cmp (pc_din hu pe_tu (pe_var (by rw [ok.eN]; exact hN) (ok.vis hv) hd hcd)) rfl, ?_⟩
  refine ha.run X ok _ _ _ _ _ _ _ _ w s hx _ fun v G1 H1 e1 w1 dv => ?_
  obtain ⟨p, kvs, h1, h2, h3, h4, h5⟩ := own_dict w1 (s.mono e1) hkv
  refine ⟨_, h1, p, valV kvs q', rfl, by rw [key_den0 hq dv]; exact DGet.k h3, ?_⟩
  rw [← isSome_of (dlook_den q' h4 h5)]
  refine q _ _ _ e1 w1 ?_
  simp only [Den]
  cases (dlook kv.1 kv.2 q').isSome <;> rfl
theorem se_nino {i : Nat} {x : Str} (hN : Y.N[i]? = some x) (hv : Vis sc x) (hd : (x == ("__debug__" : Str)) = false) (hcd : (x == ("__classdict__" : Str)) = false) (ha : SE Y sc fc a fa) :
    SE Y sc fc (.Compare a [.NotIn] [.Name x p] pos) (fun τ => (fa τ).bind fun x => (D.key x).bind fun q => (getOd τ i).map fun kv => .bl ((dlook kv.1 kv.2 q).isSome != true)) := by
  refine ⟨fun X ok H0 G0 G W H τ σ d w s h Q q => ?_⟩
  obtain ⟨y, hx, h⟩ := bnd h
  obtain ⟨q', hq, h⟩ := bnd h
  obtain ⟨kv, hkv, rfl⟩ := mpd h
  have hu : X.A.units + 1 < cLine := by have := ok.room.units; omega
  refine ⟨_, pe_cmp (pc_dnotin hu pe_tu (pe_var (by rw [ok.eN]; exact hN) (ok.vis hv) hd hcd)) rfl, ?_⟩
  refine ha.run X ok _ _ _ _ _ _ _ _ w s hx _ fun v G1 H1 e1 w1 dv => ?_
  obtain ⟨p, kvs, h1, h2, h3, h4, h5⟩ := own_dict w1 (s.mono e1) hkv
  refine ⟨_, h1, p, valV kvs q', rfl, by rw [key_den0 hq dv]; exact DGet.k h3, ?_⟩
  rw [← isSome_of (dlook_den q' h4 h5)]
  refine q _ _ _ e1 w1 ?_
  simp only [Den]
  cases (dlook kv.1 kv.2 q').isSome <;> rfl
theorem st_ino {i : Nat} {x : Str} (hN : Y.N[i]? = some x) (hv : Vis sc x) (hd : (x == ("__debug__" : Str)) = false) (hcd : (x == ("__classdict__" : Str)) = false) (ha : SE Y sc fc a fa) :
    ST Y sc fc (.Compare a [.In] [.Name x p] pos) (fun τ => ((fa τ).bind fun x => (D.key x).bind fun q => (getOd τ i).map fun kv => D.bl ((dlook kv.1 kv.2 q).isSome != false)).bind truth) := by
  refine ⟨fun X ok H0 G0 G W H τ σ d w s h Q q => ?_⟩
  obtain ⟨dd, h, ht⟩ := bnd h
  obtain ⟨y, hx, h⟩ := bnd h
  obtain ⟨q', hq, h⟩ := bnd h
  obtain ⟨kv, hkv, rfl⟩ := mpd h
  cases ht
  have hu : X.A.units + 1 < cLine := by have := ok.room.units; omega
  refine ⟨_, pt_cmp (pc_din hu pe_tu (pe_var (by rw [ok.eN]; exact hN) (ok.vis hv) hd hcd)) rfl, ?_⟩
  refine ha.run X ok _ _ _ _ _ _ _ _ w s hx _ fun v G1 H1 e1 w1 dv => ?_
  obtain ⟨p, kvs, h1, h2, h3, h4, h5⟩ := own_dict w1 (s.mono e1) hkv
  refine ⟨_, h1, p, valV kvs q', rfl, by rw [key_den0 hq dv]; exact DGet.k h3, ?_⟩
  rw [← isSome_of (dlook_den q' h4 h5)]
  refine ⟨_, rfl, ?_⟩
  have := q _ _ e1 w1
  cases hz : (dlook kv.1 kv.2 q').isSome <;> rw [hz] at this <;> exact this
theorem st_nino {i : Nat} {x : Str} (hN : Y.N[i]? = some x) (hv : Vis sc x) (hd : (x == ("__debug__" : Str)) = false) (hcd : (x == ("__classdict__" : Str)) = false) (ha : SE Y sc fc a fa) :
    ST Y sc fc (.Compare a [.NotIn] [.Name x p] pos) (fun τ => ((fa τ).bind fun x => (D.key x).bind fun q => (getOd τ i).map fun kv => D.bl ((dlook kv.1 kv.2 q).isSome != true)).bind truth) := by
  refine ⟨fun X ok H0 G0 G W H τ σ d w s h Q q => ?_⟩
  obtain ⟨dd, h, ht⟩ := bnd h
  obtain ⟨y, hx, h⟩ := bnd h
  obtain ⟨q', hq, h⟩ := bnd h
  obtain ⟨kv, hkv, rfl⟩ := mpd h
  cases ht
  have hu : X.A.units + 1 < cLine := by have := ok.room.units; omega
  refine ⟨_, pt_cmp (pc_dnotin hu pe_tu (pe_var (by rw [ok.eN]; exact hN) (ok.vis hv) hd hcd)) rfl, ?_⟩
  refine ha.run X ok _ _ _ _ _ _ _ _ w s hx _ fun v G1 H1 e1 w1 dv => ?_
  obtain ⟨p, kvs, h1, h2, h3, h4, h5⟩ := own_dict w1 (s.mono e1) hkv
  refine ⟨_, h1, p, valV kvs q', rfl, by rw [key_den0 hq dv]; exact DGet.k h3, ?_⟩
  rw [← isSome_of (dlook_den q' h4 h5)]
  refine ⟨_, rfl, ?_⟩
  have := q _ _ e1 w1
  cases hz : (dlook kv.1 kv.2 q').isSome <;> rw [hz] at this <;> exact this

/-! ### statements -/
theorem ss_never {st : Stmt} : SS Y sc fc st (fun _ => none) := ⟨fun X ok H0 G0 G W H τ σ o w s h Dn q => by cases h⟩
/-- x = {}, the dict the slot's own -/
theorem ss_newd {i : Nat} {x : Str} (hN : Y.N[i]? = some x) (hx : Loc sc x) (hf : (fc x || decide (sc.names.lookup x = some .local)) = true) :
    SS Y sc fc (.Assign [.Name x p] (.Dict [] [] p1) pos) (fun τ => some (.nx (τ.set i (.o (.dct [] []))))) := by
  refine ⟨fun X ok H0 G0 G W H τ σ o w s h Dn q => ?_⟩
  cases h
  refine ⟨_, ps_set ok.nd (by rw [ok.eN]; exact hN) (ok.loc hx) pe_dnewK (swaps_no rfl) (ok.hf hf), ?_⟩
  intro z hz
  exact q _ _ _ _ (Sub.refl _) (w.newO hz) (s.putO (w.wnone hz) (by simp only [DenO]; exact ⟨[], rfl, rfl, by simp [DenL]⟩))
/-- x[k] = e, x the slot's own dict -/
theorem ss_put {i : Nat} {x : Str} (hN : Y.N[i]? = some x) (hv : Vis sc x) (hd : (x == ("__debug__" : Str)) = false) (hcd : (x == ("__classdict__" : Str)) = false) (hc : notComp a = true) (ha : SE Y sc fc a fa) (hb : SE Y sc fc b fb) :
    SS Y sc fc (.Assign [.Subscript (.Name x p) b p1] a pos) (fun τ => (fa τ).bind fun d => (fb τ).bind fun x => (D.key x).bind fun q => (getOd τ i).bind fun kv => if kv.1.length < line then some (.nx (τ.set i (.o (.dct (dputK kv.1 q x) (dputV kv.1 kv.2 q d))))) else none) := by
  refine ⟨fun X ok H0 G0 G W H τ σ o w s h Dn q => ?_⟩
  obtain ⟨d, hd', h⟩ := bnd h
  obtain ⟨y, hy, h⟩ := bnd h
  obtain ⟨q', hq, h⟩ := bnd h
  obtain ⟨kv, hkv, h⟩ := bnd h
  split at h
  · rename_i hl
    cases h
    have hu : X.A.units + 1 < cLine := by have := ok.room.units; omega
    refine ⟨_, ps_dput hu (pe_var (by rw [ok.eN]; exact hN) (ok.vis hv) hd hcd) pe_tu pe_tu (swaps_no hc), ?_⟩
    refine ha.run X ok _ _ _ _ _ _ _ _ w s hd' _ fun v G1 H1 e1 w1 dv => ?_
    obtain ⟨p, kvs, h1, _, _, _, _⟩ := own_dict w1 (s.mono e1) hkv
    refine ⟨_, h1, ?_⟩
    refine hb.run X ok _ _ _ _ _ _ _ _ w1 (s.mono e1) hy _ fun u G2 H2 e2 w2 du => ?_
    obtain ⟨p', kvs', h1', h2, h3, h4, h5⟩ := own_dict w2 ((s.mono e1).mono e2) hkv
    rw [h1] at h1'
    cases h1'
    have hlen : kvs'.length < sizeLine := by
      have := congrArg List.length h4
      simp only [List.length_map] at this
      rw [← this]
      exact lt_line hl
    refine ⟨p, _, rfl, by rw [key_den0 hq du]; exact DPut.k h3 hlen, ?_⟩
    refine q _ _ _ _ (e1.trans e2) (w2.set h2) (((s.mono e1).mono e2).chg (getOd_some hkv) h1 ?_)
    simp only [DenO]
    obtain ⟨r1, r2⟩ := dput_den h4 h5 hq (dv.mono e2)
    exact ⟨_, rfl, r1, r2⟩
  · cases h
/-- o.f = e, o the slot's own instance -/
theorem ss_setf {i : Nat} {x f : Str} (hN : Y.N[i]? = some x) (hv : Vis sc x) (hd : (x == ("__debug__" : Str)) = false) (hcd : (x == ("__classdict__" : Str)) = false) (hc : notComp a = true) (ha : SE Y sc fc a fa) :
    SS Y sc fc (.Assign [.Attribute (.Name x p) f p1] a pos) (fun τ => (fa τ).bind fun d => (getOi τ i).bind fun o => if (o.1, f) ∈ Y.Z.L ∧ o.2.1.length < 1000 then some (.nx (τ.set i (.o (.ins o.1 (putN o.2.1 o.2.2 f) (putV o.2.1 o.2.2 f d))))) else none) := by
  refine ⟨fun X ok H0 G0 G W H τ σ o w s h Dn q => ?_⟩
  obtain ⟨d, hd', h⟩ := bnd h
  obtain ⟨oi, hoi, h⟩ := bnd h
  split at h
  · rename_i hl
    cases h
    obtain ⟨C, c1, c2, c3⟩ := (ok.fld _ _ hl.1).ex
    refine ⟨_, ps_fld (pe_var (by rw [ok.eN]; exact hN) (ok.vis hv) hd hcd) pe_tu (swaps_no hc), ?_⟩
    refine ha.run X ok _ _ _ _ _ _ _ _ w s hd' _ fun v G1 H1 e1 w1 dv => ?_
    obtain ⟨p, ob, h1, h2, h3⟩ := (s.mono e1).own i _ (getOi_some hoi)
    simp only [DenO] at h3
    obtain ⟨C', dx, nvs, rfl, hC, hns, dvs⟩ := h3
    rw [c1] at hC
    cases hC
    refine ⟨_, h1, p, _, dx, nvs, rfl, (w1.wh _ _ h2).1, c2, c3, ?_, ?_⟩
    · have := congrArg List.length hns
      simp only [List.length_map] at this
      omega
    · obtain ⟨r1, r2⟩ := putN_den (f := f) hns dvs dv
      exact q _ _ _ _ e1 (w1.set h2 (fun _ _ _ _ => ⟨_, _, _, rfl⟩)) ((s.mono e1).chg (getOi_some hoi) h1 (by simp only [DenO]; exact ⟨_, dx, _, rfl, c1, r1, r2⟩))
  · cases h
theorem DenL.set {K : PySem.W.Frag} {G : Hp} : ∀ {ds : List D} {vs : List V} (n : Nat) {d : D} {v : V}, DenL K G ds vs → Den K G d v → DenL K G (ds.set n d) (vs.set n v)
  | [], _, n, d, v, h, _ => by simp only [DenL] at h; subst h; simp [DenL]
  | x :: ds, _, 0, d, v, h, h' => by
    simp only [DenL] at h
    obtain ⟨u, r, rfl, h1, h2⟩ := h
    simp only [List.set_cons_zero, DenL]
    exact ⟨v, r, rfl, h', h2⟩
  | x :: ds, _, n + 1, d, v, h, h' => by
    simp only [DenL] at h
    obtain ⟨u, r, rfl, h1, h2⟩ := h
    simp only [List.set_cons_succ, DenL]
    exact ⟨u, _, rfl, h1, DenL.set n h2 h'⟩
theorem assign_sub {o i : Expr} {q : Pos} {env : Env} (h : notSlice i = true) : ∀ v, assign (.Subscript o i q) env v = (do
      let ov ← holding [v] (eval o env)
      let iv ← holding [v, ov] (eval i env)
      standAt q
      holding [v, ov, iv] (setItem ov iv v)
      release [v, ov, iv] []) := by
  intro v
  cases i <;> first | rfl | simp [notSlice] at h
/-- x[k] = e, x the slot's own list -/
theorem ss_seti {i : Nat} {x : Str} (hN : Y.N[i]? = some x) (hv : Vis sc x) (hd : (x == ("__debug__" : Str)) = false) (hcd : (x == ("__classdict__" : Str)) = false) (hc : notComp a = true) (hnt : notTup a = true) (hs : notSlice b = true) (ha : SE Y sc fc a fa) (hb : SE Y sc fc b fb) :
    SS Y sc fc (.Assign [.Subscript (.Name x p) b p1] a pos) (fun τ => (fa τ).bind fun d => ((fb τ).bind intD).bind fun j => (getO τ i).bind fun xs => (ixN xs.length j).map fun n => .nx (τ.set i (.o (.lst (xs.set n d))))) := by
  refine ⟨fun X ok H0 G0 G W H τ σ o w s h Dn q => ?_⟩
  obtain ⟨d, hd', h⟩ := bnd h
  obtain ⟨j, hj, h⟩ := bnd h
  obtain ⟨y, hy, hj⟩ := bnd hj
  obtain ⟨xs, hxs, h⟩ := bnd h
  obtain ⟨n, hn, rfl⟩ := mpd h
  cases y <;> simp [intD] at hj
  subst hj
  refine ⟨_, ps_asg pe_tu (pg_sub (pe_var (by rw [ok.eN]; exact hN) (ok.vis hv) hd hcd) pe_tu set_list (assign_sub hs)) (swaps_sole hc) (stores_no hnt) rfl, ?_⟩
  refine ha.run X ok _ _ _ _ _ _ _ _ w s hd' _ fun v G1 H1 e1 w1 dv => ?_
  obtain ⟨p, ob, h1, h2, h3⟩ := (s.mono e1).own i _ (getO_some hxs)
  refine ⟨_, h1, ?_⟩
  refine hb.run X ok _ _ _ _ _ _ _ _ w1 (s.mono e1) hy _ fun u G2 H2 e2 w2 du => ?_
  simp only [Den] at du
  obtain ⟨p', ob', h1', h2', h3'⟩ := ((s.mono e1).mono e2).own i _ (getO_some hxs)
  rw [h1] at h1'
  cases h1'
  simp only [DenO] at h3'
  obtain ⟨us, rfl, h4⟩ := h3'
  refine ⟨p, us, _, n, rfl, du, (w2.wh _ _ h2').1, by rw [← h4.length]; exact hn, ?_⟩
  exact q _ _ _ _ (e1.trans e2) (w2.set h2') (((s.mono e1).mono e2).chg (getO_some hxs) h1 (by simp only [DenO]; exact ⟨_, rfl, h4.set n (dv.mono e2)⟩))
end
end Pv

set_option Elab.async false
set_option linter.all false
set_option maxRecDepth 100000
set_option maxHeartbeats 4000000

namespace Pv
open PySem PySem.Spec L2

/-! ### the same tree -/
mutual
theorem beq_eq : ∀ (a b : D), D.beq a b = true → a = b
  | .non, b, h => by cases b <;> simp [D.beq] at h <;> rfl
  | .bl a, b, h => by cases b <;> simp [D.beq] at h; rw [h]
  | .int a, b, h => by cases b <;> simp [D.beq] at h; rw [h]
  | .str a, b, h => by cases b <;> simp [D.beq] at h; rw [h]
  | .lst a, b, h => by cases b <;> simp [D.beq] at h; rw [beqL_eq _ _ h]
  | .tup a, b, h => by cases b <;> simp [D.beq] at h; rw [beqL_eq _ _ h]
  | .dct a c, b, h => by cases b <;> simp [D.beq] at h; rw [beqL_eq _ _ h.1, beqL_eq _ _ h.2]
  | .ins _ _ _, b, h => by simp [D.beq] at h
  | .scr _, b, h => by simp [D.beq] at h
theorem beqL_eq : ∀ (a b : List D), D.beqL a b = true → a = b
  | [], b, h => by cases b <;> simp [D.beqL] at h; rfl
  | a :: r, b, h => by
    cases b with
    | nil => simp [D.beqL] at h
    | cons b s =>
      simp [D.beqL] at h
      rw [beq_eq _ _ h.1, beqL_eq _ _ h.2]
end
section
variable {X : Cx} {pins : List (Addr × Obj)} {σ : L2.St} {H G : Hp} {s : Shared}
theorem valsAt {P : Value → Value → Prop} : ∀ {us ws : List Value} (j : Nat) (h1 : j < us.toArray.size) (h2 : j < ws.toArray.size), (∀ (h1 : j < us.length) (h2 : j < ws.length), P us[j] ws[j]) → P us.toArray[j] ws.toArray[j] := fun j h1 h2 h => by
  simpa using h (by simpa using h1) (by simpa using h2)
theorem key_in : ∀ {q : List (Key × V)} {va : List (Key × Value)} {k : Key} {v : Value}, KV q va → (k, v) ∈ va → ∃ (i : Nat) (z : V), q[i]? = some (k, z) ∧ RelV z v
  | _, _, _, _, .nil, h => by cases h
  | _, _, k, v, .cons (a := p) (b := b) h t, hm => by
    rcases List.mem_cons.mp hm with e | hm
    · subst e
      obtain ⟨h1, h2⟩ := h
      exact ⟨0, p.2, by rw [List.getElem?_cons_zero]; congr 1; exact Prod.ext h1 rfl, h2⟩
    · obtain ⟨i, z, a, c⟩ := key_in t hm
      exact ⟨i + 1, z, by rw [List.getElem?_cons_succ]; exact a, c⟩
theorem len_all {n : Nat} : ((List.range n).all fun _ => true) = true := List.all_eq_true.mpr fun _ _ => rfl
theorem keysV : ∀ {q : List (Key × V)} {va : List (Key × Value)}, KV q va → va.map (fun p => p.1) = q.map (fun p => p.1)
  | _, _, .nil => rfl
  | _, _, .cons h t => by rw [List.map_cons, List.map_cons, keysV t, h.1]
theorem valsV : ∀ {q : List (Key × V)} {va : List (Key × Value)}, KV q va → Vals (q.map fun p => p.2) (va.map fun p => p.2)
  | _, _, .nil => .nil
  | _, _, .cons h t => .cons h.2 (valsV t)
theorem distinct_ix : ∀ {ks : List (Option Key)}, distinctK ks = true → ∀ {i j : Nat} {k : Option Key}, ks[i]? = some k → ks[j]? = some k → i = j
  | [], _, i, _, _, h, _ => by simp at h
  | none :: r, h, _, _, _, _, _ => by simp [distinctK] at h
  | some k0 :: r, h, i, j, k, hi, hj => by
    simp only [distinctK, Bool.and_eq_true, List.all_eq_true, decide_eq_true_eq] at h
    cases i with
    | zero =>
      cases j with
      | zero => rfl
      | succ j =>
        simp at hi hj
        exact absurd hi.symm (h.1 k (List.mem_of_getElem? hj))
    | succ i =>
      cases j with
      | zero =>
        simp at hi hj
        exact absurd hj.symm (h.1 k (List.mem_of_getElem? hi))
      | succ j =>
        have hi' : r[i]? = some k := by simpa using hi
        have hj' : r[j]? = some k := by simpa using hj
        rw [distinct_ix h.2 hi' hj']
theorem key_at {ks : List D} {vs : List (Key × V)} {va : List (Key × Value)} (h : ks.map D.key = vs.map (fun p => some p.1)) (r : KV vs va) {k : Key} {x : Value} (hm : (k, x) ∈ va) : ∃ i : Nat, (ks.map D.key)[i]? = some (some k) ∧ (va.map fun p => p.2)[i]? = some x := by
  obtain ⟨i, hi⟩ := List.getElem?_of_mem hm
  refine ⟨i, ?_, by rw [List.getElem?_map, hi]; rfl⟩
  have e : vs.map (fun p => some p.1) = (va.map fun p => p.1).map some := by rw [keysV r, List.map_map]; rfl
  rw [h, e, List.getElem?_map, List.getElem?_map, hi]
  rfl
mutual
theorem tree_same (I : Inv X pins σ H s) (e : Sub G H) : ∀ (d : D) (n : Nat), D.deep d n = true → ∀ {v u : V} {v' u' : Value}, Den X.K G d v → Den X.K G d u → RelV v v' → RelV u u' → PySem.W.EqTree X.prog X.w s n v' u' true
  | .non, n, _, v, u, v', u', hv, hu, rv, ru => by
    simp only [Den] at hv hu; subst hv hu
    exact .leaf fun _ _ => eqAt_same rv ru rfl
  | .bl b, n, _, v, u, v', u', hv, hu, rv, ru => by
    simp only [Den] at hv hu; subst hv hu
    exact .leaf fun _ _ => eqAt_same rv ru rfl
  | .int b, n, _, v, u, v', u', hv, hu, rv, ru => by
    simp only [Den] at hv hu; subst hv hu
    exact .leaf fun _ _ => eqAt_same rv ru rfl
  | .str b, n, _, v, u, v', u', hv, hu, rv, ru => by
    simp only [Den] at hv hu; subst hv hu
    exact .leaf fun _ _ => eqAt_same rv ru rfl
  | .lst ds, n, h, v, u, v', u', hv, hu, rv, ru => by
    cases n with
    | zero => simp [D.deep] at h
    | succ n =>
      simp only [D.deep] at h
      simp only [Den] at hv hu
      obtain ⟨a, vs, rfl, ha, hvs⟩ := hv
      obtain ⟨b, us, rfl, hb, hus⟩ := hu
      cases (show v' = Value.ref a from rv)
      cases (show u' = Value.ref b from ru)
      by_cases ab : a = b
      · subst ab; exact .same
      · obtain ⟨va, r1, p1, _⟩ := I.list (SqL.of (e _ _ ha))
        obtain ⟨ub, r2, p2, _⟩ := I.list (SqL.of (e _ _ hb))
        have l : va.length = ub.length := by rw [← r1.length, ← r2.length, ← hvs.length, ← hus.length]
        have := PySem.W.EqTree.lists (prog := X.prog) (w := X.w) (n := n) (e := fun _ => true) ab p1.isList p2.isList (by simpa using l) (fun j h1 h2 => valsAt (P := fun x y => PySem.W.EqTree X.prog X.w s n x y true) j h1 h2 (treeL_same I e ds n h hvs hus r1 r2 j))
        rw [len_all] at this
        exact this
  | .tup ds, n, h, v, u, v', u', hv, hu, rv, ru => by
    cases n with
    | zero => simp [D.deep] at h
    | succ n =>
      simp only [D.deep] at h
      simp only [Den] at hv hu
      obtain ⟨a, vs, rfl, ha, hvs⟩ := hv
      obtain ⟨b, us, rfl, hb, hus⟩ := hu
      cases (show v' = Value.ref a from rv)
      cases (show u' = Value.ref b from ru)
      by_cases ab : a = b
      · subst ab; exact .same
      · obtain ⟨va, r1, p1, _⟩ := I.tuple (sub_t e ha)
        obtain ⟨ub, r2, p2, _⟩ := I.tuple (sub_t e hb)
        have l : va.length = ub.length := by rw [← r1.length, ← r2.length, ← hvs.length, ← hus.length]
        have := PySem.W.EqTree.tuples (prog := X.prog) (w := X.w) (n := n) (e := fun _ => true) ab p1 p2 (fun j h1 h2 => valsAt (P := fun x y => PySem.W.EqTree X.prog X.w s n x y true) j h1 h2 (treeL_same I e ds n h hvs hus r1 r2 j))
        rw [len_all] at this
        have l' : (va.toArray.size == ub.toArray.size) = true := by simpa using l
        rw [l'] at this
        exact this
  | .dct ks ds, n, h, v, u, v', u', hv, hu, rv, ru => by
    cases n with
    | zero => simp [D.deep] at h
    | succ n =>
      simp only [D.deep, Bool.and_eq_true] at h
      simp only [Den] at hv hu
      obtain ⟨a, vs, rfl, ha, hk1, hvs⟩ := hv
      obtain ⟨b, us, rfl, hb, hk2, hus⟩ := hu
      cases (show v' = Value.ref a from rv)
      cases (show u' = Value.ref b from ru)
      by_cases ab : a = b
      · subst ab; exact .same
      · obtain ⟨_, ya, va, ra, da⟩ := (show ObjOk X.prog X.w H s.heap a (.dK vs) from I.hok a _ (e _ _ ha))
        obtain ⟨_, yb, vb, rb, db⟩ := (show ObjOk X.prog X.w H s.heap b (.dK us) from I.hok b _ (e _ _ hb))
        have := PySem.W.EqTree.dicts (prog := X.prog) (w := X.w) (knd := mixKind X.prog X.w) (n := n) (e := fun _ => true) ab ya yb da db (fun k x y hm hy => by
          obtain ⟨i, i1, i2⟩ := key_at hk1 ra hm
          obtain ⟨j, j1, j2⟩ := key_at hk2 rb (valueAt_mem hy)
          have ij := distinct_ix h.1 i1 j1
          subst ij
          have b1 := (List.getElem?_eq_some_iff.mp i2).1
          have b2 := (List.getElem?_eq_some_iff.mp j2).1
          have t := treeL_same I e ds n h.2 hvs hus (valsV ra) (valsV rb) i b1 b2
          rw [(List.getElem?_eq_some_iff.mp i2).2, (List.getElem?_eq_some_iff.mp j2).2] at t
          exact t)
        have q : (va.length == vb.length && va.all fun p => (valueAt vb p.1).isSome && true) = true := by
          have kk : va.map (fun p => p.1) = vb.map (fun p => p.1) := by
            have : (vs.map (fun p => p.1)).map some = (us.map (fun p => p.1)).map some := by rw [List.map_map, List.map_map]; exact hk1.symm.trans hk2
            have inj : vs.map (fun p => p.1) = us.map (fun p => p.1) := (by
              have e : ∀ l : List Key, (l.map some).filterMap id = l := fun l => by induction l with | nil => rfl | cons a r ih => simpa using ih
              rw [← e (vs.map (fun p => p.1)), this, e])
            rw [keysV ra, keysV rb, inj]
          have hl := congrArg List.length kk
          rw [List.length_map, List.length_map] at hl
          simp only [Bool.and_eq_true, beq_iff_eq, List.all_eq_true, Bool.and_true]
          refine ⟨hl, fun p hp => ?_⟩
          rw [valueAt_isSome]
          have : p.1 ∈ va.map (fun p => p.1) := List.mem_map.mpr ⟨p, hp, rfl⟩
          rw [kk] at this
          exact this
        rw [q] at this
        exact this
  | .ins _ _ _, n, h, _, _, _, _, _, _, _, _ => by simp [D.deep] at h
  | .scr _, n, h, _, _, _, _, _, _, _, _ => by simp [D.deep] at h
theorem treeL_same (I : Inv X pins σ H s) (e : Sub G H) : ∀ (ds : List D) (n : Nat), D.deepL ds n = true → ∀ {vs us : List V} {vs' us' : List Value}, DenL X.K G ds vs → DenL X.K G ds us → Vals vs vs' → Vals us us' → ∀ (j : Nat) (h1 : j < vs'.length) (h2 : j < us'.length), PySem.W.EqTree X.prog X.w s n vs'[j] us'[j] true
  | [], n, _, vs, us, vs', us', hv, hu, rv, ru => by
    simp only [DenL] at hv hu; subst hv hu
    cases rv
    intro j h1; simp at h1
  | d :: ds, n, h, vs, us, vs', us', hv, hu, rv, ru => by
    simp only [D.deepL, Bool.and_eq_true] at h
    simp only [DenL] at hv hu
    obtain ⟨v, r, rfl, hv1, hv2⟩ := hv
    obtain ⟨u, r2, rfl, hu1, hu2⟩ := hu
    cases rv with
    | cons rv1 rv2 =>
      cases ru with
      | cons ru1 ru2 =>
        intro j h1 h2
        cases j with
        | zero => exact tree_same I e d n h.1 hv1 hu1 rv1 ru1
        | succ j => exact treeL_same I e ds n h.2 hv2 hu2 rv2 ru2 j (by simpa using h1) (by simpa using h2)
end
def rSameV (K : PySem.W.Frag) : R2 := fun x y H Q => ∃ (G : Hp) (ds : List D), Sub G H ∧ Den K G (.lst ds) x ∧ Den K G (.lst ds) y ∧ D.deepL ds 40 = true ∧ Q (.bl true) H
theorem op_same (hu : X.A.units + 64 < cLine) : OpR X (compareOp .Eq) (rSameV X.K) := by
  intro pins s σ H x y v u Q I rx ry h
  obtain ⟨G, ds, e, hv, hw, hd, q⟩ := h
  simp only [Den] at hv hw
  obtain ⟨a, vs, rfl, ha, hvs⟩ := hv
  obtain ⟨b, us, rfl, hb, hus⟩ := hw
  cases (show v = Value.ref a from rx)
  cases (show u = Value.ref b from ry)
  obtain ⟨va, r1, p1, _⟩ := I.list (SqL.of (e _ _ ha))
  obtain ⟨ub, r2, p2, _⟩ := I.list (SqL.of (e _ _ hb))
  have l : va.length = ub.length := by rw [← r1.length, ← r2.length, ← hvs.length, ← hus.length]
  refine PySem.SeqAt.rcIn_lists (e := fun _ => true) p1.isList p2.isList (by simpa using l) (by omega) (fun j h1 h2 => PySem.W.EqTree.at (n := 40) (valsAt (P := fun x y => PySem.W.EqTree X.prog X.w s 40 x y true) j h1 h2 (treeL_same I e ds 40 hd hvs hus r1 r2 j)) _ (by show X.A.units + 1 + 40 < cLine; omega)) ?_
  rw [len_all]
  exact ⟨.bl true, H, I, rfl, q⟩
end
section
variable {Y : Stat} {sc : Scope} {fc : Str → Bool} {pos apos : Pos} {a b : Expr} {fa fb : List Sl → Option D}
theorem sameD_some {x y d : D} (h : sameD x y = some d) : ∃ ds, x = .lst ds ∧ y = .lst ds ∧ D.deepL ds 40 = true ∧ d = .bl true := by
  unfold sameD at h
  split at h
  · split at h
    · rename_i hb
      cases h
      rw [Bool.and_eq_true] at hb
      have := beqL_eq _ _ hb.1
      subst this
      exact ⟨_, rfl, rfl, hb.2, rfl⟩
    · cases h
  · cases h
theorem se_same (ha : SE Y sc fc a fa) (hb : SE Y sc fc b fb) (hs : notSet b = true) : SE Y sc fc (.Compare a [.Eq] [b] pos) (fun τ => (fa τ).bind fun x => (fb τ).bind fun y => sameD x y) := by
  refine ⟨fun X ok H0 G0 G W H τ σ d w s h Q q => ?_⟩
  obtain ⟨x, hx, h⟩ := bnd h
  obtain ⟨y, hy, h⟩ := bnd h
  obtain ⟨ds, rfl, rfl, hd, rfl⟩ := sameD_some h
  refine ⟨_, pe_cmpR opR_u pe_tu pe_tu (behind_no hs), ?_⟩
  refine ha.run X ok _ _ _ _ _ _ _ _ w s hx _ fun v G1 H1 e1 w1 dv => ?_
  refine hb.run X ok _ _ _ _ _ _ _ _ w1 (s.mono e1) hy _ fun u G2 H2 e2 w2 du => ?_
  exact ⟨_, op_same ok.room.units, G2, ds, w2.gh, dv.mono e2, du, hd, q _ _ _ (e1.trans e2) w2 (by simp only [Den])⟩
theorem st_same (ha : SE Y sc fc a fa) (hb : SE Y sc fc b fb) (hs : notSet b = true) : ST Y sc fc (.Compare a [.Eq] [b] pos) (fun τ => ((fa τ).bind fun x => (fb τ).bind fun y => sameD x y).bind truth) := by
  refine ⟨fun X ok H0 G0 G W H τ σ d w s h Q q => ?_⟩
  obtain ⟨k, h, ht⟩ := bnd h
  obtain ⟨x, hx, h⟩ := bnd h
  obtain ⟨y, hy, h⟩ := bnd h
  obtain ⟨ds, rfl, rfl, hd, rfl⟩ := sameD_some h
  cases ht
  refine ⟨_, pt_cmpR opR_u pe_tu pe_tu (behind_no hs), ?_⟩
  refine ha.run X ok _ _ _ _ _ _ _ _ w s hx _ fun v G1 H1 e1 w1 dv => ?_
  refine hb.run X ok _ _ _ _ _ _ _ _ w1 (s.mono e1) hy _ fun u G2 H2 e2 w2 du => ?_
  exact ⟨_, op_same ok.room.units, G2, ds, w2.gh, dv.mono e2, du, hd, ⟨_, rfl, q _ _ (e1.trans e2) w2⟩⟩
theorem se_upper (hb : plainBase a = true) (hline : (apos.endLine == pos.line) = true) (ha : SE Y sc fc a fa) : SE Y sc fc (.Call (.Attribute a "upper" apos) [] [] pos) (fun τ => (fa τ).bind fun x => u1D .upper x) := by
  refine ⟨fun X ok H0 G0 G W H τ σ d w s h Q q => ?_⟩
  obtain ⟨x, hx, h⟩ := bnd h
  refine ⟨_, pe_upper pe_tu (base_no hb) hline, ?_⟩
  refine ha.run X ok _ _ _ _ _ _ _ _ w s hx _ fun v G1 H1 e1 w1 dv => ?_
  unfold u1D at h
  split at h
  · split at h
    · rename_i hl
      cases h
      simp only [Den] at dv
      subst dv
      refine ⟨⟨_, rfl⟩, _, rfl, rfl, by rw [mkS_len]; exact hl, q _ _ _ e1 w1 ?_⟩
      simp only [Den]
    · cases h
  · cases h
end
end Pv

set_option Elab.async false
set_option linter.all false
set_option maxRecDepth 100000
set_option maxHeartbeats 4000000

namespace Pv
open PySem PySem.Spec L2

/-! ### the checker: the text's tree against the small language -/
def visB (sc : Scope) (x : Str) : Bool := match sc.names.lookup x with
  | some .local => true | some .cell => true | some .free => true | _ => false
def locB (sc : Scope) (x : Str) : Bool := match sc.names.lookup x with
  | some .local => true | some .cell => true | _ => false
def glB (sc : Scope) (x : Str) : Bool := match sc.names.lookup x with
  | some .globalImplicit => true | _ => false
def nmB (x : Str) : Bool := !(x == ("__debug__" : Str)) && !(x == ("__classdict__" : Str))
def memP (l : List (Nat × Str)) (k : Nat) (x : Str) : Bool := l.any fun p => decide (p.1 = k) && decide (p.2 = x)
def memS (l : List Str) (x : Str) : Bool := l.any fun y => decide (y = x)
def hfB (sc : Scope) (fc : Str → Bool) (x : Str) : Bool := fc x || decide (sc.names.lookup x = some .local)
def notIf : Expr → Bool
  | .IfExp .. => false
  | _ => true
theorem visB_ok {sc : Scope} {x : Str} (h : visB sc x = true) : Vis sc x := by
  unfold visB at h
  split at h <;> first | exact .inl ‹_› | exact .inr (.inl ‹_›) | exact .inr (.inr ‹_›) | cases h
theorem locB_ok {sc : Scope} {x : Str} (h : locB sc x = true) : Loc sc x := by
  unfold locB at h
  split at h <;> first | exact .inl ‹_› | exact .inr ‹_› | cases h
theorem glB_ok {sc : Scope} {x : Str} (h : glB sc x = true) : sc.names.lookup x = some .globalImplicit := by
  unfold glB at h
  split at h <;> first | assumption | cases h
theorem nmB_ok {x : Str} (h : nmB x = true) : (x == ("__debug__" : Str)) = false ∧ (x == ("__classdict__" : Str)) = false := by
  simpa [nmB] using h
theorem memP_ok {l : List (Nat × Str)} {k : Nat} {x : Str} (h : memP l k x = true) : (k, x) ∈ l := by
  unfold memP at h
  rw [List.any_eq_true] at h
  obtain ⟨p, hp, e⟩ := h
  simp only [Bool.and_eq_true, decide_eq_true_eq] at e
  obtain ⟨e1, e2⟩ := e
  rw [← e1, ← e2]
  exact hp
theorem memS_ok {l : List Str} {x : Str} (h : memS l x = true) : x ∈ l := by
  unfold memS at h
  rw [List.any_eq_true] at h
  obtain ⟨p, hp, e⟩ := h
  rw [decide_eq_true_eq] at e
  rw [← e]
  exact hp

def ckC (d : D) (c : Const) : Bool := match d, c with
  | .int n, .int m => decide (n = m)
  | .bl b, .bool c => b == c
  | .non, .none => true
  | .str x, .str s => decide (s = mkS x)
  | _, _ => false
def ckTy (Y : Stat) (sc : Scope) : List Ty → List Expr → Bool
  | [], [] => true
  | t :: ts, .Name x _ :: ns => decide (x = nmT t) && memS Y.bl x && glB sc x && ckTy Y sc ts ns
  | _, _ => false
def ckGs (Y : Stat) (sc : Scope) (fc : Str → Bool) : List Nat → List Expr → Bool
  | [], [] => true
  | i :: is, .Name x _ :: ns => decide (Y.N[i]? = some x) && locB sc x && hfB sc fc x && ckGs Y sc fc is ns
  | _, _ => false
def ckG (Y : Stat) (sc : Scope) (fc : Str → Bool) (t : T) (e : Expr) : Bool := match t, e with
  | .nm i, .Name x _ => decide (Y.N[i]? = some x) && locB sc x && hfB sc fc x
  | .tp is, .Tuple es _ _ => ckGs Y sc fc is es
  | _, _ => false
def isTupE : Expr → Bool
  | .Tuple .. => true
  | _ => false
def bfOk (Y : Stat) (f : BF) : Bool := match f with
  | .gcd => Y.gcd
  | f => memS Y.bl (nmF f)
def memK (l : List (Nat × Str × List Str × List Nat)) (k : Nat) (x : Str) (ks : List Str) (pm : List Nat) : Bool := l.any fun p => decide (p = (k, x, ks, pm))
mutual
def ckE (Y : Stat) : E → Scope → (Str → Bool) → Expr → Bool
  | .c d, _, _, e => match e with
    | .Constant c _ _ => ckC d c
    | _ => false
  | .v i, sc, _, e => match e with
    | .Name x _ => decide (Y.N[i]? = some x) && visB sc x && nmB x
    | _ => false
  | .g k, sc, _, e => match e with
    | .Name x _ => memP Y.cns k x && glB sc x && nmB x
    | _ => false
  | .bin o x y, sc, fc, e => match e with
    | .BinOp a op b _ => decide (op = opB o) && ckE Y x sc fc a && ckE Y y sc fc b
    | _ => false
  | .neg x, sc, fc, e => match e with
    | .UnaryOp .USub a _ => ckE Y x sc fc a
    | _ => false
  | .not x, sc, fc, e => match e with
    | .UnaryOp .Not a _ => notIf a && ckE Y x sc fc a
    | _ => false
  | .and x y, sc, fc, e => match e with
    | .BoolOp .And (a :: b :: r) _ => notIf a && ckE Y x sc fc a && ckB Y true y sc fc (b :: r)
    | _ => false
  | .or x y, sc, fc, e => match e with
    | .BoolOp .Or (a :: b :: r) _ => notIf a && ckE Y x sc fc a && ckB Y false y sc fc (b :: r)
    | _ => false
  | .last _, _, _, _ => false
  | .nil, _, _, _ => false
  | .cmp o x y, sc, fc, e => match e with
    | .Compare a [op] [b] _ => decide (op = opC o) && notSet b && ckE Y x sc fc a && ckE Y y sc fc b
    | _ => false
  | .chain o q x y z, sc, fc, e => match e with
    | .Compare a [op, oq] [b, c] _ => decide (op = opC o) && decide (oq = opC q) && notSet c && ckE Y x sc fc a && ckE Y y sc fc b && ckE Y z sc fc c
    | _ => false
  | .ite t x y, sc, fc, e => match e with
    | .IfExp c a b _ => notIf c && ckE Y t sc fc c && ckE Y x sc fc a && ckE Y y sc fc b
    | _ => false
  | .tup es, sc, fc, e => match e with
    | .Tuple ns _ _ => ckL Y es sc fc ns
    | _ => false
  | .lst es, sc, fc, e => match e with
    | .List ns _ => ckL Y es sc fc ns
    | _ => false
  | .dct es, sc, fc, e => match e with
    | .Dict [] [] _ => es.isEmpty
    | .Dict (k :: kr) ns _ => decide ((k :: kr).length = ns.length) && decide ((k :: kr).length ≤ 15) && (k :: kr).all (·.isSome) && ckD Y es sc fc (k :: kr) ns
    | _ => false
  | .ix x y, sc, fc, e => match e with
    | .Subscript a b _ => notSlice b && ckE Y x sc fc a && ckE Y y sc fc b
    | _ => false
  | .sl x l h, sc, fc, e => match e with
    | .Subscript a (.Slice lo hi none _) _ => ckE Y x sc fc a && ckP Y l sc fc lo && ckP Y h sc fc hi
    | _ => false
  | .call f es, sc, fc, e => match e with
    | .Call (.Name x _) ns [] _ => memP Y.fns f x && glB sc x && nmB x && ckL Y es sc fc ns
    | _ => false
  | .blt f es, sc, fc, e => match e with
    | .Call (.Name x _) (n :: ns) [] _ => decide (x = nmF f) && bfOk Y f && glB sc x && ckL Y es sc fc (n :: ns)
    | _ => false
  | .isi x ts many, sc, fc, e => match e with
    | .Call (.Name f _) [a, b] [] _ => decide (f = ("isinstance" : Str)) && memS Y.bl "isinstance" && glB sc "isinstance" && notStar a && ckE Y x sc fc a && (match b with
        | .Tuple ns _ _ => many && decide (ts.length ≤ 100) && ckTy Y sc ts ns
        | b => !many && decide (ts.length = 1) && ckTy Y sc ts [b])
    | _ => false
  | .ixo i y, sc, fc, e => match e with
    | .Subscript (.Name x _) b _ => decide (Y.N[i]? = some x) && visB sc x && nmB x && notSlice b && ckE Y y sc fc b
    | _ => false
  | .leno i, sc, _, e => match e with
    | .Call (.Name f _) [.Name x _] [] _ => decide (f = ("len" : Str)) && memS Y.bl "len" && glB sc "len" && decide (Y.N[i]? = some x) && visB sc x && nmB x
    | _ => false
  | .lc own t it c el, sc, fc, e => match e with
    | .ListComp elt [⟨tg, iter, ifs, 0⟩] scope _ => notSet iter && blkC Y.N sc scope own && ckI Y it sc fc tg iter && ckG Y (relS scope sc) (fun x => scope.names.lookup x == some .cell) t tg &&
        (match ifs with | [] => (match c with | .c (.bl true) => true | _ => false) | [n] => notIf n && ckE Y c (relS scope sc) (fun x => scope.names.lookup x == some .cell) n | _ => false) &&
        ckE Y el (relS scope sc) (fun x => scope.names.lookup x == some .cell) elt && (tixs t).all (fun i => (own.map (·.2)).contains i)
    | _ => false
  | .callK f ks pm es, sc, fc, e => match e with
    | .Call (.Name x _) [] kws _ => memK Y.kws f x ks pm && glB sc x && nmB x && decide (kws.filterMap (·.arg) = ks) && kws.all (fun k => k.arg.isSome) && ckK Y es sc fc kws
    | _ => false
  | .mk f es, sc, fc, e => match e with
    | .Call (.Name x _) (n :: ns) [] _ => memP Y.mks f x && glB sc x && nmB x && ckL Y es sc fc (n :: ns)
    | _ => false
  | .fld a f, sc, fc, e => match e with
    | .Attribute n g _ => decide (g = f) && plainBase n && ckE Y a sc fc n
    | _ => false
  | .mth a m es, sc, fc, e => match e with
    | .Call (.Attribute n g ap) ns [] pos => decide (g = m) && plainBase n && (ap.endLine == pos.line) && decide (ns.length < 30) && ckE Y a sc fc n && ckL Y es sc fc ns
    | _ => false
  | .prp a f, sc, fc, e => match e with
    | .Attribute n g _ => decide (g = f) && plainBase n && ckE Y a sc fc n
    | _ => false
  | .join a b, sc, fc, e => match e with
    | .Call (.Attribute n g ap) [m] [] pos => decide (g = ("join" : Str)) && plainBase n && (ap.endLine == pos.line) && notStar m && ckE Y a sc fc n && ckE Y b sc fc m
    | _ => false
  | .sidx _ _, _, _, _ => false
  | .same x y, sc, fc, e => match e with
    | .Compare a [.Eq] [b] _ => notSet b && ckE Y x sc fc a && ckE Y y sc fc b
    | _ => false
  | .u1 o a, sc, fc, e => match o with
    | .upper => (match e with
      | .Call (.Attribute n g ap) [] [] pos => decide (g = ("upper" : Str)) && plainBase n && (ap.endLine == pos.line) && ckE Y a sc fc n
      | _ => false)
    | _ => false
  | .dget a b, sc, fc, e => match e with
    | .Call (.Attribute n g ap) [m] [] pos => decide (g = ("get" : Str)) && plainBase n && (ap.endLine == pos.line) && notStar m && ckE Y a sc fc n && ckE Y b sc fc m
    | _ => false
  | .ino neg a i, sc, fc, e => match e with
    | .Compare n [op] [.Name x _] _ => decide (op = if neg then .NotIn else .In) && decide (Y.N[i]? = some x) && visB sc x && nmB x && ckE Y a sc fc n
    | _ => false
  | .seq _, _, _, _ => false
  | .r1 _, _, _, _ => false
  | .r2 _ _, _, _, _ => false
  | .enum _, _, _, _ => false
  | .zip _ _, _, _, _ => false
def ckB (Y : Stat) (isAnd : Bool) : E → Scope → (Str → Bool) → List Expr → Bool
  | .last x, sc, fc, es => match es with
    | [a] => notIf a && ckE Y x sc fc a
    | _ => false
  | .and x y, sc, fc, es => match es with
    | a :: b :: r => isAnd && notIf a && ckE Y x sc fc a && ckB Y isAnd y sc fc (b :: r)
    | _ => false
  | .or x y, sc, fc, es => match es with
    | a :: b :: r => !isAnd && notIf a && ckE Y x sc fc a && ckB Y isAnd y sc fc (b :: r)
    | _ => false
  | _, _, _, _ => false
def ckP (Y : Stat) : E → Scope → (Str → Bool) → Option Expr → Bool
  | .nil, _, _, o => o.isNone
  | .last x, sc, fc, o => match o with
    | some n => ckE Y x sc fc n
    | none => false
  | _, _, _, _ => false
def ckI (Y : Stat) : E → Scope → (Str → Bool) → Expr → Expr → Bool
  | .seq x, sc, fc, _, e => ckE Y x sc fc e
  | .r1 x, sc, fc, _, e => match e with
    | .Call (.Name f _) [a] [] _ => decide (f = ("range" : Str)) && memS Y.bl "range" && glB sc "range" && notStar a && ckE Y x sc fc a
    | _ => false
  | .r2 x y, sc, fc, _, e => match e with
    | .Call (.Name f _) [a, b] [] _ => decide (f = ("range" : Str)) && memS Y.bl "range" && glB sc "range" && notStar a && notStar b && ckE Y x sc fc a && ckE Y y sc fc b
    | _ => false
  | .enum x, sc, fc, tg, e => match e with
    | .Call (.Name f _) [a] [] _ => isTupE tg && decide (f = ("enumerate" : Str)) && memS Y.bl "enumerate" && glB sc "enumerate" && notStar a && ckE Y x sc fc a
    | _ => false
  | .zip x y, sc, fc, tg, e => match e with
    | .Call (.Name f _) [a, b] [] _ => isTupE tg && decide (f = ("zip" : Str)) && memS Y.bl "zip" && glB sc "zip" && notStar a && notStar b && ckE Y x sc fc a && ckE Y y sc fc b
    | _ => false
  | _, _, _, _, _ => false
def ckL (Y : Stat) : List E → Scope → (Str → Bool) → List Expr → Bool
  | [], _, _, ns => ns.isEmpty
  | x :: xs, sc, fc, ns => match ns with
    | n :: r => notStar n && ckE Y x sc fc n && ckL Y xs sc fc r
    | [] => false
def ckK (Y : Stat) : List E → Scope → (Str → Bool) → List Keyword → Bool
  | [], _, _, ns => ns.isEmpty
  | x :: xs, sc, fc, ns => match ns with
    | n :: r => ckE Y x sc fc n.value && ckK Y xs sc fc r
    | [] => false
def ckD (Y : Stat) : List E → Scope → (Str → Bool) → List (Option Expr) → List Expr → Bool
  | [], _, _, kn, ns => kn.isEmpty && ns.isEmpty
  | [_], _, _, _, _ => false
  | x :: y :: xs, sc, fc, kn, ns => match kn, ns with
    | some k :: kr, n :: r => ckE Y x sc fc k && ckE Y y sc fc n && ckD Y xs sc fc kr r
    | _, _ => false
end
section
variable {Y : Stat} {sc : Scope} {fc : Str → Bool}
theorem ckGs_ok : ∀ {is : List Nat} {ns : List Expr}, ckGs Y sc fc is ns = true → SGs Y sc fc ns is ∧ ns.all notStar = true ∧ ns.length = is.length
  | [], [], _ => ⟨sgs_nil, rfl, rfl⟩
  | [], _ :: _, h => by simp [ckGs] at h
  | i :: is, [], h => by simp [ckGs] at h
  | i :: is, n :: ns, h => by
    unfold ckGs at h
    split at h
    · cases ‹_ = []›
    · rename_i i' is' x p ns' e1 e2
      cases e1
      cases e2
      simp only [Bool.and_eq_true, decide_eq_true_eq] at h
      obtain ⟨⟨⟨h1, h2⟩, h3⟩, h4⟩ := h
      obtain ⟨a1, a2, a3⟩ := ckGs_ok h4
      exact ⟨sgs_cons h1 (locB_ok h2) h3 a1, by simp [a2, notStar], by simp [a3]⟩
    · cases h
theorem ckG_ok {t : T} {e : Expr} (h : ckG Y sc fc t e = true) : SG Y sc fc e t := by
  unfold ckG at h
  split at h
  · simp only [Bool.and_eq_true, decide_eq_true_eq] at h
    exact sg_nm h.1.1 (locB_ok h.1.2) h.2
  · obtain ⟨a1, a2, a3⟩ := ckGs_ok h
    exact sg_tp a2 a3 a1
  · cases h
theorem ckTy_ok : ∀ {ts : List Ty} {ns : List Expr}, ckTy Y sc ts ns = true → ns.length = ts.length ∧ ∀ (i : Nat) n t, ns[i]? = some n → ts[i]? = some t → ∃ q, n = Expr.Name (nmT t) q ∧ nmT t ∈ Y.bl ∧ sc.names.lookup (nmT t) = some .globalImplicit
  | [], [], _ => ⟨rfl, fun i n t h => by simp at h⟩
  | [], _ :: _, h => by simp [ckTy] at h
  | t :: ts, [], h => by simp [ckTy] at h
  | t :: ts, n :: ns, h => by
    unfold ckTy at h
    split at h
    · cases ‹_ = []›
    · rename_i t' ts' x p ns' e1 e2
      cases e1
      cases e2
      simp only [Bool.and_eq_true, decide_eq_true_eq] at h
      obtain ⟨⟨⟨h1, h2⟩, h3⟩, h4⟩ := h
      subst h1
      obtain ⟨a1, a2⟩ := ckTy_ok h4
      refine ⟨by simp [a1], fun i n t hn ht => ?_⟩
      cases i with
      | zero =>
        simp at hn ht
        subst hn ht
        exact ⟨p, rfl, memS_ok h2, glB_ok h3⟩
      | succ i => exact a2 i n t (by simpa using hn) (by simpa using ht)
    · cases h
end
end Pv

set_option Elab.async false
set_option linter.all false
set_option maxRecDepth 100000
set_option maxHeartbeats 4000000

namespace Pv
open PySem PySem.Spec L2

/-! ### what the checker says is so -/
section
variable (Y : Stat)
def OkE (ir : E) : Prop := ∀ sc fc e, ckE Y ir sc fc e = true → SE Y sc fc e (evE Y.Z ir) ∧ (notIf e = true → ST Y sc fc e (fun τ => (evE Y.Z ir τ).bind truth))
end
theorem tr_bl {o : Option Bool} : (o.map D.bl).bind truth = o := by cases o <;> rfl
theorem ckC_ok {Y : Stat} {sc : Scope} {fc : Str → Bool} {d : D} {c : Const} {k : Nat} {p : Pos} (h : ckC d c = true) : SE Y sc fc (.Constant c k p) (fun _ => some d) := by
  unfold ckC at h
  split at h
  · have := of_decide_eq_true h; subst this; exact se_int
  · rename_i b b'
    have : b = b' := by simpa using h
    subst this; exact se_bl
  · exact se_non
  · have := of_decide_eq_true h; subst this; exact se_str
  · cases h
theorem bf_ok {Y : Stat} {f : BF} (h : bfOk Y f = true) : (f = .gcd → Y.gcd = true) ∧ (f ≠ .gcd → nmF f ∈ Y.bl) := by
  cases f <;> first
    | exact ⟨fun _ => h, fun z => absurd rfl z⟩
    | exact ⟨fun z => (by cases z), fun _ => memS_ok h⟩
section
variable {Y : Stat} {sc : Scope} {fc : Str → Bool}
/-- a name, a call .. : its test is its value's truth -/
theorem both {e : Expr} {f : List Sl → Option D} (h : SE Y sc fc e f) (hp : plainTest e = true) : SE Y sc fc e f ∧ (notIf e = true → ST Y sc fc e (fun τ => (f τ).bind truth)) := ⟨h, fun _ => st_of h hp⟩
theorem and_imp {x y : Option D} {b : Bool} (h : ((x.bind blD).bind fun k => bif k then y else some (D.bl false)).bind truth = some b) : ((x.bind truth).bind fun k => bif k then y.bind truth else some false) = some b := by
  obtain ⟨d, h1, h2⟩ := bnd h
  obtain ⟨k, h3, h4⟩ := bnd h1
  obtain ⟨z, h5, h6⟩ := bnd h3
  have := blD_some h6
  subst this
  rw [h5]
  cases k with
  | true =>
    have h4' : y = some d := h4
    show y.bind truth = some b
    rw [h4']; exact h2
  | false =>
    cases h4
    exact h2
theorem or_imp {x y : Option D} {b : Bool} (h : ((x.bind blD).bind fun k => bif k then some (D.bl true) else y).bind truth = some b) : ((x.bind truth).bind fun k => bif k then some true else y.bind truth) = some b := by
  obtain ⟨d, h1, h2⟩ := bnd h
  obtain ⟨k, h3, h4⟩ := bnd h1
  obtain ⟨z, h5, h6⟩ := bnd h3
  have := blD_some h6
  subst this
  rw [h5]
  cases k with
  | false =>
    have h4' : y = some d := h4
    show y.bind truth = some b
    rw [h4']; exact h2
  | true =>
    cases h4
    exact h2
end
section
variable {Y : Stat} {sc : Scope} {fc : Str → Bool} {a : Expr} {pos : Pos} {f : List Sl → Option D}
theorem st_neg (ha : SE Y sc fc (.UnaryOp .USub a pos) f) : ST Y sc fc (.UnaryOp .USub a pos) (fun τ => (f τ).bind truth) := by
  refine ⟨fun X ok H0 G0 G W H τ σ d w s h Q q => ?_⟩
  obtain ⟨x, hx, h⟩ := bnd h
  refine ⟨_, pt_truth pe_tu (fun _ => rfl), ?_⟩
  refine ha.run X ok _ _ _ _ _ _ _ _ w s hx _ fun v G1 H1 e1 w1 dv => ?_
  exact ⟨_, tru_run h dv w1.gh, q _ _ e1 w1⟩
end
theorem memK_ok {l : List (Nat × Str × List Str × List Nat)} {k : Nat} {x : Str} {ks : List Str} {pm : List Nat} (h : memK l k x ks pm = true) : (k, x, ks, pm) ∈ l := by
  unfold memK at h
  rw [List.any_eq_true] at h
  obtain ⟨p, hp, e⟩ := h
  rw [decide_eq_true_eq] at e
  rw [← e]
  exact hp
theorem evL_len {Z : Sm} : ∀ {es : List E} {τ : List Sl} {ds : List D}, evL Z es τ = some ds → ds.length = es.length
  | [], τ, ds, h => by unfold evL at h; cases h; rfl
  | e :: es, τ, ds, h => by
    unfold evL at h
    obtain ⟨d, _, h⟩ := bnd h
    obtain ⟨ds', h2, rfl⟩ := mpd h
    simp [evL_len h2]
theorem kw_count : ∀ {kws : List Keyword}, kws.all (fun k => k.arg.isSome) = true → (kws.filterMap (·.arg)).length = kws.length
  | [], _ => rfl
  | ⟨n, e, p⟩ :: r, h => by
    simp only [List.all_cons, Bool.and_eq_true] at h
    cases n with
    | none => simp at h
    | some n => simp [kw_count h.2]
theorem ckL_len (Y : Stat) : ∀ (xs : List E) (sc : Scope) (fc : Str → Bool) (ns : List Expr), ckL Y xs sc fc ns = true → xs.length = ns.length
  | [], sc, fc, ns, h => by
    unfold ckL at h
    have : ns = [] := by simpa using h
    subst this
    rfl
  | x :: xs, sc, fc, ns, h => by
    unfold ckL at h
    split at h
    · simp only [Bool.and_eq_true] at h
      simp [ckL_len Y xs _ _ _ h.2]
    · cases h
mutual
theorem ckE_ok (Y : Stat) : ∀ (ir : E) (sc : Scope) (fc : Str → Bool) (e : Expr), ckE Y ir sc fc e = true → SE Y sc fc e (evE Y.Z ir) ∧ (notIf e = true → ST Y sc fc e (fun τ => (evE Y.Z ir τ).bind truth))
  | .c d, sc, fc, e, h => by
    unfold ckE at h
    split at h
    · exact both (by exact ckC_ok h) rfl
    · cases h
  | .v i, sc, fc, e, h => by
    unfold ckE at h
    split at h
    · simp only [Bool.and_eq_true, decide_eq_true_eq] at h
      exact both (by exact se_var h.1.1 (visB_ok h.1.2) (nmB_ok h.2).1 (nmB_ok h.2).2) rfl
    · cases h
  | .g k, sc, fc, e, h => by
    unfold ckE at h
    split at h
    · simp only [Bool.and_eq_true] at h
      exact both (by exact se_glob (memP_ok h.1.1) (glB_ok h.1.2) (nmB_ok h.2).1) rfl
    · cases h
  | .bin o x y, sc, fc, e, h => by
    unfold ckE at h
    split at h
    · simp only [Bool.and_eq_true, decide_eq_true_eq] at h
      obtain ⟨⟨h1, h2⟩, h3⟩ := h
      subst h1
      exact both (by exact se_bin (ckE_ok Y x _ _ _ h2).1 (ckE_ok Y y _ _ _ h3).1) rfl
    · cases h
  | .neg x, sc, fc, e, h => by
    unfold ckE at h
    split at h
    · exact ⟨by exact se_neg (ckE_ok Y x _ _ _ h).1, fun _ => st_neg (by exact se_neg (ckE_ok Y x _ _ _ h).1)⟩
    · cases h
  | .not x, sc, fc, e, h => by
    unfold ckE at h
    split at h
    · simp only [Bool.and_eq_true] at h
      have ih := ckE_ok Y x _ _ _ h.2
      refine ⟨by exact se_not ih.1, fun _ => (st_not (ih.2 h.1)).imp fun τ b hb => ?_⟩
      unfold evE at hb
      cases hx : (evE Y.Z x τ).bind truth with
      | none => rw [hx] at hb; cases hb
      | some k => rw [hx] at hb; exact hb
    · cases h
  | .and x y, sc, fc, e, h => by
    unfold ckE at h
    split at h
    · simp only [Bool.and_eq_true] at h
      have i1 := ckE_ok Y x _ _ _ h.1.2
      have i2 := ckBa_ok Y y _ _ _ h.2
      refine ⟨by exact se_and i1.1 (i2.1 _), fun _ => (sw_and (i1.2 h.1.1) (i2.2 _)).st.imp fun τ b hb => ?_⟩
      unfold evE at hb
      exact and_imp hb
    · cases h
  | .or x y, sc, fc, e, h => by
    unfold ckE at h
    split at h
    · simp only [Bool.and_eq_true] at h
      have i1 := ckE_ok Y x _ _ _ h.1.2
      have i2 := ckBo_ok Y y _ _ _ h.2
      refine ⟨by exact se_or i1.1 (i2.1 _), fun _ => (sw_or (i1.2 h.1.1) (i2.2 _)).st.imp fun τ b hb => ?_⟩
      unfold evE at hb
      exact or_imp hb
    · cases h
  | .last x, sc, fc, e, h => by unfold ckE at h; cases h
  | .nil, sc, fc, e, h => by unfold ckE at h; cases h
  | .cmp o x y, sc, fc, e, h => by
    unfold ckE at h
    split at h
    · simp only [Bool.and_eq_true, decide_eq_true_eq] at h
      obtain ⟨⟨⟨h1, h2⟩, h3⟩, h4⟩ := h
      subst h1
      have i1 := (ckE_ok Y x _ _ _ h3).1
      have i2 := (ckE_ok Y y _ _ _ h4).1
      refine ⟨by exact se_cmp i1 i2 h2, fun _ => (st_cmp i1 i2 h2).imp fun τ b hb => ?_⟩
      unfold evE at hb
      obtain ⟨d, hb, ht⟩ := bnd hb
      obtain ⟨u, hu, hb⟩ := bnd hb
      obtain ⟨v, hv, hb⟩ := bnd hb
      obtain ⟨k, hk, rfl⟩ := mpd hb
      cases ht
      rw [hu, hv]; exact hk
    · cases h
  | .chain o q x y z, sc, fc, e, h => by
    unfold ckE at h
    split at h
    · simp only [Bool.and_eq_true, decide_eq_true_eq] at h
      obtain ⟨⟨⟨⟨⟨h1, h2⟩, h3⟩, h4⟩, h5⟩, h6⟩ := h
      subst h1 h2
      have i1 := (ckE_ok Y x _ _ _ h4).1
      have i2 := (ckE_ok Y y _ _ _ h5).1
      have i3 := (ckE_ok Y z _ _ _ h6).1
      refine ⟨by exact se_chain i1 i2 i3 h3, fun _ => (st_chain i1 i2 i3 h3).imp fun τ b hb => ?_⟩
      unfold evE at hb
      obtain ⟨d, hb, ht⟩ := bnd hb
      obtain ⟨u, hu, hb⟩ := bnd hb
      obtain ⟨v, hv, hb⟩ := bnd hb
      obtain ⟨k, hk, hb⟩ := bnd hb
      rw [hu, hv]
      show ((cmpD o u v).bind _) = _
      rw [hk]
      cases k with
      | false => cases hb; exact ht
      | true =>
        obtain ⟨w, hw, hb⟩ := bnd hb
        obtain ⟨m, hm, rfl⟩ := mpd hb
        cases ht
        show ((evE Y.Z z τ).bind _) = _
        rw [hw]; exact hm
    · cases h
  | .ite t x y, sc, fc, e, h => by
    unfold ckE at h
    split at h
    · simp only [Bool.and_eq_true] at h
      obtain ⟨⟨⟨h1, h2⟩, h3⟩, h4⟩ := h
      exact ⟨by exact se_ite ((ckE_ok Y t _ _ _ h2).2 h1) (ckE_ok Y x _ _ _ h3).1 (ckE_ok Y y _ _ _ h4).1, fun z => by simp [notIf] at z⟩
    · cases h
  | .tup es, sc, fc, e, h => by
    unfold ckE at h
    split at h
    · exact both (by exact se_tup (ckL_ok Y es _ _ _ h).1) rfl
    · cases h
  | .lst es, sc, fc, e, h => by
    unfold ckE at h
    split at h
    · exact both (by exact se_lst (ckL_ok Y es _ _ _ h).1) rfl
    · cases h
  | .dct es, sc, fc, e, h => by
    unfold ckE at h
    split at h
    · have : es = [] := by simpa using h
      subst this
      exact both (by exact se_dct0) rfl
    · simp only [Bool.and_eq_true, decide_eq_true_eq] at h
      obtain ⟨⟨⟨h1, h2⟩, h3⟩, h4⟩ := h
      exact both (by exact se_dct (by simp) h3 h1 h2 (ckD_ok Y es _ _ _ _ _ h4)) rfl
    · cases h
  | .ix x y, sc, fc, e, h => by
    unfold ckE at h
    split at h
    · simp only [Bool.and_eq_true] at h
      exact both (by exact se_ix (ckE_ok Y x _ _ _ h.1.2).1 (ckE_ok Y y _ _ _ h.2).1 h.1.1) rfl
    · cases h
  | .sl x l u, sc, fc, e, h => by
    unfold ckE at h
    split at h
    · simp only [Bool.and_eq_true] at h
      obtain ⟨⟨h1, h2⟩, h3⟩ := h
      exact both (by exact se_sl (ckE_ok Y x _ _ _ h1).1 (ckP_ok Y l _ _ _ h2) (ckP_ok Y u _ _ _ h3)) rfl
    · cases h
  | .call f es, sc, fc, e, h => by
    unfold ckE at h
    split at h
    · rename_i x p ns pos
      simp only [Bool.and_eq_true] at h
      obtain ⟨⟨⟨h1, h2⟩, h3⟩, h4⟩ := h
      have ih := ckL_ok Y es _ _ _ h4
      cases ns with
      | nil =>
        refine both ((se_call0 (memP_ok h1) (glB_ok h2) (nmB_ok h3).1).imp fun τ b hb => ?_) rfl
        have : es = [] := by
          cases es with
          | nil => rfl
          | cons x r => unfold ckL at h4; cases h4
        subst this
        unfold evE evL at hb
        exact hb
      | cons a r => exact both (by exact se_call (memP_ok h1) (glB_ok h2) (nmB_ok h3).1 ih.2 ih.1) rfl
    · cases h
  | .blt f es, sc, fc, e, h => by
    unfold ckE at h
    split at h
    · simp only [Bool.and_eq_true, decide_eq_true_eq] at h
      obtain ⟨⟨⟨h1, h2⟩, h3⟩, h4⟩ := h
      subst h1
      have ih := ckL_ok Y es _ _ _ h4
      exact both (by exact se_blt (bf_ok h2).1 (bf_ok h2).2 (glB_ok h3) ih.2 ih.1) rfl
    · cases h
  | .isi x ts many, sc, fc, e, h => by
    unfold ckE at h
    split at h
    · simp only [Bool.and_eq_true, decide_eq_true_eq] at h
      obtain ⟨⟨⟨⟨⟨h1, h2⟩, h3⟩, h4⟩, h5⟩, h6⟩ := h
      subst h1
      have ih := (ckE_ok Y x _ _ _ h5).1
      refine both ?_ rfl
      split at h6
      · simp only [Bool.and_eq_true, decide_eq_true_eq] at h6
        obtain ⟨⟨_, l1⟩, l2⟩ := h6
        obtain ⟨m1, m2⟩ := ckTy_ok l2
        exact se_isit (memS_ok h2) (glB_ok h3) m1 l1 m2 h4 ih
      · simp only [Bool.and_eq_true, decide_eq_true_eq] at h6
        obtain ⟨⟨_, l1⟩, l2⟩ := h6
        obtain ⟨m1, m2⟩ := ckTy_ok l2
        match ts, l1 with
        | [t], _ =>
          obtain ⟨q, rfl, hb, hg⟩ := m2 0 _ t rfl rfl
          exact se_isi (memS_ok h2) (glB_ok h3) hb hg h4 ih
    · cases h
  | .ixo i y, sc, fc, e, h => by
    unfold ckE at h
    split at h
    · simp only [Bool.and_eq_true, decide_eq_true_eq] at h
      obtain ⟨⟨⟨⟨h1, h2⟩, h3⟩, h4⟩, h5⟩ := h
      exact both (by exact se_ixo h1 (visB_ok h2) (nmB_ok h3).1 (nmB_ok h3).2 (ckE_ok Y y _ _ _ h5).1 h4) rfl
    · cases h
  | .leno i, sc, fc, e, h => by
    unfold ckE at h
    split at h
    · simp only [Bool.and_eq_true, decide_eq_true_eq] at h
      obtain ⟨⟨⟨⟨⟨h0, h1⟩, h2⟩, h3⟩, h4⟩, h5⟩ := h
      subst h0
      exact both (by exact se_leno h3 (visB_ok h4) (nmB_ok h5).1 (nmB_ok h5).2 (memS_ok h1) (glB_ok h2)) rfl
    · cases h
  | .lc own t it c el, sc, fc, e, h => by
    unfold ckE at h
    split at h
    · simp only [Bool.and_eq_true] at h
      obtain ⟨⟨⟨⟨⟨⟨h1, h2⟩, h3⟩, h4⟩, h5⟩, h6⟩, h7⟩ := h
      refine both ?_ rfl
      refine se_lc (ckI_ok Y it _ _ _ _ h3) h1 h2 (ckG_ok h4) ?_ (ckE_ok Y el _ _ _ h6).1 (by simpa using h7)
      split at h5
      · split at h5
        · exact scs_nil
        · cases h5
      · simp only [Bool.and_eq_true] at h5
        exact scs_one ((ckE_ok Y c _ _ _ h5.2).2 h5.1)
      · cases h5
    · cases h
  | .callK f ks pm es, sc, fc, e, h => by
    unfold ckE at h
    split at h
    · simp only [Bool.and_eq_true, decide_eq_true_eq] at h
      obtain ⟨⟨⟨⟨⟨h1, h2⟩, h3⟩, h4⟩, h5⟩, h6⟩ := h
      obtain ⟨i1, i2⟩ := ckK_ok Y es _ _ _ h6
      have hl : ∀ τ ds, evL Y.Z es τ = some ds → ds.length = ks.length := fun τ ds hd => by rw [evL_len hd, i2, ← h4, kw_count h5]
      exact both (by exact se_callK (memK_ok h1) (glB_ok h2) (nmB_ok h3).1 h4 h5 i1 hl) rfl
    · cases h
  | .mk f es, sc, fc, e, h => by
    unfold ckE at h
    split at h
    · simp only [Bool.and_eq_true] at h
      obtain ⟨⟨⟨h1, h2⟩, h3⟩, h4⟩ := h
      have ih := ckL_ok Y es _ _ _ h4
      exact both (by exact se_mk (memP_ok h1) (glB_ok h2) (nmB_ok h3).1 ih.2 ih.1) rfl
    · cases h
  | .fld a f, sc, fc, e, h => by
    unfold ckE at h
    split at h
    · simp only [Bool.and_eq_true, decide_eq_true_eq] at h
      obtain ⟨⟨h1, h2⟩, h3⟩ := h
      subst h1
      exact both (by exact se_fld h2 (ckE_ok Y a _ _ _ h3).1) rfl
    · cases h
  | .mth a m es, sc, fc, e, h => by
    unfold ckE at h
    split at h
    · simp only [Bool.and_eq_true, decide_eq_true_eq] at h
      obtain ⟨⟨⟨⟨⟨h1, h2⟩, h3⟩, h4⟩, h5⟩, h6⟩ := h
      subst h1
      have ih := ckL_ok Y es _ _ _ h6
      have hl : ∀ ns' : List Expr, ckL Y es sc fc ns' = true → ns' = [] → ∀ τ ds, evL Y.Z es τ = some ds → ds = [] := fun ns' h' e0 τ ds hd => by
        have l := evL_len hd
        have l2 := ckL_len Y es _ _ _ h'
        rw [e0] at l2
        rw [l2] at l
        exact List.eq_nil_of_length_eq_zero l
      exact both (by exact se_mth h2 h3 h4 (ckE_ok Y a _ _ _ h5).1 ih.2 ih.1 (hl _ h6)) rfl
    · cases h
  | .prp a f, sc, fc, e, h => by
    unfold ckE at h
    split at h
    · simp only [Bool.and_eq_true, decide_eq_true_eq] at h
      obtain ⟨⟨h1, h2⟩, h3⟩ := h
      subst h1
      exact both (by exact se_prp h2 (ckE_ok Y a _ _ _ h3).1) rfl
    · cases h
  | .join a b, sc, fc, e, h => by
    unfold ckE at h
    split at h
    · simp only [Bool.and_eq_true, decide_eq_true_eq] at h
      obtain ⟨⟨⟨⟨⟨h1, h2⟩, h3⟩, h4⟩, h5⟩, h6⟩ := h
      subst h1
      exact both (by exact se_join h2 h3 h4 (ckE_ok Y a _ _ _ h5).1 (ckE_ok Y b _ _ _ h6).1) rfl
    · cases h
  | .sidx _ _, sc, fc, e, h => by unfold ckE at h; cases h
  | .same x y, sc, fc, e, h => by
    unfold ckE at h
    split at h
    · simp only [Bool.and_eq_true] at h
      obtain ⟨⟨h1, h2⟩, h3⟩ := h
      have i1 := (ckE_ok Y x _ _ _ h2).1
      have i2 := (ckE_ok Y y _ _ _ h3).1
      refine ⟨by exact se_same i1 i2 h1, fun _ => (st_same i1 i2 h1).imp fun τ b hb => ?_⟩
      unfold evE at hb
      exact hb
    · cases h
  | .u1 o x, sc, fc, e, h => by
    unfold ckE at h
    split at h
    · split at h
      · simp only [Bool.and_eq_true, decide_eq_true_eq] at h
        obtain ⟨⟨⟨h1, h2⟩, h3⟩, h4⟩ := h
        subst h1
        exact both (by exact se_upper h2 h3 (ckE_ok Y x _ _ _ h4).1) rfl
      · cases h
    · cases h
  | .dget a b, sc, fc, e, h => by
    unfold ckE at h
    split at h
    · simp only [Bool.and_eq_true, decide_eq_true_eq] at h
      obtain ⟨⟨⟨⟨⟨h1, h2⟩, h3⟩, h4⟩, h5⟩, h6⟩ := h
      subst h1
      exact both (by exact se_dget h2 h3 h4 (ckE_ok Y a _ _ _ h5).1 (ckE_ok Y b _ _ _ h6).1) rfl
    · cases h
  | .ino neg a i, sc, fc, e, h => by
    unfold ckE at h
    split at h
    · simp only [Bool.and_eq_true, decide_eq_true_eq] at h
      obtain ⟨⟨⟨⟨h1, h2⟩, h3⟩, h4⟩, h5⟩ := h
      have ih := (ckE_ok Y a _ _ _ h5).1
      cases neg with
      | false =>
        subst h1
        exact ⟨by exact se_ino h2 (visB_ok h3) (nmB_ok h4).1 (nmB_ok h4).2 ih, fun _ => by exact st_ino h2 (visB_ok h3) (nmB_ok h4).1 (nmB_ok h4).2 ih⟩
      | true =>
        subst h1
        exact ⟨by exact se_nino h2 (visB_ok h3) (nmB_ok h4).1 (nmB_ok h4).2 ih, fun _ => by exact st_nino h2 (visB_ok h3) (nmB_ok h4).1 (nmB_ok h4).2 ih⟩
    · cases h
  | .seq _, sc, fc, e, h => by unfold ckE at h; cases h
  | .r1 _, sc, fc, e, h => by unfold ckE at h; cases h
  | .r2 _ _, sc, fc, e, h => by unfold ckE at h; cases h
  | .enum _, sc, fc, e, h => by unfold ckE at h; cases h
  | .zip _ _, sc, fc, e, h => by unfold ckE at h; cases h
theorem ckBa_ok (Y : Stat) : ∀ (ir : E) (sc : Scope) (fc : Str → Bool) (es : List Expr), ckB Y true ir sc fc es = true → (∀ pos, SE Y sc fc (.BoolOp .And es pos) (evE Y.Z ir)) ∧ (∀ pos, SW Y sc fc (.BoolOp .And es pos) (fun τ => (evE Y.Z ir τ).bind truth))
  | .last x, sc, fc, es, h => by
    unfold ckB at h
    split at h
    · simp only [Bool.and_eq_true] at h
      have ih := ckE_ok Y x _ _ _ h.2
      exact ⟨fun pos => by exact se_one ih.1, fun pos => by exact sw_and1 (ih.2 h.1)⟩
    · cases h
  | .and x y, sc, fc, es, h => by
    unfold ckB at h
    split at h
    · simp only [Bool.and_eq_true] at h
      have i1 := ckE_ok Y x _ _ _ h.1.2
      have i2 := ckBa_ok Y y _ _ _ h.2
      refine ⟨fun pos => by exact se_and i1.1 (i2.1 _), fun pos => ?_⟩
      have := sw_and (pos := pos) (i1.2 h.1.1.2) (i2.2 pos)
      exact ⟨fun X ok H0 G0 G W H τ σ b w s hg Q q => this.run X ok H0 G0 G W H τ σ b w s (by unfold evE at hg; exact and_imp hg) Q q⟩
    · cases h
  | .or x y, sc, fc, es, h => by
    unfold ckB at h
    split at h
    · simp at h
    · cases h
  | .nil, sc, fc, es, h => by unfold ckB at h; cases h
  | .c _, sc, fc, es, h => by unfold ckB at h; cases h
  | .v _, sc, fc, es, h => by unfold ckB at h; cases h
  | .g _, sc, fc, es, h => by unfold ckB at h; cases h
  | .bin _ _ _, sc, fc, es, h => by unfold ckB at h; cases h
  | .neg _, sc, fc, es, h => by unfold ckB at h; cases h
  | .not _, sc, fc, es, h => by unfold ckB at h; cases h
  | .cmp _ _ _, sc, fc, es, h => by unfold ckB at h; cases h
  | .chain _ _ _ _ _, sc, fc, es, h => by unfold ckB at h; cases h
  | .ite _ _ _, sc, fc, es, h => by unfold ckB at h; cases h
  | .tup _, sc, fc, es, h => by unfold ckB at h; cases h
  | .lst _, sc, fc, es, h => by unfold ckB at h; cases h
  | .dct _, sc, fc, es, h => by unfold ckB at h; cases h
  | .ix _ _, sc, fc, es, h => by unfold ckB at h; cases h
  | .sl _ _ _, sc, fc, es, h => by unfold ckB at h; cases h
  | .call _ _, sc, fc, es, h => by unfold ckB at h; cases h
  | .blt _ _, sc, fc, es, h => by unfold ckB at h; cases h
  | .isi _ _ _, sc, fc, es, h => by unfold ckB at h; cases h
  | .ixo _ _, sc, fc, es, h => by unfold ckB at h; cases h
  | .leno _, sc, fc, es, h => by unfold ckB at h; cases h
  | .lc _ _ _ _ _, sc, fc, es, h => by unfold ckB at h; cases h
  | .callK _ _ _ _, sc, fc, es, h => by unfold ckB at h; cases h
  | .mk _ _, sc, fc, es, h => by unfold ckB at h; cases h
  | .fld _ _, sc, fc, es, h => by unfold ckB at h; cases h
  | .mth _ _ _, sc, fc, es, h => by unfold ckB at h; cases h
  | .prp _ _, sc, fc, es, h => by unfold ckB at h; cases h
  | .join _ _, sc, fc, es, h => by unfold ckB at h; cases h
  | .sidx _ _, sc, fc, es, h => by unfold ckB at h; cases h
  | .same _ _, sc, fc, es, h => by unfold ckB at h; cases h
  | .u1 _ _, sc, fc, es, h => by unfold ckB at h; cases h
  | .dget _ _, sc, fc, es, h => by unfold ckB at h; cases h
  | .ino _ _ _, sc, fc, es, h => by unfold ckB at h; cases h
  | .seq _, sc, fc, es, h => by unfold ckB at h; cases h
  | .r1 _, sc, fc, es, h => by unfold ckB at h; cases h
  | .r2 _ _, sc, fc, es, h => by unfold ckB at h; cases h
  | .enum _, sc, fc, es, h => by unfold ckB at h; cases h
  | .zip _ _, sc, fc, es, h => by unfold ckB at h; cases h
theorem ckBo_ok (Y : Stat) : ∀ (ir : E) (sc : Scope) (fc : Str → Bool) (es : List Expr), ckB Y false ir sc fc es = true → (∀ pos, SE Y sc fc (.BoolOp .Or es pos) (evE Y.Z ir)) ∧ (∀ pos, SW Y sc fc (.BoolOp .Or es pos) (fun τ => (evE Y.Z ir τ).bind truth))
  | .last x, sc, fc, es, h => by
    unfold ckB at h
    split at h
    · simp only [Bool.and_eq_true] at h
      have ih := ckE_ok Y x _ _ _ h.2
      exact ⟨fun pos => by exact se_one ih.1, fun pos => by exact sw_or1 (ih.2 h.1)⟩
    · cases h
  | .or x y, sc, fc, es, h => by
    unfold ckB at h
    split at h
    · simp only [Bool.and_eq_true] at h
      have i1 := ckE_ok Y x _ _ _ h.1.2
      have i2 := ckBo_ok Y y _ _ _ h.2
      refine ⟨fun pos => by exact se_or i1.1 (i2.1 _), fun pos => ?_⟩
      have := sw_or (pos := pos) (i1.2 h.1.1.2) (i2.2 pos)
      exact ⟨fun X ok H0 G0 G W H τ σ b w s hg Q q => this.run X ok H0 G0 G W H τ σ b w s (by unfold evE at hg; exact or_imp hg) Q q⟩
    · cases h
  | .and x y, sc, fc, es, h => by
    unfold ckB at h
    split at h
    · simp at h
    · cases h
  | .nil, sc, fc, es, h => by unfold ckB at h; cases h
  | .c _, sc, fc, es, h => by unfold ckB at h; cases h
  | .v _, sc, fc, es, h => by unfold ckB at h; cases h
  | .g _, sc, fc, es, h => by unfold ckB at h; cases h
  | .bin _ _ _, sc, fc, es, h => by unfold ckB at h; cases h
  | .neg _, sc, fc, es, h => by unfold ckB at h; cases h
  | .not _, sc, fc, es, h => by unfold ckB at h; cases h
  | .cmp _ _ _, sc, fc, es, h => by unfold ckB at h; cases h
  | .chain _ _ _ _ _, sc, fc, es, h => by unfold ckB at h; cases h
  | .ite _ _ _, sc, fc, es, h => by unfold ckB at h; cases h
  | .tup _, sc, fc, es, h => by unfold ckB at h; cases h
  | .lst _, sc, fc, es, h => by unfold ckB at h; cases h
  | .dct _, sc, fc, es, h => by unfold ckB at h; cases h
  | .ix _ _, sc, fc, es, h => by unfold ckB at h; cases h
  | .sl _ _ _, sc, fc, es, h => by unfold ckB at h; cases h
  | .call _ _, sc, fc, es, h => by unfold ckB at h; cases h
  | .blt _ _, sc, fc, es, h => by unfold ckB at h; cases h
  | .isi _ _ _, sc, fc, es, h => by unfold ckB at h; cases h
  | .ixo _ _, sc, fc, es, h => by unfold ckB at h; cases h
  | .leno _, sc, fc, es, h => by unfold ckB at h; cases h
  | .lc _ _ _ _ _, sc, fc, es, h => by unfold ckB at h; cases h
  | .callK _ _ _ _, sc, fc, es, h => by unfold ckB at h; cases h
  | .mk _ _, sc, fc, es, h => by unfold ckB at h; cases h
  | .fld _ _, sc, fc, es, h => by unfold ckB at h; cases h
  | .mth _ _ _, sc, fc, es, h => by unfold ckB at h; cases h
  | .prp _ _, sc, fc, es, h => by unfold ckB at h; cases h
  | .join _ _, sc, fc, es, h => by unfold ckB at h; cases h
  | .sidx _ _, sc, fc, es, h => by unfold ckB at h; cases h
  | .same _ _, sc, fc, es, h => by unfold ckB at h; cases h
  | .u1 _ _, sc, fc, es, h => by unfold ckB at h; cases h
  | .dget _ _, sc, fc, es, h => by unfold ckB at h; cases h
  | .ino _ _ _, sc, fc, es, h => by unfold ckB at h; cases h
  | .seq _, sc, fc, es, h => by unfold ckB at h; cases h
  | .r1 _, sc, fc, es, h => by unfold ckB at h; cases h
  | .r2 _ _, sc, fc, es, h => by unfold ckB at h; cases h
  | .enum _, sc, fc, es, h => by unfold ckB at h; cases h
  | .zip _ _, sc, fc, es, h => by unfold ckB at h; cases h
theorem ckP_ok (Y : Stat) : ∀ (ir : E) (sc : Scope) (fc : Str → Bool) (o : Option Expr), ckP Y ir sc fc o = true → SO Y sc fc o (evP Y.Z ir)
  | .nil, sc, fc, o, h => by
    unfold ckP at h
    cases o with
    | none => exact so_none
    | some n => cases h
  | .last x, sc, fc, o, h => by
    unfold ckP at h
    cases o with
    | none => cases h
    | some n => exact so_some (ckE_ok Y x _ _ _ h).1
  | .c _, sc, fc, o, h => by unfold ckP at h; cases h
  | .v _, sc, fc, o, h => by unfold ckP at h; cases h
  | .g _, sc, fc, o, h => by unfold ckP at h; cases h
  | .bin _ _ _, sc, fc, o, h => by unfold ckP at h; cases h
  | .neg _, sc, fc, o, h => by unfold ckP at h; cases h
  | .not _, sc, fc, o, h => by unfold ckP at h; cases h
  | .and _ _, sc, fc, o, h => by unfold ckP at h; cases h
  | .or _ _, sc, fc, o, h => by unfold ckP at h; cases h
  | .cmp _ _ _, sc, fc, o, h => by unfold ckP at h; cases h
  | .chain _ _ _ _ _, sc, fc, o, h => by unfold ckP at h; cases h
  | .ite _ _ _, sc, fc, o, h => by unfold ckP at h; cases h
  | .tup _, sc, fc, o, h => by unfold ckP at h; cases h
  | .lst _, sc, fc, o, h => by unfold ckP at h; cases h
  | .dct _, sc, fc, o, h => by unfold ckP at h; cases h
  | .ix _ _, sc, fc, o, h => by unfold ckP at h; cases h
  | .sl _ _ _, sc, fc, o, h => by unfold ckP at h; cases h
  | .call _ _, sc, fc, o, h => by unfold ckP at h; cases h
  | .blt _ _, sc, fc, o, h => by unfold ckP at h; cases h
  | .isi _ _ _, sc, fc, o, h => by unfold ckP at h; cases h
  | .ixo _ _, sc, fc, o, h => by unfold ckP at h; cases h
  | .leno _, sc, fc, o, h => by unfold ckP at h; cases h
  | .lc _ _ _ _ _, sc, fc, o, h => by unfold ckP at h; cases h
  | .callK _ _ _ _, sc, fc, o, h => by unfold ckP at h; cases h
  | .mk _ _, sc, fc, o, h => by unfold ckP at h; cases h
  | .fld _ _, sc, fc, o, h => by unfold ckP at h; cases h
  | .mth _ _ _, sc, fc, o, h => by unfold ckP at h; cases h
  | .prp _ _, sc, fc, o, h => by unfold ckP at h; cases h
  | .join _ _, sc, fc, o, h => by unfold ckP at h; cases h
  | .sidx _ _, sc, fc, o, h => by unfold ckP at h; cases h
  | .same _ _, sc, fc, o, h => by unfold ckP at h; cases h
  | .u1 _ _, sc, fc, o, h => by unfold ckP at h; cases h
  | .dget _ _, sc, fc, o, h => by unfold ckP at h; cases h
  | .ino _ _ _, sc, fc, o, h => by unfold ckP at h; cases h
  | .seq _, sc, fc, o, h => by unfold ckP at h; cases h
  | .r1 _, sc, fc, o, h => by unfold ckP at h; cases h
  | .r2 _ _, sc, fc, o, h => by unfold ckP at h; cases h
  | .enum _, sc, fc, o, h => by unfold ckP at h; cases h
  | .zip _ _, sc, fc, o, h => by unfold ckP at h; cases h
theorem ckI_ok (Y : Stat) : ∀ (ir : E) (sc : Scope) (fc : Str → Bool) (tg e : Expr), ckI Y ir sc fc tg e = true → SI Y sc fc tg e (evI Y.Z ir)
  | .seq x, sc, fc, tg, e, h => by
    unfold ckI at h
    exact si_seq (ckE_ok Y x _ _ _ h).1
  | .r1 x, sc, fc, tg, e, h => by
    unfold ckI at h
    split at h
    · simp only [Bool.and_eq_true, decide_eq_true_eq] at h
      obtain ⟨⟨⟨⟨h0, h1⟩, h2⟩, h3⟩, h4⟩ := h
      subst h0
      exact si_r1 (glB_ok h2) (memS_ok h1) h3 (ckE_ok Y x _ _ _ h4).1
    · cases h
  | .r2 x y, sc, fc, tg, e, h => by
    unfold ckI at h
    split at h
    · simp only [Bool.and_eq_true, decide_eq_true_eq] at h
      obtain ⟨⟨⟨⟨⟨⟨h0, h1⟩, h2⟩, h3⟩, h4⟩, h5⟩, h6⟩ := h
      subst h0
      exact si_r2 (glB_ok h2) (memS_ok h1) h3 h4 (ckE_ok Y x _ _ _ h5).1 (ckE_ok Y y _ _ _ h6).1
    · cases h
  | .enum x, sc, fc, tg, e, h => by
    unfold ckI at h
    split at h
    · simp only [Bool.and_eq_true, decide_eq_true_eq] at h
      obtain ⟨⟨⟨⟨⟨h9, h0⟩, h1⟩, h2⟩, h3⟩, h4⟩ := h
      subst h0
      cases tg <;> simp only [isTupE] at h9 <;> try cases h9
      exact si_enum (glB_ok h2) (memS_ok h1) h3 (ckE_ok Y x _ _ _ h4).1
    · cases h
  | .zip x y, sc, fc, tg, e, h => by
    unfold ckI at h
    split at h
    · simp only [Bool.and_eq_true, decide_eq_true_eq] at h
      obtain ⟨⟨⟨⟨⟨⟨⟨h9, h0⟩, h1⟩, h2⟩, h3⟩, h4⟩, h5⟩, h6⟩ := h
      subst h0
      cases tg <;> simp only [isTupE] at h9 <;> try cases h9
      exact si_zip (glB_ok h2) (memS_ok h1) h3 h4 (ckE_ok Y x _ _ _ h5).1 (ckE_ok Y y _ _ _ h6).1
    · cases h
  | .callK _ _ _ _, sc, fc, tg, es, h => by unfold ckI at h; cases h
  | .mk _ _, sc, fc, tg, es, h => by unfold ckI at h; cases h
  | .fld _ _, sc, fc, tg, es, h => by unfold ckI at h; cases h
  | .mth _ _ _, sc, fc, tg, es, h => by unfold ckI at h; cases h
  | .prp _ _, sc, fc, tg, es, h => by unfold ckI at h; cases h
  | .join _ _, sc, fc, tg, es, h => by unfold ckI at h; cases h
  | .sidx _ _, sc, fc, tg, es, h => by unfold ckI at h; cases h
  | .same _ _, sc, fc, tg, es, h => by unfold ckI at h; cases h
  | .u1 _ _, sc, fc, tg, es, h => by unfold ckI at h; cases h
  | .dget _ _, sc, fc, tg, es, h => by unfold ckI at h; cases h
  | .ino _ _ _, sc, fc, tg, es, h => by unfold ckI at h; cases h
  | .nil, sc, fc, tg, es, h => by unfold ckI at h; cases h
  | .c _, sc, fc, tg, es, h => by unfold ckI at h; cases h
  | .v _, sc, fc, tg, es, h => by unfold ckI at h; cases h
  | .g _, sc, fc, tg, es, h => by unfold ckI at h; cases h
  | .bin _ _ _, sc, fc, tg, es, h => by unfold ckI at h; cases h
  | .neg _, sc, fc, tg, es, h => by unfold ckI at h; cases h
  | .not _, sc, fc, tg, es, h => by unfold ckI at h; cases h
  | .and _ _, sc, fc, tg, es, h => by unfold ckI at h; cases h
  | .or _ _, sc, fc, tg, es, h => by unfold ckI at h; cases h
  | .last _, sc, fc, tg, es, h => by unfold ckI at h; cases h
  | .cmp _ _ _, sc, fc, tg, es, h => by unfold ckI at h; cases h
  | .chain _ _ _ _ _, sc, fc, tg, es, h => by unfold ckI at h; cases h
  | .ite _ _ _, sc, fc, tg, es, h => by unfold ckI at h; cases h
  | .tup _, sc, fc, tg, es, h => by unfold ckI at h; cases h
  | .lst _, sc, fc, tg, es, h => by unfold ckI at h; cases h
  | .dct _, sc, fc, tg, es, h => by unfold ckI at h; cases h
  | .ix _ _, sc, fc, tg, es, h => by unfold ckI at h; cases h
  | .sl _ _ _, sc, fc, tg, es, h => by unfold ckI at h; cases h
  | .call _ _, sc, fc, tg, es, h => by unfold ckI at h; cases h
  | .blt _ _, sc, fc, tg, es, h => by unfold ckI at h; cases h
  | .isi _ _ _, sc, fc, tg, es, h => by unfold ckI at h; cases h
  | .ixo _ _, sc, fc, tg, es, h => by unfold ckI at h; cases h
  | .leno _, sc, fc, tg, es, h => by unfold ckI at h; cases h
  | .lc _ _ _ _ _, sc, fc, tg, es, h => by unfold ckI at h; cases h
theorem ckL_ok (Y : Stat) : ∀ (xs : List E) (sc : Scope) (fc : Str → Bool) (ns : List Expr), ckL Y xs sc fc ns = true → SA Y sc fc ns (evL Y.Z xs) ∧ ns.all notStar = true
  | [], sc, fc, ns, h => by
    unfold ckL at h
    have : ns = [] := by simpa using h
    subst this
    exact ⟨by exact sa_nil, rfl⟩
  | x :: xs, sc, fc, ns, h => by
    unfold ckL at h
    split at h
    · simp only [Bool.and_eq_true] at h
      obtain ⟨⟨h1, h2⟩, h3⟩ := h
      have ih := ckL_ok Y xs _ _ _ h3
      exact ⟨by exact sa_cons h1 (ckE_ok Y x _ _ _ h2).1 ih.1, by simp [h1, ih.2]⟩
    · cases h
theorem ckK_ok (Y : Stat) : ∀ (xs : List E) (sc : Scope) (fc : Str → Bool) (ns : List Keyword), ckK Y xs sc fc ns = true → SK Y sc fc ns (evL Y.Z xs) ∧ xs.length = ns.length
  | [], sc, fc, ns, h => by
    unfold ckK at h
    have : ns = [] := by simpa using h
    subst this
    exact ⟨by exact sk_nil, rfl⟩
  | x :: xs, sc, fc, ns, h => by
    unfold ckK at h
    split at h
    · rename_i n r
      simp only [Bool.and_eq_true] at h
      have ih := ckK_ok Y xs _ _ _ h.2
      obtain ⟨nm, v, p⟩ := n
      exact ⟨by exact sk_cons (ckE_ok Y x _ _ _ h.1).1 ih.1, by simp [ih.2]⟩
    · cases h
theorem ckD_ok (Y : Stat) : ∀ (xs : List E) (sc : Scope) (fc : Str → Bool) (pos : Pos) (kn : List (Option Expr)) (ns : List Expr), ckD Y xs sc fc kn ns = true → SD Y sc fc pos kn ns (evL Y.Z xs)
  | [], sc, fc, pos, kn, ns, h => by
    unfold ckD at h
    simp only [Bool.and_eq_true, List.isEmpty_iff] at h
    obtain ⟨h1, h2⟩ := h
    subst h1 h2
    exact sd_nil
  | [x], sc, fc, pos, kn, ns, h => by unfold ckD at h; cases h
  | x :: y :: xs, sc, fc, pos, kn, ns, h => by
    unfold ckD at h
    split at h
    · simp only [Bool.and_eq_true] at h
      obtain ⟨⟨h1, h2⟩, h3⟩ := h
      exact sd_cons (ckE_ok Y x _ _ _ h1).1 (ckE_ok Y y _ _ _ h2).1 (ckD_ok Y xs _ _ pos _ _ h3)
    · cases h
end
end Pv

set_option Elab.async false
set_option linter.all false
set_option maxRecDepth 100000
set_option maxHeartbeats 4000000

namespace Pv
open PySem PySem.Spec L2

theorem lc_parts {Y : Stat} {own : List (Str × Nat)} {t : T} {it c el : E} {sc : Scope} {fc : Str → Bool} {elt : Expr} {gs : List Comprehension} {scope : Scope} {p : Pos} (h : ckE Y (.lc own t it c el) sc fc (.ListComp elt gs scope p) = true) :
    ∃ tg iter ifs, gs = [⟨tg, iter, ifs, 0⟩] ∧ SI Y sc fc tg iter (evI Y.Z it) ∧ notSet iter = true ∧ blkC Y.N sc scope own = true ∧ SG Y (relS scope sc) (fun x => scope.names.lookup x == some .cell) tg t ∧
      SCs Y (relS scope sc) (fun x => scope.names.lookup x == some .cell) ifs (fun τ => (evE Y.Z c τ).bind truth) ∧ SE Y (relS scope sc) (fun x => scope.names.lookup x == some .cell) elt (evE Y.Z el) ∧ ∀ i ∈ tixs t, i ∈ own.map (·.2) := by
  unfold ckE at h
  split at h
  · rename_i e1
    cases e1
    simp only [Bool.and_eq_true] at h
    obtain ⟨⟨⟨⟨⟨⟨h1, h2⟩, h3⟩, h4⟩, h5⟩, h6⟩, h7⟩ := h
    refine ⟨_, _, _, rfl, ckI_ok Y it _ _ _ _ h3, h1, h2, ckG_ok h4, ?_, (ckE_ok Y el _ _ _ h6).1, by simpa using h7⟩
    split at h5
    · split at h5
      · exact scs_nil
      · cases h5
    · simp only [Bool.and_eq_true] at h5
      exact scs_one ((ckE_ok Y c _ _ _ h5.2).2 h5.1)
    · cases h5
  · cases h
def isLcE : Expr → Bool
  | .ListComp .. => true
  | _ => false
def isLc : E → Bool
  | .lc .. => true
  | _ => false
def ckAsg (Y : Stat) (t : T) (e : E) (sc : Scope) (fc : Str → Bool) (st : Stmt) : Bool := match st with
  | .Assign [.Name x _] a _ => (match t with
    | .nm i => decide (Y.N[i]? = some x) && locB sc x && hfB sc fc x && ckE Y e sc fc a && (notComp a || (isLcE a && isLc e))
    | _ => false)
  | .Assign [.Tuple tgs _ _] a _ => (match t with
    | .tp is => ckGs Y sc fc is tgs && ckE Y e sc fc a && notComp a && notTup a
    | _ => false)
  | _ => false
mutual
def ckS (Y : Stat) : S → Scope → (Str → Bool) → Stmt → Bool
  | .asg t e, sc, fc, st => ckAsg Y t e sc fc st
  | .own i es, sc, fc, st => match st with
    | .Assign [.Name x _] (.List ns _) _ => decide (Y.N[i]? = some x) && locB sc x && hfB sc fc x && ckL Y es sc fc ns
    | _ => false
  | .frz _, _, _, _ => false
  | .app i e, sc, fc, st => match st with
    | .Expr (.Call (.Attribute (.Name x _) m ap) [a] [] p1) _ => decide (m = ("append" : Str)) && decide (Y.N[i]? = some x) && visB sc x && nmB x && notStar a && ckE Y e sc fc a && (ap.endLine == p1.line)
    | _ => false
  | .ret e, sc, fc, st => match st with
    | .Return (some a) _ => ckE Y e sc fc a
    | _ => false
  | .retN, _, _, st => match st with
    | .Return none _ => true
    | _ => false
  | .pass, _, _, st => match st with
    | .Pass _ => true
    | _ => false
  | .brk, _, _, st => match st with
    | .Break _ => true
    | _ => false
  | .cont, _, _, st => match st with
    | .Continue _ => true
    | _ => false
  | .ifs t a b, sc, fc, st => match st with
    | .If c x y _ => notIf c && ckE Y t sc fc c && ckSs Y a sc fc x && ckSs Y b sc fc y
    | _ => false
  | .for_ t it b, sc, fc, st => match st with
    | .For tg iter x [] _ => notSet iter && ckI Y it sc fc tg iter && ckG Y sc fc t tg && ckSs Y b sc fc x
    | _ => false
  | .whl _ t b, sc, fc, st => match st with
    | .While c x [] _ => notIf c && ckE Y t sc fc c && ckSs Y b sc fc x
    | _ => false
  | .never, _, _, _ => true
  | .newd i, sc, fc, st => match st with
    | .Assign [.Name x _] (.Dict [] [] _) _ => decide (Y.N[i]? = some x) && locB sc x && hfB sc fc x
    | _ => false
  | .put i k e, sc, fc, st => match st with
    | .Assign [.Subscript (.Name x _) b _] a _ => decide (Y.N[i]? = some x) && visB sc x && nmB x && notComp a && ckE Y e sc fc a && ckE Y k sc fc b
    | _ => false
  | .setf i f e, sc, fc, st => match st with
    | .Assign [.Attribute (.Name x _) g _] a _ => decide (g = f) && decide (Y.N[i]? = some x) && visB sc x && nmB x && notComp a && ckE Y e sc fc a
    | _ => false
  | .seti i k e, sc, fc, st => match st with
    | .Assign [.Subscript (.Name x _) b _] a _ => decide (Y.N[i]? = some x) && visB sc x && nmB x && notComp a && notTup a && notSlice b && ckE Y e sc fc a && ckE Y k sc fc b
    | _ => false
def ckSs (Y : Stat) : List S → Scope → (Str → Bool) → List Stmt → Bool
  | [], _, _, sts => sts.isEmpty
  | .frz _ :: r, sc, fc, sts => ckSs Y r sc fc sts
  | s :: r, sc, fc, sts => match sts with
    | st :: str => ckS Y s sc fc st && ckSs Y r sc fc str
    | [] => false
end
theorem ckAsg_ok {Y : Stat} {t : T} {e : E} {sc : Scope} {fc : Str → Bool} {st : Stmt} (h : ckAsg Y t e sc fc st = true) : SS Y sc fc st (evS Y.Z (.asg t e)) := by
  unfold ckAsg at h
  split at h
  · split at h
    · simp only [Bool.and_eq_true, Bool.or_eq_true, decide_eq_true_eq] at h
      obtain ⟨⟨⟨⟨h1, h2⟩, h3⟩, h4⟩, h5⟩ := h
      rcases h5 with h5 | ⟨h5, h6⟩
      · exact ss_asg h1 (locB_ok h2) h3 h5 (ckE_ok Y e _ _ _ h4).1
      · rename_i a _ _ _
        cases a <;> simp only [isLcE] at h5 <;> try cases h5
        cases e <;> simp only [isLc] at h6 <;> try cases h6
        obtain ⟨tg, iter, ifs, rfl, a1, a2, a3, a4, a5, a6, a7⟩ := lc_parts h4
        exact ss_lc h1 (locB_ok h2) h3 a1 a2 a3 a4 a5 a6 a7
    · cases h
  · split at h
    · simp only [Bool.and_eq_true] at h
      obtain ⟨⟨⟨h1, h2⟩, h3⟩, h4⟩ := h
      obtain ⟨a1, a2, a3⟩ := ckGs_ok h1
      exact ss_asgT (sg_tp a2 a3 a1) h3 h4 (ckE_ok Y e _ _ _ h2).1
    · cases h
  · cases h
mutual
theorem ckS_ok (Y : Stat) : ∀ (ir : S) (sc : Scope) (fc : Str → Bool) (st : Stmt), ckS Y ir sc fc st = true → SS Y sc fc st (evS Y.Z ir)
  | .asg t e, sc, fc, st, h => by
    unfold ckS at h
    exact ckAsg_ok h
  | .own i es, sc, fc, st, h => by
    unfold ckS at h
    split at h
    · simp only [Bool.and_eq_true, decide_eq_true_eq] at h
      obtain ⟨⟨⟨h1, h2⟩, h3⟩, h4⟩ := h
      exact ss_own h1 (locB_ok h2) h3 (ckL_ok Y es _ _ _ h4).1
    · cases h
  | .frz _, sc, fc, st, h => by unfold ckS at h; cases h
  | .app i e, sc, fc, st, h => by
    unfold ckS at h
    split at h
    · simp only [Bool.and_eq_true, decide_eq_true_eq] at h
      obtain ⟨⟨⟨⟨⟨⟨h0, h1⟩, h2⟩, h3⟩, h4⟩, h5⟩, h6⟩ := h
      subst h0
      exact ss_app h1 (visB_ok h2) (nmB_ok h3).1 (nmB_ok h3).2 h4 (ckE_ok Y e _ _ _ h5).1 h6
    · cases h
  | .ret e, sc, fc, st, h => by
    unfold ckS at h
    split at h
    · exact ss_ret (ckE_ok Y e _ _ _ h).1
    · cases h
  | .retN, sc, fc, st, h => by
    unfold ckS at h
    split at h
    · exact ss_retN
    · cases h
  | .pass, sc, fc, st, h => by
    unfold ckS at h
    split at h
    · exact ss_pass
    · cases h
  | .brk, sc, fc, st, h => by
    unfold ckS at h
    split at h
    · exact ss_brk
    · cases h
  | .cont, sc, fc, st, h => by
    unfold ckS at h
    split at h
    · exact ss_cont
    · cases h
  | .ifs t a b, sc, fc, st, h => by
    unfold ckS at h
    split at h
    · simp only [Bool.and_eq_true] at h
      obtain ⟨⟨⟨h1, h2⟩, h3⟩, h4⟩ := h
      exact ss_if ((ckE_ok Y t _ _ _ h2).2 h1) (ckSs_ok Y a _ _ _ h3) (ckSs_ok Y b _ _ _ h4)
    · cases h
  | .for_ t it b, sc, fc, st, h => by
    unfold ckS at h
    split at h
    · simp only [Bool.and_eq_true] at h
      obtain ⟨⟨⟨h1, h2⟩, h3⟩, h4⟩ := h
      exact ss_for (ckI_ok Y it _ _ _ _ h2) h1 (ckG_ok h3) (ckSs_ok Y b _ _ _ h4)
    · cases h
  | .whl n t b, sc, fc, st, h => by
    unfold ckS at h
    split at h
    · simp only [Bool.and_eq_true] at h
      obtain ⟨⟨h1, h2⟩, h3⟩ := h
      exact ss_whl ((ckE_ok Y t _ _ _ h2).2 h1) (ckSs_ok Y b _ _ _ h3)
    · cases h
  | .never, sc, fc, st, h => by exact ss_never
  | .newd i, sc, fc, st, h => by
    unfold ckS at h
    split at h
    · simp only [Bool.and_eq_true, decide_eq_true_eq] at h
      exact ss_newd h.1.1 (locB_ok h.1.2) h.2
    · cases h
  | .put i k e, sc, fc, st, h => by
    unfold ckS at h
    split at h
    · simp only [Bool.and_eq_true, decide_eq_true_eq] at h
      obtain ⟨⟨⟨⟨⟨h1, h2⟩, h3⟩, h4⟩, h5⟩, h6⟩ := h
      exact ss_put h1 (visB_ok h2) (nmB_ok h3).1 (nmB_ok h3).2 h4 (ckE_ok Y e _ _ _ h5).1 (ckE_ok Y k _ _ _ h6).1
    · cases h
  | .setf i f e, sc, fc, st, h => by
    unfold ckS at h
    split at h
    · simp only [Bool.and_eq_true, decide_eq_true_eq] at h
      obtain ⟨⟨⟨⟨⟨h0, h1⟩, h2⟩, h3⟩, h4⟩, h5⟩ := h
      subst h0
      exact ss_setf h1 (visB_ok h2) (nmB_ok h3).1 (nmB_ok h3).2 h4 (ckE_ok Y e _ _ _ h5).1
    · cases h
  | .seti i k e, sc, fc, st, h => by
    unfold ckS at h
    split at h
    · simp only [Bool.and_eq_true, decide_eq_true_eq] at h
      obtain ⟨⟨⟨⟨⟨⟨⟨h1, h2⟩, h3⟩, h4⟩, h5⟩, h6⟩, h7⟩, h8⟩ := h
      exact ss_seti h1 (visB_ok h2) (nmB_ok h3).1 (nmB_ok h3).2 h4 h5 h6 (ckE_ok Y e _ _ _ h7).1 (ckE_ok Y k _ _ _ h8).1
    · cases h
theorem ckSs_ok (Y : Stat) : ∀ (ir : List S) (sc : Scope) (fc : Str → Bool) (sts : List Stmt), ckSs Y ir sc fc sts = true → SSs Y sc fc sts (evSs Y.Z ir)
  | [], sc, fc, sts, h => by
    unfold ckSs at h
    have : sts = [] := by simpa using h
    subst this
    exact sss_nil
  | s :: r, sc, fc, sts, h => by
    unfold ckSs at h
    split at h
    · cases ‹_ = []›
    · rename_i e1
      cases e1
      exact sss_frz (ckSs_ok Y r _ _ _ h)
    · rename_i hne e1
      cases e1
      split at h
      · simp only [Bool.and_eq_true] at h
        exact sss_cons (ckS_ok Y s _ _ _ h.1) (ckSs_ok Y r _ _ _ h.2)
      · cases h
end

/-! ### a def -/
/-- a docstring ahead is left out -/
theorem start_ok {K : PySem.W.Frag} {G : Hp} {m : Nat} {ds : List D} {vs : List V} (N : List Str) (hm : N.length = m) (h : DenL K G ds vs) (hl : ds.length ≤ m) : SlOk K G noH (startD m ds) (L2.start N vs) := by
  have hlen := h.length
  refine ⟨?_, fun i d hi => ?_, fun i es hi => ?_, fun i j es fs a hi hj _ _ => ?_⟩
  · simp [startD, L2.start, hm, ← hlen]
  · unfold startD at hi
    unfold L2.start
    by_cases hlt : i < ds.length
    · rw [List.getElem?_append_left (by simpa using hlt), List.getElem?_map] at hi
      obtain ⟨d', hd, e⟩ := mpd hi
      cases e
      obtain ⟨v, hv, dv⟩ := h.get hd
      exact ⟨v, by rw [List.getElem?_append_left (by simpa using (by omega : i < vs.length)), List.getElem?_map, hv]; rfl, dv⟩
    · rw [List.getElem?_append_right (by simpa using hlt), List.getElem?_replicate] at hi
      split at hi <;> cases hi
  · unfold startD at hi
    by_cases hlt : i < ds.length
    · rw [List.getElem?_append_left (by simpa using hlt), List.getElem?_map] at hi
      obtain ⟨d', hd, e⟩ := mpd hi
      cases e
    · rw [List.getElem?_append_right (by simpa using hlt), List.getElem?_replicate] at hi
      split at hi <;> cases hi
  · unfold startD at hi
    by_cases hlt : i < ds.length
    · rw [List.getElem?_append_left (by simpa using hlt), List.getElem?_map] at hi
      obtain ⟨d', hd, e⟩ := mpd hi
      cases e
    · rw [List.getElem?_append_right (by simpa using hlt), List.getElem?_replicate] at hi
      split at hi <;> cases hi
/-- what stands fast outside the def: the same for all contexts of a law -/
structure Env1 (P : Program) (w : World) (K : PySem.W.Frag) (mg : Str → Option Value) (base : Heap) (Y : Stat) : Prop where
  fns : ∀ i x, (i, x) ∈ Y.fns → FnAt P w K mg base Y.lv x (Y.Z.F i)
  cns : ∀ k x, (k, x) ∈ Y.cns → ∃ u v d, mg x = some u ∧ RelV v u ∧ Y.Z.C k = some d ∧ ∀ G, Den K G d v
  bl : ∀ x ∈ Y.bl, mg x = none
  gcd : Y.gcd = true → mg "gcd" = some (.builtin "math.gcd")
  fld : ∀ c f, (c, f) ∈ Y.Z.L → FdAt K c f
  mth : ∀ c m k, findM Y.Z.M c m = some k → MtAt P w K mg base Y.lv c m (Y.Z.F k)
  prp : ∀ c m k, findM Y.Z.P c m = some k → PrAt P w K mg base Y.lv c m (Y.Z.F k)
  mks : ∀ k c, (k, c) ∈ Y.mks → MkAt P w K mg base Y.lv c (Y.Z.F k)
  cl : ∀ c ∈ Y.Z.K, ClAt K c
  kws : ∀ k x ks perm, (k, x, ks, perm) ∈ Y.kws → KwAt P w K mg base Y.lv x ks perm (Y.Z.F k)
theorem evF_len {Z : Sm} {b : List S} {k m : Nat} {ds : List D} {d : D} (h : evF Z b k m ds = some d) : ds.length = k := by
  unfold evF at h
  split at h
  · assumption
  · cases h
/-- THE RULE for a def: its text is checked, its promise is its value by the small language -/
theorem fn_ok {P : Program} {w : World} {K : PySem.W.Frag} {mg : Str → Option Value} {base : Heap} {Y : Stat} {x qual : Str} {st : Stmt} {f : Addr} {fd : FuncData} {ps : List Str} {b : List S} {F : List D → Option D}
    (Fn : Fun K x qual st f fd) (S : FnScope Y.N ps (defScope st)) (En : Env1 P w K mg base Y) (hc : ckSs Y b (defScope st) (fun _ => true) (defBody st) = true) (hle : ps.length ≤ Y.N.length)
    (hF : ∀ ds d, F ds = some d → evF Y.Z b ps.length Y.N.length ds = some d) : FnOk P w K mg base CX0 (Y.lv + 1) f fd ps (spF K F) := by
  refine Fn.ok S (fun vs H Q E h => ?_) (fun cdv A outer s H vs Q E hr h => ?_)
  · obtain ⟨ds, d, G, _, h1, h2, _⟩ := h
    rw [← h1.length]
    exact evF_len (hF ds d h2)
  · obtain ⟨ds, d, G, hs, h1, h2, q⟩ := h
    have hv := hF ds d h2
    have hl := evF_len hv
    unfold evF at hv
    rw [if_pos hl] at hv
    obtain ⟨o, ho, he⟩ := bnd hv
    have ok : XOk Y (defScope st) (fun _ => true) (cxOf CX0 P w K mg base Y.N qual (defScope st) f cdv A outer s H E).nox :=
      ⟨rfl, S.nd, rfl, rfl, hr, rfl, fun _ _ => rfl, En.fns, En.cns, En.bl, En.gcd, En.fld, En.mth, En.prp, En.mks, En.cl, En.kws⟩
    have run := (ckSs_ok Y b _ _ _ hc).run _ ok H G G noH H _ _ o (Wd.start hs) (start_ok Y.N rfl h1 (by omega)) ho { nx := fun _ H' => Q .non H', rt := Q }
    refine ⟨_, pss_tu, run ?_⟩
    cases o with
    | nx τ =>
      cases he
      exact fun σ G' W' H' e' w' s' => q .non G' H' (fun a o e => (w'.h0 a o e).1) (fun a o e => (w'.hg a o (hs a o e)).trans e) w'.gh w'.hg (by simp only [Den])
    | rt d' =>
      cases he
      exact fun v G' W' H' e' w' dv => q v G' H' (fun a o e => (w'.h0 a o e).1) (fun a o e => (w'.hg a o (hs a o e)).trans e) w'.gh w'.hg dv
    | bk τ => cases he
    | ct τ => cases he
/-- an __init__: the text is checked, the instance made is its value -/
theorem init_ok {P : Program} {w : World} {K : PySem.W.Frag} {mg : Str → Option Value} {base : Heap} {Y : Stat} {x qual c : Str} {st : Stmt} {f : Addr} {fd : FuncData} {ps : List Str} {b : List S} {F : List D → Option D}
    (Fn : Fun K x qual st f fd) (S : FnScope Y.N ps (defScope st)) (En : Env1 P w K mg base Y) (hc : ckSs Y b (defScope st) (fun _ => true) (defBody st) = true) (hle : ps.length ≤ Y.N.length)
    (hF : ∀ ds d, F ds = some d → evI0 c Y.Z b ps.length Y.N.length ds = some d) : FnOk P w K mg base CX0 (Y.lv + 1) f fd ps (spI K c F) := by
  refine Fn.ok S (fun vs H Q E h => ?_) (fun cdv A outer s H vs Q E hr h => ?_)
  · obtain ⟨z, C, dx, us, ds, ns, fs, G, rfl, _, _, _, _, h1, h2, _⟩ := h
    rw [List.length_cons, ← h1.length]
    have := hF _ _ h2
    unfold evI0 at this
    split at this
    · assumption
    · cases this
  · obtain ⟨z, C, dx, us, ds, ns, fs, G, rfl, hz, hC, hs, hGz, h1, h2, q⟩ := h
    have hv := hF _ _ h2
    unfold evI0 at hv
    split at hv
    · rename_i hl
      obtain ⟨o, ho, he⟩ := bnd hv
      have ok : XOk Y (defScope st) (fun _ => true) (cxOf CX0 P w K mg base Y.N qual (defScope st) f cdv A outer s H E).nox :=
        ⟨rfl, S.nd, rfl, rfl, hr, rfl, fun _ _ => rfl, En.fns, En.cns, En.bl, En.gcd, En.fld, En.mth, En.prp, En.mks, En.cl, En.kws⟩
      have hN : 1 ≤ Y.N.length := by omega
      -- the world: all but the new instance is as it was
      have w0 : Wd (del H z) (upd G z (.own z)) G (upd noH z (.ins C dx [])) H := by
        refine ⟨hs, fun a u e => ?_, fun a C dx n e => ?_, fun a u e => ?_, fun a u e => ?_⟩
        · by_cases ha : a = z
          · subst ha
            rw [upd_same] at e
            cases e
            exact ⟨hz, hGz⟩
          · rw [upd_ne ha] at e; cases e
        · by_cases ha : a = z
          · subst ha
            exact ⟨_, upd_same⟩
          · rw [upd_ne ha] at e; cases e
        · have ha : a ≠ z := by
            intro ha
            subst ha
            rw [del_same] at e
            cases e
          rw [upd_ne ha]
        · have ha : a ≠ z := by
            intro ha
            subst ha
            rw [del_same] at e
            cases e
          rw [del_ne ha] at e
          exact ⟨e, by rw [upd_ne ha]; rfl⟩
      have s0 : SlOk K G (upd noH z (.ins C dx [])) (.o (.ins c [] []) :: startD (Y.N.length - 1) ds) (L2.start Y.N (.ref z :: us)) := by
        have s1 := start_ok (Y.N.drop 1) (m := Y.N.length - 1) (by simp) h1 (by omega)
        have e1 : L2.start Y.N (.ref z :: us) = some (.ref z) :: L2.start (Y.N.drop 1) us := by
          simp [L2.start]
          omega
        rw [e1]
        refine ⟨by simp [s1.len], fun i d hi => ?_, fun i d hi => ?_, fun i k d d' a hi hk ha hb => ?_⟩
        · cases i with
          | zero => cases hi
          | succ i => exact s1.val i d (by simpa using hi)
        · cases i with
          | zero =>
            cases hi
            refine ⟨z, _, rfl, upd_same, ?_⟩
            simp only [DenO]
            exact ⟨C, dx, [], rfl, hC, rfl, by simp [DenL]⟩
          | succ i =>
            obtain ⟨a, u, _, e, _⟩ := s1.own i d (by simpa using hi)
            cases e
        · cases i with
          | zero =>
            cases k with
            | zero => rfl
            | succ k =>
              obtain ⟨a, u, _, e, _⟩ := s1.own k _ (by simpa using hk)
              cases e
          | succ i =>
            obtain ⟨a, u, _, e, _⟩ := s1.own i _ (by simpa using hi)
            cases e
      have run := (ckSs_ok Y b _ _ _ hc).run _ ok (del H z) (upd G z (.own z)) G (upd noH z (.ins C dx [])) H _ _ o w0 s0 ho { nx := fun _ H' => Q .non H', rt := Q }
      refine ⟨_, pss_tu, run ?_⟩
      split at he
      · rename_i d' r
        cases he
        intro σ G' W' H' e' w' s'
        obtain ⟨a, ob, o1, o2, o3⟩ := s'.own 0 _ rfl
        have o3' := o3
        simp only [DenO] at o3
        obtain ⟨C', dx', nvs, rfl, _, _, _⟩ := o3
        have ez : a = z := by
          by_cases ha : a = z
          · exact ha
          · obtain ⟨b', hb'⟩ := w'.wi a _ _ _ o2
            rw [upd_ne ha] at hb'
            have hHa : del H z a = some (.own b') := by rw [del_ne ha]; exact hs _ _ hb'
            rw [(w'.h0 _ _ hHa).2] at o2
            cases o2
        subst ez
        have hG' := (w'.wh _ _ o2).2
        have old : ∀ b u, b ≠ a → H b = some u → H' b = some u ∧ G' b = G b := fun b u hb e => by
          have e0 : del H a b = some u := by rw [del_ne hb]; exact e
          exact ⟨(w'.h0 _ _ e0).1, by rw [w'.hg _ _ e0, upd_ne hb]⟩
        refine q _ (upd G' a _) H' (fun b u hb e => (old b u hb e).1) (w'.wh _ _ o2).1 (fun b u e => ?_) (w'.give o2).gh (fun b u hb e => ?_) upd_same (DenO.mono (sub_upd hG') _ o3')
        · have hb := ne_of_none e hGz
          rw [upd_ne hb, (old b u hb (hs _ _ e)).2]
          exact e
        · rw [upd_ne hb]
          exact (old b u hb e).2
      · cases he
    · cases hv
end Pv

set_option Elab.async false
set_option linter.all false
set_option maxRecDepth 100000
set_option maxHeartbeats 4000000

namespace Pv
open PySem L2

/-! ### reckoning (no lemma here is closed by rfl itself: the kernel is not to unfold what stands behind) -/
@[simp high] theorem bind_someX {α β : Type} (a : α) (f : α → Option β) : (some a).bind f = f a := id rfl
@[simp high] theorem map_someX {α β : Type} (a : α) (f : α → β) : (some a).map f = some (f a) := id rfl
@[simp high] theorem bind_noneX {α β : Type} (f : α → Option β) : (none : Option α).bind f = none := id rfl
@[simp high] theorem map_noneX {α β : Type} (f : α → β) : (none : Option α).map f = none := id rfl
section
variable (Z : Sm) (σ : List Sl)
@[simp] theorem evE_c (d : D) : evE Z (.c d) σ = some d := id rfl
@[simp] theorem evE_v (i : Nat) : evE Z (.v i) σ = getV σ i := id rfl
@[simp] theorem evE_g (k : Nat) : evE Z (.g k) σ = Z.C k := id rfl
@[simp] theorem evE_bin (o : BO) (a b : E) : evE Z (.bin o a b) σ = (evE Z a σ).bind fun x => (evE Z b σ).bind fun y => binD o x y := id rfl
@[simp] theorem evE_neg (a : E) : evE Z (.neg a) σ = (evE Z a σ).bind fun x => (intD x).map fun i => .int (-i) := id rfl
@[simp] theorem evE_not (a : E) : evE Z (.not a) σ = ((evE Z a σ).bind truth).map fun b => .bl (!b) := id rfl
@[simp] theorem evE_and (a b : E) : evE Z (.and a b) σ = ((evE Z a σ).bind blD).bind fun k => bif k then evE Z b σ else some (.bl false) := id rfl
@[simp] theorem evE_or (a b : E) : evE Z (.or a b) σ = ((evE Z a σ).bind blD).bind fun k => bif k then some (.bl true) else evE Z b σ := id rfl
@[simp] theorem evE_last (a : E) : evE Z (.last a) σ = evE Z a σ := id rfl
@[simp] theorem evE_cmp (o : CO) (a b : E) : evE Z (.cmp o a b) σ = (evE Z a σ).bind fun x => (evE Z b σ).bind fun y => (cmpX o x y).map .bl := id rfl
@[simp] theorem evE_chain (o p : CO) (a b c : E) : evE Z (.chain o p a b c) σ = (evE Z a σ).bind fun x => (evE Z b σ).bind fun y => (cmpD o x y).bind fun k => bif k then (evE Z c σ).bind fun z => (cmpD p y z).map .bl else some (.bl false) := id rfl
@[simp] theorem evE_ite (t a b : E) : evE Z (.ite t a b) σ = ((evE Z t σ).bind truth).bind fun k => bif k then evE Z a σ else evE Z b σ := id rfl
@[simp] theorem evE_tup (es : List E) : evE Z (.tup es) σ = (evL Z es σ).bind fun ds => if ds.length ≤ line then some (.tup ds) else none := id rfl
@[simp] theorem evE_lst (es : List E) : evE Z (.lst es) σ = (evL Z es σ).bind fun ds => if ds.length ≤ line then some (.lst ds) else none := id rfl
@[simp] theorem evE_dct (es : List E) : evE Z (.dct es) σ = (evL Z es σ).bind fun ds => dctD (evens ds) (odds ds) := id rfl
@[simp] theorem evE_ix (a b : E) : evE Z (.ix a b) σ = (evE Z a σ).bind fun x => (evE Z b σ).bind fun y => ixX x y := id rfl
@[simp] theorem evE_sl (a lo hi : E) : evE Z (.sl a lo hi) σ = (evE Z a σ).bind fun x => (evP Z lo σ).bind fun l => (evP Z hi σ).bind fun h => slD l h x := id rfl
@[simp] theorem evP_nil : evP Z .nil σ = some none := id rfl
@[simp] theorem evP_last (e : E) : evP Z (.last e) σ = (evE Z e σ).bind fun d => (intD d).map some := id rfl
@[simp] theorem evE_call (f : Nat) (es : List E) : evE Z (.call f es) σ = (evL Z es σ).bind fun ds => Z.F f ds := id rfl
@[simp] theorem evE_blt (f : BF) (es : List E) : evE Z (.blt f es) σ = (evL Z es σ).bind fun ds => bltD f ds := id rfl
@[simp] theorem evE_isi (a : E) (ts : List Ty) (m : Bool) : evE Z (.isi a ts m) σ = (evE Z a σ).bind fun x => if isIns x then insI Z.K x else some (.bl (ts.any (isi1 x))) := id rfl
@[simp] theorem evE_same (a b : E) : evE Z (.same a b) σ = (evE Z a σ).bind fun x => (evE Z b σ).bind fun y => sameD x y := id rfl
@[simp] theorem evE_u1 (o : U1) (a : E) : evE Z (.u1 o a) σ = (evE Z a σ).bind fun x => u1D o x := id rfl
@[simp] theorem evE_ixo (i : Nat) (a : E) : evE Z (.ixo i a) σ = (getO σ i).bind fun xs => ((evE Z a σ).bind intD).bind fun k => atI xs k := id rfl
@[simp] theorem evE_leno (i : Nat) : evE Z (.leno i) σ = (getO σ i).map fun xs => .int xs.length := id rfl
@[simp] theorem evE_lc (own : List (Str × Nat)) (t : T) (it c e : E) : evE Z (.lc own t it c e) σ = (evI Z it σ).bind fun ds => if ds.length ≤ line then (lcL t (evE Z c) (evE Z e) (wipeD σ (own.map fun p => p.2)) ds).map .lst else none := id rfl
@[simp] theorem evE_callK (f : Nat) (ks : List Str) (pm : List Nat) (es : List E) : evE Z (.callK f ks pm es) σ = (evL Z es σ).bind fun ds => Z.F f (permL pm ds) := id rfl
@[simp] theorem evE_mk (f : Nat) (es : List E) : evE Z (.mk f es) σ = (evL Z es σ).bind fun ds => Z.F f ds := id rfl
/-- o.f, o.m(..), o.p by the object -/
def fldX (L : List (Str × Str)) (f : Str) : D → Option D
  | .ins c ns vs => if (c, f) ∈ L then fldOf ns vs f else none
  | _ => none
def mthX (M : List (Str × Str × Nat)) (F : Nat → List D → Option D) (m : Str) (ds : List D) : D → Option D
  | .ins c ns vs => if m ∈ ns then none else (findM M c m).bind fun k => F k (.ins c ns vs :: ds)
  | _ => none
def prpX (P : List (Str × Str × Nat)) (F : Nat → List D → Option D) (f : Str) : D → Option D
  | .ins c ns vs => (findM P c f).bind fun k => F k [.ins c ns vs]
  | _ => none
@[simp] theorem evE_fld (a : E) (f : Str) : evE Z (.fld a f) σ = (evE Z a σ).bind (fldX Z.L f) := by
  show (evE Z a σ).bind _ = _
  congr 1
@[simp] theorem evE_mth (a : E) (m : Str) (es : List E) : evE Z (.mth a m es) σ = (evE Z a σ).bind fun x => (evL Z es σ).bind fun ds => mthX Z.M Z.F m ds x := by
  show (evE Z a σ).bind _ = _
  congr 1
  funext x
  congr 1
  funext ds
  cases x <;> first | rfl | (simp only [mthX])
@[simp] theorem evE_prp (a : E) (f : Str) : evE Z (.prp a f) σ = (evE Z a σ).bind (prpX Z.P Z.F f) := by
  show (evE Z a σ).bind _ = _
  congr 1
  funext x
  cases x <;> first | rfl | (simp only [prpX])
@[simp] theorem evE_join (a b : E) : evE Z (.join a b) σ = (evE Z a σ).bind fun x => (evE Z b σ).bind fun y => joinD x y := id rfl
@[simp] theorem evE_dget (a b : E) : evE Z (.dget a b) σ = (evE Z a σ).bind fun x => (evE Z b σ).bind fun y => getD' x y := id rfl
@[simp] theorem evE_ino (n : Bool) (a : E) (i : Nat) : evE Z (.ino n a i) σ = (evE Z a σ).bind fun x => (D.key x).bind fun q => (getOd σ i).map fun kv => .bl ((dlook kv.1 kv.2 q).isSome != n) := id rfl
/-- enumerate, zip by what is walked -/
def enumX : D → Option (List D)
  | .lst ds => some (enumD 0 ds)
  | .tup ds => some (enumD 0 ds)
  | _ => none
def zipX : D → D → Option (List D)
  | .lst ds, .lst es => some (zipD ds es)
  | .tup ds, .tup es => some (zipD ds es)
  | .str ds, .str es => some (zipD (ds.map fun c => .str [c]) (es.map fun c => .str [c]))
  | _, _ => none
@[simp] theorem evI_enum (a : E) : evI Z (.enum a) σ = (evE Z a σ).bind enumX := by
  show (evE Z a σ).bind _ = _
  congr 1
@[simp] theorem evI_zip (a b : E) : evI Z (.zip a b) σ = (evE Z a σ).bind fun x => (evE Z b σ).bind fun y => zipX x y := by
  show (evE Z a σ).bind _ = _
  congr 1
@[simp] theorem evI_seq (e : E) : evI Z (.seq e) σ = (evE Z e σ).bind seqD := id rfl
@[simp] theorem evI_r1 (a : E) : evI Z (.r1 a) σ = ((evE Z a σ).bind intD).bind fun i => if okR i then some (rngD 0 i.toNat) else none := id rfl
@[simp] theorem evI_r2 (a b : E) : evI Z (.r2 a b) σ = ((evE Z a σ).bind intD).bind fun i => ((evE Z b σ).bind intD).bind fun j => if okR i && okR j then some (rngD i (j - i).toNat) else none := id rfl
@[simp] theorem evL_nil : evL Z [] σ = some [] := id rfl
@[simp] theorem evL_cons (e : E) (es : List E) : evL Z (e :: es) σ = (evE Z e σ).bind fun d => (evL Z es σ).map (d :: ·) := id rfl
@[simp] theorem evS_asg (t : T) (e : E) : evS Z (.asg t e) σ = (evE Z e σ).bind fun d => (setT t d σ).map .nx := id rfl
@[simp] theorem evS_own (i : Nat) (es : List E) : evS Z (.own i es) σ = (evL Z es σ).bind fun ds => if ds.length ≤ line then some (.nx (σ.set i (.o (.lst ds)))) else none := id rfl
@[simp] theorem evS_frz (i : Nat) : evS Z (.frz i) σ = some (.nx (frzD σ i)) := id rfl
@[simp] theorem evS_app (i : Nat) (e : E) : evS Z (.app i e) σ = (evE Z e σ).bind fun d => (getO σ i).bind fun xs => if xs.length < line then some (.nx (σ.set i (.o (.lst (xs ++ [d]))))) else none := id rfl
@[simp] theorem evS_ret (e : E) : evS Z (.ret e) σ = (evE Z e σ).map .rt := id rfl
@[simp] theorem evS_retN : evS Z .retN σ = some (.rt .non) := id rfl
@[simp] theorem evS_pass : evS Z .pass σ = some (.nx σ) := id rfl
@[simp] theorem evS_brk : evS Z .brk σ = some (.bk σ) := id rfl
@[simp] theorem evS_cont : evS Z .cont σ = some (.ct σ) := id rfl
@[simp] theorem evS_ifs (t : E) (a b : List S) : evS Z (.ifs t a b) σ = ((evE Z t σ).bind truth).bind fun k => bif k then evSs Z a σ else evSs Z b σ := id rfl
@[simp] theorem evS_for (t : T) (it : E) (b : List S) : evS Z (.for_ t it b) σ = (evI Z it σ).bind fun ds => forL t (evSs Z b) ds σ := id rfl
@[simp] theorem evS_whl (n : Nat) (t : E) (b : List S) : evS Z (.whl n t b) σ = whlL (evE Z t) (evSs Z b) n σ := id rfl
@[simp] theorem evS_never : evS Z .never σ = none := id rfl
@[simp] theorem evS_newd (i : Nat) : evS Z (.newd i) σ = some (.nx (σ.set i (.o (.dct [] [])))) := id rfl
@[simp] theorem evS_put (i : Nat) (k e : E) : evS Z (.put i k e) σ = (evE Z e σ).bind fun d => (evE Z k σ).bind fun x => (D.key x).bind fun q => (getOd σ i).bind fun kv => if kv.1.length < line then some (.nx (σ.set i (.o (.dct (dputK kv.1 q x) (dputV kv.1 kv.2 q d))))) else none := id rfl
@[simp] theorem evS_setf (i : Nat) (f : Str) (e : E) : evS Z (.setf i f e) σ = (evE Z e σ).bind fun d => (getOi σ i).bind fun o => if (o.1, f) ∈ Z.L ∧ o.2.1.length < 1000 then some (.nx (σ.set i (.o (.ins o.1 (putN o.2.1 o.2.2 f) (putV o.2.1 o.2.2 f d))))) else none := id rfl
@[simp] theorem evS_seti (i : Nat) (k e : E) : evS Z (.seti i k e) σ = (evE Z e σ).bind fun d => ((evE Z k σ).bind intD).bind fun j => (getO σ i).bind fun xs => (ixN xs.length j).map fun n => .nx (σ.set i (.o (.lst (xs.set n d)))) := id rfl
@[simp] theorem evSs_nil : evSs Z [] σ = some (.nx σ) := id rfl
/-- what follows a statement -/
def thenS (Z : Sm) (r : List S) : Out → Option Out
  | .nx σ2 => evSs Z r σ2
  | .rt d => some (.rt d)
  | .bk σ2 => some (.bk σ2)
  | .ct σ2 => some (.ct σ2)
@[simp] theorem evSs_cons (s : S) (r : List S) : evSs Z (s :: r) σ = (evS Z s σ).bind (thenS Z r) := by
  show (evS Z s σ).bind _ = _
  congr 1
@[simp] theorem thenS_nx (r : List S) : thenS Z r (.nx σ) = evSs Z r σ := id rfl
@[simp] theorem thenS_rt (r : List S) (d : D) : thenS Z r (.rt d) = some (.rt d) := id rfl
@[simp] theorem thenS_bk (r : List S) : thenS Z r (.bk σ) = some (.bk σ) := id rfl
@[simp] theorem thenS_ct (r : List S) : thenS Z r (.ct σ) = some (.ct σ) := id rfl
end
@[simp] theorem line_val : line = 16777216 := id rfl
@[simp] theorem endD_rt (d : D) : endD (.rt d) = some d := id rfl
@[simp] theorem endD_nx (σ : List Sl) : endD (.nx σ) = some .non := id rfl
@[simp] theorem getV_zero (d : D) (r : List Sl) : getV (.v d :: r) 0 = some d := id rfl
@[simp] theorem getV_succ (s : Sl) (r : List Sl) (i : Nat) : getV (s :: r) (i + 1) = getV r i := by simp [getV]
@[simp] theorem getO_zero (d : List D) (r : List Sl) : getO (.o (.lst d) :: r) 0 = some d := id rfl
@[simp] theorem getOd_zero (ks vs : List D) (r : List Sl) : getOd (.o (.dct ks vs) :: r) 0 = some (ks, vs) := id rfl
@[simp] theorem getOd_succ (s : Sl) (r : List Sl) (i : Nat) : getOd (s :: r) (i + 1) = getOd r i := by simp [getOd]
@[simp] theorem getOi_zero (c : Str) (ns : List Str) (vs : List D) (r : List Sl) : getOi (.o (.ins c ns vs) :: r) 0 = some (c, ns, vs) := id rfl
@[simp] theorem getOi_succ (s : Sl) (r : List Sl) (i : Nat) : getOi (s :: r) (i + 1) = getOi r i := by simp [getOi]
@[simp] theorem getO_succ (s : Sl) (r : List Sl) (i : Nat) : getO (s :: r) (i + 1) = getO r i := by simp [getO]
@[simp] theorem setT_nm (i : Nat) (d : D) (σ : List Sl) : setT (.nm i) d σ = some (σ.set i (.v d)) := id rfl
@[simp] theorem setT_tp (is : List Nat) (ds : List D) (σ : List Sl) : setT (.tp is) (.tup ds) σ = setAll is ds σ := id rfl
@[simp] theorem setAll_nil (σ : List Sl) : setAll [] [] σ = some σ := id rfl
@[simp] theorem setAll_cons (i : Nat) (is : List Nat) (d : D) (ds : List D) (σ : List Sl) : setAll (i :: is) (d :: ds) σ = setAll is ds (σ.set i (.v d)) := id rfl
@[simp] theorem frz_zero (d : D) (r : List Sl) : frzD (.o d :: r) 0 = .v d :: r := id rfl
@[simp] theorem frz_zeroV (d : D) (r : List Sl) : frzD (.v d :: r) 0 = .v d :: r := id rfl
@[simp] theorem frz_succ (s : Sl) (r : List Sl) (i : Nat) : frzD (s :: r) (i + 1) = s :: frzD r i := by
  simp only [frzD, List.getElem?_cons_succ]
  split <;> simp
@[simp] theorem forL_nil (t : T) (f : List Sl → Option Out) (σ : List Sl) : forL t f [] σ = some (.nx σ) := id rfl
/-- what follows a turn -/
def turnO (k : List Sl → Option Out) : Out → Option Out
  | .nx σ2 => k σ2
  | .ct σ2 => k σ2
  | .bk σ2 => some (.nx σ2)
  | .rt d => some (.rt d)
@[simp] theorem turnO_nx (k : List Sl → Option Out) (σ : List Sl) : turnO k (.nx σ) = k σ := id rfl
@[simp] theorem turnO_ct (k : List Sl → Option Out) (σ : List Sl) : turnO k (.ct σ) = k σ := id rfl
@[simp] theorem turnO_bk (k : List Sl → Option Out) (σ : List Sl) : turnO k (.bk σ) = some (.nx σ) := id rfl
@[simp] theorem turnO_rt (k : List Sl → Option Out) (d : D) : turnO k (.rt d) = some (.rt d) := id rfl
theorem forL_cons (t : T) (f : List Sl → Option Out) (d : D) (ds : List D) (σ : List Sl) : forL t f (d :: ds) σ = (setT t d σ).bind fun σ1 => (f σ1).bind (turnO (forL t f ds)) := by
  show (setT t d σ).bind _ = _
  congr 1
@[simp] theorem bin_add (i j : Int) : binD .add (.int i) (.int j) = some (.int (i + j)) := id rfl
@[simp] theorem bin_sub (i j : Int) : binD .sub (.int i) (.int j) = some (.int (i - j)) := id rfl
@[simp] theorem bin_mul (i j : Int) : binD .mul (.int i) (.int j) = if mulOk i j then some (.int (i * j)) else none := id rfl
@[simp] theorem bin_fdiv (i j : Int) : binD .fdiv (.int i) (.int j) = if divOk j then some (.int (i.fdiv j)) else none := id rfl
@[simp] theorem bin_mod (i j : Int) : binD .mod (.int i) (.int j) = if j ≠ 0 then some (.int (i.fmod j)) else none := id rfl
@[simp] theorem bin_pow (i j : Int) : binD .pow (.int i) (.int j) = if powOk i j then some (.int (i ^ j.toNat)) else none := id rfl
@[simp] theorem bin_mulL (x : List D) (k : Int) : binD .mul (.lst x) (.int k) = if repOk x.length k then some (.lst (List.replicate k.toNat x).flatten) else none := id rfl
@[simp] theorem bin_mulS (x : List Nat) (k : Int) : binD .mul (.str x) (.int k) = if repOk x.length k then some (.str (List.replicate k.toNat x).flatten) else none := id rfl
@[simp] theorem bin_addL (x y : List D) : binD .add (.lst x) (.lst y) = if x.length + y.length ≤ line then some (.lst (x ++ y)) else none := id rfl
@[simp] theorem bin_addT (x y : List D) : binD .add (.tup x) (.tup y) = if x.length + y.length ≤ line then some (.tup (x ++ y)) else none := id rfl
@[simp] theorem bin_addS (x y : List Nat) : binD .add (.str x) (.str y) = if x.length + y.length ≤ line then some (.str (x ++ y)) else none := id rfl
@[simp] theorem intD_int (i : Int) : intD (.int i) = some i := id rfl
@[simp] theorem blD_bl (b : Bool) : blD (.bl b) = some b := id rfl
@[simp] theorem truth_bl (b : Bool) : truth (.bl b) = some b := id rfl
@[simp] theorem truth_non : truth .non = some false := id rfl
@[simp] theorem cmpX_int (o : CO) (x : D) (j : Int) : cmpX o x (.int j) = cmpD o x (.int j) := id rfl
@[simp] theorem cmpX_bl (o : CO) (x : D) (j : Bool) : cmpX o x (.bl j) = cmpD o x (.bl j) := id rfl
@[simp] theorem cmpX_str (o : CO) (x : D) (j : List Nat) : cmpX o x (.str j) = cmpD o x (.str j) := id rfl
@[simp] theorem cmpX_lst (o : CO) (x : D) (j : List D) : cmpX o x (.lst j) = cmpD o x (.lst j) := id rfl
@[simp] theorem cmpX_tup (o : CO) (x : D) (j : List D) : cmpX o x (.tup j) = cmpD o x (.tup j) := id rfl
@[simp] theorem cmpX_non (o : CO) (x : D) : cmpX o x .non = cmpD o x .non := id rfl
@[simp] theorem cmpX_ins (o : CO) (x : D) (c : Str) (ns : List Str) (vs : List D) : cmpX o x (.ins c ns vs) = cmpD o x (.ins c ns vs) := id rfl
@[simp] theorem cmpX_in (x : D) (ks vs : List D) : cmpX .isin x (.dct ks vs) = (D.key x).map fun q => (dlook ks vs q).isSome := id rfl
@[simp] theorem cmpX_nin (x : D) (ks vs : List D) : cmpX .notin x (.dct ks vs) = (D.key x).map fun q => !(dlook ks vs q).isSome := id rfl
@[simp] theorem cmp_inT (x : D) (ys : List D) : cmpD .isin x (.tup ys) = inD x ys := id rfl
@[simp] theorem cmp_inL (x : D) (ys : List D) : cmpD .isin x (.lst ys) = inD x ys := id rfl
@[simp] theorem cmp_ninT (x : D) (ys : List D) : cmpD .notin x (.tup ys) = (inD x ys).map not := id rfl
@[simp] theorem cmp_ninL (x : D) (ys : List D) : cmpD .notin x (.lst ys) = (inD x ys).map not := id rfl
@[simp] theorem cmp_inS (c : Nat) (ys : List Nat) : cmpD .isin (.str [c]) (.str ys) = some (decide (c ∈ ys)) := id rfl
@[simp] theorem cmp_ninS (c : Nat) (ys : List Nat) : cmpD .notin (.str [c]) (.str ys) = some (!decide (c ∈ ys)) := id rfl
@[simp] theorem cmp_eq (x y : D) : cmpD .eq x y = eqD x y := id rfl
@[simp] theorem cmp_ne (x y : D) : cmpD .ne x y = (eqD x y).map not := id rfl
theorem eqD_non (x : D) (h : scalD x .non = true) : eqD x .non = some (D.eqb x .non) := by simp [eqD, h]
@[simp] theorem ixX_lst (xs : List D) (y : D) : ixX (.lst xs) y = ixD (.lst xs) y := id rfl
@[simp] theorem ixX_tup (xs : List D) (y : D) : ixX (.tup xs) y = ixD (.tup xs) y := id rfl
@[simp] theorem ixX_str (xs : List Nat) (y : D) : ixX (.str xs) y = ixD (.str xs) y := id rfl
@[simp] theorem ixX_scr (xs : List Int) (y : D) : ixX (.scr xs) y = ixD (.scr xs) y := id rfl
@[simp] theorem ixX_dct (ks vs : List D) (y : D) : ixX (.dct ks vs) y = (D.key y).bind fun q => dlook ks vs q := id rfl
@[simp] theorem key_str (x : List Nat) : D.key (.str x) = some (.inr (mkS x)) := id rfl
@[simp] theorem key_int (i : Int) : D.key (.int i) = some (.inl i) := id rfl
@[simp] theorem enumX_lst (xs : List D) : enumX (.lst xs) = some (enumD 0 xs) := id rfl
@[simp] theorem enumX_tup (xs : List D) : enumX (.tup xs) = some (enumD 0 xs) := id rfl
@[simp] theorem zipX_str (xs ys : List Nat) : zipX (.str xs) (.str ys) = some (zipD (xs.map fun c => .str [c]) (ys.map fun c => .str [c])) := id rfl
@[simp] theorem zipX_lst (xs ys : List D) : zipX (.lst xs) (.lst ys) = some (zipD xs ys) := id rfl
@[simp] theorem fldX_ins (L : List (Str × Str)) (f c : Str) (ns : List Str) (vs : List D) : fldX L f (.ins c ns vs) = if (c, f) ∈ L then fldOf ns vs f else none := id rfl
@[simp] theorem joinD_lst (s : List Nat) (ds : List D) : joinD (.str s) (.lst ds) = (strsD ds).bind fun ps => if joinOk s ps then some (.str (joinN s ps)) else none := id rfl
@[simp] theorem tuple_lst (x : List D) : bltD .tuple [.lst x] = some (.tup x) := id rfl
@[simp] theorem tuple_tup (x : List D) : bltD .tuple [.tup x] = some (.tup x) := id rfl
@[simp] theorem list_lst (x : List D) : bltD .list [.lst x] = some (.lst x) := id rfl
@[simp] theorem list_tup (x : List D) : bltD .list [.tup x] = some (.lst x) := id rfl
@[simp] theorem len_str (x : List Nat) : bltD .len [.str x] = if x.length ≤ line then some (.int x.length) else none := id rfl
/-- sep.join of texts that are all there -/
theorem strsD_map {α : Type} (f : α → List Nat) (l : List α) : strsD (l.map fun a => .str (f a)) = some (l.map f) := by
  induction l with
  | nil => rfl
  | cons a l ih => simp [strsD, ih]
theorem joinN_nil (ps : List (List Nat)) : joinN [] ps = ps.flatten := by
  induction ps with
  | nil => rfl
  | cons p r ih =>
    cases r with
    | nil => simp [joinN]
    | cons q r => simp only [joinN, List.nil_append, List.flatten_cons] at ih ⊢; rw [ih]
@[simp] theorem cmp_lt (i j : Int) : cmpD .lt (.int i) (.int j) = some (decide (i < j)) := id rfl
@[simp] theorem cmp_le (i j : Int) : cmpD .le (.int i) (.int j) = some (decide (i ≤ j)) := id rfl
@[simp] theorem cmp_gt (i j : Int) : cmpD .gt (.int i) (.int j) = some (decide (j < i)) := id rfl
@[simp] theorem cmp_ge (i j : Int) : cmpD .ge (.int i) (.int j) = some (decide (j ≤ i)) := id rfl
theorem eqb_int (i j : Int) : D.eqb (.int i) (.int j) = decide (i = j) := by
  simp only [D.eqb, D.toP, PyData.eqv]; rfl
@[simp] theorem eqD_int (i j : Int) : eqD (.int i) (.int j) = some (decide (i = j)) := by
  simp [eqD, scalD, eqb_int]
theorem cmp_eqI (i j : Int) : cmpD .eq (.int i) (.int j) = some (decide (i = j)) := by
  simp [cmpD, eqD, scalD, eqb_int]
theorem cmp_neI (i j : Int) : cmpD .ne (.int i) (.int j) = some (!decide (i = j)) := by
  simp [cmpD, eqD, scalD, eqb_int]
@[simp] theorem eqD_str (x y : List Nat) : eqD (.str x) (.str y) = some (decide (x = y)) := by
  simp [eqD, scalD, eqb_str]
theorem cmp_eqS (x y : List Nat) : cmpD .eq (.str x) (.str y) = some (decide (x = y)) := by
  simp [cmpD, eqD, scalD, eqb_str]
theorem cmp_neS (x y : List Nat) : cmpD .ne (.str x) (.str y) = some (!decide (x = y)) := by
  simp [cmpD, eqD, scalD, eqb_str]
@[simp] theorem eqD_bl (x y : Bool) : eqD (.bl x) (.bl y) = some (decide (x = y)) := by
  simp only [eqD, scalD, Bool.true_or, if_true]
  cases x <;> cases y <;> rfl
theorem cmp_eqB (x y : Bool) : cmpD .eq (.bl x) (.bl y) = some (decide (x = y)) := by
  simp only [cmpD, eqD, scalD, Bool.true_or, if_true]
  cases x <;> cases y <;> rfl
@[simp] theorem cmp_isB (x y : Bool) : cmpD .is (.bl x) (.bl y) = some (decide (x = y)) := id rfl
@[simp] theorem cmp_isnotB (x y : Bool) : cmpD .isnot (.bl x) (.bl y) = some (!decide (x = y)) := id rfl
@[simp] theorem len_lst (x : List D) : bltD .len [.lst x] = some (.int x.length) := id rfl
@[simp] theorem len_tup (x : List D) : bltD .len [.tup x] = some (.int x.length) := id rfl
@[simp] theorem len_scr (x : List Int) : bltD .len [.scr x] = some (.int x.length) := id rfl
@[simp] theorem int_int (i : Int) : bltD .int [.int i] = some (.int i) := id rfl
@[simp] theorem int_bl (b : Bool) : bltD .int [.bl b] = some (.int (if b then 1 else 0)) := id rfl
@[simp] theorem abs_int (i : Int) : bltD .abs [.int i] = some (.int (if i < 0 then -i else i)) := id rfl
@[simp] theorem gcd_int (i j : Int) : bltD .gcd [.int i, .int j] = some (.int (Nat.gcd i.natAbs j.natAbs : Nat)) := id rfl
@[simp] theorem max_int (i j : Int) : bltD .max [.int i, .int j] = some (.int (if j > i then j else i)) := id rfl
@[simp] theorem min_int (i j : Int) : bltD .min [.int i, .int j] = some (.int (if j < i then j else i)) := id rfl
@[simp] theorem ix_lst (xs : List D) (i : Int) : ixD (.lst xs) (.int i) = atI xs i := id rfl
@[simp] theorem ix_tupD (xs : List D) (i : Int) : ixD (.tup xs) (.int i) = atI xs i := id rfl
@[simp] theorem ix_scr (xs : List Int) (i : Int) : ixD (.scr xs) (.int i) = (atI xs i).map .int := id rfl
@[simp] theorem ix_strD (xs : List Nat) (i : Int) : ixD (.str xs) (.int i) = if xs.length ≤ line then (atI xs i).map fun c => .str [c] else none := id rfl
theorem atI_of {α : Type} {xs : List α} {i : Int} {x : α} (h0 : 0 ≤ i) (h : xs[i.toNat]? = some x) : atI xs i = some x := by
  have : i = (i.toNat : Int) := by omega
  rw [this]; exact atI_nat h
@[simp] theorem atI_0 {α : Type} (x : α) (xs : List α) : atI (x :: xs) 0 = some x := atI_of (by decide) rfl
@[simp] theorem atI_1 {α : Type} (x y : α) (xs : List α) : atI (x :: y :: xs) 1 = some y := atI_of (by decide) rfl
@[simp] theorem atI_2 {α : Type} (x y z : α) (xs : List α) : atI (x :: y :: z :: xs) 2 = some z := atI_of (by decide) rfl
@[simp] theorem atI_3 {α : Type} (x y z u : α) (xs : List α) : atI (x :: y :: z :: u :: xs) 3 = some u := atI_of (by decide) rfl
@[simp] theorem atI_4 {α : Type} (x y z u v : α) (xs : List α) : atI (x :: y :: z :: u :: v :: xs) 4 = some v := atI_of (by decide) rfl
@[simp] theorem atI_5 {α : Type} (x y z u v w : α) (xs : List α) : atI (x :: y :: z :: u :: v :: w :: xs) 5 = some w := atI_of (by decide) rfl
@[simp] theorem seq_lst (xs : List D) : seqD (.lst xs) = some xs := id rfl
@[simp] theorem seq_tup (xs : List D) : seqD (.tup xs) = some xs := id rfl
@[simp] theorem seq_scr (xs : List Int) : seqD (.scr xs) = some (xs.map .int) := id rfl
@[simp] theorem seq_str (xs : List Nat) : seqD (.str xs) = some (xs.map fun c => .str [c]) := id rfl
@[simp] theorem startD_nil (m : Nat) : startD m [] = List.replicate m .no := by simp [startD]
/-- a loop that is never left early -/
theorem forL_inv {t : T} {f : List Sl → Option Out} (I : Nat → List Sl → Prop) : ∀ {ds : List D} {k : Nat} {σ : List Sl}, I k σ →
    (∀ (i : Nat) d σ, ds[i]? = some d → I (k + i) σ → ∃ σ1 σ2, setT t d σ = some σ1 ∧ (f σ1 = some (.nx σ2) ∨ f σ1 = some (.ct σ2)) ∧ I (k + i + 1) σ2) → ∃ σ', forL t f ds σ = some (.nx σ') ∧ I (k + ds.length) σ'
  | [], k, σ, h, _ => ⟨σ, rfl, h⟩
  | d :: ds, k, σ, h, hs => by
    obtain ⟨σ1, σ2, h1, h2, h3⟩ := hs 0 d σ rfl h
    obtain ⟨σ', h4, h5⟩ := forL_inv I (ds := ds) (k := k + 1) (σ := σ2) h3 fun i d' σ' hd hi => by
      have := hs (i + 1) d' σ' (by simpa using hd) (by rw [show k + (i + 1) = k + 1 + i by omega]; exact hi)
      rw [show k + (i + 1) + 1 = k + 1 + i + 1 by omega] at this
      exact this
    refine ⟨σ', ?_, by rw [List.length_cons, show k + (ds.length + 1) = k + 1 + ds.length by omega]; exact h5⟩
    rw [forL_cons, h1]
    rcases h2 with h2 | h2
    · simp [h2, h4]
    · simp [h2, h4]
/-- .. and what follows it -/
theorem loop_then {β : Type} {t : T} {f : List Sl → Option Out} {ds : List D} {σ : List Sl} {k : Out → Option β} {b : β} (I : Nat → List Sl → Prop) (h0 : I 0 σ)
    (hs : ∀ (i : Nat) d σ, ds[i]? = some d → I i σ → ∃ σ1 σ2, setT t d σ = some σ1 ∧ (f σ1 = some (.nx σ2) ∨ f σ1 = some (.ct σ2)) ∧ I (i + 1) σ2) (hk : ∀ σ', I ds.length σ' → k (.nx σ') = some b) : (forL t f ds σ).bind k = some b := by
  obtain ⟨σ', h1, h2⟩ := forL_inv I (k := 0) h0 (t := t) (f := f) (ds := ds) fun i d σ hd hi => by
    rw [Nat.zero_add] at hi ⊢
    exact hs i d σ hd hi
  rw [h1]
  rw [Nat.zero_add] at h2
  exact hk σ' h2
/-- .. where something is to be found of the result -/
theorem loop_thenE {t : T} {f : List Sl → Option Out} {ds : List D} {σ : List Sl} {β : Type} {k : Out → Option β} {P : Option β → Prop} (I : Nat → List Sl → Prop) (h0 : I 0 σ)
    (hs : ∀ (i : Nat) d σ, ds[i]? = some d → I i σ → ∃ σ1 σ2, setT t d σ = some σ1 ∧ (f σ1 = some (.nx σ2) ∨ f σ1 = some (.ct σ2)) ∧ I (i + 1) σ2) (hk : ∀ σ', I ds.length σ' → P (k (.nx σ'))) : P ((forL t f ds σ).bind k) := by
  obtain ⟨σ', h1, h2⟩ := forL_inv I (k := 0) h0 (t := t) (f := f) (ds := ds) fun i d σ hd hi => by
    rw [Nat.zero_add] at hi ⊢
    exact hs i d σ hd hi
  rw [h1]
  rw [Nat.zero_add] at h2
  exact hk σ' h2
theorem mulOk_of {i j : Int} {a b : Nat} (ha : i.natAbs < 2 ^ a) (hb : j.natAbs < 2 ^ b) (h0 : 0 < a) (h1 : 0 < b) (h : a + b ≤ 1000000) : mulOk i j = true := by
  have := wide_mul ha hb h0 h1 h
  simpa [mulOk, CMulW] using this
theorem divOk_of {j : Int} {b : Nat} (h0 : j ≠ 0) (hb : j.natAbs < 2 ^ b) (hb0 : 0 < b) (h9 : b ≤ 9000) : divOk j = true := by
  have := PySem.Flt.log2_lt_of hb0 hb
  simp [divOk, h0]
  omega
end Pv

set_option Elab.async false
set_option linter.all false
set_option maxRecDepth 100000
set_option maxHeartbeats 4000000

namespace Pv
open PySem PySem.Spec L2

/-! ### for the printed texts -/
def insC (c : Str) : D → Option D
  | .ins c' ns fs => if c' = c then some (.ins c' ns fs) else none
  | _ => none
/-- a class's making: its __init__'s value -/
def valI (c : Str) (Z : Sm) (b : List S) (k m : Nat) (ds : List D) : Option D := (evI0 c Z b k m ds).bind (insC c)
theorem valI_ins {c : Str} {Z : Sm} {b : List S} {k m : Nat} {ds : List D} {d : D} (h : valI c Z b k m ds = some d) : ∃ ns fs, d = .ins c ns fs := by
  obtain ⟨x, h1, h2⟩ := bnd h
  cases x <;> simp only [insC] at h2 <;> try cases h2
  split at h2
  · rename_i hc
    cases h2
    exact ⟨_, _, by rw [hc]⟩
  · cases h2
theorem valI_spec {c : Str} {Z : Sm} {b : List S} {k m : Nat} {ds : List D} {d : D} (h : valI c Z b k m ds = some d) : evI0 c Z b k m ds = some d := by
  obtain ⟨x, h1, h2⟩ := bnd h
  cases x <;> simp only [insC] at h2 <;> try cases h2
  split at h2
  · cases h2; exact h1
  · cases h2
theorem fn_no {P : Program} {w : World} {K : PySem.W.Frag} {mg : Str → Option Value} {base : Heap} {x qual : Str} {st : Stmt} {f : Addr} {fd : FuncData} {ps : List Str} {k : Nat} (Fn : Fun K x qual st f fd) :
    FnOk P w K mg base CX0 k f fd ps (spF K fun _ => none) :=
  ⟨fun vs H Q E ⟨ds, d, G, _, _, h, _⟩ => (by cases h), fun A outer s H args us vs Q E hr he hb hv ⟨ds, d, G, _, _, h, _⟩ => (by cases h)⟩
theorem vals_get : ∀ {zs : List V} {ws : List Value} (i : Nat), Vals zs ws → (zs[i]? = none ∧ ws[i]? = none) ∨ ∃ z w, zs[i]? = some z ∧ ws[i]? = some w ∧ RelV z w
  | _, _, _, .nil => .inl ⟨by simp, by simp⟩
  | _, _, 0, .cons r t => .inr ⟨_, _, rfl, rfl, r⟩
  | _, _, i + 1, .cons r t => by
    rcases vals_get i t with ⟨a, b⟩ | ⟨z, w, a, b, c⟩
    · exact .inl ⟨by simpa using a, by simpa using b⟩
    · exact .inr ⟨z, w, by simpa using a, by simpa using b, c⟩
theorem vals_perm {zs : List V} {ws : List Value} (r : Vals zs ws) : ∀ pm : List Nat, Vals (pm.filterMap (zs[·]?)) (pm.filterMap (ws[·]?))
  | [] => .nil
  | i :: pm => by
    have ih := vals_perm r pm
    rw [List.filterMap_cons, List.filterMap_cons]
    rcases vals_get i r with ⟨a, b⟩ | ⟨z, w, a, b, c⟩
    · rw [a, b]; exact ih
    · rw [a, b]; exact .cons c ih
theorem kw_at {P : Program} {w : World} {K : PySem.W.Frag} {mg : Str → Option Value} {base : Heap} {lv : Nat} {x : Str} {ks : List Str} {pm : List Nat} {F : List D → Option D} {f : Addr} {fd : FuncData} {ps : List Str}
    (hm : mg x = some (.ref f)) (hk : PySem.W.keepIn K (.ref f) = true) (hb : ∀ (s : Shared) (ws : List Value), ws.length = ks.length → BindsTo s fd ⟨[], ks.zip ws⟩ (ps.zip (pm.filterMap (ws[·]?)))) (hF : FnOk P w K mg base CX0 lv f fd ps (spF K F)) :
    KwAt P w K mg base lv x ks pm F :=
  ⟨f, fd, ps, fun _ ws => pm.filterMap (ws[·]?), fun _ zs => pm.filterMap (zs[·]?), hm, hk, ⟨fun s us ws _ l1 l2 => by
    have : us = [] := List.eq_nil_of_length_eq_zero l1
    subst this
    exact hb s ws l2, fun _ r => vals_perm r pm⟩, fun _ => rfl, hF⟩
/-- isinstance of an own class's instance and a built-in type -/
theorem kit_sub {K : PySem.W.Frag} {C : Addr} (t : Ty) (h : PySem.W.subIn K (.ref C) (.type (sT t)) = some false) : PySem.W.kitOne K (.ref C) (.type (sT t)) = some false := by
  have m : PySem.W.kitMeta (sT t) = true := by cases t <;> decide +kernel
  have b : (Value.ref C == Value.type (sT t)) = false := by cases t <;> rfl
  unfold PySem.W.kitOne PySem.W.kitCls
  rw [b]
  simp only [Bool.false_eq_true, if_false, m, if_true]
  exact h
theorem findM_mem : ∀ {l : List (Str × Str × Nat)} {c m : Str} {k : Nat}, findM l c m = some k → (c, m, k) ∈ l
  | [], _, _, _, h => by simp [findM] at h
  | (c', m', k') :: r, c, m, k, h => by
    simp only [findM] at h
    split at h
    · rename_i e
      cases h
      rw [e.1, e.2]
      exact List.mem_cons_self
    · exact List.mem_cons_of_mem _ (findM_mem h)
end Pv

set_option Elab.async false
set_option linter.all false
set_option maxRecDepth 100000
set_option maxHeartbeats 4000000

namespace Pv
open PySem PySem.Spec L2

/-! ### == of data with itself -/
mutual
theorem eqv_self : ∀ d : D, D.plain d = true → PyData.eqv (D.toP d) (D.toP d) = true
  | .non, _ => by simp [D.toP, PyData.eqv]
  | .bl _, _ => by simp [D.toP, PyData.eqv]
  | .int _, _ => by simp [D.toP, PyData.eqv]
  | .str _, _ => by simp [D.toP, PyData.eqv]
  | .lst ds, h => by
    simp only [D.plain] at h
    simp only [D.toP, PyData.eqv]
    exact eqvAll_self ds h
  | .tup ds, h => by
    simp only [D.plain] at h
    simp only [D.toP, PyData.eqv]
    exact eqvAll_self ds h
  | .dct _ _, h => by simp [D.plain] at h
  | .ins _ _ _, h => by simp [D.plain] at h
  | .scr _, h => by simp [D.plain] at h
theorem eqvAll_self : ∀ ds : List D, D.plainL ds = true → PyData.eqvAll (D.toPL ds) (D.toPL ds) = true
  | [], _ => by simp [D.toPL, PyData.eqvAll]
  | d :: ds, h => by
    simp only [D.plainL, Bool.and_eq_true] at h
    simp only [D.toPL, PyData.eqvAll, Bool.and_eq_true]
    exact ⟨eqv_self d h.1, eqvAll_self ds h.2⟩
end
theorem eqD_self {d : D} (h : D.shp d = true) : eqD d d = some true := by
  have hp : D.plain d = true := by
    simp only [D.shp, Bool.and_eq_true] at h
    exact h.1
  unfold eqD
  rw [h]
  simp only [Bool.and_self, Bool.or_true, if_true]
  exact congrArg some (eqv_self d hp)
/-! ### plain data that may be laid: its depth by a number -/
mutual
def D.layB : Nat → D → Bool
  | _, .non => true | _, .bl _ => true | _, .int _ => true
  | _, .str x => PyData.strOk (mkS x)
  | n + 1, .lst ds => D.layL n ds
  | n + 1, .tup ds => D.layL n ds
  | _, _ => false
def D.layL : Nat → List D → Bool
  | _, [] => true
  | n, d :: ds => D.layB n d && D.layL n ds
end
mutual
theorem layB_ok : ∀ (n : Nat) (d : D), D.layB n d = true → D.plain d = true ∧ (D.toP d).canLay0 = true ∧ (D.toP d).depth ≤ n
  | _, .non, _ => by simp [D.plain, D.toP, PyData.canLay0, PyData.depth]
  | _, .bl _, _ => by simp [D.plain, D.toP, PyData.canLay0, PyData.depth]
  | _, .int _, _ => by simp [D.plain, D.toP, PyData.canLay0, PyData.depth]
  | _, .str x, h => by
    simp only [D.layB] at h
    simp [D.plain, D.toP, PyData.canLay0, PyData.depth, h]
  | n + 1, .lst ds, h => by
    simp only [D.layB] at h
    obtain ⟨a, b, c⟩ := layL_ok n ds h
    simp only [D.plain, D.toP, PyData.canLay0, PyData.depth]
    exact ⟨a, b, by omega⟩
  | n + 1, .tup ds, h => by
    simp only [D.layB] at h
    obtain ⟨a, b, c⟩ := layL_ok n ds h
    simp only [D.plain, D.toP, PyData.canLay0, PyData.depth]
    exact ⟨a, b, by omega⟩
  | 0, .lst ds, h => by simp [D.layB] at h
  | 0, .tup ds, h => by simp [D.layB] at h
  | _, .dct _ _, h => by simp [D.layB] at h
  | _, .ins _ _ _, h => by simp [D.layB] at h
  | _, .scr _, h => by simp [D.layB] at h
theorem layL_ok : ∀ (n : Nat) (ds : List D), D.layL n ds = true → D.plainL ds = true ∧ PyData.canLayAll0 (D.toPL ds) = true ∧ PyData.depthAll (D.toPL ds) ≤ n
  | n, [], _ => by simp [D.plainL, D.toPL, PyData.canLayAll0, PyData.depthAll]
  | n, d :: ds, h => by
    simp only [D.layL, Bool.and_eq_true] at h
    obtain ⟨a, b, c⟩ := layB_ok n d h.1
    obtain ⟨a', b', c'⟩ := layL_ok n ds h.2
    simp only [D.plainL, D.toPL, PyData.canLayAll0, PyData.depthAll, Bool.and_eq_true]
    exact ⟨⟨a, a'⟩, ⟨b, b'⟩, by omega⟩
end
theorem shp_of {d : D} {n : Nat} (h : D.layB n d = true) (hn : n ≤ 64) : D.shp d = true := by
  obtain ⟨a, b, c⟩ := layB_ok n d h
  simp only [D.shp, SeqAt.shaped, Bool.and_eq_true, decide_eq_true_eq]
  exact ⟨a, b, by omega⟩
theorem layL_all {n : Nat} : ∀ {ds : List D}, (∀ d ∈ ds, D.layB n d = true) → D.layL n ds = true
  | [], _ => rfl
  | d :: ds, h => by
    simp only [D.layL, Bool.and_eq_true]
    exact ⟨h d List.mem_cons_self, layL_all fun x hx => h x (List.mem_cons_of_mem _ hx)⟩
end Pv

set_option Elab.async false
set_option linter.all false
set_option maxRecDepth 100000
set_option maxHeartbeats 4000000
namespace Pv
open PySem L2
/-! ### one statement after the other -/
/-- what follows a statement, kept shut -/
def rest (Z : Sm) (r : List S) (o : Out) : Option Out := thenS Z r o
theorem rest_nx (Z : Sm) (r : List S) (σ : List Sl) : rest Z r (.nx σ) = evSs Z r σ := id rfl
@[simp] theorem rest_rt (Z : Sm) (r : List S) (d : D) : rest Z r (.rt d) = some (.rt d) := id rfl
@[simp] theorem rest_bk (Z : Sm) (r : List S) (σ : List Sl) : rest Z r (.bk σ) = some (.bk σ) := id rfl
@[simp] theorem rest_ct (Z : Sm) (r : List S) (σ : List Sl) : rest Z r (.ct σ) = some (.ct σ) := id rfl
theorem evSs_consR (Z : Sm) (s : S) (r : List S) (σ : List Sl) : evSs Z (s :: r) σ = (evS Z s σ).bind (rest Z r) := by
  rw [evSs_cons]
  congr 1
theorem getV_ne {σ : List Sl} {i j : Nat} {x : Sl} (h : i ≠ j) : getV (σ.set i x) j = getV σ j := by
  unfold getV
  rw [List.getElem?_set_ne h]
theorem getV_eq {σ : List Sl} {i : Nat} {d : D} (h : i < σ.length) : getV (σ.set i (.v d)) i = some d := by
  unfold getV
  rw [List.getElem?_set_self h]
end Pv

set_option Elab.async false
set_option linter.all false
set_option maxRecDepth 100000
set_option maxHeartbeats 4000000
namespace Pv
open PySem PySem.Spec L2
/-! ### of use in all laws (first written for k08) -/
theorem lcL_eq {t : T} {c e : List Sl → Option D} {σ : List Sl} (p : D → Bool) (g : D → D) : ∀ ds : List D, (∀ d ∈ ds, ∃ σ1, setT t d σ = some σ1 ∧ (c σ1).bind truth = some (p d) ∧ (p d = true → e σ1 = some (g d))) → lcL t c e σ ds = some ((ds.filter p).map g)
  | [], _ => rfl
  | d :: ds, h => by
    obtain ⟨σ1, h1, h2, h3⟩ := h d List.mem_cons_self
    have ih := lcL_eq p g ds fun x hx => h x (List.mem_cons_of_mem _ hx)
    simp only [lcL, h1, bind_someX, h2]
    cases hp : p d
    · rw [List.filter_cons_of_neg (by simp [hp])]
      exact ih
    · rw [List.filter_cons_of_pos hp]
      show ((e σ1).bind _) = _
      rw [h3 hp, bind_someX, ih]
      rfl
/-- all items are kept -/
theorem lcL_map {t : T} {c e : List Sl → Option D} {σ : List Sl} (g : D → D) (ds : List D) (h : ∀ d ∈ ds, ∃ σ1, setT t d σ = some σ1 ∧ (c σ1).bind truth = some true ∧ e σ1 = some (g d)) : lcL t c e σ ds = some (ds.map g) := by
  have := lcL_eq (t := t) (c := c) (e := e) (σ := σ) (fun _ => true) g ds fun d hd => let ⟨σ1, a, b, f⟩ := h d hd; ⟨σ1, a, b, fun _ => f⟩
  rw [List.filter_eq_self.mpr (by simp)] at this
  exact this
theorem rng_eq : ∀ (n : Nat) (lo : Int), rngD lo n = (List.range n).map fun k => D.int (lo + (k : Nat))
  | 0, _ => rfl
  | n + 1, lo => by
    rw [List.range_succ_eq_map, List.map_cons, List.map_map]
    simp only [rngD, rng_eq n (lo + 1)]
    congr 1
    · simp
    · apply List.map_congr_left
      intro k _
      simp only [Function.comp]
      congr 1
      omega
/-- over range(n), by place -/
theorem lcL_rng {i : Nat} {c e : List Sl → Option D} {σ : List Sl} {n : Nat} (g : Nat → D) (h : ∀ k, k < n → (c (σ.set i (.v (.int (k : Nat))))).bind truth = some true ∧ e (σ.set i (.v (.int (k : Nat)))) = some (g k)) :
    lcL (.nm i) c e σ (rngD 0 n) = some ((List.range n).map g) := by
  rw [rng_eq]
  have key : ∀ l : List Nat, (∀ k ∈ l, k < n) → lcL (.nm i) c e σ (l.map fun k => D.int (0 + (k : Nat))) = some (l.map g) := by
    intro l
    induction l with
    | nil => intro _; rfl
    | cons k l ih =>
      intro hl
      obtain ⟨h1, h2⟩ := h k (hl k List.mem_cons_self)
      rw [List.map_cons, Int.zero_add]
      simp only [lcL, setT_nm, bind_someX, h1]
      show ((e _).bind _) = _
      rw [h2, bind_someX, ih fun j hj => hl j (List.mem_cons_of_mem _ hj)]
      rfl
  exact key _ fun k hk => List.mem_range.mp hk
theorem range_zip {α : Type} (f : Nat → Nat → α) (x y : List Nat) (h : x.length = y.length) : ((List.range x.length).map fun k => f (x[k]?.getD 0) (y[k]?.getD 0)) = List.zipWith f x y := by
  apply List.ext_getElem?
  intro k
  rw [List.getElem?_map, List.getElem?_zipWith]
  by_cases hk : k < x.length
  · have hk2 : k < y.length := by omega
    rw [List.getElem?_range hk, List.getElem?_eq_getElem hk, List.getElem?_eq_getElem hk2]
    simp [hk, hk2]
  · rw [List.getElem?_eq_none (by simpa using hk)]
    have : x[k]? = none := List.getElem?_eq_none (by omega)
    rw [this]
    rfl
/-- ''.join of single signs -/
theorem join_signs {α : Type} (f : α → Nat) (l : List α) (h : l.length ≤ 16777216) : joinD (.str []) (.lst (l.map fun a => D.str [f a])) = some (.str (l.map f)) := by
  have e : (l.map fun a => D.str [f a]) = l.map fun a => D.str ((fun a => [f a]) a) := rfl
  rw [joinD_lst, e, strsD_map, bind_someX, joinN_nil]
  have h1 : (l.map fun a => [f a]).flatten = l.map f := by
    clear h e
    induction l with
    | nil => rfl
    | cons a l ih => simpa using ih
  have h2 : joinOk [] (l.map fun a => [f a]) = true := by
    unfold joinOk
    rw [decide_eq_true_eq]
    have : ((l.map fun a => [f a]).map (·.length)).sum = l.length := by
      clear h e h1
      induction l with
      | nil => rfl
      | cons a l ih => simp only [List.map_cons, List.sum_cons, List.length_cons, List.length_nil] at ih ⊢; omega
    rw [this]
    simpa using h
  rw [h2, h1]
  rfl
theorem atI_k {α : Type} {x : List α} {k : Nat} (h : k < x.length) : atI x ((k : Nat) : Int) = some x[k] := atI_of (by omega) (by simp [h])
/-- a loop that is left early where something is found, else goes through -/
theorem forL_find {t : T} {f : List Sl → Option Out} (p : D → Bool) (r : D) (I : List Sl → Prop) : ∀ {ds : List D} {σ : List Sl}, I σ →
    (∀ d ∈ ds, ∀ σ, I σ → ∃ σ1, setT t d σ = some σ1 ∧ ((p d = true ∧ f σ1 = some (.rt r)) ∨ (p d = false ∧ ∃ σ2, f σ1 = some (.nx σ2) ∧ I σ2))) →
    (ds.any p = true ∧ forL t f ds σ = some (.rt r)) ∨ (ds.any p = false ∧ ∃ σ', forL t f ds σ = some (.nx σ') ∧ I σ')
  | [], σ, h, _ => .inr ⟨rfl, σ, rfl, h⟩
  | d :: ds, σ, h, hs => by
    obtain ⟨σ1, h1, h2⟩ := hs d List.mem_cons_self σ h
    rw [List.any_cons, forL_cons, h1]
    rcases h2 with ⟨hp, hf⟩ | ⟨hp, σ2, hf, hI⟩
    · left
      rw [hp]
      exact ⟨rfl, by simp [hf]⟩
    · rw [hp, Bool.false_or]
      simp only [bind_someX, hf, turnO_nx]
      exact forL_find p r I hI fun d' hd => hs d' (List.mem_cons_of_mem _ hd)
theorem zip_any (P : Nat → Nat → Bool) : ∀ x y : List Nat, (x.zip y).any (fun p => P p.1 p.2) = (List.zipWith P x y).any id
  | [], _ => by simp
  | _ :: _, [] => by simp
  | a :: x, b :: y => by simp [zip_any P x y]
theorem range_any (P : Nat → Nat → Bool) (x y : List Nat) (h : x.length = y.length) : ((List.range x.length).any fun k => P (x[k]?.getD 0) (y[k]?.getD 0)) = (x.zip y).any fun p => P p.1 p.2 := by
  have := range_zip P x y h
  rw [zip_any, ← this, List.any_map]
  rfl
theorem lcL_rngF {i : Nat} {c e : List Sl → Option D} {σ : List Sl} {n : Nat} (p : Nat → Bool) (g : Nat → D) (h : ∀ k, k < n → (c (σ.set i (.v (.int (k : Nat))))).bind truth = some (p k) ∧ (p k = true → e (σ.set i (.v (.int (k : Nat)))) = some (g k))) :
    lcL (.nm i) c e σ (rngD 0 n) = some (((List.range n).filter p).map g) := by
  rw [rng_eq]
  have key : ∀ l : List Nat, (∀ k ∈ l, k < n) → lcL (.nm i) c e σ (l.map fun k => D.int (0 + (k : Nat))) = some ((l.filter p).map g) := by
    intro l
    induction l with
    | nil => intro _; rfl
    | cons k l ih =>
      intro hl
      obtain ⟨h1, h2⟩ := h k (hl k List.mem_cons_self)
      have ih := ih fun j hj => hl j (List.mem_cons_of_mem _ hj)
      rw [List.map_cons, Int.zero_add]
      simp only [lcL, setT_nm, bind_someX, h1]
      cases hp : p k
      · rw [List.filter_cons_of_neg (by simp [hp])]
        exact ih
      · rw [List.filter_cons_of_pos hp]
        show ((e _).bind _) = _
        rw [h2 hp, bind_someX, ih]
        rfl
  exact key _ fun k hk => List.mem_range.mp hk
theorem inD_ints (k : Nat) : ∀ l : List Nat, inD (.int (k : Nat)) (l.map fun j => D.int (j : Nat)) = some (decide (k ∈ l)) := by
  intro l
  have hf : (flatD (.int (k : Nat)) && (l.map fun j => D.int (j : Nat)).all flatD) = true := by
    rw [Bool.and_eq_true]
    refine ⟨rfl, ?_⟩
    rw [List.all_map, List.all_eq_true]
    intro a _
    rfl
  unfold inD
  rw [if_pos hf, List.any_map]
  congr 1
  rw [Bool.eq_iff_iff]
  simp [eqb_int]
  constructor
  · rintro ⟨a, h1, h2⟩
    have : a = k := by omega
    rw [← this]; exact h1
  · intro h
    exact ⟨k, h, rfl⟩
theorem zipD_str (x y : List Nat) : zipD (x.map fun c => D.str [c]) (y.map fun c => D.str [c]) = (x.zip y).map fun p => D.tup [.str [p.1], .str [p.2]] := by
  induction x generalizing y with
  | nil => simp [zipD]
  | cons a x ih =>
    cases y with
    | nil => simp [zipD]
    | cons b y => simp [zipD, ih]
def low (x : List Nat) : Prop := ∀ c ∈ x, c < 128
theorem low_ok {x : List Nat} (h : low x) : PyData.strOk (mkS x) = true := by
  unfold PyData.strOk
  rw [← Array.all_toList, List.all_eq_true]
  intro c hc
  have := h c (by simpa using hc)
  simp
  omega
theorem lcL_of {α : Type} {t : T} {c e : List Sl → Option D} {σ : List Sl} (mk : α → D) (p : α → Bool) (g : α → D) : ∀ as : List α, (∀ a ∈ as, ∃ σ1, setT t (mk a) σ = some σ1 ∧ (c σ1).bind truth = some (p a) ∧ (p a = true → e σ1 = some (g a))) → lcL t c e σ (as.map mk) = some ((as.filter p).map g)
  | [], _ => rfl
  | a :: as, h => by
    obtain ⟨σ1, h1, h2, h3⟩ := h a List.mem_cons_self
    have ih := lcL_of mk p g as fun x hx => h x (List.mem_cons_of_mem _ hx)
    rw [List.map_cons]
    simp only [lcL, h1, bind_someX, h2]
    cases hp : p a
    · rw [List.filter_cons_of_neg (by simp [hp])]
      exact ih
    · rw [List.filter_cons_of_pos hp]
      show ((e σ1).bind _) = _
      rw [h3 hp, bind_someX, ih]
      rfl
theorem lay_strs {l : List (List Nat)} (h : ∀ x ∈ l, low x) : D.layL 0 (l.map D.str) = true := by
  apply layL_all
  intro d hd
  rw [List.mem_map] at hd
  obtain ⟨x, hx, rfl⟩ := hd
  exact low_ok (h x hx)
theorem eq_strs {l : List (List Nat)} (h : ∀ x ∈ l, low x) : eqD (.lst (l.map D.str)) (.lst (l.map D.str)) = some true :=
  eqD_self (shp_of (n := 1) (by simp only [D.layB]; exact lay_strs h) (by decide))
theorem eq_strsT {l : List (List Nat)} (h : ∀ x ∈ l, low x) : eqD (.tup (l.map D.str)) (.tup (l.map D.str)) = some true :=
  eqD_self (shp_of (n := 1) (by simp only [D.layB]; exact lay_strs h) (by decide))
theorem forL_okE {β : Type} {t : T} {f : List Sl → Option Out} {k : Out → Option β} {P : Option β → Prop} (I : List Sl → Prop) : ∀ {ds : List D} {σ : List Sl}, I σ →
    (∀ d ∈ ds, ∀ σ, I σ → ∃ σ1 σ2, setT t d σ = some σ1 ∧ f σ1 = some (.nx σ2) ∧ I σ2) → (∀ σ', I σ' → P (k (.nx σ'))) → P ((forL t f ds σ).bind k)
  | [], σ, h, _, hk => by simpa using hk σ h
  | d :: ds, σ, h, hs, hk => by
    obtain ⟨σ1, σ2, h1, h2, h3⟩ := hs d List.mem_cons_self σ h
    have ih := forL_okE I (ds := ds) h3 (fun d' hd => hs d' (List.mem_cons_of_mem _ hd)) hk
    rw [forL_cons, h1]
    simp only [bind_someX, h2, turnO_nx]
    exact ih
def IsI (o : Option D) : Prop := ∃ z, o = some (.int z)
theorem fmodp (a b : Int) (h : 0 < b) : 0 ≤ a.fmod b ∧ a.fmod b < b := by
  rw [Int.fmod_eq_emod_of_nonneg _ (by omega)]
  exact ⟨Int.emod_nonneg _ (by omega), Int.emod_lt_of_pos _ h⟩
theorem fdivp (a b : Int) (ha : 0 ≤ a) (h : 0 < b) : 0 ≤ a.fdiv b ∧ a.fdiv b ≤ a := by
  rw [Int.fdiv_eq_ediv_of_nonneg _ (by omega)]
  exact ⟨Int.ediv_nonneg ha (by omega), Int.ediv_le_self b ha⟩
/-- digits below their sizes -/
def Dg : List Int → List Int → Prop
  | [], [] => True
  | d :: ds, s :: ss => (0 ≤ d ∧ d < s) ∧ Dg ds ss
  | _, _ => False
theorem Dg.snoc : ∀ {ds ss : List Int} {d s : Int}, Dg ds ss → 0 ≤ d → d < s → Dg (ds ++ [d]) (ss ++ [s])
  | [], [], d, s, _, h1, h2 => ⟨⟨h1, h2⟩, trivial⟩
  | [], _ :: _, _, _, h, _, _ => h.elim
  | _ :: _, [], _, _, h, _, _ => h.elim
  | a :: ds, b :: ss, d, s, h, h1, h2 => ⟨h.1, Dg.snoc h.2 h1 h2⟩
theorem Dg.len : ∀ {ds ss : List Int}, Dg ds ss → ds.length = ss.length
  | [], [], _ => rfl
  | [], _ :: _, h => h.elim
  | _ :: _, [], h => h.elim
  | a :: ds, b :: ss, h => by simp [Dg.len h.2]
theorem take_snoc {ss : List Int} {i : Nat} {s : Int} (h : ss[i]? = some s) : ss.take (i + 1) = ss.take i ++ [s] := by
  rw [List.take_add_one, h]; rfl
theorem atI_in {α : Type} {xs : List α} {i : Int} (h0 : 0 ≤ i) (h1 : i < xs.length) : ∃ x, atI xs i = some x ∧ x ∈ xs := by
  have : i.toNat < xs.length := by omega
  exact ⟨xs[i.toNat], atI_of h0 (by simp [this]), List.getElem_mem this⟩
def pick {α : Type} [Inhabited α] (menu : List α) (z : Int) : α := menu.getD (z.fmod menu.length).toNat default
theorem pick_at {α : Type} [Inhabited α] {menu : List α} (h : menu ≠ []) (z : Int) : atI menu (z.fmod menu.length) = some (pick menu z) ∧ pick menu z ∈ menu := by
  have hp : 0 < menu.length := List.length_pos_iff.mpr h
  obtain ⟨a, b⟩ := fmodp z menu.length (by omega)
  have hb : (z.fmod menu.length).toNat < menu.length := by omega
  have e : menu[(z.fmod menu.length).toNat]? = some (pick menu z) := by
    unfold pick
    rw [List.getD_eq_getElem?_getD, List.getElem?_eq_getElem hb]
    rfl
  exact ⟨atI_of a e, List.mem_of_getElem? e⟩
theorem pick_w {α : Type} [Inhabited α] {menu : List α} {w : Int} (hw : (menu.length : Int) = w) (h0 : 0 < w) (z : Int) : atI menu (z.fmod w) = some (pick menu z) ∧ pick menu z ∈ menu := by
  rw [← hw]
  exact pick_at (by rintro rfl; simp at hw; omega) z
theorem cut_to {α : Type} (xs : List α) (k : Int) (h0 : 0 ≤ k) : cutD xs none (some k) = xs.take k.toNat := by
  obtain ⟨n, rfl⟩ := Int.eq_ofNat_of_zero_le h0
  unfold cutD
  rw [HT.sIx_none, HT.sIx_nat, Nat.sub_zero, List.drop_zero]
  by_cases h : n ≤ xs.length
  · rw [Nat.min_eq_left h]; rfl
  · rw [Nat.min_eq_right (by omega), List.take_length]
    exact (List.take_of_length_le (by simp; omega)).symm
theorem cut_from {α : Type} (xs : List α) (k : Int) (h0 : 0 ≤ k) : cutD xs (some k) none = xs.drop k.toNat := by
  obtain ⟨n, rfl⟩ := Int.eq_ofNat_of_zero_le h0
  unfold cutD
  rw [HT.sIx_none, HT.sIx_nat]
  by_cases h : n ≤ xs.length
  · rw [Nat.min_eq_left h]
    exact List.take_of_length_le (by simp)
  · rw [Nat.min_eq_right (by omega)]
    simp
    omega
theorem cut_mid {α : Type} (xs : List α) (a b : Int) (h0 : 0 ≤ a) (h1 : 0 ≤ b) : cutD xs (some a) (some b) = (xs.drop a.toNat).take (b.toNat - a.toNat) := by
  obtain ⟨n, rfl⟩ := Int.eq_ofNat_of_zero_le h0
  obtain ⟨m, rfl⟩ := Int.eq_ofNat_of_zero_le h1
  unfold cutD
  rw [HT.sIx_nat, HT.sIx_nat]
  simp only [Int.toNat_natCast]
  by_cases h : n ≤ xs.length
  · rw [Nat.min_eq_left h]
    by_cases h' : m ≤ xs.length
    · rw [Nat.min_eq_left h']
    · rw [Nat.min_eq_right (by omega)]
      rw [List.take_of_length_le (by simp), List.take_of_length_le (by simp; omega)]
  · rw [Nat.min_eq_right (by omega : xs.length ≤ n)]
    rw [List.drop_of_length_le (Nat.le_refl _), List.drop_of_length_le (by omega)]
    simp
theorem nodup_of_inj {α β : Type} (f : α → β) : ∀ {l : List α}, l.Nodup → (∀ a ∈ l, ∀ b ∈ l, f a = f b → a = b) → (l.map f).Nodup
  | [], _, _ => List.nodup_nil
  | a :: l, h, hf => by
    rw [List.nodup_cons] at h
    rw [List.map_cons, List.nodup_cons]
    refine ⟨?_, nodup_of_inj f h.2 fun x hx y hy => hf x (List.mem_cons_of_mem _ hx) y (List.mem_cons_of_mem _ hy)⟩
    intro hm
    obtain ⟨b, hb, e⟩ := List.mem_map.mp hm
    have := hf a List.mem_cons_self b (List.mem_cons_of_mem _ hb) e.symm
    rw [this] at h
    exact h.1 hb
theorem nodup_range {β : Type} (f : Nat → β) (n : Nat) (hf : ∀ a, a < n → ∀ b, b < n → f a = f b → a = b) : ((List.range n).map f).Nodup :=
  nodup_of_inj f List.nodup_range fun a ha b hb => hf a (List.mem_range.mp ha) b (List.mem_range.mp hb)
theorem atG (ds : List Int) (k : Nat) (h : k < ds.length) : atI (ds.map D.int) ((k : Nat) : Int) = some (.int (ds.getD k 0)) := by
  refine atI_nat ?_
  rw [List.getElem?_map, List.getD_eq_getElem?_getD, List.getElem?_eq_getElem h]
  rfl
theorem join_signsC (f : Nat → Nat) (n : Nat) (h : n ≤ 1000) : joinD (.str []) (.lst ((List.range n).map fun k => D.str [f k])) = some (.str ((List.range n).map f)) := join_signs f (List.range n) (by simp; omega)
/-- the comprehension over range(many) -/
theorem lcL_names {c e : List Sl → Option D} {σ : List Sl} {i : Nat} {many : Nat} (g : Nat → List Nat) (h : ∀ k, k < many → (c (σ.set i (.v (.int (k : Nat))))).bind truth = some true ∧ e (σ.set i (.v (.int (k : Nat)))) = some (.str (g k))) :
    lcL (.nm i) c e σ (rngD 0 many) = some (((List.range many).map g).map D.str) := by
  rw [lcL_rng (fun k => D.str (g k)) h, List.map_map]
  rfl
theorem fmE (z w : Int) (h : 0 < w) : z.fmod w = z % w := Int.fmod_eq_emod_of_nonneg z (by omega)
theorem pick_inj {α : Type} [Inhabited α] {menu : List α} {w : Nat} (hw : menu.length = w) (hinj : ∀ i j : Fin w, menu[i.val]? = menu[j.val]? → i = j) (hw0 : 0 < w) {x y : Int} (h : pick menu x = pick menu y) : x.fmod w = y.fmod w := by
  obtain ⟨a0, a1⟩ := fmodp x w (by omega)
  obtain ⟨b0, b1⟩ := fmodp y w (by omega)
  unfold pick at h
  rw [hw] at h
  have ha : (x.fmod w).toNat < menu.length := by omega
  have hb : (y.fmod w).toNat < menu.length := by omega
  rw [List.getD_eq_getElem?_getD, List.getD_eq_getElem?_getD, List.getElem?_eq_getElem ha, List.getElem?_eq_getElem hb] at h
  simp only [Option.getD_some] at h
  have := hinj ⟨(x.fmod w).toNat, by omega⟩ ⟨(y.fmod w).toNat, by omega⟩ (by simp only [List.getElem?_eq_getElem ha, List.getElem?_eq_getElem hb, h])
  have := congrArg Fin.val this
  simp only at this
  omega
theorem allInts_map (ds : List Int) : allInts (ds.map D.int) = some ds := by
  induction ds with
  | nil => rfl
  | cons a r ih => simp [allInts, ih]
theorem cutS_to (w : List Nat) (k : Nat) : cutD w none (some (k : Int)) = w.take k := by
  have := cut_to w (k : Int) (by omega)
  simpa using this
theorem cutS_from (w : List Nat) (k : Nat) : cutD w (some (k : Int)) none = w.drop k := by
  have := cut_from w (k : Int) (by omega)
  simpa using this
theorem atI_lit {α : Type} (xs : List α) (k : Nat) : atI xs (no_index (OfNat.ofNat k) : Int) = xs[k]? := by
  have e : (OfNat.ofNat k : Int) = (k : Int) := rfl
  rw [e]
  cases h : xs[k]? with
  | none =>
    have hk : xs.length ≤ k := List.getElem?_eq_none_iff.mp h
    unfold atI ixN
    rw [if_pos (by omega), if_neg (by omega)]
    rfl
  | some x => exact atI_nat h
theorem Dg.get : ∀ {ds ss : List Int} {k : Nat} {s : Int}, Dg ds ss → ss[k]? = some s → ∃ d, ds[k]? = some d ∧ 0 ≤ d ∧ d < s
  | [], [], _, _, _, h => by simp at h
  | [], _ :: _, _, _, h, _ => h.elim
  | _ :: _, [], _, _, h, _ => h.elim
  | d :: ds, s :: ss, 0, _, h, e => by
    simp at e
    subst e
    exact ⟨d, rfl, h.1⟩
  | d :: ds, s :: ss, k + 1, _, h, e => by
    simp at e
    obtain ⟨d', a, b⟩ := Dg.get h.2 e
    exact ⟨d', by simpa using a, b⟩
theorem lcL_ints {c e : List Sl → Option D} {σ : List Sl} {i : Nat} {many : Nat} (g : Nat → Int) (h : ∀ k, k < many → (c (σ.set i (.v (.int (k : Nat))))).bind truth = some true ∧ e (σ.set i (.v (.int (k : Nat)))) = some (.int (g k))) :
    lcL (.nm i) c e σ (rngD 0 many) = some (((List.range many).map g).map D.int) := by
  rw [lcL_rng (fun k => D.int (g k)) h, List.map_map]
  rfl
theorem fil1 (a : Nat) : ∀ l : List Nat, l.Nodup → l.length ≤ (l.filter fun x => !(x == a)).length + 1
  | [], _ => by simp
  | x :: l, h => by
    rw [List.nodup_cons] at h
    by_cases e : x = a
    · subst e
      have : (l.filter fun y => !(y == x)) = l := by
        rw [List.filter_eq_self]
        intro y hy
        simp
        rintro rfl
        exact h.1 hy
      rw [List.filter_cons_of_neg (by simp), this]
      simp
    · rw [List.filter_cons_of_pos (by simp [e])]
      have := fil1 a l h.2
      simp only [List.length_cons]
      omega
theorem fil3 (a b c : Nat) (l : List Nat) (h : l.Nodup) : l.length ≤ (l.filter fun x => !decide (x ∈ [a, b, c])).length + 3 := by
  have h1 := fil1 a l h
  have n1 : (l.filter fun x => !(x == a)).Nodup := h.filter _
  have h2 := fil1 b _ n1
  have n2 : ((l.filter fun x => !(x == a)).filter fun x => !(x == b)).Nodup := n1.filter _
  have h3 := fil1 c _ n2
  rw [List.filter_filter, List.filter_filter] at h3
  have e : (l.filter fun x => !decide (x ∈ [a, b, c])) = (l.filter fun x => !(x == c) && (!(x == b) && !(x == a))) := by
    congr 1
    funext x
    simp only [List.mem_cons, List.not_mem_nil, or_false]
    by_cases ha : x = a <;> by_cases hb : x = b <;> by_cases hc : x = c <;> simp [ha, hb, hc]
  rw [e]
  simp only [List.filter_filter] at h2
  omega
theorem dlook_none {ks vs : List D} {x : List Nat} (h : ∀ k ∈ ks, ∃ y, k = .str y ∧ y ≠ x) : dlook ks vs (.inr (mkS x)) = none := by
  induction ks generalizing vs with
  | nil => simp [dlook]
  | cons k ks ih =>
    cases vs with
    | nil => simp [dlook]
    | cons v vs =>
      obtain ⟨y, rfl, hy⟩ := h k List.mem_cons_self
      have : ¬ D.key (.str y) = some (.inr (mkS x)) := by
        simp only [D.key]
        intro z
        have := Sum.inr.inj (Option.some.inj z)
        exact hy (mkS_eq.mp this)
      simp only [dlook, if_neg this]
      exact ih fun k hk => h k (List.mem_cons_of_mem _ hk)
theorem hasK_none {ks : List D} {x : List Nat} (h : ∀ k ∈ ks, ∃ y, k = .str y ∧ y ≠ x) : hasK ks (.inr (mkS x)) = false := by
  unfold hasK
  rw [List.any_eq_false]
  intro k hk
  obtain ⟨y, rfl, hy⟩ := h k hk
  intro z
  exact hy (mkS_eq.mp (Sum.inr.inj (Option.some.inj (of_decide_eq_true z))))
theorem forL_ex {t : T} {f : List Sl → Option Out} (I : List Sl → Prop) {ds : List D} {σ : List Sl} (h : I σ) (hs : ∀ d ∈ ds, ∀ σ, I σ → ∃ σ1 σ2, setT t d σ = some σ1 ∧ f σ1 = some (.nx σ2) ∧ I σ2) : ∃ σ', forL t f ds σ = some (.nx σ') ∧ I σ' := by
  induction ds generalizing σ with
  | nil => exact ⟨σ, rfl, h⟩
  | cons d ds ih =>
    obtain ⟨σ1, σ2, h1, h2, h3⟩ := hs d List.mem_cons_self σ h
    obtain ⟨σ', h4, h5⟩ := ih h3 fun d' hd => hs d' (List.mem_cons_of_mem _ hd)
    refine ⟨σ', ?_, h5⟩
    rw [forL_cons, h1]
    simp only [bind_someX, h2, turnO_nx]
    exact h4
end Pv

set_option Elab.async false
set_option linter.all false
set_option maxRecDepth 100000
set_option maxHeartbeats 4000000
namespace K00
open PySem L2 Pv
def top (i : Nat) : Stmt := PySem.Challenge.pw_stampsheets_k00_layers_judged.main.body.getD i (.Pass ⟨0, 0, 0, 0⟩)
def mtd (i j : Nat) : Stmt := match top i with | .ClassDef _ _ _ b _ _ _ _ _ _ _ => b.getD j (.Pass ⟨0, 0, 0, 0⟩) | _ => .Pass ⟨0, 0, 0, 0⟩
def blts : List Str := ["bool", "enumerate", "int", "isinstance", "len", "list", "max", "range", "str", "tuple"]
def cval : Nat → Option D
  | 0 => some (.str [45, 46, 97, 98, 99, 100, 101, 102, 103, 104, 105, 106, 107, 108, 109, 110, 111, 112, 113, 114, 115, 116, 117, 118, 119, 120, 121, 122])
  | 1 => some (.int 30)
  | 2 => some (.str [97, 98, 99, 100, 101, 102, 103, 104, 105, 106, 107, 108, 109, 110, 111, 112, 113, 114, 115, 116, 117, 118, 119, 120, 121, 122])
  | 3 => some (.str [48, 49, 50, 51, 52, 53, 54, 55, 56, 57])
  | 4 => some (.int 8)
  | _ => none
/-! ### _law_cell -/
abbrev s_L_cell : Stmt := top 23
def N_L_cell : List Str := ["_law_script", "_law_k", "_law_seed", "_law_cell_here"]
def ir_L_cell : List S := [.ifs (.cmp .lt (.v 1) (.blt .len [.v 0])) [.ret (.ix (.v 0) (.v 1))] [],
    .asg (.nm 2) (.c (.int 17)),
    .for_ (.nm 3) (.seq (.v 0)) [.asg (.nm 2) (.bin .mod (.blt .int [.bin .add (.bin .mul (.v 2) (.c (.int 31))) (.bin .mod (.blt .int [.v 3]) (.c (.int 1000003)))]) (.c (.int 1000003)))],
    .ret (.bin .mod (.blt .int [.bin .mul (.bin .mul (.bin .add (.v 2) (.c (.int 7))) (.bin .add (.v 1) (.c (.int 3)))) (.c (.int 69621))]) (.c (.int 2147483647)))]
def T_L_cell : Nat → List D → Option D := fun _ _ => none
def Z_L_cell : Sm := { F := T_L_cell, C := cval, L := [], M := [], P := [], K := [] }
def Y_L_cell : Stat := { N := N_L_cell, Z := Z_L_cell, fns := [], cns := [], bl := blts, gcd := false, lv := 0, kws := [], mks := [] }
def F_L_cell (ds : List D) : Option D := evF Z_L_cell ir_L_cell 2 4 ds
theorem ck_L_cell : ckSs Y_L_cell ir_L_cell (defScope s_L_cell) (fun _ => true) (defBody s_L_cell) = true := by decide +kernel
theorem sc_L_cell : FnScope N_L_cell ["_law_script", "_law_k"] (defScope s_L_cell) := ⟨rfl, rfl, rfl, by decide +kernel, rfl, by decide +kernel, by decide +kernel⟩
/-! ### _law_draw -/
abbrev s_L_draw : Stmt := top 24
def N_L_draw : List Str := ["_law_script", "_law_k", "_law_sizes", "_law_out", "_law_rest", "_law_seed", "_law_spot", "_law_base", "_law_twice"]
def ir_L_draw : List S := [.own 3 [],
    .asg (.nm 4) (.blt .int [.call 24 [.v 0, .v 1]]),
    .ifs (.cmp .ge (.v 4) (.bin .pow (.c (.int 10)) (.c (.int 18)))) [.asg (.nm 4) (.bin .sub (.v 4) (.bin .pow (.c (.int 10)) (.c (.int 18)))), .for_ (.nm 7) (.seq (.v 2)) [.app 3 (.bin .mod (.blt .int [.v 4]) (.v 7)), .asg (.nm 4) (.bin .fdiv (.blt .int [.v 4]) (.v 7))], .frz 3, .ret (.v 3)] [],
    .asg (.nm 5) (.bin .mod (.blt .int [.bin .add (.v 4) (.bin .mul (.c (.int 7919)) (.v 1))]) (.c (.int 2147483629))),
    .for_ (.nm 6) (.r1 (.blt .len [.v 2])) [.asg (.nm 5) (.bin .mod (.blt .int [.bin .add (.bin .add (.bin .mul (.v 5) (.c (.int 48271))) (.bin .mul (.c (.int 974711)) (.v 6))) (.c (.int 12345))]) (.c (.int 2147483647))), .asg (.nm 8) (.bin .mod (.blt .int [.bin .mul (.v 5) (.bin .add (.bin .fdiv (.v 5) (.c (.int 65537))) (.c (.int 3)))]) (.c (.int 2147483629))), .app 3 (.bin .mod (.bin .fdiv (.v 8) (.c (.int 19))) (.ix (.v 2) (.v 6)))],
    .frz 3,
    .ret (.v 3)]
def T_L_draw : Nat → List D → Option D
  | 24 => F_L_cell
  | _ => fun _ => none
def Z_L_draw : Sm := { F := T_L_draw, C := cval, L := [], M := [], P := [], K := [] }
def Y_L_draw : Stat := { N := N_L_draw, Z := Z_L_draw, fns := [(24, "_law_cell")], cns := [], bl := blts, gcd := false, lv := 1, kws := [], mks := [] }
def F_L_draw (ds : List D) : Option D := evF Z_L_draw ir_L_draw 3 9 ds
theorem ck_L_draw : ckSs Y_L_draw ir_L_draw (defScope s_L_draw) (fun _ => true) (defBody s_L_draw) = true := by decide +kernel
theorem sc_L_draw : FnScope N_L_draw ["_law_script", "_law_k", "_law_sizes"] (defScope s_L_draw) := ⟨rfl, rfl, rfl, by decide +kernel, rfl, by decide +kernel, by decide +kernel⟩
/-! ### _law_layer -/
abbrev s_L_layer : Stmt := top 26
def N_L_layer : List Str := ["_law_inks_here", "_law_share", "_law_spots", "_law_wide", "_law_text", "_law_k"]
def ir_L_layer : List S := [.asg (.nm 4) (.c (.str [])),
    .for_ (.nm 5) (.r1 (.v 3)) [.asg (.nm 4) (.bin .add (.v 4) (.ix (.lst [.c (.str [45]), .ix (.v 0) (.bin .mod (.bin .fdiv (.blt .int [.ix (.v 2) (.v 5)]) (.c (.int 4))) (.blt .len [.v 0]))]) (.blt .int [.cmp .ge (.bin .mod (.blt .int [.ix (.v 2) (.v 5)]) (.c (.int 4))) (.v 1)])))],
    .ret (.v 4)]
def T_L_layer : Nat → List D → Option D := fun _ _ => none
def Z_L_layer : Sm := { F := T_L_layer, C := cval, L := [], M := [], P := [], K := [] }
def Y_L_layer : Stat := { N := N_L_layer, Z := Z_L_layer, fns := [], cns := [], bl := blts, gcd := false, lv := 0, kws := [], mks := [] }
def F_L_layer (ds : List D) : Option D := evF Z_L_layer ir_L_layer 4 6 ds
theorem ck_L_layer : ckSs Y_L_layer ir_L_layer (defScope s_L_layer) (fun _ => true) (defBody s_L_layer) = true := by decide +kernel
theorem sc_L_layer : FnScope N_L_layer ["_law_inks_here", "_law_share", "_law_spots", "_law_wide"] (defScope s_L_layer) := ⟨rfl, rfl, rfl, by decide +kernel, rfl, by decide +kernel, by decide +kernel⟩
/-! ### _law_inks -/
abbrev s_L_inks : Stmt := top 25
def N_L_inks : List Str := ["_law_spots", "_law_alls", "_law_first", "_law_second", "_law_third"]
def ir_L_inks : List S := [.asg (.nm 1) (.c (.str [46, 97, 98, 99, 100, 101, 102, 103, 104, 105, 106, 107, 108, 109, 110, 111, 112, 113, 114, 115, 116, 117, 118, 119, 120, 121, 122])),
    .ifs (.cmp .eq (.ix (.v 0) (.c (.int 0))) (.c (.int 0))) [.ret (.v 1)] [],
    .asg (.nm 2) (.bin .mul (.blt .int [.ix (.v 0) (.c (.int 2))]) (.blt .int [.cmp .lt (.ix (.v 0) (.c (.int 1))) (.c (.int 2))])),
    .asg (.nm 3) (.bin .mod (.bin .add (.bin .add (.v 2) (.c (.int 1))) (.blt .int [.ix (.v 0) (.c (.int 3))])) (.c (.int 27))),
    .asg (.nm 4) (.bin .mod (.bin .add (.bin .add (.v 2) (.c (.int 1))) (.blt .int [.ix (.v 0) (.c (.int 4))])) (.c (.int 27))),
    .ifs (.cmp .eq (.v 4) (.v 3)) [.asg (.nm 4) (.bin .mod (.bin .add (.v 2) (.c (.int 26))) (.c (.int 27)))] [],
    .ret (.sl (.bin .add (.bin .add (.ix (.v 1) (.v 2)) (.ix (.v 1) (.v 3))) (.ix (.v 1) (.v 4))) .nil (.last (.ix (.lst [.c (.int 3), .c (.int 3), .c (.int 3), .c (.int 2)]) (.ix (.v 0) (.c (.int 0))))))]
def T_L_inks : Nat → List D → Option D := fun _ _ => none
def Z_L_inks : Sm := { F := T_L_inks, C := cval, L := [], M := [], P := [], K := [] }
def Y_L_inks : Stat := { N := N_L_inks, Z := Z_L_inks, fns := [], cns := [], bl := blts, gcd := false, lv := 0, kws := [], mks := [] }
def F_L_inks (ds : List D) : Option D := evF Z_L_inks ir_L_inks 1 5 ds
theorem ck_L_inks : ckSs Y_L_inks ir_L_inks (defScope s_L_inks) (fun _ => true) (defBody s_L_inks) = true := by decide +kernel
theorem sc_L_inks : FnScope N_L_inks ["_law_spots"] (defScope s_L_inks) := ⟨rfl, rfl, rfl, by decide +kernel, rfl, by decide +kernel, by decide +kernel⟩
/-! ### _law_value -/
abbrev s_L_value : Stmt := top 27
def N_L_value : List Str := ["_law_cell_here", "_law_spots", "_law_length", "_law_text", "_law_signs", "_law_place", "_law_other", "_law_kind", "_law_sign", "_law_k"]
def ir_L_value : List S := [.asg (.nm 2) (.ix (.lst [.blt .int [.ix (.v 1) (.c (.int 1))], .c (.int 0), .c (.int 1), .c (.int 30), .c (.int 31), .c (.int 30), .c (.int 31)]) (.blt .max [.c (.int 0), .bin .sub (.ix (.v 1) (.c (.int 1))) (.c (.int 33))])),
    .asg (.nm 3) (.call 27 [.call 26 [.bin .add (.lst [.ix (.v 1) (.c (.int 2)), .c (.int 0)]) (.sl (.v 1) (.last (.c (.int 3))) (.last (.c (.int 6))))], .ix (.lst [.c (.int 0), .c (.int 1), .c (.int 2), .c (.int 3), .c (.int 4), .c (.int 0)]) (.ix (.v 1) (.c (.int 6))), .sl (.v 1) (.last (.c (.int 11))) .nil, .v 2]),
    .asg (.nm 4) (.c (.str [32, 33, 34, 35, 36, 38, 39, 40, 41, 42, 43, 44, 45, 46, 47, 48, 49, 50, 51, 52, 53, 54, 55, 56, 57, 58, 59, 60, 61, 62, 63, 64, 65, 66, 67, 68, 69, 70, 71, 72, 73, 74, 75, 76, 77, 78, 79, 80, 81, 82, 83, 84, 85, 86, 87, 88, 89, 90, 91, 92, 93, 94, 95, 96, 97, 98, 99, 100, 101, 102, 103, 104, 105, 106, 107, 108, 109, 110, 111, 112, 113, 114, 115, 116, 117, 118, 119, 120, 121, 122, 123, 124, 125, 126, 10])),
    .asg (.nm 4) (.bin .add (.v 4) (.c (.str [10, 32, 65, 95, 57, 43, 10, 32, 45]))),
    .asg (.nm 5) (.bin .mod (.blt .int [.ix (.v 1) (.c (.int 7))]) (.blt .max [.c (.int 1), .v 2])),
    .asg (.nm 6) (.bin .mod (.blt .int [.ix (.v 1) (.c (.int 9))]) (.blt .max [.c (.int 1), .v 2])),
    .asg (.nm 7) (.ix (.v 1) (.c (.int 0))),
    .ifs (.or (.cmp .eq (.v 7) (.c (.int 3))) (.last (.cmp .eq (.v 7) (.c (.int 4))))) [.asg (.nm 3) (.bin .add (.bin .add (.sl (.v 3) .nil (.last (.v 5))) (.ix (.v 4) (.ix (.v 1) (.c (.int 8))))) (.sl (.v 3) (.last (.bin .add (.v 5) (.c (.int 1)))) .nil))] [],
    .ifs (.cmp .eq (.v 7) (.c (.int 4))) [.asg (.nm 3) (.bin .add (.bin .add (.sl (.v 3) .nil (.last (.v 6))) (.ix (.v 4) (.ix (.v 1) (.c (.int 10))))) (.sl (.v 3) (.last (.bin .add (.v 6) (.c (.int 1)))) .nil))] [],
    .ifs (.cmp .eq (.v 7) (.c (.int 5))) [.asg (.nm 3) (.ix (.lst [.bin .add (.v 3) (.ix (.v 4) (.ix (.v 1) (.c (.int 8)))), .bin .add (.ix (.v 4) (.ix (.v 1) (.c (.int 8)))) (.v 3)]) (.bin .mod (.ix (.v 1) (.c (.int 9))) (.c (.int 2))))] [],
    .ifs (.cmp .eq (.v 7) (.c (.int 6))) [.asg (.nm 3) (.join (.c (.str [])) (.lc [("_law_k", 9)] (.nm 9) (.r1 (.v 2)) (.c (.bl true)) (.ix (.v 4) (.bin .mod (.blt .int [.ix (.v 1) (.bin .add (.c (.int 11)) (.v 9))]) (.c (.int 95))))))] [],
    .ifs (.cmp .eq (.v 7) (.c (.int 7))) [.asg (.nm 3) (.bin .add (.bin .add (.sl (.v 3) .nil (.last (.v 5))) (.ix (.lst [.c (.str [45]), .c (.str [122]), .c (.str [46])]) (.bin .mod (.ix (.v 1) (.c (.int 9))) (.c (.int 3))))) (.sl (.v 3) (.last (.bin .add (.v 5) (.c (.int 1)))) .nil))] [],
    .ifs (.cmp .eq (.v 7) (.c (.int 8))) [.ret (.ix (.lst [.blt .int [.v 0], .neg (.v 2), .v 2]) (.bin .mod (.ix (.v 1) (.c (.int 7))) (.c (.int 3))))] [],
    .ifs (.cmp .eq (.v 7) (.c (.int 9))) [.ret (.ix (.lst [.c .non, .c (.bl true), .c (.bl false)]) (.bin .mod (.ix (.v 1) (.c (.int 7))) (.c (.int 3))))] [],
    .ifs (.cmp .eq (.v 7) (.c (.int 10))) [.ret (.lc [("_law_sign", 8)] (.nm 8) (.seq (.v 3)) (.c (.bl true)) (.v 8))] [],
    .ifs (.cmp .eq (.v 7) (.c (.int 11))) [.ret (.blt .tuple [.lc [("_law_sign", 8)] (.nm 8) (.seq (.v 3)) (.c (.bl true)) (.v 8)])] [],
    .ifs (.cmp .eq (.v 7) (.c (.int 12))) [.ret (.ix (.lst [.dct [], .dct [.v 3, .v 3], .dct [.c (.str [97]), .v 5, .c (.str [46]), .v 3]]) (.bin .mod (.ix (.v 1) (.c (.int 7))) (.c (.int 3))))] [],
    .ifs (.cmp .eq (.v 7) (.c (.int 13))) [.ret (.ix (.lst [.lst [.v 3], .tup [.v 3], .lst [], .tup []]) (.bin .mod (.ix (.v 1) (.c (.int 7))) (.c (.int 4))))] [],
    .ifs (.cmp .eq (.v 7) (.c (.int 14))) [.ret (.ix (.lst [.lst [.lst [.v 3], .v 3], .tup [.v 3, .tup [.c .non, .lst [.v 3]]], .lst [.v 5, .v 3]]) (.bin .mod (.ix (.v 1) (.c (.int 7))) (.c (.int 3))))] [],
    .ret (.v 3)]
def T_L_value : Nat → List D → Option D
  | 26 => F_L_inks
  | 27 => F_L_layer
  | _ => fun _ => none
def Z_L_value : Sm := { F := T_L_value, C := cval, L := [], M := [], P := [], K := [] }
def Y_L_value : Stat := { N := N_L_value, Z := Z_L_value, fns := [(26, "_law_inks"), (27, "_law_layer")], cns := [], bl := blts, gcd := false, lv := 1, kws := [], mks := [] }
def F_L_value (ds : List D) : Option D := evF Z_L_value ir_L_value 2 10 ds
theorem ck_L_value : ckSs Y_L_value ir_L_value (defScope s_L_value) (fun _ => true) (defBody s_L_value) = true := by decide +kernel
theorem sc_L_value : FnScope N_L_value ["_law_cell_here", "_law_spots"] (defScope s_L_value) := ⟨rfl, rfl, rfl, by decide +kernel, rfl, by decide +kernel, by decide +kernel⟩
/-! ### _law_name -/
abbrev s_L_name : Stmt := top 28
def N_L_name : List Str := ["_law_spots", "_law_signs", "_law_k"]
def ir_L_name : List S := [.asg (.nm 1) (.c (.str [97, 98, 99, 100, 101, 102, 103, 104, 105, 106, 107, 108, 109, 110, 111, 112, 113, 114, 115, 116, 117, 118, 119, 120, 121, 122, 48, 49, 50, 51, 52, 53, 54, 55, 56, 57])),
    .ret (.join (.c (.str [])) (.lc [("_law_k", 2)] (.nm 2) (.r1 (.bin .add (.blt .int [.ix (.v 0) (.c (.int 0))]) (.c (.int 1)))) (.c (.bl true)) (.ix (.v 1) (.blt .int [.ix (.v 0) (.bin .add (.c (.int 1)) (.v 2))]))))]
def T_L_name : Nat → List D → Option D := fun _ _ => none
def Z_L_name : Sm := { F := T_L_name, C := cval, L := [], M := [], P := [], K := [] }
def Y_L_name : Stat := { N := N_L_name, Z := Z_L_name, fns := [], cns := [], bl := blts, gcd := false, lv := 0, kws := [], mks := [] }
def F_L_name (ds : List D) : Option D := evF Z_L_name ir_L_name 1 3 ds
theorem ck_L_name : ckSs Y_L_name ir_L_name (defScope s_L_name) (fun _ => true) (defBody s_L_name) = true := by decide +kernel
theorem sc_L_name : FnScope N_L_name ["_law_spots"] (defScope s_L_name) := ⟨rfl, rfl, rfl, by decide +kernel, rfl, by decide +kernel, by decide +kernel⟩
/-! ### _law_word -/
abbrev s_L_word : Stmt := top 29
def N_L_word : List Str := ["_law_cell_here", "_law_spots", "_law_signs", "_law_text", "_law_place", "_law_other", "_law_kind", "_law_sign", "_law_digit"]
def ir_L_word : List S := [.asg (.nm 2) (.c (.str [32, 33, 34, 35, 36, 38, 39, 40, 41, 42, 43, 44, 45, 46, 47, 48, 49, 50, 51, 52, 53, 54, 55, 56, 57, 58, 59, 60, 61, 62, 63, 64, 65, 66, 67, 68, 69, 70, 71, 72, 73, 74, 75, 76, 77, 78, 79, 80, 81, 82, 83, 84, 85, 86, 87, 88, 89, 90, 91, 92, 93, 94, 95, 96, 97, 98, 99, 100, 101, 102, 103, 104, 105, 106, 107, 108, 109, 110, 111, 112, 113, 114, 115, 116, 117, 118, 119, 120, 121, 122, 123, 124, 125, 126, 10])),
    .asg (.nm 2) (.bin .add (.v 2) (.c (.str [10, 32, 65, 95, 57, 45, 10, 32, 45]))),
    .asg (.nm 3) (.call 29 [.sl (.v 1) (.last (.c (.int 1))) .nil]),
    .asg (.nm 4) (.bin .mod (.ix (.v 1) (.c (.int 10))) (.blt .len [.v 3])),
    .asg (.nm 5) (.bin .mod (.ix (.v 1) (.c (.int 12))) (.blt .len [.v 3])),
    .asg (.nm 6) (.ix (.v 1) (.c (.int 0))),
    .ifs (.or (.cmp .eq (.v 6) (.c (.int 3))) (.last (.cmp .eq (.v 6) (.c (.int 4))))) [.asg (.nm 3) (.bin .add (.bin .add (.sl (.v 3) .nil (.last (.v 4))) (.ix (.v 2) (.ix (.v 1) (.c (.int 11))))) (.sl (.v 3) (.last (.bin .add (.v 4) (.c (.int 1)))) .nil))] [],
    .ifs (.cmp .eq (.v 6) (.c (.int 4))) [.asg (.nm 3) (.bin .add (.bin .add (.sl (.v 3) .nil (.last (.v 5))) (.ix (.v 2) (.ix (.v 1) (.c (.int 13))))) (.sl (.v 3) (.last (.bin .add (.v 5) (.c (.int 1)))) .nil))] [],
    .ifs (.cmp .eq (.v 6) (.c (.int 5))) [.asg (.nm 3) (.ix (.lst [.bin .add (.v 3) (.ix (.v 2) (.ix (.v 1) (.c (.int 11)))), .bin .add (.ix (.v 2) (.ix (.v 1) (.c (.int 11)))) (.v 3)]) (.bin .mod (.ix (.v 1) (.c (.int 12))) (.c (.int 2))))] [],
    .ifs (.cmp .eq (.v 6) (.c (.int 6))) [.asg (.nm 3) (.join (.c (.str [])) (.lc [("_law_digit", 8)] (.nm 8) (.seq (.sl (.v 1) (.last (.c (.int 15))) (.last (.bin .add (.c (.int 15)) (.ix (.v 1) (.c (.int 14))))))) (.c (.bl true)) (.ix (.v 2) (.v 8))))] [],
    .ifs (.cmp .eq (.v 6) (.c (.int 7))) [.asg (.nm 3) (.sl (.bin .add (.bin .add (.v 3) (.v 3)) (.c (.str [97, 49, 98, 50, 99, 51, 100, 52]))) .nil (.last (.bin .add (.c (.int 8)) (.bin .mod (.ix (.v 1) (.c (.int 12))) (.c (.int 2))))))] [],
    .ifs (.cmp .eq (.v 6) (.c (.int 8))) [.asg (.nm 3) (.ix (.lst [.c (.str []), .bin .add (.blt .str [.ix (.v 1) (.c (.int 11))]) (.v 3), .u1 .upper (.v 3), .bin .add (.bin .add (.v 3) (.c (.str [32]))) (.v 3)]) (.bin .mod (.ix (.v 1) (.c (.int 12))) (.c (.int 4))))] [],
    .ifs (.cmp .eq (.v 6) (.c (.int 9))) [.ret (.ix (.lst [.blt .int [.v 0], .neg (.blt .len [.v 3]), .ix (.v 1) (.c (.int 11))]) (.bin .mod (.ix (.v 1) (.c (.int 12))) (.c (.int 3))))] [],
    .ifs (.cmp .eq (.v 6) (.c (.int 10))) [.ret (.ix (.lst [.c .non, .c (.bl true), .c (.bl false)]) (.bin .mod (.ix (.v 1) (.c (.int 12))) (.c (.int 3))))] [],
    .ifs (.cmp .eq (.v 6) (.c (.int 11))) [.ret (.lc [("_law_sign", 7)] (.nm 7) (.seq (.v 3)) (.c (.bl true)) (.v 7))] [],
    .ifs (.cmp .eq (.v 6) (.c (.int 12))) [.ret (.blt .tuple [.lc [("_law_sign", 7)] (.nm 7) (.seq (.v 3)) (.c (.bl true)) (.v 7)])] [],
    .ifs (.cmp .eq (.v 6) (.c (.int 13))) [.ret (.ix (.lst [.dct [], .dct [.v 3, .v 3], .dct [.c (.str [97]), .v 4, .c (.str [98]), .v 3]]) (.bin .mod (.ix (.v 1) (.c (.int 12))) (.c (.int 3))))] [],
    .ifs (.cmp .eq (.v 6) (.c (.int 14))) [.ret (.ix (.lst [.lst [.v 3], .tup [.v 3], .lst [], .tup []]) (.bin .mod (.ix (.v 1) (.c (.int 12))) (.c (.int 4))))] [],
    .ifs (.cmp .eq (.v 6) (.c (.int 15))) [.ret (.ix (.lst [.lst [.lst [.v 3], .v 3], .tup [.v 3, .tup [.c .non, .lst [.v 3]]], .lst [.v 4, .v 3]]) (.bin .mod (.ix (.v 1) (.c (.int 12))) (.c (.int 3))))] [],
    .ret (.v 3)]
def T_L_word : Nat → List D → Option D
  | 29 => F_L_name
  | _ => fun _ => none
def Z_L_word : Sm := { F := T_L_word, C := cval, L := [], M := [], P := [], K := [] }
def Y_L_word : Stat := { N := N_L_word, Z := Z_L_word, fns := [(29, "_law_name")], cns := [], bl := blts, gcd := false, lv := 1, kws := [], mks := [] }
def F_L_word (ds : List D) : Option D := evF Z_L_word ir_L_word 2 9 ds
theorem ck_L_word : ckSs Y_L_word ir_L_word (defScope s_L_word) (fun _ => true) (defBody s_L_word) = true := by decide +kernel
theorem sc_L_word : FnScope N_L_word ["_law_cell_here", "_law_spots"] (defScope s_L_word) := ⟨rfl, rfl, rfl, by decide +kernel, rfl, by decide +kernel, by decide +kernel⟩
/-! ### _law_values -/
abbrev s_L_values : Stmt := top 33
def N_L_values : List Str := ["_law_script", "_law_values_here", "_law_k", "_law_cell_here", "_law_spots"]
def ir_L_values : List S := [.own 1 [],
    .for_ (.nm 2) (.r1 (.bin .add (.blt .len [.v 0]) (.c (.int 8)))) [.asg (.nm 3) (.call 24 [.v 0, .v 2]), .asg (.nm 4) (.call 25 [.v 0, .v 2, .bin .add (.lst [.c (.int 16), .c (.int 40), .c (.int 4), .c (.int 27), .c (.int 26), .c (.int 25), .c (.int 6), .c (.int 34), .c (.int 104), .c (.int 34), .c (.int 104)]) (.bin .mul (.lst [.c (.int 112)]) (.c (.int 34)))]), .app 1 (.call 28 [.v 3, .v 4]), .asg (.nm 4) (.call 25 [.v 0, .v 2, .bin .add (.bin .add (.bin .add (.lst [.c (.int 18), .c (.int 8), .c (.int 26)]) (.bin .mul (.lst [.c (.int 36)]) (.c (.int 7)))) (.lst [.c (.int 12), .c (.int 104), .c (.int 12), .c (.int 104), .c (.int 11)])) (.bin .mul (.lst [.c (.int 95)]) (.c (.int 10)))]), .app 1 (.call 30 [.v 3, .v 4])],
    .frz 1,
    .ret (.v 1)]
def T_L_values : Nat → List D → Option D
  | 24 => F_L_cell
  | 25 => F_L_draw
  | 28 => F_L_value
  | 30 => F_L_word
  | _ => fun _ => none
def Z_L_values : Sm := { F := T_L_values, C := cval, L := [], M := [], P := [], K := [] }
def Y_L_values : Stat := { N := N_L_values, Z := Z_L_values, fns := [(24, "_law_cell"), (25, "_law_draw"), (28, "_law_value"), (30, "_law_word")], cns := [], bl := blts, gcd := false, lv := 2, kws := [], mks := [] }
def F_L_values (ds : List D) : Option D := evF Z_L_values ir_L_values 1 5 ds
theorem ck_L_values : ckSs Y_L_values ir_L_values (defScope s_L_values) (fun _ => true) (defBody s_L_values) = true := by decide +kernel
theorem sc_L_values : FnScope N_L_values ["_law_script"] (defScope s_L_values) := ⟨rfl, rfl, rfl, by decide +kernel, rfl, by decide +kernel, by decide +kernel⟩
/-! ### is_layer -/
abbrev s_is_layer : Stmt := top 4
def N_is_layer : List Str := ["value", "sign"]
def ir_is_layer : List S := [.ifs (.not (.isi (.v 0) [.str] false)) [.ret (.c (.bl false))] [],
    .ifs (.not (.chain .le .le (.c (.int 1)) (.blt .len [.v 0]) (.g 1))) [.ret (.c (.bl false))] [],
    .for_ (.nm 1) (.seq (.v 0)) [.ifs (.cmp .notin (.v 1) (.g 0)) [.ret (.c (.bl false))] []],
    .ret (.c (.bl true))]
def T_is_layer : Nat → List D → Option D := fun _ _ => none
def Z_is_layer : Sm := { F := T_is_layer, C := cval, L := [], M := [], P := [], K := ["Stock"] }
def Y_is_layer : Stat := { N := N_is_layer, Z := Z_is_layer, fns := [], cns := [(1, "MOST_CELLS"), (0, "SIGNS")], bl := blts, gcd := false, lv := 0, kws := [], mks := [] }
def F_is_layer (ds : List D) : Option D := evF Z_is_layer ir_is_layer 1 2 ds
theorem ck_is_layer : ckSs Y_is_layer ir_is_layer (defScope s_is_layer) (fun _ => true) (defBody s_is_layer) = true := by decide +kernel
theorem sc_is_layer : FnScope N_is_layer ["value"] (defScope s_is_layer) := ⟨rfl, rfl, rfl, by decide +kernel, rfl, by decide +kernel, by decide +kernel⟩
/-! ### is_sheet -/
abbrev s_is_sheet : Stmt := top 5
def N_is_sheet : List Str := ["value"]
def ir_is_sheet : List S := [.ret (.and (.call 1 [.v 0]) (.last (.cmp .notin (.c (.str [45])) (.v 0))))]
def T_is_sheet : Nat → List D → Option D
  | 1 => F_is_layer
  | _ => fun _ => none
def Z_is_sheet : Sm := { F := T_is_sheet, C := cval, L := [], M := [], P := [], K := [] }
def Y_is_sheet : Stat := { N := N_is_sheet, Z := Z_is_sheet, fns := [(1, "is_layer")], cns := [], bl := blts, gcd := false, lv := 1, kws := [], mks := [] }
def F_is_sheet (ds : List D) : Option D := evF Z_is_sheet ir_is_sheet 1 1 ds
theorem ck_is_sheet : ckSs Y_is_sheet ir_is_sheet (defScope s_is_sheet) (fun _ => true) (defBody s_is_sheet) = true := by decide +kernel
theorem sc_is_sheet : FnScope N_is_sheet ["value"] (defScope s_is_sheet) := ⟨rfl, rfl, rfl, by decide +kernel, rfl, by decide +kernel, by decide +kernel⟩
/-! ### is_name -/
abbrev s_is_name : Stmt := top 19
def N_is_name : List Str := ["value", "sign"]
def ir_is_name : List S := [.ifs (.not (.isi (.v 0) [.str] false)) [.ret (.c (.bl false))] [],
    .ifs (.or (.not (.chain .le .le (.c (.int 1)) (.blt .len [.v 0]) (.g 4))) (.last (.cmp .notin (.ix (.v 0) (.c (.int 0))) (.g 2)))) [.ret (.c (.bl false))] [],
    .for_ (.nm 1) (.seq (.v 0)) [.ifs (.and (.cmp .notin (.v 1) (.g 2)) (.last (.cmp .notin (.v 1) (.g 3)))) [.ret (.c (.bl false))] []],
    .ret (.c (.bl true))]
def T_is_name : Nat → List D → Option D := fun _ _ => none
def Z_is_name : Sm := { F := T_is_name, C := cval, L := [], M := [], P := [], K := ["Stock"] }
def Y_is_name : Stat := { N := N_is_name, Z := Z_is_name, fns := [], cns := [(4, "LONGEST_NAME"), (2, "LETTERS"), (3, "DIGITS")], bl := blts, gcd := false, lv := 0, kws := [], mks := [] }
def F_is_name (ds : List D) : Option D := evF Z_is_name ir_is_name 1 2 ds
theorem ck_is_name : ckSs Y_is_name ir_is_name (defScope s_is_name) (fun _ => true) (defBody s_is_name) = true := by decide +kernel
theorem sc_is_name : FnScope N_is_name ["value"] (defScope s_is_name) := ⟨rfl, rfl, rfl, by decide +kernel, rfl, by decide +kernel, by decide +kernel⟩
/-! ### _law_rank -/
abbrev s_L_rank : Stmt := top 30
def N_L_rank : List Str := ["_law_thing", "_law_rank_here", "_law_sign"]
def ir_L_rank : List S := [.ifs (.or (.not (.isi (.v 0) [.str] false)) (.or (.cmp .lt (.blt .len [.v 0]) (.c (.int 1))) (.last (.cmp .gt (.blt .len [.v 0]) (.c (.int 30)))))) [.ret (.c (.int 0))] [],
    .asg (.nm 1) (.c (.int 2)),
    .for_ (.nm 2) (.seq (.v 0)) [.ifs (.cmp .notin (.v 2) (.c (.str [45, 46, 97, 98, 99, 100, 101, 102, 103, 104, 105, 106, 107, 108, 109, 110, 111, 112, 113, 114, 115, 116, 117, 118, 119, 120, 121, 122]))) [.ret (.c (.int 0))] [], .ifs (.cmp .eq (.v 2) (.c (.str [45]))) [.asg (.nm 1) (.c (.int 1))] []],
    .ret (.v 1)]
def T_L_rank : Nat → List D → Option D := fun _ _ => none
def Z_L_rank : Sm := { F := T_L_rank, C := cval, L := [], M := [], P := [], K := ["Stock"] }
def Y_L_rank : Stat := { N := N_L_rank, Z := Z_L_rank, fns := [], cns := [], bl := blts, gcd := false, lv := 0, kws := [], mks := [] }
def F_L_rank (ds : List D) : Option D := evF Z_L_rank ir_L_rank 1 3 ds
theorem ck_L_rank : ckSs Y_L_rank ir_L_rank (defScope s_L_rank) (fun _ => true) (defBody s_L_rank) = true := by decide +kernel
theorem sc_L_rank : FnScope N_L_rank ["_law_thing"] (defScope s_L_rank) := ⟨rfl, rfl, rfl, by decide +kernel, rfl, by decide +kernel, by decide +kernel⟩
/-! ### _law_is_name -/
abbrev s_L_is_name : Stmt := top 31
def N_L_is_name : List Str := ["_law_thing", "_law_k"]
def ir_L_is_name : List S := [.ifs (.or (.not (.isi (.v 0) [.str] false)) (.or (.cmp .lt (.blt .len [.v 0]) (.c (.int 1))) (.last (.cmp .gt (.blt .len [.v 0]) (.c (.int 8)))))) [.ret (.c (.bl false))] [],
    .for_ (.nm 1) (.r1 (.blt .len [.v 0])) [.ifs (.cmp .notin (.ix (.v 0) (.v 1)) (.sl (.c (.str [97, 98, 99, 100, 101, 102, 103, 104, 105, 106, 107, 108, 109, 110, 111, 112, 113, 114, 115, 116, 117, 118, 119, 120, 121, 122, 48, 49, 50, 51, 52, 53, 54, 55, 56, 57])) .nil (.last (.ix (.lst [.c (.int 26), .c (.int 36)]) (.blt .int [.cmp .gt (.v 1) (.c (.int 0))]))))) [.ret (.c (.bl false))] []],
    .ret (.c (.bl true))]
def T_L_is_name : Nat → List D → Option D := fun _ _ => none
def Z_L_is_name : Sm := { F := T_L_is_name, C := cval, L := [], M := [], P := [], K := ["Stock"] }
def Y_L_is_name : Stat := { N := N_L_is_name, Z := Z_L_is_name, fns := [], cns := [], bl := blts, gcd := false, lv := 0, kws := [], mks := [] }
def F_L_is_name (ds : List D) : Option D := evF Z_L_is_name ir_L_is_name 1 2 ds
theorem ck_L_is_name : ckSs Y_L_is_name ir_L_is_name (defScope s_L_is_name) (fun _ => true) (defBody s_L_is_name) = true := by decide +kernel
theorem sc_L_is_name : FnScope N_L_is_name ["_law_thing"] (defScope s_L_is_name) := ⟨rfl, rfl, rfl, by decide +kernel, rfl, by decide +kernel, by decide +kernel⟩
/-! ### _law_right -/
abbrev s_L_right : Stmt := top 32
def N_L_right : List Str := ["_law_thing", "_law_by_name", "_law_answer", "_law_rank_here", "_law_told"]
def ir_L_right : List S := [.ifs (.v 1) [.asg (.nm 4) (.lst [.callK 1 ["value"] [0] [.v 0], .callK 2 ["value"] [0] [.v 0], .callK 10 ["value"] [0] [.v 0]])] [.asg (.nm 4) (.lst [.call 1 [.v 0], .call 2 [.v 0], .call 10 [.v 0]])],
    .for_ (.nm 2) (.seq (.v 4)) [.ifs (.not (.isi (.v 2) [.bool] false)) [.ret (.c (.bl false))] []],
    .asg (.nm 3) (.call 31 [.v 0]),
    .ret (.cmp .eq (.v 4) (.lst [.cmp .gt (.v 3) (.c (.int 0)), .cmp .gt (.v 3) (.c (.int 1)), .call 32 [.v 0]]))]
def T_L_right : Nat → List D → Option D
  | 1 => F_is_layer
  | 2 => F_is_sheet
  | 10 => F_is_name
  | 31 => F_L_rank
  | 32 => F_L_is_name
  | _ => fun _ => none
def Z_L_right : Sm := { F := T_L_right, C := cval, L := [], M := [], P := [], K := ["Stock"] }
def Y_L_right : Stat := { N := N_L_right, Z := Z_L_right, fns := [(1, "is_layer"), (2, "is_sheet"), (10, "is_name"), (31, "_law_rank"), (32, "_law_is_name")], cns := [], bl := blts, gcd := false, lv := 2, kws := [(1, "is_layer", ["value"], [0]), (2, "is_sheet", ["value"], [0]), (10, "is_name", ["value"], [0])], mks := [] }
def F_L_right (ds : List D) : Option D := evF Z_L_right ir_L_right 2 5 ds
theorem ck_L_right : ckSs Y_L_right ir_L_right (defScope s_L_right) (fun _ => true) (defBody s_L_right) = true := by decide +kernel
theorem sc_L_right : FnScope N_L_right ["_law_thing", "_law_by_name"] (defScope s_L_right) := ⟨rfl, rfl, rfl, by decide +kernel, rfl, by decide +kernel, by decide +kernel⟩
/-! ### frozen -/
abbrev s_frozen : Stmt := top 7
def N_frozen : List Str := ["value", "part"]
def ir_frozen : List S := [.ifs (.isi (.v 0) [.list, .tuple] true) [.ret (.blt .tuple [.lc [("part", 1)] (.nm 1) (.seq (.v 0)) (.c (.bl true)) (.call 4 [.v 1])])] [],
    .ret (.v 0)]
def F_frozen_0 : List D → Option D := fun _ => none
def T_frozen_1 : Nat → List D → Option D
  | 4 => F_frozen_0
  | _ => fun _ => none
def Z_frozen_1 : Sm := { F := T_frozen_1, C := cval, L := [], M := [], P := [], K := ["Stock"] }
def Y_frozen_1 : Stat := { N := N_frozen, Z := Z_frozen_1, fns := [(4, "frozen")], cns := [], bl := blts, gcd := false, lv := 1, kws := [], mks := [] }
def F_frozen_1 (ds : List D) : Option D := evF Z_frozen_1 ir_frozen 1 2 ds
theorem ck_frozen_1 : ckSs Y_frozen_1 ir_frozen (defScope s_frozen) (fun _ => true) (defBody s_frozen) = true := by decide +kernel
theorem sc_frozen : FnScope N_frozen ["value"] (defScope s_frozen) := ⟨rfl, rfl, rfl, by decide +kernel, rfl, by decide +kernel, by decide +kernel⟩
def T_frozen_2 : Nat → List D → Option D
  | 4 => F_frozen_1
  | _ => fun _ => none
def Z_frozen_2 : Sm := { F := T_frozen_2, C := cval, L := [], M := [], P := [], K := ["Stock"] }
def Y_frozen_2 : Stat := { N := N_frozen, Z := Z_frozen_2, fns := [(4, "frozen")], cns := [], bl := blts, gcd := false, lv := 2, kws := [], mks := [] }
def F_frozen_2 (ds : List D) : Option D := evF Z_frozen_2 ir_frozen 1 2 ds
theorem ck_frozen_2 : ckSs Y_frozen_2 ir_frozen (defScope s_frozen) (fun _ => true) (defBody s_frozen) = true := by decide +kernel
def T_frozen_3 : Nat → List D → Option D
  | 4 => F_frozen_2
  | _ => fun _ => none
def Z_frozen_3 : Sm := { F := T_frozen_3, C := cval, L := [], M := [], P := [], K := ["Stock"] }
def Y_frozen_3 : Stat := { N := N_frozen, Z := Z_frozen_3, fns := [(4, "frozen")], cns := [], bl := blts, gcd := false, lv := 3, kws := [], mks := [] }
def F_frozen_3 (ds : List D) : Option D := evF Z_frozen_3 ir_frozen 1 2 ds
theorem ck_frozen_3 : ckSs Y_frozen_3 ir_frozen (defScope s_frozen) (fun _ => true) (defBody s_frozen) = true := by decide +kernel
def T_frozen_4 : Nat → List D → Option D
  | 4 => F_frozen_3
  | _ => fun _ => none
def Z_frozen_4 : Sm := { F := T_frozen_4, C := cval, L := [], M := [], P := [], K := ["Stock"] }
def Y_frozen_4 : Stat := { N := N_frozen, Z := Z_frozen_4, fns := [(4, "frozen")], cns := [], bl := blts, gcd := false, lv := 4, kws := [], mks := [] }
def F_frozen_4 (ds : List D) : Option D := evF Z_frozen_4 ir_frozen 1 2 ds
theorem ck_frozen_4 : ckSs Y_frozen_4 ir_frozen (defScope s_frozen) (fun _ => true) (defBody s_frozen) = true := by decide +kernel
def T_frozen_5 : Nat → List D → Option D
  | 4 => F_frozen_4
  | _ => fun _ => none
def Z_frozen_5 : Sm := { F := T_frozen_5, C := cval, L := [], M := [], P := [], K := ["Stock"] }
def Y_frozen_5 : Stat := { N := N_frozen, Z := Z_frozen_5, fns := [(4, "frozen")], cns := [], bl := blts, gcd := false, lv := 5, kws := [], mks := [] }
def F_frozen_5 (ds : List D) : Option D := evF Z_frozen_5 ir_frozen 1 2 ds
theorem ck_frozen_5 : ckSs Y_frozen_5 ir_frozen (defScope s_frozen) (fun _ => true) (defBody s_frozen) = true := by decide +kernel
/-! ### empty_layer -/
abbrev s_empty_layer : Stmt := top 6
def N_empty_layer : List Str := ["size"]
def ir_empty_layer : List S := [.ret (.bin .mul (.c (.str [45])) (.v 0))]
def T_empty_layer : Nat → List D → Option D := fun _ _ => none
def Z_empty_layer : Sm := { F := T_empty_layer, C := cval, L := [], M := [], P := [], K := [] }
def Y_empty_layer : Stat := { N := N_empty_layer, Z := Z_empty_layer, fns := [], cns := [], bl := blts, gcd := false, lv := 0, kws := [], mks := [] }
def F_empty_layer (ds : List D) : Option D := evF Z_empty_layer ir_empty_layer 1 1 ds
theorem ck_empty_layer : ckSs Y_empty_layer ir_empty_layer (defScope s_empty_layer) (fun _ => true) (defBody s_empty_layer) = true := by decide +kernel
theorem sc_empty_layer : FnScope N_empty_layer ["size"] (defScope s_empty_layer) := ⟨rfl, rfl, rfl, by decide +kernel, rfl, by decide +kernel, by decide +kernel⟩
/-! ### is_stamp -/
abbrev s_is_stamp : Stmt := top 20
def N_is_stamp : List Str := ["value", "size"]
def ir_is_stamp : List S := [.ret (.and (.call 1 [.v 0]) (.and (.cmp .eq (.blt .len [.v 0]) (.v 1)) (.last (.cmp .ne (.v 0) (.call 3 [.v 1])))))]
def T_is_stamp : Nat → List D → Option D
  | 1 => F_is_layer
  | 3 => F_empty_layer
  | _ => fun _ => none
def Z_is_stamp : Sm := { F := T_is_stamp, C := cval, L := [], M := [], P := [], K := [] }
def Y_is_stamp : Stat := { N := N_is_stamp, Z := Z_is_stamp, fns := [(1, "is_layer"), (3, "empty_layer")], cns := [], bl := blts, gcd := false, lv := 1, kws := [], mks := [] }
def F_is_stamp (ds : List D) : Option D := evF Z_is_stamp ir_is_stamp 2 2 ds
theorem ck_is_stamp : ckSs Y_is_stamp ir_is_stamp (defScope s_is_stamp) (fun _ => true) (defBody s_is_stamp) = true := by decide +kernel
theorem sc_is_stamp : FnScope N_is_stamp ["value", "size"] (defScope s_is_stamp) := ⟨rfl, rfl, rfl, by decide +kernel, rfl, by decide +kernel, by decide +kernel⟩
/-! ### Stock.__init__ -/
abbrev s_Stock___init__ : Stmt := mtd 21 0
def N_Stock___init__ : List Str := ["self", "size", "stamps", "pairs", "numbers", "index", "pair"]
def ir_Stock___init__ : List S := [.asg (.nm 3) (.call 4 [.v 2]),
    .newd 4,
    .for_ (.tp [5, 6]) (.enum (.v 3)) [.ifs (.not (.call 10 [.ix (.v 6) (.c (.int 0))])) [.never] [], .ifs (.not (.call 11 [.ix (.v 6) (.c (.int 1)), .v 1])) [.never] [], .ifs (.ino false (.ix (.v 6) (.c (.int 0))) 4) [.never] [], .put 4 (.ix (.v 6) (.c (.int 0))) (.v 5)],
    .setf 0 "size" (.v 1),
    .setf 0 "stamps" (.v 3),
    .setf 0 "layers" (.blt .tuple [.lc [("pair", 6)] (.nm 6) (.seq (.v 3)) (.c (.bl true)) (.ix (.v 6) (.c (.int 1)))]),
    .frz 4,
    .setf 0 "numbers" (.v 4)]
def T_Stock___init__ : Nat → List D → Option D
  | 4 => F_frozen_5
  | 10 => F_is_name
  | 11 => F_is_stamp
  | _ => fun _ => none
def Z_Stock___init__ : Sm := { F := T_Stock___init__, C := cval, L := [("Stock", "layers"), ("Stock", "numbers"), ("Stock", "size"), ("Stock", "stamps")], M := [], P := [], K := [] }
def Y_Stock___init__ : Stat := { N := N_Stock___init__, Z := Z_Stock___init__, fns := [(4, "frozen"), (10, "is_name"), (11, "is_stamp")], cns := [], bl := blts, gcd := false, lv := 6, kws := [], mks := [] }
def F_Stock___init__ (ds : List D) : Option D := valI "Stock" Z_Stock___init__ ir_Stock___init__ 3 7 ds
theorem ck_Stock___init__ : ckSs Y_Stock___init__ ir_Stock___init__ (defScope s_Stock___init__) (fun _ => true) (defBody s_Stock___init__) = true := by decide +kernel
theorem sc_Stock___init__ : FnScope N_Stock___init__ ["self", "size", "stamps"] (defScope s_Stock___init__) := ⟨rfl, rfl, rfl, by decide +kernel, rfl, by decide +kernel, by decide +kernel⟩
/-! ### law -/
abbrev s_law : Stmt := top 34
def N_law : List Str := ["_law_script", "_law_things", "_law_thing", "_law_k"]
def ir_law : List S := [.asg (.nm 1) (.call 34 [.v 0]),
    .for_ (.nm 2) (.seq (.v 1)) [.ifs (.not (.call 33 [.v 2, .c (.bl false)])) [.ret (.c (.bl false))] []],
    .ifs (.or (.not (.call 33 [.mk 12 [.c (.int 2), .lst [.lst [.c (.str [120]), .c (.str [97, 45])]]], .c (.bl false)])) (.last (.not (.call 33 [.mk 12 [.c (.int 1), .lst []], .c (.bl true)])))) [.ret (.c (.bl false))] [],
    .for_ (.nm 3) (.r1 (.blt .len [.v 1])) [.ifs (.not (.call 33 [.ix (.v 1) (.bin .sub (.bin .sub (.blt .len [.v 1]) (.c (.int 1))) (.v 3)), .c (.bl true)])) [.ret (.c (.bl false))] []],
    .ret (.same (.v 1) (.call 34 [.v 0]))]
def T_law : Nat → List D → Option D
  | 12 => F_Stock___init__
  | 33 => F_L_right
  | 34 => F_L_values
  | _ => fun _ => none
def Z_law : Sm := { F := T_law, C := cval, L := [], M := [], P := [], K := [] }
def Y_law : Stat := { N := N_law, Z := Z_law, fns := [(33, "_law_right"), (34, "_law_values")], cns := [], bl := blts, gcd := false, lv := 8, kws := [], mks := [(12, "Stock")] }
def F_law (ds : List D) : Option D := evF Z_law ir_law 1 4 ds
theorem ck_law : ckSs Y_law ir_law (defScope s_law) (fun _ => true) (defBody s_law) = true := by decide +kernel
theorem sc_law : FnScope N_law ["_law_script"] (defScope s_law) := ⟨rfl, rfl, rfl, by decide +kernel, rfl, by decide +kernel, by decide +kernel⟩
end K00

set_option Elab.async false
set_option linter.all false
set_option maxRecDepth 100000
set_option maxHeartbeats 4000000
namespace K00
open PySem L2 Pv

def sgnL : List Nat := [45, 46, 97, 98, 99, 100, 101, 102, 103, 104, 105, 106, 107, 108, 109, 110, 111, 112, 113, 114, 115, 116, 117, 118, 119, 120, 121, 122]
def letL : List Nat := [97, 98, 99, 100, 101, 102, 103, 104, 105, 106, 107, 108, 109, 110, 111, 112, 113, 114, 115, 116, 117, 118, 119, 120, 121, 122]
def digL : List Nat := [48, 49, 50, 51, 52, 53, 54, 55, 56, 57]
theorem cval0 : cval 0 = some (.str sgnL) := id rfl
theorem cval1 : cval 1 = some (.int 30) := id rfl
theorem cval2 : cval 2 = some (.str letL) := id rfl
theorem cval3 : cval 3 = some (.str digL) := id rfl
theorem cval4 : cval 4 = some (.int 8) := id rfl
def layerB (x : List Nat) : Bool := decide (1 ≤ x.length) && (decide (x.length ≤ 30) && !(x.any fun c => !decide (c ∈ sgnL)))
theorem any_map1 (p : Nat → Bool) (q : D → Bool) (x : List Nat) (h : ∀ c, q (.str [c]) = p c) : (x.map fun c => D.str [c]).any q = x.any p := by
  rw [List.any_map]
  congr 1
  funext c
  exact h c
/-- a loop over a text's signs that is left where one is found -/
theorem sign_loop {f : List Sl → Option Out} {i : Nat} {r : D} (p : Nat → Bool) (I : List Sl → Prop) {x : List Nat} {σ : List Sl} (h : I σ)
    (hs : ∀ c σ, c ∈ x → I σ → ((p c = true ∧ f (σ.set i (.v (.str [c]))) = some (.rt r)) ∨ (p c = false ∧ ∃ σ2, f (σ.set i (.v (.str [c]))) = some (.nx σ2) ∧ I σ2))) :
    (x.any p = true ∧ forL (.nm i) f (x.map fun c => D.str [c]) σ = some (.rt r)) ∨ (x.any p = false ∧ ∃ σ', forL (.nm i) f (x.map fun c => D.str [c]) σ = some (.nx σ') ∧ I σ') := by
  have := forL_find (t := .nm i) (f := f) (fun d => match d with | .str [c] => p c | _ => false) r I (ds := x.map fun c => D.str [c]) (σ := σ) h (by
    intro d hd σ hI
    obtain ⟨c, hc, rfl⟩ := List.mem_map.mp hd
    exact ⟨_, rfl, hs c σ hc hI⟩)
  rw [any_map1 p _ x fun c => rfl] at this
  exact this
theorem is_layer_str (x : List Nat) (hl : x.length ≤ 16777216) : F_is_layer [.str x] = some (.bl (layerB x)) := by
  unfold F_is_layer evF ir_is_layer
  rw [if_pos (show [D.str x].length = 1 from rfl)]
  simp only [startD]
  (rw [evSs_consR]; generalize hRx : Pv.rest _ _ = Rx; simp [isi1, isIns] <;> (subst hRx; first | rw [rest_nx] | (simp only [rest_rt, rest_bk, rest_ct, bind_someX, endD_rt]) | skip))
  by_cases h1 : 1 ≤ x.length
  · have g1 : (1 : Int) ≤ x.length := by omega
    by_cases h2 : x.length ≤ 30
    · have g2 : (x.length : Int) ≤ 30 := by omega
      have z1 : Z_is_layer.C 1 = some (.int 30) := cval1
      have z0 : Z_is_layer.C 0 = some (.str sgnL) := cval0
      (rw [evSs_consR]; generalize hRx : Pv.rest _ _ = Rx; simp [hl, g1, g2, z1] <;> (subst hRx; first | rw [rest_nx] | (simp only [rest_rt, rest_bk, rest_ct, bind_someX, endD_rt]) | skip))
      rw [evSs_consR]
      have key := sign_loop (f := evSs Z_is_layer [.ifs (.cmp .notin (.v 1) (.g 0)) [.ret (.c (.bl false))] []]) (i := 1) (r := .bl false) (fun c => !decide (c ∈ sgnL)) (fun σ => ∃ z, σ = [.v (.str x), z]) (x := x) (σ := [.v (.str x), .no]) ⟨_, rfl⟩ (by
        rintro c σ _ ⟨z, rfl⟩
        by_cases hc : c ∈ sgnL
        · right
          exact ⟨by simp [hc], [.v (.str x), .v (.str [c])], by simp [z0, hc], _, rfl⟩
        · left
          exact ⟨by simp [hc], by simp [z0, hc]⟩)
      rcases key with ⟨k1, k2⟩ | ⟨k1, σ', k2, z, rfl⟩
      · simp [k2, layerB, k1, h1, h2]
      · have e : layerB x = true := by simp [layerB, k1, h1, h2]
        rw [e]
        simp [k2]
        rw [rest_nx]
        simp
    · have g2 : ¬ (x.length : Int) ≤ 30 := by omega
      have z1 : Z_is_layer.C 1 = some (.int 30) := cval1
      have e : layerB x = false := by simp [layerB, h2]
      rw [e]
      (rw [evSs_consR]; generalize hRx : Pv.rest _ _ = Rx; simp [hl, g1, g2, z1] <;> (subst hRx; first | rw [rest_nx] | (simp only [rest_rt, rest_bk, rest_ct, bind_someX, endD_rt]) | skip))
  · have g1 : ¬ (1 : Int) ≤ x.length := by omega
    have e : layerB x = false := by simp [layerB, h1]
    rw [e]
    (rw [evSs_consR]; generalize hRx : Pv.rest _ _ = Rx; simp [hl, g1] <;> (subst hRx; first | rw [rest_nx] | (simp only [rest_rt, rest_bk, rest_ct, bind_someX, endD_rt]) | skip))
/-- data that no text is, to be asked for a kind -/
def Oth : D → Prop
  | .str _ => False
  | .scr _ => False
  | .ins c _ _ => c = "Stock"
  | _ => True
theorem oth_isi {Z : Sm} {a : E} {σ : List Sl} {d : D} (hd : Oth d) (ha : evE Z a σ = some d) (hK : Z.K = [("Stock" : Str)]) : evE Z (.isi a [.str] false) σ = some (.bl false) := by
  rw [evE_isi, ha]
  cases d <;> first
    | (simp [isIns, isi1]; done)
    | (simp only [Oth] at hd; subst hd; simp [isIns, insI, hK]; done)
    | (simp [Oth] at hd; done)
theorem is_layer_oth {d : D} (h : Oth d) : F_is_layer [d] = some (.bl false) := by
  unfold F_is_layer evF ir_is_layer
  rw [if_pos (show [d].length = 1 from rfl)]
  simp only [startD]
  have e := oth_isi (Z := Z_is_layer) (a := .v 0) (σ := [.v d, .no]) h (by simp) rfl
  rw [evSs_consR, evS_ifs, evE_not]
  simp only [List.map_cons, List.map_nil, List.length_cons, List.length_nil, List.replicate, List.cons_append, List.nil_append]
  rw [e]
  simp
def sheetB (x : List Nat) : Bool := layerB x && !decide (45 ∈ x)
theorem is_sheet_str (x : List Nat) (hl : x.length ≤ 16777216) : F_is_sheet [.str x] = some (.bl (sheetB x)) := by
  have f1 : Z_is_sheet.F 1 = F_is_layer := id rfl
  unfold F_is_sheet evF ir_is_sheet
  rw [if_pos (show [D.str x].length = 1 from rfl)]
  simp only [startD]
  unfold sheetB
  cases h : layerB x
  · (rw [evSs_consR]; generalize hRx : Pv.rest _ _ = Rx; simp [f1, is_layer_str x hl, h] <;> (subst hRx; first | rw [rest_nx] | (simp only [rest_rt, rest_bk, rest_ct, bind_someX, endD_rt]) | skip))
  · (rw [evSs_consR]; generalize hRx : Pv.rest _ _ = Rx; simp [f1, is_layer_str x hl, h] <;> (subst hRx; first | rw [rest_nx] | (simp only [rest_rt, rest_bk, rest_ct, bind_someX, endD_rt]) | skip))
theorem is_sheet_oth {d : D} (h : Oth d) : F_is_sheet [d] = some (.bl false) := by
  have f1 : Z_is_sheet.F 1 = F_is_layer := id rfl
  unfold F_is_sheet evF ir_is_sheet
  rw [if_pos (show [d].length = 1 from rfl)]
  simp only [startD]
  (rw [evSs_consR]; generalize hRx : Pv.rest _ _ = Rx; simp [f1, is_layer_oth h] <;> (subst hRx; first | rw [rest_nx] | (simp only [rest_rt, rest_bk, rest_ct, bind_someX, endD_rt]) | skip))
def nameB : List Nat → Bool
  | [] => false
  | a :: r => decide (r.length + 1 ≤ 8) && (decide (a ∈ letL) && !((a :: r).any fun c => !decide (c ∈ letL) && !decide (c ∈ digL)))
theorem nameB_cons (a : Nat) (r : List Nat) : nameB (a :: r) = (decide (r.length + 1 ≤ 8) && (decide (a ∈ letL) && !((a :: r).any fun c => !decide (c ∈ letL) && !decide (c ∈ digL)))) := id rfl
theorem is_name_str (x : List Nat) (hl : x.length ≤ 16777216) : F_is_name [.str x] = some (.bl (nameB x)) := by
  have z4 : Z_is_name.C 4 = some (.int 8) := cval4
  have z2 : Z_is_name.C 2 = some (.str letL) := cval2
  have z3 : Z_is_name.C 3 = some (.str digL) := cval3
  unfold F_is_name evF ir_is_name
  rw [if_pos (show [D.str x].length = 1 from rfl)]
  simp only [startD]
  (rw [evSs_consR]; generalize hRx : Pv.rest _ _ = Rx; simp [isi1, isIns] <;> (subst hRx; first | rw [rest_nx] | (simp only [rest_rt, rest_bk, rest_ct, bind_someX, endD_rt]) | skip))
  cases x with
  | nil =>
    have e : nameB [] = false := rfl
    rw [e]
    (rw [evSs_consR]; generalize hRx : Pv.rest _ _ = Rx; simp [] <;> (subst hRx; first | rw [rest_nx] | (simp only [rest_rt, rest_bk, rest_ct, bind_someX, endD_rt]) | skip))
  | cons a r =>
    have hl' : r.length + 1 ≤ 16777216 := by simpa using hl
    have hl2 : r.length ≤ 16777215 := by omega
    have g1 : (1 : Int) ≤ (r.length : Int) + 1 := by omega
    by_cases h2 : r.length + 1 ≤ 8
    · have g2 : (r.length : Int) + 1 ≤ 8 := by omega
      by_cases h3 : a ∈ letL
      · (rw [evSs_consR]; generalize hRx : Pv.rest _ _ = Rx; simp [hl2, g1, g2, z4, z2, h3] <;> (subst hRx; first | rw [rest_nx] | (simp only [rest_rt, rest_bk, rest_ct, bind_someX, endD_rt]) | skip))
        rw [evSs_consR]
        have key := sign_loop (f := evSs Z_is_name [.ifs (.and (.cmp .notin (.v 1) (.g 2)) (.last (.cmp .notin (.v 1) (.g 3)))) [.ret (.c (.bl false))] []]) (i := 1) (r := .bl false) (fun c => !decide (c ∈ letL) && !decide (c ∈ digL)) (fun σ => ∃ z, σ = [.v (.str (a :: r)), z]) (x := a :: r) (σ := [.v (.str (a :: r)), .no]) ⟨_, rfl⟩ (by
          rintro c σ _ ⟨z, rfl⟩
          by_cases hc : c ∈ letL
          · right
            exact ⟨by simp [hc], [.v (.str (a :: r)), .v (.str [c])], by simp [z2, hc], _, rfl⟩
          · by_cases hc2 : c ∈ digL
            · right
              exact ⟨by simp [hc, hc2], [.v (.str (a :: r)), .v (.str [c])], by simp [z2, z3, hc, hc2], _, rfl⟩
            · left
              exact ⟨by simp [hc, hc2], by simp [z2, z3, hc, hc2]⟩)
        rw [evS_for, evI_seq, evE_v, getV_zero, bind_someX, seq_str, bind_someX]
        rcases key with ⟨k1, k2⟩ | ⟨k1, σ', k2, z, rfl⟩
        · rw [k2]
          have e : nameB (a :: r) = false := by rw [nameB_cons]; rw [k1]; simp
          rw [e]
          simp
        · rw [k2]
          have e : nameB (a :: r) = true := by rw [nameB_cons]; rw [k1]; simp [h2, h3]
          rw [e, bind_someX, rest_nx]
          simp
      · have e : nameB (a :: r) = false := by rw [nameB_cons]; simp [h3]
        rw [e]
        (rw [evSs_consR]; generalize hRx : Pv.rest _ _ = Rx; simp [hl2, g1, g2, z4, z2, h3] <;> (subst hRx; first | rw [rest_nx] | (simp only [rest_rt, rest_bk, rest_ct, bind_someX, endD_rt]) | skip))
    · have g2 : ¬ (r.length : Int) + 1 ≤ 8 := by omega
      have e : nameB (a :: r) = false := by rw [nameB_cons]; rw [decide_eq_false h2]; rfl
      rw [e]
      (rw [evSs_consR]; generalize hRx : Pv.rest _ _ = Rx; simp [hl2, g1, g2, z4] <;> (subst hRx; first | rw [rest_nx] | (simp only [rest_rt, rest_bk, rest_ct, bind_someX, endD_rt]) | skip))
theorem is_name_oth {d : D} (h : Oth d) : F_is_name [d] = some (.bl false) := by
  unfold F_is_name evF ir_is_name
  rw [if_pos (show [d].length = 1 from rfl)]
  simp only [startD]
  have e := oth_isi (Z := Z_is_name) (a := .v 0) (σ := [.v d, .no]) h (by simp) rfl
  rw [evSs_consR, evS_ifs, evE_not]
  simp only [List.map_cons, List.map_nil, List.length_cons, List.length_nil, List.replicate, List.cons_append, List.nil_append]
  rw [e]
  simp
end K00

set_option Elab.async false
set_option linter.all false
set_option maxRecDepth 100000
set_option maxHeartbeats 4000000
namespace K00
open PySem L2 Pv

def rankN (x : List Nat) : Int := if layerB x then (if 45 ∈ x then 1 else 2) else 0
def rankLoopB : List S := [.ifs (.cmp .notin (.v 2) (.c (.str [45, 46, 97, 98, 99, 100, 101, 102, 103, 104, 105, 106, 107, 108, 109, 110, 111, 112, 113, 114, 115, 116, 117, 118, 119, 120, 121, 122]))) [.ret (.c (.int 0))] [], .ifs (.cmp .eq (.v 2) (.c (.str [45]))) [.asg (.nm 1) (.c (.int 1))] []]
theorem rank_loop (X : Sl) : ∀ (x : List Nat) (r : Int) (z : Sl), (x.any fun c => !decide (c ∈ sgnL)) = true ∧ forL (.nm 2) (evSs Z_L_rank rankLoopB) (x.map fun c => D.str [c]) [X, .v (.int r), z] = some (.rt (.int 0)) ∨
    (x.any fun c => !decide (c ∈ sgnL)) = false ∧ ∃ z', forL (.nm 2) (evSs Z_L_rank rankLoopB) (x.map fun c => D.str [c]) [X, .v (.int r), z] = some (.nx [X, .v (.int (if 45 ∈ x then 1 else r)), z'])
  | [], r, z => .inr ⟨rfl, z, rfl⟩
  | c :: x, r, z => by
    have hS : ([45, 46, 97, 98, 99, 100, 101, 102, 103, 104, 105, 106, 107, 108, 109, 110, 111, 112, 113, 114, 115, 116, 117, 118, 119, 120, 121, 122] : List Nat) = sgnL := rfl
    by_cases hc : c ∈ sgnL
    · have step : evSs Z_L_rank rankLoopB [X, .v (.int r), .v (.str [c])] = some (.nx [X, .v (.int (if c = 45 then 1 else r)), .v (.str [c])]) := by
        unfold rankLoopB
        rw [hS]
        by_cases h : c = 45
        · subst h
          (rw [evSs_consR]; generalize hRx : Pv.rest _ _ = Rx; simp [hc] <;> (subst hRx; first | rw [rest_nx] | (simp only [rest_rt, rest_bk, rest_ct, bind_someX, endD_rt]) | skip))
          (rw [evSs_consR]; generalize hRx : Pv.rest _ _ = Rx; simp [] <;> (subst hRx; first | rw [rest_nx] | (simp only [rest_rt, rest_bk, rest_ct, bind_someX, endD_rt]) | skip))
          simp
        · (rw [evSs_consR]; generalize hRx : Pv.rest _ _ = Rx; simp [hc] <;> (subst hRx; first | rw [rest_nx] | (simp only [rest_rt, rest_bk, rest_ct, bind_someX, endD_rt]) | skip))
          (rw [evSs_consR]; generalize hRx : Pv.rest _ _ = Rx; simp [h] <;> (subst hRx; first | rw [rest_nx] | (simp only [rest_rt, rest_bk, rest_ct, bind_someX, endD_rt]) | skip))
          simp
      rw [List.map_cons, forL_cons]
      simp only [setT_nm, List.set_cons_succ, List.set_cons_zero, bind_someX, step, turnO_nx]
      rcases rank_loop X x (if c = 45 then 1 else r) (.v (.str [c])) with ⟨k1, k2⟩ | ⟨k1, z', k2⟩
      · exact .inl ⟨by simp [k1], k2⟩
      · refine .inr ⟨by simp [k1, hc], z', ?_⟩
        rw [k2]
        by_cases h : 45 ∈ x
        · simp [h]
        · by_cases h2 : c = 45
          · simp [h, h2]
          · have : ¬ 45 = c := fun z => h2 z.symm
            simp [h, h2, this]
    · left
      refine ⟨by simp [hc], ?_⟩
      rw [List.map_cons, forL_cons]
      simp only [setT_nm, List.set_cons_succ, List.set_cons_zero, bind_someX]
      unfold rankLoopB
      rw [hS]
      simp [hc]
theorem rank_str (x : List Nat) (hl : x.length ≤ 16777216) : F_L_rank [.str x] = some (.int (rankN x)) := by
  unfold F_L_rank evF ir_L_rank
  rw [if_pos (show [D.str x].length = 1 from rfl)]
  simp only [startD]
  by_cases h1 : 1 ≤ x.length
  · have g1 : ¬ ((x.length : Int) < 1) := by omega
    by_cases h2 : x.length ≤ 30
    · have g2 : ¬ ((30 : Int) < x.length) := by omega
      (rw [evSs_consR]; generalize hRx : Pv.rest _ _ = Rx; simp [isi1, isIns, hl, g1, g2] <;> (subst hRx; first | rw [rest_nx] | (simp only [rest_rt, rest_bk, rest_ct, bind_someX, endD_rt]) | skip))
      (rw [evSs_consR]; generalize hRx : Pv.rest _ _ = Rx; simp [] <;> (subst hRx; first | rw [rest_nx] | (simp only [rest_rt, rest_bk, rest_ct, bind_someX, endD_rt]) | skip))
      rw [evSs_consR, evS_for, evI_seq, evE_v, getV_zero, bind_someX, seq_str, bind_someX]
      rcases rank_loop (.v (.str x)) x 2 .no with ⟨k1, k2⟩ | ⟨k1, z', k2⟩
      · unfold rankLoopB at k2
        rw [k2]
        have e : rankN x = 0 := by simp [rankN, layerB, k1]
        rw [e]
        simp
      · unfold rankLoopB at k2
        rw [k2]
        have e : rankN x = if 45 ∈ x then 1 else 2 := by unfold rankN layerB; rw [k1]; simp [h1, h2]
        rw [e, bind_someX, rest_nx]
        (rw [evSs_consR]; generalize hRx : Pv.rest _ _ = Rx; simp [] <;> (subst hRx; first | rw [rest_nx] | (simp only [rest_rt, rest_bk, rest_ct, bind_someX, endD_rt]) | skip))
    · have g2 : (30 : Int) < x.length := by omega
      have e : rankN x = 0 := by simp [rankN, layerB, h2]
      rw [e]
      (rw [evSs_consR]; generalize hRx : Pv.rest _ _ = Rx; simp [isi1, isIns, hl, g1, g2] <;> (subst hRx; first | rw [rest_nx] | (simp only [rest_rt, rest_bk, rest_ct, bind_someX, endD_rt]) | skip))
  · have g1 : (x.length : Int) < 1 := by omega
    have e : rankN x = 0 := by simp [rankN, layerB, h1]
    rw [e]
    (rw [evSs_consR]; generalize hRx : Pv.rest _ _ = Rx; simp [isi1, isIns, hl, g1] <;> (subst hRx; first | rw [rest_nx] | (simp only [rest_rt, rest_bk, rest_ct, bind_someX, endD_rt]) | skip))
theorem or_first {Z : Sm} {a b : E} {σ : List Sl} (ha : evE Z a σ = some (.bl true)) : evE Z (.or a b) σ = some (.bl true) := by
  rw [evE_or, ha]; rfl
theorem not_isi {Z : Sm} {a : E} {σ : List Sl} {d : D} (hd : Oth d) (ha : evE Z a σ = some d) (hK : Z.K = [("Stock" : Str)]) : evE Z (.not (.isi a [.str] false)) σ = some (.bl true) := by
  rw [evE_not, oth_isi hd ha hK]; rfl
theorem rank_oth {d : D} (h : Oth d) : F_L_rank [d] = some (.int 0) := by
  unfold F_L_rank evF ir_L_rank
  rw [if_pos (show [d].length = 1 from rfl)]
  simp only [startD]
  rw [evSs_consR, evS_ifs]
  simp only [List.map_cons, List.map_nil, List.length_cons, List.length_nil, List.replicate, List.cons_append, List.nil_append]
  rw [or_first (not_isi h (by simp) rfl)]
  simp
/-! ### the law's own word for a name -/
def ld36 : List Nat := [97, 98, 99, 100, 101, 102, 103, 104, 105, 106, 107, 108, 109, 110, 111, 112, 113, 114, 115, 116, 117, 118, 119, 120, 121, 122, 48, 49, 50, 51, 52, 53, 54, 55, 56, 57]
theorem ld_mem (c : Nat) : decide (c ∈ ld36) = (decide (c ∈ letL) || decide (c ∈ digL)) := by
  have : ld36 = letL ++ digL := rfl
  rw [this]
  simp
theorem range_get1 (P : Nat → Bool) (r : List Nat) : ((List.range r.length).any fun k => P (r[k]?.getD 0)) = r.any P := by
  have e : (List.range r.length).map (fun k => r[k]?.getD 0) = r := by
    apply List.ext_getElem?
    intro k
    rw [List.getElem?_map]
    by_cases hk : k < r.length
    · rw [List.getElem?_range hk, List.getElem?_eq_getElem hk]; simp [hk]
    · rw [List.getElem?_eq_none (by simpa using hk), List.getElem?_eq_none (by omega)]; rfl
  have h := List.any_map (f := fun k => r[k]?.getD 0) (p := P) (l := List.range r.length)
  rw [e] at h
  exact h.symm
def badAt (x : List Nat) (k : Nat) : Bool := if k = 0 then !decide (x[k]?.getD 0 ∈ letL) else !decide (x[k]?.getD 0 ∈ ld36)
theorem bad_any (a : Nat) (r : List Nat) : ((List.range (a :: r).length).any fun k => badAt (a :: r) k) = (!decide (a ∈ letL) || r.any fun c => !decide (c ∈ letL) && !decide (c ∈ digL)) := by
  rw [List.length_cons, List.range_succ_eq_map, List.any_cons, List.any_map]
  have e : (fun k => badAt (a :: r) k) ∘ Nat.succ = fun k => (fun c => !decide (c ∈ letL) && !decide (c ∈ digL)) (r[k]?.getD 0) := by
    funext k
    simp only [Function.comp, badAt, Nat.succ_ne_zero, if_false, Nat.succ_eq_add_one, List.getElem?_cons_succ]
    rw [ld_mem]
    cases decide (r[k]?.getD 0 ∈ letL) <;> cases decide (r[k]?.getD 0 ∈ digL) <;> rfl
  rw [e, range_get1 (fun c => !decide (c ∈ letL) && !decide (c ∈ digL)) r]
  congr 1
theorem L_is_name_str (x : List Nat) (hl : x.length ≤ 16777216) : F_L_is_name [.str x] = some (.bl (nameB x)) := by
  unfold F_L_is_name evF ir_L_is_name
  rw [if_pos (show [D.str x].length = 1 from rfl)]
  simp only [startD]
  cases x with
  | nil =>
    have e : nameB [] = false := rfl
    rw [e]
    (rw [evSs_consR]; generalize hRx : Pv.rest _ _ = Rx; simp [isi1, isIns] <;> (subst hRx; first | rw [rest_nx] | (simp only [rest_rt, rest_bk, rest_ct, bind_someX, endD_rt]) | skip))
  | cons a r =>
    have hl' : r.length + 1 ≤ 16777216 := by simpa using hl
    have hl2 : r.length ≤ 16777215 := by omega
    have g1 : ¬ ((r.length : Int) + 1 < 1) := by omega
    by_cases h2 : r.length + 1 ≤ 8
    · have g2 : ¬ ((8 : Int) < (r.length : Int) + 1) := by omega
      have okr : okR ((r.length : Int) + 1) = true := by unfold okR; simp; omega
      have hS : ([97, 98, 99, 100, 101, 102, 103, 104, 105, 106, 107, 108, 109, 110, 111, 112, 113, 114, 115, 116, 117, 118, 119, 120, 121, 122, 48, 49, 50, 51, 52, 53, 54, 55, 56, 57] : List Nat) = ld36 := rfl
      have c26 : cutD ld36 none (some 26) = letL := by rw [cut_to _ _ (by decide)]; rfl
      have c36 : cutD ld36 none (some 36) = ld36 := by rw [cut_to _ _ (by decide)]; rfl
      have l36 : ld36.length ≤ 16777216 := by decide
      (rw [evSs_consR]; generalize hRx : Pv.rest _ _ = Rx; simp [isi1, isIns, hl2, g1, g2] <;> (subst hRx; first | rw [rest_nx] | (simp only [rest_rt, rest_bk, rest_ct, bind_someX, endD_rt]) | skip))
      rw [evSs_consR, hS]
      have key := forL_find (t := .nm 1) (f := evSs Z_L_is_name [.ifs (.cmp .notin (.ix (.v 0) (.v 1)) (.sl (.c (.str ld36)) .nil (.last (.ix (.lst [.c (.int 26), .c (.int 36)]) (.blt .int [.cmp .gt (.v 1) (.c (.int 0))]))))) [.ret (.c (.bl false))] []]) (fun d => match d with | .int k => badAt (a :: r) k.toNat | _ => false) (.bl false) (fun σ => ∃ z, σ = [.v (.str (a :: r)), z]) (ds := rngD 0 (r.length + 1)) (σ := [.v (.str (a :: r)), .no]) ⟨_, rfl⟩ (by
        rintro d hd σ ⟨z, rfl⟩
        rw [rng_eq, List.mem_map] at hd
        obtain ⟨k, hk, rfl⟩ := hd
        have hk : k < (a :: r).length := List.mem_range.mp hk
        have q : atI (a :: r) (k : Int) = some ((a :: r)[k]) := atI_k hk
        have q' : (a :: r)[k]?.getD 0 = (a :: r)[k] := by rw [List.getElem?_eq_getElem hk]; rfl
        generalize hy : (a :: r)[k] = y at q q'
        refine ⟨[.v (.str (a :: r)), .v (.int (k : Nat))], by simp, ?_⟩
        have hbad : badAt (a :: r) k = if k = 0 then !decide (y ∈ letL) else !decide (y ∈ ld36) := by unfold badAt; rw [q']
        have e0 : (0 + (k : Int)).toNat = k := by omega
        simp only [e0]
        rw [hbad]
        by_cases hk0 : k = 0
        · subst hk0
          have hya : a = y := by simpa using hy
          subst hya
          by_cases hm : a ∈ letL
          · right
            refine ⟨by simp [hm], [.v (.str (a :: r)), .v (.int ((0 : Nat) : Int))], ?_, _, rfl⟩
            simp [hl2, slD, l36, c26, hm]
          · left
            refine ⟨by simp [hm], ?_⟩
            simp [hl2, slD, l36, c26, hm]
        · have hk0' : (0 : Int) < (k : Int) := by omega
          have hk0n : 0 < k := by omega
          by_cases hm : y ∈ ld36
          · right
            refine ⟨by simp [hk0, hm], [.v (.str (a :: r)), .v (.int (k : Nat))], ?_, _, rfl⟩
            simp [q, hl2, hk0', hk0n, slD, l36, c36, hm]
          · left
            refine ⟨by simp [hk0, hm], ?_⟩
            simp [q, hl2, hk0', hk0n, slD, l36, c36, hm])
      have e : (rngD 0 (r.length + 1)).any (fun d => match d with | .int k => badAt (a :: r) k.toNat | _ => false) = (!decide (a ∈ letL) || r.any fun c => !decide (c ∈ letL) && !decide (c ∈ digL)) := by
        have e3 : ((fun d : D => match d with | .int k => badAt (a :: r) k.toNat | _ => false) ∘ fun k : Nat => D.int (0 + (k : Nat))) = fun k => badAt (a :: r) k := by
          funext k
          simp
        rw [rng_eq, List.any_map, e3]
        exact bad_any a r
      rw [e] at key
      have en : nameB (a :: r) = !(!decide (a ∈ letL) || r.any fun c => !decide (c ∈ letL) && !decide (c ∈ digL)) := by
        rw [nameB_cons, decide_eq_true h2, List.any_cons]
        cases decide (a ∈ letL) <;> cases (r.any fun c => !decide (c ∈ letL) && !decide (c ∈ digL)) <;> simp
      rw [en]
      have ev : evS Z_L_is_name (.for_ (.nm 1) (.r1 (.blt .len [.v 0])) [.ifs (.cmp .notin (.ix (.v 0) (.v 1)) (.sl (.c (.str ld36)) .nil (.last (.ix (.lst [.c (.int 26), .c (.int 36)]) (.blt .int [.cmp .gt (.v 1) (.c (.int 0))]))))) [.ret (.c (.bl false))] []]) [.v (.str (a :: r)), .no] = forL (.nm 1) (evSs Z_L_is_name [.ifs (.cmp .notin (.ix (.v 0) (.v 1)) (.sl (.c (.str ld36)) .nil (.last (.ix (.lst [.c (.int 26), .c (.int 36)]) (.blt .int [.cmp .gt (.v 1) (.c (.int 0))]))))) [.ret (.c (.bl false))] []]) (rngD 0 (r.length + 1)) [.v (.str (a :: r)), .no] := by
        have e1 : ((r.length : Int) + 1).toNat = r.length + 1 := by omega
        simp [hl2, okr, e1]
      rw [ev]
      rcases key with ⟨k1, k2⟩ | ⟨k1, σ', k2, z, rfl⟩
      · rw [k2, k1]; simp
      · rw [k2, k1, bind_someX, rest_nx]; simp
    · have g2 : (8 : Int) < (r.length : Int) + 1 := by omega
      have e : nameB (a :: r) = false := by rw [nameB_cons]; rw [decide_eq_false h2]; rfl
      rw [e]
      (rw [evSs_consR]; generalize hRx : Pv.rest _ _ = Rx; simp [isi1, isIns, hl2, g1, g2] <;> (subst hRx; first | rw [rest_nx] | (simp only [rest_rt, rest_bk, rest_ct, bind_someX, endD_rt]) | skip))
theorem L_is_name_oth {d : D} (h : Oth d) : F_L_is_name [d] = some (.bl false) := by
  unfold F_L_is_name evF ir_L_is_name
  rw [if_pos (show [d].length = 1 from rfl)]
  simp only [startD]
  rw [evSs_consR, evS_ifs]
  simp only [List.map_cons, List.map_nil, List.length_cons, List.length_nil, List.replicate, List.cons_append, List.nil_append]
  rw [or_first (not_isi h (by simp) rfl)]
  simp
end K00

set_option Elab.async false
set_option linter.all false
set_option maxRecDepth 100000
set_option maxHeartbeats 4000000
namespace K00
open PySem L2 Pv

def isStock : Option D → Bool
  | some (.ins c _ _) => decide (c = "Stock")
  | _ => false
theorem isStock_ok {o : Option D} (h : isStock o = true) : ∃ ns vs, o = some (.ins "Stock" ns vs) := by
  unfold isStock at h
  split at h
  · rw [decide_eq_true_eq] at h
    subst h
    exact ⟨_, _, rfl⟩
  · cases h
theorem stock1 : isStock (F_Stock___init__ [.int 2, .lst [.lst [.str [120], .str [97, 45]]]]) = true := by decide +kernel
theorem stock0 : isStock (F_Stock___init__ [.int 1, .lst []]) = true := by decide +kernel
structure Ans (d : D) (l s n : Bool) (r : Int) : Prop where
  a1 : F_is_layer [d] = some (.bl l)
  a2 : F_is_sheet [d] = some (.bl s)
  a3 : F_is_name [d] = some (.bl n)
  a4 : F_L_rank [d] = some (.int r)
  a5 : F_L_is_name [d] = some (.bl n)
  p : decide (0 < r) = l
  q : decide (1 < r) = s
def Fit : D → Prop
  | .str x => x.length ≤ 16777216
  | d => Oth d
theorem fit_ans {d : D} (h : Fit d) : ∃ l s n r, Ans d l s n r := by
  by_cases ho : Oth d
  · exact ⟨false, false, false, 0, is_layer_oth ho, is_sheet_oth ho, is_name_oth ho, rank_oth ho, L_is_name_oth ho, rfl, rfl⟩
  · cases d with
    | str x =>
      refine ⟨layerB x, sheetB x, nameB x, rankN x, is_layer_str x h, is_sheet_str x h, is_name_str x h, rank_str x h, L_is_name_str x h, ?_, ?_⟩
      · unfold rankN
        cases layerB x
        · rfl
        · by_cases h5 : 45 ∈ x <;> simp [h5]
      · unfold rankN sheetB
        cases layerB x
        · rfl
        · by_cases h5 : 45 ∈ x <;> simp [h5]
    | _ => exact absurd h ho
theorem eq_bools (a b c : Bool) : eqD (.lst [.bl a, .bl b, .bl c]) (.lst [.bl a, .bl b, .bl c]) = some true :=
  eqD_self (shp_of (n := 1) (by simp only [D.layB, D.layL, Bool.and_self]) (by decide))
theorem right_ok {d : D} (h : Fit d) (b : Bool) : F_L_right [d, .bl b] = some (.bl true) := by
  obtain ⟨l, s, n, r, A⟩ := fit_ans h
  have f1 : Z_L_right.F 1 = F_is_layer := id rfl
  have f2 : Z_L_right.F 2 = F_is_sheet := id rfl
  have f10 : Z_L_right.F 10 = F_is_name := id rfl
  have f31 : Z_L_right.F 31 = F_L_rank := id rfl
  have f32 : Z_L_right.F 32 = F_L_is_name := id rfl
  unfold F_L_right evF ir_L_right
  rw [if_pos (show [d, D.bl b].length = 2 from rfl)]
  simp only [startD]
  cases b
  · (rw [evSs_consR]; generalize hRx : Pv.rest _ _ = Rx; simp [f1, f2, f10, A.a1, A.a2, A.a3] <;> (subst hRx; first | rw [rest_nx] | (simp only [rest_rt, rest_bk, rest_ct, bind_someX, endD_rt]) | skip))
    (rw [evSs_consR]; generalize hRx : Pv.rest _ _ = Rx; simp [forL_cons, isi1, isIns] <;> (subst hRx; first | rw [rest_nx] | (simp only [rest_rt, rest_bk, rest_ct, bind_someX, endD_rt]) | skip))
    (rw [evSs_consR]; generalize hRx : Pv.rest _ _ = Rx; simp [f31, A.a4] <;> (subst hRx; first | rw [rest_nx] | (simp only [rest_rt, rest_bk, rest_ct, bind_someX, endD_rt]) | skip))
    have hp := A.p
    have hq := A.q
    (rw [evSs_consR]; generalize hRx : Pv.rest _ _ = Rx; simp [f32, A.a5, hp, hq, eq_bools] <;> (subst hRx; first | rw [rest_nx] | (simp only [rest_rt, rest_bk, rest_ct, bind_someX, endD_rt]) | skip))
  · (rw [evSs_consR]; generalize hRx : Pv.rest _ _ = Rx; simp [f1, f2, f10, A.a1, A.a2, A.a3, permL] <;> (subst hRx; first | rw [rest_nx] | (simp only [rest_rt, rest_bk, rest_ct, bind_someX, endD_rt]) | skip))
    (rw [evSs_consR]; generalize hRx : Pv.rest _ _ = Rx; simp [forL_cons, isi1, isIns] <;> (subst hRx; first | rw [rest_nx] | (simp only [rest_rt, rest_bk, rest_ct, bind_someX, endD_rt]) | skip))
    (rw [evSs_consR]; generalize hRx : Pv.rest _ _ = Rx; simp [f31, A.a4] <;> (subst hRx; first | rw [rest_nx] | (simp only [rest_rt, rest_bk, rest_ct, bind_someX, endD_rt]) | skip))
    have hp := A.p
    have hq := A.q
    (rw [evSs_consR]; generalize hRx : Pv.rest _ _ = Rx; simp [f32, A.a5, hp, hq, eq_bools] <;> (subst hRx; first | rw [rest_nx] | (simp only [rest_rt, rest_bk, rest_ct, bind_someX, endD_rt]) | skip))
end K00

set_option Elab.async false
set_option linter.all false
set_option maxRecDepth 100000
set_option maxHeartbeats 4000000
namespace K00
open PySem L2 Pv

theorem law_core {ns : List Int} {vs : List D} (h1 : F_L_values [.scr ns] = some (.lst vs)) (hv : ∀ d ∈ vs, Fit d) (hn : vs.length ≤ 1000) (hb : D.beqL vs vs = true) (hd : D.deepL vs 40 = true) : F_law [.scr ns] = some (.bl true) := by
  have f34 : Z_law.F 34 = F_L_values := id rfl
  have f33 : Z_law.F 33 = F_L_right := id rfl
  have f12 : Z_law.F 12 = F_Stock___init__ := id rfl
  obtain ⟨n1, v1, s1⟩ := isStock_ok stock1
  obtain ⟨n0, v0, s0⟩ := isStock_ok stock0
  have q1 := right_ok (d := .ins "Stock" n1 v1) (by simp only [Fit, Oth]) false
  have q0 := right_ok (d := .ins "Stock" n0 v0) (by simp only [Fit, Oth]) true
  have okn : okR (vs.length : Int) = true := by unfold okR; simp; omega
  unfold F_law evF ir_law
  rw [if_pos (show [D.scr ns].length = 1 from rfl)]
  simp only [startD]
  (rw [evSs_consR]; generalize hRx : Pv.rest _ _ = Rx; simp [f34, h1] <;> (subst hRx; first | rw [rest_nx] | (simp only [rest_rt, rest_bk, rest_ct, bind_someX, endD_rt]) | skip))
  rw [evSs_consR]
  obtain ⟨σ', k1, z2, rfl⟩ := forL_ex (t := .nm 2) (f := evSs Z_law [.ifs (.not (.call 33 [.v 2, .c (.bl false)])) [.ret (.c (.bl false))] []]) (fun σ => ∃ z2, σ = [.v (.scr ns), .v (.lst vs), z2, .no]) (ds := vs) (σ := [.v (.scr ns), .v (.lst vs), .no, .no]) ⟨_, rfl⟩ (by
    rintro d hd' σ ⟨z2, rfl⟩
    refine ⟨_, [.v (.scr ns), .v (.lst vs), .v d, .no], rfl, ?_, _, rfl⟩
    have r := right_ok (hv d hd') false
    simp [f33, r])
  have e1 : evS Z_law (.for_ (.nm 2) (.seq (.v 1)) [.ifs (.not (.call 33 [.v 2, .c (.bl false)])) [.ret (.c (.bl false))] []]) [.v (.scr ns), .v (.lst vs), .no, .no] = some (.nx [.v (.scr ns), .v (.lst vs), z2, .no]) := by
    rw [← k1]; simp
  rw [e1, bind_someX, rest_nx]
  (rw [evSs_consR]; generalize hRx : Pv.rest _ _ = Rx; simp [f33, f12, s1, s0, q1, q0] <;> (subst hRx; first | rw [rest_nx] | (simp only [rest_rt, rest_bk, rest_ct, bind_someX, endD_rt]) | skip))
  rw [evSs_consR]
  obtain ⟨σ', k2, z3, rfl⟩ := forL_ex (t := .nm 3) (f := evSs Z_law [.ifs (.not (.call 33 [.ix (.v 1) (.bin .sub (.bin .sub (.blt .len [.v 1]) (.c (.int 1))) (.v 3)), .c (.bl true)])) [.ret (.c (.bl false))] []]) (fun σ => ∃ z3, σ = [.v (.scr ns), .v (.lst vs), z2, z3]) (ds := rngD 0 vs.length) (σ := [.v (.scr ns), .v (.lst vs), z2, .no]) ⟨_, rfl⟩ (by
    rintro d hd' σ ⟨z3, rfl⟩
    rw [rng_eq, List.mem_map] at hd'
    obtain ⟨k, hk, rfl⟩ := hd'
    have hk : k < vs.length := List.mem_range.mp hk
    have hj : vs.length - 1 - k < vs.length := by omega
    have at' : atI vs ((vs.length : Int) - 1 - (k : Int)) = some vs[vs.length - 1 - k] := by
      have := atI_k hj
      rw [show ((vs.length - 1 - k : Nat) : Int) = (vs.length : Int) - 1 - (k : Int) by omega] at this
      exact this
    refine ⟨[.v (.scr ns), .v (.lst vs), z2, .v (.int (k : Nat))], [.v (.scr ns), .v (.lst vs), z2, .v (.int (k : Nat))], by simp, ?_, _, rfl⟩
    have r := right_ok (hv _ (List.getElem_mem hj)) true
    simp [f33, at', r])
  have e2 : evS Z_law (.for_ (.nm 3) (.r1 (.blt .len [.v 1])) [.ifs (.not (.call 33 [.ix (.v 1) (.bin .sub (.bin .sub (.blt .len [.v 1]) (.c (.int 1))) (.v 3)), .c (.bl true)])) [.ret (.c (.bl false))] []]) [.v (.scr ns), .v (.lst vs), z2, .no] = some (.nx [.v (.scr ns), .v (.lst vs), z2, z3]) := by
    rw [← k2]; simp [okn]
  rw [e2, bind_someX, rest_nx]
  (rw [evSs_consR]; generalize hRx : Pv.rest _ _ = Rx; simp [f34, h1, sameD, hb, hd] <;> (subst hRx; first | rw [rest_nx] | (simp only [rest_rt, rest_bk, rest_ct, bind_someX, endD_rt]) | skip))
/-! ### draws -/
theorem cell_ok (ns : List Int) (k : Nat) (hk : k < 1000) : IsI (F_L_cell [.scr ns, .int k]) := by
  by_cases h : (k : Int) < ns.length
  · have hk2 : k < ns.length := by omega
    have e : atI ns (k : Int) = some ns[k] := atI_nat (by simp [hk2])
    simp [F_L_cell, evF, ir_L_cell, Z_L_cell, startD, h, e, IsI]
  · simp [F_L_cell, evF, ir_L_cell, Z_L_cell, startD, h]
    refine loop_thenE (P := fun o => IsI (o.bind endD)) (fun i σ => ∃ s x, σ = [.v (.scr ns), .v (.int k), .v (.int s), x] ∧ 0 ≤ s ∧ s < 1000003) ⟨17, .no, rfl, by decide, by decide⟩ ?_ ?_
    · rintro i d σ hd ⟨s, x, rfl, h1, h2⟩
      rw [List.getElem?_map] at hd
      obtain ⟨z, hz, rfl⟩ := mpd hd
      have m1 : mulOk s 31 = true := mulOk_of (a := 20) (b := 5) (by omega) (by decide) (by decide) (by decide) (by decide)
      obtain ⟨a1, a2⟩ := fmodp (s * 31 + z.fmod 1000003) 1000003 (by decide)
      exact ⟨_, [.v (.scr ns), .v (.int k), .v (.int ((s * 31 + z.fmod 1000003).fmod 1000003)), .v (.int z)], rfl, .inl (by simp [m1]), _, _, rfl, a1, a2⟩
    · rintro σ ⟨s, x, rfl, h1, h2⟩
      have m1 : mulOk (s + 7) (k + 3) = true := mulOk_of (a := 21) (b := 11) (by omega) (by omega) (by decide) (by decide) (by decide)
      have m2 : mulOk ((s + 7) * (k + 3)) 69621 = true := mulOk_of (a := 32) (b := 17) (wide_lt (a := 21) (b := 11) (by omega) (by omega)) (by decide) (by decide) (by decide) (by decide)
      simp [m1, m2, IsI]
theorem draw_ok (ns : List Int) (k : Nat) (hk : k < 1000) (ss : List Int) (hl : ss.length < 1000) (hs : ∀ s ∈ ss, 0 < s ∧ s < 2 ^ 60) : ∃ ds, F_L_draw [.scr ns, .int k, .lst (ss.map .int)] = some (.lst (ds.map .int)) ∧ Dg ds ss := by
  have p1 : powOk 10 18 = true := by decide
  obtain ⟨z, hz⟩ := cell_ok ns k hk
  have f24 : Z_L_draw.F 24 = F_L_cell := id rfl
  have m7 : mulOk 7919 (k : Int) = true := mulOk_of (a := 13) (b := 10) (by decide) (by omega) (by decide) (by decide) (by decide)
  unfold F_L_draw evF ir_L_draw
  rw [if_pos (show [D.scr ns, .int (k : Int), .lst (ss.map .int)].length = 3 from rfl)]
  simp only [startD]
  by_cases h : (1000000000000000000 : Int) ≤ z
  · simp [f24, hz, h, p1]
    refine loop_thenE (P := fun o => ∃ ds, ((o.bind _).bind endD) = some (.lst (ds.map D.int)) ∧ Dg ds ss) (fun i σ => ∃ acc r x, σ = [.v (.scr ns), .v (.int k), .v (.lst (ss.map .int)), .o (.lst (acc.map .int)), .v (.int r), .no, .no, x, .no] ∧ Dg acc (ss.take i)) ⟨[], _, _, rfl, trivial⟩ ?_ ?_
    · rintro i d σ hd ⟨acc, r, x, rfl, hD⟩
      rw [List.getElem?_map] at hd
      obtain ⟨s, hz, rfl⟩ := mpd hd
      obtain ⟨s0, s1⟩ := hs s (List.mem_of_getElem? hz)
      have hlen : acc.length < 16777216 := by
        have := hD.len
        have h9 : (ss.take i).length ≤ ss.length := by rw [List.length_take]; omega
        omega
      have s2 : ¬ s = 0 := by omega
      have d1 : divOk s = true := divOk_of (b := 60) (by omega) (by omega) (by decide) (by decide)
      obtain ⟨a1, a2⟩ := fmodp r s s0
      refine ⟨_, [.v (.scr ns), .v (.int k), .v (.lst (ss.map .int)), .o (.lst ((acc ++ [r.fmod s]).map .int)), .v (.int (r.fdiv s)), .no, .no, .v (.int s), .no], rfl, .inl (by simp [s2, d1, hlen]), _, _, _, rfl, ?_⟩
      rw [take_snoc hz]
      exact hD.snoc a1 a2
    · rintro σ ⟨acc, r, x, rfl, hD⟩
      refine ⟨acc, by simp, ?_⟩
      rw [List.length_map, List.take_length] at hD
      exact hD
  · have r1 : okR (ss.length : Int) = true := by simp [okR]; omega
    obtain ⟨b1, b2⟩ := fmodp (z + 7919 * (k : Int)) 2147483629 (by decide)
    simp [f24, hz, h, p1, r1, m7]
    refine loop_thenE (P := fun o => ∃ ds, (o.bind endD) = some (.lst (ds.map D.int)) ∧ Dg ds ss) (fun i σ => ∃ acc s r x6 x7 x8, σ = [.v (.scr ns), .v (.int k), .v (.lst (ss.map .int)), .o (.lst (acc.map .int)), .v (.int r), .v (.int s), x6, x7, x8] ∧ Dg acc (ss.take i) ∧ 0 ≤ s ∧ s < 2147483647) ⟨[], _, _, _, _, _, rfl, trivial, b1, by omega⟩ ?_ ?_
    · rintro i d σ hd ⟨acc, s, r, x6, x7, x8, rfl, hD, h1, h2⟩
      have hi : i < ss.length := by
        have := (List.getElem?_eq_some_iff.mp hd).1
        rw [rng_len] at this; exact this
      rw [rng_get _ _ _ hi] at hd
      cases hd
      have hz : ss[i]? = some ss[i] := by simp [hi]
      obtain ⟨s0, s1⟩ := hs ss[i] (List.getElem_mem hi)
      have hlen : acc.length < 16777216 := by
        have := hD.len
        have h9 : (ss.take i).length ≤ ss.length := by rw [List.length_take]; omega
        omega
      have s2 : ¬ ss[i] = 0 := by omega
      have m1 : mulOk s 48271 = true := mulOk_of (a := 31) (b := 16) (by omega) (by decide) (by decide) (by decide) (by decide)
      have m2 : mulOk 974711 (i : Int) = true := mulOk_of (a := 20) (b := 10) (by decide) (by omega) (by decide) (by decide) (by decide)
      obtain ⟨a1, a2⟩ := fmodp (s * 48271 + 974711 * i + 12345) 2147483647 (by decide)
      generalize hs' : (s * 48271 + 974711 * (i : Int) + 12345).fmod 2147483647 = s' at a1 a2
      obtain ⟨c1, c2⟩ := fdivp s' 65537 a1 (by decide)
      have d1 : divOk 65537 = true := by decide
      have d2 : divOk 19 = true := by decide
      have m3 : mulOk s' (s'.fdiv 65537 + 3) = true := mulOk_of (a := 31) (b := 32) (by omega) (by omega) (by decide) (by decide) (by decide)
      obtain ⟨e1, e2⟩ := fmodp (((s' * (s'.fdiv 65537 + 3)).fmod 2147483629).fdiv 19) ss[i] s0
      have hat : atI (ss.map D.int) (i : Int) = some (.int ss[i]) := atI_nat (by simp [hi])
      refine ⟨_, [.v (.scr ns), .v (.int k), .v (.lst (ss.map .int)), .o (.lst ((acc ++ [(((s' * (s'.fdiv 65537 + 3)).fmod 2147483629).fdiv 19).fmod ss[i]]).map .int)), .v (.int r), .v (.int s'), .v (.int i), x7, .v (.int ((s' * (s'.fdiv 65537 + 3)).fmod 2147483629))], rfl, .inl (by simp [m1, m2, hs', d1, d2, m3, hat, s2, hlen]), _, _, _, _, _, _, rfl, ?_, a1, a2⟩
      rw [take_snoc hz]
      exact hD.snoc e1 e2
    · rintro σ ⟨acc, s, r, x6, x7, x8, rfl, hD, h1, h2⟩
      refine ⟨acc, by simp, ?_⟩
      rw [rng_len, List.take_length] at hD
      exact hD
end K00

set_option Elab.async false
set_option linter.all false
set_option maxRecDepth 100000
set_option maxHeartbeats 4000000
namespace K00
open PySem L2 Pv

def dig (ds : List Int) (k : Nat) : Int := ds[k]?.getD 0
theorem at_digit {ds : List Int} {k : Nat} (h : k < ds.length) : atI (ds.map D.int) (k : Int) = some (.int (dig ds k)) := by
  have := atG ds k h
  rw [List.getD_eq_getElem?_getD] at this
  exact this
theorem at_in {xs : List Nat} {i : Int} (h0 : 0 ≤ i) (h1 : i < xs.length) : ∃ c, atI xs i = some c := let ⟨c, h, _⟩ := atI_in h0 h1; ⟨c, h⟩
theorem name_ok (ds : List Int) (h9 : 9 ≤ ds.length) (h0 : 0 ≤ dig ds 0 ∧ dig ds 0 < 8) (hs : ∀ k, 1 ≤ k → k ≤ 8 → 0 ≤ dig ds k ∧ dig ds k < 36) : ∃ x, F_L_name [.lst (ds.map .int)] = some (.str x) ∧ 1 ≤ x.length ∧ x.length ≤ 8 := by
  have e0 : atI (ds.map D.int) 0 = some (.int (dig ds 0)) := at_digit (k := 0) (by omega)
  obtain ⟨n, hn⟩ : ∃ n : Nat, dig ds 0 + 1 = (n : Int) := ⟨(dig ds 0 + 1).toNat, by omega⟩
  have n1 : 1 ≤ n := by omega
  have n8 : n ≤ 8 := by omega
  have okn : okR (n : Int) = true := by unfold okR; simp; omega
  have l16 : n ≤ 16777216 := by omega
  have hS : ([97, 98, 99, 100, 101, 102, 103, 104, 105, 106, 107, 108, 109, 110, 111, 112, 113, 114, 115, 116, 117, 118, 119, 120, 121, 122, 48, 49, 50, 51, 52, 53, 54, 55, 56, 57] : List Nat) = ld36 := rfl
  have l36 : ld36.length ≤ 16777216 := by decide
  have e36 : (ld36.length : Int) = 36 := by decide
  have comp : ∀ σ : List Sl, getV σ 0 = some (.lst (ds.map .int)) → getV σ 1 = some (.str ld36) → 2 < σ.length → lcL (.nm 2) (evE Z_L_name (.c (.bl true))) (evE Z_L_name (.ix (.v 1) (.blt .int [.ix (.v 0) (.bin .add (.c (.int 1)) (.v 2))]))) σ (rngD 0 n) = some ((List.range n).map fun k => D.str [(atI ld36 (dig ds (1 + k))).getD 0]) := by
    intro σ s0 s1 sl
    refine lcL_rng (fun k => D.str [(atI ld36 (dig ds (1 + k))).getD 0]) fun k hk => ?_
    have q1 : atI (ds.map D.int) (1 + (k : Int)) = some (.int (dig ds (1 + k))) := by
      have := at_digit (ds := ds) (k := 1 + k) (by omega)
      rw [show ((1 + k : Nat) : Int) = 1 + (k : Int) by omega] at this
      exact this
    obtain ⟨b1, b2⟩ := hs (1 + k) (by omega) (by omega)
    obtain ⟨c, hc⟩ := at_in (xs := ld36) b1 (by omega)
    simp [getV_ne, getV_eq sl, s0, s1, q1, hc, l36]
  have jn : joinD (.str []) (.lst ((List.range n).map fun k => D.str [(atI ld36 (dig ds (1 + k))).getD 0])) = some (.str ((List.range n).map fun k => (atI ld36 (dig ds (1 + k))).getD 0)) := join_signsC _ n (by omega)
  refine ⟨(List.range n).map fun k => (atI ld36 (dig ds (1 + k))).getD 0, ?_, by simp; omega, by simp; omega⟩
  unfold F_L_name evF ir_L_name
  rw [if_pos (show [D.lst (ds.map .int)].length = 1 from rfl)]
  simp only [startD]
  (rw [evSs_consR]; generalize hRx : Pv.rest _ _ = Rx; simp [hS] <;> (subst hRx; first | rw [rest_nx] | (simp only [rest_rt, rest_bk, rest_ct, bind_someX, endD_rt]) | skip))
  (rw [evSs_consR]; generalize hRx : Pv.rest _ _ = Rx; simp [e0, hn, okn, rng_len, l16, wipeD, comp, jn, -joinD_lst] <;> (subst hRx; first | rw [rest_nx] | (simp only [rest_rt, rest_bk, rest_ct, bind_someX, endD_rt]) | skip))
def mrkL : List Nat := [46, 97, 98, 99, 100, 101, 102, 103, 104, 105, 106, 107, 108, 109, 110, 111, 112, 113, 114, 115, 116, 117, 118, 119, 120, 121, 122]
theorem inks_ok (d0 d1 d2 d3 d4 : Int) (h0 : 0 ≤ d0 ∧ d0 < 4) (h2 : 0 ≤ d2 ∧ d2 < 27) : ∃ x, F_L_inks [.lst [.int d0, .int d1, .int d2, .int d3, .int d4]] = some (.str x) ∧ 1 ≤ x.length ∧ x.length ≤ 100 := by
  have hM : ([46, 97, 98, 99, 100, 101, 102, 103, 104, 105, 106, 107, 108, 109, 110, 111, 112, 113, 114, 115, 116, 117, 118, 119, 120, 121, 122] : List Nat) = mrkL := rfl
  have hl : mrkL.length ≤ 16777216 := by decide
  have h27 : (mrkL.length : Int) = 27 := by decide
  unfold F_L_inks evF ir_L_inks
  rw [if_pos (show [D.lst [.int d0, .int d1, .int d2, .int d3, .int d4]].length = 1 from rfl)]
  simp only [startD]
  by_cases h : d0 = 0
  · refine ⟨mrkL, ?_, by decide, by decide⟩
    (rw [evSs_consR]; generalize hRx : Pv.rest _ _ = Rx; simp [hM] <;> (subst hRx; first | rw [rest_nx] | (simp only [rest_rt, rest_bk, rest_ct, bind_someX, endD_rt]) | skip))
    (rw [evSs_consR]; generalize hRx : Pv.rest _ _ = Rx; simp [h] <;> (subst hRx; first | rw [rest_nx] | (simp only [rest_rt, rest_bk, rest_ct, bind_someX, endD_rt]) | skip))
  · obtain ⟨f, hf, f0, f1⟩ : ∃ f : Int, (d2 * (if d1 < 2 then 1 else 0)) = f ∧ 0 ≤ f ∧ f < 27 := by
      refine ⟨_, rfl, ?_, ?_⟩ <;> split <;> omega
    have mo : mulOk d2 (if d1 < 2 then 1 else 0) = true := by
      refine mulOk_of (a := 5) (b := 1) (by omega) ?_ (by decide) (by decide) (by decide)
      split <;> decide
    obtain ⟨a, ha⟩ := at_in (xs := mrkL) f0 (by omega)
    have p1 := fmodp (f + 1 + d3) 27 (by decide)
    have p2 := fmodp (f + 1 + d4) 27 (by decide)
    have p3 := fmodp (f + 26) 27 (by decide)
    obtain ⟨b, hb⟩ := at_in (xs := mrkL) p1.1 (by omega)
    obtain ⟨v, hv, v2, v3⟩ : ∃ v : Nat, atI [D.int 3, .int 3, .int 3, .int 2] d0 = some (.int (v : Nat)) ∧ 2 ≤ v ∧ v ≤ 3 := by
      have : d0 = 1 ∨ d0 = 2 ∨ d0 = 3 := by omega
      rcases this with rfl | rfl | rfl
      · exact ⟨3, by simp, by decide, by decide⟩
      · exact ⟨3, by simp, by decide, by decide⟩
      · exact ⟨2, by simp, by decide, by decide⟩
    have fin : ∀ c : Nat, ∃ x, slD none (some (v : Int)) (.str [a, b, c]) = some (.str x) ∧ 1 ≤ x.length ∧ x.length ≤ 100 := by
      intro c
      refine ⟨[a, b, c].take v, ?_, by simp; omega, by simp; omega⟩
      simp [slD, cutS_to]
    by_cases e : (f + 1 + d4).fmod 27 = (f + 1 + d3).fmod 27
    · obtain ⟨c, hc⟩ := at_in (xs := mrkL) p3.1 (by omega)
      obtain ⟨x, hx, x1, x2⟩ := fin c
      refine ⟨x, ?_, x1, x2⟩
      (rw [evSs_consR]; generalize hRx : Pv.rest _ _ = Rx; simp [hM] <;> (subst hRx; first | rw [rest_nx] | (simp only [rest_rt, rest_bk, rest_ct, bind_someX, endD_rt]) | skip))
      (rw [evSs_consR]; generalize hRx : Pv.rest _ _ = Rx; simp [h] <;> (subst hRx; first | rw [rest_nx] | (simp only [rest_rt, rest_bk, rest_ct, bind_someX, endD_rt]) | skip))
      (rw [evSs_consR]; generalize hRx : Pv.rest _ _ = Rx; simp [mo, hf] <;> (subst hRx; first | rw [rest_nx] | (simp only [rest_rt, rest_bk, rest_ct, bind_someX, endD_rt]) | skip))
      (rw [evSs_consR]; generalize hRx : Pv.rest _ _ = Rx; simp [] <;> (subst hRx; first | rw [rest_nx] | (simp only [rest_rt, rest_bk, rest_ct, bind_someX, endD_rt]) | skip))
      (rw [evSs_consR]; generalize hRx : Pv.rest _ _ = Rx; simp [] <;> (subst hRx; first | rw [rest_nx] | (simp only [rest_rt, rest_bk, rest_ct, bind_someX, endD_rt]) | skip))
      (rw [evSs_consR]; generalize hRx : Pv.rest _ _ = Rx; simp [e] <;> (subst hRx; first | rw [rest_nx] | (simp only [rest_rt, rest_bk, rest_ct, bind_someX, endD_rt]) | skip))
      (rw [evSs_consR]; generalize hRx : Pv.rest _ _ = Rx; simp [hl, ha, hb, hc, hv, hx] <;> (subst hRx; first | rw [rest_nx] | (simp only [rest_rt, rest_bk, rest_ct, bind_someX, endD_rt]) | skip))
    · obtain ⟨c, hc⟩ := at_in (xs := mrkL) p2.1 (by omega)
      obtain ⟨x, hx, x1, x2⟩ := fin c
      refine ⟨x, ?_, x1, x2⟩
      (rw [evSs_consR]; generalize hRx : Pv.rest _ _ = Rx; simp [hM] <;> (subst hRx; first | rw [rest_nx] | (simp only [rest_rt, rest_bk, rest_ct, bind_someX, endD_rt]) | skip))
      (rw [evSs_consR]; generalize hRx : Pv.rest _ _ = Rx; simp [h] <;> (subst hRx; first | rw [rest_nx] | (simp only [rest_rt, rest_bk, rest_ct, bind_someX, endD_rt]) | skip))
      (rw [evSs_consR]; generalize hRx : Pv.rest _ _ = Rx; simp [mo, hf] <;> (subst hRx; first | rw [rest_nx] | (simp only [rest_rt, rest_bk, rest_ct, bind_someX, endD_rt]) | skip))
      (rw [evSs_consR]; generalize hRx : Pv.rest _ _ = Rx; simp [] <;> (subst hRx; first | rw [rest_nx] | (simp only [rest_rt, rest_bk, rest_ct, bind_someX, endD_rt]) | skip))
      (rw [evSs_consR]; generalize hRx : Pv.rest _ _ = Rx; simp [] <;> (subst hRx; first | rw [rest_nx] | (simp only [rest_rt, rest_bk, rest_ct, bind_someX, endD_rt]) | skip))
      (rw [evSs_consR]; generalize hRx : Pv.rest _ _ = Rx; simp [e] <;> (subst hRx; first | rw [rest_nx] | (simp only [rest_rt, rest_bk, rest_ct, bind_someX, endD_rt]) | skip))
      (rw [evSs_consR]; generalize hRx : Pv.rest _ _ = Rx; simp [hl, ha, hb, hc, hv, hx] <;> (subst hRx; first | rw [rest_nx] | (simp only [rest_rt, rest_bk, rest_ct, bind_someX, endD_rt]) | skip))
def layB : List S := [.asg (.nm 4) (.bin .add (.v 4) (.ix (.lst [.c (.str [45]), .ix (.v 0) (.bin .mod (.bin .fdiv (.blt .int [.ix (.v 2) (.v 5)]) (.c (.int 4))) (.blt .len [.v 0]))]) (.blt .int [.cmp .ge (.bin .mod (.blt .int [.ix (.v 2) (.v 5)]) (.c (.int 4))) (.v 1)])))]
theorem layer_ok (x : List Nat) (h1 : 1 ≤ x.length) (h2 : x.length ≤ 100) (share : Int) (ds : List Int) (n : Nat) (hn : n ≤ ds.length) (n1 : n ≤ 100) : ∃ y, F_L_layer [.str x, .int share, .lst (ds.map .int), .int (n : Nat)] = some (.str y) ∧ y.length = n := by
  have okn : okR (n : Int) = true := by unfold okR; simp; omega
  have l16 : x.length ≤ 16777216 := by omega
  have d4 : divOk 4 = true := by decide
  have x0 : ¬ x = [] := by rintro rfl; simp at h1
  obtain ⟨σ', k1, y, z5, rfl, k2⟩ := forL_inv (t := .nm 5) (f := evSs Z_L_layer layB) (ds := rngD 0 n) (k := 0) (σ := [.v (.str x), .v (.int share), .v (.lst (ds.map .int)), .v (.int (n : Nat)), .v (.str []), .no])
    (fun i σ => ∃ y z5, σ = [.v (.str x), .v (.int share), .v (.lst (ds.map .int)), .v (.int (n : Nat)), .v (.str y), z5] ∧ y.length = i) ⟨[], _, rfl, rfl⟩ (by
      rintro i d σ hd' ⟨y, z5, rfl, k2⟩
      have hi : i < n := by
        have := (List.getElem?_eq_some_iff.mp hd').1
        rw [rng_len] at this; exact this
      rw [rng_get _ _ _ hi] at hd'
      cases hd'
      rw [Nat.zero_add] at k2 ⊢
      rw [Int.zero_add]
      have q1 := at_digit (ds := ds) (k := i) (by omega)
      have q2 := (pick_at (menu := x) x0 ((dig ds i).fdiv 4)).1
      generalize dig ds i = v at q1 q2
      have ly : y.length + 1 ≤ 16777216 := by omega
      by_cases hs : share ≤ v.fmod 4
      · refine ⟨[.v (.str x), .v (.int share), .v (.lst (ds.map .int)), .v (.int (n : Nat)), .v (.str y), .v (.int (i : Nat))], [.v (.str x), .v (.int share), .v (.lst (ds.map .int)), .v (.int (n : Nat)), .v (.str (y ++ [pick x (v.fdiv 4)])), .v (.int (i : Nat))], by simp, .inl ?_, _, _, rfl, by simp [k2]⟩
        unfold layB
        (rw [evSs_consR]; generalize hRx : Pv.rest _ _ = Rx; simp [q1, q2, l16, d4, x0, hs, ly] <;> (subst hRx; first | rw [rest_nx] | (simp only [rest_rt, rest_bk, rest_ct, bind_someX, endD_rt]) | skip))
        simp
      · refine ⟨[.v (.str x), .v (.int share), .v (.lst (ds.map .int)), .v (.int (n : Nat)), .v (.str y), .v (.int (i : Nat))], [.v (.str x), .v (.int share), .v (.lst (ds.map .int)), .v (.int (n : Nat)), .v (.str (y ++ [45])), .v (.int (i : Nat))], by simp, .inl ?_, _, _, rfl, by simp [k2]⟩
        unfold layB
        (rw [evSs_consR]; generalize hRx : Pv.rest _ _ = Rx; simp [q1, q2, l16, d4, x0, hs, ly] <;> (subst hRx; first | rw [rest_nx] | (simp only [rest_rt, rest_bk, rest_ct, bind_someX, endD_rt]) | skip))
        simp)
  rw [rng_len, Nat.zero_add] at k2
  refine ⟨y, ?_, k2⟩
  unfold F_L_layer evF ir_L_layer
  rw [if_pos (show [D.str x, .int share, .lst (ds.map .int), .int (n : Int)].length = 4 from rfl)]
  simp only [startD]
  (rw [evSs_consR]; generalize hRx : Pv.rest _ _ = Rx; simp [] <;> (subst hRx; first | rw [rest_nx] | (simp only [rest_rt, rest_bk, rest_ct, bind_someX, endD_rt]) | skip))
  have e : evS Z_L_layer (.for_ (.nm 5) (.r1 (.v 3)) layB) [.v (.str x), .v (.int share), .v (.lst (ds.map .int)), .v (.int (n : Nat)), .v (.str []), .no] = some (.nx [.v (.str x), .v (.int share), .v (.lst (ds.map .int)), .v (.int (n : Nat)), .v (.str y), z5]) := by
    rw [← k1]; simp [okn]
  unfold layB at e
  rw [evSs_consR, e, bind_someX, rest_nx]
  (rw [evSs_consR]; generalize hRx : Pv.rest _ _ = Rx; simp [] <;> (subst hRx; first | rw [rest_nx] | (simp only [rest_rt, rest_bk, rest_ct, bind_someX, endD_rt]) | skip))
end K00

set_option Elab.async false
set_option linter.all false
set_option maxRecDepth 100000
set_option maxHeartbeats 4000000
namespace K00
open PySem L2 Pv

/-- a value that may be drawn -/
structure Good (d : D) : Prop where
  fit : Fit d
  same : D.beq d d = true
  deep : D.deep d 39 = true
def sg1 : List Nat := [32, 33, 34, 35, 36, 38, 39, 40, 41, 42, 43, 44, 45, 46, 47, 48, 49, 50, 51, 52, 53, 54, 55, 56, 57, 58, 59, 60, 61, 62, 63, 64, 65, 66, 67, 68, 69, 70, 71, 72, 73, 74, 75, 76, 77, 78, 79, 80, 81, 82, 83, 84, 85, 86, 87, 88, 89, 90, 91, 92, 93, 94, 95, 96, 97, 98, 99, 100, 101, 102, 103, 104, 105, 106, 107, 108, 109, 110, 111, 112, 113, 114, 115, 116, 117, 118, 119, 120, 121, 122, 123, 124, 125, 126, 10]
def sgA : List Nat := sg1 ++ [10, 32, 65, 95, 57, 43, 10, 32, 45]
def sgB : List Nat := sg1 ++ [10, 32, 65, 95, 57, 45, 10, 32, 45]
theorem good_str {x : List Nat} (h : x.length ≤ 16777216) : Good (.str x) := ⟨h, by simp [D.beq], by simp [D.deep]⟩
theorem good_oth {d : D} (h : Oth d) (h1 : D.beq d d = true) (h2 : D.deep d 39 = true) : Good d := ⟨by cases d <;> first | exact h | exact absurd h (by simp [Oth]), h1, h2⟩
theorem good_int (i : Int) : Good (.int i) := good_oth trivial (by simp [D.beq]) (by simp [D.deep])
theorem good_non : Good .non := good_oth trivial rfl rfl
theorem good_bl (b : Bool) : Good (.bl b) := good_oth trivial (by simp [D.beq]) (by simp [D.deep])
theorem beqL_strs (x : List Nat) : D.beqL (x.map fun c => D.str [c]) (x.map fun c => D.str [c]) = true := by
  induction x with
  | nil => rfl
  | cons c x ih => simp only [List.map_cons, D.beqL, ih, D.beq]; simp
theorem deepL_strs (n : Nat) (x : List Nat) : D.deepL (x.map fun c => D.str [c]) n = true := by
  induction x with
  | nil => rfl
  | cons c x ih => simp only [List.map_cons, D.deepL, ih, D.deep]; rfl
theorem good_signsL (x : List Nat) : Good (.lst (x.map fun c => D.str [c])) := good_oth trivial (by simp only [D.beq]; exact beqL_strs x) (by simp only [D.deep]; exact deepL_strs _ x)
theorem good_signsT (x : List Nat) : Good (.tup (x.map fun c => D.str [c])) := good_oth trivial (by simp only [D.beq]; exact beqL_strs x) (by simp only [D.deep]; exact deepL_strs _ x)
theorem good_dct0 : Good (.dct [] []) := good_oth trivial rfl rfl
theorem good_dct1 (x : List Nat) : Good (.dct [.str x] [.str x]) := good_oth trivial (by simp [D.beq, D.beqL]) (by simp [D.deep, D.deepL, distinctK])
theorem ne_key {a b : Nat} (h : a ≠ b) : (Sum.inr (mkS [b]) : Key) ≠ .inr (mkS [a]) := by
  intro z
  have := mkS_eq.mp (Sum.inr.inj z)
  exact h (by simpa using this.symm)
theorem good_dct2 {a b : Nat} (h : a ≠ b) (p : Int) (x : List Nat) : dctD [.str [a], .str [b]] [.int p, .str x] = some (.dct [.str [a], .str [b]] [.int p, .str x]) ∧ Good (.dct [.str [a], .str [b]] [.int p, .str x]) := by
  have e : distinctK [some (.inr (mkS [a])), some (.inr (mkS [b]))] = true := by simp [distinctK, ne_key h]
  refine ⟨by simp [dctD, e], good_oth trivial (by simp [D.beq, D.beqL]) ?_⟩
  simp only [D.deep, List.map_cons, List.map_nil, key_str, e, D.deepL, Bool.and_self]
theorem dct1 (x : List Nat) : dctD [.str x] [.str x] = some (.dct [.str x] [.str x]) := by simp [dctD, distinctK]
theorem dct0 : dctD [] [] = some (.dct [] []) := by simp [dctD, distinctK]
/-- out of some values by a remainder -/
theorem out_of {ds : List D} {w : Int} (hw : (ds.length : Int) = w) (h0 : 0 < w) (hg : ∀ d ∈ ds, Good d) (z : Int) : ∃ d, atI ds (z.fmod w) = some d ∧ Good d := by
  obtain ⟨a, b⟩ := fmodp z w h0
  obtain ⟨d, h1, h2⟩ := atI_in (xs := ds) a (by omega)
  exact ⟨d, h1, hg d h2⟩
theorem lens_ok (d1 : Int) (h : 0 ≤ d1 ∧ d1 < 40) : ∃ L : Nat, L ≤ 33 ∧ atI [.int d1, D.int 0, .int 1, .int 30, .int 31, .int 30, .int 31] (if 33 < d1 then d1 - 33 else 0) = some (.int (L : Nat)) := by
  by_cases h1 : d1 ≤ 33
  · rw [if_neg (by omega)]
    refine ⟨d1.toNat, by omega, ?_⟩
    rw [Int.toNat_of_nonneg h.1]; simp
  · rw [if_pos (by omega)]
    have : d1 = 34 ∨ d1 = 35 ∨ d1 = 36 ∨ d1 = 37 ∨ d1 = 38 ∨ d1 = 39 := by omega
    rcases this with rfl | rfl | rfl | rfl | rfl | rfl
    · exact ⟨0, by decide, by simp⟩
    · exact ⟨1, by decide, by simp⟩
    · exact ⟨30, by decide, by simp⟩
    · exact ⟨31, by decide, by simp⟩
    · exact ⟨30, by decide, by simp⟩
    · exact ⟨31, by decide, atI_of (by decide) rfl⟩
def valS : List Int := [16, 40, 4, 27, 26, 25, 6, 34, 104, 34, 104] ++ List.replicate 34 112
theorem dg_dig {ds ss : List Int} (h : Dg ds ss) {k : Nat} {s : Int} (hs : ss[k]? = some s) : atI (ds.map D.int) (k : Int) = some (.int (dig ds k)) ∧ 0 ≤ dig ds k ∧ dig ds k < s := by
  obtain ⟨d, h1, h2, h3⟩ := h.get hs
  have e : dig ds k = d := by unfold dig; rw [h1]; rfl
  rw [e]
  refine ⟨?_, h2, h3⟩
  exact atI_nat (by rw [List.getElem?_map, h1]; rfl)
theorem value_ok (z : Int) (ds : List Int) (hD : Dg ds valS) : ∃ d, F_L_value [.int z, .lst (ds.map .int)] = some d ∧ Good d := by
  have hlen : ds.length = 45 := hD.len
  have f26 : Z_L_value.F 26 = F_L_inks := id rfl
  have f27 : Z_L_value.F 27 = F_L_layer := id rfl
  obtain ⟨e0, p0, q0⟩ := dg_dig hD (k := 0) rfl
  obtain ⟨e1, p1, q1⟩ := dg_dig hD (k := 1) rfl
  obtain ⟨e2, p2, q2⟩ := dg_dig hD (k := 2) rfl
  obtain ⟨e3, p3, q3⟩ := dg_dig hD (k := 3) rfl
  obtain ⟨e6, p6, q6⟩ := dg_dig hD (k := 6) rfl
  obtain ⟨e7, p7, q7⟩ := dg_dig hD (k := 7) rfl
  obtain ⟨e8, p8, q8⟩ := dg_dig hD (k := 8) rfl
  obtain ⟨e9, p9, q9⟩ := dg_dig hD (k := 9) rfl
  obtain ⟨e10, p10, q10⟩ := dg_dig hD (k := 10) rfl
  have e0' : atI (ds.map D.int) 0 = some (.int (dig ds 0)) := e0
  have e1' : atI (ds.map D.int) 1 = some (.int (dig ds 1)) := e1
  have e2' : atI (ds.map D.int) 2 = some (.int (dig ds 2)) := e2
  have e6' : atI (ds.map D.int) 6 = some (.int (dig ds 6)) := e6
  have e7' : atI (ds.map D.int) 7 = some (.int (dig ds 7)) := e7
  have e8' : atI (ds.map D.int) 8 = some (.int (dig ds 8)) := e8
  have e9' : atI (ds.map D.int) 9 = some (.int (dig ds 9)) := e9
  have e10' : atI (ds.map D.int) 10 = some (.int (dig ds 10)) := e10
  obtain ⟨L, hL, hLa⟩ := lens_ok (dig ds 1) ⟨p1, q1⟩
  have sl36 : cutD (ds.map D.int) (some 3) (some 6) = [.int (dig ds 3), .int (dig ds 4), .int (dig ds 5)] := by
    rw [cut_mid _ _ _ (by decide) (by decide)]
    apply List.ext_getElem?
    intro k
    simp only [List.getElem?_take, List.getElem?_drop, List.getElem?_map]
    match k with
    | 0 => have := dg_dig hD (k := 3) (s := 27) rfl; simp [dig, hlen]
    | 1 => simp [dig, hlen]
    | 2 => simp [dig, hlen]
    | k + 3 => simp; intro h; omega
  have sl11 : cutD (ds.map D.int) (some 11) none = (ds.drop 11).map D.int := by
    rw [cut_from _ _ (by decide), List.map_drop]; rfl
  obtain ⟨ink, hi1, hi2, hi3⟩ := inks_ok (dig ds 2) 0 (dig ds 3) (dig ds 4) (dig ds 5) ⟨p2, q2⟩ ⟨p3, q3⟩
  obtain ⟨sh, hsh⟩ : ∃ s : Int, atI [D.int 0, .int 1, .int 2, .int 3, .int 4, .int 0] (dig ds 6) = some (.int s) := by
    obtain ⟨v, hv, _⟩ := atI_in (xs := [(0 : Int), 1, 2, 3, 4, 0]) p6 (by simp; omega)
    have := atI_map D.int [(0 : Int), 1, 2, 3, 4, 0] (dig ds 6)
    rw [hv] at this
    exact ⟨v, by simpa using this⟩
  obtain ⟨t, ht1, ht2⟩ := layer_ok ink hi2 hi3 sh (ds.drop 11) L (by rw [List.length_drop]; omega) (by omega)
  have ht1' := ht1
  rw [List.map_drop] at ht1'
  have sl11' : cutD (ds.map D.int) (some 11) none = (ds.map D.int).drop 11 := by rw [sl11, List.map_drop]
  obtain ⟨M, hM, hM1⟩ : ∃ M : Nat, (if (1 : Int) < (L : Int) then (L : Int) else 1) = (M : Int) ∧ 1 ≤ M := ⟨if 1 < L then L else 1, by split <;> split <;> omega, by split <;> omega⟩
  obtain ⟨a7, b7⟩ := fmodp (dig ds 7) M (by omega)
  obtain ⟨a9, b9⟩ := fmodp (dig ds 9) M (by omega)
  obtain ⟨p, hp⟩ : ∃ p : Nat, (dig ds 7).fmod M = (p : Int) := ⟨((dig ds 7).fmod M).toNat, by omega⟩
  obtain ⟨o, ho⟩ : ∃ p : Nat, (dig ds 9).fmod M = (p : Int) := ⟨((dig ds 9).fmod M).toNat, by omega⟩
  have hS1 : sg1 ++ [10, 32, 65, 95, 57, 43, 10, 32, 45] = sgA := rfl
  have hS0 : ([32, 33, 34, 35, 36, 38, 39, 40, 41, 42, 43, 44, 45, 46, 47, 48, 49, 50, 51, 52, 53, 54, 55, 56, 57, 58, 59, 60, 61, 62, 63, 64, 65, 66, 67, 68, 69, 70, 71, 72, 73, 74, 75, 76, 77, 78, 79, 80, 81, 82, 83, 84, 85, 86, 87, 88, 89, 90, 91, 92, 93, 94, 95, 96, 97, 98, 99, 100, 101, 102, 103, 104, 105, 106, 107, 108, 109, 110, 111, 112, 113, 114, 115, 116, 117, 118, 119, 120, 121, 122, 123, 124, 125, 126, 10] : List Nat) = sg1 := rfl
  have l1 : sg1.length + 9 ≤ 16777216 := by decide
  have M0 : ¬ M = 0 := by omega
  let SC : List Nat → List Sl := fun t => [.v (.int z), .v (.lst (ds.map .int)), .v (.int (L : Nat)), .v (.str t), .v (.str sgA), .v (.int (p : Nat)), .v (.int (o : Nat)), .v (.int (dig ds 0)), .no, .no]
  have start : ∀ r, (evSs Z_L_value (ir_L_value.drop 7) (SC t)).bind endD = r → F_L_value [.int z, .lst (ds.map .int)] = r := by
    intro r hr
    unfold F_L_value evF ir_L_value
    rw [if_pos (show [D.int z, .lst (ds.map .int)].length = 2 from rfl)]
    simp only [startD]
    (rw [evSs_consR]; generalize hRx : Pv.rest _ _ = Rx; simp [e1', hLa] <;> (subst hRx; first | rw [rest_nx] | (simp only [rest_rt, rest_bk, rest_ct, bind_someX, endD_rt]) | skip))
    (rw [evSs_consR]; generalize hRx : Pv.rest _ _ = Rx; simp [f26, f27, e2', slD, sl36, hi1, e6', hsh, sl11', ht1'] <;> (subst hRx; first | rw [rest_nx] | (simp only [rest_rt, rest_bk, rest_ct, bind_someX, endD_rt]) | skip))
    (rw [evSs_consR]; generalize hRx : Pv.rest _ _ = Rx; simp [hS0] <;> (subst hRx; first | rw [rest_nx] | (simp only [rest_rt, rest_bk, rest_ct, bind_someX, endD_rt]) | skip))
    (rw [evSs_consR]; generalize hRx : Pv.rest _ _ = Rx; simp [hS1, l1] <;> (subst hRx; first | rw [rest_nx] | (simp only [rest_rt, rest_bk, rest_ct, bind_someX, endD_rt]) | skip))
    (rw [evSs_consR]; generalize hRx : Pv.rest _ _ = Rx; simp [e7', hM, M0, hp] <;> (subst hRx; first | rw [rest_nx] | (simp only [rest_rt, rest_bk, rest_ct, bind_someX, endD_rt]) | skip))
    (rw [evSs_consR]; generalize hRx : Pv.rest _ _ = Rx; simp [e9', hM, M0, ho] <;> (subst hRx; first | rw [rest_nx] | (simp only [rest_rt, rest_bk, rest_ct, bind_someX, endD_rt]) | skip))
    (rw [evSs_consR]; generalize hRx : Pv.rest _ _ = Rx; simp [e0'] <;> (subst hRx; first | rw [rest_nx] | (simp only [rest_rt, rest_bk, rest_ct, bind_someX, endD_rt]) | skip))
    exact hr
  have hsA : sgA.length = 104 := by decide
  have lsA : sgA.length ≤ 16777216 := by decide
  obtain ⟨c8, hc8⟩ := at_in (xs := sgA) p8 (by omega)
  obtain ⟨c10, hc10⟩ := at_in (xs := sgA) p10 (by omega)
  -- the changes of the text
  have ch : ∀ (x : List Nat) (j c : Nat), x.length ≤ 1000 → ∃ y, y = x.take j ++ [c] ++ x.drop (j + 1) ∧ y.length ≤ x.length + 1 ∧ slD none (some (j : Int)) (.str x) = some (.str (x.take j)) ∧ slD (some ((j : Int) + 1)) none (.str x) = some (.str (x.drop (j + 1))) := by
    intro x j c hx
    have l : x.length ≤ 16777216 := by omega
    have e2 : ((j : Int) + 1).toNat = j + 1 := by omega
    have c2 := cut_from x ((j : Int) + 1) (by omega)
    rw [e2] at c2
    refine ⟨_, rfl, by simp; omega, by simp [slD, cutS_to]; omega, by simp [slD, c2]; omega⟩
  have st7 : ∀ x : List Nat, x.length ≤ 100 → ∃ y, y.length ≤ x.length + 1 ∧ evS Z_L_value (ir_L_value.getD 7 .pass) (SC x) = some (.nx (SC y)) := by
    intro x hx
    obtain ⟨y, hy, hl, k1, k2⟩ := ch x p c8 (by omega)
    by_cases h3 : dig ds 0 = 3
    · refine ⟨y, hl, ?_⟩
      simp only [ir_L_value, List.getD_cons_succ, List.getD_cons_zero]
      subst hy
      have la : min p x.length + 1 ≤ 16777216 := by omega
      have lb : min p x.length + 1 + (x.length - (p + 1)) ≤ 16777216 := by omega
      simp [SC, h3, k1, k2, e8', hc8, lsA, la, lb]
    · by_cases h4 : dig ds 0 = 4
      · refine ⟨y, hl, ?_⟩
        simp only [ir_L_value, List.getD_cons_succ, List.getD_cons_zero]
        subst hy
        have la : min p x.length + 1 ≤ 16777216 := by omega
        have lb : min p x.length + 1 + (x.length - (p + 1)) ≤ 16777216 := by omega
        simp [SC, h4, k1, k2, e8', hc8, lsA, la, lb]
      · refine ⟨x, by omega, ?_⟩
        simp [ir_L_value, SC, h3, h4]
  have st8 : ∀ x : List Nat, x.length ≤ 100 → ∃ y, y.length ≤ x.length + 1 ∧ evS Z_L_value (ir_L_value.getD 8 .pass) (SC x) = some (.nx (SC y)) := by
    intro x hx
    obtain ⟨y, hy, hl, k1, k2⟩ := ch x o c10 (by omega)
    by_cases h4 : dig ds 0 = 4
    · refine ⟨y, hl, ?_⟩
      simp only [ir_L_value, List.getD_cons_succ, List.getD_cons_zero]
      subst hy
      have la : min o x.length + 1 ≤ 16777216 := by omega
      have lb : min o x.length + 1 + (x.length - (o + 1)) ≤ 16777216 := by omega
      simp [SC, h4, k1, k2, e10', hc10, lsA, la, lb]
    · refine ⟨x, by omega, ?_⟩
      simp [ir_L_value, SC, h4]
  have st9 : ∀ x : List Nat, x.length ≤ 100 → ∃ y, y.length ≤ x.length + 1 ∧ evS Z_L_value (ir_L_value.getD 9 .pass) (SC x) = some (.nx (SC y)) := by
    intro x hx
    by_cases h5 : dig ds 0 = 5
    · have lx : x.length + 1 ≤ 16777216 := by omega
      have lx2 : 1 + x.length ≤ 16777216 := by omega
      have lx3 : x.length ≤ 16777215 := by omega
      have : (dig ds 9).fmod 2 = 0 ∨ (dig ds 9).fmod 2 = 1 := by have := fmodp (dig ds 9) 2 (by decide); omega
      rcases this with hm | hm
      · refine ⟨x ++ [c8], by simp, ?_⟩
        simp [ir_L_value, SC, h5, e8', hc8, lsA, lx, lx2, lx3, e9', hm]
      · refine ⟨c8 :: x, by simp, ?_⟩
        simp [ir_L_value, SC, h5, e8', hc8, lsA, lx, lx2, lx3, e9', hm]
    · refine ⟨x, by omega, ?_⟩
      simp [ir_L_value, SC, h5]
  have okL : okR (L : Int) = true := by unfold okR; simp; omega
  have hL16 : L ≤ 16777216 := by omega
  have st10 : ∀ x : List Nat, x.length ≤ 100 → ∃ y, y.length ≤ x.length + 100 ∧ evS Z_L_value (ir_L_value.getD 10 .pass) (SC x) = some (.nx (SC y)) := by
    intro x hx
    by_cases h6 : dig ds 0 = 6
    · have comp : ∀ σ : List Sl, getV σ 4 = some (.str sgA) → getV σ 1 = some (.lst (ds.map .int)) → 9 < σ.length → lcL (.nm 9) (evE Z_L_value (.c (.bl true))) (evE Z_L_value (.ix (.v 4) (.bin .mod (.blt .int [.ix (.v 1) (.bin .add (.c (.int 11)) (.v 9))]) (.c (.int 95))))) σ (rngD 0 L) = some ((List.range L).map fun k => D.str [(atI sgA ((dig ds (11 + k)).fmod 95)).getD 0]) := by
        intro σ s4 s1 sl
        refine lcL_rng (fun k => D.str [(atI sgA ((dig ds (11 + k)).fmod 95)).getD 0]) fun k hk => ?_
        have q1 : atI (ds.map D.int) (11 + (k : Int)) = some (.int (dig ds (11 + k))) := by
          have := at_digit (ds := ds) (k := 11 + k) (by omega)
          rw [show ((11 + k : Nat) : Int) = 11 + (k : Int) by omega] at this
          exact this
        obtain ⟨b1, b2⟩ := fmodp (dig ds (11 + k)) 95 (by decide)
        obtain ⟨c, hc⟩ := at_in (xs := sgA) b1 (by omega)
        simp [getV_ne, getV_eq sl, s4, s1, q1, hc, lsA]
      have jn : joinD (.str []) (.lst ((List.range L).map fun k => D.str [(atI sgA ((dig ds (11 + k)).fmod 95)).getD 0])) = some (.str ((List.range L).map fun k => (atI sgA ((dig ds (11 + k)).fmod 95)).getD 0)) := join_signsC _ L (by omega)
      refine ⟨(List.range L).map fun k => (atI sgA ((dig ds (11 + k)).fmod 95)).getD 0, by simp; omega, ?_⟩
      simp [ir_L_value, SC, h6, okL, rng_len, hL16, wipeD, comp, jn, -joinD_lst]
    · refine ⟨x, by omega, ?_⟩
      simp [ir_L_value, SC, h6]
  have st11 : ∀ x : List Nat, x.length ≤ 300 → ∃ y, y.length ≤ x.length + 1 ∧ evS Z_L_value (ir_L_value.getD 11 .pass) (SC x) = some (.nx (SC y)) := by
    intro x hx
    by_cases h7 : dig ds 0 = 7
    · obtain ⟨c, hc⟩ : ∃ c : Nat, atI [D.str [45], .str [122], .str [46]] ((dig ds 9).fmod 3) = some (.str [c]) := by
        obtain ⟨a, b⟩ := fmodp (dig ds 9) 3 (by decide)
        obtain ⟨v, hv, _⟩ := atI_in (xs := [(45 : Nat), 122, 46]) a (by simp; omega)
        have := atI_map (fun c => D.str [c]) [(45 : Nat), 122, 46] ((dig ds 9).fmod 3)
        rw [hv] at this
        exact ⟨v, by simpa using this⟩
      obtain ⟨y, hy, hl, k1, k2⟩ := ch x p c (by omega)
      refine ⟨y, hl, ?_⟩
      subst hy
      have la : min p x.length + 1 ≤ 16777216 := by omega
      have lb : min p x.length + 1 + (x.length - (p + 1)) ≤ 16777216 := by omega
      simp [ir_L_value, SC, h7, k1, k2, e9', hc, la, lb]
    · refine ⟨x, by omega, ?_⟩
      simp [ir_L_value, SC, h7]
  obtain ⟨t1, l1', r1⟩ := st7 t (by omega)
  obtain ⟨t2, l2', r2⟩ := st8 t1 (by omega)
  obtain ⟨t3, l3', r3⟩ := st9 t2 (by omega)
  obtain ⟨t4, l4', r4⟩ := st10 t3 (by omega)
  obtain ⟨t5, l5', r5⟩ := st11 t4 (by omega)
  have l5 : t5.length ≤ 1000 := by omega
  have spl : ir_L_value.drop 7 = ir_L_value.getD 7 .pass :: ir_L_value.getD 8 .pass :: ir_L_value.getD 9 .pass :: ir_L_value.getD 10 .pass :: ir_L_value.getD 11 .pass :: ir_L_value.drop 12 := rfl
  suffices hs : ∃ d, (evSs Z_L_value (ir_L_value.drop 12) (SC t5)).bind endD = some d ∧ Good d by
    obtain ⟨d, h1, h2⟩ := hs
    refine ⟨d, start _ ?_, h2⟩
    rw [spl, evSs_consR, r1, bind_someX, rest_nx, evSs_consR, r2, bind_someX, rest_nx, evSs_consR, r3, bind_someX, rest_nx, evSs_consR, r4, bind_someX, rest_nx, evSs_consR, r5, bind_someX, rest_nx]
    exact h1
  have lt5 : t5.length ≤ 16777216 := by omega
  have gs := good_str lt5
  have pick3 : ∀ a b c : D, Good a → Good b → Good c → ∃ d, atI [a, b, c] ((dig ds 7).fmod 3) = some d ∧ Good d := fun a b c ga gb gc => out_of (ds := [a, b, c]) (w := 3) rfl (by decide) (by intro d hd; simp at hd; rcases hd with rfl | rfl | rfl <;> assumption) _
  have pick4 : ∀ a b c e : D, Good a → Good b → Good c → Good e → ∃ d, atI [a, b, c, e] ((dig ds 7).fmod 4) = some d ∧ Good d := fun a b c e ga gb gc ge => out_of (ds := [a, b, c, e]) (w := 4) rfl (by decide) (by intro d hd; simp at hd; rcases hd with rfl | rfl | rfl | rfl <;> assumption) _
  unfold ir_L_value
  simp only [List.drop]
  by_cases k8 : dig ds 0 = 8
  · obtain ⟨d, hd, gd⟩ := pick3 (.int z) (.int (-(L : Int))) (.int (L : Int)) (good_int _) (good_int _) (good_int _)
    refine ⟨d, ?_, gd⟩
    (rw [evSs_consR]; generalize hRx : Pv.rest _ _ = Rx; simp [SC, k8, e7', hd] <;> (subst hRx; first | rw [rest_nx] | (simp only [rest_rt, rest_bk, rest_ct, bind_someX, endD_rt]) | skip))
  by_cases k9 : dig ds 0 = 9
  · obtain ⟨d, hd, gd⟩ := pick3 .non (.bl true) (.bl false) good_non (good_bl _) (good_bl _)
    refine ⟨d, ?_, gd⟩
    (rw [evSs_consR]; generalize hRx : Pv.rest _ _ = Rx; simp [SC, k9] <;> (subst hRx; first | rw [rest_nx] | (simp only [rest_rt, rest_bk, rest_ct, bind_someX, endD_rt]) | skip))
    (rw [evSs_consR]; generalize hRx : Pv.rest _ _ = Rx; simp [k9, e7', hd] <;> (subst hRx; first | rw [rest_nx] | (simp only [rest_rt, rest_bk, rest_ct, bind_someX, endD_rt]) | skip))
  have sg : ∀ σ : List Sl, 8 < σ.length → lcL (.nm 8) (evE Z_L_value (.c (.bl true))) (evE Z_L_value (.v 8)) σ (t5.map fun c => D.str [c]) = some (t5.map fun c => D.str [c]) := by
    intro σ sl
    have := lcL_of (t := .nm 8) (c := evE Z_L_value (.c (.bl true))) (e := evE Z_L_value (.v 8)) (σ := σ) (fun c => D.str [c]) (fun _ => true) (fun c => D.str [c]) t5 (by
      intro c _
      refine ⟨_, rfl, rfl, fun _ => ?_⟩
      simp [getV_eq sl])
    rw [List.filter_eq_self.mpr (by simp)] at this
    exact this
  by_cases k10 : dig ds 0 = 10
  · refine ⟨_, ?_, good_signsL t5⟩
    (rw [evSs_consR]; generalize hRx : Pv.rest _ _ = Rx; simp [SC, k10] <;> (subst hRx; first | rw [rest_nx] | (simp only [rest_rt, rest_bk, rest_ct, bind_someX, endD_rt]) | skip))
    (rw [evSs_consR]; generalize hRx : Pv.rest _ _ = Rx; simp [k10] <;> (subst hRx; first | rw [rest_nx] | (simp only [rest_rt, rest_bk, rest_ct, bind_someX, endD_rt]) | skip))
    (rw [evSs_consR]; generalize hRx : Pv.rest _ _ = Rx; simp [k10, lt5, wipeD, sg] <;> (subst hRx; first | rw [rest_nx] | (simp only [rest_rt, rest_bk, rest_ct, bind_someX, endD_rt]) | skip))
  by_cases k11 : dig ds 0 = 11
  · refine ⟨_, ?_, good_signsT t5⟩
    (rw [evSs_consR]; generalize hRx : Pv.rest _ _ = Rx; simp [SC, k11] <;> (subst hRx; first | rw [rest_nx] | (simp only [rest_rt, rest_bk, rest_ct, bind_someX, endD_rt]) | skip))
    (rw [evSs_consR]; generalize hRx : Pv.rest _ _ = Rx; simp [k11] <;> (subst hRx; first | rw [rest_nx] | (simp only [rest_rt, rest_bk, rest_ct, bind_someX, endD_rt]) | skip))
    (rw [evSs_consR]; generalize hRx : Pv.rest _ _ = Rx; simp [k11] <;> (subst hRx; first | rw [rest_nx] | (simp only [rest_rt, rest_bk, rest_ct, bind_someX, endD_rt]) | skip))
    (rw [evSs_consR]; generalize hRx : Pv.rest _ _ = Rx; simp [k11, lt5, wipeD, sg] <;> (subst hRx; first | rw [rest_nx] | (simp only [rest_rt, rest_bk, rest_ct, bind_someX, endD_rt]) | skip))
  by_cases k12 : dig ds 0 = 12
  · obtain ⟨a1, a2⟩ := good_dct2 (a := 97) (b := 46) (by decide) (p : Int) t5
    obtain ⟨d, hd, gd⟩ := pick3 (.dct [] []) (.dct [.str t5] [.str t5]) _ good_dct0 (good_dct1 t5) a2
    refine ⟨d, ?_, gd⟩
    (rw [evSs_consR]; generalize hRx : Pv.rest _ _ = Rx; simp [SC, k12] <;> (subst hRx; first | rw [rest_nx] | (simp only [rest_rt, rest_bk, rest_ct, bind_someX, endD_rt]) | skip))
    (rw [evSs_consR]; generalize hRx : Pv.rest _ _ = Rx; simp [k12] <;> (subst hRx; first | rw [rest_nx] | (simp only [rest_rt, rest_bk, rest_ct, bind_someX, endD_rt]) | skip))
    (rw [evSs_consR]; generalize hRx : Pv.rest _ _ = Rx; simp [k12] <;> (subst hRx; first | rw [rest_nx] | (simp only [rest_rt, rest_bk, rest_ct, bind_someX, endD_rt]) | skip))
    (rw [evSs_consR]; generalize hRx : Pv.rest _ _ = Rx; simp [k12] <;> (subst hRx; first | rw [rest_nx] | (simp only [rest_rt, rest_bk, rest_ct, bind_someX, endD_rt]) | skip))
    (rw [evSs_consR]; generalize hRx : Pv.rest _ _ = Rx; simp [k12, dct0, dct1, a1, evens, odds, e7', hd] <;> (subst hRx; first | rw [rest_nx] | (simp only [rest_rt, rest_bk, rest_ct, bind_someX, endD_rt]) | skip))
  by_cases k13 : dig ds 0 = 13
  · obtain ⟨d, hd, gd⟩ := pick4 (.lst [.str t5]) (.tup [.str t5]) (.lst []) (.tup []) (good_oth trivial (by simp [D.beq, D.beqL]) (by simp [D.deep, D.deepL])) (good_oth trivial (by simp [D.beq, D.beqL]) (by simp [D.deep, D.deepL])) (good_oth trivial (by simp [D.beq, D.beqL]) (by simp [D.deep, D.deepL])) (good_oth trivial (by simp [D.beq, D.beqL]) (by simp [D.deep, D.deepL]))
    refine ⟨d, ?_, gd⟩
    (rw [evSs_consR]; generalize hRx : Pv.rest _ _ = Rx; simp [SC, k13] <;> (subst hRx; first | rw [rest_nx] | (simp only [rest_rt, rest_bk, rest_ct, bind_someX, endD_rt]) | skip))
    (rw [evSs_consR]; generalize hRx : Pv.rest _ _ = Rx; simp [k13] <;> (subst hRx; first | rw [rest_nx] | (simp only [rest_rt, rest_bk, rest_ct, bind_someX, endD_rt]) | skip))
    (rw [evSs_consR]; generalize hRx : Pv.rest _ _ = Rx; simp [k13] <;> (subst hRx; first | rw [rest_nx] | (simp only [rest_rt, rest_bk, rest_ct, bind_someX, endD_rt]) | skip))
    (rw [evSs_consR]; generalize hRx : Pv.rest _ _ = Rx; simp [k13] <;> (subst hRx; first | rw [rest_nx] | (simp only [rest_rt, rest_bk, rest_ct, bind_someX, endD_rt]) | skip))
    (rw [evSs_consR]; generalize hRx : Pv.rest _ _ = Rx; simp [k13] <;> (subst hRx; first | rw [rest_nx] | (simp only [rest_rt, rest_bk, rest_ct, bind_someX, endD_rt]) | skip))
    (rw [evSs_consR]; generalize hRx : Pv.rest _ _ = Rx; simp [k13, e7', hd] <;> (subst hRx; first | rw [rest_nx] | (simp only [rest_rt, rest_bk, rest_ct, bind_someX, endD_rt]) | skip))
  by_cases k14 : dig ds 0 = 14
  · obtain ⟨d, hd, gd⟩ := pick3 (.lst [.lst [.str t5], .str t5]) (.tup [.str t5, .tup [.non, .lst [.str t5]]]) (.lst [.int (p : Int), .str t5]) (good_oth trivial (by simp [D.beq, D.beqL]) (by simp [D.deep, D.deepL])) (good_oth trivial (by simp [D.beq, D.beqL]) (by simp [D.deep, D.deepL])) (good_oth trivial (by simp [D.beq, D.beqL]) (by simp [D.deep, D.deepL]))
    refine ⟨d, ?_, gd⟩
    (rw [evSs_consR]; generalize hRx : Pv.rest _ _ = Rx; simp [SC, k14] <;> (subst hRx; first | rw [rest_nx] | (simp only [rest_rt, rest_bk, rest_ct, bind_someX, endD_rt]) | skip))
    (rw [evSs_consR]; generalize hRx : Pv.rest _ _ = Rx; simp [k14] <;> (subst hRx; first | rw [rest_nx] | (simp only [rest_rt, rest_bk, rest_ct, bind_someX, endD_rt]) | skip))
    (rw [evSs_consR]; generalize hRx : Pv.rest _ _ = Rx; simp [k14] <;> (subst hRx; first | rw [rest_nx] | (simp only [rest_rt, rest_bk, rest_ct, bind_someX, endD_rt]) | skip))
    (rw [evSs_consR]; generalize hRx : Pv.rest _ _ = Rx; simp [k14] <;> (subst hRx; first | rw [rest_nx] | (simp only [rest_rt, rest_bk, rest_ct, bind_someX, endD_rt]) | skip))
    (rw [evSs_consR]; generalize hRx : Pv.rest _ _ = Rx; simp [k14] <;> (subst hRx; first | rw [rest_nx] | (simp only [rest_rt, rest_bk, rest_ct, bind_someX, endD_rt]) | skip))
    (rw [evSs_consR]; generalize hRx : Pv.rest _ _ = Rx; simp [k14] <;> (subst hRx; first | rw [rest_nx] | (simp only [rest_rt, rest_bk, rest_ct, bind_someX, endD_rt]) | skip))
    (rw [evSs_consR]; generalize hRx : Pv.rest _ _ = Rx; simp [k14, e7', hd] <;> (subst hRx; first | rw [rest_nx] | (simp only [rest_rt, rest_bk, rest_ct, bind_someX, endD_rt]) | skip))
  refine ⟨_, ?_, gs⟩
  (rw [evSs_consR]; generalize hRx : Pv.rest _ _ = Rx; simp [SC, k8] <;> (subst hRx; first | rw [rest_nx] | (simp only [rest_rt, rest_bk, rest_ct, bind_someX, endD_rt]) | skip))
  (rw [evSs_consR]; generalize hRx : Pv.rest _ _ = Rx; simp [k9] <;> (subst hRx; first | rw [rest_nx] | (simp only [rest_rt, rest_bk, rest_ct, bind_someX, endD_rt]) | skip))
  (rw [evSs_consR]; generalize hRx : Pv.rest _ _ = Rx; simp [k10] <;> (subst hRx; first | rw [rest_nx] | (simp only [rest_rt, rest_bk, rest_ct, bind_someX, endD_rt]) | skip))
  (rw [evSs_consR]; generalize hRx : Pv.rest _ _ = Rx; simp [k11] <;> (subst hRx; first | rw [rest_nx] | (simp only [rest_rt, rest_bk, rest_ct, bind_someX, endD_rt]) | skip))
  (rw [evSs_consR]; generalize hRx : Pv.rest _ _ = Rx; simp [k12] <;> (subst hRx; first | rw [rest_nx] | (simp only [rest_rt, rest_bk, rest_ct, bind_someX, endD_rt]) | skip))
  (rw [evSs_consR]; generalize hRx : Pv.rest _ _ = Rx; simp [k13] <;> (subst hRx; first | rw [rest_nx] | (simp only [rest_rt, rest_bk, rest_ct, bind_someX, endD_rt]) | skip))
  (rw [evSs_consR]; generalize hRx : Pv.rest _ _ = Rx; simp [k14] <;> (subst hRx; first | rw [rest_nx] | (simp only [rest_rt, rest_bk, rest_ct, bind_someX, endD_rt]) | skip))
  (rw [evSs_consR]; generalize hRx : Pv.rest _ _ = Rx; simp [] <;> (subst hRx; first | rw [rest_nx] | (simp only [rest_rt, rest_bk, rest_ct, bind_someX, endD_rt]) | skip))
end K00

set_option Elab.async false
set_option linter.all false
set_option maxRecDepth 100000
set_option maxHeartbeats 4000000
namespace K00
open PySem L2 Pv

def worS : List Int := [18, 8, 26, 36, 36, 36, 36, 36, 36, 36, 12, 104, 12, 104, 11, 95, 95, 95, 95, 95, 95, 95, 95, 95, 95]
theorem intS_len : ∀ i : Fin 104, (intS (i.val : Int)).length ≤ 10 := by decide +kernel
theorem intS_le {d : Int} (h0 : 0 ≤ d) (h1 : d < 104) : (intS d).length ≤ 10 := by
  have := intS_len ⟨d.toNat, by omega⟩
  simp only [Int.toNat_of_nonneg h0] at this
  exact this
theorem upper_le (x : List Nat) : (Txt.upper (mkS x)).cps.toList.length ≤ 3 * x.length := by
  have := PyProof.Rows.len_upper (mkS x)
  rw [mkS_len] at this
  simpa [Str.length] using this
theorem word_ok (z : Int) (ds : List Int) (hD : Dg ds worS) : ∃ d, F_L_word [.int z, .lst (ds.map .int)] = some d ∧ Good d := by
  have hlen : ds.length = 25 := hD.len
  have f29 : Z_L_word.F 29 = F_L_name := id rfl
  obtain ⟨e0, p0, q0⟩ := dg_dig hD (k := 0) rfl
  obtain ⟨e1, p1, q1⟩ := dg_dig hD (k := 1) rfl
  obtain ⟨e10, p10, q10⟩ := dg_dig hD (k := 10) rfl
  obtain ⟨e11, p11, q11⟩ := dg_dig hD (k := 11) rfl
  obtain ⟨e12, p12, q12⟩ := dg_dig hD (k := 12) rfl
  obtain ⟨e13, p13, q13⟩ := dg_dig hD (k := 13) rfl
  obtain ⟨e14, p14, q14⟩ := dg_dig hD (k := 14) rfl
  have e0' : atI (ds.map D.int) 0 = some (.int (dig ds 0)) := e0
  have e10' : atI (ds.map D.int) 10 = some (.int (dig ds 10)) := e10
  have e11' : atI (ds.map D.int) 11 = some (.int (dig ds 11)) := e11
  have e12' : atI (ds.map D.int) 12 = some (.int (dig ds 12)) := e12
  have e13' : atI (ds.map D.int) 13 = some (.int (dig ds 13)) := e13
  have e14' : atI (ds.map D.int) 14 = some (.int (dig ds 14)) := e14
  have dg1 : ∀ k, dig (ds.drop 1) k = dig ds (1 + k) := by intro k; unfold dig; rw [List.getElem?_drop]
  have hS0 : ([32, 33, 34, 35, 36, 38, 39, 40, 41, 42, 43, 44, 45, 46, 47, 48, 49, 50, 51, 52, 53, 54, 55, 56, 57, 58, 59, 60, 61, 62, 63, 64, 65, 66, 67, 68, 69, 70, 71, 72, 73, 74, 75, 76, 77, 78, 79, 80, 81, 82, 83, 84, 85, 86, 87, 88, 89, 90, 91, 92, 93, 94, 95, 96, 97, 98, 99, 100, 101, 102, 103, 104, 105, 106, 107, 108, 109, 110, 111, 112, 113, 114, 115, 116, 117, 118, 119, 120, 121, 122, 123, 124, 125, 126, 10] : List Nat) = sg1 := rfl
  have hS1 : sg1 ++ [10, 32, 65, 95, 57, 45, 10, 32, 45] = sgB := rfl
  have l1 : sg1.length + 9 ≤ 16777216 := by decide
  obtain ⟨t, ht1, ht2, ht3⟩ := name_ok (ds.drop 1) (by rw [List.length_drop]; omega) (by rw [dg1]; exact ⟨p1, q1⟩) (by
    intro k k1 k8
    rw [dg1]
    have : worS[1 + k]? = some 26 ∨ worS[1 + k]? = some 36 := by
      have : k = 1 ∨ k = 2 ∨ k = 3 ∨ k = 4 ∨ k = 5 ∨ k = 6 ∨ k = 7 ∨ k = 8 := by omega
      rcases this with rfl | rfl | rfl | rfl | rfl | rfl | rfl | rfl <;> first | exact .inl rfl | exact .inr rfl
    rcases this with h | h
    · obtain ⟨_, a, b⟩ := dg_dig hD h; omega
    · obtain ⟨_, a, b⟩ := dg_dig hD h; omega)
  rw [List.map_drop] at ht1
  have sl1 : cutD (ds.map D.int) (some 1) none = (ds.map D.int).drop 1 := by rw [cut_from _ _ (by decide)]; rfl
  have lt16 : t.length ≤ 16777216 := by omega
  have t0 : ¬ t = [] := by rintro rfl; simp at ht2
  obtain ⟨a10, b10⟩ := fmodp (dig ds 10) t.length (by omega)
  obtain ⟨a12, b12⟩ := fmodp (dig ds 12) t.length (by omega)
  obtain ⟨p, hp⟩ : ∃ p : Nat, (dig ds 10).fmod t.length = (p : Int) := ⟨((dig ds 10).fmod t.length).toNat, by omega⟩
  obtain ⟨o, ho⟩ : ∃ p : Nat, (dig ds 12).fmod t.length = (p : Int) := ⟨((dig ds 12).fmod t.length).toNat, by omega⟩
  let SC : List Nat → List Sl := fun t => [.v (.int z), .v (.lst (ds.map .int)), .v (.str sgB), .v (.str t), .v (.int (p : Nat)), .v (.int (o : Nat)), .v (.int (dig ds 0)), .no, .no]
  have start : ∀ r, (evSs Z_L_word (ir_L_word.drop 6) (SC t)).bind endD = r → F_L_word [.int z, .lst (ds.map .int)] = r := by
    intro r hr
    unfold F_L_word evF ir_L_word
    rw [if_pos (show [D.int z, .lst (ds.map .int)].length = 2 from rfl)]
    simp only [startD]
    (rw [evSs_consR]; generalize hRx : Pv.rest _ _ = Rx; simp [hS0] <;> (subst hRx; first | rw [rest_nx] | (simp only [rest_rt, rest_bk, rest_ct, bind_someX, endD_rt]) | skip))
    (rw [evSs_consR]; generalize hRx : Pv.rest _ _ = Rx; simp [hS1, l1] <;> (subst hRx; first | rw [rest_nx] | (simp only [rest_rt, rest_bk, rest_ct, bind_someX, endD_rt]) | skip))
    simp only [List.drop_one] at sl1 ht1
    (rw [evSs_consR]; generalize hRx : Pv.rest _ _ = Rx; simp [f29, slD, sl1, ht1] <;> (subst hRx; first | rw [rest_nx] | (simp only [rest_rt, rest_bk, rest_ct, bind_someX, endD_rt]) | skip))
    (rw [evSs_consR]; generalize hRx : Pv.rest _ _ = Rx; simp [e10', lt16, t0, hp] <;> (subst hRx; first | rw [rest_nx] | (simp only [rest_rt, rest_bk, rest_ct, bind_someX, endD_rt]) | skip))
    (rw [evSs_consR]; generalize hRx : Pv.rest _ _ = Rx; simp [e12', lt16, t0, ho] <;> (subst hRx; first | rw [rest_nx] | (simp only [rest_rt, rest_bk, rest_ct, bind_someX, endD_rt]) | skip))
    (rw [evSs_consR]; generalize hRx : Pv.rest _ _ = Rx; simp [e0'] <;> (subst hRx; first | rw [rest_nx] | (simp only [rest_rt, rest_bk, rest_ct, bind_someX, endD_rt]) | skip))
    exact hr
  have hsB : sgB.length = 104 := by decide
  have lsB : sgB.length ≤ 16777216 := by decide
  obtain ⟨c11, hc11⟩ := at_in (xs := sgB) p11 (by omega)
  obtain ⟨c13, hc13⟩ := at_in (xs := sgB) p13 (by omega)
  have ch : ∀ (x : List Nat) (j c : Nat), x.length ≤ 1000 → ∃ y, y = x.take j ++ [c] ++ x.drop (j + 1) ∧ y.length ≤ x.length + 1 ∧ slD none (some (j : Int)) (.str x) = some (.str (x.take j)) ∧ slD (some ((j : Int) + 1)) none (.str x) = some (.str (x.drop (j + 1))) := by
    intro x j c hx
    have l : x.length ≤ 16777216 := by omega
    have e2 : ((j : Int) + 1).toNat = j + 1 := by omega
    have c2 := cut_from x ((j : Int) + 1) (by omega)
    rw [e2] at c2
    refine ⟨_, rfl, by simp; omega, by simp [slD, cutS_to]; omega, by simp [slD, c2]; omega⟩
  have st6 : ∀ x : List Nat, x.length ≤ 100 → ∃ y, y.length ≤ x.length + 1 ∧ evS Z_L_word (ir_L_word.getD 6 .pass) (SC x) = some (.nx (SC y)) := by
    intro x hx
    obtain ⟨y, hy, hl, k1, k2⟩ := ch x p c11 (by omega)
    have la : min p x.length + 1 ≤ 16777216 := by omega
    have lb : min p x.length + 1 + (x.length - (p + 1)) ≤ 16777216 := by omega
    by_cases h3 : dig ds 0 = 3
    · refine ⟨y, hl, ?_⟩
      subst hy
      simp [ir_L_word, SC, h3, k1, k2, e11', hc11, lsB, la, lb]
    · by_cases h4 : dig ds 0 = 4
      · refine ⟨y, hl, ?_⟩
        subst hy
        simp [ir_L_word, SC, h4, k1, k2, e11', hc11, lsB, la, lb]
      · refine ⟨x, by omega, ?_⟩
        simp [ir_L_word, SC, h3, h4]
  have st7 : ∀ x : List Nat, x.length ≤ 100 → ∃ y, y.length ≤ x.length + 1 ∧ evS Z_L_word (ir_L_word.getD 7 .pass) (SC x) = some (.nx (SC y)) := by
    intro x hx
    obtain ⟨y, hy, hl, k1, k2⟩ := ch x o c13 (by omega)
    have la : min o x.length + 1 ≤ 16777216 := by omega
    have lb : min o x.length + 1 + (x.length - (o + 1)) ≤ 16777216 := by omega
    by_cases h4 : dig ds 0 = 4
    · refine ⟨y, hl, ?_⟩
      subst hy
      simp [ir_L_word, SC, h4, k1, k2, e13', hc13, lsB, la, lb]
    · refine ⟨x, by omega, ?_⟩
      simp [ir_L_word, SC, h4]
  have st8 : ∀ x : List Nat, x.length ≤ 100 → ∃ y, y.length ≤ x.length + 1 ∧ evS Z_L_word (ir_L_word.getD 8 .pass) (SC x) = some (.nx (SC y)) := by
    intro x hx
    by_cases h5 : dig ds 0 = 5
    · have lx : x.length + 1 ≤ 16777216 := by omega
      have lx2 : 1 + x.length ≤ 16777216 := by omega
      have lx3 : x.length ≤ 16777215 := by omega
      have : (dig ds 12).fmod 2 = 0 ∨ (dig ds 12).fmod 2 = 1 := by have := fmodp (dig ds 12) 2 (by decide); omega
      rcases this with hm | hm
      · refine ⟨x ++ [c11], by simp, ?_⟩
        simp [ir_L_word, SC, h5, e11', hc11, lsB, lx, lx2, lx3, e12', hm]
      · refine ⟨c11 :: x, by simp, ?_⟩
        simp [ir_L_word, SC, h5, e11', hc11, lsB, lx, lx2, lx3, e12', hm]
    · refine ⟨x, by omega, ?_⟩
      simp [ir_L_word, SC, h5]
  have st9 : ∀ x : List Nat, x.length ≤ 100 → ∃ y, y.length ≤ x.length + 100 ∧ evS Z_L_word (ir_L_word.getD 9 .pass) (SC x) = some (.nx (SC y)) := by
    intro x hx
    by_cases h6 : dig ds 0 = 6
    · obtain ⟨e, he⟩ : ∃ e : Nat, dig ds 14 = (e : Int) := ⟨(dig ds 14).toNat, by omega⟩
      have cut : cutD (ds.map D.int) (some 15) (some (15 + dig ds 14)) = ((ds.drop 15).take e).map D.int := by
        rw [cut_mid _ _ _ (by decide) (by omega), List.map_take, List.map_drop]
        congr 1
        omega
      have comp : ∀ σ : List Sl, getV σ 2 = some (.str sgB) → 8 < σ.length → lcL (.nm 8) (evE Z_L_word (.c (.bl true))) (evE Z_L_word (.ix (.v 2) (.v 8))) σ (((ds.drop 15).take e).map D.int) = some (((ds.drop 15).take e).map fun k => D.str [(atI sgB k).getD 0]) := by
        intro σ s2 sl
        have := lcL_of (t := .nm 8) (c := evE Z_L_word (.c (.bl true))) (e := evE Z_L_word (.ix (.v 2) (.v 8))) (σ := σ) D.int (fun _ => true) (fun k => D.str [(atI sgB k).getD 0]) ((ds.drop 15).take e) (by
          intro k hk
          refine ⟨_, rfl, rfl, fun _ => ?_⟩
          obtain ⟨i, hi, rfl⟩ := List.getElem_of_mem hk
          have hi' : i < 10 := by
            have := hi
            rw [List.length_take, List.length_drop, hlen] at this
            omega
          have hw : worS[15 + i]? = some 95 := by
            have : i = 0 ∨ i = 1 ∨ i = 2 ∨ i = 3 ∨ i = 4 ∨ i = 5 ∨ i = 6 ∨ i = 7 ∨ i = 8 ∨ i = 9 := by omega
            rcases this with rfl | rfl | rfl | rfl | rfl | rfl | rfl | rfl | rfl | rfl <;> rfl
          obtain ⟨_, b1, b2⟩ := dg_dig hD hw
          have ev : ((ds.drop 15).take e)[i] = dig ds (15 + i) := by
            rw [List.getElem_take, List.getElem_drop]
            unfold dig
            rw [List.getElem?_eq_getElem (by omega)]
            rfl
          obtain ⟨c, hc⟩ := at_in (xs := sgB) b1 (by omega)
          rw [ev]
          simp [getV_ne, getV_eq sl, s2, hc, lsB])
        rw [List.filter_eq_self.mpr (by simp)] at this
        exact this
      have ll : ((ds.drop 15).take e).length ≤ 10 := by rw [List.length_take, List.length_drop]; omega
      have jn : joinD (.str []) (.lst (((ds.drop 15).take e).map fun k => D.str [(atI sgB k).getD 0])) = some (.str (((ds.drop 15).take e).map fun k => (atI sgB k).getD 0)) := join_signs (fun k => (atI sgB k).getD 0) _ (by omega)
      generalize (ds.drop 15).take e = lx at cut comp jn ll
      have ll16 : lx.length ≤ 16777216 := by omega
      refine ⟨lx.map fun k => (atI sgB k).getD 0, by simp; omega, ?_⟩
      simp [ir_L_word, SC, h6, e14', slD, cut, ll16, wipeD, comp, jn, -joinD_lst]
    · refine ⟨x, by omega, ?_⟩
      simp [ir_L_word, SC, h6]
  have st10 : ∀ x : List Nat, x.length ≤ 300 → ∃ y, y.length ≤ 2 * x.length + 10 ∧ evS Z_L_word (ir_L_word.getD 10 .pass) (SC x) = some (.nx (SC y)) := by
    intro x hx
    by_cases h7 : dig ds 0 = 7
    · obtain ⟨a, b⟩ := fmodp (dig ds 12) 2 (by decide)
      have la : x.length + x.length ≤ 16777216 := by omega
      have lb : x.length + x.length + 8 ≤ 16777216 := by omega
      have lb2 : x.length + (x.length + 8) ≤ 16777216 := by omega
      have c2 := cut_to (x ++ (x ++ [97, 49, 98, 50, 99, 51, 100, 52])) (8 + (dig ds 12).fmod 2) (by omega)
      refine ⟨(x ++ (x ++ [97, 49, 98, 50, 99, 51, 100, 52])).take (8 + (dig ds 12).fmod 2).toNat, by simp; omega, ?_⟩
      simp [ir_L_word, SC, h7, la, lb, lb2, e12', slD, c2]
    · refine ⟨x, by omega, ?_⟩
      simp [ir_L_word, SC, h7]
  have st11 : ∀ x : List Nat, x.length ≤ 1000 → ∃ y, y.length ≤ 3 * x.length + 100 ∧ evS Z_L_word (ir_L_word.getD 11 .pass) (SC x) = some (.nx (SC y)) := by
    intro x hx
    by_cases h8 : dig ds 0 = 8
    · have i1 := intS_le p11 q11
      have i2 := upper_le x
      have lg : (dig ds 11).natAbs.log2 < 1920 := PySem.Flt.log2_lt_of (by decide) (by
        have : (dig ds 11).natAbs < 2 ^ 8 := by omega
        exact Nat.lt_of_lt_of_le this (Nat.pow_le_pow_right (by decide) (by decide)))
      have la : (intS (dig ds 11)).length + x.length ≤ 16777216 := by omega
      have lb : x.length ≤ 5592405 := by omega
      have lc : x.length + 1 ≤ 16777216 := by omega
      have ld : x.length + 1 + x.length ≤ 16777216 := by omega
      have ld2 : x.length + (x.length + 1) ≤ 16777216 := by omega
      have le : x.length ≤ 16777215 := by omega
      have : (dig ds 12).fmod 4 = 0 ∨ (dig ds 12).fmod 4 = 1 ∨ (dig ds 12).fmod 4 = 2 ∨ (dig ds 12).fmod 4 = 3 := by have := fmodp (dig ds 12) 4 (by decide); omega
      rcases this with hm | hm | hm | hm
      · refine ⟨[], by simp, ?_⟩
        simp [ir_L_word, SC, h8, e11', bltD, lg, la, u1D, lb, lc, ld, ld2, le, e12', hm]
      · refine ⟨intS (dig ds 11) ++ x, by simp; omega, ?_⟩
        simp [ir_L_word, SC, h8, e11', bltD, lg, la, u1D, lb, lc, ld, ld2, le, e12', hm]
      · refine ⟨(Txt.upper (mkS x)).cps.toList, by omega, ?_⟩
        simp [ir_L_word, SC, h8, e11', bltD, lg, la, u1D, lb, lc, ld, ld2, le, e12', hm]
      · refine ⟨x ++ (32 :: x), by simp; omega, ?_⟩
        simp [ir_L_word, SC, h8, e11', bltD, lg, la, u1D, lb, lc, ld, ld2, le, e12', hm]
    · refine ⟨x, by omega, ?_⟩
      simp [ir_L_word, SC, h8]
  obtain ⟨t1, l1', r1⟩ := st6 t (by omega)
  obtain ⟨t2, l2', r2⟩ := st7 t1 (by omega)
  obtain ⟨t3, l3', r3⟩ := st8 t2 (by omega)
  obtain ⟨t4, l4', r4⟩ := st9 t3 (by omega)
  obtain ⟨t5, l5', r5⟩ := st10 t4 (by omega)
  obtain ⟨t6, l6', r6⟩ := st11 t5 (by omega)
  have spl : ir_L_word.drop 6 = ir_L_word.getD 6 .pass :: ir_L_word.getD 7 .pass :: ir_L_word.getD 8 .pass :: ir_L_word.getD 9 .pass :: ir_L_word.getD 10 .pass :: ir_L_word.getD 11 .pass :: ir_L_word.drop 12 := rfl
  suffices hs : ∃ d, (evSs Z_L_word (ir_L_word.drop 12) (SC t6)).bind endD = some d ∧ Good d by
    obtain ⟨d, h1, h2⟩ := hs
    refine ⟨d, start _ ?_, h2⟩
    rw [spl, evSs_consR, r1, bind_someX, rest_nx, evSs_consR, r2, bind_someX, rest_nx, evSs_consR, r3, bind_someX, rest_nx, evSs_consR, r4, bind_someX, rest_nx, evSs_consR, r5, bind_someX, rest_nx, evSs_consR, r6, bind_someX, rest_nx]
    exact h1
  have lt5 : t6.length ≤ 16777216 := by omega
  have gs := good_str lt5
  have pick3 : ∀ a b c : D, Good a → Good b → Good c → ∃ d, atI [a, b, c] ((dig ds 12).fmod 3) = some d ∧ Good d := fun a b c ga gb gc => out_of (ds := [a, b, c]) (w := 3) rfl (by decide) (by intro d hd; simp at hd; rcases hd with rfl | rfl | rfl <;> assumption) _
  have pick4 : ∀ a b c e : D, Good a → Good b → Good c → Good e → ∃ d, atI [a, b, c, e] ((dig ds 12).fmod 4) = some d ∧ Good d := fun a b c e ga gb gc ge => out_of (ds := [a, b, c, e]) (w := 4) rfl (by decide) (by intro d hd; simp at hd; rcases hd with rfl | rfl | rfl | rfl <;> assumption) _
  unfold ir_L_word
  simp only [List.drop]
  by_cases k9 : dig ds 0 = 9
  · obtain ⟨d, hd, gd⟩ := pick3 (.int z) (.int (-(t6.length : Int))) (.int (dig ds 11)) (good_int _) (good_int _) (good_int _)
    refine ⟨d, ?_, gd⟩
    (rw [evSs_consR]; generalize hRx : Pv.rest _ _ = Rx; simp [SC, k9, e11', e12', lt5, hd] <;> (subst hRx; first | rw [rest_nx] | (simp only [rest_rt, rest_bk, rest_ct, bind_someX, endD_rt]) | skip))
  by_cases k10 : dig ds 0 = 10
  · obtain ⟨d, hd, gd⟩ := pick3 .non (.bl true) (.bl false) good_non (good_bl _) (good_bl _)
    refine ⟨d, ?_, gd⟩
    (rw [evSs_consR]; generalize hRx : Pv.rest _ _ = Rx; simp [SC, k10] <;> (subst hRx; first | rw [rest_nx] | (simp only [rest_rt, rest_bk, rest_ct, bind_someX, endD_rt]) | skip))
    (rw [evSs_consR]; generalize hRx : Pv.rest _ _ = Rx; simp [k10, e12', hd] <;> (subst hRx; first | rw [rest_nx] | (simp only [rest_rt, rest_bk, rest_ct, bind_someX, endD_rt]) | skip))
  have sg : ∀ σ : List Sl, 7 < σ.length → lcL (.nm 7) (evE Z_L_word (.c (.bl true))) (evE Z_L_word (.v 7)) σ (t6.map fun c => D.str [c]) = some (t6.map fun c => D.str [c]) := by
    intro σ sl
    have := lcL_of (t := .nm 7) (c := evE Z_L_word (.c (.bl true))) (e := evE Z_L_word (.v 7)) (σ := σ) (fun c => D.str [c]) (fun _ => true) (fun c => D.str [c]) t6 (by
      intro c _
      refine ⟨_, rfl, rfl, fun _ => ?_⟩
      simp [getV_eq sl])
    rw [List.filter_eq_self.mpr (by simp)] at this
    exact this
  by_cases k11 : dig ds 0 = 11
  · refine ⟨_, ?_, good_signsL t6⟩
    (rw [evSs_consR]; generalize hRx : Pv.rest _ _ = Rx; simp [SC, k11] <;> (subst hRx; first | rw [rest_nx] | (simp only [rest_rt, rest_bk, rest_ct, bind_someX, endD_rt]) | skip))
    (rw [evSs_consR]; generalize hRx : Pv.rest _ _ = Rx; simp [k11] <;> (subst hRx; first | rw [rest_nx] | (simp only [rest_rt, rest_bk, rest_ct, bind_someX, endD_rt]) | skip))
    (rw [evSs_consR]; generalize hRx : Pv.rest _ _ = Rx; simp [k11, lt5, wipeD, sg] <;> (subst hRx; first | rw [rest_nx] | (simp only [rest_rt, rest_bk, rest_ct, bind_someX, endD_rt]) | skip))
  by_cases k12 : dig ds 0 = 12
  · refine ⟨_, ?_, good_signsT t6⟩
    (rw [evSs_consR]; generalize hRx : Pv.rest _ _ = Rx; simp [SC, k12] <;> (subst hRx; first | rw [rest_nx] | (simp only [rest_rt, rest_bk, rest_ct, bind_someX, endD_rt]) | skip))
    (rw [evSs_consR]; generalize hRx : Pv.rest _ _ = Rx; simp [k12] <;> (subst hRx; first | rw [rest_nx] | (simp only [rest_rt, rest_bk, rest_ct, bind_someX, endD_rt]) | skip))
    (rw [evSs_consR]; generalize hRx : Pv.rest _ _ = Rx; simp [k12] <;> (subst hRx; first | rw [rest_nx] | (simp only [rest_rt, rest_bk, rest_ct, bind_someX, endD_rt]) | skip))
    (rw [evSs_consR]; generalize hRx : Pv.rest _ _ = Rx; simp [k12, lt5, wipeD, sg] <;> (subst hRx; first | rw [rest_nx] | (simp only [rest_rt, rest_bk, rest_ct, bind_someX, endD_rt]) | skip))
  by_cases k13 : dig ds 0 = 13
  · obtain ⟨a1, a2⟩ := good_dct2 (a := 97) (b := 98) (by decide) (p : Int) t6
    obtain ⟨d, hd, gd⟩ := pick3 (.dct [] []) (.dct [.str t6] [.str t6]) _ good_dct0 (good_dct1 t6) a2
    refine ⟨d, ?_, gd⟩
    (rw [evSs_consR]; generalize hRx : Pv.rest _ _ = Rx; simp [SC, k13] <;> (subst hRx; first | rw [rest_nx] | (simp only [rest_rt, rest_bk, rest_ct, bind_someX, endD_rt]) | skip))
    (rw [evSs_consR]; generalize hRx : Pv.rest _ _ = Rx; simp [k13] <;> (subst hRx; first | rw [rest_nx] | (simp only [rest_rt, rest_bk, rest_ct, bind_someX, endD_rt]) | skip))
    (rw [evSs_consR]; generalize hRx : Pv.rest _ _ = Rx; simp [k13] <;> (subst hRx; first | rw [rest_nx] | (simp only [rest_rt, rest_bk, rest_ct, bind_someX, endD_rt]) | skip))
    (rw [evSs_consR]; generalize hRx : Pv.rest _ _ = Rx; simp [k13] <;> (subst hRx; first | rw [rest_nx] | (simp only [rest_rt, rest_bk, rest_ct, bind_someX, endD_rt]) | skip))
    (rw [evSs_consR]; generalize hRx : Pv.rest _ _ = Rx; simp [k13, dct0, dct1, a1, evens, odds, e12', hd] <;> (subst hRx; first | rw [rest_nx] | (simp only [rest_rt, rest_bk, rest_ct, bind_someX, endD_rt]) | skip))
  by_cases k14 : dig ds 0 = 14
  · obtain ⟨d, hd, gd⟩ := pick4 (.lst [.str t6]) (.tup [.str t6]) (.lst []) (.tup []) (good_oth trivial (by simp [D.beq, D.beqL]) (by simp [D.deep, D.deepL])) (good_oth trivial (by simp [D.beq, D.beqL]) (by simp [D.deep, D.deepL])) (good_oth trivial (by simp [D.beq, D.beqL]) (by simp [D.deep, D.deepL])) (good_oth trivial (by simp [D.beq, D.beqL]) (by simp [D.deep, D.deepL]))
    refine ⟨d, ?_, gd⟩
    (rw [evSs_consR]; generalize hRx : Pv.rest _ _ = Rx; simp [SC, k14] <;> (subst hRx; first | rw [rest_nx] | (simp only [rest_rt, rest_bk, rest_ct, bind_someX, endD_rt]) | skip))
    (rw [evSs_consR]; generalize hRx : Pv.rest _ _ = Rx; simp [k14] <;> (subst hRx; first | rw [rest_nx] | (simp only [rest_rt, rest_bk, rest_ct, bind_someX, endD_rt]) | skip))
    (rw [evSs_consR]; generalize hRx : Pv.rest _ _ = Rx; simp [k14] <;> (subst hRx; first | rw [rest_nx] | (simp only [rest_rt, rest_bk, rest_ct, bind_someX, endD_rt]) | skip))
    (rw [evSs_consR]; generalize hRx : Pv.rest _ _ = Rx; simp [k14] <;> (subst hRx; first | rw [rest_nx] | (simp only [rest_rt, rest_bk, rest_ct, bind_someX, endD_rt]) | skip))
    (rw [evSs_consR]; generalize hRx : Pv.rest _ _ = Rx; simp [k14] <;> (subst hRx; first | rw [rest_nx] | (simp only [rest_rt, rest_bk, rest_ct, bind_someX, endD_rt]) | skip))
    (rw [evSs_consR]; generalize hRx : Pv.rest _ _ = Rx; simp [k14, e12', hd] <;> (subst hRx; first | rw [rest_nx] | (simp only [rest_rt, rest_bk, rest_ct, bind_someX, endD_rt]) | skip))
  by_cases k15 : dig ds 0 = 15
  · obtain ⟨d, hd, gd⟩ := pick3 (.lst [.lst [.str t6], .str t6]) (.tup [.str t6, .tup [.non, .lst [.str t6]]]) (.lst [.int (p : Int), .str t6]) (good_oth trivial (by simp [D.beq, D.beqL]) (by simp [D.deep, D.deepL])) (good_oth trivial (by simp [D.beq, D.beqL]) (by simp [D.deep, D.deepL])) (good_oth trivial (by simp [D.beq, D.beqL]) (by simp [D.deep, D.deepL]))
    refine ⟨d, ?_, gd⟩
    (rw [evSs_consR]; generalize hRx : Pv.rest _ _ = Rx; simp [SC, k15] <;> (subst hRx; first | rw [rest_nx] | (simp only [rest_rt, rest_bk, rest_ct, bind_someX, endD_rt]) | skip))
    (rw [evSs_consR]; generalize hRx : Pv.rest _ _ = Rx; simp [k15] <;> (subst hRx; first | rw [rest_nx] | (simp only [rest_rt, rest_bk, rest_ct, bind_someX, endD_rt]) | skip))
    (rw [evSs_consR]; generalize hRx : Pv.rest _ _ = Rx; simp [k15] <;> (subst hRx; first | rw [rest_nx] | (simp only [rest_rt, rest_bk, rest_ct, bind_someX, endD_rt]) | skip))
    (rw [evSs_consR]; generalize hRx : Pv.rest _ _ = Rx; simp [k15] <;> (subst hRx; first | rw [rest_nx] | (simp only [rest_rt, rest_bk, rest_ct, bind_someX, endD_rt]) | skip))
    (rw [evSs_consR]; generalize hRx : Pv.rest _ _ = Rx; simp [k15] <;> (subst hRx; first | rw [rest_nx] | (simp only [rest_rt, rest_bk, rest_ct, bind_someX, endD_rt]) | skip))
    (rw [evSs_consR]; generalize hRx : Pv.rest _ _ = Rx; simp [k15] <;> (subst hRx; first | rw [rest_nx] | (simp only [rest_rt, rest_bk, rest_ct, bind_someX, endD_rt]) | skip))
    (rw [evSs_consR]; generalize hRx : Pv.rest _ _ = Rx; simp [k15, e12', hd] <;> (subst hRx; first | rw [rest_nx] | (simp only [rest_rt, rest_bk, rest_ct, bind_someX, endD_rt]) | skip))
  refine ⟨_, ?_, gs⟩
  (rw [evSs_consR]; generalize hRx : Pv.rest _ _ = Rx; simp [SC, k9] <;> (subst hRx; first | rw [rest_nx] | (simp only [rest_rt, rest_bk, rest_ct, bind_someX, endD_rt]) | skip))
  (rw [evSs_consR]; generalize hRx : Pv.rest _ _ = Rx; simp [k10] <;> (subst hRx; first | rw [rest_nx] | (simp only [rest_rt, rest_bk, rest_ct, bind_someX, endD_rt]) | skip))
  (rw [evSs_consR]; generalize hRx : Pv.rest _ _ = Rx; simp [k11] <;> (subst hRx; first | rw [rest_nx] | (simp only [rest_rt, rest_bk, rest_ct, bind_someX, endD_rt]) | skip))
  (rw [evSs_consR]; generalize hRx : Pv.rest _ _ = Rx; simp [k12] <;> (subst hRx; first | rw [rest_nx] | (simp only [rest_rt, rest_bk, rest_ct, bind_someX, endD_rt]) | skip))
  (rw [evSs_consR]; generalize hRx : Pv.rest _ _ = Rx; simp [k13] <;> (subst hRx; first | rw [rest_nx] | (simp only [rest_rt, rest_bk, rest_ct, bind_someX, endD_rt]) | skip))
  (rw [evSs_consR]; generalize hRx : Pv.rest _ _ = Rx; simp [k14] <;> (subst hRx; first | rw [rest_nx] | (simp only [rest_rt, rest_bk, rest_ct, bind_someX, endD_rt]) | skip))
  (rw [evSs_consR]; generalize hRx : Pv.rest _ _ = Rx; simp [k15] <;> (subst hRx; first | rw [rest_nx] | (simp only [rest_rt, rest_bk, rest_ct, bind_someX, endD_rt]) | skip))
  (rw [evSs_consR]; generalize hRx : Pv.rest _ _ = Rx; simp [] <;> (subst hRx; first | rw [rest_nx] | (simp only [rest_rt, rest_bk, rest_ct, bind_someX, endD_rt]) | skip))
end K00

set_option Elab.async false
set_option linter.all false
set_option maxRecDepth 100000
set_option maxHeartbeats 4000000
namespace K00
open PySem L2 Pv

theorem goods_beqL : ∀ {vs : List D}, (∀ d ∈ vs, Good d) → D.beqL vs vs = true
  | [], _ => rfl
  | d :: vs, h => by
    simp only [D.beqL, Bool.and_eq_true]
    exact ⟨(h d List.mem_cons_self).same, goods_beqL fun x hx => h x (List.mem_cons_of_mem _ hx)⟩
theorem beq_true : ∀ {vs ws : List D}, vs = ws → (∀ d ∈ vs, Good d) → D.beqL vs ws = true := by
  rintro vs _ rfl h
  exact goods_beqL h
mutual
theorem deep_mono : ∀ (d : D) (n : Nat), D.deep d n = true → D.deep d (n + 1) = true
  | .non, n, h => rfl
  | .bl _, n, h => by simp [D.deep]
  | .int _, n, h => by simp [D.deep]
  | .str _, n, h => by simp [D.deep]
  | .lst ds, n, h => by
    cases n with
    | zero => simp [D.deep] at h
    | succ n => simp only [D.deep] at h ⊢; exact deepL_mono ds n h
  | .tup ds, n, h => by
    cases n with
    | zero => simp [D.deep] at h
    | succ n => simp only [D.deep] at h ⊢; exact deepL_mono ds n h
  | .dct ks ds, n, h => by
    cases n with
    | zero => simp [D.deep] at h
    | succ n => simp only [D.deep, Bool.and_eq_true] at h ⊢; exact ⟨h.1, deepL_mono ds n h.2⟩
  | .ins _ _ _, n, h => by simp [D.deep] at h
  | .scr _, n, h => by simp [D.deep] at h
theorem deepL_mono : ∀ (ds : List D) (n : Nat), D.deepL ds n = true → D.deepL ds (n + 1) = true
  | [], n, h => rfl
  | d :: ds, n, h => by
    simp only [D.deepL, Bool.and_eq_true] at h ⊢
    exact ⟨deep_mono d n h.1, deepL_mono ds n h.2⟩
end
theorem goods_deepL : ∀ {vs : List D}, (∀ d ∈ vs, Good d) → D.deepL vs 40 = true
  | [], _ => rfl
  | d :: vs, h => by
    simp only [D.deepL, Bool.and_eq_true]
    exact ⟨deep_mono _ _ (h d List.mem_cons_self).deep, goods_deepL fun x hx => h x (List.mem_cons_of_mem _ hx)⟩
theorem valS_map : valS.map D.int = [.int 16, .int 40, .int 4, .int 27, .int 26, .int 25, .int 6, .int 34, .int 104, .int 34, .int 104] ++ List.replicate 34 (.int 112) := by simp [valS]
def valsB : List S := [.asg (.nm 3) (.call 24 [.v 0, .v 2]), .asg (.nm 4) (.call 25 [.v 0, .v 2, .bin .add (.lst [.c (.int 16), .c (.int 40), .c (.int 4), .c (.int 27), .c (.int 26), .c (.int 25), .c (.int 6), .c (.int 34), .c (.int 104), .c (.int 34), .c (.int 104)]) (.bin .mul (.lst [.c (.int 112)]) (.c (.int 34)))]), .app 1 (.call 28 [.v 3, .v 4]), .asg (.nm 4) (.call 25 [.v 0, .v 2, .bin .add (.bin .add (.bin .add (.lst [.c (.int 18), .c (.int 8), .c (.int 26)]) (.bin .mul (.lst [.c (.int 36)]) (.c (.int 7)))) (.lst [.c (.int 12), .c (.int 104), .c (.int 12), .c (.int 104), .c (.int 11)])) (.bin .mul (.lst [.c (.int 95)]) (.c (.int 10)))]), .app 1 (.call 30 [.v 3, .v 4])]
theorem values_ok (ns : List Int) (hn : ns.length ≤ 63) : ∃ vs, F_L_values [.scr ns] = some (.lst vs) ∧ (∀ d ∈ vs, Good d) ∧ vs.length ≤ 1000 := by
  have f24 : Z_L_values.F 24 = F_L_cell := id rfl
  have f25 : Z_L_values.F 25 = F_L_draw := id rfl
  have f28 : Z_L_values.F 28 = F_L_value := id rfl
  have f30 : Z_L_values.F 30 = F_L_word := id rfl
  have r34 : repOk 1 34 = true := by decide
  have r7 : repOk 1 7 = true := by decide
  have r10 : repOk 1 10 = true := by decide
  obtain ⟨σ', k1, vs, z2, z3, z4, rfl, k2, k3⟩ := forL_inv (t := .nm 2) (f := evSs Z_L_values valsB) (ds := rngD 0 (ns.length + 8)) (k := 0) (σ := [.v (.scr ns), .o (.lst []), .no, .no, .no])
    (fun i σ => ∃ vs z2 z3 z4, σ = [.v (.scr ns), .o (.lst vs), z2, z3, z4] ∧ (∀ d ∈ vs, Good d) ∧ vs.length = 2 * i) ⟨[], _, _, _, rfl, by simp, rfl⟩ (by
      rintro i d σ hd' ⟨vs, z2, z3, z4, rfl, k2, k3⟩
      have hi : i < ns.length + 8 := by
        have := (List.getElem?_eq_some_iff.mp hd').1
        rw [rng_len] at this; exact this
      rw [rng_get _ _ _ hi] at hd'
      cases hd'
      rw [Nat.zero_add] at k3 ⊢
      rw [Int.zero_add]
      obtain ⟨z, hz⟩ := cell_ok ns i (by omega)
      obtain ⟨d1, h1, D1⟩ := draw_ok ns i (by omega) valS (by decide) (by decide)
      obtain ⟨d2, h2, D2⟩ := draw_ok ns i (by omega) worS (by decide) (by decide)
      obtain ⟨v, hv, gv⟩ := value_ok z d1 D1
      obtain ⟨w, hw, gw⟩ := word_ok z d2 D2
      simp [valS] at h1
      simp [worS] at h2
      have l1 : vs.length < 16777216 := by omega
      have l2 : vs.length + 1 < 16777216 := by omega
      refine ⟨[.v (.scr ns), .o (.lst vs), .v (.int (i : Nat)), z3, z4], [.v (.scr ns), .o (.lst (vs ++ [v] ++ [w])), .v (.int (i : Nat)), .v (.int z), .v (.lst (d2.map .int))], by simp, .inl ?_, _, _, _, _, rfl, ?_, ?_⟩
      · unfold valsB
        (rw [evSs_consR]; generalize hRx : Pv.rest _ _ = Rx; simp [f24, hz] <;> (subst hRx; first | rw [rest_nx] | (simp only [rest_rt, rest_bk, rest_ct, bind_someX, endD_rt]) | skip))
        (rw [evSs_consR]; generalize hRx : Pv.rest _ _ = Rx; simp [f25, r34, h1] <;> (subst hRx; first | rw [rest_nx] | (simp only [rest_rt, rest_bk, rest_ct, bind_someX, endD_rt]) | skip))
        (rw [evSs_consR]; generalize hRx : Pv.rest _ _ = Rx; simp [f28, hv, l1] <;> (subst hRx; first | rw [rest_nx] | (simp only [rest_rt, rest_bk, rest_ct, bind_someX, endD_rt]) | skip))
        (rw [evSs_consR]; generalize hRx : Pv.rest _ _ = Rx; simp [f25, r7, r10, h2] <;> (subst hRx; first | rw [rest_nx] | (simp only [rest_rt, rest_bk, rest_ct, bind_someX, endD_rt]) | skip))
        (rw [evSs_consR]; generalize hRx : Pv.rest _ _ = Rx; simp [f30, hw, l2] <;> (subst hRx; first | rw [rest_nx] | (simp only [rest_rt, rest_bk, rest_ct, bind_someX, endD_rt]) | skip))
        simp
      · intro d hd
        rcases List.mem_append.mp hd with hd | hd
        · rcases List.mem_append.mp hd with hd | hd
          · exact k2 d hd
          · have : d = v := by simpa using hd
            rw [this]; exact gv
        · have : d = w := by simpa using hd
          rw [this]; exact gw
      · simp [k3]; omega)
  rw [rng_len, Nat.zero_add] at k3
  refine ⟨vs, ?_, k2, by omega⟩
  have okn : okR ((ns.length : Int) + 8) = true := by unfold okR; simp; omega
  have e1 : ((ns.length : Int) + 8).toNat = ns.length + 8 := by omega
  unfold F_L_values evF ir_L_values
  rw [if_pos (show [D.scr ns].length = 1 from rfl)]
  simp only [startD]
  (rw [evSs_consR]; generalize hRx : Pv.rest _ _ = Rx; simp [] <;> (subst hRx; first | rw [rest_nx] | (simp only [rest_rt, rest_bk, rest_ct, bind_someX, endD_rt]) | skip))
  have e : evS Z_L_values (.for_ (.nm 2) (.r1 (.bin .add (.blt .len [.v 0]) (.c (.int 8)))) valsB) [.v (.scr ns), .o (.lst []), .no, .no, .no] = some (.nx [.v (.scr ns), .o (.lst vs), z2, z3, z4]) := by
    rw [← k1]; simp [okn, e1]
  unfold valsB at e
  rw [evSs_consR, e, bind_someX, rest_nx]
  (rw [evSs_consR]; generalize hRx : Pv.rest _ _ = Rx; simp [] <;> (subst hRx; first | rw [rest_nx] | (simp only [rest_rt, rest_bk, rest_ct, bind_someX, endD_rt]) | skip))
  (rw [evSs_consR]; generalize hRx : Pv.rest _ _ = Rx; simp [] <;> (subst hRx; first | rw [rest_nx] | (simp only [rest_rt, rest_bk, rest_ct, bind_someX, endD_rt]) | skip))
end K00

set_option linter.all false
namespace K00
open PySem L2 Pv
theorem main (ns : List Int) (hl : ns.length ≤ 63) : F_law [.scr ns] = some (.bl true) := by
  obtain ⟨vs, h1, h2, h3⟩ := values_ok ns hl
  exact law_core h1 (fun d hd => (h2 d hd).fit) h3 (goods_beqL h2) (goods_deepL h2)
end K00

set_option Elab.async false
set_option linter.all false
set_option maxRecDepth 100000
set_option maxHeartbeats 4000000
namespace K00
open PySem L2 Pv
theorem all_mk {P : Program} {w : World} {K : PySem.W.Frag} {h : Heap} {mg : Str → Option Value} {fa : Addr} (X : K.In h) (G : h.Ns mainGlobals mg) (hfa : mg "law" = some (.ref fa))
    {f24 : Addr} {oc24 kV24 doc24 pm24 cd24 ct24 : Value} {od24 an24 : Option Addr} {sl24 : Array (Option Value)}
    {f25 : Addr} {oc25 kV25 doc25 pm25 cd25 ct25 : Value} {od25 an25 : Option Addr} {sl25 : Array (Option Value)}
    {f27 : Addr} {oc27 kV27 doc27 pm27 cd27 ct27 : Value} {od27 an27 : Option Addr} {sl27 : Array (Option Value)}
    {f26 : Addr} {oc26 kV26 doc26 pm26 cd26 ct26 : Value} {od26 an26 : Option Addr} {sl26 : Array (Option Value)}
    {f28 : Addr} {oc28 kV28 doc28 pm28 cd28 ct28 : Value} {od28 an28 : Option Addr} {sl28 : Array (Option Value)}
    {f29 : Addr} {oc29 kV29 doc29 pm29 cd29 ct29 : Value} {od29 an29 : Option Addr} {sl29 : Array (Option Value)}
    {f30 : Addr} {oc30 kV30 doc30 pm30 cd30 ct30 : Value} {od30 an30 : Option Addr} {sl30 : Array (Option Value)}
    {f34 : Addr} {oc34 kV34 doc34 pm34 cd34 ct34 : Value} {od34 an34 : Option Addr} {sl34 : Array (Option Value)}
    {f1 : Addr} {oc1 kV1 doc1 pm1 cd1 ct1 : Value} {od1 an1 : Option Addr} {sl1 : Array (Option Value)}
    {f2 : Addr} {oc2 kV2 doc2 pm2 cd2 ct2 : Value} {od2 an2 : Option Addr} {sl2 : Array (Option Value)}
    {f10 : Addr} {oc10 kV10 doc10 pm10 cd10 ct10 : Value} {od10 an10 : Option Addr} {sl10 : Array (Option Value)}
    {f31 : Addr} {oc31 kV31 doc31 pm31 cd31 ct31 : Value} {od31 an31 : Option Addr} {sl31 : Array (Option Value)}
    {f32 : Addr} {oc32 kV32 doc32 pm32 cd32 ct32 : Value} {od32 an32 : Option Addr} {sl32 : Array (Option Value)}
    {f33 : Addr} {oc33 kV33 doc33 pm33 cd33 ct33 : Value} {od33 an33 : Option Addr} {sl33 : Array (Option Value)}
    {f4 : Addr} {oc4 kV4 doc4 pm4 cd4 ct4 : Value} {od4 an4 : Option Addr} {sl4 : Array (Option Value)}
    {f3 : Addr} {oc3 kV3 doc3 pm3 cd3 ct3 : Value} {od3 an3 : Option Addr} {sl3 : Array (Option Value)}
    {f11 : Addr} {oc11 kV11 doc11 pm11 cd11 ct11 : Value} {od11 an11 : Option Addr} {sl11 : Array (Option Value)}
    {f12 : Addr} {oc12 kV12 doc12 pm12 cd12 ct12 : Value} {od12 an12 : Option Addr} {sl12 : Array (Option Value)}
    {f35 : Addr} {oc35 kV35 doc35 pm35 cd35 ct35 : Value} {od35 an35 : Option Addr} {sl35 : Array (Option Value)}
    {C6 : Addr}
    {tk0 : Tok}
    {tk1 : Tok}
    {tk2 : Tok}
    {tk3 : Tok}
    {tk4 : Tok}
    (ac6 : PySem.W.nsIn K mainGlobals "Stock" = some (some (.ref C6)))
    (pg6 : PySem.W.plainGet K C6 Str.empty = true)
    (hd6 : PySem.W.hasDictIn K C6 = true)
    (po6 : PySem.W.plainOver K C6 = true)
    (sa6 : PySem.W.findIn K (.ref C6) "__setattr__" = some (some (.builtin "object.__setattr__")))
    (kc6 : PySem.W.keepIn K (.ref C6) = true)
    (cc6 : PySem.W.findIn K (.ref C6) "__class__" = some (some (.builtin "object.__class__")))
    (cg6 : PySem.W.specialIn K (.builtin "object.__class__") "__get__" = some (some (.builtin "getset_descriptor.__get__")))
    (ct_6 : PySem.W.takesIn K (.builtin "object.__class__") = some true)
    (co6 : PySem.W.mroIn K C6 (.type "object") = some true)
    (ki6int : PySem.W.subIn K (.ref C6) (.type "int") = some false)
    (ki6bool : PySem.W.subIn K (.ref C6) (.type "bool") = some false)
    (ki6str : PySem.W.subIn K (.ref C6) (.type "str") = some false)
    (ki6tuple : PySem.W.subIn K (.ref C6) (.type "tuple") = some false)
    (ki6list : PySem.W.subIn K (.ref C6) (.type "list") = some false)
    (ki6dict : PySem.W.subIn K (.ref C6) (.type "dict") = some false)
    (nf0 : PySem.W.findIn K (.ref C6) "layers" = some none)
    (nf1 : PySem.W.findIn K (.ref C6) "numbers" = some none)
    (nf2 : PySem.W.findIn K (.ref C6) "size" = some none)
    (nf3 : PySem.W.findIn K (.ref C6) "stamps" = some none)
    (m12 : PySem.W.findIn K (.ref C6) "__init__" = some (some (.ref f12)))
    (i12 : PySem.W.isFn K (.ref f12) = true)
    (mk12 : PySem.W.makesIn K C6 = true)
    (a24 : PySem.W.nsIn K mainGlobals "_law_cell" = some (some (.ref f24)))
    (l24 : K.lookup f24 = some ⟨oc24, od24, .func (PySem.W.fnOf "_law_cell" "_law_cell" (defArgs s_L_cell) (defBody s_L_cell) (defScope s_L_cell) .none kV24 doc24 pm24 an24 cd24 ct24), sl24⟩)
    (c24 : PySem.W.codeIn K cd24 "_law_cell" = true)
    (k24 : PySem.W.keepIn K (.ref f24) = true)
    (a25 : PySem.W.nsIn K mainGlobals "_law_draw" = some (some (.ref f25)))
    (l25 : K.lookup f25 = some ⟨oc25, od25, .func (PySem.W.fnOf "_law_draw" "_law_draw" (defArgs s_L_draw) (defBody s_L_draw) (defScope s_L_draw) .none kV25 doc25 pm25 an25 cd25 ct25), sl25⟩)
    (c25 : PySem.W.codeIn K cd25 "_law_draw" = true)
    (k25 : PySem.W.keepIn K (.ref f25) = true)
    (a27 : PySem.W.nsIn K mainGlobals "_law_layer" = some (some (.ref f27)))
    (l27 : K.lookup f27 = some ⟨oc27, od27, .func (PySem.W.fnOf "_law_layer" "_law_layer" (defArgs s_L_layer) (defBody s_L_layer) (defScope s_L_layer) .none kV27 doc27 pm27 an27 cd27 ct27), sl27⟩)
    (c27 : PySem.W.codeIn K cd27 "_law_layer" = true)
    (k27 : PySem.W.keepIn K (.ref f27) = true)
    (a26 : PySem.W.nsIn K mainGlobals "_law_inks" = some (some (.ref f26)))
    (l26 : K.lookup f26 = some ⟨oc26, od26, .func (PySem.W.fnOf "_law_inks" "_law_inks" (defArgs s_L_inks) (defBody s_L_inks) (defScope s_L_inks) .none kV26 doc26 pm26 an26 cd26 ct26), sl26⟩)
    (c26 : PySem.W.codeIn K cd26 "_law_inks" = true)
    (k26 : PySem.W.keepIn K (.ref f26) = true)
    (a28 : PySem.W.nsIn K mainGlobals "_law_value" = some (some (.ref f28)))
    (l28 : K.lookup f28 = some ⟨oc28, od28, .func (PySem.W.fnOf "_law_value" "_law_value" (defArgs s_L_value) (defBody s_L_value) (defScope s_L_value) .none kV28 doc28 pm28 an28 cd28 ct28), sl28⟩)
    (c28 : PySem.W.codeIn K cd28 "_law_value" = true)
    (k28 : PySem.W.keepIn K (.ref f28) = true)
    (a29 : PySem.W.nsIn K mainGlobals "_law_name" = some (some (.ref f29)))
    (l29 : K.lookup f29 = some ⟨oc29, od29, .func (PySem.W.fnOf "_law_name" "_law_name" (defArgs s_L_name) (defBody s_L_name) (defScope s_L_name) .none kV29 doc29 pm29 an29 cd29 ct29), sl29⟩)
    (c29 : PySem.W.codeIn K cd29 "_law_name" = true)
    (k29 : PySem.W.keepIn K (.ref f29) = true)
    (a30 : PySem.W.nsIn K mainGlobals "_law_word" = some (some (.ref f30)))
    (l30 : K.lookup f30 = some ⟨oc30, od30, .func (PySem.W.fnOf "_law_word" "_law_word" (defArgs s_L_word) (defBody s_L_word) (defScope s_L_word) .none kV30 doc30 pm30 an30 cd30 ct30), sl30⟩)
    (c30 : PySem.W.codeIn K cd30 "_law_word" = true)
    (k30 : PySem.W.keepIn K (.ref f30) = true)
    (a34 : PySem.W.nsIn K mainGlobals "_law_values" = some (some (.ref f34)))
    (l34 : K.lookup f34 = some ⟨oc34, od34, .func (PySem.W.fnOf "_law_values" "_law_values" (defArgs s_L_values) (defBody s_L_values) (defScope s_L_values) .none kV34 doc34 pm34 an34 cd34 ct34), sl34⟩)
    (c34 : PySem.W.codeIn K cd34 "_law_values" = true)
    (k34 : PySem.W.keepIn K (.ref f34) = true)
    (a1 : PySem.W.nsIn K mainGlobals "is_layer" = some (some (.ref f1)))
    (l1 : K.lookup f1 = some ⟨oc1, od1, .func (PySem.W.fnOf "is_layer" "is_layer" (defArgs s_is_layer) (defBody s_is_layer) (defScope s_is_layer) .none kV1 doc1 pm1 an1 cd1 ct1), sl1⟩)
    (c1 : PySem.W.codeIn K cd1 "is_layer" = true)
    (k1 : PySem.W.keepIn K (.ref f1) = true)
    (a2 : PySem.W.nsIn K mainGlobals "is_sheet" = some (some (.ref f2)))
    (l2 : K.lookup f2 = some ⟨oc2, od2, .func (PySem.W.fnOf "is_sheet" "is_sheet" (defArgs s_is_sheet) (defBody s_is_sheet) (defScope s_is_sheet) .none kV2 doc2 pm2 an2 cd2 ct2), sl2⟩)
    (c2 : PySem.W.codeIn K cd2 "is_sheet" = true)
    (k2 : PySem.W.keepIn K (.ref f2) = true)
    (a10 : PySem.W.nsIn K mainGlobals "is_name" = some (some (.ref f10)))
    (l10 : K.lookup f10 = some ⟨oc10, od10, .func (PySem.W.fnOf "is_name" "is_name" (defArgs s_is_name) (defBody s_is_name) (defScope s_is_name) .none kV10 doc10 pm10 an10 cd10 ct10), sl10⟩)
    (c10 : PySem.W.codeIn K cd10 "is_name" = true)
    (k10 : PySem.W.keepIn K (.ref f10) = true)
    (a31 : PySem.W.nsIn K mainGlobals "_law_rank" = some (some (.ref f31)))
    (l31 : K.lookup f31 = some ⟨oc31, od31, .func (PySem.W.fnOf "_law_rank" "_law_rank" (defArgs s_L_rank) (defBody s_L_rank) (defScope s_L_rank) .none kV31 doc31 pm31 an31 cd31 ct31), sl31⟩)
    (c31 : PySem.W.codeIn K cd31 "_law_rank" = true)
    (k31 : PySem.W.keepIn K (.ref f31) = true)
    (a32 : PySem.W.nsIn K mainGlobals "_law_is_name" = some (some (.ref f32)))
    (l32 : K.lookup f32 = some ⟨oc32, od32, .func (PySem.W.fnOf "_law_is_name" "_law_is_name" (defArgs s_L_is_name) (defBody s_L_is_name) (defScope s_L_is_name) .none kV32 doc32 pm32 an32 cd32 ct32), sl32⟩)
    (c32 : PySem.W.codeIn K cd32 "_law_is_name" = true)
    (k32 : PySem.W.keepIn K (.ref f32) = true)
    (a33 : PySem.W.nsIn K mainGlobals "_law_right" = some (some (.ref f33)))
    (l33 : K.lookup f33 = some ⟨oc33, od33, .func (PySem.W.fnOf "_law_right" "_law_right" (defArgs s_L_right) (defBody s_L_right) (defScope s_L_right) .none kV33 doc33 pm33 an33 cd33 ct33), sl33⟩)
    (c33 : PySem.W.codeIn K cd33 "_law_right" = true)
    (k33 : PySem.W.keepIn K (.ref f33) = true)
    (a4 : PySem.W.nsIn K mainGlobals "frozen" = some (some (.ref f4)))
    (l4 : K.lookup f4 = some ⟨oc4, od4, .func (PySem.W.fnOf "frozen" "frozen" (defArgs s_frozen) (defBody s_frozen) (defScope s_frozen) .none kV4 doc4 pm4 an4 cd4 ct4), sl4⟩)
    (c4 : PySem.W.codeIn K cd4 "frozen" = true)
    (k4 : PySem.W.keepIn K (.ref f4) = true)
    (a3 : PySem.W.nsIn K mainGlobals "empty_layer" = some (some (.ref f3)))
    (l3 : K.lookup f3 = some ⟨oc3, od3, .func (PySem.W.fnOf "empty_layer" "empty_layer" (defArgs s_empty_layer) (defBody s_empty_layer) (defScope s_empty_layer) .none kV3 doc3 pm3 an3 cd3 ct3), sl3⟩)
    (c3 : PySem.W.codeIn K cd3 "empty_layer" = true)
    (k3 : PySem.W.keepIn K (.ref f3) = true)
    (a11 : PySem.W.nsIn K mainGlobals "is_stamp" = some (some (.ref f11)))
    (l11 : K.lookup f11 = some ⟨oc11, od11, .func (PySem.W.fnOf "is_stamp" "is_stamp" (defArgs s_is_stamp) (defBody s_is_stamp) (defScope s_is_stamp) .none kV11 doc11 pm11 an11 cd11 ct11), sl11⟩)
    (c11 : PySem.W.codeIn K cd11 "is_stamp" = true)
    (k11 : PySem.W.keepIn K (.ref f11) = true)
    (l12 : K.lookup f12 = some ⟨oc12, od12, .func (PySem.W.fnOf "__init__" "Stock.__init__" (defArgs s_Stock___init__) (defBody s_Stock___init__) (defScope s_Stock___init__) .none kV12 doc12 pm12 an12 cd12 ct12), sl12⟩)
    (c12 : PySem.W.codeIn K cd12 "Stock.__init__" = true)
    (k12 : PySem.W.keepIn K (.ref f12) = true)
    (a35 : PySem.W.nsIn K mainGlobals "law" = some (some (.ref f35)))
    (l35 : K.lookup f35 = some ⟨oc35, od35, .func (PySem.W.fnOf "law" "law" (defArgs s_law) (defBody s_law) (defScope s_law) .none kV35 doc35 pm35 an35 cd35 ct35), sl35⟩)
    (c35 : PySem.W.codeIn K cd35 "law" = true)
    (k35 : PySem.W.keepIn K (.ref f35) = true)
    (z0 : PySem.W.nsIn K mainGlobals "bool" = some none)
    (z1 : PySem.W.nsIn K mainGlobals "enumerate" = some none)
    (z2 : PySem.W.nsIn K mainGlobals "int" = some none)
    (z3 : PySem.W.nsIn K mainGlobals "isinstance" = some none)
    (z4 : PySem.W.nsIn K mainGlobals "len" = some none)
    (z5 : PySem.W.nsIn K mainGlobals "list" = some none)
    (z6 : PySem.W.nsIn K mainGlobals "max" = some none)
    (z7 : PySem.W.nsIn K mainGlobals "range" = some none)
    (z8 : PySem.W.nsIn K mainGlobals "str" = some none)
    (z9 : PySem.W.nsIn K mainGlobals "tuple" = some none)
    (gk0 : PySem.W.nsIn K mainGlobals "SIGNS" = some (some (.str (mkS [45, 46, 97, 98, 99, 100, 101, 102, 103, 104, 105, 106, 107, 108, 109, 110, 111, 112, 113, 114, 115, 116, 117, 118, 119, 120, 121, 122]) tk0)))
    (gk1 : PySem.W.nsIn K mainGlobals "MOST_CELLS" = some (some (.int 30 tk1)))
    (gk2 : PySem.W.nsIn K mainGlobals "LETTERS" = some (some (.str (mkS [97, 98, 99, 100, 101, 102, 103, 104, 105, 106, 107, 108, 109, 110, 111, 112, 113, 114, 115, 116, 117, 118, 119, 120, 121, 122]) tk2)))
    (gk3 : PySem.W.nsIn K mainGlobals "DIGITS" = some (some (.str (mkS [48, 49, 50, 51, 52, 53, 54, 55, 56, 57]) tk3)))
    (gk4 : PySem.W.nsIn K mainGlobals "LONGEST_NAME" = some (some (.int 8 tk4)))
    : ∃ fd : FuncData, (∀ (s : Shared) (v : Value), BindsTo s fd ⟨[v], []⟩ [("_law_script", v)]) ∧ ∀ base : Heap, K.In base → base.Ns mainGlobals mg → FnOk P w K mg base CX0 9 fa fd ["_law_script"] (spF K F_law) := by
  have e := hfa.symm.trans (PySem.W.mg_of X G a35)
  cases e
  have hb : ∀ x ∈ blts, mg x = none := by
    intro x hx
    simp only [blts, List.mem_cons, List.not_mem_nil, or_false] at hx
    rcases hx with rfl | rfl | rfl | rfl | rfl | rfl | rfl | rfl | rfl | rfl
    · exact PySem.W.mg_none_of X G z0
    · exact PySem.W.mg_none_of X G z1
    · exact PySem.W.mg_none_of X G z2
    · exact PySem.W.mg_none_of X G z3
    · exact PySem.W.mg_none_of X G z4
    · exact PySem.W.mg_none_of X G z5
    · exact PySem.W.mg_none_of X G z6
    · exact PySem.W.mg_none_of X G z7
    · exact PySem.W.mg_none_of X G z8
    · exact PySem.W.mg_none_of X G z9
  have cl6 : Cls K C6 := ⟨pg6, hd6, po6, sa6⟩
  have Fn24 := fun_mk (st := s_L_cell) l24 c24 k24
  have b24 := Fn24.binds (ps := ["_law_script", "_law_k"]) fun _ _ _ _ _ _ us hl => match us, hl with | [_, _], _ => rfl
  have Fn25 := fun_mk (st := s_L_draw) l25 c25 k25
  have b25 := Fn25.binds (ps := ["_law_script", "_law_k", "_law_sizes"]) fun _ _ _ _ _ _ us hl => match us, hl with | [_, _, _], _ => rfl
  have Fn27 := fun_mk (st := s_L_layer) l27 c27 k27
  have b27 := Fn27.binds (ps := ["_law_inks_here", "_law_share", "_law_spots", "_law_wide"]) fun _ _ _ _ _ _ us hl => match us, hl with | [_, _, _, _], _ => rfl
  have Fn26 := fun_mk (st := s_L_inks) l26 c26 k26
  have b26 := Fn26.binds (ps := ["_law_spots"]) fun _ _ _ _ _ _ us hl => match us, hl with | [_], _ => rfl
  have Fn28 := fun_mk (st := s_L_value) l28 c28 k28
  have b28 := Fn28.binds (ps := ["_law_cell_here", "_law_spots"]) fun _ _ _ _ _ _ us hl => match us, hl with | [_, _], _ => rfl
  have Fn29 := fun_mk (st := s_L_name) l29 c29 k29
  have b29 := Fn29.binds (ps := ["_law_spots"]) fun _ _ _ _ _ _ us hl => match us, hl with | [_], _ => rfl
  have Fn30 := fun_mk (st := s_L_word) l30 c30 k30
  have b30 := Fn30.binds (ps := ["_law_cell_here", "_law_spots"]) fun _ _ _ _ _ _ us hl => match us, hl with | [_, _], _ => rfl
  have Fn34 := fun_mk (st := s_L_values) l34 c34 k34
  have b34 := Fn34.binds (ps := ["_law_script"]) fun _ _ _ _ _ _ us hl => match us, hl with | [_], _ => rfl
  have Fn1 := fun_mk (st := s_is_layer) l1 c1 k1
  have b1 := Fn1.binds (ps := ["value"]) fun _ _ _ _ _ _ us hl => match us, hl with | [_], _ => rfl
  have Fn2 := fun_mk (st := s_is_sheet) l2 c2 k2
  have b2 := Fn2.binds (ps := ["value"]) fun _ _ _ _ _ _ us hl => match us, hl with | [_], _ => rfl
  have Fn10 := fun_mk (st := s_is_name) l10 c10 k10
  have b10 := Fn10.binds (ps := ["value"]) fun _ _ _ _ _ _ us hl => match us, hl with | [_], _ => rfl
  have Fn31 := fun_mk (st := s_L_rank) l31 c31 k31
  have b31 := Fn31.binds (ps := ["_law_thing"]) fun _ _ _ _ _ _ us hl => match us, hl with | [_], _ => rfl
  have Fn32 := fun_mk (st := s_L_is_name) l32 c32 k32
  have b32 := Fn32.binds (ps := ["_law_thing"]) fun _ _ _ _ _ _ us hl => match us, hl with | [_], _ => rfl
  have Fn33 := fun_mk (st := s_L_right) l33 c33 k33
  have b33 := Fn33.binds (ps := ["_law_thing", "_law_by_name"]) fun _ _ _ _ _ _ us hl => match us, hl with | [_, _], _ => rfl
  have Fn4 := fun_mk (st := s_frozen) l4 c4 k4
  have b4 := Fn4.binds (ps := ["value"]) fun _ _ _ _ _ _ us hl => match us, hl with | [_], _ => rfl
  have Fn3 := fun_mk (st := s_empty_layer) l3 c3 k3
  have b3 := Fn3.binds (ps := ["size"]) fun _ _ _ _ _ _ us hl => match us, hl with | [_], _ => rfl
  have Fn11 := fun_mk (st := s_is_stamp) l11 c11 k11
  have b11 := Fn11.binds (ps := ["value", "size"]) fun _ _ _ _ _ _ us hl => match us, hl with | [_, _], _ => rfl
  have Fn12 := fun_mk (st := s_Stock___init__) l12 c12 k12
  have b12 := Fn12.binds (ps := ["self", "size", "stamps"]) fun _ _ _ _ _ _ us hl => match us, hl with | [_, _, _], _ => rfl
  have Fn35 := fun_mk (st := s_law) l35 c35 k35
  have b35 := Fn35.binds (ps := ["_law_script"]) fun _ _ _ _ _ _ us hl => match us, hl with | [_], _ => rfl
  refine ⟨_, fun s v => (.of_eq rfl : BindsTo s (PySem.W.fnOf "law" "law" (defArgs s_law) (defBody s_law) (defScope s_law) .none kV35 doc35 pm35 an35 cd35 ct35) ⟨[v], []⟩ [("_law_script", v)]), fun base KB GB => ?_⟩
  have ok24 : FnOk P w K mg base CX0 1 f24 _ ["_law_script", "_law_k"] (spF K F_L_cell) :=
    fn_ok (Y := Y_L_cell) Fn24 sc_L_cell ⟨fun i x hx => by simp [Y_L_cell, Z_L_cell, findM] at hx,
      fun k x hx => by simp [Y_L_cell, Z_L_cell, findM] at hx,
      hb, fun hz => by simp [Y_L_cell] at hz,
      fun c f hx => by simp [Y_L_cell, Z_L_cell, findM] at hx,
      fun c m k hx => by simp [Y_L_cell, Z_L_cell, findM] at hx,
      fun c m k hx => by simp [Y_L_cell, Z_L_cell, findM] at hx,
      fun k c hx => by simp [Y_L_cell, Z_L_cell, findM] at hx,
      fun c hx => by simp [Y_L_cell, Z_L_cell] at hx,
      fun k x ks pm hx => by simp [Y_L_cell, Z_L_cell, findM] at hx⟩ ck_L_cell (by decide) (fun _ _ z => z)
  have ok25 : FnOk P w K mg base CX0 2 f25 _ ["_law_script", "_law_k", "_law_sizes"] (spF K F_L_draw) :=
    fn_ok (Y := Y_L_draw) Fn25 sc_L_draw ⟨fun i x hx => by
      simp only [Y_L_draw, Z_L_draw, List.mem_cons, List.not_mem_nil, or_false, Prod.mk.injEq] at hx
      obtain ⟨rfl, rfl⟩ := hx
      · exact ⟨f24, _, _, PySem.W.mg_of X G a24, k24, b24, ok24.mono (by decide)⟩,
      fun k x hx => by simp [Y_L_draw, Z_L_draw, findM] at hx,
      hb, fun hz => by simp [Y_L_draw] at hz,
      fun c f hx => by simp [Y_L_draw, Z_L_draw, findM] at hx,
      fun c m k hx => by simp [Y_L_draw, Z_L_draw, findM] at hx,
      fun c m k hx => by simp [Y_L_draw, Z_L_draw, findM] at hx,
      fun k c hx => by simp [Y_L_draw, Z_L_draw, findM] at hx,
      fun c hx => by simp [Y_L_draw, Z_L_draw] at hx,
      fun k x ks pm hx => by simp [Y_L_draw, Z_L_draw, findM] at hx⟩ ck_L_draw (by decide) (fun _ _ z => z)
  have ok27 : FnOk P w K mg base CX0 1 f27 _ ["_law_inks_here", "_law_share", "_law_spots", "_law_wide"] (spF K F_L_layer) :=
    fn_ok (Y := Y_L_layer) Fn27 sc_L_layer ⟨fun i x hx => by simp [Y_L_layer, Z_L_layer, findM] at hx,
      fun k x hx => by simp [Y_L_layer, Z_L_layer, findM] at hx,
      hb, fun hz => by simp [Y_L_layer] at hz,
      fun c f hx => by simp [Y_L_layer, Z_L_layer, findM] at hx,
      fun c m k hx => by simp [Y_L_layer, Z_L_layer, findM] at hx,
      fun c m k hx => by simp [Y_L_layer, Z_L_layer, findM] at hx,
      fun k c hx => by simp [Y_L_layer, Z_L_layer, findM] at hx,
      fun c hx => by simp [Y_L_layer, Z_L_layer] at hx,
      fun k x ks pm hx => by simp [Y_L_layer, Z_L_layer, findM] at hx⟩ ck_L_layer (by decide) (fun _ _ z => z)
  have ok26 : FnOk P w K mg base CX0 1 f26 _ ["_law_spots"] (spF K F_L_inks) :=
    fn_ok (Y := Y_L_inks) Fn26 sc_L_inks ⟨fun i x hx => by simp [Y_L_inks, Z_L_inks, findM] at hx,
      fun k x hx => by simp [Y_L_inks, Z_L_inks, findM] at hx,
      hb, fun hz => by simp [Y_L_inks] at hz,
      fun c f hx => by simp [Y_L_inks, Z_L_inks, findM] at hx,
      fun c m k hx => by simp [Y_L_inks, Z_L_inks, findM] at hx,
      fun c m k hx => by simp [Y_L_inks, Z_L_inks, findM] at hx,
      fun k c hx => by simp [Y_L_inks, Z_L_inks, findM] at hx,
      fun c hx => by simp [Y_L_inks, Z_L_inks] at hx,
      fun k x ks pm hx => by simp [Y_L_inks, Z_L_inks, findM] at hx⟩ ck_L_inks (by decide) (fun _ _ z => z)
  have ok28 : FnOk P w K mg base CX0 2 f28 _ ["_law_cell_here", "_law_spots"] (spF K F_L_value) :=
    fn_ok (Y := Y_L_value) Fn28 sc_L_value ⟨fun i x hx => by
      simp only [Y_L_value, Z_L_value, List.mem_cons, List.not_mem_nil, or_false, Prod.mk.injEq] at hx
      rcases hx with ⟨rfl, rfl⟩ | ⟨rfl, rfl⟩
      · exact ⟨f26, _, _, PySem.W.mg_of X G a26, k26, b26, ok26.mono (by decide)⟩
      · exact ⟨f27, _, _, PySem.W.mg_of X G a27, k27, b27, ok27.mono (by decide)⟩,
      fun k x hx => by simp [Y_L_value, Z_L_value, findM] at hx,
      hb, fun hz => by simp [Y_L_value] at hz,
      fun c f hx => by simp [Y_L_value, Z_L_value, findM] at hx,
      fun c m k hx => by simp [Y_L_value, Z_L_value, findM] at hx,
      fun c m k hx => by simp [Y_L_value, Z_L_value, findM] at hx,
      fun k c hx => by simp [Y_L_value, Z_L_value, findM] at hx,
      fun c hx => by simp [Y_L_value, Z_L_value] at hx,
      fun k x ks pm hx => by simp [Y_L_value, Z_L_value, findM] at hx⟩ ck_L_value (by decide) (fun _ _ z => z)
  have ok29 : FnOk P w K mg base CX0 1 f29 _ ["_law_spots"] (spF K F_L_name) :=
    fn_ok (Y := Y_L_name) Fn29 sc_L_name ⟨fun i x hx => by simp [Y_L_name, Z_L_name, findM] at hx,
      fun k x hx => by simp [Y_L_name, Z_L_name, findM] at hx,
      hb, fun hz => by simp [Y_L_name] at hz,
      fun c f hx => by simp [Y_L_name, Z_L_name, findM] at hx,
      fun c m k hx => by simp [Y_L_name, Z_L_name, findM] at hx,
      fun c m k hx => by simp [Y_L_name, Z_L_name, findM] at hx,
      fun k c hx => by simp [Y_L_name, Z_L_name, findM] at hx,
      fun c hx => by simp [Y_L_name, Z_L_name] at hx,
      fun k x ks pm hx => by simp [Y_L_name, Z_L_name, findM] at hx⟩ ck_L_name (by decide) (fun _ _ z => z)
  have ok30 : FnOk P w K mg base CX0 2 f30 _ ["_law_cell_here", "_law_spots"] (spF K F_L_word) :=
    fn_ok (Y := Y_L_word) Fn30 sc_L_word ⟨fun i x hx => by
      simp only [Y_L_word, Z_L_word, List.mem_cons, List.not_mem_nil, or_false, Prod.mk.injEq] at hx
      obtain ⟨rfl, rfl⟩ := hx
      · exact ⟨f29, _, _, PySem.W.mg_of X G a29, k29, b29, ok29.mono (by decide)⟩,
      fun k x hx => by simp [Y_L_word, Z_L_word, findM] at hx,
      hb, fun hz => by simp [Y_L_word] at hz,
      fun c f hx => by simp [Y_L_word, Z_L_word, findM] at hx,
      fun c m k hx => by simp [Y_L_word, Z_L_word, findM] at hx,
      fun c m k hx => by simp [Y_L_word, Z_L_word, findM] at hx,
      fun k c hx => by simp [Y_L_word, Z_L_word, findM] at hx,
      fun c hx => by simp [Y_L_word, Z_L_word] at hx,
      fun k x ks pm hx => by simp [Y_L_word, Z_L_word, findM] at hx⟩ ck_L_word (by decide) (fun _ _ z => z)
  have ok34 : FnOk P w K mg base CX0 3 f34 _ ["_law_script"] (spF K F_L_values) :=
    fn_ok (Y := Y_L_values) Fn34 sc_L_values ⟨fun i x hx => by
      simp only [Y_L_values, Z_L_values, List.mem_cons, List.not_mem_nil, or_false, Prod.mk.injEq] at hx
      rcases hx with ⟨rfl, rfl⟩ | ⟨rfl, rfl⟩ | ⟨rfl, rfl⟩ | ⟨rfl, rfl⟩
      · exact ⟨f24, _, _, PySem.W.mg_of X G a24, k24, b24, ok24.mono (by decide)⟩
      · exact ⟨f25, _, _, PySem.W.mg_of X G a25, k25, b25, ok25.mono (by decide)⟩
      · exact ⟨f28, _, _, PySem.W.mg_of X G a28, k28, b28, ok28.mono (by decide)⟩
      · exact ⟨f30, _, _, PySem.W.mg_of X G a30, k30, b30, ok30.mono (by decide)⟩,
      fun k x hx => by simp [Y_L_values, Z_L_values, findM] at hx,
      hb, fun hz => by simp [Y_L_values] at hz,
      fun c f hx => by simp [Y_L_values, Z_L_values, findM] at hx,
      fun c m k hx => by simp [Y_L_values, Z_L_values, findM] at hx,
      fun c m k hx => by simp [Y_L_values, Z_L_values, findM] at hx,
      fun k c hx => by simp [Y_L_values, Z_L_values, findM] at hx,
      fun c hx => by simp [Y_L_values, Z_L_values] at hx,
      fun k x ks pm hx => by simp [Y_L_values, Z_L_values, findM] at hx⟩ ck_L_values (by decide) (fun _ _ z => z)
  have ok1 : FnOk P w K mg base CX0 1 f1 _ ["value"] (spF K F_is_layer) :=
    fn_ok (Y := Y_is_layer) Fn1 sc_is_layer ⟨fun i x hx => by simp [Y_is_layer, Z_is_layer, findM] at hx,
      fun k x hx => by
      simp only [Y_is_layer, Z_is_layer, List.mem_cons, List.not_mem_nil, or_false, Prod.mk.injEq] at hx
      rcases hx with ⟨rfl, rfl⟩ | ⟨rfl, rfl⟩
      · exact ⟨_, .int 30, _, PySem.W.mg_of X G gk1, ⟨_, rfl⟩, rfl, fun G => by simp only [Den]⟩
      · exact ⟨_, .str (mkS [45, 46, 97, 98, 99, 100, 101, 102, 103, 104, 105, 106, 107, 108, 109, 110, 111, 112, 113, 114, 115, 116, 117, 118, 119, 120, 121, 122]), _, PySem.W.mg_of X G gk0, ⟨_, rfl⟩, rfl, fun G => by simp only [Den]⟩,
      hb, fun hz => by simp [Y_is_layer] at hz,
      fun c f hx => by simp [Y_is_layer, Z_is_layer, findM] at hx,
      fun c m k hx => by simp [Y_is_layer, Z_is_layer, findM] at hx,
      fun c m k hx => by simp [Y_is_layer, Z_is_layer, findM] at hx,
      fun k c hx => by simp [Y_is_layer, Z_is_layer, findM] at hx,
      fun c hx => by
      simp only [Y_is_layer, Z_is_layer, List.mem_cons, List.not_mem_nil, or_false] at hx
      subst hx
      · exact ⟨C6, ac6, cl6, cc6, cg6, ct_6, co6, kit_sub .int ki6int, kit_sub .bool ki6bool, kit_sub .str ki6str, kit_sub .tuple ki6tuple, kit_sub .list ki6list, kit_sub .dict ki6dict⟩,
      fun k x ks pm hx => by simp [Y_is_layer, Z_is_layer, findM] at hx⟩ ck_is_layer (by decide) (fun _ _ z => z)
  have ok2 : FnOk P w K mg base CX0 2 f2 _ ["value"] (spF K F_is_sheet) :=
    fn_ok (Y := Y_is_sheet) Fn2 sc_is_sheet ⟨fun i x hx => by
      simp only [Y_is_sheet, Z_is_sheet, List.mem_cons, List.not_mem_nil, or_false, Prod.mk.injEq] at hx
      obtain ⟨rfl, rfl⟩ := hx
      · exact ⟨f1, _, _, PySem.W.mg_of X G a1, k1, b1, ok1.mono (by decide)⟩,
      fun k x hx => by simp [Y_is_sheet, Z_is_sheet, findM] at hx,
      hb, fun hz => by simp [Y_is_sheet] at hz,
      fun c f hx => by simp [Y_is_sheet, Z_is_sheet, findM] at hx,
      fun c m k hx => by simp [Y_is_sheet, Z_is_sheet, findM] at hx,
      fun c m k hx => by simp [Y_is_sheet, Z_is_sheet, findM] at hx,
      fun k c hx => by simp [Y_is_sheet, Z_is_sheet, findM] at hx,
      fun c hx => by simp [Y_is_sheet, Z_is_sheet] at hx,
      fun k x ks pm hx => by simp [Y_is_sheet, Z_is_sheet, findM] at hx⟩ ck_is_sheet (by decide) (fun _ _ z => z)
  have ok10 : FnOk P w K mg base CX0 1 f10 _ ["value"] (spF K F_is_name) :=
    fn_ok (Y := Y_is_name) Fn10 sc_is_name ⟨fun i x hx => by simp [Y_is_name, Z_is_name, findM] at hx,
      fun k x hx => by
      simp only [Y_is_name, Z_is_name, List.mem_cons, List.not_mem_nil, or_false, Prod.mk.injEq] at hx
      rcases hx with ⟨rfl, rfl⟩ | ⟨rfl, rfl⟩ | ⟨rfl, rfl⟩
      · exact ⟨_, .int 8, _, PySem.W.mg_of X G gk4, ⟨_, rfl⟩, rfl, fun G => by simp only [Den]⟩
      · exact ⟨_, .str (mkS [97, 98, 99, 100, 101, 102, 103, 104, 105, 106, 107, 108, 109, 110, 111, 112, 113, 114, 115, 116, 117, 118, 119, 120, 121, 122]), _, PySem.W.mg_of X G gk2, ⟨_, rfl⟩, rfl, fun G => by simp only [Den]⟩
      · exact ⟨_, .str (mkS [48, 49, 50, 51, 52, 53, 54, 55, 56, 57]), _, PySem.W.mg_of X G gk3, ⟨_, rfl⟩, rfl, fun G => by simp only [Den]⟩,
      hb, fun hz => by simp [Y_is_name] at hz,
      fun c f hx => by simp [Y_is_name, Z_is_name, findM] at hx,
      fun c m k hx => by simp [Y_is_name, Z_is_name, findM] at hx,
      fun c m k hx => by simp [Y_is_name, Z_is_name, findM] at hx,
      fun k c hx => by simp [Y_is_name, Z_is_name, findM] at hx,
      fun c hx => by
      simp only [Y_is_name, Z_is_name, List.mem_cons, List.not_mem_nil, or_false] at hx
      subst hx
      · exact ⟨C6, ac6, cl6, cc6, cg6, ct_6, co6, kit_sub .int ki6int, kit_sub .bool ki6bool, kit_sub .str ki6str, kit_sub .tuple ki6tuple, kit_sub .list ki6list, kit_sub .dict ki6dict⟩,
      fun k x ks pm hx => by simp [Y_is_name, Z_is_name, findM] at hx⟩ ck_is_name (by decide) (fun _ _ z => z)
  have ok31 : FnOk P w K mg base CX0 1 f31 _ ["_law_thing"] (spF K F_L_rank) :=
    fn_ok (Y := Y_L_rank) Fn31 sc_L_rank ⟨fun i x hx => by simp [Y_L_rank, Z_L_rank, findM] at hx,
      fun k x hx => by simp [Y_L_rank, Z_L_rank, findM] at hx,
      hb, fun hz => by simp [Y_L_rank] at hz,
      fun c f hx => by simp [Y_L_rank, Z_L_rank, findM] at hx,
      fun c m k hx => by simp [Y_L_rank, Z_L_rank, findM] at hx,
      fun c m k hx => by simp [Y_L_rank, Z_L_rank, findM] at hx,
      fun k c hx => by simp [Y_L_rank, Z_L_rank, findM] at hx,
      fun c hx => by
      simp only [Y_L_rank, Z_L_rank, List.mem_cons, List.not_mem_nil, or_false] at hx
      subst hx
      · exact ⟨C6, ac6, cl6, cc6, cg6, ct_6, co6, kit_sub .int ki6int, kit_sub .bool ki6bool, kit_sub .str ki6str, kit_sub .tuple ki6tuple, kit_sub .list ki6list, kit_sub .dict ki6dict⟩,
      fun k x ks pm hx => by simp [Y_L_rank, Z_L_rank, findM] at hx⟩ ck_L_rank (by decide) (fun _ _ z => z)
  have ok32 : FnOk P w K mg base CX0 1 f32 _ ["_law_thing"] (spF K F_L_is_name) :=
    fn_ok (Y := Y_L_is_name) Fn32 sc_L_is_name ⟨fun i x hx => by simp [Y_L_is_name, Z_L_is_name, findM] at hx,
      fun k x hx => by simp [Y_L_is_name, Z_L_is_name, findM] at hx,
      hb, fun hz => by simp [Y_L_is_name] at hz,
      fun c f hx => by simp [Y_L_is_name, Z_L_is_name, findM] at hx,
      fun c m k hx => by simp [Y_L_is_name, Z_L_is_name, findM] at hx,
      fun c m k hx => by simp [Y_L_is_name, Z_L_is_name, findM] at hx,
      fun k c hx => by simp [Y_L_is_name, Z_L_is_name, findM] at hx,
      fun c hx => by
      simp only [Y_L_is_name, Z_L_is_name, List.mem_cons, List.not_mem_nil, or_false] at hx
      subst hx
      · exact ⟨C6, ac6, cl6, cc6, cg6, ct_6, co6, kit_sub .int ki6int, kit_sub .bool ki6bool, kit_sub .str ki6str, kit_sub .tuple ki6tuple, kit_sub .list ki6list, kit_sub .dict ki6dict⟩,
      fun k x ks pm hx => by simp [Y_L_is_name, Z_L_is_name, findM] at hx⟩ ck_L_is_name (by decide) (fun _ _ z => z)
  have ok33 : FnOk P w K mg base CX0 3 f33 _ ["_law_thing", "_law_by_name"] (spF K F_L_right) :=
    fn_ok (Y := Y_L_right) Fn33 sc_L_right ⟨fun i x hx => by
      simp only [Y_L_right, Z_L_right, List.mem_cons, List.not_mem_nil, or_false, Prod.mk.injEq] at hx
      rcases hx with ⟨rfl, rfl⟩ | ⟨rfl, rfl⟩ | ⟨rfl, rfl⟩ | ⟨rfl, rfl⟩ | ⟨rfl, rfl⟩
      · exact ⟨f1, _, _, PySem.W.mg_of X G a1, k1, b1, ok1.mono (by decide)⟩
      · exact ⟨f2, _, _, PySem.W.mg_of X G a2, k2, b2, ok2.mono (by decide)⟩
      · exact ⟨f10, _, _, PySem.W.mg_of X G a10, k10, b10, ok10.mono (by decide)⟩
      · exact ⟨f31, _, _, PySem.W.mg_of X G a31, k31, b31, ok31.mono (by decide)⟩
      · exact ⟨f32, _, _, PySem.W.mg_of X G a32, k32, b32, ok32.mono (by decide)⟩,
      fun k x hx => by simp [Y_L_right, Z_L_right, findM] at hx,
      hb, fun hz => by simp [Y_L_right] at hz,
      fun c f hx => by simp [Y_L_right, Z_L_right, findM] at hx,
      fun c m k hx => by simp [Y_L_right, Z_L_right, findM] at hx,
      fun c m k hx => by simp [Y_L_right, Z_L_right, findM] at hx,
      fun k c hx => by simp [Y_L_right, Z_L_right, findM] at hx,
      fun c hx => by
      simp only [Y_L_right, Z_L_right, List.mem_cons, List.not_mem_nil, or_false] at hx
      subst hx
      · exact ⟨C6, ac6, cl6, cc6, cg6, ct_6, co6, kit_sub .int ki6int, kit_sub .bool ki6bool, kit_sub .str ki6str, kit_sub .tuple ki6tuple, kit_sub .list ki6list, kit_sub .dict ki6dict⟩,
      fun k x ks pm hx => by
      simp only [Y_L_right, Z_L_right, List.mem_cons, List.not_mem_nil, or_false, Prod.mk.injEq] at hx
      rcases hx with ⟨rfl, rfl, rfl, rfl⟩ | ⟨rfl, rfl, rfl, rfl⟩ | ⟨rfl, rfl, rfl, rfl⟩
      · exact kw_at (PySem.W.mg_of X G a1) k1 (fun s ws hl => match ws, hl with | [_], _ => .of_eq rfl) (ok1.mono (by decide))
      · exact kw_at (PySem.W.mg_of X G a2) k2 (fun s ws hl => match ws, hl with | [_], _ => .of_eq rfl) (ok2.mono (by decide))
      · exact kw_at (PySem.W.mg_of X G a10) k10 (fun s ws hl => match ws, hl with | [_], _ => .of_eq rfl) (ok10.mono (by decide))⟩ ck_L_right (by decide) (fun _ _ z => z)
  have ok4_0 : FnOk P w K mg base CX0 1 f4 _ ["value"] (spF K F_frozen_0) := fn_no Fn4
  have ok4_1 : FnOk P w K mg base CX0 2 f4 _ ["value"] (spF K F_frozen_1) :=
    fn_ok (Y := Y_frozen_1) Fn4 sc_frozen ⟨fun i x hx => by
      simp only [Y_frozen_1, Z_frozen_1, List.mem_cons, List.not_mem_nil, or_false, Prod.mk.injEq] at hx
      obtain ⟨rfl, rfl⟩ := hx
      · exact ⟨f4, _, _, PySem.W.mg_of X G a4, k4, b4, ok4_0.mono (by decide)⟩,
      fun k x hx => by simp [Y_frozen_1, Z_frozen_1, findM] at hx,
      hb, fun hz => by simp [Y_frozen_1] at hz,
      fun c f hx => by simp [Y_frozen_1, Z_frozen_1, findM] at hx,
      fun c m k hx => by simp [Y_frozen_1, Z_frozen_1, findM] at hx,
      fun c m k hx => by simp [Y_frozen_1, Z_frozen_1, findM] at hx,
      fun k c hx => by simp [Y_frozen_1, Z_frozen_1, findM] at hx,
      fun c hx => by
      simp only [Y_frozen_1, Z_frozen_1, List.mem_cons, List.not_mem_nil, or_false] at hx
      subst hx
      · exact ⟨C6, ac6, cl6, cc6, cg6, ct_6, co6, kit_sub .int ki6int, kit_sub .bool ki6bool, kit_sub .str ki6str, kit_sub .tuple ki6tuple, kit_sub .list ki6list, kit_sub .dict ki6dict⟩,
      fun k x ks pm hx => by simp [Y_frozen_1, Z_frozen_1, findM] at hx⟩ ck_frozen_1 (by decide) (fun _ _ z => z)
  have ok4_2 : FnOk P w K mg base CX0 3 f4 _ ["value"] (spF K F_frozen_2) :=
    fn_ok (Y := Y_frozen_2) Fn4 sc_frozen ⟨fun i x hx => by
      simp only [Y_frozen_2, Z_frozen_2, List.mem_cons, List.not_mem_nil, or_false, Prod.mk.injEq] at hx
      obtain ⟨rfl, rfl⟩ := hx
      · exact ⟨f4, _, _, PySem.W.mg_of X G a4, k4, b4, ok4_1.mono (by decide)⟩,
      fun k x hx => by simp [Y_frozen_2, Z_frozen_2, findM] at hx,
      hb, fun hz => by simp [Y_frozen_2] at hz,
      fun c f hx => by simp [Y_frozen_2, Z_frozen_2, findM] at hx,
      fun c m k hx => by simp [Y_frozen_2, Z_frozen_2, findM] at hx,
      fun c m k hx => by simp [Y_frozen_2, Z_frozen_2, findM] at hx,
      fun k c hx => by simp [Y_frozen_2, Z_frozen_2, findM] at hx,
      fun c hx => by
      simp only [Y_frozen_2, Z_frozen_2, List.mem_cons, List.not_mem_nil, or_false] at hx
      subst hx
      · exact ⟨C6, ac6, cl6, cc6, cg6, ct_6, co6, kit_sub .int ki6int, kit_sub .bool ki6bool, kit_sub .str ki6str, kit_sub .tuple ki6tuple, kit_sub .list ki6list, kit_sub .dict ki6dict⟩,
      fun k x ks pm hx => by simp [Y_frozen_2, Z_frozen_2, findM] at hx⟩ ck_frozen_2 (by decide) (fun _ _ z => z)
  have ok4_3 : FnOk P w K mg base CX0 4 f4 _ ["value"] (spF K F_frozen_3) :=
    fn_ok (Y := Y_frozen_3) Fn4 sc_frozen ⟨fun i x hx => by
      simp only [Y_frozen_3, Z_frozen_3, List.mem_cons, List.not_mem_nil, or_false, Prod.mk.injEq] at hx
      obtain ⟨rfl, rfl⟩ := hx
      · exact ⟨f4, _, _, PySem.W.mg_of X G a4, k4, b4, ok4_2.mono (by decide)⟩,
      fun k x hx => by simp [Y_frozen_3, Z_frozen_3, findM] at hx,
      hb, fun hz => by simp [Y_frozen_3] at hz,
      fun c f hx => by simp [Y_frozen_3, Z_frozen_3, findM] at hx,
      fun c m k hx => by simp [Y_frozen_3, Z_frozen_3, findM] at hx,
      fun c m k hx => by simp [Y_frozen_3, Z_frozen_3, findM] at hx,
      fun k c hx => by simp [Y_frozen_3, Z_frozen_3, findM] at hx,
      fun c hx => by
      simp only [Y_frozen_3, Z_frozen_3, List.mem_cons, List.not_mem_nil, or_false] at hx
      subst hx
      · exact ⟨C6, ac6, cl6, cc6, cg6, ct_6, co6, kit_sub .int ki6int, kit_sub .bool ki6bool, kit_sub .str ki6str, kit_sub .tuple ki6tuple, kit_sub .list ki6list, kit_sub .dict ki6dict⟩,
      fun k x ks pm hx => by simp [Y_frozen_3, Z_frozen_3, findM] at hx⟩ ck_frozen_3 (by decide) (fun _ _ z => z)
  have ok4_4 : FnOk P w K mg base CX0 5 f4 _ ["value"] (spF K F_frozen_4) :=
    fn_ok (Y := Y_frozen_4) Fn4 sc_frozen ⟨fun i x hx => by
      simp only [Y_frozen_4, Z_frozen_4, List.mem_cons, List.not_mem_nil, or_false, Prod.mk.injEq] at hx
      obtain ⟨rfl, rfl⟩ := hx
      · exact ⟨f4, _, _, PySem.W.mg_of X G a4, k4, b4, ok4_3.mono (by decide)⟩,
      fun k x hx => by simp [Y_frozen_4, Z_frozen_4, findM] at hx,
      hb, fun hz => by simp [Y_frozen_4] at hz,
      fun c f hx => by simp [Y_frozen_4, Z_frozen_4, findM] at hx,
      fun c m k hx => by simp [Y_frozen_4, Z_frozen_4, findM] at hx,
      fun c m k hx => by simp [Y_frozen_4, Z_frozen_4, findM] at hx,
      fun k c hx => by simp [Y_frozen_4, Z_frozen_4, findM] at hx,
      fun c hx => by
      simp only [Y_frozen_4, Z_frozen_4, List.mem_cons, List.not_mem_nil, or_false] at hx
      subst hx
      · exact ⟨C6, ac6, cl6, cc6, cg6, ct_6, co6, kit_sub .int ki6int, kit_sub .bool ki6bool, kit_sub .str ki6str, kit_sub .tuple ki6tuple, kit_sub .list ki6list, kit_sub .dict ki6dict⟩,
      fun k x ks pm hx => by simp [Y_frozen_4, Z_frozen_4, findM] at hx⟩ ck_frozen_4 (by decide) (fun _ _ z => z)
  have ok4_5 : FnOk P w K mg base CX0 6 f4 _ ["value"] (spF K F_frozen_5) :=
    fn_ok (Y := Y_frozen_5) Fn4 sc_frozen ⟨fun i x hx => by
      simp only [Y_frozen_5, Z_frozen_5, List.mem_cons, List.not_mem_nil, or_false, Prod.mk.injEq] at hx
      obtain ⟨rfl, rfl⟩ := hx
      · exact ⟨f4, _, _, PySem.W.mg_of X G a4, k4, b4, ok4_4.mono (by decide)⟩,
      fun k x hx => by simp [Y_frozen_5, Z_frozen_5, findM] at hx,
      hb, fun hz => by simp [Y_frozen_5] at hz,
      fun c f hx => by simp [Y_frozen_5, Z_frozen_5, findM] at hx,
      fun c m k hx => by simp [Y_frozen_5, Z_frozen_5, findM] at hx,
      fun c m k hx => by simp [Y_frozen_5, Z_frozen_5, findM] at hx,
      fun k c hx => by simp [Y_frozen_5, Z_frozen_5, findM] at hx,
      fun c hx => by
      simp only [Y_frozen_5, Z_frozen_5, List.mem_cons, List.not_mem_nil, or_false] at hx
      subst hx
      · exact ⟨C6, ac6, cl6, cc6, cg6, ct_6, co6, kit_sub .int ki6int, kit_sub .bool ki6bool, kit_sub .str ki6str, kit_sub .tuple ki6tuple, kit_sub .list ki6list, kit_sub .dict ki6dict⟩,
      fun k x ks pm hx => by simp [Y_frozen_5, Z_frozen_5, findM] at hx⟩ ck_frozen_5 (by decide) (fun _ _ z => z)
  have ok3 : FnOk P w K mg base CX0 1 f3 _ ["size"] (spF K F_empty_layer) :=
    fn_ok (Y := Y_empty_layer) Fn3 sc_empty_layer ⟨fun i x hx => by simp [Y_empty_layer, Z_empty_layer, findM] at hx,
      fun k x hx => by simp [Y_empty_layer, Z_empty_layer, findM] at hx,
      hb, fun hz => by simp [Y_empty_layer] at hz,
      fun c f hx => by simp [Y_empty_layer, Z_empty_layer, findM] at hx,
      fun c m k hx => by simp [Y_empty_layer, Z_empty_layer, findM] at hx,
      fun c m k hx => by simp [Y_empty_layer, Z_empty_layer, findM] at hx,
      fun k c hx => by simp [Y_empty_layer, Z_empty_layer, findM] at hx,
      fun c hx => by simp [Y_empty_layer, Z_empty_layer] at hx,
      fun k x ks pm hx => by simp [Y_empty_layer, Z_empty_layer, findM] at hx⟩ ck_empty_layer (by decide) (fun _ _ z => z)
  have ok11 : FnOk P w K mg base CX0 2 f11 _ ["value", "size"] (spF K F_is_stamp) :=
    fn_ok (Y := Y_is_stamp) Fn11 sc_is_stamp ⟨fun i x hx => by
      simp only [Y_is_stamp, Z_is_stamp, List.mem_cons, List.not_mem_nil, or_false, Prod.mk.injEq] at hx
      rcases hx with ⟨rfl, rfl⟩ | ⟨rfl, rfl⟩
      · exact ⟨f1, _, _, PySem.W.mg_of X G a1, k1, b1, ok1.mono (by decide)⟩
      · exact ⟨f3, _, _, PySem.W.mg_of X G a3, k3, b3, ok3.mono (by decide)⟩,
      fun k x hx => by simp [Y_is_stamp, Z_is_stamp, findM] at hx,
      hb, fun hz => by simp [Y_is_stamp] at hz,
      fun c f hx => by simp [Y_is_stamp, Z_is_stamp, findM] at hx,
      fun c m k hx => by simp [Y_is_stamp, Z_is_stamp, findM] at hx,
      fun c m k hx => by simp [Y_is_stamp, Z_is_stamp, findM] at hx,
      fun k c hx => by simp [Y_is_stamp, Z_is_stamp, findM] at hx,
      fun c hx => by simp [Y_is_stamp, Z_is_stamp] at hx,
      fun k x ks pm hx => by simp [Y_is_stamp, Z_is_stamp, findM] at hx⟩ ck_is_stamp (by decide) (fun _ _ z => z)
  have ok12 : FnOk P w K mg base CX0 7 f12 _ ["self", "size", "stamps"] (spI K "Stock" F_Stock___init__) :=
    init_ok (Y := Y_Stock___init__) Fn12 sc_Stock___init__ ⟨fun i x hx => by
      simp only [Y_Stock___init__, Z_Stock___init__, List.mem_cons, List.not_mem_nil, or_false, Prod.mk.injEq] at hx
      rcases hx with ⟨rfl, rfl⟩ | ⟨rfl, rfl⟩ | ⟨rfl, rfl⟩
      · exact ⟨f4, _, _, PySem.W.mg_of X G a4, k4, b4, ok4_5.mono (by decide)⟩
      · exact ⟨f10, _, _, PySem.W.mg_of X G a10, k10, b10, ok10.mono (by decide)⟩
      · exact ⟨f11, _, _, PySem.W.mg_of X G a11, k11, b11, ok11.mono (by decide)⟩,
      fun k x hx => by simp [Y_Stock___init__, Z_Stock___init__, findM] at hx,
      hb, fun hz => by simp [Y_Stock___init__] at hz,
      fun c f hx => by
      simp only [Y_Stock___init__, Z_Stock___init__, List.mem_cons, List.not_mem_nil, or_false, Prod.mk.injEq] at hx
      rcases hx with ⟨rfl, rfl⟩ | ⟨rfl, rfl⟩ | ⟨rfl, rfl⟩ | ⟨rfl, rfl⟩
      · exact ⟨C6, ac6, cl6, nf0⟩
      · exact ⟨C6, ac6, cl6, nf1⟩
      · exact ⟨C6, ac6, cl6, nf2⟩
      · exact ⟨C6, ac6, cl6, nf3⟩,
      fun c m k hx => by simp [Y_Stock___init__, Z_Stock___init__, findM] at hx,
      fun c m k hx => by simp [Y_Stock___init__, Z_Stock___init__, findM] at hx,
      fun k c hx => by simp [Y_Stock___init__, Z_Stock___init__, findM] at hx,
      fun c hx => by simp [Y_Stock___init__, Z_Stock___init__] at hx,
      fun k x ks pm hx => by simp [Y_Stock___init__, Z_Stock___init__, findM] at hx⟩ ck_Stock___init__ (by decide) (fun _ _ z => valI_spec z)
  have ok35 : FnOk P w K mg base CX0 9 fa _ ["_law_script"] (spF K F_law) :=
    fn_ok (Y := Y_law) Fn35 sc_law ⟨fun i x hx => by
      simp only [Y_law, Z_law, List.mem_cons, List.not_mem_nil, or_false, Prod.mk.injEq] at hx
      rcases hx with ⟨rfl, rfl⟩ | ⟨rfl, rfl⟩
      · exact ⟨f33, _, _, PySem.W.mg_of X G a33, k33, b33, ok33.mono (by decide)⟩
      · exact ⟨f34, _, _, PySem.W.mg_of X G a34, k34, b34, ok34.mono (by decide)⟩,
      fun k x hx => by simp [Y_law, Z_law, findM] at hx,
      hb, fun hz => by simp [Y_law] at hz,
      fun c f hx => by simp [Y_law, Z_law, findM] at hx,
      fun c m k hx => by simp [Y_law, Z_law, findM] at hx,
      fun c m k hx => by simp [Y_law, Z_law, findM] at hx,
      fun k c hx => by
      simp only [Y_law, Z_law, List.mem_cons, List.not_mem_nil, or_false, Prod.mk.injEq] at hx
      obtain ⟨rfl, rfl⟩ := hx
      · exact ⟨C6, f12, _, _, 7, by decide, ac6, PySem.W.mg_of X G ac6, ⟨mk12, m12, i12, kc6⟩, b12, ok12, fun ds d h => valI_ins h⟩,
      fun c hx => by simp [Y_law, Z_law] at hx,
      fun k x ks pm hx => by simp [Y_law, Z_law, findM] at hx⟩ ck_law (by decide) (fun _ _ z => z)
  exact ok35
theorem walk {l : PySem.W.OpenLaw} {q : Program} {loose : List Str} {XP : (Str → Option Value) → Heap → Prop} {YP : World → Heap → Prop} {d : DefRec} {K : Params → PySem.W.Frag} (hn : l.most = some 63) (hdf : d.params.defaults = [])
    (hY : ∀ (w : World) (h : Heap), YP w h → (K w.params).In h)
    (F : ∀ (w : World) (mg : Str → Option Value) (fa : Addr) (h : Heap), (K w.params).In h → h.Ns mainGlobals mg → mg d.name = some (.ref fa) →
      ∃ fd : FuncData, (∀ (s : Shared) (u : Value), BindsTo s fd ⟨[u], []⟩ [("_law_script", u)]) ∧ ∀ base : Heap, (K w.params).In base → base.Ns mainGlobals mg → FnOk l.prog w (K w.params) mg base CX0 9 fa fd ["_law_script"] (spF (K w.params) F_law)) :
    PySem.W.WalkO q loose XP YP l.row.toRowW d [] (fun f vs => PySem.call f vs) :=
  L2.walk_of (n := 63) (k := 9) (x := "_law_script") (CX := fun _ => CX0) (sp := fun w => spF (K w.params) F_law) hn (by decide) hdf ⟨rfl, by decide, by decide⟩ hY F
    (fun _ H a ns hl _ hS => ⟨[.scr ns], .bl true, H, Sub.refl H, by simp only [DenL, Den]; exact ⟨_, _, rfl, ⟨a, rfl, hS⟩, rfl⟩, main ns hl, fun v G' H' _ _ _ _ dv => by simpa only [Den] using dv⟩) fun _ _ _ _ _ z => z
end K00
open PySem PySem.W PyProof.Rows
set_option maxRecDepth 100000 in
set_option maxHeartbeats 0 in
theorem PySem.Challenge.cw_stampsheets_k00_layers_judged_holds : PySem.Challenge.rw_stampsheets_k00_layers_judged.Holds := by
  w_on; o_law; k_head; (case hw => w_witness2)
  k_fill
  refine K00.walk (l := PySem.Challenge.rw_stampsheets_k00_layers_judged) rfl rfl (fun w h Y => PySem.W.kIn_of Y) ?F
  case F =>
    intro w mg fa h KX G hmg
    refine' K00.all_mk KX G hmg ?ac6 ?pg6 ?hd6 ?po6 ?sa6 ?kc6 ?cc6 ?cg6 ?ct_6 ?co6 ?ki6int ?ki6bool ?ki6str ?ki6tuple ?ki6list ?ki6dict ?nf0 ?nf1 ?nf2 ?nf3 ?m12 ?i12 ?mk12 ?a24 ?l24 ?c24 ?k24 ?a25 ?l25 ?c25 ?k25 ?a27 ?l27 ?c27 ?k27 ?a26 ?l26 ?c26 ?k26 ?a28 ?l28 ?c28 ?k28 ?a29 ?l29 ?c29 ?k29 ?a30 ?l30 ?c30 ?k30 ?a34 ?l34 ?c34 ?k34 ?a1 ?l1 ?c1 ?k1 ?a2 ?l2 ?c2 ?k2 ?a10 ?l10 ?c10 ?k10 ?a31 ?l31 ?c31 ?k31 ?a32 ?l32 ?c32 ?k32 ?a33 ?l33 ?c33 ?k33 ?a4 ?l4 ?c4 ?k4 ?a3 ?l3 ?c3 ?k3 ?a11 ?l11 ?c11 ?k11 ?l12 ?c12 ?k12 ?a35 ?l35 ?c35 ?k35 ?z0 ?z1 ?z2 ?z3 ?z4 ?z5 ?z6 ?z7 ?z8 ?z9 ?gk0 ?gk1 ?gk2 ?gk3 ?gk4
    (case ac6 => k_is)
    (case pg6 => k_is)
    (case hd6 => k_is)
    (case po6 => k_is)
    (case sa6 => k_is)
    (case kc6 => k_is)
    (case cc6 => k_is)
    (case cg6 => k_is)
    (case ct_6 => k_is)
    (case co6 => k_is)
    (case ki6int => k_is)
    (case ki6bool => k_is)
    (case ki6str => k_is)
    (case ki6tuple => k_is)
    (case ki6list => k_is)
    (case ki6dict => k_is)
    (case nf0 => k_is)
    (case nf1 => k_is)
    (case nf2 => k_is)
    (case nf3 => k_is)
    (case m12 => k_is)
    (case i12 => k_is)
    (case mk12 => k_is)
    (case a24 => k_is)
    (case l24 => k_is)
    (case c24 => k_is)
    (case k24 => k_is)
    (case a25 => k_is)
    (case l25 => k_is)
    (case c25 => k_is)
    (case k25 => k_is)
    (case a27 => k_is)
    (case l27 => k_is)
    (case c27 => k_is)
    (case k27 => k_is)
    (case a26 => k_is)
    (case l26 => k_is)
    (case c26 => k_is)
    (case k26 => k_is)
    (case a28 => k_is)
    (case l28 => k_is)
    (case c28 => k_is)
    (case k28 => k_is)
    (case a29 => k_is)
    (case l29 => k_is)
    (case c29 => k_is)
    (case k29 => k_is)
    (case a30 => k_is)
    (case l30 => k_is)
    (case c30 => k_is)
    (case k30 => k_is)
    (case a34 => k_is)
    (case l34 => k_is)
    (case c34 => k_is)
    (case k34 => k_is)
    (case a1 => k_is)
    (case l1 => k_is)
    (case c1 => k_is)
    (case k1 => k_is)
    (case a2 => k_is)
    (case l2 => k_is)
    (case c2 => k_is)
    (case k2 => k_is)
    (case a10 => k_is)
    (case l10 => k_is)
    (case c10 => k_is)
    (case k10 => k_is)
    (case a31 => k_is)
    (case l31 => k_is)
    (case c31 => k_is)
    (case k31 => k_is)
    (case a32 => k_is)
    (case l32 => k_is)
    (case c32 => k_is)
    (case k32 => k_is)
    (case a33 => k_is)
    (case l33 => k_is)
    (case c33 => k_is)
    (case k33 => k_is)
    (case a4 => k_is)
    (case l4 => k_is)
    (case c4 => k_is)
    (case k4 => k_is)
    (case a3 => k_is)
    (case l3 => k_is)
    (case c3 => k_is)
    (case k3 => k_is)
    (case a11 => k_is)
    (case l11 => k_is)
    (case c11 => k_is)
    (case k11 => k_is)
    (case l12 => k_is)
    (case c12 => k_is)
    (case k12 => k_is)
    (case a35 => k_is)
    (case l35 => k_is)
    (case c35 => k_is)
    (case k35 => k_is)
    (case z0 => k_is)
    (case z1 => k_is)
    (case z2 => k_is)
    (case z3 => k_is)
    (case z4 => k_is)
    (case z5 => k_is)
    (case z6 => k_is)
    (case z7 => k_is)
    (case z8 => k_is)
    (case z9 => k_is)
    (case gk0 => k_is)
    (case gk1 => k_is)
    (case gk2 => k_is)
    (case gk3 => k_is)
    (case gk4 => k_is)
#print axioms PySem.Challenge.cw_stampsheets_k00_layers_judged_holds
