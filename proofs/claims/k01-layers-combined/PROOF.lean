import PyProof.Rows.All
import Wide.All
import OpenK.AllK
import Wide.FinOn
import HandS.ForMost
import HandS.IsInst
import HandS.Style
import HandS.Gcd
import HandS.Wide
import HandS.Walk
import HandS.TupAny
import HandS.Flow
import HandS.Property
import HandS.Zip
import HandS.Replace
import HandS.Defaults
import KE.GoesEnum
import HandS.Codes
import KE.KEqNest
import HandS.DeepEq
import KE.KDictLaw
import HandS.Text
import HandS.SetFor
import HandS.Set
import KE.KRevSl
import HandS.Strs
import HandS.SortKw
import HandS.SortRule
import HandS.ReplaceDef
import HandS.ReplaceLit
import PyProof.Rows.CountFlat
import HandS.ReplaceList
import HandS.Words
import PySem.Challenge.RW_stampsheets_k01_layers_combined

set_option Elab.async false
set_option linter.all false
set_option maxRecDepth 100000
set_option maxHeartbeats 4000000

namespace Pv
open PySem PySem.Spec L2

/-! ### data -/
inductive D where
  | non | bl (b : Bool) | int (i : Int) | str (x : List Nat)
  | lst (ds : List D) | tup (ds : List D) | dct (ks vs : List D) | ins (c : Str) (ns : List Str) (vs : List D)
  /-- the law's script -/
  | scr (ns : List Int)
  deriving Inhabited

abbrev mkS (x : List Nat) : Str := ⟨x.toArray⟩
def D.key : D → Option Key
  | .int i => some (.inl i)
  | .str x => some (.inr (mkS x))
  | _ => none

mutual
def D.toP : D → PyData
  | .non => .none | .bl b => .bool b | .int i => .int i | .str x => .str (mkS x)
  | .lst ds => .list (D.toPL ds) | .tup ds => .tuple (D.toPL ds)
  | .dct _ _ => .none | .ins _ _ _ => .none | .scr ns => .list (ns.map .int)
def D.toPL : List D → List PyData
  | [] => [] | d :: ds => D.toP d :: D.toPL ds
end
mutual
def D.plain : D → Bool
  | .lst ds => D.plainL ds | .tup ds => D.plainL ds
  | .dct _ _ => false | .ins _ _ _ => false | .scr _ => false
  | .non => true | .bl _ => true | .int _ => true | .str _ => true
def D.plainL : List D → Bool
  | [] => true | d :: ds => D.plain d && D.plainL ds
end
/-- data that == compares as data -/
def D.shp (d : D) : Bool := D.plain d && SeqAt.shaped (D.toP d)
def D.eqb (a b : D) : Bool := PyData.eqv (D.toP a) (D.toP b)

mutual
/-- the value v stands for the datum -/
def Den (K : PySem.W.Frag) (G : Hp) : D → V → Prop
  | .non, v => v = .non
  | .bl b, v => v = .bl b
  | .int i, v => v = .int i
  | .str x, v => v = .str (mkS x)
  | .lst ds, v => ∃ a vs, v = .ref a ∧ G a = some (.lst vs) ∧ DenL K G ds vs
  | .tup ds, v => ∃ a vs, v = .ref a ∧ SqT K G a vs ∧ DenL K G ds vs
  | .dct ks ds, v => ∃ a kvs, v = .ref a ∧ G a = some (.dK kvs) ∧ ks.map D.key = kvs.map (fun p => some p.1) ∧ DenL K G ds (kvs.map (fun p => p.2))
  | .ins c ns ds, v => ∃ a C dx nvs, v = .ref a ∧ G a = some (.ins C dx nvs) ∧ PySem.W.nsIn K mainGlobals c = some (some (.ref C)) ∧ ns = nvs.map (fun p => p.1) ∧ DenL K G ds (nvs.map (fun p => p.2))
  | .scr ns, v => ∃ a, v = .ref a ∧ SqL K G a (ns.map V.int)
def DenL (K : PySem.W.Frag) (G : Hp) : List D → List V → Prop
  | [], vs => vs = []
  | d :: ds, vs => ∃ v r, vs = v :: r ∧ Den K G d v ∧ DenL K G ds r
end

abbrev Sub (H H' : Hp) : Prop := ∀ a o, H a = some o → H' a = some o
theorem Sub.refl (H : Hp) : Sub H H := fun _ _ h => h
theorem Sub.trans {H H1 H2 : Hp} (a : Sub H H1) (b : Sub H1 H2) : Sub H H2 := fun x o h => b x o (a x o h)
theorem sub_rd {H H' : Hp} {a : Addr} {u : HO} (e : Sub H H') (h : Rd H a u) : Rd H' a u := by
  rcases h with h | ⟨o, h⟩
  · exact Or.inl (e a _ h)
  · exact Or.inr ⟨o, e a _ h⟩
theorem sub_l {K : PySem.W.Frag} {H H' : Hp} {a : Addr} {xs : List V} (e : Sub H H') (h : SqL K H a xs) : SqL K H' a xs := by
  rcases h with h | h
  · exact Or.inl (sub_rd e h)
  · exact Or.inr h
theorem sub_t {K : PySem.W.Frag} {H H' : Hp} {a : Addr} {xs : List V} (e : Sub H H') (h : SqT K H a xs) : SqT K H' a xs := by
  rcases h with h | h
  · exact Or.inl (sub_rd e h)
  · exact Or.inr h
mutual
theorem Den.mono {K : PySem.W.Frag} {G G' : Hp} (e : Sub G G') : ∀ (d : D) {v : V}, Den K G d v → Den K G' d v
  | .non, _, h => by simpa only [Den] using h
  | .bl _, _, h => by simpa only [Den] using h
  | .int _, _, h => by simpa only [Den] using h
  | .str _, _, h => by simpa only [Den] using h
  | .lst ds, _, h => by
    simp only [Den] at h ⊢
    obtain ⟨a, vs, r, s, t⟩ := h
    exact ⟨a, vs, r, e _ _ s, DenL.mono e ds t⟩
  | .tup ds, _, h => by
    simp only [Den] at h ⊢
    obtain ⟨a, vs, r, s, t⟩ := h
    exact ⟨a, vs, r, sub_t e s, DenL.mono e ds t⟩
  | .dct ks ds, _, h => by
    simp only [Den] at h ⊢
    obtain ⟨a, kvs, r, s, t, u⟩ := h
    exact ⟨a, kvs, r, e _ _ s, t, DenL.mono e ds u⟩
  | .ins c ns ds, _, h => by
    simp only [Den] at h ⊢
    obtain ⟨a, C, dx, nvs, r, s, t, u, z⟩ := h
    exact ⟨a, C, dx, nvs, r, e _ _ s, t, u, DenL.mono e ds z⟩
  | .scr _, _, h => by
    simp only [Den] at h ⊢
    obtain ⟨a, r, s⟩ := h
    exact ⟨a, r, sub_l e s⟩
theorem DenL.mono {K : PySem.W.Frag} {G G' : Hp} (e : Sub G G') : ∀ (ds : List D) {vs : List V}, DenL K G ds vs → DenL K G' ds vs
  | [], _, h => by simpa only [DenL] using h
  | d :: ds, _, h => by
    simp only [DenL] at h ⊢
    obtain ⟨v, r, e1, h1, h2⟩ := h
    exact ⟨v, r, e1, Den.mono e d h1, DenL.mono e ds h2⟩
end
theorem DenL.length {K : PySem.W.Frag} {G : Hp} : ∀ {ds : List D} {vs : List V}, DenL K G ds vs → ds.length = vs.length
  | [], _, h => by simp only [DenL] at h; subst h; rfl
  | d :: ds, _, h => by
    simp only [DenL] at h
    obtain ⟨v, r, e1, h1, h2⟩ := h
    subst e1
    simp [DenL.length h2]
theorem DenL.get {K : PySem.W.Frag} {G : Hp} : ∀ {ds : List D} {vs : List V} {i : Nat} {d : D}, DenL K G ds vs → ds[i]? = some d → ∃ v, vs[i]? = some v ∧ Den K G d v
  | [], _, _, _, _, e => by simp at e
  | x :: ds, _, i, d, h, e => by
    simp only [DenL] at h
    obtain ⟨v, r, e1, h1, h2⟩ := h
    subst e1
    cases i with
    | zero =>
      simp at e
      subst e
      exact ⟨v, rfl, h1⟩
    | succ i =>
      obtain ⟨w, a, b⟩ := DenL.get (i := i) (d := d) h2 (by simpa using e)
      exact ⟨w, by simpa using a, b⟩
theorem DenL.getV {K : PySem.W.Frag} {G : Hp} : ∀ {ds : List D} {vs : List V} {i : Nat} {v : V}, DenL K G ds vs → vs[i]? = some v → ∃ d, ds[i]? = some d ∧ Den K G d v
  | [], _, _, _, h, e => by simp only [DenL] at h; subst h; simp at e
  | x :: ds, _, i, d, h, e => by
    simp only [DenL] at h
    obtain ⟨v, r, e1, h1, h2⟩ := h
    subst e1
    cases i with
    | zero =>
      simp at e
      subst e
      exact ⟨x, rfl, h1⟩
    | succ i =>
      obtain ⟨w, a, b⟩ := DenL.getV (i := i) (v := d) h2 (by simpa using e)
      exact ⟨w, by simpa using a, b⟩
theorem DenL.append {K : PySem.W.Frag} {G : Hp} : ∀ {ds es : List D} {vs ws : List V}, DenL K G ds vs → DenL K G es ws → DenL K G (ds ++ es) (vs ++ ws)
  | [], _, _, _, h, h' => by simp only [DenL] at h; subst h; simpa using h'
  | d :: ds, es, _, ws, h, h' => by
    simp only [DenL] at h
    obtain ⟨v, r, e1, h1, h2⟩ := h
    subst e1
    simp only [List.cons_append, DenL]
    exact ⟨v, r ++ ws, rfl, h1, DenL.append h2 h'⟩
theorem DenL.snoc {K : PySem.W.Frag} {G : Hp} {ds : List D} {vs : List V} {d : D} {v : V} (h : DenL K G ds vs) (h' : Den K G d v) : DenL K G (ds ++ [d]) (vs ++ [v]) :=
  h.append (by simp only [DenL]; exact ⟨v, [], rfl, h', rfl⟩)
theorem DenL.take {K : PySem.W.Frag} {G : Hp} : ∀ {ds : List D} {vs : List V} (n : Nat), DenL K G ds vs → DenL K G (ds.take n) (vs.take n)
  | [], _, n, h => by simp only [DenL] at h; subst h; simp [DenL]
  | d :: ds, _, 0, h => by simp [DenL]
  | d :: ds, _, n + 1, h => by
    simp only [DenL] at h
    obtain ⟨v, r, e1, h1, h2⟩ := h
    subst e1
    simp only [List.take_succ_cons, DenL]
    exact ⟨v, r.take n, rfl, h1, DenL.take n h2⟩
theorem DenL.drop {K : PySem.W.Frag} {G : Hp} : ∀ {ds : List D} {vs : List V} (n : Nat), DenL K G ds vs → DenL K G (ds.drop n) (vs.drop n)
  | [], _, n, h => by simp only [DenL] at h; subst h; simp [DenL]
  | d :: ds, _, 0, h => by simpa using h
  | d :: ds, _, n + 1, h => by
    simp only [DenL] at h
    obtain ⟨v, r, e1, h1, h2⟩ := h
    subst e1
    simpa using DenL.drop n h2

/-! ### data to the library's -/
mutual
theorem Den.dp {K : PySem.W.Frag} {G : Hp} : ∀ (d : D) {v : V}, D.plain d = true → Den K G d v → Dp K G v (D.toP d)
  | .non, _, _, h => by simp only [Den] at h; subst h; exact .non
  | .bl _, _, _, h => by simp only [Den] at h; subst h; exact .bl _
  | .int _, _, _, h => by simp only [Den] at h; subst h; exact .int _
  | .str _, _, _, h => by simp only [Den] at h; subst h; exact .str _
  | .lst ds, _, p, h => by
    simp only [Den] at h
    simp only [D.plain] at p
    obtain ⟨a, vs, r, s, t⟩ := h
    subst r
    exact .lst (SqL.of s) (DenL.dp ds p t)
  | .tup ds, _, p, h => by
    simp only [Den] at h
    simp only [D.plain] at p
    obtain ⟨a, vs, r, s, t⟩ := h
    subst r
    exact .tup s (DenL.dp ds p t)
  | .dct _ _, _, p, _ => by simp [D.plain] at p
  | .ins _ _ _, _, p, _ => by simp [D.plain] at p
  | .scr _, _, p, _ => by simp [D.plain] at p
theorem DenL.dp {K : PySem.W.Frag} {G : Hp} : ∀ (ds : List D) {vs : List V}, D.plainL ds = true → DenL K G ds vs → DpAll K G vs (D.toPL ds)
  | [], _, _, h => by simp only [DenL] at h; subst h; exact .nil
  | d :: ds, _, p, h => by
    simp only [DenL] at h
    simp only [D.plainL, Bool.and_eq_true] at p
    obtain ⟨v, r, e1, h1, h2⟩ := h
    subst e1
    exact .cons (Den.dp d p.1 h1) (DenL.dp ds p.2 h2)
end
mutual
theorem dp_mono {K : PySem.W.Frag} {G H : Hp} (e : Sub G H) : ∀ (d : PyData) {v : V}, Dp K G v d → Dp K H v d
  | _, _, .non => .non
  | _, _, .bl b => .bl b
  | _, _, .int b => .int b
  | _, _, .str b => .str b
  | .list ds, _, .lst s a => .lst (sub_l e s) (dpAll_mono e ds a)
  | .tuple ds, _, .tup s a => .tup (sub_t e s) (dpAll_mono e ds a)
theorem dpAll_mono {K : PySem.W.Frag} {G H : Hp} (e : Sub G H) : ∀ (ds : List PyData) {vs : List V}, DpAll K G vs ds → DpAll K H vs ds
  | [], _, .nil => .nil
  | d :: ds, _, .cons h t => .cons (dp_mono e d h) (dpAll_mono e ds t)
end

def del (W : Hp) (p : Addr) : Hp := fun a => if a = p then none else W a
theorem del_same {W : Hp} {p : Addr} : del W p p = none := by simp [del]
theorem del_ne {W : Hp} {p a : Addr} (h : a ≠ p) : del W p a = W a := by simp [del, h]
abbrev WI (G0 W : Hp) : Prop := ∀ a C dx n, W a = some (.ins C dx n) → ∃ b, G0 a = some (.own b)
theorem wi_upd {G0 W : Hp} (h : WI G0 W) {p : Addr} {o : HO} (hi : ∀ C dx n, o ≠ .ins C dx n) : WI G0 (upd W p o) := fun a C dx n e => by
  by_cases z : a = p
  · subst z; rw [upd_same] at e; exact absurd (Option.some.inj e) (hi C dx n)
  · rw [upd_ne z] at e; exact h a C dx n e
theorem wi_set {G0 W : Hp} (h : WI G0 W) {p : Addr} {o o' : HO} (hp : W p = some o) (hi : ∀ C dx n, o' = .ins C dx n → ∃ C0 dx0 n0, o = .ins C0 dx0 n0) : WI G0 (upd W p o') := fun a C dx n e => by
  by_cases z : a = p
  · subst z; rw [upd_same] at e; obtain ⟨C0, dx0, n0, e0⟩ := hi C dx n (Option.some.inj e); rw [e0] at hp; exact h a C0 dx0 n0 hp
  · rw [upd_ne z] at e; exact h a C dx n e
theorem wi_del {G0 W : Hp} (h : WI G0 W) {p : Addr} : WI G0 (del W p) := fun a C dx n e => by
  by_cases z : a = p
  · subst z; rw [del_same] at e; cases e
  · rw [del_ne z] at e; exact h a C dx n e
/-! ### the world: H0, G0 at the entry; G what stands for good; W what the slots own; H the heap -/
structure Wd (H0 G0 G W H : Hp) : Prop where
  gh : Sub G H
  wh : ∀ a o, W a = some o → H a = some o ∧ G a = none
  wi : WI G0 W
  hg : ∀ a o, H0 a = some o → G a = G0 a
  h0 : ∀ a o, H0 a = some o → H a = some o ∧ W a = none
def noH : Hp := fun _ => none
theorem Wd.start {H0 G0 : Hp} (h : Sub G0 H0) : Wd H0 G0 G0 noH H0 :=
  ⟨h, fun _ _ e => by simp [noH] at e, fun _ _ _ _ e => by simp [noH] at e, fun _ _ _ => rfl, fun _ _ e => ⟨e, rfl⟩⟩
section
variable {H0 G0 G W H : Hp}
theorem Wd.wnone (w : Wd H0 G0 G W H) {p : Addr} (hp : H p = none) : W p = none := by
  cases e : W p with
  | none => rfl
  | some o => rw [(w.wh p o e).1] at hp; cases hp
theorem Wd.gnone (w : Wd H0 G0 G W H) {p : Addr} (hp : H p = none) : G p = none := by
  cases e : G p with
  | none => rfl
  | some o => rw [w.gh p o e] at hp; cases hp
theorem Wd.h0none (w : Wd H0 G0 G W H) {p : Addr} (hp : H p = none) : H0 p = none := by
  cases e : H0 p with
  | none => rfl
  | some o => rw [(w.h0 p o e).1] at hp; cases hp
theorem sub_upd {G : Hp} {p : Addr} {o : HO} (h : G p = none) : Sub G (upd G p o) := fun a u e => by
  rw [upd_ne (ne_of_none e h)]; exact e
/-- a new object that stands for good -/
theorem Wd.new (w : Wd H0 G0 G W H) {p : Addr} {o : HO} (hp : H p = none) : Wd H0 G0 (upd G p o) W (upd H p o) := by
  have hg := w.gnone hp
  have hw := w.wnone hp
  have h0 := w.h0none hp
  refine ⟨fun a u e => ?_, fun a u e => ?_, w.wi, fun a u e => ?_, fun a u e => ?_⟩
  · by_cases z : a = p
    · subst z; rw [upd_same] at e ⊢; exact e
    · rw [upd_ne z] at e ⊢; exact w.gh a u e
  · have z := ne_of_none e hw
    rw [upd_ne z, upd_ne z]; exact w.wh a u e
  · have z := ne_of_none e h0
    rw [upd_ne z]; exact w.hg a u e
  · have z := ne_of_none e h0
    rw [upd_ne z]; exact w.h0 a u e
/-- a new object that is owned -/
theorem Wd.newO (w : Wd H0 G0 G W H) {p : Addr} {o : HO} (hp : H p = none) (hi : ∀ C dx n, o ≠ .ins C dx n := by (intro _ _ _ z; cases z)) : Wd H0 G0 G (upd W p o) (upd H p o) := by
  have hg := w.gnone hp
  have hw := w.wnone hp
  have h0 := w.h0none hp
  refine ⟨fun a u e => ?_, fun a u e => ?_, wi_upd w.wi hi, fun a u e => w.hg a u e, fun a u e => ?_⟩
  · have z := ne_of_none e hg
    rw [upd_ne z]; exact w.gh a u e
  · by_cases z : a = p
    · subst z; rw [upd_same] at e ⊢; exact ⟨e, hg⟩
    · rw [upd_ne z] at e ⊢; exact w.wh a u e
  · have z := ne_of_none e h0
    rw [upd_ne z, upd_ne z]; exact w.h0 a u e
/-- an owned object changes -/
theorem Wd.set (w : Wd H0 G0 G W H) {p : Addr} {o o' : HO} (hp : W p = some o) (hi : ∀ C dx n, o' = .ins C dx n → ∃ C0 dx0 n0, o = .ins C0 dx0 n0 := by (intro _ _ _ z; cases z)) : Wd H0 G0 G (upd W p o') (upd H p o') := by
  obtain ⟨h1, h2⟩ := w.wh p o hp
  have h0 : H0 p = none := by
    cases e : H0 p with
    | none => rfl
    | some o => rw [(w.h0 p o e).2] at hp; cases hp
  refine ⟨fun a u e => ?_, fun a u e => ?_, wi_set w.wi hp hi, fun a u e => w.hg a u e, fun a u e => ?_⟩
  · have z := ne_of_none e h2
    rw [upd_ne z]; exact w.gh a u e
  · by_cases z : a = p
    · subst z; rw [upd_same] at e ⊢; exact ⟨e, h2⟩
    · rw [upd_ne z] at e ⊢; exact w.wh a u e
  · have z := ne_of_none e h0
    rw [upd_ne z, upd_ne z]; exact w.h0 a u e
/-- an owned object stands for good from here on -/
theorem Wd.give (w : Wd H0 G0 G W H) {p : Addr} {o : HO} (hp : W p = some o) : Wd H0 G0 (upd G p o) (del W p) H := by
  obtain ⟨h1, h2⟩ := w.wh p o hp
  have h0 : H0 p = none := by
    cases e : H0 p with
    | none => rfl
    | some o => rw [(w.h0 p o e).2] at hp; cases hp
  refine ⟨fun a u e => ?_, fun a u e => ?_, wi_del w.wi, fun a u e => ?_, fun a u e => ?_⟩
  · by_cases z : a = p
    · subst z; rw [upd_same] at e; rw [h1]; exact e
    · rw [upd_ne z] at e; exact w.gh a u e
  · by_cases z : a = p
    · subst z; rw [del_same] at e; cases e
    · rw [del_ne z] at e; rw [upd_ne z]; exact w.wh a u e
  · have z := ne_of_none e h0
    rw [upd_ne z]; exact w.hg a u e
  · have z := ne_of_none e h0
    rw [del_ne z]; exact w.h0 a u e
/-- an entry that is of no concern -/
theorem Wd.junk (w : Wd H0 G0 G W H) {p : Addr} {o : HO} (hp : H p = none) : Wd H0 G0 G W (upd H p o) :=
  ⟨fun a u e => by rw [upd_ne (ne_of_none e (w.gnone hp))]; exact w.gh a u e, fun a u e => ⟨by rw [upd_ne (ne_of_none e (w.wnone hp))]; exact (w.wh a u e).1, (w.wh a u e).2⟩, w.wi, w.hg,
    fun a u e => ⟨by rw [upd_ne (ne_of_none e (w.h0none hp))]; exact (w.h0 a u e).1, (w.h0 a u e).2⟩⟩
/-- behind a call -/
theorem Wd.call (w : Wd H0 G0 G W H) {G' H' : Hp} (hh : Sub H H') (gg : Sub G G') (gh : Sub G' H') (hg : ∀ a o, H a = some o → G' a = G a) : Wd H0 G0 G' W H' :=
  ⟨gh, fun a o e => ⟨hh a o (w.wh a o e).1, by rw [hg a o (w.wh a o e).1]; exact (w.wh a o e).2⟩, w.wi, fun a o e => (hg a o (w.h0 a o e).1).trans (w.hg a o e),
    fun a o e => ⟨hh a o (w.h0 a o e).1, (w.h0 a o e).2⟩⟩
end

/-! ### slots -/
/-- what an object holds, without its address -/
def DenO (K : PySem.W.Frag) (G : Hp) : D → HO → Prop
  | .lst ds, o => ∃ vs, o = .lst vs ∧ DenL K G ds vs
  | .dct ks ds, o => ∃ kvs, o = .dK kvs ∧ ks.map D.key = kvs.map (fun p => some p.1) ∧ DenL K G ds (kvs.map (fun p => p.2))
  | .ins c ns ds, o => ∃ C dx nvs, o = .ins C dx nvs ∧ PySem.W.nsIn K mainGlobals c = some (some (.ref C)) ∧ ns = nvs.map (fun p => p.1) ∧ DenL K G ds (nvs.map (fun p => p.2))
  | _, _ => False
theorem DenO.mono {K : PySem.W.Frag} {G G' : Hp} (e : Sub G G') : ∀ (d : D) {o : HO}, DenO K G d o → DenO K G' d o
  | .lst ds, _, h => by
    simp only [DenO] at h ⊢
    obtain ⟨vs, s, t⟩ := h
    exact ⟨vs, s, DenL.mono e ds t⟩
  | .dct ks ds, _, h => by
    simp only [DenO] at h ⊢
    obtain ⟨kvs, s, t, u⟩ := h
    exact ⟨kvs, s, t, DenL.mono e ds u⟩
  | .ins c ns ds, _, h => by
    simp only [DenO] at h ⊢
    obtain ⟨C, dx, nvs, s, t, u, z⟩ := h
    exact ⟨C, dx, nvs, s, t, u, DenL.mono e ds z⟩
  | .non, _, h => by simp only [DenO] at h
  | .bl _, _, h => by simp only [DenO] at h
  | .int _, _, h => by simp only [DenO] at h
  | .str _, _, h => by simp only [DenO] at h
  | .tup _, _, h => by simp only [DenO] at h
  | .scr _, _, h => by simp only [DenO] at h
theorem DenO.den {K : PySem.W.Frag} {G : Hp} {p : Addr} {o : HO} (hp : G p = some o) : ∀ (d : D), DenO K G d o → Den K G d (.ref p)
  | .lst ds, h => by
    simp only [DenO] at h
    obtain ⟨vs, s, t⟩ := h
    subst s
    simp only [Den]
    exact ⟨p, vs, rfl, hp, t⟩
  | .dct ks ds, h => by
    simp only [DenO] at h
    obtain ⟨kvs, s, t, u⟩ := h
    subst s
    simp only [Den]
    exact ⟨p, kvs, rfl, hp, t, u⟩
  | .ins c ns ds, h => by
    simp only [DenO] at h
    obtain ⟨C, dx, nvs, s, t, u, z⟩ := h
    subst s
    simp only [Den]
    exact ⟨p, C, dx, nvs, rfl, hp, t, u, z⟩
  | .non, h => by simp only [DenO] at h
  | .bl _, h => by simp only [DenO] at h
  | .int _, h => by simp only [DenO] at h
  | .str _, h => by simp only [DenO] at h
  | .tup _, h => by simp only [DenO] at h
  | .scr _, h => by simp only [DenO] at h
inductive Sl where
  | no | v (d : D) | o (d : D)
structure SlOk (K : PySem.W.Frag) (G W : Hp) (τ : List Sl) (σ : St) : Prop where
  len : τ.length = σ.length
  val : ∀ (i : Nat) d, τ[i]? = some (.v d) → ∃ v, σ[i]? = some (some v) ∧ Den K G d v
  own : ∀ (i : Nat) d, τ[i]? = some (.o d) → ∃ a o, σ[i]? = some (some (.ref a)) ∧ W a = some o ∧ DenO K G d o
  dis : ∀ (i j : Nat) ds es a, τ[i]? = some (.o ds) → τ[j]? = some (.o es) → σ[i]? = some (some (.ref a)) → σ[j]? = some (some (.ref a)) → i = j
theorem get_set {α : Type} {l : List α} {i j : Nat} {x y : α} (h : (l.set i x)[j]? = some y) : (j = i ∧ i < l.length ∧ y = x) ∨ (j ≠ i ∧ l[j]? = some y) := by
  by_cases e : j = i
  · subst e
    by_cases hl : j < l.length
    · rw [List.getElem?_set_self hl] at h
      exact .inl ⟨rfl, hl, (Option.some.inj h).symm⟩
    · rw [List.getElem?_eq_none (by simpa using hl)] at h
      cases h
  · rw [List.getElem?_set_ne (fun z => e z.symm)] at h
    exact .inr ⟨e, h⟩
theorem set_self {α : Type} {l : List α} {i : Nat} {x : α} (h : i < l.length) : (l.set i x)[i]? = some x := List.getElem?_set_self h
theorem set_ne {α : Type} {l : List α} {i j : Nat} {x : α} (h : j ≠ i) : (l.set i x)[j]? = l[j]? := List.getElem?_set_ne (fun z => h z.symm)
section
variable {K : PySem.W.Frag} {G G' W : Hp} {τ : List Sl} {σ : St}
theorem SlOk.mono (s : SlOk K G W τ σ) (e : Sub G G') : SlOk K G' W τ σ :=
  ⟨s.len, fun i d h => let ⟨v, a, b⟩ := s.val i d h; ⟨v, a, b.mono e⟩, fun i ds h => let ⟨a, vs, x, y, z⟩ := s.own i ds h; ⟨a, vs, x, y, DenO.mono e _ z⟩, s.dis⟩
/-- a slot takes a value -/
theorem SlOk.put (s : SlOk K G W τ σ) {i : Nat} {d : D} {v : V} (h : Den K G d v) : SlOk K G W (τ.set i (.v d)) (σ.set i (some v)) := by
  refine ⟨by simp [s.len], fun j e hj => ?_, fun j es hj => ?_, fun j k es fs a hj hk ha hb => ?_⟩
  · rcases get_set hj with ⟨z, hl, e1⟩ | ⟨z, hj⟩
    · subst z
      cases e1
      exact ⟨v, set_self (by rw [← s.len]; exact hl), h⟩
    · rw [set_ne z]; exact s.val j e hj
  · rcases get_set hj with ⟨z, hl, e1⟩ | ⟨z, hj⟩
    · cases e1
    · rw [set_ne z]; exact s.own j es hj
  · rcases get_set hj with ⟨z, hl, e1⟩ | ⟨z, hj⟩
    · cases e1
    · rcases get_set hk with ⟨z', hl, e1⟩ | ⟨z', hk⟩
      · cases e1
      · rw [set_ne z] at ha
        rw [set_ne z'] at hb
        exact s.dis j k es fs a hj hk ha hb
theorem SlOk.wput (s : SlOk K G W τ σ) {i : Nat} {x : Option V} : SlOk K G W (τ.set i .no) (σ.set i x) := by
  refine ⟨by simp [s.len], fun j e hj => ?_, fun j es hj => ?_, fun j k es fs a hj hk ha hb => ?_⟩
  · rcases get_set hj with ⟨z, hl, e1⟩ | ⟨z, hj⟩
    · cases e1
    · rw [set_ne z]; exact s.val j e hj
  · rcases get_set hj with ⟨z, hl, e1⟩ | ⟨z, hj⟩
    · cases e1
    · rw [set_ne z]; exact s.own j es hj
  · rcases get_set hj with ⟨z, hl, e1⟩ | ⟨z, hj⟩
    · cases e1
    · rcases get_set hk with ⟨z', hl, e1⟩ | ⟨z', hk⟩
      · cases e1
      · rw [set_ne z] at ha
        rw [set_ne z'] at hb
        exact s.dis j k es fs a hj hk ha hb
/-- a slot takes a new list of its own -/
theorem SlOk.putO (s : SlOk K G W τ σ) {i : Nat} {ds : D} {ob : HO} {p : Addr} (hp : W p = none) (h : DenO K G ds ob) : SlOk K G (upd W p ob) (τ.set i (.o ds)) (σ.set i (some (.ref p))) := by
  have np : ∀ (j : Nat) es, j ≠ i → τ[j]? = some (.o es) → ∀ a, σ[j]? = some (some (.ref a)) → a ≠ p := fun j es z hj a ha e => by
    obtain ⟨b, ws, x, y, _⟩ := s.own j es hj
    rw [ha] at x
    cases x
    rw [e, hp] at y
    cases y
  refine ⟨by simp [s.len], fun j e hj => ?_, fun j es hj => ?_, fun j k es fs a hj hk ha hb => ?_⟩
  · rcases get_set hj with ⟨z, hl, e1⟩ | ⟨z, hj⟩
    · cases e1
    · rw [set_ne z]; exact s.val j e hj
  · rcases get_set hj with ⟨z, hl, e1⟩ | ⟨z, hj⟩
    · subst z
      cases e1
      exact ⟨p, ob, set_self (by rw [← s.len]; exact hl), upd_same, h⟩
    · obtain ⟨b, ws, x, y, q⟩ := s.own j es hj
      exact ⟨b, ws, by rw [set_ne z]; exact x, by rw [upd_ne (np j es z hj b x)]; exact y, q⟩
  · rcases get_set hj with ⟨z, hl, e1⟩ | ⟨z, hj2⟩
    · rcases get_set hk with ⟨z', hl', e1'⟩ | ⟨z', hk2⟩
      · rw [z, z']
      · rw [z, set_self (by rw [← s.len]; exact hl)] at ha
        cases ha
        rw [set_ne z'] at hb
        exact absurd rfl (np k fs z' hk2 _ hb)
    · rcases get_set hk with ⟨z', hl', e1'⟩ | ⟨z', hk2⟩
      · rw [z', set_self (by rw [← s.len]; exact hl')] at hb
        cases hb
        rw [set_ne z] at ha
        exact absurd rfl (np j es z hj2 _ ha)
      · rw [set_ne z] at ha
        rw [set_ne z'] at hb
        exact s.dis j k es fs a hj2 hk2 ha hb
/-- an owned list changes -/
theorem SlOk.chg (s : SlOk K G W τ σ) {i : Nat} {ds ds' : D} {ob' : HO} {p : Addr} (hi : τ[i]? = some (.o ds)) (hp : σ[i]? = some (some (.ref p))) (h : DenO K G ds' ob') :
    SlOk K G (upd W p ob') (τ.set i (.o ds')) σ := by
  have il : i < τ.length := (List.getElem?_eq_some_iff.mp hi).1
  refine ⟨by simp [s.len], fun j e hj => ?_, fun j es hj => ?_, fun j k es fs a hj hk ha hb => ?_⟩
  · rcases get_set hj with ⟨z, hl, e1⟩ | ⟨z, hj⟩
    · cases e1
    · exact s.val j e hj
  · rcases get_set hj with ⟨z, hl, e1⟩ | ⟨z, hj⟩
    · subst z
      cases e1
      exact ⟨p, ob', hp, upd_same, h⟩
    · obtain ⟨b, ws, x, y, q⟩ := s.own j es hj
      have nb : b ≠ p := fun e => z (s.dis j i es ds b hj hi x (by rw [e]; exact hp))
      exact ⟨b, ws, x, by rw [upd_ne nb]; exact y, q⟩
  · have old : ∀ (j : Nat) es, (τ.set i (.o ds'))[j]? = some (.o es) → ∃ es', τ[j]? = some (.o es') := fun j es hj => by
      rcases get_set hj with ⟨z, hl, e1⟩ | ⟨z, hj⟩
      · subst z; exact ⟨ds, hi⟩
      · exact ⟨es, hj⟩
    obtain ⟨es', hj'⟩ := old j es hj
    obtain ⟨fs', hk'⟩ := old k fs hk
    exact s.dis j k es' fs' a hj' hk' ha hb
/-- an owned list is given up: it stands for good -/
theorem SlOk.give (s : SlOk K G W τ σ) {i : Nat} {ds : D} {ob : HO} {p : Addr} (hi : τ[i]? = some (.o ds)) (hp : σ[i]? = some (some (.ref p))) (hw : W p = some ob) (hg : G p = none) (h : DenO K G ds ob) :
    SlOk K (upd G p ob) (del W p) (τ.set i (.v ds)) σ := by
  have s' := s.mono (sub_upd (o := ob) hg)
  refine ⟨by simp [s.len], fun j e hj => ?_, fun j es hj => ?_, fun j k es fs a hj hk ha hb => ?_⟩
  · rcases get_set hj with ⟨z, hl, e1⟩ | ⟨z, hj⟩
    · subst z
      cases e1
      exact ⟨_, hp, DenO.den upd_same _ (h.mono (sub_upd hg))⟩
    · exact s'.val j e hj
  · rcases get_set hj with ⟨z, hl, e1⟩ | ⟨z, hj⟩
    · cases e1
    · obtain ⟨b, ws, x, y, q⟩ := s'.own j es hj
      have nb : b ≠ p := fun e => z (s.dis j i es ds b hj hi x (by rw [e]; exact hp))
      exact ⟨b, ws, x, by rw [del_ne nb]; exact y, q⟩
  · rcases get_set hj with ⟨z, hl, e1⟩ | ⟨z, hj⟩
    · cases e1
    · rcases get_set hk with ⟨z', hl', e1'⟩ | ⟨z', hk⟩
      · cases e1'
      · exact s.dis j k es fs a hj hk ha hb
end
end Pv

/-! plain: tuples of ints compared, a stable insertion sort -/
set_option Elab.async false
set_option linter.all false
namespace PvQ
/-- less, as tuples are -/
def lexI : List Int → List Int → Bool
  | [], [] => false
  | [], _ :: _ => true
  | _ :: _, [] => false
  | a :: x, b :: y => if a = b then lexI x y else decide (a < b)
/-- reversed, if so asked -/
def revB {α : Type} (b : Bool) (l : List α) : List α := if b = true then l.reverse else l
/-- x ahead of the first item that is not below it -/
def insK {α : Type} (lt : α → α → Bool) (x : α) : List α → List α
  | [] => [x]
  | y :: r => bif lt y x then y :: insK lt x r else x :: y :: r
def isort {α : Type} (lt : α → α → Bool) (l : List α) : List α := l.foldr (insK lt) []
/-- the items by their keys -/
def srtL {α : Type} (b : Bool) (kz : List (List Int)) (xs : List α) : List α := revB b ((isort (fun p q => lexI p.1 q.1) (revB b (kz.zip xs))).map (·.2))
end PvQ

set_option Elab.async false
set_option linter.all false
set_option maxRecDepth 100000
set_option maxHeartbeats 4000000

namespace Pv
open PySem PySem.Spec L2

/-! ### the small language -/
inductive BO where | add | sub | mul | fdiv | mod | pow
inductive CO where | lt | le | gt | ge | eq | ne | is | isnot | isin | notin
inductive Ty where | int | bool | str | tuple | list | dict
inductive BF where | len | int | abs | max | min | gcd | tuple | list | sum | str
/-- what takes one value: text.upper(), x[::-1], sorted(set(x)) -/
inductive U1 where | upper | rev | sset
/-- what takes two values: list.count(text) -/
inductive U2 where | cnt
inductive T where | nm (i : Nat) | tp (is : List Nat)
inductive E where
  | c (d : D) | v (i : Nat) | g (k : Nat)
  | bin (o : BO) (a b : E) | neg (a : E) | not (a : E) | and (a b : E) | or (a b : E) | last (a : E) | nil
  | cmp (o : CO) (a b : E) | chain (o p : CO) (a b c : E)
  | ite (t a b : E)
  | tup (es : List E) | lst (es : List E) | dct (es : List E)
  | ix (a i : E) | sl (a lo hi : E)
  | call (f : Nat) (es : List E)
  | blt (f : BF) (es : List E)
  | isi (a : E) (ts : List Ty) (many : Bool)
  | ixo (i : Nat) (a : E) | leno (i : Nat)
  | lc (own : List (Str × Nat)) (t : T) (it : E) (c : E) (e : E)
  | callK (f : Nat) (ks : List Str) (perm : List Nat) (es : List E) | mk (f : Nat) (es : List E)
  | fld (a : E) (f : Str) | mth (a : E) (m : Str) (es : List E) | prp (a : E) (f : Str)
  | join (a b : E) | sidx (a b : E) | dget (a b : E) | ino (neg : Bool) (a : E) (i : Nat)
  | same (a b : E) | u1 (o : U1) (a : E) | u2 (o : U2) (a b : E) | srt (f : Nat) (rev : Bool) (a : E)
  | seq (e : E) | r1 (a : E) | r2 (a b : E) | enum (a : E) | zip (a b : E)
inductive S where
  | asg (t : T) (e : E) | own (i : Nat) (es : List E) | frz (i : Nat) | app (i : Nat) (e : E)
  | ret (e : E) | retN | pass | brk | cont
  | ifs (t : E) (a b : List S)
  | for_ (t : T) (it : E) (b : List S)
  | whl (n : Nat) (t : E) (b : List S)
  | never | setf (i : Nat) (f : Str) (e : E) | newd (i : Nat) | put (i : Nat) (k e : E) | seti (i : Nat) (k e : E)

abbrev line : Nat := 16777216
def strD (x : List Nat) : D := .str x
def mulOk (i j : Int) : Bool := decide (i.natAbs.log2 + j.natAbs.log2 < 1000000)
def divOk (j : Int) : Bool := decide (j ≠ 0) && decide (j.natAbs.log2 < 9000)
def powOk (i j : Int) : Bool := decide (0 ≤ j) && decide (j ≤ 1000000) && decide (i.natAbs < 2 ^ 64)
def repOk (n : Nat) (k : Int) : Bool := decide (-(2 ^ 62) ≤ k) && decide (k < 2 ^ 62) && decide (n * k.toNat ≤ line)
def binD : BO → D → D → Option D
  | .add, .int i, .int j => some (.int (i + j))
  | .add, .str x, .str y => if x.length + y.length ≤ line then some (.str (x ++ y)) else none
  | .add, .lst x, .lst y => if x.length + y.length ≤ line then some (.lst (x ++ y)) else none
  | .add, .tup x, .tup y => if x.length + y.length ≤ line then some (.tup (x ++ y)) else none
  | .mul, .lst x, .int k => if repOk x.length k then some (.lst (List.replicate k.toNat x).flatten) else none
  | .mul, .str x, .int k => if repOk x.length k then some (.str (List.replicate k.toNat x).flatten) else none
  | .sub, .int i, .int j => some (.int (i - j))
  | .mul, .int i, .int j => if mulOk i j then some (.int (i * j)) else none
  | .fdiv, .int i, .int j => if divOk j then some (.int (i.fdiv j)) else none
  | .mod, .int i, .int j => if j ≠ 0 then some (.int (i.fmod j)) else none
  | .pow, .int i, .int j => if powOk i j then some (.int (i ^ j.toNat)) else none
  | _, _, _ => none
def scalD : D → D → Bool
  | .non, .non => true | .non, .int _ => true | .int _, .non => true | .non, .bl _ => true | .bl _, .non => true | .non, .str _ => true | .str _, .non => true
  | .int _, .int _ => true | .bl _, .bl _ => true | .str _, .str _ => true
  | .int _, .str _ => true | .str _, .int _ => true | .bl _, .str _ => true | .str _, .bl _ => true
  | _, _ => false
def eqD (x y : D) : Option Bool := if scalD x y || (D.shp x && D.shp y) then some (D.eqb x y) else none
def flatD : D → Bool
  | .non => true | .bl _ => true | .int _ => true | .str _ => true | _ => false
def inD (x : D) (ys : List D) : Option Bool := if flatD x && ys.all flatD then some (ys.any fun y => D.eqb y x) else none
def dlook : List D → List D → Key → Option D
  | k :: ks, v :: vs, q => if D.key k = some q then some v else dlook ks vs q
  | _, _, _ => none
def hasK (ks : List D) (q : Key) : Bool := ks.any fun k => decide (D.key k = some q)
def dputK (ks : List D) (q : Key) (x : D) : List D := if hasK ks q then ks else ks ++ [x]
def dputV (ks vs : List D) (q : Key) (y : D) : List D := if hasK ks q then List.zipWith (fun k v => if D.key k = some q then y else v) ks vs else vs ++ [y]
def isInD (x : D) : D → Option Bool
  | .lst ys => inD x ys
  | .tup ys => inD x ys
  | .str ys => match x with | .str [c] => some (decide (c ∈ ys)) | _ => none
  | _ => none
def isD : D → D → Option Bool
  | .bl a, .bl b => some (decide (a = b))
  | .non, .non => some true
  | .bl _, .non => some false | .int _, .non => some false | .str _, .non => some false | .lst _, .non => some false | .tup _, .non => some false | .dct _ _, .non => some false | .ins _ _ _, .non => some false
  | _, _ => none
def cmpD : CO → D → D → Option Bool
  | .lt, .int i, .int j => some (decide (i < j))
  | .le, .int i, .int j => some (decide (i ≤ j))
  | .gt, .int i, .int j => some (decide (j < i))
  | .ge, .int i, .int j => some (decide (j ≤ i))
  | .eq, x, y => eqD x y
  | .ne, x, y => (eqD x y).map not
  | .is, x, y => isD x y
  | .isnot, x, y => (isD x y).map not
  | .isin, x, y => isInD x y
  | .notin, x, y => (isInD x y).map not
  | _, _, _ => none
/-- comparing, with in over dicts -/
def cmpX (o : CO) (x : D) : D → Option Bool
  | .dct ks vs => match o with
    | .isin => (D.key x).map fun q => (dlook ks vs q).isSome
    | .notin => (D.key x).map fun q => !(dlook ks vs q).isSome
    | _ => cmpD o x (.dct ks vs)
  | y => cmpD o x y
def truth : D → Option Bool
  | .non => some false
  | .bl b => some b
  | .int i => some (i != 0)
  | .str x => if x.length ≤ line then some (!x.isEmpty) else none
  | .lst x => some (!x.isEmpty)
  | .tup x => some (!x.isEmpty)
  | _ => none
def blD : D → Option Bool
  | .bl b => some b
  | _ => none
def intD : D → Option Int
  | .int i => some i
  | _ => none
def ixD : D → D → Option D
  | .lst xs, .int i => atI xs i
  | .scr xs, .int i => (atI xs i).map .int
  | .tup xs, .int i => atI xs i
  | .str x, .int i => if x.length ≤ line then (atI x i).map fun c => .str [c] else none
  | _, _ => none
/-- an item, of a dict too -/
def ixX : D → D → Option D
  | .dct ks vs, k => (D.key k).bind fun q => dlook ks vs q
  | x, y => ixD x y
def getD' : D → D → Option D
  | .dct ks vs, k => (D.key k).map fun q => (dlook ks vs q).getD .non
  | _, _ => none
def fldOf : List Str → List D → Str → Option D
  | n :: ns, v :: vs, f => if n = f then some v else fldOf ns vs f
  | _, _, _ => none
def putN : List Str → List D → Str → List Str
  | n :: ns, _ :: vs, f => if n = f then n :: ns else n :: putN ns vs f
  | _, _, f => [f]
def putV : List Str → List D → Str → D → List D
  | n :: ns, v :: vs, f, x => if n = f then x :: vs else v :: putV ns vs f x
  | _, _, _, x => [x]
def strsD : List D → Option (List (List Nat))
  | [] => some []
  | .str x :: r => (strsD r).map (x :: ·)
  | _ => none
def joinN (s : List Nat) : List (List Nat) → List Nat
  | [] => []
  | [p] => p
  | p :: q :: r => p ++ (s ++ joinN s (q :: r))
def joinOk (s : List Nat) (ps : List (List Nat)) : Bool := decide ((ps.map (·.length)).sum + ps.length * s.length ≤ line)
def joinD : D → D → Option D
  | .str s, .lst ds => (strsD ds).bind fun ps => if joinOk s ps then some (.str (joinN s ps)) else none
  | .str s, .tup ds => (strsD ds).bind fun ps => if joinOk s ps then some (.str (joinN s ps)) else none
  | _, _ => none
def sidxD : D → D → Option D
  | .str x, .str [c] => (x.findIdx? (· == c)).map fun i => .int (i : Nat)
  | _, _ => none
def permL (perm : List Nat) (ds : List D) : List D := perm.filterMap (ds[·]?)
def cutD {α : Type} (xs : List α) (lo hi : Option Int) : List α := (xs.drop (HT.sIx xs.length 0 lo)).take (HT.sIx xs.length xs.length hi - HT.sIx xs.length 0 lo)
def slD (lo hi : Option Int) : D → Option D
  | .lst xs => some (.lst (cutD xs lo hi))
  | .tup xs => some (.tup (cutD xs lo hi))
  | .str x => if x.length ≤ line then some (.str (cutD x lo hi)) else none
  | _ => none
def allInts : List D → Option (List Int)
  | [] => some []
  | .int i :: r => (allInts r).map (i :: ·)
  | _ => none
def intS (i : Int) : List Nat := (Str.ofString (toString i)).cps.toList
def bltD : BF → List D → Option D
  | .len, [.lst x] => some (.int x.length)
  | .len, [.tup x] => some (.int x.length)
  | .len, [.scr x] => some (.int x.length)
  | .len, [.str x] => if x.length ≤ line then some (.int x.length) else none
  | .int, [.int i] => some (.int i)
  | .int, [.bl b] => some (.int (if b then 1 else 0))
  | .abs, [.int i] => some (.int (if i < 0 then -i else i))
  | .max, [.int i, .int j] => some (.int (if j > i then j else i))
  | .min, [.int i, .int j] => some (.int (if j < i then j else i))
  | .gcd, [.int i, .int j] => some (.int (Nat.gcd i.natAbs j.natAbs : Nat))
  | .tuple, [.lst x] => some (.tup x)
  | .tuple, [.tup x] => some (.tup x)
  | .list, [.lst x] => some (.lst x)
  | .list, [.tup x] => some (.lst x)
  | .sum, [.lst x] => (allInts x).map fun ns => .int ns.sum
  | .str, [.int i] => if i.natAbs.log2 < 1920 then some (.str (intS i)) else none
  | _, _ => none
def tyD : D → Option Ty
  | .int _ => some .int | .bl _ => some .bool | .str _ => some .str | .tup _ => some .tuple | .lst _ => some .list | .dct _ _ => some .dict
  | _ => none
def isi1 (d : D) : Ty → Bool
  | .int => match d with | .int _ => true | .bl _ => true | _ => false
  | .bool => match d with | .bl _ => true | _ => false
  | .str => match d with | .str _ => true | _ => false
  | .tuple => match d with | .tup _ => true | _ => false
  | .list => match d with | .lst _ => true | _ => false
  | .dict => match d with | .dct _ _ => true | _ => false
def isIns : D → Bool
  | .ins _ _ _ => true
  | .scr _ => true
  | _ => false
def insI (K : List Str) : D → Option D
  | .ins c _ _ => if c ∈ K then some (.bl false) else none
  | _ => none
mutual
/-- the same tree -/
def D.beq : D → D → Bool
  | .non, b => (match b with | .non => true | _ => false)
  | .bl a, b => (match b with | .bl b => decide (a = b) | _ => false)
  | .int a, b => (match b with | .int b => decide (a = b) | _ => false)
  | .str a, b => (match b with | .str b => decide (a = b) | _ => false)
  | .lst a, b => (match b with | .lst b => D.beqL a b | _ => false)
  | .tup a, b => (match b with | .tup b => D.beqL a b | _ => false)
  | .dct a c, b => (match b with | .dct b d => D.beqL a b && D.beqL c d | _ => false)
  | .ins _ _ _, _ => false
  | .scr _, _ => false
def D.beqL : List D → List D → Bool
  | [], b => b.isEmpty
  | a :: r, b => (match b with | b :: s => D.beq a b && D.beqL r s | [] => false)
end
def putI (k : Int) : List Int → List Int
  | [] => [k]
  | j :: r => if k < j then k :: j :: r else if k = j then j :: r else j :: putI k r
/-- in order, each once -/
def ssetI (ns : List Int) : List Int := ns.foldr putI []
def u1D : U1 → D → Option D
  | .upper, .str x => if x.length ≤ 5592405 then some (.str (Txt.upper (mkS x)).cps.toList) else none
  | .rev, .lst x => some (.lst x.reverse)
  | .rev, .tup x => some (.tup x.reverse)
  | .rev, .str x => if x.length ≤ line then some (.str x.reverse) else none
  | .sset, .lst x => (allInts x).bind fun ns => if ns.length < 60 then some (.lst ((ssetI ns).map .int)) else none
  | .sset, .tup x => (allInts x).bind fun ns => if ns.length < 60 then some (.lst ((ssetI ns).map .int)) else none
  | _, _ => none
def u2D : U2 → D → D → Option D
  | .cnt, .lst x, .str y => (strsD x).map fun ps => .int (ps.count y : Nat)
  | _, _, _ => none
def keyD : D → Option (List Int)
  | .tup ts => (allInts ts).bind fun ns => if ns.isEmpty then none else some ns
  | _ => none
/-- the keys that F gives -/
def keysD (F : List D → Option D) : List D → Option (List (List Int))
  | [] => some []
  | d :: r => ((F [d]).bind keyD).bind fun k => (keysD F r).map (k :: ·)
def srtD (F : List D → Option D) (rev : Bool) : D → Option D
  | .lst xs => (keysD F xs).bind fun kz => if xs.length ≤ 2000 then some (.lst (PvQ.srtL rev kz xs)) else none
  | _ => none
def setAll : List Nat → List D → List Sl → Option (List Sl)
  | [], [], σ => some σ
  | i :: is, d :: ds, σ => setAll is ds (σ.set i (.v d))
  | _, _, _ => none
def setT : T → D → List Sl → Option (List Sl)
  | .nm i, d, σ => some (σ.set i (.v d))
  | .tp is, .tup ds, σ => setAll is ds σ
  | _, _, _ => none
def wipeD (σ : List Sl) : List Nat → List Sl
  | [] => σ
  | v :: vs => (wipeD σ vs).set v .no
def seqD : D → Option (List D)
  | .lst xs => some xs
  | .scr xs => some (xs.map .int)
  | .tup xs => some xs
  | .str x => some (x.map fun c => .str [c])
  | _ => none
def rngD (lo : Int) : Nat → List D
  | 0 => []
  | n + 1 => .int lo :: rngD (lo + 1) n
def okR (i : Int) : Bool := decide (-(2 ^ 62) ≤ i) && decide (i < 2 ^ 62)
def enumD (k : Nat) : List D → List D
  | [] => []
  | d :: r => .tup [.int k, d] :: enumD (k + 1) r
def zipD : List D → List D → List D
  | a :: r, b :: s => .tup [a, b] :: zipD r s
  | _, _ => []
def getO (σ : List Sl) (i : Nat) : Option (List D) := match σ[i]? with | some (.o (.lst ds)) => some ds | _ => none
def getOd (σ : List Sl) (i : Nat) : Option (List D × List D) := match σ[i]? with | some (.o (.dct ks vs)) => some (ks, vs) | _ => none
def getOi (σ : List Sl) (i : Nat) : Option (Str × List Str × List D) := match σ[i]? with | some (.o (.ins c ns vs)) => some (c, ns, vs) | _ => none
def getV (σ : List Sl) (i : Nat) : Option D := match σ[i]? with | some (.v d) => some d | _ => none
def lcL (t : T) (c e : List Sl → Option D) (σ : List Sl) : List D → Option (List D)
  | [] => some []
  | d :: ds => (setT t d σ).bind fun σ1 => ((c σ1).bind truth).bind fun b =>
      bif b then (e σ1).bind fun x => (lcL t c e σ ds).map (x :: ·) else lcL t c e σ ds
def distinctK : List (Option Key) → Bool
  | [] => true
  | none :: _ => false
  | k :: r => (r.all fun j => decide (j ≠ k)) && distinctK r
mutual
/-- lists, tuples, dicts of flat items, nested less than n deep -/
def D.deep : D → Nat → Bool
  | .non, _ => true
  | .bl _, _ => true
  | .int _, _ => true
  | .str _, _ => true
  | .lst ds, n => (match n with | 0 => false | n + 1 => D.deepL ds n)
  | .tup ds, n => (match n with | 0 => false | n + 1 => D.deepL ds n)
  | .dct ks ds, n => (match n with | 0 => false | n + 1 => distinctK (ks.map D.key) && D.deepL ds n)
  | .ins _ _ _, _ => false
  | .scr _, _ => false
def D.deepL : List D → Nat → Bool
  | [], _ => true
  | d :: ds, n => D.deep d n && D.deepL ds n
end
def sameD : D → D → Option D
  | .lst xs, .lst ys => if D.beqL xs ys && D.deepL xs 40 then some (.bl true) else none
  | _, _ => none
def dctD (ks vs : List D) : Option D := if ks.length = vs.length && decide (ks.length ≤ 15) && distinctK (ks.map D.key) then some (.dct ks vs) else none

def evens : List D → List D
  | a :: _ :: r => a :: evens r
  | _ => []
def odds : List D → List D
  | _ :: b :: r => b :: odds r
  | _ => []
/-- what stands fast for a def: its callees by number, the module's constants by number -/
structure Sm where
  F : Nat → List D → Option D
  C : Nat → Option D
  /-- fields that no class has as its own, methods, properties (by class) -/
  L : List (Str × Str) := []
  M : List (Str × Str × Nat) := []
  P : List (Str × Str × Nat) := []
  /-- classes whose instances may be asked for a built-in type -/
  K : List Str := []
def findM : List (Str × Str × Nat) → Str → Str → Option Nat
  | (c, m, k) :: r, c', m' => if c = c' ∧ m = m' then some k else findM r c' m'
  | [], _, _ => none

mutual
def evE (Z : Sm) : E → List Sl → Option D
  | .c d, _ => some d
  | .v i, σ => getV σ i
  | .g k, _ => Z.C k
  | .bin o a b, σ => (evE Z a σ).bind fun x => (evE Z b σ).bind fun y => binD o x y
  | .neg a, σ => (evE Z a σ).bind fun x => (intD x).map fun i => .int (-i)
  | .not a, σ => ((evE Z a σ).bind truth).map fun b => .bl (!b)
  | .and a b, σ => ((evE Z a σ).bind blD).bind fun k => bif k then evE Z b σ else some (.bl false)
  | .or a b, σ => ((evE Z a σ).bind blD).bind fun k => bif k then some (.bl true) else evE Z b σ
  | .last a, σ => evE Z a σ
  | .cmp o a b, σ => (evE Z a σ).bind fun x => (evE Z b σ).bind fun y => (cmpX o x y).map .bl
  | .chain o p a b c, σ => (evE Z a σ).bind fun x => (evE Z b σ).bind fun y => (cmpD o x y).bind fun k => bif k then (evE Z c σ).bind fun z => (cmpD p y z).map .bl else some (.bl false)
  | .ite t a b, σ => ((evE Z t σ).bind truth).bind fun k => bif k then evE Z a σ else evE Z b σ
  | .tup es, σ => (evL Z es σ).bind fun ds => if ds.length ≤ line then some (.tup ds) else none
  | .lst es, σ => (evL Z es σ).bind fun ds => if ds.length ≤ line then some (.lst ds) else none
  | .dct es, σ => (evL Z es σ).bind fun ds => dctD (evens ds) (odds ds)
  | .ix a b, σ => (evE Z a σ).bind fun x => (evE Z b σ).bind fun y => ixX x y
  | .nil, _ => none
  | .sl a lo hi, σ => (evE Z a σ).bind fun x => (evP Z lo σ).bind fun l => (evP Z hi σ).bind fun h => slD l h x
  | .call f es, σ => (evL Z es σ).bind fun ds => Z.F f ds
  | .blt f es, σ => (evL Z es σ).bind fun ds => bltD f ds
  | .isi a ts _, σ => (evE Z a σ).bind fun x => if isIns x then insI Z.K x else some (.bl (ts.any (isi1 x)))
  | .ixo i a, σ => (getO σ i).bind fun xs => ((evE Z a σ).bind intD).bind fun k => atI xs k
  | .leno i, σ => (getO σ i).map fun xs => .int xs.length
  | .lc own t it c e, σ => (evI Z it σ).bind fun ds => if ds.length ≤ line then (lcL t (evE Z c) (evE Z e) (wipeD σ (own.map fun p => p.2)) ds).map .lst else none
  | .callK f _ perm es, σ => (evL Z es σ).bind fun ds => Z.F f (permL perm ds)
  | .mk f es, σ => (evL Z es σ).bind fun ds => Z.F f ds
  | .fld a f, σ => (evE Z a σ).bind fun x => match x with
    | .ins c ns vs => if (c, f) ∈ Z.L then fldOf ns vs f else none
    | _ => none
  | .mth a m es, σ => (evE Z a σ).bind fun x => (evL Z es σ).bind fun ds => match x with
    | .ins c ns vs => if m ∈ ns then none else (findM Z.M c m).bind fun k => Z.F k (x :: ds)
    | _ => none
  | .prp a f, σ => (evE Z a σ).bind fun x => match x with
    | .ins c _ _ => (findM Z.P c f).bind fun k => Z.F k [x]
    | _ => none
  | .join a b, σ => (evE Z a σ).bind fun x => (evE Z b σ).bind fun y => joinD x y
  | .sidx a b, σ => (evE Z a σ).bind fun x => (evE Z b σ).bind fun y => sidxD x y
  | .dget a b, σ => (evE Z a σ).bind fun x => (evE Z b σ).bind fun y => getD' x y
  | .ino neg a i, σ => (evE Z a σ).bind fun x => (D.key x).bind fun q => (getOd σ i).map fun kv => .bl ((dlook kv.1 kv.2 q).isSome != neg)
  | .same a b, σ => (evE Z a σ).bind fun x => (evE Z b σ).bind fun y => sameD x y
  | .u1 o a, σ => (evE Z a σ).bind fun x => u1D o x
  | .u2 o a b, σ => (evE Z a σ).bind fun x => (evE Z b σ).bind fun y => u2D o x y
  | .srt f rev a, σ => (evE Z a σ).bind fun x => srtD (Z.F f) rev x
  | .seq _, _ => none
  | .r1 _, _ => none
  | .r2 _ _, _ => none
  | .enum _, _ => none
  | .zip _ _, _ => none
def evP (Z : Sm) : E → List Sl → Option (Option Int)
  | .nil, _ => some none
  | .last e, σ => (evE Z e σ).bind fun d => (intD d).map some
  | _, _ => none
def evI (Z : Sm) : E → List Sl → Option (List D)
  | .seq e, σ => (evE Z e σ).bind seqD
  | .r1 a, σ => ((evE Z a σ).bind intD).bind fun i => if okR i then some (rngD 0 i.toNat) else none
  | .r2 a b, σ => ((evE Z a σ).bind intD).bind fun i => ((evE Z b σ).bind intD).bind fun j => if okR i && okR j then some (rngD i (j - i).toNat) else none
  | .enum a, σ => (evE Z a σ).bind fun x => match x with | .lst ds => some (enumD 0 ds) | .tup ds => some (enumD 0 ds) | .str ds => some (enumD 0 (ds.map fun c => .str [c])) | _ => none
  | .zip a b, σ => (evE Z a σ).bind fun x => (evE Z b σ).bind fun y => match x, y with | .lst ds, .lst es => some (zipD ds es) | .tup ds, .tup es => some (zipD ds es) | .str ds, .str es => some (zipD (ds.map fun c => .str [c]) (es.map fun c => .str [c])) | _, _ => none
  | _, _ => none
def evL (Z : Sm) : List E → List Sl → Option (List D)
  | [], _ => some []
  | e :: es, σ => (evE Z e σ).bind fun d => (evL Z es σ).map (d :: ·)
end

inductive Out where
  | nx (σ : List Sl) | rt (d : D) | bk (σ : List Sl) | ct (σ : List Sl)
def frzD (σ : List Sl) (i : Nat) : List Sl := match σ[i]? with | some (.o d) => σ.set i (.v d) | _ => σ
def forL (t : T) (f : List Sl → Option Out) : List D → List Sl → Option Out
  | [], σ => some (.nx σ)
  | d :: ds, σ => (setT t d σ).bind fun σ1 => (f σ1).bind fun o => match o with
    | .nx σ2 => forL t f ds σ2
    | .ct σ2 => forL t f ds σ2
    | .bk σ2 => some (.nx σ2)
    | .rt d => some (.rt d)
def whlL (c : List Sl → Option D) (f : List Sl → Option Out) : Nat → List Sl → Option Out
  | 0, _ => none
  | n + 1, σ => ((c σ).bind truth).bind fun b => bif b then (f σ).bind fun o => match o with
      | .nx σ2 => whlL c f n σ2
      | .ct σ2 => whlL c f n σ2
      | .bk σ2 => some (.nx σ2)
      | .rt d => some (.rt d)
    else some (.nx σ)
mutual
def evS (Z : Sm) : S → List Sl → Option Out
  | .asg t e, σ => (evE Z e σ).bind fun d => (setT t d σ).map .nx
  | .own i es, σ => (evL Z es σ).bind fun ds => if ds.length ≤ line then some (.nx (σ.set i (.o (.lst ds)))) else none
  | .frz i, σ => some (.nx (frzD σ i))
  | .app i e, σ => (evE Z e σ).bind fun d => (getO σ i).bind fun xs => if xs.length < line then some (.nx (σ.set i (.o (.lst (xs ++ [d]))))) else none
  | .ret e, σ => (evE Z e σ).map .rt
  | .retN, _ => some (.rt .non)
  | .pass, σ => some (.nx σ)
  | .brk, σ => some (.bk σ)
  | .cont, σ => some (.ct σ)
  | .ifs t a b, σ => ((evE Z t σ).bind truth).bind fun k => bif k then evSs Z a σ else evSs Z b σ
  | .for_ t it b, σ => (evI Z it σ).bind fun ds => forL t (evSs Z b) ds σ
  | .whl n t b, σ => whlL (evE Z t) (evSs Z b) n σ
  | .never, _ => none
  | .setf i f e, σ => (evE Z e σ).bind fun d => (getOi σ i).bind fun o => if (o.1, f) ∈ Z.L ∧ o.2.1.length < 1000 then some (.nx (σ.set i (.o (.ins o.1 (putN o.2.1 o.2.2 f) (putV o.2.1 o.2.2 f d))))) else none
  | .newd i, σ => some (.nx (σ.set i (.o (.dct [] []))))
  | .put i k e, σ => (evE Z e σ).bind fun d => (evE Z k σ).bind fun x => (D.key x).bind fun q => (getOd σ i).bind fun kv => if kv.1.length < line then some (.nx (σ.set i (.o (.dct (dputK kv.1 q x) (dputV kv.1 kv.2 q d))))) else none
  | .seti i k e, σ => (evE Z e σ).bind fun d => ((evE Z k σ).bind intD).bind fun j => (getO σ i).bind fun xs => (ixN xs.length j).map fun n => .nx (σ.set i (.o (.lst (xs.set n d))))
def evSs (Z : Sm) : List S → List Sl → Option Out
  | [], σ => some (.nx σ)
  | s :: r, σ => (evS Z s σ).bind fun o => match o with
    | .nx σ2 => evSs Z r σ2
    | .rt d => some (.rt d)
    | .bk σ2 => some (.bk σ2)
    | .ct σ2 => some (.ct σ2)
end
def startD (m : Nat) (ds : List D) : List Sl := ds.map Sl.v ++ List.replicate (m - ds.length) Sl.no
def endD : Out → Option D
  | .rt d => some d
  | .nx _ => some .non
  | _ => none
/-- a def's value: k parameters, m slots -/
def evF (Z : Sm) (b : List S) (k m : Nat) (ds : List D) : Option D := if ds.length = k then (evSs Z b (startD m ds)).bind endD else none
/-- an __init__'s value: the instance (class c) that it makes -/
def evI0 (c : Str) (Z : Sm) (b : List S) (k m : Nat) (ds : List D) : Option D := if ds.length + 1 = k then (evSs Z b (.o (.ins c [] []) :: startD (m - 1) ds)).bind fun o => match o with
  | .nx (.o d :: _) => some d
  | _ => none
  else none
end Pv

set_option Elab.async false
set_option linter.all false
set_option maxRecDepth 100000
set_option maxHeartbeats 4000000

namespace Pv
open PySem PySem.Spec L2

/-! ### what may be run: readings chosen where they are used -/
def TU (X : Cx) (e : Expr) : TE := fun σ H Q => ∃ t, PE X e t ∧ t σ H Q
def TUt (X : Cx) (e : Expr) : TT := fun σ H Q => ∃ t, PT X e t ∧ t σ H Q
def TUw (X : Cx) (e : Expr) : TT := fun σ H Q => ∃ t, PW X e t ∧ t σ H Q
def TUa (X : Cx) (es : List Expr) : TA := fun σ H Q => ∃ t, PA X es t ∧ t σ H Q
def TUi (X : Cx) (tg e : Expr) : TI := fun σ H R => ∃ t, PI X tg e t ∧ t σ H R
def TUg (X : Cx) (tg : Expr) : TG := fun v σ H Q => ∃ t, PG X tg t ∧ t v σ H Q
def TUgs (X : Cx) (tgs : List Expr) : TGs := fun vs σ H Q => ∃ t, PGs X tgs t ∧ t vs σ H Q
def TUts (X : Cx) (es : List Expr) : TT := fun σ H Q => ∃ t, PTs X es t ∧ t σ H Q
def TUs (X : Cx) (s : Stmt) : TS := fun D σ H => ∃ t, PS X s t ∧ t D σ H
def TUss (X : Cx) (s : List Stmt) : TS := fun D σ H => ∃ t, PSs X s t ∧ t D σ H
section
variable {X : Cx}
theorem pe_tu {e : Expr} : PE X e (TU X e) := ⟨fun pins s σ H Q I ⟨_, p, h⟩ => p.run pins s σ H Q I h⟩
theorem pt_tu {e : Expr} : PT X e (TUt X e) := ⟨fun pins s σ H Q I ⟨_, p, h⟩ => p.run pins s σ H Q I h⟩
theorem pw_tu {e : Expr} : PW X e (TUw X e) := ⟨fun w pins s σ H Q I ⟨_, p, h⟩ => p.run w pins s σ H Q I h⟩
theorem pa_tu {e : List Expr} : PA X e (TUa X e) := ⟨fun pos pins s σ H Q I ⟨_, p, h⟩ => p.run pos pins s σ H Q I h⟩
theorem pi_tu {tg e : Expr} : PI X tg e (TUi X tg e) := ⟨fun pins s σ H R I ⟨_, p, h⟩ => p.run pins s σ H R I h⟩
theorem pg_tu {e : Expr} : PG X e (TUg X e) := ⟨fun pins s σ H v u Q I r ⟨_, p, h⟩ => p.run pins s σ H v u Q I r h⟩
theorem pgs_tu {e : List Expr} : PGs X e (TUgs X e) := ⟨fun pins s σ H v u Q I r ⟨_, p, h⟩ => p.run pins s σ H v u Q I r h⟩
theorem pts_tu {e : List Expr} : PTs X e (TUts X e) := ⟨fun pins s σ H Q I ⟨_, p, h⟩ => p.run pins s σ H Q I h⟩
theorem ps_tu {e : Stmt} : PS X e (TUs X e) := ⟨fun pins s σ H D I ⟨_, p, h⟩ => p.run pins s σ H D I h⟩
theorem pss_tu {e : List Stmt} : PSs X e (TUss X e) := ⟨fun pins s σ H D I ⟨_, p, h⟩ => p.run pins s σ H D I h⟩
def UOp (X : Cx) (f : Value → Value → Sem Value) : R2 := fun x y H Q => ∃ r, OpR X f r ∧ r x y H Q
theorem opR_u {f : Value → Value → Sem Value} : OpR X f (UOp X f) := fun pins s σ H x y v u Q I rx ry ⟨_, p, h⟩ => p pins s σ H x y v u Q I rx ry h
def UIx (X : Cx) : R2 := fun x y H Q => ∃ r, IxR X r ∧ r x y H Q
theorem ixR_u : IxR X (UIx X) := fun value slice pins s σ H x y v u Q I rx ry ⟨_, p, h⟩ e => p value slice pins s σ H x y v u Q I rx ry h e
def UCall (X : Cx) (f : Value) : List V → Hp → VK → Prop := fun xs H Q => ∃ r, CallR X f r ∧ r xs H Q
theorem callR_u {f : Value} : CallR X f (UCall X f) := fun pins s σ H xs us Q I r ⟨_, p, h⟩ => p pins s σ H xs us Q I r h
def USl (X : Cx) : V → Option Int → Option Int → Hp → VK → Prop := fun x l h H Q => ∃ r, SlR X r ∧ r x l h H Q
theorem slR_u : SlR X (USl X) := fun pins s σ H x v vl vu lo hi sl Q I rx hs pl pu ⟨_, p, h⟩ => p pins s σ H x v vl vu lo hi sl Q I rx hs pl pu h
end

/-! ### what stands fast -/
structure Stat where
  N : List Str
  Z : Sm
  fns : List (Nat × Str)
  cns : List (Nat × Str)
  bl : List Str
  gcd : Bool
  lv : Nat
  /-- calls by keywords alone: callee, its name, the keywords, the places of the parameters among them -/
  kws : List (Nat × Str × List Str × List Nat) := []
  /-- classes made -/
  mks : List (Nat × Str) := []
  /-- defs that are keys of a sort -/
  srts : List (Nat × Str) := []
def spF (K : PySem.W.Frag) (F : List D → Option D) : Sp := fun vs H Q _ => ∃ ds d G, Sub G H ∧ DenL K G ds vs ∧ F ds = some d ∧
  ∀ v G' H', Sub H H' → Sub G G' → Sub G' H' → (∀ a o, H a = some o → G' a = G a) → Den K G' d v → Q v H'
structure FnAt (P : Program) (w : World) (K : PySem.W.Frag) (mg : Str → Option Value) (base : Heap) (lv : Nat) (x : Str) (F : List D → Option D) : Prop where
  ex : ∃ (f : Addr) (fd : FuncData) (ps : List Str), mg x = some (.ref f) ∧ PySem.W.keepIn K (.ref f) = true ∧ Binds K fd ps [] ∧ FnOk P w K mg base CX0 lv f fd ps (spF K F)
/-- the promise of an __init__ of the class c: from data to the instance -/
def spI (K : PySem.W.Frag) (c : Str) (F : List D → Option D) : Sp := fun vs H Q _ => ∃ x C dx us ds ns fs G, vs = .ref x :: us ∧ H x = some (.ins C dx []) ∧ PySem.W.nsIn K mainGlobals c = some (some (.ref C)) ∧ Sub G H ∧ G x = none ∧ DenL K G ds us ∧ F ds = some (.ins c ns fs) ∧
  ∀ o G' H', (∀ a u, a ≠ x → H a = some u → H' a = some u) → H' x = some o → Sub G G' → Sub G' H' → (∀ a u, a ≠ x → H a = some u → G' a = G a) → G' x = some o → DenO K G' (.ins c ns fs) o → Q .non H'
structure MtAt (P : Program) (w : World) (K : PySem.W.Frag) (mg : Str → Option Value) (base : Heap) (lv : Nat) (c m : Str) (F : List D → Option D) : Prop where
  ex : ∃ (C f : Addr) (fd : FuncData) (ps : List Str), PySem.W.nsIn K mainGlobals c = some (some (.ref C)) ∧ Cls K C ∧ Meth K C m f ∧ Binds K fd ps [] ∧ FnOk P w K mg base CX0 lv f fd ps (spF K F)
structure PrAt (P : Program) (w : World) (K : PySem.W.Frag) (mg : Str → Option Value) (base : Heap) (lv : Nat) (c m : Str) (F : List D → Option D) : Prop where
  ex : ∃ (C p f : Addr) (fd : FuncData) (ps : List Str) (k : Nat), k + 1 ≤ lv ∧ PySem.W.nsIn K mainGlobals c = some (some (.ref C)) ∧ Cls K C ∧ PropOf K C m p f ∧ Binds K fd ps [] ∧ FnOk P w K mg base CX0 k f fd ps (spF K F)
structure MkAt (P : Program) (w : World) (K : PySem.W.Frag) (mg : Str → Option Value) (base : Heap) (lv : Nat) (c : Str) (F : List D → Option D) : Prop where
  ex : ∃ (C f : Addr) (fd : FuncData) (ps : List Str) (k : Nat), k + 1 ≤ lv ∧ PySem.W.nsIn K mainGlobals c = some (some (.ref C)) ∧ mg c = some (.ref C) ∧ Mk K C f ∧ Binds K fd ps [] ∧ FnOk P w K mg base CX0 k f fd ps (spI K c F) ∧ ∀ ds d, F ds = some d → ∃ ns fs, d = .ins c ns fs
structure KwAt (P : Program) (w : World) (K : PySem.W.Frag) (mg : Str → Option Value) (base : Heap) (lv : Nat) (x : Str) (ks : List Str) (perm : List Nat) (F : List D → Option D) : Prop where
  ex : ∃ (f : Addr) (fd : FuncData) (ps : List Str) (g : List Value → List Value → List Value) (gV : List V → List V → List V), mg x = some (.ref f) ∧ PySem.W.keepIn K (.ref f) = true ∧ KBn K fd ps 0 ks g gV ∧ (∀ zs, gV [] zs = perm.filterMap (zs[·]?)) ∧ FnOk P w K mg base CX0 lv f fd ps (spF K F)
structure SrtAt (P : Program) (w : World) (K : PySem.W.Frag) (mg : Str → Option Value) (base : Heap) (lv : Nat) (x : Str) (F : List D → Option D) : Prop where
  ex : ∃ (f : Addr) (fd : FuncData) (p : Str) (k : Nat), k + 2 ≤ lv ∧ mg x = some (.ref f) ∧ Binds K fd [p] [] ∧ FnOk P w K mg base CX0 k f fd [p] (spF K F)
structure FdAt (K : PySem.W.Frag) (c f : Str) : Prop where
  ex : ∃ C, PySem.W.nsIn K mainGlobals c = some (some (.ref C)) ∧ Cls K C ∧ NoAttr K C f
/-- an own class, no built-in type among its bases but object -/
structure ClAt (K : PySem.W.Frag) (c : Str) : Prop where
  ex : ∃ C, PySem.W.nsIn K mainGlobals c = some (some (.ref C)) ∧ Cls K C ∧ PySem.W.findIn K (.ref C) "__class__" = some (some (.builtin "object.__class__")) ∧ PySem.W.specialIn K (.builtin "object.__class__") "__get__" = some (some (.builtin "getset_descriptor.__get__")) ∧
    PySem.W.takesIn K (.builtin "object.__class__") = some true ∧ PySem.W.mroIn K C (.type "object") = some true ∧ PySem.W.kitOne K (.ref C) (.type "int") = some false ∧ PySem.W.kitOne K (.ref C) (.type "bool") = some false ∧ PySem.W.kitOne K (.ref C) (.type "str") = some false ∧
    PySem.W.kitOne K (.ref C) (.type "tuple") = some false ∧ PySem.W.kitOne K (.ref C) (.type "list") = some false ∧ PySem.W.kitOne K (.ref C) (.type "dict") = some false
structure XOk (Y : Stat) (sc : Scope) (fc : Str → Bool) (X : Cx) : Prop where
  calm : X.calm = true
  nd : X.N.Nodup
  eN : X.N = Y.N
  sc : X.env.scope = sc
  room : Room Y.lv X.A
  xe : X.xe = fun _ _ => False
  fn : ∀ x, fc x = true → X.fn x = true
  fns : ∀ i x, (i, x) ∈ Y.fns → FnAt X.prog X.w X.K X.mg X.base Y.lv x (Y.Z.F i)
  cns : ∀ k x, (k, x) ∈ Y.cns → ∃ u v d, X.mg x = some u ∧ RelV v u ∧ Y.Z.C k = some d ∧ ∀ G, Den X.K G d v
  bl : ∀ x ∈ Y.bl, X.mg x = none
  gcd : Y.gcd = true → X.mg "gcd" = some (.builtin "math.gcd")
  fld : ∀ c f, (c, f) ∈ Y.Z.L → FdAt X.K c f
  mth : ∀ c m k, findM Y.Z.M c m = some k → MtAt X.prog X.w X.K X.mg X.base Y.lv c m (Y.Z.F k)
  prp : ∀ c m k, findM Y.Z.P c m = some k → PrAt X.prog X.w X.K X.mg X.base Y.lv c m (Y.Z.F k)
  mks : ∀ k c, (k, c) ∈ Y.mks → MkAt X.prog X.w X.K X.mg X.base Y.lv c (Y.Z.F k)
  cl : ∀ c ∈ Y.Z.K, ClAt X.K c
  srts : ∀ k x, (k, x) ∈ Y.srts → SrtAt X.prog X.w X.K X.mg X.base Y.lv x (Y.Z.F k)
  kws : ∀ k x ks perm, (k, x, ks, perm) ∈ Y.kws → KwAt X.prog X.w X.K X.mg X.base Y.lv x ks perm (Y.Z.F k)
section
variable {Y : Stat} {sc : Scope} {fc : Str → Bool} {X : Cx}
theorem XOk.gl (ok : XOk Y sc fc X) {x : Str} (h : sc.names.lookup x = some .globalImplicit) : Gl X x := by
  show X.env.scope.names.lookup x = _
  rw [ok.sc]; exact h
theorem XOk.vis (ok : XOk Y sc fc X) {x : Str} (h : Vis sc x) : Vis X.env.scope x := by rw [ok.sc]; exact h
theorem XOk.loc (ok : XOk Y sc fc X) {x : Str} (h : Loc sc x) : Loc X.env.scope x := by rw [ok.sc]; exact h
theorem XOk.hf (ok : XOk Y sc fc X) {x : Str} (h : (fc x || decide (sc.names.lookup x = some .local)) = true) : X.fn x = true ∨ X.env.scope.names.lookup x = some .local := by
  rw [Bool.or_eq_true, decide_eq_true_eq] at h
  rcases h with h | h
  · exact .inl (ok.fn x h)
  · right; rw [ok.sc]; exact h
theorem XOk.never (ok : XOk Y sc fc X) : PassesOwn (model X.prog X.w) X.A X.env X.xe := by
  rw [ok.xe]; exact PassesOwn.never
theorem XOk.blk (ok : XOk Y sc fc X) {s : Shared} {H : Hp} {scope : Scope} {cl : List (Str × Addr)} {C : Addr} {fp : List Addr} :
    XOk Y (relS scope sc) (fun x => scope.names.lookup x == some .cell) (X.blk s H scope (compEnvC scope cl C X.env) fp) := by
  refine ⟨ok.calm, ok.nd, ok.eN, ?_, ok.room, rfl, fun x h => h, ok.fns, ok.cns, ok.bl, ok.gcd, ok.fld, ok.mth, ok.prp, ok.mks, ok.cl, ok.srts, ok.kws⟩
  show relS scope X.env.scope = relS scope sc
  rw [ok.sc]
end

/-! ### the judgements -/
section
variable (K : PySem.W.Frag) (H0 G0 G W : Hp)
def EQ (d : D) (Q : VK) : Prop := ∀ v G' H', Sub G G' → Wd H0 G0 G' W H' → Den K G' d v → Q v H'
def BQ (b : Bool) (Q : Bool → Hp → Prop) : Prop := ∀ G' H', Sub G G' → Wd H0 G0 G' W H' → Q b H'
def AQ (ds : List D) (Q : List V → Hp → Prop) : Prop := ∀ vs G' H', Sub G G' → Wd H0 G0 G' W H' → DenL K G' ds vs → Q vs H'
end
section
variable (Y : Stat) (sc : Scope) (fc : Str → Bool)
structure SE (e : Expr) (f : List Sl → Option D) : Prop where
  run : ∀ X, XOk Y sc fc X → ∀ H0 G0 G W H τ σ d, Wd H0 G0 G W H → SlOk X.K G W τ σ → f τ = some d → ∀ Q, EQ X.K H0 G0 G W d Q → TU X e σ H Q
structure ST (e : Expr) (f : List Sl → Option Bool) : Prop where
  run : ∀ X, XOk Y sc fc X → ∀ H0 G0 G W H τ σ b, Wd H0 G0 G W H → SlOk X.K G W τ σ → f τ = some b → ∀ Q, BQ H0 G0 G W b Q → TUt X e σ H Q
structure SW (e : Expr) (f : List Sl → Option Bool) : Prop where
  run : ∀ X, XOk Y sc fc X → ∀ H0 G0 G W H τ σ b, Wd H0 G0 G W H → SlOk X.K G W τ σ → f τ = some b → ∀ Q, BQ H0 G0 G W b Q → TUw X e σ H Q
structure SA (es : List Expr) (f : List Sl → Option (List D)) : Prop where
  run : ∀ X, XOk Y sc fc X → ∀ H0 G0 G W H τ σ ds, Wd H0 G0 G W H → SlOk X.K G W τ σ → f τ = some ds → ∀ Q, AQ X.K H0 G0 G W ds Q → TUa X es σ H Q
structure SI (tg e : Expr) (f : List Sl → Option (List D)) : Prop where
  run : ∀ X, XOk Y sc fc X → ∀ H0 G0 G W H τ σ ds, Wd H0 G0 G W H → SlOk X.K G W τ σ → f τ = some ds → ∀ R : L2.It → Hp → Prop,
    (∀ J n Gp Yp G' H', Sub G G' → Wd H0 G0 G' W H' → Walk J n Gp Yp → n = ds.length → (∀ H'', Sub G' H'' → Gp H'') →
      (∀ i H1 x H2 G1 W1, i < n → Sub G' G1 → Wd H0 G0 G1 W1 H1 → Yp i H1 x H2 → ∃ G2 d, Sub G1 G2 ∧ Wd H0 G0 G2 W1 H2 ∧ ds[i]? = some d ∧ Den X.K G2 d x) → R J H') → TUi X tg e σ H R
def tixs : T → List Nat
  | .nm i => [i]
  | .tp is => is
structure SG (tg : Expr) (t : T) : Prop where
  run : ∀ X, XOk Y sc fc X → ∀ H0 G0 G W H τ σ d v τ', Wd H0 G0 G W H → SlOk X.K G W τ σ → Den X.K G d v → setT t d τ = some τ' → ∀ Q : L2.St → Hp → Prop,
    (∀ σ', SlOk X.K G W τ' σ' → (∀ vs, (∀ i ∈ tixs t, i ∈ vs) → wipe σ' vs = wipe σ vs) → Q σ' H) → TUg X tg v σ H Q
def OQ (K : PySem.W.Frag) (H0 G0 G : Hp) (o : Out) (D : Ends) : Prop := match o with
  | .nx τ => ∀ σ G' W' H', Sub G G' → Wd H0 G0 G' W' H' → SlOk K G' W' τ σ → D.nx σ H'
  | .bk τ => ∀ σ G' W' H', Sub G G' → Wd H0 G0 G' W' H' → SlOk K G' W' τ σ → D.bk σ H'
  | .ct τ => ∀ σ G' W' H', Sub G G' → Wd H0 G0 G' W' H' → SlOk K G' W' τ σ → D.ct σ H'
  | .rt d => ∀ v G' W' H', Sub G G' → Wd H0 G0 G' W' H' → Den K G' d v → D.rt v H'
structure SS (s : Stmt) (f : List Sl → Option Out) : Prop where
  run : ∀ X, XOk Y sc fc X → ∀ H0 G0 G W H τ σ o, Wd H0 G0 G W H → SlOk X.K G W τ σ → f τ = some o → ∀ D, OQ X.K H0 G0 G o D → TUs X s D σ H
structure SSs (s : List Stmt) (f : List Sl → Option Out) : Prop where
  run : ∀ X, XOk Y sc fc X → ∀ H0 G0 G W H τ σ o, Wd H0 G0 G W H → SlOk X.K G W τ σ → f τ = some o → ∀ D, OQ X.K H0 G0 G o D → TUss X s D σ H
end

/-! ### syntax -/
def notStar : Expr → Bool
  | .Starred .. => false
  | _ => true
def notComp : Expr → Bool
  | .ListComp .. => false | .SetComp .. => false | .DictComp .. => false
  | _ => true
def notSet : Expr → Bool
  | .Set .. => false
  | _ => true
def notSlice : Expr → Bool
  | .Slice .. => false
  | _ => true
/-- its test is its value's truth -/
def plainTest : Expr → Bool
  | .UnaryOp .. => false | .BoolOp .. => false | .IfExp .. => false | .Compare .. => false
  | _ => true
theorem star_cons {e : Expr} {es : List Expr} {env : Env} (h : notStar e = true) : starEach (e :: es) env = (false, eval e env) :: starEach es env := by
  cases e <;> first | rfl | simp [notStar] at h
theorem star_any {env : Env} {pos : Pos} : ∀ {es : List Expr}, es.all notStar = true → (backTo pos (starEach es env)).any (·.1) = false
  | [], _ => rfl
  | e :: es, h => by
    simp only [List.all_cons, Bool.and_eq_true] at h
    rw [star_cons h.1]
    have := star_any (env := env) (pos := pos) h.2
    simpa [backTo] using this
theorem swaps_no {e : Expr} {t : Option Expr} {l : Nat} {env : Env} (h : notComp e = true) : swapsWith e t l env = pure false := by
  cases e <;> first | rfl | simp [notComp] at h
theorem behind_no {op : CmpOp} {e : Expr} (h : notSet e = true) : behindInMarks op e = false := by
  cases e <;> first | rfl | simp [notSet] at h
theorem folded_no {e : Expr} {env : Env} (h : notSet e = true) (x : Value) : foldedSetIterable e env x = pure x := by
  cases e <;> first | rfl | simp [notSet] at h
theorem plainIx_of {e : Expr} (h : notSlice e = true) : PlainIx e := by
  intro o i
  cases e <;> first | rfl | simp [notSlice] at h
theorem isTrue_of {e : Expr} {env : Env} (h : plainTest e = true) : ∀ whole, isTrue e env whole = (do let v ← whole; standAt e.pos; holding [v] (truthy v)) := by
  intro whole
  cases e <;> first | rfl | simp [plainTest] at h
end Pv

set_option Elab.async false
set_option linter.all false
set_option maxRecDepth 100000
set_option maxHeartbeats 4000000

namespace Pv
open PySem PySem.Spec L2

theorem mkS_len (x : List Nat) : (mkS x).length = x.length := by simp [Str.length]
theorem mkS_app (x y : List Nat) : mkS x ++ mkS y = mkS (x ++ y) := by
  show Str.append _ _ = _
  unfold Str.append
  simp
theorem line_eq : line = sizeLine := sizeLine_eq.symm
theorem le_line {n : Nat} (h : n ≤ line) : n ≤ sizeLine := by rw [← line_eq]; exact h
theorem lt_line {n : Nat} (h : n < line) : n < sizeLine := by rw [← line_eq]; exact h

def opB : BO → Operator
  | .add => .Add | .sub => .Sub | .mul => .Mult | .fdiv => .FloorDiv | .mod => .Mod | .pow => .Pow
def opC : CO → CmpOp
  | .lt => .Lt | .le => .LtE | .gt => .Gt | .ge => .GtE | .eq => .Eq | .ne => .NotEq | .is => .Is | .isnot => .IsNot | .isin => .In | .notin => .NotIn
def CDivA (_ j : Int) : Prop := j ≠ 0 ∧ j.natAbs.log2 < 9000
theorem op_fdivA {X : Cx} : OpR X (binaryOp .FloorDiv) (rI CDivA fun i j => .int (i.fdiv j)) := opI fun i j _ _ _ _ _ hc q => PyProof.Rows.floordiv_int hc.1 q (.inl (PyProof.noPylong_of_log2 hc.2))

theorem repOk_of {n : Nat} {k : Int} (h : repOk n k = true) : -(2 ^ 62) ≤ k ∧ k < 2 ^ 62 ∧ n * k.toNat ≤ line := by simpa [repOk, and_assoc] using h
theorem DenL.rep {K : PySem.W.Frag} {G : Hp} {ds : List D} {vs : List V} (h : DenL K G ds vs) : ∀ n : Nat, DenL K G (List.replicate n ds).flatten (List.replicate n vs).flatten
  | 0 => by simp only [List.replicate_zero, List.flatten_nil, DenL]
  | n + 1 => by
    rw [List.replicate_succ, List.replicate_succ, List.flatten_cons, List.flatten_cons]
    exact h.append (DenL.rep h n)
theorem fold_app {α : Type} (x : Array α) : ∀ (n : Nat) (a : Array α), ((List.replicate n x).foldl (· ++ ·) a).toList = a.toList ++ (List.replicate n x.toList).flatten
  | 0, a => by simp
  | n + 1, a => by
    rw [List.replicate_succ, List.foldl_cons, fold_app x n, List.replicate_succ, List.flatten_cons]
    simp
/-- text * int -/
theorem op_repS {X : Cx} : OpR X (binaryOp .Mult) (fun x y H Q => ∃ (a : List Nat) (k : Int), x = .str (mkS a) ∧ y = .int k ∧ -(2 ^ 62) ≤ k ∧ k < 2 ^ 62 ∧ a.length * k.toNat ≤ line ∧ Q (.str (mkS (List.replicate k.toNat a).flatten)) H) := by
  intro pins s σ H x y v u Q I rx ry h
  obtain ⟨a, k, rfl, rfl, h1, h2, h3, q⟩ := h
  obtain ⟨t, rfl⟩ := rx
  obtain ⟨t', rfl⟩ := ry
  have hl3 : (mkS a).length * k.toNat ≤ sizeLine := le_line (by rw [mkS_len]; exact h3)
  have hz := sizeLine_eq
  have hb : ¬ k < 1 → (k == 1 || (mkS a).length == 0) = false → ¬ (((mkS a).length : Int) > (2 ^ 63 - 1) / k) := by
    intro hk hz'
    have e1 : (mkS a).length ≤ (mkS a).length * k.toNat := Nat.le_mul_of_pos_right _ (by omega)
    have e2 : k.toNat ≤ (mkS a).length * k.toNat := Nat.le_mul_of_pos_left _ (by
      rw [Bool.or_eq_false_iff] at hz'
      have := hz'.2
      simp at this
      omega)
    intro hgt
    have h6 : k ≤ 16777216 := by omega
    have h7 : (2 ^ 63 - 1 : Int) / 16777216 ≤ (2 ^ 63 - 1) / k := by
      have e8 : (2 ^ 63 - 1 : Int) / 16777216 * 16777216 ≤ 2 ^ 63 - 1 := by decide
      rw [Int.le_ediv_iff_mul_le (by omega)]
      exact Int.le_trans (Int.mul_le_mul_of_nonneg_left h6 (by decide)) e8
    omega
  refine PySem.P.mul_str (by rw [decide_eq_false (by omega), decide_eq_false (by omega)]; rfl) hb (fun _ _ => by
      exact decide_eq_false (by omega)) ?_
  by_cases hk : k < 1
  · rw [if_pos hk]
    have e : k.toNat = 0 := by omega
    have e2 : mkS (List.replicate k.toNat a).flatten = Str.empty := by rw [e]; rfl
    rw [e2] at q
    exact ⟨by decide, .str Str.empty, H, I.tok _, ⟨_, rfl⟩, q⟩
  · rw [if_neg hk]
    by_cases hc : (k == 1 || (mkS a).length == 0) = true
    · rw [if_pos hc]
      refine ⟨.str (mkS (List.replicate k.toNat a).flatten), H, I, ⟨t, ?_⟩, q⟩
      rw [Bool.or_eq_true] at hc
      rcases hc with hc | hc
      · have e : k = 1 := by simpa using hc
        subst e
        simp
      · have e : a = [] := by
          have : (mkS a).length = 0 := by simpa using hc
          rw [mkS_len] at this
          exact List.eq_nil_of_length_eq_zero this
        subst e
        simp
    · rw [if_neg hc]
      have e : (⟨(List.replicate k.toNat (mkS a).cps).foldl (· ++ ·) #[]⟩ : Str) = mkS (List.replicate k.toNat a).flatten := by
        congr 1
        apply Array.ext'
        rw [fold_app]
        simp
      rw [e]
      exact ⟨le_line (by rw [mkS_len]; simpa [Nat.mul_comm] using h3), .str (mkS (List.replicate k.toNat a).flatten), H, I.tok _, ⟨_, rfl⟩, q⟩
section
variable {X : Cx} {K : PySem.W.Frag} {H0 G0 G W H : Hp}
theorem EQ.here {d : D} {Q : VK} {v : V} (q : EQ K H0 G0 G W d Q) (w : Wd H0 G0 G W H) (h : Den K G d v) : Q v H := q v G H (Sub.refl G) w h
theorem EQ.new {d : D} {Q : VK} {o : HO} (q : EQ K H0 G0 G W d Q) (w : Wd H0 G0 G W H) (h : ∀ p, Den K (upd G p o) d (.ref p)) : ∀ p, H p = none → Q (.ref p) (upd H p o) := fun p hp =>
  q _ _ _ (sub_upd (w.gnone hp)) (w.new hp) (h p)

theorem bin_run {o : BO} {x y d : D} {v u : V} {Q : VK} (h : binD o x y = some d) (hx : Den X.K G x v) (hy : Den X.K G y u) (w : Wd H0 G0 G W H) (q : EQ X.K H0 G0 G W d Q) : UOp X (binaryOp (opB o)) v u H Q := by
  unfold binD at h
  split at h
  · simp only [Den] at hx hy
    subst hx hy
    cases h
    exact ⟨_, op_add, _, _, rfl, rfl, q.here w (by simp only [Den])⟩
  · rename_i a b
    simp only [Den] at hx hy
    subst hx hy
    split at h
    · rename_i hl
      cases h
      refine ⟨_, op_add_str, _, _, rfl, rfl, le_line (by rw [mkS_len, mkS_len]; exact hl), q.here w ?_⟩
      simp only [Den]
      rw [mkS_app]
    · cases h
  · rename_i a b
    simp only [Den] at hx hy
    obtain ⟨p, vs, e1, hp, hvs⟩ := hx
    obtain ⟨p', vs', e2, hp', hvs'⟩ := hy
    subst e1 e2
    split at h
    · rename_i hl
      cases h
      refine ⟨_, op_cat, p, p', vs, vs', rfl, rfl, w.gh _ _ hp, w.gh _ _ hp', le_line (by rw [← hvs.length, ← hvs'.length]; exact hl), ?_⟩
      intro z hz
      refine q _ _ _ (sub_upd (w.gnone hz)) (w.new hz) ?_
      simp only [Den]
      exact ⟨z, _, rfl, upd_same, (hvs.append hvs').mono (sub_upd (w.gnone hz))⟩
    · cases h
  · rename_i a b
    simp only [Den] at hx hy
    obtain ⟨p, vs, e1, hp, hvs⟩ := hx
    obtain ⟨p', vs', e2, hp', hvs'⟩ := hy
    subst e1 e2
    split at h
    · rename_i hl
      cases h
      refine ⟨_, op_catA, p, p', vs, vs', rfl, rfl, sub_t w.gh hp, sub_t w.gh hp', le_line (by rw [← hvs.length, ← hvs'.length]; exact hl), fun e => ?_, fun _ e => ?_, fun _ _ z hz => ?_⟩
      · refine q.here w ?_
        subst e
        have : a = [] := List.eq_nil_of_length_eq_zero (by rw [hvs.length]; rfl)
        subst this
        simp only [Den, List.nil_append]
        exact ⟨_, _, rfl, hp', hvs'⟩
      · refine q.here w ?_
        subst e
        have : b = [] := List.eq_nil_of_length_eq_zero (by rw [hvs'.length]; rfl)
        subst this
        simp only [Den, List.append_nil]
        exact ⟨_, _, rfl, hp, hvs⟩
      · refine q _ _ _ (sub_upd (w.gnone hz)) (w.new hz) ?_
        simp only [Den]
        exact ⟨z, _, rfl, SqT.of upd_same, (hvs.append hvs').mono (sub_upd (w.gnone hz))⟩
    · cases h
  · rename_i a k
    simp only [Den] at hx hy
    obtain ⟨p, vs, e1, hp, hvs⟩ := hx
    subst e1 hy
    split at h
    · rename_i hl
      cases h
      obtain ⟨r1, r2, r3⟩ := repOk_of hl
      refine ⟨_, op_rep, p, k, vs, rfl, rfl, w.gh _ _ hp, by omega, by omega, le_line (by rw [← hvs.length]; exact r3), ?_⟩
      intro z hz
      refine q _ _ _ (sub_upd (w.gnone hz)) (w.new hz) ?_
      simp only [Den]
      exact ⟨z, _, rfl, upd_same, (hvs.rep _).mono (sub_upd (w.gnone hz))⟩
    · cases h
  · rename_i a k
    simp only [Den] at hx hy
    subst hx hy
    split at h
    · rename_i hl
      cases h
      obtain ⟨r1, r2, r3⟩ := repOk_of hl
      exact ⟨_, op_repS, a, k, rfl, rfl, r1, r2, r3, q.here w (by simp only [Den])⟩
    · cases h
  · simp only [Den] at hx hy
    subst hx hy
    cases h
    exact ⟨_, op_sub, _, _, rfl, rfl, q.here w (by simp only [Den])⟩
  · simp only [Den] at hx hy
    subst hx hy
    split at h
    · rename_i hl
      cases h
      exact ⟨_, op_mulW, _, _, rfl, rfl, by simpa [mulOk, CMulW] using hl, q.here w (by simp only [Den])⟩
    · cases h
  · simp only [Den] at hx hy
    subst hx hy
    split at h
    · rename_i hl
      cases h
      exact ⟨_, op_fdivA, _, _, rfl, rfl, by simpa [divOk, CDivA] using hl, q.here w (by simp only [Den])⟩
    · cases h
  · simp only [Den] at hx hy
    subst hx hy
    split at h
    · rename_i hl
      cases h
      exact ⟨_, op_modN, _, _, rfl, rfl, hl, q.here w (by simp only [Den])⟩
    · cases h
  · simp only [Den] at hx hy
    subst hx hy
    split at h
    · rename_i hl
      cases h
      refine ⟨_, op_pow, _, _, rfl, rfl, ?_, q.here w (by simp only [Den])⟩
      simpa [powOk, CPow, and_assoc] using hl
    · cases h
  · cases h

/-! ### comparing -/
theorem mkS_eq {x y : List Nat} : (mkS x = mkS y) ↔ x = y := by
  constructor
  · intro h
    have := congrArg (fun s : Str => s.cps.toList) h
    simpa using this
  · intro h; rw [h]
theorem eqb_str (x y : List Nat) : D.eqb (.str x) (.str y) = decide (x = y) := by
  simp only [D.eqb, D.toP, PyData.eqv]
  by_cases e : x = y
  · subst e; simp
  · rw [decide_eq_false e]
    exact beq_eq_false_iff_ne.mpr fun z => e (mkS_eq.mp z)
theorem scal_run {x y : D} {v u : V} (h : scalD x y = true) (hx : Den K G x v) (hy : Den K G y u) : scal v u = true ∧ decide (v = u) = D.eqb x y := by
  cases x <;> cases y <;> first
    | (simp only [Den] at hx hy; subst hx hy; exact ⟨rfl, by first | (simp [D.eqb, D.toP, PyData.eqv]; done) | (rw [eqb_str]; simp) | (rw [dec_int]; rfl) | (rw [dec_bl]; rfl)⟩)
    | (simp [scalD] at h; done)
theorem shp_dp {x : D} {v : V} (h : D.shp x = true) (hx : Den K G x v) (e : Sub G H) : Dp K H v (D.toP x) ∧ SeqAt.shaped (D.toP x) = true := by
  simp only [D.shp, Bool.and_eq_true] at h
  exact ⟨dp_mono e _ (Den.dp x h.1 hx), h.2⟩
theorem flat_run {x : D} {v : V} (h : flatD x = true) (hx : Den K G x v) : flatV v = true := by
  cases x <;> first
    | (simp only [Den] at hx; subst hx; rfl)
    | (simp [flatD] at h; done)
theorem flatL_run : ∀ {xs : List D} {vs : List V}, xs.all flatD = true → DenL K G xs vs → vs.all flatV = true
  | [], _, _, h => by simp only [DenL] at h; subst h; rfl
  | x :: xs, _, f, h => by
    simp only [DenL] at h
    simp only [List.all_cons, Bool.and_eq_true] at f
    obtain ⟨v, r, e, h1, h2⟩ := h
    subst e
    simp only [List.all_cons, Bool.and_eq_true]
    exact ⟨flat_run f.1 h1, flatL_run f.2 h2⟩
theorem eqV_run {y x : D} {u v : V} (hy : Den K G y u) (hx : Den K G x v) (fy : flatD y = true) (fx : flatD x = true) : eqV u v = D.eqb y x := by
  cases y <;> cases x <;> first
    | (simp only [Den] at hx hy; subst hx hy; first | rfl | (rw [eqb_str]; show ((mkS _) == (mkS _)) = _; rw [Bool.eq_iff_iff]; simp [mkS_eq]))
    | (simp [flatD] at fx; done)
    | (simp [flatD] at fy; done)
theorem inV_run {x : D} {v : V} (hx : Den K G x v) (fx : flatD x = true) : ∀ {ys : List D} {us : List V}, ys.all flatD = true → DenL K G ys us → inV v us = ys.any fun y => D.eqb y x
  | [], _, _, h => by simp only [DenL] at h; subst h; rfl
  | y :: ys, _, f, h => by
    simp only [DenL] at h
    simp only [List.all_cons, Bool.and_eq_true] at f
    obtain ⟨u, r, e, h1, h2⟩ := h
    subst e
    have ih := inV_run hx fx f.2 h2
    unfold inV at ih ⊢
    rw [List.any_cons, List.any_cons, ih, eqV_run h1 hx f.1 fx]
theorem eq_run (hu : X.A.units + 64 < cLine) {x y : D} {v u : V} {b : Bool} {Q : VK} (h : eqD x y = some b) (hx : Den X.K G x v) (hy : Den X.K G y u) (e : Sub G H) (q : Q (.bl b) H) : UOp X (compareOp .Eq) v u H Q := by
  unfold eqD at h
  split at h
  · rename_i hs
    cases h
    rw [Bool.or_eq_true, Bool.and_eq_true] at hs
    rcases hs with hs | ⟨h1, h2⟩
    · obtain ⟨a, c⟩ := scal_run hs hx hy
      exact ⟨_, op_eq, a, by rw [c]; exact q⟩
    · obtain ⟨a1, a2⟩ := shp_dp h1 hx e
      obtain ⟨b1, b2⟩ := shp_dp h2 hy e
      exact ⟨_, op_eqD hu, _, _, a1, b1, a2, b2, q⟩
  · cases h
theorem ne_run (hu : X.A.units + 64 < cLine) {x y : D} {v u : V} {b : Bool} {Q : VK} (h : (eqD x y).map not = some b) (hx : Den X.K G x v) (hy : Den X.K G y u) (e : Sub G H) (q : Q (.bl b) H) : UOp X (compareOp .NotEq) v u H Q := by
  unfold eqD at h
  split at h
  · rename_i hs
    cases h
    rw [Bool.or_eq_true, Bool.and_eq_true] at hs
    rcases hs with hs | ⟨h1, h2⟩
    · obtain ⟨a, c⟩ := scal_run hs hx hy
      exact ⟨_, op_ne, a, by rw [c]; exact q⟩
    · obtain ⟨a1, a2⟩ := shp_dp h1 hx e
      obtain ⟨b1, b2⟩ := shp_dp h2 hy e
      exact ⟨_, op_neD hu, _, _, a1, b1, a2, b2, q⟩
  · cases h
theorem is_run {x y : D} {v u : V} {b : Bool} {Q : VK} (h : isD x y = some b) (hx : Den X.K G x v) (hy : Den X.K G y u) (q : Q (.bl b) H) : UOp X (compareOp .Is) v u H Q := by
  unfold isD at h
  split at h <;> first
    | (simp only [Den] at hx hy; subst hx hy; cases h; first
        | exact ⟨_, op_isBl, _, _, rfl, rfl, q⟩
        | exact ⟨_, op_isN, rfl, q⟩)
    | (simp only [Den] at hx hy; obtain ⟨p, vs, e1, hp, hvs⟩ := hx; subst e1 hy; cases h; exact ⟨_, op_isN, rfl, q⟩)
    | (simp only [Den] at hx hy; obtain ⟨p, C, dx, nvs, e1, hp, hvs⟩ := hx; subst e1 hy; cases h; exact ⟨_, op_isN, rfl, q⟩)
    | cases h
theorem isnot_run {x y : D} {v u : V} {b : Bool} {Q : VK} (h : (isD x y).map not = some b) (hx : Den X.K G x v) (hy : Den X.K G y u) (q : Q (.bl b) H) : UOp X (compareOp .IsNot) v u H Q := by
  unfold isD at h
  split at h <;> first
    | (simp only [Den] at hx hy; subst hx hy; cases h; first
        | exact ⟨_, op_notBl, _, _, rfl, rfl, q⟩
        | exact ⟨_, op_notN, rfl, q⟩)
    | (simp only [Den] at hx hy; obtain ⟨p, vs, e1, hp, hvs⟩ := hx; subst e1 hy; cases h; exact ⟨_, op_notN, rfl, q⟩)
    | (simp only [Den] at hx hy; obtain ⟨p, C, dx, nvs, e1, hp, hvs⟩ := hx; subst e1 hy; cases h; exact ⟨_, op_notN, rfl, q⟩)
    | cases h
theorem in_run {x y : D} {v u : V} {b : Bool} {Q : VK} (h : isInD x y = some b) (hx : Den X.K G x v) (hy : Den X.K G y u) (e : Sub G H) (q : Q (.bl b) H) : UOp X (compareOp .In) v u H Q := by
  unfold isInD at h
  split at h
  · simp only [Den] at hy
    obtain ⟨p, vs, e1, hp, hvs⟩ := hy
    unfold inD at h
    split at h
    · rename_i hf
      cases h
      rw [Bool.and_eq_true] at hf
      subst e1
      exact ⟨_, op_in_seq, p, vs, rfl, .inl (SqL.of (e _ _ hp)), flat_run hf.1 hx, flatL_run hf.2 hvs, by rw [inV_run hx hf.1 hf.2 hvs]; exact q⟩
    · cases h
  · simp only [Den] at hy
    obtain ⟨p, vs, e1, hp, hvs⟩ := hy
    unfold inD at h
    split at h
    · rename_i hf
      cases h
      rw [Bool.and_eq_true] at hf
      subst e1
      exact ⟨_, op_in_seq, p, vs, rfl, .inr (sub_t e hp), flat_run hf.1 hx, flatL_run hf.2 hvs, by rw [inV_run hx hf.1 hf.2 hvs]; exact q⟩
    · cases h
  · split at h
    · simp only [Den] at hx hy
      subst hx hy
      cases h
      exact ⟨_, op_in_sign, _, _, rfl, rfl, by simpa using q⟩
    · cases h
  · cases h
theorem notin_run {x y : D} {v u : V} {b : Bool} {Q : VK} (h : (isInD x y).map not = some b) (hx : Den X.K G x v) (hy : Den X.K G y u) (e : Sub G H) (q : Q (.bl b) H) : UOp X (compareOp .NotIn) v u H Q := by
  unfold isInD at h
  split at h
  · simp only [Den] at hy
    obtain ⟨p, vs, e1, hp, hvs⟩ := hy
    unfold inD at h
    split at h
    · rename_i hf
      cases h
      rw [Bool.and_eq_true] at hf
      subst e1
      exact ⟨_, op_notIn_seq, p, vs, rfl, .inl (SqL.of (e _ _ hp)), flat_run hf.1 hx, flatL_run hf.2 hvs, by rw [inV_run hx hf.1 hf.2 hvs]; exact q⟩
    · cases h
  · simp only [Den] at hy
    obtain ⟨p, vs, e1, hp, hvs⟩ := hy
    unfold inD at h
    split at h
    · rename_i hf
      cases h
      rw [Bool.and_eq_true] at hf
      subst e1
      exact ⟨_, op_notIn_seq, p, vs, rfl, .inr (sub_t e hp), flat_run hf.1 hx, flatL_run hf.2 hvs, by rw [inV_run hx hf.1 hf.2 hvs]; exact q⟩
    · cases h
  · split at h
    · simp only [Den] at hx hy
      subst hx hy
      cases h
      exact ⟨_, op_notIn_sign, _, _, rfl, rfl, by simpa using q⟩
    · cases h
  · cases h
theorem cmp_run (hu : X.A.units + 64 < cLine) {o : CO} {x y : D} {v u : V} {b : Bool} {Q : VK} (h : cmpD o x y = some b) (hx : Den X.K G x v) (hy : Den X.K G y u) (e : Sub G H) (q : Q (.bl b) H) : UOp X (compareOp (opC o)) v u H Q := by
  unfold cmpD at h
  split at h
  · simp only [Den] at hx hy
    subst hx hy
    cases h
    exact ⟨_, op_lt, _, _, rfl, rfl, q⟩
  · simp only [Den] at hx hy
    subst hx hy
    cases h
    exact ⟨_, op_le, _, _, rfl, rfl, q⟩
  · simp only [Den] at hx hy
    subst hx hy
    cases h
    exact ⟨_, op_gt, _, _, rfl, rfl, q⟩
  · simp only [Den] at hx hy
    subst hx hy
    cases h
    exact ⟨_, op_ge, _, _, rfl, rfl, q⟩
  · exact eq_run hu h hx hy e q
  · exact ne_run hu h hx hy e q
  · exact is_run h hx hy q
  · exact isnot_run h hx hy q
  · exact in_run h hx hy e q
  · exact notin_run h hx hy e q
  · cases h

/-! ### truth, places, slices -/
theorem DenL.isEmpty {xs : List D} {vs : List V} (h : DenL K G xs vs) : vs.isEmpty = xs.isEmpty := by
  cases xs with
  | nil => simp only [DenL] at h; subst h; rfl
  | cons x xs => simp only [DenL] at h; obtain ⟨v, r, e, _⟩ := h; subst e; rfl
theorem tru_run {x : D} {v : V} {b : Bool} (h : truth x = some b) (hx : Den K G x v) (e : Sub G H) : TruV K v H b := by
  unfold truth at h
  split at h
  · simp only [Den] at hx; subst hx; cases h; rfl
  · simp only [Den] at hx; subst hx; cases h; rfl
  · simp only [Den] at hx; subst hx; cases h; rfl
  · rename_i z
    split at h
    · rename_i hl
      simp only [Den] at hx
      subst hx
      cases h
      refine ⟨le_line (by rw [mkS_len]; exact hl), ?_⟩
      rw [mkS_len]
      cases z with
      | nil => rfl
      | cons a r =>
        symm
        simp only [List.isEmpty_cons, Bool.not_false, bne_iff_ne, ne_eq, List.length_cons]
        omega
    · cases h
  · simp only [Den] at hx
    obtain ⟨p, vs, e1, hp, hvs⟩ := hx
    subst e1
    cases h
    exact .inl ⟨vs, SqL.of (e _ _ hp), by rw [hvs.isEmpty]⟩
  · simp only [Den] at hx
    obtain ⟨p, vs, e1, hp, hvs⟩ := hx
    subst e1
    cases h
    exact .inr (.inl ⟨vs, sub_t e hp, by rw [hvs.isEmpty]⟩)
  · cases h
theorem atI_den {xs : List D} {vs : List V} {i : Int} {d : D} (h : DenL K G xs vs) (e : atI xs i = some d) : ∃ v, atI vs i = some v ∧ Den K G d v := by
  unfold atI at e ⊢
  rw [← h.length]
  cases hx : ixN xs.length i with
  | none => rw [hx] at e; cases e
  | some j =>
    rw [hx] at e
    exact h.get (show xs[j]? = some d from e)
theorem atI_map {α β : Type} (f : α → β) (xs : List α) (i : Int) : atI (xs.map f) i = (atI xs i).map f := by
  unfold atI
  rw [List.length_map]
  cases ixN xs.length i with
  | none => rfl
  | some j => simp [Option.bind]
theorem ix_run {x y d : D} {v u : V} {Q : VK} (h : ixD x y = some d) (hx : Den X.K G x v) (hy : Den X.K G y u) (w : Wd H0 G0 G W H) (q : EQ X.K H0 G0 G W d Q) : UIx X v u H Q := by
  unfold ixD at h
  split at h
  · simp only [Den] at hx hy
    obtain ⟨p, vs, e1, hp, hvs⟩ := hx
    subst e1 hy
    obtain ⟨z, hz, dz⟩ := atI_den hvs h
    exact ⟨_, ix_list, p, vs, _, z, rfl, rfl, SqL.of (w.gh _ _ hp), hz, q.here w dz⟩
  · rename_i ns i
    simp only [Den] at hx hy
    obtain ⟨p, e1, hp⟩ := hx
    subst e1 hy
    cases hz : atI ns i with
    | none => rw [hz] at h; cases h
    | some n =>
      rw [hz] at h
      cases h
      exact ⟨_, ix_list, p, _, _, .int n, rfl, rfl, sub_l w.gh hp, by rw [atI_map, hz]; rfl, q.here w (by simp only [Den])⟩
  · simp only [Den] at hx hy
    obtain ⟨p, vs, e1, hp, hvs⟩ := hx
    subst e1 hy
    obtain ⟨z, hz, dz⟩ := atI_den hvs h
    exact ⟨_, ix_tup, p, vs, _, z, rfl, rfl, sub_t w.gh hp, hz, q.here w dz⟩
  · rename_i z i
    split at h
    · rename_i hl
      simp only [Den] at hx hy
      subst hx hy
      cases hz : atI z i with
      | none => rw [hz] at h; cases h
      | some c =>
        rw [hz] at h
        cases h
        exact ⟨_, ix_str, mkS z, i, c, rfl, rfl, le_line (by rw [mkS_len]; exact hl), by simpa using hz, q.here w (by simp only [Den])⟩
    · cases h
  · cases h
theorem cutV_den {xs : List D} {vs : List V} {lo hi : Option Int} (h : DenL K G xs vs) : DenL K G (cutD xs lo hi) (cutV vs lo hi) := by
  unfold cutD cutV
  rw [h.length]
  exact (h.drop _).take _
theorem cut_whole {α : Type} {xs : List α} {lo hi : Option Int} (h : HT.sIx xs.length 0 lo = 0 ∧ HT.sIx xs.length xs.length hi = xs.length) : cutD xs lo hi = xs := by
  unfold cutD
  rw [h.1, h.2]
  simp
theorem sl_run {lo hi : Option Int} {x d : D} {v : V} {Q : VK} (h : slD lo hi x = some d) (hx : Den X.K G x v) (w : Wd H0 G0 G W H) (q : EQ X.K H0 G0 G W d Q) : USl X v lo hi H Q := by
  unfold slD at h
  split at h
  · simp only [Den] at hx
    obtain ⟨p, vs, e1, hp, hvs⟩ := hx
    subst e1
    cases h
    refine ⟨_, sl_list, p, vs, rfl, SqL.of (w.gh _ _ hp), fun z hz => q _ _ _ (sub_upd (w.gnone hz)) (w.new hz) ?_⟩
    simp only [Den]
    exact ⟨z, _, rfl, upd_same, (cutV_den hvs).mono (sub_upd (w.gnone hz))⟩
  · simp only [Den] at hx
    obtain ⟨p, vs, e1, hp, hvs⟩ := hx
    subst e1
    cases h
    refine ⟨_, sl_tupA, p, vs, rfl, sub_t w.gh hp, fun hw => q.here w ?_, fun _ z hz => q _ _ _ (sub_upd (w.gnone hz)) (w.new hz) ?_⟩
    · rw [← hvs.length] at hw
      rw [cut_whole hw]
      simp only [Den]
      exact ⟨_, _, rfl, hp, hvs⟩
    · simp only [Den]
      exact ⟨z, _, rfl, SqT.of upd_same, (cutV_den hvs).mono (sub_upd (w.gnone hz))⟩
  · rename_i z
    split at h
    · rename_i hl
      simp only [Den] at hx
      subst hx
      cases h
      refine ⟨_, sl_str, mkS z, rfl, le_line (by rw [mkS_len]; exact hl), q.here w ?_⟩
      simp only [Den]
      congr 1
    · cases h
  · cases h
end
end Pv

set_option Elab.async false
set_option linter.all false
set_option maxRecDepth 100000
set_option maxHeartbeats 4000000

namespace Pv
open PySem PySem.Spec L2

theorem bnd {α β : Type} {o : Option α} {f : α → Option β} {b : β} (h : o.bind f = some b) : ∃ a, o = some a ∧ f a = some b := by
  cases o with
  | none => cases h
  | some a => exact ⟨a, rfl, h⟩
theorem mpd {α β : Type} {o : Option α} {f : α → β} {b : β} (h : o.map f = some b) : ∃ a, o = some a ∧ f a = b := by
  cases o with
  | none => cases h
  | some a => exact ⟨a, rfl, Option.some.inj h⟩

/-! ### built-in functions -/
def nmF : BF → Str
  | .len => "len" | .int => "int" | .abs => "abs" | .max => "max" | .min => "min" | .gcd => "gcd" | .tuple => "tuple" | .list => "list" | .sum => "sum" | .str => "str"
def tyF : BF → Option String
  | .int => some "int" | .tuple => some "tuple" | .list => some "list" | .str => some "str" | _ => none
def idF : BF → String
  | .len => "len" | .abs => "abs" | .max => "max" | .min => "min" | .sum => "sum" | .gcd => "math.gcd" | _ => ""
def valF (f : BF) : Value := match tyF f with | some t => .type t | none => .builtin (idF f)
theorem bootF {f : BF} (h : f ≠ .gcd) : bootBuiltins (nmF f) = some (valF f) := by
  cases f <;> first | exact absurd rfl h | decide +kernel
theorem nameF {f : BF} (h : f ≠ .gcd) : nmF f ≠ "__name__" ∧ (nmF f == ("__debug__" : Str)) = false := by
  cases f <;> first | exact absurd rfl h | (constructor <;> decide +kernel)
def nmT : Ty → Str
  | .int => "int" | .bool => "bool" | .str => "str" | .tuple => "tuple" | .list => "list" | .dict => "dict"
def sT : Ty → String
  | .int => "int" | .bool => "bool" | .str => "str" | .tuple => "tuple" | .list => "list" | .dict => "dict"
theorem bootT (t : Ty) : bootBuiltins (nmT t) = some (.type (sT t)) := by cases t <;> decide +kernel
theorem nameT (t : Ty) : nmT t ≠ "__name__" ∧ (nmT t == ("__debug__" : Str)) = false := by cases t <;> (constructor <;> decide +kernel)

section
variable {X : Cx} {K : PySem.W.Frag} {H0 G0 G W H : Hp}
theorem ints_den {ns : List Int} : ∀ {xs : List D} {vs : List V}, allInts xs = some ns → DenL K G xs vs → vs = ns.map V.int := by
  induction ns with
  | nil =>
    intro xs vs h hd
    cases xs with
    | nil => simp only [DenL] at hd; subst hd; rfl
    | cons x r => cases x <;> first | (simp [allInts] at h; done) | skip
  | cons n ns ih =>
    intro xs vs h hd
    cases xs with
    | nil => simp [allInts] at h
    | cons x r =>
      cases x <;> first | (simp [allInts] at h; done) | skip
      rename_i i
      simp only [allInts] at h
      obtain ⟨a, h1, h2⟩ := mpd h
      cases h2
      simp only [DenL, Den] at hd
      obtain ⟨v, r', e, e1, e2⟩ := hd
      subst e e1
      rw [ih h1 e2]
      rfl
theorem den1 {x : D} {vs : List V} (h : DenL K G [x] vs) : ∃ v, vs = [v] ∧ Den K G x v := by
  simp only [DenL] at h
  obtain ⟨v, r, e, h1, h2⟩ := h
  subst h2
  exact ⟨v, e, h1⟩
theorem den2 {x y : D} {vs : List V} (h : DenL K G [x, y] vs) : ∃ v u, vs = [v, u] ∧ Den K G x v ∧ Den K G y u := by
  simp only [DenL] at h
  obtain ⟨v, r, e, h1, u, r', e', h2, h3⟩ := h
  subst h3 e'
  exact ⟨v, u, e, h1, h2⟩
theorem blt_run (hc : X.calm = true) {f : BF} {ds : List D} {d : D} {vs : List V} {Q : VK} (h : bltD f ds = some d) (hx : DenL X.K G ds vs) (w : Wd H0 G0 G W H) (q : EQ X.K H0 G0 G W d Q) : UCall X (valF f) vs H Q := by
  unfold bltD at h
  split at h
  · obtain ⟨v, rfl, hv⟩ := den1 hx
    simp only [Den] at hv
    obtain ⟨p, us, rfl, hp, hu⟩ := hv
    cases h
    exact ⟨_, call_len_seq, p, us, rfl, .inl (SqL.of (w.gh _ _ hp)), q.here w (by simp only [Den]; rw [hu.length])⟩
  · obtain ⟨v, rfl, hv⟩ := den1 hx
    simp only [Den] at hv
    obtain ⟨p, us, rfl, hp, hu⟩ := hv
    cases h
    exact ⟨_, call_len_seq, p, us, rfl, .inr (sub_t w.gh hp), q.here w (by simp only [Den]; rw [hu.length])⟩
  · obtain ⟨v, rfl, hv⟩ := den1 hx
    simp only [Den] at hv
    obtain ⟨p, rfl, hp⟩ := hv
    cases h
    exact ⟨_, call_len_seq, p, _, rfl, .inl (sub_l w.gh hp), q.here w (by simp only [Den]; rw [List.length_map])⟩
  · obtain ⟨v, rfl, hv⟩ := den1 hx
    simp only [Den] at hv
    subst hv
    split at h
    · rename_i hl
      cases h
      exact ⟨_, call_len_str, _, rfl, le_line (by rw [mkS_len]; exact hl), q.here w (by simp only [Den]; rw [mkS_len])⟩
    · cases h
  · obtain ⟨v, rfl, hv⟩ := den1 hx
    simp only [Den] at hv
    subst hv
    cases h
    exact ⟨_, call_int1, .inl ⟨_, rfl, q.here w (by simp only [Den])⟩⟩
  · obtain ⟨v, rfl, hv⟩ := den1 hx
    simp only [Den] at hv
    subst hv
    cases h
    exact ⟨_, call_int1, .inr ⟨_, rfl, q.here w (by simp only [Den])⟩⟩
  · obtain ⟨v, rfl, hv⟩ := den1 hx
    simp only [Den] at hv
    subst hv
    cases h
    exact ⟨_, call_abs, _, rfl, q.here w (by simp only [Den])⟩
  · obtain ⟨v, u, rfl, hv, hu⟩ := den2 hx
    simp only [Den] at hv hu
    subst hv hu
    cases h
    exact ⟨_, call_max2 hc, _, _, rfl, q.here w (by simp only [Den])⟩
  · obtain ⟨v, u, rfl, hv, hu⟩ := den2 hx
    simp only [Den] at hv hu
    subst hv hu
    cases h
    exact ⟨_, call_min2 hc, _, _, rfl, q.here w (by simp only [Den])⟩
  · obtain ⟨v, u, rfl, hv, hu⟩ := den2 hx
    simp only [Den] at hv hu
    subst hv hu
    cases h
    exact ⟨_, cr_gcd, _, _, rfl, q.here w (by simp only [Den])⟩
  · obtain ⟨v, rfl, hv⟩ := den1 hx
    simp only [Den] at hv
    obtain ⟨p, us, rfl, hp, hu⟩ := hv
    cases h
    refine ⟨_, call_tuple_of, p, us, rfl, .inl ⟨SqL.of (w.gh _ _ hp), fun z hz => q _ _ _ (sub_upd (w.gnone hz)) (w.new hz) ?_⟩⟩
    simp only [Den]
    exact ⟨z, _, rfl, SqT.of upd_same, hu.mono (sub_upd (w.gnone hz))⟩
  · obtain ⟨v, rfl, hv⟩ := den1 hx
    cases h
    have hv' := hv
    simp only [Den] at hv'
    obtain ⟨p, us, rfl, hp, hu⟩ := hv'
    exact ⟨_, call_tuple_of, p, us, rfl, .inr ⟨sub_t w.gh hp, q.here w hv⟩⟩
  · obtain ⟨v, rfl, hv⟩ := den1 hx
    simp only [Den] at hv
    obtain ⟨p, us, rfl, hp, hu⟩ := hv
    cases h
    refine ⟨_, call_list_of, p, us, rfl, .inl (SqL.of (w.gh _ _ hp)), fun z hz => q _ _ _ (sub_upd (w.gnone hz)) (w.new hz) ?_⟩
    simp only [Den]
    exact ⟨z, _, rfl, upd_same, hu.mono (sub_upd (w.gnone hz))⟩
  · obtain ⟨v, rfl, hv⟩ := den1 hx
    simp only [Den] at hv
    obtain ⟨p, us, rfl, hp, hu⟩ := hv
    cases h
    refine ⟨_, call_list_of, p, us, rfl, .inr (sub_t w.gh hp), fun z hz => q _ _ _ (sub_upd (w.gnone hz)) (w.new hz) ?_⟩
    simp only [Den]
    exact ⟨z, _, rfl, upd_same, hu.mono (sub_upd (w.gnone hz))⟩
  · obtain ⟨v, rfl, hv⟩ := den1 hx
    simp only [Den] at hv
    obtain ⟨p, us, rfl, hp, hu⟩ := hv
    obtain ⟨ns, hns, rfl⟩ := mpd h
    have e := ints_den hns hu
    subst e
    exact ⟨_, cr_sum hc, p, ns, rfl, SqL.of (w.gh _ _ hp), q.here w (by simp only [Den])⟩
  · obtain ⟨v, rfl, hv⟩ := den1 hx
    simp only [Den] at hv
    subst hv
    split at h
    · rename_i hl
      cases h
      refine ⟨_, call_str_int, _, rfl, hl, q.here w ?_⟩
      simp only [Den, intS]
    · cases h
  · cases h

/-! ### isinstance -/
def isiN (n t : Ty) : Bool := match n, t with
  | .int, .int => true | .bool, .int => true | .bool, .bool => true | .str, .str => true | .tuple, .tuple => true | .list, .list => true | .dict, .dict => true | _, _ => false
theorem kit0 (n t : Ty) : kitB (sT n) (sT t) = some (isiN n t) := by cases n <;> cases t <;> decide +kernel
theorem kit1 (x : D) (t : Ty) {n : Ty} (h : tyD x = some n) : kitB (sT n) (sT t) = some (isi1 x t) := by
  rw [kit0]
  cases x <;> simp [tyD] at h <;> subst h <;> cases t <;> rfl
theorem kitN {t : Ty} : kitB "NoneType" (sT t) = some false := by cases t <;> decide +kernel
theorem tupX {G : Hp} {a : Addr} {vs : List V} (h : SqT X.K G a vs) : TyX X.K G (.ref a) (.type "tuple") := by
  rcases h with (h | ⟨o, h⟩) | ⟨o, its, n, h1, h2, _⟩
  · exact .base (.tup h)
  · exact .fTuple h
  · exact .kTuple h1 h2
theorem isi_ty {x : D} {v : V} (hi : isIns x = false) (hx : Den X.K G x v) (e : Sub G H) : ∃ s, TyX X.K H v (.type s) ∧ ∀ t : Ty, PySem.W.kitOne X.K (.type s) (.type (sT t)) = some (isi1 x t) := by
  cases x with
  | non => simp only [Den] at hx; subst hx; exact ⟨_, .base .non, fun t => kit_ty (by rw [kitN]; cases t <;> rfl)⟩
  | bl b => simp only [Den] at hx; subst hx; exact ⟨_, .base (.bl _), fun t => kit_ty (kit1 (.bl b) t (n := .bool) rfl)⟩
  | int b => simp only [Den] at hx; subst hx; exact ⟨_, .base (.int _), fun t => kit_ty (kit1 (.int b) t (n := .int) rfl)⟩
  | str b => simp only [Den] at hx; subst hx; exact ⟨_, .base (.str _), fun t => kit_ty (kit1 (.str b) t (n := .str) rfl)⟩
  | lst b =>
    simp only [Den] at hx
    obtain ⟨p, us, rfl, hp, hu⟩ := hx
    exact ⟨_, .base (.lst (e _ _ hp)), fun t => kit_ty (kit1 (.lst b) t (n := .list) rfl)⟩
  | tup b =>
    simp only [Den] at hx
    obtain ⟨p, us, rfl, hp, hu⟩ := hx
    exact ⟨_, tupX (sub_t e hp), fun t => kit_ty (kit1 (.tup b) t (n := .tuple) rfl)⟩
  | dct a b =>
    simp only [Den] at hx
    obtain ⟨p, us, rfl, hp, hu⟩ := hx
    exact ⟨_, .base (.dK (e _ _ hp)), fun t => kit_ty (kit1 (.dct a b) t (n := .dict) rfl)⟩
  | ins a b c => simp [isIns] at hi
  | scr a => simp [isIns] at hi
/-- .. an own class's instance too -/
theorem isi_tyX {N : List Str} (hK : ∀ c ∈ N, ClAt X.K c) {x d : D} {v : V} {ts : List Ty} (h : (if isIns x then insI N x else some (.bl (ts.any (isi1 x)))) = some d) (hx : Den X.K G x v) (e : Sub G H) :
    d = .bl (ts.any (isi1 x)) ∧ ∃ ty : Value, TyX X.K H v ty ∧ ∀ t : Ty, PySem.W.kitOne X.K ty (.type (sT t)) = some (isi1 x t) := by
  split at h
  · unfold insI at h
    split at h
    · split at h
      · rename_i hc
        cases h
        obtain ⟨C, hC, cl, a1, a2, a3, a4, k1, k2, k3, k4, k5, k6⟩ := (hK _ hc).ex
        simp only [Den] at hx
        obtain ⟨a, C', dx, nvs, rfl, hp, hC', _⟩ := hx
        rw [hC] at hC'
        cases hC'
        refine ⟨?_, .ref C, .base (.ins (e _ _ hp) cl a1 a2 a3 a4), fun t => ?_⟩
        · congr 1
          symm
          rw [List.any_eq_false]
          intro t _
          cases t <;> simp [isi1]
        · cases t <;> first | exact k1 | exact k2 | exact k3 | exact k4 | exact k5 | exact k6
      · cases h
    · cases h
  · rename_i hi
    cases h
    obtain ⟨s, ty, hk⟩ := isi_ty (by simpa using hi) hx e
    exact ⟨rfl, _, ty, hk⟩
theorem kitAll {K : PySem.W.Frag} {s : Value} {x : D} (h : ∀ t : Ty, PySem.W.kitOne K s (.type (sT t)) = some (isi1 x t)) : ∀ ts : List Ty, PySem.W.kitAny K s (ts.map fun t => Value.type (sT t)) = some (ts.any (isi1 x))
  | [] => kitAny_nil
  | t :: ts => by
    refine kitAny_cons (h t) (fun hb => ?_) (fun hb => ?_)
    · rw [List.any_cons, hb, Bool.false_or]; exact kitAll h ts
    · rw [List.any_cons, hb, Bool.true_or]
end

section
variable {Y : Stat} {sc : Scope} {fc : Str → Bool} {pos p p1 p2 : Pos}

/-! ### names, constants -/
theorem getV_some {τ : List Sl} {i : Nat} {d : D} (h : getV τ i = some d) : τ[i]? = some (.v d) := by
  unfold getV at h
  split at h
  · rename_i e; cases h; exact e
  · cases h
theorem getO_some {τ : List Sl} {i : Nat} {ds : List D} (h : getO τ i = some ds) : τ[i]? = some (.o (.lst ds)) := by
  unfold getO at h
  split at h
  · rename_i e; cases h; exact e
  · cases h
theorem se_var {i : Nat} {x : Str} (hN : Y.N[i]? = some x) (hv : Vis sc x) (hd : (x == ("__debug__" : Str)) = false) (hcd : (x == ("__classdict__" : Str)) = false) : SE Y sc fc (.Name x pos) (fun τ => getV τ i) := by
  refine ⟨fun X ok H0 G0 G W H τ σ d w s h Q q => ?_⟩
  obtain ⟨v, hv', dv⟩ := s.val i d (getV_some h)
  exact ⟨_, pe_var (by rw [ok.eN]; exact hN) (ok.vis hv) hd hcd, v, hv', q.here w dv⟩
theorem se_glob {k : Nat} {x : Str} (hk : (k, x) ∈ Y.cns) (hg : sc.names.lookup x = some .globalImplicit) (hd : (x == ("__debug__" : Str)) = false) : SE Y sc fc (.Name x pos) (fun _ => Y.Z.C k) := by
  refine ⟨fun X ok H0 G0 G W H τ σ d w s h Q q => ?_⟩
  obtain ⟨u, v, d', hm, r, hc, dv⟩ := ok.cns k x hk
  rw [hc] at h
  cases h
  exact ⟨_, pe_glob (ok.gl hg) hm r hd, q.here w (dv G)⟩
theorem se_int {n : Int} {j : Nat} : SE Y sc fc (.Constant (.int n) j pos) (fun _ => some (.int n)) :=
  ⟨fun X ok H0 G0 G W H τ σ d w s h Q q => by cases h; exact ⟨_, pe_int, q.here w (by simp only [Den])⟩⟩
theorem se_bl {n : Bool} {j : Nat} : SE Y sc fc (.Constant (.bool n) j pos) (fun _ => some (.bl n)) :=
  ⟨fun X ok H0 G0 G W H τ σ d w s h Q q => by cases h; exact ⟨_, pe_bl, q.here w (by simp only [Den])⟩⟩
theorem se_non {j : Nat} : SE Y sc fc (.Constant .none j pos) (fun _ => some .non) :=
  ⟨fun X ok H0 G0 G W H τ σ d w s h Q q => by cases h; exact ⟨_, pe_non, q.here w (by simp only [Den])⟩⟩
theorem se_str {x : List Nat} {j : Nat} : SE Y sc fc (.Constant (.str (mkS x)) j pos) (fun _ => some (.str x)) :=
  ⟨fun X ok H0 G0 G W H τ σ d w s h Q q => by cases h; exact ⟨_, pe_str, q.here w (by simp only [Den])⟩⟩

/-! ### operators -/
variable {a b c : Expr} {fa fb fd : List Sl → Option D}
theorem se_bin {o : BO} (ha : SE Y sc fc a fa) (hb : SE Y sc fc b fb) : SE Y sc fc (.BinOp a (opB o) b pos) (fun τ => (fa τ).bind fun x => (fb τ).bind fun y => binD o x y) := by
  refine ⟨fun X ok H0 G0 G W H τ σ d w s h Q q => ?_⟩
  obtain ⟨x, hx, h⟩ := bnd h
  obtain ⟨y, hy, h⟩ := bnd h
  refine ⟨_, pe_op opR_u pe_tu pe_tu, ?_⟩
  refine ha.run X ok _ _ _ _ _ _ _ _ w s hx _ fun v G1 H1 e1 w1 dv => ?_
  refine hb.run X ok _ _ _ _ _ _ _ _ w1 (s.mono e1) hy _ fun u G2 H2 e2 w2 du => ?_
  exact bin_run h (dv.mono e2) du w2 fun z G' H' e' w' dz => q z G' H' ((e1.trans e2).trans e') w' dz
theorem se_neg (ha : SE Y sc fc a fa) : SE Y sc fc (.UnaryOp .USub a pos) (fun τ => (fa τ).bind fun x => (intD x).map fun i => .int (-i)) := by
  refine ⟨fun X ok H0 G0 G W H τ σ d w s h Q q => ?_⟩
  obtain ⟨x, hx, h⟩ := bnd h
  refine ⟨_, pe_un un_neg pe_tu, ?_⟩
  refine ha.run X ok _ _ _ _ _ _ _ _ w s hx _ fun v G1 H1 e1 w1 dv => ?_
  cases x <;> simp only [intD] at h <;> try cases h
  simp only [Den] at dv
  exact ⟨_, dv, q _ _ _ e1 w1 (by simp only [Den])⟩
theorem dlook_den {K : PySem.W.Frag} {G : Hp} : ∀ {ks vs : List D} {kvs : List (Key × V)} (q : Key), ks.map D.key = kvs.map (fun p => some p.1) → DenL K G vs (kvs.map (fun p => p.2)) →
    (∃ d v, dlook ks vs q = some d ∧ valV kvs q = some v ∧ Den K G d v) ∨ (dlook ks vs q = none ∧ valV kvs q = none)
  | [], vs, kvs, q, h1, h2 => by
    cases kvs with
    | nil => exact .inr ⟨by simp [dlook], rfl⟩
    | cons p r => simp at h1
  | k :: ks, vs, [], q, h1, h2 => by simp at h1
  | k :: ks, [], p :: r, q, h1, h2 => by simp [DenL] at h2
  | k :: ks, d :: vs, p :: r, q, h1, h2 => by
    simp only [List.map_cons, List.cons.injEq] at h1
    simp only [List.map_cons, DenL] at h2
    obtain ⟨v, r', e, d1, d2⟩ := h2
    simp only [List.cons.injEq] at e
    obtain ⟨e1, e2⟩ := e
    subst e1 e2
    by_cases hq : p.1 = q
    · left
      refine ⟨d, p.2, ?_, valV_pos hq, d1⟩
      simp [dlook, h1.1, hq]
    · have hk : ¬ D.key k = some q := by rw [h1.1]; intro z; exact hq (Option.some.inj z)
      rw [valV_neg hq]
      simp only [dlook, if_neg hk]
      exact dlook_den q h1.2 d2
theorem key_den0 {K : PySem.W.Frag} {G : Hp} {x : D} {v : V} {k : Key} (h : D.key x = some k) (hx : Den K G x v) : v = kV k := by
  cases x <;> simp only [D.key] at h <;> cases h <;> (simp only [Den] at hx; exact hx)
theorem dget_den {K : PySem.W.Frag} {G H : Hp} {ks vs : List D} {u : V} {x : D} {v : V} {q : Key} (hx : Den K G x v) (hq : D.key x = some q) (hy : Den K G (.dct ks vs) u) (e : Sub G H) :
    ∃ a o, u = .ref a ∧ (∃ kvs, H a = some (.dK kvs)) ∧ DGet H a v o ∧ ((∃ d w, dlook ks vs q = some d ∧ o = some w ∧ Den K G d w) ∨ (dlook ks vs q = none ∧ o = none)) := by
  simp only [Den] at hy
  obtain ⟨a, kvs, rfl, ha, h1, h2⟩ := hy
  rw [key_den0 hq hx]
  refine ⟨a, valV kvs q, rfl, ⟨kvs, e _ _ ha⟩, DGet.k (e _ _ ha), ?_⟩
  rcases dlook_den q h1 h2 with ⟨d, w, a1, a2, a3⟩ | ⟨a1, a2⟩
  · exact .inl ⟨d, w, a1, a2, a3⟩
  · exact .inr ⟨a1, a2⟩
theorem cmpX_or {o : CO} {x y : D} {k : Bool} (h : cmpX o x y = some k) : cmpD o x y = some k ∨ ∃ ks vs q, y = .dct ks vs ∧ D.key x = some q ∧ ((o = .isin ∧ k = (dlook ks vs q).isSome) ∨ (o = .notin ∧ k = !(dlook ks vs q).isSome)) := by
  cases y <;> try exact .inl h
  rename_i ks vs
  cases o <;> first
    | exact .inl h
    | (right
       simp only [cmpX, Option.map_eq_some_iff] at h
       obtain ⟨q, h1, h2⟩ := h
       first
         | exact ⟨ks, vs, q, rfl, h1, .inl ⟨rfl, h2.symm⟩⟩
         | exact ⟨ks, vs, q, rfl, h1, .inr ⟨rfl, h2.symm⟩⟩)
theorem isSome_of {α β : Type} {P : α → β → Prop} {a : Option α} {b : Option β} (h : (∃ d w, a = some d ∧ b = some w ∧ P d w) ∨ (a = none ∧ b = none)) : a.isSome = b.isSome := by
  rcases h with ⟨d, w, rfl, rfl, _⟩ | ⟨rfl, rfl⟩ <;> rfl
theorem se_cmp {o : CO} (ha : SE Y sc fc a fa) (hb : SE Y sc fc b fb) (hs : notSet b = true) : SE Y sc fc (.Compare a [opC o] [b] pos) (fun τ => (fa τ).bind fun x => (fb τ).bind fun y => (cmpX o x y).map .bl) := by
  refine ⟨fun X ok H0 G0 G W H τ σ d w s h Q q => ?_⟩
  obtain ⟨x, hx, h⟩ := bnd h
  obtain ⟨y, hy, h⟩ := bnd h
  obtain ⟨k, hk, rfl⟩ := mpd h
  have hu : X.A.units + 1 < cLine := by have := ok.room.units; omega
  rcases cmpX_or hk with hk | ⟨ks, vs, q', rfl, hq, ⟨rfl, rfl⟩ | ⟨rfl, rfl⟩⟩
  · refine ⟨_, pe_cmpR opR_u pe_tu pe_tu (behind_no hs), ?_⟩
    refine ha.run X ok _ _ _ _ _ _ _ _ w s hx _ fun v G1 H1 e1 w1 dv => ?_
    refine hb.run X ok _ _ _ _ _ _ _ _ w1 (s.mono e1) hy _ fun u G2 H2 e2 w2 du => ?_
    exact cmp_run ok.room.units hk (dv.mono e2) du w2.gh (q _ _ _ (e1.trans e2) w2 (by simp only [Den]))
  · refine ⟨_, pe_cmp (pc_din hu pe_tu pe_tu) (behind_no hs), ?_⟩
    refine ha.run X ok _ _ _ _ _ _ _ _ w s hx _ fun v G1 H1 e1 w1 dv => ?_
    refine hb.run X ok _ _ _ _ _ _ _ _ w1 (s.mono e1) hy _ fun u G2 H2 e2 w2 du => ?_
    obtain ⟨p, ob, eu, _, g, hh⟩ := dget_den (dv.mono e2) hq du w2.gh
    refine ⟨p, ob, eu, g, ?_⟩
    rw [← isSome_of hh]
    exact q _ _ _ (e1.trans e2) w2 (by simp only [Den])
  · refine ⟨_, pe_cmp (pc_dnotin hu pe_tu pe_tu) (behind_no hs), ?_⟩
    refine ha.run X ok _ _ _ _ _ _ _ _ w s hx _ fun v G1 H1 e1 w1 dv => ?_
    refine hb.run X ok _ _ _ _ _ _ _ _ w1 (s.mono e1) hy _ fun u G2 H2 e2 w2 du => ?_
    obtain ⟨p, ob, eu, _, g, hh⟩ := dget_den (dv.mono e2) hq du w2.gh
    refine ⟨p, ob, eu, g, ?_⟩
    rw [← isSome_of hh]
    exact q _ _ _ (e1.trans e2) w2 (by simp only [Den])
theorem st_cmp {o : CO} (ha : SE Y sc fc a fa) (hb : SE Y sc fc b fb) (hs : notSet b = true) : ST Y sc fc (.Compare a [opC o] [b] pos) (fun τ => (fa τ).bind fun x => (fb τ).bind fun y => cmpX o x y) := by
  refine ⟨fun X ok H0 G0 G W H τ σ d w s h Q q => ?_⟩
  obtain ⟨x, hx, h⟩ := bnd h
  obtain ⟨y, hy, hk⟩ := bnd h
  have hu : X.A.units + 1 < cLine := by have := ok.room.units; omega
  rcases cmpX_or hk with hk | ⟨ks, vs, q', rfl, hq, ⟨rfl, rfl⟩ | ⟨rfl, rfl⟩⟩
  · refine ⟨_, pt_cmpR opR_u pe_tu pe_tu (behind_no hs), ?_⟩
    refine ha.run X ok _ _ _ _ _ _ _ _ w s hx _ fun v G1 H1 e1 w1 dv => ?_
    refine hb.run X ok _ _ _ _ _ _ _ _ w1 (s.mono e1) hy _ fun u G2 H2 e2 w2 du => ?_
    exact cmp_run ok.room.units hk (dv.mono e2) du w2.gh ⟨_, rfl, q _ _ (e1.trans e2) w2⟩
  · refine ⟨_, pt_cmp (pc_din hu pe_tu pe_tu) (behind_no hs), ?_⟩
    refine ha.run X ok _ _ _ _ _ _ _ _ w s hx _ fun v G1 H1 e1 w1 dv => ?_
    refine hb.run X ok _ _ _ _ _ _ _ _ w1 (s.mono e1) hy _ fun u G2 H2 e2 w2 du => ?_
    obtain ⟨p, ob, eu, _, g, hh⟩ := dget_den (dv.mono e2) hq du w2.gh
    refine ⟨p, ob, eu, g, ?_⟩
    rw [← isSome_of hh]
    exact ⟨_, rfl, q _ _ (e1.trans e2) w2⟩
  · refine ⟨_, pt_cmp (pc_dnotin hu pe_tu pe_tu) (behind_no hs), ?_⟩
    refine ha.run X ok _ _ _ _ _ _ _ _ w s hx _ fun v G1 H1 e1 w1 dv => ?_
    refine hb.run X ok _ _ _ _ _ _ _ _ w1 (s.mono e1) hy _ fun u G2 H2 e2 w2 du => ?_
    obtain ⟨p, ob, eu, _, g, hh⟩ := dget_den (dv.mono e2) hq du w2.gh
    refine ⟨p, ob, eu, g, ?_⟩
    rw [← isSome_of hh]
    exact ⟨_, rfl, q _ _ (e1.trans e2) w2⟩
theorem last_no {o p : CmpOp} {b c : Expr} (h : notSet c = true) : lastMarks [o, p] [b, c] = false := by
  show behindInMarks p c = false
  exact behind_no h
theorem se_chain {o r : CO} (ha : SE Y sc fc a fa) (hb : SE Y sc fc b fb) (hc : SE Y sc fc c fd) (hs : notSet c = true) : SE Y sc fc (.Compare a [opC o, opC r] [b, c] pos)
    (fun τ => (fa τ).bind fun x => (fb τ).bind fun y => (cmpD o x y).bind fun k => bif k then (fd τ).bind fun z => (cmpD r y z).map .bl else some (.bl false)) := by
  refine ⟨fun X ok H0 G0 G W H τ σ d w s h Q q => ?_⟩
  obtain ⟨x, hx, h⟩ := bnd h
  obtain ⟨y, hy, h⟩ := bnd h
  obtain ⟨k, hk, h⟩ := bnd h
  refine ⟨_, pe_chain opR_u opR_u pe_tu pe_tu pe_tu (last_no hs), ?_⟩
  refine ha.run X ok _ _ _ _ _ _ _ _ w s hx _ fun v G1 H1 e1 w1 dv => ?_
  refine hb.run X ok _ _ _ _ _ _ _ _ w1 (s.mono e1) hy _ fun u G2 H2 e2 w2 du => ?_
  refine cmp_run ok.room.units hk (dv.mono e2) du w2.gh ⟨_, rfl, ?_⟩
  cases k with
  | false => cases h; exact iteF (q _ _ _ (e1.trans e2) w2 (by simp only [Den]))
  | true =>
    obtain ⟨z, hz, h⟩ := bnd h
    obtain ⟨m, hm, rfl⟩ := mpd h
    refine iteT ?_
    refine hc.run X ok _ _ _ _ _ _ _ _ w2 (s.mono (e1.trans e2)) hz _ fun z' G3 H3 e3 w3 dz => ?_
    exact cmp_run ok.room.units hm (du.mono e3) dz w3.gh (q _ _ _ ((e1.trans e2).trans e3) w3 (by simp only [Den]))
theorem st_chain {o r : CO} (ha : SE Y sc fc a fa) (hb : SE Y sc fc b fb) (hc : SE Y sc fc c fd) (hs : notSet c = true) : ST Y sc fc (.Compare a [opC o, opC r] [b, c] pos)
    (fun τ => (fa τ).bind fun x => (fb τ).bind fun y => (cmpD o x y).bind fun k => bif k then (fd τ).bind fun z => cmpD r y z else some false) := by
  refine ⟨fun X ok H0 G0 G W H τ σ d w s h Q q => ?_⟩
  obtain ⟨x, hx, h⟩ := bnd h
  obtain ⟨y, hy, h⟩ := bnd h
  obtain ⟨k, hk, h⟩ := bnd h
  refine ⟨_, pt_chain opR_u opR_u pe_tu pe_tu pe_tu (last_no hs), ?_⟩
  refine ha.run X ok _ _ _ _ _ _ _ _ w s hx _ fun v G1 H1 e1 w1 dv => ?_
  refine hb.run X ok _ _ _ _ _ _ _ _ w1 (s.mono e1) hy _ fun u G2 H2 e2 w2 du => ?_
  refine cmp_run ok.room.units hk (dv.mono e2) du w2.gh ⟨_, rfl, ?_⟩
  cases k with
  | false => cases h; exact iteF ⟨_, rfl, q _ _ (e1.trans e2) w2⟩
  | true =>
    obtain ⟨z, hz, hm⟩ := bnd h
    refine iteT ?_
    refine hc.run X ok _ _ _ _ _ _ _ _ w2 (s.mono (e1.trans e2)) hz _ fun z' G3 H3 e3 w3 dz => ?_
    exact cmp_run ok.room.units hm (du.mono e3) dz w3.gh ⟨_, rfl, q _ _ ((e1.trans e2).trans e3) w3⟩

/-! ### truth -/
theorem st_of (ha : SE Y sc fc a fa) (hp : plainTest a = true) : ST Y sc fc a (fun τ => (fa τ).bind truth) := by
  refine ⟨fun X ok H0 G0 G W H τ σ d w s h Q q => ?_⟩
  obtain ⟨x, hx, h⟩ := bnd h
  refine ⟨_, pt_truth pe_tu (isTrue_of hp), ?_⟩
  refine ha.run X ok _ _ _ _ _ _ _ _ w s hx _ fun v G1 H1 e1 w1 dv => ?_
  exact ⟨_, tru_run h dv w1.gh, q _ _ e1 w1⟩
theorem ST.imp {f g : List Sl → Option Bool} (h : ST Y sc fc a f) (e : ∀ τ b, g τ = some b → f τ = some b) : ST Y sc fc a g :=
  ⟨fun X ok H0 G0 G W H τ σ b w s hg Q q => h.run X ok H0 G0 G W H τ σ b w s (e τ b hg) Q q⟩
theorem SE.imp {f g : List Sl → Option D} (h : SE Y sc fc a f) (e : ∀ τ b, g τ = some b → f τ = some b) : SE Y sc fc a g :=
  ⟨fun X ok H0 G0 G W H τ σ b w s hg Q q => h.run X ok H0 G0 G W H τ σ b w s (e τ b hg) Q q⟩
variable {es : List Expr} {ga gb : List Sl → Option Bool}
theorem st_not (ha : ST Y sc fc a ga) : ST Y sc fc (.UnaryOp .Not a pos) (fun τ => (ga τ).map not) := by
  refine ⟨fun X ok H0 G0 G W H τ σ d w s h Q q => ?_⟩
  obtain ⟨x, hx, rfl⟩ := mpd h
  exact ⟨_, pt_not pt_tu, ha.run X ok _ _ _ _ _ _ _ _ w s hx _ fun G1 H1 e1 w1 => q _ _ e1 w1⟩
theorem se_not (ha : SE Y sc fc a fa) : SE Y sc fc (.UnaryOp .Not a pos) (fun τ => ((fa τ).bind truth).map fun b => .bl (!b)) := by
  refine ⟨fun X ok H0 G0 G W H τ σ d w s h Q q => ?_⟩
  obtain ⟨x, hx, rfl⟩ := mpd h
  obtain ⟨y, hy, hx⟩ := bnd hx
  refine ⟨_, pe_notT pe_tu, ?_⟩
  refine ha.run X ok _ _ _ _ _ _ _ _ w s hy _ fun v G1 H1 e1 w1 dv => ?_
  exact ⟨x, tru_run hx dv w1.gh, q _ _ _ e1 w1 (by simp only [Den])⟩
/-- and, or: as values and as tests -/
theorem blD_some {d : D} {b : Bool} (h : blD d = some b) : d = .bl b := by
  cases d <;> simp [blD] at h
  subst h; rfl
theorem se_one {op : BoolOp} (ha : SE Y sc fc a fa) : SE Y sc fc (.BoolOp op [a] pos) fa := by
  refine ⟨fun X ok H0 G0 G W H τ σ d w s h Q q => ⟨_, pe_one pe_tu, ha.run X ok _ _ _ _ _ _ _ _ w s h _ q⟩⟩
theorem se_and (ha : SE Y sc fc a fa) (hb : SE Y sc fc (.BoolOp .And (b :: es) pos) fb) : SE Y sc fc (.BoolOp .And (a :: b :: es) pos) (fun τ => ((fa τ).bind blD).bind fun k => bif k then fb τ else some (.bl false)) := by
  refine ⟨fun X ok H0 G0 G W H τ σ d w s h Q q => ?_⟩
  obtain ⟨k, hk, h⟩ := bnd h
  obtain ⟨x, hx, hk⟩ := bnd hk
  have := blD_some hk
  subst this
  refine ⟨_, pe_and pe_tu pe_tu, ?_⟩
  refine ha.run X ok _ _ _ _ _ _ _ _ w s hx _ fun v G1 H1 e1 w1 dv => ?_
  simp only [Den] at dv
  refine ⟨k, dv, ?_⟩
  cases k with
  | true => exact iteT (hb.run X ok _ _ _ _ _ _ _ _ w1 (s.mono e1) h _ fun v G2 H2 e2 w2 dv => q _ _ _ (e1.trans e2) w2 dv)
  | false => cases h; exact iteF (q _ _ _ e1 w1 (by simp only [Den]))
theorem se_or (ha : SE Y sc fc a fa) (hb : SE Y sc fc (.BoolOp .Or (b :: es) pos) fb) : SE Y sc fc (.BoolOp .Or (a :: b :: es) pos) (fun τ => ((fa τ).bind blD).bind fun k => bif k then some (.bl true) else fb τ) := by
  refine ⟨fun X ok H0 G0 G W H τ σ d w s h Q q => ?_⟩
  obtain ⟨k, hk, h⟩ := bnd h
  obtain ⟨x, hx, hk⟩ := bnd hk
  have := blD_some hk
  subst this
  refine ⟨_, pe_or pe_tu pe_tu, ?_⟩
  refine ha.run X ok _ _ _ _ _ _ _ _ w s hx _ fun v G1 H1 e1 w1 dv => ?_
  simp only [Den] at dv
  refine ⟨k, dv, ?_⟩
  cases k with
  | true => cases h; exact iteT (q _ _ _ e1 w1 (by simp only [Den]))
  | false => exact iteF (hb.run X ok _ _ _ _ _ _ _ _ w1 (s.mono e1) h _ fun v G2 H2 e2 w2 dv => q _ _ _ (e1.trans e2) w2 dv)
theorem SW.st {f : List Sl → Option Bool} (h : SW Y sc fc a f) : ST Y sc fc a f :=
  ⟨fun X ok H0 G0 G W H τ σ b w s hg Q q => by
    obtain ⟨t, p, r⟩ := h.run X ok H0 G0 G W H τ σ b w s hg Q q
    exact ⟨t, p.pt, r⟩⟩
theorem sw_and1 (ha : ST Y sc fc a ga) : SW Y sc fc (.BoolOp .And [a] pos) ga :=
  ⟨fun X ok H0 G0 G W H τ σ b w s h Q q => ⟨_, pw_and1 pt_tu, ha.run X ok _ _ _ _ _ _ _ _ w s h _ q⟩⟩
theorem sw_or1 (ha : ST Y sc fc a ga) : SW Y sc fc (.BoolOp .Or [a] pos) ga :=
  ⟨fun X ok H0 G0 G W H τ σ b w s h Q q => ⟨_, pw_or1 pt_tu, ha.run X ok _ _ _ _ _ _ _ _ w s h _ q⟩⟩
theorem sw_and (ha : ST Y sc fc a ga) (hb : SW Y sc fc (.BoolOp .And (b :: es) pos) gb) : SW Y sc fc (.BoolOp .And (a :: b :: es) pos) (fun τ => (ga τ).bind fun k => bif k then gb τ else some false) := by
  refine ⟨fun X ok H0 G0 G W H τ σ d w s h Q q => ?_⟩
  obtain ⟨k, hk, h⟩ := bnd h
  refine ⟨_, pw_and pt_tu pw_tu, ?_⟩
  refine ha.run X ok _ _ _ _ _ _ _ _ w s hk _ fun G1 H1 e1 w1 => ?_
  cases k with
  | true => exact iteT (hb.run X ok _ _ _ _ _ _ _ _ w1 (s.mono e1) h _ fun G2 H2 e2 w2 => q _ _ (e1.trans e2) w2)
  | false => cases h; exact iteF (q _ _ e1 w1)
theorem sw_or (ha : ST Y sc fc a ga) (hb : SW Y sc fc (.BoolOp .Or (b :: es) pos) gb) : SW Y sc fc (.BoolOp .Or (a :: b :: es) pos) (fun τ => (ga τ).bind fun k => bif k then some true else gb τ) := by
  refine ⟨fun X ok H0 G0 G W H τ σ d w s h Q q => ?_⟩
  obtain ⟨k, hk, h⟩ := bnd h
  refine ⟨_, pw_or pt_tu pw_tu, ?_⟩
  refine ha.run X ok _ _ _ _ _ _ _ _ w s hk _ fun G1 H1 e1 w1 => ?_
  cases k with
  | true => cases h; exact iteT (q _ _ e1 w1)
  | false => exact iteF (hb.run X ok _ _ _ _ _ _ _ _ w1 (s.mono e1) h _ fun G2 H2 e2 w2 => q _ _ (e1.trans e2) w2)
theorem se_ite (hc : ST Y sc fc c ga) (ha : SE Y sc fc a fa) (hb : SE Y sc fc b fb) : SE Y sc fc (.IfExp c a b pos) (fun τ => (ga τ).bind fun k => bif k then fa τ else fb τ) := by
  refine ⟨fun X ok H0 G0 G W H τ σ d w s h Q q => ?_⟩
  obtain ⟨k, hk, h⟩ := bnd h
  refine ⟨_, pe_ifExp pt_tu pe_tu pe_tu, ?_⟩
  refine hc.run X ok _ _ _ _ _ _ _ _ w s hk _ fun G1 H1 e1 w1 => ?_
  cases k with
  | true => exact iteT (ha.run X ok _ _ _ _ _ _ _ _ w1 (s.mono e1) h _ fun v G2 H2 e2 w2 dv => q _ _ _ (e1.trans e2) w2 dv)
  | false => exact iteF (hb.run X ok _ _ _ _ _ _ _ _ w1 (s.mono e1) h _ fun v G2 H2 e2 w2 dv => q _ _ _ (e1.trans e2) w2 dv)

/-! ### lists of expressions, displays -/
variable {fL : List Sl → Option (List D)}
theorem sa_nil : SA Y sc fc [] (fun _ => some []) :=
  ⟨fun X ok H0 G0 G W H τ σ d w s h Q q => by cases h; exact ⟨_, pa_nil, q [] G H (Sub.refl G) w (by simp only [DenL])⟩⟩
theorem sa_cons (hn : notStar a = true) (ha : SE Y sc fc a fa) (hL : SA Y sc fc es fL) : SA Y sc fc (a :: es) (fun τ => (fa τ).bind fun d => (fL τ).map (d :: ·)) := by
  refine ⟨fun X ok H0 G0 G W H τ σ ds w s h Q q => ?_⟩
  obtain ⟨x, hx, h⟩ := bnd h
  obtain ⟨xs, hxs, rfl⟩ := mpd h
  refine ⟨_, pa_cons pe_tu pa_tu (star_cons hn), ?_⟩
  refine ha.run X ok _ _ _ _ _ _ _ _ w s hx _ fun v G1 H1 e1 w1 dv => ?_
  refine hL.run X ok _ _ _ _ _ _ _ _ w1 (s.mono e1) hxs _ fun vs G2 H2 e2 w2 dvs => ?_
  exact q _ _ _ (e1.trans e2) w2 (by simp only [DenL]; exact ⟨v, vs, rfl, dv.mono e2, dvs⟩)
theorem se_tup {k : Nat} (hL : SA Y sc fc es fL) : SE Y sc fc (.Tuple es k pos) (fun τ => (fL τ).bind fun ds => if ds.length ≤ line then some (.tup ds) else none) := by
  refine ⟨fun X ok H0 G0 G W H τ σ d w s h Q q => ?_⟩
  obtain ⟨xs, hxs, h⟩ := bnd h
  split at h
  · rename_i hl
    cases h
    refine ⟨_, pe_tup pa_tu, ?_⟩
    refine hL.run X ok _ _ _ _ _ _ _ _ w s hxs _ fun vs G1 H1 e1 w1 dvs => ?_
    refine ⟨le_line (by rw [← dvs.length]; exact hl), fun p hp => q _ _ _ (e1.trans (sub_upd (w1.gnone hp))) (w1.new hp) ?_⟩
    simp only [Den]
    exact ⟨p, vs, rfl, SqT.of upd_same, dvs.mono (sub_upd (w1.gnone hp))⟩
  · cases h
theorem se_lst (hL : SA Y sc fc es fL) : SE Y sc fc (.List es pos) (fun τ => (fL τ).bind fun ds => if ds.length ≤ line then some (.lst ds) else none) := by
  refine ⟨fun X ok H0 G0 G W H τ σ d w s h Q q => ?_⟩
  obtain ⟨xs, hxs, h⟩ := bnd h
  split at h
  · rename_i hl
    cases h
    refine ⟨_, pe_lst pa_tu, ?_⟩
    refine hL.run X ok _ _ _ _ _ _ _ _ w s hxs _ fun vs G1 H1 e1 w1 dvs => ?_
    refine ⟨le_line (by rw [← dvs.length]; exact hl), fun p hp => q _ _ _ (e1.trans (sub_upd (w1.gnone hp))) (w1.new hp) ?_⟩
    simp only [Den]
    exact ⟨p, vs, rfl, upd_same, dvs.mono (sub_upd (w1.gnone hp))⟩
  · cases h

/-! ### places, slices -/
theorem noSl_of {e : Expr} (h : notSlice e = true) : NoSl e := by
  intro o i
  cases e <;> first | rfl | simp [notSlice] at h
theorem ixX_or {x y d : D} (h : ixX x y = some d) : ixD x y = some d ∨ ∃ ks vs q, x = .dct ks vs ∧ D.key y = some q ∧ dlook ks vs q = some d := by
  cases x <;> try exact .inl h
  right
  obtain ⟨q, h1, h2⟩ := bnd h
  exact ⟨_, _, q, rfl, h1, h2⟩
theorem se_ix (ha : SE Y sc fc a fa) (hb : SE Y sc fc b fb) (hs : notSlice b = true) : SE Y sc fc (.Subscript a b pos) (fun τ => (fa τ).bind fun x => (fb τ).bind fun y => ixX x y) := by
  refine ⟨fun X ok H0 G0 G W H τ σ d w s h Q q => ?_⟩
  obtain ⟨x, hx, h⟩ := bnd h
  obtain ⟨y, hy, h⟩ := bnd h
  have hu : X.A.units + 1 < cLine := by have := ok.room.units; omega
  rcases ixX_or h with h | ⟨ks, vs, q', rfl, hq, hl⟩
  · refine ⟨_, pe_ix ixR_u pe_tu pe_tu (plainIx_of hs), ?_⟩
    refine ha.run X ok _ _ _ _ _ _ _ _ w s hx _ fun v G1 H1 e1 w1 dv => ?_
    refine hb.run X ok _ _ _ _ _ _ _ _ w1 (s.mono e1) hy _ fun u G2 H2 e2 w2 du => ?_
    exact ix_run h (dv.mono e2) du w2 fun z G' H' e' w' dz => q z G' H' ((e1.trans e2).trans e') w' dz
  · refine ⟨_, pe_dget hu pe_tu pe_tu (noSl_of hs), ?_⟩
    refine ha.run X ok _ _ _ _ _ _ _ _ w s hx _ fun v G1 H1 e1 w1 dv => ?_
    refine hb.run X ok _ _ _ _ _ _ _ _ w1 (s.mono e1) hy _ fun u G2 H2 e2 w2 du => ?_
    obtain ⟨p, ob, eu, _, g, hh⟩ := dget_den du hq (dv.mono e2) w2.gh
    rcases hh with ⟨d', z, a1, a2, a3⟩ | ⟨a1, a2⟩
    · rw [hl] at a1
      cases a1
      subst a2
      exact ⟨p, z, eu, g, q _ _ _ (e1.trans e2) w2 a3⟩
    · rw [hl] at a1; cases a1
structure SO (Y : Stat) (sc : Scope) (fc : Str → Bool) (e : Option Expr) (f : List Sl → Option (Option Int)) : Prop where
  run : ∀ X, XOk Y sc fc X → ∀ H0 G0 G W H τ σ o, Wd H0 G0 G W H → SlOk X.K G W τ σ → f τ = some o → ∀ Q : Option Int → Hp → Prop, (∀ G' H', Sub G G' → Wd H0 G0 G' W H' → Q o H') → ∃ t, PO X e t ∧ t σ H Q
theorem so_none : SO Y sc fc none (fun _ => some none) :=
  ⟨fun X ok H0 G0 G W H τ σ o w s h Q q => by cases h; exact ⟨_, po_none, q G H (Sub.refl G) w⟩⟩
theorem so_some (ha : SE Y sc fc a fa) : SO Y sc fc (some a) (fun τ => (fa τ).bind fun d => (intD d).map some) := by
  refine ⟨fun X ok H0 G0 G W H τ σ o w s h Q q => ?_⟩
  obtain ⟨x, hx, h⟩ := bnd h
  obtain ⟨i, hi, rfl⟩ := mpd h
  cases x <;> simp [intD] at hi
  subst hi
  refine ⟨_, po_some pe_tu, ?_⟩
  refine ha.run X ok _ _ _ _ _ _ _ _ w s hx _ fun v G1 H1 e1 w1 dv => ?_
  simp only [Den] at dv
  exact ⟨_, dv, q _ _ e1 w1⟩
def TUo (X : Cx) (e : Option Expr) : TO := fun σ H Q => ∃ t, PO X e t ∧ t σ H Q
theorem po_tu {X : Cx} {e : Option Expr} : PO X e (TUo X e) := ⟨fun pins s σ H Q I ⟨_, p, h⟩ => p.run pins s σ H Q I h⟩
theorem se_sl {lo hi : Option Expr} {f1 f2 : List Sl → Option (Option Int)} (ha : SE Y sc fc a fa) (hl : SO Y sc fc lo f1) (hh : SO Y sc fc hi f2) : SE Y sc fc (.Subscript a (.Slice lo hi none p2) pos)
    (fun τ => (fa τ).bind fun x => (f1 τ).bind fun l => (f2 τ).bind fun h => slD l h x) := by
  refine ⟨fun X ok H0 G0 G W H τ σ d w s h Q q => ?_⟩
  obtain ⟨x, hx, h⟩ := bnd h
  obtain ⟨l, hl', h⟩ := bnd h
  obtain ⟨u, hu', h⟩ := bnd h
  refine ⟨_, pe_slice slR_u pe_tu po_tu po_tu, ?_⟩
  refine ha.run X ok _ _ _ _ _ _ _ _ w s hx _ fun v G1 H1 e1 w1 dv => ?_
  refine hl.run X ok _ _ _ _ _ _ _ _ w1 (s.mono e1) hl' _ fun G2 H2 e2 w2 => ?_
  refine hh.run X ok _ _ _ _ _ _ _ _ w2 (s.mono (e1.trans e2)) hu' _ fun G3 H3 e3 w3 => ?_
  exact sl_run h (dv.mono (e2.trans e3)) w3 fun z G' H' e' w' dz => q z G' H' (((e1.trans e2).trans e3).trans e') w' dz

/-! ### calls -/
theorem dbg_of {x : Str} (h : decide (x = ("__debug__" : Str)) = false) : (x == ("__debug__" : Str)) = false := by simpa using h
theorem call_run {X : Cx} (ok : XOk Y sc fc X) {i : Nat} {x : Str} (hi : (i, x) ∈ Y.fns) {H0 G0 G W H : Hp} {ds : List D} {d : D} {vs : List V} {Q : VK} (w : Wd H0 G0 G W H) (hd : DenL X.K G ds vs) (hF : Y.Z.F i ds = some d) (q : EQ X.K H0 G0 G W d Q) (E : XK) :
    spF X.K (Y.Z.F i) vs H Q E := ⟨ds, d, G, w.gh, hd, hF, fun v G' H' a b c e dv => q v G' H' b (w.call a b c e) dv⟩
theorem se_call {i : Nat} {x : Str} (hi : (i, x) ∈ Y.fns) (hg : sc.names.lookup x = some .globalImplicit) (hd : (x == ("__debug__" : Str)) = false) (hn : (a :: es).all notStar = true) (hL : SA Y sc fc (a :: es) fL) :
    SE Y sc fc (.Call (.Name x p) (a :: es) [] pos) (fun τ => (fL τ).bind fun ds => Y.Z.F i ds) := by
  refine ⟨fun X ok H0 G0 G W H τ σ d w s h Q q => ?_⟩
  obtain ⟨xs, hxs, h⟩ := bnd h
  obtain ⟨f, fd, ps, hm, hk, hb, hF⟩ := (ok.fns i x hi).ex
  simp only [List.all_cons, Bool.and_eq_true] at hn
  refine ⟨_, pe_call hF ok.room (ok.gl hg) hm hk hb .nil pass0 pa_tu hd (star_cons hn.1) (star_any hn.2), ?_⟩
  refine hL.run X ok _ _ _ _ _ _ _ _ w s hxs _ fun vs G1 H1 e1 w1 dvs => ?_
  rw [List.append_nil]
  exact call_run ok hi w1 dvs h (fun z G' H' e' w' dz => q z G' H' (e1.trans e') w' dz) _
theorem se_call0 {i : Nat} {x : Str} (hi : (i, x) ∈ Y.fns) (hg : sc.names.lookup x = some .globalImplicit) (hd : (x == ("__debug__" : Str)) = false) :
    SE Y sc fc (.Call (.Name x p) [] [] pos) (fun τ => Y.Z.F i []) := by
  refine ⟨fun X ok H0 G0 G W H τ σ d w s h Q q => ?_⟩
  obtain ⟨f, fd, ps, hm, hk, hb, hF⟩ := (ok.fns i x hi).ex
  refine ⟨_, pe_call0 hF ok.room (ok.gl hg) hm hk hb .nil pass0 hd, ?_⟩
  show spF X.K (Y.Z.F i) ([] : List V) H Q E0
  exact call_run ok hi w (by simp only [DenL]) h q _
theorem se_blt {f : BF} (hf : f = .gcd → Y.gcd = true) (hbl : f ≠ .gcd → nmF f ∈ Y.bl) (hg : sc.names.lookup (nmF f) = some .globalImplicit) (hn : (a :: es).all notStar = true) (hL : SA Y sc fc (a :: es) fL) :
    SE Y sc fc (.Call (.Name (nmF f) p) (a :: es) [] pos) (fun τ => (fL τ).bind fun ds => bltD f ds) := by
  refine ⟨fun X ok H0 G0 G W H τ σ d w s h Q q => ?_⟩
  obtain ⟨xs, hxs, h⟩ := bnd h
  simp only [List.all_cons, Bool.and_eq_true] at hn
  have key : PE X (.Call (.Name (nmF f) p) (a :: es) [] pos) (tCB (UCall X (valF f)) (TUa X (a :: es))) → TU X (.Call (.Name (nmF f) p) (a :: es) [] pos) σ H Q := fun hp => by
    refine ⟨_, hp, ?_⟩
    refine hL.run X ok _ _ _ _ _ _ _ _ w s hxs _ fun vs G1 H1 e1 w1 dvs => ?_
    exact blt_run ok.calm h dvs w1 fun z G' H' e' w' dz => q z G' H' (e1.trans e') w' dz
  refine key ?_
  by_cases hgc : f = .gcd
  · subst hgc
    exact pe_callBfun callR_u (ok.gl hg) (ok.gcd (hf rfl)) pa_tu (by decide +kernel) (star_cons hn.1) (star_any hn.2)
  · have hm := ok.bl _ (hbl hgc)
    have hb := bootF hgc
    obtain ⟨n1, n2⟩ := nameF hgc
    cases ht : tyF f with
    | none =>
      have ev : valF f = .builtin (idF f) := by unfold valF; rw [ht]
      rw [ev] at hb ⊢
      exact pe_callB callR_u (ok.gl hg) hm hb pa_tu n1 n2 (star_cons hn.1) (star_any hn.2)
    | some t =>
      have ev : valF f = .type t := by unfold valF; rw [ht]
      rw [ev] at hb ⊢
      exact pe_callTy callR_u (ok.gl hg) hm hb pa_tu n1 n2 (star_cons hn.1) (star_any hn.2)
end
end Pv

set_option Elab.async false
set_option linter.all false
set_option maxRecDepth 100000
set_option maxHeartbeats 4000000

namespace Pv
open PySem PySem.Spec L2

section
variable {Y : Stat} {sc : Scope} {fc : Str → Bool} {pos p p1 p2 : Pos} {a b c : Expr} {es : List Expr} {fa fb fd : List Sl → Option D} {fL fK : List Sl → Option (List D)}

/-! ### isinstance -/
theorem pe_ty {X : Cx} (ok : XOk Y sc fc X) {t : Ty} (hb : nmT t ∈ Y.bl) (hg : sc.names.lookup (nmT t) = some .globalImplicit) : PE X (.Name (nmT t) pos) (tC (.ty (sT t))) :=
  pe_bltn (ok.gl hg) (ok.bl _ hb) (bootT t) rfl (nameT t).1 (nameT t).2
theorem boot_isi : bootBuiltins "isinstance" = some (.builtin "isinstance") := by decide +kernel
theorem se_isi {t : Ty} (hi : ("isinstance" : Str) ∈ Y.bl) (hgi : sc.names.lookup ("isinstance" : Str) = some .globalImplicit) (hb : nmT t ∈ Y.bl) (hg : sc.names.lookup (nmT t) = some .globalImplicit) (hn : notStar a = true) (ha : SE Y sc fc a fa) :
    SE Y sc fc (.Call (.Name "isinstance" p) [a, .Name (nmT t) p1] [] pos) (fun τ => (fa τ).bind fun x => if isIns x then insI Y.Z.K x else some (.bl ([t].any (isi1 x)))) := by
  refine ⟨fun X ok H0 G0 G W H τ σ d w s h Q q => ?_⟩
  obtain ⟨x, hx, h⟩ := bnd h
  · refine ⟨_, pe_callB call_isi (ok.gl hgi) (ok.bl _ hi) boot_isi (pa_cons pe_tu (pa_cons (pe_ty ok hb hg) pa_nil (star_cons rfl)) (star_cons hn)) (by decide +kernel) (by decide +kernel) (star_cons hn) (star_any (by rfl)), ?_⟩
    refine ha.run X ok _ _ _ _ _ _ _ _ w s hx _ fun v G1 H1 e1 w1 dv => ?_
    obtain ⟨rfl, n, ty, hk⟩ := isi_tyX ok.cl h dv w1.gh
    exact ⟨v, .ty (sT t), n, .type (sT t), isi1 x t, rfl, .ty _, ty, hk t, by rw [← Bool.or_false (isi1 x t)]; exact q _ _ _ e1 w1 (by simp only [Den]; rfl)⟩
/-- the tuple of the classes -/
theorem pa_tys {X : Cx} (ok : XOk Y sc fc X) : ∀ {ts : List Ty} {ns : List Expr}, ns.length = ts.length → (∀ (i : Nat) n t, ns[i]? = some n → ts[i]? = some t → ∃ q, n = Expr.Name (nmT t) q ∧ nmT t ∈ Y.bl ∧ sc.names.lookup (nmT t) = some .globalImplicit) →
    PA X ns (fun _ H Q => Q (ts.map fun t => V.ty (sT t)) H)
  | [], [], _, _ => ⟨fun pos pins s σ H Q I h => pa_nil.run pos pins s σ H Q I h⟩
  | [], _ :: _, h, _ => by simp at h
  | _ :: _, [], h, _ => by simp at h
  | t :: ts, n :: ns, hl, hh => by
    obtain ⟨q, rfl, hb, hg⟩ := hh 0 n t rfl rfl
    have ih := pa_tys ok (ts := ts) (ns := ns) (by simpa using hl) fun i n t h1 h2 => hh (i + 1) n t (by simpa using h1) (by simpa using h2)
    exact ⟨fun pos pins s σ H Q I h => (pa_cons (pe_ty ok hb hg) ih (star_cons rfl)).run pos pins s σ H Q I h⟩
theorem cls_all : ∀ ts : List Ty, Paired ClsV (ts.map fun t => V.ty (sT t)) (ts.map fun t => Value.type (sT t))
  | [] => .nil
  | t :: ts => .cons (.ty _) (cls_all ts)
theorem se_isit {ts : List Ty} {ns : List Expr} {k : Nat} (hi : ("isinstance" : Str) ∈ Y.bl) (hgi : sc.names.lookup ("isinstance" : Str) = some .globalImplicit) (hl : ns.length = ts.length) (hz : ts.length ≤ 100)
    (hh : ∀ (i : Nat) n t, ns[i]? = some n → ts[i]? = some t → ∃ q, n = Expr.Name (nmT t) q ∧ nmT t ∈ Y.bl ∧ sc.names.lookup (nmT t) = some .globalImplicit) (hn : notStar a = true) (ha : SE Y sc fc a fa) :
    SE Y sc fc (.Call (.Name "isinstance" p) [a, .Tuple ns k p1] [] pos) (fun τ => (fa τ).bind fun x => if isIns x then insI Y.Z.K x else some (.bl (ts.any (isi1 x)))) := by
  refine ⟨fun X ok H0 G0 G W H τ σ d w s h Q q => ?_⟩
  obtain ⟨x, hx, h⟩ := bnd h
  · refine ⟨_, pe_callB call_isiT (ok.gl hgi) (ok.bl _ hi) boot_isi (pa_cons pe_tu (pa_cons (pe_tup (pa_tys ok hl hh)) pa_nil (star_cons rfl)) (star_cons hn)) (by decide +kernel) (by decide +kernel) (star_cons hn) (star_any (by rfl)), ?_⟩
    refine ha.run X ok _ _ _ _ _ _ _ _ w s hx _ fun v G1 H1 e1 w1 dv => ?_
    refine ⟨by rw [List.length_map, sizeLine_eq]; omega, fun z hz' => ?_⟩
    have w2 := w1.new (o := .tup (ts.map fun t => V.ty (sT t))) hz'
    have e2 : Sub _ _ := sub_upd (o := .tup (ts.map fun t => V.ty (sT t))) (w1.gnone hz')
    obtain ⟨rfl, n, ty, hk⟩ := isi_tyX (X := X) ok.cl h (dv.mono e2) w2.gh
    exact ⟨v, z, _, n, _, _, rfl, upd_same, cls_all ts, ty, kitAll hk ts, q _ _ _ (e1.trans e2) w2 (by simp only [Den])⟩

/-! ### dicts written -/
end
/-- the pairs' readings, chosen where they are used -/
def SD (Y : Stat) (sc : Scope) (fc : Str → Bool) (pos : Pos) (ks : List (Option Expr)) (vs : List Expr) (g : List Sl → Option (List D)) : Prop :=
  ∀ X, XOk Y sc fc X → ∃ trs, PPs X pos ks vs trs ∧ ∀ H0 G0 G W H τ σ ds, Wd H0 G0 G W H → SlOk X.K G W τ σ → g τ = some ds → ∀ Q : List (V × V) → Hp → Prop,
    (∀ us ws G' H', Sub G G' → Wd H0 G0 G' W H' → DenL X.K G' (evens ds) us → DenL X.K G' (odds ds) ws → us.length = ws.length → Q (us.zip ws) H') → tPairs trs σ H Q
section
variable {Y : Stat} {sc : Scope} {fc : Str → Bool} {pos p p1 p2 : Pos} {a b c : Expr} {es : List Expr} {fa fb fd : List Sl → Option D} {fL fK : List Sl → Option (List D)} {ks : List (Option Expr)} {vs : List Expr}
theorem sd_nil : SD Y sc fc pos [] [] (fun _ => some []) :=
  fun X ok => ⟨_, pps_nil, fun H0 G0 G W H τ σ ds w s h Q q => by cases h; exact q [] [] G H (Sub.refl G) w (by simp only [evens, DenL]) (by simp only [odds, DenL]) rfl⟩
theorem sd_cons (ha : SE Y sc fc a fa) (hb : SE Y sc fc b fb) (hL : SD Y sc fc pos ks vs fL) :
    SD Y sc fc pos (some a :: ks) (b :: vs) (fun τ => (fa τ).bind fun d => ((fb τ).bind fun e => (fL τ).map (e :: ·)).map (d :: ·)) := by
  intro X ok
  obtain ⟨trs, hp, hr⟩ := hL X ok
  refine ⟨(TU X a, TU X b) :: trs, pps_cons pe_tu pe_tu hp, fun H0 G0 G W H τ σ ds w s h Q q => ?_⟩
  obtain ⟨x, hx, h1⟩ := bnd h
  obtain ⟨ds', h2, rfl⟩ := mpd h1
  obtain ⟨y, hy, h3⟩ := bnd h2
  obtain ⟨ds, hds, rfl⟩ := mpd h3
  show TU X a σ H fun x H1 => TU X b σ H1 fun y H2 => tPairs trs σ H2 fun ps H3 => Q ((x, y) :: ps) H3
  refine ha.run X ok _ _ _ _ _ _ _ _ w s hx _ fun v G1 H1 e1 w1 dv => ?_
  refine hb.run X ok _ _ _ _ _ _ _ _ w1 (s.mono e1) hy _ fun u G2 H2 e2 w2 du => ?_
  refine hr _ _ _ _ _ _ _ _ w2 (s.mono (e1.trans e2)) hds _ fun us ws G3 H3 e3 w3 dus dws hl => ?_
  exact q (v :: us) (u :: ws) _ _ ((e1.trans e2).trans e3) w3 (by simp only [evens, DenL]; exact ⟨v, us, rfl, dv.mono (e2.trans e3), dus⟩) (by simp only [odds, DenL]; exact ⟨u, ws, rfl, du.mono e3, dws⟩) (by simp [hl])
theorem se_dct0 : SE Y sc fc (.Dict [] [] pos) (fun _ => some (.dct [] [])) := by
  refine ⟨fun X ok H0 G0 G W H τ σ d w s h Q q => ?_⟩
  cases h
  refine ⟨_, pe_dnewK, fun z hz => q _ _ _ (sub_upd (w.gnone hz)) (w.new hz) ?_⟩
  simp only [Den]
  exact ⟨z, [], rfl, upd_same, rfl, by simp [DenL]⟩
theorem key_den {K : PySem.W.Frag} {G : Hp} {x : D} {v : V} {k : Key} (h : D.key x = some k) (hx : Den K G x v) : v = kV k := by
  cases x <;> simp only [D.key] at h <;> cases h <;> (simp only [Den] at hx; exact hx)
theorem keys_den {K : PySem.W.Frag} {G : Hp} : ∀ {xs : List D} {us ws : List V}, distinctK (xs.map D.key) = true → DenL K G xs us → us.length = ws.length →
    ∃ kvs : List (Key × V), us.zip ws = kvs.map (fun kv => (kV kv.1, kv.2)) ∧ xs.map D.key = kvs.map (fun p => some p.1) ∧ kvs.map (fun p => p.2) = ws ∧ kvs.length = us.length
  | [], _, ws, _, h, hl => by
    simp only [DenL] at h
    subst h
    have : ws = [] := List.eq_nil_of_length_eq_zero (by simpa using hl.symm)
    subst this
    exact ⟨[], rfl, rfl, rfl, rfl⟩
  | x :: xs, _, ws, hd, h, hl => by
    simp only [DenL] at h
    obtain ⟨v, r, e, h1, h2⟩ := h
    subst e
    cases ws with
    | nil => simp at hl
    | cons y ws =>
      cases hk : D.key x with
      | none => simp [hk, distinctK] at hd
      | some k =>
        simp only [List.map_cons, hk, distinctK, Bool.and_eq_true] at hd
        obtain ⟨kvs, a1, a2, a3, a4⟩ := keys_den hd.2 h2 (by simpa using hl)
        exact ⟨(k, y) :: kvs, by simp [a1, key_den hk h1], by simp [hk, a2], by simp [a3], by simp [a4]⟩
theorem valV_none {kvs : List (Key × V)} {k : Key} (h : some k ∉ kvs.map fun p => some p.1) : valV kvs k = none := by
  unfold valV
  rw [Option.map_eq_none_iff, List.find?_eq_none]
  intro p hp z
  have e : p.1 = k := by simpa using z
  exact h (List.mem_map.mpr ⟨p, hp, by rw [e]⟩)
theorem distinct_snoc : ∀ {l : List (Option Key)} {k : Key}, distinctK (l ++ [some k]) = true → some k ∉ l ∧ distinctK l = true
  | [], k, _ => ⟨by simp, rfl⟩
  | none :: r, k, h => by simp [distinctK] at h
  | some j :: r, k, h => by
    simp only [List.cons_append, distinctK, Bool.and_eq_true, List.all_eq_true, decide_eq_true_eq] at h
    obtain ⟨h1, h2⟩ := h
    obtain ⟨a, b⟩ := distinct_snoc h2
    have hj : ¬ (some k = some j) := h1 (some k) (by simp)
    refine ⟨?_, ?_⟩
    · rw [List.mem_cons, not_or]
      exact ⟨hj, a⟩
    · simp only [distinctK, Bool.and_eq_true, List.all_eq_true, decide_eq_true_eq]
      exact ⟨fun x z => h1 x (List.mem_append_left _ z), b⟩
theorem distinct_app : ∀ {l m : List (Option Key)}, distinctK (l ++ m) = true → distinctK l = true
  | [], _, _ => rfl
  | none :: r, m, h => by simp [distinctK] at h
  | some j :: r, m, h => by
    simp only [List.cons_append, distinctK, Bool.and_eq_true, List.all_eq_true, decide_eq_true_eq] at h ⊢
    exact ⟨fun x z => h.1 x (List.mem_append_left _ z), distinct_app h.2⟩
theorem merge_new : ∀ {more kvs : List (Key × V)}, distinctK ((kvs ++ more).map fun p => some p.1) = true → mergeK kvs more = kvs ++ more
  | [], kvs, _ => by simp [mergeK]
  | p :: more, kvs, h => by
    have h1 : distinctK ((kvs.map fun p => some p.1) ++ [some p.1]) = true := by
      refine distinct_app (m := more.map fun p => some p.1) ?_
      simpa using h
    obtain ⟨a, _⟩ := distinct_snoc h1
    show mergeK (putK kvs p.1 p.2) more = _
    rw [putK_new _ (valV_none a)]
    have ih := merge_new (more := more) (kvs := kvs ++ [p]) (by simpa using h)
    simpa using ih
theorem se_dct (h0 : ks ≠ []) (hall : ks.all (·.isSome) = true) (hlen : ks.length = vs.length) (h15 : ks.length ≤ 15) (hL : SD Y sc fc pos ks vs fL) :
    SE Y sc fc (.Dict ks vs pos) (fun τ => (fL τ).bind fun ds => dctD (evens ds) (odds ds)) := by
  refine ⟨fun X ok H0 G0 G W H τ σ d w s h Q q => ?_⟩
  obtain ⟨ds, hds, h⟩ := bnd h
  unfold dctD at h
  split at h
  · rename_i hc
    cases h
    simp only [Bool.and_eq_true, decide_eq_true_eq] at hc
    obtain ⟨⟨c1, c2⟩, c3⟩ := hc
    obtain ⟨trs, hp, hr⟩ := hL X ok
    refine ⟨_, pe_disp hp hall hlen h0 h15, fun z hz => ?_⟩
    have w1 := w.newO (o := .dK []) hz
    have s1 : SlOk X.K G (upd W z (.dK [])) τ σ := ⟨s.len, s.val, fun i ds hi => let ⟨a, us, x, y, t⟩ := s.own i ds hi; ⟨a, us, x, by rw [upd_ne (ne_of_none y (w.wnone hz))]; exact y, t⟩, s.dis⟩
    refine hr _ _ _ _ _ _ _ _ w1 s1 hds _ fun us ws G1 H1 e1 w2 dus dws hl => ?_
    obtain ⟨kvs, a1, a2, a3, a4⟩ := keys_den c3 dus hl
    refine ⟨(w2.wh z _ upd_same).1, kvs, a1, by rw [a4, ← dus.length]; exact c2, ?_⟩
    have hm : mergeK [] kvs = kvs := by
      have := merge_new (more := kvs) (kvs := []) (by rw [List.nil_append, ← a2]; exact c3)
      simpa using this
    rw [hm]
    have hzG : G1 z = none := (w2.wh z _ upd_same).2
    have w3 := (w2.set (o' := .dK kvs) upd_same).give (o := .dK kvs) upd_same
    refine q _ _ _ (e1.trans (sub_upd hzG)) (?_ : Wd H0 G0 (upd G1 z (.dK kvs)) W (upd H1 z (.dK kvs))) ?_
    · have ew : del (upd (upd W z (.dK [])) z (.dK kvs)) z = W := by
        funext a
        by_cases ha : a = z
        · subst ha; rw [del_same]; exact (w.wnone hz).symm
        · rw [del_ne ha, upd_ne ha, upd_ne ha]
      rw [ew] at w3
      exact w3
    · simp only [Den]
      refine ⟨z, kvs, rfl, upd_same, a2, ?_⟩
      rw [a3]
      exact dws.mono (sub_upd hzG)
  · cases h

/-! ### reading a list of one's own -/
theorem se_ixo {i : Nat} {x : Str} (hN : Y.N[i]? = some x) (hv : Vis sc x) (hd : (x == ("__debug__" : Str)) = false) (hcd : (x == ("__classdict__" : Str)) = false) (hb : SE Y sc fc b fb) (hs : notSlice b = true) :
    SE Y sc fc (.Subscript (.Name x p) b pos) (fun τ => (getO τ i).bind fun xs => ((fb τ).bind intD).bind fun k => atI xs k) := by
  refine ⟨fun X ok H0 G0 G W H τ σ d w s h Q q => ?_⟩
  obtain ⟨xs, hxs, h⟩ := bnd h
  obtain ⟨k, hk, h⟩ := bnd h
  obtain ⟨y, hy, hk⟩ := bnd hk
  cases y <;> simp [intD] at hk
  subst hk
  obtain ⟨a, ob, h1, h2, h3⟩ := s.own i _ (getO_some hxs)
  simp only [DenO] at h3
  obtain ⟨us, rfl, h3⟩ := h3
  refine ⟨_, pe_ix ix_list (pe_var (by rw [ok.eN]; exact hN) (ok.vis hv) hd hcd) pe_tu (plainIx_of hs), ?_⟩
  refine ⟨_, h1, ?_⟩
  refine hb.run X ok _ _ _ _ _ _ _ _ w s hy _ fun v G1 H1 e1 w1 dv => ?_
  simp only [Den] at dv
  obtain ⟨z, hz, dz⟩ := atI_den (h3.mono e1) h
  exact ⟨a, us, _, z, rfl, dv, SqL.of (w1.wh _ _ h2).1, hz, q _ _ _ e1 w1 dz⟩
theorem se_leno {i : Nat} {x : Str} (hN : Y.N[i]? = some x) (hv : Vis sc x) (hd : (x == ("__debug__" : Str)) = false) (hcd : (x == ("__classdict__" : Str)) = false) (hl : ("len" : Str) ∈ Y.bl) (hg : sc.names.lookup ("len" : Str) = some .globalImplicit) :
    SE Y sc fc (.Call (.Name "len" p1) [.Name x p] [] pos) (fun τ => (getO τ i).map fun xs => .int xs.length) := by
  refine ⟨fun X ok H0 G0 G W H τ σ d w s h Q q => ?_⟩
  obtain ⟨xs, hxs, rfl⟩ := mpd h
  obtain ⟨a, ob, h1, h2, h3⟩ := s.own i _ (getO_some hxs)
  simp only [DenO] at h3
  obtain ⟨us, rfl, h3⟩ := h3
  refine ⟨_, pe_callB call_len_seq (ok.gl hg) (ok.bl _ hl) PySem.boot_len (pa_cons (pe_var (by rw [ok.eN]; exact hN) (ok.vis hv) hd hcd) pa_nil (star_cons rfl)) (by decide +kernel) (by decide +kernel) (star_cons rfl) (star_any rfl), ?_⟩
  exact ⟨_, h1, a, us, rfl, .inl (SqL.of (w.wh _ _ h2).1), q.here w (by simp only [Den]; rw [h3.length])⟩

/-! ### targets -/
theorem wipe_set {σ : St} {i : Nat} {x : Option V} : ∀ {vs : List Nat}, i ∈ vs → wipe (σ.set i x) vs = wipe σ vs
  | [], h => by cases h
  | v :: vs, h => by
    show (wipe (σ.set i x) vs).set v none = (wipe σ vs).set v none
    by_cases hv : i ∈ vs
    · rw [wipe_set hv]
    · have e : i = v := by
        rcases List.mem_cons.mp h with e | e
        · exact e
        · exact absurd e hv
      subst e
      have : ∀ (ws : List Nat), i ∉ ws → wipe (σ.set i x) ws = (wipe σ ws).set i x := by
        intro ws
        induction ws with
        | nil => intro _; rfl
        | cons u us ih =>
          intro hu
          show (wipe (σ.set i x) us).set u none = ((wipe σ us).set u none).set i x
          rw [ih (fun z => hu (List.mem_cons_of_mem _ z)), List.set_comm]
          intro z
          exact hu (by rw [z]; exact List.mem_cons_self)
      rw [this vs hv, List.set_set]
theorem wipe_wipe (σ : St) (vs : List Nat) : wipe (wipe σ vs) vs = wipe σ vs := by
  have key : ∀ ws : List Nat, (∀ w ∈ ws, w ∈ vs) → wipe (wipe σ ws) vs = wipe σ vs := by
    intro ws
    induction ws with
    | nil => intro _; rfl
    | cons u us ih =>
      intro h
      show wipe ((wipe σ us).set u none) vs = _
      rw [wipe_set (h u List.mem_cons_self), ih fun w hw => h w (List.mem_cons_of_mem _ hw)]
  exact key vs fun _ h => h
theorem sg_nm {i : Nat} {x : Str} (hN : Y.N[i]? = some x) (hx : Loc sc x) (hf : (fc x || decide (sc.names.lookup x = some .local)) = true) : SG Y sc fc (.Name x pos) (.nm i) := by
  refine ⟨fun X ok H0 G0 G W H τ σ d v τ' w s dv h Q q => ?_⟩
  cases h
  refine ⟨_, pg_name ok.nd (by rw [ok.eN]; exact hN) (ok.loc hx) (ok.hf hf), ?_⟩
  exact q _ (s.put dv) fun vs hv => wipe_set (hv i (by simp [tixs]))
structure SGs (Y : Stat) (sc : Scope) (fc : Str → Bool) (tgs : List Expr) (is : List Nat) : Prop where
  run : ∀ X, XOk Y sc fc X → ∀ G W H τ σ ds vs τ', SlOk X.K G W τ σ → DenL X.K G ds vs → setAll is ds τ = some τ' → ∀ Q : L2.St → Hp → Prop,
    (∀ σ', SlOk X.K G W τ' σ' → (∀ ws, (∀ i ∈ is, i ∈ ws) → wipe σ' ws = wipe σ ws) → Q σ' H) → TUgs X tgs vs σ H Q
theorem sgs_nil : SGs Y sc fc [] [] := by
  refine ⟨fun X ok G W H τ σ ds vs τ' s dv h Q q => ?_⟩
  cases ds with
  | nil =>
    cases h
    simp only [DenL] at dv
    subst dv
    exact ⟨_, pgs_nil, rfl, q _ s fun _ _ => rfl⟩
  | cons d ds => simp [setAll] at h
theorem assign_star {e : Expr} {es : List Expr} {env : Env} (h : notStar e = true) : assignEach (e :: es) env = (false, assign e env) :: assignEach es env := by
  cases e <;> first | rfl | simp [notStar] at h
theorem sgs_cons {i : Nat} {x : Str} {tgs : List Expr} {is : List Nat} (hN : Y.N[i]? = some x) (hx : Loc sc x) (hf : (fc x || decide (sc.names.lookup x = some .local)) = true) (hr : SGs Y sc fc tgs is) : SGs Y sc fc (.Name x pos :: tgs) (i :: is) := by
  refine ⟨fun X ok G W H τ σ ds vs τ' s dv h Q q => ?_⟩
  cases ds with
  | nil => simp [setAll] at h
  | cons d ds =>
    simp only [setAll] at h
    simp only [DenL] at dv
    obtain ⟨v, r, rfl, d1, d2⟩ := dv
    refine ⟨_, pgs_cons (pg_name ok.nd (by rw [ok.eN]; exact hN) (ok.loc hx) (ok.hf hf)) pgs_tu (by rw [assign_star rfl]; rfl), v, r, rfl, ?_⟩
    refine hr.run X ok _ _ _ _ _ _ _ _ (s.put d1) d2 h _ fun σ' s' hw => q _ s' fun ws hi => ?_
    rw [hw ws fun j hj => hi j (List.mem_cons_of_mem _ hj)]
    exact wipe_set (hi i List.mem_cons_self)
theorem setAll_len : ∀ {is : List Nat} {ds : List D} {τ τ' : List Sl}, setAll is ds τ = some τ' → is.length = ds.length
  | [], [], _, _, _ => rfl
  | [], _ :: _, _, _, h => by simp [setAll] at h
  | _ :: _, [], _, _, h => by simp [setAll] at h
  | i :: is, d :: ds, τ, τ', h => by simp only [setAll] at h; simp [setAll_len h]
theorem assign_len {env : Env} : ∀ {tgs : List Expr}, tgs.all notStar = true → (assignEach tgs env).length = tgs.length ∧ (assignEach tgs env).findIdx? (·.1) = none
  | [], _ => ⟨rfl, rfl⟩
  | e :: es, h => by
    simp only [List.all_cons, Bool.and_eq_true] at h
    obtain ⟨a, b⟩ := assign_len (env := env) h.2
    rw [assign_star h.1]
    refine ⟨by simp [a], ?_⟩
    rw [List.findIdx?_cons, b]
    rfl
theorem sg_tp {tgs : List Expr} {is : List Nat} {k : Nat} (hn : tgs.all notStar = true) (hl : tgs.length = is.length) (hr : SGs Y sc fc tgs is) : SG Y sc fc (.Tuple tgs k pos) (.tp is) := by
  refine ⟨fun X ok H0 G0 G W H τ σ d v τ' w s dv h Q q => ?_⟩
  cases d <;> simp only [setT] at h <;> try cases h
  rename_i ds
  simp only [Den] at dv
  obtain ⟨a, us, rfl, h1, h2⟩ := dv
  obtain ⟨l1, l2⟩ := assign_len (env := X.env) hn
  refine ⟨_, pg_tup ok.calm pgs_tu l1 l2, a, us, rfl, sub_t w.gh h1, ?_, ?_⟩
  · rw [← h2.length, ← setAll_len h, hl]
  · exact hr.run X ok _ _ _ _ _ _ _ _ s h2 h _ fun σ' s' hw => q _ s' hw
end
end Pv

set_option Elab.async false
set_option linter.all false
set_option maxRecDepth 100000
set_option maxHeartbeats 4000000

namespace Pv
open PySem PySem.Spec PyProof.Rows L2

/-! ### zip of two texts -/
/-- the signs of the two texts, in new pairs -/
def ItzS (x y : Str) : It :=
  ⟨fun i _ => i < x.cps.size ∧ i < y.cps.size,
    fun i H v H' => ∃ (T : Addr) (c d : Nat), v = V.ref T ∧ H T = none ∧ H' = upd H T (.tup [V.str ⟨#[c]⟩, V.str ⟨#[d]⟩]) ∧ x.cps[i]? = some c ∧ y.cps[i]? = some d,
    fun i _ => i = min x.cps.size y.cps.size⟩
theorem turn_zipS {P : Program} {w : World} {K : PySem.W.Frag} {elts : List Expr} {kk : Nat} {tpos : Pos} {x y : Str} {t u : Tok} {z TI TO i1 i2 : Addr} (S : ZipSep2 z TI TO i1 i2 [i1] [i2]) :
    Turn P w K (.Tuple elts kk tpos) (ItzS x y) [z, TI, TO, i1, i2] z (fun i h => IsZip h z TI TO .none ∧ IsTupOf2 h TI (.ref i1) (.ref i2) ∧ (∃ a b, IsTupOf2 h TO a b) ∧ h.IsStrIter i1 (strIterType x) x t i ∧ h.IsStrIter i2 (strIterType y) y u i) where
  mem := by simp
  obj := fun i h st c hc => by
    obtain ⟨hz, hTI, ⟨a, b, hTO⟩, ⟨o1, e1, _, d1⟩, ⟨o2, e2, _, d2⟩⟩ := st
    have e' : c = z ∨ c = TI ∨ c = TO ∨ c = i1 ∨ c = i2 := by simpa using hc
    rcases e' with q | q | q | q | q
    · rw [q]; exact ⟨_, hz, fun v q => nomatch q⟩
    · rw [q]; exact ⟨_, hTI, fun v q => nomatch q⟩
    · rw [q]; exact ⟨_, hTO, fun v q => nomatch q⟩
    · rw [q]; exact ⟨o1, e1, fun v q => by rw [d1] at q; cases q⟩
    · rw [q]; exact ⟨o2, e2, fun v q => by rw [d2] at q; cases q⟩
  keep := fun i h h' st k => by
    obtain ⟨hz, hTI, ⟨a, b, hTO⟩, ⟨o1, e1, r1⟩, ⟨o2, e2, r2⟩⟩ := st
    exact ⟨k z (by simp) _ hz, k TI (by simp) _ hTI, ⟨a, b, k TO (by simp) _ hTO⟩, ⟨o1, k i1 (by simp) _ e1, r1⟩, ⟨o2, k i2 (by simp) _ e2, r2⟩⟩
  item := by
    intro X hP hw hK hc i pins s σ H E I hf st hg
    subst hP hw hK
    obtain ⟨hz, hTI, ⟨a0, b0, hTO⟩, h1, h2⟩ := st
    have hzl : z < s.heap.objs.size := Heap.lt_size hz
    have hh : X.A.in1.handled = none := I.ok.hd hc
    refine wpAny_pyNext_zipD2_item S (Draws.text hh i1 x t) (Draws.text hh i2 y u) hz hTI hTO h1 h2 hg.1 hg.2 fun x1 x2 h' tk p1 p2 hz' hTO' h1' h2' hT hsz hk => ?_
    obtain ⟨c, t1, hc1, rfl⟩ := p1
    obtain ⟨d, t2, hd1, rfl⟩ := p2
    refine ⟨_, rfl, wpAny_letOwnedTupleGo_zip (s := { s with heap := h', toks := tk }) hz' fun h'' z'' sb => ?_⟩
    have hT2 : h''.get? s.heap.objs.size = some { cls := .type "tuple", data := .seq #[.str ⟨#[c]⟩ t1, .str ⟨#[d]⟩ t2] } := (sb.2 _ (Nat.ne_of_gt hzl)).trans hT
    have new : ObjOk X.prog X.w (upd H s.heap.objs.size (.tup [V.str ⟨#[c]⟩, V.str ⟨#[d]⟩])) h'' s.heap.objs.size (.tup [V.str ⟨#[c]⟩, V.str ⟨#[d]⟩]) :=
      ⟨by show 2 ≤ sizeLine; decide, [.str ⟨#[c]⟩ t1, .str ⟨#[d]⟩ t2], .cons ⟨_, rfl⟩ (.cons ⟨_, rfl⟩ .nil), ⟨_, hT2, rfl, _, rfl⟩⟩
    have I1 : Inv X pins σ (upd H s.heap.objs.size (.tup [V.str ⟨#[c]⟩, V.str ⟨#[d]⟩])) { s with heap := h'', toks := tk } :=
      I.turnedNew (t' := tk) (ch := [z, TI, TO, i1, i2]) (fun c o hb q => (sb.2 c (fun q' => hb (by simp [q']))).trans (hk c o (fun q' => hb (by simp [q'])) (fun q' => hb (by simp [q'])) (fun q' => hb (by simp [q'])) (fun q' => hb (by simp [q'])) q)) hf (Nat.le_refl _) new
    have s1 : h''.IsStrIter i1 (strIterType x) x t (i + 1) := let ⟨o, e, r⟩ := h1'; ⟨o, (sb.2 _ (fun q => S.zi1 q.symm)).trans e, r⟩
    have s2 : h''.IsStrIter i2 (strIterType y) y u (i + 1) := let ⟨o, e, r⟩ := h2'; ⟨o, (sb.2 _ (fun q => S.zi2 q.symm)).trans e, r⟩
    refine ⟨.ref s.heap.objs.size, _, I1, rfl, ⟨_, c, d, rfl, I.hok.fresh (Nat.le_refl _), rfl, hc1, hd1⟩, ⟨z'', ?_, ⟨.str ⟨#[c]⟩ t1, .str ⟨#[d]⟩ t2, ?_⟩, s1, s2⟩, fun c hcm => ?_⟩
    · exact (sb.2 _ S.TIz).trans (hk _ _ S.TIz S.TITO S.TIi1 S.TIi2 hTI)
    · exact (sb.2 _ S.TOz).trans hTO'
    · have hlt : c < s.heap.objs.size := by
        have e' : c = z ∨ c = TI ∨ c = TO ∨ c = i1 ∨ c = i2 := by simpa using hcm
        rcases e' with q | q | q | q | q
        · rw [q]; exact hzl
        · rw [q]; exact Heap.lt_size hTI
        · rw [q]; exact Heap.lt_size hTO
        · rw [q]; obtain ⟨_, e1, _⟩ := h1; exact Heap.lt_size e1
        · rw [q]; obtain ⟨_, e2, _⟩ := h2; exact Heap.lt_size e2
      rw [upd_ne (Nat.ne_of_lt hlt)]
      exact (hf c hcm).1
  done := by
    intro X hP hw hK hc i pins s σ H E I hf st hg
    subst hP hw hK
    obtain ⟨hz, hTI, ⟨a0, b0, hTO⟩, h1, h2⟩ := st
    have hh : X.A.in1.handled = none := I.ok.hd hc
    have hg' : i = min x.cps.size y.cps.size := hg
    exact wpAny_pyNext_zipD2_end S (Draws.text hh i1 x t) (Draws.text hh i2 y u) hz hTI hTO h1 h2 (by omega) (by omega) (by omega) fun h' tk hk => ⟨rfl, I.turnedL (t' := tk) (ch := [z, TI, TO, i1, i2]) (fun c o hb q =>
      hk c o (fun q' => hb (by simp [q'])) (fun q' => hb (by simp [q'])) (fun q' => hb (by simp [q'])) (fun q' => hb (by simp [q'])) q) hf⟩
  self := fun A i s Q E st h => wpAny_pyIter_zip st.1 h
def iZipS (ta : TA) : TI := fun σ H R => ta σ H fun vs H1 => ∃ x y, vs = [V.str x, V.str y] ∧ R (ItzS x y) H1
theorem pi_zipS {X : Cx} {e e2 : Expr} {ta : TA} {p pos tpos : Pos} {elts : List Expr} {kk : Nat} (hg : Gl X "zip") (hm : X.mg "zip" = none) (ha : PA X [e, e2] ta)
    (hs : starEach [e, e2] X.env = (false, eval e X.env) :: starEach [e2] X.env := by rfl) (hpl : (backTo pos (starEach [e2] X.env)).any (·.1) = false := by rfl) :
    PI X (.Tuple elts kk tpos) (.Call (.Name "zip" p) [e, e2] [] pos) (iZipS ta) := by
  refine ⟨fun pins s σ H R I h => ?_⟩
  refine Call_ (ld_blt I hg hm PyProof.Rows.boot_zip (PyProof.Rows.callWith_type1 (thn (ha.run pos pins s σ H _ I h) fun us s1 ⟨vs, H1, I1, r1, q1⟩ => ?_) hs hpl))
  obtain ⟨x, y, ex, q⟩ := q1
  subst ex
  cases r1 with
  | cons r rr =>
    cases rr with
    | cons r' rr =>
      cases rr
      obtain ⟨t, rfl⟩ := r
      obtain ⟨u, rfl⟩ := r'
      refine zip_begins2 (begins_text x t) (begins_text y u) trivial trivial fun h' hz hTI hTO g1 g2 hsz hk => wpAny_pyIter_zip hz ?_
      have I2 : Inv X pins σ H1 { s1 with heap := h' } := I1.kept (t' := s1.toks) hk
      have S : ZipSep2 (s1.heap.objs.size + 4) (s1.heap.objs.size + 2) (s1.heap.objs.size + 3) s1.heap.objs.size (s1.heap.objs.size + 1) [s1.heap.objs.size] [s1.heap.objs.size + 1] := zip_sep2 (N := s1.heap.objs.size) (fp1 := []) (fp2 := []) (by simp) (by simp)
      refine ⟨s1.heap.objs.size + 4, [s1.heap.objs.size + 4, s1.heap.objs.size + 2, s1.heap.objs.size + 3, s1.heap.objs.size, s1.heap.objs.size + 1], _, _, H1, rfl, I2, turn_zipS (x := x) (y := y) (t := t) (u := u) S, ⟨hz, hTI, ⟨_, _, hTO⟩, ⟨_, g1, rfl, rfl⟩, ⟨_, g2, rfl, rfl⟩⟩, fun c hcm => ?_, q⟩
      have e' : c = s1.heap.objs.size + 4 ∨ c = s1.heap.objs.size + 2 ∨ c = s1.heap.objs.size + 3 ∨ c = s1.heap.objs.size ∨ c = s1.heap.objs.size + 1 := by simpa using hcm
      have hle : s1.heap.objs.size ≤ c := by
        rcases e' with z | z | z | z | z
        · rw [z]; exact Nat.le_add_right _ _
        · rw [z]; exact Nat.le_add_right _ _
        · rw [z]; exact Nat.le_add_right _ _
        · rw [z]; exact Nat.le_refl _
        · rw [z]; exact Nat.le_add_right _ _
      exact I1.fpOk hle (I1.hok.fresh hle)
theorem walk_zipS {x y : Str} {n : Nat} (hn : n = min x.cps.size y.cps.size) : Walk (ItzS x y) n (fun _ => True) (fun i H v H' => ∃ (T : Addr) (c d : Nat), v = V.ref T ∧ H T = none ∧ H' = upd H T (.tup [V.str ⟨#[c]⟩, V.str ⟨#[d]⟩]) ∧ x.cps[i]? = some c ∧ y.cps[i]? = some d) := by
  subst hn
  exact ⟨fun i _ hi _ => ⟨by omega, by omega⟩, fun _ _ => rfl, fun _ _ _ _ _ _ y => y⟩

/-! ### enumerate of a tuple -/
def IteT (K : PySem.W.Frag) (a : Addr) : It :=
  ⟨fun i H => ∃ (xs : List V) (x : V), SqT K H a xs ∧ xs[i]? = some x, fun i H v H' => ∃ T x, v = .ref T ∧ H T = none ∧ H' = upd H T (.tup [.int (i : Nat), x]) ∧ ∀ xs, SqT K H a xs → xs[i]? = some x, fun i H => ∃ xs : List V, SqT K H a xs ∧ xs.length = i⟩
theorem turn_enumT {P : Program} {w : World} {K : PySem.W.Frag} {elts : List Expr} {kk : Nat} {tpos : Pos} (a e it : Addr) (hea : e ≠ a) (hia : it ≠ a) :
    Turn P w K (.Tuple elts kk tpos) (IteT K a) [e, it] e (fun i h => (∃ old, IsEnum h e it ((i : Nat) : Int) old) ∧ h.IsTupleIter it a i ∧ e ≠ it) where
  mem := by simp
  obj := fun i h st b hb => by
    obtain ⟨⟨old, he⟩, ⟨o, ho, hc, hd⟩, _⟩ := st
    have e' : b = e ∨ b = it := by simpa using hb
    rcases e' with z | z
    · rw [z]; exact ⟨_, he, fun v q => nomatch q⟩
    · rw [z]; exact ⟨o, ho, fun v q => by rw [hd] at q; cases q⟩
  keep := fun i h h' st k => let ⟨⟨old, he⟩, hi, hne⟩ := st; ⟨⟨old, k e (by simp) _ he⟩, hi.at fun o q => k it (by simp) o q, hne⟩
  item := by
    intro X hP hw hK hc i pins s σ H E I hf st hg
    subst hP hw hK
    obtain ⟨⟨old, he⟩, hit, hne⟩ := st
    obtain ⟨xs, x, hq, hx⟩ := hg
    obtain ⟨its, rv, p, hz⟩ := I.tuple hq
    obtain ⟨u, hu, ru⟩ := rv.get hx
    have hel : e < s.heap.objs.size := Heap.lt_size he
    have hil : it < s.heap.objs.size := by obtain ⟨_, q, _⟩ := hit; exact Heap.lt_size q
    have hh : X.A.in1.handled = none := I.ok.hd hc
    have hlt : i < its.toArray.size := by
      have := (List.getElem?_eq_some_iff.mp hu).1
      simpa using this
    refine wpAny_pyNext_enum_itemD (Draws.tuple hh it a hia.symm its.toArray) he ⟨hit, p⟩ hlt hne (by simp [hne, hea]) fun x' h' tk hP ho hst hT hsz hk => ?_
    have ex : x' = u := by
      have : its.toArray[i]? = some u := by simpa using hu
      rw [this] at hP
      exact (Option.some.inj hP).symm
    subst ex
    refine ⟨_, rfl, wpAny_letOwnedTupleGo_enum (s := { s with heap := h', toks := tk + 1 }) ho fun h'' he' sb => ?_⟩
    have hT2 : h''.get? s.heap.objs.size = some { cls := .type "tuple", data := .seq #[.int i tk, x'] } := (sb.2 _ (Nat.ne_of_gt hel)).trans hT
    have new : ObjOk X.prog X.w (upd H s.heap.objs.size (.tup [.int (i : Nat), x])) h'' s.heap.objs.size (.tup [.int (i : Nat), x]) :=
      ⟨by show 2 ≤ sizeLine; decide, [.int i tk, x'], .cons ⟨_, rfl⟩ (.cons ru .nil), ⟨_, hT2, rfl, _, rfl⟩⟩
    have I1 : Inv X pins σ (upd H s.heap.objs.size (.tup [.int (i : Nat), x])) { s with heap := h'', toks := tk + 1 } :=
      I.turnedNew (t' := tk + 1) (ch := [e, it]) (fun b ob hb q => (sb.2 b (fun z => hb (by simp [z]))).trans (hk b ob (fun z => hb (by simp [z])) (fun z => hb (by simp [z])) q)) hf (Nat.le_refl _) new
    refine ⟨.ref s.heap.objs.size, _, I1, rfl, ⟨_, x, rfl, I.hok.fresh (Nat.le_refl _), rfl, fun ys hy => by rw [I.tuple_inj hy hq]; exact hx⟩, ⟨⟨x', ?_⟩, hst.1.at fun o q => (sb.2 it (Ne.symm hne)).trans q, hne⟩, fun b hb => ?_⟩
    · have e1 : ((i + 1 : Nat) : Int) = (i : Int) + 1 := by omega
      rw [e1]; exact he'
    · have hb' : b < s.heap.objs.size := by
        have e' : b = e ∨ b = it := by simpa using hb
        rcases e' with z | z
        · rw [z]; exact hel
        · rw [z]; exact hil
      rw [upd_ne (Nat.ne_of_lt hb')]
      exact (hf b hb).1
  done := by
    intro X hP hw hK hc i pins s σ H E I hf st hg
    subst hP hw hK
    obtain ⟨⟨old, he⟩, hit, hne⟩ := st
    obtain ⟨xs, hq, hx⟩ := hg
    obtain ⟨its, rv, p, hz⟩ := I.tuple hq
    obtain ⟨f0, f1, f2, f3, f4, f5⟩ := hf it (by simp)
    have hh : X.A.in1.handled = none := I.ok.hd hc
    have hl := rv.length
    have hi : i = its.toArray.size := by simp; omega
    subst hi
    exact wpAny_pyNext_enum_endD (Draws.tuple hh it a hia.symm its.toArray) he ⟨hit, p⟩ fun h' eb => ⟨rfl, I.turned (t' := s.toks) (fun b o hb q => eb b o hb q) f0 f1 f3 f4 f5⟩
  self := fun A i s Q E st h => let ⟨⟨_, he⟩, _⟩ := st; wpAny_pyIter_enum he h
set_option maxHeartbeats 1000000 in
theorem meets_enumerate_newB1 {v : Value} {o : Obj} {H : Heap → Prop} (B : Begins v o H) :
    Meets (Builtin.«enumerate.__new__» ⟨[.type "enumerate", v], []⟩) (fun _ R s => H s.heap ∧
      R (.ok (.ret (.ref (s.heap.push o).objs.size))) { s with heap := (s.heap.push o).push { cls := .type "enumerate", data := .fields #[.none, .bool false, .ref s.heap.objs.size, rawInt 0, .none, .none] } }) :=
  .of_wp fun prog w A R s h => by
    obtain ⟨hp, g, d, tk, os⟩ := s; obtain ⟨h1, h⟩ := h
    have hsub := sub_enumerate
    have q1 : ∀ {A' : Around} {E : Value → Shared → Prop} {Q : Value → Shared → Prop}, Q (.ref hp.objs.size) ⟨hp.push o, g, d, tk, os⟩ → wpAny (model prog w) A' (pyIter v) Q E ⟨hp, g, d, tk, os⟩ :=
      fun q => B.iter prog w _ _ ⟨hp, g, d, tk, os⟩ _ h1 q
    wp_walk using q1
    refine wpAny_stack_any fun st => wpAny_pure ?_
    split
    · rename_i c _ _ _ _ _
      cases (c == Value.type "enumerate")
      · wp_walk using q1
        exact ⟨_, rfl, h⟩
      · wp_walk using q1
        exact ⟨_, rfl, h⟩
    · wp_walk using q1
      exact ⟨_, rfl, h⟩
section
variable {prog : Program} {w : World} {A : Around} {E : Value → Shared → Prop} {s : Shared}
theorem enum_begins1 {v : Value} {o : Obj} {H : Heap → Prop} {Q : Value → Shared → Prop} (B : Begins v o H) (h1 : H s.heap)
    (h : ∀ h', IsEnum h' (s.heap.objs.size + 1) s.heap.objs.size 0 .none → h'.get? s.heap.objs.size = some o → h'.objs.size = s.heap.objs.size + 2 →
      (∀ b o, s.heap.get? b = some o → h'.get? b = some o) → Q (.ref (s.heap.objs.size + 1)) { s with heap := h' }) :
    wpAny (model prog w) A (call (.type "enumerate") [v]) Q E s := by
  refine callType_new F.called_enumerate (by decide) (F.typeCall_enumerate_1 _) (F.newCall_enumerate_1 _) (fun obj => F.args_object_init_2 obj _) F.entry_enumerate_new
    (meets_enumerate_newB1 B) ⟨h1, ?_⟩
  have hz : (s.heap.push o).objs.size = s.heap.objs.size + 1 := Heap.size_push ..
  show _ ∧ _
  rw [hz]
  have he : IsEnum ((s.heap.push o).push { cls := .type "enumerate", data := .fields #[.none, .bool false, .ref s.heap.objs.size, rawInt 0, .none, .none] }) (s.heap.objs.size + 1) s.heap.objs.size 0 .none := by
    have := Heap.get?_push_size (s.heap.push o) (o := { cls := .type "enumerate", data := .fields #[.none, .bool false, .ref s.heap.objs.size, rawInt 0, .none, .none] }) rfl
    rw [hz] at this; exact this
  refine ⟨⟨_, he, rfl⟩, h _ he (Heap.get?_push_of_some _ (Heap.get?_push_size _ B.free)) (by rw [Heap.size_push, hz]) fun b o x => Heap.get?_push_of_some _ (Heap.get?_push_of_some _ x)⟩
end
def iEnumT (K : PySem.W.Frag) (ta : TA) : TI := fun σ H R => ta σ H fun vs H1 => ∃ a xs, vs = [.ref a] ∧ SqT K H1 a xs ∧ R (IteT K a) H1
theorem pi_enumT {X : Cx} {e : Expr} {ta : TA} {p pos tpos : Pos} {elts : List Expr} {kk : Nat} (hg : Gl X "enumerate") (hm : X.mg "enumerate" = none) (ha : PA X [e] ta) (hs : starEach [e] X.env = [(false, eval e X.env)] := by rfl) :
    PI X (.Tuple elts kk tpos) (.Call (.Name "enumerate" p) [e] [] pos) (iEnumT X.K ta) := by
  refine ⟨fun pins s σ H R I h => ?_⟩
  refine Call_ (ld_blt I hg hm boot_enumerate (PyProof.Rows.callWith_type1 (thn (ha.run pos pins s σ H _ I h) fun us s1 ⟨vs, H1, I1, r1, q1⟩ => ?_) hs rfl))
  obtain ⟨a, xs, ex, hq, q⟩ := q1
  subst ex
  cases r1 with
  | cons r rr =>
    cases rr
    cases r
    obtain ⟨its, rv, p', hz⟩ := I1.tuple hq
    have hal : a < s1.heap.objs.size := by obtain ⟨o, ho, _⟩ := p'; exact Heap.lt_size ho
    refine enum_begins1 (begins_tuple a its.toArray) p' fun h' he hit hsz hk => wpAny_pyIter_enum he ?_
    have I2 : Inv X pins σ H1 { s1 with heap := h' } := I1.kept (t' := s1.toks) hk
    refine ⟨s1.heap.objs.size + 1, [s1.heap.objs.size + 1, s1.heap.objs.size], _, _, H1, rfl, I2, turn_enumT a (s1.heap.objs.size + 1) s1.heap.objs.size (Nat.ne_of_gt (Nat.lt_succ_of_lt hal)) (Nat.ne_of_gt hal), ⟨⟨.none, he⟩, ⟨_, hit, rfl, rfl⟩, Nat.succ_ne_self _⟩, fun b hb => ?_, q⟩
    have e' : b = s1.heap.objs.size + 1 ∨ b = s1.heap.objs.size := by simpa using hb
    have hle : s1.heap.objs.size ≤ b := by
      rcases e' with z | z
      · rw [z]; exact Nat.le_add_right _ _
      · rw [z]; exact Nat.le_refl _
    exact I1.fpOk hle (I1.hok.fresh hle)
theorem walk_enumT {K : PySem.W.Frag} {a : Addr} {xs : List V} : Walk (IteT K a) xs.length (fun H => SqT K H a xs) (YPair (fun i => some (.int (i : Nat))) (fun i => xs[i]?)) := by
  refine ⟨fun i _ hi q => ⟨xs, xs[i], q, by simp [hi]⟩, fun _ q => ⟨xs, q, rfl⟩, fun i H v H' _ q y => ?_⟩
  obtain ⟨T, x, h1, h2, h3, h4⟩ := y
  exact ⟨T, .int (i : Nat), x, h1, h2, h3, rfl, h4 xs q⟩
theorem walk_zipT {K : PySem.W.Frag} {a b : Addr} {xs ys : List V} {n : Nat} (hn : n = min xs.length ys.length) : Walk (RZ.ItzT K a b) n (fun H => SqT K H a xs ∧ SqT K H b ys) (YPair (fun i => xs[i]?) (fun i => ys[i]?)) := by
  subst hn
  refine ⟨fun i _ hi q => ?_, fun _ q => ⟨xs, ys, q.1, q.2, by omega⟩, fun i H v H' _ q y => ?_⟩
  · have h1 : i < xs.length := by omega
    have h2 : i < ys.length := by omega
    exact ⟨xs, ys, xs[i], ys[i], q.1, q.2, by simp [h1], by simp [h2]⟩
  · obtain ⟨T, x, z, h1, h2, h3, h4, h5⟩ := y
    exact ⟨T, x, z, h1, h2, h3, h4 xs q.1, h5 ys q.2⟩
/-! ### enumerate of a text -/
def IteS (x : Str) : It :=
  ⟨fun i _ => i < x.cps.size, fun i H v H' => ∃ (T : Addr) (c : Nat), v = .ref T ∧ H T = none ∧ H' = upd H T (.tup [.int (i : Nat), .str ⟨#[c]⟩]) ∧ x.cps[i]? = some c, fun i _ => i = x.cps.size⟩
theorem turn_enumS {P : Program} {w : World} {K : PySem.W.Frag} {elts : List Expr} {kk : Nat} {tpos : Pos} {x : Str} {t : Tok} (e it : Addr) :
    Turn P w K (.Tuple elts kk tpos) (IteS x) [e, it] e (fun i h => (∃ old, IsEnum h e it ((i : Nat) : Int) old) ∧ h.IsStrIter it (strIterType x) x t i ∧ e ≠ it) where
  mem := by simp
  obj := fun i h st b hb => by
    obtain ⟨⟨old, he⟩, ⟨o, ho, hc, hd⟩, _⟩ := st
    rcases (show b = e ∨ b = it by simpa using hb) with z | z
    · rw [z]; exact ⟨_, he, fun v q => nomatch q⟩
    · rw [z]; exact ⟨o, ho, fun v q => by rw [hd] at q; cases q⟩
  keep := fun i h h' st k => let ⟨⟨old, he⟩, ⟨o, q, r⟩, hne⟩ := st; ⟨⟨old, k e (by simp) _ he⟩, ⟨o, k it (by simp) _ q, r⟩, hne⟩
  item := by
    intro X hP hw hK hc i pins s σ H E I hf st hg
    subst hP hw hK
    obtain ⟨⟨old, he⟩, hit, hne⟩ := st
    have hel : e < s.heap.objs.size := Heap.lt_size he
    have hil : it < s.heap.objs.size := by obtain ⟨_, q, _⟩ := hit; exact Heap.lt_size q
    have hh : X.A.in1.handled = none := I.ok.hd hc
    refine wpAny_pyNext_enum_itemD (Draws.text hh it x t) he hit hg hne (by simp [hne]) fun x' h' tk hP ho hst hT hsz hk => ?_
    obtain ⟨c, t1, hc1, rfl⟩ := hP
    refine ⟨_, rfl, wpAny_letOwnedTupleGo_enum (s := { s with heap := h', toks := tk + 1 }) ho fun h'' he' sb => ?_⟩
    have hT2 : h''.get? s.heap.objs.size = some { cls := .type "tuple", data := .seq #[.int i tk, .str ⟨#[c]⟩ t1] } := (sb.2 _ (Nat.ne_of_gt hel)).trans hT
    have new : ObjOk X.prog X.w (upd H s.heap.objs.size (.tup [.int (i : Nat), .str ⟨#[c]⟩])) h'' s.heap.objs.size (.tup [.int (i : Nat), .str ⟨#[c]⟩]) :=
      ⟨by show 2 ≤ sizeLine; decide, [.int i tk, .str ⟨#[c]⟩ t1], .cons ⟨_, rfl⟩ (.cons ⟨_, rfl⟩ .nil), ⟨_, hT2, rfl, _, rfl⟩⟩
    have I1 : Inv X pins σ (upd H s.heap.objs.size (.tup [.int (i : Nat), .str ⟨#[c]⟩])) { s with heap := h'', toks := tk + 1 } :=
      I.turnedNew (t' := tk + 1) (ch := [e, it]) (fun b ob hb q => (sb.2 b (fun z => hb (by simp [z]))).trans (hk b ob (fun z => hb (by simp [z])) (fun z => hb (by simp [z])) q)) hf (Nat.le_refl _) new
    refine ⟨.ref s.heap.objs.size, _, I1, rfl, ⟨_, c, rfl, I.hok.fresh (Nat.le_refl _), rfl, hc1⟩, ⟨⟨.str ⟨#[c]⟩ t1, ?_⟩, let ⟨o, q, r⟩ := hst; ⟨o, (sb.2 it (Ne.symm hne)).trans q, r⟩, hne⟩, fun b hb => ?_⟩
    · have e1 : ((i + 1 : Nat) : Int) = (i : Int) + 1 := by omega
      rw [e1]; exact he'
    · have hb' : b < s.heap.objs.size := by
        rcases (show b = e ∨ b = it by simpa using hb) with z | z
        · rw [z]; exact hel
        · rw [z]; exact hil
      rw [upd_ne (Nat.ne_of_lt hb')]
      exact (hf b hb).1
  done := by
    intro X hP hw hK hc i pins s σ H E I hf st hg
    subst hP hw hK
    obtain ⟨⟨old, he⟩, hit, hne⟩ := st
    obtain ⟨f0, f1, f2, f3, f4, f5⟩ := hf it (by simp)
    have hh : X.A.in1.handled = none := I.ok.hd hc
    have hi : i = x.cps.size := hg
    subst hi
    exact wpAny_pyNext_enum_endD (Draws.text hh it x t) he hit fun h' eb => ⟨rfl, I.turned (t' := s.toks) (fun b o hb q => eb b o hb q) f0 f1 f3 f4 f5⟩
  self := fun A i s Q E st h => let ⟨⟨_, he⟩, _⟩ := st; wpAny_pyIter_enum he h
def iEnumS (ta : TA) : TI := fun σ H R => ta σ H fun vs H1 => ∃ x, vs = [V.str x] ∧ R (IteS x) H1
theorem pi_enumS {X : Cx} {e : Expr} {ta : TA} {p pos tpos : Pos} {elts : List Expr} {kk : Nat} (hg : Gl X "enumerate") (hm : X.mg "enumerate" = none) (ha : PA X [e] ta) (hs : starEach [e] X.env = [(false, eval e X.env)] := by rfl) :
    PI X (.Tuple elts kk tpos) (.Call (.Name "enumerate" p) [e] [] pos) (iEnumS ta) := by
  refine ⟨fun pins s σ H R I h => ?_⟩
  refine Call_ (ld_blt I hg hm boot_enumerate (PyProof.Rows.callWith_type1 (thn (ha.run pos pins s σ H _ I h) fun us s1 ⟨vs, H1, I1, r1, q1⟩ => ?_) hs rfl))
  obtain ⟨x, ex, q⟩ := q1
  subst ex
  cases r1 with
  | cons r rr =>
    cases rr
    obtain ⟨t, rfl⟩ := r
    refine enum_begins1 (begins_text x t) trivial fun h' he hit hsz hk => wpAny_pyIter_enum he ?_
    have I2 : Inv X pins σ H1 { s1 with heap := h' } := I1.kept (t' := s1.toks) hk
    refine ⟨s1.heap.objs.size + 1, [s1.heap.objs.size + 1, s1.heap.objs.size], _, _, H1, rfl, I2, turn_enumS (x := x) (t := t) (s1.heap.objs.size + 1) s1.heap.objs.size, ⟨⟨.none, he⟩, ⟨_, hit, rfl, rfl⟩, Nat.succ_ne_self _⟩, fun b hb => ?_, q⟩
    have hle : s1.heap.objs.size ≤ b := by
      rcases (show b = s1.heap.objs.size + 1 ∨ b = s1.heap.objs.size by simpa using hb) with z | z
      · rw [z]; exact Nat.le_add_right _ _
      · rw [z]; exact Nat.le_refl _
    exact I1.fpOk hle (I1.hok.fresh hle)
theorem walk_enumS {x : Str} {n : Nat} (hn : n = x.cps.size) : Walk (IteS x) n (fun _ => True) (fun i H v H' => ∃ (T : Addr) (c : Nat), v = .ref T ∧ H T = none ∧ H' = upd H T (.tup [.int (i : Nat), .str ⟨#[c]⟩]) ∧ x.cps[i]? = some c) := by
  subst hn
  exact ⟨fun i _ hi _ => hi, fun _ _ => rfl, fun _ _ _ _ _ _ y => y⟩
end Pv

set_option Elab.async false
set_option linter.all false
set_option maxRecDepth 100000
set_option maxHeartbeats 4000000

namespace Pv
open PySem PySem.Spec L2

section
variable {Y : Stat} {sc : Scope} {fc : Str → Bool} {pos p p1 p2 : Pos} {a b c tg : Expr} {es : List Expr} {fa fb fd : List Sl → Option D} {fL fK : List Sl → Option (List D)}

/-! ### what is walked -/
theorem den_strs {K : PySem.W.Frag} {G : Hp} (z : List Nat) (i : Nat) (c : Nat) (h : z[i]? = some c) : (z.map fun c => D.str [c])[i]? = some (.str [c]) := by simp [h]
theorem si_seq (ha : SE Y sc fc a fa) : SI Y sc fc tg a (fun τ => (fa τ).bind seqD) := by
  refine ⟨fun X ok H0 G0 G W H τ σ ds w s h R q => ?_⟩
  obtain ⟨x, hx, h⟩ := bnd h
  unfold seqD at h
  split at h
  · cases h
    refine ⟨_, pi_list pe_tu, ?_⟩
    refine ha.run X ok _ _ _ _ _ _ _ _ w s hx _ fun v G1 H1 e1 w1 dv => ?_
    simp only [Den] at dv
    obtain ⟨p, us, rfl, hp, hu⟩ := dv
    refine ⟨p, rfl, ⟨us, SqL.of (w1.gh _ _ hp)⟩, q _ _ _ _ _ _ e1 w1 (walk_list (xs := us)) hu.length.symm (fun H'' e => SqL.of (e _ _ hp)) fun i H2 x H3 G2 W2 hi e2 w2 y => ?_⟩
    obtain ⟨rfl, hxi⟩ := y
    obtain ⟨d, h1, h2⟩ := hu.getV hxi
    exact ⟨G2, d, Sub.refl _, w2, h1, h2.mono e2⟩
  · rename_i ns
    cases h
    refine ⟨_, pi_list pe_tu, ?_⟩
    refine ha.run X ok _ _ _ _ _ _ _ _ w s hx _ fun v G1 H1 e1 w1 dv => ?_
    simp only [Den] at dv
    obtain ⟨p, rfl, hp⟩ := dv
    refine ⟨p, rfl, ⟨_, sub_l w1.gh hp⟩, q _ _ _ _ _ _ e1 w1 (walk_list (xs := ns.map V.int)) (by simp) (fun H'' e => sub_l e hp) fun i H2 x H3 G2 W2 hi e2 w2 y => ?_⟩
    obtain ⟨rfl, hxi⟩ := y
    rw [List.getElem?_map] at hxi
    obtain ⟨n, hn, rfl⟩ := mpd hxi
    exact ⟨G2, .int n, Sub.refl _, w2, by rw [List.getElem?_map, hn]; rfl, by simp only [Den]⟩
  · cases h
    refine ⟨_, pi_tup pe_tu, ?_⟩
    refine ha.run X ok _ _ _ _ _ _ _ _ w s hx _ fun v G1 H1 e1 w1 dv => ?_
    simp only [Den] at dv
    obtain ⟨p, us, rfl, hp, hu⟩ := dv
    refine ⟨p, rfl, ⟨us, sub_t w1.gh hp⟩, q _ _ _ _ _ _ e1 w1 (walk_tup (xs := us)) hu.length.symm (fun H'' e => sub_t e hp) fun i H2 x H3 G2 W2 hi e2 w2 y => ?_⟩
    obtain ⟨rfl, hxi⟩ := y
    obtain ⟨d, h1, h2⟩ := hu.getV hxi
    exact ⟨G2, d, Sub.refl _, w2, h1, h2.mono e2⟩
  · rename_i z
    cases h
    refine ⟨_, pi_str pe_tu, ?_⟩
    refine ha.run X ok _ _ _ _ _ _ _ _ w s hx _ fun v G1 H1 e1 w1 dv => ?_
    simp only [Den] at dv
    subst dv
    refine ⟨mkS z, rfl, q _ _ _ _ _ _ e1 w1 (walk_str (z := mkS z)) (by simp) (fun H'' e => trivial) fun i H2 x H3 G2 W2 hi e2 w2 y => ?_⟩
    obtain ⟨rfl, c, hc, rfl⟩ := y
    refine ⟨G2, .str [c], Sub.refl _, w2, by simp at hc ⊢; exact hc, by simp only [Den]⟩
  · cases h
theorem rng_get : ∀ (n : Nat) (lo : Int) (i : Nat), i < n → (rngD lo n)[i]? = some (.int (lo + i))
  | 0, _, _, h => by omega
  | n + 1, lo, 0, _ => by simp [rngD]
  | n + 1, lo, i + 1, h => by
    have := rng_get n (lo + 1) i (by omega)
    simp only [rngD, List.getElem?_cons_succ, this]
    congr 2
    omega
theorem rng_len : ∀ (n : Nat) (lo : Int), (rngD lo n).length = n
  | 0, _ => rfl
  | n + 1, lo => by simp [rngD, rng_len n]
theorem okR_of {i : Int} (h : okR i = true) : -(2 ^ 62) ≤ i ∧ i < 2 ^ 62 := by simpa [okR] using h
theorem si_r1 (hg : sc.names.lookup ("range" : Str) = some .globalImplicit) (hb : ("range" : Str) ∈ Y.bl) (hn : notStar a = true) (ha : SE Y sc fc a fa) :
    SI Y sc fc tg (.Call (.Name "range" p) [a] [] pos) (fun τ => ((fa τ).bind intD).bind fun i => if okR i then some (rngD 0 i.toNat) else none) := by
  refine ⟨fun X ok H0 G0 G W H τ σ ds w s h R q => ?_⟩
  obtain ⟨i, hi, h⟩ := bnd h
  obtain ⟨x, hx, hi⟩ := bnd hi
  split at h
  · rename_i hr
    cases h
    cases x <;> simp [intD] at hi
    subst hi
    refine ⟨_, pi_range1 (ok.gl hg) (ok.bl _ hb) (pa_cons pe_tu pa_nil (star_cons hn)) (star_cons hn), ?_⟩
    refine ha.run X ok _ _ _ _ _ _ _ _ w s hx _ fun v G1 H1 e1 w1 dv => ?_
    simp only [Den] at dv
    subst dv
    obtain ⟨r1, r2⟩ := okR_of hr
    refine ⟨_, rfl, r1, r2, q _ _ _ _ _ _ e1 w1 walk_range (rng_len _ _).symm (fun H'' e => trivial) fun j H2 x H3 G2 W2 hj e2 w2 y => ?_⟩
    obtain ⟨rfl, rfl⟩ := y
    exact ⟨G2, _, Sub.refl _, w2, rng_get _ _ _ hj, by simp only [Den]⟩
  · cases h
theorem si_r2 (hg : sc.names.lookup ("range" : Str) = some .globalImplicit) (hb : ("range" : Str) ∈ Y.bl) (hn : notStar a = true) (hn2 : notStar b = true) (ha : SE Y sc fc a fa) (hb' : SE Y sc fc b fb) :
    SI Y sc fc tg (.Call (.Name "range" p) [a, b] [] pos) (fun τ => ((fa τ).bind intD).bind fun i => ((fb τ).bind intD).bind fun j => if okR i && okR j then some (rngD i (j - i).toNat) else none) := by
  refine ⟨fun X ok H0 G0 G W H τ σ ds w s h R q => ?_⟩
  obtain ⟨i, hi, h⟩ := bnd h
  obtain ⟨x, hx, hi⟩ := bnd hi
  obtain ⟨j, hj, h⟩ := bnd h
  obtain ⟨y, hy, hj⟩ := bnd hj
  split at h
  · rename_i hr
    cases h
    rw [Bool.and_eq_true] at hr
    cases x <;> simp [intD] at hi
    subst hi
    cases y <;> simp [intD] at hj
    subst hj
    refine ⟨_, pi_range2 (ok.gl hg) (ok.bl _ hb) (pa_cons pe_tu (pa_cons pe_tu pa_nil (star_cons hn2)) (star_cons hn)) (by rw [star_cons hn, star_cons hn2]; rfl) (star_cons hn2), ?_⟩
    refine ha.run X ok _ _ _ _ _ _ _ _ w s hx _ fun v G1 H1 e1 w1 dv => ?_
    refine hb'.run X ok _ _ _ _ _ _ _ _ w1 (s.mono e1) hy _ fun u G2 H2 e2 w2 du => ?_
    simp only [Den] at dv du
    subst dv du
    obtain ⟨r1, r2⟩ := okR_of hr.1
    obtain ⟨r3, r4⟩ := okR_of hr.2
    refine ⟨_, _, rfl, ⟨r1, r2, r3, r4⟩, q _ _ _ _ _ _ (e1.trans e2) w2 walk_range (rng_len _ _).symm (fun H'' e => trivial) fun j H2 x H3 G2 W2 hj e2 w2 y => ?_⟩
    obtain ⟨rfl, rfl⟩ := y
    exact ⟨G2, _, Sub.refl _, w2, rng_get _ _ _ hj, by simp only [Den]⟩
  · cases h
theorem enum_get : ∀ (ds : List D) (k i : Nat) (d : D), ds[i]? = some d → (enumD k ds)[i]? = some (.tup [.int ((k + i : Nat) : Int), d])
  | [], _, _, _, h => by simp at h
  | x :: ds, k, 0, d, h => by simp at h; subst h; simp [enumD]
  | x :: ds, k, i + 1, d, h => by
    have := enum_get ds (k + 1) i d (by simpa using h)
    simp only [enumD, List.getElem?_cons_succ, this]
    congr 5
    omega
theorem enum_len : ∀ (ds : List D) (k : Nat), (enumD k ds).length = ds.length
  | [], _ => rfl
  | x :: ds, k => by simp [enumD, enum_len ds]
theorem pair_new {K : PySem.W.Frag} {H0 G0 G W H : Hp} {T : Addr} {x y : V} {d e : D} (w : Wd H0 G0 G W H) (hT : H T = none) (h1 : Den K G d x) (h2 : Den K G e y) :
    ∃ G2, Sub G G2 ∧ Wd H0 G0 G2 W (upd H T (.tup [x, y])) ∧ Den K G2 (.tup [d, e]) (.ref T) := by
  have e1 : Sub G (upd G T (.tup [x, y])) := sub_upd (w.gnone hT)
  refine ⟨_, e1, w.new hT, ?_⟩
  simp only [Den, DenL]
  exact ⟨T, [x, y], rfl, SqT.of upd_same, x, [y], rfl, h1.mono e1, y, [], rfl, h2.mono e1, rfl⟩
theorem si_enum {k : Nat} {tp : Pos} (hg : sc.names.lookup ("enumerate" : Str) = some .globalImplicit) (hb : ("enumerate" : Str) ∈ Y.bl) (hn : notStar a = true) (ha : SE Y sc fc a fa) :
    SI Y sc fc (.Tuple es k tp) (.Call (.Name "enumerate" p) [a] [] pos) (fun τ => (fa τ).bind fun x => match x with | .lst ds => some (enumD 0 ds) | .tup ds => some (enumD 0 ds) | .str ds => some (enumD 0 (ds.map fun c => .str [c])) | _ => none) := by
  refine ⟨fun X ok H0 G0 G W H τ σ ds w s h R q => ?_⟩
  obtain ⟨x, hx, h⟩ := bnd h
  split at h
  · cases h
    refine ⟨_, pi_enum (ok.gl hg) (ok.bl _ hb) (pa_cons pe_tu pa_nil (star_cons hn)) (star_cons hn), ?_⟩
    refine ha.run X ok _ _ _ _ _ _ _ _ w s hx _ fun v G1 H1 e1 w1 dv => ?_
    simp only [Den] at dv
    obtain ⟨p, us, rfl, hp, hu⟩ := dv
    refine ⟨p, us, rfl, SqL.of (w1.gh _ _ hp), q _ _ _ _ _ _ e1 w1 (walk_enum (xs := us)) (by rw [enum_len, hu.length]) (fun H'' e => SqL.of (e _ _ hp)) fun i H2 x H3 G2 W2 hi e2 w2 y => ?_⟩
    obtain ⟨T, x, z, rfl, hT, rfl, hx', hz⟩ := y
    cases hx'
    obtain ⟨d, h1, h2⟩ := hu.getV hz
    obtain ⟨G3, a1, a2, a3⟩ := pair_new (K := X.K) (d := .int (i : Nat)) (x := .int (i : Nat)) w2 hT (by simp only [Den]) (h2.mono e2)
    exact ⟨G3, _, a1, a2, by rw [enum_get _ 0 i d h1, Nat.zero_add], a3⟩
  · cases h
    refine ⟨_, pi_enumT (ok.gl hg) (ok.bl _ hb) (pa_cons pe_tu pa_nil (star_cons hn)) (star_cons hn), ?_⟩
    refine ha.run X ok _ _ _ _ _ _ _ _ w s hx _ fun v G1 H1 e1 w1 dv => ?_
    simp only [Den] at dv
    obtain ⟨p, us, rfl, hp, hu⟩ := dv
    refine ⟨p, us, rfl, sub_t w1.gh hp, q _ _ _ _ _ _ e1 w1 (walk_enumT (xs := us)) (by rw [enum_len, hu.length]) (fun H'' e => sub_t e hp) fun i H2 x H3 G2 W2 hi e2 w2 y => ?_⟩
    obtain ⟨T, x, z, rfl, hT, rfl, hx', hz⟩ := y
    cases hx'
    obtain ⟨d, h1, h2⟩ := hu.getV hz
    obtain ⟨G3, a1, a2, a3⟩ := pair_new (K := X.K) (d := .int (i : Nat)) (x := .int (i : Nat)) w2 hT (by simp only [Den]) (h2.mono e2)
    exact ⟨G3, _, a1, a2, by rw [enum_get _ 0 i d h1, Nat.zero_add], a3⟩
  · rename_i cs
    cases h
    refine ⟨_, pi_enumS (ok.gl hg) (ok.bl _ hb) (pa_cons pe_tu pa_nil (star_cons hn)) (star_cons hn), ?_⟩
    refine ha.run X ok _ _ _ _ _ _ _ _ w s hx _ fun v G1 H1 e1 w1 dv => ?_
    simp only [Den] at dv
    subst dv
    refine ⟨_, rfl, q _ _ _ _ _ _ e1 w1 (walk_enumS rfl) (by rw [enum_len]; simp [mkS]) (fun H'' e => trivial) fun i H2 x H3 G2 W2 hi e2 w2 y => ?_⟩
    obtain ⟨T, c, rfl, hT, rfl, hc⟩ := y
    obtain ⟨G3, a1, a2, a3⟩ := pair_new (K := X.K) (d := .int (i : Nat)) (e := .str [c]) (x := .int (i : Nat)) (y := .str ⟨#[c]⟩) w2 hT (by simp only [Den]) (by simp only [Den])
    refine ⟨G3, _, a1, a2, ?_, a3⟩
    have h1 : (cs.map fun c => D.str [c])[i]? = some (.str [c]) := by
      have hc' : cs[i]? = some c := by simpa [mkS] using hc
      simp [hc']
    rw [enum_get _ 0 i _ h1, Nat.zero_add]
  · cases h
theorem zip_get : ∀ (ds es : List D) (i : Nat) (d e : D), ds[i]? = some d → es[i]? = some e → (zipD ds es)[i]? = some (.tup [d, e])
  | [], _, _, _, _, h, _ => by simp at h
  | _ :: _, [], _, _, _, _, h => by simp at h
  | x :: ds, y :: es, 0, d, e, h, h' => by simp at h h'; subst h h'; simp [zipD]
  | x :: ds, y :: es, i + 1, d, e, h, h' => by
    have := zip_get ds es i d e (by simpa using h) (by simpa using h')
    simpa only [zipD, List.getElem?_cons_succ] using this
theorem zip_len : ∀ (ds es : List D), (zipD ds es).length = min ds.length es.length
  | [], _ => by simp [zipD]
  | _ :: _, [] => by simp [zipD]
  | x :: ds, y :: es => by simp [zipD, zip_len ds es]
theorem si_zip {k : Nat} {tp : Pos} (hg : sc.names.lookup ("zip" : Str) = some .globalImplicit) (hb : ("zip" : Str) ∈ Y.bl) (hn : notStar a = true) (hn2 : notStar b = true) (ha : SE Y sc fc a fa) (hb' : SE Y sc fc b fb) :
    SI Y sc fc (.Tuple es k tp) (.Call (.Name "zip" p) [a, b] [] pos) (fun τ => (fa τ).bind fun x => (fb τ).bind fun y => match x, y with | .lst ds, .lst es => some (zipD ds es) | .tup ds, .tup es => some (zipD ds es) | .str ds, .str es => some (zipD (ds.map fun c => .str [c]) (es.map fun c => .str [c])) | _, _ => none) := by
  refine ⟨fun X ok H0 G0 G W H τ σ ds w s h R q => ?_⟩
  obtain ⟨x, hx, h⟩ := bnd h
  obtain ⟨y, hy, h⟩ := bnd h
  split at h
  · cases h
    refine ⟨_, pi_zip (ok.gl hg) (ok.bl _ hb) (pa_cons pe_tu (pa_cons pe_tu pa_nil (star_cons hn2)) (star_cons hn)) (star_cons hn) (star_any (by simp [hn2])), ?_⟩
    refine ha.run X ok _ _ _ _ _ _ _ _ w s hx _ fun v G1 H1 e1 w1 dv => ?_
    refine hb'.run X ok _ _ _ _ _ _ _ _ w1 (s.mono e1) hy _ fun u G2 H2 e2 w2 du => ?_
    replace dv := dv.mono e2
    simp only [Den] at dv du
    obtain ⟨p, us, rfl, hp, hu⟩ := dv
    obtain ⟨p', us', rfl, hp', hu'⟩ := du
    refine ⟨p, p', us, us', rfl, SqL.of (w2.gh _ _ hp), SqL.of (w2.gh _ _ hp'), q _ _ _ _ _ _ (e1.trans e2) w2 (walk_zip (xs := us) (ys := us') rfl) (by rw [zip_len, hu.length, hu'.length]) (fun H'' e => ⟨SqL.of (e _ _ hp), SqL.of (e _ _ hp')⟩) fun i H3 x H4 G3 W2 hi e3 w3 y => ?_⟩
    obtain ⟨T, x, z, rfl, hT, rfl, hx', hz⟩ := y
    obtain ⟨d, h1, h2⟩ := hu.getV hx'
    obtain ⟨d', h1', h2'⟩ := hu'.getV hz
    obtain ⟨G4, a1, a2, a3⟩ := pair_new (K := X.K) w3 hT (h2.mono e3) (h2'.mono e3)
    exact ⟨G4, _, a1, a2, zip_get _ _ _ _ _ h1 h1', a3⟩
  · cases h
    refine ⟨_, RZ.pi_zipA (ok.gl hg) (ok.bl _ hb) (pa_cons pe_tu (pa_cons pe_tu pa_nil (star_cons hn2)) (star_cons hn)) (star_cons hn) (star_any (by simp [hn2])), ?_⟩
    refine ha.run X ok _ _ _ _ _ _ _ _ w s hx _ fun v G1 H1 e1 w1 dv => ?_
    refine hb'.run X ok _ _ _ _ _ _ _ _ w1 (s.mono e1) hy _ fun u G2 H2 e2 w2 du => ?_
    replace dv := dv.mono e2
    simp only [Den] at dv du
    obtain ⟨p, us, rfl, hp, hu⟩ := dv
    obtain ⟨p', us', rfl, hp', hu'⟩ := du
    refine ⟨p, p', us, us', rfl, .inr ⟨sub_t w2.gh hp, sub_t w2.gh hp', q _ _ _ _ _ _ (e1.trans e2) w2 (walk_zipT (xs := us) (ys := us') rfl) (by rw [zip_len, hu.length, hu'.length]) (fun H'' e => ⟨sub_t e hp, sub_t e hp'⟩) fun i H3 x H4 G3 W2 hi e3 w3 y => ?_⟩⟩
    obtain ⟨T, x, z, rfl, hT, rfl, hx', hz⟩ := y
    obtain ⟨d, h1, h2⟩ := hu.getV hx'
    obtain ⟨d', h1', h2'⟩ := hu'.getV hz
    obtain ⟨G4, a1, a2, a3⟩ := pair_new (K := X.K) w3 hT (h2.mono e3) (h2'.mono e3)
    exact ⟨G4, _, a1, a2, zip_get _ _ _ _ _ h1 h1', a3⟩
  · rename_i xs ys _
    cases h
    refine ⟨_, pi_zipS (ok.gl hg) (ok.bl _ hb) (pa_cons pe_tu (pa_cons pe_tu pa_nil (star_cons hn2)) (star_cons hn)) (star_cons hn) (star_any (by simp [hn2])), ?_⟩
    refine ha.run X ok _ _ _ _ _ _ _ _ w s hx _ fun v G1 H1 e1 w1 dv => ?_
    refine hb'.run X ok _ _ _ _ _ _ _ _ w1 (s.mono e1) hy _ fun u G2 H2 e2 w2 du => ?_
    simp only [Den] at dv du
    subst dv du
    refine ⟨mkS xs, mkS ys, rfl, q _ _ _ _ _ _ (e1.trans e2) w2 (walk_zipS (x := mkS xs) (y := mkS ys) rfl) (by rw [zip_len]; simp) (fun H'' e => trivial) fun i H3 x H4 G3 W2 hi e3 w3 y => ?_⟩
    obtain ⟨T, c, d, rfl, hT, rfl, hc, hd⟩ := y
    obtain ⟨G4, a1, a2, a3⟩ := pair_new (K := X.K) (d := .str [c]) (e := .str [d]) (x := V.str ⟨#[c]⟩) (y := V.str ⟨#[d]⟩) w3 hT (by simp only [Den]) (by simp only [Den])
    exact ⟨G4, _, a1, a2, zip_get _ _ _ _ _ (by simp at hc ⊢; exact hc) (by simp at hd ⊢; exact hd), a3⟩
  · cases h

/-! ### comprehensions -/
structure SCs (Y : Stat) (sc : Scope) (fc : Str → Bool) (ifs : List Expr) (f : List Sl → Option Bool) : Prop where
  run : ∀ X, XOk Y sc fc X → ∀ H0 G0 G W H τ σ b, Wd H0 G0 G W H → SlOk X.K G W τ σ → f τ = some b → ∀ Q, BQ H0 G0 G W b Q → TUts X ifs σ H Q
theorem scs_nil : SCs Y sc fc [] (fun _ => some true) :=
  ⟨fun X ok H0 G0 G W H τ σ b w s h Q q => by cases h; exact ⟨_, pts_nil, q G H (Sub.refl G) w⟩⟩
theorem scs_one {f : List Sl → Option Bool} (h : ST Y sc fc a f) : SCs Y sc fc [a] f :=
  ⟨fun X ok H0 G0 G W H τ σ b w s hf Q q => ⟨_, pts_one pt_tu, h.run X ok _ _ _ _ _ _ _ _ w s hf _ q⟩⟩
theorem wipe_ok {K : PySem.W.Frag} {G W : Hp} {τ : List Sl} {σ : St} (s : SlOk K G W τ σ) : ∀ vs : List Nat, SlOk K G W (wipeD τ vs) (wipe σ vs)
  | [] => s
  | v :: vs => (wipe_ok s vs).wput
theorem SlOk.wmono {K : PySem.W.Frag} {G W W' : Hp} {τ : List Sl} {σ : St} (s : SlOk K G W τ σ) (e : Sub W W') : SlOk K G W' τ σ :=
  ⟨s.len, s.val, fun i ds h => let ⟨a, vs, x, y, z⟩ := s.own i ds h; ⟨a, vs, x, e _ _ y, z⟩, s.dis⟩
theorem lcL_len {t : T} {c e : List Sl → Option D} {τ : List Sl} : ∀ {ds xs : List D}, lcL t c e τ ds = some xs → xs.length ≤ ds.length
  | [], xs, h => by simp [lcL] at h; subst h; simp
  | d :: ds, xs, h => by
    simp only [lcL] at h
    obtain ⟨σ1, h1, h⟩ := bnd h
    obtain ⟨b, h2, h⟩ := bnd h
    cases b with
    | true =>
      obtain ⟨x, h3, h⟩ := bnd h
      obtain ⟨ys, h4, rfl⟩ := mpd h
      have := lcL_len h4
      simp; omega
    | false =>
      have := lcL_len (show lcL t c e τ ds = some xs from h)
      simp; omega
def bG (X : Cx) (scope : Scope) (tg : Expr) : TG := fun v σ H Q => ∀ s1 H1 C cl fp, TUg (X.blk s1 H1 scope (compEnvC scope cl C X.env) fp) tg v σ H Q
def bT (X : Cx) (scope : Scope) (ifs : List Expr) : TT := fun σ H Q => ∀ s1 H1 C cl fp, TUts (X.blk s1 H1 scope (compEnvC scope cl C X.env) fp) ifs σ H Q
def bE (X : Cx) (scope : Scope) (elt : Expr) : TE := fun σ H Q => ∀ s1 H1 C cl fp, TU (X.blk s1 H1 scope (compEnvC scope cl C X.env) fp) elt σ H Q
/-- the reading of a comprehension -/
theorem lc_read {scope : Scope} {own : List (Str × Nat)} {t : T} {iter elt : Expr} {ifs : List Expr} (hi : SI Y sc fc tg iter fL)
    (hg : SG Y (relS scope sc) (fun x => scope.names.lookup x == some .cell) tg t) (ht : SCs Y (relS scope sc) (fun x => scope.names.lookup x == some .cell) ifs (fun τ => (fb τ).bind truth)) (he : SE Y (relS scope sc) (fun x => scope.names.lookup x == some .cell) elt fd)
    (hv : ∀ i ∈ tixs t, i ∈ own.map (·.2)) {X : Cx} (ok : XOk Y sc fc X) {H0 G0 G W H : Hp} {τ : List Sl} {σ : St} {ds xs : List D} (w : Wd H0 G0 G W H) (s : SlOk X.K G W τ σ) (hds : fL τ = some ds) (hlen : ds.length ≤ line)
    (hxs : lcL t fb fd (wipeD τ (own.map (·.2))) ds = some xs) {Q : VK} (q : ∀ p vs G' H', H' p = some (.lst vs) → Sub G G' → Wd H0 G0 G' (upd W p (.lst vs)) H' → W p = none → DenL X.K G' xs vs → Q (.ref p) H') :
    tLc (TUi X tg iter) (bG X scope tg) (bT X scope ifs) (bE X scope elt) (own.map (·.2)) σ H Q := by
  refine hi.run X ok _ _ _ _ _ _ _ _ w s hds _ fun J n Gp Yp G1 H1 e1 w1 wk hn hgp hy => ?_
  intro Dl hD
  have wD : W Dl = none := w1.wnone hD
  refine lc_it (g := bG X scope tg) (tt := bT X scope ifs) (te := bE X scope elt) (vs := own.map (·.2)) (σ := σ) (H1 := H1) (D := Dl) (Qd := fun H => Q (.ref Dl) H) wk (fun i H' => ∃ G' acc accD, Sub G1 G' ∧ Wd H0 G0 G' (upd W Dl (.lst acc)) H' ∧ DenL X.K G' accD acc ∧ acc.length ≤ i ∧ ∃ rest, lcL t fb fd (wipeD τ (own.map (·.2))) (ds.drop i) = some rest ∧ xs = accD ++ rest) ?_ ?_ ?_ ?_
  · exact ⟨G1, [], [], Sub.refl _, w1.newO hD, by simp only [DenL], Nat.le_refl _, xs, by simpa using hxs, rfl⟩
  · rintro i H' _ ⟨G', acc, accD, e', w', _⟩
    exact hgp H' (e'.trans w'.gh)
  · rintro i x H' H'' hin ⟨G', acc, accD, e', w', dacc, hacc, rest, hrest, hxr⟩ hyi
    obtain ⟨G2, d, e2, w2, hd, dx⟩ := hy i H' x H'' G' _ hin e' w' hyi
    have hdrop : ds.drop i = d :: ds.drop (i + 1) := by
      obtain ⟨hlt, hget⟩ := List.getElem?_eq_some_iff.mp hd
      rw [List.drop_eq_getElem_cons hlt, hget]
    rw [hdrop] at hrest
    simp only [lcL] at hrest
    obtain ⟨τ1, hτ1, hrest⟩ := bnd hrest
    obtain ⟨k, hk, hrest⟩ := bnd hrest
    intro s1 HH C cl fp
    have okb := ok.blk (s := s1) (H := HH) (scope := scope) (cl := cl) (C := C) (fp := fp)
    have sw : SlOk X.K G2 (upd W Dl (.lst acc)) (wipeD τ (own.map (·.2))) (wipe σ (own.map (·.2))) := (wipe_ok (s.mono (e1.trans (e'.trans e2))) _).wmono (sub_upd wD)
    refine hg.run _ okb _ _ _ _ _ _ _ _ _ _ w2 sw dx hτ1 _ fun σ' sσ' hw => ⟨?_, ?_⟩
    · rw [hw _ hv]; exact wipe_wipe _ _
    · intro s2 HH2 C2 cl2 fp2
      have okb2 := ok.blk (s := s2) (H := HH2) (scope := scope) (cl := cl2) (C := C2) (fp := fp2)
      refine ht.run _ okb2 _ _ _ _ _ _ _ _ w2 sσ' hk _ fun G3 H3 e3 w3 => ?_
      cases k with
      | false =>
        refine iteF ?_
        exact ⟨G3, acc, accD, (e'.trans e2).trans e3, w3, dacc.mono (e2.trans e3), by omega, rest, hrest, hxr⟩
      | true =>
        obtain ⟨y, hyv, hrest⟩ := bnd hrest
        obtain ⟨rest', hrest', rfl⟩ := mpd hrest
        refine iteT ?_
        intro s3 HH3 C3 cl3 fp3
        have okb3 := ok.blk (s := s3) (H := HH3) (scope := scope) (cl := cl3) (C := C3) (fp := fp3)
        refine he.run _ okb3 _ _ _ _ _ _ _ _ w3 (sσ'.mono e3) hyv _ fun v G4 H4 e4 w4 dv => ?_
        refine ⟨acc, (w4.wh Dl _ upd_same).1, lt_line (by omega), G4, acc ++ [v], accD ++ [y], ((e'.trans e2).trans e3).trans e4, ?_, (dacc.mono ((e2.trans e3).trans e4)).snoc dv, by simp; omega, rest', hrest', by simp [hxr]⟩
        have w5 := w4.set (o' := .lst (acc ++ [v])) (p := Dl) upd_same
        rwa [upd_upd] at w5
  · rintro H' ⟨G', acc, accD, e', w', dacc, hacc, rest, hrest, hxr⟩
    rw [hn, List.drop_length] at hrest
    cases hrest
    rw [List.append_nil] at hxr
    subst hxr
    exact q Dl acc G' H' (w'.wh Dl _ upd_same).1 (e1.trans e') w' wD dacc
section
variable {scope : Scope} {own : List (Str × Nat)} {t : T} {iter elt : Expr} {ifs : List Expr}
theorem se_lc (hi : SI Y sc fc tg iter fL) (hs : notSet iter = true) (hbk : blkC Y.N sc scope own = true)
    (hg : SG Y (relS scope sc) (fun x => scope.names.lookup x == some .cell) tg t) (ht : SCs Y (relS scope sc) (fun x => scope.names.lookup x == some .cell) ifs (fun τ => (fb τ).bind truth)) (he : SE Y (relS scope sc) (fun x => scope.names.lookup x == some .cell) elt fd)
    (hv : ∀ i ∈ tixs t, i ∈ own.map (·.2)) :
    SE Y sc fc (.ListComp elt [⟨tg, iter, ifs, 0⟩] scope pos) (fun τ => (fL τ).bind fun ds => if ds.length ≤ line then (lcL t fb fd (wipeD τ (own.map fun p => p.2)) ds).map .lst else none) := by
  refine ⟨fun X ok H0 G0 G W H τ σ d w s h Q q => ?_⟩
  obtain ⟨ds, hds, h⟩ := bnd h
  split at h
  · rename_i hlen
    obtain ⟨xs, hxs, rfl⟩ := mpd h
    refine ⟨_, pe_lc (own := own) ok.calm ok.nd pi_tu (blkOk_by (by rw [ok.eN, ok.sc]; exact hbk)) (fun s1 H1 C cl fp => ⟨fun pins s2 σ2 H2 v u Q2 I r h2 => pg_tu.run pins s2 σ2 H2 v u Q2 I r (h2 s1 H1 C cl fp)⟩)
      (fun s1 H1 C cl fp => ⟨fun pins s2 σ2 H2 Q2 I h2 => pts_tu.run pins s2 σ2 H2 Q2 I (h2 s1 H1 C cl fp)⟩) (fun s1 H1 C cl fp => ⟨fun pins s2 σ2 H2 Q2 I h2 => pe_tu.run pins s2 σ2 H2 Q2 I (h2 s1 H1 C cl fp)⟩) (folded_no hs),
      lc_read hi hg ht he hv ok w s hds hlen hxs fun p vs G' H' hp e' w' hW dxs => ?_⟩
    have hG := (w'.wh p _ upd_same).2
    have w2 := w'.give (o := .lst vs) upd_same
    have ew : del (upd W p (.lst vs)) p = W := by
      funext a
      by_cases ha : a = p
      · subst ha; rw [del_same]; exact hW.symm
      · rw [del_ne ha, upd_ne ha]
    rw [ew] at w2
    refine q _ _ _ (e'.trans (sub_upd hG)) w2 ?_
    simp only [Den]
    exact ⟨p, vs, rfl, upd_same, dxs.mono (sub_upd hG)⟩
  · cases h
end

/-! ### statements -/
def notTup : Expr → Bool
  | .Tuple .. => false
  | _ => true
theorem OQ.mono {K : PySem.W.Frag} {H0 G0 G G' : Hp} {o : Out} {Dn : Ends} (q : OQ K H0 G0 G o Dn) (e : Sub G G') : OQ K H0 G0 G' o Dn := by
  cases o with
  | nx τ => exact fun σ G2 W2 H2 e2 => q σ G2 W2 H2 (e.trans e2)
  | bk τ => exact fun σ G2 W2 H2 e2 => q σ G2 W2 H2 (e.trans e2)
  | ct τ => exact fun σ G2 W2 H2 e2 => q σ G2 W2 H2 (e.trans e2)
  | rt d => exact fun v G2 W2 H2 e2 => q v G2 W2 H2 (e.trans e2)
section
variable {t : T} {ga gb : List Sl → Option Bool} {fs gs : List Sl → Option Out} {st : Stmt} {sts us : List Stmt}
theorem ss_asg {i : Nat} {x : Str} (hN : Y.N[i]? = some x) (hx : Loc sc x) (hf : (fc x || decide (sc.names.lookup x = some .local)) = true) (hc : notComp a = true) (ha : SE Y sc fc a fa) :
    SS Y sc fc (.Assign [.Name x p] a pos) (fun τ => (fa τ).bind fun d => (setT (.nm i) d τ).map .nx) := by
  refine ⟨fun X ok H0 G0 G W H τ σ o w s h Dn q => ?_⟩
  obtain ⟨d, hd, h⟩ := bnd h
  cases h
  refine ⟨_, ps_set ok.nd (by rw [ok.eN]; exact hN) (ok.loc hx) pe_tu (swaps_no hc) (ok.hf hf), ?_⟩
  refine ha.run X ok _ _ _ _ _ _ _ _ w s hd _ fun v G1 H1 e1 w1 dv => ?_
  exact q _ _ _ _ e1 w1 ((s.mono e1).put dv)
theorem swaps_sole {tg : Expr} {l : Nat} {env : Env} (h : notComp a = true) : swapsWithSole [tg] a l env = pure false := swaps_no h
theorem stores_no {tg : Expr} {env : Env} (h : notTup a = true) : swappedStores [tg] a env = pure none := by
  cases a <;> first | (cases tg <;> rfl) | simp [notTup] at h
theorem ss_asgT {tgs : List Expr} {is : List Nat} {k : Nat} (hg : SG Y sc fc (.Tuple tgs k p) (.tp is)) (hc : notComp a = true) (hnt : notTup a = true) (ha : SE Y sc fc a fa) :
    SS Y sc fc (.Assign [.Tuple tgs k p] a pos) (fun τ => (fa τ).bind fun d => (setT (.tp is) d τ).map .nx) := by
  refine ⟨fun X ok H0 G0 G W H τ σ o w s h Dn q => ?_⟩
  obtain ⟨d, hd, h⟩ := bnd h
  obtain ⟨τ', hτ', rfl⟩ := mpd h
  refine ⟨_, ps_asg pe_tu pg_tu (swaps_sole hc) (stores_no hnt), ?_⟩
  refine ha.run X ok _ _ _ _ _ _ _ _ w s hd _ fun v G1 H1 e1 w1 dv => ?_
  exact hg.run X ok _ _ _ _ _ _ _ _ _ _ w1 (s.mono e1) dv hτ' _ fun σ' s' _ => q _ _ _ _ e1 w1 s'
/-- x = [..], the list the slot's own -/
theorem ss_own {i : Nat} {x : Str} (hN : Y.N[i]? = some x) (hx : Loc sc x) (hf : (fc x || decide (sc.names.lookup x = some .local)) = true) (hL : SA Y sc fc es fL) :
    SS Y sc fc (.Assign [.Name x p] (.List es p1) pos) (fun τ => (fL τ).bind fun ds => if ds.length ≤ line then some (.nx (τ.set i (.o (.lst ds)))) else none) := by
  refine ⟨fun X ok H0 G0 G W H τ σ o w s h Dn q => ?_⟩
  obtain ⟨ds, hds, h⟩ := bnd h
  split at h
  · rename_i hl
    cases h
    refine ⟨_, ps_set ok.nd (by rw [ok.eN]; exact hN) (ok.loc hx) (pe_lst pa_tu) (swaps_no rfl) (ok.hf hf), ?_⟩
    refine hL.run X ok _ _ _ _ _ _ _ _ w s hds _ fun vs G1 H1 e1 w1 dvs => ?_
    refine ⟨le_line (by rw [← dvs.length]; exact hl), fun z hz => ?_⟩
    exact q _ _ _ _ e1 (w1.newO hz) ((s.mono e1).putO (w1.wnone hz) (by simp only [DenO]; exact ⟨vs, rfl, dvs⟩))
  · cases h
theorem frz_ok {K : PySem.W.Frag} {H0 G0 G W H : Hp} {τ : List Sl} {σ : St} (i : Nat) (w : Wd H0 G0 G W H) (s : SlOk K G W τ σ) : ∃ G' W', Sub G G' ∧ Wd H0 G0 G' W' H ∧ SlOk K G' W' (frzD τ i) σ := by
  unfold frzD
  split
  · rename_i ds h
    obtain ⟨a, vs, h1, h2, h3⟩ := s.own i ds h
    have hG := (w.wh _ _ h2).2
    exact ⟨_, _, sub_upd hG, w.give h2, s.give h h1 h2 hG h3⟩
  · exact ⟨G, W, Sub.refl _, w, s⟩
theorem attr_base {x m : Str} {env : Env} : attributeBase (.Name x p) m env (eval (.Name x p) env) = eval (.Name x p) env := rfl
theorem ss_app {i : Nat} {x : Str} {ap : Pos} (hN : Y.N[i]? = some x) (hv : Vis sc x) (hd : (x == ("__debug__" : Str)) = false) (hcd : (x == ("__classdict__" : Str)) = false) (hn : notStar a = true) (ha : SE Y sc fc a fa)
    (hline : (ap.endLine == p1.line) = true) :
    SS Y sc fc (.Expr (.Call (.Attribute (.Name x p) "append" ap) [a] [] p1) pos) (fun τ => (fa τ).bind fun d => (getO τ i).bind fun xs => if xs.length < line then some (.nx (τ.set i (.o (.lst (xs ++ [d]))))) else none) := by
  refine ⟨fun X ok H0 G0 G W H τ σ o w s h Dn q => ?_⟩
  obtain ⟨d, hd', h⟩ := bnd h
  obtain ⟨xs, hxs, h⟩ := bnd h
  split at h
  · rename_i hl
    cases h
    have ho := getO_some hxs
    obtain ⟨b, ob, h1, h2, h3⟩ := s.own i _ ho
    simp only [DenO] at h3
    obtain ⟨vs, rfl, h3⟩ := h3
    refine ⟨_, ps_expr (pe_bm PySem.F.plainAttrs_list PySem.F.slot_list_append PySem.F.type_list_append mt_append (pe_var (by rw [ok.eN]; exact hN) (ok.vis hv) hd hcd) (pa_cons pe_tu pa_nil (star_cons hn)) attr_base
      (by rw [star_cons hn]; rfl) hline (star_cons hn) rfl) (by rfl), ?_⟩
    refine ⟨_, h1, .inl ⟨rfl, vs, SqL.of (w.wh _ _ h2).1⟩, ?_⟩
    refine ha.run X ok _ _ _ _ _ _ _ _ w s hd' _ fun v G1 H1 e1 w1 dv => ?_
    refine ⟨b, vs, v, rfl, rfl, (w1.wh _ _ h2).1, lt_line (by rw [← h3.length]; exact hl), ?_⟩
    exact q _ _ _ _ e1 (w1.set h2) ((s.mono e1).chg ho h1 (by simp only [DenO]; exact ⟨_, rfl, (h3.mono e1).snoc dv⟩))
  · cases h
theorem ss_ret (ha : SE Y sc fc a fa) : SS Y sc fc (.Return (some a) pos) (fun τ => (fa τ).map .rt) := by
  refine ⟨fun X ok H0 G0 G W H τ σ o w s h Dn q => ?_⟩
  obtain ⟨d, hd, rfl⟩ := mpd h
  refine ⟨_, ps_ret pe_tu, ?_⟩
  exact ha.run X ok _ _ _ _ _ _ _ _ w s hd _ fun v G1 H1 e1 w1 dv => q v G1 _ H1 e1 w1 dv
theorem ss_retN : SS Y sc fc (.Return none pos) (fun _ => some (.rt .non)) :=
  ⟨fun X ok H0 G0 G W H τ σ o w s h Dn q => by cases h; exact ⟨_, ps_retN, q .non G W H (Sub.refl _) w (by simp only [Den])⟩⟩
theorem ss_pass : SS Y sc fc (.Pass pos) (fun τ => some (.nx τ)) :=
  ⟨fun X ok H0 G0 G W H τ σ o w s h Dn q => by cases h; exact ⟨_, ps_pass, q σ G W H (Sub.refl _) w s⟩⟩
theorem ss_brk : SS Y sc fc (.Break pos) (fun τ => some (.bk τ)) :=
  ⟨fun X ok H0 G0 G W H τ σ o w s h Dn q => by cases h; exact ⟨_, ps_break, q σ G W H (Sub.refl _) w s⟩⟩
theorem ss_cont : SS Y sc fc (.Continue pos) (fun τ => some (.ct τ)) :=
  ⟨fun X ok H0 G0 G W H τ σ o w s h Dn q => by cases h; exact ⟨_, ps_continue, q σ G W H (Sub.refl _) w s⟩⟩
theorem ss_if (hc : ST Y sc fc a ga) (h1 : SSs Y sc fc sts fs) (h2 : SSs Y sc fc us gs) : SS Y sc fc (.If a sts us pos) (fun τ => (ga τ).bind fun k => bif k then fs τ else gs τ) := by
  refine ⟨fun X ok H0 G0 G W H τ σ o w s h Dn q => ?_⟩
  obtain ⟨k, hk, h⟩ := bnd h
  refine ⟨_, ps_if pt_tu pss_tu pss_tu, ?_⟩
  refine hc.run X ok _ _ _ _ _ _ _ _ w s hk _ fun G1 H1 e1 w1 => ?_
  cases k with
  | true => exact iteT (h1.run X ok _ _ _ _ _ _ _ _ w1 (s.mono e1) h _ (q.mono e1))
  | false => exact iteF (h2.run X ok _ _ _ _ _ _ _ _ w1 (s.mono e1) h _ (q.mono e1))
theorem ss_for {iter : Expr} (hi : SI Y sc fc tg iter fL) (hs : notSet iter = true) (hg : SG Y sc fc tg t) (hb : SSs Y sc fc sts fs) : SS Y sc fc (.For tg iter sts [] pos) (fun τ => (fL τ).bind fun ds => forL t fs ds τ) := by
  refine ⟨fun X ok H0 G0 G W H τ σ o w s h Dn q => ?_⟩
  obtain ⟨ds, hds, h⟩ := bnd h
  refine ⟨_, ps_for ok.never ok.calm pi_tu pg_tu pss_tu (folded_no hs), ?_⟩
  refine hi.run X ok _ _ _ _ _ _ _ _ w s hds _ fun J n Gp Yp G1 H1 e1 w1 wk hn hgp hy => ?_
  refine for_it wk (fun i σ' H' => ∃ G' W' τ', Sub G1 G' ∧ Wd H0 G0 G' W' H' ∧ SlOk X.K G' W' τ' σ' ∧ forL t fs (ds.drop i) τ' = some o) ⟨G1, W, τ, Sub.refl _, w1, s.mono e1, by simpa using h⟩ ?_ ?_ ?_
  · rintro i σ' H' _ ⟨G', W', τ', e', w', _⟩
    exact hgp H' (e'.trans w'.gh)
  · rintro i x σ' H' H'' hin ⟨G', W', τ', e', w', s', hrest⟩ hyi
    obtain ⟨G2, d, e2, w2, hd, dx⟩ := hy i H' x H'' G' _ hin e' w' hyi
    have hdrop : ds.drop i = d :: ds.drop (i + 1) := by
      obtain ⟨hlt, hget⟩ := List.getElem?_eq_some_iff.mp hd
      rw [List.drop_eq_getElem_cons hlt, hget]
    rw [hdrop] at hrest
    simp only [forL] at hrest
    obtain ⟨τ1, hτ1, hrest⟩ := bnd hrest
    obtain ⟨o1, ho1, hrest⟩ := bnd hrest
    refine hg.run X ok _ _ _ _ _ _ _ _ _ _ w2 (s'.mono e2) dx hτ1 _ fun σ2 s2 _ => ?_
    refine hb.run X ok _ _ _ _ _ _ _ _ w2 s2 ho1 _ ?_
    cases o1 with
    | nx τ2 => exact fun σ3 G3 W3 H3 e3 w3 s3 => ⟨G3, W3, τ2, (e'.trans e2).trans e3, w3, s3, hrest⟩
    | ct τ2 => exact fun σ3 G3 W3 H3 e3 w3 s3 => ⟨G3, W3, τ2, (e'.trans e2).trans e3, w3, s3, hrest⟩
    | bk τ2 =>
      cases hrest
      exact fun σ3 G3 W3 H3 e3 w3 s3 => q σ3 G3 W3 H3 (((e1.trans e').trans e2).trans e3) w3 s3
    | rt d2 =>
      cases hrest
      exact fun v G3 W3 H3 e3 w3 d3 => q v G3 W3 H3 (((e1.trans e').trans e2).trans e3) w3 d3
  · rintro σ' H' ⟨G', W', τ', e', w', s', hrest⟩
    rw [hn, List.drop_length] at hrest
    cases hrest
    exact q σ' G' W' H' (e1.trans e') w' s'
theorem ss_whl {n : Nat} (hc : ST Y sc fc a (fun τ => (fa τ).bind truth)) (hb : SSs Y sc fc sts fs) : SS Y sc fc (.While a sts [] pos) (fun τ => whlL fa fs n τ) := by
  refine ⟨fun X ok H0 G0 G W H τ σ o w s h Dn q => ?_⟩
  refine ⟨_, ps_while ok.never pt_tu pss_tu, ?_⟩
  refine ⟨fun m σ' H' => ∃ G' W' τ', Sub G G' ∧ Wd H0 G0 G' W' H' ∧ SlOk X.K G' W' τ' σ' ∧ whlL fa fs m τ' = some o, ⟨n, G, W, τ, Sub.refl _, w, s, h⟩, ?_⟩
  rintro m σ' H' ⟨G', W', τ', e', w', s', hm⟩
  cases m with
  | zero => cases hm
  | succ m =>
    simp only [whlL] at hm
    obtain ⟨k, hk, hm⟩ := bnd hm
    refine hc.run X ok _ _ _ _ _ _ _ _ w' s' hk _ fun G1 H1 e1 w1 => ?_
    cases k with
    | false =>
      cases hm
      exact iteF (q σ' G1 W' H1 (e'.trans e1) w1 (s'.mono e1))
    | true =>
      obtain ⟨o1, ho1, hm⟩ := bnd hm
      refine iteT ⟨fun σ2 H2 => ∃ G2 W2 τ2, Sub G G2 ∧ Wd H0 G0 G2 W2 H2 ∧ SlOk X.K G2 W2 τ2 σ2 ∧ whlL fa fs m τ2 = some o, fun σ2 H2 h2 => ⟨m, Nat.lt_succ_self m, h2⟩, ?_⟩
      refine hb.run X ok _ _ _ _ _ _ _ _ w1 (s'.mono e1) ho1 _ ?_
      cases o1 with
      | nx τ2 => exact fun σ3 G3 W3 H3 e3 w3 s3 => ⟨G3, W3, τ2, (e'.trans e1).trans e3, w3, s3, hm⟩
      | ct τ2 => exact fun σ3 G3 W3 H3 e3 w3 s3 => ⟨G3, W3, τ2, (e'.trans e1).trans e3, w3, s3, hm⟩
      | bk τ2 =>
        cases hm
        exact fun σ3 G3 W3 H3 e3 w3 s3 => q σ3 G3 W3 H3 ((e'.trans e1).trans e3) w3 s3
      | rt d2 =>
        cases hm
        exact fun v G3 W3 H3 e3 w3 d3 => q v G3 W3 H3 ((e'.trans e1).trans e3) w3 d3
theorem sss_nil : SSs Y sc fc [] (fun τ => some (.nx τ)) :=
  ⟨fun X ok H0 G0 G W H τ σ o w s h Dn q => by cases h; exact ⟨_, pss_nil, q σ G W H (Sub.refl _) w s⟩⟩
theorem sss_cons (h1 : SS Y sc fc st fs) (h2 : SSs Y sc fc sts gs) : SSs Y sc fc (st :: sts) (fun τ => (fs τ).bind fun o => match o with
    | .nx τ2 => gs τ2
    | .rt d => some (.rt d)
    | .bk τ2 => some (.bk τ2)
    | .ct τ2 => some (.ct τ2)) := by
  refine ⟨fun X ok H0 G0 G W H τ σ o w s h Dn q => ?_⟩
  obtain ⟨o1, ho1, h⟩ := bnd h
  refine ⟨_, pss_cons ps_tu pss_tu, ?_⟩
  refine h1.run X ok _ _ _ _ _ _ _ _ w s ho1 _ ?_
  cases o1 with
  | nx τ2 => exact fun σ3 G3 W3 H3 e3 w3 s3 => h2.run X ok _ _ _ _ _ _ _ _ w3 s3 h _ (q.mono e3)
  | ct τ2 => cases h; exact q
  | bk τ2 => cases h; exact q
  | rt d2 => cases h; exact q
theorem sss_frz {i : Nat} (h2 : SSs Y sc fc sts gs) : SSs Y sc fc sts (fun τ => gs (frzD τ i)) := by
  refine ⟨fun X ok H0 G0 G W H τ σ o w s h Dn q => ?_⟩
  obtain ⟨G', W', e', w', s'⟩ := frz_ok i w s
  exact h2.run X ok _ _ _ _ _ _ _ _ w' s' h _ (q.mono e')
/-- x = [.. for ..] -/
theorem ss_lc {i : Nat} {x : Str} {scope : Scope} {own : List (Str × Nat)} {iter elt : Expr} {ifs : List Expr} (hN : Y.N[i]? = some x) (hx : Loc sc x) (hf : (fc x || decide (sc.names.lookup x = some .local)) = true)
    (hi : SI Y sc fc tg iter fL) (hs : notSet iter = true) (hbk : blkC Y.N sc scope own = true)
    (hg : SG Y (relS scope sc) (fun x => scope.names.lookup x == some .cell) tg t) (ht : SCs Y (relS scope sc) (fun x => scope.names.lookup x == some .cell) ifs (fun τ => (fb τ).bind truth)) (he : SE Y (relS scope sc) (fun x => scope.names.lookup x == some .cell) elt fd)
    (hv : ∀ i ∈ tixs t, i ∈ own.map (·.2)) :
    SS Y sc fc (.Assign [.Name x p] (.ListComp elt [⟨tg, iter, ifs, 0⟩] scope p1) pos) (fun τ => ((fL τ).bind fun ds => if ds.length ≤ line then (lcL t fb fd (wipeD τ (own.map fun p => p.2)) ds).map .lst else none).bind fun d => (setT (.nm i) d τ).map .nx) := by
  refine ⟨fun X ok H0 G0 G W H τ σ o w s h Dn q => ?_⟩
  obtain ⟨d, hd, h⟩ := bnd h
  have he' := se_lc (pos := p1) hi hs hbk hg ht he hv
  cases hsw : (X.env.blockKind == .function && X.env.kindOf x == some .local && p.line == p1.line && !(scope.names.any fun (n, k) => n == x && (k == .local || k == .cell))) with
  | false =>
    cases h
    have e : swapsWith (.ListComp elt [⟨tg, iter, ifs, 0⟩] scope p1) (some (.Name x p)) pos.line X.env = pure false := by
      show (pure (X.env.blockKind == .function && X.env.kindOf x == some .local && p.line == p1.line && !(scope.names.any fun (n, k) => n == x && (k == .local || k == .cell))) : PySem.Sem Bool) = _
      rw [hsw]
    refine ⟨_, ps_set ok.nd (by rw [ok.eN]; exact hN) (ok.loc hx) pe_tu e (ok.hf hf), ?_⟩
    refine he'.run X ok _ _ _ _ _ _ _ _ w s hd _ fun v G1 H1 e1 w1 dv => ?_
    exact q _ _ _ _ e1 w1 ((s.mono e1).put dv)
  | true =>
    cases h
    obtain ⟨ds, hds, hd⟩ := bnd hd
    split at hd
    · rename_i hlen
      obtain ⟨xs, hxs, rfl⟩ := mpd hd
      have e : swapsWith (.ListComp elt [⟨tg, iter, ifs, 0⟩] scope p1) (some (.Name x p)) pos.line X.env = pure true := by
        show (pure (X.env.blockKind == .function && X.env.kindOf x == some .local && p.line == p1.line && !(scope.names.any fun (n, k) => n == x && (k == .local || k == .cell))) : PySem.Sem Bool) = _
        rw [hsw]
      have hloc : X.env.scope.names.lookup x = some .local := by
        simp only [Bool.and_eq_true] at hsw
        have := hsw.1.1.2
        simpa [Env.kindOf] using this
      refine ⟨_, ps_setLc (own := own) ok.calm ok.nd (by rw [ok.eN]; exact hN) hloc e pi_tu (blkOk_by (by rw [ok.eN, ok.sc]; exact hbk)) (fun s1 H1 C cl fp => ⟨fun pins s2 σ2 H2 v u Q2 I r h2 => pg_tu.run pins s2 σ2 H2 v u Q2 I r (h2 s1 H1 C cl fp)⟩)
        (fun s1 H1 C cl fp => ⟨fun pins s2 σ2 H2 Q2 I h2 => pts_tu.run pins s2 σ2 H2 Q2 I (h2 s1 H1 C cl fp)⟩) (fun s1 H1 C cl fp => ⟨fun pins s2 σ2 H2 Q2 I h2 => pe_tu.run pins s2 σ2 H2 Q2 I (h2 s1 H1 C cl fp)⟩) (folded_no hs),
        lc_read hi hg ht he hv ok w s hds hlen hxs fun p vs G' H' hp e' w' hW dxs => ?_⟩
      have hG := (w'.wh p _ upd_same).2
      have w2 := w'.give (o := .lst vs) upd_same
      have ew : del (upd W p (.lst vs)) p = W := by
        funext a
        by_cases ha : a = p
        · subst ha; rw [del_same]; exact hW.symm
        · rw [del_ne ha, upd_ne ha]
      rw [ew] at w2
      refine q _ _ _ _ (e'.trans (sub_upd hG)) w2 ((s.mono (e'.trans (sub_upd hG))).put ?_)
      simp only [Den]
      exact ⟨p, vs, rfl, upd_same, dxs.mono (sub_upd hG)⟩
    · cases hd
end
end
end Pv

set_option Elab.async false
set_option linter.all false
set_option maxRecDepth 100000
set_option maxHeartbeats 4000000

namespace Pv
open PySem PySem.Spec L2

/-! ### syntax -/
def plainBase : Expr → Bool
  | .Call .. => false
  | _ => true
theorem base_no {o : Expr} {m : Str} {env : Env} {whole : Sem Value} (h : plainBase o = true) : attributeBase o m env whole = whole := by
  cases o <;> first | rfl | simp [plainBase] at h
theorem all_bk {es : List Expr} {env : Env} {pos : Pos} (h : es.all notStar = true) : (backTo pos (starEach es env)).all (fun x => !x.1) = true := by
  induction es with
  | nil => rfl
  | cons e es ih =>
    simp only [List.all_cons, Bool.and_eq_true] at h
    rw [star_cons h.1]
    have := ih h.2
    simpa [backTo] using this
theorem form_ok {es : List Expr} {env : Env} {pos : Pos} (h : es.all notStar = true) (hl : es.length < 30) : methodCallForm (es.length + ([] : List Keyword).length) (backTo pos (starEach es env)) (backToKw pos (keywordEach [] env)) = true := by
  unfold methodCallForm
  have : (backTo pos (starEach es env)).all (!·.1) = true := all_bk h
  rw [this]
  simp [keywordEach, backToKw, hl]
theorem meth_eq {o : Expr} {m : Str} {apos pos : Pos} {es : List Expr} {env : Env} (hb : plainBase o = true) (hn : es.all notStar = true) (hl : es.length < 30) (hline : (apos.endLine == pos.line) = true) :
    eval (.Call (.Attribute o m apos) es [] pos) env = (do
      let ov ← eval o env
      standAt apos.atName
      let (f, first) ← holding [ov] (getMethod ov m (do return (← importBound o env).getD true))
      callWith pos f first (backTo pos (starEach es env)) (backToKw pos (keywordEach [] env))) := by
  rw [arm_eval_Call, base_no hb]
  have hp : methodCallPos true o env apos pos = pure pos := by unfold methodCallPos; simp [hline]
  unfold methodCall
  rw [form_ok hn hl, hp]
  rfl

/-! ### keywords -/
def TUk (X : Cx) (kws : List Keyword) : TA := fun σ H Q => ∃ t, PK X kws t ∧ t σ H Q
theorem pk_tu {X : Cx} {kws : List Keyword} : PK X kws (TUk X kws) := ⟨fun pos pins s σ H Q I ⟨_, p, h⟩ => p.run pos pins s σ H Q I h⟩
structure SK (Y : Stat) (sc : Scope) (fc : Str → Bool) (kws : List Keyword) (f : List Sl → Option (List D)) : Prop where
  run : ∀ X, XOk Y sc fc X → ∀ H0 G0 G W H τ σ ds, Wd H0 G0 G W H → SlOk X.K G W τ σ → f τ = some ds → ∀ Q, AQ X.K H0 G0 G W ds Q → TUk X kws σ H Q
theorem kw_names {env : Env} {pos : Pos} : ∀ kws : List Keyword, (backToKw pos (keywordEach kws env)).filterMap (·.1) = kws.filterMap (·.arg)
  | [] => rfl
  | ⟨n, e, p⟩ :: r => by
    have ih := kw_names (env := env) (pos := pos) r
    show List.filterMap _ ((n, _) :: _) = _
    rw [List.filterMap_cons, List.filterMap_cons]
    cases n with
    | none => exact ih
    | some n => exact congrArg (List.cons n) ih
theorem kw_all {env : Env} {pos : Pos} : ∀ {kws : List Keyword}, kws.all (fun k => k.arg.isSome) = true → (backToKw pos (keywordEach kws env)).all (·.1.isSome) = true ∧ (backToKw pos (keywordEach kws env)).any (·.1.isNone) = false
  | [], _ => ⟨rfl, rfl⟩
  | ⟨n, e, p⟩ :: r, h => by
    simp only [List.all_cons, Bool.and_eq_true] at h
    obtain ⟨i1, i2⟩ := kw_all (env := env) (pos := pos) h.2
    cases n with
    | none => simp at h
    | some n =>
      constructor
      · show ((some n).isSome && (backToKw pos (keywordEach r env)).all _) = true
        rw [i1]; rfl
      · show ((some n).isNone || (backToKw pos (keywordEach r env)).any _) = false
        rw [i2]; rfl
section
variable {X : Cx} {CX : CXT} {k : Nat} {f : Addr} {fd : FuncData} {ps ks : List Str} {sp : Sp} {E : XK} {x : Str} {p pos : Pos} {kws : List Keyword} {tk : TA} {g : List Value → List Value → List Value} {gV : List V → List V → List V}
theorem pe_callN0 (F : FnOk X.prog X.w X.K X.mg X.base CX k f fd ps sp) (hr : Room k X.A) (hg : Gl X x) (hm : X.mg x = some (.ref f)) (hk : PySem.W.keepIn X.K (.ref f) = true) (hb : KBn X.K fd ps 0 ks g gV) (hx : Passes CX X E)
    (hkw : PK X kws tk) (hall : (backToKw pos (keywordEach kws X.env)).all (·.1.isSome) = true) (hks : (backToKw pos (keywordEach kws X.env)).filterMap (·.1) = ks)
    (hdb : (x == ("__debug__" : Str)) = false) (hpl : ((backTo pos (starEach [] X.env)).any (·.1) || (backToKw pos (keywordEach kws X.env)).any (·.1.isNone)) = false) :
    PE X (.Call (.Name x p) [] kws pos) (tCallN 0 ks.length sp gV E tNil tk) := by
  refine ⟨fun pins s σ H Q I h => ?_⟩
  refine wpAny_Call_Name_kw (ld_glob I hg hm ?_ hdb)
  refine PySem.W.callWith_KW0 (h₀ := X.base) I.ok.mod.kin hk hall ?_ hpl
  refine thn (hkw.run pos pins s σ H _ I h) fun ws s2 ⟨zs, H2, I2, rz, l1, l2, q2⟩ => ⟨I2.kIn, ?_⟩
  rw [hks]
  exact run_fnN (us := []) (vs := []) F hr hb hx I2 .nil rz rfl l2 q2
end

section
variable {K : PySem.W.Frag} {G : Hp}
theorem permL_den {ds : List D} {vs : List V} (h : DenL K G ds vs) : ∀ perm : List Nat, DenL K G (permL perm ds) (perm.filterMap (vs[·]?))
  | [] => by simp [permL, DenL]
  | i :: perm => by
    have ih := permL_den h perm
    unfold permL at ih ⊢
    rw [List.filterMap_cons, List.filterMap_cons]
    cases hd : ds[i]? with
    | none =>
      have : vs[i]? = none := by
        rw [List.getElem?_eq_none_iff] at hd ⊢
        rw [← h.length]; exact hd
      rw [this]
      exact ih
    | some d =>
      obtain ⟨v, hv, dv⟩ := h.get hd
      rw [hv]
      simp only [DenL]
      exact ⟨v, _, rfl, dv, ih⟩
theorem fldOf_den : ∀ {ns : List Str} {ds : List D} {nvs : List (Str × V)} {f : Str} {d : D}, fldOf ns ds f = some d → ns = nvs.map (fun p => p.1) → DenL K G ds (nvs.map (fun p => p.2)) → ∃ v, nvs.lookup f = some v ∧ Den K G d v
  | [], ds, nvs, f, d, h, _, _ => by simp [fldOf] at h
  | n :: ns, [], nvs, f, d, h, _, _ => by simp [fldOf] at h
  | n :: ns, x :: ds, [], f, d, h, e, _ => by simp at e
  | n :: ns, x :: ds, p :: nvs, f, d, h, e, hd => by
    simp only [List.map_cons, List.cons.injEq] at e
    simp only [List.map_cons, DenL] at hd
    obtain ⟨v, r, e2, d1, d2⟩ := hd
    simp only [List.cons.injEq] at e2
    obtain ⟨e3, e4⟩ := e2
    subst e3 e4
    simp only [fldOf] at h
    obtain ⟨n', v'⟩ := p
    by_cases hn : n = f
    · rw [if_pos hn] at h
      cases h
      refine ⟨v', ?_, d1⟩
      have : (f == n') = true := by rw [← hn, e.1]; simp
      simp [List.lookup, this]
    · rw [if_neg hn] at h
      obtain ⟨w, h1, h2⟩ := fldOf_den h e.2 d2
      refine ⟨w, ?_, h2⟩
      have : (f == n') = false := by
        rw [beq_eq_false_iff_ne]
        intro z
        exact hn (by rw [e.1, z])
      simp [List.lookup, this, h1]
theorem lookup_none {nvs : List (Str × V)} {m : Str} (h : ¬ m ∈ nvs.map (fun p => p.1)) : nvs.lookup m = none := by
  induction nvs with
  | nil => rfl
  | cons p r ih =>
    simp only [List.map_cons, List.mem_cons, not_or] at h
    have : (m == p.1) = false := by rw [beq_eq_false_iff_ne]; exact h.1
    obtain ⟨a, b⟩ := p
    simp only [List.lookup, this]
    exact ih h.2
theorem putN_den : ∀ {ns : List Str} {ds : List D} {nvs : List (Str × V)} {f : Str} {d : D} {v : V}, ns = nvs.map (fun p => p.1) → DenL K G ds (nvs.map (fun p => p.2)) → Den K G d v →
    putN ns ds f = (putF f v nvs).map (fun p => p.1) ∧ DenL K G (putV ns ds f d) ((putF f v nvs).map (fun p => p.2))
  | [], ds, [], f, d, v, _, hd, dv => by
    cases ds with
    | nil =>
      simp only [putN, putV, putF, List.map_cons, List.map_nil, DenL]
      exact ⟨trivial, v, [], rfl, dv, rfl⟩
    | cons y ys => simp [DenL] at hd
  | [], ds, p :: nvs, f, d, v, e, _, _ => by simp at e
  | n :: ns, ds, [], f, d, v, e, _, _ => by simp at e
  | n :: ns, [], p :: nvs, f, d, v, _, hd, _ => by simp [DenL] at hd
  | n :: ns, x :: ds, p :: nvs, f, d, v, e, hd, dv => by
    simp only [List.map_cons, List.cons.injEq] at e
    simp only [List.map_cons, DenL] at hd
    obtain ⟨u, r, e2, d1, d2⟩ := hd
    simp only [List.cons.injEq] at e2
    obtain ⟨e3, e4⟩ := e2
    subst e4
    obtain ⟨n', v'⟩ := p
    obtain ⟨i1, i2⟩ := putN_den (f := f) (d := d) (v := v) e.2 d2 dv
    have en : n = n' := e.1
    subst en
    by_cases hn : n = f
    · simp only [putN, putV, putF, if_pos hn, List.map_cons, DenL]
      refine ⟨?_, v, _, rfl, dv, d2⟩
      rw [e.2]
    · simp only [putN, putV, putF, if_neg hn, List.map_cons, DenL]
      refine ⟨by rw [i1], v', _, rfl, ?_, i2⟩
      rw [show v' = u from e3]
      exact d1
theorem hasK_any {ks : List D} {kvs : List (Key × V)} (q : Key) (h : ks.map D.key = kvs.map (fun p => some p.1)) : hasK ks q = kvs.any fun kv => decide (kv.1 = q) := by
  unfold hasK
  have : (ks.any fun k => decide (D.key k = some q)) = (ks.map D.key).any fun z => decide (z = some q) := by rw [List.any_map]; rfl
  rw [this, h, List.any_map]
  congr 1
  funext p
  simp
theorem dput_den {ks vs : List D} {kvs : List (Key × V)} {q : Key} {x d : D} {v : V} (h1 : ks.map D.key = kvs.map (fun p => some p.1)) (h2 : DenL K G vs (kvs.map (fun p => p.2))) (hx : D.key x = some q) (dv : Den K G d v) :
    (dputK ks q x).map D.key = (putK kvs q v).map (fun p => some p.1) ∧ DenL K G (dputV ks vs q d) ((putK kvs q v).map (fun p => p.2)) := by
  unfold dputK dputV putK
  rw [hasK_any q h1]
  cases hc : kvs.any fun kv => decide (kv.1 = q)
  · simp only [Bool.false_eq_true, if_false, List.map_append, List.map_cons, List.map_nil]
    exact ⟨by rw [h1, hx], h2.snoc dv⟩
  · simp only [if_true]
    refine ⟨?_, ?_⟩
    · rw [h1, List.map_map]
      apply List.map_congr_left
      intro p _
      simp only [Function.comp]
      split <;> rfl
    · clear hc
      induction ks generalizing vs kvs with
      | nil =>
        cases kvs with
        | nil => simp [DenL]
        | cons p r => simp at h1
      | cons k ks ih =>
        cases kvs with
        | nil => simp at h1
        | cons p r =>
          cases vs with
          | nil => simp [DenL] at h2
          | cons y vs =>
            simp only [List.map_cons, List.cons.injEq] at h1
            simp only [List.map_cons, DenL] at h2
            obtain ⟨u, r', e, d1, d2⟩ := h2
            simp only [List.cons.injEq] at e
            obtain ⟨e1, e2⟩ := e
            subst e2
            have := ih h1.2 d2
            simp only [List.zipWith_cons_cons, List.map_cons, DenL]
            refine ⟨_, _, rfl, ?_, this⟩
            by_cases hq : p.1 = q
            · have : D.key k = some q := by rw [h1.1, hq]
              rw [if_pos this, if_pos hq]
              exact dv
            · have : ¬ D.key k = some q := by rw [h1.1]; intro z; exact hq (Option.some.inj z)
              rw [if_neg this, if_neg hq, e1]
              exact d1
theorem strsD_den : ∀ {ds : List D} {ps : List (List Nat)} {vs : List V}, strsD ds = some ps → DenL K G ds vs → vs = (ps.map mkS).map V.str
  | [], ps, vs, h, hd => by simp [strsD] at h; subst h; simp only [DenL] at hd; subst hd; rfl
  | x :: r, ps, vs, h, hd => by
    cases x <;> first | (simp [strsD] at h; done) | skip
    rename_i z
    simp only [strsD] at h
    obtain ⟨qs, h1, rfl⟩ := mpd h
    simp only [DenL, Den] at hd
    obtain ⟨v, r', rfl, rfl, d2⟩ := hd
    rw [strsD_den h1 d2]
    rfl
theorem joinN_eq (s : List Nat) : ∀ ps : List (List Nat), TL.joinL s ps = joinN s ps
  | [] => rfl
  | [p] => rfl
  | p :: q :: r => by
    show p ++ (s ++ TL.joinL s (q :: r)) = p ++ (s ++ joinN s (q :: r))
    rw [joinN_eq s (q :: r)]
end

section
variable {Y : Stat} {sc : Scope} {fc : Str → Bool} {pos p p1 p2 apos : Pos} {a b c o : Expr} {es : List Expr} {fa fb fd : List Sl → Option D} {fL fK : List Sl → Option (List D)} {kws : List Keyword}
theorem sk_nil : SK Y sc fc [] (fun _ => some []) :=
  ⟨fun X ok H0 G0 G W H τ σ ds w s h Q q => by cases h; exact ⟨_, pk_nil, q [] G H (Sub.refl G) w (by simp only [DenL])⟩⟩
theorem sk_cons {nm : Option Str} (ha : SE Y sc fc a fa) (hL : SK Y sc fc kws fL) : SK Y sc fc (⟨nm, a, p⟩ :: kws) (fun τ => (fa τ).bind fun d => (fL τ).map (d :: ·)) := by
  refine ⟨fun X ok H0 G0 G W H τ σ ds w s h Q q => ?_⟩
  obtain ⟨x, hx, h⟩ := bnd h
  obtain ⟨xs, hxs, rfl⟩ := mpd h
  refine ⟨_, pk_cons pe_tu pk_tu, ?_⟩
  refine ha.run X ok _ _ _ _ _ _ _ _ w s hx _ fun v G1 H1 e1 w1 dv => ?_
  refine hL.run X ok _ _ _ _ _ _ _ _ w1 (s.mono e1) hxs _ fun vs G2 H2 e2 w2 dvs => ?_
  exact q _ _ _ (e1.trans e2) w2 (by simp only [DenL]; exact ⟨v, vs, rfl, dv.mono e2, dvs⟩)
theorem se_callK {i : Nat} {x : Str} {ks : List Str} {perm : List Nat} (hi : (i, x, ks, perm) ∈ Y.kws) (hg : sc.names.lookup x = some .globalImplicit) (hd : (x == ("__debug__" : Str)) = false) (hks : kws.filterMap (·.arg) = ks) (hall : kws.all (fun k => k.arg.isSome) = true)
    (hL : SK Y sc fc kws fL) (hlen : ∀ τ ds, fL τ = some ds → ds.length = ks.length) : SE Y sc fc (.Call (.Name x p) [] kws pos) (fun τ => (fL τ).bind fun ds => Y.Z.F i (permL perm ds)) := by
  refine ⟨fun X ok H0 G0 G W H τ σ d w s h Q q => ?_⟩
  obtain ⟨xs, hxs, h⟩ := bnd h
  obtain ⟨f, fd, ps, g, gV, hm, hk, hb, hgV, hF⟩ := (ok.kws i x ks perm hi).ex
  obtain ⟨k1, k2⟩ := kw_all (env := X.env) (pos := pos) hall
  refine ⟨_, pe_callN0 hF ok.room (ok.gl hg) hm hk hb pass0 pk_tu k1 (by rw [kw_names, hks]) hd (by rw [k2]; rfl), ?_⟩
  refine hL.run X ok _ _ _ _ _ _ _ _ w s hxs _ fun vs G1 H1 e1 w1 dvs => ?_
  refine ⟨rfl, by rw [← dvs.length]; exact hlen _ _ hxs, ?_⟩
  rw [hgV]
  exact ⟨_, d, G1, w1.gh, permL_den dvs perm, h, fun v G' H' a b c e dv => q v G' H' (e1.trans b) (w1.call a b c e) dv⟩
/-- C(args) -/
theorem se_mk {i : Nat} {x : Str} (hi : (i, x) ∈ Y.mks) (hg : sc.names.lookup x = some .globalImplicit) (hd : (x == ("__debug__" : Str)) = false) (hn : (a :: es).all notStar = true) (hL : SA Y sc fc (a :: es) fL) :
    SE Y sc fc (.Call (.Name x p) (a :: es) [] pos) (fun τ => (fL τ).bind fun ds => Y.Z.F i ds) := by
  refine ⟨fun X ok H0 G0 G W H τ σ d w s h Q q => ?_⟩
  obtain ⟨xs, hxs, h⟩ := bnd h
  obtain ⟨C, f, fd, ps, k, hk, hC, hm, M, hb, hF, hv⟩ := (ok.mks i x hi).ex
  obtain ⟨ns, fs, rfl⟩ := hv _ _ h
  simp only [List.all_cons, Bool.and_eq_true] at hn
  refine ⟨_, pe_make M hF (ok.room.mono hk) (ok.gl hg) hm hb .nil pass0 pa_tu hd (star_cons hn.1) (star_any hn.2), ?_⟩
  refine hL.run X ok _ _ _ _ _ _ _ _ w s hxs _ fun vs G1 H1 e1 w1 dvs => ?_
  intro z dz hz hdz hne
  rw [List.append_nil]
  refine ⟨z, C, dz, vs, xs, ns, fs, G1, rfl, upd_same, hC, ?_, w1.gnone hz, dvs, h, ?_⟩
  · intro a u e
    rw [upd_ne (ne_of_none e (w1.gnone hz)), upd_ne (ne_of_none e (w1.gnone hdz))]
    exact w1.gh a u e
  · intro ob G' H' k1 k2 k3 k4 k5 k6 k7
    have big : ∀ a u, H1 a = some u → a ≠ z ∧ upd (upd H1 dz (.own z)) z (.ins C dz []) a = some u := fun a u e => by
      have n1 := ne_of_none e hz
      exact ⟨n1, by rw [upd_ne n1, upd_ne (ne_of_none e hdz)]; exact e⟩
    refine ⟨rfl, q _ G' H' (e1.trans k3) ⟨k4, fun a u e => ?_, w1.wi, fun a u e => ?_, fun a u e => ?_⟩ (DenO.den k6 _ k7)⟩
    · obtain ⟨n1, e2⟩ := big a u (w1.wh a u e).1
      exact ⟨k1 a u n1 e2, by rw [k5 a u n1 e2]; exact (w1.wh a u e).2⟩
    · obtain ⟨n1, e2⟩ := big a u (w1.h0 a u e).1
      rw [k5 a u n1 e2]
      exact w1.hg a u e
    · obtain ⟨n1, e2⟩ := big a u (w1.h0 a u e).1
      exact ⟨k1 a u n1 e2, (w1.h0 a u e).2⟩
/-- o.f, a field -/
theorem se_fld {f : Str} (hb : plainBase a = true) (ha : SE Y sc fc a fa) : SE Y sc fc (.Attribute a f pos) (fun τ => (fa τ).bind fun x => match x with
    | .ins c ns vs => if (c, f) ∈ Y.Z.L then fldOf ns vs f else none
    | _ => none) := by
  refine ⟨fun X ok H0 G0 G W H τ σ d w s h Q q => ?_⟩
  obtain ⟨x, hx, h⟩ := bnd h
  split at h
  · rename_i c ns vs
    split at h
    · rename_i hm
      obtain ⟨C, h1, h2, h3⟩ := (ok.fld c f hm).ex
      refine ⟨_, pe_fld pe_tu (base_no hb), ?_⟩
      refine ha.run X ok _ _ _ _ _ _ _ _ w s hx _ fun v G1 H1 e1 w1 dv => ?_
      simp only [Den] at dv
      obtain ⟨p, C', dx, nvs, rfl, hp, hC, hns, dvs⟩ := dv
      rw [h1] at hC
      cases hC
      obtain ⟨v, hl, dv⟩ := fldOf_den h hns dvs
      exact ⟨p, _, dx, nvs, v, rfl, w1.gh _ _ hp, h2, h3, hl, q _ _ _ e1 w1 dv⟩
    · cases h
  · cases h
/-- o.m(..) -/
theorem se_mth {m : Str} (hb : plainBase o = true) (hline : (apos.endLine == pos.line) = true) (hlen : es.length < 30) (ho : SE Y sc fc o fa) (hn : es.all notStar = true) (hL : SA Y sc fc es fL) (h0 : es = [] → ∀ τ ds, fL τ = some ds → ds = []) :
    SE Y sc fc (.Call (.Attribute o m apos) es [] pos) (fun τ => (fa τ).bind fun x => (fL τ).bind fun ds => match x with
    | .ins c ns vs => if m ∈ ns then none else (findM Y.Z.M c m).bind fun k => Y.Z.F k (x :: ds)
    | _ => none) := by
  refine ⟨fun X ok H0 G0 G W H τ σ d w s h Q q => ?_⟩
  obtain ⟨x, hx, h⟩ := bnd h
  obtain ⟨xs, hxs, h⟩ := bnd h
  split at h
  · rename_i c ns vs _
    split at h
    · cases h
    · rename_i hnm
      obtain ⟨k, hk, h⟩ := bnd h
      obtain ⟨C, f, fd, ps, h1, h2, h3, hbi, hF⟩ := (ok.mth c m k hk).ex
      have fin : ∀ (us : List V) (G1 H1 G2 H2 : Hp) (v : V), Sub G G1 → Sub G1 G2 → Wd H0 G0 G2 W H2 → Den X.K G1 (.ins c ns vs) v → DenL X.K G2 xs us → spF X.K (Y.Z.F k) (v :: (us ++ [])) H2 Q E0 := by
        intro us G1 H1 G2 H2 v e1 e2 w2 dv dus
        rw [List.append_nil]
        exact ⟨_, d, G2, w2.gh, by simp only [DenL]; exact ⟨v, us, rfl, dv.mono e2, dus⟩, h, fun v G' H' a b c e dv => q v G' H' ((e1.trans e2).trans b) (w2.call a b c e) dv⟩
      cases es with
      | nil =>
        refine ⟨_, pe_meth0 pe_tu h2 h3 hF ok.room hbi .nil pass0 (meth_eq hb hn (by simp) hline), ?_⟩
        refine ho.run X ok _ _ _ _ _ _ _ _ w s hx _ fun v G1 H1 e1 w1 dv => ?_
        have dv' := dv
        simp only [Den] at dv'
        obtain ⟨p, C', dx, nvs, rfl, hp, hC, hns, dvs⟩ := dv'
        rw [h1] at hC
        cases hC
        refine ⟨p, dx, nvs, rfl, w1.gh _ _ hp, lookup_none (by rw [← hns]; exact hnm), ?_⟩
        have e0 : xs = [] := h0 rfl _ _ hxs
        subst e0
        exact fin [] G1 H1 G1 H1 _ e1 (Sub.refl _) w1 dv (by simp only [DenL])
      | cons e1' er =>
        simp only [List.all_cons, Bool.and_eq_true] at hn
        refine ⟨_, pe_meth pe_tu h2 h3 hF ok.room hbi .nil pass0 pa_tu (star_cons hn.1) (star_any hn.2) (meth_eq hb (by simp [hn]) hlen hline), ?_⟩
        refine ho.run X ok _ _ _ _ _ _ _ _ w s hx _ fun v G1 H1 e1 w1 dv => ?_
        have dv' := dv
        simp only [Den] at dv'
        obtain ⟨p, C', dx, nvs, rfl, hp, hC, hns, dvs⟩ := dv'
        rw [h1] at hC
        cases hC
        refine ⟨p, dx, nvs, rfl, w1.gh _ _ hp, lookup_none (by rw [← hns]; exact hnm), ?_⟩
        refine hL.run X ok _ _ _ _ _ _ _ _ w1 (s.mono e1) hxs _ fun us G2 H2 e2 w2 dus => ?_
        exact fin us G1 H1 G2 H2 _ e1 e2 w2 dv dus
  · cases h
end
end Pv

set_option Elab.async false
set_option linter.all false
set_option maxRecDepth 100000
set_option maxHeartbeats 4000000

namespace Pv
open PySem PySem.Spec L2

section
variable {Y : Stat} {sc : Scope} {fc : Str → Bool} {pos p p1 p2 apos : Pos} {a b c o : Expr} {es : List Expr} {fa fb fd : List Sl → Option D} {fL fK : List Sl → Option (List D)} {kws : List Keyword}
/-- o.f, a property -/
theorem se_prp {f : Str} (hb : plainBase a = true) (ha : SE Y sc fc a fa) : SE Y sc fc (.Attribute a f pos) (fun τ => (fa τ).bind fun x => match x with
    | .ins c _ _ => (findM Y.Z.P c f).bind fun k => Y.Z.F k [x]
    | _ => none) := by
  refine ⟨fun X ok H0 G0 G W H τ σ d w s h Q q => ?_⟩
  obtain ⟨x, hx, h⟩ := bnd h
  split at h
  · rename_i c ns vs
    obtain ⟨k, hk, h⟩ := bnd h
    obtain ⟨C, p, f, fd, ps, lv, hlv, h1, h2, h3, hbi, hF⟩ := (ok.prp c f k hk).ex
    refine ⟨_, pe_prop pe_tu h2 h3 hF (ok.room.mono hlv) hbi .nil pass0 (base_no hb), ?_⟩
    refine ha.run X ok _ _ _ _ _ _ _ _ w s hx _ fun v G1 H1 e1 w1 dv => ?_
    have dv' := dv
    simp only [Den] at dv'
    obtain ⟨p, C', dx, nvs, rfl, hp, hC, hns, dvs⟩ := dv'
    rw [h1] at hC
    cases hC
    refine ⟨p, dx, nvs, rfl, w1.gh _ _ hp, ?_⟩
    exact ⟨_, d, G1, w1.gh, by simp only [DenL]; exact ⟨_, [], rfl, dv, rfl⟩, h, fun v G' H' a b c e dv => q v G' H' (e1.trans b) (w1.call a b c e) dv⟩
  · cases h
/-- sep.join(texts) -/
theorem joinOk_of {s : List Nat} {ps : List (List Nat)} (h : joinOk s ps = true) : ((ps.map mkS).map (·.length)).sum + (ps.map mkS).length * (mkS s).length ≤ 16777216 := by
  have := of_decide_eq_true h
  have e : (ps.map mkS).map (·.length) = ps.map (·.length) := by
    rw [List.map_map]
    apply List.map_congr_left
    intro x _
    exact mkS_len x
  rw [e, mkS_len, List.length_map]
  exact this
theorem se_join (hb : plainBase a = true) (hline : (apos.endLine == pos.line) = true) (hn : notStar b = true) (ha : SE Y sc fc a fa) (hb' : SE Y sc fc b fb) :
    SE Y sc fc (.Call (.Attribute a "join" apos) [b] [] pos) (fun τ => (fa τ).bind fun x => (fb τ).bind fun y => joinD x y) := by
  refine ⟨fun X ok H0 G0 G W H τ σ d w s h Q q => ?_⟩
  obtain ⟨x, hx, h⟩ := bnd h
  obtain ⟨y, hy, h⟩ := bnd h
  refine ⟨_, pe_join pe_tu pe_tu (star_cons hn) (base_no hb) hline, ?_⟩
  refine ha.run X ok _ _ _ _ _ _ _ _ w s hx _ fun v G1 H1 e1 w1 dv => ?_
  unfold joinD at h
  split at h
  · rename_i z ds _
    simp only [Den] at dv
    subst dv
    refine ⟨⟨_, rfl⟩, ?_⟩
    refine hb'.run X ok _ _ _ _ _ _ _ _ w1 (s.mono e1) hy _ fun u G2 H2 e2 w2 du => ?_
    simp only [Den] at du
    obtain ⟨p, us, rfl, hp, hu⟩ := du
    obtain ⟨ps, hps, h⟩ := bnd h
    split at h
    · rename_i hj
      cases h
      rw [strsD_den hps hu] at hp
      refine ⟨mkS z, p, ps.map mkS, rfl, rfl, .inl (SqL.of (w2.gh _ _ hp)), joinOk_of hj, ?_⟩
      refine q _ _ _ (e1.trans e2) w2 ?_
      have := SX.join_S z ps
      simp only [Den]
      congr 1
      rw [← joinN_eq]
      exact this
    · cases h
  · rename_i z ds _
    simp only [Den] at dv
    subst dv
    refine ⟨⟨_, rfl⟩, ?_⟩
    refine hb'.run X ok _ _ _ _ _ _ _ _ w1 (s.mono e1) hy _ fun u G2 H2 e2 w2 du => ?_
    simp only [Den] at du
    obtain ⟨p, us, rfl, hp, hu⟩ := du
    obtain ⟨ps, hps, h⟩ := bnd h
    split at h
    · rename_i hj
      cases h
      rw [strsD_den hps hu] at hp
      refine ⟨mkS z, p, ps.map mkS, rfl, rfl, .inr (sub_t w2.gh hp), joinOk_of hj, ?_⟩
      refine q _ _ _ (e1.trans e2) w2 ?_
      have := SX.join_S z ps
      simp only [Den]
      congr 1
      rw [← joinN_eq]
      exact this
    · cases h
  · cases h
/-- d.get(k) -/
theorem se_dget (hb : plainBase a = true) (hline : (apos.endLine == pos.line) = true) (hn : notStar b = true) (ha : SE Y sc fc a fa) (hb' : SE Y sc fc b fb) :
    SE Y sc fc (.Call (.Attribute a "get" apos) [b] [] pos) (fun τ => (fa τ).bind fun x => (fb τ).bind fun y => getD' x y) := by
  refine ⟨fun X ok H0 G0 G W H τ σ d w s h Q q => ?_⟩
  obtain ⟨x, hx, h⟩ := bnd h
  obtain ⟨y, hy, h⟩ := bnd h
  have hu : X.A.units + 1 < cLine := by have := ok.room.units; omega
  cases x <;> simp only [getD'] at h <;> try cases h
  obtain ⟨q', hq, rfl⟩ := mpd h
  have hst : starEach [b] X.env = [(false, eval b X.env)] := star_cons hn
  refine ⟨_, pe_dget1 hu pe_tu pe_tu ⟨base_no hb, form_ok (es := [b]) (by simp [hn]) (by simp), hline, by rw [hst]; rfl⟩, ?_⟩
  refine ha.run X ok _ _ _ _ _ _ _ _ w s hx _ fun v G1 H1 e1 w1 dv => ?_
  have dv' := dv
  simp only [Den] at dv'
  obtain ⟨p, kvs, rfl, hp, _⟩ := dv'
  refine ⟨p, rfl, .inl ⟨kvs, .inl (w1.gh _ _ hp)⟩, ?_⟩
  refine hb'.run X ok _ _ _ _ _ _ _ _ w1 (s.mono e1) hy _ fun u G2 H2 e2 w2 du => ?_
  obtain ⟨p', ob, eu, _, g, hh⟩ := dget_den du hq (dv.mono e2) w2.gh
  cases eu
  refine ⟨ob, g, ?_⟩
  rcases hh with ⟨d', z, a1, a2, a3⟩ | ⟨a1, a2⟩
  · rw [a1] at q
    subst a2
    exact q _ _ _ (e1.trans e2) w2 a3
  · rw [a1] at q
    subst a2
    exact q _ _ _ (e1.trans e2) w2 (by simp only [Option.getD_none, Den])
theorem getOd_some {τ : List Sl} {i : Nat} {kv : List D × List D} (h : getOd τ i = some kv) : τ[i]? = some (.o (.dct kv.1 kv.2)) := by
  unfold getOd at h
  split at h
  · rename_i e; cases h; exact e
  · cases h
theorem getOi_some {τ : List Sl} {i : Nat} {o : Str × List Str × List D} (h : getOi τ i = some o) : τ[i]? = some (.o (.ins o.1 o.2.1 o.2.2)) := by
  unfold getOi at h
  split at h
  · rename_i e; cases h; exact e
  · cases h
/-- e in x, x the slot's own dict -/
theorem own_dict {K : PySem.W.Frag} {G W H H0 G0 : Hp} {τ : List Sl} {σ : St} {i : Nat} {kv : List D × List D} (w : Wd H0 G0 G W H) (s : SlOk K G W τ σ) (h : getOd τ i = some kv) :
    ∃ p kvs, σ[i]? = some (some (.ref p)) ∧ W p = some (.dK kvs) ∧ H p = some (.dK kvs) ∧ kv.1.map D.key = kvs.map (fun p => some p.1) ∧ DenL K G kv.2 (kvs.map (fun p => p.2)) := by
  obtain ⟨p, ob, h1, h2, h3⟩ := s.own i _ (getOd_some h)
  simp only [DenO] at h3
  obtain ⟨kvs, rfl, h4, h5⟩ := h3
  exact ⟨p, kvs, h1, h2, (w.wh _ _ h2).1, h4, h5⟩
theorem se_ino {i : Nat} {x : Str} (hN : Y.N[i]? = some x) (hv : Vis sc x) (hd : (x == ("__debug__" : Str)) = false) (hcd : (x == ("__classdict__" : Str)) = false) (ha : SE Y sc fc a fa) :
    SE Y sc fc (.Compare a [.In] [.Name x p] pos) (fun τ => (fa τ).bind fun x => (D.key x).bind fun q => (getOd τ i).map fun kv => .bl ((dlook kv.1 kv.2 q).isSome != false)) := by
  refine ⟨fun X ok H0 G0 G W H τ σ d w s h Q q => ?_⟩
  obtain ⟨y, hx, h⟩ := bnd h
  obtain ⟨q', hq, h⟩ := bnd h
  obtain ⟨kv, hkv, rfl⟩ := mpd h
  have hu : X.A.units + 1 < cLine := by have := ok.room.units; omega
  refine ⟨_, pe_cmp (pc_din hu pe_tu (pe_var (by rw [ok.eN]; exact hN) (ok.vis hv) hd hcd)) rfl, ?_⟩
  refine ha.run X ok _ _ _ _ _ _ _ _ w s hx _ fun v G1 H1 e1 w1 dv => ?_
  obtain ⟨p, kvs, h1, h2, h3, h4, h5⟩ := own_dict w1 (s.mono e1) hkv
  refine ⟨_, h1, p, valV kvs q', rfl, by rw [key_den0 hq dv]; exact DGet.k h3, ?_⟩
  rw [← isSome_of (dlook_den q' h4 h5)]
  refine q _ _ _ e1 w1 ?_
  simp only [Den]
  cases (dlook kv.1 kv.2 q').isSome <;> rfl
theorem se_nino {i : Nat} {x : Str} (hN : Y.N[i]? = some x) (hv : Vis sc x) (hd : (x == ("__debug__" : Str)) = false) (hcd : (x == ("__classdict__" : Str)) = false) (ha : SE Y sc fc a fa) :
    SE Y sc fc (.Compare a [.NotIn] [.Name x p] pos) (fun τ => (fa τ).bind fun x => (D.key x).bind fun q => (getOd τ i).map fun kv => .bl ((dlook kv.1 kv.2 q).isSome != true)) := by
  refine ⟨fun X ok H0 G0 G W H τ σ d w s h Q q => ?_⟩
  obtain ⟨y, hx, h⟩ := bnd h
  obtain ⟨q', hq, h⟩ := bnd h
  obtain ⟨kv, hkv, rfl⟩ := mpd h
  have hu : X.A.units + 1 < cLine := by have := ok.room.units; omega
  refine ⟨_, pe_cmp (pc_dnotin hu pe_tu (pe_var (by rw [ok.eN]; exact hN) (ok.vis hv) hd hcd)) rfl, ?_⟩
  refine ha.run X ok _ _ _ _ _ _ _ _ w s hx _ fun v G1 H1 e1 w1 dv => ?_
  obtain ⟨p, kvs, h1, h2, h3, h4, h5⟩ := own_dict w1 (s.mono e1) hkv
  refine ⟨_, h1, p, valV kvs q', rfl, by rw [key_den0 hq dv]; exact DGet.k h3, ?_⟩
  rw [← isSome_of (dlook_den q' h4 h5)]
  refine q _ _ _ e1 w1 ?_
  simp only [Den]
  cases (dlook kv.1 kv.2 q').isSome <;> rfl
theorem st_ino {i : Nat} {x : Str} (hN : Y.N[i]? = some x) (hv : Vis sc x) (hd : (x == ("__debug__" : Str)) = false) (hcd : (x == ("__classdict__" : Str)) = false) (ha : SE Y sc fc a fa) :
    ST Y sc fc (.Compare a [.In] [.Name x p] pos) (fun τ => ((fa τ).bind fun x => (D.key x).bind fun q => (getOd τ i).map fun kv => D.bl ((dlook kv.1 kv.2 q).isSome != false)).bind truth) := by
  refine ⟨fun X ok H0 G0 G W H τ σ d w s h Q q => ?_⟩
  obtain ⟨dd, h, ht⟩ := bnd h
  obtain ⟨y, hx, h⟩ := bnd h
  obtain ⟨q', hq, h⟩ := bnd h
  obtain ⟨kv, hkv, rfl⟩ := mpd h
  cases ht
  have hu : X.A.units + 1 < cLine := by have := ok.room.units; omega
  refine ⟨_, pt_cmp (pc_din hu pe_tu (pe_var (by rw [ok.eN]; exact hN) (ok.vis hv) hd hcd)) rfl, ?_⟩
  refine ha.run X ok _ _ _ _ _ _ _ _ w s hx _ fun v G1 H1 e1 w1 dv => ?_
  obtain ⟨p, kvs, h1, h2, h3, h4, h5⟩ := own_dict w1 (s.mono e1) hkv
  refine ⟨_, h1, p, valV kvs q', rfl, by rw [key_den0 hq dv]; exact DGet.k h3, ?_⟩
  rw [← isSome_of (dlook_den q' h4 h5)]
  refine ⟨_, rfl, ?_⟩
  have := q _ _ e1 w1
  cases hz : (dlook kv.1 kv.2 q').isSome <;> rw [hz] at this <;> exact this
theorem st_nino {i : Nat} {x : Str} (hN : Y.N[i]? = some x) (hv : Vis sc x) (hd : (x == ("__debug__" : Str)) = false) (hcd : (x == ("__classdict__" : Str)) = false) (ha : SE Y sc fc a fa) :
    ST Y sc fc (.Compare a [.NotIn] [.Name x p] pos) (fun τ => ((fa τ).bind fun x => (D.key x).bind fun q => (getOd τ i).map fun kv => D.bl ((dlook kv.1 kv.2 q).isSome != true)).bind truth) := by
  refine ⟨fun X ok H0 G0 G W H τ σ d w s h Q q => ?_⟩
  obtain ⟨dd, h, ht⟩ := bnd h
  obtain ⟨y, hx, h⟩ := bnd h
  obtain ⟨q', hq, h⟩ := bnd h
  obtain ⟨kv, hkv, rfl⟩ := mpd h
  cases ht
  have hu : X.A.units + 1 < cLine := by have := ok.room.units; omega
  refine ⟨_, pt_cmp (pc_dnotin hu pe_tu (pe_var (by rw [ok.eN]; exact hN) (ok.vis hv) hd hcd)) rfl, ?_⟩
  refine ha.run X ok _ _ _ _ _ _ _ _ w s hx _ fun v G1 H1 e1 w1 dv => ?_
  obtain ⟨p, kvs, h1, h2, h3, h4, h5⟩ := own_dict w1 (s.mono e1) hkv
  refine ⟨_, h1, p, valV kvs q', rfl, by rw [key_den0 hq dv]; exact DGet.k h3, ?_⟩
  rw [← isSome_of (dlook_den q' h4 h5)]
  refine ⟨_, rfl, ?_⟩
  have := q _ _ e1 w1
  cases hz : (dlook kv.1 kv.2 q').isSome <;> rw [hz] at this <;> exact this

/-! ### statements -/
theorem ss_never {st : Stmt} : SS Y sc fc st (fun _ => none) := ⟨fun X ok H0 G0 G W H τ σ o w s h Dn q => by cases h⟩
/-- x = {}, the dict the slot's own -/
theorem ss_newd {i : Nat} {x : Str} (hN : Y.N[i]? = some x) (hx : Loc sc x) (hf : (fc x || decide (sc.names.lookup x = some .local)) = true) :
    SS Y sc fc (.Assign [.Name x p] (.Dict [] [] p1) pos) (fun τ => some (.nx (τ.set i (.o (.dct [] []))))) := by
  refine ⟨fun X ok H0 G0 G W H τ σ o w s h Dn q => ?_⟩
  cases h
  refine ⟨_, ps_set ok.nd (by rw [ok.eN]; exact hN) (ok.loc hx) pe_dnewK (swaps_no rfl) (ok.hf hf), ?_⟩
  intro z hz
  exact q _ _ _ _ (Sub.refl _) (w.newO hz) (s.putO (w.wnone hz) (by simp only [DenO]; exact ⟨[], rfl, rfl, by simp [DenL]⟩))
/-- x[k] = e, x the slot's own dict -/
theorem ss_put {i : Nat} {x : Str} (hN : Y.N[i]? = some x) (hv : Vis sc x) (hd : (x == ("__debug__" : Str)) = false) (hcd : (x == ("__classdict__" : Str)) = false) (hc : notComp a = true) (ha : SE Y sc fc a fa) (hb : SE Y sc fc b fb) :
    SS Y sc fc (.Assign [.Subscript (.Name x p) b p1] a pos) (fun τ => (fa τ).bind fun d => (fb τ).bind fun x => (D.key x).bind fun q => (getOd τ i).bind fun kv => if kv.1.length < line then some (.nx (τ.set i (.o (.dct (dputK kv.1 q x) (dputV kv.1 kv.2 q d))))) else none) := by
  refine ⟨fun X ok H0 G0 G W H τ σ o w s h Dn q => ?_⟩
  obtain ⟨d, hd', h⟩ := bnd h
  obtain ⟨y, hy, h⟩ := bnd h
  obtain ⟨q', hq, h⟩ := bnd h
  obtain ⟨kv, hkv, h⟩ := bnd h
  split at h
  · rename_i hl
    cases h
    have hu : X.A.units + 1 < cLine := by have := ok.room.units; omega
    refine ⟨_, ps_dput hu (pe_var (by rw [ok.eN]; exact hN) (ok.vis hv) hd hcd) pe_tu pe_tu (swaps_no hc), ?_⟩
    refine ha.run X ok _ _ _ _ _ _ _ _ w s hd' _ fun v G1 H1 e1 w1 dv => ?_
    obtain ⟨p, kvs, h1, _, _, _, _⟩ := own_dict w1 (s.mono e1) hkv
    refine ⟨_, h1, ?_⟩
    refine hb.run X ok _ _ _ _ _ _ _ _ w1 (s.mono e1) hy _ fun u G2 H2 e2 w2 du => ?_
    obtain ⟨p', kvs', h1', h2, h3, h4, h5⟩ := own_dict w2 ((s.mono e1).mono e2) hkv
    rw [h1] at h1'
    cases h1'
    have hlen : kvs'.length < sizeLine := by
      have := congrArg List.length h4
      simp only [List.length_map] at this
      rw [← this]
      exact lt_line hl
    refine ⟨p, _, rfl, by rw [key_den0 hq du]; exact DPut.k h3 hlen, ?_⟩
    refine q _ _ _ _ (e1.trans e2) (w2.set h2) (((s.mono e1).mono e2).chg (getOd_some hkv) h1 ?_)
    simp only [DenO]
    obtain ⟨r1, r2⟩ := dput_den h4 h5 hq (dv.mono e2)
    exact ⟨_, rfl, r1, r2⟩
  · cases h
/-- o.f = e, o the slot's own instance -/
theorem ss_setf {i : Nat} {x f : Str} (hN : Y.N[i]? = some x) (hv : Vis sc x) (hd : (x == ("__debug__" : Str)) = false) (hcd : (x == ("__classdict__" : Str)) = false) (hc : notComp a = true) (ha : SE Y sc fc a fa) :
    SS Y sc fc (.Assign [.Attribute (.Name x p) f p1] a pos) (fun τ => (fa τ).bind fun d => (getOi τ i).bind fun o => if (o.1, f) ∈ Y.Z.L ∧ o.2.1.length < 1000 then some (.nx (τ.set i (.o (.ins o.1 (putN o.2.1 o.2.2 f) (putV o.2.1 o.2.2 f d))))) else none) := by
  refine ⟨fun X ok H0 G0 G W H τ σ o w s h Dn q => ?_⟩
  obtain ⟨d, hd', h⟩ := bnd h
  obtain ⟨oi, hoi, h⟩ := bnd h
  split at h
  · rename_i hl
    cases h
    obtain ⟨C, c1, c2, c3⟩ := (ok.fld _ _ hl.1).ex
    refine ⟨_, ps_fld (pe_var (by rw [ok.eN]; exact hN) (ok.vis hv) hd hcd) pe_tu (swaps_no hc), ?_⟩
    refine ha.run X ok _ _ _ _ _ _ _ _ w s hd' _ fun v G1 H1 e1 w1 dv => ?_
    obtain ⟨p, ob, h1, h2, h3⟩ := (s.mono e1).own i _ (getOi_some hoi)
    simp only [DenO] at h3
    obtain ⟨C', dx, nvs, rfl, hC, hns, dvs⟩ := h3
    rw [c1] at hC
    cases hC
    refine ⟨_, h1, p, _, dx, nvs, rfl, (w1.wh _ _ h2).1, c2, c3, ?_, ?_⟩
    · have := congrArg List.length hns
      simp only [List.length_map] at this
      omega
    · obtain ⟨r1, r2⟩ := putN_den (f := f) hns dvs dv
      exact q _ _ _ _ e1 (w1.set h2 (fun _ _ _ _ => ⟨_, _, _, rfl⟩)) ((s.mono e1).chg (getOi_some hoi) h1 (by simp only [DenO]; exact ⟨_, dx, _, rfl, c1, r1, r2⟩))
  · cases h
theorem DenL.set {K : PySem.W.Frag} {G : Hp} : ∀ {ds : List D} {vs : List V} (n : Nat) {d : D} {v : V}, DenL K G ds vs → Den K G d v → DenL K G (ds.set n d) (vs.set n v)
  | [], _, n, d, v, h, _ => by simp only [DenL] at h; subst h; simp [DenL]
  | x :: ds, _, 0, d, v, h, h' => by
    simp only [DenL] at h
    obtain ⟨u, r, rfl, h1, h2⟩ := h
    simp only [List.set_cons_zero, DenL]
    exact ⟨v, r, rfl, h', h2⟩
  | x :: ds, _, n + 1, d, v, h, h' => by
    simp only [DenL] at h
    obtain ⟨u, r, rfl, h1, h2⟩ := h
    simp only [List.set_cons_succ, DenL]
    exact ⟨u, _, rfl, h1, DenL.set n h2 h'⟩
theorem assign_sub {o i : Expr} {q : Pos} {env : Env} (h : notSlice i = true) : ∀ v, assign (.Subscript o i q) env v = (do
      let ov ← holding [v] (eval o env)
      let iv ← holding [v, ov] (eval i env)
      standAt q
      holding [v, ov, iv] (setItem ov iv v)
      release [v, ov, iv] []) := by
  intro v
  cases i <;> first | rfl | simp [notSlice] at h
/-- x[k] = e, x the slot's own list -/
theorem ss_seti {i : Nat} {x : Str} (hN : Y.N[i]? = some x) (hv : Vis sc x) (hd : (x == ("__debug__" : Str)) = false) (hcd : (x == ("__classdict__" : Str)) = false) (hc : notComp a = true) (hnt : notTup a = true) (hs : notSlice b = true) (ha : SE Y sc fc a fa) (hb : SE Y sc fc b fb) :
    SS Y sc fc (.Assign [.Subscript (.Name x p) b p1] a pos) (fun τ => (fa τ).bind fun d => ((fb τ).bind intD).bind fun j => (getO τ i).bind fun xs => (ixN xs.length j).map fun n => .nx (τ.set i (.o (.lst (xs.set n d))))) := by
  refine ⟨fun X ok H0 G0 G W H τ σ o w s h Dn q => ?_⟩
  obtain ⟨d, hd', h⟩ := bnd h
  obtain ⟨j, hj, h⟩ := bnd h
  obtain ⟨y, hy, hj⟩ := bnd hj
  obtain ⟨xs, hxs, h⟩ := bnd h
  obtain ⟨n, hn, rfl⟩ := mpd h
  cases y <;> simp [intD] at hj
  subst hj
  refine ⟨_, ps_asg pe_tu (pg_sub (pe_var (by rw [ok.eN]; exact hN) (ok.vis hv) hd hcd) pe_tu set_list (assign_sub hs)) (swaps_sole hc) (stores_no hnt) rfl, ?_⟩
  refine ha.run X ok _ _ _ _ _ _ _ _ w s hd' _ fun v G1 H1 e1 w1 dv => ?_
  obtain ⟨p, ob, h1, h2, h3⟩ := (s.mono e1).own i _ (getO_some hxs)
  refine ⟨_, h1, ?_⟩
  refine hb.run X ok _ _ _ _ _ _ _ _ w1 (s.mono e1) hy _ fun u G2 H2 e2 w2 du => ?_
  simp only [Den] at du
  obtain ⟨p', ob', h1', h2', h3'⟩ := ((s.mono e1).mono e2).own i _ (getO_some hxs)
  rw [h1] at h1'
  cases h1'
  simp only [DenO] at h3'
  obtain ⟨us, rfl, h4⟩ := h3'
  refine ⟨p, us, _, n, rfl, du, (w2.wh _ _ h2').1, by rw [← h4.length]; exact hn, ?_⟩
  exact q _ _ _ _ (e1.trans e2) (w2.set h2') (((s.mono e1).mono e2).chg (getO_some hxs) h1 (by simp only [DenO]; exact ⟨_, rfl, h4.set n (dv.mono e2)⟩))
end
end Pv

set_option Elab.async false
set_option linter.all false
set_option maxRecDepth 100000
set_option maxHeartbeats 4000000

namespace Pv
open PySem PySem.Spec L2

/-! ### the same tree -/
mutual
theorem beq_eq : ∀ (a b : D), D.beq a b = true → a = b
  | .non, b, h => by cases b <;> simp [D.beq] at h <;> rfl
  | .bl a, b, h => by cases b <;> simp [D.beq] at h; rw [h]
  | .int a, b, h => by cases b <;> simp [D.beq] at h; rw [h]
  | .str a, b, h => by cases b <;> simp [D.beq] at h; rw [h]
  | .lst a, b, h => by cases b <;> simp [D.beq] at h; rw [beqL_eq _ _ h]
  | .tup a, b, h => by cases b <;> simp [D.beq] at h; rw [beqL_eq _ _ h]
  | .dct a c, b, h => by cases b <;> simp [D.beq] at h; rw [beqL_eq _ _ h.1, beqL_eq _ _ h.2]
  | .ins _ _ _, b, h => by simp [D.beq] at h
  | .scr _, b, h => by simp [D.beq] at h
theorem beqL_eq : ∀ (a b : List D), D.beqL a b = true → a = b
  | [], b, h => by cases b <;> simp [D.beqL] at h; rfl
  | a :: r, b, h => by
    cases b with
    | nil => simp [D.beqL] at h
    | cons b s =>
      simp [D.beqL] at h
      rw [beq_eq _ _ h.1, beqL_eq _ _ h.2]
end
section
variable {X : Cx} {pins : List (Addr × Obj)} {σ : L2.St} {H G : Hp} {s : Shared}
theorem valsAt {P : Value → Value → Prop} : ∀ {us ws : List Value} (j : Nat) (h1 : j < us.toArray.size) (h2 : j < ws.toArray.size), (∀ (h1 : j < us.length) (h2 : j < ws.length), P us[j] ws[j]) → P us.toArray[j] ws.toArray[j] := fun j h1 h2 h => by
  simpa using h (by simpa using h1) (by simpa using h2)
theorem key_in : ∀ {q : List (Key × V)} {va : List (Key × Value)} {k : Key} {v : Value}, KV q va → (k, v) ∈ va → ∃ (i : Nat) (z : V), q[i]? = some (k, z) ∧ RelV z v
  | _, _, _, _, .nil, h => by cases h
  | _, _, k, v, .cons (a := p) (b := b) h t, hm => by
    rcases List.mem_cons.mp hm with e | hm
    · subst e
      obtain ⟨h1, h2⟩ := h
      exact ⟨0, p.2, by rw [List.getElem?_cons_zero]; congr 1; exact Prod.ext h1 rfl, h2⟩
    · obtain ⟨i, z, a, c⟩ := key_in t hm
      exact ⟨i + 1, z, by rw [List.getElem?_cons_succ]; exact a, c⟩
theorem len_all {n : Nat} : ((List.range n).all fun _ => true) = true := List.all_eq_true.mpr fun _ _ => rfl
theorem keysV : ∀ {q : List (Key × V)} {va : List (Key × Value)}, KV q va → va.map (fun p => p.1) = q.map (fun p => p.1)
  | _, _, .nil => rfl
  | _, _, .cons h t => by rw [List.map_cons, List.map_cons, keysV t, h.1]
theorem valsV : ∀ {q : List (Key × V)} {va : List (Key × Value)}, KV q va → Vals (q.map fun p => p.2) (va.map fun p => p.2)
  | _, _, .nil => .nil
  | _, _, .cons h t => .cons h.2 (valsV t)
theorem distinct_ix : ∀ {ks : List (Option Key)}, distinctK ks = true → ∀ {i j : Nat} {k : Option Key}, ks[i]? = some k → ks[j]? = some k → i = j
  | [], _, i, _, _, h, _ => by simp at h
  | none :: r, h, _, _, _, _, _ => by simp [distinctK] at h
  | some k0 :: r, h, i, j, k, hi, hj => by
    simp only [distinctK, Bool.and_eq_true, List.all_eq_true, decide_eq_true_eq] at h
    cases i with
    | zero =>
      cases j with
      | zero => rfl
      | succ j =>
        simp at hi hj
        exact absurd hi.symm (h.1 k (List.mem_of_getElem? hj))
    | succ i =>
      cases j with
      | zero =>
        simp at hi hj
        exact absurd hj.symm (h.1 k (List.mem_of_getElem? hi))
      | succ j =>
        have hi' : r[i]? = some k := by simpa using hi
        have hj' : r[j]? = some k := by simpa using hj
        rw [distinct_ix h.2 hi' hj']
theorem key_at {ks : List D} {vs : List (Key × V)} {va : List (Key × Value)} (h : ks.map D.key = vs.map (fun p => some p.1)) (r : KV vs va) {k : Key} {x : Value} (hm : (k, x) ∈ va) : ∃ i : Nat, (ks.map D.key)[i]? = some (some k) ∧ (va.map fun p => p.2)[i]? = some x := by
  obtain ⟨i, hi⟩ := List.getElem?_of_mem hm
  refine ⟨i, ?_, by rw [List.getElem?_map, hi]; rfl⟩
  have e : vs.map (fun p => some p.1) = (va.map fun p => p.1).map some := by rw [keysV r, List.map_map]; rfl
  rw [h, e, List.getElem?_map, List.getElem?_map, hi]
  rfl
mutual
theorem tree_same (I : Inv X pins σ H s) (e : Sub G H) : ∀ (d : D) (n : Nat), D.deep d n = true → ∀ {v u : V} {v' u' : Value}, Den X.K G d v → Den X.K G d u → RelV v v' → RelV u u' → PySem.W.EqTree X.prog X.w s n v' u' true
  | .non, n, _, v, u, v', u', hv, hu, rv, ru => by
    simp only [Den] at hv hu; subst hv hu
    exact .leaf fun _ _ => eqAt_same rv ru rfl
  | .bl b, n, _, v, u, v', u', hv, hu, rv, ru => by
    simp only [Den] at hv hu; subst hv hu
    exact .leaf fun _ _ => eqAt_same rv ru rfl
  | .int b, n, _, v, u, v', u', hv, hu, rv, ru => by
    simp only [Den] at hv hu; subst hv hu
    exact .leaf fun _ _ => eqAt_same rv ru rfl
  | .str b, n, _, v, u, v', u', hv, hu, rv, ru => by
    simp only [Den] at hv hu; subst hv hu
    exact .leaf fun _ _ => eqAt_same rv ru rfl
  | .lst ds, n, h, v, u, v', u', hv, hu, rv, ru => by
    cases n with
    | zero => simp [D.deep] at h
    | succ n =>
      simp only [D.deep] at h
      simp only [Den] at hv hu
      obtain ⟨a, vs, rfl, ha, hvs⟩ := hv
      obtain ⟨b, us, rfl, hb, hus⟩ := hu
      cases (show v' = Value.ref a from rv)
      cases (show u' = Value.ref b from ru)
      by_cases ab : a = b
      · subst ab; exact .same
      · obtain ⟨va, r1, p1, _⟩ := I.list (SqL.of (e _ _ ha))
        obtain ⟨ub, r2, p2, _⟩ := I.list (SqL.of (e _ _ hb))
        have l : va.length = ub.length := by rw [← r1.length, ← r2.length, ← hvs.length, ← hus.length]
        have := PySem.W.EqTree.lists (prog := X.prog) (w := X.w) (n := n) (e := fun _ => true) ab p1.isList p2.isList (by simpa using l) (fun j h1 h2 => valsAt (P := fun x y => PySem.W.EqTree X.prog X.w s n x y true) j h1 h2 (treeL_same I e ds n h hvs hus r1 r2 j))
        rw [len_all] at this
        exact this
  | .tup ds, n, h, v, u, v', u', hv, hu, rv, ru => by
    cases n with
    | zero => simp [D.deep] at h
    | succ n =>
      simp only [D.deep] at h
      simp only [Den] at hv hu
      obtain ⟨a, vs, rfl, ha, hvs⟩ := hv
      obtain ⟨b, us, rfl, hb, hus⟩ := hu
      cases (show v' = Value.ref a from rv)
      cases (show u' = Value.ref b from ru)
      by_cases ab : a = b
      · subst ab; exact .same
      · obtain ⟨va, r1, p1, _⟩ := I.tuple (sub_t e ha)
        obtain ⟨ub, r2, p2, _⟩ := I.tuple (sub_t e hb)
        have l : va.length = ub.length := by rw [← r1.length, ← r2.length, ← hvs.length, ← hus.length]
        have := PySem.W.EqTree.tuples (prog := X.prog) (w := X.w) (n := n) (e := fun _ => true) ab p1 p2 (fun j h1 h2 => valsAt (P := fun x y => PySem.W.EqTree X.prog X.w s n x y true) j h1 h2 (treeL_same I e ds n h hvs hus r1 r2 j))
        rw [len_all] at this
        have l' : (va.toArray.size == ub.toArray.size) = true := by simpa using l
        rw [l'] at this
        exact this
  | .dct ks ds, n, h, v, u, v', u', hv, hu, rv, ru => by
    cases n with
    | zero => simp [D.deep] at h
    | succ n =>
      simp only [D.deep, Bool.and_eq_true] at h
      simp only [Den] at hv hu
      obtain ⟨a, vs, rfl, ha, hk1, hvs⟩ := hv
      obtain ⟨b, us, rfl, hb, hk2, hus⟩ := hu
      cases (show v' = Value.ref a from rv)
      cases (show u' = Value.ref b from ru)
      by_cases ab : a = b
      · subst ab; exact .same
      · obtain ⟨_, ya, va, ra, da⟩ := (show ObjOk X.prog X.w H s.heap a (.dK vs) from I.hok a _ (e _ _ ha))
        obtain ⟨_, yb, vb, rb, db⟩ := (show ObjOk X.prog X.w H s.heap b (.dK us) from I.hok b _ (e _ _ hb))
        have := PySem.W.EqTree.dicts (prog := X.prog) (w := X.w) (knd := mixKind X.prog X.w) (n := n) (e := fun _ => true) ab ya yb da db (fun k x y hm hy => by
          obtain ⟨i, i1, i2⟩ := key_at hk1 ra hm
          obtain ⟨j, j1, j2⟩ := key_at hk2 rb (valueAt_mem hy)
          have ij := distinct_ix h.1 i1 j1
          subst ij
          have b1 := (List.getElem?_eq_some_iff.mp i2).1
          have b2 := (List.getElem?_eq_some_iff.mp j2).1
          have t := treeL_same I e ds n h.2 hvs hus (valsV ra) (valsV rb) i b1 b2
          rw [(List.getElem?_eq_some_iff.mp i2).2, (List.getElem?_eq_some_iff.mp j2).2] at t
          exact t)
        have q : (va.length == vb.length && va.all fun p => (valueAt vb p.1).isSome && true) = true := by
          have kk : va.map (fun p => p.1) = vb.map (fun p => p.1) := by
            have : (vs.map (fun p => p.1)).map some = (us.map (fun p => p.1)).map some := by rw [List.map_map, List.map_map]; exact hk1.symm.trans hk2
            have inj : vs.map (fun p => p.1) = us.map (fun p => p.1) := (by
              have e : ∀ l : List Key, (l.map some).filterMap id = l := fun l => by induction l with | nil => rfl | cons a r ih => simpa using ih
              rw [← e (vs.map (fun p => p.1)), this, e])
            rw [keysV ra, keysV rb, inj]
          have hl := congrArg List.length kk
          rw [List.length_map, List.length_map] at hl
          simp only [Bool.and_eq_true, beq_iff_eq, List.all_eq_true, Bool.and_true]
          refine ⟨hl, fun p hp => ?_⟩
          rw [valueAt_isSome]
          have : p.1 ∈ va.map (fun p => p.1) := List.mem_map.mpr ⟨p, hp, rfl⟩
          rw [kk] at this
          exact this
        rw [q] at this
        exact this
  | .ins _ _ _, n, h, _, _, _, _, _, _, _, _ => by simp [D.deep] at h
  | .scr _, n, h, _, _, _, _, _, _, _, _ => by simp [D.deep] at h
theorem treeL_same (I : Inv X pins σ H s) (e : Sub G H) : ∀ (ds : List D) (n : Nat), D.deepL ds n = true → ∀ {vs us : List V} {vs' us' : List Value}, DenL X.K G ds vs → DenL X.K G ds us → Vals vs vs' → Vals us us' → ∀ (j : Nat) (h1 : j < vs'.length) (h2 : j < us'.length), PySem.W.EqTree X.prog X.w s n vs'[j] us'[j] true
  | [], n, _, vs, us, vs', us', hv, hu, rv, ru => by
    simp only [DenL] at hv hu; subst hv hu
    cases rv
    intro j h1; simp at h1
  | d :: ds, n, h, vs, us, vs', us', hv, hu, rv, ru => by
    simp only [D.deepL, Bool.and_eq_true] at h
    simp only [DenL] at hv hu
    obtain ⟨v, r, rfl, hv1, hv2⟩ := hv
    obtain ⟨u, r2, rfl, hu1, hu2⟩ := hu
    cases rv with
    | cons rv1 rv2 =>
      cases ru with
      | cons ru1 ru2 =>
        intro j h1 h2
        cases j with
        | zero => exact tree_same I e d n h.1 hv1 hu1 rv1 ru1
        | succ j => exact treeL_same I e ds n h.2 hv2 hu2 rv2 ru2 j (by simpa using h1) (by simpa using h2)
end
def rSameV (K : PySem.W.Frag) : R2 := fun x y H Q => ∃ (G : Hp) (ds : List D), Sub G H ∧ Den K G (.lst ds) x ∧ Den K G (.lst ds) y ∧ D.deepL ds 40 = true ∧ Q (.bl true) H
theorem op_same (hu : X.A.units + 64 < cLine) : OpR X (compareOp .Eq) (rSameV X.K) := by
  intro pins s σ H x y v u Q I rx ry h
  obtain ⟨G, ds, e, hv, hw, hd, q⟩ := h
  simp only [Den] at hv hw
  obtain ⟨a, vs, rfl, ha, hvs⟩ := hv
  obtain ⟨b, us, rfl, hb, hus⟩ := hw
  cases (show v = Value.ref a from rx)
  cases (show u = Value.ref b from ry)
  obtain ⟨va, r1, p1, _⟩ := I.list (SqL.of (e _ _ ha))
  obtain ⟨ub, r2, p2, _⟩ := I.list (SqL.of (e _ _ hb))
  have l : va.length = ub.length := by rw [← r1.length, ← r2.length, ← hvs.length, ← hus.length]
  refine PySem.SeqAt.rcIn_lists (e := fun _ => true) p1.isList p2.isList (by simpa using l) (by omega) (fun j h1 h2 => PySem.W.EqTree.at (n := 40) (valsAt (P := fun x y => PySem.W.EqTree X.prog X.w s 40 x y true) j h1 h2 (treeL_same I e ds 40 hd hvs hus r1 r2 j)) _ (by show X.A.units + 1 + 40 < cLine; omega)) ?_
  rw [len_all]
  exact ⟨.bl true, H, I, rfl, q⟩
end
section
variable {Y : Stat} {sc : Scope} {fc : Str → Bool} {pos apos : Pos} {a b : Expr} {fa fb : List Sl → Option D}
theorem sameD_some {x y d : D} (h : sameD x y = some d) : ∃ ds, x = .lst ds ∧ y = .lst ds ∧ D.deepL ds 40 = true ∧ d = .bl true := by
  unfold sameD at h
  split at h
  · split at h
    · rename_i hb
      cases h
      rw [Bool.and_eq_true] at hb
      have := beqL_eq _ _ hb.1
      subst this
      exact ⟨_, rfl, rfl, hb.2, rfl⟩
    · cases h
  · cases h
theorem se_same (ha : SE Y sc fc a fa) (hb : SE Y sc fc b fb) (hs : notSet b = true) : SE Y sc fc (.Compare a [.Eq] [b] pos) (fun τ => (fa τ).bind fun x => (fb τ).bind fun y => sameD x y) := by
  refine ⟨fun X ok H0 G0 G W H τ σ d w s h Q q => ?_⟩
  obtain ⟨x, hx, h⟩ := bnd h
  obtain ⟨y, hy, h⟩ := bnd h
  obtain ⟨ds, rfl, rfl, hd, rfl⟩ := sameD_some h
  refine ⟨_, pe_cmpR opR_u pe_tu pe_tu (behind_no hs), ?_⟩
  refine ha.run X ok _ _ _ _ _ _ _ _ w s hx _ fun v G1 H1 e1 w1 dv => ?_
  refine hb.run X ok _ _ _ _ _ _ _ _ w1 (s.mono e1) hy _ fun u G2 H2 e2 w2 du => ?_
  exact ⟨_, op_same ok.room.units, G2, ds, w2.gh, dv.mono e2, du, hd, q _ _ _ (e1.trans e2) w2 (by simp only [Den])⟩
theorem st_same (ha : SE Y sc fc a fa) (hb : SE Y sc fc b fb) (hs : notSet b = true) : ST Y sc fc (.Compare a [.Eq] [b] pos) (fun τ => ((fa τ).bind fun x => (fb τ).bind fun y => sameD x y).bind truth) := by
  refine ⟨fun X ok H0 G0 G W H τ σ d w s h Q q => ?_⟩
  obtain ⟨k, h, ht⟩ := bnd h
  obtain ⟨x, hx, h⟩ := bnd h
  obtain ⟨y, hy, h⟩ := bnd h
  obtain ⟨ds, rfl, rfl, hd, rfl⟩ := sameD_some h
  cases ht
  refine ⟨_, pt_cmpR opR_u pe_tu pe_tu (behind_no hs), ?_⟩
  refine ha.run X ok _ _ _ _ _ _ _ _ w s hx _ fun v G1 H1 e1 w1 dv => ?_
  refine hb.run X ok _ _ _ _ _ _ _ _ w1 (s.mono e1) hy _ fun u G2 H2 e2 w2 du => ?_
  exact ⟨_, op_same ok.room.units, G2, ds, w2.gh, dv.mono e2, du, hd, ⟨_, rfl, q _ _ (e1.trans e2) w2⟩⟩
theorem se_upper (hb : plainBase a = true) (hline : (apos.endLine == pos.line) = true) (ha : SE Y sc fc a fa) : SE Y sc fc (.Call (.Attribute a "upper" apos) [] [] pos) (fun τ => (fa τ).bind fun x => u1D .upper x) := by
  refine ⟨fun X ok H0 G0 G W H τ σ d w s h Q q => ?_⟩
  obtain ⟨x, hx, h⟩ := bnd h
  refine ⟨_, pe_upper pe_tu (base_no hb) hline, ?_⟩
  refine ha.run X ok _ _ _ _ _ _ _ _ w s hx _ fun v G1 H1 e1 w1 dv => ?_
  cases x with
  | str x =>
    simp only [u1D] at h
    split at h
    · rename_i hl
      cases h
      simp only [Den] at dv
      subst dv
      refine ⟨⟨_, rfl⟩, _, rfl, rfl, by rw [mkS_len]; exact hl, q _ _ _ e1 w1 ?_⟩
      simp only [Den]
    · cases h
  | _ => simp [u1D] at h
end
end Pv

set_option Elab.async false
set_option linter.all false
set_option maxRecDepth 100000
set_option maxHeartbeats 4000000

/-! ### x[::-1] of tuples and texts -/
namespace PvR
open PySem PySem.Spec PyProof.Rows L2
section
variable {prog : Program} {w : World} {A : Around} {E : Value → Shared → Prop} {s : Shared}
theorem adjust_rev (n : Nat) : Builtin.Slice.sliceAdjust none none (-1) (n : Int) = ((n : Int) - 1, -1) := by
  unfold Builtin.Slice.sliceAdjust
  simp
theorem places_rev (n : Nat) : Builtin.Slice.slicePlaces ((n : Int) - 1) (-1) (-1) = n := by
  unfold Builtin.Slice.slicePlaces
  by_cases h : n = 0
  · subst h; decide
  · simp
    omega
theorem sliceApplied_rev {sl : Addr} {vs : Value} {n : Nat} {Q : Int × Int × Nat → Shared → Prop} (hs : s.heap.IsSliceOf sl .none .none vs) (ps : IsPart vs (some (-1)))
    (h : Q ((n : Int) - 1, -1, n) s) : wpAny (model prog w) A (Builtin.Slice.sliceApplied (.ref sl) (pure (n : Int))) Q E s := by
  obtain ⟨os, hos, hcs, hds⟩ := id hs
  unfold Builtin.Slice.sliceApplied Builtin.Slice.sliceFields
  refine wpAny_bind (wpAny_bind (wpAny_field hos hds (x := .none) rfl (wpAny_bind (wpAny_field hos hds (x := .none) rfl (wpAny_bind (wpAny_field hos hds (x := vs) rfl (wpAny_pure ?_)))))))
  refine wpAny_bind (HT.slicePart_ ps ?_)
  show wpAny _ _ (if ((-1 : Int) == 0) = true then _ else _) _ _ s
  rw [if_neg (by decide)]
  refine wpAny_bind (HT.slicePart_ .none (wpAny_bind (HT.slicePart_ .none (wpAny_bind (wpAny_pure ?_)))))
  show wpAny _ _ (match Builtin.Slice.sliceAdjust none none (-1) (n : Int) with | (lo, hi) => pure (lo, (-1 : Int), Builtin.Slice.slicePlaces lo hi (-1))) _ _ s
  rw [adjust_rev n]
  show wpAny _ _ (pure ((n : Int) - 1, (-1 : Int), Builtin.Slice.slicePlaces ((n : Int) - 1) (-1) (-1))) _ _ s
  rw [places_rev]
  exact wpAny_pure h
theorem fm_congr {α β : Type} {f g : α → Option β} : ∀ l : List α, (∀ a ∈ l, f a = g a) → l.filterMap f = l.filterMap g
  | [], _ => rfl
  | a :: l, h => by
    rw [List.filterMap_cons, List.filterMap_cons, h a List.mem_cons_self, fm_congr l fun b hb => h b (List.mem_cons_of_mem _ hb)]
theorem pick_rev {α : Type} (xs : Array α) : ((List.range xs.size).filterMap fun (m : Nat) => xs[((xs.size : Int) - 1 + (m : Int) * (-1)).toNat]?).toArray = xs.toList.reverse.toArray := by
  have h := PySem.W.krv_range xs.size
  have e : ((List.range xs.size).filterMap fun (m : Nat) => xs[((xs.size : Int) - 1 + (m : Int) * (-1)).toNat]?) = (((List.range xs.size).map fun k => xs.size - 1 - k).filterMap (xs[·]?)) := by
    rw [List.filterMap_map]
    apply fm_congr
    intro m hm
    have := List.mem_range.mp hm
    have : ((xs.size : Int) - 1 + (m : Int) * (-1)).toNat = xs.size - 1 - m := by omega
    rw [this]
    rfl
  rw [e, h, List.filterMap_reverse, PySem.W.krv_all]
/-- t[::-1], t a tuple -/
theorem tuple_back {t sl : Addr} {items : Array Value} {vs : Value} {Q : Value → Shared → Prop} (ht : IsTup s.heap t items) (hs : s.heap.IsSliceOf sl .none .none vs) (ps : IsPart vs (some (-1))) (hl : items.size ≤ sizeLine)
    (h : Q (.ref s.heap.objs.size) { s with heap := s.heap.push { cls := .type "tuple", data := .seq items.toList.reverse.toArray } }) : wpAny (model prog w) A (getItem (.ref t) (.ref sl)) Q E s := by
  have big : sizeOk (.seq items.toList.reverse.toArray) := by
    show items.toList.reverse.toArray.size ≤ sizeLine
    simpa using hl
  have isl : s.TypeIs (.ref sl) "slice" := by
    obtain ⟨o, e, c, _⟩ := id hs
    exact ⟨o, e, c⟩
  have part : ¬ ((((items.size : Int) - 1) == 0 && (-1 : Int) == 1 && items.size == items.size) = true) := by simp
  unfold getItem
  try with_reducible refine wpAny_holding ?_
  first | refine wpAny_bind (wpAny_pure ?_) | skip
  refine wpAny_bind (wpAny_sequenceKey ht.typeIs (by decide) (wpAny_bind (wpAny_callSpecial?_slot (name := Str.ofString "__getitem__") ht.typeIs PyProof.Rows.slot_tuple_getitem
    (wpAny_call_entry PyProof.Rows.slot_tuple_getitem ht.typeIs entry_tuple_getitem ?_ (args_tuple_getitem _ _)))))
  show wpAny _ _ (Builtin.Tuple.tupleItemsOf (.ref t) >>= _) _ _ s
  refine wpAny_bind (tupleItemsOf_ ht (wpAny_bind (wpAny_typeOf isl ?_)))
  rw [if_pos (by decide)]
  refine wpAny_bind (sliceApplied_rev hs ps ?_)
  show wpAny _ _ (if (((items.size : Int) - 1) == 0 && (-1 : Int) == 1 && items.size == items.size) = true then _ else _) _ _ s
  rw [if_neg part, pick_rev]
  exact wpAny_bind (m := Builtin.Tuple.tupleExact _) (wpAny_newObj_type (by first | exact wpAny_pure ⟨_, rfl, wpAny_pure h⟩ | exact wpAny_bind (wpAny_pure (wpAny_pure ⟨_, rfl, wpAny_pure h⟩))) big)
end
section
variable {X : Cx}
/-- x[::-1]: a list, a tuple, a text -/
def tRevA (K : PySem.W.Frag) (te : TE) : TE := fun σ H Q => te σ H fun x H1 => (∃ a xs, x = .ref a ∧ SqL K H1 a xs ∧ ∀ p, H1 p = none → Q (.ref p) (upd H1 p (.lst xs.reverse))) ∨
  (∃ a xs, x = .ref a ∧ SqT K H1 a xs ∧ ∀ p, H1 p = none → Q (.ref p) (upd H1 p (.tup xs.reverse))) ∨ (∃ z : Str, x = .str z ∧ z.length ≤ sizeLine ∧ Q (.str ⟨z.cps.toList.reverse.toArray⟩) H1)
theorem rev_places (n : Nat) : Builtin.Str.strSliceIndices none none (-1) n = (List.range n).reverse := by
  show sliceRange ((n : Int) - 1) (-1) (-1) = _
  rw [PySem.W.krv_sliceRange, PySem.W.krv_range]
theorem pe_revA {e : Expr} {te : TE} {k : Nat} {p1 p2 p3 pos : Pos} (he : PE X e te) : PE X (.Subscript e (.Slice none none (some (.UnaryOp .USub (.Constant (.int 1) k p1) p2)) p3) pos) (tRevA X.K te) := by
  refine ⟨fun pins s σ H Q I h => ?_⟩
  refine Subscript_ (thn (he.run pins s σ H _ I h) fun v s1 ⟨x, H1, I1, r1, q1⟩ => ?_)
  have hst : PO X (some (.UnaryOp .USub (.Constant (.int 1) k p1) p2)) (tPart (tUn (rU fun i => .int (-i)) (tC (.int 1)))) := po_some (pe_un un_neg pe_int)
  refine wpAny_Slice (thn (po_none.run pins s1 σ H1 (fun o H2 => o = none ∧ H2 = H1) I1 ⟨rfl, rfl⟩) fun vl s2 ⟨l, H2, I2, pl, el, e2⟩ => ?_)
  subst el e2
  refine thn (po_none.run pins s2 σ H2 (fun o H3 => o = none ∧ H3 = H2) I2 ⟨rfl, rfl⟩) fun vu s3 ⟨u, H3, I3, pu, eu, e3⟩ => ?_
  subst eu e3
  refine thn (hst.run pins s3 σ H3 (fun o H4 => o = some (-1) ∧ H4 = H3) I3 ⟨1, rfl, -1, rfl, rfl, rfl⟩) fun vs s4 ⟨o, H4, I4, ps, eo, e4⟩ => ?_
  subst eo e4
  have I5 : Inv X pins σ H4 { s4 with heap := s4.heap.push { cls := .type "slice", data := .fields #[vl, vu, vs] } } := I4.kept (t' := s4.toks) fun b ob q => Heap.get?_push_of_some _ q
  show wpAny (model X.prog X.w) X.A (subscriptTail e (.Slice none none (some (.UnaryOp .USub (.Constant (.int 1) k p1) p2)) p3) v (.ref s4.heap.objs.size)) (EP X pins σ Q) X.xe { s4 with heap := s4.heap.push { cls := .type "slice", data := .fields #[vl, vu, vs] } }
  rcases q1 with ⟨a, xs, ex, hx, q⟩ | ⟨a, xs, ex, hx, q⟩ | ⟨z, ex, hz, q⟩
  · subst ex
    cases r1
    obtain ⟨its, r, ht, hz⟩ := I5.list hx
    have hlen := r.length
    refine tail_any (ops := [.ref a, .ref s4.heap.objs.size]) ht.isList.typeIs (PySem.slot_list_getitem.lookup) ?_ (by with_unfolding_all rfl)
    refine wpAny_getItem_list_slice ht.isList (Heap.IsSliceOf.new _ vl vu vs) pl pu ps (by decide) ?_ (by rw [List.size_toArray]; omega)
    rw [PySem.W.krv_pick]
    refine ⟨.ref _, _, I5.laid (t' := s4.toks) (o := .lst xs.reverse) (fun b ob q => Heap.get?_push_of_some _ q) (Nat.le_refl _) ?_, rfl, q _ (I5.hok.fresh (Nat.le_refl _))⟩
    exact ⟨by rw [List.length_reverse]; exact hz, _, 0, r.reverse, Heap.get?_push_size _ rfl⟩
  · subst ex
    cases r1
    cases pl
    cases pu
    obtain ⟨its, r, ht, hz⟩ := I5.tuple hx
    have hlen := r.length
    refine tail_any (ops := [.ref a, .ref s4.heap.objs.size]) ht.typeIs (PyProof.Rows.slot_tuple_getitem.lookup) ?_ (by with_unfolding_all rfl)
    refine tuple_back ht (Heap.IsSliceOf.new _ _ _ vs) ps (by rw [List.size_toArray]; omega) ?_
    refine ⟨.ref _, _, I5.laid (t' := s4.toks) (o := .tup xs.reverse) (fun b ob q => Heap.get?_push_of_some _ q) (Nat.le_refl _) ?_, rfl, q _ (I5.hok.fresh (Nat.le_refl _))⟩
    exact ⟨by rw [List.length_reverse]; exact hz, _, r.reverse, IsTup.new _ _⟩
  · subst ex
    obtain ⟨t, rfl⟩ := r1
    cases pl
    cases pu
    obtain ⟨st, hst1, hst2⟩ := IsPart.raw ps
    obtain ⟨⟨i, tk⟩, rfl, hi⟩ : ∃ p, st = some p ∧ p.1 = -1 := by
      cases st with
      | none => cases hst2
      | some p => exact ⟨p, rfl, Option.some.inj hst2⟩
    simp only at hi
    subst hi hst1
    refine tail_any (ops := [.str z t, .ref s4.heap.objs.size]) (typeIs_str _ _ _) (F.slot_str_getitem.lookup) ?_ (by with_unfolding_all rfl)
    refine wpAny_getItem_str_slice (l := none) (u := none) (st := some (-1, tk)) ⟨_, Heap.get?_push_size _ rfl, rfl, rfl⟩ rfl ?_
    have hl : (⟨((Builtin.Str.strSliceIndices none none (-1) z.length).filterMap (z.cps[·]?)).toArray⟩ : Str) = ⟨z.cps.toList.reverse.toArray⟩ := by
      rw [show z.length = z.cps.size from rfl, rev_places, List.filterMap_reverse, PySem.W.krv_all]
    show Made.post (if ((-1 : Int) == 1 && (Builtin.Str.strSliceIndices none none (-1) z.length).length == z.length) = true then Made.val (.str z t)
      else Made.str ⟨((Builtin.Str.strSliceIndices none none (-1) z.length).filterMap (z.cps[·]?)).toArray⟩) (EP X pins σ Q) _
    rw [if_neg (by simp), hl]
    refine ⟨?_, .str _, _, I5.tok _, ⟨_, rfl⟩, q⟩
    show (z.cps.toList.reverse.toArray).size ≤ sizeLine
    simpa [Str.length] using hz
end
end PvR

set_option Elab.async false
set_option linter.all false
set_option maxRecDepth 100000
/-! a set of the integers of a list -/
namespace PvR
open PySem PySem.Spec PyProof.Rows L2
section
variable {P : Program} {w : World} {A : Around} {E : Value → Shared → Prop} {s : Shared}
/-- a set that holds nothing yet -/
abbrev bareS (w : World) : Obj := { cls := .type "set", dict := none, data := .set #[] 0 (.fresh 0 0 (!w.params.followText "set-order")) }
set_option maxHeartbeats 3200000 in
/-- the filling of a bare set -/
theorem filled {a l : Addr} {items : Array Value} (ns : List Int) {R : Result → Shared → Prop} (hh : A.handled = none) (ha : s.heap.get? a = some (bareS w)) (hl : s.heap.IsList l items) (hne : l ≠ a)
    (hit : IntsAre items.toList ns) (hb : ns.length + 1 < scanBound)
    (h : ∀ (h' : Heap) (tk c : Nat), SetR w h' a (fun j => decide (j ∈ ns)) c → c ≤ ns.length → (∀ b o, b ≠ a → s.heap.get? b = some o → h'.get? b = some o) → R (.ok (.ret .none)) { s with heap := h', toks := tk }) :
    codeAny (model P w) A (.call (.builtin "set.__init__") ⟨[.ref a, .ref l], []⟩) R s := by
  have hn : items.size = ns.length := by rw [← IntsAre.length hit, Array.length_toList]
  have hal : a < s.heap.objs.size := Heap.lt_size ha
  have ty : s.TypeIs (.ref a) "set" := ⟨_, ha, rfl⟩
  obtain ⟨ol, e1, e2, nl, e3⟩ := id hl
  have hll : l < s.heap.objs.size := Heap.lt_size e1
  obtain ⟨c0, d0, x0, sl0⟩ := ol
  simp only at e2 e3
  subst e2; subst e3
  have q1 := F.sub_list_set
  have q2 := F.sub_list_frozenset
  have q3 : (Value.type "list" == Value.type "dict") = false := by decide
  refine codeAny_call_builtin F.called_set.init.plain F.entry_set_init (check_set_init_1 ty ?_)
  unfold Builtin.«set.__init__» noKeywords Builtin.Frozenset.updateFrom
  generalize hPI : pyIter = PI
  wp_walk
  subst hPI
  refine wpAny_pyIter_list hl (wpAny_bind (wpAny_runValue ?_))
  have at_ : ∀ (i : Nat) (v : Value), items[i]? = some v → ∃ k t, ns[i]? = some k ∧ v = .int k t := fun i v hv => by
    have hi : i < ns.length := hn ▸ (Array.getElem?_eq_some_iff.mp hv).1
    obtain ⟨t, e⟩ := PyProof.Rows.IntsAre.int_at hit i v (by rw [Array.getElem?_toList]; exact hv)
    exact ⟨ns[i], t, List.getElem?_eq_getElem hi, by rw [e, List.getD_eq_getElem?_getD, List.getElem?_eq_getElem hi] <;> rfl⟩
  refine set_update_ints ((Walks.list (by simp [hh]) _ l (Nat.ne_of_lt hll) items).toS) a ?_ ns hn hb at_ (items.size - 0) 0 _ (by omega) (Nat.zero_le _) ⟨⟨_, Heap.get?_push_size _ rfl, rfl, rfl⟩, hl.push _⟩
    ⟨0, Nat.le_refl 0, setR_new_at (Heap.get?_push_of_some _ ha)⟩ fun s' c' hm hc' hS' => ?_
  · simp only [List.mem_cons, List.mem_singleton, List.not_mem_nil, or_false, not_or]
    exact ⟨Nat.ne_of_lt hal, fun z => hne z.symm⟩
  · obtain ⟨h', g2, d', tk', os'⟩ := s'
    cases show g2 = s.gens from hm.gens
    cases show d' = s.drawn from hm.drawn
    cases show os' = s.os from hm.os
    refine wpAny_pure ?_
    refine wpAny_pure (h h' tk' c' hS' (hn ▸ hc') fun b o hba e => ?_)
    exact hm.heap b o (by simp only [List.mem_cons, List.mem_singleton, List.not_mem_nil, or_false, not_or]; exact ⟨hba, Nat.ne_of_lt (Heap.lt_size e)⟩) (Heap.get?_push_of_some _ e)
set_option maxHeartbeats 3200000 in
/-- set(ints) -/
theorem set_listI {l : Addr} {items : Array Value} (ns : List Int) {Q : Value → Shared → Prop} (hh : A.handled = none) (hl : s.heap.IsList l items) (hit : IntsAre items.toList ns) (hb : ns.length + 1 < scanBound)
    (h : ∀ (h' : Heap) (tk c : Nat), SetR w h' s.heap.objs.size (fun j => decide (j ∈ ns)) c → c ≤ ns.length → (∀ b o, s.heap.get? b = some o → h'.get? b = some o) → Q (.ref s.heap.objs.size) { s with heap := h', toks := tk }) :
    wpAny (model P w) A (call (.type "set") [.ref l]) Q E s := by
  obtain ⟨_, _, m1⟩ := F.called_set.mro
  have m2 := F.called_set.made
  have m3 := F.called_set.sub
  have m4 := F.called_set.notType
  have m5 := F.called_set.canCreate
  have m6 := F.typeCall_set_1 (.ref l)
  refine wpAny_call (codeAny_of_tree ?_)
  show wpAny _ _ (callAny (.type "set") _) _ _ _
  refine wpAny_pure ⟨Code.quiet_builtin _ (by decide +kernel), codeAny_builtin F.entry_type_call ?_⟩
  rw [Around.under_plain (weight_type_call_type "set" [.ref l] []) rfl]
  repeat (any_goals (first | assumption | wp_step))
  refine codeAny_mono (code_set_led1 (.ref l) (E := E) (Q₁ := fun obj s₁ => obj = .ref s.heap.objs.size ∧ s₁ = { s with heap := s.heap.push (bareS w) }) ⟨rfl, rfl⟩) fun r s₁ hr => ?_
  cases r with
  | error e => exact hr
  | ok fl =>
    cases fl with
    | ret obj =>
      obtain ⟨rfl, rfl⟩ := hr
      have hS : (s.heap.push (bareS w)).get? s.heap.objs.size = some (bareS w) := Heap.get?_push_size _ rfl
      have m7 := F.called_set.init.lookup
      have m8 := F.called_set.init.bind (.ref s.heap.objs.size)
      have ty : Shared.TypeIs { s with heap := s.heap.push (bareS w) } (.ref s.heap.objs.size) "set" := ⟨_, hS, rfl⟩
      have hll : l < s.heap.objs.size := by
        obtain ⟨_, e, _⟩ := hl
        exact Heap.lt_size e
      repeat (any_goals (first | assumption | wp_step))
      refine codeAny_mono (filled (s := { s with heap := s.heap.push (bareS w) }) ns (by simp [hh]) hS (hl.push _) (Nat.ne_of_lt hll) hit hb (R := wants (fun r s₂ => r = .none ∧ ∃ h' tk c, s₂ = { s with heap := h', toks := tk } ∧ SetR w h' s.heap.objs.size (fun j => decide (j ∈ ns)) c ∧ c ≤ ns.length ∧
          (∀ b o, s.heap.get? b = some o → h'.get? b = some o)) E) fun h' tk c R1 R2 R3 => ⟨rfl, h', tk, c, rfl, R1, R2, fun b o e => R3 b o (Nat.ne_of_lt (Heap.lt_size e)) (Heap.get?_push_of_some _ e)⟩) fun r₂ s₂ hr₂ => ?_
      cases r₂ with
      | error e => exact hr₂
      | ok fl₂ =>
        cases fl₂ with
        | ret r =>
          obtain ⟨rfl, h', tk, c', rfl, hS', hc', hk'⟩ := hr₂
          repeat (any_goals (first | assumption | wp_step))
          exact h _ _ _ hS' hc' hk'
        | _ => exact hr₂.elim
    | _ => exact hr.elim
end
end PvR

set_option Elab.async false
set_option linter.all false
set_option maxRecDepth 100000
set_option maxHeartbeats 4000000

/-! ### set(ints), in order; x[::-1] -/
namespace Pv
open PySem PySem.Spec PyProof.Rows L2
section
variable {X : Cx}
def rSetI (K : PySem.W.Frag) (w : World) : List V → Hp → VK → Prop := fun xs H Q => ∃ (a : Addr) (ns : List Int), xs = [.ref a] ∧ (SqL K H a (ns.map V.int) ∨ SqT K H a (ns.map V.int)) ∧ ns.length ≤ 1000 ∧
  ∀ p c, c ≤ ns.length → H p = none → Q (.ref p) (upd H p (SetO w p (fun j => decide (j ∈ ns)) c))
theorem cr_setI (hc : X.calm = true) : CallR X (.type "set") (rSetI X.K X.w) := by
  intro pins s σ H xs us Q I r h
  obtain ⟨a, ns, rfl, hq, hl, q⟩ := h
  rw [Vals.ref1 r]
  have fin : ∀ (h' : Heap) (tk c : Nat), SetR X.w h' s.heap.objs.size (fun j => decide (j ∈ ns)) c → c ≤ ns.length → (∀ b o, s.heap.get? b = some o → h'.get? b = some o) → EP X pins σ Q (.ref s.heap.objs.size) { s with heap := h', toks := tk } :=
    fun h' tk c R1 hcn k => ⟨.ref _, _, I.laid (t' := tk) k (Nat.le_refl _) (setO_new R1), rfl, q _ c hcn (I.hok.fresh (Nat.le_refl _))⟩
  rcases hq with hq | hq
  · obtain ⟨its, rv, pt, hz⟩ := I.list hq
    exact PvR.set_listI ns (I.ok.hd hc) pt.isList (ints_of_vals rv) (by unfold scanBound; omega) fin
  · obtain ⟨its, rv, pt, hz⟩ := I.tuple hq
    exact call_set_tupI ns (I.ok.hd hc) (show s.heap.IsTuple a its.toArray from pt) (ints_of_vals rv) (by unfold scanBound; omega) fin
end
theorem putI_mem (k : Int) : ∀ (l : List Int) (j : Int), j ∈ putI k l ↔ j = k ∨ j ∈ l
  | [], j => by simp [putI]
  | a :: r, j => by
    unfold putI
    split
    · simp
    · split
      · rename_i h
        subst h
        simp
      · simp only [List.mem_cons, putI_mem k r]
        constructor <;> (intro h; rcases h with h | h | h <;> simp [h])
theorem putI_sorted (k : Int) : ∀ {l : List Int}, l.Pairwise (· < ·) → (putI k l).Pairwise (· < ·)
  | [], _ => by simp [putI]
  | a :: r, h => by
    obtain ⟨h1, h2⟩ := List.pairwise_cons.mp h
    unfold putI
    split
    · rename_i hk
      refine List.pairwise_cons.mpr ⟨fun j hj => ?_, h⟩
      rcases List.mem_cons.mp hj with e | e
      · rw [e]; exact hk
      · exact Int.lt_trans hk (h1 j e)
    · split
      · exact h
      · rename_i hk1 hk2
        refine List.pairwise_cons.mpr ⟨fun j hj => ?_, putI_sorted k h2⟩
        rcases (putI_mem k r j).mp hj with e | e
        · rw [e]; omega
        · exact h1 j e
theorem ssetI_mem : ∀ (l : List Int) (j : Int), j ∈ ssetI l ↔ j ∈ l
  | [], j => by simp [ssetI]
  | a :: r, j => by
    show j ∈ putI a (ssetI r) ↔ _
    rw [putI_mem, ssetI_mem r, List.mem_cons]
theorem ssetI_sorted : ∀ (l : List Int), (ssetI l).Pairwise (· < ·)
  | [] => by simp [ssetI]
  | a :: r => putI_sorted a (ssetI_sorted r)
theorem sorted_uniq : ∀ {l m : List Int}, l.Pairwise (· < ·) → m.Pairwise (· < ·) → (∀ k, k ∈ l ↔ k ∈ m) → l = m
  | [], [], _, _, _ => rfl
  | [], b :: m, _, _, h => absurd ((h b).mpr List.mem_cons_self) (by simp)
  | a :: l, [], _, _, h => absurd ((h a).mp List.mem_cons_self) (by simp)
  | a :: l, b :: m, hl, hm, h => by
    obtain ⟨l1, l2⟩ := List.pairwise_cons.mp hl
    obtain ⟨m1, m2⟩ := List.pairwise_cons.mp hm
    have e : a = b := by
      rcases List.mem_cons.mp ((h a).mp List.mem_cons_self) with e | e
      · exact e
      · rcases List.mem_cons.mp ((h b).mpr List.mem_cons_self) with e' | e'
        · exact e'.symm
        · have := m1 a e
          have := l1 b e'
          omega
    subst e
    rw [sorted_uniq l2 m2 fun k => ⟨fun hk => by
      rcases List.mem_cons.mp ((h k).mp (List.mem_cons_of_mem _ hk)) with e | e
      · subst e; exact absurd (l1 k hk) (Int.lt_irrefl _)
      · exact e, fun hk => by
      rcases List.mem_cons.mp ((h k).mpr (List.mem_cons_of_mem _ hk)) with e | e
      · subst e; exact absurd (m1 k hk) (Int.lt_irrefl _)
      · exact e⟩]
theorem ints_back {K : PySem.W.Frag} {G : Hp} : ∀ (ns : List Int), DenL K G (ns.map D.int) (ns.map V.int)
  | [] => by simp [DenL]
  | k :: ns => by
    simp only [List.map_cons, DenL]
    exact ⟨_, _, rfl, by simp only [Den], ints_back ns⟩
theorem denL_rev {K : PySem.W.Frag} {G : Hp} : ∀ {ds : List D} {vs : List V}, DenL K G ds vs → DenL K G ds.reverse vs.reverse
  | [], _, h => by simp only [DenL] at h; subst h; simp [DenL]
  | d :: ds, _, h => by
    simp only [DenL] at h
    obtain ⟨v, r, e, h1, h2⟩ := h
    subst e
    rw [List.reverse_cons, List.reverse_cons]
    exact (denL_rev h2).snoc h1
section
variable {Y : Stat} {sc : Scope} {fc : Str → Bool} {a : Expr} {fa : List Sl → Option D} {p p2 pos pos2 p3 : Pos} {k : Nat}
theorem se_rev (ha : SE Y sc fc a fa) : SE Y sc fc (.Subscript a (.Slice none none (some (.UnaryOp .USub (.Constant (.int 1) k p) p2)) p3) pos) (fun τ => (fa τ).bind fun x => u1D .rev x) := by
  refine ⟨fun X ok H0 G0 G W H τ σ d w s h Q q => ?_⟩
  obtain ⟨x, hx, h⟩ := bnd h
  refine ⟨_, PvR.pe_revA pe_tu, ?_⟩
  refine ha.run X ok _ _ _ _ _ _ _ _ w s hx _ fun v G1 H1 e1 w1 dv => ?_
  cases x with
  | lst xs =>
    simp only [u1D] at h
    cases h
    simp only [Den] at dv
    obtain ⟨b, us, rfl, hb, hu⟩ := dv
    refine .inl ⟨b, us, rfl, SqL.of (w1.gh _ _ hb), fun z hz => ?_⟩
    refine q _ _ _ (e1.trans (sub_upd (w1.gnone hz))) (w1.new hz) ?_
    simp only [Den]
    exact ⟨z, _, rfl, upd_same, (denL_rev hu).mono (sub_upd (w1.gnone hz))⟩
  | tup xs =>
    simp only [u1D] at h
    cases h
    simp only [Den] at dv
    obtain ⟨b, us, rfl, hb, hu⟩ := dv
    refine .inr (.inl ⟨b, us, rfl, sub_t w1.gh hb, fun z hz => ?_⟩)
    refine q _ _ _ (e1.trans (sub_upd (w1.gnone hz))) (w1.new hz) ?_
    simp only [Den]
    exact ⟨z, _, rfl, SqT.of upd_same, (denL_rev hu).mono (sub_upd (w1.gnone hz))⟩
  | str x =>
    simp only [u1D] at h
    split at h
    · rename_i hl
      cases h
      simp only [Den] at dv
      subst dv
      refine .inr (.inr ⟨_, rfl, le_line (by rw [mkS_len]; exact hl), q _ _ _ e1 w1 ?_⟩)
      simp only [Den]
    · cases h
  | _ => simp [u1D] at h
theorem se_sset (h1 : ("sorted" : Str) ∈ Y.bl) (h2 : ("set" : Str) ∈ Y.bl) (g1 : sc.names.lookup ("sorted" : Str) = some .globalImplicit) (g2 : sc.names.lookup ("set" : Str) = some .globalImplicit) (hn : notStar a = true) (ha : SE Y sc fc a fa) :
    SE Y sc fc (.Call (.Name "sorted" p) [.Call (.Name "set" p2) [a] [] pos2] [] pos) (fun τ => (fa τ).bind fun x => u1D .sset x) := by
  refine ⟨fun X ok H0 G0 G W H τ σ d w s h Q q => ?_⟩
  obtain ⟨x, hx, h⟩ := bnd h
  refine ⟨_, pe_callB (cr_sortedSet ok.calm) (ok.gl g1) (ok.bl _ h1) PyProof.Rows.boot_sorted (pa_cons (pe_callTy (cr_setI ok.calm) (ok.gl g2) (ok.bl _ h2) PyProof.Rows.boot_set (pa_cons pe_tu pa_nil (star_cons hn)) (by decide) (by decide) (star_cons hn) rfl) pa_nil) (by decide) (by decide) rfl rfl, ?_⟩
  have key : ∀ (xs : List D) (ns : List Int) (b : Addr) (us : List V) (G1 H1 : Hp), Sub G G1 → Wd H0 G0 G1 W H1 → allInts xs = some ns → ns.length < 60 → DenL X.K G1 xs us → (SqL X.K H1 b us ∨ SqT X.K H1 b us) → d = .lst ((ssetI ns).map .int) →
      rSetI X.K X.w [.ref b] H1 fun v H2 => rSortedSet X.w [v] H2 Q := fun xs ns b us G1 H1 e1 w1 hi hl hu hb hd => by
    have ev := ints_den hi hu
    subst ev
    refine ⟨b, ns, rfl, hb, by omega, fun z c hc hz => ?_⟩
    refine ⟨z, _, c, rfl, upd_same, by omega, fun ms y hs hm hml hy => ?_⟩
    have em : ms = ssetI ns := sorted_uniq hs (ssetI_sorted ns) fun j => by rw [hm j, ssetI_mem, decide_eq_true_eq]
    subst em
    have w2 := w1.junk (o := SetO X.w z (fun j => decide (j ∈ ns)) c) hz
    refine q _ _ _ (e1.trans (sub_upd (w2.gnone hy))) (w2.new hy) ?_
    subst hd
    simp only [Den]
    exact ⟨y, _, rfl, upd_same, ints_back _⟩
  refine ha.run X ok _ _ _ _ _ _ _ _ w s hx _ fun v G1 H1 e1 w1 dv => ?_
  cases x with
  | lst xs =>
    simp only [u1D] at h
    obtain ⟨ns, hi, h⟩ := bnd h
    split at h
    · cases h
      simp only [Den] at dv
      obtain ⟨b, us, rfl, hb, hu⟩ := dv
      exact key _ ns b us G1 H1 e1 w1 hi (by assumption) hu (.inl (SqL.of (w1.gh _ _ hb))) rfl
    · cases h
  | tup xs =>
    simp only [u1D] at h
    obtain ⟨ns, hi, h⟩ := bnd h
    split at h
    · cases h
      simp only [Den] at dv
      obtain ⟨b, us, rfl, hb, hu⟩ := dv
      exact key _ ns b us G1 H1 e1 w1 hi (by assumption) hu (.inr (sub_t w1.gh hb)) rfl
    · cases h
  | _ => simp [u1D] at h
end
end Pv

set_option Elab.async false
set_option linter.all false
set_option maxRecDepth 100000
set_option maxHeartbeats 4000000
/-! tuples of ints of any length, compared -/
namespace PvQ
open PySem PySem.Spec PyProof.Rows L2 Srt SrtO
theorem lexI_asym : ∀ x y : List Int, lexI x y = true → lexI y x = false
  | [], [], h => by simp [lexI] at h
  | [], _ :: _, _ => rfl
  | _ :: _, [], h => by simp [lexI] at h
  | a :: x, b :: y, h => by
    simp only [lexI] at h ⊢
    by_cases e : a = b
    · subst e
      rw [if_pos rfl] at h ⊢
      exact lexI_asym x y h
    · rw [if_neg e] at h
      rw [if_neg (fun z => e z.symm)]
      have := of_decide_eq_true h
      exact decide_eq_false (by omega)
theorem lexI_tr : ∀ x y z : List Int, lexI y x = false → lexI z y = false → lexI z x = false
  | [], [], [], _, _ => rfl
  | [], [], _ :: _, _, _ => rfl
  | [], _ :: _, [], _, _ => rfl
  | [], _ :: _, _ :: _, _, _ => rfl
  | _ :: _, [], _, h, _ => by simp [lexI] at h
  | _ :: _, _ :: _, [], _, h => by simp [lexI] at h
  | a :: x, b :: y, c :: z, h1, h2 => by
    simp only [lexI] at h1 h2 ⊢
    by_cases e1 : b = a
    · subst e1
      rw [if_pos rfl] at h1
      by_cases e2 : c = b
      · subst e2
        rw [if_pos rfl] at h2 ⊢
        exact lexI_tr x y z h1 h2
      · rw [if_neg e2] at h2 ⊢
        exact h2
    · rw [if_neg e1] at h1
      have q1 := of_decide_eq_false h1
      by_cases e2 : c = b
      · subst e2
        rw [if_neg e1]
        exact h1
      · rw [if_neg e2] at h2
        have q2 := of_decide_eq_false h2
        rw [if_neg (by omega)]
        exact decide_eq_false (by omega)
section
variable {prog : Program} {w : World} {A : Around} {E : Value → Shared → Prop} {s : Shared}
theorem lex_run {b : Bool} : ∀ (xs ys : List Value) (ns ms : List Int) (i : Nat), IntsAre xs ns → IntsAre ys ms →
    PySem.W.KatLex prog w A b (decide (xs.length < ys.length)) (fun r s' => s' = s ∧ r = lexI ns ms) (xs.zip ys) i s
  | [], [], _, _, i, .nil, .nil => PySem.W.kat_nil ⟨rfl, rfl⟩
  | [], _ :: _, _, _, i, .nil, .cons _ _ _ => PySem.W.kat_nil ⟨rfl, by simp [lexI]⟩
  | _ :: _, [], _, _, i, .cons _ _ _, .nil => PySem.W.kat_nil ⟨rfl, by simp [lexI]⟩
  | _ :: xs, _ :: ys, _, _, i, .cons x t (ns := ns) h1, .cons y u (ns := ms) h2 => by
    refine PySem.W.kat_cons (SeqAt.EqAt.int_int x t y u prog w _ _ (PySem.W.kat_go (fun e1 => ?_) fun e1 => ?_))
    · have e : x = y := by simpa using e1
      subst e
      have ih := lex_run (b := b) xs ys ns ms (i + 1) h1 h2
      have ef : decide ((Value.int x t :: xs).length < (Value.int x u :: ys).length) = decide (xs.length < ys.length) := by simp
      have el : lexI (x :: ns) (x :: ms) = lexI ns ms := by simp [lexI]
      rw [ef, el]
      exact PySem.W.kat_yes ih
    · have e : ¬ x = y := by simpa using e1
      have el : lexI (x :: ns) (y :: ms) = decide (x < y) := by simp [lexI, e]
      rw [el]
      exact PySem.W.kat_no (TS.oneLt_ints _ ⟨rfl, rfl⟩)
/-- at v: a tuple of the ints ns -/
def IntTup (h : Heap) (v : Value) (ns : List Int) : Prop := ∃ (a : Addr) (o : Obj) (xs : Array Value) (n : Nat), v = .ref a ∧ h.get? a = some o ∧ o.cls = .type "tuple" ∧ o.data = .seq xs n ∧ IntsAre xs.toList ns
theorem IntTup.keeps {h h' : Heap} {v : Value} {ns : List Int} (x : IntTup h v ns) (k : ∀ b o, h.get? b = some o → o.cls = .type "tuple" → h'.get? b = some o) : IntTup h' v ns := by
  obtain ⟨a, o, xs, n, e, ho, hc, hd, hi⟩ := x
  exact ⟨a, o, xs, n, e, k a o ho hc, hc, hd, hi⟩
theorem tup_cmp {P : Keyed → Prop} {k : Value → List Int} (hp : ∀ p, P p → IntTup s.heap p.1 (k p.1)) : Cmp prog w A s (tuples' true) P (fun p q => lexI (k p.1) (k q.1)) := by
  intro p q hm hm'
  obtain ⟨a, o, xs, n, e, ho, hc, hd, hi⟩ := hp _ hm
  obtain ⟨a', o', xs', n', e', ho', hc', hd', hi'⟩ := hp _ hm'
  show wpAny (model prog w) A (keyLt' (tuples' true) p.1 q.1) (fun r s' => s' = s ∧ r = lexI (k p.1) (k q.1)) (fun _ _ => False) s
  generalize k p.1 = ns at *
  generalize k q.1 = ms at *
  rw [e, e']
  refine PySem.W.kat_lt ho hd ho' hd' ?_
  have := lex_run (prog := prog) (w := w) (A := A) (s := s) (b := true) xs.toList xs'.toList ns ms 0 hi hi'
  simpa using this
theorem lexI_swo (k : Keyed → List Int) : Swo fun p q => lexI (k p) (k q) := ⟨fun x y => lexI_asym _ _, fun x y z => lexI_tr _ _ _⟩
end
end PvQ

set_option Elab.async false
set_option linter.all false
set_option maxRecDepth 100000
set_option maxHeartbeats 4000000
/-! sorting by keys that are tuples of ints: from the keys on -/
namespace PvQ
open PySem PySem.Spec PyProof.Rows L2 Srt SrtO
theorem revB_len {α : Type} (b : Bool) (l : List α) : (revB b l).length = l.length := by cases b <;> simp [revB]
theorem revB_map {α β : Type} (b : Bool) (f : α → β) (l : List α) : (revB b l).map f = revB b (l.map f) := by cases b <;> simp [revB]
section
variable {prog : Program} {w : World} {A : Around} {E : Value → Shared → Prop} {s : Shared} {a kS : Addr} {ks vs : List Value} {b : Bool} {e e1 : Nat} {P : PySem.Fin → Shared → Prop}
/-- what is left behind: the list filled, the key store emptied, all else as it was -/
def Left (h : Heap) (a kS : Addr) (out : List Value) (h' : Heap) : Prop := (∀ x o, x ≠ a → x ≠ kS → h.get? x = some o → h'.get? x = some o) ∧ (∃ c, h'.get? a = some (seqObj "list" out.toArray c)) ∧ (∃ c, h'.get? kS = some (seqObj "list" #[] c)) ∧ h'.objs.size = h.objs.size
theorem tail_run {st : SortSt} (nk : s.heap.get? kS = some (seqObj "list" ks.toArray e)) (na : s.heap.get? a = some (seqObj "list" #[] e1)) (hka : kS ≠ a) (hkl : ks.length ≤ 2000) (hol : (arrOf st).size ≤ 2000) (hfl : failedOf st = none)
    (h : ∀ h', Left s.heap a kS (revB b ((arrOf st).toList.map (·.2))) h' → P (.done (.ret .none)) { s with heap := h' }) : wpAny (model prog w) A (PyProof.Rows.ksk_tail a b e1 (.ref kS) st) P E s := by
  have s1 := Heap.SameBut.update s.heap kS (Obj.mapSeq fun _ => (#[] : Array Value))
  have na1 : (s.heap.update kS (Obj.mapSeq fun _ => (#[] : Array Value))).get? a = some (seqObj "list" #[] e1) := (s1.2 a hka.symm).trans na
  obtain ⟨ck, nk1⟩ : ∃ c, (s.heap.update kS (Obj.mapSeq fun _ => (#[] : Array Value))).get? kS = some (seqObj "list" #[] c) := ⟨_, get?_update_seq nk fun _ => #[]⟩
  obtain ⟨O, hO⟩ : ∃ O : Array Value, O = (if b then ((arrOf st).map (·.2)).reverse else (arrOf st).map (·.2)) := ⟨_, rfl⟩
  have eo : O = (revB b ((arrOf st).toList.map (·.2))).toArray := by
    rw [hO]
    cases b
    · show (arrOf st).map (·.2) = ((arrOf st).toList.map (·.2)).toArray
      rw [← Array.toList_map]
    · show ((arrOf st).map (·.2)).reverse = ((arrOf st).toList.map (·.2)).reverse.toArray
      rw [← Array.toList_map, ← Array.toList_reverse]
  have big : O.size ≤ sizeLine + 1 := by
    rw [eo, List.size_toArray, revB_len, List.length_map, Array.length_toList, sizeLine_eq]
    omega
  have s2 := Heap.SameBut.update (s.heap.update kS (Obj.mapSeq fun _ => (#[] : Array Value))) a (Obj.mapSeq fun _ => O)
  have hc2 := get?_update_seq na1 fun _ => O
  unfold PyProof.Rows.ksk_tail
  try dsimp only
  refine wpAny_bind (listUpdate_at nk rfl ?_ (by rw [List.size_toArray, sizeLine_eq]; omega) (Nat.zero_le _))
  refine wpAny_bind (wpAny_letGo ?_)
  refine wpAny_bind (seqEpoch_at na1 rfl ?_)
  rw [← hO]
  refine wpAny_bind (listUpdate_at na1 rfl ?_ (Nat.zero_le _) big)
  rw [hfl]
  simp only [bne_self_eq_false, Bool.false_eq_true, if_false]
  refine wpAny_pure (h _ ⟨fun x o h1 h2 q => ?_, ⟨_, by rw [← eo]; exact hc2⟩, ⟨ck, ?_⟩, by rw [Heap.size_update, Heap.size_update]⟩)
  · exact (s2.2 x h1).trans ((s1.2 x h2).trans q)
  · exact (s2.2 kS hka).trans nk1
theorem firsts {h : Heap} {k : Value → List Int} : ∀ {ks : List Value}, (∀ v ∈ ks, IntTup h v (k v) ∧ k v ≠ []) → ∃ fs : List Value, PySem.W.KatTups h ks fs ∧ fs.length = ks.length ∧ ∀ f ∈ fs, ∃ x t, f = Value.int x t
  | [], _ => ⟨[], PySem.W.KatTups.nil, rfl, fun _ hm => by simp at hm⟩
  | v :: ks, hx => by
    obtain ⟨fs, h1, h2, h3⟩ := firsts (ks := ks) fun u hu => hx u (List.mem_cons_of_mem _ hu)
    obtain ⟨⟨t, o, xs, n, e, ho, hc, hd, hi⟩, hne⟩ := hx v List.mem_cons_self
    obtain ⟨l⟩ := xs
    generalize k v = ns at hi hne
    cases hi with
    | nil => exact absurd rfl hne
    | cons x tk r =>
      subst e
      refine ⟨.int x tk :: fs, PySem.W.KatTups.cons ho hc hd rfl h1, by simp [h2], fun f hf => ?_⟩
      rcases List.mem_cons.mp hf with z | z
      · exact ⟨x, tk, z⟩
      · exact h3 f z
abbrev ltK (k : Value → List Int) : Keyed → Keyed → Bool := fun p q => lexI (k p.1) (k q.1)
theorem end_run {k : Value → List Int} (nk : s.heap.get? kS = some (seqObj "list" ks.toArray e)) (na : s.heap.get? a = some (seqObj "list" #[] e1)) (hka : kS ≠ a) (hl : ks.length = vs.length) (hz : vs.length ≤ 2000) (hkey : ∀ v ∈ ks, IntTup s.heap v (k v) ∧ k v ≠ [])
    (h : ∀ (out : List Keyed) h', Srtd (ltK k) out → Stb (ltK k) out (revB b (ks.zip vs)) → Left s.heap a kS (revB b (out.map (·.2))) h' → P (.done (.ret .none)) { s with heap := h' }) :
    wpAny (model prog w) A (PyProof.Rows.ksk_end a b vs.toArray e1 (.ref kS) ks.toArray) P E s := by
  have hstart : (if b = true then (ks.toArray.zip vs.toArray).reverse else ks.toArray.zip vs.toArray).toList = revB b (ks.zip vs) := by
    cases b <;> simp [revB]
  have go : ∀ t : Sem PySem.Fin, wpAny (model prog w) A t P E s → wpAny (model prog w) A (if b = true then (do let _ ← rule "list.sort.reverse"; t) else t) P E s := by
    intro t ht
    split
    · exact wpAny_bind (wpAny_rule ht)
    · exact ht
  have osz : ∀ st : SortSt, Stb (ltK k) (arrOf st).toList (revB b (ks.zip vs)) → (arrOf st).size ≤ 2000 := fun st hb => by
    have := hb.len
    rw [Array.length_toList, revB_len, List.length_zip] at this
    omega
  unfold PyProof.Rows.ksk_end
  try dsimp only
  refine go _ ?_
  by_cases h2 : vs.toArray.size < 2
  · rw [if_pos h2, if_pos h2]
    refine wpAny_bind (wpAny_pure ?_)
    rw [StateT.run_pure]
    refine wpAny_bind (wpAny_pure ?_)
    try dsimp only
    rw [List.size_toArray] at h2
    have hs : Srtd (ltK k) (arrOf (SortSt.mk' general' (if b = true then (ks.toArray.zip vs.toArray).reverse else ks.toArray.zip vs.toArray) #[] 7 none)).toList := by
      show Srtd (ltK k) (if b = true then (ks.toArray.zip vs.toArray).reverse else ks.toArray.zip vs.toArray).toList
      rw [hstart]
      have hlen : (revB b (ks.zip vs)).length < 2 := by rw [revB_len, List.length_zip]; omega
      match revB b (ks.zip vs), hlen with
      | [], _ => exact List.Pairwise.nil
      | [x], _ => exact List.pairwise_singleton _ _
      | _ :: _ :: _, hh => exact absurd hh (by simp)
    have hb : Stb (ltK k) (arrOf (SortSt.mk' general' (if b = true then (ks.toArray.zip vs.toArray).reverse else ks.toArray.zip vs.toArray) #[] 7 none)).toList (revB b (ks.zip vs)) := Stb.of_eq hstart
    exact tail_run nk na hka (by omega) (osz _ hb) rfl fun h' L => h _ h' hs hb L
  · rw [if_neg h2, if_neg h2]
    rw [List.size_toArray] at h2
    obtain ⟨fs, f1, f2, f3⟩ := firsts hkey
    refine wpAny_bind (PySem.W.kat_kind (T := .type "int") f1 (by omega) (fun f hm => ?_) (by rfl) ?_)
    · obtain ⟨x, t, rfl⟩ := f3 f hm
      exact PySem.W.Looks.now
    · rw [show (Value.type "int" != Value.type "tuple") = true from by first | decide +kernel | rfl | decide]
      have hall : AllL (fun p : Keyed => p.1 ∈ ks) (if b = true then (ks.toArray.zip vs.toArray).reverse else ks.toArray.zip vs.toArray).toList := fun p hm => by
        rw [hstart] at hm
        have hm' : p ∈ ks.zip vs := by
          cases b
          · exact hm
          · exact List.mem_reverse.mp hm
        exact (List.of_mem_zip hm').1
      refine wpAny_bind (wpAny_mono (wpS_sortO (st0 := SortSt.mk' (tuples' true) (if b = true then (ks.toArray.zip vs.toArray).reverse else ks.toArray.zip vs.toArray) #[] 7 none)
        (Q := fun _ st' => Srtd (ltK k) (arrOf st').toList ∧ Stb (ltK k) (arrOf st').toList (revB b (ks.zip vs)) ∧ failedOf st' = none) (lexI_swo fun p : Keyed => k p.1) (tup_cmp (P := fun p : Keyed => p.1 ∈ ks) (k := k) fun p hp => (hkey _ hp).1) rfl hall rfl rfl
        fun st' q1 q2 q3 => ⟨q1, by rw [← hstart]; exact q2, q3⟩) ?_ fun _ _ z => z)
      rintro ⟨⟨⟩, st'⟩ s' ⟨rfl, q1, q2, q3⟩
      try dsimp only
      exact tail_run nk na hka (by omega) (osz _ q2) q3 fun h' L => h _ h' q1 q2 L
end
end PvQ

set_option Elab.async false
set_option linter.all false
set_option maxRecDepth 100000
set_option maxHeartbeats 4000000
/-! sorting by a def's keys: the keys computed -/
namespace PvQ
open PySem PySem.Spec PyProof.Rows L2 Srt SrtO
/-- the keys of xs, one after the other -/
def tK (sp : Sp) : List V → Hp → (List V → Hp → Prop) → Prop
  | [], H, Q => Q [] H
  | x :: r, H, Q => sp [x] H (fun y H' => tK sp r H' fun ys H'' => Q (y :: ys) H'') E0
/-- an object of the walk's own, of which nothing is told -/
structure Own (X : Cx) (pins : List (Addr × Obj)) (H : Hp) (it : Addr) : Prop where
  h : H it = none
  l : it ≠ X.env.locals
  f : it ∉ X.fs
  z : X.s_0.heap.objs.size ≤ it
  c : ∀ x c, X.env.cells.lookup x = some c → c ≠ it
  p : ∀ p ∈ X.pn ++ pins, p.1 ≠ it
section
variable {X : Cx} {pins : List (Addr × Obj)} {σ : L2.St} {H : Hp} {s : Shared} {k : Nat} {f : Addr} {fd : FuncData} {ps : List Str} {sp : Sp} {A : Around} {E : Value → Shared → Prop}
theorem Own.mono {H' : Hp} {it : Addr} (o : Own X pins H it) (h : H' it = none) : Own X pins H' it := ⟨h, o.l, o.f, o.z, o.c, o.p⟩
theorem call_any (F : FnOk X.prog X.w X.K X.mg X.base CX0 k f fd ps sp) (hr : Room k A) (he : Env0 X.prog X.w X.K X.mg X.base A X.stack s H) (hb : Binds X.K fd ps []) {Q : VK} {us : List Value} {vs : List V} (I : Inv X pins σ H s) (r : Vals vs us) (h : sp vs H Q E0) :
    wpAny (model X.prog X.w) A (call (.ref f) us) (EP X pins σ Q) (fun _ _ => False) s := by
  have hl : us.length = ps.length := by rw [← r.length]; exact F.len _ _ _ _ h
  have b := hb s us I.kIn (by rw [List.append_nil]; exact hl)
  rw [List.append_nil] at b
  refine wpAny_call (codeAny_mono (F.run A X.stack s H ⟨us, []⟩ us vs Q E0 hr he b r h) fun r s' hq => ?_)
  cases r with
  | error e => exact hq
  | ok fl =>
    cases fl with
    | ret u => exact I.after hq
    | next => exact False.elim hq
    | brk => exact False.elim hq
    | cont => exact False.elim hq
/-- the loop that computes the keys: the list a and the key store kS stand by themselves -/
theorem keys_run {a kS : Addr} {vs : List Value} {b : Bool} {e1 : Nat} {P : PySem.Fin → Shared → Prop} (F : FnOk X.prog X.w X.K X.mg X.base CX0 k f fd ps sp) (hr : Room k A) (he : ∀ {pins : List (Addr × Obj)} {σ : L2.St} {H : Hp} {s : Shared}, Inv X pins σ H s → Env0 X.prog X.w X.K X.mg X.base A X.stack s H) (hb : Binds X.K fd ps [])
    (I : Inv X pins σ H s) (oa : Own X pins H a) (ok : Own X pins H kS) (hak : kS ≠ a) (na : s.heap.get? a = some (seqObj "list" #[] e1)) (nk : s.heap.get? kS = some (seqObj "list" #[] 0)) {xs : List V} (r : Vals xs vs) (hz : vs.length ≤ 2000) {Q : List V → Hp → Prop} (h : tK sp xs H Q)
    (done : ∀ (s' : Shared) (H' : Hp) (ys : List V) (ks : List Value) (e : Nat), Inv X pins σ H' s' → Own X pins H' a → Own X pins H' kS → s'.heap.get? a = some (seqObj "list" #[] e1) → s'.heap.get? kS = some (seqObj "list" ks.toArray e) → Vals ys ks → ys.length = xs.length → Q ys H' →
      wpAny (model X.prog X.w) A (PyProof.Rows.ksk_end a b vs.toArray e1 (.ref kS) ks.toArray) P E s') :
    wpAny (model X.prog X.w) A (PyProof.Rows.ksk_rest a (.ref f) b vs.toArray e1 (.ref kS)) P E s := by
  unfold PyProof.Rows.ksk_rest
  refine wpAny_bind (wpAny_rule ?_)
  first
    | rw [List.forIn_toArray]
    | (rw [← Array.forIn_toList]; simp only [List.toList_toArray])
  have hlen : xs.length = vs.length := r.length
  refine wpAny_bind (ksk_fold (fun i s' => ∃ H' ys ks e, Inv X pins σ H' s' ∧ Own X pins H' a ∧ Own X pins H' kS ∧ s'.heap.get? a = some (seqObj "list" #[] e1) ∧ s'.heap.get? kS = some (seqObj "list" (List.toArray ks) e) ∧ Vals ys ks ∧ ys.length = i ∧ i ≤ vs.length ∧ tK sp (xs.drop i) H' fun zs H'' => Q (ys ++ zs) H'') vs 0 s
    ⟨H, [], [], 0, I, oa, ok, na, nk, .nil, rfl, Nat.zero_le _, by simpa using h⟩ ?step ?fin)
  case step =>
    rintro j x s' hx ⟨H', ys, ks, e, I', oa', ok', na', nk', ry, hy, hj, ht⟩
    simp only [Nat.zero_add] at hy hj ht ⊢
    have hjv : j < vs.length := (List.getElem?_eq_some_iff.mp hx).1
    have hjx : j < xs.length := by omega
    rw [List.drop_eq_getElem_cons hjx] at ht
    obtain ⟨u0, hu0, ru0⟩ := r.get (show xs[j]? = some xs[j] by simp [hjx])
    have eu : u0 = x := by rw [hu0] at hx; exact Option.some.inj hx
    subst eu
    have kl : ks.length = j := by rw [← ry.length]; exact hy
    have I1 : Inv X (pins ++ [(a, seqObj "list" #[] e1), (kS, seqObj "list" (List.toArray ks) e)]) σ H' s' := I'.pins_of fun p hp => by
      rcases List.mem_append.mp hp with z | z
      · exact I'.pin p (List.mem_append_right _ z)
      · simp only [List.mem_cons, List.not_mem_nil, or_false] at z
        rcases z with rfl | rfl
        · exact ⟨na', oa'.h, oa'.l, oa'.f, fun v q => nomatch q⟩
        · exact ⟨nk', ok'.h, ok'.l, ok'.f, fun v q => nomatch q⟩
    refine wpAny_bind (wpAny_attempt (wpAny_mono (call_any F hr (he I1) hb I1 (.cons ru0 .nil) ht) (fun v s2 hv => ?_) fun _ _ z => z.elim))
    obtain ⟨y, H2, I2, rv, hq⟩ := hv
    have pa := I2.pin (a, seqObj "list" #[] e1) (List.mem_append_right _ (List.mem_append_right _ List.mem_cons_self))
    have pk := I2.pin (kS, seqObj "list" (List.toArray ks) e) (List.mem_append_right _ (List.mem_append_right _ (List.mem_cons_of_mem _ List.mem_cons_self)))
    have I3 : Inv X pins σ H2 s2 := I2.pins_of fun p hp => I2.pin p (List.mem_append_right _ (List.mem_append_left _ hp))
    have oa2 := oa'.mono pa.2.1
    have ok2 := ok'.mono pk.2.1
    try dsimp only
    have s1 := Heap.SameBut.update s2.heap kS (Obj.mapSeq (·.push v))
    have hc2 := get?_update_seq pk.1 (·.push v)
    have I4 : Inv X pins σ H2 { s2 with heap := s2.heap.update kS (Obj.mapSeq (·.push v)), toks := s2.toks } := I3.turned (t' := s2.toks) (fun b o hb2 q => (s1.2 b hb2).trans q) ok2.h ok2.l (.inr ok2.z) ok2.c ok2.p
    have ep : (List.toArray ks).push v = (ks ++ [v]).toArray := by simp
    refine wpAny_bind (listUpdate_at pk.1 rfl ?_ (by rw [List.size_toArray, sizeLine_eq]; omega) (Nat.le_trans (Nat.le_of_eq (Array.size_push ..)) (by rw [List.size_toArray, sizeLine_eq]; omega)))
    refine wpAny_pure ⟨rfl, H2, ys ++ [y], ks ++ [v], _, I4, oa2, ok2, (s1.2 a hak.symm).trans pa.1, by rw [← ep]; exact hc2, ry.append (.cons rv .nil), by simp [hy], by omega, ?_⟩
    have e9 : (fun zs H'' => Q (ys ++ [y] ++ zs) H'') = fun zs H'' => Q (ys ++ y :: zs) H'' := by
      funext zs H''
      rw [List.append_assoc]
      rfl
    rw [e9]
    exact hq
  case fin =>
    rintro s' ⟨H', ys, ks, e, I', oa', ok', na', nk', ry, hy, hj, ht⟩
    rw [List.drop_eq_nil_of_le (by omega)] at ht
    try dsimp only
    refine wpAny_bind (listItems_at nk' rfl ?_)
    have hq : Q (ys ++ []) H' := ht
    rw [List.append_nil] at hq
    exact done s' H' ys ks e I' oa' ok' na' nk' ry (by omega) hq
end
end PvQ

set_option Elab.async false
set_option linter.all false
set_option maxRecDepth 100000
set_option maxHeartbeats 4000000
/-! list.sort with a def as key -/
namespace PvQ
open PySem PySem.Spec PyProof.Rows L2 Srt SrtO
section
variable {X : Cx} {pins : List (Addr × Obj)} {σ : L2.St} {H : Hp} {s : Shared} {k : Nat} {f : Addr} {fd : FuncData} {ps : List Str} {sp : Sp} {A : Around} {E : Value → Shared → Prop}
theorem Own.fresh (I : Inv X pins σ H s) {it : Addr} (h : s.heap.objs.size ≤ it) : Own X pins H it :=
  ⟨I.hok.fresh h, fun z => absurd (Nat.lt_of_lt_of_le I.lt (z ▸ h)) (Nat.lt_irrefl _), I.nofs h, Nat.le_trans I.sz h,
    fun x c hc z => by
      obtain ⟨v, o, ho, _⟩ := I.cell x c hc
      have q := Heap.lt_size ho
      rw [z] at q
      exact absurd (Nat.lt_of_lt_of_le q h) (Nat.lt_irrefl _),
    fun p hp z => by
      have q := Heap.lt_size (I.pin p hp).1
      rw [z] at q
      exact absurd (Nat.lt_of_lt_of_le q h) (Nat.lt_irrefl _)⟩
theorem Own.fp {it : Addr} (o : Own X pins H it) : FpOk X pins H it := ⟨o.h, o.l, o.f, .inr o.z, o.c, o.p⟩
theorem sort_run {a : Addr} {vs : List Value} {n : Nat} {b : Bool} {P : PySem.Fin → Shared → Prop} (F : FnOk X.prog X.w X.K X.mg X.base CX0 k f fd ps sp) (hr : Room k A) (he : ∀ {pins : List (Addr × Obj)} {σ : L2.St} {H : Hp} {s : Shared}, Inv X pins σ H s → Env0 X.prog X.w X.K X.mg X.base A X.stack s H) (hb : Binds X.K fd ps [])
    (I : Inv X pins σ H s) (oa : Own X pins H a) (na : s.heap.get? a = some (seqObj "list" vs.toArray n)) {xs : List V} (r : Vals xs vs) (hz : vs.length ≤ 2000) {Q : List V → Hp → Prop} (h : tK sp xs H Q)
    (key : ∀ (s' : Shared) (H' : Hp) (ys : List V) (ks : List Value), Inv X pins σ H' s' → Vals ys ks → Q ys H' → ∃ K : Value → List Int, (∀ v ∈ ks, IntTup s'.heap v (K v) ∧ K v ≠ []) ∧
      ∀ (out : List Keyed) (s2 : Shared), Srtd (ltK K) out → Stb (ltK K) out (revB b (ks.zip vs)) → Inv X pins σ H' s2 → Own X pins H' a → (∃ c, s2.heap.get? a = some (seqObj "list" (revB b (out.map (·.2))).toArray c)) → P (.done (.ret .none)) s2) :
    wpAny (model X.prog X.w) A (PyProof.Rows.ksk_tree a (.ref f) b) P E s := by
  have hal : a < s.heap.objs.size := Heap.lt_size na
  have big : vs.toArray.size ≤ sizeLine := by rw [List.size_toArray, sizeLine_eq]; omega
  have s1 := Heap.SameBut.update s.heap a (Obj.mapSeq fun _ => (#[] : Array Value))
  obtain ⟨e1, na1⟩ : ∃ e1, (s.heap.update a (Obj.mapSeq fun _ => (#[] : Array Value))).get? a = some (seqObj "list" #[] e1) := ⟨_, get?_update_seq na fun _ => #[]⟩
  have hsz : (s.heap.update a (Obj.mapSeq fun _ => (#[] : Array Value))).objs.size = s.heap.objs.size := Heap.size_update ..
  have I1 : Inv X pins σ H { s with heap := s.heap.update a (Obj.mapSeq fun _ => (#[] : Array Value)), toks := s.toks } := I.turned (t' := s.toks) (fun x o hx q => (s1.2 x hx).trans q) oa.h oa.l (.inr oa.z) oa.c oa.p
  have I2 : Inv X pins σ H { s with heap := ((s.heap.update a (Obj.mapSeq fun _ => (#[] : Array Value))).push (seqObj "tuple" vs.toArray 0)).push (seqObj "list" #[] 0), toks := s.toks } :=
    I1.kept (t' := s.toks) fun x o q => Heap.get?_push_of_some _ (Heap.get?_push_of_some _ q)
  have hkS : ((s.heap.update a (Obj.mapSeq fun _ => (#[] : Array Value))).push (seqObj "tuple" vs.toArray 0)).objs.size = s.heap.objs.size + 1 := by rw [Heap.size_push, hsz]
  have ok : Own X pins H (s.heap.objs.size + 1) := Own.fresh I (Nat.le_succ _)
  have nk : (((s.heap.update a (Obj.mapSeq fun _ => (#[] : Array Value))).push (seqObj "tuple" vs.toArray 0)).push (seqObj "list" #[] 0)).get? (s.heap.objs.size + 1) = some (seqObj "list" #[] 0) := by
    rw [← hkS]; exact Heap.get?_push_size _ rfl
  unfold PyProof.Rows.ksk_tree
  refine wpAny_bind (listItems_at na rfl ?_)
  refine wpAny_bind (listUpdate_at na rfl ?_ big (Nat.zero_le _))
  refine wpAny_bind (seqEpoch_at na1 rfl ?_)
  refine wpAny_bind (wpAny_newTuple ?_ (by show vs.length ≤ _; rw [sizeLine_eq]; omega))
  refine wpAny_bind (wpAny_newList ?_ (Nat.zero_le _))
  refine wpAny_holding ?_
  have goal : wpAny (model X.prog X.w) A (PyProof.Rows.ksk_rest a (.ref f) b vs.toArray e1 (.ref (s.heap.objs.size + 1))) P E { s with heap := ((s.heap.update a (Obj.mapSeq fun _ => (#[] : Array Value))).push (seqObj "tuple" vs.toArray 0)).push (seqObj "list" #[] 0), toks := s.toks } := by
    refine keys_run F hr he hb I2 oa ok (Nat.ne_of_gt (Nat.lt_succ_of_lt hal)) (Heap.get?_push_of_some _ (Heap.get?_push_of_some _ na1)) nk r hz h fun s' H' ys ks e I' oa' ok' na' nk' ry hy hq => ?_
    obtain ⟨K, k1, k2⟩ := key s' H' ys ks I' ry hq
    have kl : ks.length = vs.length := by rw [← ry.length, hy, r.length]
    refine end_run nk' na' (Nat.ne_of_gt (Nat.lt_succ_of_lt hal)) kl hz k1 fun out h' q1 q2 L => k2 out _ q1 q2 ?_ oa' L.2.1
    exact I'.turnedL (t' := s'.toks) (ch := [a, s.heap.objs.size + 1]) (fun x o hx q => L.1 x o (fun z => hx (by simp [z])) (fun z => hx (by simp [z])) q) fun x hx => by
      rcases (show x = a ∨ x = s.heap.objs.size + 1 by simpa using hx) with z | z
      · rw [z]; exact oa'.fp
      · rw [z]; exact ok'.fp
  rw [← hkS] at goal
  exact goal
end
end PvQ

set_option Elab.async false
set_option linter.all false
set_option maxRecDepth 100000
set_option maxHeartbeats 4000000
/-! an object of the walk's own is tracked from here on -/
namespace PvQ
open PySem PySem.Spec PyProof.Rows L2 Srt SrtO
section
variable {X : Cx} {pins : List (Addr × Obj)} {σ : L2.St} {H : Hp} {s : Shared} {a : Addr} {ob : HO}
theorem track (I : Inv X pins σ H s) (o : Own X pins H a) (new : ObjOk X.prog X.w (upd H a ob) s.heap a ob) : Inv X pins σ (upd H a ob) s := by
  have hs : ∀ b u, X.s_0.heap.get? b = some u → b ≠ a := fun b u e => Nat.ne_of_lt (Nat.lt_of_lt_of_le (Heap.lt_size e) o.z)
  refine ⟨I.ok, I.os, I.bare, ⟨I.base.keep, I.base.slot, fun b u q n x => ?_, I.base.there, fun b xs q => ?_, fun b u xs q => ?_, fun b ps q => ?_⟩, I.loc, I.cell, ?_, fun x c e => ?_, fun p hp => ?_, fun b u e => ?_, I.len⟩
  · rw [upd_ne (hs b u q)]; exact I.base.free b u q n x
  · have z := I.base.tups b xs q
    rw [upd_ne (ne_of_none z o.h)]; exact z
  · have z := I.base.frzs b u xs q
    rw [upd_ne (ne_of_none z o.h)]; exact z
  · obtain ⟨more, z⟩ := I.base.tbls b ps q
    exact ⟨more, by rw [upd_ne (ne_of_none z o.h)]; exact z⟩
  · rw [upd_ne (fun z => o.l z.symm)]; exact I.free
  · rw [upd_ne (o.c x c e)]; exact I.freeC x c e
  · obtain ⟨p1, p2, p3⟩ := I.pin p hp
    exact ⟨p1, by rw [upd_ne (o.p p hp)]; exact p2, p3⟩
  · by_cases hb : b = a
    · subst hb
      rw [upd_same] at e
      cases e
      exact new
    · rw [upd_ne hb] at e
      exact (I.hok b u e).stay (fun c v _ q => q) (fun c q => by rw [upd_ne (ne_of_none q o.h)]; exact q) fun c xs q => by rw [upd_ne (ne_of_none q o.h)]; exact q
end
end PvQ

set_option Elab.async false
set_option linter.all false
set_option maxRecDepth 100000
set_option maxHeartbeats 4000000
/-! sorted(l, key=f) -/
namespace PvQ
open PySem PySem.Spec PyProof.Rows L2 Srt SrtO
section
variable {X : Cx} {pins : List (Addr × Obj)} {σ : L2.St} {H : Hp} {s : Shared} {k : Nat} {f : Addr} {fd : FuncData} {ps : List Str} {sp : Sp}
theorem sorted_run {l : Addr} {vs : List Value} {b : Bool} {kw : List (Str × Value)} {QV : VK} (hk : ∀ a, Builtin.«list.sort» ⟨[.ref a], kw⟩ = PyProof.Rows.ksk_tree a (.ref f) b) (ha1 : argsOk "sorted" ⟨[.ref l], kw⟩) (ha2 : ∀ v, argsOk "list.sort" ⟨[v], kw⟩)
    (F : FnOk X.prog X.w X.K X.mg X.base CX0 k f fd ps sp) (hr : Room (k + 2) X.A) (hb : Binds X.K fd ps []) (I : Inv X pins σ H s) (hl : s.heap.IsList l vs.toArray) {xs : List V} (r : Vals xs vs) (hz : vs.length ≤ 2000) {Q : List V → Hp → Prop} (h : tK sp xs H Q)
    (key : ∀ (s' : Shared) (H' : Hp) (ys : List V) (ks : List Value), Inv X pins σ H' s' → Vals ys ks → Q ys H' → ∃ K : Value → List Int, (∀ v ∈ ks, IntTup s'.heap v (K v) ∧ K v ≠ []) ∧
      ∀ (out : List Keyed) (a : Addr), Srtd (ltK K) out → Stb (ltK K) out (revB b (ks.zip vs)) → H' a = none → ∃ zs : List V, zs.length ≤ 2000 ∧ Vals zs (revB b (out.map (·.2))) ∧ QV (.ref a) (upd H' a (.lst zs))) :
    wpAny (model X.prog X.w) X.A (call (.builtin "sorted") [.ref l] kw) (EP X pins σ QV) X.xe s := by
  have hzl : vs.length ≤ sizeLine := by rw [sizeLine_eq]; omega
  refine call_function_entry_kw kind_sorted plain_sorted entry_sorted ha1 ?_
  unfold Builtin.«sorted»
  refine wpAny_bind (m := checkCount "sorted" 1 1 _) (wpAny_pure ?_)
  refine wpAny_bind (collect_list hl ?_ hzl)
  refine wpAny_bind (wpAny_newList ?_ hzl)
  have hsz : ((s.heap.push (seqObj "list" #[] 0)).update s.heap.objs.size (Obj.mapSeq (· ++ vs.toArray))).objs.size = s.heap.objs.size + 1 := by
    rw [Heap.size_update]
    exact Heap.size_push ..
  have hoL : (((s.heap.push (seqObj "list" #[] 0)).update s.heap.objs.size (Obj.mapSeq (· ++ vs.toArray))).push (seqObj "list" vs.toArray 0)).get? (s.heap.objs.size + 1) = some (seqObj "list" vs.toArray 0) := by
    rw [← hsz]; exact Heap.get?_push_size _ rfl
  have keep : ∀ x o, s.heap.get? x = some o → (((s.heap.push (seqObj "list" #[] 0)).update s.heap.objs.size (Obj.mapSeq (· ++ vs.toArray))).push (seqObj "list" vs.toArray 0)).get? x = some o := fun x o q => by
    refine Heap.get?_push_of_some _ ?_
    rw [Heap.get?_update_ne _ _ _ _ (Nat.ne_of_lt (Heap.lt_size q))]
    exact Heap.get?_push_of_some _ q
  have I1 : Inv X pins σ H { s with heap := ((s.heap.push (seqObj "list" #[] 0)).update s.heap.objs.size (Obj.mapSeq (· ++ vs.toArray))).push (seqObj "list" vs.toArray 0), toks := s.toks } := I.kept (t' := s.toks) keep
  have oa : Own X pins H (s.heap.objs.size + 1) := Own.fresh I (Nat.le_succ _)
  show wpAny _ _ _ _ _ { s with heap := ((s.heap.push (seqObj "list" #[] 0)).update s.heap.objs.size (Obj.mapSeq (· ++ vs.toArray))).push (seqObj "list" vs.toArray 0) }
  rw [hsz]
  refine wpAny_bind (wpAny_holding (wpAny_call_entry_kw slot_list_sort ⟨_, hoL, rfl⟩ entry_list_sort ?_ (ha2 _)))
  rw [hk]
  refine sort_run F (hr.in1.in1) (fun J => J.env0.in1.in1) hb I1 oa hoL r hz h fun s' H' ys ks I' ry hq => ?_
  obtain ⟨K, k1, k2⟩ := key s' H' ys ks I' ry hq
  refine ⟨K, k1, fun out s2 q1 q2 I2 o2 ⟨c, hc⟩ => ⟨_, rfl, ?_⟩⟩
  obtain ⟨zs, z1, z2, z3⟩ := k2 out _ q1 q2 o2.h
  have I3 := track (ob := .lst zs) I2 o2 ⟨by rw [sizeLine_eq]; omega, _, c, z2, hc⟩
  exact wpAny_pure ⟨_, rfl, .ref _, _, I3, rfl, z3⟩
end
end PvQ

set_option Elab.async false
set_option linter.all false
set_option maxRecDepth 100000
set_option maxHeartbeats 4000000
/-! sorted(l, key=f): the one result, by a stable insertion sort -/
namespace PvQ
open PySem PySem.Spec PyProof.Rows L2 Srt SrtO
section
variable {α β γ : Type}
theorem insK_split {lt : α → α → Bool} (x : α) : ∀ l : List α, ∃ M N, l = M ++ N ∧ insK lt x l = M ++ x :: N ∧ (∀ m ∈ M, lt m x = true) ∧ ∀ n r, N = n :: r → lt n x = false
  | [] => ⟨[], [], rfl, rfl, fun _ h => by simp at h, fun _ _ h => by simp at h⟩
  | y :: r => by
    unfold insK
    cases h : lt y x with
    | true =>
      obtain ⟨M, N, e1, e2, h1, h2⟩ := insK_split (lt := lt) x r
      refine ⟨y :: M, N, by rw [e1]; rfl, by rw [cond_true, e2]; rfl, fun m hm => ?_, h2⟩
      rcases List.mem_cons.mp hm with e | hm
      · rw [e]; exact h
      · exact h1 m hm
    | false => exact ⟨[], y :: r, rfl, rfl, fun _ z => by simp at z, fun n s e => by cases e; exact h⟩
theorem insK_ok {lt : α → α → Bool} (O : Swo lt) {x : α} {l : List α} (h : Srtd lt l) : Srtd lt (insK lt x l) ∧ Stb lt (insK lt x l) (x :: l) := by
  obtain ⟨M, N, e1, e2, h1, h2⟩ := insK_split (lt := lt) x l
  subst e1
  obtain ⟨s1, s2, s3⟩ := srtd_app.mp h
  have hN : ∀ n ∈ N, lt n x = false := by
    cases N with
    | nil => intro n hn; simp at hn
    | cons n r =>
      intro m hm
      rcases List.mem_cons.mp hm with e | hm
      · rw [e]; exact h2 n r rfl
      · exact O.tr x n m (h2 n r rfl) (srtd_head s2 m hm)
  rw [e2]
  refine ⟨srtd_app.mpr ⟨s1, List.pairwise_cons.mpr ⟨hN, s2⟩, fun a ha b hb => ?_⟩, ?_⟩
  · rcases List.mem_cons.mp hb with e | hb
    · rw [e]; exact O.asym _ _ (h1 a ha)
    · exact s3 a ha b hb
  · have h3 : Stb lt (M ++ [x]) ([x] ++ M) := Stb.swap O fun a ha b hb => by rw [List.mem_singleton.mp hb]; exact h1 a ha
    have h4 := h3.app (Stb.refl (lt := lt) N)
    simpa using h4
theorem isort_ok {lt : α → α → Bool} (O : Swo lt) : ∀ l : List α, Srtd lt (isort lt l) ∧ Stb lt (isort lt l) l
  | [] => ⟨List.Pairwise.nil, Stb.refl _⟩
  | x :: l => by
    obtain ⟨h1, h2⟩ := isort_ok O l
    obtain ⟨h3, h4⟩ := insK_ok O (x := x) h1
    exact ⟨h3, h4.trans ((Stb.refl [x]).app h2)⟩
theorem isort_uniq {lt : α → α → Bool} (O : Swo lt) {l m : List α} (h1 : Srtd lt m) (h2 : Stb lt m l) : m = isort lt l := by
  obtain ⟨h3, h4⟩ := isort_ok O l
  exact SrtO.stb_uniq O h1 h3 (h2.trans ⟨h4.perm.symm, fun x => (h4.cls x).symm⟩)
theorem insK_rel {R : α → β → Prop} {lt : α → α → Bool} {lt' : β → β → Bool} (h : ∀ a b a' b', R a a' → R b b' → lt a b = lt' a' b') {x : α} {y : β} (hx : R x y) : ∀ {l : List α} {m : List β}, Paired R l m → Paired R (insK lt x l) (insK lt' y m)
  | _, _, .nil => .cons hx .nil
  | a :: l, b :: m, .cons r t => by
    unfold insK
    rw [h a x b y r hx]
    cases lt' b y with
    | true => exact .cons r (insK_rel h hx t)
    | false => exact .cons hx (.cons r t)
theorem isort_rel {R : α → β → Prop} {lt : α → α → Bool} {lt' : β → β → Bool} (h : ∀ a b a' b', R a a' → R b b' → lt a b = lt' a' b') : ∀ {l : List α} {m : List β}, Paired R l m → Paired R (isort lt l) (isort lt' m)
  | _, _, .nil => .nil
  | _, _, .cons r t => insK_rel h r (isort_rel h t)
theorem paired_app {R : α → β → Prop} : ∀ {l l' : List α} {m m' : List β}, Paired R l m → Paired R l' m' → Paired R (l ++ l') (m ++ m')
  | _, _, _, _, .nil, h => h
  | _, _, _, _, .cons r t, h => .cons r (paired_app t h)
theorem paired_rev {R : α → β → Prop} : ∀ {l : List α} {m : List β}, Paired R l m → Paired R l.reverse m.reverse
  | _, _, .nil => .nil
  | _, _, .cons r t => by
    rw [List.reverse_cons, List.reverse_cons]
    exact paired_app (paired_rev t) (.cons r .nil)
theorem paired_revB {R : α → β → Prop} {l : List α} {m : List β} (b : Bool) (h : Paired R l m) : Paired R (revB b l) (revB b m) := by
  cases b
  · exact h
  · exact paired_rev h
theorem paired_map {α' β' : Type} {R : α → β → Prop} {S : α' → β' → Prop} {f : α → α'} {g : β → β'} (h : ∀ a b, R a b → S (f a) (g b)) : ∀ {l : List α} {m : List β}, Paired R l m → Paired S (l.map f) (m.map g)
  | _, _, .nil => .nil
  | _, _, .cons r t => .cons (h _ _ r) (paired_map h t)
theorem paired_zip {α' β' : Type} {R : α → β → Prop} {S : α' → β' → Prop} : ∀ {l : List α} {m : List β} {l' : List α'} {m' : List β'}, Paired R l m → Paired S l' m' → Paired (fun p q => R p.1 q.1 ∧ S p.2 q.2) (l.zip l') (m.zip m')
  | _, _, _, _, .nil, _ => by simpa using Paired.nil
  | _, _, _, _, .cons r t, .nil => by simpa using Paired.nil
  | _, _, _, _, .cons r t, .cons r' t' => .cons ⟨r, r'⟩ (paired_zip t t')
theorem srtL_rel {R : α → β → Prop} (b : Bool) (kz : List (List Int)) {l : List α} {m : List β} (h : Paired R l m) : Paired R (srtL b kz l) (srtL b kz m) := by
  unfold srtL
  have hk : ∀ k : List (List Int), Paired (fun x y => x = y) k k := fun k => by
    induction k with
    | nil => exact .nil
    | cons x k ih => exact .cons rfl ih
  refine paired_revB b (paired_map (R := fun (p : List Int × α) (q : List Int × β) => p.1 = q.1 ∧ R p.2 q.2) (fun a b r => r.2) (isort_rel (fun a b a' b' h1 h2 => by rw [h1.1, h2.1]) (paired_revB b (paired_zip (hk kz) h))))
theorem srtL_len (b : Bool) (kz : List (List Int)) (xs : List α) : (srtL b kz xs).length ≤ xs.length := by
  unfold srtL
  rw [revB_len, List.length_map, (isort_ok (lexI_swo' (fun p : List Int × α => p.1)) _).2.len, revB_len, List.length_zip]
  exact Nat.min_le_right _ _
where lexI_swo' {δ : Type} (k : δ → List Int) : Swo fun p q => lexI (k p) (k q) := ⟨fun x y => lexI_asym _ _, fun x y z => lexI_tr _ _ _⟩
end
/-- the ints of a tuple, off the heap -/
def kInts (h : Heap) (v : Value) : List Int := match v with
  | .ref a => match h.get? a with
    | some o => match o.data with
      | .seq xs _ => xs.toList.map fun | .int i _ => i | _ => 0
      | _ => []
    | none => []
  | _ => []
theorem ints_map : ∀ {xs : List Value} {ns : List Int}, IntsAre xs ns → (xs.map fun | .int i _ => i | _ => 0) = ns
  | _, _, .nil => rfl
  | _, _, .cons n t r => by
    show n :: _ = n :: _
    rw [← ints_map r]
theorem IntTup.ints {h : Heap} {v : Value} {ns : List Int} (x : IntTup h v ns) : kInts h v = ns := by
  obtain ⟨a, o, xs, n, rfl, ho, hc, hd, i⟩ := x
  simp only [kInts, ho, hd]
  exact ints_map i
section
variable {X : Cx} {k : Nat} {f : Addr} {fd : FuncData} {x : Str} {sp : Sp}
def rSrt (K : PySem.W.Frag) (b : Bool) (sp : Sp) (zs0 : List V) : List V → List V → Hp → VK → Prop := fun vs zs H Q => ∃ a xs, vs = [V.ref a] ∧ zs = zs0 ∧ SqL K H a xs ∧ xs.length ≤ 2000 ∧
  tK sp xs H fun ys H' => ∃ kz : List (List Int), Paired (fun (y : V) ns => ∃ c, y = .ref c ∧ SqT K H' c (ns.map V.int) ∧ ns ≠ []) ys kz ∧ ys.length = xs.length ∧ ∀ p, H' p = none → Q (.ref p) (upd H' p (.lst (srtL b kz xs)))
theorem keys_of {K : PySem.W.Frag} {pins : List (Addr × Obj)} {σ : L2.St} {H : Hp} {s : Shared} (I : Inv X pins σ H s) : ∀ {ys : List V} {kz : List (List Int)} {ks : List Value}, Paired (fun (y : V) ns => ∃ c, y = .ref c ∧ SqT X.K H c (ns.map V.int) ∧ ns ≠ []) ys kz → Vals ys ks →
    Paired (fun v ns => IntTup s.heap v ns ∧ ns ≠ []) ks kz
  | _, _, _, .nil, .nil => .nil
  | _, _, _, .cons h t, .cons r u => by
    refine .cons ?_ (keys_of (K := K) I t u)
    obtain ⟨c, rfl, hq, hne⟩ := h
    cases r
    obtain ⟨its, rv, ⟨o, ho, hc, n, hd⟩, hz⟩ := I.tuple hq
    exact ⟨⟨c, o, _, n, rfl, ho, hc, hd, ints_of_vals rv⟩, hne⟩
theorem paired_mem {α β : Type} {R : α → β → Prop} : ∀ {l : List α} {m : List β}, Paired R l m → ∀ a ∈ l, ∃ b, R a b
  | _, _, .nil, _, h => by simp at h
  | _, _, .cons r t, a, h => by
    rcases List.mem_cons.mp h with e | h
    · rw [e]; exact ⟨_, r⟩
    · exact paired_mem t a h
theorem srt_run {b : Bool} {kw : List (Str × Value)} {zs0 : List V} (hk : ∀ a, Builtin.«list.sort» ⟨[.ref a], kw⟩ = PyProof.Rows.ksk_tree a (.ref f) b) (ha1 : ∀ l, argsOk "sorted" ⟨[.ref l], kw⟩) (ha2 : ∀ v, argsOk "list.sort" ⟨[v], kw⟩)
    (F : FnOk X.prog X.w X.K X.mg X.base CX0 k f fd [x] sp) (hr : Room (k + 2) X.A) (hb : Binds X.K fd [x] []) {pins : List (Addr × Obj)} {σ : L2.St} {H : Hp} {s : Shared} {vs : List V} {us : List Value} {Q : VK} (I : Inv X pins σ H s) (r : Vals vs us) (h : rSrt X.K b sp zs0 vs zs0 H Q) :
    wpAny (model X.prog X.w) X.A (call (.builtin "sorted") us kw) (EP X pins σ Q) X.xe s := by
  obtain ⟨l, xs, rfl, _, hl, hz, ht⟩ := h
  obtain rfl := Vals.ref1 r
  obtain ⟨its, rv, pl, hz2⟩ := I.list hl
  have hi : its.length ≤ 2000 := by rw [← rv.length]; exact hz
  refine sorted_run hk (ha1 _) ha2 F hr hb I pl.isList rv hi ht fun s' H' ys ks I' ry ⟨kz, hp, hyl, q⟩ => ?_
  have P := keys_of (K := X.K) I' hp ry
  refine ⟨kInts s'.heap, fun v hv => ?_, fun out a h1 h2 ha => ⟨srtL b kz xs, Nat.le_trans (srtL_len _ _ _) hz, ?_, q a ha⟩⟩
  · obtain ⟨ns, h1, h2⟩ := paired_mem P v hv
    rw [h1.ints]
    exact ⟨h1, h2⟩
  · have e := isort_uniq (lexI_swo fun p : Keyed => kInts s'.heap p.1) h1 h2
    rw [e]
    unfold srtL
    have hR : Paired (fun (p : List Int × V) (q : Value × Value) => p.1 = kInts s'.heap q.1 ∧ RelV p.2 q.2) (kz.zip xs) (ks.zip its) := by
      refine paired_zip (R := fun (ns : List Int) v => ns = kInts s'.heap v) ?_ rv
      have P' : ∀ {l : List Value} {m : List (List Int)}, Paired (fun v ns => IntTup s'.heap v ns ∧ ns ≠ []) l m → Paired (fun (ns : List Int) v => ns = kInts s'.heap v) m l := fun {l m} p => by
        induction p with
        | nil => exact .nil
        | cons r _ ih => exact .cons r.1.ints.symm ih
      exact P' P
    exact paired_revB b (paired_map (R := fun (p : List Int × V) (q : Value × Value) => p.1 = kInts s'.heap q.1 ∧ RelV p.2 q.2) (fun _ _ r => r.2) (isort_rel (fun a b a' b' h1 h2 => by rw [h1.1, h2.1]) (paired_revB b hR)))
theorem cr_srt (F : FnOk X.prog X.w X.K X.mg X.base CX0 k f fd [x] sp) (hr : Room (k + 2) X.A) (hb : Binds X.K fd [x] []) : CallRK X (.builtin "sorted") [Str.ofString "key"] (rSrt X.K false sp [.ref f]) := by
  intro pins s σ H vs zs us ws Q I r rz h
  have e : zs = [.ref f] := by obtain ⟨_, _, _, e, _⟩ := h; exact e
  subst e
  obtain ⟨w1, rfl, e1⟩ := vals1 rz
  cases e1
  exact srt_run (fun a => PyProof.Rows.ksk_t1 f a) (fun l => PyProof.Rows.ksk_s1 _ _) (fun v => PyProof.Rows.ksk_l1 _ _) F hr hb I r h
theorem cr_srtR {b : Bool} (F : FnOk X.prog X.w X.K X.mg X.base CX0 k f fd [x] sp) (hr : Room (k + 2) X.A) (hb : Binds X.K fd [x] []) : CallRK X (.builtin "sorted") [Str.ofString "key", Str.ofString "reverse"] (rSrt X.K b sp [.ref f, .bl b]) := by
  intro pins s σ H vs zs us ws Q I r rz h
  have e : zs = [.ref f, .bl b] := by obtain ⟨_, _, _, e, _⟩ := h; exact e
  subst e
  obtain ⟨w1, w2, rfl, e1, e2⟩ := vals2 rz
  cases e1
  cases e2
  exact srt_run (fun a => PyProof.Rows.ksk_t2 f a b) (fun l => PyProof.Rows.ksk_s2 _ _ _) (fun v => PyProof.Rows.ksk_l2 _ _ _) F hr hb I r h
end
end PvQ

set_option Elab.async false
set_option linter.all false
set_option maxRecDepth 100000
set_option maxHeartbeats 4000000
/-! ### sorted(l, key=f), text.index(sign), list.count(text) -/
namespace Pv
open PySem PySem.Spec PyProof.Rows L2 PvQ
section
variable {K : PySem.W.Frag} {G H0 G0 W : Hp}
theorem denL_paired : ∀ {ds : List D} {vs : List V}, DenL K G ds vs → Paired (fun v d => Den K G d v) vs ds
  | [], _, h => by simp only [DenL] at h; subst h; exact .nil
  | d :: ds, _, h => by
    simp only [DenL] at h
    obtain ⟨v, r, e, h1, h2⟩ := h
    subst e
    exact .cons h1 (denL_paired h2)
theorem paired_denL : ∀ {ds : List D} {vs : List V}, Paired (fun v d => Den K G d v) vs ds → DenL K G ds vs
  | _, _, .nil => by simp only [DenL]
  | _, _, .cons h t => by simp only [DenL]; exact ⟨_, _, rfl, h, paired_denL t⟩
theorem srtL_den {b : Bool} {kz : List (List Int)} {ds : List D} {vs : List V} (h : DenL K G ds vs) : DenL K G (srtL b kz ds) (srtL b kz vs) := paired_denL (srtL_rel b kz (denL_paired h))
def KD (K : PySem.W.Frag) (G : Hp) (ys : List V) (kz : List (List Int)) : Prop := Paired (fun y ns => ∃ ts : List D, allInts ts = some ns ∧ Den K G (.tup ts) y ∧ ns ≠ []) ys kz
theorem KD.mono {G' : Hp} (e : Sub G G') : ∀ {ys : List V} {kz : List (List Int)}, KD K G ys kz → KD K G' ys kz
  | _, _, .nil => .nil
  | _, _, .cons ⟨ts, h1, h2, h3⟩ t => .cons ⟨ts, h1, h2.mono e, h3⟩ (KD.mono e t)
theorem KD.sq {H : Hp} (e : Sub G H) : ∀ {ys : List V} {kz : List (List Int)}, KD K G ys kz → Paired (fun (y : V) ns => ∃ c, y = .ref c ∧ SqT K H c (ns.map V.int) ∧ ns ≠ []) ys kz
  | _, _, .nil => .nil
  | _, _, .cons ⟨ts, h1, h2, h3⟩ t => by
    refine .cons ?_ (KD.sq e t)
    simp only [Den] at h2
    obtain ⟨a, vs, rfl, hs, hv⟩ := h2
    have ev := ints_den h1 hv
    subst ev
    exact ⟨a, rfl, sub_t e hs, h3⟩
theorem keyD_some {d : D} {ns : List Int} (h : keyD d = some ns) : ∃ ts, d = .tup ts ∧ allInts ts = some ns ∧ ns ≠ [] := by
  unfold keyD at h
  split at h
  · rename_i ts
    obtain ⟨ms, h1, h⟩ := bnd h
    split at h
    · cases h
    · rename_i hne
      cases h
      exact ⟨ts, rfl, h1, by simpa using hne⟩
  · cases h
theorem tK_of {F : List D → Option D} : ∀ {ds : List D} {vs : List V} {kz : List (List Int)} {G H : Hp}, Wd H0 G0 G W H → DenL K G ds vs → keysD F ds = some kz → ∀ Q : List V → Hp → Prop,
    (∀ ys G' H', Sub G G' → Wd H0 G0 G' W H' → KD K G' ys kz → ys.length = vs.length → Q ys H') → tK (spF K F) vs H Q
  | [], _, kz, G, H, w, hd, hk, Q, q => by
    simp only [DenL] at hd
    subst hd
    cases hk
    exact q [] G H (Sub.refl G) w .nil rfl
  | d :: ds, _, kz, G, H, w, hd, hk, Q, q => by
    simp only [DenL] at hd
    obtain ⟨v, r, e, h1, h2⟩ := hd
    subst e
    unfold keysD at hk
    obtain ⟨k, hk1, hk⟩ := bnd hk
    obtain ⟨kz', hk2, rfl⟩ := mpd hk
    obtain ⟨y0, hy, hk1⟩ := bnd hk1
    obtain ⟨ts, rfl, ht, hne⟩ := keyD_some hk1
    refine ⟨[d], .tup ts, G, w.gh, by simp only [DenL]; exact ⟨v, [], rfl, h1, rfl⟩, hy, fun y G' H' a b c e dy => ?_⟩
    have w' := w.call a b c e
    refine tK_of w' (h2.mono b) hk2 _ fun ys G2 H2 e2 w2 kd hl => ?_
    exact q (y :: ys) G2 H2 (b.trans e2) w2 (.cons ⟨ts, ht, dy.mono e2, hne⟩ kd) (by simp [hl])
end
section
variable {Y : Stat} {sc : Scope} {fc : Str → Bool} {pos apos p pf kp kp2 rp : Pos} {a b : Expr} {fa fb : List Sl → Option D} {i rj : Nat} {x : Str}
theorem srt_end {X : Cx} {H0 G0 G G1 W H1 : Hp} {F : List D → Option D} {rev : Bool} {xs : List D} {vs : List V} {kz : List (List Int)} {l : Addr} {zs : List V} {Q : VK} (e1 : Sub G G1) (w1 : Wd H0 G0 G1 W H1) (hl : G1 l = some (.lst vs)) (hv : DenL X.K G1 xs vs) (hk : keysD F xs = some kz) (hz : xs.length ≤ 2000)
    (q : EQ X.K H0 G0 G W (.lst (srtL rev kz xs)) Q) : rSrt X.K rev (spF X.K F) zs [V.ref l] zs H1 Q := by
  refine ⟨l, vs, rfl, rfl, SqL.of (w1.gh _ _ hl), by rw [← hv.length]; exact hz, ?_⟩
  refine tK_of w1 hv hk _ fun ys G2 H2 e2 w2 kd hyl => ⟨kz, kd.sq w2.gh, hyl, fun z hz => ?_⟩
  refine q _ _ _ ((e1.trans e2).trans (sub_upd (w2.gnone hz))) (w2.new hz) ?_
  simp only [Den]
  exact ⟨z, _, rfl, upd_same, srtL_den ((hv.mono e2).mono (sub_upd (w2.gnone hz)))⟩
theorem boot_sorted' : bootBuiltins "sorted" = some (.builtin "sorted") := PyProof.Rows.boot_sorted
theorem se_srt0 (hs : (i, x) ∈ Y.srts) (h1 : ("sorted" : Str) ∈ Y.bl) (g1 : sc.names.lookup ("sorted" : Str) = some .globalImplicit) (g2 : sc.names.lookup x = some .globalImplicit) (hd : (x == ("__debug__" : Str)) = false) (hn : notStar a = true) (ha : SE Y sc fc a fa) :
    SE Y sc fc (.Call (.Name "sorted" p) [a] [⟨some ("key" : Str), .Name x pf, kp⟩] pos) (fun τ => (fa τ).bind fun x => srtD (Y.Z.F i) false x) := by
  refine ⟨fun X ok H0 G0 G W H τ σ d w s h Q q => ?_⟩
  obtain ⟨y, hy, h⟩ := bnd h
  obtain ⟨f, fd, pn, k, hk, hm, hb, F⟩ := (ok.srts i x hs).ex
  refine ⟨_, pe_callBK (cr_srt F (ok.room.mono hk) hb) (ok.gl g1) (ok.bl _ h1) boot_sorted' (pa_cons pe_tu pa_nil (star_cons hn)) (pk_cons (pe_glob (v := .ref f) (ok.gl g2) hm rfl hd) pk_nil) (by decide) (by decide) (by rw [star_cons hn]; rfl) (by rw [star_cons hn]; rfl) rfl rfl rfl, ?_⟩
  refine ha.run X ok _ _ _ _ _ _ _ _ w s hy _ fun v G1 H1 e1 w1 dv => ?_
  unfold srtD at h
  split at h
  · rename_i xs
    obtain ⟨kz, hkz, h⟩ := bnd h
    split at h
    · rename_i hl
      cases h
      simp only [Den] at dv
      obtain ⟨l, vs, rfl, hl1, hv⟩ := dv
      exact srt_end e1 w1 hl1 hv hkz hl q
    · cases h
  · cases h
theorem se_srt1 {bb : Bool} (hs : (i, x) ∈ Y.srts) (h1 : ("sorted" : Str) ∈ Y.bl) (g1 : sc.names.lookup ("sorted" : Str) = some .globalImplicit) (g2 : sc.names.lookup x = some .globalImplicit) (hd : (x == ("__debug__" : Str)) = false) (hn : notStar a = true) (ha : SE Y sc fc a fa) :
    SE Y sc fc (.Call (.Name "sorted" p) [a] [⟨some ("key" : Str), .Name x pf, kp⟩, ⟨some ("reverse" : Str), .Constant (.bool bb) rj rp, kp2⟩] pos) (fun τ => (fa τ).bind fun x => srtD (Y.Z.F i) bb x) := by
  refine ⟨fun X ok H0 G0 G W H τ σ d w s h Q q => ?_⟩
  obtain ⟨y, hy, h⟩ := bnd h
  obtain ⟨f, fd, pn, k, hk, hm, hb, F⟩ := (ok.srts i x hs).ex
  refine ⟨_, pe_callBK (cr_srtR (b := bb) F (ok.room.mono hk) hb) (ok.gl g1) (ok.bl _ h1) boot_sorted' (pa_cons pe_tu pa_nil (star_cons hn)) (pk_cons (pe_glob (v := .ref f) (ok.gl g2) hm rfl hd) (pk_cons pe_bl pk_nil)) (by decide) (by decide) (by rw [star_cons hn]; rfl) (by rw [star_cons hn]; rfl) rfl rfl rfl, ?_⟩
  refine ha.run X ok _ _ _ _ _ _ _ _ w s hy _ fun v G1 H1 e1 w1 dv => ?_
  unfold srtD at h
  split at h
  · rename_i xs
    obtain ⟨kz, hkz, h⟩ := bnd h
    split at h
    · rename_i hl
      cases h
      simp only [Den] at dv
      obtain ⟨l, vs, rfl, hl1, hv⟩ := dv
      exact srt_end e1 w1 hl1 hv hkz hl q
    · cases h
  · cases h
/-! #### text.index(sign) -/
theorem occ_one {xs : List Nat} {c n : Nat} (h : xs.findIdx? (· == c) = some n) : ∃ r, Builtin.Str.occurrences (mkS xs) (mkS [c]) 0 (mkS xs).length 1 = n :: r := by
  rw [List.findIdx?_eq_some_iff_getElem] at h
  obtain ⟨hn, hc, hlt⟩ := h
  have hc' : xs[n] = c := by simpa using hc
  have at_iff : ∀ k, StrLaws.At (mkS xs) (mkS [c]) (mkS xs).length k ↔ xs[k]? = some c := fun k => by
    have := StrLaws.subAt_one (mkS xs) c k
    simpa [StrLaws.At] using this
  rcases StrLaws.occ_head (mkS xs) (mkS [c]) 1 (Nat.le_refl _) with ⟨_, hno⟩ | ⟨i, r, e, hi, hbef⟩
  · exact absurd ((at_iff n).mpr (by rw [List.getElem?_eq_getElem hn, hc'])) (hno n)
  · have h1 := (at_iff i).mp hi
    obtain ⟨hil, hie⟩ := List.getElem?_eq_some_iff.mp h1
    have : i = n := by
      rcases Nat.lt_trichotomy i n with g | g | g
      · have := hlt i g
        rw [hie] at this
        simp at this
      · exact g
      · exact absurd ((at_iff n).mpr (by rw [List.getElem?_eq_getElem hn, hc'])) (hbef n g)
    subst this
    exact ⟨r, e⟩
theorem se_sidx (hb : plainBase a = true) (hline : (apos.endLine == pos.line) = true) (hn : notStar b = true) (ha : SE Y sc fc a fa) (hb' : SE Y sc fc b fb) :
    SE Y sc fc (.Call (.Attribute a "index" apos) [b] [] pos) (fun τ => (fa τ).bind fun x => (fb τ).bind fun y => sidxD x y) := by
  refine ⟨fun X ok H0 G0 G W H τ σ d w s h Q q => ?_⟩
  obtain ⟨x, hx, h⟩ := bnd h
  obtain ⟨y, hy, h⟩ := bnd h
  refine ⟨_, pe_m1 PySem.F.slot_str_index PySem.F.type_str_index mt_sindex pe_tu pe_tu (star_cons hn) (base_no hb) hline, ?_⟩
  refine ha.run X ok _ _ _ _ _ _ _ _ w s hx _ fun v G1 H1 e1 w1 dv => ?_
  unfold sidxD at h
  split at h
  · rename_i xs c _
    obtain ⟨n, hn, rfl⟩ := mpd h
    simp only [Den] at dv
    subst dv
    refine ⟨⟨_, rfl⟩, ?_⟩
    refine hb'.run X ok _ _ _ _ _ _ _ _ w1 (s.mono e1) hy _ fun u G2 H2 e2 w2 du => ?_
    simp only [Den] at du
    subst du
    obtain ⟨r, ho⟩ := occ_one hn
    exact ⟨mkS xs, mkS [c], n, r, rfl, rfl, ho, q _ _ _ (e1.trans e2) w2 (by simp only [Den])⟩
  · cases h
/-! #### list.count(text) -/
def rCntS (K : PySem.W.Frag) : V → List V → Hp → VK → Prop := fun x xs H Q => ∃ (p : Addr) (ps : List Str) (k : Str), x = .ref p ∧ xs = [.str k] ∧ SqL K H p (ps.map V.str) ∧ Q (.int (countIn (.str k) (ps.map PyData.str))) H
theorem mt_countS {X : Cx} : MtR X "list.count" (rCntS X.K) := by
  intro pins s σ H x xs v us Q I rx rxs h
  obtain ⟨p, ps, k, rfl, rfl, hs, q⟩ := h
  cases rx
  obtain ⟨u, rfl, ru⟩ := rxs.one
  obtain ⟨t, rfl⟩ := ru
  obtain ⟨its, rv, pl, hlen⟩ := I.list hs
  exact count_list_strs pl.isList rv.strs ⟨.int _, H, I.tok _, ⟨s.toks, rfl⟩, q⟩
theorem mkS_eq_iff {x y : List Nat} : (mkS x == mkS y) = (x == y) := by
  by_cases h : x = y
  · subst h; simp
  · have h' : mkS x ≠ mkS y := fun e => h (by have := congrArg (fun s => s.cps.toList) e; simpa [mkS] using this)
    rw [beq_eq_false_iff_ne.mpr h, beq_eq_false_iff_ne.mpr h']
theorem count_mk (y : List Nat) : ∀ ps : List (List Nat), countIn (.str (mkS y)) ((ps.map mkS).map PyData.str) = (ps.count y : Nat)
  | [] => rfl
  | p :: ps => by
    rw [List.map_cons, List.map_cons, countIn, count_mk y ps, List.count_cons]
    simp only [same, mkS_eq_iff]
    rcases Bool.eq_false_or_eq_true (p == y) with hb | hb <;> simp only [hb, Bool.false_eq_true, if_true, if_false] <;> push_cast <;> omega
theorem se_cnt (hb : plainBase a = true) (hline : (apos.endLine == pos.line) = true) (hn : notStar b = true) (ha : SE Y sc fc a fa) (hb' : SE Y sc fc b fb) :
    SE Y sc fc (.Call (.Attribute a "count" apos) [b] [] pos) (fun τ => (fa τ).bind fun x => (fb τ).bind fun y => u2D .cnt x y) := by
  refine ⟨fun X ok H0 G0 G W H τ σ d w s h Q q => ?_⟩
  obtain ⟨x, hx, h⟩ := bnd h
  obtain ⟨y, hy, h⟩ := bnd h
  refine ⟨_, pe_bm PySem.F.plainAttrs_list PySem.F.slot_list_count PySem.F.type_list_count mt_countS pe_tu (pa_cons pe_tu pa_nil (star_cons hn)) (base_no hb) (by rw [star_cons hn]; rfl) hline (star_cons hn) rfl, ?_⟩
  refine ha.run X ok _ _ _ _ _ _ _ _ w s hx _ fun v G1 H1 e1 w1 dv => ?_
  unfold u2D at h
  split at h
  · rename_i xs z _ _
    obtain ⟨ps, hps, rfl⟩ := mpd h
    simp only [Den] at dv
    obtain ⟨l, vs, rfl, hl, hv⟩ := dv
    refine ⟨.inl ⟨rfl, vs, SqL.of (w1.gh _ _ hl)⟩, ?_⟩
    refine hb'.run X ok _ _ _ _ _ _ _ _ w1 (s.mono e1) hy _ fun u G2 H2 e2 w2 du => ?_
    simp only [Den] at du
    subst du
    rw [strsD_den hps hv] at hl
    refine ⟨l, ps.map mkS, mkS z, rfl, rfl, SqL.of (w2.gh _ _ (e2 _ _ hl)), q _ _ _ (e1.trans e2) w2 ?_⟩
    simp only [Den]
    rw [count_mk]
  · cases h
end
end Pv

set_option Elab.async false
set_option linter.all false
set_option maxRecDepth 100000
set_option maxHeartbeats 4000000
/-! ### def f(text): return text.replace(sign, sign) -/
namespace Pv
open PySem PySem.Spec PyProof.Rows L2 PvQ PySem.StrLaws
def repF (c d : Nat) : List D → Option D
  | [.str x] => if x.length ≤ 1000000 then some (.str (x.map fun s => if s = c then d else s)) else none
  | _ => none
def repB (c d : Nat) (a0 : Str) : List Stmt → Bool
  | [.Return (some (.Call (.Attribute (.Name a _) m ap) [.Constant (.str y) _ _, .Constant (.str z) _ _] [] cp)) _] => decide (a = a0) && decide (m = ("replace" : Str)) && decide (y = mkS [c]) && decide (z = mkS [d]) && (ap.endLine == cp.line)
  | _ => false
theorem repl_map (c d : Nat) : ∀ x : List Nat, replL [c] [d] x = x.map fun s => if s = c then d else s
  | [] => replL_nil
  | a :: r => by
    have ih := repl_map c d r
    unfold replL at ih ⊢
    rw [replS]
    by_cases h : a = c
    · subst h
      simp [ih]
    · simp [h, ih]
theorem repl_ok {P : Program} {w : World} {K : PySem.W.Frag} {mg : Str → Option Value} {base : Heap} {x qual : Str} {st : Stmt} {f : Addr} {fd : FuncData} {a0 : Str} {c d : Nat} (Fn : Fun K x qual st f fd) (S : FnScope [a0] [a0] (defScope st))
    (hb : repB c d a0 (defBody st) = true) (hcd : c ≠ d) (hl : (defScope st).names.lookup a0 = some .local) (hn : (a0 == ("__debug__" : Str)) = false) (hn2 : (a0 == ("__classdict__" : Str)) = false) (hnc : (defScope st).names.all (fun y => decide (y.2 ≠ .cell)) = true) : FnOk P w K mg base CX0 1 f fd [a0] (spF K (repF c d)) := by
  obtain ⟨oc, od, kV, doc, pm, an, cdv, ct, osl, rfl, lk, hc2⟩ := Fn.ex
  refine fn_ofT lk hc2 S (fun y hy => of_decide_eq_true (List.all_eq_true.mp hnc y hy)) (by simp) (fun vs H Q E h => ?_) (fun A outer s H vs Q E hr h => ?_)
  · obtain ⟨ds, e, G, _, h1, h2, _⟩ := h
    rw [← h1.length]
    unfold repF at h2
    split at h2
    · rfl
    · cases h2
  · obtain ⟨ds, e, G, hs, h1, h2, q⟩ := h
    unfold repF at h2
    split at h2
    · rename_i z
      split at h2
      · rename_i hz
        cases h2
        simp only [DenL, Den] at h1
        obtain ⟨v, r, rfl, rfl, rfl⟩ := h1
        unfold repB at hb
        split at hb
        · rename_i a p1 m ap y j c0 z' k c1 cp rp hbody
          simp only [Bool.and_eq_true, decide_eq_true_eq] at hb
          obtain ⟨⟨⟨⟨rfl, rfl⟩, rfl⟩, rfl⟩, hline⟩ := hb
          have hyz : (mkS [c] == mkS [d]) = false := beq_eq_false_iff_ne.mpr fun e => hcd (by
            have := congrArg (fun s => s.cps.toList) e
            simpa [mkS] using this)
          rw [hbody]
          refine ⟨_, psst_cons (CwR.pst_ret (CwR.pet_replC (pe_var (i := 0) rfl (.inl hl) hn hn2) hyz rfl rfl hline)) (PSsT.of pss_nil), ?_⟩
          refine ⟨.str (mkS z), rfl, mkS z, rfl, ?_, ?_⟩
          · rw [mkS_len]
            have : (mkS [d]).length = 1 := mkS_len [d]
            rw [this]
            omega
          · refine q _ G H (Sub.refl _) (Sub.refl _) hs (fun a o e => rfl) ?_
            simp only [Den]
            congr 1
            have e1 : (Txt.replace (mkS z) (mkS [c]) (mkS [d])).cps.toList = z.map fun s => if s = c then d else s := by
              rw [replace_list (by rw [mkS_len]; exact Nat.le_refl _)]
              exact repl_map c d z
            have e2 : Txt.replace (mkS z) (mkS [c]) (mkS [d]) = mkS ((Txt.replace (mkS z) (mkS [c]) (mkS [d])).cps.toList) := by
              simp [mkS]
            rw [e2, e1]
        · cases hb
      · cases h2
    · cases h2
end Pv

set_option Elab.async false
set_option linter.all false
set_option maxRecDepth 100000
set_option maxHeartbeats 4000000

namespace Pv
open PySem PySem.Spec L2

/-! ### the checker: the text's tree against the small language -/
def visB (sc : Scope) (x : Str) : Bool := match sc.names.lookup x with
  | some .local => true | some .cell => true | some .free => true | _ => false
def locB (sc : Scope) (x : Str) : Bool := match sc.names.lookup x with
  | some .local => true | some .cell => true | _ => false
def glB (sc : Scope) (x : Str) : Bool := match sc.names.lookup x with
  | some .globalImplicit => true | _ => false
def nmB (x : Str) : Bool := !(x == ("__debug__" : Str)) && !(x == ("__classdict__" : Str))
def memP (l : List (Nat × Str)) (k : Nat) (x : Str) : Bool := l.any fun p => decide (p.1 = k) && decide (p.2 = x)
def memS (l : List Str) (x : Str) : Bool := l.any fun y => decide (y = x)
def hfB (sc : Scope) (fc : Str → Bool) (x : Str) : Bool := fc x || decide (sc.names.lookup x = some .local)
def notIf : Expr → Bool
  | .IfExp .. => false
  | _ => true
theorem visB_ok {sc : Scope} {x : Str} (h : visB sc x = true) : Vis sc x := by
  unfold visB at h
  split at h <;> first | exact .inl ‹_› | exact .inr (.inl ‹_›) | exact .inr (.inr ‹_›) | cases h
theorem locB_ok {sc : Scope} {x : Str} (h : locB sc x = true) : Loc sc x := by
  unfold locB at h
  split at h <;> first | exact .inl ‹_› | exact .inr ‹_› | cases h
theorem glB_ok {sc : Scope} {x : Str} (h : glB sc x = true) : sc.names.lookup x = some .globalImplicit := by
  unfold glB at h
  split at h <;> first | assumption | cases h
theorem nmB_ok {x : Str} (h : nmB x = true) : (x == ("__debug__" : Str)) = false ∧ (x == ("__classdict__" : Str)) = false := by
  simpa [nmB] using h
theorem memP_ok {l : List (Nat × Str)} {k : Nat} {x : Str} (h : memP l k x = true) : (k, x) ∈ l := by
  unfold memP at h
  rw [List.any_eq_true] at h
  obtain ⟨p, hp, e⟩ := h
  simp only [Bool.and_eq_true, decide_eq_true_eq] at e
  obtain ⟨e1, e2⟩ := e
  rw [← e1, ← e2]
  exact hp
theorem memS_ok {l : List Str} {x : Str} (h : memS l x = true) : x ∈ l := by
  unfold memS at h
  rw [List.any_eq_true] at h
  obtain ⟨p, hp, e⟩ := h
  rw [decide_eq_true_eq] at e
  rw [← e]
  exact hp

def ckC (d : D) (c : Const) : Bool := match d, c with
  | .int n, .int m => decide (n = m)
  | .bl b, .bool c => b == c
  | .non, .none => true
  | .str x, .str s => decide (s = mkS x)
  | _, _ => false
def ckTy (Y : Stat) (sc : Scope) : List Ty → List Expr → Bool
  | [], [] => true
  | t :: ts, .Name x _ :: ns => decide (x = nmT t) && memS Y.bl x && glB sc x && ckTy Y sc ts ns
  | _, _ => false
def ckGs (Y : Stat) (sc : Scope) (fc : Str → Bool) : List Nat → List Expr → Bool
  | [], [] => true
  | i :: is, .Name x _ :: ns => decide (Y.N[i]? = some x) && locB sc x && hfB sc fc x && ckGs Y sc fc is ns
  | _, _ => false
def ckG (Y : Stat) (sc : Scope) (fc : Str → Bool) (t : T) (e : Expr) : Bool := match t, e with
  | .nm i, .Name x _ => decide (Y.N[i]? = some x) && locB sc x && hfB sc fc x
  | .tp is, .Tuple es _ _ => ckGs Y sc fc is es
  | _, _ => false
def isTupE : Expr → Bool
  | .Tuple .. => true
  | _ => false
def bfOk (Y : Stat) (f : BF) : Bool := match f with
  | .gcd => Y.gcd
  | f => memS Y.bl (nmF f)
def memK (l : List (Nat × Str × List Str × List Nat)) (k : Nat) (x : Str) (ks : List Str) (pm : List Nat) : Bool := l.any fun p => decide (p = (k, x, ks, pm))
mutual
def ckE (Y : Stat) : E → Scope → (Str → Bool) → Expr → Bool
  | .c d, _, _, e => match e with
    | .Constant c _ _ => ckC d c
    | _ => false
  | .v i, sc, _, e => match e with
    | .Name x _ => decide (Y.N[i]? = some x) && visB sc x && nmB x
    | _ => false
  | .g k, sc, _, e => match e with
    | .Name x _ => memP Y.cns k x && glB sc x && nmB x
    | _ => false
  | .bin o x y, sc, fc, e => match e with
    | .BinOp a op b _ => decide (op = opB o) && ckE Y x sc fc a && ckE Y y sc fc b
    | _ => false
  | .neg x, sc, fc, e => match e with
    | .UnaryOp .USub a _ => ckE Y x sc fc a
    | _ => false
  | .not x, sc, fc, e => match e with
    | .UnaryOp .Not a _ => notIf a && ckE Y x sc fc a
    | _ => false
  | .and x y, sc, fc, e => match e with
    | .BoolOp .And (a :: b :: r) _ => notIf a && ckE Y x sc fc a && ckB Y true y sc fc (b :: r)
    | _ => false
  | .or x y, sc, fc, e => match e with
    | .BoolOp .Or (a :: b :: r) _ => notIf a && ckE Y x sc fc a && ckB Y false y sc fc (b :: r)
    | _ => false
  | .last _, _, _, _ => false
  | .nil, _, _, _ => false
  | .cmp o x y, sc, fc, e => match e with
    | .Compare a [op] [b] _ => decide (op = opC o) && notSet b && ckE Y x sc fc a && ckE Y y sc fc b
    | _ => false
  | .chain o q x y z, sc, fc, e => match e with
    | .Compare a [op, oq] [b, c] _ => decide (op = opC o) && decide (oq = opC q) && notSet c && ckE Y x sc fc a && ckE Y y sc fc b && ckE Y z sc fc c
    | _ => false
  | .ite t x y, sc, fc, e => match e with
    | .IfExp c a b _ => notIf c && ckE Y t sc fc c && ckE Y x sc fc a && ckE Y y sc fc b
    | _ => false
  | .tup es, sc, fc, e => match e with
    | .Tuple ns _ _ => ckL Y es sc fc ns
    | _ => false
  | .lst es, sc, fc, e => match e with
    | .List ns _ => ckL Y es sc fc ns
    | _ => false
  | .dct es, sc, fc, e => match e with
    | .Dict [] [] _ => es.isEmpty
    | .Dict (k :: kr) ns _ => decide ((k :: kr).length = ns.length) && decide ((k :: kr).length ≤ 15) && (k :: kr).all (·.isSome) && ckD Y es sc fc (k :: kr) ns
    | _ => false
  | .ix x y, sc, fc, e => match e with
    | .Subscript a b _ => notSlice b && ckE Y x sc fc a && ckE Y y sc fc b
    | _ => false
  | .sl x l h, sc, fc, e => match e with
    | .Subscript a (.Slice lo hi none _) _ => ckE Y x sc fc a && ckP Y l sc fc lo && ckP Y h sc fc hi
    | _ => false
  | .call f es, sc, fc, e => match e with
    | .Call (.Name x _) ns [] _ => memP Y.fns f x && glB sc x && nmB x && ckL Y es sc fc ns
    | _ => false
  | .blt f es, sc, fc, e => match e with
    | .Call (.Name x _) (n :: ns) [] _ => decide (x = nmF f) && bfOk Y f && glB sc x && ckL Y es sc fc (n :: ns)
    | _ => false
  | .isi x ts many, sc, fc, e => match e with
    | .Call (.Name f _) [a, b] [] _ => decide (f = ("isinstance" : Str)) && memS Y.bl "isinstance" && glB sc "isinstance" && notStar a && ckE Y x sc fc a && (match b with
        | .Tuple ns _ _ => many && decide (ts.length ≤ 100) && ckTy Y sc ts ns
        | b => !many && decide (ts.length = 1) && ckTy Y sc ts [b])
    | _ => false
  | .ixo i y, sc, fc, e => match e with
    | .Subscript (.Name x _) b _ => decide (Y.N[i]? = some x) && visB sc x && nmB x && notSlice b && ckE Y y sc fc b
    | _ => false
  | .leno i, sc, _, e => match e with
    | .Call (.Name f _) [.Name x _] [] _ => decide (f = ("len" : Str)) && memS Y.bl "len" && glB sc "len" && decide (Y.N[i]? = some x) && visB sc x && nmB x
    | _ => false
  | .lc own t it c el, sc, fc, e => match e with
    | .ListComp elt [⟨tg, iter, ifs, 0⟩] scope _ => notSet iter && blkC Y.N sc scope own && ckI Y it sc fc tg iter && ckG Y (relS scope sc) (fun x => scope.names.lookup x == some .cell) t tg &&
        (match ifs with | [] => (match c with | .c (.bl true) => true | _ => false) | [n] => notIf n && ckE Y c (relS scope sc) (fun x => scope.names.lookup x == some .cell) n | _ => false) &&
        ckE Y el (relS scope sc) (fun x => scope.names.lookup x == some .cell) elt && (tixs t).all (fun i => (own.map (·.2)).contains i)
    | _ => false
  | .callK f ks pm es, sc, fc, e => match e with
    | .Call (.Name x _) [] kws _ => memK Y.kws f x ks pm && glB sc x && nmB x && decide (kws.filterMap (·.arg) = ks) && kws.all (fun k => k.arg.isSome) && ckK Y es sc fc kws
    | _ => false
  | .mk f es, sc, fc, e => match e with
    | .Call (.Name x _) (n :: ns) [] _ => memP Y.mks f x && glB sc x && nmB x && ckL Y es sc fc (n :: ns)
    | _ => false
  | .fld a f, sc, fc, e => match e with
    | .Attribute n g _ => decide (g = f) && plainBase n && ckE Y a sc fc n
    | _ => false
  | .mth a m es, sc, fc, e => match e with
    | .Call (.Attribute n g ap) ns [] pos => decide (g = m) && plainBase n && (ap.endLine == pos.line) && decide (ns.length < 30) && ckE Y a sc fc n && ckL Y es sc fc ns
    | _ => false
  | .prp a f, sc, fc, e => match e with
    | .Attribute n g _ => decide (g = f) && plainBase n && ckE Y a sc fc n
    | _ => false
  | .join a b, sc, fc, e => match e with
    | .Call (.Attribute n g ap) [m] [] pos => decide (g = ("join" : Str)) && plainBase n && (ap.endLine == pos.line) && notStar m && ckE Y a sc fc n && ckE Y b sc fc m
    | _ => false
  | .sidx a b, sc, fc, e => match e with
    | .Call (.Attribute n g ap) [m] [] pos => decide (g = ("index" : Str)) && plainBase n && (ap.endLine == pos.line) && notStar m && ckE Y a sc fc n && ckE Y b sc fc m
    | _ => false
  | .u2 o a b, sc, fc, e => match o with
    | .cnt => (match e with
      | .Call (.Attribute n g ap) [m] [] pos => decide (g = ("count" : Str)) && plainBase n && (ap.endLine == pos.line) && notStar m && ckE Y a sc fc n && ckE Y b sc fc m
      | _ => false)
  | .srt f rev a, sc, fc, e => match e with
    | .Call (.Name x _) [n] [⟨some kn, .Name g _, _⟩] _ => !rev && decide (x = ("sorted" : Str)) && memS Y.bl x && glB sc x && decide (kn = ("key" : Str)) && memP Y.srts f g && glB sc g && nmB g && notStar n && ckE Y a sc fc n
    | .Call (.Name x _) [n] [⟨some kn, .Name g _, _⟩, ⟨some rn, .Constant (.bool b) _ _, _⟩] _ => (b == rev) && decide (rn = ("reverse" : Str)) && decide (x = ("sorted" : Str)) && memS Y.bl x && glB sc x && decide (kn = ("key" : Str)) && memP Y.srts f g && glB sc g && nmB g && notStar n && ckE Y a sc fc n
    | _ => false
  | .same x y, sc, fc, e => match e with
    | .Compare a [.Eq] [b] _ => notSet b && ckE Y x sc fc a && ckE Y y sc fc b
    | _ => false
  | .u1 o a, sc, fc, e => match o with
    | .upper => (match e with
      | .Call (.Attribute n g ap) [] [] pos => decide (g = ("upper" : Str)) && plainBase n && (ap.endLine == pos.line) && ckE Y a sc fc n
      | _ => false)
    | .rev => (match e with
      | .Subscript n (.Slice none none (some (.UnaryOp .USub (.Constant (.int 1) _ _) _)) _) _ => ckE Y a sc fc n
      | _ => false)
    | .sset => (match e with
      | .Call (.Name x _) [.Call (.Name y _) [n] [] _] [] _ => decide (x = ("sorted" : Str)) && decide (y = ("set" : Str)) && decide (x ∈ Y.bl) && decide (y ∈ Y.bl) && glB sc x && glB sc y && notStar n && ckE Y a sc fc n
      | _ => false)
  | .dget a b, sc, fc, e => match e with
    | .Call (.Attribute n g ap) [m] [] pos => decide (g = ("get" : Str)) && plainBase n && (ap.endLine == pos.line) && notStar m && ckE Y a sc fc n && ckE Y b sc fc m
    | _ => false
  | .ino neg a i, sc, fc, e => match e with
    | .Compare n [op] [.Name x _] _ => decide (op = if neg then .NotIn else .In) && decide (Y.N[i]? = some x) && visB sc x && nmB x && ckE Y a sc fc n
    | _ => false
  | .seq _, _, _, _ => false
  | .r1 _, _, _, _ => false
  | .r2 _ _, _, _, _ => false
  | .enum _, _, _, _ => false
  | .zip _ _, _, _, _ => false
def ckB (Y : Stat) (isAnd : Bool) : E → Scope → (Str → Bool) → List Expr → Bool
  | .last x, sc, fc, es => match es with
    | [a] => notIf a && ckE Y x sc fc a
    | _ => false
  | .and x y, sc, fc, es => match es with
    | a :: b :: r => isAnd && notIf a && ckE Y x sc fc a && ckB Y isAnd y sc fc (b :: r)
    | _ => false
  | .or x y, sc, fc, es => match es with
    | a :: b :: r => !isAnd && notIf a && ckE Y x sc fc a && ckB Y isAnd y sc fc (b :: r)
    | _ => false
  | _, _, _, _ => false
def ckP (Y : Stat) : E → Scope → (Str → Bool) → Option Expr → Bool
  | .nil, _, _, o => o.isNone
  | .last x, sc, fc, o => match o with
    | some n => ckE Y x sc fc n
    | none => false
  | _, _, _, _ => false
def ckI (Y : Stat) : E → Scope → (Str → Bool) → Expr → Expr → Bool
  | .seq x, sc, fc, _, e => ckE Y x sc fc e
  | .r1 x, sc, fc, _, e => match e with
    | .Call (.Name f _) [a] [] _ => decide (f = ("range" : Str)) && memS Y.bl "range" && glB sc "range" && notStar a && ckE Y x sc fc a
    | _ => false
  | .r2 x y, sc, fc, _, e => match e with
    | .Call (.Name f _) [a, b] [] _ => decide (f = ("range" : Str)) && memS Y.bl "range" && glB sc "range" && notStar a && notStar b && ckE Y x sc fc a && ckE Y y sc fc b
    | _ => false
  | .enum x, sc, fc, tg, e => match e with
    | .Call (.Name f _) [a] [] _ => isTupE tg && decide (f = ("enumerate" : Str)) && memS Y.bl "enumerate" && glB sc "enumerate" && notStar a && ckE Y x sc fc a
    | _ => false
  | .zip x y, sc, fc, tg, e => match e with
    | .Call (.Name f _) [a, b] [] _ => isTupE tg && decide (f = ("zip" : Str)) && memS Y.bl "zip" && glB sc "zip" && notStar a && notStar b && ckE Y x sc fc a && ckE Y y sc fc b
    | _ => false
  | _, _, _, _, _ => false
def ckL (Y : Stat) : List E → Scope → (Str → Bool) → List Expr → Bool
  | [], _, _, ns => ns.isEmpty
  | x :: xs, sc, fc, ns => match ns with
    | n :: r => notStar n && ckE Y x sc fc n && ckL Y xs sc fc r
    | [] => false
def ckK (Y : Stat) : List E → Scope → (Str → Bool) → List Keyword → Bool
  | [], _, _, ns => ns.isEmpty
  | x :: xs, sc, fc, ns => match ns with
    | n :: r => ckE Y x sc fc n.value && ckK Y xs sc fc r
    | [] => false
def ckD (Y : Stat) : List E → Scope → (Str → Bool) → List (Option Expr) → List Expr → Bool
  | [], _, _, kn, ns => kn.isEmpty && ns.isEmpty
  | [_], _, _, _, _ => false
  | x :: y :: xs, sc, fc, kn, ns => match kn, ns with
    | some k :: kr, n :: r => ckE Y x sc fc k && ckE Y y sc fc n && ckD Y xs sc fc kr r
    | _, _ => false
end
section
variable {Y : Stat} {sc : Scope} {fc : Str → Bool}
theorem ckGs_ok : ∀ {is : List Nat} {ns : List Expr}, ckGs Y sc fc is ns = true → SGs Y sc fc ns is ∧ ns.all notStar = true ∧ ns.length = is.length
  | [], [], _ => ⟨sgs_nil, rfl, rfl⟩
  | [], _ :: _, h => by simp [ckGs] at h
  | i :: is, [], h => by simp [ckGs] at h
  | i :: is, n :: ns, h => by
    unfold ckGs at h
    split at h
    · cases ‹_ = []›
    · rename_i i' is' x p ns' e1 e2
      cases e1
      cases e2
      simp only [Bool.and_eq_true, decide_eq_true_eq] at h
      obtain ⟨⟨⟨h1, h2⟩, h3⟩, h4⟩ := h
      obtain ⟨a1, a2, a3⟩ := ckGs_ok h4
      exact ⟨sgs_cons h1 (locB_ok h2) h3 a1, by simp [a2, notStar], by simp [a3]⟩
    · cases h
theorem ckG_ok {t : T} {e : Expr} (h : ckG Y sc fc t e = true) : SG Y sc fc e t := by
  unfold ckG at h
  split at h
  · simp only [Bool.and_eq_true, decide_eq_true_eq] at h
    exact sg_nm h.1.1 (locB_ok h.1.2) h.2
  · obtain ⟨a1, a2, a3⟩ := ckGs_ok h
    exact sg_tp a2 a3 a1
  · cases h
theorem ckTy_ok : ∀ {ts : List Ty} {ns : List Expr}, ckTy Y sc ts ns = true → ns.length = ts.length ∧ ∀ (i : Nat) n t, ns[i]? = some n → ts[i]? = some t → ∃ q, n = Expr.Name (nmT t) q ∧ nmT t ∈ Y.bl ∧ sc.names.lookup (nmT t) = some .globalImplicit
  | [], [], _ => ⟨rfl, fun i n t h => by simp at h⟩
  | [], _ :: _, h => by simp [ckTy] at h
  | t :: ts, [], h => by simp [ckTy] at h
  | t :: ts, n :: ns, h => by
    unfold ckTy at h
    split at h
    · cases ‹_ = []›
    · rename_i t' ts' x p ns' e1 e2
      cases e1
      cases e2
      simp only [Bool.and_eq_true, decide_eq_true_eq] at h
      obtain ⟨⟨⟨h1, h2⟩, h3⟩, h4⟩ := h
      subst h1
      obtain ⟨a1, a2⟩ := ckTy_ok h4
      refine ⟨by simp [a1], fun i n t hn ht => ?_⟩
      cases i with
      | zero =>
        simp at hn ht
        subst hn ht
        exact ⟨p, rfl, memS_ok h2, glB_ok h3⟩
      | succ i => exact a2 i n t (by simpa using hn) (by simpa using ht)
    · cases h
end
end Pv

set_option Elab.async false
set_option linter.all false
set_option maxRecDepth 100000
set_option maxHeartbeats 4000000

namespace Pv
open PySem PySem.Spec L2

/-! ### what the checker says is so -/
section
variable (Y : Stat)
def OkE (ir : E) : Prop := ∀ sc fc e, ckE Y ir sc fc e = true → SE Y sc fc e (evE Y.Z ir) ∧ (notIf e = true → ST Y sc fc e (fun τ => (evE Y.Z ir τ).bind truth))
end
theorem tr_bl {o : Option Bool} : (o.map D.bl).bind truth = o := by cases o <;> rfl
theorem ckC_ok {Y : Stat} {sc : Scope} {fc : Str → Bool} {d : D} {c : Const} {k : Nat} {p : Pos} (h : ckC d c = true) : SE Y sc fc (.Constant c k p) (fun _ => some d) := by
  unfold ckC at h
  split at h
  · have := of_decide_eq_true h; subst this; exact se_int
  · rename_i b b'
    have : b = b' := by simpa using h
    subst this; exact se_bl
  · exact se_non
  · have := of_decide_eq_true h; subst this; exact se_str
  · cases h
theorem bf_ok {Y : Stat} {f : BF} (h : bfOk Y f = true) : (f = .gcd → Y.gcd = true) ∧ (f ≠ .gcd → nmF f ∈ Y.bl) := by
  cases f <;> first
    | exact ⟨fun _ => h, fun z => absurd rfl z⟩
    | exact ⟨fun z => (by cases z), fun _ => memS_ok h⟩
section
variable {Y : Stat} {sc : Scope} {fc : Str → Bool}
/-- a name, a call .. : its test is its value's truth -/
theorem both {e : Expr} {f : List Sl → Option D} (h : SE Y sc fc e f) (hp : plainTest e = true) : SE Y sc fc e f ∧ (notIf e = true → ST Y sc fc e (fun τ => (f τ).bind truth)) := ⟨h, fun _ => st_of h hp⟩
theorem and_imp {x y : Option D} {b : Bool} (h : ((x.bind blD).bind fun k => bif k then y else some (D.bl false)).bind truth = some b) : ((x.bind truth).bind fun k => bif k then y.bind truth else some false) = some b := by
  obtain ⟨d, h1, h2⟩ := bnd h
  obtain ⟨k, h3, h4⟩ := bnd h1
  obtain ⟨z, h5, h6⟩ := bnd h3
  have := blD_some h6
  subst this
  rw [h5]
  cases k with
  | true =>
    have h4' : y = some d := h4
    show y.bind truth = some b
    rw [h4']; exact h2
  | false =>
    cases h4
    exact h2
theorem or_imp {x y : Option D} {b : Bool} (h : ((x.bind blD).bind fun k => bif k then some (D.bl true) else y).bind truth = some b) : ((x.bind truth).bind fun k => bif k then some true else y.bind truth) = some b := by
  obtain ⟨d, h1, h2⟩ := bnd h
  obtain ⟨k, h3, h4⟩ := bnd h1
  obtain ⟨z, h5, h6⟩ := bnd h3
  have := blD_some h6
  subst this
  rw [h5]
  cases k with
  | false =>
    have h4' : y = some d := h4
    show y.bind truth = some b
    rw [h4']; exact h2
  | true =>
    cases h4
    exact h2
end
section
variable {Y : Stat} {sc : Scope} {fc : Str → Bool} {a : Expr} {pos : Pos} {f : List Sl → Option D}
theorem st_neg (ha : SE Y sc fc (.UnaryOp .USub a pos) f) : ST Y sc fc (.UnaryOp .USub a pos) (fun τ => (f τ).bind truth) := by
  refine ⟨fun X ok H0 G0 G W H τ σ d w s h Q q => ?_⟩
  obtain ⟨x, hx, h⟩ := bnd h
  refine ⟨_, pt_truth pe_tu (fun _ => rfl), ?_⟩
  refine ha.run X ok _ _ _ _ _ _ _ _ w s hx _ fun v G1 H1 e1 w1 dv => ?_
  exact ⟨_, tru_run h dv w1.gh, q _ _ e1 w1⟩
end
theorem memK_ok {l : List (Nat × Str × List Str × List Nat)} {k : Nat} {x : Str} {ks : List Str} {pm : List Nat} (h : memK l k x ks pm = true) : (k, x, ks, pm) ∈ l := by
  unfold memK at h
  rw [List.any_eq_true] at h
  obtain ⟨p, hp, e⟩ := h
  rw [decide_eq_true_eq] at e
  rw [← e]
  exact hp
theorem evL_len {Z : Sm} : ∀ {es : List E} {τ : List Sl} {ds : List D}, evL Z es τ = some ds → ds.length = es.length
  | [], τ, ds, h => by unfold evL at h; cases h; rfl
  | e :: es, τ, ds, h => by
    unfold evL at h
    obtain ⟨d, _, h⟩ := bnd h
    obtain ⟨ds', h2, rfl⟩ := mpd h
    simp [evL_len h2]
theorem kw_count : ∀ {kws : List Keyword}, kws.all (fun k => k.arg.isSome) = true → (kws.filterMap (·.arg)).length = kws.length
  | [], _ => rfl
  | ⟨n, e, p⟩ :: r, h => by
    simp only [List.all_cons, Bool.and_eq_true] at h
    cases n with
    | none => simp at h
    | some n => simp [kw_count h.2]
theorem ckL_len (Y : Stat) : ∀ (xs : List E) (sc : Scope) (fc : Str → Bool) (ns : List Expr), ckL Y xs sc fc ns = true → xs.length = ns.length
  | [], sc, fc, ns, h => by
    unfold ckL at h
    have : ns = [] := by simpa using h
    subst this
    rfl
  | x :: xs, sc, fc, ns, h => by
    unfold ckL at h
    split at h
    · simp only [Bool.and_eq_true] at h
      simp [ckL_len Y xs _ _ _ h.2]
    · cases h
mutual
theorem ckE_ok (Y : Stat) : ∀ (ir : E) (sc : Scope) (fc : Str → Bool) (e : Expr), ckE Y ir sc fc e = true → SE Y sc fc e (evE Y.Z ir) ∧ (notIf e = true → ST Y sc fc e (fun τ => (evE Y.Z ir τ).bind truth))
  | .c d, sc, fc, e, h => by
    unfold ckE at h
    split at h
    · exact both (by exact ckC_ok h) rfl
    · cases h
  | .v i, sc, fc, e, h => by
    unfold ckE at h
    split at h
    · simp only [Bool.and_eq_true, decide_eq_true_eq] at h
      exact both (by exact se_var h.1.1 (visB_ok h.1.2) (nmB_ok h.2).1 (nmB_ok h.2).2) rfl
    · cases h
  | .g k, sc, fc, e, h => by
    unfold ckE at h
    split at h
    · simp only [Bool.and_eq_true] at h
      exact both (by exact se_glob (memP_ok h.1.1) (glB_ok h.1.2) (nmB_ok h.2).1) rfl
    · cases h
  | .bin o x y, sc, fc, e, h => by
    unfold ckE at h
    split at h
    · simp only [Bool.and_eq_true, decide_eq_true_eq] at h
      obtain ⟨⟨h1, h2⟩, h3⟩ := h
      subst h1
      exact both (by exact se_bin (ckE_ok Y x _ _ _ h2).1 (ckE_ok Y y _ _ _ h3).1) rfl
    · cases h
  | .neg x, sc, fc, e, h => by
    unfold ckE at h
    split at h
    · exact ⟨by exact se_neg (ckE_ok Y x _ _ _ h).1, fun _ => st_neg (by exact se_neg (ckE_ok Y x _ _ _ h).1)⟩
    · cases h
  | .not x, sc, fc, e, h => by
    unfold ckE at h
    split at h
    · simp only [Bool.and_eq_true] at h
      have ih := ckE_ok Y x _ _ _ h.2
      refine ⟨by exact se_not ih.1, fun _ => (st_not (ih.2 h.1)).imp fun τ b hb => ?_⟩
      unfold evE at hb
      cases hx : (evE Y.Z x τ).bind truth with
      | none => rw [hx] at hb; cases hb
      | some k => rw [hx] at hb; exact hb
    · cases h
  | .and x y, sc, fc, e, h => by
    unfold ckE at h
    split at h
    · simp only [Bool.and_eq_true] at h
      have i1 := ckE_ok Y x _ _ _ h.1.2
      have i2 := ckBa_ok Y y _ _ _ h.2
      refine ⟨by exact se_and i1.1 (i2.1 _), fun _ => (sw_and (i1.2 h.1.1) (i2.2 _)).st.imp fun τ b hb => ?_⟩
      unfold evE at hb
      exact and_imp hb
    · cases h
  | .or x y, sc, fc, e, h => by
    unfold ckE at h
    split at h
    · simp only [Bool.and_eq_true] at h
      have i1 := ckE_ok Y x _ _ _ h.1.2
      have i2 := ckBo_ok Y y _ _ _ h.2
      refine ⟨by exact se_or i1.1 (i2.1 _), fun _ => (sw_or (i1.2 h.1.1) (i2.2 _)).st.imp fun τ b hb => ?_⟩
      unfold evE at hb
      exact or_imp hb
    · cases h
  | .last x, sc, fc, e, h => by unfold ckE at h; cases h
  | .nil, sc, fc, e, h => by unfold ckE at h; cases h
  | .cmp o x y, sc, fc, e, h => by
    unfold ckE at h
    split at h
    · simp only [Bool.and_eq_true, decide_eq_true_eq] at h
      obtain ⟨⟨⟨h1, h2⟩, h3⟩, h4⟩ := h
      subst h1
      have i1 := (ckE_ok Y x _ _ _ h3).1
      have i2 := (ckE_ok Y y _ _ _ h4).1
      refine ⟨by exact se_cmp i1 i2 h2, fun _ => (st_cmp i1 i2 h2).imp fun τ b hb => ?_⟩
      unfold evE at hb
      obtain ⟨d, hb, ht⟩ := bnd hb
      obtain ⟨u, hu, hb⟩ := bnd hb
      obtain ⟨v, hv, hb⟩ := bnd hb
      obtain ⟨k, hk, rfl⟩ := mpd hb
      cases ht
      rw [hu, hv]; exact hk
    · cases h
  | .chain o q x y z, sc, fc, e, h => by
    unfold ckE at h
    split at h
    · simp only [Bool.and_eq_true, decide_eq_true_eq] at h
      obtain ⟨⟨⟨⟨⟨h1, h2⟩, h3⟩, h4⟩, h5⟩, h6⟩ := h
      subst h1 h2
      have i1 := (ckE_ok Y x _ _ _ h4).1
      have i2 := (ckE_ok Y y _ _ _ h5).1
      have i3 := (ckE_ok Y z _ _ _ h6).1
      refine ⟨by exact se_chain i1 i2 i3 h3, fun _ => (st_chain i1 i2 i3 h3).imp fun τ b hb => ?_⟩
      unfold evE at hb
      obtain ⟨d, hb, ht⟩ := bnd hb
      obtain ⟨u, hu, hb⟩ := bnd hb
      obtain ⟨v, hv, hb⟩ := bnd hb
      obtain ⟨k, hk, hb⟩ := bnd hb
      rw [hu, hv]
      show ((cmpD o u v).bind _) = _
      rw [hk]
      cases k with
      | false => cases hb; exact ht
      | true =>
        obtain ⟨w, hw, hb⟩ := bnd hb
        obtain ⟨m, hm, rfl⟩ := mpd hb
        cases ht
        show ((evE Y.Z z τ).bind _) = _
        rw [hw]; exact hm
    · cases h
  | .ite t x y, sc, fc, e, h => by
    unfold ckE at h
    split at h
    · simp only [Bool.and_eq_true] at h
      obtain ⟨⟨⟨h1, h2⟩, h3⟩, h4⟩ := h
      exact ⟨by exact se_ite ((ckE_ok Y t _ _ _ h2).2 h1) (ckE_ok Y x _ _ _ h3).1 (ckE_ok Y y _ _ _ h4).1, fun z => by simp [notIf] at z⟩
    · cases h
  | .tup es, sc, fc, e, h => by
    unfold ckE at h
    split at h
    · exact both (by exact se_tup (ckL_ok Y es _ _ _ h).1) rfl
    · cases h
  | .lst es, sc, fc, e, h => by
    unfold ckE at h
    split at h
    · exact both (by exact se_lst (ckL_ok Y es _ _ _ h).1) rfl
    · cases h
  | .dct es, sc, fc, e, h => by
    unfold ckE at h
    split at h
    · have : es = [] := by simpa using h
      subst this
      exact both (by exact se_dct0) rfl
    · simp only [Bool.and_eq_true, decide_eq_true_eq] at h
      obtain ⟨⟨⟨h1, h2⟩, h3⟩, h4⟩ := h
      exact both (by exact se_dct (by simp) h3 h1 h2 (ckD_ok Y es _ _ _ _ _ h4)) rfl
    · cases h
  | .ix x y, sc, fc, e, h => by
    unfold ckE at h
    split at h
    · simp only [Bool.and_eq_true] at h
      exact both (by exact se_ix (ckE_ok Y x _ _ _ h.1.2).1 (ckE_ok Y y _ _ _ h.2).1 h.1.1) rfl
    · cases h
  | .sl x l u, sc, fc, e, h => by
    unfold ckE at h
    split at h
    · simp only [Bool.and_eq_true] at h
      obtain ⟨⟨h1, h2⟩, h3⟩ := h
      exact both (by exact se_sl (ckE_ok Y x _ _ _ h1).1 (ckP_ok Y l _ _ _ h2) (ckP_ok Y u _ _ _ h3)) rfl
    · cases h
  | .call f es, sc, fc, e, h => by
    unfold ckE at h
    split at h
    · rename_i x p ns pos
      simp only [Bool.and_eq_true] at h
      obtain ⟨⟨⟨h1, h2⟩, h3⟩, h4⟩ := h
      have ih := ckL_ok Y es _ _ _ h4
      cases ns with
      | nil =>
        refine both ((se_call0 (memP_ok h1) (glB_ok h2) (nmB_ok h3).1).imp fun τ b hb => ?_) rfl
        have : es = [] := by
          cases es with
          | nil => rfl
          | cons x r => unfold ckL at h4; cases h4
        subst this
        unfold evE evL at hb
        exact hb
      | cons a r => exact both (by exact se_call (memP_ok h1) (glB_ok h2) (nmB_ok h3).1 ih.2 ih.1) rfl
    · cases h
  | .blt f es, sc, fc, e, h => by
    unfold ckE at h
    split at h
    · simp only [Bool.and_eq_true, decide_eq_true_eq] at h
      obtain ⟨⟨⟨h1, h2⟩, h3⟩, h4⟩ := h
      subst h1
      have ih := ckL_ok Y es _ _ _ h4
      exact both (by exact se_blt (bf_ok h2).1 (bf_ok h2).2 (glB_ok h3) ih.2 ih.1) rfl
    · cases h
  | .isi x ts many, sc, fc, e, h => by
    unfold ckE at h
    split at h
    · simp only [Bool.and_eq_true, decide_eq_true_eq] at h
      obtain ⟨⟨⟨⟨⟨h1, h2⟩, h3⟩, h4⟩, h5⟩, h6⟩ := h
      subst h1
      have ih := (ckE_ok Y x _ _ _ h5).1
      refine both ?_ rfl
      split at h6
      · simp only [Bool.and_eq_true, decide_eq_true_eq] at h6
        obtain ⟨⟨_, l1⟩, l2⟩ := h6
        obtain ⟨m1, m2⟩ := ckTy_ok l2
        exact se_isit (memS_ok h2) (glB_ok h3) m1 l1 m2 h4 ih
      · simp only [Bool.and_eq_true, decide_eq_true_eq] at h6
        obtain ⟨⟨_, l1⟩, l2⟩ := h6
        obtain ⟨m1, m2⟩ := ckTy_ok l2
        match ts, l1 with
        | [t], _ =>
          obtain ⟨q, rfl, hb, hg⟩ := m2 0 _ t rfl rfl
          exact se_isi (memS_ok h2) (glB_ok h3) hb hg h4 ih
    · cases h
  | .ixo i y, sc, fc, e, h => by
    unfold ckE at h
    split at h
    · simp only [Bool.and_eq_true, decide_eq_true_eq] at h
      obtain ⟨⟨⟨⟨h1, h2⟩, h3⟩, h4⟩, h5⟩ := h
      exact both (by exact se_ixo h1 (visB_ok h2) (nmB_ok h3).1 (nmB_ok h3).2 (ckE_ok Y y _ _ _ h5).1 h4) rfl
    · cases h
  | .leno i, sc, fc, e, h => by
    unfold ckE at h
    split at h
    · simp only [Bool.and_eq_true, decide_eq_true_eq] at h
      obtain ⟨⟨⟨⟨⟨h0, h1⟩, h2⟩, h3⟩, h4⟩, h5⟩ := h
      subst h0
      exact both (by exact se_leno h3 (visB_ok h4) (nmB_ok h5).1 (nmB_ok h5).2 (memS_ok h1) (glB_ok h2)) rfl
    · cases h
  | .lc own t it c el, sc, fc, e, h => by
    unfold ckE at h
    split at h
    · simp only [Bool.and_eq_true] at h
      obtain ⟨⟨⟨⟨⟨⟨h1, h2⟩, h3⟩, h4⟩, h5⟩, h6⟩, h7⟩ := h
      refine both ?_ rfl
      refine se_lc (ckI_ok Y it _ _ _ _ h3) h1 h2 (ckG_ok h4) ?_ (ckE_ok Y el _ _ _ h6).1 (by simpa using h7)
      split at h5
      · split at h5
        · exact scs_nil
        · cases h5
      · simp only [Bool.and_eq_true] at h5
        exact scs_one ((ckE_ok Y c _ _ _ h5.2).2 h5.1)
      · cases h5
    · cases h
  | .callK f ks pm es, sc, fc, e, h => by
    unfold ckE at h
    split at h
    · simp only [Bool.and_eq_true, decide_eq_true_eq] at h
      obtain ⟨⟨⟨⟨⟨h1, h2⟩, h3⟩, h4⟩, h5⟩, h6⟩ := h
      obtain ⟨i1, i2⟩ := ckK_ok Y es _ _ _ h6
      have hl : ∀ τ ds, evL Y.Z es τ = some ds → ds.length = ks.length := fun τ ds hd => by rw [evL_len hd, i2, ← h4, kw_count h5]
      exact both (by exact se_callK (memK_ok h1) (glB_ok h2) (nmB_ok h3).1 h4 h5 i1 hl) rfl
    · cases h
  | .mk f es, sc, fc, e, h => by
    unfold ckE at h
    split at h
    · simp only [Bool.and_eq_true] at h
      obtain ⟨⟨⟨h1, h2⟩, h3⟩, h4⟩ := h
      have ih := ckL_ok Y es _ _ _ h4
      exact both (by exact se_mk (memP_ok h1) (glB_ok h2) (nmB_ok h3).1 ih.2 ih.1) rfl
    · cases h
  | .fld a f, sc, fc, e, h => by
    unfold ckE at h
    split at h
    · simp only [Bool.and_eq_true, decide_eq_true_eq] at h
      obtain ⟨⟨h1, h2⟩, h3⟩ := h
      subst h1
      exact both (by exact se_fld h2 (ckE_ok Y a _ _ _ h3).1) rfl
    · cases h
  | .mth a m es, sc, fc, e, h => by
    unfold ckE at h
    split at h
    · simp only [Bool.and_eq_true, decide_eq_true_eq] at h
      obtain ⟨⟨⟨⟨⟨h1, h2⟩, h3⟩, h4⟩, h5⟩, h6⟩ := h
      subst h1
      have ih := ckL_ok Y es _ _ _ h6
      have hl : ∀ ns' : List Expr, ckL Y es sc fc ns' = true → ns' = [] → ∀ τ ds, evL Y.Z es τ = some ds → ds = [] := fun ns' h' e0 τ ds hd => by
        have l := evL_len hd
        have l2 := ckL_len Y es _ _ _ h'
        rw [e0] at l2
        rw [l2] at l
        exact List.eq_nil_of_length_eq_zero l
      exact both (by exact se_mth h2 h3 h4 (ckE_ok Y a _ _ _ h5).1 ih.2 ih.1 (hl _ h6)) rfl
    · cases h
  | .prp a f, sc, fc, e, h => by
    unfold ckE at h
    split at h
    · simp only [Bool.and_eq_true, decide_eq_true_eq] at h
      obtain ⟨⟨h1, h2⟩, h3⟩ := h
      subst h1
      exact both (by exact se_prp h2 (ckE_ok Y a _ _ _ h3).1) rfl
    · cases h
  | .join a b, sc, fc, e, h => by
    unfold ckE at h
    split at h
    · simp only [Bool.and_eq_true, decide_eq_true_eq] at h
      obtain ⟨⟨⟨⟨⟨h1, h2⟩, h3⟩, h4⟩, h5⟩, h6⟩ := h
      subst h1
      exact both (by exact se_join h2 h3 h4 (ckE_ok Y a _ _ _ h5).1 (ckE_ok Y b _ _ _ h6).1) rfl
    · cases h
  | .sidx a b, sc, fc, e, h => by
    unfold ckE at h
    split at h
    · simp only [Bool.and_eq_true, decide_eq_true_eq] at h
      obtain ⟨⟨⟨⟨⟨h1, h2⟩, h3⟩, h4⟩, h5⟩, h6⟩ := h
      subst h1
      exact both (by exact se_sidx h2 h3 h4 (ckE_ok Y a _ _ _ h5).1 (ckE_ok Y b _ _ _ h6).1) rfl
    · cases h
  | .u2 .cnt a b, sc, fc, e, h => by
    unfold ckE at h
    split at h
    · split at h
      · simp only [Bool.and_eq_true, decide_eq_true_eq] at h
        obtain ⟨⟨⟨⟨⟨h1, h2⟩, h3⟩, h4⟩, h5⟩, h6⟩ := h
        subst h1
        exact both (by exact se_cnt h2 h3 h4 (ckE_ok Y a _ _ _ h5).1 (ckE_ok Y b _ _ _ h6).1) rfl
      · cases h
  | .srt f rev a, sc, fc, e, h => by
    unfold ckE at h
    split at h
    · simp only [Bool.and_eq_true, decide_eq_true_eq] at h
      obtain ⟨⟨⟨⟨⟨⟨⟨⟨⟨h0, h1⟩, h2⟩, h3⟩, h4⟩, h5⟩, h6⟩, h7⟩, h8⟩, h9⟩ := h
      subst h1 h4
      have hr : rev = false := by simpa using h0
      subst hr
      exact both (by exact se_srt0 (memP_ok h5) (memS_ok h2) (glB_ok h3) (glB_ok h6) (nmB_ok h7).1 h8 (ckE_ok Y a _ _ _ h9).1) rfl
    · simp only [Bool.and_eq_true, decide_eq_true_eq] at h
      obtain ⟨⟨⟨⟨⟨⟨⟨⟨⟨⟨h0, hz⟩, h1⟩, h2⟩, h3⟩, h4⟩, h5⟩, h6⟩, h7⟩, h8⟩, h9⟩ := h
      subst h1 h4 hz
      have hr := eq_of_beq h0
      subst hr
      exact both (by exact se_srt1 (memP_ok h5) (memS_ok h2) (glB_ok h3) (glB_ok h6) (nmB_ok h7).1 h8 (ckE_ok Y a _ _ _ h9).1) rfl
    · cases h
  | .same x y, sc, fc, e, h => by
    unfold ckE at h
    split at h
    · simp only [Bool.and_eq_true] at h
      obtain ⟨⟨h1, h2⟩, h3⟩ := h
      have i1 := (ckE_ok Y x _ _ _ h2).1
      have i2 := (ckE_ok Y y _ _ _ h3).1
      refine ⟨by exact se_same i1 i2 h1, fun _ => (st_same i1 i2 h1).imp fun τ b hb => ?_⟩
      unfold evE at hb
      exact hb
    · cases h
  | .u1 o x, sc, fc, e, h => by
    unfold ckE at h
    split at h
    · split at h
      · simp only [Bool.and_eq_true, decide_eq_true_eq] at h
        obtain ⟨⟨⟨h1, h2⟩, h3⟩, h4⟩ := h
        subst h1
        exact both (by exact se_upper h2 h3 (ckE_ok Y x _ _ _ h4).1) rfl
      · cases h
    · split at h
      · exact both (by exact se_rev (ckE_ok Y x _ _ _ h).1) rfl
      · cases h
    · split at h
      · simp only [Bool.and_eq_true, decide_eq_true_eq] at h
        obtain ⟨⟨⟨⟨⟨⟨⟨h1, h2⟩, h3⟩, h4⟩, h5⟩, h6⟩, h7⟩, h8⟩ := h
        subst h1
        subst h2
        exact both (by exact se_sset h3 h4 (glB_ok h5) (glB_ok h6) h7 (ckE_ok Y x _ _ _ h8).1) rfl
      · cases h
  | .dget a b, sc, fc, e, h => by
    unfold ckE at h
    split at h
    · simp only [Bool.and_eq_true, decide_eq_true_eq] at h
      obtain ⟨⟨⟨⟨⟨h1, h2⟩, h3⟩, h4⟩, h5⟩, h6⟩ := h
      subst h1
      exact both (by exact se_dget h2 h3 h4 (ckE_ok Y a _ _ _ h5).1 (ckE_ok Y b _ _ _ h6).1) rfl
    · cases h
  | .ino neg a i, sc, fc, e, h => by
    unfold ckE at h
    split at h
    · simp only [Bool.and_eq_true, decide_eq_true_eq] at h
      obtain ⟨⟨⟨⟨h1, h2⟩, h3⟩, h4⟩, h5⟩ := h
      have ih := (ckE_ok Y a _ _ _ h5).1
      cases neg with
      | false =>
        subst h1
        exact ⟨by exact se_ino h2 (visB_ok h3) (nmB_ok h4).1 (nmB_ok h4).2 ih, fun _ => by exact st_ino h2 (visB_ok h3) (nmB_ok h4).1 (nmB_ok h4).2 ih⟩
      | true =>
        subst h1
        exact ⟨by exact se_nino h2 (visB_ok h3) (nmB_ok h4).1 (nmB_ok h4).2 ih, fun _ => by exact st_nino h2 (visB_ok h3) (nmB_ok h4).1 (nmB_ok h4).2 ih⟩
    · cases h
  | .seq _, sc, fc, e, h => by unfold ckE at h; cases h
  | .r1 _, sc, fc, e, h => by unfold ckE at h; cases h
  | .r2 _ _, sc, fc, e, h => by unfold ckE at h; cases h
  | .enum _, sc, fc, e, h => by unfold ckE at h; cases h
  | .zip _ _, sc, fc, e, h => by unfold ckE at h; cases h
theorem ckBa_ok (Y : Stat) : ∀ (ir : E) (sc : Scope) (fc : Str → Bool) (es : List Expr), ckB Y true ir sc fc es = true → (∀ pos, SE Y sc fc (.BoolOp .And es pos) (evE Y.Z ir)) ∧ (∀ pos, SW Y sc fc (.BoolOp .And es pos) (fun τ => (evE Y.Z ir τ).bind truth))
  | .last x, sc, fc, es, h => by
    unfold ckB at h
    split at h
    · simp only [Bool.and_eq_true] at h
      have ih := ckE_ok Y x _ _ _ h.2
      exact ⟨fun pos => by exact se_one ih.1, fun pos => by exact sw_and1 (ih.2 h.1)⟩
    · cases h
  | .and x y, sc, fc, es, h => by
    unfold ckB at h
    split at h
    · simp only [Bool.and_eq_true] at h
      have i1 := ckE_ok Y x _ _ _ h.1.2
      have i2 := ckBa_ok Y y _ _ _ h.2
      refine ⟨fun pos => by exact se_and i1.1 (i2.1 _), fun pos => ?_⟩
      have := sw_and (pos := pos) (i1.2 h.1.1.2) (i2.2 pos)
      exact ⟨fun X ok H0 G0 G W H τ σ b w s hg Q q => this.run X ok H0 G0 G W H τ σ b w s (by unfold evE at hg; exact and_imp hg) Q q⟩
    · cases h
  | .or x y, sc, fc, es, h => by
    unfold ckB at h
    split at h
    · simp at h
    · cases h
  | .nil, sc, fc, es, h => by unfold ckB at h; cases h
  | .c _, sc, fc, es, h => by unfold ckB at h; cases h
  | .v _, sc, fc, es, h => by unfold ckB at h; cases h
  | .g _, sc, fc, es, h => by unfold ckB at h; cases h
  | .bin _ _ _, sc, fc, es, h => by unfold ckB at h; cases h
  | .neg _, sc, fc, es, h => by unfold ckB at h; cases h
  | .not _, sc, fc, es, h => by unfold ckB at h; cases h
  | .cmp _ _ _, sc, fc, es, h => by unfold ckB at h; cases h
  | .chain _ _ _ _ _, sc, fc, es, h => by unfold ckB at h; cases h
  | .ite _ _ _, sc, fc, es, h => by unfold ckB at h; cases h
  | .tup _, sc, fc, es, h => by unfold ckB at h; cases h
  | .lst _, sc, fc, es, h => by unfold ckB at h; cases h
  | .dct _, sc, fc, es, h => by unfold ckB at h; cases h
  | .ix _ _, sc, fc, es, h => by unfold ckB at h; cases h
  | .sl _ _ _, sc, fc, es, h => by unfold ckB at h; cases h
  | .call _ _, sc, fc, es, h => by unfold ckB at h; cases h
  | .blt _ _, sc, fc, es, h => by unfold ckB at h; cases h
  | .isi _ _ _, sc, fc, es, h => by unfold ckB at h; cases h
  | .ixo _ _, sc, fc, es, h => by unfold ckB at h; cases h
  | .leno _, sc, fc, es, h => by unfold ckB at h; cases h
  | .lc _ _ _ _ _, sc, fc, es, h => by unfold ckB at h; cases h
  | .callK _ _ _ _, sc, fc, es, h => by unfold ckB at h; cases h
  | .mk _ _, sc, fc, es, h => by unfold ckB at h; cases h
  | .fld _ _, sc, fc, es, h => by unfold ckB at h; cases h
  | .mth _ _ _, sc, fc, es, h => by unfold ckB at h; cases h
  | .prp _ _, sc, fc, es, h => by unfold ckB at h; cases h
  | .join _ _, sc, fc, es, h => by unfold ckB at h; cases h
  | .sidx _ _, sc, fc, es, h => by unfold ckB at h; cases h
  | .same _ _, sc, fc, es, h => by unfold ckB at h; cases h
  | .u1 _ _, sc, fc, es, h => by unfold ckB at h; cases h
  | .u2 _ _ _, sc, fc, es, h => by unfold ckB at h; cases h
  | .srt _ _ _, sc, fc, es, h => by unfold ckB at h; cases h
  | .dget _ _, sc, fc, es, h => by unfold ckB at h; cases h
  | .ino _ _ _, sc, fc, es, h => by unfold ckB at h; cases h
  | .seq _, sc, fc, es, h => by unfold ckB at h; cases h
  | .r1 _, sc, fc, es, h => by unfold ckB at h; cases h
  | .r2 _ _, sc, fc, es, h => by unfold ckB at h; cases h
  | .enum _, sc, fc, es, h => by unfold ckB at h; cases h
  | .zip _ _, sc, fc, es, h => by unfold ckB at h; cases h
theorem ckBo_ok (Y : Stat) : ∀ (ir : E) (sc : Scope) (fc : Str → Bool) (es : List Expr), ckB Y false ir sc fc es = true → (∀ pos, SE Y sc fc (.BoolOp .Or es pos) (evE Y.Z ir)) ∧ (∀ pos, SW Y sc fc (.BoolOp .Or es pos) (fun τ => (evE Y.Z ir τ).bind truth))
  | .last x, sc, fc, es, h => by
    unfold ckB at h
    split at h
    · simp only [Bool.and_eq_true] at h
      have ih := ckE_ok Y x _ _ _ h.2
      exact ⟨fun pos => by exact se_one ih.1, fun pos => by exact sw_or1 (ih.2 h.1)⟩
    · cases h
  | .or x y, sc, fc, es, h => by
    unfold ckB at h
    split at h
    · simp only [Bool.and_eq_true] at h
      have i1 := ckE_ok Y x _ _ _ h.1.2
      have i2 := ckBo_ok Y y _ _ _ h.2
      refine ⟨fun pos => by exact se_or i1.1 (i2.1 _), fun pos => ?_⟩
      have := sw_or (pos := pos) (i1.2 h.1.1.2) (i2.2 pos)
      exact ⟨fun X ok H0 G0 G W H τ σ b w s hg Q q => this.run X ok H0 G0 G W H τ σ b w s (by unfold evE at hg; exact or_imp hg) Q q⟩
    · cases h
  | .and x y, sc, fc, es, h => by
    unfold ckB at h
    split at h
    · simp at h
    · cases h
  | .nil, sc, fc, es, h => by unfold ckB at h; cases h
  | .c _, sc, fc, es, h => by unfold ckB at h; cases h
  | .v _, sc, fc, es, h => by unfold ckB at h; cases h
  | .g _, sc, fc, es, h => by unfold ckB at h; cases h
  | .bin _ _ _, sc, fc, es, h => by unfold ckB at h; cases h
  | .neg _, sc, fc, es, h => by unfold ckB at h; cases h
  | .not _, sc, fc, es, h => by unfold ckB at h; cases h
  | .cmp _ _ _, sc, fc, es, h => by unfold ckB at h; cases h
  | .chain _ _ _ _ _, sc, fc, es, h => by unfold ckB at h; cases h
  | .ite _ _ _, sc, fc, es, h => by unfold ckB at h; cases h
  | .tup _, sc, fc, es, h => by unfold ckB at h; cases h
  | .lst _, sc, fc, es, h => by unfold ckB at h; cases h
  | .dct _, sc, fc, es, h => by unfold ckB at h; cases h
  | .ix _ _, sc, fc, es, h => by unfold ckB at h; cases h
  | .sl _ _ _, sc, fc, es, h => by unfold ckB at h; cases h
  | .call _ _, sc, fc, es, h => by unfold ckB at h; cases h
  | .blt _ _, sc, fc, es, h => by unfold ckB at h; cases h
  | .isi _ _ _, sc, fc, es, h => by unfold ckB at h; cases h
  | .ixo _ _, sc, fc, es, h => by unfold ckB at h; cases h
  | .leno _, sc, fc, es, h => by unfold ckB at h; cases h
  | .lc _ _ _ _ _, sc, fc, es, h => by unfold ckB at h; cases h
  | .callK _ _ _ _, sc, fc, es, h => by unfold ckB at h; cases h
  | .mk _ _, sc, fc, es, h => by unfold ckB at h; cases h
  | .fld _ _, sc, fc, es, h => by unfold ckB at h; cases h
  | .mth _ _ _, sc, fc, es, h => by unfold ckB at h; cases h
  | .prp _ _, sc, fc, es, h => by unfold ckB at h; cases h
  | .join _ _, sc, fc, es, h => by unfold ckB at h; cases h
  | .sidx _ _, sc, fc, es, h => by unfold ckB at h; cases h
  | .same _ _, sc, fc, es, h => by unfold ckB at h; cases h
  | .u1 _ _, sc, fc, es, h => by unfold ckB at h; cases h
  | .u2 _ _ _, sc, fc, es, h => by unfold ckB at h; cases h
  | .srt _ _ _, sc, fc, es, h => by unfold ckB at h; cases h
  | .dget _ _, sc, fc, es, h => by unfold ckB at h; cases h
  | .ino _ _ _, sc, fc, es, h => by unfold ckB at h; cases h
  | .seq _, sc, fc, es, h => by unfold ckB at h; cases h
  | .r1 _, sc, fc, es, h => by unfold ckB at h; cases h
  | .r2 _ _, sc, fc, es, h => by unfold ckB at h; cases h
  | .enum _, sc, fc, es, h => by unfold ckB at h; cases h
  | .zip _ _, sc, fc, es, h => by unfold ckB at h; cases h
theorem ckP_ok (Y : Stat) : ∀ (ir : E) (sc : Scope) (fc : Str → Bool) (o : Option Expr), ckP Y ir sc fc o = true → SO Y sc fc o (evP Y.Z ir)
  | .nil, sc, fc, o, h => by
    unfold ckP at h
    cases o with
    | none => exact so_none
    | some n => cases h
  | .last x, sc, fc, o, h => by
    unfold ckP at h
    cases o with
    | none => cases h
    | some n => exact so_some (ckE_ok Y x _ _ _ h).1
  | .c _, sc, fc, o, h => by unfold ckP at h; cases h
  | .v _, sc, fc, o, h => by unfold ckP at h; cases h
  | .g _, sc, fc, o, h => by unfold ckP at h; cases h
  | .bin _ _ _, sc, fc, o, h => by unfold ckP at h; cases h
  | .neg _, sc, fc, o, h => by unfold ckP at h; cases h
  | .not _, sc, fc, o, h => by unfold ckP at h; cases h
  | .and _ _, sc, fc, o, h => by unfold ckP at h; cases h
  | .or _ _, sc, fc, o, h => by unfold ckP at h; cases h
  | .cmp _ _ _, sc, fc, o, h => by unfold ckP at h; cases h
  | .chain _ _ _ _ _, sc, fc, o, h => by unfold ckP at h; cases h
  | .ite _ _ _, sc, fc, o, h => by unfold ckP at h; cases h
  | .tup _, sc, fc, o, h => by unfold ckP at h; cases h
  | .lst _, sc, fc, o, h => by unfold ckP at h; cases h
  | .dct _, sc, fc, o, h => by unfold ckP at h; cases h
  | .ix _ _, sc, fc, o, h => by unfold ckP at h; cases h
  | .sl _ _ _, sc, fc, o, h => by unfold ckP at h; cases h
  | .call _ _, sc, fc, o, h => by unfold ckP at h; cases h
  | .blt _ _, sc, fc, o, h => by unfold ckP at h; cases h
  | .isi _ _ _, sc, fc, o, h => by unfold ckP at h; cases h
  | .ixo _ _, sc, fc, o, h => by unfold ckP at h; cases h
  | .leno _, sc, fc, o, h => by unfold ckP at h; cases h
  | .lc _ _ _ _ _, sc, fc, o, h => by unfold ckP at h; cases h
  | .callK _ _ _ _, sc, fc, o, h => by unfold ckP at h; cases h
  | .mk _ _, sc, fc, o, h => by unfold ckP at h; cases h
  | .fld _ _, sc, fc, o, h => by unfold ckP at h; cases h
  | .mth _ _ _, sc, fc, o, h => by unfold ckP at h; cases h
  | .prp _ _, sc, fc, o, h => by unfold ckP at h; cases h
  | .join _ _, sc, fc, o, h => by unfold ckP at h; cases h
  | .sidx _ _, sc, fc, o, h => by unfold ckP at h; cases h
  | .same _ _, sc, fc, o, h => by unfold ckP at h; cases h
  | .u1 _ _, sc, fc, o, h => by unfold ckP at h; cases h
  | .u2 _ _ _, sc, fc, o, h => by unfold ckP at h; cases h
  | .srt _ _ _, sc, fc, o, h => by unfold ckP at h; cases h
  | .dget _ _, sc, fc, o, h => by unfold ckP at h; cases h
  | .ino _ _ _, sc, fc, o, h => by unfold ckP at h; cases h
  | .seq _, sc, fc, o, h => by unfold ckP at h; cases h
  | .r1 _, sc, fc, o, h => by unfold ckP at h; cases h
  | .r2 _ _, sc, fc, o, h => by unfold ckP at h; cases h
  | .enum _, sc, fc, o, h => by unfold ckP at h; cases h
  | .zip _ _, sc, fc, o, h => by unfold ckP at h; cases h
theorem ckI_ok (Y : Stat) : ∀ (ir : E) (sc : Scope) (fc : Str → Bool) (tg e : Expr), ckI Y ir sc fc tg e = true → SI Y sc fc tg e (evI Y.Z ir)
  | .seq x, sc, fc, tg, e, h => by
    unfold ckI at h
    exact si_seq (ckE_ok Y x _ _ _ h).1
  | .r1 x, sc, fc, tg, e, h => by
    unfold ckI at h
    split at h
    · simp only [Bool.and_eq_true, decide_eq_true_eq] at h
      obtain ⟨⟨⟨⟨h0, h1⟩, h2⟩, h3⟩, h4⟩ := h
      subst h0
      exact si_r1 (glB_ok h2) (memS_ok h1) h3 (ckE_ok Y x _ _ _ h4).1
    · cases h
  | .r2 x y, sc, fc, tg, e, h => by
    unfold ckI at h
    split at h
    · simp only [Bool.and_eq_true, decide_eq_true_eq] at h
      obtain ⟨⟨⟨⟨⟨⟨h0, h1⟩, h2⟩, h3⟩, h4⟩, h5⟩, h6⟩ := h
      subst h0
      exact si_r2 (glB_ok h2) (memS_ok h1) h3 h4 (ckE_ok Y x _ _ _ h5).1 (ckE_ok Y y _ _ _ h6).1
    · cases h
  | .enum x, sc, fc, tg, e, h => by
    unfold ckI at h
    split at h
    · simp only [Bool.and_eq_true, decide_eq_true_eq] at h
      obtain ⟨⟨⟨⟨⟨h9, h0⟩, h1⟩, h2⟩, h3⟩, h4⟩ := h
      subst h0
      cases tg <;> simp only [isTupE] at h9 <;> try cases h9
      exact si_enum (glB_ok h2) (memS_ok h1) h3 (ckE_ok Y x _ _ _ h4).1
    · cases h
  | .zip x y, sc, fc, tg, e, h => by
    unfold ckI at h
    split at h
    · simp only [Bool.and_eq_true, decide_eq_true_eq] at h
      obtain ⟨⟨⟨⟨⟨⟨⟨h9, h0⟩, h1⟩, h2⟩, h3⟩, h4⟩, h5⟩, h6⟩ := h
      subst h0
      cases tg <;> simp only [isTupE] at h9 <;> try cases h9
      exact si_zip (glB_ok h2) (memS_ok h1) h3 h4 (ckE_ok Y x _ _ _ h5).1 (ckE_ok Y y _ _ _ h6).1
    · cases h
  | .callK _ _ _ _, sc, fc, tg, es, h => by unfold ckI at h; cases h
  | .mk _ _, sc, fc, tg, es, h => by unfold ckI at h; cases h
  | .fld _ _, sc, fc, tg, es, h => by unfold ckI at h; cases h
  | .mth _ _ _, sc, fc, tg, es, h => by unfold ckI at h; cases h
  | .prp _ _, sc, fc, tg, es, h => by unfold ckI at h; cases h
  | .join _ _, sc, fc, tg, es, h => by unfold ckI at h; cases h
  | .sidx _ _, sc, fc, tg, es, h => by unfold ckI at h; cases h
  | .same _ _, sc, fc, tg, es, h => by unfold ckI at h; cases h
  | .u1 _ _, sc, fc, tg, es, h => by unfold ckI at h; cases h
  | .u2 _ _ _, sc, fc, tg, es, h => by unfold ckI at h; cases h
  | .srt _ _ _, sc, fc, tg, es, h => by unfold ckI at h; cases h
  | .dget _ _, sc, fc, tg, es, h => by unfold ckI at h; cases h
  | .ino _ _ _, sc, fc, tg, es, h => by unfold ckI at h; cases h
  | .nil, sc, fc, tg, es, h => by unfold ckI at h; cases h
  | .c _, sc, fc, tg, es, h => by unfold ckI at h; cases h
  | .v _, sc, fc, tg, es, h => by unfold ckI at h; cases h
  | .g _, sc, fc, tg, es, h => by unfold ckI at h; cases h
  | .bin _ _ _, sc, fc, tg, es, h => by unfold ckI at h; cases h
  | .neg _, sc, fc, tg, es, h => by unfold ckI at h; cases h
  | .not _, sc, fc, tg, es, h => by unfold ckI at h; cases h
  | .and _ _, sc, fc, tg, es, h => by unfold ckI at h; cases h
  | .or _ _, sc, fc, tg, es, h => by unfold ckI at h; cases h
  | .last _, sc, fc, tg, es, h => by unfold ckI at h; cases h
  | .cmp _ _ _, sc, fc, tg, es, h => by unfold ckI at h; cases h
  | .chain _ _ _ _ _, sc, fc, tg, es, h => by unfold ckI at h; cases h
  | .ite _ _ _, sc, fc, tg, es, h => by unfold ckI at h; cases h
  | .tup _, sc, fc, tg, es, h => by unfold ckI at h; cases h
  | .lst _, sc, fc, tg, es, h => by unfold ckI at h; cases h
  | .dct _, sc, fc, tg, es, h => by unfold ckI at h; cases h
  | .ix _ _, sc, fc, tg, es, h => by unfold ckI at h; cases h
  | .sl _ _ _, sc, fc, tg, es, h => by unfold ckI at h; cases h
  | .call _ _, sc, fc, tg, es, h => by unfold ckI at h; cases h
  | .blt _ _, sc, fc, tg, es, h => by unfold ckI at h; cases h
  | .isi _ _ _, sc, fc, tg, es, h => by unfold ckI at h; cases h
  | .ixo _ _, sc, fc, tg, es, h => by unfold ckI at h; cases h
  | .leno _, sc, fc, tg, es, h => by unfold ckI at h; cases h
  | .lc _ _ _ _ _, sc, fc, tg, es, h => by unfold ckI at h; cases h
theorem ckL_ok (Y : Stat) : ∀ (xs : List E) (sc : Scope) (fc : Str → Bool) (ns : List Expr), ckL Y xs sc fc ns = true → SA Y sc fc ns (evL Y.Z xs) ∧ ns.all notStar = true
  | [], sc, fc, ns, h => by
    unfold ckL at h
    have : ns = [] := by simpa using h
    subst this
    exact ⟨by exact sa_nil, rfl⟩
  | x :: xs, sc, fc, ns, h => by
    unfold ckL at h
    split at h
    · simp only [Bool.and_eq_true] at h
      obtain ⟨⟨h1, h2⟩, h3⟩ := h
      have ih := ckL_ok Y xs _ _ _ h3
      exact ⟨by exact sa_cons h1 (ckE_ok Y x _ _ _ h2).1 ih.1, by simp [h1, ih.2]⟩
    · cases h
theorem ckK_ok (Y : Stat) : ∀ (xs : List E) (sc : Scope) (fc : Str → Bool) (ns : List Keyword), ckK Y xs sc fc ns = true → SK Y sc fc ns (evL Y.Z xs) ∧ xs.length = ns.length
  | [], sc, fc, ns, h => by
    unfold ckK at h
    have : ns = [] := by simpa using h
    subst this
    exact ⟨by exact sk_nil, rfl⟩
  | x :: xs, sc, fc, ns, h => by
    unfold ckK at h
    split at h
    · rename_i n r
      simp only [Bool.and_eq_true] at h
      have ih := ckK_ok Y xs _ _ _ h.2
      obtain ⟨nm, v, p⟩ := n
      exact ⟨by exact sk_cons (ckE_ok Y x _ _ _ h.1).1 ih.1, by simp [ih.2]⟩
    · cases h
theorem ckD_ok (Y : Stat) : ∀ (xs : List E) (sc : Scope) (fc : Str → Bool) (pos : Pos) (kn : List (Option Expr)) (ns : List Expr), ckD Y xs sc fc kn ns = true → SD Y sc fc pos kn ns (evL Y.Z xs)
  | [], sc, fc, pos, kn, ns, h => by
    unfold ckD at h
    simp only [Bool.and_eq_true, List.isEmpty_iff] at h
    obtain ⟨h1, h2⟩ := h
    subst h1 h2
    exact sd_nil
  | [x], sc, fc, pos, kn, ns, h => by unfold ckD at h; cases h
  | x :: y :: xs, sc, fc, pos, kn, ns, h => by
    unfold ckD at h
    split at h
    · simp only [Bool.and_eq_true] at h
      obtain ⟨⟨h1, h2⟩, h3⟩ := h
      exact sd_cons (ckE_ok Y x _ _ _ h1).1 (ckE_ok Y y _ _ _ h2).1 (ckD_ok Y xs _ _ pos _ _ h3)
    · cases h
end
end Pv

set_option Elab.async false
set_option linter.all false
set_option maxRecDepth 100000
set_option maxHeartbeats 4000000

namespace Pv
open PySem PySem.Spec L2

theorem lc_parts {Y : Stat} {own : List (Str × Nat)} {t : T} {it c el : E} {sc : Scope} {fc : Str → Bool} {elt : Expr} {gs : List Comprehension} {scope : Scope} {p : Pos} (h : ckE Y (.lc own t it c el) sc fc (.ListComp elt gs scope p) = true) :
    ∃ tg iter ifs, gs = [⟨tg, iter, ifs, 0⟩] ∧ SI Y sc fc tg iter (evI Y.Z it) ∧ notSet iter = true ∧ blkC Y.N sc scope own = true ∧ SG Y (relS scope sc) (fun x => scope.names.lookup x == some .cell) tg t ∧
      SCs Y (relS scope sc) (fun x => scope.names.lookup x == some .cell) ifs (fun τ => (evE Y.Z c τ).bind truth) ∧ SE Y (relS scope sc) (fun x => scope.names.lookup x == some .cell) elt (evE Y.Z el) ∧ ∀ i ∈ tixs t, i ∈ own.map (·.2) := by
  unfold ckE at h
  split at h
  · rename_i e1
    cases e1
    simp only [Bool.and_eq_true] at h
    obtain ⟨⟨⟨⟨⟨⟨h1, h2⟩, h3⟩, h4⟩, h5⟩, h6⟩, h7⟩ := h
    refine ⟨_, _, _, rfl, ckI_ok Y it _ _ _ _ h3, h1, h2, ckG_ok h4, ?_, (ckE_ok Y el _ _ _ h6).1, by simpa using h7⟩
    split at h5
    · split at h5
      · exact scs_nil
      · cases h5
    · simp only [Bool.and_eq_true] at h5
      exact scs_one ((ckE_ok Y c _ _ _ h5.2).2 h5.1)
    · cases h5
  · cases h
def isLcE : Expr → Bool
  | .ListComp .. => true
  | _ => false
def isLc : E → Bool
  | .lc .. => true
  | _ => false
def ckAsg (Y : Stat) (t : T) (e : E) (sc : Scope) (fc : Str → Bool) (st : Stmt) : Bool := match st with
  | .Assign [.Name x _] a _ => (match t with
    | .nm i => decide (Y.N[i]? = some x) && locB sc x && hfB sc fc x && ckE Y e sc fc a && (notComp a || (isLcE a && isLc e))
    | _ => false)
  | .Assign [.Tuple tgs _ _] a _ => (match t with
    | .tp is => ckGs Y sc fc is tgs && ckE Y e sc fc a && notComp a && notTup a
    | _ => false)
  | _ => false
mutual
def ckS (Y : Stat) : S → Scope → (Str → Bool) → Stmt → Bool
  | .asg t e, sc, fc, st => ckAsg Y t e sc fc st
  | .own i es, sc, fc, st => match st with
    | .Assign [.Name x _] (.List ns _) _ => decide (Y.N[i]? = some x) && locB sc x && hfB sc fc x && ckL Y es sc fc ns
    | _ => false
  | .frz _, _, _, _ => false
  | .app i e, sc, fc, st => match st with
    | .Expr (.Call (.Attribute (.Name x _) m ap) [a] [] p1) _ => decide (m = ("append" : Str)) && decide (Y.N[i]? = some x) && visB sc x && nmB x && notStar a && ckE Y e sc fc a && (ap.endLine == p1.line)
    | _ => false
  | .ret e, sc, fc, st => match st with
    | .Return (some a) _ => ckE Y e sc fc a
    | _ => false
  | .retN, _, _, st => match st with
    | .Return none _ => true
    | _ => false
  | .pass, _, _, st => match st with
    | .Pass _ => true
    | _ => false
  | .brk, _, _, st => match st with
    | .Break _ => true
    | _ => false
  | .cont, _, _, st => match st with
    | .Continue _ => true
    | _ => false
  | .ifs t a b, sc, fc, st => match st with
    | .If c x y _ => notIf c && ckE Y t sc fc c && ckSs Y a sc fc x && ckSs Y b sc fc y
    | _ => false
  | .for_ t it b, sc, fc, st => match st with
    | .For tg iter x [] _ => notSet iter && ckI Y it sc fc tg iter && ckG Y sc fc t tg && ckSs Y b sc fc x
    | _ => false
  | .whl _ t b, sc, fc, st => match st with
    | .While c x [] _ => notIf c && ckE Y t sc fc c && ckSs Y b sc fc x
    | _ => false
  | .never, _, _, _ => true
  | .newd i, sc, fc, st => match st with
    | .Assign [.Name x _] (.Dict [] [] _) _ => decide (Y.N[i]? = some x) && locB sc x && hfB sc fc x
    | _ => false
  | .put i k e, sc, fc, st => match st with
    | .Assign [.Subscript (.Name x _) b _] a _ => decide (Y.N[i]? = some x) && visB sc x && nmB x && notComp a && ckE Y e sc fc a && ckE Y k sc fc b
    | _ => false
  | .setf i f e, sc, fc, st => match st with
    | .Assign [.Attribute (.Name x _) g _] a _ => decide (g = f) && decide (Y.N[i]? = some x) && visB sc x && nmB x && notComp a && ckE Y e sc fc a
    | _ => false
  | .seti i k e, sc, fc, st => match st with
    | .Assign [.Subscript (.Name x _) b _] a _ => decide (Y.N[i]? = some x) && visB sc x && nmB x && notComp a && notTup a && notSlice b && ckE Y e sc fc a && ckE Y k sc fc b
    | _ => false
def ckSs (Y : Stat) : List S → Scope → (Str → Bool) → List Stmt → Bool
  | [], _, _, sts => sts.isEmpty
  | .frz _ :: r, sc, fc, sts => ckSs Y r sc fc sts
  | s :: r, sc, fc, sts => match sts with
    | st :: str => ckS Y s sc fc st && ckSs Y r sc fc str
    | [] => false
end
theorem ckAsg_ok {Y : Stat} {t : T} {e : E} {sc : Scope} {fc : Str → Bool} {st : Stmt} (h : ckAsg Y t e sc fc st = true) : SS Y sc fc st (evS Y.Z (.asg t e)) := by
  unfold ckAsg at h
  split at h
  · split at h
    · simp only [Bool.and_eq_true, Bool.or_eq_true, decide_eq_true_eq] at h
      obtain ⟨⟨⟨⟨h1, h2⟩, h3⟩, h4⟩, h5⟩ := h
      rcases h5 with h5 | ⟨h5, h6⟩
      · exact ss_asg h1 (locB_ok h2) h3 h5 (ckE_ok Y e _ _ _ h4).1
      · rename_i a _ _ _
        cases a <;> simp only [isLcE] at h5 <;> try cases h5
        cases e <;> simp only [isLc] at h6 <;> try cases h6
        obtain ⟨tg, iter, ifs, rfl, a1, a2, a3, a4, a5, a6, a7⟩ := lc_parts h4
        exact ss_lc h1 (locB_ok h2) h3 a1 a2 a3 a4 a5 a6 a7
    · cases h
  · split at h
    · simp only [Bool.and_eq_true] at h
      obtain ⟨⟨⟨h1, h2⟩, h3⟩, h4⟩ := h
      obtain ⟨a1, a2, a3⟩ := ckGs_ok h1
      exact ss_asgT (sg_tp a2 a3 a1) h3 h4 (ckE_ok Y e _ _ _ h2).1
    · cases h
  · cases h
mutual
theorem ckS_ok (Y : Stat) : ∀ (ir : S) (sc : Scope) (fc : Str → Bool) (st : Stmt), ckS Y ir sc fc st = true → SS Y sc fc st (evS Y.Z ir)
  | .asg t e, sc, fc, st, h => by
    unfold ckS at h
    exact ckAsg_ok h
  | .own i es, sc, fc, st, h => by
    unfold ckS at h
    split at h
    · simp only [Bool.and_eq_true, decide_eq_true_eq] at h
      obtain ⟨⟨⟨h1, h2⟩, h3⟩, h4⟩ := h
      exact ss_own h1 (locB_ok h2) h3 (ckL_ok Y es _ _ _ h4).1
    · cases h
  | .frz _, sc, fc, st, h => by unfold ckS at h; cases h
  | .app i e, sc, fc, st, h => by
    unfold ckS at h
    split at h
    · simp only [Bool.and_eq_true, decide_eq_true_eq] at h
      obtain ⟨⟨⟨⟨⟨⟨h0, h1⟩, h2⟩, h3⟩, h4⟩, h5⟩, h6⟩ := h
      subst h0
      exact ss_app h1 (visB_ok h2) (nmB_ok h3).1 (nmB_ok h3).2 h4 (ckE_ok Y e _ _ _ h5).1 h6
    · cases h
  | .ret e, sc, fc, st, h => by
    unfold ckS at h
    split at h
    · exact ss_ret (ckE_ok Y e _ _ _ h).1
    · cases h
  | .retN, sc, fc, st, h => by
    unfold ckS at h
    split at h
    · exact ss_retN
    · cases h
  | .pass, sc, fc, st, h => by
    unfold ckS at h
    split at h
    · exact ss_pass
    · cases h
  | .brk, sc, fc, st, h => by
    unfold ckS at h
    split at h
    · exact ss_brk
    · cases h
  | .cont, sc, fc, st, h => by
    unfold ckS at h
    split at h
    · exact ss_cont
    · cases h
  | .ifs t a b, sc, fc, st, h => by
    unfold ckS at h
    split at h
    · simp only [Bool.and_eq_true] at h
      obtain ⟨⟨⟨h1, h2⟩, h3⟩, h4⟩ := h
      exact ss_if ((ckE_ok Y t _ _ _ h2).2 h1) (ckSs_ok Y a _ _ _ h3) (ckSs_ok Y b _ _ _ h4)
    · cases h
  | .for_ t it b, sc, fc, st, h => by
    unfold ckS at h
    split at h
    · simp only [Bool.and_eq_true] at h
      obtain ⟨⟨⟨h1, h2⟩, h3⟩, h4⟩ := h
      exact ss_for (ckI_ok Y it _ _ _ _ h2) h1 (ckG_ok h3) (ckSs_ok Y b _ _ _ h4)
    · cases h
  | .whl n t b, sc, fc, st, h => by
    unfold ckS at h
    split at h
    · simp only [Bool.and_eq_true] at h
      obtain ⟨⟨h1, h2⟩, h3⟩ := h
      exact ss_whl ((ckE_ok Y t _ _ _ h2).2 h1) (ckSs_ok Y b _ _ _ h3)
    · cases h
  | .never, sc, fc, st, h => by exact ss_never
  | .newd i, sc, fc, st, h => by
    unfold ckS at h
    split at h
    · simp only [Bool.and_eq_true, decide_eq_true_eq] at h
      exact ss_newd h.1.1 (locB_ok h.1.2) h.2
    · cases h
  | .put i k e, sc, fc, st, h => by
    unfold ckS at h
    split at h
    · simp only [Bool.and_eq_true, decide_eq_true_eq] at h
      obtain ⟨⟨⟨⟨⟨h1, h2⟩, h3⟩, h4⟩, h5⟩, h6⟩ := h
      exact ss_put h1 (visB_ok h2) (nmB_ok h3).1 (nmB_ok h3).2 h4 (ckE_ok Y e _ _ _ h5).1 (ckE_ok Y k _ _ _ h6).1
    · cases h
  | .setf i f e, sc, fc, st, h => by
    unfold ckS at h
    split at h
    · simp only [Bool.and_eq_true, decide_eq_true_eq] at h
      obtain ⟨⟨⟨⟨⟨h0, h1⟩, h2⟩, h3⟩, h4⟩, h5⟩ := h
      subst h0
      exact ss_setf h1 (visB_ok h2) (nmB_ok h3).1 (nmB_ok h3).2 h4 (ckE_ok Y e _ _ _ h5).1
    · cases h
  | .seti i k e, sc, fc, st, h => by
    unfold ckS at h
    split at h
    · simp only [Bool.and_eq_true, decide_eq_true_eq] at h
      obtain ⟨⟨⟨⟨⟨⟨⟨h1, h2⟩, h3⟩, h4⟩, h5⟩, h6⟩, h7⟩, h8⟩ := h
      exact ss_seti h1 (visB_ok h2) (nmB_ok h3).1 (nmB_ok h3).2 h4 h5 h6 (ckE_ok Y e _ _ _ h7).1 (ckE_ok Y k _ _ _ h8).1
    · cases h
theorem ckSs_ok (Y : Stat) : ∀ (ir : List S) (sc : Scope) (fc : Str → Bool) (sts : List Stmt), ckSs Y ir sc fc sts = true → SSs Y sc fc sts (evSs Y.Z ir)
  | [], sc, fc, sts, h => by
    unfold ckSs at h
    have : sts = [] := by simpa using h
    subst this
    exact sss_nil
  | s :: r, sc, fc, sts, h => by
    unfold ckSs at h
    split at h
    · cases ‹_ = []›
    · rename_i e1
      cases e1
      exact sss_frz (ckSs_ok Y r _ _ _ h)
    · rename_i hne e1
      cases e1
      split at h
      · simp only [Bool.and_eq_true] at h
        exact sss_cons (ckS_ok Y s _ _ _ h.1) (ckSs_ok Y r _ _ _ h.2)
      · cases h
end

/-! ### a def -/
/-- a docstring ahead is left out -/
theorem start_ok {K : PySem.W.Frag} {G : Hp} {m : Nat} {ds : List D} {vs : List V} (N : List Str) (hm : N.length = m) (h : DenL K G ds vs) (hl : ds.length ≤ m) : SlOk K G noH (startD m ds) (L2.start N vs) := by
  have hlen := h.length
  refine ⟨?_, fun i d hi => ?_, fun i es hi => ?_, fun i j es fs a hi hj _ _ => ?_⟩
  · simp [startD, L2.start, hm, ← hlen]
  · unfold startD at hi
    unfold L2.start
    by_cases hlt : i < ds.length
    · rw [List.getElem?_append_left (by simpa using hlt), List.getElem?_map] at hi
      obtain ⟨d', hd, e⟩ := mpd hi
      cases e
      obtain ⟨v, hv, dv⟩ := h.get hd
      exact ⟨v, by rw [List.getElem?_append_left (by simpa using (by omega : i < vs.length)), List.getElem?_map, hv]; rfl, dv⟩
    · rw [List.getElem?_append_right (by simpa using hlt), List.getElem?_replicate] at hi
      split at hi <;> cases hi
  · unfold startD at hi
    by_cases hlt : i < ds.length
    · rw [List.getElem?_append_left (by simpa using hlt), List.getElem?_map] at hi
      obtain ⟨d', hd, e⟩ := mpd hi
      cases e
    · rw [List.getElem?_append_right (by simpa using hlt), List.getElem?_replicate] at hi
      split at hi <;> cases hi
  · unfold startD at hi
    by_cases hlt : i < ds.length
    · rw [List.getElem?_append_left (by simpa using hlt), List.getElem?_map] at hi
      obtain ⟨d', hd, e⟩ := mpd hi
      cases e
    · rw [List.getElem?_append_right (by simpa using hlt), List.getElem?_replicate] at hi
      split at hi <;> cases hi
/-- what stands fast outside the def: the same for all contexts of a law -/
structure Env1 (P : Program) (w : World) (K : PySem.W.Frag) (mg : Str → Option Value) (base : Heap) (Y : Stat) : Prop where
  fns : ∀ i x, (i, x) ∈ Y.fns → FnAt P w K mg base Y.lv x (Y.Z.F i)
  cns : ∀ k x, (k, x) ∈ Y.cns → ∃ u v d, mg x = some u ∧ RelV v u ∧ Y.Z.C k = some d ∧ ∀ G, Den K G d v
  bl : ∀ x ∈ Y.bl, mg x = none
  gcd : Y.gcd = true → mg "gcd" = some (.builtin "math.gcd")
  fld : ∀ c f, (c, f) ∈ Y.Z.L → FdAt K c f
  mth : ∀ c m k, findM Y.Z.M c m = some k → MtAt P w K mg base Y.lv c m (Y.Z.F k)
  prp : ∀ c m k, findM Y.Z.P c m = some k → PrAt P w K mg base Y.lv c m (Y.Z.F k)
  mks : ∀ k c, (k, c) ∈ Y.mks → MkAt P w K mg base Y.lv c (Y.Z.F k)
  cl : ∀ c ∈ Y.Z.K, ClAt K c
  srts : ∀ k x, (k, x) ∈ Y.srts → SrtAt P w K mg base Y.lv x (Y.Z.F k)
  kws : ∀ k x ks perm, (k, x, ks, perm) ∈ Y.kws → KwAt P w K mg base Y.lv x ks perm (Y.Z.F k)
theorem evF_len {Z : Sm} {b : List S} {k m : Nat} {ds : List D} {d : D} (h : evF Z b k m ds = some d) : ds.length = k := by
  unfold evF at h
  split at h
  · assumption
  · cases h
/-- THE RULE for a def: its text is checked, its promise is its value by the small language -/
theorem fn_ok {P : Program} {w : World} {K : PySem.W.Frag} {mg : Str → Option Value} {base : Heap} {Y : Stat} {x qual : Str} {st : Stmt} {f : Addr} {fd : FuncData} {ps : List Str} {b : List S} {F : List D → Option D}
    (Fn : Fun K x qual st f fd) (S : FnScope Y.N ps (defScope st)) (En : Env1 P w K mg base Y) (hc : ckSs Y b (defScope st) (fun _ => true) (defBody st) = true) (hle : ps.length ≤ Y.N.length)
    (hF : ∀ ds d, F ds = some d → evF Y.Z b ps.length Y.N.length ds = some d) : FnOk P w K mg base CX0 (Y.lv + 1) f fd ps (spF K F) := by
  refine Fn.ok S (fun vs H Q E h => ?_) (fun cdv A outer s H vs Q E hr h => ?_)
  · obtain ⟨ds, d, G, _, h1, h2, _⟩ := h
    rw [← h1.length]
    exact evF_len (hF ds d h2)
  · obtain ⟨ds, d, G, hs, h1, h2, q⟩ := h
    have hv := hF ds d h2
    have hl := evF_len hv
    unfold evF at hv
    rw [if_pos hl] at hv
    obtain ⟨o, ho, he⟩ := bnd hv
    have ok : XOk Y (defScope st) (fun _ => true) (cxOf CX0 P w K mg base Y.N qual (defScope st) f cdv A outer s H E).nox :=
      ⟨rfl, S.nd, rfl, rfl, hr, rfl, fun _ _ => rfl, En.fns, En.cns, En.bl, En.gcd, En.fld, En.mth, En.prp, En.mks, En.cl, En.srts, En.kws⟩
    have run := (ckSs_ok Y b _ _ _ hc).run _ ok H G G noH H _ _ o (Wd.start hs) (start_ok Y.N rfl h1 (by omega)) ho { nx := fun _ H' => Q .non H', rt := Q }
    refine ⟨_, pss_tu, run ?_⟩
    cases o with
    | nx τ =>
      cases he
      exact fun σ G' W' H' e' w' s' => q .non G' H' (fun a o e => (w'.h0 a o e).1) (fun a o e => (w'.hg a o (hs a o e)).trans e) w'.gh w'.hg (by simp only [Den])
    | rt d' =>
      cases he
      exact fun v G' W' H' e' w' dv => q v G' H' (fun a o e => (w'.h0 a o e).1) (fun a o e => (w'.hg a o (hs a o e)).trans e) w'.gh w'.hg dv
    | bk τ => cases he
    | ct τ => cases he
/-- an __init__: the text is checked, the instance made is its value -/
theorem init_ok {P : Program} {w : World} {K : PySem.W.Frag} {mg : Str → Option Value} {base : Heap} {Y : Stat} {x qual c : Str} {st : Stmt} {f : Addr} {fd : FuncData} {ps : List Str} {b : List S} {F : List D → Option D}
    (Fn : Fun K x qual st f fd) (S : FnScope Y.N ps (defScope st)) (En : Env1 P w K mg base Y) (hc : ckSs Y b (defScope st) (fun _ => true) (defBody st) = true) (hle : ps.length ≤ Y.N.length)
    (hF : ∀ ds d, F ds = some d → evI0 c Y.Z b ps.length Y.N.length ds = some d) : FnOk P w K mg base CX0 (Y.lv + 1) f fd ps (spI K c F) := by
  refine Fn.ok S (fun vs H Q E h => ?_) (fun cdv A outer s H vs Q E hr h => ?_)
  · obtain ⟨z, C, dx, us, ds, ns, fs, G, rfl, _, _, _, _, h1, h2, _⟩ := h
    rw [List.length_cons, ← h1.length]
    have := hF _ _ h2
    unfold evI0 at this
    split at this
    · assumption
    · cases this
  · obtain ⟨z, C, dx, us, ds, ns, fs, G, rfl, hz, hC, hs, hGz, h1, h2, q⟩ := h
    have hv := hF _ _ h2
    unfold evI0 at hv
    split at hv
    · rename_i hl
      obtain ⟨o, ho, he⟩ := bnd hv
      have ok : XOk Y (defScope st) (fun _ => true) (cxOf CX0 P w K mg base Y.N qual (defScope st) f cdv A outer s H E).nox :=
        ⟨rfl, S.nd, rfl, rfl, hr, rfl, fun _ _ => rfl, En.fns, En.cns, En.bl, En.gcd, En.fld, En.mth, En.prp, En.mks, En.cl, En.srts, En.kws⟩
      have hN : 1 ≤ Y.N.length := by omega
      -- the world: all but the new instance is as it was
      have w0 : Wd (del H z) (upd G z (.own z)) G (upd noH z (.ins C dx [])) H := by
        refine ⟨hs, fun a u e => ?_, fun a C dx n e => ?_, fun a u e => ?_, fun a u e => ?_⟩
        · by_cases ha : a = z
          · subst ha
            rw [upd_same] at e
            cases e
            exact ⟨hz, hGz⟩
          · rw [upd_ne ha] at e; cases e
        · by_cases ha : a = z
          · subst ha
            exact ⟨_, upd_same⟩
          · rw [upd_ne ha] at e; cases e
        · have ha : a ≠ z := by
            intro ha
            subst ha
            rw [del_same] at e
            cases e
          rw [upd_ne ha]
        · have ha : a ≠ z := by
            intro ha
            subst ha
            rw [del_same] at e
            cases e
          rw [del_ne ha] at e
          exact ⟨e, by rw [upd_ne ha]; rfl⟩
      have s0 : SlOk K G (upd noH z (.ins C dx [])) (.o (.ins c [] []) :: startD (Y.N.length - 1) ds) (L2.start Y.N (.ref z :: us)) := by
        have s1 := start_ok (Y.N.drop 1) (m := Y.N.length - 1) (by simp) h1 (by omega)
        have e1 : L2.start Y.N (.ref z :: us) = some (.ref z) :: L2.start (Y.N.drop 1) us := by
          simp [L2.start]
          omega
        rw [e1]
        refine ⟨by simp [s1.len], fun i d hi => ?_, fun i d hi => ?_, fun i k d d' a hi hk ha hb => ?_⟩
        · cases i with
          | zero => cases hi
          | succ i => exact s1.val i d (by simpa using hi)
        · cases i with
          | zero =>
            cases hi
            refine ⟨z, _, rfl, upd_same, ?_⟩
            simp only [DenO]
            exact ⟨C, dx, [], rfl, hC, rfl, by simp [DenL]⟩
          | succ i =>
            obtain ⟨a, u, _, e, _⟩ := s1.own i d (by simpa using hi)
            cases e
        · cases i with
          | zero =>
            cases k with
            | zero => rfl
            | succ k =>
              obtain ⟨a, u, _, e, _⟩ := s1.own k _ (by simpa using hk)
              cases e
          | succ i =>
            obtain ⟨a, u, _, e, _⟩ := s1.own i _ (by simpa using hi)
            cases e
      have run := (ckSs_ok Y b _ _ _ hc).run _ ok (del H z) (upd G z (.own z)) G (upd noH z (.ins C dx [])) H _ _ o w0 s0 ho { nx := fun _ H' => Q .non H', rt := Q }
      refine ⟨_, pss_tu, run ?_⟩
      split at he
      · rename_i d' r
        cases he
        intro σ G' W' H' e' w' s'
        obtain ⟨a, ob, o1, o2, o3⟩ := s'.own 0 _ rfl
        have o3' := o3
        simp only [DenO] at o3
        obtain ⟨C', dx', nvs, rfl, _, _, _⟩ := o3
        have ez : a = z := by
          by_cases ha : a = z
          · exact ha
          · obtain ⟨b', hb'⟩ := w'.wi a _ _ _ o2
            rw [upd_ne ha] at hb'
            have hHa : del H z a = some (.own b') := by rw [del_ne ha]; exact hs _ _ hb'
            rw [(w'.h0 _ _ hHa).2] at o2
            cases o2
        subst ez
        have hG' := (w'.wh _ _ o2).2
        have old : ∀ b u, b ≠ a → H b = some u → H' b = some u ∧ G' b = G b := fun b u hb e => by
          have e0 : del H a b = some u := by rw [del_ne hb]; exact e
          exact ⟨(w'.h0 _ _ e0).1, by rw [w'.hg _ _ e0, upd_ne hb]⟩
        refine q _ (upd G' a _) H' (fun b u hb e => (old b u hb e).1) (w'.wh _ _ o2).1 (fun b u e => ?_) (w'.give o2).gh (fun b u hb e => ?_) upd_same (DenO.mono (sub_upd hG') _ o3')
        · have hb := ne_of_none e hGz
          rw [upd_ne hb, (old b u hb (hs _ _ e)).2]
          exact e
        · rw [upd_ne hb]
          exact (old b u hb e).2
      · cases he
    · cases hv
end Pv

set_option Elab.async false
set_option linter.all false
set_option maxRecDepth 100000
set_option maxHeartbeats 4000000

namespace Pv
open PySem L2

/-! ### reckoning (no lemma here is closed by rfl itself: the kernel is not to unfold what stands behind) -/
@[simp high] theorem bind_someX {α β : Type} (a : α) (f : α → Option β) : (some a).bind f = f a := id rfl
@[simp high] theorem map_someX {α β : Type} (a : α) (f : α → β) : (some a).map f = some (f a) := id rfl
@[simp high] theorem bind_noneX {α β : Type} (f : α → Option β) : (none : Option α).bind f = none := id rfl
@[simp high] theorem map_noneX {α β : Type} (f : α → β) : (none : Option α).map f = none := id rfl
section
variable (Z : Sm) (σ : List Sl)
@[simp] theorem evE_c (d : D) : evE Z (.c d) σ = some d := id rfl
@[simp] theorem evE_v (i : Nat) : evE Z (.v i) σ = getV σ i := id rfl
@[simp] theorem evE_g (k : Nat) : evE Z (.g k) σ = Z.C k := id rfl
@[simp] theorem evE_bin (o : BO) (a b : E) : evE Z (.bin o a b) σ = (evE Z a σ).bind fun x => (evE Z b σ).bind fun y => binD o x y := id rfl
@[simp] theorem evE_neg (a : E) : evE Z (.neg a) σ = (evE Z a σ).bind fun x => (intD x).map fun i => .int (-i) := id rfl
@[simp] theorem evE_not (a : E) : evE Z (.not a) σ = ((evE Z a σ).bind truth).map fun b => .bl (!b) := id rfl
@[simp] theorem evE_and (a b : E) : evE Z (.and a b) σ = ((evE Z a σ).bind blD).bind fun k => bif k then evE Z b σ else some (.bl false) := id rfl
@[simp] theorem evE_or (a b : E) : evE Z (.or a b) σ = ((evE Z a σ).bind blD).bind fun k => bif k then some (.bl true) else evE Z b σ := id rfl
@[simp] theorem evE_last (a : E) : evE Z (.last a) σ = evE Z a σ := id rfl
@[simp] theorem evE_cmp (o : CO) (a b : E) : evE Z (.cmp o a b) σ = (evE Z a σ).bind fun x => (evE Z b σ).bind fun y => (cmpX o x y).map .bl := id rfl
@[simp] theorem evE_chain (o p : CO) (a b c : E) : evE Z (.chain o p a b c) σ = (evE Z a σ).bind fun x => (evE Z b σ).bind fun y => (cmpD o x y).bind fun k => bif k then (evE Z c σ).bind fun z => (cmpD p y z).map .bl else some (.bl false) := id rfl
@[simp] theorem evE_ite (t a b : E) : evE Z (.ite t a b) σ = ((evE Z t σ).bind truth).bind fun k => bif k then evE Z a σ else evE Z b σ := id rfl
@[simp] theorem evE_tup (es : List E) : evE Z (.tup es) σ = (evL Z es σ).bind fun ds => if ds.length ≤ line then some (.tup ds) else none := id rfl
@[simp] theorem evE_lst (es : List E) : evE Z (.lst es) σ = (evL Z es σ).bind fun ds => if ds.length ≤ line then some (.lst ds) else none := id rfl
@[simp] theorem evE_dct (es : List E) : evE Z (.dct es) σ = (evL Z es σ).bind fun ds => dctD (evens ds) (odds ds) := id rfl
@[simp] theorem evE_ix (a b : E) : evE Z (.ix a b) σ = (evE Z a σ).bind fun x => (evE Z b σ).bind fun y => ixX x y := id rfl
@[simp] theorem evE_sl (a lo hi : E) : evE Z (.sl a lo hi) σ = (evE Z a σ).bind fun x => (evP Z lo σ).bind fun l => (evP Z hi σ).bind fun h => slD l h x := id rfl
@[simp] theorem evP_nil : evP Z .nil σ = some none := id rfl
@[simp] theorem evP_last (e : E) : evP Z (.last e) σ = (evE Z e σ).bind fun d => (intD d).map some := id rfl
@[simp] theorem evE_call (f : Nat) (es : List E) : evE Z (.call f es) σ = (evL Z es σ).bind fun ds => Z.F f ds := id rfl
@[simp] theorem evE_blt (f : BF) (es : List E) : evE Z (.blt f es) σ = (evL Z es σ).bind fun ds => bltD f ds := id rfl
@[simp] theorem evE_isi (a : E) (ts : List Ty) (m : Bool) : evE Z (.isi a ts m) σ = (evE Z a σ).bind fun x => if isIns x then insI Z.K x else some (.bl (ts.any (isi1 x))) := id rfl
@[simp] theorem evE_same (a b : E) : evE Z (.same a b) σ = (evE Z a σ).bind fun x => (evE Z b σ).bind fun y => sameD x y := id rfl
@[simp] theorem evE_u1 (o : U1) (a : E) : evE Z (.u1 o a) σ = (evE Z a σ).bind fun x => u1D o x := id rfl
@[simp] theorem evE_u2 (o : U2) (a b : E) : evE Z (.u2 o a b) σ = (evE Z a σ).bind fun x => (evE Z b σ).bind fun y => u2D o x y := id rfl
@[simp] theorem evE_sidx (a b : E) : evE Z (.sidx a b) σ = (evE Z a σ).bind fun x => (evE Z b σ).bind fun y => sidxD x y := id rfl
@[simp] theorem evE_srt (f : Nat) (b : Bool) (a : E) : evE Z (.srt f b a) σ = (evE Z a σ).bind fun x => srtD (Z.F f) b x := id rfl
@[simp] theorem evE_ixo (i : Nat) (a : E) : evE Z (.ixo i a) σ = (getO σ i).bind fun xs => ((evE Z a σ).bind intD).bind fun k => atI xs k := id rfl
@[simp] theorem evE_leno (i : Nat) : evE Z (.leno i) σ = (getO σ i).map fun xs => .int xs.length := id rfl
@[simp] theorem evE_lc (own : List (Str × Nat)) (t : T) (it c e : E) : evE Z (.lc own t it c e) σ = (evI Z it σ).bind fun ds => if ds.length ≤ line then (lcL t (evE Z c) (evE Z e) (wipeD σ (own.map fun p => p.2)) ds).map .lst else none := id rfl
@[simp] theorem evE_callK (f : Nat) (ks : List Str) (pm : List Nat) (es : List E) : evE Z (.callK f ks pm es) σ = (evL Z es σ).bind fun ds => Z.F f (permL pm ds) := id rfl
@[simp] theorem evE_mk (f : Nat) (es : List E) : evE Z (.mk f es) σ = (evL Z es σ).bind fun ds => Z.F f ds := id rfl
/-- o.f, o.m(..), o.p by the object -/
def fldX (L : List (Str × Str)) (f : Str) : D → Option D
  | .ins c ns vs => if (c, f) ∈ L then fldOf ns vs f else none
  | _ => none
def mthX (M : List (Str × Str × Nat)) (F : Nat → List D → Option D) (m : Str) (ds : List D) : D → Option D
  | .ins c ns vs => if m ∈ ns then none else (findM M c m).bind fun k => F k (.ins c ns vs :: ds)
  | _ => none
def prpX (P : List (Str × Str × Nat)) (F : Nat → List D → Option D) (f : Str) : D → Option D
  | .ins c ns vs => (findM P c f).bind fun k => F k [.ins c ns vs]
  | _ => none
@[simp] theorem evE_fld (a : E) (f : Str) : evE Z (.fld a f) σ = (evE Z a σ).bind (fldX Z.L f) := by
  show (evE Z a σ).bind _ = _
  congr 1
@[simp] theorem evE_mth (a : E) (m : Str) (es : List E) : evE Z (.mth a m es) σ = (evE Z a σ).bind fun x => (evL Z es σ).bind fun ds => mthX Z.M Z.F m ds x := by
  show (evE Z a σ).bind _ = _
  congr 1
  funext x
  congr 1
  funext ds
  cases x <;> first | rfl | (simp only [mthX])
@[simp] theorem evE_prp (a : E) (f : Str) : evE Z (.prp a f) σ = (evE Z a σ).bind (prpX Z.P Z.F f) := by
  show (evE Z a σ).bind _ = _
  congr 1
  funext x
  cases x <;> first | rfl | (simp only [prpX])
@[simp] theorem evE_join (a b : E) : evE Z (.join a b) σ = (evE Z a σ).bind fun x => (evE Z b σ).bind fun y => joinD x y := id rfl
@[simp] theorem evE_dget (a b : E) : evE Z (.dget a b) σ = (evE Z a σ).bind fun x => (evE Z b σ).bind fun y => getD' x y := id rfl
@[simp] theorem evE_ino (n : Bool) (a : E) (i : Nat) : evE Z (.ino n a i) σ = (evE Z a σ).bind fun x => (D.key x).bind fun q => (getOd σ i).map fun kv => .bl ((dlook kv.1 kv.2 q).isSome != n) := id rfl
/-- enumerate, zip by what is walked -/
def enumX : D → Option (List D)
  | .lst ds => some (enumD 0 ds)
  | .tup ds => some (enumD 0 ds)
  | .str ds => some (enumD 0 (ds.map fun c => .str [c]))
  | _ => none
def zipX : D → D → Option (List D)
  | .lst ds, .lst es => some (zipD ds es)
  | .tup ds, .tup es => some (zipD ds es)
  | .str ds, .str es => some (zipD (ds.map fun c => .str [c]) (es.map fun c => .str [c]))
  | _, _ => none
@[simp] theorem evI_enum (a : E) : evI Z (.enum a) σ = (evE Z a σ).bind enumX := by
  show (evE Z a σ).bind _ = _
  congr 1
@[simp] theorem evI_zip (a b : E) : evI Z (.zip a b) σ = (evE Z a σ).bind fun x => (evE Z b σ).bind fun y => zipX x y := by
  show (evE Z a σ).bind _ = _
  congr 1
@[simp] theorem evI_seq (e : E) : evI Z (.seq e) σ = (evE Z e σ).bind seqD := id rfl
@[simp] theorem evI_r1 (a : E) : evI Z (.r1 a) σ = ((evE Z a σ).bind intD).bind fun i => if okR i then some (rngD 0 i.toNat) else none := id rfl
@[simp] theorem evI_r2 (a b : E) : evI Z (.r2 a b) σ = ((evE Z a σ).bind intD).bind fun i => ((evE Z b σ).bind intD).bind fun j => if okR i && okR j then some (rngD i (j - i).toNat) else none := id rfl
@[simp] theorem evL_nil : evL Z [] σ = some [] := id rfl
@[simp] theorem evL_cons (e : E) (es : List E) : evL Z (e :: es) σ = (evE Z e σ).bind fun d => (evL Z es σ).map (d :: ·) := id rfl
@[simp] theorem evS_asg (t : T) (e : E) : evS Z (.asg t e) σ = (evE Z e σ).bind fun d => (setT t d σ).map .nx := id rfl
@[simp] theorem evS_own (i : Nat) (es : List E) : evS Z (.own i es) σ = (evL Z es σ).bind fun ds => if ds.length ≤ line then some (.nx (σ.set i (.o (.lst ds)))) else none := id rfl
@[simp] theorem evS_frz (i : Nat) : evS Z (.frz i) σ = some (.nx (frzD σ i)) := id rfl
@[simp] theorem evS_app (i : Nat) (e : E) : evS Z (.app i e) σ = (evE Z e σ).bind fun d => (getO σ i).bind fun xs => if xs.length < line then some (.nx (σ.set i (.o (.lst (xs ++ [d]))))) else none := id rfl
@[simp] theorem evS_ret (e : E) : evS Z (.ret e) σ = (evE Z e σ).map .rt := id rfl
@[simp] theorem evS_retN : evS Z .retN σ = some (.rt .non) := id rfl
@[simp] theorem evS_pass : evS Z .pass σ = some (.nx σ) := id rfl
@[simp] theorem evS_brk : evS Z .brk σ = some (.bk σ) := id rfl
@[simp] theorem evS_cont : evS Z .cont σ = some (.ct σ) := id rfl
@[simp] theorem evS_ifs (t : E) (a b : List S) : evS Z (.ifs t a b) σ = ((evE Z t σ).bind truth).bind fun k => bif k then evSs Z a σ else evSs Z b σ := id rfl
@[simp] theorem evS_for (t : T) (it : E) (b : List S) : evS Z (.for_ t it b) σ = (evI Z it σ).bind fun ds => forL t (evSs Z b) ds σ := id rfl
@[simp] theorem evS_whl (n : Nat) (t : E) (b : List S) : evS Z (.whl n t b) σ = whlL (evE Z t) (evSs Z b) n σ := id rfl
@[simp] theorem evS_never : evS Z .never σ = none := id rfl
@[simp] theorem evS_newd (i : Nat) : evS Z (.newd i) σ = some (.nx (σ.set i (.o (.dct [] [])))) := id rfl
@[simp] theorem evS_put (i : Nat) (k e : E) : evS Z (.put i k e) σ = (evE Z e σ).bind fun d => (evE Z k σ).bind fun x => (D.key x).bind fun q => (getOd σ i).bind fun kv => if kv.1.length < line then some (.nx (σ.set i (.o (.dct (dputK kv.1 q x) (dputV kv.1 kv.2 q d))))) else none := id rfl
@[simp] theorem evS_setf (i : Nat) (f : Str) (e : E) : evS Z (.setf i f e) σ = (evE Z e σ).bind fun d => (getOi σ i).bind fun o => if (o.1, f) ∈ Z.L ∧ o.2.1.length < 1000 then some (.nx (σ.set i (.o (.ins o.1 (putN o.2.1 o.2.2 f) (putV o.2.1 o.2.2 f d))))) else none := id rfl
@[simp] theorem evS_seti (i : Nat) (k e : E) : evS Z (.seti i k e) σ = (evE Z e σ).bind fun d => ((evE Z k σ).bind intD).bind fun j => (getO σ i).bind fun xs => (ixN xs.length j).map fun n => .nx (σ.set i (.o (.lst (xs.set n d)))) := id rfl
@[simp] theorem evSs_nil : evSs Z [] σ = some (.nx σ) := id rfl
/-- what follows a statement -/
def thenS (Z : Sm) (r : List S) : Out → Option Out
  | .nx σ2 => evSs Z r σ2
  | .rt d => some (.rt d)
  | .bk σ2 => some (.bk σ2)
  | .ct σ2 => some (.ct σ2)
@[simp] theorem evSs_cons (s : S) (r : List S) : evSs Z (s :: r) σ = (evS Z s σ).bind (thenS Z r) := by
  show (evS Z s σ).bind _ = _
  congr 1
@[simp] theorem thenS_nx (r : List S) : thenS Z r (.nx σ) = evSs Z r σ := id rfl
@[simp] theorem thenS_rt (r : List S) (d : D) : thenS Z r (.rt d) = some (.rt d) := id rfl
@[simp] theorem thenS_bk (r : List S) : thenS Z r (.bk σ) = some (.bk σ) := id rfl
@[simp] theorem thenS_ct (r : List S) : thenS Z r (.ct σ) = some (.ct σ) := id rfl
end
@[simp] theorem line_val : line = 16777216 := id rfl
@[simp] theorem endD_rt (d : D) : endD (.rt d) = some d := id rfl
@[simp] theorem endD_nx (σ : List Sl) : endD (.nx σ) = some .non := id rfl
@[simp] theorem getV_zero (d : D) (r : List Sl) : getV (.v d :: r) 0 = some d := id rfl
@[simp] theorem getV_succ (s : Sl) (r : List Sl) (i : Nat) : getV (s :: r) (i + 1) = getV r i := by simp [getV]
@[simp] theorem getO_zero (d : List D) (r : List Sl) : getO (.o (.lst d) :: r) 0 = some d := id rfl
@[simp] theorem getOd_zero (ks vs : List D) (r : List Sl) : getOd (.o (.dct ks vs) :: r) 0 = some (ks, vs) := id rfl
@[simp] theorem getOd_succ (s : Sl) (r : List Sl) (i : Nat) : getOd (s :: r) (i + 1) = getOd r i := by simp [getOd]
@[simp] theorem getOi_zero (c : Str) (ns : List Str) (vs : List D) (r : List Sl) : getOi (.o (.ins c ns vs) :: r) 0 = some (c, ns, vs) := id rfl
@[simp] theorem getOi_succ (s : Sl) (r : List Sl) (i : Nat) : getOi (s :: r) (i + 1) = getOi r i := by simp [getOi]
@[simp] theorem getO_succ (s : Sl) (r : List Sl) (i : Nat) : getO (s :: r) (i + 1) = getO r i := by simp [getO]
@[simp] theorem setT_nm (i : Nat) (d : D) (σ : List Sl) : setT (.nm i) d σ = some (σ.set i (.v d)) := id rfl
@[simp] theorem setT_tp (is : List Nat) (ds : List D) (σ : List Sl) : setT (.tp is) (.tup ds) σ = setAll is ds σ := id rfl
@[simp] theorem setAll_nil (σ : List Sl) : setAll [] [] σ = some σ := id rfl
@[simp] theorem setAll_cons (i : Nat) (is : List Nat) (d : D) (ds : List D) (σ : List Sl) : setAll (i :: is) (d :: ds) σ = setAll is ds (σ.set i (.v d)) := id rfl
@[simp] theorem frz_zero (d : D) (r : List Sl) : frzD (.o d :: r) 0 = .v d :: r := id rfl
@[simp] theorem frz_zeroV (d : D) (r : List Sl) : frzD (.v d :: r) 0 = .v d :: r := id rfl
@[simp] theorem frz_succ (s : Sl) (r : List Sl) (i : Nat) : frzD (s :: r) (i + 1) = s :: frzD r i := by
  simp only [frzD, List.getElem?_cons_succ]
  split <;> simp
@[simp] theorem forL_nil (t : T) (f : List Sl → Option Out) (σ : List Sl) : forL t f [] σ = some (.nx σ) := id rfl
/-- what follows a turn -/
def turnO (k : List Sl → Option Out) : Out → Option Out
  | .nx σ2 => k σ2
  | .ct σ2 => k σ2
  | .bk σ2 => some (.nx σ2)
  | .rt d => some (.rt d)
@[simp] theorem turnO_nx (k : List Sl → Option Out) (σ : List Sl) : turnO k (.nx σ) = k σ := id rfl
@[simp] theorem turnO_ct (k : List Sl → Option Out) (σ : List Sl) : turnO k (.ct σ) = k σ := id rfl
@[simp] theorem turnO_bk (k : List Sl → Option Out) (σ : List Sl) : turnO k (.bk σ) = some (.nx σ) := id rfl
@[simp] theorem turnO_rt (k : List Sl → Option Out) (d : D) : turnO k (.rt d) = some (.rt d) := id rfl
theorem forL_cons (t : T) (f : List Sl → Option Out) (d : D) (ds : List D) (σ : List Sl) : forL t f (d :: ds) σ = (setT t d σ).bind fun σ1 => (f σ1).bind (turnO (forL t f ds)) := by
  show (setT t d σ).bind _ = _
  congr 1
@[simp] theorem bin_add (i j : Int) : binD .add (.int i) (.int j) = some (.int (i + j)) := id rfl
@[simp] theorem bin_sub (i j : Int) : binD .sub (.int i) (.int j) = some (.int (i - j)) := id rfl
@[simp] theorem bin_mul (i j : Int) : binD .mul (.int i) (.int j) = if mulOk i j then some (.int (i * j)) else none := id rfl
@[simp] theorem bin_fdiv (i j : Int) : binD .fdiv (.int i) (.int j) = if divOk j then some (.int (i.fdiv j)) else none := id rfl
@[simp] theorem bin_mod (i j : Int) : binD .mod (.int i) (.int j) = if j ≠ 0 then some (.int (i.fmod j)) else none := id rfl
@[simp] theorem bin_pow (i j : Int) : binD .pow (.int i) (.int j) = if powOk i j then some (.int (i ^ j.toNat)) else none := id rfl
@[simp] theorem bin_mulL (x : List D) (k : Int) : binD .mul (.lst x) (.int k) = if repOk x.length k then some (.lst (List.replicate k.toNat x).flatten) else none := id rfl
@[simp] theorem bin_mulS (x : List Nat) (k : Int) : binD .mul (.str x) (.int k) = if repOk x.length k then some (.str (List.replicate k.toNat x).flatten) else none := id rfl
@[simp] theorem bin_addL (x y : List D) : binD .add (.lst x) (.lst y) = if x.length + y.length ≤ line then some (.lst (x ++ y)) else none := id rfl
@[simp] theorem bin_addT (x y : List D) : binD .add (.tup x) (.tup y) = if x.length + y.length ≤ line then some (.tup (x ++ y)) else none := id rfl
@[simp] theorem bin_addS (x y : List Nat) : binD .add (.str x) (.str y) = if x.length + y.length ≤ line then some (.str (x ++ y)) else none := id rfl
@[simp] theorem intD_int (i : Int) : intD (.int i) = some i := id rfl
@[simp] theorem blD_bl (b : Bool) : blD (.bl b) = some b := id rfl
@[simp] theorem truth_bl (b : Bool) : truth (.bl b) = some b := id rfl
@[simp] theorem truth_non : truth .non = some false := id rfl
@[simp] theorem cmpX_int (o : CO) (x : D) (j : Int) : cmpX o x (.int j) = cmpD o x (.int j) := id rfl
@[simp] theorem cmpX_bl (o : CO) (x : D) (j : Bool) : cmpX o x (.bl j) = cmpD o x (.bl j) := id rfl
@[simp] theorem cmpX_str (o : CO) (x : D) (j : List Nat) : cmpX o x (.str j) = cmpD o x (.str j) := id rfl
@[simp] theorem cmpX_lst (o : CO) (x : D) (j : List D) : cmpX o x (.lst j) = cmpD o x (.lst j) := id rfl
@[simp] theorem cmpX_tup (o : CO) (x : D) (j : List D) : cmpX o x (.tup j) = cmpD o x (.tup j) := id rfl
@[simp] theorem cmpX_non (o : CO) (x : D) : cmpX o x .non = cmpD o x .non := id rfl
@[simp] theorem cmpX_ins (o : CO) (x : D) (c : Str) (ns : List Str) (vs : List D) : cmpX o x (.ins c ns vs) = cmpD o x (.ins c ns vs) := id rfl
@[simp] theorem cmpX_in (x : D) (ks vs : List D) : cmpX .isin x (.dct ks vs) = (D.key x).map fun q => (dlook ks vs q).isSome := id rfl
@[simp] theorem cmpX_nin (x : D) (ks vs : List D) : cmpX .notin x (.dct ks vs) = (D.key x).map fun q => !(dlook ks vs q).isSome := id rfl
@[simp] theorem cmp_inT (x : D) (ys : List D) : cmpD .isin x (.tup ys) = inD x ys := id rfl
@[simp] theorem cmp_inL (x : D) (ys : List D) : cmpD .isin x (.lst ys) = inD x ys := id rfl
@[simp] theorem cmp_ninT (x : D) (ys : List D) : cmpD .notin x (.tup ys) = (inD x ys).map not := id rfl
@[simp] theorem cmp_ninL (x : D) (ys : List D) : cmpD .notin x (.lst ys) = (inD x ys).map not := id rfl
@[simp] theorem cmp_inS (c : Nat) (ys : List Nat) : cmpD .isin (.str [c]) (.str ys) = some (decide (c ∈ ys)) := id rfl
@[simp] theorem cmp_ninS (c : Nat) (ys : List Nat) : cmpD .notin (.str [c]) (.str ys) = some (!decide (c ∈ ys)) := id rfl
@[simp] theorem cmp_eq (x y : D) : cmpD .eq x y = eqD x y := id rfl
@[simp] theorem cmp_ne (x y : D) : cmpD .ne x y = (eqD x y).map not := id rfl
theorem eqD_non (x : D) (h : scalD x .non = true) : eqD x .non = some (D.eqb x .non) := by simp [eqD, h]
@[simp] theorem ixX_lst (xs : List D) (y : D) : ixX (.lst xs) y = ixD (.lst xs) y := id rfl
@[simp] theorem ixX_tup (xs : List D) (y : D) : ixX (.tup xs) y = ixD (.tup xs) y := id rfl
@[simp] theorem ixX_str (xs : List Nat) (y : D) : ixX (.str xs) y = ixD (.str xs) y := id rfl
@[simp] theorem ixX_scr (xs : List Int) (y : D) : ixX (.scr xs) y = ixD (.scr xs) y := id rfl
@[simp] theorem ixX_dct (ks vs : List D) (y : D) : ixX (.dct ks vs) y = (D.key y).bind fun q => dlook ks vs q := id rfl
@[simp] theorem key_str (x : List Nat) : D.key (.str x) = some (.inr (mkS x)) := id rfl
@[simp] theorem key_int (i : Int) : D.key (.int i) = some (.inl i) := id rfl
@[simp] theorem enumX_lst (xs : List D) : enumX (.lst xs) = some (enumD 0 xs) := id rfl
@[simp] theorem enumX_tup (xs : List D) : enumX (.tup xs) = some (enumD 0 xs) := id rfl
@[simp] theorem enumX_str (xs : List Nat) : enumX (.str xs) = some (enumD 0 (xs.map fun c => .str [c])) := id rfl
@[simp] theorem zipX_str (xs ys : List Nat) : zipX (.str xs) (.str ys) = some (zipD (xs.map fun c => .str [c]) (ys.map fun c => .str [c])) := id rfl
@[simp] theorem zipX_lst (xs ys : List D) : zipX (.lst xs) (.lst ys) = some (zipD xs ys) := id rfl
@[simp] theorem fldX_ins (L : List (Str × Str)) (f c : Str) (ns : List Str) (vs : List D) : fldX L f (.ins c ns vs) = if (c, f) ∈ L then fldOf ns vs f else none := id rfl
@[simp] theorem joinD_lst (s : List Nat) (ds : List D) : joinD (.str s) (.lst ds) = (strsD ds).bind fun ps => if joinOk s ps then some (.str (joinN s ps)) else none := id rfl
@[simp] theorem tuple_lst (x : List D) : bltD .tuple [.lst x] = some (.tup x) := id rfl
@[simp] theorem tuple_tup (x : List D) : bltD .tuple [.tup x] = some (.tup x) := id rfl
@[simp] theorem list_lst (x : List D) : bltD .list [.lst x] = some (.lst x) := id rfl
@[simp] theorem list_tup (x : List D) : bltD .list [.tup x] = some (.lst x) := id rfl
@[simp] theorem len_str (x : List Nat) : bltD .len [.str x] = if x.length ≤ line then some (.int x.length) else none := id rfl
/-- sep.join of texts that are all there -/
theorem strsD_map {α : Type} (f : α → List Nat) (l : List α) : strsD (l.map fun a => .str (f a)) = some (l.map f) := by
  induction l with
  | nil => rfl
  | cons a l ih => simp [strsD, ih]
theorem joinN_nil (ps : List (List Nat)) : joinN [] ps = ps.flatten := by
  induction ps with
  | nil => rfl
  | cons p r ih =>
    cases r with
    | nil => simp [joinN]
    | cons q r => simp only [joinN, List.nil_append, List.flatten_cons] at ih ⊢; rw [ih]
@[simp] theorem cmp_lt (i j : Int) : cmpD .lt (.int i) (.int j) = some (decide (i < j)) := id rfl
@[simp] theorem cmp_le (i j : Int) : cmpD .le (.int i) (.int j) = some (decide (i ≤ j)) := id rfl
@[simp] theorem cmp_gt (i j : Int) : cmpD .gt (.int i) (.int j) = some (decide (j < i)) := id rfl
@[simp] theorem cmp_ge (i j : Int) : cmpD .ge (.int i) (.int j) = some (decide (j ≤ i)) := id rfl
theorem eqb_int (i j : Int) : D.eqb (.int i) (.int j) = decide (i = j) := by
  simp only [D.eqb, D.toP, PyData.eqv]; rfl
@[simp] theorem eqD_int (i j : Int) : eqD (.int i) (.int j) = some (decide (i = j)) := by
  simp [eqD, scalD, eqb_int]
theorem cmp_eqI (i j : Int) : cmpD .eq (.int i) (.int j) = some (decide (i = j)) := by
  simp [cmpD, eqD, scalD, eqb_int]
theorem cmp_neI (i j : Int) : cmpD .ne (.int i) (.int j) = some (!decide (i = j)) := by
  simp [cmpD, eqD, scalD, eqb_int]
@[simp] theorem eqD_str (x y : List Nat) : eqD (.str x) (.str y) = some (decide (x = y)) := by
  simp [eqD, scalD, eqb_str]
theorem cmp_eqS (x y : List Nat) : cmpD .eq (.str x) (.str y) = some (decide (x = y)) := by
  simp [cmpD, eqD, scalD, eqb_str]
theorem cmp_neS (x y : List Nat) : cmpD .ne (.str x) (.str y) = some (!decide (x = y)) := by
  simp [cmpD, eqD, scalD, eqb_str]
@[simp] theorem eqD_bl (x y : Bool) : eqD (.bl x) (.bl y) = some (decide (x = y)) := by
  simp only [eqD, scalD, Bool.true_or, if_true]
  cases x <;> cases y <;> rfl
theorem cmp_eqB (x y : Bool) : cmpD .eq (.bl x) (.bl y) = some (decide (x = y)) := by
  simp only [cmpD, eqD, scalD, Bool.true_or, if_true]
  cases x <;> cases y <;> rfl
@[simp] theorem cmp_isB (x y : Bool) : cmpD .is (.bl x) (.bl y) = some (decide (x = y)) := id rfl
@[simp] theorem cmp_isnotB (x y : Bool) : cmpD .isnot (.bl x) (.bl y) = some (!decide (x = y)) := id rfl
@[simp] theorem len_lst (x : List D) : bltD .len [.lst x] = some (.int x.length) := id rfl
@[simp] theorem len_tup (x : List D) : bltD .len [.tup x] = some (.int x.length) := id rfl
@[simp] theorem len_scr (x : List Int) : bltD .len [.scr x] = some (.int x.length) := id rfl
@[simp] theorem int_int (i : Int) : bltD .int [.int i] = some (.int i) := id rfl
@[simp] theorem int_bl (b : Bool) : bltD .int [.bl b] = some (.int (if b then 1 else 0)) := id rfl
@[simp] theorem abs_int (i : Int) : bltD .abs [.int i] = some (.int (if i < 0 then -i else i)) := id rfl
@[simp] theorem gcd_int (i j : Int) : bltD .gcd [.int i, .int j] = some (.int (Nat.gcd i.natAbs j.natAbs : Nat)) := id rfl
@[simp] theorem max_int (i j : Int) : bltD .max [.int i, .int j] = some (.int (if j > i then j else i)) := id rfl
@[simp] theorem min_int (i j : Int) : bltD .min [.int i, .int j] = some (.int (if j < i then j else i)) := id rfl
@[simp] theorem ix_lst (xs : List D) (i : Int) : ixD (.lst xs) (.int i) = atI xs i := id rfl
@[simp] theorem ix_tupD (xs : List D) (i : Int) : ixD (.tup xs) (.int i) = atI xs i := id rfl
@[simp] theorem ix_scr (xs : List Int) (i : Int) : ixD (.scr xs) (.int i) = (atI xs i).map .int := id rfl
@[simp] theorem ix_strD (xs : List Nat) (i : Int) : ixD (.str xs) (.int i) = if xs.length ≤ line then (atI xs i).map fun c => .str [c] else none := id rfl
theorem atI_of {α : Type} {xs : List α} {i : Int} {x : α} (h0 : 0 ≤ i) (h : xs[i.toNat]? = some x) : atI xs i = some x := by
  have : i = (i.toNat : Int) := by omega
  rw [this]; exact atI_nat h
@[simp] theorem atI_0 {α : Type} (x : α) (xs : List α) : atI (x :: xs) 0 = some x := atI_of (by decide) rfl
@[simp] theorem atI_1 {α : Type} (x y : α) (xs : List α) : atI (x :: y :: xs) 1 = some y := atI_of (by decide) rfl
@[simp] theorem atI_2 {α : Type} (x y z : α) (xs : List α) : atI (x :: y :: z :: xs) 2 = some z := atI_of (by decide) rfl
@[simp] theorem atI_3 {α : Type} (x y z u : α) (xs : List α) : atI (x :: y :: z :: u :: xs) 3 = some u := atI_of (by decide) rfl
@[simp] theorem atI_4 {α : Type} (x y z u v : α) (xs : List α) : atI (x :: y :: z :: u :: v :: xs) 4 = some v := atI_of (by decide) rfl
@[simp] theorem atI_5 {α : Type} (x y z u v w : α) (xs : List α) : atI (x :: y :: z :: u :: v :: w :: xs) 5 = some w := atI_of (by decide) rfl
@[simp] theorem seq_lst (xs : List D) : seqD (.lst xs) = some xs := id rfl
@[simp] theorem seq_tup (xs : List D) : seqD (.tup xs) = some xs := id rfl
@[simp] theorem seq_scr (xs : List Int) : seqD (.scr xs) = some (xs.map .int) := id rfl
@[simp] theorem seq_str (xs : List Nat) : seqD (.str xs) = some (xs.map fun c => .str [c]) := id rfl
@[simp] theorem startD_nil (m : Nat) : startD m [] = List.replicate m .no := by simp [startD]
/-- a loop that is never left early -/
theorem forL_inv {t : T} {f : List Sl → Option Out} (I : Nat → List Sl → Prop) : ∀ {ds : List D} {k : Nat} {σ : List Sl}, I k σ →
    (∀ (i : Nat) d σ, ds[i]? = some d → I (k + i) σ → ∃ σ1 σ2, setT t d σ = some σ1 ∧ (f σ1 = some (.nx σ2) ∨ f σ1 = some (.ct σ2)) ∧ I (k + i + 1) σ2) → ∃ σ', forL t f ds σ = some (.nx σ') ∧ I (k + ds.length) σ'
  | [], k, σ, h, _ => ⟨σ, rfl, h⟩
  | d :: ds, k, σ, h, hs => by
    obtain ⟨σ1, σ2, h1, h2, h3⟩ := hs 0 d σ rfl h
    obtain ⟨σ', h4, h5⟩ := forL_inv I (ds := ds) (k := k + 1) (σ := σ2) h3 fun i d' σ' hd hi => by
      have := hs (i + 1) d' σ' (by simpa using hd) (by rw [show k + (i + 1) = k + 1 + i by omega]; exact hi)
      rw [show k + (i + 1) + 1 = k + 1 + i + 1 by omega] at this
      exact this
    refine ⟨σ', ?_, by rw [List.length_cons, show k + (ds.length + 1) = k + 1 + ds.length by omega]; exact h5⟩
    rw [forL_cons, h1]
    rcases h2 with h2 | h2
    · simp [h2, h4]
    · simp [h2, h4]
/-- .. and what follows it -/
theorem loop_then {β : Type} {t : T} {f : List Sl → Option Out} {ds : List D} {σ : List Sl} {k : Out → Option β} {b : β} (I : Nat → List Sl → Prop) (h0 : I 0 σ)
    (hs : ∀ (i : Nat) d σ, ds[i]? = some d → I i σ → ∃ σ1 σ2, setT t d σ = some σ1 ∧ (f σ1 = some (.nx σ2) ∨ f σ1 = some (.ct σ2)) ∧ I (i + 1) σ2) (hk : ∀ σ', I ds.length σ' → k (.nx σ') = some b) : (forL t f ds σ).bind k = some b := by
  obtain ⟨σ', h1, h2⟩ := forL_inv I (k := 0) h0 (t := t) (f := f) (ds := ds) fun i d σ hd hi => by
    rw [Nat.zero_add] at hi ⊢
    exact hs i d σ hd hi
  rw [h1]
  rw [Nat.zero_add] at h2
  exact hk σ' h2
/-- .. where something is to be found of the result -/
theorem loop_thenE {t : T} {f : List Sl → Option Out} {ds : List D} {σ : List Sl} {β : Type} {k : Out → Option β} {P : Option β → Prop} (I : Nat → List Sl → Prop) (h0 : I 0 σ)
    (hs : ∀ (i : Nat) d σ, ds[i]? = some d → I i σ → ∃ σ1 σ2, setT t d σ = some σ1 ∧ (f σ1 = some (.nx σ2) ∨ f σ1 = some (.ct σ2)) ∧ I (i + 1) σ2) (hk : ∀ σ', I ds.length σ' → P (k (.nx σ'))) : P ((forL t f ds σ).bind k) := by
  obtain ⟨σ', h1, h2⟩ := forL_inv I (k := 0) h0 (t := t) (f := f) (ds := ds) fun i d σ hd hi => by
    rw [Nat.zero_add] at hi ⊢
    exact hs i d σ hd hi
  rw [h1]
  rw [Nat.zero_add] at h2
  exact hk σ' h2
theorem mulOk_of {i j : Int} {a b : Nat} (ha : i.natAbs < 2 ^ a) (hb : j.natAbs < 2 ^ b) (h0 : 0 < a) (h1 : 0 < b) (h : a + b ≤ 1000000) : mulOk i j = true := by
  have := wide_mul ha hb h0 h1 h
  simpa [mulOk, CMulW] using this
theorem divOk_of {j : Int} {b : Nat} (h0 : j ≠ 0) (hb : j.natAbs < 2 ^ b) (hb0 : 0 < b) (h9 : b ≤ 9000) : divOk j = true := by
  have := PySem.Flt.log2_lt_of hb0 hb
  simp [divOk, h0]
  omega
end Pv

set_option Elab.async false
set_option linter.all false
set_option maxRecDepth 100000
set_option maxHeartbeats 4000000

namespace Pv
open PySem PySem.Spec L2

/-! ### for the printed texts -/
def insC (c : Str) : D → Option D
  | .ins c' ns fs => if c' = c then some (.ins c' ns fs) else none
  | _ => none
/-- a class's making: its __init__'s value -/
def valI (c : Str) (Z : Sm) (b : List S) (k m : Nat) (ds : List D) : Option D := (evI0 c Z b k m ds).bind (insC c)
theorem valI_ins {c : Str} {Z : Sm} {b : List S} {k m : Nat} {ds : List D} {d : D} (h : valI c Z b k m ds = some d) : ∃ ns fs, d = .ins c ns fs := by
  obtain ⟨x, h1, h2⟩ := bnd h
  cases x <;> simp only [insC] at h2 <;> try cases h2
  split at h2
  · rename_i hc
    cases h2
    exact ⟨_, _, by rw [hc]⟩
  · cases h2
theorem valI_spec {c : Str} {Z : Sm} {b : List S} {k m : Nat} {ds : List D} {d : D} (h : valI c Z b k m ds = some d) : evI0 c Z b k m ds = some d := by
  obtain ⟨x, h1, h2⟩ := bnd h
  cases x <;> simp only [insC] at h2 <;> try cases h2
  split at h2
  · cases h2; exact h1
  · cases h2
theorem fn_no {P : Program} {w : World} {K : PySem.W.Frag} {mg : Str → Option Value} {base : Heap} {x qual : Str} {st : Stmt} {f : Addr} {fd : FuncData} {ps : List Str} {k : Nat} (Fn : Fun K x qual st f fd) :
    FnOk P w K mg base CX0 k f fd ps (spF K fun _ => none) :=
  ⟨fun vs H Q E ⟨ds, d, G, _, _, h, _⟩ => (by cases h), fun A outer s H args us vs Q E hr he hb hv ⟨ds, d, G, _, _, h, _⟩ => (by cases h)⟩
theorem vals_get : ∀ {zs : List V} {ws : List Value} (i : Nat), Vals zs ws → (zs[i]? = none ∧ ws[i]? = none) ∨ ∃ z w, zs[i]? = some z ∧ ws[i]? = some w ∧ RelV z w
  | _, _, _, .nil => .inl ⟨by simp, by simp⟩
  | _, _, 0, .cons r t => .inr ⟨_, _, rfl, rfl, r⟩
  | _, _, i + 1, .cons r t => by
    rcases vals_get i t with ⟨a, b⟩ | ⟨z, w, a, b, c⟩
    · exact .inl ⟨by simpa using a, by simpa using b⟩
    · exact .inr ⟨z, w, by simpa using a, by simpa using b, c⟩
theorem vals_perm {zs : List V} {ws : List Value} (r : Vals zs ws) : ∀ pm : List Nat, Vals (pm.filterMap (zs[·]?)) (pm.filterMap (ws[·]?))
  | [] => .nil
  | i :: pm => by
    have ih := vals_perm r pm
    rw [List.filterMap_cons, List.filterMap_cons]
    rcases vals_get i r with ⟨a, b⟩ | ⟨z, w, a, b, c⟩
    · rw [a, b]; exact ih
    · rw [a, b]; exact .cons c ih
theorem kw_at {P : Program} {w : World} {K : PySem.W.Frag} {mg : Str → Option Value} {base : Heap} {lv : Nat} {x : Str} {ks : List Str} {pm : List Nat} {F : List D → Option D} {f : Addr} {fd : FuncData} {ps : List Str}
    (hm : mg x = some (.ref f)) (hk : PySem.W.keepIn K (.ref f) = true) (hb : ∀ (s : Shared) (ws : List Value), ws.length = ks.length → BindsTo s fd ⟨[], ks.zip ws⟩ (ps.zip (pm.filterMap (ws[·]?)))) (hF : FnOk P w K mg base CX0 lv f fd ps (spF K F)) :
    KwAt P w K mg base lv x ks pm F :=
  ⟨f, fd, ps, fun _ ws => pm.filterMap (ws[·]?), fun _ zs => pm.filterMap (zs[·]?), hm, hk, ⟨fun s us ws _ l1 l2 => by
    have : us = [] := List.eq_nil_of_length_eq_zero l1
    subst this
    exact hb s ws l2, fun _ r => vals_perm r pm⟩, fun _ => rfl, hF⟩
/-- isinstance of an own class's instance and a built-in type -/
theorem kit_sub {K : PySem.W.Frag} {C : Addr} (t : Ty) (h : PySem.W.subIn K (.ref C) (.type (sT t)) = some false) : PySem.W.kitOne K (.ref C) (.type (sT t)) = some false := by
  have m : PySem.W.kitMeta (sT t) = true := by cases t <;> decide +kernel
  have b : (Value.ref C == Value.type (sT t)) = false := by cases t <;> rfl
  unfold PySem.W.kitOne PySem.W.kitCls
  rw [b]
  simp only [Bool.false_eq_true, if_false, m, if_true]
  exact h
theorem findM_mem : ∀ {l : List (Str × Str × Nat)} {c m : Str} {k : Nat}, findM l c m = some k → (c, m, k) ∈ l
  | [], _, _, _, h => by simp [findM] at h
  | (c', m', k') :: r, c, m, k, h => by
    simp only [findM] at h
    split at h
    · rename_i e
      cases h
      rw [e.1, e.2]
      exact List.mem_cons_self
    · exact List.mem_cons_of_mem _ (findM_mem h)
end Pv

set_option Elab.async false
set_option linter.all false
set_option maxRecDepth 100000
set_option maxHeartbeats 4000000

namespace Pv
open PySem PySem.Spec L2

/-! ### == of data with itself -/
mutual
theorem eqv_self : ∀ d : D, D.plain d = true → PyData.eqv (D.toP d) (D.toP d) = true
  | .non, _ => by simp [D.toP, PyData.eqv]
  | .bl _, _ => by simp [D.toP, PyData.eqv]
  | .int _, _ => by simp [D.toP, PyData.eqv]
  | .str _, _ => by simp [D.toP, PyData.eqv]
  | .lst ds, h => by
    simp only [D.plain] at h
    simp only [D.toP, PyData.eqv]
    exact eqvAll_self ds h
  | .tup ds, h => by
    simp only [D.plain] at h
    simp only [D.toP, PyData.eqv]
    exact eqvAll_self ds h
  | .dct _ _, h => by simp [D.plain] at h
  | .ins _ _ _, h => by simp [D.plain] at h
  | .scr _, h => by simp [D.plain] at h
theorem eqvAll_self : ∀ ds : List D, D.plainL ds = true → PyData.eqvAll (D.toPL ds) (D.toPL ds) = true
  | [], _ => by simp [D.toPL, PyData.eqvAll]
  | d :: ds, h => by
    simp only [D.plainL, Bool.and_eq_true] at h
    simp only [D.toPL, PyData.eqvAll, Bool.and_eq_true]
    exact ⟨eqv_self d h.1, eqvAll_self ds h.2⟩
end
theorem eqD_self {d : D} (h : D.shp d = true) : eqD d d = some true := by
  have hp : D.plain d = true := by
    simp only [D.shp, Bool.and_eq_true] at h
    exact h.1
  unfold eqD
  rw [h]
  simp only [Bool.and_self, Bool.or_true, if_true]
  exact congrArg some (eqv_self d hp)
/-! ### plain data that may be laid: its depth by a number -/
mutual
def D.layB : Nat → D → Bool
  | _, .non => true | _, .bl _ => true | _, .int _ => true
  | _, .str x => PyData.strOk (mkS x)
  | n + 1, .lst ds => D.layL n ds
  | n + 1, .tup ds => D.layL n ds
  | _, _ => false
def D.layL : Nat → List D → Bool
  | _, [] => true
  | n, d :: ds => D.layB n d && D.layL n ds
end
mutual
theorem layB_ok : ∀ (n : Nat) (d : D), D.layB n d = true → D.plain d = true ∧ (D.toP d).canLay0 = true ∧ (D.toP d).depth ≤ n
  | _, .non, _ => by simp [D.plain, D.toP, PyData.canLay0, PyData.depth]
  | _, .bl _, _ => by simp [D.plain, D.toP, PyData.canLay0, PyData.depth]
  | _, .int _, _ => by simp [D.plain, D.toP, PyData.canLay0, PyData.depth]
  | _, .str x, h => by
    simp only [D.layB] at h
    simp [D.plain, D.toP, PyData.canLay0, PyData.depth, h]
  | n + 1, .lst ds, h => by
    simp only [D.layB] at h
    obtain ⟨a, b, c⟩ := layL_ok n ds h
    simp only [D.plain, D.toP, PyData.canLay0, PyData.depth]
    exact ⟨a, b, by omega⟩
  | n + 1, .tup ds, h => by
    simp only [D.layB] at h
    obtain ⟨a, b, c⟩ := layL_ok n ds h
    simp only [D.plain, D.toP, PyData.canLay0, PyData.depth]
    exact ⟨a, b, by omega⟩
  | 0, .lst ds, h => by simp [D.layB] at h
  | 0, .tup ds, h => by simp [D.layB] at h
  | _, .dct _ _, h => by simp [D.layB] at h
  | _, .ins _ _ _, h => by simp [D.layB] at h
  | _, .scr _, h => by simp [D.layB] at h
theorem layL_ok : ∀ (n : Nat) (ds : List D), D.layL n ds = true → D.plainL ds = true ∧ PyData.canLayAll0 (D.toPL ds) = true ∧ PyData.depthAll (D.toPL ds) ≤ n
  | n, [], _ => by simp [D.plainL, D.toPL, PyData.canLayAll0, PyData.depthAll]
  | n, d :: ds, h => by
    simp only [D.layL, Bool.and_eq_true] at h
    obtain ⟨a, b, c⟩ := layB_ok n d h.1
    obtain ⟨a', b', c'⟩ := layL_ok n ds h.2
    simp only [D.plainL, D.toPL, PyData.canLayAll0, PyData.depthAll, Bool.and_eq_true]
    exact ⟨⟨a, a'⟩, ⟨b, b'⟩, by omega⟩
end
theorem shp_of {d : D} {n : Nat} (h : D.layB n d = true) (hn : n ≤ 64) : D.shp d = true := by
  obtain ⟨a, b, c⟩ := layB_ok n d h
  simp only [D.shp, SeqAt.shaped, Bool.and_eq_true, decide_eq_true_eq]
  exact ⟨a, b, by omega⟩
theorem layL_all {n : Nat} : ∀ {ds : List D}, (∀ d ∈ ds, D.layB n d = true) → D.layL n ds = true
  | [], _ => rfl
  | d :: ds, h => by
    simp only [D.layL, Bool.and_eq_true]
    exact ⟨h d List.mem_cons_self, layL_all fun x hx => h x (List.mem_cons_of_mem _ hx)⟩
end Pv

set_option Elab.async false
set_option linter.all false
set_option maxRecDepth 100000
set_option maxHeartbeats 4000000
namespace Pv
open PySem L2
/-! ### one statement after the other -/
/-- what follows a statement, kept shut -/
def rest (Z : Sm) (r : List S) (o : Out) : Option Out := thenS Z r o
theorem rest_nx (Z : Sm) (r : List S) (σ : List Sl) : rest Z r (.nx σ) = evSs Z r σ := id rfl
@[simp] theorem rest_rt (Z : Sm) (r : List S) (d : D) : rest Z r (.rt d) = some (.rt d) := id rfl
@[simp] theorem rest_bk (Z : Sm) (r : List S) (σ : List Sl) : rest Z r (.bk σ) = some (.bk σ) := id rfl
@[simp] theorem rest_ct (Z : Sm) (r : List S) (σ : List Sl) : rest Z r (.ct σ) = some (.ct σ) := id rfl
theorem evSs_consR (Z : Sm) (s : S) (r : List S) (σ : List Sl) : evSs Z (s :: r) σ = (evS Z s σ).bind (rest Z r) := by
  rw [evSs_cons]
  congr 1
theorem getV_ne {σ : List Sl} {i j : Nat} {x : Sl} (h : i ≠ j) : getV (σ.set i x) j = getV σ j := by
  unfold getV
  rw [List.getElem?_set_ne h]
theorem getV_eq {σ : List Sl} {i : Nat} {d : D} (h : i < σ.length) : getV (σ.set i (.v d)) i = some d := by
  unfold getV
  rw [List.getElem?_set_self h]
end Pv

set_option Elab.async false
set_option linter.all false
set_option maxRecDepth 100000
set_option maxHeartbeats 4000000
namespace Pv
open PySem PySem.Spec L2
/-! ### of use in all laws (first written for k08) -/
theorem lcL_eq {t : T} {c e : List Sl → Option D} {σ : List Sl} (p : D → Bool) (g : D → D) : ∀ ds : List D, (∀ d ∈ ds, ∃ σ1, setT t d σ = some σ1 ∧ (c σ1).bind truth = some (p d) ∧ (p d = true → e σ1 = some (g d))) → lcL t c e σ ds = some ((ds.filter p).map g)
  | [], _ => rfl
  | d :: ds, h => by
    obtain ⟨σ1, h1, h2, h3⟩ := h d List.mem_cons_self
    have ih := lcL_eq p g ds fun x hx => h x (List.mem_cons_of_mem _ hx)
    simp only [lcL, h1, bind_someX, h2]
    cases hp : p d
    · rw [List.filter_cons_of_neg (by simp [hp])]
      exact ih
    · rw [List.filter_cons_of_pos hp]
      show ((e σ1).bind _) = _
      rw [h3 hp, bind_someX, ih]
      rfl
/-- all items are kept -/
theorem lcL_map {t : T} {c e : List Sl → Option D} {σ : List Sl} (g : D → D) (ds : List D) (h : ∀ d ∈ ds, ∃ σ1, setT t d σ = some σ1 ∧ (c σ1).bind truth = some true ∧ e σ1 = some (g d)) : lcL t c e σ ds = some (ds.map g) := by
  have := lcL_eq (t := t) (c := c) (e := e) (σ := σ) (fun _ => true) g ds fun d hd => let ⟨σ1, a, b, f⟩ := h d hd; ⟨σ1, a, b, fun _ => f⟩
  rw [List.filter_eq_self.mpr (by simp)] at this
  exact this
theorem rng_eq : ∀ (n : Nat) (lo : Int), rngD lo n = (List.range n).map fun k => D.int (lo + (k : Nat))
  | 0, _ => rfl
  | n + 1, lo => by
    rw [List.range_succ_eq_map, List.map_cons, List.map_map]
    simp only [rngD, rng_eq n (lo + 1)]
    congr 1
    · simp
    · apply List.map_congr_left
      intro k _
      simp only [Function.comp]
      congr 1
      omega
/-- over range(n), by place -/
theorem lcL_rng {i : Nat} {c e : List Sl → Option D} {σ : List Sl} {n : Nat} (g : Nat → D) (h : ∀ k, k < n → (c (σ.set i (.v (.int (k : Nat))))).bind truth = some true ∧ e (σ.set i (.v (.int (k : Nat)))) = some (g k)) :
    lcL (.nm i) c e σ (rngD 0 n) = some ((List.range n).map g) := by
  rw [rng_eq]
  have key : ∀ l : List Nat, (∀ k ∈ l, k < n) → lcL (.nm i) c e σ (l.map fun k => D.int (0 + (k : Nat))) = some (l.map g) := by
    intro l
    induction l with
    | nil => intro _; rfl
    | cons k l ih =>
      intro hl
      obtain ⟨h1, h2⟩ := h k (hl k List.mem_cons_self)
      rw [List.map_cons, Int.zero_add]
      simp only [lcL, setT_nm, bind_someX, h1]
      show ((e _).bind _) = _
      rw [h2, bind_someX, ih fun j hj => hl j (List.mem_cons_of_mem _ hj)]
      rfl
  exact key _ fun k hk => List.mem_range.mp hk
theorem range_zip {α : Type} (f : Nat → Nat → α) (x y : List Nat) (h : x.length = y.length) : ((List.range x.length).map fun k => f (x[k]?.getD 0) (y[k]?.getD 0)) = List.zipWith f x y := by
  apply List.ext_getElem?
  intro k
  rw [List.getElem?_map, List.getElem?_zipWith]
  by_cases hk : k < x.length
  · have hk2 : k < y.length := by omega
    rw [List.getElem?_range hk, List.getElem?_eq_getElem hk, List.getElem?_eq_getElem hk2]
    simp [hk, hk2]
  · rw [List.getElem?_eq_none (by simpa using hk)]
    have : x[k]? = none := List.getElem?_eq_none (by omega)
    rw [this]
    rfl
/-- ''.join of single signs -/
theorem join_signs {α : Type} (f : α → Nat) (l : List α) (h : l.length ≤ 16777216) : joinD (.str []) (.lst (l.map fun a => D.str [f a])) = some (.str (l.map f)) := by
  have e : (l.map fun a => D.str [f a]) = l.map fun a => D.str ((fun a => [f a]) a) := rfl
  rw [joinD_lst, e, strsD_map, bind_someX, joinN_nil]
  have h1 : (l.map fun a => [f a]).flatten = l.map f := by
    clear h e
    induction l with
    | nil => rfl
    | cons a l ih => simpa using ih
  have h2 : joinOk [] (l.map fun a => [f a]) = true := by
    unfold joinOk
    rw [decide_eq_true_eq]
    have : ((l.map fun a => [f a]).map (·.length)).sum = l.length := by
      clear h e h1
      induction l with
      | nil => rfl
      | cons a l ih => simp only [List.map_cons, List.sum_cons, List.length_cons, List.length_nil] at ih ⊢; omega
    rw [this]
    simpa using h
  rw [h2, h1]
  rfl
theorem atI_k {α : Type} {x : List α} {k : Nat} (h : k < x.length) : atI x ((k : Nat) : Int) = some x[k] := atI_of (by omega) (by simp [h])
/-- a loop that is left early where something is found, else goes through -/
theorem forL_find {t : T} {f : List Sl → Option Out} (p : D → Bool) (r : D) (I : List Sl → Prop) : ∀ {ds : List D} {σ : List Sl}, I σ →
    (∀ d ∈ ds, ∀ σ, I σ → ∃ σ1, setT t d σ = some σ1 ∧ ((p d = true ∧ f σ1 = some (.rt r)) ∨ (p d = false ∧ ∃ σ2, f σ1 = some (.nx σ2) ∧ I σ2))) →
    (ds.any p = true ∧ forL t f ds σ = some (.rt r)) ∨ (ds.any p = false ∧ ∃ σ', forL t f ds σ = some (.nx σ') ∧ I σ')
  | [], σ, h, _ => .inr ⟨rfl, σ, rfl, h⟩
  | d :: ds, σ, h, hs => by
    obtain ⟨σ1, h1, h2⟩ := hs d List.mem_cons_self σ h
    rw [List.any_cons, forL_cons, h1]
    rcases h2 with ⟨hp, hf⟩ | ⟨hp, σ2, hf, hI⟩
    · left
      rw [hp]
      exact ⟨rfl, by simp [hf]⟩
    · rw [hp, Bool.false_or]
      simp only [bind_someX, hf, turnO_nx]
      exact forL_find p r I hI fun d' hd => hs d' (List.mem_cons_of_mem _ hd)
theorem zip_any (P : Nat → Nat → Bool) : ∀ x y : List Nat, (x.zip y).any (fun p => P p.1 p.2) = (List.zipWith P x y).any id
  | [], _ => by simp
  | _ :: _, [] => by simp
  | a :: x, b :: y => by simp [zip_any P x y]
theorem range_any (P : Nat → Nat → Bool) (x y : List Nat) (h : x.length = y.length) : ((List.range x.length).any fun k => P (x[k]?.getD 0) (y[k]?.getD 0)) = (x.zip y).any fun p => P p.1 p.2 := by
  have := range_zip P x y h
  rw [zip_any, ← this, List.any_map]
  rfl
theorem lcL_rngF {i : Nat} {c e : List Sl → Option D} {σ : List Sl} {n : Nat} (p : Nat → Bool) (g : Nat → D) (h : ∀ k, k < n → (c (σ.set i (.v (.int (k : Nat))))).bind truth = some (p k) ∧ (p k = true → e (σ.set i (.v (.int (k : Nat)))) = some (g k))) :
    lcL (.nm i) c e σ (rngD 0 n) = some (((List.range n).filter p).map g) := by
  rw [rng_eq]
  have key : ∀ l : List Nat, (∀ k ∈ l, k < n) → lcL (.nm i) c e σ (l.map fun k => D.int (0 + (k : Nat))) = some ((l.filter p).map g) := by
    intro l
    induction l with
    | nil => intro _; rfl
    | cons k l ih =>
      intro hl
      obtain ⟨h1, h2⟩ := h k (hl k List.mem_cons_self)
      have ih := ih fun j hj => hl j (List.mem_cons_of_mem _ hj)
      rw [List.map_cons, Int.zero_add]
      simp only [lcL, setT_nm, bind_someX, h1]
      cases hp : p k
      · rw [List.filter_cons_of_neg (by simp [hp])]
        exact ih
      · rw [List.filter_cons_of_pos hp]
        show ((e _).bind _) = _
        rw [h2 hp, bind_someX, ih]
        rfl
  exact key _ fun k hk => List.mem_range.mp hk
theorem inD_ints (k : Nat) : ∀ l : List Nat, inD (.int (k : Nat)) (l.map fun j => D.int (j : Nat)) = some (decide (k ∈ l)) := by
  intro l
  have hf : (flatD (.int (k : Nat)) && (l.map fun j => D.int (j : Nat)).all flatD) = true := by
    rw [Bool.and_eq_true]
    refine ⟨rfl, ?_⟩
    rw [List.all_map, List.all_eq_true]
    intro a _
    rfl
  unfold inD
  rw [if_pos hf, List.any_map]
  congr 1
  rw [Bool.eq_iff_iff]
  simp [eqb_int]
  constructor
  · rintro ⟨a, h1, h2⟩
    have : a = k := by omega
    rw [← this]; exact h1
  · intro h
    exact ⟨k, h, rfl⟩
theorem zipD_str (x y : List Nat) : zipD (x.map fun c => D.str [c]) (y.map fun c => D.str [c]) = (x.zip y).map fun p => D.tup [.str [p.1], .str [p.2]] := by
  induction x generalizing y with
  | nil => simp [zipD]
  | cons a x ih =>
    cases y with
    | nil => simp [zipD]
    | cons b y => simp [zipD, ih]
def low (x : List Nat) : Prop := ∀ c ∈ x, c < 128
theorem low_ok {x : List Nat} (h : low x) : PyData.strOk (mkS x) = true := by
  unfold PyData.strOk
  rw [← Array.all_toList, List.all_eq_true]
  intro c hc
  have := h c (by simpa using hc)
  simp
  omega
theorem lcL_of {α : Type} {t : T} {c e : List Sl → Option D} {σ : List Sl} (mk : α → D) (p : α → Bool) (g : α → D) : ∀ as : List α, (∀ a ∈ as, ∃ σ1, setT t (mk a) σ = some σ1 ∧ (c σ1).bind truth = some (p a) ∧ (p a = true → e σ1 = some (g a))) → lcL t c e σ (as.map mk) = some ((as.filter p).map g)
  | [], _ => rfl
  | a :: as, h => by
    obtain ⟨σ1, h1, h2, h3⟩ := h a List.mem_cons_self
    have ih := lcL_of mk p g as fun x hx => h x (List.mem_cons_of_mem _ hx)
    rw [List.map_cons]
    simp only [lcL, h1, bind_someX, h2]
    cases hp : p a
    · rw [List.filter_cons_of_neg (by simp [hp])]
      exact ih
    · rw [List.filter_cons_of_pos hp]
      show ((e σ1).bind _) = _
      rw [h3 hp, bind_someX, ih]
      rfl
theorem lay_strs {l : List (List Nat)} (h : ∀ x ∈ l, low x) : D.layL 0 (l.map D.str) = true := by
  apply layL_all
  intro d hd
  rw [List.mem_map] at hd
  obtain ⟨x, hx, rfl⟩ := hd
  exact low_ok (h x hx)
theorem eq_strs {l : List (List Nat)} (h : ∀ x ∈ l, low x) : eqD (.lst (l.map D.str)) (.lst (l.map D.str)) = some true :=
  eqD_self (shp_of (n := 1) (by simp only [D.layB]; exact lay_strs h) (by decide))
theorem eq_strsT {l : List (List Nat)} (h : ∀ x ∈ l, low x) : eqD (.tup (l.map D.str)) (.tup (l.map D.str)) = some true :=
  eqD_self (shp_of (n := 1) (by simp only [D.layB]; exact lay_strs h) (by decide))
theorem forL_okE {β : Type} {t : T} {f : List Sl → Option Out} {k : Out → Option β} {P : Option β → Prop} (I : List Sl → Prop) : ∀ {ds : List D} {σ : List Sl}, I σ →
    (∀ d ∈ ds, ∀ σ, I σ → ∃ σ1 σ2, setT t d σ = some σ1 ∧ f σ1 = some (.nx σ2) ∧ I σ2) → (∀ σ', I σ' → P (k (.nx σ'))) → P ((forL t f ds σ).bind k)
  | [], σ, h, _, hk => by simpa using hk σ h
  | d :: ds, σ, h, hs, hk => by
    obtain ⟨σ1, σ2, h1, h2, h3⟩ := hs d List.mem_cons_self σ h
    have ih := forL_okE I (ds := ds) h3 (fun d' hd => hs d' (List.mem_cons_of_mem _ hd)) hk
    rw [forL_cons, h1]
    simp only [bind_someX, h2, turnO_nx]
    exact ih
def IsI (o : Option D) : Prop := ∃ z, o = some (.int z)
theorem fmodp (a b : Int) (h : 0 < b) : 0 ≤ a.fmod b ∧ a.fmod b < b := by
  rw [Int.fmod_eq_emod_of_nonneg _ (by omega)]
  exact ⟨Int.emod_nonneg _ (by omega), Int.emod_lt_of_pos _ h⟩
theorem fdivp (a b : Int) (ha : 0 ≤ a) (h : 0 < b) : 0 ≤ a.fdiv b ∧ a.fdiv b ≤ a := by
  rw [Int.fdiv_eq_ediv_of_nonneg _ (by omega)]
  exact ⟨Int.ediv_nonneg ha (by omega), Int.ediv_le_self b ha⟩
/-- digits below their sizes -/
def Dg : List Int → List Int → Prop
  | [], [] => True
  | d :: ds, s :: ss => (0 ≤ d ∧ d < s) ∧ Dg ds ss
  | _, _ => False
theorem Dg.snoc : ∀ {ds ss : List Int} {d s : Int}, Dg ds ss → 0 ≤ d → d < s → Dg (ds ++ [d]) (ss ++ [s])
  | [], [], d, s, _, h1, h2 => ⟨⟨h1, h2⟩, trivial⟩
  | [], _ :: _, _, _, h, _, _ => h.elim
  | _ :: _, [], _, _, h, _, _ => h.elim
  | a :: ds, b :: ss, d, s, h, h1, h2 => ⟨h.1, Dg.snoc h.2 h1 h2⟩
theorem Dg.len : ∀ {ds ss : List Int}, Dg ds ss → ds.length = ss.length
  | [], [], _ => rfl
  | [], _ :: _, h => h.elim
  | _ :: _, [], h => h.elim
  | a :: ds, b :: ss, h => by simp [Dg.len h.2]
theorem take_snoc {ss : List Int} {i : Nat} {s : Int} (h : ss[i]? = some s) : ss.take (i + 1) = ss.take i ++ [s] := by
  rw [List.take_add_one, h]; rfl
theorem atI_in {α : Type} {xs : List α} {i : Int} (h0 : 0 ≤ i) (h1 : i < xs.length) : ∃ x, atI xs i = some x ∧ x ∈ xs := by
  have : i.toNat < xs.length := by omega
  exact ⟨xs[i.toNat], atI_of h0 (by simp [this]), List.getElem_mem this⟩
def pick {α : Type} [Inhabited α] (menu : List α) (z : Int) : α := menu.getD (z.fmod menu.length).toNat default
theorem pick_at {α : Type} [Inhabited α] {menu : List α} (h : menu ≠ []) (z : Int) : atI menu (z.fmod menu.length) = some (pick menu z) ∧ pick menu z ∈ menu := by
  have hp : 0 < menu.length := List.length_pos_iff.mpr h
  obtain ⟨a, b⟩ := fmodp z menu.length (by omega)
  have hb : (z.fmod menu.length).toNat < menu.length := by omega
  have e : menu[(z.fmod menu.length).toNat]? = some (pick menu z) := by
    unfold pick
    rw [List.getD_eq_getElem?_getD, List.getElem?_eq_getElem hb]
    rfl
  exact ⟨atI_of a e, List.mem_of_getElem? e⟩
theorem pick_w {α : Type} [Inhabited α] {menu : List α} {w : Int} (hw : (menu.length : Int) = w) (h0 : 0 < w) (z : Int) : atI menu (z.fmod w) = some (pick menu z) ∧ pick menu z ∈ menu := by
  rw [← hw]
  exact pick_at (by rintro rfl; simp at hw; omega) z
theorem cut_to {α : Type} (xs : List α) (k : Int) (h0 : 0 ≤ k) : cutD xs none (some k) = xs.take k.toNat := by
  obtain ⟨n, rfl⟩ := Int.eq_ofNat_of_zero_le h0
  unfold cutD
  rw [HT.sIx_none, HT.sIx_nat, Nat.sub_zero, List.drop_zero]
  by_cases h : n ≤ xs.length
  · rw [Nat.min_eq_left h]; rfl
  · rw [Nat.min_eq_right (by omega), List.take_length]
    exact (List.take_of_length_le (by simp; omega)).symm
theorem cut_from {α : Type} (xs : List α) (k : Int) (h0 : 0 ≤ k) : cutD xs (some k) none = xs.drop k.toNat := by
  obtain ⟨n, rfl⟩ := Int.eq_ofNat_of_zero_le h0
  unfold cutD
  rw [HT.sIx_none, HT.sIx_nat]
  by_cases h : n ≤ xs.length
  · rw [Nat.min_eq_left h]
    exact List.take_of_length_le (by simp)
  · rw [Nat.min_eq_right (by omega)]
    simp
    omega
theorem cut_mid {α : Type} (xs : List α) (a b : Int) (h0 : 0 ≤ a) (h1 : 0 ≤ b) : cutD xs (some a) (some b) = (xs.drop a.toNat).take (b.toNat - a.toNat) := by
  obtain ⟨n, rfl⟩ := Int.eq_ofNat_of_zero_le h0
  obtain ⟨m, rfl⟩ := Int.eq_ofNat_of_zero_le h1
  unfold cutD
  rw [HT.sIx_nat, HT.sIx_nat]
  simp only [Int.toNat_natCast]
  by_cases h : n ≤ xs.length
  · rw [Nat.min_eq_left h]
    by_cases h' : m ≤ xs.length
    · rw [Nat.min_eq_left h']
    · rw [Nat.min_eq_right (by omega)]
      rw [List.take_of_length_le (by simp), List.take_of_length_le (by simp; omega)]
  · rw [Nat.min_eq_right (by omega : xs.length ≤ n)]
    rw [List.drop_of_length_le (Nat.le_refl _), List.drop_of_length_le (by omega)]
    simp
theorem nodup_of_inj {α β : Type} (f : α → β) : ∀ {l : List α}, l.Nodup → (∀ a ∈ l, ∀ b ∈ l, f a = f b → a = b) → (l.map f).Nodup
  | [], _, _ => List.nodup_nil
  | a :: l, h, hf => by
    rw [List.nodup_cons] at h
    rw [List.map_cons, List.nodup_cons]
    refine ⟨?_, nodup_of_inj f h.2 fun x hx y hy => hf x (List.mem_cons_of_mem _ hx) y (List.mem_cons_of_mem _ hy)⟩
    intro hm
    obtain ⟨b, hb, e⟩ := List.mem_map.mp hm
    have := hf a List.mem_cons_self b (List.mem_cons_of_mem _ hb) e.symm
    rw [this] at h
    exact h.1 hb
theorem nodup_range {β : Type} (f : Nat → β) (n : Nat) (hf : ∀ a, a < n → ∀ b, b < n → f a = f b → a = b) : ((List.range n).map f).Nodup :=
  nodup_of_inj f List.nodup_range fun a ha b hb => hf a (List.mem_range.mp ha) b (List.mem_range.mp hb)
theorem atG (ds : List Int) (k : Nat) (h : k < ds.length) : atI (ds.map D.int) ((k : Nat) : Int) = some (.int (ds.getD k 0)) := by
  refine atI_nat ?_
  rw [List.getElem?_map, List.getD_eq_getElem?_getD, List.getElem?_eq_getElem h]
  rfl
theorem join_signsC (f : Nat → Nat) (n : Nat) (h : n ≤ 1000) : joinD (.str []) (.lst ((List.range n).map fun k => D.str [f k])) = some (.str ((List.range n).map f)) := join_signs f (List.range n) (by simp; omega)
/-- the comprehension over range(many) -/
theorem lcL_names {c e : List Sl → Option D} {σ : List Sl} {i : Nat} {many : Nat} (g : Nat → List Nat) (h : ∀ k, k < many → (c (σ.set i (.v (.int (k : Nat))))).bind truth = some true ∧ e (σ.set i (.v (.int (k : Nat)))) = some (.str (g k))) :
    lcL (.nm i) c e σ (rngD 0 many) = some (((List.range many).map g).map D.str) := by
  rw [lcL_rng (fun k => D.str (g k)) h, List.map_map]
  rfl
theorem fmE (z w : Int) (h : 0 < w) : z.fmod w = z % w := Int.fmod_eq_emod_of_nonneg z (by omega)
theorem pick_inj {α : Type} [Inhabited α] {menu : List α} {w : Nat} (hw : menu.length = w) (hinj : ∀ i j : Fin w, menu[i.val]? = menu[j.val]? → i = j) (hw0 : 0 < w) {x y : Int} (h : pick menu x = pick menu y) : x.fmod w = y.fmod w := by
  obtain ⟨a0, a1⟩ := fmodp x w (by omega)
  obtain ⟨b0, b1⟩ := fmodp y w (by omega)
  unfold pick at h
  rw [hw] at h
  have ha : (x.fmod w).toNat < menu.length := by omega
  have hb : (y.fmod w).toNat < menu.length := by omega
  rw [List.getD_eq_getElem?_getD, List.getD_eq_getElem?_getD, List.getElem?_eq_getElem ha, List.getElem?_eq_getElem hb] at h
  simp only [Option.getD_some] at h
  have := hinj ⟨(x.fmod w).toNat, by omega⟩ ⟨(y.fmod w).toNat, by omega⟩ (by simp only [List.getElem?_eq_getElem ha, List.getElem?_eq_getElem hb, h])
  have := congrArg Fin.val this
  simp only at this
  omega
theorem allInts_map (ds : List Int) : allInts (ds.map D.int) = some ds := by
  induction ds with
  | nil => rfl
  | cons a r ih => simp [allInts, ih]
theorem cutS_to (w : List Nat) (k : Nat) : cutD w none (some (k : Int)) = w.take k := by
  have := cut_to w (k : Int) (by omega)
  simpa using this
theorem cutS_from (w : List Nat) (k : Nat) : cutD w (some (k : Int)) none = w.drop k := by
  have := cut_from w (k : Int) (by omega)
  simpa using this
theorem atI_lit {α : Type} (xs : List α) (k : Nat) : atI xs (no_index (OfNat.ofNat k) : Int) = xs[k]? := by
  have e : (OfNat.ofNat k : Int) = (k : Int) := rfl
  rw [e]
  cases h : xs[k]? with
  | none =>
    have hk : xs.length ≤ k := List.getElem?_eq_none_iff.mp h
    unfold atI ixN
    rw [if_pos (by omega), if_neg (by omega)]
    rfl
  | some x => exact atI_nat h
theorem Dg.get : ∀ {ds ss : List Int} {k : Nat} {s : Int}, Dg ds ss → ss[k]? = some s → ∃ d, ds[k]? = some d ∧ 0 ≤ d ∧ d < s
  | [], [], _, _, _, h => by simp at h
  | [], _ :: _, _, _, h, _ => h.elim
  | _ :: _, [], _, _, h, _ => h.elim
  | d :: ds, s :: ss, 0, _, h, e => by
    simp at e
    subst e
    exact ⟨d, rfl, h.1⟩
  | d :: ds, s :: ss, k + 1, _, h, e => by
    simp at e
    obtain ⟨d', a, b⟩ := Dg.get h.2 e
    exact ⟨d', by simpa using a, b⟩
theorem lcL_ints {c e : List Sl → Option D} {σ : List Sl} {i : Nat} {many : Nat} (g : Nat → Int) (h : ∀ k, k < many → (c (σ.set i (.v (.int (k : Nat))))).bind truth = some true ∧ e (σ.set i (.v (.int (k : Nat)))) = some (.int (g k))) :
    lcL (.nm i) c e σ (rngD 0 many) = some (((List.range many).map g).map D.int) := by
  rw [lcL_rng (fun k => D.int (g k)) h, List.map_map]
  rfl
theorem fil1 (a : Nat) : ∀ l : List Nat, l.Nodup → l.length ≤ (l.filter fun x => !(x == a)).length + 1
  | [], _ => by simp
  | x :: l, h => by
    rw [List.nodup_cons] at h
    by_cases e : x = a
    · subst e
      have : (l.filter fun y => !(y == x)) = l := by
        rw [List.filter_eq_self]
        intro y hy
        simp
        rintro rfl
        exact h.1 hy
      rw [List.filter_cons_of_neg (by simp), this]
      simp
    · rw [List.filter_cons_of_pos (by simp [e])]
      have := fil1 a l h.2
      simp only [List.length_cons]
      omega
theorem fil3 (a b c : Nat) (l : List Nat) (h : l.Nodup) : l.length ≤ (l.filter fun x => !decide (x ∈ [a, b, c])).length + 3 := by
  have h1 := fil1 a l h
  have n1 : (l.filter fun x => !(x == a)).Nodup := h.filter _
  have h2 := fil1 b _ n1
  have n2 : ((l.filter fun x => !(x == a)).filter fun x => !(x == b)).Nodup := n1.filter _
  have h3 := fil1 c _ n2
  rw [List.filter_filter, List.filter_filter] at h3
  have e : (l.filter fun x => !decide (x ∈ [a, b, c])) = (l.filter fun x => !(x == c) && (!(x == b) && !(x == a))) := by
    congr 1
    funext x
    simp only [List.mem_cons, List.not_mem_nil, or_false]
    by_cases ha : x = a <;> by_cases hb : x = b <;> by_cases hc : x = c <;> simp [ha, hb, hc]
  rw [e]
  simp only [List.filter_filter] at h2
  omega
theorem dlook_none {ks vs : List D} {x : List Nat} (h : ∀ k ∈ ks, ∃ y, k = .str y ∧ y ≠ x) : dlook ks vs (.inr (mkS x)) = none := by
  induction ks generalizing vs with
  | nil => simp [dlook]
  | cons k ks ih =>
    cases vs with
    | nil => simp [dlook]
    | cons v vs =>
      obtain ⟨y, rfl, hy⟩ := h k List.mem_cons_self
      have : ¬ D.key (.str y) = some (.inr (mkS x)) := by
        simp only [D.key]
        intro z
        have := Sum.inr.inj (Option.some.inj z)
        exact hy (mkS_eq.mp this)
      simp only [dlook, if_neg this]
      exact ih fun k hk => h k (List.mem_cons_of_mem _ hk)
theorem hasK_none {ks : List D} {x : List Nat} (h : ∀ k ∈ ks, ∃ y, k = .str y ∧ y ≠ x) : hasK ks (.inr (mkS x)) = false := by
  unfold hasK
  rw [List.any_eq_false]
  intro k hk
  obtain ⟨y, rfl, hy⟩ := h k hk
  intro z
  exact hy (mkS_eq.mp (Sum.inr.inj (Option.some.inj (of_decide_eq_true z))))
theorem forL_ex {t : T} {f : List Sl → Option Out} (I : List Sl → Prop) {ds : List D} {σ : List Sl} (h : I σ) (hs : ∀ d ∈ ds, ∀ σ, I σ → ∃ σ1 σ2, setT t d σ = some σ1 ∧ f σ1 = some (.nx σ2) ∧ I σ2) : ∃ σ', forL t f ds σ = some (.nx σ') ∧ I σ' := by
  induction ds generalizing σ with
  | nil => exact ⟨σ, rfl, h⟩
  | cons d ds ih =>
    obtain ⟨σ1, σ2, h1, h2, h3⟩ := hs d List.mem_cons_self σ h
    obtain ⟨σ', h4, h5⟩ := ih h3 fun d' hd => hs d' (List.mem_cons_of_mem _ hd)
    refine ⟨σ', ?_, h5⟩
    rw [forL_cons, h1]
    simp only [bind_someX, h2, turnO_nx]
    exact h4
end Pv

set_option Elab.async false
set_option linter.all false
set_option maxRecDepth 100000
set_option maxHeartbeats 4000000
namespace K01
open PySem L2 Pv
def top (i : Nat) : Stmt := PySem.Challenge.pw_stampsheets_k01_layers_combined.main.body.getD i (.Pass ⟨0, 0, 0, 0⟩)
def mtd (i j : Nat) : Stmt := match top i with | .ClassDef _ _ _ b _ _ _ _ _ _ _ => b.getD j (.Pass ⟨0, 0, 0, 0⟩) | _ => .Pass ⟨0, 0, 0, 0⟩
def blts : List Str := ["bool", "int", "isinstance", "len", "list", "max", "range", "sorted", "str", "tuple", "zip"]
def cval : Nat → Option D
  | 0 => some (.str [45, 46, 97, 98, 99, 100, 101, 102, 103, 104, 105, 106, 107, 108, 109, 110, 111, 112, 113, 114, 115, 116, 117, 118, 119, 120, 121, 122])
  | _ => none
/-! ### _law_cell -/
abbrev s_L_cell : Stmt := top 14
def N_L_cell : List Str := ["_law_script", "_law_k", "_law_seed", "_law_cell_here"]
def ir_L_cell : List S := [.ifs (.cmp .lt (.v 1) (.blt .len [.v 0])) [.ret (.ix (.v 0) (.v 1))] [],
    .asg (.nm 2) (.c (.int 17)),
    .for_ (.nm 3) (.seq (.v 0)) [.asg (.nm 2) (.bin .mod (.blt .int [.bin .add (.bin .mul (.v 2) (.c (.int 31))) (.bin .mod (.blt .int [.v 3]) (.c (.int 1000003)))]) (.c (.int 1000003)))],
    .ret (.bin .mod (.blt .int [.bin .mul (.bin .mul (.bin .add (.v 2) (.c (.int 7))) (.bin .add (.v 1) (.c (.int 3)))) (.c (.int 69621))]) (.c (.int 2147483647)))]
def T_L_cell : Nat → List D → Option D := fun _ _ => none
def Z_L_cell : Sm := { F := T_L_cell, C := cval, L := [], M := [], P := [], K := [] }
def Y_L_cell : Stat := { N := N_L_cell, Z := Z_L_cell, fns := [], cns := [], bl := blts, gcd := false, lv := 0, kws := [], mks := [], srts := [] }
def F_L_cell (ds : List D) : Option D := evF Z_L_cell ir_L_cell 2 4 ds
theorem ck_L_cell : ckSs Y_L_cell ir_L_cell (defScope s_L_cell) (fun _ => true) (defBody s_L_cell) = true := by decide +kernel
theorem sc_L_cell : FnScope N_L_cell ["_law_script", "_law_k"] (defScope s_L_cell) := ⟨rfl, rfl, rfl, by decide +kernel, rfl, by decide +kernel, by decide +kernel⟩
/-! ### _law_draw -/
abbrev s_L_draw : Stmt := top 15
def N_L_draw : List Str := ["_law_script", "_law_k", "_law_sizes", "_law_out", "_law_rest", "_law_seed", "_law_spot", "_law_base", "_law_twice"]
def ir_L_draw : List S := [.own 3 [],
    .asg (.nm 4) (.blt .int [.call 11 [.v 0, .v 1]]),
    .ifs (.cmp .ge (.v 4) (.bin .pow (.c (.int 10)) (.c (.int 18)))) [.asg (.nm 4) (.bin .sub (.v 4) (.bin .pow (.c (.int 10)) (.c (.int 18)))), .for_ (.nm 7) (.seq (.v 2)) [.app 3 (.bin .mod (.blt .int [.v 4]) (.v 7)), .asg (.nm 4) (.bin .fdiv (.blt .int [.v 4]) (.v 7))], .frz 3, .ret (.v 3)] [],
    .asg (.nm 5) (.bin .mod (.blt .int [.bin .add (.v 4) (.bin .mul (.c (.int 7919)) (.v 1))]) (.c (.int 2147483629))),
    .for_ (.nm 6) (.r1 (.blt .len [.v 2])) [.asg (.nm 5) (.bin .mod (.blt .int [.bin .add (.bin .add (.bin .mul (.v 5) (.c (.int 48271))) (.bin .mul (.c (.int 974711)) (.v 6))) (.c (.int 12345))]) (.c (.int 2147483647))), .asg (.nm 8) (.bin .mod (.blt .int [.bin .mul (.v 5) (.bin .add (.bin .fdiv (.v 5) (.c (.int 65537))) (.c (.int 3)))]) (.c (.int 2147483629))), .app 3 (.bin .mod (.bin .fdiv (.v 8) (.c (.int 19))) (.ix (.v 2) (.v 6)))],
    .frz 3,
    .ret (.v 3)]
def T_L_draw : Nat → List D → Option D
  | 11 => F_L_cell
  | _ => fun _ => none
def Z_L_draw : Sm := { F := T_L_draw, C := cval, L := [], M := [], P := [], K := [] }
def Y_L_draw : Stat := { N := N_L_draw, Z := Z_L_draw, fns := [(11, "_law_cell")], cns := [], bl := blts, gcd := false, lv := 1, kws := [], mks := [], srts := [] }
def F_L_draw (ds : List D) : Option D := evF Z_L_draw ir_L_draw 3 9 ds
theorem ck_L_draw : ckSs Y_L_draw ir_L_draw (defScope s_L_draw) (fun _ => true) (defBody s_L_draw) = true := by decide +kernel
theorem sc_L_draw : FnScope N_L_draw ["_law_script", "_law_k", "_law_sizes"] (defScope s_L_draw) := ⟨rfl, rfl, rfl, by decide +kernel, rfl, by decide +kernel, by decide +kernel⟩
/-! ### _law_size -/
abbrev s_L_size : Stmt := top 16
def N_L_size : List Str := ["_law_digit"]
def ir_L_size : List S := [.ifs (.cmp .lt (.v 0) (.c (.int 30))) [.ret (.bin .add (.v 0) (.c (.int 1)))] [],
    .ret (.ix (.lst [.c (.int 1), .c (.int 2), .c (.int 3), .c (.int 4), .c (.int 5), .c (.int 6), .c (.int 7), .c (.int 8), .c (.int 4), .c (.int 30)]) (.bin .mod (.blt .int [.bin .sub (.v 0) (.c (.int 30))]) (.c (.int 10))))]
def T_L_size : Nat → List D → Option D := fun _ _ => none
def Z_L_size : Sm := { F := T_L_size, C := cval, L := [], M := [], P := [], K := [] }
def Y_L_size : Stat := { N := N_L_size, Z := Z_L_size, fns := [], cns := [], bl := blts, gcd := false, lv := 0, kws := [], mks := [], srts := [] }
def F_L_size (ds : List D) : Option D := evF Z_L_size ir_L_size 1 1 ds
theorem ck_L_size : ckSs Y_L_size ir_L_size (defScope s_L_size) (fun _ => true) (defBody s_L_size) = true := by decide +kernel
theorem sc_L_size : FnScope N_L_size ["_law_digit"] (defScope s_L_size) := ⟨rfl, rfl, rfl, by decide +kernel, rfl, by decide +kernel, by decide +kernel⟩
/-! ### _law_inks -/
abbrev s_L_inks : Stmt := top 17
def N_L_inks : List Str := ["_law_spots", "_law_alls", "_law_first", "_law_second_here", "_law_third"]
def ir_L_inks : List S := [.asg (.nm 1) (.c (.str [46, 97, 98, 99, 100, 101, 102, 103, 104, 105, 106, 107, 108, 109, 110, 111, 112, 113, 114, 115, 116, 117, 118, 119, 120, 121, 122])),
    .ifs (.cmp .eq (.ix (.v 0) (.c (.int 0))) (.c (.int 0))) [.ret (.v 1)] [],
    .asg (.nm 2) (.bin .mul (.blt .int [.ix (.v 0) (.c (.int 2))]) (.blt .int [.cmp .lt (.ix (.v 0) (.c (.int 1))) (.c (.int 2))])),
    .asg (.nm 3) (.bin .mod (.bin .add (.bin .add (.v 2) (.c (.int 1))) (.blt .int [.ix (.v 0) (.c (.int 3))])) (.c (.int 27))),
    .asg (.nm 4) (.bin .mod (.bin .add (.bin .add (.v 2) (.c (.int 1))) (.blt .int [.ix (.v 0) (.c (.int 4))])) (.c (.int 27))),
    .ifs (.cmp .eq (.v 4) (.v 3)) [.asg (.nm 4) (.bin .mod (.bin .add (.v 2) (.c (.int 26))) (.c (.int 27)))] [],
    .ret (.sl (.bin .add (.bin .add (.ix (.v 1) (.v 2)) (.ix (.v 1) (.v 3))) (.ix (.v 1) (.v 4))) .nil (.last (.ix (.lst [.c (.int 3), .c (.int 3), .c (.int 3), .c (.int 2)]) (.ix (.v 0) (.c (.int 0))))))]
def T_L_inks : Nat → List D → Option D := fun _ _ => none
def Z_L_inks : Sm := { F := T_L_inks, C := cval, L := [], M := [], P := [], K := [] }
def Y_L_inks : Stat := { N := N_L_inks, Z := Z_L_inks, fns := [], cns := [], bl := blts, gcd := false, lv := 0, kws := [], mks := [], srts := [] }
def F_L_inks (ds : List D) : Option D := evF Z_L_inks ir_L_inks 1 5 ds
theorem ck_L_inks : ckSs Y_L_inks ir_L_inks (defScope s_L_inks) (fun _ => true) (defBody s_L_inks) = true := by decide +kernel
theorem sc_L_inks : FnScope N_L_inks ["_law_spots"] (defScope s_L_inks) := ⟨rfl, rfl, rfl, by decide +kernel, rfl, by decide +kernel, by decide +kernel⟩
/-! ### _law_layer -/
abbrev s_L_layer : Stmt := top 18
def N_L_layer : List Str := ["_law_inks_here", "_law_share", "_law_spots", "_law_wide", "_law_text", "_law_k"]
def ir_L_layer : List S := [.asg (.nm 4) (.c (.str [])),
    .for_ (.nm 5) (.r1 (.v 3)) [.asg (.nm 4) (.bin .add (.v 4) (.ix (.lst [.c (.str [45]), .ix (.v 0) (.bin .mod (.bin .fdiv (.blt .int [.ix (.v 2) (.v 5)]) (.c (.int 4))) (.blt .len [.v 0]))]) (.blt .int [.cmp .ge (.bin .mod (.blt .int [.ix (.v 2) (.v 5)]) (.c (.int 4))) (.v 1)])))],
    .ret (.v 4)]
def T_L_layer : Nat → List D → Option D := fun _ _ => none
def Z_L_layer : Sm := { F := T_L_layer, C := cval, L := [], M := [], P := [], K := [] }
def Y_L_layer : Stat := { N := N_L_layer, Z := Z_L_layer, fns := [], cns := [], bl := blts, gcd := false, lv := 0, kws := [], mks := [], srts := [] }
def F_L_layer (ds : List D) : Option D := evF Z_L_layer ir_L_layer 4 6 ds
theorem ck_L_layer : ckSs Y_L_layer ir_L_layer (defScope s_L_layer) (fun _ => true) (defBody s_L_layer) = true := by decide +kernel
theorem sc_L_layer : FnScope N_L_layer ["_law_inks_here", "_law_share", "_law_spots", "_law_wide"] (defScope s_L_layer) := ⟨rfl, rfl, rfl, by decide +kernel, rfl, by decide +kernel, by decide +kernel⟩
/-! ### _law_other -/
abbrev s_L_other : Stmt := top 19
def N_L_other : List Str := ["_law_mark", "_law_step", "_law_alls"]
def ir_L_other : List S := [.asg (.nm 2) (.c (.str [46, 97, 98, 99, 100, 101, 102, 103, 104, 105, 106, 107, 108, 109, 110, 111, 112, 113, 114, 115, 116, 117, 118, 119, 120, 121, 122])),
    .ifs (.cmp .eq (.v 0) (.c (.str [45]))) [.ret (.c (.str [45]))] [],
    .ret (.ix (.v 2) (.bin .mod (.bin .add (.bin .add (.sidx (.v 2) (.v 0)) (.c (.int 1))) (.blt .int [.v 1])) (.c (.int 27))))]
def T_L_other : Nat → List D → Option D := fun _ _ => none
def Z_L_other : Sm := { F := T_L_other, C := cval, L := [], M := [], P := [], K := [] }
def Y_L_other : Stat := { N := N_L_other, Z := Z_L_other, fns := [], cns := [], bl := blts, gcd := false, lv := 0, kws := [], mks := [], srts := [] }
def F_L_other (ds : List D) : Option D := evF Z_L_other ir_L_other 2 3 ds
theorem ck_L_other : ckSs Y_L_other ir_L_other (defScope s_L_other) (fun _ => true) (defBody s_L_other) = true := by decide +kernel
theorem sc_L_other : FnScope N_L_other ["_law_mark", "_law_step"] (defScope s_L_other) := ⟨rfl, rfl, rfl, by decide +kernel, rfl, by decide +kernel, by decide +kernel⟩
/-! ### _law_second -/
abbrev s_L_second : Stmt := top 20
def N_L_second : List Str := ["_law_low", "_law_free", "_law_mode", "_law_place", "_law_step", "_law_turns", "_law_high", "_law_k", "_law_sign"]
def ir_L_second : List S := [.asg (.nm 6) (.c (.str [])),
    .for_ (.nm 7) (.r1 (.blt .len [.v 0])) [.asg (.nm 8) (.ix (.v 1) (.v 7)), .ifs (.and (.cmp .ne (.ix (.v 0) (.v 7)) (.c (.str [45]))) (.last (.cmp .ge (.v 2) (.c (.int 2))))) [.asg (.nm 8) (.ix (.lst [.ix (.v 0) (.v 7), .c (.str [45])]) (.blt .int [.and (.cmp .eq (.ix (.v 5) (.v 7)) (.c (.int 1))) (.last (.or (.cmp .lt (.v 2) (.c (.int 4))) (.last (.cmp .eq (.v 2) (.c (.int 8))))))]))] [], .ifs (.and (.cmp .eq (.ix (.v 0) (.v 7)) (.c (.str [45]))) (.last (.cmp .ge (.v 2) (.c (.int 7))))) [.asg (.nm 8) (.c (.str [45]))] [], .ifs (.and (.cmp .eq (.v 7) (.v 3)) (.last (.cmp .isin (.v 2) (.tup [.c (.int 3), .c (.int 6), .c (.int 9)])))) [.asg (.nm 8) (.call 16 [.ix (.v 0) (.v 7), .v 4])] [], .ifs (.and (.cmp .eq (.v 7) (.v 3)) (.last (.cmp .eq (.v 2) (.c (.int 5))))) [.asg (.nm 8) (.c (.str [45]))] [], .asg (.nm 6) (.bin .add (.v 6) (.v 8))],
    .ret (.v 6)]
def T_L_second : Nat → List D → Option D
  | 16 => F_L_other
  | _ => fun _ => none
def Z_L_second : Sm := { F := T_L_second, C := cval, L := [], M := [], P := [], K := [] }
def Y_L_second : Stat := { N := N_L_second, Z := Z_L_second, fns := [(16, "_law_other")], cns := [], bl := blts, gcd := false, lv := 1, kws := [], mks := [], srts := [] }
def F_L_second (ds : List D) : Option D := evF Z_L_second ir_L_second 6 9 ds
theorem ck_L_second : ckSs Y_L_second ir_L_second (defScope s_L_second) (fun _ => true) (defBody s_L_second) = true := by decide +kernel
theorem sc_L_second : FnScope N_L_second ["_law_low", "_law_free", "_law_mode", "_law_place", "_law_step", "_law_turns"] (defScope s_L_second) := ⟨rfl, rfl, rfl, by decide +kernel, rfl, by decide +kernel, by decide +kernel⟩
/-! ### _law_close -/
abbrev s_L_close : Stmt := top 21
def N_L_close : List Str := ["_law_text", "_law_place", "_law_number", "_law_signs", "_law_at"]
def ir_L_close : List S := [.asg (.nm 3) (.c (.str [45, 46, 97, 98, 99, 100, 101, 102, 103, 104, 105, 106, 107, 108, 109, 110, 111, 112, 113, 114, 115, 116, 117, 118, 119, 120, 121, 122])),
    .asg (.nm 4) (.bin .mod (.bin .add (.sidx (.v 3) (.ix (.v 0) (.v 1))) (.blt .int [.v 2])) (.c (.int 28))),
    .ret (.bin .add (.bin .add (.sl (.v 0) .nil (.last (.v 1))) (.ix (.v 3) (.v 4))) (.sl (.v 0) (.last (.bin .add (.v 1) (.c (.int 1)))) .nil))]
def T_L_close : Nat → List D → Option D := fun _ _ => none
def Z_L_close : Sm := { F := T_L_close, C := cval, L := [], M := [], P := [], K := [] }
def Y_L_close : Stat := { N := N_L_close, Z := Z_L_close, fns := [], cns := [], bl := blts, gcd := false, lv := 0, kws := [], mks := [], srts := [] }
def F_L_close (ds : List D) : Option D := evF Z_L_close ir_L_close 3 5 ds
theorem ck_L_close : ckSs Y_L_close ir_L_close (defScope s_L_close) (fun _ => true) (defBody s_L_close) = true := by decide +kernel
theorem sc_L_close : FnScope N_L_close ["_law_text", "_law_place", "_law_number"] (defScope s_L_close) := ⟨rfl, rfl, rfl, by decide +kernel, rfl, by decide +kernel, by decide +kernel⟩
/-! ### _law_layers -/
abbrev s_L_layers : Stmt := top 22
def N_L_layers : List Str := ["_law_script", "_law_at", "_law_inks_here", "_law_wide", "_law_many", "_law_layers_here", "_law_k", "_law_spots", "_law_text"]
def ir_L_layers : List S := [.own 5 [],
    .for_ (.nm 6) (.r1 (.v 4)) [.asg (.nm 7) (.call 12 [.v 0, .bin .add (.v 1) (.v 6), .bin .add (.lst [.c (.int 4), .c (.int 40), .c (.int 840), .c (.int 28), .c (.int 5)]) (.bin .mul (.lst [.c (.int 112)]) (.c (.int 30)))]), .asg (.nm 8) (.call 15 [.v 2, .ix (.v 7) (.c (.int 4)), .sl (.v 7) (.last (.c (.int 5))) .nil, .v 3]), .ifs (.and (.cmp .gt (.v 6) (.c (.int 0))) (.last (.cmp .eq (.ix (.v 7) (.c (.int 0))) (.c (.int 0))))) [.asg (.nm 8) (.ixo 5 (.bin .mod (.ix (.v 7) (.c (.int 1))) (.v 6)))] [], .ifs (.and (.cmp .gt (.v 6) (.c (.int 0))) (.last (.cmp .eq (.ix (.v 7) (.c (.int 0))) (.c (.int 1))))) [.asg (.nm 8) (.call 18 [.ixo 5 (.bin .mod (.ix (.v 7) (.c (.int 1))) (.v 6)), .bin .mod (.ix (.v 7) (.c (.int 2))) (.v 3), .ix (.v 7) (.c (.int 3))])] [], .app 5 (.v 8)],
    .frz 5,
    .ret (.v 5)]
def T_L_layers : Nat → List D → Option D
  | 12 => F_L_draw
  | 15 => F_L_layer
  | 18 => F_L_close
  | _ => fun _ => none
def Z_L_layers : Sm := { F := T_L_layers, C := cval, L := [], M := [], P := [], K := [] }
def Y_L_layers : Stat := { N := N_L_layers, Z := Z_L_layers, fns := [(12, "_law_draw"), (15, "_law_layer"), (18, "_law_close")], cns := [], bl := blts, gcd := false, lv := 2, kws := [], mks := [], srts := [] }
def F_L_layers (ds : List D) : Option D := evF Z_L_layers ir_L_layers 5 9 ds
theorem ck_L_layers : ckSs Y_L_layers ir_L_layers (defScope s_L_layers) (fun _ => true) (defBody s_L_layers) = true := by decide +kernel
theorem sc_L_layers : FnScope N_L_layers ["_law_script", "_law_at", "_law_inks_here", "_law_wide", "_law_many"] (defScope s_L_layers) := ⟨rfl, rfl, rfl, by decide +kernel, rfl, by decide +kernel, by decide +kernel⟩
/-! ### agree -/
abbrev s_agree : Stmt := top 3
def N_agree : List Str := ["one", "two", "first", "second"]
def ir_agree : List S := [.for_ (.tp [2, 3]) (.zip (.v 0) (.v 1)) [.ifs (.and (.cmp .ne (.v 2) (.c (.str [45]))) (.and (.cmp .ne (.v 3) (.c (.str [45]))) (.last (.cmp .ne (.v 2) (.v 3))))) [.ret (.c (.bl false))] []],
    .ret (.c (.bl true))]
def T_agree : Nat → List D → Option D := fun _ _ => none
def Z_agree : Sm := { F := T_agree, C := cval, L := [], M := [], P := [], K := [] }
def Y_agree : Stat := { N := N_agree, Z := Z_agree, fns := [], cns := [], bl := blts, gcd := false, lv := 0, kws := [], mks := [], srts := [] }
def F_agree (ds : List D) : Option D := evF Z_agree ir_agree 2 4 ds
theorem ck_agree : ckSs Y_agree ir_agree (defScope s_agree) (fun _ => true) (defBody s_agree) = true := by decide +kernel
theorem sc_agree : FnScope N_agree ["one", "two"] (defScope s_agree) := ⟨rfl, rfl, rfl, by decide +kernel, rfl, by decide +kernel, by decide +kernel⟩
/-! ### within -/
abbrev s_within : Stmt := top 4
def N_within : List Str := ["one", "two", "first", "second"]
def ir_within : List S := [.for_ (.tp [2, 3]) (.zip (.v 0) (.v 1)) [.ifs (.and (.cmp .ne (.v 2) (.c (.str [45]))) (.last (.cmp .ne (.v 2) (.v 3)))) [.ret (.c (.bl false))] []],
    .ret (.c (.bl true))]
def T_within : Nat → List D → Option D := fun _ _ => none
def Z_within : Sm := { F := T_within, C := cval, L := [], M := [], P := [], K := [] }
def Y_within : Stat := { N := N_within, Z := Z_within, fns := [], cns := [], bl := blts, gcd := false, lv := 0, kws := [], mks := [], srts := [] }
def F_within (ds : List D) : Option D := evF Z_within ir_within 2 4 ds
theorem ck_within : ckSs Y_within ir_within (defScope s_within) (fun _ => true) (defBody s_within) = true := by decide +kernel
theorem sc_within : FnScope N_within ["one", "two"] (defScope s_within) := ⟨rfl, rfl, rfl, by decide +kernel, rfl, by decide +kernel, by decide +kernel⟩
/-! ### press -/
abbrev s_press : Stmt := top 11
def N_press : List Str := ["one", "two", "below", "above"]
def ir_press : List S := [.ret (.join (.c (.str [])) (.lc [("below", 2), ("above", 3)] (.tp [2, 3]) (.zip (.v 0) (.v 1)) (.c (.bl true)) (.ite (.cmp .eq (.v 3) (.c (.str [45]))) (.v 2) (.v 3))))]
def T_press : Nat → List D → Option D := fun _ _ => none
def Z_press : Sm := { F := T_press, C := cval, L := [], M := [], P := [], K := [] }
def Y_press : Stat := { N := N_press, Z := Z_press, fns := [], cns := [], bl := blts, gcd := false, lv := 0, kws := [], mks := [], srts := [] }
def F_press (ds : List D) : Option D := evF Z_press ir_press 2 4 ds
theorem ck_press : ckSs Y_press ir_press (defScope s_press) (fun _ => true) (defBody s_press) = true := by decide +kernel
theorem sc_press : FnScope N_press ["one", "two"] (defScope s_press) := ⟨rfl, rfl, rfl, by decide +kernel, rfl, by decide +kernel, by decide +kernel⟩
/-! ### joined -/
abbrev s_joined : Stmt := top 5
def N_joined : List Str := ["one", "two"]
def ir_joined : List S := [.ifs (.not (.call 1 [.v 0, .v 1])) [.ret (.c .non)] [],
    .ret (.call 9 [.v 0, .v 1])]
def T_joined : Nat → List D → Option D
  | 1 => F_agree
  | 9 => F_press
  | _ => fun _ => none
def Z_joined : Sm := { F := T_joined, C := cval, L := [], M := [], P := [], K := [] }
def Y_joined : Stat := { N := N_joined, Z := Z_joined, fns := [(1, "agree"), (9, "press")], cns := [], bl := blts, gcd := false, lv := 1, kws := [], mks := [], srts := [] }
def F_joined (ds : List D) : Option D := evF Z_joined ir_joined 2 2 ds
theorem ck_joined : ckSs Y_joined ir_joined (defScope s_joined) (fun _ => true) (defBody s_joined) = true := by decide +kernel
theorem sc_joined : FnScope N_joined ["one", "two"] (defScope s_joined) := ⟨rfl, rfl, rfl, by decide +kernel, rfl, by decide +kernel, by decide +kernel⟩
/-! ### _law_agree -/
abbrev s_L_agree : Stmt := top 23
def N_L_agree : List Str := ["_law_low", "_law_high", "_law_k"]
def ir_L_agree : List S := [.for_ (.nm 2) (.r1 (.blt .len [.v 0])) [.ifs (.and (.cmp .ne (.ix (.v 0) (.v 2)) (.c (.str [45]))) (.and (.cmp .ne (.ix (.v 1) (.v 2)) (.c (.str [45]))) (.last (.cmp .ne (.ix (.v 0) (.v 2)) (.ix (.v 1) (.v 2)))))) [.ret (.c (.bl false))] []],
    .ret (.c (.bl true))]
def T_L_agree : Nat → List D → Option D := fun _ _ => none
def Z_L_agree : Sm := { F := T_L_agree, C := cval, L := [], M := [], P := [], K := [] }
def Y_L_agree : Stat := { N := N_L_agree, Z := Z_L_agree, fns := [], cns := [], bl := blts, gcd := false, lv := 0, kws := [], mks := [], srts := [] }
def F_L_agree (ds : List D) : Option D := evF Z_L_agree ir_L_agree 2 3 ds
theorem ck_L_agree : ckSs Y_L_agree ir_L_agree (defScope s_L_agree) (fun _ => true) (defBody s_L_agree) = true := by decide +kernel
theorem sc_L_agree : FnScope N_L_agree ["_law_low", "_law_high"] (defScope s_L_agree) := ⟨rfl, rfl, rfl, by decide +kernel, rfl, by decide +kernel, by decide +kernel⟩
/-! ### _law_pair -/
abbrev s_L_pair : Stmt := top 24
def N_L_pair : List Str := ["_law_low", "_law_high", "_law_by_name", "_law_inside", "_law_due", "_law_told_here", "_law_k"]
def ir_L_pair : List S := [.ifs (.v 2) [.asg (.nm 5) (.lst [.callK 1 ["two", "one"] [1, 0] [.v 1, .v 0], .callK 2 ["two", "one"] [1, 0] [.v 1, .v 0], .callK 3 ["two", "one"] [1, 0] [.v 1, .v 0]])] [.asg (.nm 5) (.lst [.call 1 [.v 0, .v 1], .call 2 [.v 0, .v 1], .call 3 [.v 0, .v 1]])],
    .ifs (.or (.not (.isi (.ix (.v 5) (.c (.int 0))) [.bool] false)) (.last (.not (.isi (.ix (.v 5) (.c (.int 1))) [.bool] false)))) [.ret (.c (.bl false))] [],
    .ifs (.cmp .ne (.ix (.v 5) (.c (.int 0))) (.call 20 [.v 0, .v 1])) [.ret (.c (.bl false))] [],
    .asg (.nm 3) (.lc [("_law_k", 6)] (.nm 6) (.r1 (.blt .len [.v 0])) (.or (.cmp .eq (.ix (.v 0) (.v 6)) (.c (.str [45]))) (.last (.cmp .eq (.ix (.v 0) (.v 6)) (.ix (.v 1) (.v 6))))) (.v 6)),
    .ifs (.cmp .ne (.ix (.v 5) (.c (.int 1))) (.cmp .eq (.blt .len [.v 3]) (.blt .len [.v 0]))) [.ret (.c (.bl false))] [],
    .ifs (.not (.ix (.v 5) (.c (.int 0)))) [.ret (.cmp .is (.ix (.v 5) (.c (.int 2))) (.c .non))] [],
    .asg (.nm 4) (.join (.c (.str [])) (.lc [("_law_k", 6)] (.nm 6) (.r1 (.blt .len [.v 0])) (.c (.bl true)) (.ix (.lst [.ix (.v 0) (.v 6), .ix (.v 1) (.v 6)]) (.blt .int [.cmp .eq (.ix (.v 0) (.v 6)) (.c (.str [45]))])))),
    .ret (.and (.isi (.ix (.v 5) (.c (.int 2))) [.str] false) (.last (.cmp .eq (.ix (.v 5) (.c (.int 2))) (.v 4))))]
def T_L_pair : Nat → List D → Option D
  | 1 => F_agree
  | 2 => F_within
  | 3 => F_joined
  | 20 => F_L_agree
  | _ => fun _ => none
def Z_L_pair : Sm := { F := T_L_pair, C := cval, L := [], M := [], P := [], K := [] }
def Y_L_pair : Stat := { N := N_L_pair, Z := Z_L_pair, fns := [(1, "agree"), (2, "within"), (3, "joined"), (20, "_law_agree")], cns := [], bl := blts, gcd := false, lv := 2, kws := [(1, "agree", ["two", "one"], [1, 0]), (2, "within", ["two", "one"], [1, 0]), (3, "joined", ["two", "one"], [1, 0])], mks := [], srts := [] }
def F_L_pair (ds : List D) : Option D := evF Z_L_pair ir_L_pair 3 7 ds
theorem ck_L_pair : ckSs Y_L_pair ir_L_pair (defScope s_L_pair) (fun _ => true) (defBody s_L_pair) = true := by decide +kernel
theorem sc_L_pair : FnScope N_L_pair ["_law_low", "_law_high", "_law_by_name"] (defScope s_L_pair) := ⟨rfl, rfl, rfl, by decide +kernel, rfl, by decide +kernel, by decide +kernel⟩
/-! ### cells_of -/
abbrev s_cells_of : Stmt := top 2
def N_cells_of : List Str := ["one", "cell"]
def ir_cells_of : List S := [.ret (.blt .tuple [.lc [("cell", 1)] (.nm 1) (.r1 (.blt .len [.v 0])) (.cmp .ne (.ix (.v 0) (.v 1)) (.c (.str [45]))) (.v 1)])]
def T_cells_of : Nat → List D → Option D := fun _ _ => none
def Z_cells_of : Sm := { F := T_cells_of, C := cval, L := [], M := [], P := [], K := [] }
def Y_cells_of : Stat := { N := N_cells_of, Z := Z_cells_of, fns := [], cns := [], bl := blts, gcd := false, lv := 0, kws := [], mks := [], srts := [] }
def F_cells_of (ds : List D) : Option D := evF Z_cells_of ir_cells_of 1 2 ds
theorem ck_cells_of : ckSs Y_cells_of ir_cells_of (defScope s_cells_of) (fun _ => true) (defBody s_cells_of) = true := by decide +kernel
theorem sc_cells_of : FnScope N_cells_of ["one"] (defScope s_cells_of) := ⟨rfl, rfl, rfl, by decide +kernel, rfl, by decide +kernel, by decide +kernel⟩
/-! ### _law_whole -/
abbrev s_L_whole : Stmt := top 13
def N_L_whole : List Str := ["_law_value"]
def ir_L_whole : List S := [.ret (.and (.isi (.v 0) [.int] false) (.last (.not (.isi (.v 0) [.bool] false))))]
def T_L_whole : Nat → List D → Option D := fun _ _ => none
def Z_L_whole : Sm := { F := T_L_whole, C := cval, L := [], M := [], P := [], K := [] }
def Y_L_whole : Stat := { N := N_L_whole, Z := Z_L_whole, fns := [], cns := [], bl := blts, gcd := false, lv := 0, kws := [], mks := [], srts := [] }
def F_L_whole (ds : List D) : Option D := evF Z_L_whole ir_L_whole 1 1 ds
theorem ck_L_whole : ckSs Y_L_whole ir_L_whole (defScope s_L_whole) (fun _ => true) (defBody s_L_whole) = true := by decide +kernel
theorem sc_L_whole : FnScope N_L_whole ["_law_value"] (defScope s_L_whole) := ⟨rfl, rfl, rfl, by decide +kernel, rfl, by decide +kernel, by decide +kernel⟩
/-! ### _law_cells -/
abbrev s_L_cells : Stmt := top 25
def N_L_cells : List Str := ["_law_low", "_law_by_name", "_law_cell_here", "_law_told_here", "_law_k"]
def ir_L_cells : List S := [.ifs (.v 1) [.asg (.nm 3) (.callK 0 ["one"] [0] [.v 0])] [.asg (.nm 3) (.call 0 [.v 0])],
    .ifs (.not (.isi (.v 3) [.tuple] false)) [.ret (.c (.bl false))] [],
    .for_ (.nm 2) (.seq (.v 3)) [.ifs (.not (.call 10 [.v 2])) [.ret (.c (.bl false))] []],
    .ret (.cmp .eq (.v 3) (.blt .tuple [.lc [("_law_k", 4)] (.nm 4) (.r1 (.blt .len [.v 0])) (.cmp .ne (.ix (.v 0) (.v 4)) (.c (.str [45]))) (.v 4)]))]
def T_L_cells : Nat → List D → Option D
  | 0 => F_cells_of
  | 10 => F_L_whole
  | _ => fun _ => none
def Z_L_cells : Sm := { F := T_L_cells, C := cval, L := [], M := [], P := [], K := [] }
def Y_L_cells : Stat := { N := N_L_cells, Z := Z_L_cells, fns := [(0, "cells_of"), (10, "_law_whole")], cns := [], bl := blts, gcd := false, lv := 1, kws := [(0, "cells_of", ["one"], [0])], mks := [], srts := [] }
def F_L_cells (ds : List D) : Option D := evF Z_L_cells ir_L_cells 2 5 ds
theorem ck_L_cells : ckSs Y_L_cells ir_L_cells (defScope s_L_cells) (fun _ => true) (defBody s_L_cells) = true := by decide +kernel
theorem sc_L_cells : FnScope N_L_cells ["_law_low", "_law_by_name"] (defScope s_L_cells) := ⟨rfl, rfl, rfl, by decide +kernel, rfl, by decide +kernel, by decide +kernel⟩
/-! ### freed -/
abbrev s_freed : Stmt := top 6
def N_freed : List Str := ["one", "chosen", "cell"]
def ir_freed : List S := [.ret (.join (.c (.str [])) (.lc [("cell", 2)] (.nm 2) (.r1 (.blt .len [.v 0])) (.c (.bl true)) (.ite (.cmp .isin (.v 2) (.v 1)) (.c (.str [45])) (.ix (.v 0) (.v 2)))))]
def T_freed : Nat → List D → Option D := fun _ _ => none
def Z_freed : Sm := { F := T_freed, C := cval, L := [], M := [], P := [], K := [] }
def Y_freed : Stat := { N := N_freed, Z := Z_freed, fns := [], cns := [], bl := blts, gcd := false, lv := 0, kws := [], mks := [], srts := [] }
def F_freed (ds : List D) : Option D := evF Z_freed ir_freed 2 3 ds
theorem ck_freed : ckSs Y_freed ir_freed (defScope s_freed) (fun _ => true) (defBody s_freed) = true := by decide +kernel
theorem sc_freed : FnScope N_freed ["one", "chosen"] (defScope s_freed) := ⟨rfl, rfl, rfl, by decide +kernel, rfl, by decide +kernel, by decide +kernel⟩
/-! ### kept_at -/
abbrev s_kept_at : Stmt := top 7
def N_kept_at : List Str := ["one", "chosen", "cell"]
def ir_kept_at : List S := [.ret (.join (.c (.str [])) (.lc [("cell", 2)] (.nm 2) (.r1 (.blt .len [.v 0])) (.c (.bl true)) (.ite (.cmp .isin (.v 2) (.v 1)) (.ix (.v 0) (.v 2)) (.c (.str [45])))))]
def T_kept_at : Nat → List D → Option D := fun _ _ => none
def Z_kept_at : Sm := { F := T_kept_at, C := cval, L := [], M := [], P := [], K := [] }
def Y_kept_at : Stat := { N := N_kept_at, Z := Z_kept_at, fns := [], cns := [], bl := blts, gcd := false, lv := 0, kws := [], mks := [], srts := [] }
def F_kept_at (ds : List D) : Option D := evF Z_kept_at ir_kept_at 2 3 ds
theorem ck_kept_at : ckSs Y_kept_at ir_kept_at (defScope s_kept_at) (fun _ => true) (defBody s_kept_at) = true := by decide +kernel
theorem sc_kept_at : FnScope N_kept_at ["one", "chosen"] (defScope s_kept_at) := ⟨rfl, rfl, rfl, by decide +kernel, rfl, by decide +kernel, by decide +kernel⟩
/-! ### _law_chosen -/
abbrev s_L_chosen : Stmt := top 26
def N_L_chosen : List Str := ["_law_low", "_law_picked", "_law_by_name", "_law_told_here", "_law_k"]
def ir_L_chosen : List S := [.ifs (.v 2) [.asg (.nm 3) (.lst [.callK 4 ["chosen", "one"] [1, 0] [.v 1, .v 0], .callK 5 ["chosen", "one"] [1, 0] [.v 1, .v 0]])] [.asg (.nm 3) (.lst [.call 4 [.v 0, .v 1], .call 5 [.v 0, .v 1]])],
    .ifs (.or (.not (.isi (.ix (.v 3) (.c (.int 0))) [.str] false)) (.last (.not (.isi (.ix (.v 3) (.c (.int 1))) [.str] false)))) [.ret (.c (.bl false))] [],
    .ifs (.cmp .ne (.ix (.v 3) (.c (.int 0))) (.join (.c (.str [])) (.lc [("_law_k", 4)] (.nm 4) (.r1 (.blt .len [.v 0])) (.c (.bl true)) (.ix (.lst [.ix (.v 0) (.v 4), .c (.str [45])]) (.blt .int [.cmp .isin (.v 4) (.v 1)]))))) [.ret (.c (.bl false))] [],
    .ret (.cmp .eq (.ix (.v 3) (.c (.int 1))) (.join (.c (.str [])) (.lc [("_law_k", 4)] (.nm 4) (.r1 (.blt .len [.v 0])) (.c (.bl true)) (.ix (.lst [.c (.str [45]), .ix (.v 0) (.v 4)]) (.blt .int [.cmp .isin (.v 4) (.v 1)])))))]
def T_L_chosen : Nat → List D → Option D
  | 4 => F_freed
  | 5 => F_kept_at
  | _ => fun _ => none
def Z_L_chosen : Sm := { F := T_L_chosen, C := cval, L := [], M := [], P := [], K := [] }
def Y_L_chosen : Stat := { N := N_L_chosen, Z := Z_L_chosen, fns := [(4, "freed"), (5, "kept_at")], cns := [], bl := blts, gcd := false, lv := 1, kws := [(4, "freed", ["chosen", "one"], [1, 0]), (5, "kept_at", ["chosen", "one"], [1, 0])], mks := [], srts := [] }
def F_L_chosen (ds : List D) : Option D := evF Z_L_chosen ir_L_chosen 3 5 ds
theorem ck_L_chosen : ckSs Y_L_chosen ir_L_chosen (defScope s_L_chosen) (fun _ => true) (defBody s_L_chosen) = true := by decide +kernel
theorem sc_L_chosen : FnScope N_L_chosen ["_law_low", "_law_picked", "_law_by_name"] (defScope s_L_chosen) := ⟨rfl, rfl, rfl, by decide +kernel, rfl, by decide +kernel, by decide +kernel⟩
/-! ### filled -/
abbrev s_filled : Stmt := top 9
def N_filled : List Str := ["one"]
def F_filled : List D → Option D := repF 45 46
theorem ck_filled : repB 45 46 "one" (defBody s_filled) = true := by decide +kernel
theorem sc_filled : FnScope N_filled ["one"] (defScope s_filled) := ⟨rfl, rfl, rfl, by decide +kernel, rfl, by decide +kernel, by decide +kernel⟩
/-! ### empty_layer -/
abbrev s_empty_layer : Stmt := top 8
def N_empty_layer : List Str := ["size"]
def ir_empty_layer : List S := [.ret (.bin .mul (.c (.str [45])) (.v 0))]
def T_empty_layer : Nat → List D → Option D := fun _ _ => none
def Z_empty_layer : Sm := { F := T_empty_layer, C := cval, L := [], M := [], P := [], K := [] }
def Y_empty_layer : Stat := { N := N_empty_layer, Z := Z_empty_layer, fns := [], cns := [], bl := blts, gcd := false, lv := 0, kws := [], mks := [], srts := [] }
def F_empty_layer (ds : List D) : Option D := evF Z_empty_layer ir_empty_layer 1 1 ds
theorem ck_empty_layer : ckSs Y_empty_layer ir_empty_layer (defScope s_empty_layer) (fun _ => true) (defBody s_empty_layer) = true := by decide +kernel
theorem sc_empty_layer : FnScope N_empty_layer ["size"] (defScope s_empty_layer) := ⟨rfl, rfl, rfl, by decide +kernel, rfl, by decide +kernel, by decide +kernel⟩
/-! ### _law_alone -/
abbrev s_L_alone : Stmt := top 27
def N_L_alone : List Str := ["_law_low", "_law_wide", "_law_by_name", "_law_told_here", "_law_sign"]
def ir_L_alone : List S := [.ifs (.v 2) [.asg (.nm 3) (.lst [.callK 7 ["one"] [0] [.v 0], .callK 6 ["size"] [0] [.v 1]])] [.asg (.nm 3) (.lst [.call 7 [.v 0], .call 6 [.v 1]])],
    .ifs (.or (.not (.isi (.ix (.v 3) (.c (.int 0))) [.str] false)) (.last (.not (.isi (.ix (.v 3) (.c (.int 1))) [.str] false)))) [.ret (.c (.bl false))] [],
    .ret (.and (.cmp .eq (.ix (.v 3) (.c (.int 0))) (.join (.c (.str [])) (.lc [("_law_sign", 4)] (.nm 4) (.seq (.v 0)) (.c (.bl true)) (.ix (.lst [.v 4, .c (.str [46])]) (.blt .int [.cmp .eq (.v 4) (.c (.str [45]))]))))) (.last (.cmp .eq (.ix (.v 3) (.c (.int 1))) (.bin .mul (.c (.str [45])) (.v 1)))))]
def T_L_alone : Nat → List D → Option D
  | 6 => F_empty_layer
  | 7 => F_filled
  | _ => fun _ => none
def Z_L_alone : Sm := { F := T_L_alone, C := cval, L := [], M := [], P := [], K := [] }
def Y_L_alone : Stat := { N := N_L_alone, Z := Z_L_alone, fns := [(6, "empty_layer"), (7, "filled")], cns := [], bl := blts, gcd := false, lv := 1, kws := [(7, "filled", ["one"], [0]), (6, "empty_layer", ["size"], [0])], mks := [], srts := [] }
def F_L_alone (ds : List D) : Option D := evF Z_L_alone ir_L_alone 3 5 ds
theorem ck_L_alone : ckSs Y_L_alone ir_L_alone (defScope s_L_alone) (fun _ => true) (defBody s_L_alone) = true := by decide +kernel
theorem sc_L_alone : FnScope N_L_alone ["_law_low", "_law_wide", "_law_by_name"] (defScope s_L_alone) := ⟨rfl, rfl, rfl, by decide +kernel, rfl, by decide +kernel, by decide +kernel⟩
/-! ### _law_press -/
abbrev s_L_press : Stmt := top 28
def N_L_press : List Str := ["_law_low", "_law_high", "_law_k"]
def ir_L_press : List S := [.ret (.join (.c (.str [])) (.lc [("_law_k", 2)] (.nm 2) (.r1 (.blt .len [.v 0])) (.c (.bl true)) (.ix (.lst [.ix (.v 1) (.v 2), .ix (.v 0) (.v 2)]) (.blt .int [.cmp .eq (.ix (.v 1) (.v 2)) (.c (.str [45]))]))))]
def T_L_press : Nat → List D → Option D := fun _ _ => none
def Z_L_press : Sm := { F := T_L_press, C := cval, L := [], M := [], P := [], K := [] }
def Y_L_press : Stat := { N := N_L_press, Z := Z_L_press, fns := [], cns := [], bl := blts, gcd := false, lv := 0, kws := [], mks := [], srts := [] }
def F_L_press (ds : List D) : Option D := evF Z_L_press ir_L_press 2 3 ds
theorem ck_L_press : ckSs Y_L_press ir_L_press (defScope s_L_press) (fun _ => true) (defBody s_L_press) = true := by decide +kernel
theorem sc_L_press : FnScope N_L_press ["_law_low", "_law_high"] (defScope s_L_press) := ⟨rfl, rfl, rfl, by decide +kernel, rfl, by decide +kernel, by decide +kernel⟩
/-! ### _law_told -/
abbrev s_L_told : Stmt := top 29
def N_L_told : List Str := ["_law_low", "_law_high", "_law_told_here"]
def ir_L_told : List S := [.asg (.nm 2) (.call 9 [.v 0, .v 1]),
    .ifs (.or (.not (.isi (.v 2) [.str] false)) (.last (.cmp .ne (.v 2) (.call 25 [.v 0, .v 1])))) [.ret (.c .non)] [],
    .ret (.v 2)]
def T_L_told : Nat → List D → Option D
  | 9 => F_press
  | 25 => F_L_press
  | _ => fun _ => none
def Z_L_told : Sm := { F := T_L_told, C := cval, L := [], M := [], P := [], K := [] }
def Y_L_told : Stat := { N := N_L_told, Z := Z_L_told, fns := [(9, "press"), (25, "_law_press")], cns := [], bl := blts, gcd := false, lv := 1, kws := [], mks := [], srts := [] }
def F_L_told (ds : List D) : Option D := evF Z_L_told ir_L_told 2 3 ds
theorem ck_L_told : ckSs Y_L_told ir_L_told (defScope s_L_told) (fun _ => true) (defBody s_L_told) = true := by decide +kernel
theorem sc_L_told : FnScope N_L_told ["_law_low", "_law_high"] (defScope s_L_told) := ⟨rfl, rfl, rfl, by decide +kernel, rfl, by decide +kernel, by decide +kernel⟩
/-! ### _law_presses_right -/
abbrev s_L_presses_right : Stmt := top 30
def N_L_presses_right : List Str := ["_law_first", "_law_layers_here", "_law_wide", "_law_now", "_law_layer_here", "_law_folded", "_law_k", "_law_told_here"]
def ir_L_presses_right : List S := [.asg (.nm 2) (.blt .len [.v 0]),
    .asg (.nm 3) (.v 0),
    .for_ (.nm 4) (.seq (.v 1)) [.asg (.nm 3) (.call 26 [.v 3, .v 4]), .ifs (.or (.cmp .is (.v 3) (.c .non)) (.last (.and (.cmp .isin (.c (.str [45])) (.v 3)) (.last (.cmp .notin (.c (.str [45])) (.v 0)))))) [.ret (.c (.bl false))] []],
    .asg (.nm 5) (.bin .mul (.c (.str [45])) (.v 2)),
    .for_ (.nm 6) (.r1 (.blt .len [.v 1])) [.asg (.nm 5) (.call 26 [.ix (.v 1) (.bin .sub (.bin .sub (.blt .len [.v 1]) (.c (.int 1))) (.v 6)), .v 5]), .ifs (.cmp .is (.v 5) (.c .non)) [.ret (.c (.bl false))] []],
    .ifs (.cmp .ne (.call 26 [.v 0, .v 5]) (.v 3)) [.ret (.c (.bl false))] [],
    .ifs (.or (.cmp .ne (.call 26 [.v 0, .bin .mul (.c (.str [45])) (.v 2)]) (.v 0)) (.last (.cmp .ne (.call 26 [.bin .mul (.c (.str [45])) (.v 2), .v 0]) (.v 0)))) [.ret (.c (.bl false))] [],
    .asg (.nm 7) (.callK 9 ["two", "one"] [1, 0] [.ix (.v 1) (.c (.int 0)), .v 0]),
    .ret (.and (.isi (.v 7) [.str] false) (.last (.cmp .eq (.v 7) (.call 25 [.v 0, .ix (.v 1) (.c (.int 0))]))))]
def T_L_presses_right : Nat → List D → Option D
  | 9 => F_press
  | 25 => F_L_press
  | 26 => F_L_told
  | _ => fun _ => none
def Z_L_presses_right : Sm := { F := T_L_presses_right, C := cval, L := [], M := [], P := [], K := [] }
def Y_L_presses_right : Stat := { N := N_L_presses_right, Z := Z_L_presses_right, fns := [(9, "press"), (25, "_law_press"), (26, "_law_told")], cns := [], bl := blts, gcd := false, lv := 2, kws := [(9, "press", ["two", "one"], [1, 0])], mks := [], srts := [] }
def F_L_presses_right (ds : List D) : Option D := evF Z_L_presses_right ir_L_presses_right 2 8 ds
theorem ck_L_presses_right : ckSs Y_L_presses_right ir_L_presses_right (defScope s_L_presses_right) (fun _ => true) (defBody s_L_presses_right) = true := by decide +kernel
theorem sc_L_presses_right : FnScope N_L_presses_right ["_law_first", "_law_layers_here"] (defScope s_L_presses_right) := ⟨rfl, rfl, rfl, by decide +kernel, rfl, by decide +kernel, by decide +kernel⟩
/-! ### _law_before -/
abbrev s_L_before : Stmt := top 31
def N_L_before : List Str := ["_law_low", "_law_high", "_law_signs", "_law_k"]
def ir_L_before : List S := [.asg (.nm 2) (.c (.str [45, 46, 97, 98, 99, 100, 101, 102, 103, 104, 105, 106, 107, 108, 109, 110, 111, 112, 113, 114, 115, 116, 117, 118, 119, 120, 121, 122])),
    .for_ (.nm 3) (.r1 (.blt .len [.v 0])) [.ifs (.cmp .ne (.ix (.v 0) (.v 3)) (.ix (.v 1) (.v 3))) [.ret (.cmp .lt (.sidx (.v 2) (.ix (.v 0) (.v 3))) (.sidx (.v 2) (.ix (.v 1) (.v 3))))] []],
    .ret (.c (.bl true))]
def T_L_before : Nat → List D → Option D := fun _ _ => none
def Z_L_before : Sm := { F := T_L_before, C := cval, L := [], M := [], P := [], K := [] }
def Y_L_before : Stat := { N := N_L_before, Z := Z_L_before, fns := [], cns := [], bl := blts, gcd := false, lv := 0, kws := [], mks := [], srts := [] }
def F_L_before (ds : List D) : Option D := evF Z_L_before ir_L_before 2 4 ds
theorem ck_L_before : ckSs Y_L_before ir_L_before (defScope s_L_before) (fun _ => true) (defBody s_L_before) = true := by decide +kernel
theorem sc_L_before : FnScope N_L_before ["_law_low", "_law_high"] (defScope s_L_before) := ⟨rfl, rfl, rfl, by decide +kernel, rfl, by decide +kernel, by decide +kernel⟩
/-! ### _law_ordered -/
abbrev s_L_ordered : Stmt := top 32
def N_L_ordered : List Str := ["_law_found", "_law_layers_here", "_law_text", "_law_k"]
def ir_L_ordered : List S := [.ifs (.cmp .ne (.blt .len [.v 0]) (.blt .len [.v 1])) [.ret (.c (.bl false))] [],
    .for_ (.nm 2) (.seq (.v 1)) [.ifs (.cmp .ne (.u2 .cnt (.v 0) (.v 2)) (.u2 .cnt (.v 1) (.v 2))) [.ret (.c (.bl false))] []],
    .for_ (.nm 3) (.r1 (.bin .sub (.blt .len [.v 0]) (.c (.int 1)))) [.ifs (.not (.call 28 [.ix (.v 0) (.v 3), .ix (.v 0) (.bin .add (.v 3) (.c (.int 1)))])) [.ret (.c (.bl false))] []],
    .ret (.c (.bl true))]
def T_L_ordered : Nat → List D → Option D
  | 28 => F_L_before
  | _ => fun _ => none
def Z_L_ordered : Sm := { F := T_L_ordered, C := cval, L := [], M := [], P := [], K := [] }
def Y_L_ordered : Stat := { N := N_L_ordered, Z := Z_L_ordered, fns := [(28, "_law_before")], cns := [], bl := blts, gcd := false, lv := 1, kws := [], mks := [], srts := [] }
def F_L_ordered (ds : List D) : Option D := evF Z_L_ordered ir_L_ordered 2 4 ds
theorem ck_L_ordered : ckSs Y_L_ordered ir_L_ordered (defScope s_L_ordered) (fun _ => true) (defBody s_L_ordered) = true := by decide +kernel
theorem sc_L_ordered : FnScope N_L_ordered ["_law_found", "_law_layers_here"] (defScope s_L_ordered) := ⟨rfl, rfl, rfl, by decide +kernel, rfl, by decide +kernel, by decide +kernel⟩
/-! ### layer_order -/
abbrev s_layer_order : Stmt := top 10
def N_layer_order : List Str := ["one", "sign"]
def ir_layer_order : List S := [.ret (.blt .tuple [.lc [("sign", 1)] (.nm 1) (.seq (.v 0)) (.c (.bl true)) (.sidx (.g 0) (.v 1))])]
def T_layer_order : Nat → List D → Option D := fun _ _ => none
def Z_layer_order : Sm := { F := T_layer_order, C := cval, L := [], M := [], P := [], K := [] }
def Y_layer_order : Stat := { N := N_layer_order, Z := Z_layer_order, fns := [], cns := [(0, "SIGNS")], bl := blts, gcd := false, lv := 0, kws := [], mks := [], srts := [] }
def F_layer_order (ds : List D) : Option D := evF Z_layer_order ir_layer_order 1 2 ds
theorem ck_layer_order : ckSs Y_layer_order ir_layer_order (defScope s_layer_order) (fun _ => true) (defBody s_layer_order) = true := by decide +kernel
theorem sc_layer_order : FnScope N_layer_order ["one"] (defScope s_layer_order) := ⟨rfl, rfl, rfl, by decide +kernel, rfl, by decide +kernel, by decide +kernel⟩
/-! ### _law_key -/
abbrev s_L_key : Stmt := top 33
def N_L_key : List Str := ["_law_text"]
def ir_L_key : List S := [.ret (.callK 8 ["one"] [0] [.v 0])]
def T_L_key : Nat → List D → Option D
  | 8 => F_layer_order
  | _ => fun _ => none
def Z_L_key : Sm := { F := T_L_key, C := cval, L := [], M := [], P := [], K := [] }
def Y_L_key : Stat := { N := N_L_key, Z := Z_L_key, fns := [(8, "layer_order")], cns := [], bl := blts, gcd := false, lv := 1, kws := [(8, "layer_order", ["one"], [0])], mks := [], srts := [] }
def F_L_key (ds : List D) : Option D := evF Z_L_key ir_L_key 1 1 ds
theorem ck_L_key : ckSs Y_L_key ir_L_key (defScope s_L_key) (fun _ => true) (defBody s_L_key) = true := by decide +kernel
theorem sc_L_key : FnScope N_L_key ["_law_text"] (defScope s_L_key) := ⟨rfl, rfl, rfl, by decide +kernel, rfl, by decide +kernel, by decide +kernel⟩
/-! ### _law_sorted_right -/
abbrev s_L_sorted_right : Stmt := top 34
def N_L_sorted_right : List Str := ["_law_layers_here", "_law_found", "_law_grown", "_law_text", "_law_k"]
def ir_L_sorted_right : List S := [.ifs (.not (.call 29 [.srt 8 false (.v 0), .v 0])) [.ret (.c (.bl false))] [],
    .asg (.nm 1) (.srt 8 true (.v 0)),
    .ifs (.not (.call 29 [.lc [("_law_k", 4)] (.nm 4) (.r1 (.blt .len [.v 1])) (.c (.bl true)) (.ix (.v 1) (.bin .sub (.bin .sub (.blt .len [.v 1]) (.c (.int 1))) (.v 4))), .v 0])) [.ret (.c (.bl false))] [],
    .asg (.nm 2) (.lst []),
    .for_ (.nm 3) (.seq (.v 0)) [.asg (.nm 2) (.srt 8 false (.bin .add (.v 2) (.lst [.v 3])))],
    .ret (.and (.call 29 [.v 2, .v 0]) (.last (.call 29 [.srt 30 false (.v 0), .v 0])))]
def T_L_sorted_right : Nat → List D → Option D
  | 8 => F_layer_order
  | 29 => F_L_ordered
  | 30 => F_L_key
  | _ => fun _ => none
def Z_L_sorted_right : Sm := { F := T_L_sorted_right, C := cval, L := [], M := [], P := [], K := [] }
def Y_L_sorted_right : Stat := { N := N_L_sorted_right, Z := Z_L_sorted_right, fns := [(8, "layer_order"), (29, "_law_ordered"), (30, "_law_key")], cns := [], bl := blts, gcd := false, lv := 4, kws := [], mks := [], srts := [(8, "layer_order"), (30, "_law_key")] }
def F_L_sorted_right (ds : List D) : Option D := evF Z_L_sorted_right ir_L_sorted_right 1 5 ds
theorem ck_L_sorted_right : ckSs Y_L_sorted_right ir_L_sorted_right (defScope s_L_sorted_right) (fun _ => true) (defBody s_L_sorted_right) = true := by decide +kernel
theorem sc_L_sorted_right : FnScope N_L_sorted_right ["_law_layers_here"] (defScope s_L_sorted_right) := ⟨rfl, rfl, rfl, by decide +kernel, rfl, by decide +kernel, by decide +kernel⟩
/-! ### law -/
abbrev s_law : Stmt := top 35
def N_law : List Str := ["_law_script", "_law_head", "_law_wide", "_law_inks_here", "_law_low", "_law_free", "_law_place", "_law_high", "_law_row", "_law_cells_here", "_law_first", "_law_layers_here", "_law_turn", "_law_pair_here", "_law_picked", "_law_marked", "_law_k"]
def ir_law : List S := [.asg (.nm 1) (.call 12 [.v 0, .c (.int 0), .lst [.c (.int 40), .c (.int 4), .c (.int 4), .c (.int 27), .c (.int 26), .c (.int 25), .c (.int 8), .c (.int 4), .c (.int 10), .c (.int 840), .c (.int 26), .c (.int 30), .c (.int 44), .c (.int 2)]]),
    .asg (.nm 2) (.call 13 [.ix (.v 1) (.c (.int 0))]),
    .asg (.nm 3) (.call 14 [.sl (.v 1) (.last (.c (.int 1))) .nil]),
    .asg (.nm 4) (.call 15 [.v 3, .ix (.lst [.c (.int 0), .c (.int 1), .c (.int 1), .c (.int 2), .c (.int 2), .c (.int 3), .c (.int 2), .c (.int 4)]) (.ix (.v 1) (.c (.int 6))), .call 12 [.v 0, .c (.int 1), .bin .mul (.lst [.c (.int 112)]) (.c (.int 30))], .v 2]),
    .asg (.nm 5) (.call 15 [.v 3, .ix (.v 1) (.c (.int 7)), .call 12 [.v 0, .c (.int 2), .bin .mul (.lst [.c (.int 112)]) (.c (.int 30))], .v 2]),
    .asg (.nm 6) (.bin .mod (.blt .int [.ix (.v 1) (.c (.int 9))]) (.v 2)),
    .asg (.nm 7) (.call 17 [.v 4, .v 5, .ix (.v 1) (.c (.int 8)), .v 6, .ix (.v 1) (.c (.int 10)), .call 12 [.v 0, .c (.int 3), .bin .mul (.lst [.c (.int 2)]) (.c (.int 30))]]),
    .asg (.nm 8) (.call 12 [.v 0, .c (.int 4), .bin .add (.lst [.c (.int 36), .c (.int 2), .c (.int 6)]) (.bin .mul (.lst [.v 2]) (.c (.int 36)))]),
    .asg (.nm 9) (.sl (.v 8) (.last (.c (.int 3))) (.last (.bin .add (.c (.int 3)) (.ix (.v 8) (.c (.int 0)))))),
    .ifs (.cmp .eq (.ix (.v 8) (.c (.int 2))) (.c (.int 0))) [.asg (.nm 9) (.lc [("_law_k", 16)] (.nm 16) (.r1 (.v 2)) (.c (.bl true)) (.bin .sub (.bin .sub (.v 2) (.c (.int 1))) (.v 16)))] [],
    .asg (.nm 10) (.call 15 [.v 3, .ix (.lst [.c (.int 0), .c (.int 2)]) (.ix (.v 1) (.c (.int 13))), .call 12 [.v 0, .c (.int 5), .bin .mul (.lst [.c (.int 112)]) (.c (.int 30))], .v 2]),
    .asg (.nm 11) (.call 19 [.v 0, .c (.int 6), .v 3, .v 2, .ix (.lst [.bin .add (.ix (.v 1) (.c (.int 12))) (.c (.int 1)), .c (.int 2), .c (.int 3), .c (.int 4), .c (.int 5)]) (.blt .max [.c (.int 0), .bin .sub (.ix (.v 1) (.c (.int 12))) (.c (.int 39))])]),
    .for_ (.nm 12) (.r1 (.c (.int 2))) [.for_ (.nm 13) (.seq (.lst [.lst [.v 4, .v 7], .lst [.v 7, .v 4], .lst [.v 4, .v 4], .lst [.v 7, .v 7]])) [.ifs (.not (.call 21 [.ix (.v 13) (.c (.int 0)), .ix (.v 13) (.c (.int 1)), .cmp .eq (.v 12) (.c (.int 1))])) [.ret (.c (.bl false))] [], .asg (.nm 14) (.ix (.lst [.blt .list [.v 9], .blt .tuple [.v 9]]) (.bin .mod (.bin .add (.ix (.v 8) (.c (.int 1))) (.v 12)) (.c (.int 2)))), .asg (.nm 15) (.lc [("_law_k", 16)] (.nm 16) (.r1 (.v 2)) (.cmp .ne (.ix (.ix (.v 13) (.c (.int 1))) (.v 16)) (.c (.str [45]))) (.v 16)), .ifs (.or (.not (.call 22 [.ix (.v 13) (.c (.int 0)), .cmp .eq (.v 12) (.c (.int 1))])) (.last (.not (.call 23 [.ix (.v 13) (.c (.int 0)), .v 14, .cmp .eq (.v 12) (.c (.int 1))])))) [.ret (.c (.bl false))] [], .ifs (.or (.cmp .ne (.blt .list [.v 14]) (.v 9)) (.last (.not (.call 23 [.ix (.v 13) (.c (.int 0)), .v 15, .cmp .eq (.v 12) (.c (.int 0))])))) [.ret (.c (.bl false))] [], .ifs (.not (.call 24 [.ix (.v 13) (.c (.int 0)), .ix (.lst [.v 2, .bin .add (.ix (.v 1) (.c (.int 11))) (.c (.int 1))]) (.v 12), .cmp .eq (.v 12) (.c (.int 1))])) [.ret (.c (.bl false))] []]],
    .ret (.and (.call 27 [.v 10, .v 11]) (.last (.call 31 [.v 11])))]
def T_law : Nat → List D → Option D
  | 12 => F_L_draw
  | 13 => F_L_size
  | 14 => F_L_inks
  | 15 => F_L_layer
  | 17 => F_L_second
  | 19 => F_L_layers
  | 21 => F_L_pair
  | 22 => F_L_cells
  | 23 => F_L_chosen
  | 24 => F_L_alone
  | 27 => F_L_presses_right
  | 31 => F_L_sorted_right
  | _ => fun _ => none
def Z_law : Sm := { F := T_law, C := cval, L := [], M := [], P := [], K := [] }
def Y_law : Stat := { N := N_law, Z := Z_law, fns := [(12, "_law_draw"), (13, "_law_size"), (14, "_law_inks"), (15, "_law_layer"), (17, "_law_second"), (19, "_law_layers"), (21, "_law_pair"), (22, "_law_cells"), (23, "_law_chosen"), (24, "_law_alone"), (27, "_law_presses_right"), (31, "_law_sorted_right")], cns := [], bl := blts, gcd := false, lv := 5, kws := [], mks := [], srts := [] }
def F_law (ds : List D) : Option D := evF Z_law ir_law 1 17 ds
theorem ck_law : ckSs Y_law ir_law (defScope s_law) (fun _ => true) (defBody s_law) = true := by decide +kernel
theorem sc_law : FnScope N_law ["_law_script"] (defScope s_law) := ⟨rfl, rfl, rfl, by decide +kernel, rfl, by decide +kernel, by decide +kernel⟩
end K01

set_option Elab.async false
set_option linter.all false
set_option maxRecDepth 100000
set_option maxHeartbeats 4000000
namespace K01
open PySem L2 Pv
/-! ### the draws -/
theorem cell_ok (ns : List Int) (k : Nat) (hk : k < 1000) : IsI (F_L_cell [.scr ns, .int k]) := by
  by_cases h : (k : Int) < ns.length
  · have hk2 : k < ns.length := by omega
    have e : atI ns (k : Int) = some ns[k] := atI_nat (by simp [hk2])
    simp [F_L_cell, evF, ir_L_cell, Z_L_cell, startD, h, e, IsI]
  · simp [F_L_cell, evF, ir_L_cell, Z_L_cell, startD, h]
    refine loop_thenE (P := fun o => IsI (o.bind endD)) (fun i σ => ∃ s x, σ = [.v (.scr ns), .v (.int k), .v (.int s), x] ∧ 0 ≤ s ∧ s < 1000003) ⟨17, .no, rfl, by decide, by decide⟩ ?_ ?_
    · rintro i d σ hd ⟨s, x, rfl, h1, h2⟩
      rw [List.getElem?_map] at hd
      obtain ⟨z, hz, rfl⟩ := mpd hd
      have m1 : mulOk s 31 = true := mulOk_of (a := 20) (b := 5) (by omega) (by decide) (by decide) (by decide) (by decide)
      obtain ⟨a1, a2⟩ := fmodp (s * 31 + z.fmod 1000003) 1000003 (by decide)
      exact ⟨_, [.v (.scr ns), .v (.int k), .v (.int ((s * 31 + z.fmod 1000003).fmod 1000003)), .v (.int z)], rfl, .inl (by simp [m1]), _, _, rfl, a1, a2⟩
    · rintro σ ⟨s, x, rfl, h1, h2⟩
      have m1 : mulOk (s + 7) (k + 3) = true := mulOk_of (a := 21) (b := 11) (by omega) (by omega) (by decide) (by decide) (by decide)
      have m2 : mulOk ((s + 7) * (k + 3)) 69621 = true := mulOk_of (a := 32) (b := 17) (wide_lt (a := 21) (b := 11) (by omega) (by omega)) (by decide) (by decide) (by decide) (by decide)
      simp [m1, m2, IsI]
theorem draw_ok (ns : List Int) (k : Nat) (hk : k < 1000) (ss : List Int) (hl : ss.length < 1000) (hs : ∀ s ∈ ss, 0 < s ∧ s < 2 ^ 60) : ∃ ds, F_L_draw [.scr ns, .int k, .lst (ss.map .int)] = some (.lst (ds.map .int)) ∧ Dg ds ss := by
  have p1 : powOk 10 18 = true := by decide
  have f11 : Z_L_draw.F 11 = F_L_cell := id rfl
  obtain ⟨z, hz⟩ := cell_ok ns k hk
  unfold F_L_draw evF ir_L_draw
  rw [if_pos (show [D.scr ns, D.int k, D.lst (ss.map .int)].length = 3 from rfl)]
  simp only [startD, List.map_cons, List.map_nil, List.length_cons, List.length_nil, List.cons_append, List.nil_append]
  by_cases h : (1000000000000000000 : Int) ≤ z
  · simp [f11, hz, h, p1]
    refine loop_thenE (P := fun o => ∃ ds, ((o.bind _).bind endD) = some (.lst (ds.map D.int)) ∧ Dg ds ss) (fun i σ => ∃ acc r x, σ = [.v (.scr ns), .v (.int k), .v (.lst (ss.map .int)), .o (.lst (acc.map .int)), .v (.int r), .no, .no, x, .no] ∧ Dg acc (ss.take i)) ⟨[], _, _, rfl, trivial⟩ ?_ ?_
    · rintro i d σ hd ⟨acc, r, x, rfl, hD⟩
      rw [List.getElem?_map] at hd
      obtain ⟨s, hz, rfl⟩ := mpd hd
      obtain ⟨s0, s1⟩ := hs s (List.mem_of_getElem? hz)
      have hlen : acc.length < 16777216 := by
        have := hD.len
        have h9 : (ss.take i).length ≤ ss.length := by rw [List.length_take]; omega
        omega
      have s2 : ¬ s = 0 := by omega
      have d1 : divOk s = true := divOk_of (b := 60) (by omega) (by omega) (by decide) (by decide)
      obtain ⟨a1, a2⟩ := fmodp r s s0
      refine ⟨_, [.v (.scr ns), .v (.int k), .v (.lst (ss.map .int)), .o (.lst ((acc ++ [r.fmod s]).map .int)), .v (.int (r.fdiv s)), .no, .no, .v (.int s), .no], rfl, .inl (by simp [s2, d1, hlen]), _, _, _, rfl, ?_⟩
      rw [take_snoc hz]
      exact hD.snoc a1 a2
    · rintro σ ⟨acc, r, x, rfl, hD⟩
      refine ⟨acc, by simp, ?_⟩
      rw [List.length_map, List.take_length] at hD
      exact hD
  · have r1 : okR (ss.length : Int) = true := by simp [okR]; omega
    have m0 : mulOk 7919 (k : Int) = true := mulOk_of (a := 13) (b := 10) (by decide) (by omega) (by decide) (by decide) (by decide)
    obtain ⟨b1, b2⟩ := fmodp (z + 7919 * k) 2147483629 (by decide)
    simp [f11, hz, h, p1, r1, m0]
    refine loop_thenE (P := fun o => ∃ ds, (o.bind endD) = some (.lst (ds.map D.int)) ∧ Dg ds ss) (fun i σ => ∃ acc s r x6 x7 x8, σ = [.v (.scr ns), .v (.int k), .v (.lst (ss.map .int)), .o (.lst (acc.map .int)), .v (.int r), .v (.int s), x6, x7, x8] ∧ Dg acc (ss.take i) ∧ 0 ≤ s ∧ s < 2147483647) ⟨[], _, _, _, _, _, rfl, trivial, b1, by omega⟩ ?_ ?_
    · rintro i d σ hd ⟨acc, s, r, x6, x7, x8, rfl, hD, h1, h2⟩
      have hi : i < ss.length := by
        have := (List.getElem?_eq_some_iff.mp hd).1
        rw [rng_len] at this; exact this
      rw [rng_get _ _ _ hi] at hd
      cases hd
      have hz : ss[i]? = some ss[i] := by simp [hi]
      obtain ⟨s0, s1⟩ := hs ss[i] (List.getElem_mem hi)
      have hlen : acc.length < 16777216 := by
        have := hD.len
        have h9 : (ss.take i).length ≤ ss.length := by rw [List.length_take]; omega
        omega
      have s2 : ¬ ss[i] = 0 := by omega
      have m1 : mulOk s 48271 = true := mulOk_of (a := 31) (b := 16) (by omega) (by decide) (by decide) (by decide) (by decide)
      have m2 : mulOk 974711 (i : Int) = true := mulOk_of (a := 20) (b := 10) (by decide) (by omega) (by decide) (by decide) (by decide)
      obtain ⟨a1, a2⟩ := fmodp (s * 48271 + 974711 * i + 12345) 2147483647 (by decide)
      generalize hs' : (s * 48271 + 974711 * (i : Int) + 12345).fmod 2147483647 = s' at a1 a2
      obtain ⟨c1, c2⟩ := fdivp s' 65537 a1 (by decide)
      have d1 : divOk 65537 = true := by decide
      have d2 : divOk 19 = true := by decide
      have m3 : mulOk s' (s'.fdiv 65537 + 3) = true := mulOk_of (a := 31) (b := 32) (by omega) (by omega) (by decide) (by decide) (by decide)
      obtain ⟨e1, e2⟩ := fmodp (((s' * (s'.fdiv 65537 + 3)).fmod 2147483629).fdiv 19) ss[i] s0
      have hat : atI (ss.map D.int) (i : Int) = some (.int ss[i]) := atI_nat (by simp [hi])
      refine ⟨_, [.v (.scr ns), .v (.int k), .v (.lst (ss.map .int)), .o (.lst ((acc ++ [(((s' * (s'.fdiv 65537 + 3)).fmod 2147483629).fdiv 19).fmod ss[i]]).map .int)), .v (.int r), .v (.int s'), .v (.int i), x7, .v (.int ((s' * (s'.fdiv 65537 + 3)).fmod 2147483629))], rfl, .inl (by simp [m1, m2, hs', d1, d2, m3, hat, s2, hlen]), _, _, _, _, _, _, rfl, ?_, a1, a2⟩
      rw [take_snoc hz]
      exact hD.snoc e1 e2
    · rintro σ ⟨acc, s, r, x6, x7, x8, rfl, hD, h1, h2⟩
      refine ⟨acc, by simp, ?_⟩
      rw [rng_len, List.take_length] at hD
      exact hD
theorem size_ok (d : Int) (h0 : 0 ≤ d) (h1 : d < 40) : ∃ w : Nat, F_L_size [.int d] = some (.int w) ∧ 1 ≤ w ∧ w ≤ 30 := by
  have key : ∀ k : Fin 40, ∃ w : Nat, F_L_size [.int (k.val : Int)] = some (.int w) ∧ 1 ≤ w ∧ w ≤ 30 := by
    intro k
    by_cases hk : k.val < 30
    · refine ⟨k.val + 1, ?_, by omega, by omega⟩
      have : ((k.val : Int) < 30) := by omega
      simp [F_L_size, evF, ir_L_size, startD, this]
    · have hn : ¬ ((k.val : Int) < 30) := by omega
      obtain ⟨a1, a2⟩ := fmodp ((k.val : Int) - 30) 10 (by decide)
      obtain ⟨x, hx, hm⟩ := atI_in (xs := [D.int 1, .int 2, .int 3, .int 4, .int 5, .int 6, .int 7, .int 8, .int 4, .int 30]) a1 (by simpa using a2)
      simp [F_L_size, evF, ir_L_size, startD, hn, hx]
      simp only [List.mem_cons, List.not_mem_nil, or_false] at hm
      rcases hm with rfl | rfl | rfl | rfl | rfl | rfl | rfl | rfl | rfl | rfl
      · exact ⟨1, rfl, by omega, by omega⟩
      · exact ⟨2, rfl, by omega, by omega⟩
      · exact ⟨3, rfl, by omega, by omega⟩
      · exact ⟨4, rfl, by omega, by omega⟩
      · exact ⟨5, rfl, by omega, by omega⟩
      · exact ⟨6, rfl, by omega, by omega⟩
      · exact ⟨7, rfl, by omega, by omega⟩
      · exact ⟨8, rfl, by omega, by omega⟩
      · exact ⟨4, rfl, by omega, by omega⟩
      · exact ⟨30, rfl, by omega, by omega⟩
  have := key ⟨d.toNat, by omega⟩
  have e : ((d.toNat : Nat) : Int) = d := by omega
  simpa [e] using this
/-- the signs -/
def alls : List Nat := [46, 97, 98, 99, 100, 101, 102, 103, 104, 105, 106, 107, 108, 109, 110, 111, 112, 113, 114, 115, 116, 117, 118, 119, 120, 121, 122]
def sgn (c : Nat) : Prop := c = 45 ∨ c ∈ alls
structure Lay (w : Nat) (x : List Nat) : Prop where
  len : x.length = w
  sg : ∀ c ∈ x, sgn c
theorem alls_len : alls.length = 27 := by decide
theorem sgn_low {c : Nat} (h : sgn c) : c < 128 := by
  rcases h with rfl | h
  · decide
  · have : ∀ c ∈ alls, c < 128 := by decide
    exact this c h
theorem Lay.low {w : Nat} {x : List Nat} (h : Lay w x) : low x := fun c hc => sgn_low (h.sg c hc)
theorem slR (x : List Nat) (hx : x.length ≤ 16777216) (k : Int) (h0 : 0 ≤ k) : slD none (some k) (.str x) = some (.str (x.take k.toNat)) := by
  simp only [slD]
  rw [if_pos hx, cut_to x k h0]
theorem inks_ok (d0 d1 d2 d3 d4 : Int) (r : List Int) (h0 : 0 ≤ d0 ∧ d0 < 4) (h2 : 0 ≤ d2 ∧ d2 < 27) : ∃ x, F_L_inks [.lst ((d0 :: d1 :: d2 :: d3 :: d4 :: r).map .int)] = some (.str x) ∧ 1 ≤ x.length ∧ x.length ≤ 27 ∧ ∀ c ∈ x, c ∈ alls := by
  have hm : ([46, 97, 98, 99, 100, 101, 102, 103, 104, 105, 106, 107, 108, 109, 110, 111, 112, 113, 114, 115, 116, 117, 118, 119, 120, 121, 122] : List Nat) = alls := rfl
  have hA : alls.length ≤ 16777216 := by decide
  have hl27 : (alls.length : Int) = 27 := by decide
  by_cases z : d0 = 0
  · refine ⟨alls, ?_, by decide, by decide, fun c h => h⟩
    simp [F_L_inks, evF, ir_L_inks, startD, Z_L_inks, hm, hA, z]
  obtain ⟨f, hf, f0, f1⟩ : ∃ f : Int, (d2 * (if d1 < 2 then 1 else 0)) = f ∧ 0 ≤ f ∧ f < 27 := by
    refine ⟨_, rfl, ?_, ?_⟩ <;> split <;> omega
  have mo : mulOk d2 (if d1 < 2 then 1 else 0) = true := by
    refine mulOk_of (a := 5) (b := 1) (by omega) ?_ (by decide) (by decide) (by decide)
    split <;> decide
  obtain ⟨a, ha, ha'⟩ := atI_in (xs := alls) f0 (by omega)
  have p1 := fmodp (f + 1 + d3) 27 (by decide)
  have p2 := fmodp (f + 1 + d4) 27 (by decide)
  have p3 := fmodp (f + 26) 27 (by decide)
  obtain ⟨b, hb, hb'⟩ := atI_in (xs := alls) p1.1 (by omega)
  obtain ⟨n, hn, n1, n3⟩ : ∃ n : Nat, atI [D.int 3, D.int 3, D.int 3, D.int 2] d0 = some (.int n) ∧ 2 ≤ n ∧ n ≤ 3 := by
    obtain ⟨y, hy, hm⟩ := atI_in (xs := [D.int 3, D.int 3, D.int 3, D.int 2]) h0.1 (by simpa using h0.2)
    simp only [List.mem_cons, List.not_mem_nil, or_false] at hm
    rcases hm with rfl | rfl | rfl | rfl
    · exact ⟨3, hy, by omega, by omega⟩
    · exact ⟨3, hy, by omega, by omega⟩
    · exact ⟨3, hy, by omega, by omega⟩
    · exact ⟨2, hy, by omega, by omega⟩
  have mem3 : ∀ x y w : Nat, x ∈ alls → y ∈ alls → w ∈ alls → ∀ c ∈ ([x, y, w].take n), c ∈ alls := fun x y w hx hy hw c hc => by
    have := List.mem_of_mem_take hc
    simp only [List.mem_cons, List.not_mem_nil, or_false] at this
    rcases this with rfl | rfl | rfl <;> assumption
  by_cases e : (f + 1 + d4).fmod 27 = (f + 1 + d3).fmod 27
  · obtain ⟨c, hc, hc'⟩ := atI_in (xs := alls) p3.1 (by omega)
    refine ⟨[a, b, c].take n, ?_, by simp; omega, by simp; omega, mem3 a b c ha' hb' hc'⟩
    simp [F_L_inks, evF, ir_L_inks, startD, Z_L_inks, hm, hA, mo, hf, ha, hb, hc, e, z, hn, slD, cutS_to]
  · obtain ⟨c, hc, hc'⟩ := atI_in (xs := alls) p2.1 (by omega)
    refine ⟨[a, b, c].take n, ?_, by simp; omega, by simp; omega, mem3 a b c ha' hb' hc'⟩
    simp [F_L_inks, evF, ir_L_inks, startD, Z_L_inks, hm, hA, mo, hf, ha, hb, hc, e, z, hn, slD, cutS_to]
end K01

set_option Elab.async false
set_option linter.all false
set_option maxRecDepth 100000
set_option maxHeartbeats 4000000
namespace K01
open PySem L2 Pv
structure Inks (x : List Nat) : Prop where
  l1 : 1 ≤ x.length
  l2 : x.length ≤ 27
  mem : ∀ c ∈ x, c ∈ alls
theorem Lay.snoc {w : Nat} {x : List Nat} {c : Nat} (h : Lay w x) (hc : sgn c) : Lay (w + 1) (x ++ [c]) := ⟨by simp [h.len], fun d hd => by
  rcases List.mem_append.mp hd with hd | hd
  · exact h.sg d hd
  · rw [List.mem_singleton.mp hd]; exact hc⟩
theorem Lay.app {w v : Nat} {x y : List Nat} (h : Lay w x) (h' : Lay v y) : Lay (w + v) (x ++ y) := ⟨by simp [h.len, h'.len], fun d hd => by
  rcases List.mem_append.mp hd with hd | hd
  · exact h.sg d hd
  · exact h'.sg d hd⟩
theorem layer_ok {inks : List Nat} (hi : Inks inks) (sh : Int) (spots : List Int) (w : Nat) (hw : w ≤ 30) (hs : w ≤ spots.length) : ∃ x, F_L_layer [.str inks, .int sh, .lst (spots.map .int), .int (w : Nat)] = some (.str x) ∧ Lay w x := by
  have hr : okR (w : Int) = true := by unfold okR; simp; omega
  have hl : inks.length ≤ 16777216 := by have := hi.l2; omega
  simp [F_L_layer, evF, ir_L_layer, Z_L_layer, startD, hr]
  refine loop_thenE (P := fun o => ∃ x, (o.bind endD) = some (.str x) ∧ Lay w x) (fun i σ => ∃ t x, σ = [.v (.str inks), .v (.int sh), .v (.lst (spots.map .int)), .v (.int (w : Nat)), .v (.str t), x] ∧ Lay i t) ⟨[], _, rfl, rfl, by simp⟩ ?_ ?_
  · rintro i d σ hd ⟨t, x, rfl, ht⟩
    have hiw : i < w := by
      have := (List.getElem?_eq_some_iff.mp hd).1
      rw [rng_len] at this; exact this
    rw [rng_get _ _ _ hiw] at hd
    cases hd
    have his : i < spots.length := by omega
    have hat : atI (spots.map D.int) (i : Int) = some (.int spots[i]) := atI_nat (by simp [his])
    have d4 : divOk 4 = true := by decide
    have hl1 := hi.l1
    have hne : ¬ ((inks.length : Int) = 0) := by omega
    have hne' : ¬ (inks = []) := by rintro rfl; simp at hl1
    obtain ⟨a1, a2⟩ := fmodp (spots[i].fdiv 4) inks.length (by omega)
    obtain ⟨c, hc, hc'⟩ := atI_in (xs := inks) a1 a2
    have hlen : t.length + 1 ≤ 16777216 := by rw [ht.len]; omega
    by_cases g : sh ≤ spots[i].fmod 4
    · refine ⟨_, [.v (.str inks), .v (.int sh), .v (.lst (spots.map .int)), .v (.int (w : Nat)), .v (.str (t ++ [c])), .v (.int i)], rfl, .inl (by simp [hat, d4, hne, hne', hl, hc, g, hlen]), _, _, rfl, ht.snoc (.inr (hi.mem c hc'))⟩
    · refine ⟨_, [.v (.str inks), .v (.int sh), .v (.lst (spots.map .int)), .v (.int (w : Nat)), .v (.str (t ++ [45])), .v (.int i)], rfl, .inl (by simp [hat, d4, hne, hne', hl, hc, g, hlen]), _, _, rfl, ht.snoc (.inl rfl)⟩
  · rintro σ ⟨t, x, rfl, ht⟩
    rw [rng_len] at ht
    exact ⟨t, by simp, ht⟩
theorem idx_of {l : List Nat} {c : Nat} (h : c ∈ l) : ∃ n, l.findIdx? (· == c) = some n ∧ n < l.length := by
  cases e : l.findIdx? (· == c) with
  | none =>
    rw [List.findIdx?_eq_none_iff] at e
    have := e c h
    simp at this
  | some n =>
    have := List.findIdx?_eq_some_iff_getElem.mp e
    exact ⟨n, rfl, this.1⟩
theorem other_ok {c : Nat} (hc : sgn c) (st : Int) : ∃ e, F_L_other [.str [c], .int st] = some (.str [e]) ∧ sgn e := by
  have hm : ([46, 97, 98, 99, 100, 101, 102, 103, 104, 105, 106, 107, 108, 109, 110, 111, 112, 113, 114, 115, 116, 117, 118, 119, 120, 121, 122] : List Nat) = alls := rfl
  have hA : alls.length ≤ 16777216 := by decide
  have hl27 : (alls.length : Int) = 27 := by decide
  by_cases h : c = 45
  · subst h
    refine ⟨45, ?_, .inl rfl⟩
    simp [F_L_other, evF, ir_L_other, startD, Z_L_other, hm]
  · have hc' : c ∈ alls := by
      rcases hc with e | e
      · exact absurd e h
      · exact e
    obtain ⟨n, hn, _⟩ := idx_of hc'
    obtain ⟨a1, a2⟩ := fmodp ((n : Int) + 1 + st) 27 (by decide)
    obtain ⟨e, he, he'⟩ := atI_in (xs := alls) a1 (by omega)
    refine ⟨e, ?_, .inr he'⟩
    simp [F_L_other, evF, ir_L_other, startD, Z_L_other, hm, hA, h, sidxD, hn, he]
theorem inD3 (m : Int) : inD (.int m) [.int 3, .int 6, .int 9] = some (decide (m = 3 ∨ m = 6 ∨ m = 9)) := by
  simp only [inD]
  simp [flatD, eqb_int]
  rw [Bool.eq_iff_iff]
  simp
  omega
theorem second_ok {w : Nat} {low fre : List Nat} (hlow : Lay w low) (hf : Lay w fre) (hw : w ≤ 30) (mode place step : Int) (turns : List Int) (ht : w ≤ turns.length) : ∃ x, F_L_second [.str low, .str fre, .int mode, .int place, .int step, .lst (turns.map .int)] = some (.str x) ∧ Lay w x := by
  have hr : okR (low.length : Int) = true := by unfold okR; rw [hlow.len]; simp; omega
  have hl : low.length ≤ 16777216 := by rw [hlow.len]; omega
  have hl' : fre.length ≤ 16777216 := by rw [hf.len]; omega
  have f16 : Z_L_second.F 16 = F_L_other := id rfl
  unfold F_L_second evF ir_L_second
  rw [if_pos (show [D.str low, D.str fre, D.int mode, D.int place, D.int step, D.lst (turns.map .int)].length = 6 from rfl)]
  simp only [startD, List.map_cons, List.map_nil, List.length_cons, List.length_nil, List.cons_append, List.nil_append]
  simp [hr, hl]
  refine loop_thenE (P := fun o => ∃ x, (o.bind endD) = some (.str x) ∧ Lay w x) (fun i σ => ∃ t x y, σ = [.v (.str low), .v (.str fre), .v (.int mode), .v (.int place), .v (.int step), .v (.lst (turns.map .int)), .v (.str t), x, y] ∧ Lay i t) ⟨[], _, _, rfl, rfl, by simp⟩ ?_ ?_
  · rintro i d σ hd ⟨t, x, y, rfl, htt⟩
    have hiw : i < low.length := by
      have := (List.getElem?_eq_some_iff.mp hd).1
      rw [rng_len] at this; exact this
    rw [rng_get _ _ _ hiw] at hd
    cases hd
    have hif : i < fre.length := by rw [hf.len, ← hlow.len]; exact hiw
    have hit : i < turns.length := by have := hlow.len; omega
    have hlen : t.length + 1 ≤ 16777216 := by have := hlow.len; rw [htt.len]; omega
    have e1 : atI low (i : Int) = some low[i] := atI_k hiw
    have e2 : atI fre (i : Int) = some fre[i] := atI_k hif
    have e3 : atI (turns.map D.int) (i : Int) = some (.int turns[i]) := atI_nat (by simp [hit])
    obtain ⟨oc, ho, hos⟩ := other_ok (hlow.sg _ (List.getElem_mem hiw)) step
    have s1 : sgn low[i] := hlow.sg _ (List.getElem_mem hiw)
    have s2 : sgn fre[i] := hf.sg _ (List.getElem_mem hif)
    generalize low[i] = c at *
    generalize fre[i] = g at *
    generalize turns[i] = u at *
    have fin : ∀ s : Nat, sgn s → ∃ t' x' y', [Sl.v (.str low), .v (.str fre), .v (.int mode), .v (.int place), .v (.int step), .v (.lst (turns.map .int)), .v (.str (t ++ [s])), .v (.int i), .v (.str [s])] = [Sl.v (.str low), .v (.str fre), .v (.int mode), .v (.int place), .v (.int step), .v (.lst (turns.map .int)), .v (.str t'), x', y'] ∧ Lay (i + 1) t' := fun s hs => ⟨_, _, _, rfl, htt.snoc hs⟩
    have st : ∃ s, sgn s ∧ evSs Z_L_second [.asg (.nm 8) (.ix (.v 1) (.v 7)), .ifs (.and (.cmp .ne (.ix (.v 0) (.v 7)) (.c (.str [45]))) (.last (.cmp .ge (.v 2) (.c (.int 2))))) [.asg (.nm 8) (.ix (.lst [.ix (.v 0) (.v 7), .c (.str [45])]) (.blt .int [.and (.cmp .eq (.ix (.v 5) (.v 7)) (.c (.int 1))) (.last (.or (.cmp .lt (.v 2) (.c (.int 4))) (.last (.cmp .eq (.v 2) (.c (.int 8))))))]))] [], .ifs (.and (.cmp .eq (.ix (.v 0) (.v 7)) (.c (.str [45]))) (.last (.cmp .ge (.v 2) (.c (.int 7))))) [.asg (.nm 8) (.c (.str [45]))] [], .ifs (.and (.cmp .eq (.v 7) (.v 3)) (.last (.cmp .isin (.v 2) (.tup [.c (.int 3), .c (.int 6), .c (.int 9)])))) [.asg (.nm 8) (.call 16 [.ix (.v 0) (.v 7), .v 4])] [], .ifs (.and (.cmp .eq (.v 7) (.v 3)) (.last (.cmp .eq (.v 2) (.c (.int 5))))) [.asg (.nm 8) (.c (.str [45]))] [], .asg (.nm 6) (.bin .add (.v 6) (.v 8))] [.v (.str low), .v (.str fre), .v (.int mode), .v (.int place), .v (.int step), .v (.lst (turns.map .int)), .v (.str t), .v (.int i), y] = some (.nx [.v (.str low), .v (.str fre), .v (.int mode), .v (.int place), .v (.int step), .v (.lst (turns.map .int)), .v (.str (t ++ [s])), .v (.int i), .v (.str [s])]) := by
      have h6 : ∀ s, sgn s → ∃ s', sgn s' ∧ evSs Z_L_second ([.asg (.nm 6) (.bin .add (.v 6) (.v 8))]) [.v (.str low), .v (.str fre), .v (.int mode), .v (.int place), .v (.int step), .v (.lst (turns.map .int)), .v (.str t), .v (.int i), .v (.str [s])] = some (.nx [.v (.str low), .v (.str fre), .v (.int mode), .v (.int place), .v (.int step), .v (.lst (turns.map .int)), .v (.str (t ++ [s'])), .v (.int i), .v (.str [s'])]) := fun s hs => ⟨s, hs, by simp [hlen]⟩
      generalize hr6 : [S.asg (.nm 6) (.bin .add (.v 6) (.v 8))] = r6 at h6
      have h5 : ∀ s, sgn s → ∃ s', sgn s' ∧ evSs Z_L_second (.ifs (.and (.cmp .eq (.v 7) (.v 3)) (.last (.cmp .eq (.v 2) (.c (.int 5))))) [.asg (.nm 8) (.c (.str [45]))] [] :: r6) [.v (.str low), .v (.str fre), .v (.int mode), .v (.int place), .v (.int step), .v (.lst (turns.map .int)), .v (.str t), .v (.int i), .v (.str [s])] = some (.nx [.v (.str low), .v (.str fre), .v (.int mode), .v (.int place), .v (.int step), .v (.lst (turns.map .int)), .v (.str (t ++ [s'])), .v (.int i), .v (.str [s'])]) := by
        intro s hs
        rw [evSs_consR]
        by_cases c1 : (i : Int) = place
        · by_cases c2 : mode = 5
          · have := h6 45 (.inl rfl)
            simp [c1, c2, rest_nx]
            simpa [c1, c2] using this
          · have := h6 s hs
            simp [c1, c2, rest_nx]
            simpa [c1, c2] using this
        · have := h6 s hs
          simp [c1, rest_nx]
          exact this
      generalize hr5 : S.ifs (.and (.cmp .eq (.v 7) (.v 3)) (.last (.cmp .eq (.v 2) (.c (.int 5))))) [.asg (.nm 8) (.c (.str [45]))] [] :: r6 = r5 at h5
      have h4 : ∀ s, sgn s → ∃ s', sgn s' ∧ evSs Z_L_second (.ifs (.and (.cmp .eq (.v 7) (.v 3)) (.last (.cmp .isin (.v 2) (.tup [.c (.int 3), .c (.int 6), .c (.int 9)])))) [.asg (.nm 8) (.call 16 [.ix (.v 0) (.v 7), .v 4])] [] :: r5) [.v (.str low), .v (.str fre), .v (.int mode), .v (.int place), .v (.int step), .v (.lst (turns.map .int)), .v (.str t), .v (.int i), .v (.str [s])] = some (.nx [.v (.str low), .v (.str fre), .v (.int mode), .v (.int place), .v (.int step), .v (.lst (turns.map .int)), .v (.str (t ++ [s'])), .v (.int i), .v (.str [s'])]) := by
        intro s hs
        rw [evSs_consR]
        by_cases c1 : (i : Int) = place
        · by_cases c2 : mode = 3 ∨ mode = 6 ∨ mode = 9
          · have := h5 oc hos
            rw [← c1] at this
            simp [c2, rest_nx, inD3, f16, ← c1, e1, hl, ho]
            exact this
          · have := h5 s hs
            rw [← c1] at this
            simp [c2, rest_nx, inD3, ← c1]
            exact this
        · have := h5 s hs
          simp [c1, rest_nx]
          exact this
      generalize hr4 : S.ifs (.and (.cmp .eq (.v 7) (.v 3)) (.last (.cmp .isin (.v 2) (.tup [.c (.int 3), .c (.int 6), .c (.int 9)])))) [.asg (.nm 8) (.call 16 [.ix (.v 0) (.v 7), .v 4])] [] :: r5 = r4 at h4
      have h3 : ∀ s, sgn s → ∃ s', sgn s' ∧ evSs Z_L_second (.ifs (.and (.cmp .eq (.ix (.v 0) (.v 7)) (.c (.str [45]))) (.last (.cmp .ge (.v 2) (.c (.int 7))))) [.asg (.nm 8) (.c (.str [45]))] [] :: r4) [.v (.str low), .v (.str fre), .v (.int mode), .v (.int place), .v (.int step), .v (.lst (turns.map .int)), .v (.str t), .v (.int i), .v (.str [s])] = some (.nx [.v (.str low), .v (.str fre), .v (.int mode), .v (.int place), .v (.int step), .v (.lst (turns.map .int)), .v (.str (t ++ [s'])), .v (.int i), .v (.str [s'])]) := by
        intro s hs
        rw [evSs_consR]
        by_cases c1 : c = 45
        · by_cases c2 : 7 ≤ mode
          · have := h4 45 (.inl rfl)
            simp [c1, c2, rest_nx, e1, hl]
            exact this
          · have := h4 s hs
            simp [c1, c2, rest_nx, e1, hl]
            exact this
        · have := h4 s hs
          simp [c1, rest_nx, e1, hl]
          exact this
      generalize hr3 : S.ifs (.and (.cmp .eq (.ix (.v 0) (.v 7)) (.c (.str [45]))) (.last (.cmp .ge (.v 2) (.c (.int 7))))) [.asg (.nm 8) (.c (.str [45]))] [] :: r4 = r3 at h3
      have h2 : ∀ s, sgn s → ∃ s', sgn s' ∧ evSs Z_L_second (.ifs (.and (.cmp .ne (.ix (.v 0) (.v 7)) (.c (.str [45]))) (.last (.cmp .ge (.v 2) (.c (.int 2))))) [.asg (.nm 8) (.ix (.lst [.ix (.v 0) (.v 7), .c (.str [45])]) (.blt .int [.and (.cmp .eq (.ix (.v 5) (.v 7)) (.c (.int 1))) (.last (.or (.cmp .lt (.v 2) (.c (.int 4))) (.last (.cmp .eq (.v 2) (.c (.int 8))))))]))] [] :: r3) [.v (.str low), .v (.str fre), .v (.int mode), .v (.int place), .v (.int step), .v (.lst (turns.map .int)), .v (.str t), .v (.int i), .v (.str [s])] = some (.nx [.v (.str low), .v (.str fre), .v (.int mode), .v (.int place), .v (.int step), .v (.lst (turns.map .int)), .v (.str (t ++ [s'])), .v (.int i), .v (.str [s'])]) := by
        intro s hs
        rw [evSs_consR]
        by_cases c1 : c = 45
        · have := h3 s hs
          simp [c1, rest_nx, e1, hl]
          exact this
        · by_cases c2 : 2 ≤ mode
          · by_cases c3 : u = 1
            · by_cases c4 : mode < 4
              · have := h3 45 (.inl rfl)
                simp [c1, c2, c3, c4, rest_nx, e1, e3, hl]
                exact this
              · by_cases c5 : mode = 8
                · have := h3 45 (.inl rfl)
                  simp [c1, c2, c3, c4, c5, rest_nx, e1, e3, hl]
                  simpa [c5] using this
                · have := h3 c s1
                  simp [c1, c2, c3, c4, c5, rest_nx, e1, e3, hl]
                  exact this
            · have := h3 c s1
              simp [c1, c2, c3, rest_nx, e1, e3, hl]
              exact this
          · have := h3 s hs
            simp [c1, c2, rest_nx, e1, hl]
            exact this
      generalize hr2 : S.ifs (.and (.cmp .ne (.ix (.v 0) (.v 7)) (.c (.str [45]))) (.last (.cmp .ge (.v 2) (.c (.int 2))))) [.asg (.nm 8) (.ix (.lst [.ix (.v 0) (.v 7), .c (.str [45])]) (.blt .int [.and (.cmp .eq (.ix (.v 5) (.v 7)) (.c (.int 1))) (.last (.or (.cmp .lt (.v 2) (.c (.int 4))) (.last (.cmp .eq (.v 2) (.c (.int 8))))))]))] [] :: r3 = r2 at h2
      rw [evSs_consR]
      have := h2 g s2
      simp [rest_nx, e2, hl']
      exact this
    obtain ⟨s, hs, hst⟩ := st
    exact ⟨_, _, by simp, .inl hst, fin s hs⟩
  · rintro σ ⟨t, x, y, rfl, htt⟩
    rw [rng_len, hlow.len] at htt
    exact ⟨t, by simp, htt⟩
end K01

set_option Elab.async false
set_option linter.all false
set_option maxRecDepth 100000
set_option maxHeartbeats 4000000
namespace K01
open PySem L2 Pv
def sgnL : List Nat := [45, 46, 97, 98, 99, 100, 101, 102, 103, 104, 105, 106, 107, 108, 109, 110, 111, 112, 113, 114, 115, 116, 117, 118, 119, 120, 121, 122]
theorem sgnL_eq : sgnL = 45 :: alls := rfl
theorem sgn_mem {c : Nat} : sgn c ↔ c ∈ sgnL := by rw [sgnL_eq, List.mem_cons]; rfl
theorem close_ok {w : Nat} {x : List Nat} (hx : Lay w x) (hw : w ≤ 30) (p n : Int) (h0 : 0 ≤ p) (h1 : p < w) : ∃ y, F_L_close [.str x, .int p, .int n] = some (.str y) ∧ Lay w y := by
  have hm : ([45, 46, 97, 98, 99, 100, 101, 102, 103, 104, 105, 106, 107, 108, 109, 110, 111, 112, 113, 114, 115, 116, 117, 118, 119, 120, 121, 122] : List Nat) = sgnL := rfl
  have hA : sgnL.length ≤ 16777216 := by decide
  have hl28 : (sgnL.length : Int) = 28 := by decide
  obtain ⟨k, rfl⟩ := Int.eq_ofNat_of_zero_le h0
  have hk : k < x.length := by rw [hx.len]; omega
  have hl : x.length ≤ 16777216 := by rw [hx.len]; omega
  have e1 : atI x (k : Int) = some x[k] := atI_k hk
  obtain ⟨m, hm1, _⟩ := idx_of (sgn_mem.mp (hx.sg _ (List.getElem_mem hk)))
  obtain ⟨a1, a2⟩ := fmodp ((m : Int) + n) 28 (by decide)
  obtain ⟨e, he, he'⟩ := atI_in (xs := sgnL) a1 (by omega)
  have e2 : cutD x none (some (k : Int)) = x.take k := cutS_to x k
  have e3 : cutD x (some ((k : Int) + 1)) none = x.drop (k + 1) := by
    have := cutS_from x (k + 1)
    simpa using this
  refine ⟨x.take k ++ [e] ++ x.drop (k + 1), ?_, ?_⟩
  · have l1 : (x.take k).length + 1 ≤ 16777216 := by simp; omega
    have l1' : k + 1 ≤ 16777216 := by omega
    have l2 : (x.take k ++ [e]).length + (x.drop (k + 1)).length ≤ 16777216 := by simp; omega
    have l3 : min k x.length + 1 + (x.length - (k + 1)) ≤ 16777216 := by omega
    have l4 : min k x.length + 1 ≤ 16777216 := by omega
    simp [F_L_close, evF, ir_L_close, startD, Z_L_close, hm, hA, e1, hl, sidxD, hm1, he, slD, e2, e3, l3, l4]
  · refine ⟨by simp; have := hx.len; omega, fun c hc => ?_⟩
    rcases List.mem_append.mp hc with hc | hc
    · rcases List.mem_append.mp hc with hc | hc
      · exact hx.sg c (List.mem_of_mem_take hc)
      · rw [List.mem_singleton.mp hc]; exact sgn_mem.mpr he'
    · exact hx.sg c (List.mem_of_mem_drop hc)
theorem rep_ints (k : Nat) (a : Int) : (List.replicate k [D.int a]).flatten = (List.replicate k a).map D.int := by
  induction k with
  | zero => rfl
  | succ k ih => simp [List.replicate_succ, ih]
theorem layers_ok (ns : List Int) (at0 : Nat) (hat : at0 ≤ 100) {inks : List Nat} (hi : Inks inks) (w : Nat) (hw1 : 1 ≤ w) (hw : w ≤ 30) (many : Nat) (hm : many ≤ 100) : ∃ ls : List (List Nat), F_L_layers [.scr ns, .int (at0 : Nat), .str inks, .int (w : Nat), .int (many : Nat)] = some (.lst (ls.map .str)) ∧ ls.length = many ∧ ∀ x ∈ ls, Lay w x := by
  have hr : okR (many : Int) = true := by unfold okR; simp; omega
  have f12 : Z_L_layers.F 12 = F_L_draw := id rfl
  have f15 : Z_L_layers.F 15 = F_L_layer := id rfl
  have f18 : Z_L_layers.F 18 = F_L_close := id rfl
  have ro : repOk 1 30 = true := by decide
  simp [F_L_layers, evF, ir_L_layers, startD, hr]
  refine loop_thenE (P := fun o => ∃ ls : List (List Nat), (o.bind endD) = some (.lst (ls.map .str)) ∧ ls.length = many ∧ ∀ x ∈ ls, Lay w x) (fun i σ => ∃ ls : List (List Nat), ∃ x y z, σ = [.v (.scr ns), .v (.int (at0 : Nat)), .v (.str inks), .v (.int (w : Nat)), .v (.int (many : Nat)), .o (.lst (ls.map .str)), x, y, z] ∧ ls.length = i ∧ ∀ x ∈ ls, Lay w x) ⟨[], _, _, _, rfl, rfl, by simp⟩ ?_ ?_
  · rintro i d σ hd ⟨ls, x, y, z, rfl, hls, hL⟩
    have hiw : i < many := by
      have := (List.getElem?_eq_some_iff.mp hd).1
      rw [rng_len] at this; exact this
    rw [rng_get _ _ _ hiw] at hd
    cases hd
    obtain ⟨ds, hds, hD⟩ := draw_ok ns (at0 + i) (by omega) ([4, 40, 840, 28, 5] ++ List.replicate 30 112) (by simp) (by
      intro s hs
      rcases List.mem_append.mp hs with hs | hs
      · simp only [List.mem_cons, List.not_mem_nil, or_false] at hs
        rcases hs with rfl | rfl | rfl | rfl | rfl <;> decide
      · rw [List.eq_of_mem_replicate hs]; decide)
    have hdl := hD.len
    simp only [List.length_append, List.length_cons, List.length_nil, List.length_replicate] at hdl
    match ds, hdl, hD with
    | d0 :: d1 :: d2 :: d3 :: d4 :: r, hdl, hD =>
      simp only [List.length_cons] at hdl
      have hrl : w ≤ r.length := by omega
      obtain ⟨⟨b0, _⟩, ⟨b1, _⟩, ⟨b2, _⟩, ⟨b3, _⟩, ⟨b4, _⟩, _⟩ := hD
      obtain ⟨t, ht, hT⟩ := layer_ok hi d4 r w hw hrl
      have ecut : cutD (D.int d0 :: D.int d1 :: D.int d2 :: D.int d3 :: D.int d4 :: r.map D.int) (some 5) none = r.map D.int := by
        have := cut_from (D.int d0 :: D.int d1 :: D.int d2 :: D.int d3 :: D.int d4 :: r.map D.int) 5 (by decide)
        simpa using this
      have e35 : ([D.int 4, D.int 40, D.int 840, D.int 28, D.int 5] ++ (List.replicate 30 [D.int 112]).flatten) = (([4, 40, 840, 28, 5] : List Int) ++ List.replicate 30 112).map D.int := by
        rw [rep_ints, List.map_append]; rfl
      have hll : ls.length < 16777216 := by omega
      -- the text at last
      have go : ∃ t', Lay w t' ∧ ∃ σ1, setT (.nm 6) (D.int (0 + (i : Int))) [Sl.v (.scr ns), .v (.int (at0 : Nat)), .v (.str inks), .v (.int (w : Nat)), .v (.int (many : Nat)), .o (.lst (ls.map .str)), x, y, z] = some σ1 ∧
          evSs Z_L_layers [.asg (.nm 7) (.call 12 [.v 0, .bin .add (.v 1) (.v 6), .bin .add (.lst [.c (.int 4), .c (.int 40), .c (.int 840), .c (.int 28), .c (.int 5)]) (.bin .mul (.lst [.c (.int 112)]) (.c (.int 30)))]), .asg (.nm 8) (.call 15 [.v 2, .ix (.v 7) (.c (.int 4)), .sl (.v 7) (.last (.c (.int 5))) .nil, .v 3]), .ifs (.and (.cmp .gt (.v 6) (.c (.int 0))) (.last (.cmp .eq (.ix (.v 7) (.c (.int 0))) (.c (.int 0))))) [.asg (.nm 8) (.ixo 5 (.bin .mod (.ix (.v 7) (.c (.int 1))) (.v 6)))] [], .ifs (.and (.cmp .gt (.v 6) (.c (.int 0))) (.last (.cmp .eq (.ix (.v 7) (.c (.int 0))) (.c (.int 1))))) [.asg (.nm 8) (.call 18 [.ixo 5 (.bin .mod (.ix (.v 7) (.c (.int 1))) (.v 6)), .bin .mod (.ix (.v 7) (.c (.int 2))) (.v 3), .ix (.v 7) (.c (.int 3))])] [], .app 5 (.v 8)] σ1 = some (.nx [.v (.scr ns), .v (.int (at0 : Nat)), .v (.str inks), .v (.int (w : Nat)), .v (.int (many : Nat)), .o (.lst ((ls ++ [t']).map .str)), .v (.int i), .v (.lst ((d0 :: d1 :: d2 :: d3 :: d4 :: r).map .int)), .v (.str t')]) := by
        have hds' := hds
        simp at hds'
        by_cases c1 : 0 < i
        · have hi0 : 0 < ls.length := by omega
          have hin : ¬ (i = 0) := by omega
          obtain ⟨q1, q2⟩ := fmodp d1 i (by omega)
          obtain ⟨u, hu, hu'⟩ := atI_in (xs := ls.map D.str) q1 (by simp; omega)
          obtain ⟨u, hul, rfl⟩ := List.mem_map.mp hu'
          have hU := hL u hul
          obtain ⟨p1, p2⟩ := fmodp d2 w (by omega)
          have hwn : ¬ (w = 0) := by omega
          obtain ⟨v, hv, hV⟩ := close_ok hU hw (d2.fmod w) d3 p1 p2
          by_cases c2 : d0 = 0
          · refine ⟨u, hU, _, rfl, ?_⟩
            simp only [List.set_cons_succ, List.set_cons_zero]
            (rw [evSs_consR]; generalize hRx : Pv.rest _ _ = Rx; simp [f12, ro, hds'] <;> (subst hRx; first | rw [rest_nx] | (simp only [rest_rt, rest_bk, rest_ct, bind_someX, endD_rt]) | skip))
            (rw [evSs_consR]; generalize hRx : Pv.rest _ _ = Rx; simp [f15, ecut, ht, slD] <;> (subst hRx; first | rw [rest_nx] | (simp only [rest_rt, rest_bk, rest_ct, bind_someX, endD_rt]) | skip))
            (rw [evSs_consR]; generalize hRx : Pv.rest _ _ = Rx; simp [c1, c2, hin, hu] <;> (subst hRx; first | rw [rest_nx] | (simp only [rest_rt, rest_bk, rest_ct, bind_someX, endD_rt]) | skip))
            (rw [evSs_consR]; generalize hRx : Pv.rest _ _ = Rx; simp [c1, c2] <;> (subst hRx; first | rw [rest_nx] | (simp only [rest_rt, rest_bk, rest_ct, bind_someX, endD_rt]) | skip))
            simp [hll]
          · by_cases c3 : d0 = 1
            · refine ⟨v, hV, _, rfl, ?_⟩
              simp only [List.set_cons_succ, List.set_cons_zero]
              (rw [evSs_consR]; generalize hRx : Pv.rest _ _ = Rx; simp [f12, ro, hds'] <;> (subst hRx; first | rw [rest_nx] | (simp only [rest_rt, rest_bk, rest_ct, bind_someX, endD_rt]) | skip))
              (rw [evSs_consR]; generalize hRx : Pv.rest _ _ = Rx; simp [f15, ecut, ht, slD] <;> (subst hRx; first | rw [rest_nx] | (simp only [rest_rt, rest_bk, rest_ct, bind_someX, endD_rt]) | skip))
              (rw [evSs_consR]; generalize hRx : Pv.rest _ _ = Rx; simp [c1, c2, c3] <;> (subst hRx; first | rw [rest_nx] | (simp only [rest_rt, rest_bk, rest_ct, bind_someX, endD_rt]) | skip))
              (rw [evSs_consR]; generalize hRx : Pv.rest _ _ = Rx; simp [c1, c2, c3, hin, hwn, hu, f18, hv] <;> (subst hRx; first | rw [rest_nx] | (simp only [rest_rt, rest_bk, rest_ct, bind_someX, endD_rt]) | skip))
              simp [hll]
            · refine ⟨t, hT, _, rfl, ?_⟩
              simp only [List.set_cons_succ, List.set_cons_zero]
              (rw [evSs_consR]; generalize hRx : Pv.rest _ _ = Rx; simp [f12, ro, hds'] <;> (subst hRx; first | rw [rest_nx] | (simp only [rest_rt, rest_bk, rest_ct, bind_someX, endD_rt]) | skip))
              (rw [evSs_consR]; generalize hRx : Pv.rest _ _ = Rx; simp [f15, ecut, ht, slD] <;> (subst hRx; first | rw [rest_nx] | (simp only [rest_rt, rest_bk, rest_ct, bind_someX, endD_rt]) | skip))
              (rw [evSs_consR]; generalize hRx : Pv.rest _ _ = Rx; simp [c1, c2, c3] <;> (subst hRx; first | rw [rest_nx] | (simp only [rest_rt, rest_bk, rest_ct, bind_someX, endD_rt]) | skip))
              (rw [evSs_consR]; generalize hRx : Pv.rest _ _ = Rx; simp [c1, c2, c3] <;> (subst hRx; first | rw [rest_nx] | (simp only [rest_rt, rest_bk, rest_ct, bind_someX, endD_rt]) | skip))
              simp [hll]
        · refine ⟨t, hT, _, rfl, ?_⟩
          simp only [List.set_cons_succ, List.set_cons_zero]
          (rw [evSs_consR]; generalize hRx : Pv.rest _ _ = Rx; simp [f12, ro, hds'] <;> (subst hRx; first | rw [rest_nx] | (simp only [rest_rt, rest_bk, rest_ct, bind_someX, endD_rt]) | skip))
          (rw [evSs_consR]; generalize hRx : Pv.rest _ _ = Rx; simp [f15, ecut, ht, slD] <;> (subst hRx; first | rw [rest_nx] | (simp only [rest_rt, rest_bk, rest_ct, bind_someX, endD_rt]) | skip))
          (rw [evSs_consR]; generalize hRx : Pv.rest _ _ = Rx; simp [c1] <;> (subst hRx; first | rw [rest_nx] | (simp only [rest_rt, rest_bk, rest_ct, bind_someX, endD_rt]) | skip))
          (rw [evSs_consR]; generalize hRx : Pv.rest _ _ = Rx; simp [c1] <;> (subst hRx; first | rw [rest_nx] | (simp only [rest_rt, rest_bk, rest_ct, bind_someX, endD_rt]) | skip))
          simp [hll]
      obtain ⟨t', hT', σ1, h1, h2⟩ := go
      exact ⟨_, _, h1, .inl h2, ls ++ [t'], _, _, _, rfl, by simp [hls], fun q hq => by
        rcases List.mem_append.mp hq with hq | hq
        · exact hL q hq
        · rw [List.mem_singleton.mp hq]; exact hT'⟩
  · rintro σ ⟨ls, x, y, z, rfl, hls, hL⟩
    rw [rng_len] at hls
    exact ⟨ls, by simp, hls, hL⟩
end K01

set_option Elab.async false
set_option linter.all false
set_option maxRecDepth 100000
set_option maxHeartbeats 4000000
namespace K01
open PySem L2 Pv
def agreeN (x y : List Nat) : Bool := (x.zip y).all fun p => p.1 == 45 || p.2 == 45 || p.1 == p.2
def pressN (x y : List Nat) : List Nat := List.zipWith (fun a b => if b = 45 then a else b) x y
theorem by_place (F : Nat → Nat → Nat) (x y : List Nat) (h : x.length = y.length) (hx : x.length ≤ 16777216) :
    joinD (.str []) (.lst ((List.range x.length).map fun k => D.str [F (x[k]?.getD 0) (y[k]?.getD 0)])) = some (.str (List.zipWith F x y)) := by
  have := join_signs (fun k => F (x[k]?.getD 0) (y[k]?.getD 0)) (List.range x.length) (by simpa using hx)
  rw [this, range_zip F x y h]
theorem L_press_ok (x y : List Nat) (h : x.length = y.length) (hx : x.length ≤ 1000) : F_L_press [.str x, .str y] = some (.str (pressN x y)) := by
  have hl : x.length ≤ 16777216 := by omega
  have hl' : y.length ≤ 16777216 := by omega
  have hr : okR (x.length : Int) = true := by unfold okR; simp; omega
  simp [F_L_press, evF, ir_L_press, startD, Z_L_press, hl, hr]
  rw [rng_len, if_pos hl, lcL_rng (g := fun k => D.str [(fun a b => if b = 45 then a else b) (x[k]?.getD 0) (y[k]?.getD 0)])]
  · simp only [map_someX, bind_someX, Function.comp_apply]
    have := by_place (fun a b => if b = 45 then a else b) x y h hl
    rw [this]
    simp [pressN]
  · intro k hk
    have hk2 : k < y.length := by omega
    simp [wipeD, atI_k hk, atI_k hk2, hl, hl', hk, hk2]
    by_cases hd : y[k] = 45
    · simp [hd]
    · simp [hd]
def badP (a b : Nat) : Bool := !(a == 45) && (!(b == 45) && !(a == b))
theorem agreeN_any (x y : List Nat) : agreeN x y = !((x.zip y).any fun p => badP p.1 p.2) := by
  unfold agreeN
  rw [List.not_any_eq_all_not]
  congr 1
  funext p
  unfold badP
  cases p.1 == 45 <;> cases p.2 == 45 <;> cases p.1 == p.2 <;> rfl
theorem L_agree_ok (x y : List Nat) (h : x.length = y.length) (hx : x.length ≤ 1000) : F_L_agree [.str x, .str y] = some (.bl (agreeN x y)) := by
  have hl : x.length ≤ 16777216 := by omega
  have hl' : y.length ≤ 16777216 := by omega
  have hr : okR (x.length : Int) = true := by unfold okR; simp; omega
  simp only [F_L_agree, evF, ir_L_agree]
  rw [if_pos (show [D.str x, D.str y].length = 2 from rfl), evSs_cons]
  have key := forL_find (t := .nm 2) (f := evSs Z_L_agree [.ifs (.and (.cmp .ne (.ix (.v 0) (.v 2)) (.c (.str [45]))) (.and (.cmp .ne (.ix (.v 1) (.v 2)) (.c (.str [45]))) (.last (.cmp .ne (.ix (.v 0) (.v 2)) (.ix (.v 1) (.v 2)))))) [.ret (.c (.bl false))] []])
    (fun d => match d with | .int k => badP (x[k.toNat]?.getD 0) (y[k.toNat]?.getD 0) | _ => false) (.bl false) (fun σ => ∃ z, σ = [.v (.str x), .v (.str y), z]) (ds := rngD 0 x.length) (σ := [.v (.str x), .v (.str y), .no]) ⟨_, rfl⟩ (by
      rintro d hd σ ⟨z, rfl⟩
      rw [rng_eq, List.mem_map] at hd
      obtain ⟨k, hk, rfl⟩ := hd
      have hk : k < x.length := List.mem_range.mp hk
      have hk2 : k < y.length := by omega
      refine ⟨_, rfl, ?_⟩
      simp [atI_k hk, atI_k hk2, hl, hl', hk, hk2, badP]
      by_cases h1 : x[k] = 45
      · simp [h1]
      · by_cases h2 : y[k] = 45
        · simp [h1, h2]
        · by_cases h3 : x[k] = y[k]
          · simp [h1, h2, h3]
          · simp [h1, h2, h3])
  have e : (rngD 0 x.length).any (fun d => match d with | .int k => badP (x[k.toNat]?.getD 0) (y[k.toNat]?.getD 0) | _ => false) = (x.zip y).any fun p => badP p.1 p.2 := by
    have e3 : ((fun d : D => match d with | .int k => badP (x[k.toNat]?.getD 0) (y[k.toNat]?.getD 0) | _ => false) ∘ fun k : Nat => D.int (0 + (k : Nat))) = fun k => badP (x[k]?.getD 0) (y[k]?.getD 0) := by
      funext k
      simp
    rw [rng_eq, List.any_map, ← range_any badP x y h, e3]
  have e2 : evS Z_L_agree (.for_ (.nm 2) (.r1 (.blt .len [.v 0])) [.ifs (.and (.cmp .ne (.ix (.v 0) (.v 2)) (.c (.str [45]))) (.and (.cmp .ne (.ix (.v 1) (.v 2)) (.c (.str [45]))) (.last (.cmp .ne (.ix (.v 0) (.v 2)) (.ix (.v 1) (.v 2)))))) [.ret (.c (.bl false))] []]) (startD 3 [.str x, .str y]) = forL (.nm 2) (evSs Z_L_agree [.ifs (.and (.cmp .ne (.ix (.v 0) (.v 2)) (.c (.str [45]))) (.and (.cmp .ne (.ix (.v 1) (.v 2)) (.c (.str [45]))) (.last (.cmp .ne (.ix (.v 0) (.v 2)) (.ix (.v 1) (.v 2)))))) [.ret (.c (.bl false))] []]) (rngD 0 x.length) [.v (.str x), .v (.str y), .no] := by
    simp [startD, hl, hr]
  rw [e2, agreeN_any]
  rcases key with ⟨h1, h2⟩ | ⟨h1, σ', h2, _⟩
  · rw [h2, ← e, h1]; simp only [bind_someX, thenS_rt, endD_rt, Bool.not_true]
  · rw [h2, ← e, h1]; simp only [bind_someX, thenS_nx, evSs_cons, evS_ret, evE_c, map_someX, thenS_rt, endD_rt, Bool.not_false]
theorem agree_ok (x y : List Nat) : F_agree [.str x, .str y] = some (.bl (agreeN x y)) := by
  simp only [F_agree, evF, ir_agree]
  rw [if_pos (show [D.str x, D.str y].length = 2 from rfl), evSs_cons]
  have key := forL_find (t := .tp [2, 3]) (f := evSs Z_agree [.ifs (.and (.cmp .ne (.v 2) (.c (.str [45]))) (.and (.cmp .ne (.v 3) (.c (.str [45]))) (.last (.cmp .ne (.v 2) (.v 3))))) [.ret (.c (.bl false))] []])
    (fun d => match d with | .tup [.str [a], .str [b]] => badP a b | _ => false) (.bl false) (fun σ => ∃ z u, σ = [.v (.str x), .v (.str y), z, u]) (ds := (x.zip y).map fun p => D.tup [.str [p.1], .str [p.2]]) (σ := [.v (.str x), .v (.str y), .no, .no]) ⟨_, _, rfl⟩ (by
      rintro d hd σ ⟨z, u, rfl⟩
      rw [List.mem_map] at hd
      obtain ⟨⟨a, b⟩, _, rfl⟩ := hd
      refine ⟨_, rfl, ?_⟩
      simp [badP]
      by_cases h1 : a = 45
      · simp [h1]
      · by_cases h2 : b = 45
        · simp [h1, h2]
        · by_cases h3 : a = b
          · simp [h1, h2, h3]
          · simp [h1, h2, h3])
  have e : ((x.zip y).map fun p => D.tup [.str [p.1], .str [p.2]]).any (fun d => match d with | .tup [.str [a], .str [b]] => badP a b | _ => false) = (x.zip y).any fun p => badP p.1 p.2 := by
    rw [List.any_map]
    rfl
  have e2 : evS Z_agree (.for_ (.tp [2, 3]) (.zip (.v 0) (.v 1)) [.ifs (.and (.cmp .ne (.v 2) (.c (.str [45]))) (.and (.cmp .ne (.v 3) (.c (.str [45]))) (.last (.cmp .ne (.v 2) (.v 3))))) [.ret (.c (.bl false))] []]) (startD 4 [.str x, .str y]) = forL (.tp [2, 3]) (evSs Z_agree [.ifs (.and (.cmp .ne (.v 2) (.c (.str [45]))) (.and (.cmp .ne (.v 3) (.c (.str [45]))) (.last (.cmp .ne (.v 2) (.v 3))))) [.ret (.c (.bl false))] []]) ((x.zip y).map fun p => D.tup [.str [p.1], .str [p.2]]) [.v (.str x), .v (.str y), .no, .no] := by
    simp [startD, zipD_str]
  rw [e2, agreeN_any]
  rcases key with ⟨h1, h2⟩ | ⟨h1, σ', h2, _⟩
  · rw [h2, ← e, h1]; simp only [bind_someX, thenS_rt, endD_rt, Bool.not_true]
  · rw [h2, ← e, h1]; simp only [bind_someX, thenS_nx, evSs_cons, evS_ret, evE_c, map_someX, thenS_rt, endD_rt, Bool.not_false]
def cellsN (x : List Nat) : List Nat := (List.range x.length).filter fun k => !(x[k]?.getD 0 == 45)
theorem cells_of_ok (x : List Nat) (hx : x.length ≤ 1000) : F_cells_of [.str x] = some (.tup ((cellsN x).map fun k => D.int (k : Nat))) := by
  have hl : x.length ≤ 16777216 := by omega
  have hr : okR (x.length : Int) = true := by unfold okR; simp; omega
  simp [F_cells_of, evF, ir_cells_of, startD, Z_cells_of, hl, hr]
  rw [rng_len, if_pos hl, lcL_rngF (p := fun k => !(x[k]?.getD 0 == 45)) (g := fun k => D.int (k : Nat))]
  · simp [cellsN]
  · intro k hk
    simp [wipeD, atI_k hk, hl, hk]
    rfl

def badW (a b : Nat) : Bool := !(a == 45) && !(a == b)
def withinN (x y : List Nat) : Bool := !((x.zip y).any fun p => badW p.1 p.2)
theorem within_ok (x y : List Nat) : F_within [.str x, .str y] = some (.bl (withinN x y)) := by
  simp only [F_within, evF, ir_within]
  rw [if_pos (show [D.str x, D.str y].length = 2 from rfl), evSs_cons]
  have key := forL_find (t := .tp [2, 3]) (f := evSs Z_within [.ifs (.and (.cmp .ne (.v 2) (.c (.str [45]))) (.last (.cmp .ne (.v 2) (.v 3)))) [.ret (.c (.bl false))] []])
    (fun d => match d with | .tup [.str [a], .str [b]] => badW a b | _ => false) (.bl false) (fun σ => ∃ z u, σ = [.v (.str x), .v (.str y), z, u]) (ds := (x.zip y).map fun p => D.tup [.str [p.1], .str [p.2]]) (σ := [.v (.str x), .v (.str y), .no, .no]) ⟨_, _, rfl⟩ (by
      rintro d hd σ ⟨z, u, rfl⟩
      rw [List.mem_map] at hd
      obtain ⟨⟨a, b⟩, _, rfl⟩ := hd
      refine ⟨_, rfl, ?_⟩
      simp [badW]
      by_cases h1 : a = 45
      · simp [h1]
      · by_cases h3 : a = b
        · simp [h1, h3]
        · simp [h1, h3])
  have e : ((x.zip y).map fun p => D.tup [.str [p.1], .str [p.2]]).any (fun d => match d with | .tup [.str [a], .str [b]] => badW a b | _ => false) = (x.zip y).any fun p => badW p.1 p.2 := by
    rw [List.any_map]
    rfl
  have e2 : evS Z_within (.for_ (.tp [2, 3]) (.zip (.v 0) (.v 1)) [.ifs (.and (.cmp .ne (.v 2) (.c (.str [45]))) (.last (.cmp .ne (.v 2) (.v 3)))) [.ret (.c (.bl false))] []]) (startD 4 [.str x, .str y]) = forL (.tp [2, 3]) (evSs Z_within [.ifs (.and (.cmp .ne (.v 2) (.c (.str [45]))) (.last (.cmp .ne (.v 2) (.v 3)))) [.ret (.c (.bl false))] []]) ((x.zip y).map fun p => D.tup [.str [p.1], .str [p.2]]) [.v (.str x), .v (.str y), .no, .no] := by
    simp [startD, zipD_str]
  rw [e2, withinN]
  rcases key with ⟨h1, h2⟩ | ⟨h1, σ', h2, _⟩
  · rw [h2, ← e, h1]; simp only [bind_someX, thenS_rt, endD_rt, Bool.not_true]
  · rw [h2, ← e, h1]; simp only [bind_someX, thenS_nx, evSs_cons, evS_ret, evE_c, map_someX, thenS_rt, endD_rt, Bool.not_false]
theorem press_ok (x y : List Nat) (h : x.length = y.length) (hx : x.length ≤ 1000) : F_press [.str x, .str y] = some (.str (pressN x y)) := by
  have hl : x.length ≤ 16777216 := by omega
  have hz : min x.length y.length ≤ 16777216 := by omega
  simp [F_press, evF, ir_press, startD, Z_press, zipD_str, hz]
  rw [lcL_of (fun p : Nat × Nat => D.tup [.str [p.1], .str [p.2]]) (fun _ => true) (fun p => D.str [if p.2 = 45 then p.1 else p.2])]
  · rw [List.filter_eq_self.mpr (by simp)]
    simp only [map_someX, bind_someX, Function.comp_apply]
    have := join_signs (fun p : Nat × Nat => if p.2 = 45 then p.1 else p.2) (x.zip y) (by rw [List.length_zip]; omega)
    rw [this]
    simp [pressN, List.zip, List.map_zipWith]
  · rintro ⟨a, b⟩ _
    refine ⟨_, rfl, rfl, fun _ => ?_⟩
    simp [wipeD]
    by_cases hb : b = 45
    · simp [hb]
    · simp [hb]
theorem joined_ok (x y : List Nat) (h : x.length = y.length) (hx : x.length ≤ 1000) : F_joined [.str x, .str y] = some (if agreeN x y then .str (pressN x y) else .non) := by
  have f1 : Z_joined.F 1 = F_agree := id rfl
  have f9 : Z_joined.F 9 = F_press := id rfl
  cases hb : agreeN x y
  · simp [F_joined, evF, ir_joined, startD, f1, f9, agree_ok, hb]
  · simp [F_joined, evF, ir_joined, startD, f1, f9, agree_ok, press_ok x y h hx, hb]
theorem inD_cs (k : Nat) (cs : List Int) : inD (.int (k : Nat)) (cs.map D.int) = some (decide ((k : Int) ∈ cs)) := by
  have hf : (flatD (.int (k : Nat)) && (cs.map D.int).all flatD) = true := by
    rw [Bool.and_eq_true]
    refine ⟨rfl, ?_⟩
    rw [List.all_map, List.all_eq_true]
    intro a _
    rfl
  unfold inD
  rw [if_pos hf, List.any_map]
  congr 1
  rw [Bool.eq_iff_iff]
  simp [eqb_int]
/-- a list or a tuple of cells -/
def Cs (d : D) (cs : List Int) : Prop := d = .lst (cs.map .int) ∨ d = .tup (cs.map .int)
theorem Cs.isin {d : D} {cs : List Int} (h : Cs d cs) (k : Nat) : isInD (.int (k : Nat)) d = some (decide ((k : Int) ∈ cs)) := by
  rcases h with rfl | rfl <;> exact inD_cs k cs
theorem Cs.cmp {d : D} {cs : List Int} (h : Cs d cs) (k : Nat) : cmpX .isin (.int (k : Nat)) d = some (decide ((k : Int) ∈ cs)) := by
  rcases h with rfl | rfl <;> exact inD_cs k cs
def freedN (x : List Nat) (cs : List Int) : List Nat := (List.range x.length).map fun (k : Nat) => if (k : Int) ∈ cs then 45 else x[k]?.getD 0
def keptN (x : List Nat) (cs : List Int) : List Nat := (List.range x.length).map fun (k : Nat) => if (k : Int) ∈ cs then x[k]?.getD 0 else 45
theorem freed_ok (x : List Nat) {d : D} {cs : List Int} (h : Cs d cs) (hx : x.length ≤ 1000) : F_freed [.str x, d] = some (.str (freedN x cs)) := by
  have hl : x.length ≤ 16777216 := by omega
  have hr : okR (x.length : Int) = true := by unfold okR; simp; omega
  simp [F_freed, evF, ir_freed, startD, Z_freed, hl, hr]
  rw [rng_len, if_pos hl, lcL_rng (g := fun k => D.str [if (k : Int) ∈ cs then 45 else x[k]?.getD 0])]
  · simp only [map_someX, bind_someX, Function.comp_apply]
    have := join_signs (fun (k : Nat) => if (k : Int) ∈ cs then 45 else x[k]?.getD 0) (List.range x.length) (by simpa using hl)
    rw [this]
    simp [freedN]
  · intro k hk
    simp only [wipeD]
    simp [wipeD, atI_k hk, hl, hk, h.cmp]
    by_cases hm : (k : Int) ∈ cs
    · simp [hm]
    · simp [hm]
theorem kept_ok (x : List Nat) {d : D} {cs : List Int} (h : Cs d cs) (hx : x.length ≤ 1000) : F_kept_at [.str x, d] = some (.str (keptN x cs)) := by
  have hl : x.length ≤ 16777216 := by omega
  have hr : okR (x.length : Int) = true := by unfold okR; simp; omega
  simp [F_kept_at, evF, ir_kept_at, startD, Z_kept_at, hl, hr]
  rw [rng_len, if_pos hl, lcL_rng (g := fun k => D.str [if (k : Int) ∈ cs then x[k]?.getD 0 else 45])]
  · simp only [map_someX, bind_someX, Function.comp_apply]
    have := join_signs (fun (k : Nat) => if (k : Int) ∈ cs then x[k]?.getD 0 else 45) (List.range x.length) (by simpa using hl)
    rw [this]
    simp [keptN]
  · intro k hk
    simp [wipeD, atI_k hk, hl, hk, h.cmp]
    by_cases hm : (k : Int) ∈ cs
    · simp [hm]
    · simp [hm]
theorem filled_ok (x : List Nat) (hx : x.length ≤ 1000) : F_filled [.str x] = some (.str (x.map fun s => if s = 45 then 46 else s)) := by
  show (if x.length ≤ 1000000 then some (D.str (x.map fun s => if s = 45 then 46 else s)) else none) = _
  rw [if_pos (by omega)]
theorem dash_flat (w : Nat) : (List.replicate w [45]).flatten = List.replicate w 45 := by
  induction w with
  | zero => rfl
  | succ w ih => simp [List.replicate_succ, ih]
theorem rep_dash (w : Nat) (hw : w ≤ 1000) : repOk 1 (w : Int) = true := by unfold repOk line; simp; omega
theorem empty_ok (w : Nat) (hw : w ≤ 1000) : F_empty_layer [.int (w : Nat)] = some (.str (List.replicate w 45)) := by
  simp [F_empty_layer, evF, ir_empty_layer, startD, rep_dash w hw, dash_flat]
def ordN (c : Nat) : Int := ((sgnL.findIdx? (· == c)).getD 0 : Nat)
theorem order_ok {w : Nat} {x : List Nat} (h : Lay w x) (hw : w ≤ 1000) : F_layer_order [.str x] = some (.tup ((x.map ordN).map .int)) := by
  have hm : cval 0 = some (.str sgnL) := rfl
  have hl : x.length ≤ 16777216 := by rw [h.len]; omega
  simp [F_layer_order, evF, ir_layer_order, startD, Z_layer_order, hm, hl]
  rw [lcL_of (fun c : Nat => D.str [c]) (fun _ => true) (fun c => D.int (ordN c))]
  · rw [List.filter_eq_self.mpr (by simp)]
    simp
  · intro c hc
    obtain ⟨n, hn, _⟩ := idx_of (sgn_mem.mp (h.sg c hc))
    refine ⟨_, rfl, rfl, fun _ => ?_⟩
    simp [hm, sidxD, hn, ordN, wipeD]
end K01

set_option Elab.async false
set_option linter.all false
set_option maxRecDepth 100000
set_option maxHeartbeats 4000000
namespace K01
open PySem L2 Pv
theorem agree_cons (a b : Nat) (x y : List Nat) : agreeN (a :: x) (b :: y) = ((a == 45 || b == 45 || a == b) && agreeN x y) := rfl
theorem press_due : ∀ {x y : List Nat}, x.length = y.length → agreeN x y = true → pressN x y = List.zipWith (fun a b => if a = 45 then b else a) x y
  | [], [], _, _ => rfl
  | [], _ :: _, h, _ => by simp at h
  | _ :: _, [], h, _ => by simp at h
  | a :: x, b :: y, h, ha => by
    rw [agree_cons, Bool.and_eq_true] at ha
    have ih := press_due (x := x) (y := y) (by simpa using h) ha.2
    unfold pressN at ih ⊢
    rw [List.zipWith_cons_cons, List.zipWith_cons_cons, ih]
    congr 1
    have h1 := ha.1
    simp only [Bool.or_eq_true, beq_iff_eq] at h1
    by_cases ea : a = 45 <;> by_cases eb : b = 45 <;> simp [ea, eb]
    rcases h1 with (h1 | h1) | h1
    · exact absurd h1 ea
    · exact absurd h1 eb
    · exact h1.symm
theorem inside_len (x y : List Nat) (h : x.length = y.length) : decide ((((List.range x.length).filter fun k => (x[k]?.getD 0 == 45 || x[k]?.getD 0 == y[k]?.getD 0)).length : Int) = (x.length : Int)) = withinN x y := by
  unfold withinN
  rw [← range_any badW x y h]
  have e : ((List.range x.length).any fun k => badW (x[k]?.getD 0) (y[k]?.getD 0)) = !((List.range x.length).all fun k => (x[k]?.getD 0 == 45 || x[k]?.getD 0 == y[k]?.getD 0)) := by
    rw [List.not_all_eq_any_not]
    congr 1
    funext k
    unfold badW
    cases (x[k]?.getD 0 == 45) <;> cases (x[k]?.getD 0 == y[k]?.getD 0) <;> rfl
  rw [e, Bool.not_not, Bool.eq_iff_iff, decide_eq_true_eq, List.all_eq_true]
  have := List.length_filter_eq_length_iff (p := fun k => (x[k]?.getD 0 == 45 || x[k]?.getD 0 == y[k]?.getD 0)) (l := List.range x.length)
  rw [List.length_range] at this
  rw [← this]
  omega
theorem pair_ok {w : Nat} {x y : List Nat} (hx : Lay w x) (hy : Lay w y) (hw : w ≤ 30) (b : Bool) : F_L_pair [.str x, .str y, .bl b] = some (.bl true) := by
  have hxy : x.length = y.length := by rw [hx.len, hy.len]
  have hx3 : x.length ≤ 1000 := by rw [hx.len]; omega
  have hl : x.length ≤ 16777216 := by omega
  have hl' : y.length ≤ 16777216 := by omega
  have hr : okR (x.length : Int) = true := by unfold okR; simp; omega
  have f1 : Z_L_pair.F 1 = F_agree := id rfl
  have f2 : Z_L_pair.F 2 = F_within := id rfl
  have f3 : Z_L_pair.F 3 = F_joined := id rfl
  have f20 : Z_L_pair.F 20 = F_L_agree := id rfl
  have v1 := agree_ok x y
  have v2 := within_ok x y
  have v3 := joined_ok x y hxy hx3
  have v4 := L_agree_ok x y hxy hx3
  have hin := inside_len x y hxy
  have hdue := press_due (x := x) (y := y) hxy
  have c1 : ∀ A B C E F G : Sl, lcL (.nm 6) (evE Z_L_pair (.or (.cmp .eq (.ix (.v 0) (.v 6)) (.c (.str [45]))) (.last (.cmp .eq (.ix (.v 0) (.v 6)) (.ix (.v 1) (.v 6)))))) (evE Z_L_pair (.v 6)) [.v (.str x), .v (.str y), A, B, C, E, .no] (rngD 0 x.length) = some (((List.range x.length).filter fun k => (x[k]?.getD 0 == 45 || x[k]?.getD 0 == y[k]?.getD 0)).map fun k => D.int (k : Nat)) := by
    intro A B C E F G
    rw [lcL_rngF (p := fun k => (x[k]?.getD 0 == 45 || x[k]?.getD 0 == y[k]?.getD 0)) (g := fun k => D.int (k : Nat))]
    intro k hk
    have hk2 : k < y.length := by omega
    simp [atI_k hk, atI_k hk2, hl, hl', hk, hk2]
    by_cases h1 : x[k] = 45
    · simp [h1]
    · simp [h1]
      rw [Bool.eq_iff_iff]
      simp [h1]
  have c2 : ∀ A B C E F G : Sl, lcL (.nm 6) (evE Z_L_pair (.c (.bl true))) (evE Z_L_pair (.ix (.lst [.ix (.v 0) (.v 6), .ix (.v 1) (.v 6)]) (.blt .int [.cmp .eq (.ix (.v 0) (.v 6)) (.c (.str [45]))]))) [.v (.str x), .v (.str y), A, B, C, E, .no] (rngD 0 x.length) = some ((List.range x.length).map fun k => D.str [(fun a b => if a = 45 then b else a) (x[k]?.getD 0) (y[k]?.getD 0)]) := by
    intro A B C E F G
    rw [lcL_rng (g := fun k => D.str [(fun a b => if a = 45 then b else a) (x[k]?.getD 0) (y[k]?.getD 0)])]
    intro k hk
    have hk2 : k < y.length := by omega
    simp [atI_k hk, atI_k hk2, hl, hl', hk, hk2]
    by_cases h1 : x[k] = 45
    · simp [h1]
    · simp [h1]
  have j2 := by_place (fun a b => if a = 45 then b else a) x y hxy hl
  unfold F_L_pair evF ir_L_pair
  rw [if_pos (show [D.str x, D.str y, D.bl b].length = 3 from rfl)]
  generalize hA : agreeN x y = A at *
  generalize hW : withinN x y = W at *
  have go : ∀ r : List S, evSs Z_L_pair (.ifs (.v 2) [.asg (.nm 5) (.lst [.callK 1 ["two", "one"] [1, 0] [.v 1, .v 0], .callK 2 ["two", "one"] [1, 0] [.v 1, .v 0], .callK 3 ["two", "one"] [1, 0] [.v 1, .v 0]])] [.asg (.nm 5) (.lst [.call 1 [.v 0, .v 1], .call 2 [.v 0, .v 1], .call 3 [.v 0, .v 1]])] :: r) (startD 7 [.str x, .str y, .bl b]) =
      evSs Z_L_pair r [.v (.str x), .v (.str y), .v (.bl b), .no, .no, .v (.lst [.bl A, .bl W, if A then .str (pressN x y) else .non]), .no] := by
    intro r
    rw [evSs_consR]
    cases b
    · simp [startD, f1, f2, f3, v1, v2, v3, rest_nx]
    · simp [startD, f1, f2, f3, v1, v2, v3, rest_nx, permL]
  rw [go]
  cases A
  · (rw [evSs_consR]; generalize hRx : Pv.rest _ _ = Rx; simp [isIns, isi1] <;> (subst hRx; first | rw [rest_nx] | (simp only [rest_rt, rest_bk, rest_ct, bind_someX, endD_rt]) | skip))
    (rw [evSs_consR]; generalize hRx : Pv.rest _ _ = Rx; simp [f20, v4] <;> (subst hRx; first | rw [rest_nx] | (simp only [rest_rt, rest_bk, rest_ct, bind_someX, endD_rt]) | skip))
    rw [evSs_consR]
    generalize hR : Pv.rest _ _ = R
    simp [hl, hr, wipeD]
    rw [rng_len, if_pos hl, c1 _ _ _ _ .no .no]
    subst hR
    simp only [map_someX, bind_someX]
    rw [rest_nx]
    (rw [evSs_consR]; generalize hRx : Pv.rest _ _ = Rx; simp [hin, hl] <;> (subst hRx; first | rw [rest_nx] | (simp only [rest_rt, rest_bk, rest_ct, bind_someX, endD_rt]) | skip))
    simp [cmpD, isD]
  · (rw [evSs_consR]; generalize hRx : Pv.rest _ _ = Rx; simp [isIns, isi1] <;> (subst hRx; first | rw [rest_nx] | (simp only [rest_rt, rest_bk, rest_ct, bind_someX, endD_rt]) | skip))
    (rw [evSs_consR]; generalize hRx : Pv.rest _ _ = Rx; simp [f20, v4] <;> (subst hRx; first | rw [rest_nx] | (simp only [rest_rt, rest_bk, rest_ct, bind_someX, endD_rt]) | skip))
    rw [evSs_consR]
    generalize hR : Pv.rest _ _ = R
    simp [hl, hr, wipeD]
    rw [rng_len, if_pos hl, c1 _ _ _ _ .no .no]
    subst hR
    simp only [map_someX, bind_someX]
    rw [rest_nx]
    (rw [evSs_consR]; generalize hRx : Pv.rest _ _ = Rx; simp [hin, hl] <;> (subst hRx; first | rw [rest_nx] | (simp only [rest_rt, rest_bk, rest_ct, bind_someX, endD_rt]) | skip))
    (rw [evSs_consR]; generalize hRx : Pv.rest _ _ = Rx; simp [] <;> (subst hRx; first | rw [rest_nx] | (simp only [rest_rt, rest_bk, rest_ct, bind_someX, endD_rt]) | skip))
    rw [evSs_consR]
    generalize hR : Pv.rest _ _ = R
    simp [hl, hr, wipeD]
    rw [rng_len, if_pos hl, c2 _ _ _ _ .no .no]
    simp only [map_someX, bind_someX, Function.comp_apply, j2]
    subst hR
    rw [rest_nx]
    rw [hdue rfl]
    simp [isIns, isi1]
theorem whole_ok (z : Int) : F_L_whole [.int z] = some (.bl true) := by
  simp [F_L_whole, evF, ir_L_whole, startD, isIns, isi1]
theorem eqT_ints (l : List Int) : eqD (.tup (l.map D.int)) (.tup (l.map D.int)) = some true := by
  refine eqD_self (shp_of (n := 1) ?_ (by decide))
  simp only [D.layB]
  apply layL_all
  intro d hd
  obtain ⟨z, _, rfl⟩ := List.mem_map.mp hd
  rfl
theorem cells_ok {w : Nat} {x : List Nat} (hx : Lay w x) (hw : w ≤ 30) (b : Bool) : F_L_cells [.str x, .bl b] = some (.bl true) := by
  have hx3 : x.length ≤ 1000 := by rw [hx.len]; omega
  have hl : x.length ≤ 16777216 := by omega
  have hr : okR (x.length : Int) = true := by unfold okR; simp; omega
  have f0 : Z_L_cells.F 0 = F_cells_of := id rfl
  have f10 : Z_L_cells.F 10 = F_L_whole := id rfl
  have v1 := cells_of_ok x hx3
  have ec : ((cellsN x).map fun k => D.int (k : Nat)) = ((cellsN x).map fun (k : Nat) => (k : Int)).map D.int := by rw [List.map_map]; rfl
  have q1 := eqT_ints ((cellsN x).map fun (k : Nat) => (k : Int))
  rw [← ec] at q1
  have c1 : ∀ A B C : Sl, lcL (.nm 4) (evE Z_L_cells (.cmp .ne (.ix (.v 0) (.v 4)) (.c (.str [45])))) (evE Z_L_cells (.v 4)) [.v (.str x), A, B, C, .no] (rngD 0 x.length) = some ((cellsN x).map fun k => D.int (k : Nat)) := by
    intro A B C
    rw [lcL_rngF (p := fun k => !(x[k]?.getD 0 == 45)) (g := fun k => D.int (k : Nat))]
    · rfl
    · intro k hk
      simp [atI_k hk, hl, hk]
      rfl
  have cm : cmpX .eq (.tup ((cellsN x).map fun k => D.int (k : Nat))) (.tup ((cellsN x).map fun k => D.int (k : Nat))) = some true := q1
  have cl : (cellsN x).length ≤ 16777216 := by
    unfold cellsN
    have := List.length_filter_le (fun k => !(x[k]?.getD 0 == 45)) (List.range x.length)
    rw [List.length_range] at this
    omega
  generalize cellsN x = CS at *
  unfold F_L_cells evF ir_L_cells
  rw [if_pos (show [D.str x, D.bl b].length = 2 from rfl)]
  have go : ∀ r : List S, evSs Z_L_cells (.ifs (.v 1) [.asg (.nm 3) (.callK 0 ["one"] [0] [.v 0])] [.asg (.nm 3) (.call 0 [.v 0])] :: r) (startD 5 [.str x, .bl b]) = evSs Z_L_cells r [.v (.str x), .v (.bl b), .no, .v (.tup (CS.map fun k => D.int (k : Nat))), .no] := by
    intro r
    rw [evSs_consR]
    cases b
    · simp [startD, f0, v1, rest_nx]
    · simp [startD, f0, v1, rest_nx, permL]
  rw [go]
  (rw [evSs_consR]; generalize hRx : Pv.rest _ _ = Rx; simp [isIns, isi1] <;> (subst hRx; first | rw [rest_nx] | (simp only [rest_rt, rest_bk, rest_ct, bind_someX, endD_rt]) | skip))
  rw [evSs_consR]
  generalize hR : Pv.rest _ _ = R
  simp
  refine forL_okE (P := fun o => o.bind endD = some (.bl true)) (fun σ => ∃ y, σ = [.v (.str x), .v (.bl b), y, .v (.tup (CS.map fun k => D.int (k : Nat))), .no]) ⟨_, rfl⟩ ?_ ?_
  · rintro d hd σ ⟨y, rfl⟩
    obtain ⟨k, _, rfl⟩ := List.mem_map.mp hd
    exact ⟨_, [.v (.str x), .v (.bl b), .v (.int (k : Nat)), .v (.tup (CS.map fun k => D.int (k : Nat))), .no], rfl, by simp [f10, whole_ok], _, rfl⟩
  · rintro σ ⟨y, rfl⟩
    subst hR
    rw [rest_nx]
    simp [hl, hr, wipeD]
    rw [rng_len, if_pos hl, c1]
    simp [cm]
theorem chosen_ok {w : Nat} {x : List Nat} (hx : Lay w x) (hw : w ≤ 30) {d : D} {cs : List Int} (hd : Cs d cs) (b : Bool) : F_L_chosen [.str x, d, .bl b] = some (.bl true) := by
  have hx3 : x.length ≤ 1000 := by rw [hx.len]; omega
  have hl : x.length ≤ 16777216 := by omega
  have hr : okR (x.length : Int) = true := by unfold okR; simp; omega
  have f4 : Z_L_chosen.F 4 = F_freed := id rfl
  have f5 : Z_L_chosen.F 5 = F_kept_at := id rfl
  have v1 := freed_ok x hd hx3
  have v2 := kept_ok x hd hx3
  have c1 : ∀ A B C : Sl, lcL (.nm 4) (evE Z_L_chosen (.c (.bl true))) (evE Z_L_chosen (.ix (.lst [.ix (.v 0) (.v 4), .c (.str [45])]) (.blt .int [.cmp .isin (.v 4) (.v 1)]))) [.v (.str x), .v d, A, B, .no] (rngD 0 x.length) = some ((List.range x.length).map fun (k : Nat) => D.str [if (k : Int) ∈ cs then 45 else x[k]?.getD 0]) := by
    intro A B C
    rw [lcL_rng (g := fun k => D.str [if (k : Int) ∈ cs then 45 else x[k]?.getD 0])]
    intro k hk
    simp [atI_k hk, hl, hk, hd.cmp]
    by_cases h1 : (k : Int) ∈ cs
    · simp [h1]
    · simp [h1]
  have c2 : ∀ A B C : Sl, lcL (.nm 4) (evE Z_L_chosen (.c (.bl true))) (evE Z_L_chosen (.ix (.lst [.c (.str [45]), .ix (.v 0) (.v 4)]) (.blt .int [.cmp .isin (.v 4) (.v 1)]))) [.v (.str x), .v d, A, B, .no] (rngD 0 x.length) = some ((List.range x.length).map fun (k : Nat) => D.str [if (k : Int) ∈ cs then x[k]?.getD 0 else 45]) := by
    intro A B C
    rw [lcL_rng (g := fun k => D.str [if (k : Int) ∈ cs then x[k]?.getD 0 else 45])]
    intro k hk
    simp [atI_k hk, hl, hk, hd.cmp]
    by_cases h1 : (k : Int) ∈ cs
    · simp [h1]
    · simp [h1]
  have j1 := join_signs (fun (k : Nat) => if (k : Int) ∈ cs then 45 else x[k]?.getD 0) (List.range x.length) (by simpa using hl)
  have j2 := join_signs (fun (k : Nat) => if (k : Int) ∈ cs then x[k]?.getD 0 else 45) (List.range x.length) (by simpa using hl)
  unfold F_L_chosen evF ir_L_chosen
  rw [if_pos (show [D.str x, d, D.bl b].length = 3 from rfl)]
  have go : ∀ r : List S, evSs Z_L_chosen (.ifs (.v 2) [.asg (.nm 3) (.lst [.callK 4 ["chosen", "one"] [1, 0] [.v 1, .v 0], .callK 5 ["chosen", "one"] [1, 0] [.v 1, .v 0]])] [.asg (.nm 3) (.lst [.call 4 [.v 0, .v 1], .call 5 [.v 0, .v 1]])] :: r) (startD 5 [.str x, d, .bl b]) = evSs Z_L_chosen r [.v (.str x), .v d, .v (.bl b), .v (.lst [.str (freedN x cs), .str (keptN x cs)]), .no] := by
    intro r
    rw [evSs_consR]
    cases b
    · simp [startD, f4, f5, v1, v2, rest_nx]
    · simp [startD, f4, f5, v1, v2, rest_nx, permL]
  rw [go]
  (rw [evSs_consR]; generalize hRx : Pv.rest _ _ = Rx; simp [isIns, isi1] <;> (subst hRx; first | rw [rest_nx] | (simp only [rest_rt, rest_bk, rest_ct, bind_someX, endD_rt]) | skip))
  rw [evSs_consR]
  generalize hR : Pv.rest _ _ = R
  simp [hl, hr, wipeD]
  rw [rng_len, if_pos hl, c1 _ _ .no]
  simp only [map_someX, bind_someX, Function.comp_apply, j1]
  simp [freedN]
  subst hR
  rw [rest_nx]
  simp [hl, hr, wipeD]
  rw [rng_len, if_pos hl, c2 _ _ .no]
  simp only [map_someX, bind_someX, Function.comp_apply, j2]
  simp [keptN]
theorem alone_ok {w : Nat} {x : List Nat} (hx : Lay w x) (hw : w ≤ 30) (v : Nat) (hv : v ≤ 1000) (b : Bool) : F_L_alone [.str x, .int (v : Nat), .bl b] = some (.bl true) := by
  have hx3 : x.length ≤ 1000 := by rw [hx.len]; omega
  have hl : x.length ≤ 16777216 := by omega
  have f6 : Z_L_alone.F 6 = F_empty_layer := id rfl
  have f7 : Z_L_alone.F 7 = F_filled := id rfl
  have v1 := filled_ok x hx3
  have v2 := empty_ok v hv
  have rd := rep_dash v hv
  have c1 : ∀ A B C : Sl, lcL (.nm 4) (evE Z_L_alone (.c (.bl true))) (evE Z_L_alone (.ix (.lst [.v 4, .c (.str [46])]) (.blt .int [.cmp .eq (.v 4) (.c (.str [45]))]))) [.v (.str x), A, B, C, .no] (x.map fun c => D.str [c]) = some (x.map fun c => D.str [if c = 45 then 46 else c]) := by
    intro A B C
    rw [lcL_of (fun c : Nat => D.str [c]) (fun _ => true) (fun c => D.str [if c = 45 then 46 else c])]
    · rw [List.filter_eq_self.mpr (by simp)]
    · intro c _
      refine ⟨_, rfl, rfl, fun _ => ?_⟩
      by_cases h1 : c = 45
      · simp [h1]
      · simp [h1]
  have j1 := join_signs (fun c : Nat => if c = 45 then 46 else c) x hl
  unfold F_L_alone evF ir_L_alone
  rw [if_pos (show [D.str x, D.int (v : Nat), D.bl b].length = 3 from rfl)]
  have go : ∀ r : List S, evSs Z_L_alone (.ifs (.v 2) [.asg (.nm 3) (.lst [.callK 7 ["one"] [0] [.v 0], .callK 6 ["size"] [0] [.v 1]])] [.asg (.nm 3) (.lst [.call 7 [.v 0], .call 6 [.v 1]])] :: r) (startD 5 [.str x, .int (v : Nat), .bl b]) = evSs Z_L_alone r [.v (.str x), .v (.int (v : Nat)), .v (.bl b), .v (.lst [.str (x.map fun c => if c = 45 then 46 else c), .str (List.replicate v 45)]), .no] := by
    intro r
    rw [evSs_consR]
    cases b
    · simp [startD, f6, f7, v1, v2, rest_nx]
    · simp [startD, f6, f7, v1, v2, rest_nx, permL]
  rw [go]
  (rw [evSs_consR]; generalize hRx : Pv.rest _ _ = Rx; simp [isIns, isi1] <;> (subst hRx; first | rw [rest_nx] | (simp only [rest_rt, rest_bk, rest_ct, bind_someX, endD_rt]) | skip))
  simp [hl, wipeD]
  rw [c1]
  simp only [map_someX, bind_someX, Function.comp_apply, j1]
  simp [rd, dash_flat]
end K01

set_option Elab.async false
set_option linter.all false
set_option maxRecDepth 100000
set_option maxHeartbeats 4000000
namespace K01
open PySem L2 Pv
theorem press_len (x y : List Nat) (h : x.length = y.length) : (pressN x y).length = x.length := by simp [pressN, h]
theorem Lay.press {w : Nat} {x y : List Nat} (hx : Lay w x) (hy : Lay w y) : Lay w (pressN x y) := by
  have h : x.length = y.length := by rw [hx.len, hy.len]
  refine ⟨by rw [press_len x y h, hx.len], fun c hc => ?_⟩
  obtain ⟨k, hk, e⟩ := List.mem_iff_getElem.mp hc
  rw [press_len x y h] at hk
  have hk2 : k < y.length := by omega
  simp only [pressN, List.getElem_zipWith] at e
  split at e
  · rw [← e]; exact hx.sg _ (List.getElem_mem hk)
  · rw [← e]; exact hy.sg _ (List.getElem_mem hk2)
theorem press_dash {x y : List Nat} (h : x.length = y.length) (hc : 45 ∈ pressN x y) : 45 ∈ x := by
  obtain ⟨k, hk, e⟩ := List.mem_iff_getElem.mp hc
  rw [press_len x y h] at hk
  simp only [pressN, List.getElem_zipWith] at e
  split at e
  · rw [← e]; exact List.getElem_mem hk
  · rename_i hne
    exact absurd e hne
theorem press_assoc : ∀ x y z : List Nat, x.length = y.length → y.length = z.length → pressN (pressN x y) z = pressN x (pressN y z)
  | [], [], [], _, _ => rfl
  | [], [], _ :: _, _, h => by simp at h
  | [], _ :: _, _, h, _ => by simp at h
  | _ :: _, [], _, h, _ => by simp at h
  | _ :: _, _ :: _, [], _, h => by simp at h
  | a :: x, b :: y, c :: z, h1, h2 => by
    have ih := press_assoc x y z (by simpa using h1) (by simpa using h2)
    simp only [pressN, List.zipWith_cons_cons] at ih ⊢
    rw [ih]
    congr 1
    by_cases hc : c = 45 <;> by_cases hb : b = 45 <;> simp [hc, hb]
theorem press_right (x : List Nat) : pressN x (List.replicate x.length 45) = x := by
  induction x with
  | nil => rfl
  | cons a x ih =>
    simp only [List.length_cons, List.replicate_succ, pressN, List.zipWith_cons_cons] at ih ⊢
    rw [ih]; simp
theorem press_left (x : List Nat) : pressN (List.replicate x.length 45) x = x := by
  induction x with
  | nil => rfl
  | cons a x ih =>
    simp only [List.length_cons, List.replicate_succ, pressN, List.zipWith_cons_cons] at ih ⊢
    rw [ih]
    by_cases h : a = 45 <;> simp [h]
theorem lay_dash (w : Nat) : Lay w (List.replicate w 45) := ⟨by simp, fun c hc => .inl (List.eq_of_mem_replicate hc)⟩
theorem told_ok {w : Nat} {x y : List Nat} (hx : Lay w x) (hy : Lay w y) (hw : w ≤ 30) : F_L_told [.str x, .str y] = some (.str (pressN x y)) := by
  have h : x.length = y.length := by rw [hx.len, hy.len]
  have hx3 : x.length ≤ 1000 := by rw [hx.len]; omega
  have f9 : Z_L_told.F 9 = F_press := id rfl
  have f25 : Z_L_told.F 25 = F_L_press := id rfl
  simp [F_L_told, evF, ir_L_told, startD, f9, f25, press_ok x y h hx3, L_press_ok x y h hx3, isIns, isi1]
theorem foldl_press {w : Nat} : ∀ {ls : List (List Nat)} {x : List Nat}, Lay w x → (∀ y ∈ ls, Lay w y) → Lay w (ls.foldl pressN x) ∧ Lay w (ls.foldr pressN (List.replicate w 45)) ∧ pressN x (ls.foldr pressN (List.replicate w 45)) = ls.foldl pressN x
  | [], x, hx, _ => ⟨hx, lay_dash w, by have := press_right x; rw [hx.len] at this; exact this⟩
  | y :: ls, x, hx, h => by
    have hy := h y List.mem_cons_self
    have hl := fun z hz => h z (List.mem_cons_of_mem _ hz)
    obtain ⟨a, b, c⟩ := foldl_press (ls := ls) (hx.press hy) hl
    refine ⟨a, hy.press b, ?_⟩
    rw [List.foldl_cons, ← c, List.foldr_cons]
    exact (press_assoc x y _ (by rw [hx.len, hy.len]) (by rw [hy.len, b.len])).symm
theorem in45 (x : List Nat) : isInD (.str [45]) (.str x) = some (decide (45 ∈ x)) := id rfl
theorem presses_ok {w : Nat} {first : List Nat} {ls : List (List Nat)} (hf : Lay w first) (hL : ∀ x ∈ ls, Lay w x) (hw : w ≤ 30) (hne : 1 ≤ ls.length) (hn : ls.length ≤ 1000) : F_L_presses_right [.str first, .lst (ls.map .str)] = some (.bl true) := by
  have hl : first.length ≤ 16777216 := by rw [hf.len]; omega
  have hf3 : first.length ≤ 1000 := by rw [hf.len]; omega
  have f9 : Z_L_presses_right.F 9 = F_press := id rfl
  have f25 : Z_L_presses_right.F 25 = F_L_press := id rfl
  have f26 : Z_L_presses_right.F 26 = F_L_told := id rfl
  have rd := rep_dash first.length hf3
  have hr : okR (ls.length : Int) = true := by unfold okR; simp; omega
  obtain ⟨r1, r2, r3⟩ := foldl_press hf hL
  unfold F_L_presses_right evF ir_L_presses_right
  rw [if_pos (show [D.str first, D.lst (ls.map .str)].length = 2 from rfl)]
  simp only [startD, List.map_cons, List.map_nil, List.length_cons, List.length_nil, List.cons_append, List.nil_append]
  (rw [evSs_consR]; generalize hRx : Pv.rest _ _ = Rx; simp [hl] <;> (subst hRx; first | rw [rest_nx] | (simp only [rest_rt, rest_bk, rest_ct, bind_someX, endD_rt]) | skip))
  (rw [evSs_consR]; generalize hRx : Pv.rest _ _ = Rx; simp [] <;> (subst hRx; first | rw [rest_nx] | (simp only [rest_rt, rest_bk, rest_ct, bind_someX, endD_rt]) | skip))
  rw [evSs_consR]
  generalize hR : Pv.rest _ _ = R
  simp
  refine loop_thenE (P := fun o => o.bind endD = some (.bl true)) (fun i σ => ∃ y, σ = [.v (.str first), .v (.lst (ls.map .str)), .v (.int first.length), .v (.str ((ls.take i).foldl pressN first)), y, .no, .no, .no] ∧ (45 ∈ (ls.take i).foldl pressN first → 45 ∈ first)) ⟨_, rfl, fun h => h⟩ ?_ ?_
  · rintro i d σ hd ⟨y, rfl, h45⟩
    rw [List.getElem?_map] at hd
    obtain ⟨z, hz, rfl⟩ := mpd hd
    have hzL := hL z (List.mem_of_getElem? hz)
    have hti : ∀ q ∈ ls.take i, Lay w q := fun q hq => hL q (List.mem_of_mem_take hq)
    have hN := (foldl_press hf hti).1
    have e : (ls.take (i + 1)).foldl pressN first = pressN ((ls.take i).foldl pressN first) z := by
      rw [List.take_add_one, hz]; simp
    have hd' : 45 ∈ pressN ((ls.take i).foldl pressN first) z → 45 ∈ first := fun hc => h45 (press_dash (by rw [hN.len, hzL.len]) hc)
    rw [e]
    generalize (ls.take i).foldl pressN first = N at *
    refine ⟨_, [.v (.str first), .v (.lst (ls.map .str)), .v (.int first.length), .v (.str (pressN N z)), .v (.str z), .no, .no, .no], rfl, .inl ?_, _, rfl, hd'⟩
    simp [f26, told_ok hN hzL hw, cmpD, isD, in45]
    by_cases c1 : 45 ∈ pressN N z
    · simp [c1, hd' c1]
    · simp [c1]
  · rintro σ ⟨y, rfl, h45⟩
    rw [List.length_map, List.take_length]
    subst hR
    rw [rest_nx]
    generalize hN1 : ls.foldl pressN first = N1 at *
    (rw [evSs_consR]; generalize hRx : Pv.rest _ _ = Rx; simp [rd, dash_flat] <;> (subst hRx; first | rw [rest_nx] | (simp only [rest_rt, rest_bk, rest_ct, bind_someX, endD_rt]) | skip))
    rw [evSs_consR]
    generalize hR : Pv.rest _ _ = R
    simp [hr]
    refine loop_thenE (P := fun o => o.bind endD = some (.bl true)) (fun i σ => ∃ y, σ = [.v (.str first), .v (.lst (ls.map .str)), .v (.int first.length), .v (.str N1), y.1, .v (.str ((ls.drop (ls.length - i)).foldr pressN (List.replicate w 45))), y.2, .no]) ⟨(_, _), by rw [Nat.sub_zero, List.drop_length, hf.len]; rfl⟩ ?_ ?_
    · rintro i d σ hd ⟨⟨y1, y2⟩, rfl⟩
      have hi : i < ls.length := by
        have := (List.getElem?_eq_some_iff.mp hd).1
        rw [rng_len] at this; exact this
      rw [rng_get _ _ _ hi] at hd
      cases hd
      have hj : ls.length - 1 - i < ls.length := by omega
      have hzL := hL _ (List.getElem_mem hj)
      have hti : ∀ q ∈ ls.drop (ls.length - i), Lay w q := fun q hq => hL q (List.mem_of_mem_drop hq)
      have hN := (foldl_press hf hti).2.1
      have e : (ls.drop (ls.length - (i + 1))).foldr pressN (List.replicate w 45) = pressN ls[ls.length - 1 - i] ((ls.drop (ls.length - i)).foldr pressN (List.replicate w 45)) := by
        have h1 : ls.length - (i + 1) = ls.length - 1 - i := by omega
        have h3 : ls.length - 1 - i + 1 = ls.length - i := by omega
        rw [h1, List.drop_eq_getElem_cons hj, List.foldr_cons, h3]
      have e2 : atI (ls.map D.str) ((ls.length : Int) - 1 - (i : Nat)) = some (.str ls[ls.length - 1 - i]) := by
        have h2 : ((ls.length : Int) - 1 - (i : Nat)) = ((ls.length - 1 - i : Nat) : Int) := by omega
        rw [h2]
        exact atI_nat (by simp [hj])
      rw [e]
      generalize (ls.drop (ls.length - i)).foldr pressN (List.replicate w 45) = M at *
      generalize ls[ls.length - 1 - i] = z at *
      refine ⟨_, [.v (.str first), .v (.lst (ls.map .str)), .v (.int first.length), .v (.str N1), y1, .v (.str (pressN z M)), .v (.int (i : Nat)), .no], rfl, .inl ?_, (_, _), rfl⟩
      simp [f26, e2, told_ok hzL hN hw, cmpD, isD]
    · rintro σ ⟨⟨y1, y2⟩, rfl⟩
      rw [rng_len, Nat.sub_self, List.drop_zero]
      subst hR
      rw [rest_nx]
      generalize ls.foldr pressN (List.replicate w 45) = M at *
      have t1 := told_ok hf r2 hw
      rw [r3] at t1
      have t2 := told_ok hf (lay_dash w) hw
      have t3 := told_ok (lay_dash w) hf hw
      have p1 := press_right first
      have p2 := press_left first
      rw [hf.len] at p1 p2
      rw [p1] at t2
      rw [p2] at t3
      obtain ⟨z, r, rfl⟩ : ∃ z r, ls = z :: r := by
        cases ls with
        | nil => simp at hne
        | cons z r => exact ⟨z, r, rfl⟩
      · have hz := hL z List.mem_cons_self
        have v1 := press_ok first z (by rw [hf.len, hz.len]) hf3
        have v2 := L_press_ok first z (by rw [hf.len, hz.len]) hf3
        rw [hf.len] at rd ⊢
        (rw [evSs_consR]; generalize hRx : Pv.rest _ _ = Rx; simp [f26, t1] <;> (subst hRx; first | rw [rest_nx] | (simp only [rest_rt, rest_bk, rest_ct, bind_someX, endD_rt]) | skip))
        (rw [evSs_consR]; generalize hRx : Pv.rest _ _ = Rx; simp [f26, rd, dash_flat, t2, t3] <;> (subst hRx; first | rw [rest_nx] | (simp only [rest_rt, rest_bk, rest_ct, bind_someX, endD_rt]) | skip))
        (rw [evSs_consR]; generalize hRx : Pv.rest _ _ = Rx; simp [f9, permL, v1] <;> (subst hRx; first | rw [rest_nx] | (simp only [rest_rt, rest_bk, rest_ct, bind_someX, endD_rt]) | skip))
        simp [f25, v2, isIns, isi1]
end K01

set_option Elab.async false
set_option linter.all false
set_option maxRecDepth 100000
set_option maxHeartbeats 4000000
namespace K01
open PySem L2 Pv PvQ SrtO
/-- a loop that may return, by place -/
theorem loop_ret {t : T} {f : List Sl → Option Out} : ∀ {ds : List D} {σ : List Sl} (p : Nat → Bool) (r : Nat → D) (I : Nat → List Sl → Prop), I 0 σ →
    (∀ (i : Nat) d σ, ds[i]? = some d → I i σ → ∃ σ1, setT t d σ = some σ1 ∧ ((p i = true ∧ f σ1 = some (.rt (r i))) ∨ (p i = false ∧ ∃ σ2, f σ1 = some (.nx σ2) ∧ I (i + 1) σ2))) →
    (∃ i, i < ds.length ∧ p i = true ∧ (∀ j, j < i → p j = false) ∧ forL t f ds σ = some (.rt (r i))) ∨ ((∀ j, j < ds.length → p j = false) ∧ ∃ σ', forL t f ds σ = some (.nx σ') ∧ I ds.length σ')
  | [], σ, p, r, I, h0, _ => .inr ⟨fun j hj => by simp at hj, σ, rfl, h0⟩
  | d :: ds, σ, p, r, I, h0, hs => by
    obtain ⟨σ1, h1, h2⟩ := hs 0 d σ rfl h0
    rcases h2 with ⟨hp, hf⟩ | ⟨hp, σ2, hf, hI⟩
    · exact .inl ⟨0, by simp, hp, fun j hj => absurd hj (by omega), by rw [forL_cons, h1]; simp [hf]⟩
    · have ih := loop_ret (t := t) (f := f) (ds := ds) (σ := σ2) (fun i => p (i + 1)) (fun i => r (i + 1)) (fun i => I (i + 1)) hI fun i d' σ' hd hi => hs (i + 1) d' σ' (by simpa using hd) hi
      have e : forL t f (d :: ds) σ = forL t f ds σ2 := by rw [forL_cons, h1]; simp [hf]
      rcases ih with ⟨i, hi, hp2, hb, hf2⟩ | ⟨hb, σ', hf2, hI2⟩
      · refine .inl ⟨i + 1, by simpa using hi, hp2, fun j hj => ?_, by rw [e]; exact hf2⟩
        cases j with
        | zero => exact hp
        | succ j => exact hb j (by omega)
      · refine .inr ⟨fun j hj => ?_, σ', by rw [e]; exact hf2, by simpa using hI2⟩
        cases j with
        | zero => exact hp
        | succ j => exact hb j (by simpa using hj)
theorem lex_same : ∀ x : List Int, lexI x x = false
  | [] => rfl
  | a :: x => by simp [lexI, lex_same x]
theorem lex_first : ∀ (x y : List Int) (i : Nat) (a b : Int), (∀ j, j < i → x[j]? = y[j]?) → x[i]? = some a → y[i]? = some b → a ≠ b → lexI x y = decide (a < b)
  | [], _, i, a, b, _, h, _, _ => by simp at h
  | _ :: _, [], i, a, b, _, _, h, _ => by simp at h
  | c :: x, d :: y, 0, a, b, _, h1, h2, hne => by
    simp at h1 h2
    subst h1 h2
    simp [lexI, hne]
  | c :: x, d :: y, i + 1, a, b, hj, h1, h2, hne => by
    have e : c = d := by simpa using hj 0 (by omega)
    subst e
    simp only [lexI, if_true]
    exact lex_first x y i a b (fun j hj' => by simpa using hj (j + 1) (by omega)) (by simpa using h1) (by simpa using h2) hne
abbrev keyN (x : List Nat) : List Int := x.map ordN
theorem ord_inj : ∀ c ∈ sgnL, ∀ d ∈ sgnL, ordN c = ordN d → c = d := by decide +kernel
theorem before_ok {w : Nat} {x y : List Nat} (hx : Lay w x) (hy : Lay w y) (hw : w ≤ 30) : F_L_before [.str x, .str y] = some (.bl (!lexI (keyN y) (keyN x))) := by
  have hm : ([45, 46, 97, 98, 99, 100, 101, 102, 103, 104, 105, 106, 107, 108, 109, 110, 111, 112, 113, 114, 115, 116, 117, 118, 119, 120, 121, 122] : List Nat) = sgnL := rfl
  have hl : x.length ≤ 16777216 := by rw [hx.len]; omega
  have hl' : y.length ≤ 16777216 := by rw [hy.len]; omega
  have hr : okR (x.length : Int) = true := by unfold okR; rw [hx.len]; simp; omega
  have hxy : x.length = y.length := by rw [hx.len, hy.len]
  have g1 : ∀ k, k < x.length → sgn (x[k]?.getD 0) := fun k hk => by simp [hk]; exact hx.sg _ (List.getElem_mem hk)
  have g2 : ∀ k, k < x.length → sgn (y[k]?.getD 0) := fun k hk => by have hk' : k < y.length := by omega
                                                                     simp [hk']; exact hy.sg _ (List.getElem_mem hk')
  unfold F_L_before evF ir_L_before
  rw [if_pos (show [D.str x, D.str y].length = 2 from rfl)]
  simp only [startD, List.map_cons, List.map_nil, List.length_cons, List.length_nil, List.cons_append, List.nil_append]
  (rw [evSs_consR]; generalize hRx : Pv.rest _ _ = Rx; simp [hm] <;> (subst hRx; first | rw [rest_nx] | (simp only [rest_rt, rest_bk, rest_ct, bind_someX, endD_rt]) | skip))
  rw [evSs_consR]
  generalize hR : Pv.rest _ _ = R
  simp [hl, hr]
  have key := loop_ret (t := .nm 3) (f := evSs Z_L_before [.ifs (.cmp .ne (.ix (.v 0) (.v 3)) (.ix (.v 1) (.v 3))) [.ret (.cmp .lt (.sidx (.v 2) (.ix (.v 0) (.v 3))) (.sidx (.v 2) (.ix (.v 1) (.v 3))))] []])
    (fun k => !(x[k]?.getD 0 == y[k]?.getD 0)) (fun k => .bl (decide (ordN (x[k]?.getD 0) < ordN (y[k]?.getD 0)))) (fun _ σ => ∃ z, σ = [.v (.str x), .v (.str y), .v (.str sgnL), z]) (ds := rngD 0 x.length) (σ := [.v (.str x), .v (.str y), .v (.str sgnL), .no]) ⟨_, rfl⟩ (by
      rintro i d σ hd ⟨z, rfl⟩
      have hi : i < x.length := by
        have := (List.getElem?_eq_some_iff.mp hd).1
        rw [rng_len] at this; exact this
      have hi2 : i < y.length := by omega
      rw [rng_get _ _ _ hi] at hd
      cases hd
      refine ⟨_, rfl, ?_⟩
      obtain ⟨n, hn, _⟩ := idx_of (sgn_mem.mp (g1 i hi))
      obtain ⟨m, hm2, _⟩ := idx_of (sgn_mem.mp (g2 i hi))
      simp [hi] at hn
      simp [hi2] at hm2
      simp [atI_k hi, atI_k hi2, hl, hl', hi, hi2, ordN]
      by_cases h1 : x[i] = y[i]
      · simp [h1]
      · simp [h1, sidxD, hn, hm2])
  rw [rng_len] at key
  rcases key with ⟨i, hi, hp, hb, hf⟩ | ⟨hb, σ', hf, ⟨z, rfl⟩⟩
  · rw [hf]
    subst hR
    have hi2 : i < y.length := by omega
    have hne : ¬ x[i] = y[i] := by
      have := hp
      simp [hi, hi2] at this
      exact this
    have e1 : (keyN x)[i]? = some (ordN (x[i]?.getD 0)) := by simp [keyN, hi]
    have e2 : (keyN y)[i]? = some (ordN (y[i]?.getD 0)) := by simp [keyN, hi2]
    have hinj : ordN (y[i]?.getD 0) ≠ ordN (x[i]?.getD 0) := fun e => by
      have := ord_inj _ (sgn_mem.mp (g2 i hi)) _ (sgn_mem.mp (g1 i hi)) e
      simp [hi, hi2] at this
      exact hne this.symm
    have := lex_first (keyN y) (keyN x) i _ _ (fun j hj => by
      have h1 := hb j hj
      have hj1 : j < x.length := by omega
      have hj2 : j < y.length := by omega
      simp [hj1, hj2] at h1
      simp [keyN, hj1, hj2, h1]) e2 e1 hinj
    rw [this]
    clear this e1 e2 hp hb hf
    generalize ordN (x[i]?.getD 0) = A at *
    generalize ordN (y[i]?.getD 0) = B at *
    have e3 : decide (A < B) = !decide (B < A) := by
      rw [Bool.eq_iff_iff]
      simp
      omega
    rw [e3]
    simp
  · rw [hf]
    subst hR
    have e : x = y := by
      apply List.ext_getElem hxy
      intro k h1 h2
      have := hb k h1
      simp [h1, h2] at this
      exact this
    subst e
    rw [lex_same]
    simp [rest_nx]
theorem ordered_ok {w : Nat} {fs ls : List (List Nat)} (hL : ∀ x ∈ ls, Lay w x) (hw : w ≤ 30) (hn : ls.length ≤ 1000) (hp : fs.Perm ls) (hs : fs.Pairwise fun x y => lexI (keyN y) (keyN x) = false) : F_L_ordered [.lst (fs.map .str), .lst (ls.map .str)] = some (.bl true) := by
  have hlen := hp.length_eq
  have hF : ∀ x ∈ fs, Lay w x := fun x hx => hL x (hp.mem_iff.mp hx)
  have f28 : Z_L_ordered.F 28 = F_L_before := id rfl
  have s1 : strsD (fs.map D.str) = some fs := by have := strsD_map (fun x : List Nat => x) fs; simpa using this
  have s2 : strsD (ls.map D.str) = some ls := by have := strsD_map (fun x : List Nat => x) ls; simpa using this
  have hr : okR ((fs.length : Int) - 1) = true := by unfold okR; simp; omega
  unfold F_L_ordered evF ir_L_ordered
  rw [if_pos (show [D.lst (fs.map .str), D.lst (ls.map .str)].length = 2 from rfl)]
  simp only [startD, List.map_cons, List.map_nil, List.length_cons, List.length_nil, List.cons_append, List.nil_append]
  (rw [evSs_consR]; generalize hRx : Pv.rest _ _ = Rx; simp [hlen] <;> (subst hRx; first | rw [rest_nx] | (simp only [rest_rt, rest_bk, rest_ct, bind_someX, endD_rt]) | skip))
  rw [evSs_consR]
  generalize hR : Pv.rest _ _ = R
  simp
  refine forL_okE (P := fun o => o.bind endD = some (.bl true)) (fun σ => ∃ y, σ = [.v (.lst (fs.map .str)), .v (.lst (ls.map .str)), y, .no]) ⟨_, rfl⟩ ?_ ?_
  · rintro d hd σ ⟨y, rfl⟩
    obtain ⟨k, _, rfl⟩ := List.mem_map.mp hd
    refine ⟨_, [.v (.lst (fs.map .str)), .v (.lst (ls.map .str)), .v (.str k), .no], rfl, ?_, _, rfl⟩
    simp [u2D, s1, s2, hp.count_eq]
  · rintro σ ⟨y, rfl⟩
    subst hR
    rw [rest_nx, evSs_consR]
    generalize hR : Pv.rest _ _ = R
    simp [hr]
    refine loop_thenE (P := fun o => o.bind endD = some (.bl true)) (fun i σ => ∃ z, σ = [.v (.lst (fs.map .str)), .v (.lst (ls.map .str)), y, z]) ⟨_, rfl⟩ ?_ ?_
    · rintro i d σ hd ⟨z, rfl⟩
      have hi : i < fs.length - 1 := by
        have := (List.getElem?_eq_some_iff.mp hd).1
        rw [rng_len] at this; exact this
      rw [rng_get _ _ _ hi] at hd
      cases hd
      have hi1 : i + 1 < fs.length := by omega
      have hi0 : i < fs.length := by omega
      have b := before_ok (hF _ (List.getElem_mem hi0)) (hF _ (List.getElem_mem hi1)) hw
      have lt := List.pairwise_iff_getElem.mp hs i (i + 1) hi0 hi1 (by omega)
      rw [lt] at b
      have e1 : atI (fs.map D.str) (i : Int) = some (.str fs[i]) := atI_nat (by simp [hi0])
      have e2 : atI (fs.map D.str) ((i : Int) + 1) = some (.str fs[i + 1]) := by
        have : ((i : Int) + 1) = ((i + 1 : Nat) : Int) := by omega
        rw [this]
        exact atI_nat (by simp [hi1])
      refine ⟨_, [.v (.lst (fs.map .str)), .v (.lst (ls.map .str)), y, .v (.int i)], rfl, .inl ?_, _, rfl⟩
      simp [f28, e1, e2, b]
    · rintro σ ⟨z, rfl⟩
      subst hR
      rw [rest_nx]
      simp
end K01

set_option Elab.async false
set_option linter.all false
set_option maxRecDepth 100000
set_option maxHeartbeats 4000000
namespace K01
open PySem L2 Pv PvQ SrtO
theorem insK_map {α β : Type} (lt : β → β → Bool) (h : α → β) (x : α) : ∀ l : List α, insK lt (h x) (l.map h) = (insK (fun a b => lt (h a) (h b)) x l).map h
  | [] => rfl
  | y :: r => by
    rw [List.map_cons]
    unfold insK
    cases lt (h y) (h x) with
    | true => simp [insK_map lt h x r]
    | false => simp
theorem isort_map {α β : Type} (lt : β → β → Bool) (h : α → β) : ∀ l : List α, isort lt (l.map h) = (isort (fun a b => lt (h a) (h b)) l).map h
  | [] => rfl
  | x :: l => by
    show insK lt (h x) (isort lt (l.map h)) = (insK _ x (isort _ l)).map h
    rw [isort_map lt h l, insK_map]
abbrev ltN (x y : List Nat) : Bool := lexI (keyN x) (keyN y)
theorem swoN : Swo ltN := ⟨fun x y => lexI_asym _ _, fun x y z => lexI_tr _ _ _⟩
def sortN (ls : List (List Nat)) : List (List Nat) := isort ltN ls
theorem sortN_ok (ls : List (List Nat)) : (sortN ls).Perm ls ∧ (sortN ls).Pairwise fun x y => lexI (keyN y) (keyN x) = false := by
  obtain ⟨h1, h2⟩ := isort_ok swoN ls
  exact ⟨h2.perm, h1⟩
theorem srtF (ls : List (List Nat)) : srtL false (ls.map keyN) (ls.map D.str) = (sortN ls).map D.str := by
  have e : srtL false (ls.map keyN) (ls.map D.str) = (isort (fun p q : List Int × D => lexI p.1 q.1) ((ls.map keyN).zip (ls.map D.str))).map (·.2) := rfl
  rw [e, List.zip_map', isort_map, List.map_map]
  rfl
theorem srtT (ls : List (List Nat)) : srtL true (ls.map keyN) (ls.map D.str) = (sortN ls.reverse).reverse.map D.str := by
  have e : srtL true (ls.map keyN) (ls.map D.str) = ((isort (fun p q : List Int × D => lexI p.1 q.1) ((ls.map keyN).zip (ls.map D.str)).reverse).map (·.2)).reverse := rfl
  have e2 : (ls.map fun a => (keyN a, D.str a)).reverse = ls.reverse.map fun a => (keyN a, D.str a) := List.map_reverse.symm
  rw [e, List.zip_map', e2, isort_map, List.map_map, ← List.map_reverse]
  rfl
theorem keys_ok {F : List D → Option D} : ∀ {ls : List (List Nat)}, (∀ x ∈ ls, F [.str x] = some (.tup ((keyN x).map .int)) ∧ x ≠ []) → keysD F (ls.map D.str) = some (ls.map keyN)
  | [], _ => rfl
  | x :: ls, h => by
    obtain ⟨h1, h2⟩ := h x List.mem_cons_self
    have ih := keys_ok (ls := ls) fun y hy => h y (List.mem_cons_of_mem _ hy)
    have hk : keyD (.tup ((keyN x).map D.int)) = some (keyN x) := by
      unfold keyD
      simp only [allInts_map, bind_someX]
      cases x with
      | nil => exact absurd rfl h2
      | cons a x => rfl
    rw [List.map_cons]
    unfold keysD
    rw [h1, bind_someX, hk, bind_someX, ih]
    rfl
theorem sorted_ok {w : Nat} {ls : List (List Nat)} (hL : ∀ x ∈ ls, Lay w x) (h1 : 1 ≤ w) (hw : w ≤ 30) (hn : ls.length ≤ 1000) : F_L_sorted_right [.lst (ls.map .str)] = some (.bl true) := by
  have f8 : Z_L_sorted_right.F 8 = F_layer_order := id rfl
  have f29 : Z_L_sorted_right.F 29 = F_L_ordered := id rfl
  have f30 : Z_L_sorted_right.F 30 = F_L_key := id rfl
  have hne : ∀ x, Lay w x → x ≠ [] := fun x hx e => by
    have := hx.len
    rw [e] at this
    simp at this
    omega
  have kO : ∀ ms : List (List Nat), (∀ x ∈ ms, Lay w x) → keysD F_layer_order (ms.map D.str) = some (ms.map keyN) := fun ms hm => keys_ok fun x hx => ⟨order_ok (hm x hx) (by omega), hne x (hm x hx)⟩
  have kK : keysD F_L_key (ls.map D.str) = some (ls.map keyN) := keys_ok fun x hx => ⟨by
    have f8' : Z_L_key.F 8 = F_layer_order := id rfl
    simp [F_L_key, evF, ir_L_key, startD, f8', permL, order_ok (hL x hx) (by omega : w ≤ 1000)], hne x (hL x hx)⟩
  have sO : ∀ ms : List (List Nat), (∀ x ∈ ms, Lay w x) → ms.length ≤ 2000 → srtD F_layer_order false (.lst (ms.map D.str)) = some (.lst ((sortN ms).map D.str)) := fun ms hm hl => by
    simp only [srtD, kO ms hm, bind_someX, List.length_map]
    rw [if_pos hl, srtF]
  have sT : srtD F_layer_order true (.lst (ls.map D.str)) = some (.lst ((sortN ls.reverse).reverse.map D.str)) := by
    simp only [srtD, kO ls hL, bind_someX, List.length_map]
    rw [if_pos (by omega), srtT]
  have sK : srtD F_L_key false (.lst (ls.map D.str)) = some (.lst ((sortN ls).map D.str)) := by
    simp only [srtD, kK, bind_someX, List.length_map]
    rw [if_pos (by omega), srtF]
  obtain ⟨p1, q1⟩ := sortN_ok ls
  have o1 := ordered_ok hL hw hn p1 q1
  obtain ⟨p2, q2⟩ := sortN_ok ls.reverse
  have o2 := ordered_ok hL hw hn (p2.trans (List.reverse_perm ls)) q2
  have l2 : (sortN ls.reverse).length = ls.length := by rw [p2.length_eq, List.length_reverse]
  generalize sortN ls.reverse = B at *
  have hr : okR (B.length : Int) = true := by unfold okR; simp; omega
  have hl : B.length ≤ 16777216 := by omega
  have c1 : ∀ A C E : Sl, lcL (.nm 4) (evE Z_L_sorted_right (.c (.bl true))) (evE Z_L_sorted_right (.ix (.v 1) (.bin .sub (.bin .sub (.blt .len [.v 1]) (.c (.int 1))) (.v 4)))) [A, .v (.lst (B.reverse.map .str)), C, E, .no] (rngD 0 B.length) = some (B.map D.str) := by
    intro A C E
    rw [lcL_rng (g := fun k => D.str (B[k]?.getD []))]
    · rw [Option.some.injEq]
      apply List.ext_getElem
      · simp
      · intro k h1 h2
        simp at h1 h2
        simp [h2]
    · intro k hk
      have e2 : atI (B.reverse.map D.str) ((B.length : Int) - 1 - (k : Nat)) = some (.str B[k]) := by
        have h2 : ((B.length : Int) - 1 - (k : Nat)) = ((B.length - 1 - k : Nat) : Int) := by omega
        rw [h2]
        refine atI_nat ?_
        have h3 : B.length - 1 - k < B.reverse.length := by simp; omega
        rw [List.getElem?_map, List.getElem?_eq_getElem h3, List.getElem_reverse]
        have h4 : B.length - 1 - (B.length - 1 - k) = k := by omega
        simp [h4]
      rw [List.map_reverse] at e2
      simp [e2, hk]
  unfold F_L_sorted_right evF ir_L_sorted_right
  rw [if_pos (show [D.lst (ls.map .str)].length = 1 from rfl)]
  simp only [startD, List.map_cons, List.map_nil, List.length_cons, List.length_nil, List.cons_append, List.nil_append]
  (rw [evSs_consR]; generalize hRx : Pv.rest _ _ = Rx; simp [f8, f29, sO ls hL (by omega), o1] <;> (subst hRx; first | rw [rest_nx] | (simp only [rest_rt, rest_bk, rest_ct, bind_someX, endD_rt]) | skip))
  (rw [evSs_consR]; generalize hRx : Pv.rest _ _ = Rx; simp [f8, sT] <;> (subst hRx; first | rw [rest_nx] | (simp only [rest_rt, rest_bk, rest_ct, bind_someX, endD_rt]) | skip))
  rw [evSs_consR]
  generalize hR : Pv.rest _ _ = R
  simp [hr, wipeD]
  rw [rng_len, if_pos hl]
  rw [List.map_reverse] at c1
  rw [c1]
  simp only [map_someX, bind_someX, Function.comp_apply]
  simp [f29, o2]
  subst hR
  rw [rest_nx]
  (rw [evSs_consR]; generalize hRx : Pv.rest _ _ = Rx; simp [] <;> (subst hRx; first | rw [rest_nx] | (simp only [rest_rt, rest_bk, rest_ct, bind_someX, endD_rt]) | skip))
  rw [evSs_consR]
  generalize hR : Pv.rest _ _ = R
  simp
  generalize (B.map D.str).reverse = BR at *
  refine loop_thenE (P := fun o => o.bind endD = some (.bl true)) (fun i σ => ∃ g y, σ = [.v (.lst (ls.map .str)), .v (.lst BR), .v (.lst (g.map .str)), y, .no] ∧ g.Perm (ls.take i) ∧ g.Pairwise fun x y => lexI (keyN y) (keyN x) = false) ⟨[], _, rfl, List.Perm.nil, List.Pairwise.nil⟩ ?_ ?_
  · rintro i d σ hd ⟨g, y, rfl, hp, _⟩
    rw [List.getElem?_map] at hd
    obtain ⟨z, hz, rfl⟩ := mpd hd
    have hzL := hL z (List.mem_of_getElem? hz)
    have hg : ∀ x ∈ g, Lay w x := fun x hx => hL x (List.mem_of_mem_take (hp.mem_iff.mp hx))
    have hgl : g.length ≤ 1000 := by
      have := hp.length_eq
      rw [List.length_take] at this
      omega
    have hg2 : ∀ x ∈ g ++ [z], Lay w x := fun x hx => by
      rcases List.mem_append.mp hx with hx | hx
      · exact hg x hx
      · rw [List.mem_singleton.mp hx]; exact hzL
    have s := sO (g ++ [z]) hg2 (by simp; omega)
    rw [List.map_append] at s
    obtain ⟨p3, q3⟩ := sortN_ok (g ++ [z])
    have hgl2 : g.length + 1 ≤ 16777216 := by omega
    refine ⟨_, [.v (.lst (ls.map .str)), .v (.lst BR), .v (.lst ((sortN (g ++ [z])).map .str)), .v (.str z), .no], rfl, .inl ?_, _, _, rfl, ?_, q3⟩
    · simp only [List.map_cons, List.map_nil] at s
      simp [f8, hgl2, s]
    · rw [List.take_add_one, hz]
      exact p3.trans (hp.append_right _)
  · rintro σ ⟨g, y, rfl, hp, hs⟩
    rw [List.length_map, List.take_length] at hp
    subst hR
    rw [rest_nx]
    have o3 := ordered_ok hL hw hn hp hs
    simp [f29, f30, o3, sK, o1]
theorem draw_c (ns : List Int) (k : Nat) (hk : k < 1000) (n : Nat) (hn : n < 1000) (b : Int) (h0 : 0 < b) (h1 : b < 2 ^ 60) : ∃ ds : List Int, F_L_draw [.scr ns, .int (k : Nat), .lst ((List.replicate n b).map .int)] = some (.lst (ds.map .int)) ∧ ds.length = n := by
  obtain ⟨ds, h1, h2⟩ := draw_ok ns k hk (List.replicate n b) (by simpa using hn) (fun s hs => by rw [List.eq_of_mem_replicate hs]; exact ⟨h0, h1⟩)
  exact ⟨ds, h1, by rw [h2.len]; simp⟩
end K01

set_option Elab.async false
set_option linter.all false
set_option maxRecDepth 100000
set_option maxHeartbeats 4000000
namespace K01
open PySem L2 Pv
theorem eqL_ints (l : List Int) : eqD (.lst (l.map D.int)) (.lst (l.map D.int)) = some true := by
  refine eqD_self (shp_of (n := 1) ?_ (by decide))
  simp only [D.layB]
  apply layL_all
  intro d hd
  obtain ⟨z, _, rfl⟩ := List.mem_map.mp hd
  rfl
theorem body_ok (ns : List Int) {w : Nat} {low high first p q : List Nat} {ls : List (List Nat)} (hp : Lay w p) (hq : Lay w q) (h1 : 1 ≤ w) (hw : w ≤ 30)
    (head row : List D) (inks fre : D) (place : D) (cs : List Int) (r1 : Int) (h11 : Nat) (e1 : atI row 1 = some (.int r1)) (e11 : atI head 11 = some (.int (h11 : Nat))) (hh11 : h11 < 30) (hcs : cs.length ≤ 1000) (t : Nat) (ht : t < 2) (c d e : Sl) :
    ∃ c' d' e' : Sl, evSs Z_law [.ifs (.not (.call 21 [.ix (.v 13) (.c (.int 0)), .ix (.v 13) (.c (.int 1)), .cmp .eq (.v 12) (.c (.int 1))])) [.ret (.c (.bl false))] [], .asg (.nm 14) (.ix (.lst [.blt .list [.v 9], .blt .tuple [.v 9]]) (.bin .mod (.bin .add (.ix (.v 8) (.c (.int 1))) (.v 12)) (.c (.int 2)))), .asg (.nm 15) (.lc [("_law_k", 16)] (.nm 16) (.r1 (.v 2)) (.cmp .ne (.ix (.ix (.v 13) (.c (.int 1))) (.v 16)) (.c (.str [45]))) (.v 16)), .ifs (.or (.not (.call 22 [.ix (.v 13) (.c (.int 0)), .cmp .eq (.v 12) (.c (.int 1))])) (.last (.not (.call 23 [.ix (.v 13) (.c (.int 0)), .v 14, .cmp .eq (.v 12) (.c (.int 1))])))) [.ret (.c (.bl false))] [], .ifs (.or (.cmp .ne (.blt .list [.v 14]) (.v 9)) (.last (.not (.call 23 [.ix (.v 13) (.c (.int 0)), .v 15, .cmp .eq (.v 12) (.c (.int 0))])))) [.ret (.c (.bl false))] [], .ifs (.not (.call 24 [.ix (.v 13) (.c (.int 0)), .ix (.lst [.v 2, .bin .add (.ix (.v 1) (.c (.int 11))) (.c (.int 1))]) (.v 12), .cmp .eq (.v 12) (.c (.int 1))])) [.ret (.c (.bl false))] []] [.v (.scr ns), .v (.lst head), .v (.int (w : Nat)), .v inks, .v (.str low), .v fre, .v place, .v (.str high), .v (.lst row), .v (.lst (cs.map .int)), .v (.str first), .v (.lst (ls.map .str)), .v (.int (t : Nat)), .v (.lst [.str p, .str q]), c, d, e] = some (.nx [.v (.scr ns), .v (.lst head), .v (.int (w : Nat)), .v inks, .v (.str low), .v fre, .v place, .v (.str high), .v (.lst row), .v (.lst (cs.map .int)), .v (.str first), .v (.lst (ls.map .str)), .v (.int (t : Nat)), .v (.lst [.str p, .str q]), c', d', e']) := by
  have f21 : Z_law.F 21 = F_L_pair := id rfl
  have f22 : Z_law.F 22 = F_L_cells := id rfl
  have f23 : Z_law.F 23 = F_L_chosen := id rfl
  have f24 : Z_law.F 24 = F_L_alone := id rfl
  have hr : okR (w : Int) = true := by unfold okR; simp; omega
  have hl16 : w ≤ 16777216 := by omega
  have hql : q.length ≤ 16777216 := by rw [hq.len]; omega
  have hn0 := eqL_ints cs
  have vp := fun b => pair_ok hp hq hw b
  have vc := fun b => cells_ok hp hw b
  obtain ⟨a1, a2⟩ := fmodp (r1 + t) 2 (by decide)
  obtain ⟨dp, hdp, hmem⟩ := atI_in (xs := [D.lst (cs.map .int), D.tup (cs.map .int)]) a1 (by simpa using a2)
  have hC : Cs dp cs := by
    simp only [List.mem_cons, List.not_mem_nil, or_false] at hmem
    exact hmem
  have hlist : bltD .list [dp] = some (.lst (cs.map .int)) := by rcases hC with rfl | rfl <;> rfl
  have vh := fun b => chosen_ok hp hw hC b
  have hM : Cs (.lst ((cellsN q).map fun k => D.int (k : Nat))) ((cellsN q).map fun (k : Nat) => (k : Int)) := .inl (by rw [List.map_map]; rfl)
  have vm := fun b => chosen_ok hp hw hM b
  have va := fun (v : Nat) (hv : v ≤ 1000) b => alone_ok hp hw v hv b
  have c1 : ∀ A B C E : Sl, lcL (.nm 16) (evE Z_law (.cmp .ne (.ix (.ix (.v 13) (.c (.int 1))) (.v 16)) (.c (.str [45])))) (evE Z_law (.v 16)) [.v (.scr ns), .v (.lst head), .v (.int (w : Nat)), .v inks, .v (.str low), .v fre, .v place, .v (.str high), .v (.lst row), .v (.lst (cs.map .int)), .v (.str first), .v (.lst (ls.map .str)), A, .v (.lst [.str p, .str q]), B, C, .no] (rngD 0 w) = some ((cellsN q).map fun k => D.int (k : Nat)) := by
    intro A B C E
    rw [← hq.len, lcL_rngF (p := fun k => !(q[k]?.getD 0 == 45)) (g := fun k => D.int (k : Nat))]
    · rfl
    · intro k hk
      simp [atI_k hk, hql, hk]
      rfl
  generalize ((cellsN q).map fun k => D.int (k : Nat)) = MK at *
  generalize cs.map D.int = CI at *
  have a30 := va (h11 + 1) (by omega)
  have aw := va w (by omega)
  have push : ((h11 + 1 : Nat) : Int) = (h11 : Int) + 1 := by omega
  rw [push] at a30
  have go : ∀ tt : Int, (tt = 0 ∨ tt = 1) → atI [D.lst CI, D.tup CI] ((r1 + tt).fmod 2) = some dp → ∃ c' d' e' : Sl, evSs Z_law [.ifs (.not (.call 21 [.ix (.v 13) (.c (.int 0)), .ix (.v 13) (.c (.int 1)), .cmp .eq (.v 12) (.c (.int 1))])) [.ret (.c (.bl false))] [], .asg (.nm 14) (.ix (.lst [.blt .list [.v 9], .blt .tuple [.v 9]]) (.bin .mod (.bin .add (.ix (.v 8) (.c (.int 1))) (.v 12)) (.c (.int 2)))), .asg (.nm 15) (.lc [("_law_k", 16)] (.nm 16) (.r1 (.v 2)) (.cmp .ne (.ix (.ix (.v 13) (.c (.int 1))) (.v 16)) (.c (.str [45]))) (.v 16)), .ifs (.or (.not (.call 22 [.ix (.v 13) (.c (.int 0)), .cmp .eq (.v 12) (.c (.int 1))])) (.last (.not (.call 23 [.ix (.v 13) (.c (.int 0)), .v 14, .cmp .eq (.v 12) (.c (.int 1))])))) [.ret (.c (.bl false))] [], .ifs (.or (.cmp .ne (.blt .list [.v 14]) (.v 9)) (.last (.not (.call 23 [.ix (.v 13) (.c (.int 0)), .v 15, .cmp .eq (.v 12) (.c (.int 0))])))) [.ret (.c (.bl false))] [], .ifs (.not (.call 24 [.ix (.v 13) (.c (.int 0)), .ix (.lst [.v 2, .bin .add (.ix (.v 1) (.c (.int 11))) (.c (.int 1))]) (.v 12), .cmp .eq (.v 12) (.c (.int 1))])) [.ret (.c (.bl false))] []] [.v (.scr ns), .v (.lst head), .v (.int (w : Nat)), .v inks, .v (.str low), .v fre, .v place, .v (.str high), .v (.lst row), .v (.lst CI), .v (.str first), .v (.lst (ls.map .str)), .v (.int tt), .v (.lst [.str p, .str q]), c, d, e] = some (.nx [.v (.scr ns), .v (.lst head), .v (.int (w : Nat)), .v inks, .v (.str low), .v fre, .v place, .v (.str high), .v (.lst row), .v (.lst CI), .v (.str first), .v (.lst (ls.map .str)), .v (.int tt), .v (.lst [.str p, .str q]), c', d', e']) := by
    intro tt htt hdp
    refine ⟨.v dp, .v (.lst MK), e, ?_⟩
    rcases htt with rfl | rfl
    · rw [Int.add_zero] at hdp
      (rw [evSs_consR]; generalize hRx : Pv.rest _ _ = Rx; simp [f21, vp] <;> (subst hRx; first | rw [rest_nx] | (simp only [rest_rt, rest_bk, rest_ct, bind_someX, endD_rt]) | skip))
      (rw [evSs_consR]; generalize hRx : Pv.rest _ _ = Rx; simp [e1, hdp] <;> (subst hRx; first | rw [rest_nx] | (simp only [rest_rt, rest_bk, rest_ct, bind_someX, endD_rt]) | skip))
      rw [evSs_consR]
      generalize hR : Pv.rest _ _ = R
      simp [hr, wipeD]
      rw [rng_len, if_pos hl16, c1 _ _ _ .no]
      simp only [map_someX, bind_someX]
      subst hR
      rw [rest_nx]
      (rw [evSs_consR]; generalize hRx : Pv.rest _ _ = Rx; simp [f22, f23, vc, vh] <;> (subst hRx; first | rw [rest_nx] | (simp only [rest_rt, rest_bk, rest_ct, bind_someX, endD_rt]) | skip))
      (rw [evSs_consR]; generalize hRx : Pv.rest _ _ = Rx; simp [f23, vm, hlist, hn0] <;> (subst hRx; first | rw [rest_nx] | (simp only [rest_rt, rest_bk, rest_ct, bind_someX, endD_rt]) | skip))
      simp [f24, e11, aw]
    · (rw [evSs_consR]; generalize hRx : Pv.rest _ _ = Rx; simp [f21, vp] <;> (subst hRx; first | rw [rest_nx] | (simp only [rest_rt, rest_bk, rest_ct, bind_someX, endD_rt]) | skip))
      (rw [evSs_consR]; generalize hRx : Pv.rest _ _ = Rx; simp [e1, hdp] <;> (subst hRx; first | rw [rest_nx] | (simp only [rest_rt, rest_bk, rest_ct, bind_someX, endD_rt]) | skip))
      rw [evSs_consR]
      generalize hR : Pv.rest _ _ = R
      simp [hr, wipeD]
      rw [rng_len, if_pos hl16, c1 _ _ _ .no]
      simp only [map_someX, bind_someX]
      subst hR
      rw [rest_nx]
      (rw [evSs_consR]; generalize hRx : Pv.rest _ _ = Rx; simp [f22, f23, vc, vh] <;> (subst hRx; first | rw [rest_nx] | (simp only [rest_rt, rest_bk, rest_ct, bind_someX, endD_rt]) | skip))
      (rw [evSs_consR]; generalize hRx : Pv.rest _ _ = Rx; simp [f23, vm, hlist, hn0] <;> (subst hRx; first | rw [rest_nx] | (simp only [rest_rt, rest_bk, rest_ct, bind_someX, endD_rt]) | skip))
      simp [f24, e11, a30]
  exact go t (by omega) hdp
theorem tail_ok (ns : List Int) {w : Nat} {low high first : List Nat} {ls : List (List Nat)} (hl : Lay w low) (hh : Lay w high) (hf : Lay w first) (hL : ∀ x ∈ ls, Lay w x) (h1 : 1 ≤ w) (hw : w ≤ 30) (hn1 : 1 ≤ ls.length) (hn : ls.length ≤ 1000)
    (head row : List D) (inks fre : D) (place : D) (cs : List Int) (r1 : Int) (h11 : Nat) (e1 : atI row 1 = some (.int r1)) (e11 : atI head 11 = some (.int (h11 : Nat))) (hh11 : h11 < 30) (hcs : cs.length ≤ 1000) (a b c d e : Sl) :
    (evSs Z_law [.for_ (.nm 12) (.r1 (.c (.int 2))) [.for_ (.nm 13) (.seq (.lst [.lst [.v 4, .v 7], .lst [.v 7, .v 4], .lst [.v 4, .v 4], .lst [.v 7, .v 7]])) [.ifs (.not (.call 21 [.ix (.v 13) (.c (.int 0)), .ix (.v 13) (.c (.int 1)), .cmp .eq (.v 12) (.c (.int 1))])) [.ret (.c (.bl false))] [], .asg (.nm 14) (.ix (.lst [.blt .list [.v 9], .blt .tuple [.v 9]]) (.bin .mod (.bin .add (.ix (.v 8) (.c (.int 1))) (.v 12)) (.c (.int 2)))), .asg (.nm 15) (.lc [("_law_k", 16)] (.nm 16) (.r1 (.v 2)) (.cmp .ne (.ix (.ix (.v 13) (.c (.int 1))) (.v 16)) (.c (.str [45]))) (.v 16)), .ifs (.or (.not (.call 22 [.ix (.v 13) (.c (.int 0)), .cmp .eq (.v 12) (.c (.int 1))])) (.last (.not (.call 23 [.ix (.v 13) (.c (.int 0)), .v 14, .cmp .eq (.v 12) (.c (.int 1))])))) [.ret (.c (.bl false))] [], .ifs (.or (.cmp .ne (.blt .list [.v 14]) (.v 9)) (.last (.not (.call 23 [.ix (.v 13) (.c (.int 0)), .v 15, .cmp .eq (.v 12) (.c (.int 0))])))) [.ret (.c (.bl false))] [], .ifs (.not (.call 24 [.ix (.v 13) (.c (.int 0)), .ix (.lst [.v 2, .bin .add (.ix (.v 1) (.c (.int 11))) (.c (.int 1))]) (.v 12), .cmp .eq (.v 12) (.c (.int 1))])) [.ret (.c (.bl false))] []]],
    .ret (.and (.call 27 [.v 10, .v 11]) (.last (.call 31 [.v 11])))] [.v (.scr ns), .v (.lst head), .v (.int (w : Nat)), .v inks, .v (.str low), .v fre, .v place, .v (.str high), .v (.lst row), .v (.lst (cs.map .int)), .v (.str first), .v (.lst (ls.map .str)), a, b, c, d, e]).bind endD = some (.bl true) := by
  have f21 : Z_law.F 21 = F_L_pair := id rfl
  have f22 : Z_law.F 22 = F_L_cells := id rfl
  have f23 : Z_law.F 23 = F_L_chosen := id rfl
  have f24 : Z_law.F 24 = F_L_alone := id rfl
  have f27 : Z_law.F 27 = F_L_presses_right := id rfl
  have f31 : Z_law.F 31 = F_L_sorted_right := id rfl
  have hr : okR (w : Int) = true := by unfold okR; simp; omega
  have ok2 : okR 2 = true := by decide
  have hl16 : w ≤ 16777216 := by omega
  have pr := presses_ok hf hL hw hn1 hn
  have so := sorted_ok hL h1 hw hn
  have hn0 := eqL_ints cs
  rw [evSs_consR]
  generalize hR : Pv.rest _ _ = R
  simp only [evS_for, evI_r1, evE_c, bind_someX, intD, ok2, if_true]
  refine forL_okE (P := fun o => o.bind endD = some (.bl true)) (fun σ => ∃ a b c d e, σ = [.v (.scr ns), .v (.lst head), .v (.int (w : Nat)), .v inks, .v (.str low), .v fre, .v place, .v (.str high), .v (.lst row), .v (.lst (cs.map .int)), .v (.str first), .v (.lst (ls.map .str)), a, b, c, d, e]) ⟨_, _, _, _, _, rfl⟩ ?_ ?_
  · rintro dt hdt σ ⟨a, b, c, d, e, rfl⟩
    have ht : ∃ t : Nat, dt = .int (t : Nat) ∧ t < 2 := by
      have e2 : rngD 0 (Int.toNat 2) = [.int 0, .int 1] := rfl
      rw [e2] at hdt
      simp only [List.mem_cons, List.not_mem_nil, or_false] at hdt
      rcases hdt with rfl | rfl
      · exact ⟨0, rfl, by omega⟩
      · exact ⟨1, rfl, by omega⟩
    obtain ⟨t, rfl, ht⟩ := ht
    have key : ∀ a b c d e : Sl, ∃ b' c' d' e' : Sl, evSs Z_law [.for_ (.nm 13) (.seq (.lst [.lst [.v 4, .v 7], .lst [.v 7, .v 4], .lst [.v 4, .v 4], .lst [.v 7, .v 7]])) [.ifs (.not (.call 21 [.ix (.v 13) (.c (.int 0)), .ix (.v 13) (.c (.int 1)), .cmp .eq (.v 12) (.c (.int 1))])) [.ret (.c (.bl false))] [], .asg (.nm 14) (.ix (.lst [.blt .list [.v 9], .blt .tuple [.v 9]]) (.bin .mod (.bin .add (.ix (.v 8) (.c (.int 1))) (.v 12)) (.c (.int 2)))), .asg (.nm 15) (.lc [("_law_k", 16)] (.nm 16) (.r1 (.v 2)) (.cmp .ne (.ix (.ix (.v 13) (.c (.int 1))) (.v 16)) (.c (.str [45]))) (.v 16)), .ifs (.or (.not (.call 22 [.ix (.v 13) (.c (.int 0)), .cmp .eq (.v 12) (.c (.int 1))])) (.last (.not (.call 23 [.ix (.v 13) (.c (.int 0)), .v 14, .cmp .eq (.v 12) (.c (.int 1))])))) [.ret (.c (.bl false))] [], .ifs (.or (.cmp .ne (.blt .list [.v 14]) (.v 9)) (.last (.not (.call 23 [.ix (.v 13) (.c (.int 0)), .v 15, .cmp .eq (.v 12) (.c (.int 0))])))) [.ret (.c (.bl false))] [], .ifs (.not (.call 24 [.ix (.v 13) (.c (.int 0)), .ix (.lst [.v 2, .bin .add (.ix (.v 1) (.c (.int 11))) (.c (.int 1))]) (.v 12), .cmp .eq (.v 12) (.c (.int 1))])) [.ret (.c (.bl false))] []]] [.v (.scr ns), .v (.lst head), .v (.int (w : Nat)), .v inks, .v (.str low), .v fre, .v place, .v (.str high), .v (.lst row), .v (.lst (cs.map .int)), .v (.str first), .v (.lst (ls.map .str)), .v (.int (t : Nat)), b, c, d, e] = some (.nx [.v (.scr ns), .v (.lst head), .v (.int (w : Nat)), .v inks, .v (.str low), .v fre, .v place, .v (.str high), .v (.lst row), .v (.lst (cs.map .int)), .v (.str first), .v (.lst (ls.map .str)), .v (.int (t : Nat)), b', c', d', e']) := by
      intro a b c d e
      rw [evSs_consR]
      generalize hR : Pv.rest _ _ = R2
      simp only [evS_for]
      have es : evI Z_law (.seq (.lst [.lst [.v 4, .v 7], .lst [.v 7, .v 4], .lst [.v 4, .v 4], .lst [.v 7, .v 7]])) [.v (.scr ns), .v (.lst head), .v (.int (w : Nat)), .v inks, .v (.str low), .v fre, .v place, .v (.str high), .v (.lst row), .v (.lst (cs.map .int)), .v (.str first), .v (.lst (ls.map .str)), .v (.int (t : Nat)), b, c, d, e] = some [.lst [.str low, .str high], .lst [.str high, .str low], .lst [.str low, .str low], .lst [.str high, .str high]] := by simp
      rw [es, bind_someX]
      obtain ⟨σ', hσ, ⟨b', c', d', e', rfl⟩⟩ := forL_ex (t := .nm 13) (f := evSs Z_law [.ifs (.not (.call 21 [.ix (.v 13) (.c (.int 0)), .ix (.v 13) (.c (.int 1)), .cmp .eq (.v 12) (.c (.int 1))])) [.ret (.c (.bl false))] [], .asg (.nm 14) (.ix (.lst [.blt .list [.v 9], .blt .tuple [.v 9]]) (.bin .mod (.bin .add (.ix (.v 8) (.c (.int 1))) (.v 12)) (.c (.int 2)))), .asg (.nm 15) (.lc [("_law_k", 16)] (.nm 16) (.r1 (.v 2)) (.cmp .ne (.ix (.ix (.v 13) (.c (.int 1))) (.v 16)) (.c (.str [45]))) (.v 16)), .ifs (.or (.not (.call 22 [.ix (.v 13) (.c (.int 0)), .cmp .eq (.v 12) (.c (.int 1))])) (.last (.not (.call 23 [.ix (.v 13) (.c (.int 0)), .v 14, .cmp .eq (.v 12) (.c (.int 1))])))) [.ret (.c (.bl false))] [], .ifs (.or (.cmp .ne (.blt .list [.v 14]) (.v 9)) (.last (.not (.call 23 [.ix (.v 13) (.c (.int 0)), .v 15, .cmp .eq (.v 12) (.c (.int 0))])))) [.ret (.c (.bl false))] [], .ifs (.not (.call 24 [.ix (.v 13) (.c (.int 0)), .ix (.lst [.v 2, .bin .add (.ix (.v 1) (.c (.int 11))) (.c (.int 1))]) (.v 12), .cmp .eq (.v 12) (.c (.int 1))])) [.ret (.c (.bl false))] []]) (fun σ => ∃ b c d e, σ = [.v (.scr ns), .v (.lst head), .v (.int (w : Nat)), .v inks, .v (.str low), .v fre, .v place, .v (.str high), .v (.lst row), .v (.lst (cs.map .int)), .v (.str first), .v (.lst (ls.map .str)), .v (.int (t : Nat)), b, c, d, e]) (ds := [.lst [.str low, .str high], .lst [.str high, .str low], .lst [.str low, .str low], .lst [.str high, .str high]]) (σ := [.v (.scr ns), .v (.lst head), .v (.int (w : Nat)), .v inks, .v (.str low), .v fre, .v place, .v (.str high), .v (.lst row), .v (.lst (cs.map .int)), .v (.str first), .v (.lst (ls.map .str)), .v (.int (t : Nat)), b, c, d, e]) ⟨_, _, _, _, rfl⟩ (by
        rintro dd hd σ ⟨b, c, d, e, rfl⟩
        have : ∃ p q, dd = .lst [.str p, .str q] ∧ Lay w p ∧ Lay w q := by
          simp only [List.mem_cons, List.not_mem_nil, or_false] at hd
          rcases hd with rfl | rfl | rfl | rfl
          · exact ⟨_, _, rfl, hl, hh⟩
          · exact ⟨_, _, rfl, hh, hl⟩
          · exact ⟨_, _, rfl, hl, hl⟩
          · exact ⟨_, _, rfl, hh, hh⟩
        obtain ⟨p, q, rfl, hp, hq⟩ := this
        obtain ⟨c', d', e', hb⟩ := body_ok ns (low := low) (high := high) (first := first) (ls := ls) hp hq h1 hw head row inks fre place cs r1 h11 e1 e11 hh11 hcs t ht c d e
        exact ⟨_, _, rfl, hb, _, _, _, _, rfl⟩)
      refine ⟨b', c', d', e', ?_⟩
      rw [hσ, bind_someX]
      subst hR
      rw [rest_nx]
      rfl
    obtain ⟨b', c', d', e', hk⟩ := key a b c d e
    exact ⟨_, _, rfl, hk, _, _, _, _, _, rfl⟩
  · rintro σ ⟨a, b, c, d, e, rfl⟩
    subst hR
    rw [rest_nx]
    simp [f27, f31, pr, so]
end K01

set_option Elab.async false
set_option linter.all false
set_option maxRecDepth 100000
set_option maxHeartbeats 4000000
namespace K01
open PySem L2 Pv
theorem rep30 (n : Nat) (b : Int) (k : Nat) (h : n * 1 ≤ 1000) : binD .mul (.lst [.int b]) (.int (n : Nat)) = some (.lst ((List.replicate n b).map .int)) := by
  have : repOk 1 (n : Int) = true := by unfold repOk line; simp; omega
  simp [this, rep_ints]
theorem main (ns : List Int) (hl : ns.length ≤ 63) : F_law [.scr ns] = some (.bl true) := by
  have f12 : Z_law.F 12 = F_L_draw := id rfl
  have f13 : Z_law.F 13 = F_L_size := id rfl
  have f14 : Z_law.F 14 = F_L_inks := id rfl
  have f15 : Z_law.F 15 = F_L_layer := id rfl
  have f17 : Z_law.F 17 = F_L_second := id rfl
  have f19 : Z_law.F 19 = F_L_layers := id rfl
  obtain ⟨hd, hhd, hD⟩ := draw_ok ns 0 (by omega) [40, 4, 4, 27, 26, 25, 8, 4, 10, 840, 26, 30, 44, 2] (by simp) (by
    intro s hs
    simp only [List.mem_cons, List.not_mem_nil, or_false] at hs
    rcases hs with rfl | rfl | rfl | rfl | rfl | rfl | rfl | rfl | rfl | rfl | rfl | rfl | rfl | rfl <;> decide)
  match hd, hhd, hD with
  | [h0, h1, h2, h3, h4, h5, h6, h7, h8, h9, h10, h11, h12, h13], hhd, hD =>
  obtain ⟨⟨a0, b0⟩, ⟨a1, b1⟩, ⟨a2, b2⟩, ⟨a3, b3⟩, ⟨a4, b4⟩, ⟨a5, b5⟩, ⟨a6, b6⟩, ⟨a7, b7⟩, ⟨a8, b8⟩, ⟨a9, b9⟩, ⟨a10, b10⟩, ⟨a11, b11⟩, ⟨a12, b12⟩, ⟨a13, b13⟩, _⟩ := hD
  obtain ⟨w, hw, w1, w30⟩ := size_ok h0 a0 b0
  obtain ⟨inks, hi, i1, i2, i3⟩ := inks_ok h1 h2 h3 h4 h5 [h6, h7, h8, h9, h10, h11, h12, h13] ⟨a1, b1⟩ ⟨a3, b3⟩
  have hI : Inks inks := ⟨i1, i2, i3⟩
  obtain ⟨s1, hs1, l1⟩ := draw_c ns 1 (by omega) 30 (by omega) 112 (by decide) (by decide)
  obtain ⟨s2, hs2, l2⟩ := draw_c ns 2 (by omega) 30 (by omega) 112 (by decide) (by decide)
  obtain ⟨s3, hs3, l3⟩ := draw_c ns 3 (by omega) 30 (by omega) 2 (by decide) (by decide)
  obtain ⟨s5, hs5, l5⟩ := draw_c ns 5 (by omega) 30 (by omega) 112 (by decide) (by decide)
  -- low, free, high
  obtain ⟨g6, hg6, _⟩ := atI_in (xs := [D.int 0, .int 1, .int 1, .int 2, .int 2, .int 3, .int 2, .int 4]) a6 (by simpa using b6)
  have ex6 : ∃ z : Int, g6 = .int z := by
    rename_i hm
    simp only [List.mem_cons, List.not_mem_nil, or_false] at hm
    rcases hm with rfl | rfl | rfl | rfl | rfl | rfl | rfl | rfl <;> exact ⟨_, rfl⟩
  obtain ⟨z6, rfl⟩ := ex6
  obtain ⟨low, hlow, Llow⟩ := layer_ok hI z6 s1 w w30 (by omega)
  obtain ⟨fre, hfre, Lfre⟩ := layer_ok hI h7 s2 w w30 (by omega)
  obtain ⟨p0, p1⟩ := fmodp h9 w (by omega)
  obtain ⟨high, hhigh, Lhigh⟩ := second_ok Llow Lfre w30 h8 (h9.fmod w) h10 s3 (by omega)
  -- row
  obtain ⟨rw_, hrw, rD⟩ := draw_ok ns 4 (by omega) ([36, 2, 6] ++ List.replicate 36 (w : Int)) (by simp) (by
    intro s hs
    rcases List.mem_append.mp hs with hs | hs
    · simp only [List.mem_cons, List.not_mem_nil, or_false] at hs
      rcases hs with rfl | rfl | rfl <;> decide
    · rw [List.eq_of_mem_replicate hs]; omega)
  -- first, layers
  obtain ⟨g13, hg13, hm13⟩ := atI_in (xs := [D.int 0, .int 2]) a13 (by simpa using b13)
  have ex13 : ∃ z : Int, g13 = .int z := by
    simp only [List.mem_cons, List.not_mem_nil, or_false] at hm13
    rcases hm13 with rfl | rfl <;> exact ⟨_, rfl⟩
  obtain ⟨z13, rfl⟩ := ex13
  obtain ⟨first, hfirst, Lfirst⟩ := layer_ok hI z13 s5 w w30 (by omega)
  obtain ⟨many, hmany, m1, m100⟩ : ∃ m : Nat, atI [D.int (h12 + 1), .int 2, .int 3, .int 4, .int 5] (if h12 - 39 > 0 then h12 - 39 else 0) = some (.int (m : Nat)) ∧ 1 ≤ m ∧ m ≤ 100 := by
    by_cases c : h12 - 39 > 0
    · rw [if_pos c]
      obtain ⟨y, hy, hm⟩ := atI_in (xs := [D.int (h12 + 1), .int 2, .int 3, .int 4, .int 5]) (i := h12 - 39) (by omega) (by simp; omega)
      simp only [List.mem_cons, List.not_mem_nil, or_false] at hm
      rcases hm with rfl | rfl | rfl | rfl | rfl
      · have e : (((h12 + 1).toNat : Nat) : Int) = h12 + 1 := by omega
        exact ⟨(h12 + 1).toNat, by rw [hy, e], by omega, by omega⟩
      · exact ⟨2, hy, by omega, by omega⟩
      · exact ⟨3, hy, by omega, by omega⟩
      · exact ⟨4, hy, by omega, by omega⟩
      · exact ⟨5, hy, by omega, by omega⟩
    · rw [if_neg c]
      have e : (((h12 + 1).toNat : Nat) : Int) = h12 + 1 := by omega
      exact ⟨(h12 + 1).toNat, by rw [e]; rfl, by omega, by omega⟩
  obtain ⟨ls, hls, lsl, lsL⟩ := layers_ok ns 6 (by omega) hI w w1 w30 many m100
  have rl := rD.len
  simp only [List.length_append, List.length_cons, List.length_nil, List.length_replicate] at rl
  match rw_, rl, hrw, rD with
  | r0 :: r1 :: r2 :: rr, rl, hrw, rD =>
  obtain ⟨⟨c0, d0⟩, ⟨c1, d1⟩, ⟨c2, d2⟩, _⟩ := rD
  simp only [List.length_cons] at rl
  -- the cells
  have hr : okR (w : Int) = true := by unfold okR; simp; omega
  have hl16 : w ≤ 16777216 := by omega
  have ecut1 : cutD (D.int h0 :: D.int h1 :: D.int h2 :: D.int h3 :: D.int h4 :: D.int h5 :: D.int h6 :: D.int h7 :: D.int h8 :: D.int h9 :: D.int h10 :: D.int h11 :: D.int h12 :: [D.int h13]) (some 1) none = [D.int h1, D.int h2, D.int h3, D.int h4, D.int h5, D.int h6, D.int h7, D.int h8, D.int h9, D.int h10, D.int h11, D.int h12, D.int h13] := by
    have := cut_from [D.int h0, D.int h1, D.int h2, D.int h3, D.int h4, D.int h5, D.int h6, D.int h7, D.int h8, D.int h9, D.int h10, D.int h11, D.int h12, D.int h13] 1 (by decide)
    simpa using this
  have ecut3 : cutD (D.int r0 :: D.int r1 :: D.int r2 :: rr.map D.int) (some 3) (some (3 + r0)) = (rr.take r0.toNat).map D.int := by
    have := cut_mid (D.int r0 :: D.int r1 :: D.int r2 :: rr.map D.int) 3 (3 + r0) (by decide) (by omega)
    have e : (3 + r0).toNat - 3 = r0.toNat := by omega
    rw [this]
    simp [e, List.map_take]
  have cr : ∀ x1 x2 x3 x4 x5 x6 x7 x8 x9 x10 x11 x12 x13 x14 x15 : Sl, lcL (.nm 16) (evE Z_law (.c (.bl true))) (evE Z_law (.bin .sub (.bin .sub (.v 2) (.c (.int 1))) (.v 16))) [x1, x2, .v (.int (w : Nat)), x3, x4, x5, x6, x7, x8, x9, x10, x11, x12, x13, x14, x15, .no] (rngD 0 w) = some (((List.range w).map fun (k : Nat) => (w : Int) - 1 - (k : Int)).map D.int) := by
    intro x1 x2 x3 x4 x5 x6 x7 x8 x9 x10 x11 x12 x13 x14 x15
    rw [lcL_ints (fun k => (w : Int) - 1 - (k : Int))]
    intro k hk
    exact ⟨rfl, by simp⟩
  have e11 : atI [D.int h0, D.int h1, D.int h2, D.int h3, D.int h4, D.int h5, D.int h6, D.int h7, D.int h8, D.int h9, D.int h10, D.int h11, D.int h12, D.int h13] 11 = some (.int ((h11.toNat : Nat) : Int)) := by
    rw [Int.toNat_of_nonneg a11]; rfl
  have er1 : atI (D.int r0 :: D.int r1 :: D.int r2 :: rr.map D.int) 1 = some (.int r1) := by rw [show (1 : Int) = ((1 : Nat) : Int) from rfl]; exact atI_nat rfl
  have q0 : atI [D.int h0, D.int h1, D.int h2, D.int h3, D.int h4, D.int h5, D.int h6, D.int h7, D.int h8, D.int h9, D.int h10, D.int h11, D.int h12, D.int h13] 0 = some (.int h0) := rfl
  have q6 : atI [D.int h0, D.int h1, D.int h2, D.int h3, D.int h4, D.int h5, D.int h6, D.int h7, D.int h8, D.int h9, D.int h10, D.int h11, D.int h12, D.int h13] 6 = some (.int h6) := rfl
  have q7 : atI [D.int h0, D.int h1, D.int h2, D.int h3, D.int h4, D.int h5, D.int h6, D.int h7, D.int h8, D.int h9, D.int h10, D.int h11, D.int h12, D.int h13] 7 = some (.int h7) := rfl
  have q8 : atI [D.int h0, D.int h1, D.int h2, D.int h3, D.int h4, D.int h5, D.int h6, D.int h7, D.int h8, D.int h9, D.int h10, D.int h11, D.int h12, D.int h13] 8 = some (.int h8) := rfl
  have q9 : atI [D.int h0, D.int h1, D.int h2, D.int h3, D.int h4, D.int h5, D.int h6, D.int h7, D.int h8, D.int h9, D.int h10, D.int h11, D.int h12, D.int h13] 9 = some (.int h9) := rfl
  have q10 : atI [D.int h0, D.int h1, D.int h2, D.int h3, D.int h4, D.int h5, D.int h6, D.int h7, D.int h8, D.int h9, D.int h10, D.int h11, D.int h12, D.int h13] 10 = some (.int h10) := rfl
  have q12 : atI [D.int h0, D.int h1, D.int h2, D.int h3, D.int h4, D.int h5, D.int h6, D.int h7, D.int h8, D.int h9, D.int h10, D.int h11, D.int h12, D.int h13] 12 = some (.int h12) := rfl
  have q13 : atI [D.int h0, D.int h1, D.int h2, D.int h3, D.int h4, D.int h5, D.int h6, D.int h7, D.int h8, D.int h9, D.int h10, D.int h11, D.int h12, D.int h13] 13 = some (.int h13) := rfl
  have u0 : atI (D.int r0 :: D.int r1 :: D.int r2 :: rr.map D.int) 0 = some (.int r0) := by rw [show (0 : Int) = ((0 : Nat) : Int) from rfl]; exact atI_nat rfl
  have u1 : atI (D.int r0 :: D.int r1 :: D.int r2 :: rr.map D.int) 1 = some (.int r1) := by rw [show (1 : Int) = ((1 : Nat) : Int) from rfl]; exact atI_nat rfl
  have u2 : atI (D.int r0 :: D.int r1 :: D.int r2 :: rr.map D.int) 2 = some (.int r2) := by rw [show (2 : Int) = ((2 : Nat) : Int) from rfl]; exact atI_nat rfl
  have hwn : ¬ (w = 0) := by omega
  have fin := fun (cs : List Int) (hcs : cs.length ≤ 1000) => tail_ok ns Llow Lhigh Lfirst lsL w1 w30 (by omega) (by omega) [D.int h0, D.int h1, D.int h2, D.int h3, D.int h4, D.int h5, D.int h6, D.int h7, D.int h8, D.int h9, D.int h10, D.int h11, D.int h12, D.int h13] (D.int r0 :: D.int r1 :: D.int r2 :: rr.map D.int) (.str inks) (.str fre) (.int (h9.fmod w)) cs r1 h11.toNat er1 e11 (by omega) hcs .no .no .no .no .no
  clear er1
  simp at hhd hs1 hs2 hs3 hs5 hrw hi hls hmany
  have ecut1' : cutD [D.int h0, D.int h1, D.int h2, D.int h3, D.int h4, D.int h5, D.int h6, D.int h7, D.int h8, D.int h9, D.int h10, D.int h11, D.int h12, D.int h13] (some 1) none = [D.int h1, D.int h2, D.int h3, D.int h4, D.int h5, D.int h6, D.int h7, D.int h8, D.int h9, D.int h10, D.int h11, D.int h12, D.int h13] := ecut1
  clear ecut1
  generalize [D.int h0, D.int h1, D.int h2, D.int h3, D.int h4, D.int h5, D.int h6, D.int h7, D.int h8, D.int h9, D.int h10, D.int h11, D.int h12, D.int h13] = HD at *
  generalize (D.int r0 :: D.int r1 :: D.int r2 :: rr.map D.int) = RW at *
  unfold F_law evF ir_law
  rw [if_pos (show [D.scr ns].length = 1 from rfl)]
  simp only [startD, List.map_cons, List.map_nil, List.length_cons, List.length_nil, List.cons_append, List.nil_append]
  (rw [evSs_consR]; generalize hRx : Pv.rest _ _ = Rx; simp [f12, hhd] <;> (subst hRx; first | rw [rest_nx] | (simp only [rest_rt, rest_bk, rest_ct, bind_someX, endD_rt]) | skip))
  (rw [evSs_consR]; generalize hRx : Pv.rest _ _ = Rx; simp [f13, q0, hw] <;> (subst hRx; first | rw [rest_nx] | (simp only [rest_rt, rest_bk, rest_ct, bind_someX, endD_rt]) | skip))
  (rw [evSs_consR]; generalize hRx : Pv.rest _ _ = Rx; simp [f14, slD, ecut1', hi] <;> (subst hRx; first | rw [rest_nx] | (simp only [rest_rt, rest_bk, rest_ct, bind_someX, endD_rt]) | skip))
  have ro30 : repOk 1 30 = true := by decide
  have ro36 : repOk 1 36 = true := by decide
  (rw [evSs_consR]; generalize hRx : Pv.rest _ _ = Rx; simp [f15, f12, q6, hg6, ro30, hs1, hlow] <;> (subst hRx; first | rw [rest_nx] | (simp only [rest_rt, rest_bk, rest_ct, bind_someX, endD_rt]) | skip))
  (rw [evSs_consR]; generalize hRx : Pv.rest _ _ = Rx; simp [f15, f12, q7, ro30, hs2, hfre] <;> (subst hRx; first | rw [rest_nx] | (simp only [rest_rt, rest_bk, rest_ct, bind_someX, endD_rt]) | skip))
  (rw [evSs_consR]; generalize hRx : Pv.rest _ _ = Rx; simp [q9, hwn] <;> (subst hRx; first | rw [rest_nx] | (simp only [rest_rt, rest_bk, rest_ct, bind_someX, endD_rt]) | skip))
  (rw [evSs_consR]; generalize hRx : Pv.rest _ _ = Rx; simp [f17, f12, q8, q10, ro30, hs3, hhigh] <;> (subst hRx; first | rw [rest_nx] | (simp only [rest_rt, rest_bk, rest_ct, bind_someX, endD_rt]) | skip))
  (rw [evSs_consR]; generalize hRx : Pv.rest _ _ = Rx; simp [f12, ro36, hrw] <;> (subst hRx; first | rw [rest_nx] | (simp only [rest_rt, rest_bk, rest_ct, bind_someX, endD_rt]) | skip))
  (rw [evSs_consR]; generalize hRx : Pv.rest _ _ = Rx; simp [slD, u0, ecut3] <;> (subst hRx; first | rw [rest_nx] | (simp only [rest_rt, rest_bk, rest_ct, bind_someX, endD_rt]) | skip))
  have last : ∀ cs : List Int, cs.length ≤ 1000 → (evSs Z_law (ir_law.drop 10) [.v (.scr ns), .v (.lst HD), .v (.int (w : Nat)), .v (.str inks), .v (.str low), .v (.str fre), .v (.int (h9.fmod w)), .v (.str high), .v (.lst RW), .v (.lst (cs.map .int)), .no, .no, .no, .no, .no, .no, .no]).bind endD = some (.bl true) := by
    intro cs hcs
    have fin := fin cs hcs
    simp only [ir_law, List.drop_succ_cons, List.drop_zero]
    generalize cs.map D.int = CI at *
    (rw [evSs_consR]; generalize hRx : Pv.rest _ _ = Rx; simp [f15, f12, q13, hg13, ro30, hs5, hfirst] <;> (subst hRx; first | rw [rest_nx] | (simp only [rest_rt, rest_bk, rest_ct, bind_someX, endD_rt]) | skip))
    (rw [evSs_consR]; generalize hRx : Pv.rest _ _ = Rx; simp [f19, q12, hmany, hls] <;> (subst hRx; first | rw [rest_nx] | (simp only [rest_rt, rest_bk, rest_ct, bind_someX, endD_rt]) | skip))
    exact fin
  rw [evSs_consR]
  generalize hR : Pv.rest _ _ = R
  by_cases z : r2 = 0
  · simp [u2, z, hr, wipeD]
    rw [rng_len, if_pos hl16, cr]
    simp only [map_someX, bind_someX, Function.comp_apply, thenS_nx, evSs_nil]
    subst hR
    rw [rest_nx]
    exact last _ (by simp; omega)
  · simp [u2, z]
    subst hR
    rw [rest_nx]
    have := last (rr.take r0.toNat) (by simp; omega)
    rw [List.map_take] at this
    exact this
end K01

set_option Elab.async false
set_option linter.all false
set_option maxRecDepth 100000
set_option maxHeartbeats 4000000
namespace K01
open PySem L2 Pv
theorem all_mk {P : Program} {w : World} {K : PySem.W.Frag} {h : Heap} {mg : Str → Option Value} {fa : Addr} (X : K.In h) (G : h.Ns mainGlobals mg) (hfa : mg "law" = some (.ref fa))
    {f11 : Addr} {oc11 kV11 doc11 pm11 cd11 ct11 : Value} {od11 an11 : Option Addr} {sl11 : Array (Option Value)}
    {f12 : Addr} {oc12 kV12 doc12 pm12 cd12 ct12 : Value} {od12 an12 : Option Addr} {sl12 : Array (Option Value)}
    {f13 : Addr} {oc13 kV13 doc13 pm13 cd13 ct13 : Value} {od13 an13 : Option Addr} {sl13 : Array (Option Value)}
    {f14 : Addr} {oc14 kV14 doc14 pm14 cd14 ct14 : Value} {od14 an14 : Option Addr} {sl14 : Array (Option Value)}
    {f15 : Addr} {oc15 kV15 doc15 pm15 cd15 ct15 : Value} {od15 an15 : Option Addr} {sl15 : Array (Option Value)}
    {f16 : Addr} {oc16 kV16 doc16 pm16 cd16 ct16 : Value} {od16 an16 : Option Addr} {sl16 : Array (Option Value)}
    {f17 : Addr} {oc17 kV17 doc17 pm17 cd17 ct17 : Value} {od17 an17 : Option Addr} {sl17 : Array (Option Value)}
    {f18 : Addr} {oc18 kV18 doc18 pm18 cd18 ct18 : Value} {od18 an18 : Option Addr} {sl18 : Array (Option Value)}
    {f19 : Addr} {oc19 kV19 doc19 pm19 cd19 ct19 : Value} {od19 an19 : Option Addr} {sl19 : Array (Option Value)}
    {f1 : Addr} {oc1 kV1 doc1 pm1 cd1 ct1 : Value} {od1 an1 : Option Addr} {sl1 : Array (Option Value)}
    {f2 : Addr} {oc2 kV2 doc2 pm2 cd2 ct2 : Value} {od2 an2 : Option Addr} {sl2 : Array (Option Value)}
    {f9 : Addr} {oc9 kV9 doc9 pm9 cd9 ct9 : Value} {od9 an9 : Option Addr} {sl9 : Array (Option Value)}
    {f3 : Addr} {oc3 kV3 doc3 pm3 cd3 ct3 : Value} {od3 an3 : Option Addr} {sl3 : Array (Option Value)}
    {f20 : Addr} {oc20 kV20 doc20 pm20 cd20 ct20 : Value} {od20 an20 : Option Addr} {sl20 : Array (Option Value)}
    {f21 : Addr} {oc21 kV21 doc21 pm21 cd21 ct21 : Value} {od21 an21 : Option Addr} {sl21 : Array (Option Value)}
    {f0 : Addr} {oc0 kV0 doc0 pm0 cd0 ct0 : Value} {od0 an0 : Option Addr} {sl0 : Array (Option Value)}
    {f10 : Addr} {oc10 kV10 doc10 pm10 cd10 ct10 : Value} {od10 an10 : Option Addr} {sl10 : Array (Option Value)}
    {f22 : Addr} {oc22 kV22 doc22 pm22 cd22 ct22 : Value} {od22 an22 : Option Addr} {sl22 : Array (Option Value)}
    {f4 : Addr} {oc4 kV4 doc4 pm4 cd4 ct4 : Value} {od4 an4 : Option Addr} {sl4 : Array (Option Value)}
    {f5 : Addr} {oc5 kV5 doc5 pm5 cd5 ct5 : Value} {od5 an5 : Option Addr} {sl5 : Array (Option Value)}
    {f23 : Addr} {oc23 kV23 doc23 pm23 cd23 ct23 : Value} {od23 an23 : Option Addr} {sl23 : Array (Option Value)}
    {f7 : Addr} {oc7 kV7 doc7 pm7 cd7 ct7 : Value} {od7 an7 : Option Addr} {sl7 : Array (Option Value)}
    {f6 : Addr} {oc6 kV6 doc6 pm6 cd6 ct6 : Value} {od6 an6 : Option Addr} {sl6 : Array (Option Value)}
    {f24 : Addr} {oc24 kV24 doc24 pm24 cd24 ct24 : Value} {od24 an24 : Option Addr} {sl24 : Array (Option Value)}
    {f25 : Addr} {oc25 kV25 doc25 pm25 cd25 ct25 : Value} {od25 an25 : Option Addr} {sl25 : Array (Option Value)}
    {f26 : Addr} {oc26 kV26 doc26 pm26 cd26 ct26 : Value} {od26 an26 : Option Addr} {sl26 : Array (Option Value)}
    {f27 : Addr} {oc27 kV27 doc27 pm27 cd27 ct27 : Value} {od27 an27 : Option Addr} {sl27 : Array (Option Value)}
    {f28 : Addr} {oc28 kV28 doc28 pm28 cd28 ct28 : Value} {od28 an28 : Option Addr} {sl28 : Array (Option Value)}
    {f29 : Addr} {oc29 kV29 doc29 pm29 cd29 ct29 : Value} {od29 an29 : Option Addr} {sl29 : Array (Option Value)}
    {f8 : Addr} {oc8 kV8 doc8 pm8 cd8 ct8 : Value} {od8 an8 : Option Addr} {sl8 : Array (Option Value)}
    {f30 : Addr} {oc30 kV30 doc30 pm30 cd30 ct30 : Value} {od30 an30 : Option Addr} {sl30 : Array (Option Value)}
    {f31 : Addr} {oc31 kV31 doc31 pm31 cd31 ct31 : Value} {od31 an31 : Option Addr} {sl31 : Array (Option Value)}
    {f32 : Addr} {oc32 kV32 doc32 pm32 cd32 ct32 : Value} {od32 an32 : Option Addr} {sl32 : Array (Option Value)}
    {tk0 : Tok}
    (a11 : PySem.W.nsIn K mainGlobals "_law_cell" = some (some (.ref f11)))
    (l11 : K.lookup f11 = some ⟨oc11, od11, .func (PySem.W.fnOf "_law_cell" "_law_cell" (defArgs s_L_cell) (defBody s_L_cell) (defScope s_L_cell) .none kV11 doc11 pm11 an11 cd11 ct11), sl11⟩)
    (c11 : PySem.W.codeIn K cd11 "_law_cell" = true)
    (k11 : PySem.W.keepIn K (.ref f11) = true)
    (a12 : PySem.W.nsIn K mainGlobals "_law_draw" = some (some (.ref f12)))
    (l12 : K.lookup f12 = some ⟨oc12, od12, .func (PySem.W.fnOf "_law_draw" "_law_draw" (defArgs s_L_draw) (defBody s_L_draw) (defScope s_L_draw) .none kV12 doc12 pm12 an12 cd12 ct12), sl12⟩)
    (c12 : PySem.W.codeIn K cd12 "_law_draw" = true)
    (k12 : PySem.W.keepIn K (.ref f12) = true)
    (a13 : PySem.W.nsIn K mainGlobals "_law_size" = some (some (.ref f13)))
    (l13 : K.lookup f13 = some ⟨oc13, od13, .func (PySem.W.fnOf "_law_size" "_law_size" (defArgs s_L_size) (defBody s_L_size) (defScope s_L_size) .none kV13 doc13 pm13 an13 cd13 ct13), sl13⟩)
    (c13 : PySem.W.codeIn K cd13 "_law_size" = true)
    (k13 : PySem.W.keepIn K (.ref f13) = true)
    (a14 : PySem.W.nsIn K mainGlobals "_law_inks" = some (some (.ref f14)))
    (l14 : K.lookup f14 = some ⟨oc14, od14, .func (PySem.W.fnOf "_law_inks" "_law_inks" (defArgs s_L_inks) (defBody s_L_inks) (defScope s_L_inks) .none kV14 doc14 pm14 an14 cd14 ct14), sl14⟩)
    (c14 : PySem.W.codeIn K cd14 "_law_inks" = true)
    (k14 : PySem.W.keepIn K (.ref f14) = true)
    (a15 : PySem.W.nsIn K mainGlobals "_law_layer" = some (some (.ref f15)))
    (l15 : K.lookup f15 = some ⟨oc15, od15, .func (PySem.W.fnOf "_law_layer" "_law_layer" (defArgs s_L_layer) (defBody s_L_layer) (defScope s_L_layer) .none kV15 doc15 pm15 an15 cd15 ct15), sl15⟩)
    (c15 : PySem.W.codeIn K cd15 "_law_layer" = true)
    (k15 : PySem.W.keepIn K (.ref f15) = true)
    (a16 : PySem.W.nsIn K mainGlobals "_law_other" = some (some (.ref f16)))
    (l16 : K.lookup f16 = some ⟨oc16, od16, .func (PySem.W.fnOf "_law_other" "_law_other" (defArgs s_L_other) (defBody s_L_other) (defScope s_L_other) .none kV16 doc16 pm16 an16 cd16 ct16), sl16⟩)
    (c16 : PySem.W.codeIn K cd16 "_law_other" = true)
    (k16 : PySem.W.keepIn K (.ref f16) = true)
    (a17 : PySem.W.nsIn K mainGlobals "_law_second" = some (some (.ref f17)))
    (l17 : K.lookup f17 = some ⟨oc17, od17, .func (PySem.W.fnOf "_law_second" "_law_second" (defArgs s_L_second) (defBody s_L_second) (defScope s_L_second) .none kV17 doc17 pm17 an17 cd17 ct17), sl17⟩)
    (c17 : PySem.W.codeIn K cd17 "_law_second" = true)
    (k17 : PySem.W.keepIn K (.ref f17) = true)
    (a18 : PySem.W.nsIn K mainGlobals "_law_close" = some (some (.ref f18)))
    (l18 : K.lookup f18 = some ⟨oc18, od18, .func (PySem.W.fnOf "_law_close" "_law_close" (defArgs s_L_close) (defBody s_L_close) (defScope s_L_close) .none kV18 doc18 pm18 an18 cd18 ct18), sl18⟩)
    (c18 : PySem.W.codeIn K cd18 "_law_close" = true)
    (k18 : PySem.W.keepIn K (.ref f18) = true)
    (a19 : PySem.W.nsIn K mainGlobals "_law_layers" = some (some (.ref f19)))
    (l19 : K.lookup f19 = some ⟨oc19, od19, .func (PySem.W.fnOf "_law_layers" "_law_layers" (defArgs s_L_layers) (defBody s_L_layers) (defScope s_L_layers) .none kV19 doc19 pm19 an19 cd19 ct19), sl19⟩)
    (c19 : PySem.W.codeIn K cd19 "_law_layers" = true)
    (k19 : PySem.W.keepIn K (.ref f19) = true)
    (a1 : PySem.W.nsIn K mainGlobals "agree" = some (some (.ref f1)))
    (l1 : K.lookup f1 = some ⟨oc1, od1, .func (PySem.W.fnOf "agree" "agree" (defArgs s_agree) (defBody s_agree) (defScope s_agree) .none kV1 doc1 pm1 an1 cd1 ct1), sl1⟩)
    (c1 : PySem.W.codeIn K cd1 "agree" = true)
    (k1 : PySem.W.keepIn K (.ref f1) = true)
    (a2 : PySem.W.nsIn K mainGlobals "within" = some (some (.ref f2)))
    (l2 : K.lookup f2 = some ⟨oc2, od2, .func (PySem.W.fnOf "within" "within" (defArgs s_within) (defBody s_within) (defScope s_within) .none kV2 doc2 pm2 an2 cd2 ct2), sl2⟩)
    (c2 : PySem.W.codeIn K cd2 "within" = true)
    (k2 : PySem.W.keepIn K (.ref f2) = true)
    (a9 : PySem.W.nsIn K mainGlobals "press" = some (some (.ref f9)))
    (l9 : K.lookup f9 = some ⟨oc9, od9, .func (PySem.W.fnOf "press" "press" (defArgs s_press) (defBody s_press) (defScope s_press) .none kV9 doc9 pm9 an9 cd9 ct9), sl9⟩)
    (c9 : PySem.W.codeIn K cd9 "press" = true)
    (k9 : PySem.W.keepIn K (.ref f9) = true)
    (a3 : PySem.W.nsIn K mainGlobals "joined" = some (some (.ref f3)))
    (l3 : K.lookup f3 = some ⟨oc3, od3, .func (PySem.W.fnOf "joined" "joined" (defArgs s_joined) (defBody s_joined) (defScope s_joined) .none kV3 doc3 pm3 an3 cd3 ct3), sl3⟩)
    (c3 : PySem.W.codeIn K cd3 "joined" = true)
    (k3 : PySem.W.keepIn K (.ref f3) = true)
    (a20 : PySem.W.nsIn K mainGlobals "_law_agree" = some (some (.ref f20)))
    (l20 : K.lookup f20 = some ⟨oc20, od20, .func (PySem.W.fnOf "_law_agree" "_law_agree" (defArgs s_L_agree) (defBody s_L_agree) (defScope s_L_agree) .none kV20 doc20 pm20 an20 cd20 ct20), sl20⟩)
    (c20 : PySem.W.codeIn K cd20 "_law_agree" = true)
    (k20 : PySem.W.keepIn K (.ref f20) = true)
    (a21 : PySem.W.nsIn K mainGlobals "_law_pair" = some (some (.ref f21)))
    (l21 : K.lookup f21 = some ⟨oc21, od21, .func (PySem.W.fnOf "_law_pair" "_law_pair" (defArgs s_L_pair) (defBody s_L_pair) (defScope s_L_pair) .none kV21 doc21 pm21 an21 cd21 ct21), sl21⟩)
    (c21 : PySem.W.codeIn K cd21 "_law_pair" = true)
    (k21 : PySem.W.keepIn K (.ref f21) = true)
    (a0 : PySem.W.nsIn K mainGlobals "cells_of" = some (some (.ref f0)))
    (l0 : K.lookup f0 = some ⟨oc0, od0, .func (PySem.W.fnOf "cells_of" "cells_of" (defArgs s_cells_of) (defBody s_cells_of) (defScope s_cells_of) .none kV0 doc0 pm0 an0 cd0 ct0), sl0⟩)
    (c0 : PySem.W.codeIn K cd0 "cells_of" = true)
    (k0 : PySem.W.keepIn K (.ref f0) = true)
    (a10 : PySem.W.nsIn K mainGlobals "_law_whole" = some (some (.ref f10)))
    (l10 : K.lookup f10 = some ⟨oc10, od10, .func (PySem.W.fnOf "_law_whole" "_law_whole" (defArgs s_L_whole) (defBody s_L_whole) (defScope s_L_whole) .none kV10 doc10 pm10 an10 cd10 ct10), sl10⟩)
    (c10 : PySem.W.codeIn K cd10 "_law_whole" = true)
    (k10 : PySem.W.keepIn K (.ref f10) = true)
    (a22 : PySem.W.nsIn K mainGlobals "_law_cells" = some (some (.ref f22)))
    (l22 : K.lookup f22 = some ⟨oc22, od22, .func (PySem.W.fnOf "_law_cells" "_law_cells" (defArgs s_L_cells) (defBody s_L_cells) (defScope s_L_cells) .none kV22 doc22 pm22 an22 cd22 ct22), sl22⟩)
    (c22 : PySem.W.codeIn K cd22 "_law_cells" = true)
    (k22 : PySem.W.keepIn K (.ref f22) = true)
    (a4 : PySem.W.nsIn K mainGlobals "freed" = some (some (.ref f4)))
    (l4 : K.lookup f4 = some ⟨oc4, od4, .func (PySem.W.fnOf "freed" "freed" (defArgs s_freed) (defBody s_freed) (defScope s_freed) .none kV4 doc4 pm4 an4 cd4 ct4), sl4⟩)
    (c4 : PySem.W.codeIn K cd4 "freed" = true)
    (k4 : PySem.W.keepIn K (.ref f4) = true)
    (a5 : PySem.W.nsIn K mainGlobals "kept_at" = some (some (.ref f5)))
    (l5 : K.lookup f5 = some ⟨oc5, od5, .func (PySem.W.fnOf "kept_at" "kept_at" (defArgs s_kept_at) (defBody s_kept_at) (defScope s_kept_at) .none kV5 doc5 pm5 an5 cd5 ct5), sl5⟩)
    (c5 : PySem.W.codeIn K cd5 "kept_at" = true)
    (k5 : PySem.W.keepIn K (.ref f5) = true)
    (a23 : PySem.W.nsIn K mainGlobals "_law_chosen" = some (some (.ref f23)))
    (l23 : K.lookup f23 = some ⟨oc23, od23, .func (PySem.W.fnOf "_law_chosen" "_law_chosen" (defArgs s_L_chosen) (defBody s_L_chosen) (defScope s_L_chosen) .none kV23 doc23 pm23 an23 cd23 ct23), sl23⟩)
    (c23 : PySem.W.codeIn K cd23 "_law_chosen" = true)
    (k23 : PySem.W.keepIn K (.ref f23) = true)
    (a7 : PySem.W.nsIn K mainGlobals "filled" = some (some (.ref f7)))
    (l7 : K.lookup f7 = some ⟨oc7, od7, .func (PySem.W.fnOf "filled" "filled" (defArgs s_filled) (defBody s_filled) (defScope s_filled) .none kV7 doc7 pm7 an7 cd7 ct7), sl7⟩)
    (c7 : PySem.W.codeIn K cd7 "filled" = true)
    (k7 : PySem.W.keepIn K (.ref f7) = true)
    (a6 : PySem.W.nsIn K mainGlobals "empty_layer" = some (some (.ref f6)))
    (l6 : K.lookup f6 = some ⟨oc6, od6, .func (PySem.W.fnOf "empty_layer" "empty_layer" (defArgs s_empty_layer) (defBody s_empty_layer) (defScope s_empty_layer) .none kV6 doc6 pm6 an6 cd6 ct6), sl6⟩)
    (c6 : PySem.W.codeIn K cd6 "empty_layer" = true)
    (k6 : PySem.W.keepIn K (.ref f6) = true)
    (a24 : PySem.W.nsIn K mainGlobals "_law_alone" = some (some (.ref f24)))
    (l24 : K.lookup f24 = some ⟨oc24, od24, .func (PySem.W.fnOf "_law_alone" "_law_alone" (defArgs s_L_alone) (defBody s_L_alone) (defScope s_L_alone) .none kV24 doc24 pm24 an24 cd24 ct24), sl24⟩)
    (c24 : PySem.W.codeIn K cd24 "_law_alone" = true)
    (k24 : PySem.W.keepIn K (.ref f24) = true)
    (a25 : PySem.W.nsIn K mainGlobals "_law_press" = some (some (.ref f25)))
    (l25 : K.lookup f25 = some ⟨oc25, od25, .func (PySem.W.fnOf "_law_press" "_law_press" (defArgs s_L_press) (defBody s_L_press) (defScope s_L_press) .none kV25 doc25 pm25 an25 cd25 ct25), sl25⟩)
    (c25 : PySem.W.codeIn K cd25 "_law_press" = true)
    (k25 : PySem.W.keepIn K (.ref f25) = true)
    (a26 : PySem.W.nsIn K mainGlobals "_law_told" = some (some (.ref f26)))
    (l26 : K.lookup f26 = some ⟨oc26, od26, .func (PySem.W.fnOf "_law_told" "_law_told" (defArgs s_L_told) (defBody s_L_told) (defScope s_L_told) .none kV26 doc26 pm26 an26 cd26 ct26), sl26⟩)
    (c26 : PySem.W.codeIn K cd26 "_law_told" = true)
    (k26 : PySem.W.keepIn K (.ref f26) = true)
    (a27 : PySem.W.nsIn K mainGlobals "_law_presses_right" = some (some (.ref f27)))
    (l27 : K.lookup f27 = some ⟨oc27, od27, .func (PySem.W.fnOf "_law_presses_right" "_law_presses_right" (defArgs s_L_presses_right) (defBody s_L_presses_right) (defScope s_L_presses_right) .none kV27 doc27 pm27 an27 cd27 ct27), sl27⟩)
    (c27 : PySem.W.codeIn K cd27 "_law_presses_right" = true)
    (k27 : PySem.W.keepIn K (.ref f27) = true)
    (a28 : PySem.W.nsIn K mainGlobals "_law_before" = some (some (.ref f28)))
    (l28 : K.lookup f28 = some ⟨oc28, od28, .func (PySem.W.fnOf "_law_before" "_law_before" (defArgs s_L_before) (defBody s_L_before) (defScope s_L_before) .none kV28 doc28 pm28 an28 cd28 ct28), sl28⟩)
    (c28 : PySem.W.codeIn K cd28 "_law_before" = true)
    (k28 : PySem.W.keepIn K (.ref f28) = true)
    (a29 : PySem.W.nsIn K mainGlobals "_law_ordered" = some (some (.ref f29)))
    (l29 : K.lookup f29 = some ⟨oc29, od29, .func (PySem.W.fnOf "_law_ordered" "_law_ordered" (defArgs s_L_ordered) (defBody s_L_ordered) (defScope s_L_ordered) .none kV29 doc29 pm29 an29 cd29 ct29), sl29⟩)
    (c29 : PySem.W.codeIn K cd29 "_law_ordered" = true)
    (k29 : PySem.W.keepIn K (.ref f29) = true)
    (a8 : PySem.W.nsIn K mainGlobals "layer_order" = some (some (.ref f8)))
    (l8 : K.lookup f8 = some ⟨oc8, od8, .func (PySem.W.fnOf "layer_order" "layer_order" (defArgs s_layer_order) (defBody s_layer_order) (defScope s_layer_order) .none kV8 doc8 pm8 an8 cd8 ct8), sl8⟩)
    (c8 : PySem.W.codeIn K cd8 "layer_order" = true)
    (k8 : PySem.W.keepIn K (.ref f8) = true)
    (a30 : PySem.W.nsIn K mainGlobals "_law_key" = some (some (.ref f30)))
    (l30 : K.lookup f30 = some ⟨oc30, od30, .func (PySem.W.fnOf "_law_key" "_law_key" (defArgs s_L_key) (defBody s_L_key) (defScope s_L_key) .none kV30 doc30 pm30 an30 cd30 ct30), sl30⟩)
    (c30 : PySem.W.codeIn K cd30 "_law_key" = true)
    (k30 : PySem.W.keepIn K (.ref f30) = true)
    (a31 : PySem.W.nsIn K mainGlobals "_law_sorted_right" = some (some (.ref f31)))
    (l31 : K.lookup f31 = some ⟨oc31, od31, .func (PySem.W.fnOf "_law_sorted_right" "_law_sorted_right" (defArgs s_L_sorted_right) (defBody s_L_sorted_right) (defScope s_L_sorted_right) .none kV31 doc31 pm31 an31 cd31 ct31), sl31⟩)
    (c31 : PySem.W.codeIn K cd31 "_law_sorted_right" = true)
    (k31 : PySem.W.keepIn K (.ref f31) = true)
    (a32 : PySem.W.nsIn K mainGlobals "law" = some (some (.ref f32)))
    (l32 : K.lookup f32 = some ⟨oc32, od32, .func (PySem.W.fnOf "law" "law" (defArgs s_law) (defBody s_law) (defScope s_law) .none kV32 doc32 pm32 an32 cd32 ct32), sl32⟩)
    (c32 : PySem.W.codeIn K cd32 "law" = true)
    (k32 : PySem.W.keepIn K (.ref f32) = true)
    (z0 : PySem.W.nsIn K mainGlobals "bool" = some none)
    (z1 : PySem.W.nsIn K mainGlobals "int" = some none)
    (z2 : PySem.W.nsIn K mainGlobals "isinstance" = some none)
    (z3 : PySem.W.nsIn K mainGlobals "len" = some none)
    (z4 : PySem.W.nsIn K mainGlobals "list" = some none)
    (z5 : PySem.W.nsIn K mainGlobals "max" = some none)
    (z6 : PySem.W.nsIn K mainGlobals "range" = some none)
    (z7 : PySem.W.nsIn K mainGlobals "sorted" = some none)
    (z8 : PySem.W.nsIn K mainGlobals "str" = some none)
    (z9 : PySem.W.nsIn K mainGlobals "tuple" = some none)
    (z10 : PySem.W.nsIn K mainGlobals "zip" = some none)
    (gk0 : PySem.W.nsIn K mainGlobals "SIGNS" = some (some (.str (mkS [45, 46, 97, 98, 99, 100, 101, 102, 103, 104, 105, 106, 107, 108, 109, 110, 111, 112, 113, 114, 115, 116, 117, 118, 119, 120, 121, 122]) tk0)))
    : ∃ fd : FuncData, (∀ (s : Shared) (v : Value), BindsTo s fd ⟨[v], []⟩ [("_law_script", v)]) ∧ ∀ base : Heap, K.In base → base.Ns mainGlobals mg → FnOk P w K mg base CX0 6 fa fd ["_law_script"] (spF K F_law) := by
  have e := hfa.symm.trans (PySem.W.mg_of X G a32)
  cases e
  have hb : ∀ x ∈ blts, mg x = none := by
    intro x hx
    simp only [blts, List.mem_cons, List.not_mem_nil, or_false] at hx
    rcases hx with rfl | rfl | rfl | rfl | rfl | rfl | rfl | rfl | rfl | rfl | rfl
    · exact PySem.W.mg_none_of X G z0
    · exact PySem.W.mg_none_of X G z1
    · exact PySem.W.mg_none_of X G z2
    · exact PySem.W.mg_none_of X G z3
    · exact PySem.W.mg_none_of X G z4
    · exact PySem.W.mg_none_of X G z5
    · exact PySem.W.mg_none_of X G z6
    · exact PySem.W.mg_none_of X G z7
    · exact PySem.W.mg_none_of X G z8
    · exact PySem.W.mg_none_of X G z9
    · exact PySem.W.mg_none_of X G z10
  have Fn11 := fun_mk (st := s_L_cell) l11 c11 k11
  have b11 := Fn11.binds (ps := ["_law_script", "_law_k"]) fun _ _ _ _ _ _ us hl => match us, hl with | [_, _], _ => rfl
  have Fn12 := fun_mk (st := s_L_draw) l12 c12 k12
  have b12 := Fn12.binds (ps := ["_law_script", "_law_k", "_law_sizes"]) fun _ _ _ _ _ _ us hl => match us, hl with | [_, _, _], _ => rfl
  have Fn13 := fun_mk (st := s_L_size) l13 c13 k13
  have b13 := Fn13.binds (ps := ["_law_digit"]) fun _ _ _ _ _ _ us hl => match us, hl with | [_], _ => rfl
  have Fn14 := fun_mk (st := s_L_inks) l14 c14 k14
  have b14 := Fn14.binds (ps := ["_law_spots"]) fun _ _ _ _ _ _ us hl => match us, hl with | [_], _ => rfl
  have Fn15 := fun_mk (st := s_L_layer) l15 c15 k15
  have b15 := Fn15.binds (ps := ["_law_inks_here", "_law_share", "_law_spots", "_law_wide"]) fun _ _ _ _ _ _ us hl => match us, hl with | [_, _, _, _], _ => rfl
  have Fn16 := fun_mk (st := s_L_other) l16 c16 k16
  have b16 := Fn16.binds (ps := ["_law_mark", "_law_step"]) fun _ _ _ _ _ _ us hl => match us, hl with | [_, _], _ => rfl
  have Fn17 := fun_mk (st := s_L_second) l17 c17 k17
  have b17 := Fn17.binds (ps := ["_law_low", "_law_free", "_law_mode", "_law_place", "_law_step", "_law_turns"]) fun _ _ _ _ _ _ us hl => match us, hl with | [_, _, _, _, _, _], _ => rfl
  have Fn18 := fun_mk (st := s_L_close) l18 c18 k18
  have b18 := Fn18.binds (ps := ["_law_text", "_law_place", "_law_number"]) fun _ _ _ _ _ _ us hl => match us, hl with | [_, _, _], _ => rfl
  have Fn19 := fun_mk (st := s_L_layers) l19 c19 k19
  have b19 := Fn19.binds (ps := ["_law_script", "_law_at", "_law_inks_here", "_law_wide", "_law_many"]) fun _ _ _ _ _ _ us hl => match us, hl with | [_, _, _, _, _], _ => rfl
  have Fn1 := fun_mk (st := s_agree) l1 c1 k1
  have b1 := Fn1.binds (ps := ["one", "two"]) fun _ _ _ _ _ _ us hl => match us, hl with | [_, _], _ => rfl
  have Fn2 := fun_mk (st := s_within) l2 c2 k2
  have b2 := Fn2.binds (ps := ["one", "two"]) fun _ _ _ _ _ _ us hl => match us, hl with | [_, _], _ => rfl
  have Fn9 := fun_mk (st := s_press) l9 c9 k9
  have b9 := Fn9.binds (ps := ["one", "two"]) fun _ _ _ _ _ _ us hl => match us, hl with | [_, _], _ => rfl
  have Fn3 := fun_mk (st := s_joined) l3 c3 k3
  have b3 := Fn3.binds (ps := ["one", "two"]) fun _ _ _ _ _ _ us hl => match us, hl with | [_, _], _ => rfl
  have Fn20 := fun_mk (st := s_L_agree) l20 c20 k20
  have b20 := Fn20.binds (ps := ["_law_low", "_law_high"]) fun _ _ _ _ _ _ us hl => match us, hl with | [_, _], _ => rfl
  have Fn21 := fun_mk (st := s_L_pair) l21 c21 k21
  have b21 := Fn21.binds (ps := ["_law_low", "_law_high", "_law_by_name"]) fun _ _ _ _ _ _ us hl => match us, hl with | [_, _, _], _ => rfl
  have Fn0 := fun_mk (st := s_cells_of) l0 c0 k0
  have b0 := Fn0.binds (ps := ["one"]) fun _ _ _ _ _ _ us hl => match us, hl with | [_], _ => rfl
  have Fn10 := fun_mk (st := s_L_whole) l10 c10 k10
  have b10 := Fn10.binds (ps := ["_law_value"]) fun _ _ _ _ _ _ us hl => match us, hl with | [_], _ => rfl
  have Fn22 := fun_mk (st := s_L_cells) l22 c22 k22
  have b22 := Fn22.binds (ps := ["_law_low", "_law_by_name"]) fun _ _ _ _ _ _ us hl => match us, hl with | [_, _], _ => rfl
  have Fn4 := fun_mk (st := s_freed) l4 c4 k4
  have b4 := Fn4.binds (ps := ["one", "chosen"]) fun _ _ _ _ _ _ us hl => match us, hl with | [_, _], _ => rfl
  have Fn5 := fun_mk (st := s_kept_at) l5 c5 k5
  have b5 := Fn5.binds (ps := ["one", "chosen"]) fun _ _ _ _ _ _ us hl => match us, hl with | [_, _], _ => rfl
  have Fn23 := fun_mk (st := s_L_chosen) l23 c23 k23
  have b23 := Fn23.binds (ps := ["_law_low", "_law_picked", "_law_by_name"]) fun _ _ _ _ _ _ us hl => match us, hl with | [_, _, _], _ => rfl
  have Fn7 := fun_mk (st := s_filled) l7 c7 k7
  have b7 := Fn7.binds (ps := ["one"]) fun _ _ _ _ _ _ us hl => match us, hl with | [_], _ => rfl
  have Fn6 := fun_mk (st := s_empty_layer) l6 c6 k6
  have b6 := Fn6.binds (ps := ["size"]) fun _ _ _ _ _ _ us hl => match us, hl with | [_], _ => rfl
  have Fn24 := fun_mk (st := s_L_alone) l24 c24 k24
  have b24 := Fn24.binds (ps := ["_law_low", "_law_wide", "_law_by_name"]) fun _ _ _ _ _ _ us hl => match us, hl with | [_, _, _], _ => rfl
  have Fn25 := fun_mk (st := s_L_press) l25 c25 k25
  have b25 := Fn25.binds (ps := ["_law_low", "_law_high"]) fun _ _ _ _ _ _ us hl => match us, hl with | [_, _], _ => rfl
  have Fn26 := fun_mk (st := s_L_told) l26 c26 k26
  have b26 := Fn26.binds (ps := ["_law_low", "_law_high"]) fun _ _ _ _ _ _ us hl => match us, hl with | [_, _], _ => rfl
  have Fn27 := fun_mk (st := s_L_presses_right) l27 c27 k27
  have b27 := Fn27.binds (ps := ["_law_first", "_law_layers_here"]) fun _ _ _ _ _ _ us hl => match us, hl with | [_, _], _ => rfl
  have Fn28 := fun_mk (st := s_L_before) l28 c28 k28
  have b28 := Fn28.binds (ps := ["_law_low", "_law_high"]) fun _ _ _ _ _ _ us hl => match us, hl with | [_, _], _ => rfl
  have Fn29 := fun_mk (st := s_L_ordered) l29 c29 k29
  have b29 := Fn29.binds (ps := ["_law_found", "_law_layers_here"]) fun _ _ _ _ _ _ us hl => match us, hl with | [_, _], _ => rfl
  have Fn8 := fun_mk (st := s_layer_order) l8 c8 k8
  have b8 := Fn8.binds (ps := ["one"]) fun _ _ _ _ _ _ us hl => match us, hl with | [_], _ => rfl
  have Fn30 := fun_mk (st := s_L_key) l30 c30 k30
  have b30 := Fn30.binds (ps := ["_law_text"]) fun _ _ _ _ _ _ us hl => match us, hl with | [_], _ => rfl
  have Fn31 := fun_mk (st := s_L_sorted_right) l31 c31 k31
  have b31 := Fn31.binds (ps := ["_law_layers_here"]) fun _ _ _ _ _ _ us hl => match us, hl with | [_], _ => rfl
  have Fn32 := fun_mk (st := s_law) l32 c32 k32
  have b32 := Fn32.binds (ps := ["_law_script"]) fun _ _ _ _ _ _ us hl => match us, hl with | [_], _ => rfl
  refine ⟨_, fun s v => (.of_eq rfl : BindsTo s (PySem.W.fnOf "law" "law" (defArgs s_law) (defBody s_law) (defScope s_law) .none kV32 doc32 pm32 an32 cd32 ct32) ⟨[v], []⟩ [("_law_script", v)]), fun base KB GB => ?_⟩
  have ok11 : FnOk P w K mg base CX0 1 f11 _ ["_law_script", "_law_k"] (spF K F_L_cell) :=
    fn_ok (Y := Y_L_cell) Fn11 sc_L_cell ⟨fun i x hx => by simp [Y_L_cell, Z_L_cell, findM] at hx,
      fun k x hx => by simp [Y_L_cell, Z_L_cell, findM] at hx,
      hb, fun hz => by simp [Y_L_cell] at hz,
      fun c f hx => by simp [Y_L_cell, Z_L_cell, findM] at hx,
      fun c m k hx => by simp [Y_L_cell, Z_L_cell, findM] at hx,
      fun c m k hx => by simp [Y_L_cell, Z_L_cell, findM] at hx,
      fun k c hx => by simp [Y_L_cell, Z_L_cell, findM] at hx,
      fun c hx => by simp [Y_L_cell, Z_L_cell] at hx,
      fun k x hx => by simp [Y_L_cell, Z_L_cell, findM] at hx,
      fun k x ks pm hx => by simp [Y_L_cell, Z_L_cell, findM] at hx⟩ ck_L_cell (by decide) (fun _ _ z => z)
  have ok12 : FnOk P w K mg base CX0 2 f12 _ ["_law_script", "_law_k", "_law_sizes"] (spF K F_L_draw) :=
    fn_ok (Y := Y_L_draw) Fn12 sc_L_draw ⟨fun i x hx => by
      simp only [Y_L_draw, Z_L_draw, List.mem_cons, List.not_mem_nil, or_false, Prod.mk.injEq] at hx
      obtain ⟨rfl, rfl⟩ := hx
      · exact ⟨f11, _, _, PySem.W.mg_of X G a11, k11, b11, ok11.mono (by decide)⟩,
      fun k x hx => by simp [Y_L_draw, Z_L_draw, findM] at hx,
      hb, fun hz => by simp [Y_L_draw] at hz,
      fun c f hx => by simp [Y_L_draw, Z_L_draw, findM] at hx,
      fun c m k hx => by simp [Y_L_draw, Z_L_draw, findM] at hx,
      fun c m k hx => by simp [Y_L_draw, Z_L_draw, findM] at hx,
      fun k c hx => by simp [Y_L_draw, Z_L_draw, findM] at hx,
      fun c hx => by simp [Y_L_draw, Z_L_draw] at hx,
      fun k x hx => by simp [Y_L_draw, Z_L_draw, findM] at hx,
      fun k x ks pm hx => by simp [Y_L_draw, Z_L_draw, findM] at hx⟩ ck_L_draw (by decide) (fun _ _ z => z)
  have ok13 : FnOk P w K mg base CX0 1 f13 _ ["_law_digit"] (spF K F_L_size) :=
    fn_ok (Y := Y_L_size) Fn13 sc_L_size ⟨fun i x hx => by simp [Y_L_size, Z_L_size, findM] at hx,
      fun k x hx => by simp [Y_L_size, Z_L_size, findM] at hx,
      hb, fun hz => by simp [Y_L_size] at hz,
      fun c f hx => by simp [Y_L_size, Z_L_size, findM] at hx,
      fun c m k hx => by simp [Y_L_size, Z_L_size, findM] at hx,
      fun c m k hx => by simp [Y_L_size, Z_L_size, findM] at hx,
      fun k c hx => by simp [Y_L_size, Z_L_size, findM] at hx,
      fun c hx => by simp [Y_L_size, Z_L_size] at hx,
      fun k x hx => by simp [Y_L_size, Z_L_size, findM] at hx,
      fun k x ks pm hx => by simp [Y_L_size, Z_L_size, findM] at hx⟩ ck_L_size (by decide) (fun _ _ z => z)
  have ok14 : FnOk P w K mg base CX0 1 f14 _ ["_law_spots"] (spF K F_L_inks) :=
    fn_ok (Y := Y_L_inks) Fn14 sc_L_inks ⟨fun i x hx => by simp [Y_L_inks, Z_L_inks, findM] at hx,
      fun k x hx => by simp [Y_L_inks, Z_L_inks, findM] at hx,
      hb, fun hz => by simp [Y_L_inks] at hz,
      fun c f hx => by simp [Y_L_inks, Z_L_inks, findM] at hx,
      fun c m k hx => by simp [Y_L_inks, Z_L_inks, findM] at hx,
      fun c m k hx => by simp [Y_L_inks, Z_L_inks, findM] at hx,
      fun k c hx => by simp [Y_L_inks, Z_L_inks, findM] at hx,
      fun c hx => by simp [Y_L_inks, Z_L_inks] at hx,
      fun k x hx => by simp [Y_L_inks, Z_L_inks, findM] at hx,
      fun k x ks pm hx => by simp [Y_L_inks, Z_L_inks, findM] at hx⟩ ck_L_inks (by decide) (fun _ _ z => z)
  have ok15 : FnOk P w K mg base CX0 1 f15 _ ["_law_inks_here", "_law_share", "_law_spots", "_law_wide"] (spF K F_L_layer) :=
    fn_ok (Y := Y_L_layer) Fn15 sc_L_layer ⟨fun i x hx => by simp [Y_L_layer, Z_L_layer, findM] at hx,
      fun k x hx => by simp [Y_L_layer, Z_L_layer, findM] at hx,
      hb, fun hz => by simp [Y_L_layer] at hz,
      fun c f hx => by simp [Y_L_layer, Z_L_layer, findM] at hx,
      fun c m k hx => by simp [Y_L_layer, Z_L_layer, findM] at hx,
      fun c m k hx => by simp [Y_L_layer, Z_L_layer, findM] at hx,
      fun k c hx => by simp [Y_L_layer, Z_L_layer, findM] at hx,
      fun c hx => by simp [Y_L_layer, Z_L_layer] at hx,
      fun k x hx => by simp [Y_L_layer, Z_L_layer, findM] at hx,
      fun k x ks pm hx => by simp [Y_L_layer, Z_L_layer, findM] at hx⟩ ck_L_layer (by decide) (fun _ _ z => z)
  have ok16 : FnOk P w K mg base CX0 1 f16 _ ["_law_mark", "_law_step"] (spF K F_L_other) :=
    fn_ok (Y := Y_L_other) Fn16 sc_L_other ⟨fun i x hx => by simp [Y_L_other, Z_L_other, findM] at hx,
      fun k x hx => by simp [Y_L_other, Z_L_other, findM] at hx,
      hb, fun hz => by simp [Y_L_other] at hz,
      fun c f hx => by simp [Y_L_other, Z_L_other, findM] at hx,
      fun c m k hx => by simp [Y_L_other, Z_L_other, findM] at hx,
      fun c m k hx => by simp [Y_L_other, Z_L_other, findM] at hx,
      fun k c hx => by simp [Y_L_other, Z_L_other, findM] at hx,
      fun c hx => by simp [Y_L_other, Z_L_other] at hx,
      fun k x hx => by simp [Y_L_other, Z_L_other, findM] at hx,
      fun k x ks pm hx => by simp [Y_L_other, Z_L_other, findM] at hx⟩ ck_L_other (by decide) (fun _ _ z => z)
  have ok17 : FnOk P w K mg base CX0 2 f17 _ ["_law_low", "_law_free", "_law_mode", "_law_place", "_law_step", "_law_turns"] (spF K F_L_second) :=
    fn_ok (Y := Y_L_second) Fn17 sc_L_second ⟨fun i x hx => by
      simp only [Y_L_second, Z_L_second, List.mem_cons, List.not_mem_nil, or_false, Prod.mk.injEq] at hx
      obtain ⟨rfl, rfl⟩ := hx
      · exact ⟨f16, _, _, PySem.W.mg_of X G a16, k16, b16, ok16.mono (by decide)⟩,
      fun k x hx => by simp [Y_L_second, Z_L_second, findM] at hx,
      hb, fun hz => by simp [Y_L_second] at hz,
      fun c f hx => by simp [Y_L_second, Z_L_second, findM] at hx,
      fun c m k hx => by simp [Y_L_second, Z_L_second, findM] at hx,
      fun c m k hx => by simp [Y_L_second, Z_L_second, findM] at hx,
      fun k c hx => by simp [Y_L_second, Z_L_second, findM] at hx,
      fun c hx => by simp [Y_L_second, Z_L_second] at hx,
      fun k x hx => by simp [Y_L_second, Z_L_second, findM] at hx,
      fun k x ks pm hx => by simp [Y_L_second, Z_L_second, findM] at hx⟩ ck_L_second (by decide) (fun _ _ z => z)
  have ok18 : FnOk P w K mg base CX0 1 f18 _ ["_law_text", "_law_place", "_law_number"] (spF K F_L_close) :=
    fn_ok (Y := Y_L_close) Fn18 sc_L_close ⟨fun i x hx => by simp [Y_L_close, Z_L_close, findM] at hx,
      fun k x hx => by simp [Y_L_close, Z_L_close, findM] at hx,
      hb, fun hz => by simp [Y_L_close] at hz,
      fun c f hx => by simp [Y_L_close, Z_L_close, findM] at hx,
      fun c m k hx => by simp [Y_L_close, Z_L_close, findM] at hx,
      fun c m k hx => by simp [Y_L_close, Z_L_close, findM] at hx,
      fun k c hx => by simp [Y_L_close, Z_L_close, findM] at hx,
      fun c hx => by simp [Y_L_close, Z_L_close] at hx,
      fun k x hx => by simp [Y_L_close, Z_L_close, findM] at hx,
      fun k x ks pm hx => by simp [Y_L_close, Z_L_close, findM] at hx⟩ ck_L_close (by decide) (fun _ _ z => z)
  have ok19 : FnOk P w K mg base CX0 3 f19 _ ["_law_script", "_law_at", "_law_inks_here", "_law_wide", "_law_many"] (spF K F_L_layers) :=
    fn_ok (Y := Y_L_layers) Fn19 sc_L_layers ⟨fun i x hx => by
      simp only [Y_L_layers, Z_L_layers, List.mem_cons, List.not_mem_nil, or_false, Prod.mk.injEq] at hx
      rcases hx with ⟨rfl, rfl⟩ | ⟨rfl, rfl⟩ | ⟨rfl, rfl⟩
      · exact ⟨f12, _, _, PySem.W.mg_of X G a12, k12, b12, ok12.mono (by decide)⟩
      · exact ⟨f15, _, _, PySem.W.mg_of X G a15, k15, b15, ok15.mono (by decide)⟩
      · exact ⟨f18, _, _, PySem.W.mg_of X G a18, k18, b18, ok18.mono (by decide)⟩,
      fun k x hx => by simp [Y_L_layers, Z_L_layers, findM] at hx,
      hb, fun hz => by simp [Y_L_layers] at hz,
      fun c f hx => by simp [Y_L_layers, Z_L_layers, findM] at hx,
      fun c m k hx => by simp [Y_L_layers, Z_L_layers, findM] at hx,
      fun c m k hx => by simp [Y_L_layers, Z_L_layers, findM] at hx,
      fun k c hx => by simp [Y_L_layers, Z_L_layers, findM] at hx,
      fun c hx => by simp [Y_L_layers, Z_L_layers] at hx,
      fun k x hx => by simp [Y_L_layers, Z_L_layers, findM] at hx,
      fun k x ks pm hx => by simp [Y_L_layers, Z_L_layers, findM] at hx⟩ ck_L_layers (by decide) (fun _ _ z => z)
  have ok1 : FnOk P w K mg base CX0 1 f1 _ ["one", "two"] (spF K F_agree) :=
    fn_ok (Y := Y_agree) Fn1 sc_agree ⟨fun i x hx => by simp [Y_agree, Z_agree, findM] at hx,
      fun k x hx => by simp [Y_agree, Z_agree, findM] at hx,
      hb, fun hz => by simp [Y_agree] at hz,
      fun c f hx => by simp [Y_agree, Z_agree, findM] at hx,
      fun c m k hx => by simp [Y_agree, Z_agree, findM] at hx,
      fun c m k hx => by simp [Y_agree, Z_agree, findM] at hx,
      fun k c hx => by simp [Y_agree, Z_agree, findM] at hx,
      fun c hx => by simp [Y_agree, Z_agree] at hx,
      fun k x hx => by simp [Y_agree, Z_agree, findM] at hx,
      fun k x ks pm hx => by simp [Y_agree, Z_agree, findM] at hx⟩ ck_agree (by decide) (fun _ _ z => z)
  have ok2 : FnOk P w K mg base CX0 1 f2 _ ["one", "two"] (spF K F_within) :=
    fn_ok (Y := Y_within) Fn2 sc_within ⟨fun i x hx => by simp [Y_within, Z_within, findM] at hx,
      fun k x hx => by simp [Y_within, Z_within, findM] at hx,
      hb, fun hz => by simp [Y_within] at hz,
      fun c f hx => by simp [Y_within, Z_within, findM] at hx,
      fun c m k hx => by simp [Y_within, Z_within, findM] at hx,
      fun c m k hx => by simp [Y_within, Z_within, findM] at hx,
      fun k c hx => by simp [Y_within, Z_within, findM] at hx,
      fun c hx => by simp [Y_within, Z_within] at hx,
      fun k x hx => by simp [Y_within, Z_within, findM] at hx,
      fun k x ks pm hx => by simp [Y_within, Z_within, findM] at hx⟩ ck_within (by decide) (fun _ _ z => z)
  have ok9 : FnOk P w K mg base CX0 1 f9 _ ["one", "two"] (spF K F_press) :=
    fn_ok (Y := Y_press) Fn9 sc_press ⟨fun i x hx => by simp [Y_press, Z_press, findM] at hx,
      fun k x hx => by simp [Y_press, Z_press, findM] at hx,
      hb, fun hz => by simp [Y_press] at hz,
      fun c f hx => by simp [Y_press, Z_press, findM] at hx,
      fun c m k hx => by simp [Y_press, Z_press, findM] at hx,
      fun c m k hx => by simp [Y_press, Z_press, findM] at hx,
      fun k c hx => by simp [Y_press, Z_press, findM] at hx,
      fun c hx => by simp [Y_press, Z_press] at hx,
      fun k x hx => by simp [Y_press, Z_press, findM] at hx,
      fun k x ks pm hx => by simp [Y_press, Z_press, findM] at hx⟩ ck_press (by decide) (fun _ _ z => z)
  have ok3 : FnOk P w K mg base CX0 2 f3 _ ["one", "two"] (spF K F_joined) :=
    fn_ok (Y := Y_joined) Fn3 sc_joined ⟨fun i x hx => by
      simp only [Y_joined, Z_joined, List.mem_cons, List.not_mem_nil, or_false, Prod.mk.injEq] at hx
      rcases hx with ⟨rfl, rfl⟩ | ⟨rfl, rfl⟩
      · exact ⟨f1, _, _, PySem.W.mg_of X G a1, k1, b1, ok1.mono (by decide)⟩
      · exact ⟨f9, _, _, PySem.W.mg_of X G a9, k9, b9, ok9.mono (by decide)⟩,
      fun k x hx => by simp [Y_joined, Z_joined, findM] at hx,
      hb, fun hz => by simp [Y_joined] at hz,
      fun c f hx => by simp [Y_joined, Z_joined, findM] at hx,
      fun c m k hx => by simp [Y_joined, Z_joined, findM] at hx,
      fun c m k hx => by simp [Y_joined, Z_joined, findM] at hx,
      fun k c hx => by simp [Y_joined, Z_joined, findM] at hx,
      fun c hx => by simp [Y_joined, Z_joined] at hx,
      fun k x hx => by simp [Y_joined, Z_joined, findM] at hx,
      fun k x ks pm hx => by simp [Y_joined, Z_joined, findM] at hx⟩ ck_joined (by decide) (fun _ _ z => z)
  have ok20 : FnOk P w K mg base CX0 1 f20 _ ["_law_low", "_law_high"] (spF K F_L_agree) :=
    fn_ok (Y := Y_L_agree) Fn20 sc_L_agree ⟨fun i x hx => by simp [Y_L_agree, Z_L_agree, findM] at hx,
      fun k x hx => by simp [Y_L_agree, Z_L_agree, findM] at hx,
      hb, fun hz => by simp [Y_L_agree] at hz,
      fun c f hx => by simp [Y_L_agree, Z_L_agree, findM] at hx,
      fun c m k hx => by simp [Y_L_agree, Z_L_agree, findM] at hx,
      fun c m k hx => by simp [Y_L_agree, Z_L_agree, findM] at hx,
      fun k c hx => by simp [Y_L_agree, Z_L_agree, findM] at hx,
      fun c hx => by simp [Y_L_agree, Z_L_agree] at hx,
      fun k x hx => by simp [Y_L_agree, Z_L_agree, findM] at hx,
      fun k x ks pm hx => by simp [Y_L_agree, Z_L_agree, findM] at hx⟩ ck_L_agree (by decide) (fun _ _ z => z)
  have ok21 : FnOk P w K mg base CX0 3 f21 _ ["_law_low", "_law_high", "_law_by_name"] (spF K F_L_pair) :=
    fn_ok (Y := Y_L_pair) Fn21 sc_L_pair ⟨fun i x hx => by
      simp only [Y_L_pair, Z_L_pair, List.mem_cons, List.not_mem_nil, or_false, Prod.mk.injEq] at hx
      rcases hx with ⟨rfl, rfl⟩ | ⟨rfl, rfl⟩ | ⟨rfl, rfl⟩ | ⟨rfl, rfl⟩
      · exact ⟨f1, _, _, PySem.W.mg_of X G a1, k1, b1, ok1.mono (by decide)⟩
      · exact ⟨f2, _, _, PySem.W.mg_of X G a2, k2, b2, ok2.mono (by decide)⟩
      · exact ⟨f3, _, _, PySem.W.mg_of X G a3, k3, b3, ok3.mono (by decide)⟩
      · exact ⟨f20, _, _, PySem.W.mg_of X G a20, k20, b20, ok20.mono (by decide)⟩,
      fun k x hx => by simp [Y_L_pair, Z_L_pair, findM] at hx,
      hb, fun hz => by simp [Y_L_pair] at hz,
      fun c f hx => by simp [Y_L_pair, Z_L_pair, findM] at hx,
      fun c m k hx => by simp [Y_L_pair, Z_L_pair, findM] at hx,
      fun c m k hx => by simp [Y_L_pair, Z_L_pair, findM] at hx,
      fun k c hx => by simp [Y_L_pair, Z_L_pair, findM] at hx,
      fun c hx => by simp [Y_L_pair, Z_L_pair] at hx,
      fun k x hx => by simp [Y_L_pair, Z_L_pair, findM] at hx,
      fun k x ks pm hx => by
      simp only [Y_L_pair, Z_L_pair, List.mem_cons, List.not_mem_nil, or_false, Prod.mk.injEq] at hx
      rcases hx with ⟨rfl, rfl, rfl, rfl⟩ | ⟨rfl, rfl, rfl, rfl⟩ | ⟨rfl, rfl, rfl, rfl⟩
      · exact kw_at (PySem.W.mg_of X G a1) k1 (fun s ws hl => match ws, hl with | [_, _], _ => .of_eq rfl) (ok1.mono (by decide))
      · exact kw_at (PySem.W.mg_of X G a2) k2 (fun s ws hl => match ws, hl with | [_, _], _ => .of_eq rfl) (ok2.mono (by decide))
      · exact kw_at (PySem.W.mg_of X G a3) k3 (fun s ws hl => match ws, hl with | [_, _], _ => .of_eq rfl) (ok3.mono (by decide))⟩ ck_L_pair (by decide) (fun _ _ z => z)
  have ok0 : FnOk P w K mg base CX0 1 f0 _ ["one"] (spF K F_cells_of) :=
    fn_ok (Y := Y_cells_of) Fn0 sc_cells_of ⟨fun i x hx => by simp [Y_cells_of, Z_cells_of, findM] at hx,
      fun k x hx => by simp [Y_cells_of, Z_cells_of, findM] at hx,
      hb, fun hz => by simp [Y_cells_of] at hz,
      fun c f hx => by simp [Y_cells_of, Z_cells_of, findM] at hx,
      fun c m k hx => by simp [Y_cells_of, Z_cells_of, findM] at hx,
      fun c m k hx => by simp [Y_cells_of, Z_cells_of, findM] at hx,
      fun k c hx => by simp [Y_cells_of, Z_cells_of, findM] at hx,
      fun c hx => by simp [Y_cells_of, Z_cells_of] at hx,
      fun k x hx => by simp [Y_cells_of, Z_cells_of, findM] at hx,
      fun k x ks pm hx => by simp [Y_cells_of, Z_cells_of, findM] at hx⟩ ck_cells_of (by decide) (fun _ _ z => z)
  have ok10 : FnOk P w K mg base CX0 1 f10 _ ["_law_value"] (spF K F_L_whole) :=
    fn_ok (Y := Y_L_whole) Fn10 sc_L_whole ⟨fun i x hx => by simp [Y_L_whole, Z_L_whole, findM] at hx,
      fun k x hx => by simp [Y_L_whole, Z_L_whole, findM] at hx,
      hb, fun hz => by simp [Y_L_whole] at hz,
      fun c f hx => by simp [Y_L_whole, Z_L_whole, findM] at hx,
      fun c m k hx => by simp [Y_L_whole, Z_L_whole, findM] at hx,
      fun c m k hx => by simp [Y_L_whole, Z_L_whole, findM] at hx,
      fun k c hx => by simp [Y_L_whole, Z_L_whole, findM] at hx,
      fun c hx => by simp [Y_L_whole, Z_L_whole] at hx,
      fun k x hx => by simp [Y_L_whole, Z_L_whole, findM] at hx,
      fun k x ks pm hx => by simp [Y_L_whole, Z_L_whole, findM] at hx⟩ ck_L_whole (by decide) (fun _ _ z => z)
  have ok22 : FnOk P w K mg base CX0 2 f22 _ ["_law_low", "_law_by_name"] (spF K F_L_cells) :=
    fn_ok (Y := Y_L_cells) Fn22 sc_L_cells ⟨fun i x hx => by
      simp only [Y_L_cells, Z_L_cells, List.mem_cons, List.not_mem_nil, or_false, Prod.mk.injEq] at hx
      rcases hx with ⟨rfl, rfl⟩ | ⟨rfl, rfl⟩
      · exact ⟨f0, _, _, PySem.W.mg_of X G a0, k0, b0, ok0.mono (by decide)⟩
      · exact ⟨f10, _, _, PySem.W.mg_of X G a10, k10, b10, ok10.mono (by decide)⟩,
      fun k x hx => by simp [Y_L_cells, Z_L_cells, findM] at hx,
      hb, fun hz => by simp [Y_L_cells] at hz,
      fun c f hx => by simp [Y_L_cells, Z_L_cells, findM] at hx,
      fun c m k hx => by simp [Y_L_cells, Z_L_cells, findM] at hx,
      fun c m k hx => by simp [Y_L_cells, Z_L_cells, findM] at hx,
      fun k c hx => by simp [Y_L_cells, Z_L_cells, findM] at hx,
      fun c hx => by simp [Y_L_cells, Z_L_cells] at hx,
      fun k x hx => by simp [Y_L_cells, Z_L_cells, findM] at hx,
      fun k x ks pm hx => by
      simp only [Y_L_cells, Z_L_cells, List.mem_cons, List.not_mem_nil, or_false, Prod.mk.injEq] at hx
      obtain ⟨rfl, rfl, rfl, rfl⟩ := hx
      · exact kw_at (PySem.W.mg_of X G a0) k0 (fun s ws hl => match ws, hl with | [_], _ => .of_eq rfl) (ok0.mono (by decide))⟩ ck_L_cells (by decide) (fun _ _ z => z)
  have ok4 : FnOk P w K mg base CX0 1 f4 _ ["one", "chosen"] (spF K F_freed) :=
    fn_ok (Y := Y_freed) Fn4 sc_freed ⟨fun i x hx => by simp [Y_freed, Z_freed, findM] at hx,
      fun k x hx => by simp [Y_freed, Z_freed, findM] at hx,
      hb, fun hz => by simp [Y_freed] at hz,
      fun c f hx => by simp [Y_freed, Z_freed, findM] at hx,
      fun c m k hx => by simp [Y_freed, Z_freed, findM] at hx,
      fun c m k hx => by simp [Y_freed, Z_freed, findM] at hx,
      fun k c hx => by simp [Y_freed, Z_freed, findM] at hx,
      fun c hx => by simp [Y_freed, Z_freed] at hx,
      fun k x hx => by simp [Y_freed, Z_freed, findM] at hx,
      fun k x ks pm hx => by simp [Y_freed, Z_freed, findM] at hx⟩ ck_freed (by decide) (fun _ _ z => z)
  have ok5 : FnOk P w K mg base CX0 1 f5 _ ["one", "chosen"] (spF K F_kept_at) :=
    fn_ok (Y := Y_kept_at) Fn5 sc_kept_at ⟨fun i x hx => by simp [Y_kept_at, Z_kept_at, findM] at hx,
      fun k x hx => by simp [Y_kept_at, Z_kept_at, findM] at hx,
      hb, fun hz => by simp [Y_kept_at] at hz,
      fun c f hx => by simp [Y_kept_at, Z_kept_at, findM] at hx,
      fun c m k hx => by simp [Y_kept_at, Z_kept_at, findM] at hx,
      fun c m k hx => by simp [Y_kept_at, Z_kept_at, findM] at hx,
      fun k c hx => by simp [Y_kept_at, Z_kept_at, findM] at hx,
      fun c hx => by simp [Y_kept_at, Z_kept_at] at hx,
      fun k x hx => by simp [Y_kept_at, Z_kept_at, findM] at hx,
      fun k x ks pm hx => by simp [Y_kept_at, Z_kept_at, findM] at hx⟩ ck_kept_at (by decide) (fun _ _ z => z)
  have ok23 : FnOk P w K mg base CX0 2 f23 _ ["_law_low", "_law_picked", "_law_by_name"] (spF K F_L_chosen) :=
    fn_ok (Y := Y_L_chosen) Fn23 sc_L_chosen ⟨fun i x hx => by
      simp only [Y_L_chosen, Z_L_chosen, List.mem_cons, List.not_mem_nil, or_false, Prod.mk.injEq] at hx
      rcases hx with ⟨rfl, rfl⟩ | ⟨rfl, rfl⟩
      · exact ⟨f4, _, _, PySem.W.mg_of X G a4, k4, b4, ok4.mono (by decide)⟩
      · exact ⟨f5, _, _, PySem.W.mg_of X G a5, k5, b5, ok5.mono (by decide)⟩,
      fun k x hx => by simp [Y_L_chosen, Z_L_chosen, findM] at hx,
      hb, fun hz => by simp [Y_L_chosen] at hz,
      fun c f hx => by simp [Y_L_chosen, Z_L_chosen, findM] at hx,
      fun c m k hx => by simp [Y_L_chosen, Z_L_chosen, findM] at hx,
      fun c m k hx => by simp [Y_L_chosen, Z_L_chosen, findM] at hx,
      fun k c hx => by simp [Y_L_chosen, Z_L_chosen, findM] at hx,
      fun c hx => by simp [Y_L_chosen, Z_L_chosen] at hx,
      fun k x hx => by simp [Y_L_chosen, Z_L_chosen, findM] at hx,
      fun k x ks pm hx => by
      simp only [Y_L_chosen, Z_L_chosen, List.mem_cons, List.not_mem_nil, or_false, Prod.mk.injEq] at hx
      rcases hx with ⟨rfl, rfl, rfl, rfl⟩ | ⟨rfl, rfl, rfl, rfl⟩
      · exact kw_at (PySem.W.mg_of X G a4) k4 (fun s ws hl => match ws, hl with | [_, _], _ => .of_eq rfl) (ok4.mono (by decide))
      · exact kw_at (PySem.W.mg_of X G a5) k5 (fun s ws hl => match ws, hl with | [_, _], _ => .of_eq rfl) (ok5.mono (by decide))⟩ ck_L_chosen (by decide) (fun _ _ z => z)
  have ok7 : FnOk P w K mg base CX0 1 f7 _ ["one"] (spF K F_filled) := repl_ok Fn7 sc_filled ck_filled (by decide) (by decide +kernel) (by decide +kernel) (by decide +kernel) (by decide +kernel)
  have ok6 : FnOk P w K mg base CX0 1 f6 _ ["size"] (spF K F_empty_layer) :=
    fn_ok (Y := Y_empty_layer) Fn6 sc_empty_layer ⟨fun i x hx => by simp [Y_empty_layer, Z_empty_layer, findM] at hx,
      fun k x hx => by simp [Y_empty_layer, Z_empty_layer, findM] at hx,
      hb, fun hz => by simp [Y_empty_layer] at hz,
      fun c f hx => by simp [Y_empty_layer, Z_empty_layer, findM] at hx,
      fun c m k hx => by simp [Y_empty_layer, Z_empty_layer, findM] at hx,
      fun c m k hx => by simp [Y_empty_layer, Z_empty_layer, findM] at hx,
      fun k c hx => by simp [Y_empty_layer, Z_empty_layer, findM] at hx,
      fun c hx => by simp [Y_empty_layer, Z_empty_layer] at hx,
      fun k x hx => by simp [Y_empty_layer, Z_empty_layer, findM] at hx,
      fun k x ks pm hx => by simp [Y_empty_layer, Z_empty_layer, findM] at hx⟩ ck_empty_layer (by decide) (fun _ _ z => z)
  have ok24 : FnOk P w K mg base CX0 2 f24 _ ["_law_low", "_law_wide", "_law_by_name"] (spF K F_L_alone) :=
    fn_ok (Y := Y_L_alone) Fn24 sc_L_alone ⟨fun i x hx => by
      simp only [Y_L_alone, Z_L_alone, List.mem_cons, List.not_mem_nil, or_false, Prod.mk.injEq] at hx
      rcases hx with ⟨rfl, rfl⟩ | ⟨rfl, rfl⟩
      · exact ⟨f6, _, _, PySem.W.mg_of X G a6, k6, b6, ok6.mono (by decide)⟩
      · exact ⟨f7, _, _, PySem.W.mg_of X G a7, k7, b7, ok7.mono (by decide)⟩,
      fun k x hx => by simp [Y_L_alone, Z_L_alone, findM] at hx,
      hb, fun hz => by simp [Y_L_alone] at hz,
      fun c f hx => by simp [Y_L_alone, Z_L_alone, findM] at hx,
      fun c m k hx => by simp [Y_L_alone, Z_L_alone, findM] at hx,
      fun c m k hx => by simp [Y_L_alone, Z_L_alone, findM] at hx,
      fun k c hx => by simp [Y_L_alone, Z_L_alone, findM] at hx,
      fun c hx => by simp [Y_L_alone, Z_L_alone] at hx,
      fun k x hx => by simp [Y_L_alone, Z_L_alone, findM] at hx,
      fun k x ks pm hx => by
      simp only [Y_L_alone, Z_L_alone, List.mem_cons, List.not_mem_nil, or_false, Prod.mk.injEq] at hx
      rcases hx with ⟨rfl, rfl, rfl, rfl⟩ | ⟨rfl, rfl, rfl, rfl⟩
      · exact kw_at (PySem.W.mg_of X G a7) k7 (fun s ws hl => match ws, hl with | [_], _ => .of_eq rfl) (ok7.mono (by decide))
      · exact kw_at (PySem.W.mg_of X G a6) k6 (fun s ws hl => match ws, hl with | [_], _ => .of_eq rfl) (ok6.mono (by decide))⟩ ck_L_alone (by decide) (fun _ _ z => z)
  have ok25 : FnOk P w K mg base CX0 1 f25 _ ["_law_low", "_law_high"] (spF K F_L_press) :=
    fn_ok (Y := Y_L_press) Fn25 sc_L_press ⟨fun i x hx => by simp [Y_L_press, Z_L_press, findM] at hx,
      fun k x hx => by simp [Y_L_press, Z_L_press, findM] at hx,
      hb, fun hz => by simp [Y_L_press] at hz,
      fun c f hx => by simp [Y_L_press, Z_L_press, findM] at hx,
      fun c m k hx => by simp [Y_L_press, Z_L_press, findM] at hx,
      fun c m k hx => by simp [Y_L_press, Z_L_press, findM] at hx,
      fun k c hx => by simp [Y_L_press, Z_L_press, findM] at hx,
      fun c hx => by simp [Y_L_press, Z_L_press] at hx,
      fun k x hx => by simp [Y_L_press, Z_L_press, findM] at hx,
      fun k x ks pm hx => by simp [Y_L_press, Z_L_press, findM] at hx⟩ ck_L_press (by decide) (fun _ _ z => z)
  have ok26 : FnOk P w K mg base CX0 2 f26 _ ["_law_low", "_law_high"] (spF K F_L_told) :=
    fn_ok (Y := Y_L_told) Fn26 sc_L_told ⟨fun i x hx => by
      simp only [Y_L_told, Z_L_told, List.mem_cons, List.not_mem_nil, or_false, Prod.mk.injEq] at hx
      rcases hx with ⟨rfl, rfl⟩ | ⟨rfl, rfl⟩
      · exact ⟨f9, _, _, PySem.W.mg_of X G a9, k9, b9, ok9.mono (by decide)⟩
      · exact ⟨f25, _, _, PySem.W.mg_of X G a25, k25, b25, ok25.mono (by decide)⟩,
      fun k x hx => by simp [Y_L_told, Z_L_told, findM] at hx,
      hb, fun hz => by simp [Y_L_told] at hz,
      fun c f hx => by simp [Y_L_told, Z_L_told, findM] at hx,
      fun c m k hx => by simp [Y_L_told, Z_L_told, findM] at hx,
      fun c m k hx => by simp [Y_L_told, Z_L_told, findM] at hx,
      fun k c hx => by simp [Y_L_told, Z_L_told, findM] at hx,
      fun c hx => by simp [Y_L_told, Z_L_told] at hx,
      fun k x hx => by simp [Y_L_told, Z_L_told, findM] at hx,
      fun k x ks pm hx => by simp [Y_L_told, Z_L_told, findM] at hx⟩ ck_L_told (by decide) (fun _ _ z => z)
  have ok27 : FnOk P w K mg base CX0 3 f27 _ ["_law_first", "_law_layers_here"] (spF K F_L_presses_right) :=
    fn_ok (Y := Y_L_presses_right) Fn27 sc_L_presses_right ⟨fun i x hx => by
      simp only [Y_L_presses_right, Z_L_presses_right, List.mem_cons, List.not_mem_nil, or_false, Prod.mk.injEq] at hx
      rcases hx with ⟨rfl, rfl⟩ | ⟨rfl, rfl⟩ | ⟨rfl, rfl⟩
      · exact ⟨f9, _, _, PySem.W.mg_of X G a9, k9, b9, ok9.mono (by decide)⟩
      · exact ⟨f25, _, _, PySem.W.mg_of X G a25, k25, b25, ok25.mono (by decide)⟩
      · exact ⟨f26, _, _, PySem.W.mg_of X G a26, k26, b26, ok26.mono (by decide)⟩,
      fun k x hx => by simp [Y_L_presses_right, Z_L_presses_right, findM] at hx,
      hb, fun hz => by simp [Y_L_presses_right] at hz,
      fun c f hx => by simp [Y_L_presses_right, Z_L_presses_right, findM] at hx,
      fun c m k hx => by simp [Y_L_presses_right, Z_L_presses_right, findM] at hx,
      fun c m k hx => by simp [Y_L_presses_right, Z_L_presses_right, findM] at hx,
      fun k c hx => by simp [Y_L_presses_right, Z_L_presses_right, findM] at hx,
      fun c hx => by simp [Y_L_presses_right, Z_L_presses_right] at hx,
      fun k x hx => by simp [Y_L_presses_right, Z_L_presses_right, findM] at hx,
      fun k x ks pm hx => by
      simp only [Y_L_presses_right, Z_L_presses_right, List.mem_cons, List.not_mem_nil, or_false, Prod.mk.injEq] at hx
      obtain ⟨rfl, rfl, rfl, rfl⟩ := hx
      · exact kw_at (PySem.W.mg_of X G a9) k9 (fun s ws hl => match ws, hl with | [_, _], _ => .of_eq rfl) (ok9.mono (by decide))⟩ ck_L_presses_right (by decide) (fun _ _ z => z)
  have ok28 : FnOk P w K mg base CX0 1 f28 _ ["_law_low", "_law_high"] (spF K F_L_before) :=
    fn_ok (Y := Y_L_before) Fn28 sc_L_before ⟨fun i x hx => by simp [Y_L_before, Z_L_before, findM] at hx,
      fun k x hx => by simp [Y_L_before, Z_L_before, findM] at hx,
      hb, fun hz => by simp [Y_L_before] at hz,
      fun c f hx => by simp [Y_L_before, Z_L_before, findM] at hx,
      fun c m k hx => by simp [Y_L_before, Z_L_before, findM] at hx,
      fun c m k hx => by simp [Y_L_before, Z_L_before, findM] at hx,
      fun k c hx => by simp [Y_L_before, Z_L_before, findM] at hx,
      fun c hx => by simp [Y_L_before, Z_L_before] at hx,
      fun k x hx => by simp [Y_L_before, Z_L_before, findM] at hx,
      fun k x ks pm hx => by simp [Y_L_before, Z_L_before, findM] at hx⟩ ck_L_before (by decide) (fun _ _ z => z)
  have ok29 : FnOk P w K mg base CX0 2 f29 _ ["_law_found", "_law_layers_here"] (spF K F_L_ordered) :=
    fn_ok (Y := Y_L_ordered) Fn29 sc_L_ordered ⟨fun i x hx => by
      simp only [Y_L_ordered, Z_L_ordered, List.mem_cons, List.not_mem_nil, or_false, Prod.mk.injEq] at hx
      obtain ⟨rfl, rfl⟩ := hx
      · exact ⟨f28, _, _, PySem.W.mg_of X G a28, k28, b28, ok28.mono (by decide)⟩,
      fun k x hx => by simp [Y_L_ordered, Z_L_ordered, findM] at hx,
      hb, fun hz => by simp [Y_L_ordered] at hz,
      fun c f hx => by simp [Y_L_ordered, Z_L_ordered, findM] at hx,
      fun c m k hx => by simp [Y_L_ordered, Z_L_ordered, findM] at hx,
      fun c m k hx => by simp [Y_L_ordered, Z_L_ordered, findM] at hx,
      fun k c hx => by simp [Y_L_ordered, Z_L_ordered, findM] at hx,
      fun c hx => by simp [Y_L_ordered, Z_L_ordered] at hx,
      fun k x hx => by simp [Y_L_ordered, Z_L_ordered, findM] at hx,
      fun k x ks pm hx => by simp [Y_L_ordered, Z_L_ordered, findM] at hx⟩ ck_L_ordered (by decide) (fun _ _ z => z)
  have ok8 : FnOk P w K mg base CX0 1 f8 _ ["one"] (spF K F_layer_order) :=
    fn_ok (Y := Y_layer_order) Fn8 sc_layer_order ⟨fun i x hx => by simp [Y_layer_order, Z_layer_order, findM] at hx,
      fun k x hx => by
      simp only [Y_layer_order, Z_layer_order, List.mem_cons, List.not_mem_nil, or_false, Prod.mk.injEq] at hx
      obtain ⟨rfl, rfl⟩ := hx
      · exact ⟨_, .str (mkS [45, 46, 97, 98, 99, 100, 101, 102, 103, 104, 105, 106, 107, 108, 109, 110, 111, 112, 113, 114, 115, 116, 117, 118, 119, 120, 121, 122]), _, PySem.W.mg_of X G gk0, ⟨_, rfl⟩, rfl, fun G => by simp only [Den]⟩,
      hb, fun hz => by simp [Y_layer_order] at hz,
      fun c f hx => by simp [Y_layer_order, Z_layer_order, findM] at hx,
      fun c m k hx => by simp [Y_layer_order, Z_layer_order, findM] at hx,
      fun c m k hx => by simp [Y_layer_order, Z_layer_order, findM] at hx,
      fun k c hx => by simp [Y_layer_order, Z_layer_order, findM] at hx,
      fun c hx => by simp [Y_layer_order, Z_layer_order] at hx,
      fun k x hx => by simp [Y_layer_order, Z_layer_order, findM] at hx,
      fun k x ks pm hx => by simp [Y_layer_order, Z_layer_order, findM] at hx⟩ ck_layer_order (by decide) (fun _ _ z => z)
  have ok30 : FnOk P w K mg base CX0 2 f30 _ ["_law_text"] (spF K F_L_key) :=
    fn_ok (Y := Y_L_key) Fn30 sc_L_key ⟨fun i x hx => by
      simp only [Y_L_key, Z_L_key, List.mem_cons, List.not_mem_nil, or_false, Prod.mk.injEq] at hx
      obtain ⟨rfl, rfl⟩ := hx
      · exact ⟨f8, _, _, PySem.W.mg_of X G a8, k8, b8, ok8.mono (by decide)⟩,
      fun k x hx => by simp [Y_L_key, Z_L_key, findM] at hx,
      hb, fun hz => by simp [Y_L_key] at hz,
      fun c f hx => by simp [Y_L_key, Z_L_key, findM] at hx,
      fun c m k hx => by simp [Y_L_key, Z_L_key, findM] at hx,
      fun c m k hx => by simp [Y_L_key, Z_L_key, findM] at hx,
      fun k c hx => by simp [Y_L_key, Z_L_key, findM] at hx,
      fun c hx => by simp [Y_L_key, Z_L_key] at hx,
      fun k x hx => by simp [Y_L_key, Z_L_key, findM] at hx,
      fun k x ks pm hx => by
      simp only [Y_L_key, Z_L_key, List.mem_cons, List.not_mem_nil, or_false, Prod.mk.injEq] at hx
      obtain ⟨rfl, rfl, rfl, rfl⟩ := hx
      · exact kw_at (PySem.W.mg_of X G a8) k8 (fun s ws hl => match ws, hl with | [_], _ => .of_eq rfl) (ok8.mono (by decide))⟩ ck_L_key (by decide) (fun _ _ z => z)
  have ok31 : FnOk P w K mg base CX0 5 f31 _ ["_law_layers_here"] (spF K F_L_sorted_right) :=
    fn_ok (Y := Y_L_sorted_right) Fn31 sc_L_sorted_right ⟨fun i x hx => by
      simp only [Y_L_sorted_right, Z_L_sorted_right, List.mem_cons, List.not_mem_nil, or_false, Prod.mk.injEq] at hx
      rcases hx with ⟨rfl, rfl⟩ | ⟨rfl, rfl⟩ | ⟨rfl, rfl⟩
      · exact ⟨f8, _, _, PySem.W.mg_of X G a8, k8, b8, ok8.mono (by decide)⟩
      · exact ⟨f29, _, _, PySem.W.mg_of X G a29, k29, b29, ok29.mono (by decide)⟩
      · exact ⟨f30, _, _, PySem.W.mg_of X G a30, k30, b30, ok30.mono (by decide)⟩,
      fun k x hx => by simp [Y_L_sorted_right, Z_L_sorted_right, findM] at hx,
      hb, fun hz => by simp [Y_L_sorted_right] at hz,
      fun c f hx => by simp [Y_L_sorted_right, Z_L_sorted_right, findM] at hx,
      fun c m k hx => by simp [Y_L_sorted_right, Z_L_sorted_right, findM] at hx,
      fun c m k hx => by simp [Y_L_sorted_right, Z_L_sorted_right, findM] at hx,
      fun k c hx => by simp [Y_L_sorted_right, Z_L_sorted_right, findM] at hx,
      fun c hx => by simp [Y_L_sorted_right, Z_L_sorted_right] at hx,
      fun k x hx => by
      simp only [Y_L_sorted_right, Z_L_sorted_right, List.mem_cons, List.not_mem_nil, or_false, Prod.mk.injEq] at hx
      rcases hx with ⟨rfl, rfl⟩ | ⟨rfl, rfl⟩
      · exact ⟨f8, _, _, 1, by decide, PySem.W.mg_of X G a8, b8, ok8⟩
      · exact ⟨f30, _, _, 2, by decide, PySem.W.mg_of X G a30, b30, ok30⟩,
      fun k x ks pm hx => by simp [Y_L_sorted_right, Z_L_sorted_right, findM] at hx⟩ ck_L_sorted_right (by decide) (fun _ _ z => z)
  have ok32 : FnOk P w K mg base CX0 6 fa _ ["_law_script"] (spF K F_law) :=
    fn_ok (Y := Y_law) Fn32 sc_law ⟨fun i x hx => by
      simp only [Y_law, Z_law, List.mem_cons, List.not_mem_nil, or_false, Prod.mk.injEq] at hx
      rcases hx with ⟨rfl, rfl⟩ | ⟨rfl, rfl⟩ | ⟨rfl, rfl⟩ | ⟨rfl, rfl⟩ | ⟨rfl, rfl⟩ | ⟨rfl, rfl⟩ | ⟨rfl, rfl⟩ | ⟨rfl, rfl⟩ | ⟨rfl, rfl⟩ | ⟨rfl, rfl⟩ | ⟨rfl, rfl⟩ | ⟨rfl, rfl⟩
      · exact ⟨f12, _, _, PySem.W.mg_of X G a12, k12, b12, ok12.mono (by decide)⟩
      · exact ⟨f13, _, _, PySem.W.mg_of X G a13, k13, b13, ok13.mono (by decide)⟩
      · exact ⟨f14, _, _, PySem.W.mg_of X G a14, k14, b14, ok14.mono (by decide)⟩
      · exact ⟨f15, _, _, PySem.W.mg_of X G a15, k15, b15, ok15.mono (by decide)⟩
      · exact ⟨f17, _, _, PySem.W.mg_of X G a17, k17, b17, ok17.mono (by decide)⟩
      · exact ⟨f19, _, _, PySem.W.mg_of X G a19, k19, b19, ok19.mono (by decide)⟩
      · exact ⟨f21, _, _, PySem.W.mg_of X G a21, k21, b21, ok21.mono (by decide)⟩
      · exact ⟨f22, _, _, PySem.W.mg_of X G a22, k22, b22, ok22.mono (by decide)⟩
      · exact ⟨f23, _, _, PySem.W.mg_of X G a23, k23, b23, ok23.mono (by decide)⟩
      · exact ⟨f24, _, _, PySem.W.mg_of X G a24, k24, b24, ok24.mono (by decide)⟩
      · exact ⟨f27, _, _, PySem.W.mg_of X G a27, k27, b27, ok27.mono (by decide)⟩
      · exact ⟨f31, _, _, PySem.W.mg_of X G a31, k31, b31, ok31.mono (by decide)⟩,
      fun k x hx => by simp [Y_law, Z_law, findM] at hx,
      hb, fun hz => by simp [Y_law] at hz,
      fun c f hx => by simp [Y_law, Z_law, findM] at hx,
      fun c m k hx => by simp [Y_law, Z_law, findM] at hx,
      fun c m k hx => by simp [Y_law, Z_law, findM] at hx,
      fun k c hx => by simp [Y_law, Z_law, findM] at hx,
      fun c hx => by simp [Y_law, Z_law] at hx,
      fun k x hx => by simp [Y_law, Z_law, findM] at hx,
      fun k x ks pm hx => by simp [Y_law, Z_law, findM] at hx⟩ ck_law (by decide) (fun _ _ z => z)
  exact ok32
theorem walk {l : PySem.W.OpenLaw} {q : Program} {loose : List Str} {XP : (Str → Option Value) → Heap → Prop} {YP : World → Heap → Prop} {d : DefRec} {K : Params → PySem.W.Frag} (hn : l.most = some 63) (hdf : d.params.defaults = [])
    (hY : ∀ (w : World) (h : Heap), YP w h → (K w.params).In h)
    (F : ∀ (w : World) (mg : Str → Option Value) (fa : Addr) (h : Heap), (K w.params).In h → h.Ns mainGlobals mg → mg d.name = some (.ref fa) →
      ∃ fd : FuncData, (∀ (s : Shared) (u : Value), BindsTo s fd ⟨[u], []⟩ [("_law_script", u)]) ∧ ∀ base : Heap, (K w.params).In base → base.Ns mainGlobals mg → FnOk l.prog w (K w.params) mg base CX0 6 fa fd ["_law_script"] (spF (K w.params) F_law)) :
    PySem.W.WalkO q loose XP YP l.row.toRowW d [] (fun f vs => PySem.call f vs) :=
  L2.walk_of (n := 63) (k := 6) (x := "_law_script") (CX := fun _ => CX0) (sp := fun w => spF (K w.params) F_law) hn (by decide) hdf ⟨rfl, by decide, by decide⟩ hY F
    (fun _ H a ns hl _ hS => ⟨[.scr ns], .bl true, H, Sub.refl H, by simp only [DenL, Den]; exact ⟨_, _, rfl, ⟨a, rfl, hS⟩, rfl⟩, main ns hl, fun v G' H' _ _ _ _ dv => by simpa only [Den] using dv⟩) fun _ _ _ _ _ z => z
end K01
open PySem PySem.W PyProof.Rows
set_option maxRecDepth 100000 in
set_option maxHeartbeats 0 in
theorem PySem.Challenge.cw_stampsheets_k01_layers_combined_holds : PySem.Challenge.rw_stampsheets_k01_layers_combined.Holds := by
  w_on; o_law; k_head; (case hw => w_witness2)
  k_fill
  refine K01.walk (l := PySem.Challenge.rw_stampsheets_k01_layers_combined) rfl rfl (fun w h Y => PySem.W.kIn_of Y) ?F
  case F =>
    intro w mg fa h KX G hmg
    refine' K01.all_mk KX G hmg ?a11 ?l11 ?c11 ?k11 ?a12 ?l12 ?c12 ?k12 ?a13 ?l13 ?c13 ?k13 ?a14 ?l14 ?c14 ?k14 ?a15 ?l15 ?c15 ?k15 ?a16 ?l16 ?c16 ?k16 ?a17 ?l17 ?c17 ?k17 ?a18 ?l18 ?c18 ?k18 ?a19 ?l19 ?c19 ?k19 ?a1 ?l1 ?c1 ?k1 ?a2 ?l2 ?c2 ?k2 ?a9 ?l9 ?c9 ?k9 ?a3 ?l3 ?c3 ?k3 ?a20 ?l20 ?c20 ?k20 ?a21 ?l21 ?c21 ?k21 ?a0 ?l0 ?c0 ?k0 ?a10 ?l10 ?c10 ?k10 ?a22 ?l22 ?c22 ?k22 ?a4 ?l4 ?c4 ?k4 ?a5 ?l5 ?c5 ?k5 ?a23 ?l23 ?c23 ?k23 ?a7 ?l7 ?c7 ?k7 ?a6 ?l6 ?c6 ?k6 ?a24 ?l24 ?c24 ?k24 ?a25 ?l25 ?c25 ?k25 ?a26 ?l26 ?c26 ?k26 ?a27 ?l27 ?c27 ?k27 ?a28 ?l28 ?c28 ?k28 ?a29 ?l29 ?c29 ?k29 ?a8 ?l8 ?c8 ?k8 ?a30 ?l30 ?c30 ?k30 ?a31 ?l31 ?c31 ?k31 ?a32 ?l32 ?c32 ?k32 ?z0 ?z1 ?z2 ?z3 ?z4 ?z5 ?z6 ?z7 ?z8 ?z9 ?z10 ?gk0
    (case a11 => k_is)
    (case l11 => k_is)
    (case c11 => k_is)
    (case k11 => k_is)
    (case a12 => k_is)
    (case l12 => k_is)
    (case c12 => k_is)
    (case k12 => k_is)
    (case a13 => k_is)
    (case l13 => k_is)
    (case c13 => k_is)
    (case k13 => k_is)
    (case a14 => k_is)
    (case l14 => k_is)
    (case c14 => k_is)
    (case k14 => k_is)
    (case a15 => k_is)
    (case l15 => k_is)
    (case c15 => k_is)
    (case k15 => k_is)
    (case a16 => k_is)
    (case l16 => k_is)
    (case c16 => k_is)
    (case k16 => k_is)
    (case a17 => k_is)
    (case l17 => k_is)
    (case c17 => k_is)
    (case k17 => k_is)
    (case a18 => k_is)
    (case l18 => k_is)
    (case c18 => k_is)
    (case k18 => k_is)
    (case a19 => k_is)
    (case l19 => k_is)
    (case c19 => k_is)
    (case k19 => k_is)
    (case a1 => k_is)
    (case l1 => k_is)
    (case c1 => k_is)
    (case k1 => k_is)
    (case a2 => k_is)
    (case l2 => k_is)
    (case c2 => k_is)
    (case k2 => k_is)
    (case a9 => k_is)
    (case l9 => k_is)
    (case c9 => k_is)
    (case k9 => k_is)
    (case a3 => k_is)
    (case l3 => k_is)
    (case c3 => k_is)
    (case k3 => k_is)
    (case a20 => k_is)
    (case l20 => k_is)
    (case c20 => k_is)
    (case k20 => k_is)
    (case a21 => k_is)
    (case l21 => k_is)
    (case c21 => k_is)
    (case k21 => k_is)
    (case a0 => k_is)
    (case l0 => k_is)
    (case c0 => k_is)
    (case k0 => k_is)
    (case a10 => k_is)
    (case l10 => k_is)
    (case c10 => k_is)
    (case k10 => k_is)
    (case a22 => k_is)
    (case l22 => k_is)
    (case c22 => k_is)
    (case k22 => k_is)
    (case a4 => k_is)
    (case l4 => k_is)
    (case c4 => k_is)
    (case k4 => k_is)
    (case a5 => k_is)
    (case l5 => k_is)
    (case c5 => k_is)
    (case k5 => k_is)
    (case a23 => k_is)
    (case l23 => k_is)
    (case c23 => k_is)
    (case k23 => k_is)
    (case a7 => k_is)
    (case l7 => k_is)
    (case c7 => k_is)
    (case k7 => k_is)
    (case a6 => k_is)
    (case l6 => k_is)
    (case c6 => k_is)
    (case k6 => k_is)
    (case a24 => k_is)
    (case l24 => k_is)
    (case c24 => k_is)
    (case k24 => k_is)
    (case a25 => k_is)
    (case l25 => k_is)
    (case c25 => k_is)
    (case k25 => k_is)
    (case a26 => k_is)
    (case l26 => k_is)
    (case c26 => k_is)
    (case k26 => k_is)
    (case a27 => k_is)
    (case l27 => k_is)
    (case c27 => k_is)
    (case k27 => k_is)
    (case a28 => k_is)
    (case l28 => k_is)
    (case c28 => k_is)
    (case k28 => k_is)
    (case a29 => k_is)
    (case l29 => k_is)
    (case c29 => k_is)
    (case k29 => k_is)
    (case a8 => k_is)
    (case l8 => k_is)
    (case c8 => k_is)
    (case k8 => k_is)
    (case a30 => k_is)
    (case l30 => k_is)
    (case c30 => k_is)
    (case k30 => k_is)
    (case a31 => k_is)
    (case l31 => k_is)
    (case c31 => k_is)
    (case k31 => k_is)
    (case a32 => k_is)
    (case l32 => k_is)
    (case c32 => k_is)
    (case k32 => k_is)
    (case z0 => k_is)
    (case z1 => k_is)
    (case z2 => k_is)
    (case z3 => k_is)
    (case z4 => k_is)
    (case z5 => k_is)
    (case z6 => k_is)
    (case z7 => k_is)
    (case z8 => k_is)
    (case z9 => k_is)
    (case z10 => k_is)
    (case gk0 => k_is)
#print axioms PySem.Challenge.cw_stampsheets_k01_layers_combined_holds
