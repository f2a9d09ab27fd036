import PyProof.Rows.All
import Wide.All
import OpenK.AllK
import Wide.FinOn
import HandS.ForMost
import HandS.Exc
import HandS.ExcOwn
import HandS.TryOnly
import HandS.WordsExc
import HandS.Wide
import HandS.WideBits
import HandS.Defaults
import HandS.IsInst
import HandS.Deep
import HandS.Conv
import HandS.TupAny
import HandS.Zip
import HandS.Style
import HandS.More
import HandS.NoneIn
import HandS.Head0
import HandS.Head1
import HandS.Head2
import HandS.HeadEnd
import HandS.HeadHook1
import HandS.HeadHook2
import HandS.EndBits
import HandS.Text
import HandS.SortInts
import PySem.Challenge.RW_hedgewright_k03_amounts_and_signs
set_option Elab.async false
set_option linter.all false
set_option maxRecDepth 100000
set_option maxHeartbeats 8000000
set_option exponentiation.threshold 20000
/-! The data layer: over the hand layer's judgements, readings that speak of plain data alone. -/
namespace DL
open PySem PySem.Spec PyProof.Rows L2

abbrev D := PyData
/-! ### what steps by itself -/
def bifP (t : Bool) (A B : Prop) : Prop := match t with
  | true => A
  | false => B
theorem bif_dec {c : Prop} [Decidable c] {A B : Prop} (h1 : c → A) (h2 : ¬ c → B) : bifP (decide c) A B := by
  by_cases h : c
  · rw [decide_eq_true h]; exact h1 h
  · rw [decide_eq_false h]; exact h2 h
theorem bif_bool {t : Bool} {A B : Prop} (h1 : t = true → A) (h2 : t = false → B) : bifP t A B := by
  cases t with
  | true => exact h1 rfl
  | false => exact h2 rfl
theorem bif_true {t : Bool} {A B : Prop} (e : t = true) (h : A) : bifP t A B := by rw [e]; exact h
theorem bif_false {t : Bool} {A B : Prop} (e : t = false) (h : B) : bifP t A B := by rw [e]; exact h
theorem bif_mono {t : Bool} {A B A' B' : Prop} (h1 : A → A') (h2 : B → B') (q : bifP t A B) : bifP t A' B' := by
  cases t with
  | true => exact h1 q
  | false => exact h2 q
def optK {α : Type} (o : Option α) (F : α → Prop) : Prop := match o with
  | some a => F a
  | none => False
theorem optK_get {α : Type} {o : Option α} {F : α → Prop} (h : optK o F) : ∃ a, o = some a ∧ F a := by
  cases o with
  | none => exact h.elim
  | some a => exact ⟨a, rfl, h⟩
theorem optK_some {α : Type} {o : Option α} {F : α → Prop} {a : α} (e : o = some a) (h : F a) : optK o F := by rw [e]; exact h
theorem optK_mono {α : Type} {o : Option α} {F F' : α → Prop} (h : ∀ a, F a → F' a) (q : optK o F) : optK o F' := by
  cases o with
  | none => exact q
  | some a => exact h a q
/-! ### data over a heap -/
theorem Same.seqT {K : PySem.W.Frag} {H H' : Hp} {a : Addr} {xs : List V} (e : Same H H') (h : SqT K H a xs) : SqT K H' a xs := by
  rcases h with (h | ⟨o, h⟩) | h
  · exact .inl (.inl (e _ _ h))
  · exact .inl (.inr ⟨o, e _ _ h⟩)
  · exact .inr h
mutual
/-- a value that is data in H: lists as they were made, tuples made or written -/
inductive Dt (K : PySem.W.Frag) (H : Hp) : V → PyData → Prop
  | non : Dt K H .non .none
  | bl (b : Bool) : Dt K H (.bl b) (.bool b)
  | int (i : Int) : Dt K H (.int i) (.int i)
  | str (x : Str) : Dt K H (.str x) (.str x)
  | lst {a : Addr} {xs : List V} {ds : List PyData} : Rd H a (.lst xs) → Dts K H xs ds → Dt K H (.ref a) (.list ds)
  | tup {a : Addr} {xs : List V} {ds : List PyData} : SqT K H a xs → Dts K H xs ds → Dt K H (.ref a) (.tuple ds)
inductive Dts (K : PySem.W.Frag) (H : Hp) : List V → List PyData → Prop
  | nil : Dts K H [] []
  | cons {v : V} {vs : List V} {d : PyData} {ds : List PyData} : Dt K H v d → Dts K H vs ds → Dts K H (v :: vs) (d :: ds)
end
theorem Same.rd {H H' : Hp} {a : Addr} {o : HO} (e : Same H H') (h : Rd H a o) : Rd H' a o := by
  rcases h with h | ⟨u, h⟩
  · exact .inl (e _ _ h)
  · exact .inr ⟨u, e _ _ h⟩
theorem sql_of_rd {K : PySem.W.Frag} {H : Hp} {a : Addr} {xs : List V} (h : Rd H a (.lst xs)) : SqL K H a xs := .inl h
mutual
theorem dp_mono {K : PySem.W.Frag} {H H' : Hp} (e : Same H H') : ∀ {v : V} {d : D}, Dt K H v d → Dt K H' v d
  | _, _, .non => .non
  | _, _, .bl b => .bl b
  | _, _, .int i => .int i
  | _, _, .str x => .str x
  | _, _, .lst h ha => .lst (Same.rd e h) (dpa_mono e ha)
  | _, _, .tup h ha => .tup (Same.seqT e h) (dpa_mono e ha)
theorem dpa_mono {K : PySem.W.Frag} {H H' : Hp} (e : Same H H') : ∀ {vs : List V} {ds : List D}, Dts K H vs ds → Dts K H' vs ds
  | _, _, .nil => .nil
  | _, _, .cons h ha => .cons (dp_mono e h) (dpa_mono e ha)
end
mutual
theorem Dt.dp {K : PySem.W.Frag} {H : Hp} : ∀ {v : V} {d : D}, Dt K H v d → Dp K H v d
  | _, _, .non => .non
  | _, _, .bl b => .bl b
  | _, _, .int i => .int i
  | _, _, .str x => .str x
  | _, _, .lst h ha => .lst (sql_of_rd h) (Dts.dp ha)
  | _, _, .tup h ha => .tup h (Dts.dp ha)
theorem Dts.dp {K : PySem.W.Frag} {H : Hp} : ∀ {vs : List V} {ds : List D}, Dts K H vs ds → DpAll K H vs ds
  | _, _, .nil => .nil
  | _, _, .cons h ha => .cons (Dt.dp h) (Dts.dp ha)
end
theorem dpa_length {K : PySem.W.Frag} {H : Hp} : ∀ {vs : List V} {ds : List D}, Dts K H vs ds → vs.length = ds.length
  | _, _, .nil => rfl
  | _, _, .cons _ h => congrArg (· + 1) (dpa_length h)
theorem dpa_get {K : PySem.W.Frag} {H : Hp} : ∀ {vs : List V} {ds : List D} {i : Nat} {d : D}, Dts K H vs ds → ds[i]? = some d → ∃ v, vs[i]? = some v ∧ Dt K H v d
  | _, _, 0, _, .cons h _, e => ⟨_, rfl, by cases e; exact h⟩
  | _, _, i + 1, d, .cons _ h, e => dpa_get (i := i) h e
  | _, _, _, _, .nil, e => by simp at e
theorem dpa_append {K : PySem.W.Frag} {H : Hp} : ∀ {vs ws : List V} {ds es : List D}, Dts K H vs ds → Dts K H ws es → Dts K H (vs ++ ws) (ds ++ es)
  | _, _, _, _, .nil, h => h
  | _, _, _, _, .cons a b, h => .cons a (dpa_append b h)
theorem dpa_take {K : PySem.W.Frag} {H : Hp} : ∀ {vs : List V} {ds : List D} (n : Nat), Dts K H vs ds → Dts K H (vs.take n) (ds.take n)
  | _, _, 0, _ => .nil
  | _, _, _ + 1, .nil => .nil
  | _, _, n + 1, .cons a b => .cons a (dpa_take n b)
theorem dpa_drop {K : PySem.W.Frag} {H : Hp} : ∀ {vs : List V} {ds : List D} (n : Nat), Dts K H vs ds → Dts K H (vs.drop n) (ds.drop n)
  | _, _, 0, h => h
  | _, _, _ + 1, .nil => .nil
  | _, _, n + 1, .cons _ b => dpa_drop n b
theorem dpa_set {K : PySem.W.Frag} {H : Hp} {v : V} {d : D} (h : Dt K H v d) : ∀ {vs : List V} {ds : List D} (i : Nat), Dts K H vs ds → Dts K H (vs.set i v) (ds.set i d)
  | _, _, _, .nil => .nil
  | _, _, 0, .cons _ b => .cons h b
  | _, _, i + 1, .cons a b => .cons a (dpa_set h i b)
theorem dpa_rev {K : PySem.W.Frag} {H : Hp} : ∀ {vs : List V} {ds : List D}, Dts K H vs ds → Dts K H vs.reverse ds.reverse
  | _, _, .nil => .nil
  | _, _, .cons a b => by
    rw [List.reverse_cons, List.reverse_cons]
    exact dpa_append (dpa_rev b) (.cons a .nil)
theorem dpa_dropLast {K : PySem.W.Frag} {H : Hp} {vs : List V} {ds : List D} (h : Dts K H vs ds) : Dts K H vs.dropLast ds.dropLast := by
  rw [List.dropLast_eq_take, List.dropLast_eq_take, dpa_length h]
  exact dpa_take _ h
theorem dpa_rep {K : PySem.W.Frag} {H : Hp} {vs : List V} {ds : List D} (h : Dts K H vs ds) : ∀ k : Nat, Dts K H (List.replicate k vs).flatten (List.replicate k ds).flatten
  | 0 => .nil
  | k + 1 => by
    rw [List.replicate_succ, List.replicate_succ, List.flatten_cons, List.flatten_cons]
    exact dpa_append h (dpa_rep h k)

/-! ### states -/
/-- an object that one slot alone holds -/
inductive MO where
  | lst (ds : List D)
/-- a slot: data; an object of the def's own; an object that the caller lent -/
inductive Sl where
  | sh (d : D) | ow (o : MO) | io (o : MO)
def Sl.put : Sl → MO → Sl
  | .io _, o => .io o
  | _, o => .ow o
abbrev DS := List (Option Sl)
def DS.get : DS → Nat → Option Sl
  | [], _ => none
  | a :: _, 0 => a
  | _ :: r, n + 1 => DS.get r n
theorem DS.get_eq : ∀ (δ : DS) (i : Nat) (s : Sl), δ.get i = some s ↔ δ[i]? = some (some s)
  | [], i, s => by simp [DS.get]
  | a :: r, 0, s => by simp [DS.get]
  | a :: r, i + 1, s => by simp only [DS.get]; rw [DS.get_eq r i s]; simp
theorem DS.get_set (δ : DS) (i j : Nat) (o : Option Sl) : DS.get (List.set δ i o) j = if i = j ∧ j < δ.length then o else δ.get j := by
  induction δ generalizing i j with
  | nil => simp [DS.get]
  | cons a r ih =>
    cases i with
    | zero =>
      cases j with
      | zero => simp [DS.get]
      | succ j => simp [DS.get]
    | succ i =>
      cases j with
      | zero => simp [DS.get]
      | succ j => simp [DS.get, ih]
theorem DS.get_lt {δ : DS} {i : Nat} {s : Sl} (h : δ.get i = some s) : i < δ.length := by
  have h2 := (DS.get_eq δ i s).mp h
  exact (List.getElem?_eq_some_iff.mp h2).1
/-- objects that are set aside, and data that stay -/
structure Hd where
  ls : List (Addr × HO)
  gb : Hp
/-- what a def's body is read over: the written part, heap and data part at the entry, the lent objects by slots -/
structure Ga where
  H0 : Hp
  G0 : Hp
  par : List (Nat × Addr)
def MOk (K : PySem.W.Frag) (G H : Hp) (p : Addr) : MO → Prop
  | .lst ds => ∃ vs, H p = some (.lst vs) ∧ Dts K G vs ds
/-- slot i holds the address p -/
def At (σ : L2.St) (i : Nat) (p : Addr) : Prop := σ[i]? = some (some (.ref p))
def SlOk (K : PySem.W.Frag) (Γ : Ga) (hid : Hd) (σ : L2.St) (H G : Hp) (i : Nat) : Sl → Prop
  | .sh d => ∃ v, σ[i]? = some (some v) ∧ Dt K G v d
  | .ow o => ∃ p, At σ i p ∧ G p = none ∧ Γ.H0 p = none ∧ (∀ q ∈ hid.ls, q.1 ≠ p) ∧ MOk K G H p o
  | .io o => ∃ p, At σ i p ∧ G p = none ∧ (i, p) ∈ Γ.par ∧ (∀ q ∈ hid.ls, q.1 ≠ p) ∧ MOk K G H p o
def Own (δ : DS) (i : Nat) : Prop := ∃ o, δ.get i = some (.ow o) ∨ δ.get i = some (.io o)
structure Rel (K : PySem.W.Frag) (Γ : Ga) (hid : Hd) (σ : L2.St) (H : Hp) (δ : DS) (G : Hp) : Prop where
  sub : Same G H
  ext : Same Γ.G0 G
  old : ∀ a, Γ.H0 a ≠ none → G a = Γ.G0 a
  fr : ∀ a o, Γ.H0 a = some o → (∀ q ∈ Γ.par, q.2 ≠ a) → H a = some o
  prs : ∀ q ∈ Γ.par, At σ q.1 q.2 ∧ Γ.H0 q.2 ≠ none ∧ ∃ o, δ.get q.1 = some (.io o)
  len : δ.length = σ.length
  sl : ∀ i s, δ.get i = some s → SlOk K Γ hid σ H G i s
  dist : ∀ i j p, Own δ i → Own δ j → At σ i p → At σ j p → i = j
  hds : ∀ q ∈ hid.ls, H q.1 = some q.2 ∧ G q.1 = none ∧ Γ.H0 q.1 = none
  gb : Same hid.gb G
/-- what a step may do to the heap beside the lent objects ps: new things, of which some are data -/
structure Grow (ps : List Addr) (H G H' G' : Hp) : Prop where
  same : ∀ a o, a ∉ ps → H a = some o → H' a = some o
  here : ∀ a, H a ≠ none → H' a ≠ none
  data : Same G G'
  sub : Same G' H'
  old : ∀ a, H a ≠ none → G' a = G a
theorem Grow.refl {H G : Hp} (h : Same G H) : Grow [] H G H G := ⟨fun _ _ _ h => h, fun _ h => h, Same.refl _, h, fun _ _ => rfl⟩
theorem Grow.trans {ps : List Addr} {H G H1 G1 H2 G2 : Hp} (a : Grow ps H G H1 G1) (b : Grow ps H1 G1 H2 G2) : Grow ps H G H2 G2 :=
  ⟨fun c o n h => b.same c o n (a.same c o n h), fun c h => b.here c (a.here c h), a.data.trans b.data, b.sub, fun c h => (b.old c (a.here c h)).trans (a.old c h)⟩
theorem ne_none_of {H : Hp} {a : Addr} {o : HO} (h : H a = some o) : H a ≠ none := by rw [h]; exact fun z => nomatch z
/-- a new object that is data -/
theorem Grow.new {H G : Hp} {p : Addr} {o : HO} (s : Same G H) (np : H p = none) : Grow [] H G (upd H p o) (upd G p o) := by
  refine ⟨fun a u _ h => by rw [upd_ne (ne_of_none h np)]; exact h, fun a h => ?_, fun a u h => ?_, fun a u h => ?_, fun a h => ?_⟩
  · by_cases e : a = p
    · rw [e, upd_same]; exact fun z => nomatch z
    · rw [upd_ne e]; exact h
  · rw [upd_ne (ne_of_none (s a u h) np)]; exact h
  · by_cases e : a = p
    · rw [e, upd_same] at h; rw [e, upd_same]; exact h
    · rw [upd_ne e] at h; rw [upd_ne e]; exact s a u h
  · by_cases e : a = p
    · rw [e] at h; exact absurd np h
    · rw [upd_ne e]
/-- a new object that is not data -/
theorem Grow.newO {H G : Hp} {p : Addr} {o : HO} (s : Same G H) (np : H p = none) : Grow [] H G (upd H p o) G := by
  refine ⟨fun a u _ h => by rw [upd_ne (ne_of_none h np)]; exact h, fun a h => ?_, Same.refl _, fun a u h => ?_, fun _ _ => rfl⟩
  · by_cases e : a = p
    · rw [e, upd_same]; exact fun z => nomatch z
    · rw [upd_ne e]; exact h
  · rw [upd_ne (ne_of_none (s a u h) np)]; exact s a u h
theorem MOk.mono {K : PySem.W.Frag} {G H G' H' : Hp} {p : Addr} {o : MO} (h : MOk K G H p o) (s : Same G G') (e : ∀ u, H p = some u → H' p = some u) : MOk K G' H' p o := by
  cases o with
  | lst ds =>
    obtain ⟨vs, h1, h2⟩ := h
    exact ⟨vs, e _ h1, dpa_mono s h2⟩
theorem MOk.here {K : PySem.W.Frag} {G H : Hp} {p : Addr} {o : MO} (h : MOk K G H p o) : H p ≠ none := by
  cases o with
  | lst ds =>
    obtain ⟨vs, h1, h2⟩ := h
    exact ne_none_of h1
section
variable {K : PySem.W.Frag} {Γ : Ga} {hid : Hd} {σ : L2.St} {H : Hp} {δ : DS} {G : Hp}
theorem At.inj {i : Nat} {p p' : Addr} (a : At σ i p) (b : At σ i p') : p = p' := by
  have e : some (some (V.ref p)) = some (some (V.ref p')) := a.symm.trans b
  simpa using e
theorem Rel.here (R : Rel K Γ hid σ H δ G) {a : Addr} (h : Γ.H0 a ≠ none) : H a ≠ none := by
  by_cases e : ∃ q ∈ Γ.par, q.2 = a
  · obtain ⟨q, hq, rfl⟩ := e
    obtain ⟨at1, _, o, ho⟩ := R.prs q hq
    obtain ⟨p, at2, _, hm, _, mo⟩ := R.sl _ _ ho
    rw [at1.inj at2]
    exact mo.here
  · cases q : Γ.H0 a with
    | none => exact absurd q h
    | some o => exact ne_none_of (R.fr a o q fun r hr z => e ⟨r, hr, z⟩)
/-- the heap grew beside all own objects -/
theorem Rel.grow (R : Rel K Γ hid σ H δ G) {H' G' : Hp} (g : Grow [] H G H' G') : Rel K Γ hid σ H' δ G' where
  sub := g.sub
  ext := R.ext.trans g.data
  old := fun a h => (g.old a (R.here h)).trans (R.old a h)
  fr := fun a o h n => g.same a o (by simp) (R.fr a o h n)
  prs := R.prs
  len := R.len
  sl := fun i s h => by
    have q := R.sl i s h
    cases s with
    | sh d => obtain ⟨v, h1, h2⟩ := q; exact ⟨v, h1, dp_mono g.data h2⟩
    | ow o => obtain ⟨p, h1, h2, h3, h4, h5⟩ := q; exact ⟨p, h1, (g.old p h5.here).trans h2, h3, h4, h5.mono g.data fun u e => g.same p u (by simp) e⟩
    | io o => obtain ⟨p, h1, h2, h3, h4, h5⟩ := q; exact ⟨p, h1, (g.old p h5.here).trans h2, h3, h4, h5.mono g.data fun u e => g.same p u (by simp) e⟩
  dist := R.dist
  hds := fun q hq => by
    obtain ⟨h1, h2, h3⟩ := R.hds q hq
    exact ⟨g.same _ _ (by simp) h1, (g.old _ (ne_none_of h1)).trans h2, h3⟩
  gb := R.gb.trans g.data
theorem Own.lt {i : Nat} (h : Own δ i) : i < δ.length := by
  obtain ⟨o, h | h⟩ := h <;> exact DS.get_lt h
theorem at_set {i j : Nat} {v : V} {p : Addr} (n : i ≠ j) : At (σ.set i (some v)) j p ↔ At σ j p := by
  unfold At
  rw [List.getElem?_set_ne n]
/-- a name is stored: data -/
theorem Rel.setD (R : Rel K Γ hid σ H δ G) {i : Nat} {v : V} {d : D} (hi : i < δ.length) (hio : ∀ o, δ.get i ≠ some (.io o)) (h : Dt K G v d) :
    Rel K Γ hid (σ.set i (some v)) H (δ.set i (some (.sh d))) G where
  sub := R.sub
  ext := R.ext
  old := R.old
  fr := R.fr
  prs := fun q hq => by
    obtain ⟨h1, h2, o, h3⟩ := R.prs q hq
    have n : i ≠ q.1 := fun z => hio o (z ▸ h3)
    exact ⟨(at_set n).mpr h1, h2, o, by rw [DS.get_set, if_neg (fun z => n z.1)]; exact h3⟩
  len := by rw [List.length_set, List.length_set]; exact R.len
  sl := fun j s e => by
    rw [DS.get_set] at e
    by_cases c : i = j
    · subst c
      rw [if_pos ⟨rfl, hi⟩] at e
      cases e
      exact ⟨v, by rw [List.getElem?_set_self (by rw [← R.len]; exact hi)], h⟩
    · rw [if_neg (fun z => c z.1)] at e
      have q := R.sl j s e
      cases s with
      | sh d => obtain ⟨v, h1, h2⟩ := q; exact ⟨v, by rw [List.getElem?_set_ne c]; exact h1, h2⟩
      | ow o => obtain ⟨p, h1, h2⟩ := q; exact ⟨p, (at_set c).mpr h1, h2⟩
      | io o => obtain ⟨p, h1, h2⟩ := q; exact ⟨p, (at_set c).mpr h1, h2⟩
  dist := fun j k p hj hk aj ak => by
    have nj : ∀ j, Own (List.set δ i (some (.sh d))) j → i ≠ j ∧ Own δ j := fun j ⟨o, ho⟩ => by
      by_cases c : i = j
      · subst c
        rw [DS.get_set, if_pos ⟨rfl, hi⟩] at ho
        rcases ho with z | z <;> cases z
      · rw [DS.get_set, if_neg (fun z => c z.1)] at ho
        exact ⟨c, o, ho⟩
    obtain ⟨c1, o1⟩ := nj j hj
    obtain ⟨c2, o2⟩ := nj k hk
    exact R.dist j k p o1 o2 ((at_set c1).mp aj) ((at_set c2).mp ak)
  hds := R.hds
  gb := R.gb
/-- a name is stored: a new object of its own -/
theorem Rel.setO (R : Rel K Γ hid σ H δ G) {i : Nat} {p : Addr} {o : MO} (hi : i < δ.length) (hio : ∀ o, δ.get i ≠ some (.io o)) (hG : G p = none) (h0 : Γ.H0 p = none)
    (hh : ∀ q ∈ hid.ls, q.1 ≠ p) (ho : ∀ j, Own δ j → ¬ At σ j p) (hm : MOk K G H p o) :
    Rel K Γ hid (σ.set i (some (.ref p))) H (δ.set i (some (.ow o))) G where
  sub := R.sub
  ext := R.ext
  old := R.old
  fr := R.fr
  prs := fun q hq => by
    obtain ⟨h1, h2, o, h3⟩ := R.prs q hq
    have n : i ≠ q.1 := fun z => hio o (z ▸ h3)
    exact ⟨(at_set n).mpr h1, h2, o, by rw [DS.get_set, if_neg (fun z => n z.1)]; exact h3⟩
  len := by rw [List.length_set, List.length_set]; exact R.len
  sl := fun j s e => by
    rw [DS.get_set] at e
    by_cases c : i = j
    · subst c
      rw [if_pos ⟨rfl, hi⟩] at e
      cases e
      exact ⟨p, by unfold At; rw [List.getElem?_set_self (by rw [← R.len]; exact hi)], hG, h0, hh, hm⟩
    · rw [if_neg (fun z => c z.1)] at e
      have q := R.sl j s e
      cases s with
      | sh d => obtain ⟨v, h1, h2⟩ := q; exact ⟨v, by rw [List.getElem?_set_ne c]; exact h1, h2⟩
      | ow o => obtain ⟨p, h1, h2⟩ := q; exact ⟨p, (at_set c).mpr h1, h2⟩
      | io o => obtain ⟨p, h1, h2⟩ := q; exact ⟨p, (at_set c).mpr h1, h2⟩
  dist := fun j k q hj hk aj ak => by
    have nj : ∀ j, Own (List.set δ i (some (.ow o))) j → i ≠ j → Own δ j := fun j ⟨o, ho⟩ c => by
      rw [DS.get_set, if_neg (fun z => c z.1)] at ho
      exact ⟨o, ho⟩
    have self : ∀ {q}, At (σ.set i (some (.ref p))) i q → q = p := fun {q} a => by
      unfold At at a
      rw [List.getElem?_set_self (by rw [← R.len]; exact hi)] at a
      cases a; rfl
    by_cases c1 : i = j
    · subst c1
      by_cases c2 : i = k
      · exact c2
      · have e := self aj
        subst e
        exact absurd ((at_set c2).mp ak) (ho k (nj k hk c2))
    · by_cases c2 : i = k
      · subst c2
        have e := self ak
        subst e
        exact absurd ((at_set c1).mp aj) (ho j (nj j hj c1))
      · exact R.dist j k q (nj j hj c1) (nj k hk c2) ((at_set c1).mp aj) ((at_set c2).mp ak)
  hds := R.hds
  gb := R.gb
/-- the object of slot i becomes data -/
theorem Rel.freeze (R : Rel K Γ hid σ H δ G) {i : Nat} {ds : List D} (h : δ.get i = some (.ow (.lst ds))) :
    ∃ p G', At σ i p ∧ Same G G' ∧ Dt K G' (.ref p) (.list ds) ∧ Rel K Γ hid σ H (δ.set i (some (.sh (.list ds)))) G' := by
  obtain ⟨p, at1, hG, h0, hh, vs, hp, hv⟩ := R.sl i _ h
  have hi := DS.get_lt h
  have sG : Same G (upd G p (.lst vs)) := fun a u e => by rw [upd_ne (ne_of_none e hG)]; exact e
  have dp : Dt K (upd G p (.lst vs)) (.ref p) (.list ds) := .lst (.inl upd_same) (dpa_mono sG hv)
  refine ⟨p, upd G p (.lst vs), at1, sG, dp, ?_⟩
  have ne : ∀ j, Own δ j → i ≠ j → ¬ At σ j p := fun j hj c a => c (R.dist i j p ⟨_, .inl h⟩ hj at1 a)
  refine ⟨fun a u e => ?_, R.ext.trans sG, fun a e => ?_, R.fr, fun q hq => ?_, by rw [List.length_set]; exact R.len, fun j s e => ?_, fun j k q hj hk aj ak => ?_, fun q hq => ?_, R.gb.trans sG⟩
  · by_cases c : a = p
    · rw [c, upd_same] at e; rw [c]; cases e; exact hp
    · rw [upd_ne c] at e; exact R.sub a u e
  · have c : a ≠ p := fun z => by rw [z] at e; exact e h0
    rw [upd_ne c]; exact R.old a e
  · obtain ⟨h1, h2, o, h3⟩ := R.prs q hq
    have n : i ≠ q.1 := fun z => by rw [← z, h] at h3; cases h3
    exact ⟨h1, h2, o, by rw [DS.get_set, if_neg (fun z => n z.1)]; exact h3⟩
  · rw [DS.get_set] at e
    by_cases c : i = j
    · subst c
      rw [if_pos ⟨rfl, hi⟩] at e
      cases e
      exact ⟨.ref p, at1, dp⟩
    · rw [if_neg (fun z => c z.1)] at e
      have q := R.sl j s e
      cases s with
      | sh d => obtain ⟨v, h1, h2⟩ := q; exact ⟨v, h1, dp_mono sG h2⟩
      | ow o =>
        obtain ⟨r, h1, h2, h3, h4, h5⟩ := q
        have n : r ≠ p := fun z => ne j ⟨o, .inl e⟩ c (z ▸ h1)
        exact ⟨r, h1, by rw [upd_ne n]; exact h2, h3, h4, h5.mono sG fun _ z => z⟩
      | io o =>
        obtain ⟨r, h1, h2, h3, h4, h5⟩ := q
        have n : r ≠ p := fun z => ne j ⟨o, .inr e⟩ c (z ▸ h1)
        exact ⟨r, h1, by rw [upd_ne n]; exact h2, h3, h4, h5.mono sG fun _ z => z⟩
  · have nj : ∀ j, Own (List.set δ i (some (.sh (.list ds)))) j → Own δ j := fun j ⟨o, ho⟩ => by
      by_cases c : i = j
      · subst c
        rw [DS.get_set, if_pos ⟨rfl, hi⟩] at ho
        rcases ho with z | z <;> cases z
      · rw [DS.get_set, if_neg (fun z => c z.1)] at ho
        exact ⟨o, ho⟩
    exact R.dist j k q (nj j hj) (nj k hk) aj ak
  · obtain ⟨h1, h2, h3⟩ := R.hds q hq
    exact ⟨h1, by rw [upd_ne (hh q hq)]; exact h2, h3⟩
/-- the own object of slot i is changed -/
theorem Rel.chg (R : Rel K Γ hid σ H δ G) {i : Nat} {p : Addr} {s : Sl} {o o' : MO} {u : HO} (hs : δ.get i = some s) (at1 : At σ i p) (hm : MOk K G (upd H p u) p o')
    (c : (s = .ow o) ∨ (s = .io o)) : Rel K Γ hid σ (upd H p u) (δ.set i (some (s.put o'))) G := by
  have hi := DS.get_lt hs
  have own : Own δ i := by
    rcases c with e | e
    · exact ⟨o, .inl (e ▸ hs)⟩
    · exact ⟨o, .inr (e ▸ hs)⟩
  obtain ⟨hG, hh, hz⟩ : G p = none ∧ (∀ q ∈ hid.ls, q.1 ≠ p) ∧ (Γ.H0 p = none ∨ (i, p) ∈ Γ.par) := by
    have q := R.sl i s hs
    rcases c with e | e
    · subst e
      obtain ⟨p', a', h1, h2, h3, _⟩ := q
      cases at1.inj a'
      exact ⟨h1, h3, .inl h2⟩
    · subst e
      obtain ⟨p', a', h1, h2, h3, _⟩ := q
      cases at1.inj a'
      exact ⟨h1, h3, .inr h2⟩
  have ne : ∀ j, Own δ j → i ≠ j → ¬ At σ j p := fun j hj c a => c (R.dist i j p own hj at1 a)
  have nj : ∀ j o2, (∃ o3, o2 = Sl.ow o3 ∨ o2 = .io o3) → Own (List.set δ i (some o2)) j → Own δ j := fun j o2 _ ⟨o, ho⟩ => by
    by_cases c : i = j
    · subst c; exact own
    · rw [DS.get_set, if_neg (fun z => c z.1)] at ho
      exact ⟨o, ho⟩
  have knd : ∃ o3, (s.put o') = Sl.ow o3 ∨ (s.put o') = .io o3 := by
    rcases c with e | e <;> subst e
    · exact ⟨o', .inl rfl⟩
    · exact ⟨o', .inr rfl⟩
  refine ⟨fun a u e => ?_, R.ext, R.old, fun a u e n => ?_, fun q hq => ?_, by rw [List.length_set]; exact R.len, fun j s' e => ?_, fun j k q hj hk aj ak => R.dist j k q (nj j _ knd hj) (nj k _ knd hk) aj ak, fun q hq => ?_, R.gb⟩
  · rw [upd_ne (ne_of_none e hG)]; exact R.sub a u e
  · have c : a ≠ p := fun z => by
      rcases hz with z1 | z1
      · rw [z, z1] at e; cases e
      · exact n _ z1 z.symm
    rw [upd_ne c]; exact R.fr a u e n
  · obtain ⟨h1, h2, o2, h3⟩ := R.prs q hq
    by_cases cc : i = q.1
    · rw [← cc, hs] at h3
      cases h3
      exact ⟨h1, h2, o', by rw [DS.get_set, if_pos ⟨cc, cc ▸ hi⟩]; rfl⟩
    · exact ⟨h1, h2, o2, by rw [DS.get_set, if_neg (fun z => cc z.1)]; exact h3⟩
  · rw [DS.get_set] at e
    by_cases cc : i = j
    · subst cc
      rw [if_pos ⟨rfl, hi⟩] at e
      have q := R.sl i s hs
      rcases c with e2 | e2
      · subst e2
        cases e
        obtain ⟨p', a', h1, h2, h3, _⟩ := q
        exact ⟨p', a', h1, h2, h3, by cases at1.inj a'; exact hm⟩
      · subst e2
        cases e
        obtain ⟨p', a', h1, h2, h3, _⟩ := q
        exact ⟨p', a', h1, h2, h3, by cases at1.inj a'; exact hm⟩
    · rw [if_neg (fun z => cc z.1)] at e
      have q := R.sl j s' e
      cases s' with
      | sh d => exact q
      | ow o2 =>
        obtain ⟨r, h1, h2, h3, h4, h5⟩ := q
        have n : r ≠ p := fun z => ne j ⟨o2, .inl e⟩ cc (z ▸ h1)
        exact ⟨r, h1, h2, h3, h4, h5.mono (Same.refl _) fun _ z => by rw [upd_ne n]; exact z⟩
      | io o2 =>
        obtain ⟨r, h1, h2, h3, h4, h5⟩ := q
        have n : r ≠ p := fun z => ne j ⟨o2, .inr e⟩ cc (z ▸ h1)
        exact ⟨r, h1, h2, h3, h4, h5.mono (Same.refl _) fun _ z => by rw [upd_ne n]; exact z⟩
  · obtain ⟨h1, h2, h3⟩ := R.hds q hq
    exact ⟨by rw [upd_ne (hh q hq)]; exact h1, h2, h3⟩
/-- from here on the data as they are stay -/
theorem Rel.rebase (R : Rel K Γ hid σ H δ G) : Rel K Γ ⟨hid.ls, G⟩ σ H δ G :=
  ⟨R.sub, R.ext, R.old, R.fr, R.prs, R.len, R.sl, R.dist, R.hds, Same.refl _⟩
theorem Rel.unbase {G1 : Hp} (R : Rel K Γ ⟨hid.ls, G1⟩ σ H δ G) (s : Same hid.gb G1) : Rel K Γ hid σ H δ G :=
  ⟨R.sub, R.ext, R.old, R.fr, R.prs, R.len, R.sl, R.dist, R.hds, s.trans R.gb⟩
end
end DL

/-! Judgements over data; expressions. -/
namespace DL
open PySem PySem.Spec PyProof.Rows L2
/-- an exception: its class, the datum it carries -/
abbrev Exn := Addr × Option D
abbrev KE := Exn → DS → Prop
abbrev RE := DS → KE → (D → DS → Prop) → Prop
abbrev RT := DS → KE → (Bool → DS → Prop) → Prop
abbrev RA := DS → KE → (List D → DS → Prop) → Prop
inductive Fl where | nx | bk | ct | rt (d : D)
abbrev RS := DS → KE → (Fl → DS → Prop) → Prop
def Mono {α : Type} (φ : DS → KE → (α → DS → Prop) → Prop) : Prop := ∀ δ (E E' : KE) (P P' : α → DS → Prop), (∀ x δ, E x δ → E' x δ) → (∀ a δ, P a δ → P' a δ) → φ δ E P → φ δ E' P'
def ExR (K : PySem.W.Frag) (H G : Hp) (x : Exn) (cls : Value) (d : Option Addr) : Prop := cls = .ref x.1 ∧ (match x.2 with
  | none => d = none
  | some dv => ∃ dx v, d = some dx ∧ H dx = some (.xd [(("at" : Str), v)]) ∧ Dt K G v dv)
section
variable (K : PySem.W.Frag) (Γ : Ga) (W : WX)
def EK (hid : Hd) : KE := fun x δ => ∀ cls d σ H G, Rel K Γ hid σ H δ G → ExR K H G x cls d → W cls d σ H
/-- what is wanted of an expression's value, as the hand layer asks it -/
def KV (hid : Hd) (σ : L2.St) (G : Hp) (Q : VK) : D → DS → Prop := fun d δ => ∀ v H' G', Rel K Γ hid σ H' δ G' → Same G G' → Dt K G' v d → Q v H'
def KB (hid : Hd) (σ : L2.St) (G : Hp) (Q : Bool → Hp → Prop) : Bool → DS → Prop := fun d δ => ∀ H' G', Rel K Γ hid σ H' δ G' → Same G G' → Q d H'
def KL (hid : Hd) (σ : L2.St) (G : Hp) (Q : List V → Hp → Prop) : List D → DS → Prop := fun ds δ => ∀ vs H' G', Rel K Γ hid σ H' δ G' → Same G G' → Dts K G' vs ds → Q vs H'
def LE (φ : RE) : TE := fun σ H Q => ∃ hid δ G, Rel K Γ hid σ H δ G ∧ φ δ (EK K Γ W hid) (KV K Γ hid σ G Q)
def LT (φ : RT) : TT := fun σ H Q => ∃ hid δ G, Rel K Γ hid σ H δ G ∧ φ δ (EK K Γ W hid) (KB K Γ hid σ G Q)
def LA (φ : RA) : TA := fun σ H Q => ∃ hid δ G, Rel K Γ hid σ H δ G ∧ φ δ (EK K Γ W hid) (KL K Γ hid σ G Q)
end
structure DE (X : Cx) (Γ : Ga) (W : WX) (e : Expr) (φ : RE) : Prop where
  run : PE X e (LE X.K Γ W φ)
  mono : Mono φ
structure DT (X : Cx) (Γ : Ga) (W : WX) (e : Expr) (φ : RT) : Prop where
  run : PT X e (LT X.K Γ W φ)
  mono : Mono φ
structure DW (X : Cx) (Γ : Ga) (W : WX) (e : Expr) (φ : RT) : Prop where
  run : PW X e (LT X.K Γ W φ)
  mono : Mono φ
structure DA (X : Cx) (Γ : Ga) (W : WX) (es : List Expr) (φ : RA) : Prop where
  run : PA X es (LA X.K Γ W φ)
  mono : Mono φ
  len : ∀ δ E P, φ δ E P → φ δ E fun ds δ' => ds.length = es.length ∧ P ds δ'
theorem PE.imp {X : Cx} {e : Expr} {t t' : TE} (h : PE X e t) (i : ∀ σ H Q, t' σ H Q → t σ H Q) : PE X e t' := ⟨fun pins s σ H Q I q => h.run pins s σ H Q I (i σ H Q q)⟩
theorem PT.imp {X : Cx} {e : Expr} {t t' : TT} (h : PT X e t) (i : ∀ σ H Q, t' σ H Q → t σ H Q) : PT X e t' := ⟨fun pins s σ H Q I q => h.run pins s σ H Q I (i σ H Q q)⟩
theorem PW.imp {X : Cx} {e : Expr} {t t' : TT} (h : PW X e t) (i : ∀ σ H Q, t' σ H Q → t σ H Q) : PW X e t' := ⟨fun wh pins s σ H Q I q => h.run wh pins s σ H Q I (i σ H Q q)⟩
theorem PA.imp {X : Cx} {e : List Expr} {t t' : TA} (h : PA X e t) (i : ∀ σ H Q, t' σ H Q → t σ H Q) : PA X e t' := ⟨fun pos pins s σ H Q I q => h.run pos pins s σ H Q I (i σ H Q q)⟩
section
variable {X : Cx} {Γ : Ga} {W : WX} {a b c : Expr} {φa φb φc : RE} {pos : Pos}
theorem de_mk {e : Expr} {t : TE} {φ : RE} (h : PE X e t) (m : Mono φ) (i : ∀ σ H Q hid δ G, Rel X.K Γ hid σ H δ G → φ δ (EK X.K Γ W hid) (KV X.K Γ hid σ G Q) → t σ H Q) : DE X Γ W e φ :=
  ⟨PE.imp h fun σ H Q ⟨hid, δ, G, R, q⟩ => i σ H Q hid δ G R q, m⟩
theorem dt_mk {e : Expr} {t : TT} {φ : RT} (h : PT X e t) (m : Mono φ) (i : ∀ σ H Q hid δ G, Rel X.K Γ hid σ H δ G → φ δ (EK X.K Γ W hid) (KB X.K Γ hid σ G Q) → t σ H Q) : DT X Γ W e φ :=
  ⟨PT.imp h fun σ H Q ⟨hid, δ, G, R, q⟩ => i σ H Q hid δ G R q, m⟩
theorem dw_mk {e : Expr} {t : TT} {φ : RT} (h : PW X e t) (m : Mono φ) (i : ∀ σ H Q hid δ G, Rel X.K Γ hid σ H δ G → φ δ (EK X.K Γ W hid) (KB X.K Γ hid σ G Q) → t σ H Q) : DW X Γ W e φ :=
  ⟨PW.imp h fun σ H Q ⟨hid, δ, G, R, q⟩ => i σ H Q hid δ G R q, m⟩
theorem da_mk {e : List Expr} {t : TA} {φ : RA} (h : PA X e t) (m : Mono φ) (i : ∀ σ H Q hid δ G, Rel X.K Γ hid σ H δ G → φ δ (EK X.K Γ W hid) (KL X.K Γ hid σ G Q) → t σ H Q) (l : ∀ δ E P, φ δ E P → φ δ E fun ds δ' => ds.length = e.length ∧ P ds δ') : DA X Γ W e φ :=
  ⟨PA.imp h fun σ H Q ⟨hid, δ, G, R, q⟩ => i σ H Q hid δ G R q, m, l⟩
/-- an expression's own step: run a, then go on -/
theorem DE.go {σ : L2.St} {H : Hp} {hid : Hd} {δ : DS} {G : Hp} {Q : VK} {P : D → DS → Prop} (h : DE X Γ W a φa) (R : Rel X.K Γ hid σ H δ G) (q : φa δ (EK X.K Γ W hid) P)
    (k : ∀ d δ1 v H1 G1, P d δ1 → Rel X.K Γ hid σ H1 δ1 G1 → Same G G1 → Dt X.K G1 v d → Q v H1) : LE X.K Γ W φa σ H Q :=
  ⟨hid, δ, G, R, h.mono _ _ _ _ _ (fun _ _ z => z) (fun d δ1 p v H1 G1 R1 s1 d1 => k d δ1 v H1 G1 p R1 s1 d1) q⟩
theorem DT.go {σ : L2.St} {H : Hp} {hid : Hd} {δ : DS} {G : Hp} {Q : Bool → Hp → Prop} {φ : RT} {P : Bool → DS → Prop} (h : DT X Γ W a φ) (R : Rel X.K Γ hid σ H δ G) (q : φ δ (EK X.K Γ W hid) P)
    (k : ∀ d δ1 H1 G1, P d δ1 → Rel X.K Γ hid σ H1 δ1 G1 → Same G G1 → Q d H1) : LT X.K Γ W φ σ H Q :=
  ⟨hid, δ, G, R, h.mono _ _ _ _ _ (fun _ _ z => z) (fun d δ1 p H1 G1 R1 s1 => k d δ1 H1 G1 p R1 s1) q⟩
theorem DA.go {σ : L2.St} {H : Hp} {hid : Hd} {δ : DS} {G : Hp} {Q : List V → Hp → Prop} {es : List Expr} {φ : RA} {P : List D → DS → Prop} (h : DA X Γ W es φ) (R : Rel X.K Γ hid σ H δ G) (q : φ δ (EK X.K Γ W hid) P)
    (k : ∀ d δ1 v H1 G1, P d δ1 → Rel X.K Γ hid σ H1 δ1 G1 → Same G G1 → Dts X.K G1 v d → Q v H1) : LA X.K Γ W φ σ H Q :=
  ⟨hid, δ, G, R, h.mono _ _ _ _ _ (fun _ _ z => z) (fun d δ1 p v H1 G1 R1 s1 d1 => k d δ1 v H1 G1 p R1 s1 d1) q⟩
/-! ### names, constants -/
def varK (o : Option Sl) (i : Nat) (δ : DS) (P : D → DS → Prop) : Prop := match o with
  | some (.sh d) => P d δ
  | some (.ow (.lst ds)) => P (.list ds) (List.set δ i (some (.sh (.list ds))))
  | _ => False
def varR (i : Nat) : RE := fun δ _ P => varK (δ.get i) i δ P
theorem de_varT {i : Nat} {x : Str} (h : PE X (.Name x pos) (tVar i)) : DE X Γ W (.Name x pos) (varR i) := by
  refine de_mk h ?_ ?_
  · intro δ E E' P P' _ hp q
    show varK (δ.get i) i δ P'
    have q' : varK (δ.get i) i δ P := q
    cases e : δ.get i with
    | none => rw [e] at q'; exact q'
    | some s =>
      rw [e] at q'
      cases s with
      | sh d => exact hp _ _ q'
      | ow o => cases o with | lst ds => exact hp _ _ q'
      | io o => exact q'
  · intro σ H Q hid δ G R q
    have q' : varK (δ.get i) i δ (KV X.K Γ hid σ G Q) := q
    cases e : δ.get i with
    | none => rw [e] at q'; exact q'.elim
    | some s =>
      rw [e] at q'
      cases s with
      | sh d =>
        obtain ⟨v, h1, h2⟩ := R.sl i _ e
        exact ⟨v, h1, q' v H G R (Same.refl _) h2⟩
      | ow o =>
        cases o with
        | lst ds =>
          obtain ⟨p, G', at1, s1, d1, R1⟩ := R.freeze e
          exact ⟨.ref p, at1, q' _ H G' R1 s1 d1⟩
      | io o => exact q'.elim
theorem de_var (i : Nat) {x : Str} (hN : X.N[i]? = some x := by rfl) (hv : Vis X.env.scope x := by first | exact Or.inl rfl | exact Or.inr (Or.inl rfl) | exact Or.inr (Or.inr rfl)) (hd : (x == ("__debug__" : Str)) = false := by decide)
    (hcd : (x == ("__classdict__" : Str)) = false := by decide) : DE X Γ W (.Name x pos) (varR i) := de_varT (pe_var hN hv hd hcd)
def cR (d : D) : RE := fun δ _ P => P d δ
theorem mono_c {d : D} : Mono (cR d) := fun _ _ _ _ _ _ h q => h _ _ q
theorem de_c {e : Expr} {v : V} {d : D} (h : PE X e (tC v)) (hd : ∀ G, Dt X.K G v d) : DE X Γ W e (cR d) :=
  de_mk h mono_c fun σ H Q hid δ G R q => q v H G R (Same.refl _) (hd G)
theorem de_int {i j} : DE X Γ W (.Constant (.int i) j pos) (cR (.int i)) := de_c pe_int fun _ => .int i
theorem de_bl {i j} : DE X Γ W (.Constant (.bool i) j pos) (cR (.bool i)) := de_c pe_bl fun _ => .bl i
theorem de_non {j} : DE X Γ W (.Constant .none j pos) (cR .none) := de_c pe_non fun _ => .non
theorem de_str {i j} : DE X Γ W (.Constant (.str i) j pos) (cR (.str i)) := de_c pe_str fun _ => .str i
theorem de_glob {x : Str} {v : V} {u : Value} {d : D} (hm : X.mg x = some u) (r : RelV v u) (hd : ∀ G, Dt X.K G v d) (hg : Gl X x := by rfl) (hdb : (x == ("__debug__" : Str)) = false := by decide) : DE X Γ W (.Name x pos) (cR d) :=
  de_c (pe_glob hg hm r hdb) hd
theorem de_globI {x : Str} {i : Int} {t : Tok} (hm : X.mg x = some (.int i t)) (hg : Gl X x := by rfl) (hdb : (x == ("__debug__" : Str)) = false := by decide) : DE X Γ W (.Name x pos) (cR (.int i)) :=
  de_glob hm (v := .int i) ⟨t, rfl⟩ (fun _ => .int i) hg hdb
theorem de_globS {x z : Str} {t : Tok} (hm : X.mg x = some (.str z t)) (hg : Gl X x := by rfl) (hdb : (x == ("__debug__" : Str)) = false := by decide) : DE X Γ W (.Name x pos) (cR (.str z)) :=
  de_glob hm (v := .str z) ⟨t, rfl⟩ (fun _ => .str z) hg hdb
/-! ### operators -/
abbrev OpD := D → D → (D → Prop) → Prop
structure OpS (K : PySem.W.Frag) (r : R2) (f : OpD) : Prop where
  ok : ∀ x y dx dy H G P Q, Same G H → Dt K G x dx → Dt K G y dy → f dx dy P → (∀ d v H' G', P d → Grow [] H G H' G' → Dt K G' v d → Q v H') → r x y H Q
  mono : ∀ dx dy P P', (∀ d, P d → P' d) → f dx dy P → f dx dy P'
def opR (f : OpD) (a b : RE) : RE := fun δ E P => a δ E fun x δ1 => b δ1 E fun y δ2 => f x y fun d => P d δ2
theorem mono_op {f : OpD} (mf : ∀ dx dy P P', (∀ d, P d → P' d) → f dx dy P → f dx dy P') (ma : Mono φa) (mb : Mono φb) : Mono (opR f φa φb) :=
  fun δ E E' P P' he hp q => ma _ _ _ _ _ he (fun x δ1 q1 => mb _ _ _ _ _ he (fun y δ2 q2 => mf _ _ _ _ (fun d => hp d δ2) q2) q1) q
theorem op_go {r : R2} {f : OpD} (s : OpS X.K r f) (ha : DE X Γ W a φa) (hb : DE X Γ W b φb) : ∀ σ H Q hid δ G, Rel X.K Γ hid σ H δ G → opR f φa φb δ (EK X.K Γ W hid) (KV X.K Γ hid σ G Q) → tOp r (LE X.K Γ W φa) (LE X.K Γ W φb) σ H Q :=
  fun σ H Q hid δ G R q => ha.go R q fun dx δ1 v H1 G1 q1 R1 s1 d1 => hb.go R1 q1 fun dy δ2 u H2 G2 q2 R2 s2 d2 =>
    s.ok v u dx dy H2 G2 _ Q R2.sub (dp_mono s2 d1) d2 q2 fun d z H3 G3 p g dd => p z H3 G3 (R2.grow g) ((s1.trans s2).trans g.data) dd
theorem de_op {op : Operator} {r : R2} {f : OpD} (o : OpR X (binaryOp op) r) (s : OpS X.K r f) (ha : DE X Γ W a φa) (hb : DE X Γ W b φb) : DE X Γ W (.BinOp a op b pos) (opR f φa φb) :=
  de_mk (pe_op o ha.run hb.run) (mono_op s.mono ha.mono hb.mono) (op_go s ha hb)
theorem de_cmp {op : CmpOp} {r : R2} {f : OpD} (o : OpR X (compareOp op) r) (s : OpS X.K r f) (ha : DE X Γ W a φa) (hb : DE X Γ W b φb) (hm : behindInMarks op b = false) : DE X Γ W (.Compare a [op] [b] pos) (opR f φa φb) :=
  de_mk (pe_cmpR o ha.run hb.run hm) (mono_op s.mono ha.mono hb.mono) (op_go s ha hb)
theorem OpS.or {r r' : R2} {f : OpD} (m : ∀ dx dy P P', (∀ d, P d → P' d) → f dx dy P → f dx dy P')
    (h : ∀ x y dx dy H G P Q, Same G H → Dt X.K G x dx → Dt X.K G y dy → f dx dy P → (∀ d v H' G', P d → Grow [] H G H' G' → Dt X.K G' v d → Q v H') → r x y H Q ∨ r' x y H Q) : OpS X.K (fun x y H Q => r x y H Q ∨ r' x y H Q) f := ⟨h, m⟩
/-- list + list, lists that stand in H -/
def rCatR : R2 := fun x y H Q => ∃ l b xs zs, x = .ref l ∧ y = .ref b ∧ Rd H l (.lst xs) ∧ Rd H b (.lst zs) ∧ xs.length + zs.length ≤ sizeLine ∧ ∀ p, H p = none → Q (.ref p) (upd H p (.lst (xs ++ zs)))
theorem op_catR : OpR X (binaryOp .Add) rCatR := by
  intro pins s σ H x y v u Q I rx ry h
  obtain ⟨l, b, xs, zs, rfl, rfl, hH, hB, hz, q⟩ := h
  cases rx
  cases ry
  obtain ⟨z, its, n, r, e⟩ := (show ObjOk X.prog X.w H s.heap l (.lst xs) from hH.ok I.hok)
  obtain ⟨z2, its2, n2, r2, e2⟩ := (show ObjOk X.prog X.w H s.heap b (.lst zs) from hB.ok I.hok)
  have hl := r.length
  have hl2 := r2.length
  refine PySem.P.add_list e e2 ?_ (by rw [List.size_toArray, List.size_toArray]; omega)
  have ea : its.toArray ++ its2.toArray = (its ++ its2).toArray := by simp
  rw [ea]
  exact ⟨.ref _, _, I.lnew (t' := s.toks) (r.append r2) (by rw [List.length_append]; omega), rfl, q _ I.fresh⟩
def addD : OpD := fun x y P => match x, y with
  | .int i, .int j => P (.int (i + j))
  | .str i, .str j => i.length + j.length ≤ sizeLine ∧ P (.str (i ++ j))
  | .tuple i, .tuple j => i.length + j.length ≤ sizeLine ∧ P (.tuple (i ++ j))
  | .list i, .list j => i.length + j.length ≤ sizeLine ∧ P (.list (i ++ j))
  | _, _ => False
def rAddD (K : PySem.W.Frag) : R2 := fun x y H Q => (∃ i j, x = .int i ∧ y = .int j ∧ Q (.int (i + j)) H) ∨ (∃ i j, x = .str i ∧ y = .str j ∧ i.length + j.length ≤ sizeLine ∧ Q (.str (i ++ j)) H) ∨ rCatA K x y H Q ∨ rCatR x y H Q
theorem op_addD : OpR X (binaryOp .Add) (rAddD X.K) := op_add.or (op_add_str.or (op_catA.or op_catR))
theorem addD_s {K : PySem.W.Frag} : OpS K (rAddD K) addD := by
  refine ⟨?_, ?_⟩
  · intro x y dx dy H G P Q s hx hy f k
    cases hx with
    | int i =>
      cases hy with
      | int j => exact .inl ⟨i, j, rfl, rfl, k _ _ H G f (.refl s) (.int _)⟩
      | _ => exact f.elim
    | str i =>
      cases hy with
      | str j => exact .inr (.inl ⟨i, j, rfl, rfl, f.1, k _ _ H G f.2 (.refl s) (.str _)⟩)
      | _ => exact f.elim
    | @tup a1 xs1 ds1 h1 ha =>
      cases hy with
      | @tup a2 xs2 ds2 h2 hb =>
        have f1 := f.1
        rw [← dpa_length ha, ← dpa_length hb] at f1
        refine .inr (.inr (.inl ⟨_, _, _, _, rfl, rfl, Same.seqT s h1, Same.seqT s h2, f1, fun e => ?_, fun e1 e2 => ?_, fun e1 e2 p np => ?_⟩))
        · subst e
          cases ha
          exact k _ _ H G f.2 (.refl s) (.tup h2 hb)
        · subst e2
          cases hb
          have f2 := f.2
          rw [List.append_nil] at f2
          exact k _ _ H G f2 (.refl s) (.tup h1 ha)
        · have g := Grow.new (o := .tup (xs1 ++ xs2)) s np
          exact k _ _ _ _ f.2 g (.tup (.of upd_same) (dpa_append (dpa_mono g.data ha) (dpa_mono g.data hb)))
      | _ => exact f.elim
    | @lst a1 xs1 ds1 h1 ha =>
      cases hy with
      | @lst a2 xs2 ds2 h2 hb =>
        have f1 := f.1
        rw [← dpa_length ha, ← dpa_length hb] at f1
        refine .inr (.inr (.inr ⟨_, _, _, _, rfl, rfl, Same.rd s h1, Same.rd s h2, f1, fun p np => ?_⟩))
        have g := Grow.new (o := .lst (xs1 ++ xs2)) s np
        exact k _ _ _ _ f.2 g (.lst (.inl upd_same) (dpa_append (dpa_mono g.data ha) (dpa_mono g.data hb)))
      | _ => exact f.elim
    | _ => exact f.elim
  · intro dx dy P P' hp f
    cases dx <;> cases dy <;> first | exact f.elim | exact hp _ f | exact ⟨f.1, hp _ f.2⟩
theorem de_add (ha : DE X Γ W a φa) (hb : DE X Γ W b φb) : DE X Γ W (.BinOp a .Add b pos) (opR addD φa φb) := de_op op_addD addD_s ha hb
/-- two ints -/
def intD (C : Int → Int → Prop) (g : Int → Int → D) : OpD := fun x y P => match x, y with
  | .int i, .int j => C i j ∧ P (g i j)
  | _, _ => False
theorem intD_s {K : PySem.W.Frag} {C : Int → Int → Prop} {g : Int → Int → V} {g' : Int → Int → D} (hg : ∀ G i j, Dt K G (g i j) (g' i j)) : OpS K (rI C g) (intD C g') := by
  refine ⟨?_, ?_⟩
  · intro x y dx dy H G P Q s hx hy f k
    cases hx with
    | int i =>
      cases hy with
      | int j => exact ⟨i, j, rfl, rfl, f.1, k _ _ H G f.2 (.refl s) (hg _ _ _)⟩
      | _ => exact f.elim
    | _ => exact f.elim
  · intro dx dy P P' hp f
    cases dx <;> cases dy <;> first | exact f.elim | exact ⟨f.1, hp _ f.2⟩
def int0D (g : Int → Int → D) : OpD := fun x y P => match x, y with
  | .int i, .int j => P (g i j)
  | _, _ => False
theorem int0D_s {K : PySem.W.Frag} {g : Int → Int → V} {g' : Int → Int → D} (hg : ∀ G i j, Dt K G (g i j) (g' i j)) : OpS K (rI0 g) (int0D g') := by
  refine ⟨?_, ?_⟩
  · intro x y dx dy H G P Q s hx hy f k
    cases hx with
    | int i =>
      cases hy with
      | int j => exact ⟨i, j, rfl, rfl, k _ _ H G f (.refl s) (hg _ _ _)⟩
      | _ => exact f.elim
    | _ => exact f.elim
  · intro dx dy P P' hp f
    cases dx <;> cases dy <;> first | exact f.elim | exact hp _ f
abbrev subD : OpD := int0D fun i j => .int (i - j)
theorem de_sub (ha : DE X Γ W a φa) (hb : DE X Γ W b φb) : DE X Γ W (.BinOp a .Sub b pos) (opR subD φa φb) := de_op op_sub (int0D_s fun _ _ _ => .int _) ha hb
abbrev divD : OpD := intD CDivW fun i j => .int (i / j)
theorem de_fdiv (ha : DE X Γ W a φa) (hb : DE X Γ W b φb) : DE X Γ W (.BinOp a .FloorDiv b pos) (opR divD φa φb) := de_op op_fdivW (intD_s fun _ _ _ => .int _) ha hb
abbrev modD : OpD := intD (fun _ j => 0 < j) fun i j => .int (i % j)
theorem de_mod (ha : DE X Γ W a φa) (hb : DE X Γ W b φb) : DE X Γ W (.BinOp a .Mod b pos) (opR modD φa φb) := de_op op_mod (intD_s fun _ _ _ => .int _) ha hb
abbrev powD : OpD := intD CPow fun i j => .int (i ^ j.toNat)
theorem de_pow (ha : DE X Γ W a φa) (hb : DE X Γ W b φb) : DE X Γ W (.BinOp a .Pow b pos) (opR powD φa φb) := de_op op_pow (intD_s fun _ _ _ => .int _) ha hb
end
end DL

/-! More expressions. -/
namespace DL
open PySem PySem.Spec PyProof.Rows L2
section
variable {X : Cx} {Γ : Ga} {W : WX} {a b c : Expr} {φa φb φc : RE} {pos : Pos}
/-! ### times -/
/-- text * k -/
def repS (x : Str) (k : Int) : Str := ⟨(List.replicate k.toNat x.cps.toList).flatten.toArray⟩
theorem foldl_repA (x : Array Nat) : ∀ (m : Nat) (acc : Array Nat), (List.replicate m x).foldl (· ++ ·) acc = acc ++ (List.replicate m x.toList).flatten.toArray
  | 0, acc => by simp
  | m + 1, acc => by
    rw [List.replicate_succ, List.foldl_cons, foldl_repA x m, List.replicate_succ, List.flatten_cons]
    apply Array.toList_inj.mp
    simp
def rMulS : R2 := fun x y H Q => ∃ z k, x = .str z ∧ y = .int k ∧ 0 ≤ k ∧ z.length * k.toNat ≤ sizeLine ∧ k.toNat ≤ sizeLine ∧ Q (.str (repS z k)) H
theorem op_mulS : OpR X (binaryOp .Mult) rMulS := by
  intro pins s σ H x y v u Q I rx ry h
  obtain ⟨z, k, rfl, rfl, h0, hz, hk, q⟩ := h
  obtain ⟨t, rfl⟩ := rx
  obtain ⟨t', rfl⟩ := ry
  have e : sizeLine = 16777216 := sizeLine_eq
  refine PySem.P.mul_str ?_ ?_ ?_ ?_
  · rw [decide_eq_false (by omega), decide_eq_false (by omega)]; rfl
  · intro h1 h2 h3
    have hk1 : 0 < k := by omega
    have h4 : (z.length : Int) ≤ (2 ^ 63 - 1) / k := by
      rw [Int.le_ediv_iff_mul_le hk1]
      have : ((z.length * k.toNat : Nat) : Int) = (z.length : Int) * k := by
        rw [Int.natCast_mul, Int.toNat_of_nonneg h0]
      rw [← this]
      omega
    omega
  · intro h1 h2
    show decide (z.length * k.toNat > sizeLine) = false
    exact decide_eq_false (by omega)
  · have fin : ∀ y : Str, y = repS z k → (Q (.str y) H) := fun y e => e ▸ q
    by_cases c1 : k < 1
    · rw [if_pos c1]
      have k0 : k = 0 := by omega
      subst k0
      refine ⟨by decide, ⟨.str _, H, I.tok _, ⟨_, rfl⟩, fin _ ?_⟩⟩
      rfl
    · rw [if_neg c1]
      by_cases c2 : (k == 1 || z.length == 0) = true
      · rw [if_pos c2]
        refine ⟨.str z, H, I, ⟨_, rfl⟩, fin _ ?_⟩
        apply Str.ext'
        apply Array.toList_inj.mp
        unfold repS
        rcases Bool.or_eq_true_iff.mp c2 with c3 | c3
        · have k1 : k = 1 := by simpa using c3
          subst k1
          simp
        · have z0 : z.cps.toList = [] := by
            have : z.length = 0 := by simpa using c3
            exact List.eq_nil_of_length_eq_zero (by rw [Array.length_toList]; exact this)
          rw [z0]
          simp
      · rw [if_neg c2]
        have e2 : (List.replicate k.toNat z.cps).foldl (· ++ ·) #[] = (List.replicate k.toNat z.cps.toList).flatten.toArray := by
          rw [foldl_repA]; simp
        refine ⟨?_, ?_⟩
        · show ((List.replicate k.toNat z.cps).foldl (· ++ ·) #[]).size ≤ sizeLine
          rw [e2, List.size_toArray, PyProof.Rows.lm_len_rep_flat, Nat.mul_comm, Array.length_toList]
          exact hz
        · refine ⟨.str _, H, I.tok _, ⟨_, rfl⟩, fin _ ?_⟩
          unfold repS
          rw [e2]
/-- list * k -/
def rRepR : R2 := fun x y H Q => ∃ l k xs, x = .ref l ∧ y = .int k ∧ Rd H l (.lst xs) ∧ -(2 ^ 63) ≤ k ∧ k < 2 ^ 63 ∧ xs.length * k.toNat ≤ sizeLine ∧
  ∀ p, H p = none → Q (.ref p) (upd H p (.lst (List.replicate k.toNat xs).flatten))
theorem op_repR : OpR X (binaryOp .Mult) rRepR := by
  intro pins s σ H x y v u Q I rx ry h
  obtain ⟨l, k, xs, rfl, rfl, hH, h1, h2, hz, q⟩ := h
  cases rx
  obtain ⟨t, rfl⟩ := ry
  obtain ⟨z, its, n, r, e⟩ := (show ObjOk X.prog X.w H s.heap l (.lst xs) from hH.ok I.hok)
  have hl := r.length
  have hlen : its.toArray.size * k.toNat ≤ sizeLine := by rw [List.size_toArray, ← hl]; exact hz
  have hcap : ¬ its.toArray.size * k.toNat > (2 ^ 63 - 1) / 8 := by
    have : (sizeLine : Nat) ≤ (2 ^ 63 - 1) / 8 := by decide
    omega
  have hfit : ¬ (!Builtin.List.listFitsIndex k) = true := by
    rw [fitsIndex_both h1 h2]
    exact Bool.false_ne_true
  have hlong : ¬ Builtin.List.listTooLong (its.toArray.size * k.toNat) = true := by
    rw [notLongL hlen]
    exact Bool.false_ne_true
  have hnew : List.foldl (fun x1 x2 => x1 ++ x2) #[] (List.replicate (if its.toArray.isEmpty = true then 0 else k.toNat) its.toArray) = (List.replicate k.toNat its).flatten.toArray := by
    have f0 : ∀ m : Nat, List.foldl (fun x1 x2 => x1 ++ x2) #[] (List.replicate m its.toArray) = (List.replicate m its).flatten.toArray := fun m => by
      have := foldl_rep its m []
      rw [List.nil_append] at this
      exact this
    rw [f0]
    cases its with
    | nil => simp
    | cons a r' => rw [if_neg (by simp)]
  refine wpAny_binaryOp_repeat_ref (T := "list") (U := "int") (by decide) ⟨_, e, rfl⟩ (fun s' => typeIs_int s' k t) noFill_list_mul F.fills_int_mul F.slot_int_rmul repeat_list F.slot_int_index.lookup
    (call_meets F.slot_int_rmul (typeIs_int s k t) F.entry_int_rmul (F.args_int_rmul_2 _ _) (int___rmul___int_list k t l its.toArray n)
      ⟨e, rfl, ⟨_, e, rfl⟩, call_meets F.slot_list_mul ⟨_, e, rfl⟩ F.entry_list_mul (F.args_list_mul_2 _ _) (AutoListH.list___mul___list_int_3 l its.toArray n k t hfit hcap hlong) ⟨e, ?_⟩⟩)
  rw [hnew]
  exact ⟨.ref _, _, I.lnew (t' := s.toks) (r.rep k.toNat) (by rw [PyProof.Rows.lm_len_rep_flat, Nat.mul_comm]; exact hz), rfl, q _ I.fresh⟩
def mulD : OpD := fun x y P => match x, y with
  | .int i, .int j => CMulX i j ∧ P (.int (i * j))
  | .str z, .int k => (0 ≤ k ∧ z.length * k.toNat ≤ sizeLine ∧ k.toNat ≤ sizeLine) ∧ P (.str (repS z k))
  | .list xs, .int k => (0 ≤ k ∧ xs.length * k.toNat ≤ sizeLine ∧ k < 2 ^ 63) ∧ P (.list (List.replicate k.toNat xs).flatten)
  | _, _ => False
def rMulD (K : PySem.W.Frag) : R2 := fun x y H Q => rI CMulX (fun i j => .int (i * j)) x y H Q ∨ rMulS x y H Q ∨ rRepR x y H Q
theorem op_mulD : OpR X (binaryOp .Mult) (rMulD X.K) := op_mulX.or (op_mulS.or op_repR)
theorem mulD_s {K : PySem.W.Frag} : OpS K (rMulD K) mulD := by
  refine ⟨?_, ?_⟩
  · intro x y dx dy H G P Q s hx hy f k
    cases hx with
    | int i =>
      cases hy with
      | int j => exact .inl ⟨i, j, rfl, rfl, f.1, k _ _ H G f.2 (.refl s) (.int _)⟩
      | _ => exact f.elim
    | str i =>
      cases hy with
      | int j => exact .inr (.inl ⟨i, j, rfl, rfl, f.1.1, f.1.2.1, f.1.2.2, k _ _ H G f.2 (.refl s) (.str _)⟩)
      | _ => exact f.elim
    | @lst a1 xs1 ds1 h1 ha =>
      cases hy with
      | int j =>
        obtain ⟨⟨f0, f1, f2⟩, f3⟩ := f
        rw [← dpa_length ha] at f1
        refine .inr (.inr ⟨_, _, _, rfl, rfl, Same.rd s h1, by omega, f2, f1, fun p np => ?_⟩)
        have g := Grow.new (o := .lst (List.replicate j.toNat xs1).flatten) s np
        exact k _ _ _ _ f3 g (.lst (.inl upd_same) (dpa_rep (dpa_mono g.data ha) _))
      | _ => exact f.elim
    | _ => exact f.elim
  · intro dx dy P P' hp f
    cases dx <;> cases dy <;> first | exact f.elim | exact ⟨f.1, hp _ f.2⟩
theorem de_mul (ha : DE X Γ W a φa) (hb : DE X Γ W b φb) : DE X Γ W (.BinOp a .Mult b pos) (opR mulD φa φb) := de_op op_mulD mulD_s ha hb
/-! ### comparisons -/
def scalD : D → D → Bool
  | .none, .none => true | .none, .int _ => true | .int _, .none => true | .none, .bool _ => true | .bool _, .none => true | .none, .str _ => true | .str _, .none => true
  | .int _, .int _ => true | .bool _, .bool _ => true | .str _, .str _ => true
  | .int _, .str _ => true | .str _, .int _ => true | .bool _, .str _ => true | .str _, .bool _ => true
  | _, _ => false
def EqOk (x y : D) : Prop := scalD x y = true ∨ (SeqAt.shaped x = true ∧ SeqAt.shaped y = true)
/-- scalars are told apart as they are; other data must be of some shape -/
def eqG (x y : D) (A : Prop) : Prop := bifP (scalD x y) A ((SeqAt.shaped x = true ∧ SeqAt.shaped y = true) ∧ A)
theorem eqG_get {x y : D} {A : Prop} (h : eqG x y A) : EqOk x y ∧ A := by
  unfold eqG at h
  cases e : scalD x y with
  | true => rw [e] at h; exact ⟨.inl e, h⟩
  | false => rw [e] at h; exact ⟨.inr h.1, h.2⟩
theorem eqG_mono {x y : D} {A B : Prop} (i : A → B) (h : eqG x y A) : eqG x y B := bif_mono i (fun z => ⟨z.1, i z.2⟩) h
theorem eqG_of {x y : D} {A : Prop} (h : EqOk x y) (a : A) : eqG x y A := by
  unfold eqG
  cases e : scalD x y with
  | true => exact a
  | false => exact ⟨by rcases h with h | h; rw [e] at h; cases h; exact h, a⟩
def eqD : OpD := fun x y P => eqG x y (P (.bool (PyData.eqv x y)))
def neD : OpD := fun x y P => eqG x y (P (.bool (!PyData.eqv x y)))
theorem scal_V {K : PySem.W.Frag} {G : Hp} {x y : V} {dx dy : D} (hx : Dt K G x dx) (hy : Dt K G y dy) (h : scalD dx dy = true) : scal x y = true ∧ decide (x = y) = PyData.eqv dx dy := by
  cases hx <;> cases hy <;> first | (cases h; done) | (refine ⟨rfl, ?_⟩; simp [PyData.eqv]; done) | skip
  all_goals first | (refine ⟨rfl, ?_⟩; simp only [PyData.eqv]; rw [Bool.eq_iff_iff]; simp; done) | (refine ⟨rfl, ?_⟩; simp only [PyData.eqv]; rfl) | skip
def rEqA (K : PySem.W.Frag) : R2 := fun x y H Q => rEq x y H Q ∨ rEqD K x y H Q
def rNeA (K : PySem.W.Frag) : R2 := fun x y H Q => rNe x y H Q ∨ rNeD K x y H Q
theorem op_eqA (hu : X.A.units + 64 < cLine) : OpR X (compareOp .Eq) (rEqA X.K) := op_eq.or (op_eqD hu)
theorem op_neA (hu : X.A.units + 64 < cLine) : OpR X (compareOp .NotEq) (rNeA X.K) := op_ne.or (op_neD hu)
theorem eqD_s {K : PySem.W.Frag} : OpS K (rEqA K) eqD := by
  refine ⟨?_, fun dx dy P P' hp f => eqG_mono (hp _) f⟩
  intro x y dx dy H G P Q s hx hy f k
  rcases eqG_get f with ⟨f | ⟨f1, f2⟩, p⟩
  · obtain ⟨h1, h2⟩ := scal_V hx hy f
    exact .inl ⟨h1, by rw [h2]; exact k _ _ H G p (.refl s) (.bl _)⟩
  · exact .inr ⟨_, _, (dp_mono s hx).dp, (dp_mono s hy).dp, f1, f2, k _ _ H G p (.refl s) (.bl _)⟩
theorem neD_s {K : PySem.W.Frag} : OpS K (rNeA K) neD := by
  refine ⟨?_, fun dx dy P P' hp f => eqG_mono (hp _) f⟩
  intro x y dx dy H G P Q s hx hy f k
  rcases eqG_get f with ⟨f | ⟨f1, f2⟩, p⟩
  · obtain ⟨h1, h2⟩ := scal_V hx hy f
    exact .inl ⟨h1, by rw [h2]; exact k _ _ H G p (.refl s) (.bl _)⟩
  · exact .inr ⟨_, _, (dp_mono s hx).dp, (dp_mono s hy).dp, f1, f2, k _ _ H G p (.refl s) (.bl _)⟩
theorem de_eq (hu : X.A.units + 64 < cLine) (ha : DE X Γ W a φa) (hb : DE X Γ W b φb) : DE X Γ W (.Compare a [.Eq] [b] pos) (opR eqD φa φb) := de_cmp (op_eqA hu) eqD_s ha hb (nomark _)
theorem de_ne (hu : X.A.units + 64 < cLine) (ha : DE X Γ W a φa) (hb : DE X Γ W b φb) : DE X Γ W (.Compare a [.NotEq] [b] pos) (opR neD φa φb) := de_cmp (op_neA hu) neD_s ha hb (nomark _)
/-- order: ints, texts -/
def ordD (f : Int → Int → Bool) (g : List Nat → List Nat → Bool) : OpD := fun x y P => match x, y with
  | .int i, .int j => P (.bool (f i j))
  | .str i, .str j => P (.bool (g i.cps.toList j.cps.toList))
  | _, _ => False
def rOrd (f : Int → Int → Bool) (g : List Nat → List Nat → Bool) : R2 := fun x y H Q => (∃ i j, x = .int i ∧ y = .int j ∧ Q (.bl (f i j)) H) ∨ (∃ i j, x = .str i ∧ y = .str j ∧ Q (.bl (g i.cps.toList j.cps.toList)) H)
theorem ordD_s {K : PySem.W.Frag} {f : Int → Int → Bool} {g : List Nat → List Nat → Bool} : OpS K (rOrd f g) (ordD f g) := by
  refine ⟨?_, ?_⟩
  · intro x y dx dy H G P Q s hx hy q k
    cases hx with
    | int i =>
      cases hy with
      | int j => exact .inl ⟨i, j, rfl, rfl, k _ _ H G q (.refl s) (.bl _)⟩
      | _ => exact q.elim
    | str i =>
      cases hy with
      | str j => exact .inr ⟨i, j, rfl, rfl, k _ _ H G q (.refl s) (.bl _)⟩
      | _ => exact q.elim
    | _ => exact q.elim
  · intro dx dy P P' hp f
    cases dx <;> cases dy <;> first | exact f.elim | exact hp _ f
abbrev ltD : OpD := ordD (fun i j => decide (i < j)) (fun i j => decide (i < j))
abbrev leD : OpD := ordD (fun i j => decide (i ≤ j)) (fun i j => !decide (j < i))
abbrev gtD : OpD := ordD (fun i j => decide (j < i)) (fun i j => decide (j < i))
abbrev geD : OpD := ordD (fun i j => decide (j ≤ i)) (fun i j => !decide (i < j))
theorem op_ltO : OpR X (compareOp .Lt) (rOrd (fun i j => decide (i < j)) (fun i j => decide (i < j))) := op_lt.or op_lt_str
theorem op_leO : OpR X (compareOp .LtE) (rOrd (fun i j => decide (i ≤ j)) (fun i j => !decide (j < i))) := op_le.or op_le_str
theorem op_gtO : OpR X (compareOp .Gt) (rOrd (fun i j => decide (j < i)) (fun i j => decide (j < i))) := op_gt.or op_gt_str
theorem op_geO : OpR X (compareOp .GtE) (rOrd (fun i j => decide (j ≤ i)) (fun i j => !decide (i < j))) := op_ge.or op_ge_str
theorem de_lt (ha : DE X Γ W a φa) (hb : DE X Γ W b φb) : DE X Γ W (.Compare a [.Lt] [b] pos) (opR ltD φa φb) := de_cmp op_ltO ordD_s ha hb (nomark _)
theorem de_le (ha : DE X Γ W a φa) (hb : DE X Γ W b φb) : DE X Γ W (.Compare a [.LtE] [b] pos) (opR leD φa φb) := de_cmp op_leO ordD_s ha hb (nomark _)
theorem de_gt (ha : DE X Γ W a φa) (hb : DE X Γ W b φb) : DE X Γ W (.Compare a [.Gt] [b] pos) (opR gtD φa φb) := de_cmp op_gtO ordD_s ha hb (nomark _)
theorem de_ge (ha : DE X Γ W a φa) (hb : DE X Γ W b φb) : DE X Γ W (.Compare a [.GtE] [b] pos) (opR geD φa φb) := de_cmp op_geO ordD_s ha hb (nomark _)
/-- a < b < c -/
def chainR (f g : OpD) (a b c : RE) : RE := fun δ E P => a δ E fun x δ1 => b δ1 E fun y δ2 => f x y fun t => match t with
  | .bool t => bifP t (c δ2 E fun z δ3 => g y z fun d => P d δ3) (P (.bool false) δ2)
  | _ => False
theorem de_chain {op op' : CmpOp} {f g : Int → Int → Bool} {f' g' : List Nat → List Nat → Bool} (o : OpR X (compareOp op) (rOrd f f')) (o' : OpR X (compareOp op') (rOrd g g')) (ha : DE X Γ W a φa) (hb : DE X Γ W b φb) (hc : DE X Γ W c φc)
    (pe : ∀ {r r' : R2} {ta tb tc : TE}, OpR X (compareOp op) r → OpR X (compareOp op') r' → PE X a ta → PE X b tb → PE X c tc → PE X (.Compare a [op, op'] [b, c] pos) (tChain r r' ta tb tc)) :
    DE X Γ W (.Compare a [op, op'] [b, c] pos) (chainR (ordD f f') (ordD g g') φa φb φc) := by
  have mf : ∀ (f : Int → Int → Bool) (g : List Nat → List Nat → Bool) dx dy P P', (∀ d, P d → P' d) → ordD f g dx dy P → ordD f g dx dy P' := fun f g => (ordD_s (K := X.K)).mono
  refine de_mk (pe o o' ha.run hb.run hc.run) ?_ ?_
  · intro δ E E' P P' he hp q
    refine ha.mono _ _ _ _ _ he (fun x δ1 q1 => hb.mono _ _ _ _ _ he (fun y δ2 q2 => mf _ _ _ _ _ _ (fun t q3 => ?_) q2) q1) q
    cases t with
    | bool t =>
      cases t with
      | true => exact hc.mono _ _ _ _ _ he (fun z δ3 q4 => mf _ _ _ _ _ _ (fun d => hp d δ3) q4) q3
      | false => exact hp _ _ q3
    | _ => exact q3
  · intro σ H Q hid δ G R q
    refine ha.go R q fun dx δ1 v H1 G1 q1 R1 s1 d1 => hb.go R1 q1 fun dy δ2 u H2 G2 q2 R2 s2 d2 => ?_
    refine (ordD_s (K := X.K)).ok v u dx dy H2 G2 _ _ R2.sub (dp_mono s2 d1) d2 q2 fun t w H3 G3 p gw dd => ?_
    cases dd with
    | bl t =>
      refine ⟨t, rfl, ?_⟩
      have R3 := R2.grow gw
      cases t with
      | true =>
        refine iteT (hc.go (P := fun dz δ3 => ordD g g' dy dz fun d => KV X.K Γ hid σ G Q d δ3) R3 p fun dz δ3 z H4 G4 q4 R4 s4 d4 => (ordD_s (K := X.K)).ok u z dy dz H4 G4 _ Q R4.sub (dp_mono (gw.data.trans s4) d2) d4 q4 fun d w2 H5 G5 p5 g5 dd5 => p5 w2 H5 G5 (R4.grow g5) ((((s1.trans s2).trans gw.data).trans s4).trans g5.data) dd5)
      | false => exact iteF (p (.bl false) H3 G3 R3 ((s1.trans s2).trans gw.data) (.bl false))
    | _ => exact p.elim
theorem de_lele (ha : DE X Γ W a φa) (hb : DE X Γ W b φb) (hc : DE X Γ W c φc) (hm : lastMarks [.LtE, .LtE] [b, c] = false := by rfl) : DE X Γ W (.Compare a [.LtE, .LtE] [b, c] pos) (chainR leD leD φa φb φc) := de_chain op_leO op_leO ha hb hc fun o o' ha hb hc => pe_chain o o' ha hb hc hm
theorem de_lelt (ha : DE X Γ W a φa) (hb : DE X Γ W b φb) (hc : DE X Γ W c φc) (hm : lastMarks [.LtE, .Lt] [b, c] = false := by rfl) : DE X Γ W (.Compare a [.LtE, .Lt] [b, c] pos) (chainR leD ltD φa φb φc) := de_chain op_leO op_ltO ha hb hc fun o o' ha hb hc => pe_chain o o' ha hb hc hm
theorem de_ltle (ha : DE X Γ W a φa) (hb : DE X Γ W b φb) (hc : DE X Γ W c φc) (hm : lastMarks [.Lt, .LtE] [b, c] = false := by rfl) : DE X Γ W (.Compare a [.Lt, .LtE] [b, c] pos) (chainR ltD leD φa φb φc) := de_chain op_ltO op_leO ha hb hc fun o o' ha hb hc => pe_chain o o' ha hb hc hm
theorem de_ltlt (ha : DE X Γ W a φa) (hb : DE X Γ W b φb) (hc : DE X Γ W c φc) (hm : lastMarks [.Lt, .Lt] [b, c] = false := by rfl) : DE X Γ W (.Compare a [.Lt, .Lt] [b, c] pos) (chainR ltD ltD φa φb φc) := de_chain op_ltO op_ltO ha hb hc fun o o' ha hb hc => pe_chain o o' ha hb hc hm
end
end DL

/-! Truth, conditions, displays, places, slices. -/
namespace DL
open PySem PySem.Spec PyProof.Rows L2
section
variable {X : Cx} {Γ : Ga} {W : WX} {a b c : Expr} {φa φb φc : RE} {pos : Pos} {es : List Expr}
/-! ### is None, in -/
def isNone : D → Bool
  | .none => true
  | _ => false
def isNR (a : RE) : RE := fun δ E P => a δ E fun x δ1 => P (.bool (isNone x)) δ1
def notNR (a : RE) : RE := fun δ E P => a δ E fun x δ1 => P (.bool (!isNone x)) δ1
theorem mono_1 {f : D → D} (ma : Mono φa) : Mono (fun δ E P => φa δ E fun x δ1 => P (f x) δ1 : RE) := fun _ _ _ _ _ he hp q => ma _ _ _ _ _ he (fun _ _ z => hp _ _ z) q
theorem dt_none {K : PySem.W.Frag} {G : Hp} {v : V} {d : D} (h : Dt K G v d) : decide (v = .non) = isNone d := by
  cases h <;> simp [isNone]
theorem de_isN {j p} (ha : DE X Γ W a φa) : DE X Γ W (.Compare a [.Is] [.Constant .none j p] pos) (isNR φa) :=
  de_mk (pe_cmp (pc_isN ha.run) rfl) (mono_1 (f := fun x => .bool (isNone x)) ha.mono) fun σ H Q hid δ G R q => ha.go R q fun d δ1 v H1 G1 q1 R1 s1 d1 => by
    rw [dt_none d1]
    exact q1 _ H1 G1 R1 s1 (.bl _)
theorem de_notN {j p} (ha : DE X Γ W a φa) : DE X Γ W (.Compare a [.IsNot] [.Constant .none j p] pos) (notNR φa) :=
  de_mk (pe_cmp (pc_notN ha.run) rfl) (mono_1 (f := fun x => .bool (!isNone x)) ha.mono) fun σ H Q hid δ G R q => ha.go R q fun d δ1 v H1 G1 q1 R1 s1 d1 => by
    rw [dt_none d1]
    exact q1 _ H1 G1 R1 s1 (.bl _)
def isBD : OpD := fun x y P => match x, y with
  | .bool i, .bool j => P (.bool (decide (i = j)))
  | _, _ => False
theorem isBD_s {K : PySem.W.Frag} : OpS K rIsB isBD := by
  refine ⟨?_, ?_⟩
  · intro x y dx dy H G P Q s hx hy q k
    cases hx with
    | bl i =>
      cases hy with
      | bl j => exact ⟨i, j, rfl, rfl, k _ _ H G q (.refl s) (.bl _)⟩
      | _ => exact q.elim
    | _ => exact q.elim
  · intro dx dy P P' hp f
    cases dx <;> cases dy <;> first | exact f.elim | exact hp _ f
theorem de_isB (ha : DE X Γ W a φa) (hb : DE X Γ W b φb) : DE X Γ W (.Compare a [.Is] [b] pos) (opR isBD φa φb) := de_cmp op_isBl isBD_s ha hb (nomark _)
/-- x in y: a sign in a text; flat things in a list or tuple; any things in a list -/
def flatD : D → Bool
  | .none => true
  | .bool _ => true
  | .int _ => true
  | .str _ => true
  | _ => false
def anyEq (x : D) (ds : List D) : Bool := ds.any fun y => PyData.eqv y x
def inDD (neg : Bool) : OpD := fun x y P => match x, y with
  | .str c, .str z => bifP (c.length == 1) (P (.bool (bif neg then !decide (c.cps.getD 0 0 ∈ z.cps.toList) else decide (c.cps.getD 0 0 ∈ z.cps.toList)))) False
  | x, .tuple ds => bifP (flatD x && ds.all flatD) (P (.bool (bif neg then !anyEq x ds else anyEq x ds))) False
  | x, .list ds => ((flatD x = true ∧ ds.all flatD = true) ∨ (SeqAt.shaped x = true ∧ SeqAt.shaped (.list ds) = true)) ∧ P (.bool (bif neg then !anyEq x ds else anyEq x ds))
  | _, _ => False
def rInA (K : PySem.W.Frag) (neg : Bool) : R2 := fun x y H Q => (∃ (c : Nat) (z : Str), x = .str ⟨#[c]⟩ ∧ y = .str z ∧ Q (.bl (bif neg then !decide (c ∈ z.cps.toList) else decide (c ∈ z.cps.toList))) H) ∨ rIn K neg x y H Q ∨
  (∃ d ds, Dp K H x d ∧ Dp K H y (.list ds) ∧ SeqAt.shaped d = true ∧ SeqAt.shaped (.list ds) = true ∧ Q (.bl (bif neg then !ds.any (fun z => PyData.eqv z d) else ds.any fun z => PyData.eqv z d)) H)
theorem op_inA (hu : X.A.units + 65 < cLine) : OpR X (compareOp .In) (rInA X.K false) := op_in_sign.or (op_in_seq.or (op_inD hu))
theorem op_notInA (hu : X.A.units + 65 < cLine) : OpR X (compareOp .NotIn) (rInA X.K true) := op_notIn_sign.or (op_notIn_seq.or (op_notInD hu))
theorem flat_V {K : PySem.W.Frag} {G : Hp} {v : V} {d : D} (h : Dt K G v d) (f : flatD d = true) : flatV v = true := by cases h <;> first | rfl | cases f
theorem eq_V {K : PySem.W.Frag} {G : Hp} {x y : V} {dx dy : D} (hx : Dt K G x dx) (hy : Dt K G y dy) (fx : flatD dx = true) (fy : flatD dy = true) : eqV y x = PyData.eqv dy dx := by
  cases hx <;> cases hy <;> first | (cases fx; done) | (cases fy; done) | (simp only [PyData.eqv, eqV]; done) | rfl
theorem flats_V {K : PySem.W.Frag} {G : Hp} : ∀ {vs : List V} {ds : List D}, Dts K G vs ds → ds.all flatD = true → vs.all flatV = true
  | _, _, .nil, _ => rfl
  | _, _, .cons h t, f => by
    rw [List.all_cons, Bool.and_eq_true] at f
    rw [List.all_cons, Bool.and_eq_true]
    exact ⟨flat_V h f.1, flats_V t f.2⟩
theorem inV_D {K : PySem.W.Frag} {G : Hp} {x : V} {dx : D} (hx : Dt K G x dx) (fx : flatD dx = true) : ∀ {vs : List V} {ds : List D}, Dts K G vs ds → ds.all flatD = true → inV x vs = anyEq dx ds
  | _, _, .nil, _ => rfl
  | _, _, .cons h t, f => by
    rw [List.all_cons, Bool.and_eq_true] at f
    have e := inV_D hx fx t f.2
    unfold inV anyEq at e ⊢
    rw [List.any_cons, List.any_cons, e, eq_V hx h fx f.1]
theorem inDD_s {K : PySem.W.Frag} {neg : Bool} : OpS K (rInA K neg) (inDD neg) := by
  refine ⟨?_, ?_⟩
  · intro x y dx dy H G P Q s hx hy f k
    have tupCase : ∀ {ds : List D}, Dt K G y (.tuple ds) → (flatD dx = true ∧ ds.all flatD = true) → P (.bool (bif neg then !anyEq dx ds else anyEq dx ds)) → rInA K neg x y H Q := fun {ds} hy f p => by
      cases hy with
      | tup h2 hb => exact .inr (.inl ⟨_, _, rfl, .inr (Same.seqT s h2), flat_V hx f.1, flats_V hb f.2, by rw [inV_D hx f.1 hb f.2]; cases neg <;> exact k _ _ H G p (.refl s) (.bl _)⟩)
    have lstCase : ∀ {ds : List D}, Dt K G y (.list ds) → ((flatD dx = true ∧ ds.all flatD = true) ∨ (SeqAt.shaped dx = true ∧ SeqAt.shaped (.list ds) = true)) → P (.bool (bif neg then !anyEq dx ds else anyEq dx ds)) → rInA K neg x y H Q := fun {ds} hy f p => by
      rcases f with f | f
      · cases hy with
        | lst h2 hb => exact .inr (.inl ⟨_, _, rfl, .inl (sql_of_rd (Same.rd s h2)), flat_V hx f.1, flats_V hb f.2, by rw [inV_D hx f.1 hb f.2]; cases neg <;> exact k _ _ H G p (.refl s) (.bl _)⟩)
      · exact .inr (.inr ⟨_, _, (dp_mono s hx).dp, (dp_mono s hy).dp, f.1, f.2, k _ _ H G p (.refl s) (.bl _)⟩)
    cases dy with
    | tuple ds =>
      have f' : (flatD dx = true ∧ ds.all flatD = true) ∧ P (.bool (bif neg then !anyEq dx ds else anyEq dx ds)) := by
        have f2 : bifP (flatD dx && ds.all flatD) (P (.bool (bif neg then !anyEq dx ds else anyEq dx ds))) False := by cases dx <;> exact f
        cases e : (flatD dx && ds.all flatD) with
        | true => rw [e] at f2; rw [Bool.and_eq_true] at e; exact ⟨e, f2⟩
        | false => rw [e] at f2; exact f2.elim
      exact tupCase hy f'.1 f'.2
    | list ds =>
      have f' : ((flatD dx = true ∧ ds.all flatD = true) ∨ (SeqAt.shaped dx = true ∧ SeqAt.shaped (.list ds) = true)) ∧ P (.bool (bif neg then !anyEq dx ds else anyEq dx ds)) := by cases dx <;> exact f
      exact lstCase hy f'.1 f'.2
    | str z =>
      cases hx with
      | str c =>
        cases hy
        obtain ⟨f1, f2⟩ : c.length = 1 ∧ P (.bool (bif neg then !decide (c.cps.getD 0 0 ∈ z.cps.toList) else decide (c.cps.getD 0 0 ∈ z.cps.toList))) := by
          have f2 : bifP (c.length == 1) (P (.bool (bif neg then !decide (c.cps.getD 0 0 ∈ z.cps.toList) else decide (c.cps.getD 0 0 ∈ z.cps.toList)))) False := f
          cases e : (c.length == 1) with
          | true => rw [e] at f2; exact ⟨by simpa using e, f2⟩
          | false => rw [e] at f2; exact f2.elim
        obtain ⟨c1, e⟩ : ∃ c1, c = ⟨#[c1]⟩ := by
          obtain ⟨⟨l⟩⟩ := c
          cases l with
          | nil => exact absurd f1 (by decide)
          | cons a r => cases r with
            | nil => exact ⟨a, rfl⟩
            | cons b r => exact absurd f1 (by simp [Str.length])
        subst e
        exact .inl ⟨c1, z, rfl, rfl, k _ _ H G f2 (.refl s) (.bl _)⟩
      | _ => exact f.elim
    | _ => cases dx <;> exact f.elim
  · intro dx dy P P' hp f
    cases dy with
    | tuple ds =>
      have f2 : bifP (flatD dx && ds.all flatD) (P (.bool (bif neg then !anyEq dx ds else anyEq dx ds))) False := by cases dx <;> exact f
      have g := bif_mono (hp _) id f2
      cases dx <;> exact g
    | list ds =>
      have f2 : ((flatD dx = true ∧ ds.all flatD = true) ∨ (SeqAt.shaped dx = true ∧ SeqAt.shaped (.list ds) = true)) ∧ P (.bool (bif neg then !anyEq dx ds else anyEq dx ds)) := by cases dx <;> exact f
      have g := And.intro f2.1 (hp _ f2.2)
      cases dx <;> exact g
    | str z =>
      cases dx with
      | str c =>
        have f2 : bifP (c.length == 1) (P (.bool (bif neg then !decide (c.cps.getD 0 0 ∈ z.cps.toList) else decide (c.cps.getD 0 0 ∈ z.cps.toList)))) False := f
        exact bif_mono (hp _) id f2
      | _ => exact f.elim
    | _ => cases dx <;> exact f.elim
theorem de_in (hu : X.A.units + 65 < cLine) (ha : DE X Γ W a φa) (hb : DE X Γ W b φb) (hm : behindInMarks .In b = false := by rfl) : DE X Γ W (.Compare a [.In] [b] pos) (opR (inDD false) φa φb) := de_cmp (op_inA hu) inDD_s ha hb hm
theorem de_notIn (hu : X.A.units + 65 < cLine) (ha : DE X Γ W a φa) (hb : DE X Γ W b φb) (hm : behindInMarks .NotIn b = false := by rfl) : DE X Γ W (.Compare a [.NotIn] [b] pos) (opR (inDD true) φa φb) := de_cmp (op_notInA hu) inDD_s ha hb hm
/-! ### and, or, not as values; tests -/
def boolK (x : D) (P : Bool → Prop) : Prop := match x with
  | .bool t => P t
  | _ => False
theorem boolK_mono {x : D} {P P' : Bool → Prop} (h : ∀ t, P t → P' t) (q : boolK x P) : boolK x P' := by
  cases x <;> first | exact h _ q | exact q
def andR (a b : RE) : RE := fun δ E P => a δ E fun x δ1 => boolK x fun t => bifP t (b δ1 E P) (P (.bool false) δ1)
def orR (a b : RE) : RE := fun δ E P => a δ E fun x δ1 => boolK x fun t => bifP t (P (.bool true) δ1) (b δ1 E P)
def notR (a : RE) : RE := fun δ E P => a δ E fun x δ1 => boolK x fun t => P (.bool (!t)) δ1
theorem mono_and (ma : Mono φa) (mb : Mono φb) : Mono (andR φa φb) := fun δ E E' P P' he hp q => ma _ _ _ _ _ he (fun x δ1 q1 => boolK_mono (fun t q2 => by
  cases t with
  | true => exact mb _ _ _ _ _ he hp q2
  | false => exact hp _ _ q2) q1) q
theorem mono_or (ma : Mono φa) (mb : Mono φb) : Mono (orR φa φb) := fun δ E E' P P' he hp q => ma _ _ _ _ _ he (fun x δ1 q1 => boolK_mono (fun t q2 => by
  cases t with
  | false => exact mb _ _ _ _ _ he hp q2
  | true => exact hp _ _ q2) q1) q
theorem mono_not (ma : Mono φa) : Mono (notR φa) := fun δ E E' P P' he hp q => ma _ _ _ _ _ he (fun x δ1 q1 => boolK_mono (fun t q2 => hp _ _ q2) q1) q
theorem dt_bool {K : PySem.W.Frag} {G : Hp} {v : V} {d : D} {P : Bool → Prop} (h : Dt K G v d) (q : boolK d P) : ∃ t, v = .bl t ∧ P t := by
  cases h with
  | bl t => exact ⟨t, rfl, q⟩
  | _ => exact q.elim
theorem de_one {op} (ha : DE X Γ W a φa) : DE X Γ W (.BoolOp op [a] pos) φa := ⟨pe_one ha.run, ha.mono⟩
theorem de_and {rest : List Expr} (ha : DE X Γ W a φa) (hb : DE X Γ W (.BoolOp .And (b :: rest) pos) φb) : DE X Γ W (.BoolOp .And (a :: b :: rest) pos) (andR φa φb) :=
  de_mk (pe_and ha.run hb.run) (mono_and ha.mono hb.mono) fun σ H Q hid δ G R q => ha.go R q fun d δ1 v H1 G1 q1 R1 s1 d1 => by
    obtain ⟨t, rfl, q2⟩ := dt_bool d1 q1
    refine ⟨t, rfl, ?_⟩
    cases t with
    | true => exact iteT (hb.go R1 q2 fun d δ2 w H2 G2 p R2 s2 d2 => p w H2 G2 R2 (s1.trans s2) d2)
    | false => exact iteF (q2 _ H1 G1 R1 s1 (.bl _))
theorem de_or {rest : List Expr} (ha : DE X Γ W a φa) (hb : DE X Γ W (.BoolOp .Or (b :: rest) pos) φb) : DE X Γ W (.BoolOp .Or (a :: b :: rest) pos) (orR φa φb) :=
  de_mk (pe_or ha.run hb.run) (mono_or ha.mono hb.mono) fun σ H Q hid δ G R q => ha.go R q fun d δ1 v H1 G1 q1 R1 s1 d1 => by
    obtain ⟨t, rfl, q2⟩ := dt_bool d1 q1
    refine ⟨t, rfl, ?_⟩
    cases t with
    | true => exact iteT (q2 _ H1 G1 R1 s1 (.bl _))
    | false => exact iteF (hb.go R1 q2 fun d δ2 w H2 G2 p R2 s2 d2 => p w H2 G2 R2 (s1.trans s2) d2)
theorem de_not (ha : DE X Γ W a φa) : DE X Γ W (.UnaryOp .Not a pos) (notR φa) :=
  de_mk (pe_not ha.run) (mono_not ha.mono) fun σ H Q hid δ G R q => ha.go R q fun d δ1 v H1 G1 q1 R1 s1 d1 => by
    obtain ⟨t, rfl, q2⟩ := dt_bool d1 q1
    exact ⟨t, rfl, q2 _ H1 G1 R1 s1 (.bl _)⟩
def neR (a : RE) : RE := fun δ E P => a δ E fun x δ1 => match x with | .int i => P (.int (-i)) δ1 | _ => False
theorem de_neg (ha : DE X Γ W a φa) : DE X Γ W (.UnaryOp .USub a pos) (neR φa) := by
  refine de_mk (pe_un un_neg ha.run) ?_ fun σ H Q hid δ G R q => ha.go R q fun d δ1 v H1 G1 q1 R1 s1 d1 => ?_
  · intro δ E E' P P' he hp q
    refine ha.mono _ _ _ _ _ he (fun x δ1 q1 => ?_) q
    cases x <;> first | exact hp _ _ q1 | exact q1
  · cases d1 with
    | int i => exact ⟨i, rfl, q1 _ H1 G1 R1 s1 (.int _)⟩
    | _ => exact q1.elim
/-- tests -/
def valT (a : RE) : RT := fun δ E P => a δ E fun x δ1 => boolK x fun t => P t δ1
theorem mono_valT (ma : Mono φa) : Mono (valT φa) := fun δ E E' P P' he hp q => ma _ _ _ _ _ he (fun x δ1 q1 => boolK_mono (fun t q2 => hp _ _ q2) q1) q
theorem dt_val (ha : DE X Γ W a φa) (he : ∀ whole, isTrue a X.env whole = (do let v ← whole; standAt a.pos; holding [v] (truthy v)) := by intro _; rfl) : DT X Γ W a (valT φa) :=
  dt_mk (pt_val ha.run he) (mono_valT ha.mono) fun σ H Q hid δ G R q => ha.go R q fun d δ1 v H1 G1 q1 R1 s1 d1 => by
    obtain ⟨t, rfl, q2⟩ := dt_bool d1 q1
    exact ⟨t, rfl, q2 H1 G1 R1 s1⟩
def andT (a b : RT) : RT := fun δ E P => a δ E fun t δ1 => bifP t (b δ1 E P) (P false δ1)
def orT (a b : RT) : RT := fun δ E P => a δ E fun t δ1 => bifP t (P true δ1) (b δ1 E P)
def notT (a : RT) : RT := fun δ E P => a δ E fun t δ1 => P (!t) δ1
variable {τa τb τc : RT}
theorem dw_and1 (ha : DT X Γ W a τa) : DW X Γ W (.BoolOp .And [a] pos) τa := ⟨pw_and1 ha.run, ha.mono⟩
theorem dw_or1 (ha : DT X Γ W a τa) : DW X Γ W (.BoolOp .Or [a] pos) τa := ⟨pw_or1 ha.run, ha.mono⟩
theorem dw_and {rest : List Expr} (ha : DT X Γ W a τa) (hb : DW X Γ W (.BoolOp .And (b :: rest) pos) τb) : DW X Γ W (.BoolOp .And (a :: b :: rest) pos) (andT τa τb) := by
  refine dw_mk (pw_and ha.run hb.run) ?_ fun σ H Q hid δ G R q => ha.go R q fun t δ1 H1 G1 q1 R1 s1 => ?_
  · intro δ E E' P P' he hp q
    refine ha.mono _ _ _ _ _ he (fun t δ1 q1 => ?_) q
    cases t with
    | true => exact hb.mono _ _ _ _ _ he hp q1
    | false => exact hp _ _ q1
  · cases t with
    | true => exact iteT ⟨hid, δ1, G1, R1, hb.mono _ _ _ _ _ (fun _ _ z => z) (fun t δ2 p H2 G2 R2 s2 => p H2 G2 R2 (s1.trans s2)) q1⟩
    | false => exact iteF (q1 H1 G1 R1 s1)
theorem dw_or {rest : List Expr} (ha : DT X Γ W a τa) (hb : DW X Γ W (.BoolOp .Or (b :: rest) pos) τb) : DW X Γ W (.BoolOp .Or (a :: b :: rest) pos) (orT τa τb) := by
  refine dw_mk (pw_or ha.run hb.run) ?_ fun σ H Q hid δ G R q => ha.go R q fun t δ1 H1 G1 q1 R1 s1 => ?_
  · intro δ E E' P P' he hp q
    refine ha.mono _ _ _ _ _ he (fun t δ1 q1 => ?_) q
    cases t with
    | false => exact hb.mono _ _ _ _ _ he hp q1
    | true => exact hp _ _ q1
  · cases t with
    | false => exact iteF ⟨hid, δ1, G1, R1, hb.mono _ _ _ _ _ (fun _ _ z => z) (fun t δ2 p H2 G2 R2 s2 => p H2 G2 R2 (s1.trans s2)) q1⟩
    | true => exact iteT (q1 H1 G1 R1 s1)
theorem DW.dt (h : DW X Γ W a τa) : DT X Γ W a τa := ⟨h.run.pt, h.mono⟩
theorem dt_not (ha : DT X Γ W a τa) : DT X Γ W (.UnaryOp .Not a pos) (notT τa) :=
  dt_mk (pt_not ha.run) (fun _ _ _ _ _ he hp q => ha.mono _ _ _ _ _ he (fun _ _ z => hp _ _ z) q) fun σ H Q hid δ G R q => ha.go R q fun t δ1 H1 G1 q1 R1 s1 => q1 H1 G1 R1 s1
theorem dt_cmp {op : CmpOp} {r : R2} {f : OpD} (o : OpR X (compareOp op) r) (s : OpS X.K r f) (ha : DE X Γ W a φa) (hb : DE X Γ W b φb) (hm : behindInMarks op b = false) : DT X Γ W (.Compare a [op] [b] pos) (valT (opR f φa φb)) := by
  refine dt_mk (pt_cmpR o ha.run hb.run hm) (mono_valT (mono_op s.mono ha.mono hb.mono)) fun σ H Q hid δ G R q => ?_
  refine ha.go R q fun dx δ1 v H1 G1 q1 R1 s1 d1 => hb.go R1 q1 fun dy δ2 u H2 G2 q2 R2 s2 d2 =>
    s.ok v u dx dy H2 G2 _ _ R2.sub (dp_mono s2 d1) d2 q2 fun d z H3 G3 p g dd => ?_
  obtain ⟨t, rfl, q3⟩ := dt_bool dd p
  exact ⟨t, rfl, q3 H3 G3 (R2.grow g) ((s1.trans s2).trans g.data)⟩
/-! ### a if t else b -/
def ifR (t : RT) (a b : RE) : RE := fun δ E P => t δ E fun c δ1 => bifP c (a δ1 E P) (b δ1 E P)
theorem de_if (ht : DT X Γ W c τc) (ha : DE X Γ W a φa) (hb : DE X Γ W b φb) : DE X Γ W (.IfExp c a b pos) (ifR τc φa φb) := by
  refine de_mk (pe_ifExp ht.run ha.run hb.run) ?_ fun σ H Q hid δ G R q => ht.go R q fun t δ1 H1 G1 q1 R1 s1 => ?_
  · intro δ E E' P P' he hp q
    refine ht.mono _ _ _ _ _ he (fun t δ1 q1 => ?_) q
    cases t with
    | true => exact ha.mono _ _ _ _ _ he hp q1
    | false => exact hb.mono _ _ _ _ _ he hp q1
  · cases t with
    | true => exact iteT (ha.go R1 q1 fun d δ2 w H2 G2 p R2 s2 d2 => p w H2 G2 R2 (s1.trans s2) d2)
    | false => exact iteF (hb.go R1 q1 fun d δ2 w H2 G2 p R2 s2 d2 => p w H2 G2 R2 (s1.trans s2) d2)
/-! ### argument lists, displays -/
def nilA : RA := fun δ _ P => P [] δ
def consA (a : RE) (r : RA) : RA := fun δ E P => a δ E fun x δ1 => r δ1 E fun xs δ2 => P (x :: xs) δ2
theorem da_nil : DA X Γ W [] nilA := da_mk pa_nil (fun _ _ _ _ _ _ hp q => hp _ _ q) (fun σ H Q hid δ G R q => q [] H G R (Same.refl _) .nil) fun _ _ _ q => ⟨rfl, q⟩
theorem da_cons {ρ : RA} (ha : DE X Γ W a φa) (hr : DA X Γ W es ρ) (hs : starEach (a :: es) X.env = (false, eval a X.env) :: starEach es X.env := by rfl) : DA X Γ W (a :: es) (consA φa ρ) :=
  da_mk (pa_cons ha.run hr.run hs) (fun _ _ _ _ _ he hp q => ha.mono _ _ _ _ _ he (fun _ _ z => hr.mono _ _ _ _ _ he (fun _ _ z2 => hp _ _ z2) z) q) (fun σ H Q hid δ G R q =>
    ha.go R q fun d δ1 v H1 G1 q1 R1 s1 d1 => hr.go R1 q1 fun ds δ2 vs H2 G2 q2 R2 s2 d2 => q2 (v :: vs) H2 G2 R2 (s1.trans s2) (.cons (dp_mono s2 d1) d2)) fun _ _ _ q => ha.mono _ _ _ _ _ (fun _ _ z => z) (fun d δ1 q1 => hr.mono _ _ _ _ _ (fun _ _ z => z) (fun ds δ2 q2 => ⟨congrArg (· + 1) q2.1, q2.2⟩) (hr.len _ _ _ q1)) q
def tupR (t : RA) : RE := fun δ E P => t δ E fun ds δ1 => P (.tuple ds) δ1
def lstR (t : RA) : RE := fun δ E P => t δ E fun ds δ1 => P (.list ds) δ1
theorem de_tup {ρ : RA} {x1} (h : DA X Γ W es ρ) (hl : es.length ≤ sizeLine := by decide) : DE X Γ W (.Tuple es x1 pos) (tupR ρ) :=
  de_mk (pe_tup h.run) (fun _ _ _ _ _ he hp q => h.mono _ _ _ _ _ he (fun _ _ z => hp _ _ z) q) fun σ H Q hid δ G R q => h.go R (h.len _ _ _ q) fun ds δ1 vs H1 G1 q1 R1 s1 d1 =>
    ⟨by rw [dpa_length d1, q1.1]; exact hl, fun p np => by
      have g := Grow.new (o := .tup vs) R1.sub np
      exact q1.2 _ _ _ (R1.grow g) (s1.trans g.data) (.tup (.of upd_same) (dpa_mono g.data d1))⟩
theorem de_lst {ρ : RA} (h : DA X Γ W es ρ) (hl : es.length ≤ sizeLine := by decide) : DE X Γ W (.List es pos) (lstR ρ) :=
  de_mk (pe_lst h.run) (fun _ _ _ _ _ he hp q => h.mono _ _ _ _ _ he (fun _ _ z => hp _ _ z) q) fun σ H Q hid δ G R q => h.go R (h.len _ _ _ q) fun ds δ1 vs H1 G1 q1 R1 s1 d1 =>
    ⟨by rw [dpa_length d1, q1.1]; exact hl, fun p np => by
      have g := Grow.new (o := .lst vs) R1.sub np
      exact q1.2 _ _ _ (R1.grow g) (s1.trans g.data) (.lst (.inl upd_same) (dpa_mono g.data d1))⟩
/-! ### places, slices -/
theorem atI_D {K : PySem.W.Frag} {G : Hp} {vs : List V} {ds : List D} {i : Int} {d : D} (h : Dts K G vs ds) (e : atI ds i = some d) : ∃ v, atI vs i = some v ∧ Dt K G v d := by
  unfold atI at e ⊢
  rw [dpa_length h]
  cases q : ixN ds.length i with
  | none => rw [q] at e; cases e
  | some j =>
    rw [q] at e
    exact dpa_get h e
def ixD : OpD := fun x y P => match x, y with
  | .list ds, .int i => optK (atI ds i) P
  | .tuple ds, .int i => optK (atI ds i) P
  | .str z, .int i => z.length ≤ sizeLine ∧ optK (atI z.cps.toList i) fun c => P (.str ⟨#[c]⟩)
  | _, _ => False
theorem ixD_s {K : PySem.W.Frag} : OpS K (rIx K) ixD := by
  refine ⟨?_, ?_⟩
  · intro x y dx dy H G P Q s hx hy f k
    cases hy with
    | int i =>
      cases hx with
      | lst h ha =>
        obtain ⟨d, e, p⟩ := optK_get f
        obtain ⟨v, e2, dv⟩ := atI_D ha e
        exact .inl ⟨_, _, i, v, rfl, rfl, sql_of_rd (Same.rd s h), e2, k _ _ H G p (.refl s) dv⟩
      | tup h ha =>
        obtain ⟨d, e, p⟩ := optK_get f
        obtain ⟨v, e2, dv⟩ := atI_D ha e
        exact .inr (.inl ⟨_, _, i, v, rfl, rfl, Same.seqT s h, e2, k _ _ H G p (.refl s) dv⟩)
      | str z =>
        obtain ⟨f1, f2⟩ := f
        obtain ⟨c, e, p⟩ := optK_get f2
        exact .inr (.inr ⟨z, i, c, rfl, rfl, f1, e, k _ _ H G p (.refl s) (.str _)⟩)
      | _ => exact f.elim
    | _ => cases dx <;> exact f.elim
  · intro dx dy P P' hp f
    cases dx <;> cases dy <;> first | exact f.elim | exact optK_mono hp f | exact ⟨f.1, optK_mono (fun _ => hp _) f.2⟩
theorem de_ix (ha : DE X Γ W a φa) (hb : DE X Γ W b φb) (hs : PlainIx b := by exact fun _ _ => rfl) : DE X Γ W (.Subscript a b pos) (opR ixD φa φb) :=
  de_mk (pe_ix ix_seq ha.run hb.run hs) (mono_op (ixD_s (K := X.K)).mono ha.mono hb.mono) (op_go ixD_s ha hb)
/-- a part of a slice -/
abbrev RO := DS → KE → (Option Int → DS → Prop) → Prop
structure DO (X : Cx) (Γ : Ga) (W : WX) (e : Option Expr) (φ : RO) : Prop where
  run : ∀ (σ : L2.St) (H : Hp) (hid : Hd) (δ : DS) (G : Hp) (P : Option Int → DS → Prop), Rel X.K Γ hid σ H δ G → φ δ (EK X.K Γ W hid) P → ∀ Q : Option Int → Hp → Prop, (∀ o δ1 H1 G1, P o δ1 → Rel X.K Γ hid σ H1 δ1 G1 → Same G G1 → Q o H1) →
    ∀ (pins : List (Addr × Obj)) (s : Shared), Inv X pins σ H s → wpAny (model X.prog X.w) X.A (evalPart e X.env) (fun u s' => ∃ o H', Inv X pins σ H' s' ∧ IsPart u o ∧ Q o H') X.xe s
  mono : Mono φ
def noO : RO := fun δ _ P => P none δ
def someO (a : RE) : RO := fun δ E P => a δ E fun x δ1 => match x with | .int i => P (some i) δ1 | _ => False
theorem do_none : DO X Γ W none noO := ⟨fun σ H hid δ G P R q Q k pins s I => po_none.run pins s σ H Q I (k _ _ _ _ q R (Same.refl _)), fun _ _ _ _ _ _ hp q => hp _ _ q⟩
theorem do_some (ha : DE X Γ W a φa) : DO X Γ W (some a) (someO φa) := by
  refine ⟨fun σ H hid δ G P R q Q k pins s I => (po_some ha.run).run pins s σ H Q I ?_, ?_⟩
  · refine ha.go R q fun d δ1 v H1 G1 q1 R1 s1 d1 => ?_
    cases d1 with
    | int i => exact ⟨i, rfl, k _ _ _ _ q1 R1 s1⟩
    | _ => exact q1.elim
  · intro δ E E' P P' he hp q
    refine ha.mono _ _ _ _ _ he (fun x δ1 q1 => ?_) q
    cases x <;> first | exact hp _ _ q1 | exact q1
def cutL {α : Type} (xs : List α) (lo hi : Option Int) : List α := (xs.drop (HT.sIx xs.length 0 lo)).take (HT.sIx xs.length xs.length hi - HT.sIx xs.length 0 lo)
def slK (x : D) (lo hi : Option Int) (P : D → Prop) : Prop := match x with
  | .str z => z.length ≤ sizeLine ∧ P (.str (cutS z lo hi))
  | .list ds => P (.list (cutL ds lo hi))
  | .tuple ds => P (.tuple (cutL ds lo hi))
  | _ => False
def slR (a : RE) (l u : RO) : RE := fun δ E P => a δ E fun x δ1 => l δ1 E fun lo δ2 => u δ2 E fun hi δ3 => slK x lo hi fun d => P d δ3
theorem slK_mono {x : D} {lo hi : Option Int} {P P' : D → Prop} (h : ∀ t, P t → P' t) (q : slK x lo hi P) : slK x lo hi P' := by
  cases x <;> first | exact h _ q | exact ⟨q.1, h _ q.2⟩ | exact q
def rSlAll (K : PySem.W.Frag) : V → Option Int → Option Int → Hp → VK → Prop := fun x lo hi H Q => rSlS x lo hi H Q ∨ rSlL K x lo hi H Q ∨ rSlA K x lo hi H Q
theorem cut_D {K : PySem.W.Frag} {G : Hp} {vs : List V} {ds : List D} (h : Dts K G vs ds) (lo hi : Option Int) : Dts K G (cutV vs lo hi) (cutL ds lo hi) := by
  unfold cutV cutL
  rw [dpa_length h]
  exact dpa_take _ (dpa_drop _ h)
theorem cut_all {α : Type} {xs : List α} {lo hi : Option Int} (e : HT.sIx xs.length 0 lo = 0 ∧ HT.sIx xs.length xs.length hi = xs.length) : cutL xs lo hi = xs := by
  unfold cutL
  rw [e.1, e.2]
  simp
theorem po_of {P : Option Expr} {φ : RO} {t : TO} (h : PO X P t) : PO X P t := h
theorem de_slice {lo hi : Option Expr} {oL oH : RO} {p2} (ha : DE X Γ W a φa) (hl : DO X Γ W lo oL) (hh : DO X Γ W hi oH) : DE X Γ W (.Subscript a (.Slice lo hi none p2) pos) (slR φa oL oH) := by
  have ol : PO X lo (fun σ H Q => ∃ hid δ G P, Rel X.K Γ hid σ H δ G ∧ oL δ (EK X.K Γ W hid) P ∧ ∀ o δ1 H1 G1, P o δ1 → Rel X.K Γ hid σ H1 δ1 G1 → Same G G1 → Q o H1) :=
    ⟨fun pins s σ H Q I ⟨hid, δ, G, P, R, q, k⟩ => hl.run σ H hid δ G P R q Q k pins s I⟩
  have oh : PO X hi (fun σ H Q => ∃ hid δ G P, Rel X.K Γ hid σ H δ G ∧ oH δ (EK X.K Γ W hid) P ∧ ∀ o δ1 H1 G1, P o δ1 → Rel X.K Γ hid σ H1 δ1 G1 → Same G G1 → Q o H1) :=
    ⟨fun pins s σ H Q I ⟨hid, δ, G, P, R, q, k⟩ => hh.run σ H hid δ G P R q Q k pins s I⟩
  refine de_mk (pe_slice (r := rSlAll X.K) (sl_str.or (sl_list.or sl_tupA)) ha.run ol oh) ?_ ?_
  · exact fun _ _ _ _ _ he hp q => ha.mono _ _ _ _ _ he (fun _ _ q1 => hl.mono _ _ _ _ _ he (fun _ _ q2 => hh.mono _ _ _ _ _ he (fun _ _ q3 => slK_mono (fun _ z => hp _ _ z) q3) q2) q1) q
  · intro σ H Q hid δ G R q
    refine ha.go R q fun d δ1 v H1 G1 q1 R1 s1 d1 => ⟨hid, δ1, G1, _, R1, q1, fun lo δ2 H2 G2 q2 R2 s2 => ⟨hid, δ2, G2, _, R2, q2, fun hi δ3 H3 G3 q3 R3 s3 => ?_⟩⟩
    have ss := s2.trans s3
    have sa := (s1.trans s2).trans s3
    cases d1 with
    | str z => exact .inl ⟨z, rfl, q3.1, q3.2 _ H3 G3 R3 sa (.str _)⟩
    | @lst a1 xs1 ds1 h1 hd =>
      refine .inr (.inl ⟨_, _, rfl, sql_of_rd (Same.rd R3.sub (Same.rd ss h1)), fun p np => ?_⟩)
      have g := Grow.new (o := .lst (cutV xs1 lo hi)) R3.sub np
      exact q3 _ _ _ (R3.grow g) (sa.trans g.data) (.lst (.inl upd_same) (cut_D (dpa_mono (ss.trans g.data) hd) lo hi))
    | @tup a1 xs1 ds1 h1 hd =>
      refine .inr (.inr ⟨_, _, rfl, Same.seqT R3.sub (Same.seqT ss h1), fun e => ?_, fun _ p np => ?_⟩)
      · rw [dpa_length hd] at e
        have e3 := cut_all e
        have q4 : KV X.K Γ hid σ G Q (.tuple (cutL ds1 lo hi)) δ3 := q3
        rw [e3] at q4
        exact q4 _ H3 G3 R3 sa (.tup (Same.seqT ss h1) (dpa_mono ss hd))
      · have g := Grow.new (o := .tup (cutV xs1 lo hi)) R3.sub np
        exact q3 _ _ _ (R3.grow g) (sa.trans g.data) (.tup (.of upd_same) (cut_D (dpa_mono (ss.trans g.data) hd) lo hi))
    | _ => exact q3.elim
end
end DL

/-! Calls, statements. -/
namespace DL
open PySem PySem.Spec PyProof.Rows L2
/-- what is promised of data: the arguments, what an exception must bear, what the value must bear -/
abbrev SP := List D → (Exn → Prop) → (D → Prop) → Prop
def spD (K : PySem.W.Frag) (S : SP) : Sp := fun vs H Q E => ∃ G ds, Same G H ∧ Dts K G vs ds ∧ S ds (fun x => ∀ cls d H' G', Grow [] H G H' G' → ExR K H' G' x cls d → E cls d H') (fun d => ∀ v H' G', Grow [] H G H' G' → Dt K G' v d → Q v H')
def MonoS (S : SP) : Prop := ∀ ds (E E' : Exn → Prop) (P P' : D → Prop), (∀ x, E x → E' x) → (∀ d, P d → P' d) → S ds E P → S ds E' P'
/-- a new object: of no slot, no datum -/
structure New (K : PySem.W.Frag) (Γ : Ga) (hid : Hd) (σ : L2.St) (H : Hp) (δ : DS) (G : Hp) (p : Addr) (o : MO) : Prop where
  g : G p = none
  h0 : Γ.H0 p = none
  hd : ∀ q ∈ hid.ls, q.1 ≠ p
  ow : ∀ j, Own δ j → ¬ At σ j p
  mo : MOk K G H p o
theorem New.of {K : PySem.W.Frag} {Γ : Ga} {hid : Hd} {σ : L2.St} {H : Hp} {δ : DS} {G : Hp} {p : Addr} {o : MO} {u : HO} (R : Rel K Γ hid σ H δ G) (np : H p = none) (mo : MOk K G (upd H p u) p o) : New K Γ hid σ (upd H p u) δ G p o := by
  refine ⟨?_, ?_, fun q hq z => ?_, fun j ⟨o2, h⟩ a => ?_, mo⟩
  · cases e : G p with
    | none => rfl
    | some u => have := R.sub p u e; rw [np] at this; cases this
  · cases e : Γ.H0 p with
    | none => rfl
    | some u => exact absurd np (R.here (by rw [e]; exact fun z => nomatch z))
  · have := (R.hds q hq).1
    rw [z, np] at this; cases this
  · rcases h with h | h
    · obtain ⟨p', a', _, _, _, m⟩ := R.sl j _ h
      cases a.inj a'
      exact m.here np
    · obtain ⟨p', a', _, _, _, m⟩ := R.sl j _ h
      cases a.inj a'
      exact m.here np
/-- a new object becomes data -/
theorem Rel.newData {K : PySem.W.Frag} {Γ : Ga} {hid : Hd} {σ : L2.St} {H : Hp} {δ : DS} {G : Hp} {p : Addr} {ds : List D} (R : Rel K Γ hid σ H δ G) (n : New K Γ hid σ H δ G p (.lst ds)) :
    ∃ G', Rel K Γ hid σ H δ G' ∧ Same G G' ∧ Dt K G' (.ref p) (.list ds) := by
  obtain ⟨vs, hp, hv⟩ := n.mo
  have sG : Same G (upd G p (.lst vs)) := fun a u e => by rw [upd_ne (ne_of_none e n.g)]; exact e
  refine ⟨upd G p (.lst vs), ⟨fun a u e => ?_, R.ext.trans sG, fun a e => ?_, R.fr, R.prs, R.len, fun j s e => ?_, R.dist, fun q hq => ?_, R.gb.trans sG⟩, sG, .lst (.inl upd_same) (dpa_mono sG hv)⟩
  · by_cases c : a = p
    · rw [c, upd_same] at e; rw [c]; cases e; exact hp
    · rw [upd_ne c] at e; exact R.sub a u e
  · have c : a ≠ p := fun z => by rw [z] at e; exact e n.h0
    rw [upd_ne c]; exact R.old a e
  · have q := R.sl j s e
    cases s with
    | sh d => obtain ⟨v, h1, h2⟩ := q; exact ⟨v, h1, dp_mono sG h2⟩
    | ow o =>
      obtain ⟨r, h1, h2, h3, h4, h5⟩ := q
      have c : r ≠ p := fun z => n.ow j ⟨o, .inl e⟩ (z ▸ h1)
      exact ⟨r, h1, by rw [upd_ne c]; exact h2, h3, h4, h5.mono sG fun _ z => z⟩
    | io o =>
      obtain ⟨r, h1, h2, h3, h4, h5⟩ := q
      have c : r ≠ p := fun z => n.ow j ⟨o, .inr e⟩ (z ▸ h1)
      exact ⟨r, h1, by rw [upd_ne c]; exact h2, h3, h4, h5.mono sG fun _ z => z⟩
  · obtain ⟨h1, h2, h3⟩ := R.hds q hq
    exact ⟨h1, by rw [upd_ne (n.hd q hq)]; exact h2, h3⟩
abbrev RN := DS → KE → (MO → DS → Prop) → Prop
section
variable (K : PySem.W.Frag) (Γ : Ga) (W : WX)
def KN (hid : Hd) (σ : L2.St) (G : Hp) (Q : VK) : MO → DS → Prop := fun o δ => ∀ p H' G', Rel K Γ hid σ H' δ G' → Same G G' → New K Γ hid σ H' δ G' p o → Q (.ref p) H'
def LN (φ : RN) : TE := fun σ H Q => ∃ hid δ G, Rel K Γ hid σ H δ G ∧ φ δ (EK K Γ W hid) (KN K Γ hid σ G Q)
end
/-- an expression whose value is a new object -/
structure DN (X : Cx) (Γ : Ga) (W : WX) (e : Expr) (φ : RN) : Prop where
  run : PE X e (LN X.K Γ W φ)
  mono : Mono φ
section
variable {X : Cx} {Γ : Ga} {W : WX} {a b c : Expr} {φa φb φc : RE} {pos : Pos} {es : List Expr} {CX : CXT} {k : Nat} {f : Addr} {fd : FuncData} {ps : List Str} {S : SP} {ρ : RA} {x : Str} {p : Pos}
theorem dn_mk {e : Expr} {t : TE} {φ : RN} (h : PE X e t) (m : Mono φ) (i : ∀ σ H Q hid δ G, Rel X.K Γ hid σ H δ G → φ δ (EK X.K Γ W hid) (KN X.K Γ hid σ G Q) → t σ H Q) : DN X Γ W e φ :=
  ⟨PE.imp h fun σ H Q ⟨hid, δ, G, R, q⟩ => i σ H Q hid δ G R q, m⟩
def frR (φ : RN) : RE := fun δ E P => φ δ E fun o δ1 => match o with | .lst ds => P (.list ds) δ1
theorem de_of {e : Expr} {φ : RN} (h : DN X Γ W e φ) : DE X Γ W e (frR φ) := by
  refine de_mk h.run (fun _ _ _ _ _ he hp q => h.mono _ _ _ _ _ he (fun o _ z => by cases o; exact hp _ _ z) q) fun σ H Q hid δ G R q => ⟨hid, δ, G, R, h.mono _ _ _ _ _ (fun _ _ z => z) (fun o δ1 q1 => ?_) q⟩
  cases o with
  | lst ds =>
    intro p H1 G1 R1 s1 n
    obtain ⟨G2, R2, s2, d2⟩ := R1.newData n
    exact q1 _ H1 G2 R2 (s1.trans s2) d2
def lstN (t : RA) : RN := fun δ E P => t δ E fun ds δ1 => P (.lst ds) δ1
theorem dn_lst (h : DA X Γ W es ρ) (hl : es.length ≤ sizeLine := by decide) : DN X Γ W (.List es pos) (lstN ρ) :=
  dn_mk (pe_lst h.run) (fun _ _ _ _ _ he hp q => h.mono _ _ _ _ _ he (fun _ _ z => hp _ _ z) q) fun σ H Q hid δ G R q => h.go R (h.len _ _ _ q) fun ds δ1 vs H1 G1 q1 R1 s1 d1 =>
    ⟨by rw [dpa_length d1, q1.1]; exact hl, fun p np => by
      have g := Grow.newO (o := .lst vs) R1.sub np
      exact q1.2 _ _ _ (R1.grow g) s1 (.of R1 np ⟨vs, upd_same, d1⟩)⟩
/-- [..] * k -/
def repN (a b : RE) : RN := fun δ E P => a δ E fun x δ1 => b δ1 E fun y δ2 => match x, y with
  | .list xs, .int k => (0 ≤ k ∧ xs.length * k.toNat ≤ sizeLine ∧ k < 2 ^ 63) ∧ P (.lst (List.replicate k.toNat xs).flatten) δ2
  | _, _ => False
theorem dn_rep (ha : DE X Γ W a φa) (hb : DE X Γ W b φb) : DN X Γ W (.BinOp a .Mult b pos) (repN φa φb) := by
  refine dn_mk (pe_op op_repR ha.run hb.run) ?_ fun σ H Q hid δ G R q => ha.go R q fun dx δ1 v H1 G1 q1 R1 s1 d1 => hb.go R1 q1 fun dy δ2 u H2 G2 q2 R2 s2 d2 => ?_
  · intro δ E E' P P' he hp q
    refine ha.mono _ _ _ _ _ he (fun x δ1 q1 => hb.mono _ _ _ _ _ he (fun y δ2 q2 => ?_) q1) q
    cases x <;> cases y <;> first | exact q2.elim | exact ⟨q2.1, hp _ _ q2.2⟩
  · cases d2 with
    | int j =>
      cases d1 with
      | @lst a1 xs1 ds1 h1 ha1 =>
        obtain ⟨⟨f0, f1, f2⟩, f3⟩ := q2
        rw [← dpa_length ha1] at f1
        refine ⟨_, _, _, rfl, rfl, Same.rd R2.sub (Same.rd s2 h1), by omega, f2, f1, fun p np => ?_⟩
        have g := Grow.newO (o := .lst (List.replicate j.toNat xs1).flatten) R2.sub np
        exact f3 _ _ _ (R2.grow g) (s1.trans s2) (.of R2 np ⟨_, upd_same, dpa_rep (dpa_mono s2 ha1) _⟩)
      | _ => exact q2.elim
    | _ => cases dx <;> exact q2.elim
/-- x + y of lists -/
def catN (a b : RE) : RN := fun δ E P => a δ E fun x δ1 => b δ1 E fun y δ2 => match x, y with
  | .list xs, .list ys => xs.length + ys.length ≤ sizeLine ∧ P (.lst (xs ++ ys)) δ2
  | _, _ => False
theorem dn_cat (ha : DE X Γ W a φa) (hb : DE X Γ W b φb) : DN X Γ W (.BinOp a .Add b pos) (catN φa φb) := by
  refine dn_mk (pe_op op_catR ha.run hb.run) ?_ fun σ H Q hid δ G R q => ha.go R q fun dx δ1 v H1 G1 q1 R1 s1 d1 => hb.go R1 q1 fun dy δ2 u H2 G2 q2 R2 s2 d2 => ?_
  · intro δ E E' P P' he hp q
    refine ha.mono _ _ _ _ _ he (fun x δ1 q1 => hb.mono _ _ _ _ _ he (fun y δ2 q2 => ?_) q1) q
    cases x <;> cases y <;> first | exact q2.elim | exact ⟨q2.1, hp _ _ q2.2⟩
  · cases d1 with
    | @lst a1 xs1 ds1 h1 ha1 =>
      cases d2 with
      | @lst a2 xs2 ds2 h2 ha2 =>
        obtain ⟨f1, f3⟩ := q2
        rw [← dpa_length ha1, ← dpa_length ha2] at f1
        refine ⟨_, _, _, _, rfl, rfl, Same.rd R2.sub (Same.rd s2 h1), Same.rd R2.sub h2, f1, fun p np => ?_⟩
        have g := Grow.newO (o := .lst (xs1 ++ xs2)) R2.sub np
        exact f3 _ _ _ (R2.grow g) (s1.trans s2) (.of R2 np ⟨_, upd_same, dpa_append (dpa_mono s2 ha1) ha2⟩)
      | _ => exact q2.elim
    | _ => cases dy <;> exact q2.elim
/-! ### calls -/
def callR (S : SP) (ρ : RA) : RE := fun δ E P => ρ δ E fun ds δ1 => S ds (fun x => E x δ1) (fun d => P d δ1)
theorem passZ {σ : L2.St} {E : XK} : PassesAt CX0 X σ E := fun _ _ _ _ _ _ h => h.elim
theorem run_fnA {pins : List (Addr × Obj)} {σ : L2.St} {H : Hp} {s : Shared} {Q : VK} {us : List Value} {vs : List V} {sp : Sp} {E : XK} (F : FnOk X.prog X.w X.K X.mg X.base CX k f fd ps sp) (hr : Room k X.A) (hb : Binds X.K fd ps []) (hx : PassesAt CX X σ E)
    (I : Inv X pins σ H s) (r : Vals vs us) (h : sp vs H Q E) : wpAny (model X.prog X.w) X.A (call (.ref f) us) (EP X pins σ Q) X.xe s :=
  run_fnS (E := fun _ => E) F hr hb hx I r h
theorem de_call (F : FnOk X.prog X.w X.K X.mg X.base CX k f fd ps (spD X.K S)) (mS : MonoS S) (hr : Room k X.A) (hm : X.mg x = some (.ref f)) (hk : PySem.W.keepIn X.K (.ref f) = true) (hb : Binds X.K fd ps []) (hx : ∀ σ, PassesAt CX X σ (WE W σ))
    (ha : DA X Γ W (a :: es) ρ) (hg : Gl X x := by rfl) (hdb : (x == ("__debug__" : Str)) = false := by decide) (he : starEach (a :: es) X.env = (false, eval a X.env) :: starEach es X.env := by rfl) (hpl : (backTo pos (starEach es X.env)).any (·.1) = false := by rfl) :
    DE X Γ W (.Call (.Name x p) (a :: es) [] pos) (callR S ρ) :=
  de_mk (pe_callS F hr hg hm hk hb hx ha.run hdb he hpl) (fun _ _ _ _ _ he hp q => ha.mono _ _ _ _ _ he (fun _ _ z => mS _ _ _ _ _ (fun _ => he _ _) (fun _ => hp _ _) z) q) fun σ H Q hid δ G R q => ha.go R q fun ds δ1 vs H1 G1 q1 R1 s1 d1 =>
    ⟨G1, ds, R1.sub, d1, mS _ _ _ _ _ (fun x1 h1 cls d H2 G2 g ex => h1 cls d σ H2 G2 (R1.grow g) ex) (fun d h1 v H2 G2 g dd => h1 v H2 G2 (R1.grow g) (s1.trans g.data) dd) q1⟩
/-- a built-in that hands back a flat thing -/
structure CalS (K : PySem.W.Frag) (r : List V → Hp → VK → Prop) (g : List D → (D → Prop) → Prop) : Prop where
  ok : ∀ vs ds H G P Q, Same G H → Dts K G vs ds → g ds P → (∀ d v H' G', P d → Grow [] H G H' G' → Dt K G' v d → Q v H') → r vs H Q
  mono : ∀ ds P P', (∀ d, P d → P' d) → g ds P → g ds P'
def bR (g : List D → (D → Prop) → Prop) (ρ : RA) : RE := fun δ E P => ρ δ E fun ds δ1 => g ds fun d => P d δ1
theorem bR_go {r : List V → Hp → VK → Prop} {g : List D → (D → Prop) → Prop} (s : CalS X.K r g) (ha : DA X Γ W es ρ) : ∀ σ H Q hid δ G, Rel X.K Γ hid σ H δ G → bR g ρ δ (EK X.K Γ W hid) (KV X.K Γ hid σ G Q) → tCB r (LA X.K Γ W ρ) σ H Q :=
  fun σ H Q hid δ G R q => ha.go R q fun ds δ1 vs H1 G1 q1 R1 s1 d1 => s.ok vs ds H1 G1 _ Q R1.sub d1 q1 fun d v H2 G2 p gw dd => p v H2 G2 (R1.grow gw) (s1.trans gw.data) dd
theorem de_bltn {r : List V → Hp → VK → Prop} {g : List D → (D → Prop) → Prop} {id : String} (hc : CallR X (.builtin id) r) (s : CalS X.K r g) (hm : X.mg x = none) (hv : bootBuiltins x = some (.builtin id)) (ha : DA X Γ W (a :: es) ρ) (hg : Gl X x := by rfl)
    (pe : PE X (.Call (.Name x p) (a :: es) [] pos) (tCB r (LA X.K Γ W ρ))) : DE X Γ W (.Call (.Name x p) (a :: es) [] pos) (bR g ρ) :=
  de_mk pe (fun _ _ _ _ _ he hp q => ha.mono _ _ _ _ _ he (fun _ _ z => s.mono _ _ _ (fun _ => hp _ _) z) q) (bR_go s ha)
end
end DL

/-! Built-in functions. -/
namespace DL
open PySem PySem.Spec PyProof.Rows L2
section
variable {K : PySem.W.Frag} {X : Cx} {Γ : Ga} {W : WX} {a b c : Expr} {φa φb φc : RE} {pos p : Pos} {es : List Expr} {ρ : RA}
theorem dts1 {G : Hp} {vs : List V} {d : D} (h : Dts K G vs [d]) : ∃ v, vs = [v] ∧ Dt K G v d := by
  cases h with
  | cons h t => cases t; exact ⟨_, rfl, h⟩
theorem dts2 {G : Hp} {vs : List V} {d e : D} (h : Dts K G vs [d, e]) : ∃ v u, vs = [v, u] ∧ Dt K G v d ∧ Dt K G u e := by
  cases h with
  | cons h t => cases t with
    | cons h2 t => cases t; exact ⟨_, _, rfl, h, h2⟩
/-- len -/
def lenG : List D → (D → Prop) → Prop
  | [.str z], P => z.length ≤ sizeLine ∧ P (.int z.length)
  | [.list ds], P => P (.int ds.length)
  | [.tuple ds], P => P (.int ds.length)
  | _, _ => False
theorem len_s : CalS K (fun xs H Q => ∃ x n, xs = [x] ∧ LenV K x H n ∧ Q (.int n) H) lenG := by
  refine ⟨?_, ?_⟩
  · intro vs ds H G P Q s h q k
    cases h with
    | nil => exact q.elim
    | cons h t =>
      cases t with
      | cons h2 t => cases h <;> exact q.elim
      | nil =>
        cases h with
        | str z => exact ⟨_, z.length, rfl, ⟨q.1, rfl⟩, k _ _ H G q.2 (.refl s) (.int _)⟩
        | lst h ha => exact ⟨_, _, rfl, .inl ⟨_, sql_of_rd (Same.rd s h), rfl⟩, by rw [dpa_length ha]; exact k _ _ H G q (.refl s) (.int _)⟩
        | tup h ha => exact ⟨_, _, rfl, .inr ⟨_, Same.seqT s h, rfl⟩, by rw [dpa_length ha]; exact k _ _ H G q (.refl s) (.int _)⟩
        | _ => exact q.elim
  · intro ds P P' hp q
    cases ds with
    | nil => exact q
    | cons d t => cases t with
      | nil => cases d <;> first | exact hp _ q | exact ⟨q.1, hp _ q.2⟩ | exact q
      | cons e t => cases d <;> exact q
theorem de_len (hm : X.mg "len" = none) (ha : DA X Γ W [a] ρ) (hg : Gl X "len" := by rfl) (he : starEach (a :: []) X.env = (false, eval a X.env) :: starEach [] X.env := by rfl) (hpl : (backTo pos (starEach [] X.env)).any (·.1) = false := by rfl) :
    DE X Γ W (.Call (.Name "len" p) [a] [] pos) (bR lenG ρ) :=
  de_bltn call_len len_s hm PySem.boot_len ha hg (pe_callB call_len hg hm PySem.boot_len ha.run (by decide) (by decide) he hpl)
/-- one int, two ints -/
def int1G (g : Int → Int) : List D → (D → Prop) → Prop
  | [.int i], P => P (.int (g i))
  | _, _ => False
theorem int1G_mono {g : Int → Int} : ∀ ds P P', (∀ d, P d → P' d) → int1G g ds P → int1G g ds P' := by
  intro ds P P' hp q
  cases ds with
  | nil => exact q
  | cons d t => cases t with
    | nil => cases d <;> first | exact hp _ q | exact q
    | cons e t => cases d <;> exact q
def absI (i : Int) : Int := if i < 0 then -i else i
theorem abs_s : CalS K (fun xs H Q => ∃ i, xs = [.int i] ∧ Q (.int (if i < 0 then -i else i)) H) (int1G absI) := by
  refine ⟨?_, int1G_mono⟩
  intro vs ds H G P Q s h q k
  cases h with
  | nil => exact q.elim
  | cons h t =>
    cases t with
    | cons h2 t => cases h <;> exact q.elim
    | nil => cases h with
      | int i => exact ⟨i, rfl, k _ _ H G q (.refl s) (.int _)⟩
      | _ => exact q.elim
theorem de_abs (hm : X.mg "abs" = none) (ha : DA X Γ W [a] ρ) (hg : Gl X "abs" := by rfl) (he : starEach (a :: []) X.env = (false, eval a X.env) :: starEach [] X.env := by rfl) (hpl : (backTo pos (starEach [] X.env)).any (·.1) = false := by rfl) :
    DE X Γ W (.Call (.Name "abs" p) [a] [] pos) (bR (int1G absI) ρ) :=
  de_bltn call_abs abs_s hm (by decide +kernel) ha hg (pe_callB call_abs hg hm (by decide +kernel) ha.run (by decide) (by decide) he hpl)
def int2G (g : Int → Int → Int) : List D → (D → Prop) → Prop
  | [.int i, .int j], P => P (.int (g i j))
  | _, _ => False
theorem int2G_mono {g : Int → Int → Int} : ∀ ds P P', (∀ d, P d → P' d) → int2G g ds P → int2G g ds P' := by
  intro ds P P' hp q
  cases ds with
  | nil => exact q
  | cons d t => cases t with
    | nil => cases d <;> exact q
    | cons e t => cases t with
      | nil => cases d <;> cases e <;> first | exact hp _ q | exact q
      | cons f t => cases d <;> cases e <;> exact q
theorem int2G_s {g : Int → Int → Int} : CalS K (fun xs H Q => ∃ i j, xs = [.int i, .int j] ∧ Q (.int (g i j)) H) (int2G g) := by
  refine ⟨?_, int2G_mono⟩
  intro vs ds H G P Q s h q k
  cases h with
  | nil => exact q.elim
  | cons h t =>
    cases t with
    | nil => cases h <;> exact q.elim
    | cons h2 t =>
      cases t with
      | cons h3 t => cases h <;> cases h2 <;> exact q.elim
      | nil => cases h with
        | int i => cases h2 with
          | int j => exact ⟨i, j, rfl, k _ _ H G q (.refl s) (.int _)⟩
          | _ => exact q.elim
        | _ => exact q.elim
def max2 (i j : Int) : Int := if j > i then j else i
def min2 (i j : Int) : Int := if j < i then j else i
theorem de_max2 (hm : X.mg "max" = none) (ha : DA X Γ W [a, b] ρ) (hc : X.calm = true := by rfl) (hg : Gl X "max" := by rfl) (he : starEach (a :: [b]) X.env = (false, eval a X.env) :: starEach [b] X.env := by rfl) (hpl : (backTo pos (starEach [b] X.env)).any (·.1) = false := by rfl) :
    DE X Γ W (.Call (.Name "max" p) [a, b] [] pos) (bR (int2G max2) ρ) :=
  de_bltn (call_max2 hc) (int2G_s (g := max2)) hm (by decide +kernel) ha hg (pe_callB (call_max2 hc) hg hm (by decide +kernel) ha.run (by decide) (by decide) he hpl)
theorem de_min2 (hm : X.mg "min" = none) (ha : DA X Γ W [a, b] ρ) (hc : X.calm = true := by rfl) (hg : Gl X "min" := by rfl) (he : starEach (a :: [b]) X.env = (false, eval a X.env) :: starEach [b] X.env := by rfl) (hpl : (backTo pos (starEach [b] X.env)).any (·.1) = false := by rfl) :
    DE X Γ W (.Call (.Name "min" p) [a, b] [] pos) (bR (int2G min2) ρ) :=
  de_bltn (call_min2 hc) (int2G_s (g := min2)) hm (by decide +kernel) ha hg (pe_callB (call_min2 hc) hg hm (by decide +kernel) ha.run (by decide) (by decide) he hpl)
/-- lists of ints, of truths -/
def intsD : List D → Option (List Int)
  | [] => some []
  | .int i :: r => (intsD r).map (i :: ·)
  | _ => none
theorem ints_V {G : Hp} : ∀ {vs : List V} {ds : List D} {ns : List Int}, Dts K G vs ds → intsD ds = some ns → vs = ns.map V.int
  | _, _, _, .nil, e => by cases e; rfl
  | _, _, _, .cons h t, e => by
    cases h with
    | int i =>
      obtain ⟨ms, e1, e2⟩ := Option.map_eq_some_iff.mp e
      subst e2
      rw [ints_V t e1]
      rfl
    | _ => cases e
theorem intsD_map (ns : List Int) : intsD (ns.map PyData.int) = some ns := by
  induction ns with
  | nil => rfl
  | cons i r ih => show (intsD (r.map PyData.int)).map (i :: ·) = _; rw [ih]; rfl
def boolsD : List D → Option (List Bool)
  | [] => some []
  | .bool i :: r => (boolsD r).map (i :: ·)
  | _ => none
theorem bools_V {G : Hp} : ∀ {vs : List V} {ds : List D} {ns : List Bool}, Dts K G vs ds → boolsD ds = some ns → vs = ns.map V.bl
  | _, _, _, .nil, e => by cases e; rfl
  | _, _, _, .cons h t, e => by
    cases h with
    | bl i =>
      obtain ⟨ms, e1, e2⟩ := Option.map_eq_some_iff.mp e
      subst e2
      rw [bools_V t e1]
      rfl
    | _ => cases e
theorem boolsD_map (ns : List Bool) : boolsD (ns.map PyData.bool) = some ns := by
  induction ns with
  | nil => rfl
  | cons i r ih => show (boolsD (r.map PyData.bool)).map (i :: ·) = _; rw [ih]; rfl
def sumG : List D → (D → Prop) → Prop
  | [.list ds], P => optK (intsD ds) fun ns => P (.int ns.sum)
  | _, _ => False
def maxG : List D → (D → Prop) → Prop
  | [.list ds], P => optK (intsD ds) fun ns => 0 < ns.length ∧ ∀ m, m ∈ ns → (∀ y, y ∈ ns → y ≤ m) → P (.int m)
  | _, _ => False
def minG : List D → (D → Prop) → Prop
  | [.list ds], P => optK (intsD ds) fun ns => 0 < ns.length ∧ ∀ m, m ∈ ns → (∀ y, y ∈ ns → m ≤ y) → P (.int m)
  | _, _ => False
def allG : List D → (D → Prop) → Prop
  | [.list ds], P => optK (boolsD ds) fun ns => P (.bool (ns.all id))
  | _, _ => False
def anyG : List D → (D → Prop) → Prop
  | [.list ds], P => optK (boolsD ds) fun ns => P (.bool (ns.any id))
  | _, _ => False
theorem onelist {g : List D → (D → Prop) → Prop} {r : List V → Hp → VK → Prop} (f : List D → (D → Prop) → Prop) (e : ∀ ds P, g [.list ds] P = f ds P) (e0 : ∀ ds P, (∀ x, ds ≠ [.list x]) → g ds P = False)
    (ok : ∀ a xs ds H G P Q, Same G H → Rd G a (.lst xs) → Dts K G xs ds → f ds P → (∀ d v H' G', P d → Grow [] H G H' G' → Dt K G' v d → Q v H') → r [.ref a] H Q) (m : ∀ ds P P', (∀ d, P d → P' d) → f ds P → f ds P') : CalS K r g := by
  refine ⟨fun vs ds H G P Q s h q k => ?_, fun ds P P' hp q => ?_⟩
  · by_cases c : ∃ x, ds = [.list x]
    · obtain ⟨x, rfl⟩ := c
      obtain ⟨v, rfl, hv⟩ := dts1 h
      rw [e] at q
      cases hv with
      | lst hr ha => exact ok _ _ _ H G P Q s hr ha q k
    · rw [e0 ds P fun x z => c ⟨x, z⟩] at q
      exact q.elim
  · by_cases c : ∃ x, ds = [.list x]
    · obtain ⟨x, rfl⟩ := c
      rw [e] at q ⊢
      exact m _ _ _ hp q
    · rw [e0 ds P fun x z => c ⟨x, z⟩] at q
      exact q.elim
theorem sum_s : CalS K (rSum K) sumG := by
  refine onelist (fun ds P => optK (intsD ds) fun ns => P (.int ns.sum)) (fun _ _ => rfl) (fun ds P n => ?_) (fun a xs ds H G P Q s hr ha q k => ?_) fun ds P P' hp q => optK_mono (fun ns q => hp _ q) q
  · unfold sumG; split <;> first | rfl | (exact absurd rfl (n _))
  · obtain ⟨ns, e, q⟩ := optK_get q
    rw [ints_V ha e] at hr
    exact ⟨a, ns, rfl, sql_of_rd (Same.rd s hr), k _ _ H G q (.refl s) (.int _)⟩
theorem max_s : CalS K (rMax K) maxG := by
  refine onelist (fun ds P => optK (intsD ds) fun ns => 0 < ns.length ∧ ∀ m, m ∈ ns → (∀ y, y ∈ ns → y ≤ m) → P (.int m)) (fun _ _ => rfl) (fun ds P n => ?_) (fun a xs ds H G P Q s hr ha q k => ?_) fun ds P P' hp q => optK_mono (fun ns q => ⟨q.1, fun m h1 h2 => hp _ (q.2 m h1 h2)⟩) q
  · unfold maxG; split <;> first | rfl | (exact absurd rfl (n _))
  · obtain ⟨ns, e, l, q⟩ := optK_get q
    rw [ints_V ha e] at hr
    exact ⟨a, ns, rfl, sql_of_rd (Same.rd s hr), l, fun m h1 h2 => k _ _ H G (q m h1 h2) (.refl s) (.int _)⟩
theorem min_s : CalS K (rMin K) minG := by
  refine onelist (fun ds P => optK (intsD ds) fun ns => 0 < ns.length ∧ ∀ m, m ∈ ns → (∀ y, y ∈ ns → m ≤ y) → P (.int m)) (fun _ _ => rfl) (fun ds P n => ?_) (fun a xs ds H G P Q s hr ha q k => ?_) fun ds P P' hp q => optK_mono (fun ns q => ⟨q.1, fun m h1 h2 => hp _ (q.2 m h1 h2)⟩) q
  · unfold minG; split <;> first | rfl | (exact absurd rfl (n _))
  · obtain ⟨ns, e, l, q⟩ := optK_get q
    rw [ints_V ha e] at hr
    exact ⟨a, ns, rfl, sql_of_rd (Same.rd s hr), l, fun m h1 h2 => k _ _ H G (q m h1 h2) (.refl s) (.int _)⟩
theorem all_s : CalS K (rAll K) allG := by
  refine onelist (fun ds P => optK (boolsD ds) fun ns => P (.bool (ns.all id))) (fun _ _ => rfl) (fun ds P n => ?_) (fun a xs ds H G P Q s hr ha q k => ?_) fun ds P P' hp q => optK_mono (fun ns q => hp _ q) q
  · unfold allG; split <;> first | rfl | (exact absurd rfl (n _))
  · obtain ⟨ns, e, q⟩ := optK_get q
    rw [bools_V ha e] at hr
    exact ⟨a, ns, rfl, sql_of_rd (Same.rd s hr), k _ _ H G q (.refl s) (.bl _)⟩
theorem any_s : CalS K (rAny K) anyG := by
  refine onelist (fun ds P => optK (boolsD ds) fun ns => P (.bool (ns.any id))) (fun _ _ => rfl) (fun ds P n => ?_) (fun a xs ds H G P Q s hr ha q k => ?_) fun ds P P' hp q => optK_mono (fun ns q => hp _ q) q
  · unfold anyG; split <;> first | rfl | (exact absurd rfl (n _))
  · obtain ⟨ns, e, q⟩ := optK_get q
    rw [bools_V ha e] at hr
    exact ⟨a, ns, rfl, sql_of_rd (Same.rd s hr), k _ _ H G q (.refl s) (.bl _)⟩
theorem de_sum (hm : X.mg "sum" = none) (ha : DA X Γ W [a] ρ) (hc : X.calm = true := by rfl) (hg : Gl X "sum" := by rfl) (he : starEach (a :: []) X.env = (false, eval a X.env) :: starEach [] X.env := by rfl) (hpl : (backTo pos (starEach [] X.env)).any (·.1) = false := by rfl) :
    DE X Γ W (.Call (.Name "sum" p) [a] [] pos) (bR sumG ρ) := de_bltn (cr_sum hc) sum_s hm (by decide +kernel) ha hg (pe_callB (cr_sum hc) hg hm (by decide +kernel) ha.run (by decide) (by decide) he hpl)
theorem de_maxL (hm : X.mg "max" = none) (ha : DA X Γ W [a] ρ) (hc : X.calm = true := by rfl) (hg : Gl X "max" := by rfl) (he : starEach (a :: []) X.env = (false, eval a X.env) :: starEach [] X.env := by rfl) (hpl : (backTo pos (starEach [] X.env)).any (·.1) = false := by rfl) :
    DE X Γ W (.Call (.Name "max" p) [a] [] pos) (bR maxG ρ) := de_bltn (cr_max hc) max_s hm (by decide +kernel) ha hg (pe_callB (cr_max hc) hg hm (by decide +kernel) ha.run (by decide) (by decide) he hpl)
theorem de_minL (hm : X.mg "min" = none) (ha : DA X Γ W [a] ρ) (hc : X.calm = true := by rfl) (hg : Gl X "min" := by rfl) (he : starEach (a :: []) X.env = (false, eval a X.env) :: starEach [] X.env := by rfl) (hpl : (backTo pos (starEach [] X.env)).any (·.1) = false := by rfl) :
    DE X Γ W (.Call (.Name "min" p) [a] [] pos) (bR minG ρ) := de_bltn (cr_min hc) min_s hm (by decide +kernel) ha hg (pe_callB (cr_min hc) hg hm (by decide +kernel) ha.run (by decide) (by decide) he hpl)
theorem de_all (hm : X.mg "all" = none) (ha : DA X Γ W [a] ρ) (hc : X.calm = true := by rfl) (hg : Gl X "all" := by rfl) (he : starEach (a :: []) X.env = (false, eval a X.env) :: starEach [] X.env := by rfl) (hpl : (backTo pos (starEach [] X.env)).any (·.1) = false := by rfl) :
    DE X Γ W (.Call (.Name "all" p) [a] [] pos) (bR allG ρ) := de_bltn (cr_all hc) all_s hm (by decide +kernel) ha hg (pe_callB (cr_all hc) hg hm (by decide +kernel) ha.run (by decide) (by decide) he hpl)
theorem de_any (hm : X.mg "any" = none) (ha : DA X Γ W [a] ρ) (hc : X.calm = true := by rfl) (hg : Gl X "any" := by rfl) (he : starEach (a :: []) X.env = (false, eval a X.env) :: starEach [] X.env := by rfl) (hpl : (backTo pos (starEach [] X.env)).any (·.1) = false := by rfl) :
    DE X Γ W (.Call (.Name "any" p) [a] [] pos) (bR anyG ρ) := de_bltn (cr_any hc) any_s hm (by decide +kernel) ha hg (pe_callB (cr_any hc) hg hm (by decide +kernel) ha.run (by decide) (by decide) he hpl)
/-! ### built-in classes called -/
theorem de_ty {r : List V → Hp → VK → Prop} {g : List D → (D → Prop) → Prop} {T : String} {x : Str} (s : CalS X.K r g) (ha : DA X Γ W (a :: es) ρ) (pe : PE X (.Call (.Name x p) (a :: es) [] pos) (tCB r (LA X.K Γ W ρ))) : DE X Γ W (.Call (.Name x p) (a :: es) [] pos) (bR g ρ) :=
  de_mk pe (fun _ _ _ _ _ he hp q => ha.mono _ _ _ _ _ he (fun _ _ z => s.mono _ _ _ (fun _ => hp _ _) z) q) (bR_go s ha)
def strG : List D → (D → Prop) → Prop
  | [.int i], P => i.natAbs.log2 < 1920 ∧ P (.str (toString i))
  | _, _ => False
theorem str_s : CalS K (fun xs H Q => ∃ i, xs = [.int i] ∧ i.natAbs.log2 < 1920 ∧ Q (.str (toString i)) H) strG := by
  refine ⟨?_, ?_⟩
  · intro vs ds H G P Q s h q k
    cases h with
    | nil => exact q.elim
    | cons h t =>
      cases t with
      | cons h2 t => cases h <;> exact q.elim
      | nil => cases h with
        | int i => exact ⟨i, rfl, q.1, k _ _ H G q.2 (.refl s) (.str _)⟩
        | _ => exact q.elim
  · intro ds P P' hp q
    cases ds with
    | nil => exact q
    | cons d t => cases t with
      | nil => cases d <;> first | exact ⟨q.1, hp _ q.2⟩ | exact q
      | cons e t => cases d <;> exact q
theorem de_strOf (hm : X.mg "str" = none) (ha : DA X Γ W [a] ρ) (hg : Gl X "str" := by rfl) (he : starEach (a :: []) X.env = (false, eval a X.env) :: starEach [] X.env := by rfl) (hpl : (backTo pos (starEach [] X.env)).any (·.1) = false := by rfl) :
    DE X Γ W (.Call (.Name "str" p) [a] [] pos) (bR strG ρ) := de_ty (T := "str") str_s ha (pe_callTy call_str_int hg hm (by decide +kernel) ha.run (by decide) (by decide) he hpl)
/-- int(n), int(flag), int(text) -/
def intG : List D → (D → Prop) → Prop
  | [.int i], P => P (.int i)
  | [.bool k], P => P (.int (if k then 1 else 0))
  | [.str z], P => ∃ n, PySem.intText? z = some n ∧ z.length ≤ 640 ∧ P (.int n)
  | _, _ => False
def rIntAll : List V → Hp → VK → Prop := fun xs H Q => ((∃ i, xs = [.int i] ∧ Q (.int i) H) ∨ ∃ k, xs = [.bl k] ∧ Q (.int (if k then 1 else 0)) H) ∨ ∃ a n, xs = [.str a] ∧ PySem.intText? a = some n ∧ a.length ≤ 640 ∧ Q (.int n) H
theorem call_intAll : CallR X (.type "int") rIntAll := call_int1.or call_int_str
theorem int_s : CalS K rIntAll intG := by
  refine ⟨?_, ?_⟩
  · intro vs ds H G P Q s h q k
    cases h with
    | nil => exact q.elim
    | cons h t =>
      cases t with
      | cons h2 t => cases h <;> exact q.elim
      | nil => cases h with
        | int i => exact .inl (.inl ⟨i, rfl, k _ _ H G q (.refl s) (.int _)⟩)
        | bl i => exact .inl (.inr ⟨i, rfl, k _ _ H G q (.refl s) (.int _)⟩)
        | str z =>
          obtain ⟨n, e, l, q⟩ := q
          exact .inr ⟨z, n, rfl, e, l, k _ _ H G q (.refl s) (.int _)⟩
        | _ => exact q.elim
  · intro ds P P' hp q
    cases ds with
    | nil => exact q
    | cons d t => cases t with
      | nil => cases d <;> first | exact hp _ q | (obtain ⟨n, e, l, q⟩ := q; exact ⟨n, e, l, hp _ q⟩) | exact q
      | cons e t => cases d <;> exact q
theorem de_intOf (hm : X.mg "int" = none) (ha : DA X Γ W [a] ρ) (hg : Gl X "int" := by rfl) (he : starEach (a :: []) X.env = (false, eval a X.env) :: starEach [] X.env := by rfl) (hpl : (backTo pos (starEach [] X.env)).any (·.1) = false := by rfl) :
    DE X Γ W (.Call (.Name "int" p) [a] [] pos) (bR intG ρ) := de_ty (T := "int") int_s ha (pe_callTy call_intAll hg hm (by decide +kernel) ha.run (by decide) (by decide) he hpl)
/-- list(x): a new list -/
def listN (φ : RE) : RN := fun δ E P => φ δ E fun x δ1 => match x with
  | .list ds => P (.lst ds) δ1
  | .tuple ds => P (.lst ds) δ1
  | _ => False
theorem dn_listOf (hm : X.mg "list" = none) (ha : DE X Γ W a φa) (hg : Gl X "list" := by rfl) (he : starEach (a :: []) X.env = (false, eval a X.env) :: starEach [] X.env := by rfl) (hpl : (backTo pos (starEach [] X.env)).any (·.1) = false := by rfl) :
    DN X Γ W (.Call (.Name "list" p) [a] [] pos) (listN φa) := by
  refine dn_mk (pe_callTy call_list_of hg hm (by decide +kernel) (pa_cons ha.run pa_nil he) (by decide) (by decide) he hpl) ?_ fun σ H Q hid δ G R q => ?_
  · intro δ E E' P P' he hp q
    refine ha.mono _ _ _ _ _ he (fun x δ1 q1 => ?_) q
    cases x <;> first | exact hp _ _ q1 | exact q1
  · refine ha.go R q fun d δ1 v H1 G1 q1 R1 s1 d1 => ?_
    cases d1 with
    | @lst a1 xs1 ds1 h1 hd => exact ⟨_, _, rfl, .inl (sql_of_rd (Same.rd R1.sub h1)), fun l nl => q1 _ _ _ (R1.grow (Grow.newO (o := .lst xs1) R1.sub nl)) s1 (.of R1 nl ⟨_, upd_same, hd⟩)⟩
    | @tup a1 xs1 ds1 h1 hd => exact ⟨_, _, rfl, .inr (Same.seqT R1.sub h1), fun l nl => q1 _ _ _ (R1.grow (Grow.newO (o := .lst xs1) R1.sub nl)) s1 (.of R1 nl ⟨_, upd_same, hd⟩)⟩
    | _ => exact q1.elim
/-! ### isinstance of a built-in class -/
def tyD : D → String
  | .none => "NoneType" | .bool _ => "bool" | .int _ => "int" | .str _ => "str" | .list _ => "list" | .tuple _ => "tuple" | .dict _ => "dict"
def isiD (T : String) (x : D) : Bool := (kitB (tyD x) T).getD false
def isiR (T : String) (φ : RE) : RE := fun δ E P => φ δ E fun x δ1 => P (.bool (isiD T x)) δ1
theorem dt_tyx {H : Hp} {v : V} {d : D} (h : Dt K H v d) : TyX K H v (.type (tyD d)) := by
  cases h with
  | non => exact .base .non
  | bl b => exact .base (.bl b)
  | int i => exact .base (.int i)
  | str x => exact .base (.str x)
  | lst h ha =>
    rcases h with h | ⟨o, h⟩
    · exact .base (.lst h)
    · exact .base (.frz h)
  | tup h ha =>
    rcases h with (h | ⟨o, h⟩) | h
    · exact .base (.tup h)
    · exact .fTuple h
    · obtain ⟨o, its, n, e, c, _⟩ := h
      exact .kTuple e c
theorem kit_some (T : String) (hT : T ∈ (["int", "bool", "str", "list", "tuple", "dict"] : List String)) (d : D) : kitB (tyD d) T = some (isiD T d) := by
  have h : ∀ a ∈ (["NoneType", "bool", "int", "str", "list", "tuple", "dict"] : List String), ∀ t ∈ (["int", "bool", "str", "list", "tuple", "dict"] : List String), (kitB a t).isSome = true := by decide +kernel
  have h2 := h (tyD d) (by cases d <;> simp [tyD]) T hT
  unfold isiD
  cases e : kitB (tyD d) T with
  | none => rw [e] at h2; cases h2
  | some b => rfl
theorem de_isi {T : String} {x : Str} {p2 : Pos} (hT : T ∈ (["int", "bool", "str", "list", "tuple", "dict"] : List String)) (hm : X.mg "isinstance" = none) (hx : X.mg x = none) (hv : bootBuiltins x = some (.type T)) (ha : DE X Γ W a φa) (hg : Gl X "isinstance" := by rfl) (hg2 : Gl X x := by rfl) (hn : x ≠ "__name__" := by decide) (hdb : (x == ("__debug__" : Str)) = false := by decide)
    (he : starEach (a :: [.Name x p2]) X.env = (false, eval a X.env) :: starEach [.Name x p2] X.env := by rfl) (he2 : starEach (.Name x p2 :: []) X.env = (false, eval (.Name x p2) X.env) :: starEach [] X.env := by rfl) (hpl : (backTo pos (starEach [.Name x p2] X.env)).any (·.1) = false := by rfl) :
    DE X Γ W (.Call (.Name "isinstance" p) [a, .Name x p2] [] pos) (isiR T φa) := by
  refine de_mk (pe_callB call_isi hg hm (by decide +kernel) (pa_cons ha.run (pa_cons (pe_bltn (v := .ty T) hg2 hx hv rfl hn hdb) pa_nil he2) he) (by decide) (by decide) he hpl) (mono_1 (f := fun x => .bool (isiD T x)) ha.mono) fun σ H Q hid δ G R q => ?_
  refine ha.go R q fun d δ1 v H1 G1 q1 R1 s1 d1 => ⟨v, .ty T, _, _, isiD T d, rfl, .ty T, dt_tyx (dp_mono R1.sub d1), kit_ty (kit_some T hT d), q1 _ H1 G1 R1 s1 (.bl _)⟩
end
end DL

/-! Statements. -/
namespace DL
open PySem PySem.Spec PyProof.Rows L2
inductive Fw where | nx | bk | ct | rt (d : D) | rtO (o : MO)
abbrev RB := DS → KE → (Fw → DS → Prop) → Prop
section
variable (K : PySem.W.Frag) (Γ : Ga) (W : WX)
def KF (hid : Hd) (Dn : Ends) : Fw → DS → Prop := fun fl δ => match fl with
  | .nx => ∀ σ H G, Rel K Γ hid σ H δ G → Dn.nx σ H
  | .bk => ∀ σ H G, Rel K Γ hid σ H δ G → Dn.bk σ H
  | .ct => ∀ σ H G, Rel K Γ hid σ H δ G → Dn.ct σ H
  | .rt d => ∀ v σ H G, Rel K Γ hid σ H δ G → Dt K G v d → Dn.rt v H
  | .rtO o => ∀ p σ H G, Rel K Γ hid σ H δ G → New K Γ hid σ H δ G p o → Dn.rt (.ref p) H
def LS (ψ : RB) : TS := fun Dn σ H => ∃ hid δ G, Rel K Γ hid σ H δ G ∧ ψ δ (EK K Γ W hid) (KF K Γ hid Dn)
end
structure DP (X : Cx) (Γ : Ga) (W : WX) (st : Stmt) (ψ : RB) : Prop where
  run : PS X st (LS X.K Γ W ψ)
  mono : Mono ψ
structure DB (X : Cx) (Γ : Ga) (W : WX) (st : List Stmt) (ψ : RB) : Prop where
  run : PSs X st (LS X.K Γ W ψ)
  mono : Mono ψ
theorem PS.imp {X : Cx} {e : Stmt} {t t' : TS} (h : PS X e t) (i : ∀ D σ H, t' D σ H → t D σ H) : PS X e t' := ⟨fun pins s σ H D I q => h.run pins s σ H D I (i D σ H q)⟩
theorem PSs.imp {X : Cx} {e : List Stmt} {t t' : TS} (h : PSs X e t) (i : ∀ D σ H, t' D σ H → t D σ H) : PSs X e t' := ⟨fun pins s σ H D I q => h.run pins s σ H D I (i D σ H q)⟩
section
variable {X : Cx} {Γ : Ga} {W : WX} {a b c : Expr} {φa φb φc : RE} {pos p : Pos} {es : List Expr} {ρ : RA} {st : Stmt} {sts : List Stmt} {ψ ψ1 ψ2 : RB} {τ : RT}
theorem dp_mk {t : TS} (h : PS X st t) (m : Mono ψ) (i : ∀ Dn σ H hid δ G, Rel X.K Γ hid σ H δ G → ψ δ (EK X.K Γ W hid) (KF X.K Γ hid Dn) → t Dn σ H) : DP X Γ W st ψ :=
  ⟨PS.imp h fun Dn σ H ⟨hid, δ, G, R, q⟩ => i Dn σ H hid δ G R q, m⟩
theorem db_mk {t : TS} (h : PSs X sts t) (m : Mono ψ) (i : ∀ Dn σ H hid δ G, Rel X.K Γ hid σ H δ G → ψ δ (EK X.K Γ W hid) (KF X.K Γ hid Dn) → t Dn σ H) : DB X Γ W sts ψ :=
  ⟨PSs.imp h fun Dn σ H ⟨hid, δ, G, R, q⟩ => i Dn σ H hid δ G R q, m⟩
def nxR : RB := fun δ _ P => P .nx δ
def seqK (ψ : RB) (E : KE) (P : Fw → DS → Prop) : Fw → DS → Prop := fun fl δ => match fl with
  | .nx => ψ δ E P
  | .bk => P .bk δ
  | .ct => P .ct δ
  | .rt d => P (.rt d) δ
  | .rtO o => P (.rtO o) δ
def seqR (ψ1 ψ2 : RB) : RB := fun δ E P => ψ1 δ E (seqK ψ2 E P)
theorem seqK_mono (m : Mono ψ) {E E' : KE} {P P' : Fw → DS → Prop} (he : ∀ x δ, E x δ → E' x δ) (hp : ∀ a δ, P a δ → P' a δ) : ∀ fl δ, seqK ψ E P fl δ → seqK ψ E' P' fl δ := fun fl δ q => by
  cases fl <;> first | exact m _ _ _ _ _ he hp q | exact hp _ _ q
theorem db_nil : DB X Γ W [] nxR := db_mk pss_nil (fun _ _ _ _ _ _ hp q => hp _ _ q) fun Dn σ H hid δ G R q => q σ H G R
theorem db_cons (h1 : DP X Γ W st ψ1) (h2 : DB X Γ W sts ψ2) : DB X Γ W (st :: sts) (seqR ψ1 ψ2) :=
  db_mk (pss_cons h1.run h2.run) (fun _ _ _ _ _ he hp q => h1.mono _ _ _ _ _ he (seqK_mono h2.mono he hp) q) fun Dn σ H hid δ G R q =>
    ⟨hid, δ, G, R, h1.mono _ _ _ _ _ (fun _ _ z => z) (fun fl δ1 q1 => by
      cases fl with
      | nx => exact fun σ H G R => ⟨hid, δ1, G, R, q1⟩
      | _ => exact q1) q⟩
theorem db_one (h1 : DP X Γ W st ψ1) : DB X Γ W [st] ψ1 := ⟨pss_one h1.run, h1.mono⟩
theorem dp_pass : DP X Γ W (.Pass pos) nxR := dp_mk ps_pass (fun _ _ _ _ _ _ hp q => hp _ _ q) fun Dn σ H hid δ G R q => q σ H G R
def bkR : RB := fun δ _ P => P .bk δ
def ctR : RB := fun δ _ P => P .ct δ
theorem dp_break : DP X Γ W (.Break pos) bkR := dp_mk ps_break (fun _ _ _ _ _ _ hp q => hp _ _ q) fun Dn σ H hid δ G R q => q σ H G R
theorem dp_continue : DP X Γ W (.Continue pos) ctR := dp_mk ps_continue (fun _ _ _ _ _ _ hp q => hp _ _ q) fun Dn σ H hid δ G R q => q σ H G R
/-! ### stores -/
/-- slot i gets s; a lent slot is never stored -/
def setK (o : Option Sl) (i : Nat) (s : Sl) (δ : DS) (P : DS → Prop) : Prop := match o with
  | some (.io _) => False
  | some (.ow _) => P (List.set δ i (some s))
  | some (.sh _) => P (List.set δ i (some s))
  | none => P (List.set δ i (some s))
theorem setK_mono {o : Option Sl} {i : Nat} {s : Sl} {δ : DS} {P P' : DS → Prop} (h : ∀ δ, P δ → P' δ) (q : setK o i s δ P) : setK o i s δ P' := by
  cases o with
  | none => exact h _ q
  | some o => cases o <;> first | exact h _ q | exact q
theorem setK_go {i : Nat} {s : Sl} {δ : DS} {P : DS → Prop} (q : setK (δ.get i) i s δ P) : (∀ o, δ.get i ≠ some (.io o)) ∧ P (List.set δ i (some s)) := by
  cases e : δ.get i with
  | none => rw [e] at q; exact ⟨fun o z => (by cases z), q⟩
  | some o => rw [e] at q; cases o <;> first | exact ⟨fun o z => (by cases z), q⟩ | exact q.elim
theorem Rel.setD' {K : PySem.W.Frag} {hid : Hd} {σ : L2.St} {H : Hp} {δ : DS} {G : Hp} (R : Rel K Γ hid σ H δ G) {i : Nat} {v : V} {d : D} (hio : ∀ o, δ.get i ≠ some (.io o)) (h : Dt K G v d) :
    Rel K Γ hid (σ.set i (some v)) H (List.set δ i (some (.sh d))) G := by
  by_cases hi : i < δ.length
  · exact R.setD hi hio h
  · rw [List.set_eq_of_length_le (by have := R.len; omega), List.set_eq_of_length_le (by omega)]
    exact R
theorem Rel.setO' {K : PySem.W.Frag} {hid : Hd} {σ : L2.St} {H : Hp} {δ : DS} {G : Hp} (R : Rel K Γ hid σ H δ G) {i : Nat} {p : Addr} {o : MO} (hio : ∀ o, δ.get i ≠ some (.io o)) (n : New K Γ hid σ H δ G p o) :
    Rel K Γ hid (σ.set i (some (.ref p))) H (List.set δ i (some (.ow o))) G := by
  by_cases hi : i < δ.length
  · exact R.setO hi hio n.g n.h0 n.hd n.ow n.mo
  · rw [List.set_eq_of_length_le (by have := R.len; omega), List.set_eq_of_length_le (by omega)]
    exact R
def setR (i : Nat) (φ : RE) : RB := fun δ E P => φ δ E fun d δ1 => setK (δ1.get i) i (.sh d) δ1 (P .nx)
def setNR (i : Nat) (φ : RN) : RB := fun δ E P => φ δ E fun o δ1 => setK (δ1.get i) i (.ow o) δ1 (P .nx)
theorem dp_set (i : Nat) {x : Str} {pos' : Pos} (hN : X.N.Nodup) (ha : DE X Γ W a φa) (hi : X.N[i]? = some x := by rfl) (hx : Loc X.env.scope x := by first | exact .inl rfl | exact .inr rfl) (hs : swapsWith a (some (.Name x pos')) pos.line X.env = pure false := by rfl)
    (hf : X.fn x = true ∨ X.env.scope.names.lookup x = some .local := by first | exact .inl rfl | exact .inr rfl) : DP X Γ W (.Assign [.Name x pos'] a pos) (setR i φa) :=
  dp_mk (ps_set (i := i) hN hi hx ha.run hs hf) (fun _ _ _ _ _ he hp q => ha.mono _ _ _ _ _ he (fun _ _ z => setK_mono (fun _ => hp _ _) z) q) fun Dn σ H hid δ G R q => ha.go R q fun d δ1 v H1 G1 q1 R1 s1 d1 => by
    obtain ⟨n, q2⟩ := setK_go q1
    exact q2 _ H1 G1 (R1.setD' n d1)
theorem DN.go {σ : L2.St} {H : Hp} {hid : Hd} {δ : DS} {G : Hp} {Q : VK} {φ : RN} {P : MO → DS → Prop} (h : DN X Γ W a φ) (R : Rel X.K Γ hid σ H δ G) (q : φ δ (EK X.K Γ W hid) P)
    (k : ∀ o δ1 p H1 G1, P o δ1 → Rel X.K Γ hid σ H1 δ1 G1 → Same G G1 → New X.K Γ hid σ H1 δ1 G1 p o → Q (.ref p) H1) : LN X.K Γ W φ σ H Q :=
  ⟨hid, δ, G, R, h.mono _ _ _ _ _ (fun _ _ z => z) (fun o δ1 p v H1 G1 R1 s1 => k o δ1 v H1 G1 p R1 s1) q⟩
theorem dp_setN (i : Nat) {x : Str} {pos' : Pos} {φ : RN} (hN : X.N.Nodup) (ha : DN X Γ W a φ) (hi : X.N[i]? = some x := by rfl) (hx : Loc X.env.scope x := by first | exact .inl rfl | exact .inr rfl) (hs : swapsWith a (some (.Name x pos')) pos.line X.env = pure false := by rfl)
    (hf : X.fn x = true ∨ X.env.scope.names.lookup x = some .local := by first | exact .inl rfl | exact .inr rfl) : DP X Γ W (.Assign [.Name x pos'] a pos) (setNR i φ) :=
  dp_mk (ps_set (i := i) hN hi hx ha.run hs hf) (fun _ _ _ _ _ he hp q => ha.mono _ _ _ _ _ he (fun _ _ z => setK_mono (fun _ => hp _ _) z) q) fun Dn σ H hid δ G R q => ha.go R q fun o δ1 v H1 G1 q1 R1 s1 n1 => by
    obtain ⟨n, q2⟩ := setK_go q1
    exact q2 _ H1 G1 (R1.setO' n n1)
/-- a, b = x, y -/
def parR (i j : Nat) (φ1 φ2 : RE) : RB := fun δ E P => φ1 δ E fun d δ1 => φ2 δ1 E fun e δ2 => setK (δ2.get i) i (.sh d) δ2 fun δ3 => setK (δ3.get j) j (.sh e) δ3 (P .nx)
theorem dp_par (i j : Nat) {x y : Str} {px py pt : Pos} {kt k2 pt2} (hN : X.N.Nodup) (ha : DE X Γ W a φa) (hb : DE X Γ W b φb)
    (ps : ∀ {ta : TA}, PA X [a, b] ta → PS X (.Assign [.Tuple [.Name x px, .Name y py] kt pt] (.Tuple [a, b] k2 pt2) pos) (tPar i j ta)) (he1 : starEach (a :: [b]) X.env = (false, eval a X.env) :: starEach [b] X.env := by rfl) (he2 : starEach (b :: []) X.env = (false, eval b X.env) :: starEach [] X.env := by rfl) :
    DP X Γ W (.Assign [.Tuple [.Name x px, .Name y py] kt pt] (.Tuple [a, b] k2 pt2) pos) (parR i j φa φb) :=
  dp_mk (ps (pa_cons ha.run (pa_cons hb.run pa_nil he2) he1)) (fun _ _ _ _ _ he hp q => ha.mono _ _ _ _ _ he (fun _ _ z => hb.mono _ _ _ _ _ he (fun _ _ z2 => setK_mono (fun _ z3 => setK_mono (fun _ => hp _ _) z3) z2) z) q)
    fun Dn σ H hid δ G R q => ha.go R q fun d δ1 v H1 G1 q1 R1 s1 d1 => hb.go R1 q1 fun e δ2 u H2 G2 q2 R2 s2 d2 => by
      obtain ⟨n1, q3⟩ := setK_go q2
      obtain ⟨n2, q4⟩ := setK_go q3
      exact ⟨v, u, rfl, q4 _ H2 G2 ((R2.setD' n1 (dp_mono s2 d1)).setD' n2 d2)⟩
/-- x += e -/
def augR (i : Nat) (f : OpD) (φ : RE) : RB := fun δ E P => varK (δ.get i) i δ fun x δ0 => φ δ0 E fun y δ1 => f x y fun d => setK (δ1.get i) i (.sh d) δ1 (P .nx)
/-! ### targets -/
/-- what a target does with a datum -/
abbrev RG := D → DS → (DS → Prop) → Prop
def LG (K : PySem.W.Frag) (Γ : Ga) (vs : List Nat) (γ : RG) : TG := fun v σ H Q => ∃ hid δ G d, Rel K Γ hid σ H δ G ∧ Dt K G v d ∧ γ d δ fun δ' => ∀ σ', Rel K Γ hid σ' H δ' G → wipe σ' vs = wipe σ vs → Q σ' H
structure DG (X : Cx) (Γ : Ga) (tg : Expr) (vs : List Nat) (γ : RG) : Prop where
  run : PG X tg (LG X.K Γ vs γ)
  mono : ∀ d δ P P', (∀ δ, P δ → P' δ) → γ d δ P → γ d δ P'
theorem PG.imp {e : Expr} {t t' : TG} (h : PG X e t) (i : ∀ v σ H Q, t' v σ H Q → t v σ H Q) : PG X e t' := ⟨fun pins s σ H x u Q I r q => h.run pins s σ H x u Q I r (i _ σ H Q q)⟩
def nameG (i : Nat) : RG := fun d δ P => setK (δ.get i) i (.sh d) δ P
theorem wipe_set {σ : L2.St} {i : Nat} {o : Option V} : ∀ {vs : List Nat}, i ∈ vs → wipe (σ.set i o) vs = wipe σ vs
  | v :: vs, h => by
    unfold wipe
    by_cases c : i ∈ vs
    · rw [wipe_set c]
    · have e : i = v := by
        rcases List.mem_cons.mp h with z | z
        · exact z
        · exact absurd z c
      subst e
      have comm : ∀ ws : List Nat, i ∉ ws → wipe (σ.set i o) ws = (wipe σ ws).set i o := by
        intro ws
        induction ws with
        | nil => intro _; rfl
        | cons w ws ih =>
          intro hn
          unfold wipe
          have h1 : i ≠ w := fun z => hn (by rw [z]; exact List.mem_cons_self)
          rw [ih fun z => hn (List.mem_cons_of_mem _ z), List.set_comm _ _ h1]
      rw [comm vs c, List.set_set]
theorem dg_name (i : Nat) {vs : List Nat} {x : Str} (hN : X.N.Nodup) (hv : i ∈ vs := by decide) (hi : X.N[i]? = some x := by rfl) (hx : Loc X.env.scope x := by first | exact .inl rfl | exact .inr rfl)
    (hf : X.fn x = true ∨ X.env.scope.names.lookup x = some .local := by first | exact .inl rfl | exact .inr rfl) : DG X Γ (.Name x pos) vs (nameG i) :=
  ⟨PG.imp (pg_name (i := i) hN hi hx hf) fun v σ H Q ⟨hid, δ, G, d, R, hd, q⟩ => by
    obtain ⟨n, q2⟩ := setK_go q
    exact q2 _ (R.setD' n hd) (wipe_set hv), fun _ _ _ _ h q => setK_mono h q⟩
abbrev RGs := List D → DS → (DS → Prop) → Prop
def LGs (K : PySem.W.Frag) (Γ : Ga) (vs : List Nat) (γ : RGs) : TGs := fun us σ H Q => ∃ hid δ G ds, Rel K Γ hid σ H δ G ∧ Dts K G us ds ∧ γ ds δ fun δ' => ∀ σ', Rel K Γ hid σ' H δ' G → wipe σ' vs = wipe σ vs → Q σ' H
structure DGs (X : Cx) (Γ : Ga) (tg : List Expr) (vs : List Nat) (γ : RGs) : Prop where
  run : PGs X tg (LGs X.K Γ vs γ)
  mono : ∀ d δ P P', (∀ δ, P δ → P' δ) → γ d δ P → γ d δ P'
theorem PGs.imp {e : List Expr} {t t' : TGs} (h : PGs X e t) (i : ∀ v σ H Q, t' v σ H Q → t v σ H Q) : PGs X e t' := ⟨fun pins s σ H x u Q I r q => h.run pins s σ H x u Q I r (i _ σ H Q q)⟩
def nilG : RGs := fun ds δ P => match ds with
  | [] => P δ
  | _ :: _ => False
def consG (γ : RG) (γs : RGs) : RGs := fun ds δ P => match ds with
  | [] => False
  | d :: r => γ d δ fun δ1 => γs r δ1 P
theorem dgs_nil {vs : List Nat} : DGs X Γ [] vs nilG :=
  ⟨PGs.imp pgs_nil fun us σ H Q ⟨hid, δ, G, ds, R, hd, q⟩ => by
    cases hd with
    | nil => exact ⟨rfl, q σ R rfl⟩
    | cons _ _ => exact q.elim, fun d _ _ _ h q => by cases d <;> first | exact h _ q | exact q⟩
theorem dgs_cons {e : Expr} {vs : List Nat} {γ : RG} {γs : RGs} (h1 : DG X Γ e vs γ) (h2 : DGs X Γ es vs γs) (pc : ∀ {t : TG} {u : TGs}, PG X e t → PGs X es u → PGs X (e :: es) (gCons t u)) : DGs X Γ (e :: es) vs (consG γ γs) :=
  ⟨PGs.imp (pc h1.run h2.run) fun us σ H Q ⟨hid, δ, G, ds, R, hd, q⟩ => by
    cases hd with
    | nil => exact q.elim
    | cons h t => exact ⟨_, _, rfl, hid, δ, G, _, R, h, h1.mono _ _ _ _ (fun δ1 q1 σ1 R1 w1 => ⟨hid, δ1, G, _, R1, t, h2.mono _ _ _ _ (fun δ2 q2 σ2 R2 w2 => q2 σ2 R2 (w2.trans w1)) q1⟩) q⟩,
    fun d _ _ _ h q => by cases d with
      | nil => exact q
      | cons d r => exact h1.mono _ _ _ _ (fun _ z => h2.mono _ _ _ _ h z) q⟩
/-- a, b = a tuple -/
def tupG (n : Nat) (γs : RGs) : RG := fun d δ P => match d with
  | .tuple ds => ds.length = n ∧ γs ds δ P
  | _ => False
theorem dg_tup {n : Nat} {vs : List Nat} {γs : RGs} {kk : Nat} {tpos : Pos} (h : DGs X Γ es vs γs) (pt : ∀ {t : TGs}, PGs X es t → PG X (.Tuple es kk tpos) (gTup X.K n t)) : DG X Γ (.Tuple es kk tpos) vs (tupG n γs) :=
  ⟨PG.imp (pt h.run) fun v σ H Q ⟨hid, δ, G, d, R, hd, q⟩ => by
    cases hd with
    | tup hs ha => exact ⟨_, _, rfl, Same.seqT R.sub hs, by rw [dpa_length ha]; exact q.1, hid, δ, G, _, R, ha, q.2⟩
    | _ => exact q.elim, fun d _ _ _ hp q => by cases d <;> first | exact ⟨q.1, h.mono _ _ _ _ hp q.2⟩ | exact q⟩
def unpR (γ : RG) (φ : RE) : RB := fun δ E P => φ δ E fun d δ1 => γ d δ1 (P .nx)
theorem dp_asg {tg : Expr} {vs : List Nat} {γ : RG} (ha : DE X Γ W a φa) (hg : DG X Γ tg vs γ) (hs : swapsWithSole [tg] a pos.line X.env = pure false := by rfl) (hw : swappedStores [tg] a X.env = pure none := by rfl)
    (ps : PS X (.Assign [tg] a pos) (tAsg (LE X.K Γ W φa) (LG X.K Γ vs γ))) : DP X Γ W (.Assign [tg] a pos) (unpR γ φa) :=
  dp_mk ps (fun _ _ _ _ _ he hp q => ha.mono _ _ _ _ _ he (fun _ _ z => hg.mono _ _ _ _ (fun _ => hp _ _) z) q) fun Dn σ H hid δ G R q => ha.go R q fun d δ1 v H1 G1 q1 R1 s1 d1 =>
    ⟨hid, δ1, G1, d, R1, d1, hg.mono _ _ _ _ (fun δ2 q2 σ2 R2 _ => q2 σ2 H1 G1 R2) q1⟩
/-! ### if, return, expressions -/
def ifS (t : RT) (ψ1 ψ2 : RB) : RB := fun δ E P => t δ E fun c δ1 => bifP c (ψ1 δ1 E P) (ψ2 δ1 E P)
theorem dp_if {s1 s2 : List Stmt} (ht : DT X Γ W c τ) (h1 : DB X Γ W s1 ψ1) (h2 : DB X Γ W s2 ψ2) : DP X Γ W (.If c s1 s2 pos) (ifS τ ψ1 ψ2) := by
  refine dp_mk (ps_if ht.run h1.run h2.run) ?_ fun Dn σ H hid δ G R q => ht.go R q fun t δ1 H1 G1 q1 R1 s1 => ?_
  · intro δ E E' P P' he hp q
    refine ht.mono _ _ _ _ _ he (fun t δ1 q1 => ?_) q
    cases t with
    | true => exact h1.mono _ _ _ _ _ he hp q1
    | false => exact h2.mono _ _ _ _ _ he hp q1
  · cases t with
    | true => exact iteT ⟨hid, δ1, G1, R1, q1⟩
    | false => exact iteF ⟨hid, δ1, G1, R1, q1⟩
def retR (φ : RE) : RB := fun δ E P => φ δ E fun d δ1 => P (.rt d) δ1
theorem dp_ret (ha : DE X Γ W a φa) : DP X Γ W (.Return (some a) pos) (retR φa) :=
  dp_mk (ps_ret ha.run) (fun _ _ _ _ _ he hp q => ha.mono _ _ _ _ _ he (fun _ _ => hp _ _) q) fun Dn σ H hid δ G R q => ha.go R q fun d δ1 v H1 G1 q1 R1 s1 d1 => q1 v σ H1 G1 R1 d1
def retNR : RB := fun δ _ P => P (.rt .none) δ
theorem dp_retN : DP X Γ W (.Return none pos) retNR := dp_mk ps_retN (fun _ _ _ _ _ _ hp q => hp _ _ q) fun Dn σ H hid δ G R q => q .non σ H G R .non
/-- return of a new object -/
def retO (φ : RN) : RB := fun δ E P => φ δ E fun d δ1 => P (.rtO d) δ1
theorem dp_retO {φ : RN} (ha : DN X Γ W a φ) : DP X Γ W (.Return (some a) pos) (retO φ) :=
  dp_mk (ps_ret ha.run) (fun _ _ _ _ _ he hp q => ha.mono _ _ _ _ _ he (fun _ _ => hp _ _) q) fun Dn σ H hid δ G R q => ha.go R q fun d δ1 v H1 G1 q1 R1 s1 d1 => q1 v σ H1 G1 R1 d1
def exprR (φ : RE) : RB := fun δ E P => φ δ E fun _ δ1 => P .nx δ1
theorem dp_expr (ha : DE X Γ W a φa) (hs : swapsWith a none pos.line X.env = pure false := by rfl) : DP X Γ W (.Expr a pos) (exprR φa) :=
  dp_mk (ps_expr ha.run hs) (fun _ _ _ _ _ he hp q => ha.mono _ _ _ _ _ he (fun _ _ => hp _ _) q) fun Dn σ H hid δ G R q => ha.go R q fun d δ1 v H1 G1 q1 R1 s1 d1 => q1 σ H1 G1 R1
/-! ### while -/
def whK (Wd : Nat → DS → Prop) (m : Nat) (P : Fw → DS → Prop) : Fw → DS → Prop := fun fl δ => match fl with
  | .nx => ∃ m', m' < m ∧ Wd m' δ
  | .ct => ∃ m', m' < m ∧ Wd m' δ
  | .bk => P .nx δ
  | .rt d => P (.rt d) δ
  | .rtO d => P (.rtO d) δ
def whileR (c : RT) (b : RB) : RB := fun δ E P => ∃ Wd : Nat → DS → Prop, (∃ m, Wd m δ) ∧ ∀ m δ, Wd m δ → c δ E fun t δ1 => bifP t (b δ1 E (whK Wd m P)) (P .nx δ1)
theorem dp_while (hp : PassesOwn (model X.prog X.w) X.A X.env X.xe) (ht : DT X Γ W c τ) (hb : DB X Γ W sts ψ) : DP X Γ W (.While c sts [] pos) (whileR τ ψ) := by
  refine dp_mk (ps_while hp ht.run hb.run) ?_ fun Dn σ H hid δ G R q => ?_
  · intro δ E E' P P' he hp ⟨Wd, h0, q⟩
    refine ⟨Wd, h0, fun m δ w => ht.mono _ _ _ _ _ he (fun t δ1 q1 => ?_) (q m δ w)⟩
    cases t with
    | true => exact hb.mono _ _ _ _ _ he (fun fl δ2 q2 => by cases fl <;> first | exact hp _ _ q2 | exact q2) q1
    | false => exact hp _ _ q1
  · obtain ⟨Wd, ⟨m0, w0⟩, q⟩ := q
    refine ⟨fun m σ H => ∃ δ G, Rel X.K Γ hid σ H δ G ∧ Wd m δ, ⟨m0, δ, G, R, w0⟩, fun m σ1 H1 ⟨δ1, G1, R1, w1⟩ => ht.go R1 (q m δ1 w1) fun t δ2 H2 G2 q2 R2 s2 => ?_⟩
    cases t with
    | true =>
      refine iteT ⟨fun σ H => ∃ δ G, Rel X.K Γ hid σ H δ G ∧ ∃ m', m' < m ∧ Wd m' δ, fun σ' H' ⟨δ', G', R', m', hm, w'⟩ => ⟨m', hm, δ', G', R', w'⟩, hid, δ2, G2, R2, hb.mono _ _ _ _ _ (fun _ _ z => z) (fun fl δ3 q3 => ?_) q2⟩
      cases fl with
      | nx => exact fun σ H G R => ⟨δ3, G, R, q3⟩
      | ct => exact fun σ H G R => ⟨δ3, G, R, q3⟩
      | bk => exact q3
      | rt d => exact q3
      | rtO d => exact q3
    | false => exact iteF (q2 σ1 H2 G2 R2)
/-! ### for -/
abbrev RI := DS → KE → (List D → DS → Prop) → Prop
/-- an iterator that draws the data ds -/
structure ItD (K : PySem.W.Frag) (G : Hp) (J : It) (ds : List D) : Prop where
  item : ∀ i d H G1, Same G G1 → Same G1 H → ds[i]? = some d → J.go i H ∧ ∀ x H', J.yld i H x H' → ∃ G2, Grow [] H G1 H' G2 ∧ Dt K G2 x d
  stop : ∀ H G1, Same G G1 → Same G1 H → J.stop ds.length H
def LI (K : PySem.W.Frag) (Γ : Ga) (W : WX) (φ : RI) : TI := fun σ H R => ∃ hid δ G, Rel K Γ hid σ H δ G ∧ φ δ (EK K Γ W hid) fun ds δ' => ∀ J H' G', Rel K Γ hid σ H' δ' G' → Same G G' → ItD K G' J ds → R J H'
structure DI (X : Cx) (Γ : Ga) (W : WX) (tg iter : Expr) (φ : RI) : Prop where
  run : PI X tg iter (LI X.K Γ W φ)
  mono : Mono φ
theorem PI.imp {tg e : Expr} {t t' : TI} (h : PI X tg e t) (i : ∀ σ H Q, t' σ H Q → t σ H Q) : PI X tg e t' := ⟨fun pins s σ H Q I q => h.run pins s σ H Q I (i σ H Q q)⟩
theorem di_mk {tg e : Expr} {t : TI} {φ : RI} (h : PI X tg e t) (m : Mono φ) (i : ∀ σ H R hid δ G, Rel X.K Γ hid σ H δ G → φ δ (EK X.K Γ W hid) (fun ds δ' => ∀ J H' G', Rel X.K Γ hid σ H' δ' G' → Same G G' → ItD X.K G' J ds → R J H') → t σ H R) : DI X Γ W tg e φ :=
  ⟨PI.imp h fun σ H Q ⟨hid, δ, G, R, q⟩ => i σ H Q hid δ G R q, m⟩
def listI (φ : RE) : RI := fun δ E P => φ δ E fun d δ1 => match d with
  | .list ds => P ds δ1
  | _ => False
def tupI (φ : RE) : RI := fun δ E P => φ δ E fun d δ1 => match d with
  | .tuple ds => P ds δ1
  | _ => False
def strI (φ : RE) : RI := fun δ E P => φ δ E fun d δ1 => match d with
  | .str z => P (z.cps.toList.map fun c => .str ⟨#[c]⟩) δ1
  | _ => False
theorem di_list {tg : Expr} (ha : DE X Γ W a φa) : DI X Γ W tg a (listI φa) := by
  refine di_mk (pi_list ha.run) ?_ fun σ H Q hid δ G R q => ha.go R q fun d δ1 v H1 G1 q1 R1 s1 d1 => ?_
  · intro δ E E' P P' he hp q
    refine ha.mono _ _ _ _ _ he (fun x δ1 q1 => ?_) q
    cases x <;> first | exact hp _ _ q1 | exact q1
  · cases d1 with
    | lst h hd =>
      refine ⟨_, rfl, ⟨_, sql_of_rd (Same.rd R1.sub h)⟩, q1 _ H1 G1 R1 s1 ⟨fun i d H2 G2 sG sH e => ?_, fun H2 G2 sG sH => ⟨_, sql_of_rd (Same.rd (sG.trans sH) h), by rw [dpa_length hd]; exact Nat.le_refl _⟩⟩⟩
      obtain ⟨x, ex, dx⟩ := dpa_get hd e
      have hq := sql_of_rd (K := X.K) (Same.rd (sG.trans sH) h)
      exact ⟨⟨_, x, hq, ex⟩, fun y H3 ⟨e3, hy⟩ => ⟨G2, by rw [e3]; exact .refl sH, by have := (hy _ hq).symm.trans ex; cases this; exact dp_mono sG dx⟩⟩
    | _ => exact q1.elim
theorem di_tup {tg : Expr} (ha : DE X Γ W a φa) : DI X Γ W tg a (tupI φa) := by
  refine di_mk (pi_tup ha.run) ?_ fun σ H Q hid δ G R q => ha.go R q fun d δ1 v H1 G1 q1 R1 s1 d1 => ?_
  · intro δ E E' P P' he hp q
    refine ha.mono _ _ _ _ _ he (fun x δ1 q1 => ?_) q
    cases x <;> first | exact hp _ _ q1 | exact q1
  · cases d1 with
    | tup h hd =>
      refine ⟨_, rfl, ⟨_, Same.seqT R1.sub h⟩, q1 _ H1 G1 R1 s1 ⟨fun i d H2 G2 sG sH e => ?_, fun H2 G2 sG sH => ⟨_, Same.seqT (sG.trans sH) h, by rw [dpa_length hd]; exact Nat.le_refl _⟩⟩⟩
      obtain ⟨x, ex, dx⟩ := dpa_get hd e
      have hq := Same.seqT (K := X.K) (sG.trans sH) h
      exact ⟨⟨_, x, hq, ex⟩, fun y H3 ⟨e3, hy⟩ => ⟨G2, by rw [e3]; exact .refl sH, by have := (hy _ hq).symm.trans ex; cases this; exact dp_mono sG dx⟩⟩
    | _ => exact q1.elim
theorem di_str {tg : Expr} (ha : DE X Γ W a φa) : DI X Γ W tg a (strI φa) := by
  refine di_mk (pi_str ha.run) ?_ fun σ H Q hid δ G R q => ha.go R q fun d δ1 v H1 G1 q1 R1 s1 d1 => ?_
  · intro δ E E' P P' he hp q
    refine ha.mono _ _ _ _ _ he (fun x δ1 q1 => ?_) q
    cases x <;> first | exact hp _ _ q1 | exact q1
  · cases d1 with
    | str z =>
      refine ⟨z, rfl, q1 _ H1 G1 R1 s1 ⟨fun i d H2 G2 sG sH e => ?_, fun H2 G2 sG sH => by show z.cps.size ≤ _; rw [List.length_map, Array.length_toList]; exact Nat.le_refl _⟩⟩
      rw [List.getElem?_map] at e
      obtain ⟨c, ec, ed⟩ := Option.map_eq_some_iff.mp e
      rw [Array.getElem?_toList] at ec
      refine ⟨(Array.getElem?_eq_some_iff.mp ec).1, fun y H3 ⟨e3, c', ec', ey⟩ => ⟨G2, by rw [e3]; exact .refl sH, ?_⟩⟩
      rw [ec] at ec'
      cases ec'
      rw [ey, ← ed]
      exact .str _
    | _ => exact q1.elim
/-- ints from lo on, n of them -/
def rangeL (lo : Int) (n : Nat) : List D := (List.range n).map fun i => .int (lo + (i : Nat))
theorem itd_range {K : PySem.W.Frag} {G : Hp} (lo : Int) (n : Nat) : ItD K G (Itr lo n) (rangeL lo n) := by
  refine ⟨fun i d H2 G2 sG sH e => ?_, fun H2 G2 sG sH => by show n ≤ _; unfold rangeL; rw [List.length_map, List.length_range]; exact Nat.le_refl _⟩
  unfold rangeL at e
  rw [List.getElem?_map] at e
  obtain ⟨j, ej, ed⟩ := Option.map_eq_some_iff.mp e
  obtain ⟨hl, e2⟩ := List.getElem?_eq_some_iff.mp ej
  rw [List.length_range] at hl
  rw [List.getElem_range] at e2
  subst e2
  exact ⟨hl, fun y H3 ⟨e3, ey⟩ => ⟨G2, by rw [e3]; exact .refl sH, by rw [ey, ← ed]; exact .int _⟩⟩
def range1I (φ : RE) : RI := fun δ E P => φ δ E fun d δ1 => match d with
  | .int j => (-(2 ^ 62) ≤ j ∧ j < 2 ^ 62) ∧ P (rangeL 0 j.toNat) δ1
  | _ => False
theorem di_range1 {tg : Expr} (hm : X.mg "range" = none) (ha : DE X Γ W a φa) (hg : Gl X "range" := by rfl) (hs : starEach [a] X.env = [(false, eval a X.env)] := by rfl) : DI X Γ W tg (.Call (.Name "range" p) [a] [] pos) (range1I φa) := by
  refine di_mk (pi_range1 hg hm (pa_cons ha.run pa_nil hs) hs) ?_ fun σ H Q hid δ G R q => ha.go R q fun d δ1 v H1 G1 q1 R1 s1 d1 => ?_
  · intro δ E E' P P' he hp q
    refine ha.mono _ _ _ _ _ he (fun x δ1 q1 => ?_) q
    cases x <;> first | exact ⟨q1.1, hp _ _ q1.2⟩ | exact q1
  · cases d1 with
    | int j => exact ⟨j, rfl, q1.1.1, q1.1.2, q1.2 _ H1 G1 R1 s1 (itd_range 0 _)⟩
    | _ => exact q1.elim
def range2I (φ φ' : RE) : RI := fun δ E P => φ δ E fun d δ1 => φ' δ1 E fun e δ2 => match d, e with
  | .int i, .int j => (-(2 ^ 62) ≤ i ∧ i < 2 ^ 62 ∧ -(2 ^ 62) ≤ j ∧ j < 2 ^ 62) ∧ P (rangeL i (j - i).toNat) δ2
  | _, _ => False
theorem di_range2 {tg : Expr} (hm : X.mg "range" = none) (ha : DE X Γ W a φa) (hb : DE X Γ W b φb) (pi : ∀ {ta : TA}, PA X [a, b] ta → PI X tg (.Call (.Name "range" p) [a, b] [] pos) (iRng2 ta)) (hs : starEach (a :: [b]) X.env = (false, eval a X.env) :: starEach [b] X.env := by rfl) (hs2 : starEach (b :: []) X.env = (false, eval b X.env) :: starEach [] X.env := by rfl) : DI X Γ W tg (.Call (.Name "range" p) [a, b] [] pos) (range2I φa φb) := by
  refine di_mk (pi (pa_cons ha.run (pa_cons hb.run pa_nil hs2) hs)) ?_ fun σ H Q hid δ G R q => ha.go R q fun d δ1 v H1 G1 q1 R1 s1 d1 => hb.go R1 q1 fun e δ2 u H2 G2 q2 R2 s2 d2 => ?_
  · intro δ E E' P P' he hp q
    refine ha.mono _ _ _ _ _ he (fun x δ1 q1 => hb.mono _ _ _ _ _ he (fun y δ2 q2 => ?_) q1) q
    cases x <;> cases y <;> first | exact ⟨q2.1, hp _ _ q2.2⟩ | exact q2
  · cases d1 with
    | int i =>
      cases d2 with
      | int j => exact ⟨i, j, rfl, q2.1, q2.2 _ H2 G2 R2 (s1.trans s2) (itd_range i _)⟩
      | _ => exact q2.elim
    | _ => cases e <;> exact q2.elim
/-- enumerate(list), zip(list, list) -/
def enumL (ds : List D) : List D := (ds.zipIdx 0).map fun p => .tuple [.int (p.2 : Nat), p.1]
def enumI (φ : RE) : RI := fun δ E P => φ δ E fun d δ1 => match d with
  | .list ds => P (enumL ds) δ1
  | _ => False
theorem di_enum {elts : List Expr} {kk : Nat} {tpos : Pos} (hm : X.mg "enumerate" = none) (ha : DE X Γ W a φa) (hg : Gl X "enumerate" := by rfl) (hs : starEach [a] X.env = [(false, eval a X.env)] := by rfl) : DI X Γ W (.Tuple elts kk tpos) (.Call (.Name "enumerate" p) [a] [] pos) (enumI φa) := by
  refine di_mk (pi_enum hg hm (pa_cons ha.run pa_nil hs) hs) ?_ fun σ H Q hid δ G R q => ha.go R q fun d δ1 v H1 G1 q1 R1 s1 d1 => ?_
  · intro δ E E' P P' he hp q
    refine ha.mono _ _ _ _ _ he (fun x δ1 q1 => ?_) q
    cases x <;> first | exact hp _ _ q1 | exact q1
  · cases d1 with
    | lst h hd =>
      refine ⟨_, _, rfl, sql_of_rd (Same.rd R1.sub h), q1 _ H1 G1 R1 s1 ⟨fun i d H2 G2 sG sH e => ?_, fun H2 G2 sG sH => ⟨_, sql_of_rd (Same.rd (sG.trans sH) h), by unfold enumL; rw [List.length_map, List.length_zipIdx, dpa_length hd]; exact Nat.le_refl _⟩⟩⟩
      unfold enumL at e
      rw [List.getElem?_map, List.getElem?_zipIdx] at e
      obtain ⟨pr, ep, ed⟩ := Option.map_eq_some_iff.mp e
      obtain ⟨d0, e0, epr⟩ := Option.map_eq_some_iff.mp ep
      subst epr
      obtain ⟨x, ex, dx⟩ := dpa_get hd e0
      have hq := sql_of_rd (K := X.K) (Same.rd (sG.trans sH) h)
      refine ⟨⟨_, x, hq, ex⟩, fun y H3 ⟨T, x', ey, nT, e3, hy⟩ => ?_⟩
      have := (hy _ hq).symm.trans ex
      cases this
      have g := Grow.new (o := .tup [.int (i : Nat), x]) sH nT
      refine ⟨_, by rw [e3]; exact g, ?_⟩
      rw [ey, ← ed]
      refine .tup (.of upd_same) (.cons ?_ (.cons (dp_mono (sG.trans g.data) dx) .nil))
      rw [Nat.zero_add]
      exact .int _
    | _ => exact q1.elim
def zipL (ds es : List D) : List D := (ds.zip es).map fun p => .tuple [p.1, p.2]
def zipI (φ φ' : RE) : RI := fun δ E P => φ δ E fun d δ1 => φ' δ1 E fun e δ2 => match d, e with
  | .list ds, .list es => P (zipL ds es) δ2
  | _, _ => False
theorem di_zip {elts : List Expr} {kk : Nat} {tpos : Pos} (ha : DE X Γ W a φa) (hb : DE X Γ W b φb) (pi : ∀ {ta : TA}, PA X [a, b] ta → PI X (.Tuple elts kk tpos) (.Call (.Name "zip" p) [a, b] [] pos) (iZip X.K ta)) (hs : starEach (a :: [b]) X.env = (false, eval a X.env) :: starEach [b] X.env := by rfl) (hs2 : starEach (b :: []) X.env = (false, eval b X.env) :: starEach [] X.env := by rfl) :
    DI X Γ W (.Tuple elts kk tpos) (.Call (.Name "zip" p) [a, b] [] pos) (zipI φa φb) := by
  refine di_mk (pi (pa_cons ha.run (pa_cons hb.run pa_nil hs2) hs)) ?_ fun σ H Q hid δ G R q => ha.go R q fun d δ1 v H1 G1 q1 R1 s1 d1 => hb.go R1 q1 fun e δ2 u H2 G2 q2 R2 s2 d2 => ?_
  · intro δ E E' P P' he hp q
    refine ha.mono _ _ _ _ _ he (fun x δ1 q1 => hb.mono _ _ _ _ _ he (fun y δ2 q2 => ?_) q1) q
    cases x <;> cases y <;> first | exact hp _ _ q2 | exact q2
  · cases d1 with
    | lst h hd =>
      cases d2 with
      | lst h2 hd2 =>
        refine ⟨_, _, _, _, rfl, sql_of_rd (Same.rd (s2.trans R2.sub) h), sql_of_rd (Same.rd R2.sub h2), q2 _ H2 G2 R2 (s1.trans s2) ⟨fun i d H3 G3 sG sH e => ?_, fun H3 G3 sG sH => ⟨_, _, sql_of_rd (Same.rd ((s2.trans sG).trans sH) h), sql_of_rd (Same.rd (sG.trans sH) h2), ?_⟩⟩⟩
        · unfold zipL at e
          rw [List.getElem?_map] at e
          obtain ⟨pr, ep, ed⟩ := Option.map_eq_some_iff.mp e
          obtain ⟨e1, e2⟩ := List.getElem?_zip_eq_some.mp ep
          obtain ⟨x, ex, dx⟩ := dpa_get hd e1
          obtain ⟨y, ey, dy⟩ := dpa_get hd2 e2
          have hq := sql_of_rd (K := X.K) (Same.rd ((s2.trans sG).trans sH) h)
          have hq2 := sql_of_rd (K := X.K) (Same.rd (sG.trans sH) h2)
          refine ⟨⟨_, _, x, y, hq, hq2, ex, ey⟩, fun z H3 ⟨T, x', y', ez, nT, e3, hx, hy⟩ => ?_⟩
          have := (hx _ hq).symm.trans ex
          cases this
          have := (hy _ hq2).symm.trans ey
          cases this
          have g := Grow.new (o := .tup [x, y]) sH nT
          refine ⟨_, by rw [e3]; exact g, ?_⟩
          rw [ez, ← ed]
          exact .tup (.of upd_same) (.cons (dp_mono ((s2.trans sG).trans g.data) dx) (.cons (dp_mono (sG.trans g.data) dy) .nil))
        · unfold zipL
          rw [List.length_map, List.length_zip, dpa_length hd, dpa_length hd2]
          omega
      | _ => exact q2.elim
    | _ => cases e <;> exact q2.elim
def foK (F : DS → Prop) (P : Fw → DS → Prop) : Fw → DS → Prop := fun fl δ => match fl with
  | .nx => F δ
  | .ct => F δ
  | .bk => P .nx δ
  | .rt d => P (.rt d) δ
  | .rtO d => P (.rtO d) δ
def forK (γ : RG) (b : RB) (E : KE) (P : Fw → DS → Prop) : List D → DS → Prop
  | [], δ => P .nx δ
  | d :: ds, δ => γ d δ fun δ1 => b δ1 E (foK (forK γ b E P ds) P)
def forR (it : RI) (γ : RG) (b : RB) : RB := fun δ E P => it δ E fun ds δ1 => forK γ b E P ds δ1
theorem foK_mono {F F' : DS → Prop} {P P' : Fw → DS → Prop} (hF : ∀ δ, F δ → F' δ) (hp : ∀ a δ, P a δ → P' a δ) : ∀ fl δ, foK F P fl δ → foK F' P' fl δ := fun fl δ q => by
  cases fl <;> first | exact hF _ q | exact hp _ _ q
theorem forK_mono {tg : Expr} {vs : List Nat} {γ : RG} (hg : DG X Γ tg vs γ) (hb : Mono ψ) {E E' : KE} {P P' : Fw → DS → Prop} (he : ∀ x δ, E x δ → E' x δ) (hp : ∀ a δ, P a δ → P' a δ) : ∀ ds δ, forK γ ψ E P ds δ → forK γ ψ E' P' ds δ
  | [], δ, q => hp _ _ q
  | d :: ds, δ, q => hg.mono _ _ _ _ (fun δ1 q1 => hb _ _ _ _ _ he (foK_mono (forK_mono hg hb he hp ds) hp) q1) q
theorem EK_up {K : PySem.W.Frag} {hid : Hd} {G1 : Hp} (s : Same hid.gb G1) : ∀ x δ, EK K Γ W hid x δ → EK K Γ W ⟨hid.ls, G1⟩ x δ := fun x δ h cls d σ H G R ex => h cls d σ H G (R.unbase s) ex
theorem New.rb {K : PySem.W.Frag} {hid : Hd} {G1 : Hp} {σ : L2.St} {H : Hp} {δ : DS} {G : Hp} {p : Addr} {o : MO} (n : New K Γ ⟨hid.ls, G1⟩ σ H δ G p o) : New K Γ hid σ H δ G p o := ⟨n.g, n.h0, n.hd, n.ow, n.mo⟩
theorem KF_up {K : PySem.W.Frag} {hid : Hd} {G1 : Hp} {Dn : Ends} (s : Same hid.gb G1) : ∀ fl δ, KF K Γ hid Dn fl δ → KF K Γ ⟨hid.ls, G1⟩ Dn fl δ := fun fl δ h => by
  cases fl with
  | nx => exact fun σ H G R => h σ H G (R.unbase s)
  | bk => exact fun σ H G R => h σ H G (R.unbase s)
  | ct => exact fun σ H G R => h σ H G (R.unbase s)
  | rt d => exact fun v σ H G R => h v σ H G (R.unbase s)
  | rtO o => exact fun v σ H G R n => h v σ H G (R.unbase s) n.rb
theorem dp_for {tg iter : Expr} {vs : List Nat} {γ : RG} {ι : RI} (hp : PassesOwn (model X.prog X.w) X.A X.env X.xe) (hi : DI X Γ W tg iter ι) (hg : DG X Γ tg vs γ) (hb : DB X Γ W sts ψ) (hc : X.calm = true := by rfl)
    (hs : ∀ x, foldedSetIterable iter X.env x = pure x := by intro _; rfl) : DP X Γ W (.For tg iter sts [] pos) (forR ι γ ψ) := by
  refine dp_mk (ps_for hp hc hi.run hg.run hb.run hs) ?_ fun Dn σ H hid δ G R q => ?_
  · exact fun _ _ _ _ _ he hp q => hi.mono _ _ _ _ _ he (fun ds δ1 q1 => forK_mono hg hb.mono he hp ds δ1 q1) q
  · refine ⟨hid, δ, G, R, hi.mono _ _ _ _ _ (fun _ _ z => z) (fun ds δ1 q1 J H1 G1 R1 s1 it => ?_) q⟩
    have q1' := forK_mono hg hb.mono (EK_up (W := W) R1.gb) (KF_up (Dn := Dn) R1.gb) ds δ1 q1
    have R1' := R1.rebase
    refine ⟨fun i m σ H => ∃ δ G2, Rel X.K Γ ⟨hid.ls, G1⟩ σ H δ G2 ∧ m = ds.length - i ∧ i ≤ ds.length ∧ forK γ ψ (EK X.K Γ W ⟨hid.ls, G1⟩) (KF X.K Γ ⟨hid.ls, G1⟩ Dn) (ds.drop i) δ, ⟨_, δ1, G1, R1', rfl, Nat.zero_le _, q1'⟩, ?_⟩
    rintro i m σ2 H2 ⟨δ2, G2, R2, rfl, hle, q2⟩
    by_cases hlt : i < ds.length
    · have hd : ds[i]? = some ds[i] := List.getElem?_eq_getElem hlt
      obtain ⟨go, yl⟩ := it.item i _ H2 G2 R2.gb R2.sub hd
      rw [List.drop_eq_getElem_cons hlt] at q2
      refine .inr ⟨go, fun σ H => ∃ δ G2, Rel X.K Γ ⟨hid.ls, G1⟩ σ H δ G2 ∧ forK γ ψ (EK X.K Γ W ⟨hid.ls, G1⟩) (KF X.K Γ ⟨hid.ls, G1⟩ Dn) (ds.drop (i + 1)) δ, fun σ' H' ⟨δ', G', R', q'⟩ => ⟨ds.length - (i + 1), by omega, δ', G', R', rfl, hlt, q'⟩, fun x H3 hy => ?_⟩
      obtain ⟨G3, g, dx⟩ := yl x H3 hy
      refine ⟨_, δ2, G3, ds[i], R2.grow g, dx, hg.mono _ _ _ _ (fun δ4 q4 σ4 R4 _ => ⟨_, δ4, G3, R4, hb.mono _ _ _ _ _ (fun _ _ z => z) (fun fl δ5 q5 => ?_) q4⟩) q2⟩
      cases fl with
      | nx => exact fun σ H G R => ⟨δ5, G, R, q5⟩
      | ct => exact fun σ H G R => ⟨δ5, G, R, q5⟩
      | bk => exact q5
      | rt d => exact q5
      | rtO d => exact q5
    · have e : i = ds.length := by omega
      subst e
      rw [List.drop_length] at q2
      exact .inl ⟨it.stop H2 G2 R2.gb R2.sub, q2 σ2 H2 G2 R2⟩
end
end DL

/-! Own lists, comprehensions, defs. -/
namespace DL
open PySem PySem.Spec PyProof.Rows L2
section
variable {K : PySem.W.Frag} {Γ : Ga} {hid : Hd} {σ σ' : L2.St} {H : Hp} {δ δ' : DS} {G : Hp}
theorem Rel.swap (R : Rel K Γ hid σ H δ G) (hl : δ'.length = σ'.length) (vs : List Nat) (out : ∀ j, j ∉ vs → σ'[j]? = σ[j]? ∧ δ'.get j = δ.get j)
    (ins : ∀ j, j ∈ vs → ∀ s, δ'.get j = some s → ∃ d v, s = .sh d ∧ σ'[j]? = some (some v) ∧ Dt K G v d) (io : ∀ j, j ∈ vs → ∀ o, δ.get j ≠ some (.io o)) : Rel K Γ hid σ' H δ' G := by
  have ow : ∀ j, Own δ' j → j ∉ vs ∧ Own δ j := fun j ⟨o, h⟩ => by
    by_cases c : j ∈ vs
    · rcases h with h | h
      · obtain ⟨d, v, e, _⟩ := ins j c _ h
        cases e
      · obtain ⟨d, v, e, _⟩ := ins j c _ h
        cases e
    · exact ⟨c, o, by rw [← (out j c).2]; exact h⟩
  refine ⟨R.sub, R.ext, R.old, R.fr, fun q hq => ?_, hl, fun j s e => ?_, fun j k p hj hk aj ak => ?_, R.hds, R.gb⟩
  · obtain ⟨h1, h2, o, h3⟩ := R.prs q hq
    have c : q.1 ∉ vs := fun z => io _ z o h3
    exact ⟨by unfold At; rw [(out _ c).1]; exact h1, h2, o, by rw [(out _ c).2]; exact h3⟩
  · by_cases c : j ∈ vs
    · obtain ⟨d, v, rfl, e2, dd⟩ := ins j c s e
      exact ⟨v, e2, dd⟩
    · rw [(out j c).2] at e
      have q := R.sl j s e
      have ea := (out j c).1
      cases s with
      | sh d => obtain ⟨v, h1, h2⟩ := q; exact ⟨v, by rw [ea]; exact h1, h2⟩
      | ow o => obtain ⟨p, h1, h2⟩ := q; exact ⟨p, by unfold At; rw [ea]; exact h1, h2⟩
      | io o => obtain ⟨p, h1, h2⟩ := q; exact ⟨p, by unfold At; rw [ea]; exact h1, h2⟩
  · obtain ⟨c1, o1⟩ := ow j hj
    obtain ⟨c2, o2⟩ := ow k hk
    unfold At at aj ak
    rw [(out j c1).1] at aj
    rw [(out k c2).1] at ak
    exact R.dist j k p o1 o2 aj ak
def wipeD (δ : DS) : List Nat → DS
  | [] => δ
  | v :: vs => List.set (wipeD δ vs) v none
theorem wipeD_len (δ : DS) : ∀ vs, (wipeD δ vs).length = δ.length
  | [] => rfl
  | v :: vs => by unfold wipeD; rw [List.length_set, wipeD_len δ vs]
theorem wipeD_get (δ : DS) : ∀ (vs : List Nat) (j : Nat), (wipeD δ vs).get j = if j ∈ vs then none else δ.get j
  | [], j => by simp [wipeD]
  | v :: vs, j => by
    unfold wipeD
    rw [DS.get_set, wipeD_get δ vs j, wipeD_len]
    by_cases c : v = j
    · subst c
      by_cases h : v < δ.length
      · rw [if_pos ⟨rfl, h⟩, if_pos List.mem_cons_self]
      · rw [if_neg (fun z => h z.2)]
        have e : δ.get v = none := by
          cases q : δ.get v with
          | none => rfl
          | some s => exact absurd (DS.get_lt q) h
        rw [e, if_pos List.mem_cons_self]
        split <;> rfl
    · rw [if_neg (fun z => c z.1)]
      by_cases h : j ∈ vs
      · rw [if_pos h, if_pos (List.mem_cons_of_mem _ h)]
      · rw [if_neg h, if_neg (fun z => by rcases List.mem_cons.mp z with z | z; exact c z.symm; exact h z)]
def keepD : Option Sl → Option Sl
  | some (.sh d) => some (.sh d)
  | _ => none
/-- the block's own names as they stood ahead of it -/
def restD (δ0 : DS) : List Nat → DS → DS
  | [], δ => δ
  | v :: vs, δ => List.set (restD δ0 vs δ) v (keepD (δ0.get v))
theorem restD_len (δ0 δ : DS) : ∀ vs, (restD δ0 vs δ).length = δ.length
  | [] => rfl
  | v :: vs => by unfold restD; rw [List.length_set, restD_len δ0 δ vs]
theorem restD_get (δ0 δ : DS) (hl : δ0.length = δ.length) : ∀ (vs : List Nat) (j : Nat), (restD δ0 vs δ).get j = if j ∈ vs then keepD (δ0.get j) else δ.get j
  | [], j => by simp [restD]
  | v :: vs, j => by
    unfold restD
    rw [DS.get_set, restD_get δ0 δ hl vs j, restD_len]
    by_cases c : v = j
    · subst c
      by_cases h : v < δ.length
      · rw [if_pos ⟨rfl, h⟩, if_pos List.mem_cons_self]
      · rw [if_neg (fun z => h z.2)]
        have none_of : ∀ δ2 : DS, ¬ v < δ2.length → δ2.get v = none := fun δ2 h => by
          cases q : δ2.get v with
          | none => rfl
          | some s => exact absurd (DS.get_lt q) h
        rw [none_of δ h, none_of δ0 (by omega), if_pos List.mem_cons_self]
        split <;> rfl
    · rw [if_neg (fun z => c z.1)]
      by_cases h : j ∈ vs
      · rw [if_pos h, if_pos (List.mem_cons_of_mem _ h)]
      · rw [if_neg h, if_neg (fun z => by rcases List.mem_cons.mp z with z | z; exact c z.symm; exact h z)]
def noIo (vs : List Nat) (δ : DS) : Prop := ∀ j, j ∈ vs → ∀ o, δ.get j ≠ some (.io o)
def notIo : Option Sl → Bool
  | some (.io _) => false
  | _ => true
def noIoB (vs : List Nat) (δ : DS) : Bool := match vs with
  | [] => true
  | v :: vs => notIo (δ.get v) && noIoB vs δ
theorem noIo_of {δ : DS} : ∀ {vs : List Nat}, noIoB vs δ = true → noIo vs δ
  | [], _ => fun j hj => by cases hj
  | v :: vs, h => fun j hj o e => by
    obtain ⟨h1, h2⟩ := Bool.and_eq_true_iff.mp (show (notIo (δ.get v) && noIoB vs δ) = true from h)
    rcases List.mem_cons.mp hj with z | z
    · subst z; rw [e] at h1; cases h1
    · exact noIo_of h2 j z o e
/-- none of these slots is lent -/
def ioG (vs : List Nat) (δ : DS) (A : Prop) : Prop := bifP (noIoB vs δ) A False
theorem ioG_get {vs : List Nat} {δ : DS} {A : Prop} (h : ioG vs δ A) : noIo vs δ ∧ A := by
  unfold ioG at h
  cases e : noIoB vs δ with
  | true => rw [e] at h; exact ⟨noIo_of e, h⟩
  | false => rw [e] at h; exact h.elim
theorem ioG_mono {vs : List Nat} {δ : DS} {A B : Prop} (i : A → B) (h : ioG vs δ A) : ioG vs δ B := bif_mono i id h
theorem Rel.wiped (R : Rel K Γ hid σ H δ G) {σ2 : L2.St} {vs : List Nat} (hw : wipe σ vs = wipe σ2 vs) (io : noIo vs δ) : Rel K Γ hid (wipe σ2 vs) H (wipeD δ vs) G := by
  refine R.swap (by rw [wipeD_len, ← hw, wipe_length]; exact R.len) vs (fun j hj => ⟨by rw [← hw]; exact wipe_out hj, by rw [wipeD_get, if_neg hj]⟩) (fun j hj s e => ?_) io
  rw [wipeD_get, if_pos hj] at e
  cases e
theorem Rel.push (R : Rel K Γ hid σ H δ G) {p : Addr} {u : HO} {o : MO} (n : New K Γ hid σ H δ G p o) (hp : H p = some u) : Rel K Γ ⟨(p, u) :: hid.ls, hid.gb⟩ σ H δ G := by
  refine ⟨R.sub, R.ext, R.old, R.fr, R.prs, R.len, fun j s e => ?_, R.dist, fun q hq => ?_, R.gb⟩
  · have q := R.sl j s e
    cases s with
    | sh d => exact q
    | ow o =>
      obtain ⟨r, h1, h2, h3, h4, h5⟩ := q
      refine ⟨r, h1, h2, h3, fun q hq => ?_, h5⟩
      rcases List.mem_cons.mp hq with z | z
      · subst z; exact fun z => n.ow j ⟨o, .inl e⟩ (by rw [show p = r from z]; exact h1)
      · exact h4 q z
    | io o =>
      obtain ⟨r, h1, h2, h3, h4, h5⟩ := q
      refine ⟨r, h1, h2, h3, fun q hq => ?_, h5⟩
      rcases List.mem_cons.mp hq with z | z
      · subst z; exact fun z => n.ow j ⟨o, .inr e⟩ (by rw [show p = r from z]; exact h1)
      · exact h4 q z
  · rcases List.mem_cons.mp hq with z | z
    · subst z; exact ⟨hp, n.g, n.h0⟩
    · exact R.hds q z
theorem Rel.hset {ls : List (Addr × HO)} {gb : Hp} {p : Addr} {u u' : HO} (R : Rel K Γ ⟨(p, u) :: ls, gb⟩ σ H δ G) (ne : ∀ q ∈ ls, q.1 ≠ p) : Rel K Γ ⟨(p, u') :: ls, gb⟩ σ (upd H p u') δ G := by
  obtain ⟨hp, hg, h0⟩ := R.hds (p, u) List.mem_cons_self
  refine ⟨fun a o e => by rw [upd_ne (ne_of_none e hg)]; exact R.sub a o e, R.ext, R.old, fun a o e n => by rw [upd_ne (ne_of_none e h0)]; exact R.fr a o e n, R.prs, R.len, fun j s e => ?_, R.dist, fun q hq => ?_, R.gb⟩
  · have q := R.sl j s e
    cases s with
    | sh d => exact q
    | ow o =>
      obtain ⟨r, h1, h2, h3, h4, h5⟩ := q
      have nr : r ≠ p := fun z => h4 (p, u) List.mem_cons_self z.symm
      exact ⟨r, h1, h2, h3, fun q hq => by rcases List.mem_cons.mp hq with z | z; exact z ▸ nr.symm; exact h4 q (List.mem_cons_of_mem _ z), h5.mono (Same.refl _) fun _ z => by rw [upd_ne nr]; exact z⟩
    | io o =>
      obtain ⟨r, h1, h2, h3, h4, h5⟩ := q
      have nr : r ≠ p := fun z => h4 (p, u) List.mem_cons_self z.symm
      exact ⟨r, h1, h2, h3, fun q hq => by rcases List.mem_cons.mp hq with z | z; exact z ▸ nr.symm; exact h4 q (List.mem_cons_of_mem _ z), h5.mono (Same.refl _) fun _ z => by rw [upd_ne nr]; exact z⟩
  · rcases List.mem_cons.mp hq with z | z
    · subst z; exact ⟨upd_same, hg, h0⟩
    · obtain ⟨h1, h2, h3⟩ := R.hds q (List.mem_cons_of_mem _ z)
      exact ⟨by rw [upd_ne (ne q z)]; exact h1, h2, h3⟩
theorem Rel.pop {ls : List (Addr × HO)} {gb : Hp} {p : Addr} {u : HO} (R : Rel K Γ ⟨(p, u) :: ls, gb⟩ σ H δ G) : Rel K Γ ⟨ls, gb⟩ σ H δ G := by
  refine ⟨R.sub, R.ext, R.old, R.fr, R.prs, R.len, fun j s e => ?_, R.dist, fun q hq => R.hds q (List.mem_cons_of_mem _ hq), R.gb⟩
  have q := R.sl j s e
  cases s with
  | sh d => exact q
  | ow o => obtain ⟨r, h1, h2, h3, h4, h5⟩ := q; exact ⟨r, h1, h2, h3, fun q hq => h4 q (List.mem_cons_of_mem _ hq), h5⟩
  | io o => obtain ⟨r, h1, h2, h3, h4, h5⟩ := q; exact ⟨r, h1, h2, h3, fun q hq => h4 q (List.mem_cons_of_mem _ hq), h5⟩
theorem Rel.pop_new {ls : List (Addr × HO)} {gb : Hp} {p : Addr} {vs : List V} {ds : List D} (R : Rel K Γ ⟨(p, .lst vs) :: ls, gb⟩ σ H δ G) (ne : ∀ q ∈ ls, q.1 ≠ p) (hd : Dts K G vs ds) : New K Γ ⟨ls, gb⟩ σ H δ G p (.lst ds) := by
  obtain ⟨hp, hg, h0⟩ := R.hds (p, .lst vs) List.mem_cons_self
  refine ⟨hg, h0, ne, fun j ⟨o, h⟩ a => ?_, vs, hp, hd⟩
  rcases h with h | h
  · obtain ⟨r, h1, h2, h3, h4, h5⟩ := R.sl j _ h
    exact h4 (p, .lst vs) List.mem_cons_self (a.inj h1)
  · obtain ⟨r, h1, h2, h3, h4, h5⟩ := R.sl j _ h
    exact h4 (p, .lst vs) List.mem_cons_self (a.inj h1)
end
def E0K : KE := fun _ _ => False
def W0 : WX := fun _ _ _ _ => False
/-! ### comprehensions -/
def lcK (vs : List Nat) (γ : RG) (t : RT) (e : RE) (P : List D → DS → Prop) : List D → List D → DS → Prop
  | [], acc, δ => P acc δ
  | d :: ds, acc, δ => γ d δ fun δ1 => t δ1 E0K fun b δ2 => bifP b (e δ2 E0K fun y δ3 => ioG vs δ3 (lcK vs γ t e P ds (acc ++ [y]) (wipeD δ3 vs)))
    (ioG vs δ2 (lcK vs γ t e P ds acc (wipeD δ2 vs)))
def lcN (vs : List Nat) (ι : RI) (γ : RG) (t : RT) (e : RE) : RN := fun δ E P => ι δ E fun ds δ1 => ds.length ≤ sizeLine ∧ ioG vs δ1 (lcK vs γ t e (fun acc δ2 => P (.lst acc) (restD δ1 vs δ2)) ds [] (wipeD δ1 vs))
def yesT : RT := fun δ _ P => P true δ
structure DTs (X : Cx) (Γ : Ga) (W : WX) (ifs : List Expr) (τ : RT) : Prop where
  run : PTs X ifs (LT X.K Γ W τ)
  mono : Mono τ
section
variable {X : Cx} {Γ : Ga} {W : WX} {a b c : Expr} {φa φb φc : RE} {pos p : Pos} {es : List Expr} {ρ : RA} {st : Stmt} {sts : List Stmt} {ψ ψ1 ψ2 : RB} {τ : RT}
theorem dts_nil : DTs X Γ W [] yesT := ⟨⟨fun pins s σ H Q I ⟨hid, δ, G, R, q⟩ => pts_nil.run pins s σ H Q I (q H G R (Same.refl _))⟩, fun _ _ _ _ _ _ hp q => hp _ _ q⟩
theorem dts_one (h : DT X Γ W c τ) : DTs X Γ W [c] τ := ⟨pts_one h.run, h.mono⟩
theorem lcK_mono {vs : List Nat} {γ : RG} {e : RE} (mg : ∀ d δ P P', (∀ δ, P δ → P' δ) → γ d δ P → γ d δ P') (mt : Mono τ) (me : Mono e) {P P' : List D → DS → Prop} (hp : ∀ a δ, P a δ → P' a δ) : ∀ ds acc δ, lcK vs γ τ e P ds acc δ → lcK vs γ τ e P' ds acc δ
  | [], acc, δ, q => hp _ _ q
  | d :: ds, acc, δ, q => mg _ _ _ _ (fun δ1 q1 => mt _ _ _ _ _ (fun _ _ z => z) (fun b δ2 q2 => by
    cases b with
    | true => exact me _ _ _ _ _ (fun _ _ z => z) (fun y δ3 q3 => ioG_mono (lcK_mono mg mt me hp ds _ _) q3) q2
    | false => exact ioG_mono (lcK_mono mg mt me hp ds _ _) q2) q1) q
theorem E0_up {K : PySem.W.Frag} {hid : Hd} : ∀ x δ, E0K x δ → EK K Γ W hid x δ := fun _ _ z => False.elim z
theorem lc_go {tg iter : Expr} {own : List (Str × Nat)} {ι : RI} {γ : RG} {κ : RE} (hi : DI X Γ W tg iter ι)
    (mg : ∀ d δ P P', (∀ δ, P δ → P' δ) → γ d δ P → γ d δ P') (mt : Mono τ) (me : Mono κ) :
    ∀ σ H Q hid δ G, Rel X.K Γ hid σ H δ G → lcN (own.map (·.2)) ι γ τ κ δ (EK X.K Γ W hid) (KN X.K Γ hid σ G Q) → tLc (LI X.K Γ W ι) (LG X.K Γ (own.map (·.2)) γ) (LT X.K Γ W0 τ) (LE X.K Γ W0 κ) (own.map (·.2)) σ H Q := by
  intro σ H Q hid δ G R q
  generalize hvs : own.map (·.2) = vs at q ⊢
  refine ⟨hid, δ, G, R, hi.mono _ _ _ _ _ (fun _ _ z => z) (fun ds δ1 q1 J H1 G1 R1 s1 it => ?_) q⟩
  intro Dd np
  obtain ⟨lds, q1⟩ := q1
  obtain ⟨io1, q1⟩ := ioG_get q1
  have n0 : New X.K Γ hid σ (upd H1 Dd (.lst [])) δ1 G1 Dd (.lst []) := .of R1 np ⟨[], upd_same, .nil⟩
  have R1a := R1.grow (Grow.newO (o := .lst []) R1.sub np)
  have R1b := (R1a.push n0 upd_same)
  have R1c := R1b.rebase
  have R1d : Rel X.K Γ ⟨(Dd, .lst []) :: hid.ls, G1⟩ (wipe σ vs) (upd H1 Dd (.lst [])) (wipeD δ1 vs) G1 := R1c.wiped rfl io1
  have neD : ∀ q ∈ hid.ls, q.1 ≠ Dd := n0.hd
  have widem : wipe (wipe σ vs) vs = wipe σ vs := by
    have : ∀ (vs ws : List Nat) (σ : L2.St), (∀ v ∈ vs, v ∈ ws) → wipe (wipe σ vs) ws = wipe σ ws := by
      intro vs
      induction vs with
      | nil => intro ws σ _; rfl
      | cons v vs ih =>
        intro ws σ h
        show wipe (List.set (wipe σ vs) v none) ws = wipe σ ws
        rw [wipe_set (h v List.mem_cons_self)]
        exact ih ws σ fun u hu => h u (List.mem_cons_of_mem _ hu)
    exact this vs vs σ fun _ h => h
  refine ⟨fun i m H => ∃ δ G2 acc va, Rel X.K Γ ⟨(Dd, .lst va) :: hid.ls, G1⟩ (wipe σ vs) H δ G2 ∧ Dts X.K G2 va acc ∧ acc.length ≤ i ∧ m = ds.length - i ∧ i ≤ ds.length ∧ lcK vs γ τ κ (fun acc δ2 => KN X.K Γ hid σ G Q (.lst acc) (restD δ1 vs δ2)) (ds.drop i) acc δ, ⟨_, _, G1, [], [], R1d, .nil, Nat.le_refl _, rfl, Nat.zero_le _, q1⟩, ?_⟩
  rintro i m H2 ⟨δ2, G2, acc, va, R2, hva, lacc, rfl, hle, q2⟩
  by_cases hlt : i < ds.length
  · have hd : ds[i]? = some ds[i] := List.getElem?_eq_getElem hlt
    obtain ⟨go, yl⟩ := it.item i _ H2 G2 R2.gb R2.sub hd
    rw [List.drop_eq_getElem_cons hlt] at q2
    refine .inr ⟨go, fun H => ∃ δ G2 acc va, Rel X.K Γ ⟨(Dd, .lst va) :: hid.ls, G1⟩ (wipe σ vs) H δ G2 ∧ Dts X.K G2 va acc ∧ acc.length ≤ i + 1 ∧ lcK vs γ τ κ (fun acc δ2 => KN X.K Γ hid σ G Q (.lst acc) (restD δ1 vs δ2)) (ds.drop (i + 1)) acc δ,
      fun H' ⟨δ', G', acc', va', R', hv', la', q'⟩ => ⟨ds.length - (i + 1), by omega, δ', G', acc', va', R', hv', la', rfl, hlt, q'⟩, fun x H3 hy => ?_⟩
    obtain ⟨G3, g, dx⟩ := yl x H3 hy
    refine ⟨_, δ2, G3, ds[i], R2.grow g, dx, mg _ _ _ _ (fun δ4 q4 σ4 R4 w4 => ⟨w4.trans widem, ⟨(Dd, .lst va) :: hid.ls, G1⟩, δ4, G3, R4, mt _ _ _ _ _ E0_up (fun bb δ5 q5 H5 G5 R5 s5 => ?_) q4⟩) q2⟩
    cases bb with
    | true =>
      refine iteT ⟨_, δ5, G5, R5, me _ _ _ _ _ E0_up (fun y δ6 q6 v H6 G6 R6 s6 d6 => ?_) q5⟩
      obtain ⟨io6, k6⟩ := ioG_get q6
      refine ⟨va, (R6.hds (Dd, .lst va) List.mem_cons_self).1, by rw [dpa_length hva]; omega, wipeD δ6 vs, G6, acc ++ [y], va ++ [v], ?_, dpa_append (dpa_mono ((g.data.trans s5).trans s6) hva) (.cons d6 .nil), by rw [List.length_append]; show acc.length + 1 ≤ i + 1; omega, k6⟩
      exact (R6.hset neD).wiped (w4.trans widem) io6
    | false =>
      obtain ⟨io5, k5⟩ := ioG_get q5
      refine iteF ⟨wipeD δ5 vs, G5, acc, va, R5.wiped (w4.trans widem) io5, dpa_mono (g.data.trans s5) hva, by omega, k5⟩
  · have e : i = ds.length := by omega
    subst e
    rw [List.drop_length] at q2
    refine .inl ⟨it.stop H2 G2 R2.gb R2.sub, ?_⟩
    have gl : δ2.length = δ1.length := by rw [R2.len, wipe_length, ← R1.len]
    have io2 : noIo vs δ2 := fun j hj o e => by
      obtain ⟨r, h1, _⟩ := R2.sl j _ e
      have : (wipe σ vs)[j]? = some (some (.ref r)) := h1
      exact (wipe_some this).2 hj
    have back : ∀ {h : Hd}, Rel X.K Γ h (wipe σ vs) H2 δ2 G2 → Rel X.K Γ h σ H2 (restD δ1 vs δ2) G2 := fun {h} R => by
      refine R.swap (by rw [restD_len, gl]; exact R1.len) vs (fun j hj => ⟨(wipe_out hj).symm, by rw [restD_get _ _ gl.symm, if_neg hj]⟩) (fun j hj s e => ?_) io2
      rw [restD_get _ _ gl.symm, if_pos hj] at e
      cases e1 : δ1.get j with
      | none => rw [e1] at e; cases e
      | some s1 =>
        rw [e1] at e
        cases s1 with
        | sh d =>
          cases e
          obtain ⟨v, h1, h2⟩ := R1.sl j _ e1
          exact ⟨d, v, rfl, h1, dp_mono R2.gb h2⟩
        | _ => cases e
    have R3 := back R2
    exact q2 Dd H2 G2 (R3.pop.unbase R1.gb) (s1.trans R2.gb) (R3.pop_new neD hva).rb
end
end DL

/-! Comprehensions as expressions and stored, own lists, defs. -/
namespace DL
open PySem PySem.Spec PyProof.Rows L2
section
variable {X : Cx} {Γ : Ga} {W : WX} {a b c : Expr} {φa φb φc : RE} {pos p : Pos} {es : List Expr} {ρ : RA} {st : Stmt} {sts : List Stmt} {ψ ψ1 ψ2 : RB} {τ : RT}
theorem mono_lcN {vs : List Nat} {ι : RI} {γ : RG} {κ : RE} (mi : Mono ι) (mg : ∀ d δ P P', (∀ δ, P δ → P' δ) → γ d δ P → γ d δ P') (mt : Mono τ) (me : Mono κ) : Mono (lcN vs ι γ τ κ) :=
  fun _ _ _ _ _ he hp q => mi _ _ _ _ _ he (fun ds δ1 z => ⟨z.1, ioG_mono (lcK_mono mg mt me (fun _ _ => hp _ _) _ _ _) z.2⟩) q
theorem dn_lc {elt tg iter : Expr} {ifs : List Expr} {scope : Scope} (own : List (Str × Nat)) {ι : RI} {γ : RG} {κ : RE} (hN : X.N.Nodup) (hi : DI X Γ W tg iter ι) (ok : BlkOk X.N X.env.scope scope own)
    (hg : ∀ (s : Shared) (H : Hp) (C : Addr) (cl : List (Str × Addr)) (fp : List Addr), DG (X.blk s H scope (compEnvC scope cl C X.env) fp) Γ tg (own.map (·.2)) γ) (ht : ∀ (s : Shared) (H : Hp) (C : Addr) (cl : List (Str × Addr)) (fp : List Addr), DTs (X.blk s H scope (compEnvC scope cl C X.env) fp) Γ W0 ifs τ)
    (he : ∀ (s : Shared) (H : Hp) (C : Addr) (cl : List (Str × Addr)) (fp : List Addr), DE (X.blk s H scope (compEnvC scope cl C X.env) fp) Γ W0 elt κ) (hc : X.calm = true := by rfl) (hs : ∀ x, foldedSetIterable iter X.env x = pure x := by intro _; rfl) :
    DN X Γ W (.ListComp elt [⟨tg, iter, ifs, 0⟩] scope pos) (lcN (own.map (·.2)) ι γ τ κ) :=
  have z := X.s_0
  dn_mk (pe_lc hc hN hi.run ok (fun s H C cl fp => (hg s H C cl fp).run) (fun s H C cl fp => (ht s H C cl fp).run) (fun s H C cl fp => (he s H C cl fp).run) hs) (mono_lcN hi.mono (hg z (fun _ => none) 0 [] []).mono (ht z (fun _ => none) 0 [] []).mono (he z (fun _ => none) 0 [] []).mono)
    (lc_go hi (hg z (fun _ => none) 0 [] []).mono (ht z (fun _ => none) 0 [] []).mono (he z (fun _ => none) 0 [] []).mono)
/-- y = [..], y data from then on -/
def setLR (i : Nat) (φ : RN) : RB := fun δ E P => φ δ E fun o δ1 => match o with
  | .lst ds => setK (δ1.get i) i (.sh (.list ds)) δ1 (P .nx)
theorem dp_setLcT {y : Str} {py : Pos} {elt tg iter : Expr} {ifs : List Expr} {scope : Scope} {own : List (Str × Nat)} {spos : Pos} {ι : RI} {γ : RG} {κ : RE} {i : Nat} (ps : PS X (.Assign [.Name y py] (.ListComp elt [⟨tg, iter, ifs, 0⟩] scope pos) spos) (tAsg (tLc (LI X.K Γ W ι) (LG X.K Γ (own.map (·.2)) γ) (LT X.K Γ W0 τ) (LE X.K Γ W0 κ) (own.map (·.2))) (gName i)))
    (hi : DI X Γ W tg iter ι) (mg : ∀ d δ P P', (∀ δ, P δ → P' δ) → γ d δ P → γ d δ P') (mt : Mono τ) (me : Mono κ) :
    DP X Γ W (.Assign [.Name y py] (.ListComp elt [⟨tg, iter, ifs, 0⟩] scope pos) spos) (setNR i (lcN (own.map (·.2)) ι γ τ κ)) ∧ DP X Γ W (.Assign [.Name y py] (.ListComp elt [⟨tg, iter, ifs, 0⟩] scope pos) spos) (setLR i (lcN (own.map (·.2)) ι γ τ κ)) := by
  have m := mono_lcN (vs := own.map (·.2)) hi.mono mg mt me
  refine ⟨dp_mk ps (fun _ _ _ _ _ he hp q => m _ _ _ _ _ he (fun _ _ z => setK_mono (fun _ => hp _ _) z) q) fun Dn σ H hid δ G R q => ?_, dp_mk ps (fun _ _ _ _ _ he hp q => m _ _ _ _ _ he (fun o _ z => by cases o; exact setK_mono (fun _ => hp _ _) z) q) fun Dn σ H hid δ G R q => ?_⟩
  · refine lc_go hi mg mt me σ H _ hid δ G R (m _ _ _ _ _ (fun _ _ z => z) (fun o δ1 q1 p H1 G1 R1 s1 n1 => ?_) q)
    obtain ⟨n, q2⟩ := setK_go q1
    exact q2 _ H1 G1 (R1.setO' n n1)
  · refine lc_go hi mg mt me σ H _ hid δ G R (m _ _ _ _ _ (fun _ _ z => z) (fun o δ1 q1 p H1 G1 R1 s1 n1 => ?_) q)
    cases o with
    | lst ds =>
      obtain ⟨n, q2⟩ := setK_go q1
      obtain ⟨G2, R2, s2, d2⟩ := R1.newData n1
      exact q2 _ H1 G2 (R2.setD' n d2)
theorem dp_setLc2 {y : Str} {py : Pos} {elt tg iter : Expr} {ifs : List Expr} {scope : Scope} {spos : Pos} (i : Nat) (own : List (Str × Nat)) {ι : RI} {γ : RG} {κ : RE} (hN : X.N.Nodup) (hi : DI X Γ W tg iter ι) (ok : BlkOk X.N X.env.scope scope own)
    (hg : ∀ (s : Shared) (H : Hp) (C : Addr) (cl : List (Str × Addr)) (fp : List Addr), DG (X.blk s H scope (compEnvC scope cl C X.env) fp) Γ tg (own.map (·.2)) γ) (ht : ∀ (s : Shared) (H : Hp) (C : Addr) (cl : List (Str × Addr)) (fp : List Addr), DTs (X.blk s H scope (compEnvC scope cl C X.env) fp) Γ W0 ifs τ)
    (he : ∀ (s : Shared) (H : Hp) (C : Addr) (cl : List (Str × Addr)) (fp : List Addr), DE (X.blk s H scope (compEnvC scope cl C X.env) fp) Γ W0 elt κ) (hy : X.N[i]? = some y := by rfl) (hyl : X.env.scope.names.lookup y = some .local := by rfl)
    (hsw : swapsWith (.ListComp elt [⟨tg, iter, ifs, 0⟩] scope pos) (some (.Name y py)) spos.line X.env = pure true := by exact sw_true rfl rfl rfl (by decide +kernel)) (hc : X.calm = true := by rfl) (hs : ∀ x, foldedSetIterable iter X.env x = pure x := by intro _; rfl) :
    DP X Γ W (.Assign [.Name y py] (.ListComp elt [⟨tg, iter, ifs, 0⟩] scope pos) spos) (setNR i (lcN (own.map (·.2)) ι γ τ κ)) ∧ DP X Γ W (.Assign [.Name y py] (.ListComp elt [⟨tg, iter, ifs, 0⟩] scope pos) spos) (setLR i (lcN (own.map (·.2)) ι γ τ κ)) :=
  have z := X.s_0
  dp_setLcT (ps_setLc (i := i) hc hN hy hyl hsw hi.run ok (fun s H C cl fp => (hg s H C cl fp).run) (fun s H C cl fp => (ht s H C cl fp).run) (fun s H C cl fp => (he s H C cl fp).run) hs) hi (hg z (fun _ => none) 0 [] []).mono (ht z (fun _ => none) 0 [] []).mono (he z (fun _ => none) 0 [] []).mono
/-! ### own lists -/
/-- the list of slot i, as it stands -/
def ownL : Option Sl → Option (List D)
  | some (.ow (.lst ds)) => some ds
  | some (.io (.lst ds)) => some ds
  | some (.sh (.list ds)) => some ds
  | _ => none
def ownO : Option Sl → Option (List D)
  | some (.ow (.lst ds)) => some ds
  | some (.io (.lst ds)) => some ds
  | _ => none
def putO (δ : DS) (i : Nat) (ds : List D) : DS := match δ.get i with
  | some s => List.set δ i (some (s.put (.lst ds)))
  | none => δ
theorem own_at {K : PySem.W.Frag} {hid : Hd} {σ : L2.St} {H : Hp} {δ : DS} {G : Hp} {i : Nat} {ds : List D} (R : Rel K Γ hid σ H δ G) (e : ownO (δ.get i) = some ds) :
    ∃ p vs s, δ.get i = some s ∧ (s = .ow (.lst ds) ∨ s = .io (.lst ds)) ∧ At σ i p ∧ H p = some (.lst vs) ∧ Dts K G vs ds := by
  cases q : δ.get i with
  | none => rw [q] at e; cases e
  | some s =>
    rw [q] at e
    cases s with
    | sh d => cases e
    | ow o => cases o with | lst ds' => cases e; obtain ⟨p, h1, _, _, _, vs, h5, h6⟩ := R.sl i _ q; exact ⟨p, vs, _, rfl, .inl rfl, h1, h5, h6⟩
    | io o => cases o with | lst ds' => cases e; obtain ⟨p, h1, _, _, _, vs, h5, h6⟩ := R.sl i _ q; exact ⟨p, vs, _, rfl, .inr rfl, h1, h5, h6⟩
theorem own_put {K : PySem.W.Frag} {hid : Hd} {σ : L2.St} {H : Hp} {δ : DS} {G : Hp} {i : Nat} {ds ds' : List D} {p : Addr} {vs' : List V} (R : Rel K Γ hid σ H δ G) (e : ownO (δ.get i) = some ds) (at1 : At σ i p) (hd : Dts K G vs' ds') :
    Rel K Γ hid σ (upd H p (.lst vs')) (putO δ i ds') G := by
  obtain ⟨p', vs, s, hs, c, at2, _, _⟩ := own_at R e
  unfold putO
  rw [hs]
  exact R.chg hs at1 ⟨vs', upd_same, hd⟩ c
def appR (i : Nat) (φ : RE) : RB := fun δ E P => optK (ownO (δ.get i)) fun _ => φ δ E fun d δ1 => optK (ownO (δ1.get i)) fun ds => ds.length < sizeLine ∧ P .nx (putO δ1 i (ds ++ [d]))
theorem dp_app (i : Nat) {x : Str} {xp apos cpos : Pos} (pe : ∀ {t : TA}, PA X [a] t → PE X (.Call (.Attribute (.Name x xp) "append" apos) [a] [] cpos) (tBM X.K "list" rAppend (tVar i) t)) (ha : DE X Γ W a φa) (he : starEach (a :: []) X.env = (false, eval a X.env) :: starEach [] X.env := by rfl)
    (hs : swapsWith (.Call (.Attribute (.Name x xp) "append" apos) [a] [] cpos) none pos.line X.env = pure false := by rfl) : DP X Γ W (.Expr (.Call (.Attribute (.Name x xp) "append" apos) [a] [] cpos) pos) (appR i φa) := by
  refine dp_mk (ps_expr (pe (pa_cons ha.run pa_nil he)) hs) (fun _ _ _ _ _ he hp q => optK_mono (fun _ q => ha.mono _ _ _ _ _ he (fun _ _ z => optK_mono (fun _ z => ⟨z.1, hp _ _ z.2⟩) z) q) q) fun Dn σ H hid δ G R q => ?_
  obtain ⟨ds0, e0, q⟩ := optK_get q
  obtain ⟨p, vs, s, hs1, c, at1, hp, hd⟩ := own_at R e0
  refine ⟨.ref p, at1, .inl ⟨rfl, _, .inl (.inl hp)⟩, ha.go R q fun d δ1 v H1 G1 q1 R1 s1 d1 => ?_⟩
  obtain ⟨ds, e1, l1, q1⟩ := optK_get q1
  obtain ⟨p', vs', s', hs', c', at', hp', hd'⟩ := own_at R1 e1
  cases at1.inj at'
  exact ⟨_, _, v, rfl, rfl, hp', by rw [dpa_length hd']; exact l1, q1 σ _ G1 (own_put R1 e1 at1 (dpa_append hd' (.cons d1 .nil)))⟩
/-- x[j] = e -/
def setIxR (i : Nat) (φe φj : RE) : RB := fun δ E P => φe δ E fun d δ1 => optK (ownO (δ1.get i)) fun _ => φj δ1 E fun x δ2 => match x with
  | .int k => optK (ownO (δ2.get i)) fun ds => optK (ixN ds.length k) fun m => P .nx (putO δ2 i (ds.set m d))
  | _ => False
theorem dp_setIx (i : Nat) {x : Str} {xp spos : Pos} (hx : PE X (.Name x xp) (tVar i)) (ha : DE X Γ W a φa) (hb : DE X Γ W b φb) (pg : ∀ {to ti : TE}, PE X (.Name x xp) to → PE X b ti → PG X (.Subscript (.Name x xp) b spos) (gSub to ti rSetL))
    (ps : ∀ {te : TE} {g : TG}, PE X a te → PG X (.Subscript (.Name x xp) b spos) g → PS X (.Assign [.Subscript (.Name x xp) b spos] a pos) (tAsg te g)) : DP X Γ W (.Assign [.Subscript (.Name x xp) b spos] a pos) (setIxR i φa φb) := by
  refine dp_mk (ps ha.run (pg hx hb.run)) ?_ fun Dn σ H hid δ G R q => ha.go R q fun d δ1 v H1 G1 q1 R1 s1 d1 => ?_
  · intro δ E E' P P' he hp q
    refine ha.mono _ _ _ _ _ he (fun d δ1 q1 => optK_mono (fun _ q1 => hb.mono _ _ _ _ _ he (fun y δ2 q2 => ?_) q1) q1) q
    cases y <;> first | exact optK_mono (fun _ z => optK_mono (fun _ z => hp _ _ z) z) q2 | exact q2
  · -- the object first, then the place
    obtain ⟨ds9, e9, q1⟩ := optK_get q1
    have key : ∀ {Q : VK}, (∀ w H2 G2 δ2 y, Rel X.K Γ hid σ H2 δ2 G2 → Same G1 G2 → Dt X.K G2 w y → (match y with | .int k => optK (ownO (δ2.get i)) fun ds => optK (ixN ds.length k) fun m => KF X.K Γ hid Dn .nx (putO δ2 i (ds.set m d)) | _ => False) → Q w H2) → LE X.K Γ W φb σ H1 Q := fun {Q} k =>
      hb.go R1 q1 fun y δ2 w H2 G2 q2 R2 s2 d2 => k w H2 G2 δ2 y R2 s2 d2 q2
    obtain ⟨p, vs0, s0, hs0, c0, at1, hp0, hd0⟩ := own_at R1 e9
    refine ⟨.ref p, at1, key fun w H2 G2 δ2 y R2 s2 d2 q2 => ?_⟩
    cases d2 with
    | int k =>
      obtain ⟨ds, e1, q3⟩ := optK_get q2
      obtain ⟨m, e2, q3⟩ := optK_get q3
      obtain ⟨p', vs', s', hs', c', at', hp', hd'⟩ := own_at R2 e1
      cases at1.inj at'
      exact ⟨p, vs', k, m, rfl, rfl, hp', by rw [dpa_length hd']; exact e2, q3 σ _ G2 (own_put R2 e1 at1 (dpa_set (dp_mono s2 d1) m hd'))⟩
    | _ => exact q2.elim
end
end DL

/-! Reading own lists; what a def's body shows. -/
namespace DL
open PySem PySem.Spec PyProof.Rows L2
section
variable {X : Cx} {Γ : Ga} {W : WX} {a b c : Expr} {φa φb φc : RE} {pos p : Pos} {es : List Expr} {ρ : RA}
theorem own_rd {K : PySem.W.Frag} {hid : Hd} {σ : L2.St} {H : Hp} {δ : DS} {G : Hp} {i : Nat} {ds : List D} (R : Rel K Γ hid σ H δ G) (e : ownL (δ.get i) = some ds) :
    ∃ p vs, At σ i p ∧ Rd H p (.lst vs) ∧ Dts K G vs ds := by
  cases q : δ.get i with
  | none => rw [q] at e; cases e
  | some s =>
    rw [q] at e
    cases s with
    | sh d =>
      cases d with
      | list ds' =>
        cases e
        obtain ⟨v, h1, h2⟩ := R.sl i _ q
        cases h2 with
        | lst h ha => exact ⟨_, _, h1, Same.rd R.sub h, ha⟩
      | _ => cases e
    | ow o => cases o with | lst ds' => cases e; obtain ⟨p, h1, _, _, _, vs, h5, h6⟩ := R.sl i _ q; exact ⟨p, vs, h1, .inl h5, h6⟩
    | io o => cases o with | lst ds' => cases e; obtain ⟨p, h1, _, _, _, vs, h5, h6⟩ := R.sl i _ q; exact ⟨p, vs, h1, .inl h5, h6⟩
def peekLenR (i : Nat) : RE := fun δ _ P => optK (ownL (δ.get i)) fun ds => P (.int ds.length) δ
theorem de_lenO (i : Nat) {x : Str} {xp : Pos} (hm : X.mg "len" = none) (hx : PE X (.Name x xp) (tVar i)) (hg : Gl X "len" := by rfl) (he : starEach (.Name x xp :: []) X.env = (false, eval (.Name x xp) X.env) :: starEach [] X.env := by rfl) (hpl : (backTo pos (starEach [] X.env)).any (·.1) = false := by rfl) :
    DE X Γ W (.Call (.Name "len" p) [.Name x xp] [] pos) (peekLenR i) :=
  de_mk (pe_callB call_len hg hm PySem.boot_len (pa_cons hx pa_nil he) (by decide) (by decide) he hpl) (fun _ _ _ _ _ he hp q => optK_mono (fun _ => hp _ _) q) fun σ H Q hid δ G R q => by
    obtain ⟨ds, e, q⟩ := optK_get q
    obtain ⟨p, vs, at1, h1, h2⟩ := own_rd R e
    exact ⟨.ref p, at1, .ref p, _, rfl, .inl ⟨_, sql_of_rd h1, rfl⟩, by rw [dpa_length h2]; exact q _ H G R (Same.refl _) (.int _)⟩
def peekIxR (i : Nat) (φ : RE) : RE := fun δ E P => optK (ownL (δ.get i)) fun _ => φ δ E fun x δ1 => match x with
  | .int k => optK (ownL (δ1.get i)) fun ds => optK (atI ds k) fun d => P d δ1
  | _ => False
theorem de_ixO (i : Nat) {x : Str} {xp : Pos} (hx : PE X (.Name x xp) (tVar i)) (hb : DE X Γ W b φb) (hs : PlainIx b := by exact fun _ _ => rfl) : DE X Γ W (.Subscript (.Name x xp) b pos) (peekIxR i φb) := by
  refine de_mk (pe_ix ix_list hx hb.run hs) ?_ fun σ H Q hid δ G R q => ?_
  · intro δ E E' P P' he hp q
    refine optK_mono (fun _ q => hb.mono _ _ _ _ _ he (fun x δ1 q1 => ?_) q) q
    cases x <;> first | exact optK_mono (fun _ z => optK_mono (fun _ z => hp _ _ z) z) q1 | exact q1
  · obtain ⟨ds0, e0, q⟩ := optK_get q
    obtain ⟨p, vs, at1, _, _⟩ := own_rd R e0
    refine ⟨.ref p, at1, hb.go R q fun y δ1 w H1 G1 q1 R1 s1 d1 => ?_⟩
    cases d1 with
    | int k =>
      obtain ⟨ds, e1, q2⟩ := optK_get q1
      obtain ⟨d, e2, q2⟩ := optK_get q2
      obtain ⟨p', vs', at', h1, h2⟩ := own_rd R1 e1
      cases at1.inj at'
      obtain ⟨v, ev, dv⟩ := atI_D h2 e2
      exact ⟨p, vs', k, v, rfl, rfl, sql_of_rd h1, ev, q2 v H1 G1 R1 s1 dv⟩
    | _ => exact q1.elim
/-- the own list of slot i leaves: return x -/
def moveN (i : Nat) : RN := fun δ _ P => match δ.get i with
  | some (.ow o) => P o (List.set δ i none)
  | _ => False
theorem dn_move (i : Nat) {x : Str} (hx : PE X (.Name x pos) (tVar i)) : DN X Γ W (.Name x pos) (moveN i) := by
  refine dn_mk hx ?_ fun σ H Q hid δ G R q => ?_
  · intro δ E E' P P' he hp q
    unfold moveN at q ⊢
    cases e : δ.get i with
    | none => rw [e] at q; exact q
    | some s => rw [e] at q; cases s <;> first | exact hp _ _ q | exact q
  · unfold moveN at q
    cases e : δ.get i with
    | none => rw [e] at q; exact q.elim
    | some s =>
      rw [e] at q
      cases s with
      | ow o =>
        obtain ⟨p, at1, hG, h0, hh, hm⟩ := R.sl i _ e
        have gi : DS.get (List.set δ i none) i = none := by rw [DS.get_set]; split <;> first | rfl | (rename_i h; exact absurd ⟨rfl, DS.get_lt e⟩ h)
        have R' : Rel X.K Γ hid σ H (List.set δ i none) G := R.swap (by rw [List.length_set]; exact R.len) [i] (fun j hj => ⟨rfl, by rw [DS.get_set, if_neg (fun z => hj (by rw [z.1]; exact List.mem_singleton_self _))]⟩)
          (fun j hj s e => by rw [List.mem_singleton.mp hj, gi] at e; cases e) (fun j hj o2 e2 => by rw [List.mem_singleton.mp hj, e] at e2; cases e2)
        refine ⟨.ref p, at1, q p H G R' (Same.refl _) ⟨hG, h0, hh, fun j hj a => ?_, hm⟩⟩
        by_cases c : i = j
        · subst c
          obtain ⟨o2, h⟩ := hj
          rw [gi] at h
          rcases h with h | h <;> cases h
        · have oj : Own δ j := by
            obtain ⟨o2, h⟩ := hj
            rw [DS.get_set, if_neg (fun z => c z.1)] at h
            exact ⟨o2, h⟩
          exact c (R.dist i j p ⟨o, .inl e⟩ oj at1 a)
      | _ => exact q.elim
end
/-! ### defs -/
def startD (N : List Str) (ds : List D) : DS := ds.map (fun d => some (.sh d)) ++ List.replicate (N.length - ds.length) none
def retK (P : D → Prop) : Fw → DS → Prop := fun fl _ => match fl with
  | .nx => P .none
  | .rt d => P d
  | .rtO (.lst ds) => P (.list ds)
  | _ => False
theorem get_map_sh : ∀ (ds : List D) (r : DS) (i : Nat) (s : Sl), (∀ j, r.get j = none) → DS.get (ds.map (fun d => some (.sh d)) ++ r) i = some s → ∃ d, ds[i]? = some d ∧ s = .sh d
  | [], r, i, s, hr, h => by rw [List.map_nil, List.nil_append, hr] at h; cases h
  | d :: ds, r, 0, s, hr, h => by cases h; exact ⟨d, rfl, rfl⟩
  | d :: ds, r, i + 1, s, hr, h => get_map_sh ds r i s hr h
theorem get_rep : ∀ (n j : Nat), DS.get (List.replicate n none) j = none
  | 0, j => rfl
  | n + 1, 0 => rfl
  | n + 1, j + 1 => get_rep n j
theorem rel_start {K : PySem.W.Frag} {G H : Hp} {N : List Str} {vs : List V} {ds : List D} (s : Same G H) (hd : Dts K G vs ds) : Rel K ⟨H, G, []⟩ ⟨[], G⟩ (L2.start N vs) H (startD N ds) G := by
  have own : ∀ i, ¬ Own (startD N ds) i := fun i ⟨o, h⟩ => by
    rcases h with h | h
    · obtain ⟨d, _, e⟩ := get_map_sh _ _ _ _ (get_rep _) h
      cases e
    · obtain ⟨d, _, e⟩ := get_map_sh _ _ _ _ (get_rep _) h
      cases e
  refine ⟨s, Same.refl _, fun _ _ => rfl, fun a o h _ => h, fun q hq => (by cases hq), ?_, fun i s e => ?_, fun i j p hi => absurd hi (own i), fun q hq => (by cases hq), Same.refl _⟩
  · unfold startD L2.start
    rw [List.length_append, List.length_append, List.length_map, List.length_map, List.length_replicate, List.length_replicate, dpa_length hd]
  · obtain ⟨d, e1, rfl⟩ := get_map_sh _ _ _ _ (get_rep _) e
    obtain ⟨v, e2, dv⟩ := dpa_get hd e1
    refine ⟨v, ?_, dv⟩
    unfold L2.start
    have hl : i < vs.length := (List.getElem?_eq_some_iff.mp e2).1
    rw [List.getElem?_append_left (by rw [List.length_map]; exact hl), List.getElem?_map, e2]
    rfl
theorem Rel.grown {K : PySem.W.Frag} {H0 G0 : Hp} {hid : Hd} {σ : L2.St} {H : Hp} {δ : DS} {G : Hp} (R : Rel K ⟨H0, G0, []⟩ hid σ H δ G) : Grow [] H0 G0 H G :=
  ⟨fun a o _ h => R.fr a o h (fun q hq => (by cases hq)), fun a h => R.here h, R.ext, R.sub, R.old⟩
section
variable {P : Program} {w : World} {K : PySem.W.Frag} {mg : Str → Option Value} {base : Heap}
theorem read_D {ψ : RB} {N : List Str} {S : SP} {W : WX} (mS : MonoS S) (m : Mono ψ) {vs : List V} {H : Hp} {Q : VK} {E : XK} (h : spD K S vs H Q E) (hW : ∀ cls d σ H, E cls d H → W cls d σ H) (hψ : ∀ ds E P, S ds E P → ψ (startD N ds) (fun x _ => E x) (retK P)) :
    ∃ Γ : Ga, LS K Γ W ψ { nx := fun _ H' => Q .non H', rt := Q } (L2.start N vs) H := by
  obtain ⟨G, ds, s, hd, q⟩ := h
  refine ⟨⟨H, G, []⟩, ⟨[], G⟩, startD N ds, G, rel_start s hd, m _ _ _ _ _ (fun x δ h1 cls d σ H1 G1 R1 ex => ?_) (fun fl δ h1 => ?_) (hψ ds _ _ q)⟩
  · exact hW _ _ _ _ (h1 cls d H1 G1 R1.grown ex)
  · cases fl with
    | nx => exact fun σ H1 G1 R1 => h1 _ H1 G1 R1.grown .non
    | bk => exact h1.elim
    | ct => exact h1.elim
    | rt d => exact fun v σ H1 G1 R1 dv => h1 v H1 G1 R1.grown dv
    | rtO o => cases o with
      | lst ds =>
        exact fun p σ H1 G1 R1 n => by
          obtain ⟨G2, R2, s2, d2⟩ := R1.newData n
          exact h1 _ H1 G2 R2.grown d2
/-- THE RULE for a def of plain data -/
theorem fnD {x qual : Str} {st : Stmt} {f : Addr} {fd : FuncData} {N ps : List Str} {k : Nat} {S : SP} (F : Fun K x qual st f fd) (sc : FnScope N ps (defScope st)) (mS : MonoS S) (len : ∀ ds E P, S ds E P → ds.length = ps.length)
    (hbody : ∀ (cdv : Value) (A : Around) (outer : List Env) (s : Shared) (H : Hp) (E : XK), Room k (A.deeper (envOfC qual (defScope st) s.heap.objs.size f cdv)) → ∀ Γ : Ga,
      ∃ ψ, DB (cxOf CX0 P w K mg base N qual (defScope st) f cdv A outer s H E).nox Γ W0 (defBody st) ψ ∧ ∀ ds E P, S ds E P → ψ (startD N ds) E0K (retK P)) : FnOk P w K mg base CX0 (k + 1) f fd ps (spD K S) := by
  refine F.ok sc (fun vs H Q E h => ?_) (fun cdv A outer s H vs Q E hr h => ?_)
  · obtain ⟨G, ds, _, hd, q⟩ := h
    rw [dpa_length hd]
    exact len _ _ _ q
  · obtain ⟨G, ds, sG, hd, q⟩ := h
    obtain ⟨ψ, dr, hψ⟩ := hbody cdv A outer s H E hr ⟨H, G, []⟩
    refine ⟨_, dr.run, ⟨[], G⟩, startD N ds, G, rel_start sG hd, dr.mono _ _ _ _ _ E0_up (fun fl δ h1 => ?_) (hψ ds _ _ q)⟩
    cases fl with
    | nx => exact fun σ H1 G1 R1 => h1 _ H1 G1 R1.grown .non
    | bk => exact h1.elim
    | ct => exact h1.elim
    | rt d => exact fun v σ H1 G1 R1 dv => h1 v H1 G1 R1.grown dv
    | rtO o => cases o with
      | lst ds =>
        exact fun p σ H1 G1 R1 n => by
          obtain ⟨G2, R2, s2, d2⟩ := R1.newData n
          exact h1 _ H1 G2 R2.grown d2
/-- .. that may raise -/
theorem fnX {x qual : Str} {st : Stmt} {f : Addr} {fd : FuncData} {N ps : List Str} {k : Nat} {S : SP} (F : Fun K x qual st f fd) (sc : FnScope N ps (defScope st)) (mS : MonoS S) (len : ∀ ds E P, S ds E P → ds.length = ps.length)
    (hbody : ∀ (cdv : Value) (A : Around) (outer : List Env) (s : Shared) (H : Hp) (E : XK), Room k (A.deeper (envOfC qual (defScope st) s.heap.objs.size f cdv)) → ∀ Γ : Ga,
      ∃ ψ, DB (cxOf (L2.CX P w) P w K mg base N qual (defScope st) f cdv A outer s H E) Γ (fun cls d _ H => E cls d H) (defBody st) ψ ∧ ∀ ds E P, S ds E P → ψ (startD N ds) (fun x _ => E x) (retK P)) : FnOk P w K mg base (L2.CX P w) (k + 1) f fd ps (spD K S) := by
  refine F.okX sc (fun vs H Q E h => ?_) (fun cdv A outer s H vs Q E hr h => ?_)
  · obtain ⟨G, ds, _, hd, q⟩ := h
    rw [dpa_length hd]
    exact len _ _ _ q
  · obtain ⟨G, ds, sG, hd, q⟩ := h
    obtain ⟨ψ, dr, hψ⟩ := hbody cdv A outer s H E hr ⟨H, G, []⟩
    refine ⟨_, dr.run, ⟨[], G⟩, startD N ds, G, rel_start sG hd, dr.mono _ _ _ _ _ (fun x δ h1 cls d σ H1 G1 R1 ex => h1 cls d H1 G1 R1.grown ex) (fun fl δ h1 => ?_) (hψ ds _ _ q)⟩
    cases fl with
    | nx => exact fun σ H1 G1 R1 => h1 _ H1 G1 R1.grown .non
    | bk => exact h1.elim
    | ct => exact h1.elim
    | rt d => exact fun v σ H1 G1 R1 dv => h1 v H1 G1 R1.grown dv
    | rtO o => cases o with
      | lst ds =>
        exact fun p σ H1 G1 R1 n => by
          obtain ⟨G2, R2, s2, d2⟩ := R1.newData n
          exact h1 _ H1 G2 R2.grown d2
end
end DL

/-! The top's facts, the end. -/
namespace DL
open PySem PySem.Spec PyProof.Rows L2
def isListO (o : Obj) : Bool := match o.cls with
  | .type c => decide (c = "list")
  | _ => false
def frL (g : Addr → Option Obj) (as : List Addr) : PySem.W.Frag := (He.frG g as).filter fun q => !isListO q.2
theorem mem_frG {g : Addr → Option Obj} {as : List Addr} {a : Addr} {o : Obj} (h : (a, o) ∈ He.frG g as) : g a = some o := by
  unfold He.frG at h
  obtain ⟨b, _, e⟩ := List.mem_filterMap.mp h
  cases hb : g b with
  | none => rw [hb] at e; cases e
  | some u =>
    rw [hb] at e
    have e2 : (b, u) = (a, o) := Option.some.inj e
    injection e2 with e3 e4
    rw [← e3, ← e4]
    exact hb
theorem mem_of_lookup {a : Addr} {o : Obj} : ∀ {l : List (Addr × Obj)}, l.lookup a = some o → (a, o) ∈ l
  | [], h => by cases h
  | (b, u) :: r, h => by
    have h2 : (match a == b with | true => some u | false => r.lookup a) = some o := h
    cases q : (a == b) with
    | true =>
      rw [q] at h2
      have e : u = o := Option.some.inj h2
      rw [beq_iff_eq.mp q, e]
      exact List.mem_cons_self
    | false =>
      rw [q] at h2
      exact List.mem_cons_of_mem _ (mem_of_lookup h2)
theorem frL_in {as : List Addr} {h : Heap} : (frL h.get? as).In h := fun _ _ e => mem_frG (List.mem_filter.mp (mem_of_lookup e)).1
def NoList (K : PySem.W.Frag) : Prop := ∀ a o, K.lookup a = some o → o.cls ≠ .type "list"
theorem frL_no {g : Addr → Option Obj} {as : List Addr} : NoList (frL g as) := fun a o e c => by
  have h : (!isListO o) = true := (List.mem_filter.mp (mem_of_lookup e)).2
  unfold isListO at h
  rw [c] at h
  cases h
theorem NoList.rd {K : PySem.W.Frag} {H : Hp} {a : Addr} {xs : List V} (n : NoList K) (h : SqL K H a xs) : Rd H a (.lst xs) := by
  rcases h with h | ⟨o, its, m, e, c, _⟩
  · exact h
  · exact absurd c (n a o e)
abbrev AlM : Type := He.AlD × Bool
def obsM (fa : List He.Fa) (fn : List He.DefD) (ex : PySem.W.Frag → Bool) (K : PySem.W.Frag) : AlM := (He.obsD fa fn K, ex K)
def obsMG (n : Nat) (fa : List He.Fa) (fn : List He.DefD) (ex : PySem.W.Frag → Bool) (g : Addr → Option Obj) : AlM := obsM fa fn ex (frL g (He.asD g n))
structure SaysM (fa : List He.Fa) (fn : List He.DefD) (ex : PySem.W.Frag → Bool) (K : PySem.W.Frag) : Prop where
  d : He.SaysD fa fn K
  x : ex K = true
  no : NoList K
def hookM (n : Nat) (fa : List He.Fa) (fn : List He.DefD) (ex : PySem.W.Frag → Bool) : PySem.W.Hook where
  α := AlM
  obs := fun s => obsMG n fa fn ex s.heap.get?
  val := fun _ => (He.valD fn, true)
  says := fun _ h => ∃ K : PySem.W.Frag, K.In h ∧ SaysM fa fn ex K
  of := fun _ _ e => ⟨_, frL_in, congrArg (fun z : AlM => z.1) e, congrArg (fun z : AlM => z.2) e, frL_no⟩
  keeps := fun _ _ _ ⟨K, hK, c⟩ k => ⟨K, PySem.W.Frag.In.keeps hK k, c⟩
theorem obsMG_eq {n : Nat} {fa : List He.Fa} {fn : List He.DefD} {ex : PySem.W.Frag → Bool} {g : Addr → Option Obj} {s : Shared} (h : ∀ a, g a = s.heap.get? a) : obsMG n fa fn ex g = (hookM n fa fn ex).obs s := by
  have e : g = s.heap.get? := funext h
  rw [e] <;> rfl
/-- a def as the hand layer's Fun -/
theorem fun_ofD {K : PySem.W.Frag} {x qual : Str} {st : Stmt} {kws : List (Str × V)} {f : Addr} {fd : FuncData} (F : FunD K x qual (defArgs st) (defBody st) (defScope st) [] kws f fd) : Fun K x qual st f fd := by
  obtain ⟨oc, od, dV, kV, doc, pm, an, cdv, ct, osl, rfl, lk, hcd, hD, hK⟩ := F.ex
  rcases hD with ⟨_, rfl⟩ | ⟨e, _⟩
  · exact ⟨⟨oc, od, kV, doc, pm, an, cdv, ct, osl, rfl, lk, hcd⟩, F.kp⟩
  · exact absurd rfl e
def lawS (n : Nat) : SP := fun ds _ P => ∃ ns : List Int, ds = [.list (ns.map PyData.int)] ∧ ns.length ≤ n ∧ (∀ z ∈ ns, Builtin.Int.intBits z ≤ 1048576) ∧ P (.bool true)
theorem dts_ints {K : PySem.W.Frag} {H : Hp} : ∀ ns : List Int, Dts K H (ns.map V.int) (ns.map PyData.int)
  | [] => .nil
  | n :: r => .cons (.int n) (dts_ints r)
theorem walk_D {l : PySem.W.OpenLaw} {n k : Nat} {q : Program} {loose : List Str} {XP : (Str → Option Value) → Heap → Prop} {YP : World → Heap → Prop} {d : DefRec} {CX : CXT} {x : Str}
    (hn : l.most = some n) (hn2 : n ≤ sizeLine) (hdf : d.params.defaults = []) (hr : Room k callerA)
    (F : ∀ (w : World) (mg : Str → Option Value) (fa : Addr) (h : Heap), YP w h → h.Ns mainGlobals mg → mg d.name = some (.ref fa) →
      ∃ (K : PySem.W.Frag) (fd : FuncData), K.In h ∧ NoList K ∧ (∀ (s : Shared) (u : Value), BindsTo s fd ⟨[u], []⟩ [(x, u)]) ∧
        ∀ base : Heap, K.In base → base.Ns mainGlobals mg → FnOk l.prog w K mg base CX k fa fd [x] (spD K (lawS n)))
    (hCX : ∀ (H : Hp) (s : Shared) (e : Value) (s' : Shared), CX [] H s (fun _ _ _ => False) e s' → False) :
    PySem.W.WalkO q loose XP YP l.row.toRowW d [] (fun f vs => PySem.call f vs) := by
  refine Att.attach_callB hn hdf fun w s₀ s₁ mg mb fa o pm cd doc a vs ns G Y ho hd hcd hmg hobj hints hlen hbits hg => ?_
  obtain ⟨K, fd, KX, no, hb, hF⟩ := F w mg fa _ Y G.T.g hmg
  exact law_call KX G.T.g G.T.b G.T.builtins G.T.nolimit hg hobj hints (Nat.le_trans hlen hn2) hr hF hb (fun H hO hS => ⟨H, [.list (ns.map PyData.int)], Same.refl _, .cons (.lst (no.rd hS) (dts_ints ns)) .nil, ns, rfl, hlen, hbits, fun v H' G' g dv => by cases dv; rfl⟩) fun H e s' => hCX H s₁ e s'
/-- a def that may be called: where it stands, what it promises -/
structure CalD (P : Program) (w : World) (K : PySem.W.Frag) (mg : Str → Option Value) (base : Heap) (CX : CXT) (k : Nat) (x : Str) (ps : List Str) (S : SP) : Prop where
  ex : ∃ (f : Addr) (fd : FuncData), FnOk P w K mg base CX k f fd ps (spD K S) ∧ mg x = some (.ref f) ∧ PySem.W.keepIn K (.ref f) = true ∧ Binds K fd ps [] ∧ ∃ (oc : Value) (od : Option Addr) (osl : Array (Option Value)), K.lookup f = some ⟨oc, od, .func fd, osl⟩
  mono : MonoS S
theorem _root_.L2.Fun.lk {K : PySem.W.Frag} {x qual : Str} {st : Stmt} {f : Addr} {fd : FuncData} (F : Fun K x qual st f fd) : ∃ (oc : Value) (od : Option Addr) (osl : Array (Option Value)), K.lookup f = some ⟨oc, od, .func fd, osl⟩ := by
  obtain ⟨oc, od, _, _, _, _, _, _, osl, _, lk, _⟩ := F.ex
  exact ⟨oc, od, osl, lk⟩
/-- where a def stands -/
structure DefAt (K : PySem.W.Frag) (mg : Str → Option Value) (x : Str) (st : Stmt) (ps : List Str) : Prop where
  ex : ∃ (f : Addr) (fd : FuncData), Fun K x x st f fd ∧ mg x = some (.ref f) ∧ Binds K fd ps []
section
variable {P : Program} {w : World} {K : PySem.W.Frag} {mg : Str → Option Value} {base : Heap}
theorem calD {x : Str} {st : Stmt} {N ps : List Str} {k : Nat} {S : SP} (A : DefAt K mg x st ps) (sc : FnScope N ps (defScope st)) (mS : MonoS S) (len : ∀ ds E P, S ds E P → ds.length = ps.length)
    (hbody : ∀ (f : Addr) (cdv : Value) (A : Around) (outer : List Env) (s : Shared) (H : Hp) (E : XK), Room k (A.deeper (envOfC x (defScope st) s.heap.objs.size f cdv)) → ∀ Γ : Ga,
      ∃ ψ, DB (cxOf CX0 P w K mg base N x (defScope st) f cdv A outer s H E).nox Γ W0 (defBody st) ψ ∧ ∀ ds E P, S ds E P → ψ (startD N ds) E0K (retK P)) : CalD P w K mg base CX0 (k + 1) x ps S := by
  obtain ⟨f, fd, F, hm, hb⟩ := A.ex
  exact ⟨⟨f, fd, fnD F sc mS len (hbody f), hm, F.kp, hb, F.lk⟩, mS⟩
theorem calX {x : Str} {st : Stmt} {N ps : List Str} {k : Nat} {S : SP} (A : DefAt K mg x st ps) (sc : FnScope N ps (defScope st)) (mS : MonoS S) (len : ∀ ds E P, S ds E P → ds.length = ps.length)
    (hbody : ∀ (f : Addr) (cdv : Value) (A : Around) (outer : List Env) (s : Shared) (H : Hp) (E : XK), Room k (A.deeper (envOfC x (defScope st) s.heap.objs.size f cdv)) → ∀ Γ : Ga,
      ∃ ψ, DB (cxOf (L2.CX P w) P w K mg base N x (defScope st) f cdv A outer s H E) Γ (fun cls d _ H => E cls d H) (defBody st) ψ ∧ ∀ ds E P, S ds E P → ψ (startD N ds) (fun x _ => E x) (retK P)) : CalD P w K mg base (L2.CX P w) (k + 1) x ps S := by
  obtain ⟨f, fd, F, hm, hb⟩ := A.ex
  exact ⟨⟨f, fd, fnX F sc mS len (hbody f), hm, F.kp, hb, F.lk⟩, mS⟩
theorem defAt {x : Str} {st : Stmt} {ps : List Str} {f : Addr} {fd : FuncData} {kws : List (Str × V)} (F : FunD K x x (defArgs st) (defBody st) (defScope st) [] kws f fd) (hm : mg x = some (.ref f))
    (h : ∀ (kV doc pm : Value) (an : Option Addr) (cdv ct : Value) (us : List Value), us.length = ps.length → bindArgs (PySem.W.fnOf x x (defArgs st) (defBody st) (defScope st) .none kV doc pm an cdv ct) ⟨us, []⟩ = pure (ps.zip us)) : DefAt K mg x st ps :=
  ⟨f, fd, fun_ofD F, hm, F.bindsN h⟩
end
section
variable {X : Cx} {Γ : Ga} {W : WX} {a : Expr} {es : List Expr} {ρ : RA} {x : Str} {p pos : Pos} {CX : CXT} {k j : Nat} {ps : List Str} {S : SP}
theorem de_cal (c : CalD X.prog X.w X.K X.mg X.base CX k x ps S) (hr : Room j X.A) (hk : k ≤ j) (hx : ∀ σ, PassesAt CX X σ (WE W σ)) (ha : DA X Γ W (a :: es) ρ) (hg : Gl X x := by rfl) (hdb : (x == ("__debug__" : Str)) = false := by decide)
    (he : starEach (a :: es) X.env = (false, eval a X.env) :: starEach es X.env := by rfl) (hpl : (backTo pos (starEach es X.env)).any (·.1) = false := by rfl) : DE X Γ W (.Call (.Name x p) (a :: es) [] pos) (callR S ρ) := by
  obtain ⟨f, fd, F, hm, hk2, hb, _⟩ := c.ex
  exact de_call F c.mono (hr.mono hk) hm hk2 hb hx ha hg hdb he hpl
end
theorem law_fn {P : Program} {w : World} {K : PySem.W.Frag} {mg : Str → Option Value} {base : Heap} {CX : CXT} {k : Nat} {x : Str} {st : Stmt} {ps : List Str} {S : SP} {kws : List (Str × V)} {f : Addr} {fd : FuncData} (F : FunD K x x (defArgs st) (defBody st) (defScope st) [] kws f fd)
    (c : CalD P w K mg base CX k x ps S) (hm : mg x = some (.ref f)) : FnOk P w K mg base CX k f fd ps (spD K S) := by
  obtain ⟨f', fd', F', hm', _, _, oc, od, osl, lk⟩ := c.ex
  have e := hm.symm.trans hm'
  cases e
  obtain ⟨oc2, od2, osl2, lk2⟩ := (fun_ofD F).lk
  rw [lk] at lk2
  cases lk2
  exact F'
/-! ### constants of the top -/
section
variable {K : PySem.W.Frag} {h : Heap} {mg : Str → Option Value}
theorem gloI (X : K.In h) (G : h.Ns mainGlobals mg) {x : Str} {i : Int} (c : (He.Fa.int x i).ok K = true) : ∃ u v, mg x = some u ∧ RelV v u ∧ ∀ G, Dt K G v (.int i) := by
  obtain ⟨t, e⟩ := He.int_ok X G c
  exact ⟨_, .int i, e, ⟨t, rfl⟩, fun _ => .int i⟩
theorem gloS (X : K.In h) (G : h.Ns mainGlobals mg) {x z : Str} (c : (He.Fa.str x z).ok K = true) : ∃ u v, mg x = some u ∧ RelV v u ∧ ∀ G, Dt K G v (.str z) := by
  obtain ⟨t, e⟩ := He.str_ok X G c
  exact ⟨_, .str z, e, ⟨t, rfl⟩, fun _ => .str z⟩
/-- flat things as values -/
def flV : D → Option V
  | .none => some .non
  | .bool b => some (.bl b)
  | .int i => some (.int i)
  | .str x => some (.str x)
  | _ => none
def flVs : List D → Option (List V)
  | [] => some []
  | d :: r => match flV d, flVs r with
    | some v, some vs => some (v :: vs)
    | _, _ => none
/-- the module's name x is a tuple of flat things -/
def tupC (K : PySem.W.Frag) (x : Str) (d : D) : Bool := match d with
  | .tuple ds => (match flVs ds with
    | some vs => (match K.lookup (He.ga K x) with
      | some ⟨.type c, _, .seq its _, _⟩ => decide (c = "tuple") && (decide (its.size ≤ sizeLine) && He.relAll vs its.toList)
      | _ => false)
    | none => false)
  | _ => false
theorem flV_dt {G : Hp} {d : D} {v : V} (h : flV d = some v) : Dt K G v d := by
  cases d <;> first | (cases h; done) | (cases h; first | exact .non | exact .bl _ | exact .int _ | exact .str _)
theorem flVs_dt {G : Hp} : ∀ {ds : List D} {vs : List V}, flVs ds = some vs → Dts K G vs ds
  | [], _, h => by cases h; exact .nil
  | d :: r, vs, h => by
    unfold flVs at h
    cases e1 : flV d with
    | none => rw [e1] at h; cases h
    | some v =>
      cases e2 : flVs r with
      | none => rw [e1, e2] at h; cases h
      | some ws =>
        rw [e1, e2] at h
        cases h
        exact .cons (flV_dt e1) (flVs_dt e2)
theorem gloT (X : K.In h) (G : h.Ns mainGlobals mg) {x : Str} {d : D} (c : (He.Fa.glo x).ok K = true) (t : tupC K x d = true) : ∃ u v, mg x = some u ∧ RelV v u ∧ ∀ G, Dt K G v d := by
  refine ⟨_, .ref (He.ga K x), He.glo_ok X G c, rfl, fun G => ?_⟩
  cases d with
  | tuple ds =>
    have t2 : (match flVs ds with
      | some vs => (match K.lookup (He.ga K x) with
        | some ⟨.type c, _, .seq its _, _⟩ => decide (c = "tuple") && (decide (its.size ≤ sizeLine) && He.relAll vs its.toList)
        | _ => false)
      | none => false) = true := t
    cases e : flVs ds with
    | none => rw [e] at t2; cases t2
    | some vs =>
      rw [e] at t2
      cases q : K.lookup (He.ga K x) with
      | none => rw [q] at t2; cases t2
      | some o =>
        obtain ⟨oc, od, dt, osl⟩ := o
        rw [q] at t2
        cases oc with
        | type c =>
          cases dt with
          | seq its n =>
            obtain ⟨h1, h2⟩ := Bool.and_eq_true_iff.mp (show (decide (c = "tuple") && (decide (its.size ≤ sizeLine) && He.relAll vs its.toList)) = true from t2)
            obtain ⟨h3, h4⟩ := Bool.and_eq_true_iff.mp h2
            exact .tup (.inr ⟨_, its, n, q, congrArg Value.type (of_decide_eq_true h1), rfl, of_decide_eq_true h3, He.relAll_ok h4⟩) (flVs_dt e)
          | _ => cases t2
        | _ => cases dt <;> cases t2
  | _ => cases t
end
end DL

/-! Tests by comparisons, constants of the top, stores of several names, texts. -/
namespace DL
open PySem PySem.Spec PyProof.Rows L2
theorem hu64 {k : Nat} {A : Around} (hr : Room k A) : A.units + 64 < cLine := hr.units
theorem hu65 {k : Nat} {A : Around} (hr : Room k A) : A.units + 65 < cLine := by have := hr.un; omega
/-- a constant of the top -/
def GloD (K : PySem.W.Frag) (mg : Str → Option Value) (x : Str) (d : D) : Prop := ∃ u v, mg x = some u ∧ RelV v u ∧ ∀ G, Dt K G v d
section
variable {X : Cx} {Γ : Ga} {W : WX} {a b c : Expr} {φa φb φc : RE} {pos p : Pos} {es : List Expr} {ρ : RA} {st : Stmt} {sts : List Stmt} {ψ ψ1 ψ2 : RB} {τ : RT}
theorem de_con {x : Str} {d : D} (h : GloD X.K X.mg x d) (hg : Gl X x := by rfl) (hdb : (x == ("__debug__" : Str)) = false := by decide) : DE X Γ W (.Name x pos) (cR d) := by
  obtain ⟨u, v, hm, r, hd⟩ := h
  exact de_glob hm r hd hg hdb
theorem dt_eq (hu : X.A.units + 64 < cLine) (ha : DE X Γ W a φa) (hb : DE X Γ W b φb) : DT X Γ W (.Compare a [.Eq] [b] pos) (valT (opR eqD φa φb)) := dt_cmp (op_eqA hu) eqD_s ha hb (nomark _)
theorem dt_ne (hu : X.A.units + 64 < cLine) (ha : DE X Γ W a φa) (hb : DE X Γ W b φb) : DT X Γ W (.Compare a [.NotEq] [b] pos) (valT (opR neD φa φb)) := dt_cmp (op_neA hu) neD_s ha hb (nomark _)
theorem dt_lt (ha : DE X Γ W a φa) (hb : DE X Γ W b φb) : DT X Γ W (.Compare a [.Lt] [b] pos) (valT (opR ltD φa φb)) := dt_cmp op_ltO ordD_s ha hb (nomark _)
theorem dt_le (ha : DE X Γ W a φa) (hb : DE X Γ W b φb) : DT X Γ W (.Compare a [.LtE] [b] pos) (valT (opR leD φa φb)) := dt_cmp op_leO ordD_s ha hb (nomark _)
theorem dt_gt (ha : DE X Γ W a φa) (hb : DE X Γ W b φb) : DT X Γ W (.Compare a [.Gt] [b] pos) (valT (opR gtD φa φb)) := dt_cmp op_gtO ordD_s ha hb (nomark _)
theorem dt_ge (ha : DE X Γ W a φa) (hb : DE X Γ W b φb) : DT X Γ W (.Compare a [.GtE] [b] pos) (valT (opR geD φa φb)) := dt_cmp op_geO ordD_s ha hb (nomark _)
theorem dt_in (hu : X.A.units + 65 < cLine) (ha : DE X Γ W a φa) (hb : DE X Γ W b φb) (hm : behindInMarks .In b = false := by rfl) : DT X Γ W (.Compare a [.In] [b] pos) (valT (opR (inDD false) φa φb)) := dt_cmp (op_inA hu) inDD_s ha hb hm
theorem dt_notIn (hu : X.A.units + 65 < cLine) (ha : DE X Γ W a φa) (hb : DE X Γ W b φb) (hm : behindInMarks .NotIn b = false := by rfl) : DT X Γ W (.Compare a [.NotIn] [b] pos) (valT (opR (inDD true) φa φb)) := dt_cmp (op_notInA hu) inDD_s ha hb hm
theorem dt_isB (ha : DE X Γ W a φa) (hb : DE X Γ W b φb) : DT X Γ W (.Compare a [.Is] [b] pos) (valT (opR isBD φa φb)) := dt_cmp op_isBl isBD_s ha hb (nomark _)
theorem dt_isN {j p} (ha : DE X Γ W a φa) : DT X Γ W (.Compare a [.Is] [.Constant .none j p] pos) (valT (isNR φa)) :=
  dt_mk (pt_cmp (pc_isN ha.run) rfl) (mono_valT (mono_1 (f := fun x => .bool (isNone x)) ha.mono)) fun σ H Q hid δ G R q => ha.go R q fun d δ1 v H1 G1 q1 R1 s1 d1 => ⟨_, rfl, by rw [dt_none d1]; exact q1 H1 G1 R1 s1⟩
theorem dt_notN {j p} (ha : DE X Γ W a φa) : DT X Γ W (.Compare a [.IsNot] [.Constant .none j p] pos) (valT (notNR φa)) :=
  dt_mk (pt_cmp (pc_notN ha.run) rfl) (mono_valT (mono_1 (f := fun x => .bool (!isNone x)) ha.mono)) fun σ H Q hid δ G R q => ha.go R q fun d δ1 v H1 G1 q1 R1 s1 d1 => ⟨_, rfl, by rw [dt_none d1]; exact q1 H1 G1 R1 s1⟩
theorem dt_chain {op op' : CmpOp} {f g : Int → Int → Bool} {f' g' : List Nat → List Nat → Bool} (o : OpR X (compareOp op) (rOrd f f')) (o' : OpR X (compareOp op') (rOrd g g')) (ha : DE X Γ W a φa) (hb : DE X Γ W b φb) (hc : DE X Γ W c φc)
    (pt : ∀ {r r' : R2} {ta tb tc : TE}, OpR X (compareOp op) r → OpR X (compareOp op') r' → PE X a ta → PE X b tb → PE X c tc → PT X (.Compare a [op, op'] [b, c] pos) (tTest (tChain r r' ta tb tc))) (de : DE X Γ W (.Compare a [op, op'] [b, c] pos) (chainR (ordD f f') (ordD g g') φa φb φc)) :
    DT X Γ W (.Compare a [op, op'] [b, c] pos) (valT (chainR (ordD f f') (ordD g g') φa φb φc)) := by
  refine dt_mk (pt o o' ha.run hb.run hc.run) (mono_valT de.mono) fun σ H Q hid δ G R q => ?_
  refine ha.go R q fun dx δ1 v H1 G1 q1 R1 s1 d1 => hb.go R1 q1 fun dy δ2 u H2 G2 q2 R2 s2 d2 => ?_
  refine (ordD_s (K := X.K)).ok v u dx dy H2 G2 _ _ R2.sub (dp_mono s2 d1) d2 q2 fun t w H3 G3 p gw dd => ?_
  cases dd with
  | bl t =>
    refine ⟨t, rfl, ?_⟩
    have R3 := R2.grow gw
    cases t with
    | true =>
      refine iteT (hc.go (P := fun dz δ3 => ordD g g' dy dz fun d => boolK d fun t => KB X.K Γ hid σ G Q t δ3) R3 p fun dz δ3 z H4 G4 q4 R4 s4 d4 => (ordD_s (K := X.K)).ok u z dy dz H4 G4 _ _ R4.sub (dp_mono (gw.data.trans s4) d2) d4 q4 fun d w2 H5 G5 p5 g5 dd5 => ?_)
      obtain ⟨t, rfl, p6⟩ := dt_bool dd5 p5
      exact ⟨t, rfl, p6 H5 G5 (R4.grow g5) ((((s1.trans s2).trans gw.data).trans s4).trans g5.data)⟩
    | false => exact iteF ⟨false, rfl, p H3 G3 R3 ((s1.trans s2).trans gw.data)⟩
  | _ => exact p.elim
theorem dt_lele (ha : DE X Γ W a φa) (hb : DE X Γ W b φb) (hc : DE X Γ W c φc) (hm : lastMarks [.LtE, .LtE] [b, c] = false := by rfl) : DT X Γ W (.Compare a [.LtE, .LtE] [b, c] pos) (valT (chainR leD leD φa φb φc)) := dt_chain op_leO op_leO ha hb hc (fun o o' ha hb hc => pt_chain o o' ha hb hc hm) (de_lele ha hb hc hm)
theorem dt_lelt (ha : DE X Γ W a φa) (hb : DE X Γ W b φb) (hc : DE X Γ W c φc) (hm : lastMarks [.LtE, .Lt] [b, c] = false := by rfl) : DT X Γ W (.Compare a [.LtE, .Lt] [b, c] pos) (valT (chainR leD ltD φa φb φc)) := dt_chain op_leO op_ltO ha hb hc (fun o o' ha hb hc => pt_chain o o' ha hb hc hm) (de_lelt ha hb hc hm)
theorem dt_ltle (ha : DE X Γ W a φa) (hb : DE X Γ W b φb) (hc : DE X Γ W c φc) (hm : lastMarks [.Lt, .LtE] [b, c] = false := by rfl) : DT X Γ W (.Compare a [.Lt, .LtE] [b, c] pos) (valT (chainR ltD leD φa φb φc)) := dt_chain op_ltO op_leO ha hb hc (fun o o' ha hb hc => pt_chain o o' ha hb hc hm) (de_ltle ha hb hc hm)
theorem dt_ltlt (ha : DE X Γ W a φa) (hb : DE X Γ W b φb) (hc : DE X Γ W c φc) (hm : lastMarks [.Lt, .Lt] [b, c] = false := by rfl) : DT X Γ W (.Compare a [.Lt, .Lt] [b, c] pos) (valT (chainR ltD ltD φa φb φc)) := dt_chain op_ltO op_ltO ha hb hc (fun o o' ha hb hc => pt_chain o o' ha hb hc hm) (de_ltlt ha hb hc hm)
/-- xs[::-1] of a list -/
def revR (φ : RE) : RE := fun δ E P => φ δ E fun x δ1 => match x with
  | .list ds => P (.list ds.reverse) δ1
  | _ => False
theorem de_rev {k : Nat} {p1 p2 p3 : Pos} (ha : DE X Γ W a φa) : DE X Γ W (.Subscript a (.Slice none none (some (.UnaryOp .USub (.Constant (.int 1) k p1) p2)) p3) pos) (revR φa) := by
  refine de_mk (pe_revL ha.run) ?_ fun σ H Q hid δ G R q => ha.go R q fun d δ1 v H1 G1 q1 R1 s1 d1 => ?_
  · intro δ E E' P P' he hp q
    refine ha.mono _ _ _ _ _ he (fun x δ1 q1 => ?_) q
    cases x <;> first | exact hp _ _ q1 | exact q1
  · cases d1 with
    | @lst a1 xs1 ds1 h1 hd =>
      refine ⟨_, _, rfl, sql_of_rd (Same.rd R1.sub h1), fun p np => ?_⟩
      have g := Grow.new (o := .lst xs1.reverse) R1.sub np
      exact q1 _ _ _ (R1.grow g) (s1.trans g.data) (.lst (.inl upd_same) (dpa_rev (dpa_mono g.data hd)))
    | _ => exact q1.elim
/-! ### stores -/
theorem dp_unp {tg : Expr} {vs : List Nat} {γ : RG} (ha : DE X Γ W a φa) (hg : DG X Γ tg vs γ) (hs : swapsWithSole [tg] a pos.line X.env = pure false := by rfl) (hw : swappedStores [tg] a X.env = pure none := by rfl)
    (h1 : (assignEach [tg] X.env).map (·.2) = [assign tg X.env] := by rfl) : DP X Γ W (.Assign [tg] a pos) (unpR γ φa) := dp_asg ha hg hs hw (ps_asg ha.run hg.run hs hw h1)
theorem dgs_c {e : Expr} {vs : List Nat} {γ : RG} {γs : RGs} (h1 : DG X Γ e vs γ) (h2 : DGs X Γ es vs γs) (hs : (assignEach (e :: es) X.env).map (·.2) = assign e X.env :: (assignEach es X.env).map (·.2) := by rfl) : DGs X Γ (e :: es) vs (consG γ γs) :=
  dgs_cons h1 h2 fun a b => pgs_cons a b hs
theorem dg_t {n : Nat} {vs : List Nat} {γs : RGs} {kk : Nat} (h : DGs X Γ es vs γs) (hc : X.calm = true := by rfl) (hn : (assignEach es X.env).length = n := by rfl) (hst : (assignEach es X.env).findIdx? (·.1) = none := by rfl) : DG X Γ (.Tuple es kk pos) vs (tupG n γs) :=
  dg_tup h fun t => pg_tup hc t hn hst
theorem di_r2 {tg : Expr} (hm : X.mg "range" = none) (ha : DE X Γ W a φa) (hb : DE X Γ W b φb) (hg : Gl X "range" := by rfl) (hs : starEach [a, b] X.env = [(false, eval a X.env), (false, eval b X.env)] := by rfl) (hs2 : starEach [b] X.env = [(false, eval b X.env)] := by rfl)
    (hs3 : starEach (a :: [b]) X.env = (false, eval a X.env) :: starEach [b] X.env := by rfl) (hs4 : starEach (b :: []) X.env = (false, eval b X.env) :: starEach [] X.env := by rfl) : DI X Γ W tg (.Call (.Name "range" p) [a, b] [] pos) (range2I φa φb) :=
  di_range2 hm ha hb (fun h => pi_range2 hg hm h hs hs2) hs3 hs4
theorem di_z {elts : List Expr} {kk : Nat} {tpos : Pos} (hm : X.mg "zip" = none) (ha : DE X Γ W a φa) (hb : DE X Γ W b φb) (hg : Gl X "zip" := by rfl) (hs : starEach [a, b] X.env = (false, eval a X.env) :: starEach [b] X.env := by rfl) (hpl : (backTo pos (starEach [b] X.env)).any (·.1) = false := by rfl)
    (hs4 : starEach (b :: []) X.env = (false, eval b X.env) :: starEach [] X.env := by rfl) : DI X Γ W (.Tuple elts kk tpos) (.Call (.Name "zip" p) [a, b] [] pos) (zipI φa φb) :=
  di_zip ha hb (fun h => pi_zip hg hm h hs hpl) hs hs4
def par3R (i j l : Nat) (φ1 φ2 φ3 : RE) : RB := fun δ E P => φ1 δ E fun d δ1 => φ2 δ1 E fun e δ2 => φ3 δ2 E fun f δ3 => setK (δ3.get i) i (.sh d) δ3 fun δ4 => setK (δ4.get j) j (.sh e) δ4 fun δ5 => setK (δ5.get l) l (.sh f) δ5 (P .nx)
theorem dp_par3 (i j l : Nat) {x y z : Str} {px py pz pt : Pos} {kt k2 pt2} (ha : DE X Γ W a φa) (hb : DE X Γ W b φb) (hc : DE X Γ W c φc)
    (ps : ∀ {ta : TA}, PA X [a, b, c] ta → PS X (.Assign [.Tuple [.Name x px, .Name y py, .Name z pz] kt pt] (.Tuple [a, b, c] k2 pt2) pos) (tPar3 i j l ta)) (he1 : starEach (a :: [b, c]) X.env = (false, eval a X.env) :: starEach [b, c] X.env := by rfl) (he2 : starEach (b :: [c]) X.env = (false, eval b X.env) :: starEach [c] X.env := by rfl) (he3 : starEach (c :: []) X.env = (false, eval c X.env) :: starEach [] X.env := by rfl) :
    DP X Γ W (.Assign [.Tuple [.Name x px, .Name y py, .Name z pz] kt pt] (.Tuple [a, b, c] k2 pt2) pos) (par3R i j l φa φb φc) :=
  dp_mk (ps (pa_cons ha.run (pa_cons hb.run (pa_cons hc.run pa_nil he3) he2) he1)) (fun _ _ _ _ _ he hp q => ha.mono _ _ _ _ _ he (fun _ _ z => hb.mono _ _ _ _ _ he (fun _ _ z2 => hc.mono _ _ _ _ _ he (fun _ _ z5 => setK_mono (fun _ z3 => setK_mono (fun _ z4 => setK_mono (fun _ => hp _ _) z4) z3) z5) z2) z) q)
    fun Dn σ H hid δ G R q => ha.go R q fun d δ1 v H1 G1 q1 R1 s1 d1 => hb.go R1 q1 fun e δ2 u H2 G2 q2 R2 s2 d2 => hc.go R2 q2 fun f δ3 w H3 G3 q3 R3 s3 d3 => by
      obtain ⟨n1, q4⟩ := setK_go q3
      obtain ⟨n2, q5⟩ := setK_go q4
      obtain ⟨n3, q6⟩ := setK_go q5
      exact ⟨v, u, w, rfl, q6 _ H3 G3 (((R3.setD' n1 (dp_mono (s2.trans s3) d1)).setD' n2 (dp_mono s3 d2)).setD' n3 d3)⟩
def addIS : OpD := fun x y P => match x, y with
  | .int i, .int j => P (.int (i + j))
  | .str i, .str j => i.length + j.length ≤ sizeLine ∧ P (.str (i ++ j))
  | _, _ => False
def augAddR (i : Nat) (φ : RE) : RB := fun δ E P => match δ.get i with
  | some (.sh x) => φ δ E fun y δ1 => addIS x y fun d => setK (δ1.get i) i (.sh d) δ1 (P .nx)
  | _ => False
theorem dp_augAdd (i : Nat) {x : Str} {pos' : Pos} (hN : X.N.Nodup) (ha : DE X Γ W a φa) (hi : X.N[i]? = some x := by rfl) (hx : Loc X.env.scope x := by first | exact .inl rfl | exact .inr rfl)
    (hf : X.fn x = true ∨ X.env.scope.names.lookup x = some .local := by first | exact .inl rfl | exact .inr rfl) : DP X Γ W (.AugAssign (.Name x pos') .Add a pos) (augAddR i φa) := by
  refine dp_mk (ps_aug (i := i) hN hi hx ha.run (iop_add.or iop_add_str) hf) ?_ fun Dn σ H hid δ G R q => ?_
  · intro δ E E' P P' he hp q
    unfold augAddR at q ⊢
    cases e : δ.get i with
    | none => rw [e] at q; exact q
    | some s =>
      rw [e] at q
      cases s with
      | sh d =>
        refine ha.mono _ _ _ _ _ he (fun y δ1 q1 => ?_) q
        cases d <;> cases y <;> first | exact setK_mono (fun _ => hp _ _) q1 | exact ⟨q1.1, setK_mono (fun _ => hp _ _) q1.2⟩ | exact q1
      | _ => exact q
  · unfold augAddR at q
    cases e : δ.get i with
    | none => rw [e] at q; exact q.elim
    | some s =>
      rw [e] at q
      cases s with
      | sh d =>
        obtain ⟨v, h1, h2⟩ := R.sl i _ e
        refine ⟨v, h1, ha.go R q fun y δ1 u H1 G1 q1 R1 s1 d1 => ?_⟩
        cases h2 with
        | int i' => cases d1 with
          | int j' =>
            obtain ⟨n, q2⟩ := setK_go q1
            exact .inl ⟨i', j', rfl, rfl, q2 _ H1 G1 (R1.setD' n (.int _))⟩
          | _ => exact q1.elim
        | str i' => cases d1 with
          | str j' =>
            obtain ⟨n, q2⟩ := setK_go q1.2
            exact .inr ⟨i', j', rfl, rfl, q1.1, q2 _ H1 G1 (R1.setD' n (.str _))⟩
          | _ => exact q1.elim
        | _ => cases y <;> exact q1.elim
      | _ => exact q.elim
end
end DL

/-! Calls that lend lists; calls that hand back a new list. -/
namespace DL
open PySem PySem.Spec PyProof.Rows L2
/-- arguments; what the value and the lent lists must bear -/
abbrev SPI := List D → (D → List (List D) → Prop) → Prop
def MonoI (S : SPI) : Prop := ∀ ds (P P' : D → List (List D) → Prop), (∀ d l, P d l → P' d l) → S ds P → S ds P'
inductive ArgI (K : PySem.W.Frag) (G H : Hp) : Nat → List (Nat × Addr) → List V → List D → Prop
  | nil {k} : ArgI K G H k [] [] []
  | dat {k par v d vs ds} : Dt K G v d → ArgI K G H (k + 1) par vs ds → ArgI K G H k par (v :: vs) (d :: ds)
  | lent {k par p vc lc vs ds} : G p = none → H p = some (.lst vc) → Dts K G vc lc → ArgI K G H (k + 1) par vs ds → ArgI K G H k ((k, p) :: par) (.ref p :: vs) (.list lc :: ds)
def LOk (K : PySem.W.Frag) (H G : Hp) : List (Nat × Addr) → List (List D) → Prop
  | [], [] => True
  | q :: par, l :: ls => (∃ vc, H q.2 = some (.lst vc) ∧ Dts K G vc l) ∧ LOk K H G par ls
  | _, _ => False
def spI (K : PySem.W.Frag) (js : List Nat) (S : SPI) : Sp := fun vs H Q _ => ∃ G ds par, Same G H ∧ ArgI K G H 0 par vs ds ∧ par.map (·.1) = js ∧ (par.map (·.2)).Nodup ∧
  S ds fun d ls => ∀ v H' G', Grow (par.map (·.2)) H G H' G' → LOk K H' G' par ls → Dt K G' v d → Q v H'
section
variable {K : PySem.W.Frag} {G H : Hp}
theorem ArgI.len {k : Nat} {par : List (Nat × Addr)} {vs : List V} {ds : List D} (h : ArgI K G H k par vs ds) : vs.length = ds.length := by
  induction h with
  | nil => rfl
  | dat _ _ ih => simp [ih]
  | lent _ _ _ _ ih => simp [ih]
theorem ArgI.lo {k : Nat} {par : List (Nat × Addr)} {vs : List V} {ds : List D} (h : ArgI K G H k par vs ds) : ∀ q ∈ par, k ≤ q.1 := by
  induction h with
  | nil => intro q hq; cases hq
  | dat _ _ ih => intro q hq; have := ih q hq; omega
  | lent _ _ _ _ ih =>
    intro q hq
    rcases List.mem_cons.mp hq with rfl | hq
    · exact Nat.le_refl _
    · have := ih q hq; omega
theorem ArgI.at {k : Nat} {par : List (Nat × Addr)} {vs : List V} {ds : List D} (h : ArgI K G H k par vs ds) : ∀ i d, ds[i]? = some d →
    (∃ p vc lc, (k + i, p) ∈ par ∧ vs[i]? = some (.ref p) ∧ G p = none ∧ H p = some (.lst vc) ∧ Dts K G vc lc ∧ d = .list lc) ∨ ((∀ p, (k + i, p) ∉ par) ∧ ∃ v, vs[i]? = some v ∧ Dt K G v d) := by
  induction h with
  | nil => intro i d e; cases e
  | @dat k par v d0 vs ds hd ht ih =>
    intro i d e
    cases i with
    | zero => cases e; exact .inr ⟨fun p hp => by have h2 := ht.lo _ hp; have h3 : k + 1 ≤ k + 0 := h2; omega, v, rfl, hd⟩
    | succ i =>
      have ih := ih i d e
      rw [show k + 1 + i = k + (i + 1) by omega] at ih
      exact ih
  | @lent k par p vc lc vs ds h1 h2 h3 ht ih =>
    intro i d e
    cases i with
    | zero => cases e; exact .inl ⟨p, vc, lc, List.mem_cons_self, rfl, h1, h2, h3, rfl⟩
    | succ i =>
      have ih := ih i d e
      rw [show k + 1 + i = k + (i + 1) by omega] at ih
      rcases ih with ⟨p', vc', lc', a, b⟩ | ⟨a, b⟩
      · exact .inl ⟨p', vc', lc', List.mem_cons_of_mem _ a, b⟩
      · refine .inr ⟨fun p' hp' => ?_, b⟩
        rcases List.mem_cons.mp hp' with z | z
        · injection z with z1 z2; omega
        · exact a p' z
theorem ArgI.mem {k : Nat} {par : List (Nat × Addr)} {vs : List V} {ds : List D} (h : ArgI K G H k par vs ds) : ∀ q ∈ par, vs[q.1 - k]? = some (.ref q.2) ∧ ∃ lc, ds[q.1 - k]? = some (.list lc) := by
  induction h with
  | nil => intro q hq; cases hq
  | @dat k par v d0 vs ds hd ht ih =>
    intro q hq
    have h1 := ht.lo q hq
    have h2 := ih q hq
    rw [show q.1 - k = (q.1 - (k + 1)) + 1 by omega]
    exact h2
  | @lent k par p vc lc vs ds h1 h2 h3 ht ih =>
    intro q hq
    rcases List.mem_cons.mp hq with rfl | hq
    · rw [Nat.sub_self]; exact ⟨rfl, lc, rfl⟩
    · have h1 := ht.lo q hq
      have h2 := ih q hq
      rw [show q.1 - k = (q.1 - (k + 1)) + 1 by omega]
      exact h2
end
def lentSl : D → Option Sl
  | .list l => some (.io (.lst l))
  | _ => none
def slsI (js : List Nat) : Nat → List D → DS
  | _, [] => []
  | k, d :: ds => (bif js.elem k then lentSl d else some (.sh d)) :: slsI js (k + 1) ds
def startI (js : List Nat) (N : List Str) (ds : List D) : DS := slsI js 0 ds ++ List.replicate (N.length - ds.length) none
theorem slsI_len (js : List Nat) : ∀ (k : Nat) (ds : List D), (slsI js k ds).length = ds.length
  | _, [] => rfl
  | k, d :: ds => by unfold slsI; rw [List.length_cons, slsI_len js (k + 1) ds]; rfl
theorem slsI_get (js : List Nat) (r : DS) (hr : ∀ j, r.get j = none) : ∀ (ds : List D) (k i : Nat) (s : Sl), DS.get (slsI js k ds ++ r) i = some s → ∃ d, ds[i]? = some d ∧ (bif js.elem (k + i) then lentSl d else some (.sh d)) = some s
  | [], k, i, s, h => by
    have h2 : r.get i = some s := h
    rw [hr] at h2; cases h2
  | d :: ds, k, 0, s, h => ⟨d, rfl, h⟩
  | d :: ds, k, i + 1, s, h => by
    obtain ⟨d2, h1, h2⟩ := slsI_get js r hr ds (k + 1) i s h
    exact ⟨d2, h1, by rw [show k + (i + 1) = k + 1 + i by omega]; exact h2⟩
def lentO (δ : DS) : List Nat → Option (List (List D))
  | [] => some []
  | j :: js => match δ.get j with
    | some (.io (.lst l)) => (match lentO δ js with
      | some r => some (l :: r)
      | none => none)
    | _ => none
def retI (js : List Nat) (P : D → List (List D) → Prop) : Fw → DS → Prop := fun fl δ => match fl with
  | .nx => optK (lentO δ js) fun ls => P .none ls
  | .rt d => optK (lentO δ js) fun ls => P d ls
  | .rtO (.lst ds) => optK (lentO δ js) fun ls => P (.list ds) ls
  | _ => False
theorem slsI_at (js : List Nat) (r : DS) : ∀ (ds : List D) (k i : Nat) (d : D), ds[i]? = some d → DS.get (slsI js k ds ++ r) i = bif js.elem (k + i) then lentSl d else some (.sh d)
  | [], k, i, d, h => by cases h
  | d0 :: ds, k, 0, d, h => by cases h; rfl
  | d0 :: ds, k, i + 1, d, h => by
    have := slsI_at js r ds (k + 1) i d h
    rw [show k + (i + 1) = k + 1 + i by omega]
    exact this
theorem elem_iff {js : List Nat} {k : Nat} : js.elem k = true ↔ k ∈ js := by simp
theorem par_uniq {α : Type} : ∀ {par : List (Nat × α)} {j : Nat} {p q : α}, (par.map (·.1)).Nodup → (j, p) ∈ par → (j, q) ∈ par → p = q
  | [], _, _, _, _, h, _ => by cases h
  | (i, r) :: par, j, p, q, nd, h1, h2 => by
    rw [List.map_cons, List.nodup_cons] at nd
    rcases List.mem_cons.mp h1 with a | a
    · rcases List.mem_cons.mp h2 with b | b
      · injection a with a1 a2; injection b with b1 b2; rw [a2, b2]
      · injection a with a1 a2
        exact absurd (by rw [← a1]; exact List.mem_map.mpr ⟨_, b, rfl⟩) nd.1
    · rcases List.mem_cons.mp h2 with b | b
      · injection b with b1 b2
        exact absurd (by rw [← b1]; exact List.mem_map.mpr ⟨_, a, rfl⟩) nd.1
      · exact par_uniq nd.2 a b
theorem par_uniq2 {α β : Type} : ∀ {par : List (α × β)} {i j : α} {p : β}, (par.map (·.2)).Nodup → (i, p) ∈ par → (j, p) ∈ par → i = j
  | [], _, _, _, _, h, _ => by cases h
  | (a0, r) :: par, i, j, p, nd, h1, h2 => by
    rw [List.map_cons, List.nodup_cons] at nd
    rcases List.mem_cons.mp h1 with a | a
    · rcases List.mem_cons.mp h2 with b | b
      · injection a with a1 a2; injection b with b1 b2; rw [a1, b1]
      · injection a with a1 a2
        exact absurd (by rw [← a2]; exact List.mem_map.mpr ⟨_, b, rfl⟩) nd.1
    · rcases List.mem_cons.mp h2 with b | b
      · injection b with b1 b2
        exact absurd (by rw [← b2]; exact List.mem_map.mpr ⟨_, a, rfl⟩) nd.1
      · exact par_uniq2 nd.2 a b
theorem rel_startI {K : PySem.W.Frag} {G H : Hp} {N : List Str} {vs : List V} {ds : List D} {par : List (Nat × Addr)} {js : List Nat} (s : Same G H) (h : ArgI K G H 0 par vs ds) (hj : par.map (·.1) = js) (nd : (par.map (·.2)).Nodup) :
    Rel K ⟨H, G, par⟩ ⟨[], G⟩ (L2.start N vs) H (startI js N ds) G := by
  have at_ : ∀ i v, vs[i]? = some v → (L2.start N vs)[i]? = some (some v) := fun i v e => by
    unfold L2.start
    rw [List.getElem?_append_left (by rw [List.length_map]; exact (List.getElem?_eq_some_iff.mp e).1), List.getElem?_map, e]
    rfl
  have inj : ∀ i p, (i, p) ∈ par → ∃ lc, ds[i]? = some (.list lc) ∧ vs[i]? = some (.ref p) := fun i p hp => by
    obtain ⟨h1, lc, h2⟩ := h.mem _ hp
    exact ⟨lc, h2, h1⟩
  have key : ∀ i s, DS.get (startI js N ds) i = some s → SlOk K ⟨H, G, par⟩ ⟨[], G⟩ (L2.start N vs) H G i s := fun i s e => by
    obtain ⟨d, e1, e2⟩ := slsI_get js _ (get_rep _) ds 0 i s e
    rw [Nat.zero_add] at e2
    rcases h.at i d e1 with ⟨p, vc, lc, h1, h2, h3, h4, h5, rfl⟩ | ⟨h1, v, h2, h3⟩
    · rw [Nat.zero_add] at h1
      have : js.elem i = true := elem_iff.mpr (by rw [← hj]; exact List.mem_map.mpr ⟨_, h1, rfl⟩)
      rw [this] at e2
      cases e2
      exact ⟨p, at_ _ _ h2, h3, h1, fun q hq => (by cases hq), vc, h4, h5⟩
    · have : js.elem i = false := by
        rw [Bool.eq_false_iff]
        intro z
        obtain ⟨q, hq, e⟩ := List.mem_map.mp (by rw [hj]; exact elem_iff.mp z)
        exact h1 q.2 (by rw [Nat.zero_add, ← e]; exact hq)
      rw [this] at e2
      cases e2
      exact ⟨v, at_ _ _ h2, h3⟩
  have own : ∀ i, Own (startI js N ds) i → ∃ p, (i, p) ∈ par ∧ At (L2.start N vs) i p := fun i ⟨o, ho⟩ => by
    rcases ho with ho | ho
    · obtain ⟨d, e1, e2⟩ := slsI_get js _ (get_rep _) ds 0 i _ ho
      cases q : js.elem (0 + i) <;> rw [q] at e2
      · cases e2
      · cases d <;> cases e2
    · obtain ⟨p, h1, h2, h3, _⟩ := key i _ ho
      exact ⟨p, h3, h1⟩
  refine ⟨s, Same.refl _, fun _ _ => rfl, fun a o h _ => h, fun q hq => ?_, ?_, key, fun i j p hi hj2 ai aj => ?_, fun q hq => (by cases hq), Same.refl _⟩
  · obtain ⟨lc, h1, h2⟩ := inj q.1 q.2 hq
    refine ⟨at_ _ _ h2, ?_, .lst lc, ?_⟩
    · rcases h.at q.1 _ h1 with ⟨p, vc, lc', a1, a2, a3, a4, _⟩ | ⟨a1, _⟩
      · rw [h2] at a2
        cases a2
        exact ne_none_of a4
      · exact absurd hq (by have := a1 q.2; rw [Nat.zero_add] at this; exact this)
    · have e := slsI_at js (List.replicate (N.length - ds.length) none) ds 0 q.1 _ h1
      rw [Nat.zero_add] at e
      have : js.elem q.1 = true := elem_iff.mpr (by rw [← hj]; exact List.mem_map.mpr ⟨_, hq, rfl⟩)
      rw [this] at e
      exact e
  · unfold startI L2.start
    rw [List.length_append, List.length_append, slsI_len, List.length_map, List.length_replicate, List.length_replicate, h.len]
  · obtain ⟨p1, m1, a1⟩ := own i hi
    obtain ⟨p2, m2, a2⟩ := own j hj2
    cases ai.inj a1
    cases aj.inj a2
    exact par_uniq2 nd m1 m2
theorem Rel.grownI {K : PySem.W.Frag} {H0 G0 : Hp} {par : List (Nat × Addr)} {hid : Hd} {σ : L2.St} {H : Hp} {δ : DS} {G : Hp} (R : Rel K ⟨H0, G0, par⟩ hid σ H δ G) : Grow (par.map (·.2)) H0 G0 H G :=
  ⟨fun a o n h => R.fr a o h (fun q hq z => n (List.mem_map.mpr ⟨q, hq, z⟩)), fun a h => R.here h, R.ext, R.sub, R.old⟩
theorem Rel.lentI {K : PySem.W.Frag} {Γ : Ga} {hid : Hd} {σ : L2.St} {H : Hp} {δ : DS} {G : Hp} (R : Rel K Γ hid σ H δ G) : ∀ {par : List (Nat × Addr)} {ls : List (List D)}, (∀ q ∈ par, q ∈ Γ.par) → lentO δ (par.map (·.1)) = some ls → LOk K H G par ls
  | [], ls, _, e => by cases e; trivial
  | q :: par, ls, hm, e => by
    have e2 : (match δ.get q.1 with
      | some (.io (.lst l)) => (match lentO δ (par.map (·.1)) with
        | some r => some (l :: r)
        | none => none)
      | _ => none) = some ls := e
    cases q1 : δ.get q.1 with
    | none => rw [q1] at e2; cases e2
    | some s =>
      rw [q1] at e2
      cases s with
      | sh d => cases e2
      | ow o => cases e2
      | io o =>
        cases o with
        | lst l =>
          cases q2 : lentO δ (par.map (·.1)) with
          | none => rw [q2] at e2; cases e2
          | some r =>
            rw [q2] at e2
            cases e2
            refine ⟨?_, R.lentI (fun q hq => hm q (List.mem_cons_of_mem _ hq)) q2⟩
            obtain ⟨p, h1, h2, h3, h4, vs, h5, h6⟩ := R.sl q.1 _ q1
            have a := (R.prs q (hm q List.mem_cons_self)).1
            cases h1.inj a
            exact ⟨vs, h5, h6⟩
section
variable {P : Program} {w : World} {K : PySem.W.Frag} {mg : Str → Option Value} {base : Heap}
theorem fnI {x qual : Str} {st : Stmt} {f : Addr} {fd : FuncData} {N ps : List Str} {k : Nat} {js : List Nat} {S : SPI} (F : Fun K x qual st f fd) (sc : FnScope N ps (defScope st)) (mS : MonoI S) (len : ∀ ds P, S ds P → ds.length = ps.length)
    (hbody : ∀ (cdv : Value) (A : Around) (outer : List Env) (s : Shared) (H : Hp) (E : XK), Room k (A.deeper (envOfC qual (defScope st) s.heap.objs.size f cdv)) → ∀ Γ : Ga,
      ∃ ψ, DB (cxOf CX0 P w K mg base N qual (defScope st) f cdv A outer s H E).nox Γ W0 (defBody st) ψ ∧ ∀ ds P, S ds P → ψ (startI js N ds) E0K (retI js P)) : FnOk P w K mg base CX0 (k + 1) f fd ps (spI K js S) := by
  refine F.ok sc (fun vs H Q E h => ?_) (fun cdv A outer s H vs Q E hr h => ?_)
  · obtain ⟨G, ds, par, _, ha, _, _, q⟩ := h
    rw [ha.len]
    exact len _ _ q
  · obtain ⟨G, ds, par, sG, ha, hj, nd, q⟩ := h
    obtain ⟨ψ, dr, hψ⟩ := hbody cdv A outer s H E hr ⟨H, G, par⟩
    have fin : ∀ {σ : L2.St} {H1 : Hp} {δ : DS} {G1 : Hp} {ls : List (List D)} {hid : Hd}, Rel K ⟨H, G, par⟩ hid σ H1 δ G1 → lentO δ js = some ls → LOk K H1 G1 par ls := fun R e => R.lentI (fun q hq => hq) (by rw [hj]; exact e)
    refine ⟨_, dr.run, ⟨[], G⟩, startI js N ds, G, rel_startI sG ha hj nd, dr.mono _ _ _ _ _ E0_up (fun fl δ h1 => ?_) (hψ ds _ q)⟩
    cases fl with
    | nx =>
      obtain ⟨ls, e, h1⟩ := optK_get h1
      exact fun σ H1 G1 R1 => h1 _ H1 G1 R1.grownI (fin R1 e) .non
    | bk => exact h1.elim
    | ct => exact h1.elim
    | rt d =>
      obtain ⟨ls, e, h1⟩ := optK_get h1
      exact fun v σ H1 G1 R1 dv => h1 v H1 G1 R1.grownI (fin R1 e) dv
    | rtO o => cases o with
      | lst ds =>
        obtain ⟨ls, e, h1⟩ := optK_get h1
        exact fun p σ H1 G1 R1 n => by
          obtain ⟨G2, R2, s2, d2⟩ := R1.newData n
          exact h1 _ H1 G2 R2.grownI (fin R2 e) d2
structure CalI (P : Program) (w : World) (K : PySem.W.Frag) (mg : Str → Option Value) (base : Heap) (CX : CXT) (k : Nat) (x : Str) (ps : List Str) (js : List Nat) (S : SPI) : Prop where
  ex : ∃ (f : Addr) (fd : FuncData), FnOk P w K mg base CX k f fd ps (spI K js S) ∧ mg x = some (.ref f) ∧ PySem.W.keepIn K (.ref f) = true ∧ Binds K fd ps []
  mono : MonoI S
theorem calI {x : Str} {st : Stmt} {N ps : List Str} {k : Nat} {js : List Nat} {S : SPI} (A : DefAt K mg x st ps) (sc : FnScope N ps (defScope st)) (mS : MonoI S) (len : ∀ ds P, S ds P → ds.length = ps.length)
    (hbody : ∀ (f : Addr) (cdv : Value) (A : Around) (outer : List Env) (s : Shared) (H : Hp) (E : XK), Room k (A.deeper (envOfC x (defScope st) s.heap.objs.size f cdv)) → ∀ Γ : Ga,
      ∃ ψ, DB (cxOf CX0 P w K mg base N x (defScope st) f cdv A outer s H E).nox Γ W0 (defBody st) ψ ∧ ∀ ds P, S ds P → ψ (startI js N ds) E0K (retI js P)) : CalI P w K mg base CX0 (k + 1) x ps js S := by
  obtain ⟨f, fd, F, hm, hb⟩ := A.ex
  exact ⟨⟨f, fd, fnI F sc mS len (hbody f), hm, F.kp, hb⟩, mS⟩
end
/-! ### the call -/
abbrev RAI := DS → KE → (List (Option D) → DS → Prop) → Prop
inductive AOk (K : PySem.W.Frag) (σ : L2.St) (G : Hp) : Nat → List (Nat × Addr) → List Nat → List V → List (Option D) → Prop
  | nil {k} : AOk K σ G k [] [] [] []
  | dat {k par is v d vs ds} : Dt K G v d → AOk K σ G (k + 1) par is vs ds → AOk K σ G k par is (v :: vs) (some d :: ds)
  | lent {k par is i p vs ds} : At σ i p → AOk K σ G (k + 1) par is vs ds → AOk K σ G k ((k, p) :: par) (i :: is) (.ref p :: vs) (none :: ds)
theorem AOk.up {K : PySem.W.Frag} {σ : L2.St} {G G' : Hp} (s : Same G G') {k : Nat} {par : List (Nat × Addr)} {is : List Nat} {vs : List V} {ds : List (Option D)} (h : AOk K σ G k par is vs ds) : AOk K σ G' k par is vs ds := by
  induction h with
  | nil => exact .nil
  | dat h _ ih => exact .dat (dp_mono s h) ih
  | lent h _ ih => exact .lent h ih
section
variable {X : Cx} {Γ : Ga} {W : WX} {a : Expr} {es : List Expr} {φa : RE} {ρ : RAI} {x : Str} {p pos : Pos} {CX : CXT} {k j : Nat} {ps : List Str} {S : SPI} {js is : List Nat}
def LAI (K : PySem.W.Frag) (Γ : Ga) (W : WX) (k : Nat) (js is : List Nat) (ρ : RAI) : TA := fun σ H Q => ∃ hid δ G, Rel K Γ hid σ H δ G ∧ ρ δ (EK K Γ W hid) fun ds δ' => ∀ vs H' G' par, Rel K Γ hid σ H' δ' G' → Same G G' → AOk K σ G' k par is vs ds → par.map (·.1) = js → Q vs H'
structure DAI (X : Cx) (Γ : Ga) (W : WX) (k : Nat) (es : List Expr) (js is : List Nat) (ρ : RAI) : Prop where
  run : PA X es (LAI X.K Γ W k js is ρ)
  mono : Mono ρ
def nilAI : RAI := fun δ _ P => P [] δ
def consAI (φ : RE) (ρ : RAI) : RAI := fun δ E P => φ δ E fun d δ1 => ρ δ1 E fun ds δ2 => P (some d :: ds) δ2
def lendAI (i : Nat) (ρ : RAI) : RAI := fun δ E P => optK (ownO (δ.get i)) fun _ => ρ δ E fun ds δ2 => P (none :: ds) δ2
theorem dai_nil : DAI X Γ W k [] [] [] nilAI :=
  ⟨PA.imp pa_nil fun σ H Q ⟨hid, δ, G, R, q⟩ => q [] H G [] R (Same.refl _) .nil rfl, fun _ _ _ _ _ _ hp q => hp _ _ q⟩
theorem dai_cons (ha : DE X Γ W a φa) (hr : DAI X Γ W (k + 1) es js is ρ) (hs : starEach (a :: es) X.env = (false, eval a X.env) :: starEach es X.env := by rfl) : DAI X Γ W k (a :: es) js is (consAI φa ρ) :=
  ⟨PA.imp (pa_cons ha.run hr.run hs) fun σ H Q ⟨hid, δ, G, R, q⟩ => ha.go R q fun d δ1 v H1 G1 q1 R1 s1 d1 => ⟨hid, δ1, G1, R1, hr.mono _ _ _ _ _ (fun _ _ z => z) (fun ds δ2 q2 vs H2 G2 par R2 s2 ao hj => q2 (v :: vs) H2 G2 par R2 (s1.trans s2) (.dat (dp_mono s2 d1) ao) hj) q1⟩,
    fun _ _ _ _ _ he hp q => ha.mono _ _ _ _ _ he (fun _ _ z => hr.mono _ _ _ _ _ he (fun _ _ z2 => hp _ _ z2) z) q⟩
theorem dai_lend (i : Nat) {y : Str} {yp : Pos} (hx : PE X (.Name y yp) (tVar i)) (hr : DAI X Γ W (k + 1) es js is ρ) (hs : starEach (.Name y yp :: es) X.env = (false, eval (.Name y yp) X.env) :: starEach es X.env := by rfl) : DAI X Γ W k (.Name y yp :: es) (k :: js) (i :: is) (lendAI i ρ) :=
  ⟨PA.imp (pa_cons hx hr.run hs) fun σ H Q ⟨hid, δ, G, R, q⟩ => by
    obtain ⟨l0, e0, q⟩ := optK_get q
    obtain ⟨p, vs, s, _, _, at1, _, _⟩ := own_at R e0
    exact ⟨.ref p, at1, hid, δ, G, R, hr.mono _ _ _ _ _ (fun _ _ z => z) (fun ds δ2 q2 vs H2 G2 par R2 s2 ao hj => q2 (.ref p :: vs) H2 G2 ((k, p) :: par) R2 s2 (.lent at1 ao) (by rw [List.map_cons, hj])) q⟩,
    fun _ _ _ _ _ he hp q => optK_mono (fun _ q => hr.mono _ _ _ _ _ he (fun _ _ z2 => hp _ _ z2) q) q⟩
def lentC (δ : DS) : List Nat → Option (List (List D))
  | [] => some []
  | i :: is => match ownO (δ.get i) with
    | some l => (match lentC δ is with
      | some r => some (l :: r)
      | none => none)
    | none => none
def fillA : List (Option D) → List (List D) → List D
  | none :: r, l :: ls => .list l :: fillA r ls
  | none :: r, [] => .none :: fillA r []
  | some d :: r, ls => d :: fillA r ls
  | [], _ => []
def putL (δ : DS) : List Nat → List (List D) → DS
  | i :: is, l :: ls => putL (putO δ i l) is ls
  | _, _ => δ
theorem lentC_cons {δ : DS} {i : Nat} {is : List Nat} {ls : List (List D)} (e : lentC δ (i :: is) = some ls) : ∃ l r, ownO (δ.get i) = some l ∧ lentC δ is = some r ∧ ls = l :: r := by
  have e2 : (match ownO (δ.get i) with
    | some l => (match lentC δ is with
      | some r => some (l :: r)
      | none => none)
    | none => none) = some ls := e
  cases q1 : ownO (δ.get i) with
  | none => rw [q1] at e2; cases e2
  | some l =>
    cases q2 : lentC δ is with
    | none => rw [q1, q2] at e2; cases e2
    | some r => rw [q1, q2] at e2; cases e2; exact ⟨l, r, rfl, rfl, rfl⟩
theorem own_g {K : PySem.W.Frag} {hid : Hd} {σ : L2.St} {H : Hp} {δ : DS} {G : Hp} {i : Nat} {ds : List D} (R : Rel K Γ hid σ H δ G) (e : ownO (δ.get i) = some ds) : Own δ i ∧ ∃ p vs, At σ i p ∧ G p = none ∧ H p = some (.lst vs) ∧ Dts K G vs ds := by
  cases q : δ.get i with
  | none => rw [q] at e; cases e
  | some s =>
    rw [q] at e
    cases s with
    | sh d => cases e
    | ow o => cases o with | lst ds' => cases e; obtain ⟨p, h1, h2, _, _, vs, h5, h6⟩ := R.sl i _ q; exact ⟨⟨_, .inl q⟩, p, vs, h1, h2, h5, h6⟩
    | io o => cases o with | lst ds' => cases e; obtain ⟨p, h1, h2, _, _, vs, h5, h6⟩ := R.sl i _ q; exact ⟨⟨_, .inr q⟩, p, vs, h1, h2, h5, h6⟩
theorem AOk.args {K : PySem.W.Frag} {hid : Hd} {σ : L2.St} {H : Hp} {δ : DS} {G : Hp} (R : Rel K Γ hid σ H δ G) {k : Nat} {par : List (Nat × Addr)} {is : List Nat} {vs : List V} {ds : List (Option D)} (h : AOk K σ G k par is vs ds) :
    ∀ ls, lentC δ is = some ls → ArgI K G H k par vs (fillA ds ls) := by
  induction h with
  | nil => intro ls _; exact .nil
  | dat h _ ih => intro ls e; exact .dat h (ih ls e)
  | lent h _ ih =>
    intro ls e
    obtain ⟨l, r, e1, e2, rfl⟩ := lentC_cons e
    obtain ⟨_, p, vs, a, b, c, d⟩ := own_g R e1
    cases h.inj a
    exact .lent b c d (ih r e2)
theorem AOk.slots {K : PySem.W.Frag} {σ : L2.St} {G : Hp} {k : Nat} {par : List (Nat × Addr)} {is : List Nat} {vs : List V} {ds : List (Option D)} (h : AOk K σ G k par is vs ds) : ∀ q ∈ par, ∃ i ∈ is, At σ i q.2 := by
  induction h with
  | nil => intro q hq; cases hq
  | dat h _ ih => exact ih
  | @lent k par is i p vs ds h _ ih =>
    intro q hq
    rcases List.mem_cons.mp hq with rfl | hq
    · exact ⟨i, List.mem_cons_self, h⟩
    · obtain ⟨j, a, b⟩ := ih q hq
      exact ⟨j, List.mem_cons_of_mem _ a, b⟩
theorem lentC_own {δ : DS} : ∀ {is : List Nat} {ls : List (List D)}, lentC δ is = some ls → ∀ i ∈ is, ∃ l, ownO (δ.get i) = some l
  | [], _, _, i, h => by cases h
  | j :: is, ls, e, i, h => by
    obtain ⟨l, r, e1, e2, rfl⟩ := lentC_cons e
    rcases List.mem_cons.mp h with rfl | h
    · exact ⟨l, e1⟩
    · exact lentC_own e2 i h
theorem AOk.nodup {K : PySem.W.Frag} {hid : Hd} {σ : L2.St} {H : Hp} {δ : DS} {G : Hp} (R : Rel K Γ hid σ H δ G) {k : Nat} {par : List (Nat × Addr)} {is : List Nat} {vs : List V} {ds : List (Option D)} (h : AOk K σ G k par is vs ds) :
    is.Nodup → ∀ ls, lentC δ is = some ls → (par.map (·.2)).Nodup := by
  induction h with
  | nil => intro _ _ _; exact List.nodup_nil
  | dat h _ ih => exact ih
  | @lent k par is i p vs ds h ht ih =>
    intro nd ls e
    rw [List.nodup_cons] at nd
    obtain ⟨l, r, e1, e2, rfl⟩ := lentC_cons e
    rw [List.map_cons, List.nodup_cons]
    refine ⟨fun z => ?_, ih nd.2 r e2⟩
    obtain ⟨q, hq, eq⟩ := List.mem_map.mp z
    obtain ⟨j, hj, aj⟩ := ht.slots q hq
    obtain ⟨l2, e3⟩ := lentC_own e2 j hj
    have := R.dist i j p (own_g R e1).1 (own_g R e3).1 h (by have eq : q.2 = p := eq; rw [← eq]; exact aj)
    exact nd.1 (this ▸ hj)
theorem put_get {δ : DS} {i j : Nat} {l : List D} (h : i ≠ j) : (putO δ i l).get j = δ.get j := by
  unfold putO
  cases δ.get i with
  | none => rfl
  | some s => show DS.get (List.set δ i _) j = _; rw [DS.get_set, if_neg (fun z => h z.1)]
theorem lentC_put {δ : DS} {i : Nat} {l : List D} : ∀ {is : List Nat}, i ∉ is → lentC (putO δ i l) is = lentC δ is
  | [], _ => rfl
  | j :: is, h => by
    have e : i ≠ j := fun z => h (by rw [z]; exact List.mem_cons_self)
    unfold lentC
    rw [put_get e, lentC_put (fun z => h (List.mem_cons_of_mem _ z))]
theorem AOk.put {K : PySem.W.Frag} {hid : Hd} {σ : L2.St} {H' G G' : Hp} {k : Nat} {par : List (Nat × Addr)} {is : List Nat} {vs : List V} {ds : List (Option D)} (h : AOk K σ G k par is vs ds) :
    is.Nodup → ∀ (Hx : Hp) (δx : DS) (ls0 ls : List (List D)), Rel K Γ hid σ Hx δx G' → lentC δx is = some ls0 → LOk K H' G' par ls → (∀ a, a ∉ par.map (·.2) → Hx a = H' a) → Rel K Γ hid σ H' (putL δx is ls) G' := by
  induction h with
  | nil =>
    intro _ Hx δx ls0 ls R _ _ he
    have e : Hx = H' := funext fun a => he a (by simp)
    rw [← e]
    cases ls <;> exact R
  | dat h _ ih => exact ih
  | @lent k par is i p vs ds h ht ih =>
    intro nd Hx δx ls0 ls R e lo he
    rw [List.nodup_cons] at nd
    obtain ⟨l, r, e1, e2, rfl⟩ := lentC_cons e
    cases ls with
    | nil => exact lo.elim
    | cons l' ls =>
      obtain ⟨⟨vc, h1, h2⟩, lo⟩ := lo
      refine ih nd.2 (upd Hx p (.lst vc)) (putO δx i l') r ls (own_put R e1 h h2) (by rw [lentC_put nd.1]; exact e2) lo fun a ha => ?_
      by_cases c : a = p
      · subst c; rw [upd_same]; exact h1.symm
      · rw [upd_ne c]
        refine he a fun z => ?_
        rcases List.mem_cons.mp (by rw [List.map_cons] at z; exact z) with z | z
        · exact c z
        · exact ha z
def callIR (S : SPI) (is : List Nat) (ρ : RAI) : RE := fun δ E P => ρ δ E fun ds δ1 => optK (lentC δ1 is) fun ls => S (fillA ds ls) fun d ls' => P d (putL δ1 is ls')
theorem Rel.growL {K : PySem.W.Frag} {hid : Hd} {σ : L2.St} {H : Hp} {δ : DS} {G H' G' : Hp} {k : Nat} {par : List (Nat × Addr)} {is : List Nat} {vs : List V} {ds : List (Option D)} {ls0 ls : List (List D)} (R : Rel K Γ hid σ H δ G) (h : AOk K σ G k par is vs ds) (nd : is.Nodup)
    (e : lentC δ is = some ls0) (g : Grow (par.map (·.2)) H G H' G') (lo : LOk K H' G' par ls) : Rel K Γ hid σ H' (putL δ is ls) G' := by
  have hp : ∀ q ∈ par, H q.2 ≠ none ∧ G q.2 = none := fun q hq => by
    obtain ⟨i, hi, a⟩ := h.slots q hq
    obtain ⟨l, e1⟩ := lentC_own e i hi
    obtain ⟨_, p, vs, a2, b, c, _⟩ := own_g R e1
    cases a.inj a2
    exact ⟨ne_none_of c, b⟩
  let Hm : Hp := fun a => if a ∈ par.map (·.2) then H a else H' a
  have gm : Grow [] H G Hm G' := by
    refine ⟨fun a o _ h1 => ?_, fun a h1 => ?_, g.data, fun a o h1 => ?_, g.old⟩
    · show (if a ∈ par.map (·.2) then H a else H' a) = some o
      split
      · exact h1
      · exact g.same a o (by assumption) h1
    · show (if a ∈ par.map (·.2) then H a else H' a) ≠ none
      split
      · exact h1
      · exact g.here a h1
    · show (if a ∈ par.map (·.2) then H a else H' a) = some o
      split
      · rename_i hm
        obtain ⟨q, hq, rfl⟩ := List.mem_map.mp hm
        obtain ⟨a1, a2⟩ := hp q hq
        rw [g.old _ a1, a2] at h1
        cases h1
      · exact g.sub a o h1
  refine h.put nd Hm δ ls0 ls (R.grow gm) e lo fun a ha => ?_
  show (if a ∈ par.map (·.2) then H a else H' a) = H' a
  rw [if_neg ha]
theorem de_calI (c : CalI X.prog X.w X.K X.mg X.base CX k x ps js S) (hr : Room j X.A) (hk : k ≤ j) (hx : ∀ σ, PassesAt CX X σ (WE W σ)) (ha : DAI X Γ W 0 (a :: es) js is ρ) (nd : is.Nodup := by decide) (hg : Gl X x := by rfl) (hdb : (x == ("__debug__" : Str)) = false := by decide)
    (he : starEach (a :: es) X.env = (false, eval a X.env) :: starEach es X.env := by rfl) (hpl : (backTo pos (starEach es X.env)).any (·.1) = false := by rfl) : DE X Γ W (.Call (.Name x p) (a :: es) [] pos) (callIR S is ρ) := by
  obtain ⟨f, fd, F, hm, hk2, hb⟩ := c.ex
  refine de_mk (pe_callS F (hr.mono hk) hg hm hk2 hb hx ha.run hdb he hpl) (fun _ _ _ _ _ he hp q => ha.mono _ _ _ _ _ he (fun _ _ z => optK_mono (fun _ z => c.mono _ _ _ (fun _ _ => hp _ _) z) z) q) fun σ H Q hid δ G R q => ?_
  refine ⟨hid, δ, G, R, ha.mono _ _ _ _ _ (fun _ _ z => z) (fun ds δ1 q1 vs H1 G1 par R1 s1 ao hj => ?_) q⟩
  obtain ⟨ls, e, q1⟩ := optK_get q1
  exact ⟨G1, fillA ds ls, par, R1.sub, ao.args R1 ls e, hj, ao.nodup R1 nd ls e, c.mono _ _ _ (fun d ls' h1 v H2 G2 g lo dd => h1 v H2 G2 (R1.growL ao nd e g lo) (s1.trans g.data) dd) q1⟩
end
/-! ### a call that hands back a new list -/
abbrev SPN := List D → (List D → Prop) → Prop
def MonoN (S : SPN) : Prop := ∀ ds (P P' : List D → Prop), (∀ l, P l → P' l) → S ds P → S ds P'
def spN (K : PySem.W.Frag) (S : SPN) : Sp := fun vs H Q _ => ∃ G ds, Same G H ∧ Dts K G vs ds ∧ S ds fun l => ∀ p vl H' G', Grow [] H G H' G' → H p = none → G' p = none → H' p = some (.lst vl) → Dts K G' vl l → Q (.ref p) H'
def retN (P : List D → Prop) : Fw → DS → Prop := fun fl _ => match fl with
  | .rtO (.lst ds) => P ds
  | _ => False
section
variable {P : Program} {w : World} {K : PySem.W.Frag} {mg : Str → Option Value} {base : Heap}
theorem fnN {x qual : Str} {st : Stmt} {f : Addr} {fd : FuncData} {N ps : List Str} {k : Nat} {S : SPN} (F : Fun K x qual st f fd) (sc : FnScope N ps (defScope st)) (mS : MonoN S) (len : ∀ ds P, S ds P → ds.length = ps.length)
    (hbody : ∀ (cdv : Value) (A : Around) (outer : List Env) (s : Shared) (H : Hp) (E : XK), Room k (A.deeper (envOfC qual (defScope st) s.heap.objs.size f cdv)) → ∀ Γ : Ga,
      ∃ ψ, DB (cxOf CX0 P w K mg base N qual (defScope st) f cdv A outer s H E).nox Γ W0 (defBody st) ψ ∧ ∀ ds P, S ds P → ψ (startD N ds) E0K (retN P)) : FnOk P w K mg base CX0 (k + 1) f fd ps (spN K S) := by
  refine F.ok sc (fun vs H Q E h => ?_) (fun cdv A outer s H vs Q E hr h => ?_)
  · obtain ⟨G, ds, _, hd, q⟩ := h
    rw [dpa_length hd]
    exact len _ _ q
  · obtain ⟨G, ds, sG, hd, q⟩ := h
    obtain ⟨ψ, dr, hψ⟩ := hbody cdv A outer s H E hr ⟨H, G, []⟩
    refine ⟨_, dr.run, ⟨[], G⟩, startD N ds, G, rel_start sG hd, dr.mono _ _ _ _ _ E0_up (fun fl δ h1 => ?_) (hψ ds _ q)⟩
    cases fl with
    | rtO o => cases o with
      | lst ds =>
        exact fun p σ H1 G1 R1 n => by
          obtain ⟨vs, h2, h3⟩ := n.mo
          exact h1 p vs H1 G1 R1.grown n.h0 n.g h2 h3
    | _ => exact h1.elim
structure CalN (P : Program) (w : World) (K : PySem.W.Frag) (mg : Str → Option Value) (base : Heap) (CX : CXT) (k : Nat) (x : Str) (ps : List Str) (S : SPN) : Prop where
  ex : ∃ (f : Addr) (fd : FuncData), FnOk P w K mg base CX k f fd ps (spN K S) ∧ mg x = some (.ref f) ∧ PySem.W.keepIn K (.ref f) = true ∧ Binds K fd ps []
  mono : MonoN S
theorem calN {x : Str} {st : Stmt} {N ps : List Str} {k : Nat} {S : SPN} (A : DefAt K mg x st ps) (sc : FnScope N ps (defScope st)) (mS : MonoN S) (len : ∀ ds P, S ds P → ds.length = ps.length)
    (hbody : ∀ (f : Addr) (cdv : Value) (A : Around) (outer : List Env) (s : Shared) (H : Hp) (E : XK), Room k (A.deeper (envOfC x (defScope st) s.heap.objs.size f cdv)) → ∀ Γ : Ga,
      ∃ ψ, DB (cxOf CX0 P w K mg base N x (defScope st) f cdv A outer s H E).nox Γ W0 (defBody st) ψ ∧ ∀ ds P, S ds P → ψ (startD N ds) E0K (retN P)) : CalN P w K mg base CX0 (k + 1) x ps S := by
  obtain ⟨f, fd, F, hm, hb⟩ := A.ex
  exact ⟨⟨f, fd, fnN F sc mS len (hbody f), hm, F.kp, hb⟩, mS⟩
end
section
variable {X : Cx} {Γ : Ga} {W : WX} {a : Expr} {es : List Expr} {ρ : RA} {x : Str} {p pos : Pos} {CX : CXT} {k j : Nat} {ps : List Str} {S : SPN}
def callNR (S : SPN) (ρ : RA) : RN := fun δ E P => ρ δ E fun ds δ1 => S ds fun l => P (.lst l) δ1
theorem dn_cal (c : CalN X.prog X.w X.K X.mg X.base CX k x ps S) (hr : Room j X.A) (hk : k ≤ j) (hx : ∀ σ, PassesAt CX X σ (WE W σ)) (ha : DA X Γ W (a :: es) ρ) (hg : Gl X x := by rfl) (hdb : (x == ("__debug__" : Str)) = false := by decide)
    (he : starEach (a :: es) X.env = (false, eval a X.env) :: starEach es X.env := by rfl) (hpl : (backTo pos (starEach es X.env)).any (·.1) = false := by rfl) : DN X Γ W (.Call (.Name x p) (a :: es) [] pos) (callNR S ρ) := by
  obtain ⟨f, fd, F, hm, hk2, hb⟩ := c.ex
  refine dn_mk (pe_callS F (hr.mono hk) hg hm hk2 hb hx ha.run hdb he hpl) (fun _ _ _ _ _ he hp q => ha.mono _ _ _ _ _ he (fun _ _ z => c.mono _ _ _ (fun _ => hp _ _) z) q) fun σ H Q hid δ G R q => ?_
  refine ha.go R q fun ds δ1 vs H1 G1 q1 R1 s1 d1 => ⟨G1, ds, R1.sub, d1, c.mono _ _ _ (fun l h1 p vl H2 G2 g np n2 hp hv => ?_) q1⟩
  refine h1 p H2 G2 (R1.grow g) (s1.trans g.data) ⟨n2, ?_, fun q hq z => ?_, fun i ⟨o, ho⟩ ai => ?_, vl, hp, hv⟩
  · cases e : Γ.H0 p with
    | none => rfl
    | some u => exact absurd np (R1.here (by rw [e]; exact fun z => nomatch z))
  · have := (R1.hds q hq).1
    rw [z, np] at this; cases this
  · rcases ho with ho | ho
    · obtain ⟨p', a', _, _, _, m⟩ := R1.sl i _ ho
      cases ai.inj a'
      exact m.here np
    · obtain ⟨p', a', _, _, _, m⟩ := R1.sl i _ ho
      cases ai.inj a'
      exact m.here np
end
end DL

/-! Looking at own lists; lists that are pinned for a loop. -/
namespace DL
open PySem PySem.Spec PyProof.Rows L2
def sclD : D → Bool
  | .none => true | .bool _ => true | .int _ => true | .str _ => true | _ => false
theorem scl_dt {K : PySem.W.Frag} {H G : Hp} {v : V} {d : D} (h : sclD d = true) (hd : Dt K H v d) : Dt K G v d := by
  cases hd with
  | non => exact .non
  | bl b => exact .bl b
  | int i => exact .int i
  | str x => exact .str x
  | _ => cases h
def shOf : Option Sl → Option Sl
  | some (.ow (.lst ds)) => some (.sh (.list ds))
  | some (.io (.lst ds)) => some (.sh (.list ds))
  | some (.sh d) => some (.sh d)
  | none => none
/-- slot i as data, the other lists aside -/
def hideG : Nat → DS → DS
  | _, [] => []
  | 0, s :: r => shOf s :: r.map keepD
  | i + 1, s :: r => keepD s :: hideG i r
theorem hideG_len : ∀ (i : Nat) (δ : DS), (hideG i δ).length = δ.length
  | _, [] => by cases ‹Nat› <;> rfl
  | 0, s :: r => by simp [hideG]
  | i + 1, s :: r => by simp [hideG, hideG_len i r]
theorem keep_get (r : DS) : ∀ j, DS.get (r.map keepD) j = keepD (r.get j) := by
  induction r with
  | nil => intro j; rfl
  | cons a r ih =>
    intro j
    cases j with
    | zero => rfl
    | succ j => exact ih j
theorem hideG_get : ∀ (i : Nat) (δ : DS) (j : Nat), DS.get (hideG i δ) j = if j = i then shOf (δ.get j) else keepD (δ.get j)
  | i, [], j => by
    have e : DS.get (hideG i []) j = none := by cases i <;> rfl
    rw [e]
    split <;> rfl
  | 0, s :: r, 0 => rfl
  | 0, s :: r, j + 1 => by
    rw [if_neg (by omega)]
    exact keep_get r j
  | i + 1, s :: r, 0 => rfl
  | i + 1, s :: r, j + 1 => by
    have := hideG_get i r j
    show DS.get (hideG i r) j = _
    rw [this]
    by_cases c : j = i
    · rw [if_pos c, if_pos (by omega)]; rfl
    · rw [if_neg c, if_neg (by omega)]; rfl
theorem rel_peek {K : PySem.W.Frag} {Γ : Ga} {hid : Hd} {σ : L2.St} {H : Hp} {δ : DS} {G : Hp} (R : Rel K Γ hid σ H δ G) (i : Nat) : ∃ Gf, Same G Gf ∧ Rel K ⟨H, Gf, []⟩ ⟨[], Gf⟩ σ H (hideG i δ) Gf := by
  have fin : ∀ Gf, Same G Gf → Same Gf H → (∀ s, shOf (δ.get i) = some s → ∃ d, s = .sh d ∧ ∃ v, σ[i]? = some (some v) ∧ Dt K Gf v d) → Rel K ⟨H, Gf, []⟩ ⟨[], Gf⟩ σ H (hideG i δ) Gf := by
    intro Gf s1 s2 hi
    have key : ∀ j s, DS.get (hideG i δ) j = some s → ∃ d, s = .sh d ∧ ∃ v, σ[j]? = some (some v) ∧ Dt K Gf v d := by
      intro j s e
      rw [hideG_get] at e
      by_cases c : j = i
      · subst c
        rw [if_pos rfl] at e
        exact hi s e
      · rw [if_neg c] at e
        cases q : δ.get j with
        | none => rw [q] at e; cases e
        | some s0 =>
          rw [q] at e
          cases s0 with
          | sh d =>
            cases e
            obtain ⟨v, h1, h2⟩ := R.sl j _ q
            exact ⟨d, rfl, v, h1, dp_mono s1 h2⟩
          | ow o => cases e
          | io o => cases e
    have own : ∀ j, ¬ Own (hideG i δ) j := fun j ⟨o, h⟩ => by
      rcases h with h | h
      · obtain ⟨d, e, _⟩ := key j _ h; cases e
      · obtain ⟨d, e, _⟩ := key j _ h; cases e
    refine ⟨s2, Same.refl _, fun _ _ => rfl, fun a o h _ => h, fun q hq => (by cases hq), by rw [hideG_len]; exact R.len, fun j s e => ?_, fun j k p hj => absurd hj (own j), fun q hq => (by cases hq), Same.refl _⟩
    obtain ⟨d, rfl, v, h1, h2⟩ := key j s e
    exact ⟨v, h1, h2⟩
  have lst : ∀ p vs ds, At σ i p → G p = none → H p = some (.lst vs) → Dts K G vs ds → (∀ s, shOf (δ.get i) = some s → s = .sh (.list ds)) → ∃ Gf, Same G Gf ∧ Rel K ⟨H, Gf, []⟩ ⟨[], Gf⟩ σ H (hideG i δ) Gf := by
    intro p vs ds a g hp hd hs
    have sG : Same G (upd G p (.lst vs)) := fun b u e => by rw [upd_ne (ne_of_none e g)]; exact e
    refine ⟨upd G p (.lst vs), sG, fin _ sG (fun b u e => ?_) fun s e => ?_⟩
    · by_cases c : b = p
      · rw [c, upd_same] at e; rw [c]; cases e; exact hp
      · rw [upd_ne c] at e; exact R.sub b u e
    · exact ⟨.list ds, hs s e, .ref p, a, .lst (.inl upd_same) (dpa_mono sG hd)⟩
  cases q : δ.get i with
  | none => exact ⟨G, Same.refl _, fin G (Same.refl _) R.sub fun s e => by rw [q] at e; cases e⟩
  | some s =>
    cases s with
    | sh d =>
      obtain ⟨v, h1, h2⟩ := R.sl i _ q
      exact ⟨G, Same.refl _, fin G (Same.refl _) R.sub fun s e => by rw [q] at e; cases e; exact ⟨d, rfl, v, h1, h2⟩⟩
    | ow o => cases o with | lst ds => obtain ⟨p, h1, h2, _, _, vs, h5, h6⟩ := R.sl i _ q; exact lst p vs ds h1 h2 h5 h6 fun s e => by rw [q] at e; cases e; rfl
    | io o => cases o with | lst ds => obtain ⟨p, h1, h2, _, _, vs, h5, h6⟩ := R.sl i _ q; exact lst p vs ds h1 h2 h5 h6 fun s e => by rw [q] at e; cases e; rfl
theorem peek_back {K : PySem.W.Frag} {Γ : Ga} {hid hid1 : Hd} {σ : L2.St} {H H1 : Hp} {δ δ1 : DS} {G G1 Gf : Hp} (R : Rel K Γ hid σ H δ G) (R1 : Rel K ⟨H, Gf, []⟩ hid1 σ H1 δ1 G1) : Rel K Γ hid σ H1 δ G := by
  have fr : ∀ a o, H a = some o → H1 a = some o := fun a o h => R1.fr a o h fun q hq => by cases hq
  exact R.grow ⟨fun a o _ h => fr a o h, fun a h => R1.here h, Same.refl _, fun a o h => fr a o (R.sub a o h), fun _ _ => rfl⟩
section
variable {X : Cx} {Γ : Ga} {W : WX} {a b c : Expr} {φa φb φc : RE} {pos p : Pos} {es : List Expr} {ρ : RA} {st : Stmt} {sts : List Stmt} {ψ ψ1 ψ2 : RB} {τ : RT}
/-- a look at slot i's list: a flat value, nothing else changes -/
def peekR (i : Nat) (φ : RE) : RE := fun δ _ P => φ (hideG i δ) E0K fun d _ => bifP (sclD d) (P d δ) False
theorem de_peek (i : Nat) (h : ∀ Γ, DE X Γ W0 a φa) : DE X Γ W a (peekR i φa) := by
  have run := fun Γ => (h Γ).run
  have mono := (h Γ).mono
  refine ⟨⟨fun pins s σ H Q I ⟨hid, δ, G, R, q⟩ => ?_⟩, fun δ E E' P P' _ hp q => mono _ _ _ _ _ (fun _ _ z => z) (fun d _ z => bif_mono (hp _ _) id z) q⟩
  obtain ⟨Gf, sG, R1⟩ := rel_peek R i
  refine (run ⟨H, Gf, []⟩).run pins s σ H Q I ⟨⟨[], Gf⟩, hideG i δ, Gf, R1, mono _ _ _ _ _ E0_up (fun d δ1 z v H' G' R2 s2 dv => ?_) q⟩
  cases e : sclD d with
  | false => rw [e] at z; exact z.elim
  | true =>
    rw [e] at z
    exact z v H' G (peek_back R R2) (Same.refl _) (scl_dt e dv)
def peekT (i : Nat) (τ : RT) : RT := fun δ _ P => τ (hideG i δ) E0K fun t _ => P t δ
theorem dt_peek (i : Nat) (h : ∀ Γ, DT X Γ W0 a τ) : DT X Γ W a (peekT i τ) := by
  have run := fun Γ => (h Γ).run
  have mono := (h Γ).mono
  refine ⟨⟨fun pins s σ H Q I ⟨hid, δ, G, R, q⟩ => ?_⟩, fun δ E E' P P' _ hp q => mono _ _ _ _ _ (fun _ _ z => z) (fun d _ z => hp _ _ z) q⟩
  obtain ⟨Gf, sG, R1⟩ := rel_peek R i
  exact (run ⟨H, Gf, []⟩).run pins s σ H Q I ⟨⟨[], Gf⟩, hideG i δ, Gf, R1, mono _ _ _ _ _ E0_up (fun t δ1 z H' G' R2 s2 => z H' G (peek_back R R2) (Same.refl _)) q⟩
/-- list(x) of an own list -/
def copyN (i : Nat) : RN := fun δ _ P => optK (ownL (δ.get i)) fun ds => P (.lst ds) δ
theorem dn_copy (i : Nat) {x : Str} {xp : Pos} (hm : X.mg "list" = none) (hx : PE X (.Name x xp) (tVar i)) (hg : Gl X "list" := by rfl) (he : starEach (.Name x xp :: []) X.env = (false, eval (.Name x xp) X.env) :: starEach [] X.env := by rfl) (hpl : (backTo pos (starEach [] X.env)).any (·.1) = false := by rfl) :
    DN X Γ W (.Call (.Name "list" p) [.Name x xp] [] pos) (copyN i) := by
  refine dn_mk (pe_callTy call_list_of hg hm (by decide +kernel) (pa_cons hx pa_nil he) (by decide) (by decide) he hpl) (fun _ _ _ _ _ he hp q => optK_mono (fun _ => hp _ _) q) fun σ H Q hid δ G R q => ?_
  obtain ⟨ds, e, q⟩ := optK_get q
  obtain ⟨p, vs, at1, h1, h2⟩ := own_rd R e
  exact ⟨.ref p, at1, p, vs, rfl, .inl (sql_of_rd h1), fun l nl => q l _ G (R.grow (Grow.newO (o := .lst vs) R.sub nl)) (Same.refl _) (.of R nl ⟨_, upd_same, h2⟩)⟩
/-! ### pins -/
def pinK (i : Nat) (P : Fw → DS → Prop) : Fw → DS → Prop := fun fl δ => match δ.get i with
  | some (.io o) => P fl (List.set δ i (some (.ow o)))
  | _ => False
def pinR (i : Nat) (ψ : RB) : RB := fun δ _ P => match δ.get i with
  | some (.ow o) => ψ (List.set δ i (some (.io o))) E0K (pinK i P)
  | _ => False
theorem pinK_mono {i : Nat} {P P' : Fw → DS → Prop} (hp : ∀ fl δ, P fl δ → P' fl δ) : ∀ fl δ, pinK i P fl δ → pinK i P' fl δ := fun fl δ q => by
  unfold pinK at q ⊢
  cases e : δ.get i with
  | none => rw [e] at q; exact q
  | some s => rw [e] at q; cases s <;> first | exact hp _ _ q | exact q
theorem rel_pin {K : PySem.W.Frag} {Γ : Ga} {hid : Hd} {σ : L2.St} {H : Hp} {δ : DS} {G : Hp} {i : Nat} {o : MO} {p : Addr} {u : HO} (R : Rel K Γ hid σ H δ G) (e : δ.get i = some (.ow o)) (a : At σ i p) (hu : H p = some u) :
    Rel K ⟨upd Γ.H0 p u, Γ.G0, (i, p) :: Γ.par⟩ hid σ H (List.set δ i (some (.io o))) G := by
  have hi := DS.get_lt e
  obtain ⟨p', a', hG, h0, hh, mo⟩ := R.sl i _ e
  cases a.inj a'
  have hG0 : Γ.G0 p = none := by
    cases q : Γ.G0 p with
    | none => rfl
    | some z => have := R.ext p z q; rw [hG] at this; cases this
  have gi : ∀ j, DS.get (List.set δ i (some (.io o))) j = if i = j then some (.io o) else δ.get j := fun j => by
    rw [DS.get_set]
    by_cases c : i = j
    · subst c; rw [if_pos ⟨rfl, hi⟩, if_pos rfl]
    · rw [if_neg (fun z => c z.1), if_neg c]
  have own : ∀ j, Own (List.set δ i (some (.io o))) j → Own δ j := fun j ⟨o2, h⟩ => by
    rw [gi] at h
    by_cases c : i = j
    · subst c; exact ⟨o, .inl e⟩
    · rw [if_neg c] at h; exact ⟨o2, h⟩
  refine ⟨R.sub, R.ext, fun b hb => ?_, fun b u2 h n => ?_, fun q hq => ?_, by rw [List.length_set]; exact R.len, fun j s es => ?_, fun j k r hj hk => R.dist j k r (own j hj) (own k hk), fun q hq => ?_, R.gb⟩
  · by_cases c : b = p
    · rw [c, hG, hG0]
    · have hb2 : upd Γ.H0 p u b ≠ none := hb
      rw [upd_ne c] at hb2; exact R.old b hb2
  · have h2 : upd Γ.H0 p u b = some u2 := h
    have c : b ≠ p := fun z => n (i, p) List.mem_cons_self z.symm
    rw [upd_ne c] at h2
    exact R.fr b u2 h2 fun q hq => n q (List.mem_cons_of_mem _ hq)
  · rcases List.mem_cons.mp hq with rfl | hq
    · exact ⟨a, (by show upd Γ.H0 p u p ≠ none; rw [upd_same]; exact fun z => (nomatch z)), o, by rw [gi, if_pos rfl]⟩
    · obtain ⟨h1, h2, o2, h3⟩ := R.prs q hq
      have c : i ≠ q.1 := fun z => by rw [← z, e] at h3; cases h3
      have c2 : q.2 ≠ p := fun z => by rw [z, h0] at h2; exact h2 rfl
      exact ⟨h1, by show upd Γ.H0 p u q.2 ≠ none; rw [upd_ne c2]; exact h2, o2, by rw [gi, if_neg c]; exact h3⟩
  · rw [gi] at es
    by_cases c : i = j
    · subst c
      rw [if_pos rfl] at es
      cases es
      exact ⟨p, a, hG, List.mem_cons_self, hh, mo⟩
    · rw [if_neg c] at es
      have z := R.sl j s es
      cases s with
      | sh d => exact z
      | ow o2 =>
        obtain ⟨r, h1, h2, h3, h4, h5⟩ := z
        have c2 : r ≠ p := fun z => c (R.dist i j p ⟨o, .inl e⟩ ⟨o2, .inl es⟩ a (z ▸ h1))
        exact ⟨r, h1, h2, by show upd Γ.H0 p u r = none; rw [upd_ne c2]; exact h3, h4, h5⟩
      | io o2 =>
        obtain ⟨r, h1, h2, h3, h4, h5⟩ := z
        exact ⟨r, h1, h2, List.mem_cons_of_mem _ h3, h4, h5⟩
  · obtain ⟨h1, h2, h3⟩ := R.hds q hq
    exact ⟨h1, h2, by show upd Γ.H0 p u q.1 = none; rw [upd_ne (hh q hq)]; exact h3⟩
theorem rel_unpin {K : PySem.W.Frag} {Γ : Ga} {hid : Hd} {σ σ1 : L2.St} {H H1 : Hp} {δ δ1 : DS} {G G1 : Hp} {i : Nat} {o o1 : MO} {p : Addr} {u : HO} (R : Rel K Γ hid σ H δ G) (e : δ.get i = some (.ow o)) (a : At σ i p)
    (R1 : Rel K ⟨upd Γ.H0 p u, Γ.G0, (i, p) :: Γ.par⟩ hid σ1 H1 δ1 G1) (e1 : δ1.get i = some (.io o1)) : Rel K Γ hid σ1 H1 (List.set δ1 i (some (.ow o1))) G1 := by
  have hi := DS.get_lt e1
  obtain ⟨p', a', hG, h0, hh, mo⟩ := R.sl i _ e
  cases a.inj a'
  have gi : ∀ j, DS.get (List.set δ1 i (some (.ow o1))) j = if i = j then some (.ow o1) else δ1.get j := fun j => by
    rw [DS.get_set]
    by_cases c : i = j
    · subst c; rw [if_pos ⟨rfl, hi⟩, if_pos rfl]
    · rw [if_neg (fun z => c z.1), if_neg c]
  have own : ∀ j, Own (List.set δ1 i (some (.ow o1))) j → Own δ1 j := fun j ⟨o2, h⟩ => by
    rw [gi] at h
    by_cases c : i = j
    · subst c; exact ⟨o1, .inr e1⟩
    · rw [if_neg c] at h; exact ⟨o2, h⟩
  have up : ∀ b, Γ.H0 b ≠ none → upd Γ.H0 p u b ≠ none := fun b hb => by
    by_cases c : b = p
    · rw [c, h0] at hb; exact absurd rfl hb
    · rw [upd_ne c]; exact hb
  have dn : ∀ b, upd Γ.H0 p u b = none → Γ.H0 b = none := fun b hb => by
    by_cases c : b = p
    · rw [c]; exact h0
    · rw [upd_ne c] at hb; exact hb
  have ap : At σ1 i p := (R1.prs (i, p) List.mem_cons_self).1
  refine ⟨R1.sub, R1.ext, fun b hb => R1.old b (up b hb), fun b u2 h n => ?_, fun q hq => ?_, by rw [List.length_set]; exact R1.len, fun j s es => ?_, fun j k r hj hk => R1.dist j k r (own j hj) (own k hk), fun q hq => ?_, R1.gb⟩
  · have c : b ≠ p := fun z => by rw [z, h0] at h; cases h
    refine R1.fr b u2 (by show upd Γ.H0 p u b = some u2; rw [upd_ne c]; exact h) fun q hq => ?_
    rcases List.mem_cons.mp hq with rfl | hq
    · exact fun z => c z.symm
    · exact n q hq
  · obtain ⟨h1, h2, o2, h3⟩ := R1.prs q (List.mem_cons_of_mem _ hq)
    obtain ⟨h4, h5, o3, h6⟩ := R.prs q hq
    have c : i ≠ q.1 := fun z => by rw [← z, e] at h6; cases h6
    exact ⟨h1, h5, o2, by rw [gi, if_neg c]; exact h3⟩
  · rw [gi] at es
    by_cases c : i = j
    · subst c
      rw [if_pos rfl] at es
      cases es
      obtain ⟨r, h1, h2, h3, h4, h5⟩ := R1.sl i _ e1
      cases h1.inj ap
      exact ⟨p, ap, h2, h0, h4, h5⟩
    · rw [if_neg c] at es
      have z := R1.sl j s es
      cases s with
      | sh d => exact z
      | ow o2 =>
        obtain ⟨r, h1, h2, h3, h4, h5⟩ := z
        exact ⟨r, h1, h2, dn r h3, h4, h5⟩
      | io o2 =>
        obtain ⟨r, h1, h2, h3, h4, h5⟩ := z
        refine ⟨r, h1, h2, ?_, h4, h5⟩
        rcases List.mem_cons.mp h3 with z | z
        · injection z with z1 z2; exact absurd z1.symm c
        · exact z
  · obtain ⟨h1, h2, h3⟩ := R1.hds q hq
    exact ⟨h1, h2, dn _ h3⟩
theorem dp_pin (i : Nat) (h : ∀ Γ, DP X Γ W0 st ψ) : DP X Γ W st (pinR i ψ) := by
  have run := fun Γ => (h Γ).run
  have mono := (h Γ).mono
  refine ⟨⟨fun pins s σ H Dn I ⟨hid, δ, G, R, q⟩ => ?_⟩, fun δ E E' P P' _ hp q => ?_⟩
  · unfold pinR at q
    cases e : δ.get i with
    | none => rw [e] at q; exact q.elim
    | some s0 =>
      rw [e] at q
      cases s0 with
      | sh d => exact q.elim
      | io o => exact q.elim
      | ow o =>
        obtain ⟨p, a, hG, h0, hh, mo⟩ := R.sl i _ e
        obtain ⟨u, hu⟩ : ∃ u, H p = some u := by cases o with | lst ds => obtain ⟨vs, h, _⟩ := mo; exact ⟨_, h⟩
        refine (run ⟨upd Γ.H0 p u, Γ.G0, (i, p) :: Γ.par⟩).run pins s σ H Dn I ⟨hid, _, G, rel_pin R e a hu, mono _ _ _ _ _ E0_up (fun fl δ1 z => ?_) q⟩
        unfold pinK at z
        cases e1 : δ1.get i with
        | none => rw [e1] at z; exact z.elim
        | some s1 =>
          rw [e1] at z
          cases s1 with
          | sh d => exact z.elim
          | ow o => exact z.elim
          | io o1 =>
            have back : ∀ {σ1 : L2.St} {H1 G1 : Hp}, Rel X.K ⟨upd Γ.H0 p u, Γ.G0, (i, p) :: Γ.par⟩ hid σ1 H1 δ1 G1 → Rel X.K Γ hid σ1 H1 (List.set δ1 i (some (.ow o1))) G1 := fun R1 => rel_unpin R e a R1 e1
            cases fl with
            | nx => exact fun σ1 H1 G1 R1 => z σ1 H1 G1 (back R1)
            | bk => exact fun σ1 H1 G1 R1 => z σ1 H1 G1 (back R1)
            | ct => exact fun σ1 H1 G1 R1 => z σ1 H1 G1 (back R1)
            | rt d => exact fun v σ1 H1 G1 R1 dv => z v σ1 H1 G1 (back R1) dv
            | rtO o2 =>
              refine fun r σ1 H1 G1 R1 n => z r σ1 H1 G1 (back R1) ⟨n.g, ?_, n.hd, fun j ⟨o3, hj⟩ aj => ?_, n.mo⟩
              · have hn : upd Γ.H0 p u r = none := n.h0
                by_cases c : r = p
                · rw [c]; exact h0
                · rw [upd_ne c] at hn; exact hn
              · refine n.ow j ?_ aj
                rw [DS.get_set] at hj
                by_cases c : i = j ∧ j < δ1.length
                · exact ⟨o1, .inr (c.1 ▸ e1)⟩
                · rw [if_neg c] at hj; exact ⟨o3, hj⟩
  · unfold pinR at q ⊢
    cases e : δ.get i with
    | none => rw [e] at q; exact q
    | some s0 =>
      rw [e] at q
      cases s0 with
      | ow o => exact mono _ _ _ _ _ (fun _ _ z => z) (pinK_mono hp) q
      | _ => exact q
/-! ### a loop over a pinned list -/
abbrev RIP := DS → KE → (List D → List D → DS → Prop) → Prop
structure ItP (K : PySem.W.Frag) (p : Addr) (L : List D) (G : Hp) (J : It) (ds : List D) : Prop where
  item : ∀ i d H G1 vs, Same G G1 → Same G1 H → H p = some (.lst vs) → Dts K G1 vs L → ds[i]? = some d → J.go i H ∧ ∀ x H', J.yld i H x H' → ∃ G2, Grow [] H G1 H' G2 ∧ Dt K G2 x d
  stop : ∀ H G1 vs, Same G G1 → Same G1 H → H p = some (.lst vs) → Dts K G1 vs L → J.stop ds.length H
def LIP (K : PySem.W.Frag) (Γ : Ga) (W : WX) (s : Nat) (φ : RIP) : TI := fun σ H R => ∃ hid δ G, Rel K Γ hid σ H δ G ∧ φ δ (EK K Γ W hid) fun L ds δ' => ∀ J H' G' p, (s, p) ∈ Γ.par → Rel K Γ hid σ H' δ' G' → Same G G' → ItP K p L G' J ds → R J H'
structure DIP (X : Cx) (Γ : Ga) (W : WX) (s : Nat) (tg iter : Expr) (φ : RIP) : Prop where
  run : PI X tg iter (LIP X.K Γ W s φ)
  mono : ∀ δ (E E' : KE) (P P' : List D → List D → DS → Prop), (∀ x δ, E x δ → E' x δ) → (∀ l ds δ, P l ds δ → P' l ds δ) → φ δ E P → φ δ E' P'
def ioO : Option Sl → Option (List D)
  | some (.io (.lst ds)) => some ds
  | _ => none
def forP (s : Nat) (L : List D) (γ : RG) (b : RB) (E : KE) (P : Fw → DS → Prop) : List D → DS → Prop
  | [], δ => ioO (δ.get s) = some L ∧ P .nx δ
  | d :: ds, δ => ioO (δ.get s) = some L ∧ γ d δ fun δ1 => b δ1 E (foK (forP s L γ b E P ds) P)
def forPR (s : Nat) (it : RIP) (γ : RG) (b : RB) : RB := fun δ E P => it δ E fun L ds δ1 => forP s L γ b E P ds δ1
theorem forP_mono {s : Nat} {L : List D} {tg : Expr} {vs : List Nat} {γ : RG} (hg : DG X Γ tg vs γ) (hb : Mono ψ) {E E' : KE} {P P' : Fw → DS → Prop} (he : ∀ x δ, E x δ → E' x δ) (hp : ∀ a δ, P a δ → P' a δ) : ∀ ds δ, forP s L γ ψ E P ds δ → forP s L γ ψ E' P' ds δ
  | [], δ, q => ⟨q.1, hp _ _ q.2⟩
  | d :: ds, δ, q => ⟨q.1, hg.mono _ _ _ _ (fun δ1 q1 => hb _ _ _ _ _ he (foK_mono (forP_mono hg hb he hp ds) hp) q1) q.2⟩
theorem io_at {K : PySem.W.Frag} {hid : Hd} {σ : L2.St} {H : Hp} {δ : DS} {G : Hp} {s : Nat} {L : List D} {p : Addr} (R : Rel K Γ hid σ H δ G) (hp : (s, p) ∈ Γ.par) (e : ioO (δ.get s) = some L) : ∃ vs, H p = some (.lst vs) ∧ Dts K G vs L := by
  cases q : δ.get s with
  | none => rw [q] at e; cases e
  | some s0 =>
    rw [q] at e
    cases s0 with
    | sh d => cases e
    | ow o => cases e
    | io o =>
      cases o with
      | lst ds =>
        cases e
        obtain ⟨r, h1, h2, h3, h4, vs, h5, h6⟩ := R.sl s _ q
        cases h1.inj (R.prs _ hp).1
        exact ⟨vs, h5, h6⟩
theorem dp_forP {s : Nat} {tg iter : Expr} {vs : List Nat} {γ : RG} {ι : RIP} (hp : PassesOwn (model X.prog X.w) X.A X.env X.xe) (hi : DIP X Γ W s tg iter ι) (hg : DG X Γ tg vs γ) (hb : DB X Γ W sts ψ) (hc : X.calm = true := by rfl)
    (hs : ∀ x, foldedSetIterable iter X.env x = pure x := by intro _; rfl) : DP X Γ W (.For tg iter sts [] pos) (forPR s ι γ ψ) := by
  refine dp_mk (ps_for hp hc hi.run hg.run hb.run hs) ?_ fun Dn σ H hid δ G R q => ?_
  · exact fun _ _ _ _ _ he hp q => hi.mono _ _ _ _ _ he (fun L ds δ1 q1 => forP_mono hg hb.mono he hp ds δ1 q1) q
  · refine ⟨hid, δ, G, R, hi.mono _ _ _ _ _ (fun _ _ z => z) (fun L ds δ1 q1 J H1 G1 p hpar R1 s1 it => ?_) q⟩
    have q1' := forP_mono hg hb.mono (EK_up (W := W) R1.gb) (KF_up (Dn := Dn) R1.gb) ds δ1 q1
    have R1' := R1.rebase
    refine ⟨fun i m σ H => ∃ δ G2, Rel X.K Γ ⟨hid.ls, G1⟩ σ H δ G2 ∧ m = ds.length - i ∧ i ≤ ds.length ∧ forP s L γ ψ (EK X.K Γ W ⟨hid.ls, G1⟩) (KF X.K Γ ⟨hid.ls, G1⟩ Dn) (ds.drop i) δ, ⟨_, δ1, G1, R1', rfl, Nat.zero_le _, q1'⟩, ?_⟩
    rintro i m σ2 H2 ⟨δ2, G2, R2, rfl, hle, q2⟩
    by_cases hlt : i < ds.length
    · have hd : ds[i]? = some ds[i] := List.getElem?_eq_getElem hlt
      rw [List.drop_eq_getElem_cons hlt] at q2
      obtain ⟨g0, q2⟩ := q2
      obtain ⟨vs0, c1, c2⟩ := io_at R2 hpar g0
      obtain ⟨go, yl⟩ := it.item i _ H2 G2 vs0 R2.gb R2.sub c1 c2 hd
      refine .inr ⟨go, fun σ H => ∃ δ G2, Rel X.K Γ ⟨hid.ls, G1⟩ σ H δ G2 ∧ forP s L γ ψ (EK X.K Γ W ⟨hid.ls, G1⟩) (KF X.K Γ ⟨hid.ls, G1⟩ Dn) (ds.drop (i + 1)) δ, fun σ' H' ⟨δ', G', R', q'⟩ => ⟨ds.length - (i + 1), by omega, δ', G', R', rfl, hlt, q'⟩, fun x H3 hy => ?_⟩
      obtain ⟨G3, g, dx⟩ := yl x H3 hy
      refine ⟨_, δ2, G3, ds[i], R2.grow g, dx, hg.mono _ _ _ _ (fun δ4 q4 σ4 R4 _ => ⟨_, δ4, G3, R4, hb.mono _ _ _ _ _ (fun _ _ z => z) (fun fl δ5 q5 => ?_) q4⟩) q2⟩
      cases fl with
      | nx => exact fun σ H G R => ⟨δ5, G, R, q5⟩
      | ct => exact fun σ H G R => ⟨δ5, G, R, q5⟩
      | bk => exact q5
      | rt d => exact q5
      | rtO d => exact q5
    · have e : i = ds.length := by omega
      subst e
      rw [List.drop_length] at q2
      obtain ⟨g0, q2⟩ := q2
      obtain ⟨vs0, c1, c2⟩ := io_at R2 hpar g0
      exact .inl ⟨it.stop H2 G2 vs0 R2.gb R2.sub c1 c2, q2 σ2 H2 G2 R2⟩
/-- zip(a, x), x pinned -/
def zipPI (s : Nat) (φ : RE) : RIP := fun δ E P => φ δ E fun d δ1 => match d with
  | .list ds => optK (ioO (δ1.get s)) fun L => P L (zipL ds L) δ1
  | _ => False
theorem dip_zip {elts : List Expr} {kk : Nat} {tpos : Pos} (s : Nat) {x : Str} {xp : Pos} (hm : X.mg "zip" = none) (ha : DE X Γ W a φa) (hx : PE X (.Name x xp) (tVar s)) (hg : Gl X "zip" := by rfl) (hs : starEach [a, .Name x xp] X.env = (false, eval a X.env) :: starEach [.Name x xp] X.env := by rfl)
    (hpl : (backTo pos (starEach [.Name x xp] X.env)).any (·.1) = false := by rfl) (hs2 : starEach (.Name x xp :: []) X.env = (false, eval (.Name x xp) X.env) :: starEach [] X.env := by rfl) :
    DIP X Γ W s (.Tuple elts kk tpos) (.Call (.Name "zip" p) [a, .Name x xp] [] pos) (zipPI s φa) := by
  refine ⟨PI.imp (pi_zip hg hm (pa_cons ha.run (pa_cons hx pa_nil hs2) hs) hs hpl) fun σ H Q ⟨hid, δ, G, R, q⟩ => ha.go R q fun d δ1 v H1 G1 q1 R1 s1 d1 => ?_, ?_⟩
  · cases d1 with
    | @lst a1 xs1 ds1 h hd =>
      obtain ⟨L, e, q1⟩ := optK_get q1
      have e0 : ∃ o, δ1.get s = some (.io o) := by
        cases z : δ1.get s with
        | none => rw [z] at e; cases e
        | some s0 => rw [z] at e; cases s0 <;> first | exact ⟨_, rfl⟩ | cases e
      obtain ⟨o, e0⟩ := e0
      obtain ⟨r, a1, _, hpar, _, _⟩ := R1.sl s _ e0
      obtain ⟨ws, c1, c2⟩ := io_at R1 hpar e
      refine ⟨.ref r, a1, _, _, _, _, rfl, sql_of_rd (Same.rd R1.sub h), .inl (.inl c1), q1 _ H1 G1 r hpar R1 s1 ⟨fun i d H3 G3 vs sG sH hp hv e => ?_, fun H3 G3 vs sG sH hp hv => ⟨_, _, sql_of_rd (Same.rd (sG.trans sH) h), .inl (.inl hp), ?_⟩⟩⟩
      · unfold zipL at e
        rw [List.getElem?_map] at e
        obtain ⟨pr, ep, ed⟩ := Option.map_eq_some_iff.mp e
        obtain ⟨e1, e2⟩ := List.getElem?_zip_eq_some.mp ep
        obtain ⟨x, ex, dx⟩ := dpa_get hd e1
        obtain ⟨y, ey, dy⟩ := dpa_get hv e2
        have hq := sql_of_rd (K := X.K) (Same.rd (sG.trans sH) h)
        have hq2 : SqL X.K H3 r vs := .inl (.inl hp)
        refine ⟨⟨_, _, x, y, hq, hq2, ex, ey⟩, fun z H4 ⟨T, x', y', ez, nT, e3, hx, hy⟩ => ?_⟩
        have := (hx _ hq).symm.trans ex
        cases this
        have := (hy _ hq2).symm.trans ey
        cases this
        have g := Grow.new (o := .tup [x, y]) sH nT
        refine ⟨_, by rw [e3]; exact g, ?_⟩
        rw [ez, ← ed]
        exact .tup (.of upd_same) (.cons (dp_mono (sG.trans g.data) dx) (.cons (dp_mono g.data dy) .nil))
      · unfold zipL
        rw [List.length_map, List.length_zip, dpa_length hd, dpa_length hv]
        omega
    | _ => exact q1.elim
  · intro δ E E' P P' he hp q
    refine ha.mono _ _ _ _ _ he (fun x δ1 q1 => ?_) q
    cases x <;> first | exact optK_mono (fun _ => hp _ _ _) q1 | exact q1
/-- for .. in x, x pinned -/
def lstPI (s : Nat) : RIP := fun δ _ P => optK (ioO (δ.get s)) fun L => P L L δ
theorem dip_list {tg : Expr} (s : Nat) {x : Str} {xp : Pos} (hx : PE X (.Name x xp) (tVar s)) : DIP X Γ W s tg (.Name x xp) (lstPI s) := by
  refine ⟨PI.imp (pi_list hx) fun σ H Q ⟨hid, δ, G, R, q⟩ => ?_, fun δ E E' P P' he hp q => optK_mono (fun _ => hp _ _ _) q⟩
  obtain ⟨L, e, q1⟩ := optK_get q
  have e0 : ∃ o, δ.get s = some (.io o) := by
    cases z : δ.get s with
    | none => rw [z] at e; cases e
    | some s0 => rw [z] at e; cases s0 <;> first | exact ⟨_, rfl⟩ | cases e
  obtain ⟨o, e0⟩ := e0
  obtain ⟨r, a1, _, hpar, _, _⟩ := R.sl s _ e0
  obtain ⟨ws, c1, c2⟩ := io_at R hpar e
  refine ⟨.ref r, a1, _, rfl, ⟨_, .inl (.inl c1)⟩, q1 _ H G r hpar R (Same.refl _) ⟨fun i d H3 G3 vs sG sH hp hv e => ?_, fun H3 G3 vs sG sH hp hv => ⟨_, .inl (.inl hp), by rw [dpa_length hv]; exact Nat.le_refl _⟩⟩⟩
  obtain ⟨x, ex, dx⟩ := dpa_get hv e
  have hq : SqL X.K H3 r vs := .inl (.inl hp)
  exact ⟨⟨_, x, hq, ex⟩, fun y H4 ⟨e3, hy⟩ => ⟨G3, by rw [e3]; exact .refl sH, by have := (hy _ hq).symm.trans ex; cases this; exact dx⟩⟩
end
end DL

/-! Methods of texts. -/
namespace DL
open PySem PySem.Spec PyProof.Rows L2
section
variable {X : Cx} {Γ : Ga} {W : WX} {a b c : Expr} {φa φb φc : RE} {pos p : Pos} {es : List Expr} {ρ : RA}
def partR (φ φ' : RE) : RE := fun δ E P => φ δ E fun x δ1 => match x with
  | .str u => φ' δ1 E fun y δ2 => match y with
    | .str v => ((v.length == 0) = false ∧ u.length ≤ sizeLine) ∧ P (.tuple [.str (Txt.partition u v).1, .str (Txt.partition u v).2.1, .str (Txt.partition u v).2.2]) δ2
    | _ => False
  | _ => False
theorem de_partition {apos : Pos} (ha : DE X Γ W a φa) (hb : DE X Γ W b φb) (hs : starEach [b] X.env = [(false, eval b X.env)] := by rfl) (hbase : attributeBase a "partition" X.env (eval a X.env) = eval a X.env := by rfl) (hline : (apos.endLine == pos.line) = true := by rfl) :
    DE X Γ W (.Call (.Attribute a "partition" apos) [b] [] pos) (partR φa φb) := by
  refine de_mk (pe_partition ha.run hb.run hs hbase hline) ?_ fun σ H Q hid δ G R q => ha.go R q fun d δ1 v H1 G1 q1 R1 s1 d1 => ?_
  · intro δ E E' P P' he hp q
    refine ha.mono _ _ _ _ _ he (fun x δ1 q1 => ?_) q
    cases x <;> first | exact q1.elim | skip
    refine hb.mono _ _ _ _ _ he (fun y δ2 q2 => ?_) q1
    cases y <;> first | exact q2.elim | exact ⟨q2.1, hp _ _ q2.2⟩
  · cases d1 with
    | str u =>
      refine ⟨⟨u, rfl⟩, hb.go R1 q1 fun e δ2 w H2 G2 q2 R2 s2 d2 => ?_⟩
      cases d2 with
      | str z =>
        obtain ⟨⟨h1, h2⟩, q3⟩ := q2
        refine ⟨u, z, rfl, rfl, h1, h2, fun r nr => ?_⟩
        have g := Grow.new (o := .tup [.str (Txt.partition u z).1, .str (Txt.partition u z).2.1, .str (Txt.partition u z).2.2]) R2.sub nr
        exact q3 _ _ _ (R2.grow g) ((s1.trans s2).trans g.data) (.tup (.of upd_same) (.cons (.str _) (.cons (.str _) (.cons (.str _) .nil))))
      | _ => exact q2.elim
    | _ => exact q1.elim
theorem strs_dt {K : PySem.W.Frag} {G : Hp} : ∀ ys : List Str, Dts K G (ys.map V.str) (ys.map PyData.str)
  | [] => .nil
  | y :: ys => .cons (.str y) (strs_dt ys)
/-- x.split(sep): a new list -/
def splitN (φ φ' : RE) : RN := fun δ E P => φ δ E fun x δ1 => match x with
  | .str u => φ' δ1 E fun y δ2 => match y with
    | .str v => ((v.length == 0) = false ∧ u.length + 2 ≤ sizeLine) ∧ P (.lst ((Txt.split u v).map PyData.str)) δ2
    | _ => False
  | _ => False
theorem dn_split {apos : Pos} (ha : DE X Γ W a φa) (hb : DE X Γ W b φb) (hs : starEach [b] X.env = [(false, eval b X.env)] := by rfl) (hbase : attributeBase a "split" X.env (eval a X.env) = eval a X.env := by rfl) (hline : (apos.endLine == pos.line) = true := by rfl) :
    DN X Γ W (.Call (.Attribute a "split" apos) [b] [] pos) (splitN φa φb) := by
  refine dn_mk (pe_split ha.run hb.run hs hbase hline) ?_ fun σ H Q hid δ G R q => ha.go R q fun d δ1 v H1 G1 q1 R1 s1 d1 => ?_
  · intro δ E E' P P' he hp q
    refine ha.mono _ _ _ _ _ he (fun x δ1 q1 => ?_) q
    cases x <;> first | exact q1.elim | skip
    refine hb.mono _ _ _ _ _ he (fun y δ2 q2 => ?_) q1
    cases y <;> first | exact q2.elim | exact ⟨q2.1, hp _ _ q2.2⟩
  · cases d1 with
    | str u =>
      refine ⟨⟨u, rfl⟩, hb.go R1 q1 fun e δ2 w H2 G2 q2 R2 s2 d2 => ?_⟩
      cases d2 with
      | str z =>
        obtain ⟨⟨h1, h2⟩, q3⟩ := q2
        refine ⟨u, z, rfl, rfl, h1, h2, fun r nr => ?_⟩
        exact q3 _ _ _ (R2.grow (Grow.newO (o := .lst ((Txt.split u z).map V.str)) R2.sub nr)) (s1.trans s2) (.of R2 nr ⟨_, upd_same, strs_dt _⟩)
      | _ => exact q2.elim
    | _ => exact q1.elim
/-- sep.join(a list of texts) -/
def strsD : List D → Option (List Str)
  | [] => some []
  | .str x :: r => (strsD r).map (x :: ·)
  | _ => none
theorem strs_V {K : PySem.W.Frag} {G : Hp} : ∀ {vs : List V} {ds : List D} {ys : List Str}, Dts K G vs ds → strsD ds = some ys → vs = ys.map V.str
  | _, _, _, .nil, e => by cases e; rfl
  | _, _, ys, .cons (ds := r) h t, e => by
    cases h with
    | str x =>
      have e2 : (strsD r).map (x :: ·) = some ys := e
      cases q : strsD r with
      | none => rw [q] at e2; cases e2
      | some zs => rw [q] at e2; cases e2; rw [strs_V t q]; rfl
    | _ => cases e
def joinR (φ φ' : RE) : RE := fun δ E P => φ δ E fun x δ1 => match x with
  | .str u => φ' δ1 E fun y δ2 => match y with
    | .list ds => optK (strsD ds) fun ys => (ys.map (·.length)).sum + ys.length * u.length ≤ 16777216 ∧ P (.str (Txt.join u ys)) δ2
    | _ => False
  | _ => False
theorem de_join {apos : Pos} (ha : DE X Γ W a φa) (hb : DE X Γ W b φb) (hs : starEach [b] X.env = [(false, eval b X.env)] := by rfl) (hbase : attributeBase a "join" X.env (eval a X.env) = eval a X.env := by rfl) (hline : (apos.endLine == pos.line) = true := by rfl) :
    DE X Γ W (.Call (.Attribute a "join" apos) [b] [] pos) (joinR φa φb) := by
  refine de_mk (pe_join ha.run hb.run hs hbase hline) ?_ fun σ H Q hid δ G R q => ha.go R q fun d δ1 v H1 G1 q1 R1 s1 d1 => ?_
  · intro δ E E' P P' he hp q
    refine ha.mono _ _ _ _ _ he (fun x δ1 q1 => ?_) q
    cases x <;> first | exact q1.elim | skip
    refine hb.mono _ _ _ _ _ he (fun y δ2 q2 => ?_) q1
    cases y <;> first | exact q2.elim | exact optK_mono (fun _ z => ⟨z.1, hp _ _ z.2⟩) q2
  · cases d1 with
    | str u =>
      refine ⟨⟨u, rfl⟩, hb.go R1 q1 fun e δ2 w H2 G2 q2 R2 s2 d2 => ?_⟩
      cases d2 with
      | @lst a2 xs2 ds2 h2 ha2 =>
        obtain ⟨ys, ey, h1, q3⟩ := optK_get q2
        have := strs_V ha2 ey
        subst this
        exact ⟨u, _, ys, rfl, rfl, .inl (sql_of_rd (Same.rd R2.sub h2)), h1, q3 _ H2 G2 R2 (s1.trans s2) (.str _)⟩
      | _ => exact q2.elim
    | _ => exact q1.elim
/-- tuple(x) of a list: a new tuple; of a tuple: itself -/
def tupleR (φ : RE) : RE := fun δ E P => φ δ E fun x δ1 => match x with
  | .list ds => P (.tuple ds) δ1
  | .tuple ds => P (.tuple ds) δ1
  | _ => False
theorem de_tupleOf (hm : X.mg "tuple" = none) (ha : DE X Γ W a φa) (hg : Gl X "tuple" := by rfl) (he : starEach (a :: []) X.env = (false, eval a X.env) :: starEach [] X.env := by rfl) (hpl : (backTo pos (starEach [] X.env)).any (·.1) = false := by rfl) :
    DE X Γ W (.Call (.Name "tuple" p) [a] [] pos) (tupleR φa) := by
  refine de_mk (pe_callTy call_tuple_of hg hm (by decide +kernel) (pa_cons ha.run pa_nil he) (by decide) (by decide) he hpl) ?_ fun σ H Q hid δ G R q => ?_
  · intro δ E E' P P' he hp q
    refine ha.mono _ _ _ _ _ he (fun x δ1 q1 => ?_) q
    cases x <;> first | exact hp _ _ q1 | exact q1
  · refine ha.go R q fun d δ1 v H1 G1 q1 R1 s1 d1 => ?_
    cases d1 with
    | @lst a1 xs1 ds1 h1 hd =>
      refine ⟨_, _, rfl, .inl ⟨sql_of_rd (Same.rd R1.sub h1), fun l nl => ?_⟩⟩
      have g := Grow.new (o := .tup xs1) R1.sub nl
      exact q1 _ _ _ (R1.grow g) (s1.trans g.data) (.tup (.of upd_same) (dpa_mono g.data hd))
    | @tup a1 xs1 ds1 h1 hd => exact ⟨_, _, rfl, .inr ⟨Same.seqT R1.sub h1, q1 _ H1 G1 R1 s1 (.tup h1 hd)⟩⟩
    | _ => exact q1.elim
end
end DL

/-! Pops, displays of dicts that are asked at once, sorted lists; defs that call themselves. -/
namespace DL
open PySem PySem.Spec PyProof.Rows L2
section
variable {K : PySem.W.Frag} {Γ : Ga} {hid : Hd} {σ σ' : L2.St} {H : Hp} {δ δ' : DS} {G : Hp}
/-- an object that is set aside: new, of no kind that slots hold -/
theorem Rel.pushN (R : Rel K Γ hid σ H δ G) {p : Addr} {u : HO} (np : H p = none) : Rel K Γ ⟨(p, u) :: hid.ls, hid.gb⟩ σ (upd H p u) δ G := by
  have R1 := R.grow (Grow.newO (o := u) R.sub np)
  have g : G p = none := by
    cases e : G p with
    | none => rfl
    | some u => have := R.sub p u e; rw [np] at this; cases this
  have h0 : Γ.H0 p = none := by
    cases e : Γ.H0 p with
    | none => rfl
    | some u => exact absurd np (R.here (by rw [e]; exact fun z => nomatch z))
  have ow : ∀ j, Own δ j → ¬ At σ j p := fun j ⟨o2, h⟩ a => by
    rcases h with h | h
    · obtain ⟨p', a', _, _, _, m⟩ := R.sl j _ h
      cases a.inj a'
      exact m.here np
    · obtain ⟨p', a', _, _, _, m⟩ := R.sl j _ h
      cases a.inj a'
      exact m.here np
  refine ⟨R1.sub, R1.ext, R1.old, R1.fr, R1.prs, R1.len, fun j s e => ?_, R1.dist, fun q hq => ?_, R1.gb⟩
  · have q := R1.sl j s e
    cases s with
    | sh d => exact q
    | ow o =>
      obtain ⟨r, h1, h2, h3, h4, h5⟩ := q
      refine ⟨r, h1, h2, h3, fun q hq => ?_, h5⟩
      rcases List.mem_cons.mp hq with z | z
      · subst z; exact fun z => ow j ⟨o, .inl e⟩ (by rw [show p = r from z]; exact h1)
      · exact h4 q z
    | io o =>
      obtain ⟨r, h1, h2, h3, h4, h5⟩ := q
      refine ⟨r, h1, h2, h3, fun q hq => ?_, h5⟩
      rcases List.mem_cons.mp hq with z | z
      · subst z; exact fun z => ow j ⟨o, .inr e⟩ (by rw [show p = r from z]; exact h1)
      · exact h4 q z
  · rcases List.mem_cons.mp hq with z | z
    · subst z; exact ⟨upd_same, g, h0⟩
    · exact R1.hds q z
theorem EK_push {W : WX} {p : Addr} {u : HO} {ls : List (Addr × HO)} {gb : Hp} : ∀ x δ, EK K Γ W ⟨ls, gb⟩ x δ → EK K Γ W ⟨(p, u) :: ls, gb⟩ x δ := fun x δ h cls d σ H G R ex => h cls d σ H G R.pop ex
end
section
variable {X : Cx} {Γ : Ga} {W : WX} {a b c : Expr} {φa φb φc : RE} {pos p : Pos} {es : List Expr} {ρ : RA}
/-! ### x.pop() -/
def popR (i : Nat) : RE := fun δ _ P => optK (ownO (δ.get i)) fun ds => ∃ r d, ds = r ++ [d] ∧ P d (putO δ i r)
theorem de_pop (i : Nat) {x : Str} {xp apos cpos : Pos} (pe : PE X (.Call (.Attribute (.Name x xp) "pop" apos) [] [] cpos) (tBM0 X.K "list" rPop (tVar i))) : DE X Γ W (.Call (.Attribute (.Name x xp) "pop" apos) [] [] cpos) (popR i) := by
  refine de_mk pe (fun _ _ _ _ _ he hp q => optK_mono (fun _ ⟨r, d, e, z⟩ => ⟨r, d, e, hp _ _ z⟩) q) fun σ H Q hid δ G R q => ?_
  obtain ⟨ds, e, r, d, rfl, q⟩ := optK_get q
  obtain ⟨p, vs, s, hs1, c, at1, hp, hd⟩ := own_at R e
  obtain ⟨v, ev, dv⟩ := dpa_get hd (show (r ++ [d])[(r ++ [d]).length - 1]? = some d by simp)
  refine ⟨.ref p, at1, .inl ⟨rfl, _, .inl (.inl hp)⟩, p, vs, v, rfl, rfl, hp, by rw [dpa_length hd]; exact ev, ?_⟩
  have hd2 := dpa_dropLast hd
  rw [List.dropLast_concat] at hd2
  exact q v _ G (own_put R e at1 hd2) (Same.refl _) dv
/-! ### {k: v, ..}[x] -/
/-- what a display's pairs hold: constants as keys -/
structure DPs (X : Cx) (Γ : Ga) (W : WX) (pos : Pos) (keys : List (Option Expr)) (values : List Expr) (ks : List Str) (φ : RA) : Prop where
  run : ∃ trs, PPs X pos keys values trs ∧ ∀ σ H Q hid δ G, Rel X.K Γ hid σ H δ G → φ δ (EK X.K Γ W hid) (fun ds δ' => ∀ vs H' G', Rel X.K Γ hid σ H' δ' G' → Same G G' → Dts X.K G' vs ds → Q (ks.zip vs |>.map fun q => (V.str q.1, q.2)) H') → tPairs trs σ H Q
  mono : Mono φ
  len : ∀ δ E P, φ δ E P → φ δ E fun ds δ' => ds.length = ks.length ∧ P ds δ'
theorem dps_nil : DPs X Γ W pos [] [] [] nilA := ⟨⟨[], pps_nil, fun σ H Q hid δ G R q => q [] H G R (Same.refl _) .nil⟩, fun _ _ _ _ _ _ hp q => hp _ _ q, fun _ _ _ q => ⟨rfl, q⟩⟩
theorem dps_cons {k : Str} {j kp} {keys : List (Option Expr)} {values : List Expr} {ks : List Str} (ha : DE X Γ W a φa) (hr : DPs X Γ W pos keys values ks ρ) : DPs X Γ W pos (some (.Constant (.str k) j kp) :: keys) (a :: values) (k :: ks) (consA φa ρ) := by
  obtain ⟨trs, h1, h2⟩ := hr.run
  refine ⟨⟨_, pps_cons pe_str ha.run h1, fun σ H Q hid δ G R q => ?_⟩, fun _ _ _ _ _ he hp q => ha.mono _ _ _ _ _ he (fun _ _ z => hr.mono _ _ _ _ _ he (fun _ _ z2 => hp _ _ z2) z) q,
    fun _ _ _ q => ha.mono _ _ _ _ _ (fun _ _ z => z) (fun d δ1 q1 => hr.mono _ _ _ _ _ (fun _ _ z => z) (fun ds δ2 q2 => ⟨congrArg (· + 1) q2.1, q2.2⟩) (hr.len _ _ _ q1)) q⟩
  refine ha.go R q fun d δ1 v H1 G1 q1 R1 s1 d1 => ?_
  refine h2 σ H1 _ hid δ1 G1 R1 (hr.mono _ _ _ _ _ (fun _ _ z => z) (fun ds δ2 q2 vs H2 G2 R2 s2 d2 => ?_) q1)
  exact q2 (v :: vs) H2 G2 R2 (s1.trans s2) (.cons (dp_mono s2 d1) d2)
/-- the last one of the pairs with this key -/
def dixL : List Str → List D → Str → Option D → Option D
  | k :: ks, d :: ds, z, o => dixL ks ds z (if z = k then some d else o)
  | _, _, _, o => o
theorem dix_V {K : PySem.W.Frag} {G : Hp} (z : Str) : ∀ {ks : List Str} {vs : List V} {ds : List D} {kvs : List (Key × V)} {o : Option D}, Dts K G vs ds → ks.length = ds.length → (∀ d, o = some d → ∃ v, valV kvs (Sum.inr z) = some v ∧ Dt K G v d) →
    ∀ d, dixL ks ds z o = some d → ∃ v, valV (mergeK kvs (ks.zip vs |>.map fun q => ((Sum.inr q.1 : Key), q.2))) (Sum.inr z) = some v ∧ Dt K G v d
  | [], _, _, kvs, o, .nil, _, ho, d, e => ho d e
  | k :: ks, _, _, kvs, o, .cons (v := v) (d := d0) hv hvs, hl, ho, d, e => by
    refine dix_V z (kvs := putK kvs (Sum.inr k) v) hvs (by simpa using hl) (fun d2 e2 => ?_) d e
    rw [valV_put]
    by_cases c : z = k
    · rw [if_pos c] at e2
      cases e2
      rw [if_pos (by rw [c])]
      exact ⟨v, rfl, hv⟩
    · rw [if_neg c] at e2
      rw [if_neg (fun z2 => c (by injection z2))]
      exact ho d2 e2
def dixR (ks : List Str) (ρ : RA) (φ : RE) : RE := fun δ E P => ρ δ E fun ds δ1 => φ δ1 E fun x δ2 => match x with
  | .str z => optK (dixL ks ds z none) fun d => P d δ2
  | _ => False
theorem de_dix {keys : List (Option Expr)} {values : List Expr} {ks : List Str} {dpos : Pos} (hu : X.A.units + 64 < cLine) (h : DPs X Γ W dpos keys values ks ρ) (hb : DE X Γ W b φb) (hs : NoSl b := by exact fun _ _ => rfl)
    (hall : keys.all (·.isSome) = true := by rfl) (hl : keys.length = values.length := by rfl) (h0 : keys ≠ [] := by exact fun z => nomatch z) (h15 : keys.length ≤ 15 := by decide) (hk : ks.length ≤ 15 := by decide) : DE X Γ W (.Subscript (.Dict keys values dpos) b pos) (dixR ks ρ φb) := by
  obtain ⟨trs, h1, h2⟩ := h.run
  refine de_mk (pe_dget (by omega) (pe_disp h1 hall hl h0 h15) hb.run hs) ?_ fun σ H Q hid δ G R q => ?_
  · intro δ E E' P P' he hp q
    refine h.mono _ _ _ _ _ he (fun ds δ1 q1 => hb.mono _ _ _ _ _ he (fun x δ2 q2 => ?_) q1) q
    cases x <;> first | exact optK_mono (fun _ z => hp _ _ z) q2 | exact q2
  · intro p np
    have R1 := R.pushN (u := .dK []) np
    obtain ⟨ls, gb⟩ := hid
    refine h2 σ _ _ _ δ G R1 (h.mono _ _ _ _ _ EK_push (fun ds δ1 q1 vs H2 G2 R2 s2 d2 => ?_) (h.len _ _ _ q))
    obtain ⟨l1, q1⟩ := q1
    have ne : ∀ q ∈ ls, q.1 ≠ p := fun q hq z => by
      have := (R.hds q hq).1
      rw [z, np] at this; cases this
    refine ⟨(R2.hds (p, .dK []) List.mem_cons_self).1, ks.zip vs |>.map fun q => ((Sum.inr q.1 : Key), q.2), ?_, ?_, ?_⟩
    · rw [List.map_map]; rfl
    · rw [List.length_map, List.length_zip]; omega
    · have R3 := R2.hset (u' := .dK (mergeK [] (ks.zip vs |>.map fun q => ((Sum.inr q.1 : Key), q.2)))) ne
      refine ⟨_, δ1, G2, R3, hb.mono _ _ _ _ _ EK_push (fun x δ2 q3 v H4 G4 R4 s4 d4 => ?_) q1⟩
      cases d4 with
      | str z =>
        obtain ⟨d, e, q4⟩ := optK_get q3
        obtain ⟨v, ev, dv⟩ := dix_V (kvs := []) z d2 l1.symm (fun d z => by cases z) d e
        have hp4 := (R4.hds (p, _) List.mem_cons_self).1
        have g := DGet.k (k := (Sum.inr z : Key)) hp4
        rw [ev] at g
        exact ⟨p, v, rfl, g, q4 v H4 G4 R4.pop (s2.trans s4) (dp_mono s4 dv)⟩
      | _ => exact q3.elim
/-! ### sorted(x) -/
def sortG : List D → (D → Prop) → Prop
  | [.list ds], P => (match intsD ds with
    | some ns => ∀ ns' : List Int, ns'.Perm ns → ns'.Pairwise (· ≤ ·) → P (.list (ns'.map PyData.int))
    | none => optK (strsD ds) fun ss => ss.length < 64 ∧ ∀ ys : List Str, ys.Perm ss → sortedS ys = true → P (.list (ys.map PyData.str)))
  | _, _ => False
def rSortA (K : PySem.W.Frag) : List V → Hp → VK → Prop := fun vs H Q => rSortedI K vs H Q ∨ rSortedS K vs H Q
theorem sort_s {K : PySem.W.Frag} : CalS K (rSortA K) sortG := by
  refine onelist (fun ds P => match intsD ds with
    | some ns => ∀ ns' : List Int, ns'.Perm ns → ns'.Pairwise (· ≤ ·) → P (.list (ns'.map PyData.int))
    | none => optK (strsD ds) fun ss => ss.length < 64 ∧ ∀ ys : List Str, ys.Perm ss → sortedS ys = true → P (.list (ys.map PyData.str))) (fun _ _ => rfl) (fun ds P n => ?_) (fun a xs ds H G P Q s hr ha q k => ?_) fun ds P P' hp q => ?_
  · unfold sortG; split <;> first | rfl | (exact absurd rfl (n _))
  · cases e : intsD ds with
    | some ns =>
      simp only [e] at q
      rw [ints_V ha e] at hr
      refine .inl ⟨a, ns, rfl, sql_of_rd (Same.rd s hr), fun ns' p h1 h2 np => ?_⟩
      have g := Grow.new (o := .lst (ns'.map V.int)) s np
      exact k _ _ _ _ (q ns' h1 h2) g (.lst (.inl upd_same) (dts_ints ns'))
    | none =>
      simp only [e] at q
      obtain ⟨ss, e2, l, q⟩ := optK_get q
      rw [strs_V ha e2] at hr
      refine .inr ⟨a, ss, rfl, sql_of_rd (Same.rd s hr), l, fun ys p h1 h2 np => ?_⟩
      have g := Grow.new (o := .lst (ys.map V.str)) s np
      exact k _ _ _ _ (q ys h1 h2) g (.lst (.inl upd_same) (strs_dt ys))
  · cases e : intsD ds with
    | some ns => simp only [e] at q ⊢; exact fun ns' h1 h2 => hp _ (q ns' h1 h2)
    | none => simp only [e] at q ⊢; exact optK_mono (fun ss z => ⟨z.1, fun ys h1 h2 => hp _ (z.2 ys h1 h2)⟩) q
theorem de_sorted (hm : X.mg "sorted" = none) (ha : DA X Γ W [a] ρ) (hg : Gl X "sorted" := by rfl) (he : starEach (a :: []) X.env = (false, eval a X.env) :: starEach [] X.env := by rfl) (hpl : (backTo pos (starEach [] X.env)).any (·.1) = false := by rfl) :
    DE X Γ W (.Call (.Name "sorted" p) [a] [] pos) (bR sortG ρ) := de_bltn (cr_sortedI.or cr_sortedS) sort_s hm (by decide +kernel) ha hg (pe_callB (cr_sortedI.or cr_sortedS) hg hm (by decide +kernel) ha.run (by decide) (by decide) he hpl)
end
/-! ### defs that call themselves: where nothing is promised -/
section
variable {P : Program} {w : World} {K : PySem.W.Frag} {mg : Str → Option Value} {base : Heap}
theorem calD_none {x : Str} {st : Stmt} {N ps : List Str} {k : Nat} {S : SP} (A : DefAt K mg x st ps) (sc : FnScope N ps (defScope st)) (mS : MonoS S) (no : ∀ ds E P, ¬ S ds E P) : CalD P w K mg base CX0 (k + 1) x ps S := by
  obtain ⟨f, fd, F, hm, hb⟩ := A.ex
  refine ⟨⟨f, fd, F.ok sc (fun vs H Q E h => ?_) (fun cdv A outer s H vs Q E hr h => ?_), hm, F.kp, hb, F.lk⟩, mS⟩
  · obtain ⟨G, ds, _, _, q⟩ := h
    exact absurd q (no _ _ _)
  · obtain ⟨G, ds, _, _, q⟩ := h
    exact absurd q (no _ _ _)
theorem calI_none {x : Str} {st : Stmt} {N ps : List Str} {k : Nat} {js : List Nat} {S : SPI} (A : DefAt K mg x st ps) (sc : FnScope N ps (defScope st)) (mS : MonoI S) (no : ∀ ds P, ¬ S ds P) : CalI P w K mg base CX0 (k + 1) x ps js S := by
  obtain ⟨f, fd, F, hm, hb⟩ := A.ex
  refine ⟨⟨f, fd, F.ok sc (fun vs H Q E h => ?_) (fun cdv A outer s H vs Q E hr h => ?_), hm, F.kp, hb⟩, mS⟩
  · obtain ⟨G, ds, par, _, _, _, _, q⟩ := h
    exact absurd q (no _ _)
  · obtain ⟨G, ds, par, _, _, _, _, q⟩ := h
    exact absurd q (no _ _)
theorem calN_none {x : Str} {st : Stmt} {N ps : List Str} {k : Nat} {S : SPN} (A : DefAt K mg x st ps) (sc : FnScope N ps (defScope st)) (mS : MonoN S) (no : ∀ ds P, ¬ S ds P) : CalN P w K mg base CX0 (k + 1) x ps S := by
  obtain ⟨f, fd, F, hm, hb⟩ := A.ex
  refine ⟨⟨f, fd, F.ok sc (fun vs H Q E h => ?_) (fun cdv A outer s H vs Q E hr h => ?_), hm, F.kp, hb⟩, mS⟩
  · obtain ⟨G, ds, _, _, q⟩ := h
    exact absurd q (no _ _)
  · obtain ⟨G, ds, _, _, q⟩ := h
    exact absurd q (no _ _)
end
end DL

/-! Fractions: as data, their sizes. -/
namespace DL
open PySem PySem.Spec PyProof.Rows L2
/-! ### sizes -/
def Bt (k : Nat) (x : Int) : Prop := x.natAbs < 2 ^ k
theorem Bt.mono {k l : Nat} {x : Int} (h : Bt k x) (hl : k ≤ l) : Bt l x := Nat.lt_of_lt_of_le h (Nat.pow_le_pow_right (by decide) hl)
theorem Bt.mul {k l : Nat} {x y : Int} (h : Bt k x) (h2 : Bt l y) : Bt (k + l) (x * y) := by
  unfold Bt
  rw [Int.natAbs_mul, Nat.pow_add]
  exact Nat.mul_lt_mul'' h h2
theorem Bt.add {k : Nat} {x y : Int} (h : Bt k x) (h2 : Bt k y) : Bt (k + 1) (x + y) := by
  unfold Bt at *
  have e : 2 ^ (k + 1) = 2 ^ k + 2 ^ k := by rw [Nat.pow_succ]; omega
  omega
theorem Bt.sub {k : Nat} {x y : Int} (h : Bt k x) (h2 : Bt k y) : Bt (k + 1) (x - y) := by
  unfold Bt at *
  have e : 2 ^ (k + 1) = 2 ^ k + 2 ^ k := by rw [Nat.pow_succ]; omega
  omega
theorem Bt.neg {k : Nat} {x : Int} (h : Bt k x) : Bt k (0 - x) := by
  unfold Bt at *
  omega
theorem Bt.le {k : Nat} {x y : Int} (h : Bt k y) (hl : x.natAbs ≤ y.natAbs) : Bt k x := Nat.lt_of_le_of_lt hl h
theorem bits_lt {x : Int} {k : Nat} (h : Bt k x) : Builtin.Int.intBits x ≤ k := by
  unfold Builtin.Int.intBits
  split
  · exact Nat.zero_le _
  · rename_i hz
    have h0 : x.natAbs ≠ 0 := by
      intro z
      have : x = 0 := by omega
      simp [this] at hz
    have := (Nat.log2_lt h0).mpr h
    omega
theorem Bt.cm {k l : Nat} {x y : Int} (h : Bt k x) (h2 : Bt l y) (hl : k + l ≤ 134217728) : CMulX x y := by
  unfold CMulX
  have h1 := bits_lt h
  have h3 := bits_lt h2
  omega
theorem Bt.cd {k : Nat} {x y : Int} (h : Bt k y) (hy : 0 < y) (hl : k ≤ 9000) : CDivW x y := by
  refine ⟨hy, ?_⟩
  have h0 : y.natAbs ≠ 0 := by omega
  exact (Nat.log2_lt h0).mpr (h.mono hl)
theorem Bt.of_lt {k : Nat} {x : Int} (h : -(2 ^ k : Int) < x) (h2 : x < (2 ^ k : Int)) : Bt k x := by
  unfold Bt
  have e : ((2 ^ k : Nat) : Int) = (2 ^ k : Int) := by simp
  omega
/-! ### fractions -/
def qD (q : Rat) : D := .tuple [.int q.num, .int q.den]
structure BQ (k : Nat) (q : Rat) : Prop where
  n : Bt k q.num
  d : Bt k (q.den : Int)
theorem BQ.mono {k l : Nat} {q : Rat} (h : BQ k q) (hl : k ≤ l) : BQ l q := ⟨h.n.mono hl, h.d.mono hl⟩
theorem den_pos (q : Rat) : (0 : Int) < q.den := by have := q.den_pos; omega
theorem qD_inj {p q : Rat} (h : qD p = qD q) : p = q := by
  unfold qD at h
  injection h with h
  injection h with h1 h2
  injection h1 with h1
  injection h2 with h2 _
  injection h2 with h2
  exact Rat.ext h1 (by omega)
/-- the numbers of n by d, in lowest terms -/
theorem divInt_num {n d : Int} (hd : 0 < d) : (Rat.divInt n d).num = n / ((Nat.gcd n.natAbs d.natAbs : Nat) : Int) ∧ ((Rat.divInt n d).den : Int) = d / ((Nat.gcd n.natAbs d.natAbs : Nat) : Int) := by
  rw [Rat.num_divInt, Rat.den_divInt, if_neg (by omega), Int.sign_eq_one_of_pos hd, Int.one_mul]
  have e : d.gcd n = Nat.gcd n.natAbs d.natAbs := by rw [Nat.gcd_comm]; rfl
  rw [e]
  refine ⟨rfl, ?_⟩
  rw [Int.natCast_ediv, Int.natAbs_of_nonneg (by omega)]
theorem divInt_neg2 (n d : Int) : Rat.divInt (0 - n) (0 - d) = Rat.divInt n d := by
  rw [Int.zero_sub, Int.zero_sub, Rat.neg_divInt_neg]
theorem natAbs_div_le (n : Int) (g : Nat) : (n / (g : Int)).natAbs ≤ n.natAbs := by
  by_cases hg : g = 0
  · subst hg; simp
  · have hg1 : (1 : Int) ≤ g := by omega
    have h1 := Int.ediv_mul_le n (show (g : Int) ≠ 0 by omega)
    have h2 := Int.lt_ediv_add_one_mul_self n (show (0 : Int) < g by omega)
    rcases Int.lt_or_le n 0 with hn | hn
    · have h3 : n / (g : Int) < 0 := Int.ediv_neg_of_neg_of_pos hn (by omega)
      have h4 : n ≤ n / (g : Int) := by
        rcases Int.lt_or_le (n / (g : Int)) n with h | h
        · exfalso
          have : (n / (g : Int) + 1) * g ≤ n * 1 := by
            have a1 : n / (g : Int) + 1 ≤ n := by omega
            have a2 : (n / (g : Int) + 1) * g ≤ (n / (g : Int) + 1) * 1 := Int.mul_le_mul_of_nonpos_left (by omega) hg1
            omega
          omega
        · exact h
      omega
    · have h3 : 0 ≤ n / (g : Int) := Int.ediv_nonneg hn (by omega)
      have h4 : n / (g : Int) ≤ n := Int.ediv_le_self _ hn
      omega
theorem BQ.divInt {k : Nat} {n d : Int} (hn : Bt k n) (hd : Bt k d) (h0 : d ≠ 0) : BQ k (Rat.divInt n d) := by
  rcases Int.lt_or_gt_of_ne h0 with h | h
  · rw [← divInt_neg2]
    obtain ⟨e1, e2⟩ := divInt_num (n := 0 - n) (d := 0 - d) (by omega)
    exact ⟨by rw [e1]; exact hn.neg.le (natAbs_div_le _ _), by rw [e2]; exact hd.neg.le (natAbs_div_le _ _)⟩
  · obtain ⟨e1, e2⟩ := divInt_num (n := n) (d := d) h
    exact ⟨by rw [e1]; exact hn.le (natAbs_div_le _ _), by rw [e2]; exact hd.le (natAbs_div_le _ _)⟩
theorem add_divInt (p q : Rat) : Rat.divInt (p.num * q.den + q.num * p.den) (p.den * q.den) = p + q := by
  have h := Rat.divInt_add_divInt p.num q.num (d₁ := p.den) (d₂ := q.den) (by have := den_pos p; omega) (by have := den_pos q; omega)
  rw [Rat.num_divInt_den, Rat.num_divInt_den] at h
  exact h.symm
theorem sub_divInt (p q : Rat) : Rat.divInt (p.num * q.den - q.num * p.den) (p.den * q.den) = p - q := by
  have h := add_divInt p (-q)
  rw [Rat.neg_num, Rat.neg_den] at h
  rw [Rat.sub_eq_add_neg, ← h]
  congr 1
  rw [Int.neg_mul]
  omega
theorem mul_divInt (p q : Rat) : Rat.divInt (p.num * q.num) (p.den * q.den) = p * q := by
  have h := Rat.divInt_mul_divInt p.num q.num (d₁ := p.den) (d₂ := q.den)
  rw [Rat.num_divInt_den, Rat.num_divInt_den] at h
  exact h.symm
theorem den_ne (q : Rat) : (q.den : Int) ≠ 0 := by have := den_pos q; omega
theorem den2_ne (p q : Rat) : (p.den : Int) * q.den ≠ 0 := Int.mul_ne_zero (den_ne p) (den_ne q)
theorem BQ.add {k : Nat} {p q : Rat} (hp : BQ k p) (hq : BQ k q) : BQ (k + k + 1) (p + q) := by
  rw [← add_divInt]
  exact BQ.divInt ((hp.n.mul hq.d).add (hq.n.mul hp.d)) ((hp.d.mul hq.d).mono (by omega)) (den2_ne p q)
theorem BQ.sub {k : Nat} {p q : Rat} (hp : BQ k p) (hq : BQ k q) : BQ (k + k + 1) (p - q) := by
  rw [← sub_divInt]
  exact BQ.divInt ((hp.n.mul hq.d).sub (hq.n.mul hp.d)) ((hp.d.mul hq.d).mono (by omega)) (den2_ne p q)
theorem BQ.mul {k l : Nat} {p q : Rat} (hp : BQ k p) (hq : BQ l q) : BQ (k + l) (p * q) := by
  rw [← mul_divInt]
  exact BQ.divInt (hp.n.mul hq.n) (hp.d.mul hq.d) (den2_ne p q)
theorem BQ.int {k : Nat} {i : Int} (h : Bt k i) (hk : 0 < k) : BQ k (i : Rat) :=
  ⟨by rw [Rat.num_intCast]; exact h, by rw [Rat.den_intCast]; show 1 < 2 ^ k; exact Nat.one_lt_two_pow (by omega)⟩
theorem qD_int (i : Int) : qD (i : Rat) = .tuple [.int i, .int 1] := by
  unfold qD
  rw [Rat.num_intCast, Rat.den_intCast]
  rfl
theorem lt_num (p q : Rat) : (p.num * q.den < q.num * p.den) ↔ p < q := (Rat.lt_iff p q).symm
end DL

/-! Loops, places, equal data. -/
namespace DL
open PySem PySem.Spec PyProof.Rows L2
theorem forK_ind {γ : RG} {b : RB} {E : KE} {P : Fw → DS → Prop} {I : List D → DS → Prop} (hend : ∀ δ, I [] δ → P .nx δ)
    (step : ∀ d rest δ, I (d :: rest) δ → (∀ δ2, I rest δ2 → forK γ b E P rest δ2) → γ d δ fun δ1 => b δ1 E (foK (forK γ b E P rest) P)) : ∀ ds δ, I ds δ → forK γ b E P ds δ
  | [], δ, h => hend δ h
  | d :: rest, δ, h => step d rest δ h fun δ2 h2 => forK_ind hend step rest δ2 h2
theorem lcK_ind {vs : List Nat} {γ : RG} {t : RT} {e : RE} {P : List D → DS → Prop} {I : List D → List D → DS → Prop} (hend : ∀ acc δ, I [] acc δ → P acc δ)
    (step : ∀ d rest acc δ, I (d :: rest) acc δ → (∀ acc2 δ2, I rest acc2 δ2 → lcK vs γ t e P rest acc2 δ2) →
      γ d δ fun δ1 => t δ1 E0K fun b δ2 => bifP b (e δ2 E0K fun y δ3 => ioG vs δ3 (lcK vs γ t e P rest (acc ++ [y]) (wipeD δ3 vs))) (ioG vs δ2 (lcK vs γ t e P rest acc (wipeD δ2 vs)))) : ∀ ds acc δ, I ds acc δ → lcK vs γ t e P ds acc δ
  | [], acc, δ, h => hend acc δ h
  | d :: rest, acc, δ, h => step d rest acc δ h fun acc2 δ2 h2 => lcK_ind hend step rest acc2 δ2 h2
/-! ### places -/
theorem atI_nn {α : Type} {xs : List α} {i : Int} (h0 : 0 ≤ i) (h1 : i < xs.length) : ∃ d, atI xs i = some d ∧ xs[i.toNat]? = some d ∧ d ∈ xs := by
  have hl : i.toNat < xs.length := by omega
  refine ⟨xs[i.toNat], ?_, List.getElem?_eq_getElem hl, List.getElem_mem hl⟩
  have := atI_nat (xs := xs) (j := i.toNat) (v := xs[i.toNat]) (List.getElem?_eq_getElem hl)
  rw [Int.toNat_of_nonneg h0] at this
  exact this
theorem atI_all {α : Type} {xs : List α} {i : Int} {F : α → Prop} (h0 : 0 ≤ i) (h1 : i < xs.length) (h : ∀ d ∈ xs, F d) : optK (atI xs i) F := by
  obtain ⟨d, e, _, m⟩ := atI_nn h0 h1
  exact optK_some e (h d m)
theorem atI_map {α β : Type} {f : α → β} {xs : List α} {j : Nat} {x : α} (h : xs[j]? = some x) : atI (xs.map f) (j : Int) = some (f x) := by
  apply atI_nat
  rw [List.getElem?_map, h]
  rfl
/-! ### equal data -/
theorem eqv_qD (p q : Rat) : PyData.eqv (qD p) (qD q) = decide (p = q) := by
  have e : PyData.eqv (qD p) (qD q) = ((p.num == q.num) && (((p.den : Int) == (q.den : Int)) && true)) := by simp only [qD, PyData.eqv, PyData.eqvAll]
  rw [e]
  by_cases h : p = q
  · subst h; simp
  · rw [decide_eq_false h]
    by_cases h1 : p.num = q.num
    · have h2 : p.den ≠ q.den := fun z => h (Rat.ext h1 z)
      simp [h1]
      omega
    · simp [h1]
theorem shaped_qD (q : Rat) : SeqAt.shaped (qD q) = true := rfl
theorem canLayAll_of {ds : List D} (h : ∀ d ∈ ds, PyData.canLay0 d = true) : PyData.canLayAll0 ds = true := by
  induction ds with
  | nil => rfl
  | cons d r ih =>
    show (PyData.canLay0 d && PyData.canLayAll0 r) = true
    rw [h d List.mem_cons_self, ih fun x hx => h x (List.mem_cons_of_mem _ hx)]
    rfl
theorem depthAll_of {ds : List D} {k : Nat} (h : ∀ d ∈ ds, PyData.depth d ≤ k) : PyData.depthAll ds ≤ k := by
  induction ds with
  | nil => exact Nat.zero_le _
  | cons d r ih =>
    have h1 := h d List.mem_cons_self
    have h2 := ih fun x hx => h x (List.mem_cons_of_mem _ hx)
    simp only [PyData.depthAll]
    omega
/-- a list of data of little depth -/
theorem shaped_list {ds : List D} (h1 : ∀ d ∈ ds, PyData.canLay0 d = true) (h2 : ∀ d ∈ ds, PyData.depth d ≤ 63) : SeqAt.shaped (.list ds) = true := by
  have h3 := depthAll_of h2
  have h4 := canLayAll_of h1
  show (PyData.canLay0 (.list ds) && decide (PyData.depth (.list ds) ≤ 64)) = true
  simp only [PyData.canLay0, PyData.depth, h4, Bool.true_and]
  exact decide_eq_true (by omega)
theorem shaped_tuple {ds : List D} (h1 : ∀ d ∈ ds, PyData.canLay0 d = true) (h2 : ∀ d ∈ ds, PyData.depth d ≤ 63) : SeqAt.shaped (.tuple ds) = true := by
  have h3 := depthAll_of h2
  have h4 := canLayAll_of h1
  show (PyData.canLay0 (.tuple ds) && decide (PyData.depth (.tuple ds) ≤ 64)) = true
  simp only [PyData.canLay0, PyData.depth, h4, Bool.true_and]
  exact decide_eq_true (by omega)
theorem shaped_parts {d : D} (h : SeqAt.shaped d = true) : PyData.canLay0 d = true ∧ PyData.depth d ≤ 64 := by
  obtain ⟨a, b⟩ := Bool.and_eq_true_iff.mp (show (PyData.canLay0 d && decide (PyData.depth d ≤ 64)) = true from h)
  exact ⟨a, of_decide_eq_true b⟩
theorem shaped_qs (qs : List Rat) : SeqAt.shaped (.list (qs.map qD)) = true := by
  refine shaped_list (fun d hd => ?_) (fun d hd => ?_)
  · obtain ⟨q, _, rfl⟩ := List.mem_map.mp hd; rfl
  · obtain ⟨q, _, rfl⟩ := List.mem_map.mp hd; exact (by decide : 1 ≤ 63)
def ptD (p : Int × Rat) : D := .tuple [.int p.1, qD p.2]
theorem shaped_pts (ps : List (Int × Rat)) : SeqAt.shaped (.list (ps.map ptD)) = true := by
  refine shaped_list (fun d hd => ?_) (fun d hd => ?_)
  · obtain ⟨q, _, rfl⟩ := List.mem_map.mp hd; rfl
  · obtain ⟨q, _, rfl⟩ := List.mem_map.mp hd; exact (by decide : 2 ≤ 63)
mutual
theorem eqv_self : ∀ d : D, PyData.canLay0 d = true → PyData.eqv d d = true
  | .none, _ => rfl
  | .bool b, _ => by simp [PyData.eqv]
  | .int i, _ => by simp [PyData.eqv]
  | .str x, _ => by simp [PyData.eqv]
  | .list xs, h => by simp only [PyData.eqv]; exact eqvAll_self xs h
  | .tuple xs, h => by simp only [PyData.eqv]; exact eqvAll_self xs h
  | .dict _, h => by simp [PyData.canLay0] at h
theorem eqvAll_self : ∀ ds : List D, PyData.canLayAll0 ds = true → PyData.eqvAll ds ds = true
  | [], _ => rfl
  | d :: r, h => by
    obtain ⟨a, b⟩ := Bool.and_eq_true_iff.mp (show (PyData.canLay0 d && PyData.canLayAll0 r) = true from h)
    simp only [PyData.eqvAll, eqv_self d a, eqvAll_self r b, Bool.and_self]
end
theorem anyEq_q (q : Rat) (qs : List Rat) : anyEq (qD q) (qs.map qD) = decide (q ∈ qs) := by
  unfold anyEq
  induction qs with
  | nil => simp
  | cons p r ih =>
    rw [List.map_cons, List.any_cons, ih, eqv_qD, Bool.eq_iff_iff]
    simp only [Bool.or_eq_true, decide_eq_true_eq, List.mem_cons]
    constructor
    · rintro (h | h)
      · exact .inl h.symm
      · exact .inr h
    · rintro (h | h)
      · exact .inl h.symm
      · exact .inr h
theorem decide_eq {p q : Prop} [Decidable p] [Decidable q] (h : p ↔ q) : decide p = decide q := decide_eq_decide.mpr h
end DL

/-! Loops by places. -/
namespace DL
open PySem PySem.Spec PyProof.Rows L2
theorem forK_nat {α : Type} {xs : List α} {g : α → D} {γ : RG} {b : RB} {E : KE} {P : Fw → DS → Prop} (I : Nat → DS → Prop) (hend : ∀ δ, I xs.length δ → P .nx δ)
    (step : ∀ k x δ, xs[k]? = some x → I k δ → ∀ F : DS → Prop, (∀ δ2, I (k + 1) δ2 → F δ2) → γ (g x) δ fun δ1 => b δ1 E (foK F P)) (δ : DS) (h : I 0 δ) : forK γ b E P (xs.map g) δ := by
  have key : ∀ (rest : List α) (k : Nat) (δ : DS), rest = xs.drop k → I k δ → k + rest.length = xs.length → forK γ b E P (rest.map g) δ := by
    intro rest
    induction rest with
    | nil =>
      intro k δ e h hk
      have : k = xs.length := by simpa using hk
      subst this
      exact hend δ h
    | cons x r ih =>
      intro k δ e h hk
      have ex : xs[k]? = some x := by rw [← List.head?_drop, ← e]; rfl
      refine step k x δ ex h _ fun δ2 h2 => ih (k + 1) δ2 ?_ h2 ?_
      · rw [← List.drop_drop, ← e]; rfl
      · rw [List.length_cons] at hk; omega
  exact key xs 0 δ (by rw [List.drop_zero]) h (by omega)
theorem lcK_fm {α : Type} {xs : List α} {g : α → D} {vs : List Nat} {γ : RG} {t : RT} {e : RE} {P : List D → DS → Prop} {δ0 : DS} (f : α → Option D)
    (step : ∀ x, x ∈ xs → ∀ (acc : List D) (F : List D → DS → Prop), F (acc ++ (f x).toList) δ0 →
      γ (g x) δ0 fun δ1 => t δ1 E0K fun b δ2 => bifP b (e δ2 E0K fun y δ3 => ioG vs δ3 (F (acc ++ [y]) (wipeD δ3 vs))) (ioG vs δ2 (F acc (wipeD δ2 vs)))) (h : P (xs.filterMap f) δ0) : lcK vs γ t e P (xs.map g) [] δ0 := by
  have key : ∀ (rest : List α) (acc : List D), (∀ x ∈ rest, x ∈ xs) → P (acc ++ rest.filterMap f) δ0 → lcK vs γ t e P (rest.map g) acc δ0 := by
    intro rest
    induction rest with
    | nil =>
      intro acc _ h
      rw [List.filterMap_nil, List.append_nil] at h
      exact h
    | cons x r ih =>
      intro acc hm h
      refine step x (hm x List.mem_cons_self) acc (lcK vs γ t e P (r.map g)) (ih _ (fun y hy => hm y (List.mem_cons_of_mem _ hy)) ?_)
      rw [List.append_assoc]
      have e2 : (f x).toList ++ r.filterMap f = (x :: r).filterMap f := by
        rw [List.filterMap_cons]
        cases f x <;> rfl
      rw [e2]
      exact h
  exact key xs [] (fun _ h => h) h
theorem enumL_map {α : Type} (xs : List α) (g : α → D) : enumL (xs.map g) = (xs.zipIdx).map fun p => PyData.tuple [.int (p.2 : Nat), g p.1] := by
  unfold enumL
  rw [List.zipIdx_map, List.map_map]
  rfl
theorem zipIdx_get {α : Type} {xs : List α} {k : Nat} {p : α × Nat} (h : xs.zipIdx[k]? = some p) : xs[k]? = some p.1 ∧ p.2 = k := by
  rw [List.getElem?_zipIdx] at h
  cases e : xs[k]? with
  | none => rw [e] at h; cases h
  | some a => rw [e] at h; cases h; exact ⟨rfl, by simp⟩
theorem range_get {n k x : Nat} (h : (List.range n)[k]? = some x) : x = k ∧ k < n := by
  obtain ⟨hl, e⟩ := List.getElem?_eq_some_iff.mp h
  rw [List.length_range] at hl
  rw [List.getElem_range] at e
  exact ⟨e.symm, hl⟩
theorem get_lt {α : Type} {xs : List α} {k : Nat} {x : α} (h : xs[k]? = some x) : k < xs.length := (List.getElem?_eq_some_iff.mp h).1
theorem get_mem {α : Type} {xs : List α} {k : Nat} {x : α} (h : xs[k]? = some x) : x ∈ xs := List.mem_of_getElem? h
theorem mem_get {α : Type} {xs : List α} {x : α} (h : x ∈ xs) : ∃ k : Nat, xs[k]? = some x := List.getElem?_of_mem h
theorem filterMap_some {α β : Type} (f : α → β) (xs : List α) : xs.filterMap (fun x => some (f x)) = xs.map f := by
  induction xs with
  | nil => rfl
  | cons x r ih => rw [List.filterMap_cons, ih]; rfl
theorem filterMap_if {α β : Type} (f : α → β) (p : α → Bool) (xs : List α) : xs.filterMap (fun x => bif p x then some (f x) else none) = (xs.filter p).map f := by
  induction xs with
  | nil => rfl
  | cons x r ih =>
    rw [List.filterMap_cons, List.filter_cons, ih]
    cases p x <;> rfl
end DL
namespace DL
open PySem PySem.Spec PyProof.Rows L2
instance (k : Nat) (x : Int) : Decidable (Bt k x) := inferInstanceAs (Decidable (_ < _))
instance (x y : Int) : Decidable (CMulX x y) := inferInstanceAs (Decidable (_ ≤ _))
theorem setK_of {o : Option Sl} {i : Nat} {s : Sl} {δ : DS} {P : DS → Prop} (h : notIo o = true) (q : P (List.set δ i (some s))) : setK o i s δ P := by
  cases o with
  | none => exact q
  | some s => cases s <;> first | exact q | cases h
theorem eqv_int (a b : Int) : PyData.eqv (.int a) (.int b) = decide (a = b) := by
  simp only [PyData.eqv]
  rw [Bool.eq_iff_iff]
  simp
theorem bif_eqi {a b : Int} {A B : Prop} (h1 : a = b → A) (h2 : a ≠ b → B) : bifP (PyData.eqv (.int a) (.int b)) A B := by
  rw [eqv_int]
  exact bif_dec h1 h2
theorem bif_nei {a b : Int} {A B : Prop} (h1 : a ≠ b → A) (h2 : a = b → B) : bifP (!PyData.eqv (.int a) (.int b)) A B := by
  rw [eqv_int]
  by_cases h : a = b
  · rw [decide_eq_true h]; exact h2 h
  · rw [decide_eq_false h]; exact h1 h
theorem lcK_none {α : Type} {xs : List α} {g : α → D} {vs : List Nat} {γ : RG} {t : RT} {e : RE} {P : List D → DS → Prop} {δ0 : DS}
    (step : ∀ x, x ∈ xs → ∀ (acc : List D) (F : List D → DS → Prop), F acc δ0 →
      γ (g x) δ0 fun δ1 => t δ1 E0K fun b δ2 => bifP b (e δ2 E0K fun y δ3 => ioG vs δ3 (F (acc ++ [y]) (wipeD δ3 vs))) (ioG vs δ2 (F acc (wipeD δ2 vs)))) (h : P [] δ0) : lcK vs γ t e P (xs.map g) [] δ0 := by
  refine lcK_fm (fun _ => none) (fun x hx acc F hF => step x hx acc F (by simpa using hF)) ?_
  have e : xs.filterMap (fun _ => (none : Option D)) = [] := by simp
  rw [e]
  exact h
theorem lcK_all {α : Type} {xs : List α} {g : α → D} {vs : List Nat} {γ : RG} {t : RT} {e : RE} {P : List D → DS → Prop} {δ0 : DS} (f : α → D)
    (step : ∀ x, x ∈ xs → ∀ (acc : List D) (F : List D → DS → Prop), F (acc ++ [f x]) δ0 →
      γ (g x) δ0 fun δ1 => t δ1 E0K fun b δ2 => bifP b (e δ2 E0K fun y δ3 => ioG vs δ3 (F (acc ++ [y]) (wipeD δ3 vs))) (ioG vs δ2 (F acc (wipeD δ2 vs)))) (h : P (xs.map f) δ0) : lcK vs γ t e P (xs.map g) [] δ0 := by
  refine lcK_fm (fun x => some (f x)) (fun x hx acc F hF => step x hx acc F hF) ?_
  rw [filterMap_some]
  exact h
theorem take_succ_of {α : Type} {xs : List α} {k : Nat} {x : α} (h : xs[k]? = some x) : xs.take (k + 1) = xs.take k ++ [x] := by
  rw [List.take_succ, h]
  rfl
theorem gcd_step {a b : Nat} : Nat.gcd (b % a) a = Nat.gcd a b := (Nat.gcd_rec a b).symm
theorem absI_abs (n : Int) : absI n = (n.natAbs : Int) := by unfold absI; split <;> omega
theorem nameG_of {i : Nat} {d : D} {δ : DS} {P : DS → Prop} (h : notIo (DS.get δ i) = true) (q : P (List.set δ i (some (.sh d)))) : nameG i d δ P := setK_of h q
theorem consG_of {γ : RG} {γs : RGs} {d : D} {r : List D} {δ : DS} {P : DS → Prop} (h : γ d δ fun δ1 => γs r δ1 P) : consG γ γs (d :: r) δ P := h
theorem tupG_of {n : Nat} {γs : RGs} {ds : List D} {δ : DS} {P : DS → Prop} (e : ds.length = n) (h : γs ds δ P) : tupG n γs (.tuple ds) δ P := ⟨e, h⟩
theorem cutR {ψ1 ψ2 : RB} {δ : DS} {E : KE} {P : Fw → DS → Prop} (C : DS → Prop) (h1 : ∀ P' : Fw → DS → Prop, (∀ δ1, C δ1 → P' .nx δ1) → ψ1 δ E P') (h2 : ∀ δ1, C δ1 → ψ2 δ1 E P) : seqR ψ1 ψ2 δ E P := h1 (seqK ψ2 E P) h2
theorem cutK {ψ1 ψ2 : RB} {δ : DS} {E : KE} {P : Fw → DS → Prop} (C : DS → Prop) (h1 : ∀ P' : Fw → DS → Prop, (∀ δ1, C δ1 → P' .nx δ1) → ψ1 δ E P') (h2 : ∀ δ1, C δ1 → ψ2 δ1 E P) : seqK (seqR ψ1 ψ2) E P .nx δ := h1 (seqK ψ2 E P) h2
end DL

/-! Loops over pinned lists, by places. -/
namespace DL
open PySem PySem.Spec PyProof.Rows L2
theorem forP_nat {α : Type} {s : Nat} {L : List D} {xs : List α} {g : α → D} {γ : RG} {b : RB} {E : KE} {P : Fw → DS → Prop} (I : Nat → DS → Prop) (hio : ∀ k δ, I k δ → ioO (δ.get s) = some L) (hend : ∀ δ, I xs.length δ → P .nx δ)
    (step : ∀ k x δ, xs[k]? = some x → I k δ → ∀ F : DS → Prop, (∀ δ2, I (k + 1) δ2 → F δ2) → γ (g x) δ fun δ1 => b δ1 E (foK F P)) (δ : DS) (h : I 0 δ) : forP s L γ b E P (xs.map g) δ := by
  have key : ∀ (rest : List α) (k : Nat) (δ : DS), rest = xs.drop k → I k δ → k + rest.length = xs.length → forP s L γ b E P (rest.map g) δ := by
    intro rest
    induction rest with
    | nil =>
      intro k δ e h hk
      have : k = xs.length := by simpa using hk
      subst this
      exact ⟨hio _ _ h, hend δ h⟩
    | cons x r ih =>
      intro k δ e h hk
      have ex : xs[k]? = some x := by rw [← List.head?_drop, ← e]; rfl
      refine ⟨hio _ _ h, step k x δ ex h _ fun δ2 h2 => ih (k + 1) δ2 ?_ h2 ?_⟩
      · rw [← List.drop_drop, ← e]; rfl
      · rw [List.length_cons] at hk; omega
  exact key xs 0 δ (by rw [List.drop_zero]) h (by omega)
theorem nilG_of {δ : DS} {P : DS → Prop} (h : P δ) : nilG [] δ P := h
theorem unassoc2 {ψ1 ψ2 φ : RB} {δ : DS} {E : KE} {P : Fw → DS → Prop} (h : (seqR ψ1 ψ2) δ E (seqK φ E P)) : (seqR ψ1 (seqR ψ2 φ)) δ E P := by
  have e : seqK ψ2 E (seqK φ E P) = seqK (seqR ψ2 φ) E P := by
    funext fl δ
    cases fl <;> first | rfl | (exact propext ⟨fun h => h, fun h => h⟩)
  show ψ1 δ E (seqK (seqR ψ2 φ) E P)
  rw [← e]
  exact h
theorem reassoc2 {ψ1 ψ2 φ : RB} {δ : DS} {E : KE} {P : Fw → DS → Prop} (h : (seqR ψ1 (seqR ψ2 φ)) δ E P) : (seqR ψ1 ψ2) δ E (seqK φ E P) := by
  have e : seqK ψ2 E (seqK φ E P) = seqK (seqR ψ2 φ) E P := by
    funext fl δ
    cases fl <;> first | rfl | (exact propext ⟨fun h => h, fun h => h⟩)
  show ψ1 δ E (seqK ψ2 E (seqK φ E P))
  rw [e]
  exact h
theorem unassoc3 {ψ1 ψ2 ψ3 φ : RB} {δ : DS} {E : KE} {P : Fw → DS → Prop} (h : (seqR ψ1 (seqR ψ2 ψ3)) δ E (seqK φ E P)) : (seqR ψ1 (seqR ψ2 (seqR ψ3 φ))) δ E P := by
  have e : seqK (seqR ψ2 ψ3) E (seqK φ E P) = seqK (seqR ψ2 (seqR ψ3 φ)) E P := by
    funext fl δ
    cases fl <;> first | rfl | (exact propext ⟨fun h => unassoc2 h, fun h => reassoc2 h⟩)
  show ψ1 δ E (seqK (seqR ψ2 (seqR ψ3 φ)) E P)
  rw [← e]
  exact h
theorem reassoc3 {ψ1 ψ2 ψ3 φ : RB} {δ : DS} {E : KE} {P : Fw → DS → Prop} (h : (seqR ψ1 (seqR ψ2 (seqR ψ3 φ))) δ E P) : (seqR ψ1 (seqR ψ2 ψ3)) δ E (seqK φ E P) := by
  have e : seqK (seqR ψ2 ψ3) E (seqK φ E P) = seqK (seqR ψ2 (seqR ψ3 φ)) E P := by
    funext fl δ
    cases fl <;> first | rfl | (exact propext ⟨fun h => unassoc2 h, fun h => reassoc2 h⟩)
  show ψ1 δ E (seqK (seqR ψ2 ψ3) E (seqK φ E P))
  rw [e]
  exact h
theorem unassoc4 {ψ1 ψ2 ψ3 ψ4 φ : RB} {δ : DS} {E : KE} {P : Fw → DS → Prop} (h : (seqR ψ1 (seqR ψ2 (seqR ψ3 ψ4))) δ E (seqK φ E P)) : (seqR ψ1 (seqR ψ2 (seqR ψ3 (seqR ψ4 φ)))) δ E P := by
  have e : seqK (seqR ψ2 (seqR ψ3 ψ4)) E (seqK φ E P) = seqK (seqR ψ2 (seqR ψ3 (seqR ψ4 φ))) E P := by
    funext fl δ
    cases fl <;> first | rfl | (exact propext ⟨fun h => unassoc3 h, fun h => reassoc3 h⟩)
  show ψ1 δ E (seqK (seqR ψ2 (seqR ψ3 (seqR ψ4 φ))) E P)
  rw [← e]
  exact h
theorem reassoc4 {ψ1 ψ2 ψ3 ψ4 φ : RB} {δ : DS} {E : KE} {P : Fw → DS → Prop} (h : (seqR ψ1 (seqR ψ2 (seqR ψ3 (seqR ψ4 φ)))) δ E P) : (seqR ψ1 (seqR ψ2 (seqR ψ3 ψ4))) δ E (seqK φ E P) := by
  have e : seqK (seqR ψ2 (seqR ψ3 ψ4)) E (seqK φ E P) = seqK (seqR ψ2 (seqR ψ3 (seqR ψ4 φ))) E P := by
    funext fl δ
    cases fl <;> first | rfl | (exact propext ⟨fun h => unassoc3 h, fun h => reassoc3 h⟩)
  show ψ1 δ E (seqK (seqR ψ2 (seqR ψ3 ψ4)) E (seqK φ E P))
  rw [e]
  exact h
theorem unassoc5 {ψ1 ψ2 ψ3 ψ4 ψ5 φ : RB} {δ : DS} {E : KE} {P : Fw → DS → Prop} (h : (seqR ψ1 (seqR ψ2 (seqR ψ3 (seqR ψ4 ψ5)))) δ E (seqK φ E P)) : (seqR ψ1 (seqR ψ2 (seqR ψ3 (seqR ψ4 (seqR ψ5 φ))))) δ E P := by
  have e : seqK (seqR ψ2 (seqR ψ3 (seqR ψ4 ψ5))) E (seqK φ E P) = seqK (seqR ψ2 (seqR ψ3 (seqR ψ4 (seqR ψ5 φ)))) E P := by
    funext fl δ
    cases fl <;> first | rfl | (exact propext ⟨fun h => unassoc4 h, fun h => reassoc4 h⟩)
  show ψ1 δ E (seqK (seqR ψ2 (seqR ψ3 (seqR ψ4 (seqR ψ5 φ)))) E P)
  rw [← e]
  exact h
theorem reassoc5 {ψ1 ψ2 ψ3 ψ4 ψ5 φ : RB} {δ : DS} {E : KE} {P : Fw → DS → Prop} (h : (seqR ψ1 (seqR ψ2 (seqR ψ3 (seqR ψ4 (seqR ψ5 φ))))) δ E P) : (seqR ψ1 (seqR ψ2 (seqR ψ3 (seqR ψ4 ψ5)))) δ E (seqK φ E P) := by
  have e : seqK (seqR ψ2 (seqR ψ3 (seqR ψ4 ψ5))) E (seqK φ E P) = seqK (seqR ψ2 (seqR ψ3 (seqR ψ4 (seqR ψ5 φ)))) E P := by
    funext fl δ
    cases fl <;> first | rfl | (exact propext ⟨fun h => unassoc4 h, fun h => reassoc4 h⟩)
  show ψ1 δ E (seqK (seqR ψ2 (seqR ψ3 (seqR ψ4 ψ5))) E (seqK φ E P))
  rw [e]
  exact h
theorem unassoc6 {ψ1 ψ2 ψ3 ψ4 ψ5 ψ6 φ : RB} {δ : DS} {E : KE} {P : Fw → DS → Prop} (h : (seqR ψ1 (seqR ψ2 (seqR ψ3 (seqR ψ4 (seqR ψ5 ψ6))))) δ E (seqK φ E P)) : (seqR ψ1 (seqR ψ2 (seqR ψ3 (seqR ψ4 (seqR ψ5 (seqR ψ6 φ)))))) δ E P := by
  have e : seqK (seqR ψ2 (seqR ψ3 (seqR ψ4 (seqR ψ5 ψ6)))) E (seqK φ E P) = seqK (seqR ψ2 (seqR ψ3 (seqR ψ4 (seqR ψ5 (seqR ψ6 φ))))) E P := by
    funext fl δ
    cases fl <;> first | rfl | (exact propext ⟨fun h => unassoc5 h, fun h => reassoc5 h⟩)
  show ψ1 δ E (seqK (seqR ψ2 (seqR ψ3 (seqR ψ4 (seqR ψ5 (seqR ψ6 φ))))) E P)
  rw [← e]
  exact h
theorem reassoc6 {ψ1 ψ2 ψ3 ψ4 ψ5 ψ6 φ : RB} {δ : DS} {E : KE} {P : Fw → DS → Prop} (h : (seqR ψ1 (seqR ψ2 (seqR ψ3 (seqR ψ4 (seqR ψ5 (seqR ψ6 φ)))))) δ E P) : (seqR ψ1 (seqR ψ2 (seqR ψ3 (seqR ψ4 (seqR ψ5 ψ6))))) δ E (seqK φ E P) := by
  have e : seqK (seqR ψ2 (seqR ψ3 (seqR ψ4 (seqR ψ5 ψ6)))) E (seqK φ E P) = seqK (seqR ψ2 (seqR ψ3 (seqR ψ4 (seqR ψ5 (seqR ψ6 φ))))) E P := by
    funext fl δ
    cases fl <;> first | rfl | (exact propext ⟨fun h => unassoc5 h, fun h => reassoc5 h⟩)
  show ψ1 δ E (seqK (seqR ψ2 (seqR ψ3 (seqR ψ4 (seqR ψ5 ψ6)))) E (seqK φ E P))
  rw [e]
  exact h
theorem unassoc7 {ψ1 ψ2 ψ3 ψ4 ψ5 ψ6 ψ7 φ : RB} {δ : DS} {E : KE} {P : Fw → DS → Prop} (h : (seqR ψ1 (seqR ψ2 (seqR ψ3 (seqR ψ4 (seqR ψ5 (seqR ψ6 ψ7)))))) δ E (seqK φ E P)) : (seqR ψ1 (seqR ψ2 (seqR ψ3 (seqR ψ4 (seqR ψ5 (seqR ψ6 (seqR ψ7 φ))))))) δ E P := by
  have e : seqK (seqR ψ2 (seqR ψ3 (seqR ψ4 (seqR ψ5 (seqR ψ6 ψ7))))) E (seqK φ E P) = seqK (seqR ψ2 (seqR ψ3 (seqR ψ4 (seqR ψ5 (seqR ψ6 (seqR ψ7 φ)))))) E P := by
    funext fl δ
    cases fl <;> first | rfl | (exact propext ⟨fun h => unassoc6 h, fun h => reassoc6 h⟩)
  show ψ1 δ E (seqK (seqR ψ2 (seqR ψ3 (seqR ψ4 (seqR ψ5 (seqR ψ6 (seqR ψ7 φ)))))) E P)
  rw [← e]
  exact h
theorem reassoc7 {ψ1 ψ2 ψ3 ψ4 ψ5 ψ6 ψ7 φ : RB} {δ : DS} {E : KE} {P : Fw → DS → Prop} (h : (seqR ψ1 (seqR ψ2 (seqR ψ3 (seqR ψ4 (seqR ψ5 (seqR ψ6 (seqR ψ7 φ))))))) δ E P) : (seqR ψ1 (seqR ψ2 (seqR ψ3 (seqR ψ4 (seqR ψ5 (seqR ψ6 ψ7)))))) δ E (seqK φ E P) := by
  have e : seqK (seqR ψ2 (seqR ψ3 (seqR ψ4 (seqR ψ5 (seqR ψ6 ψ7))))) E (seqK φ E P) = seqK (seqR ψ2 (seqR ψ3 (seqR ψ4 (seqR ψ5 (seqR ψ6 (seqR ψ7 φ)))))) E P := by
    funext fl δ
    cases fl <;> first | rfl | (exact propext ⟨fun h => unassoc6 h, fun h => reassoc6 h⟩)
  show ψ1 δ E (seqK (seqR ψ2 (seqR ψ3 (seqR ψ4 (seqR ψ5 (seqR ψ6 ψ7))))) E (seqK φ E P))
  rw [e]
  exact h
theorem unassoc8 {ψ1 ψ2 ψ3 ψ4 ψ5 ψ6 ψ7 ψ8 φ : RB} {δ : DS} {E : KE} {P : Fw → DS → Prop} (h : (seqR ψ1 (seqR ψ2 (seqR ψ3 (seqR ψ4 (seqR ψ5 (seqR ψ6 (seqR ψ7 ψ8))))))) δ E (seqK φ E P)) : (seqR ψ1 (seqR ψ2 (seqR ψ3 (seqR ψ4 (seqR ψ5 (seqR ψ6 (seqR ψ7 (seqR ψ8 φ)))))))) δ E P := by
  have e : seqK (seqR ψ2 (seqR ψ3 (seqR ψ4 (seqR ψ5 (seqR ψ6 (seqR ψ7 ψ8)))))) E (seqK φ E P) = seqK (seqR ψ2 (seqR ψ3 (seqR ψ4 (seqR ψ5 (seqR ψ6 (seqR ψ7 (seqR ψ8 φ))))))) E P := by
    funext fl δ
    cases fl <;> first | rfl | (exact propext ⟨fun h => unassoc7 h, fun h => reassoc7 h⟩)
  show ψ1 δ E (seqK (seqR ψ2 (seqR ψ3 (seqR ψ4 (seqR ψ5 (seqR ψ6 (seqR ψ7 (seqR ψ8 φ))))))) E P)
  rw [← e]
  exact h
theorem reassoc8 {ψ1 ψ2 ψ3 ψ4 ψ5 ψ6 ψ7 ψ8 φ : RB} {δ : DS} {E : KE} {P : Fw → DS → Prop} (h : (seqR ψ1 (seqR ψ2 (seqR ψ3 (seqR ψ4 (seqR ψ5 (seqR ψ6 (seqR ψ7 (seqR ψ8 φ)))))))) δ E P) : (seqR ψ1 (seqR ψ2 (seqR ψ3 (seqR ψ4 (seqR ψ5 (seqR ψ6 (seqR ψ7 ψ8))))))) δ E (seqK φ E P) := by
  have e : seqK (seqR ψ2 (seqR ψ3 (seqR ψ4 (seqR ψ5 (seqR ψ6 (seqR ψ7 ψ8)))))) E (seqK φ E P) = seqK (seqR ψ2 (seqR ψ3 (seqR ψ4 (seqR ψ5 (seqR ψ6 (seqR ψ7 (seqR ψ8 φ))))))) E P := by
    funext fl δ
    cases fl <;> first | rfl | (exact propext ⟨fun h => unassoc7 h, fun h => reassoc7 h⟩)
  show ψ1 δ E (seqK (seqR ψ2 (seqR ψ3 (seqR ψ4 (seqR ψ5 (seqR ψ6 (seqR ψ7 ψ8)))))) E (seqK φ E P))
  rw [e]
  exact h
theorem unassoc9 {ψ1 ψ2 ψ3 ψ4 ψ5 ψ6 ψ7 ψ8 ψ9 φ : RB} {δ : DS} {E : KE} {P : Fw → DS → Prop} (h : (seqR ψ1 (seqR ψ2 (seqR ψ3 (seqR ψ4 (seqR ψ5 (seqR ψ6 (seqR ψ7 (seqR ψ8 ψ9)))))))) δ E (seqK φ E P)) : (seqR ψ1 (seqR ψ2 (seqR ψ3 (seqR ψ4 (seqR ψ5 (seqR ψ6 (seqR ψ7 (seqR ψ8 (seqR ψ9 φ))))))))) δ E P := by
  have e : seqK (seqR ψ2 (seqR ψ3 (seqR ψ4 (seqR ψ5 (seqR ψ6 (seqR ψ7 (seqR ψ8 ψ9))))))) E (seqK φ E P) = seqK (seqR ψ2 (seqR ψ3 (seqR ψ4 (seqR ψ5 (seqR ψ6 (seqR ψ7 (seqR ψ8 (seqR ψ9 φ)))))))) E P := by
    funext fl δ
    cases fl <;> first | rfl | (exact propext ⟨fun h => unassoc8 h, fun h => reassoc8 h⟩)
  show ψ1 δ E (seqK (seqR ψ2 (seqR ψ3 (seqR ψ4 (seqR ψ5 (seqR ψ6 (seqR ψ7 (seqR ψ8 (seqR ψ9 φ)))))))) E P)
  rw [← e]
  exact h
theorem reassoc9 {ψ1 ψ2 ψ3 ψ4 ψ5 ψ6 ψ7 ψ8 ψ9 φ : RB} {δ : DS} {E : KE} {P : Fw → DS → Prop} (h : (seqR ψ1 (seqR ψ2 (seqR ψ3 (seqR ψ4 (seqR ψ5 (seqR ψ6 (seqR ψ7 (seqR ψ8 (seqR ψ9 φ))))))))) δ E P) : (seqR ψ1 (seqR ψ2 (seqR ψ3 (seqR ψ4 (seqR ψ5 (seqR ψ6 (seqR ψ7 (seqR ψ8 ψ9)))))))) δ E (seqK φ E P) := by
  have e : seqK (seqR ψ2 (seqR ψ3 (seqR ψ4 (seqR ψ5 (seqR ψ6 (seqR ψ7 (seqR ψ8 ψ9))))))) E (seqK φ E P) = seqK (seqR ψ2 (seqR ψ3 (seqR ψ4 (seqR ψ5 (seqR ψ6 (seqR ψ7 (seqR ψ8 (seqR ψ9 φ)))))))) E P := by
    funext fl δ
    cases fl <;> first | rfl | (exact propext ⟨fun h => unassoc8 h, fun h => reassoc8 h⟩)
  show ψ1 δ E (seqK (seqR ψ2 (seqR ψ3 (seqR ψ4 (seqR ψ5 (seqR ψ6 (seqR ψ7 (seqR ψ8 ψ9))))))) E (seqK φ E P))
  rw [e]
  exact h
theorem cut1 {ψ1 φ : RB} {δ : DS} {E : KE} {P : Fw → DS → Prop} (C : DS → Prop) (h1 : ∀ P' : Fw → DS → Prop, (∀ δ1, C δ1 → P' .nx δ1) → ψ1 δ E P') (h2 : ∀ δ1, C δ1 → φ δ1 E P) : (seqR ψ1 φ) δ E P := by
  exact h1 (seqK φ E P) h2
theorem cut1r {ψ1 φ : RB} {δ : DS} {E : KE} {P : Fw → DS → Prop} (C : DS → Prop) (h1 : ∀ P' : Fw → DS → Prop, (∀ δ1, C δ1 → P' .nx δ1) → (∀ d δ1, P (.rt d) δ1 → P' (.rt d) δ1) → ψ1 δ E P') (h2 : ∀ δ1, C δ1 → φ δ1 E P) : (seqR ψ1 φ) δ E P := by
  exact h1 (seqK φ E P) h2 (fun _ _ h => h)
theorem cut2 {ψ1 ψ2 φ : RB} {δ : DS} {E : KE} {P : Fw → DS → Prop} (C : DS → Prop) (h1 : ∀ P' : Fw → DS → Prop, (∀ δ1, C δ1 → P' .nx δ1) → (seqR ψ1 ψ2) δ E P') (h2 : ∀ δ1, C δ1 → φ δ1 E P) : (seqR ψ1 (seqR ψ2 φ)) δ E P := by
  have h := h1 (seqK φ E P) h2
  exact unassoc2 h
theorem cut2r {ψ1 ψ2 φ : RB} {δ : DS} {E : KE} {P : Fw → DS → Prop} (C : DS → Prop) (h1 : ∀ P' : Fw → DS → Prop, (∀ δ1, C δ1 → P' .nx δ1) → (∀ d δ1, P (.rt d) δ1 → P' (.rt d) δ1) → (seqR ψ1 ψ2) δ E P') (h2 : ∀ δ1, C δ1 → φ δ1 E P) : (seqR ψ1 (seqR ψ2 φ)) δ E P := by
  have h := h1 (seqK φ E P) h2 (fun _ _ h => h)
  exact unassoc2 h
theorem cut3 {ψ1 ψ2 ψ3 φ : RB} {δ : DS} {E : KE} {P : Fw → DS → Prop} (C : DS → Prop) (h1 : ∀ P' : Fw → DS → Prop, (∀ δ1, C δ1 → P' .nx δ1) → (seqR ψ1 (seqR ψ2 ψ3)) δ E P') (h2 : ∀ δ1, C δ1 → φ δ1 E P) : (seqR ψ1 (seqR ψ2 (seqR ψ3 φ))) δ E P := by
  have h := h1 (seqK φ E P) h2
  exact unassoc3 h
theorem cut3r {ψ1 ψ2 ψ3 φ : RB} {δ : DS} {E : KE} {P : Fw → DS → Prop} (C : DS → Prop) (h1 : ∀ P' : Fw → DS → Prop, (∀ δ1, C δ1 → P' .nx δ1) → (∀ d δ1, P (.rt d) δ1 → P' (.rt d) δ1) → (seqR ψ1 (seqR ψ2 ψ3)) δ E P') (h2 : ∀ δ1, C δ1 → φ δ1 E P) : (seqR ψ1 (seqR ψ2 (seqR ψ3 φ))) δ E P := by
  have h := h1 (seqK φ E P) h2 (fun _ _ h => h)
  exact unassoc3 h
theorem cut4 {ψ1 ψ2 ψ3 ψ4 φ : RB} {δ : DS} {E : KE} {P : Fw → DS → Prop} (C : DS → Prop) (h1 : ∀ P' : Fw → DS → Prop, (∀ δ1, C δ1 → P' .nx δ1) → (seqR ψ1 (seqR ψ2 (seqR ψ3 ψ4))) δ E P') (h2 : ∀ δ1, C δ1 → φ δ1 E P) : (seqR ψ1 (seqR ψ2 (seqR ψ3 (seqR ψ4 φ)))) δ E P := by
  have h := h1 (seqK φ E P) h2
  exact unassoc4 h
theorem cut4r {ψ1 ψ2 ψ3 ψ4 φ : RB} {δ : DS} {E : KE} {P : Fw → DS → Prop} (C : DS → Prop) (h1 : ∀ P' : Fw → DS → Prop, (∀ δ1, C δ1 → P' .nx δ1) → (∀ d δ1, P (.rt d) δ1 → P' (.rt d) δ1) → (seqR ψ1 (seqR ψ2 (seqR ψ3 ψ4))) δ E P') (h2 : ∀ δ1, C δ1 → φ δ1 E P) : (seqR ψ1 (seqR ψ2 (seqR ψ3 (seqR ψ4 φ)))) δ E P := by
  have h := h1 (seqK φ E P) h2 (fun _ _ h => h)
  exact unassoc4 h
theorem cut5 {ψ1 ψ2 ψ3 ψ4 ψ5 φ : RB} {δ : DS} {E : KE} {P : Fw → DS → Prop} (C : DS → Prop) (h1 : ∀ P' : Fw → DS → Prop, (∀ δ1, C δ1 → P' .nx δ1) → (seqR ψ1 (seqR ψ2 (seqR ψ3 (seqR ψ4 ψ5)))) δ E P') (h2 : ∀ δ1, C δ1 → φ δ1 E P) : (seqR ψ1 (seqR ψ2 (seqR ψ3 (seqR ψ4 (seqR ψ5 φ))))) δ E P := by
  have h := h1 (seqK φ E P) h2
  exact unassoc5 h
theorem cut5r {ψ1 ψ2 ψ3 ψ4 ψ5 φ : RB} {δ : DS} {E : KE} {P : Fw → DS → Prop} (C : DS → Prop) (h1 : ∀ P' : Fw → DS → Prop, (∀ δ1, C δ1 → P' .nx δ1) → (∀ d δ1, P (.rt d) δ1 → P' (.rt d) δ1) → (seqR ψ1 (seqR ψ2 (seqR ψ3 (seqR ψ4 ψ5)))) δ E P') (h2 : ∀ δ1, C δ1 → φ δ1 E P) : (seqR ψ1 (seqR ψ2 (seqR ψ3 (seqR ψ4 (seqR ψ5 φ))))) δ E P := by
  have h := h1 (seqK φ E P) h2 (fun _ _ h => h)
  exact unassoc5 h
theorem cut6 {ψ1 ψ2 ψ3 ψ4 ψ5 ψ6 φ : RB} {δ : DS} {E : KE} {P : Fw → DS → Prop} (C : DS → Prop) (h1 : ∀ P' : Fw → DS → Prop, (∀ δ1, C δ1 → P' .nx δ1) → (seqR ψ1 (seqR ψ2 (seqR ψ3 (seqR ψ4 (seqR ψ5 ψ6))))) δ E P') (h2 : ∀ δ1, C δ1 → φ δ1 E P) : (seqR ψ1 (seqR ψ2 (seqR ψ3 (seqR ψ4 (seqR ψ5 (seqR ψ6 φ)))))) δ E P := by
  have h := h1 (seqK φ E P) h2
  exact unassoc6 h
theorem cut6r {ψ1 ψ2 ψ3 ψ4 ψ5 ψ6 φ : RB} {δ : DS} {E : KE} {P : Fw → DS → Prop} (C : DS → Prop) (h1 : ∀ P' : Fw → DS → Prop, (∀ δ1, C δ1 → P' .nx δ1) → (∀ d δ1, P (.rt d) δ1 → P' (.rt d) δ1) → (seqR ψ1 (seqR ψ2 (seqR ψ3 (seqR ψ4 (seqR ψ5 ψ6))))) δ E P') (h2 : ∀ δ1, C δ1 → φ δ1 E P) : (seqR ψ1 (seqR ψ2 (seqR ψ3 (seqR ψ4 (seqR ψ5 (seqR ψ6 φ)))))) δ E P := by
  have h := h1 (seqK φ E P) h2 (fun _ _ h => h)
  exact unassoc6 h
theorem cut7 {ψ1 ψ2 ψ3 ψ4 ψ5 ψ6 ψ7 φ : RB} {δ : DS} {E : KE} {P : Fw → DS → Prop} (C : DS → Prop) (h1 : ∀ P' : Fw → DS → Prop, (∀ δ1, C δ1 → P' .nx δ1) → (seqR ψ1 (seqR ψ2 (seqR ψ3 (seqR ψ4 (seqR ψ5 (seqR ψ6 ψ7)))))) δ E P') (h2 : ∀ δ1, C δ1 → φ δ1 E P) : (seqR ψ1 (seqR ψ2 (seqR ψ3 (seqR ψ4 (seqR ψ5 (seqR ψ6 (seqR ψ7 φ))))))) δ E P := by
  have h := h1 (seqK φ E P) h2
  exact unassoc7 h
theorem cut7r {ψ1 ψ2 ψ3 ψ4 ψ5 ψ6 ψ7 φ : RB} {δ : DS} {E : KE} {P : Fw → DS → Prop} (C : DS → Prop) (h1 : ∀ P' : Fw → DS → Prop, (∀ δ1, C δ1 → P' .nx δ1) → (∀ d δ1, P (.rt d) δ1 → P' (.rt d) δ1) → (seqR ψ1 (seqR ψ2 (seqR ψ3 (seqR ψ4 (seqR ψ5 (seqR ψ6 ψ7)))))) δ E P') (h2 : ∀ δ1, C δ1 → φ δ1 E P) : (seqR ψ1 (seqR ψ2 (seqR ψ3 (seqR ψ4 (seqR ψ5 (seqR ψ6 (seqR ψ7 φ))))))) δ E P := by
  have h := h1 (seqK φ E P) h2 (fun _ _ h => h)
  exact unassoc7 h
theorem cut8 {ψ1 ψ2 ψ3 ψ4 ψ5 ψ6 ψ7 ψ8 φ : RB} {δ : DS} {E : KE} {P : Fw → DS → Prop} (C : DS → Prop) (h1 : ∀ P' : Fw → DS → Prop, (∀ δ1, C δ1 → P' .nx δ1) → (seqR ψ1 (seqR ψ2 (seqR ψ3 (seqR ψ4 (seqR ψ5 (seqR ψ6 (seqR ψ7 ψ8))))))) δ E P') (h2 : ∀ δ1, C δ1 → φ δ1 E P) : (seqR ψ1 (seqR ψ2 (seqR ψ3 (seqR ψ4 (seqR ψ5 (seqR ψ6 (seqR ψ7 (seqR ψ8 φ)))))))) δ E P := by
  have h := h1 (seqK φ E P) h2
  exact unassoc8 h
theorem cut8r {ψ1 ψ2 ψ3 ψ4 ψ5 ψ6 ψ7 ψ8 φ : RB} {δ : DS} {E : KE} {P : Fw → DS → Prop} (C : DS → Prop) (h1 : ∀ P' : Fw → DS → Prop, (∀ δ1, C δ1 → P' .nx δ1) → (∀ d δ1, P (.rt d) δ1 → P' (.rt d) δ1) → (seqR ψ1 (seqR ψ2 (seqR ψ3 (seqR ψ4 (seqR ψ5 (seqR ψ6 (seqR ψ7 ψ8))))))) δ E P') (h2 : ∀ δ1, C δ1 → φ δ1 E P) : (seqR ψ1 (seqR ψ2 (seqR ψ3 (seqR ψ4 (seqR ψ5 (seqR ψ6 (seqR ψ7 (seqR ψ8 φ)))))))) δ E P := by
  have h := h1 (seqK φ E P) h2 (fun _ _ h => h)
  exact unassoc8 h
theorem cut9 {ψ1 ψ2 ψ3 ψ4 ψ5 ψ6 ψ7 ψ8 ψ9 φ : RB} {δ : DS} {E : KE} {P : Fw → DS → Prop} (C : DS → Prop) (h1 : ∀ P' : Fw → DS → Prop, (∀ δ1, C δ1 → P' .nx δ1) → (seqR ψ1 (seqR ψ2 (seqR ψ3 (seqR ψ4 (seqR ψ5 (seqR ψ6 (seqR ψ7 (seqR ψ8 ψ9)))))))) δ E P') (h2 : ∀ δ1, C δ1 → φ δ1 E P) : (seqR ψ1 (seqR ψ2 (seqR ψ3 (seqR ψ4 (seqR ψ5 (seqR ψ6 (seqR ψ7 (seqR ψ8 (seqR ψ9 φ))))))))) δ E P := by
  have h := h1 (seqK φ E P) h2
  exact unassoc9 h
theorem cut9r {ψ1 ψ2 ψ3 ψ4 ψ5 ψ6 ψ7 ψ8 ψ9 φ : RB} {δ : DS} {E : KE} {P : Fw → DS → Prop} (C : DS → Prop) (h1 : ∀ P' : Fw → DS → Prop, (∀ δ1, C δ1 → P' .nx δ1) → (∀ d δ1, P (.rt d) δ1 → P' (.rt d) δ1) → (seqR ψ1 (seqR ψ2 (seqR ψ3 (seqR ψ4 (seqR ψ5 (seqR ψ6 (seqR ψ7 (seqR ψ8 ψ9)))))))) δ E P') (h2 : ∀ δ1, C δ1 → φ δ1 E P) : (seqR ψ1 (seqR ψ2 (seqR ψ3 (seqR ψ4 (seqR ψ5 (seqR ψ6 (seqR ψ7 (seqR ψ8 (seqR ψ9 φ))))))))) δ E P := by
  have h := h1 (seqK φ E P) h2 (fun _ _ h => h)
  exact unassoc9 h
theorem cutKr {ψ1 ψ2 : RB} {δ : DS} {E : KE} {P : Fw → DS → Prop} (C : DS → Prop) (h1 : ∀ P' : Fw → DS → Prop, (∀ δ1, C δ1 → P' .nx δ1) → (∀ d δ1, P (.rt d) δ1 → P' (.rt d) δ1) → ψ1 δ E P') (h2 : ∀ δ1, C δ1 → ψ2 δ1 E P) : seqK (seqR ψ1 ψ2) E P .nx δ := h1 (seqK ψ2 E P) h2 fun _ _ h => h
theorem nextK {ψ : RB} {δ : DS} {E : KE} {P : Fw → DS → Prop} (h : ψ δ E P) : seqK ψ E P .nx δ := h
theorem atI_mod {ns : List Int} (h : 0 < ns.length) (m : Int) : ∃ z, z ∈ ns ∧ atI (ns.map PyData.int) (m % ((ns.map PyData.int).length : Int)) = some (.int z) := by
  have h1 := Int.emod_nonneg m (show ((ns.map PyData.int).length : Int) ≠ 0 by rw [List.length_map]; omega)
  have h2 := Int.emod_lt_of_pos m (show 0 < ((ns.map PyData.int).length : Int) by rw [List.length_map]; omega)
  obtain ⟨d, e, _, hm⟩ := atI_nn h1 h2
  obtain ⟨z, hz, rfl⟩ := List.mem_map.mp hm
  exact ⟨z, hz, e⟩
theorem pinK_of {i : Nat} {P : Fw → DS → Prop} {fl : Fw} {δ : DS} {o : MO} (e : δ.get i = some (.io o)) (h : P fl (List.set δ i (some (.ow o)))) : pinK i P fl δ := by
  unfold pinK
  rw [e]
  exact h
theorem ioG_of {vs : List Nat} {δ : DS} {A : Prop} (h : noIoB vs δ = true) (a : A) : ioG vs δ A := bif_true h a
theorem ixN_nat {n k : Nat} (h : k < n) : ixN n (k : Int) = some k := by
  unfold ixN
  have h1 : (0 : Int) ≤ (k : Int) := Int.natCast_nonneg k
  have h2 : (k : Int) < (n : Int) := by omega
  simp [h1, h2]
theorem at0 {α : Type} {x : α} {r : List α} : atI (x :: r) 0 = some x := atI_nat (j := 0) rfl
theorem at1 {α : Type} {x y : α} {r : List α} : atI (x :: y :: r) 1 = some y := atI_nat (j := 1) rfl
theorem at2 {α : Type} {x y z : α} {r : List α} : atI (x :: y :: z :: r) 2 = some z := atI_nat (j := 2) rfl
theorem ix0 {α : Type} {x : α} {r : List α} : ixN (x :: r).length 0 = some 0 := ixN_nat (k := 0) (by simp)
theorem ix1 {α : Type} {x y : α} {r : List α} : ixN (x :: y :: r).length 1 = some 1 := ixN_nat (k := 1) (by simp)
theorem nxR_of {δ : DS} {E : KE} {P : Fw → DS → Prop} (h : P .nx δ) : nxR δ E P := h
theorem lcK_nat {α : Type} {xs : List α} {g : α → D} {vs : List Nat} {γ : RG} {t : RT} {e : RE} {P : List D → DS → Prop} (I : Nat → List D → DS → Prop) (hend : ∀ acc δ, I xs.length acc δ → P acc δ)
    (step : ∀ k x acc δ, xs[k]? = some x → I k acc δ → ∀ F : List D → DS → Prop, (∀ acc2 δ2, I (k + 1) acc2 δ2 → F acc2 δ2) →
      γ (g x) δ fun δ1 => t δ1 E0K fun b δ2 => bifP b (e δ2 E0K fun y δ3 => ioG vs δ3 (F (acc ++ [y]) (wipeD δ3 vs))) (ioG vs δ2 (F acc (wipeD δ2 vs)))) (δ : DS) (h : I 0 [] δ) : lcK vs γ t e P (xs.map g) [] δ := by
  have key : ∀ (rest : List α) (k : Nat) (acc : List D) (δ : DS), rest = xs.drop k → I k acc δ → k + rest.length = xs.length → lcK vs γ t e P (rest.map g) acc δ := by
    intro rest
    induction rest with
    | nil =>
      intro k acc δ _ h hk
      have : k = xs.length := by simpa using hk
      subst this
      exact hend acc δ h
    | cons x r ih =>
      intro k acc δ e h hk
      have ex : xs[k]? = some x := by rw [← List.head?_drop, ← e]; rfl
      refine step k x acc δ ex h _ fun acc2 δ2 h2 => ih (k + 1) acc2 δ2 ?_ h2 ?_
      · rw [← List.drop_drop, ← e]; rfl
      · rw [List.length_cons] at hk; omega
  exact key xs 0 [] δ (by rw [List.drop_zero]) h (by omega)
theorem atI_neg1 {α : Type} {xs : List α} {v : α} (h : xs[xs.length - 1]? = some v) : atI xs (-1) = some v := by
  have hl : 0 < xs.length := by
    have := (List.getElem?_eq_some_iff.mp h).1
    omega
  have e : ixN xs.length (-1) = some (xs.length - 1) := by
    unfold ixN
    rw [if_neg (by omega), if_pos (by omega)]
    congr 1
    omega
  unfold atI
  rw [e]
  exact h
end DL

/-! Unfoldings, amounts, signs, in plain words. -/
namespace DL
open PySem PySem.Spec PyProof.Rows L2
/-! ### unfoldings -/
abbrev Nd := Option Nat × Int
def onD : Option Nat → D
  | none => .none
  | some k => .int (k : Int)
def ndD (n : Nd) : D := .tuple [onD n.1, .int n.2]
def par (t : List Nd) (k : Nat) : Option Nat := (t[k]?).bind (·.1)
def prc (t : List Nd) (k : Nat) : Int := ((t[k]?).map (·.2)).getD 0
def tmF (t : List Nd) : Nat → Nat → Nat
  | 0, _ => 0
  | f + 1, k => match par t k with
    | none => 0
    | some b => tmF t f b + 1
def tm (t : List Nd) (k : Nat) : Nat := tmF t k k
def nexts (t : List Nd) (k : Nat) : List Nat := (List.range t.length).filter fun j => decide (par t j = some k)
/-- parents stand ahead -/
def Ord (t : List Nd) : Prop := ∀ (k : Nat) (n : Nd), t[k]? = some n → (n.1 = none ↔ k = 0) ∧ ∀ b, n.1 = some b → b < k
theorem par_lt {t : List Nd} (h : Ord t) {k b : Nat} (e : par t k = some b) : b < k := by
  unfold par at e
  obtain ⟨n, e1, e2⟩ := Option.bind_eq_some_iff.mp e
  exact (h k n e1).2 b e2
theorem par_get {t : List Nd} {k : Nat} {n : Nd} (e : t[k]? = some n) : par t k = n.1 := by unfold par; rw [e]; rfl
theorem prc_get {t : List Nd} {k : Nat} {n : Nd} (e : t[k]? = some n) : prc t k = n.2 := by unfold prc; rw [e]; rfl
theorem tmF_fuel {t : List Nd} (h : Ord t) : ∀ (k f : Nat), k ≤ f → tmF t f k = tmF t k k := by
  intro k
  induction k using Nat.strongRecOn with
  | _ k ih =>
    intro f hf
    cases f with
    | zero =>
      have : k = 0 := by omega
      subst this
      rfl
    | succ f =>
      cases k with
      | zero =>
        unfold tmF
        cases e : par t 0 with
        | none => rfl
        | some b => have := par_lt h e; omega
      | succ k =>
        show (match par t (k + 1) with | none => 0 | some b => tmF t f b + 1) = (match par t (k + 1) with | none => 0 | some b => tmF t k b + 1)
        cases e : par t (k + 1) with
        | none => rfl
        | some b =>
          have hb := par_lt h e
          show tmF t f b + 1 = tmF t k b + 1
          rw [ih b (by omega) f (by omega), ih b (by omega) k (by omega)]
theorem tm_none {t : List Nd} {k : Nat} (e : par t k = none) : tm t k = 0 := by
  unfold tm
  cases k with
  | zero => rfl
  | succ k =>
    show (match par t (k + 1) with | none => 0 | some b => tmF t k b + 1) = 0
    rw [e]
theorem tm_some {t : List Nd} (h : Ord t) {k b : Nat} (e : par t k = some b) : tm t k = tm t b + 1 := by
  have hb := par_lt h e
  unfold tm
  cases k with
  | zero => omega
  | succ k =>
    show (match par t (k + 1) with | none => 0 | some b => tmF t k b + 1) = _
    rw [e]
    show tmF t k b + 1 = _
    rw [tmF_fuel h b k (by omega)]
structure Pre (m : Nat) (t : List Nd) : Prop where
  l1 : 1 ≤ t.length
  lm : t.length ≤ m
  ord : Ord t
  pr : ∀ (k : Nat) (n : Nd), t[k]? = some n → 0 ≤ n.2 ∧ n.2 ≤ 1000000000
  tm : ∀ k, k < t.length → tm t k ≤ 7
  nx : ∀ k, (nexts t k).length ≤ 4
def Fair (t : List Nd) : Prop := ∀ (k : Nat) (n : Nd), t[k]? = some n → nexts t k ≠ [] → (∃ j ∈ nexts t k, prc t j ≤ n.2) ∧ ∃ j ∈ nexts t k, n.2 ≤ prc t j
structure Unf (m : Nat) (t : List Nd) : Prop extends Pre m t where
  fair : Fair t
theorem mem_nexts {t : List Nd} {k j : Nat} : j ∈ nexts t k ↔ j < t.length ∧ par t j = some k := by
  unfold nexts
  rw [List.mem_filter, List.mem_range, decide_eq_true_eq]
theorem Pre.root {m : Nat} {t : List Nd} (h : Pre m t) : par t 0 = none := by
  obtain ⟨n, e⟩ : ∃ n, t[0]? = some n := ⟨_, List.getElem?_eq_getElem (by have := h.l1; omega)⟩
  rw [par_get e]
  exact (h.ord 0 n e).1.mpr rfl
theorem shaped_tr (t : List Nd) : SeqAt.shaped (.list (t.map ndD)) = true := by
  refine shaped_list (fun d hd => ?_) (fun d hd => ?_)
  · obtain ⟨⟨o, p⟩, _, rfl⟩ := List.mem_map.mp hd; cases o <;> rfl
  · obtain ⟨⟨o, p⟩, _, rfl⟩ := List.mem_map.mp hd; cases o <;> exact (by decide : 1 ≤ 63)
theorem nd_at {t : List Nd} {k : Nat} {n : Nd} (e : t[k]? = some n) : atI (t.map ndD) (k : Int) = some (ndD n) := atI_map e
/-! ### amounts -/
inductive Op where
  | plus | minus | times | most | least
deriving DecidableEq
def Op.str : Op → Str
  | .plus => Str.ofString "plus"
  | .minus => Str.ofString "minus"
  | .times => Str.ofString "times"
  | .most => Str.ofString "most"
  | .least => Str.ofString "least"
def Op.ap : Op → Int → Int → Int
  | .plus, i, j => i + j
  | .minus, i, j => i - j
  | .times, i, j => i * j
  | .most, i, j => max2 i j
  | .least, i, j => min2 i j
inductive Amt where
  | num (i : Int) | price | time | bin (o : Op) (a b : Amt)
deriving DecidableEq
def amtD : Amt → D
  | .num i => .tuple [.str (Str.ofString "number"), .int i]
  | .price => .tuple [.str (Str.ofString "price")]
  | .time => .tuple [.str (Str.ofString "time")]
  | .bin o a b => .tuple [.str o.str, amtD a, amtD b]
def Amt.parts : Amt → Nat
  | .num _ => 1
  | .price => 1
  | .time => 1
  | .bin _ a b => 1 + a.parts + b.parts
def Amt.ok : Amt → Prop
  | .num i => 0 ≤ i ∧ i ≤ 1000000000
  | .price => True
  | .time => True
  | .bin _ a b => a.ok ∧ b.ok
def Amt.val (p t : Int) : Amt → Int
  | .num i => i
  | .price => p
  | .time => t
  | .bin o a b => o.ap (a.val p t) (b.val p t)
theorem Amt.pos : ∀ a : Amt, 1 ≤ a.parts
  | .num _ => Nat.le_refl _
  | .price => Nat.le_refl _
  | .time => Nat.le_refl _
  | .bin _ a b => by unfold Amt.parts; omega
theorem Op.bt {k l : Nat} {i j : Int} (o : Op) (hi : Bt k i) (hj : Bt l j) : Bt (k + l + 1) (o.ap i j) := by
  have h1 : Bt (k + l) i := hi.mono (by omega)
  have h2 : Bt (k + l) j := hj.mono (by omega)
  cases o with
  | plus => exact h1.add h2
  | minus => exact h1.sub h2
  | times => exact Bt.mono (l := k + l + 1) (hi.mul hj) (by omega)
  | most =>
    show Bt (k + l + 1) (max2 i j)
    unfold max2
    split
    · exact Bt.mono (l := k + l + 1) h2 (by omega)
    · exact Bt.mono (l := k + l + 1) h1 (by omega)
  | least =>
    show Bt (k + l + 1) (min2 i j)
    unfold min2
    split
    · exact Bt.mono (l := k + l + 1) h2 (by omega)
    · exact Bt.mono (l := k + l + 1) h1 (by omega)
theorem Amt.bt {p t : Int} (hp : Bt 30 p) (ht : Bt 30 t) : ∀ {a : Amt}, a.ok → Bt (31 * a.parts) (a.val p t)
  | .num i, h => (show Bt 30 i from Bt.of_lt (by have := h.1; omega) (by have := h.2; omega)).mono (by show 30 ≤ 31 * 1; decide)
  | .price, _ => hp.mono (by show 30 ≤ 31 * 1; decide)
  | .time, _ => ht.mono (by show 30 ≤ 31 * 1; decide)
  | .bin o a b, h => by
    have h1 := Amt.bt hp ht (a := a) h.1
    have h2 := Amt.bt hp ht (a := b) h.2
    have e : (Amt.bin o a b).parts = 1 + a.parts + b.parts := rfl
    exact (o.bt h1 h2).mono (by rw [e]; omega)
/-- depth -/
def Amt.deep : Amt → Nat
  | .bin _ a b => 1 + max a.deep b.deep
  | _ => 0
theorem Amt.deep_lt : ∀ a : Amt, 2 * a.deep + 1 ≤ a.parts
  | .num _ => Nat.le_refl _
  | .price => Nat.le_refl _
  | .time => Nat.le_refl _
  | .bin o a b => by
    have h1 := Amt.deep_lt a
    have h2 := Amt.deep_lt b
    have h3 := Amt.pos a
    have h4 := Amt.pos b
    have e1 : (Amt.bin o a b).parts = 1 + a.parts + b.parts := rfl
    have e2 : (Amt.bin o a b).deep = 1 + max a.deep b.deep := rfl
    omega
inductive Sgn where
  | mk (upto : Bool) (a b : Amt)
deriving DecidableEq
def sgnD : Sgn → D
  | .mk u a b => .tuple [.str (if u then Str.ofString "upto" else Str.ofString "below"), amtD a, amtD b]
def Sgn.ok : Sgn → Prop
  | .mk _ a b => a.ok ∧ b.ok
def Sgn.deep : Sgn → Nat
  | .mk _ a b => max a.deep b.deep
def Sgn.parts : Sgn → Nat
  | .mk _ a b => 1 + a.parts + b.parts
def Sgn.holds (p t : Int) : Sgn → Bool
  | .mk u a b => if u then decide (a.val p t ≤ b.val p t) else decide (a.val p t < b.val p t)
end DL

/-! Unfoldings that grow; prices put on both sides. -/
namespace DL
open PySem PySem.Spec PyProof.Rows L2
theorem par_app {t : List Nd} {x : Nd} {j : Nat} (h : j < t.length) : par (t ++ [x]) j = par t j := by unfold par; rw [List.getElem?_append_left h]
theorem par_new {t : List Nd} {x : Nd} : par (t ++ [x]) t.length = x.1 := by unfold par; simp
theorem prc_app {t : List Nd} {x : Nd} {j : Nat} (h : j < t.length) : prc (t ++ [x]) j = prc t j := by unfold prc; rw [List.getElem?_append_left h]
theorem prc_new {t : List Nd} {x : Nd} : prc (t ++ [x]) t.length = x.2 := by unfold prc; simp
theorem get_app {t : List Nd} {x n : Nd} {k : Nat} (e : (t ++ [x])[k]? = some n) : (k < t.length ∧ t[k]? = some n) ∨ (k = t.length ∧ n = x) := by
  by_cases h : k < t.length
  · rw [List.getElem?_append_left h] at e
    exact .inl ⟨h, e⟩
  · rw [List.getElem?_append_right (by omega)] at e
    have hk : k - t.length = 0 := by
      cases q : k - t.length with
      | zero => rfl
      | succ m => rw [q] at e; cases e
    rw [hk] at e
    cases e
    exact .inr ⟨by omega, rfl⟩
theorem ord_app {t : List Nd} {b : Nat} {p : Int} (h : Ord t) (hb : b < t.length) : Ord (t ++ [(some b, p)]) := by
  intro k n e
  rcases get_app e with ⟨_, e⟩ | ⟨rfl, rfl⟩
  · exact h k n e
  · refine ⟨⟨fun z => (by cases z), fun z => by omega⟩, fun c hc => ?_⟩
    cases hc
    exact hb
theorem tm_congr {t u : List Nd} (ht : Ord t) (hu : Ord u) : ∀ k, (∀ j, j ≤ k → par t j = par u j) → tm t k = tm u k := by
  intro k
  induction k using Nat.strongRecOn with
  | _ k ih =>
    intro h
    cases e : par t k with
    | none => rw [tm_none e, tm_none (by rw [← h k (Nat.le_refl _)]; exact e)]
    | some b =>
      have hb := par_lt ht e
      rw [tm_some ht e, tm_some hu (by rw [← h k (Nat.le_refl _)]; exact e), ih b hb fun j hj => h j (by omega)]
theorem tm_app {t : List Nd} {b : Nat} {p : Int} (h : Ord t) (hb : b < t.length) {j : Nat} (hj : j < t.length) : tm (t ++ [(some b, p)]) j = tm t j :=
  tm_congr (ord_app h hb) h j fun i hi => par_app (by omega)
theorem tm_new {t : List Nd} {b : Nat} {p : Int} (h : Ord t) (hb : b < t.length) : tm (t ++ [(some b, p)]) t.length = tm t b + 1 := by
  rw [tm_some (ord_app h hb) par_new, tm_app h hb hb]
theorem nexts_app {t : List Nd} {b : Nat} {p : Int} (j : Nat) : nexts (t ++ [(some b, p)]) j = nexts t j ++ (if b = j then [t.length] else []) := by
  unfold nexts
  rw [List.length_append, List.length_singleton, List.range_succ, List.filter_append]
  congr 1
  · refine List.filter_congr fun i hi => ?_
    rw [par_app (List.mem_range.mp hi)]
  · rw [List.filter_cons, par_new]
    by_cases c : b = j
    · subst c; simp
    · rw [if_neg c]
      simp [c]
theorem nexts_big {t : List Nd} (h : Ord t) {j : Nat} (hj : t.length ≤ j) : nexts t j = [] := by
  unfold nexts
  rw [List.filter_eq_nil_iff]
  intro i hi z
  have hi := List.mem_range.mp hi
  have := par_lt h (of_decide_eq_true z)
  omega
theorem Pre.app {m : Nat} {t : List Nd} {b : Nat} {p : Int} (h : Pre m t) (hl : t.length < m) (hb : b < t.length) (hc : (nexts t b).length < 4) (ht : DL.tm t b < 7) (hp : 0 ≤ p ∧ p ≤ 1000000000) : Pre m (t ++ [(some b, p)]) where
  l1 := by rw [List.length_append]; have := h.l1; omega
  lm := by rw [List.length_append, List.length_singleton]; omega
  ord := ord_app h.ord hb
  pr := fun k n e => by
    rcases get_app e with ⟨_, e⟩ | ⟨rfl, rfl⟩
    · exact h.pr k n e
    · exact hp
  tm := fun k hk => by
    rw [List.length_append, List.length_singleton] at hk
    by_cases c : k < t.length
    · rw [tm_app h.ord hb c]; exact h.tm k c
    · have : k = t.length := by omega
      subst this
      rw [tm_new h.ord hb]
      omega
  nx := fun k => by
    rw [nexts_app, List.length_append]
    have := h.nx k
    split
    · rename_i e; subst e; show _ + 1 ≤ 4; omega
    · show _ + 0 ≤ 4; omega
theorem pre_one {m : Nat} {p : Int} (hm : 1 ≤ m) (hp : 0 ≤ p ∧ p ≤ 1000000000) : Pre m [(none, p)] where
  l1 := Nat.le_refl _
  lm := hm
  ord := fun k n e => by
    cases k with
    | zero => cases e; exact ⟨⟨fun _ => rfl, fun _ => rfl⟩, fun b hb => by cases hb⟩
    | succ k => cases e
  pr := fun k n e => by
    cases k with
    | zero => cases e; exact hp
    | succ k => cases e
  tm := fun k hk => by
    have : k = 0 := by simp at hk; exact hk
    subst this
    exact Nat.zero_le _
  nx := fun k => by
    have := List.length_filter_le (fun j => decide (par [(none, p)] j = some k)) (List.range 1)
    unfold nexts
    show (List.filter _ (List.range 1)).length ≤ 4
    rw [List.length_range] at this
    omega
/-! ### room for one more -/
theorem nodup_le : ∀ (k : Nat) (l : List Nat), l.Nodup → (∀ x ∈ l, x < k) → l.length ≤ k
  | 0, l, _, h => by
    cases l with
    | nil => exact Nat.le_refl _
    | cons x r => exact absurd (h x List.mem_cons_self) (Nat.not_lt_zero _)
  | k + 1, l, nd, h => by
    by_cases c : k ∈ l
    · have h1 := nodup_le k (l.erase k) (nd.erase k) fun x hx => by
        have h2 := h x (List.mem_of_mem_erase hx)
        have h3 : x ≠ k := fun z => by
          rw [z] at hx
          exact (List.Nodup.not_mem_erase nd) hx
        omega
      rw [List.length_erase_of_mem c] at h1
      omega
    · have h1 := nodup_le k l nd fun x hx => by
        have h2 := h x hx
        have h3 : x ≠ k := fun z => c (z ▸ hx)
        omega
      omega
theorem nodup_get : ∀ {l : List Nat}, l.Nodup → ∀ {i j x : Nat}, l[i]? = some x → l[j]? = some x → i = j
  | [], _, _, _, _, h, _ => by cases h
  | a :: r, nd, i, j, x, h1, h2 => by
    rw [List.nodup_cons] at nd
    cases i with
    | zero =>
      cases j with
      | zero => rfl
      | succ j =>
        cases h1
        exact absurd (List.mem_of_getElem? (by simpa using h2)) nd.1
    | succ i =>
      cases j with
      | zero =>
        cases h2
        exact absurd (List.mem_of_getElem? (by simpa using h1)) nd.1
      | succ j => rw [nodup_get nd.2 (i := i) (j := j) (by simpa using h1) (by simpa using h2)]
theorem nexts_nodup (t : List Nd) (k : Nat) : (nexts t k).Nodup := List.Nodup.sublist List.filter_sublist List.nodup_range
theorem flat_nodup {t : List Nd} {l : List Nat} (h : l.Nodup) : (l.flatMap (nexts t)).Nodup := by
  unfold List.Nodup at *
  rw [List.pairwise_flatMap]
  refine ⟨fun a _ => nexts_nodup t a, h.imp fun {a b} hab x hx y hy e => ?_⟩
  subst e
  have h1 := (mem_nexts.mp hx).2
  have h2 := (mem_nexts.mp hy).2
  rw [h1] at h2
  exact hab (by injection h2)
theorem flat_len {t : List Nd} : ∀ {l : List Nat}, (∀ x ∈ l, (nexts t x).length = 4) → (l.flatMap (nexts t)).length = 4 * l.length
  | [], _ => rfl
  | x :: r, h => by
    rw [List.flatMap_cons, List.length_append, h x List.mem_cons_self, flat_len fun y hy => h y (List.mem_cons_of_mem _ hy), List.length_cons]
    omega
theorem room {m : Nat} {t : List Nd} (h : Pre m t) (hl : t.length < 64) : ∃ j, j < t.length ∧ (nexts t j).length ≠ 4 ∧ tm t j ≠ 7 := by
  apply Classical.byContradiction
  intro no
  have full : ∀ j, j < t.length → tm t j ≠ 7 → (nexts t j).length = 4 := fun j hj h7 => by
    apply Classical.byContradiction
    intro z
    exact no ⟨j, hj, z, h7⟩
  have up : ∀ (l : List Nat) (d : Nat), d < 6 → (∀ x ∈ l, x < t.length ∧ tm t x = d) → ∀ x ∈ l.flatMap (nexts t), x < t.length ∧ tm t x = d + 1 := fun l d hd hx x hm => by
    obtain ⟨a, ha, hxa⟩ := List.mem_flatMap.mp hm
    obtain ⟨h1, h2⟩ := mem_nexts.mp hxa
    exact ⟨h1, by rw [tm_some h.ord h2, (hx a ha).2]⟩
  have h0 : ∀ x ∈ [0], x < t.length ∧ tm t x = 0 := fun x hx => by
    rw [List.mem_singleton.mp hx]
    exact ⟨by have := h.l1; omega, rfl⟩
  have h1 := up [0] 0 (by omega) h0
  have h2 := up _ 1 (by omega) h1
  have h3 := up _ 2 (by omega) h2
  have n1 : ([0].flatMap (nexts t)).length = 4 * 1 := flat_len fun x hx => full x (h0 x hx).1 (by rw [(h0 x hx).2]; decide)
  have n2 := flat_len (t := t) (l := [0].flatMap (nexts t)) fun x hx => full x (h1 x hx).1 (by rw [(h1 x hx).2]; decide)
  have n3 := flat_len (t := t) (l := ([0].flatMap (nexts t)).flatMap (nexts t)) fun x hx => full x (h2 x hx).1 (by rw [(h2 x hx).2]; decide)
  have nd : ((([0].flatMap (nexts t)).flatMap (nexts t)).flatMap (nexts t)).Nodup := flat_nodup (flat_nodup (flat_nodup (by simp)))
  have := nodup_le t.length _ nd fun x hx => (h3 x hx).1
  omega
/-! ### prices on both sides -/
/-- the same nodes, prices put otherwise up to a place -/
structure Fr (t u : List Nd) : Prop where
  par : ∀ j, j < u.length → par u j = par t j
  pr : ∀ (k : Nat) (n : Nd), u[k]? = some n → 0 ≤ n.2 ∧ n.2 ≤ 1000000000
  lt : u.length ≤ t.length
  one : ∀ j b, j < u.length → DL.par t j = some b → (nexts t b).length = 1 → prc u j = prc u b
  lo : ∀ j b, j < u.length → DL.par t j = some b → (nexts t b).length ≠ 1 → (nexts t b)[0]? = some j → prc u j ≤ prc u b
  hi : ∀ j b, j < u.length → DL.par t j = some b → (nexts t b).length ≠ 1 → (nexts t b)[0]? ≠ some j → (nexts t b)[(nexts t b).length - 1]? = some j → prc u b ≤ prc u j
theorem Fr.unf {m : Nat} {t u : List Nd} (h : Pre m t) (f : Fr t u) (hl : u.length = t.length) : Unf m u := by
  have hp : ∀ j, DL.par u j = DL.par t j := fun j => by
    by_cases c : j < u.length
    · exact f.par j c
    · unfold DL.par
      rw [List.getElem?_eq_none (by omega), List.getElem?_eq_none (by omega)]
  have ho : Ord u := fun k n e => by
    have hk := get_lt e
    obtain ⟨n2, e2⟩ : ∃ n2, t[k]? = some n2 := ⟨_, List.getElem?_eq_getElem (by omega)⟩
    have h1 : n.1 = n2.1 := by rw [← par_get e, ← par_get e2]; exact hp k
    rw [h1]
    exact h.ord k n2 e2
  have hn : ∀ k, nexts u k = nexts t k := fun k => by
    unfold nexts
    rw [hl]
    refine List.filter_congr fun j _ => ?_
    rw [hp j]
  refine ⟨⟨by rw [hl]; exact h.l1, by rw [hl]; exact h.lm, ho, f.pr, fun k hk => ?_, fun k => by rw [hn]; exact h.nx k⟩, fun k n e ne => ?_⟩
  · rw [tm_congr ho h.ord k fun j _ => hp j]
    exact h.tm k (by omega)
  · rw [hn] at ne ⊢
    have hk := prc_get e
    have len : 0 < (nexts t k).length := List.length_pos_iff.mpr ne
    obtain ⟨a, ea⟩ : ∃ a, (nexts t k)[0]? = some a := ⟨_, List.getElem?_eq_getElem len⟩
    obtain ⟨z, ez⟩ : ∃ z, (nexts t k)[(nexts t k).length - 1]? = some z := ⟨_, List.getElem?_eq_getElem (by omega)⟩
    have ma := List.mem_of_getElem? ea
    have mz := List.mem_of_getElem? ez
    obtain ⟨la, pa⟩ := mem_nexts.mp ma
    obtain ⟨lz, pz⟩ := mem_nexts.mp mz
    by_cases c : (nexts t k).length = 1
    · have := f.one a k (by omega) pa c
      rw [hk] at this
      exact ⟨⟨a, ma, by omega⟩, ⟨a, ma, by omega⟩⟩
    · have h1 := f.lo a k (by omega) pa c ea
      have haz : (nexts t k)[0]? ≠ some z := fun w => by
        have := nodup_get (nexts_nodup t k) w ez
        omega
      have h2 := f.hi z k (by omega) pz c haz ez
      rw [hk] at h1 h2
      exact ⟨⟨a, ma, h1⟩, ⟨z, mz, h2⟩⟩
theorem Fr.app {t u : List Nd} {b : Nat} {p : Int} (f : Fr t u) (hl : u.length < t.length) (ho : Ord t) (hp : DL.par t u.length = some b) (h0 : 0 ≤ p ∧ p ≤ 1000000000) (h1 : (nexts t b).length = 1 → p = prc u b)
    (h2 : (nexts t b).length ≠ 1 → (nexts t b)[0]? = some u.length → p ≤ prc u b) (h3 : (nexts t b).length ≠ 1 → (nexts t b)[0]? ≠ some u.length → (nexts t b)[(nexts t b).length - 1]? = some u.length → prc u b ≤ p) : Fr t (u ++ [(some b, p)]) := by
  have hb := par_lt ho hp
  have hj : ∀ j, j < (u ++ [((some b, p) : Nd)]).length → j < u.length ∨ j = u.length := fun j h => by rw [List.length_append, List.length_singleton] at h; omega
  have pb : ∀ j c, j < u.length ∨ j = u.length → DL.par t j = some c → c < u.length := fun j c h e => by
    have := par_lt ho e
    rcases h with h | h <;> omega
  refine ⟨fun j h => ?_, fun k n e => ?_, by rw [List.length_append, List.length_singleton]; omega, fun j c h e l => ?_, fun j c h e l z => ?_, fun j c h e l z z2 => ?_⟩
  · rcases hj j h with h | rfl
    · rw [par_app h]; exact f.par j h
    · rw [par_new, hp]
  · rcases get_app e with ⟨_, e⟩ | ⟨rfl, rfl⟩
    · exact f.pr k n e
    · exact h0
  · rw [prc_app (pb j c (hj j h) e)]
    rcases hj j h with h | rfl
    · rw [prc_app h]; exact f.one j c h e l
    · rw [hp] at e; cases e
      rw [prc_new]; exact h1 l
  · rw [prc_app (pb j c (hj j h) e)]
    rcases hj j h with h | rfl
    · rw [prc_app h]; exact f.lo j c h e l z
    · rw [hp] at e; cases e
      rw [prc_new]; exact h2 l z
  · rw [prc_app (pb j c (hj j h) e)]
    rcases hj j h with h | rfl
    · rw [prc_app h]; exact f.hi j c h e l z z2
    · rw [hp] at e; cases e
      rw [prc_new]; exact h3 l z z2
theorem Fr.one_node {t : List Nd} {n : Nd} (ho : Ord t) (e : t[0]? = some n) (h : 0 ≤ n.2 ∧ n.2 ≤ 1000000000) : Fr t [n] := by
  have z : ∀ {j : Nat}, j < [n].length → j = 0 := fun {j} h => by simp at h; exact h
  have no : ∀ j b, j < [n].length → DL.par t j = some b → False := fun j b h e => by
    have := par_lt ho e
    have := z h
    omega
  refine ⟨fun j h => ?_, fun k m e2 => ?_, by have := get_lt e; show 1 ≤ _; omega, fun j b h e => (no j b h e).elim, fun j b h e => (no j b h e).elim, fun j b h e => (no j b h e).elim⟩
  · rw [z h, par_get e]; rfl
  · cases k with
    | zero => cases e2; exact h
    | succ k => cases e2
theorem eqv_on {o : Option Nat} {b : Nat} : PyData.eqv (onD o) (.int (b : Int)) = decide (o = some b) := by
  cases o with
  | none => simp only [onD, PyData.eqv]; simp
  | some k =>
    show PyData.eqv (.int (k : Int)) (.int (b : Int)) = _
    rw [eqv_int]
    exact decide_eq (by constructor; intro h; congr 1; omega; intro h; injection h with h; omega)
theorem late_app {t : List Nd} {b : Nat} {p : Int} (h : Ord t) (hb : b < t.length) : (List.range (t ++ [((some b, p) : Nd)]).length).map (fun j : Nat => PyData.int (tm (t ++ [((some b, p) : Nd)]) j : Nat)) = (List.range t.length).map (fun j : Nat => PyData.int (tm t j : Nat)) ++ [PyData.int ((tm t b : Int) + 1)] := by
  rw [List.length_append, List.length_singleton, List.range_succ, List.map_append]
  congr 1
  · refine List.map_congr_left fun j hj => ?_
    rw [tm_app h hb (List.mem_range.mp hj)]
  · rw [List.map_cons, tm_new h hb]
    rfl
theorem counts_app {t : List Nd} {b : Nat} {p : Int} (h : Ord t) (hb : b < t.length) : (List.range (t ++ [((some b, p) : Nd)]).length).map (fun j : Nat => PyData.int ((nexts (t ++ [((some b, p) : Nd)]) j).length : Nat)) = ((List.range t.length).map (fun j : Nat => PyData.int ((nexts t j).length : Nat)) ++ [PyData.int 0]).set b (PyData.int (((nexts t b).length : Int) + 1)) := by
  apply List.ext_getElem?
  intro j
  rw [List.length_append, List.length_singleton, List.getElem?_map, List.getElem?_set]
  by_cases hj : j < t.length
  · rw [List.getElem?_range (by omega)]
    show some (PyData.int ((nexts (t ++ [((some b, p) : Nd)]) j).length : Nat)) = _
    rw [nexts_app, List.length_append]
    by_cases c : b = j
    · subst c
      rw [if_pos rfl, if_pos rfl, if_pos (by rw [List.length_append, List.length_map, List.length_range]; show b < _ + 1; omega)]
      rfl
    · rw [if_neg c, if_neg c, List.getElem?_append_left (by rw [List.length_map, List.length_range]; exact hj), List.getElem?_map, List.getElem?_range hj]
      rfl
  · rw [if_neg (by omega)]
    by_cases c : j = t.length
    · subst c
      rw [List.getElem?_range (by omega), List.getElem?_append_right (by rw [List.length_map, List.length_range]; exact Nat.le_refl _), List.length_map, List.length_range, Nat.sub_self]
      show some (PyData.int ((nexts (t ++ [((some b, p) : Nd)]) t.length).length : Nat)) = some (PyData.int 0)
      rw [nexts_app, if_neg (by omega), nexts_big h (Nat.le_refl _)]
      rfl
    · rw [List.getElem?_eq_none (by rw [List.length_range]; omega), List.getElem?_eq_none (by rw [List.length_append, List.length_map, List.length_range]; show t.length + 1 ≤ j; omega)]
      rfl
end DL

/-! Amounts reckoned on a pile. -/
namespace DL
open PySem PySem.Spec PyProof.Rows L2
theorem isi_amt (a : Amt) : isiD "tuple" (amtD a) = true := by cases a <;> rfl
def kids : Amt → List Amt
  | .bin _ l r => [l, r]
  | _ => []
/-- as they leave the pile -/
def ordA : Amt → List Amt
  | .num i => [.num i]
  | .price => [.price]
  | .time => [.time]
  | .bin o l r => .bin o l r :: (ordA r ++ ordA l)
theorem ordA_kids (a : Amt) : ordA a = a :: (kids a).reverse.flatMap ordA := by
  cases a <;> first | rfl | (simp [ordA, kids])
theorem ordA_mem : ∀ {a x : Amt}, x ∈ ordA a → a.ok → x.ok ∧ x.parts ≤ a.parts
  | .num i, x, h, ha => by rw [List.mem_singleton.mp h]; exact ⟨ha, Nat.le_refl _⟩
  | .price, x, h, ha => by rw [List.mem_singleton.mp h]; exact ⟨ha, Nat.le_refl _⟩
  | .time, x, h, ha => by rw [List.mem_singleton.mp h]; exact ⟨ha, Nat.le_refl _⟩
  | .bin o l r, x, h, ha => by
    have e : (Amt.bin o l r).parts = 1 + l.parts + r.parts := rfl
    rcases List.mem_cons.mp h with rfl | h
    · exact ⟨ha, Nat.le_refl _⟩
    · rcases List.mem_append.mp h with h | h
      · obtain ⟨h1, h2⟩ := ordA_mem h ha.2
        exact ⟨h1, by omega⟩
      · obtain ⟨h1, h2⟩ := ordA_mem h ha.1
        exact ⟨h1, by omega⟩
theorem ordA_len : ∀ a : Amt, (ordA a).length = a.parts
  | .num i => rfl
  | .price => rfl
  | .time => rfl
  | .bin o l r => by
    show (ordA r ++ ordA l).length + 1 = 1 + l.parts + r.parts
    rw [List.length_append, ordA_len l, ordA_len r]
    omega
def stpA (p t : Int) (π : List Int) : Amt → List Int
  | .bin o l r => π.dropLast.dropLast ++ [o.ap (l.val p t) (r.val p t)]
  | a => π ++ [a.val p t]
theorem dl2 {π : List Int} {x y : Int} : (π ++ [x, y]).dropLast = π ++ [x] ∧ (π ++ [x]).dropLast = π := by
  constructor
  · rw [show π ++ [x, y] = (π ++ [x]) ++ [y] by simp, List.dropLast_concat]
  · rw [List.dropLast_concat]
theorem rev_bin (o : Op) (l r : Amt) : (ordA (.bin o l r)).reverse = (ordA l).reverse ++ ((ordA r).reverse ++ [.bin o l r]) := by
  show ((.bin o l r) :: (ordA r ++ ordA l)).reverse = _
  rw [List.reverse_cons, List.reverse_append, List.append_assoc]
theorem foldA (p t : Int) : ∀ (a : Amt) (π : List Int), (ordA a).reverse.foldl (stpA p t) π = π ++ [a.val p t]
  | .num i, π => rfl
  | .price, π => rfl
  | .time, π => rfl
  | .bin o l r, π => by
    rw [rev_bin, List.foldl_append, List.foldl_append, foldA p t l, foldA p t r]
    show stpA p t (π ++ [l.val p t] ++ [r.val p t]) (.bin o l r) = _
    have e : π ++ [l.val p t] ++ [r.val p t] = π ++ [l.val p t, r.val p t] := by simp
    rw [e]
    show (π ++ [l.val p t, r.val p t]).dropLast.dropLast ++ _ = _
    rw [dl2.1, (dl2 (y := 0)).2]
    rfl
/-- at a pair the pile ends in its two -/
theorem pileA (p t : Int) : ∀ (a : Amt) (π : List Int) (k : Nat) (o : Op) (l r : Amt), (ordA a).reverse[k]? = some (.bin o l r) → ∃ ρ, ((ordA a).reverse.take k).foldl (stpA p t) π = ρ ++ [l.val p t, r.val p t]
  | .num i, π, k, o, l, r, h => by
    cases k with
    | zero => cases h
    | succ k => cases h
  | .price, π, k, o, l, r, h => by
    cases k with
    | zero => cases h
    | succ k => cases h
  | .time, π, k, o, l, r, h => by
    cases k with
    | zero => cases h
    | succ k => cases h
  | .bin o2 l2 r2, π, k, o, l, r, h => by
    rw [rev_bin] at h ⊢
    by_cases c1 : k < (ordA l2).reverse.length
    · rw [List.getElem?_append_left c1] at h
      rw [List.take_append_of_le_length (by omega)]
      exact pileA p t l2 π k o l r h
    · rw [List.getElem?_append_right (by omega)] at h
      rw [List.take_append, List.take_of_length_le (by omega), List.foldl_append, foldA p t l2]
      by_cases c2 : k - (ordA l2).reverse.length < (ordA r2).reverse.length
      · rw [List.getElem?_append_left c2] at h
        rw [List.take_append_of_le_length (by omega)]
        exact pileA p t r2 _ _ o l r h
      · rw [List.getElem?_append_right (by omega)] at h
        have e : k - (ordA l2).reverse.length - (ordA r2).reverse.length = 0 := by
          cases q : k - (ordA l2).reverse.length - (ordA r2).reverse.length with
          | zero => rfl
          | succ m => rw [q] at h; cases h
        rw [e] at h
        cases h
        rw [List.take_append, List.take_of_length_le (by omega), List.foldl_append, foldA p t _, e]
        exact ⟨π, by simp⟩
theorem sorted2 {a b : Int} {l : List Int} (hp : l.Perm [a, b]) (hs : l.Pairwise (· ≤ ·)) : l = [min2 a b, max2 a b] := by
  have hl := hp.length_eq
  match l, hl with
  | [x, y], _ =>
    have h1 : x ≤ y := by
      have := List.pairwise_cons.mp hs
      exact this.1 y (by simp)
    have h2 : x = a ∨ x = b := by simpa using hp.mem_iff (a := x)
    have key : (x = a ∧ y = b) ∨ (x = b ∧ y = a) := by
      rcases h2 with rfl | rfl
      · have := List.Perm.length_eq (List.Perm.cons_inv hp)
        have h3 := (List.Perm.cons_inv hp).mem_iff (a := y)
        simp at h3
        exact .inl ⟨rfl, h3⟩
      · have h4 := List.Perm.cons_inv (hp.trans (List.Perm.swap x a []))
        have h3 := h4.mem_iff (a := y)
        simp at h3
        exact .inr ⟨rfl, h3⟩
    unfold min2 max2
    rcases key with ⟨rfl, rfl⟩ | ⟨rfl, rfl⟩
    · congr 1
      · split <;> omega
      · congr 1
        split <;> omega
    · congr 1
      · split <;> omega
      · congr 1
        split <;> omega
theorem amt_tup (a : Amt) : ∃ ds, amtD a = .tuple ds := by cases a <;> exact ⟨_, rfl⟩
theorem put_last {ds : List D} {d : D} : (ds ++ [d])[(ds ++ [d]).length - 1]? = some d := by simp
theorem amt_lay : ∀ a : Amt, PyData.canLay0 (amtD a) = true ∧ PyData.depth (amtD a) ≤ a.parts
  | .num i => ⟨by show PyData.canLay0 (.tuple [.str (Str.ofString "number"), .int i]) = true; simp only [PyData.canLay0, PyData.canLayAll0]; decide +kernel, Nat.le_refl _⟩
  | .price => ⟨by decide +kernel, Nat.le_refl _⟩
  | .time => ⟨by decide +kernel, Nat.le_refl _⟩
  | .bin o l r => by
    obtain ⟨h1, h2⟩ := amt_lay l
    obtain ⟨h3, h4⟩ := amt_lay r
    have e : (Amt.bin o l r).parts = 1 + l.parts + r.parts := rfl
    have hs : PyData.canLay0 (.str o.str) = true := by cases o <;> decide +kernel
    refine ⟨?_, ?_⟩
    · show PyData.canLay0 (.tuple [.str o.str, amtD l, amtD r]) = true
      have hs2 : PyData.strOk o.str = true := by simpa [PyData.canLay0] using hs
      simp only [PyData.canLay0, PyData.canLayAll0, h1, h3, hs2, Bool.and_self]
    · show PyData.depth (.tuple [.str o.str, amtD l, amtD r]) ≤ _
      simp only [PyData.depth, PyData.depthAll]
      omega
theorem shaped_amts {l : List Amt} (h : ∀ a ∈ l, a.parts ≤ 60) : SeqAt.shaped (.list (l.map amtD)) = true := by
  refine shaped_list (fun d hd => ?_) (fun d hd => ?_)
  · obtain ⟨a, _, rfl⟩ := List.mem_map.mp hd; exact (amt_lay a).1
  · obtain ⟨a, ha, rfl⟩ := List.mem_map.mp hd; exact Nat.le_trans (amt_lay a).2 (Nat.le_trans (h a ha) (by decide))
theorem eqv_ne_nil {ds : List D} (h : ds ≠ []) : PyData.eqv (.list ds) (.list []) = false := by
  cases ds with
  | nil => exact absurd rfl h
  | cons d r => simp only [PyData.eqv, PyData.eqvAll]
theorem eqv_nil : PyData.eqv (.list []) (.list []) = true := by simp only [PyData.eqv, PyData.eqvAll]
theorem kids_sum (x : Amt) : ((kids x).map Amt.parts).sum + 1 = x.parts := by
  cases x with
  | bin o l r =>
    show (l.parts + (r.parts + 0)) + 1 = 1 + l.parts + r.parts
    omega
  | _ => rfl
theorem sum_mem {l : List Nat} {x : Nat} (h : x ∈ l) : x ≤ l.sum := by
  induction l with
  | nil => cases h
  | cons y r ih =>
    rw [List.sum_cons]
    rcases List.mem_cons.mp h with rfl | h
    · omega
    · have := ih h; omega
theorem eqv_bl (a b : Bool) : PyData.eqv (.bool a) (.bool b) = (a == b) := by simp only [PyData.eqv]
end DL

namespace KX
open PySem PySem.Spec PyProof.Rows L2 DL
def top (i : Nat) : Stmt := PySem.Challenge.pw_hedgewright_k03_amounts_and_signs.main.body.getD i (.Pass ⟨0, 0, 0, 0⟩)
structure Top (K : PySem.W.Frag) (mg : Str → Option Value) : Prop where
  b_min : mg "min" = none
  b_max : mg "max" = none
  b_len : mg "len" = none
  b_range : mg "range" = none
  b_isinstance : mg "isinstance" = none
  b_tuple : mg "tuple" = none
  b_sorted : mg "sorted" = none
  b_int : mg "int" = none
  b_list : mg "list" = none
  b_bool : mg "bool" = none
end KX
namespace KX
open PySem PySem.Spec PyProof.Rows L2 DL
section
variable {P : Program} {w : World} {K : PySem.W.Frag} {mg : Str → Option Value} {base : Heap}
theorem lt_bits {x : Int} {k : Nat} (h : Builtin.Int.intBits x ≤ k) : Bt k x := by
  unfold Builtin.Int.intBits at h
  unfold Bt
  split at h
  · rename_i hz
    have : x = 0 := by simpa using hz
    subst this
    exact Nat.two_pow_pos k
  · rename_i hz
    have h0 : x.natAbs ≠ 0 := by
      intro z
      have : x = 0 := by omega
      simp [this] at hz
    exact (Nat.log2_lt h0).mp (by omega)

theorem lit_ne {a b : Str} {A B : Prop} (h : PySem.Str.cps a ≠ PySem.Str.cps b) (hB : B) : bifP (PyData.eqv (.str a) (.str b)) A B := by
  have e : PyData.eqv (.str a) (.str b) = (a == b) := by simp only [PyData.eqv]
  rw [e]
  exact bif_false (beq_false_of_ne fun z => h (by rw [z])) hB
theorem lit_eq {a b : Str} {A B : Prop} (h : a = b) (hA : A) : bifP (PyData.eqv (.str a) (.str b)) A B := by
  have e : PyData.eqv (.str a) (.str b) = (a == b) := by simp only [PyData.eqv]
  rw [e, h]
  exact bif_true (by simp) hA
abbrev st_time_of : Stmt := top 1
abbrev NN_time_of : List Str := ["tree", "node", "found"]
theorem sc_time_of : FnScope ["tree", "node", "found"] ["tree", "node"] (defScope st_time_of) := ⟨rfl, rfl, rfl, by decide +kernel, rfl, by decide +kernel, by decide +kernel⟩
def S_time_of : SP := fun ds _ P => ∃ (t : List Nd) (k : Nat), ds = [.list (t.map ndD), .int k] ∧ (Ord t) ∧ (k < t.length) ∧ P (.int (tm t k : Nat))
theorem m_time_of : MonoS S_time_of := fun _ _ _ _ _ _ hP ⟨t, k, e, h0, h1, qq⟩ => ⟨t, k, e, h0, h1, hP _ qq⟩
theorem l_time_of : ∀ ds E P, S_time_of ds E P → ds.length = 2 := fun _ _ _ ⟨t, k, e, _⟩ => by rw [e]; rfl

theorem ok_time_of (T : Top K mg) (A : DefAt K mg "time_of" st_time_of ["tree", "node"]) : CalD P w K mg base CX0 1 "time_of" ["tree", "node"] S_time_of := by
  refine calD A sc_time_of m_time_of l_time_of (fun f cdv A outer s H E hr Γ => ⟨_, (db_cons (dp_set 2 sc_time_of.nd de_int)
    (db_cons (dp_while PassesOwn.never (dt_notN (de_ix (de_ix (de_var 0) (de_var 1)) de_int))
    (db_cons (dp_set 1 sc_time_of.nd (de_ix (de_ix (de_var 0) (de_var 1)) de_int))
    (db_one (dp_set 2 sc_time_of.nd (de_add (de_var 2) de_int)))))
    (db_one (dp_ret (de_var 2))))), fun ds E P h => ?_⟩)
  obtain ⟨t, k, rfl, ho, hk, hP⟩ := h
  refine cut1 (fun δ => δ = [some (.sh (.list (t.map ndD))), some (.sh (.int k)), some (.sh (.int 0))]) (fun P' h => h _ rfl) ?_
  rintro δ rfl
  refine ⟨fun m δ => ∃ (j f : Nat), δ = [some (.sh (.list (t.map ndD))), some (.sh (.int j)), some (.sh (.int (f : Int)))] ∧ j = m ∧ j < t.length ∧ f + tm t j = tm t k, ⟨k, k, 0, rfl, rfl, hk, by omega⟩, ?_⟩
  rintro m δ ⟨j, f, rfl, rfl, hj, hf⟩
  obtain ⟨n, hn⟩ : ∃ n, t[j]? = some n := ⟨_, List.getElem?_eq_getElem hj⟩
  refine optK_some (nd_at hn) ?_
  have ep := par_get hn
  cases e : n.1 with
  | none =>
    have e2 : ndD n = .tuple [.none, .int n.2] := by unfold ndD; rw [e]; rfl
    rw [e2]
    rw [tm_none (ep.trans e)] at hf
    have : f = tm t k := by omega
    subst this
    exact hP
  | some b =>
    have e2 : ndD n = .tuple [.int (b : Int), .int n.2] := by unfold ndD; rw [e]; rfl
    have hb := par_lt ho (ep.trans e)
    rw [tm_some ho (ep.trans e)] at hf
    rw [e2]
    refine optK_some (nd_at hn) ?_
    rw [e2]
    exact ⟨b, hb, b, f + 1, by rfl, rfl, by omega, by omega⟩
abbrev st_amount_at : Stmt := top 3
abbrev NN_amount_at : List Str := ["tree", "node", "amount", "kind", "one", "other"]
theorem sc_amount_at : FnScope ["tree", "node", "amount", "kind", "one", "other"] ["tree", "node", "amount"] (defScope st_amount_at) := ⟨rfl, rfl, rfl, by decide +kernel, rfl, by decide +kernel, by decide +kernel⟩
def S_amount_at (d : Nat) : SP := fun ds _ P => ∃ (t : List Nd) (k : Nat) (a : Amt), ds = [.list (t.map ndD), .int k, amtD a] ∧ (Pre 40 t) ∧ (k < t.length) ∧ (a.ok) ∧ (a.deep < d) ∧ (a.parts ≤ 1000) ∧ P (.int (a.val (prc t k) (tm t k)))
theorem m_amount_at (d : Nat) : MonoS (S_amount_at d) := fun _ _ _ _ _ _ hP ⟨t, k, a, e, h0, h1, h2, h3, h4, qq⟩ => ⟨t, k, a, e, h0, h1, h2, h3, h4, hP _ qq⟩
theorem l_amount_at (d : Nat) : ∀ ds E P, S_amount_at d ds E P → ds.length = 3 := fun _ _ _ ⟨t, k, a, e, _⟩ => by rw [e]; rfl

theorem ok_amount_at (T : Top K mg) (A : DefAt K mg "amount_at" st_amount_at ["tree", "node", "amount"]) (C_time_of : CalD P w K mg base CX0 1 "time_of" ["tree", "node"] S_time_of) : ∀ d : Nat, CalD P w K mg base CX0 (2 + d) "amount_at" ["tree", "node", "amount"] (S_amount_at d) := by
  intro d
  induction d with
  | zero => exact calD_none A sc_amount_at (m_amount_at 0) (fun _ _ _ h => by obtain ⟨t, k, a, _, _, _, _, h4, _, _⟩ := h; exact absurd h4 (Nat.not_lt_zero _))
  | succ d C_amount_at =>
  refine calD (k := 2 + d) A sc_amount_at (m_amount_at (d + 1)) (l_amount_at (d + 1)) (fun f cdv A outer s H E hr Γ => ⟨_, (db_cons (dp_set 3 sc_amount_at.nd (de_ix (de_var 2) de_int))
    (db_cons (dp_if (dt_eq (hu64 hr) (de_var 3) de_str)
    (db_one (dp_ret (de_ix (de_var 2) de_int)))
    db_nil)
    (db_cons (dp_if (dt_eq (hu64 hr) (de_var 3) de_str)
    (db_one (dp_ret (de_ix (de_ix (de_var 0) (de_var 1)) de_int)))
    db_nil)
    (db_cons (dp_if (dt_eq (hu64 hr) (de_var 3) de_str)
    (db_one (dp_ret (de_cal C_time_of hr (by omega) (fun _ => passZ) (da_cons (de_var 0) (da_cons (de_var 1) da_nil)))))
    db_nil)
    (db_cons (dp_set 4 sc_amount_at.nd (de_cal C_amount_at hr (by omega) (fun _ => passZ) (da_cons (de_var 0) (da_cons (de_var 1) (da_cons (de_ix (de_var 2) de_int) da_nil)))))
    (db_cons (dp_set 5 sc_amount_at.nd (de_cal C_amount_at hr (by omega) (fun _ => passZ) (da_cons (de_var 0) (da_cons (de_var 1) (da_cons (de_ix (de_var 2) de_int) da_nil)))))
    (db_cons (dp_if (dt_eq (hu64 hr) (de_var 3) de_str)
    (db_one (dp_ret (de_add (de_var 4) (de_var 5))))
    db_nil)
    (db_cons (dp_if (dt_eq (hu64 hr) (de_var 3) de_str)
    (db_one (dp_ret (de_sub (de_var 4) (de_var 5))))
    db_nil)
    (db_cons (dp_if (dt_eq (hu64 hr) (de_var 3) de_str)
    (db_one (dp_ret (de_mul (de_var 4) (de_var 5))))
    db_nil)
    (db_cons (dp_if (dt_eq (hu64 hr) (de_var 3) de_str)
    (db_one (dp_ret (de_max2 T.b_max (da_cons (de_var 4) (da_cons (de_var 5) da_nil)))))
    db_nil)
    (db_one (dp_ret (de_min2 T.b_min (da_cons (de_var 4) (da_cons (de_var 5) da_nil))))))))))))))), fun ds E P h => ?_⟩)
  obtain ⟨t, k, a, rfl, ht, hk, ha, hd, hp9, hP⟩ := h
  obtain ⟨n, hn⟩ : ∃ n, t[k]? = some n := ⟨_, List.getElem?_eq_getElem hk⟩
  cases a with
  | num i => exact hP
  | price =>
    refine optK_some (nd_at hn) ?_
    rw [show (Amt.price).val (prc t k) (tm t k) = n.2 from prc_get hn] at hP
    exact hP
  | time => exact ⟨t, k, rfl, ht.ord, hk, hP⟩
  | bin o a b =>
    have e2 : (Amt.bin o a b).deep = 1 + max a.deep b.deep := rfl
    have e3 : (Amt.bin o a b).parts = 1 + a.parts + b.parts := rfl
    have bp : Bt 30 (prc t k) := by
      rw [prc_get hn]
      have := ht.pr k n hn
      exact Bt.of_lt (by omega) (by omega)
    have bt : Bt 30 (tm t k : Int) := by
      have := ht.tm k hk
      exact Bt.of_lt (by omega) (by omega)
    have ba := Amt.bt bp bt ha.1
    have bb := Amt.bt bp bt ha.2
    have cm : a.parts ≤ 1000 → b.parts ≤ 1000 → CMulX (a.val (prc t k) (tm t k)) (b.val (prc t k) (tm t k)) := fun h1 h2 => ba.cm bb (by omega)
    cases o <;> refine ⟨t, k, a, rfl, ht, hk, ha.1, by omega, by omega, t, k, b, rfl, ht, hk, ha.2, by omega, by omega, ?_⟩
    · exact hP
    · exact hP
    · exact ⟨cm (by omega) (by omega), hP⟩
    · exact hP
    · exact hP
abbrev st_sign_at : Stmt := top 4
abbrev NN_sign_at : List Str := ["tree", "node", "sign", "one", "other"]
theorem sc_sign_at : FnScope ["tree", "node", "sign", "one", "other"] ["tree", "node", "sign"] (defScope st_sign_at) := ⟨rfl, rfl, rfl, by decide +kernel, rfl, by decide +kernel, by decide +kernel⟩
def S_sign_at : SP := fun ds _ P => ∃ (t : List Nd) (k : Nat) (s : Sgn), ds = [.list (t.map ndD), .int k, sgnD s] ∧ (Pre 40 t) ∧ (k < t.length) ∧ (s.ok) ∧ (s.deep ≤ 9) ∧ (s.parts ≤ 1000) ∧ P (.bool (s.holds (prc t k) (tm t k)))
theorem m_sign_at : MonoS S_sign_at := fun _ _ _ _ _ _ hP ⟨t, k, s, e, h0, h1, h2, h3, h4, qq⟩ => ⟨t, k, s, e, h0, h1, h2, h3, h4, hP _ qq⟩
theorem l_sign_at : ∀ ds E P, S_sign_at ds E P → ds.length = 3 := fun _ _ _ ⟨t, k, s, e, _⟩ => by rw [e]; rfl

theorem ok_sign_at (T : Top K mg) (A : DefAt K mg "sign_at" st_sign_at ["tree", "node", "sign"]) (C_amount_at : CalD P w K mg base CX0 12 "amount_at" ["tree", "node", "amount"] (S_amount_at 10)) : CalD P w K mg base CX0 13 "sign_at" ["tree", "node", "sign"] S_sign_at := by
  refine calD A sc_sign_at m_sign_at l_sign_at (fun f cdv A outer s H E hr Γ => ⟨_, (db_cons (dp_set 3 sc_sign_at.nd (de_cal C_amount_at hr (by decide) (fun _ => passZ) (da_cons (de_var 0) (da_cons (de_var 1) (da_cons (de_ix (de_var 2) de_int) da_nil)))))
    (db_cons (dp_set 4 sc_sign_at.nd (de_cal C_amount_at hr (by decide) (fun _ => passZ) (da_cons (de_var 0) (da_cons (de_var 1) (da_cons (de_ix (de_var 2) de_int) da_nil)))))
    (db_cons (dp_if (dt_eq (hu64 hr) (de_ix (de_var 2) de_int) de_str)
    (db_one (dp_ret (de_lt (de_var 3) (de_var 4))))
    db_nil)
    (db_one (dp_ret (de_le (de_var 3) (de_var 4))))))), fun ds E P h => ?_⟩)
  obtain ⟨t, k, s, rfl, ht, hk, hs, hd, hp9, hP⟩ := h
  obtain ⟨u, a, b⟩ := s
  have e2 : (Sgn.mk u a b).deep = max a.deep b.deep := rfl
  have e3 : (Sgn.mk u a b).parts = 1 + a.parts + b.parts := rfl
  cases u <;> exact ⟨t, k, a, rfl, ht, hk, hs.1, by omega, by omega, t, k, b, rfl, ht, hk, hs.2, by omega, by omega, hP⟩
abbrev st__law_cell : Stmt := top 7
abbrev NN__law_cell : List Str := ["_law_cells", "_law_spot", "_law_k", "_law_base", "_law_own", "_law_turn"]
theorem sc__law_cell : FnScope ["_law_cells", "_law_spot", "_law_k", "_law_base", "_law_own", "_law_turn"] ["_law_cells", "_law_spot"] (defScope st__law_cell) := ⟨rfl, rfl, rfl, by decide +kernel, rfl, by decide +kernel, by decide +kernel⟩
def S__law_cell : SPI := fun ds P => ∃ (ns : List Int) (k : Nat), ds = [.list (ns.map PyData.int), .list [.int (k : Int)]] ∧ (ns.length ≤ 63) ∧ (∀ z ∈ ns, Builtin.Int.intBits z ≤ 1048576) ∧ (k < 2 ^ 30) ∧ ∀ (v : Int), (0 ≤ v) → (v < 306783379) → P (.int v) [[.int ((k + 1 : Nat) : Int)]]
theorem m__law_cell : MonoI S__law_cell := fun _ _ _ hP ⟨ns, k, e, h0, h1, h2, qq⟩ => ⟨ns, k, e, h0, h1, h2, fun v c0 c1 => hP _ _ (qq v c0 c1)⟩
theorem l__law_cell : ∀ ds P, S__law_cell ds P → ds.length = 2 := fun _ _ ⟨ns, k, e, _⟩ => by rw [e]; rfl

theorem ok__law_cell (T : Top K mg) (A : DefAt K mg "_law_cell" st__law_cell ["_law_cells", "_law_spot"]) : CalI P w K mg base CX0 1 "_law_cell" ["_law_cells", "_law_spot"] [1] S__law_cell := by
  refine calI (js := [1]) A sc__law_cell m__law_cell l__law_cell (fun f cdv A outer s H E hr Γ => ⟨_, (db_cons (dp_setIx 1 (pv 1) (de_add (de_ixO 1 (pv 1) de_int) de_int) de_int (fun h1 h2 => pg_sub h1 h2 set_list) (fun h1 h2 => ps_asg h1 h2))
    (db_cons (dp_set 2 sc__law_cell.nd (de_ixO 1 (pv 1) de_int))
    (db_cons (dp_set 3 sc__law_cell.nd (de_add (de_mul (de_mul de_int (de_var 2)) (de_var 2)) (de_mul de_int (de_var 2))))
    (db_cons (dp_if (DW.dt (dw_and (dt_gt (de_len T.b_len (da_cons (de_var 0) da_nil)) de_int) (dw_and (dt_ge (de_ix (de_var 0) (de_mod (de_var 2) (de_len T.b_len (da_cons (de_var 0) da_nil)))) (de_pow de_int de_int)) (dw_and1 (dt_lt (de_fdiv (de_var 2) (de_len T.b_len (da_cons (de_var 0) da_nil))) de_int)))))
    (db_cons (dp_set 4 sc__law_cell.nd (de_ix (de_var 0) (de_mod (de_var 2) (de_len T.b_len (da_cons (de_var 0) da_nil)))))
    (db_cons (dp_for (vs := [5]) PassesOwn.never (di_range1 T.b_range (de_fdiv (de_var 2) (de_len T.b_len (da_cons (de_var 0) da_nil)))) (dg_name 5 sc__law_cell.nd)
    (db_one (dp_set 4 sc__law_cell.nd (de_fdiv (de_var 4) de_int))))
    (db_one (dp_if (dt_gt (de_var 4) de_int)
    (db_one (dp_ret (de_mod (de_var 4) de_int)))
    db_nil))))
    db_nil)
    (db_cons (dp_if (dt_gt (de_len T.b_len (da_cons (de_var 0) da_nil)) de_int)
    (db_one (dp_set 3 sc__law_cell.nd (de_add (de_var 3) (de_mul (de_ix (de_var 0) (de_mod (de_var 2) (de_len T.b_len (da_cons (de_var 0) da_nil)))) (de_add de_int (de_fdiv (de_var 2) (de_len T.b_len (da_cons (de_var 0) da_nil))))))))
    db_nil)
    (db_one (dp_ret (de_fdiv (de_mod (de_mul (de_var 3) de_int) de_int) de_int)))))))), fun ds P h => ?_⟩)
  obtain ⟨ns, k, rfl, hl, hb, hk, hP⟩ := h
  have bk : Bt 31 ((k : Int) + 1) := Bt.of_lt (by omega) (by omega)
  have b2 : Bt 36 (31 * ((k : Int) + 1)) := (by decide : Bt 5 31).mul bk
  have b3 : Bt 67 (31 * ((k : Int) + 1) * ((k : Int) + 1)) := b2.mul bk
  have b4 : Bt 44 (7919 * ((k : Int) + 1)) := (by decide : Bt 13 7919).mul bk
  have b5 : Bt 68 (31 * ((k : Int) + 1) * ((k : Int) + 1) + 7919 * ((k : Int) + 1)) := b3.add (b4.mono (by decide))
  have ll : ((ns.map PyData.int).length : Int) = ns.length := by rw [List.length_map]
  refine cut3 (fun δ => δ = [some (.sh (.list (ns.map PyData.int))), some (.io (.lst [.int ((k + 1 : Nat) : Int)])), some (.sh (.int ((k : Int) + 1))), some (.sh (.int (31 * ((k : Int) + 1) * ((k : Int) + 1) + 7919 * ((k : Int) + 1)))), none, none]) (fun P' h => ⟨(by decide : Bt 5 31).cm bk (by decide), b2.cm bk (by decide), (by decide : Bt 13 7919).cm bk (by decide), h _ rfl⟩) ?_
  rintro δ rfl
  generalize 31 * ((k : Int) + 1) * ((k : Int) + 1) + 7919 * ((k : Int) + 1) = base at *
  refine cut1r (fun δ => ∃ a b : Option Sl, δ = [some (.sh (.list (ns.map PyData.int))), some (.io (.lst [.int ((k + 1 : Nat) : Int)])), some (.sh (.int ((k : Int) + 1))), some (.sh (.int base)), a, b]) ?_ ?_
  · intro P' hP' hR
    refine bif_dec (fun h => ?_) (fun h => ?_)
    · have h : (0 : Int) < ((ns.map PyData.int).length : Int) := h
      have hl0 : 0 < ns.length := by omega
      obtain ⟨z, hz, ez⟩ := atI_mod hl0 ((k : Int) + 1)
      have cd : CDivW ((k : Int) + 1) ((ns.map PyData.int).length : Int) := (Bt.of_lt (by omega) (by omega) : Bt 31 ((ns.map PyData.int).length : Int)).cd h (by decide)
      refine ⟨h, optK_some ez ?_⟩
      refine ⟨⟨by decide, by decide, by decide⟩, ?_⟩
      refine bif_dec (fun h2 => ?_) (fun h2 => ?_)
      · refine ⟨cd, ?_⟩
        refine bif_dec (fun h3 => ?_) (fun h3 => ?_)
        · refine ⟨h, optK_some ez ?_⟩
          refine ⟨cd, ⟨?_, ?_⟩, ?_⟩
          · have := Int.ediv_nonneg (show (0 : Int) ≤ (k : Int) + 1 by omega) (Int.le_of_lt h)
            omega
          · have := Int.ediv_le_self ((ns.map PyData.int).length : Int) (show (0 : Int) ≤ (k : Int) + 1 by omega)
            omega
          · refine forK_nat (fun j δ => ∃ (o : Int) (b : Option Sl), δ = [some (.sh (.list (ns.map PyData.int))), some (.io (.lst [.int ((k + 1 : Nat) : Int)])), some (.sh (.int ((k : Int) + 1))), some (.sh (.int base)), some (.sh (.int o)), b] ∧ notIo b = true) ?_ ?_ _ ⟨z, none, rfl, rfl⟩
            · rintro δ ⟨o, b, rfl, hb2⟩
              refine bif_dec (fun h4 => ?_) (fun h4 => ?_)
              · exact ⟨(by show (0 : Int) < _; decide), hR _ _ (hP _ (Int.emod_nonneg _ (by decide)) (Int.emod_lt_of_pos _ (by decide)))⟩
              · exact hP' _ ⟨_, _, rfl⟩
            · rintro j i δ hj ⟨o, b, rfl, hb2⟩ F hF
              refine nameG_of hb2 ?_
              exact ⟨(by decide : Bt 31 306783379).cd (by decide) (by decide), hF _ ⟨_, _, rfl, rfl⟩⟩
        · exact hP' _ ⟨_, _, rfl⟩
      · exact hP' _ ⟨_, _, rfl⟩
    · exact hP' _ ⟨_, _, rfl⟩
  · rintro δ ⟨a, b, rfl⟩
    refine cutR (fun δ => ∃ (o : Int) (a b : Option Sl), δ = [some (.sh (.list (ns.map PyData.int))), some (.io (.lst [.int ((k + 1 : Nat) : Int)])), some (.sh (.int ((k : Int) + 1))), some (.sh (.int o)), a, b] ∧ Builtin.Int.intBits o ≤ 1048700) ?_ ?_
    · intro P' hP'
      refine bif_dec (fun h => ?_) (fun h => ?_)
      · have h : (0 : Int) < ((ns.map PyData.int).length : Int) := h
        have hl0 : 0 < ns.length := by omega
        obtain ⟨z, hz, ez⟩ := atI_mod hl0 ((k : Int) + 1)
        have cd : CDivW ((k : Int) + 1) ((ns.map PyData.int).length : Int) := (Bt.of_lt (by omega) (by omega) : Bt 31 ((ns.map PyData.int).length : Int)).cd h (by decide)
        have q1 := Int.ediv_nonneg (show (0 : Int) ≤ (k : Int) + 1 by omega) (Int.le_of_lt h)
        have q2 := Int.ediv_le_self ((ns.map PyData.int).length : Int) (show (0 : Int) ≤ (k : Int) + 1 by omega)
        have bz : Bt 1048576 z := lt_bits (hb z hz)
        have bq : Bt 31 (1 + ((k : Int) + 1) / ((ns.map PyData.int).length : Int)) := Bt.of_lt (by omega) (by omega)
        refine ⟨h, optK_some ez ?_⟩
        refine ⟨cd, bz.cm bq (by decide), ?_⟩
        have h9 : Bt (1048576 + 31 + 1) (base + z * (1 + ((k : Int) + 1) / ((ns.map PyData.int).length : Int))) := Bt.add (k := 1048576 + 31) (b5.mono (by omega)) (bz.mul bq)
        have h10 := bits_lt h9
        exact hP' _ ⟨_, _, _, rfl, by omega⟩
      · exact hP' _ ⟨_, _, _, rfl, Nat.le_trans (bits_lt b5) (by omega)⟩
    · rintro δ ⟨o, a, b, rfl, ho⟩
      refine ⟨?_, (by show (0 : Int) < _; decide), (by decide : Bt 31 7).cd (by decide) (by decide), ?_⟩
      · unfold CMulX
        have := bits_lt (by decide : Bt 16 48271)
        omega
      · have e1 := Int.emod_nonneg (o * 48271) (show (2147483647 : Int) ≠ 0 by decide)
        have e2 := Int.emod_lt_of_pos (o * 48271) (show (0 : Int) < 2147483647 by decide)
        exact hP _ (by omega) (by omega)
abbrev st__law_price : Stmt := top 8
abbrev NN__law_price : List Str := ["_law_n", "_law_low", "_law_high"]
theorem sc__law_price : FnScope ["_law_n", "_law_low", "_law_high"] ["_law_n", "_law_low", "_law_high"] (defScope st__law_price) := ⟨rfl, rfl, rfl, by decide +kernel, rfl, by decide +kernel, by decide +kernel⟩
def S__law_price : SP := fun ds _ P => ∃ (n lo hi : Int), ds = [.int n, .int lo, .int hi] ∧ (0 ≤ n) ∧ (n < 306783379) ∧ (lo ≤ hi) ∧ (Bt 31 lo) ∧ (Bt 31 hi) ∧ ∀ (v : Int), (lo ≤ v) → (v ≤ hi) → P (.int v)
theorem m__law_price : MonoS S__law_price := fun _ _ _ _ _ _ hP ⟨n, lo, hi, e, h0, h1, h2, h3, h4, qq⟩ => ⟨n, lo, hi, e, h0, h1, h2, h3, h4, fun v c0 c1 => hP _ (qq v c0 c1)⟩
theorem l__law_price : ∀ ds E P, S__law_price ds E P → ds.length = 3 := fun _ _ _ ⟨n, lo, hi, e, _⟩ => by rw [e]; rfl

theorem ok__law_price (T : Top K mg) (A : DefAt K mg "_law_price" st__law_price ["_law_n", "_law_low", "_law_high"]) : CalD P w K mg base CX0 1 "_law_price" ["_law_n", "_law_low", "_law_high"] S__law_price := by
  refine calD A sc__law_price m__law_price l__law_price (fun f cdv A outer s H E hr Γ => ⟨_, (db_one (dp_ret (de_add (de_var 1) (de_mod (de_mul (de_var 0) (de_pow de_int de_int)) (de_add (de_sub (de_var 2) (de_var 1)) de_int))))), fun ds E P h => ?_⟩)
  obtain ⟨n, lo, hi, rfl, h0, h1, h2, bl, bh, hP⟩ := h
  have bn : Bt 29 n := Bt.of_lt (by omega) (by omega)
  have e2 : (48271 : Int) ^ (2 : Int).toNat = 2330089441 := by decide +kernel
  refine ⟨⟨by decide, by decide, by decide⟩, ?_, by show 0 < hi - lo + 1; omega, ?_⟩
  · rw [e2]
    exact bn.cm (by decide : Bt 32 _) (by decide)
  · have m0 := Int.emod_nonneg (n * 48271 ^ (2 : Int).toNat) (show hi - lo + 1 ≠ 0 by omega)
    have m1 := Int.emod_lt_of_pos (n * 48271 ^ (2 : Int).toNat) (show 0 < hi - lo + 1 by omega)
    exact hP _ (by omega) (by omega)
end
end KX

namespace KX
open PySem PySem.Spec PyProof.Rows L2 DL
section
variable {P : Program} {w : World} {K : PySem.W.Frag} {mg : Str → Option Value} {base : Heap}
abbrev st__law_fair : Stmt := top 10
abbrev NN__law_fair : List Str := ["_law_tree_here", "_law_great", "_law_found", "_law_k", "_law_before", "_law_price_here", "_law_next_ones", "_law_own", "_law_j"]
theorem sc__law_fair : FnScope ["_law_tree_here", "_law_great", "_law_found", "_law_k", "_law_before", "_law_price_here", "_law_next_ones", "_law_own", "_law_j"] ["_law_tree_here", "_law_great"] (defScope st__law_fair) := ⟨rfl, rfl, rfl, by decide +kernel, rfl, by decide +kernel, by decide +kernel⟩
def S__law_fair : SP := fun ds _ P => ∃ (t : List Nd) (g : Int), ds = [.list (t.map ndD), .int g] ∧ (Pre 40 t) ∧ ∀ (u : List Nd), (Unf 40 u) → (u.length = t.length) → P (.list (u.map ndD))
theorem m__law_fair : MonoS S__law_fair := fun _ _ _ _ _ _ hP ⟨t, g, e, h0, qq⟩ => ⟨t, g, e, h0, fun u c0 c1 => hP _ (qq u c0 c1)⟩
theorem l__law_fair : ∀ ds E P, S__law_fair ds E P → ds.length = 2 := fun _ _ _ ⟨t, g, e, _⟩ => by rw [e]; rfl

theorem ok__law_fair (T : Top K mg) (A : DefAt K mg "_law_fair" st__law_fair ["_law_tree_here", "_law_great"]) : CalD P w K mg base CX0 1 "_law_fair" ["_law_tree_here", "_law_great"] S__law_fair := by
  refine calD A sc__law_fair m__law_fair l__law_fair (fun f cdv A outer s H E hr Γ => ⟨_, (db_cons (dp_setN 2 sc__law_fair.nd (dn_lst (da_cons (de_ix (de_var 0) de_int) da_nil)))
    (db_cons (dp_for (vs := [3]) PassesOwn.never (di_r2 T.b_range de_int (de_len T.b_len (da_cons (de_var 0) da_nil))) (dg_name 3 sc__law_fair.nd)
    (db_cons (dp_set 4 sc__law_fair.nd (de_ix (de_ix (de_var 0) (de_var 3)) de_int))
    (db_cons (dp_set 5 sc__law_fair.nd (de_ix (de_ixO 2 (pv 2) (de_var 4)) de_int))
    (db_cons (dp_setLc2 6 [("_law_j", 8)] sc__law_fair.nd (di_range1 T.b_range (de_len T.b_len (da_cons (de_var 0) da_nil))) (blkOk_by (N := NN__law_fair) (sc := defScope st__law_fair) (by decide +kernel)) (fun _ _ _ _ _ => (dg_name 8 sc__law_fair.nd)) (fun _ _ _ _ _ => (dts_one (dt_eq (hu64 hr) (de_ix (de_ix (de_var 0) (de_var 8)) de_int) (de_var 4)))) (fun _ _ _ _ _ => (de_var 8))).2
    (db_cons (dp_set 7 sc__law_fair.nd (de_ix (de_ix (de_var 0) (de_var 3)) de_int))
    (db_cons (dp_if (dt_eq (hu64 hr) (de_len T.b_len (da_cons (de_var 6) da_nil)) de_int)
    (db_one (dp_set 7 sc__law_fair.nd (de_var 5)))
    (db_one (dp_if (dt_eq (hu64 hr) (de_var 3) (de_ix (de_var 6) de_int))
    (db_one (dp_set 7 sc__law_fair.nd (de_min2 T.b_min (da_cons (de_var 7) (da_cons (de_var 5) da_nil)))))
    (db_one (dp_if (dt_eq (hu64 hr) (de_var 3) (de_ix (de_var 6) (de_neg de_int)))
    (db_one (dp_set 7 sc__law_fair.nd (de_max2 T.b_max (da_cons (de_var 7) (da_cons (de_var 5) da_nil)))))
    db_nil)))))
    (db_one (dp_app 2 (fun h => pe_bm PySem.F.plainAttrs_list PySem.F.slot_list_append PySem.F.type_list_append mt_append (pv 2) h) (de_tup (da_cons (de_var 4) (da_cons (de_var 7) da_nil)))))))))))
    (db_one (dp_ret (de_var 2))))), fun ds E P h => ?_⟩)
  obtain ⟨t, g, rfl, ht, hP⟩ := h
  have a4 : (1000000 : Nat) + 10 < sizeLine := by decide
  have l1 := ht.l1
  have lm := ht.lm
  obtain ⟨n0, hn0⟩ : ∃ n, t[0]? = some n := ⟨_, List.getElem?_eq_getElem (by omega)⟩
  refine cut1 (fun δ => δ = [some (.sh (.list (t.map ndD))), some (.sh (.int g)), some (.ow (.lst ([n0].map ndD))), none, none, none, none, none, none]) (fun P' h => optK_some (atI_map (j := 0) hn0) (h _ rfl)) ?_
  rintro δ rfl
  have ll : ((t.map ndD).length : Int) = t.length := by rw [List.length_map]
  have lt1 : (((t.map ndD).length : Int) - 1).toNat = t.length - 1 := by omega
  refine ⟨⟨by decide, by decide, by omega, by omega⟩, ?_⟩
  rw [lt1]
  refine forK_nat (xs := List.range (t.length - 1)) (g := fun i => PyData.int (1 + (i : Nat))) (fun i δ => ∃ (u : List Nd) (a3 a4 a5 a6 a7 a8 : Option Sl), Fr t u ∧ u.length = i + 1 ∧ (notIo a3 = true ∧ notIo a4 = true ∧ notIo a5 = true ∧ notIo a6 = true ∧ notIo a7 = true ∧ notIo a8 = true) ∧
      δ = [some (.sh (.list (t.map ndD))), some (.sh (.int g)), some (.ow (.lst (u.map ndD))), a3, a4, a5, a6, a7, a8]) ?_ ?_ _ ⟨[n0], none, none, none, none, none, none, .one_node ht.ord hn0 (ht.pr 0 n0 hn0), rfl, ⟨rfl, rfl, rfl, rfl, rfl, rfl⟩, rfl⟩
  · rintro δ ⟨u, a3, a4, a5, a6, a7, a8, f, hu, _, rfl⟩
    rw [List.length_range] at hu
    exact hP u (f.unf ht (by omega)) (by omega)
  · rintro i x δ hi ⟨u, a3, a4', a5, a6, a7, a8, f, hu, ⟨h3, h4, h5, h6, h7, h8⟩, rfl⟩ F hF
    obtain ⟨rfl, hi⟩ := range_get hi
    refine nameG_of h3 ?_
    obtain ⟨n, hn⟩ : ∃ n, t[u.length]? = some n := ⟨_, List.getElem?_eq_getElem (by omega)⟩
    have ek : (1 + (x : Nat) : Int) = (u.length : Int) := by omega
    rw [ek]
    obtain ⟨b, eb⟩ : ∃ b, n.1 = some b := by
      cases q : n.1 with
      | none => have := (ht.ord _ n hn).1.mp q; omega
      | some b => exact ⟨b, rfl⟩
    have pk : par t u.length = some b := (par_get hn).trans eb
    have hb := par_lt ht.ord pk
    have en : ndD n = .tuple [.int (b : Int), .int n.2] := by unfold ndD; rw [eb]; rfl
    obtain ⟨v, hv⟩ : ∃ v, u[b]? = some v := ⟨_, List.getElem?_eq_getElem hb⟩
    have pv := prc_get hv
    have bn := ht.pr _ n hn
    have bv := f.pr _ v hv
    refine cut2 (fun δ => δ = [some (.sh (.list (t.map ndD))), some (.sh (.int g)), some (.ow (.lst (u.map ndD))), some (.sh (.int u.length)), some (.sh (.int b)), some (.sh (.int v.2)), a6, a7, a8]) ?_ ?_
    · intro P' h
      refine optK_some (nd_at hn) ?_
      rw [en]
      refine setK_of h4 ?_
      refine optK_some (nd_at hv) ?_
      exact setK_of h5 (h _ rfl)
    · rintro δ rfl
      refine cut1 (fun δ => ∃ a8 : Option Sl, notIo a8 = true ∧ δ = [some (.sh (.list (t.map ndD))), some (.sh (.int g)), some (.ow (.lst (u.map ndD))), some (.sh (.int u.length)), some (.sh (.int b)), some (.sh (.int v.2)), some (.sh (.list ((nexts t b).map fun j : Nat => PyData.int (0 + (j : Int))))), a7, a8]) ?_ ?_
      · intro P' h
        refine ⟨⟨by omega, by omega⟩, ?_, ?_⟩
        · unfold rangeL
          rw [List.length_map, List.length_range]
          omega
        · refine ioG_of (by show (notIo a8 && true) = true; rw [h8]; rfl) ?_
          have e9 : ((t.map ndD).length : Int).toNat = t.length := by omega
          show lcK _ _ _ _ _ (rangeL 0 ((t.map ndD).length : Int).toNat) _ _
          rw [e9]
          refine lcK_fm (xs := List.range t.length) (g := fun i => PyData.int (0 + (i : Nat))) (fun j => bif decide (par t j = some b) then some (.int (0 + (j : Int))) else none) ?_ ?_
          · intro j hj acc F2 hF2
            have hj := List.mem_range.mp hj
            obtain ⟨m, hm⟩ : ∃ m, t[j]? = some m := ⟨_, List.getElem?_eq_getElem hj⟩
            have e10 : (0 + (j : Nat) : Int) = (j : Int) := by omega
            rw [e10] at hF2 ⊢
            refine optK_some (nd_at hm) ?_
            refine eqG_of ?_ ?_
            · show EqOk (onD m.1) (.int b)
              cases m.1 <;> exact .inl rfl
            · show bifP (PyData.eqv (onD m.1) (.int b)) _ _
              rw [DL.eqv_on]
              rw [par_get hm] at hF2
              cases q : decide (m.1 = some b) with
              | true => rw [q] at hF2; exact hF2
              | false =>
                rw [q, cond_false, Option.toList_none, List.append_nil] at hF2
                exact hF2
          · rw [filterMap_if]
            refine setK_of h6 ?_
            refine h _ ⟨keepD a8, ?_, rfl⟩
            cases a8 with
            | none => rfl
            | some s => cases s <;> first | rfl | cases h8
      · rintro δ ⟨b8, h8, rfl⟩
        have mem : u.length ∈ nexts t b := mem_nexts.mpr ⟨by omega, pk⟩
        have len : 0 < (nexts t b).length := List.length_pos_iff.mpr (List.ne_nil_of_mem mem)
        obtain ⟨z0, e0⟩ : ∃ a, (nexts t b)[0]? = some a := ⟨_, List.getElem?_eq_getElem len⟩
        obtain ⟨z9, e9⟩ : ∃ z, (nexts t b)[(nexts t b).length - 1]? = some z := ⟨_, List.getElem?_eq_getElem (by omega)⟩
        have ln : (((nexts t b).map fun j : Nat => PyData.int (0 + (j : Int))).length : Int) = (nexts t b).length := by rw [List.length_map]
        refine cut2 (fun δ => ∃ (p : Int), (0 ≤ p ∧ p ≤ 1000000000) ∧ ((nexts t b).length = 1 → p = v.2) ∧ ((nexts t b).length ≠ 1 → (nexts t b)[0]? = some u.length → p ≤ v.2) ∧ ((nexts t b).length ≠ 1 → (nexts t b)[0]? ≠ some u.length → (nexts t b)[(nexts t b).length - 1]? = some u.length → v.2 ≤ p) ∧
          δ = [some (.sh (.list (t.map ndD))), some (.sh (.int g)), some (.ow (.lst (u.map ndD))), some (.sh (.int u.length)), some (.sh (.int b)), some (.sh (.int v.2)), some (.sh (.list ((nexts t b).map fun j : Nat => PyData.int (0 + (j : Int))))), some (.sh (.int p)), b8]) ?_ ?_
        · intro P' h
          refine optK_some (nd_at hn) ?_
          rw [en]
          refine setK_of h7 ?_
          refine bif_eqi (fun w => ?_) (fun w => ?_)
          · have w : (((nexts t b).map fun j : Nat => PyData.int (0 + (j : Int))).length : Int) = 1 := w
            exact h _ ⟨v.2, bv, fun _ => rfl, fun z => absurd (by omega) z, fun z => absurd (by omega) z, rfl⟩
          · have w : (((nexts t b).map fun j : Nat => PyData.int (0 + (j : Int))).length : Int) ≠ 1 := w
            refine optK_some (atI_map (j := 0) e0) ?_
            refine bif_eqi (fun w2 => ?_) (fun w2 => ?_)
            · refine h _ ⟨min2 n.2 v.2, ?_, fun z => absurd (by omega) w, fun _ _ => ?_, fun _ z => absurd (by rw [e0]; congr 1; omega) z, rfl⟩
              · unfold min2; split <;> omega
              · unfold min2; split <;> omega
            · have e10 : atI ((nexts t b).map fun j : Nat => PyData.int (0 + (j : Int))) (-1) = some (.int (0 + (z9 : Int))) := by
                have e11 : ((nexts t b).map fun j : Nat => PyData.int (0 + (j : Int)))[((nexts t b).map fun j : Nat => PyData.int (0 + (j : Int))).length - 1]? = some (.int (0 + (z9 : Int))) := by
                  rw [List.length_map, List.getElem?_map, e9]; rfl
                exact atI_neg1 e11
              refine optK_some e10 ?_
              refine bif_eqi (fun w3 => ?_) (fun w3 => ?_)
              · refine h _ ⟨max2 n.2 v.2, ?_, fun z => absurd (by omega) w, fun _ z => ?_, fun _ _ _ => ?_, rfl⟩
                · unfold max2; split <;> omega
                · rw [e0] at z; injection z with z; exact absurd (by omega) w2
                · unfold max2; split <;> omega
              · refine h _ ⟨n.2, bn, fun z => absurd (by omega) w, fun _ z => ?_, fun _ _ z => ?_, rfl⟩
                · rw [e0] at z; injection z with z; exact absurd (by omega) w2
                · rw [e9] at z; injection z with z; exact absurd (by omega) w3
        · rintro δ ⟨p, h0, h1, h2, h3', rfl⟩
          rw [← pv] at h1 h2 h3'
          refine ⟨by rw [List.length_map]; omega, ?_⟩
          exact hF _ ⟨u ++ [(some b, p)], _, _, _, _, _, _, f.app (by omega) ht.ord pk h0 h1 h2 h3', by rw [List.length_append, List.length_singleton]; omega, ⟨rfl, rfl, rfl, rfl, rfl, h8⟩, by rw [List.map_append]; rfl⟩
end
end KX

namespace KX
open PySem PySem.Spec PyProof.Rows L2 DL
section
variable {P : Program} {w : World} {K : PySem.W.Frag} {mg : Str → Option Value} {base : Heap}
abbrev st__law_tree : Stmt := top 9
abbrev NN__law_tree : List Str := ["_law_cells", "_law_spot", "_law_most", "_law_n", "_law_many", "_law_great", "_law_tree_here", "_law_late", "_law_counts", "_law_k", "_law_before", "_law_price_here", "_law_low", "_law_high"]
theorem sc__law_tree : FnScope ["_law_cells", "_law_spot", "_law_most", "_law_n", "_law_many", "_law_great", "_law_tree_here", "_law_late", "_law_counts", "_law_k", "_law_before", "_law_price_here", "_law_low", "_law_high"] ["_law_cells", "_law_spot", "_law_most"] (defScope st__law_tree) := ⟨rfl, rfl, rfl, by decide +kernel, rfl, by decide +kernel, by decide +kernel⟩
def S__law_tree : SPI := fun ds P => ∃ (ns : List Int) (k : Nat) (most : Int), ds = [.list (ns.map PyData.int), .list [.int (k : Int)], .int most] ∧ (ns.length ≤ 63) ∧ (∀ z ∈ ns, Builtin.Int.intBits z ≤ 1048576) ∧ (k < 2 ^ 29) ∧ (1 ≤ most) ∧ (most ≤ 40) ∧ ∀ (u : List Nd) (k2 : Nat), (Unf 40 u) → ((u.length : Int) ≤ most) → (k2 ≤ k + 41) → P (.list (u.map ndD)) [[.int (k2 : Int)]]
theorem m__law_tree : MonoI S__law_tree := fun _ _ _ hP ⟨ns, k, most, e, h0, h1, h2, h3, h4, qq⟩ => ⟨ns, k, most, e, h0, h1, h2, h3, h4, fun u k2 c0 c1 c2 => hP _ _ (qq u k2 c0 c1 c2)⟩
theorem l__law_tree : ∀ ds P, S__law_tree ds P → ds.length = 3 := fun _ _ ⟨ns, k, most, e, _⟩ => by rw [e]; rfl

theorem ok__law_tree (T : Top K mg) (A : DefAt K mg "_law_tree" st__law_tree ["_law_cells", "_law_spot", "_law_most"]) (C__law_cell : CalI P w K mg base CX0 1 "_law_cell" ["_law_cells", "_law_spot"] [1] S__law_cell) (C__law_fair : CalD P w K mg base CX0 1 "_law_fair" ["_law_tree_here", "_law_great"] S__law_fair) (C__law_price : CalD P w K mg base CX0 1 "_law_price" ["_law_n", "_law_low", "_law_high"] S__law_price) : CalI P w K mg base CX0 2 "_law_tree" ["_law_cells", "_law_spot", "_law_most"] [1] S__law_tree := by
  refine calI (js := [1]) A sc__law_tree m__law_tree l__law_tree (fun f cdv A outer s H E hr Γ => ⟨_, (db_cons (dp_set 3 sc__law_tree.nd (de_calI C__law_cell hr (by decide) (fun _ => passZ) (dai_cons (de_var 0) (dai_lend 1 (pv 1) dai_nil))))
    (db_cons (dp_set 4 sc__law_tree.nd (de_add de_int (de_mod (de_var 3) (de_var 2))))
    (db_cons (dp_set 5 sc__law_tree.nd (de_ix (de_lst (da_cons de_int (da_cons de_int (da_cons (de_pow de_int de_int) da_nil)))) (de_mod (de_fdiv (de_var 3) de_int) de_int)))
    (db_cons (dp_setN 6 sc__law_tree.nd (dn_lst (da_cons (de_tup (da_cons de_non (da_cons (de_cal C__law_price hr (by decide) (fun _ => passZ) (da_cons (de_var 3) (da_cons de_int (da_cons (de_var 5) da_nil)))) da_nil))) da_nil)))
    (db_cons (dp_setN 7 sc__law_tree.nd (dn_lst (da_cons de_int da_nil)))
    (db_cons (dp_setN 8 sc__law_tree.nd (dn_lst (da_cons de_int da_nil)))
    (db_cons (dp_for (vs := [9]) PassesOwn.never (di_r2 T.b_range de_int (de_var 4)) (dg_name 9 sc__law_tree.nd)
    (db_cons (dp_set 3 sc__law_tree.nd (de_calI C__law_cell hr (by decide) (fun _ => passZ) (dai_cons (de_var 0) (dai_lend 1 (pv 1) dai_nil))))
    (db_cons (dp_set 10 sc__law_tree.nd (de_mod (de_var 3) (de_var 9)))
    (db_cons (dp_if (dt_gt (de_mod (de_fdiv (de_var 3) de_int) de_int) de_int)
    (db_one (dp_set 10 sc__law_tree.nd (de_max2 T.b_max (da_cons de_int (da_cons (de_sub (de_sub (de_var 9) de_int) (de_mod (de_fdiv (de_var 3) de_int) de_int)) da_nil)))))
    db_nil)
    (db_cons (dp_while PassesOwn.never (DW.dt (dw_or (dt_eq (hu64 hr) (de_ixO 8 (pv 8) (de_var 10)) de_int) (dw_or1 (dt_eq (hu64 hr) (de_ixO 7 (pv 7) (de_var 10)) de_int))))
    (db_one (dp_set 10 sc__law_tree.nd (de_mod (de_add (de_var 10) de_int) (de_var 9)))))
    (db_cons (dp_set 11 sc__law_tree.nd (de_ix (de_ixO 6 (pv 6) (de_var 10)) de_int))
    (db_cons (dp_set 12 sc__law_tree.nd (de_ix (de_lst (da_cons (de_var 11) (da_cons de_int (da_cons (de_var 11) (da_cons de_int da_nil))))) (de_mod (de_fdiv (de_var 3) de_int) de_int)))
    (db_cons (dp_set 13 sc__law_tree.nd (de_ix (de_lst (da_cons (de_var 11) (da_cons (de_var 11) (da_cons (de_var 5) (da_cons (de_var 5) da_nil))))) (de_mod (de_fdiv (de_var 3) de_int) de_int)))
    (db_cons (dp_app 6 (fun h => pe_bm PySem.F.plainAttrs_list PySem.F.slot_list_append PySem.F.type_list_append mt_append (pv 6) h) (de_tup (da_cons (de_var 10) (da_cons (de_cal C__law_price hr (by decide) (fun _ => passZ) (da_cons (de_var 3) (da_cons (de_var 12) (da_cons (de_var 13) da_nil)))) da_nil))))
    (db_cons (dp_app 7 (fun h => pe_bm PySem.F.plainAttrs_list PySem.F.slot_list_append PySem.F.type_list_append mt_append (pv 7) h) (de_add (de_ixO 7 (pv 7) (de_var 10)) de_int))
    (db_cons (dp_app 8 (fun h => pe_bm PySem.F.plainAttrs_list PySem.F.slot_list_append PySem.F.type_list_append mt_append (pv 8) h) de_int)
    (db_one (dp_setIx 8 (pv 8) (de_add (de_ixO 8 (pv 8) (de_var 10)) de_int) (de_var 10) (fun h1 h2 => pg_sub h1 h2 set_list) (fun h1 h2 => ps_asg h1 h2))))))))))))))
    (db_one (dp_ret (de_cal C__law_fair hr (by decide) (fun _ => passZ) (da_cons (de_var 6) (da_cons (de_var 5) da_nil)))))))))))), fun ds P h => ?_⟩)
  obtain ⟨ns, k, most, rfl, hl, hb, hk, hm1, hm2, hP⟩ := h
  have a4 : (1000000 : Nat) + 10 < sizeLine := by decide
  have d40 : ∀ n : Int, CDivW n 40 := fun n => (by decide : Bt 31 40).cd (by decide) (by decide)
  have d120 : ∀ n : Int, CDivW n 120 := fun n => (by decide : Bt 31 120).cd (by decide) (by decide)
  have d360 : ∀ n : Int, CDivW n 360 := fun n => (by decide : Bt 31 360).cd (by decide) (by decide)
  refine cut1 (fun δ => ∃ n : Int, (0 ≤ n ∧ n < 306783379) ∧ δ = [some (.sh (.list (ns.map PyData.int))), some (.io (.lst [.int ((k + 1 : Nat) : Int)])), some (.sh (.int most)), some (.sh (.int n)), none, none, none, none, none, none, none, none, none, none]) (fun P' h => ⟨ns, k, rfl, hl, hb, by omega, fun v v0 v1 => h _ ⟨v, ⟨v0, v1⟩, rfl⟩⟩) ?_
  rintro δ ⟨n, ⟨n0, n1⟩, rfl⟩
  refine cut2 (fun δ => ∃ (m : Nat) (g : Int), (1 ≤ m ∧ (m : Int) ≤ most) ∧ (20 ≤ g ∧ g ≤ 1000000000) ∧ δ = [some (.sh (.list (ns.map PyData.int))), some (.io (.lst [.int ((k + 1 : Nat) : Int)])), some (.sh (.int most)), some (.sh (.int n)), some (.sh (.int (m : Int))), some (.sh (.int g)), none, none, none, none, none, none, none, none]) ?_ ?_
  · intro P' h
    have m0 := Int.emod_nonneg n (show most ≠ 0 by omega)
    have m1 := Int.emod_lt_of_pos n (show 0 < most by omega)
    refine ⟨by omega, ⟨by decide, by decide, by decide⟩, d40 n, (by show (0 : Int) < _; decide), ?_⟩
    refine atI_all (by omega) (by show n / 40 % 3 < 3; omega) (fun d hd => ?_)
    have e9 : ((10 : Int) ^ (9 : Int).toNat) = 1000000000 := by decide
    have hd : d ∈ [PyData.int 20, PyData.int 1000, PyData.int 1000000000] := by rw [← e9]; exact hd
    obtain ⟨g, rfl, g0, g1⟩ : ∃ g, d = .int g ∧ 20 ≤ g ∧ g ≤ 1000000000 := by
      simp only [List.mem_cons, List.not_mem_nil, or_false] at hd
      rcases hd with rfl | rfl | rfl
      · exact ⟨_, rfl, by decide, by decide⟩
      · exact ⟨_, rfl, by decide, by decide⟩
      · exact ⟨_, rfl, by decide, by decide⟩
    refine h _ ⟨(1 + n % most).toNat, g, ⟨by omega, by omega⟩, ⟨g0, g1⟩, ?_⟩
    rw [show (((1 + n % most).toNat : Nat) : Int) = 1 + n % most by omega]
    rfl
  · rintro δ ⟨m, g, ⟨hm0, hmm⟩, ⟨g0, g1⟩, rfl⟩
    have bg : Bt 31 g := Bt.of_lt (by omega) (by omega)
    refine cut3 (fun δ => ∃ p : Int, (0 ≤ p ∧ p ≤ g) ∧ δ = [some (.sh (.list (ns.map PyData.int))), some (.io (.lst [.int ((k + 1 : Nat) : Int)])), some (.sh (.int most)), some (.sh (.int n)), some (.sh (.int (m : Int))), some (.sh (.int g)), some (.ow (.lst ([((none, p) : Nd)].map ndD))), some (.ow (.lst [.int 0])), some (.ow (.lst [.int 0])), none, none, none, none, none]) ?_ ?_
    · intro P' h
      exact ⟨n, 0, g, rfl, n0, n1, by omega, by decide, bg, fun v v0 v1 => h _ ⟨v, ⟨v0, v1⟩, rfl⟩⟩
    · rintro δ ⟨p, ⟨p0, p1⟩, rfl⟩
      refine ⟨⟨by decide, by decide, by omega, by omega⟩, ?_⟩
      have em : ((m : Int) - 1).toNat = m - 1 := by omega
      rw [em]
      refine forK_nat (xs := List.range (m - 1)) (g := fun i => PyData.int (1 + (i : Nat))) (fun i δ => ∃ (t : List Nd) (c : Nat) (a3 a9 a10 a11 a12 a13 : Option Sl), Pre 40 t ∧ t.length = i + 1 ∧ c ≤ k + 1 + i ∧ (∀ x ∈ t, x.2 ≤ g) ∧ (notIo a3 = true ∧ notIo a9 = true ∧ notIo a10 = true ∧ notIo a11 = true ∧ notIo a12 = true ∧ notIo a13 = true) ∧
        δ = [some (.sh (.list (ns.map PyData.int))), some (.io (.lst [.int (c : Int)])), some (.sh (.int most)), a3, some (.sh (.int (m : Int))), some (.sh (.int g)), some (.ow (.lst (t.map ndD))), some (.ow (.lst ((List.range t.length).map fun j : Nat => PyData.int (tm t j : Nat)))), some (.ow (.lst ((List.range t.length).map fun j : Nat => PyData.int ((nexts t j).length : Nat)))), a9, a10, a11, a12, a13]) ?_ ?_ _
        ⟨[(none, p)], k + 1, _, none, none, none, none, none, pre_one (by decide) ⟨p0, by omega⟩, rfl, by omega, fun x hx => by rw [List.mem_singleton.mp hx]; exact p1, ⟨rfl, rfl, rfl, rfl, rfl, rfl⟩, rfl⟩
      · rintro δ ⟨t, c, a3, a9, a10, a11, a12, a13, ht, hlen, hc, hg, _, rfl⟩
        rw [List.length_range] at hlen hc
        exact ⟨t, g, rfl, ht, fun u hu hlu => hP u c hu (by omega) (by omega)⟩
      · rintro i x δ hi ⟨t, c, a3, a9, a10, a11, a12, a13, ht, hlen, hc, hg, ⟨h3, h9, h10, h11, h12, h13⟩, rfl⟩ F hF
        obtain ⟨rfl, hi⟩ := range_get hi
        refine nameG_of h9 ?_
        have ek : (1 + (x : Nat) : Int) = (t.length : Int) := by omega
        rw [ek]
        have l40 : t.length < 40 := by omega
        refine cut1 (fun δ => ∃ n : Int, (0 ≤ n ∧ n < 306783379) ∧ δ = [some (.sh (.list (ns.map PyData.int))), some (.io (.lst [.int ((c + 1 : Nat) : Int)])), some (.sh (.int most)), some (.sh (.int n)), some (.sh (.int (m : Int))), some (.sh (.int g)), some (.ow (.lst (t.map ndD))), some (.ow (.lst ((List.range t.length).map fun j : Nat => PyData.int (tm t j : Nat)))), some (.ow (.lst ((List.range t.length).map fun j : Nat => PyData.int ((nexts t j).length : Nat)))), some (.sh (.int (t.length : Int))), a10, a11, a12, a13]) ?_ ?_
        · intro P' h
          refine ⟨ns, c, rfl, hl, hb, by omega, fun v v0 v1 => ?_⟩
          exact setK_of h3 (h _ ⟨v, ⟨v0, v1⟩, rfl⟩)
        · rintro δ ⟨n, ⟨n0, n1⟩, rfl⟩
          refine cut2 (fun δ => ∃ b : Nat, b < t.length ∧ δ = [some (.sh (.list (ns.map PyData.int))), some (.io (.lst [.int ((c + 1 : Nat) : Int)])), some (.sh (.int most)), some (.sh (.int n)), some (.sh (.int (m : Int))), some (.sh (.int g)), some (.ow (.lst (t.map ndD))), some (.ow (.lst ((List.range t.length).map fun j : Nat => PyData.int (tm t j : Nat)))), some (.ow (.lst ((List.range t.length).map fun j : Nat => PyData.int ((nexts t j).length : Nat)))), some (.sh (.int (t.length : Int))), some (.sh (.int (b : Int))), a11, a12, a13]) ?_ ?_
          · intro P' h
            have m0 := Int.emod_nonneg n (show (t.length : Int) ≠ 0 by omega)
            have m1 := Int.emod_lt_of_pos n (show 0 < (t.length : Int) by omega)
            refine ⟨by omega, ?_⟩
            refine setK_of h10 ?_
            refine ⟨d40 n, (by show (0 : Int) < _; decide), ?_⟩
            refine bif_dec (fun w => ?_) (fun w => ?_)
            · refine ⟨d120 n, (by show (0 : Int) < _; decide), ?_⟩
              refine h _ ⟨(max2 0 ((t.length : Int) - 1 - n / 120 % 3)).toNat, ?_, ?_⟩
              · unfold max2; split <;> omega
              · rw [show (((max2 0 ((t.length : Int) - 1 - n / 120 % 3)).toNat : Nat) : Int) = max2 0 ((t.length : Int) - 1 - n / 120 % 3) by unfold max2; split <;> omega]
                rfl
            · refine h _ ⟨(n % (t.length : Int)).toNat, by omega, ?_⟩
              rw [show (((n % (t.length : Int)).toNat : Nat) : Int) = n % (t.length : Int) by omega]
              rfl
          · rintro δ ⟨b0, hb0, rfl⟩
            have rg : ∀ {f : Nat → D} {j : Nat}, j < t.length → atI ((List.range t.length).map f) (j : Int) = some (f j) := fun {f j} hj => atI_map (by rw [List.getElem?_range hj])
            refine cut1 (fun δ => ∃ b : Nat, b < t.length ∧ (nexts t b).length ≠ 4 ∧ tm t b ≠ 7 ∧ δ = [some (.sh (.list (ns.map PyData.int))), some (.io (.lst [.int ((c + 1 : Nat) : Int)])), some (.sh (.int most)), some (.sh (.int n)), some (.sh (.int (m : Int))), some (.sh (.int g)), some (.ow (.lst (t.map ndD))), some (.ow (.lst ((List.range t.length).map fun j : Nat => PyData.int (tm t j : Nat)))), some (.ow (.lst ((List.range t.length).map fun j : Nat => PyData.int ((nexts t j).length : Nat)))), some (.sh (.int (t.length : Int))), some (.sh (.int (b : Int))), a11, a12, a13]) ?_ ?_
            · intro P' h
              obtain ⟨jj, j1, j2, j3⟩ := room ht (by omega)
              refine ⟨fun μ δ => ∃ b : Nat, b < t.length ∧ (b ≤ jj ∧ μ = jj - b ∨ jj < b ∧ μ = jj + t.length - b) ∧ δ = [some (.sh (.list (ns.map PyData.int))), some (.io (.lst [.int ((c + 1 : Nat) : Int)])), some (.sh (.int most)), some (.sh (.int n)), some (.sh (.int (m : Int))), some (.sh (.int g)), some (.ow (.lst (t.map ndD))), some (.ow (.lst ((List.range t.length).map fun j : Nat => PyData.int (tm t j : Nat)))), some (.ow (.lst ((List.range t.length).map fun j : Nat => PyData.int ((nexts t j).length : Nat)))), some (.sh (.int (t.length : Int))), some (.sh (.int (b : Int))), a11, a12, a13], ?_, ?_⟩
              · by_cases w : b0 ≤ jj
                · exact ⟨_, b0, hb0, .inl ⟨w, rfl⟩, rfl⟩
                · exact ⟨_, b0, hb0, .inr ⟨by omega, rfl⟩, rfl⟩
              · rintro μ δ ⟨b, hb, hμ, rfl⟩
                have stepB : b ≠ jj → ∃ b2 : Nat, b2 < t.length ∧ ((b : Int) + 1) % (t.length : Int) = (b2 : Int) ∧ ∃ μ2, μ2 < μ ∧ (b2 ≤ jj ∧ μ2 = jj - b2 ∨ jj < b2 ∧ μ2 = jj + t.length - b2) := fun w => by
                  by_cases e : b + 1 = t.length
                  · refine ⟨0, by omega, ?_, jj, by omega, .inl ⟨by omega, by omega⟩⟩
                    rw [show ((b : Int) + 1) = (t.length : Int) by omega]
                    simp
                  · refine ⟨b + 1, by omega, ?_, μ - 1, by omega, by omega⟩
                    rw [Int.emod_eq_of_lt (by omega) (by omega)]
                    rfl
                refine optK_some (rg hb) ?_
                refine bif_eqi (fun w => ?_) (fun w => ?_)
                · have w : (((nexts t b).length : Nat) : Int) = 4 := w
                  obtain ⟨b2, h2, e2, μ2, h3', h4⟩ := stepB (fun z => by subst z; omega)
                  refine ⟨by omega, μ2, h3', b2, h2, h4, ?_⟩
                  rw [← e2]
                  rfl
                · have w : (((nexts t b).length : Nat) : Int) ≠ 4 := w
                  refine optK_some (rg hb) ?_
                  refine bif_eqi (fun w2 => ?_) (fun w2 => ?_)
                  · have w2 : ((tm t b : Nat) : Int) = 7 := w2
                    obtain ⟨b2, h2, e2, μ2, h3', h4⟩ := stepB (fun z => by subst z; omega)
                    refine ⟨by omega, μ2, h3', b2, h2, h4, ?_⟩
                    rw [← e2]
                    rfl
                  · have w2 : ((tm t b : Nat) : Int) ≠ 7 := w2
                    exact h _ ⟨b, hb, by omega, by omega, rfl⟩
            · rintro δ ⟨b, hb', hb4, hb7, rfl⟩
              obtain ⟨v, hv⟩ : ∃ v, t[b]? = some v := ⟨_, List.getElem?_eq_getElem hb'⟩
              have hgv := hg v (get_mem hv)
              have pvv := ht.pr b v hv
              refine cut3 (fun δ => ∃ lo hi : Int, (0 ≤ lo ∧ lo ≤ hi ∧ hi ≤ g) ∧ δ = [some (.sh (.list (ns.map PyData.int))), some (.io (.lst [.int ((c + 1 : Nat) : Int)])), some (.sh (.int most)), some (.sh (.int n)), some (.sh (.int (m : Int))), some (.sh (.int g)), some (.ow (.lst (t.map ndD))), some (.ow (.lst ((List.range t.length).map fun j : Nat => PyData.int (tm t j : Nat)))), some (.ow (.lst ((List.range t.length).map fun j : Nat => PyData.int ((nexts t j).length : Nat)))), some (.sh (.int (t.length : Int))), some (.sh (.int (b : Int))), some (.sh (.int v.2)), some (.sh (.int lo)), some (.sh (.int hi))]) ?_ ?_
              · intro P' h
                refine optK_some (nd_at hv) ?_
                refine setK_of h11 ?_
                refine ⟨d360 n, (by show (0 : Int) < _; decide), ?_⟩
                rcases (show n / 360 % 4 = 0 ∨ n / 360 % 4 = 1 ∨ n / 360 % 4 = 2 ∨ n / 360 % 4 = 3 by omega) with he | he | he | he
                · refine optK_some (a := .int v.2) (by show atI [PyData.int v.2, .int 0, .int v.2, .int 0] (n / 360 % 4) = _; rw [he]; rfl) (setK_of h12 ⟨d360 n, (by show (0 : Int) < _; decide), optK_some (a := .int v.2) (by show atI [PyData.int v.2, .int v.2, .int g, .int g] (n / 360 % 4) = _; rw [he]; rfl) (setK_of h13 (h _ ⟨v.2, v.2, ⟨by omega, by omega, by omega⟩, rfl⟩))⟩)
                · refine optK_some (a := .int 0) (by show atI [PyData.int v.2, .int 0, .int v.2, .int 0] (n / 360 % 4) = _; rw [he]; rfl) (setK_of h12 ⟨d360 n, (by show (0 : Int) < _; decide), optK_some (a := .int v.2) (by show atI [PyData.int v.2, .int v.2, .int g, .int g] (n / 360 % 4) = _; rw [he]; rfl) (setK_of h13 (h _ ⟨0, v.2, ⟨by omega, by omega, by omega⟩, rfl⟩))⟩)
                · refine optK_some (a := .int v.2) (by show atI [PyData.int v.2, .int 0, .int v.2, .int 0] (n / 360 % 4) = _; rw [he]; rfl) (setK_of h12 ⟨d360 n, (by show (0 : Int) < _; decide), optK_some (a := .int g) (by show atI [PyData.int v.2, .int v.2, .int g, .int g] (n / 360 % 4) = _; rw [he]; rfl) (setK_of h13 (h _ ⟨v.2, g, ⟨by omega, by omega, by omega⟩, rfl⟩))⟩)
                · refine optK_some (a := .int 0) (by show atI [PyData.int v.2, .int 0, .int v.2, .int 0] (n / 360 % 4) = _; rw [he]; rfl) (setK_of h12 ⟨d360 n, (by show (0 : Int) < _; decide), optK_some (a := .int g) (by show atI [PyData.int v.2, .int v.2, .int g, .int g] (n / 360 % 4) = _; rw [he]; rfl) (setK_of h13 (h _ ⟨0, g, ⟨by omega, by omega, by omega⟩, rfl⟩))⟩)
              · rintro δ ⟨lo, hi, ⟨q0, q1, q2⟩, rfl⟩
                refine ⟨n, lo, hi, rfl, n0, n1, q1, Bt.of_lt (by omega) (by omega), Bt.of_lt (by omega) (by omega), fun w w0 w1 => ?_⟩
                refine ⟨by rw [List.length_map]; omega, ?_⟩
                refine optK_some (rg hb') ?_
                refine ⟨by rw [List.length_map, List.length_range]; omega, ?_⟩
                refine ⟨by rw [List.length_map, List.length_range]; omega, ?_⟩
                have ec : atI ((List.range t.length).map (fun j : Nat => PyData.int ((nexts t j).length : Nat)) ++ [PyData.int 0]) (b : Int) = some (.int ((nexts t b).length : Nat)) := atI_nat (by rw [List.getElem?_append_left (by rw [List.length_map, List.length_range]; exact hb'), List.getElem?_map, List.getElem?_range hb']; rfl)
                refine optK_some ec ?_
                refine optK_some (ixN_nat (by rw [List.length_append, List.length_map, List.length_range]; show b < _ + 1; omega)) ?_
                have hb4' := ht.nx b
                have hb7' := ht.tm b hb'
                refine hF _ ⟨t ++ [(some b, w)], c + 1, some (.sh (.int n)), some (.sh (.int (t.length : Int))), some (.sh (.int (b : Int))), some (.sh (.int v.2)), some (.sh (.int lo)), some (.sh (.int hi)), ht.app l40 hb' (by omega) (by omega) ⟨by omega, by omega⟩, by rw [List.length_append, List.length_singleton]; omega, by omega, fun y hy => ?_, ⟨rfl, rfl, rfl, rfl, rfl, rfl⟩, ?_⟩
                · rcases List.mem_append.mp hy with hy | hy
                  · exact hg y hy
                  · rw [List.mem_singleton.mp hy]; show w ≤ g; omega
                · rw [late_app ht.ord hb', counts_app ht.ord hb', List.map_append]
                  rfl
end
end KX

namespace KX
open PySem PySem.Spec PyProof.Rows L2 DL
section
variable {P : Program} {w : World} {K : PySem.W.Frag} {mg : Str → Option Value} {base : Heap}
abbrev st__law_amount : Stmt := top 11
abbrev NN__law_amount : List Str := ["_law_cells", "_law_spot", "_law_most", "_law_n", "_law_number", "_law_word", "_law_first", "_law_one"]
theorem sc__law_amount : FnScope ["_law_cells", "_law_spot", "_law_most", "_law_n", "_law_number", "_law_word", "_law_first", "_law_one"] ["_law_cells", "_law_spot", "_law_most"] (defScope st__law_amount) := ⟨rfl, rfl, rfl, by decide +kernel, rfl, by decide +kernel, by decide +kernel⟩
def S__law_amount (d : Nat) : SPI := fun ds P => ∃ (ns : List Int) (k : Nat) (most : Int), ds = [.list (ns.map PyData.int), .list [.int (k : Int)], .int most] ∧ (ns.length ≤ 63) ∧ (∀ z ∈ ns, Builtin.Int.intBits z ≤ 1048576) ∧ ((k : Int) + most ≤ 2 ^ 29) ∧ (1 ≤ most) ∧ (most ≤ d) ∧ ∀ (a : Amt) (k2 : Nat), (a.ok) → ((a.parts : Int) ≤ most) → ((k2 : Int) ≤ k + most) → P (amtD a) [[.int (k2 : Int)]]
theorem m__law_amount (d : Nat) : MonoI (S__law_amount d) := fun _ _ _ hP ⟨ns, k, most, e, h0, h1, h2, h3, h4, qq⟩ => ⟨ns, k, most, e, h0, h1, h2, h3, h4, fun a k2 c0 c1 c2 => hP _ _ (qq a k2 c0 c1 c2)⟩
theorem l__law_amount (d : Nat) : ∀ ds P, S__law_amount d ds P → ds.length = 3 := fun _ _ ⟨ns, k, most, e, _⟩ => by rw [e]; rfl

theorem ok__law_amount (T : Top K mg) (A : DefAt K mg "_law_amount" st__law_amount ["_law_cells", "_law_spot", "_law_most"]) (C__law_cell : CalI P w K mg base CX0 1 "_law_cell" ["_law_cells", "_law_spot"] [1] S__law_cell) : ∀ d : Nat, CalI P w K mg base CX0 (2 + d) "_law_amount" ["_law_cells", "_law_spot", "_law_most"] [1] (S__law_amount d) := by
  intro d
  induction d with
  | zero => exact calI_none (js := [1]) A sc__law_amount (m__law_amount 0) (fun _ _ h => by obtain ⟨ns, k, most, _, _, _, _, h1, h2, _⟩ := h; omega)
  | succ d C__law_amount =>
  refine calI (k := 2 + d) (js := [1]) A sc__law_amount (m__law_amount (d + 1)) (l__law_amount (d + 1)) (fun f cdv A outer s H E hr Γ => ⟨_, (db_cons (dp_set 3 sc__law_amount.nd (de_calI C__law_cell hr (by omega) (fun _ => passZ) (dai_cons (de_var 0) (dai_lend 1 (pv 1) dai_nil))))
    (db_cons (dp_if (DW.dt (dw_or (dt_lt (de_var 2) de_int) (dw_or1 (dt_lt (de_mod (de_var 3) de_int) de_int))))
    (db_cons (dp_set 4 sc__law_amount.nd (de_ix (de_lst (da_cons (de_mod (de_fdiv (de_var 3) de_int) de_int) (da_cons (de_mod (de_fdiv (de_var 3) de_int) de_int) (da_cons (de_mod (de_mul (de_var 3) de_int) (de_add (de_pow de_int de_int) de_int)) (da_cons (de_pow de_int de_int) da_nil))))) (de_mod (de_fdiv (de_var 3) de_int) de_int)))
    (db_one (dp_ret (de_ix (de_lst (da_cons (de_tup (da_cons de_str (da_cons (de_var 4) da_nil))) (da_cons (de_tup (da_cons de_str da_nil)) (da_cons (de_tup (da_cons de_str da_nil)) (da_cons (de_tup (da_cons de_str da_nil)) (da_cons (de_tup (da_cons de_str (da_cons (de_var 4) da_nil))) da_nil)))))) (de_mod (de_fdiv (de_var 3) de_int) de_int)))))
    db_nil)
    (db_cons (dp_set 5 sc__law_amount.nd (de_ix (de_lst (da_cons de_str (da_cons de_str (da_cons de_str (da_cons de_str (da_cons de_str da_nil)))))) (de_mod (de_fdiv (de_var 3) de_int) de_int)))
    (db_cons (dp_set 6 sc__law_amount.nd (de_add de_int (de_mod (de_fdiv (de_var 3) de_int) (de_sub (de_var 2) de_int))))
    (db_cons (dp_set 7 sc__law_amount.nd (de_calI C__law_amount hr (by omega) (fun _ => passZ) (dai_cons (de_var 0) (dai_lend 1 (pv 1) (dai_cons (de_var 6) dai_nil)))))
    (db_one (dp_ret (de_tup (da_cons (de_var 5) (da_cons (de_var 7) (da_cons (de_calI C__law_amount hr (by omega) (fun _ => passZ) (dai_cons (de_var 0) (dai_lend 1 (pv 1) (dai_cons (de_sub (de_sub (de_var 2) de_int) (de_var 6)) dai_nil)))) da_nil))))))))))), fun ds P h => ?_⟩)
  obtain ⟨ns, k, most, rfl, hl, hb, hk, hm1, hm2, hP⟩ := h
  have d5 : ∀ n : Int, CDivW n 5 := fun n => (by decide : Bt 31 5).cd (by decide) (by decide)
  have d25 : ∀ n : Int, CDivW n 25 := fun n => (by decide : Bt 31 25).cd (by decide) (by decide)
  have d50 : ∀ n : Int, CDivW n 50 := fun n => (by decide : Bt 31 50).cd (by decide) (by decide)
  have d200 : ∀ n : Int, CDivW n 200 := fun n => (by decide : Bt 31 200).cd (by decide) (by decide)
  have e9 : ((10 : Int) ^ (9 : Int).toNat) = 1000000000 := by decide
  refine cut1 (fun δ => ∃ n : Int, (0 ≤ n ∧ n < 306783379) ∧ δ = [some (.sh (.list (ns.map PyData.int))), some (.io (.lst [.int ((k + 1 : Nat) : Int)])), some (.sh (.int most)), some (.sh (.int n)), none, none, none, none]) (fun P' h => ⟨ns, k, rfl, hl, hb, by omega, fun v v0 v1 => h _ ⟨v, ⟨v0, v1⟩, rfl⟩⟩) ?_
  rintro δ ⟨n, ⟨n0, n1⟩, rfl⟩
  have bn : Bt 29 n := Bt.of_lt (by omega) (by omega)
  refine cut1r (fun δ => ¬ most < 3 ∧ δ = [some (.sh (.list (ns.map PyData.int))), some (.io (.lst [.int ((k + 1 : Nat) : Int)])), some (.sh (.int most)), some (.sh (.int n)), none, none, none, none]) ?_ ?_
  · intro P' h hR
    have leaf : ∀ F : Fw → DS → Prop, (∀ d δ1, retI [1] P (.rt d) δ1 → F (.rt d) δ1) → seqR (setR 4 (opR ixD (lstR (consA (opR modD (opR divD (varR 3) (cR (.int 5))) (cR (.int 10))) (consA (opR modD (opR divD (varR 3) (cR (.int 5))) (cR (.int 1000))) (consA (opR modD (opR mulD (varR 3) (cR (.int 48271))) (opR addD (opR powD (cR (.int 10)) (cR (.int 9))) (cR (.int 1)))) (consA (opR powD (cR (.int 10)) (cR (.int 9))) nilA))))) (opR modD (opR divD (varR 3) (cR (.int 50))) (cR (.int 4))))) (retR (opR ixD (lstR (consA (tupR (consA (cR (.str (Str.ofString "number"))) (consA (varR 4) nilA))) (consA (tupR (consA (cR (.str (Str.ofString "price"))) nilA)) (consA (tupR (consA (cR (.str (Str.ofString "price"))) nilA)) (consA (tupR (consA (cR (.str (Str.ofString "time"))) nilA)) (consA (tupR (consA (cR (.str (Str.ofString "number"))) (consA (varR 4) nilA))) nilA)))))) (opR modD (opR divD (varR 3) (cR (.int 200))) (cR (.int 5)))))
        [some (.sh (.list (ns.map PyData.int))), some (.io (.lst [.int ((k + 1 : Nat) : Int)])), some (.sh (.int most)), some (.sh (.int n)), none, none, none, none] E0K F := by
      intro F hF
      refine ⟨d5 n, (by show (0 : Int) < _; decide), d5 n, (by show (0 : Int) < _; decide), bn.cm (by decide : Bt 16 48271) (by decide), ⟨by decide, by decide, by decide⟩, (by rw [e9]; show (0 : Int) < 1000000000 + 1; decide), ⟨by decide, by decide, by decide⟩, d50 n, (by show (0 : Int) < _; decide), ?_⟩
      refine atI_all (by omega) (by show n / 50 % 4 < 4; omega) (fun d hd => ?_)
      have hd : d ∈ [PyData.int (n / 5 % 10), PyData.int (n / 5 % 1000), PyData.int (n * 48271 % (1000000000 + 1)), PyData.int 1000000000] := by rw [← e9]; exact hd
      obtain ⟨i, rfl, i0, i1⟩ : ∃ i, d = .int i ∧ 0 ≤ i ∧ i ≤ 1000000000 := by
        simp only [List.mem_cons, List.not_mem_nil, or_false] at hd
        rcases hd with rfl | rfl | rfl | rfl
        · exact ⟨_, rfl, by omega, by omega⟩
        · exact ⟨_, rfl, by omega, by omega⟩
        · exact ⟨_, rfl, by omega, by omega⟩
        · exact ⟨_, rfl, by decide, by decide⟩
      refine ⟨d200 n, (by show (0 : Int) < _; decide), ?_⟩
      refine atI_all (by omega) (by show n / 200 % 5 < 5; omega) (fun d hd => ?_)
      have hd : d ∈ [amtD (.num i), amtD .price, amtD .price, amtD .time, amtD (.num i)] := hd
      obtain ⟨a, rfl, ha, hp⟩ : ∃ a : Amt, d = amtD a ∧ a.ok ∧ a.parts = 1 := by
        simp only [List.mem_cons, List.not_mem_nil, or_false] at hd
        rcases hd with rfl | rfl | rfl | rfl | rfl
        · exact ⟨.num i, rfl, ⟨i0, i1⟩, rfl⟩
        · exact ⟨.price, rfl, trivial, rfl⟩
        · exact ⟨.price, rfl, trivial, rfl⟩
        · exact ⟨.time, rfl, trivial, rfl⟩
        · exact ⟨.num i, rfl, ⟨i0, i1⟩, rfl⟩
      exact hF _ _ (hP a (k + 1) ha (by omega) (by omega))
    refine bif_dec (fun w => ?_) (fun w => ?_)
    · exact leaf P' hR
    · refine ⟨(by show (0 : Int) < _; decide), ?_⟩
      refine bif_dec (fun w2 => ?_) (fun w2 => ?_)
      · exact leaf P' hR
      · exact h _ ⟨w, rfl⟩
  · rintro δ ⟨w3, rfl⟩
    refine cut2 (fun δ => ∃ (o : Op) (f : Int), 1 ≤ f ∧ f ≤ most - 2 ∧ δ = [some (.sh (.list (ns.map PyData.int))), some (.io (.lst [.int ((k + 1 : Nat) : Int)])), some (.sh (.int most)), some (.sh (.int n)), none, some (.sh (.str o.str)), some (.sh (.int f)), none]) ?_ ?_
    · intro P' h
      refine ⟨d5 n, (by show (0 : Int) < _; decide), ?_⟩
      refine atI_all (by omega) (by show n / 5 % 5 < 5; omega) (fun d hd => ?_)
      have hd : d ∈ [PyData.str Op.plus.str, .str Op.minus.str, .str Op.times.str, .str Op.most.str, .str Op.least.str] := hd
      obtain ⟨o, rfl⟩ : ∃ o : Op, d = .str o.str := by
        simp only [List.mem_cons, List.not_mem_nil, or_false] at hd
        rcases hd with rfl | rfl | rfl | rfl | rfl <;> exact ⟨_, rfl⟩
      have m0 := Int.emod_nonneg (n / 25) (show most - 2 ≠ 0 by omega)
      have m1 := Int.emod_lt_of_pos (n / 25) (show 0 < most - 2 by omega)
      exact ⟨d25 n, by show 0 < most - 2; omega, h _ ⟨o, 1 + n / 25 % (most - 2), by omega, by omega, rfl⟩⟩
    · rintro δ ⟨o, f, f1, f2, rfl⟩
      refine ⟨ns, k + 1, f, rfl, hl, hb, by omega, f1, by omega, fun a k2 ha pa hk2 => ?_⟩
      refine ⟨ns, k2, most - 1 - f, rfl, hl, hb, by omega, by omega, by omega, fun b k3 hb' pb hk3 => ?_⟩
      have e : (Amt.bin o a b).parts = 1 + a.parts + b.parts := rfl
      exact hP (.bin o a b) k3 ⟨ha, hb'⟩ (by omega) (by omega)
abbrev st__law_sign : Stmt := top 12
abbrev NN__law_sign : List Str := ["_law_cells", "_law_spot", "_law_n", "_law_one"]
theorem sc__law_sign : FnScope ["_law_cells", "_law_spot", "_law_n", "_law_one"] ["_law_cells", "_law_spot"] (defScope st__law_sign) := ⟨rfl, rfl, rfl, by decide +kernel, rfl, by decide +kernel, by decide +kernel⟩
def S__law_sign : SPI := fun ds P => ∃ (ns : List Int) (k : Nat), ds = [.list (ns.map PyData.int), .list [.int (k : Int)]] ∧ (ns.length ≤ 63) ∧ (∀ z ∈ ns, Builtin.Int.intBits z ≤ 1048576) ∧ (k ≤ 2 ^ 28) ∧ ∀ (s : Sgn) (k2 : Nat), (s.ok) → (s.parts ≤ 7) → (k2 ≤ k + 7) → P (sgnD s) [[.int (k2 : Int)]]
theorem m__law_sign : MonoI S__law_sign := fun _ _ _ hP ⟨ns, k, e, h0, h1, h2, qq⟩ => ⟨ns, k, e, h0, h1, h2, fun s k2 c0 c1 c2 => hP _ _ (qq s k2 c0 c1 c2)⟩
theorem l__law_sign : ∀ ds P, S__law_sign ds P → ds.length = 2 := fun _ _ ⟨ns, k, e, _⟩ => by rw [e]; rfl

theorem ok__law_sign (T : Top K mg) (A : DefAt K mg "_law_sign" st__law_sign ["_law_cells", "_law_spot"]) (C__law_cell : CalI P w K mg base CX0 1 "_law_cell" ["_law_cells", "_law_spot"] [1] S__law_cell) (C__law_amount : CalI P w K mg base CX0 12 "_law_amount" ["_law_cells", "_law_spot", "_law_most"] [1] (S__law_amount 10)) : CalI P w K mg base CX0 13 "_law_sign" ["_law_cells", "_law_spot"] [1] S__law_sign := by
  refine calI (js := [1]) A sc__law_sign m__law_sign l__law_sign (fun f cdv A outer s H E hr Γ => ⟨_, (db_cons (dp_set 2 sc__law_sign.nd (de_calI C__law_cell hr (by decide) (fun _ => passZ) (dai_cons (de_var 0) (dai_lend 1 (pv 1) dai_nil))))
    (db_cons (dp_set 3 sc__law_sign.nd (de_calI C__law_amount hr (by decide) (fun _ => passZ) (dai_cons (de_var 0) (dai_lend 1 (pv 1) (dai_cons (de_add de_int (de_mod (de_fdiv (de_var 2) de_int) de_int)) dai_nil)))))
    (db_one (dp_ret (de_tup (da_cons (de_ix (de_lst (da_cons de_str (da_cons de_str da_nil))) (de_mod (de_var 2) de_int)) (da_cons (de_var 3) (da_cons (de_calI C__law_amount hr (by decide) (fun _ => passZ) (dai_cons (de_var 0) (dai_lend 1 (pv 1) (dai_cons (de_add de_int (de_mod (de_fdiv (de_var 2) de_int) de_int)) dai_nil)))) da_nil)))))))), fun ds P h => ?_⟩)
  obtain ⟨ns, k, rfl, hl, hb, hk, hP⟩ := h
  refine cut1 (fun δ => ∃ n : Int, (0 ≤ n ∧ n < 306783379) ∧ δ = [some (.sh (.list (ns.map PyData.int))), some (.io (.lst [.int ((k + 1 : Nat) : Int)])), some (.sh (.int n)), none]) (fun P' h => ⟨ns, k, rfl, hl, hb, by omega, fun v v0 v1 => h _ ⟨v, ⟨v0, v1⟩, rfl⟩⟩) ?_
  rintro δ ⟨n, ⟨n0, n1⟩, rfl⟩
  have d2 : ∀ n : Int, CDivW n 2 := fun n => (by decide : Bt 31 2).cd (by decide) (by decide)
  have d6 : ∀ n : Int, CDivW n 6 := fun n => (by decide : Bt 31 6).cd (by decide) (by decide)
  refine ⟨d2 n, (by show (0 : Int) < _; decide), ns, k + 1, 1 + n / 2 % 3, rfl, hl, hb, by omega, by omega, by omega, fun a k2 ha pa hk2 => ?_⟩
  refine ⟨(by show (0 : Int) < _; decide), ?_⟩
  refine atI_all (by omega) (by show n % 2 < 2; omega) (fun d hd => ?_)
  obtain ⟨u, rfl⟩ : ∃ u : Bool, d = .str (if u then Str.ofString "upto" else Str.ofString "below") := by
    simp only [List.mem_cons, List.not_mem_nil, or_false] at hd
    rcases hd with rfl | rfl
    · exact ⟨false, rfl⟩
    · exact ⟨true, rfl⟩
  refine ⟨d6 n, (by show (0 : Int) < _; decide), ns, k2, 1 + n / 6 % 3, rfl, hl, hb, by omega, by omega, by omega, fun b k3 hb' pb hk3 => ?_⟩
  have e : (Sgn.mk u a b).parts = 1 + a.parts + b.parts := rfl
  exact hP (.mk u a b) k3 ⟨ha, hb'⟩ (by omega) (by omega)
end
end KX

namespace KX
open PySem PySem.Spec PyProof.Rows L2 DL
section
variable {P : Program} {w : World} {K : PySem.W.Frag} {mg : Str → Option Value} {base : Heap}
abbrev st__law_worth : Stmt := top 13
abbrev NN__law_worth : List Str := ["_law_price_here", "_law_time", "_law_amount_here", "_law_waits", "_law_order", "_law_one", "_law_pile", "_law_other", "_law_first", "_law_part"]
theorem sc__law_worth : FnScope ["_law_price_here", "_law_time", "_law_amount_here", "_law_waits", "_law_order", "_law_one", "_law_pile", "_law_other", "_law_first", "_law_part"] ["_law_price_here", "_law_time", "_law_amount_here"] (defScope st__law_worth) := ⟨rfl, rfl, rfl, by decide +kernel, rfl, by decide +kernel, by decide +kernel⟩
def S__law_worth : SP := fun ds _ P => ∃ (p t : Int) (a : Amt), ds = [.int p, .int t, amtD a] ∧ (a.ok) ∧ (Bt 30 p) ∧ (Bt 30 t) ∧ (a.parts ≤ 60) ∧ P (.int (a.val p t))
theorem m__law_worth : MonoS S__law_worth := fun _ _ _ _ _ _ hP ⟨p, t, a, e, h0, h1, h2, h3, qq⟩ => ⟨p, t, a, e, h0, h1, h2, h3, hP _ qq⟩
theorem l__law_worth : ∀ ds E P, S__law_worth ds E P → ds.length = 3 := fun _ _ _ ⟨p, t, a, e, _⟩ => by rw [e]; rfl

theorem ok__law_worth (T : Top K mg) (A : DefAt K mg "_law_worth" st__law_worth ["_law_price_here", "_law_time", "_law_amount_here"]) : CalD P w K mg base CX0 1 "_law_worth" ["_law_price_here", "_law_time", "_law_amount_here"] S__law_worth := by
  refine calD A sc__law_worth m__law_worth l__law_worth (fun f cdv A outer s H E hr Γ => ⟨_, (db_cons (dp_setN 3 sc__law_worth.nd (dn_lst (da_cons (de_var 2) da_nil)))
    (db_cons (dp_setN 4 sc__law_worth.nd (dn_lst da_nil))
    (db_cons (dp_while PassesOwn.never (dt_peek 3 (fun Γ => (dt_ne (hu64 hr) (de_var 3) (de_lst da_nil))))
    (db_cons (dp_set 5 sc__law_worth.nd (de_pop 3 (pe_bm0 PySem.F.plainAttrs_list PySem.F.slot_list_pop PySem.F.type_list_pop mt_pop (pv 3))))
    (db_cons (dp_app 4 (fun h => pe_bm PySem.F.plainAttrs_list PySem.F.slot_list_append PySem.F.type_list_append mt_append (pv 4) h) (de_var 5))
    (db_one (dp_setN 3 sc__law_worth.nd (dn_cat (de_var 3) (de_of (dn_lc [("_law_part", 9)] sc__law_worth.nd (di_tup (de_slice (de_var 5) (do_some de_int) do_none)) (blkOk_by (N := NN__law_worth) (sc := defScope st__law_worth) (by decide +kernel)) (fun _ _ _ _ _ => (dg_name 9 sc__law_worth.nd)) (fun _ _ _ _ _ => (dts_one (dt_val (de_isi (T := "tuple") (by decide) T.b_isinstance T.b_tuple (by decide +kernel) (de_var 9))))) (fun _ _ _ _ _ => (de_var 9))))))))))
    (db_cons (dp_setN 6 sc__law_worth.nd (dn_lst da_nil))
    (db_cons (dp_for (vs := [5]) PassesOwn.never (di_list (de_rev (de_var 4))) (dg_name 5 sc__law_worth.nd)
    (db_one (dp_if (dt_lt (de_len T.b_len (da_cons (de_var 5) da_nil)) de_int)
    (db_one (dp_app 6 (fun h => pe_bm PySem.F.plainAttrs_list PySem.F.slot_list_append PySem.F.type_list_append mt_append (pv 6) h) (de_dix (hu64 hr) (dps_cons (de_ix (de_var 5) (de_neg de_int)) (dps_cons (de_var 0) (dps_cons (de_var 1) dps_nil))) (de_ix (de_var 5) de_int))))
    (db_cons (dp_set 7 sc__law_worth.nd (de_pop 6 (pe_bm0 PySem.F.plainAttrs_list PySem.F.slot_list_pop PySem.F.type_list_pop mt_pop (pv 6))))
    (db_cons (dp_set 8 sc__law_worth.nd (de_pop 6 (pe_bm0 PySem.F.plainAttrs_list PySem.F.slot_list_pop PySem.F.type_list_pop mt_pop (pv 6))))
    (db_one (dp_if (dt_in (hu65 hr) (de_ix (de_var 5) de_int) (de_tup (da_cons de_str (da_cons de_str da_nil))))
    (db_one (dp_app 6 (fun h => pe_bm PySem.F.plainAttrs_list PySem.F.slot_list_append PySem.F.type_list_append mt_append (pv 6) h) (de_add (de_var 8) (de_mul (de_var 7) (de_ix (de_lst (da_cons de_int (da_cons (de_sub de_int de_int) da_nil))) (de_intOf T.b_int (da_cons (de_eq (hu64 hr) (de_ix (de_var 5) de_int) de_str) da_nil)))))))
    (db_one (dp_if (dt_eq (hu64 hr) (de_ix (de_var 5) de_int) de_str)
    (db_one (dp_app 6 (fun h => pe_bm PySem.F.plainAttrs_list PySem.F.slot_list_append PySem.F.type_list_append mt_append (pv 6) h) (de_mul (de_var 8) (de_var 7))))
    (db_one (dp_app 6 (fun h => pe_bm PySem.F.plainAttrs_list PySem.F.slot_list_append PySem.F.type_list_append mt_append (pv 6) h) (de_ix (de_sorted T.b_sorted (da_cons (de_lst (da_cons (de_var 8) (da_cons (de_var 7) da_nil))) da_nil)) (de_intOf T.b_int (da_cons (de_eq (hu64 hr) (de_ix (de_var 5) de_int) de_str) da_nil))))))))))))))
    (db_one (dp_ret (de_ixO 6 (pv 6) de_int)))))))), fun ds E P h => ?_⟩)
  obtain ⟨p, t, a, rfl, ha, bp, bt, hpa, hP⟩ := h
  have a4 : (1000000 : Nat) + 10 < sizeLine := by decide
  refine cut2 (fun δ => δ = [some (.sh (.int p)), some (.sh (.int t)), some (.sh (amtD a)), some (.ow (.lst ([a].map amtD))), some (.ow (.lst ([].map amtD))), none, none, none, none, none]) (fun P' h => h _ rfl) ?_
  rintro δ rfl
  refine cut1 (fun δ => ∃ b : Option Sl, notIo b = true ∧ δ = [some (.sh (.int p)), some (.sh (.int t)), some (.sh (amtD a)), some (.ow (.lst [])), some (.ow (.lst ((ordA a).map amtD))), b, none, none, none, none]) ?_ ?_
  · intro P' h
    refine ⟨fun μ δ => ∃ (W O : List Amt) (b : Option Sl), O ++ W.reverse.flatMap ordA = ordA a ∧ μ = (W.map Amt.parts).sum ∧ μ + O.length ≤ 60 ∧ notIo b = true ∧ δ = [some (.sh (.int p)), some (.sh (.int t)), some (.sh (amtD a)), some (.ow (.lst (W.map amtD))), some (.ow (.lst (O.map amtD))), b, none, none, none, none], ⟨_, [a], [], none, by simp, rfl, by simpa using hpa, rfl, rfl⟩, ?_⟩
    rintro μ δ ⟨W, O, b, hO, hμ, hl, hb, rfl⟩
    have hw : ∀ x ∈ W, x.parts ≤ 60 := fun x hx => by
      have := sum_mem (List.mem_map.mpr ⟨x, hx, rfl⟩ : x.parts ∈ W.map Amt.parts)
      omega
    refine ⟨⟨shaped_amts hw, rfl⟩, ?_⟩
    rcases W.eq_nil_or_concat with rfl | ⟨W0, x, rfl⟩
    · have eO : O = ordA a := by simpa using hO
      subst eO
      exact h _ ⟨b, hb, rfl⟩
    · rw [List.concat_eq_append] at *
      refine bif_true (by show (!PyData.eqv (.list ((W0 ++ [x]).map amtD)) (.list [])) = true; rw [eqv_ne_nil (by simp)]; rfl) ?_
      have hsum : ((W0 ++ [x]).map Amt.parts).sum = (W0.map Amt.parts).sum + x.parts := by simp
      have hk := kids_sum x
      have hok := ordA_kids x
      have hO2 : (O ++ [x]) ++ (W0 ++ kids x).reverse.flatMap ordA = ordA a := by
        rw [← hO, List.reverse_append, List.reverse_append, List.flatMap_append, List.flatMap_append]
        simp [hok]
      have lW : W0.length ≤ (W0.map Amt.parts).sum := by
        clear hO hO2 hsum hμ hw
        induction W0 with
        | nil => exact Nat.zero_le _
        | cons y r ih =>
          have := Amt.pos y
          rw [List.map_cons, List.sum_cons, List.length_cons]
          omega
      refine ⟨W0.map amtD, amtD x, by rw [List.map_append]; rfl, ?_⟩
      refine setK_of hb ?_
      refine ⟨by rw [List.length_map]; omega, ?_⟩
      have lp : x.parts ≤ 60 := hw x (by simp)
      have fin : ∀ ks : List Amt, ks = kids x → ∃ m', m' < μ ∧ ∃ (W O' : List Amt) (b : Option Sl), O' ++ W.reverse.flatMap ordA = ordA a ∧ m' = (W.map Amt.parts).sum ∧ m' + O'.length ≤ 60 ∧ notIo b = true ∧ ([some (.sh (.int p)), some (.sh (.int t)), some (.sh (amtD a)), some (.ow (.lst (W0.map amtD ++ ks.map amtD))), some (.ow (.lst (O.map amtD ++ [amtD x]))), some (.sh (amtD x)), none, none, none, none] : DS) = [some (.sh (.int p)), some (.sh (.int t)), some (.sh (amtD a)), some (.ow (.lst (W.map amtD))), some (.ow (.lst (O'.map amtD))), b, none, none, none, none] := by
        rintro ks rfl
        have hs2 : ((W0 ++ kids x).map Amt.parts).sum = (W0.map Amt.parts).sum + ((kids x).map Amt.parts).sum := by simp
        refine ⟨_, ?_, W0 ++ kids x, O ++ [x], some (.sh (amtD x)), hO2, rfl, ?_, rfl, by rw [List.map_append, List.map_append]; rfl⟩
        · omega
        · rw [List.length_append, List.length_singleton]; omega
      cases x with
      | num i =>
        refine ⟨by show 1 ≤ _; omega, ?_⟩
        refine ⟨by rw [List.length_map]; show _ + 0 ≤ _; omega, ?_⟩
        exact fin [] rfl
      | price =>
        refine ⟨by show 0 ≤ _; omega, ?_⟩
        refine ⟨by rw [List.length_map]; show _ + 0 ≤ _; omega, ?_⟩
        exact fin [] rfl
      | time =>
        refine ⟨by show 0 ≤ _; omega, ?_⟩
        refine ⟨by rw [List.length_map]; show _ + 0 ≤ _; omega, ?_⟩
        exact fin [] rfl
      | bin o l r =>
        refine ⟨by show 2 ≤ _; omega, ?_⟩
        refine ioG_of rfl ?_
        refine bif_true (isi_amt l) ?_
        refine bif_true (isi_amt r) ?_
        refine ⟨by rw [List.length_map]; show _ + 2 ≤ _; omega, ?_⟩
        exact fin [l, r] rfl
  · rintro δ ⟨b, hb, rfl⟩
    refine cut1 (fun δ => δ = [some (.sh (.int p)), some (.sh (.int t)), some (.sh (amtD a)), some (.ow (.lst [])), some (.ow (.lst ((ordA a).map amtD))), b, some (.ow (.lst [])), none, none, none]) (fun P' h => h _ rfl) ?_
    rintro δ rfl
    show forK _ _ _ _ (((ordA a).map amtD).reverse) _
    rw [← List.map_reverse]
    refine forK_nat (fun k δ => ∃ (π : List Int) (b c d : Option Sl), ((ordA a).reverse.take k).foldl (stpA p t) [] = π ∧ π.length ≤ k ∧ (notIo b = true ∧ notIo c = true ∧ notIo d = true) ∧ δ = [some (.sh (.int p)), some (.sh (.int t)), some (.sh (amtD a)), some (.ow (.lst [])), some (.sh (.list ((ordA a).map amtD))), b, some (.ow (.lst (π.map PyData.int))), c, d, none]) ?_ ?_ _ ⟨[], b, none, none, rfl, Nat.zero_le _, ⟨hb, rfl, rfl⟩, rfl⟩
    · rintro δ ⟨π, b, c, d, hπ, _, _, rfl⟩
      rw [List.take_length, foldA] at hπ
      subst hπ
      exact hP
    · rintro k x δ hk ⟨π, b, c, d, hπ, hlen, ⟨hb, hc, hd⟩, rfl⟩ F hF
      have hx := ordA_mem (List.mem_reverse.mp (get_mem hk)) ha
      have hk60 : k < 60 := by
        have := get_lt hk
        rw [List.length_reverse, ordA_len] at this
        omega
      have nxt : ∀ π2, stpA p t π x = π2 → ((ordA a).reverse.take (k + 1)).foldl (stpA p t) [] = π2 := fun π2 e => by
        rw [take_succ_of hk, List.foldl_append, hπ]
        exact e
      refine nameG_of hb ?_
      have leafs : ∀ (v : Int), stpA p t π x = π ++ [v] → F [some (.sh (.int p)), some (.sh (.int t)), some (.sh (amtD a)), some (.ow (.lst [])), some (.sh (.list ((ordA a).map amtD))), some (.sh (amtD x)), some (.ow (.lst (π.map PyData.int ++ [.int v]))), c, d, none] := fun v e =>
        hF _ ⟨_, _, _, _, nxt _ e, by rw [List.length_append, List.length_singleton]; omega, ⟨rfl, hc, hd⟩, by rw [List.map_append]; rfl⟩
      cases x with
      | num i => exact optK_some rfl ⟨by rw [List.length_map]; omega, leafs i rfl⟩
      | price => exact optK_some rfl ⟨by rw [List.length_map]; omega, leafs p rfl⟩
      | time => exact optK_some rfl ⟨by rw [List.length_map]; omega, leafs t rfl⟩
      | bin o l r =>
        obtain ⟨ρ, eρ⟩ := pileA p t a [] k o l r hk
        rw [hπ] at eρ
        subst eρ
        have hlr : (ρ ++ [l.val p t, r.val p t]).length = ρ.length + 2 := by simp
        have e1 : (ρ ++ [l.val p t, r.val p t]).map PyData.int = (ρ.map PyData.int ++ [PyData.int (l.val p t)]) ++ [.int (r.val p t)] := by simp
        rw [e1]
        have e4 : (Amt.bin o l r).parts = 1 + l.parts + r.parts := rfl
        have b1 := Amt.bt bp bt hx.1.1
        have b2 := Amt.bt bp bt hx.1.2
        have cm : CMulX (l.val p t) (r.val p t) := b1.cm b2 (by omega)
        have c1 : CMulX (r.val p t) 1 := b2.cm (by decide : Bt 2 1) (by omega)
        have c2 : CMulX (r.val p t) (0 - 1) := b2.cm (by decide : Bt 2 (0 - 1)) (by omega)
        have fin : ∀ v, v = o.ap (l.val p t) (r.val p t) → F [some (.sh (.int p)), some (.sh (.int t)), some (.sh (amtD a)), some (.ow (.lst [])), some (.sh (.list ((ordA a).map amtD))), some (.sh (amtD (.bin o l r))), some (.ow (.lst (ρ.map PyData.int ++ [.int v]))), some (.sh (.int (r.val p t))), some (.sh (.int (l.val p t))), none] := fun v e => by
          refine hF _ ⟨ρ ++ [v], _, _, _, nxt _ ?_, by rw [List.length_append, List.length_singleton]; omega, ⟨rfl, rfl, rfl⟩, by rw [List.map_append]; rfl⟩
          show (ρ ++ [l.val p t, r.val p t]).dropLast.dropLast ++ _ = _
          rw [dl2.1, (dl2 (y := 0)).2, e]
        have lr : (ρ.map PyData.int).length < sizeLine := by rw [List.length_map]; omega
        refine ⟨_, _, rfl, setK_of hc ⟨_, _, rfl, setK_of hd ?_⟩⟩
        cases o with
        | plus => exact ⟨c1, lr, fin _ (by show _ = l.val p t + r.val p t; rw [Int.mul_one])⟩
        | minus => exact ⟨c2, lr, fin _ (by show _ = l.val p t - r.val p t; omega)⟩
        | times => exact ⟨cm, lr, fin _ rfl⟩
        | most =>
          intro ns' h1 h2
          rw [sorted2 h1 h2]
          exact ⟨lr, fin _ rfl⟩
        | least =>
          intro ns' h1 h2
          rw [sorted2 h1 h2]
          exact ⟨lr, fin _ rfl⟩
end
end KX

namespace KX
open PySem PySem.Spec PyProof.Rows L2 DL
section
variable {P : Program} {w : World} {K : PySem.W.Frag} {mg : Str → Option Value} {base : Heap}
abbrev st__law_product : Stmt := top 14
abbrev NN__law_product : List Str := ["_law_cells", "_law_spot", "_law_parts", "_law_found", "_law_k", "_law_number"]
theorem sc__law_product : FnScope ["_law_cells", "_law_spot", "_law_parts", "_law_found", "_law_k", "_law_number"] ["_law_cells", "_law_spot", "_law_parts"] (defScope st__law_product) := ⟨rfl, rfl, rfl, by decide +kernel, rfl, by decide +kernel, by decide +kernel⟩
def S__law_product : SPI := fun ds P => ∃ (ns : List Int) (k : Nat) (m : Int), ds = [.list (ns.map PyData.int), .list [.int (k : Int)], .int m] ∧ (ns.length ≤ 63) ∧ (∀ z ∈ ns, Builtin.Int.intBits z ≤ 1048576) ∧ (k ≤ 2 ^ 28) ∧ (0 ≤ m) ∧ (m ≤ 4) ∧ ∀ (a : Amt) (k2 : Nat), (a.ok) → (a.parts ≤ 9) → (k2 ≤ k + 4) → P (amtD a) [[.int (k2 : Int)]]
theorem m__law_product : MonoI S__law_product := fun _ _ _ hP ⟨ns, k, m, e, h0, h1, h2, h3, h4, qq⟩ => ⟨ns, k, m, e, h0, h1, h2, h3, h4, fun a k2 c0 c1 c2 => hP _ _ (qq a k2 c0 c1 c2)⟩
theorem l__law_product : ∀ ds P, S__law_product ds P → ds.length = 3 := fun _ _ ⟨ns, k, m, e, _⟩ => by rw [e]; rfl

theorem ok__law_product (T : Top K mg) (A : DefAt K mg "_law_product" st__law_product ["_law_cells", "_law_spot", "_law_parts"]) (C__law_cell : CalI P w K mg base CX0 1 "_law_cell" ["_law_cells", "_law_spot"] [1] S__law_cell) : CalI P w K mg base CX0 2 "_law_product" ["_law_cells", "_law_spot", "_law_parts"] [1] S__law_product := by
  refine calI (js := [1]) A sc__law_product m__law_product l__law_product (fun f cdv A outer s H E hr Γ => ⟨_, (db_cons (dp_set 3 sc__law_product.nd (de_tup (da_cons de_str da_nil)))
    (db_cons (dp_for (vs := [4]) PassesOwn.never (di_range1 T.b_range (de_var 2)) (dg_name 4 sc__law_product.nd)
    (db_cons (dp_set 5 sc__law_product.nd (de_tup (da_cons de_str (da_cons (de_sub (de_pow de_int de_int) (de_mod (de_calI C__law_cell hr (by decide) (fun _ => passZ) (dai_cons (de_var 0) (dai_lend 1 (pv 1) dai_nil))) de_int)) da_nil))))
    (db_one (dp_set 3 sc__law_product.nd (de_tup (da_cons de_str (da_cons (de_var 3) (da_cons (de_ix (de_lst (da_cons (de_tup (da_cons de_str da_nil)) (da_cons (de_var 5) da_nil))) (de_mod (de_var 4) de_int)) da_nil))))))))
    (db_one (dp_ret (de_var 3))))), fun ds P h => ?_⟩)
  obtain ⟨ns, k, m, rfl, hl, hb, hk, m0, m1, hP⟩ := h
  have e9 : ((10 : Int) ^ (9 : Int).toNat) = 1000000000 := by decide
  refine cut1 (fun δ => δ = [some (.sh (.list (ns.map PyData.int))), some (.io (.lst [.int (k : Int)])), some (.sh (.int m)), some (.sh (amtD .price)), none, none]) (fun P' h => h _ rfl) ?_
  rintro δ rfl
  refine ⟨⟨by omega, by omega⟩, ?_⟩
  refine forK_nat (xs := List.range m.toNat) (g := fun i => PyData.int (0 + (i : Nat))) (fun j δ => ∃ (a : Amt) (b c : Option Sl), a.ok ∧ a.parts = 2 * j + 1 ∧ (notIo b = true ∧ notIo c = true) ∧ δ = [some (.sh (.list (ns.map PyData.int))), some (.io (.lst [.int ((k + j : Nat) : Int)])), some (.sh (.int m)), some (.sh (amtD a)), b, c]) ?_ ?_ _ ⟨.price, none, none, trivial, rfl, ⟨rfl, rfl⟩, rfl⟩
  · rintro δ ⟨a, b, c, ha, pa, _, rfl⟩
    rw [List.length_range] at pa ⊢
    exact hP a _ ha (by omega) (by omega)
  · rintro j x δ hj ⟨a, b, c, ha, pa, ⟨hb', hc⟩, rfl⟩ F hF
    obtain ⟨rfl, hj⟩ := range_get hj
    refine nameG_of hb' ?_
    refine ⟨⟨by decide, by decide, by decide⟩, ns, k + x, rfl, hl, hb, by omega, fun v v0 v1 => ?_⟩
    refine ⟨(by show (0 : Int) < _; decide), ?_⟩
    refine setK_of hc ?_
    refine ⟨(by show (0 : Int) < _; decide), ?_⟩
    have p1 : ((10 : Int) ^ (9 : Int).toNat) - v % 1000 = 1000000000 - v % 1000 := by rw [e9]
    refine atI_all (by omega) (by show (0 + (x : Int)) % 2 < 2; omega) (fun d hd => ?_)
    obtain ⟨w, rfl, hw, pw⟩ : ∃ w : Amt, d = amtD w ∧ w.ok ∧ w.parts = 1 := by
      have hd : d ∈ [amtD .price, amtD (.num (((10 : Int) ^ (9 : Int).toNat) - v % 1000))] := hd
      simp only [List.mem_cons, List.not_mem_nil, or_false] at hd
      rcases hd with rfl | rfl
      · exact ⟨.price, rfl, trivial, rfl⟩
      · exact ⟨.num _, rfl, by rw [p1]; exact ⟨by omega, by omega⟩, rfl⟩
    refine hF _ ⟨.bin .times a w, _, _, ⟨ha, hw⟩, ?_, ⟨rfl, rfl⟩, rfl⟩
    show 1 + a.parts + w.parts = _
    omega
abbrev st_law : Stmt := top 15
abbrev NN_law : List Str := ["_law_script", "_law_spot", "_law_tree_here", "_law_handed", "_law_k", "_law_amount_here", "_law_sign_here", "_law_node", "_law_time", "_law_above", "_law_price_here", "_law_turn", "_law_found", "_law_one", "_law_other", "_law_due", "_law_told"]
theorem sc_law : FnScope ["_law_script", "_law_spot", "_law_tree_here", "_law_handed", "_law_k", "_law_amount_here", "_law_sign_here", "_law_node", "_law_time", "_law_above", "_law_price_here", "_law_turn", "_law_found", "_law_one", "_law_other", "_law_due", "_law_told"] ["_law_script"] (defScope st_law) := ⟨rfl, rfl, rfl, by decide +kernel, rfl, by decide +kernel, by decide +kernel⟩
def S_law : SP := lawS 63
theorem m_law : MonoS S_law := fun _ _ _ _ _ _ hP ⟨ns, a, b, c, d⟩ => ⟨ns, a, b, c, hP _ d⟩
theorem l_law : ∀ ds E P, S_law ds E P → ds.length = 1 := fun _ _ _ ⟨_, e, _⟩ => by rw [e]; rfl

theorem ok_law (T : Top K mg) (A : DefAt K mg "law" st_law ["_law_script"]) (C__law_tree : CalI P w K mg base CX0 2 "_law_tree" ["_law_cells", "_law_spot", "_law_most"] [1] S__law_tree) (C__law_amount : CalI P w K mg base CX0 12 "_law_amount" ["_law_cells", "_law_spot", "_law_most"] [1] (S__law_amount 10)) (C__law_sign : CalI P w K mg base CX0 13 "_law_sign" ["_law_cells", "_law_spot"] [1] S__law_sign) (C__law_product : CalI P w K mg base CX0 2 "_law_product" ["_law_cells", "_law_spot", "_law_parts"] [1] S__law_product) (C__law_cell : CalI P w K mg base CX0 1 "_law_cell" ["_law_cells", "_law_spot"] [1] S__law_cell) (C_amount_at : CalD P w K mg base CX0 12 "amount_at" ["tree", "node", "amount"] (S_amount_at 10)) (C__law_worth : CalD P w K mg base CX0 1 "_law_worth" ["_law_price_here", "_law_time", "_law_amount_here"] S__law_worth) (C_sign_at : CalD P w K mg base CX0 13 "sign_at" ["tree", "node", "sign"] S_sign_at) : CalD P w K mg base CX0 14 "law" ["_law_script"] S_law := by
  refine calD A sc_law m_law l_law (fun f cdv A outer s H E hr Γ => ⟨_, (db_cons (dp_setN 1 sc_law.nd (dn_lst (da_cons de_int da_nil)))
    (db_cons (dp_set 2 sc_law.nd (de_calI C__law_tree hr (by decide) (fun _ => passZ) (dai_cons (de_var 0) (dai_lend 1 (pv 1) (dai_cons de_int dai_nil)))))
    (db_cons (dp_set 3 sc_law.nd (de_of (dn_listOf T.b_list (de_var 2))))
    (db_cons (dp_for (vs := [4]) PassesOwn.never (di_range1 T.b_range (de_add de_int (de_fdiv (de_len T.b_len (da_cons (de_var 0) da_nil)) de_int))) (dg_name 4 sc_law.nd)
    (db_cons (dp_set 5 sc_law.nd (de_calI C__law_amount hr (by decide) (fun _ => passZ) (dai_cons (de_var 0) (dai_lend 1 (pv 1) (dai_cons (de_add de_int (de_mod (de_calI C__law_cell hr (by decide) (fun _ => passZ) (dai_cons (de_var 0) (dai_lend 1 (pv 1) dai_nil))) de_int)) dai_nil)))))
    (db_cons (dp_if (dt_eq (hu64 hr) (de_mod (de_calI C__law_cell hr (by decide) (fun _ => passZ) (dai_cons (de_var 0) (dai_lend 1 (pv 1) dai_nil))) de_int) de_int)
    (db_one (dp_set 5 sc_law.nd (de_calI C__law_product hr (by decide) (fun _ => passZ) (dai_cons (de_var 0) (dai_lend 1 (pv 1) (dai_cons de_int dai_nil))))))
    db_nil)
    (db_cons (dp_set 6 sc_law.nd (de_calI C__law_sign hr (by decide) (fun _ => passZ) (dai_cons (de_var 0) (dai_lend 1 (pv 1) dai_nil))))
    (db_cons (dp_set 7 sc_law.nd (de_mod (de_calI C__law_cell hr (by decide) (fun _ => passZ) (dai_cons (de_var 0) (dai_lend 1 (pv 1) dai_nil))) (de_len T.b_len (da_cons (de_var 2) da_nil))))
    (db_cons (dp_set 8 sc_law.nd de_int)
    (db_cons (dp_set 9 sc_law.nd (de_var 7))
    (db_cons (dp_while PassesOwn.never (dt_notN (de_ix (de_ix (de_var 2) (de_var 9)) de_int))
    (db_cons (dp_set 9 sc_law.nd (de_ix (de_ix (de_var 2) (de_var 9)) de_int))
    (db_one (dp_set 8 sc_law.nd (de_add (de_var 8) de_int)))))
    (db_cons (dp_set 10 sc_law.nd (de_ix (de_ix (de_var 2) (de_var 7)) de_int))
    (db_one (dp_for (vs := [11]) PassesOwn.never (di_range1 T.b_range de_int) (dg_name 11 sc_law.nd)
    (db_cons (dp_set 12 sc_law.nd (de_cal C_amount_at hr (by decide) (fun _ => passZ) (da_cons (de_var 3) (da_cons (de_var 7) (da_cons (de_var 5) da_nil)))))
    (db_cons (dp_if (DW.dt (dw_or (dt_val (de_isi (T := "bool") (by decide) T.b_isinstance T.b_bool (by decide +kernel) (de_var 12))) (dw_or (dt_not (dt_val (de_isi (T := "int") (by decide) T.b_isinstance T.b_int (by decide +kernel) (de_var 12)))) (dw_or1 (dt_ne (hu64 hr) (de_var 12) (de_cal C__law_worth hr (by decide) (fun _ => passZ) (da_cons (de_var 10) (da_cons (de_var 8) (da_cons (de_var 5) da_nil)))))))))
    (db_one (dp_ret de_bl))
    db_nil)
    (db_cons (dp_set 13 sc_law.nd (de_cal C__law_worth hr (by decide) (fun _ => passZ) (da_cons (de_var 10) (da_cons (de_var 8) (da_cons (de_ix (de_var 6) de_int) da_nil)))))
    (db_cons (dp_set 14 sc_law.nd (de_cal C__law_worth hr (by decide) (fun _ => passZ) (da_cons (de_var 10) (da_cons (de_var 8) (da_cons (de_ix (de_var 6) de_int) da_nil)))))
    (db_cons (dp_set 15 sc_law.nd (de_or (de_lt (de_var 13) (de_var 14)) (de_one (de_and (de_eq (hu64 hr) (de_ix (de_var 6) de_int) de_str) (de_one (de_eq (hu64 hr) (de_var 13) (de_var 14)))))))
    (db_cons (dp_set 16 sc_law.nd (de_cal C_sign_at hr (by decide) (fun _ => passZ) (da_cons (de_var 3) (da_cons (de_var 7) (da_cons (de_var 6) da_nil)))))
    (db_one (dp_if (DW.dt (dw_or (dt_not (dt_val (de_isi (T := "bool") (by decide) T.b_isinstance T.b_bool (by decide +kernel) (de_var 16)))) (dw_or (dt_ne (hu64 hr) (de_var 16) (de_var 15)) (dw_or1 (dt_ne (hu64 hr) (de_var 3) (de_var 2))))))
    (db_one (dp_ret de_bl))
    db_nil)))))))))))))))))))
    (db_one (dp_ret de_bl)))))), fun ds E P h => ?_⟩)
  obtain ⟨ns, rfl, hl, hb, hP⟩ := h
  have ll : ((ns.map PyData.int).length : Int) = ns.length := by rw [List.length_map]
  refine cut3 (fun δ => ∃ (t : List Nd) (c : Nat), Unf 40 t ∧ c ≤ 41 ∧ δ = [some (.sh (.list (ns.map PyData.int))), some (.ow (.lst [.int (c : Int)])), some (.sh (.list (t.map ndD))), some (.sh (.list (t.map ndD))), none, none, none, none, none, none, none, none, none, none, none, none, none]) (fun P' h => ⟨ns, 0, 20, rfl, hl, hb, by decide, by decide, by decide, fun u k2 hu hlu hk2 => h _ ⟨u, k2, hu, by omega, rfl⟩⟩) ?_
  rintro δ ⟨t, c0, ht, hc0, rfl⟩
  have hpre := ht.toPre
  have l1 := hpre.l1
  have lm := hpre.lm
  have q1 := Int.ediv_nonneg (show (0 : Int) ≤ ((ns.map PyData.int).length : Int) by omega) (show (0 : Int) ≤ 3 by decide)
  have q2 : ((ns.map PyData.int).length : Int) / 3 ≤ 21 := by omega
  refine ⟨(by decide : Bt 31 3).cd (by decide) (by decide), ⟨by omega, by omega⟩, ?_⟩
  refine forK_nat (fun j δ => ∃ (c : Nat) (a4 a5 a6 a7 a8 a9 a10 a11 a12 a13 a14 a15 a16 : Option Sl), c ≤ 41 + 100 * j ∧ (notIo a4 = true ∧ notIo a5 = true ∧ notIo a6 = true ∧ notIo a7 = true ∧ notIo a8 = true ∧ notIo a9 = true ∧ notIo a10 = true ∧ notIo a11 = true ∧ notIo a12 = true ∧ notIo a13 = true ∧ notIo a14 = true ∧ notIo a15 = true ∧ notIo a16 = true) ∧ δ = [some (.sh (.list (ns.map PyData.int))), some (.ow (.lst [.int (c : Int)])), some (.sh (.list (t.map ndD))), some (.sh (.list (t.map ndD))), a4, a5, a6, a7, a8, a9, a10, a11, a12, a13, a14, a15, a16]) ?_ ?_ _ ⟨c0, none, none, none, none, none, none, none, none, none, none, none, none, none, by omega, ⟨rfl, rfl, rfl, rfl, rfl, rfl, rfl, rfl, rfl, rfl, rfl, rfl, rfl⟩, rfl⟩
  · rintro δ ⟨c, a4, a5, a6, a7, a8, a9, a10, a11, a12, a13, a14, a15, a16, hc, _, rfl⟩
    exact hP
  · rintro j i δ hj ⟨c, a4, a5, a6, a7, a8, a9, a10, a11, a12, a13, a14, a15, a16, hc, ⟨h4, h5, h6, h7, h8, h9, h10, h11, h12, h13, h14, h15, h16⟩, rfl⟩ F hF
    obtain ⟨rfl, hj⟩ := range_get hj
    have hi : i < 40 := by omega
    refine nameG_of h4 ?_
    refine cut2 (fun δ => ∃ (a : Amt) (c2 : Nat), a.ok ∧ a.parts ≤ 10 ∧ c2 ≤ c + 20 ∧ δ = [some (.sh (.list (ns.map PyData.int))), some (.ow (.lst [.int (c2 : Int)])), some (.sh (.list (t.map ndD))), some (.sh (.list (t.map ndD))), some (.sh (.int (0 + (i : Int)))), some (.sh (amtD a)), a6, a7, a8, a9, a10, a11, a12, a13, a14, a15, a16]) ?_ ?_
    · intro P' h
      refine ⟨ns, c, rfl, hl, hb, by omega, fun v v0 v1 => ?_⟩
      refine ⟨(by show (0 : Int) < _; decide), ns, c + 1, 1 + v % 10, rfl, hl, hb, by omega, by omega, by omega, fun a k2 ha pa hk2 => ?_⟩
      refine setK_of h5 ?_
      refine ⟨ns, k2, rfl, hl, hb, by omega, fun w w0 w1 => ?_⟩
      refine ⟨(by show (0 : Int) < _; decide), ?_⟩
      refine bif_eqi (fun z => ?_) (fun z => ?_)
      · refine ⟨ns, k2 + 1, 4, rfl, hl, hb, by omega, by decide, by decide, fun a2 k3 ha2 pa2 hk3 => ?_⟩
        exact h _ ⟨a2, k3, ha2, by omega, by omega, rfl⟩
      · exact h _ ⟨a, k2 + 1, ha, by omega, by omega, rfl⟩
    · rintro δ ⟨a, c2, ha, pa, hc2, rfl⟩
      refine cut3 (fun δ => ∃ (s : Sgn) (nd : Nat) (c3 : Nat), s.ok ∧ s.parts ≤ 7 ∧ nd < t.length ∧ c3 ≤ c2 + 10 ∧ δ = [some (.sh (.list (ns.map PyData.int))), some (.ow (.lst [.int (c3 : Int)])), some (.sh (.list (t.map ndD))), some (.sh (.list (t.map ndD))), some (.sh (.int (0 + (i : Int)))), some (.sh (amtD a)), some (.sh (sgnD s)), some (.sh (.int (nd : Int))), some (.sh (.int 0)), a9, a10, a11, a12, a13, a14, a15, a16]) ?_ ?_
      · intro P' h
        refine ⟨ns, c2, rfl, hl, hb, by omega, fun s k2 hs ps hk2 => ?_⟩
        refine setK_of h6 ?_
        refine ⟨ns, k2, rfl, hl, hb, by omega, fun v v0 v1 => ?_⟩
        have m0 := Int.emod_nonneg v (show (t.length : Int) ≠ 0 by omega)
        have m1 := Int.emod_lt_of_pos v (show 0 < (t.length : Int) by omega)
        have et : ((t.map ndD).length : Int) = t.length := by rw [List.length_map]
        refine ⟨by omega, ?_⟩
        rw [et]
        refine setK_of h7 ?_
        refine setK_of h8 ?_
        refine h _ ⟨s, (v % (t.length : Int)).toNat, k2 + 1, hs, ps, by omega, by omega, ?_⟩
        rw [show (((v % (t.length : Int)).toNat : Nat) : Int) = v % (t.length : Int) by omega]
        rfl
      · rintro δ ⟨s, nd, c3, hs, ps, hnd, hc3, rfl⟩
        obtain ⟨n, hn⟩ : ∃ n, t[nd]? = some n := ⟨_, List.getElem?_eq_getElem hnd⟩
        have pn := prc_get hn
        refine cut3 (fun δ => ∃ a9 : Option Sl, notIo a9 = true ∧ δ = [some (.sh (.list (ns.map PyData.int))), some (.ow (.lst [.int (c3 : Int)])), some (.sh (.list (t.map ndD))), some (.sh (.list (t.map ndD))), some (.sh (.int (0 + (i : Int)))), some (.sh (amtD a)), some (.sh (sgnD s)), some (.sh (.int (nd : Int))), some (.sh (.int (tm t nd : Nat))), a9, some (.sh (.int (prc t nd))), a11, a12, a13, a14, a15, a16]) ?_ ?_
        · intro P' h
          refine setK_of h9 ?_
          refine ⟨fun m δ => ∃ (j f : Nat), δ = [some (.sh (.list (ns.map PyData.int))), some (.ow (.lst [.int (c3 : Int)])), some (.sh (.list (t.map ndD))), some (.sh (.list (t.map ndD))), some (.sh (.int (0 + (i : Int)))), some (.sh (amtD a)), some (.sh (sgnD s)), some (.sh (.int (nd : Int))), some (.sh (.int (f : Int))), some (.sh (.int (j : Int))), a10, a11, a12, a13, a14, a15, a16] ∧ j = m ∧ j < t.length ∧ f + tm t j = tm t nd, ⟨nd, nd, 0, rfl, rfl, hnd, by omega⟩, ?_⟩
          rintro m δ ⟨j, f, rfl, rfl, hj, hf⟩
          obtain ⟨n', hn'⟩ : ∃ n, t[j]? = some n := ⟨_, List.getElem?_eq_getElem hj⟩
          refine optK_some (nd_at hn') ?_
          have ep := par_get hn'
          cases e : n'.1 with
          | none =>
            have e2 : ndD n' = .tuple [.none, .int n'.2] := by unfold ndD; rw [e]; rfl
            rw [e2]
            rw [tm_none (ep.trans e)] at hf
            have : f = tm t nd := by omega
            subst this
            refine optK_some (nd_at hn) ?_
            refine setK_of h10 ?_
            rw [pn] at h
            exact h _ ⟨some (.sh (.int (j : Int))), rfl, rfl⟩
          | some b =>
            have e2 : ndD n' = .tuple [.int (b : Int), .int n'.2] := by unfold ndD; rw [e]; rfl
            have hb' := par_lt hpre.ord (ep.trans e)
            rw [tm_some hpre.ord (ep.trans e)] at hf
            rw [e2]
            refine optK_some (nd_at hn') ?_
            rw [e2]
            exact ⟨b, hb', b, f + 1, by rfl, rfl, by omega, by omega⟩
        · rintro δ ⟨b9, h9, rfl⟩
          have bp : Bt 30 (prc t nd) := by
            rw [pn]
            have := hpre.pr nd n hn
            exact Bt.of_lt (by omega) (by omega)
          have bt : Bt 30 (tm t nd : Int) := by
            have := hpre.tm nd hnd
            exact Bt.of_lt (by omega) (by omega)
          obtain ⟨u, x, y⟩ := s
          have es : (Sgn.mk u x y).parts = 1 + x.parts + y.parts := rfl
          have px := Amt.pos x
          have py := Amt.pos y
          have dl := Amt.deep_lt a
          have dx := Amt.deep_lt x
          have dy := Amt.deep_lt y
          have e2 : (Sgn.mk u x y).deep = max x.deep y.deep := rfl
          refine ⟨⟨by decide, by decide⟩, ?_⟩
          refine forK_nat (xs := List.range 2) (g := fun i => PyData.int (0 + (i : Nat))) (fun j δ => ∃ (a11 a12 a13 a14 a15 a16 : Option Sl), (notIo a11 = true ∧ notIo a12 = true ∧ notIo a13 = true ∧ notIo a14 = true ∧ notIo a15 = true ∧ notIo a16 = true) ∧ δ = [some (.sh (.list (ns.map PyData.int))), some (.ow (.lst [.int (c3 : Int)])), some (.sh (.list (t.map ndD))), some (.sh (.list (t.map ndD))), some (.sh (.int (0 + (i : Int)))), some (.sh (amtD a)), some (.sh (sgnD (.mk u x y))), some (.sh (.int (nd : Int))), some (.sh (.int (tm t nd : Nat))), b9, some (.sh (.int (prc t nd))), a11, a12, a13, a14, a15, a16]) ?_ ?_ _ ⟨a11, a12, a13, a14, a15, a16, ⟨h11, h12, h13, h14, h15, h16⟩, rfl⟩
          · rintro δ ⟨a11, a12, a13, a14, a15, a16, ⟨h11, h12, h13, h14, h15, h16⟩, rfl⟩
            exact hF _ ⟨c3, _, _, _, _, _, _, _, _, _, _, _, _, _, by omega, ⟨rfl, rfl, rfl, rfl, rfl, h9, rfl, h11, h12, h13, h14, h15, h16⟩, rfl⟩
          · rintro j2 i2 δ hj2 ⟨a11, a12, a13, a14, a15, a16, ⟨h11, h12, h13, h14, h15, h16⟩, rfl⟩ F2 hF2
            refine nameG_of h11 ?_
            refine ⟨t, nd, a, rfl, hpre, hnd, ha, by omega, by omega, ?_⟩
            refine setK_of h12 ?_
            refine ⟨prc t nd, (tm t nd : Nat), a, rfl, ha, bp, bt, by omega, ?_⟩
            refine bif_nei (fun z => absurd rfl z) (fun _ => ?_)
            have fin : ∀ q : Bool, q = (Sgn.mk u x y).holds (prc t nd) (tm t nd) → seqR (setR 16 (callR S_sign_at (consA (varR 3) (consA (varR 7) (consA (varR 6) nilA))))) (ifS (orT (notT (valT (isiR "bool" (varR 16)))) (orT (valT (opR neD (varR 16) (varR 15))) (valT (opR neD (varR 3) (varR 2))))) (retR (cR (.bool false))) nxR)
                [some (.sh (.list (ns.map PyData.int))), some (.ow (.lst [.int (c3 : Int)])), some (.sh (.list (t.map ndD))), some (.sh (.list (t.map ndD))), some (.sh (.int (0 + (i : Int)))), some (.sh (amtD a)), some (.sh (sgnD (.mk u x y))), some (.sh (.int (nd : Int))), some (.sh (.int (tm t nd : Nat))), b9, some (.sh (.int (prc t nd))), some (.sh (.int (0 + (i2 : Int)))), some (.sh (.int (a.val (prc t nd) (tm t nd)))), some (.sh (.int (x.val (prc t nd) (tm t nd)))), some (.sh (.int (y.val (prc t nd) (tm t nd)))), some (.sh (.bool q)), a16] E0K (foK F2 (foK F (retK P))) := by
              rintro q rfl
              refine ⟨t, nd, .mk u x y, rfl, hpre, hnd, hs, by omega, by omega, ?_⟩
              refine setK_of h16 ?_
              refine bif_false (by rw [eqv_bl]; simp) ?_
              refine ⟨⟨shaped_tr _, shaped_tr _⟩, ?_⟩
              rw [eqv_self _ (shaped_parts (shaped_tr t)).1]
              exact hF2 _ ⟨_, _, _, _, _, _, ⟨rfl, rfl, rfl, rfl, rfl, rfl⟩, rfl⟩
            cases u with
            | false =>
              refine ⟨_, _, _, rfl, hs.1, bp, bt, by omega, setK_of h13 ⟨_, _, _, rfl, hs.2, bp, bt, by omega, setK_of h14 ?_⟩⟩
              refine bif_dec (fun z => ?_) (fun z => ?_)
              · exact setK_of h15 (fin true (decide_eq_true z).symm)
              · exact setK_of h15 (fin false (decide_eq_false z).symm)
            | true =>
              refine ⟨_, _, _, rfl, hs.1, bp, bt, by omega, setK_of h13 ⟨_, _, _, rfl, hs.2, bp, bt, by omega, setK_of h14 ?_⟩⟩
              refine bif_dec (fun z => ?_) (fun z => ?_)
              · have z : x.val (prc t nd) (tm t nd) < y.val (prc t nd) (tm t nd) := z
                exact setK_of h15 (fin true (decide_eq_true (by omega)).symm)
              · have z : ¬ x.val (prc t nd) (tm t nd) < y.val (prc t nd) (tm t nd) := z
                refine setK_of h15 ?_
                rw [eqv_int]
                exact fin _ (decide_eq (by omega))
end
end KX
namespace KX
open PySem PySem.Spec PyProof.Rows L2 DL
def dd (x : Str) (i : Nat) : He.DefD := ⟨(x, none), x, x, defArgs (top i), defBody (top i), defScope (top i), [], []⟩
def fn : List He.DefD := [dd "time_of" 1, dd "amount_at" 3, dd "sign_at" 4, dd "_law_cell_at" 6, dd "_law_cell" 7, dd "_law_price" 8, dd "_law_tree" 9, dd "_law_fair" 10, dd "_law_amount" 11, dd "_law_sign" 12, dd "_law_worth" 13, dd "_law_product" 14, dd "law" 15]
def fa : List He.Fa := [.glo "time_of", .glo "amount_at", .glo "sign_at", .glo "_law_cell_at", .glo "_law_cell", .glo "_law_price", .glo "_law_tree", .glo "_law_fair", .glo "_law_amount", .glo "_law_sign", .glo "_law_worth", .glo "_law_product", .glo "law", .free "min", .free "max", .free "len", .free "range", .free "isinstance", .free "tuple", .free "sorted", .free "int", .free "list", .free "bool"]
def ex (K : PySem.W.Frag) : Bool := true
abbrev R : PySem.W.OpenRow := PySem.W.OpenLaw.row PySem.Challenge.rw_hedgewright_k03_amounts_and_signs
abbrev hk : PySem.W.Hook := hookM 4 fa fn ex
def ob (s : PySem.W.SharedT) : AlM := obsMG 4 fa fn ex (HandSHeadRun.getT s)
theorem ob_eq (s : PySem.W.SharedT) : ob s = hk.obs s.abs := obsMG_eq (HandSHeadRun.getT_eq s)
theorem run (w : World) : HandSHeadRun.RunEq R (PySem.W.view R.prog [15]) hk ob 5000 ["time_of", "amount_at", "sign_at", "_law_cell_at", "_law_cell", "_law_price", "_law_tree", "_law_fair", "_law_amount", "_law_sign", "_law_worth", "_law_product"] w := by
  intro os
  kernel_rfl
theorem facts {P : Program} {w : World} {K : PySem.W.Frag} {h : Heap} {mg : Str → Option Value} {f : Addr} (X : K.In h) (G : h.Ns mainGlobals mg) (hfa : mg ("law" : Str) = some (.ref f)) (c : SaysM fa fn ex K) :
    ∃ fd : FuncData, (∀ (s : Shared) (v : Value), BindsTo s fd ⟨[v], []⟩ [("_law_script", v)]) ∧ ∀ base : Heap, K.In base → base.Ns mainGlobals mg → FnOk P w K mg base CX0 14 f fd ["_law_script"] (spD K (lawS 63)) := by
  obtain ⟨fd_time_of, F_time_of⟩ := c.d.def_ 0 (d := dd "time_of" 1) rfl
  have A_time_of : DefAt K mg "time_of" st_time_of ["tree", "node"] := defAt F_time_of (He.glo_ok X G (c.d.fact 0 (f := .glo "time_of") rfl)) (fun _ _ _ _ _ _ us hl => match us, hl with | [_, _], _ => rfl)
  obtain ⟨fd_amount_at, F_amount_at⟩ := c.d.def_ 1 (d := dd "amount_at" 3) rfl
  have A_amount_at : DefAt K mg "amount_at" st_amount_at ["tree", "node", "amount"] := defAt F_amount_at (He.glo_ok X G (c.d.fact 1 (f := .glo "amount_at") rfl)) (fun _ _ _ _ _ _ us hl => match us, hl with | [_, _, _], _ => rfl)
  obtain ⟨fd_sign_at, F_sign_at⟩ := c.d.def_ 2 (d := dd "sign_at" 4) rfl
  have A_sign_at : DefAt K mg "sign_at" st_sign_at ["tree", "node", "sign"] := defAt F_sign_at (He.glo_ok X G (c.d.fact 2 (f := .glo "sign_at") rfl)) (fun _ _ _ _ _ _ us hl => match us, hl with | [_, _, _], _ => rfl)
  obtain ⟨fd__law_cell, F__law_cell⟩ := c.d.def_ 4 (d := dd "_law_cell" 7) rfl
  have A__law_cell : DefAt K mg "_law_cell" st__law_cell ["_law_cells", "_law_spot"] := defAt F__law_cell (He.glo_ok X G (c.d.fact 4 (f := .glo "_law_cell") rfl)) (fun _ _ _ _ _ _ us hl => match us, hl with | [_, _], _ => rfl)
  obtain ⟨fd__law_price, F__law_price⟩ := c.d.def_ 5 (d := dd "_law_price" 8) rfl
  have A__law_price : DefAt K mg "_law_price" st__law_price ["_law_n", "_law_low", "_law_high"] := defAt F__law_price (He.glo_ok X G (c.d.fact 5 (f := .glo "_law_price") rfl)) (fun _ _ _ _ _ _ us hl => match us, hl with | [_, _, _], _ => rfl)
  obtain ⟨fd__law_tree, F__law_tree⟩ := c.d.def_ 6 (d := dd "_law_tree" 9) rfl
  have A__law_tree : DefAt K mg "_law_tree" st__law_tree ["_law_cells", "_law_spot", "_law_most"] := defAt F__law_tree (He.glo_ok X G (c.d.fact 6 (f := .glo "_law_tree") rfl)) (fun _ _ _ _ _ _ us hl => match us, hl with | [_, _, _], _ => rfl)
  obtain ⟨fd__law_fair, F__law_fair⟩ := c.d.def_ 7 (d := dd "_law_fair" 10) rfl
  have A__law_fair : DefAt K mg "_law_fair" st__law_fair ["_law_tree_here", "_law_great"] := defAt F__law_fair (He.glo_ok X G (c.d.fact 7 (f := .glo "_law_fair") rfl)) (fun _ _ _ _ _ _ us hl => match us, hl with | [_, _], _ => rfl)
  obtain ⟨fd__law_amount, F__law_amount⟩ := c.d.def_ 8 (d := dd "_law_amount" 11) rfl
  have A__law_amount : DefAt K mg "_law_amount" st__law_amount ["_law_cells", "_law_spot", "_law_most"] := defAt F__law_amount (He.glo_ok X G (c.d.fact 8 (f := .glo "_law_amount") rfl)) (fun _ _ _ _ _ _ us hl => match us, hl with | [_, _, _], _ => rfl)
  obtain ⟨fd__law_sign, F__law_sign⟩ := c.d.def_ 9 (d := dd "_law_sign" 12) rfl
  have A__law_sign : DefAt K mg "_law_sign" st__law_sign ["_law_cells", "_law_spot"] := defAt F__law_sign (He.glo_ok X G (c.d.fact 9 (f := .glo "_law_sign") rfl)) (fun _ _ _ _ _ _ us hl => match us, hl with | [_, _], _ => rfl)
  obtain ⟨fd__law_worth, F__law_worth⟩ := c.d.def_ 10 (d := dd "_law_worth" 13) rfl
  have A__law_worth : DefAt K mg "_law_worth" st__law_worth ["_law_price_here", "_law_time", "_law_amount_here"] := defAt F__law_worth (He.glo_ok X G (c.d.fact 10 (f := .glo "_law_worth") rfl)) (fun _ _ _ _ _ _ us hl => match us, hl with | [_, _, _], _ => rfl)
  obtain ⟨fd__law_product, F__law_product⟩ := c.d.def_ 11 (d := dd "_law_product" 14) rfl
  have A__law_product : DefAt K mg "_law_product" st__law_product ["_law_cells", "_law_spot", "_law_parts"] := defAt F__law_product (He.glo_ok X G (c.d.fact 11 (f := .glo "_law_product") rfl)) (fun _ _ _ _ _ _ us hl => match us, hl with | [_, _, _], _ => rfl)
  obtain ⟨fd_law, F_law⟩ := c.d.def_ 12 (d := dd "law" 15) rfl
  have A_law : DefAt K mg "law" st_law ["_law_script"] := defAt F_law (He.glo_ok X G (c.d.fact 12 (f := .glo "law") rfl)) (fun _ _ _ _ _ _ us hl => match us, hl with | [_], _ => rfl)
  have T : Top K mg := { b_min := He.free_ok X G (c.d.fact 13 (f := .free "min") rfl), b_max := He.free_ok X G (c.d.fact 14 (f := .free "max") rfl), b_len := He.free_ok X G (c.d.fact 15 (f := .free "len") rfl), b_range := He.free_ok X G (c.d.fact 16 (f := .free "range") rfl), b_isinstance := He.free_ok X G (c.d.fact 17 (f := .free "isinstance") rfl), b_tuple := He.free_ok X G (c.d.fact 18 (f := .free "tuple") rfl), b_sorted := He.free_ok X G (c.d.fact 19 (f := .free "sorted") rfl), b_int := He.free_ok X G (c.d.fact 20 (f := .free "int") rfl), b_list := He.free_ok X G (c.d.fact 21 (f := .free "list") rfl), b_bool := He.free_ok X G (c.d.fact 22 (f := .free "bool") rfl) }
  have e := hfa.symm.trans (He.glo_ok X G (c.d.fact 12 (f := .glo "law") rfl))
  cases e
  have b := FunD.bindsA (ps := ["_law_script"]) F_law fun _ _ _ _ _ _ us hl => match us, hl with | [_], _ => rfl
  refine ⟨fd_law, fun s v => b s [v] rfl, fun base _ _ => ?_⟩
  have C_time_of : CalD P w K mg base CX0 1 "time_of" ["tree", "node"] S_time_of := ok_time_of T A_time_of 
  have C_amount_at : CalD P w K mg base CX0 12 "amount_at" ["tree", "node", "amount"] (S_amount_at 10) := ok_amount_at T A_amount_at C_time_of 10
  have C_sign_at : CalD P w K mg base CX0 13 "sign_at" ["tree", "node", "sign"] S_sign_at := ok_sign_at T A_sign_at C_amount_at
  have C__law_cell : CalI P w K mg base CX0 1 "_law_cell" ["_law_cells", "_law_spot"] [1] S__law_cell := ok__law_cell T A__law_cell 
  have C__law_price : CalD P w K mg base CX0 1 "_law_price" ["_law_n", "_law_low", "_law_high"] S__law_price := ok__law_price T A__law_price 
  have C__law_fair : CalD P w K mg base CX0 1 "_law_fair" ["_law_tree_here", "_law_great"] S__law_fair := ok__law_fair T A__law_fair 
  have C__law_tree : CalI P w K mg base CX0 2 "_law_tree" ["_law_cells", "_law_spot", "_law_most"] [1] S__law_tree := ok__law_tree T A__law_tree C__law_cell C__law_fair C__law_price
  have C__law_amount : CalI P w K mg base CX0 12 "_law_amount" ["_law_cells", "_law_spot", "_law_most"] [1] (S__law_amount 10) := ok__law_amount T A__law_amount C__law_cell 10
  have C__law_sign : CalI P w K mg base CX0 13 "_law_sign" ["_law_cells", "_law_spot"] [1] S__law_sign := ok__law_sign T A__law_sign C__law_cell C__law_amount
  have C__law_worth : CalD P w K mg base CX0 1 "_law_worth" ["_law_price_here", "_law_time", "_law_amount_here"] S__law_worth := ok__law_worth T A__law_worth 
  have C__law_product : CalI P w K mg base CX0 2 "_law_product" ["_law_cells", "_law_spot", "_law_parts"] [1] S__law_product := ok__law_product T A__law_product C__law_cell
  exact law_fn (st := st_law) F_law (ok_law T A_law C__law_tree C__law_amount C__law_sign C__law_product C__law_cell C_amount_at C__law_worth C_sign_at) (He.glo_ok X G (c.d.fact 12 (f := .glo "law") rfl))
end KX
open PySem PySem.W PySem.Calls PyProof.Rows
theorem PySem.Challenge.cw_hedgewright_k03_amounts_and_signs_holds : PySem.Challenge.rw_hedgewright_k03_amounts_and_signs.Holds := by
  w_on; o_law
  refine HandSHeadRun.head_any (r := OpenLaw.row PySem.Challenge.rw_hedgewright_k03_amounts_and_signs) (q := view (OpenLaw.row PySem.Challenge.rw_hedgewright_k03_amounts_and_signs).prog [15]) (H := KX.hk) (ob := KX.ob) (M := 5000) (loose := ["time_of", "amount_at", "sign_at", "_law_cell_at", "_law_cell", "_law_price", "_law_tree", "_law_fair", "_law_amount", "_law_sign", "_law_worth", "_law_product"]) (d := HandSHeadRun.topDef (OpenLaw.row PySem.Challenge.rw_hedgewright_k03_amounts_and_signs).prog 15) (kwd := []) KX.ob_eq
    (by kernel_rfl) (fun s => by kernel_rfl) KX.run (by kernel_rfl) (by kernel_rfl) (by kernel_rfl) (by rfl) (by first | assumption | decide +kernel) (by decide +kernel) ⟨rfl, rfl, rfl, rfl, rfl, by decide +kernel⟩ ?hw ?hc
  case hw => w_witness2
  case hc =>
    refine DL.walk_D (l := PySem.Challenge.rw_hedgewright_k03_amounts_and_signs) (n := 63) (k := 14) (x := "_law_script") (CX := L2.CX0) rfl (by decide) (by kernel_rfl) ⟨rfl, by decide, by decide⟩ ?F (fun _ _ _ _ z => z)
    intro w mg fa h Y G hmg0
    obtain ⟨K, KI, c⟩ := Y
    have hmg : mg ("law" : PySem.Str) = some (.ref fa) := by
      have e : (HandSHeadRun.topDef (OpenLaw.row PySem.Challenge.rw_hedgewright_k03_amounts_and_signs).prog 15).name = ("law" : PySem.Str) := by kernel_rfl
      rw [← e]
      exact hmg0
    obtain ⟨fd, hb, hF⟩ := KX.facts (P := (PySem.Challenge.rw_hedgewright_k03_amounts_and_signs).prog) (w := w) KI G hmg c
    exact ⟨K, fd, KI, c.no, hb, hF⟩
namespace KX
open PySem PySem.Spec PyProof.Rows L2 DL
section
variable {P : Program} {w : World} {K : PySem.W.Frag} {mg : Str → Option Value} {base : Heap}
end
end KX
